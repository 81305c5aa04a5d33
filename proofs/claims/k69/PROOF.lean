import PyProof.Rows.All
import Wide.All
import OpenK.AllK
import Wide.FinOn
import KE.KStateDown
import KE.KIsAll
import KE.KTryMore
import KE.KSuper
import HandS.Base
import HandS.Call
import HandS.Ends
import HandS.More
import HandS.Words
import HandS.WordsExc
import HandS.Defaults
import HandS.ClsMeth
import HandS.ExcField
import HandS.ExcIs
import HandS.ExcInit
import HandS.Head0
import HandS.Head1
import HandS.Head2
import HandS.Head3
import HandS.HeadEnd
import HandS.HeadHook1
import HandS.HeadHook2
import HandS.HeadHook3
import HandS.ForMost
import HandS.ForExc
import HandS.Conv
import HandS.Zip
import HandS.IsInst
import HandS.Gcd
import HandS.Wide
import HandS.Star
import HandS.MakeKwOnly
import HandS.TryMany
import HandS.TupAny
import KE.GoesMore
import KE.GoesEnum
import KE.GoesZip
import HandS.Codes
import HandS.StrMore
import HandS.TupMul
import HandS.Sort
import HandS.OwnEq
import HandS.ExcSuper
import KE.KExcSuper
import KE.KExcIs
import KE.KCallOwn
import HandS.HeadWalk
import PySem.Challenge.RW_steelyard_k69_state_chances_by_rows_and
set_option Elab.async false
set_option linter.all false
set_option maxRecDepth 100000
set_option maxHeartbeats 0
/-! SYH1: a hook of my own: what it looks at, by a short road; own exception classes with a __class__ cell. -/
namespace SYH
open PySem PySem.Spec PyProof.Rows L2 He
def refS (o : Obj) : List Addr := match o.data with
  | .func fd => refV fd.code ++ (refV fd.defaults ++ (refV fd.kwdefaults ++ fd.closure.map (·.2)))
  | .cls cd => [cd.ns]
  | .seq its _ => its.toList.flatMap refV
  | .dict es _ => es.toList.flatMap fun e => refV e.val
  | _ => []
def stS (g : Addr → Option Obj) (as : List Addr) : List Addr := as.flatMap fun a => match g a with
  | some o => refS o
  | none => []
def as2 (g : Addr → Option Obj) (l1 : List Addr) (l2 : List Addr) (l3 : List Addr) : List Addr := mainGlobals :: cStatics :: (l1 ++ (l2 ++ (l3 ++ stS g l3)))
def as1 (g : Addr → Option Obj) (l1 : List Addr) (l2 : List Addr) : List Addr := as2 g l1 l2 (stS g l2)
def as0 (g : Addr → Option Obj) (l1 : List Addr) : List Addr := as1 g l1 (stS g l1)
def asS (g : Addr → Option Obj) : List Addr := as0 g (stS g [mainGlobals])
/-- a def with a closure -/
abbrev FnC : Type := Option (Str × Str × Arguments × FuncBody × Scope × Addr × List Str × Addr)
def fnC (K : PySem.W.Frag) (p : Str × Option Str) : FnC := match K.lookup (fAd K p) with
  | some ⟨_, _, .func fd, _⟩ => some (fd.name, fd.qualname, fd.params, fd.body, fd.scope, fd.globals, fd.closure.map (·.1), fd.builtins)
  | _ => none
def valX (d : DefD) : FnC := some (d.name, d.qual, d.params, .stmts d.body, d.scope, mainGlobals, ["__class__"], builtinsNs)
abbrev AlC : Type := Bool × List FnW × List FnC
def obsC (chk : PySem.W.Frag → Bool) (fn ex : List DefD) (K : PySem.W.Frag) : AlC := (chk K && fn.all fun d => d.ok K, fn.map fun d => fnW K d.at_, ex.map fun d => fnC K d.at_)
def valC (fn ex : List DefD) : AlC := (true, fn.map DefD.val, ex.map valX)
def obsCG (chk : PySem.W.Frag → Bool) (fn ex : List DefD) (g : Addr → Option Obj) : AlC := obsC chk fn ex (frG g (asS g))
def hookC (chk : PySem.W.Frag → Bool) (fn ex : List DefD) : PySem.W.Hook where
  α := AlC
  obs := fun s => obsCG chk fn ex s.heap.get?
  val := fun _ => valC fn ex
  says := fun _ h => ∃ K : PySem.W.Frag, K.In h ∧ obsC chk fn ex K = valC fn ex
  of := fun _ _ e => ⟨_, frG_in, e⟩
  keeps := fun _ _ _ ⟨K, hK, c⟩ k => ⟨K, PySem.W.Frag.In.keeps hK k, c⟩
theorem obsCG_eq {chk : PySem.W.Frag → Bool} {fn ex : List DefD} {g : Addr → Option Obj} {s : Shared} (h : ∀ a, g a = s.heap.get? a) : obsCG chk fn ex g = (hookC chk fn ex).obs s := by
  have e : g = s.heap.get? := funext h
  rw [e] <;> rfl
/-! ### more facts -/
/-- the module's name x is a built-in -/
def bltB (x : Str) (id : String) (K : PySem.W.Frag) : Bool := eqO (PySem.W.nsIn K mainGlobals x) (some (some (.builtin id)))
/-- x.__init__ read off the class x -/
def iniB (x : Str) (K : PySem.W.Frag) : Bool := PySem.W.readsIn K (ga K x) (.type "type") && (decide (PySem.W.specialIn K (.ref (ga K x)) "__getattribute__" = some (some (.builtin "type.__getattribute__"))) &&
  match PySem.W.findCls K (.ref (ga K x)) (.type "type") "__init__" with
  | some (.val (.ref f)) => f == ma K (ga K x) "__init__"
  | _ => false)
/-- the class x has the method m of the class y -/
def inhB (x y m : Str) (K : PySem.W.Frag) : Bool := eqO (PySem.W.findIn K (.ref (ga K x)) m) (some (some (.ref (ma K (ga K y) m)))) && PySem.W.isFn K (.ref (ma K (ga K y) m))
def strAt2 (vs : Array Value) (fl : Str) : Bool := match (vs[2]? : Option Value) with
  | some (Value.str file _) => fl == file
  | _ => false
/-- the code of a def was written in this file -/
def fileIn (K : PySem.W.Frag) (cd : Value) (fl : Str) : Bool := match cd with
  | .ref c => (match K.lookup c with
    | some ⟨_, _, .fields vs, _⟩ => strAt2 vs fl
    | _ => false)
  | _ => false
def excB (K : PySem.W.Frag) (C : Addr) : Bool := (match K.lookup C with
  | some ⟨.type "type", _, .cls cd, sl⟩ => (match cd.mro, sl.toList with
    | .ref C' :: bm, [_, _, _, _, some (.builtin n), _] => C' == C && (n == "ValueError.__new__" && (!cd.hasDel && (cd.hasDict && PySem.HandSPX.refsVE bm)))
    | _, _ => false)
  | _ => false) && (eqO (PySem.W.findIn K (.ref C) "__setattr__") (some (some (.builtin "object.__setattr__"))) && (decide (PySem.W.subIn K (.ref C) (.type "BaseException") = some true) && (decide (PySem.W.typeIn K (.ref C) = some (.type "type")) && PySem.W.keepIn K (.ref C))))
/-- an own exception class x with such an __init__, its attribute f -/
def exkB (x f qual fl : Str) (K : PySem.W.Frag) : Bool := excB K (ga K x) && (eqO (PySem.W.findIn K (.ref (ga K x)) "__init__") (some (some (.ref (ma K (ga K x) "__init__")))) && (decide (PySem.W.typeIn K (.ref (ma K (ga K x) "__init__")) = some (.type "function")) &&
  ((match K.lookup (ma K (ga K x) "__init__") with
    | some ⟨_, _, .func fd, _⟩ => PySem.W.codeIn K fd.code qual && (fileIn K fd.code fl && ((match fd.defaults with
      | .none => true
      | _ => false) && (match fd.closure with
      | [(_, cc)] => (match K.lookup cc with
        | some ⟨_, _, .cell (some (.ref a)), _⟩ => a == ga K x
        | _ => false)
      | _ => false)))
    | _ => false) &&
  (eqO (PySem.W.ks_superIn K (ga K x) (ga K x) "__init__") (some (some (.builtin "ValueError.__init__"))) && (decide (PySem.W.subIn K (.ref (ga K x)) (.type "ValueError") = some true) && (eqO (PySem.W.nsIn K cStatics "thirdparty.any") (some none) && eqO (PySem.W.findIn K (.ref (ga K x)) f) (some none)))))))
/-- its instances' attributes may be read, isinstance asks them rightly -/
def exrB (x : Str) (K : PySem.W.Frag) : Bool := xfB K (ga K x) && (eqO (PySem.W.findIn K (.ref (ga K x)) "__class__") (some (some (.builtin "object.__class__"))) && (eqO (PySem.W.specialIn K (.builtin "object.__class__") "__get__") (some (some (.builtin "getset_descriptor.__get__"))) &&
  (decide (PySem.W.takesIn K (.builtin "object.__class__") = some true) && decide (PySem.W.mroIn K (ga K x) (.type "object") = some true))))
def exmB (x y : Str) (b : Bool) (K : PySem.W.Frag) : Bool := decide (PySem.W.exmOne K (.ref (ga K x)) (.ref (ga K y)) = some b)
def kitB' (x y : Str) (b : Bool) (K : PySem.W.Frag) : Bool := decide (PySem.W.kitOne K (.ref (ga K x)) (.ref (ga K y)) = some b)
def chkOf (fa : List Fa) (xs : List (PySem.W.Frag → Bool)) (K : PySem.W.Frag) : Bool := (fa.all fun f => f.ok K) && xs.all fun g => g K
end SYH
set_option Elab.async false
set_option linter.all false
set_option maxRecDepth 100000
set_option maxHeartbeats 0
namespace SY
open PySem
/-- the j-th statement of a class's body -/
def inCls (st : Stmt) (j : Nat) : Stmt := match st with
  | .ClassDef _ _ _ body _ _ _ _ _ _ _ => body.getD j (.Pass ⟨0, 0, 0, 0⟩)
  | _ => .Pass ⟨0, 0, 0, 0⟩
end SY
namespace K69
open PySem PySem.Spec PyProof.Rows L2 He SYH SY
def top (i : Nat) : Stmt := PySem.Challenge.pw_steelyard_k69_state_chances_by_rows_and.main.body.getD i (.Pass ⟨0, 0, 0, 0⟩)
def d0 : He.DefD := ⟨("is_alphabet", none), "is_alphabet", "is_alphabet", defArgs (top 17), defBody (top 17), defScope (top 17), [], []⟩
def d1 : He.DefD := ⟨("check_text", none), "check_text", "check_text", defArgs (top 18), defBody (top 18), defScope (top 18), [], []⟩
def d2 : He.DefD := ⟨("check_size", none), "check_size", "check_size", defArgs (top 20), defBody (top 20), defScope (top 20), [], []⟩
def d3 : He.DefD := ⟨("as_tuples", none), "as_tuples", "as_tuples", defArgs (top 21), defBody (top 21), defScope (top 21), [], []⟩
def d4 : He.DefD := ⟨("is_state", none), "is_state", "is_state", defArgs (top 22), defBody (top 22), defScope (top 22), [], []⟩
def d5 : He.DefD := ⟨("is_letter", none), "is_letter", "is_letter", defArgs (top 23), defBody (top 23), defScope (top 23), [], []⟩
def d6 : He.DefD := ⟨("is_arrow", none), "is_arrow", "is_arrow", defArgs (top 24), defBody (top 24), defScope (top 24), [], []⟩
def d7 : He.DefD := ⟨("ordered_arrows", none), "ordered_arrows", "ordered_arrows", defArgs (top 25), defBody (top 25), defScope (top 25), [], []⟩
def d8 : He.DefD := ⟨("arrow_table", none), "arrow_table", "arrow_table", defArgs (top 26), defBody (top 26), defScope (top 26), [], []⟩
def d9 : He.DefD := ⟨("weighted_places", none), "weighted_places", "weighted_places", defArgs (top 27), defBody (top 27), defScope (top 27), [], []⟩
def d10 : He.DefD := ⟨("Device", some "__init__"), "__init__", "Device.__init__", defArgs (inCls (top 28) 1), defBody (inCls (top 28) 1), defScope (inCls (top 28) 1), [.int 24], []⟩
def d11 : He.DefD := ⟨("Device", some "__len__"), "__len__", "Device.__len__", defArgs (inCls (top 28) 4), defBody (inCls (top 28) 4), defScope (inCls (top 28) 4), [], []⟩
def d12 : He.DefD := ⟨("ratio", none), "ratio", "ratio", defArgs (top 32), defBody (top 32), defScope (top 32), [.int 1], []⟩
def d13 : He.DefD := ⟨("_is_integer", none), "_is_integer", "_is_integer", defArgs (top 33), defBody (top 33), defScope (top 33), [], []⟩
def d14 : He.DefD := ⟨("is_fraction", none), "is_fraction", "is_fraction", defArgs (top 34), defBody (top 34), defScope (top 34), [], []⟩
def d15 : He.DefD := ⟨("add", none), "add", "add", defArgs (top 35), defBody (top 35), defScope (top 35), [], []⟩
def d16 : He.DefD := ⟨("multiply", none), "multiply", "multiply", defArgs (top 36), defBody (top 36), defScope (top 36), [], []⟩
def d17 : He.DefD := ⟨("divide", none), "divide", "divide", defArgs (top 37), defBody (top 37), defScope (top 37), [], []⟩
def d18 : He.DefD := ⟨("total", none), "total", "total", defArgs (top 38), defBody (top 38), defScope (top 38), [], []⟩
def d19 : He.DefD := ⟨("dot", none), "dot", "dot", defArgs (top 40), defBody (top 40), defScope (top 40), [], []⟩
def d20 : He.DefD := ⟨("Machine", some "__init__"), "__init__", "Machine.__init__", defArgs (inCls (top 42) 1), defBody (inCls (top 42) 1), defScope (inCls (top 42) 1), [], [("most", .int 24)]⟩
def d21 : He.DefD := ⟨("Machine", some "__call__"), "__call__", "Machine.__call__", defArgs (inCls (top 42) 3), defBody (inCls (top 42) 3), defScope (inCls (top 42) 3), [], []⟩
def d22 : He.DefD := ⟨("check_fractions", none), "check_fractions", "check_fractions", defArgs (top 43), defBody (top 43), defScope (top 43), [], []⟩
def d23 : He.DefD := ⟨("row_step", none), "row_step", "row_step", defArgs (top 47), defBody (top 47), defScope (top 47), [], []⟩
def d24 : He.DefD := ⟨("column_step", none), "column_step", "column_step", defArgs (top 48), defBody (top 48), defScope (top 48), [], []⟩
def d25 : He.DefD := ⟨("row_after", none), "row_after", "row_after", defArgs (top 49), defBody (top 49), defScope (top 49), [], []⟩
def d26 : He.DefD := ⟨("column_before", none), "column_before", "column_before", defArgs (top 50), defBody (top 50), defScope (top 50), [], []⟩
def d27 : He.DefD := ⟨("weight_of", none), "weight_of", "weight_of", defArgs (top 51), defBody (top 51), defScope (top 51), [], []⟩
def d28 : He.DefD := ⟨("from_matrices", none), "from_matrices", "from_matrices", defArgs (top 52), defBody (top 52), defScope (top 52), [], []⟩
def d29 : He.DefD := ⟨("left_cut", none), "left_cut", "left_cut", defArgs (top 54), defBody (top 54), defScope (top 54), [], []⟩
def d30 : He.DefD := ⟨("right_cut", none), "right_cut", "right_cut", defArgs (top 55), defBody (top 55), defScope (top 55), [], []⟩
def d31 : He.DefD := ⟨("is_chances", none), "is_chances", "is_chances", defArgs (top 57), defBody (top 57), defScope (top 57), [], []⟩
def d32 : He.DefD := ⟨("check_widths", none), "check_widths", "check_widths", defArgs (top 58), defBody (top 58), defScope (top 58), [], []⟩
def d33 : He.DefD := ⟨("check_chances", none), "check_chances", "check_chances", defArgs (top 59), defBody (top 59), defScope (top 59), [], []⟩
def d34 : He.DefD := ⟨("Hidden", some "__init__"), "__init__", "Hidden.__init__", defArgs (inCls (top 60) 0), defBody (inCls (top 60) 0), defScope (inCls (top 60) 0), [], []⟩
def d35 : He.DefD := ⟨("hidden_machine", none), "hidden_machine", "hidden_machine", defArgs (top 61), defBody (top 61), defScope (top 61), [], []⟩
def d36 : He.DefD := ⟨("forward_rows", none), "forward_rows", "forward_rows", defArgs (top 62), defBody (top 62), defScope (top 62), [], []⟩
def d37 : He.DefD := ⟨("backward_columns", none), "backward_columns", "backward_columns", defArgs (top 63), defBody (top 63), defScope (top 63), [], []⟩
def d38 : He.DefD := ⟨("state_chances", none), "state_chances", "state_chances", defArgs (top 64), defBody (top 64), defScope (top 64), [], []⟩
def d39 : He.DefD := ⟨("_law_box", none), "_law_box", "_law_box", defArgs (top 66), defBody (top 66), defScope (top 66), [], []⟩
def d40 : He.DefD := ⟨("_law_take", none), "_law_take", "_law_take", defArgs (top 67), defBody (top 67), defScope (top 67), [], []⟩
def d41 : He.DefD := ⟨("_law_gcd", none), "_law_gcd", "_law_gcd", defArgs (top 68), defBody (top 68), defScope (top 68), [], []⟩
def d42 : He.DefD := ⟨("_law_frac", none), "_law_frac", "_law_frac", defArgs (top 69), defBody (top 69), defScope (top 69), [], []⟩
def d43 : He.DefD := ⟨("_law_more", none), "_law_more", "_law_more", defArgs (top 70), defBody (top 70), defScope (top 70), [], []⟩
def d44 : He.DefD := ⟨("_law_times", none), "_law_times", "_law_times", defArgs (top 71), defBody (top 71), defScope (top 71), [], []⟩
def d45 : He.DefD := ⟨("_law_letters", none), "_law_letters", "_law_letters", defArgs (top 72), defBody (top 72), defScope (top 72), [], []⟩
def d46 : He.DefD := ⟨("_law_chances", none), "_law_chances", "_law_chances", defArgs (top 73), defBody (top 73), defScope (top 73), [], []⟩
def d47 : He.DefD := ⟨("_law_model", none), "_law_model", "_law_model", defArgs (top 74), defBody (top 74), defScope (top 74), [], []⟩
def d48 : He.DefD := ⟨("_law_picked", none), "_law_picked", "_law_picked", defArgs (top 75), defBody (top 75), defScope (top 75), [], []⟩
def d49 : He.DefD := ⟨("_law_text", none), "_law_text", "_law_text", defArgs (top 76), defBody (top 76), defScope (top 76), [], []⟩
def d50 : He.DefD := ⟨("_law_rows", none), "_law_rows", "_law_rows", defArgs (top 77), defBody (top 77), defScope (top 77), [], []⟩
def d51 : He.DefD := ⟨("_law_columns", none), "_law_columns", "_law_columns", defArgs (top 78), defBody (top 78), defScope (top 78), [], []⟩
def d52 : He.DefD := ⟨("_law_total", none), "_law_total", "_law_total", defArgs (top 79), defBody (top 79), defScope (top 79), [], []⟩
def d53 : He.DefD := ⟨("_law_due", none), "_law_due", "_law_due", defArgs (top 80), defBody (top 80), defScope (top 80), [], []⟩
def d54 : He.DefD := ⟨("_law_is_row", none), "_law_is_row", "_law_is_row", defArgs (top 81), defBody (top 81), defScope (top 81), [], []⟩
def d55 : He.DefD := ⟨("_law_ask", none), "_law_ask", "_law_ask", defArgs (top 82), defBody (top 82), defScope (top 82), [], []⟩
def d56 : He.DefD := ⟨("_law_right", none), "_law_right", "_law_right", defArgs (top 83), defBody (top 83), defScope (top 83), [], []⟩
def d57 : He.DefD := ⟨("_law_hidden", none), "_law_hidden", "_law_hidden", defArgs (top 84), defBody (top 84), defScope (top 84), [], []⟩
def d58 : He.DefD := ⟨("_law_kept", none), "_law_kept", "_law_kept", defArgs (top 85), defBody (top 85), defScope (top 85), [], []⟩
def d59 : He.DefD := ⟨("_law_cuts", none), "_law_cuts", "_law_cuts", defArgs (top 86), defBody (top 86), defScope (top 86), [], []⟩
def d60 : He.DefD := ⟨("_law_first_state", none), "_law_first_state", "_law_first_state", defArgs (top 87), defBody (top 87), defScope (top 87), [], []⟩
def d61 : He.DefD := ⟨("_law_split", none), "_law_split", "_law_split", defArgs (top 88), defBody (top 88), defScope (top 88), [], []⟩
def d62 : He.DefD := ⟨("_law_splits", none), "_law_splits", "_law_splits", defArgs (top 89), defBody (top 89), defScope (top 89), [], []⟩
def d63 : He.DefD := ⟨("_law_foreign", none), "_law_foreign", "_law_foreign", defArgs (top 90), defBody (top 90), defScope (top 90), [], []⟩
def d64 : He.DefD := ⟨("law", none), "law", "law", defArgs (top 91), defBody (top 91), defScope (top 91), [], []⟩
def fn0 : List (He.DefD) := [d0, d1, d2, d3, d4, d5, d6, d7, d8, d9, d10, d11, d12, d13, d14, d15, d16, d17, d18, d19, d20, d21, d22, d23, d24, d25, d26, d27, d28, d29]
def fn1 : List (He.DefD) := [d30, d31, d32, d33, d34, d35, d36, d37, d38, d39, d40, d41, d42, d43, d44, d45, d46, d47, d48, d49, d50, d51, d52, d53, d54, d55, d56, d57, d58, d59]
def fn2 : List (He.DefD) := [d60, d61, d62, d63, d64]
def fn : List (He.DefD) := fn0 ++ fn1 ++ fn2
def x0 : He.DefD := ⟨("BadText", some "__init__"), "__init__", "BadText.__init__", defArgs (inCls (top 9) 0), defBody (inCls (top 9) 0), defScope (inCls (top 9) 0), [], []⟩
def x1 : He.DefD := ⟨("Impossible", some "__init__"), "__init__", "Impossible.__init__", defArgs (inCls (top 14) 0), defBody (inCls (top 14) 0), defScope (inCls (top 14) 0), [], []⟩
def ex0 : List (He.DefD) := [x0, x1]
def ex : List (He.DefD) := ex0
def fa0 : List (He.Fa) := [.glo "is_alphabet", .glo "check_text", .glo "check_size", .glo "as_tuples", .glo "is_state", .glo "is_letter", .glo "is_arrow", .glo "ordered_arrows", .glo "arrow_table", .glo "weighted_places", .glo "ratio", .glo "_is_integer", .glo "is_fraction", .glo "add", .glo "multiply", .glo "divide", .glo "total", .glo "dot", .glo "check_fractions", .glo "row_step", .glo "column_step", .glo "row_after", .glo "column_before", .glo "weight_of", .glo "from_matrices", .glo "left_cut", .glo "right_cut", .glo "is_chances", .glo "check_widths", .glo "check_chances"]
def fa1 : List (He.Fa) := [.glo "hidden_machine", .glo "forward_rows", .glo "backward_columns", .glo "state_chances", .glo "_law_box", .glo "_law_take", .glo "_law_gcd", .glo "_law_frac", .glo "_law_more", .glo "_law_times", .glo "_law_letters", .glo "_law_chances", .glo "_law_model", .glo "_law_picked", .glo "_law_text", .glo "_law_rows", .glo "_law_columns", .glo "_law_total", .glo "_law_due", .glo "_law_is_row", .glo "_law_ask", .glo "_law_right", .glo "_law_hidden", .glo "_law_kept", .glo "_law_cuts", .glo "_law_first_state", .glo "_law_split", .glo "_law_splits", .glo "_law_foreign", .glo "law"]
def fa2 : List (He.Fa) := [.glo "Device", .glo "Machine", .glo "Hidden", .glo "BadText", .glo "Impossible", .glo "ZERO", .glo "ONE", .free "abs", .free "all", .free "any", .free "bool", .free "dict", .free "enumerate", .free "int", .free "isinstance", .free "len", .free "list", .free "max", .free "min", .free "range", .free "sorted", .free "str", .free "sum", .free "tuple", .free "zip", .free "super", .int "STATE_LIMIT" 24, .cls "Machine", .cls "Hidden", .mkr "Machine"]
def fa3 : List (He.Fa) := [.mkr "Hidden", .noat "Machine" "letters", .noat "Machine" "start", .noat "Machine" "end", .noat "Machine" "arrows", .noat "Machine" "_table", .noat "Machine" "_given", .noat "Hidden" "letters", .noat "Hidden" "first", .noat "Hidden" "moves", .noat "Hidden" "shows"]
def fa : List (He.Fa) := fa0 ++ fa1 ++ fa2 ++ fa3
def xs0 : List (PySem.W.Frag → Bool) := [bltB "gcd" "math.gcd", (fun K => He.tupB K "ZERO" [.int 0, .int 1]), (fun K => He.tupB K "ONE" [.int 1, .int 1]), iniB "Device", inhB "Machine" "Device" "__len__", inhB "Machine" "Machine" "__call__", exkB "BadText" "index" "BadText.__init__" "/claim/cut.py", exkB "Impossible" "text" "Impossible.__init__" "/claim/cut.py", exrB "BadText", exrB "Impossible", exmB "BadText" "BadText" true, exmB "Impossible" "BadText" false, exmB "Impossible" "Impossible" true, kitB' "BadText" "Impossible" false, kitB' "Impossible" "BadText" false]
def xs : List (PySem.W.Frag → Bool) := xs0
def lo0 : List (PySem.Str) := ["_wall", "__name__", "SteelyardError", "LimitError", "TooLarge", "ZeroBelow", "WrongWidth", "BadLetters", "BadText", "BadArrow", "BadWeight", "BadChance", "OtherLetters", "Impossible", "STATE_LIMIT", "is_alphabet", "check_text", "check_same_letters", "check_size", "as_tuples", "is_state", "is_letter", "is_arrow", "ordered_arrows", "arrow_table", "weighted_places", "Device", "ZERO", "ONE", "ratio"]
def lo1 : List (PySem.Str) := ["_is_integer", "is_fraction", "add", "multiply", "divide", "total", "dot", "Machine", "check_fractions", "sum_parts", "met_parts", "scaled_start", "row_step", "column_step", "row_after", "column_before", "weight_of", "from_matrices", "left_cut", "right_cut", "is_chances", "check_widths", "check_chances", "Hidden", "hidden_machine", "forward_rows", "backward_columns", "state_chances", "_law_box", "_law_take"]
def lo2 : List (PySem.Str) := ["_law_gcd", "_law_frac", "_law_more", "_law_times", "_law_letters", "_law_chances", "_law_model", "_law_picked", "_law_text", "_law_rows", "_law_columns", "_law_total", "_law_due", "_law_is_row", "_law_ask", "_law_right", "_law_hidden", "_law_kept", "_law_cuts", "_law_first_state", "_law_split", "_law_splits", "_law_foreign"]
def lo : List (PySem.Str) := lo0 ++ lo1 ++ lo2
abbrev Rw : PySem.W.OpenRow := PySem.W.OpenLaw.row PySem.Challenge.rw_steelyard_k69_state_chances_by_rows_and
abbrev hk : PySem.W.Hook := hookC (chkOf fa xs) fn ex
def ob (s : PySem.W.SharedT) : AlC := obsCG (chkOf fa xs) fn ex (HandSHeadRun.getT s)
theorem ob_eq (s : PySem.W.SharedT) : ob s = hk.obs s.abs := obsCG_eq (HandSHeadRun.getT_eq s)
abbrev qv : Program := PySem.W.view Rw.prog [0, 91]
theorem run (w : World) : HandSHeadRun.RunEqI Rw qv hk ob 20000 lo w := by
  unfold HandSHeadRun.RunEqI
  kernel_rfl
end K69
set_option Elab.async false
set_option linter.all false
set_option maxRecDepth 100000
set_option maxHeartbeats 4000000
/-! SY1: data, worlds, slots: a layer of my own over HandS (values as trees, lists that one slot owns). -/
namespace SY
open PySem PySem.Spec L2

/-! ### data -/
inductive D where
  | non | bl (b : Bool) | int (i : Int) | str (x : Str) | ref (a : Addr)
  | lst (l : List D) | tup (l : List D) | dic (l : List (Key × D)) | ins (C : Addr) (l : List (Str × D))

mutual
def R (K : PySem.W.Frag) (F : Hp) : D → V → Prop
  | .non, v => v = .non
  | .bl b, v => v = .bl b
  | .int i, v => v = .int i
  | .str x, v => v = .str x
  | .ref a, v => v = .ref a
  | .lst l, v => ∃ a xs, v = .ref a ∧ F a = some (.lst xs) ∧ RL K F l xs
  | .tup l, v => ∃ a xs, v = .ref a ∧ SqT K F a xs ∧ RL K F l xs
  | .dic l, v => ∃ a kvs, v = .ref a ∧ F a = some (.dK kvs) ∧ RD K F l kvs
  | .ins C l, v => ∃ a dx fs, v = .ref a ∧ F a = some (.ins C dx fs) ∧ RS K F l fs
def RL (K : PySem.W.Frag) (F : Hp) : List D → List V → Prop
  | [], vs => vs = []
  | d :: ds, vs => ∃ x xs, vs = x :: xs ∧ R K F d x ∧ RL K F ds xs
def RD (K : PySem.W.Frag) (F : Hp) : List (Key × D) → List (Key × V) → Prop
  | [], vs => vs = []
  | (k, d) :: ds, vs => ∃ x xs, vs = (k, x) :: xs ∧ R K F d x ∧ RD K F ds xs
def RS (K : PySem.W.Frag) (F : Hp) : List (Str × D) → List (Str × V) → Prop
  | [], vs => vs = []
  | (k, d) :: ds, vs => ∃ x xs, vs = (k, x) :: xs ∧ R K F d x ∧ RS K F ds xs
end

theorem same_sqT {K : PySem.W.Frag} {H H' : Hp} {a : Addr} {xs : List V} (e : Same H H') (h : SqT K H a xs) : SqT K H' a xs := by
  rcases h with (h | ⟨o, h⟩) | h
  · exact .inl (.inl (e _ _ h))
  · exact .inl (.inr ⟨o, e _ _ h⟩)
  · exact .inr h

section
variable {K : PySem.W.Frag} {F F' : Hp}
mutual
theorem R.mono (e : Same F F') : ∀ (d : D) (v : V), R K F d v → R K F' d v
  | .non, _, h => h
  | .bl _, _, h => h
  | .int _, _, h => h
  | .str _, _, h => h
  | .ref _, _, h => h
  | .lst l, _, h => by
    rw [R] at h ⊢
    obtain ⟨a, xs, h1, h2, h3⟩ := h
    exact ⟨a, xs, h1, e _ _ h2, RL.mono e l xs h3⟩
  | .tup l, _, h => by
    rw [R] at h ⊢
    obtain ⟨a, xs, h1, h2, h3⟩ := h
    exact ⟨a, xs, h1, same_sqT e h2, RL.mono e l xs h3⟩
  | .dic l, _, h => by
    rw [R] at h ⊢
    obtain ⟨a, xs, h1, h2, h3⟩ := h
    exact ⟨a, xs, h1, e _ _ h2, RD.mono e l xs h3⟩
  | .ins C l, _, h => by
    rw [R] at h ⊢
    obtain ⟨a, dx, xs, h1, h2, h3⟩ := h
    exact ⟨a, dx, xs, h1, e _ _ h2, RS.mono e l xs h3⟩
theorem RL.mono (e : Same F F') : ∀ (d : List D) (v : List V), RL K F d v → RL K F' d v
  | [], _, h => h
  | d :: ds, _, h => by
    rw [RL] at h ⊢
    obtain ⟨x, xs, h1, h2, h3⟩ := h
    exact ⟨x, xs, h1, R.mono e d x h2, RL.mono e ds xs h3⟩
theorem RD.mono (e : Same F F') : ∀ (d : List (Key × D)) (v : List (Key × V)), RD K F d v → RD K F' d v
  | [], _, h => h
  | (k, d) :: ds, _, h => by
    rw [RD] at h ⊢
    obtain ⟨x, xs, h1, h2, h3⟩ := h
    exact ⟨x, xs, h1, R.mono e d x h2, RD.mono e ds xs h3⟩
theorem RS.mono (e : Same F F') : ∀ (d : List (Str × D)) (v : List (Str × V)), RS K F d v → RS K F' d v
  | [], _, h => h
  | (k, d) :: ds, _, h => by
    rw [RS] at h ⊢
    obtain ⟨x, xs, h1, h2, h3⟩ := h
    exact ⟨x, xs, h1, R.mono e d x h2, RS.mono e ds xs h3⟩
end
theorem rNon {v : V} (h : R K F .non v) : v = .non := by rw [R] at h; exact h
theorem rBl {b : Bool} {v : V} (h : R K F (.bl b) v) : v = .bl b := by rw [R] at h; exact h
theorem rInt {i : Int} {v : V} (h : R K F (.int i) v) : v = .int i := by rw [R] at h; exact h
theorem rStr {i : Str} {v : V} (h : R K F (.str i) v) : v = .str i := by rw [R] at h; exact h
theorem rRef {a : Addr} {v : V} (h : R K F (.ref a) v) : v = .ref a := by rw [R] at h; exact h
theorem rLst {l : List D} {v : V} (h : R K F (.lst l) v) : ∃ a xs, v = .ref a ∧ F a = some (.lst xs) ∧ RL K F l xs := by rw [R] at h; exact h
theorem rTup {l : List D} {v : V} (h : R K F (.tup l) v) : ∃ a xs, v = .ref a ∧ SqT K F a xs ∧ RL K F l xs := by rw [R] at h; exact h
theorem rDic {l : List (Key × D)} {v : V} (h : R K F (.dic l) v) : ∃ a xs, v = .ref a ∧ F a = some (.dK xs) ∧ RD K F l xs := by rw [R] at h; exact h
theorem rIns {C : Addr} {l : List (Str × D)} {v : V} (h : R K F (.ins C l) v) : ∃ a dx xs, v = .ref a ∧ F a = some (.ins C dx xs) ∧ RS K F l xs := by rw [R] at h; exact h
theorem mkInt (i : Int) : R K F (.int i) (.int i) := by rw [R]
theorem mkBl (i : Bool) : R K F (.bl i) (.bl i) := by rw [R]
theorem mkStr (i : Str) : R K F (.str i) (.str i) := by rw [R]
theorem mkNon : R K F .non .non := by rw [R]
theorem mkRef (a : Addr) : R K F (.ref a) (.ref a) := by rw [R]
theorem mkLst {l : List D} {a : Addr} {xs : List V} (h : F a = some (.lst xs)) (r : RL K F l xs) : R K F (.lst l) (.ref a) := by rw [R]; exact ⟨a, xs, rfl, h, r⟩
theorem mkTup {l : List D} {a : Addr} {xs : List V} (h : SqT K F a xs) (r : RL K F l xs) : R K F (.tup l) (.ref a) := by rw [R]; exact ⟨a, xs, rfl, h, r⟩
theorem mkDic {l : List (Key × D)} {a : Addr} {xs : List (Key × V)} (h : F a = some (.dK xs)) (r : RD K F l xs) : R K F (.dic l) (.ref a) := by rw [R]; exact ⟨a, xs, rfl, h, r⟩
theorem mkIns {C : Addr} {l : List (Str × D)} {a dx : Addr} {xs : List (Str × V)} (h : F a = some (.ins C dx xs)) (r : RS K F l xs) : R K F (.ins C l) (.ref a) := by rw [R]; exact ⟨a, dx, xs, rfl, h, r⟩
theorem RL.length : ∀ {d : List D} {v : List V}, RL K F d v → v.length = d.length
  | [], _, h => by rw [RL] at h; rw [h]; rfl
  | d :: ds, _, h => by
    rw [RL] at h
    obtain ⟨x, xs, rfl, _, h3⟩ := h
    rw [List.length_cons, List.length_cons, RL.length h3]
theorem RL.get : ∀ {ds : List D} {vs : List V} {i : Nat} {d : D}, RL K F ds vs → ds[i]? = some d → ∃ v, vs[i]? = some v ∧ R K F d v
  | [], _, _, _, _, e => by simp at e
  | d :: ds, _, i, d', h, e => by
    rw [RL] at h
    obtain ⟨x, xs, rfl, h2, h3⟩ := h
    cases i with
    | zero =>
      simp at e
      subst e
      exact ⟨x, rfl, h2⟩
    | succ i =>
      obtain ⟨v, e1, e2⟩ := RL.get (i := i) h3 (by simpa using e)
      exact ⟨v, by simpa using e1, e2⟩
theorem RL.getV {ds : List D} {vs : List V} {i : Nat} {v : V} (h : RL K F ds vs) (e : vs[i]? = some v) : ∃ d, ds[i]? = some d ∧ R K F d v := by
  have hi : i < vs.length := (List.getElem?_eq_some_iff.mp e).1
  rw [h.length] at hi
  obtain ⟨w, e1, e2⟩ := h.get (List.getElem?_eq_getElem hi)
  rw [e] at e1
  cases e1
  exact ⟨_, List.getElem?_eq_getElem hi, e2⟩
theorem RL.set : ∀ {ds : List D} {vs : List V} {d : D} {v : V} (i : Nat), RL K F ds vs → R K F d v → RL K F (ds.set i d) (vs.set i v)
  | [], _, _, _, _, h, _ => by rw [RL] at h; subst h; rw [List.set_nil, List.set_nil, RL]
  | d :: ds, _, _, _, i, h, r => by
    rw [RL] at h
    obtain ⟨x, xs, rfl, h2, h3⟩ := h
    cases i with
    | zero => rw [List.set_cons_zero, List.set_cons_zero, RL]; exact ⟨_, _, rfl, r, h3⟩
    | succ i => rw [List.set_cons_succ, List.set_cons_succ, RL]; exact ⟨_, _, rfl, h2, RL.set i h3 r⟩
theorem RL.append : ∀ {ds es : List D} {vs ws : List V}, RL K F ds vs → RL K F es ws → RL K F (ds ++ es) (vs ++ ws)
  | [], _, _, _, h, h' => by rw [RL] at h; subst h; exact h'
  | d :: ds, _, _, _, h, h' => by
    rw [RL] at h
    obtain ⟨x, xs, rfl, h2, h3⟩ := h
    rw [List.cons_append, List.cons_append, RL]
    exact ⟨_, _, rfl, h2, RL.append h3 h'⟩
theorem RL.nil : RL K F [] [] := by rw [RL]
theorem RL.cons {d : D} {ds : List D} {v : V} {vs : List V} (h : R K F d v) (t : RL K F ds vs) : RL K F (d :: ds) (v :: vs) := by
  rw [RL]; exact ⟨_, _, rfl, h, t⟩
theorem RL.take : ∀ {ds : List D} {vs : List V} (n : Nat), RL K F ds vs → RL K F (ds.take n) (vs.take n)
  | [], _, n, h => by rw [RL] at h; subst h; simp [RL.nil]
  | d :: ds, _, n, h => by
    rw [RL] at h
    obtain ⟨x, xs, rfl, h2, h3⟩ := h
    cases n with
    | zero => exact RL.nil
    | succ n => exact RL.cons h2 (RL.take n h3)
theorem RL.drop : ∀ {ds : List D} {vs : List V} (n : Nat), RL K F ds vs → RL K F (ds.drop n) (vs.drop n)
  | [], _, n, h => by rw [RL] at h; subst h; simp [RL.nil]
  | d :: ds, _, n, h => by
    rw [RL] at h
    obtain ⟨x, xs, rfl, h2, h3⟩ := h
    cases n with
    | zero => exact RL.cons h2 h3
    | succ n => exact RL.drop n h3
theorem RL.reverse {ds : List D} {vs : List V} (h : RL K F ds vs) : RL K F ds.reverse vs.reverse := by
  induction ds generalizing vs with
  | nil => rw [RL] at h; subst h; exact RL.nil
  | cons d ds ih =>
    rw [RL] at h
    obtain ⟨x, xs, rfl, h2, h3⟩ := h
    rw [List.reverse_cons, List.reverse_cons]
    exact (ih h3).append (RL.cons h2 RL.nil)
theorem RS.lookup : ∀ {ds : List (Str × D)} {vs : List (Str × V)} {f : Str} {d : D}, RS K F ds vs → ds.lookup f = some d → ∃ v, vs.lookup f = some v ∧ R K F d v
  | [], _, _, _, _, e => by simp at e
  | (k, d) :: ds, _, f, d', h, e => by
    rw [RS] at h
    obtain ⟨x, xs, rfl, h2, h3⟩ := h
    rw [List.lookup_cons] at e ⊢
    cases q : (f == k) with
    | true =>
      rw [q] at e
      cases e
      exact ⟨x, rfl, h2⟩
    | false =>
      rw [q] at e
      exact RS.lookup h3 e
theorem RS.lookup_none : ∀ {ds : List (Str × D)} {vs : List (Str × V)} {f : Str}, RS K F ds vs → ds.lookup f = none → vs.lookup f = none
  | [], _, _, h, e => by rw [RS] at h; subst h; rfl
  | (k, d) :: ds, _, f, h, e => by
    rw [RS] at h
    obtain ⟨x, xs, rfl, h2, h3⟩ := h
    rw [List.lookup_cons] at e ⊢
    cases q : (f == k) with
    | true => rw [q] at e; cases e
    | false =>
      rw [q] at e
      exact RS.lookup_none h3 e
/-- the value under a key -/
def dget (l : List (Key × D)) (k : Key) : Option D := (l.find? fun kv => decide (kv.1 = k)).map (·.2)
theorem RD.get : ∀ {ds : List (Key × D)} {vs : List (Key × V)} {k : Key}, RD K F ds vs → (∀ d, dget ds k = some d → ∃ v, valV vs k = some v ∧ R K F d v) ∧ (dget ds k = none → valV vs k = none)
  | [], _, _, h => by
    rw [RD] at h; subst h
    exact ⟨fun d e => by simp [dget] at e, fun _ => rfl⟩
  | (k', d) :: ds, _, k, h => by
    rw [RD] at h
    obtain ⟨x, xs, rfl, h2, h3⟩ := h
    have ih := RD.get (k := k) h3
    unfold dget valV at ih ⊢
    rw [List.find?_cons, List.find?_cons]
    by_cases q : k' = k
    · have e1 : decide (k' = k) = true := decide_eq_true q
      dsimp only
      rw [e1]
      exact ⟨fun d' e => ⟨x, rfl, by cases e; exact h2⟩, fun e => by cases e⟩
    · have e1 : decide (k' = k) = false := decide_eq_false q
      dsimp only
      rw [e1]
      exact ih
theorem RD.length : ∀ {ds : List (Key × D)} {vs : List (Key × V)}, RD K F ds vs → vs.length = ds.length
  | [], _, h => by rw [RD] at h; subst h; rfl
  | (k', d) :: ds, _, h => by
    rw [RD] at h
    obtain ⟨x, xs, rfl, h2, h3⟩ := h
    rw [List.length_cons, List.length_cons, RD.length h3]
/-- as putK, on data -/
def dput (l : List (Key × D)) (k : Key) (d : D) : List (Key × D) := if (l.any fun kv => decide (kv.1 = k)) = true then l.map (fun kv => if kv.1 = k then (kv.1, d) else kv) else l ++ [(k, d)]
theorem RD.any {k : Key} : ∀ {ds : List (Key × D)} {vs : List (Key × V)}, RD K F ds vs → (vs.any fun kv => decide (kv.1 = k)) = (ds.any fun kv => decide (kv.1 = k))
  | [], _, h => by rw [RD] at h; subst h; rfl
  | (k', d) :: ds, _, h => by
    rw [RD] at h
    obtain ⟨x, xs, rfl, h2, h3⟩ := h
    rw [List.any_cons, List.any_cons, RD.any h3]
theorem RD.mapSet {k : Key} {d : D} {v : V} (r : R K F d v) : ∀ {ds : List (Key × D)} {vs : List (Key × V)}, RD K F ds vs → RD K F (ds.map fun kv => if kv.1 = k then (kv.1, d) else kv) (vs.map fun kv => if kv.1 = k then (kv.1, v) else kv)
  | [], _, h => by rw [RD] at h; subst h; rw [List.map_nil, List.map_nil, RD]
  | (k', d') :: ds, _, h => by
    rw [RD] at h
    obtain ⟨x, xs, rfl, h2, h3⟩ := h
    rw [List.map_cons, List.map_cons]
    by_cases q : k' = k
    · rw [if_pos (show ((k', d') : Key × D).1 = k from q), if_pos (show ((k', x) : Key × V).1 = k from q), RD]
      exact ⟨_, _, rfl, r, RD.mapSet r h3⟩
    · rw [if_neg (show ¬ ((k', d') : Key × D).1 = k from q), if_neg (show ¬ ((k', x) : Key × V).1 = k from q), RD]
      exact ⟨_, _, rfl, h2, RD.mapSet r h3⟩
theorem RD.snoc {k : Key} {d : D} {v : V} (r : R K F d v) : ∀ {ds : List (Key × D)} {vs : List (Key × V)}, RD K F ds vs → RD K F (ds ++ [(k, d)]) (vs ++ [(k, v)])
  | [], _, h => by
    rw [RD] at h; subst h
    rw [List.nil_append, List.nil_append, RD]
    exact ⟨_, _, rfl, r, by rw [RD]⟩
  | (k', d') :: ds, _, h => by
    rw [RD] at h
    obtain ⟨x, xs, rfl, h2, h3⟩ := h
    rw [List.cons_append, List.cons_append, RD]
    exact ⟨_, _, rfl, h2, RD.snoc r h3⟩
theorem RD.put {k : Key} {d : D} {v : V} {ds : List (Key × D)} {vs : List (Key × V)} (h : RD K F ds vs) (r : R K F d v) : RD K F (dput ds k d) (putK vs k v) := by
  unfold dput putK
  rw [h.any]
  split
  · exact RD.mapSet r h
  · exact RD.snoc r h
end

/-! ### worlds -/
/-- what others may change while we run: the addresses, what holds of them -/
structure Wd where
  M : Addr → Prop
  J : Hp → Hp → Prop
  mono : ∀ {F H F' H' : Hp}, J F H → Same F F' → (∀ a o, M a → H a = some o → H' a = some o) → J F' H'
def W0 : Wd := ⟨fun _ => False, fun _ _ => True, fun _ _ _ => trivial⟩
structure WOk (W : Wd) (F H : Hp) : Prop where
  fh : Same F H
  mf : ∀ a, W.M a → F a = none ∧ H a ≠ none
  jj : W.J F H
structure Le (W : Wd) (F H F' H' : Hp) : Prop where
  ok : WOk W F' H'
  ff : Same F F'
  hh : ∀ a o, ¬ W.M a → H a = some o → H' a = some o
  un : ∀ a, F a = none → H a ≠ none → F' a = none
theorem Le.refl {W : Wd} {F H : Hp} (o : WOk W F H) : Le W F H F H := ⟨o, Same.refl F, fun _ _ _ h => h, fun _ h _ => h⟩
theorem Le.trans {W : Wd} {F H F1 H1 F2 H2 : Hp} (a : Le W F H F1 H1) (b : Le W F1 H1 F2 H2) : Le W F H F2 H2 :=
  ⟨b.ok, a.ff.trans b.ff, fun x o m h => b.hh x o m (a.hh x o m h), fun x f h => by
    refine b.un x (a.un x f h) ?_
    by_cases m : W.M x
    · exact (a.ok.mf x m).2
    · cases q : H x with
      | none => exact absurd q h
      | some o => rw [a.hh x o m q]; exact fun z => nomatch z⟩
/-- new and shared -/
theorem Le.new {W : Wd} {F H : Hp} {p : Addr} {o : HO} (k : WOk W F H) (hp : H p = none) : Le W F H (upd F p o) (upd H p o) := by
  have fp : F p = none := k.fh.free hp
  have sF : Same F (upd F p o) := fun b u e => by rw [upd_ne (ne_of_none e fp)]; exact e
  have sH : Same H (upd H p o) := fun b u e => by rw [upd_ne (ne_of_none e hp)]; exact e
  refine ⟨⟨fun b u e => ?_, fun a m => ?_, W.mono k.jj sF fun a u _ e => sH a u e⟩, sF, fun a u _ e => sH a u e, fun a f h => ?_⟩
  · by_cases q : b = p
    · subst q; rw [upd_same] at e ⊢; exact e
    · rw [upd_ne q] at e ⊢; exact k.fh b u e
  · obtain ⟨h1, h2⟩ := k.mf a m
    have q : a ≠ p := fun z => h2 (by rw [z]; exact hp)
    exact ⟨by rw [upd_ne q]; exact h1, by rw [upd_ne q]; exact h2⟩
  · have q : a ≠ p := fun z => h (by rw [z]; exact hp)
    rw [upd_ne q]; exact f
/-- new, not shared -/
theorem Le.own {W : Wd} {F H : Hp} {p : Addr} {o : HO} (k : WOk W F H) (hp : H p = none) : Le W F H F (upd H p o) := by
  have sH : Same H (upd H p o) := fun b u e => by rw [upd_ne (ne_of_none e hp)]; exact e
  refine ⟨⟨fun b u e => sH b u (k.fh b u e), fun a m => ?_, W.mono k.jj (Same.refl F) fun a u _ e => sH a u e⟩, Same.refl F, fun a u _ e => sH a u e, fun a f _ => f⟩
  obtain ⟨h1, h2⟩ := k.mf a m
  have q : a ≠ p := fun z => h2 (by rw [z]; exact hp)
  exact ⟨h1, by rw [upd_ne q]; exact h2⟩
/-- a step of a pure callee is a step of ours -/
theorem Le.pure {W : Wd} {F H F' H' : Hp} (k : WOk W F H) (l : Le W0 F H F' H') : Le W F H F' H' :=
  have mf : ∀ a, W.M a → F' a = none ∧ H' a ≠ none := fun a m => by
      obtain ⟨h1, h2⟩ := k.mf a m
      refine ⟨l.un a h1 h2, ?_⟩
      cases q : H a with
      | none => exact absurd q h2
      | some o => rw [l.hh a o (fun z => z) q]; exact fun z => nomatch z
  ⟨⟨l.ok.fh, mf, W.mono k.jj l.ff fun a o _ e => l.hh a o (fun z => z) e⟩, l.ff, fun a o _ e => l.hh a o (fun z => z) e, l.un⟩
theorem WOk.w0 {F H : Hp} (s : Same F H) : WOk W0 F H := ⟨s, fun _ z => False.elim z, trivial⟩

/-! ### slots -/
inductive AV where
  | un | sh (d : D) | ow (l : List D) | od (o : Option Addr) (l : List (Key × D)) | oi (o : Option Addr) (C : Addr) (l : List (Str × D))
abbrev AE := List AV
/-- the base: the world, the shared heap and the heap at the entry -/
structure Bs where
  W : Wd
  F0 : Hp
  H0 : Hp
def OwnAt (env : AE) (i : Nat) : Prop := (∃ l, env[i]? = some (.ow l)) ∨ (∃ l : Option Addr × List (Key × D), env[i]? = some (.od l.1 l.2)) ∨ ∃ l : Option Addr × Addr × List (Str × D), env[i]? = some (.oi l.1 l.2.1 l.2.2)
def SlotOk (K : PySem.W.Frag) (B : Bs) (F H : Hp) (σ : St) (i : Nat) : AV → Prop
  | .un => True
  | .sh d => ∃ x, σ[i]? = some (some x) ∧ R K F d x
  | .ow l => ∃ p xs, σ[i]? = some (some (.ref p)) ∧ F p = none ∧ ¬ B.W.M p ∧ B.H0 p = none ∧ H p = some (.lst xs) ∧ RL K F l xs
  | .od o l => ∃ p xs, σ[i]? = some (some (.ref p)) ∧ F p = none ∧ ¬ B.W.M p ∧ B.H0 p = none ∧ H p = some (.dK xs) ∧ RD K F l xs ∧ ∀ a, o = some a → p = a
  | .oi o C l => ∃ p dx xs, σ[i]? = some (some (.ref p)) ∧ F p = none ∧ ¬ B.W.M p ∧ B.H0 p = none ∧ H p = some (.ins C dx xs) ∧ RS K F l xs ∧ ∀ a, o = some a → p = a
structure Rep (K : PySem.W.Frag) (B : Bs) (F H : Hp) (σ : St) (env : AE) : Prop where
  le : Le B.W B.F0 B.H0 F H
  len : env.length = σ.length
  sl : ∀ i v, env[i]? = some v → SlotOk K B F H σ i v
  ap : ∀ i j p, OwnAt env i → OwnAt env j → σ[i]? = some (some (.ref p)) → σ[j]? = some (some (.ref p)) → i = j
section
variable {K : PySem.W.Frag} {B : Bs} {F H F' H' : Hp} {σ : St} {env : AE}
theorem Rep.ok (r : Rep K B F H σ env) : WOk B.W F H := r.le.ok
theorem SlotOk.le {i : Nat} {v : AV} (s : SlotOk K B F H σ i v) (l : Le B.W F H F' H') : SlotOk K B F' H' σ i v := by
  cases v with
  | un => trivial
  | sh d =>
    obtain ⟨x, h1, h2⟩ := s
    exact ⟨x, h1, R.mono l.ff d x h2⟩
  | ow ds =>
    obtain ⟨p, xs, h1, h2, h3, h4, h5, h6⟩ := s
    exact ⟨p, xs, h1, l.un p h2 (by rw [h5]; exact fun z => nomatch z), h3, h4, l.hh p _ h3 h5, RL.mono l.ff _ _ h6⟩
  | od o ds =>
    obtain ⟨p, xs, h1, h2, h3, h4, h5, h6, h7⟩ := s
    exact ⟨p, xs, h1, l.un p h2 (by rw [h5]; exact fun z => nomatch z), h3, h4, l.hh p _ h3 h5, RD.mono l.ff _ _ h6, h7⟩
  | oi o C ds =>
    obtain ⟨p, dx, xs, h1, h2, h3, h4, h5, h6, h7⟩ := s
    exact ⟨p, dx, xs, h1, l.un p h2 (by rw [h5]; exact fun z => nomatch z), h3, h4, l.hh p _ h3 h5, RS.mono l.ff _ _ h6, h7⟩
theorem Rep.step (r : Rep K B F H σ env) (l : Le B.W F H F' H') : Rep K B F' H' σ env :=
  ⟨r.le.trans l, r.len, fun i v e => (r.sl i v e).le l, r.ap⟩
theorem SlotOk.other {i j : Nat} {v : AV} {x : Option V} (s : SlotOk K B F H σ i v) (h : i ≠ j) : SlotOk K B F H (σ.set j x) i v := by
  have e : (σ.set j x)[i]? = σ[i]? := List.getElem?_set_ne (Ne.symm h)
  cases v with
  | un => trivial
  | sh d => obtain ⟨y, h1, h2⟩ := s; exact ⟨y, by rw [e]; exact h1, h2⟩
  | ow ds => obtain ⟨p, xs, h1, h2⟩ := s; exact ⟨p, xs, by rw [e]; exact h1, h2⟩
  | od o ds => obtain ⟨p, xs, h1, h2⟩ := s; exact ⟨p, xs, by rw [e]; exact h1, h2⟩
  | oi o C ds => obtain ⟨p, dx, xs, h1, h2⟩ := s; exact ⟨p, dx, xs, by rw [e]; exact h1, h2⟩
theorem ownAt_set {i j : Nat} {v : AV} (h : i ≠ j) (o : OwnAt (env.set j v) i) : OwnAt env i := by
  have e : (env.set j v)[i]? = env[i]? := List.getElem?_set_ne (Ne.symm h)
  rcases o with ⟨l, o⟩ | ⟨l, o⟩ | ⟨l, o⟩
  · exact .inl ⟨l, by rw [← e]; exact o⟩
  · exact .inr (.inl ⟨l, by rw [← e]; exact o⟩)
  · exact .inr (.inr ⟨l, by rw [← e]; exact o⟩)
/-- a slot is stored: the value is shared -/
theorem Rep.set {i : Nat} {d : D} {x : V} (r : Rep K B F H σ env) (h : R K F d x) : Rep K B F H (σ.set i (some x)) (env.set i (.sh d)) := by
  refine ⟨r.le, by rw [List.length_set, List.length_set]; exact r.len, fun j v e => ?_, fun j k p oj ok ej ek => ?_⟩
  · by_cases q : j = i
    · subst q
      have hl : j < env.length := by
        have := (List.getElem?_eq_some_iff.mp e).1
        rwa [List.length_set] at this
      rw [List.getElem?_set_self hl] at e
      cases e
      exact ⟨x, List.getElem?_set_self (by rw [← r.len]; exact hl), h⟩
    · rw [List.getElem?_set_ne (Ne.symm q)] at e
      exact (r.sl j v e).other q
  · have no : ∀ {j}, OwnAt (env.set i (.sh d)) j → j ≠ i := fun {j} o z => by
      subst z
      rcases o with ⟨l, o⟩ | ⟨l, o⟩ | ⟨l, o⟩
      all_goals
        have hl := (List.getElem?_eq_some_iff.mp o).1
        rw [List.length_set] at hl
        rw [List.getElem?_set_self hl] at o
        cases o
    have hj := no oj
    have hk := no ok
    rw [List.getElem?_set_ne (Ne.symm hj)] at ej
    rw [List.getElem?_set_ne (Ne.symm hk)] at ek
    exact r.ap j k p (ownAt_set hj oj) (ownAt_set hk ok) ej ek
/-- a slot is stored: a new list of its own -/
theorem Rep.setOw {i : Nat} {l : List D} {xs : List V} {p : Addr} (r : Rep K B F H σ env) (k : ¬ B.W.M p) (hF : F p = none) (h0 : B.H0 p = none) (hp : H p = some (.lst xs)) (h : RL K F l xs)
    (ne : ∀ j, OwnAt env j → j ≠ i → σ[j]? ≠ some (some (.ref p))) : Rep K B F H (σ.set i (some (.ref p))) (env.set i (.ow l)) := by
  refine ⟨r.le, by rw [List.length_set, List.length_set]; exact r.len, fun j v e => ?_, fun j m q oj om ej em => ?_⟩
  · by_cases q : j = i
    · subst q
      have hl : j < env.length := by
        have := (List.getElem?_eq_some_iff.mp e).1
        rwa [List.length_set] at this
      rw [List.getElem?_set_self hl] at e
      cases e
      exact ⟨p, xs, List.getElem?_set_self (by rw [← r.len]; exact hl), hF, k, h0, hp, h⟩
    · rw [List.getElem?_set_ne (Ne.symm q)] at e
      exact (r.sl j v e).other q
  · have at_i : ∀ {z : Addr}, i < σ.length → (σ.set i (some (.ref p)))[i]? = some (some (.ref z)) → z = p := fun {z} hl e => by
      rw [List.getElem?_set_self hl] at e
      cases e
      rfl
    have lt : ∀ {j : Nat} {z : Addr}, (σ.set i (some (V.ref p)))[j]? = some (some (.ref z)) → j < σ.length := fun {j z} e => by
      have := (List.getElem?_eq_some_iff.mp e).1
      rwa [List.length_set] at this
    by_cases hj : j = i
    · by_cases hm : m = i
      · rw [hj, hm]
      · subst hj
        have e1 := at_i (lt ej) ej
        subst e1
        rw [List.getElem?_set_ne (Ne.symm hm)] at em
        exact absurd em (ne m (ownAt_set hm om) hm)
    · by_cases hm : m = i
      · subst hm
        have e1 := at_i (lt em) em
        subst e1
        rw [List.getElem?_set_ne (Ne.symm hj)] at ej
        exact absurd ej (ne j (ownAt_set hj oj) hj)
      · rw [List.getElem?_set_ne (Ne.symm hj)] at ej
        rw [List.getElem?_set_ne (Ne.symm hm)] at em
        exact r.ap j m q (ownAt_set hj oj) (ownAt_set hm om) ej em
theorem Rep.setOd {i : Nat} {l : List (Key × D)} {xs : List (Key × V)} {p : Addr} (r : Rep K B F H σ env) (k : ¬ B.W.M p) (hF : F p = none) (h0 : B.H0 p = none) (hp : H p = some (.dK xs)) (h : RD K F l xs)
    (ne : ∀ j, OwnAt env j → j ≠ i → σ[j]? ≠ some (some (.ref p))) : Rep K B F H (σ.set i (some (.ref p))) (env.set i (.od none l)) := by
  refine ⟨r.le, by rw [List.length_set, List.length_set]; exact r.len, fun j v e => ?_, fun j m q oj om ej em => ?_⟩
  · by_cases q : j = i
    · subst q
      have hl : j < env.length := by
        have := (List.getElem?_eq_some_iff.mp e).1
        rwa [List.length_set] at this
      rw [List.getElem?_set_self hl] at e
      cases e
      exact ⟨p, xs, List.getElem?_set_self (by rw [← r.len]; exact hl), hF, k, h0, hp, h, fun _ z => nomatch z⟩
    · rw [List.getElem?_set_ne (Ne.symm q)] at e
      exact (r.sl j v e).other q
  · have at_i : ∀ {z : Addr}, i < σ.length → (σ.set i (some (.ref p)))[i]? = some (some (.ref z)) → z = p := fun {z} hl e => by
      rw [List.getElem?_set_self hl] at e
      cases e
      rfl
    have lt : ∀ {j : Nat} {z : Addr}, (σ.set i (some (V.ref p)))[j]? = some (some (.ref z)) → j < σ.length := fun {j z} e => by
      have := (List.getElem?_eq_some_iff.mp e).1
      rwa [List.length_set] at this
    by_cases hj : j = i
    · by_cases hm : m = i
      · rw [hj, hm]
      · subst hj
        have e1 := at_i (lt ej) ej
        subst e1
        rw [List.getElem?_set_ne (Ne.symm hm)] at em
        exact absurd em (ne m (ownAt_set hm om) hm)
    · by_cases hm : m = i
      · subst hm
        have e1 := at_i (lt em) em
        subst e1
        rw [List.getElem?_set_ne (Ne.symm hj)] at ej
        exact absurd ej (ne j (ownAt_set hj oj) hj)
      · rw [List.getElem?_set_ne (Ne.symm hj)] at ej
        rw [List.getElem?_set_ne (Ne.symm hm)] at em
        exact r.ap j m q (ownAt_set hj oj) (ownAt_set hm om) ej em
end
end SY
set_option Elab.async false
set_option linter.all false
set_option maxRecDepth 100000
set_option maxHeartbeats 4000000
/-! SY2: judgements on data: expressions, arguments, tests, targets, statements; the rules. -/
namespace SY
open PySem PySem.Spec L2

/-! ### syntax as its own weakest reading -/
def wE (X : Cx) (e : Expr) : TE := fun σ H Q => ∃ t, PE X e t ∧ t σ H Q
theorem pe_w {X : Cx} {e : Expr} : PE X e (wE X e) := ⟨fun pins s σ H Q I ⟨t, h, q⟩ => h.run pins s σ H Q I q⟩
def wA (X : Cx) (es : List Expr) : TA := fun σ H Q => ∃ t, PA X es t ∧ t σ H Q
theorem pa_w {X : Cx} {e : List Expr} : PA X e (wA X e) := ⟨fun pos pins s σ H Q I ⟨t, h, q⟩ => h.run pos pins s σ H Q I q⟩
def wT (X : Cx) (e : Expr) : TT := fun σ H Q => ∃ t, PT X e t ∧ t σ H Q
theorem pt_w {X : Cx} {e : Expr} : PT X e (wT X e) := ⟨fun pins s σ H Q I ⟨t, h, q⟩ => h.run pins s σ H Q I q⟩
def wW (X : Cx) (e : Expr) : TT := fun σ H Q => ∃ t, PW X e t ∧ t σ H Q
theorem pw_w {X : Cx} {e : Expr} : PW X e (wW X e) := ⟨fun wh pins s σ H Q I ⟨t, h, q⟩ => h.run wh pins s σ H Q I q⟩
def wG (X : Cx) (e : Expr) : TG := fun v σ H Q => ∃ t, L2.PG X e t ∧ t v σ H Q
theorem pg_w {X : Cx} {e : Expr} : L2.PG X e (wG X e) := ⟨fun pins s σ H v u Q I r ⟨t, h, q⟩ => h.run pins s σ H v u Q I r q⟩
def wGs (X : Cx) (e : List Expr) : TGs := fun v σ H Q => ∃ t, L2.PGs X e t ∧ t v σ H Q
theorem pgs_w {X : Cx} {e : List Expr} : L2.PGs X e (wGs X e) := ⟨fun pins s σ H v u Q I r ⟨t, h, q⟩ => h.run pins s σ H v u Q I r q⟩
def wI (X : Cx) (tg e : Expr) : TI := fun σ H R => ∃ t, PI X tg e t ∧ t σ H R
theorem pi_w {X : Cx} {tg e : Expr} : PI X tg e (wI X tg e) := ⟨fun pins s σ H R I ⟨t, h, q⟩ => h.run pins s σ H R I q⟩
def wS (X : Cx) (st : Stmt) : TS := fun D σ H => ∃ t, PS X st t ∧ t D σ H
theorem ps_w {X : Cx} {st : Stmt} : PS X st (wS X st) := ⟨fun pins s σ H D I ⟨t, h, q⟩ => h.run pins s σ H D I q⟩
def wSs (X : Cx) (st : List Stmt) : TS := fun D σ H => ∃ t, PSs X st t ∧ t D σ H
theorem pss_w {X : Cx} {st : List Stmt} : PSs X st (wSs X st) := ⟨fun pins s σ H D I ⟨t, h, q⟩ => h.run pins s σ H D I q⟩
def wTs (X : Cx) (es : List Expr) : TT := fun σ H Q => ∃ t, PTs X es t ∧ t σ H Q
theorem pts_w {X : Cx} {es : List Expr} : PTs X es (wTs X es) := ⟨fun pins s σ H Q I ⟨t, h, q⟩ => h.run pins s σ H Q I q⟩

/-! ### judgements -/
def qE (X : Cx) (B : Bs) (env : AE) (e : Expr) (Q : D → Prop) : Prop :=
  ∀ σ F H, Rep X.K B F H σ env → ∀ Qv : VK, (∀ v F' H' d, Le B.W F H F' H' → R X.K F' d v → Q d → Qv v H') → wE X e σ H Qv
/-- a new list that nothing else knows -/
def qO (X : Cx) (B : Bs) (env : AE) (e : Expr) (Q : List D → Prop) : Prop :=
  ∀ σ F H, Rep X.K B F H σ env → ∀ Qv : VK, (∀ p xs F' H' l, Le B.W F H F' H' → H p = none → F' p = none → H' p = some (.lst xs) → RL X.K F' l xs → Q l → Qv (.ref p) H') → wE X e σ H Qv
def qA (X : Cx) (B : Bs) (env : AE) (es : List Expr) (Q : List D → Prop) : Prop :=
  ∀ σ F H, Rep X.K B F H σ env → ∀ Qv : List V → Hp → Prop, (∀ vs F' H' ds, Le B.W F H F' H' → RL X.K F' ds vs → Q ds → Qv vs H') → wA X es σ H Qv
def qT (X : Cx) (B : Bs) (env : AE) (e : Expr) (Q : Bool → Prop) : Prop :=
  ∀ σ F H, Rep X.K B F H σ env → ∀ Qv : Bool → Hp → Prop, (∀ b F' H', Le B.W F H F' H' → Q b → Qv b H') → wT X e σ H Qv
def qW (X : Cx) (B : Bs) (env : AE) (e : Expr) (Q : Bool → Prop) : Prop :=
  ∀ σ F H, Rep X.K B F H σ env → ∀ Qv : Bool → Hp → Prop, (∀ b F' H', Le B.W F H F' H' → Q b → Qv b H') → wW X e σ H Qv
def qTs (X : Cx) (B : Bs) (env : AE) (es : List Expr) (Q : Bool → Prop) : Prop :=
  ∀ σ F H, Rep X.K B F H σ env → ∀ Qv : Bool → Hp → Prop, (∀ b F' H', Le B.W F H F' H' → Q b → Qv b H') → wTs X es σ H Qv
/-- a target; is: the slots that it stores -/
def qG (X : Cx) (B : Bs) (env : AE) (tg : Expr) (is : List Nat) (d : D) (Q : AE → Prop) : Prop :=
  ∀ σ F H x, Rep X.K B F H σ env → R X.K F d x → ∀ Qg : St → Hp → Prop, (∀ σ' env', Rep X.K B F H σ' env' → (∀ vs : List Nat, (∀ i ∈ is, i ∈ vs) → wipe σ' vs = wipe σ vs) → Q env' → Qg σ' H) → wG X tg x σ H Qg
def qGs (X : Cx) (B : Bs) (env : AE) (tg : List Expr) (is : List Nat) (ds : List D) (Q : AE → Prop) : Prop :=
  ∀ σ F H xs, Rep X.K B F H σ env → RL X.K F ds xs → ∀ Qg : St → Hp → Prop, (∀ σ' env', Rep X.K B F H σ' env' → (∀ vs : List Nat, (∀ i ∈ is, i ∈ vs) → wipe σ' vs = wipe σ vs) → Q env' → Qg σ' H) → wGs X tg xs σ H Qg
/-- a comparison -/
def wC (X : Cx) (op : CmpOp) (a b : Expr) : TE := fun σ H Q => ∃ t, PC X op a b t ∧ t σ H Q
theorem pc_w {X : Cx} {op : CmpOp} {a b : Expr} : PC X op a b (wC X op a b) := ⟨fun pins s σ H Q I ⟨t, h, q⟩ => h.run pins s σ H Q I q⟩
def qC (X : Cx) (B : Bs) (env : AE) (op : CmpOp) (a b : Expr) (Q : D → Prop) : Prop :=
  ∀ σ F H, Rep X.K B F H σ env → ∀ Qv : VK, (∀ v F' H' d, Le B.W F H F' H' → R X.K F' d v → Q d → Qv v H') → wC X op a b σ H Qv
theorem pc_of {X : Cx} {op : CmpOp} {r : R2} {a b : Expr} {ta tb : TE} (ho : OpR X (compareOp op) r) (ha : PE X a ta) (hb : PE X b tb) : PC X op a b (tOp r ta tb) := by
  refine ⟨fun pins s σ H Q I h => ?_⟩
  refine thn (ha.run pins s σ H _ I h) fun v s1 ⟨x, H1, I1, r1, q1⟩ => ?_
  refine thn (hb.run pins s1 σ H1 _ I1 q1) fun u s2 ⟨y, H2, I2, r2, q2⟩ => ?_
  exact ho pins s2 σ H2 x y v u Q I2 r1 r2 q2
/-- an iterator that yields these data, as long as what is shared stands -/
structure ItOk (K : PySem.W.Frag) (W : Wd) (J : It) (F : Hp) (items : List D) : Prop where
  turn : ∀ i d, items[i]? = some d → ∀ F1 H1, Same F F1 → WOk W F1 H1 → J.go i H1 ∧ ∀ x H2, J.yld i H1 x H2 → ∃ F2, Le W F1 H1 F2 H2 ∧ R K F2 d x
  stop : ∀ F1 H1, Same F F1 → WOk W F1 H1 → J.stop items.length H1
def qI (X : Cx) (B : Bs) (env : AE) (tg e : Expr) (Q : List D → Prop) : Prop :=
  ∀ σ F H, Rep X.K B F H σ env → ∀ Qi : It → Hp → Prop, (∀ J F' H' items, Le B.W F H F' H' → ItOk X.K B.W J F' items → Q items → Qi J H') → wI X tg e σ H Qi
/-- an exception: its class, its attributes -/
structure Xd where
  C : Addr
  fs : List (Str × D)
def XOk (K : PySem.W.Frag) (F H : Hp) (dx : Addr) (x : Xd) : Prop := ∃ fs, H dx = some (.xd fs) ∧ RS K F x.fs fs
structure Post where
  nx : AE → Prop
  rt : AE → D → Prop
  bk : AE → Prop := fun _ => False
  ct : AE → Prop := fun _ => False
  xn : AE → Xd → Prop := fun _ _ => False
structure Cont (X : Cx) (B : Bs) (F0 : Hp) (Wx : WX) (P : Post) (E : Ends) : Prop where
  nx : ∀ σ F H env, Rep X.K B F H σ env → Same F0 F → P.nx env → E.nx σ H
  rt : ∀ v σ F H env d, Rep X.K B F H σ env → R X.K F d v → P.rt env d → E.rt v H
  bk : ∀ σ F H env, Rep X.K B F H σ env → Same F0 F → P.bk env → E.bk σ H
  ct : ∀ σ F H env, Rep X.K B F H σ env → Same F0 F → P.ct env → E.ct σ H
  xn : ∀ σ F H env x dx, Rep X.K B F H σ env → XOk X.K F H dx x → P.xn env x → Wx (.ref x.C) (some dx) σ H
/-- one statement; several -/
def qS1 (X : Cx) (B : Bs) (Wx : WX) (env : AE) (st : Stmt) (P : Post) : Prop :=
  ∀ σ F H E, Rep X.K B F H σ env → Cont X B F Wx P E → wS X st E σ H
def qS (X : Cx) (B : Bs) (Wx : WX) (env : AE) (sts : List Stmt) (P : Post) : Prop :=
  ∀ σ F H E, Rep X.K B F H σ env → Cont X B F Wx P E → wSs X sts E σ H

section
variable {X : Cx} {B : Bs} {env : AE} {pos : Pos} {Q : D → Prop} {e a b : Expr}

/-! ### names, constants -/
theorem e_int {i : Int} {j : Nat} (q : Q (.int i)) : qE X B env (.Constant (.int i) j pos) Q := fun σ F H r Qv k => ⟨_, pe_int, k _ F H _ (Le.refl r.ok) (by rw [R]) q⟩
theorem e_bl {i : Bool} {j : Nat} (q : Q (.bl i)) : qE X B env (.Constant (.bool i) j pos) Q := fun σ F H r Qv k => ⟨_, pe_bl, k _ F H _ (Le.refl r.ok) (by rw [R]) q⟩
theorem e_non {j : Nat} (q : Q .non) : qE X B env (.Constant .none j pos) Q := fun σ F H r Qv k => ⟨_, pe_non, k _ F H _ (Le.refl r.ok) (by rw [R]) q⟩
theorem e_str {x : Str} {j : Nat} (q : Q (.str x)) : qE X B env (.Constant (.str x) j pos) Q := fun σ F H r Qv k => ⟨_, pe_str, k _ F H _ (Le.refl r.ok) (by rw [R]) q⟩
theorem e_var (i : Nat) {x : Str} {d : D} (he : env[i]? = some (.sh d)) (q : Q d) (hN : X.N[i]? = some x := by rfl) (hv : Vis X.env.scope x := by first | exact Or.inl rfl | exact Or.inr (Or.inl rfl) | exact Or.inr (Or.inr rfl))
    (hd : (x == ("__debug__" : Str)) = false := by decide) (hcd : (x == ("__classdict__" : Str)) = false := by decide) : qE X B env (.Name x pos) Q := fun σ F H r Qv k => by
  obtain ⟨v, h1, h2⟩ := r.sl i _ he
  exact ⟨_, pe_var hN hv hd hcd, v, h1, k v F H d (Le.refl r.ok) h2 q⟩
/-- a module's constant -/
def GlobD (K : PySem.W.Frag) (mg : Str → Option Value) (x : Str) (d : D) : Prop := ∃ u v, mg x = some u ∧ RelV v u ∧ ∀ F, R K F d v
theorem e_glob {x : Str} {d : D} (h : GlobD X.K X.mg x d) (q : Q d) (hg : Gl X x := by rfl) (hd : (x == ("__debug__" : Str)) = false := by decide) : qE X B env (.Name x pos) Q := fun σ F H r Qv k => by
  obtain ⟨u, v, h1, h2, h3⟩ := h
  exact ⟨_, pe_glob hg h1 h2 hd, k v F H d (Le.refl r.ok) (h3 F) q⟩
theorem qE.imp {Q' : D → Prop} (h : qE X B env e Q) (i : ∀ d, Q d → Q' d) : qE X B env e Q' := fun σ F H r Qv k => h σ F H r Qv fun v F' H' d l rd q => k v F' H' d l rd (i d q)
/-- a new list is shared at once -/
theorem Le.freeze {W : Wd} {F H F' H' : Hp} {p : Addr} {o : HO} (k : WOk W F H) (l : Le W F H F' H') (hp : H p = none) (h1 : F' p = none) (h2 : H' p = some o) : Le W F H (upd F' p o) H' := by
  have s1 : Same F' (upd F' p o) := fun b u e => by rw [upd_ne (ne_of_none e h1)]; exact e
  refine ⟨⟨fun b u e => ?_, fun a m => ?_, W.mono l.ok.jj s1 fun _ _ _ e => e⟩, l.ff.trans s1, l.hh, fun a f h => ?_⟩
  · by_cases q : b = p
    · subst q; rw [upd_same] at e; cases e; exact h2
    · rw [upd_ne q] at e; exact l.ok.fh b u e
  · have q : a ≠ p := fun z => (k.mf a m).2 (by rw [z]; exact hp)
    exact ⟨by rw [upd_ne q]; exact (l.ok.mf a m).1, (l.ok.mf a m).2⟩
  · have q : a ≠ p := fun z => h (by rw [z]; exact hp)
    rw [upd_ne q]; exact l.un a f h
theorem e_own (h : qO X B env e fun l => Q (.lst l)) : qE X B env e Q := fun σ F H r Qv k => h σ F H r Qv fun p xs F' H' l le hp hF hH rl q => by
  have s1 : Same F' (upd F' p (.lst xs)) := fun b u e => by rw [upd_ne (ne_of_none e hF)]; exact e
  refine k (.ref p) (upd F' p (.lst xs)) H' (.lst l) (Le.freeze r.ok le hp hF hH) ?_ q
  rw [R]
  exact ⟨p, xs, rfl, upd_same, RL.mono s1 _ _ rl⟩

/-! ### arguments, displays -/
theorem a_nil {Q : List D → Prop} (q : Q []) : qA X B env [] Q := fun σ F H r Qv k => ⟨_, pa_nil, k [] F H [] (Le.refl r.ok) RL.nil q⟩
theorem a_cons {Q : List D → Prop} {es : List Expr} (h : qE X B env e fun d => qA X B env es fun ds => Q (d :: ds)) (hs : starEach (e :: es) X.env = (false, eval e X.env) :: starEach es X.env := by rfl) : qA X B env (e :: es) Q := fun σ F H r Qv k => by
  refine ⟨_, pa_cons pe_w pa_w hs, ?_⟩
  exact h σ F H r _ fun v F1 H1 d l1 rd h2 => h2 σ F1 H1 (r.step l1) _ fun vs F2 H2 ds l2 rds q =>
    k (v :: vs) F2 H2 (d :: ds) (l1.trans l2) (RL.cons (R.mono l2.ff _ _ rd) rds) q
theorem small_le {n : Nat} (h : n ≤ 100000) : n ≤ sizeLine := Nat.le_trans h (by decide)
theorem small_lt {n : Nat} (h : n < 100000) : n < sizeLine := Nat.lt_of_lt_of_le h (by decide)
theorem e_tup {es : List Expr} {x1 : Nat} (h : qA X B env es fun ds => ds.length ≤ 100000 ∧ Q (.tup ds)) : qE X B env (.Tuple es x1 pos) Q := fun σ F H r Qv k => by
  refine ⟨_, pe_tup pa_w, ?_⟩
  refine h σ F H r _ fun vs F1 H1 ds l1 rds q => ⟨by rw [rds.length]; exact small_le q.1, fun p hp => ?_⟩
  have k1 := (r.step l1).ok
  have l2 := Le.new (o := .tup vs) k1 hp
  refine k _ _ _ (.tup ds) (l1.trans l2) ?_ q.2
  rw [R]
  exact ⟨p, vs, rfl, SqT.of upd_same, RL.mono l2.ff _ _ rds⟩
theorem o_lst {es : List Expr} {Q : List D → Prop} (h : qA X B env es fun ds => ds.length ≤ 100000 ∧ Q ds) : qO X B env (.List es pos) Q := fun σ F H r Qv k => by
  refine ⟨_, pe_lst pa_w, ?_⟩
  refine h σ F H r _ fun vs F1 H1 ds l1 rds q => ⟨by rw [rds.length]; exact small_le q.1, fun p hp => ?_⟩
  have k1 := (r.step l1).ok
  have h0 : H p = none := by
    cases z : H p with
    | none => rfl
    | some o =>
      by_cases m : B.W.M p
      · exact absurd hp (k1.mf p m).2
      · rw [l1.hh p o m z] at hp; cases hp
  exact k p vs F1 (upd H1 p (.lst vs)) ds (l1.trans (Le.own k1 hp)) h0 (k1.fh.free hp) upd_same rds q.2

/-! ### operators -/
/-- + -/
def addD : D → D → (D → Prop) → Prop
  | .int i, .int j, Q => Q (.int (i + j))
  | .str x, .str y, Q => x.length + y.length ≤ sizeLine ∧ Q (.str (x ++ y))
  | _, _, _ => False
theorem e_add (h : qE X B env a fun x => qE X B env b fun y => addD x y Q) : qE X B env (.BinOp a .Add b pos) Q := fun σ F H r Qv k => by
  refine ⟨_, pe_op (OpR.or op_add op_add_str) pe_w pe_w, ?_⟩
  refine h σ F H r _ fun v F1 H1 x l1 rx h2 => h2 σ F1 H1 (r.step l1) _ fun u F2 H2 y l2 ry q => ?_
  have rx2 := R.mono l2.ff _ _ rx
  cases x with
  | int i =>
    cases y with
    | int j =>
      rw [R] at rx2 ry
      exact .inl ⟨i, j, rx2, ry, k _ F2 H2 (.int (i + j)) (l1.trans l2) (by rw [R]) q⟩
    | _ => exact False.elim q
  | str i =>
    cases y with
    | str j =>
      rw [R] at rx2 ry
      exact .inr ⟨i, j, rx2, ry, q.1, k _ F2 H2 (.str (i ++ j)) (l1.trans l2) (by rw [R]) q.2⟩
    | _ => exact False.elim q
  | _ => exact False.elim q
/-- fresh behind a step: fresh ahead of it -/
theorem Le.free {W : Wd} {F H F' H' : Hp} {p : Addr} (l : Le W F H F' H') (h : H' p = none) : H p = none := by
  cases z : H p with
  | none => rfl
  | some o =>
    by_cases m : W.M p
    · exact absurd h (l.ok.mf p m).2
    · rw [l.hh p o m z] at h; cases h
/-- list + list, a new list -/
theorem o_cat {Q : List D → Prop} (h : qE X B env a fun x => qE X B env b fun y => ∃ l m, x = .lst l ∧ y = .lst m ∧ l.length + m.length ≤ 100000 ∧ Q (l ++ m)) : qO X B env (.BinOp a .Add b pos) Q := fun σ F H r Qv k => by
  refine ⟨_, pe_op op_cat pe_w pe_w, ?_⟩
  refine h σ F H r _ fun v F1 H1 x l1 rx h2 => h2 σ F1 H1 (r.step l1) _ fun u F2 H2 y l2 ry q => ?_
  have rx2 := R.mono l2.ff _ _ rx
  obtain ⟨l, m, rfl, rfl, hl, q⟩ := q
  obtain ⟨p, xs, rfl, hx, rlx⟩ := rLst rx2
  obtain ⟨p2, ys, rfl, hy, rly⟩ := rLst ry
  have k2 := ((r.step l1).step l2).ok
  refine ⟨p, p2, xs, ys, rfl, rfl, k2.fh _ _ hx, k2.fh _ _ hy, by rw [rlx.length, rly.length]; exact small_le hl, fun c hc => ?_⟩
  exact k c (xs ++ ys) F2 _ (l ++ m) ((l1.trans l2).trans (Le.own k2 hc)) ((l1.trans l2).free hc) (k2.fh.free hc) upd_same (rlx.append rly) q
/-- - -/
theorem e_sub (h : qE X B env a fun x => qE X B env b fun y => ∃ i j, x = .int i ∧ y = .int j ∧ Q (.int (i - j))) : qE X B env (.BinOp a .Sub b pos) Q := fun σ F H r Qv k => by
  refine ⟨_, pe_op op_sub pe_w pe_w, ?_⟩
  refine h σ F H r _ fun v F1 H1 x l1 rx h2 => h2 σ F1 H1 (r.step l1) _ fun u F2 H2 y l2 ry q => ?_
  obtain ⟨i, j, rfl, rfl, q⟩ := q
  exact ⟨i, j, rInt rx, rInt ry, k _ F2 H2 _ (l1.trans l2) (mkInt _) q⟩
/-- *: two ints -/
theorem e_mul (h : qE X B env a fun x => qE X B env b fun y => ∃ i j, x = .int i ∧ y = .int j ∧ CMulW i j ∧ Q (.int (i * j))) : qE X B env (.BinOp a .Mult b pos) Q := fun σ F H r Qv k => by
  refine ⟨_, pe_op op_mulW pe_w pe_w, ?_⟩
  refine h σ F H r _ fun v F1 H1 x l1 rx h2 => h2 σ F1 H1 (r.step l1) _ fun u F2 H2 y l2 ry q => ?_
  obtain ⟨i, j, rfl, rfl, c, q⟩ := q
  exact ⟨i, j, rInt rx, rInt ry, c, k _ F2 H2 _ (l1.trans l2) (mkInt _) q⟩
/-- [..] * n, a new list -/
theorem o_rep {Q : List D → Prop} (h : qE X B env a fun x => qE X B env b fun y => ∃ l n, x = .lst l ∧ y = .int n ∧ 0 ≤ n ∧ n ≤ 100000 ∧ l.length * n.toNat ≤ 100000 ∧ Q (List.replicate n.toNat l).flatten) : qO X B env (.BinOp a .Mult b pos) Q := fun σ F H r Qv k => by
  refine ⟨_, pe_op op_rep pe_w pe_w, ?_⟩
  refine h σ F H r _ fun v F1 H1 x l1 rx h2 => h2 σ F1 H1 (r.step l1) _ fun u F2 H2 y l2 ry q => ?_
  have rx2 := R.mono l2.ff _ _ rx
  obtain ⟨l, n, rfl, rfl, h0, h1, hl, q⟩ := q
  obtain ⟨p, xs, rfl, hx, rlx⟩ := rLst rx2
  have ry := rInt ry
  have k2 := ((r.step l1).step l2).ok
  refine ⟨p, n, xs, rfl, ry, k2.fh _ _ hx, by omega, by omega, by rw [rlx.length]; exact small_le hl, fun c hc => ?_⟩
  have rr : ∀ m : Nat, RL X.K F2 (List.replicate m l).flatten (List.replicate m xs).flatten := fun m => by
    induction m with
    | zero => exact RL.nil
    | succ m ih =>
      rw [List.replicate_succ, List.replicate_succ, List.flatten_cons, List.flatten_cons]
      exact rlx.append ih
  exact k c _ F2 _ _ ((l1.trans l2).trans (Le.own k2 hc)) ((l1.trans l2).free hc) (k2.fh.free hc) upd_same (rr _) q
theorem e_fdiv (h : qE X B env a fun x => qE X B env b fun y => ∃ i j, x = .int i ∧ y = .int j ∧ CDivW i j ∧ Q (.int (i / j))) : qE X B env (.BinOp a .FloorDiv b pos) Q := fun σ F H r Qv k => by
  refine ⟨_, pe_op op_fdivW pe_w pe_w, ?_⟩
  refine h σ F H r _ fun v F1 H1 x l1 rx h2 => h2 σ F1 H1 (r.step l1) _ fun u F2 H2 y l2 ry q => ?_
  obtain ⟨i, j, rfl, rfl, c, q⟩ := q
  exact ⟨i, j, rInt rx, rInt ry, c, k _ F2 H2 _ (l1.trans l2) (mkInt _) q⟩
theorem e_mod (h : qE X B env a fun x => qE X B env b fun y => ∃ i j, x = .int i ∧ y = .int j ∧ 0 < j ∧ Q (.int (i % j))) : qE X B env (.BinOp a .Mod b pos) Q := fun σ F H r Qv k => by
  refine ⟨_, pe_op op_mod pe_w pe_w, ?_⟩
  refine h σ F H r _ fun v F1 H1 x l1 rx h2 => h2 σ F1 H1 (r.step l1) _ fun u F2 H2 y l2 ry q => ?_
  obtain ⟨i, j, rfl, rfl, c, q⟩ := q
  exact ⟨i, j, rInt rx, rInt ry, c, k _ F2 H2 _ (l1.trans l2) (mkInt _) q⟩
theorem e_neg (h : qE X B env a fun x => ∃ i, x = .int i ∧ Q (.int (-i))) : qE X B env (.UnaryOp .USub a pos) Q := fun σ F H r Qv k => by
  refine ⟨_, pe_un un_neg pe_w, ?_⟩
  refine h σ F H r _ fun v F1 H1 x l1 rx q => ?_
  obtain ⟨i, rfl, q⟩ := q
  rw [R] at rx
  exact ⟨i, rx, k _ F1 H1 _ l1 (by rw [R]) q⟩

/-! ### comparisons -/
/-- <, <=, >, >= : two ints or two texts -/
def ordD (p : Int → Int → Bool) (q : List Nat → List Nat → Bool) : D → D → (D → Prop) → Prop
  | .int i, .int j, Q => Q (.bl (p i j))
  | .str x, .str y, Q => Q (.bl (q x.cps.toList y.cps.toList))
  | _, _, _ => False
theorem c_cmp0 {op : CmpOp} {r : R2} {R0 : D → D → (D → Prop) → Prop} (ho : OpR X (compareOp op) r)
    (hr : ∀ F H x y v u (Q : D → Prop) (Qv : VK), Same F H → R X.K F x v → R X.K F y u → R0 x y Q → (∀ d v, R X.K F d v → Q d → Qv v H) → r v u H Qv)
    (h : qE X B env a fun x => qE X B env b fun y => R0 x y Q) : qC X B env op a b Q := fun σ F H rp Qv k => by
  refine ⟨_, pc_of ho pe_w pe_w, ?_⟩
  refine h σ F H rp _ fun v F1 H1 x l1 rx h2 => h2 σ F1 H1 (rp.step l1) _ fun u F2 H2 y l2 ry q => ?_
  exact hr F2 H2 x y v u Q Qv ((rp.step l1).step l2).ok.fh (R.mono l2.ff _ _ rx) ry q fun d v rd q => k v F2 H2 d (l1.trans l2) rd q
theorem e_cmp {op : CmpOp} (h : qC X B env op a b Q) (hm : behindInMarks op b = false := by rfl) : qE X B env (.Compare a [op] [b] pos) Q := fun σ F H rp Qv k => ⟨_, pe_cmp pc_w hm, h σ F H rp Qv k⟩
theorem t_cmp {op : CmpOp} {Q : Bool → Prop} (h : qC X B env op a b fun d => ∃ k, d = .bl k ∧ Q k) (hm : behindInMarks op b = false := by rfl) : qT X B env (.Compare a [op] [b] pos) Q := fun σ F H rp Qv k => by
  refine ⟨_, pt_cmp pc_w hm, ?_⟩
  refine h σ F H rp _ fun v F1 H1 d l1 rd q => ?_
  obtain ⟨c, rfl, q⟩ := q
  exact ⟨c, rBl rd, k c F1 H1 l1 q⟩
theorem ord_hr {p : Int → Int → Bool} {q : List Nat → List Nat → Bool} :
    ∀ F H x y v u (Q : D → Prop) (Qv : VK), Same F H → R X.K F x v → R X.K F y u → ordD p q x y Q → (∀ d v, R X.K F d v → Q d → Qv v H) →
      (rI0 (fun i j => V.bl (p i j)) v u H Qv ∨ ∃ i j, v = .str i ∧ u = .str j ∧ Qv (.bl (q i.cps.toList j.cps.toList)) H) := fun F H x y v u Q Qv s rx ry o k => by
  cases x with
  | int i =>
    cases y with
    | int j => exact .inl ⟨i, j, rInt rx, rInt ry, k (.bl (p i j)) _ (mkBl _) o⟩
    | _ => exact False.elim o
  | str i =>
    cases y with
    | str j => exact .inr ⟨i, j, rStr rx, rStr ry, k (.bl (q i.cps.toList j.cps.toList)) _ (mkBl _) o⟩
    | _ => exact False.elim o
  | _ => exact False.elim o
abbrev ltD := ordD (fun i j => decide (i < j)) (fun x y => decide (x < y))
abbrev leD := ordD (fun i j => decide (i ≤ j)) (fun x y => !decide (y < x))
abbrev gtD := ordD (fun i j => decide (j < i)) (fun x y => decide (y < x))
abbrev geD := ordD (fun i j => decide (j ≤ i)) (fun x y => !decide (x < y))
theorem c_lt (h : qE X B env a fun x => qE X B env b fun y => ltD x y Q) : qC X B env .Lt a b Q := c_cmp0 (OpR.or op_lt op_lt_str) ord_hr h
theorem c_le (h : qE X B env a fun x => qE X B env b fun y => leD x y Q) : qC X B env .LtE a b Q := c_cmp0 (OpR.or op_le op_le_str) ord_hr h
theorem c_gt (h : qE X B env a fun x => qE X B env b fun y => gtD x y Q) : qC X B env .Gt a b Q := c_cmp0 (OpR.or op_gt op_gt_str) ord_hr h
theorem c_ge (h : qE X B env a fun x => qE X B env b fun y => geD x y Q) : qC X B env .GtE a b Q := c_cmp0 (OpR.or op_ge op_ge_str) ord_hr h
/-! ### == and != -/
mutual
/-- as the library's data -/
def py : D → Option PyData
  | .non => some .none
  | .bl b => some (.bool b)
  | .int i => some (.int i)
  | .str x => some (.str x)
  | .lst l => (pys l).map .list
  | .tup l => (pys l).map .tuple
  | .ref _ => none
  | .dic _ => none
  | .ins _ _ => none
def pys : List D → Option (List PyData)
  | [] => some []
  | d :: ds => (py d).bind fun x => (pys ds).map fun xs => x :: xs
end
mutual
theorem dp_of {K : PySem.W.Frag} {F : Hp} : ∀ (d : D) (v : V) (e : PyData), R K F d v → py d = some e → Dp K F v e
  | .non, v, e, h, q => by rw [py] at q; cases q; rw [rNon h]; exact .non
  | .bl b, v, e, h, q => by rw [py] at q; cases q; rw [rBl h]; exact .bl b
  | .int i, v, e, h, q => by rw [py] at q; cases q; rw [rInt h]; exact .int i
  | .str x, v, e, h, q => by rw [py] at q; cases q; rw [rStr h]; exact .str x
  | .lst l, v, e, h, q => by
    rw [py] at q
    obtain ⟨es, q1, rfl⟩ := Option.map_eq_some_iff.mp q
    obtain ⟨a, xs, rfl, h1, h2⟩ := rLst h
    exact .lst (SqL.of h1) (dps_of l xs es h2 q1)
  | .tup l, v, e, h, q => by
    rw [py] at q
    obtain ⟨es, q1, rfl⟩ := Option.map_eq_some_iff.mp q
    obtain ⟨a, xs, rfl, h1, h2⟩ := rTup h
    exact .tup h1 (dps_of l xs es h2 q1)
  | .ref _, _, _, _, q => by rw [py] at q; cases q
  | .dic _, _, _, _, q => by rw [py] at q; cases q
  | .ins _ _, _, _, _, q => by rw [py] at q; cases q
theorem dps_of {K : PySem.W.Frag} {F : Hp} : ∀ (d : List D) (v : List V) (e : List PyData), RL K F d v → pys d = some e → DpAll K F v e
  | [], v, e, h, q => by rw [pys] at q; cases q; rw [RL] at h; subst h; exact .nil
  | d :: ds, v, e, h, q => by
    rw [pys] at q
    obtain ⟨x, q1, q2⟩ := Option.bind_eq_some_iff.mp q
    obtain ⟨xs, q3, rfl⟩ := Option.map_eq_some_iff.mp q2
    rw [RL] at h
    obtain ⟨w, ws, rfl, h1, h2⟩ := h
    exact .cons (dp_of d w x h1 q1) (dps_of ds ws xs h2 q3)
end
/-- what == tells: scalars of one kind at once, else by the data -/
def eqD (neg : Bool) : D → D → (D → Prop) → Prop
  | .int i, .int j, Q => Q (.bl (if neg then !decide (i = j) else decide (i = j)))
  | .str x, .str y, Q => Q (.bl (if neg then !decide (x = y) else decide (x = y)))
  | x, y, Q => ∃ dx dy, py x = some dx ∧ py y = some dy ∧ SeqAt.shaped dx = true ∧ SeqAt.shaped dy = true ∧ Q (.bl (if neg then !PyData.eqv dx dy else PyData.eqv dx dy))
theorem eq_hr {neg : Bool} : ∀ F H x y v u (Q : D → Prop) (Qv : VK), Same F H → R X.K F x v → R X.K F y u → eqD neg x y Q → (∀ d v, R X.K F d v → Q d → Qv v H) →
      ((scal v u = true ∧ Qv (.bl (if neg then !decide (v = u) else decide (v = u))) H) ∨ ∃ d e, Dp X.K H v d ∧ Dp X.K H u e ∧ SeqAt.shaped d = true ∧ SeqAt.shaped e = true ∧ Qv (.bl (if neg then !PyData.eqv d e else PyData.eqv d e)) H) := fun F H x y v u Q Qv s rx ry o k => by
  have gen : (∃ dx dy, py x = some dx ∧ py y = some dy ∧ SeqAt.shaped dx = true ∧ SeqAt.shaped dy = true ∧ Q (.bl (if neg then !PyData.eqv dx dy else PyData.eqv dx dy))) → ∃ d e, Dp X.K H v d ∧ Dp X.K H u e ∧ SeqAt.shaped d = true ∧ SeqAt.shaped e = true ∧ Qv (.bl (if neg then !PyData.eqv d e else PyData.eqv d e)) H := fun ⟨dx, dy, h1, h2, h3, h4, q⟩ =>
    ⟨dx, dy, dp_of x v dx (R.mono s _ _ rx) h1, dp_of y u dy (R.mono s _ _ ry) h2, h3, h4, k _ _ (mkBl _) q⟩
  by_cases hi : ∃ i j, x = .int i ∧ y = .int j
  · obtain ⟨i, j, rfl, rfl⟩ := hi
    have e1 := rInt rx
    have e2 := rInt ry
    subst e1 e2
    refine .inl ⟨rfl, k _ _ (mkBl _) ?_⟩
    have e3 : decide (V.int i = V.int j) = decide (i = j) := by rw [decide_eq_decide]; exact ⟨fun z => V.int.inj z, fun z => by rw [z]⟩
    rw [e3]
    exact o
  · by_cases hs : ∃ i j, x = .str i ∧ y = .str j
    · obtain ⟨i, j, rfl, rfl⟩ := hs
      have e1 := rStr rx
      have e2 := rStr ry
      subst e1 e2
      refine .inl ⟨rfl, k _ _ (mkBl _) ?_⟩
      have e3 : decide (V.str i = V.str j) = decide (i = j) := by rw [decide_eq_decide]; exact ⟨fun z => V.str.inj z, fun z => by rw [z]⟩
      rw [e3]
      exact o
    · refine .inr (gen ?_)
      unfold eqD at o
      split at o
      · exact absurd ⟨_, _, rfl, rfl⟩ hi
      · exact absurd ⟨_, _, rfl, rfl⟩ hs
      · exact o
theorem c_eq {n : Nat} (hr : Room n X.A) (h : qE X B env a fun x => qE X B env b fun y => eqD false x y Q) : qC X B env .Eq a b Q :=
  c_cmp0 (OpR.or op_eq (op_eqD hr.units)) (fun F H x y v u Q Qv s rx ry o k => eq_hr (neg := false) F H x y v u Q Qv s rx ry o k) h
theorem c_ne {n : Nat} (hr : Room n X.A) (h : qE X B env a fun x => qE X B env b fun y => eqD true x y Q) : qC X B env .NotEq a b Q :=
  c_cmp0 (OpR.or op_ne (op_neD hr.units)) (fun F H x y v u Q Qv s rx ry o k => eq_hr (neg := true) F H x y v u Q Qv s rx ry o k) h
/-- is None -/
def isNon : D → Bool
  | .non => true
  | _ => false
theorem isNon_v {K : PySem.W.Frag} {F : Hp} : ∀ {d : D} {v : V}, R K F d v → decide (v = .non) = isNon d := fun {d v} h => by
  cases d with
  | non => rw [rNon h]; rfl
  | bl b => rw [rBl h]; rfl
  | int b => rw [rInt h]; rfl
  | str b => rw [rStr h]; rfl
  | ref b => rw [rRef h]; rfl
  | lst l => obtain ⟨a, xs, rfl, _⟩ := rLst h; rfl
  | tup l => obtain ⟨a, xs, rfl, _⟩ := rTup h; rfl
  | dic l => obtain ⟨a, xs, rfl, _⟩ := rDic h; rfl
  | ins C l => obtain ⟨a, dx, xs, rfl, _⟩ := rIns h; rfl
theorem c_isN {j : Nat} {p : Pos} (h : qE X B env a fun x => Q (.bl (isNon x))) : qC X B env .Is a (.Constant .none j p) Q := fun σ F H r Qv k => by
  refine ⟨_, pc_isN pe_w, ?_⟩
  refine h σ F H r _ fun v F1 H1 x l1 rx q => ?_
  refine k _ F1 H1 (.bl (isNon x)) l1 ?_ q
  rw [isNon_v rx]
  exact mkBl _
theorem c_notN {j : Nat} {p : Pos} (h : qE X B env a fun x => Q (.bl (!isNon x))) : qC X B env .IsNot a (.Constant .none j p) Q := fun σ F H r Qv k => by
  refine ⟨_, pc_notN pe_w, ?_⟩
  refine h σ F H r _ fun v F1 H1 x l1 rx q => ?_
  refine k _ F1 H1 (.bl (!isNon x)) l1 ?_ q
  rw [isNon_v rx]
  exact mkBl _
/-- x in l, texts: one sign in a text -/
theorem c_inS (h : qE X B env a fun x => qE X B env b fun y => ∃ (c : Nat) (z : Str), x = .str ⟨#[c]⟩ ∧ y = .str z ∧ Q (.bl (decide (c ∈ z.cps.toList)))) : qC X B env .In a b Q := fun σ F H rp Qv k => by
  refine ⟨_, pc_of op_in_sign pe_w pe_w, ?_⟩
  refine h σ F H rp _ fun v F1 H1 x l1 rx h2 => h2 σ F1 H1 (rp.step l1) _ fun u F2 H2 y l2 ry q => ?_
  obtain ⟨c, z, rfl, rfl, q⟩ := q
  exact ⟨c, z, rStr rx, rStr ry, k _ F2 H2 _ (l1.trans l2) (mkBl _) q⟩
theorem c_ninS (h : qE X B env a fun x => qE X B env b fun y => ∃ (c : Nat) (z : Str), x = .str ⟨#[c]⟩ ∧ y = .str z ∧ Q (.bl (!decide (c ∈ z.cps.toList)))) : qC X B env .NotIn a b Q := fun σ F H rp Qv k => by
  refine ⟨_, pc_of op_notIn_sign pe_w pe_w, ?_⟩
  refine h σ F H rp _ fun v F1 H1 x l1 rx h2 => h2 σ F1 H1 (rp.step l1) _ fun u F2 H2 y l2 ry q => ?_
  obtain ⟨c, z, rfl, rfl, q⟩ := q
  exact ⟨c, z, rStr rx, rStr ry, k _ F2 H2 _ (l1.trans l2) (mkBl _) q⟩
/-- x in l, x not in l: a list or tuple of texts or of ints -/
def flD : D → Option V
  | .int i => some (.int i)
  | .str x => some (.str x)
  | _ => none
theorem flD_v {K : PySem.W.Frag} {F : Hp} : ∀ {d : D} {v w : V}, R K F d v → flD d = some w → v = w ∧ flatV v = true := fun {d v w} h e => by
  cases d with
  | int b => cases e; rw [rInt h]; exact ⟨rfl, rfl⟩
  | str b => cases e; rw [rStr h]; exact ⟨rfl, rfl⟩
  | _ => cases e
def flDs : List D → Option (List V)
  | [] => some []
  | d :: ds => (flD d).bind fun v => (flDs ds).map fun vs => v :: vs
theorem flDs_v {K : PySem.W.Frag} {F : Hp} : ∀ {d : List D} {v w : List V}, RL K F d v → flDs d = some w → v = w ∧ v.all flatV = true
  | [], v, w, h, e => by rw [RL] at h; cases e; subst h; exact ⟨rfl, rfl⟩
  | d :: ds, v, w, h, e => by
    unfold flDs at e
    obtain ⟨x, q1, q2⟩ := Option.bind_eq_some_iff.mp e
    obtain ⟨xs, q3, rfl⟩ := Option.map_eq_some_iff.mp q2
    rw [RL] at h
    obtain ⟨u, us, rfl, h1, h2⟩ := h
    obtain ⟨e1, e2⟩ := flD_v h1 q1
    obtain ⟨e3, e4⟩ := flDs_v h2 q3
    rw [List.all_cons, e2, e4, e1, e3]
    exact ⟨rfl, rfl⟩
def itemsD : D → Option (List D)
  | .lst l => some l
  | .tup l => some l
  | _ => none
theorem itemsD_v {K : PySem.W.Frag} {F : Hp} {d : D} {v : V} {l : List D} (h : R K F d v) (e : itemsD d = some l) : ∃ p xs, v = .ref p ∧ (SqL K F p xs ∨ SqT K F p xs) ∧ RL K F l xs := by
  cases d with
  | lst l => cases e; obtain ⟨a, xs, h1, h2, h3⟩ := rLst h; exact ⟨a, xs, h1, .inl (SqL.of h2), h3⟩
  | tup l => cases e; obtain ⟨a, xs, h1, h2, h3⟩ := rTup h; exact ⟨a, xs, h1, .inr h2, h3⟩
  | _ => cases e
theorem c_inL (h : qE X B env a fun x => qE X B env b fun y => ∃ l vx vl, itemsD y = some l ∧ flD x = some vx ∧ flDs l = some vl ∧ Q (.bl (inV vx vl))) : qC X B env .In a b Q := fun σ F H rp Qv k => by
  refine ⟨_, pc_of op_in_seq pe_w pe_w, ?_⟩
  refine h σ F H rp _ fun v F1 H1 x l1 rx h2 => h2 σ F1 H1 (rp.step l1) _ fun u F2 H2 y l2 ry q => ?_
  obtain ⟨l, vx, vl, e1, e2, e3, q⟩ := q
  obtain ⟨p, xs, rfl, hs, rl⟩ := itemsD_v ry e1
  obtain ⟨z1, z2⟩ := flD_v rx e2
  obtain ⟨z3, z4⟩ := flDs_v rl e3
  have s := ((rp.step l1).step l2).ok.fh
  refine ⟨p, xs, rfl, hs.imp (fun z => s.seq z) (fun z => same_sqT s z), z2, z4, ?_⟩
  rw [z1, z3]
  exact k _ F2 H2 (.bl (inV vx vl)) (l1.trans l2) (mkBl _) q
theorem c_ninL (h : qE X B env a fun x => qE X B env b fun y => ∃ l vx vl, itemsD y = some l ∧ flD x = some vx ∧ flDs l = some vl ∧ Q (.bl (!inV vx vl))) : qC X B env .NotIn a b Q := fun σ F H rp Qv k => by
  refine ⟨_, pc_of op_notIn_seq pe_w pe_w, ?_⟩
  refine h σ F H rp _ fun v F1 H1 x l1 rx h2 => h2 σ F1 H1 (rp.step l1) _ fun u F2 H2 y l2 ry q => ?_
  obtain ⟨l, vx, vl, e1, e2, e3, q⟩ := q
  obtain ⟨p, xs, rfl, hs, rl⟩ := itemsD_v ry e1
  obtain ⟨z1, z2⟩ := flD_v rx e2
  obtain ⟨z3, z4⟩ := flDs_v rl e3
  have s := ((rp.step l1).step l2).ok.fh
  refine ⟨p, xs, rfl, hs.imp (fun z => s.seq z) (fun z => same_sqT s z), z2, z4, ?_⟩
  rw [z1, z3]
  exact k _ F2 H2 (.bl (!inV vx vl)) (l1.trans l2) (mkBl _) q

/-! ### subscripts -/
theorem ix_dct (hu : X.A.units + 1 < cLine) : IxR X (fun x y H Q => ∃ a v, x = .ref a ∧ DGet H a y (some v) ∧ Q v H) := by
  intro value slice pins s σ H x y v u Q I rx ry h hs
  obtain ⟨a, z, rfl, g, q⟩ := h
  cases rx
  exact PyProof.Rows.tail_any (dict_typeIs I g) PySem.F.slot_dict_getitem.lookup (d_getItem hu I g ry fun w' s3 I3 rw' => ⟨z, H, I3, rw', q⟩) hs
/-- o[i] on data -/
def ixD : D → D → (D → Prop) → Prop
  | .lst l, .int i, Q => ∃ d, atI l i = some d ∧ Q d
  | .tup l, .int i, Q => ∃ d, atI l i = some d ∧ Q d
  | .str z, .int i, Q => z.length ≤ 100000 ∧ ∃ c, atI z.cps.toList i = some c ∧ Q (.str ⟨#[c]⟩)
  | .dic l, .str s, Q => ∃ d, dget l (.inr s) = some d ∧ Q d
  | .dic l, .int s, Q => ∃ d, dget l (.inl s) = some d ∧ Q d
  | _, _, _ => False
theorem RL.atI {K : PySem.W.Frag} {F : Hp} {l : List D} {xs : List V} {i : Int} {d : D} (h : RL K F l xs) (e : atI l i = some d) : ∃ v, L2.atI xs i = some v ∧ R K F d v := by
  unfold L2.atI at e ⊢
  rw [h.length]
  obtain ⟨j, e1, e2⟩ := Option.bind_eq_some_iff.mp e
  obtain ⟨v, e3, e4⟩ := h.get e2
  exact ⟨v, by rw [e1]; exact e3, e4⟩
theorem e_ix {n : Nat} (hr : Room n X.A) (h : qE X B env a fun x => qE X B env b fun y => ixD x y Q) (hs : PlainIx b := by exact fun _ _ => rfl) : qE X B env (.Subscript a b pos) Q := fun σ F H rp Qv k => by
  refine ⟨_, pe_ix (IxR.or ix_seq (ix_dct (hu_of hr))) pe_w pe_w hs, ?_⟩
  refine h σ F H rp _ fun v F1 H1 x l1 rx h2 => h2 σ F1 H1 (rp.step l1) _ fun u F2 H2 y l2 ry q => ?_
  have rx := R.mono l2.ff _ _ rx
  have s := ((rp.step l1).step l2).ok.fh
  cases x with
  | lst l =>
    cases y with
    | int i =>
      obtain ⟨d, e, q⟩ := q
      obtain ⟨p, xs, rfl, h1, h3⟩ := rLst rx
      obtain ⟨w, e2, rw'⟩ := h3.atI e
      exact .inl (.inl ⟨p, xs, i, w, rfl, rInt ry, SqL.of (s _ _ h1), e2, k w F2 H2 d (l1.trans l2) rw' q⟩)
    | _ => exact False.elim q
  | tup l =>
    cases y with
    | int i =>
      obtain ⟨d, e, q⟩ := q
      obtain ⟨p, xs, rfl, h1, h3⟩ := rTup rx
      obtain ⟨w, e2, rw'⟩ := h3.atI e
      exact .inl (.inr (.inl ⟨p, xs, i, w, rfl, rInt ry, same_sqT s h1, e2, k w F2 H2 d (l1.trans l2) rw' q⟩))
    | _ => exact False.elim q
  | str z =>
    cases y with
    | int i =>
      obtain ⟨hz, c, e, q⟩ := q
      exact .inl (.inr (.inr ⟨z, i, c, rStr rx, rInt ry, small_le hz, e, k _ F2 H2 (.str ⟨#[c]⟩) (l1.trans l2) (mkStr _) q⟩))
    | _ => exact False.elim q
  | dic l =>
    cases y with
    | str z =>
      obtain ⟨d, e, q⟩ := q
      obtain ⟨p, xs, rfl, h1, h3⟩ := rDic rx
      obtain ⟨w, e2, rw'⟩ := (h3.get (k := .inr z)).1 d e
      refine .inr ⟨p, w, rfl, ?_, k w F2 H2 d (l1.trans l2) rw' q⟩
      rw [rStr ry, ← e2]
      exact DGet.k (k := Sum.inr z) (s _ _ h1)
    | int z =>
      obtain ⟨d, e, q⟩ := q
      obtain ⟨p, xs, rfl, h1, h3⟩ := rDic rx
      obtain ⟨w, e2, rw'⟩ := (h3.get (k := .inl z)).1 d e
      refine .inr ⟨p, w, rfl, ?_, k w F2 H2 d (l1.trans l2) rw' q⟩
      rw [rInt ry, ← e2]
      exact DGet.k (k := Sum.inl z) (s _ _ h1)
    | _ => exact False.elim q
  | _ => exact False.elim q
/-- x[i], x a list that its slot owns -/
theorem e_ixOw {l : List D} {x : Str} {px : Pos} (i : Nat) (he : env[i]? = some (.ow l)) (h : qE X B env b fun y => ∃ n d, y = .int n ∧ atI l n = some d ∧ Q d) (hN : X.N[i]? = some x := by rfl)
    (hv : Vis X.env.scope x := by first | exact Or.inl rfl | exact Or.inr (Or.inl rfl) | exact Or.inr (Or.inr rfl)) (hs : PlainIx b := by exact fun _ _ => rfl)
    (hd : (x == ("__debug__" : Str)) = false := by decide) (hcd : (x == ("__classdict__" : Str)) = false := by decide) : qE X B env (.Subscript (.Name x px) b pos) Q := fun σ F H rp Qv k => by
  refine ⟨_, pe_ix ix_list (pe_var hN hv hd hcd) pe_w hs, ?_⟩
  obtain ⟨p, xs, h1, _⟩ := rp.sl i _ he
  refine ⟨.ref p, h1, ?_⟩
  refine h σ F H rp _ fun u F2 H2 y l2 ry q => ?_
  obtain ⟨n, d, rfl, e, q⟩ := q
  obtain ⟨p', xs', h1', hF, hM, h0, hp, rl⟩ := (rp.step l2).sl i _ he
  rw [h1] at h1'
  cases h1'
  obtain ⟨w, e2, rw'⟩ := rl.atI e
  exact ⟨p, xs', n, w, rfl, rInt ry, SqL.of hp, e2, k w F2 H2 d l2 rw' q⟩
/-- o.f -/
theorem e_fld {f : Str} (h : qE X B env a fun x => ∃ C l d, x = .ins C l ∧ Cls X.K C ∧ NoAttr X.K C f ∧ l.lookup f = some d ∧ Q d) (hb : attributeBase a f X.env (eval a X.env) = eval a X.env := by rfl) : qE X B env (.Attribute a f pos) Q := fun σ F H rp Qv k => by
  refine ⟨_, pe_fld pe_w hb, ?_⟩
  refine h σ F H rp _ fun v F1 H1 x l1 rx q => ?_
  obtain ⟨C, l, d, rfl, c, n, e, q⟩ := q
  obtain ⟨p, dx, fs, rfl, h1, h3⟩ := rIns rx
  obtain ⟨w, e2, rw'⟩ := h3.lookup e
  exact ⟨p, C, dx, fs, w, rfl, (rp.step l1).ok.fh _ _ h1, c, n, e2, k w F1 H1 d l1 rw' q⟩
end
end SY
set_option Elab.async false
set_option linter.all false
set_option maxRecDepth 100000
set_option maxHeartbeats 4000000
/-! SY3: tests, calls of built-ins, methods. -/
namespace SY
open PySem PySem.Spec L2

section
variable {X : Cx} {B : Bs} {env : AE} {pos : Pos} {Q : D → Prop} {e a b : Expr}

/-! ### tests -/
def truD : D → (Bool → Prop) → Prop
  | .non, Q => Q false
  | .bl b, Q => Q b
  | .int i, Q => Q (i != 0)
  | .str x, Q => x.length ≤ 100000 ∧ Q ((x.length : Int) != 0)
  | .lst l, Q => Q (!l.isEmpty)
  | .tup l, Q => Q (!l.isEmpty)
  | .dic l, Q => Q (!l.isEmpty)
  | _, _ => False
theorem RL.isEmpty {K : PySem.W.Frag} {F : Hp} {l : List D} {xs : List V} (h : RL K F l xs) : xs.isEmpty = l.isEmpty := by
  have := h.length
  cases l <;> cases xs <;> simp_all
theorem RD.isEmpty {K : PySem.W.Frag} {F : Hp} {l : List (Key × D)} {xs : List (Key × V)} (h : RD K F l xs) : xs.isEmpty = l.isEmpty := by
  have := h.length
  cases l <;> cases xs <;> simp_all
theorem tru_v {K : PySem.W.Frag} {F H : Hp} {d : D} {v : V} {Q : Bool → Prop} (h : R K F d v) (s : Same F H) (q : truD d Q) : ∃ k, TruV K v H k ∧ Q k := by
  cases d with
  | non => rw [rNon h]; exact ⟨_, rfl, q⟩
  | bl b => rw [rBl h]; exact ⟨_, rfl, q⟩
  | int b => rw [rInt h]; exact ⟨_, rfl, q⟩
  | str b => rw [rStr h]; exact ⟨_, ⟨small_le q.1, rfl⟩, q.2⟩
  | lst l => obtain ⟨a, xs, rfl, h1, h2⟩ := rLst h; exact ⟨_, .inl ⟨xs, SqL.of (s _ _ h1), by rw [h2.isEmpty]⟩, q⟩
  | tup l => obtain ⟨a, xs, rfl, h1, h2⟩ := rTup h; exact ⟨_, .inr (.inl ⟨xs, same_sqT s h1, by rw [h2.isEmpty]⟩), q⟩
  | dic l => obtain ⟨a, xs, rfl, h1, h2⟩ := rDic h; exact ⟨_, .inr (.inr ⟨xs, s _ _ h1, by rw [h2.isEmpty]⟩), q⟩
  | _ => exact False.elim q
theorem t_val {Q : Bool → Prop} (h : qE X B env e fun d => truD d Q) (he : ∀ whole, isTrue e X.env whole = (do let v ← whole; standAt e.pos; holding [v] (truthy v)) := by intro _; rfl) : qT X B env e Q := fun σ F H r Qv k => by
  refine ⟨_, pt_truth pe_w he, ?_⟩
  refine h σ F H r _ fun v F1 H1 d l1 rd q => ?_
  obtain ⟨b, h1, h2⟩ := tru_v rd (r.step l1).ok.fh q
  exact ⟨b, h1, k b F1 H1 l1 h2⟩
theorem t_not {Q : Bool → Prop} (h : qT X B env a fun b => Q (!b)) : qT X B env (.UnaryOp .Not a pos) Q := fun σ F H r Qv k => by
  refine ⟨_, pt_not pt_w, ?_⟩
  exact h σ F H r _ fun b F1 H1 l1 q => k (!b) F1 H1 l1 q
theorem t_bool {op : BoolOp} {es : List Expr} {Q : Bool → Prop} (h : qW X B env (.BoolOp op es pos) Q) : qT X B env (.BoolOp op es pos) Q := fun σ F H r Qv k => by
  obtain ⟨t, h1, h2⟩ := h σ F H r Qv k
  exact ⟨t, h1.pt, h2⟩
theorem w_and1 {Q : Bool → Prop} (h : qT X B env a Q) : qW X B env (.BoolOp .And [a] pos) Q := fun σ F H r Qv k => ⟨_, pw_and1 pt_w, h σ F H r Qv k⟩
theorem w_or1 {Q : Bool → Prop} (h : qT X B env a Q) : qW X B env (.BoolOp .Or [a] pos) Q := fun σ F H r Qv k => ⟨_, pw_or1 pt_w, h σ F H r Qv k⟩
theorem w_and {Q : Bool → Prop} {rest : List Expr} (h : qT X B env a fun c => (c = true → qW X B env (.BoolOp .And (b :: rest) pos) Q) ∧ (c = false → Q false)) : qW X B env (.BoolOp .And (a :: b :: rest) pos) Q := fun σ F H r Qv k => by
  refine ⟨_, pw_and pt_w pw_w, ?_⟩
  refine h σ F H r _ fun c F1 H1 l1 q => ?_
  cases c with
  | true => exact iteT (q.1 rfl σ F1 H1 (r.step l1) Qv fun b F2 H2 l2 q => k b F2 H2 (l1.trans l2) q)
  | false => exact iteF (k false F1 H1 l1 (q.2 rfl))
theorem w_or {Q : Bool → Prop} {rest : List Expr} (h : qT X B env a fun c => (c = true → Q true) ∧ (c = false → qW X B env (.BoolOp .Or (b :: rest) pos) Q)) : qW X B env (.BoolOp .Or (a :: b :: rest) pos) Q := fun σ F H r Qv k => by
  refine ⟨_, pw_or pt_w pw_w, ?_⟩
  refine h σ F H r _ fun c F1 H1 l1 q => ?_
  cases c with
  | true => exact iteT (k true F1 H1 l1 (q.1 rfl))
  | false => exact iteF (q.2 rfl σ F1 H1 (r.step l1) Qv fun b F2 H2 l2 q => k b F2 H2 (l1.trans l2) q)
/-- as values: all but the last are truth values -/
theorem e_one {op : BoolOp} (h : qE X B env a Q) : qE X B env (.BoolOp op [a] pos) Q := fun σ F H r Qv k => ⟨_, pe_one pe_w, h σ F H r Qv k⟩
theorem e_and {rest : List Expr} (h : qE X B env a fun d => ∃ c, d = .bl c ∧ (c = true → qE X B env (.BoolOp .And (b :: rest) pos) Q) ∧ (c = false → Q (.bl false))) : qE X B env (.BoolOp .And (a :: b :: rest) pos) Q := fun σ F H r Qv k => by
  refine ⟨_, pe_and pe_w pe_w, ?_⟩
  refine h σ F H r _ fun v F1 H1 d l1 rd q => ?_
  obtain ⟨c, rfl, q⟩ := q
  refine ⟨c, rBl rd, ?_⟩
  cases c with
  | true => exact iteT (q.1 rfl σ F1 H1 (r.step l1) Qv fun b F2 H2 d l2 rd q => k b F2 H2 d (l1.trans l2) rd q)
  | false => exact iteF (k _ F1 H1 _ l1 (mkBl _) (q.2 rfl))
theorem e_or {rest : List Expr} (h : qE X B env a fun d => ∃ c, d = .bl c ∧ (c = true → Q (.bl true)) ∧ (c = false → qE X B env (.BoolOp .Or (b :: rest) pos) Q)) : qE X B env (.BoolOp .Or (a :: b :: rest) pos) Q := fun σ F H r Qv k => by
  refine ⟨_, pe_or pe_w pe_w, ?_⟩
  refine h σ F H r _ fun v F1 H1 d l1 rd q => ?_
  obtain ⟨c, rfl, q⟩ := q
  refine ⟨c, rBl rd, ?_⟩
  cases c with
  | true => exact iteT (k _ F1 H1 _ l1 (mkBl _) (q.1 rfl))
  | false => exact iteF (q.2 rfl σ F1 H1 (r.step l1) Qv fun b F2 H2 d l2 rd q => k b F2 H2 d (l1.trans l2) rd q)
theorem e_not (h : qE X B env a fun d => ∃ c, d = .bl c ∧ Q (.bl (!c))) : qE X B env (.UnaryOp .Not a pos) Q := fun σ F H r Qv k => by
  refine ⟨_, pe_not pe_w, ?_⟩
  refine h σ F H r _ fun v F1 H1 d l1 rd q => ?_
  obtain ⟨c, rfl, q⟩ := q
  exact ⟨c, rBl rd, k _ F1 H1 _ l1 (mkBl _) q⟩
theorem e_if {c : Expr} (h : qT X B env c fun t => (t = true → qE X B env a Q) ∧ (t = false → qE X B env b Q)) : qE X B env (.IfExp c a b pos) Q := fun σ F H r Qv k => by
  refine ⟨_, pe_ifExp pt_w pe_w pe_w, ?_⟩
  refine h σ F H r _ fun c F1 H1 l1 q => ?_
  cases c with
  | true => exact iteT (q.1 rfl σ F1 H1 (r.step l1) Qv fun b F2 H2 d l2 rd q => k b F2 H2 d (l1.trans l2) rd q)
  | false => exact iteF (q.2 rfl σ F1 H1 (r.step l1) Qv fun b F2 H2 d l2 rd q => k b F2 H2 d (l1.trans l2) rd q)
theorem e_chain {c : Expr} {op op' : CmpOp} {r r' : R2} {R0 R1 : D → D → (D → Prop) → Prop} (hm : lastMarks [op, op'] [b, c] = false) (ho : OpR X (compareOp op) r) (ho' : OpR X (compareOp op') r')
    (hr : ∀ F H x y v u (Q : D → Prop) (Qv : VK), Same F H → R X.K F x v → R X.K F y u → R0 x y Q → (∀ d v, R X.K F d v → Q d → Qv v H) → r v u H Qv)
    (hr' : ∀ F H x y v u (Q : D → Prop) (Qv : VK), Same F H → R X.K F x v → R X.K F y u → R1 x y Q → (∀ d v, R X.K F d v → Q d → Qv v H) → r' v u H Qv)
    (h : qE X B env a fun x => qE X B env b fun y => R0 x y fun d => ∃ k, d = .bl k ∧ (k = true → qE X B env c fun z => R1 y z Q) ∧ (k = false → Q (.bl false))) : qE X B env (.Compare a [op, op'] [b, c] pos) Q := fun σ F H rp Qv k => by
  refine ⟨_, pe_chain ho ho' pe_w pe_w pe_w hm, ?_⟩
  refine h σ F H rp _ fun v F1 H1 x l1 rx h2 => h2 σ F1 H1 (rp.step l1) _ fun u F2 H2 y l2 ry q => ?_
  refine hr F2 H2 x y v u _ _ ((rp.step l1).step l2).ok.fh (R.mono l2.ff _ _ rx) ry q fun d w rd q => ?_
  obtain ⟨c, rfl, q⟩ := q
  refine ⟨c, rBl rd, ?_⟩
  cases c with
  | true =>
    refine iteT (q.1 rfl σ F2 H2 ((rp.step l1).step l2) _ fun w F3 H3 z l3 rz q => ?_)
    exact hr' F3 H3 y z u w Q Qv (((rp.step l1).step l2).step l3).ok.fh (R.mono l3.ff _ _ ry) rz q fun d v rd q => k v F3 H3 d ((l1.trans l2).trans l3) rd q
  | false => exact iteF (k _ F2 H2 _ (l1.trans l2) (mkBl _) (q.2 rfl))
/-- a ≤ b < c of ints -/
theorem e_leLt {c : Expr} (h : qE X B env a fun x => qE X B env b fun y => leD x y fun d => ∃ k, d = .bl k ∧ (k = true → qE X B env c fun z => ltD y z Q) ∧ (k = false → Q (.bl false))) : qE X B env (.Compare a [.LtE, .Lt] [b, c] pos) Q :=
  e_chain (show behindInMarks .Lt c = false from nobehind c (by decide) (by decide)) (OpR.or op_le op_le_str) (OpR.or op_lt op_lt_str) ord_hr ord_hr h

/-! ### built-in functions -/
/-- built-in names that the text leaves alone -/
structure Free (mg : Str → Option Value) : Prop where
  abs : mg "abs" = none
  all : mg "all" = none
  any : mg "any" = none
  bool : mg "bool" = none
  dict : mg "dict" = none
  enumerate : mg "enumerate" = none
  int : mg "int" = none
  isinstance : mg "isinstance" = none
  len : mg "len" = none
  list : mg "list" = none
  max : mg "max" = none
  min : mg "min" = none
  range : mg "range" = none
  sorted : mg "sorted" = none
  str : mg "str" = none
  sum : mg "sum" = none
  tuple : mg "tuple" = none
  zip : mg "zip" = none
def lenD : D → (D → Prop) → Prop
  | .lst l, Q => Q (.int (l.length : Nat))
  | .tup l, Q => Q (.int (l.length : Nat))
  | .str x, Q => x.length ≤ 100000 ∧ Q (.int (x.length : Nat))
  | .dic l, Q => Q (.int (l.length : Nat))
  | _, _ => False
variable {p : Pos}
/-- a built-in of one argument, by its rule on values -/
theorem e_b1 {x : Str} {id : String} {r : List V → Hp → VK → Prop} {R0 : D → (D → Prop) → Prop} (hc : CallR X (.builtin id) r) (hm : X.mg x = none) (hv : bootBuiltins x = some (.builtin id))
    (hr : ∀ F H d v (Q : D → Prop) (Qv : VK), Same F H → R X.K F d v → R0 d Q → (∀ d v, R X.K F d v → Q d → Qv v H) → r [v] H Qv)
    (h : qE X B env a fun d => R0 d Q) (hg : Gl X x := by rfl) (hn : x ≠ "__name__" := by decide) (hdb : (x == ("__debug__" : Str)) = false := by decide)
    (he : starEach [a] X.env = (false, eval a X.env) :: starEach [] X.env := by rfl) (hpl : (backTo pos (starEach [] X.env)).any (·.1) = false := by rfl) : qE X B env (.Call (.Name x p) [a] [] pos) Q := fun σ F H rp Qv k => by
  refine ⟨_, pe_callB hc hg hm hv (pa_cons pe_w pa_nil he) hn hdb he hpl, ?_⟩
  refine h σ F H rp _ fun v F1 H1 d l1 rd q => ?_
  exact hr F1 H1 d v Q Qv (rp.step l1).ok.fh rd q fun d v rd q => k v F1 H1 d l1 rd q
theorem e_len (fr : Free X.mg) (h : qE X B env a fun d => lenD d Q) (hg : Gl X "len" := by rfl) (he : starEach [a] X.env = (false, eval a X.env) :: starEach [] X.env := by rfl) : qE X B env (.Call (.Name "len" p) [a] [] pos) Q :=
  e_b1 (CallR.or call_len_seq (CallR.or call_len_str call_lenD)) fr.len PySem.boot_len (fun F H d v Q Qv s rd q k => by
    cases d with
    | lst l => obtain ⟨a, xs, rfl, h1, h2⟩ := rLst rd; exact .inl ⟨a, xs, rfl, .inl (SqL.of (s _ _ h1)), k (.int (l.length : Nat)) _ (by rw [h2.length]; exact mkInt _) q⟩
    | tup l => obtain ⟨a, xs, rfl, h1, h2⟩ := rTup rd; exact .inl ⟨a, xs, rfl, .inr (same_sqT s h1), k (.int (l.length : Nat)) _ (by rw [h2.length]; exact mkInt _) q⟩
    | str x => exact .inr (.inl ⟨x, by rw [rStr rd], small_le q.1, k _ _ (mkInt _) q.2⟩)
    | dic l => obtain ⟨a, xs, rfl, h1, h2⟩ := rDic rd; exact .inr (.inr ⟨a, xs, rfl, s _ _ h1, k (.int (l.length : Nat)) _ (by rw [h2.length]; exact mkInt _) q⟩)
    | _ => exact False.elim q) h hg (by decide) (by decide) he
theorem e_abs (fr : Free X.mg) (h : qE X B env a fun d => ∃ i, d = .int i ∧ Q (.int (if i < 0 then -i else i))) (hg : Gl X "abs" := by rfl) (he : starEach [a] X.env = (false, eval a X.env) :: starEach [] X.env := by rfl) : qE X B env (.Call (.Name "abs" p) [a] [] pos) Q :=
  e_b1 (R0 := fun d Q => ∃ i, d = .int i ∧ Q (.int (if i < 0 then -i else i))) call_abs fr.abs (by decide +kernel) (fun F H d v Q Qv s rd q k => by
    obtain ⟨i, rfl, q⟩ := q
    exact ⟨i, by rw [rInt rd], k _ _ (mkInt _) q⟩) h hg (by decide) (by decide) he
/-- sum(l), all(l), any(l): a list of ints, of truth values -/
def intsD : List D → Option (List Int)
  | [] => some []
  | .int i :: ds => (intsD ds).map (i :: ·)
  | _ => none
theorem intsD_v {K : PySem.W.Frag} {F : Hp} : ∀ {l : List D} {xs : List V} {ns : List Int}, RL K F l xs → intsD l = some ns → xs = ns.map V.int
  | [], _, _, h, e => by rw [RL] at h; cases e; exact h
  | d :: ds, _, _, h, e => by
    rw [RL] at h
    obtain ⟨x, xs, rfl, h1, h2⟩ := h
    cases d with
    | int i =>
      obtain ⟨ns, e1, rfl⟩ := Option.map_eq_some_iff.mp e
      rw [rInt h1, intsD_v h2 e1]
      rfl
    | _ => cases e
def blsD : List D → Option (List Bool)
  | [] => some []
  | .bl i :: ds => (blsD ds).map (i :: ·)
  | _ => none
theorem blsD_v {K : PySem.W.Frag} {F : Hp} : ∀ {l : List D} {xs : List V} {ns : List Bool}, RL K F l xs → blsD l = some ns → xs = ns.map V.bl
  | [], _, _, h, e => by rw [RL] at h; cases e; exact h
  | d :: ds, _, _, h, e => by
    rw [RL] at h
    obtain ⟨x, xs, rfl, h1, h2⟩ := h
    cases d with
    | bl i =>
      obtain ⟨ns, e1, rfl⟩ := Option.map_eq_some_iff.mp e
      rw [rBl h1, blsD_v h2 e1]
      rfl
    | _ => cases e
theorem e_sum (fr : Free X.mg) (hc : X.calm = true) (h : qE X B env a fun d => ∃ l ns, d = .lst l ∧ intsD l = some ns ∧ Q (.int ns.sum)) (hg : Gl X "sum" := by rfl) (he : starEach [a] X.env = (false, eval a X.env) :: starEach [] X.env := by rfl) : qE X B env (.Call (.Name "sum" p) [a] [] pos) Q :=
  e_b1 (R0 := fun d Q => ∃ l ns, d = .lst l ∧ intsD l = some ns ∧ Q (.int ns.sum)) (cr_sum hc) fr.sum (by decide +kernel) (fun F H d v Q Qv s rd q k => by
    obtain ⟨l, ns, rfl, e, q⟩ := q
    obtain ⟨a, xs, rfl, h1, h2⟩ := rLst rd
    have e2 := intsD_v h2 e
    subst e2
    exact ⟨a, ns, rfl, SqL.of (s _ _ h1), k _ _ (mkInt _) q⟩) h hg (by decide) (by decide) he
theorem e_all (fr : Free X.mg) (hc : X.calm = true) (h : qE X B env a fun d => ∃ l ns, d = .lst l ∧ blsD l = some ns ∧ Q (.bl (ns.all id))) (hg : Gl X "all" := by rfl) (he : starEach [a] X.env = (false, eval a X.env) :: starEach [] X.env := by rfl) : qE X B env (.Call (.Name "all" p) [a] [] pos) Q :=
  e_b1 (R0 := fun d Q => ∃ l ns, d = .lst l ∧ blsD l = some ns ∧ Q (.bl (ns.all id))) (cr_all hc) fr.all (by decide +kernel) (fun F H d v Q Qv s rd q k => by
    obtain ⟨l, ns, rfl, e, q⟩ := q
    obtain ⟨a, xs, rfl, h1, h2⟩ := rLst rd
    have e2 := blsD_v h2 e
    subst e2
    exact ⟨a, ns, rfl, SqL.of (s _ _ h1), k _ _ (mkBl _) q⟩) h hg (by decide) (by decide) he
/-- max(a, b) of ints -/
theorem e_max2 (fr : Free X.mg) (hc : X.calm = true) (h : qE X B env a fun x => qE X B env b fun y => ∃ i j, x = .int i ∧ y = .int j ∧ Q (.int (if j > i then j else i))) (hg : Gl X "max" := by rfl)
    (he : starEach [a, b] X.env = (false, eval a X.env) :: starEach [b] X.env := by rfl) (he2 : starEach [b] X.env = (false, eval b X.env) :: starEach [] X.env := by rfl) (hpl : (backTo pos (starEach [b] X.env)).any (·.1) = false := by rfl) : qE X B env (.Call (.Name "max" p) [a, b] [] pos) Q := fun σ F H rp Qv k => by
  refine ⟨_, pe_callB (call_max2 hc) hg fr.max (by decide +kernel) (pa_cons pe_w (pa_cons pe_w pa_nil he2) he) (by decide) (by decide) he hpl, ?_⟩
  refine h σ F H rp _ fun v F1 H1 x l1 rx h2 => h2 σ F1 H1 (rp.step l1) _ fun u F2 H2 y l2 ry q => ?_
  obtain ⟨i, j, rfl, rfl, q⟩ := q
  exact ⟨i, j, by rw [rInt rx, rInt ry], k _ F2 H2 _ (l1.trans l2) (mkInt _) q⟩
/-- a built-in type called with one argument -/
theorem e_t1 {x : Str} {T : String} {r : List V → Hp → VK → Prop} {R0 : D → (D → Prop) → Prop} (hc : CallR X (.type T) r) (hm : X.mg x = none) (hv : bootBuiltins x = some (.type T))
    (hr : ∀ F H d v (Q : D → Prop) (Qv : VK), WOk B.W F H → R X.K F d v → R0 d Q → (∀ F' H' d v, Le B.W F H F' H' → R X.K F' d v → Q d → Qv v H') → r [v] H Qv)
    (h : qE X B env a fun d => R0 d Q) (hg : Gl X x := by rfl) (hn : x ≠ "__name__" := by decide) (hdb : (x == ("__debug__" : Str)) = false := by decide)
    (he : starEach [a] X.env = (false, eval a X.env) :: starEach [] X.env := by rfl) (hpl : (backTo pos (starEach [] X.env)).any (·.1) = false := by rfl) : qE X B env (.Call (.Name x p) [a] [] pos) Q := fun σ F H rp Qv k => by
  refine ⟨_, pe_callTy hc hg hm hv (pa_cons pe_w pa_nil he) hn hdb he hpl, ?_⟩
  refine h σ F H rp _ fun v F1 H1 d l1 rd q => ?_
  exact hr F1 H1 d v Q Qv (rp.step l1).ok rd q fun F' H' d v l2 rd q => k v F' H' d (l1.trans l2) rd q
def intD : D → (D → Prop) → Prop
  | .int i, Q => Q (.int i)
  | .bl b, Q => Q (.int (if b then 1 else 0))
  | _, _ => False
theorem e_toInt (fr : Free X.mg) (h : qE X B env a fun d => intD d Q) (hg : Gl X "int" := by rfl) (he : starEach [a] X.env = (false, eval a X.env) :: starEach [] X.env := by rfl) : qE X B env (.Call (.Name "int" p) [a] [] pos) Q :=
  e_t1 call_int1 fr.int (by decide +kernel) (fun F H d v Q Qv s rd q k => by
    cases d with
    | int i => exact .inl ⟨i, by rw [rInt rd], k F H _ _ (Le.refl s) (mkInt _) q⟩
    | bl b => exact .inr ⟨b, by rw [rBl rd], k F H _ _ (Le.refl s) (mkInt _) q⟩
    | _ => exact False.elim q) h hg (by decide) (by decide) he
end
end SY
set_option Elab.async false
set_option linter.all false
set_option maxRecDepth 100000
set_option maxHeartbeats 4000000
/-! SY4: slices, tuple(..), list(..), isinstance, gcd, join, index, fields. -/
namespace SY
open PySem PySem.Spec L2

/-- xs[lo:hi] -/
def cutA {α : Type} (xs : List α) (lo hi : Option Int) : List α := (xs.drop (HT.sIx xs.length 0 lo)).take (HT.sIx xs.length xs.length hi - HT.sIx xs.length 0 lo)
theorem RL.cut {K : PySem.W.Frag} {F : Hp} {ds : List D} {vs : List V} (h : RL K F ds vs) (lo hi : Option Int) : RL K F (cutA ds lo hi) (cutV vs lo hi) := by
  unfold cutA cutV
  rw [h.length]
  exact (h.drop _).take _
def wP (X : Cx) (e : Option Expr) : TO := fun σ H Q => ∃ t, PO X e t ∧ t σ H Q
theorem po_w {X : Cx} {e : Option Expr} : PO X e (wP X e) := ⟨fun pins s σ H Q I ⟨t, h, q⟩ => h.run pins s σ H Q I q⟩
def qP (X : Cx) (B : Bs) (env : AE) (e : Option Expr) (Q : Option Int → Prop) : Prop :=
  ∀ σ F H, Rep X.K B F H σ env → ∀ Qv : Option Int → Hp → Prop, (∀ o F' H', Le B.W F H F' H' → Q o → Qv o H') → wP X e σ H Qv
/-- what a slice gives -/
def slD : D → Option Int → Option Int → (D → Prop) → Prop
  | .lst l, lo, hi, Q => Q (.lst (cutA l lo hi))
  | .tup l, lo, hi, Q => Q (.tup (cutA l lo hi))
  | .str x, lo, hi, Q => x.length ≤ 100000 ∧ Q (.str (cutS x lo hi))
  | _, _, _, _ => False
def revD : D → (D → Prop) → Prop
  | .lst l, Q => Q (.lst l.reverse)
  | .str x, Q => x.length ≤ 100000 ∧ Q (.str ⟨x.cps.toList.reverse.toArray⟩)
  | _, _ => False
section
variable {X : Cx} {B : Bs} {env : AE} {pos p2 : Pos} {Q : D → Prop} {e a b : Expr}
theorem p_none {Q : Option Int → Prop} (q : Q none) : qP X B env none Q := fun σ F H r Qv k => ⟨_, po_none, k none F H (Le.refl r.ok) q⟩
theorem p_some {Q : Option Int → Prop} (h : qE X B env e fun d => ∃ i, d = .int i ∧ Q (some i)) : qP X B env (some e) Q := fun σ F H r Qv k => by
  refine ⟨_, po_some pe_w, ?_⟩
  refine h σ F H r _ fun v F1 H1 d l1 rd q => ?_
  obtain ⟨i, rfl, q⟩ := q
  exact ⟨i, rInt rd, k _ F1 H1 l1 q⟩
theorem e_sl {lo hi : Option Expr} (h : qE X B env e fun x => qP X B env lo fun l => qP X B env hi fun u => slD x l u Q) : qE X B env (.Subscript e (.Slice lo hi none p2) pos) Q := fun σ F H rp Qv k => by
  refine ⟨_, pe_slice (SlR.or sl_list (SlR.or sl_tupA sl_str)) pe_w po_w po_w, ?_⟩
  refine h σ F H rp _ fun v F1 H1 x l1 rx h2 => h2 σ F1 H1 (rp.step l1) _ fun l F2 H2 l2 h3 => h3 σ F2 H2 ((rp.step l1).step l2) _ fun u F3 H3 l3 q => ?_
  have k3 := (((rp.step l1).step l2).step l3).ok
  have rx3 := R.mono (l2.ff.trans l3.ff) _ _ rx
  have lt := (l1.trans l2).trans l3
  cases x with
  | lst xs =>
    obtain ⟨p, vs, rfl, h1, h2⟩ := rLst rx3
    refine .inl ⟨p, vs, rfl, SqL.of (k3.fh _ _ h1), fun c hc => ?_⟩
    have l4 := Le.new (o := .lst (cutV vs l u)) k3 hc
    exact k _ _ _ _ (lt.trans l4) (mkLst upd_same ((RL.cut h2 l u).mono l4.ff)) q
  | tup xs =>
    obtain ⟨p, vs, rfl, h1, h2⟩ := rTup rx3
    refine .inr (.inl ⟨p, vs, rfl, same_sqT k3.fh h1, fun w => ?_, fun _ c hc => ?_⟩)
    · refine k _ F3 H3 _ lt (mkTup h1 ?_) q
      have e1 := h2.length
      rw [e1] at w
      have e2 : cutA xs l u = xs := by
        unfold cutA
        rw [w.1, w.2]
        simp
      rw [e2]
      exact h2
    · have l4 := Le.new (o := .tup (cutV vs l u)) k3 hc
      exact k _ _ _ _ (lt.trans l4) (mkTup (SqT.of upd_same) ((RL.cut h2 l u).mono l4.ff)) q
  | str z => exact .inr (.inr ⟨z, rStr rx3, small_le q.1, k _ F3 H3 _ lt (mkStr _) q.2⟩)
  | _ => exact False.elim q
end

/-! ### text[::-1] -/
end SY
namespace L2
open PySem PySem.Spec PyProof.Rows
theorem sliceRev (n : Nat) : Builtin.Str.strSliceIndices none none (-1) n = (List.range n).reverse := by
  have h := PySem.W.krv_sliceRange n
  show PySem.sliceRange ((n : Int) - 1) (-1) (-1) = _
  rw [h]
  refine List.ext_getElem (by simp) fun i h1 h2 => ?_
  simp
theorem revText (z : Str) : (⟨((Builtin.Str.strSliceIndices none none (-1) z.length).filterMap (z.cps[·]?)).toArray⟩ : Str) = ⟨z.cps.toList.reverse.toArray⟩ := by
  rw [sliceRev]
  have e : ∀ l : List Nat, (List.range l.length).filterMap (l[·]?) = l := fun l => by
    induction l with
    | nil => rfl
    | cons a l ih =>
      rw [List.length_cons, List.range_succ_eq_map, List.filterMap_cons, List.filterMap_map]
      simp only [List.getElem?_cons_zero]
      congr 1
  have e2 := e z.cps.toList
  have e3 : (z.length) = z.cps.toList.length := by simp [Str.length]
  rw [List.filterMap_reverse, e3]
  have e4 : (fun x : Nat => z.cps[x]?) = (fun x : Nat => z.cps.toList[x]?) := by funext x; simp
  rw [e4, e2]
def tRevX (K : PySem.W.Frag) (te : TE) : TE := fun σ H Q => te σ H fun x H1 => (∃ a xs, x = .ref a ∧ SqL K H1 a xs ∧ ∀ p, H1 p = none → Q (.ref p) (upd H1 p (.lst xs.reverse))) ∨ ∃ z, x = .str z ∧ z.length ≤ sizeLine ∧ Q (.str ⟨z.cps.toList.reverse.toArray⟩) H1
theorem pe_revX {X : Cx} {e : Expr} {te : TE} {k : Nat} {p1 p2 p3 pos : Pos} (he : PE X e te) : PE X (.Subscript e (.Slice none none (some (.UnaryOp .USub (.Constant (.int 1) k p1) p2)) p3) pos) (tRevX X.K te) := by
  refine ⟨fun pins s σ H Q I h => ?_⟩
  refine Subscript_ (thn (he.run pins s σ H _ I h) fun v s1 ⟨x, H1, I1, r1, q1⟩ => ?_)
  have hst : PO X (some (.UnaryOp .USub (.Constant (.int 1) k p1) p2)) (tPart (tUn (rU fun i => .int (-i)) (tC (.int 1)))) := po_some (pe_un un_neg pe_int)
  refine wpAny_Slice (thn (po_none.run pins s1 σ H1 (fun o H2 => o = none ∧ H2 = H1) I1 ⟨rfl, rfl⟩) fun vl s2 ⟨l, H2, I2, pl, el, e2⟩ => ?_)
  subst el e2
  refine thn (po_none.run pins s2 σ H2 (fun o H3 => o = none ∧ H3 = H2) I2 ⟨rfl, rfl⟩) fun vu s3 ⟨u, H3, I3, pu, eu, e3⟩ => ?_
  subst eu e3
  refine thn (hst.run pins s3 σ H3 (fun o H4 => o = some (-1) ∧ H4 = H3) I3 ⟨1, rfl, -1, rfl, rfl, rfl⟩) fun vs s4 ⟨o, H4, I4, ps, eo, e4⟩ => ?_
  subst eo e4
  have I5 : Inv X pins σ H4 { s4 with heap := s4.heap.push { cls := .type "slice", data := .fields #[vl, vu, vs] } } := I4.kept (t' := s4.toks) fun b ob q => Heap.get?_push_of_some _ q
  rcases q1 with ⟨a, xs, ex, hx, q⟩ | ⟨z, ex, hz, q⟩
  · subst ex
    cases r1
    obtain ⟨its, r, ht, hz⟩ := I5.list hx
    have hlen := r.length
    show wpAny (model X.prog X.w) X.A (subscriptTail e (.Slice none none (some (.UnaryOp .USub (.Constant (.int 1) k p1) p2)) p3) (.ref a) (.ref s4.heap.objs.size)) (EP X pins σ Q) X.xe { s4 with heap := s4.heap.push { cls := .type "slice", data := .fields #[vl, vu, vs] } }
    refine tail_any (ops := [.ref a, .ref s4.heap.objs.size]) ht.isList.typeIs (PySem.slot_list_getitem.lookup) ?_ (by with_unfolding_all rfl)
    refine wpAny_getItem_list_slice ht.isList (Heap.IsSliceOf.new _ vl vu vs) pl pu ps (by decide) ?_ (by rw [List.size_toArray]; omega)
    rw [PySem.W.krv_pick]
    refine ⟨.ref _, _, I5.laid (t' := s4.toks) (o := .lst xs.reverse) (fun b ob q => Heap.get?_push_of_some _ q) (Nat.le_refl _) ?_, rfl, q _ (I5.hok.fresh (Nat.le_refl _))⟩
    exact ⟨by rw [List.length_reverse]; exact hz, _, 0, r.reverse, Heap.get?_push_size _ rfl⟩
  · subst ex
    obtain ⟨t, rfl⟩ := r1
    obtain ⟨l, rfl, hl1⟩ := IsPart.raw pl
    obtain ⟨u, rfl, hu1⟩ := IsPart.raw pu
    obtain ⟨st, rfl, hs1⟩ := IsPart.raw ps
    refine tail_any (ops := [.str z t, .ref s4.heap.objs.size]) (typeIs_str _ _ _) F.slot_str_getitem.lookup ?_ (by with_unfolding_all rfl)
    refine wpAny_getItem_str_slice (l := l) (u := u) (st := st) (Heap.IsSliceOf.new _ _ _ _) (by rw [hs1]; rfl) ?_
    have e : sliceMade z t l u st = Made.str ⟨z.cps.toList.reverse.toArray⟩ := by
      unfold sliceMade slicePicked
      rw [hl1, hu1, hs1]
      show (if (((-1 : Int) == 1) && _) = true then _ else Made.str ⟨((Builtin.Str.strSliceIndices none none (-1) z.length).filterMap (z.cps[·]?)).toArray⟩) = _
      rw [if_neg (by rw [show ((-1 : Int) == 1) = false from rfl]; simp), revText]
    rw [e]
    refine ⟨?_, .str _, H4, I5.tok _, ⟨_, rfl⟩, q⟩
    show (z.cps.toList.reverse.toArray).size ≤ sizeLine
    rw [List.size_toArray, List.length_reverse, Array.length_toList]
    exact hz
end L2
namespace SY
open PySem PySem.Spec L2
section
variable {X : Cx} {B : Bs} {env : AE} {pos p2 p : Pos} {Q : D → Prop} {e a b : Expr}
theorem e_rev {k : Nat} {p1 p3 : Pos} (h : qE X B env e fun x => revD x Q) : qE X B env (.Subscript e (.Slice none none (some (.UnaryOp .USub (.Constant (.int 1) k p1) p2)) p3) pos) Q := fun σ F H rp Qv k => by
  refine ⟨_, pe_revX pe_w, ?_⟩
  refine h σ F H rp _ fun v F1 H1 x l1 rx q => ?_
  have k1 := (rp.step l1).ok
  cases x with
  | lst xs =>
    obtain ⟨p, vs, rfl, h1, h2⟩ := rLst rx
    refine .inl ⟨p, vs, rfl, SqL.of (k1.fh _ _ h1), fun c hc => ?_⟩
    have l4 := Le.new (o := .lst vs.reverse) k1 hc
    exact k _ _ _ _ (l1.trans l4) (mkLst upd_same (h2.reverse.mono l4.ff)) q
  | str z => exact .inr ⟨z, rStr rx, small_le q.1, k _ F1 H1 _ l1 (mkStr _) q.2⟩
  | _ => exact False.elim q

/-! ### tuple(x), list(x) -/
def tupD : D → (D → Prop) → Prop
  | .lst l, Q => Q (.tup l)
  | .tup l, Q => Q (.tup l)
  | _, _ => False
theorem e_tuple (fr : Free X.mg) (h : qE X B env a fun d => tupD d Q) (hg : Gl X "tuple" := by rfl) (he : starEach [a] X.env = (false, eval a X.env) :: starEach [] X.env := by rfl) : qE X B env (.Call (.Name "tuple" p) [a] [] pos) Q :=
  e_t1 call_tuple_of fr.tuple (by decide +kernel) (fun F H d v Q Qv s rd q k => by
    cases d with
    | lst l =>
      obtain ⟨c, xs, rfl, h1, h2⟩ := rLst rd
      refine ⟨c, xs, rfl, .inl ⟨SqL.of (s.fh _ _ h1), fun q2 hq => ?_⟩⟩
      have l4 := Le.new (o := .tup xs) s hq
      exact k _ _ _ _ l4 (mkTup (SqT.of upd_same) (h2.mono l4.ff)) q
    | tup l =>
      obtain ⟨c, xs, rfl, h1, h2⟩ := rTup rd
      exact ⟨c, xs, rfl, .inr ⟨same_sqT s.fh h1, k _ _ _ _ (Le.refl s) (mkTup h1 h2) q⟩⟩
    | _ => exact False.elim q) h hg (by decide) (by decide) he
/-- list(x), a new list; x a list or a tuple -/
def lisD : D → (List D → Prop) → Prop
  | .lst l, Q => Q l
  | .tup l, Q => Q l
  | _, _ => False
theorem o_list {Q : List D → Prop} (fr : Free X.mg) (h : qE X B env a fun d => lisD d Q) (hg : Gl X "list" := by rfl) (he : starEach [a] X.env = (false, eval a X.env) :: starEach [] X.env := by rfl) (hpl : (backTo pos (starEach [] X.env)).any (·.1) = false := by rfl) : qO X B env (.Call (.Name "list" p) [a] [] pos) Q := fun σ F H rp Qv k => by
  refine ⟨_, pe_callTy call_list_of hg fr.list (by decide +kernel) (pa_cons pe_w pa_nil he) (by decide) (by decide) he hpl, ?_⟩
  refine h σ F H rp _ fun v F1 H1 d l1 rd q => ?_
  have k1 := (rp.step l1).ok
  have go : ∀ l xs c, (SqL X.K H1 c xs ∨ SqT X.K H1 c xs) → RL X.K F1 l xs → Q l → ∃ p ys, [V.ref c] = [.ref p] ∧ (SqL X.K H1 p ys ∨ SqT X.K H1 p ys) ∧ ∀ l, H1 l = none → Qv (.ref l) (upd H1 l (.lst ys)) := fun l xs c h1 h2 q =>
    ⟨c, xs, rfl, h1, fun c2 hc => k c2 xs F1 _ l (l1.trans (Le.own k1 hc)) (l1.free hc) (k1.fh.free hc) upd_same h2 q⟩
  cases d with
  | lst l =>
    obtain ⟨c, xs, rfl, h1, h2⟩ := rLst rd
    exact go l xs c (.inl (SqL.of (k1.fh _ _ h1))) h2 q
  | tup l =>
    obtain ⟨c, xs, rfl, h1, h2⟩ := rTup rd
    exact go l xs c (.inr (same_sqT k1.fh h1)) h2 q
  | _ => exact False.elim q

/-! ### isinstance(x, T), T a built-in type or a class -/
/-- the type of a datum -/
def tyD : D → Option String
  | .non => some "NoneType"
  | .bl _ => some "bool"
  | .int _ => some "int"
  | .str _ => some "str"
  | .lst _ => some "list"
  | .tup _ => some "tuple"
  | .dic _ => some "dict"
  | _ => none
theorem tyD_v {K : PySem.W.Frag} {F H : Hp} {d : D} {v : V} {t : String} (s : Same F H) (r : R K F d v) (e : tyD d = some t) : TyX K H v (.type t) := by
  cases d with
  | non => cases e; rw [rNon r]; exact .base .non
  | bl b => cases e; rw [rBl r]; exact .base (.bl b)
  | int b => cases e; rw [rInt r]; exact .base (.int b)
  | str b => cases e; rw [rStr r]; exact .base (.str b)
  | lst l => cases e; obtain ⟨a, xs, rfl, h1, _⟩ := rLst r; exact .base (.lst (s _ _ h1))
  | tup l =>
    cases e
    obtain ⟨a, xs, rfl, h1, _⟩ := rTup r
    rcases same_sqT s h1 with (h | ⟨o, h⟩) | h
    · exact .base (.tup h)
    · exact .fTuple h
    · obtain ⟨o, its, n, h1, h2, _⟩ := h
      exact .kTuple h1 h2
  | dic l => cases e; obtain ⟨a, xs, rfl, h1, _⟩ := rDic r; exact .base (.dK (s _ _ h1))
  | _ => cases e
theorem e_isi {T t : String} {x : Str} {p1 : Pos} (fr : Free X.mg) (h : qE X B env a fun d => ∃ t b, tyD d = some t ∧ kitB t T = some b ∧ Q (.bl b)) (hb : X.mg x = none) (hT : bootBuiltins x = some (.type T)) (hg : Gl X "isinstance" := by rfl) (hgx : Gl X x := by rfl)
    (hnx : x ≠ "__name__" := by decide) (hdx : (x == ("__debug__" : Str)) = false := by decide) (he : starEach [a, .Name x p1] X.env = (false, eval a X.env) :: starEach [.Name x p1] X.env := by rfl) (he2 : starEach [.Name x p1] X.env = (false, eval (.Name x p1) X.env) :: starEach [] X.env := by rfl)
    (hpl : (backTo pos (starEach [.Name x p1] X.env)).any (·.1) = false := by rfl) : qE X B env (.Call (.Name "isinstance" p) [a, .Name x p1] [] pos) Q := fun σ F H rp Qv k => by
  refine ⟨_, pe_callB call_isi hg fr.isinstance (by decide +kernel) (pa_cons pe_w (pa_cons (pe_bltn (v := .ty T) hgx hb hT rfl hnx hdx) pa_nil he2) he) (by decide) (by decide) he hpl, ?_⟩
  refine h σ F H rp _ fun v F1 H1 d l1 rd q => ?_
  obtain ⟨t, b, h1, h2, q⟩ := q
  exact ⟨v, .ty T, .type t, .type T, b, rfl, .ty T, tyD_v (rp.step l1).ok.fh rd h1, kit_ty h2, k _ F1 H1 _ l1 (mkBl _) q⟩
end
end SY
set_option Elab.async false
set_option linter.all false
set_option maxRecDepth 100000
set_option maxHeartbeats 4000000
/-! SY5: for and comprehensions over enumerate and zip of lists, tuples, texts in any mix. -/
namespace L2
open PySem PySem.Spec PyProof.Rows

inductive SK where
  | l | t | s
/-- what v yields, in order: a list, a tuple, a text -/
def srcAt (K : PySem.W.Frag) (H : Hp) : SK → V → List V → Prop
  | .l, .ref a, vs => SqL K H a vs
  | .t, .ref a, vs => SqT K H a vs
  | .s, .str x, vs => vs = x.cps.toList.map fun c => V.str ⟨#[c]⟩
  | _, _, _ => False
/-- an iterator of v: at turn i its cell is as St says; ad: what it reads -/
structure SrcIt (P : Program) (w : World) (K : PySem.W.Frag) (k : SK) (v : V) (vs : List V) (ad : List Addr) (o : Obj) (iSt : Addr → Nat → Heap → Prop) : Prop where
  obj : ∀ it i h, iSt it i h → ∃ o, h.get? it = some o ∧ ∀ v, o.data ≠ .cell v
  keep : ∀ it i h h', iSt it i h → (∀ o, h.get? it = some o → h'.get? it = some o) → iSt it i h'
  zero : ∀ it h, h.get? it = some o → iSt it 0 h
  draws : ∀ X : Cx, X.prog = P → X.w = w → X.K = K → X.calm = true → ∀ (pins : List (Addr × Obj)) (s : Shared) (σ : St) (H : Hp) (it : Addr), Inv X pins σ H s → srcAt K H k v vs → it ∉ ad →
    ∃ (Pp : Nat → Value → Prop) (Stt : Nat → Heap → Prop), Draws P w X.A.in1 it (it :: ad) vs.length Pp Stt ∧ (∀ i, iSt it i s.heap → Stt i s.heap) ∧ (∀ i h, Stt i h → iSt it i h) ∧ ∀ i u, Pp i u → ∃ x, vs[i]? = some x ∧ RelV x u
theorem Vals.getV {xs : List V} {us : List Value} {i : Nat} {u : Value} (r : Vals xs us) (h : us[i]? = some u) : ∃ x, xs[i]? = some x ∧ RelV x u := by
  have hl := r.length
  have hi : i < us.length := (List.getElem?_eq_some_iff.mp h).1
  have hx : xs[i]? = some xs[i] := List.getElem?_eq_getElem (by omega)
  obtain ⟨w, e, rw'⟩ := r.get hx
  rw [h] at e
  cases e
  exact ⟨_, hx, rw'⟩
theorem src_begin {P : Program} {w : World} {K : PySem.W.Frag} {X : Cx} {pins : List (Addr × Obj)} {σ : St} {H : Hp} {s : Shared} {k : SK} {v : V} {u : Value} {vs : List V} (hK : X.K = K) (I : Inv X pins σ H s) (r : RelV v u) (h : srcAt K H k v vs) :
    ∃ (o : Obj) (Hh : Heap → Prop) (iSt : Addr → Nat → Heap → Prop) (ad : List Addr), Begins u o Hh ∧ Hh s.heap ∧ (∀ b ∈ ad, b < s.heap.objs.size) ∧ SrcIt P w K k v vs ad o iSt := by
  subst hK
  cases k with
  | s =>
    cases v with
    | str x =>
      obtain ⟨t, rfl⟩ := r
      have hvs : vs = x.cps.toList.map fun c => V.str ⟨#[c]⟩ := h
      have hl : vs.length = x.cps.size := by rw [hvs]; simp
      refine ⟨_, _, fun it i h => h.IsStrIter it (strIterType x) x t i, [], begins_text x t, trivial, fun b hb => by simp at hb, ?_, ?_, ?_, ?_⟩
      · intro it i h ⟨o, e, c, d⟩
        exact ⟨o, e, fun v z => by rw [d] at z; cases z⟩
      · intro it i h h' ⟨o, e, c⟩ k
        exact ⟨o, k o e, c⟩
      · intro it h e
        exact ⟨_, e, rfl, rfl⟩
      · intro X' hP hw hK hc pins s σ H it I _ _
        have D0 := Draws.text (prog := P) (w := w) (A := X'.A.in1) (show X'.A.in1.handled = none from I.ok.hd hc) it x t
        rw [← hl] at D0
        refine ⟨_, _, D0, fun i z => z, fun i h z => z, ?_⟩
        rintro i u ⟨c, tk, hcx, rfl⟩
        refine ⟨.str ⟨#[c]⟩, ?_, tk, rfl⟩
        rw [hvs, List.getElem?_map]
        have : x.cps.toList[i]? = some c := by simpa using hcx
        rw [this] <;> rfl
    | _ => exact False.elim h
  | l =>
    cases v with
    | ref a =>
      cases r
      have h : SqL X.K H a vs := h
      obtain ⟨its, rv, p, hz⟩ := I.list h
      refine ⟨_, _, fun it i h => h.IsListIter it a i, [a], begins_list a its.toArray, p.isList, fun b hb => ?_, ?_, ?_, ?_, ?_⟩
      · have e : b = a := by simpa using hb
        rw [e]; exact p.lt
      · intro it i h ⟨o, e, c, d⟩
        exact ⟨o, e, fun v z => by rw [d] at z; cases z⟩
      · intro it i h h' st k
        exact st.at k
      · intro it h e
        exact ⟨_, e, rfl, rfl⟩
      · intro X' hP hw hK hc pins s σ H it I hs hne
        have hne' : a ≠ it := fun z => hne (by simp [z])
        have hs' : SqL X'.K H a vs := hK ▸ hs
        obtain ⟨its2, rv2, p2, hz2⟩ := I.list hs'
        have hl2 := rv2.length
        have e : its2.toArray.size = vs.length := by simp [hl2]
        have D0 := Draws.list (prog := P) (w := w) (A := X'.A.in1) (show X'.A.in1.handled = none from I.ok.hd hc) it a hne' its2.toArray
        rw [e] at D0
        refine ⟨_, _, D0, fun i z => ⟨z, p2.isList⟩, fun i h z => z.1, ?_⟩
        intro i u hu
        exact rv2.getV (by simpa using hu)
    | _ => exact False.elim h
  | t =>
    cases v with
    | ref a =>
      cases r
      have h : SqT X.K H a vs := h
      obtain ⟨its, rv, p, hz⟩ := I.tuple h
      refine ⟨_, _, fun it i h => h.IsTupleIter it a i, [a], begins_tuple a its.toArray, p, fun b hb => ?_, ?_, ?_, ?_, ?_⟩
      · have e : b = a := by simpa using hb
        obtain ⟨o, ho, _⟩ := id p
        rw [e]; exact Heap.lt_size ho
      · intro it i h ⟨o, e, c, d⟩
        exact ⟨o, e, fun v z => by rw [d] at z; cases z⟩
      · intro it i h h' st k
        exact st.at k
      · intro it h e
        exact ⟨_, e, rfl, rfl⟩
      · intro X' hP hw hK hc pins s σ H it I hs hne
        have hne' : a ≠ it := fun z => hne (by simp [z])
        have hs' : SqT X'.K H a vs := hK ▸ hs
        obtain ⟨its2, rv2, p2, hz2⟩ := I.tuple hs'
        have hl2 := rv2.length
        have e : its2.toArray.size = vs.length := by simp [hl2]
        have D0 := Draws.tuple (prog := P) (w := w) (A := X'.A.in1) (show X'.A.in1.handled = none from I.ok.hd hc) it a hne' its2.toArray
        rw [e] at D0
        refine ⟨_, _, D0, fun i z => ⟨z, p2⟩, fun i h z => z.1, ?_⟩
        intro i u hu
        exact rv2.getV (by simpa using hu)
    | _ => exact False.elim h

/-! ### enumerate -/
def JEn (K : PySem.W.Frag) (k : SK) (v : V) (vs : List V) : It :=
  ⟨fun i H => srcAt K H k v vs ∧ i < vs.length, fun i H y H' => ∃ T x, y = .ref T ∧ H T = none ∧ H' = upd H T (.tup [.int (i : Nat), x]) ∧ vs[i]? = some x, fun i H => srcAt K H k v vs ∧ i = vs.length⟩
theorem turn_en {P : Program} {w : World} {K : PySem.W.Frag} {elts : List Expr} {kk : Nat} {tpos : Pos} {k : SK} {v : V} {vs : List V} {ad : List Addr} {o : Obj} {iSt : Addr → Nat → Heap → Prop} (S : SrcIt P w K k v vs ad o iSt) (e it : Addr) (hei : e ≠ it) (hea : e ∉ ad) (hia : it ∉ ad) :
    Turn P w K (.Tuple elts kk tpos) (JEn K k v vs) [e, it] e (fun i h => (∃ old, IsEnum h e it ((i : Nat) : Int) old) ∧ iSt it i h) where
  mem := by simp
  obj := fun i h st b hb => by
    obtain ⟨⟨old, he⟩, hi⟩ := st
    have e' : b = e ∨ b = it := by simpa using hb
    rcases e' with z | z
    · rw [z]; exact ⟨_, he, fun v q => nomatch q⟩
    · rw [z]; exact S.obj _ _ _ hi
  keep := fun i h h' st k => let ⟨⟨old, he⟩, hi⟩ := st; ⟨⟨old, k e (by simp) _ he⟩, S.keep _ _ _ _ hi fun o q => k it (by simp) o q⟩
  item := by
    intro X hP hw hK hc i pins s σ H E I hf st hg
    obtain ⟨⟨old, he⟩, hit⟩ := st
    obtain ⟨hs, hlt⟩ := hg
    obtain ⟨Pp, Stt, Dr, d1, d2, d3⟩ := S.draws X hP hw hK hc pins s σ H it I hs hia
    have hel : e < s.heap.objs.size := Heap.lt_size he
    have hil : it < s.heap.objs.size := by obtain ⟨_, q, _⟩ := S.obj _ _ _ hit; exact Heap.lt_size q
    have hef : e ∉ it :: ad := fun z => by
      rcases List.mem_cons.mp z with z | z
      · exact hei z
      · exact hea z
    refine wpAny_pyNext_enum_itemD Dr he (d1 _ hit) hlt hei hef fun u h' tk hPp ho hst hT hsz hk => ?_
    obtain ⟨x, hx, ru⟩ := d3 i u hPp
    refine ⟨_, rfl, wpAny_letOwnedTupleGo_enum (s := { s with heap := h', toks := tk + 1 }) ho fun h'' he' sb => ?_⟩
    have hT2 : h''.get? s.heap.objs.size = some { cls := .type "tuple", data := .seq #[.int i tk, u] } := (sb.2 _ (Nat.ne_of_gt hel)).trans hT
    have new : ObjOk X.prog X.w (upd H s.heap.objs.size (.tup [.int (i : Nat), x])) h'' s.heap.objs.size (.tup [.int (i : Nat), x]) :=
      ⟨by show 2 ≤ sizeLine; decide, [.int i tk, u], .cons ⟨_, rfl⟩ (.cons ru .nil), ⟨_, hT2, rfl, _, rfl⟩⟩
    have I1 : Inv X pins σ (upd H s.heap.objs.size (.tup [.int (i : Nat), x])) { s with heap := h'', toks := tk + 1 } :=
      I.turnedNew (ch := [e, it]) (fun b ob hb q => (sb.2 b (fun z => hb (by simp [z]))).trans (hk b ob (fun z => hb (by simp [z])) (fun z => hb (by simp [z])) q)) hf (Nat.le_refl _) new
    refine ⟨.ref s.heap.objs.size, _, I1, rfl, ⟨_, x, rfl, I.hok.fresh (Nat.le_refl _), rfl, hx⟩, ⟨⟨u, ?_⟩, S.keep _ _ _ _ (d2 _ _ hst) fun o q => (sb.2 it (Ne.symm hei)).trans q⟩, fun b hb => ?_⟩
    · have e1 : ((i + 1 : Nat) : Int) = (i : Int) + 1 := by omega
      rw [e1]; exact he'
    · have hb' : b < s.heap.objs.size := by
        have e' : b = e ∨ b = it := by simpa using hb
        rcases e' with z | z
        · rw [z]; exact hel
        · rw [z]; exact hil
      rw [upd_ne (Nat.ne_of_lt hb')]
      exact (hf b hb).1
  done := by
    intro X hP hw hK hc i pins s σ H E I hf st hg
    obtain ⟨⟨old, he⟩, hit⟩ := st
    obtain ⟨hs, rfl⟩ := hg
    obtain ⟨Pp, Stt, Dr, d1, d2, d3⟩ := S.draws X hP hw hK hc pins s σ H it I hs hia
    obtain ⟨f0, f1, f2, f3, f4, f5⟩ := hf it (by simp)
    exact wpAny_pyNext_enum_endD Dr he (d1 _ hit) fun h' eb => ⟨rfl, I.turned (t' := s.toks) (fun b o hb q => eb b o hb q) f0 f1 f3 f4 f5⟩
  self := fun A i s Q E st h => let ⟨⟨_, he⟩, _⟩ := st; wpAny_pyIter_enum he h
set_option maxHeartbeats 8000000 in
theorem meets_enumerate_new1 {v : Value} {o : Obj} {H : Heap → Prop} (B : Begins v o H) :
    Meets (Builtin.«enumerate.__new__» ⟨[.type "enumerate", v], []⟩) (fun _ R s => H s.heap ∧
      R (.ok (.ret (.ref (s.heap.push o).objs.size))) { s with heap := (s.heap.push o).push { cls := .type "enumerate", data := .fields #[.none, .bool false, .ref s.heap.objs.size, rawInt 0, .none, .none] } }) :=
  .of_wp fun prog w A R s h => by
    obtain ⟨hp, g, d, tk, os⟩ := s; obtain ⟨h1, h⟩ := h
    have hsub := sub_enumerate
    have q1 : ∀ {A' : Around} {E : Value → Shared → Prop} {Q : Value → Shared → Prop}, Q (.ref hp.objs.size) ⟨hp.push o, g, d, tk, os⟩ → wpAny (model prog w) A' (pyIter v) Q E ⟨hp, g, d, tk, os⟩ :=
      fun q => B.iter prog w _ _ ⟨hp, g, d, tk, os⟩ _ h1 q
    wp_walk using q1
    refine wpAny_stack_any fun st => wpAny_pure ?_
    split
    · rename_i c _ _ _ _ _
      cases (c == Value.type "enumerate")
      · wp_walk using q1
        exact ⟨_, rfl, h⟩
      · wp_walk using q1
        exact ⟨_, rfl, h⟩
    · wp_walk using q1
      exact ⟨_, rfl, h⟩
section
variable {prog : Program} {w : World} {A : Around} {E : Value → Shared → Prop} {s : Shared}
theorem enum_begins1 {v : Value} {o : Obj} {H : Heap → Prop} {Q : Value → Shared → Prop} (B : Begins v o H) (h1 : H s.heap)
    (h : ∀ h', IsEnum h' (s.heap.objs.size + 1) s.heap.objs.size 0 .none → h'.get? s.heap.objs.size = some o → h'.objs.size = s.heap.objs.size + 2 →
      (∀ b o, s.heap.get? b = some o → h'.get? b = some o) → Q (.ref (s.heap.objs.size + 1)) { s with heap := h' }) :
    wpAny (model prog w) A (call (.type "enumerate") [v]) Q E s := by
  refine callType_new F.called_enumerate (by decide) (F.typeCall_enumerate_1 _) (F.newCall_enumerate_1 _) (fun obj => F.args_object_init_2 obj _) F.entry_enumerate_new
    (meets_enumerate_new1 B) ⟨h1, ?_⟩
  have hz : (s.heap.push o).objs.size = s.heap.objs.size + 1 := Heap.size_push ..
  show _ ∧ _
  rw [hz]
  have he : IsEnum ((s.heap.push o).push { cls := .type "enumerate", data := .fields #[.none, .bool false, .ref s.heap.objs.size, rawInt 0, .none, .none] }) (s.heap.objs.size + 1) s.heap.objs.size 0 .none := by
    have := Heap.get?_push_size (s.heap.push o) (o := { cls := .type "enumerate", data := .fields #[.none, .bool false, .ref s.heap.objs.size, rawInt 0, .none, .none] }) rfl
    rw [hz] at this; exact this
  refine ⟨⟨_, he, rfl⟩, h _ he (Heap.get?_push_of_some _ (Heap.get?_push_size _ B.free)) (by rw [Heap.size_push, hz]) fun b o x => Heap.get?_push_of_some _ (Heap.get?_push_of_some _ x)⟩
end
def iEn (K : PySem.W.Frag) (ta : TA) : TI := fun σ H R => ta σ H fun vs H1 => ∃ k v xs, vs = [v] ∧ srcAt K H1 k v xs ∧ R (JEn K k v xs) H1
theorem pi_en {X : Cx} {e : Expr} {ta : TA} {p pos tpos : Pos} {elts : List Expr} {kk : Nat} (hg : Gl X "enumerate") (hm : X.mg "enumerate" = none) (ha : PA X [e] ta) (hs : starEach [e] X.env = [(false, eval e X.env)] := by rfl) :
    PI X (.Tuple elts kk tpos) (.Call (.Name "enumerate" p) [e] [] pos) (iEn X.K ta) := by
  refine ⟨fun pins s σ H R I h => ?_⟩
  refine Call_ (ld_blt I hg hm boot_enumerate (PyProof.Rows.callWith_type1 (thn (ha.run pos pins s σ H _ I h) fun us s1 ⟨vs, H1, I1, r1, q1⟩ => ?_) hs rfl))
  obtain ⟨k, v, xs, ex, hq, q⟩ := q1
  subst ex
  cases r1 with
  | cons r rr =>
    cases rr
    obtain ⟨o, Hh, iSt, ad, B, hh, hlt, S⟩ := src_begin (P := X.prog) (w := X.w) rfl I1 r hq
    refine enum_begins1 B hh fun h' he hit hsz hk => wpAny_pyIter_enum he ?_
    have I2 : Inv X pins σ H1 { s1 with heap := h' } := I1.kept (t' := s1.toks) hk
    have na : ∀ n, s1.heap.objs.size + n ∉ ad := fun n z => absurd (hlt _ z) (Nat.not_lt.mpr (Nat.le_add_right _ _))
    refine ⟨s1.heap.objs.size + 1, [s1.heap.objs.size + 1, s1.heap.objs.size], _, _, H1, rfl, I2, turn_en S (s1.heap.objs.size + 1) s1.heap.objs.size (Nat.succ_ne_self _) (na 1) (na 0), ⟨⟨.none, he⟩, S.zero _ _ hit⟩, fun b hb => ?_, q⟩
    have e' : b = s1.heap.objs.size + 1 ∨ b = s1.heap.objs.size := by simpa using hb
    have hle : s1.heap.objs.size ≤ b := by
      rcases e' with z | z
      · rw [z]; exact Nat.le_add_right _ _
      · rw [z]; exact Nat.le_refl _
    exact I1.fpOk hle (I1.hok.fresh hle)

/-! ### zip -/
def JZip (K : PySem.W.Frag) (k k2 : SK) (v v2 : V) (vs vs2 : List V) : It :=
  ⟨fun i H => (srcAt K H k v vs ∧ srcAt K H k2 v2 vs2) ∧ i < vs.length ∧ i < vs2.length, fun i H y H' => ∃ T x x2, y = .ref T ∧ H T = none ∧ H' = upd H T (.tup [x, x2]) ∧ vs[i]? = some x ∧ vs2[i]? = some x2,
    fun i H => (srcAt K H k v vs ∧ srcAt K H k2 v2 vs2) ∧ i = min vs.length vs2.length⟩
theorem turn_zp {P : Program} {w : World} {K : PySem.W.Frag} {elts : List Expr} {kk : Nat} {tpos : Pos} {k k2 : SK} {v v2 : V} {vs vs2 : List V} {ad ad2 : List Addr} {o o2 : Obj} {iSt iSt2 : Addr → Nat → Heap → Prop} (S : SrcIt P w K k v vs ad o iSt) (S2 : SrcIt P w K k2 v2 vs2 ad2 o2 iSt2)
    (z TI TO i1 i2 : Addr) (D : ZipSep2 z TI TO i1 i2 (i1 :: ad) (i2 :: ad2)) (h1 : i1 ∉ ad) (h2 : i2 ∉ ad2) :
    Turn P w K (.Tuple elts kk tpos) (JZip K k k2 v v2 vs vs2) [z, TI, TO, i1, i2] z (fun i h => IsZip h z TI TO .none ∧ IsTupOf2 h TI (.ref i1) (.ref i2) ∧ (∃ a1 a2, IsTupOf2 h TO a1 a2) ∧ iSt i1 i h ∧ iSt2 i2 i h) where
  mem := by simp
  obj := fun i h st c hc => by
    obtain ⟨hz, hTI, ⟨x, y, hTO⟩, s1, s2⟩ := st
    have e' : c = z ∨ c = TI ∨ c = TO ∨ c = i1 ∨ c = i2 := by simpa using hc
    rcases e' with q | q | q | q | q
    · rw [q]; exact ⟨_, hz, fun v q => nomatch q⟩
    · rw [q]; exact ⟨_, hTI, fun v q => nomatch q⟩
    · rw [q]; exact ⟨_, hTO, fun v q => nomatch q⟩
    · rw [q]; exact S.obj _ _ _ s1
    · rw [q]; exact S2.obj _ _ _ s2
  keep := fun i h h' st k => by
    obtain ⟨hz, hTI, ⟨x, y, hTO⟩, s1, s2⟩ := st
    exact ⟨k z (by simp) _ hz, k TI (by simp) _ hTI, ⟨x, y, k TO (by simp) _ hTO⟩, S.keep _ _ _ _ s1 fun o q => k i1 (by simp) o q, S2.keep _ _ _ _ s2 fun o q => k i2 (by simp) o q⟩
  item := by
    intro X hP hw hK hc i pins s σ H E I hf st hg
    obtain ⟨hz, hTI, ⟨a1, a2, hTO⟩, s1, s2⟩ := st
    obtain ⟨⟨hs, hs2⟩, hlt, hlt2⟩ := hg
    obtain ⟨Pp, Stt, Dr, d1, d2, d3⟩ := S.draws X hP hw hK hc pins s σ H i1 I hs h1
    obtain ⟨Pp2, Stt2, Dr2, d12, d22, d32⟩ := S2.draws X hP hw hK hc pins s σ H i2 I hs2 h2
    have hzl : z < s.heap.objs.size := Heap.lt_size hz
    refine wpAny_pyNext_zipD2_item D Dr Dr2 hz hTI hTO (d1 _ s1) (d12 _ s2) hlt hlt2 fun u u2 h' tk p1 p2 z' TO' st1 st2 hT hsz hk => ?_
    obtain ⟨x, hx, ru⟩ := d3 i u p1
    obtain ⟨x2, hx2, ru2⟩ := d32 i u2 p2
    refine ⟨_, rfl, wpAny_letOwnedTupleGo_zip (s := { s with heap := h', toks := tk }) z' fun h'' z'' sb => ?_⟩
    have hT2 : h''.get? s.heap.objs.size = some { cls := .type "tuple", data := .seq #[u, u2] } := (sb.2 _ (Nat.ne_of_gt hzl)).trans hT
    have new : ObjOk X.prog X.w (upd H s.heap.objs.size (.tup [x, x2])) h'' s.heap.objs.size (.tup [x, x2]) :=
      ⟨by show 2 ≤ sizeLine; decide, [u, u2], .cons ru (.cons ru2 .nil), ⟨_, hT2, rfl, _, rfl⟩⟩
    have I1 : Inv X pins σ (upd H s.heap.objs.size (.tup [x, x2])) { s with heap := h'', toks := tk } :=
      I.turnedNew (t' := tk) (ch := [z, TI, TO, i1, i2]) (fun c o hb q => (sb.2 c (fun q' => hb (by simp [q']))).trans (hk c o (fun q' => hb (by simp [q'])) (fun q' => hb (by simp [q'])) (fun q' => hb (by simp [q'])) (fun q' => hb (by simp [q'])) q)) hf (Nat.le_refl _) new
    refine ⟨.ref s.heap.objs.size, _, I1, rfl, ⟨_, x, x2, rfl, I.hok.fresh (Nat.le_refl _), rfl, hx, hx2⟩, ⟨z'', ?_, ⟨u, u2, ?_⟩, ?_, ?_⟩, fun c hcm => ?_⟩
    · exact (sb.2 _ D.TIz).trans (hk _ _ D.TIz D.TITO D.TIi1 D.TIi2 hTI)
    · exact (sb.2 _ D.TOz).trans TO'
    · exact S.keep _ _ _ _ (d2 _ _ st1) fun o q => (sb.2 _ (Ne.symm D.zi1)).trans q
    · exact S2.keep _ _ _ _ (d22 _ _ st2) fun o q => (sb.2 _ (Ne.symm D.zi2)).trans q
    · have hlt : c < s.heap.objs.size := by
        have e' : c = z ∨ c = TI ∨ c = TO ∨ c = i1 ∨ c = i2 := by simpa using hcm
        rcases e' with q | q | q | q | q
        · rw [q]; exact hzl
        · rw [q]; exact Heap.lt_size hTI
        · rw [q]; exact Heap.lt_size hTO
        · rw [q]; obtain ⟨_, e1, _⟩ := S.obj _ _ _ s1; exact Heap.lt_size e1
        · rw [q]; obtain ⟨_, e2, _⟩ := S2.obj _ _ _ s2; exact Heap.lt_size e2
      rw [upd_ne (Nat.ne_of_lt hlt)]
      exact (hf c hcm).1
  done := by
    intro X hP hw hK hc i pins s σ H E I hf st hg
    obtain ⟨hz, hTI, ⟨a1, a2, hTO⟩, s1, s2⟩ := st
    obtain ⟨⟨hs, hs2⟩, hi⟩ := hg
    obtain ⟨Pp, Stt, Dr, d1, d2, d3⟩ := S.draws X hP hw hK hc pins s σ H i1 I hs h1
    obtain ⟨Pp2, Stt2, Dr2, d12, d22, d32⟩ := S2.draws X hP hw hK hc pins s σ H i2 I hs2 h2
    exact wpAny_pyNext_zipD2_end D Dr Dr2 hz hTI hTO (d1 _ s1) (d12 _ s2) (by omega) (by omega) (by omega) fun h' tk hk => ⟨rfl, I.turnedL (t' := tk) (ch := [z, TI, TO, i1, i2]) (fun c o hb q =>
      hk c o (fun q' => hb (by simp [q'])) (fun q' => hb (by simp [q'])) (fun q' => hb (by simp [q'])) (fun q' => hb (by simp [q'])) q) hf⟩
  self := fun A i s Q E st h => wpAny_pyIter_zip st.1 h
def iZp (K : PySem.W.Frag) (ta : TA) : TI := fun σ H R => ta σ H fun vs H1 => ∃ k k2 v v2 xs xs2, vs = [v, v2] ∧ srcAt K H1 k v xs ∧ srcAt K H1 k2 v2 xs2 ∧ R (JZip K k k2 v v2 xs xs2) H1
theorem pi_zp {X : Cx} {e e2 : Expr} {ta : TA} {p pos tpos : Pos} {elts : List Expr} {kk : Nat} (hg : Gl X "zip") (hm : X.mg "zip" = none) (ha : PA X [e, e2] ta)
    (hs : starEach [e, e2] X.env = (false, eval e X.env) :: starEach [e2] X.env := by rfl) (hpl : (backTo pos (starEach [e2] X.env)).any (·.1) = false := by rfl) :
    PI X (.Tuple elts kk tpos) (.Call (.Name "zip" p) [e, e2] [] pos) (iZp X.K ta) := by
  refine ⟨fun pins s σ H R I h => ?_⟩
  refine Call_ (ld_blt I hg hm PyProof.Rows.boot_zip (PyProof.Rows.callWith_type1 (thn (ha.run pos pins s σ H _ I h) fun us s1 ⟨vs, H1, I1, r1, q1⟩ => ?_) hs hpl))
  obtain ⟨k, k2, v, v2, xs, xs2, ex, hq, hq2, q⟩ := q1
  subst ex
  cases r1 with
  | cons r rr =>
    cases rr with
    | cons r' rr =>
      cases rr
      obtain ⟨o, Hh, iSt, ad, B, hh, hlt, S⟩ := src_begin (P := X.prog) (w := X.w) rfl I1 r hq
      obtain ⟨o2, Hh2, iSt2, ad2, B2, hh2, hlt2, S2⟩ := src_begin (P := X.prog) (w := X.w) rfl I1 r' hq2
      refine zip_begins2 B B2 hh hh2 fun h' hz hTI hTO g1 g2 hsz hk => wpAny_pyIter_zip hz ?_
      have I2 : Inv X pins σ H1 { s1 with heap := h' } := I1.kept (t' := s1.toks) hk
      have na : ∀ n, s1.heap.objs.size + n ∉ ad := fun n z => absurd (hlt _ z) (Nat.not_lt.mpr (Nat.le_add_right _ _))
      have na2 : ∀ n, s1.heap.objs.size + n ∉ ad2 := fun n z => absurd (hlt2 _ z) (Nat.not_lt.mpr (Nat.le_add_right _ _))
      refine ⟨s1.heap.objs.size + 4, [s1.heap.objs.size + 4, s1.heap.objs.size + 2, s1.heap.objs.size + 3, s1.heap.objs.size, s1.heap.objs.size + 1], _, _, H1, rfl, I2,
        turn_zp S S2 _ _ _ _ _ (zip_sep2 hlt hlt2) (na 0) (na2 1), ⟨hz, hTI, ⟨_, _, hTO⟩, S.zero _ _ g1, S2.zero _ _ g2⟩, fun c hcm => ?_, q⟩
      have e' : c = s1.heap.objs.size + 4 ∨ c = s1.heap.objs.size + 2 ∨ c = s1.heap.objs.size + 3 ∨ c = s1.heap.objs.size ∨ c = s1.heap.objs.size + 1 := by simpa using hcm
      have hle : s1.heap.objs.size ≤ c := by
        rcases e' with z | z | z | z | z
        · rw [z]; exact Nat.le_add_right _ _
        · rw [z]; exact Nat.le_add_right _ _
        · rw [z]; exact Nat.le_add_right _ _
        · rw [z]; exact Nat.le_refl _
        · rw [z]; exact Nat.le_add_right _ _
      exact I1.fpOk hle (I1.hok.fresh hle)
end L2
set_option Elab.async false
set_option linter.all false
set_option maxRecDepth 100000
set_option maxHeartbeats 4000000
/-! SY6: iterators, comprehensions. -/
namespace L2
open PySem PySem.Spec PyProof.Rows
def itOf (K : PySem.W.Frag) : SK → V → It
  | .l, .ref a => Itl K a
  | .t, .ref a => Itt K a
  | _, .str x => Its x
  | _, _ => Itr 0 0
def iAny (K : PySem.W.Frag) (te : TE) : TI := fun σ H R => te σ H fun v H1 => ∃ k vs, srcAt K H1 k v vs ∧ R (itOf K k v) H1
theorem pi_any {X : Cx} {tg e : Expr} {te : TE} (he : PE X e te) : PI X tg e (iAny X.K te) := by
  refine ⟨fun pins s σ H R I h => ?_⟩
  refine thn (he.run pins s σ H _ I h) fun u s1 ⟨v, H1, I1, r1, k, vs, hs, q⟩ => ?_
  cases k with
  | l =>
    cases v with
    | ref a =>
      cases r1
      have hs : SqL X.K H1 a vs := hs
      obtain ⟨its, rv, p, hz⟩ := I1.list hs
      refine wpAny_pyIter_list p.isList ?_
      refine ⟨s1.heap.objs.size, [s1.heap.objs.size], _, _, H1, rfl, I1.kept (t' := s1.toks) fun b o e => Heap.get?_push_of_some _ e, turn_list a _, ⟨_, Heap.get?_push_size _ rfl, rfl, rfl⟩, fun b hb => ?_, q⟩
      have e : b = s1.heap.objs.size := by simpa using hb
      subst e
      exact I1.fpOk (Nat.le_refl _) (I1.hok.fresh (Nat.le_refl _))
    | _ => exact False.elim hs
  | t =>
    cases v with
    | ref a =>
      cases r1
      have hs : SqT X.K H1 a vs := hs
      obtain ⟨its, rv, p, hz⟩ := I1.tuple hs
      refine wpAny_pyIter_tuple (show s1.heap.IsTuple a its.toArray from p) ?_
      refine ⟨s1.heap.objs.size, [s1.heap.objs.size], _, _, H1, rfl, I1.kept (t' := s1.toks) fun b o e => Heap.get?_push_of_some _ e, turn_tuple a _, ⟨_, Heap.get?_push_size _ rfl, rfl, rfl⟩, fun b hb => ?_, q⟩
      have e : b = s1.heap.objs.size := by simpa using hb
      subst e
      exact I1.fpOk (Nat.le_refl _) (I1.hok.fresh (Nat.le_refl _))
    | _ => exact False.elim hs
  | s =>
    cases v with
    | str x =>
      obtain ⟨t, rfl⟩ := r1
      cases ha : x.cps.all (· < 128)
      · exact wpAny_pyIter_wide ha (pi_one (tk := s1.toks) I1 _ (turn_str _ x t "str_iterator" (.inr rfl)) ⟨_, Heap.get?_push_size _ rfl, rfl, rfl⟩ q)
      · exact wpAny_pyIter_ascii ha (pi_one (tk := s1.toks) I1 _ (turn_str _ x t "str_ascii_iterator" (.inl rfl)) ⟨_, Heap.get?_push_size _ rfl, rfl, rfl⟩ q)
    | _ => exact False.elim hs
end L2
namespace SY
open PySem PySem.Spec L2

/-- what a value yields -/
def seqD : D → Option (List D)
  | .lst l => some l
  | .tup l => some l
  | .str x => some (x.cps.toList.map fun c => .str ⟨#[c]⟩)
  | _ => none
theorem signs_rl {K : PySem.W.Frag} {F : Hp} : ∀ l : List Nat, RL K F (l.map fun c => D.str ⟨#[c]⟩) (l.map fun c => V.str ⟨#[c]⟩)
  | [] => RL.nil
  | c :: l => RL.cons (mkStr _) (signs_rl l)
theorem srcAt_mono {K : PySem.W.Frag} {F H : Hp} {k : SK} {v : V} {vs : List V} (s : Same F H) (h : srcAt K F k v vs) : srcAt K H k v vs := by
  cases k with
  | l =>
    cases v with
    | ref a =>
      rcases h with (h | ⟨o, h⟩) | h
      · exact .inl (.inl (s _ _ h))
      · exact .inl (.inr ⟨o, s _ _ h⟩)
      · exact .inr h
    | _ => exact h
  | t =>
    cases v with
    | ref a => exact same_sqT s h
    | _ => exact h
  | s =>
    cases v with
    | str x => exact h
    | _ => exact h
theorem seqD_src {K : PySem.W.Frag} {F : Hp} {d : D} {v : V} {l : List D} (r : R K F d v) (e : seqD d = some l) : ∃ k vs, srcAt K F k v vs ∧ RL K F l vs := by
  cases d with
  | lst l => cases e; obtain ⟨a, xs, rfl, h1, h2⟩ := rLst r; exact ⟨.l, xs, SqL.of h1, h2⟩
  | tup l => cases e; obtain ⟨a, xs, rfl, h1, h2⟩ := rTup r; exact ⟨.t, xs, h1, h2⟩
  | str x => cases e; rw [rStr r]; exact ⟨.s, _, rfl, signs_rl _⟩
  | _ => cases e
/-- the iterators keep on telling the items -/
theorem itOk_of {K : PySem.W.Frag} {W : Wd} {F : Hp} {k : SK} {v : V} {vs : List V} {l : List D} (h : srcAt K F k v vs) (r : RL K F l vs) : ItOk K W (itOf K k v) F l := by
  have hl := r.length
  cases k with
  | l =>
    cases v with
    | ref a =>
      refine ⟨fun i d e F1 H1 s k => ?_, fun F1 H1 s k => ?_⟩
      · obtain ⟨x, e1, e2⟩ := r.get e
        have q : SqL K H1 a vs := srcAt_mono (k := .l) (v := .ref a) (s.trans k.fh) h
        refine ⟨⟨vs, x, q, e1⟩, fun y H2 hy => ?_⟩
        obtain ⟨rfl, hy⟩ := hy
        have e3 := hy vs q
        rw [e1] at e3
        cases e3
        exact ⟨F1, Le.refl k, R.mono s _ _ e2⟩
      · exact ⟨vs, srcAt_mono (k := .l) (v := .ref a) (s.trans k.fh) h, by omega⟩
    | _ => exact False.elim h
  | t =>
    cases v with
    | ref a =>
      refine ⟨fun i d e F1 H1 s k => ?_, fun F1 H1 s k => ?_⟩
      · obtain ⟨x, e1, e2⟩ := r.get e
        have q : SqT K H1 a vs := srcAt_mono (k := .t) (v := .ref a) (s.trans k.fh) h
        refine ⟨⟨vs, x, q, e1⟩, fun y H2 hy => ?_⟩
        obtain ⟨rfl, hy⟩ := hy
        have e3 := hy vs q
        rw [e1] at e3
        cases e3
        exact ⟨F1, Le.refl k, R.mono s _ _ e2⟩
      · exact ⟨vs, srcAt_mono (k := .t) (v := .ref a) (s.trans k.fh) h, by omega⟩
    | _ => exact False.elim h
  | s =>
    cases v with
    | str x =>
      have h : vs = x.cps.toList.map fun c => V.str ⟨#[c]⟩ := h
      have hlen : l.length = x.cps.size := by rw [← hl, h]; simp
      refine ⟨fun i d e F1 H1 s k => ?_, fun F1 H1 s k => ?_⟩
      · obtain ⟨y, e1, e2⟩ := r.get e
        have hi : i < l.length := (List.getElem?_eq_some_iff.mp e).1
        refine ⟨show i < x.cps.size by omega, fun z H2 hy => ?_⟩
        obtain ⟨rfl, c, hc, rfl⟩ := hy
        rw [h, List.getElem?_map] at e1
        have e3 : x.cps.toList[i]? = some c := by simpa using hc
        rw [e3] at e1
        cases e1
        exact ⟨F1, Le.refl k, R.mono s _ _ e2⟩
      · show x.cps.size ≤ l.length
        omega
    | _ => exact False.elim h

theorem RL.mapIdx {K : PySem.W.Frag} {F : Hp} : True := trivial
/-- (0, x), (1, y), .. -/
def enD (l : List D) : List D := l.mapIdx fun i d => .tup [.int (i : Nat), d]
def zipD (l m : List D) : List D := l.zipWith (fun x y => .tup [x, y]) m
theorem itOk_en {K : PySem.W.Frag} {W : Wd} {F : Hp} {k : SK} {v : V} {vs : List V} {l : List D} (h : srcAt K F k v vs) (r : RL K F l vs) : ItOk K W (JEn K k v vs) F (enD l) := by
  have hl := r.length
  refine ⟨fun i d e F1 H1 s ok => ?_, fun F1 H1 s ok => ⟨srcAt_mono (s.trans ok.fh) h, by unfold enD; rw [List.length_mapIdx]; omega⟩⟩
  unfold enD at e
  rw [List.getElem?_mapIdx] at e
  obtain ⟨d0, e1, rfl⟩ := Option.map_eq_some_iff.mp e
  obtain ⟨x, e2, e3⟩ := r.get e1
  refine ⟨⟨srcAt_mono (s.trans ok.fh) h, (List.getElem?_eq_some_iff.mp e2).1⟩, fun y H2 hy => ?_⟩
  obtain ⟨T, x', rfl, hT, rfl, e4⟩ := hy
  rw [e2] at e4
  cases e4
  have l1 := Le.new (o := .tup [.int (i : Nat), x]) ok hT
  exact ⟨_, l1, mkTup (SqT.of upd_same) (RL.cons (mkInt _) (RL.cons (R.mono (s.trans l1.ff) _ _ e3) RL.nil))⟩
theorem itOk_zip {K : PySem.W.Frag} {W : Wd} {F : Hp} {k k2 : SK} {v v2 : V} {vs vs2 : List V} {l l2 : List D} (h : srcAt K F k v vs) (r : RL K F l vs) (h2 : srcAt K F k2 v2 vs2) (r2 : RL K F l2 vs2) : ItOk K W (JZip K k k2 v v2 vs vs2) F (zipD l l2) := by
  have hl := r.length
  have hl2 := r2.length
  refine ⟨fun i d e F1 H1 s ok => ?_, fun F1 H1 s ok => ⟨⟨srcAt_mono (s.trans ok.fh) h, srcAt_mono (s.trans ok.fh) h2⟩, by unfold zipD; rw [List.length_zipWith]; omega⟩⟩
  unfold zipD at e
  rw [List.getElem?_zipWith] at e
  have ⟨d1, d2, e1, e2, e5⟩ : ∃ d1 d2, l[i]? = some d1 ∧ l2[i]? = some d2 ∧ d = .tup [d1, d2] := by
    cases q1 : l[i]? with
    | none => rw [q1] at e; cases e
    | some d1 =>
      cases q2 : l2[i]? with
      | none => rw [q1, q2] at e; cases e
      | some d2 => rw [q1, q2] at e; cases e; exact ⟨d1, d2, rfl, rfl, rfl⟩
  subst e5
  obtain ⟨x, e3, e4⟩ := r.get e1
  obtain ⟨x2, e6, e7⟩ := r2.get e2
  refine ⟨⟨⟨srcAt_mono (s.trans ok.fh) h, srcAt_mono (s.trans ok.fh) h2⟩, (List.getElem?_eq_some_iff.mp e3).1, (List.getElem?_eq_some_iff.mp e6).1⟩, fun y H2 hy => ?_⟩
  obtain ⟨T, x', x2', rfl, hT, rfl, e8, e9⟩ := hy
  rw [e3] at e8
  cases e8
  rw [e6] at e9
  cases e9
  have l1 := Le.new (o := .tup [x, x2]) ok hT
  exact ⟨_, l1, mkTup (SqT.of upd_same) (RL.cons (R.mono (s.trans l1.ff) _ _ e4) (RL.cons (R.mono (s.trans l1.ff) _ _ e7) RL.nil))⟩
def rngD (n : Int) : List D := (List.range n.toNat).map fun i => .int (i : Nat)
section
variable {X : Cx} {B : Bs} {env : AE} {pos p tpos : Pos} {tg e a b : Expr} {Q : List D → Prop}
theorem i_val (h : qE X B env e fun d => ∃ l, seqD d = some l ∧ Q l) : qI X B env tg e Q := fun σ F H rp Qi k => by
  refine ⟨_, pi_any pe_w, ?_⟩
  refine h σ F H rp _ fun v F1 H1 d l1 rd q => ?_
  obtain ⟨l, e1, q⟩ := q
  obtain ⟨sk, vs, h1, h2⟩ := seqD_src rd e1
  exact ⟨sk, vs, srcAt_mono (rp.step l1).ok.fh h1, k _ F1 H1 l l1 (itOk_of h1 h2) q⟩
theorem i_rng (fr : Free X.mg) (h : qE X B env a fun d => ∃ n : Int, d = .int n ∧ n ≤ 100000 ∧ -100000 ≤ n ∧ Q (rngD n)) (hg : Gl X "range" := by rfl) (he : starEach [a] X.env = (false, eval a X.env) :: starEach [] X.env := by rfl) (hs : starEach [a] X.env = [(false, eval a X.env)] := by rfl) : qI X B env tg (.Call (.Name "range" p) [a] [] pos) Q := fun σ F H rp Qi k => by
  refine ⟨_, pi_range1 hg fr.range (pa_cons pe_w pa_nil he) hs, ?_⟩
  refine h σ F H rp _ fun v F1 H1 d l1 rd q => ?_
  obtain ⟨n, rfl, hn, hn2, q⟩ := q
  refine ⟨n, by rw [rInt rd], by omega, by omega, k _ F1 H1 (rngD n) l1 ⟨fun i d e F2 H2 s ok => ?_, fun F2 H2 s ok => ?_⟩ q⟩
  · unfold rngD at e
    rw [List.getElem?_map] at e
    obtain ⟨j, e1, rfl⟩ := Option.map_eq_some_iff.mp e
    have hj : i < n.toNat := by
      have := (List.getElem?_eq_some_iff.mp e1).1
      rwa [List.length_range] at this
    have e2 : j = i := by
      rw [List.getElem?_range hj] at e1
      exact (Option.some.inj e1).symm
    subst e2
    refine ⟨hj, fun x H3 hy => ?_⟩
    obtain ⟨rfl, rfl⟩ := hy
    exact ⟨F2, Le.refl ok, by
      have : (0 : Int) + (j : Nat) = (j : Nat) := by omega
      rw [this]
      exact mkInt _⟩
  · show n.toNat ≤ (rngD n).length
    unfold rngD
    rw [List.length_map, List.length_range]
    exact Nat.le_refl _
theorem i_en {elts : List Expr} {kk : Nat} (fr : Free X.mg) (h : qE X B env e fun d => ∃ l, seqD d = some l ∧ Q (enD l)) (hg : Gl X "enumerate" := by rfl) (he : starEach [e] X.env = (false, eval e X.env) :: starEach [] X.env := by rfl) (hs : starEach [e] X.env = [(false, eval e X.env)] := by rfl) : qI X B env (.Tuple elts kk tpos) (.Call (.Name "enumerate" p) [e] [] pos) Q := fun σ F H rp Qi k => by
  refine ⟨_, pi_en hg fr.enumerate (pa_cons pe_w pa_nil he) hs, ?_⟩
  refine h σ F H rp _ fun v F1 H1 d l1 rd q => ?_
  obtain ⟨l, e1, q⟩ := q
  obtain ⟨sk, vs, h1, h2⟩ := seqD_src rd e1
  exact ⟨sk, v, vs, rfl, srcAt_mono (rp.step l1).ok.fh h1, k _ F1 H1 _ l1 (itOk_en h1 h2) q⟩
theorem i_zip {elts : List Expr} {kk : Nat} (fr : Free X.mg) (h : qE X B env a fun d => ∃ l, seqD d = some l ∧ qE X B env b fun d2 => ∃ m, seqD d2 = some m ∧ Q (zipD l m)) (hg : Gl X "zip" := by rfl)
    (he : starEach [a, b] X.env = (false, eval a X.env) :: starEach [b] X.env := by rfl) (he2 : starEach [b] X.env = (false, eval b X.env) :: starEach [] X.env := by rfl) (hpl : (backTo pos (starEach [b] X.env)).any (·.1) = false := by rfl) : qI X B env (.Tuple elts kk tpos) (.Call (.Name "zip" p) [a, b] [] pos) Q := fun σ F H rp Qi k => by
  refine ⟨_, pi_zp hg fr.zip (pa_cons pe_w (pa_cons pe_w pa_nil he2) he) he hpl, ?_⟩
  refine h σ F H rp _ fun v F1 H1 d l1 rd q => ?_
  obtain ⟨l, e1, q⟩ := q
  refine q σ F1 H1 (rp.step l1) _ fun v2 F2 H2 d2 l2 rd2 q => ?_
  obtain ⟨m, e2, q⟩ := q
  obtain ⟨sk, vs, h1, h2⟩ := seqD_src (R.mono l2.ff _ _ rd) e1
  obtain ⟨sk2, vs2, h3, h4⟩ := seqD_src rd2 e2
  have ok := ((rp.step l1).step l2).ok
  exact ⟨sk, sk2, v, v2, vs, vs2, rfl, srcAt_mono ok.fh h1, srcAt_mono ok.fh h3, k _ F2 H2 _ (l1.trans l2) (itOk_zip h1 h2 h3 h4) q⟩
end

/-! ### a list comprehension -/
/-- slots forgotten -/
def wipeE (env : AE) : List Nat → AE
  | [] => env
  | v :: vs => (wipeE env vs).set v .un
theorem wipe_get {σ : St} {i : Nat} : ∀ {vs : List Nat}, i ∉ vs → (wipe σ vs)[i]? = σ[i]? := wipe_out
theorem wipeE_len {env : AE} : ∀ {vs : List Nat}, (wipeE env vs).length = env.length
  | [] => rfl
  | v :: vs => by unfold wipeE; rw [List.length_set, wipeE_len]
theorem wipeE_get {env : AE} {i : Nat} {v : AV} : ∀ {vs : List Nat}, (wipeE env vs)[i]? = some v → v = .un ∨ (i ∉ vs ∧ env[i]? = some v)
  | [], e => .inr ⟨by simp, e⟩
  | u :: vs, e => by
    unfold wipeE at e
    by_cases q : u = i
    · subst q
      have hl : u < (wipeE env vs).length := by
        have := (List.getElem?_eq_some_iff.mp e).1
        rwa [List.length_set] at this
      rw [List.getElem?_set_self hl] at e
      cases e
      exact .inl rfl
    · rw [List.getElem?_set_ne q] at e
      rcases wipeE_get e with h | ⟨h1, h2⟩
      · exact .inl h
      · refine .inr ⟨fun z => ?_, h2⟩
        rcases List.mem_cons.mp z with z | z
        · exact q z.symm
        · exact h1 z
theorem Rep.wipe {K : PySem.W.Frag} {B : Bs} {F H : Hp} {σ : St} {env : AE} (r : Rep K B F H σ env) (vs : List Nat) : Rep K B F H (L2.wipe σ vs) (wipeE env vs) := by
  refine ⟨r.le, by rw [wipeE_len, wipe_length]; exact r.len, fun i v e => ?_, fun i j p oi oj ei ej => ?_⟩
  · rcases wipeE_get e with rfl | ⟨h1, h2⟩
    · trivial
    · have s := r.sl i v h2
      cases v with
      | un => trivial
      | sh d => obtain ⟨x, h3, h4⟩ := s; exact ⟨x, by rw [wipe_get h1]; exact h3, h4⟩
      | ow d => obtain ⟨x, xs, h3, h4⟩ := s; exact ⟨x, xs, by rw [wipe_get h1]; exact h3, h4⟩
      | od o d => obtain ⟨x, xs, h3, h4⟩ := s; exact ⟨x, xs, by rw [wipe_get h1]; exact h3, h4⟩
      | oi o C d => obtain ⟨x, dx, xs, h3, h4⟩ := s; exact ⟨x, dx, xs, by rw [wipe_get h1]; exact h3, h4⟩
  · have get : ∀ {i}, OwnAt (wipeE env vs) i → i ∉ vs ∧ OwnAt env i := fun {i} o => by
      rcases o with ⟨l, o⟩ | ⟨l, o⟩ | ⟨l, o⟩
      · rcases wipeE_get o with h | ⟨h1, h2⟩
        · cases h
        · exact ⟨h1, .inl ⟨l, h2⟩⟩
      · rcases wipeE_get o with h | ⟨h1, h2⟩
        · cases h
        · exact ⟨h1, .inr (.inl ⟨l, h2⟩)⟩
      · rcases wipeE_get o with h | ⟨h1, h2⟩
        · cases h
        · exact ⟨h1, .inr (.inr ⟨l, h2⟩)⟩
    obtain ⟨h1, h2⟩ := get oi
    obtain ⟨h3, h4⟩ := get oj
    rw [wipe_get h1] at ei
    rw [wipe_get h3] at ej
    exact r.ap i j p h2 h4 ei ej
theorem wipe_eq {σ : St} {vs : List Nat} {i : Nat} (hi : i ∈ vs) (hl : i < σ.length) : (L2.wipe σ vs)[i]? = some none := by
  induction vs with
  | nil => simp at hi
  | cons v vs ih =>
    unfold L2.wipe
    by_cases q : v = i
    · subst q
      exact List.getElem?_set_self (by rw [wipe_length]; exact hl)
    · rw [List.getElem?_set_ne q]
      rcases List.mem_cons.mp hi with z | z
      · exact absurd z.symm q
      · exact ih z
theorem wipe_wipe {σ : St} {vs : List Nat} : L2.wipe (L2.wipe σ vs) vs = L2.wipe σ vs := by
  refine List.ext_getElem? fun i => ?_
  by_cases q : i ∈ vs
  · by_cases hl : i < σ.length
    · rw [wipe_eq q hl, wipe_eq q (by rw [wipe_length]; exact hl)]
    · rw [List.getElem?_eq_none (by rw [wipe_length, wipe_length]; omega), List.getElem?_eq_none (by rw [wipe_length]; omega)]
  · rw [wipe_get q]
/-- an object of our own, changed -/
theorem Le.put {W : Wd} {F H F' H' : Hp} {p : Addr} {o : HO} (k : WOk W F H) (l : Le W F H F' H') (hp : H p = none) (hF : F' p = none) : Le W F H F' (upd H' p o) := by
  have nM : ¬ W.M p := fun m => (k.mf p m).2 hp
  refine ⟨⟨fun b u e => ?_, fun a m => ?_, W.mono l.ok.jj (Same.refl _) fun a u m e => ?_⟩, l.ff, fun a u m e => ?_, fun a f h => l.un a f h⟩
  · rw [upd_ne (ne_of_none e hF)]; exact l.ok.fh b u e
  · have q : a ≠ p := fun z => nM (z ▸ m)
    obtain ⟨h1, h2⟩ := l.ok.mf a m
    exact ⟨h1, by rw [upd_ne q]; exact h2⟩
  · have q : a ≠ p := fun z => nM (z ▸ m)
    rw [upd_ne q]; exact e
  · rw [upd_ne (ne_of_none e hp)]; exact l.hh a u m e
section
variable {X : Cx} {B : Bs} {env : AE}
/-- the readings of a comprehension's parts, whatever the block -/
def bE (X : Cx) (scope : Scope) (e : Expr) : TE := fun σ H Q => ∀ (s : Shared) (H0 : Hp) (C : Addr) (cl : List (Str × Addr)) (fp : List Addr), wE (X.blk s H0 scope (compEnvC scope cl C X.env) fp) e σ H Q
def bTs (X : Cx) (scope : Scope) (e : List Expr) : TT := fun σ H Q => ∀ (s : Shared) (H0 : Hp) (C : Addr) (cl : List (Str × Addr)) (fp : List Addr), wTs (X.blk s H0 scope (compEnvC scope cl C X.env) fp) e σ H Q
def bG (X : Cx) (scope : Scope) (e : Expr) : TG := fun v σ H Q => ∀ (s : Shared) (H0 : Hp) (C : Addr) (cl : List (Str × Addr)) (fp : List Addr), wG (X.blk s H0 scope (compEnvC scope cl C X.env) fp) e v σ H Q
theorem bE_ok {scope : Scope} {e : Expr} (s : Shared) (H : Hp) (C : Addr) (cl : List (Str × Addr)) (fp : List Addr) : PE (X.blk s H scope (compEnvC scope cl C X.env) fp) e (bE X scope e) := ⟨fun pins s' σ H' Q I q => by obtain ⟨t, h1, h2⟩ := q s H C cl fp; exact h1.run pins s' σ H' Q I h2⟩
theorem bTs_ok {scope : Scope} {e : List Expr} (s : Shared) (H : Hp) (C : Addr) (cl : List (Str × Addr)) (fp : List Addr) : PTs (X.blk s H scope (compEnvC scope cl C X.env) fp) e (bTs X scope e) := ⟨fun pins s' σ H' Q I q => by obtain ⟨t, h1, h2⟩ := q s H C cl fp; exact h1.run pins s' σ H' Q I h2⟩
theorem bG_ok {scope : Scope} {e : Expr} (s : Shared) (H : Hp) (C : Addr) (cl : List (Str × Addr)) (fp : List Addr) : PG (X.blk s H scope (compEnvC scope cl C X.env) fp) e (bG X scope e) := ⟨fun pins s' σ H' v u Q I r q => by obtain ⟨t, h1, h2⟩ := q s H C cl fp; exact h1.run pins s' σ H' v u Q I r h2⟩
/-- what one has to show of a comprehension -/
def qLc (X : Cx) (B : Bs) (env : AE) (scope : Scope) (vs is : List Nat) (tg iter : Expr) (ifs : List Expr) (elt : Expr) (Q : List D → Prop) : Prop :=
  qI X B env tg iter fun items => items.length ≤ 100000 ∧ ∃ P : Nat → List D → Prop, P 0 [] ∧ (∀ acc, P items.length acc → Q acc) ∧ ∀ i d acc, items[i]? = some d → acc.length ≤ i → P i acc →
      ∀ (s : Shared) (H : Hp) (C : Addr) (cl : List (Str × Addr)) (fp : List Addr), qG (X.blk s H scope (compEnvC scope cl C X.env) fp) B (wipeE env vs) tg is d fun env2 =>
        ∀ (s : Shared) (H : Hp) (C : Addr) (cl : List (Str × Addr)) (fp : List Addr), qTs (X.blk s H scope (compEnvC scope cl C X.env) fp) B env2 ifs fun b => if b = true then
          ∀ (s : Shared) (H : Hp) (C : Addr) (cl : List (Str × Addr)) (fp : List Addr), qE (X.blk s H scope (compEnvC scope cl C X.env) fp) B env2 elt fun y => P (i + 1) (acc ++ [y])
        else P (i + 1) acc
theorem lc_t {elt tg iter : Expr} {ifs : List Expr} {scope : Scope} {vs : List Nat} {Q : List D → Prop} {is : List Nat} (his : ∀ i ∈ is, i ∈ vs) (h : qLc X B env scope vs is tg iter ifs elt Q) {σ : St} {F H : Hp} (rp : Rep X.K B F H σ env) {Qv : VK}
    (k : ∀ p xs F' H' l, Le B.W F H F' H' → H p = none → F' p = none → H' p = some (.lst xs) → RL X.K F' l xs → Q l → Qv (.ref p) H') : tLc (wI X tg iter) (bG X scope tg) (bTs X scope ifs) (bE X scope elt) vs σ H Qv := by
  refine h σ F H rp _ fun J F1 H1 items l1 itok q D hD => ?_
  obtain ⟨hlen, P, p0, pQ, step⟩ := q
  have k0 := rp.ok
  have k1 := l1.ok
  have hD0 : H D = none := l1.free hD
  have nM : ¬ B.W.M D := fun m => (k0.mf D m).2 hD0
  refine ⟨fun i m H' => m = items.length - i ∧ i ≤ items.length ∧ ∃ F' acc xs, Le B.W F H F' H' ∧ Same F1 F' ∧ F' D = none ∧ H' D = some (.lst xs) ∧ RL X.K F' acc xs ∧ acc.length ≤ i ∧ P i acc, ⟨items.length, by simp, Nat.zero_le _, F1, [], [], l1.trans (Le.own k1 hD), Same.refl _, k1.fh.free hD, upd_same, RL.nil, Nat.le_refl _, p0⟩, ?_⟩
  rintro i m H2 ⟨rfl, hi, F2, acc, xs, l2, s2, f2, h2, r2, hac, p2⟩
  by_cases hlt : i < items.length
  · obtain ⟨d, hd⟩ : ∃ d, items[i]? = some d := ⟨_, List.getElem?_eq_getElem hlt⟩
    obtain ⟨go, yl⟩ := itok.turn i d hd F2 H2 s2 l2.ok
    refine .inr ⟨go, fun H' => ∃ F' acc xs, Le B.W F H F' H' ∧ Same F1 F' ∧ F' D = none ∧ H' D = some (.lst xs) ∧ RL X.K F' acc xs ∧ acc.length ≤ i + 1 ∧ P (i + 1) acc, fun H' hq => ⟨items.length - (i + 1), by omega, rfl, hlt, hq⟩, fun x H3 hy => ?_⟩
    obtain ⟨F3, l3, rx⟩ := yl x H3 hy
    have d3 : H3 D = some (.lst xs) := l3.hh D _ nM h2
    have f3 : F3 D = none := l3.un D f2 (by rw [h2]; exact fun z => nomatch z)
    intro s H0 C cl fp
    refine step i d acc hd hac p2 s H0 C cl fp (L2.wipe σ vs) F3 H3 x ((rp.step (l2.trans l3)).wipe _) rx _ ?_
    intro σ' env' rep' hw hq
    refine ⟨?_, ?_⟩
    · rw [hw _ his]
      exact wipe_wipe
    · intro s H0 C cl fp
      refine hq s H0 C cl fp σ' F3 H3 rep' _ fun b F4 H4 l4 hq => ?_
      have d4 : H4 D = some (.lst xs) := l4.hh D _ nM d3
      have f4 : F4 D = none := l4.un D f3 (by rw [d3]; exact fun z => nomatch z)
      cases b with
      | false => exact iteF ⟨F4, acc, xs, l2.trans (l3.trans l4), (s2.trans l3.ff).trans l4.ff, f4, d4, RL.mono (l3.ff.trans l4.ff) _ _ r2, by omega, hq⟩
      | true =>
        refine iteT ?_
        intro s H0 C cl fp
        refine hq s H0 C cl fp σ' F4 H4 (rep'.step l4) _ fun v F5 H5 dv l5 rv hq => ?_
        have d5 : H5 D = some (.lst xs) := l5.hh D _ nM d4
        have f5 : F5 D = none := l5.un D f4 (by rw [d4]; exact fun z => nomatch z)
        have r5 := RL.mono ((l3.ff.trans l4.ff).trans l5.ff) _ _ r2
        refine ⟨xs, d5, by rw [r5.length]; exact small_lt (by omega), F5, acc ++ [dv], xs ++ [v], Le.put k0 (l2.trans ((l3.trans l4).trans l5)) hD0 f5, ((s2.trans l3.ff).trans l4.ff).trans l5.ff, f5, upd_same, r5.append (RL.cons rv RL.nil), by rw [List.length_append]; show acc.length + 1 ≤ i + 1; omega, hq⟩
  · have e : i = items.length := by omega
    subst e
    exact .inl ⟨itok.stop F2 H2 s2 l2.ok, k D xs F2 H2 acc l2 hD0 f2 h2 r2 (pQ acc p2)⟩
theorem o_lc {elt tg iter : Expr} {ifs : List Expr} {scope : Scope} {own : List (Str × Nat)} {pos : Pos} {Q : List D → Prop} (is : List Nat) (hc : X.calm = true) (hN : X.N.Nodup) (ok : blkC X.N X.env.scope scope own = true) (his : ∀ i ∈ is, i ∈ own.map (·.2))
    (h : qLc X B env scope (own.map (·.2)) is tg iter ifs elt Q) (hs : ∀ x, foldedSetIterable iter X.env x = pure x := by intro _; rfl) : qO X B env (.ListComp elt [⟨tg, iter, ifs, 0⟩] scope pos) Q := fun σ F H rp Qv k =>
  ⟨_, pe_lc hc hN pi_w (blkOk_by ok) bG_ok bTs_ok bE_ok hs, lc_t his h rp k⟩
end
end SY
set_option Elab.async false
set_option linter.all false
set_option maxRecDepth 100000
set_option maxHeartbeats 4000000
/-! SY7: targets, statements. -/
namespace SY
open PySem PySem.Spec L2

/-- what the rules ask of a context -/
structure Ev (X : Cx) (n : Nat) : Prop where
  nd : X.N.Nodup
  calm : X.calm = true
  room : Room n X.A
  free : Free X.mg
section
variable {X : Cx} {B : Bs} {env : AE} {pos p tpos : Pos} {tg e a b : Expr} {Wx : WX} {P : Post} {n : Nat}

theorem ts_nil {Q : Bool → Prop} (q : Q true) : qTs X B env [] Q := fun σ F H rp Qv k => ⟨_, pts_nil, k true F H (Le.refl rp.ok) q⟩
theorem ts_one {Q : Bool → Prop} (h : qT X B env e Q) : qTs X B env [e] Q := fun σ F H rp Qv k => ⟨_, pts_one pt_w, h σ F H rp Qv k⟩

/-! ### targets -/
theorem wipe_set {σ : St} {i : Nat} {x : Option V} {vs : List Nat} (hi : i ∈ vs) : wipe (σ.set i x) vs = wipe σ vs := by
  refine List.ext_getElem? fun j => ?_
  by_cases q : j ∈ vs
  · by_cases hl : j < σ.length
    · rw [wipe_eq q hl, wipe_eq q (by rw [List.length_set]; exact hl)]
    · rw [List.getElem?_eq_none (by rw [wipe_length, List.length_set]; omega), List.getElem?_eq_none (by rw [wipe_length]; omega)]
  · rw [wipe_get q, wipe_get q, List.getElem?_set_ne fun z => q (by rw [← z]; exact hi)]
theorem g_name (i : Nat) {x : Str} {d : D} {Q : AE → Prop} (hN : X.N.Nodup) (q : Q (env.set i (.sh d))) (hi : X.N[i]? = some x := by rfl) (hx : Loc X.env.scope x := by first | exact Or.inl rfl | exact Or.inr rfl)
    (hf : X.fn x = true ∨ X.env.scope.names.lookup x = some .local := by first | exact .inl rfl | exact .inr rfl) : qG X B env (.Name x pos) [i] d Q := fun σ F H v rp rd Qg k =>
  ⟨_, pg_name hN hi hx hf, k _ _ (rp.set rd) (fun vs h => wipe_set (h i (by simp))) q⟩
theorem gs_nil {Q : AE → Prop} (q : Q env) : qGs X B env [] [] [] Q := fun σ F H xs rp rd Qg k => by
  rw [RL] at rd
  exact ⟨_, pgs_nil, rd, k σ env rp (fun vs _ => rfl) q⟩
theorem gs_cons {es : List Expr} {is js : List Nat} {d : D} {ds : List D} {Q : AE → Prop} (h : qG X B env e is d fun env' => qGs X B env' es js ds Q)
    (hs : (assignEach (e :: es) X.env).map (·.2) = assign e X.env :: (assignEach es X.env).map (·.2) := by rfl) : qGs X B env (e :: es) (is ++ js) (d :: ds) Q := fun σ F H xs rp rd Qg k => by
  rw [RL] at rd
  obtain ⟨x, xs, rfl, r1, r2⟩ := rd
  refine ⟨_, pgs_cons pg_w pgs_w hs, x, xs, rfl, h σ F H x rp r1 _ fun σ1 env1 rp1 w1 q => q σ1 F H xs rp1 r2 _ fun σ2 env2 rp2 w2 q => k σ2 env2 rp2 (fun vs hv => ?_) q⟩
  rw [w2 vs fun i hi => hv i (List.mem_append_right _ hi), w1 vs fun i hi => hv i (List.mem_append_left _ hi)]
theorem g_tup {es : List Expr} {kk : Nat} {is : List Nat} {d : D} {Q : AE → Prop} (hc : X.calm = true) (h : ∃ ds, d = .tup ds ∧ ds.length = es.length ∧ qGs X B env es is ds Q)
    (hn : (assignEach es X.env).length = es.length := by rfl) (hst : (assignEach es X.env).findIdx? (·.1) = none := by rfl) : qG X B env (.Tuple es kk pos) is d Q := fun σ F H v rp rd Qg k => by
  obtain ⟨ds, rfl, hl, q⟩ := h
  obtain ⟨c, xs, rfl, h1, h2⟩ := rTup rd
  exact ⟨_, pg_tup hc pgs_w hn hst, c, xs, rfl, same_sqT rp.ok.fh h1, by rw [h2.length, hl], q σ F H xs rp h2 Qg k⟩

/-! ### statements -/
theorem s_nil (q : P.nx env) : qS X B Wx env [] P := fun σ F H E rp c => ⟨_, pss_nil, c.nx σ F H env rp (Same.refl _) q⟩
theorem Cont.mono {F F' : Hp} {E : Ends} (s : Same F F') (c : Cont X B F Wx P E) : Cont X B F' Wx P E :=
  ⟨fun σ F1 H env rp q => c.nx σ F1 H env rp (s.trans q), c.rt, fun σ F1 H env rp q => c.bk σ F1 H env rp (s.trans q), fun σ F1 H env rp q => c.ct σ F1 H env rp (s.trans q), c.xn⟩
theorem s_cons {st : Stmt} {rest : List Stmt} (h : qS1 X B Wx env st { P with nx := fun env' => qS X B Wx env' rest P }) : qS X B Wx env (st :: rest) P := fun σ F H E rp c =>
  ⟨_, pss_cons ps_w pss_w, h σ F H _ rp ⟨fun σ1 F1 H1 env1 rp1 s1 q => q σ1 F1 H1 E rp1 (c.mono s1), c.rt, c.bk, c.ct, c.xn⟩⟩
theorem s_set (i : Nat) {x : Str} {pos' : Pos} (ev : Ev X n) (h : qE X B env e fun d => P.nx (env.set i (.sh d))) (hi : X.N[i]? = some x := by rfl) (hx : Loc X.env.scope x := by first | exact Or.inl rfl | exact Or.inr rfl)
    (hs : swapsWith e (some (.Name x pos')) pos.line X.env = pure false := by rfl) (hf : X.fn x = true ∨ X.env.scope.names.lookup x = some .local := by first | exact .inl rfl | exact .inr rfl) : qS1 X B Wx env (.Assign [.Name x pos'] e pos) P := fun σ F H E rp c =>
  ⟨_, ps_set ev.nd hi hx pe_w hs hf, h σ F H rp _ fun v F1 H1 d l1 rd q => c.nx _ F1 H1 _ ((rp.step l1).set rd) l1.ff q⟩
/-- a new list, not shared: no slot knows it -/
theorem Rep.noNew {K : PySem.W.Frag} {F H F' H' : Hp} {σ : St} {q : Addr} (rp : Rep K B F H σ env) (l : Le B.W F H F' H') (h : H q = none) : ∀ j, OwnAt env j → σ[j]? ≠ some (some (.ref q)) := fun j oj z => by
  rcases oj with ⟨l, o⟩ | ⟨l, o⟩ | ⟨l, o⟩
  · obtain ⟨c, xs, h1, _, _, _, h5, _⟩ := rp.sl j _ o
    rw [z] at h1
    cases h1
    rw [h] at h5
    cases h5
  · obtain ⟨c, xs, h1, _, _, _, h5, _⟩ := rp.sl j _ o
    rw [z] at h1
    cases h1
    rw [h] at h5
    cases h5
  · obtain ⟨c, dx, xs, h1, _, _, _, h5, _⟩ := rp.sl j _ o
    rw [z] at h1
    cases h1
    rw [h] at h5
    cases h5
theorem Rep.own {K : PySem.W.Frag} {F H F' H' : Hp} {σ : St} {q : Addr} {xs : List V} {l : List D} (i : Nat) (rp : Rep K B F H σ env) (le : Le B.W F H F' H') (hp : H q = none) (hF : F' q = none) (hH : H' q = some (.lst xs)) (rl : RL K F' l xs) :
    Rep K B F' H' (σ.set i (some (.ref q))) (env.set i (.ow l)) :=
  (rp.step le).setOw (fun m => (rp.ok.mf q m).2 hp) hF (by
    cases z : B.H0 q with
    | none => rfl
    | some o =>
      by_cases m : B.W.M q
      · exact absurd hp (rp.ok.mf q m).2
      · rw [rp.le.hh q o m z] at hp; cases hp) hH rl fun j oj _ => rp.noNew le hp j oj
theorem Rep.ownD {K : PySem.W.Frag} {F H F' H' : Hp} {σ : St} {q : Addr} {xs : List (Key × V)} {l : List (Key × D)} (i : Nat) (rp : Rep K B F H σ env) (le : Le B.W F H F' H') (hp : H q = none) (hF : F' q = none) (hH : H' q = some (.dK xs)) (rl : RD K F' l xs) :
    Rep K B F' H' (σ.set i (some (.ref q))) (env.set i (.od none l)) :=
  (rp.step le).setOd (fun m => (rp.ok.mf q m).2 hp) hF (by
    cases z : B.H0 q with
    | none => rfl
    | some o =>
      by_cases m : B.W.M q
      · exact absurd hp (rp.ok.mf q m).2
      · rw [rp.le.hh q o m z] at hp; cases hp) hH rl fun j oj _ => rp.noNew le hp j oj
theorem s_own (i : Nat) {x : Str} {pos' : Pos} (ev : Ev X n) (h : qO X B env e fun l => P.nx (env.set i (.ow l))) (hi : X.N[i]? = some x := by rfl) (hx : Loc X.env.scope x := by first | exact Or.inl rfl | exact Or.inr rfl)
    (hs : swapsWith e (some (.Name x pos')) pos.line X.env = pure false := by rfl) (hf : X.fn x = true ∨ X.env.scope.names.lookup x = some .local := by first | exact .inl rfl | exact .inr rfl) : qS1 X B Wx env (.Assign [.Name x pos'] e pos) P := fun σ F H E rp c =>
  ⟨_, ps_set ev.nd hi hx pe_w hs hf, h σ F H rp _ fun q xs F1 H1 l le hp hF hH rl qq => c.nx _ F1 H1 _ (rp.own i le hp hF hH rl) le.ff qq⟩
/-- x = [.. for ..] -/
theorem s_lc (i : Nat) {x : Str} {pos' spos : Pos} {elt iter : Expr} {ifs : List Expr} {scope : Scope} {own : List (Str × Nat)} (is : List Nat) (ev : Ev X n) (ok : blkC X.N X.env.scope scope own = true) (his : ∀ i ∈ is, i ∈ own.map (·.2))
    (h : qLc X B env scope (own.map (·.2)) is tg iter ifs elt fun l => P.nx (env.set i (.ow l))) (hi : X.N[i]? = some x := by rfl) (hyl : X.env.scope.names.lookup x = some .local := by rfl)
    (hsw : swapsWith (.ListComp elt [⟨tg, iter, ifs, 0⟩] scope pos) (some (.Name x pos')) spos.line X.env = pure true := by exact sw_true rfl rfl rfl rfl)
    (hs : ∀ x, foldedSetIterable iter X.env x = pure x := by intro _; rfl) : qS1 X B Wx env (.Assign [.Name x pos'] (.ListComp elt [⟨tg, iter, ifs, 0⟩] scope pos) spos) P := fun σ F H E rp c =>
  ⟨_, ps_setLc ev.calm ev.nd hi hyl hsw pi_w (blkOk_by ok) bG_ok bTs_ok bE_ok hs, lc_t his h rp fun q xs F1 H1 l le hp hF hH rl qq => c.nx _ F1 H1 _ (rp.own i le hp hF hH rl) le.ff qq⟩
/-- x = {} -/
theorem s_dnew (i : Nat) {x : Str} {pos' dpos : Pos} (ev : Ev X n) (h : P.nx (env.set i (.od none []))) (hi : X.N[i]? = some x := by rfl) (hx : Loc X.env.scope x := by first | exact Or.inl rfl | exact Or.inr rfl)
    (hs : swapsWith (.Dict [] [] dpos) (some (.Name x pos')) pos.line X.env = pure false := by rfl) (hf : X.fn x = true ∨ X.env.scope.names.lookup x = some .local := by first | exact .inl rfl | exact .inr rfl) : qS1 X B Wx env (.Assign [.Name x pos'] (.Dict [] [] dpos) pos) P := fun σ F H E rp c =>
  ⟨_, ps_set ev.nd hi hx pe_dnewK hs hf, fun q hq => c.nx _ F _ _ (rp.ownD i (Le.own rp.ok hq) hq (rp.ok.fh.free hq) upd_same (by rw [RD])) (Same.refl _) h⟩
/-- x = dict(d) -/
theorem s_dcopy (i : Nat) {x : Str} {pos' : Pos} (ev : Ev X n) (h : qE X B env a fun d => ∃ l, d = .dic l ∧ P.nx (env.set i (.od none l))) (hi : X.N[i]? = some x := by rfl) (hx : Loc X.env.scope x := by first | exact Or.inl rfl | exact Or.inr rfl) (hg : Gl X "dict" := by rfl)
    (hs : swapsWith (.Call (.Name "dict" p) [a] [] tpos) (some (.Name x pos')) pos.line X.env = pure false := by rfl) (hf : X.fn x = true ∨ X.env.scope.names.lookup x = some .local := by first | exact .inl rfl | exact .inr rfl)
    (he : starEach [a] X.env = (false, eval a X.env) :: starEach [] X.env := by rfl) (hpl : (backTo tpos (starEach [] X.env)).any (·.1) = false := by rfl) : qS1 X B Wx env (.Assign [.Name x pos'] (.Call (.Name "dict" p) [a] [] tpos) pos) P := fun σ F H E rp c => by
  refine ⟨_, ps_set ev.nd hi hx (pe_callTy call_dictD hg ev.free.dict (by decide +kernel) (pa_cons pe_w pa_nil he) (by decide) (by decide) he hpl) hs hf, ?_⟩
  refine h σ F H rp _ fun v F1 H1 d l1 rd q => ?_
  obtain ⟨l, rfl, q⟩ := q
  obtain ⟨c2, xs, rfl, h1, h2⟩ := rDic rd
  have k1 := (rp.step l1).ok
  refine ⟨c2, xs, rfl, .inl (k1.fh _ _ h1), fun q hq => ?_⟩
  exact c.nx _ F1 _ _ (rp.ownD i (l1.trans (Le.own k1 hq)) (l1.free hq) (k1.fh.free hq) upd_same h2) l1.ff (by assumption)
/-- a, b = e -/
theorem s_asg (is : List Nat) {tgs : List Expr} {kk : Nat} (h : qE X B env e fun d => qG X B env (.Tuple tgs kk tpos) is d P.nx) (hs : swapsWithSole [.Tuple tgs kk tpos] e pos.line X.env = pure false := by rfl) (hw : swappedStores [.Tuple tgs kk tpos] e X.env = pure none := by rfl)
    (h1 : (assignEach [.Tuple tgs kk tpos] X.env).map (·.2) = [assign (.Tuple tgs kk tpos) X.env] := by rfl) : qS1 X B Wx env (.Assign [.Tuple tgs kk tpos] e pos) P := fun σ F H E rp c =>
  ⟨_, ps_asg pe_w pg_w hs hw h1, h σ F H rp _ fun v F1 H1 d l1 rd q => q σ F1 H1 v (rp.step l1) rd _ fun σ2 env2 rp2 _ q => c.nx σ2 F1 H1 env2 rp2 l1.ff q⟩
theorem s_ret (h : qE X B env e (P.rt env)) : qS1 X B Wx env (.Return (some e) pos) P := fun σ F H E rp c =>
  ⟨_, ps_ret pe_w, h σ F H rp _ fun v F1 H1 d l1 rd q => c.rt v σ F1 H1 env d (rp.step l1) rd q⟩
theorem s_retN (h : P.rt env .non) : qS1 X B Wx env (.Return none pos) P := fun σ F H E rp c => ⟨_, ps_retN, c.rt _ σ F H env .non rp mkNon h⟩
theorem s_expr (h : qE X B env e fun _ => P.nx env) (hs : swapsWith e none pos.line X.env = pure false := by rfl) : qS1 X B Wx env (.Expr e pos) P := fun σ F H E rp c =>
  ⟨_, ps_expr pe_w hs, h σ F H rp _ fun v F1 H1 d l1 rd q => c.nx σ F1 H1 env (rp.step l1) l1.ff q⟩
theorem s_if {c : Expr} {s t : List Stmt} (h : qT X B env c fun k => (k = true → qS X B Wx env s P) ∧ (k = false → qS X B Wx env t P)) : qS1 X B Wx env (.If c s t pos) P := fun σ F H E rp ct =>
  ⟨_, ps_if pt_w pss_w pss_w, h σ F H rp _ fun k F1 H1 l1 q => by
    cases k with
    | true => exact iteT (q.1 rfl σ F1 H1 E (rp.step l1) (ct.mono l1.ff))
    | false => exact iteF (q.2 rfl σ F1 H1 E (rp.step l1) (ct.mono l1.ff))⟩
theorem s_for {iter : Expr} {body : List Stmt} (is : List Nat) (hp : PassesOwn (model X.prog X.w) X.A X.env X.xe) (ev : Ev X n) (h : qI X B env tg iter fun items => ∃ I : Nat → AE → Prop, I 0 env ∧ (∀ env', I items.length env' → P.nx env') ∧
      ∀ i d env', items[i]? = some d → I i env' → qG X B env' tg is d fun env2 => qS X B Wx env2 body { P with nx := I (i + 1), ct := I (i + 1), bk := P.nx })
    (hs : ∀ x, foldedSetIterable iter X.env x = pure x := by intro _; rfl) : qS1 X B Wx env (.For tg iter body [] pos) P := fun σ F H E rp c => by
  refine ⟨_, ps_for hp ev.calm pi_w pg_w pss_w hs, ?_⟩
  refine h σ F H rp _ fun J F1 H1 items l1 itok q => ?_
  obtain ⟨I, i0, iQ, step⟩ := q
  refine ⟨fun i m σ' H' => m = items.length - i ∧ i ≤ items.length ∧ ∃ F' env', Rep X.K B F' H' σ' env' ∧ Same F1 F' ∧ I i env', ⟨items.length, by simp, Nat.zero_le _, F1, env, rp.step l1, Same.refl _, i0⟩, ?_⟩
  rintro i m σ2 H2 ⟨rfl, hi, F2, env2, rp2, s2, i2⟩
  by_cases hlt : i < items.length
  · obtain ⟨d, hd⟩ : ∃ d, items[i]? = some d := ⟨_, List.getElem?_eq_getElem hlt⟩
    obtain ⟨go, yl⟩ := itok.turn i d hd F2 H2 s2 rp2.ok
    refine .inr ⟨go, fun σ' H' => ∃ F' env', Rep X.K B F' H' σ' env' ∧ Same F1 F' ∧ I (i + 1) env', fun σ' H' hq => ⟨items.length - (i + 1), by omega, rfl, hlt, hq⟩, fun x H3 hy => ?_⟩
    obtain ⟨F3, l3, rx⟩ := yl x H3 hy
    refine step i d env2 hd i2 σ2 F3 H3 x (rp2.step l3) rx _ fun σ4 env4 rp4 _ q => q σ4 F3 H3 _ rp4 ?_
    have s3 := s2.trans l3.ff
    exact ⟨fun σ F H env rp s q => ⟨F, env, rp, s3.trans s, q⟩, c.rt, fun σ F H env rp s q => c.nx σ F H env rp ((l1.ff.trans s3).trans s) q, fun σ F H env rp s q => ⟨F, env, rp, s3.trans s, q⟩, c.xn⟩
  · have e : i = items.length := by omega
    subst e
    exact .inl ⟨itok.stop F2 H2 s2 rp2.ok, c.nx σ2 F2 H2 env2 rp2 (l1.ff.trans s2) (iQ env2 i2)⟩
theorem s_while {c : Expr} {body : List Stmt} (hp : PassesOwn (model X.prog X.w) X.A X.env X.xe) (I : AE → Prop) (μ : AE → Nat) (i0 : I env)
    (h : ∀ env', I env' → qT X B env' c fun k => (k = true → qS X B Wx env' body { P with nx := fun e => I e ∧ μ e < μ env', ct := fun e => I e ∧ μ e < μ env', bk := P.nx }) ∧ (k = false → P.nx env')) : qS1 X B Wx env (.While c body [] pos) P := fun σ F H E rp ct => by
  refine ⟨_, ps_while hp pt_w pss_w, ?_⟩
  refine ⟨fun m σ' H' => ∃ F' env', Rep X.K B F' H' σ' env' ∧ Same F F' ∧ I env' ∧ m = μ env', ⟨_, F, env, rp, Same.refl _, i0, rfl⟩, ?_⟩
  rintro m σ2 H2 ⟨F2, env2, rp2, s2, i2, rfl⟩
  refine h env2 i2 σ2 F2 H2 rp2 _ fun k F3 H3 l3 q => ?_
  have s3 := s2.trans l3.ff
  cases k with
  | false => exact iteF (ct.nx σ2 F3 H3 env2 (rp2.step l3) s3 (q.2 rfl))
  | true =>
    refine iteT ⟨fun σ' H' => ∃ m', m' < μ env2 ∧ ∃ F' env', Rep X.K B F' H' σ' env' ∧ Same F F' ∧ I env' ∧ m' = μ env', fun σ' H' ⟨m', hm, hq⟩ => ⟨m', hm, hq⟩, q.1 rfl σ2 F3 H3 _ (rp2.step l3) ?_⟩
    exact ⟨fun σ F H env rp s q => ⟨_, q.2, F, env, rp, s3.trans s, q.1, rfl⟩, ct.rt, fun σ F H env rp s q => ct.nx σ F H env rp (s3.trans s) q, fun σ F H env rp s q => ⟨_, q.2, F, env, rp, s3.trans s, q.1, rfl⟩, ct.xn⟩

/-! ### lists and dicts of a slot's own -/
theorem Rep.putOw {K : PySem.W.Frag} {F H : Hp} {σ : St} {i : Nat} {q : Addr} {ys : List V} {l l' : List D} (rp : Rep K B F H σ env) (he : env[i]? = some (.ow l)) (hq : σ[i]? = some (some (.ref q))) (rl : RL K F l' ys) : Rep K B F (upd H q (.lst ys)) σ (env.set i (.ow l')) := by
  obtain ⟨q', xs, h1, h2, h3, h4, h5, h6⟩ := rp.sl i _ he
  rw [hq] at h1
  cases h1
  have nS : ∀ {a o}, F a = some o → a ≠ q := fun e => ne_of_none e h2
  refine ⟨⟨⟨fun b u e => ?_, fun a m => ?_, B.W.mono rp.le.ok.jj (Same.refl _) fun a u m e => ?_⟩, rp.le.ff, fun a u m e => ?_, rp.le.un⟩, by rw [List.length_set]; exact rp.len, fun j v e => ?_, fun j k c oj ok ej ek => ?_⟩
  · rw [upd_ne (nS e)]; exact rp.ok.fh b u e
  · have z : a ≠ q := fun w => h3 (w ▸ m)
    obtain ⟨g1, g2⟩ := rp.ok.mf a m
    exact ⟨g1, by rw [upd_ne z]; exact g2⟩
  · have z : a ≠ q := fun w => h3 (w ▸ m)
    rw [upd_ne z]; exact e
  · rw [upd_ne (ne_of_none e h4)]; exact rp.le.hh a u m e
  · by_cases w : j = i
    · subst w
      have hl : j < env.length := (List.getElem?_eq_some_iff.mp he).1
      rw [List.getElem?_set_self hl] at e
      cases e
      exact ⟨q, ys, hq, h2, h3, h4, upd_same, rl⟩
    · rw [List.getElem?_set_ne (Ne.symm w)] at e
      have s := rp.sl j v e
      cases v with
      | un => trivial
      | sh d => exact s
      | ow d =>
        obtain ⟨c, zs, g1, g2, g3, g4, g5, g6⟩ := s
        have z : c ≠ q := fun w2 => w (rp.ap j i q (.inl ⟨d, e⟩) (.inl ⟨l, he⟩) (w2 ▸ g1) hq)
        exact ⟨c, zs, g1, g2, g3, g4, by rw [upd_ne z]; exact g5, g6⟩
      | od o d =>
        obtain ⟨c, zs, g1, g2, g3, g4, g5, g6⟩ := s
        have z : c ≠ q := fun w2 => by rw [w2, h5] at g5; cases g5
        exact ⟨c, zs, g1, g2, g3, g4, by rw [upd_ne z]; exact g5, g6⟩
      | oi o C d =>
        obtain ⟨c, dx, zs, g1, g2, g3, g4, g5, g6⟩ := s
        have z : c ≠ q := fun w2 => by rw [w2, h5] at g5; cases g5
        exact ⟨c, dx, zs, g1, g2, g3, g4, by rw [upd_ne z]; exact g5, g6⟩
  · have get : ∀ {j}, OwnAt (env.set i (.ow l')) j → OwnAt env j := fun {j} o => by
      by_cases w : j = i
      · subst w; exact .inl ⟨l, he⟩
      · exact ownAt_set w o
    exact rp.ap j k c (get oj) (get ok) ej ek
theorem Rep.putOd {K : PySem.W.Frag} {F H : Hp} {σ : St} {i : Nat} {q : Addr} {ys : List (Key × V)} {o0 : Option Addr} {l l' : List (Key × D)} (rp : Rep K B F H σ env) (he : env[i]? = some (.od o0 l)) (hq : σ[i]? = some (some (.ref q))) (rl : RD K F l' ys) : Rep K B F (upd H q (.dK ys)) σ (env.set i (.od o0 l')) := by
  obtain ⟨q', xs, h1, h2, h3, h4, h5, h6, h7⟩ := rp.sl i _ he
  rw [hq] at h1
  cases h1
  have nS : ∀ {a o}, F a = some o → a ≠ q := fun e => ne_of_none e h2
  refine ⟨⟨⟨fun b u e => ?_, fun a m => ?_, B.W.mono rp.le.ok.jj (Same.refl _) fun a u m e => ?_⟩, rp.le.ff, fun a u m e => ?_, rp.le.un⟩, by rw [List.length_set]; exact rp.len, fun j v e => ?_, fun j k c oj ok ej ek => ?_⟩
  · rw [upd_ne (nS e)]; exact rp.ok.fh b u e
  · have z : a ≠ q := fun w => h3 (w ▸ m)
    obtain ⟨g1, g2⟩ := rp.ok.mf a m
    exact ⟨g1, by rw [upd_ne z]; exact g2⟩
  · have z : a ≠ q := fun w => h3 (w ▸ m)
    rw [upd_ne z]; exact e
  · rw [upd_ne (ne_of_none e h4)]; exact rp.le.hh a u m e
  · by_cases w : j = i
    · subst w
      have hl : j < env.length := (List.getElem?_eq_some_iff.mp he).1
      rw [List.getElem?_set_self hl] at e
      cases e
      exact ⟨q, ys, hq, h2, h3, h4, upd_same, rl, h7⟩
    · rw [List.getElem?_set_ne (Ne.symm w)] at e
      have s := rp.sl j v e
      cases v with
      | un => trivial
      | sh d => exact s
      | od o d =>
        obtain ⟨c, zs, g1, g2, g3, g4, g5, g6⟩ := s
        have z : c ≠ q := fun w2 => w (rp.ap j i q (.inr (.inl ⟨(o, d), e⟩)) (.inr (.inl ⟨(o0, l), he⟩)) (w2 ▸ g1) hq)
        exact ⟨c, zs, g1, g2, g3, g4, by rw [upd_ne z]; exact g5, g6⟩
      | ow d =>
        obtain ⟨c, zs, g1, g2, g3, g4, g5, g6⟩ := s
        have z : c ≠ q := fun w2 => by rw [w2, h5] at g5; cases g5
        exact ⟨c, zs, g1, g2, g3, g4, by rw [upd_ne z]; exact g5, g6⟩
      | oi o C d =>
        obtain ⟨c, dx, zs, g1, g2, g3, g4, g5, g6⟩ := s
        have z : c ≠ q := fun w2 => by rw [w2, h5] at g5; cases g5
        exact ⟨c, dx, zs, g1, g2, g3, g4, by rw [upd_ne z]; exact g5, g6⟩
  · have get : ∀ {j}, OwnAt (env.set i (.od o0 l')) j → OwnAt env j := fun {j} o => by
      by_cases w : j = i
      · subst w; exact .inr (.inl ⟨(o0, l), he⟩)
      · exact ownAt_set w o
    exact rp.ap j k c (get oj) (get ok) ej ek
/-- x.append(e), x a slot's own list -/
theorem s_app (i : Nat) {x : Str} {l : List D} {apos : Pos} (he : env[i]? = some (.ow l)) (h : qE X B env e fun d => l.length < 100000 ∧ P.nx (env.set i (.ow (l ++ [d])))) (hi : X.N[i]? = some x := by rfl) (hv : Vis X.env.scope x := by first | exact Or.inl rfl | exact Or.inr (Or.inl rfl) | exact Or.inr (Or.inr rfl))
    (hs : swapsWith (.Call (.Attribute (.Name x p) "append" apos) [e] [] tpos) none pos.line X.env = pure false := by rfl) (hd : (x == ("__debug__" : Str)) = false := by decide) (hcd : (x == ("__classdict__" : Str)) = false := by decide)
    (hbase : attributeBase (.Name x p) "append" X.env (eval (.Name x p) X.env) = eval (.Name x p) X.env := by rfl)
    (hfew : ((backTo tpos (starEach [e] X.env)).all (fun x => !x.1) && (backToKw tpos (keywordEach [] X.env)).all (fun x => x.1.isSome)
      && decide ([e].length + ([] : List Keyword).length + (if ([] : List Keyword).isEmpty then 0 else 1) < 30)) = true := by rfl)
    (hline : (apos.endLine == tpos.line) = true := by rfl) (hst : starEach [e] X.env = (false, eval e X.env) :: starEach [] X.env := by rfl) (hplain : (backTo tpos (starEach [] X.env)).any (·.1) = false := by rfl) :
    qS1 X B Wx env (.Expr (.Call (.Attribute (.Name x p) "append" apos) [e] [] tpos) pos) P := fun σ F H E rp c => by
  refine ⟨_, ps_expr (pe_bm PySem.F.plainAttrs_list PySem.F.slot_list_append PySem.F.type_list_append mt_append (pe_var hi hv hd hcd) (pa_cons pe_w pa_nil hst) hbase hfew hline hst hplain) hs, ?_⟩
  obtain ⟨q, xs, h1, h2, h3, h4, h5, h6⟩ := rp.sl i _ he
  refine ⟨_, h1, .inl ⟨rfl, _, SqL.of h5⟩, ?_⟩
  refine h σ F H rp _ fun v F1 H1 d l1 rd qq => ?_
  have rp1 := rp.step l1
  have g5 : H1 q = some (.lst xs) := l1.hh q _ h3 h5
  exact ⟨q, xs, v, rfl, rfl, g5, by rw [h6.length]; exact small_lt qq.1, c.nx σ F1 _ _ (rp1.putOw he h1 ((RL.mono l1.ff _ _ h6).append (RL.cons rd RL.nil))) l1.ff qq.2⟩
/-- x.reverse(), x a slot's own list -/
theorem s_rev (i : Nat) {x : Str} {l : List D} {apos : Pos} (he : env[i]? = some (.ow l)) (h : P.nx (env.set i (.ow l.reverse))) (hi : X.N[i]? = some x := by rfl) (hv : Vis X.env.scope x := by first | exact Or.inl rfl | exact Or.inr (Or.inl rfl) | exact Or.inr (Or.inr rfl))
    (hs : swapsWith (.Call (.Attribute (.Name x p) "reverse" apos) [] [] tpos) none pos.line X.env = pure false := by rfl) (hd : (x == ("__debug__" : Str)) = false := by decide) (hcd : (x == ("__classdict__" : Str)) = false := by decide)
    (hbase : attributeBase (.Name x p) "reverse" X.env (eval (.Name x p) X.env) = eval (.Name x p) X.env := by rfl) (hline : (apos.endLine == tpos.line) = true := by rfl) :
    qS1 X B Wx env (.Expr (.Call (.Attribute (.Name x p) "reverse" apos) [] [] tpos) pos) P := fun σ F H E rp c => by
  refine ⟨_, ps_expr (pe_bm0 PySem.F.plainAttrs_list PySem.F.slot_list_reverse PySem.F.type_list_reverse mt_reverse (pe_var hi hv hd hcd) hbase hline) hs, ?_⟩
  obtain ⟨q, xs, h1, h2, h3, h4, h5, h6⟩ := rp.sl i _ he
  exact ⟨_, h1, .inl ⟨rfl, _, SqL.of h5⟩, q, xs, rfl, rfl, h5, c.nx σ F _ _ (rp.putOw he h1 h6.reverse) (Same.refl _) h⟩
/-- x[j] = e, x a slot's own list -/
theorem s_put (i : Nat) {x : Str} {l : List D} {o : Expr} (he : env[i]? = some (.ow l)) (h : qE X B env e fun d => qE X B env o fun k => ∃ (j : Int) (m : Nat), k = .int j ∧ ixN l.length j = some m ∧ P.nx (env.set i (.ow (l.set m d)))) (hi : X.N[i]? = some x := by rfl)
    (hv : Vis X.env.scope x := by first | exact Or.inl rfl | exact Or.inr (Or.inl rfl) | exact Or.inr (Or.inr rfl)) (hd : (x == ("__debug__" : Str)) = false := by decide) (hcd : (x == ("__classdict__" : Str)) = false := by decide)
    (ha : ∀ v, assign (.Subscript (.Name x p) o tpos) X.env v = (do
      let ov ← holding [v] (eval (.Name x p) X.env)
      let iv ← holding [v, ov] (eval o X.env)
      standAt tpos
      holding [v, ov, iv] (setItem ov iv v)
      release [v, ov, iv] []) := by intro _; rfl) (hs : swapsWithSole [.Subscript (.Name x p) o tpos] e pos.line X.env = pure false := by rfl) (hw : swappedStores [.Subscript (.Name x p) o tpos] e X.env = pure none := by rfl)
    (h1 : (assignEach [.Subscript (.Name x p) o tpos] X.env).map (·.2) = [assign (.Subscript (.Name x p) o tpos) X.env] := by rfl) : qS1 X B Wx env (.Assign [.Subscript (.Name x p) o tpos] e pos) P := fun σ F H E rp c => by
  refine ⟨_, ps_asg pe_w (pg_sub (pe_var hi hv hd hcd) pe_w set_list ha) hs hw h1, ?_⟩
  obtain ⟨q, xs, g1, g2, g3, g4, g5, g6⟩ := rp.sl i _ he
  refine h σ F H rp _ fun v F1 H1 d l1 rd hq => ⟨_, g1, hq σ F1 H1 (rp.step l1) _ fun u F2 H2 k l2 rk qq => ?_⟩
  obtain ⟨j, m, rfl, hm, qq⟩ := qq
  have l12 := l1.trans l2
  have f5 : H2 q = some (.lst xs) := l12.hh q _ g3 g5
  have r6 := RL.mono l12.ff _ _ g6
  exact ⟨q, xs, j, m, rfl, rInt rk, f5, by rw [r6.length]; exact hm, c.nx σ F2 _ _ ((rp.step l12).putOw he g1 (r6.set m (R.mono l2.ff _ _ rd))) l12.ff qq⟩
/-- d[k] = e, d a slot's own dict -/
def keyD : D → Option Key
  | .str x => some (.inr x)
  | .int i => some (.inl i)
  | _ => none
theorem s_dput (i : Nat) {x : Str} {o0 : Option Addr} {l : List (Key × D)} {o : Expr} (ev : Ev X n) (he : env[i]? = some (.od o0 l)) (h : qE X B env e fun d => qE X B env o fun k => ∃ y, keyD k = some y ∧ l.length < 100000 ∧ P.nx (env.set i (.od o0 (dput l y d)))) (hi : X.N[i]? = some x := by rfl)
    (hv : Vis X.env.scope x := by first | exact Or.inl rfl | exact Or.inr (Or.inl rfl) | exact Or.inr (Or.inr rfl)) (hd : (x == ("__debug__" : Str)) = false := by decide) (hcd : (x == ("__classdict__" : Str)) = false := by decide)
    (hs : swapsWith e (some (.Subscript (.Name x p) o tpos)) pos.line X.env = pure false := by rfl) : qS1 X B Wx env (.Assign [.Subscript (.Name x p) o tpos] e pos) P := fun σ F H E rp c => by
  have hu : X.A.units + 1 < cLine := by have := ev.room.un; omega
  refine ⟨_, ps_dput hu (pe_var hi hv hd hcd) pe_w pe_w hs, ?_⟩
  obtain ⟨q, xs, g1, g2, g3, g4, g5, g6, g7⟩ := rp.sl i _ he
  refine h σ F H rp _ fun v F1 H1 d l1 rd hq => ⟨_, g1, hq σ F1 H1 (rp.step l1) _ fun u F2 H2 k l2 rk qq => ?_⟩
  obtain ⟨y, hy, hm, qq⟩ := qq
  have l12 := l1.trans l2
  have f5 : H2 q = some (.dK xs) := l12.hh q _ g3 g5
  have r6 := RD.mono l12.ff _ _ g6
  have ek : u = kV y := by
    cases k with
    | str x => cases hy; rw [rStr rk] <;> rfl
    | int x => cases hy; rw [rInt rk] <;> rfl
    | _ => cases hy
  refine ⟨q, _, rfl, ?_, c.nx σ F2 _ _ ((rp.step l12).putOd he g1 (r6.put (k := y) (R.mono l2.ff _ _ rd))) l12.ff qq⟩
  rw [ek]
  exact DPut.k f5 (by rw [r6.length]; exact small_lt hm)
/-- an own list is shared from here on -/
theorem s_fz (i : Nat) {l : List D} {sts : List Stmt} (he : env[i]? = some (.ow l)) (h : qS X B Wx (env.set i (.sh (.lst l))) sts P) : qS X B Wx env sts P := fun σ F H E rp c => by
  obtain ⟨q, xs, g1, g2, g3, g4, g5, g6⟩ := rp.sl i _ he
  have s1 : Same F (upd F q (.lst xs)) := fun b u e => by rw [upd_ne (ne_of_none e g2)]; exact e
  have ne : ∀ {a o}, F a = some o → a ≠ q := fun e => ne_of_none e g2
  have rp' : Rep X.K B (upd F q (.lst xs)) H σ (env.set i (.sh (.lst l))) := by
    refine ⟨⟨⟨fun b u e => ?_, fun a m => ?_, B.W.mono rp.le.ok.jj s1 fun _ _ _ e => e⟩, rp.le.ff.trans s1, rp.le.hh, fun a f hn => ?_⟩, by rw [List.length_set]; exact rp.len, fun j v e => ?_, fun j k c oj ok ej ek => ?_⟩
    · by_cases z : b = q
      · subst z; rw [upd_same] at e; cases e; exact g5
      · rw [upd_ne z] at e; exact rp.ok.fh b u e
    · have z : a ≠ q := fun w => g3 (w ▸ m)
      obtain ⟨g1, g2⟩ := rp.ok.mf a m
      exact ⟨by rw [upd_ne z]; exact g1, g2⟩
    · have z : a ≠ q := fun w => hn (w ▸ g4)
      rw [upd_ne z]; exact rp.le.un a f hn
    · by_cases w : j = i
      · subst w
        have hl : j < env.length := (List.getElem?_eq_some_iff.mp he).1
        rw [List.getElem?_set_self hl] at e
        cases e
        exact ⟨_, g1, mkLst upd_same (RL.mono s1 _ _ g6)⟩
      · rw [List.getElem?_set_ne (Ne.symm w)] at e
        have s := rp.sl j v e
        cases v with
        | un => trivial
        | sh d => obtain ⟨x, f1, f2⟩ := s; exact ⟨x, f1, R.mono s1 _ _ f2⟩
        | ow d =>
          obtain ⟨c, zs, f1, f2, f3, f4, f5, f6⟩ := s
          have z : c ≠ q := fun w2 => w (rp.ap j i q (.inl ⟨d, e⟩) (.inl ⟨l, he⟩) (w2 ▸ f1) g1)
          exact ⟨c, zs, f1, by rw [upd_ne z]; exact f2, f3, f4, f5, RL.mono s1 _ _ f6⟩
        | od o d =>
          obtain ⟨c, zs, f1, f2, f3, f4, f5, f6, f7⟩ := s
          have z : c ≠ q := fun w2 => by rw [w2, g5] at f5; cases f5
          exact ⟨c, zs, f1, by rw [upd_ne z]; exact f2, f3, f4, f5, RD.mono s1 _ _ f6, f7⟩
        | oi o C d =>
          obtain ⟨c, dx, zs, f1, f2, f3, f4, f5, f6, f7⟩ := s
          have z : c ≠ q := fun w2 => by rw [w2, g5] at f5; cases f5
          exact ⟨c, dx, zs, f1, by rw [upd_ne z]; exact f2, f3, f4, f5, RS.mono s1 _ _ f6, f7⟩
    · have get : ∀ {j}, OwnAt (env.set i (.sh (.lst l))) j → OwnAt env j := fun {j} o => by
        by_cases w : j = i
        · subst w; exact .inl ⟨l, he⟩
        · exact ownAt_set w o
      exact rp.ap j k c (get oj) (get ok) ej ek
  exact h σ _ H E rp' (c.mono s1)
theorem s_fzD (i : Nat) {o0 : Option Addr} {l : List (Key × D)} {sts : List Stmt} (he : env[i]? = some (.od o0 l)) (h : qS X B Wx (env.set i (.sh (.dic l))) sts P) : qS X B Wx env sts P := fun σ F H E rp c => by
  obtain ⟨q, xs, g1, g2, g3, g4, g5, g6, g7⟩ := rp.sl i _ he
  have s1 : Same F (upd F q (.dK xs)) := fun b u e => by rw [upd_ne (ne_of_none e g2)]; exact e
  have ne : ∀ {a o}, F a = some o → a ≠ q := fun e => ne_of_none e g2
  have rp' : Rep X.K B (upd F q (.dK xs)) H σ (env.set i (.sh (.dic l))) := by
    refine ⟨⟨⟨fun b u e => ?_, fun a m => ?_, B.W.mono rp.le.ok.jj s1 fun _ _ _ e => e⟩, rp.le.ff.trans s1, rp.le.hh, fun a f hn => ?_⟩, by rw [List.length_set]; exact rp.len, fun j v e => ?_, fun j k c oj ok ej ek => ?_⟩
    · by_cases z : b = q
      · subst z; rw [upd_same] at e; cases e; exact g5
      · rw [upd_ne z] at e; exact rp.ok.fh b u e
    · have z : a ≠ q := fun w => g3 (w ▸ m)
      obtain ⟨g1, g2⟩ := rp.ok.mf a m
      exact ⟨by rw [upd_ne z]; exact g1, g2⟩
    · have z : a ≠ q := fun w => hn (w ▸ g4)
      rw [upd_ne z]; exact rp.le.un a f hn
    · by_cases w : j = i
      · subst w
        have hl : j < env.length := (List.getElem?_eq_some_iff.mp he).1
        rw [List.getElem?_set_self hl] at e
        cases e
        exact ⟨_, g1, mkDic upd_same (RD.mono s1 _ _ g6)⟩
      · rw [List.getElem?_set_ne (Ne.symm w)] at e
        have s := rp.sl j v e
        cases v with
        | un => trivial
        | sh d => obtain ⟨x, f1, f2⟩ := s; exact ⟨x, f1, R.mono s1 _ _ f2⟩
        | od o d =>
          obtain ⟨c, zs, f1, f2, f3, f4, f5, f6, f7⟩ := s
          have z : c ≠ q := fun w2 => w (rp.ap j i q (.inr (.inl ⟨(o, d), e⟩)) (.inr (.inl ⟨(o0, l), he⟩)) (w2 ▸ f1) g1)
          exact ⟨c, zs, f1, by rw [upd_ne z]; exact f2, f3, f4, f5, RD.mono s1 _ _ f6, f7⟩
        | ow d =>
          obtain ⟨c, zs, f1, f2, f3, f4, f5, f6⟩ := s
          have z : c ≠ q := fun w2 => by rw [w2, g5] at f5; cases f5
          exact ⟨c, zs, f1, by rw [upd_ne z]; exact f2, f3, f4, f5, RL.mono s1 _ _ f6⟩
        | oi o C d =>
          obtain ⟨c, dx, zs, f1, f2, f3, f4, f5, f6, f7⟩ := s
          have z : c ≠ q := fun w2 => by rw [w2, g5] at f5; cases f5
          exact ⟨c, dx, zs, f1, by rw [upd_ne z]; exact f2, f3, f4, f5, RS.mono s1 _ _ f6, f7⟩
    · have get : ∀ {j}, OwnAt (env.set i (.sh (.dic l))) j → OwnAt env j := fun {j} o => by
        by_cases w : j = i
        · subst w; exact .inr (.inl ⟨(o0, l), he⟩)
        · exact ownAt_set w o
      exact rp.ap j k c (get oj) (get ok) ej ek
  exact h σ _ H E rp' (c.mono s1)
end
end SY
set_option Elab.async false
set_option linter.all false
set_option maxRecDepth 100000
set_option maxHeartbeats 4000000
/-! SY8: defs and their calls. -/
namespace SY
open PySem PySem.Spec L2

abbrev S0 := List D → (D → Prop) → Prop
/-- a promise on data, in a world -/
def spW {α : Type} (K : PySem.W.Frag) (W : α → Wd) (S : α → S0) : Sp := fun vs H Q _ => ∃ x F ds Qd, WOk (W x) F H ∧ RL K F ds vs ∧ S x ds Qd ∧ ∀ F' H' d v, Le (W x) F H F' H' → R K F' d v → Qd d → Q v H'
abbrev spP (K : PySem.W.Frag) (S : S0) : Sp := spW K (fun _ : Unit => W0) fun _ => S
/-- a def that may be called -/
structure FnS (P : Program) (w : World) (K : PySem.W.Frag) (mg : Str → Option Value) (base : Heap) (k : Nat) (x : Str) (sp : Sp) : Prop where
  ex : ∃ (f : Addr) (fd : FuncData) (ps : List Str), FnOk P w K mg base (L2.CX P w) k f fd ps sp ∧ mg x = some (.ref f) ∧ PySem.W.keepIn K (.ref f) = true ∧ Binds K fd ps []
section
variable {X : Cx} {B : Bs} {env : AE} {pos p : Pos} {e : Expr} {es : List Expr} {n k : Nat} {x : Str} {Q : D → Prop}
theorem e_callW {α : Type} {W : α → Wd} {S : α → S0} (c : FnS X.prog X.w X.K X.mg X.base k x (spW X.K W S)) (ev : Ev X n) (hk : k ≤ n) (y : α) (hB : B.W = W y) (h : qA X B env (e :: es) fun ds => S y ds Q) (hg : Gl X x := by rfl)
    (hdb : (x == ("__debug__" : Str)) = false := by decide) (he : starEach (e :: es) X.env = (false, eval e X.env) :: starEach es X.env := by rfl) (hpl : (backTo pos (starEach es X.env)).any (·.1) = false := by rfl) :
    qE X B env (.Call (.Name x p) (e :: es) [] pos) Q := fun σ F H rp Qv kk => by
  obtain ⟨f, fd, ps, F0, hm, kp, b⟩ := c.ex
  refine ⟨_, pe_call F0 (ev.room.mono hk) hg hm kp b .nil passL pa_w hdb he hpl, ?_⟩
  refine h σ F H rp _ fun vs F1 H1 ds l1 rds q => ?_
  rw [List.append_nil]
  refine ⟨y, F1, ds, Q, hB ▸ (rp.step l1).ok, rds, q, fun F' H' d v l2 rd q => kk v F' H' d (l1.trans (hB ▸ l2)) rd q⟩
theorem e_call {S : S0} (c : FnS X.prog X.w X.K X.mg X.base k x (spP X.K S)) (ev : Ev X n) (hk : k ≤ n) (h : qA X B env (e :: es) fun ds => S ds Q) (hg : Gl X x := by rfl)
    (hdb : (x == ("__debug__" : Str)) = false := by decide) (he : starEach (e :: es) X.env = (false, eval e X.env) :: starEach es X.env := by rfl) (hpl : (backTo pos (starEach es X.env)).any (·.1) = false := by rfl) :
    qE X B env (.Call (.Name x p) (e :: es) [] pos) Q := fun σ F H rp Qv kk => by
  obtain ⟨f, fd, ps, F0, hm, kp, b⟩ := c.ex
  refine ⟨_, pe_call F0 (ev.room.mono hk) hg hm kp b .nil passL pa_w hdb he hpl, ?_⟩
  refine h σ F H rp _ fun vs F1 H1 ds l1 rds q => ?_
  rw [List.append_nil]
  have k1 := (rp.step l1).ok
  refine ⟨(), F1, ds, Q, WOk.w0 k1.fh, rds, q, fun F' H' d v l2 rd q => kk v F' H' d (l1.trans (Le.pure k1 l2)) rd q⟩
end
/-- the slots at the entry -/
def env0 (n : Nat) (ds : List D) : AE := ds.map .sh ++ List.replicate (n - ds.length) .un
theorem rep0 {K : PySem.W.Frag} {W : Wd} {F H : Hp} {N : List Str} {ds : List D} {vs : List V} (k : WOk W F H) (r : RL K F ds vs) : Rep K ⟨W, F, H⟩ F H (L2.start N vs) (env0 N.length ds) := by
  have hl := r.length
  refine ⟨Le.refl k, ?_, fun i v e => ?_, fun i j q oi => ?_⟩
  · unfold env0 L2.start
    simp [hl]
  · unfold env0 at e
    by_cases hi : i < ds.length
    · rw [List.getElem?_append_left (by rw [List.length_map]; exact hi), List.getElem?_map] at e
      obtain ⟨d, e1, rfl⟩ := Option.map_eq_some_iff.mp e
      obtain ⟨y, e2, e3⟩ := r.get e1
      refine ⟨y, ?_, e3⟩
      unfold L2.start
      rw [List.getElem?_append_left (by rw [List.length_map]; omega), List.getElem?_map, e2]
      rfl
    · rw [List.getElem?_append_right (by rw [List.length_map]; omega)] at e
      have := List.mem_of_getElem? e
      rw [List.mem_replicate] at this
      rw [this.2]
      trivial
  · have no : ∀ {i}, ¬ OwnAt (env0 N.length ds) i := fun {i} o => by
      have h : ∀ v, (env0 N.length ds)[i]? = some v → v = .un ∨ ∃ d, v = .sh d := fun v e => by
        have := List.mem_of_getElem? e
        unfold env0 at this
        rcases List.mem_append.mp this with z | z
        · obtain ⟨d, _, rfl⟩ := List.mem_map.mp z
          exact .inr ⟨d, rfl⟩
        · exact .inl (List.mem_replicate.mp z).2
      rcases o with ⟨l, o⟩ | ⟨l, o⟩ | ⟨l, o⟩
      · rcases h _ o with z | ⟨d, z⟩ <;> cases z
      · rcases h _ o with z | ⟨d, z⟩ <;> cases z
      · rcases h _ o with z | ⟨d, z⟩ <;> cases z
    exact absurd oi no
/-- a def of the module as it stands behind the top -/
def DefOk (K : PySem.W.Frag) (mg : Str → Option Value) (x : Str) (st : Stmt) (dvs : List V) : Prop := ∃ f fd, FunD K x x (defArgs st) (defBody st) (defScope st) dvs [] f fd ∧ mg x = some (.ref f)
/-- the number in a slot -/
def avI : Option AV → Nat
  | some (AV.sh (D.int j)) => j.toNat
  | _ => 0
/-- how many arguments -/
def Ar {α : Type} (S : α → S0) (n : Nat) : Prop := ∀ x ds Q, S x ds Q → ds.length = n
abbrev noX : WX := fun _ _ _ _ => False
section
variable {P : Program} {w : World} {K : PySem.W.Frag} {mg : Str → Option Value} {base : Heap} {x qual : Str} {st : Stmt} {N ps : List Str} {k : Nat}
theorem fnOk_W {α : Type} {W : α → Wd} {S : α → S0} {params : Arguments} {body : List Stmt} {scope : Scope} {dvs : List V} {kws : List (Str × V)} {f : Addr} {fd : FuncData} (F : FunD K x qual params body scope dvs kws f fd) (sc : FnScope N ps scope) (ar : Ar S ps.length) (fr : Free mg)
    (hbody : ∀ (cdv : Value) (A : Around) (outer : List Env) (s : Shared) (H0 : Hp) (E : XK), Ev (cxOf (L2.CX P w) P w K mg base N qual scope f cdv A outer s H0 E) k → PassesOwn (model P w) (cxOf (L2.CX P w) P w K mg base N qual scope f cdv A outer s H0 E).A (cxOf (L2.CX P w) P w K mg base N qual scope f cdv A outer s H0 E).env (cxOf (L2.CX P w) P w K mg base N qual scope f cdv A outer s H0 E).xe →
      ∀ (y : α) (ds : List D) (Q : D → Prop) (F : Hp), S y ds Q → qS (cxOf (L2.CX P w) P w K mg base N qual scope f cdv A outer s H0 E) ⟨W y, F, H0⟩ noX (env0 N.length ds) body { nx := fun _ => Q .non, rt := fun _ => Q }) : FnOk P w K mg base (L2.CX P w) (k + 1) f fd ps (spW K W S) := by
  refine F.ok sc (fun vs H Q E ⟨y, F1, ds, Qd, ok, r, h, _⟩ => r.length.trans (ar y ds Qd h)) fun cdv A outer s H vs Q E hr ⟨y, F1, ds, Qd, ok, r, h, kk⟩ => ?_
  refine ⟨_, pss_w, hbody cdv A outer s H E ⟨sc.nd, rfl, hr, fr⟩ (passes_of rfl) y ds Qd F1 h _ F1 H _ (rep0 ok r) ⟨fun σ F2 H2 env2 rp _ q => kk F2 H2 .non .non rp.le mkNon q, fun v σ F2 H2 env2 d rp rd q => kk F2 H2 d v rp.le rd q, fun _ _ _ _ _ _ z => False.elim z, fun _ _ _ _ _ _ z => False.elim z, fun _ _ _ _ _ _ _ _ z => False.elim z⟩⟩
theorem mkFnW {α : Type} {W : α → Wd} {S : α → S0} (D0 : DefOk K mg x st []) (sc : FnScope N ps (defScope st)) (ar : Ar S ps.length) (fr : Free mg)
    (hb : ∀ (kV doc pm : Value) (an : Option Addr) (cdv ct : Value) (us : List Value), us.length = ps.length → bindArgs (PySem.W.fnOf x x (defArgs st) (defBody st) (defScope st) .none kV doc pm an cdv ct) ⟨us, []⟩ = pure (ps.zip us))
    (hbody : ∀ (f : Addr) (cdv : Value) (A : Around) (outer : List Env) (s : Shared) (H0 : Hp) (E : XK), Ev (cxOf (L2.CX P w) P w K mg base N x (defScope st) f cdv A outer s H0 E) k → PassesOwn (model P w) (cxOf (L2.CX P w) P w K mg base N x (defScope st) f cdv A outer s H0 E).A (cxOf (L2.CX P w) P w K mg base N x (defScope st) f cdv A outer s H0 E).env (cxOf (L2.CX P w) P w K mg base N x (defScope st) f cdv A outer s H0 E).xe →
      ∀ (y : α) (ds : List D) (Q : D → Prop) (F : Hp), S y ds Q → qS (cxOf (L2.CX P w) P w K mg base N x (defScope st) f cdv A outer s H0 E) ⟨W y, F, H0⟩ noX (env0 N.length ds) (defBody st) { nx := fun _ => Q .non, rt := fun _ => Q }) : FnS P w K mg base (k + 1) x (spW K W S) := by
  obtain ⟨f, fd, F, hm⟩ := D0
  exact ⟨f, fd, ps, fnOk_W F sc ar fr (hbody f), hm, F.kp, F.bindsN hb⟩
/-- with defaults, all given -/
theorem mkFnD {α : Type} {W : α → Wd} {S : α → S0} {dvs : List V} (D0 : DefOk K mg x st dvs) (hne : dvs ≠ []) (sc : FnScope N ps (defScope st)) (ar : Ar S ps.length) (fr : Free mg)
    (hb : ∀ (T : Addr) (kV doc pm : Value) (an : Option Addr) (cdv ct : Value) (us its : List Value), us.length = ps.length → its.length = dvs.length →
      ∃ k, bindArgs (PySem.W.fnOf x x (defArgs st) (defBody st) (defScope st) (.ref T) kV doc pm an cdv ct) ⟨us, []⟩ = seqItems? (.ref T) >>= k ∧ k (some its.toArray) = pure (ps.zip us))
    (hbody : ∀ (f : Addr) (cdv : Value) (A : Around) (outer : List Env) (s : Shared) (H0 : Hp) (E : XK), Ev (cxOf (L2.CX P w) P w K mg base N x (defScope st) f cdv A outer s H0 E) k → PassesOwn (model P w) (cxOf (L2.CX P w) P w K mg base N x (defScope st) f cdv A outer s H0 E).A (cxOf (L2.CX P w) P w K mg base N x (defScope st) f cdv A outer s H0 E).env (cxOf (L2.CX P w) P w K mg base N x (defScope st) f cdv A outer s H0 E).xe →
      ∀ (y : α) (ds : List D) (Q : D → Prop) (F : Hp), S y ds Q → qS (cxOf (L2.CX P w) P w K mg base N x (defScope st) f cdv A outer s H0 E) ⟨W y, F, H0⟩ noX (env0 N.length ds) (defBody st) { nx := fun _ => Q .non, rt := fun _ => Q }) : FnS P w K mg base (k + 1) x (spW K W S) := by
  obtain ⟨f, fd, F, hm⟩ := D0
  obtain ⟨ds, v, b⟩ := F.binds1 ps.length dvs.length hne (by rw [Nat.sub_self]; rfl) fun T kV doc pm an cdv ct us its l1 l2 => by
    obtain ⟨k, e1, e2⟩ := hb T kV doc pm an cdv ct us its l1 l2
    exact ⟨k, e1, by rw [e2, ← l2, List.drop_length, List.append_nil]⟩
  rw [List.drop_length] at v
  cases v
  exact ⟨f, fd, ps, fnOk_W F sc ar fr (hbody f), hm, F.kp, b⟩
end
end SY
set_option Elab.async false
set_option linter.all false
set_option maxRecDepth 100000
set_option maxHeartbeats 4000000
/-! SY9: defs with a star parameter, called with a star. -/
namespace SY
open PySem PySem.Spec L2
structure FnSt (P : Program) (w : World) (K : PySem.W.Frag) (mg : Str → Option Value) (base : Heap) (k : Nat) (x : Str) (S : S0) : Prop where
  ex : ∃ (f : Addr), FnR P w K mg base (L2.CX P w) k f (spP K fun ds Q => ds.length ≤ 100000 ∧ S [.tup ds] Q) ∧ mg x = some (.ref f) ∧ PySem.W.keepIn K (.ref f) = true
section
variable {P : Program} {w : World} {K : PySem.W.Frag} {mg : Str → Option Value} {base : Heap} {x : Str} {st : Stmt} {N : List Str} {k : Nat}
theorem mkStar {S : S0} {pv : Str} (D0 : DefOk K mg x st []) (sc : FnScope N [pv] (defScope st)) (fr : Free mg)
    (hb : ∀ (kV doc pm : Value) (an : Option Addr) (cdv ct : Value) (rest : List Value), bindArgs (PySem.W.fnOf x x (defArgs st) (defBody st) (defScope st) .none kV doc pm an cdv ct) ⟨rest, []⟩ = (newTuple rest >>= fun t => pure [(pv, t)]))
    (hbody : ∀ (f : Addr) (cdv : Value) (A : Around) (outer : List Env) (s : Shared) (H0 : Hp) (E : XK), Ev (cxOf (L2.CX P w) P w K mg base N x (defScope st) f cdv A outer s H0 E) k → PassesOwn (model P w) (cxOf (L2.CX P w) P w K mg base N x (defScope st) f cdv A outer s H0 E).A (cxOf (L2.CX P w) P w K mg base N x (defScope st) f cdv A outer s H0 E).env (cxOf (L2.CX P w) P w K mg base N x (defScope st) f cdv A outer s H0 E).xe →
      ∀ (B : Bs) (ds : List D) (Q : D → Prop), S ds Q → ds.length = 1 → qS (cxOf (L2.CX P w) P w K mg base N x (defScope st) f cdv A outer s H0 E) B noX (env0 N.length ds) (defBody st) { nx := fun _ => Q .non, rt := fun _ => Q }) : FnSt P w K mg base (k + 1) x S := by
  obtain ⟨f, fd, F, hm⟩ := D0
  refine ⟨f, ?_, hm, F.kp⟩
  obtain ⟨oc, od, dV, kV, doc, pm, an, cdv, ct, osl, rfl, lk, hcd, hD, hK⟩ := F.ex
  rcases hD with ⟨_, rfl⟩ | ⟨e, _⟩
  · have h := StX.fn_star (P := P) (w := w) (K := K) (mg := mg) (base := base) (CX := L2.CX P w) (k := k) (ps := []) (pv := pv) (N := N) (sp := spP K fun ds Q => ds.length = 1 ∧ S ds Q) lk hcd sc StX.cxUp (fun us rest hl => by
      have : us = [] := List.eq_nil_of_length_eq_zero hl
      subst this
      exact hb kV doc pm an cdv ct rest) fun A outer s H vs Q E hr ⟨y, F1, ds, Qd, ok, r, h, kk⟩ => ⟨_, pss_w, hbody f cdv A outer s H E ⟨sc.nd, rfl, hr, fr⟩ (passes_of rfl) ⟨W0, F1, H⟩ ds Qd h.2 h.1 _ F1 H _ (rep0 ok r)
        ⟨fun σ F2 H2 env2 rp _ q => kk F2 H2 .non .non rp.le mkNon q, fun v σ F2 H2 env2 d rp rd q => kk F2 H2 d v rp.le rd q, fun _ _ _ _ _ _ z => False.elim z, fun _ _ _ _ _ _ z => False.elim z, fun _ _ _ _ _ _ _ _ z => False.elim z⟩⟩
    intro A outer s H us vs Q E hr e0 rv ⟨y, F1, ds, Qd, ok, r, h2, kk⟩
    refine h A outer s H us vs Q E hr e0 rv ⟨[], vs, rfl, rfl, by rw [r.length]; exact small_le h2.1, fun p hp => ?_⟩
    have l1 := Le.new (o := .tup vs) ok hp
    exact ⟨(), upd F1 p (.tup vs), [.tup ds], Qd, l1.ok, RL.cons (mkTup (SqT.of upd_same) (r.mono l1.ff)) RL.nil, ⟨rfl, h2.2⟩, fun F' H' d v l2 rd q => kk F' H' d v (l1.trans l2) rd q⟩
  · exact absurd rfl e
end
section
variable {X : Cx} {B : Bs} {env : AE} {pos p p2 : Pos} {e : Expr} {n k : Nat} {x : Str} {Q : D → Prop}
theorem e_callS {S : S0} (c : FnSt X.prog X.w X.K X.mg X.base k x S) (ev : Ev X n) (hk : k ≤ n) (h : qE X B env e fun d => lisD d fun l => l.length ≤ 100000 ∧ S [.tup l] Q) (hg : Gl X x := by rfl)
    (hdb : (x == ("__debug__" : Str)) = false := by decide) (hst : starEach [.Starred e p2] X.env = [(true, eval e X.env)] := by rfl) :
    qE X B env (.Call (.Name x p) [.Starred e p2] [] pos) Q := fun σ F H rp Qv kk => by
  obtain ⟨f, F0, hm, kp⟩ := c.ex
  refine ⟨_, StX.pe_callS1 F0 (ev.room.mono hk) kp hg hm passL pe_w hdb hst, ?_⟩
  refine h σ F H rp _ fun v F1 H1 d l1 rd q => ?_
  have k1 := (rp.step l1).ok
  cases d with
  | lst l =>
    obtain ⟨c2, xs, rfl, h1, h2⟩ := rLst rd
    exact ⟨c2, xs, rfl, .inr (SqL.of (k1.fh _ _ h1)), (), F1, l, Q, WOk.w0 k1.fh, h2, q, fun F' H' d v l2 rd q => kk v F' H' d (l1.trans (Le.pure k1 l2)) rd q⟩
  | tup l =>
    obtain ⟨c2, xs, rfl, h1, h2⟩ := rTup rd
    exact ⟨c2, xs, rfl, .inl (same_sqT k1.fh h1), (), F1, l, Q, WOk.w0 k1.fh, h2, q, fun F' H' d v l2 rd q => kk v F' H' d (l1.trans (Le.pure k1 l2)) rd q⟩
  | _ => exact False.elim q
end
end SY
set_option Elab.async false
set_option linter.all false
set_option maxRecDepth 100000
set_option maxHeartbeats 4000000
/-! SY10: the forms of a comprehension that one uses. -/
namespace SY
open PySem PySem.Spec L2
section
variable {X : Cx} {B : Bs} {env : AE} {tg iter elt : Expr} {scope : Scope} {vs is : List Nat} {Q : List D → Prop}
theorem take_snoc {α : Type} {l : List α} {i : Nat} {x : α} (h : l[i]? = some x) : l.take (i + 1) = l.take i ++ [x] := by
  rw [List.take_succ, h]; rfl
/-- each item gives what is known -/
theorem lc_map (h : qI X B env tg iter fun items => items.length ≤ 100000 ∧ ∃ out : List D, out.length = items.length ∧ Q out ∧ ∀ (i : Nat) d, items[i]? = some d → ∀ y, out[i]? = some y →
      ∀ (s : Shared) (H : Hp) (C : Addr) (cl : List (Str × Addr)) (fp : List Addr), qG (X.blk s H scope (compEnvC scope cl C X.env) fp) B (wipeE env vs) tg is d fun env2 =>
        ∀ (s : Shared) (H : Hp) (C : Addr) (cl : List (Str × Addr)) (fp : List Addr), qE (X.blk s H scope (compEnvC scope cl C X.env) fp) B env2 elt fun z => z = y) : qLc X B env scope vs is tg iter [] elt Q := fun σ F H rp Qi k =>
  h σ F H rp Qi fun J F' H' items l it ⟨hl, out, ho, q, step⟩ => k J F' H' items l it ⟨hl, fun i acc => acc = out.take i, rfl, fun acc e => by rw [e, ← ho, List.take_length]; exact q, fun i d acc hd hac e => by
    have hi : i < out.length := by rw [ho]; exact (List.getElem?_eq_some_iff.mp hd).1
    have ey := List.getElem?_eq_getElem hi
    intro s H1 C cl fp σ F H x rp rd Qg kk
    refine step i d hd _ ey s H1 C cl fp σ F H x rp rd Qg fun σ' env' rp' w q => kk σ' env' rp' w ?_
    intro s H C cl fp
    refine ts_nil ?_
    rw [if_pos rfl]
    intro s H C cl fp
    refine (q s H C cl fp).imp fun z hz => ?_
    have e : acc = out.take i := e
    show acc ++ [z] = out.take (i + 1)
    rw [e, hz, take_snoc ey]⟩
/-- each item gives something of which Pr is known -/
theorem lc_all (Pr : Nat → D → Prop) (h : qI X B env tg iter fun items => items.length ≤ 100000 ∧ (∀ l : List D, l.length = items.length → (∀ (i : Nat) y, l[i]? = some y → Pr i y) → Q l) ∧ ∀ (i : Nat) d, items[i]? = some d →
      ∀ (s : Shared) (H : Hp) (C : Addr) (cl : List (Str × Addr)) (fp : List Addr), qG (X.blk s H scope (compEnvC scope cl C X.env) fp) B (wipeE env vs) tg is d fun env2 =>
        ∀ (s : Shared) (H : Hp) (C : Addr) (cl : List (Str × Addr)) (fp : List Addr), qE (X.blk s H scope (compEnvC scope cl C X.env) fp) B env2 elt (Pr i)) : qLc X B env scope vs is tg iter [] elt Q := fun σ F H rp Qi k =>
  h σ F H rp Qi fun J F' H' items l it ⟨hl, q, step⟩ => k J F' H' items l it ⟨hl, fun i acc => acc.length = i ∧ ∀ (j : Nat) y, acc[j]? = some y → Pr j y, ⟨rfl, fun j y e => by simp at e⟩, fun acc e => q acc e.1 e.2, fun i d acc hd hac e => by
    intro s H1 C cl fp σ F H x rp rd Qg kk
    refine step i d hd s H1 C cl fp σ F H x rp rd Qg fun σ' env' rp' w q => kk σ' env' rp' w ?_
    intro s H C cl fp
    refine ts_nil ?_
    rw [if_pos rfl]
    intro s H C cl fp
    refine (q s H C cl fp).imp fun z hz => ⟨by rw [List.length_append, e.1]; rfl, fun j y ey => ?_⟩
    by_cases hj : j < acc.length
    · rw [List.getElem?_append_left hj] at ey
      exact e.2 j y ey
    · have hj2 : j = i := by
        have := (List.getElem?_eq_some_iff.mp ey).1
        rw [List.length_append] at this
        have h1 : j < acc.length + 1 := this
        have h2 := e.1
        omega
      rw [List.getElem?_append_right (by omega), hj2, e.1, Nat.sub_self] at ey
      cases ey
      rw [hj2]
      exact hz⟩
/-- the items of which p holds, as they are -/
theorem lc_filter {test : Expr} (pd : D → Bool) (h : qI X B env tg iter fun items => items.length ≤ 100000 ∧ Q (items.filter pd) ∧ ∀ (i : Nat) d, items[i]? = some d →
      ∀ (s : Shared) (H : Hp) (C : Addr) (cl : List (Str × Addr)) (fp : List Addr), qG (X.blk s H scope (compEnvC scope cl C X.env) fp) B (wipeE env vs) tg is d fun env2 =>
        ∀ (s : Shared) (H : Hp) (C : Addr) (cl : List (Str × Addr)) (fp : List Addr), qT (X.blk s H scope (compEnvC scope cl C X.env) fp) B env2 test fun b => b = pd d ∧ (b = true →
          ∀ (s : Shared) (H : Hp) (C : Addr) (cl : List (Str × Addr)) (fp : List Addr), qE (X.blk s H scope (compEnvC scope cl C X.env) fp) B env2 elt fun z => z = d)) : qLc X B env scope vs is tg iter [test] elt Q := fun σ F H rp Qi k =>
  h σ F H rp Qi fun J F' H' items l it ⟨hl, q, step⟩ => k J F' H' items l it ⟨hl, fun i acc => acc = (items.take i).filter pd, rfl, fun acc e => by rw [e, List.take_length]; exact q, fun i d acc hd hac e => by
    intro s H1 C cl fp σ F H x rp rd Qg kk
    refine step i d hd s H1 C cl fp σ F H x rp rd Qg fun σ' env' rp' w q => kk σ' env' rp' w ?_
    intro s H C cl fp
    refine ts_one ?_
    intro σ2 F2 H2 rp2 Qv kv
    refine q s H C cl fp σ2 F2 H2 rp2 Qv fun b F3 H3 l3 hb => kv b F3 H3 l3 ?_
    obtain ⟨hb, hq⟩ := hb
    have ef : (items.take (i + 1)).filter pd = (items.take i).filter pd ++ if pd d = true then [d] else [] := by
      rw [take_snoc hd, List.filter_append]
      congr 1
      cases hpd : pd d <;> simp [hpd]
    cases b with
    | true =>
      rw [if_pos rfl]
      intro s H C cl fp
      refine (hq rfl s H C cl fp).imp fun z hz => ?_
      have e : acc = (items.take i).filter pd := e
      show acc ++ [z] = (items.take (i + 1)).filter pd
      rw [ef, ← hb, if_pos rfl, e, hz]
    | false =>
      rw [if_neg (by simp)]
      have e : acc = (items.take i).filter pd := e
      show acc = (items.take (i + 1)).filter pd
      rw [ef, ← hb, if_neg (by simp), List.append_nil, e]⟩
end
end SY
set_option Elab.async false
set_option linter.all false
set_option maxRecDepth 100000
set_option maxHeartbeats 4000000
/-! SY11: more of the language: **, text * n, list(text), list(range), x.index, join, dict displays, own dicts read. -/
namespace L2
open PySem PySem.Spec PyProof.Rows
section
variable {X : Cx}
theorem op_powB : OpR X (binaryOp .Pow) (rI (fun i j => 0 ≤ j ∧ (Builtin.Int.intBits i : Int) * j ≤ 2 ^ 27) fun i j => .int (i ^ j.toNat)) := opI fun _ _ _ _ _ _ _ hc q => pow_int hc.1 hc.2 q
/-- list(text) -/
theorem call_list_txt (hc : X.calm = true) : CallR X (.type "list") (fun xs H Q => ∃ x, xs = [.str x] ∧ x.length ≤ sizeLine ∧ ∀ p, H p = none → Q (.ref p) (upd H p (.lst (x.cps.toList.map fun c => .str ⟨#[c]⟩)))) := by
  intro pins s σ H xs us Q I r h
  obtain ⟨x, rfl, hx, q⟩ := h
  obtain ⟨u, rfl, t, rfl⟩ := vals1 r
  refine call_list_str (I.ok.hd hc) x t (fun h' tk acc' c' hk hS hacc => ?_) hx
  have hv : Vals (x.cps.toList.map fun c => V.str ⟨#[c]⟩) acc'.toList := by
    have e : (x.cps.toList.map fun c => V.str ⟨#[c]⟩) = (List.range acc'.toList.length).map fun i => V.str ⟨#[x.cps.toList.getD i 0]⟩ := by
      refine List.ext_getElem? fun i => ?_
      rw [List.getElem?_map, List.getElem?_map]
      have hl : acc'.toList.length = x.cps.toList.length := by rw [Array.length_toList, hacc.1]; simp
      by_cases hi : i < x.cps.toList.length
      · rw [List.getElem?_eq_getElem hi, List.getElem?_range (by omega)]
        have hj : i < x.cps.size := by simpa using hi
        simp [List.getD, hj]
      · rw [List.getElem?_eq_none (by omega), List.getElem?_eq_none (by rw [List.length_range]; omega)]
        rfl
    rw [e]
    refine vals_of_get _ _ fun j u hj => ?_
    obtain ⟨c, tk, h1, rfl⟩ := hacc.2 j u (by rw [← hj, Array.getElem?_toList])
    refine ⟨tk, ?_⟩
    have h2 : x.cps.toList[j]? = some c := by simpa using h1
    simp [List.getD, h2]
  refine ⟨.ref s.heap.objs.size, upd H s.heap.objs.size (.lst (x.cps.toList.map fun c => .str ⟨#[c]⟩)), I.laid (t' := tk) hk (Nat.le_refl _) (show ObjOk X.prog X.w _ _ _ (.lst _) from ⟨?_, acc'.toList, c', hv, ?_⟩), rfl, q _ (I.hok.fresh (Nat.le_refl _))⟩
  · rw [List.length_map, Array.length_toList]; exact hx
  · rw [Array.toArray_toList]; exact hS
theorem occ_mem (s sub : Str) (hi limit : Nat) : ∀ (l : List Nat) (st : Array Nat × Nat), (∀ i ∈ st.fst.toList, i + sub.length ≤ hi ∧ Builtin.Str.subAt s sub i = true) → ∀ i ∈ (forIn l st (StrLaws.occBody s sub hi limit)).run.fst.toList, i + sub.length ≤ hi ∧ Builtin.Str.subAt s sub i = true
  | [], st, h => h
  | a :: l, st, h => by
    rw [List.forIn_cons]
    unfold StrLaws.occBody
    split
    · rename_i hc
      refine occ_mem s sub hi limit l _ fun i hi' => ?_
      rw [Array.toList_push, List.mem_append] at hi'
      rcases hi' with hi' | hi'
      · exact h i hi'
      · rw [List.mem_singleton] at hi'
        rw [hi']
        exact ⟨hc.1.2, hc.2⟩
    · exact occ_mem s sub hi limit l _ h
theorem index_at {x : Str} {c : Nat} (h : c ∈ x.cps.toList) : ∃ k, Txt.index0 x ⟨#[c]⟩ = some k ∧ x.cps.toList[k]? = some c := by
  unfold Txt.index0
  have h1 := StrLaws.found_one x c
  rw [decide_eq_true h] at h1
  cases q : Builtin.Str.occurrences x ⟨#[c]⟩ 0 x.length 1 with
  | nil => rw [q] at h1; simp at h1
  | cons k rest =>
    refine ⟨k, rfl, ?_⟩
    have hm : k ∈ Builtin.Str.occurrences x ⟨#[c]⟩ 0 x.length 1 := by rw [q]; simp
    rw [StrLaws.occ_eq] at hm
    exact (StrLaws.subAt_one x c k).mp (occ_mem x ⟨#[c]⟩ x.length 1 _ _ (fun i hi => by simp at hi) k hm)
/-- text * 0, text * 1 -/
theorem op_mulTxt : OpR X (binaryOp .Mult) (fun x y H Q => ∃ z n, x = .str z ∧ y = .int n ∧ ((n = 0 ∧ Q (.str Str.empty) H) ∨ (n = 1 ∧ Q (.str z) H))) := by
  intro pins s σ H x y v u Q I rx ry h
  obtain ⟨z, n, rfl, rfl, h⟩ := h
  obtain ⟨t, rfl⟩ := rx
  obtain ⟨t', rfl⟩ := ry
  rcases h with ⟨rfl, q⟩ | ⟨rfl, q⟩
  · exact P.mul_str_none (by decide) (by decide) ⟨.str Str.empty, H, I.tok _, ⟨_, rfl⟩, q⟩
  · refine P.mul_str (by decide) (fun _ z => by simp at z) (fun _ z => by simp at z) ?_
    rw [if_neg (by decide), if_pos (by rfl)]
    exact ⟨.str z, H, I, ⟨t, rfl⟩, q⟩
end
end L2
namespace SY
open PySem PySem.Spec L2
section
variable {X : Cx} {B : Bs} {env : AE} {pos p apos : Pos} {Q : D → Prop} {e a b o : Expr} {n : Nat}
theorem e_pow (h : qE X B env a fun x => qE X B env b fun y => ∃ i j, x = .int i ∧ y = .int j ∧ 0 ≤ j ∧ (Builtin.Int.intBits i : Int) * j ≤ 2 ^ 27 ∧ Q (.int (i ^ j.toNat))) : qE X B env (.BinOp a .Pow b pos) Q := fun σ F H rp Qv k => by
  refine ⟨_, pe_op op_powB pe_w pe_w, ?_⟩
  refine h σ F H rp _ fun v F1 H1 x l1 rx h2 => h2 σ F1 H1 (rp.step l1) _ fun u F2 H2 y l2 ry q => ?_
  obtain ⟨i, j, rfl, rfl, c1, c2, q⟩ := q
  exact ⟨i, j, rInt rx, rInt ry, ⟨c1, c2⟩, k _ F2 H2 _ (l1.trans l2) (mkInt _) q⟩
theorem e_mulT (h : qE X B env a fun x => qE X B env b fun y => ∃ z n, x = .str z ∧ y = .int n ∧ ((n = 0 ∧ Q (.str Str.empty)) ∨ (n = 1 ∧ Q (.str z)))) : qE X B env (.BinOp a .Mult b pos) Q := fun σ F H rp Qv k => by
  refine ⟨_, pe_op op_mulTxt pe_w pe_w, ?_⟩
  refine h σ F H rp _ fun v F1 H1 x l1 rx h2 => h2 σ F1 H1 (rp.step l1) _ fun u F2 H2 y l2 ry q => ?_
  obtain ⟨z, n, rfl, rfl, q⟩ := q
  refine ⟨z, n, rStr rx, rInt ry, ?_⟩
  rcases q with ⟨e, q⟩ | ⟨e, q⟩
  · exact .inl ⟨e, k _ F2 H2 _ (l1.trans l2) (mkStr _) q⟩
  · exact .inr ⟨e, k _ F2 H2 _ (l1.trans l2) (mkStr _) q⟩
/-- list(text) -/
theorem o_listT {Q : List D → Prop} (ev : Ev X n) (h : qE X B env a fun d => ∃ z, d = .str z ∧ z.length ≤ 100000 ∧ Q (z.cps.toList.map fun c => .str ⟨#[c]⟩)) (hg : Gl X "list" := by rfl) (he : starEach [a] X.env = (false, eval a X.env) :: starEach [] X.env := by rfl) (hpl : (backTo pos (starEach [] X.env)).any (·.1) = false := by rfl) : qO X B env (.Call (.Name "list" p) [a] [] pos) Q := fun σ F H rp Qv k => by
  refine ⟨_, pe_callTy (call_list_txt ev.calm) hg ev.free.list (by decide +kernel) (pa_cons pe_w pa_nil he) (by decide) (by decide) he hpl, ?_⟩
  refine h σ F H rp _ fun v F1 H1 d l1 rd q => ?_
  have k1 := (rp.step l1).ok
  obtain ⟨z, rfl, hz, q⟩ := q
  exact ⟨z, by rw [rStr rd], small_le hz, fun c2 hc => k c2 _ F1 _ _ (l1.trans (Le.own k1 hc)) (l1.free hc) (k1.fh.free hc) upd_same (signs_rl _) q⟩
/-- list(range(n)) -/
theorem o_listR {Q : List D → Prop} {p2 pos2 : Pos} (ev : Ev X n) (h : qE X B env a fun d => ∃ m : Int, d = .int m ∧ 0 ≤ m ∧ m ≤ 100000 ∧ Q (rngD m)) (hg : Gl X "list" := by rfl) (hg2 : Gl X "range" := by rfl)
    (na : starEach [a] X.env = (false, eval a X.env) :: starEach [] X.env := by rfl) (na2 : starEach [.Call (.Name "range" p2) [a] [] pos2] X.env = (false, eval (.Call (.Name "range" p2) [a] [] pos2) X.env) :: starEach [] X.env := by rfl) :
    qO X B env (.Call (.Name "list" p) [.Call (.Name "range" p2) [a] [] pos2] [] pos) Q := fun σ F H rp Qv k => by
  refine ⟨_, pe_listRg ev.calm hg ev.free.list (prg_1 hg2 ev.free.range pe_w na) na2, ?_⟩
  refine h σ F H rp _ fun v F1 H1 d l1 rd q => ?_
  have k1 := (rp.step l1).ok
  obtain ⟨m, rfl, h0, h1, q⟩ := q
  refine ⟨m, rInt rd, RgOk.of_le (by decide) (by omega) (by decide) h0, fun c2 hc => k c2 _ F1 _ (rngD m) (l1.trans (Le.own k1 hc)) (l1.free hc) (k1.fh.free hc) upd_same ?_ q⟩
  have : ∀ l : List Nat, RL X.K F1 (l.map fun i => D.int (i : Nat)) (l.map fun i => V.int (0 + (i : Nat))) := fun l => by
    induction l with
    | nil => exact RL.nil
    | cons i l ih => exact RL.cons (by show R X.K F1 (.int (i : Nat)) (.int (0 + (i : Nat))); rw [Int.zero_add]; exact mkInt _) ih
  unfold rngD rgV
  rw [Int.sub_zero]
  exact this _
/-- text.index(sign) of a sign that is there -/
theorem e_sindex (ev : Ev X n) (h : qE X B env o fun x => ∃ z : Str, x = .str z ∧ qE X B env e fun y => ∃ c : Nat, y = .str ⟨#[c]⟩ ∧ c ∈ z.cps.toList ∧ ∀ k : Nat, z.cps.toList[k]? = some c → Q (.int (k : Nat)))
    (hbase : attributeBase o "index" X.env (eval o X.env) = eval o X.env := by rfl)
    (hfew : ((backTo pos (starEach [e] X.env)).all (fun x => !x.1) && (backToKw pos (keywordEach [] X.env)).all (fun x => x.1.isSome)
      && decide ([e].length + ([] : List Keyword).length + (if ([] : List Keyword).isEmpty then 0 else 1) < 30)) = true := by rfl)
    (hline : (apos.endLine == pos.line) = true := by rfl) (hs : starEach [e] X.env = (false, eval e X.env) :: starEach [] X.env := by rfl) (hplain : (backTo pos (starEach [] X.env)).any (·.1) = false := by rfl) :
    qE X B env (.Call (.Attribute o "index" apos) [e] [] pos) Q := fun σ F H rp Qv k => by
  refine ⟨_, pe_bmS PySem.F.plainAttrs_str PySem.F.slot_str_index PySem.F.type_str_index (mt_indexX (W := fun _ _ _ _ => False) ev.calm takes0) pe_w (pa_cons pe_w pa_nil hs) hbase hfew hline hs hplain, ?_⟩
  refine h σ F H rp _ fun v F1 H1 x l1 rx h2 => ?_
  obtain ⟨z, rfl, h2⟩ := h2
  rw [rStr rx]
  refine ⟨rfl, h2 σ F1 H1 (rp.step l1) _ fun u F2 H2 y l2 ry q => ?_⟩
  obtain ⟨c, rfl, hc, q⟩ := q
  obtain ⟨i, h3, h4⟩ := index_at hc
  refine ⟨z, ⟨#[c]⟩, rfl, by rw [rStr ry], fun j hj => ?_, fun hn => by rw [h3] at hn; cases hn⟩
  rw [h3] at hj
  cases hj
  exact k _ F2 H2 _ (l1.trans l2) (mkInt _) (q i h4)
/-- own dict read -/
theorem e_dgOd {l : List (Key × D)} {x : Str} {px : Pos} {o0 : Option Addr} (i : Nat) (ev : Ev X n) (he : env[i]? = some (.od o0 l)) (h : qE X B env b fun y => ∃ k d, keyD y = some k ∧ dget l k = some d ∧ Q d) (hN : X.N[i]? = some x := by rfl)
    (hv : Vis X.env.scope x := by first | exact Or.inl rfl | exact Or.inr (Or.inl rfl) | exact Or.inr (Or.inr rfl)) (hs : PlainIx b := by exact fun _ _ => rfl)
    (hd : (x == ("__debug__" : Str)) = false := by decide) (hcd : (x == ("__classdict__" : Str)) = false := by decide) : qE X B env (.Subscript (.Name x px) b pos) Q := fun σ F H rp Qv k => by
  have hu : X.A.units + 1 < cLine := by have := ev.room.un; omega
  refine ⟨_, pe_ix (ix_dct hu) (pe_var hN hv hd hcd) pe_w hs, ?_⟩
  obtain ⟨q, xs, g1, g2, g3, g4, g5, g6, g7⟩ := rp.sl i _ he
  refine ⟨_, g1, h σ F H rp _ fun v F1 H1 d l1 rd hq => ?_⟩
  obtain ⟨y, d2, hy, hg, qq⟩ := hq
  have f5 : H1 q = some (.dK xs) := l1.hh q _ g3 g5
  have r6 := RD.mono l1.ff _ _ g6
  have ek : v = kV y := by
    cases d with
    | str x => cases hy; rw [rStr rd] <;> rfl
    | int x => cases hy; rw [rInt rd] <;> rfl
    | _ => cases hy
  obtain ⟨w, e1, e2⟩ := (r6.get (k := y)).1 d2 hg
  refine ⟨q, w, rfl, ?_, k w F1 H1 d2 l1 e2 qq⟩
  have := DGet.k (k := y) f5
  rw [e1] at this
  rw [ek]
  exact this
/-- ''.join(l) -/
def strsD : List D → Option (List Str)
  | [] => some []
  | .str x :: ds => (strsD ds).map (x :: ·)
  | _ => none
theorem strsD_v {K : PySem.W.Frag} {F : Hp} : ∀ {l : List D} {xs : List V} {ns : List Str}, RL K F l xs → strsD l = some ns → xs = ns.map V.str
  | [], _, _, h, e => by rw [RL] at h; cases e; exact h
  | d :: ds, _, _, h, e => by
    rw [RL] at h
    obtain ⟨x, xs, rfl, h1, h2⟩ := h
    cases d with
    | str i =>
      obtain ⟨ns, e1, rfl⟩ := Option.map_eq_some_iff.mp e
      rw [rStr h1, strsD_v h2 e1]
      rfl
    | _ => cases e
theorem e_join (h : qE X B env o fun x => ∃ z, x = .str z ∧ qE X B env e fun y => ∃ l ns, y = .lst l ∧ strsD l = some ns ∧ (ns.map (·.length)).sum + ns.length * z.length ≤ 100000 ∧ Q (.str (Txt.join z ns))) (hs : starEach [e] X.env = [(false, eval e X.env)] := by rfl)
    (hbase : attributeBase o "join" X.env (eval o X.env) = eval o X.env := by rfl) (hline : (apos.endLine == pos.line) = true := by rfl) : qE X B env (.Call (.Attribute o "join" apos) [e] [] pos) Q := fun σ F H rp Qv k => by
  refine ⟨_, pe_join pe_w pe_w hs hbase hline, ?_⟩
  refine h σ F H rp _ fun v F1 H1 x l1 rx h2 => ?_
  obtain ⟨z, rfl, h2⟩ := h2
  refine ⟨⟨z, rStr rx⟩, h2 σ F1 H1 (rp.step l1) _ fun u F2 H2 y l2 ry q => ?_⟩
  obtain ⟨l, ns, rfl, e1, hz, q⟩ := q
  obtain ⟨c2, xs, rfl, h3, h4⟩ := rLst ry
  have e2 := strsD_v h4 e1
  subst e2
  have k2 := ((rp.step l1).step l2).ok
  exact ⟨z, c2, ns, rStr rx, rfl, .inl (SqL.of (k2.fh _ _ h3)), by omega, k _ F2 H2 _ (l1.trans l2) (mkStr _) q⟩
/-! ### dict displays -/
def wPs (X : Cx) : List (Option Expr) → List Expr → List (TE × TE)
  | some k :: ks, v :: vs => (wE X k, wE X v) :: wPs X ks vs
  | _, _ => []
theorem pps_w : ∀ {keys : List (Option Expr)} {values : List Expr}, keys.all (·.isSome) = true → keys.length = values.length → PPs X pos keys values (wPs X keys values)
  | [], [], _, _ => pps_nil
  | some k :: ks, v :: vs, h, hl => pps_cons pe_w pe_w (pps_w (by simpa using h) (by simpa using hl))
  | none :: ks, _, h, _ => by simp at h
  | [], _ :: _, _, h => by simp at h
  | _ :: _, [], _, h => by simp at h
def qK (X : Cx) (B : Bs) (env : AE) (keys : List (Option Expr)) (values : List Expr) (Q : List (Key × D) → Prop) : Prop :=
  ∀ σ F H, Rep X.K B F H σ env → ∀ Qv : List (V × V) → Hp → Prop, (∀ kvs F' H' kds, Le B.W F H F' H' → RD X.K F' kds kvs → Q kds → Qv (kvs.map fun kv => (kV kv.1, kv.2)) H') → tPairs (wPs X keys values) σ H Qv
theorem k_nil {Q : List (Key × D) → Prop} (q : Q []) : qK X B env [] [] Q := fun σ F H rp Qv k => k [] F H [] (Le.refl rp.ok) (by rw [RD]) q
theorem k_cons {Q : List (Key × D) → Prop} {x : Str} {j : Nat} {ks : List (Option Expr)} {v : Expr} {vs : List Expr} (h : qE X B env v fun d => qK X B env ks vs fun r => Q ((.inr x, d) :: r)) : qK X B env (some (.Constant (.str x) j p) :: ks) (v :: vs) Q := fun σ F H rp Qv k => by
  refine ⟨_, pe_str, ?_⟩
  refine h σ F H rp _ fun w F1 H1 d l1 rd h2 => h2 σ F1 H1 (rp.step l1) _ fun kvs F2 H2 kds l2 rds q => ?_
  exact k ((.inr x, w) :: kvs) F2 H2 ((.inr x, d) :: kds) (l1.trans l2) (by rw [RD]; exact ⟨w, kvs, rfl, R.mono l2.ff _ _ rd, rds⟩) q
def dmerge (l : List (Key × D)) : List (Key × D) := l.foldl (fun acc kv => dput acc kv.1 kv.2) []
theorem RD.merge {K : PySem.W.Frag} {F : Hp} : ∀ {more : List (Key × D)} {mv : List (Key × V)} {acc : List (Key × D)} {av : List (Key × V)}, RD K F more mv → RD K F acc av → RD K F (more.foldl (fun acc kv => dput acc kv.1 kv.2) acc) (mergeK av mv)
  | [], _, _, _, h, h2 => by rw [RD] at h; subst h; exact h2
  | (k, d) :: ds, _, _, _, h, h2 => by
    rw [RD] at h
    obtain ⟨x, xs, rfl, r1, r2⟩ := h
    exact RD.merge (more := ds) (mv := xs) r2 (h2.put r1)
theorem disp_t {keys : List (Option Expr)} {values : List Expr} {Q : List (Key × D) → Prop} (h : qK X B env keys values fun l => l.length ≤ 15 ∧ Q (dmerge l)) {σ : St} {F H : Hp} (rp : Rep X.K B F H σ env) {Qv : VK}
    (k : ∀ q xs F' H' l, Le B.W F H F' H' → H q = none → F' q = none → H' q = some (.dK xs) → RD X.K F' l xs → Q l → Qv (.ref q) H') : tDisp (wPs X keys values) σ H Qv := by
  intro q hq
  have k0 := rp.ok
  have nM : ¬ B.W.M q := fun m => (k0.mf q m).2 hq
  have l0 := Le.own (o := .dK []) k0 hq
  refine h σ F _ (rp.step l0) _ fun kvs F1 H1 kds l1 rds hh => ?_
  have e1 : H1 q = some (.dK []) := l1.hh q _ nM upd_same
  have f1 : F1 q = none := l1.un q (k0.fh.free hq) (by rw [upd_same]; exact fun z => nomatch z)
  refine ⟨e1, kvs, rfl, by rw [rds.length]; exact hh.1, k q _ F1 _ _ (Le.put k0 (l0.trans l1) hq f1) hq f1 upd_same (RD.merge rds (by rw [RD])) hh.2⟩
theorem e_disp {keys : List (Option Expr)} {values : List Expr} (h : qK X B env keys values fun l => l.length ≤ 15 ∧ Q (.dic (dmerge l))) (h1 : keys.all (·.isSome) = true := by rfl) (h2 : keys.length = values.length := by rfl) (h3 : keys ≠ [] := by simp) (h4 : keys.length ≤ 15 := by decide) :
    qE X B env (.Dict keys values pos) Q := fun σ F H rp Qv k => by
  refine ⟨_, L2.pe_disp (pps_w h1 h2) h1 h2 h3 h4, disp_t (Q := fun l => Q (.dic l)) h rp fun q xs F' H' l le hq hF hH rl qq => ?_⟩
  have s1 : Same F' (upd F' q (.dK xs)) := fun b u e => by rw [upd_ne (ne_of_none e hF)]; exact e
  exact k (.ref q) (upd F' q (.dK xs)) H' (.dic l) (Le.freeze rp.ok le hq hF hH) (mkDic upd_same (RD.mono s1 _ _ rl)) qq
end
end SY
set_option Elab.async false
set_option linter.all false
set_option maxRecDepth 100000
set_option maxHeartbeats 4000000
namespace SY
open PySem PySem.Spec L2
section
variable {X : Cx} {B : Bs} {env : AE} {tg iter elt : Expr} {scope : Scope} {vs is : List Nat} {Q : List D → Prop}
/-- the items of which p holds, each turned into something -/
theorem lc_fmap {test : Expr} (pd : D → Bool) (fd : D → D) (h : qI X B env tg iter fun items => items.length ≤ 100000 ∧ Q ((items.filter pd).map fd) ∧ ∀ (i : Nat) d, items[i]? = some d →
      ∀ (s : Shared) (H : Hp) (C : Addr) (cl : List (Str × Addr)) (fp : List Addr), qG (X.blk s H scope (compEnvC scope cl C X.env) fp) B (wipeE env vs) tg is d fun env2 =>
        ∀ (s : Shared) (H : Hp) (C : Addr) (cl : List (Str × Addr)) (fp : List Addr), qT (X.blk s H scope (compEnvC scope cl C X.env) fp) B env2 test fun b => b = pd d ∧ (b = true →
          ∀ (s : Shared) (H : Hp) (C : Addr) (cl : List (Str × Addr)) (fp : List Addr), qE (X.blk s H scope (compEnvC scope cl C X.env) fp) B env2 elt fun z => z = fd d)) : qLc X B env scope vs is tg iter [test] elt Q := fun σ F H rp Qi k =>
  h σ F H rp Qi fun J F' H' items l it ⟨hl, q, step⟩ => k J F' H' items l it ⟨hl, fun i acc => acc = ((items.take i).filter pd).map fd, rfl, fun acc e => by rw [e, List.take_length]; exact q, fun i d acc hd hac e => by
    intro s H1 C cl fp σ F H x rp rd Qg kk
    refine step i d hd s H1 C cl fp σ F H x rp rd Qg fun σ' env' rp' w q => kk σ' env' rp' w ?_
    intro s H C cl fp
    refine ts_one ?_
    intro σ2 F2 H2 rp2 Qv kv
    refine q s H C cl fp σ2 F2 H2 rp2 Qv fun b F3 H3 l3 hb => kv b F3 H3 l3 ?_
    obtain ⟨hb, hq⟩ := hb
    have ef : ((items.take (i + 1)).filter pd).map fd = ((items.take i).filter pd).map fd ++ if pd d = true then [fd d] else [] := by
      rw [take_snoc hd, List.filter_append, List.map_append]
      congr 1
      cases hpd : pd d <;> simp [hpd]
    have e : acc = ((items.take i).filter pd).map fd := e
    cases b with
    | true =>
      rw [if_pos rfl]
      intro s H C cl fp
      refine (hq rfl s H C cl fp).imp fun z hz => ?_
      show acc ++ [z] = ((items.take (i + 1)).filter pd).map fd
      rw [ef, ← hb, if_pos rfl, e, hz]
    | false =>
      rw [if_neg (by simp)]
      show acc = ((items.take (i + 1)).filter pd).map fd
      rw [ef, ← hb, if_neg (by simp), List.append_nil, e]⟩
end
theorem ints_flat : ∀ l : List Int, flDs (l.map D.int) = some (l.map V.int)
  | [] => rfl
  | i :: l => by rw [List.map_cons, List.map_cons]; unfold flDs; rw [ints_flat l]; rfl
theorem ints_ints : ∀ l : List Int, intsD (l.map D.int) = some l
  | [] => rfl
  | i :: l => by rw [List.map_cons]; unfold intsD; rw [ints_ints l]; rfl
theorem inV_int (i : Int) (l : List Int) : inV (.int i) (l.map V.int) = decide (i ∈ l) := by
  rw [Bool.eq_iff_iff, decide_eq_true_iff]
  unfold inV
  simp [List.any_map, List.any_eq_true, eqV]
end SY
set_option Elab.async false
set_option linter.all false
set_option maxRecDepth 100000
set_option maxHeartbeats 4000000
/-! SY13: instances: __init__, attributes of an own instance, the making of one. -/
namespace L2
open PySem PySem.Spec PyProof.Rows
section
variable {X : Cx} {CX : CXT} {k : Nat} {C f : Addr} {fd : FuncData} {ps : List Str} {mc : Value} {sp : Sp} {E : XK} {o e : Expr} {es : List Expr} {m : Str} {pos apos : Pos} {ta : TE} {t : TA} {pl : Sem Bool}
/-- C.m(..), m a plain def of the class C -/
theorem pe_cfn (he : PE X o ta) (r : ClX.CRead X.K C mc) (c : ClX.CVal X.K C mc m (.ref f) (.ref f)) (kp : PySem.W.keepIn X.K (.ref f) = true) (F : FnOk X.prog X.w X.K X.mg X.base CX k f fd ps sp) (hb : Binds X.K fd ps []) (hr : Room k X.A) (hx : Passes CX X E) (ha : PA X (e :: es) t)
    (hst : starEach (e :: es) X.env = (false, eval e X.env) :: starEach es X.env := by rfl) (hpl : (backTo pos (starEach es X.env)).any (·.1) = false := by rfl)
    (ht : eval (.Call (.Attribute o m apos) (e :: es) [] pos) X.env = (do
      let ov ← eval o X.env
      standAt apos.atName
      let (f, first) ← holding [ov] (getMethod ov m pl)
      callWith pos f first (backTo pos (starEach (e :: es) X.env)) (backToKw pos (keywordEach [] X.env))) := by rfl) :
    PE X (.Call (.Attribute o m apos) (e :: es) [] pos) (fun σ H Q => ta σ H fun x H1 => x = .ref C ∧ t σ H1 fun vs H2 => sp vs H2 Q E) := by
  refine ⟨fun pins s σ H Q I h => ?_⟩
  refine PySem.W.methodCall_KW (pl := pl) (thn (he.run pins s σ H _ I h) fun u s1 ⟨x, H1, I1, rx, ex, q⟩ => ?_) ht
  subst ex
  obtain rfl : u = Value.ref C := rx
  refine PySem.W.method_cls I1.kIn r.ga (ClX.getcval_ok I1 r c fun s2 I2 => ?_)
  refine PySem.W.callWith_K (first := []) (h₀ := X.base) I2.ok.mod.kin kp (thn (ha.run pos pins s2 σ H1 _ I2 q) fun us s3 ⟨vs, H2, I3, r3, q2⟩ => ⟨I3.kIn, ?_⟩) hst hpl
  exact run_fn F hr hb .nil hx I3 r3 (by rw [List.append_nil]; exact q2)
end
end L2
namespace SY
open PySem PySem.Spec L2
theorem RS.put {K : PySem.W.Frag} {F : Hp} {f : Str} {d : D} {v : V} (r : R K F d v) : ∀ {l : List (Str × D)} {fs : List (Str × V)}, RS K F l fs → RS K F (l.foldr (fun x acc => acc) (l)) fs
  | _, _, h => by
    have : ∀ (l : List (Str × D)), l.foldr (fun x acc => acc) l = l := fun l => by
      have : ∀ (m a : List (Str × D)), m.foldr (fun x acc => acc) a = a := fun m a => by induction m with
        | nil => rfl
        | cons x m ih => exact ih
      exact this l l
    rw [this]
    exact h
/-- as putF, on data -/
def fput (f : Str) (d : D) : List (Str × D) → List (Str × D)
  | [] => [(f, d)]
  | (g, x) :: r => if g = f then (g, d) :: r else (g, x) :: fput f d r
theorem RS.fput {K : PySem.W.Frag} {F : Hp} {f : Str} {d : D} {v : V} (r : R K F d v) : ∀ {l : List (Str × D)} {fs : List (Str × V)}, RS K F l fs → RS K F (SY.fput f d l) (putF f v fs)
  | [], _, h => by rw [RS] at h; subst h; unfold SY.fput putF; rw [RS]; exact ⟨v, [], rfl, r, by rw [RS]⟩
  | (g, x) :: l, _, h => by
    rw [RS] at h
    obtain ⟨y, ys, rfl, h1, h2⟩ := h
    unfold SY.fput putF
    by_cases e : g = f
    · rw [if_pos e, if_pos e, RS]; exact ⟨v, ys, rfl, r, h2⟩
    · rw [if_neg e, if_neg e, RS]; exact ⟨y, _, rfl, h1, RS.fput r h2⟩
theorem RS.length {K : PySem.W.Frag} {F : Hp} : ∀ {l : List (Str × D)} {fs : List (Str × V)}, RS K F l fs → fs.length = l.length
  | [], _, h => by rw [RS] at h; subst h; rfl
  | (g, x) :: l, _, h => by
    rw [RS] at h
    obtain ⟨y, ys, rfl, h1, h2⟩ := h
    rw [List.length_cons, List.length_cons, RS.length h2]
def hid (H : Hp) (p : Addr) : Hp := fun y => if y = p then none else H y
section
variable {X : Cx} {B : Bs} {env : AE} {pos p tpos px : Pos} {tg e a b o : Expr} {Wx : WX} {P : Post} {n : Nat} {Q : D → Prop}
/-- an own instance is another one behind a step that does not see it -/
theorem Rep.reOi {K : PySem.W.Frag} {F H F' H' : Hp} {σ : St} {i : Nat} {q dx : Addr} {C : Addr} {o0 : Option Addr} {l l' : List (Str × D)} {fs : List (Str × V)} (rp : Rep K B F H σ env) (hB : B.W = W0) (he : env[i]? = some (.oi o0 C l)) (hq : σ[i]? = some (some (.ref q)))
    (le : Le W0 F (hid H q) F' H') (hF : F' q = none) (hH : H' q = some (.ins C dx fs)) (rl : RS K F' l' fs) : Rep K B F' H' σ (env.set i (.oi o0 C l')) := by
  obtain ⟨q', dx0, xs, h1, h2, h3, h4, h5, h6, h7⟩ := rp.sl i _ he
  rw [hq] at h1
  cases h1
  have hm : ∀ {a : Addr} {o : HO}, a ≠ q → H a = some o → H' a = some o := fun {a o} ha e => le.hh a o (fun z => z) (by show (if a = q then none else H a) = some o; rw [if_neg ha]; exact e)
  have un : ∀ {a : Addr}, a ≠ q → F a = none → H a ≠ none → F' a = none := fun {a} ha f hn => le.un a f (by show (if a = q then none else H a) ≠ none; rw [if_neg ha]; exact hn)
  have hb := rp.le
  have noM : ∀ a, ¬ B.W.M a := fun a m => by rw [hB] at m; exact m
  refine ⟨⟨?_, hb.ff.trans le.ff, fun a u m e => ?_, fun a f hn => ?_⟩, by rw [List.length_set]; exact rp.len, fun j v e => ?_, fun j k c oj ok ej ek => ?_⟩
  · rw [hB]; exact WOk.w0 le.ok.fh
  · have hne : a ≠ q := ne_of_none e h4
    exact hm hne (hb.hh a u m e)
  · by_cases z : a = q
    · rw [z]; exact hF
    · refine un z (hb.un a f hn) ?_
      cases w : B.H0 a with
      | none => exact absurd w hn
      | some u => rw [hb.hh a u (noM a) w]; exact fun z => nomatch z
  · by_cases w : j = i
    · subst w
      have hl : j < env.length := (List.getElem?_eq_some_iff.mp he).1
      rw [List.getElem?_set_self hl] at e
      cases e
      exact ⟨q, dx, fs, hq, hF, h3, h4, hH, rl, h7⟩
    · rw [List.getElem?_set_ne (Ne.symm w)] at e
      have s := rp.sl j v e
      cases v with
      | un => trivial
      | sh d => obtain ⟨y, g1, g2⟩ := s; exact ⟨y, g1, R.mono le.ff _ _ g2⟩
      | ow d =>
        obtain ⟨c, zs, g1, g2, g3, g4, g5, g6⟩ := s
        have z : c ≠ q := fun w2 => by rw [w2, h5] at g5; cases g5
        exact ⟨c, zs, g1, un z g2 (by rw [g5]; exact fun z => nomatch z), g3, g4, hm z g5, RL.mono le.ff _ _ g6⟩
      | od o d =>
        obtain ⟨c, zs, g1, g2, g3, g4, g5, g6, g7⟩ := s
        have z : c ≠ q := fun w2 => by rw [w2, h5] at g5; cases g5
        exact ⟨c, zs, g1, un z g2 (by rw [g5]; exact fun z => nomatch z), g3, g4, hm z g5, RD.mono le.ff _ _ g6, g7⟩
      | oi o C2 d =>
        obtain ⟨c, dx2, zs, g1, g2, g3, g4, g5, g6, g7⟩ := s
        have z : c ≠ q := fun w2 => w (rp.ap j i q (.inr (.inr ⟨(o, C2, d), e⟩)) (.inr (.inr ⟨(o0, C, l), he⟩)) (w2 ▸ g1) hq)
        exact ⟨c, dx2, zs, g1, un z g2 (by rw [g5]; exact fun z => nomatch z), g3, g4, hm z g5, RS.mono le.ff _ _ g6, g7⟩
  · have get : ∀ {j}, OwnAt (env.set i (.oi o0 C l')) j → OwnAt env j := fun {j} o => by
      by_cases w : j = i
      · subst w; exact .inr (.inr ⟨(o0, C, l), he⟩)
      · exact ownAt_set w o
    exact rp.ap j k c (get oj) (get ok) ej ek
theorem hid_le {F H : Hp} {q : Addr} {o : HO} (s : Same F H) (hF : F q = none) : Le W0 F (hid H q) F (upd H q o) := by
  have s2 : Same F (upd H q o) := fun b u e => by rw [upd_ne (ne_of_none e hF)]; exact s b u e
  refine ⟨WOk.w0 s2, Same.refl _, fun a u _ e => ?_, fun a f _ => f⟩
  have e : (if a = q then none else H a) = some u := e
  by_cases z : a = q
  · rw [if_pos z] at e; cases e
  · rw [if_neg z] at e; rw [upd_ne z]; exact e
/-- x.f = e, x an own instance -/
theorem s_fset (i : Nat) {x f : Str} {C : Addr} {o0 : Option Addr} {l : List (Str × D)} {apos : Pos} (hB : B.W = W0) (he : env[i]? = some (.oi o0 C l)) (cls : Cls X.K C) (nf : NoAttr X.K C f) (h : qE X B env e fun d => l.length < 1000 ∧ P.nx (env.set i (.oi o0 C (fput f d l)))) (hi : X.N[i]? = some x := by rfl)
    (hv : Vis X.env.scope x := by first | exact Or.inl rfl | exact Or.inr (Or.inl rfl) | exact Or.inr (Or.inr rfl)) (hs : swapsWith e (some (.Attribute (.Name x p) f apos)) pos.line X.env = pure false := by rfl)
    (hd : (x == ("__debug__" : Str)) = false := by decide) (hcd : (x == ("__classdict__" : Str)) = false := by decide) : qS1 X B Wx env (.Assign [.Attribute (.Name x p) f apos] e pos) P := fun σ F H E rp c => by
  refine ⟨_, ps_fld (pe_var hi hv hd hcd) pe_w hs, ?_⟩
  obtain ⟨q, dx, xs, h1, h2, h3, h4, h5, h6, h7⟩ := rp.sl i _ he
  refine h σ F H rp _ fun v F1 H1 d l1 rd hq => ⟨_, h1, q, C, dx, xs, rfl, ?_, cls, nf, by rw [h6.length]; exact hq.1, ?_⟩
  · exact l1.hh q _ h3 h5
  · have rp1 := rp.step l1
    obtain ⟨q', dx1, xs1, g1, g2, g3, g4, g5, g6, g7⟩ := rp1.sl i _ he
    rw [h1] at g1
    cases g1
    have e5 : H1 q = some (.ins C dx xs) := l1.hh q _ h3 h5
    rw [e5] at g5
    cases g5
    exact c.nx σ F1 _ _ (rp1.reOi hB he h1 (hid_le rp1.ok.fh g2) g2 upd_same (RS.fput rd g6)) l1.ff hq.2
/-- x.f, x an own instance -/
theorem e_oiFld (i : Nat) {x f : Str} {C : Addr} {o0 : Option Addr} {l : List (Str × D)} {d : D} (he : env[i]? = some (.oi o0 C l)) (cls : Cls X.K C) (nf : NoAttr X.K C f) (hl : l.lookup f = some d) (q : Q d) (hi : X.N[i]? = some x := by rfl)
    (hv : Vis X.env.scope x := by first | exact Or.inl rfl | exact Or.inr (Or.inl rfl) | exact Or.inr (Or.inr rfl)) (hb : attributeBase (.Name x p) f X.env (eval (.Name x p) X.env) = eval (.Name x p) X.env := by rfl)
    (hd : (x == ("__debug__" : Str)) = false := by decide) (hcd : (x == ("__classdict__" : Str)) = false := by decide) : qE X B env (.Attribute (.Name x p) f pos) Q := fun σ F H rp Qv k => by
  refine ⟨_, pe_fld (pe_var hi hv hd hcd) hb, ?_⟩
  obtain ⟨c, dx, xs, h1, h2, h3, h4, h5, h6, h7⟩ := rp.sl i _ he
  obtain ⟨v, e1, e2⟩ := h6.lookup hl
  exact ⟨_, h1, c, C, dx, xs, v, rfl, h5, cls, nf, e1, k v F H d (Le.refl rp.ok) e2 q⟩
end
/-- the promise of an __init__ on data: the attributes ahead, the arguments, what holds of the attributes behind -/
abbrev I0 := List (Str × D) → List D → (List (Str × D) → Prop) → Prop
def spI (K : PySem.W.Frag) (C : Addr) (S : I0) : Sp := fun vs H Q _ => ∃ F p dx fs l ds vs' Qd, vs = V.ref p :: vs' ∧ Same F H ∧ F p = none ∧ H p = some (.ins C dx fs) ∧ RS K F l fs ∧ RL K F ds vs' ∧ S l ds Qd ∧
  ∀ F' H' dx' fs' l', Le W0 F (hid H p) F' H' → F' p = none → H' p = some (.ins C dx' fs') → RS K F' l' fs' → Qd l' → Q .non H'
section
variable {Pr : Program} {w : World} {K : PySem.W.Frag} {mg : Str → Option Value} {base : Heap} {x qual : Str} {N ps : List Str} {k : Nat} {C : Addr} {s1 : Str}
theorem fnOk_I {S : I0} {params : Arguments} {body : List Stmt} {scope : Scope} {dvs : List V} {kws : List (Str × V)} {f : Addr} {fd : FuncData} (F : FunD K x qual params body scope dvs kws f fd) (sc : FnScope N (s1 :: ps) scope) (ar : ∀ l ds Q, S l ds Q → ds.length = ps.length) (fr : Free mg)
    (hbody : ∀ (cdv : Value) (A : Around) (outer : List Env) (s : Shared) (H0 : Hp) (E : XK), Ev (cxOf (L2.CX Pr w) Pr w K mg base N qual scope f cdv A outer s H0 E) k → PassesOwn (model Pr w) (cxOf (L2.CX Pr w) Pr w K mg base N qual scope f cdv A outer s H0 E).A (cxOf (L2.CX Pr w) Pr w K mg base N qual scope f cdv A outer s H0 E).env (cxOf (L2.CX Pr w) Pr w K mg base N qual scope f cdv A outer s H0 E).xe →
      ∀ (q : Addr) (l : List (Str × D)) (ds : List D) (Q : List (Str × D) → Prop) (B : Bs), B.W = W0 → S l ds Q → qS (cxOf (L2.CX Pr w) Pr w K mg base N qual scope f cdv A outer s H0 E) B noX (.oi (some q) C l :: env0 (N.length - 1) ds) body
        { nx := fun env => ∃ l', env[0]? = some (.oi (some q) C l') ∧ Q l', rt := fun _ _ => False }) : FnOk Pr w K mg base (L2.CX Pr w) (k + 1) f fd (s1 :: ps) (spI K C S) := by
  refine F.ok sc (fun vs H Q E ⟨F1, q, dx, fs, l, ds, vs', Qd, e, _, _, _, _, r, h, _⟩ => by rw [e, List.length_cons, List.length_cons, r.length, ar l ds Qd h]) fun cdv A outer s H vs Q E hr ⟨F1, q, dx, fs, l, ds, vs', Qd, e, sm, fq, hq, rs, r, h, kk⟩ => ?_
  subst e
  let B : Bs := ⟨W0, F1, hid H q⟩
  have hhid : hid H q q = none := if_pos rfl
  have le0 : Le W0 F1 (hid H q) F1 H := ⟨WOk.w0 sm, Same.refl _, fun y o _ e => by
    have e : (if y = q then none else H y) = some o := e
    by_cases hy : y = q
    · rw [if_pos hy] at e; cases e
    · rw [if_neg hy] at e; exact e, fun y e _ => e⟩
  have rp0 := rep0 (N := N.tail) (K := K) (WOk.w0 sm) r
  have rp : Rep K B F1 H (L2.start N (V.ref q :: vs')) (.oi (some q) C l :: env0 (N.length - 1) ds) := by
    have es : L2.start N (V.ref q :: vs') = some (V.ref q) :: L2.start N.tail vs' := by
      unfold L2.start
      rw [List.map_cons, List.cons_append, List.length_cons, List.length_tail]
      congr 2
      rw [Nat.sub_sub, Nat.add_comm 1]
    have el : N.tail.length = N.length - 1 := List.length_tail
    rw [es]
    rw [el] at rp0
    refine ⟨le0, by rw [List.length_cons, List.length_cons, rp0.len], fun i v e => ?_, fun i j p oi oj ei ej => ?_⟩
    · cases i with
      | zero =>
        cases e
        exact ⟨q, dx, fs, rfl, fq, fun z => z, hhid, hq, rs, fun b z => by cases z; rfl⟩
      | succ i =>
        rw [List.getElem?_cons_succ] at e
        have := rp0.sl i v e
        have hm := List.mem_of_getElem? e
        unfold env0 at hm
        rcases List.mem_append.mp hm with hm | hm
        · obtain ⟨d, _, rfl⟩ := List.mem_map.mp hm
          exact this
        · rw [(List.mem_replicate.mp hm).2]
          trivial
    · have no : ∀ i, OwnAt (AV.oi (some q) C l :: env0 (N.length - 1) ds) (i + 1) → False := fun i o => by
        have h : ∀ v, (env0 (N.length - 1) ds)[i]? = some v → v = .un ∨ ∃ d, v = .sh d := fun v e => by
          have := List.mem_of_getElem? e
          unfold env0 at this
          rcases List.mem_append.mp this with z | z
          · obtain ⟨d, _, rfl⟩ := List.mem_map.mp z
            exact .inr ⟨d, rfl⟩
          · exact .inl (List.mem_replicate.mp z).2
        rcases o with ⟨l, o⟩ | ⟨l, o⟩ | ⟨l, o⟩
        all_goals
          rw [List.getElem?_cons_succ] at o
          rcases h _ o with z | ⟨d, z⟩ <;> cases z
      cases i with
      | zero =>
        cases j with
        | zero => rfl
        | succ j => exact absurd oj (no j)
      | succ i => exact absurd oi (no i)
  refine ⟨_, pss_w, hbody cdv A outer s H E ⟨sc.nd, rfl, hr, fr⟩ (passes_of rfl) q l ds Qd B rfl h _ F1 H _ rp ⟨fun σ F2 H2 env2 rp _ qq => ?_, fun v σ F2 H2 env2 d rp rd q => False.elim q, fun _ _ _ _ _ _ z => False.elim z, fun _ _ _ _ _ _ z => False.elim z, fun _ _ _ _ _ _ _ _ z => False.elim z⟩⟩
  obtain ⟨l', he, hb'⟩ := qq
  obtain ⟨p, dx', xs, g1, g2, g3, g4, g5, g6, g7⟩ := rp.sl 0 _ he
  have ep := g7 q rfl
  subst ep
  exact kk F2 H2 dx' xs l' rp.le g2 g5 g6 hb'
end
/-- a class that is made by its name -/
structure Mkr (Pr : Program) (w : World) (K : PySem.W.Frag) (mg : Str → Option Value) (base : Heap) (k : Nat) (x : Str) (C : Addr) (S : I0) : Prop where
  ex : ∃ (f : Addr) (fd : FuncData) (ps : List Str), Mk K C f ∧ FnOk Pr w K mg base (L2.CX Pr w) k f fd ps (spI K C S) ∧ mg x = some (.ref C) ∧ Binds K fd ps []
section
variable {X : Cx} {B : Bs} {env : AE} {pos p : Pos} {e : Expr} {es : List Expr} {n k : Nat} {x : Str} {Q : D → Prop} {C : Addr}
theorem make_le {W : Wd} {F H F' H' : Hp} {x dx dx' C : Addr} {fs : List (Str × V)} (k : WOk W F H) (hx : H x = none) (hd : H dx = none) (ne : dx ≠ x) (l : Le W0 F (hid (upd (upd H dx (.own x)) x (.ins C dx [])) x) F' H') (hF : F' x = none) (hH : H' x = some (.ins C dx' fs)) : Le W F H (upd F' x (.ins C dx' fs)) H' := by
  have e : hid (upd (upd H dx (.own x)) x (.ins C dx [])) x = upd H dx (.own x) := by
    funext y
    show (if y = x then none else upd (upd H dx (.own x)) x (.ins C dx []) y) = _
    by_cases h : y = x
    · rw [if_pos h, h, upd_ne (Ne.symm ne), hx]
    · rw [if_neg h, upd_ne h]
  rw [e] at l
  have l0 := Le.own (o := .own x) k hd
  exact Le.freeze k (l0.trans (Le.pure l0.ok l)) hx hF hH
theorem e_make {S : I0} (c : Mkr X.prog X.w X.K X.mg X.base k x C S) (ev : Ev X n) (hk : k + 1 ≤ n) (h : qA X B env (e :: es) fun ds => S [] ds fun l => Q (.ins C l)) (hg : Gl X x := by rfl)
    (hdb : (x == ("__debug__" : Str)) = false := by decide) (he : starEach (e :: es) X.env = (false, eval e X.env) :: starEach es X.env := by rfl) (hpl : (backTo pos (starEach es X.env)).any (·.1) = false := by rfl) :
    qE X B env (.Call (.Name x p) (e :: es) [] pos) Q := fun σ F H rp Qv kk => by
  obtain ⟨f, fd, ps, M, F0, hm, b⟩ := c.ex
  refine ⟨_, pe_make M F0 (ev.room.mono hk) hg hm b .nil passL pa_w hdb he hpl, ?_⟩
  refine h σ F H rp _ fun vs F1 H1 ds l1 rds q => ?_
  intro y dx hy hd ne
  have k1 := (rp.step l1).ok
  rw [List.append_nil]
  have fy : F1 y = none := k1.fh.free hy
  have fd' : F1 dx = none := k1.fh.free hd
  refine ⟨F1, y, dx, [], [], ds, vs, _, rfl, fun b u e => ?_, fy, upd_same, by rw [RS], rds, q, fun F' H' dx' fs' l' l2 hF hH rs qq => ⟨rfl, ?_⟩⟩
  · rw [upd_ne (ne_of_none e fy), upd_ne (ne_of_none e fd')]; exact k1.fh b u e
  · have s1 : Same F' (upd F' y (.ins C dx' fs')) := fun b u e => by rw [upd_ne (ne_of_none e hF)]; exact e
    exact kk (.ref y) _ H' (.ins C l') (l1.trans (make_le k1 hy hd ne l2 hF hH)) (mkIns upd_same (RS.mono s1 _ _ rs)) qq
end
end SY
set_option Elab.async false
set_option linter.all false
set_option maxRecDepth 100000
set_option maxHeartbeats 4000000
/-! SY14: making an instance with one keyword. -/
namespace SY
open PySem PySem.Spec L2
/-- n positional values behind self, one keyword y -/
structure MkrK (Pr : Program) (w : World) (K : PySem.W.Frag) (mg : Str → Option Value) (base : Heap) (k n : Nat) (x y : Str) (C : Addr) (S : I0) : Prop where
  ex : ∃ (f : Addr) (fd : FuncData) (ps : List Str), Mk K C f ∧ FnOk Pr w K mg base (L2.CX Pr w) k f fd ps (spI K C S) ∧ mg x = some (.ref C) ∧ KBn K fd ps (n + 1) [y] (fun us ws => us ++ ws) (fun vs zs => vs ++ zs)
section
variable {X : Cx} {B : Bs} {env : AE} {pos p kpos : Pos} {e a : Expr} {es : List Expr} {n k m : Nat} {x y : Str} {Q : D → Prop} {C : Addr} {nm : Option Str}
theorem e_makeK {S : I0} (c : MkrK X.prog X.w X.K X.mg X.base k m x y C S) (ev : Ev X n) (hk : k + 1 ≤ n) (h : qA X B env (e :: es) fun ds => ds.length = m ∧ qE X B env a fun d => S [] (ds ++ [d]) fun l => Q (.ins C l)) (hg : Gl X x := by rfl)
    (hall : (backToKw pos (keywordEach [⟨nm, a, kpos⟩] X.env)).all (·.1.isSome) = true := by rfl) (hks : (backToKw pos (keywordEach [⟨nm, a, kpos⟩] X.env)).filterMap (·.1) = [y] := by rfl)
    (hdb : (x == ("__debug__" : Str)) = false := by decide) (he : starEach (e :: es) X.env = (false, eval e X.env) :: starEach es X.env := by rfl)
    (hpl : ((backTo pos (starEach (e :: es) X.env)).any (·.1) || (backToKw pos (keywordEach [⟨nm, a, kpos⟩] X.env)).any (·.1.isNone)) = false := by rfl) :
    qE X B env (.Call (.Name x p) (e :: es) [⟨nm, a, kpos⟩] pos) Q := fun σ F H rp Qv kk => by
  obtain ⟨f, fd, ps, M, F0, hm, b⟩ := c.ex
  refine ⟨_, pe_makeK M F0 (ev.room.mono hk) hg hm b passL pa_w (pk_cons pe_w pk_nil) hall hks hdb he hpl, ?_⟩
  refine h σ F H rp _ fun vs F1 H1 ds l1 rds q => ?_
  refine q.2 σ F1 H1 (rp.step l1) _ fun v F2 H2 d l2 rd q2 => ?_
  have rds2 := RL.mono l2.ff _ _ rds
  refine ⟨by rw [rds.length]; exact q.1, rfl, fun y dx hy hd ne => ?_⟩
  have k2 := ((rp.step l1).step l2).ok
  have fy : F2 y = none := k2.fh.free hy
  have fd' : F2 dx = none := k2.fh.free hd
  refine ⟨F2, y, dx, [], [], ds ++ [d], vs ++ [v], _, rfl, fun b u e => ?_, fy, upd_same, by rw [RS], rds2.append (RL.cons rd RL.nil), q2, fun F' H' dx' fs' l' l3 hF hH rs qq => ⟨rfl, ?_⟩⟩
  · rw [upd_ne (ne_of_none e fy), upd_ne (ne_of_none e fd')]; exact k2.fh b u e
  · have s1 : Same F' (upd F' y (.ins C dx' fs')) := fun b u e => by rw [upd_ne (ne_of_none e hF)]; exact e
    exact kk (.ref y) _ H' (.ins C l') ((l1.trans l2).trans (make_le k2 hy hd ne l3 hF hH)) (mkIns upd_same (RS.mono s1 _ _ rs)) qq
end
end SY
set_option Elab.async false
set_option linter.all false
set_option maxRecDepth 100000
set_option maxHeartbeats 4000000
/-! SY15: (x, ..) * n. -/
namespace L2
open PySem PySem.Spec PyProof.Rows
theorem tuple_mul1 (l : Addr) (items : Array Value) (n : Nat) (dd : Option Addr) (sl : Array (Option Value)) (u : Tok) :
    Meets (Builtin.«tuple.__mul__» ⟨[.ref l, .int 1 u], []⟩) (fun _ R s => s.heap.get? l = some { cls := .type "tuple", dict := dd, data := .seq items n, slots := sl } ∧ R (.ok (.ret (Value.ref l))) s) :=
  .of_wp fun prog w A R s h => by
    obtain ⟨hp, g, d, tk, os⟩ := s
    obtain ⟨hl, h⟩ := h
    have f1 := AutoSeq1.idx_int
    have c1 : (items.isEmpty || (1 : Int) == 1) = true := by simp
    wp_walk using wpAny_loadPart' hl
    exact ⟨_, rfl, h⟩
theorem op_repT1 {X : Cx} : OpR X (binaryOp .Mult) (fun x y H Q => ∃ l xs, x = .ref l ∧ y = .int 1 ∧ SqT X.K H l xs ∧ Q (.ref l) H) := by
  intro pins s σ H x y v u Q I rx ry h
  obtain ⟨l, xs, rfl, rfl, hT, q⟩ := h
  cases rx
  obtain ⟨t, rfl⟩ := ry
  obtain ⟨its, r, ⟨⟨cls, dd, data, sl⟩, ho, hc, n, hd⟩, hs⟩ := I.tuple hT
  simp only at hc hd
  subst hc hd
  exact wpAny_binaryOp_repeat_ref (T := "tuple") (U := "int") (by decide) ⟨_, ho, rfl⟩ (fun s' => typeIs_int s' 1 t) noFill_tuple_mul F.fills_int_mul F.slot_int_rmul repeat_tuple F.slot_int_index.lookup
    (call_meets F.slot_int_rmul (typeIs_int s 1 t) F.entry_int_rmul (F.args_int_rmul_2 _ _) (int_rmul_tuple 1 t l its.toArray n dd sl)
      ⟨ho, rfl, ⟨_, ho, rfl⟩, call_meets F.slot_tuple_mul ⟨_, ho, rfl⟩ F.entry_tuple_mul (F.args_tuple_mul_2 _ _) (tuple_mul1 l its.toArray n dd sl t) ⟨ho, .ref l, H, I, rfl, q⟩⟩)
end L2
namespace SY
open PySem PySem.Spec L2
theorem RL.rep {K : PySem.W.Frag} {F : Hp} {l : List D} {xs : List V} (h : RL K F l xs) : ∀ n : Nat, RL K F (List.replicate n l).flatten (List.replicate n xs).flatten
  | 0 => RL.nil
  | n + 1 => by
    rw [List.replicate_succ, List.replicate_succ, List.flatten_cons, List.flatten_cons]
    exact h.append (RL.rep h n)
section
variable {X : Cx} {B : Bs} {env : AE} {pos : Pos} {Q : D → Prop} {a b : Expr}
/-- (x, ..) * n -/
theorem e_repT (h : qE X B env a fun x => qE X B env b fun y => ∃ l n, x = .tup l ∧ y = .int n ∧ l ≠ [] ∧ 1 ≤ n ∧ n ≤ 1000 ∧ l.length ≤ 1000 ∧ Q (.tup (List.replicate n.toNat l).flatten)) : qE X B env (.BinOp a .Mult b pos) Q := fun σ F H r Qv k => by
  refine ⟨_, pe_op (OpR.or op_repT op_repT1) pe_w pe_w, ?_⟩
  refine h σ F H r _ fun v F1 H1 x l1 rx h2 => h2 σ F1 H1 (r.step l1) _ fun u F2 H2 y l2 ry q => ?_
  have rx2 := R.mono l2.ff _ _ rx
  obtain ⟨l, n, rfl, rfl, hne, h0, h1, hl, q⟩ := q
  obtain ⟨p, xs, rfl, hx, rlx⟩ := rTup rx2
  have ry := rInt ry
  have k2 := ((r.step l1).step l2).ok
  by_cases hn : n = 1
  · subst hn
    refine .inr ⟨p, xs, rfl, ry, same_sqT k2.fh hx, k _ F2 H2 _ (l1.trans l2) (mkTup hx ?_) q⟩
    exact rlx.rep 1 |> fun z => by simpa using z
  · refine .inl ⟨p, n, xs, rfl, ry, same_sqT k2.fh hx, fun e => hne ?_, by omega, h1, by rw [rlx.length]; exact hl, fun c hc => ?_⟩
    · have := rlx.length
      rw [e] at this
      exact List.eq_nil_of_length_eq_zero this.symm
    · have l4 := Le.new (o := .tup (List.replicate n.toNat xs).flatten) k2 hc
      exact k _ _ _ _ ((l1.trans l2).trans l4) (mkTup (SqT.of upd_same) (RL.mono l4.ff _ _ (rlx.rep _))) q
end
end SY
set_option Elab.async false
set_option linter.all false
set_option maxRecDepth 100000
set_option maxHeartbeats 4000000
/-! SY16: sorted(d), the keys of d tuples (int, text, int), any number of them. -/
namespace SY
open PySem PySem.Spec L2 PyProof.Rows
section
variable {prog : Program} {w : World} {A : Around} {E : Value → Shared → Prop} {s : Shared}
def IsTrip (h : Heap) (v : Value) (x : Int) (y : Str) (z : Int) : Prop := ∃ a o t1 t2 t3 n, v = .ref a ∧ h.get? a = some o ∧ o.cls = .type "tuple" ∧ o.data = .seq #[.int x t1, .str y t2, .int z t3] n
theorem IsTrip.keeps {h h' : Heap} {v : Value} {x z : Int} {y : Str} (p : IsTrip h v x y z) (k : ∀ b o, h.get? b = some o → o.cls = .type "tuple" → h'.get? b = some o) : IsTrip h' v x y z := by
  obtain ⟨a, o, t1, t2, t3, n, e, ho, hc, hd⟩ := p
  exact ⟨a, o, t1, t2, t3, n, e, k _ _ ho hc, hc, hd⟩
theorem trip_tot {vs : List Value} (hp : ∀ v ∈ vs, ∃ x y z, IsTrip s.heap v x y z) : Srt.Tot prog w A s (tuples' true) (fun p => p.1 ∈ vs) := by
  intro p q hm hm'
  obtain ⟨x, y, z, a, o, t1, t2, t3, n, e, ho, hc, hd⟩ := hp _ hm
  obtain ⟨x', y', z', a', o', t1', t2', t3', n', e', ho', hc', hd'⟩ := hp _ hm'
  rw [e, e']
  have fin : ∀ (b : Bool) (Q : Bool → Prop), (∀ b, Q b → Q b) → True := fun _ _ _ => trivial
  by_cases ex : x = x'
  · by_cases ey : y = y'
    · by_cases ez : z = z'
      · refine ⟨false, PySem.W.kat_lt ho hd ho' hd' ?_⟩
        show PySem.W.KatLex prog w A true (decide (3 < 3)) _ [(.int x t1, .int x' t1'), (.str y t2, .str y' t2'), (.int z t3, .int z' t3')] 0 s
        refine PySem.W.kat_cons (SeqAt.EqAt.int_int x t1 x' t1' prog w _ _ ?_)
        rw [beq_iff_eq.mpr ex]
        refine PySem.W.kat_yes (PySem.W.kat_cons (SeqAt.EqAt.str_str y t2 y' t2' prog w _ _ ?_))
        rw [beq_iff_eq.mpr ey]
        refine PySem.W.kat_yes (PySem.W.kat_cons (SeqAt.EqAt.int_int z t3 z' t3' prog w _ _ ?_))
        rw [beq_iff_eq.mpr ez]
        exact PySem.W.kat_yes (PySem.W.kat_nil ⟨rfl, rfl⟩)
      · refine ⟨decide (z < z'), PySem.W.kat_lt ho hd ho' hd' ?_⟩
        show PySem.W.KatLex prog w A true (decide (3 < 3)) _ [(.int x t1, .int x' t1'), (.str y t2, .str y' t2'), (.int z t3, .int z' t3')] 0 s
        refine PySem.W.kat_cons (SeqAt.EqAt.int_int x t1 x' t1' prog w _ _ ?_)
        rw [beq_iff_eq.mpr ex]
        refine PySem.W.kat_yes (PySem.W.kat_cons (SeqAt.EqAt.str_str y t2 y' t2' prog w _ _ ?_))
        rw [beq_iff_eq.mpr ey]
        refine PySem.W.kat_yes (PySem.W.kat_cons (SeqAt.EqAt.int_int z t3 z' t3' prog w _ _ ?_))
        rw [beq_eq_false_iff_ne.mpr ez]
        exact PySem.W.kat_no (PySem.W.kat_one _ _ (PyProof.Rows.lt_int ⟨rfl, rfl⟩))
    · refine ⟨decide (y.cps.toList < y'.cps.toList), PySem.W.kat_lt ho hd ho' hd' ?_⟩
      show PySem.W.KatLex prog w A true (decide (3 < 3)) _ [(.int x t1, .int x' t1'), (.str y t2, .str y' t2'), (.int z t3, .int z' t3')] 0 s
      refine PySem.W.kat_cons (SeqAt.EqAt.int_int x t1 x' t1' prog w _ _ ?_)
      rw [beq_iff_eq.mpr ex]
      refine PySem.W.kat_yes (PySem.W.kat_cons (SeqAt.EqAt.str_str y t2 y' t2' prog w _ _ ?_))
      rw [beq_eq_false_iff_ne.mpr ey]
      exact PySem.W.kat_no (PySem.W.kat_one _ _ (PyProof.Rows.lt_str ⟨rfl, rfl⟩))
  · refine ⟨decide (x < x'), PySem.W.kat_lt ho hd ho' hd' ?_⟩
    show PySem.W.KatLex prog w A true (decide (3 < 3)) _ [(.int x t1, .int x' t1'), (.str y t2, .str y' t2'), (.int z t3, .int z' t3')] 0 s
    refine PySem.W.kat_cons (SeqAt.EqAt.int_int x t1 x' t1' prog w _ _ ?_)
    rw [beq_eq_false_iff_ne.mpr ex]
    exact PySem.W.kat_no (oneLt_int ⟨rfl, rfl⟩)
theorem tfirsts {h : Heap} : ∀ {vs : List Value}, (∀ v ∈ vs, ∃ x y z, IsTrip h v x y z) → ∃ fs : List Value, PySem.W.KatTups h vs fs ∧ fs.length = vs.length ∧ ∀ f ∈ fs, ∃ x t, f = Value.int x t
  | [], _ => ⟨[], PySem.W.KatTups.nil, rfl, fun _ hm => by simp at hm⟩
  | v :: vs, hp => by
    obtain ⟨fs, h1, h2, h3⟩ := tfirsts (vs := vs) fun v' hm => hp v' (List.mem_cons_of_mem _ hm)
    obtain ⟨x, y, z, a, o, t1, t2, t3, n, e, ho, hc, hd⟩ := hp v (List.mem_cons_self ..)
    subst e
    refine ⟨.int x t1 :: fs, PySem.W.KatTups.cons ho hc hd rfl h1, by rw [List.length_cons, List.length_cons, h2], fun f hm => ?_⟩
    rcases List.mem_cons.mp hm with rfl | hm
    · exact ⟨x, t1, rfl⟩
    · exact h3 f hm
theorem trips_sortable {a : Addr} {vs : List Value} (h0 : 0 < vs.length) (hp : ∀ v ∈ vs, ∃ x y z, IsTrip s.heap v x y z) (ha : ∀ o, s.heap.get? a = some o → o.cls ≠ .type "tuple") : Srt.Sortable prog w A s a vs := by
  intro h' keep
  have hp' : ∀ v ∈ vs, ∃ x y z, IsTrip h' v x y z := fun v hm => by
    obtain ⟨x, y, z, p⟩ := hp v hm
    exact ⟨x, y, z, p.keeps fun b o e c => keep b o (fun q => by subst q; exact ha o e c) e⟩
  obtain ⟨fs, h1, h2, h3⟩ := tfirsts hp'
  refine ⟨tuples' true, fun Q E hq => ?_, trip_tot hp'⟩
  refine PySem.W.kat_kind (T := .type "int") h1 (by omega) (fun f hm => ?_) (by rfl) ?_
  · obtain ⟨x, t, rfl⟩ := h3 f hm
    exact PySem.W.Looks.now
  · have e : (Value.type "int" != Value.type "tuple") = true := by first | decide +kernel | rfl | decide
    rw [e]
    exact hq
end
end SY
namespace L2
open PySem PySem.Spec PyProof.Rows
section
variable {X : Cx}
def tripK (k : List Key) : Prop := ∃ x y z, k = [.inl x, .inr y, .inl z]
/-- sorted(d), the keys tuples of int, text, int -/
theorem call_sortedT (hc : X.calm = true) : CallR X (.builtin "sorted") (fun xs H Q => ∃ d kvs, xs = [V.ref d] ∧ Rd H d (.dT kvs) ∧ (∀ q ∈ kvs, tripK q.1) ∧ ∀ (p : Addr) (bs bs' : List Addr), H p = none → IsKeys H kvs bs → bs'.Perm bs → Q (.ref p) (upd H p (.lst (bs'.map V.ref)))) := by
  intro pins s σ H xs us Q I r h
  obtain ⟨d, kvs, rfl, hd, ht, q⟩ := h
  obtain ⟨u, rfl, rx⟩ := r.one
  cases rx
  obtain ⟨z, hs, ks, pr, o, es, ep, ho, hx, hdt, he, hn⟩ := (show ObjOk X.prog X.w H s.heap d (.dT kvs) from hd.ok I.hok)
  have l1 : es.size = ks.length := size_of_entries he
  have l2 : kvs.length = ks.length := Paired.length pr
  refine Calls.call_function_entry PyProof.Rows.kind_sorted PyProof.Rows.plain_sorted PyProof.Rows.entry_sorted (PyProof.Rows.args_sorted1 _) ?_
  unfold Builtin.«sorted»
  refine wpAny_bind (m := checkCount "sorted" 1 1 _) (wpAny_pure ?_)
  refine wpAny_bind (PySem.W.kdu_collect (A := X.A.in1) (kdl_raw hs hx hdt) (I.ok.hd hc) ho (by omega) fun h' tk acc hk it => ?_)
  have ea : acc.toList = ks.map fun x => Value.ref x.2.1 := by
    have hl : acc.toList.length = ks.length := by rw [Array.length_toList, it.1]; exact l1
    apply List.ext_getElem?
    intro j
    rw [List.getElem?_map]
    cases hj : acc.toList[j]? with
    | none =>
      have h1 := List.getElem?_eq_none_iff.mp hj
      rw [List.getElem?_eq_none (by omega)]
      all_goals rfl
    | some v =>
      obtain ⟨en, hen, hv⟩ := it.2 j v (by rw [← Array.getElem?_toList]; exact hj)
      have qe := entry_at he j
      rw [hen] at qe
      cases hb : ks[j]? with
      | none =>
        rw [hb] at qe
        exact nomatch (show some en = none from qe)
      | some b =>
        rw [hb] at qe
        have e2 : en = entryOfKey (tupleKind (mixKind X.prog X.w)) b := Option.some.inj qe
        rw [hv, e2]
        all_goals rfl
  have eb : acc.toList = (ks.map fun x => x.2.1).map Value.ref := by rw [ea, List.map_map]; all_goals rfl
  have hal : acc.toList.length = ks.length := by rw [eb, List.length_map, List.length_map]
  have I1 : Inv X pins σ H { s with heap := h', toks := tk } := I.kept hk
  have htrip : ∀ v ∈ acc.toList, ∃ x y z, SY.IsTrip h' v x y z := fun v hv => by
    rw [ea] at hv
    obtain ⟨b, hb, rfl⟩ := List.mem_map.mp hv
    obtain ⟨j, hj⟩ := List.getElem?_of_mem hb
    have hjk : j < kvs.length := by rw [l2]; exact (List.getElem?_eq_some_iff.mp hj).1
    have hk2 : kvs[j]? = some kvs[j] := List.getElem?_eq_getElem hjk
    have pq : kvs[j].1 = b.1 ∧ H b.2.1 = some (.tup (kvs[j].1.map kV)) := by
      have : ∀ {l : List (List Key × V)} {m : List (List Key × Addr × Value)} {j : Nat} {p q}, KT H l m → l[j]? = some p → m[j]? = some q → p.1 = q.1 ∧ H q.2.1 = some (.tup (p.1.map kV)) := by
        intro l m j p q r
        induction r generalizing j with
        | nil => intro e; cases e
        | cons h t ih =>
          intro e1 e2
          cases j with
          | zero => cases e1; cases e2; exact ⟨h.1, h.2.1⟩
          | succ j => exact ih e1 e2
      exact this pr hk2 hj
    obtain ⟨x, y, z, ek⟩ := ht _ (List.getElem_mem hjk)
    have hb2 := pq.2
    rw [ek] at hb2
    obtain ⟨_, its, r2, o2, ho2, hc2, n2, hd2⟩ := (show ObjOk X.prog X.w H h' b.2.1 (.tup [.int x, .str y, .int z]) from I1.hok _ _ hb2)
    match its, r2 with
    | [u1, u2, u3], .cons r1 (.cons r2 (.cons r3 .nil)) =>
      obtain ⟨t1, rfl⟩ := r1
      obtain ⟨t2, rfl⟩ := r2
      obtain ⟨t3, rfl⟩ := r3
      exact ⟨x, y, z, b.2.1, o2, t1, t2, t3, n2, rfl, ho2, hc2, hd2⟩
  refine wpAny_bind (wpAny_newList ?_ (by rw [hal]; omega))
  have hoL : (h'.push (seqObj "list" acc.toList.toArray 0)).get? h'.objs.size = some (seqObj "list" acc.toList.toArray 0) := Heap.get?_push_size _ rfl
  show wpAny _ _ _ _ _ { s with heap := h'.push (seqObj "list" acc.toList.toArray 0), toks := tk }
  refine wpAny_bind (wpAny_holding (wpAny_call_entry PyProof.Rows.slot_list_sort ⟨_, hoL, rfl⟩ PyProof.Rows.entry_list_sort (Srt.list_sort_any hoL (by rw [hal]; omega) (fun h2 => ?_) fun out hp => ⟨_, rfl, ?_⟩) (PyProof.Rows.args_list_sort _)))
  · refine SY.trips_sortable (by omega) (fun v hv => ?_) fun o e => ?_
    · obtain ⟨x, y, z, p⟩ := htrip v hv
      exact ⟨x, y, z, p.keeps fun b o e _ => Heap.get?_push_of_some _ e⟩
    · have e' : some o = some (seqObj "list" acc.toList.toArray 0) := e.symm.trans hoL
      cases e'
      intro c
      exact absurd (Value.type.inj c) (by decide)
  · let unr : Value → Addr := fun v => match v with | .ref a => a | _ => 0
    have hout : out = (out.map unr).map Value.ref := by
      have all : ∀ v ∈ out, Value.ref (unr v) = v := fun v hv => by
        have := hp.mem_iff.mp hv
        rw [eb] at this
        obtain ⟨a, _, rfl⟩ := List.mem_map.mp this
        rfl
      have id2 : ∀ l : List Value, (∀ v ∈ l, Value.ref (unr v) = v) → l = (l.map unr).map Value.ref := fun l => by
        induction l with
        | nil => intro _; rfl
        | cons v l ih =>
          intro h
          rw [List.map_cons, List.map_cons, h v List.mem_cons_self, ← ih fun u hu => h u (List.mem_cons_of_mem _ hu)]
      exact id2 _ all
    have hperm : (out.map unr).Perm (ks.map fun x => x.2.1) := by
      have h1 := hp.map unr
      rw [eb, List.map_map] at h1
      have e2 : (ks.map fun x => x.2.1).map (unr ∘ Value.ref) = ks.map fun x => x.2.1 := by
        exact List.map_id _
      rwa [e2] at h1
    refine wpAny_pure ⟨_, rfl, .ref h'.objs.size, upd H h'.objs.size (.lst ((out.map unr).map V.ref)), I1.laid (t' := tk) (fun b u e => ?_) (Nat.le_refl _) ?_, rfl, q _ _ _ (I1.hok.fresh (Nat.le_refl _)) (isKeys_of pr) hperm⟩
    · have hlt : b < h'.objs.size := Heap.lt_size e
      show (sortedHeap (h'.push (seqObj "list" acc.toList.toArray 0)) h'.objs.size acc.toList out.toArray).get? b = some u
      rw [sortedHeap_old (Nat.ne_of_lt hlt) (by rw [size_push']; exact Nat.lt_succ_of_lt hlt)]
      exact Heap.get?_push_of_some _ e
    · obtain ⟨ep2, e2⟩ := sortedHeap_at (out := out.toArray) hoL
      refine ⟨by rw [List.length_map, List.length_map, hp.length_eq, hal]; omega, out, ep2, ?_, e2⟩
      have := vals_refs (out.map unr)
      rwa [← hout] at this
end
end L2
set_option Elab.async false
set_option linter.all false
set_option maxRecDepth 100000
set_option maxHeartbeats 4000000
/-! SY17: statements at a point: the shared part F and the heap H are named, so that objects that nobody shares may be spoken of. All slots are free or shared data. -/
namespace SY
open PySem PySem.Spec L2
def pureA : AV → Bool
  | .un => true
  | .sh _ => true
  | _ => false
def pureE (env : AE) : Bool := env.all pureA
theorem pureE_get {env : AE} (h : pureE env = true) {i : Nat} {v : AV} (e : env[i]? = some v) : v = .un ∨ ∃ d, v = .sh d := by
  have := List.all_eq_true.mp h v (List.mem_of_getElem? e)
  cases v with
  | un => exact .inl rfl
  | sh d => exact .inr ⟨d, rfl⟩
  | ow l => cases this
  | od o l => cases this
  | oi o C l => cases this
theorem pureE_noOwn {env : AE} (h : pureE env = true) {i : Nat} : ¬ OwnAt env i := fun o => by
  rcases o with ⟨l, o⟩ | ⟨l, o⟩ | ⟨l, o⟩
  all_goals rcases pureE_get h o with z | ⟨d, z⟩ <;> cases z
section
variable {K : PySem.W.Frag} {B B2 : Bs} {F H F' H' : Hp} {σ : St} {env : AE}
theorem Rep.re (rp : Rep K B F H σ env) (hp : pureE env = true) (le : Le B2.W B2.F0 B2.H0 F H) : Rep K B2 F H σ env :=
  ⟨le, rp.len, fun i v e => by
    have := rp.sl i v e
    rcases pureE_get hp e with z | ⟨d, z⟩ <;> subst z
    · trivial
    · exact this, fun i j p oi _ _ _ => absurd oi (pureE_noOwn hp)⟩
end
structure ZP where
  nx : AE → Hp → Hp → Prop
  rt : D → Prop
structure ZC (X : Cx) (F0 H0 Fs : Hp) (P : ZP) (E : Ends) : Prop where
  nx : ∀ σ F H env, Le W0 F0 H0 F H → Same Fs F → pureE env = true → Rep X.K ⟨W0, F, H⟩ F H σ env → P.nx env F H → E.nx σ H
  rt : ∀ v F H d, Le W0 F0 H0 F H → R X.K F d v → P.rt d → E.rt v H
def zS1 (X : Cx) (F0 H0 : Hp) (env : AE) (F H : Hp) (st : Stmt) (P : ZP) : Prop :=
  ∀ σ E, Le W0 F0 H0 F H → Rep X.K ⟨W0, F, H⟩ F H σ env → ZC X F0 H0 F P E → wS X st E σ H
def zS (X : Cx) (F0 H0 : Hp) (env : AE) (F H : Hp) (sts : List Stmt) (P : ZP) : Prop :=
  ∀ σ E, Le W0 F0 H0 F H → Rep X.K ⟨W0, F, H⟩ F H σ env → ZC X F0 H0 F P E → wSs X sts E σ H
section
variable {X : Cx} {B : Bs} {env : AE} {F0 H0 F H : Hp} {pos p tpos : Pos} {tg e a b : Expr} {Wx : WX} {P : ZP} {n : Nat}
theorem ZC.mono {F F' : Hp} {E : Ends} (s : Same F F') (c : ZC X F0 H0 F P E) : ZC X F0 H0 F' P E :=
  ⟨fun σ F2 H2 env l s2 hp rp q => c.nx σ F2 H2 env l (s.trans s2) hp rp q, c.rt⟩
theorem z_enter {P' : Post} {Q : D → Prop} {sts : List Stmt} (hB : B.W = W0) (hp : pureE env = true) (h : ∀ F H, zS X F H env F H sts { nx := fun env' _ _ => P'.nx env', rt := Q }) (hrt : ∀ env' d, Q d → P'.rt env' d) : qS X B Wx env sts P' := fun σ F H E rp c => by
  have ok := rp.ok
  rw [hB] at ok
  refine h F H σ E (Le.refl ok) (rp.re hp (Le.refl ok)) ⟨fun σ2 F2 H2 env2 l s2 hp2 rp2 q => ?_, fun v F2 H2 d l rd q => ?_⟩
  · refine c.nx σ2 F2 H2 env2 (rp2.re hp2 (rp.le.trans ?_)) s2 q
    rw [hB]; exact l
  · refine c.rt v σ F2 H2 env d ((rp.re hp ?_ : Rep X.K ⟨B.W, F, H⟩ F H σ env).step ?_ |>.re hp (rp.le.trans ?_)) rd (hrt env d q)
    · exact Le.refl rp.ok
    · show Le B.W F H F2 H2; rw [hB]; exact l
    · rw [hB]; exact l
theorem z_nil (q : P.nx env F H) (hp : pureE env = true := by rfl) : zS X F0 H0 env F H [] P := fun σ E l rp c => ⟨_, pss_nil, c.nx σ F H env l (Same.refl _) hp rp q⟩
theorem z_cons {st : Stmt} {rest : List Stmt} (h : zS1 X F0 H0 env F H st { P with nx := fun env' F' H' => zS X F0 H0 env' F' H' rest P }) : zS X F0 H0 env F H (st :: rest) P := fun σ E l rp c =>
  ⟨_, pss_cons ps_w pss_w, h σ _ l rp ⟨fun σ2 F2 H2 env2 l2 s2 hp2 rp2 q => q σ2 E l2 rp2 (c.mono s2), c.rt⟩⟩
theorem z_ret (h : qE X ⟨W0, F, H⟩ env e P.rt) : zS1 X F0 H0 env F H (.Return (some e) pos) P := fun σ E l rp c =>
  ⟨_, ps_ret pe_w, h σ F H rp _ fun v F1 H1 d l1 rd q => c.rt v F1 H1 d (l.trans l1) rd q⟩
theorem z_if {c : Expr} {s t : List Stmt} (h : qT X ⟨W0, F, H⟩ env c fun k => ∀ F' H', Le W0 F H F' H' → (k = true → zS X F0 H0 env F' H' s P) ∧ (k = false → zS X F0 H0 env F' H' t P)) (hp : pureE env = true := by rfl) : zS1 X F0 H0 env F H (.If c s t pos) P := fun σ E l rp ct =>
  ⟨_, ps_if pt_w pss_w pss_w, h σ F H rp _ fun k F1 H1 l1 q => by
    have rp1 := ((rp.step l1).re hp (B2 := ⟨W0, F1, H1⟩) (Le.refl l1.ok))
    cases k with
    | true => exact iteT ((q F1 H1 l1).1 rfl σ E (l.trans l1) rp1 (ct.mono l1.ff))
    | false => exact iteF ((q F1 H1 l1).2 rfl σ E (l.trans l1) rp1 (ct.mono l1.ff))⟩
end
end SY
namespace SY
open PySem PySem.Spec L2
theorem pureE_set {env : AE} (h : pureE env = true) {i : Nat} {v : AV} (hv : pureA v = true) : pureE (env.set i v) = true := by
  refine List.all_eq_true.mpr fun x hx => ?_
  rcases List.mem_or_eq_of_mem_set hx with z | z
  · exact List.all_eq_true.mp h x z
  · rw [z]; exact hv
section
variable {X : Cx} {B : Bs} {env : AE} {F0 H0 F H : Hp} {pos p tpos : Pos} {tg e a b o : Expr} {Wx : WX} {P : ZP} {n : Nat} {Q : D → Prop}
theorem Le.putW0 {F0 H0 F H : Hp} {p : Addr} {o : HO} (l : Le W0 F0 H0 F H) (hp : H0 p = none) (hF : F p = none) : Le W0 F0 H0 F (upd H p o) := by
  refine ⟨WOk.w0 fun b u e => ?_, l.ff, fun a u m e => ?_, fun a f h => l.un a f h⟩
  · rw [upd_ne (ne_of_none e hF)]; exact l.ok.fh b u e
  · rw [upd_ne (ne_of_none e hp)]; exact l.hh a u m e
theorem ZC.at {F1 H1 : Hp} {σ : St} {env' : AE} {E : Ends} (c : ZC X F0 H0 F P E) (l : Le W0 F0 H0 F1 H1) (s : Same F F1) (hp : pureE env' = true) (rp : Rep X.K B F1 H1 σ env') (q : P.nx env' F1 H1) : E.nx σ H1 :=
  c.nx σ F1 H1 env' l s hp (rp.re hp (Le.refl l.ok)) q
theorem z_set (i : Nat) {x : Str} {pos' : Pos} (ev : Ev X n) (h : qE X ⟨W0, F, H⟩ env e fun d => ∀ F' H', Le W0 F H F' H' → P.nx (env.set i (.sh d)) F' H') (hp : pureE env = true := by rfl) (hi : X.N[i]? = some x := by rfl) (hx : Loc X.env.scope x := by first | exact Or.inl rfl | exact Or.inr rfl)
    (hs : swapsWith e (some (.Name x pos')) pos.line X.env = pure false := by rfl) (hf : X.fn x = true ∨ X.env.scope.names.lookup x = some .local := by first | exact .inl rfl | exact .inr rfl) : zS1 X F0 H0 env F H (.Assign [.Name x pos'] e pos) P := fun σ E l rp c =>
  ⟨_, ps_set ev.nd hi hx pe_w hs hf, h σ F H rp _ fun v F1 H1 d l1 rd q => c.at (l.trans l1) l1.ff (pureE_set hp rfl) ((rp.step l1).set rd) (q F1 H1 l1)⟩
/-- x = (a, ..): a new tuple, by its address -/
theorem z_setTup (i : Nat) {x : Str} {pos' : Pos} {es : List Expr} {kk : Nat} (ev : Ev X n) (h : qA X ⟨W0, F, H⟩ env es fun ds => ds.length ≤ 1000 ∧ ∀ F' H' q xs, Le W0 F H F' H' → F' q = some (.tup xs) → RL X.K F' ds xs → P.nx (env.set i (.sh (.ref q))) F' H') (hp : pureE env = true := by rfl) (hi : X.N[i]? = some x := by rfl) (hx : Loc X.env.scope x := by first | exact Or.inl rfl | exact Or.inr rfl)
    (hs : swapsWith (.Tuple es kk tpos) (some (.Name x pos')) pos.line X.env = pure false := by rfl) (hf : X.fn x = true ∨ X.env.scope.names.lookup x = some .local := by first | exact .inl rfl | exact .inr rfl) : zS1 X F0 H0 env F H (.Assign [.Name x pos'] (.Tuple es kk tpos) pos) P := fun σ E l rp c => by
  refine ⟨_, ps_set ev.nd hi hx (pe_tup pa_w) hs hf, ?_⟩
  refine h σ F H rp _ fun vs F1 H1 ds l1 rds q => ⟨by rw [rds.length]; exact small_le (Nat.le_trans q.1 (Nat.le_of_ble_eq_true rfl)), fun p hp2 => ?_⟩
  have k1 := (rp.step l1).ok
  have l2 := Le.new (o := .tup vs) k1 hp2
  have rp2 := (rp.step (l1.trans l2))
  exact c.at (l.trans (l1.trans l2)) (l1.trans l2).ff (pureE_set hp rfl) (rp2.set (by rw [R])) (q.2 _ _ p vs (l1.trans l2) upd_same (RL.mono l2.ff _ _ rds))
/-- x = {}: a dict whose keys are tuples -/
theorem z_newT (i : Nat) {x : Str} {pos' dpos : Pos} (ev : Ev X n) (h : ∀ q, H q = none → F q = none → P.nx (env.set i (.sh (.ref q))) F (upd H q (.dT []))) (hp : pureE env = true := by rfl) (hi : X.N[i]? = some x := by rfl) (hx : Loc X.env.scope x := by first | exact Or.inl rfl | exact Or.inr rfl)
    (hs : swapsWith (.Dict [] [] dpos) (some (.Name x pos')) pos.line X.env = pure false := by rfl) (hf : X.fn x = true ∨ X.env.scope.names.lookup x = some .local := by first | exact .inl rfl | exact .inr rfl) : zS1 X F0 H0 env F H (.Assign [.Name x pos'] (.Dict [] [] dpos) pos) P := fun σ E l rp c =>
  ⟨_, ps_set ev.nd hi hx pe_dnewT hs hf, fun q hq => by
    have l1 := Le.own (o := .dT []) rp.ok hq
    exact c.at (l.trans l1) (Same.refl _) (pureE_set hp rfl) ((rp.step l1).set (by rw [R])) (h q hq (rp.ok.fh.free hq))⟩
/-- b in d, d a dict of one's own whose keys are tuples -/
theorem c_inT {q : Addr} {kvs : List (List Key × V)} (ev : Ev X n) (hB : B.W = W0) (hq : B.H0 q = some (.dT kvs)) (h : qE X B env a fun d => ∃ b k, d = .ref b ∧ B.H0 b = some (.tup (k.map kV)) ∧ qE X B env e fun d2 => d2 = .ref q ∧ Q (.bl (valV kvs k).isSome)) : qC X B env .In a e Q := fun σ F H rp Qv c => by
  have hu : X.A.units + 1 < cLine := by have := ev.room.un; omega
  have noM : ∀ a, ¬ B.W.M a := fun a m => by rw [hB] at m; exact m
  refine ⟨_, pc_din hu pe_w pe_w, ?_⟩
  refine h σ F H rp _ fun v F1 H1 d l1 rd hd => ?_
  obtain ⟨b, k, rfl, hb, h2⟩ := hd
  refine h2 σ F1 H1 (rp.step l1) _ fun v2 F2 H2 d2 l2 rd2 hd2 => ?_
  obtain ⟨rfl, qq⟩ := hd2
  rw [R] at rd rd2
  subst rd rd2
  have l := (rp.le.trans l1).trans l2
  exact ⟨q, _, rfl, DGet.t (l.hh _ _ (noM _) hq) (l.hh _ _ (noM _) hb), c _ F2 H2 _ (l1.trans l2) (mkBl _) qq⟩
/-- d[b] -/
theorem e_dgT {q : Addr} {kvs : List (List Key × V)} (ev : Ev X n) (hB : B.W = W0) (hq : B.H0 q = some (.dT kvs)) (h : qE X B env o fun d2 => d2 = .ref q ∧ qE X B env b fun d => ∃ b k v d', d = .ref b ∧ B.H0 b = some (.tup (k.map kV)) ∧ valV kvs k = some v ∧ R X.K B.F0 d' v ∧ Q d') (hs : NoSl b := by exact fun _ _ => rfl) : qE X B env (.Subscript o b pos) Q := fun σ F H rp Qv c => by
  have hu : X.A.units + 1 < cLine := by have := ev.room.un; omega
  have noM : ∀ a, ¬ B.W.M a := fun a m => by rw [hB] at m; exact m
  refine ⟨_, pe_dget hu pe_w pe_w hs, ?_⟩
  refine h σ F H rp _ fun v F1 H1 d l1 rd hd => ?_
  obtain ⟨rfl, h2⟩ := hd
  refine h2 σ F1 H1 (rp.step l1) _ fun v2 F2 H2 d2 l2 rd2 hd2 => ?_
  obtain ⟨b, k, v', d', rfl, hb, hv, rv, qq⟩ := hd2
  rw [R] at rd rd2
  subst rd rd2
  have l := (rp.le.trans l1).trans l2
  exact ⟨q, v', rfl, by rw [← hv]; exact DGet.t (l.hh _ _ (noM _) hq) (l.hh _ _ (noM _) hb), c _ F2 H2 d' (l1.trans l2) (R.mono l.ff _ _ rv) qq⟩
/-- d[b] = e -/
theorem z_putT {q : Addr} {kvs : List (List Key × V)} (ev : Ev X n) (hq : H q = some (.dT kvs)) (h0 : H0 q = none) (hF : F q = none) (h : qE X ⟨W0, F, H⟩ env e fun d => qE X ⟨W0, F, H⟩ env o fun d1 => d1 = .ref q ∧ qE X ⟨W0, F, H⟩ env b fun d2 => ∃ b k, d2 = .ref b ∧ H b = some (.tup (k.map kV)) ∧ kvs.length < 100000 ∧
      ∀ F' H' v, Le W0 F H F' H' → R X.K F' d v → P.nx env F' (upd H' q (.dT (putK kvs k v)))) (hp : pureE env = true := by rfl) (hs : swapsWith e (some (.Subscript o b tpos)) pos.line X.env = pure false := by rfl) : zS1 X F0 H0 env F H (.Assign [.Subscript o b tpos] e pos) P := fun σ E l rp c => by
  have hu : X.A.units + 1 < cLine := by have := ev.room.un; omega
  refine ⟨_, ps_dput hu pe_w pe_w pe_w hs, ?_⟩
  refine h σ F H rp _ fun v F1 H1 d l1 rd h1 => ?_
  refine h1 σ F1 H1 (rp.step l1) _ fun v2 F2 H2 d2 l2 rd2 h2 => ?_
  obtain ⟨rfl, h2⟩ := h2
  refine h2 σ F2 H2 ((rp.step l1).step l2) _ fun v3 F3 H3 d3 l3 rd3 h3 => ?_
  obtain ⟨b, k, rfl, hb, hl, kk⟩ := h3
  rw [R] at rd2 rd3
  subst rd2 rd3
  have l123 := (l1.trans l2).trans l3
  have lq : H3 q = some (.dT kvs) := l123.hh _ _ (fun z => z) hq
  have fq : F3 q = none := l123.un q hF (by rw [hq]; exact fun z => nomatch z)
  have rd' : R X.K F3 d v := R.mono (l2.trans l3).ff _ _ rd
  refine ⟨q, _, rfl, DPut.t lq (l123.hh _ _ (fun z => z) hb) (small_lt hl), ?_⟩
  have lw := Le.putW0 (o := .dT (putK kvs k v)) (l.trans l123) h0 fq
  · have r3 := (((rp.step l1).step l2).step l3)
    refine c.nx σ F3 _ env lw l123.ff hp ⟨Le.refl lw.ok, r3.len, fun i u ee => ?_, r3.ap⟩ (kk F3 H3 v l123 rd')
    have := r3.sl i u ee
    rcases pureE_get hp ee with z | ⟨d, z⟩ <;> subst z
    · trivial
    · exact this
/-- slots let go -/
theorem Rep.un {K : PySem.W.Frag} {σ : St} (r : Rep K B F H σ env) (vs : List Nat) : Rep K B F H σ (wipeE env vs) := by
  refine ⟨r.le, by rw [wipeE_len]; exact r.len, fun i v e => ?_, fun i j p oi oj ei ej => ?_⟩
  · rcases wipeE_get e with rfl | ⟨h1, h2⟩
    · trivial
    · exact r.sl i v h2
  · have get : ∀ {i}, OwnAt (wipeE env vs) i → OwnAt env i := fun {i} o => by
      rcases o with ⟨l, o⟩ | ⟨l, o⟩ | ⟨l, o⟩
      · rcases wipeE_get o with h | ⟨h1, h2⟩
        · cases h
        · exact .inl ⟨l, h2⟩
      · rcases wipeE_get o with h | ⟨h1, h2⟩
        · cases h
        · exact .inr (.inl ⟨l, h2⟩)
      · rcases wipeE_get o with h | ⟨h1, h2⟩
        · cases h
        · exact .inr (.inr ⟨l, h2⟩)
    exact r.ap i j p (get oi) (get oj) ei ej
theorem z_un (is : List Nat) {sts : List Stmt} (h : zS X F0 H0 (wipeE env is) F H sts P) : zS X F0 H0 env F H sts P := fun σ E l rp c => h σ E l (rp.un is) c
theorem z_for {iter : Expr} {body : List Stmt} (is : List Nat) (hps : PassesOwn (model X.prog X.w) X.A X.env X.xe) (ev : Ev X n) (h : qI X ⟨W0, F, H⟩ env tg iter fun items => ∀ F1 H1, Le W0 F H F1 H1 → ∃ I : Nat → AE → Hp → Hp → Prop, I 0 env F1 H1 ∧
      (∀ i e F' H' F'' H'', Le W0 F' H' F'' H'' → I i e F' H' → I i e F'' H'') ∧ (∀ env' F' H', I items.length env' F' H' → P.nx env' F' H') ∧
      ∀ i d env' F' H', items[i]? = some d → I i env' F' H' → qG X ⟨W0, F', H'⟩ env' tg is d fun env2 => pureE env2 = true ∧ zS X F0 H0 env2 F' H' body { P with nx := I (i + 1) }) (hp : pureE env = true := by rfl)
    (hs : ∀ x, foldedSetIterable iter X.env x = pure x := by intro _; rfl) : zS1 X F0 H0 env F H (.For tg iter body [] pos) P := fun σ E l rp c => by
  refine ⟨_, ps_for hps ev.calm pi_w pg_w pss_w hs, ?_⟩
  refine h σ F H rp _ fun J F1 H1 items l1 itok q => ?_
  obtain ⟨I, i0, iS, iQ, step⟩ := q F1 H1 l1
  refine ⟨fun i m σ' H' => m = items.length - i ∧ i ≤ items.length ∧ ∃ F' env', Le W0 F0 H0 F' H' ∧ pureE env' = true ∧ Rep X.K ⟨W0, F', H'⟩ F' H' σ' env' ∧ Same F1 F' ∧ I i env' F' H', ⟨items.length, by simp, Nat.zero_le _, F1, env, l.trans l1, hp, (rp.step l1).re hp (Le.refl l1.ok), Same.refl _, i0⟩, ?_⟩
  rintro i m σ2 H2 ⟨rfl, hi, F2, env2, l2, hp2, rp2, s2, i2⟩
  by_cases hlt : i < items.length
  · obtain ⟨d, hd⟩ : ∃ d, items[i]? = some d := ⟨_, List.getElem?_eq_getElem hlt⟩
    obtain ⟨go, yl⟩ := itok.turn i d hd F2 H2 s2 rp2.ok
    refine .inr ⟨go, fun σ' H' => ∃ F' env', Le W0 F0 H0 F' H' ∧ pureE env' = true ∧ Rep X.K ⟨W0, F', H'⟩ F' H' σ' env' ∧ Same F1 F' ∧ I (i + 1) env' F' H', fun σ' H' hq => ⟨items.length - (i + 1), by omega, rfl, hlt, hq⟩, fun x H3 hy => ?_⟩
    obtain ⟨F3, l3, rx⟩ := yl x H3 hy
    have s3 := s2.trans l3.ff
    refine step i d env2 F3 H3 hd (iS _ _ _ _ _ _ l3 i2) σ2 F3 H3 x ((rp2.step l3).re hp2 (Le.refl l3.ok)) rx _ fun σ4 env4 rp4 _ q => q.2 σ4 _ (l2.trans l3) rp4 ?_
    exact ⟨fun σ F H env l s hpe rp q => ⟨F, env, l, hpe, rp, s3.trans s, q⟩, c.rt⟩
  · have e : i = items.length := by omega
    subst e
    exact .inl ⟨itok.stop F2 H2 s2 rp2.ok, c.nx σ2 F2 H2 env2 l2 (l1.ff.trans s2) hp2 rp2 (iQ env2 F2 H2 i2)⟩
/-! ### comprehensions -/
def qIz (X : Cx) (B : Bs) (env : AE) (tg e : Expr) (Q : List D → Hp → Hp → Prop) : Prop :=
  ∀ σ F H, Rep X.K B F H σ env → ∀ Qi : It → Hp → Prop, (∀ J F' H' items, Le B.W F H F' H' → ItOk X.K B.W J F' items → Q items F' H' → Qi J H') → wI X tg e σ H Qi
theorem o_lcz {elt tg iter : Expr} {ifs : List Expr} {scope : Scope} {own : List (Str × Nat)} {pos : Pos} {Q : List D → Prop} (is : List Nat) (hc : X.calm = true) (hN : X.N.Nodup) (ok : blkC X.N X.env.scope scope own = true) (his : ∀ i ∈ is, i ∈ own.map (·.2)) (hp : pureE env = true)
    (h : qIz X B env tg iter fun items F1 H1 => items.length ≤ 100000 ∧ ∃ P : Nat → List D → Prop, P 0 [] ∧ (∀ acc, P items.length acc → Q acc) ∧ ∀ i d acc, items[i]? = some d → acc.length ≤ i → P i acc →
      ∀ (s : Shared) (H : Hp) (C : Addr) (cl : List (Str × Addr)) (fp : List Addr), qG (X.blk s H scope (compEnvC scope cl C X.env) fp) ⟨B.W, F1, H1⟩ (wipeE env (own.map (·.2))) tg is d fun env2 => pureE env2 = true ∧
        ∀ (s : Shared) (H : Hp) (C : Addr) (cl : List (Str × Addr)) (fp : List Addr), qTs (X.blk s H scope (compEnvC scope cl C X.env) fp) ⟨B.W, F1, H1⟩ env2 ifs fun b => if b = true then
          ∀ (s : Shared) (H : Hp) (C : Addr) (cl : List (Str × Addr)) (fp : List Addr), qE (X.blk s H scope (compEnvC scope cl C X.env) fp) ⟨B.W, F1, H1⟩ env2 elt fun y => P (i + 1) (acc ++ [y])
        else P (i + 1) acc) (hs : ∀ x, foldedSetIterable iter X.env x = pure x := by intro _; rfl) : qO X B env (.ListComp elt [⟨tg, iter, ifs, 0⟩] scope pos) Q := fun σ F H rp Qv k => by
  refine ⟨_, pe_lc hc hN pi_w (blkOk_by ok) bG_ok bTs_ok bE_ok hs, ?_⟩
  generalize own.map (·.2) = vs at *
  refine h σ F H rp _ fun J F1 H1 items l1 itok q D hD => ?_
  obtain ⟨hlen, P, p0, pQ, step⟩ := q
  have k0 := rp.ok
  have k1 := l1.ok
  have hD0 : H D = none := l1.free hD
  have nM : ¬ B.W.M D := fun m => (k0.mf D m).2 hD0
  have rp1 : Rep X.K ⟨B.W, F1, H1⟩ F1 H1 σ env := (rp.step l1).re hp (Le.refl k1)
  refine ⟨fun i m H' => m = items.length - i ∧ i ≤ items.length ∧ ∃ F' acc xs, Le B.W F1 H1 F' H' ∧ F' D = none ∧ H' D = some (.lst xs) ∧ RL X.K F' acc xs ∧ acc.length ≤ i ∧ P i acc, ⟨items.length, by simp, Nat.zero_le _, F1, [], [], Le.own k1 hD, k1.fh.free hD, upd_same, RL.nil, Nat.le_refl _, p0⟩, ?_⟩
  rintro i m H2 ⟨rfl, hi, F2, acc, xs, l2, f2, h2, r2, hac, p2⟩
  by_cases hlt : i < items.length
  · obtain ⟨d, hd⟩ : ∃ d, items[i]? = some d := ⟨_, List.getElem?_eq_getElem hlt⟩
    obtain ⟨go, yl⟩ := itok.turn i d hd F2 H2 l2.ff l2.ok
    refine .inr ⟨go, fun H' => ∃ F' acc xs, Le B.W F1 H1 F' H' ∧ F' D = none ∧ H' D = some (.lst xs) ∧ RL X.K F' acc xs ∧ acc.length ≤ i + 1 ∧ P (i + 1) acc, fun H' hq => ⟨items.length - (i + 1), by omega, rfl, hlt, hq⟩, fun x H3 hy => ?_⟩
    obtain ⟨F3, l3, rx⟩ := yl x H3 hy
    have d3 : H3 D = some (.lst xs) := l3.hh D _ nM h2
    have f3 : F3 D = none := l3.un D f2 (by rw [h2]; exact fun z => nomatch z)
    intro s H0 C cl fp
    refine step i d acc hd hac p2 s H0 C cl fp (L2.wipe σ vs) F3 H3 x ((rp1.step (l2.trans l3)).wipe _) rx _ ?_
    intro σ' env' rep' hw hq
    refine ⟨?_, ?_⟩
    · rw [hw _ his]
      exact wipe_wipe
    · intro s H0 C cl fp
      refine hq.2 s H0 C cl fp σ' F3 H3 rep' _ fun b F4 H4 l4 hq => ?_
      have d4 : H4 D = some (.lst xs) := l4.hh D _ nM d3
      have f4 : F4 D = none := l4.un D f3 (by rw [d3]; exact fun z => nomatch z)
      cases b with
      | false => exact iteF ⟨F4, acc, xs, l2.trans (l3.trans l4), f4, d4, RL.mono (l3.ff.trans l4.ff) _ _ r2, by omega, hq⟩
      | true =>
        refine iteT ?_
        intro s H0 C cl fp
        refine hq s H0 C cl fp σ' F4 H4 (rep'.step l4) _ fun v F5 H5 dv l5 rv hq => ?_
        have d5 : H5 D = some (.lst xs) := l5.hh D _ nM d4
        have f5 : F5 D = none := l5.un D f4 (by rw [d4]; exact fun z => nomatch z)
        have r5 := RL.mono ((l3.ff.trans l4.ff).trans l5.ff) _ _ r2
        refine ⟨xs, d5, by rw [r5.length]; exact small_lt (by omega), F5, acc ++ [dv], xs ++ [v], Le.put k1 (l2.trans ((l3.trans l4).trans l5)) hD f5, f5, upd_same, r5.append (RL.cons rv RL.nil), by rw [List.length_append]; show acc.length + 1 ≤ i + 1; omega, hq⟩
  · have e : i = items.length := by omega
    subst e
    exact .inl ⟨itok.stop F2 H2 l2.ff l2.ok, k D xs F2 H2 acc (l1.trans l2) hD0 f2 h2 r2 (pQ acc p2)⟩
theorem i_sortT {q : Addr} {kvs : List (List Key × V)} {Q : List D → Hp → Hp → Prop} (ev : Ev X n) (hB : B.W = W0) (hq : B.H0 q = some (.dT kvs)) (hk : ∀ x ∈ kvs, tripK x.1) (h : qE X B env e fun d => d = .ref q ∧ ∀ (F1 H1 : Hp) (bs bs' : List Addr), Le B.W B.F0 B.H0 F1 H1 → IsKeys H1 kvs bs → bs'.Perm bs → Q (bs'.map D.ref) F1 H1) (hg : Gl X "sorted" := by rfl)
    (ha : starEach [e] X.env = (false, eval e X.env) :: starEach [] X.env := by rfl) (hpl : (backTo pos (starEach [] X.env)).any (·.1) = false := by rfl) : qIz X B env tg (.Call (.Name "sorted" p) [e] [] pos) Q := fun σ F H rp Qi k => by
  have noM : ∀ a, ¬ B.W.M a := fun a m => by rw [hB] at m; exact m
  refine ⟨_, pi_any (pe_callB (call_sortedT ev.calm) hg ev.free.sorted (by decide +kernel) (pa_cons pe_w pa_nil ha) (by decide) (by decide) ha hpl), ?_⟩
  refine h σ F H rp _ fun v F1 H1 d l1 rd hd => ?_
  obtain ⟨rfl, qq⟩ := hd
  rw [R] at rd
  subst rd
  refine ⟨q, kvs, rfl, .inl ((rp.le.trans l1).hh _ _ (noM _) hq), hk, fun c bs bs' hc hbs hpm => ?_⟩
  have k1 := (rp.step l1).ok
  have l2 := Le.new (o := .lst (bs'.map V.ref)) k1 hc
  have rd : R X.K (upd F1 c (.lst (bs'.map V.ref))) (.lst (bs'.map D.ref)) (.ref c) := by
    rw [R]
    refine ⟨c, _, rfl, upd_same, ?_⟩
    have : ∀ l : List Addr, RL X.K (upd F1 c (.lst (bs'.map V.ref))) (l.map D.ref) (l.map V.ref) := fun l => by
      induction l with
      | nil => exact RL.nil
      | cons a l ih => exact RL.cons (by rw [R]) ih
    exact this bs'
  obtain ⟨sk, vs, h1, h2⟩ := seqD_src rd (l := bs'.map D.ref) rfl
  refine ⟨sk, vs, srcAt_mono l2.ok.fh h1, k _ _ _ _ (l1.trans l2) (itOk_of h1 h2) (qq _ _ bs bs' ((rp.le.trans l1).trans l2) ?_ hpm)⟩
  exact Paired.mapP hbs fun _ _ z => by
    have : H1 _ = some _ := z
    rw [upd_ne (ne_of_none this hc)]; exact z
end
end SY
set_option Elab.async false
set_option linter.all false
set_option maxRecDepth 100000
set_option maxHeartbeats 4000000
/-! SY18: at a point: dicts and lists of one's own, by their addresses; new lists in a list. -/
namespace SY
open PySem PySem.Spec L2
section
variable {X : Cx} {B : Bs} {env : AE} {F0 H0 F H : Hp} {pos p tpos : Pos} {tg e a b o : Expr} {Wx : WX} {P : ZP} {n : Nat} {Q : D → Prop}
/-- x = {}: a dict whose keys are ints and texts -/
theorem z_newK (i : Nat) {x : Str} {pos' dpos : Pos} (ev : Ev X n) (h : ∀ q, H q = none → F q = none → P.nx (env.set i (.sh (.ref q))) F (upd H q (.dK []))) (hp : pureE env = true := by rfl) (hi : X.N[i]? = some x := by rfl) (hx : Loc X.env.scope x := by first | exact Or.inl rfl | exact Or.inr rfl)
    (hs : swapsWith (.Dict [] [] dpos) (some (.Name x pos')) pos.line X.env = pure false := by rfl) (hf : X.fn x = true ∨ X.env.scope.names.lookup x = some .local := by first | exact .inl rfl | exact .inr rfl) : zS1 X F0 H0 env F H (.Assign [.Name x pos'] (.Dict [] [] dpos) pos) P := fun σ E l rp c =>
  ⟨_, ps_set ev.nd hi hx pe_dnewK hs hf, fun q hq => by
    have l1 := Le.own (o := .dK []) rp.ok hq
    exact c.at (l.trans l1) (Same.refl _) (pureE_set hp rfl) ((rp.step l1).set (by rw [R])) (h q hq (rp.ok.fh.free hq))⟩
/-- d[k] = e -/
theorem z_putK {q : Addr} {kvs : List (Key × V)} (ev : Ev X n) (hq : H q = some (.dK kvs)) (h0 : H0 q = none) (hF : F q = none) (h : qE X ⟨W0, F, H⟩ env e fun d => qE X ⟨W0, F, H⟩ env o fun d1 => d1 = .ref q ∧ qE X ⟨W0, F, H⟩ env b fun d2 => ∃ k, keyD d2 = some k ∧ kvs.length < 100000 ∧
      ∀ F' H' v, Le W0 F H F' H' → R X.K F' d v → P.nx env F' (upd H' q (.dK (putK kvs k v)))) (hp : pureE env = true := by rfl) (hs : swapsWith e (some (.Subscript o b tpos)) pos.line X.env = pure false := by rfl) : zS1 X F0 H0 env F H (.Assign [.Subscript o b tpos] e pos) P := fun σ E l rp c => by
  have hu : X.A.units + 1 < cLine := by have := ev.room.un; omega
  refine ⟨_, ps_dput hu pe_w pe_w pe_w hs, ?_⟩
  refine h σ F H rp _ fun v F1 H1 d l1 rd h1 => ?_
  refine h1 σ F1 H1 (rp.step l1) _ fun v2 F2 H2 d2 l2 rd2 h2 => ?_
  obtain ⟨rfl, h2⟩ := h2
  refine h2 σ F2 H2 ((rp.step l1).step l2) _ fun v3 F3 H3 d3 l3 rd3 h3 => ?_
  obtain ⟨k, hk, hl, kk⟩ := h3
  rw [R] at rd2
  subst rd2
  have ek : v3 = kV k := by
    cases d3 with
    | str x => cases hk; rw [rStr rd3] <;> rfl
    | int x => cases hk; rw [rInt rd3] <;> rfl
    | _ => cases hk
  subst ek
  have l123 := (l1.trans l2).trans l3
  have lq : H3 q = some (.dK kvs) := l123.hh _ _ (fun z => z) hq
  have fq : F3 q = none := l123.un q hF (by rw [hq]; exact fun z => nomatch z)
  have rd' : R X.K F3 d v := R.mono (l2.trans l3).ff _ _ rd
  refine ⟨q, _, rfl, DPut.k lq (small_lt hl), ?_⟩
  have lw := Le.putW0 (o := .dK (putK kvs k v)) (l.trans l123) h0 fq
  have r3 := (((rp.step l1).step l2).step l3)
  refine c.nx σ F3 _ env lw l123.ff hp ⟨Le.refl lw.ok, r3.len, fun i u ee => ?_, r3.ap⟩ (kk F3 H3 v l123 rd')
  have := r3.sl i u ee
  rcases pureE_get hp ee with z | ⟨d, z⟩ <;> subst z
  · trivial
  · exact this
/-- return x, x a dict of one's own -/
theorem z_retD (i : Nat) {x : Str} {q : Addr} {kvs : List (Key × V)} {l : List (Key × D)} (he : env[i]? = some (.sh (.ref q))) (hq : H q = some (.dK kvs)) (h0 : H0 q = none) (hF : F q = none) (r : RD X.K F l kvs) (h : P.rt (.dic l)) (hi : X.N[i]? = some x := by rfl)
    (hv : Vis X.env.scope x := by first | exact Or.inl rfl | exact Or.inr (Or.inl rfl) | exact Or.inr (Or.inr rfl)) (hd : (x == ("__debug__" : Str)) = false := by decide) (hcd : (x == ("__classdict__" : Str)) = false := by decide) : zS1 X F0 H0 env F H (.Return (some (.Name x p)) pos) P := fun σ E l0 rp c => by
  refine ⟨_, ps_ret (pe_var hi hv hd hcd), ?_⟩
  obtain ⟨y, g1, g2⟩ := rp.sl i _ he
  rw [R] at g2
  subst g2
  refine ⟨_, g1, ?_⟩
  have s1 : Same F (upd F q (.dK kvs)) := fun b u e => by rw [upd_ne (ne_of_none e hF)]; exact e
  have l2 : Le W0 F0 H0 (upd F q (.dK kvs)) H := by
    refine ⟨WOk.w0 fun b u e => ?_, l0.ff.trans s1, l0.hh, fun a f hn => ?_⟩
    · by_cases z : b = q
      · subst z; rw [upd_same] at e; cases e; exact hq
      · rw [upd_ne z] at e; exact l0.ok.fh b u e
    · have z : a ≠ q := fun z => hn (by rw [z]; exact h0)
      rw [upd_ne z]; exact l0.un a f hn
  exact c.rt _ _ H (.dic l) l2 (mkDic upd_same (RD.mono s1 _ _ r)) h
/-- b.append(e), b a list of one's own -/
theorem z_app {apos : Pos} (h : qE X ⟨W0, F, H⟩ env b fun d1 => ∃ q xs, d1 = .ref q ∧ H q = some (.lst xs) ∧ H0 q = none ∧ F q = none ∧ xs.length < 100000 ∧ qE X ⟨W0, F, H⟩ env e fun d => ∀ F' H' v, Le W0 F H F' H' → R X.K F' d v → P.nx env F' (upd H' q (.lst (xs ++ [v])))) (hp : pureE env = true := by rfl)
    (hs : swapsWith (.Call (.Attribute b "append" apos) [e] [] tpos) none pos.line X.env = pure false := by rfl)
    (hbase : attributeBase b "append" X.env (eval b X.env) = eval b X.env := by rfl)
    (hfew : ((backTo tpos (starEach [e] X.env)).all (fun x => !x.1) && (backToKw tpos (keywordEach [] X.env)).all (fun x => x.1.isSome)
      && decide ([e].length + ([] : List Keyword).length + (if ([] : List Keyword).isEmpty then 0 else 1) < 30)) = true := by rfl)
    (hline : (apos.endLine == tpos.line) = true := by rfl) (hst : starEach [e] X.env = (false, eval e X.env) :: starEach [] X.env := by rfl) (hplain : (backTo tpos (starEach [] X.env)).any (·.1) = false := by rfl) :
    zS1 X F0 H0 env F H (.Expr (.Call (.Attribute b "append" apos) [e] [] tpos) pos) P := fun σ E l rp c => by
  refine ⟨_, ps_expr (pe_bm PySem.F.plainAttrs_list PySem.F.slot_list_append PySem.F.type_list_append mt_append pe_w (pa_cons pe_w pa_nil hst) hbase hfew hline hst hplain) hs, ?_⟩
  refine h σ F H rp _ fun v1 F1 H1 d1 l1 rd1 h1 => ?_
  obtain ⟨q, xs, rfl, hq, h0, hF, hlen, h2⟩ := h1
  rw [R] at rd1
  subst rd1
  have hq1 : H1 q = some (.lst xs) := l1.hh _ _ (fun z => z) hq
  refine ⟨.inl ⟨rfl, _, SqL.of hq1⟩, ?_⟩
  refine h2 σ F1 H1 (rp.step l1) _ fun v F2 H2 d l2 rd kk => ?_
  have l12 := l1.trans l2
  have hq2 : H2 q = some (.lst xs) := l12.hh _ _ (fun z => z) hq
  have fq : F2 q = none := l12.un q hF (by rw [hq]; exact fun z => nomatch z)
  have lw := Le.putW0 (o := .lst (xs ++ [v])) (l.trans l12) h0 fq
  have r3 := ((rp.step l1).step l2)
  refine ⟨q, xs, v, rfl, rfl, hq2, small_lt hlen, c.nx σ F2 _ env lw l12.ff hp ⟨Le.refl lw.ok, r3.len, fun i u ee => ?_, r3.ap⟩ (kk F2 H2 v l12 rd)⟩
  have := r3.sl i u ee
  rcases pureE_get hp ee with z | ⟨d, z⟩ <;> subst z
  · trivial
  · exact this
/-- tuple(a), a a list of one's own -/
theorem e_tupleP (fr : Free X.mg) (hB : B.W = W0) (h : qE X B env a fun d => ∃ q xs l, d = .ref q ∧ B.H0 q = some (.lst xs) ∧ RL X.K B.F0 l xs ∧ Q (.tup l)) (hg : Gl X "tuple" := by rfl) (he : starEach [a] X.env = (false, eval a X.env) :: starEach [] X.env := by rfl) (hpl : (backTo pos (starEach [] X.env)).any (·.1) = false := by rfl) : qE X B env (.Call (.Name "tuple" p) [a] [] pos) Q := fun σ F H rp Qv k => by
  refine ⟨_, pe_callTy call_tuple_of hg fr.tuple (by decide +kernel) (pa_cons pe_w pa_nil he) (by decide) (by decide) he hpl, ?_⟩
  refine h σ F H rp _ fun v F1 H1 d l1 rd hd => ?_
  obtain ⟨q, xs, l, rfl, hq, rl, qq⟩ := hd
  rw [R] at rd
  subst rd
  have ll := rp.le.trans l1
  have hq1 : H1 q = some (.lst xs) := ll.hh _ _ (fun m => by rw [hB] at m; exact m) hq
  refine ⟨q, xs, rfl, .inl ⟨SqL.of hq1, fun q2 hq2 => ?_⟩⟩
  have l4 := Le.new (o := .tup xs) l1.ok hq2
  exact k _ _ _ _ (l1.trans l4) (mkTup (SqT.of upd_same) (RL.mono (ll.ff.trans l4.ff) _ _ rl)) qq
/-- x = [[] for ..]: a list of new lists, by their addresses -/
theorem z_rows (i : Nat) {x : Str} {pos' spos : Pos} {elt iter : Expr} {scope : Scope} {own : List (Str × Nat)} (is : List Nat) (ev : Ev X n) (ok : blkC X.N X.env.scope scope own = true) (his : ∀ i ∈ is, i ∈ own.map (·.2)) (hp : pureE env = true)
    (hg : ∀ d (s : Shared) (H1 : Hp) (C : Addr) (cl : List (Str × Addr)) (fp : List Addr), qG (X.blk s H1 scope (compEnvC scope cl C X.env) fp) ⟨W0, F, H⟩ (wipeE env (own.map (·.2))) tg is d fun _ => True)
    (he : ∀ env2 (s : Shared) (H1 : Hp) (C : Addr) (cl : List (Str × Addr)) (fp : List Addr), qO (X.blk s H1 scope (compEnvC scope cl C X.env) fp) ⟨W0, F, H⟩ env2 elt fun l => l = [])
    (h : qI X ⟨W0, F, H⟩ env tg iter fun items => items.length ≤ 1000 ∧ ∀ F' H' (ps : List Addr), Le W0 F H F' H' → ps.length = items.length → ps.Nodup → (∀ p ∈ ps, H0 p = none ∧ F' p = none ∧ H' p = some (.lst [])) → P.nx (env.set i (.sh (.lst (ps.map D.ref)))) F' H') (hi : X.N[i]? = some x := by rfl) (hyl : X.env.scope.names.lookup x = some .local := by rfl)
    (hsw : swapsWith (.ListComp elt [⟨tg, iter, [], 0⟩] scope pos) (some (.Name x pos')) spos.line X.env = pure true := by exact sw_true rfl rfl rfl rfl)
    (hs : ∀ x, foldedSetIterable iter X.env x = pure x := by intro _; rfl) : zS1 X F0 H0 env F H (.Assign [.Name x pos'] (.ListComp elt [⟨tg, iter, [], 0⟩] scope pos) spos) P := fun σ E l0 rp c => by
  refine ⟨_, ps_setLc ev.calm ev.nd hi hyl hsw pi_w (blkOk_by ok) bG_ok bTs_ok bE_ok hs, ?_⟩
  generalize own.map (·.2) = vs at *
  refine h σ F H rp _ fun J F1 H1 items l1 itok q D hD => ?_
  obtain ⟨hlen, kk⟩ := q
  have k0 := rp.ok
  have k1 := l1.ok
  have hD0 : H D = none := l1.free hD
  refine ⟨fun i m H' => m = items.length - i ∧ i ≤ items.length ∧ ∃ (F' : Hp) (ps : List Addr), Le W0 F H F' H' ∧ Same F1 F' ∧ F' D = none ∧ H' D = some (.lst (ps.map V.ref)) ∧ ps.length = i ∧ ps.Nodup ∧ ∀ p ∈ ps, p ≠ D ∧ H p = none ∧ F' p = none ∧ H' p = some (.lst []), ⟨items.length, by simp, Nat.zero_le _, F1, [], l1.trans (Le.own k1 hD), Same.refl _, k1.fh.free hD, upd_same, rfl, List.nodup_nil, fun _ z => by cases z⟩, ?_⟩
  rintro i m H2 ⟨rfl, hi, F2, ps, l2, s2, f2, h2, hpl, hnd, hps⟩
  by_cases hlt : i < items.length
  · obtain ⟨d, hd⟩ : ∃ d, items[i]? = some d := ⟨_, List.getElem?_eq_getElem hlt⟩
    obtain ⟨go, yl⟩ := itok.turn i d hd F2 H2 s2 l2.ok
    refine .inr ⟨go, fun H' => ∃ (F' : Hp) (ps : List Addr), Le W0 F H F' H' ∧ Same F1 F' ∧ F' D = none ∧ H' D = some (.lst (ps.map V.ref)) ∧ ps.length = i + 1 ∧ ps.Nodup ∧ ∀ p ∈ ps, p ≠ D ∧ H p = none ∧ F' p = none ∧ H' p = some (.lst []), fun H' hq => ⟨items.length - (i + 1), by omega, rfl, hlt, hq⟩, fun x H3 hy => ?_⟩
    obtain ⟨F3, l3, rx⟩ := yl x H3 hy
    intro s Hb C cl fp
    refine hg d s Hb C cl fp (L2.wipe σ vs) F3 H3 x ((rp.step (l2.trans l3)).wipe _) rx _ ?_
    intro σ' env' rep' hw _
    refine ⟨?_, ?_⟩
    · rw [hw _ his]
      exact wipe_wipe
    · intro s Hb C cl fp
      refine ts_nil (X := X.blk s Hb scope (compEnvC scope cl C X.env) fp) (Q := fun b => b = true) rfl σ' F3 H3 rep' _ fun b F4 H4 l4 hq => ?_
      subst hq
      refine iteT ?_
      intro s Hb C cl fp
      refine he env' s Hb C cl fp σ' F4 H4 (rep'.step l4) _ fun p xs F5 H5 l l5 hp5 hF5 hH5 rl5 hl => ?_
      subst hl
      rw [RL] at rl5
      subst rl5
      have l35 := (l3.trans l4).trans l5
      have d5 : H5 D = some (.lst (ps.map V.ref)) := l35.hh D _ (fun z => z) h2
      have f5 : F5 D = none := l35.un D f2 (by rw [h2]; exact fun z => nomatch z)
      have d4 : H4 D = some (.lst (ps.map V.ref)) := (l3.trans l4).hh D _ (fun z => z) h2
      have pD : p ≠ D := fun z => by rw [z, d4] at hp5; cases hp5
      have hpH : H p = none := ((l2.trans l3).trans l4).free hp5
      refine ⟨_, d5, by rw [List.length_map]; exact small_lt (by omega), F5, ps ++ [p], Le.putW0 (l2.trans l35) hD0 f5, (s2.trans l35.ff), f5, by rw [upd_same, List.map_append]; rfl, by rw [List.length_append, hpl]; rfl, ?_, fun p2 hp2 => ?_⟩
      · rw [List.nodup_append]
        refine ⟨hnd, by simp, fun a ha b hb => ?_⟩
        rw [List.mem_singleton] at hb
        subst hb
        intro z
        subst z
        have := (hps a ha).2.2.2
        have h4 := (l3.trans l4).hh a _ (fun z => z) this
        rw [hp5] at h4
        cases h4
      · rcases List.mem_append.mp hp2 with z | z
        · obtain ⟨g1, g2, g3, g4⟩ := hps p2 z
          refine ⟨g1, g2, l35.un p2 g3 (by rw [g4]; exact fun z => nomatch z), ?_⟩
          rw [upd_ne g1]
          exact l35.hh p2 _ (fun z => z) g4
        · rw [List.mem_singleton] at z
          subst z
          exact ⟨pD, hpH, hF5, by rw [upd_ne pD]; exact hH5⟩
  · have e : i = items.length := by omega
    subst e
    have s1 : Same F2 (upd F2 D (.lst (ps.map V.ref))) := fun b u e => by rw [upd_ne (ne_of_none e f2)]; exact e
    have lf := Le.freeze k0 l2 hD0 f2 h2
    have rl : ∀ l : List Addr, RL X.K (upd F2 D (.lst (ps.map V.ref))) (l.map SY.D.ref) (l.map V.ref) := fun l => by
      induction l with
      | nil => exact RL.nil
      | cons a l ih => exact RL.cons (by rw [R]) ih
    refine .inl ⟨itok.stop F2 H2 s2 l2.ok, ?_⟩
    refine c.at (l0.trans lf) lf.ff (pureE_set hp rfl) ((rp.step lf).set (by rw [R]; exact ⟨D, _, rfl, upd_same, rl ps⟩)) (kk _ H2 ps lf hpl hnd fun p hp2 => ?_)
    obtain ⟨g1, g2, g3, g4⟩ := hps p hp2
    exact ⟨l0.free g2, by rw [upd_ne g1]; exact g3, g4⟩
end
end SY
set_option Elab.async false
set_option linter.all false
set_option maxRecDepth 100000
set_option maxHeartbeats 4000000
/-! SY19: the call of a base class's __init__ on an own instance. -/
namespace SY
open PySem PySem.Spec L2
/-- x.__init__ read off the class x: what it promises on an instance of C -/
structure Ini (Pr : Program) (w : World) (K : PySem.W.Frag) (mg : Str → Option Value) (base : Heap) (k : Nat) (x : Str) (C : Addr) (S : I0) : Prop where
  ex : ∃ (f : Addr) (fd : FuncData) (ps : List Str) (Cd : Addr) (mc : Value), ClX.CRead K Cd mc ∧ ClX.CVal K Cd mc "__init__" (.ref f) (.ref f) ∧ PySem.W.keepIn K (.ref f) = true ∧ FnOk Pr w K mg base (L2.CX Pr w) k f fd ps (spI K C S) ∧ Binds K fd ps [] ∧ mg x = some (.ref Cd)
section
variable {X : Cx} {B : Bs} {env : AE} {pos p p2 cpos apos : Pos} {e : Expr} {es : List Expr} {n k : Nat} {x y : Str} {Wx : WX} {P : Post} {C : Addr}
theorem s_init {S : I0} (i : Nat) {o0 : Option Addr} {l : List (Str × D)} (c : Ini X.prog X.w X.K X.mg X.base k x C S) (ev : Ev X n) (hk : k ≤ n) (hB : B.W = W0) (he : env[i]? = some (.oi o0 C l)) (h : qA X B env es fun ds => S l ds fun l' => P.nx (env.set i (.oi o0 C l'))) (hg : Gl X x := by rfl) (hi : X.N[i]? = some y := by rfl)
    (hv : Vis X.env.scope y := by first | exact Or.inl rfl | exact Or.inr (Or.inl rfl) | exact Or.inr (Or.inr rfl)) (hd : (y == ("__debug__" : Str)) = false := by decide) (hcd : (y == ("__classdict__" : Str)) = false := by decide) (hdx : (x == ("__debug__" : Str)) = false := by decide)
    (hst : starEach (.Name y p2 :: es) X.env = (false, eval (.Name y p2) X.env) :: starEach es X.env := by rfl) (hpl : (backTo cpos (starEach es X.env)).any (·.1) = false := by rfl)
    (hev : ∃ pl : Sem Bool, eval (.Call (.Attribute (.Name x p) "__init__" apos) (.Name y p2 :: es) [] cpos) X.env = (do
      let ov ← eval (.Name x p) X.env
      standAt apos.atName
      let (f, first) ← holding [ov] (getMethod ov "__init__" pl)
      callWith cpos f first (backTo cpos (starEach (.Name y p2 :: es) X.env)) (backToKw cpos (keywordEach [] X.env))) := by exact ⟨_, rfl⟩)
    (hs : swapsWith (.Call (.Attribute (.Name x p) "__init__" apos) (.Name y p2 :: es) [] cpos) none pos.line X.env = pure false := by rfl) :
    qS1 X B Wx env (.Expr (.Call (.Attribute (.Name x p) "__init__" apos) (.Name y p2 :: es) [] cpos) pos) P := fun σ F H E rp ct => by
  obtain ⟨f, fd, ps, Cd, mc, r, cv, kp, F0, hb, hm⟩ := c.ex
  obtain ⟨pl, hev⟩ := hev
  refine ⟨_, ps_expr (pe_cfn (mc := mc) (C := Cd) (pl := pl) (pe_glob (v := .ref Cd) hg hm rfl hdx) r cv kp F0 hb (ev.room.mono hk) passL (pa_cons (pe_var hi hv hd hcd) pa_w hst) hst hpl hev) hs, ?_⟩
  obtain ⟨q, dx, xs, h1, h2, h3, h4, h5, h6, h7⟩ := rp.sl i _ he
  refine ⟨rfl, _, h1, ?_⟩
  refine h σ F H rp _ fun vs F1 H1 ds l1 rds hS => ?_
  have rp1 := rp.step l1
  have f1 : F1 q = none := l1.un q h2 (by rw [h5]; exact fun z => nomatch z)
  refine ⟨F1, q, dx, xs, l, ds, vs, _, rfl, rp1.ok.fh, f1, l1.hh q _ h3 h5, RS.mono l1.ff _ _ h6, rds, hS, fun F' H' dx' fs' l' le hF hH rs qq => ?_⟩
  exact ct.nx σ F' H' _ (rp1.reOi hB he h1 le hF hH rs) (l1.ff.trans le.ff) qq
end
/-- the facts on such an __init__ with defaults -/
def IniDef (K : PySem.W.Frag) (mg : Str → Option Value) (x qual : Str) (st : Stmt) (dvs : List V) : Prop := ∃ f fd Cd mc, ClX.CRead K Cd mc ∧ ClX.CVal K Cd mc "__init__" (.ref f) (.ref f) ∧ FunD K "__init__" qual (defArgs st) (defBody st) (defScope st) dvs [] f fd ∧ mg x = some (.ref Cd)
section
variable {Pr : Program} {w : World} {K : PySem.W.Frag} {mg : Str → Option Value} {base : Heap} {x qual : Str} {N ps : List Str} {k : Nat} {C : Addr} {s1 : Str} {st : Stmt}
theorem mkIni {S : I0} {dvs : List V} (D0 : IniDef K mg x qual st dvs) (hne : dvs ≠ []) (sc : FnScope N (s1 :: ps) (defScope st)) (ar : ∀ l ds Q, S l ds Q → ds.length = ps.length) (fr : Free mg)
    (hb : ∀ (T : Addr) (kV doc pm : Value) (an : Option Addr) (cdv ct : Value) (us its : List Value), us.length = (s1 :: ps).length → its.length = dvs.length →
      ∃ k, bindArgs (PySem.W.fnOf "__init__" qual (defArgs st) (defBody st) (defScope st) (.ref T) kV doc pm an cdv ct) ⟨us, []⟩ = seqItems? (.ref T) >>= k ∧ k (some its.toArray) = pure ((s1 :: ps).zip us))
    (hbody : ∀ (f : Addr) (cdv : Value) (A : Around) (outer : List Env) (s : Shared) (H0 : Hp) (E : XK), Ev (cxOf (L2.CX Pr w) Pr w K mg base N qual (defScope st) f cdv A outer s H0 E) k → PassesOwn (model Pr w) (cxOf (L2.CX Pr w) Pr w K mg base N qual (defScope st) f cdv A outer s H0 E).A (cxOf (L2.CX Pr w) Pr w K mg base N qual (defScope st) f cdv A outer s H0 E).env (cxOf (L2.CX Pr w) Pr w K mg base N qual (defScope st) f cdv A outer s H0 E).xe →
      ∀ (q : Addr) (l : List (Str × D)) (ds : List D) (Q : List (Str × D) → Prop) (B : Bs), B.W = W0 → S l ds Q → qS (cxOf (L2.CX Pr w) Pr w K mg base N qual (defScope st) f cdv A outer s H0 E) B noX (.oi (some q) C l :: env0 (N.length - 1) ds) (defBody st)
        { nx := fun env => ∃ l', env[0]? = some (.oi (some q) C l') ∧ Q l', rt := fun _ _ => False }) : Ini Pr w K mg base (k + 1) x C S := by
  obtain ⟨f, fd, Cd, mc, r, cv, F, hm⟩ := D0
  obtain ⟨ds, v, b⟩ := F.binds1 (s1 :: ps).length dvs.length hne (by rw [Nat.sub_self]; rfl) fun T kV doc pm an cdv ct us its l1 l2 => by
    obtain ⟨k, e1, e2⟩ := hb T kV doc pm an cdv ct us its l1 l2
    exact ⟨k, e1, by rw [e2, ← l2, List.drop_length, List.append_nil]⟩
  rw [List.drop_length] at v
  cases v
  exact ⟨⟨f, fd, s1 :: ps, Cd, mc, r, cv, F.kp, fnOk_I F sc ar fr (hbody f), b, hm⟩⟩
end
end SY
set_option Elab.async false
set_option linter.all false
set_option maxRecDepth 100000
set_option maxHeartbeats 4000000
/-! SY20: len(x), x an instance whose class has its own __len__. -/
namespace L2
open PySem PySem.Spec PyProof.Rows
section
variable {X : Cx}
theorem call_lenI {CX : CXT} {C f : Addr} {k : Nat} {fd : FuncData} {ps : List Str} {sp : Sp} {E : XK} (F : FnOk X.prog X.w X.K X.mg X.base CX k f fd ps sp) (hs : PySem.W.findIn X.K (.ref C) "__len__" = some (some (.ref f))) (hf : PySem.W.isFn X.K (.ref f) = true) (hb : Binds X.K fd ps []) (hx : Passes CX X E) (hr : Room (k + 1) X.A) :
    CallR X (.builtin "len") (fun xs H Q => ∃ a dx fs, xs = [V.ref a] ∧ H a = some (.ins C dx fs) ∧ sp [.ref a] H (fun v H' => ∃ n : Nat, v = .int n ∧ n < 2 ^ 62 ∧ Q (.int n) H') E) := by
  intro pins s σ H xs us Q I r h
  obtain ⟨a, dx, fs, rfl, ha, q⟩ := h
  obtain ⟨u, rfl, rx⟩ := r.one
  cases rx
  obtain ⟨mA, J, _⟩ := ins_get I.hok ha
  obtain ⟨od, J, _⟩ := J.look
  have ty := (PySem.W.looks_typeIn (M := model X.prog X.w) I.kIn (v := .ref f) (beq_iff_eq.mp hf))
  have r1 : Vals [V.ref a] [Value.ref a] := .cons rfl .nil
  refine Calls.call_function_entry kind_len plain_len entry_len (args_len1 _) ?_
  unfold Builtin.«len»
  refine wpAny_bind (m := oneArg "len" _) (wpAny_pure ?_)
  refine wpAny_bind (m := callSpecial? (.ref a) (Str.ofString "__len__")) ?_
  unfold callSpecial? specialOf
  refine wpAny_bind (wpAny_bind (J.type.here ((PySem.W.looks_findIn I.kIn hs).here ?_)))
  refine wpAny_holding ?_
  have hbs : ∀ {Q : Value × List Value → Shared → Prop} {A : Around} {E : Value → Shared → Prop}, Q (.ref f, [.ref a]) s → wpAny (model X.prog X.w) A (bindSpecial (.ref f) (.ref a)) Q E s := fun {Q A E} hq => by
    unfold bindSpecial
    refine wpAny_bind (ty.here ?_)
    rw [if_pos (by decide)]
    exact wpAny_pure hq
  refine wpAny_bind (hbs ?_)
  refine wpAny_bind (wpAny_mono (Q := fun (u : Value) (s' : Shared) => ∃ (n : Nat) (t : Tok) (H' : Hp), u = .int n t ∧ n < 2 ^ 62 ∧ Inv X pins σ H' s' ∧ Q (.int n) H') ?_ (fun u s' hu => ?_) fun _ _ y => y)
  · refine wpAny_call (codeAny_mono (F.run X.A.in1 X.stack s H ⟨[.ref a], []⟩ [.ref a] [.ref a] _ E hr.in1 ?_ ?_ r1 q) fun r s' hq => ?_)
    · have e := I.env0
      exact ⟨e.frames, e.mod, e.bs, e.bsz, e.funs, e.frf, e.hok, e.bare⟩
    · have := hb s [.ref a] I.kIn (by have := F.len _ _ _ _ q; simpa using this)
      simpa using this
    · cases r with
      | error e => exact hx pins σ H s e s' I hq
      | ok fl =>
        cases fl with
        | ret w =>
          obtain ⟨z, H', I', rz, n, ez, hn, qq⟩ := I.after hq
          subst ez
          obtain ⟨t, rfl⟩ := rz
          exact ⟨n, t, H', rfl, hn, I', qq⟩
        | next => exact False.elim hq
        | brk => exact False.elim hq
        | cont => exact False.elim hq
  · obtain ⟨n, t, H', rfl, hn, I', qq⟩ := hu
    refine wpAny_pure ?_
    refine wpAny_bind (wpAny_holding (wpAny_pure ?_))
    refine wpAny_bind (wpAny_letGo ?_)
    show wpAny _ _ (if (n : Int) < 0 then _ else _) _ _ _
    rw [if_neg (by omega)]
    show wpAny _ _ (if (n : Int) ≥ 2 ^ 63 then _ else _) _ _ _
    rw [if_neg (by omega)]
    exact wpAny_bind (wpAny_mkInt (wpAny_pure ⟨_, rfl, .int n, H', I'.tok _, ⟨_, rfl⟩, qq⟩))
end
end L2
set_option Elab.async false
set_option linter.all false
set_option maxRecDepth 100000
set_option maxHeartbeats 4000000
/-! SY21: len of an instance, on data. -/
namespace SY
open PySem PySem.Spec L2
/-- the class C has its own (or an inherited) __len__, of the promise S -/
structure LenOk (P : Program) (w : World) (K : PySem.W.Frag) (mg : Str → Option Value) (base : Heap) (k : Nat) (C : Addr) (S : S0) : Prop where
  ex : ∃ (f : Addr) (fd : FuncData) (ps : List Str), FnOk P w K mg base (L2.CX P w) k f fd ps (spP K S) ∧ PySem.W.findIn K (.ref C) "__len__" = some (some (.ref f)) ∧ PySem.W.isFn K (.ref f) = true ∧ Binds K fd ps []
/-- the facts on it -/
def LenDef (K : PySem.W.Frag) (qual : Str) (st : Stmt) (C : Addr) : Prop := ∃ f fd, PySem.W.findIn K (.ref C) "__len__" = some (some (.ref f)) ∧ PySem.W.isFn K (.ref f) = true ∧ FunD K "__len__" qual (defArgs st) (defBody st) (defScope st) [] [] f fd
section
variable {X : Cx} {B : Bs} {env : AE} {pos p : Pos} {a : Expr} {n k : Nat} {Q : D → Prop} {C : Addr}
theorem e_lenI {S : S0} (c : LenOk X.prog X.w X.K X.mg X.base k C S) (ev : Ev X n) (hk : k + 1 ≤ n) (h : qE X B env a fun d => (∃ l, d = .ins C l) ∧ S [d] fun r => ∃ m : Nat, r = .int m ∧ m < 2 ^ 62 ∧ Q (.int m)) (hg : Gl X "len" := by rfl)
    (he : starEach [a] X.env = (false, eval a X.env) :: starEach [] X.env := by rfl) (hpl : (backTo pos (starEach [] X.env)).any (·.1) = false := by rfl) : qE X B env (.Call (.Name "len" p) [a] [] pos) Q := fun σ F H rp Qv kk => by
  obtain ⟨f, fd, ps, F0, hs, hf, hb⟩ := c.ex
  refine ⟨_, pe_callB (call_lenI F0 hs hf hb passL (ev.room.mono hk)) hg ev.free.len PySem.boot_len (pa_cons pe_w pa_nil he) (by decide) (by decide) he hpl, ?_⟩
  refine h σ F H rp _ fun v F1 H1 d l1 rd hd => ?_
  obtain ⟨⟨l, rfl⟩, q⟩ := hd
  have rd0 := rd
  obtain ⟨c2, dx, xs, rfl, h1, h2⟩ := rIns rd
  have k1 := (rp.step l1).ok
  refine ⟨c2, dx, xs, rfl, k1.fh _ _ h1, (), F1, _, _, WOk.w0 k1.fh, RL.cons rd0 RL.nil, q, fun F' H' d v l2 rd2 q2 => ?_⟩
  obtain ⟨m, rfl, hm, q3⟩ := q2
  exact ⟨m, rInt rd2, hm, kk (.int m) F' H' (.int m) (l1.trans (Le.pure k1 l2)) (mkInt _) q3⟩
end
section
variable {P : Program} {w : World} {K : PySem.W.Frag} {mg : Str → Option Value} {base : Heap} {qual : Str} {N ps : List Str} {k : Nat} {C : Addr} {st : Stmt}
theorem mkLen {S : S0} (D0 : LenDef K qual st C) (sc : FnScope N ps (defScope st)) (ar : Ar (fun _ : Unit => S) ps.length) (fr : Free mg)
    (hb : ∀ (kV doc pm : Value) (an : Option Addr) (cdv ct : Value) (us : List Value), us.length = ps.length → bindArgs (PySem.W.fnOf "__len__" qual (defArgs st) (defBody st) (defScope st) .none kV doc pm an cdv ct) ⟨us, []⟩ = pure (ps.zip us))
    (hbody : ∀ (f : Addr) (cdv : Value) (A : Around) (outer : List Env) (s : Shared) (H0 : Hp) (E : XK), Ev (cxOf (L2.CX P w) P w K mg base N qual (defScope st) f cdv A outer s H0 E) k → PassesOwn (model P w) (cxOf (L2.CX P w) P w K mg base N qual (defScope st) f cdv A outer s H0 E).A (cxOf (L2.CX P w) P w K mg base N qual (defScope st) f cdv A outer s H0 E).env (cxOf (L2.CX P w) P w K mg base N qual (defScope st) f cdv A outer s H0 E).xe →
      ∀ (ds : List D) (Q : D → Prop) (F : Hp), S ds Q → qS (cxOf (L2.CX P w) P w K mg base N qual (defScope st) f cdv A outer s H0 E) ⟨W0, F, H0⟩ noX (env0 N.length ds) (defBody st) { nx := fun _ => Q .non, rt := fun _ => Q }) : LenOk P w K mg base (k + 1) C S := by
  obtain ⟨f, fd, h1, h2, F⟩ := D0
  exact ⟨⟨f, fd, ps, fnOk_W F sc ar fr (fun cdv A outer s H0 E ev hp _ => hbody f cdv A outer s H0 E ev hp), h1, h2, F.bindsN hb⟩⟩
end
end SY
set_option Elab.async false
set_option linter.all false
set_option maxRecDepth 100000
set_option maxHeartbeats 4000000
/-! SY22: own exceptions over ValueError whose __init__ says super().__init__(text), then self.f = f. -/
namespace L2
open PySem PySem.Spec PyProof.Rows
section
variable {prog : Program} {w : World} {A : Around} {E : Value → Shared → Prop} {h : Heap} {g : Array GenState} {d : Drawn} {t : Nat} {os : OsState}
variable {nm q : Str} {C N : Addr} {bs bm : List Value} {hdct : Bool} {sn : List Str} {sub : List Value} {ab : Bool} {col : Option Bool} {dd : Option Addr} {k0 k1 k2 k3 k5 : Option Value}
theorem call_bwV {u e t0 : Addr} {rest : List Value} {Q : Value → Shared → Prop}
    (hC : h.get? C = some (excClassObj nm q C N bs bm hdct sn sub ab col dd k0 k1 k2 k3 k5 "ValueError.__new__")) (he : h.get? e = some (HandSPX.excO C t0)) (hu : h.get? u = some (PySem.W.kxs_mw "ValueError.__init__" e)) (hrest : rest.length ≤ sizeLine)
    (hq : ∀ h' t1, (∀ b o, b ≠ e → h.get? b = some o → h'.get? b = some o) → h'.get? e = some (HandSPX.excO C t1) → Q .none ⟨h', g, d, t, os⟩) :
    wpAny (model prog w) A (call (.ref u) rest) Q E ⟨h, g, d, t, os⟩ := by
  refine wpAny_call (codeAny_of_tree ?_)
  show wpAny _ A.in1 (callAny (.ref u) ⟨rest, []⟩) _ _ _
  simp only [callAny]
  refine wpAny_bind (wpAny_load hu ?_)
  simp only [PySem.W.kxs_mw, show (Value.type "method-wrapper" == Value.type "method" || Value.type "method-wrapper" == Value.type "builtin_function_or_method" || Value.type "method-wrapper" == Value.type "method-wrapper") = true by decide, if_true]
  refine PySem.W.KFB.if_so (by decide) ?_
  refine wpAny_bind (PySem.ESX.check_bound F.excBase_ValueError hC he rfl ?_)
  refine wpAny_bind (wpAny_pure (wpAny_pure ?_))
  refine ⟨Code.quiet_builtin _ (by decide +kernel), codeAny_builtin F.excBase_ValueError.initEntry ?_⟩
  rw [Around.under_plainId F.excBase_ValueError.init.plain _]
  wp_walk
  refine hq _ h.objs.size (fun b o hb ho => ?_) ?_
  · rw [Heap.get?_update_other _ _ (Ne.symm hb)]
    exact Heap.get?_push_of_some _ ho
  · rw [Heap.get?_update_self _ (Heap.get?_push_of_some _ he) rfl]
    rfl
end
/-- what the written part says of a class C over ValueError with such an __init__ -/
structure ExK (P : Program) (K : PySem.W.Frag) (C : Addr) (f qual : Str) (params : Arguments) (body : List Stmt) (scope : Scope) : Prop where
  T : OexC K C
  ex : ∃ (fI cda cc : Addr) (oc : Value) (od : Option Addr) (osl : Array (Option Value)) (kV doc pm ct : Value) (an : Option Addr), PySem.W.findIn K (.ref C) "__init__" = some (some (.ref fI)) ∧ PySem.W.typeIn K (.ref fI) = some (.type "function") ∧
    K.lookup fI = some ⟨oc, od, .func (PySem.W.ksFn "__init__" qual params body scope .none kV doc pm an (.ref cda) ct cc), osl⟩ ∧ PySem.W.codeIn K (.ref cda) qual = true ∧
    (∃ ccl cdd vs ccs file tf, K.lookup cda = some ⟨ccl, cdd, .fields vs, ccs⟩ ∧ vs[2]? = some (.str file tf) ∧ ((P.main.file : Str) == file) = true) ∧ ∃ cl cld csl, K.lookup cc = some ⟨cl, cld, .cell (some (.ref C)), csl⟩
  sup : PySem.W.ks_superIn K C C "__init__" = some (some (.builtin "ValueError.__init__"))
  subV : PySem.W.subIn K (.ref C) (.type "ValueError") = some true
  opq : PySem.W.nsIn K cStatics "thirdparty.any" = some none
  top : (P.main.scope.names.lookup ("super" : Str)).isSome = false
  nf : PySem.W.findIn K (.ref C) f = some none
/-- the shape of the def -/
structure ExF (f qual : Str) (params : Arguments) (body : List Stmt) (scope : Scope) : Prop where
  bind : ∀ (kV doc pm ct : Value) (an : Option Addr) (cda cc : Addr) (a b : Value), bindArgs (PySem.W.ksFn "__init__" qual params body scope .none kV doc pm an (.ref cda) ct cc) ⟨[a, b], []⟩ = pure [(("self" : Str), a), (f, b)]
  par : ∃ ar, (params.posonlyargs ++ params.args).head? = some ar ∧ ar.arg = "self"
  shape : ∃ (p0 p1 p2 p3 p4 p5 p6 p7 p8 p9 : Pos) (j : Nat) (msg : Str), body = [.Expr (.Call (.Attribute (.Call (.Name "super" p0) [] [] p1) "__init__" p2) [.Constant (.str msg) j p3] [] p4) p5, .Assign [.Attribute (.Name "self" p6) f p7] (.Name f p8) p9] ∧
    ∀ L fa cd cc, ((∃ pl, eval (.Call (.Attribute (.Call (.Name "super" p0) [] [] p1) "__init__" p2) [.Constant (.str msg) j p3] [] p4) (PySem.W.ksEnv qual scope L fa cd cc) = (do
      let ov ← attributeBase (.Call (.Name "super" p0) [] [] p1) "__init__" (PySem.W.ksEnv qual scope L fa cd cc) (eval (.Call (.Name "super" p0) [] [] p1) (PySem.W.ksEnv qual scope L fa cd cc))
      standAt p2.atName
      let (f, first) ← holding [ov] (getMethod ov "__init__" pl)
      callWith p4 f first (backTo p4 (starEach [.Constant (.str msg) j p3] (PySem.W.ksEnv qual scope L fa cd cc))) [])) ∧
      (starEach [.Constant (.str msg) j p3] (PySem.W.ksEnv qual scope L fa cd cc) = (false, eval (.Constant (.str msg) j p3) (PySem.W.ksEnv qual scope L fa cd cc)) :: starEach [] (PySem.W.ksEnv qual scope L fa cd cc)) ∧
      swapsWith (.Call (.Attribute (.Call (.Name "super" p0) [] [] p1) "__init__" p2) [.Constant (.str msg) j p3] [] p4) none p5.line (PySem.W.ksEnv qual scope L fa cd cc) = pure false ∧
      swapsWith (.Name f p8) (some (.Attribute (.Name "self" p6) f p7)) p9.line (PySem.W.ksEnv qual scope L fa cd cc) = pure false)
  ks : scope.names.lookup ("super" : Str) = some .globalImplicit
  kc : scope.names.lookup ("__class__" : Str) = some .free
  ka : scope.names.lookup ("self" : Str) = some .local
  kf : scope.names.lookup f = some .local
  nd : (f == ("__debug__" : Str)) = false
  nsf : ((f == ("self" : Str)) = false)
  cell : ∀ x ∈ scope.names, x.2 ≠ .cell
  co : scope.isCoroutine = false
  gen : scope.isGenerator = false
  kind : scope.kind = .function

section
open PySem.W PySem.Calls
variable {P : Program} {w : World} {A : Around} {R : Result → Shared → Prop} {h : Heap} {g : Array GenState} {d : Drawn} {t : Nat} {os : OsState} {K : PySem.W.Frag} {mg : Str → Option Value} {base : Heap}
variable {C : Addr} {f qual : Str} {params : Arguments} {body : List Stmt} {scope : Scope} {e t0 fI : Addr} {u : Value}
theorem exc_run (X : ExK P K C f qual params body scope) (S : ExF f qual params body scope) (mo : Mod K mg base) (bk : ∀ b o, base.get? b = some o → h.get? b = some o) (msup : mg "super" = none) (hroom : A.depth < recursionLimit)
    (hbe : base.get? e = none) (iC : PySem.W.findIn K (.ref C) "__init__" = some (some (.ref fI))) (he : h.get? e = some (HandSPX.excO C t0))
    (hq : ∀ h' t' t1 dx, (∀ b o, b ≠ e → h.get? b = some o → h'.get? b = some o) → h.objs.size ≤ dx → h'.get? e = some ({ cls := .ref C, dict := some dx, data := .fields #[.ref t1, .none, .none, .none, .bool false, .none] } : Obj) → h'.Ns1 dx (fun y => if y = f then some u else none) → R (.ok (.ret .none)) ⟨h', g, d, t', os⟩) :
    codeAny (model P w) A (.call (.ref fI) ⟨[.ref e, u], []⟩) R ⟨h, g, d, t, os⟩ := by
  obtain ⟨nm, q, N, bs, bm, sn, sub, ab, col, dd, k0, k1, k2, k3, k5, hC, hbm⟩ := X.T.cls
  have hcl : PySem.W.clsIn K C = some { name := nm, bases := bs, mro := .ref C :: bm, ns := N, qualname := q, hasDict := true, slotNames := sn, subclasses := sub, abstract := ab, collection := col, hasDel := false } := by unfold PySem.W.clsIn; rw [hC] <;> rfl
  obtain ⟨fI', cda, cc, oc, od, osl, kV, doc, pm, ct, an, i1, i2, i3, i4, ⟨ccl, cdd, vs, ccs, file, tf, i5, i6, i7⟩, cl, cld, csl, i8⟩ := X.ex
  obtain rfl : fI' = fI := by
    rw [iC] at i1
    exact (Value.ref.inj (Option.some.inj (Option.some.inj i1))).symm
  obtain ⟨ar, ar1, ar2⟩ := S.par
  obtain ⟨p0, p1, p2, p3, p4, p5, p6, p7, p8, p9, j, msg, rfl, sh⟩ := S.shape
  obtain ⟨mb, hb1, hb2⟩ := mo.blt
  have kin : K.In h := mo.kin.keeps bk
  have hel : e < h.objs.size := Heap.lt_size he
  have hmro : mroIn K C (.ref C) = some true := by
    unfold PySem.W.mroIn
    rw [hcl, Option.bind_some]
    dsimp only
    rw [List.contains_cons]
    simp
  refine ks_codeAny_call_defAt (fd := PySem.W.ksFn "__init__" qual params _ scope .none kV doc pm an (.ref cda) ct cc) (binds := [("self", .ref e), (f, u)]) hroom (kin _ _ i3) rfl (mo.nolimit.keeps bk) (codeRec_of kin i4) rfl (.of_eq (S.bind kV doc pm ct an cda cc (.ref e) u)) S.cell ?_ ?_ S.co S.gen S.kind
  · intro y hy
    rcases List.mem_cons.mp hy with rfl | hy
    · exact S.ka
    · rcases List.mem_cons.mp hy with rfl | hy
      · exact S.kf
      · cases hy
  intro h0 hns hk0
  have kin0 : K.In h0 := kin.keeps hk0
  have he0 := hk0 _ _ he
  have nsf : ¬ f = "self" := fun z => by have := S.nsf; rw [z] at this; exact absurd this (by decide)
  have ms : (fun x => List.lookup x [(("self" : Str), Value.ref e), (f, u)].reverse) "self" = some (Value.ref e) := by
    show List.lookup ("self" : Str) [(f, u), (("self" : Str), Value.ref e)] = _
    rw [List.lookup_cons, show (("self" : Str) == f) = false from by rw [beq_eq_false_iff_ne]; exact fun z => nsf z.symm]
    rfl
  have mf : (fun x => List.lookup x [(("self" : Str), Value.ref e), (f, u)].reverse) f = some u := by
    show List.lookup f [(f, u), (("self" : Str), Value.ref e)] = _
    rw [List.lookup_cons, beq_self_eq_true]
  obtain ⟨⟨pl, hev⟩, hst, hs1, hs2⟩ := sh h.objs.size fI' (.ref cda) cc
  refine ks_wpAt_execs_cons (ks_wpAt_Expr_any (h := ks_wpAt_MethodCall (pl := pl) ?_ hev) (by show (scope.kind == ScopeKind.module && _) = false; rw [S.kind]; rfl) hs1)
  obtain ⟨oD, hD1, hD2⟩ : ∃ oD, h0.get? C = some oD ∧ oD.data = .cls { name := nm, bases := bs, mro := .ref C :: bm, ns := N, qualname := q, hasDict := true, slotNames := sn, subclasses := sub, abstract := ab, collection := col, hasDel := false } := ⟨_, kin0 _ _ hC, rfl⟩
  have b0 : ∀ b o, base.get? b = some o → h0.get? b = some o := fun b o z => hk0 _ _ (bk _ _ z)
  refine ks_wpAt_super_base (env := PySem.W.ksEnv qual scope h.objs.size fI' (.ref cda) cc) S.ks S.kc (by decide) rfl (kin0 _ _ i3) rfl ar1 rfl (kin0 _ _ i5) rfl i6 i7 X.top ?_
  refine ks_loadName_global S.kind S.ks (loadGlobal_builtin (env := PySem.W.ksEnv qual scope h.objs.size fI' (.ref cda) cc) (mo.glob.keeps b0) msup (hb1.keeps b0) ((hb2 _ (by decide)).trans PyProof.Rows.Boot.«super») ⟨rfl, ?_⟩)
  refine wpAny_loadName_free S.kind S.kc rfl ⟨_, kin0 _ _ i8, rfl⟩ ?_
  rw [ar2]
  refine wpAny_loadName_local S.kind S.ka hns ms ?_
  refine ks_wpAny_isType_cls hD1 hD2 ⟨rfl, ?_⟩
  refine ks_wpAny_call_super hD1 hD2 he0 rfl (fun c z => by cases z) (looks_mroIn kin0 hmro) (fun h1 e1 k1 => ?_)
  have he1 := k1 _ _ he0
  have kin1 : K.In h1 := kin0.keeps k1
  have I1 : InstAt h1 e (HandSPX.excO C t0) C none := ⟨he1, rfl, rfl, trivial⟩
  have hsup := X.sup
  unfold ks_superIn at hsup
  rw [hcl] at hsup
  refine kxs_getMethod kxs_ValueError e1 (looks_opaque kin1 X.opq) (l₀ := .ref C :: bm) ?_ rfl kin1 hsup (I1.type.andThen (looks_subIn kin1 X.subV)) (ks_ne kin1 I1 hcl) (by decide) ?_
  · exact fun A Q E s k q => wpAny_bind ((looks_clsIn kin1 hcl) A _ E s k (wpAny_pure q))
  have hu : (h1.push (kxs_mw "ValueError.__init__" e)).get? h1.objs.size = some (kxs_mw "ValueError.__init__" e) := Heap.get?_push_at rfl rfl
  have k2 : ∀ b o, h1.get? b = some o → (h1.push (kxs_mw "ValueError.__init__" e)).get? b = some o := fun b o z => Heap.get?_push_of_some _ z
  show wpAny _ _ (callWith p4 (.ref _) [] (backTo p4 (starEach [.Constant (.str msg) j p3] (PySem.W.ksEnv qual scope h.objs.size fI' (.ref cda) cc))) []) _ _ _
  rw [hst]
  refine kxs_callWith (i := "ValueError.__init__") (x := e) rfl (evalArgs_plain (spliced_cons (Constant_str (k := j) (pos := p3) (spliced_nil ⟨hu, ?_⟩))))
  have hC2 := (kin1.keeps k2) _ _ hC
  refine call_bwV hC2 (k2 _ _ he1) hu (by rw [sizeLine_eq]; show 1 ≤ _; decide) (fun h3 t3 k3 e3 => ?_)
  have neb : ∀ {b : Addr} {o : Obj}, base.get? b = some o → b ≠ e := fun {b o} z y => by rw [y, hbe] at z; cases z
  have b3 : ∀ b o, base.get? b = some o → h3.get? b = some o := fun b o z => k3 b o (neb z) (k2 _ _ (k1 _ _ (b0 _ _ z)))
  have kin3 : K.In h3 := mo.kin.keeps b3
  have hLe : h.objs.size ≠ e := fun z => by rw [← z] at hel; exact absurd hel (Nat.lt_irrefl _)
  have hns3 : h3.Ns h.objs.size (fun x => List.lookup x [(("self" : Str), Value.ref e), (f, u)].reverse) := by
    obtain ⟨oL, es, ep, hL, r⟩ := hns
    exact ⟨oL, es, ep, k3 _ _ hLe (k2 _ _ (k1 _ _ hL)), r⟩
  refine wpAt_of_wpAny ?_
  refine wpAny_execs_cons (plainObj_wpAny_Assign_Attribute (PySem.ESX.ldL hns3 mf (PySem.ESX.ldL hns3 ms ?_ S.kind S.ka (by decide)) S.kind S.kf S.nd) hs2)
  refine PySem.W.set_plain kin3 (ox := HandSPX.excO C t3) (od := none) ⟨e3, rfl, rfl, trivial⟩ X.T.sa ?_
  refine PySem.HandSPX.exc_osa kin3 e3 hcl (show PySem.HandSPX.refsVE (.ref C :: bm) = true from hbm) rfl X.nf (fun h4 tk4 dx k4 dn dne hx hn => ?_)
  refine wpAny_execs_nil ?_
  refine hq h4 _ t3 dx (fun b o hb z => k4 b o hb (k3 b o hb (k2 _ _ (k1 _ _ (hk0 _ _ z))))) ?_ hx hn
  exact Nat.le_trans (Nat.le_of_lt hns3.lt) dn
end
section
variable {X : Cx} {x f qual : Str} {C : Addr} {params : Arguments} {body : List Stmt} {scope : Scope} {e : Expr} {te : TE} {p pos : Pos}
/-- C(e) -/
theorem pmk_exk (T : ExK X.prog X.K C f qual params body scope) (S : ExF f qual params body scope) (msup : X.mg "super" = none) (hm : X.mg x = some (.ref C)) (hr : Room 1 X.A) (hg : Gl X x) (ha : PE X e te)
    (hdb : (x == ("__debug__" : Str)) = false := by decide) (he : starEach [e] X.env = (false, eval e X.env) :: starEach [] X.env := by rfl) (hpl : (backTo pos (starEach [] X.env)).any (·.1) = false := by rfl) :
    PMk X (.Call (.Name x p) [e] [] pos) (fun σ H Q => te σ H fun v H1 => ∀ dx, H1 dx = none → Q (.ref C) (some dx) (upd H1 dx (.xd [(f, v)]))) := by
  intro pins s σ H Q I h
  obtain ⟨nm, q, N, bs, bm, sn, sub, ab, col, dd, k0, k1, k2, k3, k5, hC, hbm⟩ := T.T.cls
  obtain ⟨fI, _, _, _, _, _, _, _, _, _, _, iC, tI, _⟩ := T.ex
  refine wpAny_Call_Name_kw (ld_glob I hg hm ?_ hdb)
  refine PySem.W.callWith_K (h₀ := X.base) I.ok.mod.kin T.T.kC (spliced_more (thn (ha.run pins s σ H _ I h) fun u s1 ⟨v, H1, I1, r1, q1⟩ => spliced_none ⟨I1.kIn, ?_⟩) he) he hpl
  show wpAny _ _ (call (.ref C) [u]) _ _ _
  obtain ⟨hp, g, dr, tk, os⟩ := s1
  have kk : ∀ b o, hp.get? b = some o → ((hp.push (PySem.W.kdv_tup [u])).push (PySem.HandSPX.excO C hp.objs.size)).get? b = some o := fun b o e => Heap.get?_push_of_some _ (Heap.get?_push_of_some _ e)
  have hget : ((hp.push (PySem.W.kdv_tup [u])).push (PySem.HandSPX.excO C hp.objs.size)).get? (hp.objs.size + 1) = some (PySem.HandSPX.excO C hp.objs.size) := by heap_get
  have sz : hp.objs.size ≤ ((hp.push (PySem.W.kdv_tup [u])).push (PySem.HandSPX.excO C hp.objs.size)).objs.size := Nat.le_of_lt (Nat.lt_trans (Nat.lt_succ_self _) (Heap.lt_size hget))
  have hbe : X.base.get? (hp.objs.size + 1) = none := by
    cases z : X.base.get? (hp.objs.size + 1) with
    | none => rfl
    | some o => exact absurd (Heap.lt_size (I1.bk _ _ z)) (by show ¬ hp.objs.size + 1 < hp.objs.size; omega)
  refine wpAny_call (PySem.HandSPX.call_own F.excBase_ValueError (fun Y => PySem.HandSPX.refsVE_contains Y bm hbm) (I1.kIn _ _ hC) (PySem.W.looks_findIn I1.kIn iC) (fun self => PySem.W.bind_fn I1.kIn self tI) (by rw [sizeLine_eq]; show 1 ≤ _; decide) ?_)
  refine exc_run T S I1.mod (fun b o z => kk b o (I1.bk b o z)) msup (hr.make C [u] []).depth hbe iC hget (fun h' t' t1 dx k1 dn he' hns => ?_)
  have hdn : hp.objs.size ≤ dx := Nat.le_trans sz dn
  have hda : dx ≠ hp.objs.size + 1 := fun z => by
    have := Heap.lt_size hget
    rw [← z] at this
    exact absurd this (Nat.not_lt.mpr dn)
  obtain ⟨G, g1', g2'⟩ := restrict h' fun b => decide (b ≠ hp.objs.size + 1)
  have gk : ∀ b, b ≠ hp.objs.size + 1 → G.get? b = h'.get? b := fun b hb => g1' b (decide_eq_true hb)
  have ge : G.get? (hp.objs.size + 1) = none := g2' _ (by simp)
  have J : Inv X pins σ (upd H1 dx (.xd [(f, v)])) ⟨G, g, dr, t', os⟩ := I1.laid (t' := t') (a := dx) (o := .xd [(f, v)]) (h' := G) (fun b o z => by
      have hb : b ≠ hp.objs.size + 1 := Nat.ne_of_lt (Nat.lt_succ_of_lt (Heap.lt_size z))
      rw [gk b hb]
      exact k1 b o hb (kk b o z)) hdn ⟨_, hns.at fun o y => (gk dx hda).trans y, relO_put (fs := []) r1 fun g => True.intro⟩
  refine ⟨rfl, hp.objs.size + 1, _, _, ⟨G, g, dr, t', os⟩, _, .ref C, some dx, rfl, J, fun b o z => ?_, ge, he', ⟨rfl, rfl⟩, rfl, rfl, ?_, rfl, J.bare, raises_own T.T.exC T.T.tyC, q1 dx (I1.hok.fresh hdn)⟩
  · by_cases hb : b = hp.objs.size + 1
    · rw [hb, ge] at z
      cases z
    · exact (gk b hb).symm.trans z
  · rw [upd_ne (Ne.symm hda)]
    exact I1.hok.fresh (Nat.le_succ _)
end
end L2
set_option Elab.async false
set_option linter.all false
set_option maxRecDepth 100000
set_option maxHeartbeats 4000000
/-! SY23: raise, defs that raise, their calls, try with several clauses that bind. -/
namespace L2
open PySem PySem.Spec PyProof.Rows
section
variable {X : Cx} {CX' : CXT} {k : Nat} {f : Addr} {fd : FuncData} {ps : List Str} {sp : Sp} {W : WX} {x : Str} {p pos : Pos} {e : Expr} {es : List Expr} {t : TA}
/-- f(e, ..), what it lets out is taken -/
theorem pe_callX (F : FnOk X.prog X.w X.K X.mg X.base (L2.CX X.prog X.w) k f fd ps sp) (hr : Room k X.A) (hg : Gl X x) (hm : X.mg x = some (.ref f)) (hk : PySem.W.keepIn X.K (.ref f) = true) (hb : Binds X.K fd ps []) (tk : Takes X W)
    (ha : PA X (e :: es) t) (hdb : (x == ("__debug__" : Str)) = false := by decide) (he : starEach (e :: es) X.env = (false, eval e X.env) :: starEach es X.env := by rfl) (hpl : (backTo pos (starEach es X.env)).any (·.1) = false := by rfl) :
    PE X (.Call (.Name x p) (e :: es) [] pos) (fun σ H Q => t σ H fun vs H1 => sp vs H1 Q fun cls d H' => W cls d σ H') := by
  refine ⟨fun pins s σ H Q I h => ?_⟩
  refine wpAny_Call_Name_kw (ld_glob I hg hm ?_ hdb)
  refine PySem.W.callWith_K (h₀ := X.base) I.ok.mod.kin hk (thn (ha.run pos pins s σ H _ I h) fun us s1 ⟨vs, H1, I1, r, q⟩ => ⟨I1.kIn, ?_⟩) he hpl
  have hl : (us ++ []).length = ps.length := by rw [List.append_nil, ← r.length]; exact F.len _ _ _ _ q
  show wpAny _ _ (call (.ref f) us) _ _ _
  have b := hb s1 us I1.kIn hl
  rw [List.append_nil] at b
  refine wpAny_call (codeAny_mono (F.run X.A X.stack s1 H1 ⟨us, []⟩ us vs Q _ hr I1.env0 b r q) fun r s' hq => ?_)
  cases r with
  | error e => exact tk e s' (XE.of_call I1 (fun cls d H' h => h) hq)
  | ok fl =>
    cases fl with
    | ret u => exact I1.after hq
    | next => exact False.elim hq
    | brk => exact False.elim hq
    | cont => exact False.elim hq
end
/-- several clauses, each binding a name -/
def wManyA (K : PySem.W.Frag) (Wout : WX) (D : Ends) : List (Value × Nat × (Addr → Value → Option Addr → TS)) → WX
  | [] => Wout
  | (c, i, ts) :: r => fun cls d σ H => ∃ b, PySem.W.exmOne K cls c = some b ∧ (b = true → ∀ a, H a = none → ts a cls d { nx := fun σ' H' => D.nx (σ'.set i none) H', rt := D.rt, bk := fun σ' H' => D.bk (σ'.set i none) H', ct := fun σ' H' => D.ct (σ'.set i none) H' } (σ.set i (some (.ref a))) H) ∧
    (b = false → wManyA K Wout D r cls d σ H)
inductive HdsA (X : Cx) : List ExceptHandler → List (Value × Nat × (Addr → Value → Option Addr → TS)) → Prop
  | nil : HdsA X [] []
  | cons {x n : Str} {c : Value} {i : Nat} {ts : Addr → Value → Option Addr → TS} {b₀ : Stmt} {suite : List Stmt} {np pos' : Pos} {hds : List ExceptHandler} {l : List (Value × Nat × (Addr → Value → Option Addr → TS))} (hi : X.N[i]? = some n) (hln : X.env.kindOf n = some .local) (hc : Names X x c)
      (hsu : ∀ (a : Addr) (oe : Obj) (cls : Value) (d : Option Addr) (pn : List (Addr × Obj)), Zc cls d oe → (∃ vs, oe.data = .fields vs) → PSs (X.suite a ((a, oe) :: pn)) (b₀ :: suite) (ts a cls d)) (r : HdsA X hds l) :
      HdsA X (.ExceptHandler (some (.Name x np)) (some n) (b₀ :: suite) pos' :: hds) ((c, i, ts) :: l)
section
variable {X : Cx} {body : List Stmt} {h₀ : ExceptHandler} {hds : List ExceptHandler} {l : List (Value × Nat × (Addr → Value → Option Addr → TS))} {pos : Pos} {tb : WX → TS} {Wout : WX}
theorem ps_try_manyA (hs : X.stack = X.env :: X.outer) (hf : X.env.frame = some X.env.locals) (hN : X.N.Nodup) (tk : Takes X Wout)
    (hb : ∀ (W : WX) (pn : List (Addr × Obj)) (xe : Value → Shared → Prop), Takes (X.tr pn xe) W → PassesOwn (model X.prog X.w) X.A X.env xe → PSs (X.tr pn xe) body (tb W))
    (hh : HdsA X (h₀ :: hds) l) : PS X (.Try body (h₀ :: hds) [] [] pos) (fun D σ H => tb (wManyA X.K Wout D l) D σ H) := by
  refine ⟨fun pins s σ H D I h => ?_⟩
  have ok := I.ok
  have hfr : X.A.frames = some (X.env :: X.outer) := by rw [ok.frames, hs]
  refine wpAny_Try_except ?_
  refine wpAny_mono ((hb (wManyA X.K Wout D l) (X.pn ++ pins) (fun e s₁ => wpAny (model X.prog X.w) X.A (noteFrame e X.env) (fun _ s₂ => wpAny (model X.prog X.w) X.A (setFlight e none) (fun _ s₃ =>
    wpAny (model X.prog X.w) X.A (handleBy e X.env (h₀ :: hds)) (SP X pins D) X.xe s₃) X.xe s₂) X.xe s₁) (fun u s' xx => ?_) PassesOwn.looking).run [] s σ H D (I.toTry _) h) (fun f s1 hsp => ?_) (fun e s1 he => he)
  · obtain ⟨a, B, sI, pins', σ', H', cls, d, rfl, J', nb, up, sky, na, os, ag, w⟩ := xx
    have J : Inv X pins σ' H' sI := J'.ofTry ok
    have sky' : Sky B (X.env :: X.outer) a (Zc cls d) X.env.locals s'.heap := by rw [← hs]; exact sky
    show wpAny (model X.prog X.w) X.A (noteFrame (.ref a) X.env) _ _ _
    refine Sky.land Zc.steady hfr hf sky' fun h3 fl3 up3 => ?_
    have J3 : Inv X pins σ' H' { s' with heap := h3 } := J.landed nb fl3.1 (up.trans up3) os ag
    obtain ⟨oe3, vs3, he3, hz3, hd3⟩ := fl3.there
    have notFr : ∀ {h : Heap} {o : Obj} {vs : Array Value}, h.FunFrames B (X.env :: X.outer) → h.get? a = some o → o.data = .fields vs → a ∉ frs (X.env :: X.outer) := fun {h o vs} ff e dd hm => by
      obtain ⟨_, o', e', hnf⟩ := ff.mem hm
      rw [e] at e'; cases e'
      exact hnf _ dd
    have nfr := notFr fl3.2.2.1 he3 hd3
    have nL : a ≠ X.env.locals := fun z => nfr (List.mem_filterMap.mpr ⟨X.env, List.mem_cons_self, by rw [hf, z]⟩)
    have nF : a ∉ X.fs := fun hm => by
      obtain ⟨e, he, q⟩ := List.mem_filterMap.mp hm
      exact nfr (List.mem_filterMap.mpr ⟨e, List.mem_cons_of_mem _ he, q⟩)
    have S3 := J3.suite he3 hd3 na nL nF
    have go : ∀ {hds' : List ExceptHandler} {l' : List (Value × Nat × (Addr → Value → Option Addr → TS))}, HdsA X hds' l' → wManyA X.K Wout D l' cls d σ' H' →
        wpAny (model X.prog X.w) X.A (handleBy (.ref a) X.env hds') (SP X pins D) X.xe { s' with heap := h3 } := by
      intro hds' l' hk
      induction hk with
      | nil =>
        intro w
        refine wpAny_handleBy_nil ?_
        obtain ⟨k1, k2, k3, oe, vs, T, oT, ts', he, hz, hd, h1, hr⟩ := id fl3
        unfold PySem.passOn
        refine wpAny_bind (wpAny_field he hd h1 ?_)
        rw [if_neg (show ¬ ((Value.ref T == Value.none) = true) from by simp)]
        have fin : wpAny (model X.prog X.w) X.A (setFlight (.ref a) X.env.frame) (fun _ s4 => wpAny (model X.prog X.w) X.A (throw (.ref a) : Sem Flow) (SP X pins D) X.xe s4) X.xe { s' with heap := h3 } := by
          rw [hf]
          refine HandSPX.setFlight_upZ fl3 fun h4 hh4 up4 => wpAny_throw (tk _ _ ?_)
          exact ⟨a, B, sI, pins, σ', H', cls, d, rfl, J, nb, (up.trans up3).trans up4, .inr (.inr (by rw [hs]; exact hh4)), na, os, ag, w⟩
        first
          | exact wpAny_bind (wpAny_pure (wpAny_bind fin))
          | exact wpAny_bind fin
      | @cons x n c i ts b₀ suite np pos' hds2 l2 hi hln hc hsu r ih =>
        intro w
        obtain ⟨b, hb1, hyes, hno⟩ := w
        have hloc : Loc X.env.scope n := .inl hln
        refine wpAny_handleBy_cons (codeAny_handlers_test ?_) (by intro q; cases q)
        have LT : PySem.W.Looks (model X.prog X.w) h3 (typeOf (.ref a)) cls := fun A Q E s k q => wpAny_typeOf_ref (k _ _ he3) (by rw [hz3.1]; exact q)
        have LM := PySem.W.exm_one (M := model X.prog X.w) (J3.kIn) LT hb1
        have test : ∀ {Q : Value → Shared → Prop} {E : Value → Shared → Prop}, Q c { s' with heap := h3 } → wpAny (model X.prog X.w) (X.A.mark (some (.ref a))) (eval (.Name x np) X.env) Q E { s' with heap := h3 } := fun {Q E} q => by
          obtain ⟨hg, hdbg, hm | ⟨hm, hv, hnn⟩⟩ := hc
          · exact ld_glob (X := X.suite a ((a, oe3) :: (X.pn ++ pins))) S3 hg hm q hdbg
          · exact ld_blt (X := X.suite a ((a, oe3) :: (X.pn ++ pins))) S3 hg hm hv q hnn hdbg
        refine test (LM.here ?_)
        cases b with
        | true =>
          refine codeAny_handlers_suite_as ?_
          refine HandSPX.lands_againZ fl3 fun h4 fl4 up4 => ?_
          have J4 : Inv X pins σ' H' { s' with heap := h4 } := J.landed nb fl4.1 ((up.trans up3).trans up4) os ag
          obtain ⟨oe4, vs4, he4, hz4, hd4⟩ := fl4.there
          have S4 := J4.suite he4 hd4 na nL nF
          refine store_ok (X := X.suite a ((a, oe4) :: (X.pn ++ pins))) (v := .ref a) S4 hN hi hloc rfl (fun s5 S5 => ?_) (.inr hln)
          refine wpAny_mono ((hsu a oe4 cls d (X.pn ++ pins) hz4 ⟨_, hd4⟩).run [] s5 _ H' _ S5 (hyes rfl a na)) (fun f s6 hsp => ?_) (fun _ _ z => False.elim z)
          have end_ : ∀ {σ6 : St} {H6 : Hp} {Q : Shared → Prop}, Inv (X.suite a ((a, oe4) :: (X.pn ++ pins))) [] σ6 H6 s6 → (∀ s7, Inv X pins (σ6.set i none) H6 s7 → Q s7) →
              wpAny (model X.prog X.w) X.A (do bindName X.env n .none; unbindBehindTheSuite X.env n pos') (fun _ s7 => Q s7) X.xe s6 := fun {σ6 H6 Q} S6 hq => gone_ok (S6.unsuite ok) hN hi hln hq
          cases f with
          | next =>
            obtain ⟨σ6, H6, S6, q6⟩ := hsp
            exact end_ S6 fun s7 J7 => ⟨_, _, J7, q6⟩
          | brk =>
            obtain ⟨σ6, H6, S6, q6⟩ := hsp
            exact end_ S6 fun s7 J7 => ⟨_, _, J7, q6⟩
          | cont =>
            obtain ⟨σ6, H6, S6, q6⟩ := hsp
            exact end_ S6 fun s7 J7 => ⟨_, _, J7, q6⟩
          | ret u =>
            obtain ⟨v6, σ6, H6, S6, r6, q6⟩ := hsp
            exact end_ S6 fun s7 J7 => ⟨_, _, _, J7, r6, q6⟩
        | false =>
          show wpAny _ X.A (handleBy (.ref a) X.env hds2) _ _ _
          exact ih (hno rfl)
    exact go hh w
  · cases f with
    | next =>
      obtain ⟨σ', H', J', q⟩ := hsp
      exact wpAny_execs_nil ⟨σ', H', J'.ofTry ok, q⟩
    | brk =>
      obtain ⟨σ', H', J', q⟩ := hsp
      exact ⟨σ', H', J'.ofTry ok, q⟩
    | cont =>
      obtain ⟨σ', H', J', q⟩ := hsp
      exact ⟨σ', H', J'.ofTry ok, q⟩
    | ret u =>
      obtain ⟨v, σ', H', J', r, q⟩ := hsp
      exact ⟨v, σ', H', J'.ofTry ok, r, q⟩
end
end L2
namespace SY
open PySem PySem.Spec L2
/-- an own exception class with one attribute f -/
structure ExOk (P : Program) (K : PySem.W.Frag) (mg : Str → Option Value) (x : Str) (C : Addr) (f : Str) : Prop where
  ex : ∃ qual params body scope, ExK P K C f qual params body scope ∧ ExF f qual params body scope
  sup : mg "super" = none
  mC : mg x = some (.ref C)
/-- promises of a def that may raise -/
abbrev X0 := List D → (D → Prop) → (Xd → Prop) → Prop
def spX (K : PySem.W.Frag) (S : X0) : Sp := fun vs H Q E => ∃ F ds Qd Xq, Same F H ∧ RL K F ds vs ∧ S ds Qd Xq ∧ (∀ F' H' d v, Le W0 F H F' H' → R K F' d v → Qd d → Q v H') ∧
  ∀ F' H' x dx, Le W0 F H F' H' → XOk K F' H' dx x → Xq x → E (.ref x.C) (some dx) H'
section
variable {X : Cx} {B : Bs} {env : AE} {pos p pos2 : Pos} {e : Expr} {es : List Expr} {n k : Nat} {x f : Str} {Wx : WX} {P : Post} {C : Addr}
theorem s_raise (c : ExOk X.prog X.K X.mg x C f) (ev : Ev X n) (hn : 1 ≤ n) (tk : Takes X Wx) (h : qE X B env e fun d => P.xn env ⟨C, [(f, d)]⟩) (hg : Gl X x := by rfl)
    (hdb : (x == ("__debug__" : Str)) = false := by decide) (he : starEach [e] X.env = (false, eval e X.env) :: starEach [] X.env := by rfl) (hpl : (backTo pos (starEach [] X.env)).any (·.1) = false := by rfl) :
    qS1 X B Wx env (.Raise (some (.Call (.Name x p) [e] [] pos)) none pos2) P := fun σ F H E rp ct => by
  obtain ⟨qual, params, body, scope, T, S⟩ := c.ex
  refine ⟨_, ps_raise ev.calm tk (pmk_exk T S c.sup c.mC (ev.room.mono hn) hg pe_w hdb he hpl), ?_⟩
  refine h σ F H rp _ fun v F1 H1 d l1 rd q dx hdx => ?_
  have rp1 := rp.step l1
  refine ct.xn σ F1 _ env ⟨C, [(f, d)]⟩ dx (rp1.step (Le.own rp1.ok hdx)) ⟨_, upd_same, ?_⟩ q
  rw [RS]
  exact ⟨v, [], rfl, rd, by rw [RS]⟩
/-- a call at once a statement, a return -/
theorem s_exprX {S : X0} (c : FnS X.prog X.w X.K X.mg X.base k x (spX X.K S)) (ev : Ev X n) (hk : k ≤ n) (tk : Takes X Wx) (h : qA X B env (e :: es) fun ds => S ds (fun _ => P.nx env) (P.xn env)) (hg : Gl X x := by rfl)
    (hs : swapsWith (.Call (.Name x p) (e :: es) [] pos) none pos2.line X.env = pure false := by rfl)
    (hdb : (x == ("__debug__" : Str)) = false := by decide) (he : starEach (e :: es) X.env = (false, eval e X.env) :: starEach es X.env := by rfl) (hpl : (backTo pos (starEach es X.env)).any (·.1) = false := by rfl) :
    qS1 X B Wx env (.Expr (.Call (.Name x p) (e :: es) [] pos) pos2) P := fun σ F H E rp ct => by
  obtain ⟨f, fd, ps, F0, hm, kp, b⟩ := c.ex
  refine ⟨_, ps_expr (pe_callX F0 (ev.room.mono hk) hg hm kp b tk pa_w hdb he hpl) hs, ?_⟩
  refine h σ F H rp _ fun vs F1 H1 ds l1 rds q => ?_
  have rp1 := rp.step l1
  exact ⟨F1, ds, _, _, rp1.ok.fh, rds, q, fun F' H' d v l2 rd q => ct.nx σ F' H' env (rp1.step (Le.pure rp1.ok l2)) (l1.ff.trans l2.ff) q, fun F' H' y dx l2 xo q => ct.xn σ F' H' env y dx (rp1.step (Le.pure rp1.ok l2)) xo q⟩
theorem s_retX {S : X0} (c : FnS X.prog X.w X.K X.mg X.base k x (spX X.K S)) (ev : Ev X n) (hk : k ≤ n) (tk : Takes X Wx) (h : qA X B env (e :: es) fun ds => S ds (P.rt env) (P.xn env)) (hg : Gl X x := by rfl)
    (hdb : (x == ("__debug__" : Str)) = false := by decide) (he : starEach (e :: es) X.env = (false, eval e X.env) :: starEach es X.env := by rfl) (hpl : (backTo pos (starEach es X.env)).any (·.1) = false := by rfl) :
    qS1 X B Wx env (.Return (some (.Call (.Name x p) (e :: es) [] pos)) pos2) P := fun σ F H E rp ct => by
  obtain ⟨f, fd, ps, F0, hm, kp, b⟩ := c.ex
  refine ⟨_, ps_ret (pe_callX F0 (ev.room.mono hk) hg hm kp b tk pa_w hdb he hpl), ?_⟩
  refine h σ F H rp _ fun vs F1 H1 ds l1 rds q => ?_
  have rp1 := rp.step l1
  exact ⟨F1, ds, _, _, rp1.ok.fh, rds, q, fun F' H' d v l2 rd q => ct.rt v σ F' H' env d (rp1.step (Le.pure rp1.ok l2)) rd q, fun F' H' y dx l2 xo q => ct.xn σ F' H' env y dx (rp1.step (Le.pure rp1.ok l2)) xo q⟩
end
section
variable {P : Program} {w : World} {K : PySem.W.Frag} {mg : Str → Option Value} {base : Heap} {x qual : Str} {st : Stmt} {N ps : List Str} {k : Nat}
/-- a def that may raise -/
theorem mkFnX {S : X0} (D0 : DefOk K mg x st []) (sc : FnScope N ps (defScope st)) (ar : ∀ ds Q Xq, S ds Q Xq → ds.length = ps.length) (fr : Free mg)
    (hb : ∀ (kV doc pm : Value) (an : Option Addr) (cdv ct : Value) (us : List Value), us.length = ps.length → bindArgs (PySem.W.fnOf x x (defArgs st) (defBody st) (defScope st) .none kV doc pm an cdv ct) ⟨us, []⟩ = pure (ps.zip us))
    (hbody : ∀ (f : Addr) (cdv : Value) (A : Around) (outer : List Env) (s : Shared) (H0 : Hp) (E : XK), Ev (cxOf (L2.CX P w) P w K mg base N x (defScope st) f cdv A outer s H0 E) k → PassesOwn (model P w) (cxOf (L2.CX P w) P w K mg base N x (defScope st) f cdv A outer s H0 E).A (cxOf (L2.CX P w) P w K mg base N x (defScope st) f cdv A outer s H0 E).env (cxOf (L2.CX P w) P w K mg base N x (defScope st) f cdv A outer s H0 E).xe →
      ∀ (Wx : WX), Takes (cxOf (L2.CX P w) P w K mg base N x (defScope st) f cdv A outer s H0 E) Wx → ∀ (ds : List D) (Q : D → Prop) (Xq : Xd → Prop) (F : Hp), S ds Q Xq → qS (cxOf (L2.CX P w) P w K mg base N x (defScope st) f cdv A outer s H0 E) ⟨W0, F, H0⟩ Wx (env0 N.length ds) (defBody st) { nx := fun _ => Q .non, rt := fun _ => Q, xn := fun _ => Xq }) : FnS P w K mg base (k + 1) x (spX K S) := by
  obtain ⟨f, fd, F, hm⟩ := D0
  refine ⟨f, fd, ps, ?_, hm, F.kp, F.bindsN hb⟩
  refine F.ok sc (fun vs H Q E ⟨F1, ds, Qd, Xq, ok, r, h, _⟩ => r.length.trans (ar ds Qd Xq h)) fun cdv A outer s H vs Q E hr ⟨F1, ds, Qd, Xq, ok, r, h, kk, kx⟩ => ?_
  refine ⟨_, pss_w, hbody f cdv A outer s H E ⟨sc.nd, rfl, hr, fr⟩ (passes_of rfl) (fun cls d _ H => E cls d H) (takes_of rfl rfl rfl rfl) ds Qd Xq F1 h _ F1 H _ (rep0 (WOk.w0 ok) r) ⟨fun σ F2 H2 env2 rp _ q => kk F2 H2 .non .non rp.le mkNon q, fun v σ F2 H2 env2 d rp rd q => kk F2 H2 d v rp.le rd q, fun _ _ _ _ _ _ z => False.elim z, fun _ _ _ _ _ _ z => False.elim z, fun σ F2 H2 env2 y dx rp xo q => kx F2 H2 y dx rp.le xo q⟩⟩
end
end SY
set_option Elab.async false
set_option linter.all false
set_option maxRecDepth 100000
set_option maxHeartbeats 4000000
/-! SY24: try with two clauses; e.f and isinstance(e, C) in an except suite. -/
namespace L2
open PySem PySem.Spec PyProof.Rows
/-- isinstance(e, c), e the exception that the suite holds, with a dict -/
def rIsED (K : PySem.W.Frag) (D a dd : Addr) : List V → Hp → VK → Prop := fun xs H Q => ∃ (c : V) (cv : Value) (b : Bool) (fs : List (Str × V)), xs = [.ref a, c] ∧ H dd = some (.xd fs) ∧ (∀ u, RelV c u → u = cv) ∧ PySem.W.kitOne K (.ref D) cv = some b ∧ Q (.bl b) H
theorem call_isED {X : Cx} {a D dd : Addr} {oe : Obj} {pn : List (Addr × Obj)} (C : ExcC X.K D) (hz : Zc (.ref D) (some dd) oe) (hf : ∃ vs, oe.data = .fields vs) : CallR (X.suite a ((a, oe) :: pn)) (.builtin "isinstance") (rIsED X.K D a dd) := by
  intro pins s σ H xs us Q I r h
  obtain ⟨c, cv, b, fs, rfl, hdd, hcv, e, q⟩ := h
  cases r with
  | cons rx rr =>
    cases rr with
    | cons rt rr =>
      cases rr
      cases rx
      have ec := hcv _ rt
      subst ec
      obtain ⟨hget, _⟩ := I.pin (a, oe) (List.mem_append.mpr (.inl List.mem_cons_self))
      obtain ⟨vs, hv⟩ := hf
      obtain ⟨mA, hns, rel⟩ := I.hok dd _ hdd
      obtain ⟨oD, _, _, hoD, _⟩ := hns
      have J : PySem.W.InstAt s.heap a oe D (some oD) := by
        obtain ⟨oc, od, oda, osl⟩ := oe
        obtain ⟨h1, h2⟩ := hz
        dsimp only at h1 h2 hv
        subst h1 h2 hv
        exact ⟨hget, rfl, rfl, hoD⟩
      have hcl : (PySem.W.clsIn X.K D).isSome = true := by
        obtain ⟨cd, hc, _⟩ := PySem.W.any_some C.hd
        rw [hc]
        rfl
      exact PySem.W.kia_one (PySem.W.kitx_exc hcl C.hg C.hk C.hs C.ha C.hn C.ht C.hm) I.kIn J e (fun z => nomatch z) fun tk => ⟨.bl b, H, I.kept (t' := tk) fun _ _ z => z, rfl, q⟩
end L2
namespace SY
open PySem PySem.Spec L2
section
variable {X : Cx} {B : Bs} {env : AE} {pos p p1 : Pos} {o e a b : Expr} {f : Str} {Q : D → Prop} {C aa dd : Addr} {oe : Obj} {pn : List (Addr × Obj)} {d : D} {l : List (Str × D)}
/-- error.f -/
theorem e_xf (T : XfC X.K C) (hno : PySem.W.findIn X.K (.ref C) f = some none) (hz : Zc (.ref C) (some dd) oe) (hf : ∃ vs, oe.data = .fields vs) (hB : B.W = W0) (xo : XOk X.K B.F0 B.H0 dd ⟨C, l⟩) (hl : l.lookup f = some d)
    (h : qE (X.suite aa ((aa, oe) :: pn)) B env o fun y => y = .ref aa ∧ Q d) (hb : attributeBase o f X.env (eval o X.env) = eval o X.env := by rfl) : qE (X.suite aa ((aa, oe) :: pn)) B env (.Attribute o f pos) Q := fun σ F H rp Qv k => by
  refine ⟨_, pe_xf T hno hz hf pe_w hb, ?_⟩
  refine h σ F H rp _ fun v F1 H1 d1 l1 rd ⟨e1, q⟩ => ?_
  subst e1
  obtain ⟨fs, hdd, rs⟩ := xo
  have le := rp.le.trans l1
  obtain ⟨v2, h2, r2⟩ := rs.lookup hl
  refine ⟨rRef rd, rfl, dd, fs, v2, rfl, le.hh dd _ (by rw [hB]; exact fun z => z) hdd, h2, k v2 F1 H1 d l1 (R.mono le.ff _ _ r2) q⟩
/-- isinstance(error, C2) -/
theorem e_isX {c : Str} {C2 : Addr} {t : Bool} (fr : Free X.mg) (T : ExcC X.K C) (hz : Zc (.ref C) (some dd) oe) (hf : ∃ vs, oe.data = .fields vs) (hB : B.W = W0) (xo : XOk X.K B.F0 B.H0 dd ⟨C, l⟩) (hm : X.mg c = some (.ref C2)) (kt : PySem.W.kitOne X.K (.ref C) (.ref C2) = some t)
    (h : qE (X.suite aa ((aa, oe) :: pn)) B env a fun y => y = .ref aa ∧ Q (.bl t)) (hg : Gl X "isinstance" := by rfl) (hgx : Gl X c := by rfl) (hdx : (c == ("__debug__" : Str)) = false := by decide)
    (he : starEach [a, .Name c p1] X.env = (false, eval a X.env) :: starEach [.Name c p1] X.env := by rfl) (he2 : starEach [.Name c p1] X.env = (false, eval (.Name c p1) X.env) :: starEach [] X.env := by rfl)
    (hpl : (backTo pos (starEach [.Name c p1] X.env)).any (·.1) = false := by rfl) : qE (X.suite aa ((aa, oe) :: pn)) B env (.Call (.Name "isinstance" p) [a, .Name c p1] [] pos) Q := fun σ F H rp Qv k => by
  refine ⟨_, pe_callB (call_isED T hz hf) hg fr.isinstance (by decide +kernel) (pa_cons pe_w (pa_cons (pe_glob (v := .ref C2) hgx hm rfl hdx) pa_nil he2) he) (by decide) (by decide) he hpl, ?_⟩
  refine h σ F H rp _ fun v F1 H1 d1 l1 rd ⟨e1, q⟩ => ?_
  subst e1
  obtain ⟨fs, hdd, rs⟩ := xo
  have le := rp.le.trans l1
  exact ⟨.ref C2, .ref C2, t, fs, by rw [rRef rd], le.hh dd _ (by rw [hB]; exact fun z => z) hdd, fun u r => r, kt, k _ F1 H1 _ l1 (mkBl _) q⟩
end
/-- a suite that ends by a return, for the exception x -/
def jHd (X : Cx) (env : AE) (i : Nat) (suite : List Stmt) (x : Xd) (Q : D → Prop) : Prop := ∀ (a : Addr) (oe : Obj) (d : Addr) (pn : List (Addr × Obj)) (F H : Hp), Zc (.ref x.C) (some d) oe → (∃ vs, oe.data = .fields vs) → XOk X.K F H d x →
  zS (X.suite a ((a, oe) :: pn)) F H (env.set i (.sh (.ref a))) F H suite { nx := fun _ _ _ => False, rt := Q }
def tHd (X : Cx) (suite : List Stmt) : Addr → Value → Option Addr → TS := fun a cls d D σ H => ∀ oe pn, Zc cls d oe → (∃ vs, oe.data = .fields vs) → wSs (X.suite a ((a, oe) :: pn)) suite D σ H
section
variable {X : Cx} {B : Bs} {env : AE} {pos : Pos} {n : Nat} {body s1 s2 : List Stmt} {b1 b2 : Stmt} {np1 np2 ps1 ps2 : Pos} {x1 x2 n1 n2 : Str} {Wx : WX} {P : Post}
theorem s_try2 (i1 i2 : Nat) (C1 C2 : Addr) (hB : B.W = W0) (hp : pureE env = true) (ev : Ev X n) (tk : Takes X Wx) (hs : X.stack = X.env :: X.outer) (hf : X.env.frame = some X.env.locals) (hm1 : X.mg x1 = some (.ref C1)) (hm2 : X.mg x2 = some (.ref C2))
    (hb : ∀ (W : WX) (pn : List (Addr × Obj)) (xe : Value → Shared → Prop), Takes (X.tr pn xe) W → Ev (X.tr pn xe) n → qS (X.tr pn xe) B W env body { P with rt := fun _ d => P.rt env d, xn := fun env' x => env' = env ∧
      ((PySem.W.exmOne X.K (.ref x.C) (.ref C1) = some true ∧ jHd X env i1 (b1 :: s1) x (P.rt env)) ∨ (PySem.W.exmOne X.K (.ref x.C) (.ref C1) = some false ∧ PySem.W.exmOne X.K (.ref x.C) (.ref C2) = some true ∧ jHd X env i2 (b2 :: s2) x (P.rt env))) })
    (hi1 : X.N[i1]? = some n1 := by rfl) (hi2 : X.N[i2]? = some n2 := by rfl) (hl1 : X.env.kindOf n1 = some .local := by rfl) (hl2 : X.env.kindOf n2 = some .local := by rfl) (hg1 : Gl X x1 := by rfl) (hg2 : Gl X x2 := by rfl) (hd1 : (x1 == ("__debug__" : Str)) = false := by decide) (hd2 : (x2 == ("__debug__" : Str)) = false := by decide)
    (hpr : ∀ e e' d, P.rt e d → P.rt e' d := by exact fun _ _ _ h => h) :
    qS1 X B Wx env (.Try body [.ExceptHandler (some (.Name x1 np1)) (some n1) (b1 :: s1) ps1, .ExceptHandler (some (.Name x2 np2)) (some n2) (b2 :: s2) ps2] [] [] pos) P := fun σ F H E rp ct => by
  refine ⟨_, ps_try_manyA (l := [(.ref C1, i1, tHd X (b1 :: s1)), (.ref C2, i2, tHd X (b2 :: s2))]) (tb := fun W D σ H => ∀ pn xe, Takes (X.tr pn xe) W → PassesOwn (model X.prog X.w) X.A X.env xe → wSs (X.tr pn xe) body D σ H) hs hf ev.nd tk
    (fun W pn xe t1 t2 => ⟨fun pins s σ H D I h => pss_w.run pins s σ H D I (h pn xe t1 t2)⟩)
    (.cons hi1 hl1 ⟨hg1, hd1, .inl hm1⟩ (fun a oe cls d pn z f => ⟨fun pins s σ H D I h => pss_w.run pins s σ H D I (h oe pn z f)⟩) (.cons hi2 hl2 ⟨hg2, hd2, .inl hm2⟩ (fun a oe cls d pn z f => ⟨fun pins s σ H D I h => pss_w.run pins s σ H D I (h oe pn z f)⟩) .nil)), ?_⟩
  intro pn xe t1 t2
  refine hb _ pn xe t1 ⟨ev.nd, ev.calm, ev.room, ev.free⟩ σ F H E rp ⟨ct.nx, fun v σ F H env' d rp rd q => ct.rt v σ F H env' d rp rd (hpr _ _ _ q), ct.bk, ct.ct, fun σ1 F1 H1 env1 x dx rp1 xo q => ?_⟩
  obtain ⟨rfl, q⟩ := q
  have go : ∀ {i : Nat} {suite : List Stmt} {a : Addr} {oe : Obj} {pn : List (Addr × Obj)} {nx' bk' ct' : St → Hp → Prop}, jHd X env1 i suite x (P.rt env1) → Zc (.ref x.C) (some dx) oe → (∃ vs, oe.data = .fields vs) →
      wSs (X.suite a ((a, oe) :: pn)) suite { nx := nx', rt := E.rt, bk := bk', ct := ct' } (σ1.set i (some (.ref a))) H1 := fun {i suite a oe pn nx' bk' ct'} j z f => by
    have ok : WOk W0 F1 H1 := WOk.w0 rp1.ok.fh
    have rp2 : Rep X.K ⟨W0, F1, H1⟩ F1 H1 σ1 env1 := rp1.re hp (Le.refl ok)
    refine j a oe dx pn F1 H1 z f xo _ _ (Le.refl ok) (rp2.set (mkRef a)) ⟨fun _ _ _ _ _ _ _ _ z => False.elim z, fun v F2 H2 d le rd q => ?_⟩
    refine ct.rt v σ1 F2 H2 env1 d (rp1.step ?_) rd q
    rw [hB]
    exact le
  rcases q with ⟨e1, j⟩ | ⟨e1, e2, j⟩
  · exact ⟨true, e1, fun _ a ha oe pn z f => go j z f, fun z => Bool.noConfusion z⟩
  · exact ⟨false, e1, fun z => Bool.noConfusion z, fun _ => ⟨true, e2, fun _ a ha oe pn z f => go j z f, fun z => Bool.noConfusion z⟩⟩
end
end SY
set_option Elab.async false
set_option linter.all false
set_option maxRecDepth 100000
set_option maxHeartbeats 4000000
/-! SY25: an instance called, its class having its own __call__. -/
namespace L2
open PySem PySem.Spec PyProof.Rows PySem.Calls
section
variable {M : Model} {A : Around} {E : Value → Shared → Prop} {s : Shared} {env : Env} {pos : Pos} {x : Addr} {first : List Value} {Q : Value → Shared → Prop}
theorem callWith_inst0 {args : List (Bool × Sem Value)} {keywords : List (Option Str × Sem Value)} (hplain : (args.any (·.1) || keywords.any (·.1.isNone)) = false)
    (h : wpAny M A (evalArgs (.ref x) true args keywords) (fun a s₁ => (∃ C ox od, PySem.W.InstAt s₁.heap x ox C od ∧ ox.data = .plain) ∧ wpAny M A (call (.ref x) (first ++ a.pos) a.kw) Q E s₁) E s) : wpAny M A (callWith pos (.ref x) first args keywords) Q E s := by
  unfold callWith
  refine wpAny_bind (wpAny_holding (wpAny_mono h (fun a s₁ h₁ => wpAny_bind (wpAny_standAt ?_)) fun _ _ y => y))
  obtain ⟨⟨C, ox, od, I, hd⟩, h₁⟩ := h₁
  have L := PySem.W.kco_keeper (M := M) I hd
  simp only [hplain]
  refine wpAny_bind (L.here ?_)
  have tail : ∀ {t : Sem Value}, wpAny M A t Q E s₁ → wpAny M A (t >>= fun r => holding [r] point >>= fun _ => pure r) Q E s₁ :=
    fun ht => wpAny_bind (wpAny_mono ht (fun r s₂ hr => wpAny_bind (wpAny_holding (wpAny_point (wpAny_pure hr)))) fun _ _ y => y)
  exact tail (wpAny_operateT h₁)
theorem callWith_inst {e : Expr} {rest : List Expr} (h : wpAny M A (spliced (backTo pos (starEach (e :: rest) env))) (fun vs s₁ => (∃ C ox od, PySem.W.InstAt s₁.heap x ox C od ∧ ox.data = .plain) ∧ wpAny M A (call (.ref x) (first ++ vs)) Q E s₁) E s)
    (he : starEach (e :: rest) env = (false, eval e env) :: starEach rest env := by rfl) (hplain : (backTo pos (starEach rest env)).any (·.1) = false := by rfl) :
    wpAny M A (callWith pos (.ref x) first (backTo pos (starEach (e :: rest) env)) []) Q E s := by
  rw [he] at h ⊢
  exact callWith_inst0 (by show ((false || (backTo pos (starEach rest env)).any (·.1)) || false) = false; rw [hplain]; rfl) (evalArgs_plain h)
end
section
variable {X : Cx} {k : Nat} {f C : Addr} {fd : FuncData} {ps : List Str} {sp : Sp} {E : XK} {x : Str} {p pos : Pos} {e : Expr} {es : List Expr} {tf : TE} {t : TA}
/-- x(e, ..), x an instance -/
theorem pe_callI (F : FnOk X.prog X.w X.K X.mg X.base (L2.CX X.prog X.w) k f fd ps sp) (hr : Room k X.A) (hs : PySem.W.findIn X.K (.ref C) "__call__" = some (some (.ref f))) (hf : PySem.W.isFn X.K (.ref f) = true) (hfn : PySem.W.fnIn X.K f = true) (hb : Binds X.K fd ps [])
    (hx : Passes (L2.CX X.prog X.w) X E) (he0 : PE X (.Name x p) tf) (ha : PA X (e :: es) t) (he : starEach (e :: es) X.env = (false, eval e X.env) :: starEach es X.env := by rfl) (hpl : (backTo pos (starEach es X.env)).any (·.1) = false := by rfl) :
    PE X (.Call (.Name x p) (e :: es) [] pos) (fun σ H Q => tf σ H fun v H1 => ∃ a, v = .ref a ∧ t σ H1 fun vs H2 => ∃ dx fs, H2 a = some (.ins C dx fs) ∧ sp (.ref a :: vs) H2 Q E) := by
  refine ⟨fun pins s σ H Q I h => ?_⟩
  refine wpAny_Call_Name_kw (thn (he0.run pins s σ H _ I h) fun u s1 ⟨v, H1, I1, r1, a, ev, q1⟩ => ?_)
  subst ev
  obtain rfl : u = Value.ref a := r1
  refine callWith_inst (thn (ha.run pos pins s1 σ H1 _ I1 q1) fun us s2 ⟨vs, H2, I2, r2, dx, fs, ha', q⟩ => ?_) he hpl
  obtain ⟨mA, J, _⟩ := ins_get I2.hok ha'
  obtain ⟨od, J, _⟩ := J.look
  refine ⟨⟨C, _, _, J, rfl⟩, ?_⟩
  refine wpAny_call (PySem.W.kco_code I2.kIn J rfl hs hf hfn ?_)
  have r3 : Vals (V.ref a :: vs) (Value.ref a :: us) := .cons rfl r2
  have b := hb s2 (.ref a :: us) I2.kIn (by rw [List.append_nil, ← r3.length]; exact F.len _ _ _ _ q)
  rw [List.append_nil] at b
  refine codeAny_mono (F.run X.A X.stack s2 H2 ⟨Value.ref a :: us, []⟩ (Value.ref a :: us) (V.ref a :: vs) _ E hr I2.env0 b r3 q) fun r s' hq => ?_
  cases r with
  | error e => exact hx pins σ H2 s2 e s' I2 hq
  | ok fl =>
    cases fl with
    | ret u => exact I2.after hq
    | next => exact False.elim hq
    | brk => exact False.elim hq
    | cont => exact False.elim hq
end
end L2
namespace SY
open PySem PySem.Spec L2
structure CallOk (P : Program) (w : World) (K : PySem.W.Frag) (mg : Str → Option Value) (base : Heap) (k : Nat) (C : Addr) (S : S0) : Prop where
  ex : ∃ (f : Addr) (fd : FuncData) (ps : List Str), FnOk P w K mg base (L2.CX P w) k f fd ps (spP K S) ∧ PySem.W.findIn K (.ref C) "__call__" = some (some (.ref f)) ∧ PySem.W.isFn K (.ref f) = true ∧ PySem.W.fnIn K f = true ∧ Binds K fd ps []
def CallDef (K : PySem.W.Frag) (qual : Str) (st : Stmt) (C : Addr) : Prop := ∃ f fd, PySem.W.findIn K (.ref C) "__call__" = some (some (.ref f)) ∧ PySem.W.isFn K (.ref f) = true ∧ FunD K "__call__" qual (defArgs st) (defBody st) (defScope st) [] [] f fd
section
variable {X : Cx} {B : Bs} {env : AE} {pos p : Pos} {e : Expr} {es : List Expr} {n k : Nat} {Q : D → Prop} {C : Addr} {x : Str}
theorem e_callI {S : S0} {l : List (Str × D)} (i : Nat) (c : CallOk X.prog X.w X.K X.mg X.base k C S) (ev : Ev X n) (hk : k ≤ n) (he : env[i]? = some (.sh (.ins C l))) (h : qA X B env (e :: es) fun ds => S (.ins C l :: ds) Q) (hN : X.N[i]? = some x := by rfl) (hv : Vis X.env.scope x := by first | exact Or.inl rfl | exact Or.inr (Or.inl rfl) | exact Or.inr (Or.inr rfl))
    (hd : (x == ("__debug__" : Str)) = false := by decide) (hcd : (x == ("__classdict__" : Str)) = false := by decide) (hst : starEach (e :: es) X.env = (false, eval e X.env) :: starEach es X.env := by rfl) (hpl : (backTo pos (starEach es X.env)).any (·.1) = false := by rfl) : qE X B env (.Call (.Name x p) (e :: es) [] pos) Q := fun σ F H rp Qv kk => by
  obtain ⟨f, fd, ps, F0, hs, hf, hfn, hb⟩ := c.ex
  refine ⟨_, pe_callI F0 (ev.room.mono hk) hs hf hfn hb passL pe_w pa_w hst hpl, ?_⟩
  refine e_var (Q := fun d => d = .ins C l) i he rfl hN hv hd hcd σ F H rp _ fun v F1 H1 d l1 rd hd => ?_
  subst hd
  obtain ⟨a, dx, xs, rfl, h1, h2⟩ := rIns rd
  refine ⟨a, rfl, ?_⟩
  refine h σ F1 H1 (rp.step l1) _ fun vs F2 H2 ds l2 rds q => ?_
  have k2 := ((rp.step l1).step l2).ok
  have rd2 := R.mono l2.ff _ _ rd
  refine ⟨dx, xs, k2.fh _ _ (l2.ff _ _ h1), (), F2, _, _, WOk.w0 k2.fh, RL.cons rd2 rds, q, fun F' H' d v l3 rd3 q3 => kk v F' H' d (l1.trans (l2.trans (Le.pure k2 l3))) rd3 q3⟩
end
section
variable {P : Program} {w : World} {K : PySem.W.Frag} {mg : Str → Option Value} {base : Heap} {qual : Str} {N ps : List Str} {k : Nat} {C : Addr} {st : Stmt}
theorem mkCall {S : S0} (D0 : CallDef K qual st C) (sc : FnScope N ps (defScope st)) (ar : Ar (fun _ : Unit => S) ps.length) (fr : Free mg)
    (hb : ∀ (kV doc pm : Value) (an : Option Addr) (cdv ct : Value) (us : List Value), us.length = ps.length → bindArgs (PySem.W.fnOf "__call__" qual (defArgs st) (defBody st) (defScope st) .none kV doc pm an cdv ct) ⟨us, []⟩ = pure (ps.zip us))
    (hbody : ∀ (f : Addr) (cdv : Value) (A : Around) (outer : List Env) (s : Shared) (H0 : Hp) (E : XK), Ev (cxOf (L2.CX P w) P w K mg base N qual (defScope st) f cdv A outer s H0 E) k → PassesOwn (model P w) (cxOf (L2.CX P w) P w K mg base N qual (defScope st) f cdv A outer s H0 E).A (cxOf (L2.CX P w) P w K mg base N qual (defScope st) f cdv A outer s H0 E).env (cxOf (L2.CX P w) P w K mg base N qual (defScope st) f cdv A outer s H0 E).xe →
      ∀ (ds : List D) (Q : D → Prop) (F : Hp), S ds Q → qS (cxOf (L2.CX P w) P w K mg base N qual (defScope st) f cdv A outer s H0 E) ⟨W0, F, H0⟩ noX (env0 N.length ds) (defBody st) { nx := fun _ => Q .non, rt := fun _ => Q }) : CallOk P w K mg base (k + 1) C S := by
  obtain ⟨f, fd, h1, h2, F⟩ := D0
  refine ⟨⟨f, fd, ps, fnOk_W F sc ar fr (fun cdv A outer s H0 E ev hp _ => hbody f cdv A outer s H0 E ev hp), h1, h2, ?_, F.bindsN hb⟩⟩
  obtain ⟨oc, od, dV, kV, doc, pm, an, cdv, ct, osl, rfl, lk, _⟩ := F.ex
  unfold PySem.W.fnIn
  rw [lk]
end
end SY
set_option Elab.async false
set_option linter.all false
set_option maxRecDepth 100000
set_option maxHeartbeats 4000000
/-! SY26: at a point: lists of new lists, shared for a while and let go of again; x.reverse(). -/
namespace SY
open PySem PySem.Spec L2
/-- these are shared from here on -/
def shF (F H : Hp) (as : List Addr) : Hp := fun a => if a ∈ as then H a else F a
/-- these are not shared any more -/
def unF (F : Hp) (as : List Addr) : Hp := fun a => if a ∈ as then none else F a
theorem shF_in {F H : Hp} {as : List Addr} {a : Addr} (h : a ∈ as) : shF F H as a = H a := if_pos h
theorem shF_out {F H : Hp} {as : List Addr} {a : Addr} (h : a ∉ as) : shF F H as a = F a := if_neg h
theorem unF_in {F : Hp} {as : List Addr} {a : Addr} (h : a ∈ as) : unF F as a = none := if_pos h
theorem unF_out {F : Hp} {as : List Addr} {a : Addr} (h : a ∉ as) : unF F as a = F a := if_neg h
theorem shF_same {F H : Hp} {as : List Addr} (s : Same F H) : Same F (shF F H as) := fun a o e => by
  by_cases h : a ∈ as
  · rw [shF_in h]; exact s a o e
  · rw [shF_out h]; exact e
theorem shF_le {F0 H0 F H : Hp} {as : List Addr} (l : Le W0 F0 H0 F H) (h0 : ∀ a ∈ as, H0 a = none) : Le W0 F0 H0 (shF F H as) H := by
  refine ⟨WOk.w0 fun a o e => ?_, fun a o e => shF_same l.ok.fh a o (l.ff a o e), l.hh, fun a f h => ?_⟩
  · by_cases q : a ∈ as
    · rw [shF_in q] at e; exact e
    · rw [shF_out q] at e; exact l.ok.fh a o e
  · by_cases q : a ∈ as
    · exact absurd (h0 a q) h
    · rw [shF_out q]; exact l.un a f h
theorem unF_le {F0 H0 F H : Hp} {as : List Addr} (l : Le W0 F0 H0 F H) (f0 : ∀ a ∈ as, F0 a = none) : Le W0 F0 H0 (unF F as) H := by
  refine ⟨WOk.w0 fun a o e => ?_, fun a o e => ?_, l.hh, fun a f h => ?_⟩
  · by_cases q : a ∈ as
    · rw [unF_in q] at e; cases e
    · rw [unF_out q] at e; exact l.ok.fh a o e
  · by_cases q : a ∈ as
    · rw [f0 a q] at e; cases e
    · rw [unF_out q]; exact l.ff a o e
  · by_cases q : a ∈ as
    · exact unF_in q
    · rw [unF_out q]; exact l.un a f h
mutual
/-- no list, no dict within -/
def noLst : D → Bool
  | .lst _ => false
  | .dic _ => false
  | .tup l => noLsts l
  | .ins _ l => noLstF l
  | _ => true
def noLsts : List D → Bool
  | [] => true
  | d :: ds => noLst d && noLsts ds
def noLstF : List (Str × D) → Bool
  | [] => true
  | (_, d) :: ds => noLst d && noLstF ds
end
section
variable {K : PySem.W.Frag} {F F' : Hp}
mutual
theorem R.nolist (e : ∀ a o, F a = some o → (∀ xs, o ≠ .lst xs) → F' a = some o) : ∀ (d : D) (v : V), noLst d = true → R K F d v → R K F' d v
  | .non, _, _, h => h
  | .bl _, _, _, h => h
  | .int _, _, _, h => h
  | .str _, _, _, h => h
  | .ref _, _, _, h => h
  | .lst l, _, n, _ => by rw [noLst] at n; cases n
  | .tup l, v, n, h => by
    rw [noLst] at n
    rw [R] at h ⊢
    obtain ⟨a, xs, h1, h2, h3⟩ := h
    refine ⟨a, xs, h1, ?_, RL.nolist e l xs n h3⟩
    rcases h2 with (h | ⟨o, h⟩) | h
    · exact .inl (.inl (e _ _ h fun _ z => nomatch z))
    · exact .inl (.inr ⟨o, e _ _ h fun _ z => nomatch z⟩)
    · exact .inr h
  | .dic l, _, n, _ => by rw [noLst] at n; cases n
  | .ins C l, v, n, h => by
    rw [noLst] at n
    rw [R] at h ⊢
    obtain ⟨a, dx, xs, h1, h2, h3⟩ := h
    exact ⟨a, dx, xs, h1, e _ _ h2 (fun _ z => nomatch z), RS.nolist e l xs n h3⟩
theorem RL.nolist (e : ∀ a o, F a = some o → (∀ xs, o ≠ .lst xs) → F' a = some o) : ∀ (d : List D) (v : List V), noLsts d = true → RL K F d v → RL K F' d v
  | [], _, _, h => h
  | d :: ds, v, n, h => by
    rw [noLsts, Bool.and_eq_true] at n
    rw [RL] at h ⊢
    obtain ⟨x, xs, h1, h2, h3⟩ := h
    exact ⟨x, xs, h1, R.nolist e d x n.1 h2, RL.nolist e ds xs n.2 h3⟩
theorem RS.nolist (e : ∀ a o, F a = some o → (∀ xs, o ≠ .lst xs) → F' a = some o) : ∀ (d : List (Str × D)) (v : List (Str × V)), noLstF d = true → RS K F d v → RS K F' d v
  | [], _, _, h => h
  | (k, d) :: ds, v, n, h => by
    rw [noLstF, Bool.and_eq_true] at n
    rw [RS] at h ⊢
    obtain ⟨x, xs, h1, h2, h3⟩ := h
    exact ⟨x, xs, h1, R.nolist e d x n.1 h2, RS.nolist e ds xs n.2 h3⟩
end
theorem RL.refs : ∀ l : List Addr, RL K F (l.map SY.D.ref) (l.map V.ref)
  | [] => RL.nil
  | a :: l => RL.cons (mkRef a) (RL.refs l)
end
section
variable {X : Cx} {B : Bs} {env : AE} {F0 H0 F H : Hp} {pos p tpos : Pos} {tg e a b o : Expr} {Wx : WX} {P : ZP} {n : Nat} {Q : D → Prop}
/-- the rest ends by a return -/
theorem z_end {sts : List Stmt} (h : zS X F0 H0 env F H sts { P with nx := fun _ _ _ => False }) : zS X F0 H0 env F H sts P := fun σ E l rp c =>
  h σ E l rp ⟨fun _ _ _ _ _ _ _ _ z => False.elim z, c.rt⟩
/-- another look at the same point -/
theorem z_re {sts : List Stmt} {F1 : Hp} {env1 : AE} (l1 : Le W0 F0 H0 F H → Le W0 F0 H0 F1 H) (hp1 : pureE env1 = true) (hl : env1.length = env.length)
    (hs : ∀ σ, Rep X.K ⟨W0, F, H⟩ F H σ env → ∀ i v, env1[i]? = some v → SlotOk X.K ⟨W0, F1, H⟩ F1 H σ i v) (hn : ∀ e F H, ¬ P.nx e F H) (h : zS X F0 H0 env1 F1 H sts P) : zS X F0 H0 env F H sts P := fun σ E l rp c =>
  h σ E (l1 l) ⟨Le.refl (l1 l).ok, hl.trans rp.len, hs σ rp, fun i j p oi _ _ _ => absurd oi (pureE_noOwn hp1)⟩ ⟨fun _ F2 H2 env2 _ _ _ _ z => False.elim (hn env2 F2 H2 z), c.rt⟩
/-- x = e, e a new list -/
theorem z_ownL (i : Nat) {x : Str} {pos' : Pos} {Ql : List D → Prop} (ev : Ev X n) (h : qO X ⟨W0, F, H⟩ env e Ql) (k : ∀ q xs F' H' l, Le W0 F H F' H' → H q = none → F' q = none → H' q = some (.lst xs) → RL X.K F' l xs → Ql l → P.nx (env.set i (.sh (.ref q))) F' H') (hp : pureE env = true := by rfl) (hi : X.N[i]? = some x := by rfl) (hx : Loc X.env.scope x := by first | exact Or.inl rfl | exact Or.inr rfl)
    (hs : swapsWith e (some (.Name x pos')) pos.line X.env = pure false := by rfl) (hf : X.fn x = true ∨ X.env.scope.names.lookup x = some .local := by first | exact .inl rfl | exact .inr rfl) : zS1 X F0 H0 env F H (.Assign [.Name x pos'] e pos) P := fun σ E l rp c =>
  ⟨_, ps_set ev.nd hi hx pe_w hs hf, h σ F H rp _ fun q xs F1 H1 ds l1 hq hF hH rl hq2 => c.at (l.trans l1) l1.ff (pureE_set hp rfl) ((rp.step l1).set (mkRef q)) (k q xs F1 H1 ds l1 hq hF hH rl hq2)⟩
/-- x = [e for ..], e a new list each: all by their addresses -/
theorem z_rowsO (i : Nat) {x : Str} {pos' spos : Pos} {elt iter : Expr} {scope : Scope} {own : List (Str × Nat)} (is : List Nat) (ev : Ev X n) (ok : blkC X.N X.env.scope scope own = true) (his : ∀ i ∈ is, i ∈ own.map (·.2)) (hp : pureE env = true)
    (h : qI X ⟨W0, F, H⟩ env tg iter fun items => items.length ≤ 1000 ∧ ∃ out : List (List D), out.length = items.length ∧
      (∀ (i : Nat) d l, items[i]? = some d → out[i]? = some l → ∀ (s : Shared) (H1 : Hp) (C : Addr) (cl : List (Str × Addr)) (fp : List Addr), qG (X.blk s H1 scope (compEnvC scope cl C X.env) fp) ⟨W0, F, H⟩ (wipeE env (own.map (·.2))) tg is d fun env2 =>
        ∀ (s : Shared) (H1 : Hp) (C : Addr) (cl : List (Str × Addr)) (fp : List Addr), qO (X.blk s H1 scope (compEnvC scope cl C X.env) fp) ⟨W0, F, H⟩ env2 elt fun l' => l' = l) ∧
      ∀ F' H' (D : Addr) (ps : List Addr), Le W0 F H F' H' → H D = none → F' D = none → H' D = some (.lst (ps.map V.ref)) → ps.length = items.length → ps.Nodup →
        (∀ (j : Nat) p, ps[j]? = some p → p ≠ D ∧ H p = none ∧ F' p = none ∧ ∃ l xs, out[j]? = some l ∧ H' p = some (.lst xs) ∧ RL X.K F' l xs) → P.nx (env.set i (.sh (.ref D))) F' H') (hi : X.N[i]? = some x := by rfl) (hyl : X.env.scope.names.lookup x = some .local := by rfl)
    (hsw : swapsWith (.ListComp elt [⟨tg, iter, [], 0⟩] scope pos) (some (.Name x pos')) spos.line X.env = pure true := by exact sw_true rfl rfl rfl rfl)
    (hs : ∀ x, foldedSetIterable iter X.env x = pure x := by intro _; rfl) : zS1 X F0 H0 env F H (.Assign [.Name x pos'] (.ListComp elt [⟨tg, iter, [], 0⟩] scope pos) spos) P := fun σ E l0 rp c => by
  refine ⟨_, ps_setLc ev.calm ev.nd hi hyl hsw pi_w (blkOk_by ok) bG_ok bTs_ok bE_ok hs, ?_⟩
  generalize own.map (·.2) = vs at *
  refine h σ F H rp _ fun J F1 H1 items l1 itok q D hD => ?_
  obtain ⟨hlen, out, hout, hge, kk⟩ := q
  have k0 := rp.ok
  have k1 := l1.ok
  have hD0 : H D = none := l1.free hD
  refine ⟨fun i m H' => m = items.length - i ∧ i ≤ items.length ∧ ∃ (F' : Hp) (ps : List Addr), Le W0 F H F' H' ∧ Same F1 F' ∧ F' D = none ∧ H' D = some (.lst (ps.map V.ref)) ∧ ps.length = i ∧ ps.Nodup ∧ ∀ (j : Nat) p, ps[j]? = some p → p ≠ D ∧ H p = none ∧ F' p = none ∧ ∃ l xs, out[j]? = some l ∧ H' p = some (.lst xs) ∧ RL X.K F' l xs,
    ⟨items.length, by simp, Nat.zero_le _, F1, [], l1.trans (Le.own k1 hD), Same.refl _, k1.fh.free hD, upd_same, rfl, List.nodup_nil, fun _ _ z => by cases z⟩, ?_⟩
  rintro i m H2 ⟨rfl, hi, F2, ps, l2, s2, f2, h2, hpl, hnd, hps⟩
  by_cases hlt : i < items.length
  · obtain ⟨d, hd⟩ : ∃ d, items[i]? = some d := ⟨_, List.getElem?_eq_getElem hlt⟩
    obtain ⟨lo, hlo⟩ : ∃ l, out[i]? = some l := ⟨_, List.getElem?_eq_getElem (by omega)⟩
    obtain ⟨go, yl⟩ := itok.turn i d hd F2 H2 s2 l2.ok
    refine .inr ⟨go, fun H' => ∃ (F' : Hp) (ps : List Addr), Le W0 F H F' H' ∧ Same F1 F' ∧ F' D = none ∧ H' D = some (.lst (ps.map V.ref)) ∧ ps.length = i + 1 ∧ ps.Nodup ∧ ∀ (j : Nat) p, ps[j]? = some p → p ≠ D ∧ H p = none ∧ F' p = none ∧ ∃ l xs, out[j]? = some l ∧ H' p = some (.lst xs) ∧ RL X.K F' l xs, fun H' hq => ⟨items.length - (i + 1), by omega, rfl, hlt, hq⟩, fun x H3 hy => ?_⟩
    obtain ⟨F3, l3, rx⟩ := yl x H3 hy
    intro s Hb C cl fp
    refine hge i d lo hd hlo s Hb C cl fp (L2.wipe σ vs) F3 H3 x ((rp.step (l2.trans l3)).wipe _) rx _ ?_
    intro σ' env' rep' hw he
    refine ⟨?_, ?_⟩
    · rw [hw _ his]
      exact wipe_wipe
    · intro s Hb C cl fp
      refine ts_nil (X := X.blk s Hb scope (compEnvC scope cl C X.env) fp) (Q := fun b => b = true) rfl σ' F3 H3 rep' _ fun b F4 H4 l4 hq => ?_
      subst hq
      refine iteT ?_
      intro s Hb C cl fp
      refine he s Hb C cl fp σ' F4 H4 (rep'.step l4) _ fun p xs F5 H5 l l5 hp5 hF5 hH5 rl5 hl => ?_
      subst hl
      have l35 := (l3.trans l4).trans l5
      have d5 : H5 D = some (.lst (ps.map V.ref)) := l35.hh D _ (fun z => z) h2
      have f5 : F5 D = none := l35.un D f2 (by rw [h2]; exact fun z => nomatch z)
      have d4 : H4 D = some (.lst (ps.map V.ref)) := (l3.trans l4).hh D _ (fun z => z) h2
      have pD : p ≠ D := fun z => by rw [z, d4] at hp5; cases hp5
      have hpH : H p = none := ((l2.trans l3).trans l4).free hp5
      refine ⟨_, d5, by rw [List.length_map]; exact small_lt (by omega), F5, ps ++ [p], Le.putW0 (l2.trans l35) hD0 f5, (s2.trans l35.ff), f5, by rw [upd_same, List.map_append]; rfl, by rw [List.length_append, hpl]; rfl, ?_, fun j p2 hp2 => ?_⟩
      · rw [List.nodup_append]
        refine ⟨hnd, by simp, fun a ha b hb => ?_⟩
        rw [List.mem_singleton] at hb
        subst hb
        intro z
        subst z
        obtain ⟨j, hj⟩ := List.mem_iff_getElem?.mp ha
        obtain ⟨_, _, _, _, _, _, this, _⟩ := hps j a hj
        have h4 := (l3.trans l4).hh a _ (fun z => z) this
        rw [hp5] at h4
        cases h4
      · by_cases hj : j < ps.length
        · rw [List.getElem?_append_left hj] at hp2
          obtain ⟨g1, g2, g3, l, ys, g4, g5, g6⟩ := hps j p2 hp2
          refine ⟨g1, g2, l35.un p2 g3 (by rw [g5]; exact fun z => nomatch z), l, ys, g4, ?_, RL.mono l35.ff _ _ g6⟩
          rw [upd_ne g1]
          exact l35.hh p2 _ (fun z => z) g5
        · rw [List.getElem?_append_right (by omega)] at hp2
          have hj0 : j - ps.length = 0 := by
            have := (List.getElem?_eq_some_iff.mp hp2).1
            simp at this
            omega
          rw [hj0] at hp2
          cases hp2
          have : j = i := by omega
          subst this
          exact ⟨pD, hpH, hF5, _, xs, hlo, by rw [upd_ne pD]; exact hH5, rl5⟩
  · have e : i = items.length := by omega
    subst e
    refine .inl ⟨itok.stop F2 H2 s2 l2.ok, ?_⟩
    exact c.at (l0.trans l2) l2.ff (pureE_set hp rfl) ((rp.step l2).set (mkRef D)) (kk F2 H2 D ps l2 hD0 f2 h2 hpl hnd hps)
/-- x.reverse(), x a list of one's own -/
theorem z_rev (i : Nat) {x : Str} {q : Addr} {xs : List V} {apos : Pos} (he : env[i]? = some (.sh (.ref q))) (hq : H q = some (.lst xs)) (h0 : H0 q = none) (hF : F q = none) (h : P.nx env F (upd H q (.lst xs.reverse))) (hp : pureE env = true := by rfl) (hi : X.N[i]? = some x := by rfl) (hv : Vis X.env.scope x := by first | exact Or.inl rfl | exact Or.inr (Or.inl rfl) | exact Or.inr (Or.inr rfl))
    (hs : swapsWith (.Call (.Attribute (.Name x p) "reverse" apos) [] [] tpos) none pos.line X.env = pure false := by rfl) (hd : (x == ("__debug__" : Str)) = false := by decide) (hcd : (x == ("__classdict__" : Str)) = false := by decide)
    (hbase : attributeBase (.Name x p) "reverse" X.env (eval (.Name x p) X.env) = eval (.Name x p) X.env := by rfl) (hline : (apos.endLine == tpos.line) = true := by rfl) :
    zS1 X F0 H0 env F H (.Expr (.Call (.Attribute (.Name x p) "reverse" apos) [] [] tpos) pos) P := fun σ E l rp c => by
  refine ⟨_, ps_expr (pe_bm0 PySem.F.plainAttrs_list PySem.F.slot_list_reverse PySem.F.type_list_reverse mt_reverse (pe_var hi hv hd hcd) hbase hline) hs, ?_⟩
  obtain ⟨y, h1, h2⟩ := rp.sl i _ he
  rw [rRef h2] at h1
  have lw := Le.putW0 (o := .lst xs.reverse) l h0 hF
  refine ⟨_, h1, .inl ⟨rfl, _, SqL.of hq⟩, q, xs, rfl, rfl, hq, c.nx σ F _ env lw (Same.refl _) hp ⟨Le.refl lw.ok, rp.len, fun i u ee => ?_, rp.ap⟩ h⟩
  have := rp.sl i u ee
  rcases pureE_get hp ee with z | ⟨d, z⟩ <;> subst z
  · trivial
  · exact this
end
end SY
set_option Elab.async false
set_option linter.all false
set_option maxRecDepth 100000
set_option maxHeartbeats 4000000
/-! SY27: statements joined. -/
namespace SY
open PySem PySem.Spec L2
section
variable {X : Cx} {B : Bs} {env : AE} {Wx : WX} {P : Post} {st : Stmt} {rest : List Stmt}
/-- what holds behind a statement, then the rest -/
theorem s_join (J : AE → Prop) (h : qS1 X B Wx env st { P with nx := J }) (k : ∀ env', J env' → qS X B Wx env' rest P) : qS X B Wx env (st :: rest) P :=
  s_cons fun σ F H E rp c => h σ F H E rp ⟨fun σ2 F2 H2 env2 rp2 s2 j => c.nx σ2 F2 H2 env2 rp2 s2 (k env2 j), c.rt, c.bk, c.ct, c.xn⟩
end
end SY
set_option Elab.async false
set_option linter.all false
set_option maxRecDepth 100000
set_option maxHeartbeats 4000000
namespace K69
open PySem PySem.Spec L2 SY
/-! fractions -/
def fr (q : Rat) : D := .tup [.int q.num, .int (q.den : Int)]
theorem fr_div {a b : Int} (h : 0 < b) : fr (Rat.divInt a b) = .tup [.int (a / (Int.gcd a b : Nat)), .int (b / (Int.gcd a b : Nat))] := by
  unfold fr
  rw [Rat.num_divInt, Rat.den_divInt, if_neg (by omega), Int.sign_eq_one_of_pos h, Int.one_mul, Int.gcd_comm b a]
  have e : ((b.natAbs / Int.gcd a b : Nat) : Int) = b / (Int.gcd a b : Nat) := by
    rw [Int.natCast_ediv, Int.natAbs_of_nonneg (by omega)]
  rw [e]
/-- small enough -/
def Ok (q : Rat) : Prop := q.num.natAbs < 2 ^ 2900 ∧ q.den < 2 ^ 2900
theorem den_pos (q : Rat) : 0 < (q.den : Int) := by have := q.den_pos; omega
theorem log_lt {n k : Nat} (h : n < 2 ^ k) (hk : 0 < k) : n.log2 < k := by
  by_cases h0 : n = 0
  · subst h0; simpa using hk
  · exact (Nat.log2_lt h0).mpr h
theorem mulOk {i j : Int} {m n : Nat} (h1 : i.natAbs < 2 ^ m) (h2 : j.natAbs < 2 ^ n) (h : m + n < 1000000) (hm : 0 < m := by decide) (hn : 0 < n := by decide) : CMulW i j := by
  have a := log_lt h1 hm
  have b := log_lt h2 hn
  show i.natAbs.log2 + j.natAbs.log2 < 1000000
  omega
theorem pw_mul {a b m n : Nat} (h1 : a < 2 ^ m) (h2 : b < 2 ^ n) : a * b < 2 ^ (m + n) := by
  rw [Nat.pow_add]
  exact Nat.mul_lt_mul'' h1 h2
theorem Ok.num {q : Rat} (h : Ok q) : q.num.natAbs < 2 ^ 2900 := h.1
theorem Ok.den {q : Rat} (h : Ok q) : ((q.den : Int)).natAbs < 2 ^ 2900 := by rw [Int.natAbs_natCast]; exact h.2
theorem nn {q p : Rat} (h1 : Ok p) (h2 : Ok q) : (p.num * q.num).natAbs < 2 ^ 5800 := by
  rw [Int.natAbs_mul]; exact pw_mul h1.1 h2.1
theorem nd {q p : Rat} (h1 : Ok p) (h2 : Ok q) : (p.num * (q.den : Int)).natAbs < 2 ^ 5800 := by
  rw [Int.natAbs_mul, Int.natAbs_natCast]; exact pw_mul h1.1 h2.2
theorem dd {q p : Rat} (h1 : Ok p) (h2 : Ok q) : ((p.den : Int) * (q.den : Int)).natAbs < 2 ^ 5800 := by
  rw [Int.natAbs_mul, Int.natAbs_natCast, Int.natAbs_natCast]; exact pw_mul h1.2 h2.2
theorem ddp (p q : Rat) : 0 < ((p.den : Int) * (q.den : Int)) := Int.mul_pos (den_pos p) (den_pos q)
/-- a divisor -/
theorem divOk {a b : Int} (hb : 0 < b) (h : b.natAbs < 2 ^ 8999) : CDivW a (Int.gcd a b : Nat) := by
  have h1 : 0 < Int.gcd a b := Int.gcd_pos_of_ne_zero_right _ (by omega)
  refine ⟨by omega, ?_⟩
  rw [Int.natAbs_natCast]
  have h2 : Int.gcd a b ≤ b.natAbs := Nat.le_of_dvd (by omega) (Int.gcd_dvd_natAbs_right a b)
  have h3 := log_lt (Nat.lt_of_le_of_lt h2 h) (by decide)
  omega
section
variable {X : Cx} {B : Bs} {env : AE} {pos p p2 : Pos} {Q : D → Prop} {e a b : Expr} {n j : Nat}
theorem e_p0 (ev : Ev X n) (h : qE X B env a fun x => ∃ q, x = fr q ∧ Q (.int q.num)) : qE X B env (.Subscript a (.Constant (.int 0) j p) pos) Q :=
  e_ix ev.room (h.imp fun d ⟨q, e, hq⟩ => by subst e; exact e_int ⟨_, rfl, hq⟩)
theorem e_p1 (ev : Ev X n) (h : qE X B env a fun x => ∃ q, x = fr q ∧ Q (.int (q.den : Int))) : qE X B env (.Subscript a (.Constant (.int 1) j p) pos) Q :=
  e_ix ev.room (h.imp fun d ⟨q, e, hq⟩ => by subst e; exact e_int ⟨_, rfl, hq⟩)
theorem e_gcd (hm : X.mg "gcd" = some (.builtin "math.gcd")) (h : qE X B env a fun x => qE X B env b fun y => ∃ i j, x = .int i ∧ y = .int j ∧ Q (.int (Int.gcd i j : Nat))) (hg : Gl X "gcd" := by rfl)
    (he : starEach [a, b] X.env = (false, eval a X.env) :: starEach [b] X.env := by rfl) (he2 : starEach [b] X.env = (false, eval b X.env) :: starEach [] X.env := by rfl) (hpl : (backTo pos (starEach [b] X.env)).any (·.1) = false := by rfl) : qE X B env (.Call (.Name "gcd" p) [a, b] [] pos) Q := fun σ F H rp Qv k => by
  refine ⟨_, pe_callBfun cr_gcd hg hm (pa_cons pe_w (pa_cons pe_w pa_nil he2) he) (by decide) he hpl, ?_⟩
  refine h σ F H rp _ fun v F1 H1 x l1 rx h2 => h2 σ F1 H1 (rp.step l1) _ fun u F2 H2 y l2 ry q => ?_
  obtain ⟨i, j, rfl, rfl, q⟩ := q
  exact ⟨i, j, by rw [rInt rx, rInt ry], k _ F2 H2 _ (l1.trans l2) (mkInt _) q⟩
end
local macro_rules | `(tactic| walk_at "v") => `(tactic| first | refine e_var 0 rfl ?_ | refine e_var 1 rfl ?_ | refine e_var 2 rfl ?_ | refine e_var 3 rfl ?_ | refine e_var 4 rfl ?_ | refine e_var 5 rfl ?_ | refine e_var 6 rfl ?_ | refine e_var 7 rfl ?_ | refine e_var 8 rfl ?_ | refine e_var 9 rfl ?_)
local macro_rules | `(tactic| walk_at "ii") => `(tactic| refine ⟨_, _, rfl, rfl, ?_⟩)
local macro_rules | `(tactic| walk_at "fq") => `(tactic| refine ⟨_, rfl, ?_⟩)
section
variable {P : Program} {w : World} {K : PySem.W.Frag} {mg : Str → Option Value} {base : Heap}
/-! _law_gcd -/
def S_gcd : S0 := fun ds Q => ∃ a b : Int, ds = [.int a, .int b] ∧ Q (.int (Int.gcd a b : Nat))
theorem ok_gcd (fr : Free mg) (D0 : DefOk K mg "_law_gcd" (top 68) []) : FnS P w K mg base 1 "_law_gcd" (spP K S_gcd) := by
  refine mkFnW (N := ["a", "b", "rest"]) (ps := ["a", "b"]) D0 (C8.fnScope_by (by decide +kernel)) ?_ fr (fun _ _ _ _ _ _ us hl => match us, hl with | [_, _], _ => rfl) ?_
  · rintro _ ds Q ⟨a, b, rfl, _⟩
    rfl
  · rintro f cdv A outer s H0 E ev hp _ ds Q F ⟨a, b, rfl, q⟩
    refine s_cons (s_set 0 ev ?_)
    refine e_abs fr (e_var 0 rfl ⟨a, rfl, ?_⟩)
    refine s_cons (s_set 1 ev ?_)
    refine e_abs fr (e_var 1 rfl ⟨b, rfl, ?_⟩)
    refine s_cons (s_while hp (fun e => ∃ (i j : Nat) (v : AV), e = [.sh (.int (i : Nat)), .sh (.int (j : Nat)), v] ∧ Nat.gcd i j = Int.gcd a b) (fun e => avI e[1]?) ?_ ?_)
    · refine ⟨a.natAbs, b.natAbs, .un, ?_, rfl⟩
      have h1 : ∀ i : Int, (if i < 0 then -i else i) = (i.natAbs : Int) := fun i => by split <;> omega
      rw [h1, h1]
      rfl
    · rintro e ⟨i, j, v, rfl, hg⟩
      refine t_cmp (c_gt (e_var 1 rfl (e_int ⟨_, rfl, fun hk => ?_, fun hk => ?_⟩)))
      · have hj : 0 < j := by simpa using hk
        refine s_cons (s_set 2 ev (e_mod (e_toInt fr (e_var 0 rfl (e_var 1 rfl ⟨_, _, rfl, rfl, by omega, ?_⟩)))))
        refine s_cons (s_set 0 ev (e_var 1 rfl ?_))
        refine s_cons (s_set 1 ev (e_var 2 rfl ?_))
        refine s_nil ⟨⟨j, i % j, .sh (.int ((i : Int) % j)), ?_, ?_⟩, ?_⟩
        · rfl
        · rw [← hg, Nat.gcd_comm i j, Nat.gcd_rec j i, Nat.gcd_comm]
        · have : i % j < j := Nat.mod_lt _ hj
          show ((i : Int) % (j : Int)).toNat < ((j : Int)).toNat
          omega
      · have hj : j = 0 := by simpa using hk
        subst hj
        refine s_cons (s_ret (e_var 0 rfl ?_))
        rw [Nat.gcd_zero_right] at hg
        rw [hg]
        exact q
/-! _law_frac -/
def S_frac : S0 := fun ds Q => ∃ a b : Int, ds = [.int a, .int b] ∧ 0 < b ∧ b.natAbs < 2 ^ 8999 ∧ Q (fr (Rat.divInt a b))
theorem ok_frac (fr : Free mg) (D0 : DefOk K mg "_law_frac" (top 69) []) (c1 : FnS P w K mg base 1 "_law_gcd" (spP K S_gcd)) : FnS P w K mg base 2 "_law_frac" (spP K S_frac) := by
  refine mkFnW (N := ["above", "below", "common"]) (ps := ["above", "below"]) D0 (C8.fnScope_by (by decide +kernel)) ?_ fr (fun _ _ _ _ _ _ us hl => match us, hl with | [_, _], _ => rfl) ?_
  · rintro _ ds Q ⟨a, b, rfl, _⟩
    rfl
  · rintro f cdv A outer s H0 E ev hp _ ds Q F ⟨a, b, rfl, hb, hz, q⟩
    refine s_cons (s_set 2 ev (e_call c1 ev (by decide) (a_cons (e_var 0 rfl (a_cons (e_var 1 rfl (a_nil ⟨a, b, rfl, ?_⟩)))))))
    refine s_cons (s_ret (e_tup (a_cons (e_fdiv (e_var 0 rfl (e_var 2 rfl ⟨_, _, rfl, rfl, divOk hb hz, ?_⟩))))))
    refine a_cons (e_fdiv (e_var 1 rfl (e_var 2 rfl ⟨_, _, rfl, rfl, divOk hb hz, ?_⟩)))
    refine a_nil ⟨Nat.le_of_ble_eq_true rfl, ?_⟩
    rw [← fr_div hb]
    exact q
/-! ratio -/
theorem ok_ratio (fr : Free mg) (hg : mg "gcd" = some (.builtin "math.gcd")) (D0 : DefOk K mg "ratio" (top 32) [.int 1]) : FnS P w K mg base 1 "ratio" (spP K S_frac) := by
  refine mkFnD (N := ["above", "below", "common"]) (ps := ["above", "below"]) D0 (by simp) (C8.fnScope_by (by decide +kernel)) ?_ fr (fun _ _ _ _ _ _ _ us its hl h2 => match us, hl, its, h2 with | [_, _], _, [_], _ => ⟨_, rfl, rfl⟩) ?_
  · rintro _ ds Q ⟨a, b, rfl, _⟩
    rfl
  · rintro f cdv A outer s H0 E ev hp _ ds Q F ⟨a, b, rfl, hb, hz, q⟩
    refine s_cons (s_if (t_cmp (c_eq ev.room (e_var 1 rfl (e_int ⟨_, rfl, fun hk => ?_, fun hk => ?_⟩)))))
    · have h1 : b = 1 := by simpa using hk
      subst h1
      refine s_cons (s_ret (e_tup (a_cons (e_var 0 rfl (a_cons (e_int (a_nil ⟨Nat.le_of_ble_eq_true rfl, ?_⟩)))))))
      rw [fr_div hb] at q
      simpa using q
    · refine s_nil (s_cons (s_if (t_cmp (c_eq ev.room (e_var 1 rfl (e_int ⟨_, rfl, fun hk => ?_, fun hk => ?_⟩))))))
      · have h1 : b = 0 := by simpa using hk
        omega
      · refine s_nil (s_cons (s_set 2 ev (e_gcd hg (e_var 0 rfl (e_var 1 rfl ⟨_, _, rfl, rfl, ?_⟩)))))
        refine s_cons (s_if (t_cmp (c_lt (e_var 1 rfl (e_int ⟨_, rfl, fun hk => ?_, fun hk => ?_⟩)))))
        · have h1 : b < 0 := by simpa using hk
          omega
        · refine s_nil (s_cons (s_ret (e_tup (a_cons (e_fdiv (e_var 0 rfl (e_var 2 rfl ⟨_, _, rfl, rfl, divOk hb hz, ?_⟩)))))))
          refine a_cons (e_fdiv (e_var 1 rfl (e_var 2 rfl ⟨_, _, rfl, rfl, divOk hb hz, ?_⟩)))
          refine a_nil ⟨Nat.le_of_ble_eq_true rfl, ?_⟩
          rw [← fr_div hb]
          exact q
/-! add, multiply, divide -/
def S_add : S0 := fun ds Q => ∃ p q, ds = [fr p, fr q] ∧ Ok p ∧ Ok q ∧ Q (fr (p + q))
def S_mul : S0 := fun ds Q => ∃ p q, ds = [fr p, fr q] ∧ Ok p ∧ Ok q ∧ Q (fr (p * q))
def S_quo : S0 := fun ds Q => ∃ p q, ds = [fr p, fr q] ∧ Ok p ∧ Ok q ∧ 0 < q ∧ Q (fr (p / q))
theorem rat_mul (p q : Rat) : Rat.divInt (p.num * q.num) ((p.den : Int) * (q.den : Int)) = p * q := by
  rw [← Rat.divInt_mul_divInt, Rat.num_divInt_den, Rat.num_divInt_den]
theorem rat_add (p q : Rat) : Rat.divInt (p.num * (q.den : Int) + q.num * (p.den : Int)) ((p.den : Int) * (q.den : Int)) = p + q := by
  rw [← Rat.divInt_add_divInt _ _ (by have := den_pos p; omega) (by have := den_pos q; omega), Rat.num_divInt_den, Rat.num_divInt_den]
theorem rat_add1 (p q : Rat) (h : p.den = q.den) : Rat.divInt (p.num + q.num) (p.den : Int) = p + q := by
  have e : p + q = Rat.divInt p.num p.den + Rat.divInt q.num p.den := by
    rw [Rat.num_divInt_den, h, Rat.num_divInt_den]
  rw [e, Rat.divInt_eq_div, Rat.divInt_eq_div, Rat.divInt_eq_div, Rat.intCast_add]
  grind
theorem num_zero {p : Rat} (h : p.num = 0) : p = 0 := by
  rw [← Rat.num_divInt_den p, h]
  simp
theorem ok_mul (fr : Free mg) (D0 : DefOk K mg "multiply" (top 36) []) (c1 : FnS P w K mg base 1 "ratio" (spP K S_frac)) : FnS P w K mg base 2 "multiply" (spP K S_mul) := by
  refine mkFnW (N := ["p", "q"]) (ps := ["p", "q"]) D0 (C8.fnScope_by (by decide +kernel)) ?_ fr (fun _ _ _ _ _ _ us hl => match us, hl with | [_, _], _ => rfl) ?_
  · rintro _ ds Q ⟨a, b, rfl, _⟩
    rfl
  · rintro f cdv A outer s H0 E ev hp _ ds Q F ⟨p, q, rfl, hp1, hq1, k⟩
    refine s_cons (s_ret (e_call c1 ev (by decide) ?_))
    refine a_cons (e_mul (e_p0 ev (e_var 0 rfl ⟨_, rfl, e_p0 ev (e_var 1 rfl ⟨_, rfl, _, _, rfl, rfl, mulOk hp1.num hq1.num (by decide), ?_⟩)⟩)))
    refine a_cons (e_mul (e_p1 ev (e_var 0 rfl ⟨_, rfl, e_p1 ev (e_var 1 rfl ⟨_, rfl, _, _, rfl, rfl, mulOk hp1.den hq1.den (by decide), ?_⟩)⟩)))
    refine a_nil ⟨_, _, rfl, ddp p q, Nat.lt_of_lt_of_le (dd hp1 hq1) (Nat.pow_le_pow_right (by decide) (by decide)), ?_⟩
    rw [rat_mul]
    exact k
theorem ok_add (fr : Free mg) (D0 : DefOk K mg "add" (top 35) []) (c1 : FnS P w K mg base 1 "ratio" (spP K S_frac)) : FnS P w K mg base 2 "add" (spP K S_add) := by
  refine mkFnW (N := ["p", "q"]) (ps := ["p", "q"]) D0 (C8.fnScope_by (by decide +kernel)) ?_ fr (fun _ _ _ _ _ _ us hl => match us, hl with | [_, _], _ => rfl) ?_
  · rintro _ ds Q ⟨a, b, rfl, _⟩
    rfl
  · rintro f cdv A outer s H0 E ev hp _ ds Q F ⟨p, q, rfl, hp1, hq1, k⟩
    refine s_cons (s_if (t_cmp (c_eq ev.room (e_p0 ev (e_var 0 rfl ⟨_, rfl, e_int ⟨_, rfl, fun hk => ?_, fun hk => ?_⟩⟩)))))
    · have h1 : p.num = 0 := by simpa using hk
      refine s_cons (s_ret (e_var 1 rfl ?_))
      rw [num_zero h1, Rat.zero_add] at k
      exact k
    · refine s_nil (s_cons (s_if (t_cmp (c_eq ev.room (e_p1 ev (e_var 0 rfl ⟨_, rfl, e_p1 ev (e_var 1 rfl ⟨_, rfl, _, rfl, fun hk => ?_, fun hk => ?_⟩)⟩))))))
      · have h1 : p.den = q.den := by
          have : (p.den : Int) = q.den := by simpa using hk
          omega
        refine s_cons (s_ret (e_call c1 ev (by decide) ?_))
        refine a_cons (e_add (e_p0 ev (e_var 0 rfl ⟨_, rfl, e_p0 ev (e_var 1 rfl ⟨_, rfl, ?_⟩)⟩)))
        refine a_cons (e_p1 ev (e_var 0 rfl ⟨_, rfl, ?_⟩))
        refine a_nil ⟨_, _, rfl, den_pos p, Nat.lt_of_lt_of_le hp1.den (Nat.pow_le_pow_right (by decide) (by decide)), ?_⟩
        rw [rat_add1 p q h1]
        exact k
      · refine s_nil (s_cons (s_ret (e_call c1 ev (by decide) ?_)))
        refine a_cons (e_add (e_mul (e_p0 ev (e_var 0 rfl ⟨_, rfl, e_p1 ev (e_var 1 rfl ⟨_, rfl, _, _, rfl, rfl, mulOk hp1.num hq1.den (by decide), ?_⟩)⟩))))
        refine e_mul (e_p0 ev (e_var 1 rfl ⟨_, rfl, e_p1 ev (e_var 0 rfl ⟨_, rfl, _, _, rfl, rfl, mulOk hq1.num hp1.den (by decide), ?_⟩)⟩))
        refine a_cons (e_mul (e_p1 ev (e_var 0 rfl ⟨_, rfl, e_p1 ev (e_var 1 rfl ⟨_, rfl, _, _, rfl, rfl, mulOk hp1.den hq1.den (by decide), ?_⟩)⟩)))
        refine a_nil ⟨_, _, rfl, ddp p q, Nat.lt_of_lt_of_le (dd hp1 hq1) (Nat.pow_le_pow_right (by decide) (by decide)), ?_⟩
        rw [rat_add]
        exact k
end
end K69
set_option Elab.async false
set_option linter.all false
set_option maxRecDepth 100000
set_option maxHeartbeats 4000000
/-! QM: fractions: sums, sizes. -/
namespace K69
def sumQ : List Rat → Rat
  | [] => 0
  | a :: l => a + sumQ l
theorem sumQ_append (l m : List Rat) : sumQ (l ++ m) = sumQ l + sumQ m := by
  induction l with
  | nil => rw [List.nil_append, sumQ, Rat.zero_add]
  | cons a l ih => rw [List.cons_append, sumQ, sumQ, ih, Rat.add_assoc]
theorem sumQ_one (a : Rat) : sumQ [a] = a := by rw [sumQ, sumQ, Rat.add_zero]
theorem sumQ_snoc (l : List Rat) (a : Rat) : sumQ (l ++ [a]) = sumQ l + a := by rw [sumQ_append, sumQ_one]
theorem sumQ_perm {l m : List Rat} (h : l.Perm m) : sumQ l = sumQ m := by
  induction h with
  | nil => rfl
  | cons x _ ih => rw [sumQ, sumQ, ih]
  | swap x y l => rw [sumQ, sumQ, sumQ, sumQ]; grind
  | trans _ _ a b => rw [a, b]
theorem take_more {α : Type} {l : List α} {i : Nat} {x : α} (h : l[i]? = some x) : l.take (i + 1) = l.take i ++ [x] := by
  rw [List.take_succ, h]; rfl
theorem sumQ_take {l : List Rat} {i : Nat} {x : Rat} (h : l[i]? = some x) : sumQ (l.take (i + 1)) = sumQ (l.take i) + x := by rw [take_more h, sumQ_snoc]
/-- q is a whole number, at most A, over n -/
def Sz (n A : Nat) (q : Rat) : Prop := 0 < n ∧ ∃ a : Int, q = Rat.divInt a n ∧ a.natAbs ≤ A
theorem Sz.mono {n A B : Nat} {q : Rat} (h : Sz n A q) (l : A ≤ B) : Sz n B q := ⟨h.1, let ⟨a, e, b⟩ := h.2; ⟨a, e, Nat.le_trans b l⟩⟩
theorem Sz.zero {n : Nat} (h : 0 < n) (A : Nat) : Sz n A 0 := ⟨h, 0, by simp, by simp⟩
theorem Sz.one {n : Nat} (h : 0 < n) : Sz n n 1 := ⟨h, n, by rw [Rat.divInt_self' (by omega)], by simp⟩
theorem Sz.mul {n m A B : Nat} {p q : Rat} (h : Sz n A p) (k : Sz m B q) : Sz (n * m) (A * B) (p * q) := by
  obtain ⟨hn, a, rfl, ha⟩ := h
  obtain ⟨hm, b, rfl, hb⟩ := k
  refine ⟨Nat.mul_pos hn hm, a * b, ?_, by rw [Int.natAbs_mul]; exact Nat.mul_le_mul ha hb⟩
  rw [Rat.divInt_mul_divInt]
  simp
theorem Sz.add {n A B : Nat} {p q : Rat} (h : Sz n A p) (k : Sz n B q) : Sz n (A + B) (p + q) := by
  obtain ⟨hn, a, rfl, ha⟩ := h
  obtain ⟨hm, b, rfl, hb⟩ := k
  refine ⟨hn, a + b, ?_, by omega⟩
  rw [Rat.divInt_eq_div, Rat.divInt_eq_div, Rat.divInt_eq_div, Rat.intCast_add]
  grind
theorem Sz.neg {n A : Nat} {p : Rat} (h : Sz n A p) : Sz n A (-p) := by
  obtain ⟨hn, a, rfl, ha⟩ := h
  refine ⟨hn, -a, ?_, by omega⟩
  rw [Rat.neg_divInt]
theorem Sz.scale {n A k : Nat} {p : Rat} (h : Sz n A p) (hk : 0 < k) : Sz (n * k) (A * k) p := by
  have := h.mul (Sz.one hk)
  rwa [Rat.mul_one] at this
theorem Sz.scale' {n A k : Nat} {p : Rat} (h : Sz n A p) (hk : 0 < k) : Sz (k * n) (k * A) p := by
  rw [Nat.mul_comm k, Nat.mul_comm k]; exact h.scale hk
theorem Sz.den {n A : Nat} {q : Rat} (h : Sz n A q) : q.den ≤ n := by
  obtain ⟨hn, a, rfl, ha⟩ := h
  rw [Rat.den_divInt, if_neg (by omega), Int.natAbs_natCast]
  exact Nat.div_le_self _ _
theorem Sz.num {n A : Nat} {q : Rat} (h : Sz n A q) : q.num.natAbs ≤ A := by
  obtain ⟨hn, a, rfl, ha⟩ := h
  rw [Rat.num_divInt, Int.sign_eq_one_of_pos (by omega), Int.one_mul]
  refine Nat.le_trans ?_ ha
  exact Int.natAbs_ediv_le_natAbs _ _
theorem Sz.sum {n A : Nat} (hn : 0 < n) {l : List Rat} (h : ∀ q ∈ l, Sz n A q) : Sz n (l.length * A) (sumQ l) := by
  induction l with
  | nil => simpa [sumQ] using Sz.zero hn 0
  | cons a l ih =>
    have h1 := (h a (by simp)).add (ih fun q hq => h q (by simp [hq]))
    rw [sumQ, List.length_cons]
    exact h1.mono (by rw [Nat.add_mul, Nat.one_mul]; omega)
theorem Sz.den' (q : Rat) : Sz q.den q.num.natAbs q := ⟨q.den_pos, q.num, (Rat.num_divInt_den q).symm, Nat.le_refl _⟩
end K69
set_option Elab.async false
set_option linter.all false
set_option maxRecDepth 100000
set_option maxHeartbeats 4000000
set_option exponentiation.threshold 10000
namespace K69
open PySem PySem.Spec L2 SY
theorem Sz.ok {n A : Nat} {q : Rat} (h : Sz n A q) (hn : n < 2 ^ 2900) (hA : A < 2 ^ 2900) : Ok q := ⟨Nat.lt_of_le_of_lt h.num hA, Nat.lt_of_le_of_lt h.den hn⟩
def frs (l : List Rat) : List D := l.map fr
theorem one_lt : 1 < 2 ^ 2900 := Nat.lt_of_lt_of_le (by decide : 1 < 2 ^ 1) (Nat.pow_le_pow_right (by decide) (by decide))
theorem ok0 : Ok 0 := ⟨Nat.lt_trans (by decide : (0 : Rat).num.natAbs < 1) one_lt, Nat.lt_of_le_of_lt (by decide : (0 : Rat).den ≤ 1) one_lt⟩
theorem ok1 : Ok 1 := ⟨Nat.lt_of_le_of_lt (by decide : (1 : Rat).num.natAbs ≤ 1) one_lt, Nat.lt_of_le_of_lt (by decide : (1 : Rat).den ≤ 1) one_lt⟩
theorem fr0 : D.tup [.int 0, .int 1] = fr 0 := rfl
theorem fr1 : D.tup [.int 1, .int 1] = fr 1 := rfl
local macro_rules | `(tactic| walk_at "ar") => `(tactic| rintro _ ds Q ⟨_, _, rfl, _⟩; rfl)
section
variable {P : Program} {w : World} {K : PySem.W.Frag} {mg : Str → Option Value} {base : Heap}
/-! _law_more, _law_times -/
def S_more : S0 := fun ds Q => ∃ p c q, ds = [fr p, fr c, fr q] ∧ Ok p ∧ Ok c ∧ Ok q ∧ Q (fr (p + c * q))
theorem rat_more (p c q : Rat) : Rat.divInt (p.num * (c.den : Int) * (q.den : Int) + c.num * q.num * (p.den : Int)) ((p.den : Int) * (c.den : Int) * (q.den : Int)) = p + c * q := by
  have h1 := den_pos p
  have h2 := ddp c q
  have e : p + c * q = Rat.divInt p.num p.den + Rat.divInt (c.num * q.num) ((c.den : Int) * (q.den : Int)) := by rw [Rat.num_divInt_den, rat_mul]
  rw [e, Rat.divInt_add_divInt _ _ (by omega) (by omega)]
  congr 1
  · rw [Int.mul_assoc]
  · rw [Int.mul_assoc]
theorem ok_more (fr : Free mg) (D0 : DefOk K mg "_law_more" (top 70) []) (c1 : FnS P w K mg base 2 "_law_frac" (spP K S_frac)) : FnS P w K mg base 3 "_law_more" (spP K S_more) := by
  refine mkFnW (N := ["p", "c", "q"]) (ps := ["p", "c", "q"]) D0 (C8.fnScope_by (by decide +kernel)) ?_ fr (fun _ _ _ _ _ _ us hl => match us, hl with | [_, _, _], _ => rfl) ?_
  · rintro _ ds Q ⟨a, b, c, rfl, _⟩
    rfl
  · rintro f cdv A outer s H0 E ev hp _ ds Q F ⟨p, c, q, rfl, hp1, hc1, hq1, k⟩
    have h3 : ((p.den : Int) * (c.den : Int) * (q.den : Int)).natAbs < 2 ^ 8999 := by
      rw [Int.natAbs_mul]
      exact Nat.lt_of_lt_of_le (pw_mul (dd hp1 hc1) hq1.den) (Nat.pow_le_pow_right (by decide) (by decide))
    refine s_cons (s_ret (e_call c1 ev (by decide) ?_))
    refine a_cons (e_add (e_mul (e_mul (e_p0 ev (e_var 0 rfl ⟨_, rfl, e_p1 ev (e_var 1 rfl ⟨_, rfl, _, _, rfl, rfl, mulOk hp1.num hc1.den (by decide), ?_⟩)⟩)))))
    refine e_p1 ev (e_var 2 rfl ⟨_, rfl, _, _, rfl, rfl, mulOk (nd hp1 hc1) hq1.den (by decide), ?_⟩)
    refine e_mul (e_mul (e_p0 ev (e_var 1 rfl ⟨_, rfl, e_p0 ev (e_var 2 rfl ⟨_, rfl, _, _, rfl, rfl, mulOk hc1.num hq1.num (by decide), ?_⟩)⟩)))
    refine e_p1 ev (e_var 0 rfl ⟨_, rfl, _, _, rfl, rfl, mulOk (nn hc1 hq1) hp1.den (by decide), ?_⟩)
    refine a_cons (e_mul (e_mul (e_p1 ev (e_var 0 rfl ⟨_, rfl, e_p1 ev (e_var 1 rfl ⟨_, rfl, _, _, rfl, rfl, mulOk hp1.den hc1.den (by decide), ?_⟩)⟩))))
    refine e_p1 ev (e_var 2 rfl ⟨_, rfl, _, _, rfl, rfl, mulOk (dd hp1 hc1) hq1.den (by decide), ?_⟩)
    refine a_nil ⟨_, _, rfl, Int.mul_pos (ddp p c) (den_pos q), h3, ?_⟩
    rw [rat_more]
    exact k
theorem ok_times (fr : Free mg) (D0 : DefOk K mg "_law_times" (top 71) []) (c1 : FnS P w K mg base 3 "_law_more" (spP K S_more)) : FnS P w K mg base 4 "_law_times" (spP K S_mul) := by
  refine mkFnW (N := ["p", "q"]) (ps := ["p", "q"]) D0 (C8.fnScope_by (by decide +kernel)) ?_ fr (fun _ _ _ _ _ _ us hl => match us, hl with | [_, _], _ => rfl) ?_
  · rintro _ ds Q ⟨a, b, rfl, _⟩
    rfl
  · rintro f cdv A outer s H0 E ev hp _ ds Q F ⟨p, q, rfl, hp1, hq1, k⟩
    refine s_cons (s_ret (e_call c1 ev (by decide) ?_))
    refine a_cons (e_tup (a_cons (e_int (a_cons (e_int (a_nil ⟨Nat.le_of_ble_eq_true rfl, ?_⟩))))))
    refine a_cons (e_var 0 rfl (a_cons (e_var 1 rfl (a_nil ⟨0, p, q, rfl, ok0, hp1, hq1, ?_⟩))))
    rw [Rat.zero_add]
    exact k
/-! divide -/
theorem num_pos {q : Rat} (h : 0 < q) : 0 < q.num := by
  have h1 : 0 ≤ q.num := Rat.num_nonneg.mpr (Rat.le_of_lt h)
  have h2 : q.num ≠ 0 := fun e => by rw [Rat.num_eq_zero.mp e] at h; exact absurd h (Rat.lt_irrefl)
  omega
theorem rat_quo (p q : Rat) (h : 0 < q) : Rat.divInt (p.num * (q.den : Int)) ((p.den : Int) * q.num) = p / q := by
  have hq : 0 < q.num := num_pos h
  have e : q⁻¹ = Rat.divInt q.den q.num := by
    have : (Rat.divInt q.num q.den)⁻¹ = Rat.divInt q.den q.num := Rat.inv_divInt _ _
    rwa [Rat.num_divInt_den] at this
  rw [Rat.div_def, e, ← Rat.divInt_mul_divInt, Rat.num_divInt_den]
theorem ok_quo (fr : Free mg) (D0 : DefOk K mg "divide" (top 37) []) (c1 : FnS P w K mg base 1 "ratio" (spP K S_frac)) : FnS P w K mg base 2 "divide" (spP K S_quo) := by
  refine mkFnW (N := ["p", "q"]) (ps := ["p", "q"]) D0 (C8.fnScope_by (by decide +kernel)) ?_ fr (fun _ _ _ _ _ _ us hl => match us, hl with | [_, _], _ => rfl) ?_
  · rintro _ ds Q ⟨a, b, rfl, _⟩
    rfl
  · rintro f cdv A outer s H0 E ev hp _ ds Q F ⟨p, q, rfl, hp1, hq1, hq, k⟩
    have hq0 : 0 < q.num := num_pos hq
    have h3 : ((p.den : Int) * q.num).natAbs < 2 ^ 8999 := by
      rw [Int.natAbs_mul]
      exact Nat.lt_of_lt_of_le (pw_mul hp1.den hq1.num) (Nat.pow_le_pow_right (by decide) (by decide))
    refine s_cons (s_ret (e_call c1 ev (by decide) ?_))
    refine a_cons (e_mul (e_p0 ev (e_var 0 rfl ⟨_, rfl, e_p1 ev (e_var 1 rfl ⟨_, rfl, _, _, rfl, rfl, mulOk hp1.num hq1.den (by decide), ?_⟩)⟩)))
    refine a_cons (e_mul (e_p1 ev (e_var 0 rfl ⟨_, rfl, e_p0 ev (e_var 1 rfl ⟨_, rfl, _, _, rfl, rfl, mulOk hp1.den hq1.num (by decide), ?_⟩)⟩)))
    refine a_nil ⟨_, _, rfl, Int.mul_pos (den_pos p) hq0, h3, ?_⟩
    rw [rat_quo p q hq]
    exact k
/-! total -/
def S_total : S0 := fun ds Q => ∃ l n A, ds = [.tup (frs l)] ∧ (∀ q ∈ l, Sz n A q) ∧ 0 < n ∧ n < 2 ^ 2900 ∧ l.length * A < 2 ^ 2900 ∧ A < 2 ^ 2900 ∧ Q (fr (sumQ l))
theorem frs_get {l : List Rat} {i : Nat} {d : D} (h : (frs l)[i]? = some d) : ∃ q, l[i]? = some q ∧ d = fr q := by
  unfold frs at h
  rw [List.getElem?_map] at h
  obtain ⟨q, h1, rfl⟩ := Option.map_eq_some_iff.mp h
  exact ⟨q, h1, rfl⟩
theorem sz_take {l : List Rat} {n A : Nat} (hn : 0 < n) (h : ∀ q ∈ l, Sz n A q) (i : Nat) : Sz n (l.length * A) (sumQ (l.take i)) := by
  have h1 : Sz n ((l.take i).length * A) (sumQ (l.take i)) := Sz.sum hn fun q hq => h q (List.mem_of_mem_take hq)
  exact h1.mono (Nat.mul_le_mul_right _ (by rw [List.length_take]; omega))
theorem ok_total (fr : Free mg) (hz : GlobD K mg "ZERO" (K69.fr 0)) (D0 : DefOk K mg "total" (top 38) []) (c1 : FnS P w K mg base 2 "add" (spP K S_add)) : FnSt P w K mg base 3 "total" S_total := by
  refine mkStar (N := ["fractions", "found", "p"]) (pv := "fractions") D0 (C8.fnScope_by (by decide +kernel)) fr (fun _ _ _ _ _ _ rest => by cases rest <;> rfl) ?_
  rintro f cdv A outer s H0 E ev hp B ds Q ⟨l, n, A, rfl, hl, hn, hn2, hA, hA2, k⟩ _
  refine s_cons (s_set 1 ev (e_glob hz ?_))
  refine s_cons (s_for [2] hp ev (i_val (e_var 0 rfl ⟨_, rfl, fun i e => ∃ v, e = [.sh (.tup (frs l)), .sh (K69.fr (sumQ (l.take i))), v], ⟨.un, rfl⟩, ?_, ?_⟩)))
  · rintro e ⟨v, rfl⟩
    refine s_cons (s_ret (e_var 1 rfl ?_))
    have : (frs l).length = l.length := List.length_map ..
    rw [this, List.take_length]
    exact k
  · rintro i d e hd ⟨v, rfl⟩
    obtain ⟨q, h1, rfl⟩ := frs_get hd
    refine g_name 2 ev.nd ?_
    refine s_cons (s_set 1 ev (e_call c1 ev (by decide) (a_cons (e_var 1 rfl (a_cons (e_var 2 rfl (a_nil ⟨_, _, rfl, (sz_take hn hl i).ok hn2 hA, (hl q (List.mem_of_getElem? h1)).ok hn2 hA2, ?_⟩)))))))
    refine s_nil ⟨.sh (K69.fr q), ?_⟩
    rw [sumQ_take h1]
    rfl
end
end K69
set_option Elab.async false
set_option linter.all false
set_option maxRecDepth 100000
set_option maxHeartbeats 4000000
set_option exponentiation.threshold 10000
namespace K69
open PySem PySem.Spec L2 SY
section
variable {X : Cx} {B : Bs} {env : AE} {pos p p1 : Pos} {Q : D → Prop} {e a b : Expr} {n j : Nat}
theorem e_isI (fr : Free X.mg) (h : qE X B env a fun d => ∃ t b, tyD d = some t ∧ kitB t "int" = some b ∧ Q (.bl b)) (hg : Gl X "isinstance" := by rfl) (hgx : Gl X "int" := by rfl)
    (he : starEach [a, .Name "int" p1] X.env = (false, eval a X.env) :: starEach [.Name "int" p1] X.env := by rfl) (he2 : starEach [.Name "int" p1] X.env = (false, eval (.Name "int" p1) X.env) :: starEach [] X.env := by rfl)
    (hpl : (backTo pos (starEach [.Name "int" p1] X.env)).any (·.1) = false := by rfl) : qE X B env (.Call (.Name "isinstance" p) [a, .Name "int" p1] [] pos) Q := e_isi (t := "") fr h fr.int (by decide +kernel) hg hgx (by decide) (by decide) he he2 hpl
theorem e_isB (fr : Free X.mg) (h : qE X B env a fun d => ∃ t b, tyD d = some t ∧ kitB t "bool" = some b ∧ Q (.bl b)) (hg : Gl X "isinstance" := by rfl) (hgx : Gl X "bool" := by rfl)
    (he : starEach [a, .Name "bool" p1] X.env = (false, eval a X.env) :: starEach [.Name "bool" p1] X.env := by rfl) (he2 : starEach [.Name "bool" p1] X.env = (false, eval (.Name "bool" p1) X.env) :: starEach [] X.env := by rfl)
    (hpl : (backTo pos (starEach [.Name "bool" p1] X.env)).any (·.1) = false := by rfl) : qE X B env (.Call (.Name "isinstance" p) [a, .Name "bool" p1] [] pos) Q := e_isi (t := "") fr h fr.bool (by decide +kernel) hg hgx (by decide) (by decide) he he2 hpl
theorem e_isS (fr : Free X.mg) (h : qE X B env a fun d => ∃ t b, tyD d = some t ∧ kitB t "str" = some b ∧ Q (.bl b)) (hg : Gl X "isinstance" := by rfl) (hgx : Gl X "str" := by rfl)
    (he : starEach [a, .Name "str" p1] X.env = (false, eval a X.env) :: starEach [.Name "str" p1] X.env := by rfl) (he2 : starEach [.Name "str" p1] X.env = (false, eval (.Name "str" p1) X.env) :: starEach [] X.env := by rfl)
    (hpl : (backTo pos (starEach [.Name "str" p1] X.env)).any (·.1) = false := by rfl) : qE X B env (.Call (.Name "isinstance" p) [a, .Name "str" p1] [] pos) Q := e_isi (t := "") fr h fr.str (by decide +kernel) hg hgx (by decide) (by decide) he he2 hpl
theorem e_isT (fr : Free X.mg) (h : qE X B env a fun d => ∃ t b, tyD d = some t ∧ kitB t "tuple" = some b ∧ Q (.bl b)) (hg : Gl X "isinstance" := by rfl) (hgx : Gl X "tuple" := by rfl)
    (he : starEach [a, .Name "tuple" p1] X.env = (false, eval a X.env) :: starEach [.Name "tuple" p1] X.env := by rfl) (he2 : starEach [.Name "tuple" p1] X.env = (false, eval (.Name "tuple" p1) X.env) :: starEach [] X.env := by rfl)
    (hpl : (backTo pos (starEach [.Name "tuple" p1] X.env)).any (·.1) = false := by rfl) : qE X B env (.Call (.Name "isinstance" p) [a, .Name "tuple" p1] [] pos) Q := e_isi (t := "") fr h fr.tuple (by decide +kernel) hg hgx (by decide) (by decide) he he2 hpl
end
theorem k_ii : kitB "int" "int" = some true := by decide +kernel
theorem k_ib : kitB "int" "bool" = some false := by decide +kernel
theorem k_ss : kitB "str" "str" = some true := by decide +kernel
theorem k_tt : kitB "tuple" "tuple" = some true := by decide +kernel
section
variable {P : Program} {w : World} {K : PySem.W.Frag} {mg : Str → Option Value} {base : Heap}
def S_state : S0 := fun ds Q => ∃ i n : Int, ds = [.int i, .int n] ∧ 0 ≤ i ∧ i < n ∧ Q (.bl true)
theorem ok_state (fr : Free mg) (D0 : DefOk K mg "is_state" (top 22) []) : FnS P w K mg base 1 "is_state" (spP K S_state) := by
  refine mkFnW (N := ["thing", "size"]) (ps := ["thing", "size"]) D0 (C8.fnScope_by (by decide +kernel)) ?_ fr (fun _ _ _ _ _ _ us hl => match us, hl with | [_, _], _ => rfl) ?_
  · rintro _ ds Q ⟨_, _, rfl, _⟩; rfl
  · rintro f cdv A outer s H0 E ev hp _ ds Q F ⟨i, n, rfl, h0, h1, k⟩
    refine s_cons (s_ret (e_and (e_isI fr (e_var 0 rfl ⟨_, _, rfl, k_ii, _, rfl, fun _ => ?_, fun h => Bool.noConfusion h⟩))))
    refine e_and (e_not (e_isB fr (e_var 0 rfl ⟨_, _, rfl, k_ib, _, rfl, _, rfl, fun _ => ?_, fun h => Bool.noConfusion h⟩)))
    refine e_one (e_leLt (e_int (e_var 0 rfl ⟨_, rfl, fun _ => e_var 1 rfl ?_, fun h => ?_⟩)))
    · show Q (.bl (decide (i < n)))
      rw [decide_eq_true h1]; exact k
    · have : ¬ 0 ≤ i := by simpa using h
      omega
def S_int : S0 := fun ds Q => ∃ i : Int, ds = [.int i] ∧ Q (.bl true)
theorem ok_isint (fr : Free mg) (D0 : DefOk K mg "_is_integer" (top 33) []) : FnS P w K mg base 1 "_is_integer" (spP K S_int) := by
  refine mkFnW (N := ["thing"]) (ps := ["thing"]) D0 (C8.fnScope_by (by decide +kernel)) ?_ fr (fun _ _ _ _ _ _ us hl => match us, hl with | [_], _ => rfl) ?_
  · rintro _ ds Q ⟨_, rfl, _⟩; rfl
  · rintro f cdv A outer s H0 E ev hp _ ds Q F ⟨i, rfl, k⟩
    refine s_cons (s_ret (e_and (e_isI fr (e_var 0 rfl ⟨_, _, rfl, k_ii, _, rfl, fun _ => ?_, fun h => Bool.noConfusion h⟩))))
    exact e_one (e_not (e_isB fr (e_var 0 rfl ⟨_, _, rfl, k_ib, _, rfl, k⟩)))
def S_letter : S0 := fun ds Q => ∃ (c : Nat) (z : Str), ds = [.str ⟨#[c]⟩, .str z] ∧ c ∈ z.cps.toList ∧ Q (.bl true)
theorem ok_letter (fr : Free mg) (D0 : DefOk K mg "is_letter" (top 23) []) : FnS P w K mg base 1 "is_letter" (spP K S_letter) := by
  refine mkFnW (N := ["thing", "letters"]) (ps := ["thing", "letters"]) D0 (C8.fnScope_by (by decide +kernel)) ?_ fr (fun _ _ _ _ _ _ us hl => match us, hl with | [_, _], _ => rfl) ?_
  · rintro _ ds Q ⟨_, _, rfl, _⟩; rfl
  · rintro f cdv A outer s H0 E ev hp _ ds Q F ⟨c, z, rfl, h0, k⟩
    refine s_cons (s_ret (e_and (e_isS fr (e_var 0 rfl ⟨_, _, rfl, k_ss, _, rfl, fun _ => ?_, fun h => Bool.noConfusion h⟩))))
    refine e_and (e_cmp (c_eq ev.room (e_len fr (e_var 0 rfl ⟨Nat.le_of_ble_eq_true rfl, e_int ⟨_, rfl, fun _ => ?_, fun h => Bool.noConfusion h⟩⟩))))
    refine e_one (e_cmp (c_inS (e_var 0 rfl (e_var 1 rfl ⟨_, _, rfl, rfl, ?_⟩))))
    rw [decide_eq_true h0]; exact k
def S_arrow : S0 := fun ds Q => ∃ (s t n : Int) (c : Nat) (z : Str) (d : D), ds = [.tup [.int s, .str ⟨#[c]⟩, .int t, d], .str z, .int n] ∧ (0 ≤ s ∧ s < n) ∧ (0 ≤ t ∧ t < n) ∧ c ∈ z.cps.toList ∧ Q (.bl true)
theorem ok_arrow (fr : Free mg) (D0 : DefOk K mg "is_arrow" (top 24) []) (c1 : FnS P w K mg base 1 "is_state" (spP K S_state)) (c2 : FnS P w K mg base 1 "is_letter" (spP K S_letter)) : FnS P w K mg base 2 "is_arrow" (spP K S_arrow) := by
  refine mkFnW (N := ["thing", "letters", "size"]) (ps := ["thing", "letters", "size"]) D0 (C8.fnScope_by (by decide +kernel)) ?_ fr (fun _ _ _ _ _ _ us hl => match us, hl with | [_, _, _], _ => rfl) ?_
  · rintro _ ds Q ⟨_, _, _, _, _, _, rfl, _⟩; rfl
  · rintro f cdv A outer s H0 E ev hp _ ds Q F ⟨s, t, n, c, z, d, rfl, ⟨h1, h2⟩, ⟨h3, h4⟩, h5, k⟩
    refine s_cons (s_if (t_bool (w_or (t_not (t_val (e_isT fr (e_var 0 rfl ⟨_, _, rfl, k_tt, fun h => Bool.noConfusion h, fun _ => ?_⟩)))))))
    refine w_or1 (t_cmp (c_ne ev.room (e_len fr (e_var 0 rfl (e_int ⟨_, rfl, fun h => Bool.noConfusion h, fun _ => ?_⟩)))))
    refine s_nil (s_cons (s_ret (e_and (e_call c1 ev (by decide) (a_cons (e_ix ev.room (e_var 0 rfl (e_int ⟨_, rfl, a_cons (e_var 2 rfl (a_nil ⟨s, n, rfl, h1, h2, _, rfl, fun _ => ?_, fun h => Bool.noConfusion h⟩))⟩))))))))
    refine e_and (e_call c2 ev (by decide) (a_cons (e_ix ev.room (e_var 0 rfl (e_int ⟨_, rfl, a_cons (e_var 1 rfl (a_nil ⟨c, z, rfl, h5, _, rfl, fun _ => ?_, fun h => Bool.noConfusion h⟩))⟩)))))
    refine e_one (e_call c1 ev (by decide) (a_cons (e_ix ev.room (e_var 0 rfl (e_int ⟨_, rfl, a_cons (e_var 2 rfl (a_nil ⟨t, n, rfl, h3, h4, k⟩))⟩)))))
def S_isfr : S0 := fun ds Q => ∃ q : Rat, ds = [K69.fr q] ∧ Q (.bl true)
theorem ok_isfr (fr : Free mg) (hg : mg "gcd" = some (.builtin "math.gcd")) (D0 : DefOk K mg "is_fraction" (top 34) []) (c1 : FnS P w K mg base 1 "_is_integer" (spP K S_int)) : FnS P w K mg base 2 "is_fraction" (spP K S_isfr) := by
  refine mkFnW (N := ["thing", "above", "below"]) (ps := ["thing"]) D0 (C8.fnScope_by (by decide +kernel)) ?_ fr (fun _ _ _ _ _ _ us hl => match us, hl with | [_], _ => rfl) ?_
  · rintro _ ds Q ⟨_, rfl, _⟩; rfl
  · rintro f cdv A outer s H0 E ev hp _ ds Q F ⟨q, rfl, k⟩
    refine s_cons (s_if (t_bool (w_or (t_not (t_val (e_isT fr (e_var 0 rfl ⟨_, _, rfl, k_tt, fun h => Bool.noConfusion h, fun _ => ?_⟩)))))))
    refine w_or1 (t_cmp (c_ne ev.room (e_len fr (e_var 0 rfl (e_int ⟨_, rfl, fun h => Bool.noConfusion h, fun _ => ?_⟩)))))
    refine s_nil (s_cons (s_asg [1, 2] (e_var 0 rfl (g_tup ev.calm ⟨_, rfl, rfl, gs_cons (is := [1]) (g_name 1 ev.nd (gs_cons (is := [2]) (g_name 2 ev.nd (gs_nil ?_))))⟩))))
    refine s_cons (s_if (t_bool (w_or (t_not (t_val (e_call c1 ev (by decide) (a_cons (e_var 1 rfl (a_nil ⟨_, rfl, fun h => Bool.noConfusion h, fun _ => ?_⟩)))))))))
    refine w_or1 (t_not (t_val (e_call c1 ev (by decide) (a_cons (e_var 2 rfl (a_nil ⟨_, rfl, fun h => Bool.noConfusion h, fun _ => ?_⟩))))))
    refine s_nil (s_cons (s_ret (e_and (e_cmp (c_ge (e_var 2 rfl (e_int ⟨_, rfl, fun _ => ?_, fun h => ?_⟩)))))))
    · refine e_one (e_cmp (c_eq ev.room (e_gcd hg (e_var 1 rfl (e_var 2 rfl ⟨_, _, rfl, rfl, e_int ?_⟩)))))
      have e : Int.gcd q.num (q.den : Int) = 1 := by
        have := q.reduced
        show Nat.gcd q.num.natAbs (q.den : Int).natAbs = 1
        rw [Int.natAbs_natCast]
        exact this
      show Q (.bl (decide (((Int.gcd q.num (q.den : Int) : Nat) : Int) = 1)))
      rw [e]
      exact k
    · have h1 := den_pos q
      have : ¬ (1 : Int) ≤ q.den := by simpa using h
      omega
def S_size : S0 := fun ds Q => ∃ i j : Int, ds = [.int i, .int j] ∧ i ≤ j ∧ Q .non
theorem ok_size (fr : Free mg) (D0 : DefOk K mg "check_size" (top 20) []) : FnS P w K mg base 1 "check_size" (spP K S_size) := by
  refine mkFnW (N := ["size", "most"]) (ps := ["size", "most"]) D0 (C8.fnScope_by (by decide +kernel)) ?_ fr (fun _ _ _ _ _ _ us hl => match us, hl with | [_, _], _ => rfl) ?_
  · rintro _ ds Q ⟨_, _, rfl, _⟩; rfl
  · rintro f cdv A outer s H0 E ev hp _ ds Q F ⟨i, j, rfl, h, k⟩
    refine s_cons (s_if (t_cmp (c_gt (e_var 0 rfl (e_var 1 rfl ⟨_, rfl, fun hk => ?_, fun _ => ?_⟩)))))
    · have : j < i := by simpa using hk
      omega
    · exact s_nil (s_nil k)
end
end K69
set_option Elab.async false
set_option linter.all false
set_option maxRecDepth 100000
set_option maxHeartbeats 4000000
set_option exponentiation.threshold 10000
namespace K69
open PySem PySem.Spec L2 SY
theorem eq_fr {neg : Bool} {p q : Rat} {Q : D → Prop} (h : Q (.bl (if neg then !decide (p = q) else decide (p = q)))) : eqD neg (fr p) (fr q) Q := by
  have e : PyData.eqv (.tuple [.int p.num, .int (p.den : Int)]) (.tuple [.int q.num, .int (q.den : Int)]) = decide (p = q) := by
    rw [Bool.eq_iff_iff, decide_eq_true_iff]
    simp only [PyData.eqv, PyData.eqvAll, Bool.and_eq_true, beq_iff_eq, Bool.and_true]
    constructor
    · intro ⟨h1, h2⟩
      rw [← Rat.num_divInt_den p, ← Rat.num_divInt_den q, h1]
      congr 1
    · intro h; subst h; exact ⟨rfl, rfl⟩
  refine ⟨.tuple [.int p.num, .int (p.den : Int)], .tuple [.int q.num, .int (q.den : Int)], rfl, rfl, ?_, ?_, ?_⟩
  · simp [SeqAt.shaped, PyData.canLay0, PyData.canLayAll0, PyData.depth, PyData.depthAll]
  · simp [SeqAt.shaped, PyData.canLay0, PyData.canLayAll0, PyData.depth, PyData.depthAll]
  · rw [e]; exact h
section
variable {P : Program} {w : World} {K : PySem.W.Frag} {mg : Str → Option Value} {base : Heap}
def S_astup : S0 := fun ds Q => ∃ rows : List (List Rat), ds = [.lst (rows.map fun r => .lst (frs r))] ∧ rows.length ≤ 100000 ∧ Q (.tup (rows.map fun r => .tup (frs r)))
theorem ok_astup (fr : Free mg) (D0 : DefOk K mg "as_tuples" (top 21) []) : FnS P w K mg base 1 "as_tuples" (spP K S_astup) := by
  refine mkFnW (N := ["rows", "row"]) (ps := ["rows"]) D0 (C8.fnScope_by (by decide +kernel)) ?_ fr (fun _ _ _ _ _ _ us hl => match us, hl with | [_], _ => rfl) ?_
  · rintro _ ds Q ⟨_, rfl, _⟩; rfl
  · rintro f cdv A outer s H0 E ev hp _ ds Q F ⟨rows, rfl, hl, k⟩
    refine s_cons (s_ret (e_tuple fr (e_own (o_lc (own := [("row", 1)]) [1] ev.calm ev.nd ?_ (by decide) (lc_map ?_)))))
    · show blkC ["rows", "row"] (defScope (top 21)) _ _ = true
      decide +kernel
    · refine i_val (e_var 0 rfl ⟨_, rfl, by rw [List.length_map]; exact hl, rows.map fun r => .tup (frs r), by rw [List.length_map, List.length_map], k, fun i d hd y hy => ?_⟩)
      rw [List.getElem?_map] at hd hy
      obtain ⟨r, e1, rfl⟩ := Option.map_eq_some_iff.mp hd
      rw [e1] at hy
      cases hy
      intro s H C cl fp
      refine g_name 1 ev.nd ?_
      intro s H C cl fp
      exact e_tuple fr (e_var 1 rfl rfl)
/-! is_alphabet -/
/-- an alphabet: one to five letters, in order -/
def AlOk (z : Str) : Prop := 1 ≤ z.cps.toList.length ∧ z.cps.toList.length ≤ 5 ∧ (∀ c ∈ z.cps.toList, 97 ≤ c ∧ c ≤ 122) ∧ z.cps.toList.Pairwise (· < ·)
theorem len_str (z : Str) : z.length = z.cps.toList.length := by simp [Str.length]
theorem lt1 {a b : Nat} : [a] < [b] ↔ a < b := by
  rw [List.cons_lt_cons_iff]
  constructor
  · intro h
    rcases h with h | ⟨_, h⟩
    · exact h
    · exact absurd h (List.not_lt_nil _)
  · exact .inl
theorem cut_drop {α : Type} (l : List α) (i : Nat) : (l.drop (min i l.length)).take (l.length - min i l.length) = l.drop i := by
  by_cases h : i ≤ l.length
  · rw [Nat.min_eq_left h]
    exact List.take_of_length_le (by rw [List.length_drop]; exact Nat.le_refl _)
  · rw [Nat.min_eq_right (by omega), List.drop_eq_nil_of_le (Nat.le_refl _), List.drop_eq_nil_of_le (by omega)]
    simp
theorem cut_take {α : Type} (l : List α) (i : Nat) : (l.drop 0).take (min i l.length - 0) = l.take i := by
  rw [List.drop_zero, Nat.sub_zero, List.take_eq_take_iff, Nat.min_assoc, Nat.min_self]
theorem cutS_drop (z : Str) (i : Nat) : (cutS z (some (i : Int)) none).cps.toList = z.cps.toList.drop i := by
  unfold cutS
  rw [HT.sIx_nat, HT.sIx_none, len_str]
  exact cut_drop z.cps.toList i
theorem cutS_take (z : Str) (i : Nat) : (cutS z none (some (i : Int))).cps.toList = z.cps.toList.take i := by
  unfold cutS
  rw [HT.sIx_nat, HT.sIx_none, len_str]
  exact cut_take z.cps.toList i
def S_alpha : S0 := fun ds Q => ∃ z : Str, ds = [.str z] ∧ AlOk z ∧ Q (.bl true)
theorem bls_true : ∀ n : Nat, blsD (List.replicate n (.bl true)) = some (List.replicate n true)
  | 0 => rfl
  | n + 1 => by rw [List.replicate_succ, List.replicate_succ]; show (blsD (List.replicate n (.bl true))).map (true :: ·) = _; rw [bls_true n]; rfl
theorem all_true (n : Nat) : (List.replicate n true).all id = true := by
  rw [List.all_eq_true]
  intro x hx
  exact (List.mem_replicate.mp hx).2
theorem ok_alpha (fr : Free mg) (D0 : DefOk K mg "is_alphabet" (top 17) []) : FnS P w K mg base 1 "is_alphabet" (spP K S_alpha) := by
  refine mkFnW (N := ["letters", "before", "behind"]) (ps := ["letters"]) D0 (C8.fnScope_by (by decide +kernel)) ?_ fr (fun _ _ _ _ _ _ us hl => match us, hl with | [_], _ => rfl) ?_
  · rintro _ ds Q ⟨_, rfl, _⟩; rfl
  · rintro f cdv A outer s H0 E ev hp _ ds Q F ⟨z, rfl, ⟨h1, h5, hr, hs⟩, k⟩
    have hz : z.length ≤ 100000 := by rw [len_str]; omega
    have h0 : z.cps.toList[0]? = some z.cps.toList[0] := List.getElem?_eq_getElem h1
    have hl : z.cps.toList[z.cps.toList.length - 1]? = some z.cps.toList[z.cps.toList.length - 1] := List.getElem?_eq_getElem (by omega)
    refine s_cons (s_if (t_bool (w_or (t_not (t_val (e_isS fr (e_var 0 rfl ⟨_, _, rfl, k_ss, fun h => Bool.noConfusion h, fun _ => ?_⟩)))))))
    refine w_or (t_cmp (c_lt (e_len fr (e_var 0 rfl ⟨hz, e_int ⟨_, rfl, fun h => ?_, fun _ => ?_⟩⟩))))
    · have : (z.length : Int) < 1 := by simpa using h
      rw [len_str] at this
      omega
    refine w_or1 (t_cmp (c_gt (e_len fr (e_var 0 rfl ⟨hz, e_int ⟨_, rfl, fun h => ?_, fun _ => ?_⟩⟩))))
    · have : 5 < (z.length : Int) := by simpa using h
      rw [len_str] at this
      omega
    refine s_nil (s_cons (s_if (t_bool (w_or (t_cmp (c_lt (e_ix ev.room (e_var 0 rfl (e_int ⟨hz, _, atI_nat h0, e_str ⟨_, rfl, fun h => ?_, fun _ => ?_⟩⟩)))))))))
    · have h2 : [z.cps.toList[0]] < [97] := of_decide_eq_true h
      have h3 := (hr z.cps.toList[0] (List.getElem_mem _)).1
      have h4 := lt1.mp h2
      omega
    refine w_or1 (t_cmp (c_gt (e_ix ev.room (e_var 0 rfl (e_neg (e_int ⟨_, rfl, hz, z.cps.toList[z.cps.toList.length - 1], ?_, e_str ⟨_, rfl, fun h => ?_, fun _ => ?_⟩⟩))))))
    · unfold L2.atI ixN
      rw [if_neg (by decide), if_pos (by omega)]
      show z.cps.toList[(-1 + (z.cps.toList.length : Int)).toNat]? = _
      rw [← hl]
      congr 1
      omega
    · have h2 : [122] < [z.cps.toList[z.cps.toList.length - 1]] := of_decide_eq_true h
      have h3 := (hr z.cps.toList[z.cps.toList.length - 1] (List.getElem_mem _)).2
      have h4 := lt1.mp h2
      omega
    refine s_nil (s_cons (s_ret (e_all fr ev.calm (e_own (o_lc (own := [("before", 1), ("behind", 2)]) [1, 2] ev.calm ev.nd ?_ (by decide) (lc_map ?_))))))
    · show blkC ["letters", "before", "behind"] (defScope (top 17)) _ _ = true
      decide +kernel
    refine i_zip fr (e_var 0 rfl ⟨_, rfl, e_sl (e_var 0 rfl (p_some (e_int ⟨_, rfl, p_none ⟨hz, _, rfl, ?_⟩⟩)))⟩)
    have e1 := cutS_drop z 1
    have hlen : (SY.zipD (z.cps.toList.map fun c => D.str ⟨#[c]⟩) ((cutS z (some ((1 : Nat) : Int)) none).cps.toList.map fun c => D.str ⟨#[c]⟩)).length = z.cps.toList.length - 1 := by
      unfold SY.zipD
      rw [List.length_zipWith, List.length_map, List.length_map, e1, List.length_drop]
      omega
    refine ⟨?_, List.replicate (z.cps.toList.length - 1) (.bl true), ?_, ⟨_, _, rfl, bls_true _, by rw [all_true]; exact k⟩, fun i d hd y hy => ?_⟩
    · exact Nat.le_trans (Nat.le_of_eq hlen) (by omega)
    · rw [List.length_replicate]; exact hlen.symm
    · have hi : i < z.cps.toList.length - 1 := by
        have := (List.getElem?_eq_some_iff.mp hd).1
        exact Nat.lt_of_lt_of_eq this hlen
      have hd2 : d = .tup [.str ⟨#[z.cps.toList[i]]⟩, .str ⟨#[z.cps.toList[i + 1]]⟩] := by
        have hd' : (SY.zipD (z.cps.toList.map fun c => D.str ⟨#[c]⟩) ((cutS z (some ((1 : Nat) : Int)) none).cps.toList.map fun c => D.str ⟨#[c]⟩))[i]? = some d := hd
        unfold SY.zipD at hd'
        rw [e1, List.getElem?_zipWith, List.getElem?_map, List.getElem?_map, List.getElem?_drop, List.getElem?_eq_getElem (show i < z.cps.toList.length by omega), Nat.add_comm 1 i, List.getElem?_eq_getElem (show i + 1 < z.cps.toList.length by omega)] at hd'
        exact (Option.some.inj hd').symm
      subst hd2
      have hy2 : y = .bl true := by
        have := List.mem_of_getElem? hy
        exact (List.mem_replicate.mp this).2
      subst hy2
      intro s H C cl fp
      refine g_tup ev.calm ⟨_, rfl, rfl, gs_cons (is := [1]) (g_name 1 ev.nd (gs_cons (is := [2]) (g_name 2 ev.nd (gs_nil ?_))))⟩
      intro s H C cl fp
      refine e_cmp (c_lt (e_var 1 rfl (e_var 2 rfl ?_)))
      have hlt : z.cps.toList[i] < z.cps.toList[i + 1] := List.pairwise_iff_getElem.mp hs i (i + 1) (by omega) (by omega) (by omega)
      show D.bl (decide ([z.cps.toList[i]] < [z.cps.toList[i + 1]])) = .bl true
      rw [decide_eq_true (lt1.mpr hlt)]
end
end K69
set_option Elab.async false
set_option linter.all false
set_option maxRecDepth 100000
set_option maxHeartbeats 4000000
set_option exponentiation.threshold 10000
namespace K69
open PySem PySem.Spec L2 SY
/-- a row of chances, small enough -/
structure Ch (l : List Rat) : Prop where
  nn : ∀ q ∈ l, 0 ≤ q
  one : sumQ l = 1
  len : l.length ≤ 1000
  sz : ∃ n A, (∀ q ∈ l, Sz n A q) ∧ 0 < n ∧ n < 2 ^ 2900 ∧ l.length * A < 2 ^ 2900 ∧ A < 2 ^ 2900
def dotQ (r c : List Rat) : Rat := sumQ (r.zipWith (· * ·) c)
section
variable {P : Program} {w : World} {K : PySem.W.Frag} {mg : Str → Option Value} {base : Heap}
def S_chances : S0 := fun ds Q => ∃ l, ds = [.lst (frs l)] ∧ Ch l ∧ Q (.bl true)
theorem frs_len (l : List Rat) : (frs l).length = l.length := List.length_map ..
theorem ok_chances (fr : Free mg) (h1 : GlobD K mg "ONE" (K69.fr 1)) (D0 : DefOk K mg "is_chances" (top 57) []) (c1 : FnS P w K mg base 2 "is_fraction" (spP K S_isfr)) (c2 : FnSt P w K mg base 3 "total" S_total) : FnS P w K mg base 4 "is_chances" (spP K S_chances) := by
  refine mkFnW (N := ["row", "entry"]) (ps := ["row"]) D0 (C8.fnScope_by (by decide +kernel)) ?_ fr (fun _ _ _ _ _ _ us hl => match us, hl with | [_], _ => rfl) ?_
  · rintro _ ds Q ⟨_, rfl, _⟩; rfl
  · rintro f cdv A outer s H0 E ev hp _ ds Q F ⟨l, rfl, hc, k⟩
    obtain ⟨n, A, hs, hn, hn2, hA, hA2⟩ := hc.sz
    have hl := hc.len
    refine s_cons (s_if (t_not (t_val (e_all fr ev.calm (e_own (o_lc (own := [("entry", 1)]) [1] ev.calm ev.nd ?_ (by decide) (lc_map ?_)))))))
    · show blkC ["row", "entry"] (defScope (top 57)) _ _ = true
      decide +kernel
    refine i_val (e_var 0 rfl ⟨_, rfl, by rw [frs_len]; omega, List.replicate l.length (.bl true), by rw [frs_len, List.length_replicate], ⟨_, _, rfl, bls_true _, ?_⟩, fun i d hd y hy => ?_⟩)
    · rw [all_true]
      refine ⟨fun h => Bool.noConfusion h, fun _ => ?_⟩
      refine s_nil (s_cons (s_ret (e_cmp (c_eq ev.room (e_callS c2 ev (by decide) (e_var 0 rfl ?_))))))
      refine ⟨by rw [frs_len]; omega, l, n, A, rfl, hs, hn, hn2, hA, hA2, e_glob h1 (eq_fr ?_)⟩
      rw [hc.one]
      exact k
    · have hy2 : y = .bl true := (List.mem_replicate.mp (List.mem_of_getElem? hy)).2
      subst hy2
      obtain ⟨q, hq, rfl⟩ := frs_get hd
      intro s H C cl fp
      refine g_name 1 ev.nd ?_
      intro s H C cl fp
      refine e_and (e_call c1 ⟨ev.nd, ev.calm, ev.room, ev.free⟩ (by decide) (a_cons (e_var 1 rfl (a_nil ⟨q, rfl, _, rfl, fun _ => ?_, fun h => Bool.noConfusion h⟩))))
      have h0 : 0 ≤ q.num := Rat.num_nonneg.mpr (hc.nn q (List.mem_of_getElem? hq))
      refine e_one (e_cmp (c_ge (e_p0 (n := 3) ⟨ev.nd, ev.calm, ev.room, ev.free⟩ (e_var 1 rfl ⟨q, rfl, e_int ?_⟩))))
      show D.bl (decide ((0 : Int) ≤ q.num)) = .bl true
      rw [decide_eq_true h0]
/-- rows as a list of lists -/
def rowsL (m : List (List Rat)) : D := .lst (m.map fun r => .lst (frs r))
def rowsT (m : List (List Rat)) : D := .tup (m.map fun r => .tup (frs r))
theorem rows_get {m : List (List Rat)} {i : Nat} {d : D} (h : (m.map fun r => D.lst (frs r))[i]? = some d) : ∃ r, m[i]? = some r ∧ d = .lst (frs r) := by
  rw [List.getElem?_map] at h
  obtain ⟨q, h1, rfl⟩ := Option.map_eq_some_iff.mp h
  exact ⟨q, h1, rfl⟩
def S_widths : S0 := fun ds Q => ∃ (m : List (List Rat)) (h w : Int), ds = [rowsL m, .int h, .int w] ∧ (m.length : Int) = h ∧ (∀ r ∈ m, (r.length : Int) = w) ∧ Q .non
theorem ok_widths (fr : Free mg) (D0 : DefOk K mg "check_widths" (top 58) []) : FnS P w K mg base 1 "check_widths" (spP K S_widths) := by
  refine mkFnW (N := ["rows", "height", "width", "row"]) (ps := ["rows", "height", "width"]) D0 (C8.fnScope_by (by decide +kernel)) ?_ fr (fun _ _ _ _ _ _ us hl => match us, hl with | [_, _, _], _ => rfl) ?_
  · rintro _ ds Q ⟨_, _, _, rfl, _⟩; rfl
  · rintro f cdv A outer s H0 E ev hp _ ds Q F ⟨m, h, w, rfl, hh, hw, k⟩
    refine s_cons (s_if (t_cmp (c_ne ev.room (e_len fr (e_var 0 rfl (e_var 1 rfl ⟨_, rfl, fun hk => ?_, fun _ => ?_⟩))))))
    · have : ¬ ((m.map fun r => D.lst (frs r)).length : Int) = h := by simpa using hk
      rw [List.length_map] at this
      exact absurd hh this
    refine s_nil (s_cons (s_for [3] hp ev (i_val (e_var 0 rfl ⟨_, rfl, fun i e => ∃ v, e = [.sh (rowsL m), .sh (.int h), .sh (.int w), v], ⟨.un, rfl⟩, fun e ⟨v, he⟩ => s_nil k, ?_⟩))))
    rintro i d e hd ⟨v, rfl⟩
    obtain ⟨r, hr, rfl⟩ := rows_get hd
    refine g_name 3 ev.nd (s_cons (s_if (t_cmp (c_ne ev.room (e_len fr (e_var 3 rfl (e_var 2 rfl ⟨_, rfl, fun hk => ?_, fun _ => ?_⟩)))))))
    · have : ¬ ((frs r).length : Int) = w := by simpa using hk
      rw [frs_len] at this
      exact absurd (hw r (List.mem_of_getElem? hr)) this
    · exact s_nil (s_nil ⟨_, rfl⟩)
def S_checkch : S0 := fun ds Q => ∃ (f : List Rat) (m s : List (List Rat)), ds = [.lst (frs f), rowsL m, rowsL s] ∧ Ch f ∧ (∀ r ∈ m, Ch r) ∧ (∀ r ∈ s, Ch r) ∧ m.length ≤ 1000 ∧ s.length ≤ 1000 ∧ Q .non
theorem ok_checkch (fr : Free mg) (D0 : DefOk K mg "check_chances" (top 59) []) (c1 : FnS P w K mg base 4 "is_chances" (spP K S_chances)) : FnS P w K mg base 5 "check_chances" (spP K S_checkch) := by
  refine mkFnW (N := ["first", "moves", "shows", "places", "place", "row", "state"]) (ps := ["first", "moves", "shows"]) D0 (C8.fnScope_by (by decide +kernel)) ?_ fr (fun _ _ _ _ _ _ us hl => match us, hl with | [_, _, _], _ => rfl) ?_
  · rintro _ ds Q ⟨_, _, _, rfl, _⟩; rfl
  · rintro f cdv A outer s H0 E ev hp _ ds Q F ⟨fi, m, sh, rfl, h1, h2, h3, hm, hs, k⟩
    have ev' : ∀ (s : Shared) (H : Hp) (C : Addr) (cl : List (Str × Addr)) (fp : List Addr) (sc : Scope), True := fun _ _ _ _ _ _ => trivial
    let Pr : D → Prop := fun d => ∃ pl r, d = .tup [pl, .lst (frs r)] ∧ Ch r
    have comp : ∀ (X : List (List Rat)), (∀ r ∈ X, Ch r) → X.length ≤ 1000 → ∀ (i : Nat) d, (enD (X.map fun r => D.lst (frs r)))[i]? = some d → ∃ r, d = .tup [.int (i : Nat), .lst (frs r)] ∧ Ch r := fun X hX hl i d hd => by
      unfold enD at hd
      rw [List.getElem?_mapIdx] at hd
      obtain ⟨d0, e1, rfl⟩ := Option.map_eq_some_iff.mp hd
      obtain ⟨r, hr, rfl⟩ := rows_get e1
      exact ⟨r, rfl, hX r (List.mem_of_getElem? hr)⟩
    refine s_cons (s_set 3 ev (e_own (o_lst (a_cons (e_tup (a_cons (e_tup (a_cons (e_str (a_cons (e_int (a_nil ⟨Nat.le_of_ble_eq_true rfl, a_cons (e_var 0 rfl (a_nil ⟨Nat.le_of_ble_eq_true rfl, a_nil ⟨Nat.le_of_ble_eq_true rfl, ?_⟩⟩))⟩))))))))))))
    refine s_cons (s_set 3 ev (e_own (o_cat (e_var 3 rfl (e_own (o_lc (own := [("state", 6), ("row", 5)]) [6, 5] ev.calm ev.nd ?_ (by decide) (lc_all (fun _ d => Pr d) ?_)))))))
    · show blkC ["first", "moves", "shows", "places", "place", "row", "state"] (defScope (top 59)) _ _ = true
      decide +kernel
    refine i_en fr (e_var 1 rfl ⟨_, rfl, ?_, fun l2 hl2 hp2 => ⟨_, _, rfl, rfl, ?_, ?_⟩, ?_⟩)
    · unfold enD; rw [List.length_mapIdx, List.length_map]; omega
    · unfold enD at hl2; rw [List.length_mapIdx, List.length_map] at hl2
      show 1 + l2.length ≤ 100000
      omega
    · refine s_cons (s_set 3 ev (e_own (o_cat (e_var 3 rfl (e_own (o_lc (own := [("state", 6), ("row", 5)]) [6, 5] ev.calm ev.nd ?_ (by decide) (lc_all (fun _ d => Pr d) ?_)))))))
      · show blkC ["first", "moves", "shows", "places", "place", "row", "state"] (defScope (top 59)) _ _ = true
        decide +kernel
      refine i_en fr (e_var 2 rfl ⟨_, rfl, ?_, fun l3 hl3 hp3 => ⟨_, _, rfl, rfl, ?_, ?_⟩, ?_⟩)
      · unfold enD; rw [List.length_mapIdx, List.length_map]; omega
      · unfold enD at hl2 hl3; rw [List.length_mapIdx, List.length_map] at hl2 hl3
        rw [List.length_append]
        show 1 + l2.length + l3.length ≤ 100000
        omega
      · refine s_cons (s_for [4, 5] hp ev (i_val (e_var 3 rfl ⟨_, rfl, fun i e => ∃ v1 v2, e = [.sh (.lst (frs fi)), .sh (rowsL m), .sh (rowsL sh), .sh (.lst (_ ++ l2 ++ l3)), v1, v2, .un], ⟨.un, .un, rfl⟩, fun e ⟨_, _, he⟩ => s_nil k, ?_⟩)))
        rintro i d e hd ⟨v1, v2, rfl⟩
        have hd2 : Pr d := by
          have hmem := List.mem_of_getElem? hd
          rcases List.mem_append.mp hmem with hmem | hmem
          · rcases List.mem_append.mp hmem with hmem | hmem
            · rw [List.mem_singleton] at hmem
              exact ⟨_, fi, hmem, h1⟩
            · obtain ⟨j, hj⟩ := List.getElem?_of_mem hmem
              exact hp2 j d hj
          · obtain ⟨j, hj⟩ := List.getElem?_of_mem hmem
            exact hp3 j d hj
        obtain ⟨pl, r, rfl, hr⟩ := hd2
        refine g_tup ev.calm ⟨_, rfl, rfl, gs_cons (is := [4]) (g_name 4 ev.nd (gs_cons (is := [5]) (g_name 5 ev.nd (gs_nil ?_))))⟩
        refine s_cons (s_if (t_not (t_val (e_call c1 ev (by decide) (a_cons (e_var 5 rfl (a_nil ⟨r, rfl, hr, fun h => Bool.noConfusion h, fun _ => s_nil (s_nil ⟨_, _, rfl⟩)⟩)))))))
      · intro i d hd s H C cl fp
        obtain ⟨r, rfl, hr⟩ := comp sh h3 hs i d hd
        refine g_tup ev.calm ⟨_, rfl, rfl, gs_cons (is := [6]) (g_name 6 ev.nd (gs_cons (is := [5]) (g_name 5 ev.nd (gs_nil ?_))))⟩
        intro s H C cl fp
        exact e_tup (a_cons (e_tup (a_cons (e_str (a_cons (e_var 6 rfl (a_nil ⟨Nat.le_of_ble_eq_true rfl, a_cons (e_var 5 rfl (a_nil ⟨Nat.le_of_ble_eq_true rfl, _, r, rfl, hr⟩))⟩)))))))
    · intro i d hd s H C cl fp
      obtain ⟨r, rfl, hr⟩ := comp m h2 hm i d hd
      refine g_tup ev.calm ⟨_, rfl, rfl, gs_cons (is := [6]) (g_name 6 ev.nd (gs_cons (is := [5]) (g_name 5 ev.nd (gs_nil ?_))))⟩
      intro s H C cl fp
      exact e_tup (a_cons (e_tup (a_cons (e_str (a_cons (e_var 6 rfl (a_nil ⟨Nat.le_of_ble_eq_true rfl, a_cons (e_var 5 rfl (a_nil ⟨Nat.le_of_ble_eq_true rfl, _, r, rfl, hr⟩))⟩)))))))
end
end K69
set_option Elab.async false
set_option linter.all false
set_option maxRecDepth 100000
set_option maxHeartbeats 4000000
/-! QN: vectors and sums over ranges. -/
namespace K69
def vec {α : Type} (n : Nat) (f : Nat → α) : List α := (List.range n).map f
def sumN (n : Nat) (f : Nat → Rat) : Rat := sumQ (vec n f)
theorem vec_len {α : Type} (n : Nat) (f : Nat → α) : (vec n f).length = n := by unfold vec; rw [List.length_map, List.length_range]
theorem vec_at {α : Type} {n i : Nat} {f : Nat → α} (h : i < n) : (vec n f)[i]? = some (f i) := by
  unfold vec
  rw [List.getElem?_map, List.getElem?_range h]; rfl
theorem vec_get {α : Type} {n i : Nat} {f : Nat → α} {x : α} (h : (vec n f)[i]? = some x) : i < n ∧ x = f i := by
  have hi : i < n := by
    have := (List.getElem?_eq_some_iff.mp h).1
    rwa [vec_len] at this
  rw [vec_at hi] at h
  exact ⟨hi, (Option.some.inj h).symm⟩
theorem vec_ext {α : Type} {n : Nat} {f g : Nat → α} (h : ∀ i, i < n → f i = g i) : vec n f = vec n g := by
  unfold vec
  exact List.map_congr_left fun i hi => h i (List.mem_range.mp hi)
theorem vec_mem {α : Type} {n : Nat} {f : Nat → α} {x : α} (h : x ∈ vec n f) : ∃ i, i < n ∧ x = f i := by
  unfold vec at h
  obtain ⟨i, h1, h2⟩ := List.mem_map.mp h
  exact ⟨i, List.mem_range.mp h1, h2.symm⟩
theorem vec_map {α β : Type} {n : Nat} {f : Nat → α} (g : α → β) : (vec n f).map g = vec n fun i => g (f i) := by unfold vec; rw [List.map_map]; rfl
theorem vec_succ {α : Type} (n : Nat) (f : Nat → α) : vec (n + 1) f = vec n f ++ [f n] := by unfold vec; rw [List.range_succ, List.map_append]; rfl
theorem vec_eq {α : Type} {n : Nat} {l : List α} {f : Nat → α} (hl : l.length = n) (h : ∀ i x, l[i]? = some x → x = f i) : l = vec n f := by
  refine List.ext_getElem? fun i => ?_
  by_cases hi : i < n
  · have e : l[i]? = some l[i] := List.getElem?_eq_getElem (by omega)
    rw [vec_at hi, e, h i _ e]
  · rw [List.getElem?_eq_none (by omega), List.getElem?_eq_none (by rw [vec_len]; omega)]
theorem vec_set {α : Type} {n i : Nat} {f : Nat → α} {x : α} : (vec n f).set i x = vec n fun j => if j = i then x else f j := by
  refine vec_eq (by rw [List.length_set, vec_len]) fun j y h => ?_
  by_cases e : j = i
  · subst e
    have hj : j < (vec n f).length := by have := (List.getElem?_eq_some_iff.mp h).1; rwa [List.length_set] at this
    rw [List.getElem?_set_self hj] at h
    rw [if_pos rfl]
    exact (Option.some.inj h).symm
  · rw [List.getElem?_set_ne (Ne.symm e)] at h
    rw [if_neg e]
    exact (vec_get h).2
theorem vec_take {α : Type} {n i : Nat} {f : Nat → α} (h : i ≤ n) : (vec n f).take i = vec i f := by
  unfold vec
  rw [← List.map_take, List.take_range, Nat.min_eq_left h]
theorem vec_zip {α β γ : Type} {n : Nat} {f : Nat → α} {g : Nat → β} {h : α → β → γ} : (vec n f).zipWith h (vec n g) = vec n fun i => h (f i) (g i) := by
  refine vec_eq (by rw [List.length_zipWith, vec_len, vec_len]; omega) fun i x e => ?_
  rw [List.getElem?_zipWith] at e
  cases h1 : (vec n f)[i]? with
  | none => rw [h1] at e; cases e
  | some a =>
    cases h2 : (vec n g)[i]? with
    | none => rw [h1, h2] at e; cases e
    | some b =>
      rw [h1, h2] at e
      rw [← (vec_get h1).2, ← (vec_get h2).2]
      exact (Option.some.inj e).symm
theorem vec_rev {α : Type} {n : Nat} {f : Nat → α} : (vec n f).reverse = vec n fun i => f (n - 1 - i) := by
  refine vec_eq (by rw [List.length_reverse, vec_len]) fun i x e => ?_
  have hi : i < n := by
    have := (List.getElem?_eq_some_iff.mp e).1
    rwa [List.length_reverse, vec_len] at this
  rw [List.getElem?_reverse (by rw [vec_len]; exact hi), vec_len] at e
  exact (vec_get e).2
theorem sumN_zero (f : Nat → Rat) : sumN 0 f = 0 := rfl
theorem sumN_succ (n : Nat) (f : Nat → Rat) : sumN (n + 1) f = sumN n f + f n := by unfold sumN; rw [vec_succ, sumQ_snoc]
theorem sumN_ext {n : Nat} {f g : Nat → Rat} (h : ∀ i, i < n → f i = g i) : sumN n f = sumN n g := by unfold sumN; rw [vec_ext h]
theorem sumN_add (n : Nat) (f g : Nat → Rat) : sumN n (fun i => f i + g i) = sumN n f + sumN n g := by
  induction n with
  | zero => rw [sumN_zero, sumN_zero, sumN_zero, Rat.add_zero]
  | succ n ih => rw [sumN_succ, sumN_succ, sumN_succ, ih]; grind
theorem sumN_mul (n : Nat) (c : Rat) (f : Nat → Rat) : sumN n (fun i => c * f i) = c * sumN n f := by
  induction n with
  | zero => rw [sumN_zero, sumN_zero, Rat.mul_zero]
  | succ n ih => rw [sumN_succ, sumN_succ, ih]; grind
theorem sumN_mulr (n : Nat) (c : Rat) (f : Nat → Rat) : sumN n (fun i => f i * c) = sumN n f * c := by
  rw [Rat.mul_comm, ← sumN_mul]
  exact sumN_ext fun i _ => Rat.mul_comm _ _
theorem sumN_0 (n : Nat) : sumN n (fun _ => 0) = 0 := by
  induction n with
  | zero => rfl
  | succ n ih => rw [sumN_succ, ih, Rat.add_zero]
theorem sumN_comm (n m : Nat) (f : Nat → Nat → Rat) : sumN n (fun i => sumN m fun j => f i j) = sumN m fun j => sumN n fun i => f i j := by
  induction n with
  | zero => rw [sumN_zero]; exact (sumN_0 m).symm
  | succ n ih =>
    rw [sumN_succ, ih, ← sumN_add]
    exact sumN_ext fun j _ => (sumN_succ n fun i => f i j).symm
theorem Sz.sumN {N A n : Nat} {f : Nat → Rat} (hN : 0 < N) (h : ∀ i, i < n → Sz N A (f i)) : Sz N (n * A) (K69.sumN n f) := by
  have := Sz.sum (A := A) (l := vec n f) hN fun q hq => by
    obtain ⟨i, hi, rfl⟩ := vec_mem hq
    exact h i hi
  rw [vec_len] at this
  exact this
/-- what the pairs with t at their head add up to -/
def pick (r : List (Nat × Rat)) (t : Nat) : Rat := sumQ ((r.filter fun x => x.1 == t).map (·.2))
theorem pick_nil (t : Nat) : pick [] t = 0 := rfl
theorem pick_snoc (r : List (Nat × Rat)) (u : Nat) (q : Rat) (t : Nat) : pick (r ++ [(u, q)]) t = if t = u then pick r t + q else pick r t := by
  unfold pick
  rw [List.filter_append, List.map_append, sumQ_append]
  by_cases h : t = u
  · subst h
    rw [if_pos rfl]
    simp [sumQ_one]
  · rw [if_neg h]
    have : (u == t) = false := by simpa using fun e => h e.symm
    simp [this, sumQ, Rat.add_zero]
theorem pick_perm {r s : List (Nat × Rat)} (h : r.Perm s) (t : Nat) : pick r t = pick s t := sumQ_perm ((h.filter _).map _)
theorem sum_pick {n : Nat} {g : Nat → Rat} : ∀ (r : List (Nat × Rat)), (∀ x ∈ r, x.1 < n) → sumQ (r.map fun x => x.2 * g x.1) = sumN n fun t => pick r t * g t := by
  intro r
  induction r with
  | nil =>
    intro _
    rw [show (fun t => pick [] t * g t) = fun _ => (0 : Rat) from funext fun t => by rw [pick_nil, Rat.zero_mul], sumN_0]
    rfl
  | cons x r ih =>
    intro h
    have e : ∀ t, pick (x :: r) t = (if t = x.1 then x.2 else 0) + pick r t := fun t => by
      unfold pick
      by_cases ht : t = x.1
      · rw [if_pos ht, List.filter_cons, if_pos (by simp [ht]), List.map_cons, sumQ]
      · rw [if_neg ht, List.filter_cons, if_neg (by simpa using fun e => ht e.symm), Rat.zero_add]
    rw [List.map_cons, sumQ, ih fun y hy => h y (by simp [hy])]
    have e2 : (fun t => pick (x :: r) t * g t) = fun t => (if t = x.1 then x.2 * g x.1 else 0) + pick r t * g t := funext fun t => by
      rw [e]
      by_cases ht : t = x.1
      · rw [if_pos ht, if_pos ht, ht]; grind
      · rw [if_neg ht, if_neg ht]; grind
    rw [e2, sumN_add]
    congr 1
    have one : ∀ (m k : Nat) (c : Rat), sumN m (fun t => if t = k then c else 0) = if k < m then c else 0 := fun m k c => by
      induction m with
      | zero => rw [sumN_zero, if_neg (by omega)]
      | succ m ih =>
        rw [sumN_succ, ih]
        by_cases h1 : k < m
        · rw [if_pos h1, if_neg (show ¬ m = k by omega), if_pos (show k < m + 1 by omega), Rat.add_zero]
        · by_cases h2 : m = k
          · rw [if_neg h1, if_pos h2, if_pos (by omega), Rat.zero_add]
          · rw [if_neg h1, if_neg h2, if_neg (by omega), Rat.add_zero]
    rw [one, if_pos (h x (by simp))]
end K69
set_option Elab.async false
set_option linter.all false
set_option maxRecDepth 100000
set_option maxHeartbeats 4000000
set_option exponentiation.threshold 10000
namespace K69
open PySem PySem.Spec L2 SY
theorem frs_vec_at {n i : Nat} {f : Nat → Rat} (h : i < n) : (frs (vec n f))[i]? = some (fr (f i)) := by
  unfold frs; rw [List.getElem?_map, vec_at h]; rfl
theorem frs_vec_get {n i : Nat} {f : Nat → Rat} {d : D} (h : (frs (vec n f))[i]? = some d) : i < n ∧ d = fr (f i) := by
  obtain ⟨q, h1, rfl⟩ := frs_get h
  obtain ⟨h2, rfl⟩ := vec_get h1
  exact ⟨h2, rfl⟩
theorem frs_vec_len (n : Nat) (f : Nat → Rat) : (frs (vec n f)).length = n := by rw [frs_len, vec_len]
theorem frs_vec_set {n i : Nat} {f : Nat → Rat} {x : Rat} : (frs (vec n f)).set i (fr x) = frs (vec n fun j => if j = i then x else f j) := by
  unfold frs
  rw [← List.map_set, vec_set]
theorem fr_ok {q : Rat} {n A : Nat} (h : Sz n A q) (hn : n < 2 ^ 2900) (hA : A < 2 ^ 2900) : Ok q := h.ok hn hA
section
variable {P : Program} {w : World} {K : PySem.W.Frag} {mg : Str → Option Value} {base : Heap}
def S_dot : S0 := fun ds Q => ∃ (n : Nat) (f g : Nat → Rat) (N A : Nat), ds = [.tup (frs (vec n f)), .tup (frs (vec n g))] ∧ n ≤ 1000 ∧ (∀ i, i < n → Ok (f i) ∧ Ok (g i) ∧ Sz N A (f i * g i)) ∧ 0 < N ∧ N < 2 ^ 2900 ∧ (n + 1) * A < 2 ^ 2900 ∧ Q (fr (sumN n fun i => f i * g i))
theorem ok_dot (fr : Free mg) (hz : GlobD K mg "ZERO" (K69.fr 0)) (D0 : DefOk K mg "dot" (top 40) []) (c1 : FnS P w K mg base 2 "add" (spP K S_add)) (c2 : FnS P w K mg base 2 "multiply" (spP K S_mul)) : FnS P w K mg base 3 "dot" (spP K S_dot) := by
  refine mkFnW (N := ["row", "column", "found", "p", "q"]) (ps := ["row", "column"]) D0 (C8.fnScope_by (by decide +kernel)) ?_ fr (fun _ _ _ _ _ _ us hl => match us, hl with | [_, _], _ => rfl) ?_
  · rintro _ ds Q ⟨_, _, _, _, _, rfl, _⟩; rfl
  · rintro f cdv A outer s H0 E ev hp _ ds Q F ⟨n, f1, g1, N, Az, rfl, hn, hs, hN, hN2, hA, k⟩
    have hA1 : Az < 2 ^ 2900 := Nat.lt_of_le_of_lt (Nat.le_mul_of_pos_left Az (Nat.succ_pos n)) hA
    have szi : ∀ i, i ≤ n → Sz N (n * Az) (sumN i fun i => f1 i * g1 i) := fun i hi => (Sz.sumN hN fun j hj => (hs j (by omega)).2.2).mono (Nat.mul_le_mul_right _ hi)
    have hnA : n * Az < 2 ^ 2900 := Nat.lt_of_le_of_lt (Nat.mul_le_mul_right _ (Nat.le_succ n)) hA
    refine s_cons (s_if (t_cmp (c_ne ev.room (e_len fr (e_var 0 rfl (e_len fr (e_var 1 rfl ⟨_, rfl, fun hk => ?_, fun _ => ?_⟩)))))))
    · have : ¬ (((frs (vec n f1)).length : Nat) : Int) = ((frs (vec n g1)).length : Nat) := by simpa using hk
      rw [frs_vec_len, frs_vec_len] at this
      exact absurd rfl this
    refine s_nil (s_cons (s_set 2 ev (e_glob hz ?_)))
    have ez : SY.zipD (frs (vec n f1)) (frs (vec n g1)) = vec n fun i => D.tup [K69.fr (f1 i), K69.fr (g1 i)] := by
      unfold SY.zipD frs
      rw [vec_map, vec_map, vec_zip]
    refine s_cons (s_for [3, 4] hp ev (i_zip fr (e_var 0 rfl ⟨_, rfl, e_var 1 rfl ⟨_, rfl, fun i e => ∃ v1 v2, e = [.sh (.tup (frs (vec n f1))), .sh (.tup (frs (vec n g1))), .sh (K69.fr (sumN i fun i => f1 i * g1 i)), v1, v2], ⟨.un, .un, rfl⟩, ?_, ?_⟩⟩)))
    · rintro e ⟨v1, v2, rfl⟩
      rw [ez, vec_len]
      exact s_cons (s_ret (e_var 2 rfl k))
    · rintro i d e hd ⟨v1, v2, rfl⟩
      rw [ez] at hd
      obtain ⟨hi, rfl⟩ := vec_get hd
      obtain ⟨o1, o2, o3⟩ := hs i hi
      refine g_tup ev.calm ⟨_, rfl, rfl, gs_cons (is := [3]) (g_name 3 ev.nd (gs_cons (is := [4]) (g_name 4 ev.nd (gs_nil ?_))))⟩
      have skip : f1 i * g1 i = 0 → sumN (i + 1) (fun i => f1 i * g1 i) = sumN i fun i => f1 i * g1 i := fun h => by rw [sumN_succ, h, Rat.add_zero]
      refine s_cons (s_if (t_bool (w_and (t_val (e_p0 ev (e_var 3 rfl ⟨_, rfl, ⟨fun hk => ?_, fun hk => ⟨fun h => Bool.noConfusion h, fun _ => ?_⟩⟩⟩))))))
      · refine w_and1 (t_val (e_p0 ev (e_var 4 rfl ⟨_, rfl, ⟨fun hk => ?_, fun hk => ?_⟩⟩)))
        · refine s_cons (s_set 2 ev (e_call c1 ev (by decide) (a_cons (e_var 2 rfl (a_cons (e_call c2 ev (by decide) (a_cons (e_var 3 rfl (a_cons (e_var 4 rfl (a_nil ⟨_, _, rfl, o1, o2, a_nil ⟨_, _, rfl, (szi i (by omega)).ok hN2 hnA, o3.ok hN2 hA1, ?_⟩⟩)))))))))))
          refine s_nil (s_nil ⟨.sh (K69.fr (f1 i)), .sh (K69.fr (g1 i)), ?_⟩)
          rw [sumN_succ]
          rfl
        · refine s_nil (s_nil ⟨.sh (K69.fr (f1 i)), .sh (K69.fr (g1 i)), ?_⟩)
          have : (g1 i).num = 0 := by simpa using hk
          rw [skip (by rw [num_zero this, Rat.mul_zero])]
          rfl
      · refine s_nil (s_nil ⟨.sh (K69.fr (f1 i)), .sh (K69.fr (g1 i)), ?_⟩)
        have : (f1 i).num = 0 := by simpa using hk
        rw [skip (by rw [num_zero this, Rat.zero_mul])]
        rfl
/-! arrows -/
/-- from, letter, to, weight -/
structure Arw where
  s : Nat
  c : Nat
  t : Nat
  q : Rat
def arD (a : Arw) : D := .tup [.int (a.s : Nat), .str ⟨#[a.c]⟩, .int (a.t : Nat), fr a.q]
theorem ar_get {l : List Arw} {i : Nat} {d : D} (h : (l.map arD)[i]? = some d) : ∃ a, l[i]? = some a ∧ d = arD a := by
  rw [List.getElem?_map] at h
  obtain ⟨q, h1, rfl⟩ := Option.map_eq_some_iff.mp h
  exact ⟨q, h1, rfl⟩
def PlD (d : D) : Prop := ∃ pl q, d = .tup [pl, fr q]
def S_places : S0 := fun ds Q => ∃ (st en : List Rat) (as : List Arw), ds = [.tup (frs st), .tup (as.map arD), .tup (frs en)] ∧ st.length ≤ 1000 ∧ en.length ≤ 1000 ∧ as.length ≤ 50000 ∧ ∀ l, (∀ d ∈ l, PlD d) → l.length ≤ 60000 → Q (.lst l)
theorem enD_len (l : List D) : (enD l).length = l.length := List.length_mapIdx
theorem enD_get {l : List D} {i : Nat} {d : D} (h : (enD l)[i]? = some d) : ∃ x, l[i]? = some x ∧ d = .tup [.int (i : Nat), x] := by
  unfold enD at h
  rw [List.getElem?_mapIdx] at h
  obtain ⟨q, h1, rfl⟩ := Option.map_eq_some_iff.mp h
  exact ⟨q, h1, rfl⟩
theorem ok_places (fr : Free mg) (D0 : DefOk K mg "weighted_places" (top 27) []) : FnS P w K mg base 1 "weighted_places" (spP K S_places) := by
  refine mkFnW (N := ["start", "arrows", "end", "found", "s", "letter", "t", "weight", "state"]) (ps := ["start", "arrows", "end"]) D0 (C8.fnScope_by (by decide +kernel)) ?_ fr (fun _ _ _ _ _ _ us hl => match us, hl with | [_, _, _], _ => rfl) ?_
  · rintro _ ds Q ⟨_, _, _, rfl, _⟩; rfl
  · rintro f cdv A outer s H0 E ev hp _ ds Q F ⟨st, en, as, rfl, h1, h2, h3, k⟩
    refine s_cons (s_lc 3 (own := [("state", 8), ("weight", 7)]) [8, 7] ev ?_ (by decide) (lc_all (fun _ d => PlD d) (i_en fr (e_var 0 rfl ⟨_, rfl, ?_, fun l hl hpl => ?_, fun i d hd => ?_⟩))))
    · show blkC ["start", "arrows", "end", "found", "s", "letter", "t", "weight", "state"] (defScope (top 27)) _ _ = true
      decide +kernel
    · rw [enD_len, frs_len]; omega
    · rw [enD_len, frs_len] at hl
      refine s_cons (s_for [4, 5, 6, 7] hp ev (i_val (e_var 1 rfl ⟨_, rfl, fun i e => ∃ v4 v5 v6 v7 m, e = [.sh (.tup (frs st)), .sh (.tup (as.map arD)), .sh (.tup (frs en)), .ow m, v4, v5, v6, v7, .un] ∧ m.length = l.length + i ∧ ∀ d ∈ m, PlD d, ?_, ?_, ?_⟩)))
      · exact ⟨.un, .un, .un, .un, l, rfl, rfl, fun d hd => by obtain ⟨j, hj⟩ := List.getElem?_of_mem hd; exact hpl j d hj⟩
      · rintro e ⟨v4, v5, v6, v7, m, rfl, hm, hpm⟩
        rw [List.length_map] at hm
        refine s_fz 3 rfl (s_cons (s_ret (e_own (o_cat (e_var 3 rfl (e_own (o_lc (own := [("state", 8), ("weight", 7)]) [8, 7] ev.calm ev.nd ?_ (by decide) (lc_all (fun _ d => PlD d) (i_en fr (e_var 2 rfl ⟨_, rfl, ?_, fun l2 hl2 hpl2 => ?_, fun i d hd => ?_⟩))))))))))
        · show blkC ["start", "arrows", "end", "found", "s", "letter", "t", "weight", "state"] (defScope (top 27)) _ _ = true
          decide +kernel
        · rw [enD_len, frs_len]; omega
        · rw [enD_len, frs_len] at hl2
          refine ⟨m, l2, rfl, rfl, by omega, k _ (fun d hd => ?_) (by rw [List.length_append]; omega)⟩
          rcases List.mem_append.mp hd with hd | hd
          · exact hpm d hd
          · obtain ⟨j, hj⟩ := List.getElem?_of_mem hd
            exact hpl2 j d hj
        · intro s H C cl fp
          obtain ⟨x, e1, rfl⟩ := enD_get hd
          obtain ⟨q, hq, rfl⟩ := frs_get e1
          refine g_tup ev.calm ⟨_, rfl, rfl, gs_cons (is := [8]) (g_name 8 ev.nd (gs_cons (is := [7]) (g_name 7 ev.nd (gs_nil ?_))))⟩
          intro s H C cl fp
          exact e_tup (a_cons (e_tup (a_cons (e_str (a_cons (e_var 8 rfl (a_nil ⟨Nat.le_of_ble_eq_true rfl, a_cons (e_var 7 rfl (a_nil ⟨Nat.le_of_ble_eq_true rfl, _, q, rfl⟩))⟩)))))))
      · rintro i d e hd ⟨v4, v5, v6, v7, m, rfl, hm, hpm⟩
        obtain ⟨a, ha, rfl⟩ := ar_get hd
        have hi : i < as.length := (List.getElem?_eq_some_iff.mp ha).1
        refine g_tup ev.calm ⟨_, rfl, rfl, gs_cons (is := [4]) (g_name 4 ev.nd (gs_cons (is := [5]) (g_name 5 ev.nd (gs_cons (is := [6]) (g_name 6 ev.nd (gs_cons (is := [7]) (g_name 7 ev.nd (gs_nil ?_))))))))⟩
        refine s_cons (s_app 3 rfl (e_tup (a_cons (e_tup (a_cons (e_str (a_cons (e_var 4 rfl (a_cons (e_var 5 rfl (a_cons (e_var 6 rfl (a_nil ⟨Nat.le_of_ble_eq_true rfl, a_cons (e_var 7 rfl (a_nil ⟨Nat.le_of_ble_eq_true rfl, by omega, ?_⟩))⟩)))))))))))))
        refine s_nil ⟨_, _, _, _, _, rfl, by rw [List.length_append, hm]; rfl, fun d hd => ?_⟩
        rcases List.mem_append.mp hd with hd | hd
        · exact hpm d hd
        · rw [List.mem_singleton] at hd
          exact ⟨_, a.q, hd⟩
    · intro s H C cl fp
      obtain ⟨x, e1, rfl⟩ := enD_get hd
      obtain ⟨q, hq, rfl⟩ := frs_get e1
      refine g_tup ev.calm ⟨_, rfl, rfl, gs_cons (is := [8]) (g_name 8 ev.nd (gs_cons (is := [7]) (g_name 7 ev.nd (gs_nil ?_))))⟩
      intro s H C cl fp
      exact e_tup (a_cons (e_tup (a_cons (e_str (a_cons (e_var 8 rfl (a_nil ⟨Nat.le_of_ble_eq_true rfl, a_cons (e_var 7 rfl (a_nil ⟨Nat.le_of_ble_eq_true rfl, _, q, rfl⟩))⟩)))))))
def S_checkfr : S0 := fun ds Q => ∃ (st en : List Rat) (as : List Arw), ds = [.tup (frs st), .tup (as.map arD), .tup (frs en)] ∧ st.length ≤ 1000 ∧ en.length ≤ 1000 ∧ as.length ≤ 50000 ∧ Q .non
theorem ok_checkfr (fr : Free mg) (D0 : DefOk K mg "check_fractions" (top 43) []) (c1 : FnS P w K mg base 1 "weighted_places" (spP K S_places)) (c2 : FnS P w K mg base 2 "is_fraction" (spP K S_isfr)) : FnS P w K mg base 3 "check_fractions" (spP K S_checkfr) := by
  refine mkFnW (N := ["start", "arrows", "end", "place", "weight"]) (ps := ["start", "arrows", "end"]) D0 (C8.fnScope_by (by decide +kernel)) ?_ fr (fun _ _ _ _ _ _ us hl => match us, hl with | [_, _, _], _ => rfl) ?_
  · rintro _ ds Q ⟨_, _, _, rfl, _⟩; rfl
  · rintro f cdv A outer s H0 E ev hp _ ds Q F ⟨st, en, as, rfl, h1, h2, h3, k⟩
    refine s_cons (s_for [3, 4] hp ev (i_val (e_call c1 ev (by decide) (a_cons (e_var 0 rfl (a_cons (e_var 1 rfl (a_cons (e_var 2 rfl (a_nil ⟨st, en, as, rfl, h1, h2, h3, fun l hl _ => ⟨l, rfl, fun i e => ∃ v1 v2, e = [.sh (.tup (frs st)), .sh (.tup (as.map arD)), .sh (.tup (frs en)), v1, v2], ⟨.un, .un, rfl⟩, fun e _ => s_nil k, ?_⟩⟩))))))))))
    rintro i d e hd ⟨v1, v2, rfl⟩
    obtain ⟨pl, q, rfl⟩ := hl d (List.mem_of_getElem? hd)
    refine g_tup ev.calm ⟨_, rfl, rfl, gs_cons (is := [3]) (g_name 3 ev.nd (gs_cons (is := [4]) (g_name 4 ev.nd (gs_nil ?_))))⟩
    exact s_cons (s_if (t_not (t_val (e_call c2 ev (by decide) (a_cons (e_var 4 rfl (a_nil ⟨q, rfl, fun h => Bool.noConfusion h, fun _ => s_nil (s_nil ⟨_, _, rfl⟩)⟩)))))))
end
end K69
set_option Elab.async false
set_option linter.all false
set_option maxRecDepth 100000
set_option maxHeartbeats 4000000
set_option exponentiation.threshold 10000
namespace K69
open PySem PySem.Spec L2 SY
/-! machines as data -/
def mrow (r : List (Nat × Rat)) : D := .tup (r.map fun x => .tup [.int (x.1 : Nat), fr x.2])
structure RowOk (n m B : Nat) (w : Nat → Rat) (r : List (Nat × Rat)) : Prop where
  len : r.length ≤ n
  lt : ∀ x ∈ r, x.1 < n
  sz : ∀ x ∈ r, Sz m B x.2
  pk : ∀ t, t < n → pick r t = w t
structure AsOk (z : Str) (n m B : Nat) (W : Nat → Nat → Nat → Rat) (as : List Arw) : Prop where
  ok : ∀ a ∈ as, a.s < n ∧ a.t < n ∧ a.c ∈ z.cps.toList ∧ Sz m B a.q
  nd : (as.map fun a => (a.s, a.c, a.t)).Nodup
  len : as.length ≤ 50000
  w : ∀ c ∈ z.cps.toList, ∀ s, s < n → ∀ t, t < n → sumQ ((as.filter fun a => a.c == c && a.s == s && a.t == t).map (·.q)) = W c s t
def IsMach (C : Addr) (z : Str) (n m B : Nat) (st en : Nat → Rat) (W : Nat → Nat → Nat → Rat) (d : D) : Prop :=
  ∃ (gv : D) (as : List Arw) (tbl : List (Key × D)), d = .ins C [("letters", .str z), ("start", .tup (frs (vec n st))), ("end", .tup (frs (vec n en))), ("_given", gv), ("arrows", .tup (as.map arD)), ("_table", .dic tbl)] ∧ AsOk z n m B W as ∧
    ∀ c ∈ z.cps.toList, ∃ rows : Nat → List (Nat × Rat), dget tbl (.inr ⟨#[c]⟩) = some (.tup (vec n fun s => mrow (rows s))) ∧ ∀ s, s < n → RowOk n m B (W c s) (rows s)
structure MC (K : PySem.W.Frag) (C : Addr) : Prop where
  cls : Cls K C
  letters : NoAttr K C "letters"
  start : NoAttr K C "start"
  fin : NoAttr K C "end"
  arrows : NoAttr K C "arrows"
  table : NoAttr K C "_table"
  given : NoAttr K C "_given"
structure Big (n N A m B : Nat) : Prop where
  n1 : n ≤ 100
  N0 : 0 < N
  m0 : 0 < m
  N1 : N < 2 ^ 2900
  A1 : A < 2 ^ 2900
  m1 : m < 2 ^ 2900
  B1 : B < 2 ^ 2900
  Nm : N * m < 2 ^ 2900
  AB : (n * n + 1) * (A * B) < 2 ^ 2900
theorem Big.le {n N A m B k : Nat} (b : Big n N A m B) (h : k ≤ n * n + 1) : k * (A * B) < 2 ^ 2900 := Nat.lt_of_le_of_lt (Nat.mul_le_mul_right _ h) b.AB
theorem Big.one {n N A m B : Nat} (b : Big n N A m B) : A * B < 2 ^ 2900 := by have := b.le (k := 1) (by omega); rwa [Nat.one_mul] at this
theorem lk_here {β : Type} {k : Str} {v : β} {r : List (Str × β)} : List.lookup k ((k, v) :: r) = some v := by
  have e : (k == k) = true := beq_self_eq_true k
  simp only [List.lookup, e]
theorem lk_past {β : Type} {k g : Str} {v : β} {r : List (Str × β)} (h : (k == g) = false) : List.lookup k ((g, v) :: r) = List.lookup k r := by
  simp only [List.lookup, h]
section
variable {X : Cx} {B : Bs} {env : AE} {pos p p2 : Pos} {Q : D → Prop} {e a b : Expr} {n j : Nat} {C : Addr} {d1 d2 d3 d4 d5 d6 : D}
def mD (C : Addr) (d1 d2 d3 d4 d5 d6 : D) : D := .ins C [("letters", d1), ("start", d2), ("end", d3), ("_given", d4), ("arrows", d5), ("_table", d6)]
theorem e_mLetters (mc : MC X.K C) (h : qE X B env a fun x => ∃ d1 d2 d3 d4 d5 d6, x = mD C d1 d2 d3 d4 d5 d6 ∧ Q d1) (hb : attributeBase a "letters" X.env (eval a X.env) = eval a X.env := by rfl) : qE X B env (.Attribute a "letters" pos) Q :=
  e_fld (h.imp fun x ⟨d1, d2, d3, d4, d5, d6, e, q⟩ => ⟨C, _, d1, e, mc.cls, mc.letters, lk_here, q⟩) hb
theorem e_mStart (mc : MC X.K C) (h : qE X B env a fun x => ∃ d1 d2 d3 d4 d5 d6, x = mD C d1 d2 d3 d4 d5 d6 ∧ Q d2) (hb : attributeBase a "start" X.env (eval a X.env) = eval a X.env := by rfl) : qE X B env (.Attribute a "start" pos) Q :=
  e_fld (h.imp fun x ⟨d1, d2, d3, d4, d5, d6, e, q⟩ => ⟨C, _, d2, e, mc.cls, mc.start, (lk_past (by decide)).trans lk_here, q⟩) hb
theorem e_mEnd (mc : MC X.K C) (h : qE X B env a fun x => ∃ d1 d2 d3 d4 d5 d6, x = mD C d1 d2 d3 d4 d5 d6 ∧ Q d3) (hb : attributeBase a "end" X.env (eval a X.env) = eval a X.env := by rfl) : qE X B env (.Attribute a "end" pos) Q :=
  e_fld (h.imp fun x ⟨d1, d2, d3, d4, d5, d6, e, q⟩ => ⟨C, _, d3, e, mc.cls, mc.fin, (lk_past (by decide)).trans ((lk_past (by decide)).trans lk_here), q⟩) hb
theorem e_mArrows (mc : MC X.K C) (h : qE X B env a fun x => ∃ d1 d2 d3 d4 d5 d6, x = mD C d1 d2 d3 d4 d5 d6 ∧ Q d5) (hb : attributeBase a "arrows" X.env (eval a X.env) = eval a X.env := by rfl) : qE X B env (.Attribute a "arrows" pos) Q :=
  e_fld (h.imp fun x ⟨d1, d2, d3, d4, d5, d6, e, q⟩ => ⟨C, _, d5, e, mc.cls, mc.arrows, (lk_past (by decide)).trans ((lk_past (by decide)).trans ((lk_past (by decide)).trans ((lk_past (by decide)).trans lk_here))), q⟩) hb
theorem e_mTable (mc : MC X.K C) (h : qE X B env a fun x => ∃ d1 d2 d3 d4 d5 d6, x = mD C d1 d2 d3 d4 d5 d6 ∧ Q d6) (hb : attributeBase a "_table" X.env (eval a X.env) = eval a X.env := by rfl) : qE X B env (.Attribute a "_table" pos) Q :=
  e_fld (h.imp fun x ⟨d1, d2, d3, d4, d5, d6, e, q⟩ => ⟨C, _, d6, e, mc.cls, mc.table, (lk_past (by decide)).trans ((lk_past (by decide)).trans ((lk_past (by decide)).trans ((lk_past (by decide)).trans ((lk_past (by decide)).trans lk_here)))), q⟩) hb
end
theorem flat_rep {α : Type} (x : α) : ∀ n : Nat, (List.replicate n [x]).flatten = vec n fun _ => x
  | 0 => rfl
  | n + 1 => by rw [List.replicate_succ', List.flatten_append, flat_rep x n, vec_succ]; rfl
theorem frs_vec (n : Nat) (f : Nat → Rat) : frs (vec n f) = vec n fun i => fr (f i) := vec_map fr
section
variable {P : Program} {w : World} {K : PySem.W.Frag} {mg : Str → Option Value} {base : Heap} {C : Addr}
def S_rowstep (C : Addr) : S0 := fun ds Q => ∃ (d : D) (z : Str) (n m B : Nat) (st en : Nat → Rat) (W : Nat → Nat → Nat → Rat) (c N A : Nat) (row : Nat → Rat), ds = [d, .tup (frs (vec n row)), .str ⟨#[c]⟩] ∧ IsMach C z n m B st en W d ∧ c ∈ z.cps.toList ∧ (∀ s, s < n → Sz N A (row s)) ∧ Big n N A m B ∧
  Q (.tup (frs (vec n fun t => sumN n fun s => row s * W c s t)))
theorem ok_rowstep (fr : Free mg) (mc : MC K C) (hz : GlobD K mg "ZERO" (K69.fr 0)) (D0 : DefOk K mg "row_step" (top 47) []) (c1 : FnS P w K mg base 2 "add" (spP K S_add)) (c2 : FnS P w K mg base 2 "multiply" (spP K S_mul)) : FnS P w K mg base 3 "row_step" (spP K (S_rowstep C)) := by
  refine mkFnW (N := ["machine", "row", "letter", "found", "entry", "arrows", "t", "weight"]) (ps := ["machine", "row", "letter"]) D0 (C8.fnScope_by (by decide +kernel)) ?_ fr (fun _ _ _ _ _ _ us hl => match us, hl with | [_, _, _], _ => rfl) ?_
  · rintro _ ds Q ⟨_, _, _, _, _, _, _, _, _, _, _, _, rfl, _⟩; rfl
  · rintro f cdv Ar outer s H0 E ev hp _ ds Q F ⟨d, z, n, m, B, st, en, W, c, N, A, row, rfl, ⟨gv, as, tbl, rfl, hA, hT⟩, hc, hrow, big, k⟩
    obtain ⟨rows, hg, hr⟩ := hT c hc
    have n1 := big.n1
    refine s_cons (s_own 3 ev (o_rep (e_own (o_lst (a_cons (e_glob hz (a_nil ⟨Nat.le_of_ble_eq_true rfl, e_len fr (e_mStart mc (e_var 0 rfl ⟨_, _, _, _, _, _, rfl, ?_⟩))⟩)))))))
    refine ⟨_, (n : Int), rfl, by rw [frs_vec_len], by omega, by omega, by rw [Int.toNat_natCast, List.length_singleton]; omega, ?_⟩
    rw [Int.toNat_natCast, flat_rep]
    have e0 : (vec n fun _ => K69.fr 0) = frs (vec n fun t => sumN 0 fun s => row s * W c s t) := by rw [frs_vec]; rfl
    rw [e0]
    have ez : SY.zipD (frs (vec n row)) (vec n fun s => mrow (rows s)) = vec n fun i => D.tup [K69.fr (row i), mrow (rows i)] := by
      unfold SY.zipD; rw [frs_vec, vec_zip]
    let M : D := .ins C [("letters", .str z), ("start", .tup (frs (vec n st))), ("end", .tup (frs (vec n en))), ("_given", gv), ("arrows", .tup (as.map arD)), ("_table", .dic tbl)]
    refine s_cons (s_for [4, 5] hp ev (i_zip fr (e_var 1 rfl ⟨_, rfl, e_ix ev.room (e_mTable mc (e_var 0 rfl ⟨_, _, _, _, _, _, rfl, e_var 2 rfl ⟨_, hg, _, rfl,
      fun i e => ∃ v4 v5 v6 v7 G, e = [.sh M, .sh (.tup (frs (vec n row))), .sh (.str ⟨#[c]⟩), .ow (frs (vec n G)), v4, v5, v6, v7] ∧ ∀ t, t < n → G t = sumN i (fun s => row s * W c s t) ∧ Sz (N * m) (i * n * (A * B)) (G t), ?_, ?_, ?_⟩⟩))⟩)))
    · exact ⟨.un, .un, .un, .un, _, rfl, fun t ht => ⟨rfl, Sz.zero (Nat.mul_pos big.N0 big.m0) _⟩⟩
    · rintro e ⟨v4, v5, v6, v7, G, rfl, hG⟩
      refine s_fz 3 rfl (s_cons (s_ret (e_tuple fr (e_var 3 rfl ?_))))
      rw [ez, vec_len] at hG
      have : vec n G = vec n fun t => sumN n fun s => row s * W c s t := vec_ext fun t ht => (hG t ht).1
      show Q (.tup (frs (vec n G)))
      rw [this]
      exact k
    · rintro i d e hd ⟨v4, v5, v6, v7, G, rfl, hG⟩
      rw [ez] at hd
      obtain ⟨hi, rfl⟩ := vec_get hd
      have rk := hr i hi
      refine g_tup ev.calm ⟨_, rfl, rfl, gs_cons (is := [4]) (g_name 4 ev.nd (gs_cons (is := [5]) (g_name 5 ev.nd (gs_nil ?_))))⟩
      have hle : ∀ j, j ≤ (rows i).length → i * n + j ≤ n * n + 1 := fun j hj => by
        have h1 := rk.len
        have h2 : (i + 1) * n ≤ n * n := Nat.mul_le_mul_right _ hi
        rw [Nat.add_mul, Nat.one_mul] at h2
        omega
      refine s_cons (s_if (t_val (e_p0 ev (e_var 4 rfl ⟨_, rfl, ⟨fun hk => ?_, fun hk => ?_⟩⟩))))
      · refine s_cons (s_for [6, 7] hp ev (i_val (e_var 5 rfl ⟨_, rfl, fun j e => ∃ v6 v7 G2, e = [.sh M, .sh (.tup (frs (vec n row))), .sh (.str ⟨#[c]⟩), .ow (frs (vec n G2)), .sh (K69.fr (row i)), .sh (mrow (rows i)), v6, v7] ∧
          ∀ t, t < n → G2 t = sumN i (fun s => row s * W c s t) + row i * pick ((rows i).take j) t ∧ Sz (N * m) ((i * n + j) * (A * B)) (G2 t), ?_, ?_, ?_⟩)))
        · refine ⟨v6, v7, G, rfl, fun t ht => ⟨?_, ?_⟩⟩
          · rw [(hG t ht).1, List.take_zero, pick_nil, Rat.mul_zero, Rat.add_zero]
          · exact (hG t ht).2
        · rintro e ⟨v6, v7, G2, rfl, hG2⟩
          rw [List.length_map] at hG2
          refine s_nil (s_nil ⟨_, _, _, _, G2, rfl, fun t ht => ⟨?_, ?_⟩⟩)
          · rw [(hG2 t ht).1, List.take_length, rk.pk t ht, sumN_succ]
          · refine (hG2 t ht).2.mono (Nat.mul_le_mul_right _ ?_)
            rw [Nat.add_mul, Nat.one_mul]
            have := rk.len
            omega
        · rintro j d e hd ⟨v6, v7, G2, rfl, hG2⟩
          rw [List.getElem?_map] at hd
          obtain ⟨x, hx, rfl⟩ := Option.map_eq_some_iff.mp hd
          have hxm := List.mem_of_getElem? hx
          have xt := rk.lt x hxm
          have xs := rk.sz x hxm
          have hj : j < (rows i).length := (List.getElem?_eq_some_iff.mp hx).1
          have prod : Sz (N * m) (A * B) (row i * x.2) := (hrow i hi).mul xs
          refine g_tup ev.calm ⟨_, rfl, rfl, gs_cons (is := [6]) (g_name 6 ev.nd (gs_cons (is := [7]) (g_name 7 ev.nd (gs_nil ?_))))⟩
          refine s_cons (s_put 3 rfl (e_call c1 ev (by decide) (a_cons (e_ixOw 3 rfl (e_var 6 rfl ⟨_, _, rfl, atI_nat (frs_vec_at xt), a_cons (e_call c2 ev (by decide) (a_cons (e_var 4 rfl (a_cons (e_var 7 rfl (a_nil ⟨_, _, rfl, (hrow i hi).ok big.N1 big.A1, xs.ok big.m1 big.B1,
            a_nil ⟨_, _, rfl, (hG2 x.1 xt).2.ok big.Nm (big.le (hle j (by omega))), prod.ok big.Nm big.one, e_var 6 rfl ⟨_, x.1, rfl, ?_, ?_⟩⟩⟩))))))⟩)))))
          · rw [frs_vec_len]
            unfold ixN
            rw [if_pos (by omega), if_pos (by omega), Int.toNat_natCast]
          · refine s_nil ⟨.sh (.int (x.1 : Nat)), .sh (K69.fr x.2), fun t => if t = x.1 then G2 x.1 + row i * x.2 else G2 t, ?_, fun t ht => ?_⟩
            · rw [frs_vec_set]; rfl
            · obtain ⟨g1, g2⟩ := hG2 t ht
              have pe : pick ((rows i).take (j + 1)) t = if t = x.1 then pick ((rows i).take j) t + x.2 else pick ((rows i).take j) t := by
                rw [take_more hx]; exact pick_snoc _ x.1 x.2 t
              rw [pe]
              show (if t = x.1 then G2 x.1 + row i * x.2 else G2 t) = _ ∧ Sz (N * m) ((i * n + (j + 1)) * (A * B)) (if t = x.1 then G2 x.1 + row i * x.2 else G2 t)
              by_cases h : t = x.1
              · rw [if_pos h, if_pos h, ← h]
                refine ⟨by rw [g1]; grind, ?_⟩
                refine (g2.add prod).mono ?_
                rw [← Nat.succ_mul]
                exact Nat.le_refl _
              · rw [if_neg h, if_neg h]
                exact ⟨g1, g2.mono (Nat.mul_le_mul_right _ (by omega))⟩
      · refine s_nil (s_nil ⟨_, _, _, _, G, rfl, fun t ht => ⟨?_, ?_⟩⟩)
        · have : (row i).num = 0 := by simpa using hk
          rw [(hG t ht).1, sumN_succ, num_zero this, Rat.zero_mul, Rat.add_zero]
        · exact (hG t ht).2.mono (Nat.mul_le_mul_right _ (Nat.mul_le_mul_right _ (Nat.le_succ i)))
def S_colstep (C : Addr) : S0 := fun ds Q => ∃ (d : D) (z : Str) (n m B : Nat) (st en : Nat → Rat) (W : Nat → Nat → Nat → Rat) (c N A : Nat) (col : Nat → Rat), ds = [d, .str ⟨#[c]⟩, .tup (frs (vec n col))] ∧ IsMach C z n m B st en W d ∧ c ∈ z.cps.toList ∧ (∀ s, s < n → Sz N A (col s)) ∧ Big n N A m B ∧
  Q (.tup (frs (vec n fun s => sumN n fun t => W c s t * col t)))
theorem ok_colstep (fr : Free mg) (mc : MC K C) (hz : GlobD K mg "ZERO" (K69.fr 0)) (D0 : DefOk K mg "column_step" (top 48) []) (c1 : FnS P w K mg base 2 "add" (spP K S_add)) (c2 : FnS P w K mg base 2 "multiply" (spP K S_mul)) : FnS P w K mg base 3 "column_step" (spP K (S_colstep C)) := by
  refine mkFnW (N := ["machine", "letter", "column", "found", "arrows", "entry", "t", "weight"]) (ps := ["machine", "letter", "column"]) D0 (C8.fnScope_by (by decide +kernel)) ?_ fr (fun _ _ _ _ _ _ us hl => match us, hl with | [_, _, _], _ => rfl) ?_
  · rintro _ ds Q ⟨_, _, _, _, _, _, _, _, _, _, _, _, rfl, _⟩; rfl
  · rintro f cdv Ar outer s H0 E ev hp _ ds Q F ⟨d, z, n, m, B, st, en, W, c, N, A, col, rfl, ⟨gv, as, tbl, rfl, hA, hT⟩, hc, hcol, big, k⟩
    obtain ⟨rows, hg, hr⟩ := hT c hc
    have n1 := big.n1
    have mul1 : ∀ i, i ≤ n → i * n ≤ n * n := fun i hi => Nat.mul_le_mul_right _ hi
    let M : D := .ins C [("letters", .str z), ("start", .tup (frs (vec n st))), ("end", .tup (frs (vec n en))), ("_given", gv), ("arrows", .tup (as.map arD)), ("_table", .dic tbl)]
    let G : Nat → Rat := fun s => sumN n fun t => W c s t * col t
    refine s_cons (s_own 3 ev (o_lst (a_nil ⟨by decide, ?_⟩)))
    refine s_cons (s_for [4] hp ev (i_val (e_ix ev.room (e_mTable mc (e_var 0 rfl ⟨_, _, _, _, _, _, rfl, e_var 1 rfl ⟨_, hg, _, rfl,
      fun i e => ∃ v4 v5 v6 v7, e = [.sh M, .sh (.str ⟨#[c]⟩), .sh (.tup (frs (vec n col))), .ow (frs (vec i G)), v4, v5, v6, v7], ⟨.un, .un, .un, .un, rfl⟩, ?_, ?_⟩⟩)))))
    · rintro e ⟨v4, v5, v6, v7, rfl⟩
      rw [vec_len]
      exact s_fz 3 rfl (s_cons (s_ret (e_tuple fr (e_var 3 rfl k))))
    · rintro i d e hd ⟨v4, v5, v6, v7, rfl⟩
      obtain ⟨hi, rfl⟩ := vec_get hd
      have rk := hr i hi
      have prod : ∀ x ∈ rows i, Sz (N * m) (A * B) (x.2 * col x.1) := fun x hx => by
        have := (hcol x.1 (rk.lt x hx)).mul (rk.sz x hx)
        rwa [Rat.mul_comm] at this
      refine g_name 4 ev.nd (s_cons (s_set 5 ev (e_glob hz ?_)))
      have part : ∀ j, Sz (N * m) (j * (A * B)) (sumQ (((rows i).take j).map fun x => x.2 * col x.1)) := fun j => by
        have := Sz.sum (A := A * B) (l := ((rows i).take j).map fun x => x.2 * col x.1) (Nat.mul_pos big.N0 big.m0) fun q hq => by
          obtain ⟨x, hx, rfl⟩ := List.mem_map.mp hq
          exact prod x (List.mem_of_mem_take hx)
        refine this.mono (Nat.mul_le_mul_right _ ?_)
        rw [List.length_map, List.length_take]
        omega
      refine s_cons (s_for [6, 7] hp ev (i_val (e_var 4 rfl ⟨_, rfl, fun j e => ∃ v6 v7, e = [.sh M, .sh (.str ⟨#[c]⟩), .sh (.tup (frs (vec n col))), .ow (frs (vec i G)), .sh (mrow (rows i)), .sh (K69.fr (sumQ (((rows i).take j).map fun x => x.2 * col x.1))), v6, v7], ⟨v6, v7, rfl⟩, ?_, ?_⟩)))
      · rintro e ⟨v6, v7, rfl⟩
        rw [List.length_map, List.take_length]
        refine s_cons (s_app 3 rfl (e_var 5 rfl ⟨by rw [frs_vec_len]; omega, ?_⟩))
        refine s_nil ⟨.sh (mrow (rows i)), .sh (K69.fr (sumQ ((rows i).map fun x => x.2 * col x.1))), v6, v7, ?_⟩
        have e1 : sumQ ((rows i).map fun x => x.2 * col x.1) = G i := by
          rw [sum_pick _ rk.lt]
          exact sumN_ext fun t ht => by rw [rk.pk t ht]
        have e2 : frs (vec i G) ++ [K69.fr (sumQ ((rows i).map fun x => x.2 * col x.1))] = frs (vec (i + 1) G) := by
          rw [vec_succ, e1]; unfold frs; rw [List.map_append]; rfl
        show [AV.sh M, AV.sh (.str ⟨#[c]⟩), AV.sh (.tup (frs (vec n col))), AV.ow (frs (vec i G) ++ [K69.fr (sumQ ((rows i).map fun x => x.2 * col x.1))]), _, _, _, _] = _
        rw [e2]
      · rintro j d e hd ⟨v6, v7, rfl⟩
        rw [List.getElem?_map] at hd
        obtain ⟨x, hx, rfl⟩ := Option.map_eq_some_iff.mp hd
        have hxm := List.mem_of_getElem? hx
        have xt := rk.lt x hxm
        have hj : j < (rows i).length := (List.getElem?_eq_some_iff.mp hx).1
        have hrl := rk.len
        have h2 := mul1 1 (by omega)
        have hjle : j * (A * B) < 2 ^ 2900 := big.le (by omega)
        have ex : sumQ (((rows i).take (j + 1)).map fun x => x.2 * col x.1) = sumQ (((rows i).take j).map fun x => x.2 * col x.1) + x.2 * col x.1 := by
          rw [take_more hx, List.map_append, sumQ_append]; simp [sumQ_one]
        refine g_tup ev.calm ⟨_, rfl, rfl, gs_cons (is := [6]) (g_name 6 ev.nd (gs_cons (is := [7]) (g_name 7 ev.nd (gs_nil ?_))))⟩
        refine s_cons (s_if (t_val (e_p0 ev (e_ix ev.room (e_var 2 rfl (e_var 6 rfl ⟨_, atI_nat (frs_vec_at xt), _, rfl, ⟨fun hk => ?_, fun hk => ?_⟩⟩))))))
        · refine s_cons (s_set 5 ev (e_call c1 ev (by decide) (a_cons (e_var 5 rfl (a_cons (e_call c2 ev (by decide) (a_cons (e_var 7 rfl (a_cons (e_ix ev.room (e_var 2 rfl (e_var 6 rfl ⟨_, atI_nat (frs_vec_at xt), a_nil ⟨_, _, rfl, (rk.sz x hxm).ok big.m1 big.B1, (hcol x.1 xt).ok big.N1 big.A1,
            a_nil ⟨_, _, rfl, (part j).ok big.Nm hjle, (prod x hxm).ok big.Nm big.one, ?_⟩⟩⟩))))))))))))
          refine s_nil (s_nil ⟨.sh (.int (x.1 : Nat)), .sh (K69.fr x.2), ?_⟩)
          rw [ex]
          rfl
        · refine s_nil (s_nil ⟨.sh (.int (x.1 : Nat)), .sh (K69.fr x.2), ?_⟩)
          have : (col x.1).num = 0 := by simpa using hk
          rw [ex, num_zero this, Rat.mul_zero, Rat.add_zero]
          rfl
end
end K69
set_option Elab.async false
set_option linter.all false
set_option maxRecDepth 100000
set_option maxHeartbeats 4000000
set_option exponentiation.threshold 10000
namespace K69
open PySem PySem.Spec L2 SY
/-- the row behind a text, the column ahead of it -/
def stepR (n : Nat) (W : Nat → Nat → Nat → Rat) (f : Nat → Rat) (c : Nat) : Nat → Rat := fun t => sumN n fun s => f s * W c s t
def stepC (n : Nat) (W : Nat → Nat → Nat → Rat) (f : Nat → Rat) (c : Nat) : Nat → Rat := fun s => sumN n fun t => W c s t * f t
def rowF (n : Nat) (W : Nat → Nat → Nat → Rat) (st : Nat → Rat) (l : List Nat) : Nat → Rat := l.foldl (stepR n W) st
def colF (n : Nat) (W : Nat → Nat → Nat → Rat) (en : Nat → Rat) (l : List Nat) : Nat → Rat := l.foldr (fun c f => stepC n W f c) en
theorem rowF_snoc (n : Nat) (W : Nat → Nat → Nat → Rat) (st : Nat → Rat) (l : List Nat) (c : Nat) : rowF n W st (l ++ [c]) = stepR n W (rowF n W st l) c := by unfold rowF; rw [List.foldl_append]; rfl
theorem colF_rev (n : Nat) (W : Nat → Nat → Nat → Rat) (en : Nat → Rat) (l : List Nat) : colF n W en l = l.reverse.foldl (stepC n W) en := by unfold colF; rw [List.foldl_reverse]
theorem colF_cons (n : Nat) (W : Nat → Nat → Nat → Rat) (en : Nat → Rat) (l : List Nat) (c : Nat) : colF n W en (c :: l) = stepC n W (colF n W en l) c := rfl
/-- the numbers of a walk of k letters stay small -/
structure Bg (n N A m B k : Nat) : Prop where
  n1 : n ≤ 100
  n0 : 0 < n
  N0 : 0 < N
  A0 : 0 < A
  m0 : 0 < m
  B0 : 0 < B
  N1 : N * m ^ (k + 1) < 2 ^ 2900
  A1 : (n * n + 1) * (A * (n * B) ^ (k + 1)) < 2 ^ 2900
theorem pow_le {b i k : Nat} (hb : 0 < b) (h : i ≤ k) : b ^ i ≤ b ^ k := Nat.pow_le_pow_right hb h
theorem Bg.lt {n N A m B k : Nat} (g : Bg n N A m B k) {i : Nat} (h : i ≤ k + 1) : N * m ^ i < 2 ^ 2900 := Nat.lt_of_le_of_lt (Nat.mul_le_mul_left _ (pow_le g.m0 h)) g.N1
theorem Bg.ltA {n N A m B k : Nat} (g : Bg n N A m B k) {i : Nat} (h : i ≤ k + 1) : A * (n * B) ^ i < 2 ^ 2900 :=
  Nat.lt_of_le_of_lt (Nat.le_trans (Nat.mul_le_mul_left _ (pow_le (Nat.mul_pos g.n0 g.B0) h)) (Nat.le_mul_of_pos_left _ (Nat.succ_pos _))) g.A1
theorem Bg.big {n N A m B k : Nat} (g : Bg n N A m B k) {i : Nat} (h : i ≤ k) : Big n (N * m ^ i) (A * (n * B) ^ i) m B where
  n1 := g.n1
  N0 := Nat.mul_pos g.N0 (Nat.pow_pos g.m0)
  m0 := g.m0
  N1 := g.lt (by omega)
  A1 := g.ltA (by omega)
  m1 := by
    have := g.lt (i := 1) (by omega)
    rw [Nat.pow_one] at this
    exact Nat.lt_of_le_of_lt (Nat.le_mul_of_pos_left _ g.N0) this
  B1 := by
    have := g.ltA (i := 1) (by omega)
    rw [Nat.pow_one] at this
    exact Nat.lt_of_le_of_lt (Nat.le_trans (Nat.le_mul_of_pos_left _ g.n0) (Nat.le_mul_of_pos_left _ g.A0)) this
  Nm := by rw [Nat.mul_assoc, ← Nat.pow_succ]; exact g.lt (by omega)
  AB := by
    refine Nat.lt_of_le_of_lt (Nat.mul_le_mul_left _ ?_) g.A1
    rw [Nat.mul_assoc]
    refine Nat.mul_le_mul_left _ ?_
    refine Nat.le_trans ?_ (pow_le (Nat.mul_pos g.n0 g.B0) (show i + 1 ≤ k + 1 by omega))
    rw [Nat.pow_succ]
    exact Nat.mul_le_mul_left _ (Nat.le_mul_of_pos_left _ g.n0)
theorem sz_stepR {n N A m B : Nat} {W : Nat → Nat → Nat → Rat} {f : Nat → Rat} {c : Nat} (hN : 0 < N) (hm : 0 < m) (hf : ∀ s, s < n → Sz N A (f s)) (hW : ∀ s, s < n → ∀ t, t < n → Sz m B (W c s t)) (t : Nat) (ht : t < n) : Sz (N * m) (A * (n * B)) (stepR n W f c t) := by
  have := Sz.sumN (n := n) (f := fun s => f s * W c s t) (Nat.mul_pos hN hm) fun s hs => (hf s hs).mul (hW s hs t ht)
  refine this.mono ?_
  rw [Nat.mul_left_comm]
  exact Nat.le_refl _
theorem sz_stepC {n N A m B : Nat} {W : Nat → Nat → Nat → Rat} {f : Nat → Rat} {c : Nat} (hN : 0 < N) (hm : 0 < m) (hf : ∀ s, s < n → Sz N A (f s)) (hW : ∀ s, s < n → ∀ t, t < n → Sz m B (W c s t)) (s : Nat) (hs : s < n) : Sz (N * m) (A * (n * B)) (stepC n W f c s) := by
  have := Sz.sumN (n := n) (f := fun t => W c s t * f t) (Nat.mul_pos hN hm) fun t ht => by
    have := (hf t ht).mul (hW s hs t ht)
    rwa [Rat.mul_comm] at this
  refine this.mono ?_
  rw [Nat.mul_left_comm]
  exact Nat.le_refl _
/-- the weights of a machine are small -/
def WSz (z : Str) (n m B : Nat) (W : Nat → Nat → Nat → Rat) : Prop := ∀ c ∈ z.cps.toList, ∀ s, s < n → ∀ t, t < n → Sz m B (W c s t)
theorem sz_rowF {z : Str} {n m B : Nat} {W : Nat → Nat → Nat → Rat} (hm : 0 < m) (hW : WSz z n m B W) : ∀ (l : List Nat) {N A : Nat} {st : Nat → Rat}, 0 < N → (∀ s, s < n → Sz N A (st s)) → (∀ c ∈ l, c ∈ z.cps.toList) → ∀ s, s < n → Sz (N * m ^ l.length) (A * (n * B) ^ l.length) (rowF n W st l s) := by
  intro l
  induction l with
  | nil => intro N A st hN hst _ s hs; simpa [rowF] using hst s hs
  | cons c l ih =>
    intro N A st hN hst h s hs
    have := ih (N := N * m) (A := A * (n * B)) (st := stepR n W st c) (Nat.mul_pos hN hm) (sz_stepR hN hm hst (hW c (h c (by simp)))) (fun c hc => h c (by simp [hc])) s hs
    rw [List.length_cons, Nat.pow_succ, Nat.pow_succ, Nat.mul_comm (m ^ _), Nat.mul_comm ((n * B) ^ _), ← Nat.mul_assoc, ← Nat.mul_assoc]
    exact this
theorem sz_colF {z : Str} {n N A m B : Nat} {W : Nat → Nat → Nat → Rat} {en : Nat → Rat} (hN : 0 < N) (hm : 0 < m) (hen : ∀ s, s < n → Sz N A (en s)) (hW : WSz z n m B W) : ∀ (l : List Nat), (∀ c ∈ l, c ∈ z.cps.toList) → ∀ s, s < n → Sz (N * m ^ l.length) (A * (n * B) ^ l.length) (colF n W en l s) := by
  intro l
  induction l with
  | nil => intro _ s hs; simpa [colF] using hen s hs
  | cons c l ih =>
    intro h s hs
    rw [colF_cons, List.length_cons, Nat.pow_succ, Nat.pow_succ, ← Nat.mul_assoc, ← Nat.mul_assoc]
    exact sz_stepC (Nat.mul_pos hN (Nat.pow_pos hm)) hm (ih fun c hc => h c (by simp [hc])) (hW c (h c (by simp))) s hs
section
variable {P : Program} {w : World} {K : PySem.W.Frag} {mg : Str → Option Value} {base : Heap} {C : Addr}
/-! check_text of a text without a foreign sign -/
def S_text0 : S0 := fun ds Q => ∃ (z x : Str), ds = [.str z, .str x] ∧ (∀ c ∈ x.cps.toList, c ∈ z.cps.toList) ∧ Q .non
theorem sg_get {l : List Nat} {i : Nat} {d : D} (h : (l.map fun c => D.str ⟨#[c]⟩)[i]? = some d) : ∃ c, l[i]? = some c ∧ d = .str ⟨#[c]⟩ := by
  rw [List.getElem?_map] at h
  obtain ⟨q, h1, rfl⟩ := Option.map_eq_some_iff.mp h
  exact ⟨q, h1, rfl⟩
theorem ok_text0 (fr : Free mg) (D0 : DefOk K mg "check_text" (top 18) []) : FnS P w K mg base 1 "check_text" (spP K S_text0) := by
  refine mkFnW (N := ["letters", "text", "index", "character"]) (ps := ["letters", "text"]) D0 (C8.fnScope_by (by decide +kernel)) ?_ fr (fun _ _ _ _ _ _ us hl => match us, hl with | [_, _], _ => rfl) ?_
  · rintro _ ds Q ⟨_, _, rfl, _⟩; rfl
  · rintro f cdv Ar outer s H0 E ev hp _ ds Q F ⟨z, x, rfl, hx, k⟩
    refine s_cons (s_for [2, 3] hp ev (i_en fr (e_var 1 rfl ⟨_, rfl, fun i e => ∃ v2 v3, e = [.sh (.str z), .sh (.str x), v2, v3], ⟨.un, .un, rfl⟩, fun e _ => s_nil k, ?_⟩)))
    rintro i d e hd ⟨v2, v3, rfl⟩
    obtain ⟨y, e1, rfl⟩ := enD_get hd
    obtain ⟨c, hc, rfl⟩ := sg_get e1
    refine g_tup ev.calm ⟨_, rfl, rfl, gs_cons (is := [2]) (g_name 2 ev.nd (gs_cons (is := [3]) (g_name 3 ev.nd (gs_nil ?_))))⟩
    refine s_cons (s_if (t_cmp (c_ninS (e_var 3 rfl (e_var 0 rfl ⟨c, z, rfl, rfl, _, rfl, fun h => ?_, fun _ => s_nil (s_nil ⟨.sh (.int (i : Nat)), .sh (.str ⟨#[c]⟩), rfl⟩)⟩)))))
    rw [decide_eq_true (hx c (List.mem_of_getElem? hc))] at h
    exact Bool.noConfusion h
def S_rowafter (C : Addr) : S0 := fun ds Q => ∃ (d : D) (z x : Str) (n m B : Nat) (st en : Nat → Rat) (W : Nat → Nat → Nat → Rat) (N A : Nat), ds = [d, .str x] ∧ IsMach C z n m B st en W d ∧ (∀ c ∈ x.cps.toList, c ∈ z.cps.toList) ∧ x.cps.toList.length ≤ 1000 ∧ (∀ s, s < n → Sz N A (st s)) ∧ WSz z n m B W ∧ Bg n N A m B x.cps.toList.length ∧
  Q (.tup (frs (vec n (rowF n W st x.cps.toList))))
theorem ok_rowafter (fr : Free mg) (mc : MC K C) (D0 : DefOk K mg "row_after" (top 49) []) (c1 : FnS P w K mg base 1 "check_text" (spP K S_text0)) (c2 : FnS P w K mg base 3 "row_step" (spP K (S_rowstep C))) : FnS P w K mg base 4 "row_after" (spP K (S_rowafter C)) := by
  refine mkFnW (N := ["machine", "text", "row", "letter"]) (ps := ["machine", "text"]) D0 (C8.fnScope_by (by decide +kernel)) ?_ fr (fun _ _ _ _ _ _ us hl => match us, hl with | [_, _], _ => rfl) ?_
  · rintro _ ds Q ⟨_, _, _, _, _, _, _, _, _, _, _, rfl, _⟩; rfl
  · rintro f cdv Ar outer s H0 E ev hp _ ds Q F ⟨d, z, x, n, m, B, st, en, W, N, A, rfl, hM, hx, hx2, hst, hW, bg, k⟩
    obtain ⟨gv, as, tbl, rfl, hA, hT⟩ := id hM
    let M : D := .ins C [("letters", .str z), ("start", .tup (frs (vec n st))), ("end", .tup (frs (vec n en))), ("_given", gv), ("arrows", .tup (as.map arD)), ("_table", .dic tbl)]
    refine s_cons (s_expr (e_call c1 ev (by decide) (a_cons (e_mLetters mc (e_var 0 rfl ⟨_, _, _, _, _, _, rfl, a_cons (e_var 1 rfl (a_nil ⟨z, x, rfl, hx, ?_⟩))⟩)))))
    refine s_cons (s_set 2 ev (e_mStart mc (e_var 0 rfl ⟨_, _, _, _, _, _, rfl, ?_⟩)))
    refine s_cons (s_for [3] hp ev (i_val (e_var 1 rfl ⟨_, rfl, fun i e => ∃ v3, e = [.sh M, .sh (.str x), .sh (.tup (frs (vec n (rowF n W st (x.cps.toList.take i))))), v3], ⟨.un, rfl⟩, ?_, ?_⟩)))
    · rintro e ⟨v3, rfl⟩
      rw [List.length_map, List.take_length]
      exact s_cons (s_ret (e_var 2 rfl k))
    · rintro i d e hd ⟨v3, rfl⟩
      obtain ⟨c, hc, rfl⟩ := sg_get hd
      have hi : i < x.cps.toList.length := (List.getElem?_eq_some_iff.mp hc).1
      have hcz := hx c (List.mem_of_getElem? hc)
      refine g_name 3 ev.nd ?_
      have hz := sz_rowF bg.m0 hW (x.cps.toList.take i) bg.N0 hst fun c hc => hx c (List.mem_of_mem_take hc)
      rw [List.length_take, Nat.min_eq_left (by omega)] at hz
      refine s_cons (s_set 2 ev (e_call c2 ev (by decide) (a_cons (e_var 0 rfl (a_cons (e_var 2 rfl (a_cons (e_var 3 rfl (a_nil ⟨_, z, n, m, B, st, en, W, c, _, _, _, rfl, hM, hcz, hz, bg.big (by omega), ?_⟩)))))))))
      refine s_nil ⟨.sh (.str ⟨#[c]⟩), ?_⟩
      rw [take_more hc, rowF_snoc]
      rfl
def S_colbefore (C : Addr) : S0 := fun ds Q => ∃ (d : D) (z x : Str) (n m B : Nat) (st en : Nat → Rat) (W : Nat → Nat → Nat → Rat) (N A : Nat), ds = [d, .str x] ∧ IsMach C z n m B st en W d ∧ (∀ c ∈ x.cps.toList, c ∈ z.cps.toList) ∧ x.cps.toList.length ≤ 1000 ∧ (∀ s, s < n → Sz N A (en s)) ∧ WSz z n m B W ∧ Bg n N A m B x.cps.toList.length ∧
  Q (.tup (frs (vec n (colF n W en x.cps.toList))))
theorem ok_colbefore (fr : Free mg) (mc : MC K C) (D0 : DefOk K mg "column_before" (top 50) []) (c1 : FnS P w K mg base 1 "check_text" (spP K S_text0)) (c2 : FnS P w K mg base 3 "column_step" (spP K (S_colstep C))) : FnS P w K mg base 4 "column_before" (spP K (S_colbefore C)) := by
  refine mkFnW (N := ["machine", "text", "column", "letter"]) (ps := ["machine", "text"]) D0 (C8.fnScope_by (by decide +kernel)) ?_ fr (fun _ _ _ _ _ _ us hl => match us, hl with | [_, _], _ => rfl) ?_
  · rintro _ ds Q ⟨_, _, _, _, _, _, _, _, _, _, _, rfl, _⟩; rfl
  · rintro f cdv Ar outer s H0 E ev hp _ ds Q F ⟨d, z, x, n, m, B, st, en, W, N, A, rfl, hM, hx, hx2, hen, hW, bg, k⟩
    obtain ⟨gv, as, tbl, rfl, hA, hT⟩ := id hM
    let M : D := .ins C [("letters", .str z), ("start", .tup (frs (vec n st))), ("end", .tup (frs (vec n en))), ("_given", gv), ("arrows", .tup (as.map arD)), ("_table", .dic tbl)]
    refine s_cons (s_expr (e_call c1 ev (by decide) (a_cons (e_mLetters mc (e_var 0 rfl ⟨_, _, _, _, _, _, rfl, a_cons (e_var 1 rfl (a_nil ⟨z, x, rfl, hx, ?_⟩))⟩)))))
    refine s_cons (s_set 2 ev (e_mEnd mc (e_var 0 rfl ⟨_, _, _, _, _, _, rfl, ?_⟩)))
    let L := x.cps.toList.reverse
    refine s_cons (s_for [3] hp ev (i_val (e_rev (e_var 1 rfl ⟨by rw [len_str]; omega, _, rfl, fun i e => ∃ v3, e = [.sh M, .sh (.str x), .sh (.tup (frs (vec n ((L.take i).foldl (stepC n W) en)))), v3], ⟨.un, rfl⟩, ?_, ?_⟩))))
    · rintro e ⟨v3, rfl⟩
      rw [List.length_map, List.take_length, ← colF_rev]
      exact s_cons (s_ret (e_var 2 rfl k))
    · rintro i d e hd ⟨v3, rfl⟩
      obtain ⟨c, hc, rfl⟩ := sg_get hd
      have hc : L[i]? = some c := hc
      have hi : i < L.length := (List.getElem?_eq_some_iff.mp hc).1
      have hl : L.length = x.cps.toList.length := List.length_reverse
      have hLz : ∀ c ∈ L, c ∈ z.cps.toList := fun c hc => hx c (List.mem_reverse.mp hc)
      have hcz := hLz c (List.mem_of_getElem? hc)
      refine g_name 3 ev.nd ?_
      have hz := sz_colF bg.N0 bg.m0 hen hW (L.take i).reverse fun c hc => hLz c (List.mem_of_mem_take (List.mem_reverse.mp hc))
      rw [colF_rev, List.reverse_reverse, List.length_reverse, List.length_take, Nat.min_eq_left (by omega)] at hz
      refine s_cons (s_set 2 ev (e_call c2 ev (by decide) (a_cons (e_var 0 rfl (a_cons (e_var 3 rfl (a_cons (e_var 2 rfl (a_nil ⟨_, z, n, m, B, st, en, W, c, _, _, _, rfl, hM, hcz, hz, bg.big (by omega), ?_⟩)))))))))
      refine s_nil ⟨.sh (.str ⟨#[c]⟩), ?_⟩
      rw [take_more hc, List.foldl_append]
      rfl
def S_weightof (C : Addr) : S0 := fun ds Q => ∃ (d : D) (z x : Str) (n m B : Nat) (st en : Nat → Rat) (W : Nat → Nat → Nat → Rat) (N A Ne Ae : Nat), ds = [d, .str x] ∧ IsMach C z n m B st en W d ∧ (∀ c ∈ x.cps.toList, c ∈ z.cps.toList) ∧ x.cps.toList.length ≤ 1000 ∧ (∀ s, s < n → Sz N A (st s)) ∧ (∀ s, s < n → Sz Ne Ae (en s)) ∧ WSz z n m B W ∧ Bg n N A m B x.cps.toList.length ∧
  Ne < 2 ^ 2900 ∧ Ae < 2 ^ 2900 ∧ N * m ^ x.cps.toList.length * Ne < 2 ^ 2900 ∧ (n + 1) * (A * (n * B) ^ x.cps.toList.length * Ae) < 2 ^ 2900 ∧ Q (fr (sumN n fun s => rowF n W st x.cps.toList s * en s))
theorem ok_weightof (fr : Free mg) (mc : MC K C) (D0 : DefOk K mg "weight_of" (top 51) []) (c1 : FnS P w K mg base 3 "dot" (spP K S_dot)) (c2 : FnS P w K mg base 4 "row_after" (spP K (S_rowafter C))) : FnS P w K mg base 5 "weight_of" (spP K (S_weightof C)) := by
  refine mkFnW (N := ["machine", "text"]) (ps := ["machine", "text"]) D0 (C8.fnScope_by (by decide +kernel)) ?_ fr (fun _ _ _ _ _ _ us hl => match us, hl with | [_, _], _ => rfl) ?_
  · rintro _ ds Q ⟨_, _, _, _, _, _, _, _, _, _, _, _, _, rfl, _⟩; rfl
  · rintro f cdv Ar outer s H0 E ev hp _ ds Q F ⟨d, z, x, n, m, B, st, en, W, N, A, Ne, Ae, rfl, hM, hx, hx2, hst, hen, hW, bg, hNe, hAe, b1, b2, k⟩
    obtain ⟨gv, as, tbl, rfl, hA, hT⟩ := id hM
    have n1 := bg.n1
    have hz := sz_rowF bg.m0 hW x.cps.toList bg.N0 hst hx
    refine s_cons (s_ret (e_call c1 ev (by decide) (a_cons (e_call c2 ev (by decide) (a_cons (e_var 0 rfl (a_cons (e_var 1 rfl (a_nil ⟨_, z, x, n, m, B, st, en, W, N, A, rfl, hM, hx, hx2, hst, hW, bg, ?_⟩)))))))))
    refine a_cons (e_mEnd mc (e_var 0 rfl ⟨_, _, _, _, _, _, rfl, a_nil ⟨n, _, _, N * m ^ x.cps.toList.length * Ne, A * (n * B) ^ x.cps.toList.length * Ae, rfl, by omega, fun i hi => ⟨(hz i hi).ok (bg.lt (by omega)) (bg.ltA (by omega)), (hen i hi).ok hNe hAe, (hz i hi).mul (hen i hi)⟩, ?_, b1, b2, k⟩⟩))
    exact Nat.mul_pos (Nat.mul_pos bg.N0 (Nat.pow_pos bg.m0)) (hen 0 bg.n0).1
end
end K69
set_option Elab.async false
set_option linter.all false
set_option maxRecDepth 100000
set_option maxHeartbeats 4000000
set_option exponentiation.threshold 10000
namespace SY
open PySem PySem.Spec L2
theorem dg_here {k : Key} {d : D} {r : List (Key × D)} : dget ((k, d) :: r) k = some d := by
  unfold dget
  rw [List.find?_cons]
  simp
theorem dg_past {k k' : Key} {d : D} {r : List (Key × D)} (h : ¬ k' = k) : dget ((k', d) :: r) k = dget r k := by
  unfold dget
  rw [List.find?_cons]
  simp [h]
theorem dp_nil {k : Key} {d : D} : dput [] k d = [(k, d)] := rfl
theorem dp_past {k k' : Key} {x d : D} {r : List (Key × D)} (h : ¬ k' = k) : dput ((k', x) :: r) k d = (k', x) :: dput r k d := by
  unfold dput
  rw [List.any_cons]
  have e : decide (k' = k) = false := decide_eq_false h
  rw [e, Bool.false_or]
  split
  · rw [List.map_cons, if_neg h]
  · rfl
theorem dp_here {k : Key} {x d : D} {r : List (Key × D)} (h : ∀ kv ∈ r, ¬ kv.1 = k) : dput ((k, x) :: r) k d = (k, d) :: r := by
  unfold dput
  rw [List.any_cons, decide_eq_true rfl, Bool.true_or, if_pos rfl, List.map_cons, if_pos rfl]
  congr 1
  have : ∀ kv ∈ r, (if kv.1 = k then (kv.1, d) else kv) = kv := fun kv hk => if_neg (h kv hk)
  exact (List.map_congr_left this).trans (List.map_id' r)
section
variable {X : Cx} {B : Bs} {env : AE} {pos : Pos} {a b : Expr} {Q : D → Prop}
theorem e_mulS (h : qE X B env a fun x => qE X B env b fun y => ∃ i j, x = .int i ∧ y = .int j ∧ CMul i j ∧ Q (.int (i * j))) : qE X B env (.BinOp a .Mult b pos) Q := fun σ F H rp Qv k => by
  refine ⟨_, pe_op op_mul pe_w pe_w, ?_⟩
  refine h σ F H rp _ fun v F1 H1 x l1 rx h2 => h2 σ F1 H1 (rp.step l1) _ fun u F2 H2 y l2 ry q => ?_
  obtain ⟨i, j, rfl, rfl, c, q⟩ := q
  exact ⟨i, j, rInt rx, rInt ry, c, k _ F2 H2 _ (l1.trans l2) (mkInt _) q⟩
end
end SY
namespace K69
open PySem PySem.Spec L2 SY
/-- the box of draws -/
def boxD (cells : List Int) (at' g t s : Int) : List (Key × D) := [(.inr "cells", .lst (cells.map .int)), (.inr "at", .int at'), (.inr "great", .int g), (.inr "turn", .int t), (.inr "small", .int s)]
def BoxOk (l : List (Key × D)) : Prop := ∃ (cells : List Int) (at' g t s : Int), l = boxD cells at' g t s ∧ (∀ c ∈ cells, 0 ≤ c) ∧ 0 ≤ at' ∧ 0 ≤ g ∧ 0 ≤ t ∧ 0 ≤ s
def Wbox (K : PySem.W.Frag) (a : Addr) : Wd where
  M := fun x => x = a
  J := fun F H => ∃ l kvs, H a = some (.dK kvs) ∧ RD K F l kvs ∧ BoxOk l
  mono := fun ⟨l, kvs, h1, h2, h3⟩ s m => ⟨l, kvs, m a _ rfl h1, RD.mono s _ _ h2, h3⟩
theorem ne1 : ¬ (Sum.inr "cells" : Key) = .inr "at" := by decide
theorem bx_at {c : List Int} {at' g t s : Int} : dget (boxD c at' g t s) (.inr "at") = some (.int at') := (dg_past (by decide)).trans dg_here
theorem bx_great {c : List Int} {at' g t s : Int} : dget (boxD c at' g t s) (.inr "great") = some (.int g) := (dg_past (by decide)).trans ((dg_past (by decide)).trans dg_here)
theorem bx_turn {c : List Int} {at' g t s : Int} : dget (boxD c at' g t s) (.inr "turn") = some (.int t) := (dg_past (by decide)).trans ((dg_past (by decide)).trans ((dg_past (by decide)).trans dg_here))
theorem bx_small {c : List Int} {at' g t s : Int} : dget (boxD c at' g t s) (.inr "small") = some (.int s) := (dg_past (by decide)).trans ((dg_past (by decide)).trans ((dg_past (by decide)).trans ((dg_past (by decide)).trans dg_here)))
theorem bx_cells {c : List Int} {at' g t s : Int} : dget (boxD c at' g t s) (.inr "cells") = some (.lst (c.map .int)) := dg_here
theorem nin_nil {k : Key} : ∀ kv ∈ ([] : List (Key × D)), ¬ kv.1 = k := fun _ h => by cases h
theorem nin_cons {k k' : Key} {d : D} {r : List (Key × D)} (h : ¬ k' = k) (t : ∀ kv ∈ r, ¬ kv.1 = k) : ∀ kv ∈ (k', d) :: r, ¬ kv.1 = k := fun kv hk => by
  rcases List.mem_cons.mp hk with rfl | hk
  · exact h
  · exact t kv hk
theorem bp_at {c : List Int} {at' g t s x : Int} : dput (boxD c at' g t s) (.inr "at") (.int x) = boxD c x g t s := (dp_past (by decide)).trans (congrArg _ (dp_here (nin_cons (by decide) (nin_cons (by decide) (nin_cons (by decide) nin_nil)))))
theorem bp_great {c : List Int} {at' g t s x : Int} : dput (boxD c at' g t s) (.inr "great") (.int x) = boxD c at' x t s := (dp_past (by decide)).trans (congrArg _ ((dp_past (by decide)).trans (congrArg _ (dp_here (nin_cons (by decide) (nin_cons (by decide) nin_nil))))))
theorem bp_turn {c : List Int} {at' g t s x : Int} : dput (boxD c at' g t s) (.inr "turn") (.int x) = boxD c at' g x s := (dp_past (by decide)).trans (congrArg _ ((dp_past (by decide)).trans (congrArg _ ((dp_past (by decide)).trans (congrArg _ (dp_here (nin_cons (by decide) nin_nil)))))))
theorem bp_small {c : List Int} {at' g t s x : Int} : dput (boxD c at' g t s) (.inr "small") (.int x) = boxD c at' g t x := (dp_past (by decide)).trans (congrArg _ ((dp_past (by decide)).trans (congrArg _ ((dp_past (by decide)).trans (congrArg _ ((dp_past (by decide)).trans (congrArg _ (dp_here nin_nil))))))))
section
variable {P : Program} {w : World} {K : PySem.W.Frag} {mg : Str → Option Value} {base : Heap}
def S_take (a : Addr) : S0 := fun ds Q => ∃ n : Int, ds = [.ref a, .int n] ∧ 0 < n ∧ n ≤ 1000000 ∧ ∀ r, 0 ≤ r → r < n → Q (.int r)
/-- a def that draws: its first parameter is the box -/
theorem fnOk_box {S : Addr → S0} {x : Str} {st : Stmt} {N : List Str} {p1 : Str} {ps : List Str} {k : Nat} (D0 : DefOk K mg x st []) (sc : FnScope N (p1 :: ps) (defScope st)) (fr : Free mg) (ar : ∀ a ds Q, S a ds Q → ∃ r, ds = .ref a :: r ∧ r.length = ps.length)
    (hb : ∀ (kV doc pm : Value) (an : Option Addr) (cdv ct : Value) (us : List Value), us.length = (p1 :: ps).length → bindArgs (PySem.W.fnOf x x (defArgs st) (defBody st) (defScope st) .none kV doc pm an cdv ct) ⟨us, []⟩ = pure ((p1 :: ps).zip us))
    (hbody : ∀ (f : Addr) (cdv : Value) (A : Around) (outer : List Env) (s : Shared) (H0 : Hp) (E : XK), Ev (cxOf (L2.CX P w) P w K mg base N x (defScope st) f cdv A outer s H0 E) k → PassesOwn (model P w) (cxOf (L2.CX P w) P w K mg base N x (defScope st) f cdv A outer s H0 E).A (cxOf (L2.CX P w) P w K mg base N x (defScope st) f cdv A outer s H0 E).env (cxOf (L2.CX P w) P w K mg base N x (defScope st) f cdv A outer s H0 E).xe →
      ∀ (a : Addr) (r : List D) (Q : D → Prop) (B : Bs) (l : List (Key × D)), S a (.ref a :: r) Q → BoxOk l → qS (cxOf (L2.CX P w) P w K mg base N x (defScope st) f cdv A outer s H0 E) B noX (.od (some a) l :: env0 (N.length - 1) r) (defBody st)
        { nx := fun _ => False, rt := fun env d => (∃ l', env[0]? = some (.od (some a) l') ∧ BoxOk l') ∧ Q d }) : FnS P w K mg base (k + 1) x (spW K (Wbox K) S) := by
  obtain ⟨f, fd, F, hm⟩ := D0
  refine ⟨f, fd, p1 :: ps, ?_, hm, F.kp, F.bindsN hb⟩
  refine F.ok sc (fun vs H Q E ⟨a, F1, ds, Qd, ok, r, h, _⟩ => by obtain ⟨r', e, hl⟩ := ar a ds Qd h; rw [r.length, e, List.length_cons, List.length_cons, hl]) fun cdv A outer s H vs Q E hr ⟨a, F1, ds, Qd, ok, r, h, kk⟩ => ?_
  obtain ⟨r', rfl, hl⟩ := ar a ds Qd h
  rw [RL] at r
  obtain ⟨v0, vs', rfl, r1, r2⟩ := r
  have r1 := rRef r1
  subst r1
  obtain ⟨l, kvs, h1, h2, h3⟩ := ok.jj
  obtain ⟨fa, ha⟩ := ok.mf a rfl
  let H1 : Hp := fun y => if y = a then none else H y
  let B : Bs := ⟨W0, F1, H1⟩
  have hH1 : ∀ {y : Addr} {o : HO}, y ≠ a → H y = some o → H1 y = some o := fun {y o} hy e => by show (if y = a then none else H y) = some o; rw [if_neg hy]; exact e
  have le0 : Le W0 F1 H1 F1 H := ⟨WOk.w0 ok.fh, Same.refl _, fun y o _ e => by
    have e : (if y = a then none else H y) = some o := e
    by_cases hy : y = a
    · rw [if_pos hy] at e; cases e
    · rw [if_neg hy] at e; exact e, fun y e _ => e⟩
  have hN : N.length = N.length - 1 + 1 := by
    have := sc.pre
    cases N with
    | nil => cases ps <;> simp at this
    | cons _ _ => rfl
  have rp0 := rep0 (N := N.tail) (K := K) (WOk.w0 ok.fh) r2
  have rp : Rep K B F1 H (L2.start N (V.ref a :: vs')) (.od (some a) l :: env0 (N.length - 1) r') := by
    have es : L2.start N (V.ref a :: vs') = some (V.ref a) :: L2.start N.tail vs' := by
      unfold L2.start
      rw [List.map_cons, List.cons_append, List.length_cons, List.length_tail]
      congr 2
      rw [Nat.sub_sub, Nat.add_comm 1]
    have el : N.tail.length = N.length - 1 := List.length_tail
    rw [es]
    rw [el] at rp0
    refine ⟨le0, by rw [List.length_cons, List.length_cons, rp0.len], fun i v e => ?_, fun i j p oi oj ei ej => ?_⟩
    · cases i with
      | zero =>
        cases e
        exact ⟨a, kvs, rfl, fa, fun z => z, if_pos rfl, h1, h2, fun b z => by cases z; rfl⟩
      | succ i =>
        rw [List.getElem?_cons_succ] at e
        have := rp0.sl i v e
        have hm := List.mem_of_getElem? e
        unfold env0 at hm
        rcases List.mem_append.mp hm with hm | hm
        · obtain ⟨d, _, rfl⟩ := List.mem_map.mp hm
          exact this
        · rw [(List.mem_replicate.mp hm).2]
          trivial
    · have no : ∀ i, OwnAt (AV.od (some a) l :: env0 (N.length - 1) r') (i + 1) → False := fun i o => by
        have h : ∀ v, (env0 (N.length - 1) r')[i]? = some v → v = .un ∨ ∃ d, v = .sh d := fun v e => by
          have := List.mem_of_getElem? e
          unfold env0 at this
          rcases List.mem_append.mp this with z | z
          · obtain ⟨d, _, rfl⟩ := List.mem_map.mp z
            exact .inr ⟨d, rfl⟩
          · exact .inl (List.mem_replicate.mp z).2
        rcases o with ⟨l, o⟩ | ⟨l, o⟩ | ⟨l, o⟩
        · rw [List.getElem?_cons_succ] at o
          rcases h _ o with z | ⟨d, z⟩ <;> cases z
        · rw [List.getElem?_cons_succ] at o
          rcases h _ o with z | ⟨d, z⟩ <;> cases z
        · rw [List.getElem?_cons_succ] at o
          rcases h _ o with z | ⟨d, z⟩ <;> cases z
      cases i with
      | zero =>
        cases j with
        | zero => rfl
        | succ j => exact absurd oj (no j)
      | succ i => exact absurd oi (no i)
  refine ⟨_, pss_w, hbody f cdv A outer s H E ⟨sc.nd, rfl, hr, fr⟩ (passes_of rfl) a r' Qd B l h h3 _ F1 H _ rp ⟨fun σ F2 H2 env2 rp _ q => False.elim q, fun v σ F2 H2 env2 d rp rd q => ?_, fun _ _ _ _ _ _ z => False.elim z, fun _ _ _ _ _ _ z => False.elim z, fun _ _ _ _ _ _ _ _ z => False.elim z⟩⟩
  obtain ⟨⟨l', he, hb'⟩, q⟩ := q
  obtain ⟨p, xs, g1, g2, g3, g4, g5, g6, g7⟩ := rp.sl 0 _ he
  have ep := g7 a rfl
  subst ep
  refine kk F2 H2 d v ⟨⟨rp.ok.fh, fun y hy => ?_, l', xs, g5, g6, hb'⟩, rp.le.ff, fun y o hy e => rp.le.hh y o (fun z => z) (hH1 hy e), fun y e hy => ?_⟩ rd q
  · have hy : y = p := hy
    subst hy
    exact ⟨g2, by rw [g5]; exact fun z => nomatch z⟩
  · by_cases hya : y = p
    · subst hya; exact g2
    · refine rp.le.un y e ?_
      cases z : H y with
      | none => exact absurd z hy
      | some o => show H1 y ≠ none; rw [hH1 hya z]; exact fun z => nomatch z
theorem ok_take (fr : Free mg) (D0 : DefOk K mg "_law_take" (top 67) []) : FnS P w K mg base 1 "_law_take" (spW K (Wbox K) S_take) := by
  refine fnOk_box (N := ["box", "size", "cell", "great", "one", "two"]) (p1 := "box") (ps := ["size"]) D0 (C8.fnScope_by (by decide +kernel)) fr ?_ (fun _ _ _ _ _ _ us hl => match us, hl with | [_, _], _ => rfl) ?_
  · rintro a ds Q ⟨n, rfl, _⟩; exact ⟨_, rfl, rfl⟩
  rintro f cdv A outer s H0 E ev hp a r Q B l ⟨n, hr, hn, hn2, k⟩ ⟨cells, at', g, t, sm, rfl, hc, hat, hg, ht, hs⟩
  cases hr
  have small : ∀ j : Int, 0 ≤ j → j < 1000000000 → ∀ i, CMul i j := fun j h1 h2 i => .inr ⟨by omega, by omega⟩
  -- the end, from any box
  have fin : ∀ (at' g t sm : Int) (v2 v3 : AV), 0 ≤ at' → 0 ≤ g → 0 ≤ t → 0 ≤ sm → qS (cxOf (L2.CX P w) P w K mg base ["box", "size", "cell", "great", "one", "two"] "_law_take" (defScope (top 67)) f cdv A outer s H0 E) B noX
      [.od (some a) (boxD cells at' g t sm), .sh (.int n), v2, v3, .un, .un] ((defBody (top 67)).drop 2) { nx := fun _ => False, rt := fun env d => (∃ l', env[0]? = some (.od (some a) l') ∧ BoxOk l') ∧ Q d } := by
    intro at' g t sm v2 v3 hat hg ht hs
    refine s_cons (s_if (t_cmp (c_gt (e_dgOd 0 ev rfl (e_str ⟨_, _, rfl, bx_great, e_int ⟨_, rfl, fun hk => ?_, fun hk => ?_⟩⟩)))))
    · refine s_cons (s_set 3 ev (e_dgOd 0 ev rfl (e_str ⟨_, _, rfl, bx_great, ?_⟩)))
      refine s_cons (s_dput 0 ev rfl (e_fdiv (e_var 3 rfl (e_var 1 rfl ⟨_, _, rfl, rfl, ⟨hn, ?_⟩, e_str ⟨_, rfl, (by show 5 < 100000; decide), ?_⟩⟩))))
      · have : n.natAbs.log2 < 30 := log_lt (by omega) (by decide)
        omega
      · rw [bp_great]
        refine s_cons (s_ret (e_mod (e_toInt fr (e_var 3 rfl (e_var 1 rfl ⟨_, _, rfl, rfl, hn, ⟨_, rfl, cells, at', g / n, t, sm, rfl, hc, hat, Int.ediv_nonneg hg (by omega), ht, hs⟩, k _ (Int.emod_nonneg _ (by omega)) (Int.emod_lt_of_pos _ hn)⟩)))))
    · refine s_nil (s_cons (s_set 4 ev (e_mod (e_toInt fr (e_add (e_add (e_mulS (e_dgOd 0 ev rfl (e_str ⟨_, _, rfl, bx_small, e_int ⟨_, _, rfl, rfl, small _ (by decide) (by decide) _, ?_⟩⟩)))))))))
      refine e_mulS (e_dgOd 0 ev rfl (e_str ⟨_, _, rfl, bx_turn, e_int ⟨_, _, rfl, rfl, small _ (by decide) (by decide) _, ?_⟩⟩))
      refine e_int (e_int ⟨_, _, rfl, rfl, by decide, ?_⟩)
      have h1 : 0 ≤ (sm * 48271 + t * 69621 + 17) % 2147483647 := Int.emod_nonneg _ (by decide)
      have h2 : (sm * 48271 + t * 69621 + 17) % 2147483647 < 2147483647 := Int.emod_lt_of_pos _ (by decide)
      refine s_cons (s_set 5 ev (e_mod (e_toInt fr (e_add (e_add (e_mulS (e_var 4 rfl (e_var 4 rfl ⟨_, _, rfl, rfl, .inr ⟨by omega, by omega⟩, ?_⟩))))))))
      refine e_mulS (e_dgOd 0 ev rfl (e_str ⟨_, _, rfl, bx_turn, e_int ⟨_, _, rfl, rfl, small _ (by decide) (by decide) _, ?_⟩⟩))
      refine e_dgOd 0 ev rfl (e_str ⟨_, _, rfl, bx_small, e_int ⟨_, _, rfl, rfl, by decide, ?_⟩⟩)
      refine s_cons (s_ret (e_mod (e_toInt fr (e_fdiv (e_var 5 rfl (e_int ⟨_, _, rfl, rfl, ⟨by decide, by decide⟩, e_var 1 rfl ⟨_, _, rfl, rfl, hn, ⟨_, rfl, cells, at', g, t, sm, rfl, hc, hat, hg, ht, hs⟩, k _ (Int.emod_nonneg _ (by omega)) (Int.emod_lt_of_pos _ hn)⟩⟩))))))
  refine s_cons (s_dput 0 ev rfl (e_add (e_dgOd 0 ev rfl (e_str ⟨_, _, rfl, bx_turn, e_int (e_str ⟨_, rfl, (by show 5 < 100000; decide), ?_⟩)⟩))))
  rw [bp_turn]
  have ht1 : 0 ≤ t + 1 := by omega
  refine s_cons (s_if (t_bool (w_and (t_cmp (c_eq ev.room (e_dgOd 0 ev rfl (e_str ⟨_, _, rfl, bx_great, e_int ⟨_, rfl, fun hk => ?_, fun hk => ⟨fun h => Bool.noConfusion h, fun _ => s_nil ?_⟩⟩⟩)))))))
  · refine w_and1 (t_cmp (c_lt (e_dgOd 0 ev rfl (e_str ⟨_, _, rfl, bx_at, e_len fr (e_dgOd 0 ev rfl (e_str ⟨_, _, rfl, bx_cells, ⟨_, rfl, fun h2 => ?_, fun h2 => s_nil ?_⟩⟩))⟩))))
    · have hlt : at' < ((cells.map D.int).length : Nat) := of_decide_eq_true h2
      rw [List.length_map] at hlt
      have hi : at'.toNat < cells.length := by omega
      have hget : L2.atI (cells.map D.int) at' = some (.int cells[at'.toNat]) := by
        have := atI_nat (xs := cells.map D.int) (j := at'.toNat) (v := .int cells[at'.toNat]) (by rw [List.getElem?_map, List.getElem?_eq_getElem hi]; rfl)
        rwa [Int.toNat_of_nonneg hat] at this
      have hce : 0 ≤ cells[at'.toNat] := hc _ (List.getElem_mem _)
      refine s_cons (s_set 2 ev (e_ix ev.room (e_dgOd 0 ev rfl (e_str ⟨_, _, rfl, bx_cells, e_dgOd 0 ev rfl (e_str ⟨_, _, rfl, bx_at, _, hget, ?_⟩)⟩))))
      refine s_cons (s_dput 0 ev rfl (e_add (e_dgOd 0 ev rfl (e_str ⟨_, _, rfl, bx_at, e_int (e_str ⟨_, rfl, (by show 5 < 100000; decide), ?_⟩)⟩))))
      rw [bp_at]
      refine s_cons (s_if (t_cmp (c_ge (e_var 2 rfl (e_pow (e_int (e_int ⟨_, _, rfl, rfl, by decide, by decide, _, rfl, fun h3 => ?_, fun h3 => ?_⟩)))))))
      · refine s_cons (s_dput 0 ev rfl (e_mod (e_toInt fr (e_var 2 rfl (e_pow (e_pow (e_int (e_int ⟨_, _, rfl, rfl, by decide, by decide, e_int ⟨_, _, rfl, rfl, by decide, by decide +kernel, _, _, rfl, rfl, by decide +kernel, e_str ⟨_, rfl, (by show 5 < 100000; decide), ?_⟩⟩⟩))))))))
        rw [bp_great]
        refine s_nil (s_nil (fin _ _ _ _ _ _ (by omega) ?_ ht1 hs))
        exact Int.emod_nonneg _ (by decide +kernel)
      · refine s_cons (s_dput 0 ev rfl (e_mod (e_toInt fr (e_add (e_mulS (e_dgOd 0 ev rfl (e_str ⟨_, _, rfl, bx_small, e_int ⟨_, _, rfl, rfl, small _ (by decide) (by decide) _, e_var 2 rfl (e_int ⟨_, _, rfl, rfl, by decide, e_str ⟨_, rfl, (by show 5 < 100000; decide), ?_⟩⟩)⟩⟩)))))))
        rw [bp_small]
        refine s_nil (s_nil (fin _ _ _ _ _ _ (by omega) hg ht1 ?_))
        exact Int.emod_nonneg _ (by decide)
    · exact fin _ _ _ _ _ _ hat hg ht1 hs
  · exact fin _ _ _ _ _ _ hat hg ht1 hs
end
end K69
set_option Elab.async false
set_option linter.all false
set_option maxRecDepth 100000
set_option maxHeartbeats 4000000
set_option exponentiation.threshold 10000
namespace K69
open PySem PySem.Spec L2 SY
theorem nd_len {α : Type} [DecidableEq α] : ∀ (l s : List α), l.Nodup → (∀ x ∈ l, x ∈ s) → l.length ≤ s.length
  | [], _, _, _ => Nat.zero_le _
  | x :: l, s, h, hs => by
    have hx : x ∈ s := hs x (by simp)
    have hn := List.nodup_cons.mp h
    have ih := nd_len l (s.erase x) hn.2 fun y hy => by
      have hne : y ≠ x := fun e => hn.1 (e ▸ hy)
      exact (List.mem_erase_of_ne hne).mpr (hs y (by simp [hy]))
    rw [List.length_erase_of_mem hx] at ih
    have : 0 < s.length := List.length_pos_of_mem hx
    rw [List.length_cons]
    omega
theorem ints_of : ∀ {l : List D} {R : Int → Prop}, (∀ d ∈ l, ∃ i : Int, d = .int i ∧ R i) → ∃ ns : List Int, l = ns.map D.int ∧ ∀ i ∈ ns, R i
  | [], _, _ => ⟨[], rfl, fun _ h => by cases h⟩
  | d :: l, R, h => by
    obtain ⟨i, rfl, hi⟩ := h d (by simp)
    obtain ⟨ns, rfl, hn⟩ := ints_of (l := l) (R := R) fun d hd => h d (by simp [hd])
    exact ⟨i :: ns, rfl, fun j hj => by
      rcases List.mem_cons.mp hj with rfl | hj
      · exact hi
      · exact hn j hj⟩
theorem all_mem {l : List D} {Pr : Nat → D → Prop} {R : D → Prop} (h : ∀ (i : Nat) y, l[i]? = some y → Pr i y) (hr : ∀ i y, Pr i y → R y) : ∀ d ∈ l, R d := fun d hd => by
  obtain ⟨j, hj⟩ := List.getElem?_of_mem hd
  exact hr j d (h j d hj)
theorem rng_len {n : Nat} : (rngD (n : Int)).length = n := by unfold rngD; rw [List.length_map, List.length_range, Int.toNat_natCast]
theorem rng_get {n i : Nat} {d : D} (h : (rngD (n : Int))[i]? = some d) : i < n ∧ d = .int (i : Nat) := by
  unfold rngD at h
  rw [Int.toNat_natCast, List.getElem?_map] at h
  obtain ⟨j, e, rfl⟩ := Option.map_eq_some_iff.mp h
  have hi : i < n := by
    have := (List.getElem?_eq_some_iff.mp e).1
    rwa [List.length_range] at this
  rw [List.getElem?_range hi] at e
  cases e
  exact ⟨hi, rfl⟩
section
variable {P : Program} {w : World} {K : PySem.W.Frag} {mg : Str → Option Value} {base : Heap}
def S_letters (a : Addr) : S0 := fun ds Q => ds = [.ref a] ∧ ∀ z, AlOk z → Q (.str z)
/-- the letters at some places -/
def letStr (ns : List Int) : List Nat := ((List.range 26).filter fun i : Nat => decide ((i : Int) ∈ ns)).map fun i => 97 + i
theorem letStr_ok {ns : List Int} (h1 : 1 ≤ ns.length) (h5 : ns.length ≤ 5) (hr : ∀ i ∈ ns, 0 ≤ i ∧ i < 26) : AlOk ⟨(letStr ns).toArray⟩ := by
  have hl : (⟨(letStr ns).toArray⟩ : Str).cps.toList = letStr ns := rfl
  unfold AlOk
  rw [hl]
  refine ⟨?_, ?_, ?_, ?_⟩
  · cases ns with
    | nil => simp at h1
    | cons i ns =>
      obtain ⟨h0, h2⟩ := hr i (by simp)
      have : (97 + i.toNat) ∈ letStr (i :: ns) := by
        unfold letStr
        refine List.mem_map.mpr ⟨i.toNat, List.mem_filter.mpr ⟨List.mem_range.mpr (by omega), ?_⟩, rfl⟩
        rw [Int.toNat_of_nonneg h0]
        simp
      exact List.length_pos_of_mem this
  · unfold letStr
    rw [List.length_map]
    have nd : ((List.range 26).filter fun i : Nat => decide ((i : Int) ∈ ns)).Nodup := List.Pairwise.filter _ List.nodup_range
    have := nd_len (((List.range 26).filter fun i : Nat => decide ((i : Int) ∈ ns)).map fun i : Nat => (i : Int)) ns (by
      rw [List.nodup_iff_pairwise_ne, List.pairwise_map]
      exact (List.nodup_iff_pairwise_ne.mp nd).imp fun h e => h (by omega)) fun x hx => by
        obtain ⟨i, hi, rfl⟩ := List.mem_map.mp hx
        exact of_decide_eq_true (List.mem_filter.mp hi).2
    rw [List.length_map] at this
    omega
  · intro c hc
    unfold letStr at hc
    obtain ⟨i, hi, rfl⟩ := List.mem_map.mp hc
    have := List.mem_range.mp (List.mem_filter.mp hi).1
    omega
  · unfold letStr
    rw [List.pairwise_map]
    exact (List.pairwise_lt_range.filter _).imp fun h => by omega
theorem one_arr (c : Nat) (l : List Nat) : #[c] ++ l.toArray = (c :: l).toArray := by
  apply Array.ext'
  simp
theorem join_signs : ∀ (l : List Nat), Txt.join Str.empty (l.map fun c => (⟨#[c]⟩ : Str)) = ⟨l.toArray⟩ := by
  have h : ∀ (l : List Nat) (acc : Array Nat), ((l.map fun c => (⟨#[c]⟩ : Str)).foldl (fun acc p => acc ++ Str.empty.cps ++ p.cps) acc) = acc ++ l.toArray := fun l => by
    induction l with
    | nil => intro acc; simp
    | cons c l ih =>
      intro acc
      rw [List.map_cons, List.foldl_cons, ih]
      show acc ++ (#[] : Array Nat) ++ #[c] ++ l.toArray = acc ++ (c :: l).toArray
      rw [Array.append_empty, Array.append_assoc]
      congr 1
      exact (one_arr c l)
  intro l
  cases l with
  | nil => rfl
  | cons c l =>
    have := h l #[c]
    show (⟨((l.map fun c => (⟨#[c]⟩ : Str)).foldl (fun acc p => acc ++ Str.empty.cps ++ p.cps) #[c])⟩ : Str) = _
    rw [this]
    congr 1
    exact (one_arr c l)
theorem strs_signs : ∀ l : List Nat, strsD (l.map fun c => D.str ⟨#[c]⟩) = some (l.map fun c => ⟨#[c]⟩)
  | [] => rfl
  | c :: l => by rw [List.map_cons, List.map_cons]; unfold strsD; rw [strs_signs l]; rfl
theorem ok_letters (fr : Free mg) (D0 : DefOk K mg "_law_letters" (top 72) []) (c1 : FnS P w K mg base 1 "_law_take" (spW K (Wbox K) S_take)) : FnS P w K mg base 2 "_law_letters" (spW K (Wbox K) S_letters) := by
  refine mkFnW (N := ["box", "many", "spots", "turn", "spot"]) (ps := ["box"]) D0 (C8.fnScope_by (by decide +kernel)) ?_ fr (fun _ _ _ _ _ _ us hl => match us, hl with | [_], _ => rfl) ?_
  · rintro _ ds Q ⟨rfl, _⟩; rfl
  · rintro f cdv A outer s H0 E ev hp a ds Q F ⟨rfl, k⟩
    refine s_cons (s_set 1 ev (e_ix ev.room (e_own (o_lst (a_cons (e_int (a_cons (e_int (a_cons (e_int (a_cons (e_int (a_cons (e_int (a_cons (e_int (a_cons (e_int (a_cons (e_int (a_nil ⟨Nat.le_of_ble_eq_true rfl, ?_⟩)))))))))))))))))))))
    refine e_callW c1 ev (by decide) a rfl (a_cons (e_var 0 rfl (a_cons (e_int (a_nil ⟨8, rfl, by decide, by decide, fun r h0 h8 => ?_⟩)))))
    have hm : ∃ m : Int, L2.atI [D.int 1, .int 2, .int 2, .int 3, .int 3, .int 1, .int 2, .int 5] r = some (.int m) ∧ 1 ≤ m ∧ m ≤ 5 := by
      have : r = 0 ∨ r = 1 ∨ r = 2 ∨ r = 3 ∨ r = 4 ∨ r = 5 ∨ r = 6 ∨ r = 7 := by omega
      rcases this with rfl | rfl | rfl | rfl | rfl | rfl | rfl | rfl
      all_goals exact ⟨_, rfl, by decide, by decide⟩
    obtain ⟨m, hget, m1, m5⟩ := hm
    obtain ⟨m', rfl⟩ := Int.eq_ofNat_of_zero_le (show 0 ≤ m by omega)
    refine ⟨_, hget, ?_⟩
    refine s_cons (s_own 2 ev (o_lc (own := [("turn", 3)]) [3] ev.calm ev.nd ?_ (by decide) (lc_all (fun _ d => ∃ i : Int, d = .int i ∧ 0 ≤ i ∧ i < 26) (i_rng fr (e_var 1 rfl ⟨_, rfl, by omega, by omega, ?_, fun l hl hall => ?_, ?_⟩)))))
    · show blkC ["box", "many", "spots", "turn", "spot"] (defScope (top 72)) _ _ = true
      decide +kernel
    · rw [rng_len]; omega
    · rw [rng_len] at hl
      obtain ⟨ns, rfl, hns⟩ := ints_of (all_mem hall fun _ _ h => h)
      rw [List.length_map] at hl
      refine s_fz 2 rfl (s_cons (s_ret (e_join (e_str ⟨_, rfl, e_own (o_lc (own := [("spot", 4)]) [4] ev.calm ev.nd ?_ (by decide) (lc_fmap (fun d => match d with | .int i => decide (i ∈ ns) | _ => false) (fun d => match d with | .int i => .str ⟨#[97 + i.toNat]⟩ | _ => .non) (i_rng fr (e_int ⟨26, rfl, by decide, by decide, by decide, ?_, ?_⟩))))⟩))))
      · show blkC ["box", "many", "spots", "turn", "spot"] (defScope (top 72)) _ _ = true
        decide +kernel
      · have e1 : ((rngD 26).filter (fun d => match d with | .int i => decide (i ∈ ns) | _ => false)).map (fun d => match d with | D.int i => D.str ⟨#[97 + i.toNat]⟩ | _ => .non) = (letStr ns).map fun c => D.str ⟨#[c]⟩ := by
          unfold rngD letStr
          rw [List.filter_map, List.map_map, List.map_map]
          rfl
        rw [e1]
        have hok := letStr_ok (ns := ns) (by omega) (by omega) hns
        refine ⟨_, _, rfl, strs_signs _, ?_, ?_⟩
        · have h5 : (letStr ns).length ≤ 5 := hok.2.1
          have : ∀ l : List Nat, ((l.map fun c => (⟨#[c]⟩ : Str)).map (·.length)).sum = l.length := fun l => by
            induction l with
            | nil => rfl
            | cons c l ih => rw [List.map_cons, List.map_cons, List.sum_cons, ih, List.length_cons]; show 1 + l.length = _; omega
          rw [this, List.length_map]
          show (letStr ns).length + (letStr ns).length * 0 ≤ 100000
          omega
        · have e2 := join_signs (letStr ns)
          show Q (.str (Txt.join Str.empty ((letStr ns).map fun c => (⟨#[c]⟩ : Str))))
          rw [e2]
          exact k _ hok
      · intro i d hd s H C cl fp
        have hd' : (rngD ((26 : Nat) : Int))[i]? = some d := hd
        obtain ⟨hi, rfl⟩ := rng_get hd'
        refine g_name 4 ev.nd ?_
        intro s H C cl fp
        refine t_cmp (c_inL (e_var 4 rfl (e_var 2 rfl ⟨_, _, _, rfl, rfl, ints_flat ns, _, rfl, ?_, fun _ => ?_⟩)))
        · exact inV_int _ _
        · intro s H C cl fp
          refine e_ix (n := 1) ev.room (e_str (e_var 4 rfl ⟨by decide, 97 + i, ?_, ?_⟩))
          · refine atI_nat ?_
            have : i = 0 ∨ i = 1 ∨ i = 2 ∨ i = 3 ∨ i = 4 ∨ i = 5 ∨ i = 6 ∨ i = 7 ∨ i = 8 ∨ i = 9 ∨ i = 10 ∨ i = 11 ∨ i = 12 ∨ i = 13 ∨ i = 14 ∨ i = 15 ∨ i = 16 ∨ i = 17 ∨ i = 18 ∨ i = 19 ∨ i = 20 ∨ i = 21 ∨ i = 22 ∨ i = 23 ∨ i = 24 ∨ i = 25 := by omega
            rcases this with rfl | rfl | rfl | rfl | rfl | rfl | rfl | rfl | rfl | rfl | rfl | rfl | rfl | rfl | rfl | rfl | rfl | rfl | rfl | rfl | rfl | rfl | rfl | rfl | rfl | rfl
            all_goals rfl
          · show D.str ⟨#[97 + i]⟩ = .str ⟨#[97 + ((i : Nat) : Int).toNat]⟩
            rw [Int.toNat_natCast]
    · intro i d hd s H C cl fp
      refine g_name 3 ev.nd ?_
      intro s H C cl fp
      exact e_callW c1 ⟨ev.nd, ev.calm, ev.room, ev.free⟩ (by decide) a rfl (a_cons (e_var 0 rfl (a_cons (e_int (a_nil ⟨26, rfl, by decide, by decide, fun r h0 h1 => ⟨r, rfl, h0, h1⟩⟩)))))
end
end K69
set_option Elab.async false
set_option linter.all false
set_option maxRecDepth 100000
set_option maxHeartbeats 4000000
set_option exponentiation.threshold 10000
namespace SY
open PySem PySem.Spec L2
section
variable {X : Cx} {B : Bs} {env : AE} {pos p px : Pos} {Q : D → Prop} {n : Nat}
theorem e_sumOw {l : List D} {x : Str} (i : Nat) (ev : Ev X n) (he : env[i]? = some (.ow l)) (h : ∃ ns, intsD l = some ns ∧ Q (.int ns.sum)) (hN : X.N[i]? = some x := by rfl)
    (hv : Vis X.env.scope x := by first | exact Or.inl rfl | exact Or.inr (Or.inl rfl) | exact Or.inr (Or.inr rfl)) (hg : Gl X "sum" := by rfl)
    (hd : (x == ("__debug__" : Str)) = false := by decide) (hcd : (x == ("__classdict__" : Str)) = false := by decide) (ha : starEach [.Name x px] X.env = (false, eval (.Name x px) X.env) :: starEach [] X.env := by rfl) (hpl : (backTo pos (starEach [] X.env)).any (·.1) = false := by rfl) : qE X B env (.Call (.Name "sum" p) [.Name x px] [] pos) Q := fun σ F H rp Qv k => by
  refine ⟨_, pe_callB (cr_sum ev.calm) hg ev.free.sum (by decide +kernel) (pa_cons (pe_var hN hv hd hcd) pa_nil ha) (by decide) (by decide) ha hpl, ?_⟩
  obtain ⟨q, xs, g1, g2, g3, g4, g5, g6⟩ := rp.sl i _ he
  obtain ⟨ns, e, qq⟩ := h
  have e2 := intsD_v g6 e
  subst e2
  exact ⟨_, g1, q, ns, rfl, SqL.of g5, k _ F H _ (Le.refl rp.ok) (mkInt _) qq⟩
end
end SY
namespace K69
open PySem PySem.Spec L2 SY
/-- the least common multiple of 1 .. k -/
def lcmTo : Nat → Nat
  | 0 => 1
  | k + 1 => Nat.lcm (lcmTo k) (k + 1)
theorem lcmTo_pos : ∀ k, 0 < lcmTo k
  | 0 => by decide
  | k + 1 => Nat.lcm_pos (lcmTo_pos k) (Nat.succ_pos k)
theorem dvd_lcmTo : ∀ {k d : Nat}, 1 ≤ d → d ≤ k → d ∣ lcmTo k
  | 0, d, h1, h2 => by omega
  | k + 1, d, h1, h2 => by
    unfold lcmTo
    by_cases h : d = k + 1
    · subst h; exact Nat.dvd_lcm_right _ _
    · exact Nat.dvd_trans (dvd_lcmTo h1 (by omega)) (Nat.dvd_lcm_left _ _)
theorem Sz.share {L S p : Nat} (hS : 1 ≤ S) (hp : p ≤ S) (h : S ∣ L) (hL : 0 < L) : Sz L L (Rat.divInt (p : Int) (S : Int)) := by
  obtain ⟨k, rfl⟩ := h
  have hk : 0 < k := Nat.pos_of_ne_zero fun e => by rw [e, Nat.mul_zero] at hL; omega
  refine ⟨hL, (p * k : Nat), ?_, ?_⟩
  · have e : Rat.divInt (k : Int) (k : Int) = 1 := Rat.divInt_self' (by omega)
    have : Rat.divInt (p : Int) (S : Int) * Rat.divInt (k : Int) (k : Int) = Rat.divInt ((p * k : Nat) : Int) ((S * k : Nat) : Int) := by
      rw [Rat.divInt_mul_divInt]; simp
    rw [← this, e, Rat.mul_one]
  · rw [Int.natAbs_natCast]; exact Nat.mul_le_mul_right _ hp
theorem sum_share (S : Nat) (hS : 1 ≤ S) : ∀ l : List Int, sumQ (l.map fun p => Rat.divInt p (S : Int)) = Rat.divInt l.sum (S : Int)
  | [] => by simp [sumQ]
  | p :: l => by
    rw [List.map_cons, sumQ, sum_share S hS l, List.sum_cons, Rat.divInt_eq_div, Rat.divInt_eq_div, Rat.divInt_eq_div, Rat.intCast_add]
    grind
/-- a row of chances: shares of at most 3 n -/
structure ChF (n N : Nat) (f : Nat → Rat) : Prop where
  nn : ∀ i, i < n → 0 ≤ f i
  sz : ∀ i, i < n → Sz N N (f i)
  one : sumN n f = 1
def LL (n : Nat) : Nat := lcmTo (3 * n)
section
variable {P : Program} {w : World} {K : PySem.W.Frag} {mg : Str → Option Value} {base : Heap}
def S_lch (a : Addr) : S0 := fun ds Q => ∃ m : Nat, ds = [.ref a, .int (m : Nat)] ∧ 1 ≤ m ∧ m ≤ 100 ∧ ∀ f, ChF m (LL m) f → Q (.lst (frs (vec m f)))
theorem sum_nn : ∀ {l : List Int}, (∀ i ∈ l, 0 ≤ i ∧ i ≤ 3) → 0 ≤ l.sum ∧ l.sum ≤ 3 * (l.length : Nat) ∧ ∀ i ∈ l, i ≤ l.sum
  | [], _ => ⟨by decide, by decide, fun _ h => by cases h⟩
  | a :: l, h => by
    obtain ⟨h1, h2, h3⟩ := sum_nn (l := l) fun i hi => h i (by simp [hi])
    have ha := h a (by simp)
    rw [List.sum_cons, List.length_cons]
    refine ⟨by omega, by omega, fun i hi => ?_⟩
    rcases List.mem_cons.mp hi with rfl | hi
    · omega
    · have := h3 i hi; omega
theorem vec_of {α : Type} [Inhabited α] (l : List α) : l = vec l.length fun i => l.getD i default := vec_eq rfl fun i x h => by
  rw [List.getD_eq_getElem?_getD, h]; rfl
theorem ok_lch (fr : Free mg) (D0 : DefOk K mg "_law_chances" (top 73) []) (c1 : FnS P w K mg base 1 "_law_take" (spW K (Wbox K) S_take)) (c2 : FnS P w K mg base 2 "_law_frac" (spP K S_frac)) : FnS P w K mg base 3 "_law_chances" (spW K (Wbox K) S_lch) := by
  refine mkFnW (N := ["box", "width", "parts", "k", "part"]) (ps := ["box", "width"]) D0 (C8.fnScope_by (by decide +kernel)) ?_ fr (fun _ _ _ _ _ _ us hl => match us, hl with | [_, _], _ => rfl) ?_
  · rintro _ ds Q ⟨_, rfl, _⟩; rfl
  · rintro f cdv A outer s H0 E ev hp a ds Q F ⟨m, rfl, m1, m2, k⟩
    have fin : ∀ ns : List Int, ns.length = m → (∀ i ∈ ns, 0 ≤ i ∧ i ≤ 3) → ns.sum ≠ 0 → ∀ v3 v4, qS (cxOf (L2.CX P w) P w K mg base ["box", "width", "parts", "k", "part"] "_law_chances" (defScope (top 73)) f cdv A outer s H0 E) ⟨Wbox K a, F, H0⟩ noX
        [.sh (.ref a), .sh (.int (m : Nat)), .ow (ns.map D.int), v3, v4] ((defBody (top 73)).drop 2) { nx := fun _ => Q .non, rt := fun _ => Q } := by
      intro ns hl hns hne v3 v4
      obtain ⟨s0, s3, sl⟩ := sum_nn hns
      rw [hl] at s3
      obtain ⟨S, hS⟩ := Int.eq_ofNat_of_zero_le s0
      have hS1 : 1 ≤ S := by omega
      have hdv : S ∣ LL m := dvd_lcmTo hS1 (by omega)
      refine s_fz 2 rfl (s_cons (s_ret (e_own (o_lc (own := [("part", 4)]) [4] ev.calm ev.nd ?_ (by decide) (lc_map (i_val (e_var 2 rfl ⟨_, rfl, ?_, (ns.map fun p => K69.fr (Rat.divInt p (S : Int))), ?_, ?_, fun i d hd y hy => ?_⟩)))))))
      · show blkC ["box", "width", "parts", "k", "part"] (defScope (top 73)) _ _ = true
        decide +kernel
      · rw [List.length_map]; omega
      · rw [List.length_map, List.length_map]
      · have e := vec_of (ns.map fun p => Rat.divInt p (S : Int))
        have hlen : (ns.map fun p => Rat.divInt p (S : Int)).length = m := by rw [List.length_map, hl]
        rw [hlen] at e
        have e2 : (ns.map fun p => K69.fr (Rat.divInt p (S : Int))) = frs (vec m fun i => (ns.map fun p => Rat.divInt p (S : Int)).getD i default) := by
          rw [← e]; unfold frs; rw [List.map_map]; rfl
        rw [e2]
        have at' : ∀ i, i < m → ∃ p : Int, p ∈ ns ∧ (ns.map fun p => Rat.divInt p (S : Int)).getD i default = Rat.divInt p (S : Int) := fun i hi => by
          have hi' : i < ns.length := by omega
          refine ⟨ns[i], List.getElem_mem _, ?_⟩
          rw [List.getD_eq_getElem?_getD, List.getElem?_map, List.getElem?_eq_getElem hi']
          rfl
        refine k _ ⟨fun i hi => ?_, fun i hi => ?_, ?_⟩
        · obtain ⟨p, hp, ep⟩ := at' i hi
          rw [ep]
          have := (hns p hp).1
          rw [← Rat.num_nonneg, Rat.num_divInt]
          rw [Int.sign_eq_one_of_pos (by omega), Int.one_mul]
          exact Int.ediv_nonneg this (by omega)
        · obtain ⟨p, hp, ep⟩ := at' i hi
          rw [ep]
          obtain ⟨p', rfl⟩ := Int.eq_ofNat_of_zero_le (hns p hp).1
          have := sl _ hp
          exact Sz.share hS1 (by omega) hdv (lcmTo_pos _)
        · unfold sumN
          rw [← e, sum_share S hS1, hS]
          exact Rat.divInt_self' (by omega)
      · rw [List.getElem?_map] at hd hy
        obtain ⟨p, e1, rfl⟩ := Option.map_eq_some_iff.mp hd
        rw [e1] at hy
        cases hy
        intro s H C cl fp
        refine g_name 4 ev.nd ?_
        intro s H C cl fp
        refine e_call c2 ⟨ev.nd, ev.calm, ev.room, ev.free⟩ (by decide) (a_cons (e_var 4 rfl (a_cons (e_sum (X := (cxOf (L2.CX P w) P w K mg base ["box", "width", "parts", "k", "part"] "_law_chances" (defScope (top 73)) f cdv A outer _ H0 E).blk s H _ _ fp) fr ev.calm (e_var 2 rfl ⟨_, ns, rfl, ints_ints ns, a_nil ⟨p, (S : Int), by rw [← hS], by omega, ?_, rfl⟩⟩)))))
        rw [Int.natAbs_natCast]
        have : S < 2 ^ 20 := by omega
        exact Nat.lt_of_lt_of_le this (Nat.pow_le_pow_right (by decide) (by decide))
    refine s_cons (s_own 2 ev (o_lc (own := [("k", 3)]) [3] ev.calm ev.nd ?_ (by decide) (lc_all (fun _ d => ∃ i : Int, d = .int i ∧ 0 ≤ i ∧ i ≤ 3) (i_rng fr (e_var 1 rfl ⟨_, rfl, by omega, by omega, ?_, fun l hl hall => ?_, ?_⟩)))))
    · show blkC ["box", "width", "parts", "k", "part"] (defScope (top 73)) _ _ = true
      decide +kernel
    · rw [rng_len]; omega
    · rw [rng_len] at hl
      obtain ⟨ns, rfl, hns⟩ := ints_of (all_mem hall fun _ _ h => h)
      rw [List.length_map] at hl
      refine s_cons (s_if (t_cmp (c_eq ev.room (e_sumOw 2 ev rfl ⟨ns, ints_ints ns, e_int ⟨_, rfl, fun hk => ?_, fun hk => s_nil ?_⟩⟩))))
      · refine s_cons (s_put 2 rfl (e_int (e_callW c1 ev (by decide) a rfl (a_cons (e_var 0 rfl (a_cons (e_var 1 rfl (a_nil ⟨_, rfl, by omega, by omega, fun r r0 r1 => ⟨r, r.toNat, rfl, ?_, s_nil ?_⟩⟩))))))))
        · unfold ixN
          rw [List.length_map, if_pos r0, if_pos (by omega)]
        · have e : (ns.map D.int).set r.toNat (.int 1) = (ns.set r.toNat 1).map D.int := by rw [List.map_set]
          rw [e]
          have hz : ns.sum = 0 := of_decide_eq_true hk
          have hset : ∀ i ∈ ns.set r.toNat 1, 0 ≤ i ∧ i ≤ 3 := fun i hi => by
            rcases List.mem_or_eq_of_mem_set hi with h | h
            · exact hns i h
            · subst h; decide
          refine fin _ (by rw [List.length_set]; exact hl) hset (fun h0 => ?_) _ _
          obtain ⟨_, _, h3⟩ := sum_nn hset
          have hm : (1 : Int) ∈ ns.set r.toNat 1 := List.mem_of_getElem? (List.getElem?_set_self (show r.toNat < ns.length by omega))
          have := h3 1 hm
          omega
      · exact fin ns hl hns (of_decide_eq_false hk) _ _
    · intro i d hd s H C cl fp
      refine g_name 3 ev.nd ?_
      intro s H C cl fp
      refine e_max2 (X := (cxOf (L2.CX P w) P w K mg base ["box", "width", "parts", "k", "part"] "_law_chances" (defScope (top 73)) f cdv A outer _ H0 E).blk s H _ _ fp) fr ev.calm (e_int (e_sub (e_callW c1 ⟨ev.nd, ev.calm, ev.room, ev.free⟩ (by decide) a rfl (a_cons (e_var 0 rfl (a_cons (e_int (a_nil ⟨6, rfl, by decide, by decide, fun r h0 h1 => e_int ⟨_, _, rfl, rfl, _, _, rfl, rfl, _, rfl, ?_, ?_⟩⟩))))))))
      · split <;> omega
      · split <;> omega
/-! the model -/
def vrows (n m : Nat) (M : Nat → Nat → Rat) : List D := vec n fun s => .lst (frs (vec m (M s)))
def modD (z : Str) (n : Nat) (fi : Nat → Rat) (M S : Nat → Nat → Rat) : List (Key × D) :=
  [(.inr "letters", .str z), (.inr "first", .lst (frs (vec n fi))), (.inr "moves", .lst (vrows n n M)), (.inr "shows", .lst (vrows n z.cps.toList.length S))]
theorem md_letters {z : Str} {n : Nat} {fi : Nat → Rat} {M S : Nat → Nat → Rat} : dget (modD z n fi M S) (.inr "letters") = some (.str z) := dg_here
theorem md_first {z : Str} {n : Nat} {fi : Nat → Rat} {M S : Nat → Nat → Rat} : dget (modD z n fi M S) (.inr "first") = some (.lst (frs (vec n fi))) := (dg_past (by decide)).trans dg_here
theorem md_moves {z : Str} {n : Nat} {fi : Nat → Rat} {M S : Nat → Nat → Rat} : dget (modD z n fi M S) (.inr "moves") = some (.lst (vrows n n M)) := (dg_past (by decide)).trans ((dg_past (by decide)).trans dg_here)
theorem md_shows {z : Str} {n : Nat} {fi : Nat → Rat} {M S : Nat → Nat → Rat} : dget (modD z n fi M S) (.inr "shows") = some (.lst (vrows n z.cps.toList.length S)) := (dg_past (by decide)).trans ((dg_past (by decide)).trans ((dg_past (by decide)).trans dg_here))
/-- a model: the denominators of its rows divide N0, m1, m2 -/
structure MdOk (z : Str) (n N0 m1 m2 : Nat) (fi : Nat → Rat) (M S : Nat → Nat → Rat) : Prop where
  al : AlOk z
  n1 : 1 ≤ n
  n2 : n ≤ 24
  fi : ChF n N0 fi
  M : ∀ s, s < n → ChF n m1 (M s)
  S : ∀ s, s < n → ChF z.cps.toList.length m2 (S s)
def S_lmodel (a : Addr) : S0 := fun ds Q => ∃ (z : Str) (n : Nat), ds = [.ref a, .str z, .int (n : Nat)] ∧ AlOk z ∧ 1 ≤ n ∧ n ≤ 24 ∧ ∀ fi M S, MdOk z n (LL n) (LL n) (LL z.cps.toList.length) fi M S → Q (.dic (modD z n fi M S))
theorem pick_fn {n m N : Nat} {l : List D} (hl : l.length = n) (h : ∀ (i : Nat) y, l[i]? = some y → ∃ f, ChF m N f ∧ y = .lst (frs (vec m f))) : ∃ M : Nat → Nat → Rat, l = vrows n m M ∧ ∀ s, s < n → ChF m N (M s) := by
  have h2 : ∀ i, ∃ f : Nat → Rat, i < n → ChF m N f ∧ l[i]? = some (.lst (frs (vec m f))) := fun i => by
    by_cases hi : i < n
    · have e : l[i]? = some l[i] := List.getElem?_eq_getElem (by omega)
      obtain ⟨f, h3, h4⟩ := h i _ e
      exact ⟨f, fun _ => ⟨h3, by rw [e, h4]⟩⟩
    · exact ⟨fun _ => 0, fun z => absurd z hi⟩
  refine ⟨fun i => Classical.choose (h2 i), ?_, fun s hs => (Classical.choose_spec (h2 s) hs).1⟩
  refine vec_eq hl fun i x hx => ?_
  have hi : i < n := by have := (List.getElem?_eq_some_iff.mp hx).1; omega
  have := (Classical.choose_spec (h2 i) hi).2
  exact Option.some.inj (hx.symm.trans this)
theorem mod_merge (d1 d2 d3 d4 : D) : dmerge [((.inr "letters" : Key), d1), (.inr "first", d2), (.inr "moves", d3), (.inr "shows", d4)] = [(.inr "letters", d1), (.inr "first", d2), (.inr "moves", d3), (.inr "shows", d4)] := by
  show dput (dput (dput (dput [] (.inr "letters") d1) (.inr "first") d2) (.inr "moves") d3) (.inr "shows") d4 = _
  have n1 : ¬ (.inr "letters" : Key) = .inr "first" := by decide
  have n2 : ¬ (.inr "letters" : Key) = .inr "moves" := by decide
  have n3 : ¬ (.inr "letters" : Key) = .inr "shows" := by decide
  have n4 : ¬ (.inr "first" : Key) = .inr "moves" := by decide
  have n5 : ¬ (.inr "first" : Key) = .inr "shows" := by decide
  have n6 : ¬ (.inr "moves" : Key) = .inr "shows" := by decide
  rw [dp_nil, dp_past n1, dp_nil, dp_past n2, dp_past n4, dp_nil, dp_past n3, dp_past n5, dp_past n6, dp_nil]
theorem ok_lmodel (fr : Free mg) (D0 : DefOk K mg "_law_model" (top 74) []) (c1 : FnS P w K mg base 3 "_law_chances" (spW K (Wbox K) S_lch)) : FnS P w K mg base 4 "_law_model" (spW K (Wbox K) S_lmodel) := by
  refine mkFnW (N := ["box", "letters", "size", "first", "moves", "shows", "s"]) (ps := ["box", "letters", "size"]) D0 (C8.fnScope_by (by decide +kernel)) ?_ fr (fun _ _ _ _ _ _ us hl => match us, hl with | [_, _, _], _ => rfl) ?_
  · rintro _ ds Q ⟨_, _, rfl, _⟩; rfl
  · rintro f cdv A outer s H0 E ev hp a ds Q F ⟨z, n, rfl, hz, n1, n2, k⟩
    have hzl := hz.1
    have hz5 := hz.2.1
    refine s_cons (s_set 3 ev (e_callW c1 ev (by decide) a rfl (a_cons (e_var 0 rfl (a_cons (e_var 2 rfl (a_nil ⟨n, rfl, n1, by omega, fun fi hfi => ?_⟩)))))))
    refine s_cons (s_lc 4 (own := [("s", 6)]) [6] ev ?_ (by decide) (lc_all (fun _ d => ∃ g, ChF n (LL n) g ∧ d = .lst (frs (vec n g))) (i_rng fr (e_var 2 rfl ⟨_, rfl, by omega, by omega, ?_, fun l hl hall => ?_, ?_⟩))))
    · show blkC ["box", "letters", "size", "first", "moves", "shows", "s"] (defScope (top 74)) _ _ = true
      decide +kernel
    · rw [rng_len]; omega
    · rw [rng_len] at hl
      obtain ⟨M, rfl, hM⟩ := pick_fn hl hall
      refine s_fz 4 rfl (s_cons (s_lc 5 (own := [("s", 6)]) [6] ev ?_ (by decide) (lc_all (fun _ d => ∃ g, ChF z.cps.toList.length (LL z.cps.toList.length) g ∧ d = .lst (frs (vec z.cps.toList.length g))) (i_rng fr (e_var 2 rfl ⟨_, rfl, by omega, by omega, ?_, fun l2 hl2 hall2 => ?_, ?_⟩)))))
      · show blkC ["box", "letters", "size", "first", "moves", "shows", "s"] (defScope (top 74)) _ _ = true
        decide +kernel
      · rw [rng_len]; omega
      · rw [rng_len] at hl2
        obtain ⟨S, rfl, hS⟩ := pick_fn hl2 hall2
        refine s_fz 5 rfl (s_cons (s_ret (e_disp (k_cons (e_var 1 rfl (k_cons (e_var 3 rfl (k_cons (e_var 4 rfl (k_cons (e_var 5 rfl (k_nil ⟨Nat.le_of_ble_eq_true rfl, ?_⟩))))))))))))
        show Q (.dic (dmerge [(.inr "letters", _), (.inr "first", _), (.inr "moves", _), (.inr "shows", _)]))
        rw [mod_merge]
        exact k fi M S ⟨hz, n1, n2, hfi, hM, hS⟩
      · intro i d hd s H C cl fp
        refine g_name 6 ev.nd ?_
        intro s H C cl fp
        refine e_callW c1 ⟨ev.nd, ev.calm, ev.room, ev.free⟩ (by decide) a rfl (a_cons (e_var 0 rfl (a_cons (e_len (X := (cxOf (L2.CX P w) P w K mg base ["box", "letters", "size", "first", "moves", "shows", "s"] "_law_model" (defScope (top 74)) f cdv A outer _ H0 E).blk s H _ _ fp) fr (e_var 1 rfl ⟨by rw [len_str]; omega, a_nil ⟨z.cps.toList.length, by rw [len_str], hzl, by omega, fun g hg => ⟨g, hg, rfl⟩⟩⟩)))))
    · intro i d hd s H C cl fp
      refine g_name 6 ev.nd ?_
      intro s H C cl fp
      exact e_callW c1 ⟨ev.nd, ev.calm, ev.room, ev.free⟩ (by decide) a rfl (a_cons (e_var 0 rfl (a_cons (e_var 2 rfl (a_nil ⟨n, rfl, n1, by omega, fun g hg => ⟨g, hg, rfl⟩⟩)))))
/-! _law_picked, _law_text -/
def S_picked (a : Addr) : S0 := fun ds Q => ∃ (n N : Nat) (f : Nat → Rat), ds = [.ref a, .lst (frs (vec n f))] ∧ n ≤ 100 ∧ ChF n N f ∧ ∀ i : Nat, i < n → Q (.int (i : Nat))
theorem some_pos {n N : Nat} {f : Nat → Rat} (h : ChF n N f) : ∃ i, i < n ∧ 0 < (f i).num := by
  refine Classical.byContradiction fun hn => ?_
  have hz : ∀ i, i < n → f i = 0 := fun i hi => by
    have h1 : 0 ≤ (f i).num := Rat.num_nonneg.mpr (h.nn i hi)
    have h2 : ¬ 0 < (f i).num := fun z => hn ⟨i, hi, z⟩
    exact num_zero (by omega)
  have := h.one
  rw [sumN_ext hz, sumN_0] at this
  exact absurd this (by decide)
theorem ok_picked (fr : Free mg) (D0 : DefOk K mg "_law_picked" (top 75) []) (c1 : FnS P w K mg base 1 "_law_take" (spW K (Wbox K) S_take)) : FnS P w K mg base 2 "_law_picked" (spW K (Wbox K) S_picked) := by
  refine mkFnW (N := ["box", "row", "spots", "k"]) (ps := ["box", "row"]) D0 (C8.fnScope_by (by decide +kernel)) ?_ fr (fun _ _ _ _ _ _ us hl => match us, hl with | [_, _], _ => rfl) ?_
  · rintro _ ds Q ⟨_, _, _, rfl, _⟩; rfl
  · rintro f cdv A outer s H0 E ev hp a ds Q F ⟨n, N, g, rfl, hn, hc, k⟩
    obtain ⟨j, hj, hjp⟩ := some_pos hc
    let pd : D → Bool := fun d => match d with | .int i => decide (0 < (g i.toNat).num) | _ => false
    refine s_cons (s_lc 2 (own := [("k", 3)]) [3] ev ?_ (by decide) (lc_filter pd (i_rng fr (e_len fr (e_var 1 rfl ⟨(n : Nat), by rw [frs_vec_len], by omega, by omega, ?_, ?_, ?_⟩)))))
    · show blkC ["box", "row", "spots", "k"] (defScope (top 75)) _ _ = true
      decide +kernel
    · rw [rng_len]; omega
    · have hmem : D.int (j : Nat) ∈ (rngD ((n : Nat) : Int)).filter pd := by
        refine List.mem_filter.mpr ⟨?_, ?_⟩
        · unfold rngD
          rw [Int.toNat_natCast]
          exact List.mem_map.mpr ⟨j, List.mem_range.mpr hj, rfl⟩
        · show decide (0 < (g ((j : Nat) : Int).toNat).num) = true
          rw [Int.toNat_natCast]
          exact decide_eq_true hjp
      have hlen := List.length_pos_of_mem hmem
      have hlen2 : ((rngD ((n : Nat) : Int)).filter pd).length ≤ n := by
        have := List.length_filter_le pd (rngD ((n : Nat) : Int))
        rwa [rng_len] at this
      refine s_fz 2 rfl (s_cons (s_ret (e_ix ev.room (e_var 2 rfl (e_callW c1 ev (by decide) a rfl (a_cons (e_var 0 rfl (a_cons (e_len fr (e_var 2 rfl (a_nil ⟨_, rfl, by omega, by omega, fun r r0 r1 => ?_⟩)))))))))))
      have hi : r.toNat < ((rngD ((n : Nat) : Int)).filter pd).length := by omega
      have hget : L2.atI ((rngD ((n : Nat) : Int)).filter pd) r = some ((rngD ((n : Nat) : Int)).filter pd)[r.toNat] := by
        have := atI_nat (xs := (rngD ((n : Nat) : Int)).filter pd) (j := r.toNat) (List.getElem?_eq_getElem hi)
        rwa [Int.toNat_of_nonneg r0] at this
      have hm2 := (List.mem_filter.mp (List.getElem_mem hi)).1
      obtain ⟨i, hi2⟩ := List.getElem?_of_mem hm2
      obtain ⟨hin, he⟩ := rng_get hi2
      refine ⟨_, hget, ?_⟩
      rw [he]
      exact k i hin
    · intro i d hd s H C cl fp
      obtain ⟨hi, rfl⟩ := rng_get hd
      refine g_name 3 ev.nd ?_
      intro s H C cl fp
      refine t_cmp (c_gt (e_p0 (n := 1) ⟨ev.nd, ev.calm, ev.room, ev.free⟩ (e_ix (n := 1) ev.room (e_var 1 rfl (e_var 3 rfl ⟨_, atI_nat (frs_vec_at hi), _, rfl, e_int ⟨_, rfl, ?_, fun _ => ?_⟩⟩)))))
      · show decide ((0 : Int) < (g i).num) = decide (0 < (g ((i : Nat) : Int).toNat).num)
        rw [Int.toNat_natCast]
      · intro s H C cl fp
        exact e_var 3 rfl rfl
end
end K69
set_option Elab.async false
set_option linter.all false
set_option maxRecDepth 100000
set_option maxHeartbeats 4000000
set_option exponentiation.threshold 10000
namespace K69
open PySem PySem.Spec L2 SY
theorem vrows_at {n m : Nat} {M : Nat → Nat → Rat} {s : Nat} (h : s < n) : (vrows n m M)[s]? = some (.lst (frs (vec m (M s)))) := vec_at h
theorem vrows_len {n m : Nat} {M : Nat → Nat → Rat} : (vrows n m M).length = n := vec_len _ _
/-- the place of a letter -/
def idx (z : Str) (c : Nat) : Nat := z.cps.toList.findIdx (· == c)
theorem idx_of {z : Str} (h : AlOk z) {k c : Nat} (hk : z.cps.toList[k]? = some c) : k = idx z c ∧ k < z.cps.toList.length := by
  have hkl : k < z.cps.toList.length := (List.getElem?_eq_some_iff.mp hk).1
  have hkc : z.cps.toList[k] = c := (List.getElem?_eq_some_iff.mp hk).2
  have hi : idx z c < z.cps.toList.length := List.findIdx_lt_length_of_exists ⟨c, List.mem_of_getElem? hk, by simp⟩
  have hic : z.cps.toList[idx z c] = c := by
    have := List.findIdx_getElem (w := hi)
    exact eq_of_beq this
  refine ⟨?_, hkl⟩
  have pw := List.pairwise_iff_getElem.mp h.2.2.2
  rcases Nat.lt_trichotomy k (idx z c) with hlt | he | hgt
  · have := pw k (idx z c) hkl hi hlt
    omega
  · exact he
  · have := pw (idx z c) k hi hkl hgt
    omega
theorem idx_lt {z : Str} {c : Nat} (h : c ∈ z.cps.toList) : idx z c < z.cps.toList.length := List.findIdx_lt_length_of_exists ⟨c, h, by simp⟩
/-- the weights of the chain's machine -/
def Wm (z : Str) (M S : Nat → Nat → Rat) : Nat → Nat → Nat → Rat := fun c s t => S s (idx z c) * M s t
theorem app_toList (x y : Str) : (x ++ y).cps.toList = x.cps.toList ++ y.cps.toList := by
  show (x.cps ++ y.cps).toList = _
  simp
theorem app_one (x : Str) (c : Nat) : (x ++ (⟨#[c]⟩ : Str)).cps.toList = x.cps.toList ++ [c] := by rw [app_toList]
section
variable {P : Program} {w : World} {K : PySem.W.Frag} {mg : Str → Option Value} {base : Heap}
def S_ltext (a : Addr) : S0 := fun ds Q => ∃ (z : Str) (n N0 m1 m2 len : Nat) (fi : Nat → Rat) (M S : Nat → Nat → Rat), ds = [.ref a, .dic (modD z n fi M S), .int (len : Nat)] ∧ MdOk z n N0 m1 m2 fi M S ∧ len ≤ 100 ∧ ∀ x : Str, x.cps.toList.length = len → (∀ c ∈ x.cps.toList, c ∈ z.cps.toList) → Q (.str x)
theorem ok_ltext (fr : Free mg) (D0 : DefOk K mg "_law_text" (top 76) []) (c1 : FnS P w K mg base 1 "_law_take" (spW K (Wbox K) S_take)) (c2 : FnS P w K mg base 2 "_law_picked" (spW K (Wbox K) S_picked)) : FnS P w K mg base 3 "_law_text" (spW K (Wbox K) S_ltext) := by
  refine mkFnW (N := ["box", "model", "length", "letters", "text", "turn", "s"]) (ps := ["box", "model", "length"]) D0 (C8.fnScope_by (by decide +kernel)) ?_ fr (fun _ _ _ _ _ _ us hl => match us, hl with | [_, _, _], _ => rfl) ?_
  · rintro _ ds Q ⟨_, _, _, _, _, _, _, _, _, rfl, _⟩; rfl
  · rintro f cdv A outer s H0 E ev hp a ds Q F ⟨z, n, N0, m1, m2, len, fi, M, S, rfl, md, hlen, k⟩
    have zl := md.al.1
    have z5 := md.al.2.1
    have n2 := md.n2
    have hz : z.length ≤ 100000 := by rw [len_str]; omega
    have sn : ∀ (x : Str) (i : Nat) (c : Nat), x.cps.toList.length = i → i < len → c ∈ z.cps.toList → (∀ c ∈ x.cps.toList, c ∈ z.cps.toList) → (x.length + (⟨#[c]⟩ : Str).length ≤ sizeLine) ∧ (x ++ (⟨#[c]⟩ : Str)).cps.toList.length = i + 1 ∧ ∀ c' ∈ (x ++ (⟨#[c]⟩ : Str)).cps.toList, c' ∈ z.cps.toList := fun x i c h1 h2 h3 h4 => by
      refine ⟨small_le ?_, ?_, fun c' hc => ?_⟩
      · rw [len_str, len_str]; show x.cps.toList.length + 1 ≤ 100000; omega
      · rw [app_one, List.length_append, h1]; rfl
      · rw [app_one] at hc
        rcases List.mem_append.mp hc with hc | hc
        · exact h4 c' hc
        · rw [List.mem_singleton] at hc; rw [hc]; exact h3
    refine s_cons (s_set 3 ev (e_ix ev.room (e_var 1 rfl (e_str ⟨_, md_letters, ?_⟩))))
    refine s_cons (s_set 4 ev (e_str ?_))
    have emp : (Str.ofString "").cps.toList = [] := rfl
    refine s_cons (s_if (t_cmp (c_eq ev.room (e_callW c1 ev (by decide) a rfl (a_cons (e_var 0 rfl (a_cons (e_int (a_nil ⟨4, rfl, by decide, by decide, fun r r0 r4 => e_int ⟨_, rfl, fun _ => ?_, fun _ => s_nil ?_⟩⟩)))))))))
    · refine s_cons (s_for [5] hp ev (i_rng fr (e_var 2 rfl ⟨_, rfl, by omega, by omega, fun i e => ∃ v5 x, e = [.sh (.ref a), .sh (.dic (modD z n fi M S)), .sh (.int (len : Nat)), .sh (.str z), .sh (.str x), v5, .un] ∧ x.cps.toList.length = i ∧ ∀ c ∈ x.cps.toList, c ∈ z.cps.toList, ⟨.un, _, rfl, rfl, fun c hc => by rw [emp] at hc; cases hc⟩, ?_, ?_⟩)))
      · rintro e ⟨v5, x, rfl, hx, hxz⟩
        rw [rng_len] at hx
        exact s_cons (s_ret (e_var 4 rfl (k x hx hxz)))
      · rintro i d e hd ⟨v5, x, rfl, hx, hxz⟩
        obtain ⟨hi, rfl⟩ := rng_get hd
        refine g_name 5 ev.nd (s_cons (s_set 4 ev (e_add (e_var 4 rfl (e_ix ev.room (e_var 3 rfl (e_callW c1 ev (by decide) a rfl (a_cons (e_var 0 rfl (a_cons (e_len fr (e_var 3 rfl ⟨hz, a_nil ⟨_, rfl, by rw [len_str]; omega, by rw [len_str]; omega, fun r r0 r1 => ?_⟩⟩))))))))))))
        rw [len_str] at r1
        have hr : r.toNat < z.cps.toList.length := by omega
        have hget : L2.atI z.cps.toList r = some z.cps.toList[r.toNat] := by
          have := atI_nat (xs := z.cps.toList) (j := r.toNat) (List.getElem?_eq_getElem hr)
          rwa [Int.toNat_of_nonneg r0] at this
        obtain ⟨q1, q2, q3⟩ := sn x i z.cps.toList[r.toNat] hx hi (List.getElem_mem hr) hxz
        exact ⟨hz, _, hget, q1, s_nil ⟨.sh (.int (i : Nat)), _, rfl, q2, q3⟩⟩
    · refine s_cons (s_set 6 ev (e_callW c2 ev (by decide) a rfl (a_cons (e_var 0 rfl (a_cons (e_ix ev.room (e_var 1 rfl (e_str ⟨_, md_first, a_nil ⟨n, N0, fi, rfl, by omega, md.fi, fun i hi => ?_⟩⟩))))))))
      refine s_cons (s_for [5] hp ev (i_rng fr (e_var 2 rfl ⟨_, rfl, by omega, by omega, fun i e => ∃ v5 x s, e = [.sh (.ref a), .sh (.dic (modD z n fi M S)), .sh (.int (len : Nat)), .sh (.str z), .sh (.str x), v5, .sh (.int (s : Nat))] ∧ s < n ∧ x.cps.toList.length = i ∧ ∀ c ∈ x.cps.toList, c ∈ z.cps.toList, ⟨.un, _, i, rfl, hi, rfl, fun c hc => by rw [emp] at hc; cases hc⟩, ?_, ?_⟩)))
      · rintro e ⟨v5, x, s, rfl, hs, hx, hxz⟩
        rw [rng_len] at hx
        exact s_cons (s_ret (e_var 4 rfl (k x hx hxz)))
      · rintro i d e hd ⟨v5, x, s, rfl, hs, hx, hxz⟩
        obtain ⟨hi, rfl⟩ := rng_get hd
        refine g_name 5 ev.nd (s_cons (s_set 4 ev (e_add (e_var 4 rfl (e_ix ev.room (e_var 3 rfl (e_callW c2 ev (by decide) a rfl (a_cons (e_var 0 rfl (a_cons (e_ix ev.room (e_ix ev.room (e_var 1 rfl (e_str ⟨_, md_shows, e_var 6 rfl ⟨_, atI_nat (vrows_at hs), a_nil ⟨_, m2, S s, rfl, by omega, md.S s hs, fun j hj => ?_⟩⟩⟩))))))))))))))
        obtain ⟨q1, q2, q3⟩ := sn x i z.cps.toList[j] hx hi (List.getElem_mem hj) hxz
        refine ⟨hz, _, atI_nat (List.getElem?_eq_getElem hj), q1, ?_⟩
        refine s_cons (s_set 6 ev (e_callW c2 ev (by decide) a rfl (a_cons (e_var 0 rfl (a_cons (e_ix ev.room (e_ix ev.room (e_var 1 rfl (e_str ⟨_, md_moves, e_var 6 rfl ⟨_, atI_nat (vrows_at hs), a_nil ⟨_, m1, M s, rfl, by omega, md.M s hs, fun j hj => ?_⟩⟩⟩)))))))))
        exact s_nil ⟨.sh (.int (i : Nat)), _, j, rfl, hj, q2, q3⟩
end
end K69
set_option Elab.async false
set_option linter.all false
set_option maxRecDepth 100000
set_option maxHeartbeats 4000000
set_option exponentiation.threshold 10000
namespace K69
open PySem PySem.Spec L2 SY
/-- the denominators of a model and a walk of k letters -/
structure MdB (z : Str) (n N0 m1 m2 : Nat) (fi : Nat → Rat) (M S : Nat → Nat → Rat) (k : Nat) : Prop where
  md : MdOk z n N0 m1 m2 fi M S
  bg : Bg n N0 N0 (m2 * m1) (m2 * m1) k
  bc : Bg n 1 1 (m2 * m1) (m2 * m1) k
theorem MdB.m1p {z : Str} {n N0 m1 m2 : Nat} {fi : Nat → Rat} {M S : Nat → Nat → Rat} {k : Nat} (h : MdB z n N0 m1 m2 fi M S k) : 0 < m1 := Nat.pos_of_mul_pos_left h.bg.m0
theorem MdB.m2p {z : Str} {n N0 m1 m2 : Nat} {fi : Nat → Rat} {M S : Nat → Nat → Rat} {k : Nat} (h : MdB z n N0 m1 m2 fi M S k) : 0 < m2 := Nat.pos_of_mul_pos_right h.bg.m0
theorem MdB.wsz {z : Str} {n N0 m1 m2 : Nat} {fi : Nat → Rat} {M S : Nat → Nat → Rat} {k : Nat} (h : MdB z n N0 m1 m2 fi M S k) : WSz z n (m2 * m1) (m2 * m1) (Wm z M S) := fun c hc s hs t ht => ((h.md.S s hs).sz _ (idx_lt hc)).mul ((h.md.M s hs).sz t ht)
def rowsD (n k : Nat) (R : Nat → Nat → Rat) : D := .lst (vec k fun i => .lst (frs (vec n (R i))))
section
variable {P : Program} {w : World} {K : PySem.W.Frag} {mg : Str → Option Value} {base : Heap}
def S_lrows : S0 := fun ds Q => ∃ (z x : Str) (n N0 m1 m2 : Nat) (fi : Nat → Rat) (M S : Nat → Nat → Rat), ds = [.dic (modD z n fi M S), .str x] ∧ MdB z n N0 m1 m2 fi M S x.cps.toList.length ∧ x.cps.toList.length ≤ 1000 ∧ (∀ c ∈ x.cps.toList, c ∈ z.cps.toList) ∧
  Q (rowsD n (x.cps.toList.length + 1) fun i => rowF n (Wm z M S) fi (x.cps.toList.take i))
theorem sz_part {n N A B m : Nat} {f g : Nat → Rat} (hN : 0 < N) (hm : 0 < m) (hf : ∀ s, s < n → Sz N A (f s)) (hg : ∀ s, s < n → Sz m B (g s)) {j : Nat} (hj : j ≤ n) : Sz (N * m) (j * (A * B)) (sumN j fun s => f s * g s) :=
  Sz.sumN (Nat.mul_pos hN hm) fun s hs => (hf s (by omega)).mul (hg s (by omega))
theorem ok_lrows (fr : Free mg) (D0 : DefOk K mg "_law_rows" (top 77) []) (c1 : FnS P w K mg base 4 "_law_times" (spP K S_mul)) (c2 : FnS P w K mg base 3 "_law_more" (spP K S_more)) : FnS P w K mg base 5 "_law_rows" (spP K S_lrows) := by
  refine mkFnW (N := ["model", "text", "found", "size", "letter", "at", "shown", "row", "s", "t"]) (ps := ["model", "text"]) D0 (C8.fnScope_by (by decide +kernel)) ?_ fr (fun _ _ _ _ _ _ us hl => match us, hl with | [_, _], _ => rfl) ?_
  · rintro _ ds Q ⟨_, _, _, _, _, _, _, _, _, rfl, _⟩; rfl
  · rintro f cdv A outer s H0 E ev hp _ ds Q F ⟨z, x, n, N0, m1, m2, fi, M, S, rfl, mb, hxl, hx, k⟩
    have md := mb.md
    have n2 := md.n2
    have m1p := mb.m1p
    have m2p := mb.m2p
    have ev' : ∀ {s : Shared} {H : Hp} {scope : Scope} {ce : Env} {fp : List Addr} , True := trivial
    let R : Nat → Nat → Rat := fun i => rowF n (Wm z M S) fi (x.cps.toList.take i)
    refine s_cons (s_own 2 ev (o_lst (a_cons (e_ix ev.room (e_var 0 rfl (e_str ⟨_, md_first, a_nil ⟨Nat.le_of_ble_eq_true rfl, ?_⟩⟩))))))
    refine s_cons (s_set 3 ev (e_len fr (e_ix ev.room (e_var 0 rfl (e_str ⟨_, md_first, ?_⟩)))))
    have hl0 : (frs (vec n fi)).length = n := frs_vec_len n fi
    refine s_cons (s_for [4] hp ev (i_val (e_var 1 rfl ⟨_, rfl, fun i e => ∃ v4 v5 v6 v7 v8 v9, e = [.sh (.dic (modD z n fi M S)), .sh (.str x), .ow (vec (i + 1) fun i => .lst (frs (vec n (R i)))), .sh (.int ((frs (vec n fi)).length : Nat)), v4, v5, v6, v7, v8, v9], ⟨.un, .un, .un, .un, .un, .un, rfl⟩, ?_, ?_⟩)))
    · rintro e ⟨v4, v5, v6, v7, v8, v9, rfl⟩
      rw [List.length_map]
      exact s_fz 2 rfl (s_cons (s_ret (e_var 2 rfl k)))
    · rintro i d e hd ⟨v4, v5, v6, v7, v8, v9, rfl⟩
      rw [hl0]
      obtain ⟨c, hc, rfl⟩ := sg_get hd
      have hi : i < x.cps.toList.length := (List.getElem?_eq_some_iff.mp hc).1
      have hcz := hx c (List.mem_of_getElem? hc)
      have hR : ∀ s, s < n → Sz (N0 * (m2 * m1) ^ i) (N0 * (n * (m2 * m1)) ^ i) (R i s) := by
        have := sz_rowF mb.bg.m0 mb.wsz (x.cps.toList.take i) mb.bg.N0 md.fi.sz fun c hc => hx c (List.mem_of_mem_take hc)
        rwa [List.length_take, Nat.min_eq_left (by omega)] at this
      have big := mb.bg.big (i := i) (by omega)
      generalize hN : N0 * (m2 * m1) ^ i = N at hR big
      generalize hA : N0 * (n * (m2 * m1)) ^ i = Az at hR big
      have Np := big.N0
      refine g_name 4 ev.nd (s_cons (s_set 5 ev (e_sindex ev (e_ix ev.room (e_var 0 rfl (e_str ⟨_, md_letters, z, rfl, e_var 4 rfl ⟨c, rfl, hcz, fun kk hkk => ?_⟩⟩))))))
      obtain ⟨hkk1, hkk2⟩ := idx_of md.al hkk
      -- shown
      let sh : Nat → Rat := fun s => R i s * S s kk
      have hS : ∀ s, s < n → Sz m2 m2 (S s kk) := fun s hs => (md.S s hs).sz kk hkk2
      have hsh : ∀ s, s < n → Sz (N * m2) (Az * m2) (sh s) := fun s hs => (hR s hs).mul (hS s hs)
      have b1 : N * m2 < 2 ^ 2900 := Nat.lt_of_le_of_lt (Nat.mul_le_mul_left _ (Nat.le_mul_of_pos_right _ m1p)) big.Nm
      have b2 : Az * m2 < 2 ^ 2900 := Nat.lt_of_le_of_lt (Nat.mul_le_mul_left _ (Nat.le_mul_of_pos_right _ m1p)) big.one
      have b3 : m2 < 2 ^ 2900 := Nat.lt_of_le_of_lt (Nat.le_mul_of_pos_right _ m1p) big.m1
      have b4 : m1 < 2 ^ 2900 := Nat.lt_of_le_of_lt (Nat.le_mul_of_pos_left _ m2p) big.m1
      refine s_cons (s_set 6 ev (e_own (o_lc (own := [("s", 8)]) [8] ev.calm ev.nd ?_ (by decide) (lc_map (i_rng fr (e_var 3 rfl ⟨_, rfl, by omega, by omega, ?_, frs (vec n sh), ?_, ?_, fun j d hd y hy => ?_⟩))))))
      · show blkC ["model", "text", "found", "size", "letter", "at", "shown", "row", "s", "t"] (defScope (top 77)) _ _ = true
        decide +kernel
      · rw [rng_len]; omega
      · rw [rng_len, frs_vec_len]
      · refine s_cons (s_set 7 ev (e_own (o_rep (e_own (o_lst (a_cons (e_tup (a_cons (e_int (a_cons (e_int (a_nil ⟨Nat.le_of_ble_eq_true rfl, a_nil ⟨Nat.le_of_ble_eq_true rfl, e_var 3 rfl ⟨_, (n : Nat), rfl, rfl, by omega, by omega, by rw [Int.toNat_natCast, List.length_singleton]; omega, ?_⟩⟩⟩))))))))))))
        rw [Int.toNat_natCast, flat_rep]
        have e0 : (vec n fun _ => D.tup [.int 0, .int 1]) = frs (vec n fun t => sumN 0 fun s => sh s * M s t) := by rw [frs_vec]; rfl
        rw [e0]
        refine s_cons (s_for [8] hp ev (i_rng fr (e_var 3 rfl ⟨_, rfl, by omega, by omega, fun j e => ∃ v8 v9, e = [.sh (.dic (modD z n fi M S)), .sh (.str x), .ow (vec (i + 1) fun i => .lst (frs (vec n (R i)))), .sh (.int (n : Nat)), .sh (.str ⟨#[c]⟩), .sh (.int (kk : Nat)), .sh (.lst (frs (vec n sh))), .sh (.lst (frs (vec n fun t => sumN j fun s => sh s * M s t))), v8, v9], ⟨_, _, rfl⟩, ?_, ?_⟩)))
        · rintro e ⟨v8, v9, rfl⟩
          rw [rng_len]
          refine s_cons (s_app 2 rfl (e_var 7 rfl ⟨by rw [vec_len]; omega, s_nil ⟨.sh (.str ⟨#[c]⟩), .sh (.int (kk : Nat)), .sh (.lst (frs (vec n sh))), .sh (.lst (frs (vec n fun t => sumN n fun s => sh s * M s t))), v8, v9, ?_⟩⟩))
          have e1 : (fun t => sumN n fun s => sh s * M s t) = R (i + 1) := by
            show _ = rowF n (Wm z M S) fi (x.cps.toList.take (i + 1))
            rw [take_more hc, rowF_snoc]
            funext t
            refine sumN_ext fun s _ => ?_
            show R i s * S s kk * M s t = R i s * (S s (idx z c) * M s t)
            rw [← hkk1, Rat.mul_assoc]
          have e2 : (vec (i + 1) fun i => D.lst (frs (vec n (R i)))) ++ [D.lst (frs (vec n fun t => sumN n fun s => sh s * M s t))] = vec (i + 1 + 1) fun i => D.lst (frs (vec n (R i))) := by
            rw [vec_succ (i + 1), e1]
          rw [← e2]
          rfl
        · rintro j d e hd ⟨v8, v9, rfl⟩
          obtain ⟨hj, rfl⟩ := rng_get hd
          refine g_name 8 ev.nd ?_
          refine s_cons (s_if (t_cmp (c_ne ev.room (e_p0 ev (e_ix ev.room (e_var 6 rfl (e_var 8 rfl ⟨_, atI_nat (frs_vec_at hj), _, rfl, e_int ⟨_, rfl, fun hk => ?_, fun hk => s_nil (s_nil ⟨.sh (.int (j : Nat)), v9, ?_⟩)⟩⟩)))))))
          · refine s_cons (s_set 7 ev (e_own (o_lc (own := [("t", 9)]) [9] ev.calm ev.nd ?_ (by decide) (lc_map (i_rng fr (e_var 3 rfl ⟨_, rfl, by omega, by omega, ?_, frs (vec n fun t => sumN (j + 1) fun s => sh s * M s t), ?_, s_nil (s_nil ⟨.sh (.int (j : Nat)), v9, rfl⟩), fun t d hd y hy => ?_⟩))))))
            · show blkC ["model", "text", "found", "size", "letter", "at", "shown", "row", "s", "t"] (defScope (top 77)) _ _ = true
              decide +kernel
            · rw [rng_len]; omega
            · rw [rng_len, frs_vec_len]
            · obtain ⟨ht, rfl⟩ := rng_get hd
              obtain ⟨_, rfl⟩ := frs_vec_get hy
              have p1 : Sz (N * m2 * m1) (j * (Az * m2 * m1)) (sumN j fun s => sh s * M s t) := sz_part (Nat.mul_pos Np m2p) m1p hsh (fun s hs => (md.M s hs).sz t ht) (by omega)
              rw [Nat.mul_assoc N, Nat.mul_assoc Az] at p1
              intro s H C cl fp
              refine g_name 9 ev.nd ?_
              intro s H C cl fp
              refine e_call c2 ⟨ev.nd, ev.calm, ev.room, ev.free⟩ (by decide) (a_cons (e_ix (n := 4) ev.room (e_var 7 rfl (e_var 9 rfl ⟨_, atI_nat (frs_vec_at ht), a_cons (e_ix (n := 4) ev.room (e_var 6 rfl (e_var 8 rfl ⟨_, atI_nat (frs_vec_at hj), a_cons (e_ix (n := 4) ev.room (e_ix (n := 4) ev.room (e_ix (n := 4) ev.room (e_var 0 rfl (e_str ⟨_, md_moves, e_var 8 rfl ⟨_, atI_nat (vrows_at hj), e_var 9 rfl ⟨_, atI_nat (frs_vec_at ht), a_nil ⟨_, _, _, rfl, p1.ok big.Nm (big.le ?_), (hsh j hj).ok b1 b2, ((md.M j hj).sz t ht).ok b4 b4, ?_⟩⟩⟩⟩)))))⟩)))⟩))))
              · have : j ≤ n * n := Nat.le_trans (by omega) (Nat.le_mul_of_pos_right n (by omega))
                omega
              · rw [sumN_succ]
          · have : (sh j).num = 0 := by simpa using hk
            have e3 : (fun t => sumN (j + 1) fun s => sh s * M s t) = fun t => sumN j fun s => sh s * M s t := funext fun t => by rw [sumN_succ, num_zero this, Rat.zero_mul, Rat.add_zero]
            rw [e3]
            rfl
      · obtain ⟨hj, rfl⟩ := rng_get hd
        obtain ⟨_, rfl⟩ := frs_vec_get hy
        have hlast : L2.atI (vec (i + 1) fun i => D.lst (frs (vec n (R i)))) (-1) = some (.lst (frs (vec n (R i)))) := by rw [vec_succ]; exact atI_last _ _
        intro s H C cl fp
        refine g_name 8 ev.nd ?_
        intro s H C cl fp
        refine e_call c1 ⟨ev.nd, ev.calm, ev.room, ev.free⟩ (by decide) (a_cons (e_ix (n := 4) ev.room (e_ixOw 2 rfl (e_neg (e_int ⟨_, rfl, _, _, rfl, hlast, e_var 8 rfl ⟨_, atI_nat (frs_vec_at hj), a_cons (e_ix (n := 4) ev.room (e_ix (n := 4) ev.room (e_ix (n := 4) ev.room (e_var 0 rfl (e_str ⟨_, md_shows, e_var 8 rfl ⟨_, atI_nat (vrows_at hj), e_var 5 rfl ⟨_, atI_nat (frs_vec_at hkk2), a_nil ⟨_, _, rfl, (hR j hj).ok big.N1 big.A1, (hS j hj).ok b3 b3, rfl⟩⟩⟩⟩)))))⟩⟩)))))
end
end K69
set_option Elab.async false
set_option linter.all false
set_option maxRecDepth 100000
set_option maxHeartbeats 4000000
set_option exponentiation.threshold 10000
namespace K69
open PySem PySem.Spec L2 SY
def ones : Nat → Rat := fun _ => 1
theorem one_sz {n : Nat} : ∀ s, s < n → Sz 1 1 (ones s) := fun _ _ => Sz.one (by decide)
section
variable {P : Program} {w : World} {K : PySem.W.Frag} {mg : Str → Option Value} {base : Heap}
def S_lcols : S0 := fun ds Q => ∃ (z x : Str) (n N0 m1 m2 : Nat) (fi : Nat → Rat) (M S : Nat → Nat → Rat), ds = [.dic (modD z n fi M S), .str x] ∧ MdB z n N0 m1 m2 fi M S x.cps.toList.length ∧ x.cps.toList.length ≤ 1000 ∧ (∀ c ∈ x.cps.toList, c ∈ z.cps.toList) ∧
  Q (rowsD n (x.cps.toList.length + 1) fun i => colF n (Wm z M S) ones (x.cps.toList.drop i))
theorem ok_lcols (fr : Free mg) (D0 : DefOk K mg "_law_columns" (top 78) []) (c1 : FnS P w K mg base 4 "_law_times" (spP K S_mul)) (c2 : FnS P w K mg base 3 "_law_more" (spP K S_more)) : FnS P w K mg base 5 "_law_columns" (spP K S_lcols) := by
  refine mkFnW (N := ["model", "text", "size", "found", "letter", "at", "column", "s", "total_v", "t"]) (ps := ["model", "text"]) D0 (C8.fnScope_by (by decide +kernel)) ?_ fr (fun _ _ _ _ _ _ us hl => match us, hl with | [_, _], _ => rfl) ?_
  · rintro _ ds Q ⟨_, _, _, _, _, _, _, _, _, rfl, _⟩; rfl
  · rintro f cdv A outer s H0 E ev hp _ ds Q F ⟨z, x, n, N0, m1, m2, fi, M, S, rfl, mb, hxl, hx, k⟩
    have md := mb.md
    have n2 := md.n2
    have m1p := mb.m1p
    have m2p := mb.m2p
    have hl0 : (frs (vec n fi)).length = n := frs_vec_len n fi
    generalize hkl : x.cps.toList.length = kl at mb hxl k
    let C : Nat → Nat → Rat := fun i => colF n (Wm z M S) ones (x.cps.toList.drop (kl - i))
    refine s_cons (s_set 2 ev (e_len fr (e_ix ev.room (e_var 0 rfl (e_str ⟨_, md_first, ?_⟩)))))
    refine s_cons (s_own 3 ev (o_lst (a_cons (e_own (o_rep (e_own (o_lst (a_cons (e_tup (a_cons (e_int (a_cons (e_int (a_nil ⟨Nat.le_of_ble_eq_true rfl, a_nil ⟨Nat.le_of_ble_eq_true rfl, e_var 2 rfl ⟨_, (n : Nat), rfl, by rw [hl0], by omega, by omega, by rw [Int.toNat_natCast, List.length_singleton]; omega, a_nil ⟨Nat.le_of_ble_eq_true rfl, ?_⟩⟩⟩⟩))))))))))))))
    rw [Int.toNat_natCast, flat_rep, hl0]
    have e0 : (vec n fun _ => D.tup [.int 1, .int 1]) = frs (vec n (C 0)) := by
      rw [frs_vec]
      have : x.cps.toList.drop (kl - 0) = [] := List.drop_eq_nil_of_le (by omega)
      show _ = vec n fun i => K69.fr (colF n (Wm z M S) ones (x.cps.toList.drop (kl - 0)) i)
      rw [this]
      rfl
    rw [e0]
    refine s_cons (s_for [4] hp ev (i_val (e_rev (e_var 1 rfl ⟨by rw [len_str]; omega, _, rfl, fun i e => ∃ v4 v5 v6 v7 v8 v9, e = [.sh (.dic (modD z n fi M S)), .sh (.str x), .sh (.int (n : Nat)), .ow (vec (i + 1) fun i => .lst (frs (vec n (C i)))), v4, v5, v6, v7, v8, v9], ⟨.un, .un, .un, .un, .un, .un, rfl⟩, ?_, ?_⟩))))
    · rintro e ⟨v4, v5, v6, v7, v8, v9, rfl⟩
      rw [List.length_map]
      refine s_fz 3 rfl (s_cons (s_ret (e_rev (e_var 3 rfl ?_))))
      have hlr : x.cps.toList.reverse.length = kl := by rw [List.length_reverse, hkl]
      show Q (.lst (vec (x.cps.toList.reverse.length + 1) fun i => D.lst (frs (vec n (C i)))).reverse)
      rw [hlr, vec_rev]
      have : (vec (kl + 1) fun i => D.lst (frs (vec n (C (kl + 1 - 1 - i))))) = vec (kl + 1) fun i => D.lst (frs (vec n (colF n (Wm z M S) ones (x.cps.toList.drop i)))) := vec_ext fun i hi => by
        show D.lst (frs (vec n (colF n (Wm z M S) ones (x.cps.toList.drop (kl - (kl + 1 - 1 - i)))))) = _
        have : kl - (kl + 1 - 1 - i) = i := by omega
        rw [this]
      rw [this]
      exact k
    · rintro i d e hd ⟨v4, v5, v6, v7, v8, v9, rfl⟩
      obtain ⟨c, hc, rfl⟩ := sg_get hd
      have hc : x.cps.toList.reverse[i]? = some c := hc
      have hi : i < kl := by
        have := (List.getElem?_eq_some_iff.mp hc).1
        rwa [List.length_reverse, hkl] at this
      have hcx : x.cps.toList[kl - 1 - i]? = some c := by
        rw [List.getElem?_reverse (by omega), hkl] at hc
        exact hc
      have hcz := hx c (List.mem_of_getElem? hcx)
      have hdrop : x.cps.toList.drop (kl - (i + 1)) = c :: x.cps.toList.drop (kl - i) := by
        have e1 : kl - (i + 1) = kl - 1 - i := by omega
        have e2 : kl - i = kl - 1 - i + 1 := by omega
        rw [e1, e2, List.drop_eq_getElem_cons (by omega)]
        congr 1
        exact (List.getElem?_eq_some_iff.mp hcx).2
      have hC : ∀ s, s < n → Sz (1 * (m2 * m1) ^ i) (1 * (n * (m2 * m1)) ^ i) (C i s) := by
        have := sz_colF (N := 1) (A := 1) (by decide) mb.bc.m0 one_sz mb.wsz (x.cps.toList.drop (kl - i)) fun c hc => hx c (List.mem_of_mem_drop hc)
        have e1 : (x.cps.toList.drop (kl - i)).length = i := by rw [List.length_drop]; omega
        rwa [e1] at this
      have big := mb.bc.big (i := i) (by omega)
      generalize hN : 1 * (m2 * m1) ^ i = N at hC big
      generalize hA : 1 * (n * (m2 * m1)) ^ i = Az at hC big
      have Np := big.N0
      refine g_name 4 ev.nd (s_cons (s_set 5 ev (e_sindex ev (e_ix ev.room (e_var 0 rfl (e_str ⟨_, md_letters, z, rfl, e_var 4 rfl ⟨c, rfl, hcz, fun kk hkk => ?_⟩⟩))))))
      obtain ⟨hkk1, hkk2⟩ := idx_of md.al hkk
      have hS : ∀ s, s < n → Sz m2 m2 (S s kk) := fun s hs => (md.S s hs).sz kk hkk2
      have b3 : m2 < 2 ^ 2900 := Nat.lt_of_le_of_lt (Nat.le_mul_of_pos_right _ m1p) big.m1
      have b4 : m1 < 2 ^ 2900 := Nat.lt_of_le_of_lt (Nat.le_mul_of_pos_left _ m2p) big.m1
      have b5 : m1 * N < 2 ^ 2900 := by
        rw [Nat.mul_comm]
        exact Nat.lt_of_le_of_lt (Nat.mul_le_mul_left _ (Nat.le_mul_of_pos_left _ m2p)) big.Nm
      have b6 : ∀ j, j ≤ n → j * (m1 * Az) < 2 ^ 2900 := fun j hj => by
        have h1 : j ≤ n * n + 1 := Nat.le_trans (Nat.le_trans hj (Nat.le_mul_of_pos_right n (by have := md.n1; omega))) (Nat.le_succ _)
        refine Nat.lt_of_le_of_lt (Nat.mul_le_mul_left _ ?_) (big.le h1)
        rw [Nat.mul_comm]
        exact Nat.mul_le_mul_left _ (Nat.le_mul_of_pos_left _ m2p)
      let G : Nat → Rat := fun s => S s kk * sumN n fun t => M s t * C i t
      refine s_cons (s_own 6 ev (o_lst (a_nil ⟨by decide, ?_⟩)))
      refine s_cons (s_for [7] hp ev (i_rng fr (e_var 2 rfl ⟨_, rfl, by omega, by omega, fun j e => ∃ v7 v8 v9, e = [.sh (.dic (modD z n fi M S)), .sh (.str x), .sh (.int (n : Nat)), .ow (vec (i + 1) fun i => .lst (frs (vec n (C i)))), .sh (.str ⟨#[c]⟩), .sh (.int (kk : Nat)), .ow (frs (vec j G)), v7, v8, v9], ⟨v7, v8, v9, rfl⟩, ?_, ?_⟩)))
      · rintro e ⟨v7, v8, v9, rfl⟩
        rw [rng_len]
        refine s_fz 6 rfl (s_cons (s_app 3 rfl (e_var 6 rfl ⟨by rw [vec_len]; omega, s_nil ⟨.sh (.str ⟨#[c]⟩), .sh (.int (kk : Nat)), .sh (.lst (frs (vec n G))), v7, v8, v9, ?_⟩⟩)))
        have e1 : G = C (i + 1) := by
          funext s
          show S s kk * sumN n (fun t => M s t * C i t) = colF n (Wm z M S) ones (x.cps.toList.drop (kl - (i + 1))) s
          rw [hdrop, colF_cons, ← sumN_mul]
          refine sumN_ext fun t _ => ?_
          show S s kk * (M s t * C i t) = S s (idx z c) * M s t * C i t
          rw [← hkk1, Rat.mul_assoc]
        have e2 : (vec (i + 1) fun i => D.lst (frs (vec n (C i)))) ++ [D.lst (frs (vec n G))] = vec (i + 1 + 1) fun i => D.lst (frs (vec n (C i))) := by
          rw [vec_succ (i + 1), e1]
        rw [← e2]
        rfl
      · rintro j d e hd ⟨v7, v8, v9, rfl⟩
        obtain ⟨hj, rfl⟩ := rng_get hd
        have part : ∀ t, t ≤ n → Sz (m1 * N) (t * (m1 * Az)) (sumN t fun t => M j t * C i t) := fun t ht => sz_part m1p Np (fun t ht => (md.M j hj).sz t ht) hC ht
        refine g_name 7 ev.nd (s_cons (s_set 8 ev (e_tup (a_cons (e_int (a_cons (e_int (a_nil ⟨Nat.le_of_ble_eq_true rfl, ?_⟩))))))))
        refine s_cons (s_for [9] hp ev (i_rng fr (e_var 2 rfl ⟨_, rfl, by omega, by omega, fun t e => ∃ v9, e = [.sh (.dic (modD z n fi M S)), .sh (.str x), .sh (.int (n : Nat)), .ow (vec (i + 1) fun i => .lst (frs (vec n (C i)))), .sh (.str ⟨#[c]⟩), .sh (.int (kk : Nat)), .ow (frs (vec j G)), .sh (.int (j : Nat)), .sh (K69.fr (sumN t fun t => M j t * C i t)), v9], ⟨v9, rfl⟩, ?_, ?_⟩)))
        · rintro e ⟨v9, rfl⟩
          rw [rng_len]
          refine s_cons (s_app 6 rfl (e_call c1 ev (by decide) (a_cons (e_ix ev.room (e_ix ev.room (e_ix ev.room (e_var 0 rfl (e_str ⟨_, md_shows, e_var 7 rfl ⟨_, atI_nat (vrows_at hj), e_var 5 rfl ⟨_, atI_nat (frs_vec_at hkk2), a_cons (e_var 8 rfl (a_nil ⟨_, _, rfl, (hS j hj).ok b3 b3, (part n (Nat.le_refl _)).ok b5 (b6 n (Nat.le_refl _)), by rw [frs_vec_len]; omega, s_nil ⟨.sh (.int (j : Nat)), .sh (K69.fr (sumN n fun t => M j t * C i t)), v9, ?_⟩⟩))⟩⟩⟩))))))))
          have e2 : frs (vec j G) ++ [K69.fr (S j kk * sumN n fun t => M j t * C i t)] = frs (vec (j + 1) G) := by
            rw [vec_succ]; unfold frs; rw [List.map_append]; rfl
          rw [← e2]
          rfl
        · rintro t d e hd ⟨v9, rfl⟩
          obtain ⟨ht, rfl⟩ := rng_get hd
          have hlast : L2.atI (vec (i + 1) fun i => D.lst (frs (vec n (C i)))) (-1) = some (.lst (frs (vec n (C i)))) := by rw [vec_succ]; exact atI_last _ _
          refine g_name 9 ev.nd ?_
          refine s_cons (s_if (t_cmp (c_ne ev.room (e_p0 ev (e_ix ev.room (e_ix ev.room (e_ix ev.room (e_var 0 rfl (e_str ⟨_, md_moves, e_var 7 rfl ⟨_, atI_nat (vrows_at hj), e_var 9 rfl ⟨_, atI_nat (frs_vec_at ht), _, rfl, e_int ⟨_, rfl, fun hk => ?_, fun hk => s_nil (s_nil ⟨.sh (.int (t : Nat)), ?_⟩)⟩⟩⟩⟩)))))))))
          · refine s_cons (s_set 8 ev (e_call c2 ev (by decide) (a_cons (e_var 8 rfl (a_cons (e_ix ev.room (e_ix ev.room (e_ix ev.room (e_var 0 rfl (e_str ⟨_, md_moves, e_var 7 rfl ⟨_, atI_nat (vrows_at hj), e_var 9 rfl ⟨_, atI_nat (frs_vec_at ht), a_cons (e_ix ev.room (e_ixOw 3 rfl (e_neg (e_int ⟨_, rfl, _, _, rfl, hlast, e_var 9 rfl ⟨_, atI_nat (frs_vec_at ht), a_nil ⟨_, _, _, rfl, (part t (by omega)).ok b5 (b6 t (by omega)), ((md.M j hj).sz t ht).ok b4 b4, (hC t ht).ok big.N1 big.A1, s_nil (s_nil ⟨.sh (.int (t : Nat)), ?_⟩)⟩⟩⟩))))⟩⟩⟩))))))))))
            rw [sumN_succ]
            rfl
          · have : (M j t).num = 0 := by simpa using hk
            rw [sumN_succ, num_zero this, Rat.zero_mul, Rat.add_zero]
            rfl
end
end K69
set_option Elab.async false
set_option linter.all false
set_option maxRecDepth 100000
set_option maxHeartbeats 4000000
set_option exponentiation.threshold 10000
namespace K69
open PySem PySem.Spec L2 SY
theorem sumN_nn {n : Nat} {f : Nat → Rat} (h : ∀ i, i < n → 0 ≤ f i) : 0 ≤ sumN n f := by
  induction n with
  | zero => exact Rat.le_refl
  | succ n ih =>
    rw [sumN_succ]
    exact Rat.add_nonneg (ih fun i hi => h i (by omega)) (h n (by omega))
theorem rowF_nn {n : Nat} {z : Str} {W : Nat → Nat → Nat → Rat} (hW : ∀ c ∈ z.cps.toList, ∀ s, s < n → ∀ t, t < n → 0 ≤ W c s t) : ∀ (l : List Nat) {st : Nat → Rat}, (∀ c ∈ l, c ∈ z.cps.toList) → (∀ s, s < n → 0 ≤ st s) → ∀ s, s < n → 0 ≤ rowF n W st l s
  | [], st, _, h, s, hs => h s hs
  | c :: l, st, hl, h, s, hs => rowF_nn hW l (st := stepR n W st c) (fun c hc => hl c (by simp [hc])) (fun t ht => sumN_nn fun s hs => Rat.mul_nonneg (h s hs) (hW c (hl c (by simp)) s hs t ht)) s hs
theorem MdOk.wnn {z : Str} {n N0 m1 m2 : Nat} {fi : Nat → Rat} {M S : Nat → Nat → Rat} (h : MdOk z n N0 m1 m2 fi M S) : ∀ c ∈ z.cps.toList, ∀ s, s < n → ∀ t, t < n → 0 ≤ Wm z M S c s t := fun c hc s hs t ht => Rat.mul_nonneg ((h.S s hs).nn _ (idx_lt hc)) ((h.M s hs).nn t ht)
theorem fr_inv {q : Rat} (h : 0 < q) : fr q⁻¹ = .tup [.int (q.den : Int), .int q.num] := by
  have hq := num_pos h
  have e : q⁻¹ = Rat.divInt q.den q.num := by
    have : (Rat.divInt q.num q.den)⁻¹ = Rat.divInt q.den q.num := Rat.inv_divInt _ _
    rwa [Rat.num_divInt_den] at this
  have g : Int.gcd (q.den : Int) q.num = 1 := by
    have := q.reduced
    rw [Int.gcd_comm]
    show Nat.gcd q.num.natAbs (q.den : Int).natAbs = 1
    rw [Int.natAbs_natCast]
    exact this
  rw [e, fr_div hq, g]
  simp
theorem ok_inv {q : Rat} (h : 0 < q) (o : Ok q) : Ok q⁻¹ := by
  have e := fr_inv h
  unfold fr at e
  have e1 : q⁻¹.num = (q.den : Int) := by
    exact D.int.inj (List.cons.inj (D.tup.inj e)).1
  have e2 : (q⁻¹.den : Int) = q.num := by
    exact D.int.inj (List.cons.inj (List.cons.inj (D.tup.inj e)).2).1
  refine ⟨by rw [e1, Int.natAbs_natCast]; exact o.2, ?_⟩
  have : q⁻¹.den = q.num.natAbs := by omega
  rw [this]; exact o.1
section
variable {P : Program} {w : World} {K : PySem.W.Frag} {mg : Str → Option Value} {base : Heap}
def S_ltotal : S0 := fun ds Q => ∃ (n N A : Nat) (f : Nat → Rat), ds = [.lst (frs (vec n f))] ∧ 0 < N ∧ (∀ s, s < n → Sz N A (f s)) ∧ N < 2 ^ 2900 ∧ (n + 1) * A < 2 ^ 2900 ∧ Q (fr (sumN n f))
theorem ok_ltotal (fr : Free mg) (D0 : DefOk K mg "_law_total" (top 79) []) (c1 : FnS P w K mg base 3 "_law_more" (spP K S_more)) : FnS P w K mg base 4 "_law_total" (spP K S_ltotal) := by
  refine mkFnW (N := ["row", "total_v", "entry"]) (ps := ["row"]) D0 (C8.fnScope_by (by decide +kernel)) ?_ fr (fun _ _ _ _ _ _ us hl => match us, hl with | [_], _ => rfl) ?_
  · rintro _ ds Q ⟨_, _, _, _, rfl, _⟩; rfl
  · rintro f cdv Ar outer s H0 E ev hp _ ds Q F ⟨n, N, A, g, rfl, hN, hg, hN2, hA, k⟩
    have hA1 : A < 2 ^ 2900 := Nat.lt_of_le_of_lt (Nat.le_mul_of_pos_left _ (Nat.succ_pos n)) hA
    refine s_cons (s_set 1 ev (e_tup (a_cons (e_int (a_cons (e_int (a_nil ⟨Nat.le_of_ble_eq_true rfl, ?_⟩)))))))
    refine s_cons (s_for [2] hp ev (i_val (e_var 0 rfl ⟨_, rfl, fun i e => ∃ v, e = [.sh (.lst (frs (vec n g))), .sh (K69.fr (sumN i g)), v], ⟨.un, rfl⟩, ?_, ?_⟩)))
    · rintro e ⟨v, rfl⟩
      rw [frs_vec_len]
      exact s_cons (s_ret (e_var 1 rfl k))
    · rintro i d e hd ⟨v, rfl⟩
      obtain ⟨hi, rfl⟩ := frs_vec_get hd
      have hz : Sz N (i * A) (sumN i g) := Sz.sumN hN fun j hj => hg j (by omega)
      have hi2 : i * A < 2 ^ 2900 := Nat.lt_of_le_of_lt (Nat.mul_le_mul_right _ (by omega)) hA
      refine g_name 2 ev.nd (s_cons (s_set 1 ev (e_call c1 ev (by decide) (a_cons (e_var 1 rfl (a_cons (e_tup (a_cons (e_int (a_cons (e_int (a_nil ⟨Nat.le_of_ble_eq_true rfl, a_cons (e_var 2 rfl (a_nil ⟨_, 1, _, rfl, hz.ok hN2 hi2, ok1, (hg i hi).ok hN2 hA1, s_nil ⟨.sh (K69.fr (g i)), ?_⟩⟩))⟩))))))))))))
      rw [sumN_succ, Rat.one_mul]
      rfl
/-- the chance of a text -/
def chanceQ (z : Str) (n : Nat) (fi : Nat → Rat) (M S : Nat → Nat → Rat) (x : Str) : Rat := sumN n (rowF n (Wm z M S) fi x.cps.toList)
/-- what is due of the state behind each letter -/
def dueQ (z : Str) (n : Nat) (fi : Nat → Rat) (M S : Nat → Nat → Rat) (x : Str) (i s : Nat) : Rat :=
  rowF n (Wm z M S) fi (x.cps.toList.take i) s * colF n (Wm z M S) ones (x.cps.toList.drop i) s * (chanceQ z n fi M S x)⁻¹
def dueD (z : Str) (n : Nat) (fi : Nat → Rat) (M S : Nat → Nat → Rat) (x : Str) : D := if chanceQ z n fi M S x = 0 then .non else rowsD n x.cps.toList.length (dueQ z n fi M S x)
def S_due : S0 := fun ds Q => ∃ (z x : Str) (n N0 m1 m2 : Nat) (fi : Nat → Rat) (M S : Nat → Nat → Rat), ds = [.dic (modD z n fi M S), .str x] ∧ MdB z n N0 m1 m2 fi M S x.cps.toList.length ∧ x.cps.toList.length ≤ 1000 ∧ (∀ c ∈ x.cps.toList, c ∈ z.cps.toList) ∧ Q (dueD z n fi M S x)
theorem rowsD_at {n k i : Nat} {R : Nat → Nat → Rat} (h : i < k) : (vec k fun i => D.lst (frs (vec n (R i))))[i]? = some (.lst (frs (vec n (R i)))) := vec_at h
theorem MdB.ch_sz {z x : Str} {n N0 m1 m2 : Nat} {fi : Nat → Rat} {M S : Nat → Nat → Rat} (mb : MdB z n N0 m1 m2 fi M S x.cps.toList.length) (hx : ∀ c ∈ x.cps.toList, c ∈ z.cps.toList) :
    (∀ s, s < n → Sz (N0 * (m2 * m1) ^ x.cps.toList.length) (N0 * (n * (m2 * m1)) ^ x.cps.toList.length) (rowF n (Wm z M S) fi x.cps.toList s)) ∧ (n + 1) * (N0 * (n * (m2 * m1)) ^ x.cps.toList.length) < 2 ^ 2900 ∧ Ok (chanceQ z n fi M S x) ∧ 0 ≤ chanceQ z n fi M S x := by
  have h1 := sz_rowF mb.bg.m0 mb.wsz x.cps.toList mb.bg.N0 mb.md.fi.sz hx
  have n1 := mb.md.n1
  have h2 : (n + 1) * (N0 * (n * (m2 * m1)) ^ x.cps.toList.length) < 2 ^ 2900 := by
    refine Nat.lt_of_le_of_lt (Nat.mul_le_mul ?_ (Nat.mul_le_mul_left _ (pow_le (Nat.mul_pos mb.bg.n0 mb.bg.B0) (Nat.le_succ _)))) mb.bg.A1
    have := Nat.le_mul_of_pos_right n n1
    omega
  refine ⟨h1, h2, ?_, ?_⟩
  · have : Sz (N0 * (m2 * m1) ^ x.cps.toList.length) (n * (N0 * (n * (m2 * m1)) ^ x.cps.toList.length)) (chanceQ z n fi M S x) := Sz.sumN (Nat.mul_pos mb.bg.N0 (Nat.pow_pos mb.bg.m0)) h1
    exact this.ok (mb.bg.lt (by omega)) (Nat.lt_of_le_of_lt (Nat.mul_le_mul_right _ (Nat.le_succ n)) h2)
  · exact sumN_nn (rowF_nn mb.md.wnn x.cps.toList hx mb.md.fi.nn)
theorem ok_due (fr : Free mg) (D0 : DefOk K mg "_law_due" (top 80) []) (c1 : FnS P w K mg base 5 "_law_rows" (spP K S_lrows)) (c2 : FnS P w K mg base 5 "_law_columns" (spP K S_lcols)) (c3 : FnS P w K mg base 4 "_law_total" (spP K S_ltotal)) (c4 : FnS P w K mg base 4 "_law_times" (spP K S_mul)) : FnS P w K mg base 6 "_law_due" (spP K S_due) := by
  refine mkFnW (N := ["model", "text", "rows", "columns", "chance", "back", "found", "i", "shared", "s", "entry"]) (ps := ["model", "text"]) D0 (C8.fnScope_by (by decide +kernel)) ?_ fr (fun _ _ _ _ _ _ us hl => match us, hl with | [_, _], _ => rfl) ?_
  · rintro _ ds Q ⟨_, _, _, _, _, _, _, _, _, rfl, _⟩; rfl
  · rintro f cdv Ar outer s H0 E ev hp _ ds Q F ⟨z, x, n, N0, m1, m2, fi, M, S, rfl, mb, hxl, hx, k⟩
    have md := mb.md
    have n2 := md.n2
    obtain ⟨cs1, cs2, cs3, cs4⟩ := mb.ch_sz hx
    unfold dueD at k
    generalize hch : chanceQ z n fi M S x = ch at k cs3 cs4
    have hN : N0 * (m2 * m1) ^ x.cps.toList.length < 2 ^ 2900 := mb.bg.lt (by omega)
    have hA := mb.bg.ltA (i := x.cps.toList.length) (by omega)
    have hkl : x.length ≤ 100000 := by rw [len_str]; omega
    generalize hkk : x.cps.toList.length = kl at mb hxl k cs1 cs2 hN hA
    let R : Nat → Nat → Rat := fun i => rowF n (Wm z M S) fi (x.cps.toList.take i)
    let C : Nat → Nat → Rat := fun i => colF n (Wm z M S) ones (x.cps.toList.drop i)
    refine s_cons (s_set 2 ev (e_call c1 ev (by decide) (a_cons (e_var 0 rfl (a_cons (e_var 1 rfl (a_nil ⟨z, x, n, N0, m1, m2, fi, M, S, rfl, hkk ▸ mb, by omega, hx, ?_⟩)))))))
    refine s_cons (s_set 3 ev (e_call c2 ev (by decide) (a_cons (e_var 0 rfl (a_cons (e_var 1 rfl (a_nil ⟨z, x, n, N0, m1, m2, fi, M, S, rfl, hkk ▸ mb, by omega, hx, ?_⟩)))))))
    rw [hkk]
    have hlast : L2.atI (vec (kl + 1) fun i => D.lst (frs (vec n (R i)))) (-1) = some (.lst (frs (vec n (rowF n (Wm z M S) fi x.cps.toList)))) := by
      rw [vec_succ]
      have : R kl = rowF n (Wm z M S) fi x.cps.toList := by
        show rowF n (Wm z M S) fi (x.cps.toList.take kl) = _
        rw [← hkk, List.take_length]
      rw [this]
      exact atI_last _ _
    refine s_cons (s_set 4 ev (e_call c3 ev (by decide) (a_cons (e_ix ev.room (e_var 2 rfl (e_neg (e_int ⟨_, rfl, _, hlast, a_nil ⟨n, _, _, _, rfl, ?_, cs1, hN, cs2, ?_⟩⟩)))))))
    · exact Nat.mul_pos mb.bg.N0 (Nat.pow_pos mb.bg.m0)
    have hch' : sumN n (rowF n (Wm z M S) fi x.cps.toList) = ch := hch
    rw [hch']
    refine s_cons (s_if (t_cmp (c_eq ev.room (e_p0 ev (e_var 4 rfl ⟨_, rfl, e_int ⟨_, rfl, fun hk => ?_, fun hk => s_nil ?_⟩⟩)))))
    · have : ch.num = 0 := of_decide_eq_true hk
      rw [if_pos (num_zero this)] at k
      exact s_cons (s_ret (e_non k))
    have hne : ch.num ≠ 0 := of_decide_eq_false hk
    have hne2 : ch ≠ 0 := fun e => hne (by rw [e]; rfl)
    have hpos : 0 < ch := Rat.lt_of_le_of_ne cs4 (Ne.symm hne2)
    rw [if_neg hne2] at k
    refine s_cons (s_set 5 ev (e_tup (a_cons (e_p1 ev (e_var 4 rfl ⟨_, rfl, a_cons (e_p0 ev (e_var 4 rfl ⟨_, rfl, a_nil ⟨Nat.le_of_ble_eq_true rfl, ?_⟩⟩))⟩)))))
    rw [← fr_inv hpos]
    have inv_ok := ok_inv hpos cs3
    let G : Nat → Nat → Rat := fun i s => R i s * C i s * ch⁻¹
    refine s_cons (s_own 6 ev (o_lst (a_nil ⟨by decide, ?_⟩)))
    refine s_cons (s_for [7] hp ev (i_rng fr (e_len fr (e_var 1 rfl ⟨hkl, (kl : Nat), by rw [len_str, hkk], by omega, by omega, fun i e => ∃ v7 v8 v9 v10, e = [.sh (.dic (modD z n fi M S)), .sh (.str x), .sh (rowsD n (kl + 1) R), .sh (rowsD n (kl + 1) C), .sh (K69.fr ch), .sh (K69.fr ch⁻¹), .ow (vec i fun i => .lst (frs (vec n (G i)))), v7, v8, v9, v10], ⟨.un, .un, .un, .un, rfl⟩, ?_, ?_⟩))))
    · rintro e ⟨v7, v8, v9, v10, rfl⟩
      rw [rng_len]
      refine s_fz 6 rfl (s_cons (s_ret (e_var 6 rfl ?_)))
      have : (dueQ z n fi M S x) = G := by
        funext i s
        show _ * _ * (chanceQ z n fi M S x)⁻¹ = _
        rw [hch]
      rw [this] at k
      exact k
    · rintro i d e hd ⟨v7, v8, v9, v10, rfl⟩
      obtain ⟨hi, rfl⟩ := rng_get hd
      have hR : ∀ s, s < n → Sz (N0 * (m2 * m1) ^ i) (N0 * (n * (m2 * m1)) ^ i) (R i s) := by
        have := sz_rowF mb.bg.m0 mb.wsz (x.cps.toList.take i) mb.bg.N0 md.fi.sz fun c hc => hx c (List.mem_of_mem_take hc)
        rwa [List.length_take, Nat.min_eq_left (by omega)] at this
      have hC : ∀ s, s < n → Sz (1 * (m2 * m1) ^ (kl - i)) (1 * (n * (m2 * m1)) ^ (kl - i)) (C i s) := by
        have := sz_colF (N := 1) (A := 1) (by decide) mb.bc.m0 one_sz mb.wsz (x.cps.toList.drop i) fun c hc => hx c (List.mem_of_mem_drop hc)
        rwa [List.length_drop, hkk] at this
      have hP : ∀ s, s < n → Sz (N0 * (m2 * m1) ^ kl) (N0 * (n * (m2 * m1)) ^ kl) (R i s * C i s) := fun s hs => by
        have := (hR s hs).mul (hC s hs)
        rw [Nat.one_mul, Nat.one_mul, Nat.mul_assoc, Nat.mul_assoc, ← Nat.pow_add, ← Nat.pow_add, show i + (kl - i) = kl by omega] at this
        exact this
      have bR := mb.bg.big (i := i) (by omega)
      have bC := mb.bc.big (i := kl - i) (by omega)
      refine g_name 7 ev.nd ?_
      refine s_cons (s_lc 8 (own := [("s", 9)]) [9] ev ?_ (by decide) (lc_map (i_rng fr (e_len fr (e_ix ev.room (e_var 2 rfl (e_var 7 rfl ⟨_, atI_nat (rowsD_at (show i < kl + 1 by omega)), (n : Nat), by rw [frs_vec_len], by omega, by omega, ?_, frs (vec n fun s => R i s * C i s), ?_, ?_, fun t d hd y hy => ?_⟩)))))))
      · show blkC ["model", "text", "rows", "columns", "chance", "back", "found", "i", "shared", "s", "entry"] (defScope (top 80)) _ _ = true
        decide +kernel
      · rw [rng_len]; omega
      · rw [rng_len, frs_vec_len]
      · refine s_fz 8 rfl (s_cons (s_app 6 rfl (e_own (o_lc (own := [("entry", 10)]) [10] ev.calm ev.nd ?_ (by decide) (lc_map (i_val (e_var 8 rfl ⟨_, rfl, ?_, frs (vec n (G i)), ?_, ⟨by rw [vec_len]; omega, s_nil ⟨.sh (.int (i : Nat)), .sh (.lst (frs (vec n fun s => R i s * C i s))), v9, v10, ?_⟩⟩, fun t d hd y hy => ?_⟩)))))))
        · show blkC ["model", "text", "rows", "columns", "chance", "back", "found", "i", "shared", "s", "entry"] (defScope (top 80)) _ _ = true
          decide +kernel
        · rw [frs_vec_len]; omega
        · rw [frs_vec_len, frs_vec_len]
        · rw [vec_succ]
          rfl
        · obtain ⟨ht, rfl⟩ := frs_vec_get hd
          obtain ⟨_, rfl⟩ := frs_vec_get hy
          intro s H C cl fp
          refine g_name 10 ev.nd ?_
          intro s H C cl fp
          exact e_call c4 ⟨ev.nd, ev.calm, ev.room, ev.free⟩ (by decide) (a_cons (e_var 10 rfl (a_cons (e_var 5 rfl (a_nil ⟨_, _, rfl, (hP t ht).ok hN hA, inv_ok, rfl⟩)))))
      · obtain ⟨ht, rfl⟩ := rng_get hd
        obtain ⟨_, rfl⟩ := frs_vec_get hy
        intro s H C2 cl fp
        refine g_name 9 ev.nd ?_
        intro s H C2 cl fp
        exact e_call c4 ⟨ev.nd, ev.calm, ev.room, ev.free⟩ (by decide) (a_cons (e_ix (n := 5) ev.room (e_ix (n := 5) ev.room (e_var 2 rfl (e_var 7 rfl ⟨_, atI_nat (rowsD_at (show i < kl + 1 by omega)), e_var 9 rfl ⟨_, atI_nat (frs_vec_at ht), a_cons (e_ix (n := 5) ev.room (e_ix (n := 5) ev.room (e_var 3 rfl (e_var 7 rfl ⟨_, atI_nat (rowsD_at (show i < kl + 1 by omega)), e_var 9 rfl ⟨_, atI_nat (frs_vec_at ht), a_nil ⟨_, _, rfl, (hR t ht).ok bR.N1 bR.A1, (hC t ht).ok bC.N1 bC.A1, rfl⟩⟩⟩))))⟩⟩)))))
end
end K69
set_option Elab.async false
set_option linter.all false
set_option maxRecDepth 100000
set_option maxHeartbeats 4000000
set_option exponentiation.threshold 10000
namespace K69
open PySem PySem.Spec L2 SY
/-! the arrows of matrices -/
/-- the j-th place of L matrices of n rows -/
def arwAt (z : Str) (n : Nat) (mat : Nat → Nat → Nat → Rat) (j : Nat) : Arw := ⟨(j / n) % n, z.cps.toList.getD (j / n / n) 0, j % n, mat (j / n / n) ((j / n) % n) (j % n)⟩
def arws (z : Str) (n : Nat) (mat : Nat → Nat → Nat → Rat) (k : Nat) : List Arw := (List.range k).filterMap fun j => if (arwAt z n mat j).q.num = 0 then none else some (arwAt z n mat j)
theorem arws_succ (z : Str) (n : Nat) (mat : Nat → Nat → Nat → Rat) (k : Nat) : arws z n mat (k + 1) = arws z n mat k ++ if (arwAt z n mat k).q.num = 0 then [] else [arwAt z n mat k] := by
  unfold arws
  rw [List.range_succ, List.filterMap_append]
  congr 1
  by_cases h : (arwAt z n mat k).q.num = 0
  · simp only [List.filterMap_cons, List.filterMap_nil, if_pos h]
  · simp only [List.filterMap_cons, List.filterMap_nil, if_neg h]
theorem div_at {n p s t : Nat} (hs : s < n) (ht : t < n) : ((p * n + s) * n + t) / n = p * n + s ∧ ((p * n + s) * n + t) % n = t ∧ (p * n + s) / n = p ∧ (p * n + s) % n = s := by
  have hn : 0 < n := by omega
  refine ⟨?_, ?_, ?_, ?_⟩
  · rw [Nat.mul_comm _ n, Nat.mul_add_div hn, Nat.div_eq_of_lt ht, Nat.add_zero]
  · rw [Nat.mul_comm _ n, Nat.mul_add_mod, Nat.mod_eq_of_lt ht]
  · rw [Nat.mul_comm, Nat.mul_add_div hn, Nat.div_eq_of_lt hs, Nat.add_zero]
  · rw [Nat.mul_comm, Nat.mul_add_mod, Nat.mod_eq_of_lt hs]
theorem arwAt_of {z : Str} {n p s t : Nat} {mat : Nat → Nat → Nat → Rat} (hs : s < n) (ht : t < n) : arwAt z n mat ((p * n + s) * n + t) = ⟨s, z.cps.toList.getD p 0, t, mat p s t⟩ := by
  obtain ⟨h1, h2, h3, h4⟩ := div_at (p := p) hs ht
  unfold arwAt
  rw [h1, h2, h3, h4]
theorem place_of {L n j : Nat} (hn : 0 < n) (hj : j < L * n * n) : ∃ p s t, p < L ∧ s < n ∧ t < n ∧ j = (p * n + s) * n + t := by
  refine ⟨j / n / n, (j / n) % n, j % n, ?_, Nat.mod_lt _ hn, Nat.mod_lt _ hn, ?_⟩
  · rw [Nat.div_lt_iff_lt_mul hn, Nat.div_lt_iff_lt_mul hn]; exact hj
  · have h1 := Nat.div_add_mod j n
    have h2 := Nat.div_add_mod (j / n) n
    rw [Nat.mul_comm (j / n / n) n, h2, Nat.mul_comm (j / n) n]
    exact h1.symm
theorem place_lt {L n p s t : Nat} (hp : p < L) (hs : s < n) (ht : t < n) : (p * n + s) * n + t < L * n * n := by
  have h1 : p * n + s < L * n := by
    have : (p + 1) * n ≤ L * n := Nat.mul_le_mul_right _ hp
    rw [Nat.add_mul, Nat.one_mul] at this
    omega
  have h2 : (p * n + s + 1) * n ≤ L * n * n := Nat.mul_le_mul_right _ h1
  rw [Nat.add_mul, Nat.one_mul] at h2
  omega
theorem sumN_one {K j0 : Nat} {c : Rat} (h : j0 < K) : sumN K (fun j => if j = j0 then c else 0) = c := by
  have one : ∀ (m : Nat), sumN m (fun t => if t = j0 then c else 0) = if j0 < m then c else 0 := fun m => by
    induction m with
    | zero => rw [sumN_zero, if_neg (by omega)]
    | succ m ih =>
      rw [sumN_succ, ih]
      by_cases h1 : j0 < m
      · rw [if_pos h1, if_neg (show ¬ m = j0 by omega), if_pos (show j0 < m + 1 by omega), Rat.add_zero]
      · by_cases h2 : m = j0
        · rw [if_neg h1, if_pos h2, if_pos (by omega), Rat.zero_add]
        · rw [if_neg h1, if_neg h2, if_neg (by omega), Rat.add_zero]
  rw [one, if_pos h]
theorem arws_ok {z : Str} {n m B : Nat} {mat : Nat → Nat → Nat → Rat} (hz : AlOk z) (n1 : 1 ≤ n) (n2 : n ≤ 24) (hm : ∀ p, p < z.cps.toList.length → ∀ s, s < n → ∀ t, t < n → Sz m B (mat p s t)) :
    AsOk z n m B (fun c s t => mat (idx z c) s t) (arws z n mat (z.cps.toList.length * n * n)) := by
  generalize hL : z.cps.toList.length = L at hm
  have hn : 0 < n := n1
  have gd : ∀ p, p < L → z.cps.toList[p]? = some (z.cps.toList.getD p 0) := fun p hp => by
    rw [List.getD_eq_getElem?_getD, List.getElem?_eq_getElem (by omega)]; rfl
  have mem : ∀ a ∈ arws z n mat (L * n * n), ∃ p s t, p < L ∧ s < n ∧ t < n ∧ a = ⟨s, z.cps.toList.getD p 0, t, mat p s t⟩ := fun a ha => by
    unfold arws at ha
    obtain ⟨j, hj, e⟩ := List.mem_filterMap.mp ha
    obtain ⟨p, s, t, hp, hs, ht, rfl⟩ := place_of hn (List.mem_range.mp hj)
    split at e
    · cases e
    · cases e
      exact ⟨p, s, t, hp, hs, ht, arwAt_of hs ht⟩
  refine ⟨fun a ha => ?_, ?_, ?_, fun c hc s hs t ht => ?_⟩
  · obtain ⟨p, s, t, hp, hs, ht, rfl⟩ := mem a ha
    exact ⟨hs, ht, List.mem_of_getElem? (gd p hp), hm p hp s hs t ht⟩
  · unfold arws
    rw [List.nodup_iff_pairwise_ne, List.pairwise_map, List.pairwise_filterMap]
    refine List.Pairwise.imp_of_mem ?_ (List.nodup_iff_pairwise_ne.mp (List.nodup_range (n := L * n * n)))
    intro j j' hj hj' hne a ha b hb hk
    obtain ⟨p, s, t, hp, hs, ht, rfl⟩ := place_of hn (List.mem_range.mp hj)
    obtain ⟨p', s', t', hp', hs', ht', rfl⟩ := place_of hn (List.mem_range.mp hj')
    split at ha
    · cases ha
    · cases ha
      split at hb
      · cases hb
      · cases hb
        rw [arwAt_of hs ht, arwAt_of hs' ht'] at hk
        have e1 : s = s' := (Prod.mk.inj hk).1
        have e2 := (Prod.mk.inj (Prod.mk.inj hk).2).1
        have e3 : t = t' := (Prod.mk.inj (Prod.mk.inj hk).2).2
        have e4 : p = p' := by
          have h1 := (idx_of hz (gd p hp)).1
          have h2 := (idx_of hz (gd p' hp')).1
          rw [h1, h2]
          exact congrArg (idx z) e2
        subst e1 e3 e4
        exact hne rfl
  · have h5 := hz.2.1
    have : (arws z n mat (L * n * n)).length ≤ L * n * n := by
      unfold arws
      have := List.length_filterMap_le (fun j => if (arwAt z n mat j).q.num = 0 then none else some (arwAt z n mat j)) (List.range (L * n * n))
      rwa [List.length_range] at this
    have h1 : L * n * n ≤ 5 * 24 * 24 := Nat.mul_le_mul (Nat.mul_le_mul (by omega) n2) n2
    omega
  · have hp : idx z c < L := by rw [← hL]; exact idx_lt hc
    obtain ⟨k0, hk0⟩ := List.getElem?_of_mem hc
    have hidx := (idx_of hz hk0).1
    have hcz : z.cps.toList.getD (idx z c) 0 = c := by
      rw [← hidx, List.getD_eq_getElem?_getD, hk0]; rfl
    have hj0 := place_lt (p := idx z c) hp hs ht
    generalize hj : (idx z c * n + s) * n + t = j0 at hj0
    have step : ∀ K, K ≤ L * n * n → sumQ (((arws z n mat K).filter fun a => a.c == c && a.s == s && a.t == t).map (·.q)) = sumN K (fun j => if j = j0 then mat (idx z c) s t else 0) := fun K => by
      induction K with
      | zero => intro _; rfl
      | succ K ih =>
        intro hK
        rw [sumN_succ, ← ih (by omega), arws_succ, List.filter_append, List.map_append, sumQ_append]
        congr 1
        obtain ⟨p', s', t', hp', hs', ht', hKe⟩ := place_of hn (show K < L * n * n by omega)
        have ea : arwAt z n mat K = ⟨s', z.cps.toList.getD p' 0, t', mat p' s' t'⟩ := by rw [hKe, arwAt_of hs' ht']
        by_cases hKj : K = j0
        · have : p' = idx z c ∧ s' = s ∧ t' = t := by
            rw [hKe, ← hj] at hKj
            have h1 := div_at (p := p') hs' ht'
            have h2 := div_at (p := idx z c) hs ht
            rw [hKj] at h1
            have e1 : t' = t := h1.2.1.symm.trans h2.2.1
            have e2 : p' * n + s' = idx z c * n + s := h1.1.symm.trans h2.1
            have e3 : p' = idx z c := by rw [← h1.2.2.1, e2, h2.2.2.1]
            have e4 : s' = s := by rw [← h1.2.2.2, e2, h2.2.2.2]
            exact ⟨e3, e4, e1⟩
          obtain ⟨rfl, rfl, rfl⟩ := this
          rw [if_pos hKj, ea, hcz]
          by_cases hq : (mat (idx z c) s' t').num = 0
          · rw [if_pos hq, num_zero hq]; rfl
          · rw [if_neg hq]
            simp [sumQ_one]
        · rw [if_neg hKj]
          by_cases hq : (arwAt z n mat K).q.num = 0
          · rw [if_pos hq]; rfl
          · rw [if_neg hq, ea]
            have hne : ¬ ((z.cps.toList.getD p' 0 == c && s' == s && t' == t) = true) := fun h => by
              simp only [Bool.and_eq_true, beq_iff_eq] at h
              obtain ⟨⟨h1, h2⟩, h3⟩ := h
              apply hKj
              have e4 : p' = idx z c := by
                rw [← h1]
                exact (idx_of hz (gd p' hp')).1
              rw [hKe, ← hj, e4, h2, h3]
            rw [List.filter_cons, if_neg hne]
            rfl
    rw [step _ (Nat.le_refl _)]
    exact sumN_one hj0
section
variable {P : Program} {w : World} {K : PySem.W.Frag} {mg : Str → Option Value} {base : Heap} {C : Addr}
/-- the promise of Machine.__init__ -/
def S_mach (C : Addr) : I0 := fun l ds Q => ∃ (z : Str) (n m B : Nat) (st en : Nat → Rat) (W : Nat → Nat → Nat → Rat) (as : List Arw) (asD : D) (k : Int), l = [] ∧ ds = [.str z, .tup (frs (vec n st)), asD, .tup (frs (vec n en)), .int k] ∧ (asD = .lst (as.map arD) ∨ asD = .tup (as.map arD)) ∧
  AlOk z ∧ 1 ≤ n ∧ n ≤ 100 ∧ (n : Int) ≤ k ∧ AsOk z n m B W as ∧ ∀ l', IsMach C z n m B st en W (.ins C l') → Q l'
def matD (L n : Nat) (mat : Nat → Nat → Nat → Rat) : D := .lst (vec L fun p => .lst (vec n fun s => .lst (frs (vec n (mat p s)))))
def S_frommat (C : Addr) : S0 := fun ds Q => ∃ (z : Str) (n m B : Nat) (st en : Nat → Rat) (mat : Nat → Nat → Nat → Rat) (k : Int), ds = [.str z, .tup (frs (vec n st)), matD z.cps.toList.length n mat, .tup (frs (vec n en)), .int k] ∧ AlOk z ∧ 1 ≤ n ∧ n ≤ 24 ∧ (n : Int) ≤ k ∧
  (∀ p, p < z.cps.toList.length → ∀ s, s < n → ∀ t, t < n → Sz m B (mat p s t)) ∧ ∀ d, IsMach C z n m B st en (fun c s t => mat (idx z c) s t) d → Q d
theorem enD_vec {n : Nat} {f : Nat → D} : enD (vec n f) = vec n fun i => .tup [.int (i : Nat), f i] := vec_eq (by rw [enD_len, vec_len]) fun i x h => by
  obtain ⟨y, e1, rfl⟩ := enD_get h
  rw [(vec_get e1).2]
theorem enD_vec_get {n i : Nat} {f : Nat → D} {d : D} (h : (enD (vec n f))[i]? = some d) : i < n ∧ d = .tup [.int (i : Nat), f i] := by
  rw [enD_vec] at h; exact vec_get h
theorem ok_frommat (fr : Free mg) (D0 : DefOk K mg "from_matrices" (top 52) []) (c1 : MkrK P w K mg base 9 4 "Machine" "most" C (S_mach C)) : FnS P w K mg base 11 "from_matrices" (spP K (S_frommat C)) := by
  refine mkFnW (N := ["letters", "start", "matrices", "end", "most", "arrows", "letter", "matrix", "s", "row", "t", "weight"]) (ps := ["letters", "start", "matrices", "end", "most"]) D0 (C8.fnScope_by (by decide +kernel)) ?_ fr (fun _ _ _ _ _ _ us hl => match us, hl with | [_, _, _, _, _], _ => rfl) ?_
  · rintro _ ds Q ⟨_, _, _, _, _, _, _, _, rfl, _⟩; rfl
  · rintro f cdv Ar outer s H0 E ev hp _ ds Q F ⟨z, n, m, B, st, en, mat, k, rfl, hz, n1, n2, hk, hm, kk⟩
    have h5 := hz.2.1
    have hn : 0 < n := n1
    generalize hL : z.cps.toList.length = L at hm h5
    let A : Nat → D := fun j => .lst ((arws z n mat j).map arD)
    have hlen : ∀ j, j ≤ L * n * n → (arws z n mat j).length < 100000 := fun j hj => by
      have h1 : (arws z n mat j).length ≤ j := by
        unfold arws
        have := List.length_filterMap_le (fun j => if (arwAt z n mat j).q.num = 0 then none else some (arwAt z n mat j)) (List.range j)
        rwa [List.length_range] at this
      have h2 : L * n * n ≤ 5 * 24 * 24 := Nat.mul_le_mul (Nat.mul_le_mul h5 n2) n2
      omega
    let fixed : List AV := [.sh (.str z), .sh (.tup (frs (vec n st))), .sh (matD L n mat), .sh (.tup (frs (vec n en))), .sh (.int k)]
    refine s_cons (s_own 5 ev (o_lst (a_nil ⟨by decide, ?_⟩)))
    refine s_cons (s_for [6, 7] hp ev (i_zip fr (e_var 0 rfl ⟨_, rfl, e_var 2 rfl ⟨_, rfl, fun p e => ∃ v6 v7 v8 v9 v10 v11, e = fixed ++ [.ow ((arws z n mat (p * n * n)).map arD), v6, v7, v8, v9, v10, v11], ?_, ?_, ?_⟩⟩)))
    · refine ⟨.un, .un, .un, .un, .un, .un, ?_⟩
      rw [Nat.zero_mul, Nat.zero_mul]
      rfl
    · rintro e ⟨v6, v7, v8, v9, v10, v11, rfl⟩
      have hlz : (SY.zipD (z.cps.toList.map fun c => D.str ⟨#[c]⟩) (vec L fun p => .lst (vec n fun s => .lst (frs (vec n (mat p s)))))).length = L := by
        unfold SY.zipD
        rw [List.length_zipWith, List.length_map, vec_len, hL]; omega
      rw [hlz]
      refine s_fz 5 rfl (s_cons (s_ret (e_makeK c1 ev (by decide) (a_cons (e_var 0 rfl (a_cons (e_var 1 rfl (a_cons (e_var 5 rfl (a_cons (e_var 3 rfl (a_nil ⟨rfl, e_var 4 rfl ⟨z, n, m, B, st, en, (fun c s t => mat (idx z c) s t), arws z n mat (L * n * n), _, k, rfl, rfl, .inl rfl, hz, n1, by omega, hk, ?_, fun l' hl' => kk _ hl'⟩⟩))))))))))))
      have := arws_ok (m := m) (B := B) (mat := mat) hz n1 n2 (by rw [hL]; exact hm)
      rwa [hL] at this
    · rintro p d e hd ⟨v6, v7, v8, v9, v10, v11, rfl⟩
      have hd' : (SY.zipD (z.cps.toList.map fun c => D.str ⟨#[c]⟩) (vec L fun p => .lst (vec n fun s => .lst (frs (vec n (mat p s))))))[p]? = some d := hd
      unfold SY.zipD at hd'
      rw [List.getElem?_zipWith, List.getElem?_map] at hd'
      have ⟨c, hc, hp', ed⟩ : ∃ c, z.cps.toList[p]? = some c ∧ p < L ∧ d = .tup [.str ⟨#[c]⟩, .lst (vec n fun s => .lst (frs (vec n (mat p s))))] := by
        cases h1 : z.cps.toList[p]? with
        | none => rw [h1] at hd'; cases hd'
        | some c =>
          have hpl : p < L := by rw [← hL]; exact (List.getElem?_eq_some_iff.mp h1).1
          rw [h1, vec_at hpl] at hd'
          exact ⟨c, rfl, hpl, (Option.some.inj hd').symm⟩
      subst ed
      have hcg : z.cps.toList.getD p 0 = c := by rw [List.getD_eq_getElem?_getD, hc]; rfl
      refine g_tup ev.calm ⟨_, rfl, rfl, gs_cons (is := [6]) (g_name 6 ev.nd (gs_cons (is := [7]) (g_name 7 ev.nd (gs_nil ?_))))⟩
      refine s_cons (s_for [8, 9] hp ev (i_en fr (e_var 7 rfl ⟨_, rfl, fun s e => ∃ v8 v9 v10 v11, e = fixed ++ [.ow ((arws z n mat ((p * n + s) * n)).map arD), .sh (.str ⟨#[c]⟩), .sh (.lst (vec n fun s => .lst (frs (vec n (mat p s))))), v8, v9, v10, v11], ⟨v8, v9, v10, v11, rfl⟩, ?_, ?_⟩)))
      · rintro e ⟨v8, v9, v10, v11, rfl⟩
        rw [enD_len, vec_len]
        refine s_nil ⟨.sh (.str ⟨#[c]⟩), .sh (.lst (vec n fun s => .lst (frs (vec n (mat p s))))), v8, v9, v10, v11, ?_⟩
        have : (p + 1) * n * n = (p * n + n) * n := by rw [Nat.add_mul p, Nat.one_mul]
        rw [this]
      · rintro s d e hd ⟨v8, v9, v10, v11, rfl⟩
        obtain ⟨hs, rfl⟩ := enD_vec_get hd
        refine g_tup ev.calm ⟨_, rfl, rfl, gs_cons (is := [8]) (g_name 8 ev.nd (gs_cons (is := [9]) (g_name 9 ev.nd (gs_nil ?_))))⟩
        refine s_cons (s_for [10, 11] hp ev (i_en fr (e_var 9 rfl ⟨_, rfl, fun t e => ∃ v10 v11, e = fixed ++ [.ow ((arws z n mat ((p * n + s) * n + t)).map arD), .sh (.str ⟨#[c]⟩), .sh (.lst (vec n fun s => .lst (frs (vec n (mat p s))))), .sh (.int (s : Nat)), .sh (.lst (frs (vec n (mat p s)))), v10, v11], ⟨v10, v11, rfl⟩, ?_, ?_⟩)))
        · rintro e ⟨v10, v11, rfl⟩
          rw [enD_len, frs_vec_len]
          refine s_nil ⟨.sh (.int (s : Nat)), .sh (.lst (frs (vec n (mat p s)))), v10, v11, ?_⟩
          have : (p * n + (s + 1)) * n = (p * n + s) * n + n := by rw [← Nat.add_assoc, Nat.add_mul (p * n + s), Nat.one_mul]
          rw [this]
        · rintro t d e hd ⟨v10, v11, rfl⟩
          rw [frs_vec] at hd
          obtain ⟨ht, rfl⟩ := enD_vec_get hd
          have hjl := place_lt hp' hs ht
          have ea : arwAt z n mat ((p * n + s) * n + t) = ⟨s, c, t, mat p s t⟩ := by rw [arwAt_of hs ht, hcg]
          refine g_tup ev.calm ⟨_, rfl, rfl, gs_cons (is := [10]) (g_name 10 ev.nd (gs_cons (is := [11]) (g_name 11 ev.nd (gs_nil ?_))))⟩
          refine s_cons (s_if (t_val (e_p0 ev (e_var 11 rfl ⟨mat p s t, rfl, ⟨fun hk => ?_, fun hk => ?_⟩⟩))))
          · have hne : ¬ (mat p s t).num = 0 := by simpa using hk
            refine s_cons (s_app 5 rfl (e_tup (a_cons (e_var 8 rfl (a_cons (e_var 6 rfl (a_cons (e_var 10 rfl (a_cons (e_var 11 rfl (a_nil ⟨Nat.le_of_ble_eq_true rfl, ?_, ?_⟩)))))))))))
            · rw [List.length_map]; exact hlen _ (by omega)
            · refine s_nil (s_nil ⟨.sh (.int (t : Nat)), .sh (K69.fr (mat p s t)), ?_⟩)
              have e2 : (arws z n mat ((p * n + s) * n + (t + 1))).map arD = (arws z n mat ((p * n + s) * n + t)).map arD ++ [.tup [.int (s : Nat), .str ⟨#[c]⟩, .int (t : Nat), K69.fr (mat p s t)]] := by
                rw [← Nat.add_assoc, arws_succ, List.map_append, ea, if_neg hne]; rfl
              rw [e2]
              rfl
          · have hz0 : (mat p s t).num = 0 := by simpa using hk
            refine s_nil (s_nil ⟨.sh (.int (t : Nat)), .sh (K69.fr (mat p s t)), ?_⟩)
            have e2 : arws z n mat ((p * n + s) * n + (t + 1)) = arws z n mat ((p * n + s) * n + t) := by
              rw [← Nat.add_assoc, arws_succ, ea, if_pos hz0, List.append_nil]
            rw [e2]
            rfl
end
end K69
set_option Elab.async false
set_option linter.all false
set_option maxRecDepth 100000
set_option maxHeartbeats 4000000
set_option exponentiation.threshold 10000
namespace K69
open PySem PySem.Spec L2 SY
structure HC (K : PySem.W.Frag) (C : Addr) : Prop where
  cls : Cls K C
  letters : NoAttr K C "letters"
  first : NoAttr K C "first"
  moves : NoAttr K C "moves"
  shows : NoAttr K C "shows"
def trows (n m : Nat) (M : Nat → Nat → Rat) : List D := vec n fun s => .tup (frs (vec m (M s)))
def hidL (z : Str) (n : Nat) (fi : Nat → Rat) (M S : Nat → Nat → Rat) : List (Str × D) := [("letters", .str z), ("first", .tup (frs (vec n fi))), ("moves", .tup (trows n n M)), ("shows", .tup (trows n z.cps.toList.length S))]
theorem trows_at {n m s : Nat} {M : Nat → Nat → Rat} (h : s < n) : (trows n m M)[s]? = some (.tup (frs (vec m (M s)))) := vec_at h
section
variable {X : Cx} {B : Bs} {env : AE} {pos p p2 : Pos} {Q : D → Prop} {e a b : Expr} {n j : Nat} {C : Addr}
theorem e_hLetters (hc : HC X.K C) (h : qE X B env a fun x => ∃ z n fi M S, x = .ins C (hidL z n fi M S) ∧ Q (.str z)) (hb : attributeBase a "letters" X.env (eval a X.env) = eval a X.env := by rfl) : qE X B env (.Attribute a "letters" pos) Q :=
  e_fld (h.imp fun x ⟨z, n, fi, M, S, e, q⟩ => ⟨C, _, _, e, hc.cls, hc.letters, lk_here, q⟩) hb
theorem e_hFirst (hc : HC X.K C) (h : qE X B env a fun x => ∃ z n fi M S, x = .ins C (hidL z n fi M S) ∧ Q (.tup (frs (vec n fi)))) (hb : attributeBase a "first" X.env (eval a X.env) = eval a X.env := by rfl) : qE X B env (.Attribute a "first" pos) Q :=
  e_fld (h.imp fun x ⟨z, n, fi, M, S, e, q⟩ => ⟨C, _, _, e, hc.cls, hc.first, (lk_past (by decide)).trans lk_here, q⟩) hb
theorem e_hMoves (hc : HC X.K C) (h : qE X B env a fun x => ∃ z n fi M S, x = .ins C (hidL z n fi M S) ∧ Q (.tup (trows n n M))) (hb : attributeBase a "moves" X.env (eval a X.env) = eval a X.env := by rfl) : qE X B env (.Attribute a "moves" pos) Q :=
  e_fld (h.imp fun x ⟨z, n, fi, M, S, e, q⟩ => ⟨C, _, _, e, hc.cls, hc.moves, (lk_past (by decide)).trans ((lk_past (by decide)).trans lk_here), q⟩) hb
theorem e_hShows (hc : HC X.K C) (h : qE X B env a fun x => ∃ z n fi M S, x = .ins C (hidL z n fi M S) ∧ Q (.tup (trows n z.cps.toList.length S))) (hb : attributeBase a "shows" X.env (eval a X.env) = eval a X.env := by rfl) : qE X B env (.Attribute a "shows" pos) Q :=
  e_fld (h.imp fun x ⟨z, n, fi, M, S, e, q⟩ => ⟨C, _, _, e, hc.cls, hc.shows, (lk_past (by decide)).trans ((lk_past (by decide)).trans ((lk_past (by decide)).trans lk_here)), q⟩) hb
end
section
variable {P : Program} {w : World} {K : PySem.W.Frag} {mg : Str → Option Value} {base : Heap} {C Ch : Addr}
/-- the machine of a hidden chain, and what one asks of the chain's numbers -/
def S_hidm (C Ch : Addr) : S0 := fun ds Q => ∃ (z : Str) (n N0 m1 m2 : Nat) (fi : Nat → Rat) (M S : Nat → Nat → Rat) (k : Nat), ds = [.ins Ch (hidL z n fi M S)] ∧ MdB z n N0 m1 m2 fi M S k ∧ ∀ d, IsMach C z n (m2 * m1) (m2 * m1) fi ones (Wm z M S) d → Q d
theorem ok_hidm (fr : Free mg) (hc : HC K Ch) (h1 : GlobD K mg "ONE" (K69.fr 1)) (D0 : DefOk K mg "hidden_machine" (top 61) []) (c1 : FnS P w K mg base 11 "from_matrices" (spP K (S_frommat C))) (c2 : FnS P w K mg base 2 "multiply" (spP K S_mul)) : FnS P w K mg base 12 "hidden_machine" (spP K (S_hidm C Ch)) := by
  refine mkFnW (N := ["hidden", "size", "matrices", "place", "shown", "move", "chance"]) (ps := ["hidden"]) D0 (C8.fnScope_by (by decide +kernel)) ?_ fr (fun _ _ _ _ _ _ us hl => match us, hl with | [_], _ => rfl) ?_
  · rintro _ ds Q ⟨_, _, _, _, _, _, _, _, _, rfl, _⟩; rfl
  · rintro f cdv Ar outer s H0 E ev hp _ ds Q F ⟨z, n, N0, m1, m2, fi, M, S, k, rfl, mb, kk⟩
    have md := mb.md
    have n2 := md.n2
    have n1 := md.n1
    have z5 := md.al.2.1
    have m1p := mb.m1p
    have m2p := mb.m2p
    have b0 := mb.bg.big (i := 0) (by omega)
    have b3 : m2 < 2 ^ 2900 := Nat.lt_of_le_of_lt (Nat.le_mul_of_pos_right _ m1p) b0.m1
    have b4 : m1 < 2 ^ 2900 := Nat.lt_of_le_of_lt (Nat.le_mul_of_pos_left _ m2p) b0.m1
    let mat : Nat → Nat → Nat → Rat := fun p s t => S s p * M s t
    refine s_cons (s_set 1 ev (e_len fr (e_hFirst hc (e_var 0 rfl ⟨_, _, _, _, _, rfl, ?_⟩))))
    refine s_cons (s_lc 2 (own := [("place", 3)]) [3] ev ?_ (by decide) (lc_map (i_rng fr (e_len fr (e_hLetters hc (e_var 0 rfl ⟨_, _, _, _, _, rfl, by rw [len_str]; omega, (z.cps.toList.length : Nat), by rw [len_str], by omega, by omega, ?_, (vec z.cps.toList.length fun p => .lst (vec n fun s => .lst (frs (vec n (mat p s))))), ?_, ?_, fun p d hd y hy => ?_⟩))))))
    · show blkC ["hidden", "size", "matrices", "place", "shown", "move", "chance"] (defScope (top 61)) _ _ = true
      decide +kernel
    · rw [rng_len]; omega
    · rw [rng_len, vec_len]
    · refine s_fz 2 rfl (s_cons (s_ret (e_call c1 ev (by decide) (a_cons (e_hLetters hc (e_var 0 rfl ⟨_, _, _, _, _, rfl, ?_⟩))))))
      refine a_cons (e_hFirst hc (e_var 0 rfl ⟨_, _, _, _, _, rfl, ?_⟩))
      refine a_cons (e_var 2 rfl ?_)
      refine a_cons (e_repT (e_tup (a_cons (e_glob h1 (a_nil ⟨Nat.le_of_ble_eq_true rfl, ?_⟩)))))
      refine e_var 1 rfl ⟨_, (n : Nat), rfl, by rw [frs_vec_len], by simp, by omega, by omega, Nat.le_of_ble_eq_true rfl, ?_⟩
      rw [Int.toNat_natCast, flat_rep]
      have e1 : (vec n fun _ => K69.fr 1) = frs (vec n ones) := by rw [frs_vec]; rfl
      rw [e1]
      refine a_cons (e_var 1 rfl (a_nil ⟨z, n, m2 * m1, m2 * m1, fi, ones, mat, (n : Nat), by rw [frs_vec_len]; rfl, md.al, n1, n2, Int.le_refl _, fun p hp s hs t ht => ((md.S s hs).sz p hp).mul ((md.M s hs).sz t ht), fun d hd => kk d hd⟩))
    · obtain ⟨hp', rfl⟩ := rng_get hd
      obtain ⟨_, rfl⟩ := vec_get hy
      intro s1 H1 C1 cl1 fp1
      refine g_name 3 ev.nd ?_
      intro s1 H1 C1 cl1 fp1
      have ez : SY.zipD (trows n z.cps.toList.length S) (trows n n M) = vec n fun s => D.tup [.tup (frs (vec z.cps.toList.length (S s))), .tup (frs (vec n (M s)))] := by
        unfold SY.zipD trows; rw [vec_zip]
      refine e_own (o_lc (own := [("shown", 4), ("move", 5)]) [4, 5] (by exact ev.calm) (by exact ev.nd) ?_ (by decide) (lc_map (i_zip (by exact fr) (e_hShows hc (e_var 0 rfl ⟨_, _, _, _, _, rfl, _, rfl, e_hMoves hc (e_var 0 rfl ⟨_, _, _, _, _, rfl, _, rfl, ?_, (vec n fun s => .lst (frs (vec n (mat p s)))), ?_, rfl, fun s d hd y hy => ?_⟩)⟩)))))
      · kernel_rfl
      · rw [ez, vec_len]; omega
      · rw [ez, vec_len, vec_len]
      · rw [ez] at hd
        obtain ⟨hs, rfl⟩ := vec_get hd
        obtain ⟨_, rfl⟩ := vec_get hy
        intro s2 H2 C2 cl2 fp2
        refine g_tup ev.calm ⟨_, rfl, rfl, gs_cons (is := [4]) (g_name 4 ev.nd (gs_cons (is := [5]) (g_name 5 ev.nd (gs_nil ?_))))⟩
        intro s2 H2 C2 cl2 fp2
        refine e_own (o_lc (own := [("chance", 6)]) [6] (by exact ev.calm) (by exact ev.nd) ?_ (by decide) (lc_map (i_val (e_var 5 rfl ⟨_, rfl, ?_, frs (vec n (mat p s)), ?_, rfl, fun t d hd y hy => ?_⟩))))
        · kernel_rfl
        · rw [frs_vec_len]; omega
        · rw [frs_vec_len, frs_vec_len]
        · obtain ⟨ht, rfl⟩ := frs_vec_get hd
          obtain ⟨_, rfl⟩ := frs_vec_get hy
          intro s3 H3 C3 cl3 fp3
          refine g_name 6 ev.nd ?_
          intro s3 H3 C3 cl3 fp3
          exact e_call c2 ⟨ev.nd, ev.calm, ev.room, ev.free⟩ (by decide) (a_cons (e_ix (n := 11) ev.room (e_var 4 rfl (e_var 3 rfl ⟨_, atI_nat (frs_vec_at hp'), a_cons (e_var 6 rfl (a_nil ⟨_, _, rfl, ((md.S s hs).sz p hp').ok b3 b3, ((md.M s hs).sz t ht).ok b4 b4, rfl⟩))⟩))))
end
end K69
set_option Elab.async false
set_option linter.all false
set_option maxRecDepth 100000
set_option maxHeartbeats 4000000
set_option exponentiation.threshold 10000
namespace K69
open PySem PySem.Spec L2 SY
section
variable {P : Program} {w : World} {K : PySem.W.Frag} {mg : Str → Option Value} {base : Heap} {C Ch : Addr}
/-- the hidden chain and a text -/
def HidT (Ch : Addr) (z x : Str) (n N0 m1 m2 : Nat) (fi : Nat → Rat) (M S : Nat → Nat → Rat) (ds : List D) : Prop :=
  ds = [.ins Ch (hidL z n fi M S), .str x] ∧ MdB z n N0 m1 m2 fi M S x.cps.toList.length ∧ x.cps.toList.length ≤ 1000 ∧ ∀ c ∈ x.cps.toList, c ∈ z.cps.toList
def rowsTD (n k : Nat) (R : Nat → Nat → Rat) : D := .tup (vec k fun i => .tup (frs (vec n (R i))))
def S_fwd (Ch : Addr) : S0 := fun ds Q => ∃ (z x : Str) (n N0 m1 m2 : Nat) (fi : Nat → Rat) (M S : Nat → Nat → Rat), HidT Ch z x n N0 m1 m2 fi M S ds ∧ Q (rowsTD n (x.cps.toList.length + 1) fun i => rowF n (Wm z M S) fi (x.cps.toList.take i))
def S_bwd (Ch : Addr) : S0 := fun ds Q => ∃ (z x : Str) (n N0 m1 m2 : Nat) (fi : Nat → Rat) (M S : Nat → Nat → Rat), HidT Ch z x n N0 m1 m2 fi M S ds ∧ Q (rowsTD n (x.cps.toList.length + 1) fun i => colF n (Wm z M S) ones (x.cps.toList.drop i))
theorem ok_fwd (fr : Free mg) (mc : MC K C) (D0 : DefOk K mg "forward_rows" (top 62) []) (c1 : FnS P w K mg base 12 "hidden_machine" (spP K (S_hidm C Ch))) (c2 : FnS P w K mg base 3 "row_step" (spP K (S_rowstep C))) : FnS P w K mg base 13 "forward_rows" (spP K (S_fwd Ch)) := by
  refine mkFnW (N := ["hidden", "text", "machine", "rows", "letter"]) (ps := ["hidden", "text"]) D0 (C8.fnScope_by (by decide +kernel)) ?_ fr (fun _ _ _ _ _ _ us hl => match us, hl with | [_, _], _ => rfl) ?_
  · rintro _ ds Q ⟨_, _, _, _, _, _, _, _, _, ⟨rfl, _⟩, _⟩; rfl
  · rintro f cdv Ar outer s H0 E ev hp _ ds Q F ⟨z, x, n, N0, m1, m2, fi, M, S, ⟨rfl, mb, hxl, hx⟩, k⟩
    have md := mb.md
    let R : Nat → Nat → Rat := fun i => rowF n (Wm z M S) fi (x.cps.toList.take i)
    refine s_cons (s_set 2 ev (e_call c1 ev (by decide) (a_cons (e_var 0 rfl (a_nil ⟨z, n, N0, m1, m2, fi, M, S, _, rfl, mb, fun d hd => ?_⟩)))))
    obtain ⟨gv, as, tbl, rfl, hA, hT⟩ := id hd
    let Md : D := .ins C [("letters", .str z), ("start", .tup (frs (vec n fi))), ("end", .tup (frs (vec n ones))), ("_given", gv), ("arrows", .tup (as.map arD)), ("_table", .dic tbl)]
    refine s_cons (s_own 3 ev (o_lst (a_cons (e_mStart mc (e_var 2 rfl ⟨_, _, _, _, _, _, rfl, a_nil ⟨Nat.le_of_ble_eq_true rfl, ?_⟩⟩)))))
    refine s_cons (s_for [4] hp ev (i_val (e_var 1 rfl ⟨_, rfl, fun i e => ∃ v4, e = [.sh (.ins Ch (hidL z n fi M S)), .sh (.str x), .sh Md, .ow (vec (i + 1) fun i => .tup (frs (vec n (R i)))), v4], ⟨.un, rfl⟩, ?_, ?_⟩)))
    · rintro e ⟨v4, rfl⟩
      rw [List.length_map]
      exact s_fz 3 rfl (s_cons (s_ret (e_tuple fr (e_var 3 rfl k))))
    · rintro i d e hdd ⟨v4, rfl⟩
      obtain ⟨c, hc, rfl⟩ := sg_get hdd
      have hi : i < x.cps.toList.length := (List.getElem?_eq_some_iff.mp hc).1
      have hcz := hx c (List.mem_of_getElem? hc)
      have hz := sz_rowF mb.bg.m0 mb.wsz (x.cps.toList.take i) mb.bg.N0 md.fi.sz fun c hc => hx c (List.mem_of_mem_take hc)
      rw [List.length_take, Nat.min_eq_left (by omega)] at hz
      have hlast : L2.atI (vec (i + 1) fun i => D.tup (frs (vec n (R i)))) (-1) = some (.tup (frs (vec n (R i)))) := by rw [vec_succ]; exact atI_last _ _
      refine g_name 4 ev.nd (s_cons (s_app 3 rfl (e_call c2 ev (by decide) (a_cons (e_var 2 rfl (a_cons (e_ixOw 3 rfl (e_neg (e_int ⟨_, rfl, _, _, rfl, hlast, a_cons (e_var 4 rfl (a_nil ⟨_, z, n, _, _, fi, ones, Wm z M S, c, _, _, _, rfl, hd, hcz, hz, mb.bg.big (by omega), by rw [vec_len]; omega, ?_⟩))⟩)))))))))
      refine s_nil ⟨.sh (.str ⟨#[c]⟩), ?_⟩
      have e1 : (fun t => sumN n fun s => rowF n (Wm z M S) fi (x.cps.toList.take i) s * Wm z M S c s t) = R (i + 1) := by
        show stepR n (Wm z M S) (rowF n (Wm z M S) fi (x.cps.toList.take i)) c = rowF n (Wm z M S) fi (x.cps.toList.take (i + 1))
        rw [take_more hc, rowF_snoc]
      rw [e1, ← vec_succ]
      rfl
theorem ok_bwd (fr : Free mg) (mc : MC K C) (D0 : DefOk K mg "backward_columns" (top 63) []) (c1 : FnS P w K mg base 12 "hidden_machine" (spP K (S_hidm C Ch))) (c2 : FnS P w K mg base 3 "column_step" (spP K (S_colstep C))) : FnS P w K mg base 13 "backward_columns" (spP K (S_bwd Ch)) := by
  refine mkFnW (N := ["hidden", "text", "machine", "columns", "letter"]) (ps := ["hidden", "text"]) D0 (C8.fnScope_by (by decide +kernel)) ?_ fr (fun _ _ _ _ _ _ us hl => match us, hl with | [_, _], _ => rfl) ?_
  · rintro _ ds Q ⟨_, _, _, _, _, _, _, _, _, ⟨rfl, _⟩, _⟩; rfl
  · rintro f cdv Ar outer s H0 E ev hp _ ds Q F ⟨z, x, n, N0, m1, m2, fi, M, S, ⟨rfl, mb, hxl, hx⟩, k⟩
    have md := mb.md
    have hzl : x.length ≤ 100000 := by rw [len_str]; omega
    refine s_cons (s_set 2 ev (e_call c1 ev (by decide) (a_cons (e_var 0 rfl (a_nil ⟨z, n, N0, m1, m2, fi, M, S, _, rfl, mb, fun d hd => ?_⟩)))))
    obtain ⟨gv, as, tbl, rfl, hA, hT⟩ := id hd
    generalize hkl : x.cps.toList.length = kl at mb hxl k
    let Cq : Nat → Nat → Rat := fun i => colF n (Wm z M S) ones (x.cps.toList.drop (kl - i))
    let Md : D := .ins C [("letters", .str z), ("start", .tup (frs (vec n fi))), ("end", .tup (frs (vec n ones))), ("_given", gv), ("arrows", .tup (as.map arD)), ("_table", .dic tbl)]
    have e0 : frs (vec n ones) = frs (vec n (Cq 0)) := by
      have : x.cps.toList.drop (kl - 0) = [] := List.drop_eq_nil_of_le (by omega)
      show _ = frs (vec n (colF n (Wm z M S) ones (x.cps.toList.drop (kl - 0))))
      rw [this]
      rfl
    refine s_cons (s_own 3 ev (o_lst (a_cons (e_mEnd mc (e_var 2 rfl ⟨_, _, _, _, _, _, rfl, a_nil ⟨Nat.le_of_ble_eq_true rfl, ?_⟩⟩)))))
    have e00 : [D.tup (frs (vec n ones))] = vec (0 + 1) fun i => .tup (frs (vec n (Cq i))) := by rw [e0]; rfl
    rw [e00]
    refine s_cons (s_for [4] hp ev (i_val (e_rev (e_var 1 rfl ⟨hzl, _, rfl, fun i e => ∃ v4, e = [.sh (.ins Ch (hidL z n fi M S)), .sh (.str x), .sh Md, .ow (vec (i + 1) fun i => .tup (frs (vec n (Cq i)))), v4], ⟨.un, rfl⟩, ?_, ?_⟩))))
    · rintro e ⟨v4, rfl⟩
      rw [List.length_map]
      refine s_fz 3 rfl (s_cons (s_ret (e_tuple fr (e_rev (e_var 3 rfl ?_)))))
      have hlr : x.cps.toList.reverse.length = kl := by rw [List.length_reverse, hkl]
      show Q (.tup (vec (x.cps.toList.reverse.length + 1) fun i => D.tup (frs (vec n (Cq i)))).reverse)
      rw [hlr, vec_rev]
      have : (vec (kl + 1) fun i => D.tup (frs (vec n (Cq (kl + 1 - 1 - i))))) = vec (kl + 1) fun i => D.tup (frs (vec n (colF n (Wm z M S) ones (x.cps.toList.drop i)))) := vec_ext fun i hi => by
        show D.tup (frs (vec n (colF n (Wm z M S) ones (x.cps.toList.drop (kl - (kl + 1 - 1 - i)))))) = _
        have : kl - (kl + 1 - 1 - i) = i := by omega
        rw [this]
      rw [this]
      exact k
    · rintro i d e hdd ⟨v4, rfl⟩
      obtain ⟨c, hc, rfl⟩ := sg_get hdd
      have hc : x.cps.toList.reverse[i]? = some c := hc
      have hi : i < kl := by
        have := (List.getElem?_eq_some_iff.mp hc).1
        rwa [List.length_reverse, hkl] at this
      have hcx : x.cps.toList[kl - 1 - i]? = some c := by
        rw [List.getElem?_reverse (by omega), hkl] at hc
        exact hc
      have hcz := hx c (List.mem_of_getElem? hcx)
      have hdrop : x.cps.toList.drop (kl - (i + 1)) = c :: x.cps.toList.drop (kl - i) := by
        have e1 : kl - (i + 1) = kl - 1 - i := by omega
        have e2 : kl - i = kl - 1 - i + 1 := by omega
        rw [e1, e2, List.drop_eq_getElem_cons (by omega)]
        congr 1
        exact (List.getElem?_eq_some_iff.mp hcx).2
      have hC : ∀ s, s < n → Sz (1 * (m2 * m1) ^ i) (1 * (n * (m2 * m1)) ^ i) (Cq i s) := by
        have := sz_colF (N := 1) (A := 1) (by decide) mb.bc.m0 one_sz mb.wsz (x.cps.toList.drop (kl - i)) fun c hc => hx c (List.mem_of_mem_drop hc)
        have e1 : (x.cps.toList.drop (kl - i)).length = i := by rw [List.length_drop]; omega
        rwa [e1] at this
      have hlast : L2.atI (vec (i + 1) fun i => D.tup (frs (vec n (Cq i)))) (-1) = some (.tup (frs (vec n (Cq i)))) := by rw [vec_succ]; exact atI_last _ _
      refine g_name 4 ev.nd (s_cons (s_app 3 rfl (e_call c2 ev (by decide) (a_cons (e_var 2 rfl (a_cons (e_var 4 rfl (a_cons (e_ixOw 3 rfl (e_neg (e_int ⟨_, rfl, _, _, rfl, hlast, a_nil ⟨_, z, n, _, _, fi, ones, Wm z M S, c, _, _, _, rfl, hd, hcz, hC, mb.bc.big (by omega), by rw [vec_len]; omega, ?_⟩⟩)))))))))))
      refine s_nil ⟨.sh (.str ⟨#[c]⟩), ?_⟩
      have e1 : (fun s => sumN n fun t => Wm z M S c s t * Cq i t) = Cq (i + 1) := by
        show stepC n (Wm z M S) (Cq i) c = colF n (Wm z M S) ones (x.cps.toList.drop (kl - (i + 1)))
        rw [hdrop, colF_cons]
      rw [e1]
      have e2 : (vec (i + 1) fun i => D.tup (frs (vec n (Cq i)))) ++ [D.tup (frs (vec n (Cq (i + 1))))] = vec (i + 1 + 1) fun i => D.tup (frs (vec n (Cq i))) := (vec_succ (i + 1) _).symm
      rw [e2]
      rfl
end
end K69
set_option Elab.async false
set_option linter.all false
set_option maxRecDepth 100000
set_option maxHeartbeats 4000000
set_option exponentiation.threshold 10000
namespace SY
open PySem PySem.Spec L2
/-- a class that is made by its name, its __init__ a def without defaults -/
def MkDef (K : PySem.W.Frag) (mg : Str → Option Value) (x qual : Str) (st : Stmt) (kws : List (Str × V)) (C : Addr) : Prop := ∃ f fd, Mk K C f ∧ FunD K "__init__" qual (defArgs st) (defBody st) (defScope st) [] kws f fd ∧ mg x = some (.ref C)
section
variable {Pr : Program} {w : World} {K : PySem.W.Frag} {mg : Str → Option Value} {base : Heap} {x qual : Str} {N ps : List Str} {k : Nat} {C : Addr} {s1 : Str} {st : Stmt}
theorem mkMkr {S : I0} (D0 : MkDef K mg x qual st [] C) (sc : FnScope N (s1 :: ps) (defScope st)) (ar : ∀ l ds Q, S l ds Q → ds.length = ps.length) (fr : Free mg)
    (hb : ∀ (kV doc pm : Value) (an : Option Addr) (cdv ct : Value) (us : List Value), us.length = (s1 :: ps).length → bindArgs (PySem.W.fnOf "__init__" qual (defArgs st) (defBody st) (defScope st) .none kV doc pm an cdv ct) ⟨us, []⟩ = pure ((s1 :: ps).zip us))
    (hbody : ∀ (f : Addr) (cdv : Value) (A : Around) (outer : List Env) (s : Shared) (H0 : Hp) (E : XK), Ev (cxOf (L2.CX Pr w) Pr w K mg base N qual (defScope st) f cdv A outer s H0 E) k → PassesOwn (model Pr w) (cxOf (L2.CX Pr w) Pr w K mg base N qual (defScope st) f cdv A outer s H0 E).A (cxOf (L2.CX Pr w) Pr w K mg base N qual (defScope st) f cdv A outer s H0 E).env (cxOf (L2.CX Pr w) Pr w K mg base N qual (defScope st) f cdv A outer s H0 E).xe →
      ∀ (q : Addr) (l : List (Str × D)) (ds : List D) (Q : List (Str × D) → Prop) (B : Bs), B.W = W0 → S l ds Q → qS (cxOf (L2.CX Pr w) Pr w K mg base N qual (defScope st) f cdv A outer s H0 E) B noX (.oi (some q) C l :: env0 (N.length - 1) ds) (defBody st)
        { nx := fun env => ∃ l', env[0]? = some (.oi (some q) C l') ∧ Q l', rt := fun _ _ => False }) : Mkr Pr w K mg base (k + 1) x C S := by
  obtain ⟨f, fd, M, F, hm⟩ := D0
  exact ⟨⟨f, fd, s1 :: ps, M, fnOk_I F sc ar fr (hbody f), hm, F.bindsN hb⟩⟩
end
end SY
namespace K69
open PySem PySem.Spec L2 SY
def S_hid : I0 := fun l ds Q => ∃ (z : Str) (n : Nat) (fi : Nat → Rat) (M S : Nat → Nat → Rat), l = [] ∧ ds = [.str z, .lst (frs (vec n fi)), .lst (vrows n n M), .lst (vrows n z.cps.toList.length S)] ∧ AlOk z ∧ 1 ≤ n ∧ n ≤ 24 ∧ Ch (vec n fi) ∧ (∀ s, s < n → Ch (vec n (M s))) ∧ (∀ s, s < n → Ch (vec z.cps.toList.length (S s))) ∧ Q (hidL z n fi M S)
theorem rowsL_vrows (n m : Nat) (M : Nat → Nat → Rat) : D.lst (vrows n m M) = rowsL (vec n fun s => vec m (M s)) := by
  unfold rowsL vrows; rw [vec_map]
section
variable {P : Program} {w : World} {K : PySem.W.Frag} {mg : Str → Option Value} {base : Heap} {C Ch : Addr}
theorem ok_hid (fr : Free mg) (hc : HC K Ch) (hL : GlobD K mg "STATE_LIMIT" (.int 24)) (D0 : MkDef K mg "Hidden" "Hidden.__init__" (inCls (top 60) 0) [] Ch) (c1 : FnS P w K mg base 1 "is_alphabet" (spP K S_alpha)) (c2 : FnS P w K mg base 1 "check_widths" (spP K S_widths)) (c3 : FnS P w K mg base 5 "check_chances" (spP K S_checkch)) (c4 : FnS P w K mg base 1 "as_tuples" (spP K S_astup)) : Mkr P w K mg base 7 "Hidden" Ch S_hid := by
  refine mkMkr (N := ["self", "letters", "first", "moves", "shows", "size"]) (s1 := "self") (ps := ["letters", "first", "moves", "shows"]) D0 (C8.fnScope_by (by decide +kernel)) ?_ fr (fun _ _ _ _ _ _ us hl => match us, hl with | [_, _, _, _, _], _ => rfl) ?_
  · rintro l ds Q ⟨_, _, _, _, _, _, rfl, _⟩; rfl
  · rintro f cdv Ar outer s H0 E ev hp q l ds Q B hB ⟨z, n, fi, M, S, rfl, rfl, hz, n1, n2, h1, h2, h3, k⟩
    refine s_cons (s_if (t_not (t_val (e_call c1 ev (by decide) (a_cons (e_var 1 rfl (a_nil ⟨z, rfl, hz, fun h => Bool.noConfusion h, fun _ => ?_⟩)))))))
    have hn : (frs (vec n fi)).length = n := frs_vec_len _ _
    refine s_nil (s_cons (s_set 5 ev (e_len fr (e_var 2 rfl ?_))))
    refine s_cons (s_if (t_cmp (c_gt (e_var 5 rfl (e_glob hL ⟨_, rfl, fun h => ?_, fun _ => ?_⟩)))))
    · have : (24 : Int) < ((frs (vec n fi)).length : Nat) := by simpa using h
      omega
    refine s_nil (s_cons (s_expr (e_call c2 ev (by decide) (a_cons (e_var 3 rfl (a_cons (e_var 5 rfl (a_cons (e_var 5 rfl (a_nil ⟨vec n fun s => vec n (M s), ((frs (vec n fi)).length : Nat), ((frs (vec n fi)).length : Nat), ?_, ?_, ?_, ?_⟩))))))))))
    · rw [← rowsL_vrows]
    · exact (congrArg (fun m : Nat => (m : Int)) ((vec_len ..).trans hn.symm))
    · intro r hr
      obtain ⟨i, hi⟩ := List.getElem?_of_mem hr
      obtain ⟨_, rfl⟩ := vec_get hi
      rw [vec_len, hn]
    refine s_cons (s_expr (e_call c2 ev (by decide) (a_cons (e_var 4 rfl (a_cons (e_var 5 rfl (a_cons (e_len fr (e_var 1 rfl ⟨by rw [len_str]; have := hz.2.1; omega, a_nil ⟨vec n fun s => vec z.cps.toList.length (S s), ((frs (vec n fi)).length : Nat), (z.cps.toList.length : Nat), ?_, ?_, ?_, ?_⟩⟩)))))))))
    · rw [← rowsL_vrows, len_str]
    · exact (congrArg (fun m : Nat => (m : Int)) ((vec_len ..).trans hn.symm))
    · intro r hr
      obtain ⟨i, hi⟩ := List.getElem?_of_mem hr
      obtain ⟨_, rfl⟩ := vec_get hi
      rw [vec_len]
    refine s_cons (s_expr (e_call c3 ev (by decide) (a_cons (e_var 2 rfl (a_cons (e_var 3 rfl (a_cons (e_var 4 rfl (a_nil ⟨vec n fi, vec n fun s => vec n (M s), vec n fun s => vec z.cps.toList.length (S s), ?_, h1, ?_, ?_, by rw [vec_len]; omega, by rw [vec_len]; omega, ?_⟩)))))))))
    · rw [← rowsL_vrows, ← rowsL_vrows]
    · intro r hr
      obtain ⟨i, hi⟩ := List.getElem?_of_mem hr
      obtain ⟨hs, rfl⟩ := vec_get hi
      exact h2 _ hs
    · intro r hr
      obtain ⟨i, hi⟩ := List.getElem?_of_mem hr
      obtain ⟨hs, rfl⟩ := vec_get hi
      exact h3 _ hs
    refine s_cons (s_fset 0 hB rfl hc.cls hc.letters (e_var 1 rfl ⟨by decide, ?_⟩))
    refine s_cons (s_fset 0 hB rfl hc.cls hc.first (e_tuple fr (e_var 2 rfl ⟨Nat.le_of_ble_eq_true rfl, ?_⟩)))
    refine s_cons (s_fset 0 hB rfl hc.cls hc.moves (e_call c4 ev (by decide) (a_cons (e_var 3 rfl (a_nil ⟨vec n fun s => vec n (M s), ?_, by rw [vec_len]; omega, Nat.le_of_ble_eq_true rfl, ?_⟩)))))
    · show [D.lst (vrows n n M)] = [rowsL _]
      rw [← rowsL_vrows]
    refine s_cons (s_fset 0 hB rfl hc.cls hc.shows (e_call c4 ev (by decide) (a_cons (e_var 4 rfl (a_nil ⟨vec n fun s => vec z.cps.toList.length (S s), ?_, by rw [vec_len]; omega, Nat.le_of_ble_eq_true rfl, ?_⟩)))))
    · show [D.lst (vrows n z.cps.toList.length S)] = [rowsL _]
      rw [← rowsL_vrows]
    refine s_nil ⟨_, rfl, ?_⟩
    rw [vec_map, vec_map]
    exact k
end
end K69
set_option Elab.async false
set_option linter.all false
set_option maxRecDepth 100000
set_option maxHeartbeats 4000000
set_option exponentiation.threshold 10000
namespace SY
open PySem PySem.Spec L2
theorem perm_lift {α β : Type} {f : α → β} {l' m : List β} (h : l'.Perm m) : ∀ l : List α, m = l.map f → ∃ l2 : List α, l2.Perm l ∧ l2.map f = l' := by
  induction h with
  | nil => intro l e; exact ⟨l, List.Perm.refl _, e.symm⟩
  | cons x _ ih =>
    intro l e
    cases l with
    | nil => cases e
    | cons y l =>
      rw [List.map_cons] at e
      obtain ⟨l2, h1, h2⟩ := ih l (List.cons.inj e).2
      exact ⟨y :: l2, h1.cons y, by rw [List.map_cons, h2, ← (List.cons.inj e).1]⟩
  | swap x y t =>
    intro l e
    match l, e with
    | a :: b :: l, e =>
      rw [List.map_cons, List.map_cons] at e
      have e1 := (List.cons.inj e).1
      have e2 := (List.cons.inj (List.cons.inj e).2).1
      have e3 := (List.cons.inj (List.cons.inj e).2).2
      exact ⟨b :: a :: l, List.Perm.swap a b l, by rw [List.map_cons, List.map_cons, ← e1, ← e2, ← e3]⟩
  | trans _ _ ih1 ih2 =>
    intro l e
    obtain ⟨l2, h1, h2⟩ := ih2 l e
    obtain ⟨l3, h3, h4⟩ := ih1 l2 h2.symm
    exact ⟨l3, h3.trans h1, h4⟩
theorem paired_zip {α β : Type} {P : α → β → Prop} : ∀ {l : List α} {m : List β}, Paired P l m → ∃ ps : List (α × β), ps.map (·.1) = l ∧ ps.map (·.2) = m ∧ ∀ p ∈ ps, P p.1 p.2
  | _, _, .nil => ⟨[], rfl, rfl, fun _ h => by cases h⟩
  | a :: _, b :: _, .cons h t => by
    obtain ⟨ps, h1, h2, h3⟩ := paired_zip t
    refine ⟨(a, b) :: ps, by rw [List.map_cons, h1], by rw [List.map_cons, h2], fun p hp => ?_⟩
    rcases List.mem_cons.mp hp with rfl | hp
    · exact h
    · exact h3 p hp
end SY
namespace K69
open PySem PySem.Spec L2 SY
def aKey (a : Arw) : List Key := [.inl (a.s : Nat), .inr ⟨#[a.c]⟩, .inl (a.t : Nat)]
theorem aKey_inj {a b : Arw} (h : aKey a = aKey b) : (a.s, a.c, a.t) = (b.s, b.c, b.t) := by
  unfold aKey at h
  simp only [List.cons.injEq, Sum.inl.injEq, Sum.inr.injEq, and_true] at h
  obtain ⟨h1, h2, h3⟩ := h
  have h4 : a.c = b.c := by
    have := congrArg (fun x : Str => x.cps.toList) h2
    simpa using this
  have h5 : a.s = b.s := by omega
  have h6 : a.t = b.t := by omega
  rw [h4, h5, h6]
def RT (K : PySem.W.Frag) (F : Hp) (as : List Arw) (kvs : List (List Key × V)) : Prop := Paired (fun a kv => kv.1 = aKey a ∧ R K F (arD a) kv.2) as kvs
theorem RT.mono {K : PySem.W.Frag} {F F' : Hp} {as : List Arw} {kvs : List (List Key × V)} (r : RT K F as kvs) (s : Same F F') : RT K F' as kvs := Paired.mapP r fun _ _ z => ⟨z.1, R.mono s _ _ z.2⟩
theorem RT.mem {K : PySem.W.Frag} {F : Hp} {as : List Arw} {kvs : List (List Key × V)} (r : RT K F as kvs) : ∀ kv ∈ kvs, ∃ a ∈ as, kv.1 = aKey a ∧ R K F (arD a) kv.2 := by
  induction r with
  | nil => intro _ h; cases h
  | cons h t ih =>
    intro kv hk
    rcases List.mem_cons.mp hk with rfl | hk
    · exact ⟨_, List.mem_cons_self, h⟩
    · obtain ⟨a, ha, z⟩ := ih kv hk
      exact ⟨a, List.mem_cons_of_mem _ ha, z⟩
theorem RT.fresh {K : PySem.W.Frag} {F : Hp} {as : List Arw} {kvs : List (List Key × V)} {a : Arw} (r : RT K F as kvs) (h : ∀ b ∈ as, (b.s, b.c, b.t) ≠ (a.s, a.c, a.t)) : kvs.any (fun kv => decide (kv.1 = aKey a)) = false := by
  rw [List.any_eq_false]
  intro kv hk e
  have e := of_decide_eq_true e
  obtain ⟨b, hb, e2, _⟩ := r.mem kv hk
  exact h b hb (aKey_inj (e2.symm.trans e))
theorem isKeys_get {H : Hp} {kvs : List (List Key × V)} {bs : List Addr} (h : IsKeys H kvs bs) : ∀ {j : Nat} {k : List Key} {v : V} {b : Addr}, kvs[j]? = some (k, v) → bs[j]? = some b → H b = some (.tup (k.map kV)) := by
  unfold IsKeys at h
  induction h with
  | nil => intro j k v b e; cases e
  | cons h t ih =>
    intro j k v b e1 e2
    cases j with
    | zero => cases e1; cases e2; exact h
    | succ j => exact ih e1 e2
theorem RT.val {K : PySem.W.Frag} {F : Hp} {as : List Arw} {kvs : List (List Key × V)} (r : RT K F as kvs) : (as.map fun a => (a.s, a.c, a.t)).Nodup → ∀ (j : Nat) a, as[j]? = some a → ∃ v, kvs[j]? = some (aKey a, v) ∧ valV kvs (aKey a) = some v ∧ R K F (arD a) v := by
  unfold RT at r
  induction r with
  | nil => intro _ j a e; cases e
  | @cons b kv l m h t ih =>
    intro nd j a e
    rw [List.map_cons, List.nodup_cons] at nd
    cases j with
    | zero =>
      cases e
      refine ⟨kv.2, ?_, valV_pos h.1, h.2⟩
      show some kv = _
      rw [← h.1]
    | succ j =>
      obtain ⟨v, h1, h2, h3⟩ := ih nd.2 j a e
      refine ⟨v, h1, ?_, h3⟩
      rw [valV_neg, h2]
      intro z
      apply nd.1
      have := aKey_inj (h.1.symm.trans z)
      rw [this]
      exact List.mem_map.mpr ⟨a, List.mem_of_getElem? e, rfl⟩
section
variable {P : Program} {w : World} {K : PySem.W.Frag} {mg : Str → Option Value} {base : Heap}
def S_ord : S0 := fun ds Q => ∃ (z : Str) (n : Nat) (as : List Arw) (asD : D), ds = [.str z, .int (n : Nat), asD] ∧ (asD = .lst (as.map arD) ∨ asD = .tup (as.map arD)) ∧ (∀ a ∈ as, a.s < n ∧ a.t < n ∧ a.c ∈ z.cps.toList) ∧ (as.map fun a => (a.s, a.c, a.t)).Nodup ∧ as.length ≤ 50000 ∧
  ∀ as' : List Arw, as'.Perm as → Q (.tup (as'.map arD))
theorem ok_ord (fr : Free mg) (D0 : DefOk K mg "ordered_arrows" (top 25) []) (c1 : FnS P w K mg base 2 "is_arrow" (spP K S_arrow)) : FnS P w K mg base 3 "ordered_arrows" (spP K S_ord) := by
  refine mkFnW (N := ["letters", "size", "arrows", "found", "index", "arrow", "ends"]) (ps := ["letters", "size", "arrows"]) D0 (C8.fnScope_by (by decide +kernel)) ?_ fr (fun _ _ _ _ _ _ us hl => match us, hl with | [_, _, _], _ => rfl) ?_
  · rintro _ ds Q ⟨_, _, _, _, rfl, _⟩; rfl
  · rintro f cdv Ar outer s HH E ev hp _ ds Q FF ⟨z, n, as, asD, rfl, hasD, hok, hnd, hlen, kk⟩
    refine z_enter rfl rfl (Q := Q) (fun F0 H0 => ?_) (fun _ _ q => q)
    refine z_cons (z_newT 3 ev fun q hq fq => ?_)
    have hseq : seqD asD = some (as.map arD) := by rcases hasD with rfl | rfl <;> rfl
    have some_ne : ∀ {H : Hp} {o : HO}, H q = some o → H q ≠ none := fun e z => by rw [e] at z; cases z
    let fixed : List AV := [.sh (.str z), .sh (.int (n : Nat)), .sh asD, .sh (.ref q)]
    refine z_cons (z_for [4, 5] hp ev (i_en fr (e_var 2 rfl ⟨_, hseq, fun F1 H1 l1 => ⟨fun i e F H => e = fixed ++ [.un, .un, .un] ∧ F q = none ∧ ∃ kvs, H q = some (.dT kvs) ∧ RT K F (as.take i) kvs, ⟨rfl, l1.un q fq (some_ne upd_same), [], l1.hh _ _ (fun z => z) upd_same, Paired.nil⟩, ?_, ?_, ?_⟩⟩)))
    · rintro i e F' H' F'' H'' l2 ⟨e1, e2, kvs, e3, e4⟩
      exact ⟨e1, l2.un q e2 (some_ne e3), kvs, l2.hh _ _ (fun z => z) e3, e4.mono l2.ff⟩
    · rintro e F H ⟨rfl, hF, kvs, hH, rt⟩
      rw [enD_len, List.length_map, List.take_length] at rt
      refine z_cons (z_ret (e_tuple fr (e_own (o_lcz (own := [("ends", 6)]) [6] ev.calm ev.nd ?_ (by decide) rfl (i_sortT (kvs := kvs) (q := q) ev rfl hH ?_ (e_var 3 rfl ⟨rfl, fun F1 H1 bs bs' l1 hbs hpm => ?_⟩))))))
      · show blkC ["letters", "size", "arrows", "found", "index", "arrow", "ends"] (defScope (top 25)) _ _ = true
        decide +kernel
      · intro kv hk
        obtain ⟨a, _, e, _⟩ := rt.mem kv hk
        exact ⟨_, _, _, e⟩
      · obtain ⟨ps, e1, e2, e3⟩ := paired_zip hbs
        obtain ⟨qs, f1, f2, f3⟩ := paired_zip rt
        have hl : bs'.length = as.length := by rw [hpm.length_eq, ← Paired.length hbs, Paired.length rt]
        let us : List (Addr × Arw) := bs.zip as
        have hlb : bs.length = as.length := by rw [← hpm.length_eq, hl]
        have u1 : us.map (·.1) = bs := List.map_fst_zip (by omega)
        have u2 : us.map (·.2) = as := List.map_snd_zip (by omega)
        obtain ⟨us', g1, g2⟩ := perm_lift hpm us u1.symm
        have hus : ∀ p ∈ us, ∃ v, H1 p.1 = some (.tup ((aKey p.2).map kV)) ∧ valV kvs (aKey p.2) = some v ∧ R K F (arD p.2) v := fun p hp => by
          obtain ⟨j, hj⟩ := List.getElem?_of_mem hp
          obtain ⟨hj1, hj2⟩ := List.getElem?_zip_eq_some.mp hj
          obtain ⟨v, v1, v2, v3⟩ := rt.val hnd j p.2 hj2
          refine ⟨v, ?_, v2, v3⟩
          have := isKeys_get hbs v1 hj1
          exact this
        have hlu : us'.length = bs'.length := by rw [← g2, List.length_map]
        refine ⟨by rw [List.length_map]; omega, fun i acc => acc = (us'.take i).map fun p => arD p.2, rfl, fun acc e => ?_, fun i d acc hd _ e => ?_⟩
        · rw [List.length_map, ← hlu, List.take_length] at e
          show Q (.tup acc)
          rw [e]
          have := kk (us'.map (·.2)) (by have := g1.map (·.2); rwa [u2] at this)
          rwa [List.map_map] at this
        · rw [List.getElem?_map] at hd
          obtain ⟨b, hb, rfl⟩ := Option.map_eq_some_iff.mp hd
          rw [← g2, List.getElem?_map] at hb
          obtain ⟨p, hpp, rfl⟩ := Option.map_eq_some_iff.mp hb
          obtain ⟨v, hv1, hv2, hv3⟩ := hus p (g1.mem_iff.mp (List.mem_of_getElem? hpp))
          intro s H C cl fp
          refine g_name 6 ev.nd ⟨rfl, ?_⟩
          intro s H C cl fp
          refine ts_nil ?_
          rw [if_pos rfl]
          intro s H C cl fp
          refine e_dgT (q := q) (kvs := kvs) ⟨ev.nd, ev.calm, ev.room, ev.free⟩ rfl ?_ (e_var 3 rfl ⟨rfl, e_var 6 rfl ⟨p.1, aKey p.2, v, arD p.2, rfl, hv1, hv2, ?_, ?_⟩⟩)
          · exact l1.hh _ _ (fun z => z) hH
          · exact R.mono l1.ff _ _ hv3
          · subst e
            rw [List.take_add_one, hpp, List.map_append]
            rfl
    · rintro i d e F H hd ⟨rfl, hF, kvs, hH, rt⟩
      have hi : i < as.length := by
        have := (List.getElem?_eq_some_iff.mp hd).1
        rwa [enD_len, List.length_map] at this
      obtain ⟨d0, hd0, rfl⟩ := enD_get hd
      obtain ⟨a, ha, rfl⟩ := ar_get hd0
      obtain ⟨hs, ht, hcz⟩ := hok a (List.mem_of_getElem? ha)
      refine g_tup ev.calm ⟨_, rfl, rfl, gs_cons (is := [4]) (g_name 4 ev.nd (gs_cons (is := [5]) (g_name 5 ev.nd (gs_nil ⟨rfl, ?_⟩))))⟩
      refine z_cons (z_if (t_not (t_val (e_call c1 ev (by decide) (a_cons (e_var 5 rfl (a_cons (e_var 0 rfl (a_cons (e_var 1 rfl (a_nil ⟨(a.s : Nat), (a.t : Nat), (n : Nat), a.c, z, K69.fr a.q, rfl, by omega, by omega, hcz, fun F2 H2 l2 => ⟨fun h => Bool.noConfusion h, fun _ => ?_⟩⟩)))))))))))
      have hH2 := l2.hh _ _ (fun z => z) hH
      have hF2 := l2.un q hF (some_ne hH)
      have rt2 := rt.mono l2.ff
      refine z_nil (z_cons (z_setTup 6 ev (a_cons (e_ix ev.room (e_var 5 rfl (e_int ⟨_, rfl, a_cons (e_ix ev.room (e_var 5 rfl (e_int ⟨_, rfl, a_cons (e_ix ev.room (e_var 5 rfl (e_int ⟨_, rfl, a_nil ⟨Nat.le_of_ble_eq_true rfl, fun F3 H3 q2 xs l3 hq2 rl => ?_⟩⟩)))⟩)))⟩))))))
      have exs : xs = (aKey a).map kV := by
        rw [RL] at rl
        obtain ⟨x1, xs1, rfl, r1, rl⟩ := rl
        rw [RL] at rl
        obtain ⟨x2, xs2, rfl, r2, rl⟩ := rl
        rw [RL] at rl
        obtain ⟨x3, xs3, rfl, r3, rl⟩ := rl
        rw [RL] at rl
        subst rl
        rw [rInt r1, rStr r2, rInt r3]
        rfl
      subst exs
      have hH3 := l3.hh _ _ (fun z => z) hH2
      have hF3 := l3.un q hF2 (some_ne hH2)
      have rt3 := rt2.mono l3.ff
      have hb3 := l3.ok.fh _ _ hq2
      have fre := rt3.fresh (a := a) fun b hb e => by
        obtain ⟨j, hj⟩ := List.getElem?_of_mem hb
        rw [List.getElem?_take] at hj
        split at hj
        · rename_i hji
          have h1 := List.pairwise_iff_getElem.mp (List.nodup_iff_pairwise_ne.mp hnd) j i (by rw [List.length_map]; omega) (by rw [List.length_map]; omega) hji
          rw [List.getElem_map, List.getElem_map] at h1
          apply h1
          have e1 : as[j] = b := by rw [List.getElem?_eq_getElem (by omega)] at hj; exact Option.some.inj hj
          have e2 : as[i] = a := by rw [List.getElem?_eq_getElem hi] at ha; exact Option.some.inj ha
          rw [e1, e2]; exact e
        · cases hj
      refine z_cons (z_if (t_cmp (c_inT (q := q) (kvs := kvs) ev rfl hH3 (e_var 6 rfl ⟨q2, aKey a, rfl, hb3, e_var 3 rfl ⟨rfl, _, rfl, fun F4 H4 l4 => ⟨fun h => ?_, fun _ => z_nil ?_⟩⟩⟩))))
      · rw [← valV_any, fre] at h; cases h
      have hH4 := l4.hh _ _ (fun z => z) hH3
      have hF4 := l4.un q hF3 (some_ne hH3)
      have rt4 := rt3.mono l4.ff
      have hb4 := l4.hh _ _ (fun z => z) hb3
      have kl : kvs.length = i := by
        have := Paired.length rt4
        rw [List.length_take] at this
        omega
      refine z_cons (z_putT (q := q) (kvs := kvs) ev hH4 hq hF4 (e_var 5 rfl (e_var 3 rfl ⟨rfl, e_var 6 rfl ⟨q2, aKey a, rfl, hb4, by omega, fun F5 H5 v l5 rv => ?_⟩⟩)))
      refine z_un [4, 5, 6] (z_nil ⟨rfl, l5.un q hF4 (some_ne hH4), _, upd_same, ?_⟩)
      have e5 : putK kvs (aKey a) v = kvs ++ [(aKey a, v)] := by
        unfold putK
        rw [fre]
        rfl
      rw [e5]
      have e6 : as.take (i + 1) = as.take i ++ [a] := by
        rw [List.take_add_one, ha]; rfl
      rw [e6]
      exact Paired.snoc (rt4.mono l5.ff) ⟨rfl, rv⟩
end
end K69
set_option Elab.async false
set_option linter.all false
set_option maxRecDepth 100000
set_option maxHeartbeats 4000000
set_option exponentiation.threshold 10000
namespace K69
open PySem PySem.Spec L2 SY
def rowOf (as : List Arw) (c s : Nat) : List (Nat × Rat) := (as.filter fun a => a.c == c && a.s == s).map fun a => (a.t, a.q)
def pairD (x : Nat × Rat) : D := .tup [.int (x.1 : Nat), fr x.2]
def tabD (cs : List Nat) (n : Nat) (as : List Arw) : List (Key × D) := cs.map fun c => (.inr ⟨#[c]⟩, .tup (vec n fun s => mrow (rowOf as c s)))
theorem rowOf_snoc (as : List Arw) (a : Arw) (c s : Nat) : rowOf (as ++ [a]) c s = rowOf as c s ++ if a.c = c ∧ a.s = s then [(a.t, a.q)] else [] := by
  unfold rowOf
  rw [List.filter_append, List.map_append]
  congr 1
  by_cases h : a.c = c ∧ a.s = s
  · rw [if_pos h]; simp [h.1, h.2]
  · rw [if_neg h]
    have : (a.c == c && a.s == s) = false := by
      rw [Bool.eq_false_iff]
      intro z
      rw [Bool.and_eq_true, beq_iff_eq, beq_iff_eq] at z
      exact h z
    simp [this]
theorem tabD_snoc {z : Str} {n i c : Nat} {as : List Arw} (hz : AlOk z) (hc : z.cps.toList[i]? = some c) : dput (tabD (z.cps.toList.take i) n as) (.inr ⟨#[c]⟩) (.tup (vec n fun s => mrow (rowOf as c s))) = tabD (z.cps.toList.take (i + 1)) n as := by
  have hf : ((tabD (z.cps.toList.take i) n as).any fun kv => decide (kv.1 = (.inr ⟨#[c]⟩ : Key))) = false := by
    rw [List.any_eq_false]
    intro kv hk e
    have e := of_decide_eq_true e
    unfold tabD at hk
    obtain ⟨b, hb, rfl⟩ := List.mem_map.mp hk
    have e2 : b = c := by
      have := congrArg (fun x : Str => x.cps.toList) (Sum.inr.inj e)
      simpa using this
    subst e2
    obtain ⟨j, hj⟩ := List.getElem?_of_mem hb
    rw [List.getElem?_take] at hj
    split at hj
    · rename_i hji
      obtain ⟨hi, ei⟩ := List.getElem?_eq_some_iff.mp hc
      obtain ⟨hj1, ej⟩ := List.getElem?_eq_some_iff.mp hj
      have := List.pairwise_iff_getElem.mp hz.2.2.2 j i hj1 hi hji
      omega
    · cases hj
  unfold dput
  rw [hf]
  rw [if_neg (by decide)]
  unfold tabD
  rw [List.take_add_one, hc, List.map_append]
  rfl
section
variable {P : Program} {w : World} {K : PySem.W.Frag} {mg : Str → Option Value} {base : Heap}
def S_table : S0 := fun ds Q => ∃ (z : Str) (n : Nat) (as : List Arw), ds = [.str z, .int (n : Nat), .tup (as.map arD)] ∧ AlOk z ∧ n ≤ 100 ∧ as.length ≤ 50000 ∧ (∀ a ∈ as, a.s < n) ∧ Q (.dic (tabD z.cps.toList n as))
theorem ok_table (fr : Free mg) (D0 : DefOk K mg "arrow_table" (top 26) []) : FnS P w K mg base 1 "arrow_table" (spP K S_table) := by
  refine mkFnW (N := ["letters", "size", "arrows", "table", "letter", "rows", "s", "read", "t", "weight", "state", "row"]) (ps := ["letters", "size", "arrows"]) D0 (C8.fnScope_by (by decide +kernel)) ?_ fr (fun _ _ _ _ _ _ us hl => match us, hl with | [_, _, _], _ => rfl) ?_
  · rintro _ ds Q ⟨_, _, _, rfl, _⟩; rfl
  · rintro f cdv Ar outer s HH E ev hp _ ds Q FF ⟨z, n, as, rfl, hz, hn, hlen, hs, kk⟩
    refine z_enter rfl rfl (Q := Q) (fun F0 H0 => ?_) (fun _ _ q => q)
    refine z_cons (z_newK 3 ev fun q hq fq => ?_)
    have h5 := hz.2.1
    have some_ne : ∀ {q : Addr} {H : Hp} {o : HO}, H q = some o → H q ≠ none := fun e z => by rw [e] at z; cases z
    let fixed : List AV := [.sh (.str z), .sh (.int (n : Nat)), .sh (.tup (as.map arD)), .sh (.ref q)]
    refine z_cons (z_for [4] hp ev (i_val (e_var 0 rfl ⟨_, rfl, fun F1 H1 l1 => ⟨fun i e F H => e = fixed ++ [.un, .un, .un, .un, .un, .un, .un, .un] ∧ F q = none ∧ ∃ kvs, H q = some (.dK kvs) ∧ RD K F (tabD (z.cps.toList.take i) n as) kvs, ⟨rfl, l1.un q fq (some_ne upd_same), [], l1.hh _ _ (fun z => z) upd_same, ?_⟩, ?_, ?_, ?_⟩⟩)))
    · unfold tabD; rw [List.take_zero, List.map_nil, RD]
    · rintro i e F' H' F'' H'' l2 ⟨e1, e2, kvs, e3, e4⟩
      exact ⟨e1, l2.un q e2 (some_ne e3), kvs, l2.hh _ _ (fun z => z) e3, RD.mono l2.ff _ _ e4⟩
    · rintro e F H ⟨rfl, hF, kvs, hH, rd⟩
      rw [List.length_map, List.take_length] at rd
      exact z_cons (z_retD 3 rfl hH hq hF rd kk)
    · rintro i d e F H hd ⟨rfl, hF, kvs, hH, rd⟩
      rw [List.getElem?_map] at hd
      obtain ⟨c, hc, rfl⟩ := Option.map_eq_some_iff.mp hd
      have hi : i < z.cps.toList.length := (List.getElem?_eq_some_iff.mp hc).1
      refine g_name 4 ev.nd ⟨rfl, ?_⟩
      refine z_cons (z_rows 5 (own := [("state", 10)]) [10] ev ?_ (by decide) rfl (fun d s H1 C cl fp => g_name 10 ev.nd trivial) (fun env2 s H1 C cl fp => o_lst (a_nil ⟨Nat.le_of_ble_eq_true rfl, rfl⟩)) (i_rng fr (e_var 1 rfl ⟨(n : Nat), rfl, by omega, by omega, by rw [rng_len]; omega, fun F2 H2 ps l2 hpl hnd hps => ?_⟩)))
      · show blkC ["letters", "size", "arrows", "table", "letter", "rows", "s", "read", "t", "weight", "state", "row"] (defScope (top 26)) _ _ = true
        decide +kernel
      rw [rng_len] at hpl
      have hH2 := l2.hh _ _ (fun z => z) hH
      have hF2 := l2.un q hF (some_ne hH)
      have rd2 := RD.mono l2.ff _ _ rd
      let fix2 : List AV := fixed ++ [.sh (.str ⟨#[c]⟩), .sh (.lst (ps.map D.ref))]
      let Inn : Nat → AE → Hp → Hp → Prop := fun k e F H => e = fix2 ++ [.un, .un, .un, .un, .un, .un] ∧ F q = none ∧ H q = some (.dK kvs) ∧ RD K F (tabD (z.cps.toList.take i) n as) kvs ∧
        ∀ s, s < n → ∃ p xs, ps[s]? = some p ∧ F p = none ∧ H p = some (.lst xs) ∧ RL K F ((rowOf (as.take k) c s).map pairD) xs
      refine z_cons (z_for [6, 7, 8, 9] hp ev (i_val (e_var 2 rfl ⟨_, rfl, fun F3 H3 l3 => ⟨Inn, ?_, ?_, ?_, ?_⟩⟩)))
      · refine ⟨rfl, l3.un q hF2 (some_ne hH2), l3.hh _ _ (fun z => z) hH2, RD.mono l3.ff _ _ rd2, fun s hs => ?_⟩
        have hsl : s < ps.length := by omega
        obtain ⟨g1, g2, g3⟩ := hps _ (List.getElem_mem hsl)
        exact ⟨ps[s], [], List.getElem?_eq_getElem hsl, l3.un _ g2 (some_ne g3), l3.hh _ _ (fun z => z) g3, RL.nil⟩
      · rintro k e F' H' F'' H'' l4 ⟨e1, e2, e3, e4, e5⟩
        refine ⟨e1, l4.un q e2 (some_ne e3), l4.hh _ _ (fun z => z) e3, RD.mono l4.ff _ _ e4, fun s hs => ?_⟩
        obtain ⟨p, xs, g1, g2, g3, g4⟩ := e5 s hs
        exact ⟨p, xs, g1, l4.un _ g2 (some_ne g3), l4.hh _ _ (fun z => z) g3, RL.mono l4.ff _ _ g4⟩
      · rintro e F H ⟨rfl, hF, hH, rd, hr⟩
        rw [List.length_map, List.take_length] at hr
        refine z_cons (z_putK (q := q) (kvs := kvs) ev hH hq hF (e_tuple fr (e_own (o_lc (own := [("row", 11)]) [11] ev.calm ev.nd ?_ (by decide) (lc_map (i_val (e_var 5 rfl ⟨_, rfl, ?_, (vec n fun s => mrow (rowOf as c s)), ?_, ?_, fun s d hd y hy => ?_⟩)))))))
        · show blkC ["letters", "size", "arrows", "table", "letter", "rows", "s", "read", "t", "weight", "state", "row"] (defScope (top 26)) _ _ = true
          decide +kernel
        · rw [List.length_map]; omega
        · rw [List.length_map, vec_len]; omega
        · refine e_var 3 rfl ⟨rfl, e_var 4 rfl ⟨_, rfl, ?_, fun F' H' v l rv => ?_⟩⟩
          · rw [rd.length]; unfold tabD; rw [List.length_map, List.length_take]; omega
          · refine z_un [4, 5] (z_nil ⟨rfl, l.un q hF (some_ne hH), _, upd_same, ?_⟩)
            rw [← tabD_snoc hz hc]
            exact RD.put (RD.mono l.ff _ _ rd) rv
        · rw [List.getElem?_map] at hd
          obtain ⟨p, hp1, rfl⟩ := Option.map_eq_some_iff.mp hd
          obtain ⟨hs, rfl⟩ := vec_get hy
          obtain ⟨p', xs, g1, g2, g3, g4⟩ := hr s hs
          rw [hp1] at g1
          cases g1
          intro s1 H1 C cl fp
          refine g_name 11 ev.nd ?_
          intro s1 H1 C cl fp
          exact e_tupleP (by exact fr) rfl (e_var 11 rfl ⟨p, xs, _, rfl, g3, g4, rfl⟩)
      · rintro k d e F H hd ⟨rfl, hF, hH, rd, hr⟩
        obtain ⟨a, ha, rfl⟩ := ar_get hd
        have hkl : k < as.length := (List.getElem?_eq_some_iff.mp ha).1
        have e6 : as.take (k + 1) = as.take k ++ [a] := by
          rw [List.take_add_one, ha]; rfl
        have has := hs a (List.mem_of_getElem? ha)
        refine g_tup ev.calm ⟨_, rfl, rfl, gs_cons (is := [6]) (g_name 6 ev.nd (gs_cons (is := [7]) (g_name 7 ev.nd (gs_cons (is := [8]) (g_name 8 ev.nd (gs_cons (is := [9]) (g_name 9 ev.nd (gs_nil ⟨rfl, ?_⟩))))))))⟩
        refine z_cons (z_if (t_cmp (c_eq ev.room (e_var 7 rfl (e_var 4 rfl ⟨_, rfl, fun F4 H4 l4 => ⟨fun h => ?_, fun h => ?_⟩⟩)))))
        · have hac : a.c = c := by
            have h := of_decide_eq_true h
            have := congrArg (fun x : Str => x.cps.toList) h
            simpa using this
          have hH4 := l4.hh _ _ (fun z => z) hH
          have hF4 := l4.un q hF (some_ne hH)
          have rd4 := RD.mono l4.ff _ _ rd
          obtain ⟨p, xs, g1, g2, g3, g4⟩ := hr a.s has
          have g2' := l4.un _ g2 (some_ne g3)
          have g3' := l4.hh _ _ (fun z => z) g3
          have g4' := RL.mono l4.ff _ _ g4
          have h0p := (hps p (List.mem_of_getElem? g1)).1
          have hxl : xs.length < 100000 := by
            rw [g4.length, List.length_map]
            have h1 : (rowOf (as.take k) c a.s).length ≤ (as.take k).length := by
              unfold rowOf; rw [List.length_map]; exact List.length_filter_le _ _
            rw [List.length_take] at h1
            omega
          have hpq : p ≠ q := fun z => by rw [z, hH] at g3; cases g3
          have hps1 : (ps.map D.ref)[a.s]? = some (.ref p) := by rw [List.getElem?_map, g1]; rfl
          refine z_cons (z_app (e_ix ev.room (e_var 5 rfl (e_var 6 rfl ⟨_, atI_nat hps1, p, xs, rfl, g3', h0p, g2', hxl, e_tup (a_cons (e_var 8 rfl (a_cons (e_var 9 rfl (a_nil ⟨Nat.le_of_ble_eq_true rfl, fun F5 H5 v l5 rv => ?_⟩)))))⟩))))
          refine z_nil (z_un [6, 7, 8, 9] (z_nil ⟨rfl, l5.un q hF4 (some_ne hH4), ?_, RD.mono l5.ff _ _ rd4, fun s hs => ?_⟩))
          · rw [upd_ne (Ne.symm hpq)]; exact l5.hh _ _ (fun z => z) hH4
          · by_cases hsa : s = a.s
            · subst hsa
              refine ⟨p, xs ++ [v], g1, l5.un _ g2' (some_ne g3'), upd_same, ?_⟩
              rw [e6, rowOf_snoc, if_pos ⟨hac, rfl⟩, List.map_append]
              exact (RL.mono l5.ff _ _ g4').append (RL.cons rv RL.nil)
            · obtain ⟨p2, xs2, k1, k2, k3, k4⟩ := hr s hs
              have hp2 : p2 ≠ p := fun z => by
                subst z
                have i1 := List.getElem?_eq_some_iff.mp k1
                have i2 := List.getElem?_eq_some_iff.mp g1
                rcases Nat.lt_or_gt_of_ne hsa with hlt | hlt
                · exact List.pairwise_iff_getElem.mp (List.nodup_iff_pairwise_ne.mp hnd) s a.s i1.1 i2.1 hlt (i1.2.trans i2.2.symm)
                · exact List.pairwise_iff_getElem.mp (List.nodup_iff_pairwise_ne.mp hnd) a.s s i2.1 i1.1 hlt (i2.2.trans i1.2.symm)
              have l45 := l4.trans l5
              refine ⟨p2, xs2, k1, l45.un _ k2 (some_ne k3), ?_, ?_⟩
              · rw [upd_ne hp2]; exact l45.hh _ _ (fun z => z) k3
              · rw [e6, rowOf_snoc, if_neg (fun z => hsa z.2.symm), List.append_nil]
                exact RL.mono l45.ff _ _ k4
        · have hac : a.c ≠ c := fun e => by
            rw [e] at h
            simp at h
          refine z_nil (z_un [6, 7, 8, 9] (z_nil ⟨rfl, l4.un q hF (some_ne hH), l4.hh _ _ (fun z => z) hH, RD.mono l4.ff _ _ rd, fun s hs => ?_⟩))
          obtain ⟨p, xs, g1, g2, g3, g4⟩ := hr s hs
          refine ⟨p, xs, g1, l4.un _ g2 (some_ne g3), l4.hh _ _ (fun z => z) g3, ?_⟩
          rw [e6, rowOf_snoc, if_neg (fun z => hac z.1), List.append_nil]
          exact RL.mono l4.ff _ _ g4
end
end K69
set_option Elab.async false
set_option linter.all false
set_option maxRecDepth 100000
set_option maxHeartbeats 4000000
set_option exponentiation.threshold 10000
namespace SY
open PySem PySem.Spec L2
section
variable {X : Cx} {B : Bs} {env : AE} {pos : Pos} {Q : D → Prop}
theorem e_dnew (q : Q (.dic [])) : qE X B env (.Dict [] [] pos) Q := fun σ F H rp Qv k =>
  ⟨_, pe_dnewK, fun p hp => by
    have l := Le.new (o := .dK []) rp.ok hp
    exact k _ _ _ (.dic []) l (mkDic upd_same (by rw [RD])) q⟩
end
end SY
namespace K69
open PySem PySem.Spec L2 SY
def devL (z : Str) (n : Nat) (st en : Nat → Rat) (as : List Arw) : List (Str × D) := [("letters", .str z), ("start", .tup (frs (vec n st))), ("end", .tup (frs (vec n en))), ("_given", .tup (as.map arD)), ("arrows", .tup (as.map arD)), ("_table", .dic [])]
def S_dev : I0 := fun l ds Q => ∃ (z : Str) (n : Nat) (st en : Nat → Rat) (as : List Arw) (asD : D) (k : Int), l = [] ∧ ds = [.str z, .tup (frs (vec n st)), asD, .tup (frs (vec n en)), .int k] ∧ (asD = .lst (as.map arD) ∨ asD = .tup (as.map arD)) ∧
  AlOk z ∧ 1 ≤ n ∧ n ≤ 100 ∧ (n : Int) ≤ k ∧ (∀ a ∈ as, a.s < n ∧ a.t < n ∧ a.c ∈ z.cps.toList) ∧ (as.map fun a => (a.s, a.c, a.t)).Nodup ∧ as.length ≤ 50000 ∧ ∀ as' : List Arw, as'.Perm as → Q (devL z n st en as')
section
variable {P : Program} {w : World} {K : PySem.W.Frag} {mg : Str → Option Value} {base : Heap} {C : Addr}
theorem ok_dev (fr : Free mg) (mc : MC K C) (D0 : IniDef K mg "Device" "Device.__init__" (inCls (top 28) 1) [.int 24]) (c1 : FnS P w K mg base 1 "is_alphabet" (spP K S_alpha)) (c2 : FnS P w K mg base 1 "check_size" (spP K S_size)) (c3 : FnS P w K mg base 3 "ordered_arrows" (spP K S_ord)) : Ini P w K mg base 4 "Device" C S_dev := by
  refine mkIni (N := ["self", "letters", "start", "arrows", "end", "most"]) (s1 := "self") (ps := ["letters", "start", "arrows", "end", "most"]) D0 (by decide) (C8.fnScope_by (by decide +kernel)) ?_ fr ?_ ?_
  · rintro l ds Q ⟨_, _, _, _, _, _, _, _, rfl, _⟩; rfl
  · intro T kV doc pm an cdv ct us its hl hl2
    match us, hl, its, hl2 with
    | [_, _, _, _, _, _], _, [_], _ => exact ⟨_, rfl, rfl⟩
  · rintro f cdv Ar outer s H0 E ev hp q l ds Q B hB ⟨z, n, st, en, as, asD, k, rfl, rfl, hasD, hz, n1, n2, hk, hok, hnd, hlen, kk⟩
    have hn : (frs (vec n st)).length = n := frs_vec_len _ _
    have hn2 : (frs (vec n en)).length = n := frs_vec_len _ _
    refine s_cons (s_if (t_not (t_val (e_call c1 ev (by decide) (a_cons (e_var 1 rfl (a_nil ⟨z, rfl, hz, fun h => Bool.noConfusion h, fun _ => ?_⟩)))))))
    refine s_nil (s_cons (s_expr (e_call c2 ev (by decide) (a_cons (e_len fr (e_var 2 rfl (a_cons (e_var 5 rfl (a_nil ⟨_, k, rfl, by rw [hn]; exact hk, ?_⟩)))))))))
    refine s_cons (s_if (t_cmp (c_ne ev.room (e_len fr (e_var 4 rfl (e_len fr (e_var 2 rfl ⟨_, rfl, fun h => ?_, fun _ => ?_⟩)))))))
    · rw [hn, hn2] at h
      simp at h
    refine s_nil (s_cons (s_fset 0 hB rfl mc.cls mc.letters (e_var 1 rfl ⟨by decide, ?_⟩)))
    refine s_cons (s_fset 0 hB rfl mc.cls mc.start (e_tuple fr (e_var 2 rfl ⟨Nat.le_of_ble_eq_true rfl, ?_⟩)))
    refine s_cons (s_fset 0 hB rfl mc.cls mc.fin (e_tuple fr (e_var 4 rfl ⟨Nat.le_of_ble_eq_true rfl, ?_⟩)))
    refine s_cons (s_fset 0 hB rfl mc.cls mc.given (e_call c3 ev (by decide) (a_cons (e_var 1 rfl (a_cons (e_len fr (e_var 2 rfl (a_cons (e_var 3 rfl (a_nil ⟨z, n, as, asD, by rw [hn], hasD, hok, hnd, hlen, fun as' hp => ⟨Nat.le_of_ble_eq_true rfl, ?_⟩⟩))))))))))
    refine s_cons (s_fset 0 hB rfl mc.cls mc.arrows (e_oiFld 0 rfl mc.cls mc.given (by rfl) ⟨Nat.le_of_ble_eq_true rfl, ?_⟩))
    refine s_cons (s_fset 0 hB rfl mc.cls mc.table (e_dnew ⟨Nat.le_of_ble_eq_true rfl, ?_⟩))
    exact s_nil ⟨_, rfl, kk as' hp⟩
end
end K69
set_option Elab.async false
set_option linter.all false
set_option maxRecDepth 100000
set_option maxHeartbeats 4000000
set_option exponentiation.threshold 10000
namespace SY
open PySem PySem.Spec L2
section
variable {Pr : Program} {w : World} {K : PySem.W.Frag} {mg : Str → Option Value} {base : Heap} {x y qual : Str} {N ps : List Str} {k m : Nat} {C : Addr} {s1 : Str} {st : Stmt} {kws : List (Str × V)}
/-- made with one keyword; the def has that keyword-only parameter and no other default -/
theorem mkMkrK {S : I0} (D0 : MkDef K mg x qual st kws C) (hk : kws ≠ []) (sc : FnScope N (s1 :: ps) (defScope st)) (ar : ∀ l ds Q, S l ds Q → ds.length = ps.length) (fr : Free mg)
    (hb : ∀ (D : Addr) (doc pm : Value) (an : Option Addr) (cdv ct : Value) (us ws : List Value), us.length = m + 1 → ws.length = 1 →
      bindArgs (PySem.W.fnOf "__init__" qual (defArgs st) (defBody st) (defScope st) .none (.ref D) doc pm an cdv ct) ⟨us, [y].zip ws⟩ = pure ((s1 :: ps).zip (us ++ ws)))
    (hbody : ∀ (f : Addr) (cdv : Value) (A : Around) (outer : List Env) (s : Shared) (H0 : Hp) (E : XK), Ev (cxOf (L2.CX Pr w) Pr w K mg base N qual (defScope st) f cdv A outer s H0 E) k → PassesOwn (model Pr w) (cxOf (L2.CX Pr w) Pr w K mg base N qual (defScope st) f cdv A outer s H0 E).A (cxOf (L2.CX Pr w) Pr w K mg base N qual (defScope st) f cdv A outer s H0 E).env (cxOf (L2.CX Pr w) Pr w K mg base N qual (defScope st) f cdv A outer s H0 E).xe →
      ∀ (q : Addr) (l : List (Str × D)) (ds : List D) (Q : List (Str × D) → Prop) (B : Bs), B.W = W0 → S l ds Q → qS (cxOf (L2.CX Pr w) Pr w K mg base N qual (defScope st) f cdv A outer s H0 E) B noX (.oi (some q) C l :: env0 (N.length - 1) ds) (defBody st)
        { nx := fun env => ∃ l', env[0]? = some (.oi (some q) C l') ∧ Q l', rt := fun _ _ => False }) : MkrK Pr w K mg base (k + 1) m x y C S := by
  obtain ⟨f, fd, M, F, hm⟩ := D0
  obtain ⟨mv, kb⟩ := F.kbinds0 (ps := s1 :: ps) (m + 1) [y] [] (fun us _ ws => us ++ ws) hk (fun _ z => by cases z) (fun r1 _ r2 => r1.append r2) fun D doc pm an cdv ct us mv ws l1 l2 l3 => by
    show bindArgs _ _ = pure _
    exact hb D doc pm an cdv ct us ws l1 l3
  exact ⟨⟨f, fd, s1 :: ps, M, fnOk_I F sc ar fr (hbody f), hm, kb⟩⟩
end
end SY
namespace K69
open PySem PySem.Spec L2 SY
/-- the arrows that are kept -/
def kept (as : List Arw) : List Arw := as.filter fun a => a.q.num != 0
theorem nodup_lt : ∀ (n : Nat) {l : List Nat}, l.Nodup → (∀ x ∈ l, x < n) → l.length ≤ n
  | 0, l, _, h => by
    cases l with
    | nil => exact Nat.le_refl _
    | cons x l => exact absurd (h x List.mem_cons_self) (Nat.not_lt_zero _)
  | n + 1, l, nd, h => by
    have h1 := nodup_lt n (l := l.erase n) (nd.erase n) fun x hx => by
      have h2 := (List.Nodup.mem_erase_iff nd).mp hx
      have h3 := h x h2.2
      omega
    rw [List.length_erase] at h1
    split at h1 <;> omega
theorem kept_sum (p : Arw → Bool) : ∀ l : List Arw, sumQ (((kept l).filter p).map (·.q)) = sumQ ((l.filter p).map (·.q))
  | [] => rfl
  | a :: l => by
    have ih := kept_sum p l
    unfold kept at ih ⊢
    by_cases h : (a.q.num != 0) = true
    · rw [List.filter_cons, if_pos h]
      by_cases hp : p a = true
      · rw [List.filter_cons, if_pos hp, List.filter_cons, if_pos hp, List.map_cons, List.map_cons, show ∀ (x : Rat) t, x :: t = [x] ++ t from fun _ _ => rfl, sumQ_append, ih, ← sumQ_append]; rfl
      · rw [List.filter_cons, if_neg hp, List.filter_cons, if_neg hp, ih]
    · rw [List.filter_cons, if_neg h, ih]
      by_cases hp : p a = true
      · have hz : a.q = 0 := num_zero (by simpa using h)
        rw [List.filter_cons, if_pos hp, List.map_cons, show a.q :: (l.filter p).map (·.q) = [a.q] ++ (l.filter p).map (·.q) from rfl, sumQ_append, hz, sumQ_one, Rat.zero_add]
      · rw [List.filter_cons, if_neg hp]
theorem asOk_kept {z : Str} {n m B : Nat} {W : Nat → Nat → Nat → Rat} {as as' : List Arw} (hA : AsOk z n m B W as) (hp : as'.Perm as) : AsOk z n m B W (kept as') := by
  have sub : (kept as').Sublist as' := List.filter_sublist
  refine ⟨fun a ha => hA.ok a (hp.mem_iff.mp (sub.subset ha)), ?_, ?_, fun c hc s hs t ht => ?_⟩
  · exact ((hp.map fun a => (a.s, a.c, a.t)).nodup_iff.mpr hA.nd).sublist (sub.map _)
  · exact Nat.le_trans sub.length_le (by rw [hp.length_eq]; exact hA.len)
  · rw [kept_sum, ← hA.w c hc s hs t ht]
    exact sumQ_perm ((hp.filter _).map _)
theorem rowOk_of {z : Str} {n m B c s : Nat} {W : Nat → Nat → Nat → Rat} {as : List Arw} (hA : AsOk z n m B W as) (hc : c ∈ z.cps.toList) (hs : s < n) : RowOk n m B (W c s) (rowOf as c s) := by
  have mem : ∀ x ∈ rowOf as c s, ∃ a ∈ as, x = (a.t, a.q) := fun x hx => by
    unfold rowOf at hx
    obtain ⟨a, ha, rfl⟩ := List.mem_map.mp hx
    exact ⟨a, (List.mem_filter.mp ha).1, rfl⟩
  refine ⟨?_, fun x hx => ?_, fun x hx => ?_, fun t ht => ?_⟩
  · have nd : ((as.filter fun a => a.c == c && a.s == s).map (·.t)).Nodup := by
      have h1 : ((as.filter fun a => a.c == c && a.s == s).map fun a => (a.s, a.c, a.t)).Nodup := hA.nd.sublist (List.Sublist.map _ List.filter_sublist)
      rw [List.nodup_iff_pairwise_ne, List.pairwise_map] at h1 ⊢
      refine List.Pairwise.imp_of_mem ?_ h1
      intro a b ha hb hne e
      have h2 := (List.mem_filter.mp ha).2
      have h3 := (List.mem_filter.mp hb).2
      rw [Bool.and_eq_true, beq_iff_eq, beq_iff_eq] at h2 h3
      exact hne (by rw [h2.1, h2.2, h3.1, h3.2, e])
    have h4 := nodup_lt n nd fun x hx => by
      obtain ⟨a, ha, rfl⟩ := List.mem_map.mp hx
      exact (hA.ok a (List.mem_filter.mp ha).1).2.1
    unfold rowOf
    rw [List.length_map] at h4 ⊢
    exact h4
  · obtain ⟨a, ha, rfl⟩ := mem x hx
    exact (hA.ok a ha).2.1
  · obtain ⟨a, ha, rfl⟩ := mem x hx
    exact (hA.ok a ha).2.2.2
  · rw [← hA.w c hc s hs t ht]
    unfold pick rowOf
    rw [List.filter_map, List.map_map, List.filter_filter]
    congr 1
    have e : (as.filter fun a => ((fun x : Nat × Rat => x.1 == t) ∘ fun a : Arw => (a.t, a.q)) a && (a.c == c && a.s == s)) = as.filter fun a => a.c == c && a.s == s && a.t == t := by
      congr 1
      funext a
      exact Bool.and_comm _ _
    rw [e]
    rfl
theorem dget_tab {n : Nat} {as : List Arw} {c : Nat} : ∀ {cs : List Nat}, c ∈ cs → dget (tabD cs n as) (.inr ⟨#[c]⟩) = some (.tup (vec n fun s => mrow (rowOf as c s)))
  | b :: cs, h => by
    by_cases e : b = c
    · subst e; exact dg_here
    · have h2 : c ∈ cs := by
        rcases List.mem_cons.mp h with z | z
        · exact absurd z.symm e
        · exact z
      have ih := dget_tab (n := n) (as := as) h2
      have ne : ¬ (Sum.inr (⟨#[b]⟩ : Str) : Key) = .inr ⟨#[c]⟩ := fun z => e (by
        have := congrArg (fun x : Str => x.cps.toList) (Sum.inr.inj z)
        simpa using this)
      exact (dg_past ne).trans ih
section
variable {P : Program} {w : World} {K : PySem.W.Frag} {mg : Str → Option Value} {base : Heap} {C : Addr}
theorem mach_of {z : Str} {n m B : Nat} {st en : Nat → Rat} {W : Nat → Nat → Nat → Rat} {as as' : List Arw} {gv : D} (hz : AlOk z) (hA : AsOk z n m B W as) (hp : as'.Perm as) :
    IsMach C z n m B st en W (.ins C [("letters", .str z), ("start", .tup (frs (vec n st))), ("end", .tup (frs (vec n en))), ("_given", gv), ("arrows", .tup ((kept as').map arD)), ("_table", .dic (tabD z.cps.toList n (kept as')))]) :=
  ⟨gv, kept as', _, rfl, asOk_kept hA hp, fun c hc => ⟨fun s => rowOf (kept as') c s, dget_tab hc, fun s hs => rowOk_of (asOk_kept hA hp) hc hs⟩⟩
theorem ok_mach (fr : Free mg) (mc : MC K C) (D0 : MkDef K mg "Machine" "Machine.__init__" (inCls (top 42) 1) [("most", .int 24)] C) (c1 : Ini P w K mg base 4 "Device" C S_dev) (c2 : FnS P w K mg base 3 "check_fractions" (spP K S_checkfr)) (c3 : FnS P w K mg base 1 "arrow_table" (spP K S_table)) : MkrK P w K mg base 9 4 "Machine" "most" C (S_mach C) := by
  refine mkMkrK (N := ["self", "letters", "start", "arrows", "end", "most", "arrow"]) (s1 := "self") (ps := ["letters", "start", "arrows", "end", "most"]) D0 (by decide) (C8.fnScope_by (by decide +kernel)) ?_ fr ?_ ?_
  · rintro l ds Q ⟨_, _, _, _, _, _, _, _, _, _, _, rfl, _⟩; rfl
  · intro D doc pm an cdv ct us ws l1 l2
    match us, l1, ws, l2 with
    | [_, _, _, _, _], _, [_], _ => rfl
  · rintro f cdv Ar outer s H0 E ev hp q l ds Q B hB ⟨z, n, m, B0, st, en, W, as, asD, k, rfl, rfl, hasD, hz, n1, n2, hk, hA, kk⟩
    refine s_cons (s_init 0 c1 ev (by decide) hB rfl (a_cons (e_var 1 rfl (a_cons (e_var 2 rfl (a_cons (e_var 3 rfl (a_cons (e_var 4 rfl (a_cons (e_var 5 rfl (a_nil ⟨z, n, st, en, as, asD, k, rfl, rfl, hasD, hz, n1, n2, hk, fun a ha => ⟨(hA.ok a ha).1, (hA.ok a ha).2.1, (hA.ok a ha).2.2.1⟩, hA.nd, hA.len, fun as' hp => ?_⟩))))))))))))
    have hl' : as'.length ≤ 50000 := by rw [hp.length_eq]; exact hA.len
    refine s_cons (s_expr (e_call c2 ev (by decide) (a_cons (e_oiFld 0 rfl mc.cls mc.start (by rfl) (a_cons (e_oiFld 0 rfl mc.cls mc.given (by rfl) (a_cons (e_oiFld 0 rfl mc.cls mc.fin (by rfl) (a_nil ⟨vec n st, vec n en, as', rfl, by rw [vec_len]; omega, by rw [vec_len]; omega, hl', ?_⟩)))))))))
    refine s_cons (s_fset 0 hB rfl mc.cls mc.arrows (e_tuple fr (e_own (o_lc (own := [("arrow", 6)]) [6] ev.calm ev.nd ?_ (by decide) (lc_fmap (fun d => match d with | .tup [_, _, _, .tup [.int i, _]] => i != 0 | _ => false) (fun d => d) (i_val (e_oiFld 0 rfl mc.cls mc.given (by rfl) ⟨_, rfl, by rw [List.length_map]; omega, ?_, fun i d hd => ?_⟩)))))))
    · show blkC ["self", "letters", "start", "arrows", "end", "most", "arrow"] (defScope (inCls (top 42) 1)) _ _ = true
      decide +kernel
    · have ek : ∀ (l : List Arw), ((l.map arD).filter (fun d => match d with | .tup [_, _, _, .tup [.int i, _]] => i != 0 | _ => false)).map (fun d => d) = (kept l).map arD := fun l => by
        induction l with
        | nil => rfl
        | cons a l ih =>
          unfold kept at ih ⊢
          rw [List.map_cons, List.filter_cons, List.filter_cons]
          show (if (a.q.num != 0) = true then _ else _ : List D).map _ = _
          by_cases h : (a.q.num != 0) = true
          · rw [if_pos h, if_pos h, List.map_cons, List.map_cons, ih]
          · rw [if_neg h, if_neg h, ih]
      rw [ek]
      refine ⟨Nat.le_of_ble_eq_true rfl, ?_⟩
      have hkl : (kept as').length ≤ 50000 := Nat.le_trans (List.length_filter_le _ _) hl'
      refine s_cons (s_fset 0 hB rfl mc.cls mc.table (e_call c3 ev (by decide) (a_cons (e_var 1 rfl (a_cons (e_len fr (e_oiFld (d := .tup (frs (vec n st))) 0 rfl mc.cls mc.start (by rfl) ?_)))))))
      refine a_cons (e_oiFld 0 rfl mc.cls mc.arrows (by rfl) (a_nil ⟨z, n, kept as', by rw [frs_vec_len], hz, n2, hkl, fun a ha => (hA.ok a (hp.mem_iff.mp (List.mem_filter.mp ha).1)).1, Nat.le_of_ble_eq_true rfl, ?_⟩))
      exact s_nil ⟨_, rfl, kk _ (mach_of hz hA hp)⟩
    · obtain ⟨a, ha, rfl⟩ := ar_get hd
      intro s H C cl fp
      refine g_name 6 ev.nd ?_
      intro s H C cl fp
      refine t_val (e_p0 (n := 8) ⟨ev.nd, ev.calm, ev.room, ev.free⟩ (e_ix (n := 8) ev.room (e_var 6 rfl (e_int ⟨_, rfl, a.q, rfl, rfl, fun _ => ?_⟩))))
      intro s H C cl fp
      exact e_var 6 rfl rfl
end
end K69
set_option Elab.async false
set_option linter.all false
set_option maxRecDepth 100000
set_option maxHeartbeats 4000000
set_option exponentiation.threshold 10000
namespace K69
open PySem PySem.Spec L2 SY
section
variable {P : Program} {w : World} {K : PySem.W.Frag} {mg : Str → Option Value} {base : Heap}
def S_isrow : S0 := fun ds Q => ∃ (n : Nat) (f g : Nat → Rat), ds = [.tup (frs (vec n f)), .lst (frs (vec n g))] ∧ n ≤ 1000 ∧ (∀ i, i < n → f i = g i) ∧ Q (.bl true)
theorem ok_isrow (fr : Free mg) (D0 : DefOk K mg "_law_is_row" (top 81) []) : FnS P w K mg base 1 "_law_is_row" (spP K S_isrow) := by
  refine mkFnW (N := ["row", "due", "k", "part"]) (ps := ["row", "due"]) D0 (C8.fnScope_by (by decide +kernel)) ?_ fr (fun _ _ _ _ _ _ us hl => match us, hl with | [_, _], _ => rfl) ?_
  · rintro _ ds Q ⟨_, _, _, rfl, _⟩; rfl
  · rintro f0 cdv Ar outer s H0 E ev hp _ ds Q F ⟨n, f, g, rfl, hn, hfg, kk⟩
    refine s_cons (s_if (t_bool (w_or (t_not (t_val (e_isT fr (e_var 0 rfl ⟨_, _, rfl, k_tt, fun h => Bool.noConfusion h, fun _ => ?_⟩)))))))
    refine w_or1 (t_cmp (c_ne ev.room (e_len fr (e_var 0 rfl (e_len fr (e_var 1 rfl ⟨_, rfl, fun h => ?_, fun _ => ?_⟩))))))
    · rw [frs_vec_len, frs_vec_len] at h
      simp at h
    refine s_nil (s_cons (s_for [2] hp ev (i_rng fr (e_len fr (e_var 1 rfl ⟨(n : Nat), by rw [frs_vec_len], by omega, by omega, fun i e => ∃ v2 v3, e = [.sh (.tup (frs (vec n f))), .sh (.lst (frs (vec n g))), v2, v3], ⟨.un, .un, rfl⟩, fun e ⟨_, _, he⟩ => ?_, ?_⟩)))))
    · subst he
      exact s_cons (s_ret (e_bl kk))
    rintro i d e hd ⟨v2, v3, rfl⟩
    obtain ⟨hi, rfl⟩ := rng_get hd
    refine g_name 2 ev.nd ?_
    refine s_cons (s_if (t_bool (w_or (t_not (t_val (e_isT fr (e_ix ev.room (e_var 0 rfl (e_var 2 rfl ⟨_, atI_nat (frs_vec_at hi), _, _, rfl, k_tt, fun h => Bool.noConfusion h, fun _ => ?_⟩)))))))))
    refine w_or (t_cmp (c_ne ev.room (e_len fr (e_ix ev.room (e_var 0 rfl (e_var 2 rfl ⟨_, atI_nat (frs_vec_at hi), e_int ⟨_, rfl, fun h => Bool.noConfusion h, fun _ => ?_⟩⟩))))))
    refine w_or1 (t_cmp (c_ne ev.room (e_ix ev.room (e_var 0 rfl (e_var 2 rfl ⟨_, atI_nat (frs_vec_at hi), e_ix ev.room (e_var 1 rfl (e_var 2 rfl ⟨_, atI_nat (frs_vec_at hi), eq_fr ⟨_, rfl, fun h => ?_, fun _ => ?_⟩⟩))⟩)))))
    · rw [hfg i hi] at h
      simp at h
    refine s_nil (s_cons (s_for [3] hp ev (i_val (e_ix ev.room (e_var 0 rfl (e_var 2 rfl ⟨_, atI_nat (frs_vec_at hi), _, rfl, fun j e => ∃ v3, e = [.sh (.tup (frs (vec n f))), .sh (.lst (frs (vec n g))), .sh (.int (i : Nat)), v3], ⟨v3, rfl⟩, fun e ⟨_, he⟩ => ?_, ?_⟩))))))
    · subst he
      exact s_nil ⟨_, _, rfl⟩
    rintro j d e hd ⟨v3, rfl⟩
    have ⟨x, hx⟩ : ∃ x, d = .int x := by
      match j, hd with
      | 0, hd => cases hd; exact ⟨_, rfl⟩
      | 1, hd => cases hd; exact ⟨_, rfl⟩
    subst hx
    refine g_name 3 ev.nd ?_
    refine s_cons (s_if (t_bool (w_or (t_not (t_val (e_isI fr (e_var 3 rfl ⟨_, _, rfl, k_ii, fun h => Bool.noConfusion h, fun _ => ?_⟩)))))))
    refine w_or1 (t_val (e_isB fr (e_var 3 rfl ⟨_, _, rfl, k_ib, fun h => Bool.noConfusion h, fun _ => ?_⟩)))
    exact s_nil (s_nil ⟨_, rfl⟩)
end
end K69
set_option Elab.async false
set_option linter.all false
set_option maxRecDepth 100000
set_option maxHeartbeats 4000000
set_option exponentiation.threshold 10000
namespace K69
open PySem PySem.Spec L2 SY
section
variable {P : Program} {w : World} {K : PySem.W.Frag} {mg : Str → Option Value} {base : Heap} {Ch : Addr}
def S_kept (Ch : Addr) : S0 := fun ds Q => ∃ (z : Str) (n : Nat) (fi : Nat → Rat) (M S : Nat → Nat → Rat), ds = [.ins Ch (hidL z n fi M S), .dic (modD z n fi M S)] ∧ AlOk z ∧ n ≤ 24 ∧ Q (.bl true)
theorem ok_kept (fr : Free mg) (hc : HC K Ch) (D0 : DefOk K mg "_law_kept" (top 85) []) (c1 : FnS P w K mg base 1 "_law_is_row" (spP K S_isrow)) : FnS P w K mg base 2 "_law_kept" (spP K (S_kept Ch)) := by
  refine mkFnW (N := ["hidden", "model", "told", "due", "s"]) (ps := ["hidden", "model"]) D0 (C8.fnScope_by (by decide +kernel)) ?_ fr (fun _ _ _ _ _ _ us hl => match us, hl with | [_, _], _ => rfl) ?_
  · rintro _ ds Q ⟨_, _, _, _, _, rfl, _⟩; rfl
  · rintro f0 cdv Ar outer s H0 E ev hp _ ds Q F ⟨z, n, fi, M, S, rfl, hz, hn, kk⟩
    have z5 := hz.2.1
    refine s_cons (s_if (t_bool (w_or (t_cmp (c_ne ev.room (e_hLetters hc (e_var 0 rfl ⟨_, _, _, _, _, rfl, e_ix ev.room (e_var 1 rfl (e_str ⟨_, md_letters, _, rfl, fun h => ?_, fun _ => ?_⟩))⟩)))))))
    · simp at h
    refine w_or1 (t_not (t_val (e_call c1 ev (by decide) (a_cons (e_hFirst hc (e_var 0 rfl ⟨_, _, _, _, _, rfl, a_cons (e_ix ev.room (e_var 1 rfl (e_str ⟨_, md_first, a_nil ⟨n, fi, fi, rfl, by omega, fun _ _ => rfl, fun h => Bool.noConfusion h, fun _ => ?_⟩⟩)))⟩))))))
    let it : List D := [.tup [.tup (trows n n M), .lst (vrows n n M)], .tup [.tup (trows n z.cps.toList.length S), .lst (vrows n z.cps.toList.length S)]]
    refine s_nil (s_cons (s_for [2, 3] hp ev (i_val (e_own (o_lst (a_cons (e_tup (a_cons (e_hMoves hc (e_var 0 rfl ⟨_, _, _, _, _, rfl, a_cons (e_ix ev.room (e_var 1 rfl (e_str ⟨_, md_moves, a_nil ⟨Nat.le_of_ble_eq_true rfl, a_cons (e_tup (a_cons (e_hShows hc (e_var 0 rfl ⟨_, _, _, _, _, rfl, a_cons (e_ix ev.room (e_var 1 rfl (e_str ⟨_, md_shows, a_nil ⟨Nat.le_of_ble_eq_true rfl, a_nil ⟨Nat.le_of_ble_eq_true rfl, it, rfl, ?_⟩⟩⟩)))⟩))))⟩⟩)))⟩))))))))))
    refine ⟨fun i e => ∃ v2 v3 v4, e = [.sh (.ins Ch (hidL z n fi M S)), .sh (.dic (modD z n fi M S)), v2, v3, v4], ⟨.un, .un, .un, rfl⟩, fun e ⟨_, _, _, he⟩ => ?_, ?_⟩
    · subst he
      exact s_cons (s_ret (e_bl kk))
    rintro i d e hd ⟨v2, v3, v4, rfl⟩
    have ⟨m, R, hd2⟩ : ∃ (m : Nat) (R : Nat → Nat → Rat), m ≤ 24 ∧ d = .tup [.tup (trows n m R), .lst (vrows n m R)] := by
      match i, hd with
      | 0, hd => cases hd; exact ⟨n, M, hn, rfl⟩
      | 1, hd => cases hd; exact ⟨_, S, by omega, rfl⟩
    obtain ⟨hm, rfl⟩ := hd2
    refine g_tup ev.calm ⟨_, rfl, rfl, gs_cons (is := [2]) (g_name 2 ev.nd (gs_cons (is := [3]) (g_name 3 ev.nd (gs_nil ?_))))⟩
    refine s_cons (s_if (t_bool (w_or (t_not (t_val (e_isT fr (e_var 2 rfl ⟨_, _, rfl, k_tt, fun h => Bool.noConfusion h, fun _ => ?_⟩)))))))
    have hl1 : (trows n m R).length = n := vec_len ..
    have hl2 : (vrows n m R).length = n := vec_len ..
    refine w_or1 (t_cmp (c_ne ev.room (e_len fr (e_var 2 rfl (e_len fr (e_var 3 rfl ⟨_, rfl, fun h => ?_, fun _ => ?_⟩))))))
    · rw [hl1, hl2] at h
      simp at h
    refine s_nil (s_cons (s_for [4] hp ev (i_rng fr (e_len fr (e_var 3 rfl ⟨(n : Nat), by rw [hl2], by omega, by omega, fun i e => ∃ v4, e = [.sh (.ins Ch (hidL z n fi M S)), .sh (.dic (modD z n fi M S)), .sh (.tup (trows n m R)), .sh (.lst (vrows n m R)), v4], ⟨v4, rfl⟩, fun e ⟨_, he⟩ => ?_, ?_⟩)))))
    · subst he
      exact s_nil ⟨_, _, _, rfl⟩
    rintro s d e hd ⟨v4, rfl⟩
    obtain ⟨hs, rfl⟩ := rng_get hd
    refine g_name 4 ev.nd ?_
    refine s_cons (s_if (t_not (t_val (e_call c1 ev (by decide) (a_cons (e_ix ev.room (e_var 2 rfl (e_var 4 rfl ⟨_, atI_nat (trows_at hs), a_cons (e_ix ev.room (e_var 3 rfl (e_var 4 rfl ⟨_, atI_nat (vrows_at hs), a_nil ⟨m, R s, R s, rfl, by omega, fun _ _ => rfl, fun h => Bool.noConfusion h, fun _ => ?_⟩⟩)))⟩))))))))
    exact s_nil (s_nil ⟨_, rfl⟩)
end
end K69
set_option Elab.async false
set_option linter.all false
set_option maxRecDepth 100000
set_option maxHeartbeats 4000000
set_option exponentiation.threshold 10000
namespace K69
open PySem PySem.Spec L2 SY
/-! the chance is row . column at each cut -/
theorem cut_eq (n : Nat) (W : Nat → Nat → Nat → Rat) (st : Nat → Rat) : ∀ (l2 l1 : List Nat), sumN n (fun s => rowF n W st l1 s * colF n W ones l2 s) = sumN n (rowF n W st (l1 ++ l2))
  | [], l1 => by
    rw [List.append_nil]
    exact sumN_ext fun i _ => Rat.mul_one _
  | c :: l2, l1 => by
    have ih := cut_eq n W st l2 (l1 ++ [c])
    rw [List.append_assoc] at ih
    refine Eq.trans ?_ ih
    rw [rowF_snoc, colF_cons]
    unfold stepR stepC
    have e1 : ∀ s, s < n → rowF n W st l1 s * sumN n (fun t => W c s t * colF n W ones l2 t) = sumN n fun t => rowF n W st l1 s * W c s t * colF n W ones l2 t := fun s _ => by
      rw [← sumN_mul]
      exact sumN_ext fun t _ => (Rat.mul_assoc _ _ _).symm
    rw [sumN_ext e1, sumN_comm]
    exact sumN_ext fun t _ => sumN_mulr n _ _
section
variable {P : Program} {w : World} {K : PySem.W.Frag} {mg : Str → Option Value} {base : Heap} {C Ch CB CI : Addr}
/-! check_text -/
def S_textX (CB : Addr) : X0 := fun ds Q Xq => ∃ (z x : Str), ds = [.str z, .str x] ∧ ((∀ c ∈ x.cps.toList, c ∈ z.cps.toList) → Q .non) ∧
  ∀ (i : Nat) c, x.cps.toList[i]? = some c → c ∉ z.cps.toList → (∀ (j : Nat) c', j < i → x.cps.toList[j]? = some c' → c' ∈ z.cps.toList) → Xq ⟨CB, [("index", .int (i : Nat))]⟩
theorem ok_textX (fr : Free mg) (D0 : DefOk K mg "check_text" (top 18) []) (cb : ExOk P K mg "BadText" CB "index") : FnS P w K mg base 2 "check_text" (spX K (S_textX CB)) := by
  refine mkFnX (N := ["letters", "text", "index", "character"]) (ps := ["letters", "text"]) D0 (C8.fnScope_by (by decide +kernel)) ?_ fr (fun _ _ _ _ _ _ us hl => match us, hl with | [_, _], _ => rfl) ?_
  · rintro ds Q Xq ⟨_, _, rfl, _⟩; rfl
  · rintro f cdv Ar outer s H0 E ev hp Wx tk ds Q Xq F ⟨z, x, rfl, k, kx⟩
    refine s_cons (s_for [2, 3] hp ev (i_en fr (e_var 1 rfl ⟨_, rfl, fun i e => (∃ v2 v3, e = [.sh (.str z), .sh (.str x), v2, v3]) ∧ ∀ (j : Nat) c', j < i → x.cps.toList[j]? = some c' → c' ∈ z.cps.toList, ⟨⟨.un, .un, rfl⟩, fun j c' h => absurd h (Nat.not_lt_zero _)⟩, fun e he => s_nil (k fun c hc => ?_), ?_⟩)))
    · obtain ⟨j, hj⟩ := List.mem_iff_getElem?.mp hc
      refine he.2 j c ?_ hj
      rw [enD_len, List.length_map]
      exact (List.getElem?_eq_some_iff.mp hj).1
    rintro i d e hd ⟨⟨v2, v3, rfl⟩, hb⟩
    obtain ⟨y, e1, rfl⟩ := enD_get hd
    obtain ⟨c, hc, rfl⟩ := sg_get e1
    refine g_tup ev.calm ⟨_, rfl, rfl, gs_cons (is := [2]) (g_name 2 ev.nd (gs_cons (is := [3]) (g_name 3 ev.nd (gs_nil ?_))))⟩
    refine s_cons (s_if (t_cmp (c_ninS (e_var 3 rfl (e_var 0 rfl ⟨c, z, rfl, rfl, _, rfl, fun h => ?_, fun h => s_nil (s_nil ⟨⟨.sh (.int (i : Nat)), .sh (.str ⟨#[c]⟩), rfl⟩, fun j c' hj hc' => ?_⟩)⟩)))))
    · have hn : c ∉ z.cps.toList := by simpa using h
      exact s_cons (s_raise cb ev (by decide) tk (e_var 2 rfl (kx i c hc hn hb)))
    · have hy : c ∈ z.cps.toList := by simpa using h
      rcases Nat.lt_succ_iff_lt_or_eq.mp hj with h1 | rfl
      · exact hb j c' h1 hc'
      · rw [hc] at hc'
        cases hc'
        exact hy
end
end K69
set_option Elab.async false
set_option linter.all false
set_option maxRecDepth 100000
set_option maxHeartbeats 4000000
set_option exponentiation.threshold 10000
namespace K69
open PySem PySem.Spec L2 SY
theorem cut_last {α : Type} {k : Nat} {f : Nat → α} : cutA (vec (k + 1) f) none (some (-1)) = vec k f := by
  have h : HT.sIx (vec (k + 1) f).length (vec (k + 1) f).length (some (-1)) = k := by
    show (if (-1 : Int) < 0 then ((-1 : Int) + ((vec (k + 1) f).length : Int)).toNat else min (-1 : Int).toNat (vec (k + 1) f).length) = k
    rw [if_pos (by decide), vec_len]
    omega
  unfold cutA
  rw [h]
  show ((vec (k + 1) f).drop 0).take (k - 0) = _
  rw [List.drop_zero, Nat.sub_zero, vec_take (Nat.le_succ k)]
theorem trow_at {n k i : Nat} {R : Nat → Nat → Rat} (h : i < k) : (vec k fun i => D.tup (frs (vec n (R i))))[i]? = some (.tup (frs (vec n (R i)))) := vec_at h
section
variable {P : Program} {w : World} {K : PySem.W.Frag} {mg : Str → Option Value} {base : Heap} {C Ch CB CI : Addr}
/-! state_chances -/
def S_sch (Ch CB CI : Addr) : X0 := fun ds Q Xq => ∃ (z x : Str) (n N0 m1 m2 : Nat) (fi : Nat → Rat) (M S : Nat → Nat → Rat), ds = [.ins Ch (hidL z n fi M S), .str x] ∧ x.cps.toList.length ≤ 1000 ∧
  (∀ (i : Nat) c, x.cps.toList[i]? = some c → c ∉ z.cps.toList → (∀ (j : Nat) c', j < i → x.cps.toList[j]? = some c' → c' ∈ z.cps.toList) → Xq ⟨CB, [("index", .int (i : Nat))]⟩) ∧
  ((∀ c ∈ x.cps.toList, c ∈ z.cps.toList) → MdB z n N0 m1 m2 fi M S x.cps.toList.length ∧ (chanceQ z n fi M S x = 0 → Xq ⟨CI, [("text", .str x)]⟩) ∧ (chanceQ z n fi M S x ≠ 0 → Q (rowsTD n x.cps.toList.length (dueQ z n fi M S x))))
theorem ok_sch (fr : Free mg) (hc : HC K Ch) (D0 : DefOk K mg "state_chances" (top 64) []) (ci : ExOk P K mg "Impossible" CI "text") (c1 : FnS P w K mg base 2 "check_text" (spX K (S_textX CB))) (c2 : FnS P w K mg base 13 "forward_rows" (spP K (S_fwd Ch))) (c3 : FnS P w K mg base 13 "backward_columns" (spP K (S_bwd Ch)))
    (c4 : FnS P w K mg base 3 "dot" (spP K S_dot)) (c5 : FnS P w K mg base 2 "multiply" (spP K S_mul)) (c6 : FnS P w K mg base 2 "divide" (spP K S_quo)) : FnS P w K mg base 14 "state_chances" (spX K (S_sch Ch CB CI)) := by
  refine mkFnX (N := ["hidden", "text", "rows", "columns", "chance", "row", "column", "ahead", "behind"]) (ps := ["hidden", "text"]) D0 (C8.fnScope_by (by decide +kernel)) ?_ fr (fun _ _ _ _ _ _ us hl => match us, hl with | [_, _], _ => rfl) ?_
  · rintro ds Q Xq ⟨_, _, _, _, _, _, _, _, _, rfl, _⟩; rfl
  · rintro f cdv Ar outer s H0 E ev hp Wx tk ds Q Xq F ⟨z, x, n, N0, m1, m2, fi, M, S, rfl, hxl, kb, k⟩
    refine s_cons (s_exprX c1 ev (by decide) tk (a_cons (e_hLetters hc (e_var 0 rfl ⟨_, _, _, _, _, rfl, a_cons (e_var 1 rfl (a_nil ⟨z, x, rfl, fun hx => ?_, kb⟩))⟩))))
    obtain ⟨mb, ki, k⟩ := k hx
    have md := mb.md
    have n2 := md.n2
    obtain ⟨cs1, cs2, cs3, cs4⟩ := mb.ch_sz hx
    have hN : N0 * (m2 * m1) ^ x.cps.toList.length < 2 ^ 2900 := mb.bg.lt (by omega)
    have hA := mb.bg.ltA (i := x.cps.toList.length) (by omega)
    let R : Nat → Nat → Rat := fun i => rowF n (Wm z M S) fi (x.cps.toList.take i)
    let Cc : Nat → Nat → Rat := fun i => colF n (Wm z M S) ones (x.cps.toList.drop i)
    refine s_cons (s_set 2 ev (e_call c2 ev (by decide) (a_cons (e_var 0 rfl (a_cons (e_var 1 rfl (a_nil ⟨z, x, n, N0, m1, m2, fi, M, S, ⟨rfl, mb, hxl, hx⟩, ?_⟩)))))))
    refine s_cons (s_set 3 ev (e_call c3 ev (by decide) (a_cons (e_var 0 rfl (a_cons (e_var 1 rfl (a_nil ⟨z, x, n, N0, m1, m2, fi, M, S, ⟨rfl, mb, hxl, hx⟩, ?_⟩)))))))
    generalize hkk : x.cps.toList.length = kl at mb hxl k cs1 cs2 hN hA
    have hR : ∀ i, i ≤ kl → ∀ s, s < n → Sz (N0 * (m2 * m1) ^ i) (N0 * (n * (m2 * m1)) ^ i) (R i s) := fun i hi => by
      have := sz_rowF mb.bg.m0 mb.wsz (x.cps.toList.take i) mb.bg.N0 md.fi.sz fun c hc => hx c (List.mem_of_mem_take hc)
      rwa [List.length_take, Nat.min_eq_left (by omega)] at this
    have hC : ∀ i, i ≤ kl → ∀ s, s < n → Sz (1 * (m2 * m1) ^ (kl - i)) (1 * (n * (m2 * m1)) ^ (kl - i)) (Cc i s) := fun i hi => by
      have := sz_colF (N := 1) (A := 1) (by decide) mb.bc.m0 one_sz mb.wsz (x.cps.toList.drop i) fun c hc => hx c (List.mem_of_mem_drop hc)
      rwa [List.length_drop, hkk] at this
    have hP : ∀ i, i ≤ kl → ∀ s, s < n → Sz (N0 * (m2 * m1) ^ kl) (N0 * (n * (m2 * m1)) ^ kl) (R i s * Cc i s) := fun i hi s hs => by
      have := (hR i hi s hs).mul (hC i hi s hs)
      rw [Nat.one_mul, Nat.one_mul, Nat.mul_assoc, Nat.mul_assoc, ← Nat.pow_add, ← Nat.pow_add, show i + (kl - i) = kl by omega] at this
      exact this
    have bR := fun i (hi : i ≤ kl) => mb.bg.big (i := i) (by omega)
    have bC := fun i (hi : i ≤ kl) => mb.bc.big (i := kl - i) (by omega)
    have hch : sumN n (fun s => R 0 s * Cc 0 s) = chanceQ z n fi M S x := by
      have := cut_eq n (Wm z M S) fi x.cps.toList []
      exact this
    refine s_cons (s_set 4 ev (e_call c4 ev (by decide) (a_cons (e_ix ev.room (e_var 2 rfl (e_int ⟨_, atI_nat (trow_at (Nat.succ_pos kl)), a_cons (e_ix ev.room (e_var 3 rfl (e_int ⟨_, atI_nat (trow_at (Nat.succ_pos kl)), a_nil ⟨n, R 0, Cc 0, _, _, rfl, by omega, fun s hs => ⟨(hR 0 (Nat.zero_le _) s hs).ok (bR 0 (Nat.zero_le _)).N1 (bR 0 (Nat.zero_le _)).A1, (hC 0 (Nat.zero_le _) s hs).ok (bC 0 (Nat.zero_le _)).N1 (bC 0 (Nat.zero_le _)).A1, hP 0 (Nat.zero_le _) s hs⟩, Nat.mul_pos mb.bg.N0 (Nat.pow_pos mb.bg.m0), hN, cs2, ?_⟩⟩)))⟩))))))
    rw [hch]
    generalize hch2 : chanceQ z n fi M S x = ch at k ki cs3 cs4
    refine s_cons (s_if (t_cmp (c_eq ev.room (e_p0 ev (e_var 4 rfl ⟨_, rfl, e_int ⟨_, rfl, fun hk => ?_, fun hk => s_nil ?_⟩⟩)))))
    · have : ch.num = 0 := of_decide_eq_true hk
      exact s_cons (s_raise ci ev (by decide) tk (e_var 1 rfl (ki (num_zero this))))
    have hne : ch.num ≠ 0 := of_decide_eq_false hk
    have hne2 : ch ≠ 0 := fun e => hne (by rw [e]; rfl)
    have hpos : 0 < ch := Rat.lt_of_le_of_ne cs4 (Ne.symm hne2)
    have k := k hne2
    have ez : SY.zipD (vec kl fun i => D.tup (frs (vec n (R i)))) (vec kl fun i => D.tup (frs (vec n (Cc i)))) = vec kl fun i => D.tup [.tup (frs (vec n (R i))), .tup (frs (vec n (Cc i)))] := vec_zip
    refine s_cons (s_ret (e_tuple fr (e_own (o_lc (own := [("row", 5), ("column", 6)]) [5, 6] ev.calm ev.nd ?_ (by decide) (lc_map (i_zip fr (e_sl (e_var 2 rfl (p_none (p_some (e_neg (e_int ⟨_, rfl, _, rfl, ?_⟩))))))))))))
    · show blkC ["hidden", "text", "rows", "columns", "chance", "row", "column", "ahead", "behind"] (defScope (top 64)) _ _ = true
      decide +kernel
    show ∃ l, seqD (.tup (cutA (vec (kl + 1) fun i => D.tup (frs (vec n (R i)))) none (some (-1)))) = some l ∧ _
    rw [cut_last]
    refine ⟨_, rfl, e_sl (e_var 3 rfl (p_none (p_some (e_neg (e_int ⟨_, rfl, _, rfl, ?_⟩)))))⟩
    show ∃ l, seqD (.tup (cutA (vec (kl + 1) fun i => D.tup (frs (vec n (Cc i)))) none (some (-1)))) = some l ∧ _
    rw [cut_last]
    refine ⟨_, rfl, ?_⟩
    rw [ez]
    refine ⟨by rw [vec_len]; omega, vec kl fun i => .tup (frs (vec n (dueQ z n fi M S x i))), by rw [vec_len, vec_len], k, fun i d hd y hy => ?_⟩
    obtain ⟨hi, rfl⟩ := vec_get hd
    obtain ⟨_, rfl⟩ := vec_get hy
    intro s H C2 cl fp
    refine g_tup ev.calm ⟨_, rfl, rfl, gs_cons (is := [5]) (g_name 5 ev.nd (gs_cons (is := [6]) (g_name 6 ev.nd (gs_nil ?_))))⟩
    intro s H C2 cl fp
    refine e_tuple (by exact fr) (e_own (o_lc (own := [("ahead", 7), ("behind", 8)]) [7, 8] (by exact ev.calm) (by exact ev.nd) ?_ (by decide) (lc_map (i_zip (by exact fr) (e_var 5 rfl ⟨_, rfl, e_var 6 rfl ⟨_, rfl, ?_⟩⟩)))))
    · kernel_rfl
    have ez2 : SY.zipD (frs (vec n (R i))) (frs (vec n (Cc i))) = vec n fun s => D.tup [K69.fr (R i s), K69.fr (Cc i s)] := by
      unfold SY.zipD frs
      rw [vec_map, vec_map, vec_zip]
    rw [ez2]
    refine ⟨by rw [vec_len]; omega, frs (vec n (dueQ z n fi M S x i)), by rw [vec_len, frs_vec_len], rfl, fun t d hd y hy => ?_⟩
    obtain ⟨ht, rfl⟩ := vec_get hd
    obtain ⟨_, rfl⟩ := frs_vec_get hy
    intro s H C2 cl fp
    refine g_tup ev.calm ⟨_, rfl, rfl, gs_cons (is := [7]) (g_name 7 ev.nd (gs_cons (is := [8]) (g_name 8 ev.nd (gs_nil ?_))))⟩
    intro s H C2 cl fp
    refine e_call c6 ⟨ev.nd, ev.calm, ev.room, ev.free⟩ (by decide) (a_cons (e_call c5 ⟨ev.nd, ev.calm, ev.room, ev.free⟩ (by decide) (a_cons (e_var 7 rfl (a_cons (e_var 8 rfl (a_nil ⟨_, _, rfl, (hR i (by omega) t ht).ok (bR i (by omega)).N1 (bR i (by omega)).A1, (hC i (by omega) t ht).ok (bC i (by omega)).N1 (bC i (by omega)).A1, a_cons (e_var 4 rfl (a_nil ⟨_, _, rfl, (hP i (by omega) t ht).ok hN hA, cs3, hpos, ?_⟩))⟩)))))))
    show K69.fr (R i t * Cc i t / ch) = K69.fr (R i t * Cc i t * (chanceQ z n fi M S x)⁻¹)
    rw [hch2, Rat.div_def]
end
end K69
set_option Elab.async false
set_option linter.all false
set_option maxRecDepth 100000
set_option maxHeartbeats 4000000
set_option exponentiation.threshold 10000
namespace K69
open PySem PySem.Spec L2 SY
structure AskOk (K : PySem.W.Frag) (mg : Str → Option Value) (CB CI : Addr) : Prop where
  mB : mg "BadText" = some (.ref CB)
  mI : mg "Impossible" = some (.ref CI)
  bb : PySem.W.exmOne K (.ref CB) (.ref CB) = some true
  ib : PySem.W.exmOne K (.ref CI) (.ref CB) = some false
  ii : PySem.W.exmOne K (.ref CI) (.ref CI) = some true
  kbi : PySem.W.kitOne K (.ref CB) (.ref CI) = some false
  kib : PySem.W.kitOne K (.ref CI) (.ref CB) = some false
  xB : XfC K CB
  xI : XfC K CI
  eB : ExcC K CB
  eI : ExcC K CI
  nB : PySem.W.findIn K (.ref CB) "index" = some none
  nI : PySem.W.findIn K (.ref CI) "text" = some none
section
variable {P : Program} {w : World} {K : PySem.W.Frag} {mg : Str → Option Value} {base : Heap} {C Ch CB CI : Addr}
def badD (i : Nat) : D := .lst [.str "bad", .int (i : Nat), .bl false]
def impD (x : Str) : D := .lst [.str "impossible", .str x, .bl false]
/-- what _law_ask tells -/
def S_ask (Ch : Addr) : S0 := fun ds Q => ∃ (z x : Str) (n N0 m1 m2 : Nat) (fi : Nat → Rat) (M S : Nat → Nat → Rat), ds = [.ins Ch (hidL z n fi M S), .str x] ∧ x.cps.toList.length ≤ 1000 ∧
  (∀ (i : Nat) c, x.cps.toList[i]? = some c → c ∉ z.cps.toList → (∀ (j : Nat) c', j < i → x.cps.toList[j]? = some c' → c' ∈ z.cps.toList) → Q (badD i)) ∧
  ((∀ c ∈ x.cps.toList, c ∈ z.cps.toList) → MdB z n N0 m1 m2 fi M S x.cps.toList.length ∧ (chanceQ z n fi M S x = 0 → Q (impD x)) ∧ (chanceQ z n fi M S x ≠ 0 → Q (rowsTD n x.cps.toList.length (dueQ z n fi M S x))))
theorem ok_ask (fr : Free mg) (ax : AskOk K mg CB CI) (D0 : DefOk K mg "_law_ask" (top 82) []) (c1 : FnS P w K mg base 14 "state_chances" (spX K (S_sch Ch CB CI))) : FnS P w K mg base 15 "_law_ask" (spP K (S_ask Ch)) := by
  refine mkFnW (N := ["hidden", "text", "error"]) (ps := ["hidden", "text"]) D0 (C8.fnScope_by (by decide +kernel)) ?_ fr (fun _ _ _ _ _ _ us hl => match us, hl with | [_, _], _ => rfl) ?_
  · rintro _ ds Q ⟨_, _, _, _, _, _, _, _, _, rfl, _⟩; rfl
  · rintro f cdv Ar outer s H0 E ev hp _ ds Q F ⟨z, x, n, N0, m1, m2, fi, M, S, rfl, hxl, kb, k⟩
    refine s_cons (s_try2 2 2 CB CI rfl rfl ev takes0 rfl rfl ax.mB ax.mI ?_)
    intro W pn xe t1 ev2
    refine s_cons (s_retX c1 ev2 (by decide) t1 (a_cons (e_var 0 rfl (a_cons (e_var 1 rfl (a_nil ⟨z, x, n, N0, m1, m2, fi, M, S, rfl, hxl, fun i c h1 h2 h3 => ⟨rfl, .inl ⟨ax.bb, ?_⟩⟩, fun hx => ⟨(k hx).1, fun h => ⟨rfl, .inr ⟨ax.ib, ax.ii, ?_⟩⟩, fun h => (k hx).2.2 h⟩⟩))))))
    · intro a oe d pn F H zc hf xo
      refine z_cons (z_ret (e_own (o_lst (a_cons (e_str (a_cons (e_xf ax.xB ax.nB zc hf rfl xo rfl (e_var 2 rfl ⟨rfl, a_cons (e_isX (by exact fr) ax.eB zc hf rfl xo ax.mI ax.kbi (e_var 2 rfl ⟨rfl, a_nil ⟨Nat.le_of_ble_eq_true rfl, ?_⟩⟩))⟩))))))))
      exact kb i c h1 h2 h3
    · intro a oe d pn F H zc hf xo
      refine z_cons (z_ret (e_own (o_lst (a_cons (e_str (a_cons (e_xf ax.xI ax.nI zc hf rfl xo rfl (e_var 2 rfl ⟨rfl, a_cons (e_isX (by exact fr) ax.eI zc hf rfl xo ax.mB ax.kib (e_var 2 rfl ⟨rfl, a_nil ⟨Nat.le_of_ble_eq_true rfl, ?_⟩⟩))⟩))))))))
      exact (k hx).2.1 h
end
end K69
namespace K69
open PySem PySem.Spec L2 SY
theorem imp_self {x : Str} {Q : D → Prop} (hx : PyData.strOk x = true) (h : Q (.bl true)) : eqD false (impD x) (impD x) Q := by
  refine ⟨.list [.str "impossible", .str x, .bool false], .list [.str "impossible", .str x, .bool false], rfl, rfl, ?_, ?_, ?_⟩
  · simp [SeqAt.shaped, PyData.canLay0, PyData.canLayAll0, PyData.depth, PyData.depthAll, hx]
    decide +kernel
  · simp [SeqAt.shaped, PyData.canLay0, PyData.canLayAll0, PyData.depth, PyData.depthAll, hx]
    decide +kernel
  have : PyData.eqv (.list [.str "impossible", .str x, .bool false]) (.list [.str "impossible", .str x, .bool false]) = true := by
    simp [PyData.eqv, PyData.eqvAll]
  rw [if_neg Bool.false_ne_true, this]
  exact h
theorem str_ok {z x : Str} (al : AlOk z) (hx : ∀ c ∈ x.cps.toList, c ∈ z.cps.toList) : PyData.strOk x = true := by
  unfold PyData.strOk
  rw [← Array.all_toList, List.all_eq_true]
  intro c hc
  have := (al.2.2.1 c (hx c hc)).2
  exact decide_eq_true (by omega)
section
variable {P : Program} {w : World} {K : PySem.W.Frag} {mg : Str → Option Value} {base : Heap} {C Ch CB CI : Addr}
def S_right (Ch : Addr) : S0 := fun ds Q => ∃ (z x : Str) (n N0 m1 m2 : Nat) (fi : Nat → Rat) (M S : Nat → Nat → Rat), ds = [.ins Ch (hidL z n fi M S), .str x, dueD z n fi M S x] ∧ x.cps.toList.length ≤ 1000 ∧
  (∀ c ∈ x.cps.toList, c ∈ z.cps.toList) ∧ MdB z n N0 m1 m2 fi M S x.cps.toList.length ∧ Q (.bl true)
theorem ok_right (fr : Free mg) (D0 : DefOk K mg "_law_right" (top 83) []) (c1 : FnS P w K mg base 15 "_law_ask" (spP K (S_ask Ch))) (c2 : FnS P w K mg base 1 "_law_is_row" (spP K S_isrow)) : FnS P w K mg base 16 "_law_right" (spP K (S_right Ch)) := by
  refine mkFnW (N := ["hidden", "text", "due", "told", "i"]) (ps := ["hidden", "text", "due"]) D0 (C8.fnScope_by (by decide +kernel)) ?_ fr (fun _ _ _ _ _ _ us hl => match us, hl with | [_, _, _], _ => rfl) ?_
  · rintro _ ds Q ⟨_, _, _, _, _, _, _, _, _, rfl, _⟩; rfl
  · rintro f cdv Ar outer s H0 E ev hp _ ds Q F ⟨z, x, n, N0, m1, m2, fi, M, S, rfl, hxl, hx, mb, k⟩
    have n2 := mb.md.n2
    refine s_cons (s_set 3 ev (e_call c1 ev (by decide) (a_cons (e_var 0 rfl (a_cons (e_var 1 rfl (a_nil ⟨z, x, n, N0, m1, m2, fi, M, S, rfl, hxl, fun i c h1 h2 h3 => absurd (hx c (List.mem_of_getElem? h1)) h2, fun _ => ⟨mb, fun h => ?_, fun h => ?_⟩⟩)))))))
    · refine s_cons (s_if (t_cmp (c_isN (e_var 2 rfl ⟨_, rfl, fun hk => ?_, fun hk => ?_⟩))))
      · refine s_cons (s_ret (e_cmp (c_eq ev.room (e_var 3 rfl (e_own (o_lst (a_cons (e_str (a_cons (e_var 1 rfl (a_cons (e_bl (a_nil ⟨Nat.le_of_ble_eq_true rfl, imp_self (str_ok mb.md.al hx) k⟩)))))))))))))
      · unfold dueD at hk
        rw [if_pos h] at hk
        exact Bool.noConfusion hk
    · refine s_cons (s_if (t_cmp (c_isN (e_var 2 rfl ⟨_, rfl, fun hk => ?_, fun hk => ?_⟩))))
      · unfold dueD at hk
        rw [if_neg h] at hk
        exact Bool.noConfusion hk
      have ed : dueD z n fi M S x = rowsD n x.cps.toList.length (dueQ z n fi M S x) := if_neg h
      rw [ed]
      refine s_nil (s_cons (s_if (t_bool (w_or (t_not (t_val (e_isT fr (e_var 3 rfl ⟨_, _, rfl, k_tt, fun h => Bool.noConfusion h, fun _ => ?_⟩))))))))
      refine w_or1 (t_cmp (c_ne ev.room (e_len fr (e_var 3 rfl (e_len fr (e_var 2 rfl ⟨_, rfl, fun h => ?_, fun _ => ?_⟩))))))
      · rw [vec_len, vec_len] at h
        simp at h
      refine s_nil (s_cons (s_for [4] hp ev (i_rng fr (e_len fr (e_var 2 rfl ⟨(x.cps.toList.length : Nat), by rw [vec_len], by omega, by omega, fun i e => ∃ v4, e = [.sh (.ins Ch (hidL z n fi M S)), .sh (.str x), .sh (rowsD n x.cps.toList.length (dueQ z n fi M S x)), .sh (rowsTD n x.cps.toList.length (dueQ z n fi M S x)), v4], ⟨.un, rfl⟩, ?_, ?_⟩)))))
      · rintro e ⟨v4, rfl⟩
        exact s_cons (s_ret (e_bl k))
      · rintro i d e hd ⟨v4, rfl⟩
        obtain ⟨hi, rfl⟩ := rng_get hd
        refine g_name 4 ev.nd ?_
        refine s_cons (s_if (t_not (t_val (e_call c2 ev (by decide) (a_cons (e_ix ev.room (e_var 3 rfl (e_var 4 rfl ⟨_, atI_nat (trow_at hi), a_cons (e_ix ev.room (e_var 2 rfl (e_var 4 rfl ⟨_, atI_nat (rowsD_at hi), a_nil ⟨n, _, _, rfl, by omega, fun _ _ => rfl, fun h => Bool.noConfusion h, fun _ => s_nil (s_nil ⟨_, rfl⟩)⟩⟩)))⟩))))))))
end
end K69
set_option Elab.async false
set_option linter.all false
set_option maxRecDepth 100000
set_option maxHeartbeats 4000000
set_option exponentiation.threshold 10000
namespace K69
open PySem PySem.Spec L2 SY
section
variable {P : Program} {w : World} {K : PySem.W.Frag} {mg : Str → Option Value} {base : Heap} {C Ch CB CI : Addr}
def S_len (C : Addr) : S0 := fun ds Q => ∃ (d : D) (z : Str) (n m B : Nat) (st en : Nat → Rat) (W : Nat → Nat → Nat → Rat), ds = [d] ∧ IsMach C z n m B st en W d ∧ Q (.int (n : Nat))
theorem ok_len (fr : Free mg) (mc : MC K C) (D0 : LenDef K "Device.__len__" (inCls (top 28) 4) C) : LenOk P w K mg base 1 C (S_len C) := by
  refine mkLen (N := ["self"]) (ps := ["self"]) D0 (C8.fnScope_by (by decide +kernel)) ?_ fr (fun _ _ _ _ _ _ us hl => match us, hl with | [_], _ => rfl) ?_
  · rintro _ ds Q ⟨_, _, _, _, _, _, _, _, rfl, _⟩; rfl
  · rintro f cdv Ar outer s H0 E ev hp ds Q F ⟨d, z, n, m, B, st, en, W, rfl, hM, k⟩
    obtain ⟨gv, as, tbl, rfl, hA, hT⟩ := id hM
    refine s_cons (s_ret (e_len fr (e_mStart mc (e_var 0 rfl ⟨_, _, _, _, _, _, rfl, ?_⟩))))
    show Q (.int ((frs (vec n st)).length : Nat))
    rw [frs_vec_len]
    exact k
theorem ok_call (fr : Free mg) (D0 : CallDef K "Machine.__call__" (inCls (top 42) 3) C) (c1 : FnS P w K mg base 5 "weight_of" (spP K (S_weightof C))) : CallOk P w K mg base 6 C (S_weightof C) := by
  refine mkCall (N := ["self", "text"]) (ps := ["self", "text"]) D0 (C8.fnScope_by (by decide +kernel)) ?_ fr (fun _ _ _ _ _ _ us hl => match us, hl with | [_, _], _ => rfl) ?_
  · rintro _ ds Q ⟨_, _, _, _, _, _, _, _, _, _, _, _, _, rfl, _⟩; rfl
  · rintro f cdv Ar outer s H0 E ev hp ds Q F hS
    obtain ⟨d, z, x, n, m, B, st, en, W, N, A, Ne, Ae, rfl, r⟩ := id hS
    exact s_cons (s_ret (e_call c1 ev (by decide) (a_cons (e_var 0 rfl (a_cons (e_var 1 rfl (a_nil hS)))))))
def S_lcut (C : Addr) : S0 := fun ds Q => ∃ (d : D) (z x : Str) (n m B : Nat) (st en : Nat → Rat) (W : Nat → Nat → Nat → Rat) (N A : Nat), ds = [d, .str x] ∧ IsMach C z n m B st en W d ∧ AlOk z ∧ (∀ c ∈ x.cps.toList, c ∈ z.cps.toList) ∧ x.cps.toList.length ≤ 1000 ∧ (∀ s, s < n → Sz N A (st s)) ∧ WSz z n m B W ∧ Bg n N A m B x.cps.toList.length ∧
  ∀ d', IsMach C z n m B (rowF n W st x.cps.toList) en W d' → Q d'
def S_rcut (C : Addr) : S0 := fun ds Q => ∃ (d : D) (z x : Str) (n m B : Nat) (st en : Nat → Rat) (W : Nat → Nat → Nat → Rat) (N A : Nat), ds = [d, .str x] ∧ IsMach C z n m B st en W d ∧ AlOk z ∧ (∀ c ∈ x.cps.toList, c ∈ z.cps.toList) ∧ x.cps.toList.length ≤ 1000 ∧ (∀ s, s < n → Sz N A (en s)) ∧ WSz z n m B W ∧ Bg n N A m B x.cps.toList.length ∧
  ∀ d', IsMach C z n m B st (colF n W en x.cps.toList) W d' → Q d'
theorem ok_lcut (fr : Free mg) (mc : MC K C) (D0 : DefOk K mg "left_cut" (top 54) []) (c1 : FnS P w K mg base 4 "row_after" (spP K (S_rowafter C))) (c2 : MkrK P w K mg base 9 4 "Machine" "most" C (S_mach C)) (c3 : LenOk P w K mg base 1 C (S_len C)) : FnS P w K mg base 11 "left_cut" (spP K (S_lcut C)) := by
  refine mkFnW (N := ["machine", "text", "row"]) (ps := ["machine", "text"]) D0 (C8.fnScope_by (by decide +kernel)) ?_ fr (fun _ _ _ _ _ _ us hl => match us, hl with | [_, _], _ => rfl) ?_
  · rintro _ ds Q ⟨_, _, _, _, _, _, _, _, _, _, _, rfl, _⟩; rfl
  · rintro f cdv Ar outer s H0 E ev hp _ ds Q F ⟨d, z, x, n, m, B, st, en, W, N, A, rfl, hM, al, hx, hxl, hst, hW, bg, k⟩
    refine s_cons (s_set 2 ev (e_call c1 ev (by decide) (a_cons (e_var 0 rfl (a_cons (e_var 1 rfl (a_nil ⟨d, z, x, n, m, B, st, en, W, N, A, rfl, hM, hx, hxl, hst, hW, bg, ?_⟩)))))))
    obtain ⟨gv, as, tbl, rfl, hA, hT⟩ := id hM
    refine s_cons (s_ret (e_makeK c2 ev (by decide) (a_cons (e_mLetters mc (e_var 0 rfl ⟨_, _, _, _, _, _, rfl, a_cons (e_var 2 rfl (a_cons (e_mArrows mc (e_var 0 rfl ⟨_, _, _, _, _, _, rfl, a_cons (e_mEnd mc (e_var 0 rfl ⟨_, _, _, _, _, _, rfl, a_nil ⟨rfl, ?_⟩⟩))⟩))))⟩)))))
    refine e_lenI c3 ev (by decide) (e_var 0 rfl ⟨⟨_, rfl⟩, _, z, n, m, B, st, en, W, rfl, hM, n, rfl, ?_, ?_⟩)
    · have := bg.n1
      omega
    exact ⟨z, n, m, B, _, en, W, as, _, (n : Nat), rfl, rfl, .inr rfl, al, bg.n0, bg.n1, Int.le_refl _, hA, fun l' h => k _ h⟩
theorem ok_rcut (fr : Free mg) (mc : MC K C) (D0 : DefOk K mg "right_cut" (top 55) []) (c1 : FnS P w K mg base 4 "column_before" (spP K (S_colbefore C))) (c2 : MkrK P w K mg base 9 4 "Machine" "most" C (S_mach C)) (c3 : LenOk P w K mg base 1 C (S_len C)) : FnS P w K mg base 11 "right_cut" (spP K (S_rcut C)) := by
  refine mkFnW (N := ["machine", "text", "column"]) (ps := ["machine", "text"]) D0 (C8.fnScope_by (by decide +kernel)) ?_ fr (fun _ _ _ _ _ _ us hl => match us, hl with | [_, _], _ => rfl) ?_
  · rintro _ ds Q ⟨_, _, _, _, _, _, _, _, _, _, _, rfl, _⟩; rfl
  · rintro f cdv Ar outer s H0 E ev hp _ ds Q F ⟨d, z, x, n, m, B, st, en, W, N, A, rfl, hM, al, hx, hxl, hst, hW, bg, k⟩
    refine s_cons (s_set 2 ev (e_call c1 ev (by decide) (a_cons (e_var 0 rfl (a_cons (e_var 1 rfl (a_nil ⟨d, z, x, n, m, B, st, en, W, N, A, rfl, hM, hx, hxl, hst, hW, bg, ?_⟩)))))))
    obtain ⟨gv, as, tbl, rfl, hA, hT⟩ := id hM
    refine s_cons (s_ret (e_makeK c2 ev (by decide) (a_cons (e_mLetters mc (e_var 0 rfl ⟨_, _, _, _, _, _, rfl, a_cons (e_mStart mc (e_var 0 rfl ⟨_, _, _, _, _, _, rfl, a_cons (e_mArrows mc (e_var 0 rfl ⟨_, _, _, _, _, _, rfl, a_cons (e_var 2 rfl (a_nil ⟨rfl, ?_⟩))⟩))⟩))⟩)))))
    refine e_lenI c3 ev (by decide) (e_var 0 rfl ⟨⟨_, rfl⟩, _, z, n, m, B, st, en, W, rfl, hM, n, rfl, ?_, ?_⟩)
    · have := bg.n1
      omega
    exact ⟨z, n, m, B, st, _, W, as, _, (n : Nat), rfl, rfl, .inr rfl, al, bg.n0, bg.n1, Int.le_refl _, hA, fun l' h => k _ h⟩
end
end K69
set_option Elab.async false
set_option linter.all false
set_option maxRecDepth 100000
set_option maxHeartbeats 4000000
set_option exponentiation.threshold 10000
namespace SY
open PySem PySem.Spec L2
theorem RL.ofGet {K : PySem.W.Frag} {F : Hp} : ∀ {ds : List D} {vs : List V}, ds.length = vs.length → (∀ (j : Nat) d v, ds[j]? = some d → vs[j]? = some v → R K F d v) → RL K F ds vs
  | [], [], _, _ => RL.nil
  | [], _ :: _, h, _ => by simp at h
  | _ :: _, [], h, _ => by simp at h
  | d :: ds, v :: vs, h, g => RL.cons (g 0 d v rfl rfl) (RL.ofGet (by simpa using h) fun j d v h1 h2 => g (j + 1) d v (by simpa using h1) (by simpa using h2))
section
variable {X : Cx} {B : Bs} {env : AE} {e : Expr} {Q : D → Prop} {a : Addr} {l : List D}
/-- a list that is shared here, by its address -/
theorem e_asL (r : R X.K B.F0 (.lst l) (.ref a)) (h : qE X B env e fun d => d = .ref a ∧ Q (.lst l)) : qE X B env e Q := fun σ F H rp Qv kk =>
  h σ F H rp _ fun v F1 H1 d l1 rd hd => by
    obtain ⟨rfl, q⟩ := hd
    rw [rRef rd]
    exact kk _ F1 H1 (.lst l) l1 (R.mono (rp.le.trans l1).ff _ _ r) q
end
end SY
namespace K69
open PySem PySem.Spec L2 SY
section
variable {P : Program} {w : World} {K : PySem.W.Frag} {mg : Str → Option Value} {base : Heap} {C Ch CB CI : Addr}
def S_lhid (Ch : Addr) : S0 := fun ds Q => ∃ (z : Str) (n : Nat) (fi : Nat → Rat) (M S : Nat → Nat → Rat), ds = [.dic (modD z n fi M S)] ∧ AlOk z ∧ 1 ≤ n ∧ n ≤ 24 ∧ K69.Ch (vec n fi) ∧ (∀ s, s < n → K69.Ch (vec n (M s))) ∧ (∀ s, s < n → K69.Ch (vec z.cps.toList.length (S s))) ∧ Q (.ins Ch (hidL z n fi M S))
theorem noL_frs : ∀ l : List Rat, noLsts (frs l) = true
  | [] => rfl
  | q :: l => by
    show (noLst (K69.fr q) && noLsts (frs l)) = true
    rw [noL_frs l]
    rfl
theorem noL_trows (m : Nat) (M : Nat → Nat → Rat) : ∀ l : List Nat, noLsts (l.map fun s => D.tup (frs (vec m (M s)))) = true
  | [] => rfl
  | s :: l => by
    show (noLsts (frs (vec m (M s))) && noLsts (l.map fun s => D.tup (frs (vec m (M s))))) = true
    rw [noL_frs, noL_trows m M l]
    rfl
theorem noL_hid {z : Str} {n : Nat} {fi : Nat → Rat} {M S : Nat → Nat → Rat} : noLst (.ins Ch (hidL z n fi M S)) = true := by
  show (true && (noLsts (frs (vec n fi)) && (noLsts (trows n n M) && (noLsts (trows n z.cps.toList.length S) && true)))) = true
  have e1 : noLsts (trows n n M) = true := noL_trows n M (List.range n)
  have e2 : noLsts (trows n z.cps.toList.length S) = true := noL_trows z.cps.toList.length S (List.range n)
  rw [noL_frs, e1, e2]
  rfl
theorem ok_lhid (fr : Free mg) (D0 : DefOk K mg "_law_hidden" (top 84) []) (c1 : Mkr P w K mg base 7 "Hidden" Ch S_hid) : FnS P w K mg base 9 "_law_hidden" (spP K (S_lhid Ch)) := by
  refine mkFnW (N := ["model", "moves", "shows", "first", "hidden", "row"]) (ps := ["model"]) D0 (C8.fnScope_by (by decide +kernel)) ?_ fr (fun _ _ _ _ _ _ us hl => match us, hl with | [_], _ => rfl) ?_
  · rintro _ ds Q ⟨_, _, _, _, _, rfl, _⟩; rfl
  · rintro f0 cdv Ar outer s H0 E ev hp _ ds Q F ⟨z, n, fi, M, S, rfl, hz, n1, n2, c_f, c_m, c_s, k⟩
    have z5 := hz.2.1
    refine z_enter rfl rfl (fun F0 H0 => z_end ?_) (fun _ _ h => h)
    refine z_cons (z_rowsO 1 (own := [("row", 5)]) [5] ev ?_ (by decide) rfl (i_val (e_ix ev.room (e_var 0 rfl (e_str ⟨_, md_moves, _, rfl, by rw [vrows_len]; omega, vec n fun s => frs (vec n (M s)), by rw [vrows_len, vec_len], fun i d l hd hl => ?_, fun F1 H1 Dm pm l1 dm0 dm1 dm2 pml pmn pmh => ?_⟩)))))
    · show blkC ["model", "moves", "shows", "first", "hidden", "row"] (defScope (top 84)) _ _ = true
      decide +kernel
    · obtain ⟨hi, rfl⟩ := vec_get hd
      obtain ⟨_, rfl⟩ := vec_get hl
      intro s H C2 cl fp
      refine g_name 5 ev.nd ?_
      intro s H C2 cl fp
      exact o_list (by exact fr) (e_var 5 rfl rfl)
    refine z_cons (z_rowsO 2 (own := [("row", 5)]) [5] ev ?_ (by decide) rfl (i_val (e_ix ev.room (e_var 0 rfl (e_str ⟨_, md_shows, _, rfl, by rw [vrows_len]; omega, vec n fun s => frs (vec z.cps.toList.length (S s)), by rw [vrows_len, vec_len], fun i d l hd hl => ?_, fun F2 H2 Ds ps l2 ds0 ds1 ds2 psl psn psh => ?_⟩)))))
    · show blkC ["model", "moves", "shows", "first", "hidden", "row"] (defScope (top 84)) _ _ = true
      decide +kernel
    · obtain ⟨hi, rfl⟩ := vec_get hd
      obtain ⟨_, rfl⟩ := vec_get hl
      intro s H C2 cl fp
      refine g_name 5 ev.nd ?_
      intro s H C2 cl fp
      exact o_list (by exact fr) (e_var 5 rfl rfl)
    refine z_cons (z_ownL 3 (Ql := fun l => l = frs (vec n fi)) ev (o_list fr (e_ix ev.room (e_var 0 rfl (e_str ⟨_, md_first, rfl⟩)))) (fun qf xf F3 H3 lf l3 q0 q1 q2 rlf e3 => ?_))
    subst e3
    rw [vrows_len] at pml psl
    have l12 := l1.trans l2
    have l123 := l12.trans l3
    have l23 := l2.trans l3
    -- the new lists at this point
    have Dm3 : H3 Dm = some (.lst (pm.map V.ref)) := l23.hh _ _ (fun z => z) dm2
    have Ds3 : H3 Ds = some (.lst (ps.map V.ref)) := l3.hh _ _ (fun z => z) ds2
    let as1 : List Addr := Dm :: Ds :: qf :: (pm ++ ps)
    let FS : Hp := shF F3 H3 as1
    have h0 : ∀ a ∈ as1, H0 a = none := by
      intro a ha
      simp only [as1, List.mem_cons, List.mem_append] at ha
      rcases ha with rfl | rfl | rfl | ha | ha
      · exact dm0
      · exact l1.free ds0
      · exact l12.free q0
      · obtain ⟨j, hj⟩ := List.mem_iff_getElem?.mp ha
        exact (pmh j a hj).2.1
      · obtain ⟨j, hj⟩ := List.mem_iff_getElem?.mp ha
        exact l1.free (psh j a hj).2.1
    have sFS : Same F3 FS := shF_same l123.ok.fh
    have inS : ∀ {a}, a ∈ as1 → FS a = H3 a := fun h => shF_in h
    have rM : R K FS (.lst (vrows n n M)) (.ref Dm) := by
      refine mkLst ((inS (by simp [as1])).trans Dm3) (RL.ofGet (by rw [vrows_len, List.length_map, pml]) fun j d v h1 h2 => ?_)
      obtain ⟨hj, rfl⟩ := vec_get h1
      rw [List.getElem?_map] at h2
      obtain ⟨p, hp1, rfl⟩ := Option.map_eq_some_iff.mp h2
      obtain ⟨_, _, _, l, xs, g1, g2, g3⟩ := pmh j p hp1
      obtain ⟨_, rfl⟩ := vec_get g1
      have hin : p ∈ as1 := by simp [as1, List.mem_of_getElem? hp1]
      exact mkLst ((inS hin).trans (l23.hh _ _ (fun z => z) g2)) (RL.mono sFS _ _ (RL.mono l23.ff _ _ g3))
    have rS : R K FS (.lst (vrows n z.cps.toList.length S)) (.ref Ds) := by
      refine mkLst ((inS (by simp [as1])).trans Ds3) (RL.ofGet (by rw [vrows_len, List.length_map, psl]) fun j d v h1 h2 => ?_)
      obtain ⟨hj, rfl⟩ := vec_get h1
      rw [List.getElem?_map] at h2
      obtain ⟨p, hp1, rfl⟩ := Option.map_eq_some_iff.mp h2
      obtain ⟨_, _, _, l, xs, g1, g2, g3⟩ := psh j p hp1
      obtain ⟨_, rfl⟩ := vec_get g1
      have hin : p ∈ as1 := by simp [as1, List.mem_of_getElem? hp1]
      exact mkLst ((inS hin).trans (l3.hh _ _ (fun z => z) g2)) (RL.mono sFS _ _ (RL.mono l3.ff _ _ g3))
    have rF : R K FS (.lst (frs (vec n fi))) (.ref qf) := mkLst ((inS (by simp [as1])).trans q2) (RL.mono sFS _ _ rlf)
    refine z_re (F1 := FS) (env1 := [.sh (.dic (modD z n fi M S)), .sh (.ref Dm), .sh (.ref Ds), .sh (.ref qf), .un, .un]) (fun l => shF_le l h0) rfl rfl (fun σ rp i v hv => ?_) (fun _ _ _ h => h) ?_
    · have := rp.sl i v hv
      rcases pureE_get (env := [.sh (.dic (modD z n fi M S)), .sh (.ref Dm), .sh (.ref Ds), .sh (.ref qf), .un, .un]) rfl hv with rfl | ⟨d, rfl⟩
      · trivial
      · obtain ⟨x, h1, h2⟩ := this
        exact ⟨x, h1, R.mono sFS _ _ h2⟩
    refine z_cons (z_set 4 ev (e_make c1 ev (by decide) (a_cons (e_ix ev.room (e_var 0 rfl (e_str ⟨_, md_letters, a_cons (e_asL rF (e_var 3 rfl ⟨rfl, a_cons (e_asL rM (e_var 1 rfl ⟨rfl, a_cons (e_asL rS (e_var 2 rfl ⟨rfl, a_nil ⟨z, n, fi, M, S, rfl, rfl, hz, n1, n2, c_f, c_m, c_s, fun F4 H4 l4 => ?_⟩⟩))⟩))⟩))⟩))))))
    let as2 : List Addr := Dm :: qf :: ps
    have sub : ∀ a ∈ as2, a ∈ as1 := by
      intro a ha
      simp only [as2, as1, List.mem_cons, List.mem_append] at ha ⊢
      rcases ha with rfl | rfl | ha
      · exact .inl rfl
      · exact .inr (.inr (.inl rfl))
      · exact .inr (.inr (.inr (.inr ha)))
    have f0 : ∀ a ∈ as2, F0 a = none := by
      intro a ha
      have nf : ∀ {F' : Hp}, Same F0 F' → F' a = none → F0 a = none := fun {F'} s h => by
        cases q : F0 a with
        | none => rfl
        | some o => have := s a o q; rw [h] at this; cases this
      simp only [as2, List.mem_cons] at ha
      rcases ha with rfl | rfl | ha
      · exact nf l1.ff dm1
      · exact nf l123.ff q1
      · obtain ⟨j, hj⟩ := List.mem_iff_getElem?.mp ha
        exact nf l12.ff (psh j a hj).2.2.1
    have isL : ∀ a ∈ as2, ∃ xs, H3 a = some (.lst xs) := by
      intro a ha
      simp only [as2, List.mem_cons] at ha
      rcases ha with rfl | rfl | ha
      · exact ⟨_, Dm3⟩
      · exact ⟨_, q2⟩
      · obtain ⟨j, hj⟩ := List.mem_iff_getElem?.mp ha
        obtain ⟨_, _, _, l, xs, _, g2, _⟩ := psh j a hj
        exact ⟨xs, l3.hh _ _ (fun z => z) g2⟩
    have hDs : Ds ∉ as2 := by
      intro h
      simp only [as2, List.mem_cons] at h
      rcases h with h | h | h
      · rw [← h, ds0] at dm2
        cases dm2
      · rw [h, q0] at ds2
        cases ds2
      · obtain ⟨j, hj⟩ := List.mem_iff_getElem?.mp h
        exact (psh j Ds hj).1 rfl
    refine z_re (F1 := unF F4 as2) (env1 := [.un, .sh (.ref Dm), .sh (.lst (ps.map SY.D.ref)), .sh (.ref qf), .sh (.ins Ch (hidL z n fi M S)), .un]) (fun l => unF_le l f0) rfl rfl (fun σ rp i v hv => ?_) (fun _ _ _ h => h) ?_
    · match i, hv with
      | 0, hv => cases hv; trivial
      | 1, hv =>
        cases hv
        obtain ⟨x, h1, h2⟩ := rp.sl 1 _ rfl
        exact ⟨x, h1, by rw [rRef h2]; exact mkRef _⟩
      | 2, hv =>
        cases hv
        obtain ⟨x, h1, h2⟩ := rp.sl 2 _ rfl
        refine ⟨x, h1, ?_⟩
        rw [rRef h2]
        exact mkLst ((unF_out hDs).trans (l4.ff _ _ ((inS (by simp [as1])).trans Ds3))) (RL.refs ps)
      | 3, hv =>
        cases hv
        obtain ⟨x, h1, h2⟩ := rp.sl 3 _ rfl
        exact ⟨x, h1, by rw [rRef h2]; exact mkRef _⟩
      | 4, hv =>
        cases hv
        obtain ⟨x, h1, h2⟩ := rp.sl 4 _ rfl
        refine ⟨x, h1, R.nolist (fun a o e ne => ?_) _ _ noL_hid h2⟩
        rw [unF_out]
        · exact e
        · intro ha
          obtain ⟨xs, hx⟩ := isL a ha
          have := l4.ff a _ ((inS (sub a ha)).trans hx)
          rw [e] at this
          exact ne xs (Option.some.inj this)
      | 5, hv => cases hv; trivial
      | i + 6, hv => simp at hv
    have qf4 : H4 qf = some (.lst xf) := l4.hh _ _ (fun z => z) q2
    have Dm4 : H4 Dm = some (.lst (pm.map V.ref)) := l4.hh _ _ (fun z => z) Dm3
    have neq : Dm ≠ qf := fun z => by
      rw [← z] at q0
      rw [l2.hh _ _ (fun z => z) dm2] at q0
      cases q0
    refine z_cons (z_rev 3 rfl qf4 (h0 _ (by simp [as1])) (unF_in (by simp [as2])) ?_)
    refine z_cons (z_rev 1 rfl (by rw [upd_ne neq]; exact Dm4) (h0 _ (by simp [as1])) (unF_in (by simp [as2])) ?_)
    refine z_cons (z_for [5] hp ev (i_val (e_var 2 rfl ⟨_, rfl, fun F6 H6 l6 => ⟨fun i e F' H' => (∃ v5, pureA v5 = true ∧ e = [.un, .sh (.ref Dm), .sh (.lst (ps.map SY.D.ref)), .sh (.ref qf), .sh (.ins Ch (hidL z n fi M S)), v5]) ∧ ∀ p ∈ ps, F' p = none ∧ ∃ xs, H' p = some (.lst xs), ⟨⟨.un, rfl, rfl⟩, fun p hp' => ?_⟩, fun i e F' H' F'' H'' lle ⟨a1, a2⟩ => ⟨a1, fun p hp' => ?_⟩, fun e F' H' ⟨⟨v5, hv5, he⟩, _⟩ => ?_, fun i d e F' H' hd ⟨⟨v5, hv5, he⟩, a2⟩ => ?_⟩⟩)))
    · obtain ⟨j, hj⟩ := List.mem_iff_getElem?.mp hp'
      obtain ⟨_, pf, _, l, xs, _, g2, _⟩ := psh j p hj
      have p4 : H4 p = some (.lst xs) := l4.hh _ _ (fun z => z) (l3.hh _ _ (fun z => z) g2)
      have n1' : p ≠ qf := fun z => by
        rw [z, q0] at g2
        cases g2
      have n2' : p ≠ Dm := fun z => by
        rw [z, dm2] at pf
        cases pf
      have p5 : upd (upd H4 qf (.lst xf.reverse)) Dm (.lst (pm.map V.ref).reverse) p = some (.lst xs) := by rw [upd_ne n2', upd_ne n1']; exact p4
      exact ⟨l6.un p (unF_in (by simp [as2, hp'])) (by rw [p5]; exact fun z => nomatch z), xs, l6.hh _ _ (fun z => z) p5⟩
    · obtain ⟨b1, xs, b2⟩ := a2 p hp'
      exact ⟨lle.un p b1 (by rw [b2]; exact fun z => nomatch z), xs, lle.hh _ _ (fun z => z) b2⟩
    · subst he
      exact z_cons (z_ret (e_var 4 rfl k))
    · subst he
      rw [List.getElem?_map] at hd
      obtain ⟨p, hp1, rfl⟩ := Option.map_eq_some_iff.mp hd
      have pin := List.mem_of_getElem? hp1
      obtain ⟨b1, xs, b2⟩ := a2 p pin
      refine g_name 5 ev.nd ⟨rfl, z_cons (z_rev 5 rfl b2 (h0 _ (sub _ (by simp [as2, pin]))) b1 (z_nil ⟨⟨_, rfl, rfl⟩, fun p' hp' => ?_⟩))⟩
      obtain ⟨c1, ys, c2⟩ := a2 p' hp'
      refine ⟨c1, ?_⟩
      by_cases hq : p' = p
      · rw [hq, upd_same]
        exact ⟨_, rfl⟩
      · rw [upd_ne hq]
        exact ⟨ys, c2⟩
end
end K69
set_option Elab.async false
set_option linter.all false
set_option maxRecDepth 100000
set_option maxHeartbeats 4000000
set_option exponentiation.threshold 10000
namespace K69
open PySem PySem.Spec L2 SY
theorem rowF_app (n : Nat) (W : Nat → Nat → Nat → Rat) (st : Nat → Rat) (l1 l2 : List Nat) : rowF n W (rowF n W st l1) l2 = rowF n W st (l1 ++ l2) := by
  unfold rowF
  rw [List.foldl_append]
theorem Bg.cutL {n N A m B k : Nat} (g : Bg n N A m B k) {i : Nat} (h : i ≤ k) : Bg n (N * m ^ i) (A * (n * B) ^ i) m B (k - i) where
  n1 := g.n1
  n0 := g.n0
  N0 := Nat.mul_pos g.N0 (Nat.pow_pos g.m0)
  A0 := Nat.mul_pos g.A0 (Nat.pow_pos (Nat.mul_pos g.n0 g.B0))
  m0 := g.m0
  B0 := g.B0
  N1 := by
    rw [Nat.mul_assoc, ← Nat.pow_add, show i + (k - i + 1) = k + 1 by omega]
    exact g.N1
  A1 := by
    rw [Nat.mul_assoc A, ← Nat.pow_add, show i + (k - i + 1) = k + 1 by omega]
    exact g.A1
theorem Bg.le {n N A m B k j : Nat} (g : Bg n N A m B k) (h : j ≤ k) : Bg n N A m B j where
  n1 := g.n1
  n0 := g.n0
  N0 := g.N0
  A0 := g.A0
  m0 := g.m0
  B0 := g.B0
  N1 := g.lt (by omega)
  A1 := Nat.lt_of_le_of_lt (Nat.mul_le_mul_left _ (Nat.mul_le_mul_left _ (pow_le (Nat.mul_pos g.n0 g.B0) (by omega)))) g.A1
theorem Bg.ltB {n N A m B k : Nat} (g : Bg n N A m B k) : (n + 1) * (A * (n * B) ^ k) < 2 ^ 2900 := by
  refine Nat.lt_of_le_of_lt (Nat.mul_le_mul ?_ (Nat.mul_le_mul_left _ (pow_le (Nat.mul_pos g.n0 g.B0) (Nat.le_succ _)))) g.A1
  have := Nat.le_mul_of_pos_right n g.n0
  omega
section
variable {P : Program} {w : World} {K : PySem.W.Frag} {mg : Str → Option Value} {base : Heap} {C Ch CB CI : Addr}
def S_cuts (C : Addr) (a : Addr) : S0 := fun ds Q => ∃ (z x : Str) (n N0 m1 m2 : Nat) (fi : Nat → Rat) (M S : Nat → Nat → Rat) (d : D), ds = [.ref a, .dic (modD z n fi M S), d, .str x] ∧ IsMach C z n (m2 * m1) (m2 * m1) fi ones (Wm z M S) d ∧
  MdB z n N0 m1 m2 fi M S x.cps.toList.length ∧ x.cps.toList.length ≤ 1000 ∧ (∀ c ∈ x.cps.toList, c ∈ z.cps.toList) ∧ Q (.bl true)
theorem ok_cuts (fr : Free mg) (mc : MC K C) (D0 : DefOk K mg "_law_cuts" (top 86) []) (c1 : FnS P w K mg base 5 "_law_rows" (spP K S_lrows)) (c2 : FnS P w K mg base 5 "_law_columns" (spP K S_lcols)) (c3 : FnS P w K mg base 4 "_law_total" (spP K S_ltotal)) (c4 : FnS P w K mg base 1 "_law_take" (spW K (Wbox K) S_take))
    (c5 : FnS P w K mg base 1 "_law_is_row" (spP K S_isrow)) (c6 : FnS P w K mg base 4 "row_after" (spP K (S_rowafter C))) (c7 : FnS P w K mg base 4 "column_before" (spP K (S_colbefore C))) (c8 : FnS P w K mg base 11 "left_cut" (spP K (S_lcut C))) (c9 : FnS P w K mg base 11 "right_cut" (spP K (S_rcut C)))
    (c10 : FnS P w K mg base 5 "weight_of" (spP K (S_weightof C))) (c11 : CallOk P w K mg base 6 C (S_weightof C)) : FnS P w K mg base 12 "_law_cuts" (spW K (Wbox K) (S_cuts C)) := by
  refine mkFnW (N := ["box", "model", "machine", "text", "rows", "columns", "chance", "spots", "i", "head", "tail"]) (ps := ["box", "model", "machine", "text"]) D0 (C8.fnScope_by (by decide +kernel)) ?_ fr (fun _ _ _ _ _ _ us hl => match us, hl with | [_, _, _, _], _ => rfl) ?_
  · rintro _ ds Q ⟨_, _, _, _, _, _, _, _, _, _, rfl, _⟩; rfl
  · rintro f0 cdv Ar outer s H0 E ev hp a ds Q F ⟨z, x, n, N0, m1, m2, fi, M, S, d, rfl, hM, mb, hxl, hx, k⟩
    have md := mb.md
    have n2 := md.n2
    obtain ⟨ld, rfl⟩ : ∃ l, d = .ins C l := by
      obtain ⟨gv, as, tbl, rfl, _⟩ := hM
      exact ⟨_, rfl⟩
    obtain ⟨cs1, cs2, cs3, cs4⟩ := mb.ch_sz hx
    have hN : N0 * (m2 * m1) ^ x.cps.toList.length < 2 ^ 2900 := mb.bg.lt (by omega)
    let R : Nat → Nat → Rat := fun i => rowF n (Wm z M S) fi (x.cps.toList.take i)
    let Cc : Nat → Nat → Rat := fun i => colF n (Wm z M S) ones (x.cps.toList.drop i)
    have hkl : x.length ≤ 100000 := by rw [len_str]; omega
    refine s_cons (s_set 4 ev (e_call c1 ev (by decide) (a_cons (e_var 1 rfl (a_cons (e_var 3 rfl (a_nil ⟨z, x, n, N0, m1, m2, fi, M, S, rfl, mb, hxl, hx, ?_⟩)))))))
    refine s_cons (s_set 5 ev (e_call c2 ev (by decide) (a_cons (e_var 1 rfl (a_cons (e_var 3 rfl (a_nil ⟨z, x, n, N0, m1, m2, fi, M, S, rfl, mb, hxl, hx, ?_⟩)))))))
    generalize hkk : x.cps.toList.length = kl at mb hxl cs1 cs2 hN
    have hlast : L2.atI (vec (kl + 1) fun i => D.lst (frs (vec n (R i)))) (-1) = some (.lst (frs (vec n (rowF n (Wm z M S) fi x.cps.toList)))) := by
      rw [vec_succ]
      have : R kl = rowF n (Wm z M S) fi x.cps.toList := by
        show rowF n (Wm z M S) fi (x.cps.toList.take kl) = _
        rw [← hkk, List.take_length]
      rw [this]
      exact atI_last _ _
    refine s_cons (s_set 6 ev (e_call c3 ev (by decide) (a_cons (e_ix ev.room (e_var 4 rfl (e_neg (e_int ⟨_, rfl, _, hlast, a_nil ⟨n, _, _, _, rfl, Nat.mul_pos mb.bg.N0 (Nat.pow_pos mb.bg.m0), cs1, hN, cs2, ?_⟩⟩)))))))
    let ch := chanceQ z n fi M S x
    let V : AE → Prop := fun e => ∃ l : List Nat, (∀ i ∈ l, i ≤ kl) ∧ e = [.sh (.ref a), .sh (.dic (modD z n fi M S)), .sh (.ins C ld), .sh (.str x), .sh (rowsD n (kl + 1) R), .sh (rowsD n (kl + 1) Cc), .sh (K69.fr ch), .sh (.lst (l.map fun i => D.int (i : Nat))), .un, .un, .un]
    refine s_cons (s_set 7 ev (e_own (o_listR ev (e_add (e_len fr (e_var 3 rfl ⟨hkl, e_int ⟨_, rfl, ?_, ?_, ?_⟩⟩))))))
    · show (0 : Int) ≤ (x.length : Nat) + 1
      omega
    · show ((x.length : Nat) : Int) + 1 ≤ 100000
      rw [len_str, hkk]
      omega
    have e0 : ((x.length : Nat) + (1 : Int)).toNat = kl + 1 := by rw [len_str, hkk]; omega
    unfold rngD
    rw [e0]
    refine s_join V (s_if (t_cmp (c_gt (e_len fr (e_var 3 rfl ⟨hkl, e_int ⟨_, rfl, fun hk => ?_, fun _ => ?_⟩⟩))))) ?_
    · have hk4 : 4 < kl := by
        have : (4 : Int) < (x.length : Nat) := by simpa using hk
        rw [len_str, hkk] at this
        omega
      refine s_cons (s_set 7 ev (e_own (o_lst (a_cons (e_int (a_cons (e_len fr (e_var 3 rfl ⟨hkl, ?_⟩)) ))))))
      refine a_cons (e_callW c4 ev (by decide) a rfl (a_cons (e_var 0 rfl (a_cons (e_len fr (e_var 3 rfl ⟨hkl, a_nil ⟨(x.length : Nat), rfl, ?_, ?_, fun r1 h1 h2 => ?_⟩⟩))))))
      · rw [len_str, hkk]; omega
      · rw [len_str, hkk]; omega
      refine a_cons (e_callW c4 ev (by decide) a rfl (a_cons (e_var 0 rfl (a_cons (e_len fr (e_var 3 rfl ⟨hkl, a_nil ⟨(x.length : Nat), rfl, ?_, ?_, fun r2 h3 h4 => ?_⟩⟩))))))
      · rw [len_str, hkk]; omega
      · rw [len_str, hkk]; omega
      rw [len_str, hkk] at h2 h4
      refine a_nil ⟨Nat.le_of_ble_eq_true rfl, s_nil ⟨[0, kl, r1.toNat, r2.toNat], ?_, ?_⟩⟩
      · intro i hi
        simp only [List.mem_cons, List.not_mem_nil, or_false] at hi
        rcases hi with rfl | rfl | rfl | rfl <;> omega
      · have er1 : ((r1.toNat : Nat) : Int) = r1 := Int.toNat_of_nonneg h1
        have er2 : ((r2.toNat : Nat) : Int) = r2 := Int.toNat_of_nonneg h3
        show _ = [AV.sh (.ref a), .sh (.dic (modD z n fi M S)), .sh (.ins C ld), .sh (.str x), .sh (rowsD n (kl + 1) R), .sh (rowsD n (kl + 1) Cc), .sh (K69.fr ch), .sh (.lst [.int ((0 : Nat) : Int), .int (kl : Nat), .int ((r1.toNat : Nat) : Int), .int ((r2.toNat : Nat) : Int)]), .un, .un, .un]
        rw [er1, er2, ← hkk, ← len_str]
        rfl
    · refine s_nil ⟨List.range (kl + 1), fun i hi => ?_, rfl⟩
      have := List.mem_range.mp hi
      omega
    rintro e ⟨l, hl, rfl⟩
    refine s_cons (s_for [8] hp ev (i_val (e_var 7 rfl ⟨_, rfl, fun j e => ∃ v8 v9 v10, e = [.sh (.ref a), .sh (.dic (modD z n fi M S)), .sh (.ins C ld), .sh (.str x), .sh (rowsD n (kl + 1) R), .sh (rowsD n (kl + 1) Cc), .sh (K69.fr ch), .sh (.lst (l.map fun i => D.int (i : Nat))), v8, v9, v10], ⟨.un, .un, .un, rfl⟩, ?_, ?_⟩)))
    · rintro e ⟨v8, v9, v10, rfl⟩
      refine s_cons (s_ret (e_cmp (c_eq ev.room (e_callI 2 c11 ev (by decide) rfl (a_cons (e_var 3 rfl (a_nil ⟨_, z, x, n, _, _, fi, ones, Wm z M S, N0, N0, 1, 1, rfl, hM, hx, by omega, md.fi.sz, one_sz, mb.wsz, by rw [hkk]; exact mb.bg, one_lt, one_lt, ?_, ?_, e_var 6 rfl (eq_fr ?_)⟩)))))))
      · rw [hkk, Nat.mul_one]; exact hN
      · rw [hkk, Nat.mul_one]; exact cs2
      have e1 : (sumN n fun s => rowF n (Wm z M S) fi x.cps.toList s * ones s) = ch := sumN_ext fun i _ => Rat.mul_one _
      rw [e1, if_neg Bool.false_ne_true, decide_eq_true rfl]
      exact k
    rintro j e0 e hd ⟨v8, v9, v10, rfl⟩
    rw [List.getElem?_map] at hd
    obtain ⟨i, hi1, rfl⟩ := Option.map_eq_some_iff.mp hd
    have hi : i ≤ kl := hl i (List.mem_of_getElem? hi1)
    refine g_name 8 ev.nd ?_
    let hd : Str := cutS x none (some (i : Int))
    let tl : Str := cutS x (some (i : Int)) none
    have ehd : hd.cps.toList = x.cps.toList.take i := cutS_take x i
    have etl : tl.cps.toList = x.cps.toList.drop i := cutS_drop x i
    have lhd : hd.cps.toList.length = i := by rw [ehd, List.length_take]; omega
    have ltl : tl.cps.toList.length = kl - i := by rw [etl, List.length_drop]; omega
    have xhd : ∀ c ∈ hd.cps.toList, c ∈ z.cps.toList := fun c hc => hx c (List.mem_of_mem_take (by rw [← ehd]; exact hc))
    have xtl : ∀ c ∈ tl.cps.toList, c ∈ z.cps.toList := fun c hc => hx c (List.mem_of_mem_drop (by rw [← etl]; exact hc))
    have bghd : Bg n N0 N0 (m2 * m1) (m2 * m1) hd.cps.toList.length := by rw [lhd]; exact mb.bg.le hi
    have bgtl : Bg n 1 1 (m2 * m1) (m2 * m1) tl.cps.toList.length := by rw [ltl]; exact mb.bc.le (Nat.sub_le _ _)
    refine s_cons (s_set 9 ev (e_sl (e_var 3 rfl (p_none (p_some (e_var 8 rfl ⟨_, rfl, hkl, ?_⟩))))))
    refine s_cons (s_set 10 ev (e_sl (e_var 3 rfl (p_some (e_var 8 rfl ⟨_, rfl, p_none ⟨hkl, ?_⟩⟩)))))
    refine s_cons (s_if (t_not (t_val (e_call c5 ev (by decide) (a_cons (e_call c6 ev (by decide) (a_cons (e_var 2 rfl (a_cons (e_var 9 rfl (a_nil ⟨_, z, hd, n, _, _, fi, ones, Wm z M S, N0, N0, rfl, hM, xhd, by omega, md.fi.sz, mb.wsz, bghd, a_cons (e_ix ev.room (e_var 4 rfl (e_var 8 rfl ⟨_, atI_nat (rowsD_at (show i < kl + 1 by omega)), a_nil ⟨n, _, _, rfl, by omega, fun s hs => ?_, fun h => Bool.noConfusion h, fun _ => ?_⟩⟩)))⟩)))))))))))
    · rw [ehd]
    refine s_nil (s_cons (s_if (t_not (t_val (e_call c5 ev (by decide) (a_cons (e_call c7 ev (by decide) (a_cons (e_var 2 rfl (a_cons (e_var 10 rfl (a_nil ⟨_, z, tl, n, _, _, fi, ones, Wm z M S, 1, 1, rfl, hM, xtl, by omega, one_sz, mb.wsz, bgtl, a_cons (e_ix ev.room (e_var 5 rfl (e_var 8 rfl ⟨_, atI_nat (rowsD_at (show i < kl + 1 by omega)), a_nil ⟨n, _, _, rfl, by omega, fun s hs => ?_, fun h => Bool.noConfusion h, fun _ => ?_⟩⟩)))⟩))))))))))))
    · rw [etl]
    refine s_nil (s_cons (s_if (t_not (t_val (e_call c5 ev (by decide) (a_cons (e_mStart mc (e_call c8 ev (by decide) (a_cons (e_var 2 rfl (a_cons (e_var 9 rfl (a_nil ⟨_, z, hd, n, _, _, fi, ones, Wm z M S, N0, N0, rfl, hM, md.al, xhd, by omega, md.fi.sz, mb.wsz, bghd, fun d' hM' => ?_⟩)))))))))))))
    · obtain ⟨gv, as, tbl, rfl, _⟩ := id hM'
      refine ⟨_, _, _, _, _, _, rfl, a_cons (e_ix ev.room (e_var 4 rfl (e_var 8 rfl ⟨_, atI_nat (rowsD_at (show i < kl + 1 by omega)), a_nil ⟨n, _, _, rfl, by omega, fun s hs => ?_, fun h => Bool.noConfusion h, fun _ => ?_⟩⟩)))⟩
      · rw [ehd]
      refine s_nil (s_cons (s_if (t_not (t_val (e_call c5 ev (by decide) (a_cons (e_mEnd mc (e_call c9 ev (by decide) (a_cons (e_var 2 rfl (a_cons (e_var 10 rfl (a_nil ⟨_, z, tl, n, _, _, fi, ones, Wm z M S, 1, 1, rfl, hM, md.al, xtl, by omega, one_sz, mb.wsz, bgtl, fun d' hM' => ?_⟩)))))))))))))
      obtain ⟨gv, as, tbl, rfl, _⟩ := id hM'
      refine ⟨_, _, _, _, _, _, rfl, a_cons (e_ix ev.room (e_var 5 rfl (e_var 8 rfl ⟨_, atI_nat (rowsD_at (show i < kl + 1 by omega)), a_nil ⟨n, _, _, rfl, by omega, fun s hs => ?_, fun h => Bool.noConfusion h, fun _ => ?_⟩⟩)))⟩
      · rw [etl]
      have szR := sz_rowF mb.bg.m0 mb.wsz hd.cps.toList mb.bg.N0 md.fi.sz xhd
      have szC := sz_colF (N := 1) (A := 1) (by decide) mb.bc.m0 one_sz mb.wsz tl.cps.toList xtl
      have bgc : Bg n (N0 * (m2 * m1) ^ hd.cps.toList.length) (N0 * (n * (m2 * m1)) ^ hd.cps.toList.length) (m2 * m1) (m2 * m1) tl.cps.toList.length := by
        rw [lhd, ltl]
        exact mb.bg.cutL hi
      have pN : N0 * (m2 * m1) ^ hd.cps.toList.length * (m2 * m1) ^ tl.cps.toList.length = N0 * (m2 * m1) ^ kl := by
        rw [lhd, ltl, Nat.mul_assoc, ← Nat.pow_add, show i + (kl - i) = kl by omega]
      have pA : N0 * (n * (m2 * m1)) ^ hd.cps.toList.length * (n * (m2 * m1)) ^ tl.cps.toList.length = N0 * (n * (m2 * m1)) ^ kl := by
        rw [lhd, ltl, Nat.mul_assoc, ← Nat.pow_add, show i + (kl - i) = kl by omega]
      refine s_nil (s_cons (s_if (t_cmp (c_ne ev.room (e_call c10 ev (by decide) (a_cons (e_call c8 ev (by decide) (a_cons (e_var 2 rfl (a_cons (e_var 9 rfl (a_nil ⟨_, z, hd, n, _, _, fi, ones, Wm z M S, N0, N0, rfl, hM, md.al, xhd, by omega, md.fi.sz, mb.wsz, bghd, fun d' hM' => a_cons (e_var 10 rfl (a_nil ⟨_, z, tl, n, _, _, _, ones, Wm z M S, _, _, 1, 1, rfl, hM', xtl, by omega, szR, one_sz, mb.wsz, bgc, one_lt, one_lt, ?_, ?_, e_var 6 rfl (eq_fr ⟨_, rfl, fun h => ?_, fun _ => ?_⟩)⟩))⟩))))))))))))
      · rw [pN, Nat.mul_one]; exact hN
      · rw [pA, Nat.mul_one]; exact cs2
      · have e1 : (sumN n fun s => rowF n (Wm z M S) (rowF n (Wm z M S) fi hd.cps.toList) tl.cps.toList s * ones s) = ch := by
          rw [rowF_app, ehd, etl, List.take_append_drop]
          exact sumN_ext fun i _ => Rat.mul_one _
        rw [e1] at h
        simp at h
      have bge : 1 * (m2 * m1) ^ tl.cps.toList.length < 2 ^ 2900 := bgtl.lt (by omega)
      have bgf : 1 * (n * (m2 * m1)) ^ tl.cps.toList.length < 2 ^ 2900 := bgtl.ltA (by omega)
      refine s_nil (s_cons (s_if (t_cmp (c_ne ev.room (e_call c10 ev (by decide) (a_cons (e_call c9 ev (by decide) (a_cons (e_var 2 rfl (a_cons (e_var 10 rfl (a_nil ⟨_, z, tl, n, _, _, fi, ones, Wm z M S, 1, 1, rfl, hM, md.al, xtl, by omega, one_sz, mb.wsz, bgtl, fun d' hM' => a_cons (e_var 9 rfl (a_nil ⟨_, z, hd, n, _, _, fi, _, Wm z M S, N0, N0, _, _, rfl, hM', xhd, by omega, md.fi.sz, szC, mb.wsz, bghd, bge, bgf, ?_, ?_, e_var 6 rfl (eq_fr ⟨_, rfl, fun h => ?_, fun _ => ?_⟩)⟩))⟩))))))))))))
      · rw [Nat.one_mul, pN]; exact hN
      · rw [Nat.one_mul, pA]; exact cs2
      · have e1 : (sumN n fun s => rowF n (Wm z M S) fi hd.cps.toList s * colF n (Wm z M S) ones tl.cps.toList s) = ch := by
          rw [cut_eq, ehd, etl, List.take_append_drop]
          rfl
        rw [e1] at h
        simp at h
      exact s_nil (s_nil ⟨_, _, _, rfl⟩)
end
end K69
set_option Elab.async false
set_option linter.all false
set_option maxRecDepth 100000
set_option maxHeartbeats 4000000
set_option exponentiation.threshold 10000
namespace K69
open PySem PySem.Spec L2 SY
theorem ChF.ch {n N : Nat} {f : Nat → Rat} (h : ChF n N f) (n1 : 1 ≤ n) (n2 : n ≤ 1000) (hN : n * N < 2 ^ 2900) : K69.Ch (vec n f) where
  nn := fun q hq => by
    obtain ⟨i, hi, rfl⟩ := vec_mem hq
    exact h.nn i hi
  one := h.one
  len := by rw [vec_len]; exact n2
  sz := by
    have N0 : 0 < N := (h.sz 0 n1).1
    have hN1 : N < 2 ^ 2900 := Nat.lt_of_le_of_lt (Nat.le_mul_of_pos_left N n1) hN
    refine ⟨N, N, fun q hq => ?_, N0, hN1, by rw [vec_len]; exact hN, hN1⟩
    obtain ⟨i, hi, rfl⟩ := vec_mem hq
    exact h.sz i hi
/-- the chain that begins in s -/
def dlt (s : Nat) : Nat → Rat := fun k => if k = s then 1 else 0
theorem sum_dlt {n s : Nat} (hs : s < n) (c : Nat → Rat) : sumN n (fun i => dlt s i * c i) = c s := by
  have : ∀ i, i < n → dlt s i * c i = if i = s then c s else 0 := fun i _ => by
    unfold dlt
    by_cases h : i = s
    · rw [if_pos h, if_pos h, h, Rat.one_mul]
    · rw [if_neg h, if_neg h, Rat.zero_mul]
  rw [sumN_ext this]
  exact sumN_one hs
theorem dlt_ch {n s : Nat} (hs : s < n) : ChF n 1 (dlt s) where
  nn := fun i _ => by
    unfold dlt
    split
    · exact by decide
    · exact Rat.le_refl
  sz := fun i _ => by
    unfold dlt
    split
    · exact Sz.one (by decide)
    · exact Sz.zero (by decide) 1
  one := by
    have := sum_dlt hs (fun _ => 1)
    rw [← this]
    exact sumN_ext fun i _ => (Rat.mul_one _).symm
theorem fr_dlt (k s : Nat) : D.tup [.int (if decide ((k : Int) = (s : Int)) = true then 1 else 0), .int 1] = fr (dlt s k) := by
  unfold dlt
  by_cases h : k = s
  · rw [if_pos h, if_pos (by rw [h]; exact decide_eq_true rfl)]
    rfl
  · have : ¬ (k : Int) = (s : Int) := by omega
    rw [if_neg h, if_neg (by rw [decide_eq_false this]; exact Bool.false_ne_true)]
    rfl
theorem md_put {z : Str} {n : Nat} {fi gi : Nat → Rat} {M S : Nat → Nat → Rat} : dput (modD z n fi M S) (.inr "first") (.lst (frs (vec n gi))) = modD z n gi M S := by
  unfold modD
  rw [dp_past (by decide), dp_here]
  exact nin_cons (by decide) (nin_cons (by decide) nin_nil)
/-- what Hidden wants of a model's numbers -/
structure HidOk (z : Str) (n : Nat) (fi : Nat → Rat) (M S : Nat → Nat → Rat) : Prop where
  fi : K69.Ch (vec n fi)
  M : ∀ s, s < n → K69.Ch (vec n (M s))
  S : ∀ s, s < n → K69.Ch (vec z.cps.toList.length (S s))
theorem MdB.dlt {z : Str} {n N0 m1 m2 k s : Nat} {fi : Nat → Rat} {M S : Nat → Nat → Rat} (mb : MdB z n N0 m1 m2 fi M S k) (hs : s < n) : MdB z n 1 m1 m2 (K69.dlt s) M S k :=
  ⟨⟨mb.md.al, mb.md.n1, mb.md.n2, dlt_ch hs, mb.md.M, mb.md.S⟩, mb.bc, mb.bc⟩
theorem str_empty {x : Str} (h : x.cps.toList = []) : x = "" := by
  obtain ⟨c⟩ := x
  have : c = #[] := by
    cases c
    simp at h
    subst h
    rfl
  rw [this]
  rfl
section
variable {P : Program} {w : World} {K : PySem.W.Frag} {mg : Str → Option Value} {base : Heap} {C Ch CB CI : Addr}
def S_fst (a : Addr) : S0 := fun ds Q => ∃ (z x : Str) (n N0 m1 m2 : Nat) (fi : Nat → Rat) (M S : Nat → Nat → Rat), ds = [.ref a, .dic (modD z n fi M S), .str x, dueD z n fi M S x] ∧
  MdB z n N0 m1 m2 fi M S x.cps.toList.length ∧ HidOk z n fi M S ∧ x.cps.toList.length ≤ 1000 ∧ (∀ c ∈ x.cps.toList, c ∈ z.cps.toList) ∧ Q (.bl true)
theorem ok_fst (fr : Free mg) (D0 : DefOk K mg "_law_first_state" (top 87) []) (c1 : FnS P w K mg base 1 "_law_take" (spW K (Wbox K) S_take)) (c2 : FnS P w K mg base 5 "_law_columns" (spP K S_lcols)) (c3 : FnS P w K mg base 9 "_law_hidden" (spP K (S_lhid Ch))) (c4 : FnS P w K mg base 12 "hidden_machine" (spP K (S_hidm C Ch)))
    (c5 : FnS P w K mg base 5 "weight_of" (spP K (S_weightof C))) (c6 : FnS P w K mg base 5 "_law_rows" (spP K S_lrows)) (c7 : FnS P w K mg base 4 "_law_total" (spP K S_ltotal)) (c8 : FnS P w K mg base 4 "_law_times" (spP K S_mul)) (c9 : FnS P w K mg base 6 "_law_due" (spP K S_due)) (c10 : FnS P w K mg base 16 "_law_right" (spP K (S_right Ch))) :
    FnS P w K mg base 17 "_law_first_state" (spW K (Wbox K) S_fst) := by
  refine mkFnW (N := ["box", "model", "text", "due", "size", "s", "sure", "column", "hidden", "chance", "share", "sure_due", "k"]) (ps := ["box", "model", "text", "due"]) D0 (C8.fnScope_by (by decide +kernel)) ?_ fr (fun _ _ _ _ _ _ us hl => match us, hl with | [_, _, _, _], _ => rfl) ?_
  · rintro _ ds Q ⟨_, _, _, _, _, _, _, _, _, rfl, _⟩; rfl
  · rintro f0 cdv Ar outer sh H0 E ev hp a ds Q F ⟨z, x, n, N0, m1, m2, fi, M, S, rfl, mb, ho, hxl, hx, kk⟩
    have md := mb.md
    have n1 := md.n1
    have n2 := md.n2
    obtain ⟨cs1, cs2, cs3, cs4⟩ := mb.ch_sz hx
    have hN : N0 * (m2 * m1) ^ x.cps.toList.length < 2 ^ 2900 := mb.bg.lt (by omega)
    refine s_cons (s_set 4 ev (e_len fr (e_ix ev.room (e_var 1 rfl (e_str ⟨_, md_first, ?_⟩)))))
    show qS _ _ _ _ _ _
    refine s_cons (s_set 5 ev (e_callW c1 ev (by decide) a rfl (a_cons (e_var 0 rfl (a_cons (e_var 4 rfl (a_nil ⟨((frs (vec n fi)).length : Nat), rfl, ?_, ?_, fun r h1 h2 => ?_⟩)))))))
    · rw [frs_vec_len]; omega
    · rw [frs_vec_len]; omega
    rw [frs_vec_len] at h2
    obtain ⟨s, rfl⟩ : ∃ s : Nat, r = (s : Int) := ⟨r.toNat, (Int.toNat_of_nonneg h1).symm⟩
    have hs : s < n := by omega
    rw [frs_vec_len]
    refine s_cons (s_dcopy 6 ev (e_var 1 rfl ⟨_, rfl, ?_⟩))
    refine s_cons (s_dput 6 ev rfl (e_own (o_lc (own := [("k", 12)]) [12] ev.calm ev.nd ?_ (by decide) (lc_map (i_rng fr (e_var 4 rfl ⟨(n : Nat), rfl, by omega, by omega, by rw [rng_len]; omega, frs (vec n (dlt s)), by rw [rng_len, frs_vec_len], e_str ⟨_, rfl, by show 4 < _; decide, ?_⟩, fun t d hd y hy => ?_⟩))))))
    · show blkC ["box", "model", "text", "due", "size", "s", "sure", "column", "hidden", "chance", "share", "sure_due", "k"] (defScope (top 87)) _ _ = true
      decide +kernel
    · rw [md_put]
      let Cc : Nat → Nat → Rat := fun i => colF n (Wm z M S) ones (x.cps.toList.drop i)
      have mbd := mb.dlt hs
      have hdl : K69.Ch (vec n (dlt s)) := (dlt_ch hs).ch n1 (by omega) (Nat.lt_of_le_of_lt (show n * 1 ≤ 24 by omega) (by decide))
      refine s_fzD 6 rfl (s_cons (s_set 7 ev (e_ix ev.room (e_call c2 ev (by decide) (a_cons (e_var 1 rfl (a_cons (e_var 2 rfl (a_nil ⟨z, x, n, N0, m1, m2, fi, M, S, rfl, mb, hxl, hx, e_int ⟨_, atI_nat (rowsD_at (Nat.succ_pos _)), ?_⟩⟩)))))))))
      refine s_cons (s_set 8 ev (e_call c3 ev (by decide) (a_cons (e_var 6 rfl (a_nil ⟨z, n, dlt s, M, S, rfl, md.al, n1, n2, hdl, ho.M, ho.S, ?_⟩)))))
      refine s_cons (s_if (t_cmp (c_ne ev.room (e_call c5 ev (by decide) (a_cons (e_call c4 ev (by decide) (a_cons (e_var 8 rfl (a_nil ⟨z, n, 1, m1, m2, dlt s, M, S, _, rfl, mbd, fun d hM => a_cons (e_var 2 rfl (a_nil ⟨d, z, x, n, _, _, dlt s, ones, Wm z M S, 1, 1, 1, 1, rfl, hM, hx, hxl, (dlt_ch hs).sz, one_sz, mb.wsz, mb.bc, one_lt, one_lt, ?_, ?_, e_ix ev.room (e_var 7 rfl (e_var 5 rfl ⟨_, atI_nat (frs_vec_at hs), eq_fr ⟨_, rfl, fun h => ?_, fun _ => ?_⟩⟩))⟩))⟩)))))))))
      · rw [Nat.mul_one]; exact mb.bc.lt (by omega)
      · rw [Nat.mul_one]; exact mb.bc.ltB
      · have e1 : (sumN n fun i => rowF n (Wm z M S) (dlt s) x.cps.toList i * ones i) = Cc 0 s := by
          have := cut_eq n (Wm z M S) (dlt s) x.cps.toList []
          rw [List.nil_append] at this
          have e2 : (sumN n fun i => rowF n (Wm z M S) (dlt s) x.cps.toList i * ones i) = sumN n (rowF n (Wm z M S) (dlt s) x.cps.toList) := sumN_ext fun i _ => Rat.mul_one _
          rw [e2, ← this]
          exact sum_dlt hs _
        rw [e1] at h
        simp [Cc] at h
      refine s_nil (s_cons (s_if (t_bool (w_or (t_cmp (c_eq ev.room (e_var 2 rfl (e_str ⟨_, rfl, fun _ => ⟨fun _ => s_cons (s_ret (e_bl kk)), fun h => Bool.noConfusion h⟩, fun hk => ?_⟩))))))))
      have hx0 : 0 < x.cps.toList.length := by
        have hne : ¬ x = "" := of_decide_eq_false (by simpa using hk)
        cases hq : x.cps.toList with
        | nil => exact absurd (str_empty hq) hne
        | cons c l => exact Nat.succ_pos _
      refine w_or1 (t_cmp (c_isN (e_var 3 rfl ⟨_, rfl, fun _ => s_cons (s_ret (e_bl kk)), fun hk => ?_⟩)))
      by_cases hch0 : chanceQ z n fi M S x = 0
      · unfold dueD at hk
        rw [if_pos hch0] at hk
        exact Bool.noConfusion hk
      have ed : dueD z n fi M S x = rowsD n x.cps.toList.length (dueQ z n fi M S x) := if_neg hch0
      rw [ed]
      have hpos : 0 < chanceQ z n fi M S x := Rat.lt_of_le_of_ne cs4 (Ne.symm hch0)
      have inv_ok := ok_inv hpos cs3
      let R : Nat → Nat → Rat := fun i => rowF n (Wm z M S) fi (x.cps.toList.take i)
      have hlast : L2.atI (vec (x.cps.toList.length + 1) fun i => D.lst (frs (vec n (R i)))) (-1) = some (.lst (frs (vec n (rowF n (Wm z M S) fi x.cps.toList)))) := by
        rw [vec_succ]
        have : R x.cps.toList.length = rowF n (Wm z M S) fi x.cps.toList := by
          show rowF n (Wm z M S) fi (x.cps.toList.take x.cps.toList.length) = _
          rw [List.take_length]
        rw [this]
        exact atI_last _ _
      refine s_nil (s_cons (s_set 9 ev (e_call c7 ev (by decide) (a_cons (e_ix ev.room (e_call c6 ev (by decide) (a_cons (e_var 1 rfl (a_cons (e_var 2 rfl (a_nil ⟨z, x, n, N0, m1, m2, fi, M, S, rfl, mb, hxl, hx, e_neg (e_int ⟨_, rfl, _, hlast, a_nil ⟨n, _, _, _, rfl, Nat.mul_pos mb.bg.N0 (Nat.pow_pos mb.bg.m0), cs1, hN, cs2, ?_⟩⟩)⟩)))))))))))
      have hR0 : ∀ t, t < n → Sz N0 N0 (fi t) := md.fi.sz
      have hC0 : ∀ t, t < n → Sz (1 * (m2 * m1) ^ x.cps.toList.length) (1 * (n * (m2 * m1)) ^ x.cps.toList.length) (Cc 0 t) := sz_colF (N := 1) (A := 1) (by decide) mb.bc.m0 one_sz mb.wsz x.cps.toList hx
      have hP := (hR0 s hs).mul (hC0 s hs)
      have b0 := mb.bg.big (i := 0) (Nat.zero_le _)
      have o1 : Ok (fi s) := (hR0 s hs).ok (by have := mb.bg.lt (i := 0) (by omega); simpa using this) (by have := mb.bg.ltA (i := 0) (by omega); simpa using this)
      have o2 : Ok (Cc 0 s) := (hC0 s hs).ok (mb.bc.lt (by omega)) (mb.bc.ltA (by omega))
      have o3 : Ok (fi s * Cc 0 s) := hP.ok (by rw [Nat.one_mul]; exact hN) (by rw [Nat.one_mul]; exact mb.bg.ltA (by omega))
      refine s_cons (s_set 10 ev (e_call c8 ev (by decide) (a_cons (e_call c8 ev (by decide) (a_cons (e_ix ev.room (e_ix ev.room (e_var 1 rfl (e_str ⟨_, md_first, e_var 5 rfl ⟨_, atI_nat (frs_vec_at hs), a_cons (e_ix ev.room (e_var 7 rfl (e_var 5 rfl ⟨_, atI_nat (frs_vec_at hs), a_nil ⟨fi s, Cc 0 s, rfl, o1, o2, a_cons (e_tup (a_cons (e_p1 ev (e_var 9 rfl ⟨_, rfl, a_cons (e_p0 ev (e_var 9 rfl ⟨_, rfl, a_nil ⟨Nat.le_of_ble_eq_true rfl, ?_⟩⟩))⟩)))) ⟩⟩)))⟩⟩)))))))))
      have hch' : sumN n (rowF n (Wm z M S) fi x.cps.toList) = chanceQ z n fi M S x := rfl
      rw [hch', ← fr_inv hpos]
      refine a_nil ⟨fi s * Cc 0 s, (chanceQ z n fi M S x)⁻¹, rfl, o3, inv_ok, ?_⟩
      refine s_cons (s_if (t_cmp (c_ne ev.room (e_var 10 rfl (e_ix ev.room (e_ix ev.room (e_var 3 rfl (e_int ⟨_, atI_nat (rowsD_at hx0), e_var 5 rfl ⟨_, atI_nat (frs_vec_at hs), eq_fr ⟨_, rfl, fun h => ?_, fun _ => ?_⟩⟩⟩))))))))
      · have e1 : dueQ z n fi M S x 0 s = fi s * Cc 0 s * (chanceQ z n fi M S x)⁻¹ := rfl
        rw [e1] at h
        simp at h
      refine s_nil (s_cons (s_set 11 ev (e_call c9 ev (by decide) (a_cons (e_var 6 rfl (a_cons (e_var 2 rfl (a_nil ⟨z, x, n, 1, m1, m2, dlt s, M, S, rfl, mbd, hxl, hx, ?_⟩))))))))
      exact s_cons (s_ret (e_call c10 ev (by decide) (a_cons (e_var 8 rfl (a_cons (e_var 2 rfl (a_cons (e_var 11 rfl (a_nil ⟨z, x, n, 1, m1, m2, dlt s, M, S, rfl, hxl, hx, mbd, kk⟩)))))))))
    · obtain ⟨ht, rfl⟩ := rng_get hd
      obtain ⟨_, rfl⟩ := frs_vec_get hy
      intro s1 H1 C1 cl fp
      refine g_name 12 ev.nd ?_
      intro s1 H1 C1 cl fp
      refine e_tup (a_cons (e_toInt (by exact fr) (e_cmp (c_eq (n := 16) ev.room (e_var 12 rfl (e_var 5 rfl ?_))))))
      exact a_cons (e_int (a_nil ⟨Nat.le_of_ble_eq_true rfl, fr_dlt t s⟩))
end
end K69
set_option Elab.async false
set_option linter.all false
set_option maxRecDepth 100000
set_option maxHeartbeats 4000000
set_option exponentiation.threshold 10000
namespace K69
open PySem PySem.Spec L2 SY
/-- the state that a state of the split chain comes from; the shares -/
def src (n s r : Nat) : Nat := if r = n then s else r
def spl (n s : Nat) (q : Rat) (f : Nat → Rat) : Nat → Rat := fun t => if t = s then q * f s else if t = n then (1 + (-1) * q) * f s else f t
theorem frs_app {n : Nat} {f : Nat → Rat} {y : Rat} : frs (vec n f) ++ [fr y] = frs (vec (n + 1) fun t => if t = n then y else f t) := by
  rw [vec_succ, if_pos rfl]
  have : vec n (fun t => if t = n then y else f t) = vec n f := vec_ext fun i hi => if_neg (by omega)
  rw [this]
  unfold frs
  rw [List.map_append]
  rfl
theorem frs_spl {n s : Nat} {q : Rat} {f : Nat → Rat} : (frs (vec n f) ++ [fr ((1 + (-1) * q) * f s)]).set s (fr (q * f s)) = frs (vec (n + 1) (spl n s q f)) := by
  rw [frs_app, frs_vec_set]
  rfl
theorem rows_src {n m s : Nat} {M : Nat → Nat → Rat} : vrows n m M ++ [.lst (frs (vec m (M s)))] = vrows (n + 1) m fun r => M (src n s r) := by
  unfold vrows
  rw [vec_succ]
  have e1 : (vec n fun r => D.lst (frs (vec m (M (src n s r))))) = vec n fun r => D.lst (frs (vec m (M r))) := vec_ext fun i hi => by
    unfold src
    rw [if_neg (by omega)]
  rw [e1]
  have e2 : src n s n = s := if_pos rfl
  dsimp only
  rw [e2]
theorem ixN_at {n j : Nat} (hj : j < n) : ixN n (j : Int) = some j := by
  unfold ixN
  rw [if_pos (by omega), if_pos (by omega)]
  simp
theorem ok_m1 : Ok (-1) := ⟨Nat.lt_of_le_of_lt (show ((-1 : Rat).num).natAbs ≤ 1 by decide) one_lt, one_lt⟩
section
variable {P : Program} {w : World} {K : PySem.W.Frag} {mg : Str → Option Value} {base : Heap} {C Ch CB CI : Addr}
def S_split : S0 := fun ds Q => ∃ (z : Str) (n s : Nat) (q : Rat) (fi : Nat → Rat) (M S : Nat → Nat → Rat), ds = [.dic (modD z n fi M S), .int (s : Nat), fr q] ∧ s < n ∧ n ≤ 24 ∧ z.cps.toList.length ≤ 5 ∧ Ok q ∧ Ok (1 + (-1) * q) ∧ (∀ t, t < n → Ok (fi t)) ∧ (∀ r, r < n → ∀ t, t < n → Ok (M r t)) ∧
  Q (.dic (modD z (n + 1) (spl n s q fi) (fun r => spl n s q (M (src n s r))) (fun r => S (src n s r))))
theorem ok_split (fr : Free mg) (D0 : DefOk K mg "_law_split" (top 88) []) (c1 : FnS P w K mg base 3 "_law_more" (spP K S_more)) (c2 : FnS P w K mg base 4 "_law_times" (spP K S_mul)) : FnS P w K mg base 5 "_law_split" (spP K S_split) := by
  refine mkFnW (N := ["model", "s", "q", "rest", "first", "moves", "row", "wide", "shows"]) (ps := ["model", "s", "q"]) D0 (C8.fnScope_by (by decide +kernel)) ?_ fr (fun _ _ _ _ _ _ us hl => match us, hl with | [_, _, _], _ => rfl) ?_
  · rintro _ ds Q ⟨_, _, _, _, _, _, _, rfl, _⟩; rfl
  · rintro f0 cdv Ar outer sh H0 E ev hp _ ds Q F ⟨z, n, s, q, fi, M, S, rfl, hs, n2, hz, oq, orr, ofi, oM, kk⟩
    have em1 : D.tup [.int (-1), .int 1] = K69.fr (-1) := rfl
    refine s_cons (s_set 3 ev (e_call c1 ev (by decide) (a_cons (e_tup (a_cons (e_int (a_cons (e_int (a_nil ⟨Nat.le_of_ble_eq_true rfl, ?_⟩)))))))))
    refine a_cons (e_tup (a_cons (e_neg (e_int ⟨_, rfl, a_cons (e_int (a_nil ⟨Nat.le_of_ble_eq_true rfl, a_cons (e_var 2 rfl (a_nil ⟨1, -1, q, rfl, ok1, ok_m1, oq, ?_⟩))⟩))⟩))))
    refine s_cons (s_own 4 ev (o_cat (e_ix ev.room (e_var 0 rfl (e_str ⟨_, md_first, ?_⟩)))))
    refine e_own (o_lst (a_cons (e_call c2 ev (by decide) (a_cons (e_var 3 rfl (a_cons (e_ix ev.room (e_ix ev.room (e_var 0 rfl (e_str ⟨_, md_first, ?_⟩))))))))))
    refine e_var 1 rfl ⟨_, atI_nat (frs_vec_at hs), a_nil ⟨_, _, rfl, orr, ofi s hs, a_nil ⟨Nat.le_of_ble_eq_true rfl, _, _, rfl, rfl, ?_, ?_⟩⟩⟩
    · rw [frs_vec_len]; show n + 1 ≤ _; omega
    refine s_cons (s_put 4 rfl (e_call c2 ev (by decide) (a_cons (e_var 2 rfl (a_cons (e_ix ev.room (e_ix ev.room (e_var 0 rfl (e_str ⟨_, md_first, ?_⟩)))))))))
    refine e_var 1 rfl ⟨_, atI_nat (frs_vec_at hs), a_nil ⟨_, _, rfl, oq, ofi s hs, e_var 1 rfl ⟨_, s, rfl, ixN_at ?_, ?_⟩⟩⟩
    · rw [List.length_append, frs_vec_len]; omega
    rw [frs_spl]
    refine s_cons (s_own 5 ev (o_lst (a_nil ⟨Nat.le_of_ble_eq_true rfl, ?_⟩)))
    let M' : Nat → Nat → Rat := fun r => spl n s q (M (src n s r))
    have hsrc : ∀ r, r < n + 1 → src n s r < n := fun r hr => by unfold src; split <;> omega
    refine s_cons (s_for [6] hp ev (i_val (e_own (o_cat (e_ix ev.room (e_var 0 rfl (e_str ⟨_, md_moves, ?_⟩)))))))
    refine e_own (o_lst (a_cons (e_ix ev.room (e_ix ev.room (e_var 0 rfl (e_str ⟨_, md_moves, ?_⟩))))))
    refine e_var 1 rfl ⟨_, atI_nat (vrows_at hs), a_nil ⟨Nat.le_of_ble_eq_true rfl, _, _, rfl, rfl, ?_, _, rfl, ?_⟩⟩
    · rw [vrows_len]; show n + 1 ≤ _; omega
    rw [rows_src]
    refine ⟨fun i e => ∃ v6 v7, e = [.sh (.dic (modD z n fi M S)), .sh (.int (s : Nat)), .sh (K69.fr q), .sh (K69.fr (1 + (-1) * q)), .ow (frs (vec (n + 1) (spl n s q fi))), .ow (vec i fun r => .lst (frs (vec (n + 1) (M' r)))), v6, v7, .un], ⟨.un, .un, rfl⟩, ?_, ?_⟩
    · rintro e ⟨v6, v7, rfl⟩
      have e1 : (vrows (n + 1) n fun r => M (src n s r)).length = n + 1 := vrows_len
      rw [e1]
      refine s_fz 4 rfl (s_fz 5 rfl (s_cons (s_own 8 ev (o_cat (e_ix ev.room (e_var 0 rfl (e_str ⟨_, md_shows, ?_⟩)))))))
      refine e_own (o_lst (a_cons (e_ix ev.room (e_ix ev.room (e_var 0 rfl (e_str ⟨_, md_shows, ?_⟩))))))
      refine e_var 1 rfl ⟨_, atI_nat (vrows_at hs), a_nil ⟨Nat.le_of_ble_eq_true rfl, _, _, rfl, rfl, ?_, ?_⟩⟩
      · rw [vrows_len]; show n + 1 ≤ _; omega
      rw [rows_src]
      refine s_fz 8 rfl (s_cons (s_ret (e_disp (k_cons (e_ix ev.room (e_var 0 rfl (e_str ⟨_, md_letters, ?_⟩)))))))
      refine k_cons (e_var 4 rfl (k_cons (e_var 5 rfl (k_cons (e_var 8 rfl (k_nil ⟨Nat.le_of_ble_eq_true rfl, ?_⟩))))))
      show Q (.dic (dmerge [(.inr "letters", _), (.inr "first", _), (.inr "moves", _), (.inr "shows", _)]))
      rw [mod_merge]
      exact kk
    · rintro i d e hd ⟨v6, v7, rfl⟩
      obtain ⟨hi, rfl⟩ := vec_get hd
      have hr := hsrc i hi
      refine g_name 6 ev.nd ?_
      refine s_cons (s_own 7 ev (o_cat (e_var 6 rfl (e_own (o_lst (a_cons (e_call c2 ev (by decide) (a_cons (e_var 3 rfl (a_cons (e_ix ev.room (e_var 6 rfl (e_var 1 rfl ⟨_, atI_nat (frs_vec_at hs), ?_⟩)))))))))))))
      refine a_nil ⟨_, _, rfl, orr, oM _ hr s hs, a_nil ⟨Nat.le_of_ble_eq_true rfl, _, _, rfl, rfl, ?_, ?_⟩⟩
      · rw [frs_vec_len]; show n + 1 ≤ _; omega
      refine s_cons (s_put 7 rfl (e_call c2 ev (by decide) (a_cons (e_var 2 rfl (a_cons (e_ix ev.room (e_var 6 rfl (e_var 1 rfl ⟨_, atI_nat (frs_vec_at hs), ?_⟩))))))))
      refine a_nil ⟨_, _, rfl, oq, oM _ hr s hs, e_var 1 rfl ⟨_, s, rfl, ixN_at ?_, ?_⟩⟩
      · rw [List.length_append, frs_vec_len]; omega
      rw [frs_spl]
      refine s_fz 7 rfl (s_cons (s_app 5 rfl (e_var 7 rfl ⟨by rw [vec_len]; omega, s_nil ⟨.sh (.lst (frs (vec n (M (src n s i))))), .sh (.lst (frs (vec (n + 1) (M' i)))), ?_⟩⟩)))
      rw [vec_succ i]
      rfl
end
end K69
set_option Elab.async false
set_option linter.all false
set_option maxRecDepth 100000
set_option maxHeartbeats 4000000
set_option exponentiation.threshold 10000
namespace K69
open PySem PySem.Spec L2 SY
/-! the split chain -/
def shr (n s : Nat) (q : Rat) (t : Nat) : Rat := if t = s then q else if t = n then 1 + (-1) * q else 1
theorem spl_eq {n s : Nat} {q : Rat} {f : Nat → Rat} (hs : s < n) (t : Nat) : spl n s q f t = shr n s q t * f (src n s t) := by
  unfold spl shr src
  by_cases h : t = s
  · rw [if_pos h, if_pos h, if_neg (by omega), h]
  · rw [if_neg h, if_neg h]
    by_cases h2 : t = n
    · rw [if_pos h2, if_pos h2, if_pos h2]
    · rw [if_neg h2, if_neg h2, if_neg h2, Rat.one_mul]
theorem src_lt {n s r : Nat} (hs : s < n) (hr : r < n + 1) : src n s r < n := by unfold src; split <;> omega
theorem sum_split {n s : Nat} {q : Rat} (hs : s < n) (g : Nat → Rat) : sumN (n + 1) (fun r => shr n s q r * g (src n s r)) = sumN n g := by
  rw [sumN_succ]
  have e1 : ∀ r, r < n → shr n s q r * g (src n s r) = g r + (if r = s then (q - 1) * g s else 0) := fun r hr => by
    unfold shr src
    by_cases h : r = s
    · rw [if_pos h, if_neg (by omega), if_pos h, h]
      grind
    · rw [if_neg h, if_neg (by omega), if_neg (by omega), if_neg h, Rat.one_mul, Rat.add_zero]
  rw [sumN_ext e1, sumN_add, sumN_one hs]
  have e2 : shr n s q n * g (src n s n) = (1 + (-1) * q) * g s := by
    unfold shr src
    rw [if_neg (by omega), if_pos rfl, if_pos rfl]
  rw [e2]
  grind
section
variable {z : Str} {n s : Nat} {q : Rat} {fi : Nat → Rat} {M S : Nat → Nat → Rat}
theorem Wm_split (hs : s < n) (c r t : Nat) : Wm z (fun r => spl n s q (M (src n s r))) (fun r => S (src n s r)) c r t = shr n s q t * Wm z M S c (src n s r) (src n s t) := by
  show S (src n s r) (idx z c) * spl n s q (M (src n s r)) t = shr n s q t * (S (src n s r) (idx z c) * M (src n s r) (src n s t))
  rw [spl_eq hs]
  grind
theorem rowF_split (hs : s < n) : ∀ (l : List Nat) {f f' : Nat → Rat}, (∀ t, t < n + 1 → f' t = shr n s q t * f (src n s t)) → ∀ t, t < n + 1 →
    rowF (n + 1) (Wm z (fun r => spl n s q (M (src n s r))) (fun r => S (src n s r))) f' l t = shr n s q t * rowF n (Wm z M S) f l (src n s t)
  | [], _, _, h, t, ht => h t ht
  | c :: l, f, f', h, t, ht => by
    refine rowF_split hs l (f := stepR n (Wm z M S) f c) (f' := stepR (n + 1) _ f' c) (fun t ht => ?_) t ht
    unfold stepR
    rw [← sumN_mul]
    have e1 : ∀ r, r < n + 1 → f' r * Wm z (fun r => spl n s q (M (src n s r))) (fun r => S (src n s r)) c r t = shr n s q r * (shr n s q t * (f (src n s r) * Wm z M S c (src n s r) (src n s t))) := fun r hr => by
      rw [h r hr, Wm_split hs]
      grind
    rw [sumN_ext e1]
    exact sum_split hs fun r => shr n s q t * (f r * Wm z M S c r (src n s t))
theorem colF_split (hs : s < n) : ∀ (l : List Nat) (r : Nat), r < n + 1 →
    colF (n + 1) (Wm z (fun r => spl n s q (M (src n s r))) (fun r => S (src n s r))) ones l r = colF n (Wm z M S) ones l (src n s r)
  | [], _, _ => rfl
  | c :: l, r, hr => by
    rw [colF_cons, colF_cons]
    unfold stepC
    have e1 : ∀ t, t < n + 1 → Wm z (fun r => spl n s q (M (src n s r))) (fun r => S (src n s r)) c r t * colF (n + 1) (Wm z (fun r => spl n s q (M (src n s r))) (fun r => S (src n s r))) ones l t = shr n s q t * (Wm z M S c (src n s r) (src n s t) * colF n (Wm z M S) ones l (src n s t)) := fun t ht => by
      rw [Wm_split hs, colF_split hs l t ht]
      grind
    rw [sumN_ext e1]
    exact sum_split hs fun t => Wm z M S c (src n s r) t * colF n (Wm z M S) ones l t
theorem chance_split (hs : s < n) (x : Str) : chanceQ z (n + 1) (spl n s q fi) (fun r => spl n s q (M (src n s r))) (fun r => S (src n s r)) x = chanceQ z n fi M S x := by
  unfold chanceQ
  rw [sumN_ext (rowF_split hs x.cps.toList (f := fi) fun t _ => spl_eq hs t)]
  exact sum_split hs _
theorem due_split (hs : s < n) (x : Str) (i : Nat) {t : Nat} (ht : t < n + 1) : dueQ z (n + 1) (spl n s q fi) (fun r => spl n s q (M (src n s r))) (fun r => S (src n s r)) x i t = spl n s q (dueQ z n fi M S x i) t := by
  rw [spl_eq hs]
  unfold dueQ
  rw [chance_split hs, rowF_split hs (x.cps.toList.take i) (f := fi) (fun t _ => spl_eq hs t) t ht, colF_split hs _ t ht]
  grind
/-- a share -/
structure QOk (q : Rat) : Prop where
  p : 0 ≤ q
  r : 0 ≤ 1 + (-1) * q
  sp : Sz 12 12 q
  sr : Sz 12 12 (1 + (-1) * q)
theorem QOk.shr {n s t : Nat} (h : QOk q) : 0 ≤ K69.shr n s q t ∧ Sz 12 12 (K69.shr n s q t) := by
  unfold K69.shr
  split
  · exact ⟨h.p, h.sp⟩
  · split
    · exact ⟨h.r, h.sr⟩
    · exact ⟨by decide, Sz.one (by decide)⟩
theorem spl_ch {N : Nat} {f : Nat → Rat} (hs : s < n) (hq : QOk q) (h : ChF n N f) : ChF (n + 1) (12 * N) (spl n s q f) where
  nn := fun t ht => by
    rw [spl_eq hs]
    exact Rat.mul_nonneg hq.shr.1 (h.nn _ (src_lt hs ht))
  sz := fun t ht => by
    rw [spl_eq hs]
    exact hq.shr.2.mul (h.sz _ (src_lt hs ht))
  one := by
    rw [sumN_ext fun t _ => spl_eq hs t, sum_split hs, h.one]
theorem qs_ok : ∀ i : Nat, i < 5 → ∃ q, QOk q ∧ ([.tup [.int 1, .int 2], .tup [.int 1, .int 3], .tup [.int 3, .int 4], .tup [.int 1, .int 1], .tup [.int 0, .int 1]] : List D)[i]? = some (fr q)
  | 0, _ => ⟨mkRat 1 2, ⟨by decide +kernel, by decide +kernel, ⟨by decide +kernel, 6, by decide +kernel, by decide +kernel⟩, ⟨by decide +kernel, 6, by decide +kernel, by decide +kernel⟩⟩, rfl⟩
  | 1, _ => ⟨mkRat 1 3, ⟨by decide +kernel, by decide +kernel, ⟨by decide +kernel, 4, by decide +kernel, by decide +kernel⟩, ⟨by decide +kernel, 8, by decide +kernel, by decide +kernel⟩⟩, rfl⟩
  | 2, _ => ⟨mkRat 3 4, ⟨by decide +kernel, by decide +kernel, ⟨by decide +kernel, 9, by decide +kernel, by decide +kernel⟩, ⟨by decide +kernel, 3, by decide +kernel, by decide +kernel⟩⟩, rfl⟩
  | 3, _ => ⟨1, ⟨by decide +kernel, by decide +kernel, ⟨by decide +kernel, 12, by decide +kernel, by decide +kernel⟩, ⟨by decide +kernel, 0, by decide +kernel, by decide +kernel⟩⟩, rfl⟩
  | 4, _ => ⟨0, ⟨by decide +kernel, by decide +kernel, ⟨by decide +kernel, 0, by decide +kernel, by decide +kernel⟩, ⟨by decide +kernel, 12, by decide +kernel, by decide +kernel⟩⟩, rfl⟩
  | i + 5, h => absurd h (by omega)
end
theorem Bg.hid {n N A m B k : Nat} (g : Bg n N A m B k) : n * A < 2 ^ 2900 ∧ n * B < 2 ^ 2900 := by
  have hp : 0 < (n * B) ^ (k + 1) := Nat.pow_pos (Nat.mul_pos g.n0 g.B0)
  have h1 : n ≤ n * n + 1 := by
    have := Nat.le_mul_of_pos_right n g.n0
    omega
  constructor
  · exact Nat.lt_of_le_of_lt (Nat.mul_le_mul h1 (Nat.le_mul_of_pos_right A hp)) g.A1
  · have h2 : n * B ≤ (n * B) ^ (k + 1) := by
      have := pow_le (i := 1) (k := k + 1) (Nat.mul_pos g.n0 g.B0) (by omega)
      rwa [Nat.pow_one] at this
    have h3 : (n * B) ^ (k + 1) ≤ A * (n * B) ^ (k + 1) := Nat.le_mul_of_pos_left _ g.A0
    have h4 : A * (n * B) ^ (k + 1) ≤ (n * n + 1) * (A * (n * B) ^ (k + 1)) := Nat.le_mul_of_pos_left _ (Nat.succ_pos _)
    exact Nat.lt_of_le_of_lt (Nat.le_trans h2 (Nat.le_trans h3 h4)) g.A1
end K69
set_option Elab.async false
set_option linter.all false
set_option maxRecDepth 100000
set_option maxHeartbeats 4000000
set_option exponentiation.threshold 10000
namespace K69
open PySem PySem.Spec L2 SY
theorem Sz.quo {N A B : Nat} {p c : Rat} (hp : Sz N A p) (hc : Sz N B c) (h : 0 < c) : ∃ b, b ≤ B ∧ Sz b A (p * c⁻¹) := by
  obtain ⟨hn, a, rfl, ha⟩ := hp
  obtain ⟨_, b, rfl, hb⟩ := hc
  have hN : (0 : Int) < (N : Int) := by omega
  have hb0 : 0 ≤ b := (Rat.divInt_nonneg_iff_of_pos_right hN).mp (Rat.le_of_lt h)
  have hb1 : b ≠ 0 := fun e => by
    rw [e, Rat.zero_divInt] at h
    exact absurd h (Rat.lt_irrefl)
  refine ⟨b.toNat, by omega, by omega, a, ?_, ha⟩
  rw [Rat.inv_divInt, Rat.divInt_mul_divInt, Int.mul_comm (N : Int) b, Rat.divInt_mul_right (by omega), Int.toNat_of_nonneg hb0]
section
variable {P : Program} {w : World} {K : PySem.W.Frag} {mg : Str → Option Value} {base : Heap} {C Ch CB CI : Addr}
def S_splits (Ch : Addr) (a : Addr) : S0 := fun ds Q => ∃ (z x : Str) (n N0 m1 m2 : Nat) (fi : Nat → Rat) (M S : Nat → Nat → Rat), ds = [.ref a, .dic (modD z n fi M S), .ins Ch (hidL z n fi M S), .str x, dueD z n fi M S x] ∧
  MdB z n N0 m1 m2 fi M S x.cps.toList.length ∧ HidOk z n fi M S ∧ (n ≤ 23 → Bg (n + 1) (12 * N0) (12 * N0) (m2 * (12 * m1)) (m2 * (12 * m1)) x.cps.toList.length ∧ Bg (n + 1) 1 1 (m2 * (12 * m1)) (m2 * (12 * m1)) x.cps.toList.length) ∧
  x.cps.toList.length ≤ 1000 ∧ (∀ c ∈ x.cps.toList, c ∈ z.cps.toList) ∧ Q (.bl true)
theorem ok_splits (fr : Free mg) (D0 : DefOk K mg "_law_splits" (top 89) []) (c1 : FnS P w K mg base 1 "_law_take" (spW K (Wbox K) S_take)) (c2 : FnS P w K mg base 3 "_law_more" (spP K S_more)) (c3 : FnS P w K mg base 9 "_law_hidden" (spP K (S_lhid Ch))) (c4 : FnS P w K mg base 5 "_law_split" (spP K S_split))
    (c5 : FnS P w K mg base 4 "_law_times" (spP K S_mul)) (c6 : FnS P w K mg base 16 "_law_right" (spP K (S_right Ch))) : FnS P w K mg base 17 "_law_splits" (spW K (Wbox K) (S_splits Ch)) := by
  refine mkFnW (N := ["box", "model", "hidden", "text", "due", "size", "s", "q", "rest", "wide", "wide_due", "row", "found"]) (ps := ["box", "model", "hidden", "text", "due"]) D0 (C8.fnScope_by (by decide +kernel)) ?_ fr (fun _ _ _ _ _ _ us hl => match us, hl with | [_, _, _, _, _], _ => rfl) ?_
  · rintro _ ds Q ⟨_, _, _, _, _, _, _, _, _, rfl, _⟩; rfl
  · rintro f0 cdv Ar outer sh H0 E ev hp a ds Q F ⟨z, x, n, N0, m1, m2, fi, M, S, rfl, mb, ho, hbg, hxl, hx, kk⟩
    have md := mb.md
    have n1 := md.n1
    have n2 := md.n2
    have z5 := md.al.2.1
    refine s_cons (s_set 5 ev (e_len fr (e_ix ev.room (e_var 1 rfl (e_str ⟨_, md_first, ?_⟩)))))
    show qS _ _ _ _ _ _
    refine s_cons (s_if (t_cmp (c_gt (e_var 5 rfl (e_int ⟨_, rfl, fun _ => s_cons (s_ret (e_bl kk)), fun hk => ?_⟩)))))
    have n3 : n ≤ 23 := by
      have : ¬ (23 : Int) < ((frs (vec n fi)).length : Nat) := by simpa using hk
      rw [frs_vec_len] at this
      omega
    obtain ⟨bg1, bg2⟩ := hbg n3
    refine s_nil (s_cons (s_set 6 ev (e_callW c1 ev (by decide) a rfl (a_cons (e_var 0 rfl (a_cons (e_var 5 rfl (a_nil ⟨((frs (vec n fi)).length : Nat), rfl, ?_, ?_, fun r h1 h2 => ?_⟩))))))))
    · rw [frs_vec_len]; omega
    · rw [frs_vec_len]; omega
    rw [frs_vec_len] at h2
    obtain ⟨s, rfl⟩ : ∃ s : Nat, r = (s : Int) := ⟨r.toNat, (Int.toNat_of_nonneg h1).symm⟩
    have hs : s < n := by omega
    rw [frs_vec_len]
    refine s_cons (s_set 7 ev (e_ix ev.room (e_own (o_lst ?_))))
    refine a_cons (e_tup (a_cons (e_int (a_cons (e_int (a_nil ⟨Nat.le_of_ble_eq_true rfl, ?_⟩))))))
    refine a_cons (e_tup (a_cons (e_int (a_cons (e_int (a_nil ⟨Nat.le_of_ble_eq_true rfl, ?_⟩))))))
    refine a_cons (e_tup (a_cons (e_int (a_cons (e_int (a_nil ⟨Nat.le_of_ble_eq_true rfl, ?_⟩))))))
    refine a_cons (e_tup (a_cons (e_int (a_cons (e_int (a_nil ⟨Nat.le_of_ble_eq_true rfl, ?_⟩))))))
    refine a_cons (e_tup (a_cons (e_int (a_cons (e_int (a_nil ⟨Nat.le_of_ble_eq_true rfl, ?_⟩))))))
    refine a_nil ⟨Nat.le_of_ble_eq_true rfl, e_callW c1 ev (by decide) a rfl (a_cons (e_var 0 rfl (a_cons (e_int (a_nil ⟨5, rfl, by decide, by decide, fun r h3 h4 => ?_⟩)))))⟩
    obtain ⟨i, rfl⟩ : ∃ i : Nat, r = (i : Int) := ⟨r.toNat, (Int.toNat_of_nonneg h3).symm⟩
    obtain ⟨q, hq, hqi⟩ := qs_ok i (by omega)
    refine ⟨K69.fr q, atI_nat hqi, ?_⟩
    have l12 : 12 < 2 ^ 2900 := Nat.lt_of_lt_of_le (show 12 < 2 ^ 4 by decide) (Nat.pow_le_pow_right (by decide) (by decide))
    have oq := hq.sp.ok l12 l12
    have orr := hq.sr.ok l12 l12
    refine s_cons (s_set 8 ev (e_call c2 ev (by decide) (a_cons (e_tup (a_cons (e_int (a_cons (e_int (a_nil ⟨Nat.le_of_ble_eq_true rfl, ?_⟩)))))))))
    refine a_cons (e_tup (a_cons (e_neg (e_int ⟨_, rfl, a_cons (e_int (a_nil ⟨Nat.le_of_ble_eq_true rfl, a_cons (e_var 7 rfl (a_nil ⟨1, -1, q, rfl, ok1, ok_m1, oq, ?_⟩))⟩))⟩))))
    let fi' := spl n s q fi
    let M' : Nat → Nat → Rat := fun r => spl n s q (M (src n s r))
    let S' : Nat → Nat → Rat := fun r => S (src n s r)
    have b0 := mb.bg.big (i := 0) (Nat.zero_le _)
    have hN0 : N0 < 2 ^ 2900 := by have := mb.bg.lt (i := 0) (by omega); simpa using this
    have hm1 : m1 < 2 ^ 2900 := Nat.lt_of_le_of_lt (Nat.le_mul_of_pos_left m1 mb.m2p) b0.m1
    have ofi : ∀ t, t < n → Ok (fi t) := fun t ht => (md.fi.sz t ht).ok hN0 hN0
    have oM : ∀ r, r < n → ∀ t, t < n → Ok (M r t) := fun r hr t ht => ((md.M r hr).sz t ht).ok hm1 hm1
    have f1 : ChF (n + 1) (12 * N0) fi' := spl_ch hs hq md.fi
    have f2 : ∀ r, r < n + 1 → ChF (n + 1) (12 * m1) (M' r) := fun r hr => spl_ch hs hq (md.M _ (src_lt hs hr))
    have f3 : ∀ r, r < n + 1 → ChF z.cps.toList.length m2 (S' r) := fun r hr => md.S _ (src_lt hs hr)
    have mb' : MdB z (n + 1) (12 * N0) (12 * m1) m2 fi' M' S' x.cps.toList.length := ⟨⟨md.al, by omega, by omega, f1, f2, f3⟩, bg1, bg2⟩
    have h12m : (n + 1) * (12 * m1) < 2 ^ 2900 := Nat.lt_of_le_of_lt (Nat.mul_le_mul_left _ (Nat.le_mul_of_pos_left _ mb.m2p)) bg1.hid.2
    refine s_cons (s_set 9 ev (e_call c3 ev (by decide) (a_cons (e_call c4 ev (by decide) (a_cons (e_var 1 rfl (a_cons (e_var 6 rfl (a_cons (e_var 7 rfl (a_nil ⟨z, n, s, q, fi, M, S, rfl, hs, n2, z5, oq, orr, ofi, oM, a_nil ⟨z, n + 1, fi', M', S', rfl, md.al, by omega, by omega, f1.ch (by omega) (by omega) bg1.hid.1, fun r hr => (f2 r hr).ch (by omega) (by omega) h12m, fun r hr => ho.S _ (src_lt hs hr), ?_⟩⟩)))))))))))
    refine s_cons (s_set 10 ev (e_non ?_))
    have hce : chanceQ z (n + 1) fi' M' S' x = chanceQ z n fi M S x := chance_split hs x
    let pre : AE := [.sh (.ref a), .sh (.dic (modD z n fi M S)), .sh (.ins Ch (hidL z n fi M S)), .sh (.str x), .sh (dueD z n fi M S x), .sh (.int (n : Nat)), .sh (.int (s : Nat)), .sh (K69.fr q), .sh (K69.fr (1 + (-1) * q)), .sh (.ins Ch (hidL z (n + 1) fi' M' S'))]
    refine s_join (fun e => ∃ v11 v12, e = [.sh (.ref a), .sh (.dic (modD z n fi M S)), .sh (.ins Ch (hidL z n fi M S)), .sh (.str x), .sh (dueD z n fi M S x), .sh (.int (n : Nat)), .sh (.int (s : Nat)), .sh (K69.fr q), .sh (K69.fr (1 + (-1) * q)), .sh (.ins Ch (hidL z (n + 1) fi' M' S')), .sh (dueD z (n + 1) fi' M' S' x), v11, v12]) (s_if (t_cmp (c_notN (e_var 4 rfl ⟨_, rfl, fun hk => ?_, fun hk => ?_⟩)))) ?_
    · by_cases h0 : chanceQ z n fi M S x = 0
      · unfold dueD at hk
        rw [if_pos h0] at hk
        exact Bool.noConfusion hk
      · have ed : dueD z n fi M S x = rowsD n x.cps.toList.length (dueQ z n fi M S x) := if_neg h0
        have ed2 : dueD z (n + 1) fi' M' S' x = rowsD (n + 1) x.cps.toList.length (dueQ z (n + 1) fi' M' S' x) := if_neg (by rw [hce]; exact h0)
        rw [ed, ed2]
        obtain ⟨cs1, cs2, cs3, cs4⟩ := mb.ch_sz hx
        have hpos : 0 < chanceQ z n fi M S x := Rat.lt_of_le_of_ne cs4 (Ne.symm h0)
        refine s_cons (s_own 10 ev (o_lst (a_nil ⟨Nat.le_of_ble_eq_true rfl, ?_⟩)))
        refine s_cons (s_for [11] hp ev (i_val (e_var 4 rfl ⟨_, rfl, fun i e => ∃ v11 v12, e = [.sh (.ref a), .sh (.dic (modD z n fi M S)), .sh (.ins Ch (hidL z n fi M S)), .sh (.str x), .sh (rowsD n x.cps.toList.length (dueQ z n fi M S x)), .sh (.int (n : Nat)), .sh (.int (s : Nat)), .sh (K69.fr q), .sh (K69.fr (1 + (-1) * q)), .sh (.ins Ch (hidL z (n + 1) fi' M' S')), .ow (vec i fun i => .lst (frs (vec (n + 1) (dueQ z (n + 1) fi' M' S' x i)))), v11, v12], ⟨.un, .un, rfl⟩, ?_, ?_⟩)))
        · rintro e ⟨v11, v12, rfl⟩
          rw [vec_len]
          exact s_fz 10 rfl (s_nil ⟨v11, v12, rfl⟩)
        · rintro i d e hd ⟨v11, v12, rfl⟩
          obtain ⟨hi, rfl⟩ := vec_get hd
          have odu : Ok (dueQ z n fi M S x i s) := by
            have hR := sz_rowF mb.bg.m0 mb.wsz (x.cps.toList.take i) mb.bg.N0 md.fi.sz (fun c hc => hx c (List.mem_of_mem_take hc)) s hs
            rw [List.length_take, Nat.min_eq_left (by omega)] at hR
            have hC := sz_colF (N := 1) (A := 1) (by decide) mb.bc.m0 one_sz mb.wsz (x.cps.toList.drop i) (fun c hc => hx c (List.mem_of_mem_drop hc)) s hs
            rw [List.length_drop] at hC
            have hP := hR.mul hC
            rw [Nat.one_mul, Nat.one_mul, Nat.mul_assoc, Nat.mul_assoc, ← Nat.pow_add, ← Nat.pow_add, show i + (x.cps.toList.length - i) = x.cps.toList.length by omega] at hP
            have hcs : Sz (N0 * (m2 * m1) ^ x.cps.toList.length) (n * (N0 * (n * (m2 * m1)) ^ x.cps.toList.length)) (chanceQ z n fi M S x) := Sz.sumN (Nat.mul_pos mb.bg.N0 (Nat.pow_pos mb.bg.m0)) cs1
            obtain ⟨b, hb, hsz⟩ := Sz.quo hP hcs hpos
            exact hsz.ok (Nat.lt_of_le_of_lt hb (Nat.lt_of_le_of_lt (Nat.mul_le_mul_right _ (Nat.le_succ n)) cs2)) (mb.bg.ltA (by omega))
          refine g_name 11 ev.nd ?_
          refine s_cons (s_own 12 ev (o_cat (e_var 11 rfl (e_own (o_lst (a_cons (e_call c5 ev (by decide) (a_cons (e_var 8 rfl (a_cons (e_ix ev.room (e_var 11 rfl (e_var 6 rfl ⟨_, atI_nat (frs_vec_at hs), ?_⟩)))))))))))))
          refine a_nil ⟨_, _, rfl, orr, odu, a_nil ⟨Nat.le_of_ble_eq_true rfl, _, _, rfl, rfl, ?_, ?_⟩⟩
          · rw [frs_vec_len]; show n + 1 ≤ _; omega
          refine s_cons (s_put 12 rfl (e_call c5 ev (by decide) (a_cons (e_var 7 rfl (a_cons (e_ix ev.room (e_var 11 rfl (e_var 6 rfl ⟨_, atI_nat (frs_vec_at hs), ?_⟩))))))))
          refine a_nil ⟨_, _, rfl, oq, odu, e_var 6 rfl ⟨_, s, rfl, ixN_at ?_, ?_⟩⟩
          · rw [List.length_append, frs_vec_len]; omega
          rw [frs_spl]
          have ev2 : vec (n + 1) (spl n s q (dueQ z n fi M S x i)) = vec (n + 1) (dueQ z (n + 1) fi' M' S' x i) := vec_ext fun t ht => (due_split hs x i ht).symm
          rw [ev2]
          refine s_fz 12 rfl (s_cons (s_app 10 rfl (e_var 12 rfl ⟨by rw [vec_len]; omega, s_nil ⟨.sh (.lst (frs (vec n (dueQ z n fi M S x i)))), .sh (.lst (frs (vec (n + 1) (dueQ z (n + 1) fi' M' S' x i)))), ?_⟩⟩)))
          rw [vec_succ i]
          rfl
    · have h0 : chanceQ z n fi M S x = 0 := by
        apply Classical.byContradiction
        intro h0
        unfold dueD at hk
        rw [if_neg h0] at hk
        exact Bool.noConfusion hk
      refine s_nil ⟨.un, .un, ?_⟩
      have e1 : dueD z (n + 1) fi' M' S' x = .non := if_pos (hce.trans h0)
      rw [e1]
      rfl
    · rintro e ⟨v11, v12, rfl⟩
      refine s_cons (s_ret (e_and (e_call c6 ev (by decide) (a_cons (e_var 9 rfl (a_cons (e_var 3 rfl (a_cons (e_var 10 rfl (a_nil ⟨z, x, n + 1, 12 * N0, 12 * m1, m2, fi', M', S', rfl, hxl, hx, mb', _, rfl, fun _ => ?_, fun h => Bool.noConfusion h⟩))))))))))
      exact e_one (e_call c6 ev (by decide) (a_cons (e_var 2 rfl (a_cons (e_var 3 rfl (a_cons (e_var 4 rfl (a_nil ⟨z, x, n, N0, m1, m2, fi, M, S, rfl, hxl, hx, mb, kk⟩))))))))
end
end K69
set_option Elab.async false
set_option linter.all false
set_option maxRecDepth 100000
set_option maxHeartbeats 4000000
set_option exponentiation.threshold 10000
namespace K69
open PySem PySem.Spec L2 SY
theorem flDs_signs : ∀ l : List Nat, flDs (l.map fun c => D.str ⟨#[c]⟩) = some (l.map fun c => V.str ⟨#[c]⟩)
  | [] => rfl
  | c :: l => by
    show (flD (.str ⟨#[c]⟩)).bind _ = _
    have := flDs_signs l
    show (some (V.str ⟨#[c]⟩)).bind (fun v => (flDs (l.map fun c => D.str ⟨#[c]⟩)).map fun vs => v :: vs) = _
    rw [this]
    rfl
theorem inV_sign (c : Nat) (l : List Nat) : inV (.str ⟨#[c]⟩) (l.map fun c => V.str ⟨#[c]⟩) = decide (c ∈ l) := by
  rw [Bool.eq_iff_iff, decide_eq_true_iff]
  unfold inV
  simp [List.any_map, List.any_eq_true, eqV]
theorem bad_self {i : Nat} {Q : D → Prop} (h : Q (.bl true)) : eqD false (badD i) (badD i) Q := by
  refine ⟨.list [.str "bad", .int (i : Nat), .bool false], .list [.str "bad", .int (i : Nat), .bool false], rfl, rfl, ?_, ?_, ?_⟩
  · simp [SeqAt.shaped, PyData.canLay0, PyData.canLayAll0, PyData.depth, PyData.depthAll]
    decide +kernel
  · simp [SeqAt.shaped, PyData.canLay0, PyData.canLayAll0, PyData.depth, PyData.depthAll]
    decide +kernel
  have : PyData.eqv (.list [.str "bad", .int (i : Nat), .bool false]) (.list [.str "bad", .int (i : Nat), .bool false]) = true := by
    simp [PyData.eqv, PyData.eqvAll]
  rw [if_neg Bool.false_ne_true, this]
  exact h
section
variable {P : Program} {w : World} {K : PySem.W.Frag} {mg : Str → Option Value} {base : Heap} {C Ch CB CI : Addr}
def S_foreign (Ch : Addr) (a : Addr) : S0 := fun ds Q => ∃ (z x : Str) (n : Nat) (fi : Nat → Rat) (M S : Nat → Nat → Rat), ds = [.ref a, .dic (modD z n fi M S), .ins Ch (hidL z n fi M S), .str x] ∧ AlOk z ∧ x.cps.toList.length ≤ 400 ∧ (∀ c ∈ x.cps.toList, c ∈ z.cps.toList) ∧ Q (.bl true)
theorem ok_foreign (fr : Free mg) (D0 : DefOk K mg "_law_foreign" (top 90) []) (c1 : FnS P w K mg base 1 "_law_take" (spW K (Wbox K) S_take)) (c2 : FnS P w K mg base 15 "_law_ask" (spP K (S_ask Ch))) : FnS P w K mg base 16 "_law_foreign" (spW K (Wbox K) (S_foreign Ch)) := by
  refine mkFnW (N := ["box", "model", "hidden", "text", "others", "at", "sign", "odd"]) (ps := ["box", "model", "hidden", "text"]) D0 (C8.fnScope_by (by decide +kernel)) ?_ fr (fun _ _ _ _ _ _ us hl => match us, hl with | [_, _, _, _], _ => rfl) ?_
  · rintro _ ds Q ⟨_, _, _, _, _, _, rfl, _⟩; rfl
  · rintro f0 cdv Ar outer sh H0 E ev hp a ds Q F ⟨z, x, n, fi, M, S, rfl, al, hxl, hx, kk⟩
    have z5 := al.2.1
    let abc : Str := "abcdefghijklmnopqrstuvwxyzAZ 0"
    let pd : D → Bool := fun d => match d with
      | .str y => !decide (y.cps.toList.headD 0 ∈ z.cps.toList)
      | _ => false
    refine s_cons (s_lc 4 (own := [("sign", 6)]) [6] ev ?_ (by decide) (lc_filter pd (i_val (e_str ⟨_, rfl, ?_, ?_, fun i d hd => ?_⟩))))
    · show blkC ["box", "model", "hidden", "text", "others", "at", "sign", "odd"] (defScope (top 90)) _ _ = true
      decide +kernel
    · rw [List.length_map]
      decide +kernel
    · let oth : List D := ((abc.cps.toList.map fun c => D.str ⟨#[c]⟩).filter pd)
      have hoth : ∀ d ∈ oth, ∃ c, d = .str ⟨#[c]⟩ ∧ c ∉ z.cps.toList := fun d hd => by
        obtain ⟨h1, h2⟩ := List.mem_filter.mp hd
        obtain ⟨c, _, rfl⟩ := List.mem_map.mp h1
        refine ⟨c, rfl, fun hc => ?_⟩
        have : (!decide (c ∈ z.cps.toList)) = true := h2
        rw [decide_eq_true hc] at this
        exact Bool.noConfusion this
      have h65 : D.str ⟨#[65]⟩ ∈ oth := by
        refine List.mem_filter.mpr ⟨List.mem_map.mpr ⟨65, by decide +kernel, rfl⟩, ?_⟩
        show (!decide (65 ∈ z.cps.toList)) = true
        have : 65 ∉ z.cps.toList := fun h => by
          have := (al.2.2.1 65 h).1
          omega
        rw [decide_eq_false this]
        rfl
      have hol : oth.length ≤ 30 := by
        refine Nat.le_trans (List.length_filter_le _ _) ?_
        rw [List.length_map]
        decide +kernel
      have hop : 1 ≤ oth.length := List.length_pos_of_mem h65
      have hkl : x.length ≤ 100000 := by rw [len_str]; omega
      refine s_fz 4 rfl ?_
      refine s_cons (s_set 5 ev (e_callW c1 ev (by decide) a rfl (a_cons (e_var 0 rfl (a_cons (e_add (e_len fr (e_var 3 rfl ⟨hkl, e_int (a_nil ⟨(x.length : Nat) + 1, rfl, ?_, ?_, fun r h1 h2 => ?_⟩)⟩))))))))
      · omega
      · rw [len_str]; omega
      obtain ⟨i, rfl⟩ : ∃ i : Nat, r = (i : Int) := ⟨r.toNat, (Int.toNat_of_nonneg h1).symm⟩
      rw [len_str] at h2
      have hi : i ≤ x.cps.toList.length := by omega
      refine s_cons (s_set 6 ev (e_ix ev.room (e_var 4 rfl (e_callW c1 ev (by decide) a rfl (a_cons (e_var 0 rfl (a_cons (e_len fr (e_var 4 rfl (a_nil ⟨(oth.length : Nat), rfl, ?_, ?_, fun r h3 h4 => ?_⟩))))))))))
      · omega
      · omega
      obtain ⟨j, rfl⟩ : ∃ j : Nat, r = (j : Int) := ⟨r.toNat, (Int.toNat_of_nonneg h3).symm⟩
      have hj : j < oth.length := by omega
      obtain ⟨c, hc1, hc2⟩ := hoth _ (List.getElem_mem hj)
      have hjc : oth[j]? = some (.str ⟨#[c]⟩) := by rw [List.getElem?_eq_getElem hj, hc1]
      refine ⟨_, atI_nat hjc, ?_⟩
      let hd : Str := cutS x none (some (i : Int))
      let tl : Str := cutS x (some ((i : Int) + 1)) none
      have ehd : hd.cps.toList = x.cps.toList.take i := cutS_take x i
      have etl : tl.cps.toList = x.cps.toList.drop (i + 1) := cutS_drop x (i + 1)
      have lhd : hd.length = i := by rw [len_str, ehd, List.length_take]; omega
      have ltl : tl.length ≤ 500 := by rw [len_str, etl, List.length_drop]; omega
      have szl : ∀ k, k ≤ 100000 → k ≤ sizeLine := fun k h => small_le h
      have key : ∀ (odd : Str) (r : List Nat), odd.cps.toList = x.cps.toList.take i ++ c :: r → r.length ≤ 401 → ∀ Q' : D → Prop, Q' (badD i) → S_ask Ch [.ins Ch (hidL z n fi M S), .str odd] Q' := fun odd r he hr Q' q => by
        have lt : (x.cps.toList.take i).length = i := by rw [List.length_take]; omega
        have hat : odd.cps.toList[i]? = some c := by
          rw [he, List.getElem?_append_right (by omega), lt, Nat.sub_self]
          rfl
        refine ⟨z, odd, n, 0, 0, 0, fi, M, S, rfl, ?_, fun i' c' h1 h2 h3 => ?_, fun h => absurd (h c (List.mem_of_getElem? hat)) hc2⟩
        · rw [he, List.length_append, lt, List.length_cons]; omega
        · have : i' = i := by
            rcases Nat.lt_trichotomy i' i with h | h | h
            · rw [he, List.getElem?_append_left (by omega)] at h1
              exact absurd (hx c' (List.mem_of_mem_take (List.mem_of_getElem? h1))) h2
            · exact h
            · exact absurd (h3 i c h hat) hc2
          rw [this]
          exact q
      refine s_cons (s_set 7 ev (e_add (e_add (e_add (e_sl (e_var 3 rfl (p_none (p_some (e_var 5 rfl ⟨_, rfl, hkl, ?_⟩)))))))))
      refine e_var 6 rfl ⟨szl _ ?_, ?_⟩
      · show hd.length + 1 ≤ _; omega
      refine e_sl (e_var 3 rfl (p_some (e_add (e_var 5 rfl (e_int ⟨_, rfl, p_none ⟨hkl, szl _ ?_, ?_⟩⟩)))))
      · show (hd ++ (⟨#[c]⟩ : Str)).length + tl.length ≤ _
        rw [len_str, app_one, ehd, List.length_append, List.length_take]
        have : [c].length = 1 := rfl
        omega
      have e3 : (hd ++ (⟨#[c]⟩ : Str) ++ tl).cps.toList = x.cps.toList.take i ++ c :: x.cps.toList.drop (i + 1) := by
        rw [app_toList, app_one, ehd, etl, List.append_assoc]
        rfl
      have l3 : (hd ++ (⟨#[c]⟩ : Str) ++ tl).length ≤ 1001 := by
        rw [len_str, e3, List.length_append, List.length_take, List.length_cons, List.length_drop]
        omega
      refine e_mulT (e_var 6 rfl (e_callW c1 ev (by decide) a rfl (a_cons (e_var 0 rfl (a_cons (e_int (a_nil ⟨2, rfl, by decide, by decide, fun r h5 h6 => ⟨_, r, rfl, rfl, ?_⟩⟩)))))))
      have hr : r = 0 ∨ r = 1 := by omega
      rcases hr with rfl | rfl
      · refine .inl ⟨rfl, szl _ ?_, ?_⟩
        · show (hd ++ (⟨#[c]⟩ : Str) ++ tl).length + 0 ≤ _; omega
        refine s_cons (s_ret (e_cmp (c_eq ev.room (e_call c2 ev (by decide) (a_cons (e_var 2 rfl (a_cons (e_var 7 rfl (a_nil (key _ (x.cps.toList.drop (i + 1)) ?_ ?_ _ ?_))))))))))
        · rw [app_toList, e3]
          exact List.append_nil _
        · rw [List.length_drop]; omega
        · exact e_own (o_lst (a_cons (e_str (a_cons (e_var 5 rfl (a_cons (e_bl (a_nil ⟨Nat.le_of_ble_eq_true rfl, bad_self kk⟩))))))))
      · refine .inr ⟨rfl, szl _ ?_, ?_⟩
        · show (hd ++ (⟨#[c]⟩ : Str) ++ tl).length + 1 ≤ _; omega
        refine s_cons (s_ret (e_cmp (c_eq ev.room (e_call c2 ev (by decide) (a_cons (e_var 2 rfl (a_cons (e_var 7 rfl (a_nil (key _ (x.cps.toList.drop (i + 1) ++ [c]) ?_ ?_ _ ?_))))))))))
        · rw [app_one, e3, List.append_assoc]
          rfl
        · rw [List.length_append, List.length_drop]
          have : [c].length = 1 := rfl
          omega
        · exact e_own (o_lst (a_cons (e_str (a_cons (e_var 5 rfl (a_cons (e_bl (a_nil ⟨Nat.le_of_ble_eq_true rfl, bad_self kk⟩))))))))
    · obtain ⟨c, hc, rfl⟩ := sg_get hd
      intro s H C1 cl fp
      refine g_name 6 ev.nd ?_
      intro s H C1 cl fp
      refine t_cmp (c_ninL (e_var 6 rfl (e_own (o_listT (n := 15) ⟨ev.nd, ev.calm, ev.room, ev.free⟩ (e_ix (n := 15) ev.room (e_var 1 rfl (e_str ⟨_, md_letters, z, rfl, ?_, ?_⟩)))))))
      · rw [len_str]; omega
      refine ⟨_, _, _, rfl, rfl, flDs_signs _, _, rfl, ?_, fun hb => ?_⟩
      · rw [inV_sign]
        rfl
      intro s H C1 cl fp
      exact e_var 6 rfl rfl
end
end K69
set_option Elab.async false
set_option linter.all false
set_option maxRecDepth 100000
set_option maxHeartbeats 4000000
set_option exponentiation.threshold 10000
namespace SY
open PySem PySem.Spec L2
theorem RL.ints {K : PySem.W.Frag} {F : Hp} : ∀ ns : List Int, RL K F (ns.map D.int) (ns.map V.int)
  | [] => RL.nil
  | i :: ns => RL.cons (mkInt i) (RL.ints ns)
theorem same_sqL {K : PySem.W.Frag} {H H' : Hp} {a : Addr} {xs : List V} (e : Same H H') (h : SqL K H a xs) : SqL K H' a xs := by
  rcases h with (h | ⟨o, h⟩) | h
  · exact .inl (.inl (e _ _ h))
  · exact .inl (.inr ⟨o, e _ _ h⟩)
  · exact .inr h
section
variable {X : Cx} {B : Bs} {env : AE} {pos p2 : Pos} {Q : D → Prop} {e : Expr} {a : Addr} {xs : List V} {ds : List D}
/-- a slice of a list that is not a datum -/
theorem e_slP {lo hi : Option Expr} (hB : B.W = W0) (sq : SqL X.K B.H0 a xs) (r : RL X.K B.F0 ds xs) (h : qE X B env e fun x => x = .ref a ∧ qP X B env lo fun l => qP X B env hi fun u => Q (.lst (cutA ds l u))) : qE X B env (.Subscript e (.Slice lo hi none p2) pos) Q := fun σ F H rp Qv k => by
  refine ⟨_, pe_slice (SlR.or sl_list (SlR.or sl_tupA sl_str)) pe_w po_w po_w, ?_⟩
  refine h σ F H rp _ fun v F1 H1 x l1 rx ⟨ex, h2⟩ => h2 σ F1 H1 (rp.step l1) _ fun l F2 H2 l2 h3 => h3 σ F2 H2 ((rp.step l1).step l2) _ fun u F3 H3 l3 q => ?_
  subst ex
  have k3 := (((rp.step l1).step l2).step l3).ok
  have lt := (l1.trans l2).trans l3
  have la := rp.le.trans lt
  have sh : Same B.H0 H3 := fun b o e => la.hh b o (by rw [hB]; exact fun z => z) e
  refine .inl ⟨a, xs, rRef rx, same_sqL sh sq, fun c hc => ?_⟩
  have l4 := Le.new (o := .lst (cutV xs l u)) k3 hc
  exact k _ _ _ _ (lt.trans l4) (mkLst upd_same ((RL.cut (r.mono la.ff) l u).mono l4.ff)) q
end
end SY
namespace K69
open PySem PySem.Spec L2 SY
/-- the promise of _law_box -/
def spBox (K : PySem.W.Frag) : Sp := fun vs H Q _ => ∃ (F : Hp) (a : Addr) (ns : List Int), vs = [.ref a] ∧ Same F H ∧ SqL K H a (ns.map V.int) ∧ ns.length ≤ 63 ∧ ∀ F' H' q xs l, Le W0 F H F' H' → H q = none → F' q = none → H' q = some (.dK xs) → RD K F' l xs → BoxOk l → Q (.ref q) H'
theorem box_merge (d1 d2 d3 d4 d5 : D) : dmerge [((.inr "cells" : Key), d1), (.inr "at", d2), (.inr "great", d3), (.inr "turn", d4), (.inr "small", d5)] = [(.inr "cells", d1), (.inr "at", d2), (.inr "great", d3), (.inr "turn", d4), (.inr "small", d5)] := by
  show dput (dput (dput (dput (dput [] (.inr "cells") d1) (.inr "at") d2) (.inr "great") d3) (.inr "turn") d4) (.inr "small") d5 = _
  have n1 : ¬ (.inr "cells" : Key) = .inr "at" := by decide
  have n2 : ¬ (.inr "cells" : Key) = .inr "great" := by decide
  have n3 : ¬ (.inr "cells" : Key) = .inr "turn" := by decide
  have n4 : ¬ (.inr "cells" : Key) = .inr "small" := by decide
  have n5 : ¬ (.inr "at" : Key) = .inr "great" := by decide
  have n6 : ¬ (.inr "at" : Key) = .inr "turn" := by decide
  have n7 : ¬ (.inr "at" : Key) = .inr "small" := by decide
  have n8 : ¬ (.inr "great" : Key) = .inr "turn" := by decide
  have n9 : ¬ (.inr "great" : Key) = .inr "small" := by decide
  have n10 : ¬ (.inr "turn" : Key) = .inr "small" := by decide
  simp only [dp_nil, dp_past n1, dp_past n2, dp_past n3, dp_past n4, dp_past n5, dp_past n6, dp_past n7, dp_past n8, dp_past n9, dp_past n10]
theorem cut63 {ns : List Int} (h : ns.length ≤ 63) : cutA (ns.map D.int) none (some 63) = ns.map D.int := by
  show ((ns.map D.int).drop 0).take (min 63 (ns.map D.int).length - 0) = _
  rw [List.drop_zero, Nat.sub_zero, List.take_of_length_le]
  rw [List.length_map]
  omega
section
variable {P : Program} {w : World} {K : PySem.W.Frag} {mg : Str → Option Value} {base : Heap} {C Ch CB CI : Addr}
theorem ok_box (fr : Free mg) (D0 : DefOk K mg "_law_box" (top 66) []) : FnS P w K mg base 1 "_law_box" (spBox K) := by
  obtain ⟨f, fd, F, hm⟩ := D0
  have sc : FnScope ["script", "cell"] ["script"] (defScope (top 66)) := C8.fnScope_by (by decide +kernel)
  refine ⟨f, fd, ["script"], ?_, hm, F.kp, F.bindsN fun _ _ _ _ _ _ us hl => match us, hl with | [_], _ => rfl⟩
  refine F.ok sc (fun vs H Q E ⟨_, _, _, e, _⟩ => by rw [e]; rfl) fun cdv A outer s H vs Q E hr ⟨F0, a, ns, e, sF, sq, hl, kk⟩ => ?_
  subst e
  have ev : Ev (cxOf (L2.CX P w) P w K mg base ["script", "cell"] "_law_box" (defScope (top 66)) f cdv A outer s H E) 0 := ⟨sc.nd, rfl, hr, fr⟩
  refine ⟨_, pss_one (ps_ret (L2.pe_disp (pps_w rfl rfl) rfl rfl (by simp) (by decide))), ?_⟩
  have rp : Rep K ⟨W0, F0, H⟩ F0 H (L2.start ["script", "cell"] [.ref a]) (env0 2 [.ref a]) := rep0 (N := ["script", "cell"]) (WOk.w0 sF) (RL.cons (mkRef a) RL.nil)
  refine disp_t (X := cxOf (L2.CX P w) P w K mg base ["script", "cell"] "_law_box" (defScope (top 66)) f cdv A outer s H E) (B := ⟨W0, F0, H⟩) (Q := BoxOk) ?_ rp fun q xs F' H' l le h1 h2 h3 h4 h5 => kk F' H' q xs l le h1 h2 h3 h4 h5
  refine k_cons (e_own (o_lc (own := [("cell", 1)]) [1] ev.calm ev.nd ?_ (by decide) (lc_map (i_val (e_slP rfl sq (RL.ints ns) (e_var 0 rfl ⟨rfl, p_none (p_some (e_int ⟨_, rfl, _, rfl, ?_, (ns.map fun i => .int (if i < 0 then -i else i)), ?_, ?_, fun i d hd y hy => ?_⟩))⟩))))))
  · show blkC ["script", "cell"] (defScope (top 66)) _ _ = true
    decide +kernel
  · show (cutA (ns.map D.int) none (some 63)).length ≤ 100000
    rw [cut63 hl, List.length_map]; omega
  · show _ = (cutA (ns.map D.int) none (some 63)).length
    rw [cut63 hl, List.length_map, List.length_map]
  · refine k_cons (e_int (k_cons (e_int (k_cons (e_int (k_cons (e_int (k_nil ⟨Nat.le_of_ble_eq_true rfl, ?_⟩))))))))
    show BoxOk (dmerge [(.inr "cells", _), (.inr "at", _), (.inr "great", _), (.inr "turn", _), (.inr "small", _)])
    rw [box_merge]
    refine ⟨ns.map fun i => if i < 0 then -i else i, 0, 0, 0, 0, ?_, fun c hc => ?_, Int.le_refl _, Int.le_refl _, Int.le_refl _, Int.le_refl _⟩
    · unfold boxD
      rw [List.map_map]
      rfl
    · obtain ⟨i, _, rfl⟩ := List.mem_map.mp hc
      split <;> omega
  · have hd' : (cutA (ns.map D.int) none (some 63))[i]? = some d := hd
    rw [cut63 hl, List.getElem?_map] at hd'
    obtain ⟨j, hj, rfl⟩ := Option.map_eq_some_iff.mp hd'
    rw [List.getElem?_map, hj] at hy
    cases hy
    intro s1 H1 C1 cl fp
    refine g_name 1 ev.nd ?_
    intro s1 H1 C1 cl fp
    exact e_abs (by exact fr) (e_var 1 rfl ⟨j, rfl, rfl⟩)
end
end K69
set_option Elab.async false
set_option linter.all false
set_option maxRecDepth 100000
set_option maxHeartbeats 4000000
set_option exponentiation.threshold 10000
namespace K69
open PySem PySem.Spec L2 SY
/-! the numbers stay small -/
def bgB (n N A m B k : Nat) : Bool := decide (n ≤ 100 ∧ 0 < n ∧ 0 < N ∧ 0 < A ∧ 0 < m ∧ 0 < B ∧ N * m ^ (k + 1) < 2 ^ 2900 ∧ (n * n + 1) * (A * (n * B) ^ (k + 1)) < 2 ^ 2900)
theorem bgB_ok {n N A m B k : Nat} (h : bgB n N A m B k = true) : Bg n N A m B k := by
  obtain ⟨a, b, c, d, e, f, g, i⟩ := of_decide_eq_true h
  exact ⟨a, b, c, d, e, f, g, i⟩
def allB (n L k : Nat) : Bool := bgB n (LL n) (LL n) (LL L * LL n) (LL L * LL n) k && (bgB n 1 1 (LL L * LL n) (LL L * LL n) k && (bgB (n + 1) (12 * LL n) (12 * LL n) (LL L * (12 * LL n)) (LL L * (12 * LL n)) k && (bgB (n + 1) 1 1 (LL L * (12 * LL n)) (LL L * (12 * LL n)) k && decide (L * LL L < 2 ^ 2900))))
theorem all1 : ((List.range 4).all fun n => (List.range 5).all fun L => allB (n + 1) (L + 1) 59) = true := by decide +kernel
theorem all2 : ((List.range 24).all fun n => (List.range 5).all fun L => allB (n + 1) (L + 1) 8) = true := by decide +kernel
structure Good (n L k : Nat) : Prop where
  a : Bg n (LL n) (LL n) (LL L * LL n) (LL L * LL n) k
  b : Bg n 1 1 (LL L * LL n) (LL L * LL n) k
  c : Bg (n + 1) (12 * LL n) (12 * LL n) (LL L * (12 * LL n)) (LL L * (12 * LL n)) k
  d : Bg (n + 1) 1 1 (LL L * (12 * LL n)) (LL L * (12 * LL n)) k
  e : L * LL L < 2 ^ 2900
theorem good_of {n L k : Nat} (h : allB n L k = true) : Good n L k := by
  unfold allB at h
  simp only [Bool.and_eq_true] at h
  obtain ⟨h1, h2, h3, h4, h5⟩ := h
  exact ⟨bgB_ok h1, bgB_ok h2, bgB_ok h3, bgB_ok h4, of_decide_eq_true h5⟩
theorem Good.le {n L k j : Nat} (g : Good n L k) (h : j ≤ k) : Good n L j := ⟨g.a.le h, g.b.le h, g.c.le h, g.d.le h, g.e⟩
theorem good1 {n L k : Nat} (n1 : 1 ≤ n) (n2 : n ≤ 4) (l1 : 1 ≤ L) (l2 : L ≤ 5) (hk : k ≤ 59) : Good n L k := by
  have h := List.all_eq_true.mp all1 (n - 1) (List.mem_range.mpr (by omega))
  have h := List.all_eq_true.mp h (L - 1) (List.mem_range.mpr (by omega))
  rw [show n - 1 + 1 = n by omega, show L - 1 + 1 = L by omega] at h
  exact (good_of h).le hk
theorem good2 {n L k : Nat} (n1 : 1 ≤ n) (n2 : n ≤ 24) (l1 : 1 ≤ L) (l2 : L ≤ 5) (hk : k ≤ 8) : Good n L k := by
  have h := List.all_eq_true.mp all2 (n - 1) (List.mem_range.mpr (by omega))
  have h := List.all_eq_true.mp h (L - 1) (List.mem_range.mpr (by omega))
  rw [show n - 1 + 1 = n by omega, show L - 1 + 1 = L by omega] at h
  exact (good_of h).le hk
end K69
set_option Elab.async false
set_option linter.all false
set_option maxRecDepth 100000
set_option maxHeartbeats 8000000
set_option exponentiation.threshold 10000
namespace K69
open PySem PySem.Spec L2 SY
def spLaw (K : PySem.W.Frag) : Sp := fun vs H Q _ => ∃ (a : Addr) (ns : List Int), vs = [.ref a] ∧ SqL K H a (ns.map V.int) ∧ ns.length ≤ 63 ∧ ∀ H', Q (.bl true) H'
theorem eight (l : List Int) (P : Int → Prop) (h : ∀ i ∈ l, P i) {r : Int} (h0 : 0 ≤ r) (h1 : r < l.length) : ∃ i, L2.atI (l.map D.int) r = some (.int i) ∧ P i := by
  obtain ⟨k, rfl⟩ : ∃ k : Nat, r = (k : Int) := ⟨r.toNat, (Int.toNat_of_nonneg h0).symm⟩
  have hk : k < l.length := by omega
  refine ⟨l[k], atI_nat ?_, h _ (List.getElem_mem hk)⟩
  rw [List.getElem?_map, List.getElem?_eq_getElem hk]
  rfl
section
variable {P : Program} {w : World} {K : PySem.W.Frag} {mg : Str → Option Value} {base : Heap} {C Ch CB CI : Addr} {f : Addr} {fd : FuncData}
/-- all that law calls -/
structure Calls (P : Program) (w : World) (K : PySem.W.Frag) (mg : Str → Option Value) (base : Heap) (C Ch : Addr) : Prop where
  box : FnS P w K mg base 1 "_law_box" (spBox K)
  take : FnS P w K mg base 1 "_law_take" (spW K (Wbox K) S_take)
  letters : FnS P w K mg base 2 "_law_letters" (spW K (Wbox K) S_letters)
  model : FnS P w K mg base 4 "_law_model" (spW K (Wbox K) S_lmodel)
  hidden : FnS P w K mg base 9 "_law_hidden" (spP K (S_lhid Ch))
  text : FnS P w K mg base 3 "_law_text" (spW K (Wbox K) S_ltext)
  due : FnS P w K mg base 6 "_law_due" (spP K S_due)
  kept : FnS P w K mg base 2 "_law_kept" (spP K (S_kept Ch))
  right : FnS P w K mg base 16 "_law_right" (spP K (S_right Ch))
  hmach : FnS P w K mg base 12 "hidden_machine" (spP K (S_hidm C Ch))
  cuts : FnS P w K mg base 12 "_law_cuts" (spW K (Wbox K) (S_cuts C))
  fst : FnS P w K mg base 17 "_law_first_state" (spW K (Wbox K) S_fst)
  splits : FnS P w K mg base 17 "_law_splits" (spW K (Wbox K) (S_splits Ch))
  foreign : FnS P w K mg base 16 "_law_foreign" (spW K (Wbox K) (S_foreign Ch))
theorem ok_law (fr : Free mg) (F : FunD K "law" "law" (defArgs (top 91)) (defBody (top 91)) (defScope (top 91)) [] [] f fd) (c : Calls P w K mg base C Ch) : FnOk P w K mg base (L2.CX P w) 18 f fd ["script"] (spLaw K) := by
  have sc : FnScope ["script", "box", "letters", "size", "length", "model", "hidden", "text", "due", "longer", "shorter"] ["script"] (defScope (top 91)) := C8.fnScope_by (by decide +kernel)
  refine F.ok sc (fun vs H Q E ⟨_, _, e, _⟩ => by rw [e]; rfl) fun cdv A outer s H vs Q E hr ⟨a, ns, e, sq, hl, kk⟩ => ?_
  subst e
  let X := cxOf (L2.CX P w) P w K mg base ["script", "box", "letters", "size", "length", "model", "hidden", "text", "due", "longer", "shorter"] "law" (defScope (top 91)) f cdv A outer s H E
  have ev : Ev X 17 := ⟨sc.nd, rfl, hr, fr⟩
  have hp : PassesOwn (model X.prog X.w) X.A X.env X.xe := passes_of rfl
  obtain ⟨fb, fdb, psb, F0, hm, kp, b⟩ := c.box.ex
  refine ⟨_, pss_cons (ps_set (X := X) (i := 1) (pos' := _) ev.nd rfl (Or.inl rfl) (pe_call F0 (ev.room.mono (by decide)) rfl hm kp b .nil passL (pa_cons (pe_var (i := 0) rfl (Or.inl rfl) (by decide) (by decide)) pa_nil)) rfl (.inl rfl)) pss_w, ?_⟩
  have sF : Same (fun _ => none) H := fun b o z => by cases z
  have rp : Rep K ⟨W0, fun _ => none, H⟩ (fun _ => none) H (L2.start ["script", "box", "letters", "size", "length", "model", "hidden", "text", "due", "longer", "shorter"] [.ref a]) (env0 11 [.ref a]) := rep0 (N := ["script", "box", "letters", "size", "length", "model", "hidden", "text", "due", "longer", "shorter"]) (WOk.w0 sF) (RL.cons (mkRef a) RL.nil)
  refine ⟨_, rfl, fun _ => none, a, ns, rfl, sF, sq, hl, fun F' H' q xs l le h1 h2 h3 h4 h5 => ?_⟩
  have rp1 := (rp.step le).set (i := 1) (mkRef q)
  have wk : WOk (Wbox K q) F' H' := ⟨le.ok.fh, fun b hb => by
    have hb' : b = q := hb
    rw [hb']
    exact ⟨h2, by rw [h3]; exact fun z => nomatch z⟩, ⟨l, xs, h3, h4, h5⟩⟩
  have rp2 : Rep K ⟨Wbox K q, F', H'⟩ F' H' _ _ := rp1.re rfl (Le.refl wk)
  refine (?_ : qS X ⟨Wbox K q, F', H'⟩ noX [.sh (.ref a), .sh (.ref q), .un, .un, .un, .un, .un, .un, .un, .un, .un] _ { nx := fun _ => False, rt := fun _ d => d = .bl true }) _ F' H' _ rp2 ⟨fun _ _ _ _ _ _ z => False.elim z, fun v σ F2 H2 env2 d _ rd hd => by
    rw [hd] at rd
    rw [rBl rd]
    exact kk H2, fun _ _ _ _ _ _ z => False.elim z, fun _ _ _ _ _ _ z => False.elim z, fun _ _ _ _ _ _ _ _ z => False.elim z⟩
  refine s_cons (s_set 2 ev (e_callW c.letters ev (by decide) q rfl (a_cons (e_var 1 rfl (a_nil ⟨rfl, fun z al => ?_⟩)))))
  have z1 := al.1
  have z5 := al.2.1
  refine s_cons (s_set 3 ev (e_ix ev.room (e_own (o_lst (a_cons (e_int (a_cons (e_int (a_cons (e_int (a_cons (e_int (a_cons (e_int (a_cons (e_int (a_cons (e_int (a_cons (e_int (a_nil ⟨Nat.le_of_ble_eq_true rfl, ?_⟩)))))))))))))))))))))
  refine e_callW c.take ev (by decide) q rfl (a_cons (e_var 1 rfl (a_cons (e_int (a_nil ⟨8, rfl, by decide, by decide, fun r hr0 hr1 => ?_⟩)))))
  obtain ⟨sz, hsz, hszP⟩ := eight [2, 3, 1, 2, 4, 3, 2, 3] (fun i => 1 ≤ i ∧ i ≤ 4) (by decide) hr0 hr1
  obtain ⟨n0, rfl⟩ : ∃ n0 : Nat, sz = (n0 : Int) := ⟨sz.toNat, (Int.toNat_of_nonneg (by omega)).symm⟩
  refine ⟨_, hsz, ?_⟩
  refine s_cons (s_set 4 ev (e_callW c.take ev (by decide) q rfl (a_cons (e_var 1 rfl (a_cons (e_int (a_nil ⟨8, rfl, by decide, by decide, fun r2 h20 h21 => ?_⟩)))))))
  obtain ⟨len0, rfl⟩ : ∃ n0 : Nat, r2 = (n0 : Int) := ⟨r2.toNat, (Int.toNat_of_nonneg h20).symm⟩
  refine s_join (fun e => ∃ n len : Nat, e = [.sh (.ref a), .sh (.ref q), .sh (.str z), .sh (.int (n : Nat)), .sh (.int (len : Nat)), .un, .un, .un, .un, .un, .un] ∧ 1 ≤ n ∧ n ≤ 24 ∧ ((n ≤ 4 ∧ len ≤ 58) ∨ len ≤ 7)) (s_if (t_cmp (c_eq ev.room (e_callW c.take ev (by decide) q rfl (a_cons (e_var 1 rfl (a_cons (e_int (a_nil ⟨24, rfl, by decide, by decide, fun r3 _ _ => e_int ⟨_, rfl, fun hk => ?_, fun hk => ?_⟩⟩))))))))) ?_
  · refine s_cons (s_set 4 ev (e_add (e_int (e_callW c.take ev (by decide) q rfl (a_cons (e_var 1 rfl (a_cons (e_int (a_nil ⟨39, rfl, by decide, by decide, fun r4 h40 h41 => ?_⟩)))))))))
    obtain ⟨len1, rfl⟩ : ∃ n0 : Nat, r4 = (n0 : Int) := ⟨r4.toNat, (Int.toNat_of_nonneg h40).symm⟩
    exact s_nil ⟨n0, 20 + len1, rfl, by omega, by omega, .inl ⟨by omega, by omega⟩⟩
  · refine s_cons (s_if (t_cmp (c_eq ev.room (e_callW c.take ev (by decide) q rfl (a_cons (e_var 1 rfl (a_cons (e_int (a_nil ⟨64, rfl, by decide, by decide, fun r4 _ _ => e_int ⟨_, rfl, fun hk => ?_, fun hk => ?_⟩⟩)))))))))
    · refine s_cons (s_set 3 ev (e_sub (e_int (e_callW c.take ev (by decide) q rfl (a_cons (e_var 1 rfl (a_cons (e_int (a_nil ⟨4, rfl, by decide, by decide, fun r5 h50 h51 => ⟨_, _, rfl, rfl, ?_⟩⟩)))))))))
      obtain ⟨k5, rfl⟩ : ∃ n0 : Nat, r5 = (n0 : Int) := ⟨r5.toNat, (Int.toNat_of_nonneg h50).symm⟩
      have e5 : (24 : Int) - (k5 : Int) = ((24 - k5 : Nat) : Int) := by omega
      rw [e5]
      exact s_nil (s_nil ⟨24 - k5, len0, rfl, by omega, by omega, .inr (by omega)⟩)
    · exact s_nil (s_nil ⟨n0, len0, rfl, by omega, by omega, .inr (by omega)⟩)
  rintro e ⟨n, len, rfl, n1, n2, hnl⟩
  have g : Good n z.cps.toList.length (len + 1) := by
    rcases hnl with ⟨h1, h2⟩ | h
    · exact good1 n1 h1 z1 z5 (by omega)
    · exact good2 n1 n2 z1 z5 (by omega)
  refine s_cons (s_set 5 ev (e_callW c.model ev (by decide) q rfl (a_cons (e_var 1 rfl (a_cons (e_var 2 rfl (a_cons (e_var 3 rfl (a_nil ⟨z, n, rfl, al, n1, n2, fun fi M S md => ?_⟩)))))))))
  have hg := g.a.hid.1
  have ho : HidOk z n fi M S := ⟨md.fi.ch n1 (by omega) hg, fun s hs => (md.M s hs).ch n1 (by omega) hg, fun s hs => (md.S s hs).ch z1 (by omega) g.e⟩
  refine s_cons (s_set 6 ev (e_call c.hidden ev (by decide) (a_cons (e_var 5 rfl (a_nil ⟨z, n, fi, M, S, rfl, al, n1, n2, ho.fi, ho.M, ho.S, ?_⟩)))))
  refine s_cons (s_set 7 ev (e_callW c.text ev (by decide) q rfl (a_cons (e_var 1 rfl (a_cons (e_var 5 rfl (a_cons (e_var 4 rfl (a_nil ⟨z, n, LL n, LL n, LL z.cps.toList.length, len, fi, M, S, rfl, md, by omega, fun x hxl hx => ?_⟩)))))))))
  have mbk : ∀ j, j ≤ len + 1 → MdB z n (LL n) (LL n) (LL z.cps.toList.length) fi M S j := fun j hj => ⟨md, g.a.le hj, g.b.le hj⟩
  have mb := mbk x.cps.toList.length (by omega)
  refine s_cons (s_set 8 ev (e_call c.due ev (by decide) (a_cons (e_var 5 rfl (a_cons (e_var 7 rfl (a_nil ⟨z, x, n, _, _, _, fi, M, S, rfl, mb, by omega, hx, ?_⟩)))))))
  refine s_cons (s_if (t_bool (w_or (t_not (t_val (e_call c.kept ev (by decide) (a_cons (e_var 6 rfl (a_cons (e_var 5 rfl (a_nil ⟨z, n, fi, M, S, rfl, al, n2, fun h => Bool.noConfusion h, fun _ => ?_⟩)))))))))))
  refine w_or1 (t_not (t_val (e_call c.right ev (by decide) (a_cons (e_var 6 rfl (a_cons (e_var 7 rfl (a_cons (e_var 8 rfl (a_nil ⟨z, x, n, _, _, _, fi, M, S, rfl, by omega, hx, mb, fun h => Bool.noConfusion h, fun _ => ?_⟩))))))))))
  refine s_nil (s_cons (s_if (t_not (t_val (e_callW c.cuts ev (by decide) q rfl (a_cons (e_var 1 rfl (a_cons (e_var 5 rfl (a_cons (e_call c.hmach ev (by decide) (a_cons (e_var 6 rfl (a_nil ⟨z, n, _, _, _, fi, M, S, _, rfl, mb, fun d hM => ?_⟩))))))))))))))
  refine a_cons (e_var 7 rfl (a_nil ⟨z, x, n, _, _, _, fi, M, S, d, rfl, hM, mb, by omega, hx, fun h => Bool.noConfusion h, fun _ => ?_⟩))
  refine s_nil (s_cons (s_if (t_bool (w_or (t_not (t_val (e_callW c.fst ev (by decide) q rfl (a_cons (e_var 1 rfl (a_cons (e_var 5 rfl (a_cons (e_var 7 rfl (a_cons (e_var 8 rfl (a_nil ⟨z, x, n, _, _, _, fi, M, S, rfl, mb, ho, by omega, hx, fun h => Bool.noConfusion h, fun _ => ?_⟩))))))))))))))))
  refine w_or1 (t_not (t_val (e_callW c.splits ev (by decide) q rfl (a_cons (e_var 1 rfl (a_cons (e_var 5 rfl (a_cons (e_var 6 rfl (a_cons (e_var 7 rfl (a_cons (e_var 8 rfl (a_nil ⟨z, x, n, _, _, _, fi, M, S, rfl, mb, ho, fun _ => ⟨g.c.le (by omega), g.d.le (by omega)⟩, by omega, hx, fun h => Bool.noConfusion h, fun _ => ?_⟩))))))))))))))
  have hzl : z.length ≤ 100000 := by rw [len_str]; omega
  have hkl : x.length ≤ 100000 := by rw [len_str]; omega
  refine s_nil (s_cons (s_set 9 ev (e_add (e_var 7 rfl (e_ix ev.room (e_var 2 rfl (e_callW c.take ev (by decide) q rfl (a_cons (e_var 1 rfl (a_cons (e_len fr (e_var 2 rfl ⟨hzl, a_nil ⟨(z.length : Nat), rfl, ?_, ?_, fun r6 h60 h61 => ⟨hzl, ?_⟩⟩⟩))))))))))))
  · rw [len_str]; omega
  · rw [len_str]; omega
  obtain ⟨k6, rfl⟩ : ∃ n0 : Nat, r6 = (n0 : Int) := ⟨r6.toNat, (Int.toNat_of_nonneg h60).symm⟩
  rw [len_str] at h61
  have hk6 : k6 < z.cps.toList.length := by omega
  refine ⟨_, atI_nat (List.getElem?_eq_getElem hk6), small_le ?_, ?_⟩
  · show x.length + 1 ≤ _
    rw [len_str]; omega
  generalize hc6 : z.cps.toList[k6] = c6
  have hc6z : c6 ∈ z.cps.toList := hc6 ▸ List.getElem_mem hk6
  refine s_cons (s_set 10 ev (e_sl (e_var 7 rfl (p_none (p_some (e_callW c.take ev (by decide) q rfl (a_cons (e_var 1 rfl (a_cons (e_add (e_len fr (e_var 7 rfl ⟨hkl, e_int (a_nil ⟨(x.length : Nat) + 1, rfl, ?_, ?_, fun r7 h70 h71 => ⟨_, rfl, hkl, ?_⟩⟩)⟩))))))))))))
  · omega
  · rw [len_str]; omega
  obtain ⟨k7, rfl⟩ : ∃ n0 : Nat, r7 = (n0 : Int) := ⟨r7.toNat, (Int.toNat_of_nonneg h70).symm⟩
  let lo : Str := x ++ (⟨#[c6]⟩ : Str)
  let sho : Str := cutS x none (some (k7 : Int))
  have elo : lo.cps.toList = x.cps.toList ++ [c6] := app_one x c6
  have esho : sho.cps.toList = x.cps.toList.take k7 := cutS_take x k7
  have llo : lo.cps.toList.length = len + 1 := by rw [elo, List.length_append, hxl]; rfl
  have lsho : sho.cps.toList.length ≤ len := by rw [esho, List.length_take]; omega
  have xlo : ∀ c ∈ lo.cps.toList, c ∈ z.cps.toList := fun c hc => by
    rw [elo] at hc
    rcases List.mem_append.mp hc with h | h
    · exact hx c h
    · rw [List.mem_singleton] at h
      rw [h]
      exact hc6z
  have xsho : ∀ c ∈ sho.cps.toList, c ∈ z.cps.toList := fun c hc => hx c (List.mem_of_mem_take (by rw [← esho]; exact hc))
  have mlo := mbk lo.cps.toList.length (by omega)
  have msho := mbk sho.cps.toList.length (by omega)
  refine s_cons (s_if (t_not (t_val (e_call c.right ev (by decide) (a_cons (e_var 6 rfl (a_cons (e_var 9 rfl (a_cons (e_call c.due ev (by decide) (a_cons (e_var 5 rfl (a_cons (e_var 9 rfl (a_nil ⟨z, lo, n, _, _, _, fi, M, S, rfl, mlo, by omega, xlo, ?_⟩)))))))))))))))
  refine a_nil ⟨z, lo, n, _, _, _, fi, M, S, rfl, by omega, xlo, mlo, fun h => Bool.noConfusion h, fun _ => ?_⟩
  refine s_nil (s_cons (s_ret (e_and (e_call c.right ev (by decide) (a_cons (e_var 6 rfl (a_cons (e_var 10 rfl (a_cons (e_call c.due ev (by decide) (a_cons (e_var 5 rfl (a_cons (e_var 10 rfl (a_nil ⟨z, sho, n, _, _, _, fi, M, S, rfl, msho, by omega, xsho, ?_⟩)))))))))))))))
  refine a_nil ⟨z, sho, n, _, _, _, fi, M, S, rfl, by omega, xsho, msho, _, rfl, fun _ => ?_, fun h => Bool.noConfusion h⟩
  exact e_one (e_callW c.foreign ev (by decide) q rfl (a_cons (e_var 1 rfl (a_cons (e_var 5 rfl (a_cons (e_var 6 rfl (a_cons (e_var 7 rfl (a_nil ⟨z, x, n, fi, M, S, rfl, al, by omega, hx, rfl⟩))))))))))
end
end K69
set_option Elab.async false
set_option linter.all false
set_option maxRecDepth 100000
set_option maxHeartbeats 4000000
/-! SYH2: what the hook says, as the facts that the texts ask. -/
namespace SYH
open PySem PySem.Spec PyProof.Rows L2 He SY
section
variable {chk : PySem.W.Frag → Bool} {fn ex : List DefD} {K : PySem.W.Frag} {h : Heap} {mg : Str → Option Value}
theorem C_chk (c : obsC chk fn ex K = valC fn ex) : chk K = true := (ba (Prod.mk.inj c).1).1
theorem C_def (c : obsC chk fn ex K = valC fn ex) (i : Nat) {d : DefD} (h : fn[i]? = some d := by rfl) : ∃ fd, FunD K d.name d.qual d.params d.body d.scope (d.dvs K) (d.kws K) (fAd K d.at_) fd := by
  obtain ⟨c1, c2⟩ := Prod.mk.inj c
  obtain ⟨c2, c3⟩ := Prod.mk.inj c2
  have hm := List.mem_of_getElem? h
  have o := List.all_eq_true.mp (ba c1).2 d hm
  have e : fnW K d.at_ = d.val := by
    have := congrArg (fun l : List FnW => l[i]?) c2
    simp only [List.getElem?_map, h, Option.map_some] at this
    exact Option.some.inj this
  exact DefD.funD e o
theorem C_ex (c : obsC chk fn ex K = valC fn ex) (i : Nat) {d : DefD} (h : ex[i]? = some d := by rfl) : fnC K d.at_ = valX d := by
  obtain ⟨c1, c2⟩ := Prod.mk.inj c
  obtain ⟨c2, c3⟩ := Prod.mk.inj c2
  have := congrArg (fun l : List FnC => l[i]?) c3
  simp only [List.getElem?_map, h, Option.map_some] at this
  exact Option.some.inj this
theorem fa_at {fa : List Fa} {xs : List (PySem.W.Frag → Bool)} (c : chkOf fa xs K = true) (i : Nat) {f : Fa} (h : fa[i]? = some f := by rfl) : f.ok K = true := List.all_eq_true.mp (ba c).1 f (List.mem_of_getElem? h)
theorem xs_at {fa : List Fa} {xs : List (PySem.W.Frag → Bool)} (c : chkOf fa xs K = true) (i : Nat) {g : PySem.W.Frag → Bool} (h : xs[i]? = some g := by rfl) : g K = true := List.all_eq_true.mp (ba c).2 g (List.mem_of_getElem? h)
/-- a global def -/
theorem defOk_of {x : Str} {st : Stmt} {dvs : List V} (X : K.In h) (G : h.Ns mainGlobals mg) (g : (Fa.glo x).ok K = true) (F : ∃ fd, FunD K x x (defArgs st) (defBody st) (defScope st) dvs [] (ga K x) fd) : DefOk K mg x st dvs := by
  obtain ⟨fd, F⟩ := F
  exact ⟨_, fd, F, glo_ok X G g⟩
theorem mkDef_of {x qual : Str} {st : Stmt} {kws : List (Str × V)} (X : K.In h) (G : h.Ns mainGlobals mg) (g : (Fa.glo x).ok K = true) (m : (Fa.mkr x).ok K = true) (F : ∃ fd, FunD K "__init__" qual (defArgs st) (defBody st) (defScope st) [] kws (ma K (ga K x) "__init__") fd) : MkDef K mg x qual st kws (ga K x) := by
  obtain ⟨fd, F⟩ := F
  exact ⟨_, fd, mkr_ok m, F, glo_ok X G g⟩
theorem iniDef_of {x qual : Str} {st : Stmt} {dvs : List V} (X : K.In h) (G : h.Ns mainGlobals mg) (g : (Fa.glo x).ok K = true) (m : iniB x K = true) (F : ∃ fd, FunD K "__init__" qual (defArgs st) (defBody st) (defScope st) dvs [] (ma K (ga K x) "__init__") fd) : IniDef K mg x qual st dvs := by
  obtain ⟨fd, F⟩ := F
  obtain ⟨m1, m2⟩ := ba m
  obtain ⟨m2, m3⟩ := ba m2
  refine ⟨_, fd, ga K x, .type "type", ⟨m1, of_decide_eq_true m2⟩, ⟨?_, rfl⟩, F, glo_ok X G g⟩
  split at m3
  · rename_i f e
    rw [e, beq_iff_eq.mp m3]
  · cases m3
theorem lenDef_of {x y qual : Str} {st : Stmt} (m : inhB x y "__len__" K = true) (F : ∃ fd, FunD K "__len__" qual (defArgs st) (defBody st) (defScope st) [] [] (ma K (ga K y) "__len__") fd) : LenDef K qual st (ga K x) := by
  obtain ⟨fd, F⟩ := F
  obtain ⟨m1, m2⟩ := ba m
  exact ⟨_, fd, eqO_ok m1, m2, F⟩
theorem callDef_of {x y qual : Str} {st : Stmt} (m : inhB x y "__call__" K = true) (F : ∃ fd, FunD K "__call__" qual (defArgs st) (defBody st) (defScope st) [] [] (ma K (ga K y) "__call__") fd) : CallDef K qual st (ga K x) := by
  obtain ⟨fd, F⟩ := F
  obtain ⟨m1, m2⟩ := ba m
  exact ⟨_, fd, eqO_ok m1, m2, F⟩
theorem blt_of {x : Str} {id : String} (X : K.In h) (G : h.Ns mainGlobals mg) (m : bltB x id K = true) : mg x = some (.builtin id) := PySem.W.mg_of X G (eqO_ok m)
/-- a tuple of two ints -/
theorem globT_of {x : Str} {i j : Int} (X : K.In h) (G : h.Ns mainGlobals mg) (g : (Fa.glo x).ok K = true) (m : tupB K x [.int i, .int j] = true) : GlobD K mg x (.tup [.int i, .int j]) :=
  ⟨.ref (ga K x), .ref (ga K x), glo_ok X G g, rfl, fun F => mkTup (tupB_ok m F) (RL.cons (mkInt i) (RL.cons (mkInt j) RL.nil))⟩
theorem globI_of {x : Str} {i : Int} (X : K.In h) (G : h.Ns mainGlobals mg) (m : (Fa.int x i).ok K = true) : GlobD K mg x (.int i) := by
  obtain ⟨t, e⟩ := int_ok X G m
  exact ⟨_, .int i, e, ⟨t, rfl⟩, fun F => mkInt i⟩
theorem oex_of {C : Addr} (m : excB K C = true) : OexC K C := by
  obtain ⟨m1, m2⟩ := ba m
  obtain ⟨m2, m3⟩ := ba m2
  obtain ⟨m3, m4⟩ := ba m3
  obtain ⟨m4, m5⟩ := ba m4
  refine ⟨?_, eqO_ok m2, of_decide_eq_true m3, of_decide_eq_true m4, m5⟩
  split at m1
  · rename_i dd cd sl ho
    split at m1
    · rename_i C' bm k0 k1 k2 k3 n k5 hm hs
      simp only [Bool.and_eq_true, beq_iff_eq, Bool.not_eq_true'] at m1
      obtain ⟨rfl, rfl, hdel, hdct, hve⟩ := m1
      obtain ⟨nm, bs, mro, ns, qn, hd, sn, sub, ab, col, del⟩ := cd
      dsimp only at hm hdel hdct
      subst hm hdel hdct
      have hsl : sl = #[k0, k1, k2, k3, some (.builtin "ValueError.__new__"), k5] := by
        obtain ⟨l⟩ := sl
        simp only at hs
        rw [hs]
      subst hsl
      exact ⟨nm, qn, ns, bs, bm, sn, sub, ab, col, dd, k0, k1, k2, k3, k5, ho, hve⟩
    · cases m1
  · cases m1
theorem exOk_of {P : Program} {x f qual fl : Str} {params : Arguments} {body : List Stmt} {scope : Scope} (X : K.In h) (G : h.Ns mainGlobals mg) (g : (Fa.glo x).ok K = true) (sup : (Fa.free "super").ok K = true) (m : exkB x f qual fl K = true) (e : fnC K (x, some "__init__") = (some (("__init__" : Str), qual, params, FuncBody.stmts body, scope, mainGlobals, [("__class__" : Str)], builtinsNs) : FnC))
    (hf : ((P.main.file : Str) == fl) = true) (ht : (P.main.scope.names.lookup ("super" : Str)).isSome = false) (S : ExF f qual params body scope) : ExOk P K mg x (ga K x) f := by
  refine ⟨⟨qual, params, body, scope, ?_, S⟩, free_ok X G sup, glo_ok X G g⟩
  unfold exkB at m
  obtain ⟨m1, m⟩ := ba m
  obtain ⟨m2, m⟩ := ba m
  obtain ⟨m3, m⟩ := ba m
  obtain ⟨m4, m⟩ := ba m
  obtain ⟨m5, m⟩ := ba m
  obtain ⟨m6, m⟩ := ba m
  obtain ⟨m7, m8⟩ := ba m
  refine ⟨oex_of m1, ?_, eqO_ok m5, of_decide_eq_true m6, eqO_ok m7, ht, eqO_ok m8⟩
  unfold fnC at e
  have ef : fAd K (x, some "__init__") = ma K (ga K x) "__init__" := rfl
  rw [ef] at e
  cases q : K.lookup (ma K (ga K x) "__init__") with
  | none =>
    rw [q] at m4
    cases m4
  | some o =>
    obtain ⟨oc, od, dt, osl⟩ := o
    rw [q] at m4 e
    cases dt with
    | func fd =>
      obtain ⟨n1, n2, n3, n4, n5, n6, n7, n8, n9, n10, n11, n12, n13, n14, n15⟩ := fd
      have e2 : (some (n1, n2, n3, n4, n5, n6, n7.map (·.1), n15) : FnC) = (some (("__init__" : Str), qual, params, FuncBody.stmts body, scope, mainGlobals, [("__class__" : Str)], builtinsNs) : FnC) := e
      simp only [Option.some.injEq, Prod.mk.injEq] at e2
      obtain ⟨h1, h2, h3, h4, h5, h6, h7, h8⟩ := e2
      obtain ⟨cc, rfl⟩ : ∃ cc, n7 = [(("__class__" : Str), cc)] := by
        match n7, h7 with
        | [(y, cc)], h7 =>
          have hy : y = ("__class__" : Str) := (List.cons.inj h7).1
          exact ⟨cc, by rw [hy]⟩
        | [], h7 => cases h7
        | _ :: _ :: _, h7 => cases (List.cons.inj h7).2
      subst h1 h2 h3 h4 h5 h6 h8
      dsimp only at m4
      obtain ⟨k1, m5⟩ := ba m4
      obtain ⟨k2, m5⟩ := ba m5
      obtain ⟨k3, k4⟩ := ba m5
      have h8 : n8 = .none := by
        cases n8 with
        | none => rfl
        | _ => cases k3
      subst h8
      have hcell : ∃ cl cld csl, K.lookup cc = some ⟨cl, cld, .cell (some (.ref (ga K x))), csl⟩ := by
        split at k4
        · next cl cld a csl hcc =>
          exact ⟨_, _, _, by rw [← beq_iff_eq.mp k4]; exact hcc⟩
        · cases k4
      have hcode : ∃ cda, n13 = .ref cda := by
        cases n13 with
        | ref a => exact ⟨a, rfl⟩
        | _ => cases k1
      obtain ⟨cda, rfl⟩ := hcode
      refine ⟨ma K (ga K x) "__init__", cda, cc, oc, od, osl, n9, n10, n11, n14, n12, eqO_ok m2, of_decide_eq_true m3, q, k1, ?_, hcell⟩
      unfold fileIn at k2
      dsimp only at k2
      split at k2
      · next ccl cdd vs ccs hcode =>
        unfold strAt2 at k2
        split at k2
        · next file tf hv =>
          refine ⟨_, _, _, _, file, tf, hcode, hv, ?_⟩
          rw [beq_iff_eq] at k2 hf ⊢
          exact hf.trans k2
        · cases k2
      · cases k2
    | _ => cases m4
theorem exk_nf {x f qual fl : Str} (m : exkB x f qual fl K = true) : PySem.W.findIn K (.ref (ga K x)) f = some none := by
  unfold exkB at m
  exact eqO_ok (ba (ba (ba (ba (ba (ba (ba m).2).2).2).2).2).2).2
theorem exc_of {x : Str} (m : exrB x K = true) : XfC K (ga K x) ∧ ExcC K (ga K x) := by
  obtain ⟨m1, m⟩ := ba m
  obtain ⟨m2, m⟩ := ba m
  obtain ⟨m3, m⟩ := ba m
  obtain ⟨m4, m5⟩ := ba m
  have X := xfB_ok m1
  exact ⟨X, ⟨X.ga, X.gg, X.exC, X.hdC, eqO_ok m2, eqO_ok m3, of_decide_eq_true m4, of_decide_eq_true m5⟩⟩
theorem exm_of {x y : Str} {b : Bool} (m : exmB x y b K = true) : PySem.W.exmOne K (.ref (ga K x)) (.ref (ga K y)) = some b := of_decide_eq_true m
theorem kit_of {x y : Str} {b : Bool} (m : kitB' x y b K = true) : PySem.W.kitOne K (.ref (ga K x)) (.ref (ga K y)) = some b := of_decide_eq_true m
end
end SYH
set_option Elab.async false
set_option linter.all false
set_option maxRecDepth 100000
set_option maxHeartbeats 8000000
namespace K69
open PySem PySem.Spec PyProof.Rows L2 He SYH SY
theorem exF_bad : ExF "index" "BadText.__init__" (defArgs (inCls (top 9) 0)) (defBody (inCls (top 9) 0)) (defScope (inCls (top 9) 0)) where
  bind := fun _ _ _ _ _ _ _ _ _ => rfl
  par := ⟨_, rfl, rfl⟩
  shape := ⟨_, _, _, _, _, _, _, _, _, _, _, _, rfl, fun L fa cd cc => ⟨⟨_, rfl⟩, rfl, rfl, rfl⟩⟩
  ks := by rfl
  kc := by rfl
  ka := by rfl
  kf := by rfl
  nd := by decide
  nsf := by decide
  cell := by decide +kernel
  co := by rfl
  gen := by rfl
  kind := by rfl
theorem exF_imp : ExF "text" "Impossible.__init__" (defArgs (inCls (top 14) 0)) (defBody (inCls (top 14) 0)) (defScope (inCls (top 14) 0)) where
  bind := fun _ _ _ _ _ _ _ _ _ => rfl
  par := ⟨_, rfl, rfl⟩
  shape := ⟨_, _, _, _, _, _, _, _, _, _, _, _, rfl, fun L fa cd cc => ⟨⟨_, rfl⟩, rfl, rfl, rfl⟩⟩
  ks := by rfl
  kc := by rfl
  ka := by rfl
  kf := by rfl
  nd := by decide
  nsf := by decide
  cell := by decide +kernel
  co := by rfl
  gen := by rfl
  kind := by rfl
theorem law_ok {P : Program} {w : World} {K : PySem.W.Frag} {h : Heap} {mg : Str → Option Value} (hP1 : ((P.main.file : Str) == ("/claim/cut.py" : Str)) = true) (hP2 : (P.main.scope.names.lookup ("super" : Str)).isSome = false) (X : K.In h) (G : h.Ns mainGlobals mg) (c : obsC (chkOf fa xs) fn ex K = valC fn ex) :
    ∃ fd, FunD K "law" "law" (defArgs (top 91)) (defBody (top 91)) (defScope (top 91)) [] [] (ga K "law") fd ∧ ∀ base : Heap, FnOk P w K mg base (L2.CX P w) 18 (ga K "law") fd ["script"] (spLaw K) := by
  have ck := C_chk c
  have fr : Free mg := ⟨free_ok X G (fa_at ck 67 (f := .free "abs") rfl), free_ok X G (fa_at ck 68 (f := .free "all") rfl), free_ok X G (fa_at ck 69 (f := .free "any") rfl), free_ok X G (fa_at ck 70 (f := .free "bool") rfl), free_ok X G (fa_at ck 71 (f := .free "dict") rfl), free_ok X G (fa_at ck 72 (f := .free "enumerate") rfl), free_ok X G (fa_at ck 73 (f := .free "int") rfl), free_ok X G (fa_at ck 74 (f := .free "isinstance") rfl), free_ok X G (fa_at ck 75 (f := .free "len") rfl), free_ok X G (fa_at ck 76 (f := .free "list") rfl), free_ok X G (fa_at ck 77 (f := .free "max") rfl), free_ok X G (fa_at ck 78 (f := .free "min") rfl), free_ok X G (fa_at ck 79 (f := .free "range") rfl), free_ok X G (fa_at ck 80 (f := .free "sorted") rfl), free_ok X G (fa_at ck 81 (f := .free "str") rfl), free_ok X G (fa_at ck 82 (f := .free "sum") rfl), free_ok X G (fa_at ck 83 (f := .free "tuple") rfl), free_ok X G (fa_at ck 84 (f := .free "zip") rfl)⟩
  have hg : mg "gcd" = some (.builtin "math.gcd") := blt_of X G (xs_at ck 0)
  have hz : GlobD K mg "ZERO" (K69.fr 0) := globT_of X G (fa_at ck 65 (f := .glo "ZERO") rfl) (xs_at ck 1)
  have h1 : GlobD K mg "ONE" (K69.fr 1) := globT_of X G (fa_at ck 66 (f := .glo "ONE") rfl) (xs_at ck 2)
  have hL : GlobD K mg "STATE_LIMIT" (.int 24) := globI_of X G (fa_at ck 86 (f := .int "STATE_LIMIT" 24) rfl)
  have mc : MC K (ga K "Machine") := ⟨cls_ok (fa_at ck 87 (f := .cls "Machine") rfl), noat_ok (fa_at ck 91 (f := .noat "Machine" "letters") rfl), noat_ok (fa_at ck 92 (f := .noat "Machine" "start") rfl), noat_ok (fa_at ck 93 (f := .noat "Machine" "end") rfl), noat_ok (fa_at ck 94 (f := .noat "Machine" "arrows") rfl), noat_ok (fa_at ck 95 (f := .noat "Machine" "_table") rfl), noat_ok (fa_at ck 96 (f := .noat "Machine" "_given") rfl)⟩
  have hc : HC K (ga K "Hidden") := ⟨cls_ok (fa_at ck 88 (f := .cls "Hidden") rfl), noat_ok (fa_at ck 97 (f := .noat "Hidden" "letters") rfl), noat_ok (fa_at ck 98 (f := .noat "Hidden" "first") rfl), noat_ok (fa_at ck 99 (f := .noat "Hidden" "moves") rfl), noat_ok (fa_at ck 100 (f := .noat "Hidden" "shows") rfl)⟩
  have xb := exc_of (xs_at ck 8 (g := exrB "BadText") rfl)
  have xi := exc_of (xs_at ck 9 (g := exrB "Impossible") rfl)
  have cb : ExOk P K mg "BadText" (ga K "BadText") "index" := exOk_of X G (fa_at ck 63 (f := .glo "BadText") rfl) (fa_at ck 85 (f := .free "super") rfl) (xs_at ck 6 (g := exkB "BadText" "index" "BadText.__init__" "/claim/cut.py") rfl) (C_ex c 0 (d := x0) rfl) hP1 hP2 exF_bad
  have ci : ExOk P K mg "Impossible" (ga K "Impossible") "text" := exOk_of X G (fa_at ck 64 (f := .glo "Impossible") rfl) (fa_at ck 85 (f := .free "super") rfl) (xs_at ck 7 (g := exkB "Impossible" "text" "Impossible.__init__" "/claim/cut.py") rfl) (C_ex c 1 (d := x1) rfl) hP1 hP2 exF_imp
  have ax : AskOk K mg (ga K "BadText") (ga K "Impossible") := ⟨cb.mC, ci.mC, exm_of (xs_at ck 10 (g := exmB "BadText" "BadText" true) rfl), exm_of (xs_at ck 11 (g := exmB "Impossible" "BadText" false) rfl), exm_of (xs_at ck 12 (g := exmB "Impossible" "Impossible" true) rfl), kit_of (xs_at ck 13 (g := kitB' "BadText" "Impossible" false) rfl), kit_of (xs_at ck 14 (g := kitB' "Impossible" "BadText" false) rfl), xb.1, xi.1, xb.2, xi.2, exk_nf (xs_at ck 6 (g := exkB "BadText" "index" "BadText.__init__" "/claim/cut.py") rfl), exk_nf (xs_at ck 7 (g := exkB "Impossible" "text" "Impossible.__init__" "/claim/cut.py") rfl)⟩
  obtain ⟨fd, F⟩ := C_def c 64 (d := d64) rfl
  refine ⟨fd, F, fun base => ?_⟩
  have k_gcd := ok_gcd (P := P) (w := w) (base := base) fr (defOk_of X G (fa_at ck 36 (f := .glo "_law_gcd") rfl) (C_def c 41 (d := d41) rfl))
  have k_frac := ok_frac (P := P) (w := w) (base := base) fr (defOk_of X G (fa_at ck 37 (f := .glo "_law_frac") rfl) (C_def c 42 (d := d42) rfl)) k_gcd
  have k_ratio := ok_ratio (P := P) (w := w) (base := base) fr hg (defOk_of X G (fa_at ck 10 (f := .glo "ratio") rfl) (C_def c 12 (d := d12) rfl))
  have k_mul := ok_mul (P := P) (w := w) (base := base) fr (defOk_of X G (fa_at ck 14 (f := .glo "multiply") rfl) (C_def c 16 (d := d16) rfl)) k_ratio
  have k_add := ok_add (P := P) (w := w) (base := base) fr (defOk_of X G (fa_at ck 13 (f := .glo "add") rfl) (C_def c 15 (d := d15) rfl)) k_ratio
  have k_more := ok_more (P := P) (w := w) (base := base) fr (defOk_of X G (fa_at ck 38 (f := .glo "_law_more") rfl) (C_def c 43 (d := d43) rfl)) k_frac
  have k_times := ok_times (P := P) (w := w) (base := base) fr (defOk_of X G (fa_at ck 39 (f := .glo "_law_times") rfl) (C_def c 44 (d := d44) rfl)) k_more
  have k_quo := ok_quo (P := P) (w := w) (base := base) fr (defOk_of X G (fa_at ck 15 (f := .glo "divide") rfl) (C_def c 17 (d := d17) rfl)) k_ratio
  have k_total := ok_total (P := P) (w := w) (base := base) fr hz (defOk_of X G (fa_at ck 16 (f := .glo "total") rfl) (C_def c 18 (d := d18) rfl)) k_add
  have k_state := ok_state (P := P) (w := w) (base := base) fr (defOk_of X G (fa_at ck 4 (f := .glo "is_state") rfl) (C_def c 4 (d := d4) rfl))
  have k_isint := ok_isint (P := P) (w := w) (base := base) fr (defOk_of X G (fa_at ck 11 (f := .glo "_is_integer") rfl) (C_def c 13 (d := d13) rfl))
  have k_letter := ok_letter (P := P) (w := w) (base := base) fr (defOk_of X G (fa_at ck 5 (f := .glo "is_letter") rfl) (C_def c 5 (d := d5) rfl))
  have k_arrow := ok_arrow (P := P) (w := w) (base := base) fr (defOk_of X G (fa_at ck 6 (f := .glo "is_arrow") rfl) (C_def c 6 (d := d6) rfl)) k_state k_letter
  have k_isfr := ok_isfr (P := P) (w := w) (base := base) fr hg (defOk_of X G (fa_at ck 12 (f := .glo "is_fraction") rfl) (C_def c 14 (d := d14) rfl)) k_isint
  have k_size := ok_size (P := P) (w := w) (base := base) fr (defOk_of X G (fa_at ck 2 (f := .glo "check_size") rfl) (C_def c 2 (d := d2) rfl))
  have k_astup := ok_astup (P := P) (w := w) (base := base) fr (defOk_of X G (fa_at ck 3 (f := .glo "as_tuples") rfl) (C_def c 3 (d := d3) rfl))
  have k_alpha := ok_alpha (P := P) (w := w) (base := base) fr (defOk_of X G (fa_at ck 0 (f := .glo "is_alphabet") rfl) (C_def c 0 (d := d0) rfl))
  have k_chances := ok_chances (P := P) (w := w) (base := base) fr h1 (defOk_of X G (fa_at ck 27 (f := .glo "is_chances") rfl) (C_def c 31 (d := d31) rfl)) k_isfr k_total
  have k_widths := ok_widths (P := P) (w := w) (base := base) fr (defOk_of X G (fa_at ck 28 (f := .glo "check_widths") rfl) (C_def c 32 (d := d32) rfl))
  have k_checkch := ok_checkch (P := P) (w := w) (base := base) fr (defOk_of X G (fa_at ck 29 (f := .glo "check_chances") rfl) (C_def c 33 (d := d33) rfl)) k_chances
  have k_dot := ok_dot (P := P) (w := w) (base := base) fr hz (defOk_of X G (fa_at ck 17 (f := .glo "dot") rfl) (C_def c 19 (d := d19) rfl)) k_add k_mul
  have k_places := ok_places (P := P) (w := w) (base := base) fr (defOk_of X G (fa_at ck 9 (f := .glo "weighted_places") rfl) (C_def c 9 (d := d9) rfl))
  have k_checkfr := ok_checkfr (P := P) (w := w) (base := base) fr (defOk_of X G (fa_at ck 18 (f := .glo "check_fractions") rfl) (C_def c 22 (d := d22) rfl)) k_places k_isfr
  have k_rowstep := ok_rowstep (P := P) (w := w) (base := base) fr mc hz (defOk_of X G (fa_at ck 19 (f := .glo "row_step") rfl) (C_def c 23 (d := d23) rfl)) k_add k_mul
  have k_colstep := ok_colstep (P := P) (w := w) (base := base) fr mc hz (defOk_of X G (fa_at ck 20 (f := .glo "column_step") rfl) (C_def c 24 (d := d24) rfl)) k_add k_mul
  have k_text0 := ok_text0 (P := P) (w := w) (base := base) fr (defOk_of X G (fa_at ck 1 (f := .glo "check_text") rfl) (C_def c 1 (d := d1) rfl))
  have k_rowafter := ok_rowafter (P := P) (w := w) (base := base) fr mc (defOk_of X G (fa_at ck 21 (f := .glo "row_after") rfl) (C_def c 25 (d := d25) rfl)) k_text0 k_rowstep
  have k_colbefore := ok_colbefore (P := P) (w := w) (base := base) fr mc (defOk_of X G (fa_at ck 22 (f := .glo "column_before") rfl) (C_def c 26 (d := d26) rfl)) k_text0 k_colstep
  have k_weightof := ok_weightof (P := P) (w := w) (base := base) fr mc (defOk_of X G (fa_at ck 23 (f := .glo "weight_of") rfl) (C_def c 27 (d := d27) rfl)) k_dot k_rowafter
  have k_take := ok_take (P := P) (w := w) (base := base) fr (defOk_of X G (fa_at ck 35 (f := .glo "_law_take") rfl) (C_def c 40 (d := d40) rfl))
  have k_letters := ok_letters (P := P) (w := w) (base := base) fr (defOk_of X G (fa_at ck 40 (f := .glo "_law_letters") rfl) (C_def c 45 (d := d45) rfl)) k_take
  have k_lch := ok_lch (P := P) (w := w) (base := base) fr (defOk_of X G (fa_at ck 41 (f := .glo "_law_chances") rfl) (C_def c 46 (d := d46) rfl)) k_take k_frac
  have k_lmodel := ok_lmodel (P := P) (w := w) (base := base) fr (defOk_of X G (fa_at ck 42 (f := .glo "_law_model") rfl) (C_def c 47 (d := d47) rfl)) k_lch
  have k_picked := ok_picked (P := P) (w := w) (base := base) fr (defOk_of X G (fa_at ck 43 (f := .glo "_law_picked") rfl) (C_def c 48 (d := d48) rfl)) k_take
  have k_ltext := ok_ltext (P := P) (w := w) (base := base) fr (defOk_of X G (fa_at ck 44 (f := .glo "_law_text") rfl) (C_def c 49 (d := d49) rfl)) k_take k_picked
  have k_lrows := ok_lrows (P := P) (w := w) (base := base) fr (defOk_of X G (fa_at ck 45 (f := .glo "_law_rows") rfl) (C_def c 50 (d := d50) rfl)) k_times k_more
  have k_lcols := ok_lcols (P := P) (w := w) (base := base) fr (defOk_of X G (fa_at ck 46 (f := .glo "_law_columns") rfl) (C_def c 51 (d := d51) rfl)) k_times k_more
  have k_ltotal := ok_ltotal (P := P) (w := w) (base := base) fr (defOk_of X G (fa_at ck 47 (f := .glo "_law_total") rfl) (C_def c 52 (d := d52) rfl)) k_more
  have k_due := ok_due (P := P) (w := w) (base := base) fr (defOk_of X G (fa_at ck 48 (f := .glo "_law_due") rfl) (C_def c 53 (d := d53) rfl)) k_lrows k_lcols k_ltotal k_times
  have k_table := ok_table (P := P) (w := w) (base := base) fr (defOk_of X G (fa_at ck 8 (f := .glo "arrow_table") rfl) (C_def c 8 (d := d8) rfl))
  have k_ord := ok_ord (P := P) (w := w) (base := base) fr (defOk_of X G (fa_at ck 7 (f := .glo "ordered_arrows") rfl) (C_def c 7 (d := d7) rfl)) k_arrow
  have k_dev := ok_dev (P := P) (w := w) (base := base) fr mc (iniDef_of X G (fa_at ck 60 (f := .glo "Device") rfl) (xs_at ck 3 (g := iniB "Device") rfl) (C_def c 10 (d := d10) rfl)) k_alpha k_size k_ord
  have k_mach := ok_mach (P := P) (w := w) (base := base) fr mc (mkDef_of X G (fa_at ck 61 (f := .glo "Machine") rfl) (fa_at ck 89 (f := .mkr "Machine") rfl) (C_def c 20 (d := d20) rfl)) k_dev k_checkfr k_table
  have k_frommat := ok_frommat (P := P) (w := w) (base := base) fr (defOk_of X G (fa_at ck 24 (f := .glo "from_matrices") rfl) (C_def c 28 (d := d28) rfl)) k_mach
  have k_hidm := ok_hidm (P := P) (w := w) (base := base) fr hc h1 (defOk_of X G (fa_at ck 30 (f := .glo "hidden_machine") rfl) (C_def c 35 (d := d35) rfl)) k_frommat k_mul
  have k_fwd := ok_fwd (P := P) (w := w) (base := base) fr mc (defOk_of X G (fa_at ck 31 (f := .glo "forward_rows") rfl) (C_def c 36 (d := d36) rfl)) k_hidm k_rowstep
  have k_bwd := ok_bwd (P := P) (w := w) (base := base) fr mc (defOk_of X G (fa_at ck 32 (f := .glo "backward_columns") rfl) (C_def c 37 (d := d37) rfl)) k_hidm k_colstep
  have k_hid := ok_hid (P := P) (w := w) (base := base) fr hc hL (mkDef_of X G (fa_at ck 62 (f := .glo "Hidden") rfl) (fa_at ck 90 (f := .mkr "Hidden") rfl) (C_def c 34 (d := d34) rfl)) k_alpha k_widths k_checkch k_astup
  have k_isrow := ok_isrow (P := P) (w := w) (base := base) fr (defOk_of X G (fa_at ck 49 (f := .glo "_law_is_row") rfl) (C_def c 54 (d := d54) rfl))
  have k_kept := ok_kept (P := P) (w := w) (base := base) fr hc (defOk_of X G (fa_at ck 53 (f := .glo "_law_kept") rfl) (C_def c 58 (d := d58) rfl)) k_isrow
  have k_textX := ok_textX (P := P) (w := w) (base := base) fr (defOk_of X G (fa_at ck 1 (f := .glo "check_text") rfl) (C_def c 1 (d := d1) rfl)) cb
  have k_sch := ok_sch (P := P) (w := w) (base := base) fr hc (defOk_of X G (fa_at ck 33 (f := .glo "state_chances") rfl) (C_def c 38 (d := d38) rfl)) ci k_textX k_fwd k_bwd k_dot k_mul k_quo
  have k_ask := ok_ask (P := P) (w := w) (base := base) fr ax (defOk_of X G (fa_at ck 50 (f := .glo "_law_ask") rfl) (C_def c 55 (d := d55) rfl)) k_sch
  have k_right := ok_right (P := P) (w := w) (base := base) fr (defOk_of X G (fa_at ck 51 (f := .glo "_law_right") rfl) (C_def c 56 (d := d56) rfl)) k_ask k_isrow
  have k_len := ok_len (P := P) (w := w) (base := base) fr mc (lenDef_of (y := "Device") (xs_at ck 4 (g := inhB "Machine" "Device" "__len__") rfl) (C_def c 11 (d := d11) rfl))
  have k_call := ok_call (P := P) (w := w) (base := base) fr (callDef_of (y := "Machine") (xs_at ck 5 (g := inhB "Machine" "Machine" "__call__") rfl) (C_def c 21 (d := d21) rfl)) k_weightof
  have k_lcut := ok_lcut (P := P) (w := w) (base := base) fr mc (defOk_of X G (fa_at ck 25 (f := .glo "left_cut") rfl) (C_def c 29 (d := d29) rfl)) k_rowafter k_mach k_len
  have k_rcut := ok_rcut (P := P) (w := w) (base := base) fr mc (defOk_of X G (fa_at ck 26 (f := .glo "right_cut") rfl) (C_def c 30 (d := d30) rfl)) k_colbefore k_mach k_len
  have k_lhid := ok_lhid (P := P) (w := w) (base := base) fr (defOk_of X G (fa_at ck 52 (f := .glo "_law_hidden") rfl) (C_def c 57 (d := d57) rfl)) k_hid
  have k_cuts := ok_cuts (P := P) (w := w) (base := base) fr mc (defOk_of X G (fa_at ck 54 (f := .glo "_law_cuts") rfl) (C_def c 59 (d := d59) rfl)) k_lrows k_lcols k_ltotal k_take k_isrow k_rowafter k_colbefore k_lcut k_rcut k_weightof k_call
  have k_fst := ok_fst (P := P) (w := w) (base := base) fr (defOk_of X G (fa_at ck 55 (f := .glo "_law_first_state") rfl) (C_def c 60 (d := d60) rfl)) k_take k_lcols k_lhid k_hidm k_weightof k_lrows k_ltotal k_times k_due k_right
  have k_split := ok_split (P := P) (w := w) (base := base) fr (defOk_of X G (fa_at ck 56 (f := .glo "_law_split") rfl) (C_def c 61 (d := d61) rfl)) k_more k_times
  have k_splits := ok_splits (P := P) (w := w) (base := base) fr (defOk_of X G (fa_at ck 57 (f := .glo "_law_splits") rfl) (C_def c 62 (d := d62) rfl)) k_take k_more k_lhid k_split k_times k_right
  have k_foreign := ok_foreign (P := P) (w := w) (base := base) fr (defOk_of X G (fa_at ck 58 (f := .glo "_law_foreign") rfl) (C_def c 63 (d := d63) rfl)) k_take k_ask
  have k_box := ok_box (P := P) (w := w) (base := base) fr (defOk_of X G (fa_at ck 34 (f := .glo "_law_box") rfl) (C_def c 39 (d := d39) rfl))
  exact ok_law fr F ⟨k_box, k_take, k_letters, k_lmodel, k_lhid, k_ltext, k_due, k_kept, k_right, k_hidm, k_cuts, k_fst, k_splits, k_foreign⟩
end K69
open PySem PySem.W PySem.Calls PyProof.Rows
theorem PySem.Challenge.cw_steelyard_k69_state_chances_by_rows_and_holds : PySem.Challenge.rw_steelyard_k69_state_chances_by_rows_and.Holds := by
  w_on; o_law
  refine HandSHeadRun.head_imp (r := K69.Rw) (q := K69.qv) (H := K69.hk) (ob := K69.ob) (M := 20000) (loose := K69.lo) (d := HandSHeadRun.topDef K69.Rw.prog 91) (kwd := []) K69.ob_eq K69.run
    (by kernel_rfl) (by kernel_rfl) (by kernel_rfl) (by rfl) (by first | assumption | decide +kernel) (by decide +kernel) ⟨rfl, rfl, rfl, rfl, rfl, by decide +kernel⟩ ?hw ?hc
  case hw => w_witness2
  case hc =>
    refine LamX.walk_ofTsE (l := PySem.Challenge.rw_steelyard_k69_state_chances_by_rows_and) (n := 63) (k := 18) (x := "script") (CX := fun w => L2.CX (PySem.Challenge.rw_steelyard_k69_state_chances_by_rows_and).prog w) rfl (by decide) (by kernel_rfl) ⟨rfl, by decide, by decide⟩ ?F (fun w H s e s' ⟨_, _, _, _, _, _, _, _, _, _, _, _, z⟩ => z)
    intro w mg fa h Y G hmg0
    obtain ⟨K, KX, c⟩ := Y
    have hmg : mg ("law" : PySem.Str) = some (.ref fa) := by
      have e : (HandSHeadRun.topDef K69.Rw.prog 91).name = ("law" : PySem.Str) := by kernel_rfl
      rw [← e]
      exact hmg0
    obtain ⟨fd, F, hF⟩ := K69.law_ok (P := (PySem.Challenge.rw_steelyard_k69_state_chances_by_rows_and).prog) (w := w) (by kernel_rfl) (by kernel_rfl) KX G c
    have e := hmg.symm.trans (He.glo_ok KX G (SYH.fa_at (SYH.C_chk c) 59 (f := .glo "law") rfl))
    cases e
    have b := L2.FunD.bindsA (ps := ["script"]) F fun _ _ _ _ _ _ us hl => match us, hl with | [_], _ => rfl
    exact ⟨K, KX, fd, [], K69.spLaw K, fun p hp => absurd hp (by simp), fun p hp => absurd hp (by simp), fun p hp => absurd hp (by simp), fun s v => b s [v] rfl, fun H a ns hl _ _ hS => ⟨a, ns, rfl, hS, hl, fun _ => rfl⟩, fun base _ _ _ => hF base⟩
