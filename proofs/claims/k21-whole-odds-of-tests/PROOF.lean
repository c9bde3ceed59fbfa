import PyProof.Rows.All
import Wide.All
import OpenK.AllK
import Wide.FinOn
import HandS.ForMost
import HandS.Evl
import HandS.Exc
import HandS.Wide
import KE.KDictKeyed
import KE.DataEq
import HandS.IsInst
import HandS.Lambda
import HandS.HeadWalk
import HandS.HeadHook4
import HandS.Head2
import HandS.HeadNt
import HandS.NestedK
import HandS.ExcInit
import KE.KExcSuper
import HandS.TupAny
import KE.KDictDisplayH
import HandS.DictComp
import KE.GoesMore
import HandS.TryOnly
import HandS.Style
import HandS.Star
import HandS.ClsMeth
import HandS.Nested
import HandS.WordsExc
import HandS.ExcIs
import HandS.ExcField
import HandS.HotCalls
import KE.DataFind
import PyProof.ReprRoads
import PySem.Challenge.RW_drawnbelow_k21_whole_odds_of_tests
set_option Elab.async false
set_option linter.all false
set_option maxRecDepth 100000
set_option maxHeartbeats 4000000
/-! B0: the statements by name; what the head is asked in (its run stands first, for the memory's sake). -/
namespace Dr
open PySem PySem.Spec PyProof.Rows L2 LamX
def topS (i : Nat) : Stmt := PySem.Challenge.pw_drawnbelow_k21_whole_odds_of_tests.main.body.getD i (.Pass ⟨0, 0, 0, 0⟩)
abbrev s_is_integer : Stmt := topS 29
abbrev s_is_between : Stmt := topS 30
abbrev s_place_in : Stmt := topS 31
abbrev s_plain_step_in : Stmt := topS 32
abbrev s_step_in : Stmt := topS 33
abbrev s_wrong_row : Stmt := topS 34
abbrev s_check_program : Stmt := topS 36
abbrev s_is_too_far : Stmt := topS 40
abbrev s_taken : Stmt := topS 41
abbrev s_tested : Stmt := topS 42
abbrev s_marked_steps : Stmt := topS 43
abbrev s_reached : Stmt := topS 44
abbrev s_lowest_terms : Stmt := topS 46
abbrev s_is_less : Stmt := topS 47
abbrev s_chances_at : Stmt := topS 48
abbrev s_odds : Stmt := topS 49
abbrev s_law_spring : Stmt := topS 51
abbrev s_law_draw : Stmt := topS 52
abbrev s_law_of : Stmt := topS 53
abbrev s_law_measure : Stmt := topS 54
abbrev s_law_place : Stmt := topS 55
abbrev s_law_last_row : Stmt := topS 56
abbrev s_law_row : Stmt := topS 57
abbrev s_law_base : Stmt := topS 58
abbrev s_law_rows : Stmt := topS 59
abbrev s_law_size : Stmt := topS 60
abbrev s_law_goes : Stmt := topS 61
abbrev s_law_is_far : Stmt := topS 62
abbrev s_law_made : Stmt := topS 63
abbrev s_law_error : Stmt := topS 64
abbrev s_law_field : Stmt := topS 65
abbrev s_law_told : Stmt := topS 66
abbrev s_law_odd : Stmt := topS 67
abbrev s_law_next : Stmt := topS 68
abbrev s_law_spots : Stmt := topS 69
abbrev s_law_is_wide_spot : Stmt := topS 70
abbrev s_law_steps : Stmt := topS 71
abbrev s_law_states : Stmt := topS 72
abbrev s_law_is_whole : Stmt := topS 73
abbrev s_law_tame_rows : Stmt := topS 74
abbrev s_law_lowest : Stmt := topS 75
abbrev s_law_shares : Stmt := topS 76
abbrev s_law_is_at_most : Stmt := topS 77
abbrev s_law_bounds : Stmt := topS 78
abbrev s_law_lies_between : Stmt := topS 79
abbrev s_law_right : Stmt := topS 80
abbrev s_law : Stmt := topS 81
def clsBody : Stmt → List Stmt
  | .ClassDef _ _ _ b _ _ _ _ _ _ _ => b
  | _ => []
abbrev s_prg_init : Stmt := (clsBody (topS 35)).getD 0 (.Pass ⟨0, 0, 0, 0⟩)
abbrev s_prg_read : Stmt := (clsBody (topS 35)).getD 1 (.Pass ⟨0, 0, 0, 0⟩)
abbrev s_prg_len : Stmt := (clsBody (topS 35)).getD 5 (.Pass ⟨0, 0, 0, 0⟩)
abbrev s_num_init : Stmt := (clsBody (topS 3)).getD 0 (.Pass ⟨0, 0, 0, 0⟩)
abbrev numQ : Str := "InvalidNumber.__init__"
def errCls : List (Str × Bool) := [("InvalidNumber", true), ("InvalidWell", false), ("InvalidBits", false), ("InvalidCourse", false), ("InvalidText", false), ("InvalidName", false), ("InvalidWish", false), ("NotAProgram", false), ("InvalidRows", false), ("InvalidExchanges", false), ("InvalidWishes", false), ("UnknownName", false), ("InUse", false), ("TooWide", false), ("Ended", false), ("Broken", false), ("NothingToUndo", false), ("WrongValue", true), ("WrongName", false), ("NoAnswer", false)]
structure Stt where
  row : Int
  a : Int
  b : Int
  x : Bool
  j : Int
  y : Bool
  deriving DecidableEq
end Dr
set_option maxHeartbeats 2000000
/-! F28: what the head's end is asked, and what follows from the answers. -/
namespace Dr
open PySem PySem.Spec PyProof.Rows L2 LamX
abbrev PP : Program := PySem.Challenge.pw_drawnbelow_k21_whole_odds_of_tests
abbrev gN (K : PySem.W.Frag) : Addr := He.ga K "InvalidNumber"
abbrev gE (K : PySem.W.Frag) : Addr := He.ma K (gN K) "__init__"
abbrev gP (K : PySem.W.Frag) : Addr := He.ga K "Program"
abbrev gM (K : PySem.W.Frag) : Addr := He.ma K (gP K) "read"
def gR (K : PySem.W.Frag) : Addr := match PySem.W.recIn K (gM K) "classmethod" with
  | some (.ref g :: _) => g
  | _ => 0
abbrev FnO2 : Type := Option (Str × Str × Arguments × FuncBody × Scope × Addr × List Str × Value × Addr)
def fnA (K : PySem.W.Frag) (a : Addr) : FnO2 := match K.lookup a with
  | some ⟨_, _, .func fd, _⟩ => some (fd.name, fd.qualname, fd.params, fd.body, fd.scope, fd.globals, fd.closure.map (·.1), fd.defaults, fd.builtins)
  | _ => none
def codeB (K : PySem.W.Frag) (a : Addr) (q : Str) : Bool := match K.lookup a with
  | some ⟨_, _, .func fd, _⟩ => PySem.W.codeIn K fd.code q
  | _ => false
def numClsB (K : PySem.W.Frag) (C : Addr) : Bool := match K.lookup C with
  | some ⟨.type t, _, .cls cd, sl⟩ => t == "type" && (match cd.mro, sl.toList with
    | .ref C' :: bm, [_, _, _, _, some (.builtin n), _] => C' == C && (n == "ValueError.__new__" && (!cd.hasDel && (cd.hasDict && PySem.HandSPX.refsVE bm)))
    | _, _ => false)
  | _ => false
def alongB (K : PySem.W.Frag) (C : Addr) : Bool := match PySem.W.clsIn K C with
  | some cd => He.eqO (PySem.W.alongIn K "__init__" ((cd.mro.dropWhile (· != .ref C)).drop 1)) (some (some (.builtin "ValueError.__init__")))
  | none => false
def fileB (K : PySem.W.Frag) (c : Addr) : Bool := match K.lookup c with
  | some ⟨_, _, .fields vs, _⟩ => (match (vs[2]? : Option Value) with
    | some (.str file _) => (PP.main.file : Str) == file
    | _ => false)
  | _ => false
def cellB (K : PySem.W.Frag) (c C : Addr) : Bool := match K.lookup c with
  | some ⟨_, _, .cell (some (.ref D)), _⟩ => D == C
  | _ => false
def numFnB (K : PySem.W.Frag) (f C : Addr) : Bool := match K.lookup f with
  | some ⟨_, _, .func fd, _⟩ => (match fd.closure, fd.code with
    | [(x, cc)], .ref cda => decide (x = "__class__") && (PySem.W.codeIn K (.ref cda) numQ && (fileB K cda && cellB K cc C))
    | _, _ => false)
  | _ => false
def sttB (K : PySem.W.Frag) (s : Stt) : Value → Bool
  | .ref b => (match K.lookup b with
    | some ⟨.type t, _, .seq its _, _⟩ => t == "tuple" && (match its.toList with
      | [.int r _, .int a _, .int b _, .bool x, .int j _, .bool y] => decide ((⟨r, a, b, x, j, y⟩ : Stt) = s)
      | _ => false)
    | _ => false)
  | _ => false
def firstB (K : PySem.W.Frag) (a : Addr) : Bool := match K.lookup a with
  | some ⟨.type t, _, .seq its _, _⟩ => t == "tuple" && (match its.toList with
    | [v1, v2, v3, v4] => sttB K ⟨0, 0, 1, false, 1, false⟩ v1 && (sttB K ⟨0, 0, 2, false, 2, false⟩ v2 && (sttB K ⟨0, 0, 0, true, 0, true⟩ v3 && sttB K ⟨0, 0, 1, true, 1, true⟩ v4))
    | _ => false)
  | _ => false
def intB (K : PySem.W.Frag) (a : Addr) (x : Str) (i : Int) : Bool := match PySem.W.nsIn K a x with
  | some (some (.int j _)) => j == i
  | _ => false
def strB (K : PySem.W.Frag) (a : Addr) (x y : Str) : Bool := match PySem.W.nsIn K a x with
  | some (some (.str z _)) => z == y
  | _ => false
def metB (K : PySem.W.Frag) : Bool := match PySem.W.findCls K (.ref (gP K)) (.type "type") "read" with
  | some (.get (.builtin g) (.ref p) .none (.ref c)) => g == "classmethod.__get__" && (p == gM K && c == gP K)
  | _ => false
def recB (K : PySem.W.Frag) : Bool := match PySem.W.recIn K (gM K) "classmethod" with
  | some (.ref g :: _) => true
  | _ => false
def exs (K : PySem.W.Frag) : List Bool := [
  numClsB K (gN K), He.eqO (PySem.W.findIn K (.ref (gN K)) "__setattr__") (some (some (.builtin "object.__setattr__"))), decide (PySem.W.subIn K (.ref (gN K)) (.type "BaseException") = some true), decide (PySem.W.typeIn K (.ref (gN K)) = some (.type "type")), PySem.W.keepIn K (.ref (gN K)), alongB K (gN K),
  He.eqO (PySem.W.findIn K (.ref (gN K)) "__init__") (some (some (.ref (gE K)))), decide (PySem.W.typeIn K (.ref (gE K)) = some (.type "function")), decide (PySem.W.subIn K (.ref (gN K)) (.type "ValueError") = some true), decide (PySem.W.mroIn K (gN K) (.ref (gN K)) = some true),
  He.eqO (PySem.W.nsIn K cStatics "thirdparty.any") (some none), He.eqO (PySem.W.findIn K (.ref (gN K)) "given") (some none), numFnB K (gE K) (gN K),
  errCls.all fun q => He.eqO (PySem.W.nsIn K mainGlobals q.1) (some (some (.ref (He.ga K q.1)))) && decide (PySem.W.kitOne K (.ref (gN K)) (.ref (He.ga K q.1)) = some q.2),
  decide (PySem.W.kitOne K (.ref (gN K)) (.type "ValueError") = some true), decide (PySem.W.kitOne K (.ref (gN K)) (.type "LookupError") = some false), decide (PySem.W.kitOne K (.ref (gN K)) (.type "ArithmeticError") = some false),
  He.eqO (PySem.W.findIn K (.ref (gN K)) "__getattribute__") (some (some (.builtin "BaseException.__getattribute__"))), He.eqO (PySem.W.findIn K (.ref (gN K)) "__getattr__") (some none), PySem.W.hasDictIn K (gN K), He.eqO (PySem.W.findIn K (.ref (gN K)) "__class__") (some (some (.builtin "object.__class__"))),
  He.eqO (PySem.W.specialIn K (.builtin "object.__class__") "__get__") (some (some (.builtin "getset_descriptor.__get__"))), decide (PySem.W.takesIn K (.builtin "object.__class__") = some true), decide (PySem.W.mroIn K (gN K) (.type "object") = some true),
  decide (PySem.W.exmAny K (.ref (gN K)) [.ref (He.ga K "WrongValue"), .ref (He.ga K "WrongName"), .ref (He.ga K "NoAnswer")] = some true),
  He.eqO (PySem.W.findIn K (.ref (gP K)) "__class__") (some (some (.builtin "object.__class__"))), decide (PySem.W.mroIn K (gP K) (.type "object") = some true),
  PySem.W.readsIn K (gP K) (.type "type"), He.eqO (PySem.W.specialIn K (.ref (gP K)) "__getattribute__") (some (some (.builtin "type.__getattribute__"))), metB K, recB K, PySem.W.fnIn K (gR K), PySem.W.keepIn K (.ref (gR K)), codeB K (gR K) "Program.read",
  He.eqO (PySem.W.findIn K (.ref (gP K)) "__len__") (some (some (.ref (He.ma K (gP K) "__len__")))), PySem.W.isFn K (.ref (He.ma K (gP K) "__len__")),
  firstB K (He.ga K "FIRST"), intB K (He.ga K "QUANTITIES") "n" 1, intB K (He.ga K "QUANTITIES") "2n" 2, intB K (He.ga K "QUANTITIES") "3n" 3, intB K (He.ga K "QUANTITIES") "4n" 4, intB K (He.ga K "QUANTITIES") "fit" 0,
  He.eqO (PySem.W.nsIn K (He.ga K "SUBJECTS") "") (some none), He.eqO (PySem.W.nsIn K (He.ga K "SUBJECTS") "give") (some none), He.eqO (PySem.W.nsIn K (He.ga K "SUBJECTS") "go") (some none), strB K (He.ga K "SUBJECTS") "less" "cv", strB K (He.ga K "SUBJECTS") "c less" "c", strB K (He.ga K "SUBJECTS") "v less" "v",
  K.all fun q => q.2.cls != .type "list"]
def ex (K : PySem.W.Frag) : Bool := (exs K).all id
end Dr
set_option maxHeartbeats 0
/-! F29: the head's lists (printed by genF29.py), the Hook. -/
namespace Dr
open PySem PySem.Spec PyProof.Rows L2 LamX

def hFn0 : List He.DefD := [⟨("is_integer", none), "is_integer", "is_integer", defArgs s_is_integer, defBody s_is_integer, defScope s_is_integer, [], []⟩,
  ⟨("is_between", none), "is_between", "is_between", defArgs s_is_between, defBody s_is_between, defScope s_is_between, [], []⟩,
  ⟨("place_in", none), "place_in", "place_in", defArgs s_place_in, defBody s_place_in, defScope s_place_in, [], []⟩,
  ⟨("plain_step_in", none), "plain_step_in", "plain_step_in", defArgs s_plain_step_in, defBody s_plain_step_in, defScope s_plain_step_in, [], []⟩,
  ⟨("step_in", none), "step_in", "step_in", defArgs s_step_in, defBody s_step_in, defScope s_step_in, [], []⟩,
  ⟨("wrong_row", none), "wrong_row", "wrong_row", defArgs s_wrong_row, defBody s_wrong_row, defScope s_wrong_row, [], []⟩,
  ⟨("check_program", none), "check_program", "check_program", defArgs s_check_program, defBody s_check_program, defScope s_check_program, [], []⟩,
  ⟨("is_too_far", none), "is_too_far", "is_too_far", defArgs s_is_too_far, defBody s_is_too_far, defScope s_is_too_far, [], []⟩,
  ⟨("taken", none), "taken", "taken", defArgs s_taken, defBody s_taken, defScope s_taken, [], []⟩,
  ⟨("tested", none), "tested", "tested", defArgs s_tested, defBody s_tested, defScope s_tested, [], []⟩,
  ⟨("marked_steps", none), "marked_steps", "marked_steps", defArgs s_marked_steps, defBody s_marked_steps, defScope s_marked_steps, [], []⟩,
  ⟨("reached", none), "reached", "reached", defArgs s_reached, defBody s_reached, defScope s_reached, [], []⟩,
  ⟨("lowest_terms", none), "lowest_terms", "lowest_terms", defArgs s_lowest_terms, defBody s_lowest_terms, defScope s_lowest_terms, [], []⟩,
  ⟨("is_less", none), "is_less", "is_less", defArgs s_is_less, defBody s_is_less, defScope s_is_less, [], []⟩,
  ⟨("chances_at", none), "chances_at", "chances_at", defArgs s_chances_at, defBody s_chances_at, defScope s_chances_at, [], []⟩,
  ⟨("odds", none), "odds", "odds", defArgs s_odds, defBody s_odds, defScope s_odds, [], []⟩]
def hFn1 : List He.DefD := [⟨("_law_spring", none), "_law_spring", "_law_spring", defArgs s_law_spring, defBody s_law_spring, defScope s_law_spring, [], []⟩,
  ⟨("_law_draw", none), "_law_draw", "_law_draw", defArgs s_law_draw, defBody s_law_draw, defScope s_law_draw, [], []⟩,
  ⟨("_law_of", none), "_law_of", "_law_of", defArgs s_law_of, defBody s_law_of, defScope s_law_of, [], []⟩,
  ⟨("_law_measure", none), "_law_measure", "_law_measure", defArgs s_law_measure, defBody s_law_measure, defScope s_law_measure, [], []⟩,
  ⟨("_law_place", none), "_law_place", "_law_place", defArgs s_law_place, defBody s_law_place, defScope s_law_place, [], []⟩,
  ⟨("_law_last_row", none), "_law_last_row", "_law_last_row", defArgs s_law_last_row, defBody s_law_last_row, defScope s_law_last_row, [], []⟩,
  ⟨("_law_row", none), "_law_row", "_law_row", defArgs s_law_row, defBody s_law_row, defScope s_law_row, [], []⟩,
  ⟨("_law_base", none), "_law_base", "_law_base", defArgs s_law_base, defBody s_law_base, defScope s_law_base, [], []⟩,
  ⟨("_law_rows", none), "_law_rows", "_law_rows", defArgs s_law_rows, defBody s_law_rows, defScope s_law_rows, [], []⟩,
  ⟨("_law_size", none), "_law_size", "_law_size", defArgs s_law_size, defBody s_law_size, defScope s_law_size, [], []⟩,
  ⟨("_law_goes", none), "_law_goes", "_law_goes", defArgs s_law_goes, defBody s_law_goes, defScope s_law_goes, [], []⟩,
  ⟨("_law_is_far", none), "_law_is_far", "_law_is_far", defArgs s_law_is_far, defBody s_law_is_far, defScope s_law_is_far, [], []⟩,
  ⟨("_law_made", none), "_law_made", "_law_made", defArgs s_law_made, defBody s_law_made, defScope s_law_made, [], []⟩,
  ⟨("_law_error", none), "_law_error", "_law_error", defArgs s_law_error, defBody s_law_error, defScope s_law_error, [], []⟩,
  ⟨("_law_field", none), "_law_field", "_law_field", defArgs s_law_field, defBody s_law_field, defScope s_law_field, [], []⟩,
  ⟨("_law_told", none), "_law_told", "_law_told", defArgs s_law_told, defBody s_law_told, defScope s_law_told, [], []⟩]
def hFn2 : List He.DefD := [⟨("_law_odd", none), "_law_odd", "_law_odd", defArgs s_law_odd, defBody s_law_odd, defScope s_law_odd, [], []⟩,
  ⟨("_law_next", none), "_law_next", "_law_next", defArgs s_law_next, defBody s_law_next, defScope s_law_next, [], []⟩,
  ⟨("_law_spots", none), "_law_spots", "_law_spots", defArgs s_law_spots, defBody s_law_spots, defScope s_law_spots, [], []⟩,
  ⟨("_law_is_wide_spot", none), "_law_is_wide_spot", "_law_is_wide_spot", defArgs s_law_is_wide_spot, defBody s_law_is_wide_spot, defScope s_law_is_wide_spot, [], []⟩,
  ⟨("_law_steps", none), "_law_steps", "_law_steps", defArgs s_law_steps, defBody s_law_steps, defScope s_law_steps, [], []⟩,
  ⟨("_law_states", none), "_law_states", "_law_states", defArgs s_law_states, defBody s_law_states, defScope s_law_states, [], []⟩,
  ⟨("_law_is_whole", none), "_law_is_whole", "_law_is_whole", defArgs s_law_is_whole, defBody s_law_is_whole, defScope s_law_is_whole, [], []⟩,
  ⟨("_law_tame_rows", none), "_law_tame_rows", "_law_tame_rows", defArgs s_law_tame_rows, defBody s_law_tame_rows, defScope s_law_tame_rows, [], []⟩,
  ⟨("_law_lowest", none), "_law_lowest", "_law_lowest", defArgs s_law_lowest, defBody s_law_lowest, defScope s_law_lowest, [], []⟩,
  ⟨("_law_shares", none), "_law_shares", "_law_shares", defArgs s_law_shares, defBody s_law_shares, defScope s_law_shares, [], []⟩,
  ⟨("_law_is_at_most", none), "_law_is_at_most", "_law_is_at_most", defArgs s_law_is_at_most, defBody s_law_is_at_most, defScope s_law_is_at_most, [], []⟩,
  ⟨("_law_bounds", none), "_law_bounds", "_law_bounds", defArgs s_law_bounds, defBody s_law_bounds, defScope s_law_bounds, [], []⟩,
  ⟨("_law_lies_between", none), "_law_lies_between", "_law_lies_between", defArgs s_law_lies_between, defBody s_law_lies_between, defScope s_law_lies_between, [], []⟩,
  ⟨("_law_right", none), "_law_right", "_law_right", defArgs s_law_right, defBody s_law_right, defScope s_law_right, [], []⟩,
  ⟨("law", none), "law", "law", defArgs s_law, defBody s_law, defScope s_law, [], []⟩,
  ⟨("Program", some "__init__"), "__init__", "Program.__init__", defArgs s_prg_init, defBody s_prg_init, defScope s_prg_init, [], []⟩]
def hFn3 : List He.DefD := [⟨("Program", some "__len__"), "__len__", "Program.__len__", defArgs s_prg_len, defBody s_prg_len, defScope s_prg_len, [], []⟩]
def hFn : List He.DefD := hFn0 ++ (hFn1 ++ (hFn2 ++ (hFn3)))
def hFa0 : List He.Fa := [.glo "is_integer", .glo "is_between", .glo "place_in", .glo "plain_step_in", .glo "step_in", .glo "wrong_row", .glo "check_program", .glo "is_too_far", .glo "taken", .glo "tested", .glo "marked_steps", .glo "reached", .glo "lowest_terms", .glo "is_less", .glo "chances_at", .glo "odds", .glo "_law_spring", .glo "_law_draw", .glo "_law_of", .glo "_law_measure"]
def hFa1 : List He.Fa := [.glo "_law_place", .glo "_law_last_row", .glo "_law_row", .glo "_law_base", .glo "_law_rows", .glo "_law_size", .glo "_law_goes", .glo "_law_is_far", .glo "_law_made", .glo "_law_error", .glo "_law_field", .glo "_law_told", .glo "_law_odd", .glo "_law_next", .glo "_law_spots", .glo "_law_is_wide_spot", .glo "_law_steps", .glo "_law_states", .glo "_law_is_whole", .glo "_law_tame_rows"]
def hFa2 : List He.Fa := [.glo "_law_lowest", .glo "_law_shares", .glo "_law_is_at_most", .glo "_law_bounds", .glo "_law_lies_between", .glo "_law_right", .glo "law", .glo "Program", .glo "InvalidNumber", .glo "QUANTITIES", .glo "SUBJECTS", .glo "FIRST", .free "len", .free "int", .free "abs", .free "divmod", .free "str", .free "range", .free "isinstance", .free "repr"]
def hFa3 : List He.Fa := [.free "all", .free "min", .free "max", .free "tuple", .free "list", .free "enumerate", .free "bool", .free "ValueError", .free "LookupError", .free "ArithmeticError", .free "super", .int "MOST_ROWS" 8, .int "MOST_WIDE" 8, .int "FIT" 0, .str "FIGURES" "01234567", .str "HALF" "h", .cls "Program", .noat "Program" "written", .noat "Program" "steps", .mkr "Program"]
def hFa : List He.Fa := hFa0 ++ (hFa1 ++ (hFa2 ++ (hFa3)))
def hTs : List He.Tab := [(fun K => He.ga K "QUANTITIES", ["n", "2n", "3n", "4n", "fit"]), (fun K => He.ga K "SUBJECTS", ["less", "c less", "v less"])]
def hTd : He.Defn := ("_law_right", none)
def hTf : List He.Defn := [hTd]
theorem hTd_in : hTd ∈ hTf := List.mem_singleton_self hTd
def hG (n : Nat) (g : Addr → Option Obj) : PySem.W.Frag := He.frT g (He.asD g n)

def hLo0 : List PySem.Str := ["_wall", "WrongValue", "InvalidNumber", "InvalidWell", "InvalidBits", "InvalidCourse", "InvalidText", "InvalidName", "InvalidWish", "NotAProgram", "InvalidRows", "InvalidExchanges", "InvalidWishes", "WrongName", "UnknownName", "InUse", "NoAnswer", "TooWide", "Ended", "Broken"]
def hLo1 : List PySem.Str := ["NothingToUndo", "MOST_ROWS", "MOST_WIDE", "FIT", "QUANTITIES", "SUBJECTS", "FIGURES", "is_integer", "is_between", "place_in", "plain_step_in", "step_in", "wrong_row", "Program", "check_program", "FIRST", "HALF", "is_too_far", "taken", "tested"]
def hLo2 : List PySem.Str := ["marked_steps", "reached", "lowest_terms", "is_less", "chances_at", "odds", "_law_spring", "_law_draw", "_law_of", "_law_measure", "_law_place", "_law_last_row", "_law_row", "_law_base", "_law_rows", "_law_size", "_law_goes", "_law_is_far", "_law_made", "_law_error"]
def hLo3 : List PySem.Str := ["_law_field", "_law_told", "_law_odd", "_law_next", "_law_spots", "_law_is_wide_spot", "_law_steps", "_law_states", "_law_is_whole", "_law_tame_rows", "_law_lowest", "_law_shares", "_law_is_at_most", "_law_bounds", "_law_lies_between", "_law_right"]
def hLo : List PySem.Str := hLo0 ++ (hLo1 ++ (hLo2 ++ (hLo3)))
end Dr
set_option maxHeartbeats 2000000
/-! F30: the Hook of the head. -/
namespace Dr
open PySem PySem.Spec PyProof.Rows L2 LamX
/-- what the object at a names -/
def kin (g : Addr → Option Obj) (a : Addr) : List Addr := match g a with
  | some o => He.refsD o
  | none => []
def codeAt (g : Addr → Option Obj) (a : Addr) : List Addr := match g a with
  | some ⟨_, _, .func fd, _⟩ => He.refV fd.code
  | _ => []
/-- what is looked at: the module's names, the defs' codes, the classes' methods and their codes, a tuple's items, the C statics (an address may stand twice) -/
def kinG (g : Addr → Option Obj) (a : Addr) : List Addr := match g a with
  | some ⟨_, _, .func fd, _⟩ => He.refV fd.code
  | some ⟨_, _, .cls cd, _⟩ => cd.ns :: (kin g cd.ns).flatMap fun m => m :: (kin g m).flatMap fun c => c :: codeAt g c
  | some ⟨_, _, .seq its _, _⟩ => its.toList.flatMap He.refV
  | _ => []
def hA (g : Addr → Option Obj) : List Addr := mainGlobals :: cStatics :: (kin g mainGlobals ++ (kin g mainGlobals).flatMap (kinG g))
def hK (g : Addr → Option Obj) : PySem.W.Frag := He.frT g (hA g)
abbrev HAl : Type := (He.AlT × Bool) × (FnO2 × FnO2)
def hObs (g : Addr → Option Obj) : HAl := ((He.obsT hFa hFn hTs (hK g), ex (hK g) && He.tabsB g hTf (hK g)), (fnA (hK g) (gE (hK g)), fnA (hK g) (gR (hK g))))
def vE : FnO2 := some ("__init__", numQ, defArgs s_num_init, .stmts (defBody s_num_init), defScope s_num_init, mainGlobals, ["__class__"], .none, builtinsNs)
def vR : FnO2 := some ("read", "Program.read", defArgs s_prg_read, .stmts (defBody s_prg_read), defScope s_prg_read, mainGlobals, [], .none, builtinsNs)
def hVal (w : World) : HAl := ((He.valT hFn hTs w, true), (vE, vR))
/-- what the end leans on -/
structure HS (w : World) (h : Heap) (K : PySem.W.Frag) : Prop where
  t : He.SaysT hFa hFn hTs w K
  e : ex K = true
  c : PySem.W.codeHdIn K (He.cT K hTd).1 (He.cT K hTd).2 = true
  o : K.lookup (He.cT K hTd).2 = none
  z : h.get? (He.cT K hTd).2 = some { cls := .none, data := .fields #[] }
  fE : fnA K (gE K) = vE
  fR : fnA K (gR K) = vR
theorem oneTab {g : Addr → Option Obj} {z : Addr} (d : (match g z with
  | some o => He.emptyTab o
  | none => false) = true) : ∃ o, g z = some o ∧ He.emptyTab o = true := by
  cases q : g z with
  | none => rw [q] at d; cases d
  | some o => rw [q] at d; exact ⟨o, rfl, d⟩
theorem hs_mk {w : World} {h : Heap} {K : PySem.W.Frag} {as : List Addr} (hk : K = He.frT h.get? as) (q1 : He.obsT hFa hFn hTs K = He.valT hFn hTs w) (a : ex K = true) (b : He.tabsB h.get? hTf K = true) (q3 : fnA K (gE K) = vE) (q4 : fnA K (gR K) = vR) : HS w h K := by
  obtain ⟨c, d⟩ := He.ba (List.all_eq_true.mp b hTd hTd_in)
  obtain ⟨o, hp, ht⟩ := oneTab d
  subst hk
  exact ⟨q1, a, c, He.frT_none hp ht, hp.trans (congrArg some (He.emptyTab_eq ht)), q3, q4⟩
theorem four {α β γ δ : Type} {a a2 : α} {b b2 : β} {c c2 : γ} {d d2 : δ} (q : ((a, b), (c, d)) = ((a2, b2), (c2, d2))) : a = a2 ∧ b = b2 ∧ c = c2 ∧ d = d2 := by
  cases q
  exact ⟨rfl, rfl, rfl, rfl⟩
theorem hs_of {w : World} {h : Heap} (q : hObs h.get? = hVal w) : HS w h (hK h.get?) := by
  unfold hObs hVal at q
  have q1 := four q
  have q2 := He.ba q1.2.1
  exact hs_mk (as := hA h.get?) (by unfold hK; rfl) q1.1 q2.1 q2.2 q1.2.2.1 q1.2.2.2
def hook : PySem.W.Hook where
  α := HAl
  obs := fun s => hObs s.heap.get?
  val := hVal
  says := fun w h => ∃ K : PySem.W.Frag, K.In h ∧ HS w h K
  of := fun _ _ q => ⟨_, He.frT_in, hs_of q⟩
  keeps := fun _ _ _ ⟨K, i, r⟩ k => ⟨K, PySem.W.Frag.In.keeps i k, r.t, r.e, r.c, r.o, k _ _ r.z, r.fE, r.fR⟩
def hObA (s : PySem.W.SharedT) : He.AlT := He.obsT hFa hFn hTs (hK (HandSHeadRun.getT s))
def hObB (s : PySem.W.SharedT) : Bool × FnO2 × FnO2 := (ex (hK (HandSHeadRun.getT s)) && He.tabsB (HandSHeadRun.getT s) hTf (hK (HandSHeadRun.getT s)), fnA (hK (HandSHeadRun.getT s)) (gE (hK (HandSHeadRun.getT s))), fnA (hK (HandSHeadRun.getT s)) (gR (hK (HandSHeadRun.getT s))))
def hOb (s : PySem.W.SharedT) : HAl := ((hObA s, (hObB s).1), (hObB s).2)
theorem hOb_eq (s : PySem.W.SharedT) : hOb s = hook.obs s.abs := by
  unfold hOb hObA hObB
  rw [show HandSHeadRun.getT s = s.abs.heap.get? from funext (HandSHeadRun.getT_eq s)]
  rfl
abbrev hR : PySem.W.OpenRow := PySem.W.OpenLaw.row PySem.Challenge.rw_drawnbelow_k21_whole_odds_of_tests
/-- the view: law alone -/
abbrev hV : Program := PySem.W.view PP [81]
end Dr
set_option maxHeartbeats 0
/-! F31: the head's run, a piece. -/
noncomputable section
namespace Dr
open PySem PySem.W PySem.Calls PyProof.Rows HandSHeadRun
theorem run_pf (w : World) (os : OsState) : (endF (stepQ (denQ tabQ) hR.prog (w.withFollow "special-get-raises" false)) 8000 hR.prog (w.withFollow "special-get-raises" false) os).map (fun s => (looksF hR.prog (boot_heap (w.withFollow "special-get-raises" false).params) s.abs, seenQ (PySem.W.view hR.prog [81]) hLo (importedModules hR.prog.main.body) (fun s => xlAt (PySem.W.view hR.prog [81]) [] s && recOk hR.toRowW.records s) s.abs)) = some (true, openGood (PySem.W.view hR.prog [81]) hLo) := by
  kernel_rfl
end Dr
end
set_option maxHeartbeats 0
/-! F32: the head's run, a piece. -/
noncomputable section
namespace Dr
open PySem PySem.W PySem.Calls PyProof.Rows HandSHeadRun
theorem run_pt (w : World) (os : OsState) : (endF (stepQ (denQ tabQ) hR.prog (w.withFollow "special-get-raises" true)) 8000 hR.prog (w.withFollow "special-get-raises" true) os).map (fun s => (looksF hR.prog (boot_heap (w.withFollow "special-get-raises" true).params) s.abs, seenQ (PySem.W.view hR.prog [81]) hLo (importedModules hR.prog.main.body) (fun s => xlAt (PySem.W.view hR.prog [81]) [] s && recOk hR.toRowW.records s) s.abs)) = some (true, openGood (PySem.W.view hR.prog [81]) hLo) := by
  kernel_rfl
end Dr
end
set_option maxHeartbeats 0
/-! F33: the head's run, a piece. -/
noncomputable section
namespace Dr
open PySem PySem.W PySem.Calls PyProof.Rows HandSHeadRun
theorem run_Af (w : World) (os : OsState) : (endF (stepQ (denQ tabQ) hR.prog (w.withFollow "special-get-raises" false)) 8000 hR.prog (w.withFollow "special-get-raises" false) os).map hObA = some (He.valT hFn hTs (w.withFollow "special-get-raises" false)) := by
  kernel_rfl
end Dr
end
set_option maxHeartbeats 0
/-! F33b: the head's run, a piece. -/
noncomputable section
namespace Dr
open PySem PySem.W PySem.Calls PyProof.Rows HandSHeadRun
theorem run_Bf (w : World) (os : OsState) : (endF (stepQ (denQ tabQ) hR.prog (w.withFollow "special-get-raises" false)) 8000 hR.prog (w.withFollow "special-get-raises" false) os).map hObB = some (true, vE, vR) := by
  kernel_rfl
end Dr
end
set_option maxHeartbeats 0
/-! F34: the head's run, a piece. -/
noncomputable section
namespace Dr
open PySem PySem.W PySem.Calls PyProof.Rows HandSHeadRun
theorem run_At (w : World) (os : OsState) : (endF (stepQ (denQ tabQ) hR.prog (w.withFollow "special-get-raises" true)) 8000 hR.prog (w.withFollow "special-get-raises" true) os).map hObA = some (He.valT hFn hTs (w.withFollow "special-get-raises" true)) := by
  kernel_rfl
end Dr
end
set_option maxHeartbeats 0
/-! F34b: the head's run, a piece. -/
noncomputable section
namespace Dr
open PySem PySem.W PySem.Calls PyProof.Rows HandSHeadRun
theorem run_Bt (w : World) (os : OsState) : (endF (stepQ (denQ tabQ) hR.prog (w.withFollow "special-get-raises" true)) 8000 hR.prog (w.withFollow "special-get-raises" true) os).map hObB = some (true, vE, vR) := by
  kernel_rfl
end Dr
end
set_option maxHeartbeats 4000000
/-! D1: values as PyData over the hand layer; expressions and statements by deterministic rules. -/
namespace Dr
open PySem PySem.Spec PyProof.Rows L2
abbrev Ex := Evl.Ex
/-! ### weakest readings -/
def wE (X : Cx) (e : Expr) : TE := fun σ H Q => ∀ (pins : List (Addr × Obj)) (s : Shared), Inv X pins σ H s → wpAny (model X.prog X.w) X.A (eval e X.env) (EP X pins σ Q) X.xe s
def wT (X : Cx) (e : Expr) : TT := fun σ H Q => ∀ (pins : List (Addr × Obj)) (s : Shared), Inv X pins σ H s → wpAny (model X.prog X.w) X.A (isTrue e X.env (eval e X.env)) (TP X pins σ Q) X.xe s
def wW (X : Cx) (e : Expr) : TT := fun σ H Q => ∀ (whole : Sem Value) (pins : List (Addr × Obj)) (s : Shared), Inv X pins σ H s → wpAny (model X.prog X.w) X.A (isTrue e X.env whole) (TP X pins σ Q) X.xe s
def wA (X : Cx) (es : List Expr) : TA := fun σ H Q => ∀ (pos : Pos) (pins : List (Addr × Obj)) (s : Shared), Inv X pins σ H s → wpAny (model X.prog X.w) X.A (spliced (backTo pos (starEach es X.env))) (AP X pins σ Q) X.xe s
def wS (X : Cx) (st : Stmt) : TS := fun D σ H => ∀ (pins : List (Addr × Obj)) (s : Shared), Inv X pins σ H s → wpAny (model X.prog X.w) X.A (exec st X.env) (SP X pins D) X.xe s
def wSs (X : Cx) (st : List Stmt) : TS := fun D σ H => ∀ (pins : List (Addr × Obj)) (s : Shared), Inv X pins σ H s → wpAny (model X.prog X.w) X.A (execs st X.env) (SP X pins D) X.xe s
section
variable {X : Cx} {e : Expr} {es : List Expr} {st : Stmt} {sts : List Stmt} {σ : L2.St} {H : Hp}
theorem pe_w : PE X e (wE X e) := ⟨fun pins s _ _ _ I h => h pins s I⟩
theorem pt_w : PT X e (wT X e) := ⟨fun pins s _ _ _ I h => h pins s I⟩
theorem pw_w : PW X e (wW X e) := ⟨fun wh pins s _ _ _ I h => h wh pins s I⟩
theorem pa_w : PA X es (wA X es) := ⟨fun pos pins s _ _ _ I h => h pos pins s I⟩
theorem ps_w : PS X st (wS X st) := ⟨fun pins s _ _ _ I h => h pins s I⟩
theorem pss_w : PSs X sts (wSs X sts) := ⟨fun pins s _ _ _ I h => h pins s I⟩
theorem wE_of {t : TE} (h : PE X e t) {Q : VK} (q : t σ H Q) : wE X e σ H Q := fun pins s I => h.run pins s σ H Q I q
theorem wT_of {t : TT} (h : PT X e t) {Q : Bool → Hp → Prop} (q : t σ H Q) : wT X e σ H Q := fun pins s I => h.run pins s σ H Q I q
theorem wW_of {t : TT} (h : PW X e t) {Q : Bool → Hp → Prop} (q : t σ H Q) : wW X e σ H Q := fun wh pins s I => h.run wh pins s σ H Q I q
theorem wA_of {t : TA} (h : PA X es t) {Q : List V → Hp → Prop} (q : t σ H Q) : wA X es σ H Q := fun pos pins s I => h.run pos pins s σ H Q I q
theorem wS_of {t : TS} (h : PS X st t) {D : Ends} (q : t D σ H) : wS X st D σ H := fun pins s I => h.run pins s σ H D I q
theorem wSs_of {t : TS} (h : PSs X sts t) {D : Ends} (q : t D σ H) : wSs X sts D σ H := fun pins s I => h.run pins s σ H D I q
end

/-! ### data -/
def keyD : Key → PyData
  | .inl i => .int i
  | .inr x => .str x
mutual
inductive Dq (K : PySem.W.Frag) (S : Hp) : V → PyData → Prop
  | non : Dq K S .non .none
  | bl (b : Bool) : Dq K S (.bl b) (.bool b)
  | int (i : Int) : Dq K S (.int i) (.int i)
  | str (x : Str) : Dq K S (.str x) (.str x)
  | lst {a : Addr} {xs : List V} {ds : List PyData} (h : Rd S a (.lst xs)) (hs : DqA K S xs ds) : Dq K S (.ref a) (.list ds)
  | tup {a : Addr} {xs : List V} {ds : List PyData} (h : SqT K S a xs) (hs : DqA K S xs ds) : Dq K S (.ref a) (.tuple ds)
  | dct {a : Addr} {kvs : List (Key × V)} {ds : List PyData} (h : S a = some (.dK kvs)) (hs : DqA K S (kvs.map (·.2)) ds) : Dq K S (.ref a) (.dict ((kvs.map fun p => keyD p.1).zip ds))
inductive DqA (K : PySem.W.Frag) (S : Hp) : List V → List PyData → Prop
  | nil : DqA K S [] []
  | cons {v : V} {vs : List V} {d : PyData} {ds : List PyData} (h : Dq K S v d) (hs : DqA K S vs ds) : DqA K S (v :: vs) (d :: ds)
end
section
variable {K : PySem.W.Frag} {S S' : Hp}
mutual
theorem Dq.mono (e : Ex S S') : ∀ {v : V} {d : PyData}, Dq K S v d → Dq K S' v d
  | _, _, .non => .non
  | _, _, .bl b => .bl b
  | _, _, .int i => .int i
  | _, _, .str x => .str x
  | _, _, .lst h hs => .lst (Evl.ex_rd e h) (hs.mono e)
  | _, _, .tup h hs => .tup (Evl.ex_t e h) (hs.mono e)
  | _, _, .dct h hs => .dct (e _ _ h) (hs.mono e)
theorem DqA.mono (e : Ex S S') : ∀ {vs : List V} {ds : List PyData}, DqA K S vs ds → DqA K S' vs ds
  | _, _, .nil => .nil
  | _, _, .cons h hs => .cons (h.mono e) (hs.mono e)
end
theorem DqA.length : ∀ {vs : List V} {ds : List PyData}, DqA K S vs ds → vs.length = ds.length
  | _, _, .nil => rfl
  | _, _, .cons _ hs => congrArg Nat.succ hs.length
theorem DqA.at : ∀ {vs : List V} {ds : List PyData} {i : Nat} {d : PyData}, DqA K S vs ds → ds[i]? = some d → ∃ v, vs[i]? = some v ∧ Dq K S v d
  | _, _, _, _, .nil, e => by simp at e
  | _, _, 0, _, .cons h _, e => ⟨_, rfl, by simp at e; exact e ▸ h⟩
  | _, _, i + 1, _, .cons _ hs, e => by
    obtain ⟨v, h1, h2⟩ := hs.at (i := i) (by simpa using e)
    exact ⟨v, by simpa using h1, h2⟩
theorem DqA.back : ∀ {vs : List V} {ds : List PyData} {i : Nat} {v : V}, DqA K S vs ds → vs[i]? = some v → ∃ d, ds[i]? = some d ∧ Dq K S v d
  | _, _, _, _, .nil, e => by simp at e
  | _, _, 0, _, .cons h _, e => ⟨_, rfl, by simp at e; exact e ▸ h⟩
  | _, _, i + 1, _, .cons _ hs, e => by
    obtain ⟨v, h1, h2⟩ := hs.back (i := i) (by simpa using e)
    exact ⟨v, by simpa using h1, h2⟩
theorem DqA.append : ∀ {vs us : List V} {ds es : List PyData}, DqA K S vs ds → DqA K S us es → DqA K S (vs ++ us) (ds ++ es)
  | _, _, _, _, .nil, t => t
  | _, _, _, _, .cons h hs, t => .cons h (hs.append t)
theorem DqA.snoc {vs : List V} {ds : List PyData} {v : V} {d : PyData} (h : DqA K S vs ds) (t : Dq K S v d) : DqA K S (vs ++ [v]) (ds ++ [d]) := h.append (.cons t .nil)
theorem DqA.take : ∀ {vs : List V} {ds : List PyData} (n : Nat), DqA K S vs ds → DqA K S (vs.take n) (ds.take n)
  | _, _, 0, _ => .nil
  | _, _, _ + 1, .nil => .nil
  | _, _, n + 1, .cons h hs => .cons h (hs.take n)
theorem DqA.drop : ∀ {vs : List V} {ds : List PyData} (n : Nat), DqA K S vs ds → DqA K S (vs.drop n) (ds.drop n)
  | _, _, 0, h => h
  | _, _, _ + 1, .nil => .nil
  | _, _, n + 1, .cons _ hs => hs.drop n
theorem DqA.set : ∀ {vs : List V} {ds : List PyData} {v : V} {d : PyData} (i : Nat), DqA K S vs ds → Dq K S v d → DqA K S (vs.set i v) (ds.set i d)
  | _, _, _, _, _, .nil, _ => .nil
  | _, _, _, _, 0, .cons _ hs, t => .cons t hs
  | _, _, _, _, i + 1, .cons h hs, t => .cons h (hs.set i t)
/-- a list's cut -/
def cutD (ds : List PyData) (lo hi : Option Int) : List PyData := (ds.drop (HT.sIx ds.length 0 lo)).take (HT.sIx ds.length ds.length hi - HT.sIx ds.length 0 lo)
theorem DqA.cut {vs : List V} {ds : List PyData} (lo hi : Option Int) (h : DqA K S vs ds) : DqA K S (cutV vs lo hi) (cutD ds lo hi) := by
  unfold cutV cutD
  rw [h.length]
  exact (h.drop _).take _
theorem Dq.of_int {v : V} {i : Int} (h : Dq K S v (.int i)) : v = .int i := by cases h; rfl
theorem Dq.of_bl {v : V} {b : Bool} (h : Dq K S v (.bool b)) : v = .bl b := by cases h; rfl
theorem Dq.of_str {v : V} {x : Str} (h : Dq K S v (.str x)) : v = .str x := by cases h; rfl
theorem Dq.of_non {v : V} (h : Dq K S v .none) : v = .non := by cases h; rfl
theorem Dq.of_lst {v : V} {ds : List PyData} (h : Dq K S v (.list ds)) : ∃ a xs, v = .ref a ∧ Rd S a (.lst xs) ∧ DqA K S xs ds := by cases h with | lst h hs => exact ⟨_, _, rfl, h, hs⟩
theorem Dq.of_tup {v : V} {ds : List PyData} (h : Dq K S v (.tuple ds)) : ∃ a xs, v = .ref a ∧ SqT K S a xs ∧ DqA K S xs ds := by cases h with | tup h hs => exact ⟨_, _, rfl, h, hs⟩
theorem DqA.ints {vs : List V} {ns : List Int} (h : DqA K S vs (ns.map PyData.int)) : vs = ns.map V.int := by
  induction ns generalizing vs with
  | nil => cases h; rfl
  | cons n ns ih =>
    cases h with
    | cons h hs => rw [h.of_int, ih hs]; rfl
theorem DqA.of_ints (ns : List Int) : DqA K S (ns.map V.int) (ns.map PyData.int) := by
  induction ns with
  | nil => exact .nil
  | cons n ns ih => exact .cons (.int n) ih
theorem DqA.strs {vs : List V} {ns : List Str} (h : DqA K S vs (ns.map PyData.str)) : vs = ns.map V.str := by
  induction ns generalizing vs with
  | nil => cases h; rfl
  | cons n ns ih =>
    cases h with
    | cons h hs => rw [h.of_str, ih hs]; rfl
theorem DqA.of_strs (ns : List Str) : DqA K S (ns.map V.str) (ns.map PyData.str) := by
  induction ns with
  | nil => exact .nil
  | cons n ns ih => exact .cons (.str n) ih
theorem DqA.bls {vs : List V} {ns : List Bool} (h : DqA K S vs (ns.map PyData.bool)) : vs = ns.map V.bl := by
  induction ns generalizing vs with
  | nil => cases h; rfl
  | cons n ns ih =>
    cases h with
    | cons h hs => rw [h.of_bl, ih hs]; rfl

/-- how it reads for the library -/
theorem sq_ex {H : Hp} {a : Addr} {xs : List V} (e : Ex S H) (h : SqL K S a xs) : SqL K H a xs := Evl.ex_l e h
mutual
theorem Dq.reads {X : Cx} {pins : List (Addr × Obj)} {σ : L2.St} {H : Hp} {s : Shared} (I : Inv X pins σ H s) (e : Ex S H) :
    ∀ (d : PyData) (v : V) (u : Value), Dq X.K S v d → RelV v u → d.plain = true → ∃ as, Reads s.heap u d as
  | .none, _, _, .non, r, _ => ⟨_, (show _ = Value.none from r) ▸ Reads.none⟩
  | .bool _, _, _, .bl b, r, _ => ⟨_, (show _ = Value.bool b from r) ▸ Reads.bool b⟩
  | .int _, _, _, .int i, r, _ => by obtain ⟨t, rfl⟩ := r; exact ⟨_, Reads.int i t⟩
  | .str _, _, _, .str x, r, _ => by obtain ⟨t, rfl⟩ := r; exact ⟨_, Reads.str x t⟩
  | .list ds, _, _, .lst h hs, r, p => by
    obtain rfl := (show _ = Value.ref _ from r)
    obtain ⟨its, rv, ⟨o, n, ho, hc, _, hd⟩, _⟩ := I.list (.inl (Evl.ex_rd e h))
    obtain ⟨as, q⟩ := DqA.reads I e ds _ its hs rv p
    exact ⟨_, .list ho hc hd (by simpa using q)⟩
  | .tuple ds, _, _, .tup h hs, r, p => by
    obtain rfl := (show _ = Value.ref _ from r)
    obtain ⟨its, rv, ⟨o, ho, hc, n, hd⟩, _⟩ := I.tuple (Evl.ex_t e h)
    obtain ⟨as, q⟩ := DqA.reads I e ds _ its hs rv p
    exact ⟨_, .tuple ho hc hd (by simpa using q)⟩
  | .dict _, _, _, _, _, p => by simp [PyData.plain] at p
theorem DqA.reads {X : Cx} {pins : List (Addr × Obj)} {σ : L2.St} {H : Hp} {s : Shared} (I : Inv X pins σ H s) (e : Ex S H) :
    ∀ (ds : List PyData) (vs : List V) (us : List Value), DqA X.K S vs ds → Vals vs us → PyData.plainAll ds = true → ∃ as, ReadsAll s.heap us ds as
  | [], _, _, .nil, .nil, _ => ⟨_, .nil⟩
  | d :: ds, _, _, .cons h hs, .cons r rs, p => by
    have p' : d.plain = true ∧ PyData.plainAll ds = true := by simpa [PyData.plainAll] using p
    obtain ⟨as, q1⟩ := Dq.reads I e d _ _ h r p'.1
    obtain ⟨bs, q2⟩ := DqA.reads I e ds _ _ hs rs p'.2
    exact ⟨_, .cons q1 q2⟩
end
end
end Dr
set_option maxHeartbeats 4000000
namespace Dr
open PySem PySem.Spec PyProof.Rows L2
/-! ### keys of dicts -/
mutual
def nk : PyData → NestedKey
  | .none => .none
  | .bool b => .num (if b = true then 1 else 0)
  | .int i => .num i
  | .str x => .text x
  | .list ds => .tup (nkA ds)
  | .tuple ds => .tup (nkA ds)
  | .dict _ => .none
def nkA : List PyData → List NestedKey
  | [] => []
  | d :: ds => nk d :: nkA ds
end
/-- flat: no list, no dict within (a key) -/
def flatD : PyData → Bool
  | .none | .bool _ | .int _ | .str _ => true
  | _ => false
def keyOk : PyData → Bool
  | .tuple ds => ds.all flatD
  | _ => false
/-- a dict's object with its raw entries -/
def dicO (a : Addr) (es : Array DictEntry) (ep : Nat) : HO := .ext fun h => ∃ o, h.get? a = some o ∧ o.ExactDict ∧ o.data = .dict es ep
def KeyR (K : PySem.W.Frag) (S : Hp) (x : NestedKey × Addr × Value) (k : PyData) : Prop := x.1 = nk k ∧ Dq K S (.ref x.2.1) k ∧ keyOk k = true
/-! ### what a def may change -/
inductive Mo where
  | lst (ds : List PyData)
  | dic (ks : List PyData)
  | lck (ks : List PyData) (d : Addr) (es : Array DictEntry) (ep : Nat)
  | tab (R : Hp → Addr → HO → Prop) (up : ∀ S S' a o, Ex S S' → R S a o → R S' a o)
def MoAt (P : Program) (w : World) (K : PySem.W.Frag) (S H : Hp) (a : Addr) : Mo → Prop
  | .lst ds => ∃ xs, H a = some (.lst xs) ∧ DqA K S xs ds
  | .dic ks => ∃ es ep xs, H a = some (dicO a es ep) ∧ (a == sysModules) = false ∧ es.toList = xs.map (entryOfKey (nestedKind P w)) ∧ (xs.map (·.1)).Nodup ∧ Paired (KeyR K S) xs ks
  | .lck ks d es ep => a = d ∧ ∃ xs, H a = some (dicO a es ep) ∧ (a == sysModules) = false ∧ es.toList = xs.map (entryOfKey (nestedKind P w)) ∧ (xs.map (·.1)).Nodup ∧ Paired (KeyR K S) xs ks
  | .tab R _ => ∃ o, H a = some o ∧ R S a o
theorem MoAt.some {P : Program} {w : World} {K : PySem.W.Frag} {S H : Hp} {a : Addr} {o : Mo} (h : MoAt P w K S H a o) : ∃ u, H a = some u := by
  cases o with
  | lst ds => obtain ⟨_, e, _⟩ := h; exact ⟨_, e⟩
  | dic ks => obtain ⟨_, _, _, e, _⟩ := h; exact ⟨_, e⟩
  | lck ks d es ep => obtain ⟨_, _, e, _⟩ := h; exact ⟨_, e⟩
  | tab R up => obtain ⟨o, e, _⟩ := h; exact ⟨_, e⟩
theorem MoAt.mono {P : Program} {w : World} {K : PySem.W.Frag} {S S' H H' : Hp} {a : Addr} {o : Mo} (h : MoAt P w K S H a o) (e : Ex S S') (eh : ∀ u, H a = Option.some u → H' a = Option.some u) : MoAt P w K S' H' a o := by
  cases o with
  | lst ds => obtain ⟨xs, q, r⟩ := h; exact ⟨xs, eh _ q, r.mono e⟩
  | dic ks =>
    obtain ⟨es, ep, xs, q, r1, r2, r3, r4⟩ := h
    exact ⟨es, ep, xs, eh _ q, r1, r2, r3, L2.Paired.mapP r4 fun _ _ z => ⟨z.1, z.2.1.mono e, z.2.2⟩⟩
  | lck ks d es ep =>
    obtain ⟨r0, xs, q, r1, r2, r3, r4⟩ := h
    exact ⟨r0, xs, eh _ q, r1, r2, r3, L2.Paired.mapP r4 fun _ _ z => ⟨z.1, z.2.1.mono e, z.2.2⟩⟩
  | tab R up =>
    obtain ⟨o, q, r⟩ := h
    exact ⟨o, eh _ q, up _ _ _ _ e r⟩
/-! ### slots -/
inductive Sl where
  | no
  | dat (d : PyData)
  | own (k : Nat)
  | raw (v : V)
  | prg (ws st : PyData)
/-- the class Program -/
def prgC (K : PySem.W.Frag) : Addr := match PySem.W.nsIn K mainGlobals "Program" with
  | some (some (.ref a)) => a
  | _ => 0
def prgF (wv sv : V) : List (Str × V) := putF "steps" sv (putF "written" wv [])
def SlV (K : PySem.W.Frag) (S : Hp) (m : List Addr) (v : V) : Sl → Prop
  | .no => True
  | .dat d => Dq K S v d
  | .own k => ∃ a, m[k]? = some a ∧ v = .ref a
  | .raw u => v = u
  | .prg ws st => ∃ a dx wv sv, v = .ref a ∧ S a = some (.ins (prgC K) dx (prgF wv sv)) ∧ Dq K S wv ws ∧ Dq K S sv st
theorem SlV.mono {K : PySem.W.Frag} {S S' : Hp} {m m' : List Addr} {v : V} {s : Sl} (h : SlV K S m v s) (e : Ex S S') (em : m <+: m') : SlV K S' m' v s := by
  cases s with
  | no => trivial
  | dat d => exact Dq.mono e h
  | own k =>
    obtain ⟨a, q, r⟩ := h
    obtain ⟨t, rfl⟩ := em
    refine ⟨a, ?_, r⟩
    rw [List.getElem?_append_left (List.getElem?_eq_some_iff.mp q).1]
    exact q
  | raw u => exact h
  | prg ws st =>
    obtain ⟨a, dx, wv, sv, h1, h2, h3, h4⟩ := h
    exact ⟨a, dx, wv, sv, h1, e _ _ h2, h3.mono e, h4.mono e⟩
structure SlOk (K : PySem.W.Frag) (S : Hp) (m : List Addr) (σ : L2.St) (ρ : List Sl) : Prop where
  len : ρ.length = σ.length
  at_ : ∀ (i : Nat) (s : Sl), ρ[i]? = some s → s = .no ∨ ∃ v, σ[i]? = some (some v) ∧ SlV K S m v s
theorem SlOk.mono {K : PySem.W.Frag} {S S' : Hp} {m m' : List Addr} {σ : L2.St} {ρ : List Sl} (h : SlOk K S m σ ρ) (e : Ex S S') (em : m <+: m') : SlOk K S' m' σ ρ :=
  ⟨h.len, fun i s q => (h.at_ i s q).imp id fun ⟨v, h1, h2⟩ => ⟨v, h1, h2.mono e em⟩⟩
theorem SlOk.set {K : PySem.W.Frag} {S : Hp} {m : List Addr} {σ : L2.St} {ρ : List Sl} (h : SlOk K S m σ ρ) {i : Nat} {v : V} {s : Sl} (q : SlV K S m v s) : SlOk K S m (σ.set i (some v)) (ρ.set i s) := by
  refine ⟨by rw [List.length_set, List.length_set]; exact h.len, fun j t e => ?_⟩
  by_cases hj : j = i
  · subst hj
    have hl : j < ρ.length := by
      have := (List.getElem?_eq_some_iff.mp e).1
      rw [List.length_set] at this
      exact this
    rw [List.getElem?_set_self hl] at e
    cases e
    exact .inr ⟨v, by rw [List.getElem?_set_self (h.len ▸ hl)], q⟩
  · rw [List.getElem?_set_ne (Ne.symm hj)] at e ⊢
    exact h.at_ j t e
/-! ### the world -/
structure Ct where
  H0 : Hp
  S0 : Hp
  m0 : List Addr
structure MoOk (P : Program) (w : World) (K : PySem.W.Frag) (c : Ct) (μ : List Mo) (m : List Addr) (S H : Hp) : Prop where
  ex0 : Ex c.S0 S
  sub : Ex S H
  new : ∀ b o, S b = some o → c.S0 b = some o ∨ c.H0 b = none
  old : ∀ b o, b ∉ c.m0 → c.H0 b = some o → H b = some o
  pre : c.m0 <+: m
  nd : m.Nodup
  fr : ∀ a, a ∈ m → a ∈ c.m0 ∨ c.H0 a = none
  out : ∀ a, a ∈ m → S a = none
  len : μ.length = m.length
  obj : ∀ (k : Nat) (a : Addr) (o : Mo), m[k]? = some a → μ[k]? = some o → MoAt P w K S H a o
section
variable {P : Program} {w : World} {K : PySem.W.Frag} {c : Ct} {μ : List Mo} {m : List Addr} {S S' H H' : Hp}
theorem MoOk.here (W : MoOk P w K c μ m S H) {a : Addr} (h : a ∈ m) : ∃ u, H a = some u := by
  obtain ⟨k, hk, e⟩ := List.mem_iff_getElem.mp h
  have h1 : m[k]? = some a := by rw [List.getElem?_eq_getElem hk, e]
  have hk2 : k < μ.length := W.len ▸ hk
  exact (W.obj k a _ h1 (List.getElem?_eq_getElem hk2)).some
theorem MoOk.free (W : MoOk P w K c μ m S H) {p : Addr} (h : H p = none) : p ∉ m ∧ S p = none ∧ c.S0 p = none ∧ c.H0 p = none ∧ p ∉ c.m0 := by
  have hm : p ∉ m := fun z => by obtain ⟨u, e⟩ := W.here z; rw [h] at e; cases e
  have h0 : p ∉ c.m0 := fun z => hm (W.pre.subset z)
  have hS : S p = none := by
    cases q : S p with
    | none => rfl
    | some o => have := W.sub _ _ q; rw [h] at this; cases this
  refine ⟨hm, hS, ?_, ?_, h0⟩
  · cases q : c.S0 p with
    | none => rfl
    | some o => have := W.ex0 _ _ q; rw [hS] at this; cases this
  · cases q : c.H0 p with
    | none => rfl
    | some o => have := W.old _ _ h0 q; rw [h] at this; cases this
/-- the heap grows, S takes some of what is new -/
theorem MoOk.grow (W : MoOk P w K c μ m S H) (eH : Ex H H') (eS : Ex S S') (sub : Ex S' H') (new : ∀ b o, S' b = some o → S b = some o ∨ H b = none) : MoOk P w K c μ m S' H' where
  ex0 := fun b o q => eS b o (W.ex0 b o q)
  sub := sub
  new := fun b o q => by
    rcases new b o q with z | z
    · exact W.new b o z
    · exact .inr (W.free z).2.2.2.1
  old := fun b o h q => eH b o (W.old b o h q)
  pre := W.pre
  nd := W.nd
  fr := W.fr
  out := fun a ha => by
    cases q : S' a with
    | none => rfl
    | some o =>
      rcases new a o q with z | z
      · rw [W.out a ha] at z; cases z
      · obtain ⟨u, e⟩ := W.here ha
        rw [z] at e; cases e
  len := W.len
  obj := fun k a o h1 h2 => (W.obj k a o h1 h2).mono eS fun u q => eH a u q
/-- all that is new is taken -/
def gr (S H H' : Hp) : Hp := fun b => match S b with
  | some o => some o
  | none => match H b with
    | some _ => none
    | none => H' b
theorem gr_old {b : Addr} {o : HO} (h : S b = some o) : gr S H H' b = some o := by unfold gr; rw [h]
theorem gr_new {b : Addr} (h : S b = none) (h2 : H b = none) : gr S H H' b = H' b := by unfold gr; rw [h, h2]
theorem gr_is {b : Addr} {o : HO} (h : gr S H H' b = some o) : S b = some o ∨ (S b = none ∧ H b = none ∧ H' b = some o) := by
  unfold gr at h
  cases q : S b with
  | some u => rw [q] at h; exact .inl (by rw [← h])
  | none =>
    rw [q] at h
    cases r : H b with
    | some u => rw [r] at h; cases h
    | none => rw [r] at h; exact .inr ⟨rfl, rfl, h⟩
theorem ex_gr : Ex S (gr S H H') := fun b o h => gr_old h
theorem MoOk.all (W : MoOk P w K c μ m S H) (eH : Ex H H') : MoOk P w K c μ m (gr S H H') H' :=
  W.grow eH ex_gr (fun b o q => by
    rcases gr_is q with z | z
    · exact eH b o (W.sub b o z)
    · exact z.2.2) (fun b o q => (gr_is q).imp id fun z => z.2.1)
/-- a new object, data -/
theorem MoOk.lay (W : MoOk P w K c μ m S H) {p : Addr} (o : HO) (h : H p = none) : MoOk P w K c μ m (upd S p o) (upd H p o) ∧ Ex S (upd S p o) := by
  have hS := (W.free h).2.1
  refine ⟨W.grow (Evl.Ex.new h) (Evl.Ex.new hS) (fun b u q => ?_) (fun b u q => ?_), Evl.Ex.new hS⟩
  · by_cases hb : b = p
    · subst hb; rw [upd_same] at q ⊢; exact q
    · rw [upd_ne hb] at q ⊢; exact W.sub b u q
  · by_cases hb : b = p
    · subst hb; exact .inr h
    · rw [upd_ne hb] at q; exact .inl q
/-- a new object that is to be changed -/
theorem MoOk.layM (W : MoOk P w K c μ m S H) {p : Addr} {o : HO} {u : Mo} (h : H p = none) (hu : MoAt P w K S (upd H p o) p u) : MoOk P w K c (μ ++ [u]) (m ++ [p]) S (upd H p o) where
  ex0 := W.ex0
  sub := fun b v q => by rw [upd_ne (ne_of_none (W.sub b v q) h)]; exact W.sub b v q
  new := W.new
  old := fun b v hb q => by rw [upd_ne (ne_of_none (W.old b v hb q) h)]; exact W.old b v hb q
  pre := W.pre.trans (List.prefix_append _ _)
  nd := by
    rw [List.nodup_append]
    exact ⟨W.nd, List.nodup_cons.mpr ⟨by simp, List.nodup_nil⟩, fun a ha b hb e => (W.free h).1 (by simp at hb; subst hb; exact e ▸ ha)⟩
  fr := fun a ha => by
    rcases List.mem_append.mp ha with z | z
    · exact W.fr a z
    · simp at z; subst z; exact .inr (W.free h).2.2.2.1
  out := fun a ha => by
    rcases List.mem_append.mp ha with z | z
    · exact W.out a z
    · simp at z; subst z; exact (W.free h).2.1
  len := by rw [List.length_append, List.length_append, W.len]; rfl
  obj := fun k a v h1 h2 => by
    by_cases hk : k < m.length
    · rw [List.getElem?_append_left hk] at h1
      rw [List.getElem?_append_left (W.len ▸ hk)] at h2
      refine (W.obj k a v h1 h2).mono (fun _ _ z => z) fun x q => ?_
      rw [upd_ne (ne_of_none q h)]; exact q
    · have hk2 : k = m.length := by
        have := (List.getElem?_eq_some_iff.mp h1).1
        rw [List.length_append] at this
        simp at this
        omega
      subst hk2
      have e1 : p = a := by simpa using h1
      have e2 : u = v := by simpa [← W.len] using h2
      subst e1; subst e2
      exact hu
/-- the k-th changes -/
theorem MoOk.put (W : MoOk P w K c μ m S H) {k : Nat} {p : Addr} {o : HO} {u : Mo} (hk : m[k]? = some p) (hu : MoAt P w K S (upd H p o) p u) : MoOk P w K c (μ.set k u) m S (upd H p o) where
  ex0 := W.ex0
  sub := fun b v q => by
    have : b ≠ p := fun z => by rw [z, W.out p (List.mem_of_getElem? hk)] at q; cases q
    rw [upd_ne this]; exact W.sub b v q
  new := W.new
  old := fun b v hb q => by
    have : b ≠ p := fun z => by
      rcases W.fr p (List.mem_of_getElem? hk) with r | r
      · exact hb (z ▸ r)
      · rw [z, r] at q; cases q
    rw [upd_ne this]; exact W.old b v hb q
  pre := W.pre
  nd := W.nd
  fr := W.fr
  out := W.out
  len := by rw [List.length_set]; exact W.len
  obj := fun j a v h1 h2 => by
    by_cases hj : j = k
    · subst hj
      rw [hk] at h1; cases h1
      have hl : j < μ.length := W.len ▸ (List.getElem?_eq_some_iff.mp hk).1
      rw [List.getElem?_set_self hl] at h2; cases h2
      exact hu
    · rw [List.getElem?_set_ne (Ne.symm hj)] at h2
      have ne : a ≠ p := fun z => hj ((List.getElem?_inj (List.getElem?_eq_some_iff.mp h1).1 W.nd).mp (by rw [h1, hk, z]))
      refine (W.obj j a v h1 h2).mono (fun _ _ z => z) fun x q => ?_
      rw [upd_ne ne]; exact q
/-- at a call's start -/
theorem MoOk.start {m : List Addr} (sub : Ex S H) (nd : m.Nodup) (out : ∀ a, a ∈ m → S a = none) (len : μ.length = m.length) (obj : ∀ (k : Nat) (a : Addr) (o : Mo), m[k]? = some a → μ[k]? = some o → MoAt P w K S H a o) : MoOk P w K ⟨H, S, m⟩ μ m S H :=
  ⟨Evl.Ex.refl _, sub, fun _ _ q => .inl q, fun _ _ _ q => q, List.prefix_refl _, nd, fun _ h => .inl h, out, len, obj⟩
end
end Dr
set_option maxHeartbeats 4000000
namespace Dr
open PySem PySem.Spec PyProof.Rows L2
abbrev Wd (X : Cx) (c : Ct) (μ : List Mo) (m : List Addr) (S H : Hp) : Prop := MoOk X.prog X.w X.K c μ m S H
/-- an argument without a star -/
def noStar : Expr → Bool
  | .Starred _ _ => false
  | _ => true
theorem star_cons {e : Expr} {es : List Expr} {env : Env} (h : noStar e = true) : starEach (e :: es) env = (false, eval e env) :: starEach es env := by
  cases e <;> first | rfl | cases h
/-! ### judgements -/
def KV (X : Cx) (c : Ct) (S : Hp) (m : List Addr) (s' : Sl) (μ' : List Mo) (Q : VK) : Prop := ∀ m' S' v H', Wd X c μ' m' S' H' → Ex S S' → m <+: m' → SlV X.K S' m' v s' → Q v H'
structure dV (X : Cx) (c : Ct) (e : Expr) (ρ : List Sl) (μ : List Mo) (s' : Sl) (μ' : List Mo) : Prop where
  run : ∀ m S H σ, Wd X c μ m S H → SlOk X.K S m σ ρ → ∀ Q : VK, KV X c S m s' μ' Q → wE X e σ H Q
instance {X : Cx} {c : Ct} {e : Expr} {ρ : List Sl} {μ : List Mo} {s' : Sl} {μ' : List Mo} : CoeFun (dV X c e ρ μ s' μ') (fun _ => ∀ m S H σ, Wd X c μ m S H → SlOk X.K S m σ ρ → ∀ Q : VK, KV X c S m s' μ' Q → wE X e σ H Q) := ⟨dV.run⟩
def KT (X : Cx) (c : Ct) (S : Hp) (m : List Addr) (b : Bool) (μ' : List Mo) (Q : Bool → Hp → Prop) : Prop := ∀ m' S' H', Wd X c μ' m' S' H' → Ex S S' → m <+: m' → Q b H'
structure dT (X : Cx) (c : Ct) (e : Expr) (ρ : List Sl) (μ : List Mo) (b : Bool) (μ' : List Mo) : Prop where
  run : ∀ m S H σ, Wd X c μ m S H → SlOk X.K S m σ ρ → ∀ Q : Bool → Hp → Prop, KT X c S m b μ' Q → wT X e σ H Q
instance {X : Cx} {c : Ct} {e : Expr} {ρ : List Sl} {μ : List Mo} {b : Bool} {μ' : List Mo} : CoeFun (dT X c e ρ μ b μ') (fun _ => ∀ m S H σ, Wd X c μ m S H → SlOk X.K S m σ ρ → ∀ Q : Bool → Hp → Prop, KT X c S m b μ' Q → wT X e σ H Q) := ⟨dT.run⟩
structure dW (X : Cx) (c : Ct) (e : Expr) (ρ : List Sl) (μ : List Mo) (b : Bool) (μ' : List Mo) : Prop where
  run : ∀ m S H σ, Wd X c μ m S H → SlOk X.K S m σ ρ → ∀ Q : Bool → Hp → Prop, KT X c S m b μ' Q → wW X e σ H Q
instance {X : Cx} {c : Ct} {e : Expr} {ρ : List Sl} {μ : List Mo} {b : Bool} {μ' : List Mo} : CoeFun (dW X c e ρ μ b μ') (fun _ => ∀ m S H σ, Wd X c μ m S H → SlOk X.K S m σ ρ → ∀ Q : Bool → Hp → Prop, KT X c S m b μ' Q → wW X e σ H Q) := ⟨dW.run⟩
def SlVs (K : PySem.W.Frag) (S : Hp) (m : List Addr) (vs : List V) (ss : List Sl) : Prop := Paired (SlV K S m) vs ss
theorem SlVs.mono {K : PySem.W.Frag} {S S' : Hp} {m m' : List Addr} {vs : List V} {ss : List Sl} (h : SlVs K S m vs ss) (e : Ex S S') (em : m <+: m') : SlVs K S' m' vs ss := L2.Paired.mapP h fun _ _ z => z.mono e em
def KA (X : Cx) (c : Ct) (S : Hp) (m : List Addr) (ss : List Sl) (μ' : List Mo) (Q : List V → Hp → Prop) : Prop := ∀ m' S' vs H', Wd X c μ' m' S' H' → Ex S S' → m <+: m' → SlVs X.K S' m' vs ss → Q vs H'
structure dA (X : Cx) (c : Ct) (es : List Expr) (ρ : List Sl) (μ : List Mo) (ss : List Sl) (μ' : List Mo) : Prop where
  run : ∀ m S H σ, Wd X c μ m S H → SlOk X.K S m σ ρ → ∀ Q : List V → Hp → Prop, KA X c S m ss μ' Q → wA X es σ H Q
instance {X : Cx} {c : Ct} {es : List Expr} {ρ : List Sl} {μ : List Mo} {ss : List Sl} {μ' : List Mo} : CoeFun (dA X c es ρ μ ss μ') (fun _ => ∀ m S H σ, Wd X c μ m S H → SlOk X.K S m σ ρ → ∀ Q : List V → Hp → Prop, KA X c S m ss μ' Q → wA X es σ H Q) := ⟨dA.run⟩
theorem KV.up {X : Cx} {c : Ct} {S S1 : Hp} {m m1 : List Addr} {s' : Sl} {μ' : List Mo} {Q : VK} (k : KV X c S m s' μ' Q) (e : Ex S S1) (em : m <+: m1) : KV X c S1 m1 s' μ' Q := fun m' S' v H' W e2 em2 r => k m' S' v H' W (e.trans e2) (em.trans em2) r
theorem KT.up {X : Cx} {c : Ct} {S S1 : Hp} {m m1 : List Addr} {b : Bool} {μ' : List Mo} {Q : Bool → Hp → Prop} (k : KT X c S m b μ' Q) (e : Ex S S1) (em : m <+: m1) : KT X c S1 m1 b μ' Q := fun m' S' H' W e2 em2 => k m' S' H' W (e.trans e2) (em.trans em2)
theorem KA.up {X : Cx} {c : Ct} {S S1 : Hp} {m m1 : List Addr} {ss : List Sl} {μ' : List Mo} {Q : List V → Hp → Prop} (k : KA X c S m ss μ' Q) (e : Ex S S1) (em : m <+: m1) : KA X c S1 m1 ss μ' Q := fun m' S' v H' W e2 em2 r => k m' S' v H' W (e.trans e2) (em.trans em2) r
section
variable {X : Cx} {c : Ct} {ρ : List Sl} {μ μ1 μ2 μ3 : List Mo} {s s1 s2 s3 : Sl} {a b e : Expr} {pos : Pos}
theorem KV.now {S : Hp} {m : List Addr} {H : Hp} {v : V} {Q : VK} (k : KV X c S m s μ Q) (W : Wd X c μ m S H) (h : SlV X.K S m v s) : Q v H := k m S v H W (Evl.Ex.refl S) (List.prefix_refl m) h
theorem KT.now {S : Hp} {m : List Addr} {H : Hp} {b : Bool} {Q : Bool → Hp → Prop} (k : KT X c S m b μ Q) (W : Wd X c μ m S H) : Q b H := k m S H W (Evl.Ex.refl S) (List.prefix_refl m)
/-! ### names, constants -/
theorem dv_name {x : Str} (i : Nat) (hs : ρ[i]? = some s) (hn : s ≠ .no) (hN : X.N[i]? = some x := by rfl) (hv : Vis X.env.scope x := by first | exact Or.inl rfl | exact Or.inr (Or.inl rfl) | exact Or.inr (Or.inr rfl)) (hd : (x == ("__debug__" : Str)) = false := by decide)
    (hcd : (x == ("__classdict__" : Str)) = false := by decide) : dV X c (.Name x pos) ρ μ s μ := .mk fun m S H σ W R Q k => by
  rcases R.at_ i s hs with z | ⟨v, h1, h2⟩
  · exact absurd z hn
  · exact wE_of (pe_var hN hv hd hcd) ⟨v, h1, k.now W h2⟩
theorem dv_int {i : Int} {j} : dV X c (.Constant (.int i) j pos) ρ μ (.dat (.int i)) μ := .mk fun m S H σ W R Q k => wE_of pe_int (k.now W (.int i))
theorem dv_bl {i : Bool} {j} : dV X c (.Constant (.bool i) j pos) ρ μ (.dat (.bool i)) μ := .mk fun m S H σ W R Q k => wE_of pe_bl (k.now W (.bl i))
theorem dv_non {j} : dV X c (.Constant .none j pos) ρ μ (.dat .none) μ := .mk fun m S H σ W R Q k => wE_of pe_non (k.now W .non)
theorem dv_str {x : Str} {j} : dV X c (.Constant (.str x) j pos) ρ μ (.dat (.str x)) μ := .mk fun m S H σ W R Q k => wE_of pe_str (k.now W (.str x))
/-- a global of the written part, as data -/
theorem dv_glob {x : Str} {v : V} {u : Value} {d : PyData} (hm : X.mg x = some u) (r : RelV v u) (hq : ∀ S, Dq X.K S v d) (hg : Gl X x := by rfl) (hd : (x == ("__debug__" : Str)) = false := by decide) : dV X c (.Name x pos) ρ μ (.dat d) μ :=
  .mk fun m S H σ W R Q k => wE_of (pe_glob hg hm r hd) (k.now W (hq S))
theorem dv_globR {x : Str} {v : V} {u : Value} (hm : X.mg x = some u) (r : RelV v u) (hg : Gl X x := by rfl) (hd : (x == ("__debug__" : Str)) = false := by decide) : dV X c (.Name x pos) ρ μ (.raw v) μ :=
  .mk fun m S H σ W R Q k => wE_of (pe_glob hg hm r hd) (k.now W rfl)
theorem dv_is (h : dV X c e ρ μ s μ1) (es : s = s1) : dV X c e ρ μ s1 μ1 := es ▸ h
/-! ### operators -/
def BinR (X : Cx) (c : Ct) (op : Operator) (s1 s2 : Sl) (μ : List Mo) (s3 : Sl) (μ' : List Mo) : Prop :=
  ∃ r : R2, OpR X (binaryOp op) r ∧ ∀ m S H x y Q, Wd X c μ m S H → SlV X.K S m x s1 → SlV X.K S m y s2 → KV X c S m s3 μ' Q → r x y H Q
theorem dv_bin {op : Operator} (ha : dV X c a ρ μ s1 μ1) (hb : dV X c b ρ μ1 s2 μ2) (hr : BinR X c op s1 s2 μ2 s3 μ3) : dV X c (.BinOp a op b pos) ρ μ s3 μ3 := .mk fun m S H σ W R Q k => by
  obtain ⟨r, ho, hr⟩ := hr
  refine wE_of (pe_op ho pe_w pe_w) ?_
  refine ha m S H σ W R _ fun m1 S1 x H1 W1 e1 p1 q1 => ?_
  refine hb m1 S1 H1 σ W1 (R.mono e1 p1) _ fun m2 S2 y H2 W2 e2 p2 q2 => ?_
  exact hr m2 S2 H2 x y Q W2 (q1.mono e2 p2) q2 ((k.up e1 p1).up e2 p2)
theorem b_I0 {op : Operator} {g : Int → Int → Int} (ho : OpR X (binaryOp op) (rI0 fun i j => .int (g i j))) (i j : Int) : BinR X c op (.dat (.int i)) (.dat (.int j)) μ (.dat (.int (g i j))) μ :=
  ⟨_, ho, fun m S H x y Q W h1 h2 k => ⟨i, j, Dq.of_int h1, Dq.of_int h2, k.now W (.int _)⟩⟩
theorem b_I {op : Operator} {C : Int → Int → Prop} {g : Int → Int → Int} (ho : OpR X (binaryOp op) (rI C fun i j => .int (g i j))) (i j : Int) (hc : C i j) : BinR X c op (.dat (.int i)) (.dat (.int j)) μ (.dat (.int (g i j))) μ :=
  ⟨_, ho, fun m S H x y Q W h1 h2 k => ⟨i, j, Dq.of_int h1, Dq.of_int h2, hc, k.now W (.int _)⟩⟩
theorem dv_add {i j : Int} (ha : dV X c a ρ μ (.dat (.int i)) μ1) (hb : dV X c b ρ μ1 (.dat (.int j)) μ2) : dV X c (.BinOp a .Add b pos) ρ μ (.dat (.int (i + j))) μ2 := dv_bin ha hb (b_I0 op_add i j)
theorem dv_sub {i j : Int} (ha : dV X c a ρ μ (.dat (.int i)) μ1) (hb : dV X c b ρ μ1 (.dat (.int j)) μ2) : dV X c (.BinOp a .Sub b pos) ρ μ (.dat (.int (i - j))) μ2 := dv_bin ha hb (b_I0 op_sub i j)
theorem dv_mul {i j : Int} (ha : dV X c a ρ μ (.dat (.int i)) μ1) (hb : dV X c b ρ μ1 (.dat (.int j)) μ2) (h : CMul i j) : dV X c (.BinOp a .Mult b pos) ρ μ (.dat (.int (i * j))) μ2 := dv_bin ha hb (b_I op_mul i j h)
theorem dv_mod {i j : Int} (ha : dV X c a ρ μ (.dat (.int i)) μ1) (hb : dV X c b ρ μ1 (.dat (.int j)) μ2) (h : 0 < j) : dV X c (.BinOp a .Mod b pos) ρ μ (.dat (.int (i % j))) μ2 := dv_bin ha hb (b_I op_mod i j h)
theorem dv_fdiv {i j : Int} (ha : dV X c a ρ μ (.dat (.int i)) μ1) (hb : dV X c b ρ μ1 (.dat (.int j)) μ2) (h : CDiv i j) : dV X c (.BinOp a .FloorDiv b pos) ρ μ (.dat (.int (i / j))) μ2 := dv_bin ha hb (b_I op_fdiv i j h)
theorem dv_pow {i j : Int} (ha : dV X c a ρ μ (.dat (.int i)) μ1) (hb : dV X c b ρ μ1 (.dat (.int j)) μ2) (h : CPow i j) : dV X c (.BinOp a .Pow b pos) ρ μ (.dat (.int (i ^ j.toNat))) μ2 := dv_bin ha hb (b_I op_pow i j h)
theorem dv_addS {x y : Str} (ha : dV X c a ρ μ (.dat (.str x)) μ1) (hb : dV X c b ρ μ1 (.dat (.str y)) μ2) (h : x.length + y.length ≤ sizeLine) : dV X c (.BinOp a .Add b pos) ρ μ (.dat (.str (x ++ y))) μ2 :=
  dv_bin ha hb ⟨_, op_add_str, fun m S H v u Q W h1 h2 k => ⟨x, y, Dq.of_str h1, Dq.of_str h2, h, k.now W (.str _)⟩⟩
theorem dv_neg {i : Int} (ha : dV X c a ρ μ (.dat (.int i)) μ1) : dV X c (.UnaryOp .USub a pos) ρ μ (.dat (.int (-i))) μ1 := .mk fun m S H σ W R Q k => by
  refine wE_of (pe_un un_neg pe_w) ?_
  exact ha m S H σ W R _ fun m1 S1 x H1 W1 e1 p1 q1 => ⟨i, Dq.of_int q1, (k.up e1 p1).now W1 (.int _)⟩
/-! ### comparisons -/
def CmpR (X : Cx) (c : Ct) (op : CmpOp) (s1 s2 : Sl) (μ : List Mo) (b : Bool) : Prop :=
  ∃ r : R2, OpR X (compareOp op) r ∧ ∀ m S H x y Q, Wd X c μ m S H → SlV X.K S m x s1 → SlV X.K S m y s2 → Q (.bl b) H → r x y H Q
theorem dv_cmp {op : CmpOp} {k : Bool} (ha : dV X c a ρ μ s1 μ1) (hb : dV X c b ρ μ1 s2 μ2) (hr : CmpR X c op s1 s2 μ2 k) (hm : behindInMarks op b = false := by first | exact nomark _ | rfl) : dV X c (.Compare a [op] [b] pos) ρ μ (.dat (.bool k)) μ2 := .mk fun m S H σ W R Q kk => by
  obtain ⟨r, ho, hr⟩ := hr
  refine wE_of (pe_cmpR ho pe_w pe_w hm) ?_
  refine ha m S H σ W R _ fun m1 S1 x H1 W1 e1 p1 q1 => ?_
  refine hb m1 S1 H1 σ W1 (R.mono e1 p1) _ fun m2 S2 y H2 W2 e2 p2 q2 => ?_
  exact hr m2 S2 H2 x y Q W2 (q1.mono e2 p2) q2 (((kk.up e1 p1).up e2 p2).now W2 (.bl _))
theorem dt_cmp {op : CmpOp} {k : Bool} (ha : dV X c a ρ μ s1 μ1) (hb : dV X c b ρ μ1 s2 μ2) (hr : CmpR X c op s1 s2 μ2 k) (hm : behindInMarks op b = false := by first | exact nomark _ | rfl) : dT X c (.Compare a [op] [b] pos) ρ μ k μ2 := .mk fun m S H σ W R Q kk => by
  obtain ⟨r, ho, hr⟩ := hr
  refine wT_of (pt_cmpR ho pe_w pe_w hm) ?_
  refine ha m S H σ W R _ fun m1 S1 x H1 W1 e1 p1 q1 => ?_
  refine hb m1 S1 H1 σ W1 (R.mono e1 p1) _ fun m2 S2 y H2 W2 e2 p2 q2 => ?_
  exact hr m2 S2 H2 x y _ W2 (q1.mono e2 p2) q2 ⟨k, rfl, ((kk.up e1 p1).up e2 p2).now W2⟩
theorem c_I {op : CmpOp} {g : Int → Int → Bool} (ho : OpR X (compareOp op) (rI0 fun i j => .bl (g i j))) (i j : Int) : CmpR X c op (.dat (.int i)) (.dat (.int j)) μ (g i j) :=
  ⟨_, ho, fun m S H x y Q W h1 h2 q => ⟨i, j, Dq.of_int h1, Dq.of_int h2, q⟩⟩
theorem c_lt (i j : Int) : CmpR X c .Lt (.dat (.int i)) (.dat (.int j)) μ (decide (i < j)) := c_I (g := fun i j => decide (i < j)) op_lt i j
theorem c_le (i j : Int) : CmpR X c .LtE (.dat (.int i)) (.dat (.int j)) μ (decide (i ≤ j)) := c_I (g := fun i j => decide (i ≤ j)) op_le i j
theorem c_gt (i j : Int) : CmpR X c .Gt (.dat (.int i)) (.dat (.int j)) μ (decide (j < i)) := c_I (g := fun i j => decide (j < i)) op_gt i j
theorem c_ge (i j : Int) : CmpR X c .GtE (.dat (.int i)) (.dat (.int j)) μ (decide (j ≤ i)) := c_I (g := fun i j => decide (j ≤ i)) op_ge i j
theorem c_eqI (i j : Int) : CmpR X c .Eq (.dat (.int i)) (.dat (.int j)) μ (decide (i = j)) :=
  ⟨_, op_eq, fun m S H x y Q W h1 h2 q => by
    obtain rfl := Dq.of_int h1; obtain rfl := Dq.of_int h2
    refine ⟨rfl, ?_⟩
    rw [dec_int, Bool.beq_eq_decide_eq]; exact q⟩
theorem c_neI (i j : Int) : CmpR X c .NotEq (.dat (.int i)) (.dat (.int j)) μ (!decide (i = j)) :=
  ⟨_, op_ne, fun m S H x y Q W h1 h2 q => by
    obtain rfl := Dq.of_int h1; obtain rfl := Dq.of_int h2
    refine ⟨rfl, ?_⟩
    rw [dec_int, Bool.beq_eq_decide_eq]; exact q⟩
theorem c_eqS (i j : Str) : CmpR X c .Eq (.dat (.str i)) (.dat (.str j)) μ (decide (i = j)) :=
  ⟨_, op_eq, fun m S H x y Q W h1 h2 q => by
    obtain rfl := Dq.of_str h1; obtain rfl := Dq.of_str h2
    refine ⟨rfl, ?_⟩
    rw [dec_str, Bool.beq_eq_decide_eq]; exact q⟩
theorem c_neS (i j : Str) : CmpR X c .NotEq (.dat (.str i)) (.dat (.str j)) μ (!decide (i = j)) :=
  ⟨_, op_ne, fun m S H x y Q W h1 h2 q => by
    obtain rfl := Dq.of_str h1; obtain rfl := Dq.of_str h2
    refine ⟨rfl, ?_⟩
    rw [dec_str, Bool.beq_eq_decide_eq]; exact q⟩
theorem c_isN (d : PyData) : CmpR X c .Is (.dat d) (.dat .none) μ (match d with | .none => true | _ => false) :=
  ⟨_, op_isN, fun m S H x y Q W h1 h2 q => by
    refine ⟨Dq.of_non h2, ?_⟩
    cases h1 <;> exact q⟩
theorem c_notN (d : PyData) : CmpR X c .IsNot (.dat d) (.dat .none) μ (match d with | .none => false | _ => true) :=
  ⟨_, op_notN, fun m S H x y Q W h1 h2 q => by
    refine ⟨Dq.of_non h2, ?_⟩
    cases h1 <;> exact q⟩
/-- == and != of data -/
def rDat (X : Cx) (f : PyData → PyData → Bool) : R2 := fun x y H Q => ∃ S d e, Ex S H ∧ Dq X.K S x d ∧ Dq X.K S y e ∧ d.plain = true ∧ e.plain = true ∧ min d.depth e.depth ≤ 60 ∧ Q (.bl (f d e)) H
theorem op_eqP (hu : X.A.units + 64 < cLine) : OpR X (compareOp .Eq) (rDat X PyData.eqv) := by
  intro pins s σ H x y v u Q I rx ry h
  obtain ⟨S, d, e, ex, h1, h2, p1, p2, hd, q⟩ := h
  obtain ⟨as, r1⟩ := Dq.reads I ex d x v h1 rx p1
  obtain ⟨bs, r2⟩ := Dq.reads I ex e y u h2 ry p2
  exact SeqAt.eq_plain r1 r2 p1 p2 (by omega) ⟨.bl _, H, I, rfl, q⟩
theorem op_neP (hu : X.A.units + 64 < cLine) : OpR X (compareOp .NotEq) (rDat X fun d e => !PyData.eqv d e) := by
  intro pins s σ H x y v u Q I rx ry h
  obtain ⟨S, d, e, ex, h1, h2, p1, p2, hd, q⟩ := h
  obtain ⟨as, r1⟩ := Dq.reads I ex d x v h1 rx p1
  obtain ⟨bs, r2⟩ := Dq.reads I ex e y u h2 ry p2
  exact SeqAt.ne_plain r1 r2 p1 p2 (by omega) ⟨.bl _, H, I, rfl, q⟩
theorem c_eqD (hu : X.A.units + 64 < cLine) (d e : PyData) (p1 : d.plain = true) (p2 : e.plain = true) (hd : min d.depth e.depth ≤ 60) : CmpR X c .Eq (.dat d) (.dat e) μ (PyData.eqv d e) :=
  ⟨_, op_eqP hu, fun m S H x y Q W h1 h2 q => ⟨S, d, e, W.sub, h1, h2, p1, p2, hd, q⟩⟩
theorem c_neD (hu : X.A.units + 64 < cLine) (d e : PyData) (p1 : d.plain = true) (p2 : e.plain = true) (hd : min d.depth e.depth ≤ 60) : CmpR X c .NotEq (.dat d) (.dat e) μ (!PyData.eqv d e) :=
  ⟨_, op_neP hu, fun m S H x y Q W h1 h2 q => ⟨S, d, e, W.sub, h1, h2, p1, p2, hd, q⟩⟩
end
end Dr
set_option maxHeartbeats 4000000
namespace Dr
open PySem PySem.Spec PyProof.Rows L2
section
variable {X : Cx} {c : Ct} {ρ : List Sl} {μ μ1 μ2 μ3 : List Mo} {s s1 s2 s3 : Sl} {a b e t : Expr} {es rest : List Expr} {pos : Pos} {k k1 k2 : Bool} {d : PyData} {ds : List PyData}
/-! ### tests -/
theorem dt_is (h : dT X c e ρ μ k μ1) (ek : k = k1) : dT X c e ρ μ k1 μ1 := ek ▸ h
theorem dt_val (h : dV X c e ρ μ (.dat (.bool k)) μ1) (he : ∀ whole, isTrue e X.env whole = (do let v ← whole; standAt e.pos; holding [v] (truthy v)) := by intro _; rfl) : dT X c e ρ μ k μ1 := .mk fun m S H σ W R Q kk => by
  refine wT_of (pt_val pe_w he) ?_
  exact h m S H σ W R _ fun m1 S1 x H1 W1 e1 p1 q1 => ⟨k, Dq.of_bl q1, kk m1 S1 H1 W1 e1 p1⟩
/-- truth of a tuple -/
theorem dt_tup (h : dV X c e ρ μ (.dat (.tuple ds)) μ1) (he : ∀ whole, isTrue e X.env whole = (do let v ← whole; standAt e.pos; holding [v] (truthy v)) := by intro _; rfl) : dT X c e ρ μ (!ds.isEmpty) μ1 := .mk fun m S H σ W R Q kk => by
  refine wT_of (pt_truth pe_w he) ?_
  refine h m S H σ W R _ fun m1 S1 x H1 W1 e1 p1 q1 => ?_
  obtain ⟨p, xs, rfl, hx, hs⟩ := Dq.of_tup q1
  refine ⟨!xs.isEmpty, .inr (.inl ⟨xs, Evl.ex_t W1.sub hx, rfl⟩), ?_⟩
  have el : xs.isEmpty = ds.isEmpty := by
    cases hs <;> rfl
  rw [el]
  exact kk m1 S1 H1 W1 e1 p1
theorem dt_not (h : dT X c e ρ μ k μ1) : dT X c (.UnaryOp .Not e pos) ρ μ (!k) μ1 := .mk fun m S H σ W R Q kk => by
  refine wT_of (pt_not pt_w) ?_
  exact h m S H σ W R _ fun m1 S1 H1 W1 e1 p1 => kk m1 S1 H1 W1 e1 p1
theorem dt_w (h : dW X c e ρ μ k μ1) : dT X c e ρ μ k μ1 := .mk fun m S H σ W R Q kk => by
  refine wT_of (PW.pt pw_w) ?_
  exact h m S H σ W R _ kk
theorem dw_and1 (h : dT X c a ρ μ k μ1) : dW X c (.BoolOp .And [a] pos) ρ μ k μ1 := .mk fun m S H σ W R Q kk => wW_of (pw_and1 pt_w) (h m S H σ W R _ kk)
theorem dw_or1 (h : dT X c a ρ μ k μ1) : dW X c (.BoolOp .Or [a] pos) ρ μ k μ1 := .mk fun m S H σ W R Q kk => wW_of (pw_or1 pt_w) (h m S H σ W R _ kk)
theorem dw_and (h1 : dT X c a ρ μ k1 μ) (h2 : k1 = true → dW X c (.BoolOp .And (b :: rest) pos) ρ μ k2 μ) : dW X c (.BoolOp .And (a :: b :: rest) pos) ρ μ (k1 && k2) μ := .mk fun m S H σ W R Q kk => by
  refine wW_of (pw_and pt_w pw_w) ?_
  refine h1 m S H σ W R _ fun m1 S1 H1 W1 e1 p1 => ?_
  cases k1 with
  | true => exact iteT (h2 rfl m1 S1 H1 σ W1 (R.mono e1 p1) _ (kk.up e1 p1))
  | false => exact iteF (kk m1 S1 H1 W1 e1 p1)
theorem dw_or (h1 : dT X c a ρ μ k1 μ) (h2 : k1 = false → dW X c (.BoolOp .Or (b :: rest) pos) ρ μ k2 μ) : dW X c (.BoolOp .Or (a :: b :: rest) pos) ρ μ (k1 || k2) μ := .mk fun m S H σ W R Q kk => by
  refine wW_of (pw_or pt_w pw_w) ?_
  refine h1 m S H σ W R _ fun m1 S1 H1 W1 e1 p1 => ?_
  cases k1 with
  | true => exact iteT (kk m1 S1 H1 W1 e1 p1)
  | false => exact iteF (h2 rfl m1 S1 H1 σ W1 (R.mono e1 p1) _ (kk.up e1 p1))
/-- as values -/
theorem dv_one {op} (h : dV X c a ρ μ s μ1) : dV X c (.BoolOp op [a] pos) ρ μ s μ1 := .mk fun m S H σ W R Q kk => wE_of (pe_one pe_w) (h m S H σ W R _ kk)
theorem dv_and (h1 : dV X c a ρ μ (.dat (.bool k1)) μ) (h2 : k1 = true → dV X c (.BoolOp .And (b :: rest) pos) ρ μ (.dat (.bool k2)) μ) : dV X c (.BoolOp .And (a :: b :: rest) pos) ρ μ (.dat (.bool (k1 && k2))) μ := .mk fun m S H σ W R Q kk => by
  refine wE_of (pe_and pe_w pe_w) ?_
  refine h1 m S H σ W R _ fun m1 S1 x H1 W1 e1 p1 q1 => ⟨k1, Dq.of_bl q1, ?_⟩
  cases k1 with
  | true => exact iteT (h2 rfl m1 S1 H1 σ W1 (R.mono e1 p1) _ (kk.up e1 p1))
  | false => exact iteF ((kk.up e1 p1).now W1 (.bl _))
theorem dv_or (h1 : dV X c a ρ μ (.dat (.bool k1)) μ) (h2 : k1 = false → dV X c (.BoolOp .Or (b :: rest) pos) ρ μ (.dat (.bool k2)) μ) : dV X c (.BoolOp .Or (a :: b :: rest) pos) ρ μ (.dat (.bool (k1 || k2))) μ := .mk fun m S H σ W R Q kk => by
  refine wE_of (pe_or pe_w pe_w) ?_
  refine h1 m S H σ W R _ fun m1 S1 x H1 W1 e1 p1 q1 => ⟨k1, Dq.of_bl q1, ?_⟩
  cases k1 with
  | true => exact iteT ((kk.up e1 p1).now W1 (.bl _))
  | false => exact iteF (h2 rfl m1 S1 H1 σ W1 (R.mono e1 p1) _ (kk.up e1 p1))
theorem dv_not (h : dV X c e ρ μ (.dat (.bool k)) μ1) : dV X c (.UnaryOp .Not e pos) ρ μ (.dat (.bool (!k))) μ1 := .mk fun m S H σ W R Q kk => by
  refine wE_of (pe_not pe_w) ?_
  exact h m S H σ W R _ fun m1 S1 x H1 W1 e1 p1 q1 => ⟨k, Dq.of_bl q1, (kk.up e1 p1).now W1 (.bl _)⟩
theorem dv_if (h : dT X c t ρ μ k μ1) (h1 : k = true → dV X c a ρ μ1 s μ2) (h2 : k = false → dV X c b ρ μ1 s μ2) : dV X c (.IfExp t a b pos) ρ μ s μ2 := .mk fun m S H σ W R Q kk => by
  refine wE_of (pe_ifExp pt_w pe_w pe_w) ?_
  refine h m S H σ W R _ fun m1 S1 H1 W1 e1 p1 => ?_
  cases k with
  | true => exact iteT (h1 rfl m1 S1 H1 σ W1 (R.mono e1 p1) _ (kk.up e1 p1))
  | false => exact iteF (h2 rfl m1 S1 H1 σ W1 (R.mono e1 p1) _ (kk.up e1 p1))
/-! ### arguments, displays -/
theorem da_nil : dA X c [] ρ μ [] μ := .mk fun m S H σ W R Q kk => wA_of pa_nil (kk m S [] H W (Evl.Ex.refl S) (List.prefix_refl m) .nil)
theorem da_cons {ss : List Sl} (h : dV X c e ρ μ s μ1) (hr : dA X c es ρ μ1 ss μ2) (hs : starEach (e :: es) X.env = (false, eval e X.env) :: starEach es X.env := by exact star_cons rfl) : dA X c (e :: es) ρ μ (s :: ss) μ2 := .mk fun m S H σ W R Q kk => by
  refine wA_of (pa_cons pe_w pa_w hs) ?_
  refine h m S H σ W R _ fun m1 S1 x H1 W1 e1 p1 q1 => ?_
  refine hr m1 S1 H1 σ W1 (R.mono e1 p1) _ fun m2 S2 xs H2 W2 e2 p2 q2 => ?_
  exact ((kk.up e1 p1).up e2 p2) m2 S2 (x :: xs) H2 W2 (Evl.Ex.refl _) (List.prefix_refl _) (.cons (q1.mono e2 p2) q2)
theorem slVs_dat {K : PySem.W.Frag} {S : Hp} {m : List Addr} : ∀ {vs : List V} {ds : List PyData}, SlVs K S m vs (ds.map Sl.dat) → DqA K S vs ds
  | _, [], .nil => .nil
  | _, _ :: _, .cons h hs => .cons h (slVs_dat hs)
def dD (X : Cx) (c : Ct) (es : List Expr) (ρ : List Sl) (μ : List Mo) (ds : List PyData) (μ' : List Mo) : Prop := dA X c es ρ μ (ds.map Sl.dat) μ'
instance {X : Cx} {c : Ct} {es : List Expr} {ρ : List Sl} {μ : List Mo} {ds : List PyData} {μ' : List Mo} : CoeFun (dD X c es ρ μ ds μ') (fun _ => ∀ m S H σ, Wd X c μ m S H → SlOk X.K S m σ ρ → ∀ Q : List V → Hp → Prop, KA X c S m (ds.map Sl.dat) μ' Q → wA X es σ H Q) := ⟨dA.run⟩
theorem dd_nil : dD X c [] ρ μ [] μ := da_nil
theorem dd_cons (h : dV X c e ρ μ (.dat d) μ1) (hr : dD X c es ρ μ1 ds μ2) (hs : starEach (e :: es) X.env = (false, eval e X.env) :: starEach es X.env := by exact star_cons rfl) : dD X c (e :: es) ρ μ (d :: ds) μ2 := da_cons h hr hs
theorem lay_lst {X : Cx} {μ : List Mo} {m : List Addr} {S H : Hp} {p : Addr} {xs : List V} {ds : List PyData} (W : Wd X c μ m S H) (h : H p = none) (hs : DqA X.K S xs ds) :
    Wd X c μ m (upd S p (.lst xs)) (upd H p (.lst xs)) ∧ Ex S (upd S p (.lst xs)) ∧ Dq X.K (upd S p (.lst xs)) (.ref p) (.list ds) := by
  obtain ⟨W', e⟩ := W.lay (.lst xs) h
  exact ⟨W', e, .lst (.inl upd_same) (hs.mono e)⟩
theorem lay_tup {X : Cx} {μ : List Mo} {m : List Addr} {S H : Hp} {p : Addr} {xs : List V} {ds : List PyData} (W : Wd X c μ m S H) (h : H p = none) (hs : DqA X.K S xs ds) :
    Wd X c μ m (upd S p (.tup xs)) (upd H p (.tup xs)) ∧ Ex S (upd S p (.tup xs)) ∧ Dq X.K (upd S p (.tup xs)) (.ref p) (.tuple ds) := by
  obtain ⟨W', e⟩ := W.lay (.tup xs) h
  exact ⟨W', e, .tup (Evl.st_of upd_same) (hs.mono e)⟩
theorem KV.lst {S H : Hp} {m : List Addr} {Q : VK} (kk : KV X c S m (.dat (.list ds)) μ Q) (W : Wd X c μ m S H) {xs : List V} (hs : DqA X.K S xs ds) {p : Addr} (h : H p = none) : Q (.ref p) (upd H p (.lst xs)) := by
  obtain ⟨W', e, q⟩ := lay_lst W h hs
  exact (kk.up e (List.prefix_refl m)).now W' q
theorem KV.tup {S H : Hp} {m : List Addr} {Q : VK} (kk : KV X c S m (.dat (.tuple ds)) μ Q) (W : Wd X c μ m S H) {xs : List V} (hs : DqA X.K S xs ds) {p : Addr} (h : H p = none) : Q (.ref p) (upd H p (.tup xs)) := by
  obtain ⟨W', e, q⟩ := lay_tup W h hs
  exact (kk.up e (List.prefix_refl m)).now W' q
theorem dv_tup {x1} (h : dD X c es ρ μ ds μ1) (hl : ds.length ≤ sizeLine := by first | decide | exact Nat.le_trans (Nat.le_of_ble_eq_true rfl) (show 64 ≤ sizeLine by decide)) : dV X c (.Tuple es x1 pos) ρ μ (.dat (.tuple ds)) μ1 := .mk fun m S H σ W R Q kk => by
  refine wE_of (pe_tup pa_w) ?_
  refine h m S H σ W R _ fun m1 S1 xs H1 W1 e1 p1 q1 => ?_
  have hs := slVs_dat q1
  exact ⟨by rw [hs.length]; exact hl, fun p hp => (kk.up e1 p1).tup W1 hs hp⟩
theorem dv_lst (h : dD X c es ρ μ ds μ1) (hl : ds.length ≤ sizeLine := by first | decide | exact Nat.le_trans (Nat.le_of_ble_eq_true rfl) (show 64 ≤ sizeLine by decide)) : dV X c (.List es pos) ρ μ (.dat (.list ds)) μ1 := .mk fun m S H σ W R Q kk => by
  refine wE_of (pe_lst pa_w) ?_
  refine h m S H σ W R _ fun m1 S1 xs H1 W1 e1 p1 q1 => ?_
  have hs := slVs_dat q1
  exact ⟨by rw [hs.length]; exact hl, fun p hp => (kk.up e1 p1).lst W1 hs hp⟩
/-! ### subscripts -/
theorem atD {K : PySem.W.Frag} {S : Hp} {xs : List V} {ds : List PyData} {i : Int} {d : PyData} (h : DqA K S xs ds) (e : atI ds i = some d) : ∃ v, atI xs i = some v ∧ Dq K S v d := by
  unfold atI at e ⊢
  rw [h.length]
  cases q : ixN ds.length i with
  | none => rw [q] at e; cases e
  | some j =>
    rw [q] at e
    exact h.at e
theorem dv_ixT {i : Int} (ha : dV X c a ρ μ (.dat (.tuple ds)) μ1) (hb : dV X c b ρ μ1 (.dat (.int i)) μ2) (h : atI ds i = some d) (hp : PlainIx b := by exact fun _ _ => rfl) : dV X c (.Subscript a b pos) ρ μ (.dat d) μ2 := .mk fun m S H σ W R Q kk => by
  refine wE_of (pe_ix ix_tup pe_w pe_w hp) ?_
  refine ha m S H σ W R _ fun m1 S1 x H1 W1 e1 p1 q1 => ?_
  refine hb m1 S1 H1 σ W1 (R.mono e1 p1) _ fun m2 S2 y H2 W2 e2 p2 q2 => ?_
  obtain ⟨p, xs, rfl, hx, hs⟩ := Dq.of_tup (Dq.mono e2 q1)
  obtain ⟨v, hv, hd⟩ := atD hs h
  exact ⟨p, xs, i, v, rfl, Dq.of_int q2, Evl.ex_t W2.sub hx, hv, ((kk.up e1 p1).up e2 p2).now W2 hd⟩
theorem dv_ixL {i : Int} (ha : dV X c a ρ μ (.dat (.list ds)) μ1) (hb : dV X c b ρ μ1 (.dat (.int i)) μ2) (h : atI ds i = some d) (hp : PlainIx b := by exact fun _ _ => rfl) : dV X c (.Subscript a b pos) ρ μ (.dat d) μ2 := .mk fun m S H σ W R Q kk => by
  refine wE_of (pe_ix ix_list pe_w pe_w hp) ?_
  refine ha m S H σ W R _ fun m1 S1 x H1 W1 e1 p1 q1 => ?_
  refine hb m1 S1 H1 σ W1 (R.mono e1 p1) _ fun m2 S2 y H2 W2 e2 p2 q2 => ?_
  obtain ⟨p, xs, rfl, hx, hs⟩ := Dq.of_lst (Dq.mono e2 q1)
  obtain ⟨v, hv, hd⟩ := atD hs h
  exact ⟨p, xs, i, v, rfl, Dq.of_int q2, (.inl (Evl.ex_rd W2.sub hx)), hv, ((kk.up e1 p1).up e2 p2).now W2 hd⟩
theorem MoOk.lst {P : Program} {w : World} {K : PySem.W.Frag} {m : List Addr} {S H : Hp} (W : MoOk P w K c μ m S H) {j : Nat} {p : Addr} (hk : m[j]? = some p) (h : μ[j]? = some (.lst ds)) : ∃ xs, H p = some (.lst xs) ∧ DqA K S xs ds := W.obj j p _ hk h
theorem dv_ixM {i : Int} {j : Nat} (ha : dV X c a ρ μ (.own j) μ1) (hb : dV X c b ρ μ1 (.dat (.int i)) μ2) (hm : μ2[j]? = some (.lst ds)) (h : atI ds i = some d) (hp : PlainIx b := by exact fun _ _ => rfl) : dV X c (.Subscript a b pos) ρ μ (.dat d) μ2 := .mk fun m S H σ W R Q kk => by
  refine wE_of (pe_ix ix_list pe_w pe_w hp) ?_
  refine ha m S H σ W R _ fun m1 S1 x H1 W1 e1 p1 q1 => ?_
  refine hb m1 S1 H1 σ W1 (R.mono e1 p1) _ fun m2 S2 y H2 W2 e2 p2 q2 => ?_
  obtain ⟨p, hp, rfl⟩ := SlV.mono (s := .own j) q1 e2 p2
  obtain ⟨xs, hx, hs⟩ := W2.lst hp hm
  obtain ⟨v, hv, hd⟩ := atD hs h
  exact ⟨p, xs, i, v, rfl, Dq.of_int q2, Evl.sq_of hx, hv, ((kk.up e1 p1).up e2 p2).now W2 hd⟩
theorem dv_ixS {i : Int} {x : Str} {n : Nat} (ha : dV X c a ρ μ (.dat (.str x)) μ1) (hb : dV X c b ρ μ1 (.dat (.int i)) μ2) (hl : x.length ≤ sizeLine) (h : atI x.cps.toList i = some n) (hp : PlainIx b := by exact fun _ _ => rfl) : dV X c (.Subscript a b pos) ρ μ (.dat (.str ⟨#[n]⟩)) μ2 := .mk fun m S H σ W R Q kk => by
  refine wE_of (pe_ix ix_str pe_w pe_w hp) ?_
  refine ha m S H σ W R _ fun m1 S1 x H1 W1 e1 p1 q1 => ?_
  refine hb m1 S1 H1 σ W1 (R.mono e1 p1) _ fun m2 S2 y H2 W2 e2 p2 q2 => ?_
  exact ⟨_, i, n, Dq.of_str q1, Dq.of_int q2, hl, h, ((kk.up e1 p1).up e2 p2).now W2 (.str _)⟩
/-! ### slices -/
def dO (X : Cx) (c : Ct) (e : Option Expr) (ρ : List Sl) (μ : List Mo) (o : Option Int) (μ' : List Mo) : Prop := match e, o with
  | none, none => μ = μ'
  | some e, some i => dV X c e ρ μ (.dat (.int i)) μ'
  | _, _ => False
def wO (X : Cx) (e : Option Expr) : TO := match e with
  | none => tNoPart
  | some e => tPart (wE X e)
theorem po_w (e : Option Expr) : PO X e (wO X e) := match e with
  | none => po_none
  | some _ => po_some pe_w
theorem dO.go {e : Option Expr} {o : Option Int} (h : dO X c e ρ μ o μ1) {m : List Addr} {S H : Hp} {σ : L2.St} (W : Wd X c μ m S H) (R : SlOk X.K S m σ ρ) {Q : Option Int → Hp → Prop}
    (k : ∀ m' S' H', Wd X c μ1 m' S' H' → Ex S S' → m <+: m' → Q o H') : wO X e σ H Q := by
  cases e with
  | none =>
    cases o with
    | none =>
      have e : μ = μ1 := h
      subst e
      exact k m S H W (Evl.Ex.refl S) (List.prefix_refl m)
    | some i => exact (show False from h).elim
  | some e =>
    cases o with
    | none => exact (show False from h).elim
    | some i =>
      have h : dV X c e ρ μ (.dat (.int i)) μ1 := h
      exact h m S H σ W R _ fun m1 S1 x H1 W1 e1 p1 q1 => ⟨i, Dq.of_int q1, k m1 S1 H1 W1 e1 p1⟩
theorem do_none : dO X c none ρ μ none μ := rfl
theorem do_some {i : Int} (h : dV X c e ρ μ (.dat (.int i)) μ1) : dO X c (some e) ρ μ (some i) μ1 := h
theorem dv_slL {lo hi : Option Expr} {ol oh : Option Int} {p2 : Pos} (ha : dV X c a ρ μ (.dat (.list ds)) μ1) (hl : dO X c lo ρ μ1 ol μ2) (hh : dO X c hi ρ μ2 oh μ3) : dV X c (.Subscript a (.Slice lo hi none p2) pos) ρ μ (.dat (.list (cutD ds ol oh))) μ3 := .mk fun m S H σ W R Q kk => by
  refine wE_of (pe_slice sl_list pe_w (po_w lo) (po_w hi)) ?_
  refine ha m S H σ W R _ fun m1 S1 x H1 W1 e1 p1 q1 => ?_
  refine hl.go W1 (R.mono e1 p1) fun m2 S2 H2 W2 e2 p2 => ?_
  refine hh.go W2 ((R.mono e1 p1).mono e2 p2) fun m3 S3 H3 W3 e3 p3 => ?_
  obtain ⟨p, xs, rfl, hx, hs⟩ := Dq.of_lst (Dq.mono e3 (Dq.mono e2 q1))
  exact ⟨p, xs, rfl, (.inl (Evl.ex_rd W3.sub hx)), fun q hq => (((kk.up e1 p1).up e2 p2).up e3 p3).lst W3 (hs.cut _ _) hq⟩
theorem dv_slS {lo hi : Option Expr} {ol oh : Option Int} {p2 : Pos} {x : Str} (ha : dV X c a ρ μ (.dat (.str x)) μ1) (hl : dO X c lo ρ μ1 ol μ2) (hh : dO X c hi ρ μ2 oh μ3) (hz : x.length ≤ sizeLine) : dV X c (.Subscript a (.Slice lo hi none p2) pos) ρ μ (.dat (.str (cutS x ol oh))) μ3 := .mk fun m S H σ W R Q kk => by
  refine wE_of (pe_slice sl_str pe_w (po_w lo) (po_w hi)) ?_
  refine ha m S H σ W R _ fun m1 S1 v H1 W1 e1 p1 q1 => ?_
  refine hl.go W1 (R.mono e1 p1) fun m2 S2 H2 W2 e2 p2 => ?_
  refine hh.go W2 ((R.mono e1 p1).mono e2 p2) fun m3 S3 H3 W3 e3 p3 => ?_
  exact ⟨x, Dq.of_str q1, hz, (((kk.up e1 p1).up e2 p2).up e3 p3).now W3 (.str _)⟩
end
end Dr
set_option maxHeartbeats 4000000
namespace Dr
open PySem PySem.Spec PyProof.Rows L2
/-! ### worlds, one after the other -/
section
variable {P : Program} {w : World} {K : PySem.W.Frag} {c : Ct} {μ μ' ν : List Mo} {m m' : List Addr} {S S' H H' : Hp}
theorem MoOk.trans (A : MoOk P w K c μ m S H) (B : MoOk P w K ⟨H, S, m⟩ μ' m' S' H') : MoOk P w K c μ' m' S' H' where
  ex0 := A.ex0.trans B.ex0
  sub := B.sub
  new := fun b o q => by
    rcases B.new b o q with z | z
    · exact A.new b o z
    · exact .inr (A.free z).2.2.2.1
  old := fun b o hb q => B.old b o (fun z => by
    rcases A.fr b z with r | r
    · exact hb r
    · rw [r] at q; cases q) (A.old b o hb q)
  pre := A.pre.trans B.pre
  nd := B.nd
  fr := fun a ha => by
    rcases B.fr a ha with z | z
    · exact A.fr a z
    · exact .inr (A.free z).2.2.2.1
  out := B.out
  len := B.len
  obj := B.obj
theorem MoOk.self (A : MoOk P w K c μ m S H) : MoOk P w K ⟨H, S, m⟩ μ m S H := .start A.sub A.nd A.out A.len A.obj
/-- a call's world: the first ones alone -/
theorem MoOk.part (A : MoOk P w K c (μ ++ ν) m S H) : MoOk P w K ⟨H, S, m.take μ.length⟩ μ (m.take μ.length) S H := by
  have hl : μ.length ≤ m.length := by have := A.len; rw [List.length_append] at this; omega
  refine .start A.sub (A.nd.sublist (List.take_sublist _ _)) (fun a h => A.out a (List.mem_of_mem_take h)) (by rw [List.length_take, Nat.min_eq_left hl]) (fun k a o h1 h2 => ?_)
  have hk : k < μ.length := (List.getElem?_eq_some_iff.mp h2).1
  rw [List.getElem?_take_of_lt hk] at h1
  exact A.obj k a o h1 (by rw [List.getElem?_append_left hk]; exact h2)
theorem MoOk.whole (A : MoOk P w K c (μ ++ ν) m S H) (B : MoOk P w K ⟨H, S, m.take μ.length⟩ μ' m' S' H') (hl : μ'.length = μ.length) : MoOk P w K c (μ' ++ ν) m S' H' ∧ m' = m.take μ.length := by
  have hl0 : μ.length ≤ m.length := by have := A.len; rw [List.length_append] at this; omega
  have em : m' = m.take μ.length := by
    obtain ⟨t, e⟩ := B.pre
    have h1 : m'.length = (m.take μ.length).length := by rw [← B.len, hl, List.length_take, Nat.min_eq_left hl0]
    have h2 : t = [] := by
      have : ((m.take μ.length) ++ t).length = (m.take μ.length).length := by
        show ((⟨H, S, m.take μ.length⟩ : Ct).m0 ++ t).length = _
        rw [e]; exact h1
      rw [List.length_append] at this
      exact List.eq_nil_of_length_eq_zero (by omega)
    rw [h2, List.append_nil] at e
    exact e.symm
  subst em
  refine ⟨⟨A.ex0.trans B.ex0, B.sub, fun b o q => ?_, fun b o hb q => ?_, A.pre, A.nd, A.fr, fun a ha => ?_, by rw [List.length_append, hl, ← List.length_append]; exact A.len, fun k a o h1 h2 => ?_⟩, rfl⟩
  · rcases B.new b o q with z | z
    · exact A.new b o z
    · exact .inr (A.free z).2.2.2.1
  · refine B.old b o (fun z => ?_) (A.old b o hb q)
    rcases A.fr b (List.mem_of_mem_take z) with r | r
    · exact hb r
    · rw [r] at q; cases q
  · cases q : S' a with
    | none => rfl
    | some o =>
      rcases B.new a o q with z | z
      · have z : S a = some o := z
        rw [A.out a ha] at z; cases z
      · obtain ⟨u, e⟩ := A.here ha
        have z : H a = none := z
        rw [z] at e; cases e
  · by_cases hk : k < μ.length
    · rw [List.getElem?_append_left (by omega)] at h2
      exact B.obj k a o (by rw [List.getElem?_take_of_lt hk]; exact h1) h2
    · have hk2 : μ'.length ≤ k := by omega
      rw [List.getElem?_append_right hk2] at h2
      have h3 : (μ ++ ν)[k]? = some o := by rw [List.getElem?_append_right (by omega), ← hl]; exact h2
      have hna : a ∉ m.take μ.length := fun z => by
        obtain ⟨j, hj, e⟩ := List.mem_iff_getElem.mp z
        have hj2 : j < μ.length := by rw [List.length_take] at hj; omega
        have e1 : m[j]? = some a := by rw [← List.getElem?_take_of_lt hj2, List.getElem?_eq_getElem hj, e]
        have := (List.getElem?_inj (List.getElem?_eq_some_iff.mp e1).1 A.nd).mp (e1.trans h1.symm)
        omega
      exact (A.obj k a o h1 h3).mono B.ex0 fun u q => B.old a u hna q
/-- a call that gives back a new object -/
theorem MoOk.more (A : MoOk P w K c μ m S H) (B : MoOk P w K ⟨H, S, []⟩ μ' m' S' H') : MoOk P w K c (μ ++ μ') (m ++ m') S' H' := by
  have fresh : ∀ a, a ∈ m' → H a = none := fun a ha => by
    rcases B.fr a ha with z | z
    · exact absurd z (by simp)
    · exact z
  refine ⟨A.ex0.trans B.ex0, B.sub, fun b o q => ?_, fun b o hb q => B.old b o (by simp) (A.old b o hb q), A.pre.trans (List.prefix_append _ _), ?_, fun a ha => ?_, fun a ha => ?_, by rw [List.length_append, List.length_append, A.len, B.len], fun k a o h1 h2 => ?_⟩
  · rcases B.new b o q with z | z
    · exact A.new b o z
    · exact .inr (A.free z).2.2.2.1
  · rw [List.nodup_append]
    exact ⟨A.nd, B.nd, fun a ha b hb e => by subst e; obtain ⟨u, q⟩ := A.here ha; rw [fresh a hb] at q; cases q⟩
  · rcases List.mem_append.mp ha with z | z
    · exact A.fr a z
    · exact .inr (A.free (fresh a z)).2.2.2.1
  · rcases List.mem_append.mp ha with z | z
    · cases q : S' a with
      | none => rfl
      | some o =>
        rcases B.new a o q with r | r
        · have r : S a = some o := r
          rw [A.out a z] at r; cases r
        · obtain ⟨u, e⟩ := A.here z
          have r : H a = none := r
          rw [r] at e; cases e
    · exact B.out a z
  · by_cases hk : k < m.length
    · rw [List.getElem?_append_left hk] at h1
      rw [List.getElem?_append_left (A.len ▸ hk)] at h2
      exact (A.obj k a o h1 h2).mono B.ex0 fun u q => B.old a u (by simp) q
    · rw [List.getElem?_append_right (by omega)] at h1
      rw [List.getElem?_append_right (by rw [A.len]; omega), A.len] at h2
      exact B.obj _ a o h1 h2
end
/-! ### statements -/
inductive Out where
  | nx (ρ : List Sl) (μ : List Mo)
  | rt (s : Sl) (μ : List Mo)
  | bk (ρ : List Sl) (μ : List Mo)
  | ct (ρ : List Sl) (μ : List Mo)
def KS (X : Cx) (c : Ct) (S : Hp) (m : List Addr) (D : Ends) : Out → Prop
  | .nx ρ' μ' => ∀ m' S' σ' H', Wd X c μ' m' S' H' → Ex S S' → m <+: m' → SlOk X.K S' m' σ' ρ' → D.nx σ' H'
  | .rt s μ' => ∀ m' S' v H', Wd X c μ' m' S' H' → Ex S S' → SlV X.K S' m' v s → D.rt v H'
  | .bk ρ' μ' => ∀ m' S' σ' H', Wd X c μ' m' S' H' → Ex S S' → m <+: m' → SlOk X.K S' m' σ' ρ' → D.bk σ' H'
  | .ct ρ' μ' => ∀ m' S' σ' H', Wd X c μ' m' S' H' → Ex S S' → m <+: m' → SlOk X.K S' m' σ' ρ' → D.ct σ' H'
theorem KS.up {X : Cx} {c : Ct} {S S1 : Hp} {m m1 : List Addr} {D : Ends} {o : Out} (k : KS X c S m D o) (e : Ex S S1) (em : m <+: m1) : KS X c S1 m1 D o := by
  cases o with
  | nx ρ' μ' => exact fun m' S' v H' W e2 em2 r => k m' S' v H' W (e.trans e2) (em.trans em2) r
  | rt s μ' => exact fun m' S' v H' W e2 r => k m' S' v H' W (e.trans e2) r
  | bk ρ' μ' => exact fun m' S' v H' W e2 em2 r => k m' S' v H' W (e.trans e2) (em.trans em2) r
  | ct ρ' μ' => exact fun m' S' v H' W e2 em2 r => k m' S' v H' W (e.trans e2) (em.trans em2) r
structure dX (X : Cx) (c : Ct) (st : Stmt) (ρ : List Sl) (μ : List Mo) (o : Out) : Prop where
  run : ∀ m S H σ, Wd X c μ m S H → SlOk X.K S m σ ρ → ∀ D : Ends, KS X c S m D o → wS X st D σ H
instance {X : Cx} {c : Ct} {st : Stmt} {ρ : List Sl} {μ : List Mo} {o : Out} : CoeFun (dX X c st ρ μ o) (fun _ => ∀ m S H σ, Wd X c μ m S H → SlOk X.K S m σ ρ → ∀ D : Ends, KS X c S m D o → wS X st D σ H) := ⟨dX.run⟩
structure dXs (X : Cx) (c : Ct) (st : List Stmt) (ρ : List Sl) (μ : List Mo) (o : Out) : Prop where
  run : ∀ m S H σ, Wd X c μ m S H → SlOk X.K S m σ ρ → ∀ D : Ends, KS X c S m D o → wSs X st D σ H
instance {X : Cx} {c : Ct} {st : List Stmt} {ρ : List Sl} {μ : List Mo} {o : Out} : CoeFun (dXs X c st ρ μ o) (fun _ => ∀ m S H σ, Wd X c μ m S H → SlOk X.K S m σ ρ → ∀ D : Ends, KS X c S m D o → wSs X st D σ H) := ⟨dXs.run⟩
def wG (X : Cx) (tg : Expr) : TG := fun v σ H Q => ∀ (pins : List (Addr × Obj)) (s : Shared) (u : Value), Inv X pins σ H s → RelV v u → wpAny (model X.prog X.w) X.A (assign tg X.env u) (fun _ s' => ∃ σ' H', Inv X pins σ' H' s' ∧ Q σ' H') X.xe s
theorem pg_w {X : Cx} {tg : Expr} : PG X tg (wG X tg) := ⟨fun pins s σ H v u Q I r h => h pins s u I r⟩
theorem wG_of {X : Cx} {tg : Expr} {t : TG} (h : PG X tg t) {v : V} {σ : L2.St} {H : Hp} {Q : L2.St → Hp → Prop} (q : t v σ H Q) : wG X tg v σ H Q := fun pins s u I r => h.run pins s σ H v u Q I r q
structure dG (X : Cx) (tg : Expr) (s : Sl) (ρ ρ' : List Sl) : Prop where
  run : ∀ m S H σ v, Ex S H → SlOk X.K S m σ ρ → SlV X.K S m v s → ∀ Q : L2.St → Hp → Prop, (∀ σ', SlOk X.K S m σ' ρ' → Q σ' H) → wG X tg v σ H Q
instance {X : Cx} {tg : Expr} {s : Sl} {ρ ρ' : List Sl} : CoeFun (dG X tg s ρ ρ') (fun _ => ∀ m S H σ v, Ex S H → SlOk X.K S m σ ρ → SlV X.K S m v s → ∀ Q : L2.St → Hp → Prop, (∀ σ', SlOk X.K S m σ' ρ' → Q σ' H) → wG X tg v σ H Q) := ⟨dG.run⟩
def Fg : List Sl → List Sl → Prop
  | [], [] => True
  | s :: r, t :: q => (t = .no ∨ t = s) ∧ Fg r q
  | _, _ => False
theorem Fg.refl : ∀ ρ : List Sl, Fg ρ ρ
  | [] => trivial
  | _ :: r => ⟨.inr rfl, Fg.refl r⟩
theorem Fg.at : ∀ {ρ ρ' : List Sl}, Fg ρ ρ' → ρ'.length = ρ.length ∧ ∀ (i : Nat) (s : Sl), ρ'[i]? = some s → s = .no ∨ ρ[i]? = some s
  | [], [], _ => ⟨rfl, fun i s h => by simp at h⟩
  | s :: r, t :: q, h => by
    obtain ⟨h1, h2⟩ := Fg.at h.2
    refine ⟨by simp [h1], fun i u e => ?_⟩
    cases i with
    | zero =>
      have e : t = u := by simpa using e
      subst e
      rcases h.1 with z | z
      · exact .inl z
      · exact .inr (by simp [z])
    | succ i => exact h2 i u (by simpa using e)
theorem SlOk.fg {K : PySem.W.Frag} {S : Hp} {m : List Addr} {σ : L2.St} {ρ ρ' : List Sl} (h : SlOk K S m σ ρ) (f : Fg ρ ρ') : SlOk K S m σ ρ' := by
  obtain ⟨h1, h2⟩ := f.at
  exact ⟨h1.trans h.len, fun i s e => (h2 i s e).elim .inl fun z => h.at_ i s z⟩
section
variable {X : Cx} {c : Ct} {ρ ρ1 ρ2 : List Sl} {μ μ1 μ2 μ3 : List Mo} {s s1 s2 s3 : Sl} {a b e t tg : Expr} {es rest : List Expr} {st : Stmt} {sts body orelse : List Stmt} {pos : Pos} {k k1 k2 : Bool} {d : PyData} {ds : List PyData} {o : Out}
theorem dxs_nil : dXs X c [] ρ μ (.nx ρ μ) := .mk fun m S H σ W R D kk => wSs_of pss_nil (kk m S σ H W (Evl.Ex.refl S) (List.prefix_refl m) R)
theorem dxs_cons (h1 : dX X c st ρ μ (.nx ρ1 μ1)) (h2 : dXs X c sts ρ1 μ1 o) : dXs X c (st :: sts) ρ μ o := .mk fun m S H σ W R D kk => by
  refine wSs_of (pss_cons ps_w pss_w) ?_
  exact h1 m S H σ W R _ fun m1 S1 σ1 H1 W1 e1 p1 R1 => h2 m1 S1 H1 σ1 W1 R1 D (kk.up e1 p1)
theorem dxs_one (h1 : dX X c st ρ μ o) : dXs X c [st] ρ μ o := .mk fun m S H σ W R D kk => by
  refine wSs_of (pss_one ps_w) ?_
  exact h1 m S H σ W R D kk
/-- a return (a break, a continue): what stands behind it is not reached -/
def Out.stops : Out → Prop
  | .nx _ _ => False
  | _ => True
theorem dxs_stop (h1 : dX X c st ρ μ o) (ho : o.stops) : dXs X c (st :: sts) ρ μ o := .mk fun m S H σ W R D kk => by
  refine wSs_of (pss_cons ps_w pss_never) ?_
  refine h1 m S H σ W R _ ?_
  cases o with
  | nx ρ μ => exact (show False from ho).elim
  | rt s μ => exact kk
  | bk ρ μ => exact kk
  | ct ρ μ => exact kk
theorem dx_ret (h : dV X c e ρ μ s μ1) : dX X c (.Return (some e) pos) ρ μ (.rt s μ1) := .mk fun m S H σ W R D kk => by
  refine wS_of (ps_ret pe_w) ?_
  exact h m S H σ W R _ fun m1 S1 v H1 W1 e1 _ r1 => kk m1 S1 v H1 W1 e1 r1
theorem dx_retIs (h : dV X c e ρ μ s μ1) (es : s = s1) : dX X c (.Return (some e) pos) ρ μ (.rt s1 μ1) := es ▸ dx_ret h
theorem dx_brk : dX X c (.Break pos) ρ μ (.bk ρ μ) := .mk fun m S H σ W R D kk => wS_of ps_break (kk m S σ H W (Evl.Ex.refl S) (List.prefix_refl m) R)
theorem dx_pass : dX X c (.Pass pos) ρ μ (.nx ρ μ) := .mk fun m S H σ W R D kk => wS_of ps_pass (kk m S σ H W (Evl.Ex.refl S) (List.prefix_refl m) R)
theorem dx_expr (h : dV X c e ρ μ s μ1) (hs : swapsWith e none pos.line X.env = pure false := by rfl) : dX X c (.Expr e pos) ρ μ (.nx ρ μ1) := .mk fun m S H σ W R D kk => by
  refine wS_of (ps_expr pe_w hs) ?_
  exact h m S H σ W R _ fun m1 S1 v H1 W1 e1 p1 q1 => kk m1 S1 σ H1 W1 e1 p1 (R.mono e1 p1)
theorem dg_name {x : Str} {i : Nat} (hN : X.N.Nodup) (hi : X.N[i]? = some x := by rfl) (hx : Loc X.env.scope x := by first | exact Or.inl rfl | exact Or.inr rfl) (hf : X.fn x = true ∨ X.env.scope.names.lookup x = some .local := by first | exact .inl rfl | exact .inr rfl | assumption) :
    dG X (.Name x pos) s ρ (ρ.set i s) := .mk fun m S H σ v eS R r Q k => wG_of (pg_name hN hi hx hf) (k _ (R.set r))
/-- names of a tuple target -/
def dGs (X : Cx) (ts : List Expr) (ss : List Sl) (ρ ρ' : List Sl) : Prop :=
  ∃ t : TGs, PGs X ts t ∧ ∀ m S H σ vs, Ex S H → SlOk X.K S m σ ρ → SlVs X.K S m vs ss → ∀ Q : L2.St → Hp → Prop, (∀ σ', SlOk X.K S m σ' ρ' → Q σ' H) → t vs σ H Q
theorem dgs_nil : dGs X [] [] ρ ρ := ⟨_, pgs_nil, fun m S H σ vs eS R r Q k => by cases r; exact ⟨rfl, k σ R⟩⟩
theorem dgs_cons {ts : List Expr} {ss : List Sl} (h1 : dG X t s ρ ρ1) (h2 : dGs X ts ss ρ1 ρ2) (hs : (assignEach (t :: ts) X.env).map (·.2) = assign t X.env :: (assignEach ts X.env).map (·.2) := by rfl) : dGs X (t :: ts) (s :: ss) ρ ρ2 := by
  obtain ⟨u, hu, k2⟩ := h2
  refine ⟨_, pgs_cons pg_w hu hs, fun m S H σ vs eS R r Q k => ?_⟩
  cases r with
  | cons r rr => exact ⟨_, _, rfl, h1 m S H σ _ eS R r _ fun σ1 R1 => k2 m S H σ1 _ eS R1 rr Q k⟩
theorem dat_slVs {K : PySem.W.Frag} {S : Hp} {m : List Addr} : ∀ {vs : List V} {ds : List PyData}, DqA K S vs ds → SlVs K S m vs (ds.map Sl.dat)
  | _, [], .nil => .nil
  | _, _ :: _, .cons h hs => .cons h (dat_slVs hs)
theorem dg_tup {ts : List Expr} {n : Nat} (hc : X.calm = true) (h : dGs X ts (ds.map Sl.dat) ρ ρ1) (hn : (assignEach ts X.env).length = ds.length := by rfl) (hst : (assignEach ts X.env).findIdx? (·.1) = none := by rfl) :
    dG X (.Tuple ts n pos) (.dat (.tuple ds)) ρ ρ1 := by
  obtain ⟨u, hu, k1⟩ := h
  refine .mk fun m S H σ v eS R r Q k => ?_
  refine wG_of (pg_tup hc hu hn hst) ?_
  obtain ⟨p, xs, rfl, hx, hs⟩ := Dq.of_tup r
  exact ⟨p, xs, rfl, Evl.ex_t eS hx, hs.length, k1 m S H σ xs eS R (dat_slVs hs) Q k⟩
theorem dx_asg (h : dV X c e ρ μ s μ1) (hg : dG X tg s ρ ρ1) (hs : swapsWithSole [tg] e pos.line X.env = pure false := by rfl) (hw : swappedStores [tg] e X.env = pure none := by rfl)
    (h1 : (assignEach [tg] X.env).map (·.2) = [assign tg X.env] := by rfl) : dX X c (.Assign [tg] e pos) ρ μ (.nx ρ1 μ1) := .mk fun m S H σ W R D kk => by
  refine wS_of (ps_asg pe_w pg_w hs hw h1) ?_
  refine h m S H σ W R _ fun m1 S1 v H1 W1 e1 p1 q1 => ?_
  exact hg m1 S1 H1 σ v W1.sub (R.mono e1 p1) q1 _ fun σ1 R1 => kk m1 S1 σ1 H1 W1 e1 p1 R1
/-- name = value -/
theorem dx_set {x : Str} {i : Nat} {pos' : Pos} (h : dV X c e ρ μ s μ1) (hN : X.N.Nodup) (hi : X.N[i]? = some x := by rfl) (hx : Loc X.env.scope x := by first | exact Or.inl rfl | exact Or.inr rfl) (hs : swapsWith e (some (.Name x pos')) pos.line X.env = pure false := by rfl)
    (hf : X.fn x = true ∨ X.env.scope.names.lookup x = some .local := by first | exact .inl rfl | exact .inr rfl | assumption) : dX X c (.Assign [.Name x pos'] e pos) ρ μ (.nx (ρ.set i s) μ1) := .mk fun m S H σ W R D kk => by
  refine wS_of (ps_set hN hi hx pe_w hs hf) ?_
  exact h m S H σ W R _ fun m1 S1 v H1 W1 e1 p1 q1 => kk m1 S1 _ H1 W1 e1 p1 ((R.mono e1 p1).set q1)
/-- a, b = e1, e2 -/
theorem dx_par {x y : Str} {i j : Nat} {px py pt : Pos} {kt k2 pt2} {ss : List Sl} (hc : X.calm = true) (hN : X.N.Nodup) (h : dA X c [a, b] ρ μ [s1, s2] μ1) (hi : X.N[i]? = some x := by rfl) (hj : X.N[j]? = some y := by rfl) (hij : i ≠ j := by decide)
    (hlx : X.env.scope.names.lookup x = some .local := by rfl) (hly : X.env.scope.names.lookup y = some .local := by rfl) (hw : swappedStores [.Tuple [.Name x px, .Name y py] kt pt] (.Tuple [a, b] k2 pt2) X.env = pure none ∨ True := by exact Or.inr trivial) :
    ∀ {st : Stmt}, PS X st (tPar i j (wA X [a, b])) → dX X c st ρ μ (.nx ((ρ.set i s1).set j s2) μ1) := fun {st} hp => .mk fun m S H σ W R D kk => by
  refine wS_of hp ?_
  refine h m S H σ W R _ fun m1 S1 vs H1 W1 e1 p1 q1 => ?_
  cases q1 with
  | cons r1 q1 =>
    cases q1 with
    | cons r2 q1 =>
      cases q1
      exact ⟨_, _, rfl, kk m1 S1 _ H1 W1 e1 p1 (((R.mono e1 p1).set r1).set r2)⟩
theorem dx_if (h : dT X c t ρ μ k μ1) (h1 : k = true → dXs X c body ρ μ1 o) (h2 : k = false → dXs X c orelse ρ μ1 o) : dX X c (.If t body orelse pos) ρ μ o := .mk fun m S H σ W R D kk => by
  refine wS_of (ps_if pt_w pss_w pss_w) ?_
  refine h m S H σ W R _ fun m1 S1 H1 W1 e1 p1 => ?_
  cases k with
  | true => exact iteT (h1 rfl m1 S1 H1 σ W1 (R.mono e1 p1) _ (kk.up e1 p1))
  | false => exact iteF (h2 rfl m1 S1 H1 σ W1 (R.mono e1 p1) _ (kk.up e1 p1))
/-- an if that leaves, then the rest -/
theorem dxs_guard (h : dT X c t ρ μ k μ1) (h1 : k = true → dXs X c body ρ μ1 o ∧ o.stops) (h2 : k = false → dXs X c sts ρ μ1 o) : dXs X c (.If t body [] pos :: sts) ρ μ o := by
  cases k with
  | true => exact dxs_stop (dx_if h (fun _ => (h1 rfl).1) (fun z => by cases z)) (h1 rfl).2
  | false => exact dxs_cons (dx_if h (fun z => by cases z) (fun _ => dxs_nil)) (h2 rfl)
theorem dx_fg (h : dX X c st ρ μ (.nx ρ1 μ1)) (f : Fg ρ1 ρ2) : dX X c st ρ μ (.nx ρ2 μ1) := .mk fun m S H σ W R D kk =>
  h m S H σ W R D fun m1 S1 σ1 H1 W1 e1 p1 R1 => kk m1 S1 σ1 H1 W1 e1 p1 (R1.fg f)
theorem dxs_fg (h : dXs X c sts ρ μ (.nx ρ1 μ1)) (f : Fg ρ1 ρ2) : dXs X c sts ρ μ (.nx ρ2 μ1) := .mk fun m S H σ W R D kk =>
  h m S H σ W R D fun m1 S1 σ1 H1 W1 e1 p1 R1 => kk m1 S1 σ1 H1 W1 e1 p1 (R1.fg f)
/-! ### what is walked -/
structure ItOk (X : Cx) (J : It) (m : List Addr) (S : Hp) (Pm : List Mo → Prop) (ds : List PyData) : Prop where
  go : ∀ (c : Ct) (μ : List Mo) (m2 : List Addr) (S2 H2 : Hp) (i : Nat) (d : PyData), Wd X c μ m2 S2 H2 → Ex S S2 → m <+: m2 → Pm μ → ds[i]? = some d → J.go i H2 ∧ ∀ x H', J.yld i H2 x H' → ∃ S', Wd X ⟨H2, S2, m2⟩ μ m2 S' H' ∧ Dq X.K S' x d
  stop : ∀ (c : Ct) (μ : List Mo) (m2 : List Addr) (S2 H2 : Hp) (i : Nat), Wd X c μ m2 S2 H2 → Ex S S2 → m <+: m2 → Pm μ → ds.length ≤ i → J.stop i H2
def dI (X : Cx) (c : Ct) (tg iter : Expr) (ρ : List Sl) (μ : List Mo) (Pm : List Mo → Prop) (ds : List PyData) (μ1 : List Mo) : Prop :=
  ∃ wi : TI, PI X tg iter wi ∧ ∀ m S H σ, Wd X c μ m S H → SlOk X.K S m σ ρ → ∀ R : It → Hp → Prop, (∀ J m' S' H', Wd X c μ1 m' S' H' → Ex S S' → m <+: m' → ItOk X J m' S' Pm ds → R J H') → wi σ H R
theorem sqL_inj {K : PySem.W.Frag} {H : Hp} {a : Addr} {xs ys : List V} (h1 : H a = some (.lst xs)) (h2 : H a = some (.lst ys)) : xs = ys := by rw [h1] at h2; cases h2; rfl
end
end Dr
set_option maxHeartbeats 4000000
namespace Dr
open PySem PySem.Spec PyProof.Rows L2
section
variable {X : Cx} {c : Ct} {ρ ρ1 ρ2 : List Sl} {μ μ1 μ2 μ3 : List Mo} {s s1 s2 s3 : Sl} {a b e t tg iter : Expr} {es rest : List Expr} {st : Stmt} {sts body orelse : List Stmt} {pos : Pos} {k k1 k2 : Bool} {d : PyData} {ds : List PyData} {o : Out}
/-! ### sources -/
theorem SqL.inj {pins : List (Addr × Obj)} {σ : L2.St} {H : Hp} {s : Shared} (I : Inv X pins σ H s) {a : Addr} {xs ys : List V} (h1 : SqL X.K H a xs) (h2 : SqL X.K H a ys) : xs = ys := I.list_inj h1 h2
/-- a list, data -/
theorem di_lst (h : dV X c iter ρ μ (.dat (.list ds)) μ1) : dI X c tg iter ρ μ (fun _ => True) ds μ1 := by
  refine ⟨_, pi_list pe_w, fun m S H σ W R RR kk => ?_⟩
  refine h m S H σ W R _ fun m1 S1 v H1 W1 e1 p1 q1 => ?_
  obtain ⟨p, xs, rfl, hx, hs⟩ := Dq.of_lst q1
  refine ⟨p, rfl, ⟨xs, .inl (Evl.ex_rd W1.sub hx)⟩, kk _ m1 S1 H1 W1 e1 p1 ⟨fun c μ m2 S2 H2 i d W2 e2 p2 _ hd => ?_, fun c μ m2 S2 H2 i W2 e2 p2 _ hl => ?_⟩⟩
  · have hx2 : SqL X.K H2 p xs := .inl (Evl.ex_rd W2.sub (Evl.ex_rd e2 hx))
    obtain ⟨v, hv, hq⟩ := hs.at hd
    refine ⟨⟨xs, v, hx2, hv⟩, fun x H' hy => ?_⟩
    obtain ⟨rfl, hy⟩ := hy
    have hv2 := hy xs hx2
    rw [hv] at hv2; cases hv2
    exact ⟨S2, W2.self, hq.mono e2⟩
  · exact ⟨xs, .inl (Evl.ex_rd W2.sub (Evl.ex_rd e2 hx)), by rw [hs.length]; exact hl⟩
theorem di_tup (h : dV X c iter ρ μ (.dat (.tuple ds)) μ1) : dI X c tg iter ρ μ (fun _ => True) ds μ1 := by
  refine ⟨_, pi_tup pe_w, fun m S H σ W R RR kk => ?_⟩
  refine h m S H σ W R _ fun m1 S1 v H1 W1 e1 p1 q1 => ?_
  obtain ⟨p, xs, rfl, hx, hs⟩ := Dq.of_tup q1
  refine ⟨p, rfl, ⟨xs, Evl.ex_t W1.sub hx⟩, kk _ m1 S1 H1 W1 e1 p1 ⟨fun c μ m2 S2 H2 i d W2 e2 p2 _ hd => ?_, fun c μ m2 S2 H2 i W2 e2 p2 _ hl => ?_⟩⟩
  · have hx2 : SqT X.K H2 p xs := Evl.ex_t W2.sub (Evl.ex_t e2 hx)
    obtain ⟨v, hv, hq⟩ := hs.at hd
    refine ⟨⟨xs, v, hx2, hv⟩, fun x H' hy => ?_⟩
    obtain ⟨rfl, hy⟩ := hy
    have hv2 := hy xs hx2
    rw [hv] at hv2; cases hv2
    exact ⟨S2, W2.self, hq.mono e2⟩
  · exact ⟨xs, Evl.ex_t W2.sub (Evl.ex_t e2 hx), by rw [hs.length]; exact hl⟩
/-- a list that is owned, and stands still meanwhile -/
theorem di_own {j : Nat} (h : dV X c iter ρ μ (.own j) μ1) (hj : μ1[j]? = some (.lst ds)) : dI X c tg iter ρ μ (fun ν => ν[j]? = some (.lst ds)) ds μ1 := by
  refine ⟨_, pi_list pe_w, fun m S H σ W R RR kk => ?_⟩
  refine h m S H σ W R _ fun m1 S1 v H1 W1 e1 p1 q1 => ?_
  obtain ⟨p, hp, rfl⟩ := q1
  obtain ⟨xs, hx, hs⟩ := W1.lst hp hj
  refine ⟨p, rfl, ⟨xs, Evl.sq_of hx⟩, kk _ m1 S1 H1 W1 e1 p1 ⟨fun c ν m2 S2 H2 i d W2 e2 p2 hm hd => ?_, fun c ν m2 S2 H2 i W2 e2 p2 hm hl => ?_⟩⟩
  all_goals
    have hp2 : m2[j]? = some p := by
      obtain ⟨tl, rfl⟩ := p2
      rw [List.getElem?_append_left (List.getElem?_eq_some_iff.mp hp).1]; exact hp
    obtain ⟨xs2, hx2, hs2⟩ := W2.lst hp2 hm
  · obtain ⟨v, hv, hq⟩ := hs2.at hd
    refine ⟨⟨xs2, v, Evl.sq_of hx2, hv⟩, fun x H' hy => ?_⟩
    obtain ⟨rfl, hy⟩ := hy
    have hv2 := hy xs2 (Evl.sq_of hx2)
    rw [hv] at hv2; cases hv2
    exact ⟨S2, W2.self, hq⟩
  · exact ⟨xs2, Evl.sq_of hx2, by rw [hs2.length]; exact hl⟩
def rng (lo : Int) (n : Nat) : List PyData := (List.range n).map fun (i : Nat) => PyData.int (lo + (i : Int))
theorem rng_at {lo : Int} {n i : Nat} {d : PyData} : (rng lo n)[i]? = some d ↔ i < n ∧ d = .int (lo + (i : Int)) := by
  unfold rng
  rw [List.getElem?_map]
  by_cases h : i < n
  · rw [List.getElem?_range h]; simp [h]; exact eq_comm
  · rw [List.getElem?_eq_none (by simpa using h)]; simp [h]
theorem rng_len {lo : Int} {n : Nat} : (rng lo n).length = n := by unfold rng; simp
theorem it_rng (X : Cx) (m : List Addr) (S : Hp) (lo : Int) (n : Nat) : ItOk X (Itr lo n) m S (fun _ => True) (rng lo n) :=
  ⟨fun c μ m2 S2 H2 i d W2 e2 p2 _ hd => by
    obtain ⟨h1, rfl⟩ := rng_at.mp hd
    refine ⟨h1, fun x H' hy => ?_⟩
    obtain ⟨rfl, rfl⟩ := hy
    exact ⟨S2, W2.self, .int _⟩, fun c μ m2 S2 H2 i W2 e2 p2 _ hl => by rw [rng_len] at hl; exact hl⟩
theorem di_rng1 {p : Pos} {j : Int} (hm : X.mg "range" = none) (h : dV X c a ρ μ (.dat (.int j)) μ1) (hj : -1000000000 ≤ j ∧ j ≤ 1000000000) (hg : Gl X "range" := by rfl) (hs : starEach [a] X.env = [(false, eval a X.env)] := by rfl) :
    dI X c tg (.Call (.Name "range" p) [a] [] pos) ρ μ (fun _ => True) (rng 0 j.toNat) μ1 := by
  refine ⟨_, pi_range1 hg hm (pa_cons pe_w pa_nil (by rw [hs]; rfl)) hs, fun m S H σ W R RR kk => ?_⟩
  refine h m S H σ W R _ fun m1 S1 v H1 W1 e1 p1 q1 => ?_
  obtain rfl := Dq.of_int q1
  exact ⟨j, rfl, by omega, by omega, kk _ m1 S1 H1 W1 e1 p1 (it_rng X m1 S1 0 j.toNat)⟩
theorem di_rng2 {p : Pos} {i j : Int} (hm : X.mg "range" = none) (h : dV X c a ρ μ (.dat (.int i)) μ1) (h' : dV X c b ρ μ1 (.dat (.int j)) μ2) (hj : -1000000000 ≤ i ∧ i ≤ 1000000000 ∧ -1000000000 ≤ j ∧ j ≤ 1000000000) (hg : Gl X "range" := by rfl) (hs : starEach [a, b] X.env = [(false, eval a X.env), (false, eval b X.env)] := by rfl) (hs2 : starEach [b] X.env = [(false, eval b X.env)] := by rfl) :
    dI X c tg (.Call (.Name "range" p) [a, b] [] pos) ρ μ (fun _ => True) (rng i (j - i).toNat) μ2 := by
  refine ⟨_, pi_range2 hg hm (pa_cons pe_w (pa_cons pe_w pa_nil (by rw [hs2]; rfl)) (by rw [hs, hs2])) hs hs2, fun m S H σ W R RR kk => ?_⟩
  refine h m S H σ W R _ fun m1 S1 v H1 W1 e1 p1 q1 => ?_
  refine h' m1 S1 H1 σ W1 (R.mono e1 p1) _ fun m2 S2 v2 H2 W2 e2 p2 q2 => ?_
  obtain rfl := Dq.of_int q1
  obtain rfl := Dq.of_int q2
  exact ⟨i, j, rfl, ⟨by omega, by omega, by omega, by omega⟩, kk _ m2 S2 H2 W2 (e1.trans e2) (p1.trans p2) (it_rng X m2 S2 i _)⟩
/-! ### for -/
def TurnO (J : List Sl → List Mo → Prop) (o : Out) : Out → Prop
  | .nx ρ μ => ∃ ρ', Fg ρ ρ' ∧ J ρ' μ
  | .ct ρ μ => ∃ ρ', Fg ρ ρ' ∧ J ρ' μ
  | .bk ρ μ => ∃ ρ', Fg ρ ρ' ∧ o = .nx ρ' μ
  | .rt s μ => o = .rt s μ
theorem dx_for {Pm : List Mo → Prop} (hc : X.calm = true) (hp : PassesOwn (model X.prog X.w) X.A X.env X.xe) (hi : dI X c tg iter ρ μ Pm ds μ1) (J : Nat → List Sl → List Mo → Prop) (h0 : J 0 ρ μ1) (hP : ∀ i ρ1 μ', J i ρ1 μ' → Pm μ')
    (hs : ∀ i d ρ1 μ', ds[i]? = some d → J i ρ1 μ' → ∃ ρ2 o', dG X tg (.dat d) ρ1 ρ2 ∧ dXs X c body ρ2 μ' o' ∧ TurnO (J (i + 1)) o o') (hd : ∀ ρ1 μ', J ds.length ρ1 μ' → ∃ ρ2, Fg ρ1 ρ2 ∧ o = .nx ρ2 μ')
    (hf : ∀ x, foldedSetIterable iter X.env x = pure x := by intro _; rfl) : dX X c (.For tg iter body [] pos) ρ μ o := by
  obtain ⟨wi, hwi, hk⟩ := hi
  refine .mk fun m S H σ W R D kk => wS_of (ps_for hp hc hwi pg_w pss_w hf) ?_
  refine hk m S H σ W R _ fun It m1 S1 H1 W1 e1 p1 hIt => ?_
  let Wv : Nat → Nat → L2.St → Hp → Prop := fun i n σ H => n = ds.length - i ∧ i ≤ ds.length ∧ ∃ ρ' μ' m' S', J i ρ' μ' ∧ Wd X c μ' m' S' H ∧ SlOk X.K S' m' σ ρ' ∧ Ex S1 S' ∧ m1 <+: m'
  refine ⟨Wv, ⟨_, rfl, Nat.zero_le _, ρ, μ1, m1, S1, h0, W1, R.mono e1 p1, Evl.Ex.refl _, List.prefix_refl _⟩, ?_⟩
  rintro i n σ' H' ⟨rfl, hle, ρ', μ', m', S', hJ, W', R', e', p'⟩
  by_cases hlt : i < ds.length
  · have hd1 : ds[i]? = some ds[i] := List.getElem?_eq_getElem hlt
    obtain ⟨g1, g2⟩ := hIt.go c μ' m' S' H' i _ W' e' p' (hP i ρ' μ' hJ) hd1
    refine .inr ⟨g1, fun σ2 H2 => Wv (i + 1) (ds.length - (i + 1)) σ2 H2, fun σ2 H2 h2 => ⟨_, by omega, h2⟩, fun x Hy hy => ?_⟩
    obtain ⟨Sy, Wy0, qy⟩ := g2 x Hy hy
    have Wy := W'.trans Wy0
    have ey : Ex S' Sy := Wy0.ex0
    obtain ⟨ρ2, o', hG, hB, hT⟩ := hs i _ ρ' μ' hd1 hJ
    refine hG m' Sy Hy σ' x Wy.sub (R'.mono ey (List.prefix_refl _)) qy _ fun σ2 R2 => ?_
    refine hB m' Sy Hy σ2 Wy R2 _ ?_
    cases o' with
    | nx ρ3 μ3 =>
      obtain ⟨ρ4, f, hJ4⟩ := hT
      exact fun m3 S3 σ3 H3 W3 e3 p3 R3 => ⟨rfl, hlt, ρ4, μ3, m3, S3, hJ4, W3, R3.fg f, (e'.trans ey).trans e3, p'.trans p3⟩
    | ct ρ3 μ3 =>
      obtain ⟨ρ4, f, hJ4⟩ := hT
      exact fun m3 S3 σ3 H3 W3 e3 p3 R3 => ⟨rfl, hlt, ρ4, μ3, m3, S3, hJ4, W3, R3.fg f, (e'.trans ey).trans e3, p'.trans p3⟩
    | bk ρ3 μ3 =>
      obtain ⟨ρ4, f, rfl⟩ := hT
      exact fun m3 S3 σ3 H3 W3 e3 p3 R3 => kk m3 S3 σ3 H3 W3 (((e1.trans e').trans ey).trans e3) ((p1.trans p').trans p3) (R3.fg f)
    | rt s3 μ3 =>
      have hT : o = .rt s3 μ3 := hT
      subst hT
      exact fun m3 S3 v H3 W3 e3 r3 => kk m3 S3 v H3 W3 (((e1.trans e').trans ey).trans e3) r3
  · have e2 : i = ds.length := by omega
    subst e2
    obtain ⟨ρ2, f, rfl⟩ := hd ρ' μ' hJ
    exact .inl ⟨hIt.stop c μ' m' S' H' _ W' e' p' (hP _ ρ' μ' hJ) (Nat.le_refl _), kk m' S' σ' H' W' (e1.trans e') (p1.trans p') (R'.fg f)⟩
/-! ### while -/
theorem dx_while (hp : PassesOwn (model X.prog X.w) X.A X.env X.xe) (J : Nat → List Sl → List Mo → Prop) (n0 : Nat) (h0 : J n0 ρ μ)
    (hs : ∀ n ρ1 μ', J n ρ1 μ' → ∃ k, dT X c t ρ1 μ' k μ' ∧ (k = true → ∃ o', dXs X c body ρ1 μ' o' ∧ TurnO (fun ρ3 μ3 => ∃ n', n' < n ∧ J n' ρ3 μ3) o o') ∧ (k = false → ∃ ρ2, Fg ρ1 ρ2 ∧ o = .nx ρ2 μ')) : dX X c (.While t body [] pos) ρ μ o := by
  refine .mk fun m S H σ W R D kk => wS_of (ps_while hp pt_w pss_w) ?_
  let Wv : Nat → L2.St → Hp → Prop := fun n σ H => ∃ ρ' μ' m' S', J n ρ' μ' ∧ Wd X c μ' m' S' H ∧ SlOk X.K S' m' σ ρ' ∧ Ex S S' ∧ m <+: m'
  refine ⟨Wv, ⟨n0, ρ, μ, m, S, h0, W, R, Evl.Ex.refl _, List.prefix_refl _⟩, ?_⟩
  rintro n σ' H' ⟨ρ', μ', m', S', hJ, W', R', e', p'⟩
  obtain ⟨b, hb, h1, h2⟩ := hs n ρ' μ' hJ
  refine hb m' S' H' σ' W' R' _ fun m1 S1 H1 W1 e1 p1 => ?_
  cases b with
  | true =>
    obtain ⟨o', hB, hT⟩ := h1 rfl
    refine iteT ⟨fun σ2 H2 => ∃ n', n' < n ∧ Wv n' σ2 H2, fun _ _ z => z, ?_⟩
    refine hB m1 S1 H1 σ' W1 (R'.mono e1 p1) _ ?_
    cases o' with
    | nx ρ3 μ3 =>
      obtain ⟨ρ4, f, n', hn, hJ4⟩ := hT
      exact fun m3 S3 σ3 H3 W3 e3 p3 R3 => ⟨n', hn, ρ4, μ3, m3, S3, hJ4, W3, R3.fg f, (e'.trans e1).trans e3, (p'.trans p1).trans p3⟩
    | ct ρ3 μ3 =>
      obtain ⟨ρ4, f, n', hn, hJ4⟩ := hT
      exact fun m3 S3 σ3 H3 W3 e3 p3 R3 => ⟨n', hn, ρ4, μ3, m3, S3, hJ4, W3, R3.fg f, (e'.trans e1).trans e3, (p'.trans p1).trans p3⟩
    | bk ρ3 μ3 =>
      obtain ⟨ρ4, f, rfl⟩ := hT
      exact fun m3 S3 σ3 H3 W3 e3 p3 R3 => kk m3 S3 σ3 H3 W3 ((e'.trans e1).trans e3) ((p'.trans p1).trans p3) (R3.fg f)
    | rt s3 μ3 =>
      have hT : o = .rt s3 μ3 := hT
      subst hT
      exact fun m3 S3 v H3 W3 e3 r3 => kk m3 S3 v H3 W3 ((e'.trans e1).trans e3) r3
  | false =>
    obtain ⟨ρ2, f, rfl⟩ := h2 rfl
    exact iteF (kk m1 S1 σ' H1 W1 (e'.trans e1) (p'.trans p1) ((R'.mono e1 p1).fg f))
end
end Dr
set_option maxHeartbeats 4000000
namespace Dr
open PySem PySem.Spec PyProof.Rows L2
section
variable {X : Cx} {c : Ct} {ρ ρ1 ρ2 : List Sl} {μ μ1 μ2 μ3 ν : List Mo} {s s1 s2 s3 : Sl} {a b e t tg iter : Expr} {es rest : List Expr} {st : Stmt} {sts body orelse : List Stmt} {pos p : Pos} {k k1 k2 : Bool} {d : PyData} {ds : List PyData} {o : Out}
/-! ### chains -/
theorem dv_chain {op op' : CmpOp} {e1 e2 e3 : Expr} (h1 : dV X c e1 ρ μ s1 μ) (h2 : dV X c e2 ρ μ s2 μ) (h3 : k1 = true → dV X c e3 ρ μ s3 μ) (c1 : CmpR X c op s1 s2 μ k1) (c2 : k1 = true → CmpR X c op' s2 s3 μ k2)
    (hm : lastMarks [op, op'] [e2, e3] = false := by with_unfolding_all rfl) : dV X c (.Compare e1 [op, op'] [e2, e3] pos) ρ μ (.dat (.bool (k1 && k2))) μ := .mk fun m S H σ W R Q kk => by
  obtain ⟨r, ho, hr⟩ := c1
  by_cases hk : k1 = true
  · obtain ⟨r', ho', hr'⟩ := c2 hk
    refine wE_of (pe_chain ho ho' pe_w pe_w pe_w hm) ?_
    refine h1 m S H σ W R _ fun m1 S1 x H1 W1 e1 p1 q1 => ?_
    refine h2 m1 S1 H1 σ W1 (R.mono e1 p1) _ fun m2 S2 y H2 W2 e2 p2 q2 => ?_
    refine hr m2 S2 H2 x y _ W2 (q1.mono e2 p2) q2 ⟨k1, rfl, ?_⟩
    rw [if_pos hk]
    refine h3 hk m2 S2 H2 σ W2 ((R.mono e1 p1).mono e2 p2) _ fun m3 S3 z H3 W3 e3 p3 q3 => ?_
    refine hr' m3 S3 H3 y z Q W3 (q2.mono e3 p3) q3 ?_
    have := (((kk.up e1 p1).up e2 p2).up e3 p3).now W3 (.bl _)
    rw [hk] at this
    exact this
  · have hk : k1 = false := by cases k1 <;> simp_all
    refine wE_of (pe_chain (r' := fun _ _ _ _ => False) ho (fun _ _ _ _ _ _ _ _ _ _ _ _ z => z.elim) pe_w pe_w pe_w hm) ?_
    refine h1 m S H σ W R _ fun m1 S1 x H1 W1 e1 p1 q1 => ?_
    refine h2 m1 S1 H1 σ W1 (R.mono e1 p1) _ fun m2 S2 y H2 W2 e2 p2 q2 => ?_
    refine hr m2 S2 H2 x y _ W2 (q1.mono e2 p2) q2 ⟨k1, rfl, ?_⟩
    subst hk
    exact iteF (((kk.up e1 p1).up e2 p2).now W2 (.bl _))
theorem dt_chain {op op' : CmpOp} {e1 e2 e3 : Expr} (h1 : dV X c e1 ρ μ s1 μ) (h2 : dV X c e2 ρ μ s2 μ) (h3 : k1 = true → dV X c e3 ρ μ s3 μ) (c1 : CmpR X c op s1 s2 μ k1) (c2 : k1 = true → CmpR X c op' s2 s3 μ k2)
    (hm : lastMarks [op, op'] [e2, e3] = false := by with_unfolding_all rfl) : dT X c (.Compare e1 [op, op'] [e2, e3] pos) ρ μ (k1 && k2) μ := .mk fun m S H σ W R Q kk => by
  obtain ⟨r, ho, hr⟩ := c1
  by_cases hk : k1 = true
  · obtain ⟨r', ho', hr'⟩ := c2 hk
    refine wT_of (pt_chain ho ho' pe_w pe_w pe_w hm) ?_
    refine h1 m S H σ W R _ fun m1 S1 x H1 W1 e1 p1 q1 => ?_
    refine h2 m1 S1 H1 σ W1 (R.mono e1 p1) _ fun m2 S2 y H2 W2 e2 p2 q2 => ?_
    refine hr m2 S2 H2 x y _ W2 (q1.mono e2 p2) q2 ⟨k1, rfl, ?_⟩
    rw [if_pos hk]
    refine h3 hk m2 S2 H2 σ W2 ((R.mono e1 p1).mono e2 p2) _ fun m3 S3 z H3 W3 e3 p3 q3 => ?_
    refine hr' m3 S3 H3 y z _ W3 (q2.mono e3 p3) q3 ⟨k2, rfl, ?_⟩
    have := (((kk.up e1 p1).up e2 p2).up e3 p3).now W3
    rw [hk] at this
    exact this
  · have hk : k1 = false := by cases k1 <;> simp_all
    refine wT_of (pt_chain (r' := fun _ _ _ _ => False) ho (fun _ _ _ _ _ _ _ _ _ _ _ _ z => z.elim) pe_w pe_w pe_w hm) ?_
    refine h1 m S H σ W R _ fun m1 S1 x H1 W1 e1 p1 q1 => ?_
    refine h2 m1 S1 H1 σ W1 (R.mono e1 p1) _ fun m2 S2 y H2 W2 e2 p2 q2 => ?_
    refine hr m2 S2 H2 x y _ W2 (q1.mono e2 p2) q2 ⟨k1, rfl, ?_⟩
    subst hk
    exact iteF ⟨_, rfl, ((kk.up e1 p1).up e2 p2).now W2⟩
/-! ### in -/
def rInD (X : Cx) (f : Bool → Bool) : R2 := fun x y H Q => ∃ S d ds, Ex S H ∧ Dq X.K S x d ∧ (Dq X.K S y (.list ds) ∨ Dq X.K S y (.tuple ds)) ∧ d.plain = true ∧ PyData.plainAll ds = true ∧ min (PyData.depthAll ds) d.depth ≤ 60 ∧ Q (.bl (f (ds.any fun y => PyData.eqv y d))) H
theorem op_inP (hu : X.A.units + 64 < cLine) : OpR X (compareOp .In) (rInD X id) := by
  intro pins s σ H x y v u Q I rx ry h
  obtain ⟨S, d, ds, ex, h1, h2, p1, p2, hd, q⟩ := h
  obtain ⟨as, r1⟩ := Dq.reads I ex d x v h1 rx p1
  rcases h2 with h2 | h2
  · obtain ⟨bs, r2⟩ := Dq.reads I ex (.list ds) y u h2 ry p2
    exact SeqAt.in_list_data r2 r1 p2 p1 (by omega) ⟨.bl _, H, I, rfl, q⟩
  · obtain ⟨bs, r2⟩ := Dq.reads I ex (.tuple ds) y u h2 ry p2
    exact SeqAt.in_tuple_data r2 r1 p2 p1 (by omega) ⟨.bl _, H, I, rfl, q⟩
theorem op_ninP (hu : X.A.units + 64 < cLine) : OpR X (compareOp .NotIn) (rInD X not) := by
  intro pins s σ H x y v u Q I rx ry h
  obtain ⟨S, d, ds, ex, h1, h2, p1, p2, hd, q⟩ := h
  obtain ⟨as, r1⟩ := Dq.reads I ex d x v h1 rx p1
  rcases h2 with h2 | h2
  · obtain ⟨bs, r2⟩ := Dq.reads I ex (.list ds) y u h2 ry p2
    exact SeqAt.notIn_list_data r2 r1 p2 p1 (by omega) ⟨.bl _, H, I, rfl, q⟩
  · obtain ⟨bs, r2⟩ := Dq.reads I ex (.tuple ds) y u h2 ry p2
    exact SeqAt.notIn_tuple_data r2 r1 p2 p1 (by omega) ⟨.bl _, H, I, rfl, q⟩
theorem c_inT (hu : X.A.units + 64 < cLine) (d : PyData) (ds : List PyData) (p1 : d.plain = true) (p2 : PyData.plainAll ds = true) (hd : min (PyData.depthAll ds) d.depth ≤ 60) : CmpR X c .In (.dat d) (.dat (.tuple ds)) μ (ds.any fun y => PyData.eqv y d) :=
  ⟨_, op_inP hu, fun m S H x y Q W h1 h2 q => ⟨S, d, ds, W.sub, h1, .inr h2, p1, p2, hd, q⟩⟩
theorem c_inL (hu : X.A.units + 64 < cLine) (d : PyData) (ds : List PyData) (p1 : d.plain = true) (p2 : PyData.plainAll ds = true) (hd : min (PyData.depthAll ds) d.depth ≤ 60) : CmpR X c .In (.dat d) (.dat (.list ds)) μ (ds.any fun y => PyData.eqv y d) :=
  ⟨_, op_inP hu, fun m S H x y Q W h1 h2 q => ⟨S, d, ds, W.sub, h1, .inl h2, p1, p2, hd, q⟩⟩
theorem c_ninT (hu : X.A.units + 64 < cLine) (d : PyData) (ds : List PyData) (p1 : d.plain = true) (p2 : PyData.plainAll ds = true) (hd : min (PyData.depthAll ds) d.depth ≤ 60) : CmpR X c .NotIn (.dat d) (.dat (.tuple ds)) μ (!ds.any fun y => PyData.eqv y d) :=
  ⟨_, op_ninP hu, fun m S H x y Q W h1 h2 q => ⟨S, d, ds, W.sub, h1, .inr h2, p1, p2, hd, q⟩⟩
theorem c_inS (x y : Str) : CmpR X c .In (.dat (.str x)) (.dat (.str y)) μ (!(Builtin.Str.occurrences y x 0 y.length 1).isEmpty) :=
  ⟨_, op_in_str, fun m S H u v Q W h1 h2 q => ⟨x, y, Dq.of_str h1, Dq.of_str h2, q⟩⟩
/-! ### calls of built-ins -/
theorem dv_callB {x : Str} {id : String} {r : List V → Hp → VK → Prop} {ss : List Sl} (hc : CallR X (.builtin id) r) (hm : X.mg x = none) (hv : bootBuiltins x = some (.builtin id)) (ha : dA X c (e :: es) ρ μ ss μ1)
    (hr : ∀ m S H vs Q, Wd X c μ1 m S H → SlVs X.K S m vs ss → KV X c S m s μ2 Q → r vs H Q) (hg : Gl X x := by rfl) (hn : x ≠ "__name__" := by decide) (hdb : (x == ("__debug__" : Str)) = false := by decide)
    (he : starEach (e :: es) X.env = (false, eval e X.env) :: starEach es X.env := by exact star_cons rfl) (hpl : (backTo pos (starEach es X.env)).any (·.1) = false := by rfl) : dV X c (.Call (.Name x p) (e :: es) [] pos) ρ μ s μ2 := .mk fun m S H σ W R Q kk => by
  refine wE_of (pe_callB hc hg hm hv pa_w hn hdb he hpl) ?_
  exact ha m S H σ W R _ fun m1 S1 vs H1 W1 e1 p1 q1 => hr m1 S1 H1 vs Q W1 q1 (kk.up e1 p1)
theorem dv_callTy {x : Str} {T : String} {r : List V → Hp → VK → Prop} {ss : List Sl} (hc : CallR X (.type T) r) (hm : X.mg x = none) (hv : bootBuiltins x = some (.type T)) (ha : dA X c (e :: es) ρ μ ss μ1)
    (hr : ∀ m S H vs Q, Wd X c μ1 m S H → SlVs X.K S m vs ss → KV X c S m s μ2 Q → r vs H Q) (hg : Gl X x := by rfl) (hn : x ≠ "__name__" := by decide) (hdb : (x == ("__debug__" : Str)) = false := by decide)
    (he : starEach (e :: es) X.env = (false, eval e X.env) :: starEach es X.env := by exact star_cons rfl) (hpl : (backTo pos (starEach es X.env)).any (·.1) = false := by rfl) : dV X c (.Call (.Name x p) (e :: es) [] pos) ρ μ s μ2 := .mk fun m S H σ W R Q kk => by
  refine wE_of (pe_callTy hc hg hm hv pa_w hn hdb he hpl) ?_
  exact ha m S H σ W R _ fun m1 S1 vs H1 W1 e1 p1 q1 => hr m1 S1 H1 vs Q W1 q1 (kk.up e1 p1)
theorem slVs1 {K : PySem.W.Frag} {S : Hp} {m : List Addr} {vs : List V} {s : Sl} (h : SlVs K S m vs [s]) : ∃ v, vs = [v] ∧ SlV K S m v s := by
  cases h with
  | cons h t => cases t; exact ⟨_, rfl, h⟩
theorem slVs2 {K : PySem.W.Frag} {S : Hp} {m : List Addr} {vs : List V} {s s' : Sl} (h : SlVs K S m vs [s, s']) : ∃ v v', vs = [v, v'] ∧ SlV K S m v s ∧ SlV K S m v' s' := by
  cases h with
  | cons h t => obtain ⟨v', e, h'⟩ := slVs1 t; exact ⟨_, v', by rw [e], h, h'⟩
theorem da1 (h : dV X c e ρ μ s μ1) (hs : starEach [e] X.env = (false, eval e X.env) :: starEach [] X.env := by exact star_cons rfl) : dA X c [e] ρ μ [s] μ1 := da_cons h da_nil hs
theorem da2 (h : dV X c a ρ μ s1 μ1) (h' : dV X c b ρ μ1 s2 μ2) (hs : starEach [a, b] X.env = (false, eval a X.env) :: starEach [b] X.env := by exact star_cons rfl) (hs' : starEach [b] X.env = (false, eval b X.env) :: starEach [] X.env := by exact star_cons rfl) : dA X c [a, b] ρ μ [s1, s2] μ2 := da_cons h (da1 h' hs') hs
variable {xl : Str}
theorem dv_lenL (hm : X.mg "len" = none) (h : dV X c e ρ μ (.dat (.list ds)) μ1) (hg : Gl X "len" := by rfl) (he : starEach [e] X.env = (false, eval e X.env) :: starEach [] X.env := by exact star_cons rfl) (hpl : (backTo pos (starEach [] X.env)).any (·.1) = false := by rfl) : dV X c (.Call (.Name "len" p) [e] [] pos) ρ μ (.dat (.int (ds.length : Int))) μ1 :=
  dv_callB call_len_seq hm PySem.boot_len (da1 h he) (fun m S H vs Q W q k => by
    obtain ⟨v, rfl, hv⟩ := slVs1 q
    obtain ⟨a, xs, rfl, hx, hs⟩ := Dq.of_lst hv
    exact ⟨a, xs, rfl, .inl (.inl (Evl.ex_rd W.sub hx)), by rw [hs.length]; exact k.now W (.int _)⟩) hg (by decide) (by decide) he hpl
theorem dv_lenT (hm : X.mg "len" = none) (h : dV X c e ρ μ (.dat (.tuple ds)) μ1) (hg : Gl X "len" := by rfl) (he : starEach [e] X.env = (false, eval e X.env) :: starEach [] X.env := by exact star_cons rfl) (hpl : (backTo pos (starEach [] X.env)).any (·.1) = false := by rfl) : dV X c (.Call (.Name "len" p) [e] [] pos) ρ μ (.dat (.int (ds.length : Int))) μ1 :=
  dv_callB call_len_seq hm PySem.boot_len (da1 h he) (fun m S H vs Q W q k => by
    obtain ⟨v, rfl, hv⟩ := slVs1 q
    obtain ⟨a, xs, rfl, hx, hs⟩ := Dq.of_tup hv
    exact ⟨a, xs, rfl, .inr (Evl.ex_t W.sub hx), by rw [hs.length]; exact k.now W (.int _)⟩) hg (by decide) (by decide) he hpl
theorem dv_lenM {j : Nat} (hm : X.mg "len" = none) (h : dV X c e ρ μ (.own j) μ1) (hj : μ1[j]? = some (.lst ds)) (hg : Gl X "len" := by rfl) (he : starEach [e] X.env = (false, eval e X.env) :: starEach [] X.env := by exact star_cons rfl) (hpl : (backTo pos (starEach [] X.env)).any (·.1) = false := by rfl) : dV X c (.Call (.Name "len" p) [e] [] pos) ρ μ (.dat (.int (ds.length : Int))) μ1 :=
  dv_callB call_len_seq hm PySem.boot_len (da1 h he) (fun m S H vs Q W q k => by
    obtain ⟨v, rfl, a, ha, rfl⟩ := slVs1 q
    obtain ⟨xs, hx, hs⟩ := W.lst ha hj
    exact ⟨a, xs, rfl, .inl (Evl.sq_of hx), by rw [hs.length]; exact k.now W (.int _)⟩) hg (by decide) (by decide) he hpl
theorem dv_lenS {x : Str} (hm : X.mg "len" = none) (h : dV X c e ρ μ (.dat (.str x)) μ1) (hl : x.length ≤ sizeLine) (hg : Gl X "len" := by rfl) (he : starEach [e] X.env = (false, eval e X.env) :: starEach [] X.env := by exact star_cons rfl) (hpl : (backTo pos (starEach [] X.env)).any (·.1) = false := by rfl) : dV X c (.Call (.Name "len" p) [e] [] pos) ρ μ (.dat (.int (x.length : Int))) μ1 :=
  dv_callB call_len_str hm PySem.boot_len (da1 h he) (fun m S H vs Q W q k => by
    obtain ⟨v, rfl, hv⟩ := slVs1 q
    exact ⟨x, by rw [Dq.of_str hv], hl, k.now W (.int _)⟩) hg (by decide) (by decide) he hpl
theorem dv_intI {i : Int} (hm : X.mg "int" = none) (h : dV X c e ρ μ (.dat (.int i)) μ1) (hg : Gl X "int" := by rfl) (he : starEach [e] X.env = (false, eval e X.env) :: starEach [] X.env := by exact star_cons rfl) (hpl : (backTo pos (starEach [] X.env)).any (·.1) = false := by rfl) : dV X c (.Call (.Name "int" p) [e] [] pos) ρ μ (.dat (.int i)) μ1 :=
  dv_callTy call_int1 hm (by decide +kernel) (da1 h he) (fun m S H vs Q W q k => by
    obtain ⟨v, rfl, hv⟩ := slVs1 q
    exact .inl ⟨i, by rw [Dq.of_int hv], k.now W (.int _)⟩) hg (by decide) (by decide) he hpl
theorem dv_intB (hm : X.mg "int" = none) (h : dV X c e ρ μ (.dat (.bool k)) μ1) (hg : Gl X "int" := by rfl) (he : starEach [e] X.env = (false, eval e X.env) :: starEach [] X.env := by exact star_cons rfl) (hpl : (backTo pos (starEach [] X.env)).any (·.1) = false := by rfl) : dV X c (.Call (.Name "int" p) [e] [] pos) ρ μ (.dat (.int (if k then 1 else 0))) μ1 :=
  dv_callTy call_int1 hm (by decide +kernel) (da1 h he) (fun m S H vs Q W q kk => by
    obtain ⟨v, rfl, hv⟩ := slVs1 q
    exact .inr ⟨k, by rw [Dq.of_bl hv], kk.now W (.int _)⟩) hg (by decide) (by decide) he hpl
theorem dv_intS {x : Str} {n : Int} (hm : X.mg "int" = none) (h : dV X c e ρ μ (.dat (.str x)) μ1) (hn : PySem.intText? x = some n) (hl : x.length ≤ 640) (hg : Gl X "int" := by rfl) (he : starEach [e] X.env = (false, eval e X.env) :: starEach [] X.env := by exact star_cons rfl) (hpl : (backTo pos (starEach [] X.env)).any (·.1) = false := by rfl) : dV X c (.Call (.Name "int" p) [e] [] pos) ρ μ (.dat (.int n)) μ1 :=
  dv_callTy call_int_str hm (by decide +kernel) (da1 h he) (fun m S H vs Q W q kk => by
    obtain ⟨v, rfl, hv⟩ := slVs1 q
    exact ⟨x, n, by rw [Dq.of_str hv], hn, hl, kk.now W (.int _)⟩) hg (by decide) (by decide) he hpl
theorem dv_strI {i : Int} (hm : X.mg "str" = none) (h : dV X c e ρ μ (.dat (.int i)) μ1) (hl : i.natAbs.log2 < 1920) (hg : Gl X "str" := by rfl) (he : starEach [e] X.env = (false, eval e X.env) :: starEach [] X.env := by exact star_cons rfl) (hpl : (backTo pos (starEach [] X.env)).any (·.1) = false := by rfl) : dV X c (.Call (.Name "str" p) [e] [] pos) ρ μ (.dat (.str (toString i))) μ1 :=
  dv_callTy call_str_int hm (by decide +kernel) (da1 h he) (fun m S H vs Q W q kk => by
    obtain ⟨v, rfl, hv⟩ := slVs1 q
    exact ⟨i, by rw [Dq.of_int hv], hl, kk.now W (.str _)⟩) hg (by decide) (by decide) he hpl
theorem dv_abs {i : Int} (hm : X.mg "abs" = none) (h : dV X c e ρ μ (.dat (.int i)) μ1) (hg : Gl X "abs" := by rfl) (he : starEach [e] X.env = (false, eval e X.env) :: starEach [] X.env := by exact star_cons rfl) (hpl : (backTo pos (starEach [] X.env)).any (·.1) = false := by rfl) : dV X c (.Call (.Name "abs" p) [e] [] pos) ρ μ (.dat (.int (if i < 0 then -i else i))) μ1 :=
  dv_callB call_abs hm (by decide +kernel) (da1 h he) (fun m S H vs Q W q kk => by
    obtain ⟨v, rfl, hv⟩ := slVs1 q
    exact ⟨i, by rw [Dq.of_int hv], kk.now W (.int _)⟩) hg (by decide) (by decide) he hpl
theorem dv_max {i j : Int} (hc : X.calm = true) (hm : X.mg "max" = none) (h : dV X c a ρ μ (.dat (.int i)) μ1) (h' : dV X c b ρ μ1 (.dat (.int j)) μ2) (hg : Gl X "max" := by rfl) (he : starEach [a, b] X.env = (false, eval a X.env) :: starEach [b] X.env := by exact star_cons rfl) (he' : starEach [b] X.env = (false, eval b X.env) :: starEach [] X.env := by exact star_cons rfl) (hpl : (backTo pos (starEach [b] X.env)).any (·.1) = false := by rfl) : dV X c (.Call (.Name "max" p) [a, b] [] pos) ρ μ (.dat (.int (if j > i then j else i))) μ2 :=
  dv_callB (call_max2 hc) hm (by decide +kernel) (da2 h h' he he') (fun m S H vs Q W q kk => by
    obtain ⟨v, v', rfl, hv, hv'⟩ := slVs2 q
    exact ⟨i, j, by rw [Dq.of_int hv, Dq.of_int hv'], kk.now W (.int _)⟩) hg (by decide) (by decide) he hpl
theorem dv_min {i j : Int} (hc : X.calm = true) (hm : X.mg "min" = none) (h : dV X c a ρ μ (.dat (.int i)) μ1) (h' : dV X c b ρ μ1 (.dat (.int j)) μ2) (hg : Gl X "min" := by rfl) (he : starEach [a, b] X.env = (false, eval a X.env) :: starEach [b] X.env := by exact star_cons rfl) (he' : starEach [b] X.env = (false, eval b X.env) :: starEach [] X.env := by exact star_cons rfl) (hpl : (backTo pos (starEach [b] X.env)).any (·.1) = false := by rfl) : dV X c (.Call (.Name "min" p) [a, b] [] pos) ρ μ (.dat (.int (if j < i then j else i))) μ2 :=
  dv_callB (call_min2 hc) hm (by decide +kernel) (da2 h h' he he') (fun m S H vs Q W q kk => by
    obtain ⟨v, v', rfl, hv, hv'⟩ := slVs2 q
    exact ⟨i, j, by rw [Dq.of_int hv, Dq.of_int hv'], kk.now W (.int _)⟩) hg (by decide) (by decide) he hpl
theorem dv_divmod {i j : Int} (hm : X.mg "divmod" = none) (h : dV X c a ρ μ (.dat (.int i)) μ1) (h' : dV X c b ρ μ1 (.dat (.int j)) μ2) (hj : CDiv i j) (hg : Gl X "divmod" := by rfl) (he : starEach [a, b] X.env = (false, eval a X.env) :: starEach [b] X.env := by exact star_cons rfl) (he' : starEach [b] X.env = (false, eval b X.env) :: starEach [] X.env := by exact star_cons rfl) (hpl : (backTo pos (starEach [b] X.env)).any (·.1) = false := by rfl) : dV X c (.Call (.Name "divmod" p) [a, b] [] pos) ρ μ (.dat (.tuple [.int (i / j), .int (i % j)])) μ2 :=
  dv_callB call_divmod hm (by decide +kernel) (da2 h h' he he') (fun m S H vs Q W q kk => by
    obtain ⟨v, v', rfl, hv, hv'⟩ := slVs2 q
    exact ⟨i, j, by rw [Dq.of_int hv, Dq.of_int hv'], hj, fun p hp => kk.tup W (.cons (.int _) (.cons (.int _) .nil)) hp⟩) hg (by decide) (by decide) he hpl
/-- isinstance(value, int) etc., a written class -/
def tyD : PyData → String
  | .none => "NoneType"
  | .bool _ => "bool"
  | .int _ => "int"
  | .str _ => "str"
  | .list _ => "list"
  | .tuple _ => "tuple"
  | .dict _ => "dict"
theorem Dq.tyX {K : PySem.W.Frag} {S H : Hp} {v : V} {d : PyData} (h : Dq K S v d) (e : Ex S H) : TyX K H v (.type (tyD d)) := by
  cases h with
  | non => exact .base .non
  | bl b => exact .base (.bl b)
  | int i => exact .base (.int i)
  | str x => exact .base (.str x)
  | lst h hs =>
    rcases Evl.ex_rd e h with h | ⟨o, h⟩
    · exact .base (.lst h)
    · exact .base (.frz h)
  | tup h hs =>
    rcases Evl.ex_t e h with (h | ⟨o, h⟩) | ⟨o, its, n, h, hc, _⟩
    · exact .base (.tup h)
    · exact .fTuple h
    · exact .kTuple h hc
  | dct h hs => exact .base (.dK (e _ _ h))
end
end Dr
set_option maxHeartbeats 4000000
namespace Dr
open PySem PySem.Spec PyProof.Rows L2
/-! ### defs -/
abbrev Ctr := List Sl → List Mo → Sl → List Mo → Prop
/-- what a def promises: of the data that it gets, the data that it gives -/
def spD (P : Program) (w : World) (K : PySem.W.Frag) (C : Ctr) : Sp := fun vs H Q _ => ∃ (m : List Addr) (S : Hp) (ss : List Sl) (μ : List Mo) (s' : Sl) (μ' : List Mo), C ss μ s' μ' ∧ MoOk P w K ⟨H, S, m⟩ μ m S H ∧ SlVs K S m vs ss ∧
  ∀ m' S' v H', MoOk P w K ⟨H, S, m⟩ μ' m' S' H' → SlV K S' m' v s' → Q v H'
structure FnD (P : Program) (w : World) (K : PySem.W.Frag) (mg : Str → Option Value) (base : Heap) (x : Str) (k : Nat) (C : Ctr) : Prop where
  ex : ∃ (f : Addr) (fd : FuncData) (ps : List Str), FnOk P w K mg base CX0 k f fd ps (spD P w K C) ∧ mg x = some (.ref f) ∧ PySem.W.keepIn K (.ref f) = true ∧ Binds K fd ps []
section
variable {X : Cx} {c : Ct} {ρ ρ1 ρ2 : List Sl} {μ μ1 μ2 μ3 ν : List Mo} {s s1 s2 s3 : Sl} {a b e t tg iter : Expr} {es rest : List Expr} {st : Stmt} {sts body orelse : List Stmt} {pos p : Pos} {k k1 k2 : Bool} {d : PyData} {ds : List PyData} {o : Out}
/-- what a caller may take: no new object but data -/
def calm (n : Nat) : Sl → Prop
  | .own j => j < n
  | _ => True
theorem dv_call {x : Str} {j : Nat} {C : Ctr} {ss : List Sl} {μc μc' : List Mo} (F : FnD X.prog X.w X.K X.mg X.base x j C) (hr : Room j X.A) (ha : dA X c (e :: es) ρ μ ss (μc ++ ν)) (hC : C ss μc s μc') (hl : μc'.length = μc.length) (hss : ∀ u, u ∈ ss → calm μc.length u) (hs : calm μc.length s) (hg : Gl X x := by rfl)
    (hdb : (x == ("__debug__" : Str)) = false := by decide) (he : starEach (e :: es) X.env = (false, eval e X.env) :: starEach es X.env := by exact star_cons rfl) (hpl : (backTo pos (starEach es X.env)).any (·.1) = false := by rfl) : dV X c (.Call (.Name x p) (e :: es) [] pos) ρ μ s (μc' ++ ν) := .mk fun m S H σ W R Q kk => by
  obtain ⟨f, fd, ps, F, hm, hk, hb⟩ := F.ex
  refine wE_of (pe_call F hr hg hm hk hb .nil pass0 pa_w hdb he hpl) ?_
  refine ha m S H σ W R _ fun m1 S1 vs H1 W1 e1 p1 q1 => ?_
  rw [List.append_nil]
  have hlm : μc.length ≤ m1.length := by have := W1.len; rw [List.length_append] at this; omega
  have dn : ∀ {v : V} {u : Sl}, SlV X.K S1 m1 v u → calm μc.length u → SlV X.K S1 (m1.take μc.length) v u := fun {v u} h hu => by
    cases u with
    | own i =>
      obtain ⟨q, h1, h2⟩ := h
      exact ⟨q, by rw [List.getElem?_take_of_lt hu]; exact h1, h2⟩
    | no => exact h
    | dat d => exact h
    | raw v => exact h
    | prg a b => exact h
  have dns : ∀ {vs : List V} {us : List Sl}, SlVs X.K S1 m1 vs us → (∀ u, u ∈ us → calm μc.length u) → SlVs X.K S1 (m1.take μc.length) vs us := fun {vs us} h => by
    induction h with
    | nil => exact fun _ => .nil
    | cons h _ ih => exact fun hu => .cons (dn h (hu _ List.mem_cons_self)) (ih fun u hm => hu u (List.mem_cons_of_mem _ hm))
  refine ⟨m1.take μc.length, S1, ss, μc, s, μc', hC, W1.part, dns q1 hss, fun m' S' v H' W' r => ?_⟩
  obtain ⟨W2, em⟩ := W1.whole W' hl
  subst em
  refine kk m1 S' v H' W2 (e1.trans W'.ex0) p1 ?_
  cases s with
  | own i =>
    obtain ⟨q, h1, h2⟩ := r
    exact ⟨q, by rw [← List.getElem?_take_of_lt hs]; exact h1, h2⟩
  | no => exact r
  | dat d => exact r
  | raw v => exact r
  | prg a b => exact r
/-- a def that changes nothing -/
theorem dv_call0 {x : Str} {j : Nat} {C : Ctr} {ss : List Sl} (F : FnD X.prog X.w X.K X.mg X.base x j C) (hr : Room j X.A) (ha : dA X c (e :: es) ρ μ ss μ1) (hC : C ss [] s []) (hss : ∀ u, u ∈ ss → calm 0 u) (hs : calm 0 s) (hg : Gl X x := by rfl)
    (hdb : (x == ("__debug__" : Str)) = false := by decide) (he : starEach (e :: es) X.env = (false, eval e X.env) :: starEach es X.env := by exact star_cons rfl) (hpl : (backTo pos (starEach es X.env)).any (·.1) = false := by rfl) : dV X c (.Call (.Name x p) (e :: es) [] pos) ρ μ s μ1 :=
  dv_call (μc := []) (μc' := []) (ν := μ1) F hr ha hC rfl hss hs hg hdb he hpl
/-- a def that gives a new object, to be changed -/
theorem dv_callN {x : Str} {j : Nat} {C : Ctr} {ss : List Sl} {u : Mo} (F : FnD X.prog X.w X.K X.mg X.base x j C) (hr : Room j X.A) (ha : dA X c (e :: es) ρ μ ss μ1) (hC : C ss [] (.own 0) [u]) (hss : ∀ u, u ∈ ss → calm 0 u) (hg : Gl X x := by rfl)
    (hdb : (x == ("__debug__" : Str)) = false := by decide) (he : starEach (e :: es) X.env = (false, eval e X.env) :: starEach es X.env := by exact star_cons rfl) (hpl : (backTo pos (starEach es X.env)).any (·.1) = false := by rfl) : dV X c (.Call (.Name x p) (e :: es) [] pos) ρ μ (.own μ1.length) (μ1 ++ [u]) := .mk fun m S H σ W R Q kk => by
  obtain ⟨f, fd, ps, F, hm, hk, hb⟩ := F.ex
  refine wE_of (pe_call F hr hg hm hk hb .nil pass0 pa_w hdb he hpl) ?_
  refine ha m S H σ W R _ fun m1 S1 vs H1 W1 e1 p1 q1 => ?_
  rw [List.append_nil]
  have dns : ∀ {vs : List V} {us : List Sl}, SlVs X.K S1 m1 vs us → (∀ u, u ∈ us → calm 0 u) → SlVs X.K S1 [] vs us := fun {vs us} h => by
    induction h with
    | nil => exact fun _ => .nil
    | @cons v u _ _ h _ ih =>
      refine fun hu => .cons ?_ (ih fun u hm => hu u (List.mem_cons_of_mem _ hm))
      have hu := hu _ List.mem_cons_self
      cases u with
      | own i => exact absurd hu (Nat.not_lt_zero i)
      | no => exact h
      | dat d => exact h
      | raw v => exact h
      | prg a b => exact h
  have W1p : MoOk X.prog X.w X.K ⟨H1, S1, []⟩ [] [] S1 H1 := (show Wd X c ([] ++ μ1) m1 S1 H1 from W1).part
  refine ⟨[], S1, ss, [], _, _, hC, W1p, dns q1 hss, fun m' S' v H' W' r => ?_⟩
  have W2 := W1.more W'
  obtain ⟨q, h1, h2⟩ := r
  refine kk _ S' v H' W2 (e1.trans W'.ex0) (p1.trans (List.prefix_append _ _)) ⟨q, ?_, h2⟩
  rw [List.getElem?_append_right (by rw [W1.len]; exact Nat.le_refl _), W1.len, Nat.sub_self]
  exact h1
/-! ### the rule for a def -/
abbrev bx (P : Program) (w : World) (K : PySem.W.Frag) (mg : Str → Option Value) (base : Heap) (N : List Str) (qual : Str) (st : Stmt) (f : Addr) (cdv : Value) (A : Around) (outer : List Env) (s : Shared) (H : Hp) (E : XK) : Cx := (cxOf CX0 P w K mg base N qual (defScope st) f cdv A outer s H E).nox
def startSl (N : List Str) (ss : List Sl) : List Sl := ss ++ List.replicate (N.length - ss.length) .no
theorem SlVs.length {K : PySem.W.Frag} {S : Hp} {m : List Addr} {vs : List V} {ss : List Sl} (h : SlVs K S m vs ss) : vs.length = ss.length := Paired.length h
theorem SlVs.at {K : PySem.W.Frag} {S : Hp} {m : List Addr} : ∀ {vs : List V} {ss : List Sl} {i : Nat} {s : Sl}, SlVs K S m vs ss → ss[i]? = some s → ∃ v, vs[i]? = some v ∧ SlV K S m v s
  | _, _, _, _, .nil, e => by simp at e
  | _, _, 0, _, .cons h _, e => ⟨_, rfl, by simp at e; exact e ▸ h⟩
  | _, _, i + 1, _, .cons _ hs, e => by
    obtain ⟨v, h1, h2⟩ := SlVs.at hs (i := i) (by simpa using e)
    exact ⟨v, by simpa using h1, h2⟩
theorem slOk_start {K : PySem.W.Frag} {S : Hp} {m : List Addr} {vs : List V} {ss : List Sl} {N : List Str} (h : SlVs K S m vs ss) : SlOk K S m (L2.start N vs) (startSl N ss) := by
  refine ⟨by unfold startSl L2.start; simp [h.length], fun i s e => ?_⟩
  unfold startSl at e
  by_cases hi : i < ss.length
  · rw [List.getElem?_append_left hi] at e
    obtain ⟨v, h1, h2⟩ := SlVs.at h e
    refine .inr ⟨v, ?_, h2⟩
    unfold L2.start
    rw [List.getElem?_append_left (by rw [List.length_map, h.length]; exact hi), List.getElem?_map, h1]; rfl
  · rw [List.getElem?_append_right (by omega), List.getElem?_replicate] at e
    split at e
    · exact .inl (by cases e; rfl)
    · cases e
theorem fnD {P : Program} {w : World} {K : PySem.W.Frag} {mg : Str → Option Value} {base : Heap} {x : Str} {st : Stmt} {f : Addr} {fd : FuncData} {N ps : List Str} {j : Nat} {C : Ctr} (F : Fun K x x st f fd) (hm : mg x = some (.ref f)) (sc : FnScope N ps (defScope st))
    (hb : ∀ (kV doc pm : Value) (an : Option Addr) (cdv ct : Value) (us : List Value), us.length = ps.length → bindArgs (PySem.W.fnOf x x (defArgs st) (defBody st) (defScope st) .none kV doc pm an cdv ct) ⟨us, []⟩ = pure (ps.zip us))
    (len : ∀ ss μ s' μ', C ss μ s' μ' → ss.length = ps.length)
    (hbody : ∀ (cdv : Value) (A : Around) (outer : List Env) (s : Shared) (H : Hp) (E : XK) (c : Ct), Room j (bx P w K mg base N x st f cdv A outer s H E).A → ∀ ss μ s' μ', C ss μ s' μ' → c.m0.length = μ.length →
      dXs (bx P w K mg base N x st f cdv A outer s H E) c (defBody st) (startSl N ss) μ (.rt s' μ')) : FnD P w K mg base x (j + 1) C := by
  refine ⟨f, fd, ps, F.ok sc (fun vs H Q E h => ?_) (fun cdv A outer s H vs Q E hr h => ?_), hm, F.kp, F.binds hb⟩
  · obtain ⟨m, S, ss, μ, s', μ', hC, W, r, k⟩ := h
    rw [r.length]; exact len _ _ _ _ hC
  · obtain ⟨m, S, ss, μ, s', μ', hC, W, r, k⟩ := h
    refine ⟨_, pss_w, ?_⟩
    exact hbody cdv A outer s H E ⟨H, S, m⟩ hr ss μ s' μ' hC W.len.symm m S H _ W (slOk_start r) _ fun m' S' v H' W' e' r' => k m' S' v H' W' r'
end
end Dr
set_option maxHeartbeats 4000000
namespace Dr
open PySem PySem.Spec PyProof.Rows L2
section
variable {X : Cx} {c : Ct} {ρ ρ1 ρ2 : List Sl} {μ μ1 μ2 μ3 ν : List Mo} {s s1 s2 s3 : Sl} {a b e t tg iter ob : Expr} {es rest : List Expr} {st : Stmt} {sts body orelse : List Stmt} {pos p apos : Pos} {k k1 k2 : Bool} {d : PyData} {ds ds2 : List PyData} {o : Out}
/-! ### what a readable list is to the machine -/
theorem rd_get {pins : List (Addr × Obj)} {σ : L2.St} {H : Hp} {s : Shared} (I : Inv X pins σ H s) {l : Addr} {xs : List V} (h : Rd H l (.lst xs)) : xs.length ≤ sizeLine ∧ ∃ (its : List Value) (n : Nat), Vals xs its ∧ s.heap.get? l = some { cls := .type "list", data := .seq its.toArray n } := by
  rcases h with h | ⟨u, h⟩
  · obtain ⟨z, its, n, r, e⟩ := (show ObjOk X.prog X.w H s.heap l (.lst xs) from I.hok l _ h)
    exact ⟨z, its, n, r, e⟩
  · obtain ⟨_, z, its, n, r, e⟩ := (show ObjOk X.prog X.w H s.heap l (.frz u (.lst xs)) from I.hok l _ h)
    exact ⟨z, its, n, r, e⟩
def rCatR : R2 := fun x y H Q => ∃ l q xs zs, x = .ref l ∧ y = .ref q ∧ Rd H l (.lst xs) ∧ Rd H q (.lst zs) ∧ xs.length + zs.length ≤ sizeLine ∧ ∀ p, H p = none → Q (.ref p) (upd H p (.lst (xs ++ zs)))
theorem op_catR : OpR X (binaryOp .Add) rCatR := by
  intro pins s σ H x y v u Q I rx ry h
  obtain ⟨l, q, xs, zs, rfl, rfl, hl, hq, hz, k⟩ := h
  obtain rfl := (show v = Value.ref l from rx)
  obtain rfl := (show u = Value.ref q from ry)
  obtain ⟨_, i1, n1, r1, g1⟩ := rd_get I hl
  obtain ⟨_, i2, n2, r2, g2⟩ := rd_get I hq
  have s1 := r1.length
  have s2 := r2.length
  refine PySem.P.add_list g1 g2 ?_ (by rw [List.size_toArray, List.size_toArray]; omega)
  rw [show i1.toArray ++ i2.toArray = (i1 ++ i2).toArray from by simp]
  exact ⟨.ref _, _, I.lnew (t' := s.toks) (r1.append r2) (by rw [List.length_append]; omega), rfl, k _ I.fresh⟩
theorem dv_cat (ha : dV X c a ρ μ (.dat (.list ds)) μ1) (hb : dV X c b ρ μ1 (.dat (.list ds2)) μ2) (h : ds.length + ds2.length ≤ sizeLine) : dV X c (.BinOp a .Add b pos) ρ μ (.dat (.list (ds ++ ds2))) μ2 :=
  dv_bin ha hb ⟨_, op_catR, fun m S H x y Q W h1 h2 k => by
    obtain ⟨l, xs, rfl, hx, hs⟩ := Dq.of_lst h1
    obtain ⟨q, zs, rfl, hy, hz⟩ := Dq.of_lst h2
    exact ⟨l, q, xs, zs, rfl, rfl, Evl.ex_rd W.sub hx, Evl.ex_rd W.sub hy, by rw [hs.length, hz.length]; exact h, fun p hp => k.lst W (hs.append hz) hp⟩⟩
/-! ### methods of an owned list -/
theorem own_at {K : PySem.W.Frag} {S S' : Hp} {m m' : List Addr} {j : Nat} {l : Addr} (h : m[j]? = some l) (p : m <+: m') : m'[j]? = some l := by
  obtain ⟨tl, rfl⟩ := p
  rw [List.getElem?_append_left (List.getElem?_eq_some_iff.mp h).1]; exact h
theorem dv_append {j : Nat} {ds0 : List PyData} (ho : dV X c ob ρ μ (.own j) μ1) (ha : dV X c e ρ μ1 (.dat d) μ2) (hj0 : μ1[j]? = some (.lst ds0)) (hj : μ2[j]? = some (.lst ds)) (hz : ds.length < sizeLine) (hbase : attributeBase ob "append" X.env (eval ob X.env) = eval ob X.env := by rfl)
    (hfew : ((backTo pos (starEach [e] X.env)).all (fun x => !x.1) && (backToKw pos (keywordEach [] X.env)).all (fun x => x.1.isSome) && decide ([e].length + ([] : List Keyword).length + (if ([] : List Keyword).isEmpty then 0 else 1) < 30)) = true := by rfl)
    (hline : (apos.endLine == pos.line) = true := by rfl) (hs : starEach [e] X.env = (false, eval e X.env) :: starEach [] X.env := by exact star_cons rfl) (hplain : (backTo pos (starEach [] X.env)).any (·.1) = false := by rfl) :
    dV X c (.Call (.Attribute ob "append" apos) [e] [] pos) ρ μ (.dat .none) (μ2.set j (.lst (ds ++ [d]))) := .mk fun m S H σ W R Q kk => by
  refine wE_of (pe_bm PySem.F.plainAttrs_list PySem.F.slot_list_append PySem.F.type_list_append mt_append pe_w (pa_cons pe_w pa_nil hs) hbase hfew hline hs hplain) ?_
  refine ho m S H σ W R _ fun m1 S1 v H1 W1 e1 p1 q1 => ?_
  obtain ⟨l, hl, rfl⟩ := q1
  obtain ⟨xs0, ty, _⟩ := W1.lst hl hj0
  refine ⟨.inl ⟨rfl, _, Evl.sq_of ty⟩, ?_⟩
  refine ha m1 S1 H1 σ W1 (R.mono e1 p1) _ fun m2 S2 y H2 W2 e2 p2 q2 => ?_
  have hl2 : m2[j]? = some l := own_at (K := X.K) (S := S) (S' := S) hl p2
  obtain ⟨xs, hx, hs2⟩ := W2.lst hl2 hj
  refine ⟨l, xs, y, rfl, rfl, hx, by rw [hs2.length]; exact hz, ?_⟩
  exact ((kk.up e1 p1).up e2 p2).now (W2.put hl2 ⟨_, upd_same, hs2.snoc q2⟩) .non
def rExtendR : V → List V → Hp → VK → Prop := fun x vs H Q => ∃ l q xs zs, x = .ref l ∧ vs = [.ref q] ∧ H l = some (.lst xs) ∧ Rd H q (.lst zs) ∧ xs.length + zs.length ≤ sizeLine ∧ Q .non (upd H l (.lst (xs ++ zs)))
theorem mt_extendR : MtM X "list.extend" rExtendR := by
  intro pins s σ H x vs v us Q I rx rv h
  obtain ⟨l, q, xs, zs, rfl, rfl, hl, hq, hz, k⟩ := h
  obtain rfl := (show v = Value.ref l from rx)
  obtain ⟨u, rfl, ru⟩ := rv.one
  obtain rfl := (show u = Value.ref q from ru)
  obtain ⟨_, i1, n1, r1, l1, g1⟩ := I.lstM hl
  obtain ⟨_, i2, n2, r2, g2⟩ := rd_get I hq
  have l2 := r2.length
  have hsz : i1.toArray.size + i2.toArray.size ≤ sizeLine := by simp only [List.size_toArray]; omega
  have ok : ¬ (!i1.toArray.isEmpty && Builtin.List.listTooLong (i1.toArray.size + i2.toArray.size)) = true := fun z => by
    rw [notLongL hsz, Bool.and_false] at z; exact Bool.noConfusion z
  refine call_meets F.slot_list_extend ⟨_, g1, rfl⟩ F.entry_list_extend (F.args_list_extend_2 _ _) (AutoSeq1.list_extend_list_list_0 l i1.toArray n1 q i2.toArray n2 ok (by simp only [List.size_toArray]; omega) (by omega)) ⟨g1, g2, ?_⟩
  exact ⟨.non, _, I.lset (its' := i1 ++ i2) hl g1 (by simp) (r1.append r2) (by rw [List.length_append]; omega), rfl, k⟩
theorem dv_extend {j : Nat} {ds0 : List PyData} (ho : dV X c ob ρ μ (.own j) μ1) (ha : dV X c e ρ μ1 (.dat (.list ds2)) μ2) (hj0 : μ1[j]? = some (.lst ds0)) (hj : μ2[j]? = some (.lst ds)) (hz : ds.length + ds2.length ≤ sizeLine) (hbase : attributeBase ob "extend" X.env (eval ob X.env) = eval ob X.env := by rfl)
    (hfew : ((backTo pos (starEach [e] X.env)).all (fun x => !x.1) && (backToKw pos (keywordEach [] X.env)).all (fun x => x.1.isSome) && decide ([e].length + ([] : List Keyword).length + (if ([] : List Keyword).isEmpty then 0 else 1) < 30)) = true := by rfl)
    (hline : (apos.endLine == pos.line) = true := by rfl) (hs : starEach [e] X.env = (false, eval e X.env) :: starEach [] X.env := by exact star_cons rfl) (hplain : (backTo pos (starEach [] X.env)).any (·.1) = false := by rfl) :
    dV X c (.Call (.Attribute ob "extend" apos) [e] [] pos) ρ μ (.dat .none) (μ2.set j (.lst (ds ++ ds2))) := .mk fun m S H σ W R Q kk => by
  refine wE_of (pe_bm PySem.F.plainAttrs_list PySem.F.slot_list_extend PySem.F.type_list_extend mt_extendR pe_w (pa_cons pe_w pa_nil hs) hbase hfew hline hs hplain) ?_
  refine ho m S H σ W R _ fun m1 S1 v H1 W1 e1 p1 q1 => ?_
  obtain ⟨l, hl, rfl⟩ := q1
  obtain ⟨xs0, ty, _⟩ := W1.lst hl hj0
  refine ⟨.inl ⟨rfl, _, Evl.sq_of ty⟩, ?_⟩
  refine ha m1 S1 H1 σ W1 (R.mono e1 p1) _ fun m2 S2 y H2 W2 e2 p2 q2 => ?_
  have hl2 : m2[j]? = some l := own_at (K := X.K) (S := S) (S' := S) hl p2
  obtain ⟨xs, hx, hs2⟩ := W2.lst hl2 hj
  obtain ⟨q, zs, rfl, hy, hz2⟩ := Dq.of_lst q2
  refine ⟨l, q, xs, zs, rfl, rfl, hx, Evl.ex_rd W2.sub hy, by rw [hs2.length, hz2.length]; exact hz, ?_⟩
  exact ((kk.up e1 p1).up e2 p2).now (W2.put hl2 ⟨_, upd_same, hs2.append hz2⟩) .non
/-! ### texts -/
theorem dv_split {x y : Str} (ho : dV X c ob ρ μ (.dat (.str x)) μ1) (ha : dV X c e ρ μ1 (.dat (.str y)) μ2) (hy : (y.length == 0) = false) (hz : x.length + 2 ≤ sizeLine) (hs : starEach [e] X.env = [(false, eval e X.env)] := by rfl) (hbase : attributeBase ob "split" X.env (eval ob X.env) = eval ob X.env := by rfl) (hline : (apos.endLine == pos.line) = true := by rfl) :
    dV X c (.Call (.Attribute ob "split" apos) [e] [] pos) ρ μ (.dat (.list ((Txt.split x y).map PyData.str))) μ2 := .mk fun m S H σ W R Q kk => by
  refine wE_of (pe_split pe_w pe_w hs hbase hline) ?_
  refine ho m S H σ W R _ fun m1 S1 v H1 W1 e1 p1 q1 => ?_
  obtain rfl := Dq.of_str q1
  refine ⟨⟨_, rfl⟩, ?_⟩
  refine ha m1 S1 H1 σ W1 (R.mono e1 p1) _ fun m2 S2 w2 H2 W2 e2 p2 q2 => ?_
  obtain rfl := Dq.of_str q2
  exact ⟨x, y, rfl, rfl, hy, hz, fun p hp => ((kk.up e1 p1).up e2 p2).lst W2 (.of_strs _) hp⟩
theorem dv_join {x : Str} {ys : List Str} (ho : dV X c ob ρ μ (.dat (.str x)) μ1) (ha : dV X c e ρ μ1 (.dat (.list (ys.map PyData.str))) μ2) (hz : (ys.map (·.length)).sum + ys.length * x.length ≤ 16777216) (hs : starEach [e] X.env = [(false, eval e X.env)] := by rfl) (hbase : attributeBase ob "join" X.env (eval ob X.env) = eval ob X.env := by rfl) (hline : (apos.endLine == pos.line) = true := by rfl) :
    dV X c (.Call (.Attribute ob "join" apos) [e] [] pos) ρ μ (.dat (.str (Txt.join x ys))) μ2 := .mk fun m S H σ W R Q kk => by
  refine wE_of (pe_join pe_w pe_w hs hbase hline) ?_
  refine ho m S H σ W R _ fun m1 S1 v H1 W1 e1 p1 q1 => ?_
  obtain rfl := Dq.of_str q1
  refine ⟨⟨_, rfl⟩, ?_⟩
  refine ha m1 S1 H1 σ W1 (R.mono e1 p1) _ fun m2 S2 w2 H2 W2 e2 p2 q2 => ?_
  obtain ⟨q, zs, rfl, hy, hz2⟩ := Dq.of_lst q2
  have hz3 := hz2.strs
  subst hz3
  exact ⟨x, q, ys, rfl, rfl, .inl (.inl (Evl.ex_rd W2.sub hy)), hz, ((kk.up e1 p1).up e2 p2).now W2 (.str _)⟩
/-! ### attributes of a Program -/
structure PrgC (K : PySem.W.Frag) : Prop where
  cl : Cls K (prgC K)
  nw : NoAttr K (prgC K) "written"
  ns : NoAttr K (prgC K) "steps"
theorem str_ws : ¬ (("written" : Str) = "steps") := by decide +kernel
theorem prgF_w (wv sv : V) : (prgF wv sv).lookup ("written" : Str) = some wv := by
  unfold prgF
  rw [lookup_putF, if_neg str_ws, lookup_putF, if_pos rfl]
theorem prgF_s (wv sv : V) : (prgF wv sv).lookup ("steps" : Str) = some sv := by
  unfold prgF
  rw [lookup_putF, if_pos rfl]
theorem dv_steps {ws sd : PyData} (T : PrgC X.K) (h : dV X c e ρ μ (.prg ws sd) μ1) (hb : attributeBase e "steps" X.env (eval e X.env) = eval e X.env := by rfl) : dV X c (.Attribute e "steps" pos) ρ μ (.dat sd) μ1 := .mk fun m S H σ W R Q kk => by
  refine wE_of (pe_fld pe_w hb) ?_
  refine h m S H σ W R _ fun m1 S1 v H1 W1 e1 p1 q1 => ?_
  obtain ⟨p, dx, wv, sv, rfl, hp, hw, hs⟩ := q1
  exact ⟨p, _, dx, _, sv, rfl, W1.sub _ _ hp, T.cl, T.ns, prgF_s wv sv, (kk.up e1 p1).now W1 hs⟩
theorem dv_written {ws sd : PyData} (T : PrgC X.K) (h : dV X c e ρ μ (.prg ws sd) μ1) (hb : attributeBase e "written" X.env (eval e X.env) = eval e X.env := by rfl) : dV X c (.Attribute e "written" pos) ρ μ (.dat ws) μ1 := .mk fun m S H σ W R Q kk => by
  refine wE_of (pe_fld pe_w hb) ?_
  refine h m S H σ W R _ fun m1 S1 v H1 W1 e1 p1 q1 => ?_
  obtain ⟨p, dx, wv, sv, rfl, hp, hw, hs⟩ := q1
  exact ⟨p, _, dx, _, wv, rfl, W1.sub _ _ hp, T.cl, T.nw, prgF_w wv sv, (kk.up e1 p1).now W1 hw⟩
/-! ### slices of tuples -/
theorem cut_whole {lo hi : Option Int} (h : HT.sIx ds.length 0 lo = 0 ∧ HT.sIx ds.length ds.length hi = ds.length) : cutD ds lo hi = ds := by
  unfold cutD
  rw [h.1, h.2]; simp
theorem dv_slT {lo hi : Option Expr} {ol oh : Option Int} {p2 : Pos} (ha : dV X c a ρ μ (.dat (.tuple ds)) μ1) (hl : dO X c lo ρ μ1 ol μ2) (hh : dO X c hi ρ μ2 oh μ3) : dV X c (.Subscript a (.Slice lo hi none p2) pos) ρ μ (.dat (.tuple (cutD ds ol oh))) μ3 := .mk fun m S H σ W R Q kk => by
  refine wE_of (pe_slice sl_tupA pe_w (po_w lo) (po_w hi)) ?_
  refine ha m S H σ W R _ fun m1 S1 x H1 W1 e1 p1 q1 => ?_
  refine hl.go W1 (R.mono e1 p1) fun m2 S2 H2 W2 e2 p2 => ?_
  refine hh.go W2 ((R.mono e1 p1).mono e2 p2) fun m3 S3 H3 W3 e3 p3 => ?_
  have q3 := Dq.mono e3 (Dq.mono e2 q1)
  obtain ⟨p, xs, rfl, hx, hs⟩ := Dq.of_tup q3
  have kk3 := ((kk.up e1 p1).up e2 p2).up e3 p3
  refine ⟨p, xs, rfl, Evl.ex_t W3.sub hx, fun z => ?_, fun _ q hq => kk3.tup W3 (hs.cut _ _) hq⟩
  rw [hs.length] at z
  rw [cut_whole z] at kk3
  exact kk3.now W3 q3
/-! ### isinstance, an object of the program -/
theorem dv_isi {T : String} (hm : X.mg "isinstance" = none) (hmT : X.mg (Str.ofString T) = none) (hvT : bootBuiltins (Str.ofString T) = some (.type T)) (h : dV X c a ρ μ (.dat d) μ1) (hk : kitB (tyD d) T = some k) (hg : Gl X "isinstance" := by rfl) (hgT : Gl X (Str.ofString T) := by rfl) (hnT : (Str.ofString T) ≠ ("__name__" : Str) := by decide +kernel) (hdT : ((Str.ofString T) == ("__debug__" : Str)) = false := by decide +kernel) {pT : Pos}
    (he : starEach [a, .Name (Str.ofString T) pT] X.env = (false, eval a X.env) :: starEach [.Name (Str.ofString T) pT] X.env := by exact star_cons rfl) (he' : starEach [.Name (Str.ofString T) pT] X.env = (false, eval (.Name (Str.ofString T) pT) X.env) :: starEach [] X.env := by exact star_cons rfl) (hpl : (backTo pos (starEach [.Name (Str.ofString T) pT] X.env)).any (·.1) = false := by rfl) :
    dV X c (.Call (.Name "isinstance" p) [a, .Name (Str.ofString T) pT] [] pos) ρ μ (.dat (.bool k)) μ1 := by
  refine dv_callB (ss := [.dat d, .raw (.ty T)]) call_isi hm (by decide +kernel) (da2 h (.mk fun m S H σ W R Q kk => wE_of (pe_bltn (v := .ty T) hgT hmT hvT rfl hnT hdT) (kk.now W rfl)) he he') (fun m S H vs Q W q kk => ?_) hg (by decide) (by decide) he hpl
  obtain ⟨v, v', rfl, hv, hv'⟩ := slVs2 q
  have hv' : v' = .ty T := hv'
  subst hv'
  exact ⟨v, .ty T, _, _, k, rfl, .ty T, Dq.tyX hv W.sub, kit_ty hk, kk.now W (.bl _)⟩
end
end Dr
set_option maxHeartbeats 4000000
namespace Dr
open PySem PySem.Spec PyProof.Rows L2
/-! ### an object that is neither data nor owned -/
section
variable {P : Program} {w : World} {K : PySem.W.Frag} {c : Ct} {μ : List Mo} {m : List Addr} {S H : Hp} {D : Addr} {o : HO}
theorem MoOk.hid (W : MoOk P w K c μ m S H) (hm : D ∉ m) (hS : S D = none) (h0 : c.H0 D = none) : MoOk P w K c μ m S (upd H D o) where
  ex0 := W.ex0
  sub := fun b u q => by
    have : b ≠ D := fun z => by rw [z, hS] at q; cases q
    rw [upd_ne this]; exact W.sub b u q
  new := W.new
  old := fun b u hb q => by
    have : b ≠ D := fun z => by rw [z, h0] at q; cases q
    rw [upd_ne this]; exact W.old b u hb q
  pre := W.pre
  nd := W.nd
  fr := W.fr
  out := W.out
  len := W.len
  obj := fun k a u h1 h2 => (W.obj k a u h1 h2).mono (fun _ _ z => z) fun v q => by
    have : a ≠ D := fun z => hm (z ▸ List.mem_of_getElem? h1)
    rw [upd_ne this]; exact q
theorem MoOk.showD (W : MoOk P w K c μ m S H) (hm : D ∉ m) (hS : S D = none) (h0 : c.H0 D = none) (hD : H D = some o) : MoOk P w K c μ m (upd S D o) H ∧ Ex S (upd S D o) := by
  have e : Ex S (upd S D o) := Evl.Ex.new hS
  refine ⟨⟨W.ex0.trans e, fun b u q => ?_, fun b u q => ?_, W.old, W.pre, W.nd, W.fr, fun a ha => ?_, W.len, fun k a u h1 h2 => (W.obj k a u h1 h2).mono e fun _ z => z⟩, e⟩
  · by_cases hb : b = D
    · subst hb; rw [upd_same] at q; rw [← q]; exact hD
    · rw [upd_ne hb] at q; exact W.sub b u q
  · by_cases hb : b = D
    · subst hb; exact .inr h0
    · rw [upd_ne hb] at q; exact W.new b u q
  · have : a ≠ D := fun z => hm (z ▸ ha)
    rw [upd_ne this]; exact W.out a ha
theorem MoOk.keepHid {μ' : List Mo} {m' : List Addr} {S' H' : Hp} (B : MoOk P w K ⟨H, S, m⟩ μ' m' S' H') (hm : D ∉ m) (hS : S D = none) (hD : H D = some o) : D ∉ m' ∧ S' D = none ∧ H' D = some o := by
  refine ⟨fun z => ?_, ?_, B.old D o hm hD⟩
  · rcases B.fr D z with r | r
    · exact hm r
    · have r : H D = none := r
      rw [hD] at r; cases r
  · cases q : S' D with
    | none => rfl
    | some u =>
      rcases B.new D u q with r | r
      · have r : S D = some u := r
        rw [hS] at r; cases r
      · have r : H D = none := r
        rw [hD] at r; cases r
end
/-! ### list comprehensions, the target a name -/
def wBE (X : Cx) (scope : Scope) (e : Expr) : TE := fun σ H Q => ∀ (s0 : Shared) (H0 : Hp) (C : Addr) (cl : List (Str × Addr)) (fp : List Addr), wE (X.blk s0 H0 scope (compEnvC scope cl C X.env) fp) e σ H Q
def wBT (X : Cx) (scope : Scope) (e : Expr) : TT := fun σ H Q => ∀ (s0 : Shared) (H0 : Hp) (C : Addr) (cl : List (Str × Addr)) (fp : List Addr), wT (X.blk s0 H0 scope (compEnvC scope cl C X.env) fp) e σ H Q
/-- an element, a test: in whatever block -/
def dBV (X : Cx) (scope : Scope) (e : Expr) (ρ : List Sl) (μ : List Mo) (s' : Sl) (μ' : List Mo) : Prop := ∀ (c : Ct) (s0 : Shared) (H0 : Hp) (C : Addr) (cl : List (Str × Addr)) (fp : List Addr), dV (X.blk s0 H0 scope (compEnvC scope cl C X.env) fp) c e ρ μ s' μ'
def dBT (X : Cx) (scope : Scope) (e : Expr) (ρ : List Sl) (μ : List Mo) (b : Bool) (μ' : List Mo) : Prop := ∀ (c : Ct) (s0 : Shared) (H0 : Hp) (C : Addr) (cl : List (Str × Addr)) (fp : List Addr), dT (X.blk s0 H0 scope (compEnvC scope cl C X.env) fp) c e ρ μ b μ'
section
variable {X : Cx} {c : Ct} {ρ ρ1 ρ2 : List Sl} {μ μ1 μ2 μ3 ν : List Mo} {s s1 s2 s3 : Sl} {a b e t tg iter ob elt : Expr} {es rest : List Expr} {st : Stmt} {sts body orelse : List Stmt} {pos p apos : Pos} {k k1 k2 : Bool} {d : PyData} {ds ds2 : List PyData} {o : Out} {scope : Scope} {i : Nat}
/-- the one test, or none -/
def dIf (X : Cx) (scope : Scope) (ifs : List Expr) (ρ : List Sl) (μ : List Mo) (b : Bool) (μ' : List Mo) : Prop := match ifs with
  | [] => b = true ∧ μ' = μ
  | [e] => dBT X scope e ρ μ b μ'
  | _ => False
def wIf (X : Cx) (scope : Scope) (ifs : List Expr) : TT := match ifs with
  | [e] => wBT X scope e
  | _ => tYes
theorem wipe1 (σ : L2.St) (i : Nat) (x : V) : wipe ((wipe σ [i]).set i (some x)) [i] = wipe σ [i] := by
  show ((σ.set i none).set i (some x)).set i none = σ.set i none
  rw [List.set_set, List.set_set]
theorem SlOk.wipe {K : PySem.W.Frag} {S : Hp} {m : List Addr} {σ : L2.St} (h : SlOk K S m σ ρ) (i : Nat) : SlOk K S m (wipe σ [i]) (ρ.set i .no) := by
  show SlOk K S m (σ.set i none) (ρ.set i .no)
  refine ⟨by rw [List.length_set, List.length_set]; exact h.len, fun j t e => ?_⟩
  by_cases hj : j = i
  · subst hj
    have hl : j < ρ.length := by
      have := (List.getElem?_eq_some_iff.mp e).1
      rw [List.length_set] at this; exact this
    rw [List.getElem?_set_self hl] at e
    exact .inl (by cases e; rfl)
  · rw [List.getElem?_set_ne (Ne.symm hj)] at e ⊢
    exact h.at_ j t e
theorem lc_read {Pm : List Mo → Prop} {ifs : List Expr} {wi : TI} {μe : List Mo} {acce : List PyData} (J : Nat → List PyData → List Mo → Prop) (hz : ds.length < sizeLine)
    (hi : ∀ m S H σ, Wd X c μ m S H → SlOk X.K S m σ ρ → ∀ R : It → Hp → Prop, (∀ J m' S' H', Wd X c μ1 m' S' H' → Ex S S' → m <+: m' → ItOk X J m' S' Pm ds → R J H') → wi σ H R)
    (h0 : J 0 [] μ1) (hP : ∀ n acc μ', J n acc μ' → Pm μ') (hlen : ∀ n acc μ', J n acc μ' → acc.length ≤ n)
    (hs : ∀ n d acc μ', ds[n]? = some d → J n acc μ' → ∃ kb μ2, dIf X scope ifs (ρ.set i (.dat d)) μ' kb μ2 ∧ (kb = true → ∃ e μ3, dBV X scope elt (ρ.set i (.dat d)) μ2 (.dat e) μ3 ∧ J (n + 1) (acc ++ [e]) μ3) ∧ (kb = false → J (n + 1) acc μ2))
    (hd : ∀ acc μ', J ds.length acc μ' → acc = acce ∧ μ' = μe) {m : List Addr} {S H : Hp} {σ : L2.St} (W : Wd X c μ m S H) (R : SlOk X.K S m σ ρ) {Q : VK} (kk : KV X c S m (.dat (.list acce)) μe Q) :
    tLc wi (gName i) (wIf X scope ifs) (wBE X scope elt) [i] σ H Q := by
  refine hi m S H σ W R _ fun It m1 S1 H1 W1 e1 p1 hIt D hD => ?_
  obtain ⟨f1, f2, f3, f4, f5⟩ := W1.free hD
  let Wv : Nat → Nat → Hp → Prop := fun n x H => x = ds.length - n ∧ n ≤ ds.length ∧ ∃ acc μ' m' S' xs, J n acc μ' ∧ Wd X c μ' m' S' H ∧ H D = some (.lst xs) ∧ DqA X.K S' xs acc ∧ D ∉ m' ∧ S' D = none ∧ Ex S1 S' ∧ m1 <+: m'
  refine ⟨Wv, ⟨_, rfl, Nat.zero_le _, [], μ1, m1, S1, [], h0, W1.hid f1 f2 f4, upd_same, .nil, f1, f2, Evl.Ex.refl _, List.prefix_refl _⟩, ?_⟩
  rintro n x H' ⟨rfl, hle, acc, μ', m', S', xs, hJ, W', hD', hxs, nm, nS, e', p'⟩
  by_cases hlt : n < ds.length
  · have hd1 : ds[n]? = some ds[n] := List.getElem?_eq_getElem hlt
    obtain ⟨g1, g2⟩ := hIt.go c μ' m' S' H' n _ W' e' p' (hP n acc μ' hJ) hd1
    refine .inr ⟨g1, fun H2 => Wv (n + 1) (ds.length - (n + 1)) H2, fun H2 h2 => ⟨_, by omega, h2⟩, fun v Hy hy => ?_⟩
    obtain ⟨Sy, Wy0, qy⟩ := g2 v Hy hy
    have Wy := W'.trans Wy0
    have ey : Ex S' Sy := Wy0.ex0
    obtain ⟨_, nSy, hDy⟩ := Wy0.keepHid nm nS hD'
    refine ⟨wipe1 σ i v, ?_⟩
    obtain ⟨kb, μ2, hT, hY, hN⟩ := hs n _ acc μ' hd1 hJ
    have Rw : SlOk X.K Sy m' ((wipe σ [i]).set i (some v)) (ρ.set i (.dat ds[n])) := by
      have h1 := (((R.mono e1 p1).mono e' p').mono ey (List.prefix_refl _)).wipe i
      have h2 := h1.set (i := i) (s := .dat ds[n]) qy
      rw [List.set_set] at h2
      exact h2
    -- behind the test, in a world of the same hidden list
    have after : ∀ m2 S2 H2, Wd X ⟨Hy, Sy, m'⟩ μ2 m2 S2 H2 → Ex Sy S2 → m' <+: m2 → (if kb = true then wBE X scope elt ((wipe σ [i]).set i (some v)) H2 fun y H4 => ∃ ac, H4 D = some (.lst ac) ∧ ac.length < sizeLine ∧ Wv (n + 1) (ds.length - (n + 1)) (upd H4 D (.lst (ac ++ [y]))) else Wv (n + 1) (ds.length - (n + 1)) H2) := by
      intro m2 S2 H2 W2 e2 p2
      obtain ⟨nm2, nS2, hD2⟩ := W2.keepHid nm nSy hDy
      cases kb with
      | false => exact iteF ⟨rfl, hlt, acc, μ2, m2, S2, xs, hN rfl, Wy.trans W2, hD2, (hxs.mono ey).mono e2, nm2, nS2, (e'.trans ey).trans e2, p'.trans p2⟩
      | true =>
        obtain ⟨e, μ3, hE, hJ3⟩ := hY rfl
        refine iteT fun s0 H0 C cl fp => ?_
        refine hE ⟨H2, S2, m2⟩ s0 H0 C cl fp m2 S2 H2 _ W2.self (Rw.mono e2 p2) _ fun m3 S3 y H3 W3 e3 p3 q3 => ?_
        obtain ⟨nm3, nS3, hD3⟩ := MoOk.keepHid (show MoOk X.prog X.w X.K ⟨H2, S2, m2⟩ μ3 m3 S3 H3 from W3) nm2 nS2 hD2
        have hl : acc.length ≤ n := hlen _ _ _ hJ
        have hx3 : DqA X.K S3 xs acc := ((hxs.mono ey).mono e2).mono e3
        exact ⟨xs, hD3, by rw [hx3.length]; omega, rfl, hlt, acc ++ [e], μ3, m3, S3, xs ++ [y], hJ3, ((Wy.trans W2).trans W3).hid nm3 nS3 f4, upd_same, hx3.snoc q3, nm3, nS3, ((e'.trans ey).trans e2).trans e3, (p'.trans p2).trans p3⟩
    cases ifs with
    | nil =>
      obtain ⟨rfl, rfl⟩ := hT
      exact after m' Sy Hy Wy.self (Evl.Ex.refl _) (List.prefix_refl _)
    | cons t r =>
      cases r with
      | cons t2 r2 => exact (show False from hT).elim
      | nil =>
        have hT : dBT X scope t (ρ.set i (.dat ds[n])) μ' kb μ2 := hT
        exact fun s0 H0 C cl fp => hT ⟨Hy, Sy, m'⟩ s0 H0 C cl fp m' Sy Hy _ Wy.self Rw _ fun m2 S2 H2 W2 e2 p2 => after m2 S2 H2 W2 e2 p2
  · have en : n = ds.length := by omega
    subst en
    obtain ⟨rfl, rfl⟩ := hd acc μ' hJ
    obtain ⟨W3, e3⟩ := W'.showD nm nS f4 hD'
    exact .inl ⟨hIt.stop c μ' m' S' H' _ W' e' p' (hP _ _ _ hJ) (Nat.le_refl _), kk m' _ _ H' W3 ((e1.trans e').trans e3) (p1.trans p') (.lst (.inl upd_same) (hxs.mono e3))⟩
theorem dv_lc {Pm : List Mo → Prop} {ifs : List Expr} {x : Str} {px : Pos} {μe : List Mo} {acce : List PyData} (J : Nat → List PyData → List Mo → Prop) (hc : X.calm = true) (hN : X.N.Nodup) (ok : BlkOk X.N X.env.scope scope [(x, i)])
    (hi : dI X c (.Name x px) iter ρ μ Pm ds μ1) (hz : ds.length < sizeLine) (h0 : J 0 [] μ1) (hP : ∀ n acc μ', J n acc μ' → Pm μ') (hlen : ∀ n acc μ', J n acc μ' → acc.length ≤ n)
    (hs : ∀ n d acc μ', ds[n]? = some d → J n acc μ' → ∃ kb μ2, dIf X scope ifs (ρ.set i (.dat d)) μ' kb μ2 ∧ (kb = true → ∃ e μ3, dBV X scope elt (ρ.set i (.dat d)) μ2 (.dat e) μ3 ∧ J (n + 1) (acc ++ [e]) μ3) ∧ (kb = false → J (n + 1) acc μ2))
    (hd : ∀ acc μ', J ds.length acc μ' → acc = acce ∧ μ' = μe)
    (hg : ∀ (s : Shared) (H : Hp) (C : Addr) (cl : List (Str × Addr)) (fp : List Addr), PG (X.blk s H scope (compEnvC scope cl C X.env) fp) (.Name x px) (gName i)) (hif : ifs.length ≤ 1) (hf : ∀ y, foldedSetIterable iter X.env y = pure y := by intro _; rfl) :
    dV X c (.ListComp elt [⟨.Name x px, iter, ifs, 0⟩] scope pos) ρ μ (.dat (.list acce)) μe := .mk fun m S H σ W R Q kk => by
  obtain ⟨wi, hwi, hi⟩ := hi
  refine wE_of (pe_lc (own := [(x, i)]) (g := gName i) (tt := wIf X scope ifs) (te := wBE X scope elt) hc hN hwi ok hg (fun s0 H0 C cl fp => ?_) (fun s0 H0 C cl fp => ⟨fun pins s _ _ _ I h => h s0 H0 C cl fp pins s I⟩) hf) (lc_read J hz hi h0 hP hlen hs hd W R kk)
  cases ifs with
  | nil => exact pts_nil
  | cons t r =>
    cases r with
    | nil => exact pts_one ⟨fun pins s _ _ _ I h => h s0 H0 C cl fp pins s I⟩
    | cons t2 r2 => simp at hif
/-- name = [..] -/
theorem dx_setLc {Pm : List Mo → Prop} {ifs : List Expr} {x y : Str} {j : Nat} {px py spos : Pos} {μe : List Mo} {acce : List PyData} (J : Nat → List PyData → List Mo → Prop) (hc : X.calm = true) (hN : X.N.Nodup) (hy : X.N[j]? = some y) (hyl : X.env.scope.names.lookup y = some .local) (ok : BlkOk X.N X.env.scope scope [(x, i)])
    (hsw : swapsWith (.ListComp elt [⟨.Name x px, iter, ifs, 0⟩] scope pos) (some (.Name y py)) spos.line X.env = pure true)
    (hi : dI X c (.Name x px) iter ρ μ Pm ds μ1) (hz : ds.length < sizeLine) (h0 : J 0 [] μ1) (hP : ∀ n acc μ', J n acc μ' → Pm μ') (hlen : ∀ n acc μ', J n acc μ' → acc.length ≤ n)
    (hs : ∀ n d acc μ', ds[n]? = some d → J n acc μ' → ∃ kb μ2, dIf X scope ifs (ρ.set i (.dat d)) μ' kb μ2 ∧ (kb = true → ∃ e μ3, dBV X scope elt (ρ.set i (.dat d)) μ2 (.dat e) μ3 ∧ J (n + 1) (acc ++ [e]) μ3) ∧ (kb = false → J (n + 1) acc μ2))
    (hd : ∀ acc μ', J ds.length acc μ' → acc = acce ∧ μ' = μe)
    (hg : ∀ (s : Shared) (H : Hp) (C : Addr) (cl : List (Str × Addr)) (fp : List Addr), PG (X.blk s H scope (compEnvC scope cl C X.env) fp) (.Name x px) (gName i)) (hif : ifs.length ≤ 1) (hf : ∀ y, foldedSetIterable iter X.env y = pure y := by intro _; rfl) :
    dX X c (.Assign [.Name y py] (.ListComp elt [⟨.Name x px, iter, ifs, 0⟩] scope pos) spos) ρ μ (.nx (ρ.set j (.dat (.list acce))) μe) := .mk fun m S H σ W R D kk => by
  obtain ⟨wi, hwi, hi⟩ := hi
  refine wS_of (ps_setLc (own := [(x, i)]) (g := gName i) (tt := wIf X scope ifs) (te := wBE X scope elt) hc hN hy hyl hsw hwi ok hg (fun s0 H0 C cl fp => ?_) (fun s0 H0 C cl fp => ⟨fun pins s _ _ _ I h => h s0 H0 C cl fp pins s I⟩) hf)
    (lc_read J hz hi h0 hP hlen hs hd W R fun m1 S1 v H1 W1 e1 p1 q1 => kk m1 S1 _ H1 W1 e1 p1 ((R.mono e1 p1).set q1))
  cases ifs with
  | nil => exact pts_nil
  | cons t r =>
    cases r with
    | nil => exact pts_one ⟨fun pins s _ _ _ I h => h s0 H0 C cl fp pins s I⟩
    | cons t2 r2 => simp at hif
end
end Dr
set_option maxHeartbeats 4000000
namespace Dr
open PySem PySem.Spec PyProof.Rows L2
section
variable {X : Cx} {c : Ct} {ρ ρ1 ρ2 : List Sl} {μ μ1 μ2 μ3 ν : List Mo} {s s1 s2 s3 : Sl} {a b e t tg iter ob ix : Expr} {es rest : List Expr} {st : Stmt} {sts body orelse : List Stmt} {pos p apos : Pos} {k k1 k2 : Bool} {d : PyData} {ds ds2 : List PyData} {o : Out}
/-! ### owned lists: made, an item stored -/
theorem KV.lstM {S H : Hp} {m : List Addr} {Q : VK} (kk : KV X c S m (.own μ.length) (μ ++ [.lst ds]) Q) (W : Wd X c μ m S H) {xs : List V} (hs : DqA X.K S xs ds) {p : Addr} (h : H p = none) : Q (.ref p) (upd H p (.lst xs)) := by
  have W' := W.layM (u := .lst ds) h ⟨xs, upd_same, hs⟩
  refine kk _ S _ _ W' (Evl.Ex.refl S) (List.prefix_append _ _) ⟨p, ?_, rfl⟩
  rw [W.len]; simp
theorem dv_lstM (h : dD X c es ρ μ ds μ1) (hl : ds.length ≤ sizeLine := by first | decide | exact Nat.le_trans (Nat.le_of_ble_eq_true rfl) (show 64 ≤ sizeLine by decide)) : dV X c (.List es pos) ρ μ (.own μ1.length) (μ1 ++ [.lst ds]) := .mk fun m S H σ W R Q kk => by
  refine wE_of (pe_lst pa_w) ?_
  refine h m S H σ W R _ fun m1 S1 xs H1 W1 e1 p1 q1 => ?_
  have hs := slVs_dat q1
  exact ⟨by rw [hs.length]; exact hl, fun p hp => (kk.up e1 p1).lstM W1 hs hp⟩
theorem dx_setI {j q : Nat} {n : Int} {pt : Pos} (he : dV X c e ρ μ (.dat d) μ1) (ho : dV X c ob ρ μ1 (.own j) μ2) (hi : dV X c ix ρ μ2 (.dat (.int n)) μ3) (hj : μ3[j]? = some (.lst ds)) (hn : ixN ds.length n = some q)
    (hs : swapsWithSole [.Subscript ob ix pt] e pos.line X.env = pure false := by rfl) (hw : swappedStores [.Subscript ob ix pt] e X.env = pure none := by rfl)
    (h1 : (assignEach [.Subscript ob ix pt] X.env).map (·.2) = [assign (.Subscript ob ix pt) X.env] := by rfl) (hpg : PG X (.Subscript ob ix pt) (gSub (wE X ob) (wE X ix) rSetL) := by exact pg_sub pe_w pe_w set_list) :
    dX X c (.Assign [.Subscript ob ix pt] e pos) ρ μ (.nx ρ (μ3.set j (.lst (ds.set q d)))) := .mk fun m S H σ W R D kk => by
  refine wS_of (ps_asg pe_w hpg hs hw h1) ?_
  refine he m S H σ W R _ fun m1 S1 v H1 W1 e1 p1 q1 => ?_
  refine ho m1 S1 H1 σ W1 (R.mono e1 p1) _ fun m2 S2 ov H2 W2 e2 p2 q2 => ?_
  refine hi m2 S2 H2 σ W2 ((R.mono e1 p1).mono e2 p2) _ fun m3 S3 iv H3 W3 e3 p3 q3 => ?_
  obtain rfl := Dq.of_int q3
  obtain ⟨l, hl, rfl⟩ := q2
  have hl3 : m3[j]? = some l := own_at (K := X.K) (S := S) (S' := S) hl p3
  obtain ⟨xs, hx, hxs⟩ := W3.lst hl3 hj
  refine ⟨l, xs, n, q, rfl, rfl, hx, by rw [hxs.length]; exact hn, ?_⟩
  exact kk m3 S3 σ _ (W3.put hl3 ⟨_, upd_same, hxs.set q ((Dq.mono e2 q1).mono e3)⟩) ((e1.trans e2).trans e3) ((p1.trans p2).trans p3) (((R.mono e1 p1).mono e2 p2).mono e3 p3)
/-! ### dicts with tuple keys -/
theorem nested_flat {X : Cx} {pins : List (Addr × Obj)} {σ : L2.St} {H : Hp} {s : Shared} : ∀ {ds : List PyData} {xs : List V} {us : List Value} {S : Hp}, DqA X.K S xs ds → Vals xs us → ds.all flatD = true → NestedAll s.heap (nkA ds) us
  | [], _, _, _, .nil, .nil, _ => .nil
  | d :: ds, _, _, S, .cons h hs, .cons r rs, f => by
    have f' : flatD d = true ∧ ds.all flatD = true := by simpa using f
    refine .cons ?_ (nested_flat (X := X) (pins := pins) (σ := σ) (H := H) hs rs f'.2)
    cases h with
    | non => obtain rfl := (show _ = Value.none from r); exact .none
    | bl b => obtain rfl := (show _ = Value.bool b from r); exact .bool rfl
    | int i => obtain ⟨t, rfl⟩ := r; exact .int i t
    | str x => obtain ⟨t, rfl⟩ := r; exact .text x t
    | lst _ _ => exact absurd f'.1 (by simp [flatD])
    | tup _ _ => exact absurd f'.1 (by simp [flatD])
    | dct _ _ => exact absurd f'.1 (by simp [flatD])
theorem nk_depth : ∀ {ds : List PyData}, ds.all flatD = true → NestedKey.depthAll (nkA ds) ≤ 0
  | [], _ => by simp [nkA, NestedKey.depthAll]
  | d :: ds, f => by
    have f' : flatD d = true ∧ ds.all flatD = true := by simpa using f
    have h1 := nk_depth f'.2
    cases d <;> simp_all [flatD, nkA, nk, NestedKey.depthAll, NestedKey.depth]
theorem key_is {X : Cx} {pins : List (Addr × Obj)} {σ : L2.St} {H : Hp} {s : Shared} (I : Inv X pins σ H s) {S : Hp} (e : Ex S H) {a : Addr} {d : PyData} (h : Dq X.K S (.ref a) d) (hk : keyOk d = true) : (nestedKind X.prog X.w).is s.heap (nk d) a := by
  cases h with
  | tup h hs =>
    obtain ⟨its, rv, ⟨o, ho, hc, n, hd⟩, _⟩ := I.tuple (Evl.ex_t e h)
    have f : _ := show _ = true from hk
    refine ⟨.tup ho hc hd (by simpa using nested_flat (X := X) (pins := pins) (σ := σ) (H := H) hs rv f), ?_⟩
    have := nk_depth f
    simp only [nk, NestedKey.depth]
    omega
  | lst h hs => simp [keyOk] at hk
  | dct h hs => simp [keyOk] at hk
theorem key_ref {K : PySem.W.Frag} {S : Hp} {v : V} {d : PyData} (h : Dq K S v d) (hk : keyOk d = true) : ∃ a, v = .ref a := by
  cases h <;> first | exact ⟨_, rfl⟩ | simp [keyOk] at hk
/-- what an owned dict is to the machine -/
theorem dic_of {X : Cx} {pins : List (Addr × Obj)} {σ : L2.St} {H : Hp} {s : Shared} (I : Inv X pins σ H s) {S : Hp} (e : Ex S H) {a : Addr} {es : Array DictEntry} {ep : Nat} {xs : List (NestedKey × Addr × Value)} {ks : List PyData} (h : H a = some (dicO a es ep))
    (he : es.toList = xs.map (entryOfKey (nestedKind X.prog X.w))) (hn : (xs.map (·.1)).Nodup) (hk : Paired (KeyR X.K S) xs ks) : s.heap.DictOfH (nestedKind X.prog X.w) a xs := by
  obtain ⟨⟨ob, h1, h2, h3⟩, _, _⟩ := (show ObjOk X.prog X.w H s.heap a (dicO a es ep) from I.hok a _ h)
  refine ⟨ob, es, ep, h1, h2, h3, he, fun x hx => ?_, hn⟩
  have : ∀ {xs : List (NestedKey × Addr × Value)} {ks : List PyData}, Paired (KeyR X.K S) xs ks → x ∈ xs → (nestedKind X.prog X.w).is s.heap x.1 x.2.1 := fun {xs ks} hp => by
    induction hp with
    | nil => intro z; cases z
    | cons r _ ih =>
      intro z
      rcases List.mem_cons.mp z with rfl | z
      · rw [r.1]; exact key_is I e r.2.1 r.2.2
      · exact ih z
  exact this hk hx
theorem atKey_none {xs : List (NestedKey × Addr × Value)} {k : NestedKey} : (atKey xs k).isSome = xs.any fun x => decide (x.1 = k) := by
  induction xs with
  | nil => rfl
  | cons x xs ih =>
    unfold atKey at ih ⊢
    by_cases h : x.1 = k
    · simp [h]
    · simp [h, ← ih]
theorem any_keys {K : PySem.W.Frag} {S : Hp} {d : PyData} : ∀ {xs : List (NestedKey × Addr × Value)} {ks : List PyData}, Paired (KeyR K S) xs ks → (xs.any fun x => decide (x.1 = nk d)) = ks.any fun k => decide (nk k = nk d)
  | _, _, .nil => rfl
  | _, _, .cons r t => by rw [List.any_cons, List.any_cons, any_keys t, r.1]
/-- is the key there -/
def hasK (ks : List PyData) (d : PyData) : Bool := ks.any fun k => decide (nk k = nk d)
def rNinK (X : Cx) : R2 := fun x y H Q => ∃ S a q es ep xs ks d, Ex S H ∧ x = .ref a ∧ y = .ref q ∧ Dq X.K S (.ref a) d ∧ keyOk d = true ∧ H q = some (dicO q es ep) ∧ (q == sysModules) = false ∧ es.toList = xs.map (entryOfKey (nestedKind X.prog X.w)) ∧ (xs.map (·.1)).Nodup ∧ Paired (KeyR X.K S) xs ks ∧ Q (.bl (!hasK ks d)) H
theorem op_ninK (hu : X.A.units + 64 < cLine) : OpR X (compareOp .NotIn) (rNinK X) := by
  intro pins s σ H x y v u Q I rx ry h
  obtain ⟨S, a, q, es, ep, xs, ks, d, ex, rfl, rfl, hd, hk, hq, hsm, he, hn, hp, kq⟩ := h
  obtain rfl := (show v = Value.ref a from rx)
  obtain rfl := (show u = Value.ref q from ry)
  have hm := dic_of I ex hq he hn hp
  have hr : (nestedKind X.prog X.w).room X.A.in1 := by show X.A.units + 1 + 8 < cLine; omega
  refine notIn_keyed (knd := nestedKind X.prog X.w) hr (key_is I ex hd hk) hsm ⟨xs, hm, rfl⟩ ⟨.bl _, H, I.tok _, ?_, kq⟩
  rw [valueAt_pairsH, Option.isSome_map, atKey_none, any_keys hp]
  rfl
theorem c_ninK (hu : X.A.units + 64 < cLine) {j : Nat} {ks : List PyData} (hj : μ[j]? = some (.dic ks)) (hk : keyOk d = true) : CmpR X c .NotIn (.dat d) (.own j) μ (!hasK ks d) :=
  ⟨_, op_ninK hu, fun m S H x y Q W h1 h2 q => by
    obtain ⟨l, hl, rfl⟩ := h2
    obtain ⟨es, ep, xs, r1, r2, r3, r4, r5⟩ := W.obj j l _ hl hj
    obtain ⟨a, rfl⟩ := key_ref h1 hk
    exact ⟨S, a, l, es, ep, xs, ks, d, W.sub, rfl, rfl, h1, hk, r1, r2, r3, r4, r5, q⟩⟩
/-- d[k] = v, k new -/
def rSetK (X : Cx) : TSet := fun o i v H Q => ∃ S a q es ep xs ks d, Ex S H ∧ i = .ref a ∧ o = .ref q ∧ Dq X.K S (.ref a) d ∧ keyOk d = true ∧ H q = some (dicO q es ep) ∧ es.toList = xs.map (entryOfKey (nestedKind X.prog X.w)) ∧ (xs.map (·.1)).Nodup ∧ Paired (KeyR X.K S) xs ks ∧ hasK ks d = false ∧ ks.length < sizeLine ∧
  ∀ es' ep' u, es'.toList = (xs ++ [(nk d, a, u)]).map (entryOfKey (nestedKind X.prog X.w)) → ((xs ++ [(nk d, a, u)]).map (·.1)).Nodup → Q (upd H q (dicO q es' ep'))
theorem Paired.len {α β : Type} {F : α → β → Prop} : ∀ {xs : List α} {ys : List β}, Paired F xs ys → xs.length = ys.length
  | _, _, .nil => rfl
  | _, _, .cons _ t => congrArg Nat.succ (Paired.len t)
theorem dicO_ok {P : Program} {w : World} {H : Hp} {h : Heap} {q : Addr} {es : Array DictEntry} {ob : Obj} {ep : Nat} (h1 : h.get? q = some ob) (h2 : ob.ExactDict) (h3 : ob.data = .dict es ep) : ObjOk P w H h q (dicO q es ep) :=
  ⟨⟨ob, h1, h2, h3⟩, ⟨ob, h1⟩, fun _ _ ⟨o, a, b, c⟩ st => ⟨o, st _ a, b, c⟩⟩
theorem set_keyK (hu : X.A.units + 64 < cLine) : PSet X (rSetK X) := by
  intro pins s σ H o i v ov iv u Q I ro ri rv h
  obtain ⟨S, a, q, es, ep0, xs, ks, d, ex, rfl, rfl, hd, hk, hq, he, hn, hp, hno, hz, kq⟩ := h
  obtain rfl := (show iv = Value.ref a from ri)
  obtain rfl := (show ov = Value.ref q from ro)
  have hm := dic_of I ex hq he hn hp
  have hr : (nestedKind X.prog X.w).room X.A.in1 := by show X.A.units + 1 + 8 < cLine; omega
  refine wpAny_setItem_heap (hsz := by rw [Paired.len hp]; omega) hr (key_is I ex hd hk) hm fun h' hm' hs => ?_
  have hnone : (xs.any fun x => decide (x.1 = nk d)) = false := by rw [any_keys hp]; exact hno
  have est : storedH xs (nk d) a u = xs ++ [(nk d, a, u)] := by
    unfold storedH
    have : (atKey xs (nk d)).isSome = false := by rw [atKey_none]; exact hnone
    cases r : atKey xs (nk d) with
    | none => simp [r]
    | some z => rw [r] at this; cases this
  rw [est] at hm'
  obtain ⟨ob, es', ep, g1, g2, g3, g4, g5, g6⟩ := hm'
  refine ⟨_, I.write (x := q) (e := q) (o := dicO q es' ep) (by rw [hq]; trivial) (.inl rfl) (fun b u hb e => (hs.2 b hb).trans e) ⟨ob, g1⟩ (dicO_ok g1 g2 g3), kq es' ep u g4 g6⟩
theorem dx_setK {j : Nat} {pt : Pos} {ks : List PyData} (hu : X.A.units + 64 < cLine) (he : dV X c e ρ μ s μ1) (ho : dV X c ob ρ μ1 (.own j) μ2) (hi : dV X c ix ρ μ2 (.dat d) μ3) (hj : μ3[j]? = some (.dic ks)) (hk : keyOk d = true) (hno : hasK ks d = false) (hz : ks.length < sizeLine)
    (hs : swapsWithSole [.Subscript ob ix pt] e pos.line X.env = pure false := by rfl) (hw : swappedStores [.Subscript ob ix pt] e X.env = pure none := by rfl)
    (h1 : (assignEach [.Subscript ob ix pt] X.env).map (·.2) = [assign (.Subscript ob ix pt) X.env] := by rfl) (hpg : PG X (.Subscript ob ix pt) (gSub (wE X ob) (wE X ix) (rSetK X)) := by exact pg_sub pe_w pe_w (set_keyK (by assumption))) :
    dX X c (.Assign [.Subscript ob ix pt] e pos) ρ μ (.nx ρ (μ3.set j (.dic (ks ++ [d])))) := .mk fun m S H σ W R D kk => by
  refine wS_of (ps_asg pe_w hpg hs hw h1) ?_
  refine he m S H σ W R _ fun m1 S1 v H1 W1 e1 p1 q1 => ?_
  refine ho m1 S1 H1 σ W1 (R.mono e1 p1) _ fun m2 S2 ov H2 W2 e2 p2 q2 => ?_
  refine hi m2 S2 H2 σ W2 ((R.mono e1 p1).mono e2 p2) _ fun m3 S3 iv H3 W3 e3 p3 q3 => ?_
  obtain ⟨l, hl, rfl⟩ := q2
  have hl3 : m3[j]? = some l := own_at (K := X.K) (S := S) (S' := S) hl p3
  obtain ⟨es, ep, xs, r1, r2, r3, r4, r5⟩ := W3.obj j l _ hl3 hj
  obtain ⟨a, rfl⟩ := key_ref q3 hk
  refine ⟨S3, a, l, es, ep, xs, ks, d, W3.sub, rfl, rfl, q3, hk, r1, r3, r4, r5, hno, hz, fun es' ep' u g1 g2 => ?_⟩
  have pp : Paired (KeyR X.K S3) (xs ++ [(nk d, a, u)]) (ks ++ [d]) := by
    have : ∀ {xs : List (NestedKey × Addr × Value)} {ks : List PyData}, Paired (KeyR X.K S3) xs ks → Paired (KeyR X.K S3) (xs ++ [(nk d, a, u)]) (ks ++ [d]) := fun {xs ks} hp => by
      induction hp with
      | nil => exact .cons ⟨rfl, q3, hk⟩ .nil
      | cons r _ ih => exact .cons r ih
    exact this r5
  exact kk m3 S3 σ _ (W3.put hl3 ⟨es', ep', _, upd_same, r2, g1, g2, pp⟩) ((e1.trans e2).trans e3) ((p1.trans p2).trans p3) (((R.mono e1 p1).mono e2 p2).mono e3 p3)
/-- {} -/
theorem dv_dic0 : dV X c (.Dict [] [] pos) ρ μ (.own μ.length) (μ ++ [.dic []]) := .mk fun m S H σ W R Q kk pins s I => by
  have hn := I.hok.fresh (Nat.le_refl s.heap.objs.size)
  have I1 := I.laid (a := s.heap.objs.size) (o := dicO s.heap.objs.size #[] 0) (h' := s.heap.push { cls := .type "dict", data := .dict #[] }) (t' := s.toks) (fun _ _ q => Heap.get?_push_of_some _ q) (Nat.le_refl _) (by
    refine dicO_ok (Heap.get?_push_size _ rfl) ?_ rfl
    obtain ⟨ob, es, ep, g1, g2, g3, g4, _⟩ := Heap.DictOfH.new (knd := nestedKind X.prog X.w) s.heap
    rw [Heap.get?_push_size _ rfl] at g1
    cases g1
    exact g2)
  refine wpAny_Dict_empty ⟨.ref s.heap.objs.size, _, I1, rfl, ?_⟩
  have W' := W.layM (u := .dic []) hn (o := dicO s.heap.objs.size #[] 0) ⟨#[], 0, [], upd_same, beq_eq_false_iff_ne.mpr (Nat.ne_of_gt I.big), rfl, List.nodup_nil, .nil⟩
  refine kk _ S _ _ W' (Evl.Ex.refl S) (List.prefix_append _ _) ⟨s.heap.objs.size, ?_, rfl⟩
  rw [W.len]; simp
end
end Dr
set_option maxHeartbeats 4000000
/-! D13: short forms of calls, what is dropped and frozen at a def's end, conversions, walks of dicts and of enumerate. -/
namespace Dr
open PySem PySem.Spec PyProof.Rows L2
def calmB (n : Nat) : Sl → Bool
  | .own j => decide (j < n)
  | _ => true
theorem calm_of {n : Nat} {s : Sl} (h : calmB n s = true) : calm n s := by
  cases s with
  | own j => exact of_decide_eq_true (p := j < n) h
  | _ => trivial
theorem calms_of {n : Nat} {ss : List Sl} (h : ss.all (calmB n) = true) : ∀ u, u ∈ ss → calm n u := fun u hu => calm_of (List.all_eq_true.mp h u hu)
section
variable {P : Program} {w : World} {K : PySem.W.Frag} {c : Ct} {μ ν : List Mo} {m : List Addr} {S H : Hp}
theorem MoOk.keep (A : MoOk P w K c (μ ++ ν) m S H) (h : c.m0.length ≤ μ.length) : MoOk P w K c μ (m.take μ.length) S H where
  ex0 := A.ex0
  sub := A.sub
  new := A.new
  old := A.old
  pre := List.prefix_take_iff.mpr ⟨A.pre, h⟩
  nd := A.nd.sublist (List.take_sublist _ _)
  fr := fun a z => A.fr a (List.mem_of_mem_take z)
  out := fun a z => A.out a (List.mem_of_mem_take z)
  len := by
    have := A.len
    rw [List.length_append] at this
    rw [List.length_take]; omega
  obj := fun k a o h1 h2 => by
    have hk : k < μ.length := (List.getElem?_eq_some_iff.mp h2).1
    rw [List.getElem?_take_of_lt hk] at h1
    exact A.obj k a o h1 (by rw [List.getElem?_append_left hk]; exact h2)
theorem SlV.cut {s : Sl} {v : V} {n : Nat} (h : SlV K S m v s) (hs : calm n s) : SlV K S (m.take n) v s := by
  cases s with
  | own i =>
    obtain ⟨q, h1, h2⟩ := h
    exact ⟨q, by rw [List.getElem?_take_of_lt hs]; exact h1, h2⟩
  | no => exact h
  | dat d => exact h
  | raw v => exact h
  | prg a b => exact h
/-- the owned lists become data, all at once -/
def frzS (S H : Hp) (m : List Addr) : Hp := fun b => if b ∈ m then (match H b with
  | some (.lst xs) => some (.lst xs)
  | _ => none) else S b
theorem MoOk.freeze (A : MoOk P w K c μ m S H) (h0 : c.m0 = []) : MoOk P w K c [] [] (frzS S H m) H ∧ Ex S (frzS S H m) ∧ ∀ (k : Nat) (a : Addr) (ds : List PyData), m[k]? = some a → μ[k]? = some (.lst ds) → Dq K (frzS S H m) (.ref a) (.list ds) := by
  have e : Ex S (frzS S H m) := fun b o q => by
    have : b ∉ m := fun z => by rw [A.out b z] at q; cases q
    unfold frzS; rw [if_neg this]; exact q
  refine ⟨⟨A.ex0.trans e, fun b o q => ?_, fun b o q => ?_, A.old, by rw [h0]; exact List.prefix_refl _, List.nodup_nil, (fun a z => by cases z), (fun a z => by cases z), rfl, (fun k a o z => by cases z)⟩, e, fun k a ds h1 h2 => ?_⟩
  · unfold frzS at q
    split at q
    · split at q
      · rename_i hb; rw [hb]; exact q
      · cases q
    · exact A.sub b o q
  · unfold frzS at q
    split at q
    · rename_i hb
      rcases A.fr b hb with z | z
      · rw [h0] at z; cases z
      · exact .inr z
    · exact A.new b o q
  · obtain ⟨xs, hx, hs⟩ := A.obj k a _ h1 h2
    refine .lst (.inl ?_) (hs.mono e)
    unfold frzS; rw [if_pos (List.mem_of_getElem? h1), hx]
end
section
variable {X : Cx} {c : Ct} {ρ ρ1 ρ2 : List Sl} {μ μ1 μ2 μ3 ν : List Mo} {s s1 s2 s3 : Sl} {a b e t tg iter ob ix : Expr} {es rest : List Expr} {st : Stmt} {sts body orelse : List Stmt} {pos p apos : Pos} {k k1 k2 : Bool} {d : PyData} {ds ds2 : List PyData} {o : Out}
theorem dv_fn {x : Str} {j : Nat} {C : Ctr} {ss : List Sl} (F : FnD X.prog X.w X.K X.mg X.base x j C) (hr : Room j X.A) (ha : dA X c (e :: es) ρ μ ss μ1) (hC : C ss [] s []) (hss : ss.all (calmB 0) = true := by rfl) (hs : calmB 0 s = true := by rfl) (hg : Gl X x := by rfl)
    (hdb : (x == ("__debug__" : Str)) = false := by decide) (he : starEach (e :: es) X.env = (false, eval e X.env) :: starEach es X.env := by exact star_cons rfl) (hpl : (backTo pos (starEach es X.env)).any (·.1) = false := by rfl) : dV X c (.Call (.Name x p) (e :: es) [] pos) ρ μ s μ1 :=
  dv_call0 F hr ha hC (calms_of hss) (calm_of hs) hg hdb he hpl
theorem dv_fn1 {x : Str} {j : Nat} {C : Ctr} {ss : List Sl} (F : FnD X.prog X.w X.K X.mg X.base x j C) (hr : Room j X.A) (ha : dA X c (e :: es) ρ μ ss μ1) (hC : C ss μ1 s μ2) (hl : μ2.length = μ1.length := by rfl) (hss : ss.all (calmB μ1.length) = true := by rfl) (hs : calmB μ1.length s = true := by rfl) (hg : Gl X x := by rfl)
    (hdb : (x == ("__debug__" : Str)) = false := by decide) (he : starEach (e :: es) X.env = (false, eval e X.env) :: starEach es X.env := by exact star_cons rfl) (hpl : (backTo pos (starEach es X.env)).any (·.1) = false := by rfl) : dV X c (.Call (.Name x p) (e :: es) [] pos) ρ μ s μ2 := by
  have h := dv_call (X := X) (c := c) (ρ := ρ) (μ := μ) (s := s) (ν := []) (μc := μ1) (μc' := μ2) (pos := pos) (p := p) F hr (by rw [List.append_nil]; exact ha) hC hl (calms_of hss) (calm_of hs) hg hdb he hpl
  rw [List.append_nil] at h
  exact h
/-- what a def's end drops -/
theorem dxs_drop (h : dXs X c sts ρ μ (.rt s (μ1 ++ ν))) (hc : c.m0.length ≤ μ1.length) (hs : calmB μ1.length s = true := by rfl) : dXs X c sts ρ μ (.rt s μ1) := .mk fun m S H σ W R D kk =>
  h m S H σ W R D fun _ S' v H' W' e' r' => kk _ S' v H' (W'.keep hc) e' (r'.cut (calm_of hs))
theorem dx_drop (h : dX X c st ρ μ (.rt s (μ1 ++ ν))) (hc : c.m0.length ≤ μ1.length) (hs : calmB μ1.length s = true := by rfl) : dX X c st ρ μ (.rt s μ1) := .mk fun m S H σ W R D kk =>
  h m S H σ W R D fun _ S' v H' W' e' r' => kk _ S' v H' (W'.keep hc) e' (r'.cut (calm_of hs))
/-- an expression whose new owned objects are dropped -/
theorem dv_drop (h : ∀ c, dV X c e ρ μ s (μ1 ++ ν)) (hl : μ1.length = μ.length) (hs : calmB μ.length s = true := by rfl) : dV X c e ρ μ s μ1 := .mk fun m S H σ W R Q kk => by
  refine h ⟨H, S, m⟩ m S H σ W.self R Q fun m' S' v H' W' e' p' r' => ?_
  have W1 : MoOk X.prog X.w X.K ⟨H, S, m⟩ μ1 (m'.take μ1.length) S' H' := MoOk.keep W' (by show m.length ≤ _; rw [hl, W.len]; exact Nat.le_refl _)
  have em : m'.take μ1.length = m := by
    obtain ⟨tl, rfl⟩ := p'
    rw [hl, W.len, List.take_left]
  rw [em] at W1
  refine kk m S' v H' (W.trans W1) e' (List.prefix_refl _) ?_
  have := r'.cut (calm_of hs)
  rw [← hl, em] at this
  exact this
theorem dx_retShow {j : Nat} (h : dV X c e ρ μ (.own j) μ1) (h0 : c.m0 = []) (hj : μ1[j]? = some (.lst ds)) : dX X c (.Return (some e) pos) ρ μ (.rt (.dat (.list ds)) []) := .mk fun m S H σ W R D kk => by
  refine wS_of (ps_ret pe_w) ?_
  refine h m S H σ W R _ fun m1 S1 v H1 W1 e1 _ r1 => ?_
  obtain ⟨q, hq, rfl⟩ := r1
  obtain ⟨W2, e2, z⟩ := W1.freeze h0
  exact kk [] _ _ H1 W2 (e1.trans e2) (z j q ds hq hj)
theorem dx_retShow2 {i j : Nat} {pl : Pos} (h : dA X c [a, b] ρ μ [.own i, .own j] μ1) (h0 : c.m0 = []) (hi : μ1[i]? = some (.lst ds)) (hj : μ1[j]? = some (.lst ds2)) : dX X c (.Return (some (.List [a, b] pl)) pos) ρ μ (.rt (.dat (.list [.list ds, .list ds2])) []) := .mk fun m S H σ W R D kk => by
  refine wS_of (ps_ret (pe_lst pa_w)) ?_
  refine h m S H σ W R _ fun m1 S1 vs H1 W1 e1 _ r1 => ?_
  obtain ⟨v, v', rfl, ⟨q, hq, rfl⟩, ⟨q', hq', rfl⟩⟩ := slVs2 r1
  obtain ⟨W2, e2, z⟩ := W1.freeze h0
  refine ⟨show 2 ≤ sizeLine by decide, fun pp hp => ?_⟩
  obtain ⟨W3, e3, z3⟩ := lay_lst W2 hp (.cons (z i q ds hq hi) (.cons (z j q' ds2 hq' hj) .nil))
  exact kk [] _ _ _ W3 ((e1.trans e2).trans e3) z3
/-! ### list(tuple), tuple(list), all(list) -/
theorem dv_listT (hm : X.mg "list" = none) (h : dV X c e ρ μ (.dat (.tuple ds)) μ1) (hg : Gl X "list" := by rfl) (he : starEach [e] X.env = (false, eval e X.env) :: starEach [] X.env := by exact star_cons rfl) (hpl : (backTo pos (starEach [] X.env)).any (·.1) = false := by rfl) : dV X c (.Call (.Name "list" p) [e] [] pos) ρ μ (.own μ1.length) (μ1 ++ [.lst ds]) :=
  dv_callTy call_list_of hm PyProof.Rows.boot_list (da1 h he) (fun m S H vs Q W q k => by
    obtain ⟨v, rfl, hv⟩ := slVs1 q
    obtain ⟨l, xs, rfl, hx, hs⟩ := Dq.of_tup hv
    exact ⟨l, xs, rfl, .inr (Evl.ex_t W.sub hx), fun y hy => k.lstM W hs hy⟩) hg (by decide) (by decide) he hpl
theorem dv_tupleL (hm : X.mg "tuple" = none) (h : dV X c e ρ μ (.dat (.list ds)) μ1) (hg : Gl X "tuple" := by rfl) (he : starEach [e] X.env = (false, eval e X.env) :: starEach [] X.env := by exact star_cons rfl) (hpl : (backTo pos (starEach [] X.env)).any (·.1) = false := by rfl) : dV X c (.Call (.Name "tuple" p) [e] [] pos) ρ μ (.dat (.tuple ds)) μ1 :=
  dv_callTy call_tuple_of hm PyProof.Rows.boot_tuple (da1 h he) (fun m S H vs Q W q k => by
    obtain ⟨v, rfl, hv⟩ := slVs1 q
    obtain ⟨l, xs, rfl, hx, hs⟩ := Dq.of_lst hv
    exact ⟨l, xs, rfl, .inl ⟨.inl (Evl.ex_rd W.sub hx), fun y hy => k.tup W hs hy⟩⟩) hg (by decide) (by decide) he hpl
theorem dv_all {bs : List Bool} (hc : X.calm = true) (hm : X.mg "all" = none) (h : dV X c e ρ μ (.dat (.list (bs.map PyData.bool))) μ1) (hg : Gl X "all" := by rfl) (he : starEach [e] X.env = (false, eval e X.env) :: starEach [] X.env := by exact star_cons rfl) (hpl : (backTo pos (starEach [] X.env)).any (·.1) = false := by rfl) : dV X c (.Call (.Name "all" p) [e] [] pos) ρ μ (.dat (.bool (bs.all id))) μ1 :=
  dv_callB (cr_all hc) hm (by decide +kernel) (da1 h he) (fun m S H vs Q W q k => by
    obtain ⟨v, rfl, hv⟩ := slVs1 q
    obtain ⟨l, xs, rfl, hx, hs⟩ := Dq.of_lst hv
    have := hs.bls
    subst this
    exact ⟨l, bs, rfl, .inl (Evl.ex_rd W.sub hx), k.now W (.bl _)⟩) hg (by decide) (by decide) he hpl
/-! ### an owned dict walked -/
/-- its keys, at the addresses as; it stands still -/
def ItK (d : Addr) (es : Array DictEntry) (ep : Nat) (as : List Addr) : It :=
  ⟨fun i H => H d = some (dicO d es ep) ∧ i < as.length, fun i H x H' => H' = H ∧ ∃ q, as[i]? = some q ∧ x = .ref q, fun i H => H d = some (dicO d es ep) ∧ as.length ≤ i⟩
theorem turn_own {P : Program} {w : World} {K : PySem.W.Frag} {tg : Expr} {d : Addr} {es : Array DictEntry} {ep : Nat} {as : List Addr} (it : Addr) (hes : es.toList.map (·.key) = as.map Value.ref) : Turn P w K tg (ItK d es ep as) [it] it (fun i h => h.IsKeyIter it d i as.length ep) where
  mem := List.mem_singleton.mpr rfl
  obj := fun i h ⟨oi, g1, _, g2⟩ b hb => by
    obtain rfl := List.mem_singleton.mp hb
    exact ⟨oi, g1, fun v z => by rw [g2] at z; cases z⟩
  keep := fun i h h' g1 g2 => g1.at fun oi z => g2 it (List.mem_singleton.mpr rfl) oi z
  item := by
    intro Y y1 y2 y3 y4 i pins s σ H E I hf g1 g2
    subst y1 y2 y3
    obtain ⟨hd, hi⟩ := g2
    obtain ⟨a0, a1, a2, a3, a4, a5⟩ := hf it (List.mem_singleton.mpr rfl)
    obtain ⟨⟨od, q1, q2, q3⟩, _, _⟩ := (show ObjOk Y.prog Y.w H s.heap d (dicO d es ep) from I.hok d _ hd)
    have hl : es.size = as.length := by
      have := congrArg List.length hes
      rw [List.length_map, List.length_map] at this
      rw [← this]; simp
    have hi2 : i < es.toList.length := by rw [Array.length_toList]; omega
    have hk : (es.toList[i]).key = .ref as[i] := by
      have := congrArg (fun l : List Value => l[i]?) hes
      simp only [List.getElem?_map] at this
      rw [List.getElem?_eq_getElem hi2, List.getElem?_eq_getElem hi] at this
      exact Option.some.inj this
    refine next_key_item (en := es.toList[i]) g1 q1 q3 hl (by rw [← Array.getElem?_toList, List.getElem?_eq_getElem hi2]) fun h' g3 sb => ?_
    have I1 : Inv Y pins σ H { s with heap := h' } := I.turned (t' := s.toks) (fun b ob hb z => (sb.2 b hb).trans z) a0 a1 a3 a4 a5
    obtain ⟨oi, r1, r2, r3⟩ := id g3
    exact ⟨_, rfl, go_of (s := { s with heap := h' }) r1 r2 r3 (by decide) ⟨.ref as[i], H, I1, hk, ⟨rfl, _, List.getElem?_eq_getElem hi, rfl⟩, g3, fun b hb => (hf b hb).1⟩⟩
  done := by
    intro Y y1 y2 y3 y4 i pins s σ H E I hf g1 g2
    subst y1 y2 y3
    obtain ⟨hd, hi⟩ := g2
    obtain ⟨a0, a1, a2, a3, a4, a5⟩ := hf it (List.mem_singleton.mpr rfl)
    obtain ⟨⟨od, q1, q2, q3⟩, _, _⟩ := (show ObjOk Y.prog Y.w H s.heap d (dicO d es ep) from I.hok d _ hd)
    have hl : es.size = as.length := by
      have := congrArg List.length hes
      rw [List.length_map, List.length_map] at this
      rw [← this]; simp
    exact next_key_end (I.ok.hd y4) g1 q1 q3 hl hi fun h' eb => ⟨rfl, I.turned (t' := s.toks) (fun b ob hb z => eb b ob hb z) a0 a1 a3 a4 a5⟩
  self := fun A i s Q E g1 h => wpAny_pyIter_keyiter g1 h
def iOwnK (te : TE) : TI := fun σ H R => te σ H fun x H1 => ∃ d es ep as, x = .ref d ∧ (d == sysModules) = false ∧ H1 d = some (dicO d es ep) ∧ es.toList.map (·.key) = as.map Value.ref ∧ R (ItK d es ep as) H1
theorem pi_ownK {te : TE} (he : PE X e te) : PI X tg e (iOwnK te) := by
  refine ⟨fun pins s σ H R I h => ?_⟩
  refine thn (he.run pins s σ H _ I h) fun u s1 ⟨x, H1, I1, rx, d, es, ep, as, ex, hsm, hd, hes, q⟩ => ?_
  subst ex
  obtain rfl : u = Value.ref d := rx
  obtain ⟨⟨od, q1, q2, q3⟩, _, _⟩ := (show ObjOk X.prog X.w H1 s1.heap d (dicO d es ep) from I1.hok d _ hd)
  have hl : es.size = as.length := by
    have := congrArg List.length hes
    rw [List.length_map, List.length_map] at this
    rw [← this]; simp
  refine iter_keys hsm q1 q2 q3 (pi_one (tk := s1.toks) I1 _ (turn_own _ hes) ⟨_, Heap.get?_push_size _ rfl, rfl, ?_⟩ q)
  rw [hl] <;> rfl
theorem keys_as {K : PySem.W.Frag} {S : Hp} : ∀ {xs : List (NestedKey × Addr × Value)} {ks : List PyData}, Paired (KeyR K S) xs ks → DqA K S ((xs.map (·.2.1)).map V.ref) ks
  | _, _, .nil => .nil
  | _, _, .cons r t => .cons r.2.1 (keys_as t)
theorem di_ownK {j : Nat} {ks : List PyData} (h : dV X c iter ρ μ (.own j) μ1) (hj : μ1[j]? = some (.dic ks)) :
    ∃ wi : TI, PI X tg iter wi ∧ ∀ m S H σ, Wd X c μ m S H → SlOk X.K S m σ ρ → ∀ R : It → Hp → Prop, (∀ d es ep as m' S' H', Wd X c μ1 m' S' H' → Ex S S' → m <+: m' → m'[j]? = some d → MoAt X.prog X.w X.K S' H' d (.lck ks d es ep) → DqA X.K S' (as.map V.ref) ks → R (ItK d es ep as) H') → wi σ H R := by
  refine ⟨_, pi_ownK pe_w, fun m S H σ W R RR kk => ?_⟩
  refine h m S H σ W R _ fun m1 S1 v H1 W1 e1 p1 q1 => ?_
  obtain ⟨l, hl, rfl⟩ := q1
  obtain ⟨es, ep, xs, r1, r2, r3, r4, r5⟩ := W1.obj j l _ hl hj
  refine ⟨l, es, ep, xs.map (·.2.1), rfl, r2, r1, ?_, kk l es ep _ m1 S1 H1 W1 e1 p1 hl ⟨rfl, xs, r1, r2, r3, r4, r5⟩ (keys_as r5)⟩
  rw [r3, List.map_map, List.map_map]
  rfl
end
end Dr
set_option maxHeartbeats 4000000
/-! D14: for over an owned dict; dict comprehensions with tuple keys. -/
namespace Dr
open PySem PySem.Spec PyProof.Rows L2
section
variable {P : Program} {w : World} {K : PySem.W.Frag} {c : Ct} {μ ν : List Mo} {m : List Addr} {S H : Hp}
/-- another word for what stands at the j-th -/
theorem MoOk.say (A : MoOk P w K c μ m S H) {j : Nat} {d : Addr} {u : Mo} (hj : m[j]? = some d) (hu : MoAt P w K S H d u) : MoOk P w K c (μ.set j u) m S H where
  ex0 := A.ex0
  sub := A.sub
  new := A.new
  old := A.old
  pre := A.pre
  nd := A.nd
  fr := A.fr
  out := A.out
  len := by rw [List.length_set]; exact A.len
  obj := fun k a o h1 h2 => by
    by_cases hk : j = k
    · subst hk
      rw [hj] at h1; cases h1
      have hl : j < μ.length := A.len ▸ (List.getElem?_eq_some_iff.mp hj).1
      rw [List.getElem?_set_self hl] at h2; cases h2
      exact hu
    · rw [List.getElem?_set_ne hk] at h2
      exact A.obj k a o h1 h2
theorem MoOk.ownD {D : Addr} {u : Mo} (W : MoOk P w K c μ m S H) (hm : D ∉ m) (hS : S D = none) (h0 : c.H0 D = none) (hu : MoAt P w K S H D u) : MoOk P w K c (μ ++ [u]) (m ++ [D]) S H where
  ex0 := W.ex0
  sub := W.sub
  new := W.new
  old := W.old
  pre := W.pre.trans (List.prefix_append _ _)
  nd := List.nodup_append.mpr ⟨W.nd, List.nodup_cons.mpr ⟨by simp, List.nodup_nil⟩, fun a ha b hb e => by
    rw [List.mem_singleton] at hb
    exact hm (hb ▸ e ▸ ha)⟩
  fr := fun a ha => by
    rcases List.mem_append.mp ha with z | z
    · exact W.fr a z
    · rw [List.mem_singleton] at z; exact .inr (z ▸ h0)
  out := fun a ha => by
    rcases List.mem_append.mp ha with z | z
    · exact W.out a z
    · rw [List.mem_singleton] at z; exact z ▸ hS
  len := by rw [List.length_append, List.length_append, W.len]; rfl
  obj := fun k a v h1 h2 => by
    by_cases hk : k < m.length
    · rw [List.getElem?_append_left hk] at h1
      rw [List.getElem?_append_left (W.len ▸ hk)] at h2
      exact W.obj k a v h1 h2
    · have hk2 : k = m.length := by
        have := (List.getElem?_eq_some_iff.mp h1).1
        rw [List.length_append] at this
        have : k < m.length + 1 := this
        omega
      subst hk2
      have e1 : D = a := by simpa using h1
      have e2 : u = v := by simpa [← W.len] using h2
      subst e1; subst e2
      exact hu
end
section
variable {X : Cx} {c : Ct} {ρ ρ1 ρ2 : List Sl} {μ μ1 μ2 μ3 ν : List Mo} {s s1 s2 s3 : Sl} {a b e t tg iter ob ix kx vx : Expr} {es rest : List Expr} {st : Stmt} {sts body orelse : List Stmt} {pos p apos : Pos} {k k1 k2 : Bool} {d : PyData} {ds ds2 ks : List PyData} {o : Out} {scope : Scope} {i j : Nat}
theorem dx_forK (hc : X.calm = true) (hp : PassesOwn (model X.prog X.w) X.A X.env X.xe) (hi : dV X c iter ρ μ (.own j) μ1) (hj : μ1[j]? = some (.dic ks)) (J : Nat → List Sl → List Mo → Prop) (h0 : J 0 ρ μ1) (hP : ∀ i ρ1 μ', J i ρ1 μ' → μ'[j]? = some (.dic ks))
    (hs : ∀ i d ρ1 μ', ks[i]? = some d → J i ρ1 μ' → ∃ ρ2, dG X tg (.dat d) ρ1 ρ2 ∧ ∀ L : Mo, ∃ ρ3 μ3, dXs X c body ρ2 (μ'.set j L) (.nx ρ3 (μ3.set j L)) ∧ ∃ ρ4, Fg ρ3 ρ4 ∧ J (i + 1) ρ4 μ3) (hd : ∀ ρ1 μ', J ks.length ρ1 μ' → ∃ ρ2, Fg ρ1 ρ2 ∧ o = .nx ρ2 μ')
    (hf : ∀ x, foldedSetIterable iter X.env x = pure x := by intro _; rfl) : dX X c (.For tg iter body [] pos) ρ μ o := by
  obtain ⟨wi, hwi, hk⟩ := di_ownK (tg := tg) hi hj
  refine .mk fun m S H σ W R D kk => wS_of (ps_for hp hc hwi pg_w pss_w hf) ?_
  refine hk m S H σ W R _ fun q es ep as m1 S1 H1 W1 e1 p1 hq hM hks => ?_
  have hlen : as.length = ks.length := by have := hks.length; rw [List.length_map] at this; exact this
  let Wv : Nat → Nat → L2.St → Hp → Prop := fun i n σ H => n = ks.length - i ∧ i ≤ ks.length ∧ ∃ ρ' μ' m' S', J i ρ' μ' ∧ Wd X c (μ'.set j (.lck ks q es ep)) m' S' H ∧ SlOk X.K S' m' σ ρ' ∧ Ex S1 S' ∧ m1 <+: m'
  refine ⟨Wv, ⟨_, rfl, Nat.zero_le _, ρ, μ1, m1, S1, h0, W1.say hq hM, R.mono e1 p1, Evl.Ex.refl _, List.prefix_refl _⟩, ?_⟩
  rintro i n σ' H' ⟨rfl, hle, ρ', μ', m', S', hJ, W', R', e', p'⟩
  have hq' : m'[j]? = some q := own_at (K := X.K) (S := S) (S' := S) hq p'
  have hl : j < μ'.length := (List.getElem?_eq_some_iff.mp (hP i ρ' μ' hJ)).1
  have hMj : MoAt X.prog X.w X.K S' H' q (.lck ks q es ep) := W'.obj j q _ hq' (List.getElem?_set_self hl)
  have hHq : H' q = some (dicO q es ep) := by obtain ⟨_, xs, r1, _⟩ := hMj; exact r1
  by_cases hlt : i < ks.length
  · have hd1 : ks[i]? = some ks[i] := List.getElem?_eq_getElem hlt
    refine .inr ⟨⟨hHq, by omega⟩, fun σ2 H2 => Wv (i + 1) (ks.length - (i + 1)) σ2 H2, fun σ2 H2 h2 => ⟨_, by omega, h2⟩, fun x Hy hy => ?_⟩
    obtain ⟨rfl, r, hr, rfl⟩ := hy
    have hqd : Dq X.K S' (.ref r) ks[i] := by
      obtain ⟨v, h1, h2⟩ := hks.at hd1
      rw [List.getElem?_map, hr] at h1
      have h1 := Option.some.inj h1
      exact (h1 ▸ h2).mono e'
    obtain ⟨ρ2, hG, hB⟩ := hs i _ ρ' μ' hd1 hJ
    refine hG m' S' _ σ' _ W'.sub R' hqd _ fun σ2 R2 => ?_
    obtain ⟨ρ3, μ3, hX, ρ4, f, hJ4⟩ := hB (.lck ks q es ep)
    refine hX m' S' _ σ2 W' R2 _ ?_
    exact fun m3 S3 σ3 H3 W3 e3 p3 R3 => ⟨rfl, hlt, ρ4, μ3, m3, S3, hJ4, W3, R3.fg f, e'.trans e3, p'.trans p3⟩
  · have e2 : i = ks.length := by omega
    subst e2
    obtain ⟨ρ2, f, rfl⟩ := hd ρ' μ' hJ
    obtain ⟨_, xs, r1, r2, r3, r4, r5⟩ := hMj
    have W2 := W'.say (u := .dic ks) hq' ⟨es, ep, xs, r1, r2, r3, r4, r5⟩
    have em : (μ'.set j (.lck ks q es ep)).set j (.dic ks) = μ' := by
      rw [List.set_set]
      have := hP _ ρ' μ' hJ
      apply List.ext_getElem?
      intro n
      by_cases hn : j = n
      · subst hn; rw [List.getElem?_set_self hl, this]
      · rw [List.getElem?_set_ne hn]
    rw [em] at W2
    exact .inl ⟨⟨hHq, by omega⟩, kk m' S' σ' H' W2 (e1.trans e') (p1.trans p') (R'.fg f)⟩
end
end Dr
set_option maxHeartbeats 4000000
/-! D15: dict comprehensions with tuple keys. -/
namespace Dr
open PySem PySem.Spec PyProof.Rows L2
section
variable {X : Cx}
theorem dset_K (hu : X.A.units + 64 < cLine) {pins : List (Addr × Obj)} {σ : L2.St} {H : Hp} {s : Shared} {E : Value → Shared → Prop} {D : Addr} {y z : V} {u r : Value} {Q : Unit → Shared → Prop} {Nx : Hp → Prop} (I : Inv X pins σ H s)
    (ry : RelV y u) (rz : RelV z r) (h : rSetK X (.ref D) y z H Nx) (k : ∀ s' H', Inv X pins σ H' s' → Nx H' → Q () s') : wpAny (model X.prog X.w) X.A (dictSet D u r) Q E s := by
  obtain ⟨S, a, q, es, ep0, xs, ks, d, ex, rfl, eq, hd, hk, hq, he, hn, hp, hno, hz, kq⟩ := h
  cases eq
  obtain rfl := (show u = Value.ref a from ry)
  have hm := dic_of I ex hq he hn hp
  have hr : (nestedKind X.prog X.w).room X.A := by show X.A.units + 8 < cLine; omega
  refine wpAny_dictSet_heap (hsz := by rw [Paired.len hp]; omega) hr (key_is I ex hd hk) hm fun h' hm' hs => ?_
  have hnone : (xs.any fun x => decide (x.1 = nk d)) = false := by rw [any_keys hp]; exact hno
  have est : storedH xs (nk d) a r = xs ++ [(nk d, a, r)] := by
    unfold storedH
    have : (atKey xs (nk d)).isSome = false := by rw [atKey_none]; exact hnone
    cases w : atKey xs (nk d) with
    | none => simp [w]
    | some z => rw [w] at this; cases this
  rw [est] at hm'
  obtain ⟨ob, es', ep, g1, g2, g3, g4, g5, g6⟩ := hm'
  exact k _ _ (I.write (x := D) (e := D) (o := dicO D es' ep) (by rw [hq]; trivial) (.inl rfl) (fun b u hb e => (hs.2 b hb).trans e) ⟨ob, g1⟩ (dicO_ok g1 g2 g3)) (kq es' ep r g4 g6)
/-- {k: v for target in iter}: D the new dict -/
def tDq (X : Cx) (wi : TI) (g : TG) (tk tv : TE) (vs : List Nat) : TE := fun σ H Q => wi σ H fun J H1 => ∀ D, H1 D = none → (D == sysModules) = false → ∃ W : Nat → Nat → Hp → Prop, (∃ m, W 0 m (upd H1 D (dicO D #[] 0))) ∧ ∀ i m H, W i m H →
  (J.stop i H ∧ Q (.ref D) H) ∨ (J.go i H ∧ ∃ Nx : Hp → Prop, (∀ H', Nx H' → ∃ m', m' < m ∧ W (i + 1) m' H') ∧ ∀ x H', J.yld i H x H' → g x (wipe σ vs) H' fun σ2 H2 => wipe σ2 vs = wipe σ vs ∧ tk σ2 H2 fun y H4 => tv σ2 H4 fun z H5 => rSetK X (.ref D) y z H5 Nx)
theorem pe_dq {kx vx tg iter : Expr} {scope : Scope} {own : List (Str × Nat)} {pos : Pos} {wi : TI} {g : TG} {tk tv : TE} (hu : X.A.units + 64 < cLine) (hc : X.calm = true) (hN : X.N.Nodup) (hi : PI X tg iter wi) (ok : BlkOk X.N X.env.scope scope own)
    (hg : ∀ (s : Shared) (H : Hp) (C : Addr) (cl : List (Str × Addr)) (fp : List Addr), PG (X.blk s H scope (compEnvC scope cl C X.env) fp) tg g)
    (hk : ∀ (s : Shared) (H : Hp) (C : Addr) (cl : List (Str × Addr)) (fp : List Addr), PE (X.blk s H scope (compEnvC scope cl C X.env) fp) kx tk)
    (hv : ∀ (s : Shared) (H : Hp) (C : Addr) (cl : List (Str × Addr)) (fp : List Addr), PE (X.blk s H scope (compEnvC scope cl C X.env) fp) vx tv) (hs : ∀ x, foldedSetIterable iter X.env x = pure x := by intro _; rfl) :
    PE X (.DictComp kx vx [⟨tg, iter, [], 0⟩] scope pos) (tDq X wi g tk tv (own.map (·.2))) := by
  refine ⟨fun pins s σ H Q I h => ?_⟩
  rw [arm_eval_DictComp]
  have fr : ∀ y ∈ scope.names, y.2 = .free → ∃ c, X.env.cells.lookup y.1 = some c := fun y hy e => (ok.free y hy e).elim (fun k => I.ok.has _ (.inl k)) (fun k => I.ok.has _ (.inr k))
  refine wpAny_comprehension_free (use := none) rfl hs (closure_ok fr) ok.kind (fun y hy e => (ok.uniq y hy).trans (congrArg some e)) (thn (hi.run pins s σ H _ I h) fun xv w1 r1 => thn r1 fun itv w2 r2 => ?_)
  obtain ⟨it, fp, tn, J, G2, e0, V2, T, t2, f2, q⟩ := r2
  subst e0
  refine wpAny_newObj_type (newEnv_comp ?_)
  generalize dD : w2.heap.objs.size = D
  have nD : G2 D = none := V2.hok.fresh (Nat.le_of_eq dD)
  obtain ⟨W, ⟨m0, k0⟩, turn⟩ := q D nD (by rw [← dD]; exact beq_eq_false_iff_ne.mpr (Nat.ne_of_gt V2.big))
  generalize dw3 : ({ w2 with heap := w2.heap.push { cls := .type "dict", data := .dict #[] } } : Shared) = w3
  have h3 : w3.heap = w2.heap.push { cls := .type "dict", data := .dict #[] } := by rw [← dw3]
  have V3 : Inv X pins σ (upd G2 D (dicO D #[] 0)) w3 := by
    rw [← dw3]
    refine V2.laid (t' := w2.toks) (fun _ _ e => Heap.get?_push_of_some _ e) (Nat.le_of_eq dD) ?_
    rw [← dD]
    exact dicO_ok (Heap.get?_push_size _ rfl) ⟨rfl, rfl, rfl⟩ rfl
  have low : ∀ b, b ∈ fp → b < w2.heap.objs.size := fun b hb => let ⟨_, e, _⟩ := T.obj _ _ t2 b hb; Heap.lt_size e
  have f3 : ∀ b, b ∈ fp → FpOk X pins (upd G2 D (dicO D #[] 0)) b ∧ b < w3.heap.objs.size := fun b hb => by
    have l := low b hb
    exact ⟨⟨by rw [upd_ne (by rw [← dD]; exact Nat.ne_of_lt l)]; exact (f2 b hb).1, (f2 b hb).2⟩, by rw [h3, Heap.size_push]; exact Nat.lt_succ_of_lt l⟩
  have t3 : tn 0 w3.heap := T.keep _ _ _ t2 fun _ _ _ e => by rw [h3]; exact Heap.get?_push_of_some _ e
  have V4 := block_start V3 ok hN f3
  have pg := hg w3 (upd G2 D (dicO D #[] 0)) w3.heap.objs.size (cellsFrom (w3.heap.objs.size + 1) scope.names (cloFrom X.env.cells scope.names [])) fp
  have pk := hk w3 (upd G2 D (dicO D #[] 0)) w3.heap.objs.size (cellsFrom (w3.heap.objs.size + 1) scope.names (cloFrom X.env.cells scope.names [])) fp
  have pv := hv w3 (upd G2 D (dicO D #[] 0)) w3.heap.objs.size (cellsFrom (w3.heap.objs.size + 1) scope.names (cloFrom X.env.cells scope.names [])) fp
  have goal : ∀ Qf : Value → Shared → Prop, (∀ s' H' m, Inv X pins σ H' s' → Q (.ref D) H' → s'.heap.Ns w3.heap.objs.size m → FpOk X pins H' w3.heap.objs.size → compPost (model X.prog X.w) X.A X.xe none Qf (.ref D) w3.heap.objs.size (.ok .next) s') →
      codeAny (model X.prog X.w) X.A (.compStart (.DictComp kx vx [⟨tg, iter, [], 0⟩] scope pos) 0 (.ref it) (.ref D) (compEnvC scope (cellsFrom (w3.heap.objs.size + 1) scope.names (cloFrom X.env.cells scope.names [])) w3.heap.objs.size X.env)) (compPost (model X.prog X.w) X.A X.xe none Qf (.ref D) w3.heap.objs.size)
        { w3 with heap := pushCells (w3.heap.push { cls := .type "dict", data := .dict #[] }) scope.names } := fun Qf hR => by
    have nf : ∀ b, b ∈ fp → (upd G2 D (dicO D #[] 0)) b = none := fun b hb => (f3 b hb).1.1
    generalize dce : compEnvC scope (cellsFrom (w3.heap.objs.size + 1) scope.names (cloFrom X.env.cells scope.names [])) w3.heap.objs.size X.env = ce at V4 pg pk pv ⊢
    have lc : ce.locals = w3.heap.objs.size := by subst dce; rfl
    generalize dG3 : upd G2 D (dicO D #[] 0) = G3 at V3 V4 pg pk pv k0 nf f3
    generalize dw4 : ({ w3 with heap := pushCells (w3.heap.push { cls := .type "dict", data := .dict #[] }) scope.names } : Shared) = w4 at V4 ⊢
    have t4 : tn 0 w4.heap := T.keep _ _ _ t3 fun _ _ _ e => by rw [← dw4]; exact pushCells_keeps _ _ _ _ (Heap.get?_push_of_some _ e)
    have fpk : ∀ {τ : L2.St} {F : Hp} {z : Shared}, Inv (X.blk w3 G3 scope ce fp) [] τ F z → (∀ b, b ∈ fp → F b = none) → ∀ b, b ∈ fp → FpOk (X.blk w3 G3 scope ce fp) [] F b := fun {τ F z} V n b hb =>
      ⟨n b hb, (V.ok.exf b hb).1, V.ok.exfs b hb, .inl hb, fun x c e => (V.ok.exf b hb).2 x c e, fun r hr => by cases (show r ∈ ([] : List (Addr × Obj)) from hr)⟩
    have loop : codeAny (model X.prog X.w) X.A (.compLoop (.DictComp kx vx [⟨tg, iter, [], 0⟩] scope pos) 0 (.ref it) (.ref D) ce) (compPost (model X.prog X.w) X.A X.xe none Qf (.ref D) w3.heap.objs.size) w4 := by
      refine compLoop_anyD (fun n z => ∃ i F, Inv (X.blk w3 G3 scope ce fp) [] (wipe σ (own.map (·.2))) F z ∧ tn i z.heap ∧ (∀ b, b ∈ fp → F b = none) ∧ W i n F) ?_ m0 ⟨0, G3, V4, t4, nf, k0⟩
      rintro n w5 ⟨i, G5, V5, t5, n5, k5⟩
      rcases turn i n G5 k5 with ⟨stop, fin⟩ | ⟨go, Nx, hNx, step⟩
      · refine thnF (T.done (X.blk w3 G3 scope ce fp) rfl rfl rfl hc i [] w5 _ G5 (fun _ _ => False) V5 (fpk V5 n5) t5 stop) fun r w6 ⟨er, V6⟩ => ?_
        subst er
        have V7 : Inv X pins σ G5 w6 := V3.call' (ch := fp) V6.os V6.base V6.hok V6.bare fun b hb => ⟨(f3 b hb).1.2.2.2.1, (f3 b hb).1.2.1, (f3 b hb).1.2.2.2.2.1, (f3 b hb).1.2.2.2.2.2⟩
        have nC : G5 w3.heap.objs.size = none := lc ▸ (show G5 ce.locals = none from V6.free)
        obtain ⟨mm, hn, _⟩ := V6.loc
        exact hR w6 G5 mm V7 fin (lc ▸ (show w6.heap.Ns ce.locals mm from hn)) (V3.fpOk (Nat.le_refl _) nC)
      · refine thnF (T.item (X.blk w3 G3 scope ce fp) rfl rfl rfl hc i [] w5 _ G5 (fun _ _ => False) V5 (fpk V5 n5) t5 go) fun r w6 ⟨u, er, r6⟩ => ?_
        subst er
        refine thnF r6 fun _ w7 ⟨x, G7, V7, rx, hy, t7, n7⟩ => ?_
        refine thnF (pg.run _ w7 _ G7 x u _ (V7.pinned (fpk V7 n7) (T.obj _ _ t7)) rx (step x G7 hy)) fun _ w8 ⟨τ, G8, V8, ew, q8⟩ => ?_
        refine thnF ((pts_nil (X := X.blk w3 G3 scope ce fp)).run _ w8 τ G8 (fun b F => b = true ∧ F = G8) V8 ⟨rfl, rfl⟩) fun b w9 ⟨G9, V9, eb, eG⟩ => ?_
        subst eb; subst eG
        rw [if_pos rfl]
        refine thnF (pk.run _ w9 τ G9 _ V9 q8) fun z1 w10 ⟨y1, G10, V10, ry1, q10⟩ => ?_
        refine thnF (pv.run _ w10 τ G10 _ V10 q10) fun z2 w11 ⟨y2, G11, V11, ry2, q11⟩ => ?_
        refine dset_K (X := X.blk w3 G3 scope ce fp) hu V11 ry1 ry2 q11 fun w12 G12 V12 nx => ?_
        obtain ⟨m', hm, k'⟩ := hNx G12 nx
        have pin : ∀ b, b ∈ fp → ∀ ob, w7.heap.get? b = some ob → w12.heap.get? b = some ob ∧ G12 b = none := fun b hb ob e => let v := V12.pin (b, ob) (List.mem_append_right _ (List.mem_append_right _ (mem_pinsAt hb e))); ⟨v.1, v.2.1⟩
        refine ⟨m', hm, i + 1, G12, (V12.unpinned (pins := [])).weak (by rw [← ew, wipe_length]) (fun jj v e => ?_), T.keep _ _ _ t7 fun b hb ob e => (pin b hb ob e).1, fun b hb => ?_, k'⟩
        · rw [← ew] at e
          exact (wipe_some e).1
        · obtain ⟨ob, e, _⟩ := T.obj _ _ t7 b hb
          exact (pin b hb ob e).2
    exact codeAny_compStart_dict loop (T.self X.A 0 _ _ _ t4 loop)
  refine goal _ fun s' H' m V' fin hn f => ⟨m, hn, fun h'' sb => ?_⟩
  obtain ⟨a0, a1, a2, a3, a4, a5⟩ := f
  exact ⟨.ref D, H', V'.turned (t' := s'.toks) (fun b ob hb e => (sb.2 b hb).trans e) a0 a1 a3 a4 a5, rfl, fin⟩
end
section
variable {X : Cx} {c : Ct} {ρ ρ1 ρ2 : List Sl} {μ μ1 μ2 μ3 ν : List Mo} {iter kx vx : Expr} {pos : Pos} {ds ks : List PyData} {scope : Scope} {i : Nat}
theorem dv_dc {Pm : List Mo → Prop} {x : Str} {px : Pos} (J : Nat → List PyData → Prop) (hu : X.A.units + 64 < cLine) (hc : X.calm = true) (hN : X.N.Nodup) (ok : BlkOk X.N X.env.scope scope [(x, i)])
    (hi : dI X c (.Name x px) iter ρ μ Pm ds μ1) (hz : ds.length < sizeLine) (h0 : J 0 []) (hP : Pm μ1) (hlen : ∀ n acc, J n acc → acc.length ≤ n)
    (hs : ∀ n d acc, ds[n]? = some d → J n acc → ∃ e s2, dBV X scope kx (ρ.set i (.dat d)) μ1 (.dat e) μ1 ∧ dBV X scope vx (ρ.set i (.dat d)) μ1 s2 μ1 ∧ keyOk e = true ∧ hasK acc e = false ∧ J (n + 1) (acc ++ [e]))
    (hd : ∀ acc, J ds.length acc → acc = ks)
    (hg : ∀ (s : Shared) (H : Hp) (C : Addr) (cl : List (Str × Addr)) (fp : List Addr), PG (X.blk s H scope (compEnvC scope cl C X.env) fp) (.Name x px) (gName i)) (hf : ∀ y, foldedSetIterable iter X.env y = pure y := by intro _; rfl) :
    dV X c (.DictComp kx vx [⟨.Name x px, iter, [], 0⟩] scope pos) ρ μ (.own μ1.length) (μ1 ++ [.dic ks]) := .mk fun m S H σ W R Q kk => by
  obtain ⟨wi, hwi, hi⟩ := hi
  refine wE_of (pe_dq (own := [(x, i)]) (g := gName i) (tk := wBE X scope kx) (tv := wBE X scope vx) hu hc hN hwi ok hg (fun s0 H0 C cl fp => ⟨fun pins s _ _ _ I h => h s0 H0 C cl fp pins s I⟩) (fun s0 H0 C cl fp => ⟨fun pins s _ _ _ I h => h s0 H0 C cl fp pins s I⟩) hf) ?_
  refine hi m S H σ W R _ fun It m1 S1 H1 W1 e1 p1 hIt D hD hsm => ?_
  obtain ⟨f1, f2, f3, f4, f5⟩ := W1.free hD
  let Wv : Nat → Nat → Hp → Prop := fun n x H => x = ds.length - n ∧ n ≤ ds.length ∧ ∃ acc m' S' es ep xs, J n acc ∧ Wd X c μ1 m' S' H ∧ H D = some (dicO D es ep) ∧ es.toList = xs.map (entryOfKey (nestedKind X.prog X.w)) ∧ (xs.map (·.1)).Nodup ∧ Paired (KeyR X.K S') xs acc ∧ D ∉ m' ∧ S' D = none ∧ Ex S1 S' ∧ m1 <+: m'
  refine ⟨Wv, ⟨_, rfl, Nat.zero_le _, [], m1, S1, #[], 0, [], h0, W1.hid f1 f2 f4, upd_same, rfl, List.nodup_nil, .nil, f1, f2, Evl.Ex.refl _, List.prefix_refl _⟩, ?_⟩
  rintro n x H' ⟨rfl, hle, acc, m', S', es, ep, xs, hJ, W', hD', he, hn, hpr, nm, nS, e', p'⟩
  by_cases hlt : n < ds.length
  · have hd1 : ds[n]? = some ds[n] := List.getElem?_eq_getElem hlt
    obtain ⟨g1, g2⟩ := hIt.go c μ1 m' S' H' n _ W' e' p' hP hd1
    refine .inr ⟨g1, fun H2 => Wv (n + 1) (ds.length - (n + 1)) H2, fun H2 h2 => ⟨_, by omega, h2⟩, fun v Hy hy => ?_⟩
    obtain ⟨Sy, Wy0, qy⟩ := g2 v Hy hy
    have Wy := W'.trans Wy0
    have ey : Ex S' Sy := Wy0.ex0
    obtain ⟨_, nSy, hDy⟩ := Wy0.keepHid nm nS hD'
    refine ⟨wipe1 σ i v, ?_⟩
    obtain ⟨e, s2, hK, hV, hk, hno, hJ2⟩ := hs n _ acc hd1 hJ
    have Rw : SlOk X.K Sy m' ((wipe σ [i]).set i (some v)) (ρ.set i (.dat ds[n])) := by
      have h1 := (((R.mono e1 p1).mono e' p').mono ey (List.prefix_refl _)).wipe i
      have h2 := h1.set (i := i) (s := .dat ds[n]) qy
      rw [List.set_set] at h2
      exact h2
    intro s0 H0 C cl fp
    refine hK ⟨Hy, Sy, m'⟩ s0 H0 C cl fp m' Sy Hy _ Wy.self Rw _ fun m2 S2 v2 H2 W2 e2 p2 q2 => ?_
    obtain ⟨nm2, nS2, hD2⟩ := MoOk.keepHid (show MoOk X.prog X.w X.K ⟨Hy, Sy, m'⟩ μ1 m2 S2 H2 from W2) nm nSy hDy
    intro s0' H0' C' cl' fp'
    refine hV ⟨H2, S2, m2⟩ s0' H0' C' cl' fp' m2 S2 H2 _ W2.self (Rw.mono e2 p2) _ fun m3 S3 v3 H3 W3 e3 p3 q3 => ?_
    obtain ⟨nm3, nS3, hD3⟩ := MoOk.keepHid (show MoOk X.prog X.w X.K ⟨H2, S2, m2⟩ μ1 m3 S3 H3 from W3) nm2 nS2 hD2
    have q2' : Dq X.K S3 v2 e := Dq.mono e3 q2
    obtain ⟨a, rfl⟩ := key_ref q2' hk
    have hpr3 : Paired (KeyR X.K S3) xs acc := L2.Paired.mapP hpr fun _ _ z => ⟨z.1, ((z.2.1.mono ey).mono e2).mono e3, z.2.2⟩
    have hl : acc.length ≤ n := hlen _ _ hJ
    have W3' := (Wy.trans W2).trans W3
    refine ⟨S3, a, D, es, ep, xs, acc, e, W3'.sub, rfl, rfl, q2', hk, hD3, he, hn, hpr3, hno, by omega, fun es' ep' u g1 g2 => ?_⟩
    have pp : ∀ {xs : List (NestedKey × Addr × Value)} {ks : List PyData}, Paired (KeyR X.K S3) xs ks → Paired (KeyR X.K S3) (xs ++ [(nk e, a, u)]) (ks ++ [e]) := fun {xs ks} hp => by
      induction hp with
      | nil => exact .cons ⟨rfl, q2', hk⟩ .nil
      | cons r _ ih => exact .cons r ih
    exact ⟨rfl, hlt, acc ++ [e], m3, S3, es', ep', _, hJ2, W3'.hid nm3 nS3 f4, upd_same, g1, g2, pp hpr3, nm3, nS3, ((e'.trans ey).trans e2).trans e3, ((p'.trans p2).trans p3)⟩
  · have en : n = ds.length := by omega
    subst en
    obtain rfl := hd acc hJ
    have W3 := W'.ownD (u := .dic acc) nm nS f4 ⟨es, ep, xs, hD', hsm, he, hn, hpr⟩
    refine .inl ⟨hIt.stop c μ1 m' S' H' _ W' e' p' hP (Nat.le_refl _), kk _ S' _ H' W3 (e1.trans e') ((p1.trans p').trans (List.prefix_append _ _)) ⟨D, ?_, rfl⟩⟩
    rw [W'.len]; simp
end
end Dr
set_option maxHeartbeats 4000000
/-! D16: enumerate over a list or a tuple; a comprehension with two names. -/
namespace Dr
open PySem PySem.Spec PyProof.Rows L2
open AutoSeq1 (wpAny_loadPart')
theorem enum_newT (l : Addr) (items : Array Value) (n : Nat) (dct : Option Addr) (sl : Array (Option Value)) :
    Meets (Builtin.«enumerate.__new__» ⟨[.type "enumerate", .ref l], []⟩) (fun _ R s => s.heap.get? l = some { cls := .type "tuple", dict := dct, data := .seq items n, slots := sl } ∧
      R (.ok (.ret (.ref (s.heap.push { cls := .type "tuple_iterator", data := .fields #[.ref l, .int 0 0] }).objs.size)))
        { s with heap := (s.heap.push { cls := .type "tuple_iterator", data := .fields #[.ref l, .int 0 0] }).push { cls := .type "enumerate", data := .fields #[.none, .bool false, .ref s.heap.objs.size, rawInt 0, .none, .none] } }) :=
  .of_wp fun prog w A R s h => by
    obtain ⟨hh, gg, dd, tt, oo⟩ := s
    obtain ⟨hq, h⟩ := h
    have hsub := sub_enumerate
    have hT : Heap.IsTuple (Shared.heap ⟨hh, gg, dd, tt, oo⟩) l items := ⟨_, hq, rfl, n, rfl⟩
    wp_walk using wpAny_loadPart' hq
    refine wpAny_stack_any fun _ => wpAny_pure ?_
    split
    · rename_i cc _ _ _ _ _
      cases (cc == Value.type "enumerate")
      · wp_walk using wpAny_loadPart' hq, wpAny_pyIter_tuple hT
        exact ⟨_, rfl, h⟩
      · wp_walk using wpAny_loadPart' hq, wpAny_pyIter_tuple hT
        exact ⟨_, rfl, h⟩
    · wp_walk using wpAny_loadPart' hq, wpAny_pyIter_tuple hT
      exact ⟨_, rfl, h⟩
theorem call_enumT {prog : Program} {w : World} {A : Around} {E : Value → Shared → Prop} {s : Shared} {l : Addr} {items : Array Value} {Q : Value → Shared → Prop} (hL : s.heap.IsTuple l items)
    (h : ∀ h', IsEnum h' (s.heap.objs.size + 1) s.heap.objs.size 0 .none → h'.IsTupleIter s.heap.objs.size l 0 →
      (∀ b o, s.heap.get? b = some o → h'.get? b = some o) → Q (.ref (s.heap.objs.size + 1)) { s with heap := h' }) :
    wpAny (model prog w) A (call (.type "enumerate") [.ref l]) Q E s := by
  obtain ⟨⟨cc, dct, dt, sl⟩, hl, hc, n, hd⟩ := hL
  obtain rfl : cc = .type "tuple" := hc
  obtain rfl : dt = .seq items n := hd
  refine callType_new F.called_enumerate (by decide) (F.typeCall_enumerate_1 _) (F.newCall_enumerate_1 _) (fun obj => F.args_object_init_2 obj _) F.entry_enumerate_new (enum_newT l items n dct sl) ⟨hl, ?_⟩
  have z1 : (s.heap.push { cls := .type "tuple_iterator", data := .fields #[.ref l, .int 0 0] }).objs.size = s.heap.objs.size + 1 := Heap.size_push ..
  show _ ∧ _
  rw [z1]
  have z2 : IsEnum ((s.heap.push { cls := .type "tuple_iterator", data := .fields #[.ref l, .int 0 0] }).push { cls := .type "enumerate", data := .fields #[.none, .bool false, .ref s.heap.objs.size, rawInt 0, .none, .none] }) (s.heap.objs.size + 1) s.heap.objs.size 0 .none := by
    have z3 := Heap.get?_push_size (s.heap.push { cls := .type "tuple_iterator", data := .fields #[.ref l, .int 0 0] }) (o := { cls := .type "enumerate", data := .fields #[.none, .bool false, .ref s.heap.objs.size, rawInt 0, .none, .none] }) rfl
    rw [z1] at z3; exact z3
  exact ⟨⟨_, z2, rfl⟩, h _ z2 ⟨_, Heap.get?_push_of_some _ (Heap.get?_push_size _ rfl), rfl, rfl⟩ fun b o x => Heap.get?_push_of_some _ (Heap.get?_push_of_some _ x)⟩
/-- the tuple at a, each item in a new pair -/
def ItE (K : PySem.W.Frag) (a : Addr) (xs : List V) : It :=
  ⟨fun i H => SqT K H a xs ∧ i < xs.length, fun i H v H' => ∃ T x, v = .ref T ∧ H T = none ∧ H' = upd H T (.tup [.int (i : Nat), x]) ∧ xs[i]? = some x, fun i H => SqT K H a xs ∧ xs.length ≤ i⟩
theorem turn_enT {P : Program} {w : World} {K : PySem.W.Frag} {elts : List Expr} {kk : Nat} {tpos : Pos} {xs : List V} (a e it : Addr) :
    Turn P w K (.Tuple elts kk tpos) (ItE K a xs) [e, it] e (fun i h => (∃ old, IsEnum h e it ((i : Nat) : Int) old) ∧ h.IsTupleIter it a i ∧ e ≠ it ∧ a ≠ e ∧ a ≠ it) where
  mem := List.mem_cons_self
  obj := fun i h ⟨⟨old, g1⟩, ⟨o, g2, g3, g4⟩, _⟩ b hb => by
    rcases (by simpa using hb : b = e ∨ b = it) with rfl | rfl
    · exact ⟨_, g1, fun v q => nomatch q⟩
    · exact ⟨o, g2, fun v q => by rw [g4] at q; cases q⟩
  keep := fun i h h' ⟨⟨old, g1⟩, g2, g3⟩ k => ⟨⟨old, k e (by simp) _ g1⟩, g2.at fun o q => k it (by simp) o q, g3⟩
  item := by
    intro Y y1 y2 y3 y4 i pins s σ H E I hf st hg
    subst y1 y2 y3
    obtain ⟨⟨old, he⟩, hit, n1, n2, n3⟩ := st
    obtain ⟨hq, hx⟩ := hg
    obtain ⟨its, rv, p, hz⟩ := I.tuple hq
    have hlen := rv.length
    have elt : e < s.heap.objs.size := Heap.lt_size he
    have ilt : it < s.heap.objs.size := let ⟨_, q, _⟩ := hit; Heap.lt_size q
    have D := Draws.tuple (prog := Y.prog) (w := Y.w) (A := Y.A.in1) (I.ok.hd y4) it a n3 its.toArray
    refine wpAny_pyNext_enum_itemD D he ⟨hit, p⟩ (by simpa using by omega) n1 (by simp [n1, Ne.symm n2]) fun u h' tk hP ho hst hT hsz hk => ?_
    obtain ⟨x, hx1, ru⟩ : ∃ x, xs[i]? = some x ∧ RelV x u := by
      obtain ⟨u', hu', ru⟩ := rv.get (List.getElem?_eq_getElem hx)
      have : some u' = some u := by rw [← hu', ← hP]; simp
      cases this
      exact ⟨_, List.getElem?_eq_getElem hx, ru⟩
    refine ⟨_, rfl, wpAny_letOwnedTupleGo_enum (s := { s with heap := h', toks := tk + 1 }) ho fun h2 he2 sb => ?_⟩
    have hT2 : h2.get? s.heap.objs.size = some { cls := .type "tuple", data := .seq #[.int i tk, u] } := (sb.2 _ (Nat.ne_of_gt elt)).trans hT
    have new : ObjOk Y.prog Y.w (upd H s.heap.objs.size (.tup [.int (i : Nat), x])) h2 s.heap.objs.size (.tup [.int (i : Nat), x]) :=
      ⟨show 2 ≤ sizeLine by decide, [.int i tk, u], .cons ⟨_, rfl⟩ (.cons ru .nil), ⟨_, hT2, rfl, _, rfl⟩⟩
    have I1 : Inv Y pins σ (upd H s.heap.objs.size (.tup [.int (i : Nat), x])) { s with heap := h2, toks := tk + 1 } :=
      I.turnedNew (ch := [e, it]) (fun b ob hb q => (sb.2 b (fun z => hb (by simp [z]))).trans (hk b ob (fun z => hb (by simp [z])) (fun z => hb (by simp [z])) q)) hf (Nat.le_refl _) new
    refine ⟨.ref s.heap.objs.size, _, I1, rfl, ⟨_, x, rfl, I.hok.fresh (Nat.le_refl _), rfl, hx1⟩, ⟨⟨u, ?_⟩, hst.1.at fun o q => (sb.2 it (Ne.symm n1)).trans q, n1, n2, n3⟩, fun b hb => ?_⟩
    · have e1 : ((i + 1 : Nat) : Int) = (i : Int) + 1 := by omega
      rw [e1]; exact he2
    · have hlt : b < s.heap.objs.size := by
        rcases (by simpa using hb : b = e ∨ b = it) with rfl | rfl
        · exact elt
        · exact ilt
      rw [upd_ne (Nat.ne_of_lt hlt)]
      exact (hf b hb).1
  done := by
    intro Y y1 y2 y3 y4 i pins s σ H E I hf st hg
    subst y1 y2 y3
    obtain ⟨⟨old, he⟩, hit, n1, n2, n3⟩ := st
    obtain ⟨hq, hx⟩ := hg
    obtain ⟨its, rv, p, hz⟩ := I.tuple hq
    have hlen := rv.length
    obtain ⟨a0, a1, a2, a3, a4, a5⟩ := hf it (by simp)
    have hT : s.TypeIs (.ref e) "enumerate" := ⟨_, he, rfl⟩
    unfold pyNext
    refine wpAny_bind (wpAny_attempt (wpAny_callSpecial?_slot (name := Str.ofString "__next__") hT F.slot_enumerate_next (wpAny_call_entry F.slot_enumerate_next hT F.entry_enumerate_next ?_ (F.args_enumerate_next_1 _))))
    show wpAny _ _ (field (.ref e) 2 >>= _) _ _ _
    refine wpAny_bind (wpAny_field he rfl (x := .ref it) rfl ?_)
    refine wpAny_bind (wpAny_nextOf_tuple_end (I.ok.hd y4) hit p (by simp; omega) fun h' xx eb hx' => ?_)
    obtain ⟨o, ho, hc⟩ := hx'
    refine wpAny_bind (wpAny_isInstance (T := "StopIteration") (b := true) ⟨o, ho, hc⟩ isSubtype_stop ?_)
    exact wpAny_pure ⟨rfl, I.turned (t' := s.toks) (fun b o hb q => eb b o hb q) a0 a1 a3 a4 a5⟩
  self := fun A i s Q E st h => let ⟨⟨_, he⟩, _⟩ := st; wpAny_pyIter_enum he h
def iEnumT (K : PySem.W.Frag) (ta : TA) : TI := fun σ H R => ta σ H fun vs H1 => ∃ a xs, vs = [.ref a] ∧ SqT K H1 a xs ∧ R (ItE K a xs) H1
section
variable {X : Cx} {c : Ct} {ρ ρ1 ρ2 : List Sl} {μ μ1 μ2 μ3 ν : List Mo} {s s1 s2 s3 : Sl} {a b e t tg iter elt : Expr} {es rest elts : List Expr} {pos p tpos : Pos} {d : PyData} {ds ds2 : List PyData} {o : Out} {scope : Scope} {i j kk : Nat}
theorem pi_enumT {ta : TA} (hg : Gl X "enumerate") (hm : X.mg "enumerate" = none) (ha : PA X [e] ta) (hs : starEach [e] X.env = [(false, eval e X.env)] := by rfl) :
    PI X (.Tuple elts kk tpos) (.Call (.Name "enumerate" p) [e] [] pos) (iEnumT X.K ta) := by
  refine ⟨fun pins s σ H R I h => ?_⟩
  refine Call_ (ld_blt I hg hm boot_enumerate (PyProof.Rows.callWith_type1 (thn (ha.run pos pins s σ H _ I h) fun us s1 ⟨vs, H1, I1, r1, q1⟩ => ?_) hs rfl))
  obtain ⟨a, xs, ex, hq, q⟩ := q1
  subst ex
  cases r1 with
  | cons r rr =>
    cases rr
    cases r
    obtain ⟨its, rv, p', hz⟩ := I1.tuple hq
    have alt : a < s1.heap.objs.size := let ⟨_, q, _⟩ := p'; Heap.lt_size q
    have n1 : a ≠ s1.heap.objs.size + 1 := Nat.ne_of_lt (Nat.lt_succ_of_lt alt)
    have n2 : a ≠ s1.heap.objs.size := Nat.ne_of_lt alt
    refine call_enumT p' fun h' he hit hk => wpAny_pyIter_enum he ?_
    refine ⟨s1.heap.objs.size + 1, [s1.heap.objs.size + 1, s1.heap.objs.size], _, _, H1, rfl, I1.kept (t' := s1.toks) hk, turn_enT (xs := xs) a (s1.heap.objs.size + 1) s1.heap.objs.size, ⟨⟨.none, he⟩, hit, Nat.succ_ne_self _, n1, n2⟩, fun b hb => ?_, q⟩
    have hle : s1.heap.objs.size ≤ b := by
      rcases (by simpa using hb : b = s1.heap.objs.size + 1 ∨ b = s1.heap.objs.size) with rfl | rfl
      · exact Nat.le_succ _
      · exact Nat.le_refl _
    exact I1.fpOk hle (I1.hok.fresh hle)
def enumD (ds : List PyData) : List PyData := (List.range ds.length).map fun i => .tuple [.int (i : Nat), ds.getD i .none]
theorem enumD_at {i : Nat} {d : PyData} : (enumD ds)[i]? = some d ↔ ∃ e, ds[i]? = some e ∧ d = .tuple [.int (i : Nat), e] := by
  unfold enumD
  rw [List.getElem?_map]
  by_cases h : i < ds.length
  · rw [List.getElem?_range h, List.getElem?_eq_getElem h]
    have : ds.getD i .none = ds[i] := by rw [List.getD_eq_getElem?_getD, List.getElem?_eq_getElem h]; rfl
    simp only [Option.map_some, this]
    exact ⟨fun z => ⟨_, rfl, (Option.some.inj z).symm⟩, fun ⟨e, z, z2⟩ => by cases z; rw [z2]⟩
  · rw [List.getElem?_eq_none (by simpa using h), List.getElem?_eq_none (by omega)]
    exact ⟨(fun z => by cases z), (fun ⟨e, z, _⟩ => by cases z)⟩
theorem enumD_len : (enumD ds).length = ds.length := by unfold enumD; simp
theorem di_enumT (hm : X.mg "enumerate" = none) (h : dV X c e ρ μ (.dat (.tuple ds)) μ1) (hg : Gl X "enumerate" := by rfl) (hs : starEach [e] X.env = [(false, eval e X.env)] := by rfl) : dI X c (.Tuple elts kk tpos) (.Call (.Name "enumerate" p) [e] [] pos) ρ μ (fun _ => True) (enumD ds) μ1 := by
  refine ⟨_, pi_enumT hg hm (pa_cons pe_w pa_nil (by rw [hs]; rfl)) hs, fun m S H σ W R RR kk => ?_⟩
  refine h m S H σ W R _ fun m1 S1 v H1 W1 e1 p1 q1 => ?_
  obtain ⟨q, xs, rfl, hx, hxs⟩ := Dq.of_tup q1
  refine ⟨q, xs, rfl, Evl.ex_t W1.sub hx, kk _ m1 S1 H1 W1 e1 p1 ⟨fun c μ m2 S2 H2 i d W2 e2 p2 _ hd => ?_, fun c μ m2 S2 H2 i W2 e2 p2 _ hl => ?_⟩⟩
  · obtain ⟨u, hu, rfl⟩ := enumD_at.mp hd
    obtain ⟨v, hv, hq⟩ := hxs.at hu
    refine ⟨⟨Evl.ex_t W2.sub (Evl.ex_t e2 hx), (List.getElem?_eq_some_iff.mp hv).1⟩, fun x H' hy => ?_⟩
    obtain ⟨T, y, rfl, hT, rfl, hy⟩ := hy
    rw [hv] at hy; cases hy
    obtain ⟨W3, e3, z3⟩ := lay_tup W2.self hT (.cons (.int _) (.cons (hq.mono e2) .nil))
    exact ⟨_, W3, z3⟩
  · exact ⟨Evl.ex_t W2.sub (Evl.ex_t e2 hx), by rw [hxs.length, ← enumD_len]; exact hl⟩
theorem di_enumL (hm : X.mg "enumerate" = none) (h : dV X c e ρ μ (.dat (.list ds)) μ1) (hg : Gl X "enumerate" := by rfl) (hs : starEach [e] X.env = [(false, eval e X.env)] := by rfl) : dI X c (.Tuple elts kk tpos) (.Call (.Name "enumerate" p) [e] [] pos) ρ μ (fun _ => True) (enumD ds) μ1 := by
  refine ⟨_, pi_enum hg hm (pa_cons pe_w pa_nil (by rw [hs]; rfl)) hs, fun m S H σ W R RR kk => ?_⟩
  refine h m S H σ W R _ fun m1 S1 v H1 W1 e1 p1 q1 => ?_
  obtain ⟨q, xs, rfl, hx, hxs⟩ := Dq.of_lst q1
  refine ⟨q, xs, rfl, .inl (Evl.ex_rd W1.sub hx), kk _ m1 S1 H1 W1 e1 p1 ⟨fun c μ m2 S2 H2 i d W2 e2 p2 _ hd => ?_, fun c μ m2 S2 H2 i W2 e2 p2 _ hl => ?_⟩⟩
  · have hx2 : SqL X.K H2 q xs := .inl (Evl.ex_rd W2.sub (Evl.ex_rd e2 hx))
    obtain ⟨u, hu, rfl⟩ := enumD_at.mp hd
    obtain ⟨v, hv, hq⟩ := hxs.at hu
    refine ⟨⟨xs, v, hx2, hv⟩, fun x H' hy => ?_⟩
    obtain ⟨T, y, rfl, hT, rfl, hy⟩ := hy
    have hy := hy xs hx2
    rw [hv] at hy; cases hy
    obtain ⟨W3, e3, z3⟩ := lay_tup W2.self hT (.cons (.int _) (.cons (hq.mono e2) .nil))
    exact ⟨_, W3, z3⟩
  · exact ⟨xs, .inl (Evl.ex_rd W2.sub (Evl.ex_rd e2 hx)), by rw [hxs.length, ← enumD_len]; exact hl⟩
/-! ### [.. for x, y in ..] -/
def gPair (K : PySem.W.Frag) (i j : Nat) : TG := gTup K 2 (gCons (gName i) (gCons (gName j) gNil))
theorem wipe2 (σ : L2.St) (i j : Nat) (x y : V) : wipe (((wipe σ [i, j]).set i (some x)).set j (some y)) [i, j] = wipe σ [i, j] := by
  show ((((((σ.set j none).set i none).set i (some x)).set j (some y)).set j none).set i none) = (σ.set j none).set i none
  rw [List.set_set, List.set_set]
  by_cases h : i = j
  · subst h; simp [List.set_set]
  · rw [List.set_comm _ _ (Ne.symm h), List.set_set, List.set_comm _ _ h, List.set_set]
theorem tru_of {A B : Prop} (h : A) : (if true = true then A else B) := h
theorem dqA2 {K : PySem.W.Frag} {S : Hp} {zs : List V} {d1 d2 : PyData} (h : DqA K S zs [d1, d2]) : ∃ z1 z2, zs = [z1, z2] ∧ Dq K S z1 d1 ∧ Dq K S z2 d2 := by
  cases h with
  | cons h t => cases t with
    | cons h2 t2 => cases t2; exact ⟨_, _, rfl, h, h2⟩
theorem dv_lc2 {Pm : List Mo → Prop} {x y : Str} {px py pt : Pos} {acce : List PyData} {f : Nat → PyData} {g1 g2 : Nat → PyData} (hc : X.calm = true) (hN : X.N.Nodup) (ok : BlkOk X.N X.env.scope scope [(x, i), (y, j)])
    (hi : dI X c (.Tuple [.Name x px, .Name y py] kk pt) iter ρ μ Pm ds μ1) (hz : ds.length < sizeLine) (hP : Pm μ1) (hij : i ≠ j)
    (hs : ∀ n, n < ds.length → ds[n]? = some (.tuple [g1 n, g2 n]) ∧ dBV X scope elt ((ρ.set i (.dat (g1 n))).set j (.dat (g2 n))) μ1 (.dat (f n)) μ1)
    (hd : acce = (List.range ds.length).map f)
    (hg : ∀ (s : Shared) (H : Hp) (C : Addr) (cl : List (Str × Addr)) (fp : List Addr), PG (X.blk s H scope (compEnvC scope cl C X.env) fp) (.Tuple [.Name x px, .Name y py] kk pt) (gPair X.K i j)) (hf : ∀ y, foldedSetIterable iter X.env y = pure y := by intro _; rfl) :
    dV X c (.ListComp elt [⟨.Tuple [.Name x px, .Name y py] kk pt, iter, [], 0⟩] scope pos) ρ μ (.dat (.list acce)) μ1 := .mk fun m S H σ W R Q kk => by
  obtain ⟨wi, hwi, hi⟩ := hi
  refine wE_of (pe_lc (own := [(x, i), (y, j)]) (g := gPair X.K i j) (tt := tYes) (te := wBE X scope elt) hc hN hwi ok hg (fun s0 H0 C cl fp => pts_nil) (fun s0 H0 C cl fp => ⟨fun pins s _ _ _ I h => h s0 H0 C cl fp pins s I⟩) hf) ?_
  refine hi m S H σ W R _ fun It m1 S1 H1 W1 e1 p1 hIt D hD => ?_
  obtain ⟨f1, f2, f3, f4, f5⟩ := W1.free hD
  let Wv : Nat → Nat → Hp → Prop := fun n x H => x = ds.length - n ∧ n ≤ ds.length ∧ ∃ m' S' xs, Wd X c μ1 m' S' H ∧ H D = some (.lst xs) ∧ DqA X.K S' xs ((List.range n).map f) ∧ D ∉ m' ∧ S' D = none ∧ Ex S1 S' ∧ m1 <+: m'
  refine ⟨Wv, ⟨_, rfl, Nat.zero_le _, m1, S1, [], W1.hid f1 f2 f4, upd_same, .nil, f1, f2, Evl.Ex.refl _, List.prefix_refl _⟩, ?_⟩
  rintro n x H' ⟨rfl, hle, m', S', xs, W', hD', hxs, nm, nS, e', p'⟩
  by_cases hlt : n < ds.length
  · obtain ⟨hd1, hE⟩ := hs n hlt
    obtain ⟨g1', g2'⟩ := hIt.go c μ1 m' S' H' n _ W' e' p' hP hd1
    refine .inr ⟨g1', fun H2 => Wv (n + 1) (ds.length - (n + 1)) H2, fun H2 h2 => ⟨_, by omega, h2⟩, fun v Hy hy => ?_⟩
    obtain ⟨Sy, Wy0, qy⟩ := g2' v Hy hy
    have Wy := W'.trans Wy0
    have ey : Ex S' Sy := Wy0.ex0
    obtain ⟨_, nSy, hDy⟩ := Wy0.keepHid nm nS hD'
    obtain ⟨q, zs, rfl, hq, hzs⟩ := Dq.of_tup qy
    obtain ⟨z1, z2, rfl, h1, h2⟩ := dqA2 hzs
    · skip
      refine ⟨q, [z1, z2], rfl, Evl.ex_t Wy.sub hq, rfl, z1, [z2], rfl, z2, [], rfl, rfl, ?_⟩
      refine ⟨wipe2 σ i j z1 z2, ?_⟩
      unfold tYes
      refine tru_of ?_
      have Rw : SlOk X.K Sy m' (((wipe σ [i, j]).set i (some z1)).set j (some z2)) ((ρ.set i (.dat (g1 n))).set j (.dat (g2 n))) := by
        have r1 := ((R.mono e1 p1).mono e' p').mono ey (List.prefix_refl _)
        have r2 := ((r1.wipe j).wipe i).set (i := i) (s := .dat (g1 n)) h1
        have r3 := r2.set (i := j) (s := .dat (g2 n)) h2
        have ee : ((((ρ.set j Sl.no).set i Sl.no).set i (.dat (g1 n))).set j (.dat (g2 n))) = (ρ.set i (.dat (g1 n))).set j (.dat (g2 n)) := by
          rw [List.set_set, List.set_comm _ _ (Ne.symm hij), List.set_set]
        rw [ee] at r3
        exact r3
      intro s0 H0 C cl fp
      refine hE ⟨Hy, Sy, m'⟩ s0 H0 C cl fp m' Sy Hy _ Wy.self Rw _ fun m3 S3 y H3 W3 e3 p3 q3 => ?_
      obtain ⟨nm3, nS3, hD3⟩ := MoOk.keepHid (show MoOk X.prog X.w X.K ⟨Hy, Sy, m'⟩ μ1 m3 S3 H3 from W3) nm nSy hDy
      have hx3 : DqA X.K S3 xs ((List.range n).map f) := (hxs.mono ey).mono e3
      have hl3 := hx3.length
      rw [List.length_map, List.length_range] at hl3
      refine ⟨xs, hD3, by omega, rfl, hlt, m3, S3, xs ++ [y], (Wy.trans W3).hid nm3 nS3 f4, upd_same, ?_, nm3, nS3, (e'.trans ey).trans e3, p'.trans p3⟩
      rw [List.range_succ, List.map_append]
      exact hx3.snoc q3
  · have en : n = ds.length := by omega
    subst en
    subst hd
    obtain ⟨W3, e3⟩ := W'.showD nm nS f4 hD'
    exact .inl ⟨hIt.stop c μ1 m' S' H' _ W' e' p' hP (Nat.le_refl _), kk m' _ _ H' W3 ((e1.trans e').trans e3) (p1.trans p') (.lst (.inl upd_same) (hxs.mono e3))⟩
end
end Dr
set_option maxHeartbeats 4000000
/-! D17: written dicts. -/
namespace Dr
open PySem PySem.Spec PyProof.Rows L2
section
variable {X : Cx} {c : Ct} {ρ : List Sl} {μ μ1 μ2 : List Mo} {a b : Expr} {pos : Pos} {z : Str} {q : Addr} {es : Array DictEntry} {n : Nat}
theorem c_inW {r : Option Value} (D : KDict X.K X.w q es n) (h : PySem.W.nsIn X.K q z = some r) : CmpR X c .In (.dat (.str z)) (.raw (.ref q)) μ r.isSome :=
  ⟨_, op_in_kd D, fun m S H x y Q W h1 h2 k => ⟨z, r, Dq.of_str h1, h2, h, k⟩⟩
theorem c_ninW {r : Option Value} (D : KDict X.K X.w q es n) (h : PySem.W.nsIn X.K q z = some r) : CmpR X c .NotIn (.dat (.str z)) (.raw (.ref q)) μ (!r.isSome) :=
  ⟨_, op_notIn_kd D, fun m S H x y Q W h1 h2 k => ⟨z, r, Dq.of_str h1, h2, h, k⟩⟩
theorem dv_ixWi {i : Int} (D : KDict X.K X.w q es n) (ha : dV X c a ρ μ (.raw (.ref q)) μ1) (hb : dV X c b ρ μ1 (.dat (.str z)) μ2) (h : ∃ t, PySem.W.nsIn X.K q z = some (some (.int i t))) (hp : PlainIx b := by exact fun _ _ => rfl) : dV X c (.Subscript a b pos) ρ μ (.dat (.int i)) μ2 := .mk fun m S H σ W R Q kk => by
  obtain ⟨t, h⟩ := h
  refine wE_of (pe_ix ix_kdict pe_w pe_w hp) ?_
  refine ha m S H σ W R _ fun m1 S1 x H1 W1 e1 p1 q1 => ?_
  refine hb m1 S1 H1 σ W1 (R.mono e1 p1) _ fun m2 S2 y H2 W2 e2 p2 q2 => ?_
  exact ⟨q, z, .int i, q1, Dq.of_str q2, ⟨es, n, _, D.at_, D.lit, h, ⟨t, rfl⟩⟩, ((kk.up e1 p1).up e2 p2).now W2 (.int i)⟩
theorem dv_ixWs {i : Str} (D : KDict X.K X.w q es n) (ha : dV X c a ρ μ (.raw (.ref q)) μ1) (hb : dV X c b ρ μ1 (.dat (.str z)) μ2) (h : ∃ t, PySem.W.nsIn X.K q z = some (some (.str i t))) (hp : PlainIx b := by exact fun _ _ => rfl) : dV X c (.Subscript a b pos) ρ μ (.dat (.str i)) μ2 := .mk fun m S H σ W R Q kk => by
  obtain ⟨t, h⟩ := h
  refine wE_of (pe_ix ix_kdict pe_w pe_w hp) ?_
  refine ha m S H σ W R _ fun m1 S1 x H1 W1 e1 p1 q1 => ?_
  refine hb m1 S1 H1 σ W1 (R.mono e1 p1) _ fun m2 S2 y H2 W2 e2 p2 q2 => ?_
  exact ⟨q, z, .str i, q1, Dq.of_str q2, ⟨es, n, _, D.at_, D.lit, h, ⟨t, rfl⟩⟩, ((kk.up e1 p1).up e2 p2).now W2 (.str i)⟩
theorem dv_gR (h : X.mg (z : Str) = some (.ref q)) (hg : Gl X z := by rfl) (hd : (z == ("__debug__" : Str)) = false := by decide) : dV X c (.Name z pos) ρ μ (.raw (.ref q)) μ := dv_globR h rfl hg hd
end
end Dr
set_option maxHeartbeats 4000000
/-! D18: short forms for loops and comprehensions; defs that fall off their end; isinstance of the program's class. -/
namespace Dr
open PySem PySem.Spec PyProof.Rows L2
/-- a block's names, to be looked at by evaluation -/
def blkB (N : List Str) (sc scope : Scope) (own : List (Str × Nat)) : Bool :=
  (scope.kind == .function) && (scope.names.all (fun y => scope.names.lookup y.1 == some y.2) && (own.all (fun p => N[p.2]? == some p.1) &&
  (scope.names.all (fun y => !(y.2 == .free) || (sc.names.lookup y.1 == some .cell || sc.names.lookup y.1 == some .free)) && scope.names.all (fun y => !(y.2 == .local || y.2 == .cell) || ((own.map (·.1)).contains y.1 || !N.contains y.1)))))
theorem blk_of {N : List Str} {sc scope : Scope} {own : List (Str × Nat)} (h : blkB N sc scope own = true) : BlkOk N sc scope own := by
  unfold blkB at h
  simp only [Bool.and_eq_true, List.all_eq_true, Bool.or_eq_true, Bool.not_eq_true', beq_iff_eq, beq_eq_false_iff_ne, List.contains_iff_mem, ne_eq] at h
  obtain ⟨h1, h2, h3, h4, h5⟩ := h
  refine ⟨h1, h2, h3, fun y hy e => ?_, fun y hy e => ?_⟩
  · rcases h4 y hy with z | z
    · exact absurd e z
    · exact z
  · rcases h5 y hy with z | z
    · have : (y.2 == NameKind.local || y.2 == NameKind.cell) = true := by rcases e with e | e <;> rw [e] <;> rfl
      rw [this] at z; cases z
    · rcases z with z | z
      · exact .inl z
      · exact .inr (by simpa using z)
section
variable {X : Cx} {c : Ct} {ρ ρ1 ρ2 : List Sl} {μ μ1 μ2 μ3 ν : List Mo} {s s1 s2 s3 : Sl} {a b e t tg iter elt : Expr} {es rest : List Expr} {st : Stmt} {sts body orelse : List Stmt} {pos p : Pos} {k k1 k2 : Bool} {d : PyData} {ds ds2 : List PyData} {o : Out} {scope : Scope} {i : Nat}
theorem dxs_is (h : dXs X c sts ρ μ (.nx ρ1 μ1)) (f : Fg ρ1 ρ2) (e : μ1 = μ2) : dXs X c sts ρ μ (.nx ρ2 μ2) := e ▸ dxs_fg h f
theorem dX_is {o2 : Out} (h : dX X c st ρ μ o) (e : o = o2) : dX X c st ρ μ o2 := e ▸ h
/-- [f(x) for x in xs] -/
theorem dv_lcM {Pm : List Mo → Prop} {x : Str} {px : Pos} {f : PyData → PyData} (hc : X.calm = true) (hN : X.N.Nodup) (ok : BlkOk X.N X.env.scope scope [(x, i)])
    (hi : dI X c (.Name x px) iter ρ μ Pm ds μ1) (hz : ds.length < sizeLine) (hP : Pm μ1)
    (hs : ∀ d, d ∈ ds → dBV X scope elt (ρ.set i (.dat d)) μ1 (.dat (f d)) μ1)
    (hg : ∀ (s : Shared) (H : Hp) (C : Addr) (cl : List (Str × Addr)) (fp : List Addr), PG (X.blk s H scope (compEnvC scope cl C X.env) fp) (.Name x px) (gName i)) (hf : ∀ y, foldedSetIterable iter X.env y = pure y := by intro _; rfl) :
    dV X c (.ListComp elt [⟨.Name x px, iter, [], 0⟩] scope pos) ρ μ (.dat (.list (ds.map f))) μ1 := by
  refine dv_lc (fun n acc μ' => acc = (ds.take n).map f ∧ μ' = μ1) hc hN ok hi hz ⟨rfl, rfl⟩ (fun n acc μ' h => by rw [h.2]; exact hP) (fun n acc μ' h => by rw [h.1, List.length_map, List.length_take]; exact Nat.min_le_left _ _) (fun n d acc μ' hd h => ?_) (fun acc μ' h => by rw [h.1, List.take_length]; exact ⟨rfl, h.2⟩) hg (by decide) hf
  obtain ⟨rfl, rfl⟩ := h
  refine ⟨true, μ', ⟨rfl, rfl⟩, fun _ => ⟨f d, μ', hs d (List.mem_of_getElem? hd), ?_, rfl⟩, fun z => by cases z⟩
  rw [List.take_add_one, hd, List.map_append]; rfl
/-- isinstance(x, Program) -/
structure PrgI (K : PySem.W.Frag) : Prop where
  ty : ∀ (H : Hp) (a dx : Addr) (fs : List (Str × V)), H a = some (.ins (prgC K) dx fs) → TyX K H (.ref a) (.ref (prgC K))
  kit : PySem.W.kitOne K (.ref (prgC K)) (.ref (prgC K)) = some true
theorem dv_isiP {ws sd : PyData} {z : Str} (T : PrgI X.K) (hm : X.mg "isinstance" = none) (hz : X.mg z = some (.ref (prgC X.K))) (h : dV X c a ρ μ (.prg ws sd) μ1) (hg : Gl X "isinstance" := by rfl) (hgT : Gl X z := by rfl) (hdT : (z == ("__debug__" : Str)) = false := by decide +kernel) {pT : Pos}
    (he : starEach [a, .Name z pT] X.env = (false, eval a X.env) :: starEach [.Name z pT] X.env := by exact star_cons rfl) (he' : starEach [.Name z pT] X.env = (false, eval (.Name z pT) X.env) :: starEach [] X.env := by exact star_cons rfl) (hpl : (backTo pos (starEach [.Name z pT] X.env)).any (·.1) = false := by rfl) :
    dV X c (.Call (.Name "isinstance" p) [a, .Name z pT] [] pos) ρ μ (.dat (.bool true)) μ1 := by
  refine dv_callB (ss := [.prg ws sd, .raw (.ref (prgC X.K))]) call_isi hm (by decide +kernel) (da2 h (dv_gR hz hgT hdT) he he') (fun m S H vs Q W q kk => ?_) hg (by decide) (by decide) he hpl
  obtain ⟨v, v', rfl, hv, hv'⟩ := slVs2 q
  have hv' : v' = .ref (prgC X.K) := hv'
  subst hv'
  obtain ⟨q1, dx, wv, sv, rfl, hq, _, _⟩ := hv
  exact ⟨_, _, _, _, true, rfl, .own _, T.ty H q1 dx _ (W.sub _ _ hq), T.kit, kk.now W (.bl _)⟩
end
section
/-- a def that falls off its end -/
theorem fnDN {P : Program} {w : World} {K : PySem.W.Frag} {mg : Str → Option Value} {base : Heap} {x : Str} {st : Stmt} {f : Addr} {fd : FuncData} {N ps : List Str} {j : Nat} {C : Ctr} (F : Fun K x x st f fd) (hm : mg x = some (.ref f)) (sc : FnScope N ps (defScope st))
    (hb : ∀ (kV doc pm : Value) (an : Option Addr) (cdv ct : Value) (us : List Value), us.length = ps.length → bindArgs (PySem.W.fnOf x x (defArgs st) (defBody st) (defScope st) .none kV doc pm an cdv ct) ⟨us, []⟩ = pure (ps.zip us))
    (len : ∀ ss μ s' μ', C ss μ s' μ' → ss.length = ps.length) (hnone : ∀ ss μ s' μ', C ss μ s' μ' → s' = .dat .none)
    (hbody : ∀ (cdv : Value) (A : Around) (outer : List Env) (s : Shared) (H : Hp) (E : XK) (c : Ct), Room j (bx P w K mg base N x st f cdv A outer s H E).A → ∀ ss μ s' μ', C ss μ s' μ' → c.m0.length = μ.length →
      ∃ ρ', dXs (bx P w K mg base N x st f cdv A outer s H E) c (defBody st) (startSl N ss) μ (.nx ρ' μ')) : FnD P w K mg base x (j + 1) C := by
  refine ⟨f, fd, ps, F.ok sc (fun vs H Q E h => ?_) (fun cdv A outer s H vs Q E hr h => ?_), hm, F.kp, F.binds hb⟩
  · obtain ⟨m, S, ss, μ, s', μ', hC, W, r, k⟩ := h
    rw [r.length]; exact len _ _ _ _ hC
  · obtain ⟨m, S, ss, μ, s', μ', hC, W, r, k⟩ := h
    refine ⟨_, pss_w, ?_⟩
    obtain ⟨ρ', hB⟩ := hbody cdv A outer s H E ⟨H, S, m⟩ hr ss μ s' μ' hC W.len.symm
    refine hB m S H _ W (slOk_start r) _ fun m' S' σ' H' W' e' p' R' => ?_
    have hs := hnone _ _ _ _ hC
    subst hs
    exact k m' S' .non H' W' .non
end
end Dr
set_option maxHeartbeats 4000000
/-! D19: a list unpacked; a sum of lists, new. -/
namespace Dr
open PySem PySem.Spec PyProof.Rows L2
section
variable {X : Cx} {c : Ct} {ρ ρ1 : List Sl} {μ μ1 μ2 : List Mo} {a b : Expr} {pos : Pos} {ds ds2 : List PyData}
theorem dg_lst {ts : List Expr} {n : Nat} (hc : X.calm = true) (h : dGs X ts (ds.map Sl.dat) ρ ρ1) (hn : (assignEach ts X.env).length = ds.length := by rfl) (hst : (assignEach ts X.env).findIdx? (·.1) = none := by rfl) :
    dG X (.Tuple ts n pos) (.dat (.list ds)) ρ ρ1 := by
  obtain ⟨u, hu, k1⟩ := h
  refine .mk fun m S H σ v eS R r Q k => ?_
  refine wG_of (pg_lst hc hu hn hst) ?_
  obtain ⟨p, xs, rfl, hx, hs⟩ := Dq.of_lst r
  exact ⟨p, xs, rfl, .inl (Evl.ex_rd eS hx), hs.length, k1 m S H σ xs eS R (dat_slVs hs) Q k⟩
theorem dv_catM (ha : dV X c a ρ μ (.dat (.list ds)) μ1) (hb : dV X c b ρ μ1 (.dat (.list ds2)) μ2) (h : ds.length + ds2.length ≤ sizeLine) : dV X c (.BinOp a .Add b pos) ρ μ (.own μ2.length) (μ2 ++ [.lst (ds ++ ds2)]) := .mk fun m S H σ W R Q kk => by
  refine wE_of (pe_op op_catR pe_w pe_w) ?_
  refine ha m S H σ W R _ fun m1 S1 x H1 W1 e1 p1 q1 => ?_
  refine hb m1 S1 H1 σ W1 (R.mono e1 p1) _ fun m2 S2 y H2 W2 e2 p2 q2 => ?_
  obtain ⟨l, xs, rfl, hx, hs⟩ := Dq.of_lst (Dq.mono e2 q1)
  obtain ⟨q, zs, rfl, hy, hz⟩ := Dq.of_lst q2
  exact ⟨l, q, xs, zs, rfl, rfl, Evl.ex_rd W2.sub hx, Evl.ex_rd W2.sub hy, by rw [hs.length, hz.length]; exact h, fun p hp => ((kk.up e1 p1).up e2 p2).lstM W2 (hs.append hz) hp⟩
end
end Dr
set_option maxHeartbeats 4000000
/-! D20: three names stored at once; x += e; a dict display of one pair. -/
namespace Dr
open PySem PySem.Spec PyProof.Rows L2
section
variable {X : Cx} {c : Ct} {ρ ρ1 : List Sl} {μ μ1 μ2 : List Mo} {s1 s2 s3 : Sl} {a b e ke ve : Expr} {pos : Pos} {d : PyData} {ds ds2 : List PyData} {x y z : Str}
theorem slVs3 {K : PySem.W.Frag} {S : Hp} {m : List Addr} {vs : List V} {s s' s'' : Sl} (h : SlVs K S m vs [s, s', s'']) : ∃ v v' v'', vs = [v, v', v''] ∧ SlV K S m v s ∧ SlV K S m v' s' ∧ SlV K S m v'' s'' := by
  cases h with
  | cons h t => obtain ⟨v', v'', e, h', h''⟩ := slVs2 t; exact ⟨_, v', v'', by rw [e], h, h', h''⟩
theorem dx_par3 {i j l : Nat} {px py pz pt pt2 : Pos} {kt k2} (hc : X.calm = true) (hN : X.N.Nodup) (h : dA X c [a, b, e] ρ μ [s1, s2, s3] μ1) (hi : X.N[i]? = some x := by rfl) (hj : X.N[j]? = some y := by rfl) (hl : X.N[l]? = some z := by rfl) (hij : i ≠ j := by decide) (hil : i ≠ l := by decide) (hjl : j ≠ l := by decide)
    (hx : X.env.scope.names.lookup x = some .local := by rfl) (hy : X.env.scope.names.lookup y = some .local := by rfl) (hz : X.env.scope.names.lookup z = some .local := by rfl) (hw : swappedStores [.Tuple [.Name x px, .Name y py, .Name z pz] kt pt] (.Tuple [a, b, e] k2 pt2) X.env = pure (some [x, y, z]) := by rfl)
    (hs : swapsWithSole [.Tuple [.Name x px, .Name y py, .Name z pz] kt pt] (.Tuple [a, b, e] k2 pt2) pos.line X.env = pure false := by rfl) : dX X c (.Assign [.Tuple [.Name x px, .Name y py, .Name z pz] kt pt] (.Tuple [a, b, e] k2 pt2) pos) ρ μ (.nx (((ρ.set i s1).set j s2).set l s3) μ1) := .mk fun m S H σ W R D kk => by
  refine wS_of (ps_par3 hc hN hi hj hl hij hil hjl hx hy hz pa_w hw hs) ?_
  refine h m S H σ W R _ fun m1 S1 vs H1 W1 e1 p1 q1 => ?_
  obtain ⟨v, v', v'', rfl, r1, r2, r3⟩ := slVs3 q1
  exact ⟨v, v', v'', rfl, kk m1 S1 _ H1 W1 e1 p1 ((((R.mono e1 p1).set r1).set r2).set r3)⟩
theorem dx_inc {i : Nat} {n k : Int} {pos' : Pos} (hN : X.N.Nodup) (hn : ρ[i]? = some (.dat (.int n))) (h : dV X c e ρ μ (.dat (.int k)) μ1) (hi : X.N[i]? = some x := by rfl) (hx : Loc X.env.scope x := by first | exact Or.inl rfl | exact Or.inr rfl) (hf : X.fn x = true ∨ X.env.scope.names.lookup x = some .local := by first | exact .inl rfl | exact .inr rfl | assumption) :
    dX X c (.AugAssign (.Name x pos') .Add e pos) ρ μ (.nx (ρ.set i (.dat (.int (n + k)))) μ1) := .mk fun m S H σ W R D kk => by
  refine wS_of (ps_aug hN hi hx pe_w ip_add hf) ?_
  rcases R.at_ i _ hn with z | ⟨v, h1, h2⟩
  · cases z
  · obtain rfl := Dq.of_int h2
    refine ⟨.int n, h1, ?_⟩
    refine h m S H σ W R _ fun m1 S1 w H1 W1 e1 p1 q1 => ?_
    obtain rfl := Dq.of_int q1
    exact ⟨n, k, rfl, rfl, kk m1 S1 _ H1 W1 e1 p1 ((R.mono e1 p1).set (.int (n + k)))⟩
/-- {k: v} -/
theorem dv_dic1 (hu : X.A.units + 64 < cLine) (hk : ∀ c, dV X c ke ρ μ (.dat d) μ) (hv : ∀ c, dV X c ve ρ μ s2 μ) (hko : keyOk d = true) : dV X c (.Dict [some ke] [ve] pos) ρ μ (.own μ.length) (μ ++ [.dic [d]]) := .mk fun m S H σ W R Q kk pins s I => by
  have hn := I.hok.fresh (Nat.le_refl s.heap.objs.size)
  have hbig := I.big
  obtain ⟨f1, f2, f3, f4, f5⟩ := W.free hn
  have I1 : Inv X pins σ (upd H s.heap.objs.size (dicO s.heap.objs.size #[] 0)) { s with heap := s.heap.push { cls := .type "dict", data := .dict #[] }, toks := s.toks } :=
    I.laid (t' := s.toks) (fun _ _ q => Heap.get?_push_of_some _ q) (Nat.le_refl _) (dicO_ok (Heap.get?_push_size _ rfl) ⟨rfl, rfl, rfl⟩ rfl)
  have W1 := W.hid (o := dicO s.heap.objs.size #[] 0) f1 f2 f4
  have hr : (nestedKind X.prog X.w).room X.A := by show X.A.units + 8 < cLine; omega
  generalize hD : s.heap.objs.size = D at *
  rw [arm_eval_Dict, show (evalEachOpt [some ke] X.env).zip ((evalEach [ve] X.env).map fun v => do let x ← v; standAt pos; pure x) = [(eval ke X.env, (do let x ← eval ve X.env; standAt pos; pure x : Sem Value))].map (fun p => (some p.1, p.2)) from rfl, dictDisplay_pairs [(eval ke X.env, (do let x ← eval ve X.env; standAt pos; pure x : Sem Value))] (by simp) (show 1 < 17 by decide)]
  refine wpAny_bind (wpAny_standAt (wpAny_bind (wpAny_subDictH (knd := nestedKind X.prog X.w) (Q := fun q s' => wpAny (model X.prog X.w) X.A (pure (Value.ref q)) (EP X pins σ Q) X.xe s') hr (show 1 ≤ 15 by decide) ?_)))
  rw [hD]
  have hsm : (D == sysModules) = false := beq_eq_false_iff_ne.mpr (Nat.ne_of_gt hbig)
  refine evalPairs_cons (thn (hk ⟨upd H D (dicO D #[] 0), S, m⟩ m S _ σ W1.self R (fun v H2 => ∃ a m2 S2, v = .ref a ∧ MoOk X.prog X.w X.K ⟨upd H D (dicO D #[] 0), S, m⟩ μ m2 S2 H2 ∧ Ex S S2 ∧ m <+: m2 ∧ Dq X.K S2 (.ref a) d) (fun m2 S2 v2 H2 W2 e2 p2 q2 => ?_) pins _ I1) fun u s1 ⟨v, H2, I2, r, a, m2, S2, ev, W2, e2, p2, q2⟩ => ?_)
  · obtain ⟨a, rfl⟩ := key_ref (show Dq X.K S2 v2 d from q2) hko
    exact ⟨a, m2, S2, rfl, W2, e2, p2, q2⟩
  · subst ev
    obtain rfl := (show u = Value.ref a from r)
    obtain ⟨nm2, nS2, hD2⟩ := W2.keepHid f1 f2 upd_same
    refine wpAny_bind (thn (hv ⟨H2, S2, m2⟩ m2 S2 H2 σ W2.self (R.mono e2 p2) (fun v H3 => ∃ m3 S3, MoOk X.prog X.w X.K ⟨H2, S2, m2⟩ μ m3 S3 H3 ∧ Ex S2 S3 ∧ m2 <+: m3) (fun m3 S3 v3 H3 W3 e3 p3 q3 => ⟨m3, S3, W3, e3, p3⟩) pins _ I2) fun u2 s2 ⟨v2, H3, I3, r3, m3, S3, W3, e3, p3⟩ => ?_)
    obtain ⟨nm3, nS3, hD3⟩ := W3.keepHid nm2 nS2 hD2
    refine wpAny_bind (wpAny_standAt (wpAny_pure (evalPairs_nil ?_)))
    have W4 := (W1.trans W2).trans W3
    have q3 : Dq X.K S3 (.ref a) d := Dq.mono e3 q2
    refine ⟨[(nk d, a, u2)], ⟨rfl, rfl, key_is I3 W4.sub q3 hko, trivial⟩, dic_of I3 W4.sub (xs := []) (ks := []) hD3 rfl List.nodup_nil .nil, fun h' tk hm' hs => wpAny_pure ?_⟩
    obtain ⟨ob, es', ep, g1, g2, g3, g4, g5, g6⟩ := hm'
    have I4 := I3.write (t' := tk) (x := D) (e := D) (o := dicO D es' ep) (by rw [hD3]; trivial) (.inl rfl) (fun b u hb e => (hs.2 b hb).trans e) ⟨ob, g1⟩ (dicO_ok g1 g2 g3)
    have W5 := (W4.hid (o := dicO D es' ep) nm3 nS3 f4).ownD (u := .dic [d]) nm3 nS3 f4 ⟨es', ep, [(nk d, a, u2)], upd_same, hsm, g4, g6, .cons ⟨rfl, q3, hko⟩ .nil⟩
    refine ⟨.ref D, _, I4, rfl, kk _ S3 _ _ W5 (e2.trans e3) ((p2.trans p3).trans (List.prefix_append _ _)) ⟨D, ?_, rfl⟩⟩
    have hl : m3.length = μ.length := W3.len.symm
    rw [← hl]; simp
end
end Dr
set_option maxHeartbeats 4000000
/-! M0: rows, states, spots: the plain functions. -/
namespace Dr
open PySem PySem.Spec PyProof.Rows L2
inductive Qt where
  | n1 | n2 | n3 | n4 | fit
  deriving DecidableEq
def Qt.txt : Qt → Str
  | .n1 => "n" | .n2 => "2n" | .n3 => "3n" | .n4 => "4n" | .fit => "fit"
def Qt.val : Qt → Int
  | .n1 => 1 | .n2 => 2 | .n3 => 3 | .n4 => 4 | .fit => 0
abbrev F8 := _root_.Fin 8
def dig (d : F8) : Str := ⟨#[48 + d.val]⟩
inductive Row where
  | take | again | giveC | giveR
  | go (d : F8)
  | ifc (q : Qt) (d : F8)
  | ifv (q : Qt) (d : F8)
  | lessB (q : Qt) | lessC (q : Qt) | lessV (q : Qt)
  deriving DecidableEq
def Row.txt : Row → Str
  | .take => "take" | .again => "again" | .giveC => "give c" | .giveR => "give rest"
  | .go d => "go " ++ dig d
  | .ifc q d => "if c < " ++ q.txt ++ " go " ++ dig d
  | .ifv q d => "if v < " ++ q.txt ++ " go " ++ dig d
  | .lessB q => "less " ++ q.txt
  | .lessC q => "c less " ++ q.txt
  | .lessV q => "v less " ++ q.txt
def Row.words : Row → List Str
  | .take => ["take"] | .again => ["again"] | .giveC => ["give", "c"] | .giveR => ["give", "rest"]
  | .go d => ["go", dig d]
  | .ifc q d => ["if", "c", "<", q.txt, "go", dig d]
  | .ifv q d => ["if", "v", "<", q.txt, "go", dig d]
  | .lessB q => ["less", q.txt]
  | .lessC q => ["c", "less", q.txt]
  | .lessV q => ["v", "less", q.txt]
theorem row_all {p : Row → Prop} (h1 : p .take) (h2 : p .again) (h3 : p .giveC) (h4 : p .giveR) (h5 : ∀ d, p (.go d)) (h6 : ∀ d, p (.ifc .n1 d) ∧ p (.ifc .n2 d) ∧ p (.ifc .n3 d) ∧ p (.ifc .n4 d) ∧ p (.ifc .fit d))
    (h7 : ∀ d, p (.ifv .n1 d) ∧ p (.ifv .n2 d) ∧ p (.ifv .n3 d) ∧ p (.ifv .n4 d) ∧ p (.ifv .fit d)) (h8 : p (.lessB .n1) ∧ p (.lessB .n2) ∧ p (.lessB .n3) ∧ p (.lessB .n4) ∧ p (.lessB .fit)) (h9 : p (.lessC .n1) ∧ p (.lessC .n2) ∧ p (.lessC .n3) ∧ p (.lessC .n4) ∧ p (.lessC .fit))
    (h10 : p (.lessV .n1) ∧ p (.lessV .n2) ∧ p (.lessV .n3) ∧ p (.lessV .n4) ∧ p (.lessV .fit)) : ∀ r, p r
  | .take => h1 | .again => h2 | .giveC => h3 | .giveR => h4 | .go d => h5 d
  | .ifc .n1 d => (h6 d).1 | .ifc .n2 d => (h6 d).2.1 | .ifc .n3 d => (h6 d).2.2.1 | .ifc .n4 d => (h6 d).2.2.2.1 | .ifc .fit d => (h6 d).2.2.2.2
  | .ifv .n1 d => (h7 d).1 | .ifv .n2 d => (h7 d).2.1 | .ifv .n3 d => (h7 d).2.2.1 | .ifv .n4 d => (h7 d).2.2.2.1 | .ifv .fit d => (h7 d).2.2.2.2
  | .lessB .n1 => h8.1 | .lessB .n2 => h8.2.1 | .lessB .n3 => h8.2.2.1 | .lessB .n4 => h8.2.2.2.1 | .lessB .fit => h8.2.2.2.2
  | .lessC .n1 => h9.1 | .lessC .n2 => h9.2.1 | .lessC .n3 => h9.2.2.1 | .lessC .n4 => h9.2.2.2.1 | .lessC .fit => h9.2.2.2.2
  | .lessV .n1 => h10.1 | .lessV .n2 => h10.2.1 | .lessV .n3 => h10.2.2.1 | .lessV .n4 => h10.2.2.2.1 | .lessV .fit => h10.2.2.2.2
theorem split_txt : ∀ r : Row, Txt.split r.txt " " = r.words :=
  row_all (by decide +kernel) (by decide +kernel) (by decide +kernel) (by decide +kernel) (by decide +kernel) (by decide +kernel) (by decide +kernel) (by decide +kernel) (by decide +kernel) (by decide +kernel)
theorem txt_len : ∀ r : Row, r.txt.length ≤ 20 :=
  row_all (by decide +kernel) (by decide +kernel) (by decide +kernel) (by decide +kernel) (by decide +kernel) (by decide +kernel) (by decide +kernel) (by decide +kernel) (by decide +kernel) (by decide +kernel)
theorem dig_int : ∀ d : F8, PySem.intText? (dig d) = some (d.val : Int) := by decide +kernel
/-- is it a test of c -/
def Row.isC : Row → Bool
  | .ifc _ _ => true
  | _ => false
theorem cut4 : ∀ r : Row, decide (L2.cutS r.txt none (some 4) = "if c") = r.isC :=
  row_all (by decide +kernel) (by decide +kernel) (by decide +kernel) (by decide +kernel) (by decide +kernel) (by decide +kernel) (by decide +kernel) (by decide +kernel) (by decide +kernel) (by decide +kernel)
/-- a program -/
def Row.okAt (n i : Nat) : Row → Bool
  | .go d => d.val < n
  | .ifc _ d => d.val < n && d.val != i + 1 && i + 1 != n
  | .ifv _ d => d.val < n && d.val != i + 1 && i + 1 != n
  | .giveC => true | .giveR => true | .again => true
  | _ => i + 1 != n
def okProg (p : List Row) : Prop := 1 ≤ p.length ∧ p.length ≤ 8 ∧ ∀ (i : Nat) (r : Row), p[i]? = some r → r.okAt p.length i = true
/-! ### states -/
def encS (s : Stt) : PyData := .tuple [.int s.row, .int s.a, .int s.b, .bool s.x, .int s.j, .bool s.y]
def bi (x : Bool) : Int := if x = true then 1 else 0
def tms (q : Qt) (size : Int) : Int := if q.val = 0 then size else q.val
def tooFar (s : Stt) : Bool := decide (s.a < -8) || decide (s.j < -8) || decide (8 < s.b + bi s.x) || decide (8 < s.j + bi s.y)
def marks (r : Row) (s : Stt) : List (Str × Stt) := match r with
  | .take => if (!s.x && !s.y) = true then [("", ⟨s.row + 1, 2 * s.a, 2 * s.b, s.x, 2 * s.j, s.y⟩)]
    else [("0", ⟨s.row + 1, 2 * s.a, 2 * s.b, s.x, 2 * s.j, s.y⟩), ("1", ⟨s.row + 1, 2 * s.a, 2 * s.b + bi s.x, s.x, 2 * s.j + bi s.y, s.y⟩), ("h", ⟨s.row + 1, 2 * s.a, 2 * s.b + bi s.x, false, 2 * s.j + bi s.y, false⟩)]
  | .ifv q d => [("", { s with row := if s.j < tms q s.j then (d.val : Int) else s.row + 1 })]
  | .ifc q d => (if s.a < tms q s.j then [(("" : Str), (if tms q s.j < s.b + bi s.x then ⟨d.val, s.a, tms q s.j, false, s.j, s.y⟩ else ⟨d.val, s.a, s.b, s.x, s.j, s.y⟩ : Stt))] else []) ++
      (if tms q s.j < s.b + bi s.x then [(("" : Str), (⟨s.row + 1, if tms q s.j > s.a then tms q s.j else s.a, s.b, s.x, s.j, s.y⟩ : Stt))] else [])
  | .go d => [("", { s with row := d.val })]
  | .lessB q => [("", ⟨s.row + 1, s.a - tms q s.j, s.b - tms q s.j, s.x, s.j - tms q s.j, s.y⟩)]
  | .lessC q => [("", ⟨s.row + 1, s.a - tms q s.j, s.b - tms q s.j, s.x, s.j - 0, s.y⟩)]
  | .lessV q => [("", ⟨s.row + 1, s.a - 0, s.b - 0, s.x, s.j - tms q s.j, s.y⟩)]
  | _ => []
def first4 : List Stt := [⟨0, 0, 1, false, 1, false⟩, ⟨0, 0, 2, false, 2, false⟩, ⟨0, 0, 0, true, 0, true⟩, ⟨0, 0, 1, true, 1, true⟩]
def rowAt (p : List Row) (i : Int) : Row := p.getD i.toNat .again
def nexts (p : List Row) (s : Stt) : List Stt := (marks (rowAt p s.row) s).map (·.2)
def push1 (l : List Stt) (t : Stt) : List Stt := if t ∈ l then l else l ++ [t]
def push (l ts : List Stt) : List Stt := ts.foldl push1 l
/-- the search, at most n states looked at; none: one is too far -/
def bfs (p : List Row) : Nat → List Stt → Nat → Option (List Stt)
  | 0, l, _ => some l
  | n + 1, l, i => match l[i]? with
    | none => some l
    | some s => if tooFar s = true then none else bfs p n (push l (nexts p s)) (i + 1)
def tame (p : List Row) (l : List Stt) : Prop := bfs p 200000 first4 0 = some l
/-! ### chances -/
def gcdN : Nat → Int → Int → Int
  | 0, g, _ => g
  | n + 1, g, s => if s > 0 then gcdN n s (g % s) else g
def low (t b : Int) : Int × Int := (t / gcdN 40 t b, b / gcdN 40 t b)
def encF (f : Int × Int) : PyData := .tuple [.int f.1, .int f.2]
def lessF (f g : Int × Int) : Bool := decide (f.1 * g.2 < g.1 * f.2)
def chAt (q : Qt) (s : Stt) : List (Int × Int) :=
  if tms q s.j ≤ s.a then [(0, 1)] else if s.b + bi s.x ≤ tms q s.j then [(1, 1)]
  else (if s.x = true then [s.b, s.b + 1] else [s.b]).map fun e => low (tms q s.j - s.a) (e - s.a)
def told (r : Row) (i : Int) (l : List Stt) : List (Int × Int) := match r with
  | .ifc q _ => (l.filter fun s => decide (s.row = i)).flatMap (chAt q)
  | _ => []
def minF (l : List (Int × Int)) (f : Int × Int) : Int × Int := l.foldl (fun m e => if lessF e m = true then e else m) f
def maxF (l : List (Int × Int)) (f : Int × Int) : Int × Int := l.foldl (fun m e => if lessF m e = true then e else m) f
def oddsOf (l : List (Int × Int)) : PyData := match l with
  | [] => .none
  | f :: _ => .tuple [encF (minF l f), encF (maxF l f)]
end Dr
set_option maxHeartbeats 4000000
namespace Dr
open PySem PySem.Spec PyProof.Rows L2
/-- what the walk asks of the module -/
structure Tx (mg : Str → Option Value) (K : PySem.W.Frag) (w : World) : Prop where
  len : mg "len" = none
  int : mg "int" = none
  abs : mg "abs" = none
  divmod : mg "divmod" = none
  str : mg "str" = none
  bool : mg "bool" = none
  range : mg "range" = none
  isinstance : mg "isinstance" = none
  repr : mg "repr" = none
  all : mg "all" = none
  min : mg "min" = none
  max : mg "max" = none
  tuple : mg "tuple" = none
  list : mg "list" = none
  enumerate : mg "enumerate" = none
  most_rows : ∃ t, mg "MOST_ROWS" = some (.int 8 t)
  most_wide : ∃ t, mg "MOST_WIDE" = some (.int 8 t)
  fit : ∃ t, mg "FIT" = some (.int 0 t)
  figures : ∃ t, mg "FIGURES" = some (.str "01234567" t)
  half : ∃ t, mg "HALF" = some (.str "h" t)
  first : ∃ a, mg "FIRST" = some (.ref a) ∧ ∀ S, Dq K S (.ref a) (.tuple (first4.map encS))
  prg : PrgC K
  prgI : PrgI K
  program : mg "Program" = some (.ref (prgC K))
  quant : ∃ a es n, mg "QUANTITIES" = some (.ref a) ∧ KDict K w a es n ∧ ∀ q : Qt, ∃ t, PySem.W.nsIn K a q.txt = some (some (.int q.val t))
  subj : ∃ a es n, mg "SUBJECTS" = some (.ref a) ∧ KDict K w a es n ∧ PySem.W.nsIn K a "" = some none ∧ PySem.W.nsIn K a "give" = some none ∧ PySem.W.nsIn K a "go" = some none ∧ (∃ t, PySem.W.nsIn K a "less" = some (some (.str "cv" t))) ∧ (∃ t, PySem.W.nsIn K a "c less" = some (some (.str "c" t))) ∧ ∃ t, PySem.W.nsIn K a "v less" = some (some (.str "v" t))
section
variable {X : Cx} {c : Ct} {ρ ρ1 ρ2 : List Sl} {μ μ1 μ2 μ3 ν : List Mo} {s s1 s2 s3 : Sl} {a b e t tg iter ob ix e1 e2 e3 : Expr} {es rest : List Expr} {st : Stmt} {sts body orelse : List Stmt} {pos p apos : Pos} {k k1 k2 : Bool} {d : PyData} {ds ds2 : List PyData} {o : Out} {x y z : Str}
theorem dv_gI {i : Int} (h : ∃ t, X.mg x = some (.int i t)) (hg : Gl X x := by rfl) (hd : (x == ("__debug__" : Str)) = false := by decide) : dV X c (.Name x pos) ρ μ (.dat (.int i)) μ := by
  obtain ⟨t, h⟩ := h
  exact dv_glob (v := .int i) h ⟨t, rfl⟩ (fun _ => .int i) hg hd
theorem dv_gS {i : Str} (h : ∃ t, X.mg x = some (.str i t)) (hg : Gl X x := by rfl) (hd : (x == ("__debug__" : Str)) = false := by decide) : dV X c (.Name x pos) ρ μ (.dat (.str i)) μ := by
  obtain ⟨t, h⟩ := h
  exact dv_glob (v := .str i) h ⟨t, rfl⟩ (fun _ => .str i) hg hd
theorem dv_gD (h : ∃ a, X.mg x = some (.ref a) ∧ ∀ S, Dq X.K S (.ref a) d) (hg : Gl X x := by rfl) (hd : (x == ("__debug__" : Str)) = false := by decide) : dV X c (.Name x pos) ρ μ (.dat d) μ := by
  obtain ⟨a, h, hq⟩ := h
  exact dv_glob (v := .ref a) h rfl hq hg hd
/-- a if t else b, whatever the answer -/
theorem dv_ifI {d1 d2 : PyData} {q : Prop} [Decidable q] (h : dT X c t ρ μ (decide q) μ1) (h1 : dV X c a ρ μ1 (.dat d1) μ2) (h2 : dV X c b ρ μ1 (.dat d2) μ2) : dV X c (.IfExp t a b pos) ρ μ (.dat (if q then d1 else d2)) μ2 := by
  refine dv_if h (fun z => ?_) (fun z => ?_)
  · rw [if_pos (of_decide_eq_true z)]; exact h1
  · rw [if_neg (of_decide_eq_false z)]; exact h2
theorem dv_ifN {i j : Int} {q : Prop} [Decidable q] (h : dT X c t ρ μ (decide q) μ1) (h1 : dV X c a ρ μ1 (.dat (.int i)) μ2) (h2 : dV X c b ρ μ1 (.dat (.int j)) μ2) : dV X c (.IfExp t a b pos) ρ μ (.dat (.int (if q then i else j))) μ2 := by
  refine dv_if h (fun z => ?_) (fun z => ?_)
  · rw [if_pos (of_decide_eq_true z)]; exact h1
  · rw [if_neg (of_decide_eq_false z)]; exact h2
theorem dx_par2 {i j : Nat} {px py pt pt2 : Pos} {kt k2} (hc : X.calm = true) (hN : X.N.Nodup) (h : dA X c [a, b] ρ μ [s1, s2] μ1) (hi : X.N[i]? = some x := by rfl) (hj : X.N[j]? = some y := by rfl) (hij : i ≠ j := by decide)
    (hx : X.env.scope.names.lookup x = some .local := by rfl) (hy : X.env.scope.names.lookup y = some .local := by rfl) (hw : swappedStores [.Tuple [.Name x px, .Name y py] kt pt] (.Tuple [a, b] k2 pt2) X.env = pure (some [x, y]) := by rfl)
    (hs : swapsWithSole [.Tuple [.Name x px, .Name y py] kt pt] (.Tuple [a, b] k2 pt2) pos.line X.env = pure false := by rfl) : dX X c (.Assign [.Tuple [.Name x px, .Name y py] kt pt] (.Tuple [a, b] k2 pt2) pos) ρ μ (.nx ((ρ.set i s1).set j s2) μ1) := .mk fun m S H σ W R D kk => by
  refine wS_of (ps_par hc hN hi hj hij hx hy pa_w hw hs) ?_
  refine h m S H σ W R _ fun m1 S1 vs H1 W1 e1 p1 q1 => ?_
  obtain ⟨v, v', rfl, r1, r2⟩ := slVs2 q1
  exact ⟨v, v', rfl, kk m1 S1 _ H1 W1 e1 p1 (((R.mono e1 p1).set r1).set r2)⟩
end
end Dr
set_option maxHeartbeats 4000000
/-! M1: what the program's steps are. -/
namespace Dr
open PySem PySem.Spec PyProof.Rows L2
def isI : PyData → Bool
  | .int _ => true
  | _ => false
def betw (d : PyData) (lo hi : Int) : Bool := match d with
  | .int i => decide (lo ≤ i) && decide (i ≤ hi)
  | _ => false
def Row.stepL : Row → List PyData
  | .take => [.str "take"]
  | .again => [.str "again"]
  | .giveC => [.str "give", .str "c"]
  | .giveR => [.str "give", .str "rest"]
  | .go d => [.str "go", .int (d.val : Int)]
  | .ifc q d => [.str "if", .str "c", .int q.val, .int (d.val : Int)]
  | .ifv q d => [.str "if", .str "v", .int q.val, .int (d.val : Int)]
  | .lessB q => [.str "less", .str "cv", .int q.val]
  | .lessC q => [.str "less", .str "c", .int q.val]
  | .lessV q => [.str "less", .str "v", .int q.val]
def Row.step (r : Row) : PyData := .tuple r.stepL
def Row.hd : Row → Str
  | .take => "take" | .again => "again" | .giveC => "give" | .giveR => "give" | .go _ => "go" | .ifc _ _ => "if" | .ifv _ _ => "if" | .lessB _ => "less" | .lessC _ => "less" | .lessV _ => "less"
theorem step0 (r : Row) : atI r.stepL 0 = some (.str r.hd) := by cases r <;> rfl
theorem row_end {n i : Nat} {r : Row} (h : r.okAt n i = true) : (decide ((i : Int) = (n : Int) - 1) && !([PyData.str "go", .str "give", .str "again"].any fun y => PyData.eqv y (.str r.hd))) = false := by
  by_cases e : (i : Int) = (n : Int) - 1
  · have e2 : i + 1 = n := by omega
    cases r <;> first | (simp [Row.okAt, e2] at h; done) | (rw [Bool.and_eq_false_iff]; right; first | decide +kernel | rfl)
  · rw [decide_eq_false e]; rfl
def strL (ws : List Str) : PyData := .list (ws.map PyData.str)
def isPlain : Row → Bool
  | .take | .again | .giveC | .giveR | .go _ => true
  | _ => false
theorem fig_in (d : F8) (n : Nat) (h : d.val < n) (h8 : n ≤ 8) : (!(Builtin.Str.occurrences (cutS "01234567" none (some (n : Int))) (dig d) 0 (cutS "01234567" none (some (n : Int))).length 1).isEmpty) = true := by
  have : ∀ (d : F8) (n : _root_.Fin 9), d.val < n.val → (!(Builtin.Str.occurrences (cutS "01234567" none (some (n.val : Int))) (dig d) 0 (cutS "01234567" none (some (n.val : Int))).length 1).isEmpty) = true := by decide +kernel
  exact this d ⟨n, by omega⟩ h
end Dr
set_option maxHeartbeats 4000000
namespace Dr
open PySem PySem.Spec PyProof.Rows L2
section
variable {P : Program} {w : World} {K : PySem.W.Frag} {mg : Str → Option Value} {base : Heap}

def C_is_too_far : Ctr := fun ss μ s' μ' => ∃ s : Stt, ss = [.dat (encS s)] ∧ μ = [] ∧ s' = .dat (.bool (tooFar s)) ∧ μ' = []
theorem sc_is_too_far : FnScope ["state", "row", "low", "high", "is_open", "size", "has_part"] ["state"] (defScope s_is_too_far) := ⟨rfl, rfl, rfl, by decide +kernel, rfl, by decide +kernel, by decide +kernel⟩
theorem ok_is_too_far {f : Addr} {fd : FuncData} (T : Tx mg K w) (F : Fun K "is_too_far" "is_too_far" s_is_too_far f fd) (hm : mg "is_too_far" = some (.ref f)) : FnD P w K mg base "is_too_far" 1 C_is_too_far := by
  refine fnD F hm sc_is_too_far (fun _ _ _ _ _ _ us hl => match us, hl with | [_], _ => rfl) (fun ss μ s' μ' h => ?_) (fun cdv A outer s H E c hr ss μ s' μ' h hm0 => ?_)
  · obtain ⟨s, rfl, rfl, rfl, rfl⟩ := h; rfl
  · obtain ⟨s, rfl, rfl, rfl, rfl⟩ := h
    have hN := sc_is_too_far.nd
    have hu := hr.units
    exact dxs_cons (ρ1 := [_, _, _, _, _, _, _]) (dx_asg (dv_name 0 rfl (by nofun)) (dg_tup rfl (dgs_cons (dg_name (i := 1) sc_is_too_far.nd) (dgs_cons (dg_name (i := 2) sc_is_too_far.nd) (dgs_cons (dg_name (i := 3) sc_is_too_far.nd) (dgs_cons (dg_name (i := 4) sc_is_too_far.nd) (dgs_cons (dg_name (i := 5) sc_is_too_far.nd) (dgs_cons (dg_name (i := 6) sc_is_too_far.nd) dgs_nil)))))))) (
      dxs_guard (dt_w (dw_or (dt_cmp (dv_name 2 rfl (by nofun)) (dv_neg (dv_gI T.most_wide)) (c_lt _ _)) fun hb0 => (dw_or1 (dt_cmp (dv_name 5 rfl (by nofun)) (dv_neg (dv_gI T.most_wide)) (c_lt _ _))))) (fun hT => ⟨dxs_one (dx_retIs dv_bl (by first | (unfold tooFar bi; rw [hF]; rfl) | (unfold tooFar bi; rw [hT]; rfl))), trivial⟩) (fun hF =>
      dxs_one (dx_retIs (dv_or (dv_cmp (dv_add (dv_name 3 rfl (by nofun)) (dv_intB T.int (dv_name 4 rfl (by nofun)))) (dv_gI T.most_wide) (c_gt _ _)) fun hb0 => (dv_one (dv_cmp (dv_add (dv_name 5 rfl (by nofun)) (dv_intB T.int (dv_name 6 rfl (by nofun)))) (dv_gI T.most_wide) (c_gt _ _)))) (by first | (unfold tooFar bi; rw [hF]; rfl) | (unfold tooFar bi; rw [hT]; rfl)))))

def C_is_less : Ctr := fun ss μ s' μ' => ∃ f g : Int × Int, ss = [.dat (encF f), .dat (encF g)] ∧ μ = [] ∧ s' = .dat (.bool (lessF f g)) ∧ μ' = [] ∧ (-100 < f.1 ∧ f.1 < 100) ∧ (-100 < g.1 ∧ g.1 < 100)
theorem sc_is_less : FnScope ["one", "other"] ["one", "other"] (defScope s_is_less) := ⟨rfl, rfl, rfl, by decide +kernel, rfl, by decide +kernel, by decide +kernel⟩
theorem ok_is_less {f : Addr} {fd : FuncData} (T : Tx mg K w) (F : Fun K "is_less" "is_less" s_is_less f fd) (hm : mg "is_less" = some (.ref f)) : FnD P w K mg base "is_less" 1 C_is_less := by
  refine fnD F hm sc_is_less (fun _ _ _ _ _ _ us hl => match us, hl with | [_, _], _ => rfl) (fun ss μ s' μ' h => ?_) (fun cdv A outer s H E c hr ss μ s' μ' h hm0 => ?_)
  · obtain ⟨f, g, rfl, rfl, rfl, rfl, hf, hg⟩ := h; rfl
  · obtain ⟨f, g, rfl, rfl, rfl, rfl, hf, hg⟩ := h
    have hN := sc_is_less.nd
    have hu := hr.units
    exact dxs_one (dx_retIs (dv_cmp (dv_mul (dv_ixT (dv_name 0 rfl (by nofun)) dv_int rfl) (dv_ixT (dv_name 1 rfl (by nofun)) dv_int rfl) (by first | exact .inl ⟨by decide, by decide⟩ | exact .inr ⟨by decide, by decide⟩ | exact .inl ⟨by omega, by omega⟩ | exact .inr ⟨by omega, by omega⟩)) (dv_mul (dv_ixT (dv_name 1 rfl (by nofun)) dv_int rfl) (dv_ixT (dv_name 0 rfl (by nofun)) dv_int rfl) (by first | exact .inl ⟨by decide, by decide⟩ | exact .inr ⟨by decide, by decide⟩ | exact .inl ⟨by omega, by omega⟩ | exact .inr ⟨by omega, by omega⟩)) (c_lt _ _)) rfl)

def C_law_is_at_most : Ctr := fun ss μ s' μ' => ∃ f g : Int × Int, ss = [.dat (encF f), .dat (encF g)] ∧ μ = [] ∧ s' = .dat (.bool (decide (f.1 * g.2 ≤ g.1 * f.2))) ∧ μ' = [] ∧ (-1000 < f.1 ∧ f.1 < 1000) ∧ (-1000 < g.1 ∧ g.1 < 1000)
theorem sc_law_is_at_most : FnScope ["_law_one", "_law_two"] ["_law_one", "_law_two"] (defScope s_law_is_at_most) := ⟨rfl, rfl, rfl, by decide +kernel, rfl, by decide +kernel, by decide +kernel⟩
theorem ok_law_is_at_most {f : Addr} {fd : FuncData} (T : Tx mg K w) (F : Fun K "_law_is_at_most" "_law_is_at_most" s_law_is_at_most f fd) (hm : mg "_law_is_at_most" = some (.ref f)) : FnD P w K mg base "_law_is_at_most" 1 C_law_is_at_most := by
  refine fnD F hm sc_law_is_at_most (fun _ _ _ _ _ _ us hl => match us, hl with | [_, _], _ => rfl) (fun ss μ s' μ' h => ?_) (fun cdv A outer s H E c hr ss μ s' μ' h hm0 => ?_)
  · obtain ⟨f, g, rfl, rfl, rfl, rfl, hf, hg⟩ := h; rfl
  · obtain ⟨f, g, rfl, rfl, rfl, rfl, hf, hg⟩ := h
    have hN := sc_law_is_at_most.nd
    have hu := hr.units
    exact dxs_one (dx_retIs (dv_cmp (dv_mul (dv_ixT (dv_name 0 rfl (by nofun)) dv_int rfl) (dv_ixT (dv_name 1 rfl (by nofun)) dv_int rfl) (by first | exact .inl ⟨by decide, by decide⟩ | exact .inr ⟨by decide, by decide⟩ | exact .inl ⟨by omega, by omega⟩ | exact .inr ⟨by omega, by omega⟩)) (dv_mul (dv_ixT (dv_name 1 rfl (by nofun)) dv_int rfl) (dv_ixT (dv_name 0 rfl (by nofun)) dv_int rfl) (by first | exact .inl ⟨by decide, by decide⟩ | exact .inr ⟨by decide, by decide⟩ | exact .inl ⟨by omega, by omega⟩ | exact .inr ⟨by omega, by omega⟩)) (c_le _ _)) rfl)

def encM (q : Str × Stt) : PyData := .tuple [.str q.1, encS q.2]
def markL (r : Row) (s : Stt) : PyData := .list ((marks r s).map encM)
theorem marks_take_t (s : Stt) (h : (!s.x && !s.y) = true) : marks .take s = ([(("" : Str), Stt.mk (s.row + 1) (2 * s.a) (2 * s.b) s.x (2 * s.j) s.y)] : List (Str × Stt)) := if_pos h
theorem marks_take_f (s : Stt) (h : (!s.x && !s.y) = false) : marks .take s = ([(("0" : Str), Stt.mk (s.row + 1) (2 * s.a) (2 * s.b) s.x (2 * s.j) s.y), (("1" : Str), Stt.mk (s.row + 1) (2 * s.a) (2 * s.b + bi s.x) s.x (2 * s.j + bi s.y) s.y), (("h" : Str), Stt.mk (s.row + 1) (2 * s.a) (2 * s.b + bi s.x) false (2 * s.j + bi s.y) false)] : List (Str × Stt)) := if_neg (fun z => by rw [h] at z; cases z)
def C_taken : Ctr := fun ss μ s' μ' => ∃ s : Stt, ss = [.dat (encS s)] ∧ μ = [] ∧ s' = .dat (markL .take s) ∧ μ' = []
theorem sc_taken : FnScope ["state", "row", "low", "high", "is_open", "size", "has_part", "doubled", "top", "full", "one"] ["state"] (defScope s_taken) := ⟨rfl, rfl, rfl, by decide +kernel, rfl, by decide +kernel, by decide +kernel⟩
theorem ok_taken {f : Addr} {fd : FuncData} (T : Tx mg K w) (F : Fun K "taken" "taken" s_taken f fd) (hm : mg "taken" = some (.ref f)) : FnD P w K mg base "taken" 1 C_taken := by
  refine fnD F hm sc_taken (fun _ _ _ _ _ _ us hl => match us, hl with | [_], _ => rfl) (fun ss μ s' μ' h => ?_) (fun cdv A outer s H E c hr ss μ s' μ' h hm0 => ?_)
  · obtain ⟨s, rfl, rfl, rfl, rfl⟩ := h; rfl
  · obtain ⟨s, rfl, rfl, rfl, rfl⟩ := h
    have hN := sc_taken.nd
    have hu := hr.units
    exact dxs_cons (ρ1 := [_, _, _, _, _, _, _, _, _, _, _]) (dx_asg (dv_name 0 rfl (by nofun)) (dg_tup rfl (dgs_cons (dg_name (i := 1) sc_taken.nd) (dgs_cons (dg_name (i := 2) sc_taken.nd) (dgs_cons (dg_name (i := 3) sc_taken.nd) (dgs_cons (dg_name (i := 4) sc_taken.nd) (dgs_cons (dg_name (i := 5) sc_taken.nd) (dgs_cons (dg_name (i := 6) sc_taken.nd) dgs_nil)))))))) (
      dxs_cons (ρ1 := [_, _, _, _, _, _, _, _, _, _, _]) (dx_set (i := 7) (dv_tup (dd_cons dv_str (dd_cons (dv_tup (dd_cons (dv_add (dv_name 1 rfl (by nofun)) dv_int) (dd_cons (dv_mul dv_int (dv_name 2 rfl (by nofun)) (by first | exact .inl ⟨by decide, by decide⟩ | exact .inr ⟨by decide, by decide⟩ | exact .inl ⟨by omega, by omega⟩ | exact .inr ⟨by omega, by omega⟩)) (dd_cons (dv_mul dv_int (dv_name 3 rfl (by nofun)) (by first | exact .inl ⟨by decide, by decide⟩ | exact .inr ⟨by decide, by decide⟩ | exact .inl ⟨by omega, by omega⟩ | exact .inr ⟨by omega, by omega⟩)) (dd_cons (dv_name 4 rfl (by nofun)) (dd_cons (dv_mul dv_int (dv_name 5 rfl (by nofun)) (by first | exact .inl ⟨by decide, by decide⟩ | exact .inr ⟨by decide, by decide⟩ | exact .inl ⟨by omega, by omega⟩ | exact .inr ⟨by omega, by omega⟩)) (dd_cons (dv_name 6 rfl (by nofun)) dd_nil))))))) dd_nil))) sc_taken.nd) (
      dxs_guard (dt_w (dw_and (dt_not (dt_val (dv_name 4 rfl (by nofun)))) fun hb0 => (dw_and1 (dt_not (dt_val (dv_name 6 rfl (by nofun))))))) (fun hT => ⟨dxs_one (dx_retIs (dv_lst (dd_cons (dv_tup (dd_cons dv_str (dd_cons (dv_ixT (dv_name 7 rfl (by nofun)) dv_int rfl) dd_nil))) dd_nil)) (by first | (rw [markL, marks_take_t s hT]; rfl) | (rw [markL, marks_take_f s hF]; rfl))), trivial⟩) (fun hF =>
      dxs_cons (ρ1 := [_, _, _, _, _, _, _, _, _, _, _]) (dx_par2 (i := 8) (j := 9) rfl sc_taken.nd (da_cons (dv_add (dv_mul dv_int (dv_name 3 rfl (by nofun)) (by first | exact .inl ⟨by decide, by decide⟩ | exact .inr ⟨by decide, by decide⟩ | exact .inl ⟨by omega, by omega⟩ | exact .inr ⟨by omega, by omega⟩)) (dv_intB T.int (dv_name 4 rfl (by nofun)))) (da_cons (dv_add (dv_mul dv_int (dv_name 5 rfl (by nofun)) (by first | exact .inl ⟨by decide, by decide⟩ | exact .inr ⟨by decide, by decide⟩ | exact .inl ⟨by omega, by omega⟩ | exact .inr ⟨by omega, by omega⟩)) (dv_intB T.int (dv_name 6 rfl (by nofun)))) da_nil))) (
      dxs_cons (ρ1 := [_, _, _, _, _, _, _, _, _, _, _]) (dx_set (i := 10) (dv_tup (dd_cons dv_str (dd_cons (dv_tup (dd_cons (dv_add (dv_name 1 rfl (by nofun)) dv_int) (dd_cons (dv_mul dv_int (dv_name 2 rfl (by nofun)) (by first | exact .inl ⟨by decide, by decide⟩ | exact .inr ⟨by decide, by decide⟩ | exact .inl ⟨by omega, by omega⟩ | exact .inr ⟨by omega, by omega⟩)) (dd_cons (dv_name 8 rfl (by nofun)) (dd_cons (dv_name 4 rfl (by nofun)) (dd_cons (dv_name 9 rfl (by nofun)) (dd_cons (dv_name 6 rfl (by nofun)) dd_nil))))))) dd_nil))) sc_taken.nd) (
      dxs_one (dx_retIs (dv_lst (dd_cons (dv_name 7 rfl (by nofun)) (dd_cons (dv_name 10 rfl (by nofun)) (dd_cons (dv_tup (dd_cons (dv_gS T.half) (dd_cons (dv_tup (dd_cons (dv_add (dv_name 1 rfl (by nofun)) dv_int) (dd_cons (dv_mul dv_int (dv_name 2 rfl (by nofun)) (by first | exact .inl ⟨by decide, by decide⟩ | exact .inr ⟨by decide, by decide⟩ | exact .inl ⟨by omega, by omega⟩ | exact .inr ⟨by omega, by omega⟩)) (dd_cons (dv_name 8 rfl (by nofun)) (dd_cons dv_bl (dd_cons (dv_name 9 rfl (by nofun)) (dd_cons dv_bl dd_nil))))))) dd_nil))) dd_nil)))) (by first | (rw [markL, marks_take_t s hT]; rfl) | (rw [markL, marks_take_f s hF]; rfl))))))))

end
end Dr
set_option maxHeartbeats 4000000
namespace Dr
open PySem PySem.Spec PyProof.Rows L2
section
variable {P : Program} {w : World} {K : PySem.W.Frag} {mg : Str → Option Value} {base : Heap}

def C_is_integer : Ctr := fun ss μ s' μ' => ∃ d : PyData, ss = [.dat d] ∧ μ = [] ∧ s' = .dat (.bool (isI d)) ∧ μ' = []
theorem sc_is_integer : FnScope ["value"] ["value"] (defScope s_is_integer) := ⟨rfl, rfl, rfl, by decide +kernel, rfl, by decide +kernel, by decide +kernel⟩
theorem ok_is_integer {f : Addr} {fd : FuncData} (T : Tx mg K w) (F : Fun K "is_integer" "is_integer" s_is_integer f fd) (hm : mg "is_integer" = some (.ref f)) : FnD P w K mg base "is_integer" 1 C_is_integer := by
  refine fnD F hm sc_is_integer (fun _ _ _ _ _ _ us hl => match us, hl with | [_], _ => rfl) (fun ss μ s' μ' h => ?_) (fun cdv A outer s H E c hr ss μ s' μ' h hm0 => ?_)
  · obtain ⟨d, rfl, rfl, rfl, rfl⟩ := h; rfl
  · obtain ⟨d, rfl, rfl, rfl, rfl⟩ := h
    have hN := sc_is_integer.nd
    have hu := hr.units
    cases d with
    | none => exact dxs_one (dx_retIs (dv_and (k1 := false) (k2 := false) (dv_isi T.isinstance T.int (by decide +kernel) (dv_name 0 rfl (by nofun)) rfl) fun z => absurd z (by decide)) rfl)
    | bool _ => exact dxs_one (dx_retIs (dv_and (k1 := true) (dv_isi T.isinstance T.int (by decide +kernel) (dv_name 0 rfl (by nofun)) rfl) fun _ => dv_one (dv_not (dv_isi T.isinstance T.bool (by decide +kernel) (dv_name 0 rfl (by nofun)) rfl))) rfl)
    | str _ => exact dxs_one (dx_retIs (dv_and (k1 := false) (k2 := false) (dv_isi T.isinstance T.int (by decide +kernel) (dv_name 0 rfl (by nofun)) rfl) fun z => absurd z (by decide)) rfl)
    | list _ => exact dxs_one (dx_retIs (dv_and (k1 := false) (k2 := false) (dv_isi T.isinstance T.int (by decide +kernel) (dv_name 0 rfl (by nofun)) rfl) fun z => absurd z (by decide)) rfl)
    | tuple _ => exact dxs_one (dx_retIs (dv_and (k1 := false) (k2 := false) (dv_isi T.isinstance T.int (by decide +kernel) (dv_name 0 rfl (by nofun)) rfl) fun z => absurd z (by decide)) rfl)
    | dict _ => exact dxs_one (dx_retIs (dv_and (k1 := false) (k2 := false) (dv_isi T.isinstance T.int (by decide +kernel) (dv_name 0 rfl (by nofun)) rfl) fun z => absurd z (by decide)) rfl)
    | int _ => exact dxs_one (dx_retIs (dv_and (k1 := true) (dv_isi T.isinstance T.int (by decide +kernel) (dv_name 0 rfl (by nofun)) rfl) fun _ => dv_one (dv_not (dv_isi T.isinstance T.bool (by decide +kernel) (dv_name 0 rfl (by nofun)) rfl))) rfl)

def C_is_between : Ctr := fun ss μ s' μ' => ∃ (d : PyData) (lo hi : Int), ss = [.dat d, .dat (.int lo), .dat (.int hi)] ∧ μ = [] ∧ s' = .dat (.bool (betw d lo hi)) ∧ μ' = []
theorem sc_is_between : FnScope ["value", "least", "most"] ["value", "least", "most"] (defScope s_is_between) := ⟨rfl, rfl, rfl, by decide +kernel, rfl, by decide +kernel, by decide +kernel⟩
theorem ok_is_between {f : Addr} {fd : FuncData} (T : Tx mg K w) (F : Fun K "is_between" "is_between" s_is_between f fd) (hm : mg "is_between" = some (.ref f)) (F_is_integer : FnD P w K mg base "is_integer" 1 C_is_integer) : FnD P w K mg base "is_between" 2 C_is_between := by
  refine fnD F hm sc_is_between (fun _ _ _ _ _ _ us hl => match us, hl with | [_, _, _], _ => rfl) (fun ss μ s' μ' h => ?_) (fun cdv A outer s H E c hr ss μ s' μ' h hm0 => ?_)
  · obtain ⟨d, lo, hi, rfl, rfl, rfl, rfl⟩ := h; rfl
  · obtain ⟨d, lo, hi, rfl, rfl, rfl, rfl⟩ := h
    have hN := sc_is_between.nd
    have hu := hr.units
    cases d with
    | none => exact dxs_one (dx_retIs (dv_and (k1 := false) (k2 := false) (dv_fn F_is_integer (hr.mono (by decide)) (da_cons (dv_name 0 rfl (by nofun)) da_nil) ⟨_, rfl, rfl, rfl, rfl⟩) fun z => absurd z (by decide)) rfl)
    | bool _ => exact dxs_one (dx_retIs (dv_and (k1 := false) (k2 := false) (dv_fn F_is_integer (hr.mono (by decide)) (da_cons (dv_name 0 rfl (by nofun)) da_nil) ⟨_, rfl, rfl, rfl, rfl⟩) fun z => absurd z (by decide)) rfl)
    | str _ => exact dxs_one (dx_retIs (dv_and (k1 := false) (k2 := false) (dv_fn F_is_integer (hr.mono (by decide)) (da_cons (dv_name 0 rfl (by nofun)) da_nil) ⟨_, rfl, rfl, rfl, rfl⟩) fun z => absurd z (by decide)) rfl)
    | list _ => exact dxs_one (dx_retIs (dv_and (k1 := false) (k2 := false) (dv_fn F_is_integer (hr.mono (by decide)) (da_cons (dv_name 0 rfl (by nofun)) da_nil) ⟨_, rfl, rfl, rfl, rfl⟩) fun z => absurd z (by decide)) rfl)
    | tuple _ => exact dxs_one (dx_retIs (dv_and (k1 := false) (k2 := false) (dv_fn F_is_integer (hr.mono (by decide)) (da_cons (dv_name 0 rfl (by nofun)) da_nil) ⟨_, rfl, rfl, rfl, rfl⟩) fun z => absurd z (by decide)) rfl)
    | dict _ => exact dxs_one (dx_retIs (dv_and (k1 := false) (k2 := false) (dv_fn F_is_integer (hr.mono (by decide)) (da_cons (dv_name 0 rfl (by nofun)) da_nil) ⟨_, rfl, rfl, rfl, rfl⟩) fun z => absurd z (by decide)) rfl)
    | int _ => exact dxs_one (dx_retIs (dv_and (k1 := true) (dv_fn F_is_integer (hr.mono (by decide)) (da_cons (dv_name 0 rfl (by nofun)) da_nil) ⟨_, rfl, rfl, rfl, rfl⟩) fun _ => dv_one (dv_chain (dv_name 1 rfl (by nofun)) (dv_name 0 rfl (by nofun)) (fun _ => dv_name 2 rfl (by nofun)) (c_le _ _) (fun _ => c_le _ _))) rfl)

def C_place_in : Ctr := fun ss μ s' μ' => ∃ (d : F8) (n : Nat), ss = [.dat (.str (dig d)), .dat (.int (n : Int))] ∧ μ = [] ∧ s' = .dat (.int (d.val : Int)) ∧ μ' = [] ∧ d.val < n ∧ n ≤ 8
theorem sc_place_in : FnScope ["word", "many"] ["word", "many"] (defScope s_place_in) := ⟨rfl, rfl, rfl, by decide +kernel, rfl, by decide +kernel, by decide +kernel⟩
theorem ok_place_in {f : Addr} {fd : FuncData} (T : Tx mg K w) (F : Fun K "place_in" "place_in" s_place_in f fd) (hm : mg "place_in" = some (.ref f)) : FnD P w K mg base "place_in" 1 C_place_in := by
  refine fnD F hm sc_place_in (fun _ _ _ _ _ _ us hl => match us, hl with | [_, _], _ => rfl) (fun ss μ s' μ' h => ?_) (fun cdv A outer s H E c hr ss μ s' μ' h hm0 => ?_)
  · obtain ⟨d, n, rfl, rfl, rfl, rfl, h1, h2⟩ := h; rfl
  · obtain ⟨d, n, rfl, rfl, rfl, rfl, h1, h2⟩ := h
    have hN := sc_place_in.nd
    have hu := hr.units
    exact dxs_one (dx_retIs (dv_if (k := true) (dt_is (dt_w (dw_and (k1 := true) (dt_cmp (dv_lenS T.len (dv_name 0 rfl (by nofun)) (show 1 ≤ sizeLine by decide)) dv_int (c_eqI _ _)) fun _ => dw_and1 (dt_cmp (dv_name 0 rfl (by nofun)) (dv_slS (dv_gS T.figures) do_none (do_some (dv_name 1 rfl (by nofun))) (by decide)) (c_inS _ _)))) (fig_in d n h1 h2)) (fun _ => dv_intS T.int (dv_name 0 rfl (by nofun)) (dig_int d) (show 1 ≤ 640 by decide)) (fun z => by cases z)) rfl)

def C_plain_step_in : Ctr := fun ss μ s' μ' => ∃ (r : Row) (n : Nat), ss = [.dat (strL r.words), .dat (.int (n : Int))] ∧ μ = [] ∧ s' = .dat r.step ∧ μ' = [] ∧ isPlain r = true ∧ (∀ d, r = .go d → d.val < n) ∧ n ≤ 8
theorem sc_plain_step_in : FnScope ["words", "many", "place"] ["words", "many"] (defScope s_plain_step_in) := ⟨rfl, rfl, rfl, by decide +kernel, rfl, by decide +kernel, by decide +kernel⟩
theorem ok_plain_step_in {f : Addr} {fd : FuncData} (T : Tx mg K w) (F : Fun K "plain_step_in" "plain_step_in" s_plain_step_in f fd) (hm : mg "plain_step_in" = some (.ref f)) (F_place_in : FnD P w K mg base "place_in" 1 C_place_in) : FnD P w K mg base "plain_step_in" 2 C_plain_step_in := by
  refine fnD F hm sc_plain_step_in (fun _ _ _ _ _ _ us hl => match us, hl with | [_, _], _ => rfl) (fun ss μ s' μ' h => ?_) (fun cdv A outer s H E c hr ss μ s' μ' h hm0 => ?_)
  · obtain ⟨r, n, rfl, rfl, rfl, rfl, h1, h2, h3⟩ := h; rfl
  · obtain ⟨r, n, rfl, rfl, rfl, rfl, h1, h2, h3⟩ := h
    have hN := sc_plain_step_in.nd
    have hu := hr.units
    cases r with
    | take =>
      exact dxs_stop (dx_if (dt_cmp (dv_name 0 rfl (by nofun)) (dv_tup (dd_cons (dv_lst (dd_cons dv_str dd_nil)) (dd_cons (dv_lst (dd_cons dv_str dd_nil)) dd_nil))) (c_inT hu _ _ (by rfl) (by rfl) (Nat.le_trans (Nat.min_le_left _ _) (by decide +kernel)))) (fun _ => dxs_one (dx_retIs (dv_tup (dd_cons (dv_ixL (dv_name 0 rfl (by nofun)) dv_int rfl) dd_nil)) rfl)) (fun h => absurd h (by decide +kernel))) trivial
    | again =>
      exact dxs_stop (dx_if (dt_cmp (dv_name 0 rfl (by nofun)) (dv_tup (dd_cons (dv_lst (dd_cons dv_str dd_nil)) (dd_cons (dv_lst (dd_cons dv_str dd_nil)) dd_nil))) (c_inT hu _ _ (by rfl) (by rfl) (Nat.le_trans (Nat.min_le_left _ _) (by decide +kernel)))) (fun _ => dxs_one (dx_retIs (dv_tup (dd_cons (dv_ixL (dv_name 0 rfl (by nofun)) dv_int rfl) dd_nil)) rfl)) (fun h => absurd h (by decide +kernel))) trivial
    | giveC =>
      exact dxs_guard (dt_cmp (dv_name 0 rfl (by nofun)) (dv_tup (dd_cons (dv_lst (dd_cons dv_str dd_nil)) (dd_cons (dv_lst (dd_cons dv_str dd_nil)) dd_nil))) (c_inT hu _ _ (by rfl) (by rfl) (Nat.le_trans (Nat.min_le_left _ _) (by decide +kernel)))) (fun h => absurd h (by first | decide +kernel | rfl)) (fun _ =>
      dxs_guard (dt_cmp (dv_lenL T.len (dv_name 0 rfl (by nofun)) ) dv_int (c_neI _ _)) (fun h => absurd h (by first | decide +kernel | rfl)) (fun _ =>
      dxs_stop (dx_if (dt_w (dw_and (k1 := true) (dt_is (k1 := true) (dt_cmp (dv_ixL (dv_name 0 rfl (by nofun)) dv_int rfl) dv_str (c_eqS _ _)) (by first | decide +kernel | rfl)) fun _ => (dw_and1 (dt_is (k1 := true) (dt_cmp (dv_ixL (dv_name 0 rfl (by nofun)) dv_int rfl) (dv_tup (dd_cons dv_str (dd_cons dv_str dd_nil))) (c_inT hu _ _ (by rfl) (by rfl) (Nat.le_trans (Nat.min_le_left _ _) (by decide +kernel)))) (by first | decide +kernel | rfl))))) (fun _ => dxs_one (dx_retIs (dv_tup (dd_cons dv_str (dd_cons (dv_ixL (dv_name 0 rfl (by nofun)) dv_int rfl) dd_nil))) rfl)) (fun h => absurd h (by decide +kernel))) trivial))
    | giveR =>
      exact dxs_guard (dt_cmp (dv_name 0 rfl (by nofun)) (dv_tup (dd_cons (dv_lst (dd_cons dv_str dd_nil)) (dd_cons (dv_lst (dd_cons dv_str dd_nil)) dd_nil))) (c_inT hu _ _ (by rfl) (by rfl) (Nat.le_trans (Nat.min_le_left _ _) (by decide +kernel)))) (fun h => absurd h (by first | decide +kernel | rfl)) (fun _ =>
      dxs_guard (dt_cmp (dv_lenL T.len (dv_name 0 rfl (by nofun)) ) dv_int (c_neI _ _)) (fun h => absurd h (by first | decide +kernel | rfl)) (fun _ =>
      dxs_stop (dx_if (dt_w (dw_and (k1 := true) (dt_is (k1 := true) (dt_cmp (dv_ixL (dv_name 0 rfl (by nofun)) dv_int rfl) dv_str (c_eqS _ _)) (by first | decide +kernel | rfl)) fun _ => (dw_and1 (dt_is (k1 := true) (dt_cmp (dv_ixL (dv_name 0 rfl (by nofun)) dv_int rfl) (dv_tup (dd_cons dv_str (dd_cons dv_str dd_nil))) (c_inT hu _ _ (by rfl) (by rfl) (Nat.le_trans (Nat.min_le_left _ _) (by decide +kernel)))) (by first | decide +kernel | rfl))))) (fun _ => dxs_one (dx_retIs (dv_tup (dd_cons dv_str (dd_cons (dv_ixL (dv_name 0 rfl (by nofun)) dv_int rfl) dd_nil))) rfl)) (fun h => absurd h (by decide +kernel))) trivial))
    | go d =>
      exact dxs_guard (dt_cmp (dv_name 0 rfl (by nofun)) (dv_tup (dd_cons (dv_lst (dd_cons dv_str dd_nil)) (dd_cons (dv_lst (dd_cons dv_str dd_nil)) dd_nil))) (c_inT hu _ _ (by rfl) (by rfl) (Nat.le_trans (Nat.min_le_left _ _) (by decide +kernel)))) (fun h => absurd h (by first | decide +kernel | (clear h1 h2; revert d; decide +kernel))) (fun _ =>
      dxs_guard (dt_cmp (dv_lenL T.len (dv_name 0 rfl (by nofun)) ) dv_int (c_neI _ _)) (fun h => absurd h (by first | decide +kernel | (clear h1 h2; revert d; decide +kernel))) (fun _ =>
      dxs_guard (dt_w (dw_and (k1 := false) (k2 := false) (dt_is (k1 := false) (dt_cmp (dv_ixL (dv_name 0 rfl (by nofun)) dv_int rfl) dv_str (c_eqS _ _)) (by first | decide +kernel | (clear h1 h2; revert d; decide +kernel))) (fun h => absurd h (by decide)))) (fun h => absurd h (by first | decide +kernel | (clear h1 h2; revert d; decide +kernel))) (fun _ =>
      dxs_cons (ρ1 := [_, _, _]) (dx_set (i := 2) (dv_fn F_place_in (hr.mono (by decide)) (da_cons (dv_ixL (dv_name 0 rfl (by nofun)) dv_int rfl) (da_cons (dv_name 1 rfl (by nofun)) da_nil)) ⟨d, n, rfl, rfl, rfl, rfl, h2 d rfl, h3⟩) sc_plain_step_in.nd) (
      dxs_one (dx_retIs (dv_if (dt_w (dw_and (k1 := true) (dt_is (k1 := true) (dt_cmp (dv_ixL (dv_name 0 rfl (by nofun)) dv_int rfl) dv_str (c_eqS _ _)) (by first | decide +kernel | (clear h1 h2; revert d; decide +kernel))) fun _ => (dw_and1 (dt_is (k1 := true) (dt_cmp (dv_name 2 rfl (by nofun)) dv_non (c_notN _)) (by first | decide +kernel | (clear h1 h2; revert d; decide +kernel)))))) (fun _ => (dv_tup (dd_cons dv_str (dd_cons (dv_name 2 rfl (by nofun)) dd_nil)))) (fun h => absurd h (by decide +kernel))) rfl)))))
    | ifc q d => cases h1
    | ifv q d => cases h1
    | lessB q => cases h1
    | lessC q => cases h1
    | lessV q => cases h1

def C_step_in : Ctr := fun ss μ s' μ' => ∃ (r : Row) (n i : Nat), ss = [.dat (.str r.txt), .dat (.int (i : Int)), .dat (.int (n : Int))] ∧ μ = [] ∧ s' = .dat r.step ∧ μ' = [] ∧ r.okAt n i = true ∧ n ≤ 8
theorem sc_step_in : FnScope ["row", "at", "many", "words", "place", "head", "last"] ["row", "at", "many"] (defScope s_step_in) := ⟨rfl, rfl, rfl, by decide +kernel, rfl, by decide +kernel, by decide +kernel⟩
theorem ok_step_in {f : Addr} {fd : FuncData} (T : Tx mg K w) (F : Fun K "step_in" "step_in" s_step_in f fd) (hm : mg "step_in" = some (.ref f)) (F_place_in : FnD P w K mg base "place_in" 1 C_place_in) (F_plain_step_in : FnD P w K mg base "plain_step_in" 2 C_plain_step_in) : FnD P w K mg base "step_in" 3 C_step_in := by
  refine fnD F hm sc_step_in (fun _ _ _ _ _ _ us hl => match us, hl with | [_, _, _], _ => rfl) (fun ss μ s' μ' h => ?_) (fun cdv A outer s H E c hr ss μ s' μ' h hm0 => ?_)
  · obtain ⟨r, n, i, rfl, rfl, rfl, rfl, h1, h2⟩ := h; rfl
  · obtain ⟨r, n, i, rfl, rfl, rfl, rfl, h1, h2⟩ := h
    have hN := sc_step_in.nd
    have hu := hr.units
    obtain ⟨aQ, eQ, nQ, gQ, DQ, kQ⟩ := T.quant
    obtain ⟨aS, eS, nS, gS, DS, s0, s1, s2, s3, s4, s5⟩ := T.subj
    cases r with
    | take =>
      exact dxs_guard (dt_not (dt_val (dv_isi T.isinstance T.str (by decide +kernel) (dv_name 0 rfl (by nofun)) rfl))) (fun h => absurd h (by first | decide +kernel | rfl)) (fun _ =>
      dxs_cons (ρ1 := [_, _, _, _, _, _, _]) (dx_set (i := 3) (dv_is (s1 := .dat (strL (Row.words (Row.take)))) (dv_split (dv_name 0 rfl (by nofun)) dv_str (by decide) (Nat.le_trans (Nat.add_le_add_right (txt_len _) 2) (show 22 ≤ sizeLine by decide))) (by rw [split_txt]; rfl)) sc_step_in.nd) (
      dxs_guard (dt_w (dw_and (k1 := false) (k2 := false) (dt_is (k1 := false) (dt_cmp (dv_lenL T.len (dv_name 3 rfl (by nofun)) ) dv_int (c_eqI _ _)) (by first | decide +kernel | rfl)) (fun h => absurd h (by decide)))) (fun h => absurd h (by first | decide +kernel | rfl)) (fun _ =>
      dxs_cons (ρ1 := [_, _, _, _, _, _, _]) (dx_par2 (i := 5) (j := 6) rfl sc_step_in.nd (da_cons (dv_is (s1 := .dat (.str "")) (dv_join (ys := []) dv_str (dv_is (s1 := .dat (strL [])) (dv_slL (dv_name 3 rfl (by nofun)) do_none (do_some (dv_neg dv_int))) (by rfl)) (by decide)) (congrArg (fun z => Sl.dat (.str z)) (by decide +kernel))) (da_cons (dv_ixL (dv_name 3 rfl (by nofun)) (dv_neg dv_int) rfl) da_nil))) (
      dxs_guard (dt_w (dw_and (k1 := false) (k2 := false) (dt_is (k1 := false) (dt_cmp (dv_name 5 rfl (by nofun)) (dv_gR gS) (c_inW DS s0)) rfl) (fun h => absurd h (by decide)))) (fun h => absurd h (by first | decide +kernel | rfl)) (fun _ =>
      dxs_one (dx_retIs (dv_fn F_plain_step_in (hr.mono (by decide)) (da_cons (dv_name 3 rfl (by nofun)) (da_cons (dv_name 2 rfl (by nofun)) da_nil)) ⟨.take, n, rfl, rfl, rfl, rfl, rfl, (fun e he => by cases he), h2⟩) rfl))))))
    | again =>
      exact dxs_guard (dt_not (dt_val (dv_isi T.isinstance T.str (by decide +kernel) (dv_name 0 rfl (by nofun)) rfl))) (fun h => absurd h (by first | decide +kernel | rfl)) (fun _ =>
      dxs_cons (ρ1 := [_, _, _, _, _, _, _]) (dx_set (i := 3) (dv_is (s1 := .dat (strL (Row.words (Row.again)))) (dv_split (dv_name 0 rfl (by nofun)) dv_str (by decide) (Nat.le_trans (Nat.add_le_add_right (txt_len _) 2) (show 22 ≤ sizeLine by decide))) (by rw [split_txt]; rfl)) sc_step_in.nd) (
      dxs_guard (dt_w (dw_and (k1 := false) (k2 := false) (dt_is (k1 := false) (dt_cmp (dv_lenL T.len (dv_name 3 rfl (by nofun)) ) dv_int (c_eqI _ _)) (by first | decide +kernel | rfl)) (fun h => absurd h (by decide)))) (fun h => absurd h (by first | decide +kernel | rfl)) (fun _ =>
      dxs_cons (ρ1 := [_, _, _, _, _, _, _]) (dx_par2 (i := 5) (j := 6) rfl sc_step_in.nd (da_cons (dv_is (s1 := .dat (.str "")) (dv_join (ys := []) dv_str (dv_is (s1 := .dat (strL [])) (dv_slL (dv_name 3 rfl (by nofun)) do_none (do_some (dv_neg dv_int))) (by rfl)) (by decide)) (congrArg (fun z => Sl.dat (.str z)) (by decide +kernel))) (da_cons (dv_ixL (dv_name 3 rfl (by nofun)) (dv_neg dv_int) rfl) da_nil))) (
      dxs_guard (dt_w (dw_and (k1 := false) (k2 := false) (dt_is (k1 := false) (dt_cmp (dv_name 5 rfl (by nofun)) (dv_gR gS) (c_inW DS s0)) rfl) (fun h => absurd h (by decide)))) (fun h => absurd h (by first | decide +kernel | rfl)) (fun _ =>
      dxs_one (dx_retIs (dv_fn F_plain_step_in (hr.mono (by decide)) (da_cons (dv_name 3 rfl (by nofun)) (da_cons (dv_name 2 rfl (by nofun)) da_nil)) ⟨.again, n, rfl, rfl, rfl, rfl, rfl, (fun e he => by cases he), h2⟩) rfl))))))
    | giveC =>
      exact dxs_guard (dt_not (dt_val (dv_isi T.isinstance T.str (by decide +kernel) (dv_name 0 rfl (by nofun)) rfl))) (fun h => absurd h (by first | decide +kernel | rfl)) (fun _ =>
      dxs_cons (ρ1 := [_, _, _, _, _, _, _]) (dx_set (i := 3) (dv_is (s1 := .dat (strL (Row.words (Row.giveC)))) (dv_split (dv_name 0 rfl (by nofun)) dv_str (by decide) (Nat.le_trans (Nat.add_le_add_right (txt_len _) 2) (show 22 ≤ sizeLine by decide))) (by rw [split_txt]; rfl)) sc_step_in.nd) (
      dxs_guard (dt_w (dw_and (k1 := false) (k2 := false) (dt_is (k1 := false) (dt_cmp (dv_lenL T.len (dv_name 3 rfl (by nofun)) ) dv_int (c_eqI _ _)) (by first | decide +kernel | rfl)) (fun h => absurd h (by decide)))) (fun h => absurd h (by first | decide +kernel | rfl)) (fun _ =>
      dxs_cons (ρ1 := [_, _, _, _, _, _, _]) (dx_par2 (i := 5) (j := 6) rfl sc_step_in.nd (da_cons (dv_is (s1 := .dat (.str "give")) (dv_join (ys := [("give" : Str)]) dv_str (dv_is (s1 := .dat (strL [("give" : Str)])) (dv_slL (dv_name 3 rfl (by nofun)) do_none (do_some (dv_neg dv_int))) (by rfl)) (by decide)) (congrArg (fun z => Sl.dat (.str z)) (by decide +kernel))) (da_cons (dv_ixL (dv_name 3 rfl (by nofun)) (dv_neg dv_int) rfl) da_nil))) (
      dxs_guard (dt_w (dw_and (k1 := false) (k2 := false) (dt_is (k1 := false) (dt_cmp (dv_name 5 rfl (by nofun)) (dv_gR gS) (c_inW DS s1)) rfl) (fun h => absurd h (by decide)))) (fun h => absurd h (by first | decide +kernel | rfl)) (fun _ =>
      dxs_one (dx_retIs (dv_fn F_plain_step_in (hr.mono (by decide)) (da_cons (dv_name 3 rfl (by nofun)) (da_cons (dv_name 2 rfl (by nofun)) da_nil)) ⟨.giveC, n, rfl, rfl, rfl, rfl, rfl, (fun e he => by cases he), h2⟩) rfl))))))
    | giveR =>
      exact dxs_guard (dt_not (dt_val (dv_isi T.isinstance T.str (by decide +kernel) (dv_name 0 rfl (by nofun)) rfl))) (fun h => absurd h (by first | decide +kernel | rfl)) (fun _ =>
      dxs_cons (ρ1 := [_, _, _, _, _, _, _]) (dx_set (i := 3) (dv_is (s1 := .dat (strL (Row.words (Row.giveR)))) (dv_split (dv_name 0 rfl (by nofun)) dv_str (by decide) (Nat.le_trans (Nat.add_le_add_right (txt_len _) 2) (show 22 ≤ sizeLine by decide))) (by rw [split_txt]; rfl)) sc_step_in.nd) (
      dxs_guard (dt_w (dw_and (k1 := false) (k2 := false) (dt_is (k1 := false) (dt_cmp (dv_lenL T.len (dv_name 3 rfl (by nofun)) ) dv_int (c_eqI _ _)) (by first | decide +kernel | rfl)) (fun h => absurd h (by decide)))) (fun h => absurd h (by first | decide +kernel | rfl)) (fun _ =>
      dxs_cons (ρ1 := [_, _, _, _, _, _, _]) (dx_par2 (i := 5) (j := 6) rfl sc_step_in.nd (da_cons (dv_is (s1 := .dat (.str "give")) (dv_join (ys := [("give" : Str)]) dv_str (dv_is (s1 := .dat (strL [("give" : Str)])) (dv_slL (dv_name 3 rfl (by nofun)) do_none (do_some (dv_neg dv_int))) (by rfl)) (by decide)) (congrArg (fun z => Sl.dat (.str z)) (by decide +kernel))) (da_cons (dv_ixL (dv_name 3 rfl (by nofun)) (dv_neg dv_int) rfl) da_nil))) (
      dxs_guard (dt_w (dw_and (k1 := false) (k2 := false) (dt_is (k1 := false) (dt_cmp (dv_name 5 rfl (by nofun)) (dv_gR gS) (c_inW DS s1)) rfl) (fun h => absurd h (by decide)))) (fun h => absurd h (by first | decide +kernel | rfl)) (fun _ =>
      dxs_one (dx_retIs (dv_fn F_plain_step_in (hr.mono (by decide)) (da_cons (dv_name 3 rfl (by nofun)) (da_cons (dv_name 2 rfl (by nofun)) da_nil)) ⟨.giveR, n, rfl, rfl, rfl, rfl, rfl, (fun e he => by cases he), h2⟩) rfl))))))
    | go d =>
      exact dxs_guard (dt_not (dt_val (dv_isi T.isinstance T.str (by decide +kernel) (dv_name 0 rfl (by nofun)) rfl))) (fun h => absurd h (by first | decide +kernel | rfl | (clear h1; revert d; decide +kernel))) (fun _ =>
      dxs_cons (ρ1 := [_, _, _, _, _, _, _]) (dx_set (i := 3) (dv_is (s1 := .dat (strL (Row.words (Row.go d)))) (dv_split (dv_name 0 rfl (by nofun)) dv_str (by decide) (Nat.le_trans (Nat.add_le_add_right (txt_len _) 2) (show 22 ≤ sizeLine by decide))) (by rw [split_txt]; rfl)) sc_step_in.nd) (
      dxs_guard (dt_w (dw_and (k1 := false) (k2 := false) (dt_is (k1 := false) (dt_cmp (dv_lenL T.len (dv_name 3 rfl (by nofun)) ) dv_int (c_eqI _ _)) (by first | decide +kernel | rfl | (clear h1; revert d; decide +kernel))) (fun h => absurd h (by decide)))) (fun h => absurd h (by first | decide +kernel | rfl | (clear h1; revert d; decide +kernel))) (fun _ =>
      dxs_cons (ρ1 := [_, _, _, _, _, _, _]) (dx_par2 (i := 5) (j := 6) rfl sc_step_in.nd (da_cons (dv_is (s1 := .dat (.str "go")) (dv_join (ys := [("go" : Str)]) dv_str (dv_is (s1 := .dat (strL [("go" : Str)])) (dv_slL (dv_name 3 rfl (by nofun)) do_none (do_some (dv_neg dv_int))) (by rfl)) (by decide)) (congrArg (fun z => Sl.dat (.str z)) (by decide +kernel))) (da_cons (dv_ixL (dv_name 3 rfl (by nofun)) (dv_neg dv_int) rfl) da_nil))) (
      dxs_guard (dt_w (dw_and (k1 := false) (k2 := false) (dt_is (k1 := false) (dt_cmp (dv_name 5 rfl (by nofun)) (dv_gR gS) (c_inW DS s2)) rfl) (fun h => absurd h (by decide)))) (fun h => absurd h (by first | decide +kernel | rfl | (clear h1; revert d; decide +kernel))) (fun _ =>
      dxs_one (dx_retIs (dv_fn F_plain_step_in (hr.mono (by decide)) (da_cons (dv_name 3 rfl (by nofun)) (da_cons (dv_name 2 rfl (by nofun)) da_nil)) ⟨(.go d), n, rfl, rfl, rfl, rfl, rfl, (fun e he => by cases he; simpa [Row.okAt] using h1), h2⟩) rfl))))))
    | ifc q d =>
      exact dxs_guard (dt_not (dt_val (dv_isi T.isinstance T.str (by decide +kernel) (dv_name 0 rfl (by nofun)) rfl))) (fun h => absurd h (by first | decide +kernel | rfl | (clear h1; revert d; decide +kernel))) (fun _ =>
      dxs_cons (ρ1 := [_, _, _, _, _, _, _]) (dx_set (i := 3) (dv_is (s1 := .dat (strL (Row.words (Row.ifc q d)))) (dv_split (dv_name 0 rfl (by nofun)) dv_str (by decide) (Nat.le_trans (Nat.add_le_add_right (txt_len _) 2) (show 22 ≤ sizeLine by decide))) (by rw [split_txt]; rfl)) sc_step_in.nd) (
      dxs_stop (dx_if (dt_w (dw_and (k1 := true) (dt_is (k1 := true) (dt_cmp (dv_lenL T.len (dv_name 3 rfl (by nofun)) ) dv_int (c_eqI _ _)) (by first | decide +kernel | rfl | (clear h1; revert d; decide +kernel))) fun _ => (dw_and (k1 := true) (dt_is (k1 := true) (dt_cmp (dv_ixL (dv_name 3 rfl (by nofun)) dv_int rfl) dv_str (c_eqS _ _)) (by first | decide +kernel | rfl | (clear h1; revert d; decide +kernel))) fun _ => (dw_and (k1 := true) (dt_is (k1 := true) (dt_cmp (dv_ixL (dv_name 3 rfl (by nofun)) dv_int rfl) dv_str (c_eqS _ _)) (by first | decide +kernel | rfl | (clear h1; revert d; decide +kernel))) fun _ => (dw_and1 (dt_is (k1 := true) (dt_cmp (dv_ixL (dv_name 3 rfl (by nofun)) dv_int rfl) dv_str (c_eqS _ _)) (by first | decide +kernel | rfl | (clear h1; revert d; decide +kernel)))))))) (fun _ => dxs_cons (ρ1 := [_, _, _, _, _, _, _]) (dx_set (i := 4) (dv_fn F_place_in (hr.mono (by decide)) (da_cons (dv_ixL (dv_name 3 rfl (by nofun)) dv_int rfl) (da_cons (dv_name 2 rfl (by nofun)) da_nil)) ⟨d, n, rfl, rfl, rfl, rfl, (by simp [Row.okAt] at h1; omega), h2⟩) sc_step_in.nd) (
        dxs_guard (dt_w (dw_or (k1 := false) (dt_is (k1 := false) (dt_cmp (dv_ixL (dv_name 3 rfl (by nofun)) dv_int rfl) (dv_tup (dd_cons dv_str (dd_cons dv_str dd_nil))) (c_ninT hu _ _ (by rfl) (by rfl) (by decide +kernel))) (by first | decide +kernel | rfl | (clear h1; revert d; decide +kernel))) fun _ => (dw_or (k1 := false) (dt_is (k1 := false) (dt_cmp (dv_ixL (dv_name 3 rfl (by nofun)) dv_int rfl) (dv_gR gQ) (c_ninW DQ (kQ q).choose_spec)) rfl) fun _ => (dw_or (k1 := false) (dt_is (k1 := false) (dt_cmp (dv_name 4 rfl (by nofun)) dv_non (c_isN _)) rfl) fun _ => (dw_or1 (dt_is (k1 := false) (dt_cmp (dv_name 4 rfl (by nofun)) (dv_add (dv_name 1 rfl (by nofun)) dv_int) (c_eqI _ _)) (decide_eq_false (by simp [Row.okAt] at h1; omega)))))))) (fun h => absurd h (by first | decide +kernel | rfl | (clear h1; revert d; decide +kernel))) (fun _ =>
        dxs_one (dx_retIs (dv_tup (dd_cons dv_str (dd_cons (dv_ixL (dv_name 3 rfl (by nofun)) dv_int rfl) (dd_cons (dv_ixWi DQ (dv_gR gQ) (dv_ixL (dv_name 3 rfl (by nofun)) dv_int rfl) (kQ q)) (dd_cons (dv_name 4 rfl (by nofun)) dd_nil))))) rfl)))) (fun h => absurd h (by decide +kernel))) trivial))
    | ifv q d =>
      exact dxs_guard (dt_not (dt_val (dv_isi T.isinstance T.str (by decide +kernel) (dv_name 0 rfl (by nofun)) rfl))) (fun h => absurd h (by first | decide +kernel | rfl | (clear h1; revert d; decide +kernel))) (fun _ =>
      dxs_cons (ρ1 := [_, _, _, _, _, _, _]) (dx_set (i := 3) (dv_is (s1 := .dat (strL (Row.words (Row.ifv q d)))) (dv_split (dv_name 0 rfl (by nofun)) dv_str (by decide) (Nat.le_trans (Nat.add_le_add_right (txt_len _) 2) (show 22 ≤ sizeLine by decide))) (by rw [split_txt]; rfl)) sc_step_in.nd) (
      dxs_stop (dx_if (dt_w (dw_and (k1 := true) (dt_is (k1 := true) (dt_cmp (dv_lenL T.len (dv_name 3 rfl (by nofun)) ) dv_int (c_eqI _ _)) (by first | decide +kernel | rfl | (clear h1; revert d; decide +kernel))) fun _ => (dw_and (k1 := true) (dt_is (k1 := true) (dt_cmp (dv_ixL (dv_name 3 rfl (by nofun)) dv_int rfl) dv_str (c_eqS _ _)) (by first | decide +kernel | rfl | (clear h1; revert d; decide +kernel))) fun _ => (dw_and (k1 := true) (dt_is (k1 := true) (dt_cmp (dv_ixL (dv_name 3 rfl (by nofun)) dv_int rfl) dv_str (c_eqS _ _)) (by first | decide +kernel | rfl | (clear h1; revert d; decide +kernel))) fun _ => (dw_and1 (dt_is (k1 := true) (dt_cmp (dv_ixL (dv_name 3 rfl (by nofun)) dv_int rfl) dv_str (c_eqS _ _)) (by first | decide +kernel | rfl | (clear h1; revert d; decide +kernel)))))))) (fun _ => dxs_cons (ρ1 := [_, _, _, _, _, _, _]) (dx_set (i := 4) (dv_fn F_place_in (hr.mono (by decide)) (da_cons (dv_ixL (dv_name 3 rfl (by nofun)) dv_int rfl) (da_cons (dv_name 2 rfl (by nofun)) da_nil)) ⟨d, n, rfl, rfl, rfl, rfl, (by simp [Row.okAt] at h1; omega), h2⟩) sc_step_in.nd) (
        dxs_guard (dt_w (dw_or (k1 := false) (dt_is (k1 := false) (dt_cmp (dv_ixL (dv_name 3 rfl (by nofun)) dv_int rfl) (dv_tup (dd_cons dv_str (dd_cons dv_str dd_nil))) (c_ninT hu _ _ (by rfl) (by rfl) (by decide +kernel))) (by first | decide +kernel | rfl | (clear h1; revert d; decide +kernel))) fun _ => (dw_or (k1 := false) (dt_is (k1 := false) (dt_cmp (dv_ixL (dv_name 3 rfl (by nofun)) dv_int rfl) (dv_gR gQ) (c_ninW DQ (kQ q).choose_spec)) rfl) fun _ => (dw_or (k1 := false) (dt_is (k1 := false) (dt_cmp (dv_name 4 rfl (by nofun)) dv_non (c_isN _)) rfl) fun _ => (dw_or1 (dt_is (k1 := false) (dt_cmp (dv_name 4 rfl (by nofun)) (dv_add (dv_name 1 rfl (by nofun)) dv_int) (c_eqI _ _)) (decide_eq_false (by simp [Row.okAt] at h1; omega)))))))) (fun h => absurd h (by first | decide +kernel | rfl | (clear h1; revert d; decide +kernel))) (fun _ =>
        dxs_one (dx_retIs (dv_tup (dd_cons dv_str (dd_cons (dv_ixL (dv_name 3 rfl (by nofun)) dv_int rfl) (dd_cons (dv_ixWi DQ (dv_gR gQ) (dv_ixL (dv_name 3 rfl (by nofun)) dv_int rfl) (kQ q)) (dd_cons (dv_name 4 rfl (by nofun)) dd_nil))))) rfl)))) (fun h => absurd h (by decide +kernel))) trivial))
    | lessB q =>
      exact dxs_guard (dt_not (dt_val (dv_isi T.isinstance T.str (by decide +kernel) (dv_name 0 rfl (by nofun)) rfl))) (fun h => absurd h (by first | decide +kernel | rfl)) (fun _ =>
      dxs_cons (ρ1 := [_, _, _, _, _, _, _]) (dx_set (i := 3) (dv_is (s1 := .dat (strL (Row.words (Row.lessB q)))) (dv_split (dv_name 0 rfl (by nofun)) dv_str (by decide) (Nat.le_trans (Nat.add_le_add_right (txt_len _) 2) (show 22 ≤ sizeLine by decide))) (by rw [split_txt]; rfl)) sc_step_in.nd) (
      dxs_guard (dt_w (dw_and (k1 := false) (k2 := false) (dt_is (k1 := false) (dt_cmp (dv_lenL T.len (dv_name 3 rfl (by nofun)) ) dv_int (c_eqI _ _)) (by first | decide +kernel | rfl)) (fun h => absurd h (by decide)))) (fun h => absurd h (by first | decide +kernel | rfl)) (fun _ =>
      dxs_cons (ρ1 := [_, _, _, _, _, _, _]) (dx_par2 (i := 5) (j := 6) rfl sc_step_in.nd (da_cons (dv_is (s1 := .dat (.str "less")) (dv_join (ys := [("less" : Str)]) dv_str (dv_is (s1 := .dat (strL [("less" : Str)])) (dv_slL (dv_name 3 rfl (by nofun)) do_none (do_some (dv_neg dv_int))) (by rfl)) (by decide)) (congrArg (fun z => Sl.dat (.str z)) (by decide +kernel))) (da_cons (dv_ixL (dv_name 3 rfl (by nofun)) (dv_neg dv_int) rfl) da_nil))) (
      dxs_stop (dx_if (dt_w (dw_and (k1 := true) (dt_is (k1 := true) (dt_cmp (dv_name 5 rfl (by nofun)) (dv_gR gS) (c_inW DS s3.choose_spec)) rfl) fun _ => (dw_and1 (dt_is (k1 := true) (dt_cmp (dv_name 6 rfl (by nofun)) (dv_gR gQ) (c_inW DQ (kQ q).choose_spec)) rfl)))) (fun _ => dxs_one (dx_retIs (dv_tup (dd_cons dv_str (dd_cons (dv_ixWs DS (dv_gR gS) (dv_name 5 rfl (by nofun)) s3) (dd_cons (dv_ixWi DQ (dv_gR gQ) (dv_name 6 rfl (by nofun)) (kQ q)) dd_nil)))) rfl)) (fun h => absurd h (by decide +kernel))) trivial))))
    | lessC q =>
      exact dxs_guard (dt_not (dt_val (dv_isi T.isinstance T.str (by decide +kernel) (dv_name 0 rfl (by nofun)) rfl))) (fun h => absurd h (by first | decide +kernel | rfl)) (fun _ =>
      dxs_cons (ρ1 := [_, _, _, _, _, _, _]) (dx_set (i := 3) (dv_is (s1 := .dat (strL (Row.words (Row.lessC q)))) (dv_split (dv_name 0 rfl (by nofun)) dv_str (by decide) (Nat.le_trans (Nat.add_le_add_right (txt_len _) 2) (show 22 ≤ sizeLine by decide))) (by rw [split_txt]; rfl)) sc_step_in.nd) (
      dxs_guard (dt_w (dw_and (k1 := false) (k2 := false) (dt_is (k1 := false) (dt_cmp (dv_lenL T.len (dv_name 3 rfl (by nofun)) ) dv_int (c_eqI _ _)) (by first | decide +kernel | rfl)) (fun h => absurd h (by decide)))) (fun h => absurd h (by first | decide +kernel | rfl)) (fun _ =>
      dxs_cons (ρ1 := [_, _, _, _, _, _, _]) (dx_par2 (i := 5) (j := 6) rfl sc_step_in.nd (da_cons (dv_is (s1 := .dat (.str "c less")) (dv_join (ys := [("c" : Str), ("less" : Str)]) dv_str (dv_is (s1 := .dat (strL [("c" : Str), ("less" : Str)])) (dv_slL (dv_name 3 rfl (by nofun)) do_none (do_some (dv_neg dv_int))) (by rfl)) (by decide)) (congrArg (fun z => Sl.dat (.str z)) (by decide +kernel))) (da_cons (dv_ixL (dv_name 3 rfl (by nofun)) (dv_neg dv_int) rfl) da_nil))) (
      dxs_stop (dx_if (dt_w (dw_and (k1 := true) (dt_is (k1 := true) (dt_cmp (dv_name 5 rfl (by nofun)) (dv_gR gS) (c_inW DS s4.choose_spec)) rfl) fun _ => (dw_and1 (dt_is (k1 := true) (dt_cmp (dv_name 6 rfl (by nofun)) (dv_gR gQ) (c_inW DQ (kQ q).choose_spec)) rfl)))) (fun _ => dxs_one (dx_retIs (dv_tup (dd_cons dv_str (dd_cons (dv_ixWs DS (dv_gR gS) (dv_name 5 rfl (by nofun)) s4) (dd_cons (dv_ixWi DQ (dv_gR gQ) (dv_name 6 rfl (by nofun)) (kQ q)) dd_nil)))) rfl)) (fun h => absurd h (by decide +kernel))) trivial))))
    | lessV q =>
      exact dxs_guard (dt_not (dt_val (dv_isi T.isinstance T.str (by decide +kernel) (dv_name 0 rfl (by nofun)) rfl))) (fun h => absurd h (by first | decide +kernel | rfl)) (fun _ =>
      dxs_cons (ρ1 := [_, _, _, _, _, _, _]) (dx_set (i := 3) (dv_is (s1 := .dat (strL (Row.words (Row.lessV q)))) (dv_split (dv_name 0 rfl (by nofun)) dv_str (by decide) (Nat.le_trans (Nat.add_le_add_right (txt_len _) 2) (show 22 ≤ sizeLine by decide))) (by rw [split_txt]; rfl)) sc_step_in.nd) (
      dxs_guard (dt_w (dw_and (k1 := false) (k2 := false) (dt_is (k1 := false) (dt_cmp (dv_lenL T.len (dv_name 3 rfl (by nofun)) ) dv_int (c_eqI _ _)) (by first | decide +kernel | rfl)) (fun h => absurd h (by decide)))) (fun h => absurd h (by first | decide +kernel | rfl)) (fun _ =>
      dxs_cons (ρ1 := [_, _, _, _, _, _, _]) (dx_par2 (i := 5) (j := 6) rfl sc_step_in.nd (da_cons (dv_is (s1 := .dat (.str "v less")) (dv_join (ys := [("v" : Str), ("less" : Str)]) dv_str (dv_is (s1 := .dat (strL [("v" : Str), ("less" : Str)])) (dv_slL (dv_name 3 rfl (by nofun)) do_none (do_some (dv_neg dv_int))) (by rfl)) (by decide)) (congrArg (fun z => Sl.dat (.str z)) (by decide +kernel))) (da_cons (dv_ixL (dv_name 3 rfl (by nofun)) (dv_neg dv_int) rfl) da_nil))) (
      dxs_stop (dx_if (dt_w (dw_and (k1 := true) (dt_is (k1 := true) (dt_cmp (dv_name 5 rfl (by nofun)) (dv_gR gS) (c_inW DS s5.choose_spec)) rfl) fun _ => (dw_and1 (dt_is (k1 := true) (dt_cmp (dv_name 6 rfl (by nofun)) (dv_gR gQ) (c_inW DQ (kQ q).choose_spec)) rfl)))) (fun _ => dxs_one (dx_retIs (dv_tup (dd_cons dv_str (dd_cons (dv_ixWs DS (dv_gR gS) (dv_name 5 rfl (by nofun)) s5) (dd_cons (dv_ixWi DQ (dv_gR gQ) (dv_name 6 rfl (by nofun)) (kQ q)) dd_nil)))) rfl)) (fun h => absurd h (by decide +kernel))) trivial))))

end
end Dr
set_option maxHeartbeats 4000000
/-! M2: plain facts of rows, states, chances that the walk asks. -/
namespace Dr
open PySem PySem.Spec PyProof.Rows L2
def texts (p : List Row) : List PyData := p.map fun r => .str r.txt
def steps (p : List Row) : List PyData := p.map Row.step
theorem texts_at {p : List Row} {i : Nat} {d : PyData} (h : (texts p)[i]? = some d) : ∃ r, p[i]? = some r ∧ d = .str r.txt := by
  unfold texts at h
  rw [List.getElem?_map] at h
  cases e : p[i]? with
  | none => rw [e] at h; cases h
  | some r => rw [e] at h; exact ⟨r, rfl, (Option.some.inj h).symm⟩
theorem texts_len (p : List Row) : (texts p).length = p.length := List.length_map _
theorem steps_len (p : List Row) : (steps p).length = p.length := List.length_map _
theorem rowAt_of {p : List Row} {i : Int} (h0 : 0 ≤ i) (h1 : i < p.length) : p[i.toNat]? = some (rowAt p i) := by
  have : i.toNat < p.length := by omega
  unfold rowAt
  rw [List.getD_eq_getElem?_getD, List.getElem?_eq_getElem this]; rfl
theorem atI_pos {α : Type} {xs : List α} {i : Int} {x : α} (h0 : 0 ≤ i) (h : xs[i.toNat]? = some x) : atI xs i = some x := by
  have hl : i.toNat < xs.length := (List.getElem?_eq_some_iff.mp h).1
  have : ixN xs.length i = some i.toNat := by
    unfold ixN
    first
      | (simp; omega)
      | (split <;> simp <;> omega)
  unfold atI
  rw [this]; exact h
theorem steps_at {p : List Row} {i : Int} (h0 : 0 ≤ i) (h1 : i < p.length) : atI (steps p) i = some (rowAt p i).step := by
  refine atI_pos h0 ?_
  unfold steps
  rw [List.getElem?_map, rowAt_of h0 h1]; rfl
theorem texts_atI {p : List Row} {i : Int} (h0 : 0 ≤ i) (h1 : i < p.length) : atI (texts p) i = some (.str (rowAt p i).txt) := by
  refine atI_pos h0 ?_
  unfold texts
  rw [List.getElem?_map, rowAt_of h0 h1]; rfl
/-- the states behind a row -/
def tl (r : Row) (s : Stt) : List PyData := (marks r s).map fun q => encS q.2
theorem marks_ifc (q : Qt) (d : F8) (s : Stt) : marks (.ifc q d) s = (if s.a < tms q s.j then [(("" : Str), (if tms q s.j < s.b + bi s.x then ⟨d.val, s.a, tms q s.j, false, s.j, s.y⟩ else ⟨d.val, s.a, s.b, s.x, s.j, s.y⟩ : Stt))] else []) ++
      (if tms q s.j < s.b + bi s.x then [(("" : Str), (⟨s.row + 1, if tms q s.j > s.a then tms q s.j else s.a, s.b, s.x, s.j, s.y⟩ : Stt))] else []) := rfl
theorem ifc_tt (q : Qt) (d : F8) (s : Stt) (h1 : s.a < tms q s.j) (h2 : tms q s.j < s.b + bi s.x) : tl (.ifc q d) s = [.tuple [.int (d.val : Int), .int s.a, .int (tms q s.j), .bool false, .int s.j, .bool s.y], .tuple [.int (s.row + 1), .int (if tms q s.j > s.a then tms q s.j else s.a), .int s.b, .bool s.x, .int s.j, .bool s.y]] := by
  unfold tl
  rw [marks_ifc, if_pos h1, if_pos h2, if_pos h2]; rfl
theorem ifc_tf (q : Qt) (d : F8) (s : Stt) (h1 : s.a < tms q s.j) (h2 : ¬ tms q s.j < s.b + bi s.x) : tl (.ifc q d) s = [.tuple [.int (d.val : Int), .int s.a, .int s.b, .bool s.x, .int s.j, .bool s.y]] := by
  unfold tl
  rw [marks_ifc, if_pos h1, if_neg h2, if_neg h2]; rfl
theorem ifc_ft (q : Qt) (d : F8) (s : Stt) (h1 : ¬ s.a < tms q s.j) (h2 : tms q s.j < s.b + bi s.x) : tl (.ifc q d) s = [.tuple [.int (s.row + 1), .int (if tms q s.j > s.a then tms q s.j else s.a), .int s.b, .bool s.x, .int s.j, .bool s.y]] := by
  unfold tl
  rw [marks_ifc, if_neg h1, if_pos h2]; rfl
theorem ifc_ff (q : Qt) (d : F8) (s : Stt) (h1 : ¬ s.a < tms q s.j) (h2 : ¬ tms q s.j < s.b + bi s.x) : tl (.ifc q d) s = [] := by
  unfold tl
  rw [marks_ifc, if_neg h1, if_neg h2]; rfl
/-- the rows of a state's steps, in the program's words -/
theorem markL_ifc (q : Qt) (d : F8) (s : Stt) : ((tl (.ifc q d) s).map fun t => PyData.tuple [.str "", t]) = (marks (.ifc q d) s).map fun q => PyData.tuple [.str q.1, encS q.2] := by
  unfold tl
  rw [List.map_map, marks_ifc]
  by_cases h1 : s.a < tms q s.j <;> by_cases h2 : tms q s.j < s.b + bi s.x <;> simp only [h1, h2, if_true, if_false] <;> rfl
theorem markL_ifv (q : Qt) (d : F8) (s : Stt) : ((tl (.ifv q d) s).map fun t => PyData.tuple [.str "", t]) = (marks (.ifv q d) s).map fun q => PyData.tuple [.str q.1, encS q.2] := rfl
theorem tl_len (r : Row) (s : Stt) (h : (∃ q d, r = .ifc q d) ∨ ∃ q d, r = .ifv q d) : (tl r s).length < sizeLine := by
  have z : (tl r s).length ≤ 2 := by
    rcases h with ⟨q, d, rfl⟩ | ⟨q, d, rfl⟩
    · unfold tl
      rw [List.length_map, marks_ifc]
      by_cases h1 : s.a < tms q s.j <;> by_cases h2 : tms q s.j < s.b + bi s.x <;> simp only [h1, h2, if_true, if_false] <;> exact Nat.le_of_ble_eq_true rfl
    · exact Nat.le_of_ble_eq_true rfl
  exact Nat.lt_of_le_of_lt z (by decide)
/-! ### gcd -/
theorem gcd_go (k : Nat) (g s : Int) (h : 0 < s) : gcdN (k + 1) g s = gcdN k s (g % s) := by
  show (if s > 0 then gcdN k s (g % s) else g) = _
  rw [if_pos h]
theorem gcd_end (k : Nat) (g s : Int) (h : ¬ 0 < s) : gcdN k g s = g := by
  cases k with
  | zero => rfl
  | succ k => exact if_neg h
theorem emod_toNat {g s : Int} (h : 0 < s) : 0 ≤ g % s ∧ (g % s).toNat < s.toNat := by
  have h1 := Int.emod_nonneg g (by omega : s ≠ 0)
  have h2 := Int.emod_lt_of_pos g h
  omega
theorem gcd_pos : ∀ (k : Nat) (g s : Int), 0 < g → g < 1000 → 0 ≤ s → s < 1000 → 0 < gcdN k g s ∧ gcdN k g s < 1000
  | 0, g, s, h1, h2, _, _ => ⟨h1, h2⟩
  | k + 1, g, s, h1, h2, h3, h4 => by
    by_cases h : 0 < s
    · rw [gcd_go k g s h]
      have := emod_toNat (g := g) h
      exact gcd_pos k s (g % s) h h4 this.1 (by omega)
    · rw [gcd_end _ g s h]; exact ⟨h1, h2⟩
/-- near: not too far -/
def near (s : Stt) : Prop := -8 ≤ s.a ∧ -8 ≤ s.j ∧ s.b + bi s.x ≤ 8 ∧ s.j + bi s.y ≤ 8
theorem near_of {s : Stt} (h : tooFar s = false) : near s := by
  unfold tooFar at h
  simp only [Bool.or_eq_false_iff, decide_eq_false_iff_not] at h
  unfold near
  omega
theorem tms_le {q : Qt} {s : Stt} (h : near s) : tms q s.j ≤ 8 := by
  have h1 : s.j ≤ 8 := by
    have := h.2.2.2
    unfold bi at this
    split at this <;> omega
  unfold tms
  split
  · exact h1
  · cases q <;> simp [Qt.val]
def chF (t a : Int) : PyData → PyData
  | .int e => encF (low t (e - a))
  | _ => .none
theorem ch_0 {q : Qt} {s : Stt} (h : tms q s.j ≤ s.a) : (chAt q s).map encF = [.tuple [.int 0, .int 1]] := by unfold chAt; rw [if_pos h]; rfl
theorem ch_1 {q : Qt} {s : Stt} (h : ¬ tms q s.j ≤ s.a) (h2 : s.b + bi s.x ≤ tms q s.j) : (chAt q s).map encF = [.tuple [.int 1, .int 1]] := by unfold chAt; rw [if_neg h, if_pos h2]; rfl
theorem ch_t {q : Qt} {r a b j : Int} {y : Bool} (h : ¬ tms q j ≤ a) (h2 : ¬ b + bi true ≤ tms q j) : (chAt q ⟨r, a, b, true, j, y⟩).map encF = [PyData.int b, .int (b + 1)].map (chF (tms q j - a) a) := by unfold chAt; rw [if_neg h, if_neg h2]; rfl
theorem ch_f {q : Qt} {r a b j : Int} {y : Bool} (h : ¬ tms q j ≤ a) (h2 : ¬ b + bi false ≤ tms q j) : (chAt q ⟨r, a, b, false, j, y⟩).map encF = [PyData.int b].map (chF (tms q j - a) a) := by unfold chAt; rw [if_neg h, if_neg h2]; rfl
end Dr
set_option maxHeartbeats 4000000
namespace Dr
open PySem PySem.Spec PyProof.Rows L2
section
variable {P : Program} {w : World} {K : PySem.W.Frag} {mg : Str → Option Value} {base : Heap}

def C_wrong_row : Ctr := fun ss μ s' μ' => ∃ p : List Row, okProg p ∧ (ss = [.dat (.list (texts p))] ∨ ss = [.dat (.tuple (texts p))]) ∧ μ = [] ∧ s' = .dat (.tuple []) ∧ μ' = []
theorem sc_wrong_row : FnScope ["rows", "many", "at", "row", "step"] ["rows"] (defScope s_wrong_row) := ⟨rfl, rfl, rfl, by decide +kernel, rfl, by decide +kernel, by decide +kernel⟩
theorem ok_wrong_row {f : Addr} {fd : FuncData} (T : Tx mg K w) (F : Fun K "wrong_row" "wrong_row" s_wrong_row f fd) (hm : mg "wrong_row" = some (.ref f)) (F_step_in : FnD P w K mg base "step_in" 3 C_step_in) : FnD P w K mg base "wrong_row" 4 C_wrong_row := by
  refine fnD F hm sc_wrong_row (fun _ _ _ _ _ _ us hl => match us, hl with | [_], _ => rfl) (fun ss μ s' μ' h => ?_) (fun cdv A outer s H E c hr ss μ s' μ' h hm0 => ?_)
  · obtain ⟨p, hp, h, rfl, rfl, rfl⟩ := h; rcases h with rfl | rfl <;> rfl
  · obtain ⟨p, hp, h, rfl, rfl, rfl⟩ := h
    have hu := hr.units
    have hn1 := texts_len p
    have hn : ((texts p).length : Int) = (p.length : Int) := by rw [hn1]
    have hh := hp.1
    have hh2 := hp.2.1
    have test : (decide ((1 : Int) ≤ ((texts p).length : Int)) && decide (((texts p).length : Int) ≤ 8)) = true := by
      rw [hn, decide_eq_true (by omega), decide_eq_true (by omega)]; rfl
    rcases h with rfl | rfl
    · exact dxs_cons (ρ1 := [_, _, _, _, _]) (dx_set (i := 1) (dv_lenL T.len (dv_name 0 rfl (by nofun))) sc_wrong_row.nd) (
        dxs_guard (dt_not (dt_is (k1 := true) (dt_chain dv_int (dv_name 1 rfl (by nofun)) (fun _ => dv_gI T.most_rows) (c_le _ _) (fun _ => c_le _ _)) test)) (fun z => absurd z (by decide)) (fun _ =>
        dxs_cons (ρ1 := [_, _, .no, .no, .no]) (dx_for rfl PassesOwn.never (di_enumL T.enumerate (dv_name 0 rfl (by nofun))) (fun _ ρ μ => ρ = [.dat (.list (texts p)), .dat (.int ((texts p).length : Int)), .no, .no, .no] ∧ μ = []) ⟨rfl, rfl⟩ (fun _ _ _ _ => trivial)
          (fun i d ρ1 μ' hd h => by
            obtain ⟨rfl, rfl⟩ := h
            obtain ⟨e, he, rfl⟩ := enumD_at.mp hd
            obtain ⟨r, hr2, rfl⟩ := texts_at he
            have hok := hp.2.2 i r hr2
            exact ⟨[_, _, _, _, _], .nx [_, _, _, _, _] [], dg_tup rfl (dgs_cons (dg_name (i := 2) sc_wrong_row.nd) (dgs_cons (dg_name (i := 3) sc_wrong_row.nd) dgs_nil)),
              dxs_cons (ρ1 := [_, _, _, _, _]) (dx_set (i := 4) (dv_fn F_step_in (hr.mono (by decide)) (da_cons (dv_name 3 rfl (by nofun)) (da_cons (dv_name 2 rfl (by nofun)) (da_cons (dv_name 1 rfl (by nofun)) da_nil))) ⟨r, (texts p).length, i, rfl, rfl, rfl, rfl, hn1 ▸ hok, hn1 ▸ hh2⟩) sc_wrong_row.nd) (
              dxs_one (dx_if (dt_w (dw_or (k1 := false) (dt_cmp (dv_name 4 rfl (by nofun)) dv_non (c_isN (.tuple r.stepL))) fun _ => dw_or1 (dt_is (k1 := false) (dt_w (dw_and (dt_cmp (dv_name 2 rfl (by nofun)) (dv_sub (dv_name 1 rfl (by nofun)) dv_int) (c_eqI _ _)) fun _ => dw_and1 (dt_cmp (dv_ixT (ds := r.stepL) (dv_name 4 rfl (by nofun)) dv_int (step0 r)) (dv_tup (dd_cons dv_str (dd_cons dv_str (dd_cons dv_str dd_nil)))) (c_ninT hu _ _ rfl rfl (Nat.le_trans (Nat.min_le_left _ _) (by decide +kernel))))))
                (row_end (hn1 ▸ hok))))) (fun z => absurd z (by decide)) (fun _ => dxs_nil))),
              ⟨[_, _, .no, .no, .no], ⟨.inr rfl, .inr rfl, .inl rfl, .inl rfl, .inl rfl, trivial⟩, rfl, rfl⟩⟩)
          (fun ρ1 μ' h => by obtain ⟨rfl, rfl⟩ := h; exact ⟨_, Fg.refl _, rfl⟩)) (
        dxs_one (dx_retIs (dv_tup dd_nil) rfl))))
    · exact dxs_cons (ρ1 := [_, _, _, _, _]) (dx_set (i := 1) (dv_lenT T.len (dv_name 0 rfl (by nofun))) sc_wrong_row.nd) (
        dxs_guard (dt_not (dt_is (k1 := true) (dt_chain dv_int (dv_name 1 rfl (by nofun)) (fun _ => dv_gI T.most_rows) (c_le _ _) (fun _ => c_le _ _)) test)) (fun z => absurd z (by decide)) (fun _ =>
        dxs_cons (ρ1 := [_, _, .no, .no, .no]) (dx_for rfl PassesOwn.never (di_enumT T.enumerate (dv_name 0 rfl (by nofun))) (fun _ ρ μ => ρ = [.dat (.tuple (texts p)), .dat (.int ((texts p).length : Int)), .no, .no, .no] ∧ μ = []) ⟨rfl, rfl⟩ (fun _ _ _ _ => trivial)
          (fun i d ρ1 μ' hd h => by
            obtain ⟨rfl, rfl⟩ := h
            obtain ⟨e, he, rfl⟩ := enumD_at.mp hd
            obtain ⟨r, hr2, rfl⟩ := texts_at he
            have hok := hp.2.2 i r hr2
            exact ⟨[_, _, _, _, _], .nx [_, _, _, _, _] [], dg_tup rfl (dgs_cons (dg_name (i := 2) sc_wrong_row.nd) (dgs_cons (dg_name (i := 3) sc_wrong_row.nd) dgs_nil)),
              dxs_cons (ρ1 := [_, _, _, _, _]) (dx_set (i := 4) (dv_fn F_step_in (hr.mono (by decide)) (da_cons (dv_name 3 rfl (by nofun)) (da_cons (dv_name 2 rfl (by nofun)) (da_cons (dv_name 1 rfl (by nofun)) da_nil))) ⟨r, (texts p).length, i, rfl, rfl, rfl, rfl, hn1 ▸ hok, hn1 ▸ hh2⟩) sc_wrong_row.nd) (
              dxs_one (dx_if (dt_w (dw_or (k1 := false) (dt_cmp (dv_name 4 rfl (by nofun)) dv_non (c_isN (.tuple r.stepL))) fun _ => dw_or1 (dt_is (k1 := false) (dt_w (dw_and (dt_cmp (dv_name 2 rfl (by nofun)) (dv_sub (dv_name 1 rfl (by nofun)) dv_int) (c_eqI _ _)) fun _ => dw_and1 (dt_cmp (dv_ixT (ds := r.stepL) (dv_name 4 rfl (by nofun)) dv_int (step0 r)) (dv_tup (dd_cons dv_str (dd_cons dv_str (dd_cons dv_str dd_nil)))) (c_ninT hu _ _ rfl rfl (Nat.le_trans (Nat.min_le_left _ _) (by decide +kernel))))))
                (row_end (hn1 ▸ hok))))) (fun z => absurd z (by decide)) (fun _ => dxs_nil))),
              ⟨[_, _, .no, .no, .no], ⟨.inr rfl, .inr rfl, .inl rfl, .inl rfl, .inl rfl, trivial⟩, rfl, rfl⟩⟩)
          (fun ρ1 μ' h => by obtain ⟨rfl, rfl⟩ := h; exact ⟨_, Fg.refl _, rfl⟩)) (
        dxs_one (dx_retIs (dv_tup dd_nil) rfl))))

def C_check_program : Ctr := fun ss μ s' μ' => ∃ ws sd : PyData, ss = [.prg ws sd] ∧ μ = [] ∧ s' = .dat .none ∧ μ' = []
theorem sc_check_program : FnScope ["value"] ["value"] (defScope s_check_program) := ⟨rfl, rfl, rfl, by decide +kernel, rfl, by decide +kernel, by decide +kernel⟩
theorem ok_check_program {f : Addr} {fd : FuncData} (T : Tx mg K w) (F : Fun K "check_program" "check_program" s_check_program f fd) (hm : mg "check_program" = some (.ref f)) : FnD P w K mg base "check_program" 1 C_check_program := by
  refine fnDN F hm sc_check_program (fun _ _ _ _ _ _ us hl => match us, hl with | [_], _ => rfl) (fun ss μ s' μ' h => ?_) (fun ss μ s' μ' h => ?_) (fun cdv A outer s H E c hr ss μ s' μ' h hm0 => ?_)
  · obtain ⟨ws, sd, rfl, rfl, rfl, rfl⟩ := h; rfl
  · obtain ⟨ws, sd, rfl, rfl, rfl, rfl⟩ := h; rfl
  · obtain ⟨ws, sd, rfl, rfl, rfl, rfl⟩ := h
    exact ⟨_, dxs_one (dx_if (dt_not (dt_val (dv_isiP T.prgI T.isinstance T.program (dv_name 0 rfl (by nofun))))) (fun z => absurd z (by decide)) (fun _ => dxs_nil))⟩

def C_tested : Ctr := fun ss μ s' μ' => ∃ (r : Row) (s : Stt) (q : Qt) (d : F8), (r = .ifc q d ∨ r = .ifv q d) ∧ ss = [.dat r.step, .dat (encS s)] ∧ μ = [] ∧ s' = .dat (.list (tl r s)) ∧ μ' = []
theorem sc_tested : FnScope ["step", "state", "row", "low", "high", "is_open", "size", "has_part", "times", "end", "found", "cut"] ["step", "state"] (defScope s_tested) := ⟨rfl, rfl, rfl, by decide +kernel, rfl, by decide +kernel, by decide +kernel⟩
theorem ok_tested {f : Addr} {fd : FuncData} (T : Tx mg K w) (F : Fun K "tested" "tested" s_tested f fd) (hm : mg "tested" = some (.ref f)) : FnD P w K mg base "tested" 1 C_tested := by
  refine fnD F hm sc_tested (fun _ _ _ _ _ _ us hl => match us, hl with | [_, _], _ => rfl) (fun ss μ s' μ' h => ?_) (fun cdv A outer s H E c hr ss μ s' μ' h hm0 => ?_)
  · obtain ⟨r, s, q, d, hr0, rfl, rfl, rfl, rfl⟩ := h; rfl
  · obtain ⟨r, s, q, d, hr0, rfl, rfl, rfl, rfl⟩ := h
    have hN := sc_tested.nd
    have hu := hr.units
    have h0 : c.m0 = [] := List.eq_nil_of_length_eq_zero hm0
    rcases hr0 with rfl | rfl
    · by_cases g1 : s.a < tms q s.j <;> by_cases g2 : tms q s.j < s.b + bi s.x
      · rw [ifc_tt q d s g1 g2]
        exact dxs_cons (ρ1 := [_, _, _, _, _, _, _, _, _, _, _, _]) (dx_asg (dv_name 1 rfl (by nofun)) (dg_tup rfl (dgs_cons (dg_name (i := 2) sc_tested.nd) (dgs_cons (dg_name (i := 3) sc_tested.nd) (dgs_cons (dg_name (i := 4) sc_tested.nd) (dgs_cons (dg_name (i := 5) sc_tested.nd) (dgs_cons (dg_name (i := 6) sc_tested.nd) (dgs_cons (dg_name (i := 7) sc_tested.nd) dgs_nil)))))))) (
        dxs_cons (ρ1 := [_, _, _, _, _, _, _, _, _, _, _, _]) (dx_set (i := 8) (dv_is (s1 := .dat (.int (tms q s.j))) (dv_ifN (dt_cmp (dv_ixT (dv_name 0 rfl (by nofun)) dv_int rfl) (dv_gI T.fit) (c_eqI _ _)) (dv_name 6 rfl (by nofun)) (dv_ixT (dv_name 0 rfl (by nofun)) dv_int rfl)) rfl) sc_tested.nd) (
        dxs_guard (dt_cmp (dv_ixT (dv_name 0 rfl (by nofun)) dv_int rfl) dv_str (c_eqS _ _)) (fun h => absurd h (by first | decide +kernel | rfl)) (fun _ =>
        dxs_cons (ρ1 := [_, _, _, _, _, _, _, _, _, _, _, _]) (dx_par2 (i := 9) (j := 10) rfl sc_tested.nd (da_cons (dv_add (dv_name 4 rfl (by nofun)) (dv_intB T.int (dv_name 5 rfl (by nofun)))) (da_cons (dv_lstM dd_nil) da_nil))) (
        dxs_cons (ρ1 := [_, _, _, _, _, _, _, _, _, _, _, _]) (dx_if (dt_is (k1 := true) (dt_cmp (dv_name 3 rfl (by nofun)) (dv_name 8 rfl (by nofun)) (c_lt _ _)) (decide_eq_true g1)) (fun _ => dxs_cons (ρ1 := [_, _, _, _, _, _, _, _, _, _, _, _]) (dx_set (i := 11) (dv_if (dt_is (k1 := true) (dt_cmp (dv_name 8 rfl (by nofun)) (dv_name 9 rfl (by nofun)) (c_lt _ _)) (decide_eq_true g2)) (fun _ => (dv_tup (dd_cons (dv_name 8 rfl (by nofun)) (dd_cons dv_bl dd_nil)))) (fun h => absurd h (by decide +kernel))) sc_tested.nd) (
          dxs_cons (ρ1 := [_, _, _, _, _, _, _, _, _, _, _, _]) (dx_expr (dv_append (dv_name 10 rfl (by nofun)) (dv_tup (dd_cons (dv_ixT (dv_name 0 rfl (by nofun)) dv_int rfl) (dd_cons (dv_name 3 rfl (by nofun)) (dd_cons (dv_ixT (dv_name 11 rfl (by nofun)) dv_int rfl) (dd_cons (dv_ixT (dv_name 11 rfl (by nofun)) dv_int rfl) (dd_cons (dv_name 6 rfl (by nofun)) (dd_cons (dv_name 7 rfl (by nofun)) dd_nil))))))) rfl rfl (by first | decide | exact Nat.lt_of_le_of_lt (Nat.le_of_ble_eq_true rfl) (show 64 < sizeLine by decide)))) (
          dxs_nil))) (fun h => absurd h (by decide +kernel))) (
        dxs_cons (ρ1 := [_, _, _, _, _, _, _, _, _, _, _, _]) (dx_if (dt_is (k1 := true) (dt_cmp (dv_name 8 rfl (by nofun)) (dv_name 9 rfl (by nofun)) (c_lt _ _)) (decide_eq_true g2)) (fun _ => dxs_cons (ρ1 := [_, _, _, _, _, _, _, _, _, _, _, _]) (dx_expr (dv_append (dv_name 10 rfl (by nofun)) (dv_tup (dd_cons (dv_add (dv_name 2 rfl (by nofun)) dv_int) (dd_cons (dv_max rfl T.max (dv_name 3 rfl (by nofun)) (dv_name 8 rfl (by nofun))) (dd_cons (dv_name 4 rfl (by nofun)) (dd_cons (dv_name 5 rfl (by nofun)) (dd_cons (dv_name 6 rfl (by nofun)) (dd_cons (dv_name 7 rfl (by nofun)) dd_nil))))))) rfl rfl (by first | decide | exact Nat.lt_of_le_of_lt (Nat.le_of_ble_eq_true rfl) (show 64 < sizeLine by decide)))) (
          dxs_nil)) (fun h => absurd h (by decide +kernel))) (
        dxs_one (dx_retShow (dv_name 10 rfl (by nofun)) h0 rfl)))))))
      · rw [ifc_tf q d s g1 g2]
        exact dxs_cons (ρ1 := [_, _, _, _, _, _, _, _, _, _, _, _]) (dx_asg (dv_name 1 rfl (by nofun)) (dg_tup rfl (dgs_cons (dg_name (i := 2) sc_tested.nd) (dgs_cons (dg_name (i := 3) sc_tested.nd) (dgs_cons (dg_name (i := 4) sc_tested.nd) (dgs_cons (dg_name (i := 5) sc_tested.nd) (dgs_cons (dg_name (i := 6) sc_tested.nd) (dgs_cons (dg_name (i := 7) sc_tested.nd) dgs_nil)))))))) (
        dxs_cons (ρ1 := [_, _, _, _, _, _, _, _, _, _, _, _]) (dx_set (i := 8) (dv_is (s1 := .dat (.int (tms q s.j))) (dv_ifN (dt_cmp (dv_ixT (dv_name 0 rfl (by nofun)) dv_int rfl) (dv_gI T.fit) (c_eqI _ _)) (dv_name 6 rfl (by nofun)) (dv_ixT (dv_name 0 rfl (by nofun)) dv_int rfl)) rfl) sc_tested.nd) (
        dxs_guard (dt_cmp (dv_ixT (dv_name 0 rfl (by nofun)) dv_int rfl) dv_str (c_eqS _ _)) (fun h => absurd h (by first | decide +kernel | rfl)) (fun _ =>
        dxs_cons (ρ1 := [_, _, _, _, _, _, _, _, _, _, _, _]) (dx_par2 (i := 9) (j := 10) rfl sc_tested.nd (da_cons (dv_add (dv_name 4 rfl (by nofun)) (dv_intB T.int (dv_name 5 rfl (by nofun)))) (da_cons (dv_lstM dd_nil) da_nil))) (
        dxs_cons (ρ1 := [_, _, _, _, _, _, _, _, _, _, _, _]) (dx_if (dt_is (k1 := true) (dt_cmp (dv_name 3 rfl (by nofun)) (dv_name 8 rfl (by nofun)) (c_lt _ _)) (decide_eq_true g1)) (fun _ => dxs_cons (ρ1 := [_, _, _, _, _, _, _, _, _, _, _, _]) (dx_set (i := 11) (dv_if (dt_is (k1 := false) (dt_cmp (dv_name 8 rfl (by nofun)) (dv_name 9 rfl (by nofun)) (c_lt _ _)) (decide_eq_false g2)) (fun h => absurd h (by decide +kernel)) (fun _ => (dv_tup (dd_cons (dv_name 4 rfl (by nofun)) (dd_cons (dv_name 5 rfl (by nofun)) dd_nil))))) sc_tested.nd) (
          dxs_cons (ρ1 := [_, _, _, _, _, _, _, _, _, _, _, _]) (dx_expr (dv_append (dv_name 10 rfl (by nofun)) (dv_tup (dd_cons (dv_ixT (dv_name 0 rfl (by nofun)) dv_int rfl) (dd_cons (dv_name 3 rfl (by nofun)) (dd_cons (dv_ixT (dv_name 11 rfl (by nofun)) dv_int rfl) (dd_cons (dv_ixT (dv_name 11 rfl (by nofun)) dv_int rfl) (dd_cons (dv_name 6 rfl (by nofun)) (dd_cons (dv_name 7 rfl (by nofun)) dd_nil))))))) rfl rfl (by first | decide | exact Nat.lt_of_le_of_lt (Nat.le_of_ble_eq_true rfl) (show 64 < sizeLine by decide)))) (
          dxs_nil))) (fun h => absurd h (by decide +kernel))) (
        dxs_cons (ρ1 := [_, _, _, _, _, _, _, _, _, _, _, _]) (dx_if (dt_is (k1 := false) (dt_cmp (dv_name 8 rfl (by nofun)) (dv_name 9 rfl (by nofun)) (c_lt _ _)) (decide_eq_false g2)) (fun h => absurd h (by decide +kernel)) (fun _ => dxs_nil)) (
        dxs_one (dx_retShow (dv_name 10 rfl (by nofun)) h0 rfl)))))))
      · rw [ifc_ft q d s g1 g2]
        exact dxs_cons (ρ1 := [_, _, _, _, _, _, _, _, _, _, _, _]) (dx_asg (dv_name 1 rfl (by nofun)) (dg_tup rfl (dgs_cons (dg_name (i := 2) sc_tested.nd) (dgs_cons (dg_name (i := 3) sc_tested.nd) (dgs_cons (dg_name (i := 4) sc_tested.nd) (dgs_cons (dg_name (i := 5) sc_tested.nd) (dgs_cons (dg_name (i := 6) sc_tested.nd) (dgs_cons (dg_name (i := 7) sc_tested.nd) dgs_nil)))))))) (
        dxs_cons (ρ1 := [_, _, _, _, _, _, _, _, _, _, _, _]) (dx_set (i := 8) (dv_is (s1 := .dat (.int (tms q s.j))) (dv_ifN (dt_cmp (dv_ixT (dv_name 0 rfl (by nofun)) dv_int rfl) (dv_gI T.fit) (c_eqI _ _)) (dv_name 6 rfl (by nofun)) (dv_ixT (dv_name 0 rfl (by nofun)) dv_int rfl)) rfl) sc_tested.nd) (
        dxs_guard (dt_cmp (dv_ixT (dv_name 0 rfl (by nofun)) dv_int rfl) dv_str (c_eqS _ _)) (fun h => absurd h (by first | decide +kernel | rfl)) (fun _ =>
        dxs_cons (ρ1 := [_, _, _, _, _, _, _, _, _, _, _, _]) (dx_par2 (i := 9) (j := 10) rfl sc_tested.nd (da_cons (dv_add (dv_name 4 rfl (by nofun)) (dv_intB T.int (dv_name 5 rfl (by nofun)))) (da_cons (dv_lstM dd_nil) da_nil))) (
        dxs_cons (ρ1 := [_, _, _, _, _, _, _, _, _, _, _, _]) (dx_if (dt_is (k1 := false) (dt_cmp (dv_name 3 rfl (by nofun)) (dv_name 8 rfl (by nofun)) (c_lt _ _)) (decide_eq_false g1)) (fun h => absurd h (by decide +kernel)) (fun _ => dxs_nil)) (
        dxs_cons (ρ1 := [_, _, _, _, _, _, _, _, _, _, _, _]) (dx_if (dt_is (k1 := true) (dt_cmp (dv_name 8 rfl (by nofun)) (dv_name 9 rfl (by nofun)) (c_lt _ _)) (decide_eq_true g2)) (fun _ => dxs_cons (ρ1 := [_, _, _, _, _, _, _, _, _, _, _, _]) (dx_expr (dv_append (dv_name 10 rfl (by nofun)) (dv_tup (dd_cons (dv_add (dv_name 2 rfl (by nofun)) dv_int) (dd_cons (dv_max rfl T.max (dv_name 3 rfl (by nofun)) (dv_name 8 rfl (by nofun))) (dd_cons (dv_name 4 rfl (by nofun)) (dd_cons (dv_name 5 rfl (by nofun)) (dd_cons (dv_name 6 rfl (by nofun)) (dd_cons (dv_name 7 rfl (by nofun)) dd_nil))))))) rfl rfl (by first | decide | exact Nat.lt_of_le_of_lt (Nat.le_of_ble_eq_true rfl) (show 64 < sizeLine by decide)))) (
          dxs_nil)) (fun h => absurd h (by decide +kernel))) (
        dxs_one (dx_retShow (dv_name 10 rfl (by nofun)) h0 rfl)))))))
      · rw [ifc_ff q d s g1 g2]
        exact dxs_cons (ρ1 := [_, _, _, _, _, _, _, _, _, _, _, _]) (dx_asg (dv_name 1 rfl (by nofun)) (dg_tup rfl (dgs_cons (dg_name (i := 2) sc_tested.nd) (dgs_cons (dg_name (i := 3) sc_tested.nd) (dgs_cons (dg_name (i := 4) sc_tested.nd) (dgs_cons (dg_name (i := 5) sc_tested.nd) (dgs_cons (dg_name (i := 6) sc_tested.nd) (dgs_cons (dg_name (i := 7) sc_tested.nd) dgs_nil)))))))) (
        dxs_cons (ρ1 := [_, _, _, _, _, _, _, _, _, _, _, _]) (dx_set (i := 8) (dv_is (s1 := .dat (.int (tms q s.j))) (dv_ifN (dt_cmp (dv_ixT (dv_name 0 rfl (by nofun)) dv_int rfl) (dv_gI T.fit) (c_eqI _ _)) (dv_name 6 rfl (by nofun)) (dv_ixT (dv_name 0 rfl (by nofun)) dv_int rfl)) rfl) sc_tested.nd) (
        dxs_guard (dt_cmp (dv_ixT (dv_name 0 rfl (by nofun)) dv_int rfl) dv_str (c_eqS _ _)) (fun h => absurd h (by first | decide +kernel | rfl)) (fun _ =>
        dxs_cons (ρ1 := [_, _, _, _, _, _, _, _, _, _, _, _]) (dx_par2 (i := 9) (j := 10) rfl sc_tested.nd (da_cons (dv_add (dv_name 4 rfl (by nofun)) (dv_intB T.int (dv_name 5 rfl (by nofun)))) (da_cons (dv_lstM dd_nil) da_nil))) (
        dxs_cons (ρ1 := [_, _, _, _, _, _, _, _, _, _, _, _]) (dx_if (dt_is (k1 := false) (dt_cmp (dv_name 3 rfl (by nofun)) (dv_name 8 rfl (by nofun)) (c_lt _ _)) (decide_eq_false g1)) (fun h => absurd h (by decide +kernel)) (fun _ => dxs_nil)) (
        dxs_cons (ρ1 := [_, _, _, _, _, _, _, _, _, _, _, _]) (dx_if (dt_is (k1 := false) (dt_cmp (dv_name 8 rfl (by nofun)) (dv_name 9 rfl (by nofun)) (c_lt _ _)) (decide_eq_false g2)) (fun h => absurd h (by decide +kernel)) (fun _ => dxs_nil)) (
        dxs_one (dx_retShow (dv_name 10 rfl (by nofun)) h0 rfl)))))))
    · exact dxs_cons (ρ1 := [_, _, _, _, _, _, _, _, _, _, _, _]) (dx_asg (dv_name 1 rfl (by nofun)) (dg_tup rfl (dgs_cons (dg_name (i := 2) sc_tested.nd) (dgs_cons (dg_name (i := 3) sc_tested.nd) (dgs_cons (dg_name (i := 4) sc_tested.nd) (dgs_cons (dg_name (i := 5) sc_tested.nd) (dgs_cons (dg_name (i := 6) sc_tested.nd) (dgs_cons (dg_name (i := 7) sc_tested.nd) dgs_nil)))))))) (
      dxs_cons (ρ1 := [_, _, _, _, _, _, _, _, _, _, _, _]) (dx_set (i := 8) (dv_is (s1 := .dat (.int (tms q s.j))) (dv_ifN (dt_cmp (dv_ixT (dv_name 0 rfl (by nofun)) dv_int rfl) (dv_gI T.fit) (c_eqI _ _)) (dv_name 6 rfl (by nofun)) (dv_ixT (dv_name 0 rfl (by nofun)) dv_int rfl)) rfl) sc_tested.nd) (
      dxs_stop (dx_if (dt_cmp (dv_ixT (dv_name 0 rfl (by nofun)) dv_int rfl) dv_str (c_eqS _ _)) (fun _ => dxs_one (dx_retIs (dv_lst (dd_cons (dv_tup (dd_cons (dv_ifN (dt_cmp (dv_name 6 rfl (by nofun)) (dv_name 8 rfl (by nofun)) (c_lt _ _)) (dv_ixT (dv_name 0 rfl (by nofun)) dv_int rfl) (dv_add (dv_name 2 rfl (by nofun)) dv_int)) (dd_cons (dv_name 3 rfl (by nofun)) (dd_cons (dv_name 4 rfl (by nofun)) (dd_cons (dv_name 5 rfl (by nofun)) (dd_cons (dv_name 6 rfl (by nofun)) (dd_cons (dv_name 7 rfl (by nofun)) dd_nil))))))) dd_nil)) rfl)) (fun h => absurd h (by decide +kernel))) trivial))

def C_marked_steps : Ctr := fun ss μ s' μ' => ∃ (p : List Row) (s : Stt) (r : Row), ss = [.prg (.tuple (texts p)) (.tuple (steps p)), .dat (encS s)] ∧ μ = [] ∧ s' = .dat (markL r s) ∧ μ' = [] ∧ 0 ≤ s.row ∧ s.row < p.length ∧ r = rowAt p s.row
theorem sc_marked_steps : FnScope ["program", "state", "step", "found", "row", "low", "high", "is_open", "size", "has_part", "times", "moved", "shrunk"] ["program", "state"] (defScope s_marked_steps) := ⟨rfl, rfl, rfl, by decide +kernel, rfl, by decide +kernel, by decide +kernel⟩
theorem ok_marked_steps {f : Addr} {fd : FuncData} (T : Tx mg K w) (F : Fun K "marked_steps" "marked_steps" s_marked_steps f fd) (hm : mg "marked_steps" = some (.ref f)) (F_taken : FnD P w K mg base "taken" 1 C_taken) (F_tested : FnD P w K mg base "tested" 1 C_tested) : FnD P w K mg base "marked_steps" 2 C_marked_steps := by
  refine fnD F hm sc_marked_steps (fun _ _ _ _ _ _ us hl => match us, hl with | [_, _], _ => rfl) (fun ss μ s' μ' h => ?_) (fun cdv A outer s H E c hr ss μ s' μ' h hm0 => ?_)
  · obtain ⟨p, s, r, rfl, rfl, rfl, rfl, hs0, hs1, hre⟩ := h; rfl
  · obtain ⟨p, s, r, rfl, rfl, rfl, rfl, hs0, hs1, hre⟩ := h
    have hN := sc_marked_steps.nd
    have hu := hr.units
    have hst := steps_at hs0 hs1
    rw [← hre] at hst
    clear hre
    cases r with
    | take =>
      exact dxs_cons (ρ1 := [_, _, _, _, _, _, _, _, _, _, _, _, _]) (dx_set (i := 2) (dv_ixT (ds := steps p) (dv_steps T.prg (dv_name 0 rfl (by nofun))) (dv_ixT (dv_name 1 rfl (by nofun)) dv_int rfl) hst) sc_marked_steps.nd) (
        dxs_stop (dx_if (dt_cmp (dv_ixT (dv_name 2 rfl (by nofun)) dv_int rfl) dv_str (c_eqS _ _)) (fun _ => dxs_one (dx_retIs (dv_fn F_taken (hr.mono (by decide)) (da_cons (dv_name 1 rfl (by nofun)) da_nil) ⟨s, rfl, rfl, rfl, rfl⟩) rfl)) (fun h => absurd h (by decide +kernel))) trivial)
    | again =>
      exact dxs_cons (ρ1 := [_, _, _, _, _, _, _, _, _, _, _, _, _]) (dx_set (i := 2) (dv_ixT (ds := steps p) (dv_steps T.prg (dv_name 0 rfl (by nofun))) (dv_ixT (dv_name 1 rfl (by nofun)) dv_int rfl) hst) sc_marked_steps.nd) (
        dxs_guard (dt_cmp (dv_ixT (dv_name 2 rfl (by nofun)) dv_int rfl) dv_str (c_eqS _ _)) (fun h => absurd h (by first | decide +kernel | rfl)) (fun _ =>
        dxs_guard (dt_cmp (dv_ixT (dv_name 2 rfl (by nofun)) dv_int rfl) dv_str (c_eqS _ _)) (fun h => absurd h (by first | decide +kernel | rfl)) (fun _ =>
        dxs_cons (ρ1 := [_, _, _, _, _, _, _, _, _, _, _, _, _]) (dx_asg (dv_name 1 rfl (by nofun)) (dg_tup rfl (dgs_cons (dg_name (i := 4) sc_marked_steps.nd) (dgs_cons (dg_name (i := 5) sc_marked_steps.nd) (dgs_cons (dg_name (i := 6) sc_marked_steps.nd) (dgs_cons (dg_name (i := 7) sc_marked_steps.nd) (dgs_cons (dg_name (i := 8) sc_marked_steps.nd) (dgs_cons (dg_name (i := 9) sc_marked_steps.nd) dgs_nil)))))))) (
        dxs_guard (dt_cmp (dv_ixT (dv_name 2 rfl (by nofun)) dv_int rfl) dv_str (c_eqS _ _)) (fun h => absurd h (by first | decide +kernel | rfl)) (fun _ =>
        dxs_stop (dx_if (dt_cmp (dv_ixT (dv_name 2 rfl (by nofun)) dv_int rfl) dv_str (c_neS _ _)) (fun _ => dxs_one (dx_retIs (dv_lst dd_nil) rfl)) (fun h => absurd h (by decide +kernel))) trivial)))))
    | giveC =>
      exact dxs_cons (ρ1 := [_, _, _, _, _, _, _, _, _, _, _, _, _]) (dx_set (i := 2) (dv_ixT (ds := steps p) (dv_steps T.prg (dv_name 0 rfl (by nofun))) (dv_ixT (dv_name 1 rfl (by nofun)) dv_int rfl) hst) sc_marked_steps.nd) (
        dxs_guard (dt_cmp (dv_ixT (dv_name 2 rfl (by nofun)) dv_int rfl) dv_str (c_eqS _ _)) (fun h => absurd h (by first | decide +kernel | rfl)) (fun _ =>
        dxs_guard (dt_cmp (dv_ixT (dv_name 2 rfl (by nofun)) dv_int rfl) dv_str (c_eqS _ _)) (fun h => absurd h (by first | decide +kernel | rfl)) (fun _ =>
        dxs_cons (ρ1 := [_, _, _, _, _, _, _, _, _, _, _, _, _]) (dx_asg (dv_name 1 rfl (by nofun)) (dg_tup rfl (dgs_cons (dg_name (i := 4) sc_marked_steps.nd) (dgs_cons (dg_name (i := 5) sc_marked_steps.nd) (dgs_cons (dg_name (i := 6) sc_marked_steps.nd) (dgs_cons (dg_name (i := 7) sc_marked_steps.nd) (dgs_cons (dg_name (i := 8) sc_marked_steps.nd) (dgs_cons (dg_name (i := 9) sc_marked_steps.nd) dgs_nil)))))))) (
        dxs_guard (dt_cmp (dv_ixT (dv_name 2 rfl (by nofun)) dv_int rfl) dv_str (c_eqS _ _)) (fun h => absurd h (by first | decide +kernel | rfl)) (fun _ =>
        dxs_stop (dx_if (dt_cmp (dv_ixT (dv_name 2 rfl (by nofun)) dv_int rfl) dv_str (c_neS _ _)) (fun _ => dxs_one (dx_retIs (dv_lst dd_nil) rfl)) (fun h => absurd h (by decide +kernel))) trivial)))))
    | giveR =>
      exact dxs_cons (ρ1 := [_, _, _, _, _, _, _, _, _, _, _, _, _]) (dx_set (i := 2) (dv_ixT (ds := steps p) (dv_steps T.prg (dv_name 0 rfl (by nofun))) (dv_ixT (dv_name 1 rfl (by nofun)) dv_int rfl) hst) sc_marked_steps.nd) (
        dxs_guard (dt_cmp (dv_ixT (dv_name 2 rfl (by nofun)) dv_int rfl) dv_str (c_eqS _ _)) (fun h => absurd h (by first | decide +kernel | rfl)) (fun _ =>
        dxs_guard (dt_cmp (dv_ixT (dv_name 2 rfl (by nofun)) dv_int rfl) dv_str (c_eqS _ _)) (fun h => absurd h (by first | decide +kernel | rfl)) (fun _ =>
        dxs_cons (ρ1 := [_, _, _, _, _, _, _, _, _, _, _, _, _]) (dx_asg (dv_name 1 rfl (by nofun)) (dg_tup rfl (dgs_cons (dg_name (i := 4) sc_marked_steps.nd) (dgs_cons (dg_name (i := 5) sc_marked_steps.nd) (dgs_cons (dg_name (i := 6) sc_marked_steps.nd) (dgs_cons (dg_name (i := 7) sc_marked_steps.nd) (dgs_cons (dg_name (i := 8) sc_marked_steps.nd) (dgs_cons (dg_name (i := 9) sc_marked_steps.nd) dgs_nil)))))))) (
        dxs_guard (dt_cmp (dv_ixT (dv_name 2 rfl (by nofun)) dv_int rfl) dv_str (c_eqS _ _)) (fun h => absurd h (by first | decide +kernel | rfl)) (fun _ =>
        dxs_stop (dx_if (dt_cmp (dv_ixT (dv_name 2 rfl (by nofun)) dv_int rfl) dv_str (c_neS _ _)) (fun _ => dxs_one (dx_retIs (dv_lst dd_nil) rfl)) (fun h => absurd h (by decide +kernel))) trivial)))))
    | go d =>
      exact dxs_cons (ρ1 := [_, _, _, _, _, _, _, _, _, _, _, _, _]) (dx_set (i := 2) (dv_ixT (ds := steps p) (dv_steps T.prg (dv_name 0 rfl (by nofun))) (dv_ixT (dv_name 1 rfl (by nofun)) dv_int rfl) hst) sc_marked_steps.nd) (
        dxs_guard (dt_cmp (dv_ixT (dv_name 2 rfl (by nofun)) dv_int rfl) dv_str (c_eqS _ _)) (fun h => absurd h (by first | decide +kernel | rfl)) (fun _ =>
        dxs_guard (dt_cmp (dv_ixT (dv_name 2 rfl (by nofun)) dv_int rfl) dv_str (c_eqS _ _)) (fun h => absurd h (by first | decide +kernel | rfl)) (fun _ =>
        dxs_cons (ρ1 := [_, _, _, _, _, _, _, _, _, _, _, _, _]) (dx_asg (dv_name 1 rfl (by nofun)) (dg_tup rfl (dgs_cons (dg_name (i := 4) sc_marked_steps.nd) (dgs_cons (dg_name (i := 5) sc_marked_steps.nd) (dgs_cons (dg_name (i := 6) sc_marked_steps.nd) (dgs_cons (dg_name (i := 7) sc_marked_steps.nd) (dgs_cons (dg_name (i := 8) sc_marked_steps.nd) (dgs_cons (dg_name (i := 9) sc_marked_steps.nd) dgs_nil)))))))) (
        dxs_stop (dx_if (dt_cmp (dv_ixT (dv_name 2 rfl (by nofun)) dv_int rfl) dv_str (c_eqS _ _)) (fun _ => dxs_one (dx_retIs (dv_lst (dd_cons (dv_tup (dd_cons dv_str (dd_cons (dv_tup (dd_cons (dv_ixT (dv_name 2 rfl (by nofun)) dv_int rfl) (dd_cons (dv_name 5 rfl (by nofun)) (dd_cons (dv_name 6 rfl (by nofun)) (dd_cons (dv_name 7 rfl (by nofun)) (dd_cons (dv_name 8 rfl (by nofun)) (dd_cons (dv_name 9 rfl (by nofun)) dd_nil))))))) dd_nil))) dd_nil)) rfl)) (fun h => absurd h (by decide +kernel))) trivial))))
    | ifc q d =>
      exact dxs_cons (ρ1 := [_, _, _, _, _, _, _, _, _, _, _, _, _]) (dx_set (i := 2) (dv_ixT (ds := steps p) (dv_steps T.prg (dv_name 0 rfl (by nofun))) (dv_ixT (dv_name 1 rfl (by nofun)) dv_int rfl) hst) sc_marked_steps.nd) (
        dxs_guard (dt_cmp (dv_ixT (dv_name 2 rfl (by nofun)) dv_int rfl) dv_str (c_eqS _ _)) (fun h => absurd h (by first | decide +kernel | rfl)) (fun _ =>
        dxs_stop (dx_if (dt_cmp (dv_ixT (dv_name 2 rfl (by nofun)) dv_int rfl) dv_str (c_eqS _ _)) (fun _ => dxs_one (dx_retIs (dv_lcM (i := 3) rfl sc_marked_steps.nd (blk_of (by rfl)) (di_lst (dv_fn F_tested (hr.mono (by decide)) (da_cons (dv_name 2 rfl (by nofun)) (da_cons (dv_name 1 rfl (by nofun)) da_nil)) ⟨_, s, q, d, .inl rfl, rfl, rfl, rfl, rfl⟩)) (tl_len _ s (.inl ⟨q, d, rfl⟩)) trivial (f := fun t => PyData.tuple [.str "", t]) (fun dd _ c2 s0 H0 C cl fp => dv_tup (dd_cons dv_str (dd_cons (dv_name 3 rfl (by nofun)) dd_nil))) (fun _ _ _ _ _ => pg_name sc_marked_steps.nd rfl (Or.inl rfl))) (congrArg (fun z => Sl.dat (.list z)) (markL_ifc q d s)))) (fun h => absurd h (by decide +kernel))) trivial))
    | ifv q d =>
      exact dxs_cons (ρ1 := [_, _, _, _, _, _, _, _, _, _, _, _, _]) (dx_set (i := 2) (dv_ixT (ds := steps p) (dv_steps T.prg (dv_name 0 rfl (by nofun))) (dv_ixT (dv_name 1 rfl (by nofun)) dv_int rfl) hst) sc_marked_steps.nd) (
        dxs_guard (dt_cmp (dv_ixT (dv_name 2 rfl (by nofun)) dv_int rfl) dv_str (c_eqS _ _)) (fun h => absurd h (by first | decide +kernel | rfl)) (fun _ =>
        dxs_stop (dx_if (dt_cmp (dv_ixT (dv_name 2 rfl (by nofun)) dv_int rfl) dv_str (c_eqS _ _)) (fun _ => dxs_one (dx_retIs (dv_lcM (i := 3) rfl sc_marked_steps.nd (blk_of (by rfl)) (di_lst (dv_fn F_tested (hr.mono (by decide)) (da_cons (dv_name 2 rfl (by nofun)) (da_cons (dv_name 1 rfl (by nofun)) da_nil)) ⟨_, s, q, d, .inr rfl, rfl, rfl, rfl, rfl⟩)) (tl_len _ s (.inr ⟨q, d, rfl⟩)) trivial (f := fun t => PyData.tuple [.str "", t]) (fun dd _ c2 s0 H0 C cl fp => dv_tup (dd_cons dv_str (dd_cons (dv_name 3 rfl (by nofun)) dd_nil))) (fun _ _ _ _ _ => pg_name sc_marked_steps.nd rfl (Or.inl rfl))) (congrArg (fun z => Sl.dat (.list z)) (markL_ifv q d s)))) (fun h => absurd h (by decide +kernel))) trivial))
    | lessB q =>
      exact dxs_cons (ρ1 := [_, _, _, _, _, _, _, _, _, _, _, _, _]) (dx_set (i := 2) (dv_ixT (ds := steps p) (dv_steps T.prg (dv_name 0 rfl (by nofun))) (dv_ixT (dv_name 1 rfl (by nofun)) dv_int rfl) hst) sc_marked_steps.nd) (
        dxs_guard (dt_cmp (dv_ixT (dv_name 2 rfl (by nofun)) dv_int rfl) dv_str (c_eqS _ _)) (fun h => absurd h (by first | decide +kernel | rfl)) (fun _ =>
        dxs_guard (dt_cmp (dv_ixT (dv_name 2 rfl (by nofun)) dv_int rfl) dv_str (c_eqS _ _)) (fun h => absurd h (by first | decide +kernel | rfl)) (fun _ =>
        dxs_cons (ρ1 := [_, _, _, _, _, _, _, _, _, _, _, _, _]) (dx_asg (dv_name 1 rfl (by nofun)) (dg_tup rfl (dgs_cons (dg_name (i := 4) sc_marked_steps.nd) (dgs_cons (dg_name (i := 5) sc_marked_steps.nd) (dgs_cons (dg_name (i := 6) sc_marked_steps.nd) (dgs_cons (dg_name (i := 7) sc_marked_steps.nd) (dgs_cons (dg_name (i := 8) sc_marked_steps.nd) (dgs_cons (dg_name (i := 9) sc_marked_steps.nd) dgs_nil)))))))) (
        dxs_guard (dt_cmp (dv_ixT (dv_name 2 rfl (by nofun)) dv_int rfl) dv_str (c_eqS _ _)) (fun h => absurd h (by first | decide +kernel | rfl)) (fun _ =>
        dxs_guard (dt_cmp (dv_ixT (dv_name 2 rfl (by nofun)) dv_int rfl) dv_str (c_neS _ _)) (fun h => absurd h (by first | decide +kernel | rfl)) (fun _ =>
        dxs_cons (ρ1 := [_, _, _, _, _, _, _, _, _, _, _, _, _]) (dx_set (i := 10) (dv_is (s1 := .dat (.int (tms q s.j))) (dv_ifN (dt_cmp (dv_ixT (dv_name 2 rfl (by nofun)) dv_int rfl) (dv_gI T.fit) (c_eqI _ _)) (dv_name 8 rfl (by nofun)) (dv_ixT (dv_name 2 rfl (by nofun)) dv_int rfl)) rfl) sc_marked_steps.nd) (
        dxs_cons (ρ1 := [_, _, _, _, _, _, _, _, _, _, _, _, _]) (dx_par2 (i := 11) (j := 12) rfl sc_marked_steps.nd (da_cons (dv_if (dt_cmp dv_str (dv_ixT (dv_name 2 rfl (by nofun)) dv_int rfl) (c_inS _ _)) (fun _ => (dv_name 10 rfl (by nofun))) (fun h => absurd h (by decide +kernel))) (da_cons (dv_if (dt_cmp dv_str (dv_ixT (dv_name 2 rfl (by nofun)) dv_int rfl) (c_inS _ _)) (fun _ => (dv_name 10 rfl (by nofun))) (fun h => absurd h (by decide +kernel))) da_nil))) (
        dxs_one (dx_retIs (dv_lst (dd_cons (dv_tup (dd_cons dv_str (dd_cons (dv_tup (dd_cons (dv_add (dv_name 4 rfl (by nofun)) dv_int) (dd_cons (dv_sub (dv_name 5 rfl (by nofun)) (dv_name 11 rfl (by nofun))) (dd_cons (dv_sub (dv_name 6 rfl (by nofun)) (dv_name 11 rfl (by nofun))) (dd_cons (dv_name 7 rfl (by nofun)) (dd_cons (dv_sub (dv_name 8 rfl (by nofun)) (dv_name 12 rfl (by nofun))) (dd_cons (dv_name 9 rfl (by nofun)) dd_nil))))))) dd_nil))) dd_nil)) rfl)))))))))
    | lessC q =>
      exact dxs_cons (ρ1 := [_, _, _, _, _, _, _, _, _, _, _, _, _]) (dx_set (i := 2) (dv_ixT (ds := steps p) (dv_steps T.prg (dv_name 0 rfl (by nofun))) (dv_ixT (dv_name 1 rfl (by nofun)) dv_int rfl) hst) sc_marked_steps.nd) (
        dxs_guard (dt_cmp (dv_ixT (dv_name 2 rfl (by nofun)) dv_int rfl) dv_str (c_eqS _ _)) (fun h => absurd h (by first | decide +kernel | rfl)) (fun _ =>
        dxs_guard (dt_cmp (dv_ixT (dv_name 2 rfl (by nofun)) dv_int rfl) dv_str (c_eqS _ _)) (fun h => absurd h (by first | decide +kernel | rfl)) (fun _ =>
        dxs_cons (ρ1 := [_, _, _, _, _, _, _, _, _, _, _, _, _]) (dx_asg (dv_name 1 rfl (by nofun)) (dg_tup rfl (dgs_cons (dg_name (i := 4) sc_marked_steps.nd) (dgs_cons (dg_name (i := 5) sc_marked_steps.nd) (dgs_cons (dg_name (i := 6) sc_marked_steps.nd) (dgs_cons (dg_name (i := 7) sc_marked_steps.nd) (dgs_cons (dg_name (i := 8) sc_marked_steps.nd) (dgs_cons (dg_name (i := 9) sc_marked_steps.nd) dgs_nil)))))))) (
        dxs_guard (dt_cmp (dv_ixT (dv_name 2 rfl (by nofun)) dv_int rfl) dv_str (c_eqS _ _)) (fun h => absurd h (by first | decide +kernel | rfl)) (fun _ =>
        dxs_guard (dt_cmp (dv_ixT (dv_name 2 rfl (by nofun)) dv_int rfl) dv_str (c_neS _ _)) (fun h => absurd h (by first | decide +kernel | rfl)) (fun _ =>
        dxs_cons (ρ1 := [_, _, _, _, _, _, _, _, _, _, _, _, _]) (dx_set (i := 10) (dv_is (s1 := .dat (.int (tms q s.j))) (dv_ifN (dt_cmp (dv_ixT (dv_name 2 rfl (by nofun)) dv_int rfl) (dv_gI T.fit) (c_eqI _ _)) (dv_name 8 rfl (by nofun)) (dv_ixT (dv_name 2 rfl (by nofun)) dv_int rfl)) rfl) sc_marked_steps.nd) (
        dxs_cons (ρ1 := [_, _, _, _, _, _, _, _, _, _, _, _, _]) (dx_par2 (i := 11) (j := 12) rfl sc_marked_steps.nd (da_cons (dv_if (dt_cmp dv_str (dv_ixT (dv_name 2 rfl (by nofun)) dv_int rfl) (c_inS _ _)) (fun _ => (dv_name 10 rfl (by nofun))) (fun h => absurd h (by decide +kernel))) (da_cons (dv_if (dt_cmp dv_str (dv_ixT (dv_name 2 rfl (by nofun)) dv_int rfl) (c_inS _ _)) (fun h => absurd h (by decide +kernel)) (fun _ => dv_int)) da_nil))) (
        dxs_one (dx_retIs (dv_lst (dd_cons (dv_tup (dd_cons dv_str (dd_cons (dv_tup (dd_cons (dv_add (dv_name 4 rfl (by nofun)) dv_int) (dd_cons (dv_sub (dv_name 5 rfl (by nofun)) (dv_name 11 rfl (by nofun))) (dd_cons (dv_sub (dv_name 6 rfl (by nofun)) (dv_name 11 rfl (by nofun))) (dd_cons (dv_name 7 rfl (by nofun)) (dd_cons (dv_sub (dv_name 8 rfl (by nofun)) (dv_name 12 rfl (by nofun))) (dd_cons (dv_name 9 rfl (by nofun)) dd_nil))))))) dd_nil))) dd_nil)) rfl)))))))))
    | lessV q =>
      exact dxs_cons (ρ1 := [_, _, _, _, _, _, _, _, _, _, _, _, _]) (dx_set (i := 2) (dv_ixT (ds := steps p) (dv_steps T.prg (dv_name 0 rfl (by nofun))) (dv_ixT (dv_name 1 rfl (by nofun)) dv_int rfl) hst) sc_marked_steps.nd) (
        dxs_guard (dt_cmp (dv_ixT (dv_name 2 rfl (by nofun)) dv_int rfl) dv_str (c_eqS _ _)) (fun h => absurd h (by first | decide +kernel | rfl)) (fun _ =>
        dxs_guard (dt_cmp (dv_ixT (dv_name 2 rfl (by nofun)) dv_int rfl) dv_str (c_eqS _ _)) (fun h => absurd h (by first | decide +kernel | rfl)) (fun _ =>
        dxs_cons (ρ1 := [_, _, _, _, _, _, _, _, _, _, _, _, _]) (dx_asg (dv_name 1 rfl (by nofun)) (dg_tup rfl (dgs_cons (dg_name (i := 4) sc_marked_steps.nd) (dgs_cons (dg_name (i := 5) sc_marked_steps.nd) (dgs_cons (dg_name (i := 6) sc_marked_steps.nd) (dgs_cons (dg_name (i := 7) sc_marked_steps.nd) (dgs_cons (dg_name (i := 8) sc_marked_steps.nd) (dgs_cons (dg_name (i := 9) sc_marked_steps.nd) dgs_nil)))))))) (
        dxs_guard (dt_cmp (dv_ixT (dv_name 2 rfl (by nofun)) dv_int rfl) dv_str (c_eqS _ _)) (fun h => absurd h (by first | decide +kernel | rfl)) (fun _ =>
        dxs_guard (dt_cmp (dv_ixT (dv_name 2 rfl (by nofun)) dv_int rfl) dv_str (c_neS _ _)) (fun h => absurd h (by first | decide +kernel | rfl)) (fun _ =>
        dxs_cons (ρ1 := [_, _, _, _, _, _, _, _, _, _, _, _, _]) (dx_set (i := 10) (dv_is (s1 := .dat (.int (tms q s.j))) (dv_ifN (dt_cmp (dv_ixT (dv_name 2 rfl (by nofun)) dv_int rfl) (dv_gI T.fit) (c_eqI _ _)) (dv_name 8 rfl (by nofun)) (dv_ixT (dv_name 2 rfl (by nofun)) dv_int rfl)) rfl) sc_marked_steps.nd) (
        dxs_cons (ρ1 := [_, _, _, _, _, _, _, _, _, _, _, _, _]) (dx_par2 (i := 11) (j := 12) rfl sc_marked_steps.nd (da_cons (dv_if (dt_cmp dv_str (dv_ixT (dv_name 2 rfl (by nofun)) dv_int rfl) (c_inS _ _)) (fun h => absurd h (by decide +kernel)) (fun _ => dv_int)) (da_cons (dv_if (dt_cmp dv_str (dv_ixT (dv_name 2 rfl (by nofun)) dv_int rfl) (c_inS _ _)) (fun _ => (dv_name 10 rfl (by nofun))) (fun h => absurd h (by decide +kernel))) da_nil))) (
        dxs_one (dx_retIs (dv_lst (dd_cons (dv_tup (dd_cons dv_str (dd_cons (dv_tup (dd_cons (dv_add (dv_name 4 rfl (by nofun)) dv_int) (dd_cons (dv_sub (dv_name 5 rfl (by nofun)) (dv_name 11 rfl (by nofun))) (dd_cons (dv_sub (dv_name 6 rfl (by nofun)) (dv_name 11 rfl (by nofun))) (dd_cons (dv_name 7 rfl (by nofun)) (dd_cons (dv_sub (dv_name 8 rfl (by nofun)) (dv_name 12 rfl (by nofun))) (dd_cons (dv_name 9 rfl (by nofun)) dd_nil))))))) dd_nil))) dd_nil)) rfl)))))))))

def C_lowest_terms : Ctr := fun ss μ s' μ' => ∃ t b : Int, ss = [.dat (.int t), .dat (.int b)] ∧ μ = [] ∧ s' = .dat (encF (low t b)) ∧ μ' = [] ∧ 0 < t ∧ t < 1000 ∧ 0 < b ∧ b < 39
theorem sc_lowest_terms : FnScope ["top", "bottom", "great", "small"] ["top", "bottom"] (defScope s_lowest_terms) := ⟨rfl, rfl, rfl, by decide +kernel, rfl, by decide +kernel, by decide +kernel⟩
theorem ok_lowest_terms {f : Addr} {fd : FuncData} (T : Tx mg K w) (F : Fun K "lowest_terms" "lowest_terms" s_lowest_terms f fd) (hm : mg "lowest_terms" = some (.ref f)) : FnD P w K mg base "lowest_terms" 1 C_lowest_terms := by
  refine fnD F hm sc_lowest_terms (fun _ _ _ _ _ _ us hl => match us, hl with | [_, _], _ => rfl) (fun ss μ s' μ' h => ?_) (fun cdv A outer s H E c hr ss μ s' μ' h hm0 => ?_)
  · obtain ⟨t, b, rfl, rfl, rfl, rfl, ht, ht2, hb, hb2⟩ := h; rfl
  · obtain ⟨t, b, rfl, rfl, rfl, rfl, ht, ht2, hb, hb2⟩ := h
    have hN := sc_lowest_terms.nd
    have hu := hr.units
    have hg := gcd_pos 40 t b ht ht2 (by omega) (by omega)
    exact dxs_cons (ρ1 := [_, _, _, _]) (dx_par2 (i := 2) (j := 3) rfl sc_lowest_terms.nd (da_cons (dv_name 0 rfl (by nofun)) (da_cons (dv_name 1 rfl (by nofun)) da_nil))) (
      dxs_cons (ρ1 := [.dat (.int t), .dat (.int b), .dat (.int (gcdN 40 t b)), .no]) (dx_while PassesOwn.never (fun n ρ μ => ∃ (g s : Int) (k : Nat), ρ = [.dat (.int t), .dat (.int b), .dat (.int g), .dat (.int s)] ∧ μ = [] ∧ n = s.toNat ∧ 0 ≤ s ∧ gcdN k g s = gcdN 40 t b ∧ s.toNat < k) b.toNat ⟨t, b, 40, rfl, rfl, rfl, by omega, rfl, by omega⟩
        (fun n ρ1 μ' h => by
          obtain ⟨g, s, k, rfl, rfl, rfl, h1, h2, h3⟩ := h
          refine ⟨decide (0 < s), dt_cmp (dv_name 3 rfl (by nofun)) dv_int (c_gt _ _), fun z => ?_, fun z => ?_⟩
          · have z := of_decide_eq_true z
            obtain ⟨k, rfl⟩ : ∃ k', k = k' + 1 := ⟨k - 1, by omega⟩
            have e := emod_toNat (g := g) z
            rw [gcd_go k g s z] at h2
            exact ⟨.nx [_, _, _, _] [], dxs_one (dx_par2 (i := 2) (j := 3) rfl sc_lowest_terms.nd (da_cons (dv_name 3 rfl (by nofun)) (da_cons (dv_mod (dv_name 2 rfl (by nofun)) (dv_name 3 rfl (by nofun)) z) da_nil))), [_, _, _, _], Fg.refl _, (g % s).toNat, e.2, s, g % s, k, rfl, rfl, rfl, e.1, h2, by omega⟩
          · have z := of_decide_eq_false z
            rw [gcd_end k g s z] at h2
            subst h2
            exact ⟨[_, _, _, .no], ⟨.inr rfl, .inr rfl, .inr rfl, .inl rfl, trivial⟩, rfl⟩)) (
      dxs_one (dx_retIs (dv_tup (dd_cons (dv_fdiv (dv_name 0 rfl (by nofun)) (dv_name 2 rfl (by nofun)) ⟨hg.1, by omega⟩) (dd_cons (dv_fdiv (dv_name 1 rfl (by nofun)) (dv_name 2 rfl (by nofun)) ⟨hg.1, by omega⟩) dd_nil))) rfl)))

def C_chances_at : Ctr := fun ss μ s' μ' => ∃ (q : Qt) (d : F8) (s : Stt), ss = [.dat (Row.ifc q d).step, .dat (encS s)] ∧ μ = [] ∧ s' = .dat (.list ((chAt q s).map encF)) ∧ μ' = [] ∧ near s
theorem sc_chances_at : FnScope ["step", "state", "row", "low", "high", "is_open", "size", "has_part", "times", "ends_here", "end"] ["step", "state"] (defScope s_chances_at) := ⟨rfl, rfl, rfl, by decide +kernel, rfl, by decide +kernel, by decide +kernel⟩
theorem ok_chances_at {f : Addr} {fd : FuncData} (T : Tx mg K w) (F : Fun K "chances_at" "chances_at" s_chances_at f fd) (hm : mg "chances_at" = some (.ref f)) (F_lowest_terms : FnD P w K mg base "lowest_terms" 1 C_lowest_terms) : FnD P w K mg base "chances_at" 2 C_chances_at := by
  refine fnD F hm sc_chances_at (fun _ _ _ _ _ _ us hl => match us, hl with | [_, _], _ => rfl) (fun ss μ s' μ' h => ?_) (fun cdv A outer s H E c hr ss μ s' μ' h hm0 => ?_)
  · obtain ⟨q, d, s, rfl, rfl, rfl, rfl, hs⟩ := h; rfl
  · obtain ⟨q, d, s, rfl, rfl, rfl, rfl, hs⟩ := h
    have hN := sc_chances_at.nd
    have hu := hr.units
    by_cases g1 : tms q s.j ≤ s.a
    · rw [ch_0 g1]
      exact dxs_cons (ρ1 := [_, _, _, _, _, _, _, _, _, _, _]) (dx_asg (dv_name 1 rfl (by nofun)) (dg_tup rfl (dgs_cons (dg_name (i := 2) sc_chances_at.nd) (dgs_cons (dg_name (i := 3) sc_chances_at.nd) (dgs_cons (dg_name (i := 4) sc_chances_at.nd) (dgs_cons (dg_name (i := 5) sc_chances_at.nd) (dgs_cons (dg_name (i := 6) sc_chances_at.nd) (dgs_cons (dg_name (i := 7) sc_chances_at.nd) dgs_nil)))))))) (
      dxs_cons (ρ1 := [_, _, _, _, _, _, _, _, _, _, _]) (dx_set (i := 8) (dv_is (s1 := .dat (.int (tms q s.j))) (dv_ifN (dt_cmp (dv_ixT (dv_name 0 rfl (by nofun)) dv_int rfl) (dv_gI T.fit) (c_eqI _ _)) (dv_name 6 rfl (by nofun)) (dv_ixT (dv_name 0 rfl (by nofun)) dv_int rfl)) rfl) sc_chances_at.nd) (
      dxs_stop (dx_if (dt_is (k1 := true) (dt_cmp (dv_name 8 rfl (by nofun)) (dv_name 3 rfl (by nofun)) (c_le _ _)) (decide_eq_true g1)) (fun _ => dxs_one (dx_retIs (dv_lst (dd_cons (dv_tup (dd_cons dv_int (dd_cons dv_int dd_nil))) dd_nil)) rfl)) (fun h => absurd h (by decide +kernel))) trivial))
    · by_cases g2 : s.b + bi s.x ≤ tms q s.j
      · rw [ch_1 g1 g2]
        exact dxs_cons (ρ1 := [_, _, _, _, _, _, _, _, _, _, _]) (dx_asg (dv_name 1 rfl (by nofun)) (dg_tup rfl (dgs_cons (dg_name (i := 2) sc_chances_at.nd) (dgs_cons (dg_name (i := 3) sc_chances_at.nd) (dgs_cons (dg_name (i := 4) sc_chances_at.nd) (dgs_cons (dg_name (i := 5) sc_chances_at.nd) (dgs_cons (dg_name (i := 6) sc_chances_at.nd) (dgs_cons (dg_name (i := 7) sc_chances_at.nd) dgs_nil)))))))) (
      dxs_cons (ρ1 := [_, _, _, _, _, _, _, _, _, _, _]) (dx_set (i := 8) (dv_is (s1 := .dat (.int (tms q s.j))) (dv_ifN (dt_cmp (dv_ixT (dv_name 0 rfl (by nofun)) dv_int rfl) (dv_gI T.fit) (c_eqI _ _)) (dv_name 6 rfl (by nofun)) (dv_ixT (dv_name 0 rfl (by nofun)) dv_int rfl)) rfl) sc_chances_at.nd) (
      dxs_guard (dt_is (k1 := false) (dt_cmp (dv_name 8 rfl (by nofun)) (dv_name 3 rfl (by nofun)) (c_le _ _)) (decide_eq_false g1)) (fun h => absurd h (by first | decide +kernel | rfl)) (fun _ =>
      dxs_stop (dx_if (dt_is (k1 := true) (dt_cmp (dv_name 8 rfl (by nofun)) (dv_add (dv_name 4 rfl (by nofun)) (dv_intB T.int (dv_name 5 rfl (by nofun)))) (c_ge _ _)) (decide_eq_true g2)) (fun _ => dxs_one (dx_retIs (dv_lst (dd_cons (dv_tup (dd_cons dv_int (dd_cons dv_int dd_nil))) dd_nil)) rfl)) (fun h => absurd h (by decide +kernel))) trivial)))
      · have ht := tms_le (q := q) hs
        obtain ⟨r, a, b, x, j, y⟩ := s
        cases x
        · rw [ch_f g1 g2]
          refine dxs_cons (ρ1 := [_, _, _, _, _, _, _, _, _, _, _]) (dx_asg (dv_name 1 rfl (by nofun)) (dg_tup rfl (dgs_cons (dg_name (i := 2) sc_chances_at.nd) (dgs_cons (dg_name (i := 3) sc_chances_at.nd) (dgs_cons (dg_name (i := 4) sc_chances_at.nd) (dgs_cons (dg_name (i := 5) sc_chances_at.nd) (dgs_cons (dg_name (i := 6) sc_chances_at.nd) (dgs_cons (dg_name (i := 7) sc_chances_at.nd) dgs_nil)))))))) (
      dxs_cons (ρ1 := [_, _, _, _, _, _, _, _, _, _, _]) (dx_set (i := 8) (dv_is (s1 := .dat (.int (tms q j))) (dv_ifN (dt_cmp (dv_ixT (dv_name 0 rfl (by nofun)) dv_int rfl) (dv_gI T.fit) (c_eqI _ _)) (dv_name 6 rfl (by nofun)) (dv_ixT (dv_name 0 rfl (by nofun)) dv_int rfl)) rfl) sc_chances_at.nd) (
      dxs_guard (dt_is (k1 := false) (dt_cmp (dv_name 8 rfl (by nofun)) (dv_name 3 rfl (by nofun)) (c_le _ _)) (decide_eq_false g1)) (fun h => absurd h (by first | decide +kernel | rfl)) (fun _ =>
      dxs_guard (dt_is (k1 := false) (dt_cmp (dv_name 8 rfl (by nofun)) (dv_add (dv_name 4 rfl (by nofun)) (dv_intB T.int (dv_name 5 rfl (by nofun)))) (c_ge _ _)) (decide_eq_false g2)) (fun h => absurd h (by first | decide +kernel | rfl)) (fun _ =>
      dxs_cons (ρ1 := [_, _, _, _, _, _, _, _, _, _, _]) (dx_set (i := 9) (dv_if (dt_is (k1 := false) (dt_val (dv_name 5 rfl (by nofun))) rfl) (fun h => absurd h (by decide +kernel)) (fun _ => (dv_lst (dd_cons (dv_name 4 rfl (by nofun)) dd_nil)))) sc_chances_at.nd) (
      dxs_one (dx_retIs (dv_lcM (i := 10) rfl sc_chances_at.nd (blk_of (by rfl)) (di_lst (dv_name 9 rfl (by nofun))) (Nat.lt_of_le_of_lt (Nat.le_of_ble_eq_true rfl) (show 64 < sizeLine by decide)) trivial (f := chF (tms q j - a) a) (fun dd hdd c2 s0 H0 C cl fp => ?_) (fun _ _ _ _ _ => pg_name sc_chances_at.nd rfl (Or.inl rfl))) rfl))))))
          have k1 := hs.1; have k2 := hs.2.2.1; simp only [bi, if_true, Bool.false_eq_true, if_false] at k1 k2 g1 g2 ht
          obtain rfl : dd = PyData.int b := by simpa using hdd
          exact dv_fn F_lowest_terms (hr.mono (by decide)) (da_cons (dv_sub (dv_name 8 rfl (by nofun)) (dv_name 3 rfl (by nofun))) (da_cons (dv_sub (dv_name 10 rfl (by nofun)) (dv_name 3 rfl (by nofun))) da_nil)) ⟨tms q j - a, b - a, rfl, rfl, rfl, rfl, by omega, by omega, by omega, by omega⟩
        · rw [ch_t g1 g2]
          refine dxs_cons (ρ1 := [_, _, _, _, _, _, _, _, _, _, _]) (dx_asg (dv_name 1 rfl (by nofun)) (dg_tup rfl (dgs_cons (dg_name (i := 2) sc_chances_at.nd) (dgs_cons (dg_name (i := 3) sc_chances_at.nd) (dgs_cons (dg_name (i := 4) sc_chances_at.nd) (dgs_cons (dg_name (i := 5) sc_chances_at.nd) (dgs_cons (dg_name (i := 6) sc_chances_at.nd) (dgs_cons (dg_name (i := 7) sc_chances_at.nd) dgs_nil)))))))) (
      dxs_cons (ρ1 := [_, _, _, _, _, _, _, _, _, _, _]) (dx_set (i := 8) (dv_is (s1 := .dat (.int (tms q j))) (dv_ifN (dt_cmp (dv_ixT (dv_name 0 rfl (by nofun)) dv_int rfl) (dv_gI T.fit) (c_eqI _ _)) (dv_name 6 rfl (by nofun)) (dv_ixT (dv_name 0 rfl (by nofun)) dv_int rfl)) rfl) sc_chances_at.nd) (
      dxs_guard (dt_is (k1 := false) (dt_cmp (dv_name 8 rfl (by nofun)) (dv_name 3 rfl (by nofun)) (c_le _ _)) (decide_eq_false g1)) (fun h => absurd h (by first | decide +kernel | rfl)) (fun _ =>
      dxs_guard (dt_is (k1 := false) (dt_cmp (dv_name 8 rfl (by nofun)) (dv_add (dv_name 4 rfl (by nofun)) (dv_intB T.int (dv_name 5 rfl (by nofun)))) (c_ge _ _)) (decide_eq_false g2)) (fun h => absurd h (by first | decide +kernel | rfl)) (fun _ =>
      dxs_cons (ρ1 := [_, _, _, _, _, _, _, _, _, _, _]) (dx_set (i := 9) (dv_if (dt_is (k1 := true) (dt_val (dv_name 5 rfl (by nofun))) rfl) (fun _ => (dv_lst (dd_cons (dv_name 4 rfl (by nofun)) (dd_cons (dv_add (dv_name 4 rfl (by nofun)) dv_int) dd_nil)))) (fun h => absurd h (by decide +kernel))) sc_chances_at.nd) (
      dxs_one (dx_retIs (dv_lcM (i := 10) rfl sc_chances_at.nd (blk_of (by rfl)) (di_lst (dv_name 9 rfl (by nofun))) (Nat.lt_of_le_of_lt (Nat.le_of_ble_eq_true rfl) (show 64 < sizeLine by decide)) trivial (f := chF (tms q j - a) a) (fun dd hdd c2 s0 H0 C cl fp => ?_) (fun _ _ _ _ _ => pg_name sc_chances_at.nd rfl (Or.inl rfl))) rfl))))))
          have k1 := hs.1; have k2 := hs.2.2.1; simp only [bi, if_true, Bool.false_eq_true, if_false] at k1 k2 g1 g2 ht
          rcases (by simpa using hdd : dd = PyData.int b ∨ dd = PyData.int (b + 1)) with rfl | rfl
          · exact dv_fn F_lowest_terms (hr.mono (by decide)) (da_cons (dv_sub (dv_name 8 rfl (by nofun)) (dv_name 3 rfl (by nofun))) (da_cons (dv_sub (dv_name 10 rfl (by nofun)) (dv_name 3 rfl (by nofun))) da_nil)) ⟨tms q j - a, b - a, rfl, rfl, rfl, rfl, by omega, by omega, by omega, by omega⟩
          · exact dv_fn F_lowest_terms (hr.mono (by decide)) (da_cons (dv_sub (dv_name 8 rfl (by nofun)) (dv_name 3 rfl (by nofun))) (da_cons (dv_sub (dv_name 10 rfl (by nofun)) (dv_name 3 rfl (by nofun))) da_nil)) ⟨tms q j - a, b + 1 - a, rfl, rfl, rfl, rfl, by omega, by omega, by omega, by omega⟩

end
end Dr
set_option maxHeartbeats 4000000
/-! M3: spots (row, A, B, v) with a written n. -/
namespace Dr
open PySem PySem.Spec PyProof.Rows L2
structure Spot where
  row : Int
  a : Int
  b : Int
  v : Int
  deriving DecidableEq
def encP (s : Spot) : PyData := .tuple [.int s.row, .int s.a, .int s.b, .int s.v]
def szL (q : Qt) (n v : Int) : Int := n * (if q.val = 0 then v / n else q.val)
def farL (n a v : Int) : Bool := decide (a < -8 * n) || (decide (8 * n < a) || (decide (v < -8 * n) || decide (8 * n < v)))
def wideL (n : Int) (s : Spot) : Bool := farL n s.a s.v || farL n (s.b - 1) s.v
/-- goal, first, later -/
def goesL (r : Row) (i n a v : Int) : Int × Int × Int := match r with
  | .go d => (d.val, a, v)
  | .ifv q d => (if v < szL q n v then d.val else i + 1, a, v)
  | .lessB q => (i + 1, a - szL q n v, v - szL q n v)
  | .lessC q => (i + 1, a - szL q n v, v)
  | .lessV q => (i + 1, a, v - szL q n v)
  | _ => (0, 0, 0)
def nextL (r : Row) (n : Int) (s : Spot) : List Spot := match r with
  | .take => [⟨s.row + 1, 2 * s.a, 2 * s.b, 2 * s.v⟩]
  | .again => [] | .giveC => [] | .giveR => []
  | .ifc q d => (if s.a < szL q n s.v then [(⟨d.val, s.a, if s.b < szL q n s.v then s.b else szL q n s.v, s.v⟩ : Spot)] else []) ++
      (if szL q n s.v < s.b then [(⟨s.row + 1, if szL q n s.v < s.a then s.a else szL q n s.v, s.b, s.v⟩ : Spot)] else [])
  | r => [⟨(goesL r s.row n s.a s.v).1, (goesL r s.row n s.a s.v).2.1, (goesL r s.row n s.a s.v).2.1 + s.b - s.a, (goesL r s.row n s.a s.v).2.2⟩]
def isGoes : Row → Bool
  | .go _ | .ifv _ _ | .lessB _ | .lessC _ | .lessV _ => true
  | _ => false
theorem next_goes {r : Row} (h : isGoes r = true) (n : Int) (s : Spot) : nextL r n s = [⟨(goesL r s.row n s.a s.v).1, (goesL r s.row n s.a s.v).2.1, (goesL r s.row n s.a s.v).2.1 + s.b - s.a, (goesL r s.row n s.a s.v).2.2⟩] := by
  cases r <;> first | rfl | cases h
theorem next_ifc (q : Qt) (d : F8) (n : Int) (s : Spot) : nextL (.ifc q d) n s = (if s.a < szL q n s.v then [(⟨d.val, s.a, if s.b < szL q n s.v then s.b else szL q n s.v, s.v⟩ : Spot)] else []) ++
      (if szL q n s.v < s.b then [(⟨s.row + 1, if szL q n s.v < s.a then s.a else szL q n s.v, s.b, s.v⟩ : Spot)] else []) := rfl
theorem nifc_tt {q : Qt} {d : F8} {n : Int} {s : Spot} (h1 : s.a < szL q n s.v) (h2 : szL q n s.v < s.b) : (nextL (.ifc q d) n s).map encP = [.tuple [.int (d.val : Int), .int s.a, .int (if s.b < szL q n s.v then s.b else szL q n s.v), .int s.v], .tuple [.int (s.row + 1), .int (if szL q n s.v < s.a then s.a else szL q n s.v), .int s.b, .int s.v]] := by
  rw [next_ifc, if_pos h1, if_pos h2]; rfl
theorem nifc_tf {q : Qt} {d : F8} {n : Int} {s : Spot} (h1 : s.a < szL q n s.v) (h2 : ¬ szL q n s.v < s.b) : (nextL (.ifc q d) n s).map encP = [.tuple [.int (d.val : Int), .int s.a, .int (if s.b < szL q n s.v then s.b else szL q n s.v), .int s.v]] := by
  rw [next_ifc, if_pos h1, if_neg h2]; rfl
theorem nifc_ft {q : Qt} {d : F8} {n : Int} {s : Spot} (h1 : ¬ s.a < szL q n s.v) (h2 : szL q n s.v < s.b) : (nextL (.ifc q d) n s).map encP = [.tuple [.int (s.row + 1), .int (if szL q n s.v < s.a then s.a else szL q n s.v), .int s.b, .int s.v]] := by
  rw [next_ifc, if_neg h1, if_pos h2]; rfl
theorem nifc_ff {q : Qt} {d : F8} {n : Int} {s : Spot} (h1 : ¬ s.a < szL q n s.v) (h2 : ¬ szL q n s.v < s.b) : (nextL (.ifc q d) n s).map encP = [] := by
  rw [next_ifc, if_neg h1, if_neg h2]; rfl
theorem lifc_tt (q : Qt) (d : F8) (s : Stt) (h1 : s.a < tms q s.j) (h2 : tms q s.j < s.b + bi s.x) : tl (.ifc q d) s = [.tuple [.int (d.val : Int), .int s.a, .int (tms q s.j), .bool false, .int s.j, .bool s.y], .tuple [.int (s.row + 1), .int (tms q s.j), .int s.b, .bool s.x, .int s.j, .bool s.y]] := by
  rw [ifc_tt q d s h1 h2, if_pos h1]
theorem lifc_ft (q : Qt) (d : F8) (s : Stt) (h1 : ¬ s.a < tms q s.j) (h2 : tms q s.j < s.b + bi s.x) : tl (.ifc q d) s = [.tuple [.int (s.row + 1), .int (if tms q s.j < s.a then s.a else tms q s.j), .int s.b, .bool s.x, .int s.j, .bool s.y]] := by
  rw [ifc_ft q d s h1 h2]
  have : (if tms q s.j > s.a then tms q s.j else s.a) = (if tms q s.j < s.a then s.a else tms q s.j) := by
    rw [if_neg h1]
    split <;> omega
  rw [this]
end Dr
set_option maxHeartbeats 4000000
namespace Dr
open PySem PySem.Spec PyProof.Rows L2
section
variable {P : Program} {w : World} {K : PySem.W.Frag} {mg : Str → Option Value} {base : Heap}

def C_law_size : Ctr := fun ss μ s' μ' => ∃ (q : Qt) (n v : Int), ss = [.dat (.str q.txt), .dat (.int n), .dat (.int v)] ∧ μ = [] ∧ s' = .dat (.int (szL q n v)) ∧ μ' = [] ∧ 0 < n ∧ n < 1000
theorem sc_law_size : FnScope ["_law_word", "_law_number", "_law_full"] ["_law_word", "_law_number", "_law_full"] (defScope s_law_size) := ⟨rfl, rfl, rfl, by decide +kernel, rfl, by decide +kernel, by decide +kernel⟩
theorem ok_law_size {f : Addr} {fd : FuncData} (T : Tx mg K w) (F : Fun K "_law_size" "_law_size" s_law_size f fd) (hm : mg "_law_size" = some (.ref f)) : FnD P w K mg base "_law_size" 1 C_law_size := by
  refine fnD F hm sc_law_size (fun _ _ _ _ _ _ us hl => match us, hl with | [_, _, _], _ => rfl) (fun ss μ s' μ' h => ?_) (fun cdv A outer s H E c hr ss μ s' μ' h hm0 => ?_)
  · obtain ⟨q, n, v, rfl, rfl, rfl, rfl, h1, h2⟩ := h; rfl
  · obtain ⟨q, n, v, rfl, rfl, rfl, rfl, h1, h2⟩ := h
    have hN := sc_law_size.nd
    have hu := hr.units
    cases q with
    | n1 =>
      exact dxs_guard (dt_cmp (dv_name 0 rfl (by nofun)) dv_str (c_eqS _ _)) (fun h => absurd h (by first | decide +kernel | rfl)) (fun _ =>
      dxs_one (dx_retIs (dv_mul (dv_name 1 rfl (by nofun)) (dv_if (dt_cmp (dv_name 0 rfl (by nofun)) dv_str (c_eqS _ _)) (fun _ => dv_int) (fun h => absurd h (by decide +kernel))) (.inl ⟨by omega, by omega⟩)) rfl))
    | n2 =>
      exact dxs_guard (dt_cmp (dv_name 0 rfl (by nofun)) dv_str (c_eqS _ _)) (fun h => absurd h (by first | decide +kernel | rfl)) (fun _ =>
      dxs_one (dx_retIs (dv_mul (dv_name 1 rfl (by nofun)) (dv_if (dt_cmp (dv_name 0 rfl (by nofun)) dv_str (c_eqS _ _)) (fun h => absurd h (by decide +kernel)) (fun _ => (dv_intS T.int (dv_ixS (dv_name 0 rfl (by nofun)) dv_int (by decide) rfl) (show PySem.intText? _ = some 2 by decide +kernel) (by decide)))) (.inl ⟨by omega, by omega⟩)) rfl))
    | n3 =>
      exact dxs_guard (dt_cmp (dv_name 0 rfl (by nofun)) dv_str (c_eqS _ _)) (fun h => absurd h (by first | decide +kernel | rfl)) (fun _ =>
      dxs_one (dx_retIs (dv_mul (dv_name 1 rfl (by nofun)) (dv_if (dt_cmp (dv_name 0 rfl (by nofun)) dv_str (c_eqS _ _)) (fun h => absurd h (by decide +kernel)) (fun _ => (dv_intS T.int (dv_ixS (dv_name 0 rfl (by nofun)) dv_int (by decide) rfl) (show PySem.intText? _ = some 3 by decide +kernel) (by decide)))) (.inl ⟨by omega, by omega⟩)) rfl))
    | n4 =>
      exact dxs_guard (dt_cmp (dv_name 0 rfl (by nofun)) dv_str (c_eqS _ _)) (fun h => absurd h (by first | decide +kernel | rfl)) (fun _ =>
      dxs_one (dx_retIs (dv_mul (dv_name 1 rfl (by nofun)) (dv_if (dt_cmp (dv_name 0 rfl (by nofun)) dv_str (c_eqS _ _)) (fun h => absurd h (by decide +kernel)) (fun _ => (dv_intS T.int (dv_ixS (dv_name 0 rfl (by nofun)) dv_int (by decide) rfl) (show PySem.intText? _ = some 4 by decide +kernel) (by decide)))) (.inl ⟨by omega, by omega⟩)) rfl))
    | fit =>
      exact dxs_stop (dx_if (dt_cmp (dv_name 0 rfl (by nofun)) dv_str (c_eqS _ _)) (fun _ => dxs_one (dx_retIs (dv_mul (dv_name 1 rfl (by nofun)) (dv_intI T.int (dv_fdiv (dv_name 2 rfl (by nofun)) (dv_name 1 rfl (by nofun)) ⟨h1, by omega⟩)) (.inl ⟨by omega, by omega⟩)) rfl)) (fun h => absurd h (by decide +kernel))) trivial

def C_law_is_far : Ctr := fun ss μ s' μ' => ∃ n a v : Int, ss = [.dat (.int n), .dat (.int a), .dat (.int v)] ∧ μ = [] ∧ s' = .dat (.bool (farL n a v)) ∧ μ' = []
theorem sc_law_is_far : FnScope ["_law_number", "_law_low", "_law_full"] ["_law_number", "_law_low", "_law_full"] (defScope s_law_is_far) := ⟨rfl, rfl, rfl, by decide +kernel, rfl, by decide +kernel, by decide +kernel⟩
theorem ok_law_is_far {f : Addr} {fd : FuncData} (T : Tx mg K w) (F : Fun K "_law_is_far" "_law_is_far" s_law_is_far f fd) (hm : mg "_law_is_far" = some (.ref f)) : FnD P w K mg base "_law_is_far" 1 C_law_is_far := by
  refine fnD F hm sc_law_is_far (fun _ _ _ _ _ _ us hl => match us, hl with | [_, _, _], _ => rfl) (fun ss μ s' μ' h => ?_) (fun cdv A outer s H E c hr ss μ s' μ' h hm0 => ?_)
  · obtain ⟨n, a, v, rfl, rfl, rfl, rfl⟩ := h; rfl
  · obtain ⟨n, a, v, rfl, rfl, rfl, rfl⟩ := h
    have hN := sc_law_is_far.nd
    have hu := hr.units
    exact dxs_one (dx_retIs (dv_or (dv_cmp (dv_name 1 rfl (by nofun)) (dv_mul (dv_neg dv_int) (dv_name 0 rfl (by nofun)) (by first | exact .inl ⟨by decide, by decide⟩ | exact .inr ⟨by decide, by decide⟩ | exact .inl ⟨by omega, by omega⟩ | exact .inr ⟨by omega, by omega⟩)) (c_lt _ _)) fun hb0 => (dv_or (dv_cmp (dv_name 1 rfl (by nofun)) (dv_mul dv_int (dv_name 0 rfl (by nofun)) (by first | exact .inl ⟨by decide, by decide⟩ | exact .inr ⟨by decide, by decide⟩ | exact .inl ⟨by omega, by omega⟩ | exact .inr ⟨by omega, by omega⟩)) (c_gt _ _)) fun hb1 => (dv_or (dv_cmp (dv_name 2 rfl (by nofun)) (dv_mul (dv_neg dv_int) (dv_name 0 rfl (by nofun)) (by first | exact .inl ⟨by decide, by decide⟩ | exact .inr ⟨by decide, by decide⟩ | exact .inl ⟨by omega, by omega⟩ | exact .inr ⟨by omega, by omega⟩)) (c_lt _ _)) fun hb2 => (dv_one (dv_cmp (dv_name 2 rfl (by nofun)) (dv_mul dv_int (dv_name 0 rfl (by nofun)) (by first | exact .inl ⟨by decide, by decide⟩ | exact .inr ⟨by decide, by decide⟩ | exact .inl ⟨by omega, by omega⟩ | exact .inr ⟨by omega, by omega⟩)) (c_gt _ _)))))) rfl)

def C_law_is_wide_spot : Ctr := fun ss μ s' μ' => ∃ (n : Int) (s : Spot), ss = [.dat (.int n), .dat (encP s)] ∧ μ = [] ∧ s' = .dat (.bool (wideL n s)) ∧ μ' = []
theorem sc_law_is_wide_spot : FnScope ["_law_number", "_law_spot"] ["_law_number", "_law_spot"] (defScope s_law_is_wide_spot) := ⟨rfl, rfl, rfl, by decide +kernel, rfl, by decide +kernel, by decide +kernel⟩
theorem ok_law_is_wide_spot {f : Addr} {fd : FuncData} (T : Tx mg K w) (F : Fun K "_law_is_wide_spot" "_law_is_wide_spot" s_law_is_wide_spot f fd) (hm : mg "_law_is_wide_spot" = some (.ref f)) (F_law_is_far : FnD P w K mg base "_law_is_far" 1 C_law_is_far) : FnD P w K mg base "_law_is_wide_spot" 2 C_law_is_wide_spot := by
  refine fnD F hm sc_law_is_wide_spot (fun _ _ _ _ _ _ us hl => match us, hl with | [_, _], _ => rfl) (fun ss μ s' μ' h => ?_) (fun cdv A outer s H E c hr ss μ s' μ' h hm0 => ?_)
  · obtain ⟨n, s, rfl, rfl, rfl, rfl⟩ := h; rfl
  · obtain ⟨n, s, rfl, rfl, rfl, rfl⟩ := h
    have hN := sc_law_is_wide_spot.nd
    have hu := hr.units
    exact dxs_guard (dt_val (dv_fn F_law_is_far (hr.mono (by decide)) (da_cons (dv_name 0 rfl (by nofun)) (da_cons (dv_ixT (dv_name 1 rfl (by nofun)) dv_int rfl) (da_cons (dv_ixT (dv_name 1 rfl (by nofun)) dv_int rfl) da_nil))) ⟨n, s.a, s.v, rfl, rfl, rfl, rfl⟩)) (fun hT => ⟨dxs_one (dx_retIs dv_bl (by first | (unfold wideL; rw [hT]; rfl) | (unfold wideL; rw [hF]; rfl))), trivial⟩) (fun hF =>
      dxs_one (dx_retIs (dv_fn F_law_is_far (hr.mono (by decide)) (da_cons (dv_name 0 rfl (by nofun)) (da_cons (dv_sub (dv_ixT (dv_name 1 rfl (by nofun)) dv_int rfl) dv_int) (da_cons (dv_ixT (dv_name 1 rfl (by nofun)) dv_int rfl) da_nil))) ⟨n, s.b - 1, s.v, rfl, rfl, rfl, rfl⟩) (by first | (unfold wideL; rw [hT]; rfl) | (unfold wideL; rw [hF]; rfl))))

def C_law_goes : Ctr := fun ss μ s' μ' => ∃ (p : List Row) (r : Row) (i n a v : Int), ss = [.dat (.list (texts p)), .dat (.int i), .dat (.int n), .dat (.int a), .dat (.int v)] ∧ μ = [] ∧ s' = .dat (.list [.int (goesL r i n a v).1, .int (goesL r i n a v).2.1, .int (goesL r i n a v).2.2]) ∧ μ' = [] ∧ isGoes r = true ∧ 0 ≤ i ∧ i < p.length ∧ r = rowAt p i ∧ 0 < n ∧ n < 1000
theorem sc_law_goes : FnScope ["_law_lines", "_law_row_at", "_law_number", "_law_low", "_law_full", "_law_words", "_law_held", "_law_size_here", "_law_lower"] ["_law_lines", "_law_row_at", "_law_number", "_law_low", "_law_full"] (defScope s_law_goes) := ⟨rfl, rfl, rfl, by decide +kernel, rfl, by decide +kernel, by decide +kernel⟩
theorem ok_law_goes {f : Addr} {fd : FuncData} (T : Tx mg K w) (F : Fun K "_law_goes" "_law_goes" s_law_goes f fd) (hm : mg "_law_goes" = some (.ref f)) (F_law_size : FnD P w K mg base "_law_size" 1 C_law_size) : FnD P w K mg base "_law_goes" 2 C_law_goes := by
  refine fnD F hm sc_law_goes (fun _ _ _ _ _ _ us hl => match us, hl with | [_, _, _, _, _], _ => rfl) (fun ss μ s' μ' h => ?_) (fun cdv A outer s H E c hr ss μ s' μ' h hm0 => ?_)
  · obtain ⟨p, r, i, n, a, v, rfl, rfl, rfl, rfl, hg, hi0, hi1, hre, hn0, hn1⟩ := h; rfl
  · obtain ⟨p, r, i, n, a, v, rfl, rfl, rfl, rfl, hg, hi0, hi1, hre, hn0, hn1⟩ := h
    have hN := sc_law_goes.nd
    have hu := hr.units
    have hst := texts_atI hi0 hi1
    rw [← hre] at hst
    clear hre
    cases r with
    | take => cases hg
    | again => cases hg
    | giveC => cases hg
    | giveR => cases hg
    | go d =>
      exact dxs_cons (ρ1 := [_, _, _, _, _, _, _, _, _]) (dx_set (i := 5) (dv_is (s1 := .dat (strL (Row.words (.go d : Row)))) (dv_split (dv_ixL (ds := texts p) (dv_name 0 rfl (by nofun)) (dv_name 1 rfl (by nofun)) hst) dv_str (by decide) (Nat.le_trans (Nat.add_le_add_right (txt_len _) 2) (show 22 ≤ sizeLine by decide))) (by rw [split_txt]; rfl)) sc_law_goes.nd) (
        dxs_stop (dx_if (dt_cmp (dv_ixL (dv_name 5 rfl (by nofun)) dv_int rfl) dv_str (c_eqS _ _)) (fun _ => dxs_one (dx_retIs (dv_lst (dd_cons (dv_intS T.int (dv_ixL (dv_name 5 rfl (by nofun)) dv_int rfl) (dig_int _) (show 1 ≤ 640 by decide)) (dd_cons (dv_name 3 rfl (by nofun)) (dd_cons (dv_name 4 rfl (by nofun)) dd_nil)))) rfl)) (fun h => absurd h (by decide +kernel))) trivial)
    | ifc q d => cases hg
    | ifv q d =>
      exact dxs_cons (ρ1 := [_, _, _, _, _, _, _, _, _]) (dx_set (i := 5) (dv_is (s1 := .dat (strL (Row.words (.ifv q d : Row)))) (dv_split (dv_ixL (ds := texts p) (dv_name 0 rfl (by nofun)) (dv_name 1 rfl (by nofun)) hst) dv_str (by decide) (Nat.le_trans (Nat.add_le_add_right (txt_len _) 2) (show 22 ≤ sizeLine by decide))) (by rw [split_txt]; rfl)) sc_law_goes.nd) (
        dxs_guard (dt_cmp (dv_ixL (dv_name 5 rfl (by nofun)) dv_int rfl) dv_str (c_eqS _ _)) (fun h => absurd h (by first | decide +kernel | rfl)) (fun _ =>
        dxs_stop (dx_if (dt_cmp (dv_ixL (dv_name 5 rfl (by nofun)) dv_int rfl) dv_str (c_eqS _ _)) (fun _ => dxs_cons (ρ1 := [_, _, _, _, _, _, _, _, _]) (dx_set (i := 6) (dv_if (dt_cmp (dv_ixL (dv_name 5 rfl (by nofun)) dv_int rfl) dv_str (c_eqS _ _)) (fun h => absurd h (by decide +kernel)) (fun _ => (dv_name 4 rfl (by nofun)))) sc_law_goes.nd) (
          dxs_one (dx_retIs (dv_lst (dd_cons (dv_ifN (dt_cmp (dv_name 6 rfl (by nofun)) (dv_fn F_law_size (hr.mono (by decide)) (da_cons (dv_ixL (dv_name 5 rfl (by nofun)) dv_int rfl) (da_cons (dv_name 2 rfl (by nofun)) (da_cons (dv_name 4 rfl (by nofun)) da_nil))) ⟨q, n, v, rfl, rfl, rfl, rfl, hn0, hn1⟩) (c_lt _ _)) (dv_intS T.int (dv_ixL (dv_name 5 rfl (by nofun)) dv_int rfl) (dig_int _) (show 1 ≤ 640 by decide)) (dv_add (dv_name 1 rfl (by nofun)) dv_int)) (dd_cons (dv_name 3 rfl (by nofun)) (dd_cons (dv_name 4 rfl (by nofun)) dd_nil)))) rfl))) (fun h => absurd h (by decide +kernel))) trivial))
    | lessB q =>
      exact dxs_cons (ρ1 := [_, _, _, _, _, _, _, _, _]) (dx_set (i := 5) (dv_is (s1 := .dat (strL (Row.words (.lessB q : Row)))) (dv_split (dv_ixL (ds := texts p) (dv_name 0 rfl (by nofun)) (dv_name 1 rfl (by nofun)) hst) dv_str (by decide) (Nat.le_trans (Nat.add_le_add_right (txt_len _) 2) (show 22 ≤ sizeLine by decide))) (by rw [split_txt]; rfl)) sc_law_goes.nd) (
        dxs_guard (dt_cmp (dv_ixL (dv_name 5 rfl (by nofun)) dv_int rfl) dv_str (c_eqS _ _)) (fun h => absurd h (by first | decide +kernel | rfl)) (fun _ =>
        dxs_guard (dt_cmp (dv_ixL (dv_name 5 rfl (by nofun)) dv_int rfl) dv_str (c_eqS _ _)) (fun h => absurd h (by first | decide +kernel | rfl)) (fun _ =>
        dxs_cons (ρ1 := [_, _, _, _, _, _, _, _, _]) (dx_set (i := 7) (dv_fn F_law_size (hr.mono (by decide)) (da_cons (dv_ixL (dv_name 5 rfl (by nofun)) (dv_neg dv_int) rfl) (da_cons (dv_name 2 rfl (by nofun)) (da_cons (dv_name 4 rfl (by nofun)) da_nil))) ⟨q, n, v, rfl, rfl, rfl, rfl, hn0, hn1⟩) sc_law_goes.nd) (
        dxs_cons (ρ1 := [_, _, _, _, _, _, _, _, _]) (dx_set (i := 8) (dv_if (dt_cmp (dv_ixL (dv_name 5 rfl (by nofun)) dv_int rfl) dv_str (c_eqS _ _)) (fun h => absurd h (by decide +kernel)) (fun _ => (dv_sub (dv_name 3 rfl (by nofun)) (dv_name 7 rfl (by nofun))))) sc_law_goes.nd) (
        dxs_one (dx_retIs (dv_lst (dd_cons (dv_add (dv_name 1 rfl (by nofun)) dv_int) (dd_cons (dv_name 8 rfl (by nofun)) (dd_cons (dv_if (dt_cmp (dv_ixL (dv_name 5 rfl (by nofun)) dv_int rfl) dv_str (c_eqS _ _)) (fun h => absurd h (by decide +kernel)) (fun _ => (dv_sub (dv_name 4 rfl (by nofun)) (dv_name 7 rfl (by nofun))))) dd_nil)))) rfl))))))
    | lessC q =>
      exact dxs_cons (ρ1 := [_, _, _, _, _, _, _, _, _]) (dx_set (i := 5) (dv_is (s1 := .dat (strL (Row.words (.lessC q : Row)))) (dv_split (dv_ixL (ds := texts p) (dv_name 0 rfl (by nofun)) (dv_name 1 rfl (by nofun)) hst) dv_str (by decide) (Nat.le_trans (Nat.add_le_add_right (txt_len _) 2) (show 22 ≤ sizeLine by decide))) (by rw [split_txt]; rfl)) sc_law_goes.nd) (
        dxs_guard (dt_cmp (dv_ixL (dv_name 5 rfl (by nofun)) dv_int rfl) dv_str (c_eqS _ _)) (fun h => absurd h (by first | decide +kernel | rfl)) (fun _ =>
        dxs_guard (dt_cmp (dv_ixL (dv_name 5 rfl (by nofun)) dv_int rfl) dv_str (c_eqS _ _)) (fun h => absurd h (by first | decide +kernel | rfl)) (fun _ =>
        dxs_cons (ρ1 := [_, _, _, _, _, _, _, _, _]) (dx_set (i := 7) (dv_fn F_law_size (hr.mono (by decide)) (da_cons (dv_ixL (dv_name 5 rfl (by nofun)) (dv_neg dv_int) rfl) (da_cons (dv_name 2 rfl (by nofun)) (da_cons (dv_name 4 rfl (by nofun)) da_nil))) ⟨q, n, v, rfl, rfl, rfl, rfl, hn0, hn1⟩) sc_law_goes.nd) (
        dxs_cons (ρ1 := [_, _, _, _, _, _, _, _, _]) (dx_set (i := 8) (dv_if (dt_cmp (dv_ixL (dv_name 5 rfl (by nofun)) dv_int rfl) dv_str (c_eqS _ _)) (fun h => absurd h (by decide +kernel)) (fun _ => (dv_sub (dv_name 3 rfl (by nofun)) (dv_name 7 rfl (by nofun))))) sc_law_goes.nd) (
        dxs_one (dx_retIs (dv_lst (dd_cons (dv_add (dv_name 1 rfl (by nofun)) dv_int) (dd_cons (dv_name 8 rfl (by nofun)) (dd_cons (dv_if (dt_cmp (dv_ixL (dv_name 5 rfl (by nofun)) dv_int rfl) dv_str (c_eqS _ _)) (fun _ => (dv_name 4 rfl (by nofun))) (fun h => absurd h (by decide +kernel))) dd_nil)))) rfl))))))
    | lessV q =>
      exact dxs_cons (ρ1 := [_, _, _, _, _, _, _, _, _]) (dx_set (i := 5) (dv_is (s1 := .dat (strL (Row.words (.lessV q : Row)))) (dv_split (dv_ixL (ds := texts p) (dv_name 0 rfl (by nofun)) (dv_name 1 rfl (by nofun)) hst) dv_str (by decide) (Nat.le_trans (Nat.add_le_add_right (txt_len _) 2) (show 22 ≤ sizeLine by decide))) (by rw [split_txt]; rfl)) sc_law_goes.nd) (
        dxs_guard (dt_cmp (dv_ixL (dv_name 5 rfl (by nofun)) dv_int rfl) dv_str (c_eqS _ _)) (fun h => absurd h (by first | decide +kernel | rfl)) (fun _ =>
        dxs_guard (dt_cmp (dv_ixL (dv_name 5 rfl (by nofun)) dv_int rfl) dv_str (c_eqS _ _)) (fun h => absurd h (by first | decide +kernel | rfl)) (fun _ =>
        dxs_cons (ρ1 := [_, _, _, _, _, _, _, _, _]) (dx_set (i := 7) (dv_fn F_law_size (hr.mono (by decide)) (da_cons (dv_ixL (dv_name 5 rfl (by nofun)) (dv_neg dv_int) rfl) (da_cons (dv_name 2 rfl (by nofun)) (da_cons (dv_name 4 rfl (by nofun)) da_nil))) ⟨q, n, v, rfl, rfl, rfl, rfl, hn0, hn1⟩) sc_law_goes.nd) (
        dxs_cons (ρ1 := [_, _, _, _, _, _, _, _, _]) (dx_set (i := 8) (dv_if (dt_cmp (dv_ixL (dv_name 5 rfl (by nofun)) dv_int rfl) dv_str (c_eqS _ _)) (fun _ => (dv_name 3 rfl (by nofun))) (fun h => absurd h (by decide +kernel))) sc_law_goes.nd) (
        dxs_one (dx_retIs (dv_lst (dd_cons (dv_add (dv_name 1 rfl (by nofun)) dv_int) (dd_cons (dv_name 8 rfl (by nofun)) (dd_cons (dv_if (dt_cmp (dv_ixL (dv_name 5 rfl (by nofun)) dv_int rfl) dv_str (c_eqS _ _)) (fun h => absurd h (by decide +kernel)) (fun _ => (dv_sub (dv_name 4 rfl (by nofun)) (dv_name 7 rfl (by nofun))))) dd_nil)))) rfl))))))

def C_law_next : Ctr := fun ss μ s' μ' => ∃ (p : List Row) (r : Row) (n : Int) (s : Spot), ss = [.dat (.list (texts p)), .dat (.int n), .dat (encP s)] ∧ μ = [] ∧ s' = .dat (.list ((nextL r n s).map encP)) ∧ μ' = [] ∧ 0 ≤ s.row ∧ s.row < p.length ∧ r = rowAt p s.row ∧ 0 < n ∧ n < 1000
theorem sc_law_next : FnScope ["_law_lines", "_law_number", "_law_spot", "_law_at", "_law_low", "_law_high", "_law_full", "_law_words", "_law_cut", "_law_some", "_law_goal", "_law_first", "_law_later"] ["_law_lines", "_law_number", "_law_spot"] (defScope s_law_next) := ⟨rfl, rfl, rfl, by decide +kernel, rfl, by decide +kernel, by decide +kernel⟩
theorem ok_law_next {f : Addr} {fd : FuncData} (T : Tx mg K w) (F : Fun K "_law_next" "_law_next" s_law_next f fd) (hm : mg "_law_next" = some (.ref f)) (F_law_size : FnD P w K mg base "_law_size" 1 C_law_size) (F_law_goes : FnD P w K mg base "_law_goes" 2 C_law_goes) : FnD P w K mg base "_law_next" 3 C_law_next := by
  refine fnD F hm sc_law_next (fun _ _ _ _ _ _ us hl => match us, hl with | [_, _, _], _ => rfl) (fun ss μ s' μ' h => ?_) (fun cdv A outer s H E c hr ss μ s' μ' h hm0 => ?_)
  · obtain ⟨p, r, n, s, rfl, rfl, rfl, rfl, hi0, hi1, hre, hn0, hn1⟩ := h; rfl
  · obtain ⟨p, r, n, s, rfl, rfl, rfl, rfl, hi0, hi1, hre, hn0, hn1⟩ := h
    have hN := sc_law_next.nd
    have hu := hr.units
    have h0 : c.m0 = [] := List.eq_nil_of_length_eq_zero hm0
    have hst := texts_atI hi0 hi1
    rw [← hre] at hst
    cases r with
    | take =>
      exact dxs_cons (ρ1 := [_, _, _, _, _, _, _, _, _, _, _, _, _]) (dx_asg (dv_name 2 rfl (by nofun)) (dg_tup rfl (dgs_cons (dg_name (i := 3) sc_law_next.nd) (dgs_cons (dg_name (i := 4) sc_law_next.nd) (dgs_cons (dg_name (i := 5) sc_law_next.nd) (dgs_cons (dg_name (i := 6) sc_law_next.nd) dgs_nil)))))) (
        dxs_cons (ρ1 := [_, _, _, _, _, _, _, _, _, _, _, _, _]) (dx_set (i := 7) (dv_is (s1 := .dat (strL (Row.words (.take : Row)))) (dv_split (dv_ixL (ds := texts p) (dv_name 0 rfl (by nofun)) (dv_name 3 rfl (by nofun)) hst) dv_str (by decide) (Nat.le_trans (Nat.add_le_add_right (txt_len _) 2) (show 22 ≤ sizeLine by decide))) (by rw [split_txt]; rfl)) sc_law_next.nd) (
        dxs_guard (dt_cmp (dv_ixL (dv_name 7 rfl (by nofun)) dv_int rfl) (dv_lst (dd_cons dv_str (dd_cons dv_str dd_nil))) (c_inL hu _ _ (by rfl) (by rfl) (Nat.le_trans (Nat.min_le_left _ _) (by decide +kernel)))) (fun h => absurd h (by first | decide +kernel | rfl)) (fun _ =>
        dxs_stop (dx_if (dt_cmp (dv_ixL (dv_name 7 rfl (by nofun)) dv_int rfl) dv_str (c_eqS _ _)) (fun _ => dxs_one (dx_retIs (dv_lst (dd_cons (dv_tup (dd_cons (dv_add (dv_name 3 rfl (by nofun)) dv_int) (dd_cons (dv_mul dv_int (dv_name 4 rfl (by nofun)) (by first | exact .inl ⟨by decide, by decide⟩ | exact .inr ⟨by decide, by decide⟩ | exact .inl ⟨by omega, by omega⟩ | exact .inr ⟨by omega, by omega⟩)) (dd_cons (dv_mul dv_int (dv_name 5 rfl (by nofun)) (by first | exact .inl ⟨by decide, by decide⟩ | exact .inr ⟨by decide, by decide⟩ | exact .inl ⟨by omega, by omega⟩ | exact .inr ⟨by omega, by omega⟩)) (dd_cons (dv_mul dv_int (dv_name 6 rfl (by nofun)) (by first | exact .inl ⟨by decide, by decide⟩ | exact .inr ⟨by decide, by decide⟩ | exact .inl ⟨by omega, by omega⟩ | exact .inr ⟨by omega, by omega⟩)) dd_nil))))) dd_nil)) rfl)) (fun h => absurd h (by decide +kernel))) trivial)))
    | again =>
      exact dxs_cons (ρ1 := [_, _, _, _, _, _, _, _, _, _, _, _, _]) (dx_asg (dv_name 2 rfl (by nofun)) (dg_tup rfl (dgs_cons (dg_name (i := 3) sc_law_next.nd) (dgs_cons (dg_name (i := 4) sc_law_next.nd) (dgs_cons (dg_name (i := 5) sc_law_next.nd) (dgs_cons (dg_name (i := 6) sc_law_next.nd) dgs_nil)))))) (
        dxs_cons (ρ1 := [_, _, _, _, _, _, _, _, _, _, _, _, _]) (dx_set (i := 7) (dv_is (s1 := .dat (strL (Row.words (.again : Row)))) (dv_split (dv_ixL (ds := texts p) (dv_name 0 rfl (by nofun)) (dv_name 3 rfl (by nofun)) hst) dv_str (by decide) (Nat.le_trans (Nat.add_le_add_right (txt_len _) 2) (show 22 ≤ sizeLine by decide))) (by rw [split_txt]; rfl)) sc_law_next.nd) (
        dxs_stop (dx_if (dt_cmp (dv_ixL (dv_name 7 rfl (by nofun)) dv_int rfl) (dv_lst (dd_cons dv_str (dd_cons dv_str dd_nil))) (c_inL hu _ _ (by rfl) (by rfl) (Nat.le_trans (Nat.min_le_left _ _) (by decide +kernel)))) (fun _ => dxs_one (dx_retIs (dv_lst dd_nil) rfl)) (fun h => absurd h (by decide +kernel))) trivial))
    | giveC =>
      exact dxs_cons (ρ1 := [_, _, _, _, _, _, _, _, _, _, _, _, _]) (dx_asg (dv_name 2 rfl (by nofun)) (dg_tup rfl (dgs_cons (dg_name (i := 3) sc_law_next.nd) (dgs_cons (dg_name (i := 4) sc_law_next.nd) (dgs_cons (dg_name (i := 5) sc_law_next.nd) (dgs_cons (dg_name (i := 6) sc_law_next.nd) dgs_nil)))))) (
        dxs_cons (ρ1 := [_, _, _, _, _, _, _, _, _, _, _, _, _]) (dx_set (i := 7) (dv_is (s1 := .dat (strL (Row.words (.giveC : Row)))) (dv_split (dv_ixL (ds := texts p) (dv_name 0 rfl (by nofun)) (dv_name 3 rfl (by nofun)) hst) dv_str (by decide) (Nat.le_trans (Nat.add_le_add_right (txt_len _) 2) (show 22 ≤ sizeLine by decide))) (by rw [split_txt]; rfl)) sc_law_next.nd) (
        dxs_stop (dx_if (dt_cmp (dv_ixL (dv_name 7 rfl (by nofun)) dv_int rfl) (dv_lst (dd_cons dv_str (dd_cons dv_str dd_nil))) (c_inL hu _ _ (by rfl) (by rfl) (Nat.le_trans (Nat.min_le_left _ _) (by decide +kernel)))) (fun _ => dxs_one (dx_retIs (dv_lst dd_nil) rfl)) (fun h => absurd h (by decide +kernel))) trivial))
    | giveR =>
      exact dxs_cons (ρ1 := [_, _, _, _, _, _, _, _, _, _, _, _, _]) (dx_asg (dv_name 2 rfl (by nofun)) (dg_tup rfl (dgs_cons (dg_name (i := 3) sc_law_next.nd) (dgs_cons (dg_name (i := 4) sc_law_next.nd) (dgs_cons (dg_name (i := 5) sc_law_next.nd) (dgs_cons (dg_name (i := 6) sc_law_next.nd) dgs_nil)))))) (
        dxs_cons (ρ1 := [_, _, _, _, _, _, _, _, _, _, _, _, _]) (dx_set (i := 7) (dv_is (s1 := .dat (strL (Row.words (.giveR : Row)))) (dv_split (dv_ixL (ds := texts p) (dv_name 0 rfl (by nofun)) (dv_name 3 rfl (by nofun)) hst) dv_str (by decide) (Nat.le_trans (Nat.add_le_add_right (txt_len _) 2) (show 22 ≤ sizeLine by decide))) (by rw [split_txt]; rfl)) sc_law_next.nd) (
        dxs_stop (dx_if (dt_cmp (dv_ixL (dv_name 7 rfl (by nofun)) dv_int rfl) (dv_lst (dd_cons dv_str (dd_cons dv_str dd_nil))) (c_inL hu _ _ (by rfl) (by rfl) (Nat.le_trans (Nat.min_le_left _ _) (by decide +kernel)))) (fun _ => dxs_one (dx_retIs (dv_lst dd_nil) rfl)) (fun h => absurd h (by decide +kernel))) trivial))
    | go d =>
      exact dxs_cons (ρ1 := [_, _, _, _, _, _, _, _, _, _, _, _, _]) (dx_asg (dv_name 2 rfl (by nofun)) (dg_tup rfl (dgs_cons (dg_name (i := 3) sc_law_next.nd) (dgs_cons (dg_name (i := 4) sc_law_next.nd) (dgs_cons (dg_name (i := 5) sc_law_next.nd) (dgs_cons (dg_name (i := 6) sc_law_next.nd) dgs_nil)))))) (
        dxs_cons (ρ1 := [_, _, _, _, _, _, _, _, _, _, _, _, _]) (dx_set (i := 7) (dv_is (s1 := .dat (strL (Row.words (.go d : Row)))) (dv_split (dv_ixL (ds := texts p) (dv_name 0 rfl (by nofun)) (dv_name 3 rfl (by nofun)) hst) dv_str (by decide) (Nat.le_trans (Nat.add_le_add_right (txt_len _) 2) (show 22 ≤ sizeLine by decide))) (by rw [split_txt]; rfl)) sc_law_next.nd) (
        dxs_guard (dt_cmp (dv_ixL (dv_name 7 rfl (by nofun)) dv_int rfl) (dv_lst (dd_cons dv_str (dd_cons dv_str dd_nil))) (c_inL hu _ _ (by rfl) (by rfl) (Nat.le_trans (Nat.min_le_left _ _) (by decide +kernel)))) (fun h => absurd h (by first | decide +kernel | rfl)) (fun _ =>
        dxs_guard (dt_cmp (dv_ixL (dv_name 7 rfl (by nofun)) dv_int rfl) dv_str (c_eqS _ _)) (fun h => absurd h (by first | decide +kernel | rfl)) (fun _ =>
        dxs_guard (dt_w (dw_and (k1 := false) (k2 := false) (dt_is (k1 := false) (dt_cmp (dv_ixL (dv_name 7 rfl (by nofun)) dv_int rfl) dv_str (c_eqS _ _)) (by first | decide +kernel | rfl)) (fun h => absurd h (by decide)))) (fun h => absurd h (by first | decide +kernel | rfl)) (fun _ =>
        dxs_cons (ρ1 := [_, _, _, _, _, _, _, _, _, _, _, _, _]) (dx_asg (dv_fn F_law_goes (hr.mono (by decide)) (da_cons (dv_name 0 rfl (by nofun)) (da_cons (dv_name 3 rfl (by nofun)) (da_cons (dv_name 1 rfl (by nofun)) (da_cons (dv_name 4 rfl (by nofun)) (da_cons (dv_name 6 rfl (by nofun)) da_nil))))) ⟨p, (.go d : Row), s.row, n, s.a, s.v, rfl, rfl, rfl, rfl, rfl, hi0, hi1, hre, hn0, hn1⟩) (dg_lst rfl (dgs_cons (dg_name (i := 10) sc_law_next.nd) (dgs_cons (dg_name (i := 11) sc_law_next.nd) (dgs_cons (dg_name (i := 12) sc_law_next.nd) dgs_nil))))) (
        dxs_one (dx_retIs (dv_lst (dd_cons (dv_tup (dd_cons (dv_name 10 rfl (by nofun)) (dd_cons (dv_name 11 rfl (by nofun)) (dd_cons (dv_sub (dv_add (dv_name 11 rfl (by nofun)) (dv_name 5 rfl (by nofun))) (dv_name 4 rfl (by nofun))) (dd_cons (dv_name 12 rfl (by nofun)) dd_nil))))) dd_nil)) rfl)))))))
    | ifc q d =>
      by_cases g1 : s.a < szL q n s.v <;> by_cases g2 : szL q n s.v < s.b
      · rw [nifc_tt g1 g2]
        exact dxs_cons (ρ1 := [_, _, _, _, _, _, _, _, _, _, _, _, _]) (dx_asg (dv_name 2 rfl (by nofun)) (dg_tup rfl (dgs_cons (dg_name (i := 3) sc_law_next.nd) (dgs_cons (dg_name (i := 4) sc_law_next.nd) (dgs_cons (dg_name (i := 5) sc_law_next.nd) (dgs_cons (dg_name (i := 6) sc_law_next.nd) dgs_nil)))))) (
          dxs_cons (ρ1 := [_, _, _, _, _, _, _, _, _, _, _, _, _]) (dx_set (i := 7) (dv_is (s1 := .dat (strL (Row.words (.ifc q d : Row)))) (dv_split (dv_ixL (ds := texts p) (dv_name 0 rfl (by nofun)) (dv_name 3 rfl (by nofun)) hst) dv_str (by decide) (Nat.le_trans (Nat.add_le_add_right (txt_len _) 2) (show 22 ≤ sizeLine by decide))) (by rw [split_txt]; rfl)) sc_law_next.nd) (
          dxs_guard (dt_cmp (dv_ixL (dv_name 7 rfl (by nofun)) dv_int rfl) (dv_lst (dd_cons dv_str (dd_cons dv_str dd_nil))) (c_inL hu _ _ (by rfl) (by rfl) (Nat.le_trans (Nat.min_le_left _ _) (by decide +kernel)))) (fun h => absurd h (by first | decide +kernel | rfl)) (fun _ =>
          dxs_guard (dt_cmp (dv_ixL (dv_name 7 rfl (by nofun)) dv_int rfl) dv_str (c_eqS _ _)) (fun h => absurd h (by first | decide +kernel | rfl)) (fun _ =>
          dxs_stop (dx_if (dt_w (dw_and (k1 := true) (dt_is (k1 := true) (dt_cmp (dv_ixL (dv_name 7 rfl (by nofun)) dv_int rfl) dv_str (c_eqS _ _)) (by first | decide +kernel | rfl)) fun _ => (dw_and1 (dt_is (k1 := true) (dt_cmp (dv_ixL (dv_name 7 rfl (by nofun)) dv_int rfl) dv_str (c_eqS _ _)) (by first | decide +kernel | rfl))))) (fun _ => dxs_cons (ρ1 := [_, _, _, _, _, _, _, _, _, _, _, _, _]) (dx_par2 (i := 8) (j := 9) rfl sc_law_next.nd (da_cons (dv_fn F_law_size (hr.mono (by decide)) (da_cons (dv_ixL (dv_name 7 rfl (by nofun)) dv_int rfl) (da_cons (dv_name 1 rfl (by nofun)) (da_cons (dv_name 6 rfl (by nofun)) da_nil))) ⟨q, n, s.v, rfl, rfl, rfl, rfl, hn0, hn1⟩) (da_cons (dv_lstM dd_nil) da_nil))) (
            dxs_cons (ρ1 := [_, _, _, _, _, _, _, _, _, _, _, _, _]) (dx_if (dt_is (k1 := true) (dt_cmp (dv_name 4 rfl (by nofun)) (dv_name 8 rfl (by nofun)) (c_lt _ _)) (decide_eq_true g1)) (fun _ => dxs_cons (ρ1 := [_, _, _, _, _, _, _, _, _, _, _, _, _]) (dx_expr (dv_append (dv_name 9 rfl (by nofun)) (dv_tup (dd_cons (dv_intS T.int (dv_ixL (dv_name 7 rfl (by nofun)) dv_int rfl) (dig_int _) (show 1 ≤ 640 by decide)) (dd_cons (dv_name 4 rfl (by nofun)) (dd_cons (dv_ifN (dt_cmp (dv_name 5 rfl (by nofun)) (dv_name 8 rfl (by nofun)) (c_lt _ _)) (dv_name 5 rfl (by nofun)) (dv_name 8 rfl (by nofun))) (dd_cons (dv_name 6 rfl (by nofun)) dd_nil))))) rfl rfl (by first | decide | exact Nat.lt_of_le_of_lt (Nat.le_of_ble_eq_true rfl) (show 64 < sizeLine by decide)))) (
              dxs_nil)) (fun h => absurd h (by decide +kernel))) (
            dxs_cons (ρ1 := [_, _, _, _, _, _, _, _, _, _, _, _, _]) (dx_if (dt_is (k1 := true) (dt_cmp (dv_name 8 rfl (by nofun)) (dv_name 5 rfl (by nofun)) (c_lt _ _)) (decide_eq_true g2)) (fun _ => dxs_cons (ρ1 := [_, _, _, _, _, _, _, _, _, _, _, _, _]) (dx_expr (dv_append (dv_name 9 rfl (by nofun)) (dv_tup (dd_cons (dv_add (dv_name 3 rfl (by nofun)) dv_int) (dd_cons (dv_ifN (dt_cmp (dv_name 8 rfl (by nofun)) (dv_name 4 rfl (by nofun)) (c_lt _ _)) (dv_name 4 rfl (by nofun)) (dv_name 8 rfl (by nofun))) (dd_cons (dv_name 5 rfl (by nofun)) (dd_cons (dv_name 6 rfl (by nofun)) dd_nil))))) rfl rfl (by first | decide | exact Nat.lt_of_le_of_lt (Nat.le_of_ble_eq_true rfl) (show 64 < sizeLine by decide)))) (
              dxs_nil)) (fun h => absurd h (by decide +kernel))) (
            dxs_one (dx_retShow (dv_name 9 rfl (by nofun)) h0 rfl))))) (fun h => absurd h (by decide +kernel))) trivial))))
      · rw [nifc_tf g1 g2]
        exact dxs_cons (ρ1 := [_, _, _, _, _, _, _, _, _, _, _, _, _]) (dx_asg (dv_name 2 rfl (by nofun)) (dg_tup rfl (dgs_cons (dg_name (i := 3) sc_law_next.nd) (dgs_cons (dg_name (i := 4) sc_law_next.nd) (dgs_cons (dg_name (i := 5) sc_law_next.nd) (dgs_cons (dg_name (i := 6) sc_law_next.nd) dgs_nil)))))) (
          dxs_cons (ρ1 := [_, _, _, _, _, _, _, _, _, _, _, _, _]) (dx_set (i := 7) (dv_is (s1 := .dat (strL (Row.words (.ifc q d : Row)))) (dv_split (dv_ixL (ds := texts p) (dv_name 0 rfl (by nofun)) (dv_name 3 rfl (by nofun)) hst) dv_str (by decide) (Nat.le_trans (Nat.add_le_add_right (txt_len _) 2) (show 22 ≤ sizeLine by decide))) (by rw [split_txt]; rfl)) sc_law_next.nd) (
          dxs_guard (dt_cmp (dv_ixL (dv_name 7 rfl (by nofun)) dv_int rfl) (dv_lst (dd_cons dv_str (dd_cons dv_str dd_nil))) (c_inL hu _ _ (by rfl) (by rfl) (Nat.le_trans (Nat.min_le_left _ _) (by decide +kernel)))) (fun h => absurd h (by first | decide +kernel | rfl)) (fun _ =>
          dxs_guard (dt_cmp (dv_ixL (dv_name 7 rfl (by nofun)) dv_int rfl) dv_str (c_eqS _ _)) (fun h => absurd h (by first | decide +kernel | rfl)) (fun _ =>
          dxs_stop (dx_if (dt_w (dw_and (k1 := true) (dt_is (k1 := true) (dt_cmp (dv_ixL (dv_name 7 rfl (by nofun)) dv_int rfl) dv_str (c_eqS _ _)) (by first | decide +kernel | rfl)) fun _ => (dw_and1 (dt_is (k1 := true) (dt_cmp (dv_ixL (dv_name 7 rfl (by nofun)) dv_int rfl) dv_str (c_eqS _ _)) (by first | decide +kernel | rfl))))) (fun _ => dxs_cons (ρ1 := [_, _, _, _, _, _, _, _, _, _, _, _, _]) (dx_par2 (i := 8) (j := 9) rfl sc_law_next.nd (da_cons (dv_fn F_law_size (hr.mono (by decide)) (da_cons (dv_ixL (dv_name 7 rfl (by nofun)) dv_int rfl) (da_cons (dv_name 1 rfl (by nofun)) (da_cons (dv_name 6 rfl (by nofun)) da_nil))) ⟨q, n, s.v, rfl, rfl, rfl, rfl, hn0, hn1⟩) (da_cons (dv_lstM dd_nil) da_nil))) (
            dxs_cons (ρ1 := [_, _, _, _, _, _, _, _, _, _, _, _, _]) (dx_if (dt_is (k1 := true) (dt_cmp (dv_name 4 rfl (by nofun)) (dv_name 8 rfl (by nofun)) (c_lt _ _)) (decide_eq_true g1)) (fun _ => dxs_cons (ρ1 := [_, _, _, _, _, _, _, _, _, _, _, _, _]) (dx_expr (dv_append (dv_name 9 rfl (by nofun)) (dv_tup (dd_cons (dv_intS T.int (dv_ixL (dv_name 7 rfl (by nofun)) dv_int rfl) (dig_int _) (show 1 ≤ 640 by decide)) (dd_cons (dv_name 4 rfl (by nofun)) (dd_cons (dv_ifN (dt_cmp (dv_name 5 rfl (by nofun)) (dv_name 8 rfl (by nofun)) (c_lt _ _)) (dv_name 5 rfl (by nofun)) (dv_name 8 rfl (by nofun))) (dd_cons (dv_name 6 rfl (by nofun)) dd_nil))))) rfl rfl (by first | decide | exact Nat.lt_of_le_of_lt (Nat.le_of_ble_eq_true rfl) (show 64 < sizeLine by decide)))) (
              dxs_nil)) (fun h => absurd h (by decide +kernel))) (
            dxs_cons (ρ1 := [_, _, _, _, _, _, _, _, _, _, _, _, _]) (dx_if (dt_is (k1 := false) (dt_cmp (dv_name 8 rfl (by nofun)) (dv_name 5 rfl (by nofun)) (c_lt _ _)) (decide_eq_false g2)) (fun h => absurd h (by decide +kernel)) (fun _ => dxs_nil)) (
            dxs_one (dx_retShow (dv_name 9 rfl (by nofun)) h0 rfl))))) (fun h => absurd h (by decide +kernel))) trivial))))
      · rw [nifc_ft g1 g2]
        exact dxs_cons (ρ1 := [_, _, _, _, _, _, _, _, _, _, _, _, _]) (dx_asg (dv_name 2 rfl (by nofun)) (dg_tup rfl (dgs_cons (dg_name (i := 3) sc_law_next.nd) (dgs_cons (dg_name (i := 4) sc_law_next.nd) (dgs_cons (dg_name (i := 5) sc_law_next.nd) (dgs_cons (dg_name (i := 6) sc_law_next.nd) dgs_nil)))))) (
          dxs_cons (ρ1 := [_, _, _, _, _, _, _, _, _, _, _, _, _]) (dx_set (i := 7) (dv_is (s1 := .dat (strL (Row.words (.ifc q d : Row)))) (dv_split (dv_ixL (ds := texts p) (dv_name 0 rfl (by nofun)) (dv_name 3 rfl (by nofun)) hst) dv_str (by decide) (Nat.le_trans (Nat.add_le_add_right (txt_len _) 2) (show 22 ≤ sizeLine by decide))) (by rw [split_txt]; rfl)) sc_law_next.nd) (
          dxs_guard (dt_cmp (dv_ixL (dv_name 7 rfl (by nofun)) dv_int rfl) (dv_lst (dd_cons dv_str (dd_cons dv_str dd_nil))) (c_inL hu _ _ (by rfl) (by rfl) (Nat.le_trans (Nat.min_le_left _ _) (by decide +kernel)))) (fun h => absurd h (by first | decide +kernel | rfl)) (fun _ =>
          dxs_guard (dt_cmp (dv_ixL (dv_name 7 rfl (by nofun)) dv_int rfl) dv_str (c_eqS _ _)) (fun h => absurd h (by first | decide +kernel | rfl)) (fun _ =>
          dxs_stop (dx_if (dt_w (dw_and (k1 := true) (dt_is (k1 := true) (dt_cmp (dv_ixL (dv_name 7 rfl (by nofun)) dv_int rfl) dv_str (c_eqS _ _)) (by first | decide +kernel | rfl)) fun _ => (dw_and1 (dt_is (k1 := true) (dt_cmp (dv_ixL (dv_name 7 rfl (by nofun)) dv_int rfl) dv_str (c_eqS _ _)) (by first | decide +kernel | rfl))))) (fun _ => dxs_cons (ρ1 := [_, _, _, _, _, _, _, _, _, _, _, _, _]) (dx_par2 (i := 8) (j := 9) rfl sc_law_next.nd (da_cons (dv_fn F_law_size (hr.mono (by decide)) (da_cons (dv_ixL (dv_name 7 rfl (by nofun)) dv_int rfl) (da_cons (dv_name 1 rfl (by nofun)) (da_cons (dv_name 6 rfl (by nofun)) da_nil))) ⟨q, n, s.v, rfl, rfl, rfl, rfl, hn0, hn1⟩) (da_cons (dv_lstM dd_nil) da_nil))) (
            dxs_cons (ρ1 := [_, _, _, _, _, _, _, _, _, _, _, _, _]) (dx_if (dt_is (k1 := false) (dt_cmp (dv_name 4 rfl (by nofun)) (dv_name 8 rfl (by nofun)) (c_lt _ _)) (decide_eq_false g1)) (fun h => absurd h (by decide +kernel)) (fun _ => dxs_nil)) (
            dxs_cons (ρ1 := [_, _, _, _, _, _, _, _, _, _, _, _, _]) (dx_if (dt_is (k1 := true) (dt_cmp (dv_name 8 rfl (by nofun)) (dv_name 5 rfl (by nofun)) (c_lt _ _)) (decide_eq_true g2)) (fun _ => dxs_cons (ρ1 := [_, _, _, _, _, _, _, _, _, _, _, _, _]) (dx_expr (dv_append (dv_name 9 rfl (by nofun)) (dv_tup (dd_cons (dv_add (dv_name 3 rfl (by nofun)) dv_int) (dd_cons (dv_ifN (dt_cmp (dv_name 8 rfl (by nofun)) (dv_name 4 rfl (by nofun)) (c_lt _ _)) (dv_name 4 rfl (by nofun)) (dv_name 8 rfl (by nofun))) (dd_cons (dv_name 5 rfl (by nofun)) (dd_cons (dv_name 6 rfl (by nofun)) dd_nil))))) rfl rfl (by first | decide | exact Nat.lt_of_le_of_lt (Nat.le_of_ble_eq_true rfl) (show 64 < sizeLine by decide)))) (
              dxs_nil)) (fun h => absurd h (by decide +kernel))) (
            dxs_one (dx_retShow (dv_name 9 rfl (by nofun)) h0 rfl))))) (fun h => absurd h (by decide +kernel))) trivial))))
      · rw [nifc_ff g1 g2]
        exact dxs_cons (ρ1 := [_, _, _, _, _, _, _, _, _, _, _, _, _]) (dx_asg (dv_name 2 rfl (by nofun)) (dg_tup rfl (dgs_cons (dg_name (i := 3) sc_law_next.nd) (dgs_cons (dg_name (i := 4) sc_law_next.nd) (dgs_cons (dg_name (i := 5) sc_law_next.nd) (dgs_cons (dg_name (i := 6) sc_law_next.nd) dgs_nil)))))) (
          dxs_cons (ρ1 := [_, _, _, _, _, _, _, _, _, _, _, _, _]) (dx_set (i := 7) (dv_is (s1 := .dat (strL (Row.words (.ifc q d : Row)))) (dv_split (dv_ixL (ds := texts p) (dv_name 0 rfl (by nofun)) (dv_name 3 rfl (by nofun)) hst) dv_str (by decide) (Nat.le_trans (Nat.add_le_add_right (txt_len _) 2) (show 22 ≤ sizeLine by decide))) (by rw [split_txt]; rfl)) sc_law_next.nd) (
          dxs_guard (dt_cmp (dv_ixL (dv_name 7 rfl (by nofun)) dv_int rfl) (dv_lst (dd_cons dv_str (dd_cons dv_str dd_nil))) (c_inL hu _ _ (by rfl) (by rfl) (Nat.le_trans (Nat.min_le_left _ _) (by decide +kernel)))) (fun h => absurd h (by first | decide +kernel | rfl)) (fun _ =>
          dxs_guard (dt_cmp (dv_ixL (dv_name 7 rfl (by nofun)) dv_int rfl) dv_str (c_eqS _ _)) (fun h => absurd h (by first | decide +kernel | rfl)) (fun _ =>
          dxs_stop (dx_if (dt_w (dw_and (k1 := true) (dt_is (k1 := true) (dt_cmp (dv_ixL (dv_name 7 rfl (by nofun)) dv_int rfl) dv_str (c_eqS _ _)) (by first | decide +kernel | rfl)) fun _ => (dw_and1 (dt_is (k1 := true) (dt_cmp (dv_ixL (dv_name 7 rfl (by nofun)) dv_int rfl) dv_str (c_eqS _ _)) (by first | decide +kernel | rfl))))) (fun _ => dxs_cons (ρ1 := [_, _, _, _, _, _, _, _, _, _, _, _, _]) (dx_par2 (i := 8) (j := 9) rfl sc_law_next.nd (da_cons (dv_fn F_law_size (hr.mono (by decide)) (da_cons (dv_ixL (dv_name 7 rfl (by nofun)) dv_int rfl) (da_cons (dv_name 1 rfl (by nofun)) (da_cons (dv_name 6 rfl (by nofun)) da_nil))) ⟨q, n, s.v, rfl, rfl, rfl, rfl, hn0, hn1⟩) (da_cons (dv_lstM dd_nil) da_nil))) (
            dxs_cons (ρ1 := [_, _, _, _, _, _, _, _, _, _, _, _, _]) (dx_if (dt_is (k1 := false) (dt_cmp (dv_name 4 rfl (by nofun)) (dv_name 8 rfl (by nofun)) (c_lt _ _)) (decide_eq_false g1)) (fun h => absurd h (by decide +kernel)) (fun _ => dxs_nil)) (
            dxs_cons (ρ1 := [_, _, _, _, _, _, _, _, _, _, _, _, _]) (dx_if (dt_is (k1 := false) (dt_cmp (dv_name 8 rfl (by nofun)) (dv_name 5 rfl (by nofun)) (c_lt _ _)) (decide_eq_false g2)) (fun h => absurd h (by decide +kernel)) (fun _ => dxs_nil)) (
            dxs_one (dx_retShow (dv_name 9 rfl (by nofun)) h0 rfl))))) (fun h => absurd h (by decide +kernel))) trivial))))
    | ifv q d =>
      exact dxs_cons (ρ1 := [_, _, _, _, _, _, _, _, _, _, _, _, _]) (dx_asg (dv_name 2 rfl (by nofun)) (dg_tup rfl (dgs_cons (dg_name (i := 3) sc_law_next.nd) (dgs_cons (dg_name (i := 4) sc_law_next.nd) (dgs_cons (dg_name (i := 5) sc_law_next.nd) (dgs_cons (dg_name (i := 6) sc_law_next.nd) dgs_nil)))))) (
        dxs_cons (ρ1 := [_, _, _, _, _, _, _, _, _, _, _, _, _]) (dx_set (i := 7) (dv_is (s1 := .dat (strL (Row.words (.ifv q d : Row)))) (dv_split (dv_ixL (ds := texts p) (dv_name 0 rfl (by nofun)) (dv_name 3 rfl (by nofun)) hst) dv_str (by decide) (Nat.le_trans (Nat.add_le_add_right (txt_len _) 2) (show 22 ≤ sizeLine by decide))) (by rw [split_txt]; rfl)) sc_law_next.nd) (
        dxs_guard (dt_cmp (dv_ixL (dv_name 7 rfl (by nofun)) dv_int rfl) (dv_lst (dd_cons dv_str (dd_cons dv_str dd_nil))) (c_inL hu _ _ (by rfl) (by rfl) (Nat.le_trans (Nat.min_le_left _ _) (by decide +kernel)))) (fun h => absurd h (by first | decide +kernel | rfl)) (fun _ =>
        dxs_guard (dt_cmp (dv_ixL (dv_name 7 rfl (by nofun)) dv_int rfl) dv_str (c_eqS _ _)) (fun h => absurd h (by first | decide +kernel | rfl)) (fun _ =>
        dxs_guard (dt_w (dw_and (k1 := true) (dt_is (k1 := true) (dt_cmp (dv_ixL (dv_name 7 rfl (by nofun)) dv_int rfl) dv_str (c_eqS _ _)) (by first | decide +kernel | rfl)) fun _ => (dw_and1 (dt_is (k1 := false) (dt_cmp (dv_ixL (dv_name 7 rfl (by nofun)) dv_int rfl) dv_str (c_eqS _ _)) (by first | decide +kernel | rfl))))) (fun h => absurd h (by first | decide +kernel | rfl)) (fun _ =>
        dxs_cons (ρ1 := [_, _, _, _, _, _, _, _, _, _, _, _, _]) (dx_asg (dv_fn F_law_goes (hr.mono (by decide)) (da_cons (dv_name 0 rfl (by nofun)) (da_cons (dv_name 3 rfl (by nofun)) (da_cons (dv_name 1 rfl (by nofun)) (da_cons (dv_name 4 rfl (by nofun)) (da_cons (dv_name 6 rfl (by nofun)) da_nil))))) ⟨p, (.ifv q d : Row), s.row, n, s.a, s.v, rfl, rfl, rfl, rfl, rfl, hi0, hi1, hre, hn0, hn1⟩) (dg_lst rfl (dgs_cons (dg_name (i := 10) sc_law_next.nd) (dgs_cons (dg_name (i := 11) sc_law_next.nd) (dgs_cons (dg_name (i := 12) sc_law_next.nd) dgs_nil))))) (
        dxs_one (dx_retIs (dv_lst (dd_cons (dv_tup (dd_cons (dv_name 10 rfl (by nofun)) (dd_cons (dv_name 11 rfl (by nofun)) (dd_cons (dv_sub (dv_add (dv_name 11 rfl (by nofun)) (dv_name 5 rfl (by nofun))) (dv_name 4 rfl (by nofun))) (dd_cons (dv_name 12 rfl (by nofun)) dd_nil))))) dd_nil)) rfl)))))))
    | lessB q =>
      exact dxs_cons (ρ1 := [_, _, _, _, _, _, _, _, _, _, _, _, _]) (dx_asg (dv_name 2 rfl (by nofun)) (dg_tup rfl (dgs_cons (dg_name (i := 3) sc_law_next.nd) (dgs_cons (dg_name (i := 4) sc_law_next.nd) (dgs_cons (dg_name (i := 5) sc_law_next.nd) (dgs_cons (dg_name (i := 6) sc_law_next.nd) dgs_nil)))))) (
        dxs_cons (ρ1 := [_, _, _, _, _, _, _, _, _, _, _, _, _]) (dx_set (i := 7) (dv_is (s1 := .dat (strL (Row.words (.lessB q : Row)))) (dv_split (dv_ixL (ds := texts p) (dv_name 0 rfl (by nofun)) (dv_name 3 rfl (by nofun)) hst) dv_str (by decide) (Nat.le_trans (Nat.add_le_add_right (txt_len _) 2) (show 22 ≤ sizeLine by decide))) (by rw [split_txt]; rfl)) sc_law_next.nd) (
        dxs_guard (dt_cmp (dv_ixL (dv_name 7 rfl (by nofun)) dv_int rfl) (dv_lst (dd_cons dv_str (dd_cons dv_str dd_nil))) (c_inL hu _ _ (by rfl) (by rfl) (Nat.le_trans (Nat.min_le_left _ _) (by decide +kernel)))) (fun h => absurd h (by first | decide +kernel | rfl)) (fun _ =>
        dxs_guard (dt_cmp (dv_ixL (dv_name 7 rfl (by nofun)) dv_int rfl) dv_str (c_eqS _ _)) (fun h => absurd h (by first | decide +kernel | rfl)) (fun _ =>
        dxs_guard (dt_w (dw_and (k1 := false) (k2 := false) (dt_is (k1 := false) (dt_cmp (dv_ixL (dv_name 7 rfl (by nofun)) dv_int rfl) dv_str (c_eqS _ _)) (by first | decide +kernel | rfl)) (fun h => absurd h (by decide)))) (fun h => absurd h (by first | decide +kernel | rfl)) (fun _ =>
        dxs_cons (ρ1 := [_, _, _, _, _, _, _, _, _, _, _, _, _]) (dx_asg (dv_fn F_law_goes (hr.mono (by decide)) (da_cons (dv_name 0 rfl (by nofun)) (da_cons (dv_name 3 rfl (by nofun)) (da_cons (dv_name 1 rfl (by nofun)) (da_cons (dv_name 4 rfl (by nofun)) (da_cons (dv_name 6 rfl (by nofun)) da_nil))))) ⟨p, (.lessB q : Row), s.row, n, s.a, s.v, rfl, rfl, rfl, rfl, rfl, hi0, hi1, hre, hn0, hn1⟩) (dg_lst rfl (dgs_cons (dg_name (i := 10) sc_law_next.nd) (dgs_cons (dg_name (i := 11) sc_law_next.nd) (dgs_cons (dg_name (i := 12) sc_law_next.nd) dgs_nil))))) (
        dxs_one (dx_retIs (dv_lst (dd_cons (dv_tup (dd_cons (dv_name 10 rfl (by nofun)) (dd_cons (dv_name 11 rfl (by nofun)) (dd_cons (dv_sub (dv_add (dv_name 11 rfl (by nofun)) (dv_name 5 rfl (by nofun))) (dv_name 4 rfl (by nofun))) (dd_cons (dv_name 12 rfl (by nofun)) dd_nil))))) dd_nil)) rfl)))))))
    | lessC q =>
      exact dxs_cons (ρ1 := [_, _, _, _, _, _, _, _, _, _, _, _, _]) (dx_asg (dv_name 2 rfl (by nofun)) (dg_tup rfl (dgs_cons (dg_name (i := 3) sc_law_next.nd) (dgs_cons (dg_name (i := 4) sc_law_next.nd) (dgs_cons (dg_name (i := 5) sc_law_next.nd) (dgs_cons (dg_name (i := 6) sc_law_next.nd) dgs_nil)))))) (
        dxs_cons (ρ1 := [_, _, _, _, _, _, _, _, _, _, _, _, _]) (dx_set (i := 7) (dv_is (s1 := .dat (strL (Row.words (.lessC q : Row)))) (dv_split (dv_ixL (ds := texts p) (dv_name 0 rfl (by nofun)) (dv_name 3 rfl (by nofun)) hst) dv_str (by decide) (Nat.le_trans (Nat.add_le_add_right (txt_len _) 2) (show 22 ≤ sizeLine by decide))) (by rw [split_txt]; rfl)) sc_law_next.nd) (
        dxs_guard (dt_cmp (dv_ixL (dv_name 7 rfl (by nofun)) dv_int rfl) (dv_lst (dd_cons dv_str (dd_cons dv_str dd_nil))) (c_inL hu _ _ (by rfl) (by rfl) (Nat.le_trans (Nat.min_le_left _ _) (by decide +kernel)))) (fun h => absurd h (by first | decide +kernel | rfl)) (fun _ =>
        dxs_guard (dt_cmp (dv_ixL (dv_name 7 rfl (by nofun)) dv_int rfl) dv_str (c_eqS _ _)) (fun h => absurd h (by first | decide +kernel | rfl)) (fun _ =>
        dxs_guard (dt_w (dw_and (k1 := false) (k2 := false) (dt_is (k1 := false) (dt_cmp (dv_ixL (dv_name 7 rfl (by nofun)) dv_int rfl) dv_str (c_eqS _ _)) (by first | decide +kernel | rfl)) (fun h => absurd h (by decide)))) (fun h => absurd h (by first | decide +kernel | rfl)) (fun _ =>
        dxs_cons (ρ1 := [_, _, _, _, _, _, _, _, _, _, _, _, _]) (dx_asg (dv_fn F_law_goes (hr.mono (by decide)) (da_cons (dv_name 0 rfl (by nofun)) (da_cons (dv_name 3 rfl (by nofun)) (da_cons (dv_name 1 rfl (by nofun)) (da_cons (dv_name 4 rfl (by nofun)) (da_cons (dv_name 6 rfl (by nofun)) da_nil))))) ⟨p, (.lessC q : Row), s.row, n, s.a, s.v, rfl, rfl, rfl, rfl, rfl, hi0, hi1, hre, hn0, hn1⟩) (dg_lst rfl (dgs_cons (dg_name (i := 10) sc_law_next.nd) (dgs_cons (dg_name (i := 11) sc_law_next.nd) (dgs_cons (dg_name (i := 12) sc_law_next.nd) dgs_nil))))) (
        dxs_one (dx_retIs (dv_lst (dd_cons (dv_tup (dd_cons (dv_name 10 rfl (by nofun)) (dd_cons (dv_name 11 rfl (by nofun)) (dd_cons (dv_sub (dv_add (dv_name 11 rfl (by nofun)) (dv_name 5 rfl (by nofun))) (dv_name 4 rfl (by nofun))) (dd_cons (dv_name 12 rfl (by nofun)) dd_nil))))) dd_nil)) rfl)))))))
    | lessV q =>
      exact dxs_cons (ρ1 := [_, _, _, _, _, _, _, _, _, _, _, _, _]) (dx_asg (dv_name 2 rfl (by nofun)) (dg_tup rfl (dgs_cons (dg_name (i := 3) sc_law_next.nd) (dgs_cons (dg_name (i := 4) sc_law_next.nd) (dgs_cons (dg_name (i := 5) sc_law_next.nd) (dgs_cons (dg_name (i := 6) sc_law_next.nd) dgs_nil)))))) (
        dxs_cons (ρ1 := [_, _, _, _, _, _, _, _, _, _, _, _, _]) (dx_set (i := 7) (dv_is (s1 := .dat (strL (Row.words (.lessV q : Row)))) (dv_split (dv_ixL (ds := texts p) (dv_name 0 rfl (by nofun)) (dv_name 3 rfl (by nofun)) hst) dv_str (by decide) (Nat.le_trans (Nat.add_le_add_right (txt_len _) 2) (show 22 ≤ sizeLine by decide))) (by rw [split_txt]; rfl)) sc_law_next.nd) (
        dxs_guard (dt_cmp (dv_ixL (dv_name 7 rfl (by nofun)) dv_int rfl) (dv_lst (dd_cons dv_str (dd_cons dv_str dd_nil))) (c_inL hu _ _ (by rfl) (by rfl) (Nat.le_trans (Nat.min_le_left _ _) (by decide +kernel)))) (fun h => absurd h (by first | decide +kernel | rfl)) (fun _ =>
        dxs_guard (dt_cmp (dv_ixL (dv_name 7 rfl (by nofun)) dv_int rfl) dv_str (c_eqS _ _)) (fun h => absurd h (by first | decide +kernel | rfl)) (fun _ =>
        dxs_guard (dt_w (dw_and (k1 := false) (k2 := false) (dt_is (k1 := false) (dt_cmp (dv_ixL (dv_name 7 rfl (by nofun)) dv_int rfl) dv_str (c_eqS _ _)) (by first | decide +kernel | rfl)) (fun h => absurd h (by decide)))) (fun h => absurd h (by first | decide +kernel | rfl)) (fun _ =>
        dxs_cons (ρ1 := [_, _, _, _, _, _, _, _, _, _, _, _, _]) (dx_asg (dv_fn F_law_goes (hr.mono (by decide)) (da_cons (dv_name 0 rfl (by nofun)) (da_cons (dv_name 3 rfl (by nofun)) (da_cons (dv_name 1 rfl (by nofun)) (da_cons (dv_name 4 rfl (by nofun)) (da_cons (dv_name 6 rfl (by nofun)) da_nil))))) ⟨p, (.lessV q : Row), s.row, n, s.a, s.v, rfl, rfl, rfl, rfl, rfl, hi0, hi1, hre, hn0, hn1⟩) (dg_lst rfl (dgs_cons (dg_name (i := 10) sc_law_next.nd) (dgs_cons (dg_name (i := 11) sc_law_next.nd) (dgs_cons (dg_name (i := 12) sc_law_next.nd) dgs_nil))))) (
        dxs_one (dx_retIs (dv_lst (dd_cons (dv_tup (dd_cons (dv_name 10 rfl (by nofun)) (dd_cons (dv_name 11 rfl (by nofun)) (dd_cons (dv_sub (dv_add (dv_name 11 rfl (by nofun)) (dv_name 5 rfl (by nofun))) (dv_name 4 rfl (by nofun))) (dd_cons (dv_name 12 rfl (by nofun)) dd_nil))))) dd_nil)) rfl)))))))

end
end Dr
set_option maxHeartbeats 4000000
namespace Dr
open PySem PySem.Spec PyProof.Rows L2
section
variable {P : Program} {w : World} {K : PySem.W.Frag} {mg : Str → Option Value} {base : Heap}
/-- size if word == 'fit' else 1 if word == 'n' else int(word[0]) -/
theorem dv_times {X : Cx} {c : Ct} {ρ : List Sl} {μ : List Mo} {e1 e2 e3 es : Expr} {j : Int} {q : Qt} {n1 n2 n3 n4} {p1 p2 p3 p4 p5 p6 p7 p8 p9 p10 p11 : Pos} (hm : X.mg "int" = none) (h1 : dV X c e1 ρ μ (.dat (.str q.txt)) μ) (h2 : dV X c e2 ρ μ (.dat (.str q.txt)) μ) (h3 : dV X c e3 ρ μ (.dat (.str q.txt)) μ) (hs : dV X c es ρ μ (.dat (.int j)) μ) (hg : Gl X "int" := by rfl)
    : dV X c (.IfExp (.Compare e1 [.Eq] [.Constant (.str "fit") n1 p1] p2) es (.IfExp (.Compare e2 [.Eq] [.Constant (.str "n") n2 p3] p4) (.Constant (.int 1) n3 p5) (.Call (.Name "int" p6) [.Subscript e3 (.Constant (.int 0) n4 p7) p8] [] p9) p10) p11) ρ μ (.dat (.int (tms q j))) μ := by
  have t1 := dt_cmp h1 (dv_str (x := "fit") (j := n1) (pos := p1)) (c_eqS _ _) (pos := p2)
  have t2 := dt_cmp h2 (dv_str (x := "n") (j := n2) (pos := p3)) (c_eqS _ _) (pos := p4)
  cases q with
  | n1 => exact dv_if (dt_is (k1 := false) t1 (by decide +kernel)) (fun z => absurd z (by decide)) (fun _ => dv_if (dt_is (k1 := true) t2 (by decide +kernel)) (fun _ => dv_int) (fun z => absurd z (by decide)))
  | n2 => exact dv_if (dt_is (k1 := false) t1 (by decide +kernel)) (fun z => absurd z (by decide)) (fun _ => dv_if (dt_is (k1 := false) t2 (by decide +kernel)) (fun z => absurd z (by decide)) (fun _ => dv_intS hm (dv_ixS h3 dv_int (by decide) rfl) (show PySem.intText? _ = some 2 by decide +kernel) (by decide) hg))
  | n3 => exact dv_if (dt_is (k1 := false) t1 (by decide +kernel)) (fun z => absurd z (by decide)) (fun _ => dv_if (dt_is (k1 := false) t2 (by decide +kernel)) (fun z => absurd z (by decide)) (fun _ => dv_intS hm (dv_ixS h3 dv_int (by decide) rfl) (show PySem.intText? _ = some 3 by decide +kernel) (by decide) hg))
  | n4 => exact dv_if (dt_is (k1 := false) t1 (by decide +kernel)) (fun z => absurd z (by decide)) (fun _ => dv_if (dt_is (k1 := false) t2 (by decide +kernel)) (fun z => absurd z (by decide)) (fun _ => dv_intS hm (dv_ixS h3 dv_int (by decide) rfl) (show PySem.intText? _ = some 4 by decide +kernel) (by decide) hg))
  | fit => exact dv_if (dt_is (k1 := true) t1 (by decide +kernel)) (fun _ => hs) (fun z => absurd z (by decide))

def C_law_steps : Ctr := fun ss μ s' μ' => ∃ (p : List Row) (s : Stt) (r : Row), ss = [.dat (.list (texts p)), .dat (encS s)] ∧ μ = [] ∧ s' = .dat (.list (tl r s)) ∧ μ' = [] ∧ 0 ≤ s.row ∧ s.row < p.length ∧ r = rowAt p s.row
theorem sc_law_steps : FnScope ["_law_lines", "_law_state", "_law_at", "_law_low", "_law_high", "_law_over", "_law_size_here", "_law_part_here", "_law_words", "_law_some", "_law_top", "_law_full", "_law_word", "_law_times", "_law_lower", "_law_less", "_law_whole"] ["_law_lines", "_law_state"] (defScope s_law_steps) := ⟨rfl, rfl, rfl, by decide +kernel, rfl, by decide +kernel, by decide +kernel⟩
theorem ok_law_steps {f : Addr} {fd : FuncData} (T : Tx mg K w) (F : Fun K "_law_steps" "_law_steps" s_law_steps f fd) (hm : mg "_law_steps" = some (.ref f)) : FnD P w K mg base "_law_steps" 1 C_law_steps := by
  refine fnD F hm sc_law_steps (fun _ _ _ _ _ _ us hl => match us, hl with | [_, _], _ => rfl) (fun ss μ s' μ' h => ?_) (fun cdv A outer s H E c hr ss μ s' μ' h hm0 => ?_)
  · obtain ⟨p, s, r, rfl, rfl, rfl, rfl, hi0, hi1, hre⟩ := h; rfl
  · obtain ⟨p, s, r, rfl, rfl, rfl, rfl, hi0, hi1, hre⟩ := h
    have hN := sc_law_steps.nd
    have hu := hr.units
    have h0 : c.m0 = [] := List.eq_nil_of_length_eq_zero hm0
    have hst := texts_atI hi0 hi1
    rw [← hre] at hst
    clear hre
    cases r with
    | take =>
      obtain ⟨r, a, b, x, j, y⟩ := s
      cases x <;> cases y
      · exact dxs_cons (ρ1 := [_, _, _, _, _, _, _, _, _, _, _, _, _, _, _, _, _]) (dx_asg (dv_name 1 rfl (by nofun)) (dg_tup rfl (dgs_cons (dg_name (i := 2) sc_law_steps.nd) (dgs_cons (dg_name (i := 3) sc_law_steps.nd) (dgs_cons (dg_name (i := 4) sc_law_steps.nd) (dgs_cons (dg_name (i := 5) sc_law_steps.nd) (dgs_cons (dg_name (i := 6) sc_law_steps.nd) (dgs_cons (dg_name (i := 7) sc_law_steps.nd) dgs_nil)))))))) (
          dxs_cons (ρ1 := [_, _, _, _, _, _, _, _, _, _, _, _, _, _, _, _, _]) (dx_set (i := 8) (dv_is (s1 := .dat (strL (Row.words (.take : Row)))) (dv_split (dv_ixL (ds := texts p) (dv_name 0 rfl (by nofun)) (dv_name 2 rfl (by nofun)) hst) dv_str (by decide) (Nat.le_trans (Nat.add_le_add_right (txt_len _) 2) (show 22 ≤ sizeLine by decide))) (by rw [split_txt]; rfl)) sc_law_steps.nd) (
          dxs_guard (dt_cmp (dv_ixL (dv_name 8 rfl (by nofun)) dv_int rfl) (dv_lst (dd_cons dv_str (dd_cons dv_str dd_nil))) (c_inL hu _ _ (by rfl) (by rfl) (Nat.le_trans (Nat.min_le_left _ _) (by decide +kernel)))) (fun h => absurd h (by first | decide +kernel | rfl)) (fun _ =>
          dxs_guard (dt_cmp (dv_ixL (dv_name 8 rfl (by nofun)) dv_int rfl) dv_str (c_eqS _ _)) (fun h => absurd h (by first | decide +kernel | rfl)) (fun _ =>
          dxs_stop (dx_if (dt_cmp (dv_ixL (dv_name 8 rfl (by nofun)) dv_int rfl) dv_str (c_eqS _ _)) (fun _ => dxs_cons (ρ1 := [_, _, _, _, _, _, _, _, _, _, _, _, _, _, _, _, _]) (dx_set (i := 9) (dv_lst (dd_cons (dv_tup (dd_cons (dv_add (dv_name 2 rfl (by nofun)) dv_int) (dd_cons (dv_mul dv_int (dv_name 3 rfl (by nofun)) (by first | exact .inl ⟨by decide, by decide⟩ | exact .inr ⟨by decide, by decide⟩ | exact .inl ⟨by omega, by omega⟩ | exact .inr ⟨by omega, by omega⟩)) (dd_cons (dv_mul dv_int (dv_name 4 rfl (by nofun)) (by first | exact .inl ⟨by decide, by decide⟩ | exact .inr ⟨by decide, by decide⟩ | exact .inl ⟨by omega, by omega⟩ | exact .inr ⟨by omega, by omega⟩)) (dd_cons (dv_name 5 rfl (by nofun)) (dd_cons (dv_mul dv_int (dv_name 6 rfl (by nofun)) (by first | exact .inl ⟨by decide, by decide⟩ | exact .inr ⟨by decide, by decide⟩ | exact .inl ⟨by omega, by omega⟩ | exact .inr ⟨by omega, by omega⟩)) (dd_cons (dv_name 7 rfl (by nofun)) dd_nil))))))) dd_nil)) sc_law_steps.nd) (
            dxs_cons (ρ1 := [_, _, _, _, _, _, _, _, _, _, _, _, _, _, _, _, _]) (dx_if (dt_w (dw_or (k1 := false) (dt_is (k1 := false) (dt_val (dv_name 5 rfl (by nofun))) rfl) fun _ => (dw_or1 (dt_is (k1 := false) (dt_val (dv_name 7 rfl (by nofun))) rfl)))) (fun h => absurd h (by decide +kernel)) (fun _ => dxs_nil)) (
            dxs_one (dx_retIs (dv_name 9 rfl (by nofun)) rfl)))) (fun h => absurd h (by decide +kernel))) trivial))))
      · exact dxs_cons (ρ1 := [_, _, _, _, _, _, _, _, _, _, _, _, _, _, _, _, _]) (dx_asg (dv_name 1 rfl (by nofun)) (dg_tup rfl (dgs_cons (dg_name (i := 2) sc_law_steps.nd) (dgs_cons (dg_name (i := 3) sc_law_steps.nd) (dgs_cons (dg_name (i := 4) sc_law_steps.nd) (dgs_cons (dg_name (i := 5) sc_law_steps.nd) (dgs_cons (dg_name (i := 6) sc_law_steps.nd) (dgs_cons (dg_name (i := 7) sc_law_steps.nd) dgs_nil)))))))) (
          dxs_cons (ρ1 := [_, _, _, _, _, _, _, _, _, _, _, _, _, _, _, _, _]) (dx_set (i := 8) (dv_is (s1 := .dat (strL (Row.words (.take : Row)))) (dv_split (dv_ixL (ds := texts p) (dv_name 0 rfl (by nofun)) (dv_name 2 rfl (by nofun)) hst) dv_str (by decide) (Nat.le_trans (Nat.add_le_add_right (txt_len _) 2) (show 22 ≤ sizeLine by decide))) (by rw [split_txt]; rfl)) sc_law_steps.nd) (
          dxs_guard (dt_cmp (dv_ixL (dv_name 8 rfl (by nofun)) dv_int rfl) (dv_lst (dd_cons dv_str (dd_cons dv_str dd_nil))) (c_inL hu _ _ (by rfl) (by rfl) (Nat.le_trans (Nat.min_le_left _ _) (by decide +kernel)))) (fun h => absurd h (by first | decide +kernel | rfl)) (fun _ =>
          dxs_guard (dt_cmp (dv_ixL (dv_name 8 rfl (by nofun)) dv_int rfl) dv_str (c_eqS _ _)) (fun h => absurd h (by first | decide +kernel | rfl)) (fun _ =>
          dxs_stop (dx_if (dt_cmp (dv_ixL (dv_name 8 rfl (by nofun)) dv_int rfl) dv_str (c_eqS _ _)) (fun _ => dxs_cons (ρ1 := [_, _, _, _, _, _, _, _, _, _, _, _, _, _, _, _, _]) (dx_set (i := 9) (dv_lst (dd_cons (dv_tup (dd_cons (dv_add (dv_name 2 rfl (by nofun)) dv_int) (dd_cons (dv_mul dv_int (dv_name 3 rfl (by nofun)) (by first | exact .inl ⟨by decide, by decide⟩ | exact .inr ⟨by decide, by decide⟩ | exact .inl ⟨by omega, by omega⟩ | exact .inr ⟨by omega, by omega⟩)) (dd_cons (dv_mul dv_int (dv_name 4 rfl (by nofun)) (by first | exact .inl ⟨by decide, by decide⟩ | exact .inr ⟨by decide, by decide⟩ | exact .inl ⟨by omega, by omega⟩ | exact .inr ⟨by omega, by omega⟩)) (dd_cons (dv_name 5 rfl (by nofun)) (dd_cons (dv_mul dv_int (dv_name 6 rfl (by nofun)) (by first | exact .inl ⟨by decide, by decide⟩ | exact .inr ⟨by decide, by decide⟩ | exact .inl ⟨by omega, by omega⟩ | exact .inr ⟨by omega, by omega⟩)) (dd_cons (dv_name 7 rfl (by nofun)) dd_nil))))))) dd_nil)) sc_law_steps.nd) (
            dxs_cons (ρ1 := [_, _, _, _, _, _, _, _, _, _, _, _, _, _, _, _, _]) (dx_if (dt_w (dw_or (k1 := false) (dt_is (k1 := false) (dt_val (dv_name 5 rfl (by nofun))) rfl) fun _ => (dw_or1 (dt_is (k1 := true) (dt_val (dv_name 7 rfl (by nofun))) rfl)))) (fun _ => dxs_cons (ρ1 := [_, _, _, _, _, _, _, _, _, _, _, _, _, _, _, _, _]) (dx_par2 (i := 10) (j := 11) rfl sc_law_steps.nd (da_cons (dv_add (dv_mul dv_int (dv_name 4 rfl (by nofun)) (by first | exact .inl ⟨by decide, by decide⟩ | exact .inr ⟨by decide, by decide⟩ | exact .inl ⟨by omega, by omega⟩ | exact .inr ⟨by omega, by omega⟩)) (dv_intB T.int (dv_name 5 rfl (by nofun)))) (da_cons (dv_add (dv_mul dv_int (dv_name 6 rfl (by nofun)) (by first | exact .inl ⟨by decide, by decide⟩ | exact .inr ⟨by decide, by decide⟩ | exact .inl ⟨by omega, by omega⟩ | exact .inr ⟨by omega, by omega⟩)) (dv_intB T.int (dv_name 7 rfl (by nofun)))) da_nil))) (
              dxs_cons (ρ1 := [_, _, _, _, _, _, _, _, _, _, _, _, _, _, _, _, _]) (dx_set (i := 9) (dv_cat (dv_name 9 rfl (by nofun)) (dv_lst (dd_cons (dv_tup (dd_cons (dv_add (dv_name 2 rfl (by nofun)) dv_int) (dd_cons (dv_mul dv_int (dv_name 3 rfl (by nofun)) (by first | exact .inl ⟨by decide, by decide⟩ | exact .inr ⟨by decide, by decide⟩ | exact .inl ⟨by omega, by omega⟩ | exact .inr ⟨by omega, by omega⟩)) (dd_cons (dv_name 10 rfl (by nofun)) (dd_cons (dv_name 5 rfl (by nofun)) (dd_cons (dv_name 11 rfl (by nofun)) (dd_cons (dv_name 7 rfl (by nofun)) dd_nil))))))) dd_nil)) (by first | decide | exact Nat.le_trans (Nat.le_of_ble_eq_true rfl) (show 64 ≤ sizeLine by decide))) sc_law_steps.nd) (
              dxs_cons (ρ1 := [_, _, _, _, _, _, _, _, _, _, _, _, _, _, _, _, _]) (dx_set (i := 9) (dv_cat (dv_name 9 rfl (by nofun)) (dv_lst (dd_cons (dv_tup (dd_cons (dv_add (dv_name 2 rfl (by nofun)) dv_int) (dd_cons (dv_mul dv_int (dv_name 3 rfl (by nofun)) (by first | exact .inl ⟨by decide, by decide⟩ | exact .inr ⟨by decide, by decide⟩ | exact .inl ⟨by omega, by omega⟩ | exact .inr ⟨by omega, by omega⟩)) (dd_cons (dv_name 10 rfl (by nofun)) (dd_cons dv_bl (dd_cons (dv_name 11 rfl (by nofun)) (dd_cons dv_bl dd_nil))))))) dd_nil)) (by first | decide | exact Nat.le_trans (Nat.le_of_ble_eq_true rfl) (show 64 ≤ sizeLine by decide))) sc_law_steps.nd) (
              dxs_nil)))) (fun h => absurd h (by decide +kernel))) (
            dxs_one (dx_retIs (dv_name 9 rfl (by nofun)) rfl)))) (fun h => absurd h (by decide +kernel))) trivial))))
      · exact dxs_cons (ρ1 := [_, _, _, _, _, _, _, _, _, _, _, _, _, _, _, _, _]) (dx_asg (dv_name 1 rfl (by nofun)) (dg_tup rfl (dgs_cons (dg_name (i := 2) sc_law_steps.nd) (dgs_cons (dg_name (i := 3) sc_law_steps.nd) (dgs_cons (dg_name (i := 4) sc_law_steps.nd) (dgs_cons (dg_name (i := 5) sc_law_steps.nd) (dgs_cons (dg_name (i := 6) sc_law_steps.nd) (dgs_cons (dg_name (i := 7) sc_law_steps.nd) dgs_nil)))))))) (
          dxs_cons (ρ1 := [_, _, _, _, _, _, _, _, _, _, _, _, _, _, _, _, _]) (dx_set (i := 8) (dv_is (s1 := .dat (strL (Row.words (.take : Row)))) (dv_split (dv_ixL (ds := texts p) (dv_name 0 rfl (by nofun)) (dv_name 2 rfl (by nofun)) hst) dv_str (by decide) (Nat.le_trans (Nat.add_le_add_right (txt_len _) 2) (show 22 ≤ sizeLine by decide))) (by rw [split_txt]; rfl)) sc_law_steps.nd) (
          dxs_guard (dt_cmp (dv_ixL (dv_name 8 rfl (by nofun)) dv_int rfl) (dv_lst (dd_cons dv_str (dd_cons dv_str dd_nil))) (c_inL hu _ _ (by rfl) (by rfl) (Nat.le_trans (Nat.min_le_left _ _) (by decide +kernel)))) (fun h => absurd h (by first | decide +kernel | rfl)) (fun _ =>
          dxs_guard (dt_cmp (dv_ixL (dv_name 8 rfl (by nofun)) dv_int rfl) dv_str (c_eqS _ _)) (fun h => absurd h (by first | decide +kernel | rfl)) (fun _ =>
          dxs_stop (dx_if (dt_cmp (dv_ixL (dv_name 8 rfl (by nofun)) dv_int rfl) dv_str (c_eqS _ _)) (fun _ => dxs_cons (ρ1 := [_, _, _, _, _, _, _, _, _, _, _, _, _, _, _, _, _]) (dx_set (i := 9) (dv_lst (dd_cons (dv_tup (dd_cons (dv_add (dv_name 2 rfl (by nofun)) dv_int) (dd_cons (dv_mul dv_int (dv_name 3 rfl (by nofun)) (by first | exact .inl ⟨by decide, by decide⟩ | exact .inr ⟨by decide, by decide⟩ | exact .inl ⟨by omega, by omega⟩ | exact .inr ⟨by omega, by omega⟩)) (dd_cons (dv_mul dv_int (dv_name 4 rfl (by nofun)) (by first | exact .inl ⟨by decide, by decide⟩ | exact .inr ⟨by decide, by decide⟩ | exact .inl ⟨by omega, by omega⟩ | exact .inr ⟨by omega, by omega⟩)) (dd_cons (dv_name 5 rfl (by nofun)) (dd_cons (dv_mul dv_int (dv_name 6 rfl (by nofun)) (by first | exact .inl ⟨by decide, by decide⟩ | exact .inr ⟨by decide, by decide⟩ | exact .inl ⟨by omega, by omega⟩ | exact .inr ⟨by omega, by omega⟩)) (dd_cons (dv_name 7 rfl (by nofun)) dd_nil))))))) dd_nil)) sc_law_steps.nd) (
            dxs_cons (ρ1 := [_, _, _, _, _, _, _, _, _, _, _, _, _, _, _, _, _]) (dx_if (dt_w (dw_or (k1 := true) (k2 := false) (dt_is (k1 := true) (dt_val (dv_name 5 rfl (by nofun))) rfl) (fun h => absurd h (by decide)))) (fun _ => dxs_cons (ρ1 := [_, _, _, _, _, _, _, _, _, _, _, _, _, _, _, _, _]) (dx_par2 (i := 10) (j := 11) rfl sc_law_steps.nd (da_cons (dv_add (dv_mul dv_int (dv_name 4 rfl (by nofun)) (by first | exact .inl ⟨by decide, by decide⟩ | exact .inr ⟨by decide, by decide⟩ | exact .inl ⟨by omega, by omega⟩ | exact .inr ⟨by omega, by omega⟩)) (dv_intB T.int (dv_name 5 rfl (by nofun)))) (da_cons (dv_add (dv_mul dv_int (dv_name 6 rfl (by nofun)) (by first | exact .inl ⟨by decide, by decide⟩ | exact .inr ⟨by decide, by decide⟩ | exact .inl ⟨by omega, by omega⟩ | exact .inr ⟨by omega, by omega⟩)) (dv_intB T.int (dv_name 7 rfl (by nofun)))) da_nil))) (
              dxs_cons (ρ1 := [_, _, _, _, _, _, _, _, _, _, _, _, _, _, _, _, _]) (dx_set (i := 9) (dv_cat (dv_name 9 rfl (by nofun)) (dv_lst (dd_cons (dv_tup (dd_cons (dv_add (dv_name 2 rfl (by nofun)) dv_int) (dd_cons (dv_mul dv_int (dv_name 3 rfl (by nofun)) (by first | exact .inl ⟨by decide, by decide⟩ | exact .inr ⟨by decide, by decide⟩ | exact .inl ⟨by omega, by omega⟩ | exact .inr ⟨by omega, by omega⟩)) (dd_cons (dv_name 10 rfl (by nofun)) (dd_cons (dv_name 5 rfl (by nofun)) (dd_cons (dv_name 11 rfl (by nofun)) (dd_cons (dv_name 7 rfl (by nofun)) dd_nil))))))) dd_nil)) (by first | decide | exact Nat.le_trans (Nat.le_of_ble_eq_true rfl) (show 64 ≤ sizeLine by decide))) sc_law_steps.nd) (
              dxs_cons (ρ1 := [_, _, _, _, _, _, _, _, _, _, _, _, _, _, _, _, _]) (dx_set (i := 9) (dv_cat (dv_name 9 rfl (by nofun)) (dv_lst (dd_cons (dv_tup (dd_cons (dv_add (dv_name 2 rfl (by nofun)) dv_int) (dd_cons (dv_mul dv_int (dv_name 3 rfl (by nofun)) (by first | exact .inl ⟨by decide, by decide⟩ | exact .inr ⟨by decide, by decide⟩ | exact .inl ⟨by omega, by omega⟩ | exact .inr ⟨by omega, by omega⟩)) (dd_cons (dv_name 10 rfl (by nofun)) (dd_cons dv_bl (dd_cons (dv_name 11 rfl (by nofun)) (dd_cons dv_bl dd_nil))))))) dd_nil)) (by first | decide | exact Nat.le_trans (Nat.le_of_ble_eq_true rfl) (show 64 ≤ sizeLine by decide))) sc_law_steps.nd) (
              dxs_nil)))) (fun h => absurd h (by decide +kernel))) (
            dxs_one (dx_retIs (dv_name 9 rfl (by nofun)) rfl)))) (fun h => absurd h (by decide +kernel))) trivial))))
      · exact dxs_cons (ρ1 := [_, _, _, _, _, _, _, _, _, _, _, _, _, _, _, _, _]) (dx_asg (dv_name 1 rfl (by nofun)) (dg_tup rfl (dgs_cons (dg_name (i := 2) sc_law_steps.nd) (dgs_cons (dg_name (i := 3) sc_law_steps.nd) (dgs_cons (dg_name (i := 4) sc_law_steps.nd) (dgs_cons (dg_name (i := 5) sc_law_steps.nd) (dgs_cons (dg_name (i := 6) sc_law_steps.nd) (dgs_cons (dg_name (i := 7) sc_law_steps.nd) dgs_nil)))))))) (
          dxs_cons (ρ1 := [_, _, _, _, _, _, _, _, _, _, _, _, _, _, _, _, _]) (dx_set (i := 8) (dv_is (s1 := .dat (strL (Row.words (.take : Row)))) (dv_split (dv_ixL (ds := texts p) (dv_name 0 rfl (by nofun)) (dv_name 2 rfl (by nofun)) hst) dv_str (by decide) (Nat.le_trans (Nat.add_le_add_right (txt_len _) 2) (show 22 ≤ sizeLine by decide))) (by rw [split_txt]; rfl)) sc_law_steps.nd) (
          dxs_guard (dt_cmp (dv_ixL (dv_name 8 rfl (by nofun)) dv_int rfl) (dv_lst (dd_cons dv_str (dd_cons dv_str dd_nil))) (c_inL hu _ _ (by rfl) (by rfl) (Nat.le_trans (Nat.min_le_left _ _) (by decide +kernel)))) (fun h => absurd h (by first | decide +kernel | rfl)) (fun _ =>
          dxs_guard (dt_cmp (dv_ixL (dv_name 8 rfl (by nofun)) dv_int rfl) dv_str (c_eqS _ _)) (fun h => absurd h (by first | decide +kernel | rfl)) (fun _ =>
          dxs_stop (dx_if (dt_cmp (dv_ixL (dv_name 8 rfl (by nofun)) dv_int rfl) dv_str (c_eqS _ _)) (fun _ => dxs_cons (ρ1 := [_, _, _, _, _, _, _, _, _, _, _, _, _, _, _, _, _]) (dx_set (i := 9) (dv_lst (dd_cons (dv_tup (dd_cons (dv_add (dv_name 2 rfl (by nofun)) dv_int) (dd_cons (dv_mul dv_int (dv_name 3 rfl (by nofun)) (by first | exact .inl ⟨by decide, by decide⟩ | exact .inr ⟨by decide, by decide⟩ | exact .inl ⟨by omega, by omega⟩ | exact .inr ⟨by omega, by omega⟩)) (dd_cons (dv_mul dv_int (dv_name 4 rfl (by nofun)) (by first | exact .inl ⟨by decide, by decide⟩ | exact .inr ⟨by decide, by decide⟩ | exact .inl ⟨by omega, by omega⟩ | exact .inr ⟨by omega, by omega⟩)) (dd_cons (dv_name 5 rfl (by nofun)) (dd_cons (dv_mul dv_int (dv_name 6 rfl (by nofun)) (by first | exact .inl ⟨by decide, by decide⟩ | exact .inr ⟨by decide, by decide⟩ | exact .inl ⟨by omega, by omega⟩ | exact .inr ⟨by omega, by omega⟩)) (dd_cons (dv_name 7 rfl (by nofun)) dd_nil))))))) dd_nil)) sc_law_steps.nd) (
            dxs_cons (ρ1 := [_, _, _, _, _, _, _, _, _, _, _, _, _, _, _, _, _]) (dx_if (dt_w (dw_or (k1 := true) (k2 := false) (dt_is (k1 := true) (dt_val (dv_name 5 rfl (by nofun))) rfl) (fun h => absurd h (by decide)))) (fun _ => dxs_cons (ρ1 := [_, _, _, _, _, _, _, _, _, _, _, _, _, _, _, _, _]) (dx_par2 (i := 10) (j := 11) rfl sc_law_steps.nd (da_cons (dv_add (dv_mul dv_int (dv_name 4 rfl (by nofun)) (by first | exact .inl ⟨by decide, by decide⟩ | exact .inr ⟨by decide, by decide⟩ | exact .inl ⟨by omega, by omega⟩ | exact .inr ⟨by omega, by omega⟩)) (dv_intB T.int (dv_name 5 rfl (by nofun)))) (da_cons (dv_add (dv_mul dv_int (dv_name 6 rfl (by nofun)) (by first | exact .inl ⟨by decide, by decide⟩ | exact .inr ⟨by decide, by decide⟩ | exact .inl ⟨by omega, by omega⟩ | exact .inr ⟨by omega, by omega⟩)) (dv_intB T.int (dv_name 7 rfl (by nofun)))) da_nil))) (
              dxs_cons (ρ1 := [_, _, _, _, _, _, _, _, _, _, _, _, _, _, _, _, _]) (dx_set (i := 9) (dv_cat (dv_name 9 rfl (by nofun)) (dv_lst (dd_cons (dv_tup (dd_cons (dv_add (dv_name 2 rfl (by nofun)) dv_int) (dd_cons (dv_mul dv_int (dv_name 3 rfl (by nofun)) (by first | exact .inl ⟨by decide, by decide⟩ | exact .inr ⟨by decide, by decide⟩ | exact .inl ⟨by omega, by omega⟩ | exact .inr ⟨by omega, by omega⟩)) (dd_cons (dv_name 10 rfl (by nofun)) (dd_cons (dv_name 5 rfl (by nofun)) (dd_cons (dv_name 11 rfl (by nofun)) (dd_cons (dv_name 7 rfl (by nofun)) dd_nil))))))) dd_nil)) (by first | decide | exact Nat.le_trans (Nat.le_of_ble_eq_true rfl) (show 64 ≤ sizeLine by decide))) sc_law_steps.nd) (
              dxs_cons (ρ1 := [_, _, _, _, _, _, _, _, _, _, _, _, _, _, _, _, _]) (dx_set (i := 9) (dv_cat (dv_name 9 rfl (by nofun)) (dv_lst (dd_cons (dv_tup (dd_cons (dv_add (dv_name 2 rfl (by nofun)) dv_int) (dd_cons (dv_mul dv_int (dv_name 3 rfl (by nofun)) (by first | exact .inl ⟨by decide, by decide⟩ | exact .inr ⟨by decide, by decide⟩ | exact .inl ⟨by omega, by omega⟩ | exact .inr ⟨by omega, by omega⟩)) (dd_cons (dv_name 10 rfl (by nofun)) (dd_cons dv_bl (dd_cons (dv_name 11 rfl (by nofun)) (dd_cons dv_bl dd_nil))))))) dd_nil)) (by first | decide | exact Nat.le_trans (Nat.le_of_ble_eq_true rfl) (show 64 ≤ sizeLine by decide))) sc_law_steps.nd) (
              dxs_nil)))) (fun h => absurd h (by decide +kernel))) (
            dxs_one (dx_retIs (dv_name 9 rfl (by nofun)) rfl)))) (fun h => absurd h (by decide +kernel))) trivial))))
    | again =>
      exact dxs_cons (ρ1 := [_, _, _, _, _, _, _, _, _, _, _, _, _, _, _, _, _]) (dx_asg (dv_name 1 rfl (by nofun)) (dg_tup rfl (dgs_cons (dg_name (i := 2) sc_law_steps.nd) (dgs_cons (dg_name (i := 3) sc_law_steps.nd) (dgs_cons (dg_name (i := 4) sc_law_steps.nd) (dgs_cons (dg_name (i := 5) sc_law_steps.nd) (dgs_cons (dg_name (i := 6) sc_law_steps.nd) (dgs_cons (dg_name (i := 7) sc_law_steps.nd) dgs_nil)))))))) (
        dxs_cons (ρ1 := [_, _, _, _, _, _, _, _, _, _, _, _, _, _, _, _, _]) (dx_set (i := 8) (dv_is (s1 := .dat (strL (Row.words (.again : Row)))) (dv_split (dv_ixL (ds := texts p) (dv_name 0 rfl (by nofun)) (dv_name 2 rfl (by nofun)) hst) dv_str (by decide) (Nat.le_trans (Nat.add_le_add_right (txt_len _) 2) (show 22 ≤ sizeLine by decide))) (by rw [split_txt]; rfl)) sc_law_steps.nd) (
        dxs_stop (dx_if (dt_cmp (dv_ixL (dv_name 8 rfl (by nofun)) dv_int rfl) (dv_lst (dd_cons dv_str (dd_cons dv_str dd_nil))) (c_inL hu _ _ (by rfl) (by rfl) (Nat.le_trans (Nat.min_le_left _ _) (by decide +kernel)))) (fun _ => dxs_one (dx_retIs (dv_lst dd_nil) rfl)) (fun h => absurd h (by decide +kernel))) trivial))
    | giveC =>
      exact dxs_cons (ρ1 := [_, _, _, _, _, _, _, _, _, _, _, _, _, _, _, _, _]) (dx_asg (dv_name 1 rfl (by nofun)) (dg_tup rfl (dgs_cons (dg_name (i := 2) sc_law_steps.nd) (dgs_cons (dg_name (i := 3) sc_law_steps.nd) (dgs_cons (dg_name (i := 4) sc_law_steps.nd) (dgs_cons (dg_name (i := 5) sc_law_steps.nd) (dgs_cons (dg_name (i := 6) sc_law_steps.nd) (dgs_cons (dg_name (i := 7) sc_law_steps.nd) dgs_nil)))))))) (
        dxs_cons (ρ1 := [_, _, _, _, _, _, _, _, _, _, _, _, _, _, _, _, _]) (dx_set (i := 8) (dv_is (s1 := .dat (strL (Row.words (.giveC : Row)))) (dv_split (dv_ixL (ds := texts p) (dv_name 0 rfl (by nofun)) (dv_name 2 rfl (by nofun)) hst) dv_str (by decide) (Nat.le_trans (Nat.add_le_add_right (txt_len _) 2) (show 22 ≤ sizeLine by decide))) (by rw [split_txt]; rfl)) sc_law_steps.nd) (
        dxs_stop (dx_if (dt_cmp (dv_ixL (dv_name 8 rfl (by nofun)) dv_int rfl) (dv_lst (dd_cons dv_str (dd_cons dv_str dd_nil))) (c_inL hu _ _ (by rfl) (by rfl) (Nat.le_trans (Nat.min_le_left _ _) (by decide +kernel)))) (fun _ => dxs_one (dx_retIs (dv_lst dd_nil) rfl)) (fun h => absurd h (by decide +kernel))) trivial))
    | giveR =>
      exact dxs_cons (ρ1 := [_, _, _, _, _, _, _, _, _, _, _, _, _, _, _, _, _]) (dx_asg (dv_name 1 rfl (by nofun)) (dg_tup rfl (dgs_cons (dg_name (i := 2) sc_law_steps.nd) (dgs_cons (dg_name (i := 3) sc_law_steps.nd) (dgs_cons (dg_name (i := 4) sc_law_steps.nd) (dgs_cons (dg_name (i := 5) sc_law_steps.nd) (dgs_cons (dg_name (i := 6) sc_law_steps.nd) (dgs_cons (dg_name (i := 7) sc_law_steps.nd) dgs_nil)))))))) (
        dxs_cons (ρ1 := [_, _, _, _, _, _, _, _, _, _, _, _, _, _, _, _, _]) (dx_set (i := 8) (dv_is (s1 := .dat (strL (Row.words (.giveR : Row)))) (dv_split (dv_ixL (ds := texts p) (dv_name 0 rfl (by nofun)) (dv_name 2 rfl (by nofun)) hst) dv_str (by decide) (Nat.le_trans (Nat.add_le_add_right (txt_len _) 2) (show 22 ≤ sizeLine by decide))) (by rw [split_txt]; rfl)) sc_law_steps.nd) (
        dxs_stop (dx_if (dt_cmp (dv_ixL (dv_name 8 rfl (by nofun)) dv_int rfl) (dv_lst (dd_cons dv_str (dd_cons dv_str dd_nil))) (c_inL hu _ _ (by rfl) (by rfl) (Nat.le_trans (Nat.min_le_left _ _) (by decide +kernel)))) (fun _ => dxs_one (dx_retIs (dv_lst dd_nil) rfl)) (fun h => absurd h (by decide +kernel))) trivial))
    | go d =>
      exact dxs_cons (ρ1 := [_, _, _, _, _, _, _, _, _, _, _, _, _, _, _, _, _]) (dx_asg (dv_name 1 rfl (by nofun)) (dg_tup rfl (dgs_cons (dg_name (i := 2) sc_law_steps.nd) (dgs_cons (dg_name (i := 3) sc_law_steps.nd) (dgs_cons (dg_name (i := 4) sc_law_steps.nd) (dgs_cons (dg_name (i := 5) sc_law_steps.nd) (dgs_cons (dg_name (i := 6) sc_law_steps.nd) (dgs_cons (dg_name (i := 7) sc_law_steps.nd) dgs_nil)))))))) (
        dxs_cons (ρ1 := [_, _, _, _, _, _, _, _, _, _, _, _, _, _, _, _, _]) (dx_set (i := 8) (dv_is (s1 := .dat (strL (Row.words (.go d : Row)))) (dv_split (dv_ixL (ds := texts p) (dv_name 0 rfl (by nofun)) (dv_name 2 rfl (by nofun)) hst) dv_str (by decide) (Nat.le_trans (Nat.add_le_add_right (txt_len _) 2) (show 22 ≤ sizeLine by decide))) (by rw [split_txt]; rfl)) sc_law_steps.nd) (
        dxs_guard (dt_cmp (dv_ixL (dv_name 8 rfl (by nofun)) dv_int rfl) (dv_lst (dd_cons dv_str (dd_cons dv_str dd_nil))) (c_inL hu _ _ (by rfl) (by rfl) (Nat.le_trans (Nat.min_le_left _ _) (by decide +kernel)))) (fun h => absurd h (by first | decide +kernel | rfl)) (fun _ =>
        dxs_stop (dx_if (dt_cmp (dv_ixL (dv_name 8 rfl (by nofun)) dv_int rfl) dv_str (c_eqS _ _)) (fun _ => dxs_one (dx_retIs (dv_lst (dd_cons (dv_tup (dd_cons (dv_intS T.int (dv_ixL (dv_name 8 rfl (by nofun)) dv_int rfl) (dig_int _) (show 1 ≤ 640 by decide)) (dd_cons (dv_name 3 rfl (by nofun)) (dd_cons (dv_name 4 rfl (by nofun)) (dd_cons (dv_name 5 rfl (by nofun)) (dd_cons (dv_name 6 rfl (by nofun)) (dd_cons (dv_name 7 rfl (by nofun)) dd_nil))))))) dd_nil)) rfl)) (fun h => absurd h (by decide +kernel))) trivial)))
    | ifc q d =>
      by_cases g1 : s.a < tms q s.j <;> by_cases g2 : tms q s.j < s.b + bi s.x
      · rw [lifc_tt q d s g1 g2]
        exact dxs_cons (ρ1 := [_, _, _, _, _, _, _, _, _, _, _, _, _, _, _, _, _]) (dx_asg (dv_name 1 rfl (by nofun)) (dg_tup rfl (dgs_cons (dg_name (i := 2) sc_law_steps.nd) (dgs_cons (dg_name (i := 3) sc_law_steps.nd) (dgs_cons (dg_name (i := 4) sc_law_steps.nd) (dgs_cons (dg_name (i := 5) sc_law_steps.nd) (dgs_cons (dg_name (i := 6) sc_law_steps.nd) (dgs_cons (dg_name (i := 7) sc_law_steps.nd) dgs_nil)))))))) (
          dxs_cons (ρ1 := [_, _, _, _, _, _, _, _, _, _, _, _, _, _, _, _, _]) (dx_set (i := 8) (dv_is (s1 := .dat (strL (Row.words (.ifc q d : Row)))) (dv_split (dv_ixL (ds := texts p) (dv_name 0 rfl (by nofun)) (dv_name 2 rfl (by nofun)) hst) dv_str (by decide) (Nat.le_trans (Nat.add_le_add_right (txt_len _) 2) (show 22 ≤ sizeLine by decide))) (by rw [split_txt]; rfl)) sc_law_steps.nd) (
          dxs_guard (dt_cmp (dv_ixL (dv_name 8 rfl (by nofun)) dv_int rfl) (dv_lst (dd_cons dv_str (dd_cons dv_str dd_nil))) (c_inL hu _ _ (by rfl) (by rfl) (Nat.le_trans (Nat.min_le_left _ _) (by decide +kernel)))) (fun h => absurd h (by first | decide +kernel | rfl)) (fun _ =>
          dxs_guard (dt_cmp (dv_ixL (dv_name 8 rfl (by nofun)) dv_int rfl) dv_str (c_eqS _ _)) (fun h => absurd h (by first | decide +kernel | rfl)) (fun _ =>
          dxs_guard (dt_cmp (dv_ixL (dv_name 8 rfl (by nofun)) dv_int rfl) dv_str (c_eqS _ _)) (fun h => absurd h (by first | decide +kernel | rfl)) (fun _ =>
          dxs_cons (ρ1 := [_, _, _, _, _, _, _, _, _, _, _, _, _, _, _, _, _]) (dx_set (i := 12) (dv_if (dt_cmp (dv_ixL (dv_name 8 rfl (by nofun)) dv_int rfl) dv_str (c_eqS _ _)) (fun _ => (dv_ixL (dv_name 8 rfl (by nofun)) dv_int rfl)) (fun h => absurd h (by decide +kernel))) sc_law_steps.nd) (
          dxs_cons (ρ1 := [_, _, _, _, _, _, _, _, _, _, _, _, _, _, _, _, _]) (dx_set (i := 13) (dv_times (q := q) T.int (dv_name 12 rfl (by nofun)) (dv_name 12 rfl (by nofun)) (dv_name 12 rfl (by nofun)) (dv_name 6 rfl (by nofun))) sc_law_steps.nd) (
          dxs_guard (dt_cmp (dv_ixL (dv_name 8 rfl (by nofun)) dv_int rfl) dv_str (c_neS _ _)) (fun h => absurd h (by first | decide +kernel | rfl)) (fun _ =>
          dxs_guard (dt_cmp (dv_ixL (dv_name 8 rfl (by nofun)) dv_int rfl) dv_str (c_eqS _ _)) (fun h => absurd h (by first | decide +kernel | rfl)) (fun _ =>
          dxs_cons (ρ1 := [_, _, _, _, _, _, _, _, _, _, _, _, _, _, _, _, _]) (dx_set (i := 9) (dv_lstM dd_nil) sc_law_steps.nd) (
          dxs_cons (ρ1 := [_, _, _, _, _, _, _, _, _, _, _, _, _, _, _, _, _]) (dx_if (dt_is (k1 := true) (dt_cmp (dv_name 3 rfl (by nofun)) (dv_name 13 rfl (by nofun)) (c_lt _ _)) (decide_eq_true g1)) (fun _ => dxs_cons (ρ1 := [_, _, _, _, _, _, _, _, _, _, _, _, _, _, _, _, _]) (dx_set (i := 16) (dv_is (s1 := .dat (.bool false)) (dv_cmp (dv_name 13 rfl (by nofun)) (dv_add (dv_name 4 rfl (by nofun)) (dv_intB T.int (dv_name 5 rfl (by nofun)))) (c_ge _ _)) (congrArg (fun z => Sl.dat (.bool z)) (decide_eq_false (by unfold bi at g2; omega)))) sc_law_steps.nd) (
            dxs_cons (ρ1 := [_, _, _, _, _, _, _, _, _, _, _, _, _, _, _, _, _]) (dx_expr (dv_append (dv_name 9 rfl (by nofun)) (dv_tup (dd_cons (dv_intS T.int (dv_ixL (dv_name 8 rfl (by nofun)) dv_int rfl) (dig_int _) (show 1 ≤ 640 by decide)) (dd_cons (dv_name 3 rfl (by nofun)) (dd_cons (dv_if (dt_is (k1 := false) (dt_val (dv_name 16 rfl (by nofun))) rfl) (fun h => absurd h (by decide +kernel)) (fun _ => (dv_name 13 rfl (by nofun)))) (dd_cons (dv_is (s1 := .dat (.bool false)) (dv_and (dv_name 5 rfl (by nofun)) fun hb0 => (dv_one (dv_name 16 rfl (by nofun)))) (congrArg (fun z => Sl.dat (.bool z)) (Bool.and_false _))) (dd_cons (dv_name 6 rfl (by nofun)) (dd_cons (dv_name 7 rfl (by nofun)) dd_nil))))))) rfl rfl (by first | decide | exact Nat.lt_of_le_of_lt (Nat.le_of_ble_eq_true rfl) (show 64 < sizeLine by decide)))) (
            dxs_nil))) (fun h => absurd h (by decide +kernel))) (
          dxs_cons (ρ1 := [_, _, _, _, _, _, _, _, _, _, _, _, _, _, _, _, _]) (dx_if (dt_is (k1 := true) (dt_cmp (dv_name 13 rfl (by nofun)) (dv_add (dv_name 4 rfl (by nofun)) (dv_intB T.int (dv_name 5 rfl (by nofun)))) (c_lt _ _)) (decide_eq_true g2)) (fun _ => dxs_cons (ρ1 := [_, _, _, _, _, _, _, _, _, _, _, _, _, _, _, _, _]) (dx_expr (dv_append (dv_name 9 rfl (by nofun)) (dv_tup (dd_cons (dv_add (dv_name 2 rfl (by nofun)) dv_int) (dd_cons (dv_if (dt_is (k1 := false) (dt_cmp (dv_name 13 rfl (by nofun)) (dv_name 3 rfl (by nofun)) (c_lt _ _)) (decide_eq_false (by omega))) (fun h => absurd h (by decide +kernel)) (fun _ => (dv_name 13 rfl (by nofun)))) (dd_cons (dv_name 4 rfl (by nofun)) (dd_cons (dv_name 5 rfl (by nofun)) (dd_cons (dv_name 6 rfl (by nofun)) (dd_cons (dv_name 7 rfl (by nofun)) dd_nil))))))) rfl rfl (by first | decide | exact Nat.lt_of_le_of_lt (Nat.le_of_ble_eq_true rfl) (show 64 < sizeLine by decide)))) (
            dxs_nil)) (fun h => absurd h (by decide +kernel))) (
          dxs_one (dx_retShow (dv_name 9 rfl (by nofun)) h0 rfl)))))))))))))
      · rw [ifc_tf q d s g1 g2]
        exact dxs_cons (ρ1 := [_, _, _, _, _, _, _, _, _, _, _, _, _, _, _, _, _]) (dx_asg (dv_name 1 rfl (by nofun)) (dg_tup rfl (dgs_cons (dg_name (i := 2) sc_law_steps.nd) (dgs_cons (dg_name (i := 3) sc_law_steps.nd) (dgs_cons (dg_name (i := 4) sc_law_steps.nd) (dgs_cons (dg_name (i := 5) sc_law_steps.nd) (dgs_cons (dg_name (i := 6) sc_law_steps.nd) (dgs_cons (dg_name (i := 7) sc_law_steps.nd) dgs_nil)))))))) (
          dxs_cons (ρ1 := [_, _, _, _, _, _, _, _, _, _, _, _, _, _, _, _, _]) (dx_set (i := 8) (dv_is (s1 := .dat (strL (Row.words (.ifc q d : Row)))) (dv_split (dv_ixL (ds := texts p) (dv_name 0 rfl (by nofun)) (dv_name 2 rfl (by nofun)) hst) dv_str (by decide) (Nat.le_trans (Nat.add_le_add_right (txt_len _) 2) (show 22 ≤ sizeLine by decide))) (by rw [split_txt]; rfl)) sc_law_steps.nd) (
          dxs_guard (dt_cmp (dv_ixL (dv_name 8 rfl (by nofun)) dv_int rfl) (dv_lst (dd_cons dv_str (dd_cons dv_str dd_nil))) (c_inL hu _ _ (by rfl) (by rfl) (Nat.le_trans (Nat.min_le_left _ _) (by decide +kernel)))) (fun h => absurd h (by first | decide +kernel | rfl)) (fun _ =>
          dxs_guard (dt_cmp (dv_ixL (dv_name 8 rfl (by nofun)) dv_int rfl) dv_str (c_eqS _ _)) (fun h => absurd h (by first | decide +kernel | rfl)) (fun _ =>
          dxs_guard (dt_cmp (dv_ixL (dv_name 8 rfl (by nofun)) dv_int rfl) dv_str (c_eqS _ _)) (fun h => absurd h (by first | decide +kernel | rfl)) (fun _ =>
          dxs_cons (ρ1 := [_, _, _, _, _, _, _, _, _, _, _, _, _, _, _, _, _]) (dx_set (i := 12) (dv_if (dt_cmp (dv_ixL (dv_name 8 rfl (by nofun)) dv_int rfl) dv_str (c_eqS _ _)) (fun _ => (dv_ixL (dv_name 8 rfl (by nofun)) dv_int rfl)) (fun h => absurd h (by decide +kernel))) sc_law_steps.nd) (
          dxs_cons (ρ1 := [_, _, _, _, _, _, _, _, _, _, _, _, _, _, _, _, _]) (dx_set (i := 13) (dv_times (q := q) T.int (dv_name 12 rfl (by nofun)) (dv_name 12 rfl (by nofun)) (dv_name 12 rfl (by nofun)) (dv_name 6 rfl (by nofun))) sc_law_steps.nd) (
          dxs_guard (dt_cmp (dv_ixL (dv_name 8 rfl (by nofun)) dv_int rfl) dv_str (c_neS _ _)) (fun h => absurd h (by first | decide +kernel | rfl)) (fun _ =>
          dxs_guard (dt_cmp (dv_ixL (dv_name 8 rfl (by nofun)) dv_int rfl) dv_str (c_eqS _ _)) (fun h => absurd h (by first | decide +kernel | rfl)) (fun _ =>
          dxs_cons (ρ1 := [_, _, _, _, _, _, _, _, _, _, _, _, _, _, _, _, _]) (dx_set (i := 9) (dv_lstM dd_nil) sc_law_steps.nd) (
          dxs_cons (ρ1 := [_, _, _, _, _, _, _, _, _, _, _, _, _, _, _, _, _]) (dx_if (dt_is (k1 := true) (dt_cmp (dv_name 3 rfl (by nofun)) (dv_name 13 rfl (by nofun)) (c_lt _ _)) (decide_eq_true g1)) (fun _ => dxs_cons (ρ1 := [_, _, _, _, _, _, _, _, _, _, _, _, _, _, _, _, _]) (dx_set (i := 16) (dv_is (s1 := .dat (.bool true)) (dv_cmp (dv_name 13 rfl (by nofun)) (dv_add (dv_name 4 rfl (by nofun)) (dv_intB T.int (dv_name 5 rfl (by nofun)))) (c_ge _ _)) (congrArg (fun z => Sl.dat (.bool z)) (decide_eq_true (by unfold bi at g2; omega)))) sc_law_steps.nd) (
            dxs_cons (ρ1 := [_, _, _, _, _, _, _, _, _, _, _, _, _, _, _, _, _]) (dx_expr (dv_append (dv_name 9 rfl (by nofun)) (dv_tup (dd_cons (dv_intS T.int (dv_ixL (dv_name 8 rfl (by nofun)) dv_int rfl) (dig_int _) (show 1 ≤ 640 by decide)) (dd_cons (dv_name 3 rfl (by nofun)) (dd_cons (dv_if (dt_is (k1 := true) (dt_val (dv_name 16 rfl (by nofun))) rfl) (fun _ => (dv_name 4 rfl (by nofun))) (fun h => absurd h (by decide +kernel))) (dd_cons (dv_is (s1 := .dat (.bool s.x)) (dv_and (dv_name 5 rfl (by nofun)) fun hb0 => (dv_one (dv_name 16 rfl (by nofun)))) (congrArg (fun z => Sl.dat (.bool z)) (Bool.and_true _))) (dd_cons (dv_name 6 rfl (by nofun)) (dd_cons (dv_name 7 rfl (by nofun)) dd_nil))))))) rfl rfl (by first | decide | exact Nat.lt_of_le_of_lt (Nat.le_of_ble_eq_true rfl) (show 64 < sizeLine by decide)))) (
            dxs_nil))) (fun h => absurd h (by decide +kernel))) (
          dxs_cons (ρ1 := [_, _, _, _, _, _, _, _, _, _, _, _, _, _, _, _, _]) (dx_if (dt_is (k1 := false) (dt_cmp (dv_name 13 rfl (by nofun)) (dv_add (dv_name 4 rfl (by nofun)) (dv_intB T.int (dv_name 5 rfl (by nofun)))) (c_lt _ _)) (decide_eq_false g2)) (fun h => absurd h (by decide +kernel)) (fun _ => dxs_nil)) (
          dxs_one (dx_retShow (dv_name 9 rfl (by nofun)) h0 rfl)))))))))))))
      · rw [lifc_ft q d s g1 g2]
        exact dxs_cons (ρ1 := [_, _, _, _, _, _, _, _, _, _, _, _, _, _, _, _, _]) (dx_asg (dv_name 1 rfl (by nofun)) (dg_tup rfl (dgs_cons (dg_name (i := 2) sc_law_steps.nd) (dgs_cons (dg_name (i := 3) sc_law_steps.nd) (dgs_cons (dg_name (i := 4) sc_law_steps.nd) (dgs_cons (dg_name (i := 5) sc_law_steps.nd) (dgs_cons (dg_name (i := 6) sc_law_steps.nd) (dgs_cons (dg_name (i := 7) sc_law_steps.nd) dgs_nil)))))))) (
          dxs_cons (ρ1 := [_, _, _, _, _, _, _, _, _, _, _, _, _, _, _, _, _]) (dx_set (i := 8) (dv_is (s1 := .dat (strL (Row.words (.ifc q d : Row)))) (dv_split (dv_ixL (ds := texts p) (dv_name 0 rfl (by nofun)) (dv_name 2 rfl (by nofun)) hst) dv_str (by decide) (Nat.le_trans (Nat.add_le_add_right (txt_len _) 2) (show 22 ≤ sizeLine by decide))) (by rw [split_txt]; rfl)) sc_law_steps.nd) (
          dxs_guard (dt_cmp (dv_ixL (dv_name 8 rfl (by nofun)) dv_int rfl) (dv_lst (dd_cons dv_str (dd_cons dv_str dd_nil))) (c_inL hu _ _ (by rfl) (by rfl) (Nat.le_trans (Nat.min_le_left _ _) (by decide +kernel)))) (fun h => absurd h (by first | decide +kernel | rfl)) (fun _ =>
          dxs_guard (dt_cmp (dv_ixL (dv_name 8 rfl (by nofun)) dv_int rfl) dv_str (c_eqS _ _)) (fun h => absurd h (by first | decide +kernel | rfl)) (fun _ =>
          dxs_guard (dt_cmp (dv_ixL (dv_name 8 rfl (by nofun)) dv_int rfl) dv_str (c_eqS _ _)) (fun h => absurd h (by first | decide +kernel | rfl)) (fun _ =>
          dxs_cons (ρ1 := [_, _, _, _, _, _, _, _, _, _, _, _, _, _, _, _, _]) (dx_set (i := 12) (dv_if (dt_cmp (dv_ixL (dv_name 8 rfl (by nofun)) dv_int rfl) dv_str (c_eqS _ _)) (fun _ => (dv_ixL (dv_name 8 rfl (by nofun)) dv_int rfl)) (fun h => absurd h (by decide +kernel))) sc_law_steps.nd) (
          dxs_cons (ρ1 := [_, _, _, _, _, _, _, _, _, _, _, _, _, _, _, _, _]) (dx_set (i := 13) (dv_times (q := q) T.int (dv_name 12 rfl (by nofun)) (dv_name 12 rfl (by nofun)) (dv_name 12 rfl (by nofun)) (dv_name 6 rfl (by nofun))) sc_law_steps.nd) (
          dxs_guard (dt_cmp (dv_ixL (dv_name 8 rfl (by nofun)) dv_int rfl) dv_str (c_neS _ _)) (fun h => absurd h (by first | decide +kernel | rfl)) (fun _ =>
          dxs_guard (dt_cmp (dv_ixL (dv_name 8 rfl (by nofun)) dv_int rfl) dv_str (c_eqS _ _)) (fun h => absurd h (by first | decide +kernel | rfl)) (fun _ =>
          dxs_cons (ρ1 := [_, _, _, _, _, _, _, _, _, _, _, _, _, _, _, _, _]) (dx_set (i := 9) (dv_lstM dd_nil) sc_law_steps.nd) (
          dxs_cons (ρ1 := [_, _, _, _, _, _, _, _, _, _, _, _, _, _, _, _, _]) (dx_if (dt_is (k1 := false) (dt_cmp (dv_name 3 rfl (by nofun)) (dv_name 13 rfl (by nofun)) (c_lt _ _)) (decide_eq_false g1)) (fun h => absurd h (by decide +kernel)) (fun _ => dxs_nil)) (
          dxs_cons (ρ1 := [_, _, _, _, _, _, _, _, _, _, _, _, _, _, _, _, _]) (dx_if (dt_is (k1 := true) (dt_cmp (dv_name 13 rfl (by nofun)) (dv_add (dv_name 4 rfl (by nofun)) (dv_intB T.int (dv_name 5 rfl (by nofun)))) (c_lt _ _)) (decide_eq_true g2)) (fun _ => dxs_cons (ρ1 := [_, _, _, _, _, _, _, _, _, _, _, _, _, _, _, _, _]) (dx_expr (dv_append (dv_name 9 rfl (by nofun)) (dv_tup (dd_cons (dv_add (dv_name 2 rfl (by nofun)) dv_int) (dd_cons (dv_ifN (dt_cmp (dv_name 13 rfl (by nofun)) (dv_name 3 rfl (by nofun)) (c_lt _ _)) (dv_name 3 rfl (by nofun)) (dv_name 13 rfl (by nofun))) (dd_cons (dv_name 4 rfl (by nofun)) (dd_cons (dv_name 5 rfl (by nofun)) (dd_cons (dv_name 6 rfl (by nofun)) (dd_cons (dv_name 7 rfl (by nofun)) dd_nil))))))) rfl rfl (by first | decide | exact Nat.lt_of_le_of_lt (Nat.le_of_ble_eq_true rfl) (show 64 < sizeLine by decide)))) (
            dxs_nil)) (fun h => absurd h (by decide +kernel))) (
          dxs_one (dx_retShow (dv_name 9 rfl (by nofun)) h0 rfl)))))))))))))
      · rw [ifc_ff q d s g1 g2]
        exact dxs_cons (ρ1 := [_, _, _, _, _, _, _, _, _, _, _, _, _, _, _, _, _]) (dx_asg (dv_name 1 rfl (by nofun)) (dg_tup rfl (dgs_cons (dg_name (i := 2) sc_law_steps.nd) (dgs_cons (dg_name (i := 3) sc_law_steps.nd) (dgs_cons (dg_name (i := 4) sc_law_steps.nd) (dgs_cons (dg_name (i := 5) sc_law_steps.nd) (dgs_cons (dg_name (i := 6) sc_law_steps.nd) (dgs_cons (dg_name (i := 7) sc_law_steps.nd) dgs_nil)))))))) (
          dxs_cons (ρ1 := [_, _, _, _, _, _, _, _, _, _, _, _, _, _, _, _, _]) (dx_set (i := 8) (dv_is (s1 := .dat (strL (Row.words (.ifc q d : Row)))) (dv_split (dv_ixL (ds := texts p) (dv_name 0 rfl (by nofun)) (dv_name 2 rfl (by nofun)) hst) dv_str (by decide) (Nat.le_trans (Nat.add_le_add_right (txt_len _) 2) (show 22 ≤ sizeLine by decide))) (by rw [split_txt]; rfl)) sc_law_steps.nd) (
          dxs_guard (dt_cmp (dv_ixL (dv_name 8 rfl (by nofun)) dv_int rfl) (dv_lst (dd_cons dv_str (dd_cons dv_str dd_nil))) (c_inL hu _ _ (by rfl) (by rfl) (Nat.le_trans (Nat.min_le_left _ _) (by decide +kernel)))) (fun h => absurd h (by first | decide +kernel | rfl)) (fun _ =>
          dxs_guard (dt_cmp (dv_ixL (dv_name 8 rfl (by nofun)) dv_int rfl) dv_str (c_eqS _ _)) (fun h => absurd h (by first | decide +kernel | rfl)) (fun _ =>
          dxs_guard (dt_cmp (dv_ixL (dv_name 8 rfl (by nofun)) dv_int rfl) dv_str (c_eqS _ _)) (fun h => absurd h (by first | decide +kernel | rfl)) (fun _ =>
          dxs_cons (ρ1 := [_, _, _, _, _, _, _, _, _, _, _, _, _, _, _, _, _]) (dx_set (i := 12) (dv_if (dt_cmp (dv_ixL (dv_name 8 rfl (by nofun)) dv_int rfl) dv_str (c_eqS _ _)) (fun _ => (dv_ixL (dv_name 8 rfl (by nofun)) dv_int rfl)) (fun h => absurd h (by decide +kernel))) sc_law_steps.nd) (
          dxs_cons (ρ1 := [_, _, _, _, _, _, _, _, _, _, _, _, _, _, _, _, _]) (dx_set (i := 13) (dv_times (q := q) T.int (dv_name 12 rfl (by nofun)) (dv_name 12 rfl (by nofun)) (dv_name 12 rfl (by nofun)) (dv_name 6 rfl (by nofun))) sc_law_steps.nd) (
          dxs_guard (dt_cmp (dv_ixL (dv_name 8 rfl (by nofun)) dv_int rfl) dv_str (c_neS _ _)) (fun h => absurd h (by first | decide +kernel | rfl)) (fun _ =>
          dxs_guard (dt_cmp (dv_ixL (dv_name 8 rfl (by nofun)) dv_int rfl) dv_str (c_eqS _ _)) (fun h => absurd h (by first | decide +kernel | rfl)) (fun _ =>
          dxs_cons (ρ1 := [_, _, _, _, _, _, _, _, _, _, _, _, _, _, _, _, _]) (dx_set (i := 9) (dv_lstM dd_nil) sc_law_steps.nd) (
          dxs_cons (ρ1 := [_, _, _, _, _, _, _, _, _, _, _, _, _, _, _, _, _]) (dx_if (dt_is (k1 := false) (dt_cmp (dv_name 3 rfl (by nofun)) (dv_name 13 rfl (by nofun)) (c_lt _ _)) (decide_eq_false g1)) (fun h => absurd h (by decide +kernel)) (fun _ => dxs_nil)) (
          dxs_cons (ρ1 := [_, _, _, _, _, _, _, _, _, _, _, _, _, _, _, _, _]) (dx_if (dt_is (k1 := false) (dt_cmp (dv_name 13 rfl (by nofun)) (dv_add (dv_name 4 rfl (by nofun)) (dv_intB T.int (dv_name 5 rfl (by nofun)))) (c_lt _ _)) (decide_eq_false g2)) (fun h => absurd h (by decide +kernel)) (fun _ => dxs_nil)) (
          dxs_one (dx_retShow (dv_name 9 rfl (by nofun)) h0 rfl)))))))))))))
    | ifv q d =>
      exact dxs_cons (ρ1 := [_, _, _, _, _, _, _, _, _, _, _, _, _, _, _, _, _]) (dx_asg (dv_name 1 rfl (by nofun)) (dg_tup rfl (dgs_cons (dg_name (i := 2) sc_law_steps.nd) (dgs_cons (dg_name (i := 3) sc_law_steps.nd) (dgs_cons (dg_name (i := 4) sc_law_steps.nd) (dgs_cons (dg_name (i := 5) sc_law_steps.nd) (dgs_cons (dg_name (i := 6) sc_law_steps.nd) (dgs_cons (dg_name (i := 7) sc_law_steps.nd) dgs_nil)))))))) (
        dxs_cons (ρ1 := [_, _, _, _, _, _, _, _, _, _, _, _, _, _, _, _, _]) (dx_set (i := 8) (dv_is (s1 := .dat (strL (Row.words (.ifv q d : Row)))) (dv_split (dv_ixL (ds := texts p) (dv_name 0 rfl (by nofun)) (dv_name 2 rfl (by nofun)) hst) dv_str (by decide) (Nat.le_trans (Nat.add_le_add_right (txt_len _) 2) (show 22 ≤ sizeLine by decide))) (by rw [split_txt]; rfl)) sc_law_steps.nd) (
        dxs_guard (dt_cmp (dv_ixL (dv_name 8 rfl (by nofun)) dv_int rfl) (dv_lst (dd_cons dv_str (dd_cons dv_str dd_nil))) (c_inL hu _ _ (by rfl) (by rfl) (Nat.le_trans (Nat.min_le_left _ _) (by decide +kernel)))) (fun h => absurd h (by first | decide +kernel | rfl)) (fun _ =>
        dxs_guard (dt_cmp (dv_ixL (dv_name 8 rfl (by nofun)) dv_int rfl) dv_str (c_eqS _ _)) (fun h => absurd h (by first | decide +kernel | rfl)) (fun _ =>
        dxs_guard (dt_cmp (dv_ixL (dv_name 8 rfl (by nofun)) dv_int rfl) dv_str (c_eqS _ _)) (fun h => absurd h (by first | decide +kernel | rfl)) (fun _ =>
        dxs_cons (ρ1 := [_, _, _, _, _, _, _, _, _, _, _, _, _, _, _, _, _]) (dx_set (i := 12) (dv_if (dt_cmp (dv_ixL (dv_name 8 rfl (by nofun)) dv_int rfl) dv_str (c_eqS _ _)) (fun _ => (dv_ixL (dv_name 8 rfl (by nofun)) dv_int rfl)) (fun h => absurd h (by decide +kernel))) sc_law_steps.nd) (
        dxs_cons (ρ1 := [_, _, _, _, _, _, _, _, _, _, _, _, _, _, _, _, _]) (dx_set (i := 13) (dv_times (q := q) T.int (dv_name 12 rfl (by nofun)) (dv_name 12 rfl (by nofun)) (dv_name 12 rfl (by nofun)) (dv_name 6 rfl (by nofun))) sc_law_steps.nd) (
        dxs_guard (dt_cmp (dv_ixL (dv_name 8 rfl (by nofun)) dv_int rfl) dv_str (c_neS _ _)) (fun h => absurd h (by first | decide +kernel | rfl)) (fun _ =>
        dxs_stop (dx_if (dt_cmp (dv_ixL (dv_name 8 rfl (by nofun)) dv_int rfl) dv_str (c_eqS _ _)) (fun _ => dxs_one (dx_retIs (dv_lst (dd_cons (dv_tup (dd_cons (dv_ifN (dt_cmp (dv_name 6 rfl (by nofun)) (dv_name 13 rfl (by nofun)) (c_lt _ _)) (dv_intS T.int (dv_ixL (dv_name 8 rfl (by nofun)) dv_int rfl) (dig_int _) (show 1 ≤ 640 by decide)) (dv_add (dv_name 2 rfl (by nofun)) dv_int)) (dd_cons (dv_name 3 rfl (by nofun)) (dd_cons (dv_name 4 rfl (by nofun)) (dd_cons (dv_name 5 rfl (by nofun)) (dd_cons (dv_name 6 rfl (by nofun)) (dd_cons (dv_name 7 rfl (by nofun)) dd_nil))))))) dd_nil)) rfl)) (fun h => absurd h (by decide +kernel))) trivial))))))))
    | lessB q =>
      exact dxs_cons (ρ1 := [_, _, _, _, _, _, _, _, _, _, _, _, _, _, _, _, _]) (dx_asg (dv_name 1 rfl (by nofun)) (dg_tup rfl (dgs_cons (dg_name (i := 2) sc_law_steps.nd) (dgs_cons (dg_name (i := 3) sc_law_steps.nd) (dgs_cons (dg_name (i := 4) sc_law_steps.nd) (dgs_cons (dg_name (i := 5) sc_law_steps.nd) (dgs_cons (dg_name (i := 6) sc_law_steps.nd) (dgs_cons (dg_name (i := 7) sc_law_steps.nd) dgs_nil)))))))) (
        dxs_cons (ρ1 := [_, _, _, _, _, _, _, _, _, _, _, _, _, _, _, _, _]) (dx_set (i := 8) (dv_is (s1 := .dat (strL (Row.words (.lessB q : Row)))) (dv_split (dv_ixL (ds := texts p) (dv_name 0 rfl (by nofun)) (dv_name 2 rfl (by nofun)) hst) dv_str (by decide) (Nat.le_trans (Nat.add_le_add_right (txt_len _) 2) (show 22 ≤ sizeLine by decide))) (by rw [split_txt]; rfl)) sc_law_steps.nd) (
        dxs_guard (dt_cmp (dv_ixL (dv_name 8 rfl (by nofun)) dv_int rfl) (dv_lst (dd_cons dv_str (dd_cons dv_str dd_nil))) (c_inL hu _ _ (by rfl) (by rfl) (Nat.le_trans (Nat.min_le_left _ _) (by decide +kernel)))) (fun h => absurd h (by first | decide +kernel | rfl)) (fun _ =>
        dxs_guard (dt_cmp (dv_ixL (dv_name 8 rfl (by nofun)) dv_int rfl) dv_str (c_eqS _ _)) (fun h => absurd h (by first | decide +kernel | rfl)) (fun _ =>
        dxs_guard (dt_cmp (dv_ixL (dv_name 8 rfl (by nofun)) dv_int rfl) dv_str (c_eqS _ _)) (fun h => absurd h (by first | decide +kernel | rfl)) (fun _ =>
        dxs_cons (ρ1 := [_, _, _, _, _, _, _, _, _, _, _, _, _, _, _, _, _]) (dx_set (i := 12) (dv_if (dt_cmp (dv_ixL (dv_name 8 rfl (by nofun)) dv_int rfl) dv_str (c_eqS _ _)) (fun h => absurd h (by decide +kernel)) (fun _ => (dv_ixL (dv_name 8 rfl (by nofun)) (dv_neg dv_int) rfl))) sc_law_steps.nd) (
        dxs_cons (ρ1 := [_, _, _, _, _, _, _, _, _, _, _, _, _, _, _, _, _]) (dx_set (i := 13) (dv_times (q := q) T.int (dv_name 12 rfl (by nofun)) (dv_name 12 rfl (by nofun)) (dv_name 12 rfl (by nofun)) (dv_name 6 rfl (by nofun))) sc_law_steps.nd) (
        dxs_stop (dx_if (dt_cmp (dv_ixL (dv_name 8 rfl (by nofun)) dv_int rfl) dv_str (c_neS _ _)) (fun _ => dxs_cons (ρ1 := [_, _, _, _, _, _, _, _, _, _, _, _, _, _, _, _, _]) (dx_set (i := 14) (dv_if (dt_cmp (dv_ixL (dv_name 8 rfl (by nofun)) dv_int rfl) dv_str (c_eqS _ _)) (fun h => absurd h (by decide +kernel)) (fun _ => (dv_name 13 rfl (by nofun)))) sc_law_steps.nd) (
          dxs_cons (ρ1 := [_, _, _, _, _, _, _, _, _, _, _, _, _, _, _, _, _]) (dx_set (i := 15) (dv_if (dt_cmp (dv_ixL (dv_name 8 rfl (by nofun)) dv_int rfl) dv_str (c_eqS _ _)) (fun h => absurd h (by decide +kernel)) (fun _ => (dv_name 13 rfl (by nofun)))) sc_law_steps.nd) (
          dxs_one (dx_retIs (dv_lst (dd_cons (dv_tup (dd_cons (dv_add (dv_name 2 rfl (by nofun)) dv_int) (dd_cons (dv_sub (dv_name 3 rfl (by nofun)) (dv_name 14 rfl (by nofun))) (dd_cons (dv_sub (dv_name 4 rfl (by nofun)) (dv_name 14 rfl (by nofun))) (dd_cons (dv_name 5 rfl (by nofun)) (dd_cons (dv_sub (dv_name 6 rfl (by nofun)) (dv_name 15 rfl (by nofun))) (dd_cons (dv_name 7 rfl (by nofun)) dd_nil))))))) dd_nil)) rfl)))) (fun h => absurd h (by decide +kernel))) trivial)))))))
    | lessC q =>
      exact dxs_cons (ρ1 := [_, _, _, _, _, _, _, _, _, _, _, _, _, _, _, _, _]) (dx_asg (dv_name 1 rfl (by nofun)) (dg_tup rfl (dgs_cons (dg_name (i := 2) sc_law_steps.nd) (dgs_cons (dg_name (i := 3) sc_law_steps.nd) (dgs_cons (dg_name (i := 4) sc_law_steps.nd) (dgs_cons (dg_name (i := 5) sc_law_steps.nd) (dgs_cons (dg_name (i := 6) sc_law_steps.nd) (dgs_cons (dg_name (i := 7) sc_law_steps.nd) dgs_nil)))))))) (
        dxs_cons (ρ1 := [_, _, _, _, _, _, _, _, _, _, _, _, _, _, _, _, _]) (dx_set (i := 8) (dv_is (s1 := .dat (strL (Row.words (.lessC q : Row)))) (dv_split (dv_ixL (ds := texts p) (dv_name 0 rfl (by nofun)) (dv_name 2 rfl (by nofun)) hst) dv_str (by decide) (Nat.le_trans (Nat.add_le_add_right (txt_len _) 2) (show 22 ≤ sizeLine by decide))) (by rw [split_txt]; rfl)) sc_law_steps.nd) (
        dxs_guard (dt_cmp (dv_ixL (dv_name 8 rfl (by nofun)) dv_int rfl) (dv_lst (dd_cons dv_str (dd_cons dv_str dd_nil))) (c_inL hu _ _ (by rfl) (by rfl) (Nat.le_trans (Nat.min_le_left _ _) (by decide +kernel)))) (fun h => absurd h (by first | decide +kernel | rfl)) (fun _ =>
        dxs_guard (dt_cmp (dv_ixL (dv_name 8 rfl (by nofun)) dv_int rfl) dv_str (c_eqS _ _)) (fun h => absurd h (by first | decide +kernel | rfl)) (fun _ =>
        dxs_guard (dt_cmp (dv_ixL (dv_name 8 rfl (by nofun)) dv_int rfl) dv_str (c_eqS _ _)) (fun h => absurd h (by first | decide +kernel | rfl)) (fun _ =>
        dxs_cons (ρ1 := [_, _, _, _, _, _, _, _, _, _, _, _, _, _, _, _, _]) (dx_set (i := 12) (dv_if (dt_cmp (dv_ixL (dv_name 8 rfl (by nofun)) dv_int rfl) dv_str (c_eqS _ _)) (fun h => absurd h (by decide +kernel)) (fun _ => (dv_ixL (dv_name 8 rfl (by nofun)) (dv_neg dv_int) rfl))) sc_law_steps.nd) (
        dxs_cons (ρ1 := [_, _, _, _, _, _, _, _, _, _, _, _, _, _, _, _, _]) (dx_set (i := 13) (dv_times (q := q) T.int (dv_name 12 rfl (by nofun)) (dv_name 12 rfl (by nofun)) (dv_name 12 rfl (by nofun)) (dv_name 6 rfl (by nofun))) sc_law_steps.nd) (
        dxs_stop (dx_if (dt_cmp (dv_ixL (dv_name 8 rfl (by nofun)) dv_int rfl) dv_str (c_neS _ _)) (fun _ => dxs_cons (ρ1 := [_, _, _, _, _, _, _, _, _, _, _, _, _, _, _, _, _]) (dx_set (i := 14) (dv_if (dt_cmp (dv_ixL (dv_name 8 rfl (by nofun)) dv_int rfl) dv_str (c_eqS _ _)) (fun h => absurd h (by decide +kernel)) (fun _ => (dv_name 13 rfl (by nofun)))) sc_law_steps.nd) (
          dxs_cons (ρ1 := [_, _, _, _, _, _, _, _, _, _, _, _, _, _, _, _, _]) (dx_set (i := 15) (dv_if (dt_cmp (dv_ixL (dv_name 8 rfl (by nofun)) dv_int rfl) dv_str (c_eqS _ _)) (fun _ => dv_int) (fun h => absurd h (by decide +kernel))) sc_law_steps.nd) (
          dxs_one (dx_retIs (dv_lst (dd_cons (dv_tup (dd_cons (dv_add (dv_name 2 rfl (by nofun)) dv_int) (dd_cons (dv_sub (dv_name 3 rfl (by nofun)) (dv_name 14 rfl (by nofun))) (dd_cons (dv_sub (dv_name 4 rfl (by nofun)) (dv_name 14 rfl (by nofun))) (dd_cons (dv_name 5 rfl (by nofun)) (dd_cons (dv_sub (dv_name 6 rfl (by nofun)) (dv_name 15 rfl (by nofun))) (dd_cons (dv_name 7 rfl (by nofun)) dd_nil))))))) dd_nil)) rfl)))) (fun h => absurd h (by decide +kernel))) trivial)))))))
    | lessV q =>
      exact dxs_cons (ρ1 := [_, _, _, _, _, _, _, _, _, _, _, _, _, _, _, _, _]) (dx_asg (dv_name 1 rfl (by nofun)) (dg_tup rfl (dgs_cons (dg_name (i := 2) sc_law_steps.nd) (dgs_cons (dg_name (i := 3) sc_law_steps.nd) (dgs_cons (dg_name (i := 4) sc_law_steps.nd) (dgs_cons (dg_name (i := 5) sc_law_steps.nd) (dgs_cons (dg_name (i := 6) sc_law_steps.nd) (dgs_cons (dg_name (i := 7) sc_law_steps.nd) dgs_nil)))))))) (
        dxs_cons (ρ1 := [_, _, _, _, _, _, _, _, _, _, _, _, _, _, _, _, _]) (dx_set (i := 8) (dv_is (s1 := .dat (strL (Row.words (.lessV q : Row)))) (dv_split (dv_ixL (ds := texts p) (dv_name 0 rfl (by nofun)) (dv_name 2 rfl (by nofun)) hst) dv_str (by decide) (Nat.le_trans (Nat.add_le_add_right (txt_len _) 2) (show 22 ≤ sizeLine by decide))) (by rw [split_txt]; rfl)) sc_law_steps.nd) (
        dxs_guard (dt_cmp (dv_ixL (dv_name 8 rfl (by nofun)) dv_int rfl) (dv_lst (dd_cons dv_str (dd_cons dv_str dd_nil))) (c_inL hu _ _ (by rfl) (by rfl) (Nat.le_trans (Nat.min_le_left _ _) (by decide +kernel)))) (fun h => absurd h (by first | decide +kernel | rfl)) (fun _ =>
        dxs_guard (dt_cmp (dv_ixL (dv_name 8 rfl (by nofun)) dv_int rfl) dv_str (c_eqS _ _)) (fun h => absurd h (by first | decide +kernel | rfl)) (fun _ =>
        dxs_guard (dt_cmp (dv_ixL (dv_name 8 rfl (by nofun)) dv_int rfl) dv_str (c_eqS _ _)) (fun h => absurd h (by first | decide +kernel | rfl)) (fun _ =>
        dxs_cons (ρ1 := [_, _, _, _, _, _, _, _, _, _, _, _, _, _, _, _, _]) (dx_set (i := 12) (dv_if (dt_cmp (dv_ixL (dv_name 8 rfl (by nofun)) dv_int rfl) dv_str (c_eqS _ _)) (fun h => absurd h (by decide +kernel)) (fun _ => (dv_ixL (dv_name 8 rfl (by nofun)) (dv_neg dv_int) rfl))) sc_law_steps.nd) (
        dxs_cons (ρ1 := [_, _, _, _, _, _, _, _, _, _, _, _, _, _, _, _, _]) (dx_set (i := 13) (dv_times (q := q) T.int (dv_name 12 rfl (by nofun)) (dv_name 12 rfl (by nofun)) (dv_name 12 rfl (by nofun)) (dv_name 6 rfl (by nofun))) sc_law_steps.nd) (
        dxs_stop (dx_if (dt_cmp (dv_ixL (dv_name 8 rfl (by nofun)) dv_int rfl) dv_str (c_neS _ _)) (fun _ => dxs_cons (ρ1 := [_, _, _, _, _, _, _, _, _, _, _, _, _, _, _, _, _]) (dx_set (i := 14) (dv_if (dt_cmp (dv_ixL (dv_name 8 rfl (by nofun)) dv_int rfl) dv_str (c_eqS _ _)) (fun _ => dv_int) (fun h => absurd h (by decide +kernel))) sc_law_steps.nd) (
          dxs_cons (ρ1 := [_, _, _, _, _, _, _, _, _, _, _, _, _, _, _, _, _]) (dx_set (i := 15) (dv_if (dt_cmp (dv_ixL (dv_name 8 rfl (by nofun)) dv_int rfl) dv_str (c_eqS _ _)) (fun h => absurd h (by decide +kernel)) (fun _ => (dv_name 13 rfl (by nofun)))) sc_law_steps.nd) (
          dxs_one (dx_retIs (dv_lst (dd_cons (dv_tup (dd_cons (dv_add (dv_name 2 rfl (by nofun)) dv_int) (dd_cons (dv_sub (dv_name 3 rfl (by nofun)) (dv_name 14 rfl (by nofun))) (dd_cons (dv_sub (dv_name 4 rfl (by nofun)) (dv_name 14 rfl (by nofun))) (dd_cons (dv_name 5 rfl (by nofun)) (dd_cons (dv_sub (dv_name 6 rfl (by nofun)) (dv_name 15 rfl (by nofun))) (dd_cons (dv_name 7 rfl (by nofun)) dd_nil))))))) dd_nil)) rfl)))) (fun h => absurd h (by decide +kernel))) trivial)))))))

def C_law_lowest : Ctr := fun ss μ s' μ' => ∃ t b : Int, ss = [.dat (.int t), .dat (.int b)] ∧ μ = [] ∧ s' = .dat (encF (low t b)) ∧ μ' = [] ∧ 0 < t ∧ t < 1000 ∧ 0 < b ∧ b < 39
theorem sc_law_lowest : FnScope ["_law_top", "_law_bottom", "_law_great", "_law_small", "_law_k"] ["_law_top", "_law_bottom"] (defScope s_law_lowest) := ⟨rfl, rfl, rfl, by decide +kernel, rfl, by decide +kernel, by decide +kernel⟩
theorem ok_law_lowest {f : Addr} {fd : FuncData} (T : Tx mg K w) (F : Fun K "_law_lowest" "_law_lowest" s_law_lowest f fd) (hm : mg "_law_lowest" = some (.ref f)) : FnD P w K mg base "_law_lowest" 1 C_law_lowest := by
  refine fnD F hm sc_law_lowest (fun _ _ _ _ _ _ us hl => match us, hl with | [_, _], _ => rfl) (fun ss μ s' μ' h => ?_) (fun cdv A outer s H E c hr ss μ s' μ' h hm0 => ?_)
  · obtain ⟨t, b, rfl, rfl, rfl, rfl, ht, ht2, hb, hb2⟩ := h; rfl
  · obtain ⟨t, b, rfl, rfl, rfl, rfl, ht, ht2, hb, hb2⟩ := h
    have hN := sc_law_lowest.nd
    have hu := hr.units
    have hg := gcd_pos 40 t b ht ht2 (by omega) (by omega)
    exact dxs_cons (ρ1 := [_, _, _, _, _]) (dx_par2 (i := 2) (j := 3) rfl sc_law_lowest.nd (da_cons (dv_name 0 rfl (by nofun)) (da_cons (dv_name 1 rfl (by nofun)) da_nil))) (
      dxs_cons (ρ1 := [.dat (.int t), .dat (.int b), .dat (.int (gcdN 40 t b)), .no, .no]) (dx_for rfl PassesOwn.never (di_rng1 T.range dv_int ⟨by decide, by decide⟩) (fun i ρ μ => ∃ (g s : Int) (k : Nat), ρ = [.dat (.int t), .dat (.int b), .dat (.int g), .dat (.int s), .no] ∧ μ = [] ∧ 0 ≤ s ∧ gcdN k g s = gcdN 40 t b ∧ s.toNat < k ∧ i + k = 40) ⟨t, b, 40, rfl, rfl, by omega, rfl, by omega, rfl⟩ (fun _ _ _ _ => trivial)
        (fun i d ρ1 μ' hd h => by
          obtain ⟨g, s, k, rfl, rfl, h1, h2, h3, h4⟩ := h
          obtain ⟨hi, rfl⟩ := rng_at.mp hd
          by_cases z : s = 0
          · rw [gcd_end k g s (by omega)] at h2
            subst h2
            exact ⟨[_, _, _, _, _], .bk [_, _, _, _, _] [], dg_name (i := 4) sc_law_lowest.nd, dxs_stop (dx_if (dt_is (k1 := true) (dt_cmp (dv_name 3 rfl (by nofun)) dv_int (c_eqI _ _)) (decide_eq_true z)) (fun _ => dxs_one dx_brk) (fun z => absurd z (by decide))) trivial, [_, _, _, .no, .no], ⟨.inr rfl, .inr rfl, .inr rfl, .inl rfl, .inl rfl, trivial⟩, rfl⟩
          · have z2 : 0 < s := by omega
            obtain ⟨k, rfl⟩ : ∃ k', k = k' + 1 := ⟨k - 1, by omega⟩
            have e := emod_toNat (g := g) z2
            rw [gcd_go k g s z2] at h2
            exact ⟨[_, _, _, _, _], .nx [_, _, _, _, _] [], dg_name (i := 4) sc_law_lowest.nd, dxs_guard (dt_is (k1 := false) (dt_cmp (dv_name 3 rfl (by nofun)) dv_int (c_eqI _ _)) (decide_eq_false z)) (fun z => absurd z (by decide)) (fun _ =>
              dxs_one (dx_par2 (i := 2) (j := 3) rfl sc_law_lowest.nd (da_cons (dv_name 3 rfl (by nofun)) (da_cons (dv_mod (dv_intI T.int (dv_name 2 rfl (by nofun))) (dv_name 3 rfl (by nofun)) z2) da_nil)))), [_, _, _, _, .no], ⟨.inr rfl, .inr rfl, .inr rfl, .inr rfl, .inl rfl, trivial⟩, s, g % s, k, rfl, rfl, e.1, h2, by omega, by omega⟩)
        (fun ρ1 μ' h => by
          obtain ⟨g, s, k, rfl, rfl, h1, h2, h3, h4⟩ := h
          rw [rng_len] at h4
          have : (200 : Int).toNat = 200 := rfl
          omega)) (
      dxs_one (dx_retIs (dv_if (dt_is (k1 := true) (dt_cmp (dv_name 2 rfl (by nofun)) dv_int (c_gt _ _)) (decide_eq_true hg.1)) (fun _ => dv_tup (dd_cons (dv_intI T.int (dv_fdiv (dv_name 0 rfl (by nofun)) (dv_name 2 rfl (by nofun)) ⟨hg.1, by omega⟩)) (dd_cons (dv_intI T.int (dv_fdiv (dv_name 1 rfl (by nofun)) (dv_name 2 rfl (by nofun)) ⟨hg.1, by omega⟩)) dd_nil))) (fun z => absurd z (by decide))) rfl)))

def C_law_shares : Ctr := fun ss μ s' μ' => ∃ (q : Qt) (d : F8) (s : Stt), ss = [.dat (.str (Row.ifc q d).txt), .dat (encS s)] ∧ μ = [] ∧ s' = .dat (.list ((chAt q s).map encF)) ∧ μ' = [] ∧ near s
theorem sc_law_shares : FnScope ["_law_line", "_law_state", "_law_at", "_law_low", "_law_high", "_law_over", "_law_size_here", "_law_part_here", "_law_word", "_law_times", "_law_tops", "_law_top"] ["_law_line", "_law_state"] (defScope s_law_shares) := ⟨rfl, rfl, rfl, by decide +kernel, rfl, by decide +kernel, by decide +kernel⟩
theorem ok_law_shares {f : Addr} {fd : FuncData} (T : Tx mg K w) (F : Fun K "_law_shares" "_law_shares" s_law_shares f fd) (hm : mg "_law_shares" = some (.ref f)) (F_law_lowest : FnD P w K mg base "_law_lowest" 1 C_law_lowest) : FnD P w K mg base "_law_shares" 2 C_law_shares := by
  refine fnD F hm sc_law_shares (fun _ _ _ _ _ _ us hl => match us, hl with | [_, _], _ => rfl) (fun ss μ s' μ' h => ?_) (fun cdv A outer s H E c hr ss μ s' μ' h hm0 => ?_)
  · obtain ⟨q, d, s, rfl, rfl, rfl, rfl, hs⟩ := h; rfl
  · obtain ⟨q, d, s, rfl, rfl, rfl, rfl, hs⟩ := h
    have hN := sc_law_shares.nd
    have hu := hr.units
    by_cases g1 : tms q s.j ≤ s.a
    · rw [ch_0 g1]
      exact dxs_cons (ρ1 := [_, _, _, _, _, _, _, _, _, _, _, _]) (dx_asg (dv_name 1 rfl (by nofun)) (dg_tup rfl (dgs_cons (dg_name (i := 2) sc_law_shares.nd) (dgs_cons (dg_name (i := 3) sc_law_shares.nd) (dgs_cons (dg_name (i := 4) sc_law_shares.nd) (dgs_cons (dg_name (i := 5) sc_law_shares.nd) (dgs_cons (dg_name (i := 6) sc_law_shares.nd) (dgs_cons (dg_name (i := 7) sc_law_shares.nd) dgs_nil)))))))) (
      dxs_cons (ρ1 := [_, _, _, _, _, _, _, _, _, _, _, _]) (dx_set (i := 8) (dv_ixL (dv_is (s1 := .dat (strL (Row.words (.ifc q d)))) (dv_split (dv_name 0 rfl (by nofun)) dv_str (by decide) (Nat.le_trans (Nat.add_le_add_right (txt_len _) 2) (show 22 ≤ sizeLine by decide))) (by rw [split_txt]; rfl)) dv_int rfl) sc_law_shares.nd) (
      dxs_cons (ρ1 := [_, _, _, _, _, _, _, _, _, _, _, _]) (dx_set (i := 9) (dv_times (q := q) T.int (dv_name 8 rfl (by nofun)) (dv_name 8 rfl (by nofun)) (dv_name 8 rfl (by nofun)) (dv_name 6 rfl (by nofun))) sc_law_shares.nd) (
      dxs_stop (dx_if (dt_is (k1 := true) (dt_cmp (dv_name 9 rfl (by nofun)) (dv_name 3 rfl (by nofun)) (c_le _ _)) (decide_eq_true g1)) (fun _ => dxs_one (dx_retIs (dv_lst (dd_cons (dv_tup (dd_cons dv_int (dd_cons dv_int dd_nil))) dd_nil)) rfl)) (fun h => absurd h (by decide +kernel))) trivial)))
    · by_cases g2 : s.b + bi s.x ≤ tms q s.j
      · rw [ch_1 g1 g2]
        exact dxs_cons (ρ1 := [_, _, _, _, _, _, _, _, _, _, _, _]) (dx_asg (dv_name 1 rfl (by nofun)) (dg_tup rfl (dgs_cons (dg_name (i := 2) sc_law_shares.nd) (dgs_cons (dg_name (i := 3) sc_law_shares.nd) (dgs_cons (dg_name (i := 4) sc_law_shares.nd) (dgs_cons (dg_name (i := 5) sc_law_shares.nd) (dgs_cons (dg_name (i := 6) sc_law_shares.nd) (dgs_cons (dg_name (i := 7) sc_law_shares.nd) dgs_nil)))))))) (
      dxs_cons (ρ1 := [_, _, _, _, _, _, _, _, _, _, _, _]) (dx_set (i := 8) (dv_ixL (dv_is (s1 := .dat (strL (Row.words (.ifc q d)))) (dv_split (dv_name 0 rfl (by nofun)) dv_str (by decide) (Nat.le_trans (Nat.add_le_add_right (txt_len _) 2) (show 22 ≤ sizeLine by decide))) (by rw [split_txt]; rfl)) dv_int rfl) sc_law_shares.nd) (
      dxs_cons (ρ1 := [_, _, _, _, _, _, _, _, _, _, _, _]) (dx_set (i := 9) (dv_times (q := q) T.int (dv_name 8 rfl (by nofun)) (dv_name 8 rfl (by nofun)) (dv_name 8 rfl (by nofun)) (dv_name 6 rfl (by nofun))) sc_law_shares.nd) (
      dxs_guard (dt_is (k1 := false) (dt_cmp (dv_name 9 rfl (by nofun)) (dv_name 3 rfl (by nofun)) (c_le _ _)) (decide_eq_false g1)) (fun h => absurd h (by first | decide +kernel | rfl)) (fun _ =>
      dxs_stop (dx_if (dt_is (k1 := true) (dt_cmp (dv_name 9 rfl (by nofun)) (dv_add (dv_name 4 rfl (by nofun)) (dv_intB T.int (dv_name 5 rfl (by nofun)))) (c_ge _ _)) (decide_eq_true g2)) (fun _ => dxs_one (dx_retIs (dv_lst (dd_cons (dv_tup (dd_cons dv_int (dd_cons dv_int dd_nil))) dd_nil)) rfl)) (fun h => absurd h (by decide +kernel))) trivial))))
      · have ht := tms_le (q := q) hs
        obtain ⟨r, a, b, x, j, y⟩ := s
        cases x
        · rw [ch_f g1 g2]
          refine dxs_cons (ρ1 := [_, _, _, _, _, _, _, _, _, _, _, _]) (dx_asg (dv_name 1 rfl (by nofun)) (dg_tup rfl (dgs_cons (dg_name (i := 2) sc_law_shares.nd) (dgs_cons (dg_name (i := 3) sc_law_shares.nd) (dgs_cons (dg_name (i := 4) sc_law_shares.nd) (dgs_cons (dg_name (i := 5) sc_law_shares.nd) (dgs_cons (dg_name (i := 6) sc_law_shares.nd) (dgs_cons (dg_name (i := 7) sc_law_shares.nd) dgs_nil)))))))) (
      dxs_cons (ρ1 := [_, _, _, _, _, _, _, _, _, _, _, _]) (dx_set (i := 8) (dv_ixL (dv_is (s1 := .dat (strL (Row.words (.ifc q d)))) (dv_split (dv_name 0 rfl (by nofun)) dv_str (by decide) (Nat.le_trans (Nat.add_le_add_right (txt_len _) 2) (show 22 ≤ sizeLine by decide))) (by rw [split_txt]; rfl)) dv_int rfl) sc_law_shares.nd) (
      dxs_cons (ρ1 := [_, _, _, _, _, _, _, _, _, _, _, _]) (dx_set (i := 9) (dv_times (q := q) T.int (dv_name 8 rfl (by nofun)) (dv_name 8 rfl (by nofun)) (dv_name 8 rfl (by nofun)) (dv_name 6 rfl (by nofun))) sc_law_shares.nd) (
      dxs_guard (dt_is (k1 := false) (dt_cmp (dv_name 9 rfl (by nofun)) (dv_name 3 rfl (by nofun)) (c_le _ _)) (decide_eq_false g1)) (fun h => absurd h (by first | decide +kernel | rfl)) (fun _ =>
      dxs_guard (dt_is (k1 := false) (dt_cmp (dv_name 9 rfl (by nofun)) (dv_add (dv_name 4 rfl (by nofun)) (dv_intB T.int (dv_name 5 rfl (by nofun)))) (c_ge _ _)) (decide_eq_false g2)) (fun h => absurd h (by first | decide +kernel | rfl)) (fun _ =>
      dxs_cons (ρ1 := [_, _, _, _, _, _, _, _, _, _, _, _]) (dx_set (i := 10) (dv_if (dt_is (k1 := false) (dt_val (dv_name 5 rfl (by nofun))) rfl) (fun h => absurd h (by decide +kernel)) (fun _ => (dv_lst (dd_cons (dv_name 4 rfl (by nofun)) dd_nil)))) sc_law_shares.nd) (
      dxs_one (dx_retIs (dv_lcM (i := 11) rfl sc_law_shares.nd (blk_of (by rfl)) (di_lst (dv_name 10 rfl (by nofun))) (Nat.lt_of_le_of_lt (Nat.le_of_ble_eq_true rfl) (show 64 < sizeLine by decide)) trivial (f := chF (tms q j - a) a) (fun dd hdd c2 s0 H0 C cl fp => ?_) (fun _ _ _ _ _ => pg_name sc_law_shares.nd rfl (Or.inl rfl))) rfl)))))))
          have k1 := hs.1; have k2 := hs.2.2.1; simp only [bi, if_true, Bool.false_eq_true, if_false] at k1 k2 g1 g2 ht
          obtain rfl : dd = PyData.int b := by simpa using hdd
          exact dv_fn F_law_lowest (hr.mono (by decide)) (da_cons (dv_sub (dv_name 9 rfl (by nofun)) (dv_name 3 rfl (by nofun))) (da_cons (dv_sub (dv_name 11 rfl (by nofun)) (dv_name 3 rfl (by nofun))) da_nil)) ⟨tms q j - a, b - a, rfl, rfl, rfl, rfl, by omega, by omega, by omega, by omega⟩
        · rw [ch_t g1 g2]
          refine dxs_cons (ρ1 := [_, _, _, _, _, _, _, _, _, _, _, _]) (dx_asg (dv_name 1 rfl (by nofun)) (dg_tup rfl (dgs_cons (dg_name (i := 2) sc_law_shares.nd) (dgs_cons (dg_name (i := 3) sc_law_shares.nd) (dgs_cons (dg_name (i := 4) sc_law_shares.nd) (dgs_cons (dg_name (i := 5) sc_law_shares.nd) (dgs_cons (dg_name (i := 6) sc_law_shares.nd) (dgs_cons (dg_name (i := 7) sc_law_shares.nd) dgs_nil)))))))) (
      dxs_cons (ρ1 := [_, _, _, _, _, _, _, _, _, _, _, _]) (dx_set (i := 8) (dv_ixL (dv_is (s1 := .dat (strL (Row.words (.ifc q d)))) (dv_split (dv_name 0 rfl (by nofun)) dv_str (by decide) (Nat.le_trans (Nat.add_le_add_right (txt_len _) 2) (show 22 ≤ sizeLine by decide))) (by rw [split_txt]; rfl)) dv_int rfl) sc_law_shares.nd) (
      dxs_cons (ρ1 := [_, _, _, _, _, _, _, _, _, _, _, _]) (dx_set (i := 9) (dv_times (q := q) T.int (dv_name 8 rfl (by nofun)) (dv_name 8 rfl (by nofun)) (dv_name 8 rfl (by nofun)) (dv_name 6 rfl (by nofun))) sc_law_shares.nd) (
      dxs_guard (dt_is (k1 := false) (dt_cmp (dv_name 9 rfl (by nofun)) (dv_name 3 rfl (by nofun)) (c_le _ _)) (decide_eq_false g1)) (fun h => absurd h (by first | decide +kernel | rfl)) (fun _ =>
      dxs_guard (dt_is (k1 := false) (dt_cmp (dv_name 9 rfl (by nofun)) (dv_add (dv_name 4 rfl (by nofun)) (dv_intB T.int (dv_name 5 rfl (by nofun)))) (c_ge _ _)) (decide_eq_false g2)) (fun h => absurd h (by first | decide +kernel | rfl)) (fun _ =>
      dxs_cons (ρ1 := [_, _, _, _, _, _, _, _, _, _, _, _]) (dx_set (i := 10) (dv_if (dt_is (k1 := true) (dt_val (dv_name 5 rfl (by nofun))) rfl) (fun _ => (dv_lst (dd_cons (dv_name 4 rfl (by nofun)) (dd_cons (dv_add (dv_name 4 rfl (by nofun)) dv_int) dd_nil)))) (fun h => absurd h (by decide +kernel))) sc_law_shares.nd) (
      dxs_one (dx_retIs (dv_lcM (i := 11) rfl sc_law_shares.nd (blk_of (by rfl)) (di_lst (dv_name 10 rfl (by nofun))) (Nat.lt_of_le_of_lt (Nat.le_of_ble_eq_true rfl) (show 64 < sizeLine by decide)) trivial (f := chF (tms q j - a) a) (fun dd hdd c2 s0 H0 C cl fp => ?_) (fun _ _ _ _ _ => pg_name sc_law_shares.nd rfl (Or.inl rfl))) rfl)))))))
          have k1 := hs.1; have k2 := hs.2.2.1; simp only [bi, if_true, Bool.false_eq_true, if_false] at k1 k2 g1 g2 ht
          rcases (by simpa using hdd : dd = PyData.int b ∨ dd = PyData.int (b + 1)) with rfl | rfl
          · exact dv_fn F_law_lowest (hr.mono (by decide)) (da_cons (dv_sub (dv_name 9 rfl (by nofun)) (dv_name 3 rfl (by nofun))) (da_cons (dv_sub (dv_name 11 rfl (by nofun)) (dv_name 3 rfl (by nofun))) da_nil)) ⟨tms q j - a, b - a, rfl, rfl, rfl, rfl, by omega, by omega, by omega, by omega⟩
          · exact dv_fn F_law_lowest (hr.mono (by decide)) (da_cons (dv_sub (dv_name 9 rfl (by nofun)) (dv_name 3 rfl (by nofun))) (da_cons (dv_sub (dv_name 11 rfl (by nofun)) (dv_name 3 rfl (by nofun))) da_nil)) ⟨tms q j - a, b + 1 - a, rfl, rfl, rfl, rfl, by omega, by omega, by omega, by omega⟩

def C_law_is_whole : Ctr := fun ss μ s' μ' => ∃ (d : PyData) (lo hi : Int), ss = [.dat d, .dat (.int lo), .dat (.int hi)] ∧ μ = [] ∧ s' = .dat (.bool (betw d lo hi)) ∧ μ' = []
theorem sc_law_is_whole : FnScope ["_law_value", "_law_least", "_law_most"] ["_law_value", "_law_least", "_law_most"] (defScope s_law_is_whole) := ⟨rfl, rfl, rfl, by decide +kernel, rfl, by decide +kernel, by decide +kernel⟩
theorem ok_law_is_whole {f : Addr} {fd : FuncData} (T : Tx mg K w) (F : Fun K "_law_is_whole" "_law_is_whole" s_law_is_whole f fd) (hm : mg "_law_is_whole" = some (.ref f)) : FnD P w K mg base "_law_is_whole" 1 C_law_is_whole := by
  refine fnD F hm sc_law_is_whole (fun _ _ _ _ _ _ us hl => match us, hl with | [_, _, _], _ => rfl) (fun ss μ s' μ' h => ?_) (fun cdv A outer s H E c hr ss μ s' μ' h hm0 => ?_)
  · obtain ⟨d, lo, hi, rfl, rfl, rfl, rfl⟩ := h; rfl
  · obtain ⟨d, lo, hi, rfl, rfl, rfl, rfl⟩ := h
    have hN := sc_law_is_whole.nd
    have hu := hr.units
    cases d with
    | none => exact dxs_one (dx_retIs (dv_and (k1 := false) (k2 := false) (dv_isi T.isinstance T.int (by decide +kernel) (dv_name 0 rfl (by nofun)) rfl) fun z => absurd z (by decide)) rfl)
    | bool _ => exact dxs_one (dx_retIs (dv_and (k1 := true) (k2 := false) (dv_isi T.isinstance T.int (by decide +kernel) (dv_name 0 rfl (by nofun)) rfl) fun _ => dv_and (k1 := false) (k2 := false) (dv_is (s1 := .dat (.bool false)) (dv_not (dv_isi T.isinstance T.bool (by decide +kernel) (dv_name 0 rfl (by nofun)) rfl)) rfl) fun z => absurd z (by decide)) rfl)
    | str _ => exact dxs_one (dx_retIs (dv_and (k1 := false) (k2 := false) (dv_isi T.isinstance T.int (by decide +kernel) (dv_name 0 rfl (by nofun)) rfl) fun z => absurd z (by decide)) rfl)
    | list _ => exact dxs_one (dx_retIs (dv_and (k1 := false) (k2 := false) (dv_isi T.isinstance T.int (by decide +kernel) (dv_name 0 rfl (by nofun)) rfl) fun z => absurd z (by decide)) rfl)
    | tuple _ => exact dxs_one (dx_retIs (dv_and (k1 := false) (k2 := false) (dv_isi T.isinstance T.int (by decide +kernel) (dv_name 0 rfl (by nofun)) rfl) fun z => absurd z (by decide)) rfl)
    | dict _ => exact dxs_one (dx_retIs (dv_and (k1 := false) (k2 := false) (dv_isi T.isinstance T.int (by decide +kernel) (dv_name 0 rfl (by nofun)) rfl) fun z => absurd z (by decide)) rfl)
    | int _ => exact dxs_one (dx_retIs (dv_and (k1 := true) (dv_isi T.isinstance T.int (by decide +kernel) (dv_name 0 rfl (by nofun)) rfl) fun _ => dv_and (k1 := true) (dv_is (s1 := .dat (.bool true)) (dv_not (dv_isi T.isinstance T.bool (by decide +kernel) (dv_name 0 rfl (by nofun)) rfl)) rfl) fun _ => dv_one (dv_chain (dv_name 1 rfl (by nofun)) (dv_name 0 rfl (by nofun)) (fun _ => dv_name 2 rfl (by nofun)) (c_le _ _) (fun _ => c_le _ _))) rfl)

end
end Dr
set_option maxHeartbeats 4000000
/-! M4: the search: keys, lists, a bound. -/
namespace Dr
open PySem PySem.Spec PyProof.Rows L2
/-! ### keys -/
theorem nk_encS {s t : Stt} : nk (encS s) = nk (encS t) ↔ s = t := by
  refine ⟨fun h => ?_, fun h => by rw [h]⟩
  obtain ⟨r, a, b, x, j, y⟩ := s
  obtain ⟨r', a', b', x', j', y'⟩ := t
  simp only [encS, nk, nkA, NestedKey.tup.injEq, List.cons.injEq, NestedKey.num.injEq, and_true] at h
  obtain ⟨rfl, rfl, rfl, hx, rfl, hy⟩ := h
  have ex : x = x' := by cases x <;> cases x' <;> simp_all
  have ey : y = y' := by cases y <;> cases y' <;> simp_all
  rw [ex, ey]
theorem nk_encP {s t : Spot} : nk (encP s) = nk (encP t) ↔ s = t := by
  refine ⟨fun h => ?_, fun h => by rw [h]⟩
  obtain ⟨r, a, b, v⟩ := s
  obtain ⟨r', a', b', v'⟩ := t
  simp only [encP, nk, nkA, NestedKey.tup.injEq, List.cons.injEq, NestedKey.num.injEq, and_true] at h
  obtain ⟨rfl, rfl, rfl, rfl⟩ := h
  rfl
theorem hasK_encS (l : List Stt) (t : Stt) : hasK (l.map encS) (encS t) = decide (t ∈ l) := by
  unfold hasK
  rw [Bool.eq_iff_iff]
  simp only [List.any_map, List.any_eq_true, Function.comp, decide_eq_true_eq, nk_encS]
  exact ⟨fun ⟨s, h, e⟩ => e ▸ h, fun h => ⟨t, h, rfl⟩⟩
theorem hasK_encP (l : List Spot) (t : Spot) : hasK (l.map encP) (encP t) = decide (t ∈ l) := by
  unfold hasK
  rw [Bool.eq_iff_iff]
  simp only [List.any_map, List.any_eq_true, Function.comp, decide_eq_true_eq, nk_encP]
  exact ⟨fun ⟨s, h, e⟩ => e ▸ h, fun h => ⟨t, h, rfl⟩⟩
/-! ### lists that grow -/
theorem push1_mem {l : List Stt} {t : Stt} (h : t ∈ l) : push1 l t = l := if_pos h
theorem push1_new {l : List Stt} {t : Stt} (h : t ∉ l) : push1 l t = l ++ [t] := if_neg h
theorem push1_len (l : List Stt) (t : Stt) : (push1 l t).length ≤ l.length + 1 := by
  unfold push1; split <;> simp
theorem push_len : ∀ (ts l : List Stt), (push l ts).length ≤ l.length + ts.length
  | [], l => by simp [push]
  | t :: ts, l => by
    have h1 := push_len ts (push1 l t)
    have h2 := push1_len l t
    show (push (push1 l t) ts).length ≤ _
    rw [List.length_cons]; omega
theorem push1_nodup {l : List Stt} {t : Stt} (h : l.Nodup) : (push1 l t).Nodup := by
  unfold push1
  split
  · exact h
  · rename_i hn
    exact List.nodup_append.mpr ⟨h, List.nodup_cons.mpr ⟨by simp, List.nodup_nil⟩, fun a ha b hb e => by rw [List.mem_singleton] at hb; exact hn (hb ▸ e ▸ ha)⟩
theorem push_nodup : ∀ (ts : List Stt) {l : List Stt}, l.Nodup → (push l ts).Nodup
  | [], _, h => h
  | t :: ts, l, h => push_nodup ts (push1_nodup h)
theorem push1_pre (l : List Stt) (t : Stt) : l <+: push1 l t := by
  unfold push1
  split
  · exact List.prefix_refl _
  · exact List.prefix_append _ _
theorem push_pre : ∀ (ts l : List Stt), l <+: push l ts
  | [], l => List.prefix_refl l
  | t :: ts, l => (push1_pre l t).trans (push_pre ts _)
theorem push_snoc (l ts : List Stt) (t : Stt) : push l (ts ++ [t]) = push1 (push l ts) t := by unfold push; rw [List.foldl_append]; rfl
theorem push_mem : ∀ (ts : List Stt) {l : List Stt} {t : Stt}, t ∈ push l ts → t ∈ l ∨ t ∈ ts
  | [], _, _, h => .inl h
  | u :: ts, l, t, h => by
    rcases push_mem ts (show t ∈ push (push1 l u) ts from h) with z | z
    · unfold push1 at z
      split at z
      · exact .inl z
      · rcases List.mem_append.mp z with z | z
        · exact .inl z
        · rw [List.mem_singleton] at z; exact .inr (z ▸ List.mem_cons_self)
    · exact .inr (List.mem_cons_of_mem _ z)
theorem push_sub : ∀ (ts : List Stt) {l : List Stt} {t : Stt}, t ∈ ts → t ∈ push l ts
  | u :: ts, l, t, h => by
    rcases List.mem_cons.mp h with rfl | h
    · have h1 : t ∈ push1 l t := by
        unfold push1
        split
        · assumption
        · simp
      exact (push_pre ts (push1 l t)).subset h1
    · exact push_sub ts h
theorem marks_le (r : Row) (s : Stt) : (marks r s).length ≤ 3 := by
  cases r with
  | take =>
    by_cases h : (!s.x && !s.y) = true
    · rw [show marks .take s = _ from if_pos h]; exact Nat.le_of_ble_eq_true rfl
    · rw [show marks .take s = _ from if_neg h]; exact Nat.le_refl 3
  | ifc q d =>
    rw [marks_ifc]
    by_cases h1 : s.a < tms q s.j <;> by_cases h2 : tms q s.j < s.b + bi s.x <;> simp only [h1, h2, if_true, if_false] <;> exact Nat.le_of_ble_eq_true rfl
  | again => exact Nat.zero_le _
  | giveC => exact Nat.zero_le _
  | giveR => exact Nat.zero_le _
  | go d => exact Nat.le_of_ble_eq_true rfl
  | ifv q d => exact Nat.le_of_ble_eq_true rfl
  | lessB q => exact Nat.le_of_ble_eq_true rfl
  | lessC q => exact Nat.le_of_ble_eq_true rfl
  | lessV q => exact Nat.le_of_ble_eq_true rfl
theorem nexts_le (p : List Row) (s : Stt) : (nexts p s).length ≤ 3 := by unfold nexts; rw [List.length_map]; exact marks_le _ _
/-! ### rows stay within -/
theorem nexts_row {p : List Row} (hp : okProg p) {s t : Stt} (h0 : 0 ≤ s.row) (h1 : s.row < p.length) (h : t ∈ nexts p s) : 0 ≤ t.row ∧ t.row < p.length := by
  have hok := hp.2.2 _ _ (rowAt_of h0 h1)
  unfold nexts at h
  generalize rowAt p s.row = r at h hok
  have hr : (s.row.toNat : Int) = s.row := Int.toNat_of_nonneg h0
  obtain ⟨⟨w, u⟩, hm, rfl⟩ := List.mem_map.mp h
  cases r with
  | take =>
    have hn : s.row.toNat + 1 ≠ p.length := by simpa [Row.okAt] using hok
    have : u.row = s.row + 1 := by
      by_cases hx : (!s.x && !s.y) = true
      · rw [show marks .take s = _ from if_pos hx] at hm
        simp at hm; rw [hm.2]
      · rw [show marks .take s = _ from if_neg hx] at hm
        simp at hm
        rcases hm with z | z | z <;> rw [z.2]
    show 0 ≤ u.row ∧ u.row < p.length
    omega
  | again => cases hm
  | giveC => cases hm
  | giveR => cases hm
  | go d =>
    have hd : d.val < p.length := by simpa [Row.okAt] using hok
    have hm : (w, u) ∈ [(("" : Str), { s with row := (d.val : Int) })] := hm
    simp at hm
    have : u.row = d.val := by rw [hm.2]
    show 0 ≤ u.row ∧ u.row < p.length
    omega
  | ifv q d =>
    have hd : d.val < p.length ∧ s.row.toNat + 1 ≠ p.length := by simp [Row.okAt] at hok; exact ⟨hok.1.1, hok.2⟩
    have hm : (w, u) ∈ [(("" : Str), { s with row := if s.j < tms q s.j then (d.val : Int) else s.row + 1 })] := hm
    simp at hm
    have : u.row = if s.j < tms q s.j then (d.val : Int) else s.row + 1 := by rw [hm.2]
    show 0 ≤ u.row ∧ u.row < p.length
    rw [this]
    split <;> omega
  | ifc q d =>
    have hd : d.val < p.length ∧ s.row.toNat + 1 ≠ p.length := by simp [Row.okAt] at hok; exact ⟨hok.1.1, hok.2⟩
    have : u.row = d.val ∨ u.row = s.row + 1 := by
      rw [marks_ifc] at hm
      by_cases h1 : s.a < tms q s.j <;> by_cases h2 : tms q s.j < s.b + bi s.x <;> simp only [h1, h2, if_true, if_false] at hm <;> simp at hm
      · rcases hm with z | z
        · left; rw [z.2]
        · right; rw [z.2]
      · left; rw [hm.2]
      · right; rw [hm.2]
    show 0 ≤ u.row ∧ u.row < p.length
    omega
  | lessB q =>
    have hn : s.row.toNat + 1 ≠ p.length := by simpa [Row.okAt] using hok
    have hm : (w, u) ∈ [(("" : Str), (⟨s.row + 1, s.a - tms q s.j, s.b - tms q s.j, s.x, s.j - tms q s.j, s.y⟩ : Stt))] := hm
    simp at hm
    have : u.row = s.row + 1 := by rw [hm.2]
    show 0 ≤ u.row ∧ u.row < p.length
    omega
  | lessC q =>
    have hn : s.row.toNat + 1 ≠ p.length := by simpa [Row.okAt] using hok
    have hm : (w, u) ∈ [(("" : Str), (⟨s.row + 1, s.a - tms q s.j, s.b - tms q s.j, s.x, s.j - 0, s.y⟩ : Stt))] := hm
    simp at hm
    have : u.row = s.row + 1 := by rw [hm.2]
    show 0 ≤ u.row ∧ u.row < p.length
    omega
  | lessV q =>
    have hn : s.row.toNat + 1 ≠ p.length := by simpa [Row.okAt] using hok
    have hm : (w, u) ∈ [(("" : Str), (⟨s.row + 1, s.a - 0, s.b - 0, s.x, s.j - tms q s.j, s.y⟩ : Stt))] := hm
    simp at hm
    have : u.row = s.row + 1 := by rw [hm.2]
    show 0 ≤ u.row ∧ u.row < p.length
    omega
/-! ### how many -/
theorem nat_nodup : ∀ (N : Nat) (l : List Nat), l.Nodup → (∀ x, x ∈ l → x < N) → l.length ≤ N
  | 0, [], _, _ => Nat.le_refl 0
  | 0, x :: _, _, h => absurd (h x List.mem_cons_self) (Nat.not_lt_zero _)
  | N + 1, l, hn, h => by
    have h1 := nat_nodup N (l.filter fun x => decide (x ≠ N)) (hn.filter _) (fun x hx => by
      obtain ⟨a, b⟩ := List.mem_filter.mp hx
      have := h x a
      have := of_decide_eq_true b
      omega)
    have h2 : l.length ≤ (l.filter fun x => decide (x ≠ N)).length + 1 := by
      clear h h1
      induction l with
      | nil => simp
      | cons a l ih =>
        have hn2 := (List.nodup_cons.mp hn).2
        by_cases ha : a = N
        · subst ha
          have ha2 := (List.nodup_cons.mp hn).1
          have : l.filter (fun x => decide (x ≠ a)) = l := List.filter_eq_self.mpr fun x hx => decide_eq_true fun e => ha2 (e ▸ hx)
          rw [List.filter_cons_of_neg (by simp), this]
          simp
        · rw [List.filter_cons_of_pos (by simp [ha])]
          have := ih hn2
          simp only [List.length_cons]
          omega
    omega
def codeS (s : Stt) : Int := ((((s.row * 17 + (s.a + 8)) * 17 + (s.b + 8)) * 2 + bi s.x) * 17 + (s.j + 8)) * 2 + bi s.y
/-- the stretch is not empty -/
def inv (s : Stt) : Prop := if s.x = true then s.a ≤ s.b else s.a < s.b
theorem inv_le {s : Stt} (h : inv s) : s.a ≤ s.b ∧ (s.x = false → s.a < s.b) := by
  unfold inv at h
  cases hx : s.x with
  | true => rw [hx] at h; exact ⟨h, fun z => by cases z⟩
  | false => rw [hx] at h; exact ⟨Int.le_of_lt h, fun _ => h⟩
theorem inv_of {s : Stt} (h1 : s.a ≤ s.b) (h2 : s.x = false → s.a < s.b) : inv s := by
  unfold inv
  cases hx : s.x with
  | true => exact h1
  | false => exact h2 hx
theorem bi_le (x : Bool) : 0 ≤ bi x ∧ bi x ≤ 1 := by cases x <;> decide
theorem bi_inj {x y : Bool} (h : bi x = bi y) : x = y := by cases x <;> cases y <;> first | rfl | cases h
structure Good (n : Nat) (s : Stt) : Prop where
  r0 : 0 ≤ s.row
  r1 : s.row < n
  iv : inv s
theorem code_rng {n : Nat} (hn : n ≤ 8) {s : Stt} (g : Good n s) (h : near s) : 0 ≤ codeS s ∧ codeS s < 157216 := by
  have h1 := g.r0; have h2 := g.r1; have h3 := (inv_le g.iv).1
  obtain ⟨k1, k2, k3, k4⟩ := h
  have hx := bi_le s.x; have hy := bi_le s.y
  unfold codeS
  omega
theorem code_inj {n : Nat} (hn : n ≤ 8) {s t : Stt} (g : Good n s) (h : near s) (g' : Good n t) (h' : near t) (e : codeS s = codeS t) : s = t := by
  have h1 := g.r0; have h2 := g.r1; have h3 := (inv_le g.iv).1
  obtain ⟨k1, k2, k3, k4⟩ := h
  have hx := bi_le s.x; have hy := bi_le s.y
  have h1' := g'.r0; have h2' := g'.r1; have h3' := (inv_le g'.iv).1
  obtain ⟨k1', k2', k3', k4'⟩ := h'
  have hx' := bi_le t.x; have hy' := bi_le t.y
  unfold codeS at e
  have ey : bi s.y = bi t.y := by omega
  have ej : s.j = t.j := by omega
  have ex : bi s.x = bi t.x := by omega
  have eb : s.b = t.b := by omega
  have ea : s.a = t.a := by omega
  have er : s.row = t.row := by omega
  cases s; cases t
  simp only [Stt.mk.injEq]
  exact ⟨er, ea, eb, bi_inj ex, ej, bi_inj ey⟩
theorem few {n : Nat} (hn : n ≤ 8) {l : List Stt} (h1 : l.Nodup) (h2 : ∀ s, s ∈ l → Good n s ∧ near s) : l.length ≤ 157216 := by
  have := nat_nodup 157216 (l.map fun s => (codeS s).toNat) ?_ ?_
  · rwa [List.length_map] at this
  · rw [List.nodup_iff_pairwise_ne, List.pairwise_map]
    refine List.Pairwise.imp_of_mem ?_ h1
    intro a b ha hb hab e
    have ra := code_rng hn (h2 a ha).1 (h2 a ha).2
    have rb := code_rng hn (h2 b hb).1 (h2 b hb).2
    exact hab (code_inj hn (h2 a ha).1 (h2 a ha).2 (h2 b hb).1 (h2 b hb).2 (by omega))
  · intro x hx
    obtain ⟨s, hs, rfl⟩ := List.mem_map.mp hx
    have ra := code_rng hn (h2 s hs).1 (h2 s hs).2
    omega
/-! ### the stretch stays -/
theorem marks_inv {r : Row} {s : Stt} {q : Str × Stt} (h : inv s) (hm : q ∈ marks r s) : inv q.2 := by
  obtain ⟨w, u⟩ := q
  obtain ⟨i1, i2⟩ := inv_le h
  cases r with
  | take =>
    by_cases hx : (!s.x && !s.y) = true
    · rw [show marks .take s = _ from if_pos hx] at hm
      simp at hm; obtain ⟨_, rfl⟩ := hm
      exact inv_of (show 2 * s.a ≤ 2 * s.b by omega) (fun z => by have := i2 z; show 2 * s.a < 2 * s.b; omega)
    · rw [show marks .take s = _ from if_neg hx] at hm
      simp at hm
      have hb := bi_le s.x
      rcases hm with ⟨_, rfl⟩ | ⟨_, rfl⟩ | ⟨_, rfl⟩
      · exact inv_of (show 2 * s.a ≤ 2 * s.b by omega) (fun z => by have := i2 z; show 2 * s.a < 2 * s.b; omega)
      · exact inv_of (show 2 * s.a ≤ 2 * s.b + bi s.x by omega) (fun z => by have := i2 z; show 2 * s.a < 2 * s.b + bi s.x; omega)
      · refine inv_of (show 2 * s.a ≤ 2 * s.b + bi s.x by omega) (fun _ => ?_)
        show 2 * s.a < 2 * s.b + bi s.x
        cases hs : s.x with
        | true => show 2 * s.a < 2 * s.b + 1; omega
        | false => have := i2 hs; show 2 * s.a < 2 * s.b + 0; omega
  | again => cases hm
  | giveC => cases hm
  | giveR => cases hm
  | go d =>
    have hm : (w, u) ∈ [(("" : Str), { s with row := (d.val : Int) })] := hm
    simp at hm; obtain ⟨_, rfl⟩ := hm; exact h
  | ifv q d =>
    have hm : (w, u) ∈ [(("" : Str), { s with row := if s.j < tms q s.j then (d.val : Int) else s.row + 1 })] := hm
    simp at hm; obtain ⟨_, rfl⟩ := hm; exact h
  | ifc q d =>
    rw [marks_ifc] at hm
    have hb := bi_le s.x
    rcases List.mem_append.mp hm with z | z
    · split at z
      · rename_i g1
        simp at z
        obtain ⟨_, rfl⟩ := z
        split
        · exact inv_of (show s.a ≤ tms q s.j by omega) (fun _ => g1)
        · exact h
      · cases z
    · split at z
      · rename_i g2
        simp at z
        obtain ⟨_, rfl⟩ := z
        have e : bi s.x = if s.x = true then 1 else 0 := rfl
        cases hs : s.x with
        | true =>
          rw [hs] at e
          have e : bi s.x = 1 := by rw [hs]; rfl
          refine inv_of ?_ (fun z => by cases z)
          show (if tms q s.j > s.a then tms q s.j else s.a) ≤ s.b
          split <;> omega
        | false =>
          have e : bi s.x = 0 := by rw [hs]; rfl
          have := i2 hs
          refine inv_of ?_ (fun z => ?_)
          · show (if tms q s.j > s.a then tms q s.j else s.a) ≤ s.b
            split <;> omega
          · show (if tms q s.j > s.a then tms q s.j else s.a) < s.b
            split <;> omega
      · cases z
  | lessB q =>
    have hm : (w, u) ∈ [(("" : Str), (⟨s.row + 1, s.a - tms q s.j, s.b - tms q s.j, s.x, s.j - tms q s.j, s.y⟩ : Stt))] := hm
    simp at hm; obtain ⟨_, rfl⟩ := hm
    exact inv_of (show s.a - tms q s.j ≤ s.b - tms q s.j by omega) (fun z => by have := i2 z; show s.a - tms q s.j < s.b - tms q s.j; omega)
  | lessC q =>
    have hm : (w, u) ∈ [(("" : Str), (⟨s.row + 1, s.a - tms q s.j, s.b - tms q s.j, s.x, s.j - 0, s.y⟩ : Stt))] := hm
    simp at hm; obtain ⟨_, rfl⟩ := hm
    exact inv_of (show s.a - tms q s.j ≤ s.b - tms q s.j by omega) (fun z => by have := i2 z; show s.a - tms q s.j < s.b - tms q s.j; omega)
  | lessV q =>
    have hm : (w, u) ∈ [(("" : Str), (⟨s.row + 1, s.a - 0, s.b - 0, s.x, s.j - tms q s.j, s.y⟩ : Stt))] := hm
    simp at hm; obtain ⟨_, rfl⟩ := hm
    exact inv_of (show s.a ≤ s.b from i1) (fun z => i2 z)
theorem nexts_good {p : List Row} (hp : okProg p) {s t : Stt} (g : Good p.length s) (h : t ∈ nexts p s) : Good p.length t := by
  obtain ⟨r0, r1⟩ := nexts_row hp g.r0 g.r1 h
  refine ⟨r0, r1, ?_⟩
  unfold nexts at h
  obtain ⟨q, hq, rfl⟩ := List.mem_map.mp h
  exact marks_inv g.iv hq
theorem first_good {p : List Row} (hp : okProg p) : ∀ s, s ∈ first4 → Good p.length s := by
  have h := hp.1
  intro s hs
  unfold first4 at hs
  simp at hs
  rcases hs with rfl | rfl | rfl | rfl <;> exact ⟨by decide, by show (0 : Int) < p.length; omega, inv_of (by decide) (by decide)⟩
/-! ### the search -/
structure Bs (p : List Row) (l : List Stt) (i k : Nat) : Prop where
  nd : l.Nodup
  ok : ∀ s, s ∈ l → Good p.length s
  nr : ∀ j s, j < i → l[j]? = some s → near s
  eq : bfs p k l i = bfs p 200000 first4 0
  sum : i + k = 200000
  len : l.length ≤ 4 + 3 * i
  le : i ≤ l.length
  cl : ∀ j s, j < i → l[j]? = some s → ∀ t, t ∈ nexts p s → t ∈ l
  f4 : first4 <+: l
theorem Bs.start {p : List Row} (hp : okProg p) : Bs p first4 0 200000 := ⟨by decide, first_good hp, fun j s h => absurd h (Nat.not_lt_zero _), rfl, rfl, by decide, Nat.zero_le _, fun j s h => absurd h (Nat.not_lt_zero _), List.prefix_refl _⟩
theorem Bs.small {p : List Row} (hp : okProg p) {l : List Stt} {i k : Nat} (B : Bs p l i k) : i ≤ 157216 := by
  have h := few hp.2.1 (l := l.take i) (B.nd.sublist (List.take_sublist _ _)) (fun s hs => ⟨B.ok s (List.mem_of_mem_take hs), by
    obtain ⟨j, hj, e⟩ := List.mem_iff_getElem.mp hs
    rw [List.length_take] at hj
    have hji : j < i := by omega
    refine B.nr j s hji ?_
    rw [← e, List.getElem_take, List.getElem?_eq_getElem]⟩)
  rw [List.length_take, Nat.min_eq_left B.le] at h
  exact h
theorem Bs.go {p : List Row} (hp : okProg p) {l : List Stt} {i k : Nat} (B : Bs p l i k) {s : Stt} (h : l[i]? = some s) : ∃ k', k = k' + 1 ∧ (tooFar s = true → bfs p 200000 first4 0 = none) ∧ (tooFar s = false → Bs p (push l (nexts p s)) (i + 1) k') := by
  have hs := B.small hp
  have hsum := B.sum
  obtain ⟨k', rfl⟩ : ∃ k', k = k' + 1 := ⟨k - 1, by omega⟩
  have e := B.eq
  have e2 : bfs p (k' + 1) l i = if tooFar s = true then none else bfs p k' (push l (nexts p s)) (i + 1) := by
    show (match l[i]? with | none => some l | some s => if tooFar s = true then none else bfs p k' (push l (nexts p s)) (i + 1)) = _
    rw [h]
  have hil : i < l.length := (List.getElem?_eq_some_iff.mp h).1
  have hg := B.ok s (List.mem_of_getElem? h)
  refine ⟨k', rfl, fun z => by rw [← e, e2, if_pos z], fun z => ?_⟩
  have hpre := push_pre (nexts p s) l
  have hlen := hpre.length_le
  refine ⟨push_nodup _ B.nd, fun t ht => ?_, fun j t hj ht => ?_, by rw [← e, e2, if_neg (by rw [z]; decide)], by omega, ?_, by omega, fun j u hj hu t ht => ?_, B.f4.trans hpre⟩
  · rcases push_mem _ ht with w | w
    · exact B.ok t w
    · exact nexts_good hp hg w
  · obtain ⟨tl, e3⟩ := hpre
    have hjl : j < l.length := by omega
    rw [← e3, List.getElem?_append_left hjl] at ht
    by_cases hj2 : j = i
    · subst hj2
      rw [h] at ht; cases ht
      exact near_of z
    · exact B.nr j t (by omega) ht
  · have h1 := push_len (nexts p s) l
    have h2 := nexts_le p s
    have h3 := B.len
    omega
  · have hjl : j < l.length := by omega
    have hpre2 := hpre
    obtain ⟨tl, e3⟩ := hpre2
    rw [← e3, List.getElem?_append_left hjl] at hu
    by_cases hj2 : j = i
    · subst hj2
      rw [h] at hu; cases hu
      exact push_sub _ ht
    · exact hpre.subset (B.cl j u (by omega) hu t ht)
theorem Bs.clo {p : List Row} {l : List Stt} {i k : Nat} (B : Bs p l i k) (h : l.length ≤ i) : ∀ s, s ∈ l → ∀ t, t ∈ nexts p s → t ∈ l := fun s hs => by
  obtain ⟨j, hj, e⟩ := List.mem_iff_getElem.mp hs
  exact B.cl j s (by omega) (by rw [List.getElem?_eq_getElem hj, e])
theorem Bs.fin {p : List Row} (hp : okProg p) {l : List Stt} {i k : Nat} (B : Bs p l i k) (h : l.length ≤ i) : bfs p 200000 first4 0 = some l := by
  rw [← B.eq]
  cases k with
  | zero => rfl
  | succ k =>
    show (match l[i]? with | none => some l | some s => if tooFar s = true then none else bfs p k (push l (nexts p s)) (i + 1)) = _
    rw [List.getElem?_eq_none h]
theorem Bs.all {p : List Row} {l : List Stt} {i k : Nat} (B : Bs p l i k) (h : l.length ≤ i) : ∀ s, s ∈ l → near s := fun s hs => by
  obtain ⟨j, hj, e⟩ := List.mem_iff_getElem.mp hs
  exact B.nr j s (by omega) (by rw [List.getElem?_eq_getElem hj, e])
/-- the search runs to its end: what it gives -/
theorem srch_end {p : List Row} (hp : okProg p) {lf : List Stt} (h : bfs p 200000 first4 0 = some lf) : ∃ i k, Bs p lf i k ∧ lf.length ≤ i := by
  have go : ∀ (k : Nat) (l : List Stt) (i : Nat), Bs p l i k → ∃ i k, Bs p lf i k ∧ lf.length ≤ i := by
    intro k
    induction k with
    | zero => intro l i B; have h1 := B.small hp; have h2 := B.sum; omega
    | succ k ih =>
      intro l i B
      by_cases hi : i < l.length
      · obtain ⟨k', e, b1, b2⟩ := B.go hp (List.getElem?_eq_getElem hi)
        cases e
        cases hf : tooFar l[i] with
        | true => have := b1 hf; rw [h] at this; cases this
        | false => exact ih _ _ (b2 hf)
      · have := B.fin hp (by omega)
        rw [h] at this
        cases this
        exact ⟨i, k + 1, B, by omega⟩
  exact go 200000 first4 0 (Bs.start hp)
end Dr
set_option maxHeartbeats 4000000
/-! M5: the law's search, with depths. -/
namespace Dr
open PySem PySem.Spec PyProof.Rows L2
def pushD (e : Int) (ld : List Stt × List Int) (t : Stt) : List Stt × List Int := if t ∈ ld.1 then ld else (ld.1 ++ [t], ld.2 ++ [e])
def pushDs (e : Int) (ld : List Stt × List Int) (ts : List Stt) : List Stt × List Int := ts.foldl (pushD e) ld
theorem pd1_fst (e : Int) (ld : List Stt × List Int) (t : Stt) : (pushD e ld t).1 = push1 ld.1 t := by
  unfold pushD push1; split <;> rfl
theorem pd_fst (e : Int) : ∀ (ts : List Stt) (ld : List Stt × List Int), (pushDs e ld ts).1 = push ld.1 ts
  | [], _ => rfl
  | t :: ts, ld => by
    show (pushDs e (pushD e ld t) ts).1 = push (push1 ld.1 t) ts
    rw [pd_fst e ts, pd1_fst]
theorem pd_len (e : Int) : ∀ (ts : List Stt) (ld : List Stt × List Int), ld.2.length = ld.1.length → (pushDs e ld ts).2.length = (pushDs e ld ts).1.length
  | [], _, h => h
  | t :: ts, ld, h => pd_len e ts (pushD e ld t) (by unfold pushD; split <;> simp [h])
theorem pd1_pre (e : Int) (ld : List Stt × List Int) (t : Stt) : ld.2 <+: (pushD e ld t).2 := by
  unfold pushD
  split
  · exact List.prefix_refl _
  · exact List.prefix_append _ _
theorem pd_pre (e : Int) : ∀ (ts : List Stt) (ld : List Stt × List Int), ld.2 <+: (pushDs e ld ts).2
  | [], ld => List.prefix_refl _
  | t :: ts, ld => (pd1_pre e ld t).trans (pd_pre e ts _)
theorem pd_snoc (e : Int) (ld : List Stt × List Int) (ts : List Stt) (t : Stt) : pushDs e ld (ts ++ [t]) = pushD e (pushDs e ld ts) t := by unfold pushDs; rw [List.foldl_append]; rfl
def bfsD (p : List Row) : Nat → List Stt × List Int → Nat → List Int
  | 0, ld, _ => ld.2
  | n + 1, ld, i => match ld.1[i]? with
    | none => ld.2
    | some s => bfsD p n (pushDs (ld.2.getD i 0 + 1) ld (nexts p s)) (i + 1)
def deps (p : List Row) : List Int := bfsD p 200000 (first4, [0, 0, 0, 0]) 0
/-- what _law_states gives -/
def statesD (p : List Row) : PyData := match bfs p 200000 first4 0 with
  | none => .list [.list [], .list []]
  | some l => .list [.list (l.map encS), .list ((deps p).map PyData.int)]
structure Bd (p : List Row) (l : List Stt) (ds : List Int) (i k : Nat) : Prop where
  len : ds.length = l.length
  eq : bfsD p k (l, ds) i = deps p
theorem Bd.start {p : List Row} : Bd p first4 [0, 0, 0, 0] 0 200000 := ⟨rfl, rfl⟩
theorem Bd.go {p : List Row} {l : List Stt} {ds : List Int} {i k : Nat} (B : Bd p l ds i (k + 1)) {s : Stt} (h : l[i]? = some s) : Bd p (pushDs (ds.getD i 0 + 1) (l, ds) (nexts p s)).1 (pushDs (ds.getD i 0 + 1) (l, ds) (nexts p s)).2 (i + 1) k := by
  refine ⟨pd_len _ _ _ B.len, ?_⟩
  rw [← B.eq]
  show _ = (match l[i]? with | none => ds | some s => bfsD p k (pushDs (ds.getD i 0 + 1) (l, ds) (nexts p s)) (i + 1))
  rw [h]
theorem Bd.fin {p : List Row} {l : List Stt} {ds : List Int} {i k : Nat} (B : Bd p l ds i k) (h : l.length ≤ i) : deps p = ds := by
  rw [← B.eq]
  cases k with
  | zero => rfl
  | succ k =>
    show (match l[i]? with | none => ds | some s => bfsD p k (pushDs (ds.getD i 0 + 1) (l, ds) (nexts p s)) (i + 1)) = _
    rw [List.getElem?_eq_none h]
theorem int_at {ds : List Int} {i : Nat} (h : i < ds.length) : atI (ds.map PyData.int) (i : Int) = some (.int (ds.getD i 0)) := by
  refine atI_pos (by omega) ?_
  rw [List.getElem?_map, show ((i : Int)).toNat = i from rfl, List.getD_eq_getElem?_getD, List.getElem?_eq_getElem h]; rfl
theorem getD_pre {ds ds' : List Int} {i : Nat} (h : ds <+: ds') (hi : i < ds.length) : ds'.getD i 0 = ds.getD i 0 := by
  obtain ⟨tl, rfl⟩ := h
  rw [List.getD_eq_getElem?_getD, List.getD_eq_getElem?_getD, List.getElem?_append_left hi]
theorem far_law (s : Stt) : (decide (s.a < -8) || (decide (s.j < -8) || (decide (8 < s.b + bi s.x) || decide (8 < s.j + bi s.y)))) = tooFar s := by
  unfold tooFar
  rw [Bool.or_assoc, Bool.or_assoc]
end Dr
set_option maxHeartbeats 4000000
/-! M6: fractions in lowest terms; the least and the greatest. -/
namespace Dr
open PySem PySem.Spec PyProof.Rows L2
def g18 : List (_root_.Fin 18 × _root_.Fin 18) := (List.finRange 18).flatMap fun a => (List.finRange 18).map fun b => (a, b)
/-- the fractions that come: at most 17 over 17 -/
def redu : List (Int × Int) := (0, 1) :: ((List.range 17).flatMap fun a => ((List.range 17).filter fun b => decide (Nat.gcd (a + 1) (b + 1) = 1)).map fun b => (((a + 1 : Nat) : Int), ((b + 1 : Nat) : Int)))
theorem redu_rng : ∀ f, f ∈ redu → 0 ≤ f.1 ∧ f.1 ≤ 17 ∧ 1 ≤ f.2 ∧ f.2 ≤ 17 := by decide +kernel
theorem redu_inj : ∀ f, f ∈ redu → ∀ g, g ∈ redu → f.1 * g.2 = g.1 * f.2 → f = g := by decide +kernel
theorem low_all : ∀ a b : _root_.Fin 17, low ((a.val + 1 : Nat) : Int) ((b.val + 1 : Nat) : Int) ∈ redu := by decide +kernel
theorem low_mem {t b : Int} (h1 : 0 < t) (h2 : t < 18) (h3 : 0 < b) (h4 : b < 18) : low t b ∈ redu := by
  have := low_all ⟨(t - 1).toNat, by omega⟩ ⟨(b - 1).toNat, by omega⟩
  have e1 : (((t - 1).toNat + 1 : Nat) : Int) = t := by omega
  have e2 : (((b - 1).toNat + 1 : Nat) : Int) = b := by omega
  simpa only [e1, e2] using this
theorem ch_redu {q : Qt} {s : Stt} (h : near s) (hi : inv s) : ∀ f, f ∈ chAt q s → f ∈ redu := by
  intro f hf
  have ht := tms_le (q := q) h
  obtain ⟨i1, i2⟩ := inv_le hi
  have hb := bi_le s.x
  obtain ⟨k1, k2, k3, k4⟩ := h
  unfold chAt at hf
  split at hf
  · rw [List.mem_singleton] at hf; subst hf; decide
  · split at hf
    · rw [List.mem_singleton] at hf; subst hf; decide
    · rename_i g1 g2
      cases hx : s.x with
      | true =>
        have e : bi s.x = 1 := by rw [hx]; rfl
        rw [if_pos hx] at hf
        simp only [List.map_cons, List.map_nil, List.mem_cons, List.not_mem_nil, or_false] at hf
        rcases hf with rfl | rfl
        · exact low_mem (by omega) (by omega) (by omega) (by omega)
        · exact low_mem (by omega) (by omega) (by omega) (by omega)
      | false =>
        have e : bi s.x = 0 := by rw [hx]; rfl
        have := i2 hx
        rw [if_neg (by rw [hx]; decide)] at hf
        simp only [List.map_cons, List.map_nil, List.mem_cons, List.not_mem_nil, or_false] at hf
        subst hf
        exact low_mem (by omega) (by omega) (by omega) (by omega)
def leF (f g : Int × Int) : Bool := decide (f.1 * g.2 ≤ g.1 * f.2)
def minS (m e : Int × Int) : Int × Int := if lessF e m = true then e else m
def maxS (m e : Int × Int) : Int × Int := if lessF m e = true then e else m
def minS' (m e : Int × Int) : Int × Int := if leF e m = true then e else m
def maxS' (m e : Int × Int) : Int × Int := if leF m e = true then e else m
theorem minS_eq {m e : Int × Int} (hm : m ∈ redu) (he : e ∈ redu) : minS' m e = minS m e := by
  unfold minS' minS leF lessF
  by_cases h : e.1 * m.2 < m.1 * e.2
  · rw [decide_eq_true h, decide_eq_true (Int.le_of_lt h)]
  · rw [decide_eq_false h]
    by_cases h2 : e.1 * m.2 ≤ m.1 * e.2
    · have := redu_inj e he m hm (by omega)
      rw [decide_eq_true h2, this]; rfl
    · rw [decide_eq_false h2]
theorem maxS_eq {m e : Int × Int} (hm : m ∈ redu) (he : e ∈ redu) : maxS' m e = maxS m e := by
  unfold maxS' maxS leF lessF
  by_cases h : m.1 * e.2 < e.1 * m.2
  · rw [decide_eq_true h, decide_eq_true (Int.le_of_lt h)]
  · rw [decide_eq_false h]
    by_cases h2 : m.1 * e.2 ≤ e.1 * m.2
    · have := redu_inj m hm e he (by omega)
      rw [decide_eq_true h2, this]; rfl
    · rw [decide_eq_false h2]
theorem minS_in {m e : Int × Int} (hm : m ∈ redu) (he : e ∈ redu) : minS m e ∈ redu := by unfold minS; split <;> assumption
theorem maxS_in {m e : Int × Int} (hm : m ∈ redu) (he : e ∈ redu) : maxS m e ∈ redu := by unfold maxS; split <;> assumption
theorem min_in : ∀ (l : List (Int × Int)) {m : Int × Int}, m ∈ redu → (∀ e, e ∈ l → e ∈ redu) → minF l m ∈ redu
  | [], _, h, _ => h
  | e :: l, m, h, hl => min_in l (minS_in h (hl e List.mem_cons_self)) fun x hx => hl x (List.mem_cons_of_mem _ hx)
theorem max_in : ∀ (l : List (Int × Int)) {m : Int × Int}, m ∈ redu → (∀ e, e ∈ l → e ∈ redu) → maxF l m ∈ redu
  | [], _, h, _ => h
  | e :: l, m, h, hl => max_in l (maxS_in h (hl e List.mem_cons_self)) fun x hx => hl x (List.mem_cons_of_mem _ hx)
theorem min_snoc (l : List (Int × Int)) (m e : Int × Int) : minF (l ++ [e]) m = minS (minF l m) e := by unfold minF; rw [List.foldl_append]; rfl
theorem max_snoc (l : List (Int × Int)) (m e : Int × Int) : maxF (l ++ [e]) m = maxS (maxF l m) e := by unfold maxF; rw [List.foldl_append]; rfl
/-- the fractions at row i -/
def toldQ (q : Qt) (i : Int) (l : List Stt) : List (Int × Int) := (l.filter fun s => decide (s.row = i)).flatMap (chAt q)
theorem told_snoc {q : Qt} {i : Int} {l : List Stt} {s : Stt} : toldQ q i (l ++ [s]) = toldQ q i l ++ (if s.row = i then chAt q s else []) := by
  unfold toldQ
  rw [List.filter_append, List.flatMap_append]
  by_cases h : s.row = i
  · rw [if_pos h, List.filter_cons_of_pos (by simpa using h)]; simp
  · rw [if_neg h, List.filter_cons_of_neg (by simpa using h)]; simp
theorem ch_len (q : Qt) (s : Stt) : (chAt q s).length ≤ 2 := by
  unfold chAt
  split
  · decide
  · split
    · decide
    · split <;> exact Nat.le_of_ble_eq_true rfl
theorem told_len (q : Qt) (i : Int) : ∀ (l : List Stt), (toldQ q i l).length ≤ 2 * l.length
  | [] => Nat.zero_le _
  | s :: l => by
    have h1 := told_len q i l
    have h2 := ch_len q s
    unfold toldQ at h1 ⊢
    by_cases h : s.row = i
    · rw [List.filter_cons_of_pos (by simpa using h), List.flatMap_cons, List.length_append, List.length_cons]; omega
    · rw [List.filter_cons_of_neg (by simpa using h), List.length_cons]; omega
theorem told_redu {q : Qt} {i : Int} {l : List Stt} (h : ∀ s, s ∈ l → near s ∧ inv s) : ∀ f, f ∈ toldQ q i l → f ∈ redu := by
  intro f hf
  unfold toldQ at hf
  obtain ⟨s, hs, hf⟩ := List.mem_flatMap.mp hf
  have := h s (List.mem_filter.mp hs).1
  exact ch_redu this.1 this.2 f hf
theorem plain_fr : ∀ (l : List (Int × Int)), PyData.plainAll (l.map encF) = true
  | [] => by simp [PyData.plainAll]
  | f :: l => by
    rw [List.map_cons]
    simp only [PyData.plainAll, encF, PyData.plain, plain_fr l, Bool.and_true, Bool.true_and]
theorem plain_frL (l : List (Int × Int)) : PyData.plain (.list (l.map encF)) = true := by simp only [PyData.plain]; exact plain_fr l
end Dr
set_option maxHeartbeats 4000000
namespace Dr
open PySem PySem.Spec PyProof.Rows L2
section
variable {P : Program} {w : World} {K : PySem.W.Frag} {mg : Str → Option Value} {base : Heap}
theorem enc_at {l : List Stt} {i : Nat} {s : Stt} (h : l[i]? = some s) : atI (l.map encS) (i : Int) = some (encS s) := by
  refine atI_pos (by omega) ?_
  rw [List.getElem?_map, show ((i : Int)).toNat = i from rfl, h]; rfl
theorem first_new : ∀ n d, (first4.map encS)[n]? = some d → keyOk d = true ∧ hasK ((first4.map encS).take n) d = false ∧ (first4.map encS).take (n + 1) = (first4.map encS).take n ++ [d]
  | 0, d, h => by cases h; exact ⟨rfl, by decide +kernel, rfl⟩
  | 1, d, h => by cases h; exact ⟨rfl, by decide +kernel, rfl⟩
  | 2, d, h => by cases h; exact ⟨rfl, by decide +kernel, rfl⟩
  | 3, d, h => by cases h; exact ⟨rfl, by decide +kernel, rfl⟩
  | n + 4, d, h => by cases h
theorem nexts_snoc {p : List Row} {s : Stt} {m : Nat} {q : Str × Stt} (h : (marks (rowAt p s.row) s)[m]? = some q) : (nexts p s).take (m + 1) = (nexts p s).take m ++ [q.2] := by
  unfold nexts
  rw [List.take_add_one, List.getElem?_map, h]; rfl
theorem markL_at {r : Row} {s : Stt} {m : Nat} {d : PyData} (h : ((marks r s).map encM)[m]? = some d) : ∃ q, (marks r s)[m]? = some q ∧ d = encM q := by
  rw [List.getElem?_map] at h
  cases e : (marks r s)[m]? with
  | none => rw [e] at h; cases h
  | some q => rw [e] at h; exact ⟨q, rfl, (Option.some.inj h).symm⟩
theorem small_lt {n : Nat} (h : n ≤ 500000) : n < sizeLine := Nat.lt_of_le_of_lt h (by decide)

def C_reached : Ctr := fun ss μ s' μ' => ∃ (p : List Row) (l : List Stt), okProg p ∧ bfs p 200000 first4 0 = some l ∧ ss = [.prg (.tuple (texts p)) (.tuple (steps p))] ∧ μ = [] ∧ s' = .own 0 ∧ μ' = [.dic (l.map encS)]
theorem sc_reached : FnScope ["program", "found", "waiting", "at", "state", "digit", "later"] ["program"] (defScope s_reached) := ⟨rfl, rfl, rfl, by decide +kernel, rfl, by decide +kernel, by decide +kernel⟩
theorem ok_reached {f : Addr} {fd : FuncData} (T : Tx mg K w) (F : Fun K "reached" "reached" s_reached f fd) (hm : mg "reached" = some (.ref f)) (F_is_too_far : FnD P w K mg base "is_too_far" 1 C_is_too_far) (F_marked_steps : FnD P w K mg base "marked_steps" 2 C_marked_steps) : FnD P w K mg base "reached" 3 C_reached := by
  refine fnD F hm sc_reached (fun _ _ _ _ _ _ us hl => match us, hl with | [_], _ => rfl) (fun ss μ s' μ' h => ?_) (fun cdv A outer s H E c hr ss μ s' μ' h hm0 => ?_)
  · obtain ⟨p, l, hp, hl, rfl, rfl, rfl, rfl⟩ := h; rfl
  · obtain ⟨p, l, hp, hl, rfl, rfl, rfl, rfl⟩ := h
    have hu := hr.units
    refine dxs_drop (μ1 := [.dic (l.map encS)]) (ν := [.lst (l.map encS)]) ?_ (by rw [hm0]; exact Nat.zero_le _)
    exact dxs_cons (ρ1 := [_, _, _, _, .no, .no, .no]) (dx_par3 (i := 1) (j := 2) (l := 3) rfl sc_reached.nd (da_cons (dv_dc (i := 4) (ks := first4.map encS) (fun n acc => acc = (first4.map encS).take n) hu rfl sc_reached.nd (blk_of (by rfl)) (di_tup (dv_gD T.first)) (show 4 < sizeLine by decide) rfl trivial
        (fun n acc h => by rw [h, List.length_take]; exact Nat.min_le_left _ _)
        (fun n d acc hd h => by
          obtain ⟨h1, h2, h3⟩ := first_new n d hd
          exact ⟨d, _, fun c2 s0 H0 C cl fp => dv_name 4 rfl (by nofun), fun c2 s0 H0 C cl fp => dv_tup (dd_cons dv_non (dd_cons dv_str dd_nil)), h1, by rw [h]; exact h2, by rw [h]; exact h3.symm⟩)
        (fun acc h => by rw [h]; rfl) (fun _ _ _ _ _ => pg_name sc_reached.nd rfl (Or.inl rfl)))
        (da_cons (dv_listT T.list (dv_gD T.first)) (da_cons dv_int da_nil)))) (
      dxs_cons (ρ1 := [.prg (.tuple (texts p)) (.tuple (steps p)), .own 0, .own 1, .no, .no, .no, .no]) (dx_while PassesOwn.never (fun n ρ μ => ∃ (l' : List Stt) (i k : Nat), ρ = [.prg (.tuple (texts p)) (.tuple (steps p)), .own 0, .own 1, .dat (.int (i : Int)), .no, .no, .no] ∧ μ = [.dic (l'.map encS), .lst (l'.map encS)] ∧ Bs p l' i k ∧ n = k) 200000 ⟨first4, 0, 200000, rfl, rfl, Bs.start hp, rfl⟩
        (fun n ρ1 μ' h => by
          obtain ⟨l', i, k, rfl, rfl, B, rfl⟩ := h
          refine ⟨decide ((i : Int) < ((l'.map encS).length : Int)), dt_cmp (dv_name 3 rfl (by nofun)) (dv_lenM T.len (dv_name 2 rfl (by nofun)) rfl) (c_lt _ _), fun z => ?_, fun z => ?_⟩
          · have z := of_decide_eq_true z
            rw [List.length_map] at z
            have hil : i < l'.length := by omega
            have hi := List.getElem?_eq_getElem hil
            obtain ⟨k', rfl, hb1, hb2⟩ := B.go hp hi
            have hfar : tooFar l'[i] = false := by
              cases e : tooFar l'[i] with
              | false => rfl
              | true => have := hb1 e; rw [hl] at this; cases this
            have B2 := hb2 hfar
            have hg := B.ok l'[i] (List.getElem_mem hil)
            have hsm := B.small hp
            have hln := B.len
            generalize l'[i] = s at *
            refine ⟨.nx [.prg (.tuple (texts p)) (.tuple (steps p)), .own 0, .own 1, .dat (.int ((i : Int) + 1)), .dat (encS s), .no, .no] [.dic ((push l' (nexts p s)).map encS), .lst ((push l' (nexts p s)).map encS)], ?_, [_, _, _, _, .no, .no, .no], ⟨.inr rfl, .inr rfl, .inr rfl, .inr rfl, .inl rfl, .inl rfl, .inl rfl, trivial⟩, k', Nat.lt_succ_self _, push l' (nexts p s), i + 1, k', rfl, rfl, B2, rfl⟩
            exact dxs_cons (ρ1 := [_, _, _, _, _, _, _]) (dx_set (i := 4) (dv_ixM (dv_name 2 rfl (by nofun)) (dv_name 3 rfl (by nofun)) rfl (enc_at hi)) sc_reached.nd) (
              dxs_cons (ρ1 := [_, _, _, _, _, _, _]) (dx_inc (i := 3) sc_reached.nd rfl dv_int) (
              dxs_guard (dt_is (k1 := false) (dt_val (dv_fn F_is_too_far (hr.mono (by decide)) (da_cons (dv_name 4 rfl (by nofun)) da_nil) ⟨s, rfl, rfl, rfl, rfl⟩)) hfar) (fun z => absurd z (by decide)) (fun _ =>
              dxs_one (dx_for rfl PassesOwn.never (di_lst (dv_fn F_marked_steps (hr.mono (by decide)) (da_cons (dv_name 0 rfl (by nofun)) (da_cons (dv_name 4 rfl (by nofun)) da_nil)) ⟨p, s, _, rfl, rfl, rfl, rfl, hg.r0, hg.r1, rfl⟩))
                (fun m ρ μ => ρ = [.prg (.tuple (texts p)) (.tuple (steps p)), .own 0, .own 1, .dat (.int ((i : Int) + 1)), .dat (encS s), .no, .no] ∧ μ = [.dic ((push l' ((nexts p s).take m)).map encS), .lst ((push l' ((nexts p s).take m)).map encS)]) ⟨rfl, rfl⟩ (fun _ _ _ _ => trivial)
                (fun m d ρ1 μ' hd h => by
                  obtain ⟨rfl, rfl⟩ := h
                  obtain ⟨q, hq, rfl⟩ := markL_at hd
                  have e1 := nexts_snoc hq
                  have hl2 := push_len ((nexts p s).take m) l'
                  have hl3 := nexts_le p s
                  have hl4 : ((nexts p s).take m).length ≤ 3 := by rw [List.length_take]; omega
                  have e2 : push l' ((nexts p s).take (m + 1)) = push1 (push l' ((nexts p s).take m)) q.2 := by rw [e1, push_snoc]
                  rw [e2]
                  generalize push l' ((nexts p s).take m) = lm at *
                  have hk := hasK_encS lm q.2
                  have hsz : (lm.map encS).length < sizeLine := small_lt (by rw [List.length_map]; omega)
                  refine ⟨[.prg (.tuple (texts p)) (.tuple (steps p)), .own 0, .own 1, .dat (.int ((i : Int) + 1)), .dat (encS s), .dat (.str q.1), .dat (encS q.2)], ?_⟩
                  by_cases hmem : q.2 ∈ lm
                  · rw [decide_eq_true hmem] at hk
                    rw [push1_mem hmem]
                    exact ⟨.nx [_, _, _, _, _, _, _] _, dg_tup rfl (dgs_cons (dg_name (i := 5) sc_reached.nd) (dgs_cons (dg_name (i := 6) sc_reached.nd) dgs_nil)),
                      dxs_one (dx_if (dt_is (k1 := false) (dt_cmp (dv_name 6 rfl (by nofun)) (dv_name 1 rfl (by nofun)) (c_ninK hu rfl rfl)) (by rw [hk]; rfl)) (fun z => absurd z (by decide)) (fun _ => dxs_nil)),
                      [_, _, _, _, _, .no, .no], ⟨.inr rfl, .inr rfl, .inr rfl, .inr rfl, .inr rfl, .inl rfl, .inl rfl, trivial⟩, rfl, rfl⟩
                  · rw [decide_eq_false hmem] at hk
                    rw [push1_new hmem, List.map_append]
                    exact ⟨.nx [_, _, _, _, _, _, _] _, dg_tup rfl (dgs_cons (dg_name (i := 5) sc_reached.nd) (dgs_cons (dg_name (i := 6) sc_reached.nd) dgs_nil)),
                      dxs_one (dx_if (dt_is (k1 := true) (dt_cmp (dv_name 6 rfl (by nofun)) (dv_name 1 rfl (by nofun)) (c_ninK hu rfl rfl)) (by rw [hk]; rfl)) (fun _ =>
                        dxs_cons (ρ1 := [_, _, _, _, _, _, _]) (dx_setK hu (dv_tup (dd_cons (dv_name 4 rfl (by nofun)) (dd_cons (dv_name 5 rfl (by nofun)) dd_nil))) (dv_name 1 rfl (by nofun)) (dv_name 6 rfl (by nofun)) rfl rfl hk hsz) (
                        dxs_one (dx_expr (dv_append (dv_name 2 rfl (by nofun)) (dv_name 6 rfl (by nofun)) rfl rfl hsz)))) (fun z => absurd z (by decide))),
                      [_, _, _, _, _, .no, .no], ⟨.inr rfl, .inr rfl, .inr rfl, .inr rfl, .inr rfl, .inl rfl, .inl rfl, trivial⟩, rfl, rfl⟩)
                (fun ρ1 μ' h => by
                  obtain ⟨rfl, rfl⟩ := h
                  refine ⟨_, Fg.refl _, ?_⟩
                  rw [show ((marks (rowAt p s.row) s).map encM).length = (nexts p s).length from by unfold nexts; rw [List.length_map, List.length_map], List.take_length])))))
          · have z := of_decide_eq_false z
            rw [List.length_map] at z
            have hfin := B.fin hp (by omega)
            rw [hl] at hfin
            cases hfin
            exact ⟨[_, _, _, .no, _, _, _], ⟨.inr rfl, .inr rfl, .inr rfl, .inl rfl, .inr rfl, .inr rfl, .inr rfl, trivial⟩, rfl⟩))
      (dxs_one (dx_retIs (dv_name 1 rfl (by nofun)) rfl)))
end
end Dr
set_option maxHeartbeats 4000000
namespace Dr
open PySem PySem.Spec PyProof.Rows L2
section
variable {P : Program} {w : World} {K : PySem.W.Frag} {mg : Str → Option Value} {base : Heap}
theorem tl_eq {p : List Row} {s : Stt} : tl (rowAt p s.row) s = (nexts p s).map encS := by
  unfold tl nexts
  rw [List.map_map]; rfl
def C_law_states : Ctr := fun ss μ s' μ' => ∃ (p : List Row), okProg p ∧ ss = [.dat (.list (texts p))] ∧ μ = [] ∧ s' = .dat (statesD p) ∧ μ' = []
theorem sc_law_states : FnScope ["_law_lines", "_law_some", "_law_depth", "_law_known_here", "_law_each", "_law_at", "_law_one", "_law_state"] ["_law_lines"] (defScope s_law_states) := ⟨rfl, rfl, rfl, by decide +kernel, rfl, by decide +kernel, by decide +kernel⟩
theorem ok_law_states {f : Addr} {fd : FuncData} (T : Tx mg K w) (F : Fun K "_law_states" "_law_states" s_law_states f fd) (hm : mg "_law_states" = some (.ref f)) (F_law_steps : FnD P w K mg base "_law_steps" 1 C_law_steps) : FnD P w K mg base "_law_states" 2 C_law_states := by
  refine fnD F hm sc_law_states (fun _ _ _ _ _ _ us hl => match us, hl with | [_], _ => rfl) (fun ss μ s' μ' h => ?_) (fun cdv A outer s H E c hr ss μ s' μ' h hm0 => ?_)
  · obtain ⟨p, hp, rfl, rfl, rfl, rfl⟩ := h; rfl
  · obtain ⟨p, hp, rfl, rfl, rfl, rfl⟩ := h
    have hu := hr.units
    have h0 : c.m0 = [] := List.eq_nil_of_length_eq_zero hm0
    have hN := sc_law_states.nd
    have hout : ∃ o : Out, (match bfs p 200000 first4 0 with
        | none => o = .rt (.dat (.list [.list [], .list []])) []
        | some l => o = .nx [.dat (.list (texts p)), .own 0, .own 1, .own 2, .no, .no, .no, .no] [.lst (l.map encS), .lst ((deps p).map PyData.int), .dic (l.map encS)]) := by
      cases bfs p 200000 first4 0 with
      | none => exact ⟨_, rfl⟩
      | some l => exact ⟨_, rfl⟩
    obtain ⟨o, ho⟩ := hout
    have post : ∀ {st : Stmt} {sts : List Stmt} {ρ : List Sl} {μ : List Mo} {X : Cx} (hret : ∀ l : List Stt, o = .nx [.dat (.list (texts p)), .own 0, .own 1, .own 2, .no, .no, .no, .no] [.lst (l.map encS), .lst ((deps p).map PyData.int), .dic (l.map encS)] → dXs X c sts [.dat (.list (texts p)), .own 0, .own 1, .own 2, .no, .no, .no, .no] [.lst (l.map encS), .lst ((deps p).map PyData.int), .dic (l.map encS)] (.rt (.dat (.list [.list (l.map encS), .list ((deps p).map PyData.int)])) [])), dX X c st ρ μ o → dXs X c (st :: sts) ρ μ (.rt (.dat (statesD p)) []) := by
      intro st sts ρ μ X hret hx
      unfold statesD
      cases hb : bfs p 200000 first4 0 with
      | none =>
        rw [hb] at ho
        subst ho
        exact dxs_stop hx trivial
      | some l =>
        rw [hb] at ho
        subst ho
        exact dxs_cons hx (hret l rfl)
    exact dxs_cons (ρ1 := [_, _, .no, .no, .no, .no, .no, .no]) (dx_set (i := 1) (dv_lst (dd_cons (dv_tup (dd_cons dv_int (dd_cons dv_int (dd_cons dv_int (dd_cons dv_bl (dd_cons dv_int (dd_cons dv_bl dd_nil))))))) (dd_cons (dv_tup (dd_cons dv_int (dd_cons dv_int (dd_cons dv_int (dd_cons dv_bl (dd_cons dv_int (dd_cons dv_bl dd_nil))))))) dd_nil))) hN) (
      dxs_cons (ρ1 := [_, _, .no, .no, .no, .no, .no, .no]) (dx_set (i := 1) (dv_catM (dv_name 1 rfl (by nofun)) (dv_lst (dd_cons (dv_tup (dd_cons dv_int (dd_cons dv_int (dd_cons dv_int (dd_cons dv_bl (dd_cons dv_int (dd_cons dv_bl dd_nil))))))) (dd_cons (dv_tup (dd_cons dv_int (dd_cons dv_int (dd_cons dv_int (dd_cons dv_bl (dd_cons dv_int (dd_cons dv_bl dd_nil))))))) dd_nil))) (by decide)) hN) (
      dxs_cons (ρ1 := [_, _, _, _, .no, .no, .no, .no]) (dx_par2 (i := 2) (j := 3) rfl hN (da_cons (dv_lstM (dd_cons dv_int (dd_cons dv_int (dd_cons dv_int (dd_cons dv_int dd_nil))))) (da_cons dv_dic0 da_nil))) (
      dxs_cons (ρ1 := [.dat (.list (texts p)), .own 0, .own 1, .own 2, .no, .no, .no, .no]) (μ1 := [.lst (first4.map encS), .lst (([0, 0, 0, 0] : List Int).map PyData.int), .dic (first4.map encS)]) (dx_for rfl PassesOwn.never (di_own (ds := first4.map encS) (dv_name 1 rfl (by nofun)) rfl)
        (fun m ρ μ => ρ = [.dat (.list (texts p)), .own 0, .own 1, .own 2, .no, .no, .no, .no] ∧ μ = [.lst (first4.map encS), .lst (([0, 0, 0, 0] : List Int).map PyData.int), .dic ((first4.map encS).take m)]) ⟨rfl, rfl⟩ (fun _ _ _ h => by rw [h.2]; rfl)
        (fun m d ρ1 μ' hd h => by
          obtain ⟨rfl, rfl⟩ := h
          obtain ⟨h1, h2, h3⟩ := first_new m d hd
          rw [h3]
          exact ⟨[.dat (.list (texts p)), .own 0, .own 1, .own 2, .dat d, .no, .no, .no], .nx [_, _, _, _, _, _, _, _] _, dg_name (i := 4) hN, dxs_one (dx_setK hu dv_bl (dv_name 3 rfl (by nofun)) (dv_name 4 rfl (by nofun)) rfl h1 h2 (small_lt (by rw [List.length_take]; exact Nat.le_trans (Nat.min_le_right _ _) (by decide)))), [_, _, _, _, .no, _, _, _], ⟨.inr rfl, .inr rfl, .inr rfl, .inr rfl, .inl rfl, .inr rfl, .inr rfl, .inr rfl, trivial⟩, rfl, rfl⟩)
        (fun ρ1 μ' h => ⟨ρ1, Fg.refl _, by rw [h.1, h.2]; rfl⟩)) (
      post (fun l _ => dxs_one (dx_retShow2 (i := 0) (j := 1) (da_cons (dv_name 1 rfl (by nofun)) (da_cons (dv_name 2 rfl (by nofun)) da_nil)) h0 rfl rfl)) (dx_for rfl PassesOwn.never (di_rng1 T.range dv_int ⟨by decide, by decide⟩)
        (fun i ρ μ => ∃ (l' : List Stt) (ds : List Int) (k : Nat), ρ = [.dat (.list (texts p)), .own 0, .own 1, .own 2, .no, .no, .no, .no] ∧ μ = [.lst (l'.map encS), .lst (ds.map PyData.int), .dic (l'.map encS)] ∧ Bs p l' i k ∧ Bd p l' ds i k) ⟨first4, [0, 0, 0, 0], 200000, rfl, rfl, Bs.start hp, Bd.start⟩ (fun _ _ _ _ => trivial)
        (fun i d ρ1 μ' hd h => by
          obtain ⟨l', ds, k, rfl, rfl, B, D⟩ := h
          obtain ⟨hi9, rfl⟩ := rng_at.mp hd
          have hat : (0 : Int) + (i : Int) = (i : Int) := by omega
          rw [hat]
          refine ⟨[.dat (.list (texts p)), .own 0, .own 1, .own 2, .no, .dat (.int (i : Int)), .no, .no], ?_⟩
          by_cases hil : i < l'.length
          · have hi := List.getElem?_eq_getElem hil
            obtain ⟨k', rfl, hb1, hb2⟩ := B.go hp hi
            have hg := B.ok l'[i] (List.getElem_mem hil)
            have hsm := B.small hp
            have hln := B.len
            have D2 := D.go hi
            generalize l'[i] = s at *
            have hge : decide (((l'.map encS).length : Int) ≤ (i : Int)) = false := decide_eq_false (by rw [List.length_map]; omega)
            cases hfar : tooFar s with
            | true =>
              rw [hb1 hfar] at ho
              exact ⟨.rt (.dat (.list [.list [], .list []])) [], dg_name (i := 5) hN,
                dxs_guard (dt_is (k1 := false) (dt_cmp (dv_name 5 rfl (by nofun)) (dv_lenM T.len (dv_name 1 rfl (by nofun)) rfl) (c_ge _ _)) hge) (fun z => absurd z (by decide)) (fun _ =>
                dxs_cons (ρ1 := [_, _, _, _, _, _, _, _]) (dx_set (i := 6) (dv_ixM (dv_name 1 rfl (by nofun)) (dv_name 5 rfl (by nofun)) rfl (enc_at hi)) hN) (
                dxs_stop (dx_if (dt_is (k1 := true) (dt_w (dw_or (dt_cmp (dv_ixT (dv_name 6 rfl (by nofun)) dv_int rfl) (dv_neg dv_int) (c_lt _ _)) fun _ => dw_or (dt_cmp (dv_ixT (dv_name 6 rfl (by nofun)) dv_int rfl) (dv_neg dv_int) (c_lt _ _)) fun _ => dw_or (dt_cmp (dv_add (dv_ixT (dv_name 6 rfl (by nofun)) dv_int rfl) (dv_intB T.int (dv_ixT (dv_name 6 rfl (by nofun)) dv_int rfl))) dv_int (c_gt _ _)) fun _ => dw_or1 (dt_cmp (dv_add (dv_ixT (dv_name 6 rfl (by nofun)) dv_int rfl) (dv_intB T.int (dv_ixT (dv_name 6 rfl (by nofun)) dv_int rfl))) dv_int (c_gt _ _)))) ((far_law s).trans hfar)) (fun _ => dxs_one (dx_drop (μ1 := []) (dx_ret (dv_lst (dd_cons (dv_lst dd_nil) (dd_cons (dv_lst dd_nil) dd_nil)))) (by rw [h0]; exact Nat.le_refl 0))) (fun z => absurd z (by decide))) trivial)), ho⟩
            | false =>
              have B2 := hb2 hfar
              have hpf := pd_fst (ds.getD i 0 + 1) (nexts p s) (l', ds)
              have hdl : i < ds.length := by rw [D.len]; exact hil
              refine ⟨.nx [.dat (.list (texts p)), .own 0, .own 1, .own 2, .no, .dat (.int (i : Int)), .dat (encS s), .no] [.lst ((push l' (nexts p s)).map encS), .lst ((pushDs (ds.getD i 0 + 1) (l', ds) (nexts p s)).2.map PyData.int), .dic ((push l' (nexts p s)).map encS)], dg_name (i := 5) hN, ?_, [_, _, _, _, _, .no, .no, .no], ⟨.inr rfl, .inr rfl, .inr rfl, .inr rfl, .inr rfl, .inl rfl, .inl rfl, .inl rfl, trivial⟩, push l' (nexts p s), _, k', rfl, rfl, B2, by rw [hpf] at D2; exact D2⟩
              exact dxs_guard (dt_is (k1 := false) (dt_cmp (dv_name 5 rfl (by nofun)) (dv_lenM T.len (dv_name 1 rfl (by nofun)) rfl) (c_ge _ _)) hge) (fun z => absurd z (by decide)) (fun _ =>
                dxs_cons (ρ1 := [_, _, _, _, _, _, _, _]) (dx_set (i := 6) (dv_ixM (dv_name 1 rfl (by nofun)) (dv_name 5 rfl (by nofun)) rfl (enc_at hi)) hN) (
                dxs_guard (dt_is (k1 := false) (dt_w (dw_or (dt_cmp (dv_ixT (dv_name 6 rfl (by nofun)) dv_int rfl) (dv_neg dv_int) (c_lt _ _)) fun _ => dw_or (dt_cmp (dv_ixT (dv_name 6 rfl (by nofun)) dv_int rfl) (dv_neg dv_int) (c_lt _ _)) fun _ => dw_or (dt_cmp (dv_add (dv_ixT (dv_name 6 rfl (by nofun)) dv_int rfl) (dv_intB T.int (dv_ixT (dv_name 6 rfl (by nofun)) dv_int rfl))) dv_int (c_gt _ _)) fun _ => dw_or1 (dt_cmp (dv_add (dv_ixT (dv_name 6 rfl (by nofun)) dv_int rfl) (dv_intB T.int (dv_ixT (dv_name 6 rfl (by nofun)) dv_int rfl))) dv_int (c_gt _ _)))) ((far_law s).trans hfar)) (fun z => absurd z (by decide)) (fun _ =>
                dxs_one (dx_for rfl PassesOwn.never (di_lst (dv_fn F_law_steps (hr.mono (by decide)) (da_cons (dv_name 0 rfl (by nofun)) (da_cons (dv_name 6 rfl (by nofun)) da_nil)) ⟨p, s, _, rfl, rfl, rfl, rfl, hg.r0, hg.r1, rfl⟩))
                  (fun m ρ μ => ρ = [.dat (.list (texts p)), .own 0, .own 1, .own 2, .no, .dat (.int (i : Int)), .dat (encS s), .no] ∧ μ = [.lst ((push l' ((nexts p s).take m)).map encS), .lst ((pushDs (ds.getD i 0 + 1) (l', ds) ((nexts p s).take m)).2.map PyData.int), .dic ((push l' ((nexts p s).take m)).map encS)]) ⟨rfl, rfl⟩ (fun _ _ _ _ => trivial)
                  (fun m d ρ1 μ' hd h => by
                    obtain ⟨rfl, rfl⟩ := h
                    rw [tl_eq, List.getElem?_map] at hd
                    obtain ⟨t, ht, rfl⟩ : ∃ t, (nexts p s)[m]? = some t ∧ d = encS t := by
                      cases e : (nexts p s)[m]? with
                      | none => rw [e] at hd; cases hd
                      | some t => rw [e] at hd; exact ⟨t, rfl, (Option.some.inj hd).symm⟩
                    have e1 : (nexts p s).take (m + 1) = (nexts p s).take m ++ [t] := by rw [List.take_add_one, ht]; rfl
                    have hl2 := push_len ((nexts p s).take m) l'
                    have hl3 := nexts_le p s
                    have hl4 : ((nexts p s).take m).length ≤ 3 := by rw [List.length_take]; omega
                    have f1 := pd_fst (ds.getD i 0 + 1) ((nexts p s).take m) (l', ds)
                    have f2 := pd_len (ds.getD i 0 + 1) ((nexts p s).take m) (l', ds) D.len
                    have f3 := pd_pre (ds.getD i 0 + 1) ((nexts p s).take m) (l', ds)
                    have e2 : push l' ((nexts p s).take (m + 1)) = push1 (push l' ((nexts p s).take m)) t := by rw [e1, push_snoc]
                    have e3 : pushDs (ds.getD i 0 + 1) (l', ds) ((nexts p s).take (m + 1)) = pushD (ds.getD i 0 + 1) (pushDs (ds.getD i 0 + 1) (l', ds) ((nexts p s).take m)) t := by rw [e1, pd_snoc]
                    rw [e2, e3]
                    have f1 : (pushDs (ds.getD i 0 + 1) (l', ds) ((nexts p s).take m)).1 = push l' ((nexts p s).take m) := f1
                    generalize pushDs (ds.getD i 0 + 1) (l', ds) ((nexts p s).take m) = ldm at *
                    rw [← f1] at hl2 ⊢
                    obtain ⟨lm, dm⟩ := ldm
                    have f3 : ds <+: dm := f3
                    have f2 : dm.length = lm.length := f2
                    have hl2 : lm.length ≤ l'.length + ((nexts p s).take m).length := hl2
                    have hk := hasK_encS lm t
                    have hsz : (lm.map encS).length < sizeLine := small_lt (by rw [List.length_map]; omega)
                    have hsz2 : (dm.map PyData.int).length < sizeLine := small_lt (by rw [List.length_map]; omega)
                    have hdat : atI (dm.map PyData.int) (i : Int) = some (.int (ds.getD i 0)) := by
                      rw [← getD_pre f3 hdl]
                      exact int_at (Nat.lt_of_lt_of_le hdl f3.length_le)
                    refine ⟨[.dat (.list (texts p)), .own 0, .own 1, .own 2, .no, .dat (.int (i : Int)), .dat (encS s), .dat (encS t)], ?_⟩
                    by_cases hmem : t ∈ lm
                    · rw [decide_eq_true hmem] at hk
                      rw [show push1 (lm, dm).1 t = lm from if_pos hmem, show pushD (ds.getD i 0 + 1) (lm, dm) t = (lm, dm) from if_pos hmem]
                      exact ⟨.nx [_, _, _, _, _, _, _, _] _, dg_name (i := 7) hN,
                        dxs_one (dx_if (dt_is (k1 := false) (dt_cmp (dv_name 7 rfl (by nofun)) (dv_name 3 rfl (by nofun)) (c_ninK hu rfl rfl)) (by rw [hk]; rfl)) (fun z => absurd z (by decide)) (fun _ => dxs_nil)),
                        [_, _, _, _, _, _, _, .no], ⟨.inr rfl, .inr rfl, .inr rfl, .inr rfl, .inr rfl, .inr rfl, .inr rfl, .inl rfl, trivial⟩, rfl, rfl⟩
                    · rw [decide_eq_false hmem] at hk
                      rw [show push1 (lm, dm).1 t = lm ++ [t] from if_neg hmem, show pushD (ds.getD i 0 + 1) (lm, dm) t = (lm ++ [t], dm ++ [ds.getD i 0 + 1]) from if_neg hmem, List.map_append, List.map_append]
                      exact ⟨.nx [_, _, _, _, _, _, _, _] _, dg_name (i := 7) hN,
                        dxs_one (dx_if (dt_is (k1 := true) (dt_cmp (dv_name 7 rfl (by nofun)) (dv_name 3 rfl (by nofun)) (c_ninK hu rfl rfl)) (by rw [hk]; rfl)) (fun _ =>
                          dxs_cons (ρ1 := [_, _, _, _, _, _, _, _]) (dx_setK hu dv_bl (dv_name 3 rfl (by nofun)) (dv_name 7 rfl (by nofun)) rfl rfl hk hsz) (
                          dxs_cons (ρ1 := [_, _, _, _, _, _, _, _]) (dx_expr (dv_append (dv_name 1 rfl (by nofun)) (dv_name 7 rfl (by nofun)) rfl rfl hsz)) (
                          dxs_one (dx_expr (dv_append (dv_name 2 rfl (by nofun)) (dv_add (dv_ixM (dv_name 2 rfl (by nofun)) (dv_name 5 rfl (by nofun)) rfl hdat) dv_int) rfl rfl hsz2))))) (fun z => absurd z (by decide))),
                        [_, _, _, _, _, _, _, .no], ⟨.inr rfl, .inr rfl, .inr rfl, .inr rfl, .inr rfl, .inr rfl, .inr rfl, .inl rfl, trivial⟩, rfl, rfl⟩)
                  (fun ρ1 μ' h => by
                    obtain ⟨rfl, rfl⟩ := h
                    refine ⟨_, Fg.refl _, ?_⟩
                    rw [show (tl (rowAt p s.row) s).length = (nexts p s).length from by rw [tl_eq, List.length_map], List.take_length])))))
          · have hge : decide (((l'.map encS).length : Int) ≤ (i : Int)) = true := decide_eq_true (by rw [List.length_map]; omega)
            have hf := B.fin hp (by omega)
            have hd2 := D.fin (by omega)
            rw [hf] at ho
            rw [hd2] at ho
            exact ⟨.bk [_, _, _, _, _, _, _, _] [.lst (l'.map encS), .lst (ds.map PyData.int), .dic (l'.map encS)], dg_name (i := 5) hN, dxs_stop (dx_if (dt_is (k1 := true) (dt_cmp (dv_name 5 rfl (by nofun)) (dv_lenM T.len (dv_name 1 rfl (by nofun)) rfl) (c_ge _ _)) hge) (fun _ => dxs_one dx_brk) (fun z => absurd z (by decide))) trivial, [_, _, _, _, _, .no, _, _], ⟨.inr rfl, .inr rfl, .inr rfl, .inr rfl, .inr rfl, .inl rfl, .inr rfl, .inr rfl, trivial⟩, ho⟩)
        (fun ρ1 μ' h => by
          obtain ⟨l', ds, k, rfl, rfl, B, D⟩ := h
          rw [rng_len] at B
          have hsm := B.small hp
          have : (200000 : Int).toNat = 200000 := rfl
          omega))))))
end
end Dr
set_option maxHeartbeats 4000000
/-! M7: a spot with a written n is covered by a state. -/
namespace Dr
open PySem PySem.Spec PyProof.Rows L2
/-- the state s stands for the spot, r being the part -/
structure Cov (n : Int) (s : Stt) (u : Spot) (r : Int) : Prop where
  r0 : 0 < r
  r1 : r < n
  row : s.row = u.row
  a : u.a = s.a * n
  b : u.b = s.b * n + bi s.x * r
  v : u.v = s.j * n + bi s.y * r
theorem bi_r {x : Bool} {r : Int} (h : 0 < r) : 0 ≤ bi x * r ∧ bi x * r ≤ r ∧ (x = true → bi x * r = r) ∧ (x = false → bi x * r = 0) := by
  cases x with
  | true => have : bi true * r = r := by show 1 * r = r; omega
            exact ⟨by omega, by omega, fun _ => this, fun z => by cases z⟩
  | false => have : bi false * r = 0 := by show 0 * r = 0; omega
             exact ⟨by omega, by omega, (fun z => by cases z), fun _ => this⟩
theorem mul_lt_iff {a t n : Int} (h : 0 < n) : a * n < t * n ↔ a < t := ⟨fun z => Int.lt_of_mul_lt_mul_right z (Int.le_of_lt h), fun z => Int.mul_lt_mul_of_pos_right z h⟩
/-- t n < b n + part  exactly if  t < b + x -/
theorem cut_iff {t b n r : Int} {x : Bool} (h0 : 0 < r) (h1 : r < n) : t * n < b * n + bi x * r ↔ t < b + bi x := by
  obtain ⟨_, _, k1, k2⟩ := bi_r (x := x) h0
  cases x with
  | true =>
    have k1 := k1 rfl
    rw [k1]
    have e : bi true = 1 := rfl
    rw [e]
    constructor
    · intro z
      have : t * n < (b + 1) * n := by rw [Int.add_mul]; omega
      exact (mul_lt_iff (by omega)).mp this
    · intro z
      have : t * n ≤ b * n := Int.mul_le_mul_of_nonneg_right (by omega) (by omega)
      omega
  | false =>
    have k2 := k2 rfl
    rw [k2]
    have e : bi false = 0 := rfl
    rw [e, Int.add_zero, Int.add_zero]
    exact mul_lt_iff (by omega)
/-- what a quantity is -/
theorem sz_eq {q : Qt} {n : Int} {s : Stt} {u : Spot} {r : Int} (C : Cov n s u r) : szL q n u.v = tms q s.j * n := by
  obtain ⟨k0, k1, _, _⟩ := bi_r (x := s.y) C.r0
  have h0 := C.r0
  have h1 := C.r1
  unfold szL tms
  by_cases h : q.val = 0
  · rw [if_pos h, if_pos h, C.v]
    have : (s.j * n + bi s.y * r) / n = s.j := by
      rw [Int.add_comm, Int.add_mul_ediv_right _ _ (by omega), Int.ediv_eq_zero_of_lt k0 (by omega), Int.zero_add]
    rw [this, Int.mul_comm]
  · rw [if_neg h, if_neg h, Int.mul_comm]
theorem cov_next {p : List Row} {n : Int} (hn : 2 ≤ n) {s : Stt} {u u' : Spot} {r : Int} (C : Cov n s u r) (h : u' ∈ nextL (rowAt p u.row) n u) : ∃ t, t ∈ nexts p s ∧ ∃ r', Cov n t u' r' := by
  have hr := C.row
  unfold nexts
  rw [hr]
  have hsz : ∀ q, szL q n u.v = tms q s.j * n := fun q => sz_eq C
  have ha := C.a; have hb := C.b; have hv := C.v; have h0 := C.r0; have h1 := C.r1
  have go : ∀ {m : List (Str × Stt)} {w : Str} {t : Stt} {r' : Int}, (w, t) ∈ m → Cov n t u' r' → ∃ t, t ∈ m.map (·.2) ∧ ∃ r', Cov n t u' r' := fun {m w t r'} hm c => ⟨t, List.mem_map.mpr ⟨(w, t), hm, rfl⟩, r', c⟩
  generalize rowAt p u.row = rw0 at *
  cases rw0 with
  | take =>
    have h : u' ∈ [(⟨u.row + 1, 2 * u.a, 2 * u.b, 2 * u.v⟩ : Spot)] := h
    rw [List.mem_singleton] at h
    subst h
    by_cases hx : (!s.x && !s.y) = true
    · have hx1 : s.x = false := by cases e : s.x <;> simp_all
      have hy1 : s.y = false := by cases e : s.y <;> simp_all
      have kx := (bi_r (x := s.x) h0).2.2.2 hx1
      have ky := (bi_r (x := s.y) h0).2.2.2 hy1
      refine go (m := marks .take s) (w := "") (t := ⟨s.row + 1, 2 * s.a, 2 * s.b, s.x, 2 * s.j, s.y⟩) (r' := r) (by rw [show marks .take s = _ from if_pos hx]; exact List.mem_singleton.mpr rfl) ⟨h0, h1, by show s.row + 1 = u.row + 1; omega, ?_, ?_, ?_⟩
      · show 2 * u.a = 2 * s.a * n; rw [ha, Int.mul_assoc]
      · show 2 * u.b = 2 * s.b * n + bi s.x * r; rw [hb, kx, Int.mul_assoc]; omega
      · show 2 * u.v = 2 * s.j * n + bi s.y * r; rw [hv, ky, Int.mul_assoc]; omega
    · have em : marks .take s = [(("0" : Str), ⟨s.row + 1, 2 * s.a, 2 * s.b, s.x, 2 * s.j, s.y⟩), (("1" : Str), ⟨s.row + 1, 2 * s.a, 2 * s.b + bi s.x, s.x, 2 * s.j + bi s.y, s.y⟩), (("h" : Str), ⟨s.row + 1, 2 * s.a, 2 * s.b + bi s.x, false, 2 * s.j + bi s.y, false⟩)] := if_neg hx
      rw [em]
      rcases Int.lt_trichotomy (2 * r) n with hh | hh | hh
      · refine go (w := "0") (t := ⟨s.row + 1, 2 * s.a, 2 * s.b, s.x, 2 * s.j, s.y⟩) (r' := 2 * r) List.mem_cons_self ⟨by omega, hh, by show s.row + 1 = u.row + 1; omega, ?_, ?_, ?_⟩
        · show 2 * u.a = 2 * s.a * n; rw [ha, Int.mul_assoc]
        · show 2 * u.b = 2 * s.b * n + bi s.x * (2 * r); rw [hb, Int.mul_assoc, Int.mul_add, Int.mul_left_comm (bi s.x) 2 r]
        · show 2 * u.v = 2 * s.j * n + bi s.y * (2 * r); rw [hv, Int.mul_assoc, Int.mul_add, Int.mul_left_comm (bi s.y) 2 r]
      · refine go (w := "h") (t := ⟨s.row + 1, 2 * s.a, 2 * s.b + bi s.x, false, 2 * s.j + bi s.y, false⟩) (r' := 1) (by simp) ⟨by omega, by omega, by show s.row + 1 = u.row + 1; omega, ?_, ?_, ?_⟩
        · show 2 * u.a = 2 * s.a * n; rw [ha, Int.mul_assoc]
        · show 2 * u.b = (2 * s.b + bi s.x) * n + bi false * 1
          rw [hb, Int.add_mul, ← hh, Int.mul_left_comm (bi s.x) 2 r, Int.mul_assoc, Int.mul_add]; show _ = _ + 0 * 1; omega
        · show 2 * u.v = (2 * s.j + bi s.y) * n + bi false * 1
          rw [hv, Int.add_mul, ← hh, Int.mul_left_comm (bi s.y) 2 r, Int.mul_assoc, Int.mul_add]; show _ = _ + 0 * 1; omega
      · refine go (w := "1") (t := ⟨s.row + 1, 2 * s.a, 2 * s.b + bi s.x, s.x, 2 * s.j + bi s.y, s.y⟩) (r' := 2 * r - n) (by simp) ⟨by omega, by omega, by show s.row + 1 = u.row + 1; omega, ?_, ?_, ?_⟩
        · show 2 * u.a = 2 * s.a * n; rw [ha, Int.mul_assoc]
        · show 2 * u.b = (2 * s.b + bi s.x) * n + bi s.x * (2 * r - n)
          rw [hb, Int.add_mul, Int.mul_sub, Int.mul_left_comm (bi s.x) 2 r, Int.mul_assoc, Int.mul_add]; omega
        · show 2 * u.v = (2 * s.j + bi s.y) * n + bi s.y * (2 * r - n)
          rw [hv, Int.add_mul, Int.mul_sub, Int.mul_left_comm (bi s.y) 2 r, Int.mul_assoc, Int.mul_add]; omega
  | again => cases h
  | giveC => cases h
  | giveR => cases h
  | go d =>
    have h : u' ∈ [(⟨(d.val : Int), u.a, u.a + u.b - u.a, u.v⟩ : Spot)] := h
    rw [List.mem_singleton] at h
    subst h
    exact go (w := "") (t := { s with row := (d.val : Int) }) (List.mem_singleton.mpr rfl) ⟨h0, h1, rfl, ha, by show u.a + u.b - u.a = _; rw [← hb]; omega, hv⟩
  | ifv q d =>
    have h : u' ∈ [(⟨if u.v < szL q n u.v then (d.val : Int) else u.row + 1, u.a, u.a + u.b - u.a, u.v⟩ : Spot)] := h
    rw [List.mem_singleton] at h
    subst h
    refine go (w := "") (t := { s with row := if s.j < tms q s.j then (d.val : Int) else s.row + 1 }) (List.mem_singleton.mpr rfl) ⟨h0, h1, ?_, ha, by show u.a + u.b - u.a = _; rw [← hb]; omega, hv⟩
    show (if s.j < tms q s.j then (d.val : Int) else s.row + 1) = if u.v < szL q n u.v then (d.val : Int) else u.row + 1
    have : (u.v < szL q n u.v) ↔ (s.j < tms q s.j) := by
      rw [hsz, hv]
      obtain ⟨k0, k1, _, _⟩ := bi_r (x := s.y) h0
      constructor
      · intro z
        exact (mul_lt_iff (n := n) (by omega)).mp (by omega)
      · intro z
        have : (s.j + 1) * n ≤ tms q s.j * n := Int.mul_le_mul_of_nonneg_right (by omega) (by omega)
        rw [Int.add_mul] at this
        omega
    by_cases hc : s.j < tms q s.j
    · rw [if_pos hc, if_pos (this.mpr hc)]
    · rw [if_neg hc, if_neg (fun z => hc (this.mp z)), hr]
  | ifc q d =>
    rw [next_ifc] at h
    rw [marks_ifc]
    have c1 : u.a < szL q n u.v ↔ s.a < tms q s.j := by rw [hsz, ha]; exact mul_lt_iff (by omega)
    have c2 : szL q n u.v < u.b ↔ tms q s.j < s.b + bi s.x := by rw [hsz, hb]; exact cut_iff h0 h1
    rcases List.mem_append.mp h with z | z
    · split at z
      · rename_i g1
        rw [List.mem_singleton] at z
        subst z
        rw [if_pos (c1.mp g1)]
        by_cases g2 : tms q s.j < s.b + bi s.x
        · rw [if_pos g2]
          have g3 := c2.mpr g2
          refine go (w := "") (t := ⟨(d.val : Int), s.a, tms q s.j, false, s.j, s.y⟩) (List.mem_append_left _ (List.mem_singleton.mpr rfl)) ⟨h0, h1, rfl, ha, ?_, hv⟩
          show (if u.b < szL q n u.v then u.b else szL q n u.v) = tms q s.j * n + bi false * r
          rw [if_neg (by omega), hsz]; show _ = _ + 0 * r; omega
        · rw [if_neg g2]
          have g3 : ¬ szL q n u.v < u.b := fun z => g2 (c2.mp z)
          refine go (w := "") (t := ⟨(d.val : Int), s.a, s.b, s.x, s.j, s.y⟩) (List.mem_append_left _ (List.mem_singleton.mpr rfl)) ⟨h0, h1, rfl, ha, ?_, hv⟩
          show (if u.b < szL q n u.v then u.b else szL q n u.v) = s.b * n + bi s.x * r
          rw [← hb]
          split <;> omega
      · cases z
    · split at z
      · rename_i g2
        rw [List.mem_singleton] at z
        subst z
        refine go (w := "") (t := ⟨s.row + 1, if tms q s.j > s.a then tms q s.j else s.a, s.b, s.x, s.j, s.y⟩) (List.mem_append_right _ (by rw [if_pos (c2.mp g2)]; exact List.mem_singleton.mpr rfl)) ⟨h0, h1, by show s.row + 1 = u.row + 1; omega, ?_, hb, hv⟩
        show (if szL q n u.v < u.a then u.a else szL q n u.v) = (if tms q s.j > s.a then tms q s.j else s.a) * n
        by_cases g3 : tms q s.j > s.a
        · have := c1.mpr g3
          rw [if_pos g3, if_neg (by omega), hsz]
        · have : ¬ u.a < szL q n u.v := fun z => g3 (c1.mp z)
          rw [if_neg g3]
          split
          · exact ha
          · omega
      · cases z
  | lessB q =>
    have h : u' ∈ [(⟨u.row + 1, u.a - szL q n u.v, u.a - szL q n u.v + u.b - u.a, u.v - szL q n u.v⟩ : Spot)] := h
    rw [List.mem_singleton] at h
    subst h
    refine go (w := "") (t := ⟨s.row + 1, s.a - tms q s.j, s.b - tms q s.j, s.x, s.j - tms q s.j, s.y⟩) (List.mem_singleton.mpr rfl) ⟨h0, h1, by show s.row + 1 = u.row + 1; omega, ?_, ?_, ?_⟩
    · show u.a - szL q n u.v = (s.a - tms q s.j) * n; rw [hsz, ha, Int.sub_mul]
    · show u.a - szL q n u.v + u.b - u.a = (s.b - tms q s.j) * n + bi s.x * r; rw [hsz, hb, Int.sub_mul]; omega
    · show u.v - szL q n u.v = (s.j - tms q s.j) * n + bi s.y * r; rw [hsz, hv, Int.sub_mul]; omega
  | lessC q =>
    have h : u' ∈ [(⟨u.row + 1, u.a - szL q n u.v, u.a - szL q n u.v + u.b - u.a, u.v⟩ : Spot)] := h
    rw [List.mem_singleton] at h
    subst h
    refine go (w := "") (t := ⟨s.row + 1, s.a - tms q s.j, s.b - tms q s.j, s.x, s.j - 0, s.y⟩) (List.mem_singleton.mpr rfl) ⟨h0, h1, by show s.row + 1 = u.row + 1; omega, ?_, ?_, ?_⟩
    · show u.a - szL q n u.v = (s.a - tms q s.j) * n; rw [hsz, ha, Int.sub_mul]
    · show u.a - szL q n u.v + u.b - u.a = (s.b - tms q s.j) * n + bi s.x * r; rw [hsz, hb, Int.sub_mul]; omega
    · show u.v = (s.j - 0) * n + bi s.y * r; rw [hv, Int.sub_zero]
  | lessV q =>
    have h : u' ∈ [(⟨u.row + 1, u.a, u.a + u.b - u.a, u.v - szL q n u.v⟩ : Spot)] := h
    rw [List.mem_singleton] at h
    subst h
    refine go (w := "") (t := ⟨s.row + 1, s.a - 0, s.b - 0, s.x, s.j - tms q s.j, s.y⟩) (List.mem_singleton.mpr rfl) ⟨h0, h1, by show s.row + 1 = u.row + 1; omega, ?_, ?_, ?_⟩
    · show u.a = (s.a - 0) * n; rw [ha, Int.sub_zero]
    · show u.a + u.b - u.a = (s.b - 0) * n + bi s.x * r; rw [← (show s.b = s.b - 0 by omega), ← hb]; omega
    · show u.v - szL q n u.v = (s.j - tms q s.j) * n + bi s.y * r; rw [hsz, hv, Int.sub_mul]; omega
/-- where a draw begins -/
theorem cov_first {n v : Int} (hn : 2 ≤ n) (h1 : 1 ≤ v) (h2 : v ≤ 2 * n) : ∃ s, s ∈ first4 ∧ ∃ r, Cov n s ⟨0, 0, v, v⟩ r := by
  unfold first4
  by_cases e1 : v = n
  · exact ⟨⟨0, 0, 1, false, 1, false⟩, by simp, 1, by omega, by omega, rfl, by show (0 : Int) = 0 * n; omega, by show v = 1 * n + 0 * 1; omega, by show v = 1 * n + 0 * 1; omega⟩
  · by_cases e2 : v = 2 * n
    · exact ⟨⟨0, 0, 2, false, 2, false⟩, by simp, 1, by omega, by omega, rfl, by show (0 : Int) = 0 * n; omega, by show v = 2 * n + 0 * 1; omega, by show v = 2 * n + 0 * 1; omega⟩
    · by_cases e3 : v < n
      · exact ⟨⟨0, 0, 0, true, 0, true⟩, by simp, v, by omega, by omega, rfl, by show (0 : Int) = 0 * n; omega, by show v = 0 * n + 1 * v; omega, by show v = 0 * n + 1 * v; omega⟩
      · exact ⟨⟨0, 0, 1, true, 1, true⟩, by simp, v - n, by omega, by omega, rfl, by show (0 : Int) = 0 * n; omega, by show v = 1 * n + 1 * (v - n); omega, by show v = 1 * n + 1 * (v - n); omega⟩
end Dr
set_option maxHeartbeats 4000000
/-! M8: each chance lies between the bounds. -/
namespace Dr
open PySem PySem.Spec PyProof.Rows L2
/-- what stands behind a search that ended -/
structure Srch (p : List Row) (l : List Stt) : Prop where
  ok : okProg p
  eq : bfs p 200000 first4 0 = some l
  gd : ∀ s, s ∈ l → Good p.length s ∧ near s
  len : l.length ≤ 480000
  clo : ∀ s, s ∈ l → ∀ t, t ∈ nexts p s → t ∈ l
  f4 : ∀ s, s ∈ first4 → s ∈ l
theorem srch_of {p : List Row} (hp : okProg p) {l : List Stt} (h : bfs p 200000 first4 0 = some l) : Srch p l := by
  obtain ⟨i, k, B, hi⟩ := srch_end hp h
  have h1 := B.small hp
  have h2 := B.len
  exact ⟨hp, h, fun s hs => ⟨B.ok s hs, B.all hi s hs⟩, by omega, B.clo hi, fun s hs => B.f4.subset hs⟩
theorem low_cross_all : ∀ a b : _root_.Fin 17, (low ((a.val + 1 : Nat) : Int) ((b.val + 1 : Nat) : Int)).1 * ((b.val + 1 : Nat) : Int) = ((a.val + 1 : Nat) : Int) * (low ((a.val + 1 : Nat) : Int) ((b.val + 1 : Nat) : Int)).2 := by decide +kernel
theorem low_cross {t b : Int} (h1 : 0 < t) (h2 : t < 18) (h3 : 0 < b) (h4 : b < 18) : (low t b).1 * b = t * (low t b).2 := by
  have := low_cross_all ⟨(t - 1).toNat, by omega⟩ ⟨(b - 1).toNat, by omega⟩
  have e1 : (((t - 1).toNat + 1 : Nat) : Int) = t := by omega
  have e2 : (((b - 1).toNat + 1 : Nat) : Int) = b := by omega
  simpa only [e1, e2] using this
def LeF (f g : Int × Int) : Prop := f.1 * g.2 ≤ g.1 * f.2
theorem LeF.trans {f g h : Int × Int} (a : LeF f g) (b : LeF g h) (p : 0 < g.2) (p1 : 0 ≤ f.2) (p2 : 0 ≤ h.2) : LeF f h := by
  unfold LeF at *
  have h1 : f.1 * g.2 * h.2 ≤ g.1 * f.2 * h.2 := Int.mul_le_mul_of_nonneg_right a p2
  have h2 : g.1 * h.2 * f.2 ≤ h.1 * g.2 * f.2 := Int.mul_le_mul_of_nonneg_right b p1
  have h3 : f.1 * h.2 * g.2 ≤ h.1 * f.2 * g.2 := by
    rw [Int.mul_right_comm f.1 h.2 g.2, Int.mul_right_comm h.1 f.2 g.2]
    rw [Int.mul_right_comm g.1 f.2 h.2] at h1
    exact Int.le_trans h1 h2
  exact Int.le_of_mul_le_mul_right h3 p
theorem LeF.refl (f : Int × Int) : LeF f f := Int.le_refl _
theorem minS_le {m e : Int × Int} : LeF (minS m e) m ∧ LeF (minS m e) e := by
  unfold minS lessF
  by_cases h : e.1 * m.2 < m.1 * e.2
  · rw [if_pos (decide_eq_true h)]; exact ⟨Int.le_of_lt h, LeF.refl _⟩
  · rw [if_neg (by simpa using h)]; exact ⟨LeF.refl _, by unfold LeF; omega⟩
theorem maxS_le {m e : Int × Int} : LeF m (maxS m e) ∧ LeF e (maxS m e) := by
  unfold maxS lessF
  by_cases h : m.1 * e.2 < e.1 * m.2
  · rw [if_pos (decide_eq_true h)]; exact ⟨Int.le_of_lt h, LeF.refl _⟩
  · rw [if_neg (by simpa using h)]; exact ⟨LeF.refl _, by unfold LeF; omega⟩
theorem redu_pos {f : Int × Int} (h : f ∈ redu) : 0 < f.2 := by have := redu_rng f h; omega
theorem min_le : ∀ (l : List (Int × Int)) {m : Int × Int}, m ∈ redu → (∀ e, e ∈ l → e ∈ redu) → LeF (minF l m) m ∧ ∀ e, e ∈ l → LeF (minF l m) e
  | [], m, h, _ => ⟨LeF.refl _, fun e z => by cases z⟩
  | a :: l, m, h, hl => by
    have ha := hl a List.mem_cons_self
    have hs := minS_in h ha
    have hl2 : ∀ x, x ∈ l → x ∈ redu := fun x hx => hl x (List.mem_cons_of_mem _ hx)
    obtain ⟨h1, h2⟩ := min_le l (m := minS m a) hs hl2
    have h3 := redu_pos (min_in l hs hl2)
    refine ⟨h1.trans minS_le.1 (redu_pos hs) (Int.le_of_lt h3) (Int.le_of_lt (redu_pos h)), fun e he => ?_⟩
    rcases List.mem_cons.mp he with rfl | he
    · exact h1.trans minS_le.2 (redu_pos hs) (Int.le_of_lt h3) (Int.le_of_lt (redu_pos ha))
    · exact h2 e he
theorem max_le : ∀ (l : List (Int × Int)) {m : Int × Int}, m ∈ redu → (∀ e, e ∈ l → e ∈ redu) → LeF m (maxF l m) ∧ ∀ e, e ∈ l → LeF e (maxF l m)
  | [], m, h, _ => ⟨LeF.refl _, fun e z => by cases z⟩
  | a :: l, m, h, hl => by
    have ha := hl a List.mem_cons_self
    have hs := maxS_in h ha
    have hl2 : ∀ x, x ∈ l → x ∈ redu := fun x hx => hl x (List.mem_cons_of_mem _ hx)
    obtain ⟨h1, h2⟩ := max_le l (m := maxS m a) hs hl2
    have h3 := redu_pos (max_in l hs hl2)
    refine ⟨LeF.trans maxS_le.1 h1 (redu_pos hs) (Int.le_of_lt (redu_pos h)) (Int.le_of_lt h3), fun e he => ?_⟩
    rcases List.mem_cons.mp he with rfl | he
    · exact LeF.trans maxS_le.2 h1 (redu_pos hs) (Int.le_of_lt (redu_pos ha)) (Int.le_of_lt h3)
    · exact h2 e he
/-- m at most low(t, b), told of t and b -/
theorem le_low {m : Int × Int} {t b : Int} (h1 : 0 < t) (h2 : t < 18) (h3 : 0 < b) (h4 : b < 18) (h : LeF m (low t b)) : m.1 * b ≤ t * m.2 := by
  have hp := redu_pos (low_mem h1 h2 h3 h4)
  have hc := low_cross h1 h2 h3 h4
  unfold LeF at h
  have h5 : m.1 * (low t b).2 * b ≤ (low t b).1 * m.2 * b := Int.mul_le_mul_of_nonneg_right h (Int.le_of_lt h3)
  have h6 : m.1 * b * (low t b).2 ≤ t * m.2 * (low t b).2 := by
    rw [Int.mul_right_comm m.1 b, Int.mul_right_comm t m.2, ← hc, Int.mul_right_comm (low t b).1 b m.2]
    exact h5
  exact Int.le_of_mul_le_mul_right h6 hp
theorem low_le {m : Int × Int} {t b : Int} (h1 : 0 < t) (h2 : t < 18) (h3 : 0 < b) (h4 : b < 18) (h : LeF (low t b) m) : t * m.2 ≤ m.1 * b := by
  have hp := redu_pos (low_mem h1 h2 h3 h4)
  have hc := low_cross h1 h2 h3 h4
  unfold LeF at h
  have h5 : (low t b).1 * m.2 * b ≤ m.1 * (low t b).2 * b := Int.mul_le_mul_of_nonneg_right h (Int.le_of_lt h3)
  have h6 : t * m.2 * (low t b).2 ≤ m.1 * b * (low t b).2 := by
    rw [Int.mul_right_comm m.1 b, Int.mul_right_comm t m.2, ← hc, Int.mul_right_comm (low t b).1 b m.2]
    exact h5
  exact Int.le_of_mul_le_mul_right h6 hp
def manyL (c a b : Int) : Int := if b - a < (if 0 > c - a then 0 else c - a) then b - a else (if 0 > c - a then 0 else c - a)
theorem between {p : List Row} {l : List Stt} (S : Srch p l) {n : Int} (hn : 2 ≤ n) (hn2 : n ≤ 20) {s : Stt} (hs : s ∈ l) {u : Spot} {r : Int} (C : Cov n s u r) {q : Qt} {i : Int} (hi : u.row = i) {f0 : Int × Int} {rest : List (Int × Int)} (ht : toldQ q i l = f0 :: rest) :
    LeF (minF (f0 :: rest) f0) (manyL (szL q n u.v) u.a u.b, u.b - u.a) ∧ LeF (manyL (szL q n u.v) u.a u.b, u.b - u.a) (maxF (f0 :: rest) f0) ∧ -1000 < manyL (szL q n u.v) u.a u.b ∧ manyL (szL q n u.v) u.a u.b < 1000 ∧ -1000 < u.b - u.a ∧ u.b - u.a < 1000 := by
  have hred : ∀ f, f ∈ f0 :: rest → f ∈ redu := ht ▸ told_redu (q := q) (i := i) (l := l) fun s hs => ⟨(S.gd s hs).2, (S.gd s hs).1.iv⟩
  have hf0 := hred f0 List.mem_cons_self
  have hmin := min_le (f0 :: rest) hf0 hred
  have hmax := max_le (f0 :: rest) hf0 hred
  have hmi := redu_rng _ (min_in (f0 :: rest) hf0 hred)
  have hma := redu_rng _ (max_in (f0 :: rest) hf0 hred)
  generalize minF (f0 :: rest) f0 = m at *
  generalize maxF (f0 :: rest) f0 = M at *
  have hin : ∀ f, f ∈ chAt q s → LeF m f ∧ LeF f M := fun f hf => by
    have : f ∈ f0 :: rest := by
      rw [← ht]
      unfold toldQ
      exact List.mem_flatMap.mpr ⟨s, List.mem_filter.mpr ⟨hs, decide_eq_true (C.row.trans hi)⟩, hf⟩
    exact ⟨hmin.2 f this, hmax.2 f this⟩
  have c0 : tms q s.j ≤ s.a → LeF m (0, 1) ∧ LeF (0, 1) M := fun g => hin _ (by unfold chAt; rw [if_pos g]; exact List.mem_singleton.mpr rfl)
  have c1 : ¬ tms q s.j ≤ s.a → s.b + bi s.x ≤ tms q s.j → LeF m (1, 1) ∧ LeF (1, 1) M := fun g g' => hin _ (by unfold chAt; rw [if_neg g, if_pos g']; exact List.mem_singleton.mpr rfl)
  have c3 : ¬ tms q s.j ≤ s.a → ¬ s.b + bi s.x ≤ tms q s.j → LeF m (low (tms q s.j - s.a) (s.b - s.a)) ∧ LeF (low (tms q s.j - s.a) (s.b - s.a)) M := fun g g' => hin _ (by
    unfold chAt; rw [if_neg g, if_neg g']
    cases s.x <;> simp)
  have c4 : ¬ tms q s.j ≤ s.a → ¬ s.b + bi s.x ≤ tms q s.j → s.x = true → LeF m (low (tms q s.j - s.a) (s.b + 1 - s.a)) ∧ LeF (low (tms q s.j - s.a) (s.b + 1 - s.a)) M := fun g g' hx => hin _ (by
    unfold chAt; rw [if_neg g, if_neg g', if_pos hx]
    simp)
  clear hin
  obtain ⟨hg, hnr⟩ := S.gd s hs
  obtain ⟨i1, i2⟩ := inv_le hg.iv
  have htm := tms_le (q := q) hnr
  obtain ⟨k1, k2, k3, k4⟩ := hnr
  have hsz := sz_eq (q := q) C
  have c2 := cut_iff (t := tms q s.j) (b := s.b) (x := s.x) C.r0 C.r1
  obtain ⟨b0, b1, b2, b3⟩ := bi_r (x := s.x) C.r0
  have hbx := bi_le s.x
  have h0 := C.r0; have h1 := C.r1
  have ha := C.a; have hb := C.b
  rw [hsz]
  rw [ha, hb]
  generalize tms q s.j = t at *
  have han : s.a * n ≤ s.b * n := Int.mul_le_mul_of_nonneg_right i1 (by omega)
  have hbound : s.b * n + bi s.x * r - s.a * n ≤ 17 * n := by
    have : s.b * n ≤ (s.a + 16) * n := Int.mul_le_mul_of_nonneg_right (by omega) (by omega)
    rw [Int.add_mul] at this
    omega
  have hD0 : 0 ≤ s.b * n + bi s.x * r - s.a * n := by omega
  generalize hD : s.b * n + bi s.x * r - s.a * n = D at *
  have hDn : D = (s.b - s.a) * n + bi s.x * r := by rw [Int.sub_mul]; omega
  have hX : t * n - s.a * n = (t - s.a) * n := by rw [Int.sub_mul]
  unfold manyL
  rw [hD]
  by_cases g1 : t ≤ s.a
  · have e1 : t * n ≤ s.a * n := Int.mul_le_mul_of_nonneg_right g1 (by omega)
    have hx : (if 0 > t * n - s.a * n then 0 else t * n - s.a * n) = 0 := by split <;> omega
    rw [hx, if_neg (by omega)]
    obtain ⟨a1, a2⟩ := c0 g1
    unfold LeF at a1 a2 ⊢
    have hm0 : m.1 = 0 := by simp only at a1; omega
    refine ⟨?_, ?_, by decide, by decide, by omega, by omega⟩
    · show m.1 * D ≤ 0 * m.2; rw [hm0]; omega
    · show 0 * M.2 ≤ M.1 * D
      have := Int.mul_nonneg hma.1 hD0
      omega
  · have e1 : s.a * n < t * n := (mul_lt_iff (by omega)).mpr (by omega)
    have hx : (if 0 > t * n - s.a * n then 0 else t * n - s.a * n) = t * n - s.a * n := if_neg (by omega)
    rw [hx]
    by_cases g2 : s.b + bi s.x ≤ t
    · have e2 : ¬ t * n < s.b * n + bi s.x * r := fun z => by have := c2.mp z; omega
      have hy : (if D < t * n - s.a * n then D else t * n - s.a * n) = D := by split <;> omega
      rw [hy]
      obtain ⟨a1, a2⟩ := c1 g1 g2
      unfold LeF at a1 a2 ⊢
      simp only [Int.mul_one, Int.one_mul] at a1 a2
      refine ⟨?_, ?_, by omega, by omega, by omega, by omega⟩
      · show m.1 * D ≤ D * m.2
        rw [Int.mul_comm D]; exact Int.mul_le_mul_of_nonneg_right a1 hD0
      · show D * M.2 ≤ M.1 * D
        rw [Int.mul_comm D]; exact Int.mul_le_mul_of_nonneg_right a2 hD0
    · have e2 : t * n < s.b * n + bi s.x * r := c2.mpr (by omega)
      rw [if_neg (by omega), hX]
      obtain ⟨a1, a2⟩ := c3 g1 g2
      have hxb : ¬ (s.x = false) → s.x = true := fun z => by cases hq : s.x <;> simp_all
      have hba : 0 < s.b - s.a := by
        by_cases hq : s.x = false
        · have := i2 hq; omega
        · have := hxb hq
          have e : bi s.x = 1 := by rw [this]; rfl
          omega
      have hn0 : (0 : Int) ≤ n := by omega
      have up := low_le (m := M) (by omega) (by omega) hba (by omega) a2
      have up2 : (t - s.a) * M.2 * n ≤ M.1 * (s.b - s.a) * n := Int.mul_le_mul_of_nonneg_right up hn0
      have up3 : M.1 * ((s.b - s.a) * n) ≤ M.1 * D := Int.mul_le_mul_of_nonneg_left (by omega) hma.1
      have hTn : (t - s.a) * n < D := by omega
      have hT0 : 0 ≤ (t - s.a) * n := Int.mul_nonneg (by omega) hn0
      refine ⟨?_, ?_, by omega, by omega, by omega, by omega⟩
      · show m.1 * D ≤ (t - s.a) * n * m.2
        rw [Int.mul_right_comm]
        by_cases hq : s.x = false
        · have dn := le_low (m := m) (by omega) (by omega) hba (by omega) a1
          have dn2 : m.1 * (s.b - s.a) * n ≤ (t - s.a) * m.2 * n := Int.mul_le_mul_of_nonneg_right dn hn0
          rw [hDn, b3 hq, Int.add_zero, ← Int.mul_assoc]
          exact dn2
        · obtain ⟨d1, d2⟩ := c4 g1 g2 (hxb hq)
          have dn := le_low (m := m) (by omega) (by omega) (by omega) (by omega) d1
          have dn2 : m.1 * (s.b + 1 - s.a) * n ≤ (t - s.a) * m.2 * n := Int.mul_le_mul_of_nonneg_right dn hn0
          have dn3 : m.1 * D ≤ m.1 * ((s.b + 1 - s.a) * n) := by
            refine Int.mul_le_mul_of_nonneg_left ?_ hmi.1
            have : (s.b + 1 - s.a) * n = (s.b - s.a) * n + n := by rw [show s.b + 1 - s.a = (s.b - s.a) + 1 by omega, Int.add_mul]; omega
            omega
          rw [← Int.mul_assoc] at dn3
          exact Int.le_trans dn3 dn2
      · show (t - s.a) * n * M.2 ≤ M.1 * D
        rw [Int.mul_right_comm]
        rw [← Int.mul_assoc] at up3
        exact Int.le_trans up2 up3
/-! ### the spots -/
def pushP (n e : Int) (ld : List Spot × List Int) (t : Spot) : List Spot × List Int := if t ∈ ld.1 ∨ wideL n t = true then ld else (ld.1 ++ [t], ld.2 ++ [e])
def pushPs (n e : Int) (ld : List Spot × List Int) (ts : List Spot) : List Spot × List Int := ts.foldl (pushP n e) ld
theorem pp_snoc (n e : Int) (ld : List Spot × List Int) (ts : List Spot) (t : Spot) : pushPs n e ld (ts ++ [t]) = pushP n e (pushPs n e ld ts) t := by unfold pushPs; rw [List.foldl_append]; rfl
def spotsB (p : List Row) (n : Int) : Nat → List Spot × List Int → Nat → List Spot × List Int
  | 0, ld, _ => ld
  | k + 1, ld, i => match ld.1[i]? with
    | none => ld
    | some u => spotsB p n k (pushPs n (ld.2.getD i 0 + 1) ld (nextL (rowAt p u.row) n u)) (i + 1)
def spotsF (p : List Row) (n v : Int) : List Spot × List Int := spotsB p n 60000 ([⟨0, 0, v, v⟩], [0]) 0
structure SpI (l : List Stt) (n : Int) (ld : List Spot × List Int) : Prop where
  cov : ∀ u, u ∈ ld.1 → ∃ s, s ∈ l ∧ ∃ r, Cov n s u r
  len : ld.2.length = ld.1.length
theorem SpI.push {l : List Stt} {n e : Int} {ld : List Spot × List Int} (I : SpI l n ld) {t : Spot} (h : ∃ s, s ∈ l ∧ ∃ r, Cov n s t r) : SpI l n (pushP n e ld t) := by
  unfold pushP
  split
  · exact I
  · refine ⟨fun u hu => ?_, by simp [I.len]⟩
    rcases List.mem_append.mp hu with z | z
    · exact I.cov u z
    · rw [List.mem_singleton] at z; exact z ▸ h
theorem pp_pre1 (n e : Int) (ld : List Spot × List Int) (t : Spot) : ld.1 <+: (pushP n e ld t).1 ∧ ld.2 <+: (pushP n e ld t).2 ∧ (pushP n e ld t).1.length ≤ ld.1.length + 1 := by
  unfold pushP
  split
  · exact ⟨List.prefix_refl _, List.prefix_refl _, Nat.le_succ _⟩
  · exact ⟨List.prefix_append _ _, List.prefix_append _ _, by simp⟩
theorem nextL_le (r : Row) (n : Int) (u : Spot) : (nextL r n u).length ≤ 2 := by
  cases r with
  | ifc q d =>
    rw [next_ifc]
    by_cases h1 : u.a < szL q n u.v <;> by_cases h2 : szL q n u.v < u.b <;> simp only [h1, h2, if_true, if_false] <;> exact Nat.le_of_ble_eq_true rfl
  | _ => exact Nat.le_of_ble_eq_true rfl
theorem Srch.row {p : List Row} {l : List Stt} (S : Srch p l) {n : Int} {u : Spot} (h : ∃ s, s ∈ l ∧ ∃ r, Cov n s u r) : 0 ≤ u.row ∧ u.row < p.length := by
  obtain ⟨s, hs, r, C⟩ := h
  have g := (S.gd s hs).1
  exact ⟨C.row ▸ g.r0, C.row ▸ g.r1⟩
theorem Srch.next {p : List Row} {l : List Stt} (S : Srch p l) {n : Int} (hn : 2 ≤ n) {u u' : Spot} (h : ∃ s, s ∈ l ∧ ∃ r, Cov n s u r) (hu : u' ∈ nextL (rowAt p u.row) n u) : ∃ s, s ∈ l ∧ ∃ r, Cov n s u' r := by
  obtain ⟨s, hs, r, C⟩ := h
  obtain ⟨t, ht, r', C'⟩ := cov_next hn C hu
  exact ⟨t, S.clo s hs t ht, r', C'⟩
theorem pps_ok {p : List Row} {l : List Stt} (S : Srch p l) {n : Int} (hn : 2 ≤ n) {u : Spot} (h : ∃ s, s ∈ l ∧ ∃ r, Cov n s u r) (e : Int) : ∀ (ts : List Spot) (ld : List Spot × List Int), (∀ t, t ∈ ts → t ∈ nextL (rowAt p u.row) n u) → SpI l n ld → SpI l n (pushPs n e ld ts)
  | [], _, _, I => I
  | t :: ts, ld, ht, I => pps_ok S hn h e ts (pushP n e ld t) (fun x hx => ht x (List.mem_cons_of_mem _ hx)) (I.push (S.next hn h (ht t List.mem_cons_self)))
theorem spotsB_ok {p : List Row} {l : List Stt} (S : Srch p l) {n : Int} (hn : 2 ≤ n) : ∀ (k : Nat) (ld : List Spot × List Int) (i : Nat), SpI l n ld → SpI l n (spotsB p n k ld i)
  | 0, _, _, I => I
  | k + 1, ld, i, I => by
    show SpI l n (match ld.1[i]? with | none => ld | some u => spotsB p n k (pushPs n (ld.2.getD i 0 + 1) ld (nextL (rowAt p u.row) n u)) (i + 1))
    cases h : ld.1[i]? with
    | none => exact I
    | some u => exact spotsB_ok S hn k _ _ (pps_ok S hn (I.cov u (List.mem_of_getElem? h)) _ _ _ (fun _ ht => ht) I)
theorem Srch.begin {p : List Row} {l : List Stt} (S : Srch p l) {n v : Int} (hn : 2 ≤ n) (h1 : 1 ≤ v) (h2 : v ≤ 2 * n) : SpI l n ([⟨0, 0, v, v⟩], [0]) := by
  obtain ⟨s, hs, r, C⟩ := cov_first hn h1 h2
  refine ⟨fun u hu => ?_, rfl⟩
  rw [List.mem_singleton] at hu
  subst hu
  exact ⟨s, S.f4 s hs, r, C⟩
theorem Srch.spots {p : List Row} {l : List Stt} (S : Srch p l) {n v : Int} (hn : 2 ≤ n) (h1 : 1 ≤ v) (h2 : v ≤ 2 * n) : SpI l n (spotsF p n v) := spotsB_ok S hn _ _ _ (S.begin hn h1 h2)
end Dr
set_option maxHeartbeats 4000000
namespace Dr
open PySem PySem.Spec PyProof.Rows L2
section
variable {P : Program} {w : World} {K : PySem.W.Frag} {mg : Str → Option Value} {base : Heap}
theorem fr_at {l : List (Int × Int)} {i : Nat} {d : PyData} (h : (l.map encF)[i]? = some d) : ∃ e, l[i]? = some e ∧ d = encF e := by
  rw [List.getElem?_map] at h
  cases e : l[i]? with
  | none => rw [e] at h; cases h
  | some f => rw [e] at h; exact ⟨f, rfl, (Option.some.inj h).symm⟩
theorem st_at {l : List Stt} {i : Nat} {d : PyData} (h : (l.map encS)[i]? = some d) : ∃ e, l[i]? = some e ∧ d = encS e := by
  rw [List.getElem?_map] at h
  cases e : l[i]? with
  | none => rw [e] at h; cases h
  | some f => rw [e] at h; exact ⟨f, rfl, (Option.some.inj h).symm⟩
theorem take_snoc {α : Type} {l : List α} {m : Nat} {t : α} (h : l[m]? = some t) : l.take (m + 1) = l.take m ++ [t] := by rw [List.take_add_one, h]; rfl
def C_law_bounds : Ctr := fun ss μ s' μ' => ∃ (p : List Row) (l : List Stt) (i : Int) (q : Qt) (d : F8), Srch p l ∧ 0 ≤ i ∧ i < p.length ∧ rowAt p i = .ifc q d ∧ ss = [.dat (.list (texts p)), .dat (.int i)] ∧ μ = [] ∧ s' = .dat (oddsOf (toldQ q i l)) ∧ μ' = []
theorem sc_law_bounds : FnScope ["_law_lines", "_law_at", "_law_some", "_law_state", "_law_least", "_law_most", "_law_each"] ["_law_lines", "_law_at"] (defScope s_law_bounds) := ⟨rfl, rfl, rfl, by decide +kernel, rfl, by decide +kernel, by decide +kernel⟩
theorem ok_law_bounds {f : Addr} {fd : FuncData} (T : Tx mg K w) (F : Fun K "_law_bounds" "_law_bounds" s_law_bounds f fd) (hm : mg "_law_bounds" = some (.ref f)) (F_law_states : FnD P w K mg base "_law_states" 2 C_law_states) (F_law_shares : FnD P w K mg base "_law_shares" 2 C_law_shares) (F_law_is_at_most : FnD P w K mg base "_law_is_at_most" 1 C_law_is_at_most) : FnD P w K mg base "_law_bounds" 3 C_law_bounds := by
  refine fnD F hm sc_law_bounds (fun _ _ _ _ _ _ us hl => match us, hl with | [_, _], _ => rfl) (fun ss μ s' μ' h => ?_) (fun cdv A outer s H E c hr ss μ s' μ' h hm0 => ?_)
  · obtain ⟨p, l, i, q, d, S, h0, h1, hrow, rfl, rfl, rfl, rfl⟩ := h; rfl
  · obtain ⟨p, l, i, q, d, S, h0, h1, hrow, rfl, rfl, rfl, rfl⟩ := h
    have hu := hr.units
    have hN := sc_law_bounds.nd
    have hat := texts_atI h0 h1
    rw [hrow] at hat
    have hstates : (statesD p) = .list [.list (l.map encS), .list ((deps p).map PyData.int)] := by unfold statesD; rw [S.eq]
    have hred := told_redu (q := q) (i := i) (l := l) fun s hs => ⟨(S.gd s hs).2, (S.gd s hs).1.iv⟩
    have hlen := told_len q i l
    have hl := S.len
    have h16 : (970000 : Nat) ≤ sizeLine := by decide
    refine dxs_cons (ρ1 := [_, _, _, .no, .no, .no, .no]) (dx_set (i := 2) (dv_lst dd_nil) hN) (
      dxs_cons (ρ1 := [.dat (.list (texts p)), .dat (.int i), .dat (.list ((toldQ q i l).map encF)), .no, .no, .no, .no]) (μ1 := []) (dx_for rfl PassesOwn.never (di_lst (ds := l.map encS) (dv_ixL (dv_is (s1 := .dat (.list [.list (l.map encS), .list ((deps p).map PyData.int)])) (dv_fn F_law_states (hr.mono (by decide)) (da_cons (dv_name 0 rfl (by nofun)) da_nil) ⟨p, S.ok, rfl, rfl, rfl, rfl⟩) (congrArg Sl.dat hstates)) dv_int rfl))
        (fun m ρ μ => ρ = [.dat (.list (texts p)), .dat (.int i), .dat (.list ((toldQ q i (l.take m)).map encF)), .no, .no, .no, .no] ∧ μ = []) ⟨rfl, rfl⟩ (fun _ _ _ _ => trivial)
        (fun m d2 ρ1 μ' hd h => by
          obtain ⟨rfl, rfl⟩ := h
          obtain ⟨s, hs, rfl⟩ := st_at hd
          have hg := S.gd s (List.mem_of_getElem? hs)
          have hl2 := told_len q i (l.take m)
          have hl3 := ch_len q s
          have hl4 : (l.take m).length ≤ l.length := by rw [List.length_take]; exact Nat.min_le_right _ _
          rw [take_snoc hs, told_snoc]
          refine ⟨[.dat (.list (texts p)), .dat (.int i), .dat (.list ((toldQ q i (l.take m)).map encF)), .dat (encS s), .no, .no, .no], ?_⟩
          by_cases hrw : s.row = i
          · rw [if_pos hrw, List.map_append]
            exact ⟨.nx [_, _, _, _, _, _, _] [], dg_name (i := 3) hN, dxs_one (dx_if (dt_is (k1 := true) (dt_cmp (dv_ixT (dv_name 3 rfl (by nofun)) dv_int rfl) (dv_name 1 rfl (by nofun)) (c_eqI _ _)) (decide_eq_true hrw)) (fun _ => dxs_one (dx_set (i := 2) (dv_cat (dv_name 2 rfl (by nofun)) (dv_fn F_law_shares (hr.mono (by decide)) (da_cons (dv_ixL (dv_name 0 rfl (by nofun)) (dv_name 1 rfl (by nofun)) hat) (da_cons (dv_name 3 rfl (by nofun)) da_nil)) ⟨q, d, s, rfl, rfl, rfl, rfl, hg.2⟩) (by rw [List.length_map, List.length_map]; omega)) hN)) (fun z => absurd z (by decide))), [_, _, _, .no, _, _, _], ⟨.inr rfl, .inr rfl, .inr rfl, .inl rfl, .inr rfl, .inr rfl, .inr rfl, trivial⟩, rfl, rfl⟩
          · rw [if_neg hrw, List.append_nil]
            exact ⟨.nx [_, _, _, _, _, _, _] [], dg_name (i := 3) hN, dxs_one (dx_if (dt_is (k1 := false) (dt_cmp (dv_ixT (dv_name 3 rfl (by nofun)) dv_int rfl) (dv_name 1 rfl (by nofun)) (c_eqI _ _)) (decide_eq_false hrw)) (fun z => absurd z (by decide)) (fun _ => dxs_nil)), [_, _, _, .no, _, _, _], ⟨.inr rfl, .inr rfl, .inr rfl, .inl rfl, .inr rfl, .inr rfl, .inr rfl, trivial⟩, rfl, rfl⟩)
        (fun ρ1 μ' h => by
          obtain ⟨rfl, rfl⟩ := h
          exact ⟨_, Fg.refl _, by rw [List.length_map, List.take_length]⟩)) ?_)
    generalize toldQ q i l = told at *
    cases told with
    | nil =>
      exact dxs_stop (dx_if (dt_is (k1 := true) (dt_cmp (dv_name 2 rfl (by nofun)) (dv_lst dd_nil) (c_eqD hu _ _ (plain_frL []) rfl (Nat.le_trans (Nat.min_le_right _ _) (by decide)))) (by decide +kernel)) (fun _ => dxs_one (dx_retIs dv_non rfl)) (fun z => absurd z (by decide))) trivial
    | cons f0 rest =>
      have hf0 := hred f0 List.mem_cons_self
      have step : ∀ m e, (f0 :: rest)[m]? = some e → minF ((f0 :: rest).take m) f0 ∈ redu ∧ maxF ((f0 :: rest).take m) f0 ∈ redu ∧ e ∈ redu := fun m e he =>
        ⟨min_in _ hf0 fun x hx => hred x (List.mem_of_mem_take hx), max_in _ hf0 fun x hx => hred x (List.mem_of_mem_take hx), hred e (List.mem_of_getElem? he)⟩
      exact dxs_guard (dt_is (k1 := false) (dt_cmp (dv_name 2 rfl (by nofun)) (dv_lst dd_nil) (c_eqD hu _ _ (plain_frL _) rfl (Nat.le_trans (Nat.min_le_right _ _) (by decide)))) (by simp [PyData.eqv, PyData.eqvAll])) (fun z => absurd z (by decide)) (fun _ =>
        dxs_cons (ρ1 := [.dat (.list (texts p)), .dat (.int i), .dat (.list ((f0 :: rest).map encF)), .no, .dat (encF f0), .dat (encF f0), .no]) (dx_par2 (i := 4) (j := 5) rfl hN (da_cons (dv_ixL (dv_name 2 rfl (by nofun)) dv_int (atI_pos (by decide) rfl)) (da_cons (dv_ixL (dv_name 2 rfl (by nofun)) dv_int (atI_pos (by decide) rfl)) da_nil))) (
        dxs_cons (ρ1 := [.dat (.list (texts p)), .dat (.int i), .dat (.list ((f0 :: rest).map encF)), .no, .dat (encF (minF (f0 :: rest) f0)), .dat (encF (maxF (f0 :: rest) f0)), .no]) (μ1 := []) (dx_for rfl PassesOwn.never (di_lst (ds := (f0 :: rest).map encF) (dv_name 2 rfl (by nofun)))
          (fun m ρ μ => ρ = [.dat (.list (texts p)), .dat (.int i), .dat (.list ((f0 :: rest).map encF)), .no, .dat (encF (minF ((f0 :: rest).take m) f0)), .dat (encF (maxF ((f0 :: rest).take m) f0)), .no] ∧ μ = []) ⟨rfl, rfl⟩ (fun _ _ _ _ => trivial)
          (fun m d2 ρ1 μ' hd h => by
            obtain ⟨rfl, rfl⟩ := h
            obtain ⟨e, he, rfl⟩ := fr_at hd
            obtain ⟨r1, r2, r3⟩ := step m e he
            rw [take_snoc he, min_snoc, max_snoc, ← minS_eq r1 r3, ← maxS_eq r2 r3]
            generalize minF ((f0 :: rest).take m) f0 = a at *
            generalize maxF ((f0 :: rest).take m) f0 = b at *
            have k1 := redu_rng a r1; have k2 := redu_rng b r2; have k3 := redu_rng e r3
            refine ⟨[.dat (.list (texts p)), .dat (.int i), .dat (.list ((f0 :: rest).map encF)), .no, .dat (encF a), .dat (encF b), .dat (encF e)], .nx [.dat (.list (texts p)), .dat (.int i), .dat (.list ((f0 :: rest).map encF)), .no, .dat (encF (minS' a e)), .dat (encF (maxS' b e)), .dat (encF e)] [], dg_name (i := 6) hN, ?_, [_, _, _, _, _, _, .no], ⟨.inr rfl, .inr rfl, .inr rfl, .inr rfl, .inr rfl, .inr rfl, .inl rfl, trivial⟩, rfl, rfl⟩
            exact dxs_cons (ρ1 := [_, _, _, _, _, _, _]) (dx_set (i := 4) (dv_if (s := .dat (encF (minS' a e))) (dt_val (dv_fn F_law_is_at_most (hr.mono (by decide)) (da_cons (dv_name 6 rfl (by nofun)) (da_cons (dv_name 4 rfl (by nofun)) da_nil)) ⟨e, a, rfl, rfl, rfl, rfl, ⟨by omega, by omega⟩, by omega, by omega⟩)) (fun z => dv_is (dv_name 6 rfl (by nofun)) (by unfold minS' leF; rw [if_pos z])) (fun z => dv_is (dv_name 4 rfl (by nofun)) (by unfold minS' leF; rw [if_neg (by rw [z]; decide)]))) hN) (
              dxs_one (dx_set (i := 5) (dv_if (s := .dat (encF (maxS' b e))) (dt_val (dv_fn F_law_is_at_most (hr.mono (by decide)) (da_cons (dv_name 5 rfl (by nofun)) (da_cons (dv_name 6 rfl (by nofun)) da_nil)) ⟨b, e, rfl, rfl, rfl, rfl, ⟨by omega, by omega⟩, by omega, by omega⟩)) (fun z => dv_is (dv_name 6 rfl (by nofun)) (by unfold maxS' leF; rw [if_pos z])) (fun z => dv_is (dv_name 5 rfl (by nofun)) (by unfold maxS' leF; rw [if_neg (by rw [z]; decide)]))) hN)))
          (fun ρ1 μ' h => by
            obtain ⟨rfl, rfl⟩ := h
            exact ⟨_, Fg.refl _, by rw [List.length_map, List.take_length]⟩)) (
        dxs_one (dx_retIs (dv_tup (dd_cons (dv_name 4 rfl (by nofun)) (dd_cons (dv_name 5 rfl (by nofun)) dd_nil))) rfl))))
end
end Dr
set_option maxHeartbeats 4000000
namespace Dr
open PySem PySem.Spec PyProof.Rows L2
section
variable {P : Program} {w : World} {K : PySem.W.Frag} {mg : Str → Option Value} {base : Heap}
theorem sp_at {l : List Spot} {i : Nat} {d : PyData} (h : (l.map encP)[i]? = some d) : ∃ e, l[i]? = some e ∧ d = encP e := by
  rw [List.getElem?_map] at h
  cases e : l[i]? with
  | none => rw [e] at h; cases h
  | some f => rw [e] at h; exact ⟨f, rfl, (Option.some.inj h).symm⟩
theorem encP_at {l : List Spot} {i : Nat} {s : Spot} (h : l[i]? = some s) : atI (l.map encP) (i : Int) = some (encP s) := by
  refine atI_pos (by omega) ?_
  rw [List.getElem?_map, show ((i : Int)).toNat = i from rfl, h]; rfl
def spotsP (ld : List Spot × List Int) : PyData := .list [.list (ld.1.map encP), .list (ld.2.map PyData.int)]
def C_law_spots : Ctr := fun ss μ s' μ' => ∃ (p : List Row) (l : List Stt) (n v : Int), Srch p l ∧ 2 ≤ n ∧ n ≤ 20 ∧ 1 ≤ v ∧ v ≤ 2 * n ∧ ss = [.dat (.list (texts p)), .dat (.int n), .dat (encP ⟨0, 0, v, v⟩)] ∧ μ = [] ∧ s' = .dat (spotsP (spotsF p n v)) ∧ μ' = []
theorem sc_law_spots : FnScope ["_law_lines", "_law_number", "_law_begin", "_law_some", "_law_depth", "_law_known_here", "_law_at", "_law_spot"] ["_law_lines", "_law_number", "_law_begin"] (defScope s_law_spots) := ⟨rfl, rfl, rfl, by decide +kernel, rfl, by decide +kernel, by decide +kernel⟩
theorem ok_law_spots {f : Addr} {fd : FuncData} (T : Tx mg K w) (F : Fun K "_law_spots" "_law_spots" s_law_spots f fd) (hm : mg "_law_spots" = some (.ref f)) (F_law_next : FnD P w K mg base "_law_next" 3 C_law_next) (F_law_is_wide_spot : FnD P w K mg base "_law_is_wide_spot" 2 C_law_is_wide_spot) : FnD P w K mg base "_law_spots" 4 C_law_spots := by
  refine fnD F hm sc_law_spots (fun _ _ _ _ _ _ us hl => match us, hl with | [_, _, _], _ => rfl) (fun ss μ s' μ' h => ?_) (fun cdv A outer s H E c hr ss μ s' μ' h hm0 => ?_)
  · obtain ⟨p, l, n, v, S, n1, n2, v1, v2, rfl, rfl, rfl, rfl⟩ := h; rfl
  · obtain ⟨p, l, n, v, S, n1, n2, v1, v2, rfl, rfl, rfl, rfl⟩ := h
    have hu := hr.units
    have h0 : c.m0 = [] := List.eq_nil_of_length_eq_zero hm0
    have hN := sc_law_spots.nd
    have hI0 := S.begin n1 v1 v2
    refine dxs_cons (ρ1 := [_, _, _, _, _, _, .no, .no]) (dx_par3 (i := 3) (j := 4) (l := 5) rfl hN (da_cons (dv_lstM (dd_cons (dv_name 2 rfl (by nofun)) dd_nil)) (da_cons (dv_lstM (dd_cons dv_int dd_nil)) (da_cons (dv_dic1 (d := encP ⟨0, 0, v, v⟩) hu (fun _ => dv_name 2 rfl (by nofun)) (fun _ => dv_bl) rfl) da_nil)))) (
      dxs_cons (ρ1 := [.dat (.list (texts p)), .dat (.int n), .dat (encP ⟨0, 0, v, v⟩), .own 0, .own 1, .own 2, .no, .no]) (μ1 := [.lst ((spotsF p n v).1.map encP), .lst ((spotsF p n v).2.map PyData.int), .dic ((spotsF p n v).1.map encP)]) (dx_for rfl PassesOwn.never (di_rng1 T.range dv_int ⟨by decide, by decide⟩)
        (fun i ρ μ => ∃ (ld : List Spot × List Int) (k : Nat), ρ = [.dat (.list (texts p)), .dat (.int n), .dat (encP ⟨0, 0, v, v⟩), .own 0, .own 1, .own 2, .no, .no] ∧ μ = [.lst (ld.1.map encP), .lst (ld.2.map PyData.int), .dic (ld.1.map encP)] ∧ SpI l n ld ∧ spotsB p n k ld i = spotsF p n v ∧ i + k = 60000 ∧ ld.1.length ≤ 1 + 2 * i) ⟨([⟨0, 0, v, v⟩], [0]), 60000, rfl, rfl, hI0, rfl, rfl, Nat.le_refl 1⟩ (fun _ _ _ _ => trivial)
        (fun i d ρ1 μ' hd h => by
          obtain ⟨ld, k, rfl, rfl, I, hq, hik, hln⟩ := h
          obtain ⟨hi9, rfl⟩ := rng_at.mp hd
          have hat : (0 : Int) + (i : Int) = (i : Int) := by omega
          rw [hat]
          refine ⟨[.dat (.list (texts p)), .dat (.int n), .dat (encP ⟨0, 0, v, v⟩), .own 0, .own 1, .own 2, .dat (.int (i : Int)), .no], ?_⟩
          by_cases hil : i < ld.1.length
          · have hi := List.getElem?_eq_getElem hil
            have hcv := I.cov ld.1[i] (List.getElem_mem hil)
            generalize ld.1[i] = u at *
            have h6 : (60000 : Int).toNat = 60000 := rfl
            obtain ⟨k, rfl⟩ : ∃ k', k = k' + 1 := ⟨k - 1, by omega⟩
            have hq2 : spotsB p n k (pushPs n (ld.2.getD i 0 + 1) ld (nextL (rowAt p u.row) n u)) (i + 1) = spotsF p n v := by
              rw [← hq]
              show _ = (match ld.1[i]? with | none => ld | some u => spotsB p n k (pushPs n (ld.2.getD i 0 + 1) ld (nextL (rowAt p u.row) n u)) (i + 1))
              rw [hi]
            have hrow := S.row hcv
            have hge : decide (((ld.1.map encP).length : Int) ≤ (i : Int)) = false := decide_eq_false (by rw [List.length_map]; omega)
            have hdl : i < ld.2.length := by rw [I.len]; exact hil
            have hnl := nextL_le (rowAt p u.row) n u
            -- what holds after m of the next ones
            have mid : ∀ m, SpI l n (pushPs n (ld.2.getD i 0 + 1) ld ((nextL (rowAt p u.row) n u).take m)) ∧ ld.2 <+: (pushPs n (ld.2.getD i 0 + 1) ld ((nextL (rowAt p u.row) n u).take m)).2 ∧ (pushPs n (ld.2.getD i 0 + 1) ld ((nextL (rowAt p u.row) n u).take m)).1.length ≤ ld.1.length + m := by
              intro m
              induction m with
              | zero => exact ⟨I, List.prefix_refl _, Nat.le_refl _⟩
              | succ m ih =>
                cases ht : (nextL (rowAt p u.row) n u)[m]? with
                | none =>
                  rw [List.take_add_one, ht, Option.toList_none, List.append_nil]
                  exact ⟨ih.1, ih.2.1, Nat.le_succ_of_le ih.2.2⟩
                | some t =>
                  have e1 : (nextL (rowAt p u.row) n u).take (m + 1) = (nextL (rowAt p u.row) n u).take m ++ [t] := take_snoc ht
                  rw [e1, pp_snoc]
                  have hp := pp_pre1 n (ld.2.getD i 0 + 1) (pushPs n (ld.2.getD i 0 + 1) ld ((nextL (rowAt p u.row) n u).take m)) t
                  exact ⟨ih.1.push (S.next n1 hcv (List.mem_of_getElem? ht)), ih.2.1.trans hp.2.1, by omega⟩
            have fin := mid (nextL (rowAt p u.row) n u).length
            rw [List.take_length] at fin
            refine ⟨.nx [.dat (.list (texts p)), .dat (.int n), .dat (encP ⟨0, 0, v, v⟩), .own 0, .own 1, .own 2, .dat (.int (i : Int)), .no] [.lst ((pushPs n (ld.2.getD i 0 + 1) ld (nextL (rowAt p u.row) n u)).1.map encP), .lst ((pushPs n (ld.2.getD i 0 + 1) ld (nextL (rowAt p u.row) n u)).2.map PyData.int), .dic ((pushPs n (ld.2.getD i 0 + 1) ld (nextL (rowAt p u.row) n u)).1.map encP)], dg_name (i := 6) hN, ?_, [_, _, _, _, _, _, .no, .no], ⟨.inr rfl, .inr rfl, .inr rfl, .inr rfl, .inr rfl, .inr rfl, .inl rfl, .inl rfl, trivial⟩, _, k, rfl, rfl, fin.1, hq2, by omega, by omega⟩
            exact dxs_guard (dt_is (k1 := false) (dt_cmp (dv_name 6 rfl (by nofun)) (dv_lenM T.len (dv_name 3 rfl (by nofun)) rfl) (c_ge _ _)) hge) (fun z => absurd z (by decide)) (fun _ =>
              dxs_one (dx_for rfl PassesOwn.never (di_lst (dv_fn F_law_next (hr.mono (by decide)) (da_cons (dv_name 0 rfl (by nofun)) (da_cons (dv_name 1 rfl (by nofun)) (da_cons (dv_ixM (dv_name 3 rfl (by nofun)) (dv_name 6 rfl (by nofun)) rfl (encP_at hi)) da_nil))) ⟨p, _, n, u, rfl, rfl, rfl, rfl, hrow.1, hrow.2, rfl, by omega, by omega⟩))
                (fun m ρ μ => ρ = [.dat (.list (texts p)), .dat (.int n), .dat (encP ⟨0, 0, v, v⟩), .own 0, .own 1, .own 2, .dat (.int (i : Int)), .no] ∧ μ = [.lst ((pushPs n (ld.2.getD i 0 + 1) ld ((nextL (rowAt p u.row) n u).take m)).1.map encP), .lst ((pushPs n (ld.2.getD i 0 + 1) ld ((nextL (rowAt p u.row) n u).take m)).2.map PyData.int), .dic ((pushPs n (ld.2.getD i 0 + 1) ld ((nextL (rowAt p u.row) n u).take m)).1.map encP)]) ⟨rfl, rfl⟩ (fun _ _ _ _ => trivial)
                (fun m d ρ1 μ' hd h => by
                  obtain ⟨rfl, rfl⟩ := h
                  obtain ⟨t, ht, rfl⟩ := sp_at hd
                  have hmm : m < 2 := Nat.lt_of_lt_of_le (List.getElem?_eq_some_iff.mp ht).1 hnl
                  have e1 : (nextL (rowAt p u.row) n u).take (m + 1) = (nextL (rowAt p u.row) n u).take m ++ [t] := take_snoc ht
                  obtain ⟨f1, f2, f3⟩ := mid m
                  rw [e1, pp_snoc]
                  generalize pushPs n (ld.2.getD i 0 + 1) ld ((nextL (rowAt p u.row) n u).take m) = ldm at *
                  obtain ⟨lm, dm⟩ := ldm
                  have f2 : ld.2 <+: dm := f2
                  have f3 : lm.length ≤ ld.1.length + m := f3
                  have f4 : dm.length = lm.length := f1.len
                  have hk := hasK_encP lm t
                  have hsz : (lm.map encP).length < sizeLine := small_lt (by rw [List.length_map]; omega)
                  have hsz2 : (dm.map PyData.int).length < sizeLine := small_lt (by rw [List.length_map]; omega)
                  have hdat : atI (dm.map PyData.int) (i : Int) = some (.int (ld.2.getD i 0)) := by
                    rw [← getD_pre f2 hdl]
                    exact int_at (Nat.lt_of_lt_of_le hdl f2.length_le)
                  refine ⟨[.dat (.list (texts p)), .dat (.int n), .dat (encP ⟨0, 0, v, v⟩), .own 0, .own 1, .own 2, .dat (.int (i : Int)), .dat (encP t)], ?_⟩
                  by_cases hmem : t ∈ lm
                  · rw [decide_eq_true hmem] at hk
                    rw [show pushP n (ld.2.getD i 0 + 1) (lm, dm) t = (lm, dm) from if_pos (.inl hmem)]
                    exact ⟨.nx [_, _, _, _, _, _, _, _] _, dg_name (i := 7) hN,
                      dxs_one (dx_if (dt_w (dw_and (k1 := false) (k2 := false) (dt_is (k1 := false) (dt_cmp (dv_name 7 rfl (by nofun)) (dv_name 5 rfl (by nofun)) (c_ninK hu rfl rfl)) (by rw [hk]; rfl)) (fun z => absurd z (by decide)))) (fun z => absurd z (by decide)) (fun _ => dxs_nil)),
                      [_, _, _, _, _, _, _, .no], ⟨.inr rfl, .inr rfl, .inr rfl, .inr rfl, .inr rfl, .inr rfl, .inr rfl, .inl rfl, trivial⟩, rfl, rfl⟩
                  · rw [decide_eq_false hmem] at hk
                    cases hw : wideL n t with
                    | true =>
                      rw [show pushP n (ld.2.getD i 0 + 1) (lm, dm) t = (lm, dm) from if_pos (.inr hw)]
                      exact ⟨.nx [_, _, _, _, _, _, _, _] _, dg_name (i := 7) hN,
                        dxs_one (dx_if (dt_w (dw_and (k1 := true) (dt_is (k1 := true) (dt_cmp (dv_name 7 rfl (by nofun)) (dv_name 5 rfl (by nofun)) (c_ninK hu rfl rfl)) (by rw [hk]; rfl)) fun _ => dw_and1 (dt_is (k1 := false) (dt_not (dt_val (dv_fn F_law_is_wide_spot (hr.mono (by decide)) (da_cons (dv_name 1 rfl (by nofun)) (da_cons (dv_name 7 rfl (by nofun)) da_nil)) ⟨n, t, rfl, rfl, rfl, rfl⟩))) (by rw [hw]; rfl)))) (fun z => absurd z (by decide)) (fun _ => dxs_nil)),
                        [_, _, _, _, _, _, _, .no], ⟨.inr rfl, .inr rfl, .inr rfl, .inr rfl, .inr rfl, .inr rfl, .inr rfl, .inl rfl, trivial⟩, rfl, rfl⟩
                    | false =>
                      rw [show pushP n (ld.2.getD i 0 + 1) (lm, dm) t = (lm ++ [t], dm ++ [ld.2.getD i 0 + 1]) from if_neg (fun z => z.elim hmem (fun z => by rw [hw] at z; cases z)), List.map_append, List.map_append]
                      exact ⟨.nx [_, _, _, _, _, _, _, _] _, dg_name (i := 7) hN,
                        dxs_one (dx_if (dt_w (dw_and (k1 := true) (dt_is (k1 := true) (dt_cmp (dv_name 7 rfl (by nofun)) (dv_name 5 rfl (by nofun)) (c_ninK hu rfl rfl)) (by rw [hk]; rfl)) fun _ => dw_and1 (dt_is (k1 := true) (dt_not (dt_val (dv_fn F_law_is_wide_spot (hr.mono (by decide)) (da_cons (dv_name 1 rfl (by nofun)) (da_cons (dv_name 7 rfl (by nofun)) da_nil)) ⟨n, t, rfl, rfl, rfl, rfl⟩))) (by rw [hw]; rfl)))) (fun _ =>
                          dxs_cons (ρ1 := [_, _, _, _, _, _, _, _]) (dx_setK hu dv_bl (dv_name 5 rfl (by nofun)) (dv_name 7 rfl (by nofun)) rfl rfl hk hsz) (
                          dxs_cons (ρ1 := [_, _, _, _, _, _, _, _]) (dx_expr (dv_append (dv_name 3 rfl (by nofun)) (dv_name 7 rfl (by nofun)) rfl rfl hsz)) (
                          dxs_one (dx_expr (dv_append (dv_name 4 rfl (by nofun)) (dv_add (dv_ixM (dv_name 4 rfl (by nofun)) (dv_name 6 rfl (by nofun)) rfl hdat) dv_int) rfl rfl hsz2))))) (fun z => absurd z (by decide))),
                        [_, _, _, _, _, _, _, .no], ⟨.inr rfl, .inr rfl, .inr rfl, .inr rfl, .inr rfl, .inr rfl, .inr rfl, .inl rfl, trivial⟩, rfl, rfl⟩)
                (fun ρ1 μ' h => by
                  obtain ⟨rfl, rfl⟩ := h
                  refine ⟨_, Fg.refl _, ?_⟩
                  rw [List.length_map, List.take_length])))
          · have hge : decide (((ld.1.map encP).length : Int) ≤ (i : Int)) = true := decide_eq_true (by rw [List.length_map]; omega)
            have hf : spotsF p n v = ld := by
              rw [← hq]
              cases k with
              | zero => rfl
              | succ k =>
                show (match ld.1[i]? with | none => ld | some u => spotsB p n k (pushPs n (ld.2.getD i 0 + 1) ld (nextL (rowAt p u.row) n u)) (i + 1)) = ld
                rw [List.getElem?_eq_none (by omega)]
            rw [hf]
            exact ⟨.bk [_, _, _, _, _, _, _, _] [.lst (ld.1.map encP), .lst (ld.2.map PyData.int), .dic (ld.1.map encP)], dg_name (i := 6) hN, dxs_stop (dx_if (dt_is (k1 := true) (dt_cmp (dv_name 6 rfl (by nofun)) (dv_lenM T.len (dv_name 3 rfl (by nofun)) rfl) (c_ge _ _)) hge) (fun _ => dxs_one dx_brk) (fun z => absurd z (by decide))) trivial, [_, _, _, _, _, _, .no, _], ⟨.inr rfl, .inr rfl, .inr rfl, .inr rfl, .inr rfl, .inr rfl, .inl rfl, .inr rfl, trivial⟩, rfl⟩)
        (fun ρ1 μ' h => by
          obtain ⟨ld, k, rfl, rfl, I, hq, hik, hln⟩ := h
          rw [rng_len] at hik
          have h6 : (60000 : Int).toNat = 60000 := rfl
          obtain rfl : k = 0 := by omega
          have hf : spotsF p n v = ld := hq.symm
          rw [hf]
          exact ⟨_, Fg.refl _, rfl⟩))
      (dxs_one (dx_retShow2 (i := 0) (j := 1) (da_cons (dv_name 3 rfl (by nofun)) (da_cons (dv_name 4 rfl (by nofun)) da_nil)) h0 rfl rfl)))
end
end Dr
set_option maxHeartbeats 4000000
namespace Dr
open PySem PySem.Spec PyProof.Rows L2
section
variable {P : Program} {w : World} {K : PySem.W.Frag} {mg : Str → Option Value} {base : Heap}
def C_law_lies_between : Ctr := fun ss μ s' μ' => ∃ (p : List Row) (l : List Stt) (i n : Int) (q : Qt) (d : F8) (f0 : Int × Int) (rest : List (Int × Int)), Srch p l ∧ 2 ≤ n ∧ n ≤ 20 ∧ 0 ≤ i ∧ i < p.length ∧ rowAt p i = .ifc q d ∧ toldQ q i l = f0 :: rest ∧
  ss = [.dat (.list (texts p)), .dat (.int i), .dat (.int n), .dat (oddsOf (f0 :: rest))] ∧ μ = [] ∧ s' = .dat (.bool true) ∧ μ' = []
theorem sc_law_lies_between : FnScope ["_law_lines", "_law_at", "_law_number", "_law_bounds_here", "_law_full", "_law_spot", "_law_cut", "_law_many", "_law_share"] ["_law_lines", "_law_at", "_law_number", "_law_bounds_here"] (defScope s_law_lies_between) := ⟨rfl, rfl, rfl, by decide +kernel, rfl, by decide +kernel, by decide +kernel⟩
theorem ok_law_lies_between {f : Addr} {fd : FuncData} (T : Tx mg K w) (F : Fun K "_law_lies_between" "_law_lies_between" s_law_lies_between f fd) (hm : mg "_law_lies_between" = some (.ref f)) (F_law_spots : FnD P w K mg base "_law_spots" 4 C_law_spots) (F_law_size : FnD P w K mg base "_law_size" 1 C_law_size) (F_law_is_at_most : FnD P w K mg base "_law_is_at_most" 1 C_law_is_at_most) : FnD P w K mg base "_law_lies_between" 5 C_law_lies_between := by
  refine fnD F hm sc_law_lies_between (fun _ _ _ _ _ _ us hl => match us, hl with | [_, _, _, _], _ => rfl) (fun ss μ s' μ' h => ?_) (fun cdv A outer s H E c hr ss μ s' μ' h hm0 => ?_)
  · obtain ⟨p, l, i, n, q, d, f0, rest, S, n1, n2, h0, h1, hrow, ht, rfl, rfl, rfl, rfl⟩ := h; rfl
  · obtain ⟨p, l, i, n, q, d, f0, rest, S, n1, n2, h0, h1, hrow, ht, rfl, rfl, rfl, rfl⟩ := h
    have hu := hr.units
    have hN := sc_law_lies_between.nd
    have hat := texts_atI h0 h1
    rw [hrow] at hat
    have hred : ∀ f, f ∈ f0 :: rest → f ∈ redu := ht ▸ told_redu (q := q) (i := i) (l := l) fun s hs => ⟨(S.gd s hs).2, (S.gd s hs).1.iv⟩
    have hmi := redu_rng _ (min_in (f0 :: rest) (hred f0 List.mem_cons_self) hred)
    have hma := redu_rng _ (max_in (f0 :: rest) (hred f0 List.mem_cons_self) hred)
    refine dxs_cons (ρ1 := [.dat (.list (texts p)), .dat (.int i), .dat (.int n), .dat (oddsOf (f0 :: rest)), .no, .no, .no, .no, .no]) (μ1 := []) (dx_for rfl PassesOwn.never (di_rng2 T.range dv_int (dv_add (dv_mul dv_int (dv_name 2 rfl (by nofun)) (.inl ⟨by decide, by decide⟩)) dv_int) ⟨by decide, by decide, by omega, by omega⟩)
      (fun _ ρ μ => ρ = [.dat (.list (texts p)), .dat (.int i), .dat (.int n), .dat (oddsOf (f0 :: rest)), .no, .no, .no, .no, .no] ∧ μ = []) ⟨rfl, rfl⟩ (fun _ _ _ _ => trivial)
      (fun j d2 ρ1 μ' hd h => by
        obtain ⟨rfl, rfl⟩ := h
        obtain ⟨hj, rfl⟩ := rng_at.mp hd
        have v1 : 1 ≤ 1 + (j : Int) := by omega
        have v2 : 1 + (j : Int) ≤ 2 * n := by omega
        generalize 1 + (j : Int) = v at *
        have I := S.spots n1 v1 v2
        refine ⟨[.dat (.list (texts p)), .dat (.int i), .dat (.int n), .dat (oddsOf (f0 :: rest)), .dat (.int v), .no, .no, .no, .no], .nx [.dat (.list (texts p)), .dat (.int i), .dat (.int n), .dat (oddsOf (f0 :: rest)), .dat (.int v), .no, .no, .no, .no] [], dg_name (i := 4) hN, ?_, [_, _, _, _, .no, _, _, _, _], ⟨.inr rfl, .inr rfl, .inr rfl, .inr rfl, .inl rfl, .inr rfl, .inr rfl, .inr rfl, .inr rfl, trivial⟩, rfl, rfl⟩
        exact dxs_one (dx_for rfl PassesOwn.never (di_lst (ds := (spotsF p n v).1.map encP) (dv_ixL (dv_is (s1 := .dat (.list [.list ((spotsF p n v).1.map encP), .list ((spotsF p n v).2.map PyData.int)])) (dv_fn F_law_spots (hr.mono (by decide)) (da_cons (dv_name 0 rfl (by nofun)) (da_cons (dv_name 2 rfl (by nofun)) (da_cons (dv_tup (dd_cons dv_int (dd_cons dv_int (dd_cons (dv_name 4 rfl (by nofun)) (dd_cons (dv_name 4 rfl (by nofun)) dd_nil))))) da_nil))) ⟨p, l, n, v, S, n1, n2, v1, v2, rfl, rfl, rfl, rfl⟩) rfl) dv_int rfl))
          (fun _ ρ μ => ρ = [.dat (.list (texts p)), .dat (.int i), .dat (.int n), .dat (oddsOf (f0 :: rest)), .dat (.int v), .no, .no, .no, .no] ∧ μ = []) ⟨rfl, rfl⟩ (fun _ _ _ _ => trivial)
          (fun m d3 ρ1 μ' hd h => by
            obtain ⟨rfl, rfl⟩ := h
            obtain ⟨u, hu2, rfl⟩ := sp_at hd
            obtain ⟨s, hs, r, C⟩ := I.cov u (List.mem_of_getElem? hu2)
            refine ⟨[.dat (.list (texts p)), .dat (.int i), .dat (.int n), .dat (oddsOf (f0 :: rest)), .dat (.int v), .dat (encP u), .no, .no, .no], .nx [.dat (.list (texts p)), .dat (.int i), .dat (.int n), .dat (oddsOf (f0 :: rest)), .dat (.int v), .dat (encP u), .no, .no, .no] [], dg_name (i := 5) hN, ?_, [_, _, _, _, _, .no, _, _, _], ⟨.inr rfl, .inr rfl, .inr rfl, .inr rfl, .inr rfl, .inl rfl, .inr rfl, .inr rfl, .inr rfl, trivial⟩, rfl, rfl⟩
            by_cases hrw : u.row = i
            · obtain ⟨b1, b2, b3, b4, b5, b6⟩ := between S n1 n2 hs C (q := q) hrw ht
              unfold LeF at b1 b2
              refine dxs_one (dx_if (dt_is (k1 := true) (dt_cmp (dv_ixT (dv_name 5 rfl (by nofun)) dv_int rfl) (dv_name 1 rfl (by nofun)) (c_eqI _ _)) (decide_eq_true hrw)) (fun _ => ?_) (fun z => absurd z (by decide)))
              exact dxs_fg (dxs_cons (ρ1 := [_, _, _, _, _, _, _, .no, .no]) (dx_set (i := 6) (dv_fn F_law_size (hr.mono (by decide)) (da_cons (dv_ixL (dv_is (s1 := .dat (strL (Row.words (.ifc q d)))) (dv_split (dv_ixL (dv_name 0 rfl (by nofun)) (dv_name 1 rfl (by nofun)) hat) dv_str (by decide) (Nat.le_trans (Nat.add_le_add_right (txt_len _) 2) (show 22 ≤ sizeLine by decide))) (by rw [split_txt]; rfl)) dv_int rfl) (da_cons (dv_name 2 rfl (by nofun)) (da_cons (dv_ixT (dv_name 5 rfl (by nofun)) dv_int rfl) da_nil))) ⟨q, n, u.v, rfl, rfl, rfl, rfl, by omega, by omega⟩) hN) (
                dxs_cons (ρ1 := [_, _, _, _, _, _, _, _, .no]) (dx_set (i := 7) (dv_is (s1 := .dat (.int (manyL (szL q n u.v) u.a u.b))) (dv_min rfl T.min (dv_max rfl T.max (dv_intI T.int (dv_sub (dv_name 6 rfl (by nofun)) (dv_ixT (dv_name 5 rfl (by nofun)) dv_int rfl))) dv_int) (dv_intI T.int (dv_sub (dv_ixT (dv_name 5 rfl (by nofun)) dv_int rfl) (dv_ixT (dv_name 5 rfl (by nofun)) dv_int rfl)))) rfl) hN) (
                dxs_cons (ρ1 := [_, _, _, _, _, _, _, _, _]) (dx_set (i := 8) (dv_tup (dd_cons (dv_name 7 rfl (by nofun)) (dd_cons (dv_sub (dv_ixT (dv_name 5 rfl (by nofun)) dv_int rfl) (dv_ixT (dv_name 5 rfl (by nofun)) dv_int rfl)) dd_nil))) hN) (
                dxs_guard (dt_is (k1 := false) (dt_not (dt_val (dv_fn F_law_is_at_most (hr.mono (by decide)) (da_cons (dv_ixT (ds := [encF (minF (f0 :: rest) f0), encF (maxF (f0 :: rest) f0)]) (dv_name 3 rfl (by nofun)) dv_int rfl) (da_cons (dv_name 8 rfl (by nofun)) da_nil)) ⟨minF (f0 :: rest) f0, (manyL (szL q n u.v) u.a u.b, u.b - u.a), rfl, rfl, rfl, rfl, ⟨by omega, by omega⟩, b3, b4⟩))) (by rw [decide_eq_true b1]; rfl)) (fun z => absurd z (by decide)) (fun _ =>
                dxs_guard (dt_is (k1 := false) (dt_not (dt_val (dv_fn F_law_is_at_most (hr.mono (by decide)) (da_cons (dv_name 8 rfl (by nofun)) (da_cons (dv_ixT (ds := [encF (minF (f0 :: rest) f0), encF (maxF (f0 :: rest) f0)]) (dv_name 3 rfl (by nofun)) dv_int rfl) da_nil)) ⟨(manyL (szL q n u.v) u.a u.b, u.b - u.a), maxF (f0 :: rest) f0, rfl, rfl, rfl, rfl, ⟨b3, b4⟩, by omega, by omega⟩))) (by rw [decide_eq_true b2]; rfl)) (fun z => absurd z (by decide)) (fun _ => dxs_nil)))))) ⟨.inr rfl, .inr rfl, .inr rfl, .inr rfl, .inr rfl, .inr rfl, .inl rfl, .inl rfl, .inl rfl, trivial⟩
            · exact dxs_one (dx_if (dt_is (k1 := false) (dt_cmp (dv_ixT (dv_name 5 rfl (by nofun)) dv_int rfl) (dv_name 1 rfl (by nofun)) (c_eqI _ _)) (decide_eq_false hrw)) (fun z => absurd z (by decide)) (fun _ => dxs_nil)))
          (fun ρ1 μ' h => by
            obtain ⟨rfl, rfl⟩ := h
            exact ⟨_, Fg.refl _, rfl⟩)))
      (fun ρ1 μ' h => by
        obtain ⟨rfl, rfl⟩ := h
        exact ⟨_, Fg.refl _, rfl⟩)) (dxs_one (dx_retIs dv_bl rfl))
end
end Dr
set_option maxHeartbeats 4000000
/-! D21: a pair unpacked into an item of an owned list and a name. -/
namespace Dr
open PySem PySem.Spec PyProof.Rows L2
section
variable {X : Cx} {c : Ct} {ρ ρ1 : List Sl} {μ μ1 μ2 : List Mo} {e ob ix : Expr} {pos : Pos} {d d1 d2 : PyData} {ds : List PyData} {y : Str}
theorem dx_unpackI {i j q : Nat} {n : Int} {k : Nat} {pt py ptt : Pos} (hc : X.calm = true) (hN : X.N.Nodup) (he : dV X c e ρ μ (.dat (.tuple [d1, d2])) μ1) (ho : dV X c ob ρ μ1 (.own j) μ1) (hi : dV X c ix ρ μ1 (.dat (.int n)) μ1) (hj : μ1[j]? = some (.lst ds)) (hn : ixN ds.length n = some q)
    (hy : X.N[i]? = some y := by rfl) (hyl : X.env.scope.names.lookup y = some .local := by rfl) (hs : swapsWithSole [.Tuple [.Subscript ob ix pt, .Name y py] k ptt] e pos.line X.env = pure false := by rfl) (hw : swappedStores [.Tuple [.Subscript ob ix pt, .Name y py] k ptt] e X.env = pure none := by rfl)
    (h1 : (assignEach [.Tuple [.Subscript ob ix pt, .Name y py] k ptt] X.env).map (·.2) = [assign (.Tuple [.Subscript ob ix pt, .Name y py] k ptt) X.env] := by rfl)
    (hpg : PG X (.Tuple [.Subscript ob ix pt, .Name y py] k ptt) (gTup X.K 2 (gCons (gSub (wE X ob) (wE X ix) rSetL) (gCons (gName i) gNil)))) :
    dX X c (.Assign [.Tuple [.Subscript ob ix pt, .Name y py] k ptt] e pos) ρ μ (.nx (ρ.set i (.dat d2)) (μ1.set j (.lst (ds.set q d1)))) := .mk fun m S H σ W R D kk => by
  refine wS_of (ps_asg pe_w hpg hs hw h1) ?_
  refine he m S H σ W R _ fun m1 S1 v H1 W1 e1 p1 q1 => ?_
  obtain ⟨l0, xs, rfl, hx, hxs⟩ := Dq.of_tup q1
  obtain ⟨z1, z2, rfl, g1, g2⟩ := dqA2 hxs
  refine ⟨l0, [z1, z2], rfl, Evl.ex_t W1.sub hx, rfl, z1, [z2], rfl, ?_⟩
  refine ho m1 S1 H1 σ W1 (R.mono e1 p1) _ fun m2 S2 ov H2 W2 e2 p2 q2 => ?_
  refine hi m2 S2 H2 σ W2 ((R.mono e1 p1).mono e2 p2) _ fun m3 S3 iv H3 W3 e3 p3 q3 => ?_
  obtain rfl := Dq.of_int q3
  obtain ⟨l, hl, rfl⟩ := q2
  have hl3 : m3[j]? = some l := own_at (K := X.K) (S := S) (S' := S) hl p3
  obtain ⟨ys, hys, hyd⟩ := W3.lst hl3 hj
  refine ⟨l, ys, n, q, rfl, rfl, hys, by rw [hyd.length]; exact hn, ?_⟩
  refine ⟨z2, [], rfl, rfl, ?_⟩
  exact kk m3 S3 _ _ (W3.put hl3 ⟨_, upd_same, hyd.set q ((Dq.mono e2 g1).mono e3)⟩) ((e1.trans e2).trans e3) ((p1.trans p2).trans p3) ((((R.mono e1 p1).mono e2 p2).mono e3 p3).set (i := i) (s := .dat d2) ((Dq.mono e2 g2).mono e3))
end
end Dr
set_option maxHeartbeats 4000000
/-! M9: what the law draws. -/
namespace Dr
open PySem PySem.Spec PyProof.Rows L2
structure Spr where
  a : Int
  b : Int
  c : Int
def spL (s : Spr) : List PyData := [.int s.a, .int s.b, .int s.c]
def nb (s : Spr) : Int := (s.b * 69621 + 40503 * (s.c + 1) + 1) % 2147483647
def drawF (s : Spr) (n : Int) : Int × Spr :=
  if 0 < s.a then (s.a % n, ⟨s.a / n, nb s, s.c + 1⟩)
  else (((((nb s + 12345) * nb s + (s.c + 1)) % 2147483629) / 256) % n, ⟨s.a, nb s, s.c + 1⟩)
theorem draw_rng (s : Spr) {n : Int} (h : 0 < n) : 0 ≤ (drawF s n).1 ∧ (drawF s n).1 < n := by
  unfold drawF
  split
  · exact ⟨Int.emod_nonneg _ (by omega), Int.emod_lt_of_pos _ h⟩
  · exact ⟨Int.emod_nonneg _ (by omega), Int.emod_lt_of_pos _ h⟩
theorem nb_rng (s : Spr) : 0 ≤ nb s ∧ nb s < 2147483647 := ⟨Int.emod_nonneg _ (by decide), Int.emod_lt_of_pos _ (by decide)⟩
/-- an item drawn -/
def pick {α : Type} (s : Spr) (l : List α) (d : α) : α := l.getD (drawF s l.length).1.toNat d
theorem pick_at {α : Type} {s : Spr} {l : List α} (d : α) (h : l ≠ []) : l[(drawF s l.length).1.toNat]? = some (pick s l d) := by
  have hl : 0 < l.length := (List.length_pos_iff.mpr h)
  have := draw_rng s (n := (l.length : Int)) (by omega)
  unfold pick
  rw [List.getD_eq_getElem?_getD, List.getElem?_eq_getElem (by omega)]; rfl
theorem pick_in {α : Type} {s : Spr} {l : List α} (d : α) (h : l ≠ []) : pick s l d ∈ l := List.mem_of_getElem? (pick_at d h)
def nxt (s : Spr) (n : Nat) : Spr := (drawF s n).2
end Dr
set_option maxHeartbeats 4000000
namespace Dr
open PySem PySem.Spec PyProof.Rows L2
section
variable {P : Program} {w : World} {K : PySem.W.Frag} {mg : Str → Option Value} {base : Heap}

def C_law_draw : Ctr := fun ss μ s' μ' => ∃ (s : Spr) (n : Int), ss = [.own 0, .dat (.int n)] ∧ μ = [.lst (spL s)] ∧ s' = .dat (.int (drawF s n).1) ∧ μ' = [.lst (spL (drawF s n).2)] ∧ 0 < n ∧ n < 1000
theorem sc_law_draw : FnScope ["_law_spring_here", "_law_size_here", "_law_digit", "_law_far", "_law_mixed"] ["_law_spring_here", "_law_size_here"] (defScope s_law_draw) := ⟨rfl, rfl, rfl, by decide +kernel, rfl, by decide +kernel, by decide +kernel⟩
theorem ok_law_draw {f : Addr} {fd : FuncData} (T : Tx mg K w) (F : Fun K "_law_draw" "_law_draw" s_law_draw f fd) (hm : mg "_law_draw" = some (.ref f)) : FnD P w K mg base "_law_draw" 1 C_law_draw := by
  refine fnD F hm sc_law_draw (fun _ _ _ _ _ _ us hl => match us, hl with | [_, _], _ => rfl) (fun ss μ s' μ' h => ?_) (fun cdv A outer s H E c hr ss μ s' μ' h hm0 => ?_)
  · obtain ⟨s, n, rfl, rfl, rfl, rfl, h1, h2⟩ := h; rfl
  · obtain ⟨s, n, rfl, rfl, rfl, rfl, h1, h2⟩ := h
    have hN := sc_law_draw.nd
    have hu := hr.units
    have hb := nb_rng s
    refine dxs_cons (ρ1 := [_, _, _, _, _]) (dx_setI (q := 2) (dv_add (dv_ixM (dv_name 0 rfl (by nofun)) dv_int rfl rfl) dv_int) (dv_name 0 rfl (by nofun)) dv_int rfl rfl) (
      dxs_cons (ρ1 := [_, _, _, _, _]) (dx_setI (q := 1) (dv_mod (dv_intI T.int (dv_add (dv_add (dv_mul (dv_ixM (dv_name 0 rfl (by nofun)) dv_int rfl rfl) dv_int (.inr ⟨by decide, by decide⟩)) (dv_mul dv_int (dv_ixM (dv_name 0 rfl (by nofun)) dv_int rfl rfl) (.inl ⟨by decide, by decide⟩))) dv_int)) dv_int (by decide)) (dv_name 0 rfl (by nofun)) dv_int rfl rfl) ?_)
    by_cases h : 0 < s.a
    · have e : drawF s n = (s.a % n, ⟨s.a / n, nb s, s.c + 1⟩) := if_pos h
      rw [e]
      exact dxs_stop (dx_if (dt_is (k1 := true) (dt_cmp (dv_ixM (dv_name 0 rfl (by nofun)) dv_int rfl rfl) dv_int (c_gt _ _)) (decide_eq_true h)) (fun _ =>
        dxs_cons (ρ1 := [_, _, _, _, _]) (dx_unpackI (q := 0) (i := 2) rfl hN (dv_divmod T.divmod (dv_ixM (dv_name 0 rfl (by nofun)) dv_int rfl rfl) (dv_name 1 rfl (by nofun)) ⟨h1, by omega⟩) (dv_name 0 rfl (by nofun)) dv_int rfl rfl (hpg := pg_tup rfl (pgs_cons (pg_sub pe_w pe_w set_list) (pgs_cons (pg_name hN rfl (Or.inl rfl)) pgs_nil)))) (
        dxs_one (dx_retIs (dv_name 2 rfl (by nofun)) rfl))) (fun z => absurd z (by decide))) trivial
    · have e : drawF s n = (((((nb s + 12345) * nb s + (s.c + 1)) % 2147483629) / 256) % n, ⟨s.a, nb s, s.c + 1⟩) := if_neg h
      rw [e]
      exact dxs_guard (dt_is (k1 := false) (dt_cmp (dv_ixM (dv_name 0 rfl (by nofun)) dv_int rfl rfl) dv_int (c_gt _ _)) (decide_eq_false h)) (fun z => absurd z (by decide)) (fun _ =>
        dxs_cons (ρ1 := [_, _, _, _, _]) (dx_set (i := 3) (dv_add (dv_ixM (dv_name 0 rfl (by nofun)) dv_int rfl rfl) dv_int) hN) (
        dxs_cons (ρ1 := [_, _, _, _, _]) (dx_set (i := 4) (dv_mod (dv_intI T.int (dv_add (dv_mul (dv_name 3 rfl (by nofun)) (dv_ixM (dv_name 0 rfl (by nofun)) dv_int rfl rfl) (.inr ⟨by omega, by omega⟩)) (dv_ixM (dv_name 0 rfl (by nofun)) dv_int rfl rfl))) dv_int (by decide)) hN) (
        dxs_one (dx_retIs (dv_mod (dv_intI T.int (dv_fdiv (dv_name 4 rfl (by nofun)) dv_int ⟨by decide, by decide⟩)) (dv_name 1 rfl (by nofun)) h1) rfl))))

def C_law_of : Ctr := fun ss μ s' μ' => ∃ (s : Spr) (ms : List PyData) (d : PyData), ss = [.own 0, .dat (.list ms)] ∧ μ = [.lst (spL s)] ∧ s' = .dat d ∧ μ' = [.lst (spL (nxt s ms.length))] ∧ ms ≠ [] ∧ ms.length < 1000 ∧ ms[(drawF s ms.length).1.toNat]? = some d
theorem sc_law_of : FnScope ["_law_spring_here", "_law_menu"] ["_law_spring_here", "_law_menu"] (defScope s_law_of) := ⟨rfl, rfl, rfl, by decide +kernel, rfl, by decide +kernel, by decide +kernel⟩
theorem ok_law_of {f : Addr} {fd : FuncData} (T : Tx mg K w) (F : Fun K "_law_of" "_law_of" s_law_of f fd) (hm : mg "_law_of" = some (.ref f)) (F_law_draw : FnD P w K mg base "_law_draw" 1 C_law_draw) : FnD P w K mg base "_law_of" 2 C_law_of := by
  refine fnD F hm sc_law_of (fun _ _ _ _ _ _ us hl => match us, hl with | [_, _], _ => rfl) (fun ss μ s' μ' h => ?_) (fun cdv A outer s H E c hr ss μ s' μ' h hm0 => ?_)
  · obtain ⟨s, ms, d, rfl, rfl, rfl, rfl, h1, h2, h3⟩ := h; rfl
  · obtain ⟨s, ms, d, rfl, rfl, rfl, rfl, h1, h2, h3⟩ := h
    have hN := sc_law_of.nd
    have hu := hr.units
    have hl : 0 < ms.length := (List.length_pos_iff.mpr h1)
    have hd := draw_rng s (n := (ms.length : Int)) (by omega)
    exact dxs_one (dx_retIs (dv_ixL (dv_name 1 rfl (by nofun)) (dv_fn1 F_law_draw (hr.mono (by decide)) (da_cons (dv_name 0 rfl (by nofun)) (da_cons (dv_lenL T.len (dv_name 1 rfl (by nofun))) da_nil)) ⟨s, (ms.length : Int), rfl, rfl, rfl, rfl, by omega, by omega⟩) (atI_pos hd.1 h3)) rfl)

end
end Dr
set_option maxHeartbeats 4000000
/-! M10: rows drawn. -/
namespace Dr
open PySem PySem.Spec PyProof.Rows L2
def measL : List Qt := [.n1, .n1, .n2, .n3, .n4, .fit]
def measF (s : Spr) : Qt := pick s measL .n1
def placeL (many : Nat) (barred : Int) : List Nat := (List.range many).filter fun k => !decide ((k : Int) = barred)
def dF (k : Nat) : F8 := ⟨k % 8, Nat.mod_lt _ (by decide)⟩
theorem dig_dF {k : Nat} (h : k < 8) : (toString (k : Int) : String) = (toString (k : Int) : String) := rfl
theorem str_dig : ∀ d : F8, (toString (d.val : Int) : Str) = dig d := by decide +kernel
def numT (k : Nat) : Str := toString (k : Int)
theorem num_dig {k : Nat} (h : k < 8) : numT k = dig (dF k) := by
  have := str_dig ⟨k, h⟩
  have e : dF k = ⟨k, h⟩ := by unfold dF; simp only [Fin.mk.injEq]; exact Nat.mod_eq_of_lt h
  rw [e]; exact this
theorem place_mem {many : Nat} {barred : Int} {k : Nat} (h : k ∈ placeL many barred) : k < many ∧ (k : Int) ≠ barred := by
  unfold placeL at h
  obtain ⟨h1, h2⟩ := List.mem_filter.mp h
  exact ⟨List.mem_range.mp h1, by simpa using h2⟩
theorem place_len (many : Nat) (barred : Int) : (placeL many barred).length ≤ many := by
  unfold placeL
  exact Nat.le_trans (List.length_filter_le _ _) (by simp)
def placeN (s : Spr) (many : Nat) (barred : Int) : Nat := pick s (placeL many barred) 0
def placeS (s : Spr) (many : Nat) (barred : Int) : Spr := nxt s (placeL many barred).length
def lastF (s : Spr) (many : Nat) : Row × Spr :=
  (pick (placeS s many (-1)) [.giveC, .giveR, .again, .go (dF (placeN s many (-1)))] .again, nxt (placeS s many (-1)) 4)
def lessX (k : Nat) (q : Qt) : Row := match k with
  | 0 => .lessB q
  | 1 => .lessC q
  | 2 => .lessV q
  | _ => .lessB q
def rowF (s : Spr) (at' many : Nat) : Row × Spr :=
  if at' + 1 = many ∨ (drawF s 7).1 = 0 then lastF (nxt s 7) many
  else if (drawF s 7).1 = 1 then (.take, nxt s 7)
  else if (drawF s 7).1 < 5 then (if (drawF s 7).1 = 4 then .ifv (measF (nxt s 7)) (dF (placeN (nxt (nxt s 7) 6) many ((at' : Int) + 1))) else .ifc (measF (nxt s 7)) (dF (placeN (nxt (nxt s 7) 6) many ((at' : Int) + 1))), placeS (nxt (nxt s 7) 6) many ((at' : Int) + 1))
  else (lessX (pick (nxt s 7) [0, 1, 2, 3] 0) (measF (nxt (nxt s 7) 4)), nxt (nxt (nxt s 7) 4) 6)
theorem dF_val {k : Nat} (h : k < 8) : (dF k).val = k := Nat.mod_eq_of_lt h
theorem place_ne {many : Nat} {barred : Int} (h : ∃ k, k < many ∧ (k : Int) ≠ barred) : placeL many barred ≠ [] := by
  obtain ⟨k, h1, h2⟩ := h
  intro e
  have : k ∈ placeL many barred := List.mem_filter.mpr ⟨List.mem_range.mpr h1, by simpa using h2⟩
  rw [e] at this; cases this
theorem last_ok (s : Spr) {many i : Nat} (h1 : 1 ≤ many) (h8 : many ≤ 8) : (lastF s many).1.okAt many i = true := by
  have hp := place_mem (pick_in (s := s) 0 (place_ne (many := many) (barred := -1) ⟨0, by omega, by decide⟩))
  have hv : (dF (placeN s many (-1))).val < many := by
    have : placeN s many (-1) < many := hp.1
    rw [dF_val (by omega)]; exact this
  unfold lastF
  generalize dF (placeN s many (-1)) = d at *
  have := pick_in (s := placeS s many (-1)) (l := [.giveC, .giveR, .again, .go d]) Row.again (by simp)
  generalize pick (placeS s many (-1)) [.giveC, .giveR, .again, .go d] Row.again = r at *
  simp at this
  rcases this with rfl | rfl | rfl | rfl
  · rfl
  · rfl
  · rfl
  · exact decide_eq_true hv
theorem row_ok (s : Spr) {at' many : Nat} (h : at' < many) (h8 : many ≤ 8) : (rowF s at' many).1.okAt many at' = true := by
  unfold rowF
  by_cases g1 : at' + 1 = many ∨ (drawF s 7).1 = 0
  · rw [if_pos g1]; exact last_ok _ (by omega) h8
  · rw [if_neg g1]
    have hne : at' + 1 ≠ many := fun z => g1 (.inl z)
    by_cases g2 : (drawF s 7).1 = 1
    · rw [if_pos g2]; simp [Row.okAt, hne]
    · rw [if_neg g2]
      by_cases g3 : (drawF s 7).1 < 5
      · rw [if_pos g3]
        have hp := place_mem (pick_in (s := nxt (nxt s 7) 6) 0 (place_ne (many := many) (barred := (at' : Int) + 1) ⟨0, by omega, by omega⟩))
        have hq : placeN (nxt (nxt s 7) 6) many ((at' : Int) + 1) < many ∧ placeN (nxt (nxt s 7) 6) many ((at' : Int) + 1) ≠ at' + 1 := ⟨hp.1, fun z => hp.2 (by unfold placeN at z; rw [z]; rfl)⟩
        have hv := dF_val (k := placeN (nxt (nxt s 7) 6) many ((at' : Int) + 1)) (by omega)
        have hv1 : (dF (placeN (nxt (nxt s 7) 6) many ((at' : Int) + 1))).val < many := by rw [hv]; exact hq.1
        have hv2 : (dF (placeN (nxt (nxt s 7) 6) many ((at' : Int) + 1))).val ≠ at' + 1 := by rw [hv]; exact hq.2
        generalize dF (placeN (nxt (nxt s 7) 6) many ((at' : Int) + 1)) = d at *
        by_cases g4 : (drawF s 7).1 = 4
        · rw [if_pos g4]
          show (decide (d.val < many) && d.val != at' + 1 && at' + 1 != many) = true
          simp [hv1, hv2, hne]
        · rw [if_neg g4]
          show (decide (d.val < many) && d.val != at' + 1 && at' + 1 != many) = true
          simp [hv1, hv2, hne]
      · rw [if_neg g3]
        generalize pick (nxt s 7) [0, 1, 2, 3] 0 = k
        unfold lessX
        split <;> simp [Row.okAt, hne]
end Dr
set_option maxHeartbeats 4000000
namespace Dr
open PySem PySem.Spec PyProof.Rows L2
section
variable {P : Program} {w : World} {K : PySem.W.Frag} {mg : Str → Option Value} {base : Heap}
theorem pick_map {α : Type} {s : Spr} {l : List α} (f : α → PyData) (d : α) (h : l ≠ []) : (l.map f)[(drawF s ((l.map f).length : Int)).1.toNat]? = some (f (pick s l d)) := by
  rw [List.length_map, List.getElem?_map, pick_at d h]; rfl
theorem plain_str : ∀ (l : List Nat), PyData.plainAll (l.map fun k => PyData.str (numT k)) = true
  | [] => by simp [PyData.plainAll]
  | k :: l => by rw [List.map_cons]; simp only [PyData.plainAll, PyData.plain, plain_str l, Bool.and_true]
theorem qlen2 (q : Qt) : (("if c < " : Str) ++ q.txt).length + (" go " : Str).length ≤ 64 ∧ (("if v < " : Str) ++ q.txt).length + (" go " : Str).length ≤ 64 := by cases q <;> decide
theorem qlen3 (q : Qt) (d : F8) : ((("if c < " : Str) ++ q.txt) ++ " go ").length + (dig d).length ≤ 64 ∧ ((("if v < " : Str) ++ q.txt) ++ " go ").length + (dig d).length ≤ 64 := by
  have e : (dig d).length = 1 := rfl
  rw [e]
  cases q <;> decide
theorem qlen1 (q : Qt) : ("if c < " : Str).length + q.txt.length ≤ 64 ∧ ("if v < " : Str).length + q.txt.length ≤ 64 := by cases q <;> decide
def lessT : Nat → Str
  | 0 => "less "
  | 1 => "c less "
  | 2 => "v less "
  | _ => "less "
theorem less_txt (k : Nat) (q : Qt) : lessT k ++ q.txt = (lessX k q).txt := by
  match k with
  | 0 => rfl
  | 1 => rfl
  | 2 => rfl
  | k + 3 => rfl
theorem less_len (k : Nat) (q : Qt) : (lessT k).length + q.txt.length ≤ 64 := by
  unfold lessT
  split <;> cases q <;> decide
theorem le64 {n : Nat} (h : n ≤ 64) : n ≤ sizeLine := Nat.le_trans h (by decide)

def C_law_measure : Ctr := fun ss μ s' μ' => ∃ s : Spr, ss = [.own 0] ∧ μ = [.lst (spL s)] ∧ s' = .dat (.str (measF s).txt) ∧ μ' = [.lst (spL (nxt s 6))]
theorem sc_law_measure : FnScope ["_law_spring_here"] ["_law_spring_here"] (defScope s_law_measure) := ⟨rfl, rfl, rfl, by decide +kernel, rfl, by decide +kernel, by decide +kernel⟩
theorem ok_law_measure {f : Addr} {fd : FuncData} (T : Tx mg K w) (F : Fun K "_law_measure" "_law_measure" s_law_measure f fd) (hm : mg "_law_measure" = some (.ref f)) (F_law_of : FnD P w K mg base "_law_of" 2 C_law_of) : FnD P w K mg base "_law_measure" 3 C_law_measure := by
  refine fnD F hm sc_law_measure (fun _ _ _ _ _ _ us hl => match us, hl with | [_], _ => rfl) (fun ss μ s' μ' h => ?_) (fun cdv A outer s H E c hr ss μ s' μ' h hm0 => ?_)
  · obtain ⟨s, rfl, rfl, rfl, rfl⟩ := h; rfl
  · obtain ⟨s, rfl, rfl, rfl, rfl⟩ := h
    have hN := sc_law_measure.nd
    have hu := hr.units
    exact dxs_one (dx_retIs (dv_fn1 F_law_of (hr.mono (by decide)) (da_cons (dv_name 0 rfl (by nofun)) (da_cons (dv_lst (dd_cons dv_str (dd_cons dv_str (dd_cons dv_str (dd_cons dv_str (dd_cons dv_str (dd_cons dv_str dd_nil))))))) da_nil)) ⟨s, measL.map (fun q => PyData.str q.txt), .str (measF s).txt, rfl, rfl, rfl, rfl, by simp [measL], by decide, pick_map _ Qt.n1 (by simp [measL])⟩) rfl)

def C_law_place : Ctr := fun ss μ s' μ' => ∃ (s : Spr) (many : Nat) (barred : Int), ss = [.own 0, .dat (.int (many : Int)), .dat (.int barred)] ∧ μ = [.lst (spL s)] ∧ s' = .dat (.str (dig (dF (placeN s many barred)))) ∧ μ' = [.lst (spL (placeS s many barred))] ∧ placeL many barred ≠ [] ∧ many ≤ 8
theorem sc_law_place : FnScope ["_law_spring_here", "_law_many", "_law_barred", "_law_spots_here", "_law_place_here"] ["_law_spring_here", "_law_many", "_law_barred"] (defScope s_law_place) := ⟨rfl, rfl, rfl, by decide +kernel, rfl, by decide +kernel, by decide +kernel⟩
theorem ok_law_place {f : Addr} {fd : FuncData} (T : Tx mg K w) (F : Fun K "_law_place" "_law_place" s_law_place f fd) (hm : mg "_law_place" = some (.ref f)) (F_law_draw : FnD P w K mg base "_law_draw" 1 C_law_draw) : FnD P w K mg base "_law_place" 2 C_law_place := by
  refine fnD F hm sc_law_place (fun _ _ _ _ _ _ us hl => match us, hl with | [_, _, _], _ => rfl) (fun ss μ s' μ' h => ?_) (fun cdv A outer s H E c hr ss μ s' μ' h hm0 => ?_)
  · obtain ⟨s, many, barred, rfl, rfl, rfl, rfl, h1, h2⟩ := h; rfl
  · obtain ⟨s, many, barred, rfl, rfl, rfl, rfl, h1, h2⟩ := h
    have hN := sc_law_place.nd
    have hu := hr.units
    have hlen := place_len many barred
    have hpos : 0 < (placeL many barred).length := List.length_pos_iff.mpr h1
    have hd := draw_rng s (n := ((placeL many barred).length : Int)) (by omega)
    have hp := place_mem (pick_in (s := s) 0 h1)
    have hpk := pick_at (s := s) 0 h1
    have htx : numT (placeN s many barred) = dig (dF (placeN s many barred)) := num_dig (by have : placeN s many barred < many := hp.1; omega)
    rw [← htx]
    have hl2 : ((placeL many barred).map fun k => PyData.str (numT k)).length = (placeL many barred).length := List.length_map _
    exact dxs_cons (ρ1 := [_, _, _, .dat (.list ((placeL many barred).map fun k => PyData.str (numT k))), .no]) (μ1 := [.lst (spL s)]) (dx_setLc (i := 4) (j := 3) (fun n acc μ' => acc = ((placeL n barred).map fun k => PyData.str (numT k)) ∧ μ' = [.lst (spL s)]) rfl hN rfl rfl (blk_of (by rfl)) (by rfl) (di_rng1 T.range (dv_name 1 rfl (by nofun)) ⟨by omega, by omega⟩) (small_lt (by rw [rng_len]; omega)) ⟨rfl, rfl⟩ (fun _ _ _ _ => trivial)
        (fun n acc μ' h => by rw [h.1, List.length_map]; exact place_len n barred)
        (fun n d acc μ' hd h => by
          obtain ⟨rfl, rfl⟩ := h
          obtain ⟨hn, rfl⟩ := rng_at.mp hd
          have hat : (0 : Int) + (n : Int) = (n : Int) := by omega
          rw [hat]
          refine ⟨!decide ((n : Int) = barred), _, fun c2 s0 H0 C cl fp => dt_cmp (dv_name 4 rfl (by nofun)) (dv_name 2 rfl (by nofun)) (c_neI _ _), fun z => ⟨.str (numT n), _, fun c2 s0 H0 C cl fp => dv_strI T.str (dv_name 4 rfl (by nofun)) (Nat.lt_of_le_of_lt (Nat.log2_le_self _) (by omega)), ?_, rfl⟩, fun z => ⟨?_, rfl⟩⟩
          · unfold placeL; rw [List.range_succ, List.filter_append, List.map_append, List.filter_cons_of_pos (by simpa using z)]; rfl
          · unfold placeL; rw [List.range_succ, List.filter_append, List.map_append, List.filter_cons_of_neg (by simpa using z)]; simp)
        (fun acc μ' h => by
          obtain ⟨rfl, rfl⟩ := h
          rw [rng_len]
          exact ⟨rfl, rfl⟩) (fun _ _ _ _ _ => pg_name hN rfl (Or.inl rfl)) (by decide)) (
      dxs_one (dx_retIs (dv_if (dt_is (k1 := true) (dt_cmp (dv_name 3 rfl (by nofun)) (dv_lst dd_nil) (c_neD hu _ _ (by simp only [PyData.plain]; exact plain_str _) rfl (Nat.le_trans (Nat.min_le_right _ _) (by decide)))) (by
          obtain ⟨x, xs, e⟩ := List.exists_cons_of_ne_nil h1
          rw [e]
          simp [PyData.eqv, PyData.eqvAll])) (fun _ => dv_ixL (d := .str (numT (placeN s many barred))) (dv_name 3 rfl (by nofun)) (dv_fn1 F_law_draw (hr.mono (by decide)) (da_cons (dv_name 0 rfl (by nofun)) (da_cons (dv_is (s1 := .dat (.int ((placeL many barred).length : Int))) (dv_lenL T.len (dv_name 3 rfl (by nofun))) (by rw [hl2])) da_nil)) ⟨s, _, rfl, rfl, rfl, rfl, by omega, by omega⟩) (by
          refine atI_pos hd.1 ?_
          rw [List.getElem?_map, hpk]; rfl)) (fun z => absurd z (by decide))) rfl))

end
end Dr
set_option maxHeartbeats 4000000
namespace Dr
open PySem PySem.Spec PyProof.Rows L2
section
variable {P : Program} {w : World} {K : PySem.W.Frag} {mg : Str → Option Value} {base : Heap}

def C_law_last_row : Ctr := fun ss μ s' μ' => ∃ (s : Spr) (many : Nat), ss = [.own 0, .dat (.int (many : Int))] ∧ μ = [.lst (spL s)] ∧ s' = .dat (.str (lastF s many).1.txt) ∧ μ' = [.lst (spL (lastF s many).2)] ∧ 1 ≤ many ∧ many ≤ 8
theorem sc_law_last_row : FnScope ["_law_spring_here", "_law_many"] ["_law_spring_here", "_law_many"] (defScope s_law_last_row) := ⟨rfl, rfl, rfl, by decide +kernel, rfl, by decide +kernel, by decide +kernel⟩
theorem ok_law_last_row {f : Addr} {fd : FuncData} (T : Tx mg K w) (F : Fun K "_law_last_row" "_law_last_row" s_law_last_row f fd) (hm : mg "_law_last_row" = some (.ref f)) (F_law_of : FnD P w K mg base "_law_of" 2 C_law_of) (F_law_place : FnD P w K mg base "_law_place" 2 C_law_place) : FnD P w K mg base "_law_last_row" 3 C_law_last_row := by
  refine fnD F hm sc_law_last_row (fun _ _ _ _ _ _ us hl => match us, hl with | [_, _], _ => rfl) (fun ss μ s' μ' h => ?_) (fun cdv A outer s H E c hr ss μ s' μ' h hm0 => ?_)
  · obtain ⟨s, many, rfl, rfl, rfl, rfl, h1, h2⟩ := h; rfl
  · obtain ⟨s, many, rfl, rfl, rfl, rfl, h1, h2⟩ := h
    have hN := sc_law_last_row.nd
    have hu := hr.units
    exact dxs_one (dx_retIs (dv_fn1 F_law_of (hr.mono (by decide)) (da_cons (dv_name 0 rfl (by nofun)) (da_cons (dv_lst (dd_cons dv_str (dd_cons dv_str (dd_cons dv_str (dd_cons (dv_addS dv_str (dv_fn1 F_law_place (hr.mono (by decide)) (da_cons (dv_name 0 rfl (by nofun)) (da_cons (dv_name 1 rfl (by nofun)) (da_cons (dv_neg dv_int) da_nil))) ⟨s, many, -1, rfl, rfl, rfl, rfl, place_ne ⟨0, by omega, by decide⟩, h2⟩) (show 4 ≤ sizeLine by decide)) dd_nil))))) da_nil)) ⟨placeS s many (-1), [Row.giveC, .giveR, .again, .go (dF (placeN s many (-1)))].map (fun r => PyData.str r.txt), .str (lastF s many).1.txt, rfl, rfl, rfl, rfl, by simp, by simp, pick_map _ Row.again (by simp)⟩) rfl)

def C_law_row : Ctr := fun ss μ s' μ' => ∃ (s : Spr) (at' many : Nat), ss = [.own 0, .dat (.int (at' : Int)), .dat (.int (many : Int))] ∧ μ = [.lst (spL s)] ∧ s' = .dat (.str (rowF s at' many).1.txt) ∧ μ' = [.lst (spL (rowF s at' many).2)] ∧ at' < many ∧ many ≤ 8
theorem sc_law_row : FnScope ["_law_spring_here", "_law_at", "_law_many", "_law_way", "_law_subject"] ["_law_spring_here", "_law_at", "_law_many"] (defScope s_law_row) := ⟨rfl, rfl, rfl, by decide +kernel, rfl, by decide +kernel, by decide +kernel⟩
theorem ok_law_row {f : Addr} {fd : FuncData} (T : Tx mg K w) (F : Fun K "_law_row" "_law_row" s_law_row f fd) (hm : mg "_law_row" = some (.ref f)) (F_law_of : FnD P w K mg base "_law_of" 2 C_law_of) (F_law_draw : FnD P w K mg base "_law_draw" 1 C_law_draw) (F_law_measure : FnD P w K mg base "_law_measure" 3 C_law_measure) (F_law_place : FnD P w K mg base "_law_place" 2 C_law_place) (F_law_last_row : FnD P w K mg base "_law_last_row" 3 C_law_last_row) : FnD P w K mg base "_law_row" 4 C_law_row := by
  refine fnD F hm sc_law_row (fun _ _ _ _ _ _ us hl => match us, hl with | [_, _, _], _ => rfl) (fun ss μ s' μ' h => ?_) (fun cdv A outer s H E c hr ss μ s' μ' h hm0 => ?_)
  · obtain ⟨s, at', many, rfl, rfl, rfl, rfl, h1, h2⟩ := h; rfl
  · obtain ⟨s, at', many, rfl, rfl, rfl, rfl, h1, h2⟩ := h
    have hN := sc_law_row.nd
    have hu := hr.units
    have hgq : (decide ((at' : Int) = (many : Int) - 1) || decide ((drawF s 7).1 = 0)) = decide (at' + 1 = many ∨ (drawF s 7).1 = 0) := by
      rw [← Bool.decide_or]
      exact decide_eq_decide.mpr ⟨fun z => z.imp (fun z => by omega) id, fun z => z.imp (fun z => by omega) id⟩
    refine dxs_cons (ρ1 := [.own 0, .dat (.int (at' : Int)), .dat (.int (many : Int)), .dat (.int (drawF s 7).1), .no]) (μ1 := [.lst (spL (nxt s 7))]) (dx_set (i := 3) (dv_fn1 F_law_draw (hr.mono (by decide)) (da_cons (dv_name 0 rfl (by nofun)) (da_cons dv_int da_nil)) ⟨s, 7, rfl, rfl, rfl, rfl, by decide, by decide⟩) hN) ?_
    by_cases g1 : at' + 1 = many ∨ (drawF s 7).1 = 0
    · have hg1 := hgq.trans (decide_eq_true g1)
      have e : rowF s at' many = lastF (nxt s 7) many := if_pos g1
      rw [e]
      exact dxs_stop (dx_if (dt_is (k1 := true) (dt_w (dw_or (dt_cmp (dv_name 1 rfl (by nofun)) (dv_sub (dv_name 2 rfl (by nofun)) dv_int) (c_eqI _ _)) fun _ => dw_or1 (dt_cmp (dv_name 3 rfl (by nofun)) dv_int (c_eqI _ _)))) hg1) (fun _ => dxs_one (dx_retIs (dv_fn1 F_law_last_row (hr.mono (by decide)) (da_cons (dv_name 0 rfl (by nofun)) (da_cons (dv_name 2 rfl (by nofun)) da_nil)) ⟨nxt s 7, many, rfl, rfl, rfl, rfl, by omega, h2⟩) rfl)) (fun z => absurd z (by decide))) trivial
    · have hg1 := hgq.trans (decide_eq_false g1)
      refine dxs_guard (dt_is (k1 := false) (dt_w (dw_or (dt_cmp (dv_name 1 rfl (by nofun)) (dv_sub (dv_name 2 rfl (by nofun)) dv_int) (c_eqI _ _)) fun _ => dw_or1 (dt_cmp (dv_name 3 rfl (by nofun)) dv_int (c_eqI _ _)))) hg1) (fun z => absurd z (by decide)) (fun _ => ?_)
      have hne : at' + 1 ≠ many := fun z => g1 (.inl z)
      by_cases g2 : (drawF s 7).1 = 1
      · have e : rowF s at' many = (.take, nxt s 7) := by unfold rowF; rw [if_neg g1, if_pos g2]
        rw [e]
        exact dxs_stop (dx_if (dt_is (k1 := true) (dt_cmp (dv_name 3 rfl (by nofun)) dv_int (c_eqI _ _)) (decide_eq_true g2)) (fun _ => dxs_one (dx_retIs dv_str rfl)) (fun z => absurd z (by decide))) trivial
      · refine dxs_guard (dt_is (k1 := false) (dt_cmp (dv_name 3 rfl (by nofun)) dv_int (c_eqI _ _)) (decide_eq_false g2)) (fun z => absurd z (by decide)) (fun _ => ?_)
        by_cases g3 : (drawF s 7).1 < 5
        · refine dxs_stop (dx_if (dt_is (k1 := true) (dt_cmp (dv_name 3 rfl (by nofun)) dv_int (c_lt _ _)) (decide_eq_true g3)) (fun _ => ?_) (fun z => absurd z (by decide))) trivial
          by_cases g4 : (drawF s 7).1 = 4
          · have e : rowF s at' many = (.ifv (measF (nxt s 7)) (dF (placeN (nxt (nxt s 7) 6) many ((at' : Int) + 1))), placeS (nxt (nxt s 7) 6) many ((at' : Int) + 1)) := by unfold rowF; rw [if_neg g1, if_neg g2, if_pos g3, if_pos g4]
            rw [e]
            exact dxs_cons (ρ1 := [_, _, _, _, .dat (.str "v")]) (dx_set (i := 4) (dv_if (dt_is (k1 := true) (dt_cmp (dv_name 3 rfl (by nofun)) dv_int (c_eqI _ _)) (decide_eq_true g4)) (fun _ => dv_str) (fun z => absurd z (by decide))) hN) (
              dxs_one (dx_retIs (dv_addS (dv_addS (dv_addS (dv_is (s1 := .dat (.str "if v < ")) (dv_addS (dv_addS dv_str (dv_name 4 rfl (by nofun)) (by decide)) dv_str (by decide)) (congrArg (fun z => Sl.dat (.str z)) (by decide +kernel))) (dv_fn1 F_law_measure (hr.mono (by decide)) (da_cons (dv_name 0 rfl (by nofun)) da_nil) ⟨nxt s 7, rfl, rfl, rfl, rfl⟩) (le64 (qlen1 (measF (nxt s 7))).2)) dv_str (le64 (qlen2 (measF (nxt s 7))).2)) (dv_fn1 F_law_place (hr.mono (by decide)) (da_cons (dv_name 0 rfl (by nofun)) (da_cons (dv_name 2 rfl (by nofun)) (da_cons (dv_add (dv_name 1 rfl (by nofun)) dv_int) da_nil))) ⟨nxt (nxt s 7) 6, many, (at' : Int) + 1, rfl, rfl, rfl, rfl, place_ne ⟨0, by omega, by omega⟩, h2⟩) (le64 (qlen3 (measF (nxt s 7)) _).2)) rfl))
          · have e : rowF s at' many = (.ifc (measF (nxt s 7)) (dF (placeN (nxt (nxt s 7) 6) many ((at' : Int) + 1))), placeS (nxt (nxt s 7) 6) many ((at' : Int) + 1)) := by unfold rowF; rw [if_neg g1, if_neg g2, if_pos g3, if_neg g4]
            rw [e]
            exact dxs_cons (ρ1 := [_, _, _, _, .dat (.str "c")]) (dx_set (i := 4) (dv_if (dt_is (k1 := false) (dt_cmp (dv_name 3 rfl (by nofun)) dv_int (c_eqI _ _)) (decide_eq_false g4)) (fun z => absurd z (by decide)) (fun _ => dv_str)) hN) (
              dxs_one (dx_retIs (dv_addS (dv_addS (dv_addS (dv_is (s1 := .dat (.str "if c < ")) (dv_addS (dv_addS dv_str (dv_name 4 rfl (by nofun)) (by decide)) dv_str (by decide)) (congrArg (fun z => Sl.dat (.str z)) (by decide +kernel))) (dv_fn1 F_law_measure (hr.mono (by decide)) (da_cons (dv_name 0 rfl (by nofun)) da_nil) ⟨nxt s 7, rfl, rfl, rfl, rfl⟩) (le64 (qlen1 (measF (nxt s 7))).1)) dv_str (le64 (qlen2 (measF (nxt s 7))).1)) (dv_fn1 F_law_place (hr.mono (by decide)) (da_cons (dv_name 0 rfl (by nofun)) (da_cons (dv_name 2 rfl (by nofun)) (da_cons (dv_add (dv_name 1 rfl (by nofun)) dv_int) da_nil))) ⟨nxt (nxt s 7) 6, many, (at' : Int) + 1, rfl, rfl, rfl, rfl, place_ne ⟨0, by omega, by omega⟩, h2⟩) (le64 (qlen3 (measF (nxt s 7)) _).1)) rfl))
        · have e : rowF s at' many = (lessX (pick (nxt s 7) [0, 1, 2, 3] 0) (measF (nxt (nxt s 7) 4)), nxt (nxt (nxt s 7) 4) 6) := by unfold rowF; rw [if_neg g1, if_neg g2, if_neg g3]
          rw [e]
          exact dxs_guard (dt_is (k1 := false) (dt_cmp (dv_name 3 rfl (by nofun)) dv_int (c_lt _ _)) (decide_eq_false g3)) (fun z => absurd z (by decide)) (fun _ =>
            dxs_one (dx_retIs (dv_addS (dv_fn1 F_law_of (hr.mono (by decide)) (da_cons (dv_name 0 rfl (by nofun)) (da_cons (dv_lst (dd_cons dv_str (dd_cons dv_str (dd_cons dv_str (dd_cons dv_str dd_nil))))) da_nil)) ⟨nxt s 7, [0, 1, 2, 3].map (fun k => PyData.str (lessT k)), .str (lessT (pick (nxt s 7) [0, 1, 2, 3] 0)), rfl, rfl, rfl, rfl, by simp, by decide, pick_map _ 0 (by simp)⟩) (dv_fn1 F_law_measure (hr.mono (by decide)) (da_cons (dv_name 0 rfl (by nofun)) da_nil) ⟨nxt (nxt s 7) 4, rfl, rfl, rfl, rfl⟩) (le64 (less_len _ _))) (congrArg (fun z => Sl.dat (.str z)) (less_txt _ _))))

end
end Dr
set_option maxHeartbeats 4000000
/-! M11: the bases, the rows drawn. -/
namespace Dr
open PySem PySem.Spec PyProof.Rows L2
def baseR (way : Int) (q : Qt) : List Row :=
  if way = 0 then [.ifv .n1 3, .ifc .n1 5, .lessB .n1, .take, .go 0, .giveC]
  else if way = 1 then [.ifv .n1 3, .ifc .n1 5, .again, .take, .go 0, .giveC]
  else if way = 2 then [.ifv q 4, .ifc .fit 6, .lessB .fit, .go 0, .take, .go 0, .giveR]
  else if way = 3 then [.ifv q 2, .giveR, .take, .go 0]
  else if way = 4 then [.take, .ifv q 0, .ifc .fit 5, .lessB .fit, .go 1, .giveR]
  else if way = 5 then [.ifv q 4, .ifc q 6, .lessB q, .go 0, .take, .go 0, .giveR]
  else if way = 6 then [.go 4, .take, .giveC, .lessB .n1, .ifv .n1 6, .ifc .n1 2, .ifv .n1 1, .go 3]
  else if way = 7 then [.ifv .n2 2, .go 4, .take, .go 0, .ifc .n1 6, .lessB .n1, .giveC]
  else [.ifv .n1 2, .giveC, .take, .go 0]
def bq (s : Spr) : Qt := pick (nxt s 9) [.n1, .n2, .n3, .n4] .n1
def baseF (s : Spr) : List Row × Spr := (baseR (drawF s 9).1 (bq s), nxt (nxt s 9) 4)
def okB (p : List Row) : Bool := decide (1 ≤ p.length) && decide (p.length ≤ 8) && (List.range p.length).all fun i => (p.getD i .take).okAt p.length i
theorem ok_of {p : List Row} (h : okB p = true) : okProg p := by
  unfold okB at h
  simp only [Bool.and_eq_true, decide_eq_true_eq, List.all_eq_true, List.mem_range] at h
  refine ⟨h.1.1, h.1.2, fun i r hr => ?_⟩
  have hi := (List.getElem?_eq_some_iff.mp hr).1
  have := h.2 i hi
  rw [List.getD_eq_getElem?_getD, hr] at this
  exact this
theorem bq_mem (s : Spr) : bq s = .n1 ∨ bq s = .n2 ∨ bq s = .n3 ∨ bq s = .n4 := by
  have := pick_in (s := nxt s 9) (l := [Qt.n1, .n2, .n3, .n4]) Qt.n1 (by simp)
  unfold bq
  simpa using this
def basesL : List (List Row) := (List.range 9).flatMap fun (w : Nat) => [Qt.n1, .n2, .n3, .n4].map fun q => baseR (w : Int) q
theorem base_mem (s : Spr) : (baseF s).1 ∈ basesL := by
  have hr := draw_rng s (n := 9) (by decide)
  unfold baseF
  generalize (drawF s 9).1 = w at hr
  refine List.mem_flatMap.mpr ⟨w.toNat, List.mem_range.mpr (by omega), List.mem_map.mpr ⟨bq s, ?_, ?_⟩⟩
  · rcases bq_mem s with h | h | h | h <;> rw [h] <;> simp
  · rw [show ((w.toNat : Nat) : Int) = w by omega]
theorem bases_ok : ∀ p, p ∈ basesL → okB p = true := by decide +kernel
/-- a small search, told of few steps -/
theorem bases_tame : ∀ p, p ∈ basesL → (bfs p 200000 first4 0).isSome = true := by decide +kernel
end Dr
set_option maxHeartbeats 4000000
namespace Dr
open PySem PySem.Spec PyProof.Rows L2
section
variable {P : Program} {w : World} {K : PySem.W.Frag} {mg : Str → Option Value} {base : Heap}
theorem nine {w : Int} (h : 0 ≤ w ∧ w < 9) : w = 0 ∨ w = 1 ∨ w = 2 ∨ w = 3 ∨ w = 4 ∨ w = 5 ∨ w = 6 ∨ w = 7 ∨ w = 8 := by omega

def C_law_base : Ctr := fun ss μ s' μ' => ∃ s : Spr, ss = [.own 0] ∧ μ = [.lst (spL s)] ∧ s' = .dat (.list (texts (baseF s).1)) ∧ μ' = [.lst (spL (baseF s).2)]
theorem sc_law_base : FnScope ["_law_spring_here", "_law_way", "_law_size_here", "_law_head"] ["_law_spring_here"] (defScope s_law_base) := ⟨rfl, rfl, rfl, by decide +kernel, rfl, by decide +kernel, by decide +kernel⟩
theorem ok_law_base {f : Addr} {fd : FuncData} (T : Tx mg K w) (F : Fun K "_law_base" "_law_base" s_law_base f fd) (hm : mg "_law_base" = some (.ref f)) (F_law_of : FnD P w K mg base "_law_of" 2 C_law_of) (F_law_draw : FnD P w K mg base "_law_draw" 1 C_law_draw) : FnD P w K mg base "_law_base" 3 C_law_base := by
  refine fnD F hm sc_law_base (fun _ _ _ _ _ _ us hl => match us, hl with | [_], _ => rfl) (fun ss μ s' μ' h => ?_) (fun cdv A outer s H E c hr ss μ s' μ' h hm0 => ?_)
  · obtain ⟨s, rfl, rfl, rfl, rfl⟩ := h; rfl
  · obtain ⟨s, rfl, rfl, rfl, rfl⟩ := h
    have hN := sc_law_base.nd
    have hu := hr.units
    have hw := nine (draw_rng s (n := 9) (by decide))
    have e : baseF s = (baseR (drawF s 9).1 (bq s), nxt (nxt s 9) 4) := rfl
    rw [e]
    refine dxs_cons (ρ1 := [.own 0, .dat (.int (drawF s 9).1), .dat (.str (bq s).txt), .no]) (μ1 := [.lst (spL (nxt (nxt s 9) 4))]) (dx_par2 (i := 1) (j := 2) rfl hN (da_cons (dv_fn1 F_law_draw (hr.mono (by decide)) (da_cons (dv_name 0 rfl (by nofun)) (da_cons dv_int da_nil)) ⟨s, 9, rfl, rfl, rfl, rfl, by decide, by decide⟩) (da_cons (dv_fn1 F_law_of (hr.mono (by decide)) (da_cons (dv_name 0 rfl (by nofun)) (da_cons (dv_lst (dd_cons dv_str (dd_cons dv_str (dd_cons dv_str (dd_cons dv_str dd_nil))))) da_nil)) ⟨nxt s 9, [Qt.n1, .n2, .n3, .n4].map (fun q => PyData.str q.txt), .str (bq s).txt, rfl, rfl, rfl, rfl, by simp, by simp, pick_map _ Qt.n1 (by simp)⟩) da_nil))) ?_
    generalize bq s = q
    generalize (drawF s 9).1 = w at *
    rcases hw with rfl | rfl | rfl | rfl | rfl | rfl | rfl | rfl | rfl
    · exact dxs_stop (dx_if (dt_cmp (dv_name 1 rfl (by nofun)) dv_int (c_eqI _ _)) (fun _ => dxs_one (dx_retIs (dv_lst (dd_cons dv_str (dd_cons dv_str (dd_cons dv_str (dd_cons dv_str (dd_cons dv_str (dd_cons dv_str dd_nil))))))) rfl)) (fun h => absurd h (by decide +kernel))) trivial
    · exact dxs_guard (dt_cmp (dv_name 1 rfl (by nofun)) dv_int (c_eqI _ _)) (fun h => absurd h (by first | decide +kernel | rfl)) (fun _ =>
        dxs_stop (dx_if (dt_cmp (dv_name 1 rfl (by nofun)) dv_int (c_eqI _ _)) (fun _ => dxs_one (dx_retIs (dv_lst (dd_cons dv_str (dd_cons dv_str (dd_cons dv_str (dd_cons dv_str (dd_cons dv_str (dd_cons dv_str dd_nil))))))) rfl)) (fun h => absurd h (by decide +kernel))) trivial)
    · exact dxs_guard (dt_cmp (dv_name 1 rfl (by nofun)) dv_int (c_eqI _ _)) (fun h => absurd h (by first | decide +kernel | rfl)) (fun _ =>
        dxs_guard (dt_cmp (dv_name 1 rfl (by nofun)) dv_int (c_eqI _ _)) (fun h => absurd h (by first | decide +kernel | rfl)) (fun _ =>
        dxs_stop (dx_if (dt_cmp (dv_name 1 rfl (by nofun)) dv_int (c_eqI _ _)) (fun _ => dxs_one (dx_retIs (dv_lst (dd_cons (dv_addS (dv_addS dv_str (dv_name 2 rfl (by nofun)) (by first | decide | (cases q <;> decide))) dv_str (by first | decide | (cases q <;> decide))) (dd_cons dv_str (dd_cons dv_str (dd_cons dv_str (dd_cons dv_str (dd_cons dv_str (dd_cons dv_str dd_nil)))))))) (by cases q <;> rfl))) (fun h => absurd h (by decide +kernel))) trivial))
    · exact dxs_guard (dt_cmp (dv_name 1 rfl (by nofun)) dv_int (c_eqI _ _)) (fun h => absurd h (by first | decide +kernel | rfl)) (fun _ =>
        dxs_guard (dt_cmp (dv_name 1 rfl (by nofun)) dv_int (c_eqI _ _)) (fun h => absurd h (by first | decide +kernel | rfl)) (fun _ =>
        dxs_guard (dt_cmp (dv_name 1 rfl (by nofun)) dv_int (c_eqI _ _)) (fun h => absurd h (by first | decide +kernel | rfl)) (fun _ =>
        dxs_stop (dx_if (dt_cmp (dv_name 1 rfl (by nofun)) dv_int (c_eqI _ _)) (fun _ => dxs_one (dx_retIs (dv_lst (dd_cons (dv_addS (dv_addS dv_str (dv_name 2 rfl (by nofun)) (by first | decide | (cases q <;> decide))) dv_str (by first | decide | (cases q <;> decide))) (dd_cons dv_str (dd_cons dv_str (dd_cons dv_str dd_nil))))) (by cases q <;> rfl))) (fun h => absurd h (by decide +kernel))) trivial)))
    · exact dxs_guard (dt_cmp (dv_name 1 rfl (by nofun)) dv_int (c_eqI _ _)) (fun h => absurd h (by first | decide +kernel | rfl)) (fun _ =>
        dxs_guard (dt_cmp (dv_name 1 rfl (by nofun)) dv_int (c_eqI _ _)) (fun h => absurd h (by first | decide +kernel | rfl)) (fun _ =>
        dxs_guard (dt_cmp (dv_name 1 rfl (by nofun)) dv_int (c_eqI _ _)) (fun h => absurd h (by first | decide +kernel | rfl)) (fun _ =>
        dxs_guard (dt_cmp (dv_name 1 rfl (by nofun)) dv_int (c_eqI _ _)) (fun h => absurd h (by first | decide +kernel | rfl)) (fun _ =>
        dxs_stop (dx_if (dt_cmp (dv_name 1 rfl (by nofun)) dv_int (c_eqI _ _)) (fun _ => dxs_one (dx_retIs (dv_lst (dd_cons dv_str (dd_cons (dv_addS (dv_addS dv_str (dv_name 2 rfl (by nofun)) (by first | decide | (cases q <;> decide))) dv_str (by first | decide | (cases q <;> decide))) (dd_cons dv_str (dd_cons dv_str (dd_cons dv_str (dd_cons dv_str dd_nil))))))) (by cases q <;> rfl))) (fun h => absurd h (by decide +kernel))) trivial))))
    · exact dxs_guard (dt_cmp (dv_name 1 rfl (by nofun)) dv_int (c_eqI _ _)) (fun h => absurd h (by first | decide +kernel | rfl)) (fun _ =>
        dxs_guard (dt_cmp (dv_name 1 rfl (by nofun)) dv_int (c_eqI _ _)) (fun h => absurd h (by first | decide +kernel | rfl)) (fun _ =>
        dxs_guard (dt_cmp (dv_name 1 rfl (by nofun)) dv_int (c_eqI _ _)) (fun h => absurd h (by first | decide +kernel | rfl)) (fun _ =>
        dxs_guard (dt_cmp (dv_name 1 rfl (by nofun)) dv_int (c_eqI _ _)) (fun h => absurd h (by first | decide +kernel | rfl)) (fun _ =>
        dxs_guard (dt_cmp (dv_name 1 rfl (by nofun)) dv_int (c_eqI _ _)) (fun h => absurd h (by first | decide +kernel | rfl)) (fun _ =>
        dxs_stop (dx_if (dt_cmp (dv_name 1 rfl (by nofun)) dv_int (c_eqI _ _)) (fun _ => dxs_cons (ρ1 := [_, _, _, _]) (dx_set (i := 3) (dv_lst (dd_cons (dv_addS (dv_addS dv_str (dv_name 2 rfl (by nofun)) (by first | decide | (cases q <;> decide))) dv_str (by first | decide | (cases q <;> decide))) (dd_cons (dv_addS (dv_addS dv_str (dv_name 2 rfl (by nofun)) (by first | decide | (cases q <;> decide))) dv_str (by first | decide | (cases q <;> decide))) (dd_cons (dv_addS dv_str (dv_name 2 rfl (by nofun)) (by first | decide | (cases q <;> decide))) dd_nil)))) hN) (
          dxs_one (dx_retIs (dv_cat (dv_name 3 rfl (by nofun)) (dv_lst (dd_cons dv_str (dd_cons dv_str (dd_cons dv_str (dd_cons dv_str dd_nil))))) (by first | decide | exact Nat.le_trans (Nat.le_of_ble_eq_true rfl) (show 64 ≤ sizeLine by decide))) (by cases q <;> rfl)))) (fun h => absurd h (by decide +kernel))) trivial)))))
    · exact dxs_guard (dt_cmp (dv_name 1 rfl (by nofun)) dv_int (c_eqI _ _)) (fun h => absurd h (by first | decide +kernel | rfl)) (fun _ =>
        dxs_guard (dt_cmp (dv_name 1 rfl (by nofun)) dv_int (c_eqI _ _)) (fun h => absurd h (by first | decide +kernel | rfl)) (fun _ =>
        dxs_guard (dt_cmp (dv_name 1 rfl (by nofun)) dv_int (c_eqI _ _)) (fun h => absurd h (by first | decide +kernel | rfl)) (fun _ =>
        dxs_guard (dt_cmp (dv_name 1 rfl (by nofun)) dv_int (c_eqI _ _)) (fun h => absurd h (by first | decide +kernel | rfl)) (fun _ =>
        dxs_guard (dt_cmp (dv_name 1 rfl (by nofun)) dv_int (c_eqI _ _)) (fun h => absurd h (by first | decide +kernel | rfl)) (fun _ =>
        dxs_guard (dt_cmp (dv_name 1 rfl (by nofun)) dv_int (c_eqI _ _)) (fun h => absurd h (by first | decide +kernel | rfl)) (fun _ =>
        dxs_stop (dx_if (dt_cmp (dv_name 1 rfl (by nofun)) dv_int (c_eqI _ _)) (fun _ => dxs_one (dx_retIs (dv_lst (dd_cons dv_str (dd_cons dv_str (dd_cons dv_str (dd_cons dv_str (dd_cons dv_str (dd_cons dv_str (dd_cons dv_str (dd_cons dv_str dd_nil))))))))) rfl)) (fun h => absurd h (by decide +kernel))) trivial))))))
    · exact dxs_guard (dt_cmp (dv_name 1 rfl (by nofun)) dv_int (c_eqI _ _)) (fun h => absurd h (by first | decide +kernel | rfl)) (fun _ =>
        dxs_guard (dt_cmp (dv_name 1 rfl (by nofun)) dv_int (c_eqI _ _)) (fun h => absurd h (by first | decide +kernel | rfl)) (fun _ =>
        dxs_guard (dt_cmp (dv_name 1 rfl (by nofun)) dv_int (c_eqI _ _)) (fun h => absurd h (by first | decide +kernel | rfl)) (fun _ =>
        dxs_guard (dt_cmp (dv_name 1 rfl (by nofun)) dv_int (c_eqI _ _)) (fun h => absurd h (by first | decide +kernel | rfl)) (fun _ =>
        dxs_guard (dt_cmp (dv_name 1 rfl (by nofun)) dv_int (c_eqI _ _)) (fun h => absurd h (by first | decide +kernel | rfl)) (fun _ =>
        dxs_guard (dt_cmp (dv_name 1 rfl (by nofun)) dv_int (c_eqI _ _)) (fun h => absurd h (by first | decide +kernel | rfl)) (fun _ =>
        dxs_guard (dt_cmp (dv_name 1 rfl (by nofun)) dv_int (c_eqI _ _)) (fun h => absurd h (by first | decide +kernel | rfl)) (fun _ =>
        dxs_stop (dx_if (dt_cmp (dv_name 1 rfl (by nofun)) dv_int (c_eqI _ _)) (fun _ => dxs_one (dx_retIs (dv_lst (dd_cons dv_str (dd_cons dv_str (dd_cons dv_str (dd_cons dv_str (dd_cons dv_str (dd_cons dv_str (dd_cons dv_str dd_nil)))))))) rfl)) (fun h => absurd h (by decide +kernel))) trivial)))))))
    · exact dxs_guard (dt_cmp (dv_name 1 rfl (by nofun)) dv_int (c_eqI _ _)) (fun h => absurd h (by first | decide +kernel | rfl)) (fun _ =>
        dxs_guard (dt_cmp (dv_name 1 rfl (by nofun)) dv_int (c_eqI _ _)) (fun h => absurd h (by first | decide +kernel | rfl)) (fun _ =>
        dxs_guard (dt_cmp (dv_name 1 rfl (by nofun)) dv_int (c_eqI _ _)) (fun h => absurd h (by first | decide +kernel | rfl)) (fun _ =>
        dxs_guard (dt_cmp (dv_name 1 rfl (by nofun)) dv_int (c_eqI _ _)) (fun h => absurd h (by first | decide +kernel | rfl)) (fun _ =>
        dxs_guard (dt_cmp (dv_name 1 rfl (by nofun)) dv_int (c_eqI _ _)) (fun h => absurd h (by first | decide +kernel | rfl)) (fun _ =>
        dxs_guard (dt_cmp (dv_name 1 rfl (by nofun)) dv_int (c_eqI _ _)) (fun h => absurd h (by first | decide +kernel | rfl)) (fun _ =>
        dxs_guard (dt_cmp (dv_name 1 rfl (by nofun)) dv_int (c_eqI _ _)) (fun h => absurd h (by first | decide +kernel | rfl)) (fun _ =>
        dxs_guard (dt_cmp (dv_name 1 rfl (by nofun)) dv_int (c_eqI _ _)) (fun h => absurd h (by first | decide +kernel | rfl)) (fun _ =>
        dxs_one (dx_retIs (dv_lst (dd_cons dv_str (dd_cons dv_str (dd_cons dv_str (dd_cons dv_str dd_nil))))) rfl)))))))))

end
end Dr
set_option maxHeartbeats 4000000
/-! M12: the rows of a program, drawn. -/
namespace Dr
open PySem PySem.Spec PyProof.Rows L2
def rowsI (s : Spr) (many : Nat) : Nat → List Row × Spr
  | 0 => ([], s)
  | n + 1 => ((rowsI s many n).1 ++ [(rowF (rowsI s many n).2 n many).1], (rowF (rowsI s many n).2 n many).2)
def mutF (ls : List Row × Spr) : List Row × Spr :=
  (ls.1.set (drawF ls.2 ls.1.length).1.toNat (rowF (nxt ls.2 ls.1.length) (drawF ls.2 ls.1.length).1.toNat ls.1.length).1, (rowF (nxt ls.2 ls.1.length) (drawF ls.2 ls.1.length).1.toNat ls.1.length).2)
def mutN : Nat → List Row × Spr → List Row × Spr
  | 0, ls => ls
  | n + 1, ls => mutF (mutN n ls)
def rowsF (s : Spr) : List Row × Spr :=
  if (drawF s 7).1 = 0 then rowsI (nxt (nxt s 7) 8) (1 + (drawF (nxt s 7) 8).1).toNat (1 + (drawF (nxt s 7) 8).1).toNat
  else mutN (pick (baseF (nxt s 7)).2 [0, 1, 1, 2] 0) ((baseF (nxt s 7)).1, nxt (baseF (nxt s 7)).2 4)
theorem rowsI_len (s : Spr) (many : Nat) : ∀ n, (rowsI s many n).1.length = n
  | 0 => rfl
  | n + 1 => by show ((rowsI s many n).1 ++ _).length = _; rw [List.length_append, rowsI_len s many n]; rfl
theorem rowsI_ok (s : Spr) {many : Nat} (h8 : many ≤ 8) : ∀ n, n ≤ many → ∀ (i : Nat) (r : Row), (rowsI s many n).1[i]? = some r → r.okAt many i = true
  | 0, _, i, r, h => by cases h
  | n + 1, hn, i, r, h => by
    have h : ((rowsI s many n).1 ++ [(rowF (rowsI s many n).2 n many).1])[i]? = some r := h
    have hl := rowsI_len s many n
    by_cases hi : i < n
    · rw [List.getElem?_append_left (by omega)] at h
      exact rowsI_ok s h8 n (by omega) i r h
    · have hi2 : i = n := by
        have := (List.getElem?_eq_some_iff.mp h).1
        rw [List.length_append, hl] at this
        have : i < n + 1 := this
        omega
      subst hi2
      rw [List.getElem?_append_right (by omega), hl, Nat.sub_self] at h
      cases h
      exact row_ok _ (by omega) h8
theorem mut_ok {ls : List Row × Spr} (h : okProg ls.1) : okProg (mutF ls).1 ∧ (mutF ls).1.length = ls.1.length := by
  have hd := draw_rng ls.2 (n := (ls.1.length : Int)) (by have := h.1; omega)
  have hl : (mutF ls).1.length = ls.1.length := List.length_set
  refine ⟨⟨by rw [hl]; exact h.1, by rw [hl]; exact h.2.1, fun i r hr => ?_⟩, hl⟩
  rw [hl]
  have hr : (ls.1.set (drawF ls.2 ls.1.length).1.toNat (rowF (nxt ls.2 ls.1.length) (drawF ls.2 ls.1.length).1.toNat ls.1.length).1)[i]? = some r := hr
  by_cases e : (drawF ls.2 ls.1.length).1.toNat = i
  · subst e
    rw [List.getElem?_set_self (by omega)] at hr
    cases hr
    exact row_ok _ (by omega) h.2.1
  · rw [List.getElem?_set_ne e] at hr
    exact h.2.2 i r hr
theorem mutN_ok : ∀ (n : Nat) {ls : List Row × Spr}, okProg ls.1 → okProg (mutN n ls).1
  | 0, _, h => h
  | n + 1, _, h => (mut_ok (mutN_ok n h)).1
theorem base_okP (s : Spr) : okProg (baseF s).1 := ok_of (bases_ok _ (base_mem s))
theorem rows_ok (s : Spr) : okProg (rowsF s).1 := by
  unfold rowsF
  split
  · have hd := draw_rng (nxt s 7) (n := 8) (by decide)
    have hl := rowsI_len (nxt (nxt s 7) 8) (1 + (drawF (nxt s 7) 8).1).toNat (1 + (drawF (nxt s 7) 8).1).toNat
    refine ⟨by rw [hl]; omega, by rw [hl]; omega, fun i r hr => ?_⟩
    rw [hl]
    exact rowsI_ok _ (by omega) _ (Nat.le_refl _) i r hr
  · exact mutN_ok _ (base_okP _)
/-- rows that are tame, at most n tries -/
def tameF : Nat → Spr → List Row × Spr
  | 0, s => baseF s
  | n + 1, s => if (bfs (rowsF s).1 200000 first4 0).isSome = true then rowsF s else tameF n (rowsF s).2
theorem tame_ok : ∀ (n : Nat) (s : Spr), okProg (tameF n s).1 ∧ (bfs (tameF n s).1 200000 first4 0).isSome = true
  | 0, s => ⟨base_okP s, bases_tame _ (base_mem s)⟩
  | n + 1, s => by
    unfold tameF
    split
    · exact ⟨rows_ok s, by assumption⟩
    · exact tame_ok n _
theorem tame_srch (n : Nat) (s : Spr) : ∃ l, Srch (tameF n s).1 l := by
  obtain ⟨h1, h2⟩ := tame_ok n s
  obtain ⟨l, hl⟩ := Option.isSome_iff_exists.mp h2
  exact ⟨l, srch_of h1 hl⟩
end Dr
set_option maxHeartbeats 4000000
namespace Dr
open PySem PySem.Spec PyProof.Rows L2
section
variable {P : Program} {w : World} {K : PySem.W.Frag} {mg : Str → Option Value} {base : Heap}
theorem cut_lo (l : List PyData) (k : Nat) : cutD l none (some (k : Int)) = l.take k := by
  unfold cutD
  rw [HT.sIx_none, HT.sIx_nat, List.drop_zero, Nat.sub_zero, List.take_eq_take_iff]; omega
theorem cut_hi (l : List PyData) (k : Nat) (h : k ≤ l.length) : cutD l (some (k : Int)) none = l.drop k := by
  unfold cutD
  rw [HT.sIx_none, HT.sIx_nat, Nat.min_eq_left h]
  exact List.take_of_length_le (by rw [List.length_drop]; omega)
theorem texts_set (l : List Row) (k : Nat) (r : Row) (h : k < l.length) : (texts l).take k ++ [PyData.str r.txt] ++ (texts l).drop (k + 1) = texts (l.set k r) := by
  unfold texts
  rw [List.map_set, List.set_eq_take_append_cons_drop, if_pos (by rw [List.length_map]; exact h), List.append_assoc]; rfl

def C_law_rows : Ctr := fun ss μ s' μ' => ∃ s : Spr, ss = [.own 0] ∧ μ = [.lst (spL s)] ∧ s' = .dat (.list (texts (rowsF s).1)) ∧ μ' = [.lst (spL (rowsF s).2)]
theorem sc_law_rows : FnScope ["_law_spring_here", "_law_many", "_law_at", "_law_lines", "_law_k"] ["_law_spring_here"] (defScope s_law_rows) := ⟨rfl, rfl, rfl, by decide +kernel, rfl, by decide +kernel, by decide +kernel⟩
theorem ok_law_rows {f : Addr} {fd : FuncData} (T : Tx mg K w) (F : Fun K "_law_rows" "_law_rows" s_law_rows f fd) (hm : mg "_law_rows" = some (.ref f)) (F_law_of : FnD P w K mg base "_law_of" 2 C_law_of) (F_law_draw : FnD P w K mg base "_law_draw" 1 C_law_draw) (F_law_row : FnD P w K mg base "_law_row" 4 C_law_row) (F_law_base : FnD P w K mg base "_law_base" 3 C_law_base) : FnD P w K mg base "_law_rows" 5 C_law_rows := by
  refine fnD F hm sc_law_rows (fun _ _ _ _ _ _ us hl => match us, hl with | [_], _ => rfl) (fun ss μ s' μ' h => ?_) (fun cdv A outer s H E c hr ss μ s' μ' h hm0 => ?_)
  · obtain ⟨s, rfl, rfl, rfl, rfl⟩ := h; rfl
  · obtain ⟨s, rfl, rfl, rfl, rfl⟩ := h
    have hN := sc_law_rows.nd
    have hu := hr.units
    refine dxs_guard (dt_cmp (dv_fn1 F_law_draw (hr.mono (by decide)) (da_cons (dv_name 0 rfl (by nofun)) (da_cons dv_int da_nil)) ⟨s, 7, rfl, rfl, rfl, rfl, by decide, by decide⟩) dv_int (c_eqI _ _)) (fun z => ⟨?_, trivial⟩) (fun z => ?_)
    · have g := of_decide_eq_true z
      have e : rowsF s = rowsI (nxt (nxt s 7) 8) (1 + (drawF (nxt s 7) 8).1).toNat (1 + (drawF (nxt s 7) 8).1).toNat := if_pos g
      rw [e]
      have hd := draw_rng (nxt s 7) (n := 8) (by decide)
      have hmany : (1 + (drawF (nxt s 7) 8).1) = (((1 + (drawF (nxt s 7) 8).1).toNat : Nat) : Int) := by omega
      have h8 : (1 + (drawF (nxt s 7) 8).1).toNat ≤ 8 := by omega
      refine dxs_cons (ρ1 := [.own 0, .dat (.int (((1 + (drawF (nxt s 7) 8).1).toNat : Nat) : Int)), .no, .no, .no]) (μ1 := [.lst (spL (nxt (nxt s 7) 8))]) (dx_set (i := 1) (dv_is (dv_add dv_int (dv_fn1 F_law_draw (hr.mono (by decide)) (da_cons (dv_name 0 rfl (by nofun)) (da_cons dv_int da_nil)) ⟨nxt s 7, 8, rfl, rfl, rfl, rfl, by decide, by decide⟩)) (congrArg (fun z => Sl.dat (.int z)) hmany)) hN) ?_
      generalize (1 + (drawF (nxt s 7) 8).1).toNat = many at *
      generalize nxt (nxt s 7) 8 = s2 at *
      exact dxs_one (dx_retIs (dv_lc (i := 2) (acce := texts (rowsI s2 many many).1) (μe := [.lst (spL (rowsI s2 many many).2)]) (fun n acc μ' => n ≤ many ∧ acc = texts (rowsI s2 many n).1 ∧ μ' = [.lst (spL (rowsI s2 many n).2)]) rfl hN (blk_of (by rfl)) (di_rng1 T.range (dv_name 1 rfl (by nofun)) ⟨by omega, by omega⟩) (small_lt (by rw [rng_len]; omega)) ⟨Nat.zero_le _, rfl, rfl⟩ (fun _ _ _ _ => trivial)
        (fun n acc μ' h => by rw [h.2.1, texts_len, rowsI_len]; exact Nat.le_refl _)
        (fun n d acc μ' hd h => by
          obtain ⟨h1, rfl, rfl⟩ := h
          obtain ⟨hn, rfl⟩ := rng_at.mp hd
          have hat : (0 : Int) + (n : Int) = (n : Int) := by omega
          rw [hat]
          have hnm : n < many := by omega
          exact ⟨true, _, ⟨rfl, rfl⟩, fun _ => ⟨.str (rowF (rowsI s2 many n).2 n many).1.txt, [.lst (spL (rowF (rowsI s2 many n).2 n many).2)], fun c2 s0 H0 C cl fp => dv_fn1 F_law_row (hr.mono (by decide)) (da_cons (dv_name 0 rfl (by nofun)) (da_cons (dv_name 2 rfl (by nofun)) (da_cons (dv_name 1 rfl (by nofun)) da_nil))) ⟨_, n, many, rfl, rfl, rfl, rfl, hnm, h8⟩, hnm, by show _ = texts ((rowsI s2 many n).1 ++ [(rowF (rowsI s2 many n).2 n many).1]); unfold texts; rw [List.map_append]; rfl, rfl⟩, fun z => by cases z⟩)
        (fun acc μ' h => by
          obtain ⟨_, rfl, rfl⟩ := h
          have er : (rng 0 ((many : Int)).toNat).length = many := by rw [rng_len]; rfl
          rw [er]
          exact ⟨rfl, rfl⟩) (fun _ _ _ _ _ => pg_name hN rfl (Or.inl rfl)) (by decide)) rfl)
    · have g := of_decide_eq_false z
      have e : rowsF s = mutN (pick (baseF (nxt s 7)).2 [0, 1, 1, 2] 0) ((baseF (nxt s 7)).1, nxt (baseF (nxt s 7)).2 4) := if_neg g
      rw [e]
      have hb := base_okP (nxt s 7)
      have hk2 : pick (baseF (nxt s 7)).2 [0, 1, 1, 2] 0 ≤ 2 := by
        have := pick_in (s := (baseF (nxt s 7)).2) (l := [0, 1, 1, 2]) 0 (by simp)
        simp at this
        omega
      refine dxs_cons (ρ1 := [_, _, _, _, .no]) (μ1 := [.lst (spL (baseF (nxt s 7)).2)]) (dx_set (i := 3) (dv_fn1 F_law_base (hr.mono (by decide)) (da_cons (dv_name 0 rfl (by nofun)) da_nil) ⟨nxt s 7, rfl, rfl, rfl, rfl⟩) hN) ?_
      have hpk := pick_map (s := (baseF (nxt s 7)).2) (l := [0, 1, 1, 2]) (fun k => PyData.int (k : Nat)) 0 (by simp)
      generalize baseF (nxt s 7) = B at *
      generalize pick B.2 [0, 1, 1, 2] 0 = k at *
      exact dxs_cons (ρ1 := [.own 0, .no, .no, .dat (.list (texts (mutN k (B.1, nxt B.2 4)).1)), .no]) (μ1 := [.lst (spL (mutN k (B.1, nxt B.2 4)).2)]) (dx_fg (ρ1 := [.own 0, .no, .no, .dat (.list (texts (mutN k (B.1, nxt B.2 4)).1)), .no]) (dx_for rfl PassesOwn.never (di_rng1 T.range (dv_fn1 F_law_of (hr.mono (by decide)) (da_cons (dv_name 0 rfl (by nofun)) (da_cons (dv_lst (dd_cons dv_int (dd_cons dv_int (dd_cons dv_int (dd_cons dv_int dd_nil))))) da_nil)) ⟨B.2, [0, 1, 1, 2].map (fun k => PyData.int (k : Nat)), .int (k : Nat), rfl, rfl, rfl, rfl, by simp, by simp, hpk⟩) ⟨by omega, by omega⟩)
        (fun n ρ μ => ρ = [.own 0, .no, .no, .dat (.list (texts (mutN n (B.1, nxt B.2 4)).1)), .no] ∧ μ = [.lst (spL (mutN n (B.1, nxt B.2 4)).2)]) ⟨rfl, rfl⟩ (fun _ _ _ _ => trivial)
        (fun n d ρ1 μ' hd h => by
          obtain ⟨rfl, rfl⟩ := h
          have ho : okProg (mutN n (B.1, nxt B.2 4)).1 := mutN_ok n hb
          have es : mutN (n + 1) (B.1, nxt B.2 4) = mutF (mutN n (B.1, nxt B.2 4)) := rfl
          rw [es]
          generalize mutN n (B.1, nxt B.2 4) = ls at *
          have hl : (((texts ls.1).length : Nat) : Int) = (ls.1.length : Int) := by rw [texts_len]
          have hlp := ho.1
          have hl8 := ho.2.1
          have hd2 := draw_rng ls.2 (n := (ls.1.length : Int)) (by omega)
          have hat : (drawF ls.2 ls.1.length).1 = (((drawF ls.2 ls.1.length).1.toNat : Nat) : Int) := by omega
          have hmf : mutF ls = (ls.1.set (drawF ls.2 ls.1.length).1.toNat (rowF (nxt ls.2 ls.1.length) (drawF ls.2 ls.1.length).1.toNat ls.1.length).1, (rowF (nxt ls.2 ls.1.length) (drawF ls.2 ls.1.length).1.toNat ls.1.length).2) := rfl
          have halt : (drawF ls.2 ls.1.length).1.toNat < ls.1.length := by omega
          rw [hmf]
          obtain ⟨_, rfl⟩ := rng_at.mp hd
          refine ⟨[.own 0, .no, .no, .dat (.list (texts ls.1)), .dat (.int (0 + (n : Int)))], .nx [.own 0, .no, .dat (.int (((drawF ls.2 ls.1.length).1.toNat : Nat) : Int)), .dat (.list (texts (ls.1.set (drawF ls.2 ls.1.length).1.toNat (rowF (nxt ls.2 ls.1.length) (drawF ls.2 ls.1.length).1.toNat ls.1.length).1))), .dat (.int (0 + (n : Int)))] _, dg_name (i := 4) hN, ?_, [_, _, .no, _, .no], ⟨.inr rfl, .inr rfl, .inl rfl, .inr rfl, .inl rfl, trivial⟩, rfl, rfl⟩
          refine dxs_cons (ρ1 := [.own 0, .no, .dat (.int (((drawF ls.2 ls.1.length).1.toNat : Nat) : Int)), .dat (.list (texts ls.1)), .dat (.int (0 + (n : Int)))]) (μ1 := [.lst (spL (nxt ls.2 ls.1.length))]) (dx_set (i := 2) (dv_is (dv_fn1 F_law_draw (hr.mono (by decide)) (da_cons (dv_name 0 rfl (by nofun)) (da_cons (dv_is (s1 := .dat (.int (ls.1.length : Int))) (dv_lenL T.len (dv_name 3 rfl (by nofun))) (by rw [hl])) da_nil)) ⟨ls.2, (ls.1.length : Int), rfl, rfl, rfl, rfl, by omega, by omega⟩) (congrArg (fun z => Sl.dat (.int z)) hat)) hN) ?_
          generalize (drawF ls.2 ls.1.length).1.toNat = a at *
          have htl := texts_len ls.1
          refine dxs_one (dx_set (i := 3) (dv_is (dv_cat (dv_cat (dv_slL (dv_name 3 rfl (by nofun)) do_none (do_some (dv_name 2 rfl (by nofun)))) (dv_lst (dd_cons (dv_fn1 F_law_row (hr.mono (by decide)) (da_cons (dv_name 0 rfl (by nofun)) (da_cons (dv_name 2 rfl (by nofun)) (da_cons (dv_is (s1 := .dat (.int (ls.1.length : Int))) (dv_lenL T.len (dv_name 3 rfl (by nofun))) (by rw [hl])) da_nil))) ⟨nxt ls.2 ls.1.length, a, ls.1.length, rfl, rfl, rfl, rfl, halt, hl8⟩) dd_nil)) ?_) (dv_slL (dv_name 3 rfl (by nofun)) (do_some (dv_add (dv_name 2 rfl (by nofun)) dv_int)) do_none) ?_) ?_) hN)
          · rw [cut_lo, List.length_take]
            exact Nat.le_of_lt (small_lt (by simp only [List.length_cons, List.length_nil]; omega))
          · rw [cut_lo, show ((a : Int) + 1) = ((a + 1 : Nat) : Int) from rfl, cut_hi _ _ (by omega), List.length_append, List.length_take, List.length_drop]
            exact Nat.le_of_lt (small_lt (by simp only [List.length_cons, List.length_nil]; omega))
          · rw [cut_lo, show ((a : Int) + 1) = ((a + 1 : Nat) : Int) from rfl, cut_hi _ _ (by omega), texts_set _ _ _ halt])
        (fun ρ1 μ' h => by
          obtain ⟨rfl, rfl⟩ := h
          have er : (rng 0 ((k : Int)).toNat).length = k := by rw [rng_len]; rfl
          rw [er]
          exact ⟨_, Fg.refl _, rfl⟩)) ⟨.inr rfl, .inr rfl, .inr rfl, .inr rfl, .inr rfl, trivial⟩) (
        dxs_one (dx_retIs (dv_name 3 rfl (by nofun)) rfl))

end
end Dr
set_option maxHeartbeats 4000000
namespace Dr
open PySem PySem.Spec PyProof.Rows L2
section
variable {P : Program} {w : World} {K : PySem.W.Frag} {mg : Str → Option Value} {base : Heap}
theorem plain_st : ∀ (l : List Stt), PyData.plainAll (l.map encS) = true
  | [] => by simp [PyData.plainAll]
  | s :: l => by rw [List.map_cons]; simp only [PyData.plainAll, encS, PyData.plain, plain_st l, Bool.and_true, Bool.true_and]
def sprN (s : Spr) : Nat → Spr
  | 0 => s
  | n + 1 => (rowsF (sprN s n)).2
def tameB (s : Spr) : Bool := (bfs (rowsF s).1 200000 first4 0).isSome
theorem tame_hit {s : Spr} (h : tameB s = true) (k : Nat) : tameF (k + 1) s = rowsF s := if_pos h
theorem tame_miss {s : Spr} (h : tameB s = false) (k : Nat) : tameF (k + 1) s = tameF k (rowsF s).2 := if_neg (by unfold tameB at h; rw [h]; decide)
def C_law_tame_rows : Ctr := fun ss μ s' μ' => ∃ s : Spr, ss = [.own 0] ∧ μ = [.lst (spL s)] ∧ s' = .dat (.list (texts (tameF 6 s).1)) ∧ μ' = [.lst (spL (tameF 6 s).2)]
theorem sc_law_tame_rows : FnScope ["_law_spring_here", "_law_k", "_law_lines"] ["_law_spring_here"] (defScope s_law_tame_rows) := ⟨rfl, rfl, rfl, by decide +kernel, rfl, by decide +kernel, by decide +kernel⟩
theorem ok_law_tame_rows {f : Addr} {fd : FuncData} (T : Tx mg K w) (F : Fun K "_law_tame_rows" "_law_tame_rows" s_law_tame_rows f fd) (hm : mg "_law_tame_rows" = some (.ref f)) (F_law_rows : FnD P w K mg base "_law_rows" 5 C_law_rows) (F_law_states : FnD P w K mg base "_law_states" 2 C_law_states) (F_law_base : FnD P w K mg base "_law_base" 3 C_law_base) : FnD P w K mg base "_law_tame_rows" 6 C_law_tame_rows := by
  refine fnD F hm sc_law_tame_rows (fun _ _ _ _ _ _ us hl => match us, hl with | [_], _ => rfl) (fun ss μ s' μ' h => ?_) (fun cdv A outer s H E c hr ss μ s' μ' h hm0 => ?_)
  · obtain ⟨s, rfl, rfl, rfl, rfl⟩ := h; rfl
  · obtain ⟨s, rfl, rfl, rfl, rfl⟩ := h
    have hu := hr.units
    have hN := sc_law_tame_rows.nd
    have post : ∀ {st : Stmt} {sts : List Stmt} {X : Cx}, (((∃ n, n < 6 ∧ tameB (sprN s n) = true) → dX X c st [.own 0, .no, .no] [.lst (spL s)] (.rt (.dat (.list (texts (tameF 6 s).1))) [.lst (spL (tameF 6 s).2)])) ∧
        ((∀ n, n < 6 → tameB (sprN s n) = false) → dX X c st [.own 0, .no, .no] [.lst (spL s)] (.nx [.own 0, .no, .no] [.lst (spL (sprN s 6))]))) →
        ((tameF 6 s = baseF (sprN s 6)) → dXs X c sts [.own 0, .no, .no] [.lst (spL (sprN s 6))] (.rt (.dat (.list (texts (tameF 6 s).1))) [.lst (spL (tameF 6 s).2)])) →
        dXs X c (st :: sts) [.own 0, .no, .no] [.lst (spL s)] (.rt (.dat (.list (texts (tameF 6 s).1))) [.lst (spL (tameF 6 s).2)]) := by
      intro st sts X h1 h2
      by_cases h : ∃ n, n < 6 ∧ tameB (sprN s n) = true
      · exact dxs_stop (h1.1 h) trivial
      · have h' : ∀ n, n < 6 → tameB (sprN s n) = false := fun n hn => by
          cases e : tameB (sprN s n) with
          | false => rfl
          | true => exact absurd ⟨n, hn, e⟩ h
        refine dxs_cons (h1.2 h') (h2 ?_)
        exact ((tame_miss (s := sprN s 0) (h' 0 (by decide)) 5).trans ((tame_miss (s := sprN s 1) (h' 1 (by decide)) 4).trans ((tame_miss (s := sprN s 2) (h' 2 (by decide)) 3).trans ((tame_miss (s := sprN s 3) (h' 3 (by decide)) 2).trans ((tame_miss (s := sprN s 4) (h' 4 (by decide)) 1).trans ((tame_miss (s := sprN s 5) (h' 5 (by decide)) 0)))))))
    refine post ⟨fun hex => ?_, fun hno => ?_⟩ (fun he => dxs_one (dx_retIs (dv_fn1 F_law_base (hr.mono (by decide)) (da_cons (dv_name 0 rfl (by nofun)) da_nil) ⟨sprN s 6, rfl, rfl, by rw [he], by rw [he]⟩) rfl))
    · exact dx_for rfl PassesOwn.never (di_rng1 T.range dv_int ⟨by decide, by decide⟩)
        (fun n ρ μ => ρ = [.own 0, .no, .no] ∧ μ = [.lst (spL (sprN s n))] ∧ n ≤ 6 ∧ tameF (6 - n) (sprN s n) = tameF 6 s ∧ ∀ m, m < n → tameB (sprN s m) = false) ⟨rfl, rfl, Nat.zero_le _, rfl, fun m h => absurd h (Nat.not_lt_zero _)⟩ (fun _ _ _ _ => trivial)
        (fun n d ρ1 μ' hd h => by
          obtain ⟨rfl, rfl, hn6, ht, hm⟩ := h
          obtain ⟨hn, rfl⟩ := rng_at.mp hd
          have h6 : (6 : Int).toNat = 6 := rfl
          have e6 : 6 - n = (6 - (n + 1)) + 1 := by omega
          have hms : ∀ m, m < n + 1 → tameB (sprN s n) = false → tameB (sprN s m) = false := fun m hm2 hf => by
            by_cases e : m = n
            · rw [e]; exact hf
            · exact hm m (by omega)
          have hs1 : sprN s (n + 1) = (rowsF (sprN s n)).2 := rfl
          rw [hs1]
          rw [e6] at ht
          generalize sprN s n = t at *
          have hok := rows_ok t
          cases hb : bfs (rowsF t).1 200000 first4 0 with
          | none =>
            have hf : tameB t = false := by unfold tameB; rw [hb]; rfl
            rw [tame_miss hf] at ht
            have hst : statesD (rowsF t).1 = .list [.list [], .list []] := by unfold statesD; rw [hb]
            refine ⟨[.own 0, .dat (.int (0 + (n : Int))), .no], .nx [.own 0, .dat (.int (0 + (n : Int))), .dat (.list (texts (rowsF t).1))] [.lst (spL (rowsF t).2)], dg_name (i := 1) hN, ?_, [_, .no, .no], ⟨.inr rfl, .inl rfl, .inl rfl, trivial⟩, rfl, rfl, by omega, ht, fun m hm2 => hms m hm2 hf⟩
            exact dxs_cons (ρ1 := [_, _, _]) (dx_set (i := 2) (dv_fn1 F_law_rows (hr.mono (by decide)) (da_cons (dv_name 0 rfl (by nofun)) da_nil) ⟨t, rfl, rfl, rfl, rfl⟩) hN) (
              dxs_one (dx_if (dt_is (k1 := false) (dt_cmp (dv_ixL (dv_is (s1 := .dat (.list [.list [], .list []])) (dv_fn F_law_states (hr.mono (by decide)) (da_cons (dv_name 2 rfl (by nofun)) da_nil) ⟨_, hok, rfl, rfl, rfl, rfl⟩) (congrArg Sl.dat hst)) dv_int rfl) (dv_lst dd_nil) (c_neD hu _ _ rfl rfl (by decide))) (by decide +kernel)) (fun z => absurd z (by decide)) (fun _ => dxs_nil)))
          | some l =>
            have hf : tameB t = true := by unfold tameB; rw [hb]; rfl
            rw [tame_hit hf] at ht
            have hst : statesD (rowsF t).1 = .list [.list (l.map encS), .list ((deps (rowsF t).1).map PyData.int)] := by unfold statesD; rw [hb]
            have hne : l ≠ [] := fun z => by
              have := (srch_of hok hb).f4 ⟨0, 0, 1, false, 1, false⟩ (by decide)
              rw [z] at this; cases this
            refine ⟨[.own 0, .dat (.int (0 + (n : Int))), .no], .rt (.dat (.list (texts (rowsF t).1))) [.lst (spL (rowsF t).2)], dg_name (i := 1) hN, ?_, by rw [ht]; exact rfl⟩
            exact dxs_cons (ρ1 := [_, _, _]) (dx_set (i := 2) (dv_fn1 F_law_rows (hr.mono (by decide)) (da_cons (dv_name 0 rfl (by nofun)) da_nil) ⟨t, rfl, rfl, rfl, rfl⟩) hN) (
              dxs_one (dx_if (dt_is (k1 := true) (dt_cmp (dv_ixL (dv_is (s1 := .dat (.list [.list (l.map encS), .list ((deps (rowsF t).1).map PyData.int)])) (dv_fn F_law_states (hr.mono (by decide)) (da_cons (dv_name 2 rfl (by nofun)) da_nil) ⟨_, hok, rfl, rfl, rfl, rfl⟩) (congrArg Sl.dat hst)) dv_int rfl) (dv_lst dd_nil) (c_neD hu _ _ (by simp only [PyData.plain]; exact plain_st _) rfl (Nat.le_trans (Nat.min_le_right _ _) (by decide)))) (by
                obtain ⟨x, xs, e⟩ := List.exists_cons_of_ne_nil hne
                rw [e]
                simp [PyData.eqv, PyData.eqvAll, encS])) (fun _ => dxs_one (dx_ret (dv_name 2 rfl (by nofun)))) (fun z => absurd z (by decide)))))
        (fun ρ1 μ' h => by
          obtain ⟨rfl, rfl, hn6, ht, hm⟩ := h
          obtain ⟨n, hn, hx⟩ := hex
          rw [rng_len] at hm
          have := hm n hn
          rw [hx] at this; cases this)
    · exact dx_for rfl PassesOwn.never (di_rng1 T.range dv_int ⟨by decide, by decide⟩)
        (fun n ρ μ => ρ = [.own 0, .no, .no] ∧ μ = [.lst (spL (sprN s n))]) ⟨rfl, rfl⟩ (fun _ _ _ _ => trivial)
        (fun n d ρ1 μ' hd h => by
          obtain ⟨rfl, rfl⟩ := h
          obtain ⟨hn, rfl⟩ := rng_at.mp hd
          have h6 : (6 : Int).toNat = 6 := rfl
          have hf := hno n (by omega)
          have hs1 : sprN s (n + 1) = (rowsF (sprN s n)).2 := rfl
          rw [hs1]
          generalize sprN s n = t at *
          have hok := rows_ok t
          cases hb : bfs (rowsF t).1 200000 first4 0 with
          | none =>
            have hst : statesD (rowsF t).1 = .list [.list [], .list []] := by unfold statesD; rw [hb]
            refine ⟨[.own 0, .dat (.int (0 + (n : Int))), .no], .nx [.own 0, .dat (.int (0 + (n : Int))), .dat (.list (texts (rowsF t).1))] [.lst (spL (rowsF t).2)], dg_name (i := 1) hN, ?_, [_, .no, .no], ⟨.inr rfl, .inl rfl, .inl rfl, trivial⟩, rfl, rfl⟩
            exact dxs_cons (ρ1 := [_, _, _]) (dx_set (i := 2) (dv_fn1 F_law_rows (hr.mono (by decide)) (da_cons (dv_name 0 rfl (by nofun)) da_nil) ⟨t, rfl, rfl, rfl, rfl⟩) hN) (
              dxs_one (dx_if (dt_is (k1 := false) (dt_cmp (dv_ixL (dv_is (s1 := .dat (.list [.list [], .list []])) (dv_fn F_law_states (hr.mono (by decide)) (da_cons (dv_name 2 rfl (by nofun)) da_nil) ⟨_, hok, rfl, rfl, rfl, rfl⟩) (congrArg Sl.dat hst)) dv_int rfl) (dv_lst dd_nil) (c_neD hu _ _ rfl rfl (by decide))) (by decide +kernel)) (fun z => absurd z (by decide)) (fun _ => dxs_nil)))
          | some l =>
            exact absurd hf (by unfold tameB; rw [hb]; simp))
        (fun ρ1 μ' h => by
          obtain ⟨rfl, rfl⟩ := h
          exact ⟨_, Fg.refl _, rfl⟩)
end
end Dr
set_option maxHeartbeats 4000000
namespace Dr
open PySem PySem.Spec PyProof.Rows L2
section
variable {P : Program} {w : World} {K : PySem.W.Frag} {mg : Str → Option Value} {base : Heap}
def cellF (ns : List Int) (k : Nat) : Int := if (k : Int) < (ns.length : Int) then ns.getD k 0 else 7 * (k : Int) + 2
def mixF (k : Nat) (m e : Int) : Int := (m * 48271 + e + 11 * (k : Int)) % 2147483647
def bigB (x : Int) : Bool := decide (x < 0) || decide ((10 : Int) ^ (18 : Int).toNat ≤ x)
def springF (ns : List Int) (k : Nat) : Spr :=
  ⟨if bigB (cellF ns k) = true then (if cellF ns k < 0 then -cellF ns k else cellF ns k) else 0, (ns.take 8 ++ [cellF ns k]).foldl (mixF k) (90001 + 7919 * (k : Int)), 0⟩
def intL (ns : List Int) : List PyData := ns.map PyData.int
def C_law_spring : Ctr := fun ss μ s' μ' => ∃ (ns : List Int) (k : Nat), ss = [.dat (.list (intL ns)), .dat (.int (k : Int))] ∧ μ = [] ∧ s' = .own 0 ∧ μ' = [.lst (spL (springF ns k))] ∧ ns.length ≤ 63
theorem sc_law_spring : FnScope ["_law_cells", "_law_k", "_law_cell", "_law_mixed", "_law_each"] ["_law_cells", "_law_k"] (defScope s_law_spring) := ⟨rfl, rfl, rfl, by decide +kernel, rfl, by decide +kernel, by decide +kernel⟩
theorem ok_law_spring {f : Addr} {fd : FuncData} (T : Tx mg K w) (F : Fun K "_law_spring" "_law_spring" s_law_spring f fd) (hm : mg "_law_spring" = some (.ref f)) : FnD P w K mg base "_law_spring" 1 C_law_spring := by
  refine fnD F hm sc_law_spring (fun _ _ _ _ _ _ us hl => match us, hl with | [_, _], _ => rfl) (fun ss μ s' μ' h => ?_) (fun cdv A outer s H E c hr ss μ s' μ' h hm0 => ?_)
  · obtain ⟨ns, k, rfl, rfl, rfl, rfl, hn⟩ := h; rfl
  · obtain ⟨ns, k, rfl, rfl, rfl, rfl, hn⟩ := h
    have hu := hr.units
    have hN := sc_law_spring.nd
    have hl : (intL ns).length = ns.length := List.length_map _
    have hcell : ∀ (z : (k : Int) < (ns.length : Int)), atI (intL ns) (k : Int) = some (.int (ns.getD k 0)) := fun z => int_at (by omega)
    have htk : cutD (intL ns) none (some (8 : Int)) = intL (ns.take 8) := by
      rw [show (8 : Int) = ((8 : Nat) : Int) from rfl, cut_lo]; unfold intL; rw [List.map_take]
    have hls : cutD (intL ns) none (some (8 : Int)) ++ [PyData.int (cellF ns k)] = intL (ns.take 8 ++ [cellF ns k]) := by
      rw [htk]; unfold intL; rw [List.map_append]; rfl
    refine dxs_cons (ρ1 := [_, _, .dat (.int (cellF ns k)), .no, .no]) (μ1 := []) (dx_set (i := 2) (dv_if (s := .dat (.int (cellF ns k))) (dt_cmp (dv_name 1 rfl (by nofun)) (dv_is (s1 := .dat (.int (ns.length : Int))) (dv_lenL T.len (dv_name 0 rfl (by nofun))) (by rw [hl])) (c_lt _ _)) (fun z => dv_is (dv_ixL (dv_name 0 rfl (by nofun)) (dv_name 1 rfl (by nofun)) (hcell (of_decide_eq_true z))) (by unfold cellF; rw [if_pos (of_decide_eq_true z)])) (fun z => dv_is (dv_add (dv_mul dv_int (dv_name 1 rfl (by nofun)) (.inl ⟨by decide, by decide⟩)) dv_int) (by unfold cellF; rw [if_neg (of_decide_eq_false z)]))) hN) ?_
    have hspr : springF ns k = ⟨if bigB (cellF ns k) = true then (if cellF ns k < 0 then -cellF ns k else cellF ns k) else 0, (ns.take 8 ++ [cellF ns k]).foldl (mixF k) (90001 + 7919 * (k : Int)), 0⟩ := rfl
    rw [hspr]
    generalize cellF ns k = cell at *
    have hlen : (ns.take 8 ++ [cell]).length ≤ 64 := by rw [List.length_append, List.length_take]; simp only [List.length_cons, List.length_nil]; omega
    exact dxs_cons (ρ1 := [_, _, _, _, .no]) (dx_set (i := 3) (dv_add dv_int (dv_mul dv_int (dv_name 1 rfl (by nofun)) (.inl ⟨by decide, by decide⟩))) hN) (
      dxs_cons (ρ1 := [.dat (.list (intL ns)), .dat (.int (k : Int)), .dat (.int cell), .dat (.int ((ns.take 8 ++ [cell]).foldl (mixF k) (90001 + 7919 * (k : Int)))), .no]) (μ1 := []) (dx_for rfl PassesOwn.never (di_lst (ds := intL (ns.take 8 ++ [cell])) (dv_is (s1 := .dat (.list (intL (ns.take 8 ++ [cell])))) (dv_cat (dv_slL (dv_name 0 rfl (by nofun)) do_none (do_some dv_int)) (dv_lst (dd_cons (dv_name 2 rfl (by nofun)) dd_nil)) (by
            rw [htk]
            unfold intL
            rw [List.length_map, List.length_take]
            exact Nat.le_of_lt (small_lt (by simp only [List.length_cons, List.length_nil]; omega)))) (congrArg (fun z => Sl.dat (.list z)) hls)))
        (fun n ρ μ => ρ = [.dat (.list (intL ns)), .dat (.int (k : Int)), .dat (.int cell), .dat (.int (((ns.take 8 ++ [cell]).take n).foldl (mixF k) (90001 + 7919 * (k : Int)))), .no] ∧ μ = []) ⟨rfl, rfl⟩ (fun _ _ _ _ => trivial)
        (fun n d ρ1 μ' hd h => by
          obtain ⟨rfl, rfl⟩ := h
          generalize ns.take 8 ++ [cell] = L at *
          unfold intL at hd
          rw [List.getElem?_map] at hd
          obtain ⟨e, he, rfl⟩ : ∃ e, L[n]? = some e ∧ d = .int e := by
            cases q : L[n]? with
            | none => rw [q] at hd; cases hd
            | some e => rw [q] at hd; exact ⟨e, rfl, (Option.some.inj hd).symm⟩
          rw [take_snoc he, List.foldl_append]
          generalize (L.take n).foldl (mixF k) (90001 + 7919 * (k : Int)) = m at *
          exact ⟨[.dat (.list (intL ns)), .dat (.int (k : Int)), .dat (.int cell), .dat (.int m), .dat (.int e)], .nx [_, _, _, _, _] [], dg_name (i := 4) hN, dxs_one (dx_set (i := 3) (dv_mod (dv_intI T.int (dv_add (dv_add (dv_mul (dv_name 3 rfl (by nofun)) dv_int (.inr ⟨by decide, by decide⟩)) (dv_intI T.int (dv_name 4 rfl (by nofun)))) (dv_mul dv_int (dv_name 1 rfl (by nofun)) (.inl ⟨by decide, by decide⟩)))) dv_int (by decide)) hN), [_, _, _, _, .no], ⟨.inr rfl, .inr rfl, .inr rfl, .inr rfl, .inl rfl, trivial⟩, rfl, rfl⟩)
        (fun ρ1 μ' h => by
          obtain ⟨rfl, rfl⟩ := h
          refine ⟨_, Fg.refl _, ?_⟩
          rw [show (intL (ns.take 8 ++ [cell])).length = (ns.take 8 ++ [cell]).length from List.length_map _, List.take_length])) (
      dxs_one (dx_retIs (dv_lstM (dd_cons (dv_if (s := .dat (.int (if bigB cell = true then (if cell < 0 then -cell else cell) else 0))) (dt_is (k1 := bigB cell) (dt_w (dw_or (dt_cmp (dv_name 2 rfl (by nofun)) dv_int (c_lt _ _)) fun _ => dw_or1 (dt_cmp (dv_name 2 rfl (by nofun)) (dv_pow dv_int dv_int ⟨by decide, by decide, by decide⟩) (c_ge _ _)))) rfl) (fun z => dv_is (dv_abs T.abs (dv_name 2 rfl (by nofun))) (by rw [if_pos z])) (fun z => dv_is dv_int (by rw [if_neg (by rw [z]; decide)]))) (dd_cons (dv_name 3 rfl (by nofun)) (dd_cons dv_int dd_nil)))) rfl)))
end
end Dr
set_option maxHeartbeats 4000000
/-! D22: dict displays as data. -/
namespace Dr
open PySem PySem.Spec PyProof.Rows L2
section
variable {X : Cx} {c : Ct} {ρ : List Sl} {μ : List Mo} {pos : Pos} {ke ve : Expr}
theorem dv_dict0 : dV X c (.Dict [] [] pos) ρ μ (.dat (.dict [])) μ := .mk fun m S H σ W R Q kk => by
  refine wE_of pe_dnewK fun p hp => ?_
  obtain ⟨W', e⟩ := W.lay (.dK []) hp
  exact (kk.up e (List.prefix_refl m)).now W' (.dct (kvs := []) (ds := []) upd_same .nil)
/-- {'a': 0}: a written text, a written number -/
theorem dv_dictC {x : Str} {i : Int} {j1 j2} {p1 p2 : Pos} : dV X c (.Dict [some (.Constant (.str x) j1 p1)] [.Constant (.int i) j2 p2] pos) ρ μ (.dat (.dict [(.str x, .int i)])) μ := .mk fun m S H σ W R Q kk pins s I => by
  have hn := I.hok.fresh (Nat.le_refl s.heap.objs.size)
  have I1 : Inv X pins σ (upd H s.heap.objs.size (.dK [])) { s with heap := s.heap.push { cls := .type "dict", data := .dict #[] }, toks := s.toks } :=
    I.laid (t' := s.toks) (fun _ _ q => Heap.get?_push_of_some _ q) (Nat.le_refl _) (dk_empty s.heap I.big)
  have hsm : (s.heap.objs.size == sysModules) = false := beq_eq_false_iff_ne.mpr (Nat.ne_of_gt I.big)
  refine wpAny_Dict_pairs (knd := mixKind X.prog X.w) (pairs := [(eval (.Constant (.str x) j1 p1) X.env, (do let x ← eval (.Constant (.int i) j2 p2) X.env; standAt pos; pure x : Sem Value))]) rfl (by simp) (show 1 ≤ 15 by decide) ?_
  generalize s.heap.objs.size = D at *
  refine evalPairs_cons (thn (pe_str.run pins _ σ (upd H D (.dK [])) (fun v H2 => v = .str x ∧ H2 = upd H D (.dK [])) I1 ⟨rfl, rfl⟩) fun u s1 ⟨v, H2, I2, r, ev, eh⟩ => ?_)
  subst ev; subst eh
  refine wpAny_bind (thn (pe_int.run pins _ σ (upd H D (.dK [])) (fun v H2 => v = .int i ∧ H2 = upd H D (.dK [])) I2 ⟨rfl, rfl⟩) fun u2 s2 ⟨v2, H3, I3, r3, ev, eh⟩ => ?_)
  subst ev; subst eh
  refine wpAny_bind (wpAny_standAt (wpAny_pure (evalPairs_nil ?_)))
  obtain ⟨_, _, vs, rel, dd⟩ := (show ObjOk X.prog X.w (upd H D (.dK [])) s2.heap D (.dK []) from I3.hok D _ upd_same)
  cases rel
  refine ⟨[(.inr x, u2)], ⟨kV_is (k := .inr x) r, rfl, trivial⟩, dd, fun h' hm' hs => ?_⟩
  have I4 := I3.write (t' := s2.toks + 1) (x := D) (e := D) (o := .dK [(.inr x, .int i)]) (by rw [upd_same]; trivial) (.inl rfl) (fun b u hb e => (hs.2 b hb).trans e) (let ⟨o, _, _, e, _⟩ := hm'; ⟨o, e⟩) (dk_new (show 1 ≤ sizeLine by decide) hsm (.cons ⟨rfl, r3⟩ .nil) hm')
  rw [upd_upd] at I4
  obtain ⟨W', e⟩ := W.lay (.dK [(.inr x, .int i)]) hn
  exact ⟨.ref D, _, I4, rfl, (kk.up e (List.prefix_refl m)).now W' (.dct (kvs := [(.inr x, .int i)]) (ds := [.int i]) upd_same (.cons (.int i) .nil))⟩
end
end Dr
set_option maxHeartbeats 4000000
namespace Dr
open PySem PySem.Spec PyProof.Rows L2
def oddL : List PyData := [.none, .bool true, .bool false, .int 0, .int 1, .int (-1), .int 7, .int ((10 : Int) ^ (39 : Int).toNat), .str "", .str "a", .str "01", .str "take", .str "again", .str "go 0", .str "give c", .str "012",
  .str "even", .str "inside", .str "alike", .tuple [], .tuple [.int 0], .tuple [.int 1], .tuple [.int 0, .int 0], .tuple [.int 0, .int 1], .tuple [.str "alike", .str "a"], .tuple [.str "even", .str "a"],
  .tuple [.str "alike", .str "a", .str "a"], .list [], .list [.int 0], .list [.str "take"], .dict [], .dict [(.str "a", .int 0)], .tuple [.list []], .tuple [.none], .tuple [.tuple []], .tuple [.str "even"], .tuple [.int 0, .str "again"]]
section
variable {P : Program} {w : World} {K : PySem.W.Frag} {mg : Str → Option Value} {base : Heap}

def C_law_odd : Ctr := fun ss μ s' μ' => ∃ s : Spr, ss = [.own 0] ∧ μ = [.lst (spL s)] ∧ s' = .dat (pick s oddL .none) ∧ μ' = [.lst (spL (nxt s 37))]
theorem sc_law_odd : FnScope ["_law_spring_here", "_law_some"] ["_law_spring_here"] (defScope s_law_odd) := ⟨rfl, rfl, rfl, by decide +kernel, rfl, by decide +kernel, by decide +kernel⟩
theorem ok_law_odd {f : Addr} {fd : FuncData} (T : Tx mg K w) (F : Fun K "_law_odd" "_law_odd" s_law_odd f fd) (hm : mg "_law_odd" = some (.ref f)) (F_law_of : FnD P w K mg base "_law_of" 2 C_law_of) : FnD P w K mg base "_law_odd" 3 C_law_odd := by
  refine fnD F hm sc_law_odd (fun _ _ _ _ _ _ us hl => match us, hl with | [_], _ => rfl) (fun ss μ s' μ' h => ?_) (fun cdv A outer s H E c hr ss μ s' μ' h hm0 => ?_)
  · obtain ⟨s, rfl, rfl, rfl, rfl⟩ := h; rfl
  · obtain ⟨s, rfl, rfl, rfl, rfl⟩ := h
    have hN := sc_law_odd.nd
    have hu := hr.units
    exact dxs_cons (ρ1 := [_, _]) (dx_set (i := 1) (dv_lst (dd_cons dv_non (dd_cons dv_bl (dd_cons dv_bl (dd_cons dv_int (dd_cons dv_int (dd_cons (dv_neg dv_int) (dd_cons dv_int (dd_cons (dv_pow dv_int dv_int ⟨by decide, by decide, by decide⟩) (dd_cons dv_str (dd_cons dv_str (dd_cons dv_str (dd_cons dv_str (dd_cons dv_str (dd_cons dv_str (dd_cons dv_str (dd_cons dv_str dd_nil))))))))))))))))) hN) (
      dxs_cons (ρ1 := [_, _]) (dx_set (i := 1) (dv_cat (dv_name 1 rfl (by nofun)) (dv_lst (dd_cons dv_str (dd_cons dv_str (dd_cons dv_str (dd_cons (dv_tup dd_nil) (dd_cons (dv_tup (dd_cons dv_int dd_nil)) (dd_cons (dv_tup (dd_cons dv_int dd_nil)) (dd_cons (dv_tup (dd_cons dv_int (dd_cons dv_int dd_nil))) (dd_cons (dv_tup (dd_cons dv_int (dd_cons dv_int dd_nil))) (dd_cons (dv_tup (dd_cons dv_str (dd_cons dv_str dd_nil))) (dd_cons (dv_tup (dd_cons dv_str (dd_cons dv_str dd_nil))) dd_nil))))))))))) (by first | decide | exact Nat.le_trans (Nat.le_of_ble_eq_true rfl) (show 64 ≤ sizeLine by decide))) hN) (
      dxs_cons (ρ1 := [_, _]) (dx_set (i := 1) (dv_cat (dv_name 1 rfl (by nofun)) (dv_lst (dd_cons (dv_tup (dd_cons dv_str (dd_cons dv_str (dd_cons dv_str dd_nil)))) (dd_cons (dv_lst dd_nil) (dd_cons (dv_lst (dd_cons dv_int dd_nil)) (dd_cons (dv_lst (dd_cons dv_str dd_nil)) (dd_cons dv_dict0 (dd_cons dv_dictC (dd_cons (dv_tup (dd_cons (dv_lst dd_nil) dd_nil)) (dd_cons (dv_tup (dd_cons dv_non dd_nil)) (dd_cons (dv_tup (dd_cons (dv_tup dd_nil) dd_nil)) (dd_cons (dv_tup (dd_cons dv_str dd_nil)) (dd_cons (dv_tup (dd_cons dv_int (dd_cons dv_str dd_nil))) dd_nil)))))))))))) (by first | decide | exact Nat.le_trans (Nat.le_of_ble_eq_true rfl) (show 64 ≤ sizeLine by decide))) hN) (
      dxs_one (dx_retIs (dv_fn1 F_law_of (hr.mono (by decide)) (da_cons (dv_name 0 rfl (by nofun)) (da_cons (dv_name 1 rfl (by nofun)) da_nil)) ⟨s, oddL, pick s oddL .none, rfl, rfl, rfl, rfl, by simp [oddL], by decide, pick_at _ (by simp [oddL])⟩) rfl))))

end
end Dr
set_option maxHeartbeats 4000000
/-! D23: an owned list compared with data. -/
namespace Dr
open PySem PySem.Spec PyProof.Rows L2
section
variable {X : Cx} {c : Ct} {μ : List Mo} {ds : List PyData}
theorem c_eqO (hu : X.A.units + 64 < cLine) {j : Nat} (e : PyData) (hj : μ[j]? = some (.lst ds)) (p1 : PyData.plain (.list ds) = true) (p2 : e.plain = true) (hd : min (PyData.depth (.list ds)) e.depth ≤ 60) : CmpR X c .Eq (.own j) (.dat e) μ (PyData.eqv (.list ds) e) :=
  ⟨_, op_eqP hu, fun m S H x y Q W h1 h2 q => by
    obtain ⟨p, hp, rfl⟩ := h1
    obtain ⟨xs, hx, hs⟩ := W.lst hp hj
    have hS := W.out p (List.mem_of_getElem? hp)
    have e1 : Ex S (upd S p (.lst xs)) := Evl.Ex.new hS
    have e2 : Ex (upd S p (.lst xs)) H := fun b o hb => by
      by_cases h : b = p
      · subst h; rw [upd_same] at hb; rw [← hb]; exact hx
      · rw [upd_ne h] at hb; exact W.sub b o hb
    exact ⟨upd S p (.lst xs), .list ds, e, e2, .lst (.inl upd_same) (hs.mono e1), Dq.mono e1 h2, p1, p2, hd, q⟩⟩
end
end Dr
set_option maxHeartbeats 4000000
/-! D24: C(*xs). -/
namespace Dr
open PySem PySem.Spec PyProof.Rows L2
section
variable {X : Cx} {CX : CXT} {k : Nat} {f C : Addr} {sp : Sp} {E : XK} {x : Str} {e : Expr} {te : TE} {p sp_ pos : Pos}
/-- what Program(*rows) asks: the items, then as for a call with them -/
def tMakeS (K : PySem.W.Frag) (C : Addr) (sp : Sp) (E : XK) (te : TE) : TE := fun σ H Q => te σ H fun y H1 => ∃ a xs, y = V.ref a ∧ (SqT K H1 a xs ∨ SqL K H1 a xs) ∧ ∀ x dx, H1 x = Option.none → H1 dx = Option.none → dx ≠ x → sp (V.ref x :: xs) (upd (upd H1 dx (.own x)) x (.ins C dx [])) (fun v H2 => v = .non ∧ Q (.ref x) H2) E
theorem pe_makeS (M : Mk X.K C f) (F : FnR X.prog X.w X.K X.mg X.base CX k f sp) (hr : Room (k + 1) X.A) (hg : Gl X x) (hm : X.mg x = some (.ref C)) (hx : Passes CX X E) (he : PE X e te) (hdb : (x == ("__debug__" : Str)) = false := by decide)
    (hst : starEach [.Starred e sp_] X.env = [(true, eval e X.env)] := by rfl) : PE X (.Call (.Name x p) [.Starred e sp_] [] pos) (tMakeS X.K C sp E te) := by
  refine ⟨fun pins s σ H Q I h => ?_⟩
  refine wpAny_Call_Name_kw (ld_glob I hg hm ?_ hdb)
  refine PySem.W.callWith_S (h₀ := X.base) I.ok.mod.kin M.kp (thn (he.run pins s σ H _ I h) fun v s1 ⟨y, H1, I1, ry, a, xs, ey, hxs, q⟩ => ?_) hst
  subst ey
  obtain rfl : v = Value.ref a := ry
  exact StX.star_any I1 hxs fun us s2 I2 rv => ⟨I2.kIn, StX.run_makeR M F hr hx I2 rv q⟩
end
end Dr
set_option maxHeartbeats 4000000
namespace Dr
open PySem PySem.Spec PyProof.Rows L2
theorem sc_prg_init : FnScope ["self", "rows", "wrong", "at", "row"] ["self", "rows"] (defScope s_prg_init) := ⟨rfl, rfl, rfl, by decide +kernel, rfl, by decide +kernel, by decide +kernel⟩
section
variable {P : Program} {w : World} {K : PySem.W.Frag} {mg : Str → Option Value} {base : Heap}
/-- Program.__init__(self, *rows) -/
def spInit (P : Program) (w : World) (K : PySem.W.Frag) : Sp := fun vs H Q _ => ∃ (c : Ct) (μ : List Mo) (m : List Addr) (S : Hp) (x p dx : Addr) (pr : List Row), vs = [.ref x, .ref p] ∧ MoOk P w K c μ m S H ∧ x ∉ m ∧ S x = none ∧ c.H0 x = none ∧
  H x = some (.ins (prgC K) dx []) ∧ Dq K S (.ref p) (.tuple (texts pr)) ∧ okProg pr ∧ ∀ S' H', MoOk P w K c μ m S' H' → Ex S S' → SlV K S' m (.ref x) (.prg (.tuple (texts pr)) (.tuple (steps pr))) → Q .non H'
theorem MoOk.same {c : Ct} {μ μ' : List Mo} {m m' : List Addr} {S S' H H' : Hp} (A : MoOk P w K c μ m S H) (B : MoOk P w K ⟨H, S, m⟩ μ' m' S' H') (hl : μ'.length = μ.length) : m' = m := by
  obtain ⟨t, e⟩ := B.pre
  have h1 : m'.length = m.length := by rw [← B.len, hl, A.len]
  have e : m ++ t = m' := e
  have : t = [] := by
    have := congrArg List.length e
    rw [List.length_append] at this
    exact List.eq_nil_of_length_eq_zero (by omega)
  rw [← e, this, List.append_nil]
theorem init_body (T : Tx mg K w) (F_wrong_row : FnD P w K mg base "wrong_row" 4 C_wrong_row) (F_step_in : FnD P w K mg base "step_in" 3 C_step_in) {f : Addr} {cdv : Value} {A : Around} {outer : List Env} {s : Shared} {H : Hp} {E : XK} {Q : VK} {vs : List V}
    (hr : Room 4 (bx P w K mg base ["self", "rows", "wrong", "at", "row"] "Program.__init__" s_prg_init f cdv A outer s H E).A) (h : spInit P w K vs H Q E) :
    wSs (bx P w K mg base ["self", "rows", "wrong", "at", "row"] "Program.__init__" s_prg_init f cdv A outer s H E) (defBody s_prg_init) { nx := fun _ H' => Q .non H', rt := Q } (L2.start ["self", "rows", "wrong", "at", "row"] vs) H := by
  obtain ⟨c, μ, m, S, x, p, dx, pr, rfl, W, hxm, hxS, hx0, hx, hq, hpr, k⟩ := h
  have hN := sc_prg_init.nd
  have R0 : SlOk K S m (L2.start ["self", "rows", "wrong", "at", "row"] [V.ref x, V.ref p]) (startSl ["self", "rows", "wrong", "at", "row"] [.raw (.ref x), .dat (.tuple (texts pr))]) := slOk_start (.cons rfl (.cons hq .nil))
  have hn1 := texts_len pr
  -- wrong = wrong_row(rows)
  refine wSs_of (pss_cons ps_w pss_w) ?_
  refine (dx_fg (c := ⟨H, S, m⟩) (ρ := [.raw (.ref x), .dat (.tuple (texts pr)), .no, .no, .no]) (ρ2 := [_, _, .dat (.tuple []), .no, .no]) (dx_set (i := 2) (dv_fn F_wrong_row (hr.mono (by decide)) (da_cons (dv_name 1 rfl (by nofun)) da_nil) ⟨pr, hpr, .inr rfl, rfl, rfl, rfl⟩) hN) (Fg.refl _)).run m S H _ W.self R0 _ fun m1 S1 σ1 H1 W1 e1 p1 R1 => ?_
  obtain rfl := W.same W1 rfl
  obtain ⟨a1, a2, a3⟩ := W1.keepHid hxm hxS hx
  have Wc1 := W.trans W1
  have q1 : Dq K S1 (.ref p) (.tuple (texts pr)) := hq.mono W1.ex0
  -- if wrong: ..
  refine wSs_of (pss_cons ps_w pss_w) ?_
  refine (dx_if (c := ⟨H1, S1, m1⟩) (ρ := [.raw (.ref x), .dat (.tuple (texts pr)), .dat (.tuple []), .no, .no]) (o := .nx [.raw (.ref x), .dat (.tuple (texts pr)), .dat (.tuple []), .no, .no] μ) (dt_is (k1 := false) (dt_tup (dv_name 2 rfl (by nofun))) rfl) (fun z => absurd z (by decide)) (fun _ => dxs_nil)).run m1 S1 H1 _ W1.self R1 _ fun m2 S2 σ2 H2 W2 e2 p2 R2 => ?_
  obtain rfl := Wc1.same W2 rfl
  obtain ⟨b1, b2, b3⟩ := W2.keepHid a1 a2 a3
  have Wc2 := Wc1.trans W2
  -- self.written = rows
  refine wSs_of (pss_cons ps_w pss_w) ?_
  refine wS_of (ps_fld pe_w pe_w rfl) ?_
  refine (dv_name (c := ⟨H2, S2, m2⟩) (s := .dat (.tuple (texts pr))) 1 rfl (by nofun)).run m2 S2 H2 _ W2.self R2 _ fun m3 S3 v3 H3 W3 e3 p3 q3 => ?_
  obtain rfl := Wc2.same W3 rfl
  obtain ⟨c1, c2, c3⟩ := W3.keepHid b1 b2 b3
  have Wc3 := Wc2.trans W3
  have R3 := R2.mono W3.ex0 (List.prefix_refl _)
  refine (dv_name (c := ⟨H3, S3, m3⟩) (s := .raw (.ref x)) 0 rfl (by nofun)).run m3 S3 H3 _ W3.self R3 _ fun m4 S4 v4 H4 W4 e4 p4 q4 => ?_
  obtain rfl := Wc3.same W4 rfl
  obtain ⟨d1, d2, d3⟩ := W4.keepHid c1 c2 c3
  have Wc4 := Wc3.trans W4
  have q4 : v4 = .ref x := q4
  subst q4
  refine ⟨x, _, dx, [], rfl, d3, T.prg.cl, T.prg.nw, by decide, ?_⟩
  have Wc5 := Wc4.hid (o := .ins (prgC K) dx (putF "written" v3 [])) d1 d2 hx0
  have R5 := R3.mono W4.ex0 (List.prefix_refl _)
  have w5 : Dq K S4 v3 (.tuple (texts pr)) := Dq.mono W4.ex0 q3
  generalize hH5 : upd H4 x (.ins (prgC K) dx (putF "written" v3 [])) = H5 at Wc5
  have h5x : H5 x = some (.ins (prgC K) dx (putF "written" v3 [])) := by rw [← hH5]; exact upd_same
  -- self.steps = tuple([..])
  refine wSs_of (pss_one ps_w) ?_
  refine wS_of (ps_fld pe_w pe_w rfl) ?_
  refine dV.run (c := ⟨H5, S4, m4⟩) (ρ := [.raw (.ref x), .dat (.tuple (texts pr)), .dat (.tuple []), .no, .no]) (μ := μ) (s' := .dat (.tuple (steps pr))) (μ' := μ) ?_ m4 S4 H5 _ Wc5.self R5 _ fun m6 S6 v6 H6 W6 e6 p6 q6 => ?_
  · exact dv_tupleL T.tuple (dv_lc2 (i := 3) (j := 4) (f := fun n => (pr.getD n .take).step) (g1 := fun n => .int (n : Nat)) (g2 := fun n => .str (pr.getD n .take).txt) rfl hN (blk_of (by rfl)) (di_enumT T.enumerate (dv_name 1 rfl (by nofun))) (small_lt (by rw [enumD_len, hn1]; have := hpr.2.1; omega)) trivial (by decide)
      (fun n hn => by
        rw [enumD_len, hn1] at hn
        have hg : pr[n]? = some (pr.getD n .take) := by rw [List.getD_eq_getElem?_getD, List.getElem?_eq_getElem hn]; rfl
        refine ⟨enumD_at.mpr ⟨.str (pr.getD n .take).txt, by unfold texts; rw [List.getElem?_map, hg]; rfl, rfl⟩, fun c2 s0 H0 C cl fp => ?_⟩
        exact dv_fn F_step_in (hr.mono (by decide)) (da_cons (dv_name 4 rfl (by nofun)) (da_cons (dv_name 3 rfl (by nofun)) (da_cons (dv_lenT T.len (dv_name 1 rfl (by nofun))) da_nil))) ⟨pr.getD n .take, (texts pr).length, n, rfl, rfl, rfl, rfl, by rw [hn1]; exact hpr.2.2 n _ hg, by rw [hn1]; exact hpr.2.1⟩)
      (by
        rw [enumD_len, hn1]
        unfold steps
        apply List.ext_getElem?
        intro n
        rw [List.getElem?_map, List.getElem?_map]
        by_cases hn : n < pr.length
        · rw [List.getElem?_range hn, List.getElem?_eq_getElem hn]
          show _ = some (pr.getD n .take).step
          rw [List.getD_eq_getElem?_getD, List.getElem?_eq_getElem hn]; rfl
        · rw [List.getElem?_eq_none (by omega), List.getElem?_eq_none (by rw [List.length_range]; omega)]; rfl)
      (fun _ _ _ _ _ => pg_tup rfl (pgs_cons (pg_name hN rfl (Or.inl rfl)) (pgs_cons (pg_name hN rfl (Or.inl rfl)) pgs_nil))))
  · obtain rfl := Wc5.same W6 rfl
    obtain ⟨g1, g2, g3⟩ := W6.keepHid d1 d2 h5x
    have Wc6 := Wc5.trans W6
    have R6 := R5.mono W6.ex0 (List.prefix_refl _)
    refine (dv_name (c := ⟨H6, S6, m6⟩) (s := .raw (.ref x)) 0 rfl (by nofun)).run m6 S6 H6 _ W6.self R6 _ fun m7 S7 v7 H7 W7 e7 p7 q7 => ?_
    obtain rfl := Wc6.same W7 rfl
    obtain ⟨i1, i2, i3⟩ := W7.keepHid g1 g2 g3
    have Wc7 := Wc6.trans W7
    have q7 : v7 = .ref x := q7
    subst q7
    refine ⟨x, _, dx, _, rfl, i3, T.prg.cl, T.prg.ns, Nat.lt_of_le_of_lt (Nat.le_of_ble_eq_true rfl) (show 1 < 1000 by decide), ?_⟩
    have Wc8 := Wc7.hid (o := .ins (prgC K) dx (putF "steps" v6 (putF "written" v3 []))) i1 i2 hx0
    obtain ⟨W9, e9⟩ := Wc8.showD i1 i2 hx0 upd_same
    have es : Ex S _ := (((W1.ex0.trans W2.ex0).trans W3.ex0).trans W4.ex0).trans ((W6.ex0.trans W7.ex0).trans e9)
    exact k _ _ W9 es ⟨x, dx, v3, v6, rfl, upd_same, Dq.mono e9 (Dq.mono W7.ex0 (Dq.mono W6.ex0 w5)), Dq.mono e9 (Dq.mono W7.ex0 q6)⟩
end
end Dr
set_option maxHeartbeats 4000000
namespace Dr
open PySem PySem.Spec PyProof.Rows L2
section
variable {P : Program} {w : World} {K : PySem.W.Frag} {mg : Str → Option Value} {base : Heap}
def spMake (P : Program) (w : World) (K : PySem.W.Frag) : Sp := fun vs H Q E => ∃ ws rest, vs = ws ++ rest ∧ ws.length = (["self"] : List Str).length ∧ rest.length ≤ sizeLine ∧ ∀ p, H p = Option.none → spInit P w K (ws ++ [V.ref p]) (upd H p (.tup rest)) Q E
theorem ok_prg_init {f : Addr} {fd : FuncData} (T : Tx mg K w) (F : Fun K "__init__" "Program.__init__" s_prg_init f fd) (F_wrong_row : FnD P w K mg base "wrong_row" 4 C_wrong_row) (F_step_in : FnD P w K mg base "step_in" 3 C_step_in) : FnR P w K mg base CX0 5 f (spMake P w K) := by
  obtain ⟨oc, od, kV, doc, pm, an, cdv, ct, osl, rfl, lk, hcd⟩ := F.ex
  exact StX.fn_star (ps := ["self"]) (pv := "rows") lk hcd sc_prg_init StX.cxUp_none (StX.bind_star1 (B := fun l => bindArgs (PySem.W.fnOf "__init__" "Program.__init__" (defArgs s_prg_init) (defBody s_prg_init) (defScope s_prg_init) .none kV doc pm an cdv ct) ⟨l, []⟩) (fun a => rfl) (fun a r rs => rfl)) (fun A outer s H vs Q E hr h => ⟨_, (pss_w (X := bx P w K mg base ["self", "rows", "wrong", "at", "row"] "Program.__init__" s_prg_init f cdv A outer s H E)).nox, init_body T F_wrong_row F_step_in hr h⟩)
end
end Dr
set_option maxHeartbeats 4000000
namespace Dr
open PySem PySem.Spec PyProof.Rows L2
section
variable {X : Cx} {c : Ct} {ρ : List Sl} {μ μ1 : List Mo} {e : Expr} {p pos spos : Pos} {pr : List Row} {f : Addr}
/-- Program(*rows) -/
theorem dv_makePrg (T : Tx X.mg X.K X.w) (M : Mk X.K (prgC X.K) f) (F : FnR X.prog X.w X.K X.mg X.base CX0 5 f (spMake X.prog X.w X.K)) (hr : Room 6 X.A) (he : dV X c e ρ μ (.dat (.list (texts pr))) μ1) (hpr : okProg pr) (hg : Gl X "Program" := by rfl)
    (hst : starEach [.Starred e spos] X.env = [(true, eval e X.env)] := by rfl) : dV X c (.Call (.Name "Program" p) [.Starred e spos] [] pos) ρ μ (.prg (.tuple (texts pr)) (.tuple (steps pr))) μ1 := .mk fun m S H σ W R Q kk => by
  refine wE_of (pe_makeS (E := fun _ _ _ => False) M F hr hg T.program pass0 pe_w (by decide) hst) ?_
  refine he.run m S H σ W R _ fun m1 S1 y H1 W1 e1 p1 q1 => ?_
  obtain ⟨a, xs, rfl, hx, hs⟩ := Dq.of_lst q1
  refine ⟨a, xs, rfl, .inr (.inl (Evl.ex_rd W1.sub hx)), fun x dx nx nd hxd => ?_⟩
  have hl : xs.length ≤ sizeLine := by
    rw [hs.length, texts_len]
    have := hpr.2.1
    rw [sizeLine_eq]; omega
  refine ⟨[.ref x], xs, rfl, rfl, hl, fun q nq => ?_⟩
  have W2 := W1.hid (o := .own x) (W1.free nd).1 (W1.free nd).2.1 (W1.free nd).2.2.2.1
  have nx2 : upd H1 dx (.own x) x = none := by rw [upd_ne (Ne.symm hxd)]; exact nx
  have W3 := W2.hid (o := .ins (prgC X.K) dx []) (W1.free nx).1 (W1.free nx).2.1 (W1.free nx).2.2.2.1
  obtain ⟨W4, e4⟩ := W3.lay (.tup xs) nq
  have hqx : q ≠ x := fun z => by rw [z, upd_same] at nq; cases nq
  refine ⟨c, μ1, m1, _, x, q, dx, pr, rfl, W4, (W1.free nx).1, ?_, (W1.free nx).2.2.2.1, ?_, ?_, hpr, fun S' H' W' e' r' => ⟨rfl, kk m1 S' (.ref x) H' W' ((e1.trans e4).trans e') p1 r'⟩⟩
  · rw [upd_ne (Ne.symm hqx)]; exact (W1.free nx).2.1
  · rw [upd_ne (Ne.symm hqx), upd_same]
  · exact .tup (.inl (.inl upd_same)) (hs.mono e4)
end
end Dr
set_option maxHeartbeats 4000000
/-! F22: methods: Program.read, Program.__len__; len(program). -/
namespace Dr
open PySem PySem.Spec PyProof.Rows L2 TL
section
variable {P : Program} {w : World} {K : PySem.W.Frag} {mg : Str → Option Value} {base : Heap}
/-- a method by its body -/
theorem fnRD {x qual : Str} {st : Stmt} {f : Addr} {fd : FuncData} {N ps : List Str} {j : Nat} {C : Ctr} (F : Fun K x qual st f fd) (sc : FnScope N ps (defScope st))
    (hb : ∀ (kV doc pm : Value) (an : Option Addr) (cdv ct : Value) (us : List Value), us.length = ps.length → bindArgs (PySem.W.fnOf x qual (defArgs st) (defBody st) (defScope st) .none kV doc pm an cdv ct) ⟨us, []⟩ = pure (ps.zip us))
    (len : ∀ ss μ s' μ', C ss μ s' μ' → ss.length = ps.length)
    (hbody : ∀ (cdv : Value) (A : Around) (outer : List Env) (s : Shared) (H : Hp) (E : XK) (c : Ct), Room j (bx P w K mg base N qual st f cdv A outer s H E).A → ∀ ss μ s' μ', C ss μ s' μ' → c.m0.length = μ.length →
      dXs (bx P w K mg base N qual st f cdv A outer s H E) c (defBody st) (startSl N ss) μ (.rt s' μ')) : FnR P w K mg base CX0 (j + 1) f (spD P w K C) := by
  have F2 : FnOk P w K mg base CX0 (j + 1) f fd ps (spD P w K C) := F.ok sc (fun vs H Q E h => by
    obtain ⟨m, S, ss, μ, s', μ', hC, W, r, k⟩ := h
    rw [r.length]; exact len _ _ _ _ hC) (fun cdv A outer s H vs Q E hr h => by
    obtain ⟨m, S, ss, μ, s', μ', hC, W, r, k⟩ := h
    exact ⟨_, pss_w, hbody cdv A outer s H E ⟨H, S, m⟩ hr ss μ s' μ' hC W.len.symm m S H _ W (slOk_start r) _ fun m' S' v H' W' e' r' => k m' S' v H' W' r'⟩)
  exact (F2.raw (F.binds hb) .nil).imp fun vs H Q E h => by rw [List.append_nil]; exact h
def C_read (K : PySem.W.Frag) : Ctr := fun ss μ s' μ' => ∃ p : List Row, okProg p ∧ ss = [.raw (.ref (prgC K)), .dat (.str (Txt.join "\n" (p.map Row.txt)))] ∧ μ = [] ∧ s' = .prg (.tuple (texts p)) (.tuple (steps p)) ∧ μ' = []
def C_plen : Ctr := fun ss μ s' μ' => ∃ (ws : List PyData) (sd : PyData), ss = [.prg (.tuple ws) sd] ∧ μ = [] ∧ s' = .dat (.int (ws.length : Int)) ∧ μ' = []
theorem sc_prg_read : FnScope ["cls", "text", "rows"] ["cls", "text"] (defScope s_prg_read) := ⟨rfl, rfl, rfl, by decide +kernel, rfl, by decide +kernel, by decide +kernel⟩
theorem sc_prg_len : FnScope ["self"] ["self"] (defScope s_prg_len) := ⟨rfl, rfl, rfl, by decide +kernel, rfl, by decide +kernel, by decide +kernel⟩
theorem ok_prg_len {f : Addr} {fd : FuncData} (T : Tx mg K w) (F : Fun K "__len__" "Program.__len__" s_prg_len f fd) : FnR P w K mg base CX0 1 f (spD P w K C_plen) := by
  refine fnRD F sc_prg_len (fun _ _ _ _ _ _ us hl => match us, hl with | [_], _ => rfl) (fun ss μ s' μ' h => ?_) (fun cdv A outer s H E c hr ss μ s' μ' h hm0 => ?_)
  · obtain ⟨ws, sd, rfl, rfl, rfl, rfl⟩ := h; rfl
  · obtain ⟨ws, sd, rfl, rfl, rfl, rfl⟩ := h
    exact dxs_one (dx_retIs (dv_lenT T.len (dv_written T.prg (dv_name 0 rfl (by nofun)))) rfl)
/-! ### texts of rows hold no line feed -/
theorem no_nl : ∀ r : Row, 10 ∉ TL.tl r.txt :=
  row_all (by decide +kernel) (by decide +kernel) (by decide +kernel) (by decide +kernel) (by decide +kernel) (by decide +kernel) (by decide +kernel) (by decide +kernel) (by decide +kernel) (by decide +kernel)
theorem read_split {p : List Row} (h : okProg p) : Txt.split (Txt.join "\n" (p.map Row.txt)) "\n" = p.map Row.txt :=
  TL.split_join (s := 10) (S := []) (by decide +kernel) (by decide +kernel) (fun z => by have h1 := congrArg List.length z; rw [List.length_map] at h1; have h2 := h.1; have h3 : p.length = 0 := h1; omega) fun x hx => by
    obtain ⟨r, _, rfl⟩ := List.mem_map.mp hx
    exact no_nl r
theorem sum_txt : ∀ p : List Row, ((p.map Row.txt).map (·.length)).sum ≤ 20 * p.length
  | [] => Nat.le_refl _
  | r :: p => by
    have h1 := sum_txt p
    have h2 := txt_len r
    simp only [List.map_cons, List.sum_cons, List.length_cons]
    omega
theorem join_len : ∀ p : List Row, (Txt.join "\n" (p.map Row.txt)).length ≤ 21 * p.length := fun p => by
  rw [join_eq, len_tl, tl_join]
  induction p with
  | nil => exact Nat.zero_le _
  | cons r p ih =>
    have h2 := txt_len r
    rw [len_tl] at h2
    cases p with
    | nil => simp only [List.map_cons, List.map_nil, joinL, List.length_cons, List.length_nil]; omega
    | cons r2 p =>
      simp only [List.map_cons, joinL, List.length_append, List.length_cons] at ih ⊢
      have : (TL.tl ("\n" : Str)).length = 1 := by decide +kernel
      omega
theorem texts_txt (p : List Row) : texts p = (p.map Row.txt).map PyData.str := by unfold texts; rw [List.map_map]; rfl
theorem ok_prg_read {f fI : Addr} {fd : FuncData} (T : Tx mg K w) (F : Fun K "read" "Program.read" s_prg_read f fd) (F_wrong_row : FnD P w K mg base "wrong_row" 4 C_wrong_row) (M : Mk K (prgC K) fI) (FI : FnR P w K mg base CX0 5 fI (spMake P w K)) : FnR P w K mg base CX0 7 f (spD P w K (C_read K)) := by
  refine fnRD F sc_prg_read (fun _ _ _ _ _ _ us hl => match us, hl with | [_, _], _ => rfl) (fun ss μ s' μ' h => ?_) (fun cdv A outer s H E c hr ss μ s' μ' h hm0 => ?_)
  · obtain ⟨p, hp, rfl, rfl, rfl, rfl⟩ := h; rfl
  · obtain ⟨p, hp, rfl, rfl, rfl, rfl⟩ := h
    have hN := sc_prg_read.nd
    have hl := join_len p
    have h8 := hp.2.1
    have h16 : (1000 : Nat) ≤ sizeLine := by decide
    exact dxs_cons (ρ1 := [_, _, .dat (.list (texts p))]) (dx_set (i := 2) (dv_is (dv_if (s := .dat (.list (texts p))) (dt_val (dv_isi (k := true) T.isinstance T.str (by decide +kernel) (dv_name 1 rfl (by nofun)) rfl))
        (fun _ => dv_is (dv_split (dv_name 1 rfl (by nofun)) dv_str (by decide) (by omega)) (by rw [read_split hp, texts_txt])) (fun z => absurd z (by decide))) rfl) hN)
      (dxs_cons (ρ1 := [_, _, .dat (.list (texts p))]) (dx_if (o := .nx _ _) (dt_is (k1 := false) (dt_tup (dv_fn F_wrong_row (hr.mono (by decide)) (da_cons (dv_name 2 rfl (by nofun)) da_nil) ⟨p, hp, .inl rfl, rfl, rfl, rfl⟩)) rfl) (fun z => absurd z (by decide)) (fun _ => dxs_nil))
      (dxs_one (dx_retIs (dv_makePrg T M FI (hr.mono (by decide)) (dv_name 2 rfl (by nofun)) hp) rfl)))
/-- Program.read(e) -/
theorem dv_read {X : Cx} {c : Ct} {ρ : List Sl} {μ μ1 : List Mo} {e : Expr} {p pos apos : Pos} {pr : List Row} {mc : Value} {pm g : Addr} (T : Tx X.mg X.K X.w) (r : ClX.CRead X.K (prgC X.K) mc) (cm : ClX.CMet X.K (prgC X.K) mc "read" pm g)
    (F : FnR X.prog X.w X.K X.mg X.base CX0 7 g (spD X.prog X.w X.K (C_read X.K))) (hr : Room 7 X.A) (he : dV X c e ρ μ (.dat (.str (Txt.join "\n" (pr.map Row.txt)))) μ1) (hpr : okProg pr) (hg : Gl X "Program" := by rfl)
    (hst : starEach [e] X.env = (false, eval e X.env) :: starEach [] X.env := by exact star_cons rfl) (hpl : (backTo pos (starEach [] X.env)).any (·.1) = false := by rfl)
    {pl : Sem Bool} (ht : eval (.Call (.Attribute (.Name "Program" p) "read" apos) [e] [] pos) X.env = (do
      let ov ← eval (.Name "Program" p) X.env
      standAt apos.atName
      let (f, first) ← holding [ov] (getMethod ov "read" pl)
      callWith pos f first (backTo pos (starEach [e] X.env)) (backToKw pos (keywordEach [] X.env))) := by rfl) : dV X c (.Call (.Attribute (.Name "Program" p) "read" apos) [e] [] pos) ρ μ (.prg (.tuple (texts pr)) (.tuple (steps pr))) μ1 := .mk fun m S H σ W R Q kk => by
  refine wE_of (ClX.pe_cmeth (E := fun _ _ _ => False) pe_w r cm F hr pass0 pa_w hst hpl ht) ?_
  refine (dv_globR (v := .ref (prgC X.K)) (X := X) (c := c) (ρ := ρ) (μ := μ) (pos := p) T.program rfl hg).run m S H σ W R _ fun m1 S1 y H1 W1 e1 p1 q1 => ?_
  refine ⟨q1, ?_⟩
  refine (da1 he hst).run m1 S1 H1 σ W1 (R.mono e1 p1) _ fun m2 S2 vs H2 W2 e2 p2 q2 => ?_
  obtain ⟨v, rfl, hv⟩ := slVs1 q2
  have Wp : MoOk X.prog X.w X.K ⟨H2, S2, []⟩ [] [] S2 H2 := (show Wd X c ([] ++ μ1) m2 S2 H2 from W2).part
  refine ⟨[], S2, [.raw (.ref (prgC X.K)), .dat (.str (Txt.join "\n" (pr.map Row.txt)))], [], _, _, ⟨pr, hpr, rfl, rfl, rfl, rfl⟩, Wp, .cons rfl (.cons hv .nil), fun m' S' v' H' W' r' => ?_⟩
  have W3 := W2.more W'
  exact kk _ S' v' H' (by rw [List.append_nil] at W3; exact W3) ((e1.trans e2).trans W'.ex0) ((p1.trans p2).trans (List.prefix_append _ _)) (by
    obtain ⟨a, dx, wv, sv, h1, h2, h3, h4⟩ := r'
    exact ⟨a, dx, wv, sv, h1, h2, h3, h4⟩)
/-! ### _law_made -/
def C_law_made : Ctr := fun ss μ s' μ' => ∃ p : List Row, okProg p ∧ ss = [.dat (.list (texts p))] ∧ μ = [] ∧ s' = .prg (.tuple (texts p)) (.tuple (steps p)) ∧ μ' = []
theorem sc_law_made : FnScope ["_law_lines"] ["_law_lines"] (defScope s_law_made) := ⟨rfl, rfl, rfl, by decide +kernel, rfl, by decide +kernel, by decide +kernel⟩
theorem ok_law_made {f : Addr} {fd : FuncData} {mc : Value} {pm g : Addr} (T : Tx mg K w) (F : Fun K "_law_made" "_law_made" s_law_made f fd) (hm : mg "_law_made" = some (.ref f)) (r : ClX.CRead K (prgC K) mc) (cm : ClX.CMet K (prgC K) mc "read" pm g) (FR : FnR P w K mg base CX0 7 g (spD P w K (C_read K))) : FnD P w K mg base "_law_made" 8 C_law_made := by
  refine fnD F hm sc_law_made (fun _ _ _ _ _ _ us hl => match us, hl with | [_], _ => rfl) (fun ss μ s' μ' h => ?_) (fun cdv A outer s H E c hr ss μ s' μ' h hm0 => ?_)
  · obtain ⟨p, hp, rfl, rfl, rfl, rfl⟩ := h; rfl
  · obtain ⟨p, hp, rfl, rfl, rfl, rfl⟩ := h
    have hs := sum_txt p
    have h8 := hp.2.1
    have h1 : ("\n" : Str).length = 1 := by decide
    exact dxs_one (dx_retIs (dv_read T r cm FR (hr.mono (by decide)) (dv_join dv_str (dv_is (dv_name 0 rfl (by nofun)) (congrArg (fun x => Sl.dat (.list x)) (texts_txt p))) (by rw [List.length_map, h1]; omega)) hp) rfl)
/-! ### len(program) -/
def rLenP (P : Program) (w : World) (K : PySem.W.Frag) : List V → Hp → VK → Prop := fun xs H Q => ∃ (a dx : Addr) (fs : List (Str × V)), xs = [.ref a] ∧ H a = some (.ins (prgC K) dx fs) ∧ spD P w K C_plen [.ref a] H (fun v H2 => ∃ n : Int, v = .int n ∧ (0 ≤ n ∧ n < 2 ^ 63) ∧ Q (.int n) H2) (fun _ _ _ => False)
theorem call_lenP {X : Cx} {fl : Addr} (hs : PySem.W.findIn X.K (.ref (prgC X.K)) "__len__" = some (some (.ref fl))) (hf : PySem.W.isFn X.K (.ref fl) = true) (F : FnR X.prog X.w X.K X.mg X.base CX0 1 fl (spD X.prog X.w X.K C_plen)) (hr : Room 2 X.A) : CallR X (.builtin "len") (rLenP X.prog X.w X.K) := by
  intro pins s σ H xs us Q I r h
  obtain ⟨a, dx, fs, rfl, ea, h⟩ := h
  obtain ⟨u, rfl, ru⟩ := r.one
  obtain rfl : u = Value.ref a := ru
  obtain ⟨mA, O, _⟩ := ins_get I.hok ea
  obtain ⟨od, J, _⟩ := O.look
  obtain ⟨mf, fr⟩ := I.fr
  refine PySem.W.len_K fr I.ok.mod.kin J hs hf ?_
  refine wpAny_call (codeAny_mono (F X.A.in1 X.stack s H [.ref a] [.ref a] _ (fun _ _ _ => False) hr.in1 I.env0.in1 (.cons rfl .nil) h) fun r s' hq => ?_)
  cases r with
  | error e => exact False.elim hq
  | ok fl =>
    cases fl with
    | ret u =>
      obtain ⟨v, H', I', rv, n, rfl, hn, q⟩ := I.after hq
      obtain ⟨t, rfl⟩ : ∃ t, u = .int n t := rv
      exact ⟨hn, .int n, H', I'.tok _, ⟨_, rfl⟩, q⟩
    | next => exact False.elim hq
    | brk => exact False.elim hq
    | cont => exact False.elim hq
theorem dv_lenP {X : Cx} {c : Ct} {ρ : List Sl} {μ μ1 : List Mo} {e : Expr} {p pos : Pos} {ws : List PyData} {sd : PyData} {fl : Addr} (hm : X.mg "len" = none) (hs : PySem.W.findIn X.K (.ref (prgC X.K)) "__len__" = some (some (.ref fl))) (hf : PySem.W.isFn X.K (.ref fl) = true) (F : FnR X.prog X.w X.K X.mg X.base CX0 1 fl (spD X.prog X.w X.K C_plen)) (hr : Room 2 X.A)
    (h : dV X c e ρ μ (.prg (.tuple ws) sd) μ1) (hl : ws.length < 1000) (hg : Gl X "len" := by rfl) (he : starEach [e] X.env = (false, eval e X.env) :: starEach [] X.env := by exact star_cons rfl) (hpl : (backTo pos (starEach [] X.env)).any (·.1) = false := by rfl) : dV X c (.Call (.Name "len" p) [e] [] pos) ρ μ (.dat (.int (ws.length : Int))) μ1 :=
  dv_callB (call_lenP hs hf F hr) hm PySem.boot_len (da1 h he) (fun m S H vs Q W q k => by
    obtain ⟨v, rfl, hv⟩ := slVs1 q
    have hv0 := hv
    obtain ⟨a, dx, wv, sv, rfl, hp, hw, hsd⟩ := hv
    have Wp : MoOk X.prog X.w X.K ⟨H, S, []⟩ [] [] S H := (show Wd X c ([] ++ μ1) m S H from W).part
    refine ⟨a, dx, _, rfl, W.sub _ _ hp, [], S, [.prg (.tuple ws) sd], [], _, _, ⟨ws, sd, rfl, rfl, rfl, rfl⟩, Wp, .cons ⟨a, dx, wv, sv, rfl, hp, hw, hsd⟩ .nil, fun m' S' v' H' W' r' => ?_⟩
    have W3 := W.more W'
    obtain rfl := Dq.of_int r'
    exact ⟨_, rfl, ⟨by omega, by omega⟩, k _ S' _ H' (by rw [List.append_nil] at W3; exact W3) W'.ex0 (List.prefix_append _ _) (.int _)⟩) hg (by decide) (by decide) he hpl
end
end Dr
set_option maxHeartbeats 4000000
/-! N1: InvalidNumber.__init__: super().__init__(), then self.given = given. -/
namespace Dr
open PySem PySem.Spec PyProof.Rows L2
/-- what the written part says of such a class -/
structure ExI (P : Program) (K : PySem.W.Frag) (mg : Str → Option Value) (C fI : Addr) : Prop where
  T : OexC K C
  mro : ∃ cd, PySem.W.clsIn K C = some cd ∧ PySem.W.alongIn K "__init__" ((cd.mro.dropWhile (· != .ref C)).drop 1) = some (some (.builtin "ValueError.__init__"))
  init : PySem.W.findIn K (.ref C) "__init__" = some (some (.ref fI))
  ty : PySem.W.typeIn K (.ref fI) = some (.type "function")
  ve : PySem.W.subIn K (.ref C) (.type "ValueError") = some true
  self : PySem.W.mroIn K C (.ref C) = some true
  opq : PySem.W.nsIn K cStatics "thirdparty.any" = some none
  no : PySem.W.findIn K (.ref C) "given" = some none
  sup : mg "super" = none
  top : (P.main.scope.names.lookup ("super" : Str)).isSome = false
  fn : ∃ (oc : Value) (od : Option Addr) (kV doc pm : Value) (an : Option Addr) (cda : Addr) (ct : Value) (osl : Array (Option Value)) (cc : Addr) (ccl : Value) (cdd : Option Addr) (vs : Array Value) (ccs : Array (Option Value)) (file : Str) (tf : Tok) (cl : Value) (cld : Option Addr) (csl : Array (Option Value)),
    K.lookup fI = some ⟨oc, od, .func (PySem.W.fnX "__init__" numQ (defArgs s_num_init) (defBody s_num_init) (defScope s_num_init) [("__class__", cc)] .none kV doc pm an (.ref cda) ct), osl⟩ ∧ PySem.W.codeIn K (.ref cda) numQ = true ∧
    K.lookup cda = some ⟨ccl, cdd, .fields vs, ccs⟩ ∧ vs[2]? = some (.str file tf) ∧ ((P.main.file : Str) == file) = true ∧ K.lookup cc = some ⟨cl, cld, .cell (some (.ref C)), csl⟩
theorem sc_num : NdefX.NScope ["self", "given", "__class__"] ["self", "given"] ["__class__"] (defScope s_num_init) := NdefX.nscope_by (by decide +kernel)
/-- what it promises -/
def spNum (C : Addr) : Sp := fun vs H Q _ => ∃ (a : Addr) (v : V), vs = [.ref a, v] ∧ H a = some (exo a C none) ∧ ∀ dx, H dx = none → dx ≠ a → Q .non (upd (upd H dx (exd dx [("given", v)])) a (exo a C (some dx)))
section
variable {P : Program} {w : World} {K : PySem.W.Frag} {mg : Str → Option Value} {base : Heap} {C fI : Addr}
section
variable {X : Cx} {pins : List (Addr × Obj)} {σ : L2.St} {H : Hp} {s : Shared} {Q : Value → Shared → Prop} {E : Value → Shared → Prop} {A : Around}
/-- the bound ValueError.__init__ of an exception that is being made -/
theorem kcall {a u : Addr} (T : OexC X.K C) (I : Inv X pins σ H s) (e : H a = some (exo a C none)) (hu : s.heap.get? u = some (PySem.W.kxs_mw "ValueError.__init__" a)) (h : ∀ s', Inv X pins σ H s' → Q .none s') :
    wpAny (model X.prog X.w) A (call (.ref u) []) Q E s := by
  obtain ⟨nm, q, N, bs, bm, sn, sub, ab, col, dd, k0, k1, k2, k3, k5, hC, hbm⟩ := T.cls
  obtain ⟨t1, ho⟩ := exo_at I.hok e
  have hC := I.kIn _ _ hC
  obtain ⟨hp, g, d, tk, os⟩ := s
  have FB := F.excBase_ValueError
  refine wpAny_call (codeAny_of_tree ?_)
  show wpAny (model X.prog X.w) A.in1 (callAny (.ref u) { pos := [], kw := [] }) _ _ _
  simp only [callAny]
  refine wpAny_bind (wpAny_load hu ?_)
  have y1 : (Value.type "method-wrapper" == Value.type "method" || Value.type "method-wrapper" == Value.type "builtin_function_or_method" || Value.type "method-wrapper" == Value.type "method-wrapper") = true := by decide
  simp only [PySem.W.kxs_mw, y1, if_true]
  refine PySem.W.KFB.if_so (by decide) ?_
  refine wpAny_bind (PySem.W.check_bound_init FB.toExcCallFacts hC ho rfl ?_)
  refine wpAny_bind (wpAny_pure (wpAny_pure ?_))
  refine ⟨plainId_quiet FB.init.plain _, codeAny_builtin FB.initEntry ?_⟩
  refine PySem.W.exc_init_tree (cls := .ref C) (t0 := t1) (dv := none) (c2 := .none) (c3 := .none) (b4 := .bool false) ho (Nat.zero_le _) fun h' k hx ht => ?_
  have J := I.write (t' := tk) (x := a) (e := a) (o := exo a C none) (by rw [e]; exact True.intro) (.inl rfl) k ⟨_, hx⟩ (exo_ok hx)
  have eu : upd H a (exo a C none) = H := funext fun b => by
    by_cases hb : b = a
    · rw [hb, upd_same, e]
    · rw [upd_ne hb]
  rw [eu] at J
  exact h _ J
end
theorem ok_num_init (x : ExI P K mg C fI) : ∃ fd, FnOk P w K mg base (L2.CX P w) 1 fI fd ["self", "given"] (spNum C) ∧ Binds K fd ["self", "given"] [] := by
  obtain ⟨oc, od, kV, doc, pm, an, cda, ct, osl, cc, ccl, cdd, vs, ccs, file, tf, cl, cld, csl, lk, hcd, hcode, hvs, hfile, hcell⟩ := x.fn
  refine ⟨PySem.W.fnX "__init__" numQ (defArgs s_num_init) (defBody s_num_init) (defScope s_num_init) [("__class__", cc)] .none kV doc pm an (.ref cda) ct, ⟨fun vs H Q E h => ?_, fun A outer s H args us vs' Q E hr e0 hb r hsp => ?_⟩, .all fun us hl => ?_⟩
  · obtain ⟨a, v, rfl, _⟩ := h; rfl
  · obtain ⟨a, v, rfl, ea, k⟩ := hsp
    have Kin : K.In s.heap := e0.mod.kin.keeps fun b o e => (e0.bs b o e).1
    have lim : s.heap.NoLimit := e0.mod.nolimit.keeps fun b o e => (e0.bs b o e).1
    refine ks_codeAny_call_defAt hr.depth (Kin _ _ lk) rfl lim (PySem.W.codeRec_of Kin hcd) rfl hb sc_num.nocell ?_ (fun h₁ hns kp => ?_)
    · intro y hy
      have := (List.of_mem_zip hy).1
      exact sc_num.par _ this
    · let F0 : NdefX.NF := ⟨"__init__", numQ, defArgs s_num_init, defBody s_num_init, defScope s_num_init, [("__class__", cc)], cda⟩
      have hcc : H cc = none := (e0.bs _ _ (e0.mod.kin _ _ hcell)).2
      have look1 : ∀ {y : Str} {c : Addr}, List.lookup y [(("__class__" : Str), cc)] = some c → y = "__class__" ∧ c = cc := fun {y c} q => by
        by_cases hy : y = "__class__"
        · subst hy
          exact ⟨rfl, (Option.some.inj q).symm⟩
        · have : (y == ("__class__" : Str)) = false := by simpa using hy
          simp [List.lookup, this] at q
      have CA : NdefX.CellsAt [("__class__", cc)] ["__class__"] [none] s.heap H := by
        refine ⟨rfl, fun y c q => ?_, fun y z c q1 q2 => (look1 q1).1.trans (look1 q2).1.symm, fun i y q => ?_⟩
        · obtain ⟨_, rfl⟩ := look1 q
          exact ⟨hcc, some (.ref C), _, Kin _ _ hcell, rfl⟩
        · match i, q with
          | 0, q => cases q; exact ⟨cc, rfl, fun v hv => by cases hv⟩
      have I : Inv (NdefX.ncx (L2.CX P w) P w K mg base ["self", "given", "__class__"] F0 fI A outer s H E) [] (NdefX.startF ["self", "given", "__class__"] [.ref a, v] [none]) H { s with heap := h₁, toks := s.toks + (["self", "given"].zip us).length } := NdefX.inv_startN sc_num hr.hd e0 rfl r CA hns kp
      obtain ⟨u1, u2, rfl⟩ : ∃ u1 u2, us = [u1, u2] := by
        cases r with | cons _ r => cases r with | cons _ r => cases r; exact ⟨_, _, rfl⟩
      obtain rfl : u1 = .ref a := by cases r with | cons r _ => exact r
      refine ks_wpAt_execs_cons (ks_wpAt_Expr_any (ks_wpAt_MethodCall ?_))
      refine ks_wpAt_super_base (f := fI) (cc := cda) (env := NdefX.envF F0 fI s.heap.objs.size) rfl rfl (by decide) rfl (I.kIn _ _ lk) rfl rfl rfl (I.kIn _ _ hcode) rfl hvs hfile x.top ?_
      obtain ⟨mb, g1, g2⟩ := I.mod.blt
      refine PySem.W.ks_loadName_global rfl rfl (Calls.loadGlobal_builtin (I.mod.glob.keeps I.bk) x.sup (g1.keeps I.bk) ((g2 "super" (by decide)).trans (by decide +kernel)) ⟨rfl, ?_⟩)
      refine wpAny_loadName_free rfl rfl rfl ⟨_, I.kIn _ _ hcell, rfl⟩ ?_
      refine wpAny_loadName_local rfl rfl hns rfl ?_
      obtain ⟨nm, q, N, bs, bm, sn, sub, ab, col, dd, k0, k1, k2, k3, k5, hC, hbm⟩ := x.T.cls
      obtain ⟨cd, hcd2, hal⟩ := x.mro
      refine ks_wpAny_isType_cls (I.kIn _ _ hC) rfl ⟨rfl, ?_⟩
      obtain ⟨t1, ho⟩ := exo_at I.hok ea
      refine ks_wpAny_call_super (I.kIn _ _ hC) rfl ho rfl (fun c z => by cases z) (PySem.W.looks_mroIn I.kIn x.self) fun h2 hso k2 => ?_
      have I2 := I.kept (h' := h2) (t' := s.toks + (["self", "given"].zip [Value.ref a, u2]).length) k2
      have ia : PySem.W.InstAt h2 a _ C none := ⟨k2 _ _ ho, rfl, rfl, trivial⟩
      refine PySem.W.kxs_getMethod PySem.W.kxs_ValueError hso (PySem.W.looks_opaque I2.kIn x.opq) (l₀ := cd.mro) ?_ rfl I2.kIn hal (ia.type.andThen (PySem.W.looks_subIn I2.kIn x.ve)) (PySem.W.ks_ne I2.kIn ia hcd2) (by decide) ?_
      · exact fun A Q E s k q => wpAny_bind ((PySem.W.looks_clsIn I2.kIn hcd2) A _ E s k (wpAny_pure q))
      have I3 := I2.kept (h' := h2.push (PySem.W.kxs_mw "ValueError.__init__" a)) (t' := s.toks + (["self", "given"].zip [Value.ref a, u2]).length + 1) (fun b o z => Heap.get?_push_of_some _ z)
      refine PySem.W.kxs_callWith (i := "ValueError.__init__") (x := a) rfl (evalArgs_empty ⟨Heap.get?_push_size _ rfl, ?_⟩)
      refine kcall x.T I3 ea (Heap.get?_push_size _ rfl) fun s4 I4 => ?_
      refine wpAt_of_wpAny ?_
      refine wpAny_mono ((pss_one (ps_ost (X := NdefX.ncx (L2.CX P w) P w K mg base ["self", "given", "__class__"] F0 fI A outer s H E) (pe_var (i := 0) rfl (.inl rfl)) (pe_var (i := 1) rfl (.inl rfl)))).run [] s4 _ H { nx := fun _ H' => Q .non H', rt := Q } I4 ⟨v, rfl, .ref a, rfl, a, C, rfl, x.T, x.no, .inl ⟨ea, fun dx n ne => k dx n ne⟩⟩) (fun fl s' hs => ?_) fun e s' hs => hs
      have fin : ∀ {σ' : L2.St} {H' : Hp} {v : V} {u : Value}, Inv (NdefX.ncx (L2.CX P w) P w K mg base ["self", "given", "__class__"] F0 fI A outer s H E) [] σ' H' s' → L2.RelV v u → Q v H' → CE outer P w H s Q u s' := fun {σ' H' v u} J rv q => ⟨v, H', J.os, J.bare, J.base, J.hok, rv, q⟩
      cases fl with
      | ret u =>
        obtain ⟨v, σ', H', J, rv, q⟩ := hs
        exact fin J rv q
      | next =>
        obtain ⟨σ', H', J, q⟩ := hs
        exact fin (v := V.non) (u := Value.none) J rfl q
      | brk => obtain ⟨_, _, _, q⟩ := hs; exact False.elim q
      | cont => obtain ⟨_, _, _, q⟩ := hs; exact False.elim q
  · match us, hl with | [_, _], _ => rfl
end
end Dr
set_option maxHeartbeats 4000000
/-! F23: odds. -/
namespace Dr
open PySem PySem.Spec PyProof.Rows L2
section
variable {X : Cx} {c : Ct} {ρ : List Sl} {μ μ1 : List Mo} {s : Sl} {e : Expr} {p pos pos' : Pos} {o : Out} {C fI : Addr} {E : XK}
/-- raise InvalidNumber(e): nothing comes behind it -/
theorem dx_raiseN (x : ExI X.prog X.K X.mg C fI) (hc : X.calm = true) (tk : Takes X (fun cls d _ H => E cls d H)) (hr : Room 2 X.A) (hm : X.mg "InvalidNumber" = some (.ref C)) (he : dV X c e ρ μ s μ1)
    (hE : ∀ m S H v dx, Wd X c μ1 m S H → SlV X.K S m v s → H dx = none → E (.ref C) (some dx) (upd H dx (.xd [("given", v)]))) (hg : Gl X "InvalidNumber" := by rfl)
    (hs : starEach [e] X.env = (false, eval e X.env) :: starEach [] X.env := by exact star_cons rfl) (hpl : (backTo pos (starEach [] X.env)).any (·.1) = false := by rfl) : dX X c (.Raise (some (.Call (.Name "InvalidNumber" p) [e] [] pos)) none pos') ρ μ o := .mk fun m S H σ W R D kk => by
  obtain ⟨fd, F, hb⟩ := ok_num_init (w := X.w) (base := X.base) x
  refine wS_of (ps_raise (W := fun cls d _ H => E cls d H) hc tk (pmk_oex (ds := []) (dvs := []) x.T x.init x.ty F hr hb .nil (passes_call tk (fun _ _ _ _ z => z.elim)) hg hm pa_w (by decide) hs hpl)) ?_
  refine (da1 he hs).run m S H σ W R _ fun m1 S1 vs H1 W1 e1 p1 q1 => ?_
  obtain ⟨v, rfl, hv⟩ := slVs1 q1
  refine ⟨Nat.le_of_ble_eq_true rfl, fun a na => ⟨a, v, rfl, upd_same, fun dx nd ne => ⟨rfl, dx, [("given", v)], upd_same, by rw [upd_ne ne, upd_same], by rw [upd_ne ne] at nd; exact nd, ?_⟩⟩⟩
  rw [upd_ne ne] at nd
  have e : upd (del (upd (upd (upd H1 a (exo a C none)) dx (exd dx [("given", v)])) a (exo a C (some dx))) a) dx (.xd [("given", v)]) = upd H1 dx (.xd [("given", v)]) := funext fun b => by
    by_cases h1 : b = dx
    · rw [h1, upd_same, upd_same]
    · rw [upd_ne h1, upd_ne h1]
      by_cases h2 : b = a
      · rw [h2, del_same, na]
      · rw [del_ne h2, upd_ne h2, upd_ne h1, upd_ne h2]
  show E (.ref C) (some dx) _
  rw [e]
  exact hE m1 S1 H1 v dx W1 hv nd
end
theorem cut_if (r : Row) : PyData.eqv (.tuple (cutD r.stepL none (some 2))) (.tuple [.str "if", .str "c"]) = r.isC := by cases r <;> first | rfl | decide +kernel
theorem cut_plain (r : Row) : PyData.plain (.tuple (cutD r.stepL none (some 2))) = true := by cases r <;> first | rfl | decide +kernel
section
variable {P : Program} {w : World} {K : PySem.W.Frag} {mg : Str → Option Value} {base : Heap}
abbrev bxE (P : Program) (w : World) (K : PySem.W.Frag) (mg : Str → Option Value) (base : Heap) (N : List Str) (qual : Str) (st : Stmt) (f : Addr) (cdv : Value) (A : Around) (outer : List Env) (s : Shared) (H : Hp) (E : XK) : Cx := cxOf (L2.CX P w) P w K mg base N qual (defScope st) f cdv A outer s H E
theorem sc_odds : FnScope ["program", "index", "told", "state", "least", "most", "each"] ["program", "index"] (defScope s_odds) := ⟨rfl, rfl, rfl, by decide +kernel, rfl, by decide +kernel, by decide +kernel⟩
/-- not the index of a test of c -/
def notTest (p : List Row) (d : PyData) : Prop := ∀ i : Int, d = .int i → 0 ≤ i → i < p.length → (rowAt p i).isC = false
/-- what odds promises, whether it gives or raises -/
def spOdds (P : Program) (w : World) (K : PySem.W.Frag) (C : Addr) : Sp := fun vs H Q E => ∃ (S : Hp) (p : List Row) (l : List Stt) (d : PyData) (vp vi : V), vs = [vp, vi] ∧ Srch p l ∧ MoOk P w K ⟨H, S, []⟩ [] [] S H ∧ SlV K S [] vp (.prg (.tuple (texts p)) (.tuple (steps p))) ∧ Dq K S vi d ∧
  ((∃ (i : Int) (q : Qt) (f8 : F8), d = .int i ∧ 0 ≤ i ∧ i < p.length ∧ rowAt p i = .ifc q f8 ∧ ∀ S' v H', MoOk P w K ⟨H, S, []⟩ [] [] S' H' → Dq K S' v (oddsOf (toldQ q i l)) → Q v H') ∨
   (notTest p d ∧ ∀ S' v H' dx, MoOk P w K ⟨H, S, []⟩ [] [] S' H' → Dq K S' v d → H' dx = none → E (.ref C) (some dx) (upd H' dx (.xd [("given", v)]))))
theorem ok_odds {f C fI fl : Addr} {fd : FuncData} (T : Tx mg K w) (F : Fun K "odds" "odds" s_odds f fd) (x : ExI P K mg C fI) (hmC : mg "InvalidNumber" = some (.ref C)) (hls : PySem.W.findIn K (.ref (prgC K)) "__len__" = some (some (.ref fl))) (hlf : PySem.W.isFn K (.ref fl) = true) (FL : FnR P w K mg base CX0 1 fl (spD P w K C_plen))
    (F_check_program : FnD P w K mg base "check_program" 1 C_check_program) (F_is_between : FnD P w K mg base "is_between" 2 C_is_between) (F_reached : FnD P w K mg base "reached" 3 C_reached) (F_chances_at : FnD P w K mg base "chances_at" 2 C_chances_at) (F_is_less : FnD P w K mg base "is_less" 1 C_is_less) : FnOk P w K mg base (L2.CX P w) 4 f fd ["program", "index"] (spOdds P w K C) := by
  refine F.okX (N := ["program", "index", "told", "state", "least", "most", "each"]) sc_odds (fun vs H Q E h => ?_) (fun cdv A outer s H vs Q E hr h => ⟨_, pss_w, ?_⟩)
  · obtain ⟨S, p, l, d, vp, vi, rfl, _⟩ := h; rfl
  obtain ⟨S, p, l, d, vp, vi, rfl, Sr, W, hp, hi, hk⟩ := h
  have hr : Room 3 (bxE P w K mg base ["program", "index", "told", "state", "least", "most", "each"] "odds" s_odds f cdv A outer s H E).A := hr
  have hu := hr.units
  have hN := sc_odds.nd
  have R0 : SlOk K S [] (L2.start ["program", "index", "told", "state", "least", "most", "each"] [vp, vi]) (startSl ["program", "index", "told", "state", "least", "most", "each"] [.prg (.tuple (texts p)) (.tuple (steps p)), .dat d]) := slOk_start (.cons hp (.cons hi .nil))
  have hn := texts_len p
  have hn8 := Sr.ok.2.1
  have hpw : PassesOwn (model P w) (bxE P w K mg base ["program", "index", "told", "state", "least", "most", "each"] "odds" s_odds f cdv A outer s H E).A (bxE P w K mg base ["program", "index", "told", "state", "least", "most", "each"] "odds" s_odds f cdv A outer s H E).env (bxE P w K mg base ["program", "index", "told", "state", "least", "most", "each"] "odds" s_odds f cdv A outer s H E).xe := passes_of rfl
  -- index within
  have hbt : dV (bxE P w K mg base ["program", "index", "told", "state", "least", "most", "each"] "odds" s_odds f cdv A outer s H E) ⟨H, S, []⟩ (match defBody s_odds with | _ :: .If (.BoolOp _ (.UnaryOp _ e _ :: _) _) _ _ _ :: _ => e | _ => .Constant .none 0 ⟨0, 0, 0, 0⟩) [.prg (.tuple (texts p)) (.tuple (steps p)), .dat d, .no, .no, .no, .no, .no] [] (.dat (.bool (betw d 0 ((p.length : Int) - 1)))) [] := by
    refine dv_fn F_is_between (hr.mono (by decide)) (da_cons (dv_name 1 rfl (by nofun)) (da_cons dv_int (da_cons (dv_sub (dv_lenP T.len hls hlf FL (hr.mono (by decide)) (dv_name 0 rfl (by nofun)) (by omega)) dv_int) da_nil))) ⟨d, 0, (p.length : Int) - 1, by rw [hn], rfl, rfl, rfl⟩
  rcases hk with ⟨i, q, f8, rfl, h0, h1, hrow, hQ⟩ | ⟨hnt, hE⟩
  · have hst := steps_at h0 h1
    rw [hrow] at hst
    have hred := told_redu (q := q) (i := i) (l := l) fun s hs => ⟨(Sr.gd s hs).2, (Sr.gd s hs).1.iv⟩
    have hlen := told_len q i l
    have hl := Sr.len
    have h16 : (970000 : Nat) ≤ sizeLine := by decide
    have hb : betw (.int i) 0 ((p.length : Int) - 1) = true := by unfold betw; rw [Bool.and_eq_true, decide_eq_true_eq, decide_eq_true_eq]; omega
    rw [hb] at hbt
    have D : dXs (bxE P w K mg base ["program", "index", "told", "state", "least", "most", "each"] "odds" s_odds f cdv A outer s H E) ⟨H, S, []⟩ (defBody s_odds) (startSl ["program", "index", "told", "state", "least", "most", "each"] [.prg (.tuple (texts p)) (.tuple (steps p)), .dat (.int i)]) [] (.rt (.dat (oddsOf (toldQ q i l))) []) := by
      refine dxs_drop (μ1 := []) (ν := [.lst ((toldQ q i l).map encF), .dic (l.map encS)]) ?_ (Nat.le_refl _)
      refine dxs_cons (ρ1 := [.prg (.tuple (texts p)) (.tuple (steps p)), .dat (.int i), .no, .no, .no, .no, .no]) (μ1 := []) (dx_expr (dv_fn F_check_program (hr.mono (by decide)) (da_cons (dv_name 0 rfl (by nofun)) da_nil) ⟨_, _, rfl, rfl, rfl, rfl⟩)) ?_
      refine dxs_guard (μ1 := []) (dt_is (k1 := false) (dt_w (dw_or (k1 := false) (dt_not (dt_val hbt)) (fun _ => dw_or1 (dt_cmp (dv_slT (dv_ixT (ds := steps p) (dv_steps T.prg (dv_name 0 rfl (by nofun))) (dv_name 1 rfl (by nofun)) hst) do_none (do_some dv_int)) (dv_tup (dd_cons dv_str (dd_cons dv_str dd_nil))) (c_neD hu _ _ (cut_plain (.ifc q f8)) rfl (Nat.le_trans (Nat.min_le_right _ _) (by decide))))))) (by rw [cut_if (.ifc q f8)]; rfl)) (fun z => absurd z (by decide)) (fun _ => ?_)
      refine dxs_cons (ρ1 := [.prg (.tuple (texts p)) (.tuple (steps p)), .dat (.int i), .own 0, .no, .no, .no, .no]) (μ1 := [.lst []]) (dx_set (i := 2) (dv_lstM dd_nil) hN) ?_
      refine dxs_cons (ρ1 := [.prg (.tuple (texts p)) (.tuple (steps p)), .dat (.int i), .own 0, .no, .no, .no, .no]) (μ1 := [.lst ((toldQ q i l).map encF), .dic (l.map encS)]) (dx_forK (j := 1) (ks := l.map encS) rfl hpw (dv_callN F_reached (hr.mono (by decide)) (da_cons (dv_name 0 rfl (by nofun)) da_nil) ⟨p, l, Sr.ok, Sr.eq, rfl, rfl, rfl, rfl⟩ (fun u hu => by cases hu with | head => trivial | tail _ h => cases h)) rfl
        (fun m ρ μ => ρ = [.prg (.tuple (texts p)) (.tuple (steps p)), .dat (.int i), .own 0, .no, .no, .no, .no] ∧ μ = [.lst ((toldQ q i (l.take m)).map encF), .dic (l.map encS)]) ⟨rfl, rfl⟩ (fun m ρ1 μ' h => by obtain ⟨_, rfl⟩ := h; rfl)
        (fun m d2 ρ1 μ' hd h => by
          obtain ⟨rfl, rfl⟩ := h
          obtain ⟨s, hs, rfl⟩ := st_at hd
          have hg := Sr.gd s (List.mem_of_getElem? hs)
          have hl2 := told_len q i (l.take m)
          have hl3 := ch_len q s
          have hl4 : (l.take m).length ≤ l.length := by rw [List.length_take]; exact Nat.min_le_right _ _
          rw [take_snoc hs, told_snoc]
          refine ⟨[.prg (.tuple (texts p)) (.tuple (steps p)), .dat (.int i), .own 0, .dat (encS s), .no, .no, .no], dg_name (i := 3) hN, fun L => ?_⟩
          by_cases hrw : s.row = i
          · rw [if_pos hrw, List.map_append]
            exact ⟨[.prg (.tuple (texts p)) (.tuple (steps p)), .dat (.int i), .own 0, .dat (encS s), .no, .no, .no], [.lst ((toldQ q i (l.take m)).map encF ++ (chAt q s).map encF), .dic (l.map encS)], dxs_one (dx_if (dt_is (k1 := true) (dt_cmp (dv_ixT (dv_name 3 rfl (by nofun)) dv_int rfl) (dv_name 1 rfl (by nofun)) (c_eqI _ _)) (decide_eq_true hrw)) (fun _ => dxs_one (dx_expr (dv_extend (j := 0) (ds := (toldQ q i (l.take m)).map encF) (dv_name 2 rfl (by nofun)) (dv_fn F_chances_at (hr.mono (by decide)) (da_cons (dv_ixT (ds := steps p) (dv_steps T.prg (dv_name 0 rfl (by nofun))) (dv_name 1 rfl (by nofun)) hst) (da_cons (dv_name 3 rfl (by nofun)) da_nil)) ⟨q, f8, s, rfl, rfl, rfl, rfl, hg.2⟩) rfl rfl (by rw [List.length_map, List.length_map]; omega)))) (fun z => absurd z (by decide))),
              [_, _, _, .no, _, _, _], ⟨.inr rfl, .inr rfl, .inr rfl, .inl rfl, .inr rfl, .inr rfl, .inr rfl, trivial⟩, rfl, rfl⟩
          · rw [if_neg hrw, List.append_nil]
            exact ⟨[.prg (.tuple (texts p)) (.tuple (steps p)), .dat (.int i), .own 0, .dat (encS s), .no, .no, .no], [.lst ((toldQ q i (l.take m)).map encF), .dic (l.map encS)], dxs_one (dx_if (dt_is (k1 := false) (dt_cmp (dv_ixT (dv_name 3 rfl (by nofun)) dv_int rfl) (dv_name 1 rfl (by nofun)) (c_eqI _ _)) (decide_eq_false hrw)) (fun z => absurd z (by decide)) (fun _ => dxs_nil)),
              [_, _, _, .no, _, _, _], ⟨.inr rfl, .inr rfl, .inr rfl, .inl rfl, .inr rfl, .inr rfl, .inr rfl, trivial⟩, rfl, rfl⟩)
        (fun ρ1 μ' h => by
          obtain ⟨rfl, rfl⟩ := h
          exact ⟨_, Fg.refl _, by rw [List.length_map, List.take_length]⟩)) ?_
      generalize toldQ q i l = told at *
      cases told with
      | nil =>
        exact dxs_stop (dx_if (dt_is (k1 := true) (dt_cmp (dv_name 2 rfl (by nofun)) (dv_lst dd_nil) (c_eqO hu (.list []) rfl (plain_frL []) rfl (Nat.le_trans (Nat.min_le_right _ _) (by decide)))) (by decide +kernel)) (fun _ => dxs_one (dx_retIs dv_non rfl)) (fun z => absurd z (by decide))) trivial
      | cons f0 rest =>
        have hf0 := hred f0 List.mem_cons_self
        have step : ∀ m e, (f0 :: rest)[m]? = some e → minF ((f0 :: rest).take m) f0 ∈ redu ∧ maxF ((f0 :: rest).take m) f0 ∈ redu ∧ e ∈ redu := fun m e he =>
          ⟨min_in _ hf0 fun x hx => hred x (List.mem_of_mem_take hx), max_in _ hf0 fun x hx => hred x (List.mem_of_mem_take hx), hred e (List.mem_of_getElem? he)⟩
        refine dxs_guard (dt_is (k1 := false) (dt_cmp (dv_name 2 rfl (by nofun)) (dv_lst dd_nil) (c_eqO hu (.list []) rfl (plain_frL (f0 :: rest)) rfl (Nat.le_trans (Nat.min_le_right _ _) (by decide)))) (by simp [PyData.eqv, PyData.eqvAll])) (fun z => absurd z (by decide)) (fun _ => ?_)
        refine dxs_cons (ρ1 := [.prg (.tuple (texts p)) (.tuple (steps p)), .dat (.int i), .own 0, .no, .dat (encF f0), .dat (encF f0), .no]) (dx_par2 (i := 4) (j := 5) rfl hN (da_cons (dv_ixM (j := 0) (ds := (f0 :: rest).map encF) (dv_name 2 rfl (by nofun)) dv_int rfl (atI_pos (by decide) rfl)) (da_cons (dv_ixM (j := 0) (ds := (f0 :: rest).map encF) (dv_name 2 rfl (by nofun)) dv_int rfl (atI_pos (by decide) rfl)) da_nil))) ?_
        refine dxs_cons (ρ1 := [.prg (.tuple (texts p)) (.tuple (steps p)), .dat (.int i), .own 0, .no, .dat (encF (minF (f0 :: rest) f0)), .dat (encF (maxF (f0 :: rest) f0)), .no]) (μ1 := [.lst ((f0 :: rest).map encF), .dic (l.map encS)]) (dx_for rfl hpw (di_own (j := 0) (ds := (f0 :: rest).map encF) (dv_name 2 rfl (by nofun)) rfl)
          (fun m ρ μ => ρ = [.prg (.tuple (texts p)) (.tuple (steps p)), .dat (.int i), .own 0, .no, .dat (encF (minF ((f0 :: rest).take m) f0)), .dat (encF (maxF ((f0 :: rest).take m) f0)), .no] ∧ μ = [.lst ((f0 :: rest).map encF), .dic (l.map encS)]) ⟨rfl, rfl⟩ (fun m ρ1 μ' h => by obtain ⟨_, rfl⟩ := h; rfl)
          (fun m d2 ρ1 μ' hd h => by
            obtain ⟨rfl, rfl⟩ := h
            obtain ⟨e, he, rfl⟩ := fr_at hd
            obtain ⟨r1, r2, r3⟩ := step m e he
            rw [take_snoc he, min_snoc, max_snoc]
            generalize minF ((f0 :: rest).take m) f0 = a at *
            generalize maxF ((f0 :: rest).take m) f0 = b at *
            have k1 := redu_rng a r1; have k2 := redu_rng b r2; have k3 := redu_rng e r3
            refine ⟨[.prg (.tuple (texts p)) (.tuple (steps p)), .dat (.int i), .own 0, .no, .dat (encF a), .dat (encF b), .dat (encF e)], .nx [.prg (.tuple (texts p)) (.tuple (steps p)), .dat (.int i), .own 0, .no, .dat (encF (minS a e)), .dat (encF (maxS b e)), .dat (encF e)] [.lst ((f0 :: rest).map encF), .dic (l.map encS)], dg_name (i := 6) hN, ?_, [_, _, _, _, _, _, .no], ⟨.inr rfl, .inr rfl, .inr rfl, .inr rfl, .inr rfl, .inr rfl, .inl rfl, trivial⟩, rfl, rfl⟩
            exact dxs_cons (ρ1 := [_, _, _, _, _, _, _]) (dx_set (i := 4) (dv_if (s := .dat (encF (minS a e))) (dt_val (dv_fn F_is_less (hr.mono (by decide)) (da_cons (dv_name 6 rfl (by nofun)) (da_cons (dv_name 4 rfl (by nofun)) da_nil)) ⟨e, a, rfl, rfl, rfl, rfl, ⟨by omega, by omega⟩, by omega, by omega⟩)) (fun z => dv_is (dv_name 6 rfl (by nofun)) (by unfold minS; rw [if_pos z])) (fun z => dv_is (dv_name 4 rfl (by nofun)) (by unfold minS; rw [if_neg (by rw [z]; decide)]))) hN) (
              dxs_one (dx_set (i := 5) (dv_if (s := .dat (encF (maxS b e))) (dt_val (dv_fn F_is_less (hr.mono (by decide)) (da_cons (dv_name 5 rfl (by nofun)) (da_cons (dv_name 6 rfl (by nofun)) da_nil)) ⟨b, e, rfl, rfl, rfl, rfl, ⟨by omega, by omega⟩, by omega, by omega⟩)) (fun z => dv_is (dv_name 6 rfl (by nofun)) (by unfold maxS; rw [if_pos z])) (fun z => dv_is (dv_name 5 rfl (by nofun)) (by unfold maxS; rw [if_neg (by rw [z]; decide)]))) hN)))
          (fun ρ1 μ' h => by
            obtain ⟨rfl, rfl⟩ := h
            exact ⟨_, Fg.refl _, by rw [List.length_map, List.take_length]⟩)) ?_
        exact dxs_one (dx_retIs (dv_tup (dd_cons (dv_name 4 rfl (by nofun)) (dd_cons (dv_name 5 rfl (by nofun)) dd_nil))) rfl)
    exact D.run [] S H _ W R0 _ fun m' S' v H' W' e' r' => by
      have hm' : m' = [] := List.eq_nil_of_length_eq_zero W'.len.symm
      subst hm'
      exact hQ S' v H' W' r'
  · have D : dXs (bxE P w K mg base ["program", "index", "told", "state", "least", "most", "each"] "odds" s_odds f cdv A outer s H E) ⟨H, S, []⟩ (defBody s_odds) (startSl ["program", "index", "told", "state", "least", "most", "each"] [.prg (.tuple (texts p)) (.tuple (steps p)), .dat d]) [] (.rt (.own 0) []) := by
      refine dxs_cons (ρ1 := [.prg (.tuple (texts p)) (.tuple (steps p)), .dat d, .no, .no, .no, .no, .no]) (μ1 := []) (dx_expr (dv_fn F_check_program (hr.mono (by decide)) (da_cons (dv_name 0 rfl (by nofun)) da_nil) ⟨_, _, rfl, rfl, rfl, rfl⟩)) ?_
      cases hb : betw d 0 ((p.length : Int) - 1) with
      | false =>
        rw [hb] at hbt
        exact dxs_stop (dx_if (μ1 := []) (dt_is (k1 := true) (dt_w (dw_or (k1 := true) (k2 := false) (dt_not (dt_val hbt)) (fun z => absurd z (by decide)))) rfl) (fun _ => dxs_one (dx_raiseN x rfl (takes_of rfl rfl rfl rfl) (hr.mono (by decide)) hmC (dv_name 1 rfl (by nofun)) (fun m S' H' v dx W' r' n => by
          have hm' : m = [] := List.eq_nil_of_length_eq_zero W'.len.symm
          subst hm'
          exact hE S' v H' dx W' r' n))) (fun z => absurd z (by decide))) trivial
      | true =>
        rw [hb] at hbt
        obtain ⟨i, rfl, h0, h1⟩ : ∃ i : Int, d = .int i ∧ 0 ≤ i ∧ i < p.length := by
          cases d with
          | int i =>
            have hb : (decide (0 ≤ i) && decide (i ≤ (p.length : Int) - 1)) = true := hb
            rw [Bool.and_eq_true, decide_eq_true_eq, decide_eq_true_eq] at hb
            exact ⟨i, rfl, hb.1, by omega⟩
          | _ => exact absurd (show false = true from hb) (by decide)
        have hst := steps_at h0 h1
        exact dxs_stop (dx_if (μ1 := []) (dt_is (k1 := true) (dt_w (dw_or (k1 := false) (dt_not (dt_val hbt)) (fun _ => dw_or1 (dt_cmp (dv_slT (dv_ixT (ds := steps p) (dv_steps T.prg (dv_name 0 rfl (by nofun))) (dv_name 1 rfl (by nofun)) hst) do_none (do_some dv_int)) (dv_tup (dd_cons dv_str (dd_cons dv_str dd_nil))) (c_neD hu _ _ (cut_plain _) rfl (Nat.le_trans (Nat.min_le_right _ _) (by decide))))))) (by rw [cut_if, hnt i rfl h0 h1]; rfl)) (fun _ => dxs_one (dx_raiseN x rfl (takes_of rfl rfl rfl rfl) (hr.mono (by decide)) hmC (dv_name 1 rfl (by nofun)) (fun m S' H' v dx W' r' n => by
          have hm' : m = [] := List.eq_nil_of_length_eq_zero W'.len.symm
          subst hm'
          exact hE S' v H' dx W' r' n))) (fun z => absurd z (by decide))) trivial
    exact D.run [] S H _ W R0 _ fun m' S' v H' W' e' r' => by
      obtain ⟨a, ha, _⟩ := r'
      have hm' : m' = [] := List.eq_nil_of_length_eq_zero W'.len.symm
      subst hm'
      cases ha
end
end Dr
set_option maxHeartbeats 4000000
/-! N2: what an except suite, and a def that it calls, ask of the caught exception. -/
namespace Dr
open PySem PySem.Spec PyProof.Rows L2
section
variable {K : PySem.W.Frag} {D x : Addr} {ox od : Obj} {prog : Program} {w : World} {A : Around} {E : Value → Shared → Prop} {s : Shared}
/-- e.__class__, e an exception with a dict -/
theorem exc_class {Q : Option Value → Shared → Prop} (c : ExcC K D) (X : K.In s.heap) (I : PySem.W.InstAt s.heap x ox D (some od)) (h : Q (some (.ref D)) { s with toks := s.toks + 1 }) : wpAny (model prog w) A (getAttr? (.ref x) "__class__") Q E s := by
  obtain ⟨cd0, hcd0, _⟩ := PySem.W.any_some c.hd
  have hf := PySem.W.findObj_data (od := od) (by rw [hcd0]; rfl) c.ha c.hn c.ht
  obtain ⟨hp, g, d, t, os⟩ := s
  have Lt := I.type (M := model prog w)
  have Lg := PySem.W.looks_findIn (M := model prog w) X c.hg
  have Lh := PySem.W.looks_findIn (M := model prog w) X c.hk
  have Lf := PySem.W.looks_find (M := model prog w) X I hf
  have isx : PySem.W.Looks (model prog w) hp (isInstance (.ref x) (.type "BaseException")) true := Lt.andThen (PySem.W.looks_subIn X c.hs)
  have n0 : (false && onTheHeap (Value.builtin "BaseException.__getattribute__")) = false := rfl
  have n2 : (Value.builtin "BaseException.__getattribute__" == Value.builtin "object.__getattribute__") = false := by decide +kernel
  have n1 : (onTheHeap (Value.ref D) && Value.builtin "BaseException.__getattribute__" == Value.builtin "object.__getattribute__") = false := by rw [n2]; rfl
  unfold getAttr? getAttrBy? getAttrBy
  refine wpAny_bind (wpAny_mkText (wpAny_bind (wpAny_attempt (wpAny_holding (wpAny_bind (Lt.at (wpAny_bind (Lg.at ?_))))))))
  dsimp only
  rw [n1, if_neg Bool.false_ne_true]
  unfold getAttrByItsOwn hookBefore
  refine wpAny_bind ?_
  rw [if_pos (show onTheHeap (.ref D) = true from rfl)]
  refine Lh.at ?_
  refine wpAny_bind (wpAny_attempt (wpAny_holding ?_))
  unfold callGetattribute
  rw [n0, if_neg Bool.false_ne_true]
  unfold boundAndCalled
  rw [F.excAttr_ValueError.ga.bind (.ref x)]
  refine wpAny_bind (wpAny_pure ?_)
  refine wpAny_call (codeAny_call_builtin F.excAttr_ValueError.ga.plain F.entry_bexc_ga ?_)
  refine @PySem.W.check_slot (model prog w) _ _ ⟨hp, g, d, t + 1, os⟩ "BaseException.__getattribute__" "BaseException" "__getattribute__" (.ref x) [.str "__class__" t] [] _ (by decide +kernel) (by decide +kernel) isx (F.args_bexc_ga (.ref x) (.str "__class__" t)) ?_
  unfold Builtin.«object.__getattribute__»
  refine wpAny_bind (wpAny_of_eq (a := (Value.ref x, [Value.str "__class__" t])) (by first | rfl | (simp only [slotArgs]; rfl)) ?_)
  refine wpAny_bind (wpAny_pure (wpAny_bind (Lt.at (wpAny_bind (Lf.at ?_)))))
  show wpAny _ _ (holding [.builtin "object.__class__"] (call (.builtin "getset_descriptor.__get__") [.builtin "object.__class__", .ref x, .ref D]) >>= ret) _ _ _
  refine wpAny_bind (wpAny_holding (wpAny_call (PySem.W.class_get (s := ⟨hp, g, d, t + 1, os⟩) (ox := ox) (od := some od) X I c.hm ?_)))
  refine wpAny_pure ?_
  show wpAny _ _ (handedOut (.ref D)) _ _ _
  rw [PySem.W.handedOut_of (v := .ref D) rfl]
  first
    | exact wpAny_pure h
    | exact wpAny_pure (wpAny_pure h)
    | exact wpAny_pure (wpAny_bind (wpAny_pure (wpAny_pure h)))
theorem exc_kit (c : ExcC K D) : PySem.W.KitX K (.ref x) (.ref D) (fun h => ∃ od, PySem.W.InstAt h x ox D (some od)) where
  ty := fun _ _ _ ⟨_, I⟩ => I.type
  it := fun _ _ X _ => by
    obtain ⟨cd0, hcd0, _⟩ := PySem.W.any_some c.hd
    unfold PySem.W.clsIn at hcd0
    split at hcd0
    · rename_i a1 a2 a3 a4 ho
      intro A' Q' E' s' k q
      unfold isType loadHead
      exact wpAny_bind (wpAny_loadPart (k _ _ (X _ _ ho)) (wpAny_pure q))
    · cases hcd0
  ne := fun h tp dd its n sl X htp => by
    obtain ⟨cd0, hcd0, _⟩ := PySem.W.any_some c.hd
    refine Bool.eq_false_iff.mpr fun q => ?_
    obtain rfl : D = tp := Value.ref.inj (beq_iff_eq.mp q)
    unfold PySem.W.clsIn at hcd0
    split at hcd0
    · rename_i a1 a2 a3 a4 ho
      cases (X _ _ ho).symm.trans htp
    · cases hcd0
  ca := fun X ⟨_, I⟩ k => exc_class c X I k
end
section
variable {X : Cx} {c : Ct} {ρ : List Sl} {μ μ1 μ2 : List Mo} {s : Sl} {e e2 : Expr} {p pos apos pz : Pos} {o : Out} {a D dx : Addr} {v : V} {z : Str} {b : Bool} {d : PyData} {ds : List PyData}
/-- the caught exception, pinned, and its dict -/
structure Cau (X : Cx) (c : Ct) (a D dx : Addr) (v : V) : Prop where
  pin : ∃ oe, (a, oe) ∈ X.pn ∧ Zc (.ref D) (some dx) oe ∧ ∃ vs, oe.data = .fields vs
  dict : c.S0 dx = some (.xd [("given", v)])
/-- it stands in the state, with its dict -/
theorem Cau.inst {pins : List (Addr × Obj)} {σ : L2.St} {H : Hp} {s : Shared} (G : ∃ oe, (a, oe) ∈ X.pn ∧ Zc (.ref D) (some dx) oe ∧ ∃ vs, oe.data = .fields vs) (hd : H dx = some (.xd [("given", v)])) (I : Inv X pins σ H s) :
    ∃ oe od u, PySem.W.InstAt s.heap a oe D (some od) ∧ RelV v u ∧ PySem.W.lookIn "given" od = some (some u) := by
  obtain ⟨oe, hp, hz, vs, hv⟩ := G
  obtain ⟨hget, _⟩ := I.pin (a, oe) (List.mem_append_left _ hp)
  have hx : ObjOk X.prog X.w H s.heap dx (.xd [("given", v)]) := I.hok dx _ hd
  obtain ⟨mA, hns, hr⟩ := hx
  obtain ⟨od, ho, hl⟩ := lookIn_ns hns
  obtain ⟨u, hu, ru⟩ := RelO.some_of (v := v) (o := mA "given") (hr "given")
  exact ⟨oe, od, u, ⟨hget, hz.1, by unfold PySem.W.notCls; rw [hv] <;> rfl, by rw [hz.2]; exact ho⟩, ru, by rw [hl, hu]⟩
def rIsX (K : PySem.W.Frag) (D a dx : Addr) (v : V) (b : Bool) : List V → Hp → VK → Prop := fun xs H Q => ∃ (cl : V) (cv : Value), xs = [.ref a, cl] ∧ H dx = some (.xd [("given", v)]) ∧ (∀ u, RelV cl u → u = cv) ∧ PySem.W.kitOne K (.ref D) cv = some b ∧ Q (.bl b) H
theorem call_isX (C : ExcC X.K D) (G : ∃ oe, (a, oe) ∈ X.pn ∧ Zc (.ref D) (some dx) oe ∧ ∃ vs, oe.data = .fields vs) : CallR X (.builtin "isinstance") (rIsX X.K D a dx v b) := by
  intro pins s σ H xs us Q I r h
  obtain ⟨cl, cv, rfl, hd, hcv, e, q⟩ := h
  obtain ⟨ox, od, _, J, _⟩ := Cau.inst G hd I
  cases r with
  | cons ra r2 =>
    obtain ⟨u, rfl, ru⟩ := L2.Vals.one r2
    cases ra
    obtain rfl := hcv _ ru
    exact PySem.W.kia_one (exc_kit (ox := ox) C) I.kIn ⟨od, J⟩ e (fun z => nomatch z) fun tk => ⟨.bl b, H, I.kept (t' := tk) fun _ _ z => z, rfl, q⟩
/-- isinstance(e, C) -/
theorem dv_isE {cl : V} {cv : Value} (G : Cau X c a D dx v) (C : ExcC X.K D) (hm : X.mg "isinstance" = none) (he : dV X c e ρ μ (.raw (.ref a)) μ1) (hz : dV X c e2 ρ μ1 (.raw cl) μ2) (hcv : ∀ u, RelV cl u → u = cv) (hk : PySem.W.kitOne X.K (.ref D) cv = some b) (hg : Gl X "isinstance" := by rfl)
    (hs : starEach [e, e2] X.env = (false, eval e X.env) :: starEach [e2] X.env := by exact star_cons rfl) (hs' : starEach [e2] X.env = (false, eval e2 X.env) :: starEach [] X.env := by exact star_cons rfl) (hpl : (backTo pos (starEach [e2] X.env)).any (·.1) = false := by rfl) :
    dV X c (.Call (.Name "isinstance" p) [e, e2] [] pos) ρ μ (.dat (.bool b)) μ2 :=
  dv_callB (call_isX C G.pin) hm (by decide +kernel) (da2 he hz hs hs') (fun m S H vs Q W q kk => by
    obtain ⟨v1, v2, rfl, h1, h2⟩ := slVs2 q
    obtain rfl : v1 = .ref a := h1
    obtain rfl : v2 = cl := h2
    exact ⟨_, cv, rfl, W.sub _ _ (W.ex0 _ _ G.dict), hcv, hk, kk.now W (.bl _)⟩) hg (by decide) (by decide) hs hpl
theorem dv_tyN {T : String} (hmT : X.mg (Str.ofString T) = none) (hvT : bootBuiltins (Str.ofString T) = some (.type T)) (hgT : Gl X (Str.ofString T) := by rfl) (hnT : (Str.ofString T) ≠ ("__name__" : Str) := by decide +kernel) (hdT : ((Str.ofString T) == ("__debug__" : Str)) = false := by decide +kernel) : dV X c (.Name (Str.ofString T) pz) ρ μ (.raw (.ty T)) μ :=
  .mk fun m S H σ W R Q kk => wE_of (pe_bltn (v := .ty T) hgT hmT hvT rfl hnT hdT) (kk.now W rfl)
/-- e.given -/
theorem dv_given (G : Cau X c a D dx v) (T : XfC X.K D) (hno : PySem.W.findIn X.K (.ref D) "given" = some none) (hq : Dq X.K c.S0 v d) (he : dV X c e ρ μ (.raw (.ref a)) μ1) (hb : attributeBase e "given" X.env (eval e X.env) = eval e X.env := by rfl) : dV X c (.Attribute e "given" pos) ρ μ (.dat d) μ1 := .mk fun m S H σ W R Q kk pins s I => by
  refine attr_of hb (thn (he.run m S H σ W R (fun y H1 => ∃ m1 S1, y = .ref a ∧ Wd X c μ1 m1 S1 H1 ∧ Ex S S1 ∧ m <+: m1) (fun m1 S1 y H1 W1 e1 p1 q1 => ⟨m1, S1, q1, W1, e1, p1⟩) pins s I) fun u s1 hh => ?_)
  obtain ⟨y, H1, I1, ru, m1, S1, rfl, W1, e1, p1⟩ := hh
  obtain rfl : u = Value.ref a := ru
  obtain ⟨ox, od, u, J, ru, hl⟩ := Cau.inst G.pin (W1.sub _ _ (W1.ex0 _ _ G.dict)) I1
  exact HandSPX.exc_get I1.kIn J T.ga T.gg T.exC (PySem.W.findObj_own T.hdC hno rfl hl) (handed_of ru) ⟨v, H1, I1.tok _, ru, kk m1 S1 v H1 W1 e1 p1 (hq.mono W1.ex0)⟩
end
end Dr
set_option maxHeartbeats 4000000
/-! N3: list.count, list.index of bools; defs called within an except suite; _law_error, _law_field. -/
namespace Dr
open PySem PySem.Spec PyProof.Rows L2
section
variable {X : Cx} {c : Ct} {ρ : List Sl} {μ μ1 μ2 : List Mo} {s : Sl} {e e2 ob : Expr} {p pos apos pz : Pos} {o : Out} {a D dx : Addr} {v : V} {z : Str} {b : Bool} {d : PyData} {ds : List PyData}
def rCntD (X : Cx) : V → List V → Hp → VK → Prop := fun x vs H Q => ∃ (S : Hp) (y : V) (d : PyData) (ds : List PyData), vs = [y] ∧ Ex S H ∧ Dq X.K S x (.list ds) ∧ Dq X.K S y d ∧ PyData.plainAll ds = true ∧ d.plain = true ∧ min (PyData.depthAll ds) d.depth ≤ 60 ∧ Q (.int ((ds.countP fun y => PyData.eqv y d : Nat) : Int)) H
theorem mt_cntD (hu : X.A.units + 64 < cLine) : MtR X "list.count" (rCntD X) := by
  intro pins s σ H x vs v us Q I rx rv h
  obtain ⟨S, y, d, ds, rfl, ex, h1, h2, p1, p2, hd, q⟩ := h
  obtain ⟨u, rfl, ru⟩ := rv.one
  obtain ⟨l, xs, rfl, hx, hs⟩ := Dq.of_lst h1
  obtain rfl : v = Value.ref l := rx
  obtain ⟨its, rv2, ⟨o, n, ho, hc, _, hdt⟩, _⟩ := I.list (.inl (Evl.ex_rd ex hx))
  obtain ⟨as, q1⟩ := DqA.reads I ex ds _ its hs rv2 p1
  obtain ⟨bs, q2⟩ := Dq.reads I ex d y u h2 ru p2
  exact SeqAt.count_list_data (vs := its.toArray) ⟨o, ho, hc, n, hdt⟩ (by simpa using q1) q2 p1 p2 (by omega) ⟨.int _, H, I.tok _, ⟨_, rfl⟩, q⟩
theorem dv_countT {bs : List Bool} {n : Nat} (hu : X.A.units + 64 < cLine) (ho : dV X c ob ρ μ (.dat (.list (bs.map PyData.bool))) μ1) (ha : dV X c e ρ μ1 (.dat (.bool true)) μ2) (hn : ((bs.map PyData.bool).countP fun y => PyData.eqv y (.bool true)) = n) (hp : PyData.plainAll (bs.map PyData.bool) = true) (hbase : attributeBase ob "count" X.env (eval ob X.env) = eval ob X.env := by rfl)
    (hfew : ((backTo pos (starEach [e] X.env)).all (fun x => !x.1) && (backToKw pos (keywordEach [] X.env)).all (fun x => x.1.isSome) && decide ([e].length + ([] : List Keyword).length + (if ([] : List Keyword).isEmpty then 0 else 1) < 30)) = true := by rfl)
    (hline : (apos.endLine == pos.line) = true := by rfl) (hs : starEach [e] X.env = (false, eval e X.env) :: starEach [] X.env := by exact star_cons rfl) (hplain : (backTo pos (starEach [] X.env)).any (·.1) = false := by rfl) :
    dV X c (.Call (.Attribute ob "count" apos) [e] [] pos) ρ μ (.dat (.int (n : Int))) μ2 := .mk fun m S H σ W R Q kk => by
  refine wE_of (pe_bm PySem.F.plainAttrs_list PySem.F.slot_list_count PySem.F.type_list_count (mt_cntD hu) pe_w (pa_cons pe_w pa_nil hs) hbase hfew hline hs hplain) ?_
  refine ho m S H σ W R _ fun m1 S1 v H1 W1 e1 p1 q1 => ?_
  obtain ⟨l, xs, rfl, hx, hs1⟩ := Dq.of_lst q1
  refine ⟨.inl ⟨rfl, _, .inl (Evl.ex_rd W1.sub hx)⟩, ?_⟩
  refine ha m1 S1 H1 σ W1 (R.mono e1 p1) _ fun m2 S2 y H2 W2 e2 p2 q2 => ?_
  exact ⟨S2, y, .bool true, bs.map PyData.bool, rfl, W2.sub, Dq.mono e2 q1, q2, hp, rfl, Nat.le_trans (Nat.min_le_right _ _) (by decide), by rw [hn]; exact ((kk.up e1 p1).up e2 p2).now W2 (.int _)⟩
theorem dv_indexT {bs : List Bool} (ho : dV X c ob ρ μ (.dat (.list ((true :: bs).map PyData.bool))) μ1) (ha : dV X c e ρ μ1 (.dat (.bool true)) μ2) (hbase : attributeBase ob "index" X.env (eval ob X.env) = eval ob X.env := by rfl)
    (hfew : ((backTo pos (starEach [e] X.env)).all (fun x => !x.1) && (backToKw pos (keywordEach [] X.env)).all (fun x => x.1.isSome) && decide ([e].length + ([] : List Keyword).length + (if ([] : List Keyword).isEmpty then 0 else 1) < 30)) = true := by rfl)
    (hline : (apos.endLine == pos.line) = true := by rfl) (hs : starEach [e] X.env = (false, eval e X.env) :: starEach [] X.env := by exact star_cons rfl) (hplain : (backTo pos (starEach [] X.env)).any (·.1) = false := by rfl) :
    dV X c (.Call (.Attribute ob "index" apos) [e] [] pos) ρ μ (.dat (.int 0)) μ2 := .mk fun m S H σ W R Q kk => by
  refine wE_of (pe_bm PySem.F.plainAttrs_list PySem.F.slot_list_index PySem.F.type_list_index mt_index pe_w (pa_cons pe_w pa_nil hs) hbase hfew hline hs hplain) ?_
  refine ho m S H σ W R _ fun m1 S1 v H1 W1 e1 p1 q1 => ?_
  obtain ⟨l, xs, rfl, hx, hs1⟩ := Dq.of_lst q1
  refine ⟨.inl ⟨rfl, _, .inl (Evl.ex_rd W1.sub hx)⟩, ?_⟩
  refine ha m1 S1 H1 σ W1 (R.mono e1 p1) _ fun m2 S2 y H2 W2 e2 p2 q2 => ?_
  obtain rfl := Dq.of_bl q2
  have hb : ∀ {bs : List Bool} {xs : List V}, DqA X.K S1 xs (bs.map PyData.bool) → xs = bs.map V.bl := fun {bs} => by
    induction bs with
    | nil => intro xs h; cases h; rfl
    | cons b bs ih => intro xs h; cases h with | cons h1 h2 => rw [h1.of_bl, ih h2]; rfl
  have hx2 := hb hs1
  subst hx2
  refine ⟨l, _, .bl true, 0, .bl true, rfl, rfl, .inl (Evl.ex_rd W2.sub (Evl.ex_rd e2 hx)), rfl, ?_, rfl, rfl, fun m' z' h => absurd h (Nat.not_lt_zero _), ((kk.up e1 p1).up e2 p2).now W2 (.int _)⟩
  rw [List.all_map]; exact List.all_eq_true.mpr fun _ _ => rfl
end
/-! ### a def called within an except suite -/
section
variable {P : Program} {w : World} {K : PySem.W.Frag} {mg : Str → Option Value} {base : Heap}
structure FnW (P : Program) (w : World) (K : PySem.W.Frag) (mg : Str → Option Value) (base : Heap) (k : Nat) (f : Addr) (fd : FuncData) (ps : List Str) (sp : Addr × Obj → Sp) : Prop where
  len : ∀ p vs H Q E, sp p vs H Q E → vs.length = ps.length
  run : ∀ (A : Around) (outer : List Env) (s : Shared) (H : Hp) (args : Args) (us : List Value) (vs : List V) (Q : VK) (E : XK) (p : Addr × Obj), L2H.RoomH k A → L2H.PinOk outer H s p → Env0 P w K mg base A outer s H → BindsTo s fd args (ps.zip us) → Vals vs us → sp p vs H Q E →
    codeAny (model P w) A (.call (.ref f) args) (CR CX0 outer P w H s Q E) s
abbrev bxH (P : Program) (w : World) (K : PySem.W.Frag) (mg : Str → Option Value) (base : Heap) (N : List Str) (qual : Str) (st : Stmt) (f : Addr) (cdv : Value) (A : Around) (outer : List Env) (s : Shared) (H : Hp) (E : XK) (p : Addr × Obj) : Cx := L2H.cxH CX0 P w K mg base N qual (defScope st) f cdv A outer s H E p
theorem fn_ofW {x qual : Str} {st : Stmt} {f : Addr} {fd : FuncData} {N ps : List Str} {k : Nat} {sp : Addr × Obj → Sp} (F : Fun K x qual st f fd) (S : FnScope N ps (defScope st)) (len : ∀ p vs H Q E, sp p vs H Q E → vs.length = ps.length)
    (hbody : ∀ (cdv : Value) (A : Around) (outer : List Env) (s : Shared) (H : Hp) (vs : List V) (Q : VK) (E : XK) (p : Addr × Obj), L2H.RoomH k (bxH P w K mg base N qual st f cdv A outer s H E p).A → sp p vs H Q E →
      wSs (bxH P w K mg base N qual st f cdv A outer s H E p) (defBody st) { nx := fun _ H' => Q .non H', rt := Q } (L2.start N vs) H) : FnW P w K mg base (k + 1) f fd ps sp := by
  obtain ⟨oc, od, kV, doc, pm, an, cdv, ct, osl, rfl, lk, hcd⟩ := F.ex
  refine ⟨len, fun A outer s H args us vs Q E p hr hpin e0 hb r hsp => ?_⟩
  have hl := len _ _ _ _ _ hsp
  have Kin : K.In s.heap := e0.mod.kin.keeps fun b o e => (e0.bs b o e).1
  have lim : s.heap.NoLimit := e0.mod.nolimit.keeps fun b o e => (e0.bs b o e).1
  have hkind : ∀ y ∈ ps.zip us, (defScope st).names.lookup y.1 = some .local ∨ ((defScope st).names.lookup y.1 = some .cell ∧ ((cellsFrom (s.heap.objs.size + 1) (defScope st).names []).lookup y.1).isSome = true) := fun ⟨n, u⟩ hy => by
    rcases S.par n (List.of_mem_zip hy).1 with q | q
    · exact .inl q
    · exact .inr ⟨q, PySem.W.cellsFrom_some _ _ _ (.inl q)⟩
  refine codeAny_call_function hr.depth (Kin _ _ lk) rfl S.co S.gen rfl (PySem.W.codeRec_of Kin hcd) (hb _ _ _ _ ?_)
  refine wpAny_newFunctionEnv_cells S.kind hkind fun env he s1 x => ?_
  subst he
  refine ⟨lim.keeps x.toInCall.keep, codeAny_func ?_⟩
  have hw := hbody cdv A outer s H vs Q E p (hr.deeper _) hsp
  have I : Inv (bxH P w K mg base N qual st f cdv A outer s H E p) [] (L2.start N vs) H s1 := L2H.inv_startH S hpin e0 hl r x
  refine wpAny_mono (hw [] s1 I) (fun fl s' hs => ?_) fun e s' hs => hs
  cases fl with
  | ret u => obtain ⟨v, σ', H', J, rv, q⟩ := hs; exact ⟨v, H', J.os, J.bare, J.base, J.hok, rv, q⟩
  | next => obtain ⟨σ', H', J, q⟩ := hs; exact ⟨.non, H', J.os, J.bare, J.base, J.hok, rfl, q⟩
  | brk => obtain ⟨_, _, _, q⟩ := hs; exact q.elim
  | cont => obtain ⟨_, _, _, q⟩ := hs; exact q.elim
end
section
variable {X : Cx} {k : Nat} {f : Addr} {fd : FuncData} {ps : List Str} {sp : Addr × Obj → Sp} {x : Str} {q pos : Pos} {e : Expr} {es : List Expr} {t : TA} {p : Addr × Obj}
theorem pe_callW (F : FnW X.prog X.w X.K X.mg X.base k f fd ps sp) (hr : L2H.RoomH k X.A) (hp : p ∈ X.pn) (hg : Gl X x) (hm : X.mg x = some (.ref f)) (hk : PySem.W.keepIn X.K (.ref f) = true) (hb : Binds X.K fd ps []) (ha : PA X (e :: es) t) (hdb : (x == ("__debug__" : Str)) = false := by decide)
    (he : starEach (e :: es) X.env = (false, eval e X.env) :: starEach es X.env := by rfl) (hpl : (backTo pos (starEach es X.env)).any (·.1) = false := by rfl) : PE X (.Call (.Name x q) (e :: es) [] pos) (fun σ H Q => t σ H fun vs H1 => sp p vs H1 Q (fun _ _ _ => False)) := by
  refine ⟨fun pins s σ H Q I h => ?_⟩
  refine wpAny_Call_Name_kw (ld_glob I hg hm ?_ hdb)
  refine PySem.W.callWith_K (h₀ := X.base) I.ok.mod.kin hk (thn (ha.run pos pins s σ H _ I h) fun us s1 ⟨vs, H1, I1, r, q⟩ => ⟨I1.kIn, ?_⟩) he hpl
  have hl : us.length = ps.length := by rw [← r.length]; exact F.len _ _ _ _ _ q
  have b := hb s1 us I1.kIn (by rw [List.append_nil]; exact hl)
  rw [List.append_nil] at b
  have P1 := I1.pin p (List.mem_append_left _ hp)
  have hpin : L2H.PinOk X.stack H1 s1 p := ⟨P1.1, P1.2.1, fun hm => (List.mem_cons.mp (I1.stkSub p.1 hm)).elim P1.2.2.1 P1.2.2.2.1, P1.2.2.2.2⟩
  refine wpAny_call (codeAny_mono (F.run X.A X.stack s1 H1 ⟨us, []⟩ us vs Q (fun _ _ _ => False) p hr hpin I1.env0 b r q) fun r s' hq => ?_)
  cases r with
  | error e => exact False.elim hq
  | ok fl =>
    cases fl with
    | ret u => exact I1.after hq
    | next => exact False.elim hq
    | brk => exact False.elim hq
    | cont => exact False.elim hq
end
end Dr
set_option maxHeartbeats 4000000
/-! N4: _law_error, _law_field, called in the suite with the caught InvalidNumber. (printed by genN4.py) -/
namespace Dr
open PySem PySem.Spec PyProof.Rows L2
def bs17 : List Bool := true :: List.replicate 16 false
def ws17 : List Str := ["InvalidNumber", "InvalidWell", "InvalidBits", "InvalidCourse", "InvalidText", "InvalidName", "InvalidWish", "NotAProgram", "InvalidRows", "InvalidExchanges", "InvalidWishes", "UnknownName", "InUse", "TooWide", "Ended", "Broken", "NothingToUndo"]
/-- the classes as the raised one's class D sees them -/
structure ErrT (mg : Str → Option Value) (K : PySem.W.Frag) (D : Addr) : Prop where
  all : ∀ q, q ∈ errCls → ∃ a, mg q.1 = some (.ref a) ∧ PySem.W.kitOne K (.ref D) (.ref a) = some q.2
  C : ExcC K D
  F : XfC K D
  no : PySem.W.findIn K (.ref D) "given" = some none
  nValueError : mg "ValueError" = none
  nLookupError : mg "LookupError" = none
  nArithmeticError : mg "ArithmeticError" = none
  kValueError : PySem.W.kitOne K (.ref D) (.type "ValueError") = some true
  kLookupError : PySem.W.kitOne K (.ref D) (.type "LookupError") = some false
  kArithmeticError : PySem.W.kitOne K (.ref D) (.type "ArithmeticError") = some false
theorem ErrT.cls {mg : Str → Option Value} {K : PySem.W.Frag} {D : Addr} (T : ErrT mg K D) (z : Str) (b : Bool) (h : (z, b) ∈ errCls) : ∃ a, mg z = some (.ref a) ∧ PySem.W.kitOne K (.ref D) (.ref a) = some b := T.all (z, b) h
section
variable {X : Cx} {c : Ct} {ρ : List Sl} {μ μ1 μ2 : List Mo} {s s1 s2 : Sl} {e e2 a1 b1 : Expr} {p pos apos pz : Pos} {o : Out} {a D dx : Addr} {v : V} {z : Str} {b k k1 : Bool} {op : CmpOp}
theorem cmp_is (h : CmpR X c op s1 s2 μ k) (e : k = k1) : CmpR X c op s1 s2 μ k1 := e ▸ h
theorem dv_isC (hz : ∃ a, X.mg z = some (.ref a) ∧ PySem.W.kitOne X.K (.ref D) (.ref a) = some b) (G : Cau X c a D dx v) (C : ExcC X.K D) (hm : X.mg "isinstance" = none) (he : dV X c e ρ μ (.raw (.ref a)) μ1) (hg : Gl X "isinstance" := by rfl) (hgz : Gl X z := by rfl) (hd : (z == ("__debug__" : Str)) = false := by decide)
    (hs : starEach [e, .Name z pz] X.env = (false, eval e X.env) :: starEach [.Name z pz] X.env := by exact star_cons rfl) (hs' : starEach [.Name z pz] X.env = (false, eval (.Name z pz) X.env) :: starEach [] X.env := by exact star_cons rfl) (hpl : (backTo pos (starEach [.Name z pz] X.env)).any (·.1) = false := by rfl) :
    dV X c (.Call (.Name "isinstance" p) [e, .Name z pz] [] pos) ρ μ (.dat (.bool b)) μ1 := by
  obtain ⟨q, h1, h2⟩ := hz
  exact dv_isE (cv := .ref q) G C hm he (dv_globR (v := .ref q) h1 rfl hgz hd) (fun u h => h) h2 hg hs hs' hpl
end
section
variable {P : Program} {w : World} {K : PySem.W.Frag} {mg : Str → Option Value} {base : Heap} {D : Addr}
def spErr (P : Program) (w : World) (K : PySem.W.Frag) (D : Addr) : Addr × Obj → Sp := fun p vs H Q _ => ∃ (S : Hp) (dx : Addr) (v : V), vs = [.ref p.1] ∧ MoOk P w K ⟨H, S, []⟩ [] [] S H ∧ S dx = some (.xd [("given", v)]) ∧ Zc (.ref D) (some dx) p.2 ∧ (∃ fl, p.2.data = .fields fl) ∧ ∀ S' u H', MoOk P w K ⟨H, S, []⟩ [] [] S' H' → Dq K S' u (.str "InvalidNumber") → Q u H'
def spFld (P : Program) (w : World) (K : PySem.W.Frag) (D : Addr) : Addr × Obj → Sp := fun p vs H Q _ => ∃ (S : Hp) (dx : Addr) (v : V) (d : PyData), vs = [.ref p.1, .str "InvalidNumber"] ∧ MoOk P w K ⟨H, S, []⟩ [] [] S H ∧ S dx = some (.xd [("given", v)]) ∧ Dq K S v d ∧ Zc (.ref D) (some dx) p.2 ∧ (∃ fl, p.2.data = .fields fl) ∧ ∀ S' u H', MoOk P w K ⟨H, S, []⟩ [] [] S' H' → Dq K S' u d → Q u H'
theorem sc_law_error : FnScope ["_law_e", "_law_fits", "_law_words", "_law_bases", "_law_plain", "_law_at"] ["_law_e"] (defScope s_law_error) := ⟨rfl, rfl, rfl, by decide +kernel, rfl, by decide +kernel, by decide +kernel⟩
theorem sc_law_field : FnScope ["_law_e", "_law_word"] ["_law_e", "_law_word"] (defScope s_law_field) := ⟨rfl, rfl, rfl, by decide +kernel, rfl, by decide +kernel, by decide +kernel⟩
theorem room_h {k : Nat} {A : Around} (r : L2H.RoomH k A) : A.units + 64 < cLine := by have := r.un; omega
theorem ok_law_error {f : Addr} {fd : FuncData} (T : ErrT mg K D) (hmi : mg "isinstance" = none) (F : Fun K "_law_error" "_law_error" s_law_error f fd) : FnW P w K mg base 1 f fd ["_law_e"] (spErr P w K D) := by
  refine fn_ofW F sc_law_error (fun p vs H Q E h => ?_) (fun cdv A outer s H vs Q E p hr h => ?_)
  · obtain ⟨S, dx, v, rfl, _⟩ := h; rfl
  obtain ⟨S, dx, v, rfl, W, hd, hz, hv, k⟩ := h
  have hu := room_h hr
  have hN := sc_law_error.nd
  have G : Cau (bxH P w K mg base ["_law_e", "_law_fits", "_law_words", "_law_bases", "_law_plain", "_law_at"] "_law_error" s_law_error f cdv A outer s H E p) ⟨H, S, []⟩ p.1 D dx v := ⟨⟨p.2, List.mem_singleton.mpr rfl, hz, hv⟩, hd⟩
  have R0 : SlOk K S [] (L2.start ["_law_e", "_law_fits", "_law_words", "_law_bases", "_law_plain", "_law_at"] [V.ref p.1]) (startSl ["_law_e", "_law_fits", "_law_words", "_law_bases", "_law_plain", "_law_at"] [.raw (.ref p.1)]) := slOk_start (.cons rfl .nil)
  have Dd : dXs (bxH P w K mg base ["_law_e", "_law_fits", "_law_words", "_law_bases", "_law_plain", "_law_at"] "_law_error" s_law_error f cdv A outer s H E p) ⟨H, S, []⟩ (defBody s_law_error) (startSl ["_law_e", "_law_fits", "_law_words", "_law_bases", "_law_plain", "_law_at"] [.raw (.ref p.1)]) [] (.rt (.dat (.str "InvalidNumber")) []) := by
    refine dxs_cons (ρ1 := [.raw (.ref p.1), .dat (.list ((bs17.take 3).map PyData.bool)), .no, .no, .no, .no]) (μ1 := []) (dx_set (i := 1) (dv_is (s1 := .dat (.list ((bs17.take 3).map PyData.bool))) (dv_lst (dd_cons (dv_isC (T.cls "InvalidNumber" true (by decide)) G T.C hmi (dv_name 0 rfl (by nofun))) (dd_cons (dv_isC (T.cls "InvalidWell" false (by decide)) G T.C hmi (dv_name 0 rfl (by nofun))) (dd_cons (dv_isC (T.cls "InvalidBits" false (by decide)) G T.C hmi (dv_name 0 rfl (by nofun))) dd_nil)))) rfl) hN) ?_
    refine dxs_cons (ρ1 := [.raw (.ref p.1), .dat (.list ((bs17.take 6).map PyData.bool)), .no, .no, .no, .no]) (μ1 := []) (dx_set (i := 1) (dv_is (s1 := .dat (.list ((bs17.take 6).map PyData.bool))) (dv_cat (dv_name 1 rfl (by nofun)) (dv_lst (dd_cons (dv_isC (T.cls "InvalidCourse" false (by decide)) G T.C hmi (dv_name 0 rfl (by nofun))) (dd_cons (dv_isC (T.cls "InvalidText" false (by decide)) G T.C hmi (dv_name 0 rfl (by nofun))) (dd_cons (dv_isC (T.cls "InvalidName" false (by decide)) G T.C hmi (dv_name 0 rfl (by nofun))) dd_nil)))) (by decide +kernel)) rfl) hN) ?_
    refine dxs_cons (ρ1 := [.raw (.ref p.1), .dat (.list ((bs17.take 9).map PyData.bool)), .no, .no, .no, .no]) (μ1 := []) (dx_set (i := 1) (dv_is (s1 := .dat (.list ((bs17.take 9).map PyData.bool))) (dv_cat (dv_name 1 rfl (by nofun)) (dv_lst (dd_cons (dv_isC (T.cls "InvalidWish" false (by decide)) G T.C hmi (dv_name 0 rfl (by nofun))) (dd_cons (dv_isC (T.cls "NotAProgram" false (by decide)) G T.C hmi (dv_name 0 rfl (by nofun))) (dd_cons (dv_isC (T.cls "InvalidRows" false (by decide)) G T.C hmi (dv_name 0 rfl (by nofun))) dd_nil)))) (by decide +kernel)) rfl) hN) ?_
    refine dxs_cons (ρ1 := [.raw (.ref p.1), .dat (.list ((bs17.take 12).map PyData.bool)), .no, .no, .no, .no]) (μ1 := []) (dx_set (i := 1) (dv_is (s1 := .dat (.list ((bs17.take 12).map PyData.bool))) (dv_cat (dv_name 1 rfl (by nofun)) (dv_lst (dd_cons (dv_isC (T.cls "InvalidExchanges" false (by decide)) G T.C hmi (dv_name 0 rfl (by nofun))) (dd_cons (dv_isC (T.cls "InvalidWishes" false (by decide)) G T.C hmi (dv_name 0 rfl (by nofun))) (dd_cons (dv_isC (T.cls "UnknownName" false (by decide)) G T.C hmi (dv_name 0 rfl (by nofun))) dd_nil)))) (by decide +kernel)) rfl) hN) ?_
    refine dxs_cons (ρ1 := [.raw (.ref p.1), .dat (.list ((bs17.take 16).map PyData.bool)), .no, .no, .no, .no]) (μ1 := []) (dx_set (i := 1) (dv_is (s1 := .dat (.list ((bs17.take 16).map PyData.bool))) (dv_cat (dv_name 1 rfl (by nofun)) (dv_lst (dd_cons (dv_isC (T.cls "InUse" false (by decide)) G T.C hmi (dv_name 0 rfl (by nofun))) (dd_cons (dv_isC (T.cls "TooWide" false (by decide)) G T.C hmi (dv_name 0 rfl (by nofun))) (dd_cons (dv_isC (T.cls "Ended" false (by decide)) G T.C hmi (dv_name 0 rfl (by nofun))) (dd_cons (dv_isC (T.cls "Broken" false (by decide)) G T.C hmi (dv_name 0 rfl (by nofun))) dd_nil))))) (by decide +kernel)) rfl) hN) ?_
    refine dxs_cons (ρ1 := [.raw (.ref p.1), .dat (.list ((bs17.take 17).map PyData.bool)), .no, .no, .no, .no]) (μ1 := []) (dx_set (i := 1) (dv_is (s1 := .dat (.list ((bs17.take 17).map PyData.bool))) (dv_cat (dv_name 1 rfl (by nofun)) (dv_lst (dd_cons (dv_isC (T.cls "NothingToUndo" false (by decide)) G T.C hmi (dv_name 0 rfl (by nofun))) dd_nil)) (by decide +kernel)) rfl) hN) ?_
    refine dxs_cons (ρ1 := [.raw (.ref p.1), .dat (.list ((bs17.take 17).map PyData.bool)), .dat (.list ((ws17.take 6).map PyData.str)), .no, .no, .no]) (μ1 := []) (dx_set (i := 2) (dv_is (s1 := .dat (.list ((ws17.take 6).map PyData.str))) (dv_lst (dd_cons dv_str (dd_cons dv_str (dd_cons dv_str (dd_cons dv_str (dd_cons dv_str (dd_cons dv_str dd_nil))))))) rfl) hN) ?_
    refine dxs_cons (ρ1 := [.raw (.ref p.1), .dat (.list ((bs17.take 17).map PyData.bool)), .dat (.list ((ws17.take 12).map PyData.str)), .no, .no, .no]) (μ1 := []) (dx_set (i := 2) (dv_is (s1 := .dat (.list ((ws17.take 12).map PyData.str))) (dv_cat (dv_name 2 rfl (by nofun)) (dv_lst (dd_cons dv_str (dd_cons dv_str (dd_cons dv_str (dd_cons dv_str (dd_cons dv_str (dd_cons dv_str dd_nil))))))) (by decide +kernel)) rfl) hN) ?_
    refine dxs_cons (ρ1 := [.raw (.ref p.1), .dat (.list ((bs17.take 17).map PyData.bool)), .dat (.list ((ws17.take 17).map PyData.str)), .no, .no, .no]) (μ1 := []) (dx_set (i := 2) (dv_is (s1 := .dat (.list ((ws17.take 17).map PyData.str))) (dv_cat (dv_name 2 rfl (by nofun)) (dv_lst (dd_cons dv_str (dd_cons dv_str (dd_cons dv_str (dd_cons dv_str (dd_cons dv_str dd_nil)))))) (by decide +kernel)) rfl) hN) ?_
    refine dxs_cons (ρ1 := [.raw (.ref p.1), .dat (.list ((bs17.take 17).map PyData.bool)), .dat (.list ((ws17.take 17).map PyData.str)), .dat (.list [.bool true, .bool false, .bool false]), .no, .no]) (μ1 := []) (dx_set (i := 3) (dv_lst (dd_cons (dv_isC (T.cls "WrongValue" true (by decide)) G T.C hmi (dv_name 0 rfl (by nofun))) (dd_cons (dv_isC (T.cls "WrongName" false (by decide)) G T.C hmi (dv_name 0 rfl (by nofun))) (dd_cons (dv_isC (T.cls "NoAnswer" false (by decide)) G T.C hmi (dv_name 0 rfl (by nofun))) dd_nil)))) hN) ?_
    refine dxs_cons (ρ1 := [.raw (.ref p.1), .dat (.list ((bs17.take 17).map PyData.bool)), .dat (.list ((ws17.take 17).map PyData.str)), .dat (.list [.bool true, .bool false, .bool false]), .dat (.list [.bool true, .bool false, .bool false]), .no]) (μ1 := []) (dx_set (i := 4) (dv_lst (dd_cons (dv_isE (cv := .type "ValueError") G T.C hmi (dv_name 0 rfl (by nofun)) (dv_tyN (T := "ValueError") T.nValueError (by decide +kernel)) (fun u h => h) T.kValueError) (dd_cons (dv_isE (cv := .type "LookupError") G T.C hmi (dv_name 0 rfl (by nofun)) (dv_tyN (T := "LookupError") T.nLookupError (by decide +kernel)) (fun u h => h) T.kLookupError) (dd_cons (dv_isE (cv := .type "ArithmeticError") G T.C hmi (dv_name 0 rfl (by nofun)) (dv_tyN (T := "ArithmeticError") T.nArithmeticError (by decide +kernel)) (fun u h => h) T.kArithmeticError) dd_nil)))) hN) ?_
    refine dxs_guard (μ1 := []) (dt_is (k1 := false) (dt_w (dw_or (k1 := false) (dt_is (dt_cmp (dv_countT (bs := bs17.take 17) (n := 1) hu (dv_name 1 rfl (by nofun)) dv_bl (by decide +kernel) rfl) dv_int (c_neI _ _)) (by decide)) (fun _ => dw_or1 (dt_cmp (dv_name 3 rfl (by nofun)) (dv_name 4 rfl (by nofun)) (c_neD hu _ _ rfl rfl (by decide)))))) (by decide +kernel)) (fun z => absurd z (by decide)) (fun _ => ?_)
    refine dxs_cons (ρ1 := [.raw (.ref p.1), .dat (.list ((bs17.take 17).map PyData.bool)), .dat (.list ((ws17.take 17).map PyData.str)), .dat (.list [.bool true, .bool false, .bool false]), .dat (.list [.bool true, .bool false, .bool false]), .dat (.int 0)]) (μ1 := []) (dx_set (i := 5) (dv_indexT (bs := (bs17.take 17).tail) (dv_name 1 rfl (by nofun)) dv_bl) hN) ?_
    exact dxs_one (dx_retIs (dv_if (k := true) (s := .dat (.str "InvalidNumber")) (dt_is (dt_cmp (dv_name 3 rfl (by nofun)) (dv_lst (dd_cons (dv_cmp (dv_name 5 rfl (by nofun)) dv_int (c_lt _ _)) (dd_cons (dv_is (dv_chain (s3 := .no) (k1 := false) (k2 := false) dv_int (dv_name 5 rfl (by nofun)) (fun z => absurd z (by decide)) (cmp_is (c_lt _ _) (by decide)) (fun z => absurd z (by decide))) rfl) (dd_cons (dv_cmp (dv_name 5 rfl (by nofun)) dv_int (c_gt _ _)) dd_nil)))) (c_eqD hu _ _ rfl rfl (by decide))) (by decide +kernel)) (fun _ => dv_ixL (dv_name 2 rfl (by nofun)) (dv_name 5 rfl (by nofun)) rfl) (fun z => absurd z (by decide))) rfl)
  exact Dd.run [] S H _ W R0 _ fun m' S' u H' W' e' r' => by
    have hm' : m' = [] := List.eq_nil_of_length_eq_zero W'.len.symm
    subst hm'
    exact k S' u H' W' r'
theorem ok_law_field {f : Addr} {fd : FuncData} (T : ErrT mg K D) (F : Fun K "_law_field" "_law_field" s_law_field f fd) : FnW P w K mg base 1 f fd ["_law_e", "_law_word"] (spFld P w K D) := by
  refine fn_ofW F sc_law_field (fun p vs H Q E h => ?_) (fun cdv A outer s H vs Q E p hr h => ?_)
  · obtain ⟨S, dx, v, d, rfl, _⟩ := h; rfl
  obtain ⟨S, dx, v, d, rfl, W, hd, hq, hz, hv, k⟩ := h
  have hu := room_h hr
  have hN := sc_law_field.nd
  have G : Cau (bxH P w K mg base ["_law_e", "_law_word"] "_law_field" s_law_field f cdv A outer s H E p) ⟨H, S, []⟩ p.1 D dx v := ⟨⟨p.2, List.mem_singleton.mpr rfl, hz, hv⟩, hd⟩
  have R0 : SlOk K S [] (L2.start ["_law_e", "_law_word"] [V.ref p.1, V.str "InvalidNumber"]) (startSl ["_law_e", "_law_word"] [.raw (.ref p.1), .dat (.str "InvalidNumber")]) := slOk_start (.cons rfl (.cons (.str _) .nil))
  have Dd : dXs (bxH P w K mg base ["_law_e", "_law_word"] "_law_field" s_law_field f cdv A outer s H E p) ⟨H, S, []⟩ (defBody s_law_field) (startSl ["_law_e", "_law_word"] [.raw (.ref p.1), .dat (.str "InvalidNumber")]) [] (.rt (.dat d) []) := by
    refine dxs_guard (μ1 := []) (dt_is (k1 := false) (dt_cmp (dv_name 1 rfl (by nofun)) (dv_lst (dd_cons dv_str (dd_cons dv_str (dd_cons dv_str (dd_cons dv_str dd_nil))))) (c_inL hu _ _ rfl rfl (by decide))) (by decide +kernel)) (fun z => absurd z (by decide)) (fun _ => ?_)
    refine dxs_guard (μ1 := []) (dt_is (k1 := false) (dt_cmp (dv_name 1 rfl (by nofun)) dv_str (c_eqS _ _)) (by decide +kernel)) (fun z => absurd z (by decide)) (fun _ => ?_)
    refine dxs_guard (μ1 := []) (dt_is (k1 := false) (dt_cmp (dv_name 1 rfl (by nofun)) (dv_lst (dd_cons dv_str (dd_cons dv_str (dd_cons dv_str dd_nil)))) (c_inL hu _ _ rfl rfl (by decide))) (by decide +kernel)) (fun z => absurd z (by decide)) (fun _ => ?_)
    exact dxs_one (dx_retIs (dv_given (d := d) G T.F T.no hq (dv_name 0 rfl (by nofun))) rfl)
  exact Dd.run [] S H _ W R0 _ fun m' S' u H' W' e' r' => by
    have hm' : m' = [] := List.eq_nil_of_length_eq_zero W'.len.symm
    subst hm'
    exact k S' u H' W' r'
end
end Dr
set_option maxHeartbeats 4000000
/-! N5: repr of data. -/
namespace Dr
open PySem PySem.Spec PyProof.Rows L2
def scal : PyData → Bool
  | .none | .bool _ | .int _ | .str _ => true
  | _ => false
/-- data that repr may be asked of: no dict within, or a dict of flat values -/
def rprB : PyData → Bool
  | .dict D => D.all fun p => scal p.2
  | d => d.plain
structure ROk (d : PyData) : Prop where
  b : rprB d = true
  sh : d.showable = true
  dp : d.depth ≤ 50
  sz : d.shown.length ≤ 100000
mutual
theorem noDict_plain : ∀ d : PyData, d.plain = true → d.hasDict = false
  | .none, _ => by simp only [PyData.hasDict]
  | .bool _, _ => by simp only [PyData.hasDict]
  | .int _, _ => by simp only [PyData.hasDict]
  | .str _, _ => by simp only [PyData.hasDict]
  | .list xs, h => by simp only [PyData.hasDict]; exact noDict_plainAll xs (by simpa only [PyData.plain] using h)
  | .tuple xs, h => by simp only [PyData.hasDict]; exact noDict_plainAll xs (by simpa only [PyData.plain] using h)
  | .dict _, h => by simp [PyData.plain] at h
theorem noDict_plainAll : ∀ ds : List PyData, PyData.plainAll ds = true → PyData.hasDictAll ds = false
  | [], _ => by simp only [PyData.hasDictAll]
  | d :: ds, h => by
    have h2 : d.plain = true ∧ PyData.plainAll ds = true := by simpa [PyData.plainAll] using h
    simp only [PyData.hasDictAll, noDict_plain d h2.1, noDict_plainAll ds h2.2, Bool.or_self]
end
section
variable {K : PySem.W.Frag} {S : Hp} {h : Heap} {P : Program} {w : World}
theorem rd_dict : ∀ {es : List DictEntry} {vs : List (Key × Value)} {kvs : List (Key × V)} {ds : List PyData}, Pairs (mixKind P w) es vs → L2.KV kvs vs → DqA K S (kvs.map (·.2)) ds → ds.all scal = true →
    ReadsAll h (es.map (·.key)) (kvs.map fun p => keyD p.1) [] ∧ ReadsAll h (es.map (·.val)) ds [] ∧ ds.length = kvs.length := by
  intro es vs kvs ds hp
  induction hp generalizing kvs ds with
  | nil => intro hk hd _; cases hk; cases hd; exact ⟨.nil, .nil, rfl⟩
  | @cons e kv es vs h1 h2 _ ih =>
    intro hk hd hs
    cases hk with
    | @cons p _ ps _ r hk =>
      cases hd with
      | @cons _ _ d ds q hd =>
        have hs := hs
        rw [List.all_cons, Bool.and_eq_true] at hs
        obtain ⟨i1, i2, i3⟩ := ih hk hd hs.2
        have kk : Reads h e.key (keyD p.1) [] := by
          have h1 : keyIs kv.1 e.key = true := h1
          rw [← r.1] at h1
          rcases keyIs_shape h1 with ⟨i, t, e1, e2⟩ | ⟨x, t, e1, e2⟩
          · rw [e1, e2]; exact .int i t
          · rw [e1, e2]; exact .str x t
        have vv : Reads h e.val d [] := by
          have r2 : RelV p.2 kv.2 := r.2
          have q : Dq K S p.2 d := q
          rw [h2]
          cases d with
          | none => rw [Dq.of_non q] at r2; rw [show kv.2 = Value.none from r2]; exact .none
          | bool b => rw [Dq.of_bl q] at r2; rw [show kv.2 = Value.bool b from r2]; exact .bool b
          | int i => rw [Dq.of_int q] at r2; obtain ⟨t, e3⟩ := r2; rw [e3]; exact .int i t
          | str x => rw [Dq.of_str q] at r2; obtain ⟨t, e3⟩ := r2; rw [e3]; exact .str x t
          | list _ => exact absurd (show false = true from hs.1) (by decide)
          | tuple _ => exact absurd (show false = true from hs.1) (by decide)
          | dict _ => exact absurd (show false = true from hs.1) (by decide)
        exact ⟨.cons (as := []) (bs := []) kk i1, .cons (as := []) (bs := []) vv i2, by simp [i3]⟩
end
section
variable {X : Cx} {c : Ct} {ρ : List Sl} {μ μ1 μ2 : List Mo} {e : Expr} {p pos : Pos} {d : PyData}
theorem dict_reads {pins : List (Addr × Obj)} {σ : L2.St} {S H : Hp} {s : Shared} (I : Inv X pins σ H s) (ex : Ex S H) {v : V} {u : Value} {D : List (PyData × PyData)} (h : Dq X.K S v (.dict D)) (r : RelV v u) (hs : (D.all fun p => scal p.2) = true) :
    ∃ a, u = .ref a ∧ a ≠ sysModules ∧ Reads s.heap (.ref a) (.dict D) [a] := by
  cases h with
  | @dct a kvs ds ha hd =>
    obtain rfl : u = Value.ref a := r
    obtain ⟨_, hsm, vs, hk, o, es, ep, ho, hx, hda, _, hp, _⟩ := (show ObjOk X.prog X.w H s.heap a (.dK kvs) from I.hok a _ (ex _ _ ha))
    have hl : ds.length = kvs.length := by have := hd.length; rw [List.length_map] at this; exact this.symm
    have hz1 : ((kvs.map fun p => keyD p.1).zip ds).map (·.1) = kvs.map fun p => keyD p.1 := List.map_fst_zip (by rw [List.length_map, hl]; exact Nat.le_refl _)
    have hz2 : ((kvs.map fun p => keyD p.1).zip ds).map (·.2) = ds := List.map_snd_zip (by rw [List.length_map, hl]; exact Nat.le_refl _)
    have hs2 : ds.all scal = true := by rw [← hz2, List.all_map]; exact hs
    obtain ⟨r1, r2, _⟩ := rd_dict (h := s.heap) hp hk hd hs2
    refine ⟨a, rfl, fun z => ?_, ?_⟩
    · rw [z] at hsm; simp at hsm
    · have q := Reads.dict (as := []) (bs := []) ho hx.1 hda (by rw [hz1]; exact r1) (by rw [hz2]; exact r2)
      exact q
def rRepr (K : PySem.W.Frag) : List V → Hp → VK → Prop := fun xs H Q => ∃ (S : Hp) (y : V) (d : PyData), xs = [y] ∧ Ex S H ∧ Dq K S y d ∧ ROk d ∧ Q (.str d.shown) H
theorem call_reprD (hg : X.A.guards = some []) (hu : X.A.units + 64 < cLine) : CallR X (.builtin "repr") (rRepr X.K) := by
  intro pins s σ H xs us Q I r h
  obtain ⟨S, y, d, rfl, ex, hq, ok, q⟩ := h
  obtain ⟨u, rfl, ru⟩ := L2.Vals.one r
  have hz : (100000 : Nat) ≤ sizeLine := by decide
  have hsz := Nat.le_trans ok.sz hz
  have hdp := ok.dp
  have fin : ∀ (h' : Heap) (u : Tok) (tk : Nat), (∀ b o, s.heap.get? b = some o → h'.get? b = some o) → EP X pins σ Q (.str d.shown u) { s with heap := h', toks := tk } := fun h' u tk k => ⟨.str _, H, I.kept k, ⟨_, rfl⟩, q⟩
  have byReads : ∀ {a : Addr} {as : List Addr}, Reads s.heap (.ref a) d as → (d.hasDict = true → sysModules ∉ as) → wpAny (model X.prog X.w) X.A (call (.builtin "repr") [.ref a]) (EP X pins σ Q) X.xe s := fun {a as} rd hm =>
    repr_of_reads' rd ok.sh hm hg (by omega) (fun _ _ z => z) (fun h' u tk k => fin h' u tk k) hsz
  cases d with
  | none =>
    rw [Dq.of_non hq] at ru
    rw [show u = Value.none from ru]
    exact P.repr_of_none (fin s.heap _ _ fun _ _ z => z)
  | bool b =>
    rw [Dq.of_bl hq] at ru
    rw [show u = Value.bool b from ru]
    exact P.repr_of_bool (fin s.heap _ _ fun _ _ z => z)
  | int i =>
    rw [Dq.of_int hq] at ru
    obtain ⟨t, rfl⟩ := ru
    exact P.repr_of_int (by have := ok.sh; simpa [PyData.showable] using this) (fin s.heap _ _ fun _ _ z => z)
  | str x =>
    rw [Dq.of_str hq] at ru
    obtain ⟨t, rfl⟩ := ru
    exact P.repr_of_str (fin s.heap _ _ fun _ _ z => z) hsz
  | list ds =>
    obtain ⟨as, rd⟩ := Dq.reads I ex _ y u hq ru ok.b
    obtain ⟨a, xs, rfl, _⟩ := Dq.of_lst hq
    obtain rfl : u = Value.ref a := ru
    exact byReads rd fun z => absurd z (by have := noDict_plain _ ok.b; rw [this]; decide)
  | tuple ds =>
    obtain ⟨as, rd⟩ := Dq.reads I ex _ y u hq ru ok.b
    obtain ⟨a, xs, rfl, _⟩ := Dq.of_tup hq
    obtain rfl : u = Value.ref a := ru
    exact byReads rd fun z => absurd z (by have := noDict_plain _ ok.b; rw [this]; decide)
  | dict D =>
    obtain ⟨a, rfl, na, rd⟩ := dict_reads I ex hq ru ok.b
    exact byReads rd fun _ z => na (List.mem_singleton.mp z).symm
theorem dv_repr (hgu : X.A.guards = some []) (hu : X.A.units + 64 < cLine) (hm : X.mg "repr" = none) (h : dV X c e ρ μ (.dat d) μ1) (ok : ROk d) (hg : Gl X "repr" := by rfl) (he : starEach [e] X.env = (false, eval e X.env) :: starEach [] X.env := by exact star_cons rfl) (hpl : (backTo pos (starEach [] X.env)).any (·.1) = false := by rfl) :
    dV X c (.Call (.Name "repr" p) [e] [] pos) ρ μ (.dat (.str d.shown)) μ1 :=
  dv_callB (call_reprD hgu hu) hm (by decide +kernel) (da1 h he) (fun m S H vs Q W q k => by
    obtain ⟨v, rfl, hv⟩ := slVs1 q
    exact ⟨S, v, d, rfl, W.sub, hv, ok, k.now W (.str _)⟩) hg (by decide) (by decide) he hpl
end
end Dr
set_option maxHeartbeats 4000000
/-! N6: try: body / except (A, B, C) as e: suite, where the suite takes what the body raises. -/
namespace Dr
open PySem PySem.Spec PyProof.Rows L2
theorem fly_keep {B h h' : Heap} {l : List Env} {e : Addr} {Z : Obj → Prop} (k : ∀ b o, h.get? b = some o → h'.get? b = some o) (x : HandSPX.FlyingZ B l e Z h) : HandSPX.FlyingZ B l e Z h' := by
  obtain ⟨a1, a2, a3, oe, vs, T, oT, ts, b1, b2, b3, b4, b5, b6, b7, b8, b9⟩ := x
  exact ⟨fun b o q => k b o (a1 b o q), a2, Heap.FunFrames.of_keeps (fun b o q _ => ⟨o, k b o q, rfl⟩) a3, oe, vs, T, oT, ts, k _ _ b1, b2, b3, b4, b5, b6, k _ _ b7, b8, b9⟩
/-- what the suite is asked of an exception that it takes -/
def wT3 (X : Cx) (i : Nat) (cs : List Value) (suite : List Stmt) (D : Ends) : WX := fun cls d σ H => PySem.W.exmAny X.K cls cs = some true ∧ ∀ (a : Addr) (oe : Obj) (pn : List (Addr × Obj)), H a = none → Zc cls d oe → (∃ vs, oe.data = .fields vs) →
  wSs (X.suite a ((a, oe) :: pn)) suite { nx := fun σ' H' => D.nx (σ'.set i none) H', rt := D.rt, bk := fun σ' H' => D.bk (σ'.set i none) H', ct := fun σ' H' => D.ct (σ'.set i none) H' } (σ.set i (some (.ref a))) H
section
variable {X : Cx} {n x1 x2 x3 : Str} {a1 a2 a3 : Addr} {i : Nat} {body sts : List Stmt} {b0 : Stmt} {q1 q2 q3 qt pos hp : Pos} {kt} {tb : WX → TS}
theorem ps_try3 (hst : X.stack = X.env :: X.outer) (hfr : X.env.frame = some X.env.locals) (hN : X.N.Nodup) (hi : X.N[i]? = some n) (hln : X.env.kindOf n = some .local)
    (g1 : Gl X x1) (g2 : Gl X x2) (g3 : Gl X x3) (m1 : X.mg x1 = some (.ref a1)) (m2 : X.mg x2 = some (.ref a2)) (m3 : X.mg x3 = some (.ref a3)) (d1 : (x1 == ("__debug__" : Str)) = false) (d2 : (x2 == ("__debug__" : Str)) = false) (d3 : (x3 == ("__debug__" : Str)) = false)
    (hb : ∀ (W : WX) (pn : List (Addr × Obj)) (xe : Value → Shared → Prop), Takes (X.tr pn xe) W → PassesOwn (model X.prog X.w) X.A X.env xe → PSs (X.tr pn xe) body (tb W)) :
    PS X (.Try body [.ExceptHandler (some (.Tuple [.Name x1 q1, .Name x2 q2, .Name x3 q3] kt qt)) (some n) (b0 :: sts) hp] [] [] pos) (fun D σ H => tb (wT3 X i [.ref a1, .ref a2, .ref a3] (b0 :: sts) D) D σ H) := by
  refine ⟨fun pins s σ H D I h => ?_⟩
  have ok := I.ok
  have hAf : X.A.frames = some (X.env :: X.outer) := by rw [ok.frames, hst]
  refine wpAny_Try_except (wpAny_mono ((hb (wT3 X i [.ref a1, .ref a2, .ref a3] (b0 :: sts) D) (X.pn ++ pins) _ (fun u s' xx => ?_) PassesOwn.looking).run [] s σ H D (I.toTry _) h) (fun f s1 hsp => ?_) (fun e s1 he => he))
  · obtain ⟨a, B, sI, pins', σ', H', cls, d, rfl, J', nb, up, sky, na, os, ag, hx, hsu⟩ := xx
    have J : Inv X pins σ' H' sI := J'.ofTry ok
    have sky2 : Sky B (X.env :: X.outer) a (Zc cls d) X.env.locals s'.heap := by rw [← hst]; exact sky
    refine Sky.land Zc.steady hAf hfr sky2 fun h3 fl3 up3 => ?_
    have J3 : Inv X pins σ' H' { s' with heap := h3 } := J.landed nb fl3.1 (up.trans up3) os ag
    obtain ⟨oe3, vs3, he3, hz3, hd3⟩ := fl3.there
    have off : a ∉ frs (X.env :: X.outer) := fun hm => by
      obtain ⟨_, o2, e2, hnf⟩ := fl3.2.2.1.mem hm
      rw [he3] at e2; cases e2
      exact hnf _ hd3
    have offL : a ≠ X.env.locals := fun z => off (List.mem_filterMap.mpr ⟨X.env, List.mem_cons_self, by rw [hfr, z]⟩)
    have offF : a ∉ X.fs := fun hm => by
      obtain ⟨e, he, q⟩ := List.mem_filterMap.mp hm
      exact off (List.mem_filterMap.mpr ⟨e, List.mem_cons_of_mem _ he, q⟩)
    have S3 := J3.suite he3 hd3 na offL offF
    refine wpAny_handleBy_cons (codeAny_handlers_test ?_) (by intro q; cases q)
    refine wpAny_Tuple_spliced (spliced_more (ld_glob (X := X.suite a ((a, oe3) :: (X.pn ++ pins))) S3 g1 m1 (spliced_more (ld_glob (X := X.suite a ((a, oe3) :: (X.pn ++ pins))) S3 g2 m2 (spliced_more (ld_glob (X := X.suite a ((a, oe3) :: (X.pn ++ pins))) S3 g3 m3 (spliced_none ⟨Nat.le_trans (Nat.le_of_ble_eq_true rfl) (show 64 ≤ sizeLine by decide), ?_⟩) d3)) d2)) d1))
    have kp : ∀ b o, h3.get? b = some o → (h3.push ({ cls := .type "tuple", data := .seq [Value.ref a1, .ref a2, .ref a3].toArray } : Obj)).get? b = some o := fun b o z => Heap.get?_push_of_some _ z
    have flT := fly_keep kp fl3
    have JT := J3.kept (t' := s'.toks) kp
    have LT : PySem.W.Looks (model X.prog X.w) (h3.push ({ cls := .type "tuple", data := .seq [Value.ref a1, .ref a2, .ref a3].toArray } : Obj)) (typeOf (.ref a)) cls := fun A Q E s k q => wpAny_typeOf_ref (k _ _ (kp _ _ he3)) (by rw [hz3.1]; exact q)
    refine (PySem.W.exm_tup3 (M := model X.prog X.w) (tp := h3.objs.size) JT.kIn LT (Heap.get?_push_size _ rfl) hx).here ?_
    refine codeAny_handlers_suite_as (HandSPX.lands_againZ flT fun h4 fl4 up4 => ?_)
    have J4 : Inv X pins σ' H' { s' with heap := h4 } := J.landed nb fl4.1 (((up.trans up3).trans (Heap.UpToSlots.of_keeps kp)).trans up4) os ag
    obtain ⟨oe4, vs4, he4, hz4, hd4⟩ := fl4.there
    have S4 := J4.suite he4 hd4 na offL offF
    refine store_ok (X := X.suite a ((a, oe4) :: (X.pn ++ pins))) (v := .ref a) S4 hN hi (.inl hln) rfl (fun s5 S5 => ?_) (.inr hln)
    refine wpAny_mono (hsu a oe4 (X.pn ++ pins) na hz4 ⟨_, hd4⟩ [] s5 S5) (fun f s6 hsp => ?_) (fun _ _ z => False.elim z)
    have fin : ∀ {σ6 : L2.St} {H6 : Hp} {Q : Shared → Prop}, Inv (X.suite a ((a, oe4) :: (X.pn ++ pins))) [] σ6 H6 s6 → (∀ s7, Inv X pins (σ6.set i none) H6 s7 → Q s7) → wpAny (model X.prog X.w) X.A (do bindName X.env n .none; unbindBehindTheSuite X.env n hp) (fun _ s7 => Q s7) X.xe s6 := fun {σ6 H6 Q} S6 hq => gone_ok (S6.unsuite ok) hN hi hln hq
    cases f with
    | next => obtain ⟨σ6, H6, S6, q6⟩ := hsp; exact fin S6 fun s7 J7 => ⟨_, _, J7, q6⟩
    | brk => obtain ⟨σ6, H6, S6, q6⟩ := hsp; exact fin S6 fun s7 J7 => ⟨_, _, J7, q6⟩
    | cont => obtain ⟨σ6, H6, S6, q6⟩ := hsp; exact fin S6 fun s7 J7 => ⟨_, _, J7, q6⟩
    | ret u => obtain ⟨v6, σ6, H6, S6, r6, q6⟩ := hsp; exact fin S6 fun s7 J7 => ⟨_, _, _, J7, r6, q6⟩
  · cases f with
    | next => obtain ⟨σ', H', J', q⟩ := hsp; exact wpAny_execs_nil ⟨σ', H', J'.ofTry ok, q⟩
    | brk => obtain ⟨σ', H', J', q⟩ := hsp; exact ⟨σ', H', J'.ofTry ok, q⟩
    | cont => obtain ⟨σ', H', J', q⟩ := hsp; exact ⟨σ', H', J'.ofTry ok, q⟩
    | ret u => obtain ⟨v, σ', H', J', r, q⟩ := hsp; exact ⟨v, σ', H', J'.ofTry ok, r, q⟩
end
end Dr
set_option maxHeartbeats 4000000
/-! N7: lambdas: the maker's table is owned. -/
namespace Dr
open PySem PySem.Spec PyProof.Rows L2 LamX
/-- the table at P, its code objects known -/
def TabR (P : Addr) (q : Str) : Hp → Addr → HO → Prop := fun S a o => a = P ∧ ∃ ps : Array Value, o = .tbl ps ∧ TriplesOk ps.toList ∧ ∀ (pos : Pos) (cv : Value), codeAmong pos ps.toList = some cv → ∃ c, cv = .ref c ∧ S c = some (CodeO c q)
theorem TabR.up {P : Addr} {q : Str} (S S' : Hp) (a : Addr) (o : HO) (e : Ex S S') (h : TabR P q S a o) : TabR P q S' a o := by
  obtain ⟨h1, ps, h2, h3, h4⟩ := h
  refine ⟨h1, ps, h2, h3, fun pos cv hc => ?_⟩
  obtain ⟨c, e1, e2⟩ := h4 pos cv hc
  exact ⟨c, e1, e _ _ e2⟩
def tabM (P : Addr) (q : Str) : Mo := .tab (TabR P q) TabR.up
theorem set_same {α : Type} {l : List α} {j : Nat} {u : α} (h : l[j]? = some u) : l.set j u = l := by
  apply List.ext_getElem?
  intro n
  by_cases hn : n = j
  · subst hn
    rw [List.getElem?_set_self (List.getElem?_eq_some_iff.mp h).1, h]
  · rw [List.getElem?_set_ne (Ne.symm hn)]
section
variable {X : Cx} {c : Ct} {μ : List Mo} {m : List Addr} {S H : Hp} {pins : List (Addr × Obj)} {σ : L2.St} {s : Shared}
theorem lam_makeM {j : Nat} {cc P : Addr} {params : Arguments} {body : Expr} {scope : Scope} {pos : Pos} {E : Value → Shared → Prop} {Q : Value → Shared → Prop} (I : Inv X pins σ H s) (W : Wd X c μ m S H) (TB : TabB X.base X.mg cc P) (hcode : X.env.code = .ref cc)
    (hj : μ[j]? = some (tabM P (X.env.qual ++ "<lambda>"))) (hdef : defaultsOf params X.env = ([], [])) (hfree : ∀ y ∈ scope.names, y.2 = .free → ∃ c, X.env.cells.lookup y.1 = some c)
    (h : ∀ (f c' : Addr) (pm ctv : Value) (S1 H1 : Hp) (s' : Shared), Inv X pins σ H1 s' → Wd X c μ m S1 H1 → Ex S S1 → S1 c' = some (CodeO c' (X.env.qual ++ "<lambda>")) →
      s'.heap.get? f = some (PySem.W.kla_obj "<lambda>" (X.env.qual ++ "<lambda>") params body scope (cloFrom X.env.cells scope.names []) pm c' ctv) → H1 f = none → f ∉ frs X.stack → Q (.ref f) s') :
    wpAny (model X.prog X.w) X.A (eval (.Lambda params body scope pos) X.env) Q E s := by
  have hjl : j < m.length := W.len ▸ (List.getElem?_eq_some_iff.mp hj).1
  obtain ⟨o, hP0, hRP, ps, rfl, ht, ha⟩ := W.obj j m[j] _ (List.getElem?_eq_getElem hjl) hj
  have hmj : m[j]? = some P := by rw [List.getElem?_eq_getElem hjl, hRP]
  have hP : H P = some (.tbl ps) := by rw [← hRP]; exact hP0
  refine PySem.W.kla_eval hdef ?_
  have bP : s.heap.BuiltinsAt X.mg P := TB.bm.keeps I.bk
  have oP : s.heap.get? P = some { cls := .none, data := .fields ps } := I.hok P _ hP
  have offS : ∀ f, s.heap.objs.size ≤ f → f ∉ frs X.stack := fun f hf z => by
    rcases List.mem_cons.mp (I.stkSub _ z) with e | e
    · have h1 := I.lt
      rw [← e] at h1
      exact absurd h1 (Nat.not_lt.mpr hf)
    · exact I.nofs hf e
  cases hc : codeAmong pos ps.toList with
  | none =>
    refine PySem.W.kla_makeFunction (mg := X.mg) (c := cc) (P := P) (ps := ps) (closure_ok hfree) I.ok.glob (I.mod.glob.keeps I.bk) hcode (TB.code.keeps I.bk) oP ht hc TB.gP bP fun c' ctv h' tk hx hge hlt hrec htb => ?_
    obtain ⟨c2, oc, vs, t, e2, hoc, hd, hv⟩ := hrec
    cases e2
    have hsz : s.heap.objs.size ≤ h'.objs.size := Nat.le_trans hge (Nat.le_of_lt hlt)
    have nC : H c' = none := I.hok.fresh hge
    have nPc : P ≠ c' := fun z => by rw [z, nC] at hP; cases hP
    have I1 := inv_table (q := X.env.qual ++ "<lambda>") (t' := tk) (more := #[rawInt pos.line, rawInt pos.col, .ref c']) (h' := h'.push (PySem.W.kla_obj "<lambda>" (X.env.qual ++ "<lambda>") params body scope (cloFrom X.env.cells scope.names []) ((X.mg "__name__").getD .none) c' ctv)) I hP
      (fun b o hb e => Heap.get?_push_of_some _ (hx b o hb e)) (Heap.get?_push_of_some _ htb) hge ⟨oc, vs, t, Heap.get?_push_of_some _ hoc, hd, hv⟩
    obtain ⟨Wl, el⟩ := W.lay (CodeO c' (X.env.qual ++ "<lambda>")) nC
    have eL : (ps ++ #[rawInt pos.line, rawInt pos.col, .ref c']).toList = ps.toList ++ [rawInt pos.line, rawInt pos.col, .ref c'] := by simp
    have Wt := Wl.put (o := .tbl (ps ++ #[rawInt pos.line, rawInt pos.col, .ref c'])) (u := tabM P (X.env.qual ++ "<lambda>")) hmj ⟨_, upd_same, rfl, _, rfl, by rw [eL]; exact PySem.TriplesOk_snoc _ _ _ _ ht, fun p' cv hcv => by
      rw [eL] at hcv
      rcases among_app _ ht hcv with z | z
      · obtain ⟨c0, e1, e2⟩ := ha p' cv z
        exact ⟨c0, e1, el _ _ e2⟩
      · exact ⟨c', z, upd_same⟩⟩
    rw [set_same hj] at Wt
    have eH : upd (upd H c' (CodeO c' (X.env.qual ++ "<lambda>"))) P (.tbl (ps ++ #[rawInt pos.line, rawInt pos.col, .ref c'])) = upd (upd H P (.tbl (ps ++ #[rawInt pos.line, rawInt pos.col, .ref c']))) c' (CodeO c' (X.env.qual ++ "<lambda>")) := funext fun b => by
      by_cases h1 : b = P
      · subst h1; rw [upd_same, upd_ne nPc, upd_same]
      · by_cases h2 : b = c'
        · subst h2; rw [upd_ne h1, upd_same, upd_same]
        · rw [upd_ne h1, upd_ne h2, upd_ne h2, upd_ne h1]
    rw [eH] at Wt
    refine h h'.objs.size c' ((X.mg "__name__").getD .none) ctv _ _ _ I1 Wt el upd_same (Heap.get?_push_size _ rfl) ?_ (offS _ hsz)
    have n1 : h'.objs.size ≠ c' := Nat.ne_of_gt hlt
    have n2 : h'.objs.size ≠ P := Nat.ne_of_gt (Nat.lt_of_lt_of_le (Heap.lt_size oP) hsz)
    rw [upd_ne n1, upd_ne n2]
    exact I.hok.fresh hsz
  | some cv =>
    obtain ⟨c', e, hco⟩ := ha pos cv hc
    subst e
    refine PySem.W.kla_makeFunctionHit (mg := X.mg) (c := cc) (P := P) (ps := ps) (closure_ok hfree) I.ok.glob (I.mod.glob.keeps I.bk) hcode (TB.code.keeps I.bk) oP ht hc bP fun ctv h' tk hx hsz => ?_
    have I1 : Inv X pins σ H { s with heap := h'.push (PySem.W.kla_obj "<lambda>" (X.env.qual ++ "<lambda>") params body scope (cloFrom X.env.cells scope.names []) ((X.mg "__name__").getD .none) c' ctv), toks := tk } := I.kept fun b o e => Heap.get?_push_of_some _ (hx b o e)
    exact h h'.objs.size c' ((X.mg "__name__").getD .none) ctv S H _ I1 W (Evl.Ex.refl S) hco (Heap.get?_push_size _ rfl) (I.hok.fresh hsz) (offS _ hsz)
end
end Dr
set_option maxHeartbeats 4000000
/-! N8: _law_told(lambda: odds(program, index)), where odds raises. -/
namespace Dr
open PySem PySem.Spec PyProof.Rows L2 LamX
abbrev toldN : List Str := ["_law_act", "_law_back", "_law_e", "_law_word"]
theorem sc_law_told : FnScope toldN ["_law_act"] (defScope s_law_told) := ⟨rfl, rfl, rfl, by decide +kernel, rfl, by decide +kernel, by decide +kernel⟩
section
variable {X : Cx} {c : Ct} {ρ : List Sl} {μ μ1 μ2 : List Mo} {e e2 : Expr} {p pos : Pos} {d : PyData} {a D dx : Addr} {v : V} {k : Nat} {f : Addr} {fd : FuncData}
/-- the world of a call that owns nothing -/
theorem Wd.bare {m : List Addr} {S H : Hp} (W : Wd X c μ m S H) : MoOk X.prog X.w X.K ⟨H, S, []⟩ [] [] S H := (show Wd X c ([] ++ μ) m S H from W).part
theorem Wd.back {m : List Addr} {S H S' H' : Hp} (W : Wd X c μ m S H) (W' : MoOk X.prog X.w X.K ⟨H, S, []⟩ [] [] S' H') : Wd X c μ m S' H' := by
  have W3 := W.more W'
  rw [List.append_nil, List.append_nil] at W3
  exact W3
theorem dv_err (F : FnW X.prog X.w X.K X.mg X.base k f fd ["_law_e"] (spErr X.prog X.w X.K D)) (hr : L2H.RoomH k X.A) (G : Cau X c a D dx v) (hm : X.mg "_law_error" = some (.ref f)) (hk : PySem.W.keepIn X.K (.ref f) = true) (hb : Binds X.K fd ["_law_e"] []) (he : dV X c e ρ μ (.raw (.ref a)) μ1) (hg : Gl X "_law_error" := by rfl)
    (hs : starEach [e] X.env = (false, eval e X.env) :: starEach [] X.env := by exact star_cons rfl) (hpl : (backTo pos (starEach [] X.env)).any (·.1) = false := by rfl) : dV X c (.Call (.Name "_law_error" p) [e] [] pos) ρ μ (.dat (.str "InvalidNumber")) μ1 := .mk fun m S H σ W R Q kk => by
  obtain ⟨oe, hp, hz, hv⟩ := G.pin
  refine wE_of (pe_callW (p := (a, oe)) F hr hp hg hm hk hb pa_w (by decide) hs hpl) ?_
  refine (da1 he hs).run m S H σ W R _ fun m1 S1 vs H1 W1 e1 p1 q1 => ?_
  obtain ⟨u, rfl, hu⟩ := slVs1 q1
  obtain rfl : u = .ref a := hu
  exact ⟨S1, dx, v, rfl, W1.bare, W1.ex0 _ _ G.dict, hz, hv, fun S' u H' W' r' => kk m1 S' u H' (W1.back W') (e1.trans W'.ex0) p1 r'⟩
theorem dv_fld (F : FnW X.prog X.w X.K X.mg X.base k f fd ["_law_e", "_law_word"] (spFld X.prog X.w X.K D)) (hr : L2H.RoomH k X.A) (G : Cau X c a D dx v) (hq : Dq X.K c.S0 v d) (hm : X.mg "_law_field" = some (.ref f)) (hk : PySem.W.keepIn X.K (.ref f) = true) (hb : Binds X.K fd ["_law_e", "_law_word"] []) (he : dV X c e ρ μ (.raw (.ref a)) μ1)
    (he2 : dV X c e2 ρ μ1 (.dat (.str "InvalidNumber")) μ2) (hg : Gl X "_law_field" := by rfl) (hs : starEach [e, e2] X.env = (false, eval e X.env) :: starEach [e2] X.env := by exact star_cons rfl) (hs' : starEach [e2] X.env = (false, eval e2 X.env) :: starEach [] X.env := by exact star_cons rfl)
    (hpl : (backTo pos (starEach [e2] X.env)).any (·.1) = false := by rfl) : dV X c (.Call (.Name "_law_field" p) [e, e2] [] pos) ρ μ (.dat d) μ2 := .mk fun m S H σ W R Q kk => by
  obtain ⟨oe, hp, hz, hv⟩ := G.pin
  refine wE_of (pe_callW (p := (a, oe)) F hr hp hg hm hk hb pa_w (by decide) hs hpl) ?_
  refine (da2 he he2 hs hs').run m S H σ W R _ fun m1 S1 vs H1 W1 e1 p1 q1 => ?_
  obtain ⟨u, u2, rfl, hu, hu2⟩ := slVs2 q1
  obtain rfl : u = .ref a := hu
  obtain rfl := Dq.of_str hu2
  exact ⟨S1, dx, v, d, rfl, W1.bare, W1.ex0 _ _ G.dict, hq.mono W1.ex0, hz, hv, fun S' u H' W' r' => kk m1 S' u H' (W1.back W') (e1.trans W'.ex0) p1 r'⟩
end
/-- all that _law_told calls -/
structure ToldT (P : Program) (w : World) (K : PySem.W.Frag) (mg : Str → Option Value) (base : Heap) (C : Addr) : Prop where
  odds : ∃ f fd, FnOk P w K mg base (L2.CX P w) 4 f fd ["program", "index"] (spOdds P w K C) ∧ mg "odds" = some (.ref f) ∧ PySem.W.keepIn K (.ref f) = true ∧ Binds K fd ["program", "index"] [] ∧ ∀ (s : Shared) (w1 w2 : Value), BindsTo s fd ⟨[], [("index", w1), ("program", w2)]⟩ [("program", w2), ("index", w1)]
  err : ∃ f fd, FnW P w K mg base 1 f fd ["_law_e"] (spErr P w K C) ∧ mg "_law_error" = some (.ref f) ∧ PySem.W.keepIn K (.ref f) = true ∧ Binds K fd ["_law_e"] []
  fld : ∃ f fd, FnW P w K mg base 1 f fd ["_law_e", "_law_word"] (spFld P w K C) ∧ mg "_law_field" = some (.ref f) ∧ PySem.W.keepIn K (.ref f) = true ∧ Binds K fd ["_law_e", "_law_word"] []
  told : ∃ f fd, Fun K "_law_told" "_law_told" s_law_told f fd ∧ mg "_law_told" = some (.ref f)
  three : ∃ a1 a2 a3, mg "WrongValue" = some (.ref a1) ∧ mg "WrongName" = some (.ref a2) ∧ mg "NoAnswer" = some (.ref a3) ∧ PySem.W.exmAny K (.ref C) [.ref a1, .ref a2, .ref a3] = some true
  repr : mg "repr" = none
section
variable {X : Cx} {c : Ct} {ρ : List Sl} {μ : List Mo} {C : Addr} {d : PyData} {pr : List Row} {l : List Stt} {j i1 i2 : Nat} {cc Pt : Addr} {x : Str} {params : Arguments} {scope : Scope} {p po p1 p2 p3 lpos pos : Pos}
/-- the suite of _law_told, in the state where the exception is held -/
theorem told_suite {P : Program} {w : World} {K : PySem.W.Frag} {mg : Str → Option Value} {base : Heap} {C : Addr} (T : ToldT P w K mg base C) {g : Addr} {cdg : Value} {A : Around} {outer : List Env} {s : Shared} {H1 : Hp} {E : XK} {D : Ends} {σ : L2.St} {S H : Hp} {a dx : Addr} {oe : Obj} {pn : List (Addr × Obj)} {v : V}
    (hgu : A.guards = some []) (hr : Room 5 A) (W : MoOk P w K ⟨H, S, []⟩ [] [] S H) (hx : S dx = some (.xd [("given", v)])) (hq : Dq K S v d) (ok : ROk d) (hz : Zc (.ref C) (some dx) oe) (hv : ∃ vs, oe.data = .fields vs)
    (k : ∀ S' u H', MoOk P w K ⟨H, S, []⟩ [] [] S' H' → Dq K S' u (.list [.str "error", .str "InvalidNumber", .str d.shown]) → D.rt u H') :
    wSs ((cxOf CX0 P w K mg base toldN "_law_told" (defScope s_law_told) g cdg A outer s H1 E).suite a ((a, oe) :: pn)) (match defBody s_law_told with | .Try _ [.ExceptHandler _ _ b _] _ _ _ :: _ => b | _ => []) D (σ.set 2 (some (.ref a))) H := by
  intro pins s2 I
  have hlen : (σ.set 2 (some (.ref a))).length = 4 := I.len
  rw [List.length_set] at hlen
  obtain ⟨fe, fde, Fe, me, ke, be⟩ := T.err
  obtain ⟨ff, fdf, Ff, mf, kf, bf⟩ := T.fld
  have G : Cau ((cxOf CX0 P w K mg base toldN "_law_told" (defScope s_law_told) g cdg A outer s H1 E).suite a ((a, oe) :: pn)) ⟨H, S, []⟩ a C dx v := ⟨⟨oe, List.mem_cons_self, hz, hv⟩, hx⟩
  have hrh : L2H.RoomH 1 ((cxOf CX0 P w K mg base toldN "_law_told" (defScope s_law_told) g cdg A outer s H1 E).suite a ((a, oe) :: pn)).A := ⟨by have := hr.dp; show A.depth + 1 + 3 * 1 + 5 < _; omega, by have := hr.un; show A.units + 3 + 16 * 1 + 200 < _; omega⟩
  have hu : ((cxOf CX0 P w K mg base toldN "_law_told" (defScope s_law_told) g cdg A outer s H1 E).suite a ((a, oe) :: pn)).A.units + 64 < cLine := by have := hr.un; show A.units + 3 + 64 < _; omega
  have R0 : SlOk K S [] (σ.set 2 (some (.ref a))) [.no, .no, .raw (.ref a), .no] := by
    refine ⟨by rw [List.length_set, hlen]; rfl, fun i s0 hs => ?_⟩
    match i, hs with
    | 0, hs => exact .inl (Option.some.inj hs).symm
    | 1, hs => exact .inl (Option.some.inj hs).symm
    | 2, hs => exact .inr ⟨.ref a, List.getElem?_set_self (by omega), by rw [← Option.some.inj hs]; rfl⟩
    | 3, hs => exact .inl (Option.some.inj hs).symm
    | n + 4, hs => exact absurd hs (by simp)
  have hN := sc_law_told.nd
  have Dd : dXs ((cxOf CX0 P w K mg base toldN "_law_told" (defScope s_law_told) g cdg A outer s H1 E).suite a ((a, oe) :: pn)) ⟨H, S, []⟩ (match defBody s_law_told with | .Try _ [.ExceptHandler _ _ b _] _ _ _ :: _ => b | _ => []) [.no, .no, .raw (.ref a), .no] [] (.rt (.dat (.list [.str "error", .str "InvalidNumber", .str d.shown])) []) := by
    refine dxs_cons (ρ1 := [.no, .no, .raw (.ref a), .dat (.str "InvalidNumber")]) (μ1 := []) (dx_set (i := 3) (dv_err Fe hrh G me ke be (dv_name 2 rfl (by nofun))) hN) ?_
    exact dxs_one (dx_retIs (dv_lst (dd_cons dv_str (dd_cons (dv_name 3 rfl (by nofun)) (dd_cons (dv_repr hgu hu T.repr (dv_fld Ff hrh G hq mf kf bf (dv_name 2 rfl (by nofun)) (dv_name 3 rfl (by nofun))) ok) dd_nil)))) rfl)
  exact Dd.run [] S H _ W R0 _ (fun m' S' u H' W' e' r' => by
    have hm' : m' = [] := List.eq_nil_of_length_eq_zero W'.len.symm
    subst hm'
    exact k S' u H' W' r') pins s2 I
end
end Dr
set_option maxHeartbeats 4000000
/-! N9: the call _law_told(lambda: odds(program, index)). -/
namespace Dr
open PySem PySem.Spec PyProof.Rows L2 LamX
section
variable {X : Cx} {c : Ct} {ρ : List Sl} {μ : List Mo} {C : Addr} {d : PyData} {pr : List Row} {l : List Stt} {j i1 i2 : Nat} {cc Pt : Addr} {x : Str} {params : Arguments} {scope : Scope} {p po p1 p2 p3 lpos pos : Pos}
theorem dv_told (T : ToldT X.prog X.w X.K X.mg X.base C) (hgu : X.A.guards = some []) (hr : Room 6 X.A) (TB : TabB X.base X.mg cc Pt) (hcode : X.env.code = .ref cc) (hj : μ[j]? = some (tabM Pt (X.env.qual ++ "<lambda>")))
    (h1 : ρ[i1]? = some (.prg (.tuple (texts pr)) (.tuple (steps pr)))) (h2 : ρ[i2]? = some (.dat d)) (hN1 : X.N[i1]? = some "_law_mine") (hN2 : X.N[i2]? = some x) (Sr : Srch pr l) (hn : notTest pr d) (ok : ROk d)
    (L : LamS X.env.scope scope) (hv1 : Vis scope "_law_mine") (hv2 : Vis scope x) (hgo : scope.names.lookup ("odds" : Str) = some .globalImplicit) (hdef : defaultsOf params X.env = ([], [])) (hx1 : (x == ("__debug__" : Str)) = false) (hx2 : (x == ("__classdict__" : Str)) = false)
    (hbind : ∀ (q : Str) (body : Expr) (cl : List (Str × Addr)) (pm cv ctv : Value), bindArgs (PySem.W.kla_fn "<lambda>" q params body scope cl pm cv ctv) ⟨[], []⟩ = pure []) (hg : Gl X "_law_told" := by rfl) :
    dV X c (.Call (.Name "_law_told" p) [.Lambda params (.Call (.Name "odds" po) [.Name "_law_mine" p1, .Name x p2] [] p3) scope lpos] [] pos) ρ μ (.dat (.list [.str "error", .str "InvalidNumber", .str d.shown])) μ := .mk fun m S H σ W R Q kk pins s I => by
  obtain ⟨g, fdg, Fg, hmg⟩ := T.told
  obtain ⟨fo, fdo, Fo, hmo, hko, hbo, _⟩ := T.odds
  obtain ⟨a1, a2, a3, n1, n2, n3, hany⟩ := T.three
  have hkg := Fg.kp
  have hbg : Binds X.K fdg ["_law_act"] [] := Fg.binds (fun _ _ _ _ _ _ us hl => match us, hl with | [_], _ => rfl)
  obtain ⟨oc, od, kV, doc, pm0, an, cdg, ct, osl, rfl, lk, hcg⟩ := Fg.ex
  refine wpAny_Call_Name_kw (ld_glob I hg hmg ?_ (by decide))
  refine PySem.W.callWith_K (h₀ := X.base) I.ok.mod.kin hkg ?_ (by rfl) (by rfl)
  show wpAny _ _ (spliced ((false, eval (.Lambda params (.Call (.Name "odds" po) [.Name "_law_mine" p1, .Name x p2] [] p3) scope lpos) X.env) :: backTo pos (starEach [] X.env))) _ _ s
  refine Calls.spliced_cons (lam_makeM I W TB hcode hj hdef (L.has I.ok) fun f c' pm ctv S1 H1 s' I1 W1 e1 hco hf hfn hfr => Calls.spliced_nil ⟨I1.kIn, ?_⟩)
  -- the captured values
  obtain ⟨v1, s1, q1⟩ : ∃ v, σ[i1]? = some (some v) ∧ SlV X.K S m v (.prg (.tuple (texts pr)) (.tuple (steps pr))) := by
    rcases R.at_ i1 _ h1 with z | z
    · cases z
    · exact z
  obtain ⟨v2, s2, q2⟩ : ∃ v, σ[i2]? = some (some v) ∧ SlV X.K S m v (.dat d) := by
    rcases R.at_ i2 _ h2 with z | z
    · cases z
    · exact z
  have b := hbg s' [.ref f] I1.kIn rfl
  rw [List.append_nil] at b
  have rc : codeAny (model X.prog X.w) X.A (.call (.ref g) ⟨[.ref f], []⟩) (CR CX0 X.stack X.prog X.w H1 s' Q (fun _ _ _ => False)) s' := by
    refine run_ofS (N := toldN) (ps := ["_law_act"]) (us := [.ref f]) (vs := [.ref f]) lk hcg sc_law_told hr I1.env0 b (.cons rfl .nil) rfl fun hr5 => ?_
    refine ⟨_, pss_cons (ps_try3 (X := cxOf CX0 X.prog X.w X.K X.mg X.base toldN "_law_told" (defScope s_law_told) g cdg X.A X.stack s' H1 (fun _ _ _ => False)) (i := 2) (a1 := a1) (a2 := a2) (a3 := a3)
      (tb := fun W D σ H => ∃ Ech : XK, (∀ cls d σ' H', Ech cls d H' → W cls d σ' H') ∧ σ[0]? = some (some (.ref f)) ∧ H c' = some (CodeO c' (X.env.qual ++ "<lambda>")) ∧ spOdds X.prog X.w X.K C [v1, v2] H (fun v H' => D.nx (σ.set 1 (some v)) H') Ech)
      rfl rfl sc_law_told.nd rfl rfl rfl rfl rfl n1 n2 n3 (by decide) (by decide) (by decide) (fun Wx pn xe tk hp => ?_)) pss_w, ?_⟩
    · refine ⟨fun pins3 s3 σ3 H3 D3 I3 h3 => ?_⟩
      obtain ⟨Ech, hW, z1, z2, z3⟩ := h3
      exact (pss_one (ps_set (i := 1) sc_law_told.nd rfl (Or.inl rfl) (pe_act (CXg := CX0) (Eg := fun _ _ _ => False) (Ng := toldN) (qg := "_law_told") (sg := defScope s_law_told) (g := g) (cdg := cdg) (i := 0) (a := "_law_act") (pn := pn) (xe := xe) (W := Wx) (E := Ech) (k := 4) (tb := tCall (spOdds X.prog X.w X.K C) [] Ech (tCons (tVar i1) (tCons (tVar i2) tNil))) I1 L hf hfn hfr (hbind _ _ _ _ _ _) tk hW hr5
        (fun A outer s0 H0 hr4 => pe_call (X := lamCx X A outer s0 H0 Ech scope f c') Fo hr4 hgo hmo hko hbo .nil (passes_call (takes_of rfl rfl rfl rfl) (fun _ _ _ _ z => z)) (pa_cons (pe_var hN1 hv1) (pa_cons (pe_var hN2 hv2 hx1 hx2) pa_nil))) rfl (.inl rfl)) rfl (Or.inl rfl))).run pins3 s3 σ3 H3 D3 I3 ⟨z1, z2, v1, s1, v2, s2, z3⟩
    · refine ⟨fun cls d2 H' => ∀ σ', wT3 (cxOf CX0 X.prog X.w X.K X.mg X.base toldN "_law_told" (defScope s_law_told) g cdg X.A X.stack s' H1 (fun _ _ _ => False)) 2 [.ref a1, .ref a2, .ref a3] _ _ cls d2 σ' H', fun cls d2 σ' H' z => z σ', rfl, W1.sub _ _ hco, S1, pr, l, d, v1, v2, rfl, Sr, W1.bare, ?_, Dq.mono e1 q2, .inr ⟨hn, fun S' v H' dx W' q n σ' => ⟨hany, fun a oe pn na hz hv => ?_⟩⟩⟩
      · obtain ⟨b1, b2, b3, b4, b5, b6, b7, b8⟩ := q1.mono e1 (List.prefix_refl m)
        exact ⟨b1, b2, b3, b4, b5, b6, b7, b8⟩
      · have W2 := W1.back W'
        obtain ⟨W3, e3⟩ := W2.lay (.xd [("given", v)]) n
        exact told_suite T hgu (hr.mono (by decide)) (Wd.bare W3) upd_same (q.mono e3) ok hz hv (fun S4 u H4 W4 r4 => kk m S4 u H4 (Wd.back W3 W4) (((e1.trans W'.ex0).trans e3).trans W4.ex0) (List.prefix_refl m) r4)
  refine wpAny_call (codeAny_mono rc fun r s2 hq => ?_)
  cases r with
  | error e => exact (show False from hq).elim
  | ok fl =>
    cases fl with
    | ret u => exact I1.after hq
    | next => exact False.elim hq
    | brk => exact False.elim hq
    | cont => exact False.elim hq
end
end Dr
set_option maxHeartbeats 400000
/-! N10: odds as a value, by places and by keywords; a, b = e1, e2 with any slots; what repr may be asked of. -/
namespace Dr
open PySem PySem.Spec PyProof.Rows L2 LamX
section
variable {X : Cx} {c : Ct} {ρ ρ1 : List Sl} {μ μ1 μ2 : List Mo} {C : Addr} {s1 s2 : Sl} {e1 e2 a b : Expr} {p pos q1 q2 vp tp : Pos} {pr : List Row} {l : List Stt} {i : Int} {q : Qt} {f8 : F8} {ts : List Expr}
theorem odds_sp {S H : Hp} {m : List Addr} {vp vi : V} {Q : VK} {E : XK} (W : Wd X c μ m S H) (Sr : Srch pr l) (h0 : 0 ≤ i) (h1 : i < pr.length) (hrow : rowAt pr i = .ifc q f8) (hp : SlV X.K S m vp (.prg (.tuple (texts pr)) (.tuple (steps pr)))) (hi : Dq X.K S vi (.int i))
    (k : ∀ S' v H', Wd X c μ m S' H' → Ex S S' → Dq X.K S' v (oddsOf (toldQ q i l)) → Q v H') : spOdds X.prog X.w X.K C [vp, vi] H Q E :=
  ⟨S, pr, l, .int i, vp, vi, rfl, Sr, W.bare, (by obtain ⟨b1, b2, b3, b4, b5, b6, b7, b8⟩ := hp; exact ⟨b1, b2, b3, b4, b5, b6, b7, b8⟩), hi, .inl ⟨i, q, f8, rfl, h0, h1, hrow, fun S' v H' W' r => k S' v H' (W.back W') W'.ex0 r⟩⟩
theorem dv_odds (T : ToldT X.prog X.w X.K X.mg X.base C) (hr : Room 4 X.A) (Sr : Srch pr l) (h0 : 0 ≤ i) (h1 : i < pr.length) (hrow : rowAt pr i = .ifc q f8) (ha : dV X c e1 ρ μ (.prg (.tuple (texts pr)) (.tuple (steps pr))) μ1) (hb : dV X c e2 ρ μ1 (.dat (.int i)) μ2) (hg : Gl X "odds" := by rfl)
    (hs : starEach [e1, e2] X.env = (false, eval e1 X.env) :: starEach [e2] X.env := by exact star_cons rfl) (hs' : starEach [e2] X.env = (false, eval e2 X.env) :: starEach [] X.env := by exact star_cons rfl) (hpl : (backTo pos (starEach [e2] X.env)).any (·.1) = false := by rfl) :
    dV X c (.Call (.Name "odds" p) [e1, e2] [] pos) ρ μ (.dat (oddsOf (toldQ q i l))) μ2 := .mk fun m S H σ W R Q kk => by
  obtain ⟨fo, fdo, Fo, hmo, hko, hbo, _⟩ := T.odds
  refine wE_of (pe_call (E := fun _ _ _ => False) Fo hr hg hmo hko hbo .nil (passes_call takes_none5 (fun _ _ _ _ z => z.elim)) pa_w (by decide) hs hpl) ?_
  refine (da2 ha hb hs hs').run m S H σ W R _ fun m1 S1 vs H1 W1 e1 p1 q1 => ?_
  obtain ⟨vp, vi, rfl, hp, hi⟩ := slVs2 q1
  exact odds_sp W1 Sr h0 h1 hrow hp hi fun S' v H' W' e' r => kk m1 S' v H' W' (e1.trans e') p1 r
/-- f(k = v, ..) -/
theorem pe_callK2 {CX : CXT} {k : Nat} {f : Addr} {fd : FuncData} {sp : Sp} {E : XK} {x k1 k2 : Str} {t1 t2 : TE} (F : FnOk X.prog X.w X.K X.mg X.base CX k f fd [k1, k2] sp) (hr : Room k X.A) (hg : Gl X x) (hm : X.mg x = some (.ref f)) (hk : PySem.W.keepIn X.K (.ref f) = true) (hx : Passes CX X E)
    (hb : ∀ (s : Shared) (w1 w2 : Value), BindsTo s fd ⟨[], [(k2, w1), (k1, w2)]⟩ [(k1, w2), (k2, w1)]) (h1 : PE X e1 t1) (h2 : PE X e2 t2) (hd : (x == ("__debug__" : Str)) = false := by decide) :
    PE X (.Call (.Name x p) [] [⟨some k2, e1, q1⟩, ⟨some k1, e2, q2⟩] pos) (fun σ H Q => tCons t1 (tCons t2 tNil) σ H fun zs H2 => sp zs.reverse H2 Q E) := by
  refine ⟨fun pins s σ H Q I h => ?_⟩
  refine wpAny_Call_Name_kw (ld_glob I hg hm ?_ hd)
  refine PySem.W.callWith_KW0 (h₀ := X.base) I.ok.mod.kin hk rfl ?_ rfl
  refine thn ((pk_cons h1 (pk_cons h2 pk_nil)).run pos pins s σ H (fun zs H2 => sp zs.reverse H2 Q E) I h) fun ws s2 ⟨zs, H2, I2, rz, qz⟩ => ⟨I2.kIn, ?_⟩
  have hl := F.len _ _ _ _ qz
  rw [List.length_reverse] at hl
  obtain ⟨v1, v2, rfl⟩ : ∃ v1 v2, zs = [v1, v2] := by
    cases zs with
    | nil => cases hl
    | cons v1 zs =>
      cases zs with
      | nil => cases hl
      | cons v2 zs =>
        cases zs with
        | nil => exact ⟨_, _, rfl⟩
        | cons v3 zs => simp at hl
  obtain ⟨w1, w2, rfl, r1, r2⟩ : ∃ w1 w2, ws = [w1, w2] ∧ RelV v1 w1 ∧ RelV v2 w2 := by
    cases rz with
    | cons r1 rz =>
      cases rz with
      | cons r2 rz => cases rz; exact ⟨_, _, rfl, r1, r2⟩
  have qz : sp [v2, v1] H2 Q E := qz
  have go : wpAny (model X.prog X.w) X.A (call (.ref f) [] [(k2, w1), (k1, w2)]) (EP X pins σ Q) X.xe s2 := by
    refine wpAny_call (codeAny_mono (F.run X.A X.stack s2 H2 ⟨[], [(k2, w1), (k1, w2)]⟩ [w2, w1] [v2, v1] Q E hr I2.env0 (hb s2 w1 w2) (.cons r2 (.cons r1 .nil)) qz) fun r s' hq => ?_)
    cases r with
    | error e => exact hx pins σ H2 s2 e s' I2 hq
    | ok fl =>
      cases fl with
      | ret u => exact I2.after hq
      | next => exact False.elim hq
      | brk => exact False.elim hq
      | cont => exact False.elim hq
  have hks : (backToKw pos (keywordEach [⟨some k2, e1, q1⟩, ⟨some k1, e2, q2⟩] X.env)).filterMap (·.1) = [k2, k1] := rfl
  rw [hks]
  exact go
theorem dv_oddsK (T : ToldT X.prog X.w X.K X.mg X.base C) (hr : Room 4 X.A) (Sr : Srch pr l) (h0 : 0 ≤ i) (h1 : i < pr.length) (hrow : rowAt pr i = .ifc q f8) (ha : dV X c e1 ρ μ (.dat (.int i)) μ1) (hb : dV X c e2 ρ μ1 (.prg (.tuple (texts pr)) (.tuple (steps pr))) μ2) (hg : Gl X "odds" := by rfl) :
    dV X c (.Call (.Name "odds" p) [] [⟨some "index", e1, q1⟩, ⟨some "program", e2, q2⟩] pos) ρ μ (.dat (oddsOf (toldQ q i l))) μ2 := .mk fun m S H σ W R Q kk => by
  obtain ⟨fo, fdo, Fo, hmo, hko, _, hbo⟩ := T.odds
  refine wE_of (pe_callK2 (E := fun _ _ _ => False) Fo hr hg hmo hko (passes_call takes_none5 (fun _ _ _ _ z => z.elim)) hbo pe_w pe_w) ?_
  show wE X e1 σ H fun v1 H1 => wE X e2 σ H1 fun v2 H2 => spOdds X.prog X.w X.K C [v2, v1] H2 Q (fun _ _ _ => False)
  refine ha.run m S H σ W R _ fun m1 S1 v1 H1 W1 e1 p1 q1 => ?_
  refine hb.run m1 S1 H1 σ W1 (R.mono e1 p1) _ fun m2 S2 v2 H2 W2 e2 p2 q2 => ?_
  exact odds_sp W2 Sr h0 h1 hrow q2 (Dq.mono e2 q1) fun S' v H' W' e' r => kk m2 S' v H' W' ((e1.trans e2).trans e') (p1.trans p2) r
/-- t1, t2 = a, b, where a name is a cell -/
theorem dx_asg2 {n : Nat} {x1} (hc : X.calm = true) (h : dA X c [a, b] ρ μ [s1, s2] μ1) (hg : dGs X ts [s1, s2] ρ ρ1) (hn : (assignEach ts X.env).length = 2 := by rfl) (hst : (assignEach ts X.env).findIdx? (·.1) = none := by rfl)
    (hs : swapsWithSole [.Tuple ts n tp] (.Tuple [a, b] x1 vp) pos.line X.env = pure false := by rfl) (hw : swappedStores [.Tuple ts n tp] (.Tuple [a, b] x1 vp) X.env = pure none := by rfl) (h1 : (assignEach [.Tuple ts n tp] X.env).map (·.2) = [assign (.Tuple ts n tp) X.env] := by rfl) :
    dX X c (.Assign [.Tuple ts n tp] (.Tuple [a, b] x1 vp) pos) ρ μ (.nx ρ1 μ1) := .mk fun m S H σ W R D kk => by
  obtain ⟨u, hu, k1⟩ := hg
  refine wS_of (ps_asg (pe_tup pa_w) (pg_tup hc hu hn hst) hs hw h1) ?_
  refine h.run m S H σ W R _ fun m1 S1 vs H1 W1 e1 p1 q1 => ⟨?_, fun p hp => ?_⟩
  · have := q1.length
    rw [this]; exact Nat.le_trans (Nat.le_of_ble_eq_true rfl) (show 64 ≤ sizeLine by decide)
  · obtain ⟨W2, e2⟩ := W1.lay (.tup vs) hp
    exact ⟨p, vs, rfl, .inl (.inl upd_same), q1.length, k1 m1 _ _ σ vs W2.sub (R.mono (e1.trans e2) p1) (q1.mono e2 (List.prefix_refl m1)) _ fun σ1 R1 => kk m1 _ σ1 _ W2 (e1.trans e2) p1 R1⟩
end
/-! ### what repr is asked of -/
def rokB (d : PyData) : Bool := rprB d && (d.showable && (decide (d.depth ≤ 50) && decide (d.shown.length ≤ 100000)))
theorem rok_of {d : PyData} (h : rokB d = true) : ROk d := by
  unfold rokB at h
  simp only [Bool.and_eq_true, decide_eq_true_eq] at h
  exact ⟨h.1, h.2.1, h.2.2.1, h.2.2.2⟩
theorem odd_rok : ∀ d, d ∈ oddL → ROk d := fun d hd => rok_of (List.all_eq_true.mp (show oddL.all rokB = true by decide +kernel) d hd)
theorem small_rok : ∀ n : _root_.Fin 10, rokB (.int ((n.val : Int) - 1)) = true := by decide +kernel
theorem int_rok {i : Int} (h0 : -1 ≤ i) (h1 : i ≤ 8) : ROk (.int i) := by
  have := small_rok ⟨(i + 1).toNat, by omega⟩
  have e : (((⟨(i + 1).toNat, by omega⟩ : _root_.Fin 10).val : Nat) : Int) - 1 = i := by show ((i + 1).toNat : Int) - 1 = i; omega
  rw [e] at this
  exact rok_of this
theorem encF_sh : ∀ f, f ∈ redu → (encF f).shown.length ≤ 10 ∧ (encF f).showable = true := by decide +kernel
theorem odds_rok {told : List (Int × Int)} (h : ∀ f, f ∈ told → f ∈ redu) : ROk (.list [oddsOf told, oddsOf told]) := by
  cases told with
  | nil => exact rok_of (by decide +kernel)
  | cons f0 rest =>
    have h1 := encF_sh _ (min_in (f0 :: rest) (h f0 List.mem_cons_self) h)
    have h2 := encF_sh _ (max_in (f0 :: rest) (h f0 List.mem_cons_self) h)
    show ROk (.list [.tuple [encF (minF (f0 :: rest) f0), encF (maxF (f0 :: rest) f0)], .tuple [encF (minF (f0 :: rest) f0), encF (maxF (f0 :: rest) f0)]])
    generalize minF (f0 :: rest) f0 = x at *
    generalize maxF (f0 :: rest) f0 = y at *
    refine ⟨?_, ?_, ?_, ?_⟩
    · simp [rprB, PyData.plain, PyData.plainAll, encF]
    · simp only [PyData.showable, PyData.showableAll, h1.2, h2.2, Bool.and_self]
    · simp [PyData.depth, PyData.depthAll, encF]
    · have t : (PyData.tuple [encF x, encF y]).shown.length ≤ 24 := by
        have e : (PyData.tuple [encF x, encF y]).shown = ("(" : Str) ++ ((encF x).shown ++ ", " ++ (encF y).shown) ++ ")" := rfl
        have l1 : (("(" : String) : Str).length = 1 := rfl
        have l2 : ((", " : String) : Str).length = 2 := rfl
        have l3 : ((")" : String) : Str).length = 1 := rfl
        rw [e, strLen_append, strLen_append, strLen_append, strLen_append, l1, l2, l3]
        omega
      have e : ∀ d : PyData, (PyData.list [d, d]).shown = ("[" : Str) ++ "" ++ d.shown ++ ", " ++ d.shown ++ "]" := fun d => rfl
      have l1 : (("[" : String) : Str).length = 1 := rfl
      have l2 : ((", " : String) : Str).length = 2 := rfl
      have l3 : (("]" : String) : Str).length = 1 := rfl
      have l4 : (("" : String) : Str).length = 0 := rfl
      rw [e, strLen_append, strLen_append, strLen_append, strLen_append, strLen_append, l1, l2, l3, l4]
      omega
end Dr
set_option maxHeartbeats 2000000
/-! F24: _law_right. -/
namespace Dr
open PySem PySem.Spec PyProof.Rows L2 LamX
abbrev rightN : List Str := ["_law_spring_here", "_law_turn", "_law_lines", "_law_mine", "_law_number", "_law_at", "_law_bounds_here", "_law_odd_here", "_law_is_test", "_law_due"]
theorem sc_law_right : FnScope rightN ["_law_spring_here"] (defScope s_law_right) := ⟨rfl, rfl, rfl, by decide +kernel, rfl, by decide +kernel, by decide +kernel⟩
abbrev lamQ : Str := "_law_right" ++ ".<locals>." ++ "<lambda>"
theorem txt_sz (r : Row) : r.txt.length ≤ sizeLine := Nat.le_trans (txt_len r) (by decide)
theorem told_eqv (x : Str) : PyData.eqv (.list [.str "error", .str "InvalidNumber", .str x]) (.list [.str "error", .str "InvalidNumber", .str x]) = true := by
  simp [PyData.eqv, PyData.eqvAll]
theorem told_plain (x : Str) : PyData.plain (.list [.str "error", .str "InvalidNumber", .str x]) = true := by simp [PyData.plain, PyData.plainAll]
theorem told_depth (x : Str) (d : PyData) : min (PyData.depth (.list [.str "error", .str "InvalidNumber", .str x])) d.depth ≤ 60 := Nat.le_trans (Nat.min_le_left _ _) (by simp [PyData.depth, PyData.depthAll])
theorem log2_lt {i : Int} (h0 : -1 ≤ i) (h1 : i ≤ 8) : i.natAbs.log2 < 1920 := Nat.lt_of_le_of_lt (Nat.log2_le_self _) (by omega)
/-- what _law_right calls -/
structure RightT (P : Program) (w : World) (K : PySem.W.Frag) (mg : Str → Option Value) (base : Heap) : Prop where
  T : Tx mg K w
  C : ∃ C, ToldT P w K mg base C
  tame : FnD P w K mg base "_law_tame_rows" 6 C_law_tame_rows
  made : FnD P w K mg base "_law_made" 8 C_law_made
  draw : FnD P w K mg base "_law_draw" 1 C_law_draw
  bounds : FnD P w K mg base "_law_bounds" 3 C_law_bounds
  lies : FnD P w K mg base "_law_lies_between" 5 C_law_lies_between
  whole : FnD P w K mg base "_law_is_whole" 1 C_law_is_whole
  odd : FnD P w K mg base "_law_odd" 3 C_law_odd
section
variable {P : Program} {w : World} {K : PySem.W.Frag} {mg : Str → Option Value} {base : Heap}
/-- the spring behind _law_right -/
def rightS (s : Spr) : Spr := nxt (drawF (tameF 6 s).2 9).2 37
theorem right_body (RT : RightT P w K mg base) {f cc Pt : Addr} (TB : TabB base mg cc Pt) {A : Around} {outer : List Env} {s : Shared} {H : Hp} {E : XK} {c : Ct} (hgu : A.guards = some []) (hr : Room 8 (bx P w K mg base rightN "_law_right" s_law_right f (.ref cc) A outer s H E).A) (sp : Spr) :
    dXs (bx P w K mg base rightN "_law_right" s_law_right f (.ref cc) A outer s H E) c (defBody s_law_right) (startSl rightN [.own 0]) [.lst (spL sp), tabM Pt lamQ] (.rt (.dat (.bool true)) [.lst (spL (rightS sp)), tabM Pt lamQ]) := by
  obtain ⟨T, ⟨C, TT⟩, Ft, Fm, Fd, Fb, Fl, Fw, Fo⟩ := RT
  have hN := sc_law_right.nd
  have hu := hr.units
  have hgX : (bx P w K mg base rightN "_law_right" s_law_right f (.ref cc) A outer s H E).A.guards = some [] := hgu
  refine dxs_cons (ρ1 := [.own 0, .no, .no, .no, .no, .no, .no, .no, .no, .no]) (μ1 := [.lst (spL (rightS sp)), tabM Pt lamQ]) (dx_for rfl PassesOwn.never (di_rng1 T.range dv_int ⟨by decide, by decide⟩)
    (fun m ρ μ => ρ = [.own 0, .no, .no, .no, .no, .no, .no, .no, .no, .no] ∧ μ = [.lst (spL (if m = 0 then sp else rightS sp)), tabM Pt lamQ]) ⟨rfl, rfl⟩ (fun _ _ _ _ => trivial)
    (fun m d0 ρ1 μ' hd h => ?_) (fun ρ1 μ' h => by obtain ⟨rfl, rfl⟩ := h; exact ⟨_, Fg.refl _, rfl⟩)) (dxs_one (dx_retIs dv_bl rfl))
  obtain ⟨rfl, rfl⟩ := h
  obtain ⟨hm, rfl⟩ := rng_at.mp hd
  obtain rfl : m = 0 := by have : m < 1 := hm; omega
  obtain ⟨l, Sr⟩ := tame_srch 6 sp
  have hdr := draw_rng (tameF 6 sp).2 (n := 9) (by decide)
  show ∃ ρ2 o2, _
  refine ⟨[.own 0, .dat (.int (0 + ((0 : Nat) : Int))), .no, .no, .no, .no, .no, .no, .no, .no], .nx [.own 0, .dat (.int (0 + ((0 : Nat) : Int))), .dat (.list (texts (tameF 6 sp).1)), .prg (.tuple (texts (tameF 6 sp).1)) (.tuple (steps (tameF 6 sp).1)), .dat (.int (2 + (drawF (tameF 6 sp).2 9).1)), .no, .no, .no, .no, .no] [.lst (spL (rightS sp)), tabM Pt lamQ], dg_name (i := 1) hN, ?_, [.own 0, .no, .no, .no, .no, .no, .no, .no, .no, .no], ⟨.inr rfl, .inl rfl, .inl rfl, .inl rfl, .inl rfl, .inr rfl, .inr rfl, .inr rfl, .inr rfl, .inr rfl, trivial⟩, rfl, rfl⟩
  refine dxs_cons (ρ1 := [.own 0, .dat (.int (0 + ((0 : Nat) : Int))), .dat (.list (texts (tameF 6 sp).1)), .no, .no, .no, .no, .no, .no, .no]) (μ1 := [.lst (spL (tameF 6 sp).2), tabM Pt lamQ]) (dx_set (i := 2) (dv_call (μc := [.lst (spL sp)]) (μc' := [.lst (spL (tameF 6 sp).2)]) (ν := [tabM Pt lamQ]) Ft (hr.mono (by decide)) (da_cons (dv_name 0 rfl (by nofun)) da_nil) ⟨sp, rfl, rfl, rfl, rfl⟩ rfl (calms_of rfl) (calm_of rfl)) hN) ?_
  have eR : rightS sp = nxt (drawF (tameF 6 sp).2 9).2 37 := rfl
  rw [eR]
  generalize (tameF 6 sp).1 = p at *
  generalize (tameF 6 sp).2 = s1 at *
  have h8 := Sr.ok.2.1
  have hlen := texts_len p
  refine dxs_cons (ρ1 := [.own 0, .dat (.int (0 + ((0 : Nat) : Int))), .dat (.list (texts p)), .prg (.tuple (texts p)) (.tuple (steps p)), .dat (.int (2 + (drawF s1 9).1)), .no, .no, .no, .no, .no]) (μ1 := [.lst (spL (drawF s1 9).2), tabM Pt lamQ]) (dx_asg2 rfl (da_cons (dv_fn Fm (hr.mono (by decide)) (da_cons (dv_name 2 rfl (by nofun)) da_nil) ⟨p, Sr.ok, rfl, rfl, rfl, rfl⟩) (da_cons (dv_add dv_int (dv_call (μc := [.lst (spL s1)]) (μc' := [.lst (spL (drawF s1 9).2)]) (ν := [tabM Pt lamQ]) Fd (hr.mono (by decide)) (da_cons (dv_name 0 rfl (by nofun)) (da_cons dv_int da_nil)) ⟨s1, 9, rfl, rfl, rfl, rfl, by decide, by decide⟩ rfl (calms_of rfl) (calm_of rfl))) da_nil)) (dgs_cons (dg_name (i := 3) hN) (dgs_cons (dg_name (i := 4) hN) dgs_nil))) ?_
  have hn1 : 2 ≤ 2 + (drawF s1 9).1 := by omega
  have hn2 : 2 + (drawF s1 9).1 ≤ 20 := by omega
  generalize 2 + (drawF s1 9).1 = n at *
  generalize (drawF s1 9).2 = s2 at *
  refine dxs_cons (ρ1 := [.own 0, .dat (.int (0 + ((0 : Nat) : Int))), .dat (.list (texts p)), .prg (.tuple (texts p)) (.tuple (steps p)), .dat (.int n), .no, .no, .no, .no, .no]) (μ1 := [.lst (spL s2), tabM Pt lamQ]) (dx_for rfl PassesOwn.never (di_rng1 T.range (dv_lenL T.len (dv_name 2 rfl (by nofun))) ⟨by rw [hlen]; omega, by rw [hlen]; omega⟩)
    (fun m ρ μ => ρ = [.own 0, .dat (.int (0 + ((0 : Nat) : Int))), .dat (.list (texts p)), .prg (.tuple (texts p)) (.tuple (steps p)), .dat (.int n), .no, .no, .no, .no, .no] ∧ μ = [.lst (spL s2), tabM Pt lamQ]) ⟨rfl, rfl⟩ (fun _ _ _ _ => trivial)
    (fun m d0 ρ1 μ' hd h => ?_) (fun ρ1 μ' h => by obtain ⟨rfl, rfl⟩ := h; exact ⟨_, Fg.refl _, rfl⟩)) ?_
  · obtain ⟨rfl, rfl⟩ := h
    obtain ⟨hm, rfl⟩ := rng_at.mp hd
    have h0 : 0 ≤ 0 + (m : Int) := by omega
    have h1 : 0 + (m : Int) < p.length := by have : m < ((texts p).length : Int).toNat := hm; omega
    generalize 0 + (m : Int) = i at *
    have hat := texts_atI h0 h1
    refine ⟨[.own 0, .dat (.int (0 + ((0 : Nat) : Int))), .dat (.list (texts p)), .prg (.tuple (texts p)) (.tuple (steps p)), .dat (.int n), .dat (.int i), .no, .no, .no, .no], .nx [.own 0, .dat (.int (0 + ((0 : Nat) : Int))), .dat (.list (texts p)), .prg (.tuple (texts p)) (.tuple (steps p)), .dat (.int n), .dat (.int i), .no, .no, .no, .no] [.lst (spL s2), tabM Pt lamQ], dg_name (i := 5) hN, ?_, [.own 0, .dat (.int (0 + ((0 : Nat) : Int))), .dat (.list (texts p)), .prg (.tuple (texts p)) (.tuple (steps p)), .dat (.int n), .no, .no, .no, .no, .no], ⟨.inr rfl, .inr rfl, .inr rfl, .inr rfl, .inr rfl, .inl rfl, .inr rfl, .inr rfl, .inr rfl, .inr rfl, trivial⟩, rfl, rfl⟩
    cases hC : (rowAt p i).isC with
    | true =>
      obtain ⟨q, f8, hrow⟩ : ∃ q f8, rowAt p i = .ifc q f8 := by
        cases hr2 : rowAt p i with
        | ifc q d => exact ⟨q, d, rfl⟩
        | _ => rw [hr2] at hC; exact absurd (show false = true from hC) (by decide)
      have hred := told_redu (q := q) (i := i) (l := l) fun s hs => ⟨(Sr.gd s hs).2, (Sr.gd s hs).1.iv⟩
      have orok := odds_rok hred
      refine dxs_one (dx_if (dt_is (k1 := true) (dt_cmp (dv_slS (dv_ixL (dv_name 2 rfl (by nofun)) (dv_name 5 rfl (by nofun)) hat) do_none (do_some dv_int) (txt_sz _)) dv_str (c_eqS _ _)) (by rw [cut4]; exact hC)) (fun _ => ?_) (fun z => absurd z (by decide)))
      refine dxs_cons (ρ1 := [.own 0, .dat (.int (0 + ((0 : Nat) : Int))), .dat (.list (texts p)), .prg (.tuple (texts p)) (.tuple (steps p)), .dat (.int n), .dat (.int i), .dat (oddsOf (toldQ q i l)), .no, .no, .no]) (μ1 := [.lst (spL s2), tabM Pt lamQ]) (dx_set (i := 6) (dv_fn Fb (hr.mono (by decide)) (da_cons (dv_name 2 rfl (by nofun)) (da_cons (dv_name 5 rfl (by nofun)) da_nil)) ⟨p, l, i, q, f8, Sr, h0, h1, hrow, rfl, rfl, rfl, rfl⟩) hN) ?_
      refine dxs_guard (μ1 := [.lst (spL s2), tabM Pt lamQ]) (dt_is (k1 := false) (dt_cmp (dv_repr hgX hu T.repr (dv_lst (dd_cons (dv_odds TT (hr.mono (by decide)) Sr h0 h1 hrow (dv_name 3 rfl (by nofun)) (dv_name 5 rfl (by nofun))) (dd_cons (dv_oddsK TT (hr.mono (by decide)) Sr h0 h1 hrow (dv_name 5 rfl (by nofun)) (dv_name 3 rfl (by nofun))) dd_nil))) orok) (dv_repr hgX hu T.repr (dv_lst (dd_cons (dv_name 6 rfl (by nofun)) (dd_cons (dv_name 6 rfl (by nofun)) dd_nil))) orok) (c_neS _ _)) (by simp)) (fun z => absurd z (by decide)) (fun _ => ?_)
      refine dxs_fg (ρ1 := [.own 0, .dat (.int (0 + ((0 : Nat) : Int))), .dat (.list (texts p)), .prg (.tuple (texts p)) (.tuple (steps p)), .dat (.int n), .dat (.int i), .dat (oddsOf (toldQ q i l)), .no, .no, .no]) ?_ ⟨.inr rfl, .inr rfl, .inr rfl, .inr rfl, .inr rfl, .inr rfl, .inl rfl, .inr rfl, .inr rfl, .inr rfl, trivial⟩
      cases ht : toldQ q i l with
      | nil =>
        exact dxs_one (dx_if (dt_is (k1 := false) (dt_w (dw_and (k1 := false) (k2 := false) (dt_cmp (dv_name 6 rfl (by nofun)) dv_non (c_notN _)) (fun z => absurd z (by decide)))) rfl) (fun z => absurd z (by decide)) (fun _ => dxs_nil))
      | cons f0 rest =>
        exact dxs_one (dx_if (dt_is (k1 := false) (dt_w (dw_and (k1 := true) (dt_cmp (dv_name 6 rfl (by nofun)) dv_non (c_notN _)) (fun _ => dw_and1 (dt_not (dt_val (dv_fn Fl (hr.mono (by decide)) (da_cons (dv_name 2 rfl (by nofun)) (da_cons (dv_name 5 rfl (by nofun)) (da_cons (dv_name 4 rfl (by nofun)) (da_cons (dv_name 6 rfl (by nofun)) da_nil)))) ⟨p, l, i, n, q, f8, f0, rest, Sr, hn1, hn2, h0, h1, hrow, ht, rfl, rfl, rfl, rfl⟩)))))) rfl) (fun z => absurd z (by decide)) (fun _ => dxs_nil))
    | false =>
      refine dxs_one (dx_if (dt_is (k1 := false) (dt_cmp (dv_slS (dv_ixL (dv_name 2 rfl (by nofun)) (dv_name 5 rfl (by nofun)) hat) do_none (do_some dv_int) (txt_sz _)) dv_str (c_eqS _ _)) (by rw [cut4]; exact hC)) (fun z => absurd z (by decide)) (fun _ => ?_))
      have htl : dV (bx P w K mg base rightN "_law_right" s_law_right f (.ref cc) A outer s H E) c (match defBody s_law_right with | .For _ _ (_ :: _ :: .For _ _ (.If _ _ (.If (.Compare e _ _ _) _ _ _ :: _) _ :: _) _ _ :: _) _ _ :: _ => e | _ => .Constant .none 0 ⟨0, 0, 0, 0⟩) [.own 0, .dat (.int (0 + ((0 : Nat) : Int))), .dat (.list (texts p)), .prg (.tuple (texts p)) (.tuple (steps p)), .dat (.int n), .dat (.int i), .no, .no, .no, .no] [.lst (spL s2), tabM Pt lamQ] (.dat (.list [.str "error", .str "InvalidNumber", .str (PyData.int i).shown])) [.lst (spL s2), tabM Pt lamQ] :=
        dv_told (j := 1) (i1 := 3) (i2 := 5) (x := "_law_at") TT hgX (hr.mono (by decide)) TB rfl rfl rfl rfl rfl rfl Sr (fun j e j0 j1 => by obtain rfl := PyData.int.inj e; exact hC) (int_rok (by omega) (by omega)) (lamS_by (sc := defScope s_law_right) (by decide +kernel)) (.inr (.inr rfl)) (.inr (.inr rfl)) rfl rfl (by decide) (by decide) (fun _ _ _ _ _ _ => rfl)
      exact dxs_one (dx_if (dt_is (k1 := false) (dt_cmp htl (dv_lst (dd_cons dv_str (dd_cons dv_str (dd_cons (dv_strI T.str (dv_name 5 rfl (by nofun)) (log2_lt (by omega) (by omega))) dd_nil)))) (by exact c_neD hu _ _ (told_plain _) (told_plain _) (told_depth _ _))) (by rw [show (PyData.int i).shown = ((toString i : String) : Str) from by simp only [PyData.shown], told_eqv]; rfl)) (fun z => absurd z (by decide)) (fun _ => dxs_nil))
  · have hrok : ∀ (j : Nat) (d : PyData), ([.int (-1), .int ((texts p).length : Int), .bool true, .none, pick s2 oddL .none] : List PyData)[j]? = some d → ROk d := fun j d h => by
      match j, h with
      | 0, h => cases h; exact int_rok (by decide) (by decide)
      | 1, h => cases h; exact int_rok (by omega) (by omega)
      | 2, h => cases h; exact rok_of (by decide +kernel)
      | 3, h => cases h; exact rok_of (by decide +kernel)
      | 4, h => cases h; exact odd_rok _ (pick_in _ (by simp [oddL]))
      | n + 5, h => exact absurd h (by simp)
    refine dxs_one (dx_for rfl PassesOwn.never (di_lst (ds := [.int (-1), .int ((texts p).length : Int), .bool true, .none, pick s2 oddL .none]) (dv_lst (dd_cons (dv_neg dv_int) (dd_cons (dv_lenL T.len (dv_name 2 rfl (by nofun))) (dd_cons dv_bl (dd_cons dv_non (dd_cons (dv_call (μc := [.lst (spL s2)]) (μc' := [.lst (spL (nxt s2 37))]) (ν := [tabM Pt lamQ]) Fo (hr.mono (by decide)) (da_cons (dv_name 0 rfl (by nofun)) da_nil) ⟨s2, rfl, rfl, rfl, rfl⟩ rfl (calms_of rfl) (calm_of rfl)) dd_nil)))))))
      (fun m ρ μ => ρ = [.own 0, .dat (.int (0 + ((0 : Nat) : Int))), .dat (.list (texts p)), .prg (.tuple (texts p)) (.tuple (steps p)), .dat (.int n), .no, .no, .no, .no, .no] ∧ μ = [.lst (spL (nxt s2 37)), tabM Pt lamQ]) ⟨rfl, rfl⟩ (fun _ _ _ _ => trivial)
      (fun m d ρ1 μ' hd h => ?_) (fun ρ1 μ' h => by obtain ⟨rfl, rfl⟩ := h; exact ⟨_, Fg.refl _, rfl⟩))
    obtain ⟨rfl, rfl⟩ := h
    have ok := hrok m d hd
    clear hd
    generalize nxt s2 37 = s3 at *
    refine ⟨[.own 0, .dat (.int (0 + ((0 : Nat) : Int))), .dat (.list (texts p)), .prg (.tuple (texts p)) (.tuple (steps p)), .dat (.int n), .no, .no, .dat d, .no, .no], .nx [.own 0, .dat (.int (0 + ((0 : Nat) : Int))), .dat (.list (texts p)), .prg (.tuple (texts p)) (.tuple (steps p)), .dat (.int n), .no, .no, .dat d, .no, .no] [.lst (spL s3), tabM Pt lamQ], dg_name (i := 7) hN, ?_, [.own 0, .dat (.int (0 + ((0 : Nat) : Int))), .dat (.list (texts p)), .prg (.tuple (texts p)) (.tuple (steps p)), .dat (.int n), .no, .no, .no, .no, .no], ⟨.inr rfl, .inr rfl, .inr rfl, .inr rfl, .inr rfl, .inr rfl, .inr rfl, .inl rfl, .inr rfl, .inr rfl, trivial⟩, rfl, rfl⟩
    have fin : ∀ k : Bool, (k = false → notTest p d) → dXs (bx P w K mg base rightN "_law_right" s_law_right f (.ref cc) A outer s H E) c (match defBody s_law_right with | .For _ _ (_ :: _ :: _ :: .For _ _ (_ :: b) _ _ :: _) _ _ :: _ => b | _ => []) [.own 0, .dat (.int (0 + ((0 : Nat) : Int))), .dat (.list (texts p)), .prg (.tuple (texts p)) (.tuple (steps p)), .dat (.int n), .no, .no, .dat d, .dat (.bool k), .no] [.lst (spL s3), tabM Pt lamQ] (.nx [.own 0, .dat (.int (0 + ((0 : Nat) : Int))), .dat (.list (texts p)), .prg (.tuple (texts p)) (.tuple (steps p)), .dat (.int n), .no, .no, .dat d, .no, .no] [.lst (spL s3), tabM Pt lamQ]) := fun k hk => by
      refine dxs_cons (ρ1 := [.own 0, .dat (.int (0 + ((0 : Nat) : Int))), .dat (.list (texts p)), .prg (.tuple (texts p)) (.tuple (steps p)), .dat (.int n), .no, .no, .dat d, .dat (.bool k), .dat (.list [.str "error", .str "InvalidNumber", .str d.shown])]) (μ1 := [.lst (spL s3), tabM Pt lamQ]) (dx_set (i := 9) (dv_lst (dd_cons dv_str (dd_cons dv_str (dd_cons (dv_repr hgX hu T.repr (dv_name 7 rfl (by nofun)) ok) dd_nil)))) hN) ?_
      refine dxs_fg (ρ1 := [.own 0, .dat (.int (0 + ((0 : Nat) : Int))), .dat (.list (texts p)), .prg (.tuple (texts p)) (.tuple (steps p)), .dat (.int n), .no, .no, .dat d, .dat (.bool k), .dat (.list [.str "error", .str "InvalidNumber", .str d.shown])]) ?_ ⟨.inr rfl, .inr rfl, .inr rfl, .inr rfl, .inr rfl, .inr rfl, .inr rfl, .inr rfl, .inl rfl, .inl rfl, trivial⟩
      cases k with
      | true => exact dxs_one (dx_if (dt_is (k1 := false) (dt_w (dw_and (k1 := false) (k2 := false) (dt_not (k := true) (dt_val (dv_name 8 rfl (by nofun)))) (fun z => absurd z (by decide)))) rfl) (fun z => absurd z (by decide)) (fun _ => dxs_nil))
      | false =>
        have htl : dV (bx P w K mg base rightN "_law_right" s_law_right f (.ref cc) A outer s H E) c (match defBody s_law_right with | .For _ _ (_ :: _ :: _ :: .For _ _ (_ :: _ :: .If (.BoolOp _ (_ :: .Compare e _ _ _ :: _) _) _ _ _ :: _) _ _ :: _) _ _ :: _ => e | _ => .Constant .none 0 ⟨0, 0, 0, 0⟩) [.own 0, .dat (.int (0 + ((0 : Nat) : Int))), .dat (.list (texts p)), .prg (.tuple (texts p)) (.tuple (steps p)), .dat (.int n), .no, .no, .dat d, .dat (.bool false), .dat (.list [.str "error", .str "InvalidNumber", .str d.shown])] [.lst (spL s3), tabM Pt lamQ] (.dat (.list [.str "error", .str "InvalidNumber", .str d.shown])) [.lst (spL s3), tabM Pt lamQ] :=
          dv_told (j := 1) (i1 := 3) (i2 := 7) (x := "_law_odd_here") TT hgX (hr.mono (by decide)) TB rfl rfl rfl rfl rfl rfl Sr (hk rfl) ok (lamS_by (sc := defScope s_law_right) (by decide +kernel)) (.inr (.inr rfl)) (.inr (.inr rfl)) rfl rfl (by decide) (by decide) (fun _ _ _ _ _ _ => rfl)
        exact dxs_one (dx_if (dt_is (k1 := false) (dt_w (dw_and (k1 := true) (dt_not (k := false) (dt_val (dv_name 8 rfl (by nofun)))) (fun _ => dw_and1 (dt_cmp htl (dv_name 9 rfl (by nofun)) (by exact c_neD hu _ _ (told_plain _) (told_plain _) (told_depth _ _)))))) (by rw [told_eqv]; rfl)) (fun z => absurd z (by decide)) (fun _ => dxs_nil))
    have hwh : dV (bx P w K mg base rightN "_law_right" s_law_right f (.ref cc) A outer s H E) c (match defBody s_law_right with | .For _ _ (_ :: _ :: _ :: .For _ _ (.Assign _ (.BoolOp _ (e :: _) _) _ :: _) _ _ :: _) _ _ :: _ => e | _ => .Constant .none 0 ⟨0, 0, 0, 0⟩) [.own 0, .dat (.int (0 + ((0 : Nat) : Int))), .dat (.list (texts p)), .prg (.tuple (texts p)) (.tuple (steps p)), .dat (.int n), .no, .no, .dat d, .no, .no] [.lst (spL s3), tabM Pt lamQ] (.dat (.bool (betw d 0 ((p.length : Int) - 1)))) [.lst (spL s3), tabM Pt lamQ] :=
      dv_fn Fw (hr.mono (by decide)) (da_cons (dv_name 7 rfl (by nofun)) (da_cons dv_int (da_cons (dv_sub (dv_lenL T.len (dv_name 2 rfl (by nofun))) dv_int) da_nil))) ⟨d, 0, (p.length : Int) - 1, by rw [hlen], rfl, rfl, rfl⟩
    cases hb : betw d 0 ((p.length : Int) - 1) with
    | false =>
      rw [hb] at hwh
      refine dxs_cons (ρ1 := [.own 0, .dat (.int (0 + ((0 : Nat) : Int))), .dat (.list (texts p)), .prg (.tuple (texts p)) (.tuple (steps p)), .dat (.int n), .no, .no, .dat d, .dat (.bool false), .no]) (μ1 := [.lst (spL s3), tabM Pt lamQ]) (dx_set (i := 8) (dv_is (dv_and (k1 := false) (k2 := false) hwh (fun z => absurd z (by decide))) rfl) hN) (fin false fun _ j e j0 j1 => ?_)
      subst e
      have hb : (decide (0 ≤ j) && decide (j ≤ (p.length : Int) - 1)) = false := hb
      rw [Bool.and_eq_false_iff, decide_eq_false_iff_not, decide_eq_false_iff_not] at hb
      omega
    | true =>
      rw [hb] at hwh
      obtain ⟨i, rfl, h0, h1⟩ : ∃ i : Int, d = .int i ∧ 0 ≤ i ∧ i < p.length := by
        cases d with
        | int i =>
          have hb : (decide (0 ≤ i) && decide (i ≤ (p.length : Int) - 1)) = true := hb
          rw [Bool.and_eq_true, decide_eq_true_eq, decide_eq_true_eq] at hb
          exact ⟨i, rfl, hb.1, by omega⟩
        | _ => exact absurd (show false = true from hb) (by decide)
      have hat := texts_atI h0 h1
      refine dxs_cons (ρ1 := [.own 0, .dat (.int (0 + ((0 : Nat) : Int))), .dat (.list (texts p)), .prg (.tuple (texts p)) (.tuple (steps p)), .dat (.int n), .no, .no, .dat (.int i), .dat (.bool (rowAt p i).isC), .no]) (μ1 := [.lst (spL s3), tabM Pt lamQ]) (dx_set (i := 8) (dv_is (dv_and (k1 := true) hwh (fun _ => dv_one (dv_cmp (dv_slS (dv_ixL (dv_name 2 rfl (by nofun)) (dv_name 7 rfl (by nofun)) hat) do_none (do_some dv_int) (txt_sz _)) dv_str (c_eqS _ _)))) (by rw [cut4]; rfl)) hN) (fin _ fun hk j e j0 j1 => ?_)
      obtain rfl := PyData.int.inj e
      exact hk
end
end Dr
set_option maxHeartbeats 2000000
/-! F25: law. -/
namespace Dr
open PySem PySem.Spec PyProof.Rows L2 LamX
/-! ### the two fixed programs -/
def pr1 : List Row := [.ifv .n1 3, .ifc .n1 5, .lessB .n1, .take, .go 0, .giveC]
def pr2 : List Row := [.ifv .n2 4, .ifc .n3 6, .again, .again, .take, .go 0, .ifc .n2 3, .giveC]
theorem okb (p : List Row) (h : (decide (1 ≤ p.length) && (decide (p.length ≤ 8) && (List.range p.length).all fun i => (p.getD i .again).okAt p.length i)) = true) : okProg p := by
  simp only [Bool.and_eq_true, decide_eq_true_eq, List.all_eq_true, List.mem_range] at h
  refine ⟨h.1, h.2.1, fun i r hr => ?_⟩
  have hi := (List.getElem?_eq_some_iff.mp hr).1
  have := h.2.2 i hi
  rw [List.getD_eq_getElem?_getD, hr] at this
  exact this
theorem ok_pr1 : okProg pr1 := okb _ (by decide +kernel)
theorem ok_pr2 : okProg pr2 := okb _ (by decide +kernel)
def l1 : List Stt := (bfs pr1 200000 first4 0).getD []
def l2 : List Stt := (bfs pr2 200000 first4 0).getD []
theorem some1 : (bfs pr1 200000 first4 0).isSome = true := by decide +kernel
theorem some2 : (bfs pr2 200000 first4 0).isSome = true := by decide +kernel
theorem getD_some {α : Type} {o : Option α} {d : α} (h : o.isSome = true) : o = some (o.getD d) := by cases o with | none => cases h | some a => rfl
theorem srch1 : Srch pr1 l1 := srch_of ok_pr1 (getD_some some1)
theorem srch2 : Srch pr2 l2 := srch_of ok_pr2 (getD_some some2)
def isOdds (told : List (Int × Int)) (a b : Int × Int) : Bool := match told with
  | [] => false
  | f :: r => decide (minF (f :: r) f = a) && decide (maxF (f :: r) f = b)
theorem odds_is {told : List (Int × Int)} {a b : Int × Int} (h : isOdds told a b = true) : oddsOf told = .tuple [encF a, encF b] := by
  cases told with
  | nil => cases h
  | cons f r =>
    have h : (decide (minF (f :: r) f = a) && decide (maxF (f :: r) f = b)) = true := h
    rw [Bool.and_eq_true, decide_eq_true_eq, decide_eq_true_eq] at h
    show PyData.tuple [encF (minF (f :: r) f), encF (maxF (f :: r) f)] = _
    rw [h.1, h.2]
theorem od1 : oddsOf (toldQ .n1 1 l1) = .tuple [encF (1, 2), encF (1, 1)] := odds_is (by decide +kernel)
theorem od2 : oddsOf (toldQ .n3 1 l2) = .tuple [encF (3, 4), encF (1, 1)] := odds_is (by decide +kernel)
theorem od3 : oddsOf (toldQ .n2 6 l2) = .tuple [encF (2, 3), encF (1, 1)] := odds_is (by decide +kernel)
theorem tx1 : Txt.join "\n" (pr1.map Row.txt) = "if v < n go 3\nif c < n go 5\nless n\ntake\ngo 0\ngive c" := by decide +kernel
theorem tx2 : Txt.join "\n" (pr2.map Row.txt) = "if v < 2n go 4\nif c < 3n go 6\nagain\nagain\ntake\ngo 0\nif c < 2n go 3\ngive c" := by decide +kernel
/-! ### the call of _law_right -/
section
variable {P : Program} {w : World} {K : PySem.W.Frag}
theorem MoOk.flip {S H S' H' : Hp} {x y : Addr} {u v : Mo} (B : MoOk P w K ⟨H, S, [y, x]⟩ [v, u] [y, x] S' H') : MoOk P w K ⟨H, S, [x, y]⟩ [u, v] [x, y] S' H' := by
  have hm : ∀ b : Addr, b ∈ [x, y] ↔ b ∈ [y, x] := fun b => by simp [or_comm]
  refine ⟨B.ex0, B.sub, B.new, fun b o hb => B.old b o (fun z => hb ((hm b).mpr z)), List.prefix_refl _, ?_, fun a ha => .inl ha, fun a ha => B.out a ((hm a).mp ha), rfl, fun k a o h1 h2 => ?_⟩
  · have := B.nd
    simp only [List.nodup_cons, List.mem_singleton, List.not_mem_nil, not_false_eq_true, List.nodup_nil, and_true] at this ⊢
    exact fun z => this z.symm
  · match k, h1, h2 with
    | 0, h1, h2 => exact B.obj 1 a o h1 h2
    | 1, h1, h2 => exact B.obj 0 a o h1 h2
    | n + 2, h1, _ => exact absurd h1 (by simp)
end
/-- what law calls -/
structure LawT (P : Program) (w : World) (K : PySem.W.Frag) (mg : Str → Option Value) (base : Heap) (Pt : Addr) : Prop where
  R : RightT P w K mg base
  right : ∃ (f : Addr) (oc : Value) (od : Option Addr) (kV doc pm : Value) (an : Option Addr) (cc : Addr) (ct : Value) (osl : Array (Option Value)), K.lookup f = some ⟨oc, od, .func (PySem.W.fnOf "_law_right" "_law_right" (defArgs s_law_right) (defBody s_law_right) (defScope s_law_right) .none kV doc pm an (.ref cc) ct), osl⟩ ∧
    PySem.W.codeIn K (.ref cc) "_law_right" = true ∧ mg "_law_right" = some (.ref f) ∧ PySem.W.keepIn K (.ref f) = true ∧ TabB base mg cc Pt
  read : ∃ (mc : Value) (pm g : Addr), ClX.CRead K (prgC K) mc ∧ ClX.CMet K (prgC K) mc "read" pm g ∧ FnR P w K mg base CX0 7 g (spD P w K (C_read K))
  spring : FnD P w K mg base "_law_spring" 1 C_law_spring
section
variable {X : Cx} {c : Ct} {ρ : List Sl} {μ : List Mo} {e : Expr} {p pos : Pos} {Pt : Addr} {sp : Spr}
theorem dv_right (L : LawT X.prog X.w X.K X.mg X.base Pt) (hgu : X.A.guards = some []) (hr : Room 9 X.A) (he : dV X c e ρ μ (.own 1) [tabM Pt lamQ, .lst (spL sp)]) (hg : Gl X "_law_right" := by rfl) (hs : starEach [e] X.env = (false, eval e X.env) :: starEach [] X.env := by exact star_cons rfl) (hpl : (backTo pos (starEach [] X.env)).any (·.1) = false := by rfl) :
    dV X c (.Call (.Name "_law_right" p) [e] [] pos) ρ μ (.dat (.bool true)) [tabM Pt lamQ, .lst (spL (rightS sp))] := .mk fun m S H σ W R Q kk pins s I => by
  obtain ⟨f, oc, od, kV, doc, pm, an, cc, ct, osl, lk, hcd, hm, hk, TB⟩ := L.right
  refine wpAny_Call_Name_kw (ld_glob I hg hm ?_ (by decide))
  refine PySem.W.callWith_K (h₀ := X.base) I.ok.mod.kin hk ?_ hs hpl
  refine thn ((pa_w (X := X) (es := [e])).run pos pins s σ H (fun vs H1 => ∃ m1 S1 a, vs = [.ref a] ∧ m1[1]? = some a ∧ Wd X c [tabM Pt lamQ, .lst (spL sp)] m1 S1 H1 ∧ Ex S S1 ∧ m <+: m1) I ((da1 he hs).run m S H σ W R _ fun m1 S1 vs H1 W1 e1 p1 q1 => ?_)) fun us s1 ⟨vs, H1, I1, rv, m1, S1, a, ev, ha, W1, e1, p1⟩ => ⟨I1.kIn, ?_⟩
  · obtain ⟨v, rfl, a, ha, rfl⟩ := slVs1 q1
    exact ⟨m1, S1, a, rfl, ha, W1, e1, p1⟩
  · subst ev
    obtain ⟨u, rfl, ru⟩ := L2.Vals.one rv
    obtain rfl : u = Value.ref a := ru
    have hl := W1.len
    obtain ⟨q, rfl⟩ : ∃ q, m1 = [q, a] := by
      match m1, hl, ha with
      | [q, a'], _, ha => exact ⟨q, by rw [show a' = a from Option.some.inj ha]⟩
    obtain ⟨o1, _, hq, _⟩ := W1.obj 0 q _ rfl rfl
    subst hq
    have Wf : MoOk X.prog X.w X.K ⟨H1, S1, [a, q]⟩ [.lst (spL sp), tabM q lamQ] [a, q] S1 H1 := MoOk.flip W1.self
    have b : BindsTo s1 (PySem.W.fnOf "_law_right" "_law_right" (defArgs s_law_right) (defBody s_law_right) (defScope s_law_right) .none kV doc pm an (.ref cc) ct) ⟨[.ref a], []⟩ ((["_law_spring_here"] : List Str).zip [Value.ref a]) := .of_eq rfl
    show wpAny _ _ (call (.ref f) [.ref a]) _ _ _
    have rc : codeAny (model X.prog X.w) X.A (.call (.ref f) ⟨[.ref a], []⟩) (CR CX0 X.stack X.prog X.w H1 s1 Q (fun _ _ _ => False)) s1 := by
      refine run_ofS (N := rightN) (ps := ["_law_spring_here"]) (us := [.ref a]) (vs := [.ref a]) lk hcd sc_law_right hr I1.env0 b (.cons rfl .nil) rfl fun hr8 => ?_
      refine ⟨_, (pss_w (X := bx X.prog X.w X.K X.mg X.base rightN "_law_right" s_law_right f (.ref cc) X.A X.stack s1 H1 (fun _ _ _ => False))).nox, ?_⟩
      refine (right_body (c := ⟨H1, S1, [a, q]⟩) L.R TB hgu hr8 sp).run [a, q] S1 H1 _ Wf (slOk_start (.cons ⟨a, rfl, rfl⟩ .nil)) _ fun m' S' v H' W' e' r' => ?_
      have hm' : m' = [a, q] := by
        obtain ⟨t, et⟩ := W'.pre
        have et : [a, q] ++ t = m' := et
        have h3 : ([a, q] ++ t).length = 2 := by rw [et]; exact W'.len.symm
        have this : t = [] := by
          cases t with
          | nil => rfl
          | cons x t => simp at h3
        rw [← et, this, List.append_nil]
      subst hm'
      exact kk _ S' v H' (W1.trans (MoOk.flip W')) (e1.trans W'.ex0) p1 r'
    refine wpAny_call (codeAny_mono rc fun r s2 hq => ?_)
    cases r with
    | error e => exact (show False from hq).elim
    | ok fl =>
      cases fl with
      | ret u => exact I1.after hq
      | next => exact False.elim hq
      | brk => exact False.elim hq
      | cont => exact False.elim hq
end
/-! ### law -/
abbrev lawN : List Str := ["_law_script", "_law_mine", "_law_twos", "_law_k"]
theorem sc_law : FnScope lawN ["_law_script"] (defScope s_law) := ⟨rfl, rfl, rfl, by decide +kernel, rfl, by decide +kernel, by decide +kernel⟩
section
variable {P : Program} {w : World} {K : PySem.W.Frag} {mg : Str → Option Value} {base : Heap} {Pt : Addr}
def max2 (ns : List Int) : Nat := Int.toNat (if (if (4 : Int) < ((intL ns).length : Int) then 4 else ((intL ns).length : Int)) > 2 then (if (4 : Int) < ((intL ns).length : Int) then 4 else ((intL ns).length : Int)) else 2)
theorem max2_le (ns : List Int) : max2 ns ≤ 4 := by unfold max2; split <;> split <;> omega
theorem max2_b (ns : List Int) : -1000000000 ≤ (if (if (4 : Int) < ((intL ns).length : Int) then 4 else ((intL ns).length : Int)) > 2 then (if (4 : Int) < ((intL ns).length : Int) then 4 else ((intL ns).length : Int)) else 2) ∧ (if (if (4 : Int) < ((intL ns).length : Int) then 4 else ((intL ns).length : Int)) > 2 then (if (4 : Int) < ((intL ns).length : Int) then 4 else ((intL ns).length : Int)) else 2) ≤ 1000000000 := by
  constructor <;> split <;> split <;> omega
theorem all_true {α : Type} (l : List α) : (l.map fun _ => true).all id = true := by rw [List.all_map]; exact List.all_eq_true.mpr fun _ _ => rfl
theorem di_is {X : Cx} {c : Ct} {tg iter : Expr} {ρ : List Sl} {μ μ1 : List Mo} {Pm : List Mo → Prop} {ds ds' : List PyData} (h : dI X c tg iter ρ μ Pm ds μ1) (e : ds = ds') : dI X c tg iter ρ μ Pm ds' μ1 := e ▸ h
theorem law_body (L : LawT P w K mg base Pt) {f : Addr} {cdv : Value} {A : Around} {outer : List Env} {s : Shared} {H : Hp} {E : XK} {c : Ct} (hgu : A.guards = some []) (hr : Room 10 (bx P w K mg base lawN "law" s_law f cdv A outer s H E).A) (ns : List Int) (hns : ns.length ≤ 63) :
    dXs (bx P w K mg base lawN "law" s_law f cdv A outer s H E) c (defBody s_law) (startSl lawN [.dat (.list (intL ns))]) [tabM Pt lamQ] (.rt (.dat (.bool true)) [tabM Pt lamQ]) := by
  have T := L.R.T
  obtain ⟨C, TT⟩ := L.R.C
  obtain ⟨mc, pm, g, cr, cm, FR⟩ := L.read
  have hN := sc_law.nd
  have hu := hr.units
  have hgX : (bx P w K mg base lawN "law" s_law f cdv A outer s H E).A.guards = some [] := hgu
  refine dxs_cons (ρ1 := [.dat (.list (intL ns)), .prg (.tuple (texts pr1)) (.tuple (steps pr1)), .no, .no]) (μ1 := [tabM Pt lamQ]) (dx_set (i := 1) (dv_read T cr cm FR (hr.mono (by decide)) (dv_is dv_str (by rw [tx1])) ok_pr1) hN) ?_
  refine dxs_cons (ρ1 := [.dat (.list (intL ns)), .prg (.tuple (texts pr1)) (.tuple (steps pr1)), .prg (.tuple (texts pr2)) (.tuple (steps pr2)), .no]) (μ1 := [tabM Pt lamQ]) (dx_set (i := 2) (dv_read T cr cm FR (hr.mono (by decide)) (dv_is dv_str (by rw [tx2])) ok_pr2) hN) ?_
  refine dxs_guard (μ1 := [tabM Pt lamQ]) (dt_is (k1 := false) (dt_cmp (dv_lst (ds := [.tuple [encF (1, 2), encF (1, 1)], .tuple [encF (3, 4), encF (1, 1)], .tuple [encF (2, 3), encF (1, 1)]]) (dd_cons (dv_is (dv_odds TT (hr.mono (by decide)) srch1 (i := 1) (q := .n1) (f8 := 5) (by decide) (by decide) rfl (dv_name 1 rfl (by nofun)) dv_int) (by rw [od1])) (dd_cons (dv_is (dv_odds TT (hr.mono (by decide)) srch2 (i := 1) (q := .n3) (f8 := 6) (by decide) (by decide) rfl (dv_name 2 rfl (by nofun)) dv_int) (by rw [od2])) (dd_cons (dv_is (dv_odds TT (hr.mono (by decide)) srch2 (i := 6) (q := .n2) (f8 := 3) (by decide) (by decide) rfl (dv_name 2 rfl (by nofun)) dv_int) (by rw [od3])) dd_nil))))
    (dv_lst (dd_cons (dv_tup (dd_cons (dv_tup (dd_cons dv_int (dd_cons dv_int dd_nil))) (dd_cons (dv_tup (dd_cons dv_int (dd_cons dv_int dd_nil))) dd_nil))) (dd_cons (dv_tup (dd_cons (dv_tup (dd_cons dv_int (dd_cons dv_int dd_nil))) (dd_cons (dv_tup (dd_cons dv_int (dd_cons dv_int dd_nil))) dd_nil))) (dd_cons (dv_tup (dd_cons (dv_tup (dd_cons dv_int (dd_cons dv_int dd_nil))) (dd_cons (dv_tup (dd_cons dv_int (dd_cons dv_int dd_nil))) dd_nil))) dd_nil)))) (by exact c_neD hu _ _ (by decide +kernel) (by decide +kernel) (by decide +kernel))) (by decide +kernel)) (fun z => absurd z (by decide)) (fun _ => ?_)
  refine dxs_one (dx_retIs (dv_all (bs := (rng 0 (max2 ns)).map fun _ => true) rfl T.all (dv_is (dv_lcM (f := fun _ => .bool true) (ds := rng 0 (max2 ns)) (i := 3) rfl hN (blk_of (by rfl)) (di_is (di_rng1 T.range (dv_max rfl T.max dv_int (dv_min rfl T.min (dv_lenL T.len (dv_name 0 rfl (by nofun))) dv_int)) (max2_b ns)) rfl) (by rw [rng_len]; have := max2_le ns; exact small_lt (by omega)) trivial (fun d hd c2 s0 H0 C cl fp => ?_) (fun _ _ _ _ _ => pg_name hN rfl (Or.inl rfl))) (by rw [List.map_map]; rfl))) (by rw [all_true]))
  obtain ⟨k, hk⟩ := List.mem_iff_getElem?.mp hd
  obtain ⟨_, rfl⟩ := rng_at.mp hk
  exact dv_drop (μ1 := [tabM Pt lamQ]) (ν := [.lst (spL (rightS (springF ns k)))]) (fun c3 => dv_right L hgX (hr.mono (by decide)) (dv_callN (μ1 := [tabM Pt lamQ]) (u := .lst (spL (springF ns k))) L.spring (hr.mono (by decide)) (da_cons (dv_name 0 rfl (by nofun)) (da_cons (dv_name 3 rfl (by nofun)) da_nil)) ⟨ns, k, by rw [Int.zero_add], rfl, rfl, rfl, hns⟩ (fun u hu => by simp at hu; rcases hu with rfl | rfl <;> trivial))) rfl
end
end Dr
set_option maxHeartbeats 2000000
/-! F26: all defs together. (printed by genF26.py) -/
namespace Dr
open PySem PySem.Spec PyProof.Rows L2 LamX
/-- a def of the module -/
def DefIs (K : PySem.W.Frag) (mg : Str → Option Value) (x : Str) (st : Stmt) : Prop := ∃ f fd, Fun K x x st f fd ∧ mg x = some (.ref f)
structure Funs (K : PySem.W.Frag) (mg : Str → Option Value) : Prop where
  dis_too_far : DefIs K mg "is_too_far" s_is_too_far
  dis_less : DefIs K mg "is_less" s_is_less
  d_law_is_at_most : DefIs K mg "_law_is_at_most" s_law_is_at_most
  dtaken : DefIs K mg "taken" s_taken
  dis_integer : DefIs K mg "is_integer" s_is_integer
  dis_between : DefIs K mg "is_between" s_is_between
  dplace_in : DefIs K mg "place_in" s_place_in
  dplain_step_in : DefIs K mg "plain_step_in" s_plain_step_in
  dstep_in : DefIs K mg "step_in" s_step_in
  dwrong_row : DefIs K mg "wrong_row" s_wrong_row
  dcheck_program : DefIs K mg "check_program" s_check_program
  dtested : DefIs K mg "tested" s_tested
  dmarked_steps : DefIs K mg "marked_steps" s_marked_steps
  dlowest_terms : DefIs K mg "lowest_terms" s_lowest_terms
  dchances_at : DefIs K mg "chances_at" s_chances_at
  d_law_size : DefIs K mg "_law_size" s_law_size
  d_law_is_far : DefIs K mg "_law_is_far" s_law_is_far
  d_law_is_wide_spot : DefIs K mg "_law_is_wide_spot" s_law_is_wide_spot
  d_law_goes : DefIs K mg "_law_goes" s_law_goes
  d_law_next : DefIs K mg "_law_next" s_law_next
  d_law_steps : DefIs K mg "_law_steps" s_law_steps
  d_law_lowest : DefIs K mg "_law_lowest" s_law_lowest
  d_law_shares : DefIs K mg "_law_shares" s_law_shares
  d_law_is_whole : DefIs K mg "_law_is_whole" s_law_is_whole
  dreached : DefIs K mg "reached" s_reached
  d_law_states : DefIs K mg "_law_states" s_law_states
  d_law_bounds : DefIs K mg "_law_bounds" s_law_bounds
  d_law_spots : DefIs K mg "_law_spots" s_law_spots
  d_law_lies_between : DefIs K mg "_law_lies_between" s_law_lies_between
  d_law_draw : DefIs K mg "_law_draw" s_law_draw
  d_law_of : DefIs K mg "_law_of" s_law_of
  d_law_measure : DefIs K mg "_law_measure" s_law_measure
  d_law_place : DefIs K mg "_law_place" s_law_place
  d_law_last_row : DefIs K mg "_law_last_row" s_law_last_row
  d_law_row : DefIs K mg "_law_row" s_law_row
  d_law_base : DefIs K mg "_law_base" s_law_base
  d_law_rows : DefIs K mg "_law_rows" s_law_rows
  d_law_tame_rows : DefIs K mg "_law_tame_rows" s_law_tame_rows
  d_law_spring : DefIs K mg "_law_spring" s_law_spring
  d_law_odd : DefIs K mg "_law_odd" s_law_odd
  dodds : DefIs K mg "odds" s_odds
  d_law_error : DefIs K mg "_law_error" s_law_error
  d_law_field : DefIs K mg "_law_field" s_law_field
  d_law_told : DefIs K mg "_law_told" s_law_told
  d_law_made : DefIs K mg "_law_made" s_law_made
/-- the class Program and the class InvalidNumber -/
structure Clss (P : Program) (K : PySem.W.Frag) (mg : Str → Option Value) : Prop where
  prg : ∃ (fI g fl pm : Addr) (fdI fdR fdL : FuncData) (mc : Value), Mk K (prgC K) fI ∧ Fun K "__init__" "Program.__init__" s_prg_init fI fdI ∧ Fun K "read" "Program.read" s_prg_read g fdR ∧ Fun K "__len__" "Program.__len__" s_prg_len fl fdL ∧
    ClX.CRead K (prgC K) mc ∧ ClX.CMet K (prgC K) mc "read" pm g ∧ PySem.W.findIn K (.ref (prgC K)) "__len__" = some (some (.ref fl)) ∧ PySem.W.isFn K (.ref fl) = true
  num : ∃ (C fE a1 a2 a3 : Addr), ExI P K mg C fE ∧ mg "InvalidNumber" = some (.ref C) ∧ ErrT mg K C ∧ mg "WrongValue" = some (.ref a1) ∧ mg "WrongName" = some (.ref a2) ∧ mg "NoAnswer" = some (.ref a3) ∧ PySem.W.exmAny K (.ref C) [.ref a1, .ref a2, .ref a3] = some true
section
variable {P : Program} {w : World} {K : PySem.W.Frag} {mg : Str → Option Value} {base : Heap} {Pt : Addr}
theorem lawT_of (T : Tx mg K w) (D : Funs K mg) (Cl : Clss P K mg)
    (right : ∃ (f : Addr) (oc : Value) (od : Option Addr) (kV doc pm : Value) (an : Option Addr) (cc : Addr) (ct : Value) (osl : Array (Option Value)), K.lookup f = some ⟨oc, od, .func (PySem.W.fnOf "_law_right" "_law_right" (defArgs s_law_right) (defBody s_law_right) (defScope s_law_right) .none kV doc pm an (.ref cc) ct), osl⟩ ∧
      PySem.W.codeIn K (.ref cc) "_law_right" = true ∧ mg "_law_right" = some (.ref f) ∧ PySem.W.keepIn K (.ref f) = true ∧ TabB base mg cc Pt) : LawT P w K mg base Pt := by
  obtain ⟨ais_too_far, bis_too_far, cis_too_far, mis_too_far⟩ := D.dis_too_far
  have gis_too_far : FnD P w K mg base "is_too_far" 1 C_is_too_far := ok_is_too_far T cis_too_far mis_too_far 
  obtain ⟨ais_less, bis_less, cis_less, mis_less⟩ := D.dis_less
  have gis_less : FnD P w K mg base "is_less" 1 C_is_less := ok_is_less T cis_less mis_less 
  obtain ⟨a_law_is_at_most, b_law_is_at_most, c_law_is_at_most, m_law_is_at_most⟩ := D.d_law_is_at_most
  have g_law_is_at_most : FnD P w K mg base "_law_is_at_most" 1 C_law_is_at_most := ok_law_is_at_most T c_law_is_at_most m_law_is_at_most 
  obtain ⟨ataken, btaken, ctaken, mtaken⟩ := D.dtaken
  have gtaken : FnD P w K mg base "taken" 1 C_taken := ok_taken T ctaken mtaken 
  obtain ⟨ais_integer, bis_integer, cis_integer, mis_integer⟩ := D.dis_integer
  have gis_integer : FnD P w K mg base "is_integer" 1 C_is_integer := ok_is_integer T cis_integer mis_integer 
  obtain ⟨ais_between, bis_between, cis_between, mis_between⟩ := D.dis_between
  have gis_between : FnD P w K mg base "is_between" 2 C_is_between := ok_is_between T cis_between mis_between gis_integer
  obtain ⟨aplace_in, bplace_in, cplace_in, mplace_in⟩ := D.dplace_in
  have gplace_in : FnD P w K mg base "place_in" 1 C_place_in := ok_place_in T cplace_in mplace_in 
  obtain ⟨aplain_step_in, bplain_step_in, cplain_step_in, mplain_step_in⟩ := D.dplain_step_in
  have gplain_step_in : FnD P w K mg base "plain_step_in" 2 C_plain_step_in := ok_plain_step_in T cplain_step_in mplain_step_in gplace_in
  obtain ⟨astep_in, bstep_in, cstep_in, mstep_in⟩ := D.dstep_in
  have gstep_in : FnD P w K mg base "step_in" 3 C_step_in := ok_step_in T cstep_in mstep_in gplace_in gplain_step_in
  obtain ⟨awrong_row, bwrong_row, cwrong_row, mwrong_row⟩ := D.dwrong_row
  have gwrong_row : FnD P w K mg base "wrong_row" 4 C_wrong_row := ok_wrong_row T cwrong_row mwrong_row gstep_in
  obtain ⟨acheck_program, bcheck_program, ccheck_program, mcheck_program⟩ := D.dcheck_program
  have gcheck_program : FnD P w K mg base "check_program" 1 C_check_program := ok_check_program T ccheck_program mcheck_program 
  obtain ⟨atested, btested, ctested, mtested⟩ := D.dtested
  have gtested : FnD P w K mg base "tested" 1 C_tested := ok_tested T ctested mtested 
  obtain ⟨amarked_steps, bmarked_steps, cmarked_steps, mmarked_steps⟩ := D.dmarked_steps
  have gmarked_steps : FnD P w K mg base "marked_steps" 2 C_marked_steps := ok_marked_steps T cmarked_steps mmarked_steps gtaken gtested
  obtain ⟨alowest_terms, blowest_terms, clowest_terms, mlowest_terms⟩ := D.dlowest_terms
  have glowest_terms : FnD P w K mg base "lowest_terms" 1 C_lowest_terms := ok_lowest_terms T clowest_terms mlowest_terms 
  obtain ⟨achances_at, bchances_at, cchances_at, mchances_at⟩ := D.dchances_at
  have gchances_at : FnD P w K mg base "chances_at" 2 C_chances_at := ok_chances_at T cchances_at mchances_at glowest_terms
  obtain ⟨a_law_size, b_law_size, c_law_size, m_law_size⟩ := D.d_law_size
  have g_law_size : FnD P w K mg base "_law_size" 1 C_law_size := ok_law_size T c_law_size m_law_size 
  obtain ⟨a_law_is_far, b_law_is_far, c_law_is_far, m_law_is_far⟩ := D.d_law_is_far
  have g_law_is_far : FnD P w K mg base "_law_is_far" 1 C_law_is_far := ok_law_is_far T c_law_is_far m_law_is_far 
  obtain ⟨a_law_is_wide_spot, b_law_is_wide_spot, c_law_is_wide_spot, m_law_is_wide_spot⟩ := D.d_law_is_wide_spot
  have g_law_is_wide_spot : FnD P w K mg base "_law_is_wide_spot" 2 C_law_is_wide_spot := ok_law_is_wide_spot T c_law_is_wide_spot m_law_is_wide_spot g_law_is_far
  obtain ⟨a_law_goes, b_law_goes, c_law_goes, m_law_goes⟩ := D.d_law_goes
  have g_law_goes : FnD P w K mg base "_law_goes" 2 C_law_goes := ok_law_goes T c_law_goes m_law_goes g_law_size
  obtain ⟨a_law_next, b_law_next, c_law_next, m_law_next⟩ := D.d_law_next
  have g_law_next : FnD P w K mg base "_law_next" 3 C_law_next := ok_law_next T c_law_next m_law_next g_law_size g_law_goes
  obtain ⟨a_law_steps, b_law_steps, c_law_steps, m_law_steps⟩ := D.d_law_steps
  have g_law_steps : FnD P w K mg base "_law_steps" 1 C_law_steps := ok_law_steps T c_law_steps m_law_steps 
  obtain ⟨a_law_lowest, b_law_lowest, c_law_lowest, m_law_lowest⟩ := D.d_law_lowest
  have g_law_lowest : FnD P w K mg base "_law_lowest" 1 C_law_lowest := ok_law_lowest T c_law_lowest m_law_lowest 
  obtain ⟨a_law_shares, b_law_shares, c_law_shares, m_law_shares⟩ := D.d_law_shares
  have g_law_shares : FnD P w K mg base "_law_shares" 2 C_law_shares := ok_law_shares T c_law_shares m_law_shares g_law_lowest
  obtain ⟨a_law_is_whole, b_law_is_whole, c_law_is_whole, m_law_is_whole⟩ := D.d_law_is_whole
  have g_law_is_whole : FnD P w K mg base "_law_is_whole" 1 C_law_is_whole := ok_law_is_whole T c_law_is_whole m_law_is_whole 
  obtain ⟨areached, breached, creached, mreached⟩ := D.dreached
  have greached : FnD P w K mg base "reached" 3 C_reached := ok_reached T creached mreached gis_too_far gmarked_steps
  obtain ⟨a_law_states, b_law_states, c_law_states, m_law_states⟩ := D.d_law_states
  have g_law_states : FnD P w K mg base "_law_states" 2 C_law_states := ok_law_states T c_law_states m_law_states g_law_steps
  obtain ⟨a_law_bounds, b_law_bounds, c_law_bounds, m_law_bounds⟩ := D.d_law_bounds
  have g_law_bounds : FnD P w K mg base "_law_bounds" 3 C_law_bounds := ok_law_bounds T c_law_bounds m_law_bounds g_law_states g_law_shares g_law_is_at_most
  obtain ⟨a_law_spots, b_law_spots, c_law_spots, m_law_spots⟩ := D.d_law_spots
  have g_law_spots : FnD P w K mg base "_law_spots" 4 C_law_spots := ok_law_spots T c_law_spots m_law_spots g_law_next g_law_is_wide_spot
  obtain ⟨a_law_lies_between, b_law_lies_between, c_law_lies_between, m_law_lies_between⟩ := D.d_law_lies_between
  have g_law_lies_between : FnD P w K mg base "_law_lies_between" 5 C_law_lies_between := ok_law_lies_between T c_law_lies_between m_law_lies_between g_law_spots g_law_size g_law_is_at_most
  obtain ⟨a_law_draw, b_law_draw, c_law_draw, m_law_draw⟩ := D.d_law_draw
  have g_law_draw : FnD P w K mg base "_law_draw" 1 C_law_draw := ok_law_draw T c_law_draw m_law_draw 
  obtain ⟨a_law_of, b_law_of, c_law_of, m_law_of⟩ := D.d_law_of
  have g_law_of : FnD P w K mg base "_law_of" 2 C_law_of := ok_law_of T c_law_of m_law_of g_law_draw
  obtain ⟨a_law_measure, b_law_measure, c_law_measure, m_law_measure⟩ := D.d_law_measure
  have g_law_measure : FnD P w K mg base "_law_measure" 3 C_law_measure := ok_law_measure T c_law_measure m_law_measure g_law_of
  obtain ⟨a_law_place, b_law_place, c_law_place, m_law_place⟩ := D.d_law_place
  have g_law_place : FnD P w K mg base "_law_place" 2 C_law_place := ok_law_place T c_law_place m_law_place g_law_draw
  obtain ⟨a_law_last_row, b_law_last_row, c_law_last_row, m_law_last_row⟩ := D.d_law_last_row
  have g_law_last_row : FnD P w K mg base "_law_last_row" 3 C_law_last_row := ok_law_last_row T c_law_last_row m_law_last_row g_law_of g_law_place
  obtain ⟨a_law_row, b_law_row, c_law_row, m_law_row⟩ := D.d_law_row
  have g_law_row : FnD P w K mg base "_law_row" 4 C_law_row := ok_law_row T c_law_row m_law_row g_law_of g_law_draw g_law_measure g_law_place g_law_last_row
  obtain ⟨a_law_base, b_law_base, c_law_base, m_law_base⟩ := D.d_law_base
  have g_law_base : FnD P w K mg base "_law_base" 3 C_law_base := ok_law_base T c_law_base m_law_base g_law_of g_law_draw
  obtain ⟨a_law_rows, b_law_rows, c_law_rows, m_law_rows⟩ := D.d_law_rows
  have g_law_rows : FnD P w K mg base "_law_rows" 5 C_law_rows := ok_law_rows T c_law_rows m_law_rows g_law_of g_law_draw g_law_row g_law_base
  obtain ⟨a_law_tame_rows, b_law_tame_rows, c_law_tame_rows, m_law_tame_rows⟩ := D.d_law_tame_rows
  have g_law_tame_rows : FnD P w K mg base "_law_tame_rows" 6 C_law_tame_rows := ok_law_tame_rows T c_law_tame_rows m_law_tame_rows g_law_rows g_law_states g_law_base
  obtain ⟨a_law_spring, b_law_spring, c_law_spring, m_law_spring⟩ := D.d_law_spring
  have g_law_spring : FnD P w K mg base "_law_spring" 1 C_law_spring := ok_law_spring T c_law_spring m_law_spring 
  obtain ⟨a_law_odd, b_law_odd, c_law_odd, m_law_odd⟩ := D.d_law_odd
  have g_law_odd : FnD P w K mg base "_law_odd" 3 C_law_odd := ok_law_odd T c_law_odd m_law_odd g_law_of
  obtain ⟨fI, g, fl, pm, fdI, fdR, fdL, mc, M, FI, FR, FL, cr, cm, hls, hlf⟩ := Cl.prg
  obtain ⟨C, fE, a1, a2, a3, x, hmC, E, n1, n2, n3, hany⟩ := Cl.num
  have rI : FnR P w K mg base CX0 5 fI (spMake P w K) := ok_prg_init T FI gwrong_row gstep_in
  have rR : FnR P w K mg base CX0 7 g (spD P w K (C_read K)) := ok_prg_read T FR gwrong_row M rI
  have rL : FnR P w K mg base CX0 1 fl (spD P w K C_plen) := ok_prg_len T FL
  obtain ⟨am, bm, cmd, mm⟩ := D.d_law_made
  have gmade : FnD P w K mg base "_law_made" 8 C_law_made := ok_law_made T cmd mm cr cm rR
  obtain ⟨ao, bo, co, mo⟩ := D.dodds
  have go : FnOk P w K mg base (L2.CX P w) 4 ao bo ["program", "index"] (spOdds P w K C) := ok_odds T co x hmC hls hlf rL gcheck_program gis_between greached gchances_at gis_less
  obtain ⟨ae, be, ce, me⟩ := D.d_law_error
  obtain ⟨af, bf, cf, mf⟩ := D.d_law_field
  have ge : FnW P w K mg base 1 ae be ["_law_e"] (spErr P w K C) := ok_law_error E T.isinstance ce
  have gf : FnW P w K mg base 1 af bf ["_law_e", "_law_word"] (spFld P w K C) := ok_law_field E cf
  have hodds : ∀ (s : Shared) (w1 w2 : Value), BindsTo s bo ⟨[], [("index", w1), ("program", w2)]⟩ [("program", w2), ("index", w1)] := by
    obtain ⟨oc, od, kV, doc, pm0, an, cdv, ct, osl, rfl, _, _⟩ := co.ex
    exact fun s w1 w2 => .of_eq rfl
  have TT : ToldT P w K mg base C := ⟨⟨ao, bo, go, mo, co.kp, co.binds (fun _ _ _ _ _ _ us hl => match us, hl with | [_, _], _ => rfl), hodds⟩, ⟨ae, be, ge, me, ce.kp, ce.binds (fun _ _ _ _ _ _ us hl => match us, hl with | [_], _ => rfl)⟩,
    ⟨af, bf, gf, mf, cf.kp, cf.binds (fun _ _ _ _ _ _ us hl => match us, hl with | [_, _], _ => rfl)⟩, D.d_law_told, ⟨a1, a2, a3, n1, n2, n3, hany⟩, T.repr⟩
  exact ⟨⟨T, ⟨C, TT⟩, g_law_tame_rows, gmade, g_law_draw, g_law_bounds, g_law_lies_between, g_law_is_whole, g_law_odd⟩, right, ⟨mc, pm, g, cr, cm, rR⟩, g_law_spring⟩
end
end Dr
set_option maxHeartbeats 2000000
/-! F27: the law's call at the head's end. -/
namespace Dr
open PySem PySem.Spec PyProof.Rows L2 LamX
/-- only the script and the one table are tracked -/
def topH (a Pt : Addr) (o : Obj) (ns : List Int) : Hp := fun b => if b = a then some (.frz o (.lst (ns.map V.int))) else if b = Pt then some (.tbl #[]) else none
section
variable {P : Program} {w : World} {K : PySem.W.Frag} {mg mb : Str → Option Value} {fa a cc Pt : Addr} {s₁ : Shared} {vs : List Value} {ns : List Int}
theorem law_end (KX : K.In s₁.heap) (hns : s₁.heap.Ns mainGlobals mg) (hb : s₁.heap.Ns builtinsNs mb) (hbb : ∀ x : Str, x ≠ "__name__" → mb x = bootBuiltins x) (hlim : s₁.heap.NoLimit) (hg : s₁.gens = #[])
    (hT : s₁.heap.get? Pt = some { cls := .none, data := .fields #[] }) (nT : K.lookup Pt = none) (C : PySem.W.CodeHd s₁.heap cc Pt)
    (hbm : ∃ (bm : Addr) (ob : Obj), mg "__builtins__" = some (.ref bm) ∧ bm ≠ builtinsNs ∧ s₁.heap.get? bm = some ob ∧ ob.cls = .type "module" ∧ ob.dict = some builtinsNs ∧ ob.data = .plain)
    (ha : s₁.heap.get? a = some { cls := .type "list", data := .seq vs.toArray }) (hi : IntsAre vs ns) (hl : ns.length ≤ sizeLine) (nA : K.lookup a = none)
    (F : ∀ base : Heap, K.In base → base.Ns mainGlobals mg → TabB base mg cc Pt → Env0 P w K mg base callerA [] s₁ (topH a Pt { cls := .type "list", data := .seq vs.toArray } ns) → a ≠ Pt →
      codeAny (model P w) callerA (.call (.ref fa) ⟨[.ref a], []⟩) (CR CX0 [] P w (topH a Pt { cls := .type "list", data := .seq vs.toArray } ns) s₁ (fun v _ => v = .bl true) (fun _ _ _ => False)) s₁) :
    codeAny (model P w) callerA (.call (.ref fa) ⟨[.ref a], []⟩) (fun r s' => r = .ok (.ret (.bool true)) ∧ OldK s₁.heap s'.heap ∧ s'.os = s₁.os ∧ AllBare s'.gens) s₁ := by
  have rv := vals_ints hi
  have ap : a ≠ Pt := fun z => by
    rw [z, hT] at ha
    have q : Data.fields #[] = Data.seq vs.toArray _ := congrArg Obj.data (Option.some.inj ha)
    cases q
  generalize hH : topH a Pt { cls := .type "list", data := .seq vs.toArray } ns = H at F
  have Ha : H a = some (.frz { cls := .type "list", data := .seq vs.toArray } (.lst (ns.map V.int))) := by rw [← hH]; exact if_pos rfl
  have Hp' : H Pt = some (.tbl #[]) := by rw [← hH]; exact (if_neg (Ne.symm ap)).trans (if_pos rfl)
  have Ho : ∀ b, b ≠ a → b ≠ Pt → H b = none := fun b h1 h2 => by rw [← hH]; exact (if_neg h1).trans (if_neg h2)
  have stay : ∀ {b : Addr} {o : Obj}, s₁.heap.get? b = some o → b ≠ a → b ≠ Pt → (hidT s₁.heap H).get? b = some o := fun e h1 h2 => hidT_get e (Ho _ h1 h2)
  -- what is no list and no record is neither of the two
  have apart : ∀ {b : Addr} {o : Obj}, s₁.heap.get? b = some o → (∀ us n, o.data ≠ .seq us n) → o.data ≠ .fields #[] → b ≠ a ∧ b ≠ Pt := fun {b o} e h1 h2 => ⟨fun z => by
      rw [z, ha] at e
      cases e
      exact h1 _ _ rfl, fun z => by
      rw [z, hT] at e
      cases e
      exact h2 rfl⟩
  have nsB : ∀ {b : Addr} {m : Str → Option Value}, s₁.heap.Ns b m → (hidT s₁.heap H).Ns b m := fun {b m} ⟨o, es, ep, e, d, r⟩ => by
    obtain ⟨h1, h2⟩ := apart e (fun us n z => by rw [d] at z; cases z) (fun z => by rw [d] at z; cases z)
    exact ⟨o, es, ep, stay e h1 h2, d, r⟩
  have KB : K.In (hidT s₁.heap H) := fun b o e => stay (KX b o e) (fun z => by rw [z, nA] at e; cases e) (fun z => by rw [z, nT] at e; cases e)
  have MB : L2.Mod K mg (hidT s₁.heap H) := ⟨KB, nsB hns, ⟨mb, nsB hb, hbb⟩, by
    obtain ⟨mc, h1, h2⟩ := hlim
    exact ⟨mc, nsB h1, h2⟩⟩
  have TB : TabB (hidT s₁.heap H) mg cc Pt := by
    refine ⟨?_, ?_, fun z => ?_⟩
    · obtain ⟨o, us, file, tf, flags, tg, inF, text, tt, e1, r1, r2, r3, r⟩ := C
      obtain ⟨h1, h2⟩ := apart e1 (fun us n z => by rw [r2] at z; cases z) (fun z => by rw [r2] at z; cases z; simp at r3)
      exact ⟨o, us, file, tf, flags, tg, inF, text, tt, stay e1 h1 h2, r1, r2, r3, r⟩
    · obtain ⟨bm, ob, b1, b2, b3, b4, b5, b6⟩ := hbm
      obtain ⟨h1, h2⟩ := apart b3 (fun us n z => by rw [b6] at z; cases z) (fun z => by rw [b6] at z; cases z)
      refine ⟨bm, ob, b1, b2, fun q => ?_, h2, stay b3 h1 h2, b4, b5, b6⟩
      obtain ⟨o, es, ep, e, hd, _⟩ := hns
      rw [q, e] at b3
      cases b3
      rw [hd] at b6
      cases b6
    · obtain ⟨o, es, ep, e, hd, _⟩ := hns
      rw [z, hT] at e
      cases e
      cases hd
  have hok : HOk P w H s₁.heap := fun b u e => by
    by_cases h1 : b = a
    · subst h1
      rw [Ha] at e
      cases e
      exact ⟨ha, by rw [List.length_map]; exact hl, vs, _, rv, ha⟩
    · by_cases h2 : b = Pt
      · subst h2
        rw [Hp'] at e
        cases e
        exact hT
      · rw [Ho b h1 h2] at e
        cases e
  have e0 : Env0 P w K mg (hidT s₁.heap H) callerA [] s₁ H := ⟨rfl, MB, fun b o e => of_hidT e, Nat.le_of_eq (hidT_size _ _), trivial, fun b hb => absurd (show b ∈ ([] : List Addr) from hb) (by simp), hok, .of_eq hg⟩
  refine codeAny_mono (F _ KB (nsB hns) TB e0 ap) fun r s' h => ?_
  cases r with
  | error e => exact False.elim h
  | ok fl =>
    cases fl with
    | next => exact False.elim h
    | brk => exact False.elim h
    | cont => exact False.elim h
    | ret u =>
      obtain ⟨v, H', os, bare, un, hok2, r2, rfl⟩ := h
      obtain rfl : u = Value.bool true := r2
      have same : ∀ b o, b ≠ Pt → s₁.heap.get? b = some o → s'.heap.get? b = some o := fun b o nb e => by
        by_cases h1 : b = a
        · subst h1
          obtain ⟨e2, _⟩ := hok2 b _ (un.frzs b _ _ Ha)
          rw [ha] at e
          cases e
          exact e2
        · exact un.keep b o e (Ho b h1 nb) (fun z => absurd (show b ∈ ([] : List Addr) from z) (by simp)) (by simp)
      obtain ⟨more, hm⟩ := un.tbls Pt #[] Hp'
      have hm2 : s'.heap.get? Pt = some { cls := .none, data := .fields (#[] ++ more) } := hok2 Pt _ hm
      refine ⟨rfl, ⟨fun b o e => ?_, fun b o e => ?_⟩, os, bare⟩
      · by_cases h2 : b = Pt
        · subst h2
          rw [hT] at e
          cases e
          exact .inr (.inl ⟨(C.tab hT).isCodeTable, rfl, #[], more, rfl, hm2⟩)
        · exact .inl (same b o h2 e)
      · by_cases h2 : b = Pt
        · exact ⟨_, by rw [h2]; exact hm2⟩
        · exact ⟨o, same b o h2 e⟩
/-- law, called -/
theorem law_at {oc : Value} {od : Option Addr} {kV doc pm : Value} {an : Option Addr} {cdv ct : Value} {osl : Array (Option Value)} (lk : K.lookup fa = some ⟨oc, od, .func (PySem.W.fnOf "law" "law" (defArgs s_law) (defBody s_law) (defScope s_law) .none kV doc pm an cdv ct), osl⟩) (hcd : PySem.W.codeIn K cdv "law" = true) (hl : ns.length ≤ 63)
    {base : Heap} (L : LawT P w K mg base Pt) (e0 : Env0 P w K mg base callerA [] s₁ (topH a Pt { cls := .type "list", data := .seq vs.toArray } ns)) (ap : a ≠ Pt) :
    codeAny (model P w) callerA (.call (.ref fa) ⟨[.ref a], []⟩) (CR CX0 [] P w (topH a Pt { cls := .type "list", data := .seq vs.toArray } ns) s₁ (fun v _ => v = .bl true) (fun _ _ _ => False)) s₁ := by
  have hr : Room 11 callerA := ⟨rfl, by decide +kernel, by decide +kernel⟩
  refine run_ofS (N := lawN) (ps := ["_law_script"]) (us := [.ref a]) (vs := [.ref a]) lk hcd sc_law hr e0 (.of_eq rfl) (.cons rfl .nil) rfl fun hr10 => ?_
  refine ⟨_, (pss_w (X := bx P w K mg base lawN "law" s_law fa cdv callerA [] s₁ (topH a Pt { cls := .type "list", data := .seq vs.toArray } ns) (fun _ _ _ => False))).nox, ?_⟩
  generalize hH : topH a Pt { cls := .type "list", data := .seq vs.toArray } ns = H at *
  have Ha : H a = some (.frz { cls := .type "list", data := .seq vs.toArray } (.lst (ns.map V.int))) := by rw [← hH]; exact if_pos rfl
  have Hp' : H Pt = some (.tbl #[]) := by rw [← hH]; exact (if_neg (Ne.symm ap)).trans (if_pos rfl)
  have W : MoOk P w K ⟨H, fun b => if b = a then H a else none, [Pt]⟩ [tabM Pt lamQ] [Pt] (fun b => if b = a then H a else none) H := .start (fun b o q => by
      by_cases h1 : b = a
      · subst h1; rw [← q]; exact (if_pos rfl).symm
      · exact absurd ((if_neg h1).symm.trans q) (by simp)) (by simp) (fun b hb => by rw [List.mem_singleton.mp hb]; exact if_neg (Ne.symm ap)) rfl (fun k b o h1 h2 => by
      match k, h1, h2 with
      | 0, h1, h2 =>
        cases h1; cases h2
        exact ⟨_, Hp', rfl, #[], rfl, trivial, fun pos cv hc => absurd (show codeAmong pos [] = some cv from hc) (by simp [codeAmong])⟩
      | n + 1, h1, _ => exact absurd h1 (by simp))
  refine (law_body (c := ⟨H, fun b => if b = a then H a else none, [Pt]⟩) L rfl hr10 ns hl).run [Pt] _ H _ W (slOk_start (.cons (.lst (.inr ⟨_, (if_pos rfl).trans Ha⟩) (DqA.of_ints ns)) .nil)) _ fun m' S' v H' W' e' r' => Dq.of_bl r'
end
end Dr
set_option maxHeartbeats 2000000
/-! F35: from the Hook's answers to what the walks ask. -/
namespace Dr
open PySem PySem.Spec PyProof.Rows L2 LamX
section
variable {K : PySem.W.Frag} {S : Hp}
/-- a pair of short facts -/
theorem b2 {a b : Bool} (h : (a && b) = true) : a = true ∧ b = true := Bool.and_eq_true_iff.mp h
theorem stt_ok {s : Stt} {u : Value} (h : sttB K s u = true) : ∃ v : V, RelV v u ∧ Dq K S v (encS s) := by
  cases u with
  | ref b =>
    have h1 : (match K.lookup b with
      | some ⟨.type t, _, .seq its _, _⟩ => t == "tuple" && (match its.toList with
        | [.int r _, .int a _, .int b _, .bool x, .int j _, .bool y] => decide ((⟨r, a, b, x, j, y⟩ : Stt) = s)
        | _ => false)
      | _ => false) = true := h
    split at h1
    · rename_i t d its n sl e
      obtain ⟨h2, h3⟩ := b2 h1
      split at h3
      · rename_i r _ a _ c _ x j _ y e2
        have e3 : (⟨r, a, c, x, j, y⟩ : Stt) = s := of_decide_eq_true h3
        have sz : its.size = 6 := by rw [← Array.length_toList, e2]; rfl
        refine ⟨.ref b, rfl, .tup (xs := [.int r, .int a, .int c, .bl x, .int j, .bl y]) (.inr ⟨_, its, n, e, congrArg Value.type (beq_iff_eq.mp h2), rfl, by rw [sz]; decide, ?_⟩) ?_⟩
        · rw [e2]
          exact .cons ⟨_, rfl⟩ (.cons ⟨_, rfl⟩ (.cons ⟨_, rfl⟩ (.cons rfl (.cons ⟨_, rfl⟩ (.cons rfl .nil)))))
        · subst e3
          exact .cons (.int _) (.cons (.int _) (.cons (.int _) (.cons (.bl _) (.cons (.int _) (.cons (.bl _) .nil)))))
      · cases h3
    · cases h1
  | _ => cases h
theorem first_ok {a : Addr} (h : firstB K a = true) : Dq K S (.ref a) (.tuple (first4.map encS)) := by
  unfold firstB at h
  split at h
  · rename_i t d its n sl e
    obtain ⟨h2, h3⟩ := b2 h
    split at h3
    · rename_i v1 v2 v3 v4 e2
      obtain ⟨p1, h4⟩ := b2 h3
      obtain ⟨p2, h5⟩ := b2 h4
      obtain ⟨p3, p4⟩ := b2 h5
      obtain ⟨x1, r1, d1⟩ := stt_ok (S := S) p1
      obtain ⟨x2, r2, d2⟩ := stt_ok (S := S) p2
      obtain ⟨x3, r3, d3⟩ := stt_ok (S := S) p3
      obtain ⟨x4, r4, d4⟩ := stt_ok (S := S) p4
      have sz : its.size = 4 := by rw [← Array.length_toList, e2]; rfl
      refine .tup (xs := [x1, x2, x3, x4]) (.inr ⟨_, its, n, e, congrArg Value.type (beq_iff_eq.mp h2), rfl, by rw [sz]; decide, ?_⟩) (.cons d1 (.cons d2 (.cons d3 (.cons d4 .nil))))
      rw [e2]
      exact .cons r1 (.cons r2 (.cons r3 (.cons r4 .nil)))
    · cases h3
  · cases h
theorem intB_ok {a : Addr} {x : Str} {i : Int} (h : intB K a x i = true) : ∃ t, PySem.W.nsIn K a x = some (some (.int i t)) := by
  unfold intB at h
  split at h
  · rename_i j t e
    exact ⟨t, by rw [e, beq_iff_eq.mp h]⟩
  · cases h
theorem strB_ok {a : Addr} {x y : Str} (h : strB K a x y = true) : ∃ t, PySem.W.nsIn K a x = some (some (.str y t)) := by
  unfold strB at h
  split at h
  · rename_i j t e
    exact ⟨t, by rw [e, beq_iff_eq.mp h]⟩
  · cases h
theorem numCls_ok {C : Addr} (h : numClsB K C = true) : ∃ nm q N bs bm sn sub ab col dd k0 k1 k2 k3 k5, K.lookup C = some (excClassObj nm q C N bs bm true sn sub ab col dd k0 k1 k2 k3 k5 "ValueError.__new__") ∧ PySem.HandSPX.refsVE bm = true := by
  unfold numClsB at h
  split at h
  · rename_i t od cd sl e
    obtain ⟨h1, h2⟩ := b2 h
    split at h2
    · rename_i C' bm o0 o1 o2 o3 n o5 e1 e2
      obtain ⟨h3, h4⟩ := b2 h2
      obtain ⟨h5, h6⟩ := b2 h4
      obtain ⟨h7, h8⟩ := b2 h6
      obtain ⟨h9, h10⟩ := b2 h8
      obtain ⟨c1, c2, c3, c4, c5, c6, c7, c8, c9, c10, c11⟩ := cd
      have q1 : t = "type" := beq_iff_eq.mp h1
      have q2 : C' = C := beq_iff_eq.mp h3
      have q3 : n = "ValueError.__new__" := beq_iff_eq.mp h5
      have q4 : c11 = false := by
        have z : (!c11) = true := h7
        cases c11 with
        | false => rfl
        | true => cases z
      have q5 : c6 = true := h9
      have q6 : c3 = .ref C' :: bm := e1
      have q7 : sl = #[o0, o1, o2, o3, some (.builtin n), o5] := by
        apply Array.toList_inj.mp
        exact e2
      subst q1 q2 q3 q4 q5 q6 q7
      exact ⟨_, _, _, _, _, _, _, _, _, _, _, _, _, _, _, e, h10⟩
    · cases h2
  · cases h
theorem along_ok {C : Addr} (h : alongB K C = true) : ∃ cd, PySem.W.clsIn K C = some cd ∧ PySem.W.alongIn K "__init__" ((cd.mro.dropWhile (· != .ref C)).drop 1) = some (some (.builtin "ValueError.__init__")) := by
  unfold alongB at h
  split at h
  · rename_i cd e
    exact ⟨cd, e, He.eqO_ok h⟩
  · cases h
theorem file_ok {c : Addr} (h : fileB K c = true) : ∃ cl d vs sl file tf, K.lookup c = some ⟨cl, d, .fields vs, sl⟩ ∧ vs[2]? = some (.str file tf) ∧ ((PP.main.file : Str) == file) = true := by
  unfold fileB at h
  split at h
  · rename_i cl d vs sl e
    split at h
    · rename_i file tf e2
      exact ⟨cl, d, vs, sl, file, tf, e, e2, h⟩
    · cases h
  · cases h
theorem cell_ok {c C : Addr} (h : cellB K c C = true) : ∃ cl d sl, K.lookup c = some ⟨cl, d, .cell (some (.ref C)), sl⟩ := by
  unfold cellB at h
  split at h
  · rename_i cl d D sl e
    exact ⟨cl, d, sl, by rw [e, beq_iff_eq.mp h]⟩
  · cases h
end
section
variable {K : PySem.W.Frag} {x q : Str} {st : Stmt} {f : Addr} {fd : FuncData}
theorem fun_of (F : FunD K x q (defArgs st) (defBody st) (defScope st) [] [] f fd) : Fun K x q st f fd := by
  obtain ⟨⟨oc, od, dV, kV, doc, pm, an, cdv, ct, osl, e, lk, hc, hd, _⟩, kp⟩ := F
  rcases hd with ⟨_, rfl⟩ | ⟨h, _⟩
  · exact ⟨⟨oc, od, kV, doc, pm, an, cdv, ct, osl, e, lk, hc⟩, kp⟩
  · exact absurd rfl h
/-- read's function object -/
theorem funA_of (e : fnA K f = some (x, q, defArgs st, .stmts (defBody st), defScope st, mainGlobals, [], .none, builtinsNs)) (hc : codeB K f q = true) (kp : PySem.W.keepIn K (.ref f) = true) : ∃ fd, Fun K x q st f fd := by
  unfold codeB at hc
  unfold fnA at e
  split at hc
  · rename_i oc od fd osl lk
    rw [lk] at e
    obtain ⟨n1, n2, n3, n4, n5, n6, n7, n8, n9, n10, n11, n12, n13, n14, n15⟩ := fd
    have e2 := Option.some.inj e
    simp only [Prod.mk.injEq] at e2
    obtain ⟨h1, h2, h3, h4, h5, h6, h7, h8, h9⟩ := e2
    have h7' : n7 = [] := List.map_eq_nil_iff.mp h7
    subst h1 h2 h3 h4 h5 h6 h7' h8 h9
    exact ⟨_, ⟨oc, od, n9, n10, n11, n12, n13, n14, osl, rfl, lk, hc⟩, kp⟩
  · cases hc
/-- InvalidNumber.__init__'s function object, its code, its cell -/
theorem numFn_of {C : Addr} (e : fnA K f = vE) (h : numFnB K f C = true) : ∃ (oc : Value) (od : Option Addr) (kV doc pm : Value) (an : Option Addr) (cda : Addr) (ct : Value) (osl : Array (Option Value)) (cc : Addr) (ccl : Value) (cdd : Option Addr) (vs : Array Value) (ccs : Array (Option Value)) (file : Str) (tf : Tok) (cl : Value) (cld : Option Addr) (csl : Array (Option Value)),
    K.lookup f = some ⟨oc, od, .func (PySem.W.fnX "__init__" numQ (defArgs s_num_init) (defBody s_num_init) (defScope s_num_init) [("__class__", cc)] .none kV doc pm an (.ref cda) ct), osl⟩ ∧ PySem.W.codeIn K (.ref cda) numQ = true ∧
    K.lookup cda = some ⟨ccl, cdd, .fields vs, ccs⟩ ∧ vs[2]? = some (.str file tf) ∧ ((PP.main.file : Str) == file) = true ∧ K.lookup cc = some ⟨cl, cld, .cell (some (.ref C)), csl⟩ := by
  unfold numFnB at h
  unfold fnA vE at e
  split at h
  · rename_i oc od fd osl lk
    rw [lk] at e
    split at h
    · rename_i y cc cda e7 e13
      obtain ⟨k1, h⟩ := b2 h
      obtain ⟨k2, h⟩ := b2 h
      obtain ⟨k3, k4⟩ := b2 h
      obtain ⟨n1, n2, n3, n4, n5, n6, n7, n8, n9, n10, n11, n12, n13, n14, n15⟩ := fd
      have e2 := Option.some.inj e
      simp only [Prod.mk.injEq] at e2
      obtain ⟨h1, h2, h3, h4, h5, h6, _, h8, h9⟩ := e2
      have e7' : n7 = [(y, cc)] := e7
      have e13' : n13 = .ref cda := e13
      have ky : y = "__class__" := of_decide_eq_true k1
      obtain ⟨ccl, cdd, vs, ccs, file, tf, q1, q2, q3⟩ := file_ok k3
      obtain ⟨cl, cld, csl, q4⟩ := cell_ok k4
      subst h1 h2 h3 h4 h5 h6 h8 h9 e7' e13' ky
      exact ⟨oc, od, n9, n10, n11, n12, cda, n14, osl, cc, ccl, cdd, vs, ccs, file, tf, cl, cld, csl, lk, k2, q1, q2, q3, q4⟩
    · cases h
  · cases h
end
end Dr
set_option maxHeartbeats 4000000
/-! F36: all facts of the head for the walk of law. (printed by genF36.py) -/
namespace Dr
open PySem PySem.Spec PyProof.Rows L2 LamX
def mkD (x : Str) (st : Stmt) : He.DefD := ⟨(x, none), x, x, defArgs st, defBody st, defScope st, [], []⟩
def mkM (x q : Str) (st : Stmt) : He.DefD := ⟨("Program", some x), x, q, defArgs st, defBody st, defScope st, [], []⟩
theorem ex_at {K : PySem.W.Frag} {b : Bool} (h : ex K = true) (i : Nat) (e : (exs K)[i]? = some b := by rfl) : b = true := List.all_eq_true.mp h b (List.mem_of_getElem? e)
theorem prgC_ga {K : PySem.W.Frag} : prgC K = gP K := rfl
theorem fO {a b : Option (Option Value)} (h : He.eqO a b = true) : a = b := of_decide_eq_true h
section
variable {w : World} {h h0 : Heap} {K : PySem.W.Frag} {mg : Str → Option Value}
theorem met_ok (e : metB K = true) : PySem.W.findCls K (.ref (gP K)) (.type "type") "read" = some (.get (.builtin "classmethod.__get__") (.ref (gM K)) .none (.ref (gP K))) := by
  unfold metB at e
  split at e
  · rename_i g p c e2
    obtain ⟨h1, h2⟩ := b2 e
    obtain ⟨h3, h4⟩ := b2 h2
    rw [e2, beq_iff_eq.mp h1, beq_iff_eq.mp h3, beq_iff_eq.mp h4]
  · cases e
theorem rec_ok (e : recB K = true) : ∃ rest, PySem.W.recIn K (gM K) "classmethod" = some (.ref (gR K) :: rest) := by
  unfold recB at e
  split at e
  · rename_i g rest e2
    exact ⟨rest, by unfold gR; rw [e2]⟩
  · cases e
theorem dis (X : K.In h) (G : h.Ns mainGlobals mg) (s : HS w h0 K) {x : Str} {st : Stmt} (i j : Nat) (hi : hFn[i]? = some (mkD x st)) (hj : hFa[j]? = some (.glo x)) : DefIs K mg x st := by
  obtain ⟨fd, F⟩ := s.t.d.def_ i hi
  exact ⟨_, fd, fun_of F, He.glo_ok X G (s.t.d.fact j hj)⟩
theorem gl (X : K.In h) (G : h.Ns mainGlobals mg) (s : HS w h0 K) {x : Str} (j : Nat) (hj : hFa[j]? = some (.glo x)) : mg x = some (.ref (He.ga K x)) := He.glo_ok X G (s.t.d.fact j hj)
theorem fr (X : K.In h) (G : h.Ns mainGlobals mg) (s : HS w h0 K) {x : Str} (j : Nat) (hj : hFa[j]? = some (.free x)) : mg x = none := He.free_ok X G (s.t.d.fact j hj)

theorem funs_of (X : K.In h) (G : h.Ns mainGlobals mg) (s : HS w h0 K) : Funs K mg := by
  constructor
  · exact dis X G s 7 7 (by kernel_rfl) (by kernel_rfl)
  · exact dis X G s 13 13 (by kernel_rfl) (by kernel_rfl)
  · exact dis X G s 42 42 (by kernel_rfl) (by kernel_rfl)
  · exact dis X G s 8 8 (by kernel_rfl) (by kernel_rfl)
  · exact dis X G s 0 0 (by kernel_rfl) (by kernel_rfl)
  · exact dis X G s 1 1 (by kernel_rfl) (by kernel_rfl)
  · exact dis X G s 2 2 (by kernel_rfl) (by kernel_rfl)
  · exact dis X G s 3 3 (by kernel_rfl) (by kernel_rfl)
  · exact dis X G s 4 4 (by kernel_rfl) (by kernel_rfl)
  · exact dis X G s 5 5 (by kernel_rfl) (by kernel_rfl)
  · exact dis X G s 6 6 (by kernel_rfl) (by kernel_rfl)
  · exact dis X G s 9 9 (by kernel_rfl) (by kernel_rfl)
  · exact dis X G s 10 10 (by kernel_rfl) (by kernel_rfl)
  · exact dis X G s 12 12 (by kernel_rfl) (by kernel_rfl)
  · exact dis X G s 14 14 (by kernel_rfl) (by kernel_rfl)
  · exact dis X G s 25 25 (by kernel_rfl) (by kernel_rfl)
  · exact dis X G s 27 27 (by kernel_rfl) (by kernel_rfl)
  · exact dis X G s 35 35 (by kernel_rfl) (by kernel_rfl)
  · exact dis X G s 26 26 (by kernel_rfl) (by kernel_rfl)
  · exact dis X G s 33 33 (by kernel_rfl) (by kernel_rfl)
  · exact dis X G s 36 36 (by kernel_rfl) (by kernel_rfl)
  · exact dis X G s 40 40 (by kernel_rfl) (by kernel_rfl)
  · exact dis X G s 41 41 (by kernel_rfl) (by kernel_rfl)
  · exact dis X G s 38 38 (by kernel_rfl) (by kernel_rfl)
  · exact dis X G s 11 11 (by kernel_rfl) (by kernel_rfl)
  · exact dis X G s 37 37 (by kernel_rfl) (by kernel_rfl)
  · exact dis X G s 43 43 (by kernel_rfl) (by kernel_rfl)
  · exact dis X G s 34 34 (by kernel_rfl) (by kernel_rfl)
  · exact dis X G s 44 44 (by kernel_rfl) (by kernel_rfl)
  · exact dis X G s 17 17 (by kernel_rfl) (by kernel_rfl)
  · exact dis X G s 18 18 (by kernel_rfl) (by kernel_rfl)
  · exact dis X G s 19 19 (by kernel_rfl) (by kernel_rfl)
  · exact dis X G s 20 20 (by kernel_rfl) (by kernel_rfl)
  · exact dis X G s 21 21 (by kernel_rfl) (by kernel_rfl)
  · exact dis X G s 22 22 (by kernel_rfl) (by kernel_rfl)
  · exact dis X G s 23 23 (by kernel_rfl) (by kernel_rfl)
  · exact dis X G s 24 24 (by kernel_rfl) (by kernel_rfl)
  · exact dis X G s 39 39 (by kernel_rfl) (by kernel_rfl)
  · exact dis X G s 16 16 (by kernel_rfl) (by kernel_rfl)
  · exact dis X G s 32 32 (by kernel_rfl) (by kernel_rfl)
  · exact dis X G s 15 15 (by kernel_rfl) (by kernel_rfl)
  · exact dis X G s 29 29 (by kernel_rfl) (by kernel_rfl)
  · exact dis X G s 30 30 (by kernel_rfl) (by kernel_rfl)
  · exact dis X G s 31 31 (by kernel_rfl) (by kernel_rfl)
  · exact dis X G s 28 28 (by kernel_rfl) (by kernel_rfl)
theorem prgI_of (e : ex K = true) (c : Cls K (gP K)) : PrgI K := ⟨fun _ _ _ _ q => .base (.ins q c (fO (ex_at e 25)) (fO (ex_at e 21)) (of_decide_eq_true (ex_at e 22)) (of_decide_eq_true (ex_at e 26))), if_pos (beq_self_eq_true _)⟩
theorem quant_of (e : ex K = true) : ∀ q : Qt, ∃ t, PySem.W.nsIn K (He.ga K "QUANTITIES") q.txt = some (some (.int q.val t))
  | .n1 => intB_ok (ex_at e 37)
  | .n2 => intB_ok (ex_at e 38)
  | .n3 => intB_ok (ex_at e 39)
  | .n4 => intB_ok (ex_at e 40)
  | .fit => intB_ok (ex_at e 41)
theorem err_at (e : ex K = true) : ∀ q, q ∈ errCls → PySem.W.nsIn K mainGlobals q.1 = some (some (.ref (He.ga K q.1))) ∧ PySem.W.kitOne K (.ref (gN K)) (.ref (He.ga K q.1)) = some q.2 := fun q hq => by
  have z := b2 (List.all_eq_true.mp (show (errCls.all fun q => He.eqO (PySem.W.nsIn K mainGlobals q.1) (some (some (.ref (He.ga K q.1)))) && decide (PySem.W.kitOne K (.ref (gN K)) (.ref (He.ga K q.1)) = some q.2)) = true from ex_at e 13) q hq)
  exact ⟨fO z.1, of_decide_eq_true z.2⟩
theorem clsP (s : HS w h0 K) : Cls K (gP K) := He.cls_ok (x := "Program") (s.t.d.fact (f := .cls "Program") 76 (by kernel_rfl))
theorem tx_of (X : K.In h) (G : h.Ns mainGlobals mg) (s : HS w h0 K) : Tx mg K w where
  len := fr X G s 52 (by kernel_rfl)
  int := fr X G s 53 (by kernel_rfl)
  abs := fr X G s 54 (by kernel_rfl)
  divmod := fr X G s 55 (by kernel_rfl)
  str := fr X G s 56 (by kernel_rfl)
  bool := fr X G s 66 (by kernel_rfl)
  range := fr X G s 57 (by kernel_rfl)
  isinstance := fr X G s 58 (by kernel_rfl)
  repr := fr X G s 59 (by kernel_rfl)
  all := fr X G s 60 (by kernel_rfl)
  min := fr X G s 61 (by kernel_rfl)
  max := fr X G s 62 (by kernel_rfl)
  tuple := fr X G s 63 (by kernel_rfl)
  list := fr X G s 64 (by kernel_rfl)
  enumerate := fr X G s 65 (by kernel_rfl)
  most_rows := He.int_ok X G (s.t.d.fact (f := .int "MOST_ROWS" 8) 71 (by kernel_rfl))
  most_wide := He.int_ok X G (s.t.d.fact (f := .int "MOST_WIDE" 8) 72 (by kernel_rfl))
  fit := He.int_ok X G (s.t.d.fact (f := .int "FIT" 0) 73 (by kernel_rfl))
  figures := He.str_ok X G (s.t.d.fact (f := .str "FIGURES" "01234567") 74 (by kernel_rfl))
  half := He.str_ok X G (s.t.d.fact (f := .str "HALF" "h") 75 (by kernel_rfl))
  first := ⟨_, gl X G s 51 (by kernel_rfl), fun S => first_ok (ex_at s.e 36)⟩
  prg := ⟨clsP s, He.noat_ok (x := "Program") (f := "written") (s.t.d.fact (f := .noat "Program" "written") 77 (by kernel_rfl)), He.noat_ok (x := "Program") (f := "steps") (s.t.d.fact (f := .noat "Program" "steps") 78 (by kernel_rfl))⟩
  prgI := prgI_of s.e (clsP s)
  program := gl X G s 47 (by kernel_rfl)
  quant := by
    obtain ⟨es, n, d⟩ := s.t.tab 0 (t := (fun K => He.ga K "QUANTITIES", ["n", "2n", "3n", "4n", "fit"])) (by rfl)
    exact ⟨_, es, n, gl X G s 49 (by kernel_rfl), d, quant_of s.e⟩
  subj := by
    obtain ⟨es, n, d⟩ := s.t.tab 1 (t := (fun K => He.ga K "SUBJECTS", ["less", "c less", "v less"])) (by rfl)
    exact ⟨_, es, n, gl X G s 50 (by kernel_rfl), d, fO (ex_at s.e 42), fO (ex_at s.e 43), fO (ex_at s.e 44), strB_ok (ex_at s.e 45), strB_ok (ex_at s.e 46), strB_ok (ex_at s.e 47)⟩
theorem exC_of (e : ex K = true) : ExcC K (gN K) := ⟨fO (ex_at e 17), fO (ex_at e 18), of_decide_eq_true (ex_at e 2), ex_at e 19, fO (ex_at e 20), fO (ex_at e 21), of_decide_eq_true (ex_at e 22), of_decide_eq_true (ex_at e 23)⟩
theorem exF_of (e : ex K = true) : XfC K (gN K) := ⟨fO (ex_at e 17), fO (ex_at e 18), of_decide_eq_true (ex_at e 2), ex_at e 19⟩
theorem exO_of (e : ex K = true) : OexC K (gN K) := ⟨numCls_ok (ex_at e 0), fO (ex_at e 1), of_decide_eq_true (ex_at e 2), of_decide_eq_true (ex_at e 3), ex_at e 4⟩
theorem exi_of (X : K.In h) (G : h.Ns mainGlobals mg) (s : HS w h0 K) : ExI PP K mg (gN K) (gE K) := ⟨exO_of s.e, along_ok (ex_at s.e 5), fO (ex_at s.e 6), of_decide_eq_true (ex_at s.e 7), of_decide_eq_true (ex_at s.e 8), of_decide_eq_true (ex_at s.e 9), fO (ex_at s.e 10), fO (ex_at s.e 11), fr X G s 70 (by kernel_rfl), by decide +kernel, numFn_of s.fE (ex_at s.e 12)⟩
theorem err_of (X : K.In h) (G : h.Ns mainGlobals mg) (s : HS w h0 K) : ErrT mg K (gN K) := ⟨fun q hq => ⟨_, PySem.W.mg_of X G (err_at s.e q hq).1, (err_at s.e q hq).2⟩, exC_of s.e, exF_of s.e, fO (ex_at s.e 11), fr X G s 67 (by kernel_rfl), fr X G s 68 (by kernel_rfl), fr X G s 69 (by kernel_rfl), of_decide_eq_true (ex_at s.e 14), of_decide_eq_true (ex_at s.e 15), of_decide_eq_true (ex_at s.e 16)⟩
theorem num_of (X : K.In h) (G : h.Ns mainGlobals mg) (s : HS w h0 K) : ∃ (C fE a1 a2 a3 : Addr), ExI PP K mg C fE ∧ mg "InvalidNumber" = some (.ref C) ∧ ErrT mg K C ∧ mg "WrongValue" = some (.ref a1) ∧ mg "WrongName" = some (.ref a2) ∧ mg "NoAnswer" = some (.ref a3) ∧ PySem.W.exmAny K (.ref C) [.ref a1, .ref a2, .ref a3] = some true :=
  ⟨gN K, gE K, He.ga K "WrongValue", He.ga K "WrongName", He.ga K "NoAnswer", exi_of X G s, PySem.W.mg_of X G (err_at s.e ("InvalidNumber", true) (by decide +kernel)).1, err_of X G s, PySem.W.mg_of X G (err_at s.e ("WrongValue", true) (by decide +kernel)).1, PySem.W.mg_of X G (err_at s.e ("WrongName", false) (by decide +kernel)).1, PySem.W.mg_of X G (err_at s.e ("NoAnswer", false) (by decide +kernel)).1, of_decide_eq_true (ex_at s.e 24)⟩
theorem prg_of (s : HS w h0 K) : ∃ (fI g fl pm : Addr) (fdI fdR fdL : FuncData) (mc : Value), Mk K (prgC K) fI ∧ Fun K "__init__" "Program.__init__" s_prg_init fI fdI ∧ Fun K "read" "Program.read" s_prg_read g fdR ∧ Fun K "__len__" "Program.__len__" s_prg_len fl fdL ∧
    ClX.CRead K (prgC K) mc ∧ ClX.CMet K (prgC K) mc "read" pm g ∧ PySem.W.findIn K (.ref (prgC K)) "__len__" = some (some (.ref fl)) ∧ PySem.W.isFn K (.ref fl) = true := by
  obtain ⟨fdI, FI⟩ := s.t.d.def_ (d := mkM "__init__" "Program.__init__" s_prg_init) 47 (by kernel_rfl)
  obtain ⟨fdL, FL⟩ := s.t.d.def_ (d := mkM "__len__" "Program.__len__" s_prg_len) 48 (by kernel_rfl)
  obtain ⟨fdR, FR⟩ := funA_of (st := s_prg_read) s.fR (ex_at s.e 33) (ex_at s.e 32)
  exact ⟨_, gR K, _, gM K, fdI, fdR, fdL, .type "type", He.mkr_ok (x := "Program") (s.t.d.fact (f := .mkr "Program") 79 (by kernel_rfl)), fun_of FI, FR, fun_of FL, ⟨ex_at s.e 27, fO (ex_at s.e 28)⟩, ⟨met_ok (ex_at s.e 29), rec_ok (ex_at s.e 30), ex_at s.e 31⟩, fO (ex_at s.e 34), ex_at s.e 35⟩
theorem clss_of (X : K.In h) (G : h.Ns mainGlobals mg) (s : HS w h0 K) : Clss PP K mg := ⟨prg_of s, num_of X G s⟩
end
end Dr
set_option maxHeartbeats 4000000
/-! F37: the walk of law from the head's end. -/
namespace Dr
open PySem PySem.Spec PyProof.Rows L2 LamX
section
variable {w : World} {h h0 : Heap} {K : PySem.W.Frag} {mg : Str → Option Value}
theorem noList {a : Addr} {d : Data} (e : ex K = true) (X : K.In h) (ha : h.get? a = some { cls := .type "list", data := d }) : K.lookup a = none := by
  cases q : K.lookup a with
  | none => rfl
  | some o =>
    have z : (o.cls != .type "list") = true := List.all_eq_true.mp (ex_at e 48) (a, o) (He.lookup_mem q)
    have e2 := X a o q
    rw [ha] at e2
    rw [← Option.some.inj e2] at z
    exact absurd z (by simp)
theorem right_of (X : K.In h) (G : h.Ns mainGlobals mg) (s : HS w h0 K) {base : Heap} (T : TabB base mg (He.cT K hTd).1 (He.cT K hTd).2) : ∃ (f : Addr) (oc : Value) (od : Option Addr) (kV doc pm : Value) (an : Option Addr) (cc : Addr) (ct : Value) (osl : Array (Option Value)), K.lookup f = some ⟨oc, od, .func (PySem.W.fnOf "_law_right" "_law_right" (defArgs s_law_right) (defBody s_law_right) (defScope s_law_right) .none kV doc pm an (.ref cc) ct), osl⟩ ∧
      PySem.W.codeIn K (.ref cc) "_law_right" = true ∧ mg "_law_right" = some (.ref f) ∧ PySem.W.keepIn K (.ref f) = true ∧ TabB base mg cc (He.cT K hTd).2 := by
  obtain ⟨fd, F⟩ := s.t.d.def_ (d := mkD "_law_right" s_law_right) 45 (by kernel_rfl)
  obtain ⟨⟨oc, od, kV, doc, pm, an, cdv, ct, osl, e, lk, hc⟩, kp⟩ := (fun_of F : Fun K "_law_right" "_law_right" s_law_right (He.ga K "_law_right") fd)
  obtain ⟨c, rfl⟩ := He.codeIn_ref hc
  subst e
  have e2 : He.codeOf K hTd = c := He.codeOf_eq (p := hTd) lk rfl
  refine ⟨_, oc, od, kV, doc, pm, an, c, ct, osl, lk, hc, gl X G s 45 (by kernel_rfl), kp, ?_⟩
  have e3 : (He.cT K hTd).1 = c := e2
  rw [e3] at T
  exact T
end
theorem law_most : PySem.Challenge.rw_drawnbelow_k21_whole_odds_of_tests.most = some 63 := by rfl
theorem walk {loose : List Str} {XP : (Str → Option Value) → Heap → Prop} {q : Program} {d : DefRec} (hn : d.name = "law") (hdf : d.params.defaults = []) : PySem.W.WalkO q loose XP hook.says hR.toRowW d [] (fun f vs => PySem.call f vs) := by
  refine Att.attach_callB law_most hdf fun w s₀ s₁ mg mb fa o pm cd doc a vs ns G Y ho hd hcd hmg hobj hints hlen hbits hg => ?_
  obtain ⟨K, X, s⟩ := Y
  rw [hn] at hmg
  have hfa : fa = He.ga K "law" := by
    have z := gl (x := "law") X G.T.g s 46 (by kernel_rfl)
    rw [hmg] at z
    exact Value.ref.inj (Option.some.inj z)
  subst hfa
  obtain ⟨fd, F⟩ := s.t.d.def_ (d := mkD "law" s_law) 46 (by kernel_rfl)
  obtain ⟨⟨oc, od, kV, doc2, pm2, an, cdv, ct, osl, e, lk, hc⟩, kp⟩ := (fun_of F : Fun K "law" "law" s_law (He.ga K "law") fd)
  subst e
  refine law_end (P := PP) X G.T.g G.T.b G.T.builtins G.T.nolimit hg s.z s.o (PySem.W.codeHd_of_K X s.c) G.T.bmain hobj hints (Nat.le_trans hlen (by decide)) (noList s.e X hobj) fun base KB NB TB e0 ap => ?_
  exact law_at lk hc hlen (lawT_of (tx_of KB NB s) (funs_of KB NB s) (clss_of KB NB s) (right_of KB NB s TB)) e0 ap
end Dr
set_option maxHeartbeats 0
/-! F38: the claim. -/
namespace Dr
open PySem PySem.W PySem.Calls PyProof.Rows HandSHeadRun
theorem join4 {α β γ δ ε ζ : Type} {o : Option α} {f : α → β} {g : α → γ} {k : α → δ} {l : α → ε × ζ} {b : β} {c : γ} {d : δ} {e : ε} {z : ζ} (h1 : o.map (fun s => (f s, g s)) = some (b, c)) (h2 : o.map k = some d) (h3 : o.map l = some (e, z)) : o.map (fun s => (f s, g s, ((k s, (l s).1), (l s).2))) = some (b, c, ((d, e), z)) := by
  cases o with
  | none => cases h1
  | some s =>
    have e1 := Prod.mk.inj (Option.some.inj h1)
    have e2 : k s = d := Option.some.inj h2
    have e3 : l s = (e, z) := Option.some.inj h3
    show some (f s, g s, ((k s, (l s).1), (l s).2)) = some (b, c, ((d, e), z))
    rw [e1.1, e1.2, e2, e3]
theorem run (w : World) : RunEq hR (PySem.W.view hR.prog [81]) hook hOb 8000 hLo w :=
  byRow2 "special-get-raises" (P := fun w => RunEq hR (PySem.W.view hR.prog [81]) hook hOb 8000 hLo w) (fun w os => by
    have z := join4 (run_pf w os) (run_Af w os) (run_Bf w os)
    exact z) (fun w os => by
    have z := join4 (run_pt w os) (run_At w os) (run_Bt w os)
    exact z) w
end Dr
open PySem PySem.W PySem.Calls PyProof.Rows
theorem PySem.Challenge.cw_drawnbelow_k21_whole_odds_of_tests_holds : PySem.Challenge.rw_drawnbelow_k21_whole_odds_of_tests.Holds := by
  w_on; o_law
  refine HandSHeadRun.head_any (r := OpenLaw.row PySem.Challenge.rw_drawnbelow_k21_whole_odds_of_tests) (q := PySem.W.view Dr.hR.prog [81]) (H := Dr.hook) (ob := Dr.hOb) (M := 8000) (loose := Dr.hLo) (kwd := []) (fun s => Dr.hOb_eq s) (by kernel_rfl) (fun s => by kernel_rfl) Dr.run (by rfl) (by rfl) (by rfl) (by rfl) (by first | assumption | decide +kernel) (by decide +kernel) ⟨rfl, rfl, rfl, rfl, rfl, by decide +kernel⟩ ?hw ?hc
  case hw => w_witness2
  case hc => exact Dr.walk rfl rfl
