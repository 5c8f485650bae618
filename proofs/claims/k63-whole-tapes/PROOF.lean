import PyProof.Rows.All
import Wide.All
import OpenK.AllK
import Wide.FinOn
import PyProof.EqAt
import PyProof.EqKinds
import PyProof.TupleCall
import PyProof.RulesMatch
import HandS.Base
import HandS.Call
import HandS.List
import HandS.Comp
import HandS.Dict
import HandS.Iter
import HandS.Text
import HandS.More
import HandS.Exc
import HandS.TryOnly
import HandS.ExcOwn
import HandS.Ends
import HandS.Words
import HandS.WordsList
import HandS.WordsDict
import HandS.WordsExc
import HandS.Defaults
import HandS.Slots
import HandS.Star
import HandS.IterVal
import HandS.Property
import HandS.ClsMeth
import HandS.Codes
import HandS.OwnEq
import HandS.DictEq
import HandS.DictComp
import KE.KExcMake
import KE.KExcSuper
import HandS.HeadNt
import HandS.Wide
import HandS.WideBits
import HandS.WideMore
import HandS.Walk
import HandS.SetKeys
import HandS.MakeKw
import HandS.MakeKwOnly
import HandS.IsInst
import HandS.Style
import HandS.Finally
import HandS.Evl
import HandS.Steps
import PySem.Challenge.RW_tapeeffect_k63_whole_tapes_by_themselves
import KE.KStateDown
import HandS.Head0
import HandS.Head1
import HandS.Head2
import HandS.HeadEnd
import HandS.EndBits
set_option Elab.async false
set_option linter.all false
set_option maxRecDepth 100000
section
set_option autoImplicit false
namespace TXE
open PySem PySem.W PySem.Calls PyProof.Rows
abbrev iA (f : Str) (p1 p2 : Pos) : Arguments := { posonlyargs := [], args := [{ arg := "self", annotation := none, pos := p1 }, { arg := f, annotation := none, pos := p2 }], vararg := none, kwonlyargs := [], kw_defaults := [], kwarg := none, defaults := [] }
abbrev iB (f msg : Str) (j : Nat) (a0 a1 a2 a3 a4 a5 q1 q2 q3 q4 : Pos) : List Stmt :=
  [.Expr (.Call (.Attribute (.Call (.Name "super" a0) [] [] a1) "__init__" a2) [.Constant (.str msg) j a3] [] a4) a5, .Assign [.Attribute (.Name "self" q1) f q2] (.Name f q3) q4]
abbrev iS (f : Str) : Scope := { kind := .function, names := [(PySem.Str.ofString "self", .local), (f, .local), (PySem.Str.ofString "__class__", .free), (PySem.Str.ofString "super", .globalImplicit)], isGenerator := false, isCoroutine := false, more := [] }
end TXE
end
section
set_option autoImplicit false
set_option maxHeartbeats 4000000
namespace TX
open PySem PySem.Spec PyProof.Rows L2 He
def top (i : Nat) : Stmt := PySem.Challenge.pw_tapeeffect_k63_whole_tapes_by_themselves.main.body.getD i (.Pass ⟨0, 0, 0, 0⟩)
def inCls (st : Stmt) (i : Nat) : Stmt := match st with
  | .ClassDef _ _ _ body _ _ _ _ _ _ _ => body.getD i (.Pass ⟨0, 0, 0, 0⟩)
  | _ => .Pass ⟨0, 0, 0, 0⟩
abbrev s14 : Stmt := top 14
def d14 : He5.DefA := ⟨fun K => ga K "is_letter", "is_letter", "is_letter", defArgs s14, defBody s14, defScope s14, [], []⟩
abbrev s15 : Stmt := top 15
def d15 : He5.DefA := ⟨fun K => ga K "is_integer", "is_integer", "is_integer", defArgs s15, defBody s15, defScope s15, [], []⟩
abbrev s16 : Stmt := top 16
def d16 : He5.DefA := ⟨fun K => ga K "check_integer", "check_integer", "check_integer", defArgs s16, defBody s16, defScope s16, [], []⟩
abbrev s17 : Stmt := top 17
def d17 : He5.DefA := ⟨fun K => ga K "is_step", "is_step", "is_step", defArgs s17, defBody s17, defScope s17, [], []⟩
abbrev s18 : Stmt := top 18
def d18 : He5.DefA := ⟨fun K => ga K "check_steps", "check_steps", "check_steps", defArgs s18, defBody s18, defScope s18, [], []⟩
abbrev s19 : Stmt := top 19
def d19 : He5.DefA := ⟨fun K => ga K "move_of", "move_of", "move_of", defArgs s19, defBody s19, defScope s19, [], []⟩
abbrev s21 : Stmt := top 21
def d21 : He5.DefA := ⟨fun K => ga K "is_letter_dict", "is_letter_dict", "is_letter_dict", defArgs s21, defBody s21, defScope s21, [], []⟩
abbrev s24 : Stmt := top 24
def d24 : He5.DefA := ⟨fun K => ga K "by_offset", "by_offset", "by_offset", defArgs s24, defBody s24, defScope s24, [], []⟩
abbrev s25 : Stmt := top 25
def d25 : He5.DefA := ⟨fun K => ga K "is_normal", "is_normal", "is_normal", defArgs s25, defBody s25, defScope s25, [], []⟩
abbrev s28 : Stmt := top 28
def d28 : He5.DefA := ⟨fun K => ga K "effect_of", "effect_of", "effect_of", defArgs s28, defBody s28, defScope s28, [], []⟩
abbrev s29 : Stmt := top 29
def d29 : He5.DefA := ⟨fun K => ga K "compose", "compose", "compose", defArgs s29, defBody s29, defScope s29, [], []⟩
abbrev s31 : Stmt := top 31
def d31 : He5.DefA := ⟨fun K => ga K "is_place", "is_place", "is_place", defArgs s31, defBody s31, defScope s31, [], []⟩
abbrev s34 : Stmt := top 34
def d34 : He5.DefA := ⟨fun K => ga K "run", "run", "run", defArgs s34, defBody s34, defScope s34, [], [("head", .int 0)]⟩
abbrev s37 : Stmt := top 37
def d37 : He5.DefA := ⟨fun K => ga K "is_word", "is_word", "is_word", defArgs s37, defBody s37, defScope s37, [], []⟩
abbrev s38 : Stmt := top 38
def d38 : He5.DefA := ⟨fun K => ga K "is_named_step", "is_named_step", "is_named_step", defArgs s38, defBody s38, defScope s38, [], []⟩
abbrev s39 : Stmt := top 39
def d39 : He5.DefA := ⟨fun K => ga K "check_named", "check_named", "check_named", defArgs s39, defBody s39, defScope s39, [], []⟩
abbrev s40 : Stmt := top 40
def d40 : He5.DefA := ⟨fun K => ga K "steps_by_name", "steps_by_name", "steps_by_name", defArgs s40, defBody s40, defScope s40, [], []⟩
abbrev s41 : Stmt := top 41
def d41 : He5.DefA := ⟨fun K => ga K "without_identity", "without_identity", "without_identity", defArgs s41, defBody s41, defScope s41, [], []⟩
abbrev s42 : Stmt := top 42
def d42 : He5.DefA := ⟨fun K => ga K "joint_effect", "joint_effect", "joint_effect", defArgs s42, defBody s42, defScope s42, [], []⟩
abbrev s43 : Stmt := top 43
def d43 : He5.DefA := ⟨fun K => ga K "check_places", "check_places", "check_places", defArgs s43, defBody s43, defScope s43, [], []⟩
abbrev s44 : Stmt := top 44
def d44 : He5.DefA := ⟨fun K => ga K "run_joint", "run_joint", "run_joint", defArgs s44, defBody s44, defScope s44, [], []⟩
abbrev s45 : Stmt := top 45
def d45 : He5.DefA := ⟨fun K => ga K "compose_joint", "compose_joint", "compose_joint", defArgs s45, defBody s45, defScope s45, [], []⟩
abbrev s47 : Stmt := top 47
def d47 : He5.DefA := ⟨fun K => ga K "_law_stream", "_law_stream", "_law_stream", defArgs s47, defBody s47, defScope s47, [], []⟩
abbrev s48 : Stmt := top 48
def d48 : He5.DefA := ⟨fun K => ga K "_law_draw", "_law_draw", "_law_draw", defArgs s48, defBody s48, defScope s48, [], []⟩
abbrev s49 : Stmt := top 49
def d49 : He5.DefA := ⟨fun K => ga K "_law_alphabet", "_law_alphabet", "_law_alphabet", defArgs s49, defBody s49, defScope s49, [], []⟩
abbrev s50 : Stmt := top 50
def d50 : He5.DefA := ⟨fun K => ga K "_law_steps", "_law_steps", "_law_steps", defArgs s50, defBody s50, defScope s50, [], []⟩
abbrev s51 : Stmt := top 51
def d51 : He5.DefA := ⟨fun K => ga K "_law_spots", "_law_spots", "_law_spots", defArgs s51, defBody s51, defScope s51, [], []⟩
abbrev s53 : Stmt := top 53
def d53 : He5.DefA := ⟨fun K => ga K "_law_names", "_law_names", "_law_names", defArgs s53, defBody s53, defScope s53, [], []⟩
abbrev s54 : Stmt := top 54
def d54 : He5.DefA := ⟨fun K => ga K "_law_named", "_law_named", "_law_named", defArgs s54, defBody s54, defScope s54, [], []⟩
abbrev s55 : Stmt := top 55
def d55 : He5.DefA := ⟨fun K => ga K "_law_sorted", "_law_sorted", "_law_sorted", defArgs s55, defBody s55, defScope s55, [], []⟩
abbrev s56 : Stmt := top 56
def d56 : He5.DefA := ⟨fun K => ga K "_law_ran", "_law_ran", "_law_ran", defArgs s56, defBody s56, defScope s56, [], []⟩
abbrev s57 : Stmt := top 57
def d57 : He5.DefA := ⟨fun K => ga K "_law_alone", "_law_alone", "_law_alone", defArgs s57, defBody s57, defScope s57, [], []⟩
abbrev s58 : Stmt := top 58
def d58 : He5.DefA := ⟨fun K => ga K "_law_applied", "_law_applied", "_law_applied", defArgs s58, defBody s58, defScope s58, [], []⟩
abbrev s59 : Stmt := top 59
def d59 : He5.DefA := ⟨fun K => ga K "_law_runs_right", "_law_runs_right", "_law_runs_right", defArgs s59, defBody s59, defScope s59, [], []⟩
abbrev s60 : Stmt := top 60
def d60 : He5.DefA := ⟨fun K => ga K "law", "law", "law", defArgs s60, defBody s60, defScope s60, [], []⟩
abbrev s22_0 : Stmt := inCls (top 22) 0
def d22_0 : He5.DefA := ⟨fun K => ma K (ga K "Tape") "__init__", "__init__", "Tape.__init__", defArgs s22_0, defBody s22_0, defScope s22_0, [.str "a"], [("cells", .non)]⟩
abbrev s22_5 : Stmt := inCls (top 22) 5
def d22_5 : He5.DefA := ⟨fun K => ma K (ga K "Tape") "__eq__", "__eq__", "Tape.__eq__", defArgs s22_5, defBody s22_5, defScope s22_5, [], []⟩
abbrev s22_6 : Stmt := inCls (top 22) 6
def d22_6 : He5.DefA := ⟨fun K => ma K (ga K "Tape") "letter", "letter", "Tape.letter", defArgs s22_6, defBody s22_6, defScope s22_6, [], []⟩
abbrev s22_7 : Stmt := inCls (top 22) 7
def d22_7 : He5.DefA := ⟨fun K => ma K (ga K "Tape") "with_letters", "with_letters", "Tape.with_letters", defArgs s22_7, defBody s22_7, defScope s22_7, [], []⟩
abbrev s26_0 : Stmt := inCls (top 26) 0
def d26_0 : He5.DefA := ⟨fun K => ma K (ga K "Effect") "__init__", "__init__", "Effect.__init__", defArgs s26_0, defBody s26_0, defScope s26_0, [], []⟩
abbrev s26_1 : Stmt := inCls (top 26) 1
def d26_1 : He5.DefA := ⟨fun K => He5.wf K (ga K "Effect") "classmethod" "identity", "identity", "Effect.identity", defArgs s26_1, defBody s26_1, defScope s26_1, [], []⟩
abbrev s26_2 : Stmt := inCls (top 26) 2
def d26_2 : He5.DefA := ⟨fun K => He5.wf K (ga K "Effect") "property" "expected", "expected", "Effect.expected", defArgs s26_2, defBody s26_2, defScope s26_2, [], []⟩
abbrev s26_3 : Stmt := inCls (top 26) 3
def d26_3 : He5.DefA := ⟨fun K => He5.wf K (ga K "Effect") "property" "changed", "changed", "Effect.changed", defArgs s26_3, defBody s26_3, defScope s26_3, [], []⟩
abbrev s26_4 : Stmt := inCls (top 26) 4
def d26_4 : He5.DefA := ⟨fun K => He5.wf K (ga K "Effect") "property" "shift", "shift", "Effect.shift", defArgs s26_4, defBody s26_4, defScope s26_4, [], []⟩
abbrev s26_5 : Stmt := inCls (top 26) 5
def d26_5 : He5.DefA := ⟨fun K => ma K (ga K "Effect") "__eq__", "__eq__", "Effect.__eq__", defArgs s26_5, defBody s26_5, defScope s26_5, [], []⟩
abbrev s26_10 : Stmt := inCls (top 26) 10
def d26_10 : He5.DefA := ⟨fun K => ma K (ga K "Effect") "mismatch", "mismatch", "Effect.mismatch", defArgs s26_10, defBody s26_10, defScope s26_10, [], []⟩
abbrev s26_12 : Stmt := inCls (top 26) 12
def d26_12 : He5.DefA := ⟨fun K => ma K (ga K "Effect") "apply", "apply", "Effect.apply", defArgs s26_12, defBody s26_12, defScope s26_12, [], [("head", .int 0)]⟩
abbrev s27_0 : Stmt := inCls (top 27) 0
def d27_0 : He5.DefA := ⟨fun K => ma K (ga K "Builder") "__init__", "__init__", "Builder.__init__", defArgs s27_0, defBody s27_0, defScope s27_0, [], []⟩
abbrev s27_1 : Stmt := inCls (top 27) 1
def d27_1 : He5.DefA := ⟨fun K => ma K (ga K "Builder") "expect", "expect", "Builder.expect", defArgs s27_1, defBody s27_1, defScope s27_1, [], []⟩
abbrev s27_2 : Stmt := inCls (top 27) 2
def d27_2 : He5.DefA := ⟨fun K => ma K (ga K "Builder") "write", "write", "Builder.write", defArgs s27_2, defBody s27_2, defScope s27_2, [], []⟩
abbrev s27_3 : Stmt := inCls (top 27) 3
def d27_3 : He5.DefA := ⟨fun K => ma K (ga K "Builder") "add_step", "add_step", "Builder.add_step", defArgs s27_3, defBody s27_3, defScope s27_3, [], []⟩
abbrev s27_4 : Stmt := inCls (top 27) 4
def d27_4 : He5.DefA := ⟨fun K => ma K (ga K "Builder") "add_effect", "add_effect", "Builder.add_effect", defArgs s27_4, defBody s27_4, defScope s27_4, [], []⟩
abbrev s27_5 : Stmt := inCls (top 27) 5
def d27_5 : He5.DefA := ⟨fun K => ma K (ga K "Builder") "result", "result", "Builder.result", defArgs s27_5, defBody s27_5, defScope s27_5, [], []⟩
abbrev s33_0 : Stmt := inCls (top 33) 0
def d33_0 : He5.DefA := ⟨fun K => ma K (ga K "Run") "__init__", "__init__", "Run.__init__", defArgs s33_0, defBody s33_0, defScope s33_0, [], []⟩
abbrev s33_1 : Stmt := inCls (top 33) 1
def d33_1 : He5.DefA := ⟨fun K => ma K (ga K "Run") "letter", "letter", "Run.letter", defArgs s33_1, defBody s33_1, defScope s33_1, [], []⟩
abbrev s33_2 : Stmt := inCls (top 33) 2
def d33_2 : He5.DefA := ⟨fun K => ma K (ga K "Run") "perform", "perform", "Run.perform", defArgs s33_2, defBody s33_2, defScope s33_2, [], []⟩
abbrev s33_3 : Stmt := inCls (top 33) 3
def d33_3 : He5.DefA := ⟨fun K => ma K (ga K "Run") "perform_all", "perform_all", "Run.perform_all", defArgs s33_3, defBody s33_3, defScope s33_3, [], []⟩
abbrev s33_4 : Stmt := inCls (top 33) 4
def d33_4 : He5.DefA := ⟨fun K => ma K (ga K "Run") "place", "place", "Run.place", defArgs s33_4, defBody s33_4, defScope s33_4, [], []⟩
def fns1 : List He5.DefA := [d14, d15, d16, d17, d18, d19, d21, d24, d25, d28, d29, d31, d34, d37, d38, d39, d40, d41, d42, d43]
def fns2 : List He5.DefA := [d44, d45, d47, d48, d49, d50, d51, d53, d54, d55, d56, d57, d58, d59, d60, d22_0, d22_5, d22_6, d22_7, d26_0]
def fns3 : List He5.DefA := [d26_1, d26_2, d26_3, d26_4, d26_5, d26_10, d26_12, d27_0, d27_1, d27_2, d27_3, d27_4, d27_5, d33_0, d33_1, d33_2, d33_3, d33_4]
def fns : List He5.DefA := fns1 ++ (fns2 ++ fns3)
def glos1 : List PySem.Str := ["is_letter", "is_integer", "check_integer", "is_step", "check_steps", "move_of", "is_letter_dict", "by_offset", "is_normal", "effect_of", "compose", "is_place", "run", "is_word", "is_named_step", "check_named", "steps_by_name", "without_identity", "joint_effect", "check_places"]
def glos2 : List PySem.Str := ["run_joint", "compose_joint", "_law_stream", "_law_draw", "_law_alphabet", "_law_steps", "_law_spots", "_law_names", "_law_named", "_law_sorted", "_law_ran", "_law_alone", "_law_applied", "_law_runs_right", "law", "Tape", "Effect", "Builder", "Run", "StepFailed", "NotApplicable"]
def glos : List PySem.Str := glos1 ++ glos2
def frees : List PySem.Str := ["isinstance", "str", "len", "int", "bool", "list", "tuple", "dict", "enumerate", "all", "any", "sorted", "max", "min", "range", "super"]
def clss : List PySem.Str := ["Tape", "Effect", "Builder", "Run"]
def mets : List (PySem.Str × PySem.Str) := [("Tape", "letter"), ("Tape", "with_letters"), ("Effect", "mismatch"), ("Effect", "apply"), ("Builder", "expect"), ("Builder", "write"), ("Builder", "add_step"), ("Builder", "add_effect"), ("Builder", "result"), ("Run", "letter"), ("Run", "perform"), ("Run", "perform_all"), ("Run", "place")]
def noats : List (PySem.Str × PySem.Str) := [("Tape", "blank_letter"), ("Tape", "own_cells"), ("Effect", "needs"), ("Effect", "puts"), ("Effect", "move"), ("Builder", "needs"), ("Builder", "known"), ("Builder", "written"), ("Builder", "offset"), ("Builder", "failed"), ("Run", "own_tape"), ("Run", "position"), ("Run", "written")]
def eqcs : List PySem.Str := ["Tape", "Effect"]
def props : List PySem.Str := ["expected", "changed", "shift"]
abbrev abc : PySem.Str := "abcdefghijklmnopqrstuvwxyz"
end TX
end
section
set_option autoImplicit false
set_option maxHeartbeats 4000000
namespace TX
open PySem PySem.W PySem.Calls PyProof.Rows L2 He
abbrev ExD : Type := Option (PySem.Str × Arguments × FuncBody × Scope × Addr × List PySem.Str × Value × Value × Addr)
def exW (K : Frag) (f : Addr) : ExD := match K.lookup f with
  | some ⟨_, _, .func fd, _⟩ => some (fd.name, fd.params, fd.body, fd.scope, fd.globals, fd.closure.map (·.1), fd.defaults, fd.kwdefaults, fd.builtins)
  | _ => none
def cellB (K : Frag) (file : PySem.Str) (fI C : Addr) : Bool := match K.lookup fI with
  | some ⟨_, _, .func fd, _⟩ => (match fd.closure with
    | [(_, cc)] => (match K.lookup cc with
      | some ⟨_, _, .cell (some (.ref c)), _⟩ => decide (c = C)
      | _ => false)
    | _ => false) && (match fd.code with
    | .ref cda => codeIn K (.ref cda) fd.qualname && (match K.lookup cda with
      | some ⟨_, _, .fields vs, _⟩ => (match (vs[2]? : Option Value) with
        | some (Value.str fl _) => file == fl
        | _ => false)
      | _ => false)
    | _ => false)
  | _ => false
def expE (ar : Arguments) (bo : List Stmt) (sc : Scope) : ExD := some ("__init__", ar, .stmts bo, sc, mainGlobals, ["__class__"], .none, .none, builtinsNs)
def excB (K : Frag) (file x f : PySem.Str) (B newId initId : String) (bmB : List Value) : Bool :=
  excInitIn K (ga K x) bmB newId && (excOver K (ga K x) bmB && (decide (takerIn K (ga K x) f = some none) && (hasDictIn K (ga K x) && (eqO (findIn K (.ref (ga K x)) "__setattr__") (some (some (.builtin "object.__setattr__"))) &&
  (eqO (findIn K (.ref (ga K x)) "__init__") (some (some (.ref (ma K (ga K x) "__init__")))) && (decide (typeIn K (.ref (ma K (ga K x) "__init__")) = some (.type "function")) && (keepIn K (.ref (ga K x)) && (decide (subIn K (.ref (ga K x)) (.type "BaseException") = some true) &&
  (decide (subIn K (.ref (ga K x)) (.type B) = some true) && (decide (mroIn K (ga K x) (.ref (ga K x)) = some true) && (decide (typeIn K (.ref (ga K x)) = some (.type "type")) && (eqO (ks_superIn K (ga K x) (ga K x) "__init__") (some (some (.builtin initId))) &&
  (eqO (nsIn K cStatics "thirdparty.any") (some none) && (cellB K file (ma K (ga K x) "__init__") (ga K x) && decide (exmOne K (.ref (ga K x)) (.ref (ga K x)) = some true)))))))))))))))
def insB (K : Frag) (C : Addr) : Bool := eqO (findIn K (.ref C) "__class__") (some (some (.builtin "object.__class__"))) && (eqO (specialIn K (.builtin "object.__class__") "__get__") (some (some (.builtin "getset_descriptor.__get__"))) && (decide (takesIn K (.builtin "object.__class__") = some true) &&
  (decide (mroIn K C (.type "object") = some true) && (decide (kitOne K (.ref C) (.ref C) = some true) && (eqO (findIn K (.ref C) "__eq__") (some (some (.ref (ma K C "__eq__")))) && (isFn K (.ref (ma K C "__eq__")) && eqO (findIn K (.ref C) "__ne__") (some (some (.builtin "object.__ne__")))))))))
def propB (K : Frag) (C : Addr) (f : PySem.Str) : Bool := eqO (findIn K (.ref C) f) (some (some (.ref (ma K C f)))) && (eqO (specialIn K (.ref (ma K C f)) "__get__") (some (some (.builtin "property.__get__"))) && (decide (takesIn K (.ref (ma K C f)) = some true) && (match recIn K (ma K C f) "property" with
  | some (.ref _ :: _) => true
  | _ => false)))
def allB (K : Frag) (file : PySem.Str) : Bool :=
  (glos.all fun x => (Fa.glo x).ok K && keepIn K (.ref (ga K x))) && ((frees.all fun x => (Fa.free x).ok K) && ((clss.all fun x => (Fa.cls x).ok K && (Fa.mkr x).ok K) && ((mets.all fun p => (Fa.meth p.1 p.2).ok K) && ((noats.all fun p => (Fa.noat p.1 p.2).ok K) &&
  ((Fa.str "LETTERS" abc).ok K && ((Fa.int "MAX_LETTERS" 8).ok K && ((eqcs.all fun x => insB K (ga K x)) && ((props.all fun f => propB K (ga K "Effect") f) && (readsIn K (ga K "Effect") (.type "type") && (He5.wrapB K (ga K "Effect") "classmethod" "classmethod.__get__" "identity" && (fnIn K (He5.wf K (ga K "Effect") "classmethod" "identity") &&
  (excB K file "StepFailed" "index" "RuntimeError" "RuntimeError.__new__" "RuntimeError.__init__" [.type "RuntimeError", .type "Exception", .type "BaseException", .type "object"] && (excB K file "NotApplicable" "position" "LookupError" "LookupError.__new__" "LookupError.__init__" [.type "LookupError", .type "Exception", .type "BaseException", .type "object"] &&
  fns.all fun d => d.ok K)))))))))))))
def hdExpS : ExD := expE (TXE.iA "index" ⟨24, 17, 24, 21⟩ ⟨24, 23, 24, 28⟩) (TXE.iB "index" "a step failed" 0 ⟨25, 8, 25, 13⟩ ⟨25, 8, 25, 15⟩ ⟨25, 8, 25, 24⟩ ⟨25, 25, 25, 40⟩ ⟨25, 8, 25, 41⟩ ⟨25, 8, 25, 41⟩ ⟨26, 8, 26, 12⟩ ⟨26, 8, 26, 18⟩ ⟨26, 21, 26, 26⟩ ⟨26, 8, 26, 26⟩) (TXE.iS "index")
def hdExpN : ExD := expE (TXE.iA "position" ⟨34, 17, 34, 21⟩ ⟨34, 23, 34, 31⟩) (TXE.iB "position" "the effect does not apply" 0 ⟨35, 8, 35, 13⟩ ⟨35, 8, 35, 15⟩ ⟨35, 8, 35, 24⟩ ⟨35, 25, 35, 52⟩ ⟨35, 8, 35, 53⟩ ⟨35, 8, 35, 53⟩ ⟨36, 8, 36, 12⟩ ⟨36, 8, 36, 21⟩ ⟨36, 24, 36, 32⟩ ⟨36, 8, 36, 32⟩) (TXE.iS "position")
abbrev AlZ : Type := Bool × List He5.FnW × List ExD
def obsZ (file : PySem.Str) (K : Frag) : AlZ := (allB K file, fns.map fun d => He5.fnA K (d.at_ K), [exW K (ma K (ga K "StepFailed") "__init__"), exW K (ma K (ga K "NotApplicable") "__init__")])
def valZ : AlZ := (true, fns.map He5.DefA.val, [hdExpS, hdExpN])
def SaysZ (file : PySem.Str) (K : Frag) : Prop := obsZ file K = valZ
/-- what the names reach in n steps, each address once (a mask of bits tells which were seen: far less memory than by comparing), and the table of the statics -/
def newZ : List Addr → Nat → (List Addr → Nat → List Addr) → List Addr
  | [], s, k => k [] s
  | a :: r, s, k => match Nat.beq (Nat.land (Nat.shiftRight s a) 1) 0 with
    | false => newZ r s k
    | true => match Nat.lor s (Nat.shiftLeft 1 a) with
      | 0 => k [] 0
      | Nat.succ m => newZ r (Nat.succ m) fun l s => k (a :: l) s
def bfsZ (g : Addr → Option Obj) : Nat → List Addr → Nat → List Addr
  | 0, f, _ => f
  | n + 1, f, s => f ++ newZ (f.flatMap fun a => match g a with
    | some o => He.refsD o
    | none => []) s fun l s => bfsZ g n l s
def asZ (g : Addr → Option Obj) (n : Nat) : List Addr := bfsZ g n [mainGlobals] (Nat.shiftLeft 1 mainGlobals) ++ [cStatics]
def obsZG (file : PySem.Str) (n : Nat) (g : Addr → Option Obj) : AlZ := obsZ file (frG g (asZ g n))
def hookZ (file : PySem.Str) (n : Nat) : PySem.W.Hook where
  α := AlZ
  obs := fun s => obsZG file n s.heap.get?
  val := fun _ => valZ
  says := fun _ h => ∃ K : Frag, K.In h ∧ SaysZ file K
  of := fun _ _ e => ⟨_, frG_in, e⟩
  keeps := fun _ _ _ ⟨K, hK, c⟩ k => ⟨K, Frag.In.keeps hK k, c⟩
theorem obsZG_eq {file : PySem.Str} {n : Nat} {g : Addr → Option Obj} {s : Shared} (h : ∀ a, g a = s.heap.get? a) : obsZG file n g = (hookZ file n).obs s := by
  have e : g = s.heap.get? := funext h
  rw [e] <;> rfl
end TX
end
section
set_option maxHeartbeats 0
/-! The head: the top by one kernel run, the facts; the end. -/
namespace TX
open PySem PySem.W PySem.Calls PyProof.Rows
abbrev hdR : OpenRow := OpenLaw.row PySem.Challenge.rw_tapeeffect_k63_whole_tapes_by_themselves
abbrev hdQ : Program := view hdR.prog [60]
def hdNa : List PySem.Str := ["_wall", "TapeError", "InvalidSteps", "InvalidLetter", "InvalidTape", "InvalidEffect", "InvalidNumber", "InvalidPlace", "StepFailed", "UnknownName", "NotApplicable", "LETTERS", "is_letter", "is_integer", "check_integer", "is_step", "check_steps", "move_of", "is_letter_dict", "Tape", "by_offset", "is_normal", "Effect", "Builder", "effect_of", "compose", "is_place", "Run", "run"]
def hdNb : List PySem.Str := ["MAX_LETTERS", "is_word", "is_named_step", "check_named", "steps_by_name", "without_identity", "joint_effect", "check_places", "run_joint", "compose_joint", "_law_stream", "_law_draw", "_law_alphabet", "_law_steps", "_law_spots", "_law_run", "_law_names", "_law_named", "_law_sorted", "_law_ran", "_law_alone", "_law_applied", "_law_runs_right"]
def hdNames : List PySem.Str := hdNa ++ hdNb
abbrev hdHk : PySem.W.Hook := hookZ hdR.prog.main.file 5
def hdOb (s : PySem.W.SharedT) : AlZ := obsZG hdR.prog.main.file 5 (HandSHeadRun.getT s)
theorem hdObEq (s : PySem.W.SharedT) : hdOb s = hdHk.obs s.abs := obsZG_eq (HandSHeadRun.getT_eq s)
theorem hdRun (w : World) : HandSHeadRun.RunEq hdR hdQ hdHk hdOb 8000 hdNames w := by
  intro os
  kernel_rfl
abbrev hdDef : DefRec := HandSHeadRun.topDef hdR.prog 60
theorem hdHead (call : WalkO hdQ hdNames (XL hdQ []) hdHk.says hdR.toRowW hdDef [] fun f vs => PySem.call f vs) : hdR.Holds := by
  refine HandSHeadRun.head_any (r := hdR) (q := hdQ) (H := hdHk) (ob := hdOb) (M := 8000) (loose := hdNames) (d := hdDef) (kwd := []) hdObEq
    (by kernel_rfl) (fun s => by kernel_rfl) hdRun (by kernel_rfl) (by kernel_rfl) (by kernel_rfl) (by rfl) (by first | assumption | decide +kernel) (by decide +kernel) ⟨rfl, rfl, rfl, rfl, rfl, by decide +kernel⟩ ?hw call
  case hw => w_witness2
end TX
end
section
set_option autoImplicit false
set_option maxHeartbeats 4000000
/-! The layer's words for this proof: defs, methods, classes by positional promises; match; calls of a local that holds a class. -/
namespace TX
open PySem PySem.Spec PyProof.Rows L2

/-- a def of the module, by its name -/
structure Dfn (P : Program) (w : World) (K : PySem.W.Frag) (mg : Str → Option Value) (base : Heap) (k : Nat) (x : Str) (sp : Sp) : Prop where
  ex : ∃ f, mg x = some (.ref f) ∧ PySem.W.keepIn K (.ref f) = true ∧ FnR P w K mg base (L2.CX P w) k f sp
/-- a method of the class at C -/
structure Mtd (P : Program) (w : World) (K : PySem.W.Frag) (mg : Str → Option Value) (base : Heap) (k : Nat) (C : Addr) (m : Str) (sp : Sp) : Prop where
  ex : ∃ f, Cls K C ∧ Meth K C m f ∧ FnR P w K mg base (L2.CX P w) k f sp
/-- a class that is made, sp its __init__ -/
structure Mkr (P : Program) (w : World) (K : PySem.W.Frag) (mg : Str → Option Value) (base : Heap) (k : Nat) (C : Addr) (sp : Sp) : Prop where
  ex : ∃ f, Mk K C f ∧ FnR P w K mg base (L2.CX P w) k f sp

def tD (sp : Sp) (E : XK) (t : TA) : TE := fun σ H Q => t σ H fun vs H1 => sp vs H1 Q E
def tM (C : Addr) (m : Str) (sp : Sp) (E : XK) (ta : TE) (t : TA) : TE := fun σ H Q => ta σ H fun x H1 => ∃ a dx fs, x = .ref a ∧ H1 a = some (.ins C dx fs) ∧ fs.lookup m = none ∧ t σ H1 fun vs H2 => sp (x :: vs) H2 Q E
def tMk (C : Addr) (sp : Sp) (E : XK) (t : TA) : TE := fun σ H Q => t σ H fun vs H1 => ∀ x dx, H1 x = none → H1 dx = none → dx ≠ x →
  sp (.ref x :: vs) (upd (upd H1 dx (.own x)) x (.ins C dx [])) (fun v H2 => v = .non ∧ Q (.ref x) H2) E

section
variable {X : Cx} {j k i : Nat} {C : Addr} {x m : Str} {sp : Sp} {E : XK} {p pos apos : Pos} {e o : Expr} {es : List Expr} {ta : TE} {t : TA}
theorem pe_dX (D : Dfn X.prog X.w X.K X.mg X.base k x sp) (hr : Room j X.A) (hk : k ≤ j) (hx : Passes (L2.CX X.prog X.w) X E) (hg : Gl X x) (ha : PA X (e :: es) t)
    (hdb : (x == ("__debug__" : Str)) = false := by decide) (he : starEach (e :: es) X.env = (false, eval e X.env) :: starEach es X.env := by rfl) (hpl : (backTo pos (starEach es X.env)).any (·.1) = false := by rfl) :
    PE X (.Call (.Name x p) (e :: es) [] pos) (tD sp E t) := by
  obtain ⟨f, hm, kp, F⟩ := D.ex
  refine ⟨fun pins s σ H Q I h => ?_⟩
  refine wpAny_Call_Name_kw (ld_glob I hg hm ?_ hdb)
  refine PySem.W.callWith_K (h₀ := X.base) I.ok.mod.kin kp (thn (ha.run pos pins s σ H _ I h) fun us s1 hh => ?_) he hpl
  obtain ⟨vs, H1, I1, r, q⟩ := hh
  exact ⟨I1.kIn, wpAny_call (run_fnR F (hr.mono hk) hx I1 r q)⟩
theorem pe_d (D : Dfn X.prog X.w X.K X.mg X.base k x sp) (hr : Room j X.A) (hk : k ≤ j) (hg : Gl X x) (ha : PA X (e :: es) t)
    (hdb : (x == ("__debug__" : Str)) = false := by decide) (he : starEach (e :: es) X.env = (false, eval e X.env) :: starEach es X.env := by rfl) (hpl : (backTo pos (starEach es X.env)).any (·.1) = false := by rfl) :
    PE X (.Call (.Name x p) (e :: es) [] pos) (tD sp E0 t) := pe_dX D hr hk passL hg ha hdb he hpl
theorem pe_m {pl : Sem Bool} (M : Mtd X.prog X.w X.K X.mg X.base k C m sp) (hr : Room j X.A) (hk : k ≤ j) (he : PE X o ta) (ha : PA X (e :: es) t)
    (hst : starEach (e :: es) X.env = (false, eval e X.env) :: starEach es X.env := by rfl) (hpl : (backTo pos (starEach es X.env)).any (·.1) = false := by rfl)
    (ht : eval (.Call (.Attribute o m apos) (e :: es) [] pos) X.env = (do
      let ov ← eval o X.env
      standAt apos.atName
      let (f, first) ← holding [ov] (getMethod ov m pl)
      callWith pos f first (backTo pos (starEach (e :: es) X.env)) (backToKw pos (keywordEach [] X.env))) := by rfl) :
    PE X (.Call (.Attribute o m apos) (e :: es) [] pos) (tM C m sp E0 ta t) := by
  obtain ⟨f, c, hm, F⟩ := M.ex
  refine ⟨fun pins s σ H Q I h => ?_⟩
  refine PySem.W.methodCall_KW (pl := pl) (thn (he.run pins s σ H _ I h) fun u s1 hh => ?_) ht
  obtain ⟨x, H1, I1, rx, a, dx, fs, ex, ea, l, q⟩ := hh
  subst ex
  obtain rfl : u = Value.ref a := rx
  refine getmeth_ok I1 ea c hm l ?_
  refine PySem.W.callWith_K (first := [.ref a]) (h₀ := X.base) I.ok.mod.kin hm.kp (thn (ha.run pos pins s1 σ H1 _ I1 q) fun us s2 hh => ?_) hst hpl
  obtain ⟨vs, H2, I2, r, q2⟩ := hh
  exact ⟨I2.kIn, wpAny_call (run_fnR (us := .ref a :: us) (vs := .ref a :: vs) F (hr.mono hk) passL I2 (.cons rfl r) q2)⟩
theorem pe_m0 {pl : Sem Bool} (M : Mtd X.prog X.w X.K X.mg X.base k C m sp) (hr : Room j X.A) (hk : k ≤ j) (he : PE X o ta)
    (ht : eval (.Call (.Attribute o m apos) [] [] pos) X.env = (do
      let ov ← eval o X.env
      standAt apos.atName
      let (f, first) ← holding [ov] (getMethod ov m pl)
      callWith pos f first (backTo pos (starEach [] X.env)) (backToKw pos (keywordEach [] X.env))) := by rfl) :
    PE X (.Call (.Attribute o m apos) [] [] pos) (tM C m sp E0 ta tNil) := by
  obtain ⟨f, c, hm, F⟩ := M.ex
  refine ⟨fun pins s σ H Q I h => ?_⟩
  refine PySem.W.methodCall_KW (pl := pl) (thn (he.run pins s σ H _ I h) fun u s1 hh => ?_) ht
  obtain ⟨x, H1, I1, rx, a, dx, fs, ex, ea, l, q⟩ := hh
  subst ex
  obtain rfl : u = Value.ref a := rx
  refine getmeth_ok I1 ea c hm l ?_
  exact PySem.W.callWith_K0 (first := [.ref a]) I1.kIn hm.kp (wpAny_call (run_fnR (us := [.ref a]) (vs := [.ref a]) F (hr.mono hk) passL I1 (.cons rfl .nil) q))
theorem pe_k (M : Mkr X.prog X.w X.K X.mg X.base k C sp) (hr : Room j X.A) (hk : k + 1 ≤ j) (hm : X.mg x = some (.ref C)) (hg : Gl X x) (ha : PA X (e :: es) t)
    (hdb : (x == ("__debug__" : Str)) = false := by decide) (he : starEach (e :: es) X.env = (false, eval e X.env) :: starEach es X.env := by rfl) (hpl : (backTo pos (starEach es X.env)).any (·.1) = false := by rfl) :
    PE X (.Call (.Name x p) (e :: es) [] pos) (tMk C sp E0 t) := by
  obtain ⟨f, Mf, F⟩ := M.ex
  refine ⟨fun pins s σ H Q I h => ?_⟩
  refine wpAny_Call_Name_kw (ld_glob I hg hm ?_ hdb)
  refine PySem.W.callWith_K (h₀ := X.base) I.ok.mod.kin Mf.kp (thn (ha.run pos pins s σ H _ I h) fun us s1 hh => ?_) he hpl
  obtain ⟨vs, H1, I1, r, q⟩ := hh
  exact ⟨I1.kIn, StX.run_makeR Mf F (hr.mono hk) passL I1 r q⟩
theorem pe_k0 (M : Mkr X.prog X.w X.K X.mg X.base k C sp) (hr : Room j X.A) (hk : k + 1 ≤ j) (hm : X.mg x = some (.ref C)) (hg : Gl X x)
    (hdb : (x == ("__debug__" : Str)) = false := by decide) : PE X (.Call (.Name x p) [] [] pos) (tMk C sp E0 tNil) := by
  obtain ⟨f, Mf, F⟩ := M.ex
  refine ⟨fun pins s σ H Q I h => ?_⟩
  refine wpAny_Call_Name_kw (ld_glob I hg hm ?_ hdb)
  exact PySem.W.callWith_K0 I.kIn Mf.kp (StX.run_makeR (us := []) (vs := []) Mf F (hr.mono hk) passL I .nil h)
/-- a local name that holds the class at C, called -/
def tMkV (i : Nat) (C : Addr) (sp : Sp) (E : XK) (t : TA) : TE := fun σ H Q => σ[i]? = some (some (.ref C)) ∧ tMk C sp E t σ H Q
theorem pe_kV (i : Nat) (M : Mkr X.prog X.w X.K X.mg X.base k C sp) (hr : Room j X.A) (hk : k + 1 ≤ j) (hN : X.N[i]? = some x) (hv : Vis X.env.scope x) (ha : PA X (e :: es) t)
    (hd : (x == ("__debug__" : Str)) = false := by decide) (hcd : (x == ("__classdict__" : Str)) = false := by decide)
    (he : starEach (e :: es) X.env = (false, eval e X.env) :: starEach es X.env := by rfl) (hpl : (backTo pos (starEach es X.env)).any (·.1) = false := by rfl) :
    PE X (.Call (.Name x p) (e :: es) [] pos) (tMkV i C sp E0 t) := by
  obtain ⟨f, Mf, F⟩ := M.ex
  refine ⟨fun pins s σ H Q I h => ?_⟩
  obtain ⟨hs, h⟩ := h
  refine wpAny_Call_Name_kw (thn ((pe_var (pos := p) (i := i) hN hv hd hcd).run pins s σ H (fun v H1 => v = .ref C ∧ H1 = H) I ⟨.ref C, hs, rfl, rfl⟩) fun u s1 hh => ?_)
  obtain ⟨v, H1, I1, r1, ev, eH⟩ := hh
  subst ev
  rw [eH] at I1
  cases r1
  refine PySem.W.callWith_K (h₀ := X.base) I.ok.mod.kin Mf.kp (thn (ha.run pos pins s1 σ H _ I1 h) fun us s2 hh => ?_) he hpl
  obtain ⟨vs, H2, I2, r, q⟩ := hh
  exact ⟨I2.kIn, StX.run_makeR Mf F (hr.mono hk) passL I2 r q⟩
end

/-! ### match: written texts, then a wildcard -/
section
variable {X : Cx} {subj : Expr} {ts : TE} {pos : Pos}
/-- the cases of a match, by the subject's value -/
structure PMs (X : Cx) (cs : List MatchCase) (t : V → TS) : Prop where
  run : ∀ (first : Bool) (pins : List (Addr × Obj)) (s : Shared) (σ : L2.St) (H : Hp) (D : Ends) (v : V) (u : Value), Inv X pins σ H s → RelV v u → t v D σ H → wpAny (model X.prog X.w) X.A (matchCases cs X.env u first) (SP X pins D) X.xe s
/-- case 'x': body -/
def tCase (x : Str) (t : TS) (r : V → TS) : V → TS := fun v D σ H => ∃ z, v = .str z ∧ if z = x then t D σ H else r v D σ H
theorem pm_str {x : Str} {j : Nat} {p1 p2 : Pos} {body : List Stmt} {rest : List MatchCase} {t : TS} {r : V → TS} (hb : PSs X body t) (hr : PMs X rest r) :
    PMs X (⟨.MatchValue (.Constant (.str x) j p1) p2, none, body⟩ :: rest) (tCase x t r) := by
  refine ⟨fun first pins s σ H D v u I rv h => ?_⟩
  obtain ⟨z, rfl, h⟩ := h
  obtain ⟨tk, rfl⟩ := rv
  refine wpAny_matchCases_cons (wpAny_matchPattern_Value (Calls.Constant_str ?_))
  have I1 : Inv X pins σ H { s with toks := s.toks + 1 } := I.tok _
  refine PyProof.Rows.eq_str ?_
  have e : (z == x) = decide (z = x) := by
    by_cases q : z = x
    · subst q
      rw [decide_eq_true rfl, beq_self_eq_true]
    · rw [decide_eq_false q]
      exact beq_eq_false_iff_ne.mpr q
  refine wpAny_truthy_bool ?_
  first
    | rw [e]
    | skip
  by_cases q : z = x
  · rw [if_pos q] at h
    rw [decide_eq_true q]
    exact wpAny_assignInOrder_none (hb.run pins _ σ H D I1 h)
  · rw [if_neg q] at h
    rw [decide_eq_false q]
    exact hr.run false pins _ σ H D (.str z) _ I1 ⟨tk, rfl⟩ h
theorem pm_any {p1 : Pos} {body : List Stmt} {rest : List MatchCase} {t : TS} (hb : PSs X body t) : PMs X (⟨.MatchAs none none p1, none, body⟩ :: rest) (fun _ => t) := by
  refine ⟨fun first pins s σ H D v u I rv h => ?_⟩
  refine wpAny_matchCases_cons (wpAny_matchPattern_Capture ?_)
  exact wpAny_assignInOrder_none (hb.run pins s σ H D I h)
def tMatch (ts : TE) (t : V → TS) : TS := fun D σ H => ts σ H fun v H1 => t v D σ H1
theorem ps_match {cs : List MatchCase} {t : V → TS} (hs : PE X subj ts) (hc : PMs X cs t) : PS X (.Match subj cs pos) (tMatch ts t) := by
  refine ⟨fun pins s σ H D I h => ?_⟩
  refine wpAny_Match (thn (hs.run pins s σ H _ I h) fun u s1 hh => ?_)
  obtain ⟨v, H1, I1, rv, q⟩ := hh
  exact hc.run true pins s1 σ H1 D v u I1 rv q
end
end TX
end
section
set_option autoImplicit false
set_option maxHeartbeats 4000000
/-! {**a, **b} of two dicts. -/
namespace TX
open PySem PySem.Spec PyProof.Rows L2
section
variable {prog : Program} {w : World} {A : Around} {E : Value → Shared → Prop} {s : Shared}
theorem put_pairs {d : Addr} {kvs : List (Key × Value)} {k : Key} {key v : Value} {Q : Unit → Shared → Prop} (hkey : (mixKind prog w).is k key = true) (hm : s.heap.DictOf (mixKind prog w) d kvs)
    (hQ : ∀ h', h'.DictOf (mixKind prog w) d (stored kvs k v) → Heap.SameBut d s.heap h' → Q () { s with heap := h' }) (hsz : kvs.length ≤ sizeLine) :
    wpAny (model prog w) A (dictPut d ((mixKind prog w).hash k) key v) Q E s := by
  obtain ⟨o, es, ep, ho, hc, hd, hk, hp, hn⟩ := hm
  have hes : es.size ≤ sizeLine := by
    have e1 := hp.length
    have e2 : es.toList.length = es.size := by simp
    omega
  unfold dictPut
  refine wpAny_bind (wpAny_dictFind_of hkey ho hd hk ?_)
  have hidx : (es.findIdx? fun e => (mixKind prog w).is k e.key) = kvs.findIdx? fun kv => decide (kv.1 = k) := by
    rw [← hp.findIdx k]
    obtain ⟨l⟩ := es
    simp
  cases hi : es.findIdx? fun e => (mixKind prog w).is k e.key with
  | some i =>
    refine wpAny_updateDict ho hd (hQ _ ⟨_, _, ep, Heap.get?_update_self _ ho (Obj.isFreed_of_dict (Obj.data_mapDict hd _)), hc.mapDict _, Obj.data_mapDict hd _, hk.modify _ _, ?_, ?_⟩ (Heap.SameBut.update ..))
    · rw [stored, if_pos (any_of_findIdx_some (hidx ▸ hi))]
      have hl : (es.toList.findIdx? fun e => (mixKind prog w).is k e.key) = some i := by
        rw [← hi]
        obtain ⟨l⟩ := es
        simp
      have := hp.modify hn hl v
      obtain ⟨l⟩ := es
      simpa using this
    · rw [stored, if_pos (any_of_findIdx_some (hidx ▸ hi)), keys_map_store]
      exact hn
  | none =>
    have hnot : k ∉ kvs.map (·.1) := not_mem_of_findIdx_none (hidx ▸ hi)
    have hany : ¬ (kvs.any fun kv => decide (kv.1 = k)) = true := by
      rw [List.any_eq_true]
      rintro ⟨kv, hkv, he⟩
      exact hnot (List.mem_map.mpr ⟨kv, hkv, of_decide_eq_true he⟩)
    refine wpAny_updateDictKeys (hz := hes) ho hd (hQ _ ⟨_, _, ep + 1, Heap.get?_update_self _ ho (Obj.isFreed_of_dict (Obj.data_mapDictKeys hd _)), hc.mapDictKeys _, Obj.data_mapDictKeys hd _, hk.push hkey _, ?_, ?_⟩ (Heap.SameBut.update ..))
    · rw [stored, if_neg hany]
      have := hp.append hkey ((mixKind prog w).hash k) v
      obtain ⟨l⟩ := es
      simpa using this
    · rw [stored, if_neg hany, List.map_append, List.nodup_append]
      refine ⟨hn, by simp, ?_⟩
      intro a ha b hb
      simp only [List.map_cons, List.map_nil, List.mem_singleton] at hb
      subst hb
      exact fun e => hnot (e ▸ ha)

/-- the keys of such a dict are no objects -/
theorem key_flat {k : Key} {v : Value} (h : (mixKind prog w).is k v = true) : ∀ a, v ≠ .ref a := by
  intro a e
  rcases keyIs_shape (k := k) (v := v) h with ⟨i, t, _, e2⟩ | ⟨x, t, _, e2⟩
  · rw [e] at e2
    cases e2
  · rw [e] at e2
    cases e2

theorem merge_dicts {d o : Addr} {kvs more : List (Key × Value)} {Q : Unit → Shared → Prop} (hdo : d ≠ o) (hoS : (o == sysModules) = false)
    (hd : s.heap.DictOf (mixKind prog w) d kvs) (ho : s.heap.DictOf (mixKind prog w) o more)
    (hQ : ∀ h', h'.DictOf (mixKind prog w) d (merged kvs more) → Heap.SameBut d s.heap h' → Q () { s with heap := h' })
    (hsz : kvs.length + more.length ≤ sizeLine) :
    wpAny (model prog w) A (mergeMapping d (.ref o) false) Q E s := by
  obtain ⟨od, esd, epd, hod, hcd, hdd, hkd, hpd, hnd⟩ := id hd
  obtain ⟨oo, eso, epo, hoo, hco, hdo', hko, hpo, hno⟩ := id ho
  have hlen : more.length = eso.size := by rw [← hpo.length]; simp
  have loop : ∀ (s : Shared), s.heap.DictOf (mixKind prog w) d kvs → s.heap.get? o = some oo → (∀ h', h'.DictOf (mixKind prog w) d (merged kvs more) → Heap.SameBut d s.heap h' → Q () { s with heap := h' }) → wpAny (model prog w) A (do
      let __do_lift ← dictEntries o
      let epoch ← dictEpoch o
      forIn (List.range __do_lift.size) PUnit.unit fun i (_ : PUnit) => (do
          let __do_lift ← dictEntries o
          match __do_lift[i]? with
            | some e => do
              holding [e.key, e.val] (dictPut d e.hash e.key e.val)
              let __do_lift ← dictEpoch o
              if (__do_lift != epoch) = true then do
                  (unsupported "dict.changed-during-merge" : Sem PUnit)
                  pure (ForInStep.yield PUnit.unit)
                else pure (ForInStep.yield PUnit.unit)
            | x => do
              (unsupported "dict.changed-during-merge" : Sem PUnit)
              pure (ForInStep.yield PUnit.unit) : Sem (ForInStep PUnit))
      pure ()) Q E s := by
    intro s hd hoo hQ
    refine wpAny_bind (wpAny_dictEntries hoo hdo' ?_)
    refine wpAny_bind (wpAny_dictEpoch hoo hdo' ?_)
    refine wpAny_bind ?_
    rw [List.range_eq_range']
    refine wpAny_forIn_list _
      (fun rest _ s' => ∃ h' i, s' = { s with heap := h' } ∧ rest = List.range' i (eso.size - i) ∧ i ≤ eso.size ∧ h'.DictOf (mixKind prog w) d (merged kvs (more.take i)) ∧ h'.get? o = some oo ∧ Heap.SameBut d s.heap h')
      _ ?_ ?_ _ _ ⟨s.heap, 0, rfl, by simp, Nat.zero_le _, by simpa [merged] using hd, hoo, Heap.SameBut.refl _ _⟩
    · rintro x rest b s' ⟨h', i, rfl, hr, hi, hd', hoo', hs'⟩
      have hlt : i < eso.size := by
        rcases Nat.lt_or_ge i eso.size with h | h
        · exact h
        · rw [Nat.sub_eq_zero_of_le h] at hr
          simp at hr
      obtain ⟨rfl, hrest⟩ : x = i ∧ rest = List.range' (i + 1) (eso.size - (i + 1)) := by
        have e : eso.size - i = (eso.size - (i + 1)) + 1 := by omega
        rw [e, List.range'_succ] at hr
        injection hr with h1 h2
        exact ⟨h1, h2⟩
      refine wpAny_bind (wpAny_dictEntries hoo' hdo' ?_)
      rw [Array.getElem?_eq_getElem hlt]
      obtain ⟨kv, hkv⟩ : ∃ kv, more[x]? = some kv := ⟨more[x]'(by rw [hlen]; exact hlt), List.getElem?_eq_getElem _⟩
      obtain ⟨k, v⟩ := kv
      obtain ⟨hkey, hval⟩ := hpo.get? (e := eso[x]) (by simp [hlt]) hkv
      obtain ⟨k', hkey', hhash⟩ := hko eso[x] (Array.getElem_mem hlt)
      obtain rfl : k' = k := (mixKind prog w).inj _ _ _ hkey' hkey
      show wpAny _ _ (holding [eso[x].key, eso[x].val] (dictPut d eso[x].hash eso[x].key eso[x].val) >>= _) _ _ _
      rw [hhash, hval]
      have hmx : (merged kvs (more.take x)).length ≤ sizeLine := by
        have e1 := merged_length_le kvs (more.take x)
        have e2 : (more.take x).length ≤ more.length := by rw [List.length_take]; omega
        omega
      refine wpAny_bind (wpAny_holding (put_pairs hkey hd' (fun h'' hd'' hs'' => ?_) hmx))
      have hoo'' : h''.get? o = some oo := (hs''.2 o (Ne.symm hdo)).trans hoo'
      refine wpAny_bind (wpAny_dictEpoch hoo'' hdo' ?_)
      rw [if_neg (by simp)]
      exact wpAny_pure ⟨h'', x + 1, rfl, hrest, hlt, by rw [merged_take_succ kvs more x (k', v) hkv]; exact hd'', hoo'', hs'.trans hs''⟩
    · rintro b s' ⟨h', i, rfl, hr, hi, hd', hoo', hs'⟩
      have hin : i = eso.size := by
        rcases Nat.lt_or_ge i eso.size with h | h
        · have e : eso.size - i = (eso.size - (i + 1)) + 1 := by omega
          rw [e, List.range'_succ] at hr
          exact nomatch hr
        · exact Nat.le_antisymm hi h
      refine wpAny_pure (hQ h' ?_ hs')
      rw [hin, ← hlen, List.take_length] at hd'
      exact hd'
  unfold mergeMapping
  with_reducible refine wpAny_bind (wpAny_isInstance ho.typeIs isSubtype_dict_dict ?_)
  dsimp only
  rw [if_pos rfl]
  with_reducible refine wpAny_bind (wpAny_specialOf ho.typeIs F.slot_dict_iter.lookup ?_)
  with_reducible refine wpAny_bind (wpAny_pure ?_)
  simp only [beq_self_eq_true]
  rw [if_neg (by rw [hoS]; exact Bool.false_ne_true)]
  simp only [Bool.false_eq_true, if_false]
  with_reducible refine wpAny_bind (wpAny_dictEntries hod hdd ?_)
  split
  · with_reducible refine wpAny_bind (wpAny_dictEntries hoo hdo' ?_)
    refine wpAny_bind (MeetsSeq2.wpAny_forIn_array _ (fun rest _ s' => s' = s ∧ ∀ e ∈ rest, e ∈ eso) _ ?_ ?_ _ _ ⟨rfl, fun e he => by simpa using he⟩)
    · rintro x rest b s' ⟨rfl, hm⟩
      obtain ⟨k', hkey', _⟩ := hko x (hm x List.mem_cons_self)
      have nr := key_flat hkey'
      split
      · rename_i a' e'
        exact absurd e' (nr a')
      · exact wpAny_pure ⟨rfl, fun e he => hm e (List.mem_cons_of_mem _ he)⟩
    · rintro b s' ⟨rfl, _⟩
      exact loop s' hd hoo hQ
  · exact loop s hd hoo hQ
end
/-- **y, y a tracked dict, into the dict at p -/
theorem merge_ok {X : Cx} {pins : List (Addr × Obj)} {σ : L2.St} {H : Hp} {s : Shared} {p a : Addr} {kvs more : List (Key × V)} {A : Around} {E : Value → Shared → Prop} {Q : Unit → Shared → Prop} (I : Inv X pins σ H s) (hp : H p = some (.dK kvs)) (ha : Rd H a (.dK more)) (hne : a ≠ p)
    (hz : kvs.length + more.length ≤ sizeLine) (h : ∀ s', Inv X pins σ (upd H p (.dK (mergeK kvs more))) s' → Q () s') : wpAny (model X.prog X.w) A (mergeMapping p (.ref a) false) Q E s := by
  obtain ⟨z1, hd1, vs1, r1, dd1⟩ := dk_of I.hok hp
  obtain ⟨z2, hd2, vs2, r2, dd2⟩ := dk_rd I.hok ha
  refine merge_dicts (Ne.symm hne) hd2 dd1 dd2 (fun h' dd' hs => h _ ?_) (by rw [← r1.length, ← r2.length]; exact hz)
  have hl : (mergeK kvs more).length ≤ sizeLine := Nat.le_trans (length_mergeK more kvs) hz
  have he : ∃ q, h'.get? p = some q := by
    obtain ⟨q, _, _, hq, _⟩ := dd'
    exact ⟨q, hq⟩
  exact d_write (t' := s.toks) I (by rw [hp]; exact True.intro) hs he (dk_new hl hd1 (r2.merge r1) dd')
/-- {**a, **b}: a new dict -/
def tMerge (ta tb : TE) : TE := fun σ H Q => ∀ p, H p = none → ta σ (upd H p (.dK [])) fun x H1 => ∃ a kvs, x = .ref a ∧ H1 p = some (.dK []) ∧ Rd H1 a (.dK kvs) ∧ a ≠ p ∧ kvs.length ≤ 1000 ∧
  tb σ (upd H1 p (.dK (mergeK [] kvs))) fun y H2 => ∃ b more, y = .ref b ∧ H2 p = some (.dK (mergeK [] kvs)) ∧ Rd H2 b (.dK more) ∧ b ≠ p ∧ more.length ≤ 1000 ∧ Q (.ref p) (upd H2 p (.dK (mergeK (mergeK [] kvs) more)))
theorem pe_merge {X : Cx} {a b : Expr} {ta tb : TE} {pos : Pos} (ha : PE X a ta) (hb : PE X b tb)
    (hsh : (evalEachOpt [none, none] X.env).zip ((evalEach [a, b] X.env).map fun v => do let x ← v; standAt pos; pure x) = [(none, do let x ← eval a X.env; standAt pos; pure x), (none, do let x ← eval b X.env; standAt pos; pure x)] := by rfl) :
    PE X (.Dict [none, none] [a, b] pos) (tMerge ta tb) := by
  refine ⟨fun pins s σ H Q I h => ?_⟩
  have hn := I.hok.fresh (Nat.le_refl s.heap.objs.size)
  have I1 := I.laid (a := s.heap.objs.size) (o := .dK []) (h' := s.heap.push { cls := .type "dict", data := .dict #[] }) (t' := s.toks) (fun _ _ q => Heap.get?_push_of_some _ q) (Nat.le_refl _) (dk_empty s.heap I.big)
  rw [arm_eval_Dict, hsh]
  refine wpAny_bind (wpAny_standAt ?_)
  unfold dictDisplay
  dsimp only
  rw [List.forIn_cons]
  simp only [List.isEmpty_nil, if_true, pure_bind, bind_assoc]
  refine wpAny_bind (wpAny_alloc ?_)
  refine wpAny_bind (wpAny_holding (wpAny_bind (thn (ha.run pins _ σ _ _ I1 (h _ hn)) fun u s1 hh => wpAny_bind (wpAny_standAt (wpAny_pure ?_)))))
  obtain ⟨x, H1, I2, rx, a1, kvs, ex, hp1, hr1, ne1, z1, q1⟩ := hh
  subst ex
  obtain rfl : u = Value.ref a1 := rx
  refine wpAny_bind (wpAny_onRaise (wpAny_tryCatch (wpAny_onRaise (wpAny_holding (merge_ok I2 hp1 hr1 ne1 (by have : sizeLine = 16777216 := sizeLine_eq; simp only [List.length_nil]; omega) fun s2 I3 => ?_)))))
  rw [List.forIn_cons]
  simp only [List.isEmpty_nil, if_true, pure_bind, bind_assoc]
  refine wpAny_bind (wpAny_holding (wpAny_bind (thn (hb.run pins _ σ _ _ I3 q1) fun u s3 hh => wpAny_bind (wpAny_standAt (wpAny_pure ?_)))))
  obtain ⟨y, H2, I4, ry, b1, more, ey, hp2, hr2, ne2, z2, q2⟩ := hh
  subst ey
  obtain rfl : u = Value.ref b1 := ry
  have hm : (mergeK [] kvs).length ≤ 1000 := by
    have := length_mergeK kvs []
    simp only [List.length_nil] at this
    omega
  refine wpAny_bind (wpAny_onRaise (wpAny_tryCatch (wpAny_onRaise (wpAny_holding (merge_ok I4 hp2 hr2 ne2 (by have : sizeLine = 16777216 := sizeLine_eq; omega) fun s4 I5 => ?_)))))
  rw [List.forIn_nil]
  simp only [List.isEmpty_nil, if_true, pure_bind, bind_assoc]
  exact wpAny_pure ⟨.ref s.heap.objs.size, _, I5, rfl, q2⟩
end TX
end
section
set_option autoImplicit false
set_option maxHeartbeats 4000000
/-! != of lists, tuples, dicts that are equal by an own __eq__; != of two instances; == of dicts of flat values. -/
namespace TX
open PySem PySem.Spec PyProof.Rows L2 PySem.SeqAt GQ
open AutoSeq1 (wpAny_loadPart')
open MeetsSeq MeetsSeq2 MeetsSeq3 SeqRoads2
section
variable {prog : Program} {w : World} {A : Around} {R : Result → Shared → Prop}
theorem ne_loopG (l b : Addr) (N : Nat) (I : Nat → Shared → Prop) (hl : ListI prog w A (fun e s' => R (.error e) s') l b N I)
    (fin : ∀ s, I N s → R (.ok (.ret (.bool false))) s) (k : Nat) :
    ∀ i : Nat, N - i = k → i ≤ N → ∀ s, I i s →
      wpAny (model prog w) A.in1 (Builtin.«list.__eq__.loop» ⟨[.ref l, .ref b, rawInt i, rawInt 3], []⟩) (FinOf prog w A R) (fun e s' => R (.error e) s') s := by
  induction k with
  | zero =>
    intro i hk hi s h
    obtain ⟨items, items2, n, n2, hl1, hb1, hs1, hs2, _⟩ := hl _ _ h
    have hi' : i = N := by omega
    have hR : R (.ok (.ret (.bool false))) s := fin s (hi' ▸ h)
    obtain ⟨hp, g, d, tk, os⟩ := s
    wp_walk using wpAny_loadPart' hl1, wpAny_loadPart' hb1
    have hi1 : items[((i : Nat) : Int).toNat]? = none := by simp; omega
    have hi2 : items2[((i : Nat) : Int).toNat]? = none := by simp; omega
    rw [hi1, hi2]
    wp_walk using wpAny_loadPart' hl1, wpAny_loadPart' hb1
    show R (.ok (.ret (.bool (items.size != items2.size)))) _
    rw [hs1, hs2]
    simpa using hR
  | succ k ih =>
    intro i hk hi s h
    obtain ⟨items, items2, n, n2, hl1, hb1, hs1, hs2, turn⟩ := hl _ _ h
    have hlt : i < items.size := by omega
    have hlt2 : i < items2.size := by omega
    have ht := turn hlt hlt2
    obtain ⟨hp, g, d, tk, os⟩ := s
    wp_walk using wpAny_loadPart' hl1, wpAny_loadPart' hb1
    have hi1 : items[((i : Nat) : Int).toNat]? = some items[i] := by simp [hlt]
    have hi2 : items2[((i : Nat) : Int).toNat]? = some items2[i] := by simp [hlt2]
    have hc : ((i : Int) + 1) = ((i + 1 : Nat) : Int) := by omega
    rw [hi1, hi2]
    refine wpAny_bind (wpAny_mono ht (fun r s2 h2 => ?_) fun _ _ x => x)
    obtain ⟨hr, h2⟩ := h2
    subst hr
    have hrec := ih (i + 1) (by omega) (by omega) s2 h2
    obtain ⟨hp2, g2, d2, tk2, os2⟩ := s2
    wp_walk
    rw [hc]
    exact ⟨plainId_quiet plain_eq_loop _, codeAny_builtin entry_eq_loop (by
      rw [Around.under_plainId plain_eq_loop _]
      exact hrec)⟩
theorem list_neG (l b : Addr) (N : Nat) (I : Nat → Shared → Prop) (hl : ListI prog w A (fun e s' => R (.error e) s') l b N I)
    (fin : ∀ s, I N s → R (.ok (.ret (.bool false))) s) {s : Shared} (h : I 0 s) :
    wpAny (model prog w) A.in1 (Builtin.«list.__ne__» ⟨[.ref l, .ref b], []⟩) (FinOf prog w A R) (fun e s' => R (.error e) s') s := by
  obtain ⟨items, items2, n, n2, hl1, hb1, hs1, hs2, _⟩ := hl _ _ h
  have hrec := ne_loopG (A := A) (R := R) l b N I hl fin _ 0 rfl (Nat.zero_le _) s h
  obtain ⟨hp, g, d, tk, os⟩ := s
  have f3 := AutoSeq1.sub_list_list
  have hne : ¬ (items.size != items2.size) = true := by simp [hs1, hs2]
  wp_walk using wpAny_loadPart' hl1, wpAny_loadPart' hb1
  exact ⟨plainId_quiet plain_eq_loop _, codeAny_builtin entry_eq_loop (by
    rw [Around.under_plainId plain_eq_loop _]
    exact hrec)⟩
theorem tuple_neG (l b : Addr) (items items2 : Array Value) (n n2 : Nat) (dd dd2 : Option Addr) (sl sl2 : Array (Option Value)) (hsz : items.size = items2.size) (I : Nat → Shared → Prop)
    (turn : ∀ i (h1 : i < items.size) (h2 : i < items2.size) s, I i s → wpAny (model prog w) A.in1 (eqBool items[i] items2[i]) (fun r s' => r = true ∧ I (i + 1) s') (fun e s' => R (.error e) s') s)
    (fin : ∀ s, I items.size s → R (.ok (.ret (.bool false))) s) {s : Shared} (hl1 : s.heap.get? l = some { cls := .type "tuple", dict := dd, data := .seq items n, slots := sl }) (hb1 : s.heap.get? b = some { cls := .type "tuple", dict := dd2, data := .seq items2 n2, slots := sl2 }) (h : I 0 s) :
    wpAny (model prog w) A.in1 (Builtin.«tuple.__ne__» ⟨[.ref l, .ref b], []⟩) (FinOf prog w A R) (fun e s' => R (.error e) s') s := by
  have f2 := AutoSeq1.sub_tuple_tuple
  have hZ : (items.toList.zip items2.toList).length = items.size := by simp [hsz]
  have h0 := h
  obtain ⟨hp, g, d, tk, os⟩ := s
  wp_walk using wpAny_loadPart' hl1, wpAny_loadPart' hb1, wpAny_forIn_list _ (fun rest b s' => b.1 = none ∧ ∃ i, rest = (items.toList.zip items2.toList).drop i ∧ i ≤ items.size ∧ I i s') _
  case turn =>
    rintro ⟨y, x⟩ rest b s' ⟨hb', i, hz, hi, hI⟩
    have hlt : i < (items.toList.zip items2.toList).length := by
      rcases Nat.lt_or_ge i (items.toList.zip items2.toList).length with h' | h'
      · exact h'
      · rw [List.drop_of_length_le h'] at hz; cases hz
    have h1 : i < items.size := hZ ▸ hlt
    have h2 : i < items2.size := hsz ▸ h1
    rw [List.drop_eq_getElem_cons hlt] at hz
    injection hz with hyx hrest
    have hy : y = items[i] := by have := congrArg Prod.fst hyx; simpa using this
    have hx : x = items2[i] := by have := congrArg Prod.snd hyx; simpa using this
    subst hy hx
    refine wpAny_bind (wpAny_mono (turn i h1 h2 s' hI) (fun r s2 q2 => ?_) fun _ _ x => x)
    obtain ⟨hr, q2⟩ := q2
    subst hr
    wp_walk
    exact ⟨rfl, i + 1, hrest, h1, q2⟩
  case fin =>
    rintro ⟨b1, b2⟩ s' ⟨hb', i, hz, hi, hI⟩
    simp only at hb'
    subst hb'
    have hge : items.size ≤ i := by
      rcases Nat.lt_or_ge i (items.toList.zip items2.toList).length with h' | h'
      · rw [List.drop_eq_getElem_cons h'] at hz; cases hz
      · exact hZ ▸ h'
    have hi' : i = items.size := by omega
    have hR : R (.ok (.ret (.bool false))) s' := fin s' (hi' ▸ hI)
    wp_walk
    simpa [Builtin.Tuple.tupleCompareSizes, hsz] using hR
  case h =>
    exact ⟨rfl, 0, rfl, Nat.zero_le _, h0⟩
end
section
variable {prog : Program} {w : World} {A : Around} {E : Value → Shared → Prop} {s : Shared}
theorem rcn_listG {l b : Addr} {N : Nat} {Q : Value → Shared → Prop} (hu : A.units < cLine) (I : Nat → Shared → Prop) (hl : ListI prog w A E l b N I)
    (fin : ∀ s, I N s → Q (.bool false) s) (h : I 0 s) : wpAny (model prog w) A (richCompare .NotEq (.ref l) (.ref b)) Q E s := by
  obtain ⟨items, items2, n, n2, hl1, hb1, _, _, _⟩ := hl _ _ h
  refine wpAny_richCompare_same_room (op := .NotEq) ⟨_, hl1, rfl⟩ ⟨_, hb1, rfl⟩ F.slot_list_ne (call_here F.slot_list_ne ⟨_, hl1, rfl⟩ F.entry_list_ne (F.args_list_ne_2 _ _) ?_) hu
  exact list_neG (R := wants (fun v s' => v ≠ .notImplemented ∧ Q v s') E) l b N I hl (fun s' q => ⟨(fun x => nomatch x), fin s' q⟩) h
theorem rcn_tupG {l b : Addr} {items items2 : Array Value} {Q : Value → Shared → Prop} (hsz : items.size = items2.size) (hu : A.units < cLine) (I : Nat → Shared → Prop)
    (hl : s.heap.IsTuple l items) (hb : s.heap.IsTuple b items2)
    (turn : ∀ i (h1 : i < items.size) (h2 : i < items2.size) s, I i s → wpAny (model prog w) A.in1 (eqBool items[i] items2[i]) (fun r s' => r = true ∧ I (i + 1) s') E s)
    (fin : ∀ s, I items.size s → Q (.bool false) s) (h : I 0 s) : wpAny (model prog w) A (richCompare .NotEq (.ref l) (.ref b)) Q E s := by
  obtain ⟨⟨cls, dd, data, sl⟩, ho, hc, n, hd⟩ := id hl
  obtain ⟨⟨cls2, dd2, data2, sl2⟩, ho2, hc2, n2, hd2⟩ := id hb
  simp only at hc hd hc2 hd2
  subst hc hd hc2 hd2
  refine wpAny_richCompare_same_room (op := .NotEq) ⟨_, ho, rfl⟩ ⟨_, ho2, rfl⟩ F.slot_tuple_ne (call_here F.slot_tuple_ne ⟨_, ho, rfl⟩ F.entry_tuple_ne (F.args_tuple_ne_2 _ _) ?_) hu
  exact tuple_neG (R := wants (fun v s' => v ≠ .notImplemented ∧ Q v s') E) l b items items2 n n2 dd dd2 sl sl2 hsz I turn (fun s' q => ⟨(fun x => nomatch x), fin s' q⟩) ho ho2 h
end
end TX
namespace TX
open PySem PySem.Spec PyProof.Rows L2
section
variable {prog : Program} {w : World} {A : Around} {E : Value → Shared → Prop} {s : Shared}
theorem samePairsG {K : Type} [DecidableEq K] {knd : KeyKind prog w K} {nm : String} {a b : Addr} {oa ob : Obj} {ka kb : List (K × Value)} {Q : Bool → Shared → Prop} (I : Nat → Shared → Prop)
    (ha : (a == sysModules) = false) (hb : (b == sysModules) = false) (da : oa.IsDictOf knd ka) (db : ob.IsDictOf knd kb) (hlen : ka.length = kb.length)
    (keep : ∀ i s, I i s → s.heap.get? a = some oa ∧ s.heap.get? b = some ob)
    (turn : ∀ i k v, ka[i]? = some (k, v) → ∃ y, valueAt kb k = some y ∧ ∀ s, I i s → wpAny (model prog w) A (eqBool v y) (fun r s' => r = true ∧ I (i + 1) s') E s)
    (h0 : I 0 s) (h : ∀ s', I ka.length s' → Q true s') : wpAny (model prog w) A (Builtin.Dict.samePairs nm a b) Q E s := by
  obtain ⟨es, ep, _, hda, hka, hpa, _⟩ := da
  obtain ⟨es', ep', _, hdb, hkb, hpb, _⟩ := db
  have hla : ka.length = es.size := by rw [← hpa.length]; exact Array.length_toList
  have hlb : kb.length = es'.size := by rw [← hpb.length]; exact Array.length_toList
  have hfind : ∀ k, findBy knd.is es' k = valueAt kb k := fun k => by
    rw [← hpb.find k]
    clear hlb hpb hkb hdb turn
    obtain ⟨l⟩ := es'
    simp [findBy]
  have hsz : es.size = es'.size := by rw [← hla, ← hlb]; exact hlen
  obtain ⟨hoa, hob⟩ := keep 0 s h0
  unfold Builtin.Dict.samePairs Builtin.Dict.showsAll
  rw [if_neg (show ¬ (a == sysModules) = true by rw [ha]; exact Bool.false_ne_true), if_neg (show ¬ (b == sysModules) = true by rw [hb]; exact Bool.false_ne_true)]
  refine wpAny_bind (wpAny_pure (wpAny_bind (wpAny_pure ?_)))
  refine wpAny_bind (wpAny_dictEntries hoa hda ?_)
  dsimp only
  refine wpAny_bind (wpAny_dictEntries hob hdb ?_)
  rw [if_neg (by rw [hsz]; simp)]
  refine wpAny_bind (wpAny_dictEpoch hoa hda ?_)
  refine wpAny_bind ?_
  rw [Std.Legacy.Range.forIn_eq_forIn_range']
  simp only [Std.Legacy.Range.size, Nat.sub_zero, Nat.add_sub_cancel, Nat.div_one]
  refine wpAny_forIn_list _
    (fun rest q s' => q = (none, ()) ∧ ∃ i, rest = List.range' i (es.size - i) ∧ i ≤ es.size ∧ I i s')
    _ ?_ ?_ _ _ ⟨rfl, 0, by simp, Nat.zero_le _, h0⟩
  · rintro x rest q s' ⟨rfl, i, hr, hi, hI⟩
    have hlt : i < es.size := by
      rcases Nat.lt_or_ge i es.size with h | h
      · exact h
      · rw [Nat.sub_eq_zero_of_le h] at hr; simp at hr
    obtain ⟨rfl, hrest⟩ : x = i ∧ rest = List.range' (i + 1) (es.size - (i + 1)) := by
      have e : es.size - i = (es.size - (i + 1)) + 1 := by omega
      rw [e, List.range'_succ] at hr
      injection hr with h1 h2
      exact ⟨h1, h2⟩
    obtain ⟨hoa, hob⟩ := keep x s' hI
    refine wpAny_bind (wpAny_dictEntries hoa hda ?_)
    rw [Array.getElem?_eq_getElem hlt]
    have hlt' : x < ka.length := by rw [hla]; exact hlt
    obtain ⟨k, v, hkv⟩ : ∃ k v, ka[x] = (k, v) := ⟨_, _, rfl⟩
    have hkx : ka[x]? = some (k, v) := by rw [List.getElem?_eq_getElem hlt', hkv]
    obtain ⟨hkey, hval⟩ := hpa.get? (i := x) (e := es[x]) (k := k) (v := v) (by rw [Array.getElem?_toList]; exact Array.getElem?_eq_getElem hlt) hkx
    obtain ⟨k', hk', hh⟩ := hka es[x] (Array.getElem_mem hlt)
    have ekk : k' = k := knd.inj _ _ _ hk' hkey
    rw [ekk] at hh
    obtain ⟨y, hy, ht⟩ := turn x k v hkx
    show wpAny _ _ (holding [es[x].key, es[x].val] _ >>= _) _ _ _
    rw [hh]
    refine wpAny_bind (wpAny_holding (wpAny_bind (wpAny_dictFind_of hkey hob hdb hkb ?_)))
    cases hj : es'.findIdx? fun e => knd.is k e.key with
    | none =>
      have hn : valueAt kb k = none := by rw [← hfind k, findBy_of_findIdx?, hj]
      rw [hn] at hy; exact nomatch hy
    | some j =>
      obtain ⟨hjlt, _, _⟩ := Array.findIdx?_eq_some_iff_getElem.mp hj
      have hv' : valueAt kb k = some es'[j].val := by
        rw [← hfind k, findBy_of_findIdx?, hj]
        simp [Array.getElem?_eq_getElem hjlt]
      refine wpAny_bind (wpAny_dictEntries hob hdb ?_)
      rw [Array.getElem?_eq_getElem hjlt]
      have ey : es'[j].val = y := Option.some.inj (hv'.symm.trans hy)
      have he := ht s' hI
      rw [← ey, ← hval] at he
      refine wpAny_holding (wpAny_mono he (fun r s2 q2 => ?_) fun _ _ x => x)
      obtain ⟨hr2, hI2⟩ := q2
      subst hr2
      obtain ⟨hoa2, hob2⟩ := keep (x + 1) s2 hI2
      show wpAny _ _ (if (!true) = true then _ else _) _ _ _
      rw [if_neg (by decide)]
      refine wpAny_bind (wpAny_dictEpoch hoa2 hda ?_)
      rw [if_neg (by simp)]
      exact wpAny_pure ⟨rfl, x + 1, hrest, hlt, hI2⟩
  · rintro q s' ⟨rfl, i, hr, hi, hI⟩
    have hin : i = es.size := by
      rcases Nat.lt_or_ge i es.size with h | h
      · have e : es.size - i = (es.size - (i + 1)) + 1 := by omega
        rw [e, List.range'_succ] at hr; exact nomatch hr
      · exact Nat.le_antisymm hi h
    refine wpAny_pure ?_
    have hin' : i = ka.length := by rw [hla]; exact hin
    rw [hin'] at hI
    exact h s' hI
theorem rcG_dictsE {K : Type} [DecidableEq K] {knd : KeyKind prog w K} {a b : Addr} {oa ob : Obj} {ka kb : List (K × Value)} {Q : Value → Shared → Prop} (I : Nat → Shared → Prop)
    (ha : (a == sysModules) = false) (hb : (b == sysModules) = false) (da : oa.IsDictOf knd ka) (db : ob.IsDictOf knd kb) (hlen : ka.length = kb.length) (hu : A.units < cLine)
    (keep : ∀ i s, I i s → s.heap.get? a = some oa ∧ s.heap.get? b = some ob)
    (turn : ∀ i k v, ka[i]? = some (k, v) → ∃ y, valueAt kb k = some y ∧ ∀ s, I i s → wpAny (model prog w) A.in1 (eqBool v y) (fun r s' => r = true ∧ I (i + 1) s') E s)
    (h0 : I 0 s) (h : ∀ s', I ka.length s' → Q (.bool false) s') : wpAny (model prog w) A (richCompare .NotEq (.ref a) (.ref b)) Q E s := by
  obtain ⟨hoa, hob⟩ := keep 0 s h0
  have Da : s.heap.DictOf knd a ka := Heap.dictOf_iff.mpr ⟨oa, hoa, da⟩
  have Db : s.heap.DictOf knd b kb := Heap.dictOf_iff.mpr ⟨ob, hob, db⟩
  refine wpAny_richCompare_same_room (op := .NotEq) Da.typeIs Db.typeIs PySem.F.slot_dict_ne (wpAny_call_entry PySem.F.slot_dict_ne Da.typeIs PySem.F.entry_dict_ne ?_ (PySem.F.args_dict_ne_2 _ _)) hu
  show wpAny _ _ (Builtin.Dict.dictSlotArgs "__ne__" ⟨[.ref a, .ref b], []⟩ >>= _) _ _ s
  refine wpAny_bind ?_
  unfold Builtin.Dict.dictSlotArgs
  refine wpAny_bind (wpAny_notOrdered_dict Da.typeIs ?_)
  show wpAny _ _ (pure (Value.ref a, Value.ref b)) _ _ s
  refine wpAny_pure ?_
  refine wpAny_bind (wpAny_isInstance (T := "dict") Db.typeIs PySem.F.sub_dict_dict ?_)
  simp only [Bool.not_true, Bool.false_eq_true, if_false]
  refine wpAny_bind (wpAny_pure (wpAny_bind (wpAny_pure ?_)))
  refine wpAny_bind (samePairsG I ha hb da db hlen keep turn h0 fun s' hI => ?_)
  refine wpAny_pure ⟨_, rfl, ?_, ?_⟩
  · exact fun x => nomatch x
  · exact h s' hI
theorem rcG_dictsQ {K : Type} [DecidableEq K] {knd : KeyKind prog w K} {a b : Addr} {oa ob : Obj} {ka kb : List (K × Value)} {Q : Value → Shared → Prop} (I : Nat → Shared → Prop)
    (ha : (a == sysModules) = false) (hb : (b == sysModules) = false) (da : oa.IsDictOf knd ka) (db : ob.IsDictOf knd kb) (hlen : ka.length = kb.length) (hu : A.units < cLine)
    (keep : ∀ i s, I i s → s.heap.get? a = some oa ∧ s.heap.get? b = some ob)
    (turn : ∀ i k v, ka[i]? = some (k, v) → ∃ y, valueAt kb k = some y ∧ ∀ s, I i s → wpAny (model prog w) A.in1 (eqBool v y) (fun r s' => r = true ∧ I (i + 1) s') E s)
    (h0 : I 0 s) (h : ∀ s', I ka.length s' → Q (.bool true) s') : wpAny (model prog w) A (richCompare .Eq (.ref a) (.ref b)) Q E s := by
  obtain ⟨hoa, hob⟩ := keep 0 s h0
  have Da : s.heap.DictOf knd a ka := Heap.dictOf_iff.mpr ⟨oa, hoa, da⟩
  have Db : s.heap.DictOf knd b kb := Heap.dictOf_iff.mpr ⟨ob, hob, db⟩
  refine wpAny_richCompare_same_room (op := .Eq) Da.typeIs Db.typeIs PySem.F.slot_dict_eq (wpAny_call_entry PySem.F.slot_dict_eq Da.typeIs PySem.F.entry_dict_eq ?_ (PySem.F.args_dict_eq_2 _ _)) hu
  show wpAny _ _ (Builtin.Dict.dictSlotArgs "__eq__" ⟨[.ref a, .ref b], []⟩ >>= _) _ _ s
  refine wpAny_bind ?_
  unfold Builtin.Dict.dictSlotArgs
  refine wpAny_bind (wpAny_notOrdered_dict Da.typeIs ?_)
  show wpAny _ _ (pure (Value.ref a, Value.ref b)) _ _ s
  refine wpAny_pure ?_
  refine wpAny_bind (wpAny_isInstance (T := "dict") Db.typeIs PySem.F.sub_dict_dict ?_)
  simp only [Bool.not_true, Bool.false_eq_true, if_false]
  refine wpAny_bind (wpAny_pure (wpAny_bind (wpAny_pure ?_)))
  refine wpAny_bind (samePairsG I ha hb da db hlen keep turn h0 fun s' hI => ?_)
  refine wpAny_pure ⟨_, rfl, ?_, ?_⟩
  · exact fun x => nomatch x
  · exact h s' hI
end
end TX
namespace TX
open PySem PySem.Spec PyProof.Rows L2
theorem paired_at {α β : Type} {F : α → β → Prop} {l₁ : List α} {l₂ : List β} (p : Paired F l₁ l₂) : ∀ {i : Nat} {b : β}, l₂[i]? = some b → ∃ a, l₁[i]? = some a ∧ F a b := by
  induction p with
  | nil => intro i b h; simp at h
  | cons h _ ih =>
    intro i b e
    cases i with
    | zero =>
      simp at e
      subst e
      exact ⟨_, rfl, h⟩
    | succ i =>
      simp at e
      obtain ⟨a, ha, f⟩ := ih e
      exact ⟨a, by simpa using ha, f⟩
theorem Ext.upd1 {H H' : Hp} (e : L2.Ext H H') (a : Addr) (o : HO) : L2.Ext (upd H a o) (upd H' a o) := fun c u h => by
  by_cases hc : c = a
  · subst hc
    rw [upd_same] at h ⊢
    exact h
  · rw [upd_ne hc] at h ⊢
    exact e c u h
def RcN (X : Cx) (n : Nat) (D : Eqv) : Prop :=
  ∀ (A : Around) (pins : List (Addr × Obj)) (s : Shared) (σ : L2.St) (H : Hp) (x y : V) (u v : Value), Sub X n A → Inv X pins σ H s → RelV x u → RelV y v → D x y H →
    wpAny (model X.prog X.w) A (richCompare .NotEq u v) (fun r s' => r = .bool false ∧ ∃ H', Inv X pins σ H' s' ∧ Ext H H') X.xe s
/-- two dicts that hold equal values at the same keys; the values' equality is asked while both are locked -/
def DDict (D : Eqv) : Eqv := fun x y H => ∃ a b ks ls, x = .ref a ∧ y = .ref b ∧ H a = some (.dK ks) ∧ H b = some (.dK ls) ∧ ks.length = ls.length ∧
  ∀ p ∈ ks, ∃ v, valV ls p.1 = some v ∧ ∀ oa ob, D p.2 v (upd (upd H a (.frz oa (.dK ks))) b (.frz ob (.dK ls)))
section
variable {X : Cx} {n : Nat} {D D' : Eqv}
theorem mon_dict (hD : Mon D) : Mon (DDict D) := fun x y H H' e d => by
  obtain ⟨a, b, ks, ls, hx, hy, h1, h2, hl, p⟩ := d
  refine ⟨a, b, ks, ls, hx, hy, e _ _ h1, e _ _ h2, hl, fun q hq => ?_⟩
  obtain ⟨v, hv, f⟩ := p q hq
  exact ⟨v, hv, fun oa ob => hD _ _ _ _ ((Ext.upd1 (Ext.upd1 e a _)) b _) (f oa ob)⟩
/-- the two locked -/
theorem lock2 {pins : List (Addr × Obj)} {σ : L2.St} {H : Hp} {s : Shared} {a b : Addr} {ks ls : List (Key × V)} (I : Inv X pins σ H s) (ha : H a = some (.dK ks)) (hb : H b = some (.dK ls)) :
    ∃ oa ob, Inv X pins σ (upd (upd H a (.frz oa (.dK ks))) b (.frz ob (.dK ls))) s ∧
      ∀ H' s', Inv X pins σ H' s' → Ext (upd (upd H a (.frz oa (.dK ks))) b (.frz ob (.dK ls))) H' →
        (s'.heap.get? a = some oa ∧ s'.heap.get? b = some ob) ∧ ∃ H'', Inv X pins σ H'' s' ∧ Ext H H'' := by
  obtain ⟨oa, I1⟩ := I.lock ha True.intro
  by_cases hab : b = a
  · subst hab
    have e : ks = ls := by rw [ha] at hb; cases hb; rfl
    subst e
    have eu : upd (upd H b (.frz oa (.dK ks))) b (.frz oa (.dK ks)) = upd H b (.frz oa (.dK ks)) := by
      funext c
      by_cases hc : c = b
      · rw [hc, upd_same, upd_same]
      · rw [upd_ne hc, upd_ne hc]
    refine ⟨oa, oa, by rw [eu]; exact I1, fun H' s' I' e => ?_⟩
    have hb' := e b _ (upd_same ..)
    obtain ⟨g, _⟩ := I'.hok b _ hb'
    refine ⟨⟨g, g⟩, _, I'.unlock hb' (I.nofrz ha True.intro), fun c u h => ?_⟩
    by_cases hc : c = b
    · rw [hc] at h ⊢
      rw [upd_same]
      rw [h] at ha
      exact ha.symm
    · rw [upd_ne hc]
      exact e c u (by rw [upd_ne hc, upd_ne hc]; exact h)
  · have hb1 : upd H a (.frz oa (.dK ks)) b = some (.dK ls) := by rw [upd_ne hab]; exact hb
    obtain ⟨ob, I2⟩ := I1.lock hb1 True.intro
    refine ⟨oa, ob, I2, fun H' s' I' e => ?_⟩
    have hb' := e b _ (upd_same ..)
    have ha' := e a _ (by rw [upd_ne (Ne.symm hab)]; exact upd_same ..)
    obtain ⟨gb, _⟩ := I'.hok b _ hb'
    obtain ⟨ga, _⟩ := I'.hok a _ ha'
    have I3 := I'.unlock hb' (I1.nofrz hb1 True.intro)
    have ha3 : upd H' b (.dK ls) a = some (.frz oa (.dK ks)) := by rw [upd_ne (Ne.symm hab)]; exact ha'
    refine ⟨⟨ga, gb⟩, _, I3.unlock ha3 (I.nofrz ha True.intro), fun c u h => ?_⟩
    by_cases hc : c = a
    · rw [hc] at h ⊢
      rw [upd_same]
      rw [h] at ha
      exact ha.symm
    · rw [upd_ne hc]
      by_cases hcb : c = b
      · rw [hcb] at h ⊢
        rw [upd_same]
        rw [h] at hb
        exact hb.symm
      · rw [upd_ne hcb]
        exact e c u (by rw [upd_ne hcb, upd_ne hc]; exact h)
theorem dict_turn (hD : Mon D) (h : EqG X n D) {A : Around} (sb : Sub X (n + 1) A) {pins : List (Addr × Obj)} {σ : L2.St} {H H2 : Hp} {s : Shared} {a b : Addr} {ks ls : List (Key × V)} {va vb : List (Key × Value)}
    (ra : KV ks va) (rb : KV ls vb) (p : ∀ p ∈ ks, ∃ v, valV ls p.1 = some v ∧ D p.2 v H2) (i : Nat) (k : Key) (v : Value) (hi : va[i]? = some (k, v)) :
    ∃ y, valueAt vb k = some y ∧ ∀ s, LoopI X pins σ H2 s → wpAny (model X.prog X.w) A.in1 (eqBool v y) (fun r s' => r = true ∧ LoopI X pins σ H2 s') X.xe s := by
  obtain ⟨⟨k', x⟩, hx, e, rx⟩ := paired_at ra hi
  have e' : k' = k := e
  subst e'
  obtain ⟨y, hy, d⟩ := p _ (List.mem_of_getElem? hx)
  have ry := rb.val k'
  have hy' : valV ls k' = some y := hy
  rw [hy'] at ry
  obtain ⟨y', hy2, ry2⟩ := RelO.some_of (v := y) ry
  refine ⟨y', hy2, fun s l => ?_⟩
  obtain ⟨H1, I1, e1⟩ := l
  refine wpAny_mono (h A.in1 pins s σ H1 x y v y' sb.in1 I1 rx ry2 (hD _ _ _ _ e1 d)) (fun r s2 q => ?_) fun _ _ x => x
  obtain ⟨hr, H3, I3, e3⟩ := q
  exact ⟨hr, H3, I3, e1.trans e3⟩
theorem rcN_dict (hD : Mon D) (h : EqG X n D) : RcN X (n + 1) (DDict D) := by
  intro A pins s σ H x y u v sb I rx ry d
  obtain ⟨a, b, ks, ls, rfl, rfl, ha, hb, hl, p⟩ := d
  cases rx
  cases ry
  obtain ⟨oa, ob, I2, back⟩ := lock2 I ha hb
  obtain ⟨_, ya, va, ra, da⟩ := dk_of I.hok ha
  obtain ⟨_, yb, vb, rb, db⟩ := dk_of I.hok hb
  obtain ⟨⟨g1, g2⟩, _⟩ := back _ _ I2 Ext.rfl'
  obtain ⟨oa', ga, da'⟩ := Heap.dictOf_iff.mp da
  obtain ⟨ob', gb, db'⟩ := Heap.dictOf_iff.mp db
  obtain rfl : oa' = oa := Option.some.inj (ga.symm.trans g1)
  obtain rfl : ob' = ob := Option.some.inj (gb.symm.trans g2)
  refine rcG_dictsE (fun _ s' => LoopI X pins σ _ s') ya yb da' db' (by rw [← ra.length, ← rb.length]; exact hl) sb.room.units0 (fun i s' q => ?_) (fun i k v hi => ?_) ⟨_, I2, Ext.rfl'⟩ fun s' q => ?_
  · obtain ⟨H', I', e⟩ := q
    exact (back H' s' I' e).1
  · exact dict_turn hD h sb (H := H) (s := s) (a := a) (b := b) ra rb (fun q hq => by obtain ⟨v, hv, f⟩ := p q hq; exact ⟨v, hv, f _ _⟩) i k v hi
  · obtain ⟨H', I', e⟩ := q
    exact ⟨rfl, (back H' s' I' e).2⟩
theorem rcG_dict (hD : Mon D) (h : EqG X n D) : RcG X (n + 1) (DDict D) := by
  intro A pins s σ H x y u v sb I rx ry d
  obtain ⟨a, b, ks, ls, rfl, rfl, ha, hb, hl, p⟩ := d
  cases rx
  cases ry
  obtain ⟨oa, ob, I2, back⟩ := lock2 I ha hb
  obtain ⟨_, ya, va, ra, da⟩ := dk_of I.hok ha
  obtain ⟨_, yb, vb, rb, db⟩ := dk_of I.hok hb
  obtain ⟨⟨g1, g2⟩, _⟩ := back _ _ I2 Ext.rfl'
  obtain ⟨oa', ga, da'⟩ := Heap.dictOf_iff.mp da
  obtain ⟨ob', gb, db'⟩ := Heap.dictOf_iff.mp db
  obtain rfl : oa' = oa := Option.some.inj (ga.symm.trans g1)
  obtain rfl : ob' = ob := Option.some.inj (gb.symm.trans g2)
  refine rcG_dictsQ (fun _ s' => LoopI X pins σ _ s') ya yb da' db' (by rw [← ra.length, ← rb.length]; exact hl) sb.room.units0 (fun i s' q => ?_) (fun i k v hi => ?_) ⟨_, I2, Ext.rfl'⟩ fun s' q => ?_
  · obtain ⟨H', I', e⟩ := q
    exact (back H' s' I' e).1
  · exact dict_turn hD h sb (H := H) (s := s) (a := a) (b := b) ra rb (fun q hq => by obtain ⟨v, hv, f⟩ := p q hq; exact ⟨v, hv, f _ _⟩) i k v hi
  · obtain ⟨H', I', e⟩ := q
    exact ⟨rfl, (back H' s' I' e).2⟩
theorem eqG_dict (hD : Mon D) (h : EqG X n D) : EqG X (n + 1) (DDict D) := (rcG_dict hD h).eqG fun _ _ _ d => let ⟨a, b, _, _, hx, hy, _⟩ := d; ⟨a, b, hx, hy⟩
theorem rcN_list (hD : Mon D) (h : EqG X n D) : RcN X (n + 1) (DList D) := by
  intro A pins s σ H x y u v sb I rx ry d
  obtain ⟨a, b, xs, ys, rfl, rfl, ha, hb, p⟩ := d
  cases rx
  cases ry
  refine rcn_listG (N := xs.length) sb.room.units0 (fun _ s' => LoopI X pins σ H s') (fun i s' q => ?_) (fun s' q => ⟨rfl, q⟩) ⟨H, I, Ext.rfl'⟩
  obtain ⟨H1, I1, e1⟩ := id q
  obtain ⟨z, its, k, r, e⟩ := I1.hok a _ (e1 _ _ ha)
  obtain ⟨z2, its2, k2, r2, e2⟩ := I1.hok b _ (e1 _ _ hb)
  refine ⟨its.toArray, its2.toArray, k, k2, e, e2, by rw [List.size_toArray, ← r.length], by rw [List.size_toArray, ← r2.length, ← p.1], fun h1 h2 => ?_⟩
  exact turnG hD h sb p r r2 i h1 h2 s' q
theorem rcN_tup (hD : Mon D) (h : EqG X n D) : RcN X (n + 1) (DTup X.K D) := by
  intro A pins s σ H x y u v sb I rx ry d
  obtain ⟨a, b, xs, ys, rfl, rfl, ha, hb, p⟩ := d
  cases rx
  cases ry
  obtain ⟨its, r, e, z⟩ := I.tuple ha
  obtain ⟨its2, r2, e2, z2⟩ := I.tuple hb
  have hsz : its.toArray.size = its2.toArray.size := by rw [List.size_toArray, List.size_toArray, ← r.length, ← r2.length]; exact p.1
  exact rcn_tupG hsz sb.room.units0 (fun _ s' => LoopI X pins σ H s') e e2 (fun i h1 h2 s' q => turnG hD h sb p r r2 i h1 h2 s' q) (fun s' q => ⟨rfl, q⟩) ⟨H, I, Ext.rfl'⟩
theorem RcN.or (h : RcN X n D) (h' : RcN X n D') : RcN X n (fun x y H => D x y H ∨ D' x y H) := fun A pins s σ H x y u v sb I rx ry d => by
  rcases d with d | d
  · exact h A pins s σ H x y u v sb I rx ry d
  · exact h' A pins s σ H x y u v sb I rx ry d
theorem RcN.mono {m : Nat} (h : RcN X n D) (hn : n ≤ m) : RcN X m D := fun A pins s σ H x y u v sb => h A pins s σ H x y u v (sb.mono hn)
/-- None and None -/
def DNon : Eqv := fun x y _ => x = .non ∧ y = .non
theorem mon_non : Mon DNon := fun _ _ _ _ _ d => d
theorem eqG_non : EqG X 0 DNon := eqG_flat.imp fun x y H d => by obtain ⟨rfl, rfl⟩ := d; exact ⟨rfl, rfl, rfl⟩
theorem rcN_non : RcN X 0 DNon := by
  intro A pins s σ H x y u v sb I rx ry d
  obtain ⟨rfl, rfl⟩ := d
  cases rx
  cases ry
  show wpAny (model X.prog X.w) A (compareOp .NotEq Value.none Value.none) _ _ s
  exact PySem.EqNone.ne_none_none ⟨rfl, H, I, Ext.rfl'⟩
/-- x != y of what is equal -/
def rNeG (D : Eqv) : R2 := fun x y H Q => D x y H ∧ ∀ H', Ext H H' → Q (.bl false) H'
theorem op_neG (h : RcN X n D) (hr : Room n X.A) : OpR X (compareOp .NotEq) (rNeG D) := by
  intro pins s σ H x y v u Q I rx ry hq
  obtain ⟨d, q⟩ := hq
  show wpAny (model X.prog X.w) X.A (richCompare .NotEq v u) (EP X pins σ Q) X.xe s
  refine wpAny_mono (h X.A pins s σ H x y v u ⟨hr, rfl⟩ I rx ry d) (fun r s' z => ?_) fun _ _ x => x
  obtain ⟨hr', H', I', e⟩ := z
  subst hr'
  exact ⟨.bl false, H', I', rfl, q H' e⟩
/-- two instances of the class at C, by its own ==: what R says of the two, with FnR -/
theorem rcG_insR {C f : Addr} {R : Addr → Addr → Hp → Prop} {E : XK} {CX : CXT} (F : FnR X.prog X.w X.K X.mg X.base CX n f (spEq R))
    (hs : PySem.W.findIn X.K (.ref C) "__eq__" = some (some (.ref f))) (hf : PySem.W.isFn X.K (.ref f) = true) (hx : Passes CX X E) : RcG X n (DIns C R) := by
  intro A pins s σ H x y u v sb I rx ry d
  obtain ⟨a, b, dx, dy, fs, gs, rfl, rfl, ha, hb', hr⟩ := d
  cases rx
  cases ry
  obtain ⟨mA, J, _⟩ := ins_get I.hok ha
  obtain ⟨mB, J', _⟩ := ins_get I.hok hb'
  obtain ⟨od, J, _⟩ := J.look
  obtain ⟨od', J', _⟩ := J'.look
  obtain ⟨m, hF⟩ := I.fr
  refine PySem.W.cmp_K (op := .Eq) (tb := .ref C) sb.room.units0 hF I.ok.mod.kin J J'.type (by simp [PySem.W.notFirst]) hs hf ?_
  have hsp : spEq R [.ref a, .ref b] H (fun v H' => v = .bl true ∧ Ext H H') E := ⟨a, b, rfl, hr, fun H' e => ⟨rfl, e⟩⟩
  have e0 : Env0 X.prog X.w X.K X.mg X.base A X.stack s H := by
    have e := I.env0
    exact ⟨by rw [sb.fr]; exact e.frames, e.mod, e.bs, e.bsz, e.funs, e.frf, e.hok, e.bare⟩
  have r2 : Vals [V.ref a, V.ref b] [Value.ref a, Value.ref b] := .cons rfl (.cons rfl .nil)
  refine wpAny_call (codeAny_mono (F A X.stack s H [.ref a, .ref b] [.ref a, .ref b] _ E sb.room e0 r2 hsp) fun r s' hq => ?_)
  cases r with
  | error e => exact hx pins σ H s e s' I hq
  | ok fl =>
    cases fl with
    | ret w =>
      obtain ⟨z, H', I', rz, ez, ex⟩ := I.after hq
      subst ez
      cases rz
      exact ⟨rfl, H', I', ex⟩
    | next => exact False.elim hq
    | brk => exact False.elim hq
    | cont => exact False.elim hq
theorem eqG_insR {CX : CXT} {C f : Addr} {R : Addr → Addr → Hp → Prop} {E : XK} (F : FnR X.prog X.w X.K X.mg X.base CX n f (spEq R))
    (hs : PySem.W.findIn X.K (.ref C) "__eq__" = some (some (.ref f))) (hf : PySem.W.isFn X.K (.ref f) = true) (hx : Passes CX X E) : EqG X n (DIns C R) :=
  (rcG_insR F hs hf hx).eqG fun _ _ _ d => let ⟨a, b, _, _, _, _, hx, hy, _⟩ := d; ⟨a, b, hx, hy⟩
end
/-! ### != of two instances of a class with an own == and no own != -/
section
variable {M : Model} {prog : Program} {w : World} {A : Around} {E : Value → Shared → Prop} {s : Shared} {K : PySem.W.Frag} {x C f : Addr} {ox : Obj} {od : Option Obj}
theorem ifBound_ne {args : List Value} {Q : Option Value → Shared → Prop} (X : K.In s.heap) (I : PySem.W.InstAt s.heap x ox C od) (hs : PySem.W.findIn K (.ref C) "__ne__" = some (some (.builtin "object.__ne__")))
    (h : wpAny M A (call (.builtin "object.__ne__") (.ref x :: args)) (fun v => Q (some v)) E s) : wpAny M A (callSpecialIfBound? (.ref x) "__ne__" args) Q E s := by
  simp only [callSpecialIfBound?, bindSpecialIfBound?]
  refine wpAny_holding (wpAny_bind (wpAny_bind (wpAny_bind (I.type.here ((PySem.W.looks_findIn X hs).here ?_)))))
  refine wpAny_bind (wpAny_askSetting (wpAny_ite ?_))
  have fin : wpAny M A (call (.builtin "object.__ne__") ([.ref x] ++ args) >>= fun v => pure (some v)) Q E s := wpAny_bind (wpAny_mono h (fun v s' h' => wpAny_pure h') fun _ _ h' => h')
  split
  · exact wpAny_bind (wpAny_of_eq (F.cmp_object.ne.bind _) (wpAny_pure (by exact fin)))
  · exact wpAny_tryCatch (wpAny_bind (wpAny_of_eq (F.cmp_object.ne.bind _) (wpAny_pure (by exact fin))))
theorem entry_neI {y : Addr} (hu : A.units < cLine) (X : K.In s.heap) (I : PySem.W.InstAt s.heap x ox C od) (hs : PySem.W.findIn K (.ref C) "__eq__" = some (some (.ref f))) (hf : PySem.W.isFn K (.ref f) = true)
    {Q : Fin → Shared → Prop} (h : wpAny (model prog w) A (call (.ref f) [.ref x, .ref y]) (fun v s' => ∃ b, v = .bool b ∧ Q (.done (.ret (.bool (!b)))) s') E s) :
    wpAny (model prog w) A (Builtin.«object.__ne__» ⟨[.ref x, .ref y], []⟩) Q E s := by
  unfold Builtin.«object.__ne__»
  repeat (first
    | with_reducible refine wpAny_cRoomFor hu ?_
    | (refine wpAny_bind (m := callSpecialIfBound? (.ref x) (Str.ofString "__eq__") [.ref y])
        (PySem.W.ifBound_K X I hs hf (wpAny_mono h (fun r s' hr => by
          obtain ⟨b, rfl, hq⟩ := hr
          repeat (first | exact hq | exact wpAny_pure hq | exact wpAny_truthy_bool hq | (refine wpAny_bind (m := truthy (.bool _)) (wpAny_truthy_bool ?_)) | wp_step)) fun _ _ e => e)))
    | wp_step)
theorem rc_neI {y : Addr} {oy : Obj} {od' : Option Obj} {Q : Value → Shared → Prop} (hu : A.units + 1 < cLine) (X : K.In s.heap) (I : PySem.W.InstAt s.heap x ox C od) (J : PySem.W.InstAt s.heap y oy C od')
    (hm : PySem.W.mroIn K C (.type "object") = some true) (hn : PySem.W.findIn K (.ref C) "__ne__" = some (some (.builtin "object.__ne__")))
    (hs : PySem.W.findIn K (.ref C) "__eq__" = some (some (.ref f))) (hf : PySem.W.isFn K (.ref f) = true)
    (h : wpAny (model prog w) A.in1 (call (.ref f) [.ref x, .ref y]) (fun v s' => ∃ b, v = .bool b ∧ Q (.bool (!b)) s') E s) :
    wpAny (model prog w) A (richCompare .NotEq (.ref x) (.ref y)) Q E s := by
  have one : wpAny (model prog w) A (tryCompare (.ref x) "__ne__" (.ref y)) (fun r s' => ∃ v, r = some v ∧ Q v s') E s := by
    unfold tryCompare
    refine wpAny_bind (ifBound_ne X I hn (wpAny_call (codeAny_call_builtin F.cmp_object.ne.plain F.cmpEntry_ne (PySem.W.check_slot F.cmpKind_ne F.cmpSplit_ne (I.type.andThen (PySem.W.looks_mroIn X hm)) (F.cmpArgs_ne _ _)
      (entry_neI (A := A.in1) (Nat.lt_of_le_of_lt (Nat.le_refl _) hu) X I hs hf (wpAny_mono h (fun v s' hv => ?_) fun _ _ e => e))))))
    obtain ⟨b, rfl, hq⟩ := hv
    first | exact ⟨b, rfl, wpAny_pure ⟨_, rfl, hq⟩⟩ | exact ⟨b, rfl, wpAny_pure (wpAny_pure ⟨_, rfl, hq⟩)⟩ | exact wpAny_pure ⟨_, rfl, hq⟩
  simp only [richCompare, cmpInfo_NotEq, oneThing_ref]
  refine wpAny_holding (wpAny_bind (wpAny_cRoomFor (Nat.lt_of_succ_lt hu) ?_))
  refine wpAny_bind (I.type.here (wpAny_bind (J.type.here ?_)))
  rw [show (Value.ref C != Value.ref C) = false from by simp]
  simp only [Bool.false_eq_true, if_false]
  refine wpAny_bind (wpAny_pure ?_)
  simp only [Bool.false_eq_true, if_false]
  refine wpAny_bind (wpAny_mono one (fun r s' z => ?_) fun _ _ e => e)
  obtain ⟨v, rfl, hq⟩ := z
  exact wpAny_pure hq
end
/-- x != y, two instances of the class at C; sp the promise of its == -/
def rNeI (C : Addr) (sp : Sp) : R2 := fun x y H Q => ∃ a b dx dy fs gs, x = .ref a ∧ y = .ref b ∧ H a = some (.ins C dx fs) ∧ H b = some (.ins C dy gs) ∧ sp [.ref a, .ref b] H (fun v H' => ∃ r, v = .bl r ∧ Q (.bl (!r)) H') E0
theorem op_neI {X : Cx} {k : Nat} {C f : Addr} {sp : Sp} (F : FnR X.prog X.w X.K X.mg X.base (L2.CX X.prog X.w) k f sp) (hr : Room (k + 1) X.A)
    (hm : PySem.W.mroIn X.K C (.type "object") = some true) (hn : PySem.W.findIn X.K (.ref C) "__ne__" = some (some (.builtin "object.__ne__")))
    (hs : PySem.W.findIn X.K (.ref C) "__eq__" = some (some (.ref f))) (hf : PySem.W.isFn X.K (.ref f) = true) : OpR X (compareOp .NotEq) (rNeI C sp) := by
  intro pins s σ H x y v u Q I rx ry hq
  obtain ⟨a, b, dx, dy, fs, gs, rfl, rfl, ha, hb, q⟩ := hq
  cases rx
  cases ry
  obtain ⟨mA, J, _⟩ := ins_get I.hok ha
  obtain ⟨mB, J', _⟩ := ins_get I.hok hb
  obtain ⟨od, J, _⟩ := J.look
  obtain ⟨od', J', _⟩ := J'.look
  show wpAny (model X.prog X.w) X.A (richCompare .NotEq (.ref a) (.ref b)) (EP X pins σ Q) X.xe s
  refine rc_neI (hu_of hr) I.kIn J J' hm hn hs hf ?_
  have e0 : Env0 X.prog X.w X.K X.mg X.base X.A.in1 X.stack s H := by
    have e := I.env0
    exact ⟨e.frames, e.mod, e.bs, e.bsz, e.funs, e.frf, e.hok, e.bare⟩
  have r2 : Vals [V.ref a, V.ref b] [Value.ref a, Value.ref b] := .cons rfl (.cons rfl .nil)
  refine wpAny_call (codeAny_mono (F X.A.in1 X.stack s H [.ref a, .ref b] [.ref a, .ref b] _ E0 hr.in1 e0 r2 q) fun r s' hq => ?_)
  cases r with
  | error e => exact passL pins σ H s e s' I hq
  | ok fl =>
    cases fl with
    | ret w =>
      obtain ⟨z, H', I', rz, ⟨r, ez, q⟩⟩ := I.after hq
      subst ez
      cases rz
      exact ⟨r, rfl, .bl (!r), H', I', rfl, q⟩
    | next => exact False.elim hq
    | brk => exact False.elim hq
    | cont => exact False.elim hq
end TX

/-! ### == of dicts of flat values: both answers -/
namespace TX
open PySem PySem.Spec PyProof.Rows L2
def hitsR (ls : List (Key × V)) : List (Key × V) → Bool
  | [] => true
  | p :: r => match valV ls p.1 with
    | none => false
    | some y => eqV p.2 y && hitsR ls r
def sameR (ks ls : List (Key × V)) : Bool := ks.length == ls.length && hitsR ls ks
def FlatR (ks : List (Key × V)) : Prop := ∀ p ∈ ks, flatV p.2 = true
theorem hits_of {A : Around} {s : Shared} {ks ls : List (Key × V)} {va vb : List (Key × Value)} (ra : KV ks va) (rb : KV ls vb) (fa : FlatR ks) (fb : FlatR ls) : PySem.W.KeqHits A s vb va (hitsR ls ks) := by
  induction ra with
  | nil => exact .nil
  | @cons p q ps qs hh rest ih =>
    obtain ⟨k, x⟩ := p
    obtain ⟨k', u⟩ := q
    obtain ⟨e, rx⟩ := hh
    have e' : k = k' := e
    subst e'
    have rv := rb.val k
    have ih' := ih fun p hp => fa p (List.mem_cons_of_mem _ hp)
    unfold hitsR
    cases hv : valV ls k with
    | none =>
      rw [hv] at rv
      exact PySem.W.KeqHits.miss (RelO.none_of rv)
    | some y =>
      rw [hv] at rv
      obtain ⟨y', hy', ry⟩ := RelO.some_of (v := y) rv
      have fy : flatV y = true := by
        unfold valV at hv
        obtain ⟨p, hp, e⟩ := Option.map_eq_some_iff.mp hv
        rw [← e]
        exact fb p (List.mem_of_find?_eq_some hp)
      exact .hit hy' (eqAt_V rx ry (fa _ List.mem_cons_self) fy) ih'
def rEqR : R2 := fun x y H Q => ∃ a b ks ls, x = .ref a ∧ y = .ref b ∧ H a = some (.dK ks) ∧ H b = some (.dK ls) ∧ FlatR ks ∧ FlatR ls ∧ Q (.bl (sameR ks ls)) H
theorem op_eqR {X : Cx} (hu : X.A.units < cLine) : OpR X (compareOp .Eq) rEqR := by
  intro pins s σ H x y v u Q I rx ry h
  obtain ⟨a, b, ks, ls, rfl, rfl, ea, eb, fa, fb, q⟩ := h
  obtain rfl : v = Value.ref a := rx
  obtain rfl : u = Value.ref b := ry
  obtain ⟨_, ya, va, ra, da⟩ := dk_of I.hok ea
  obtain ⟨_, yb, vb, rb, db⟩ := dk_of I.hok eb
  refine PySem.W.keq_eq (knd := mixKind X.prog X.w) ya yb da db hu (fun _ => hits_of ra rb fa fb) (fin_bl I q ?_)
  unfold sameR
  rw [ra.length, rb.length]
end TX
end
section
set_option autoImplicit false
set_option maxHeartbeats 4000000
/-! An own exception over RuntimeError or LookupError whose __init__ says super().__init__('..'); self.f = v: made and raised. -/
namespace TXE
open PySem PySem.W PySem.Calls PyProof.Rows
/-- what the written part says of the class x at C, and of its __init__, at fI -/
structure ExcT (P : Program) (K : Frag) (mg : Str → Option Value) (x f : Str) (ar : Arguments) (bo : List Stmt) (sc : Scope) (B newId initId : String) (bmB : List Value) (C fI : Addr) : Prop where
  gC : mg x = some (.ref C)
  q : excInitIn K C bmB newId = true
  ov : excOver K C bmB = true
  tk : takerIn K C f = some none
  hd : hasDictIn K C = true
  sa : findIn K (.ref C) "__setattr__" = some (some (.builtin "object.__setattr__"))
  iC : findIn K (.ref C) "__init__" = some (some (.ref fI))
  tC : typeIn K (.ref fI) = some (.type "function")
  kC : keepIn K (.ref C) = true
  exC : subIn K (.ref C) (.type "BaseException") = some true
  sB : subIn K (.ref C) (.type B) = some true
  sC : mroIn K C (.ref C) = some true
  tyC : typeIn K (.ref C) = some (.type "type")
  hm : ks_superIn K C C "__init__" = some (some (.builtin initId))
  ho : nsIn K cStatics "thirdparty.any" = some none
  sup : mg "super" = none
  top : (P.main.scope.names.lookup ("super" : Str)).isSome = false
  cell : ∃ cc cl cld csl, K.lookup cc = some ⟨cl, cld, .cell (some (.ref C)), csl⟩ ∧ ∃ (oc : Value) (od : Option Addr) (doc pm : Value) (an : Option Addr) (cda : Addr) (ct : Value) (osl : Array (Option Value)) (qual : Str),
    K.lookup fI = some ⟨oc, od, .func (ksFn "__init__" qual ar bo sc .none .none doc pm an (.ref cda) ct cc), osl⟩ ∧ codeIn K (.ref cda) qual = true ∧
    ∃ ccl cdd vs ccs file tf, K.lookup cda = some ⟨ccl, cdd, .fields vs, ccs⟩ ∧ vs[2]? = some (.str file tf) ∧ ((P.main.file : Str) == file) = true
section
variable {K : Frag} {C : Addr} {newId : String} {bmB : List Value}
theorem clsIn_of (q : excInitIn K C bmB newId = true) : ∃ cd, clsIn K C = some cd := by
  unfold excInitIn at q
  split at q
  · rename_i dd cd sl ho
    exact ⟨cd, by unfold clsIn; rw [ho]⟩
  · cases q
end
section
variable {prog : Program} {w : World} {A : Around} {E : Value → Shared → Prop} {R : Result → Shared → Prop} {s : Shared} {K : Frag} {mg mb : Str → Option Value} {C fI : Addr} {x : Str} {B newId initId : String} {bmB : List Value}
theorem exc_init_index (FB : ExcBaseFacts B newId initId bmB) (SF : StoreFacts B bmB "object.__setattr__" "object") (KF : KxsFacts B initId) (T : ExcT prog K mg x "index" (iA "index" ⟨24, 17, 24, 21⟩ ⟨24, 23, 24, 28⟩) (iB "index" "a step failed" 0 ⟨25, 8, 25, 13⟩ ⟨25, 8, 25, 15⟩ ⟨25, 8, 25, 24⟩ ⟨25, 25, 25, 40⟩ ⟨25, 8, 25, 41⟩ ⟨25, 8, 25, 41⟩ ⟨26, 8, 26, 12⟩ ⟨26, 8, 26, 18⟩ ⟨26, 21, 26, 26⟩ ⟨26, 8, 26, 26⟩) (iS "index") B newId initId bmB C fI) {e t0 : Addr} {v : Value} (X : K.In s.heap) (hlim : s.heap.NoLimit)
    (G : s.heap.Ns mainGlobals mg) (GB : s.heap.Ns builtinsNs mb) (hmb : mb "super" = some (.type "super")) (hx : s.heap.get? e = some (HandSPX.excO C t0)) (hnx : K.lookup e = none) (hroom : A.depth < recursionLimit)
    (hq : ∀ h' tk dx t1, (∀ b o, b ≠ e → s.heap.get? b = some o → h'.get? b = some o) → h'.get? e = some { cls := .ref C, dict := some dx, data := .fields #[.ref t1, .none, .none, .none, .bool false, .none] } → R (.ok (.ret .none)) { s with heap := h', toks := tk }) :
    codeAny (model prog w) A (.call (.ref fI) ⟨[.ref e, v], []⟩) R s := by
  obtain ⟨cc, cl, cld, csl, hcell, oc, od, doc, pm, an, cda, ct, osl, qual, ho, hcd, ccl, cdd, vs, ccs, file, tf, hcda, hvs, hfile⟩ := T.cell
  obtain ⟨cd, hcl⟩ := clsIn_of T.q
  refine ks_codeAny_call_defAt (body := (iB "index" "a step failed" 0 ⟨25, 8, 25, 13⟩ ⟨25, 8, 25, 15⟩ ⟨25, 8, 25, 24⟩ ⟨25, 25, 25, 40⟩ ⟨25, 8, 25, 41⟩ ⟨25, 8, 25, 41⟩ ⟨26, 8, 26, 12⟩ ⟨26, 8, 26, 18⟩ ⟨26, 21, 26, 26⟩ ⟨26, 8, 26, 26⟩)) (binds := [("self", .ref e), ("index", v)]) hroom (X _ _ ho) rfl hlim (codeRec_of X hcd) rfl (BindsTo.of_eq (by first | rfl | with_unfolding_all rfl)) (show ∀ x ∈ (iS "index").names, x.2 ≠ .cell by decide +kernel) (fun y hy => ?_) (fun h₁ hns k => ?_)
  · rcases List.mem_cons.mp hy with rfl | hy
    · first | rfl | kernel_rfl
    · rcases List.mem_cons.mp hy with rfl | hy
      · first | rfl | kernel_rfl
      · cases hy
  have X₁ : K.In h₁ := X.keeps k
  have hself : ([(("self" : Str), Value.ref e), (("index" : Str), v)].reverse.lookup ("self" : Str)) = some (.ref e) := by first | rfl | kernel_rfl
  have hby : ([(("self" : Str), Value.ref e), (("index" : Str), v)].reverse.lookup ("index" : Str)) = some v := by first | rfl | kernel_rfl
  have hx₁ := k _ _ hx
  have I₁ : InstAt h₁ e (HandSPX.excO C t0) C none := ⟨hx₁, rfl, rfl, trivial⟩
  obtain ⟨oD, hD1, hD2⟩ : ∃ oD, h₁.get? C = some oD ∧ oD.data = .cls cd := by
    unfold clsIn at hcl
    split at hcl
    · rename_i c d cd' sl ho
      cases hcl
      exact ⟨_, X₁ _ _ ho, rfl⟩
    · cases hcl
  have heC : e ≠ C := fun z => by
    rw [z] at hx₁
    rw [hx₁] at hD1
    cases hD1
    cases hD2
  have hIn : ∀ {hh : Heap}, K.In hh → InstAt hh e (HandSPX.excO C t0) C none → Looks (model prog w) hh (isInstance (.ref e) (.type B)) true := fun XX II => II.type.andThen (looks_subIn XX T.sB)
  refine ks_wpAt_execs_cons (ks_wpAt_Expr_any (ks_wpAt_MethodCall ?_))
  refine ks_wpAt_super_base (f := fI) (cc := cda) (by rfl) (by rfl) (by decide) rfl (X₁ _ _ ho) rfl (ar := { arg := "self", annotation := none, pos := ⟨24, 17, 24, 21⟩ }) rfl rfl (X₁ _ _ hcda) rfl hvs hfile T.top ?_
  refine ks_loadName_global rfl (by rfl) (loadGlobal_builtin (G.keeps k) T.sup (GB.keeps k) hmb ⟨rfl, ?_⟩)
  refine wpAny_loadName_free rfl (by rfl) rfl ⟨_, X₁ _ _ hcell, rfl⟩ ?_
  refine wpAny_loadName_local rfl (by rfl) hns hself ?_
  refine ks_wpAny_isType_cls hD1 hD2 ⟨rfl, ?_⟩
  refine ks_wpAny_call_super hD1 hD2 hx₁ rfl (fun c z => by cases z) (looks_mroIn X₁ T.sC) (fun h₂ hso k2 => ?_)
  have X₂ : K.In h₂ := X₁.keeps k2
  have hx₂ := k2 _ _ hx₁
  have hmr : Looks (model prog w) h₂ (mroOf (.ref C)) cd.mro := fun A Q E s k q => wpAny_bind ((looks_clsIn X₂ hcl) A _ E s k (wpAny_pure q))
  have hm2 : alongIn K "__init__" ((cd.mro.dropWhile (· != .ref C)).drop 1) = some (some (.builtin initId)) := by
    have h := T.hm
    unfold ks_superIn at h
    rw [hcl] at h
    exact h
  refine kxs_getMethod KF hso (looks_opaque X₂ T.ho) hmr rfl X₂ hm2 (hIn X₂ ⟨hx₂, rfl, rfl, trivial⟩) heC (by decide) ?_
  have hmw : (h₂.push (kxs_mw initId e)).get? h₂.objs.size = some (kxs_mw initId e) := Heap.get?_push_at rfl rfl
  have k3 : ∀ b o, h₂.get? b = some o → (h₂.push (kxs_mw initId e)).get? b = some o := fun b o z => Heap.get?_push_of_some _ z
  refine kxs_callWith (i := initId) (x := e) rfl (Calls.evalArgs_plain ?_)
  refine spliced_more (Calls.Constant_str (spliced_none ⟨hmw, ?_⟩))
  have X₃ : K.In (h₂.push (kxs_mw initId e)) := X₂.keeps k3
  have hx₃ := k3 _ _ hx₂
  obtain ⟨nm, N', qn, bs, bm, hdct, sn, sub, ab, col, dd, k0, k1, kk2, kk3, k5, hC, hT⟩ := excInit_of X₃ T.q
  have two : ∀ z : Value, [z].length ≤ sizeLine := fun z => by rw [sizeLine_eq]; exact (by decide : 1 ≤ 16777216)
  have lne : e ≠ s.heap.objs.size := Nat.ne_of_lt (Heap.lt_size hx)
  refine wpAny_call (codeAny_of_tree ?_)
  show wpAny _ _ (callAny (.ref h₂.objs.size) ⟨_, []⟩) _ _ _
  simp only [callAny]
  refine wpAny_bind (wpAny_load hmw ?_)
  simp only [kxs_mw, show (Value.type "method-wrapper" == Value.type "method" || Value.type "method-wrapper" == Value.type "builtin_function_or_method" || Value.type "method-wrapper" == Value.type "method-wrapper") = true by decide, if_true]
  refine KFB.if_so (by decide) ?_
  refine wpAny_bind (check_bound_init FB.toExcCallFacts hC hx₃ rfl ?_)
  refine wpAny_bind (wpAny_pure (wpAny_pure ?_))
  refine ⟨plainId_quiet FB.init.plain _, codeAny_builtin FB.initEntry ?_⟩
  refine exc_init_tree (cls := .ref C) (t0 := t0) (dv := none) (c2 := .none) (c3 := .none) (b4 := .bool false) hx₃ (two _) (fun h₄ k4 hx₄ _ => ?_)
  have kk : ∀ b o, b ≠ e → h₁.get? b = some o → h₄.get? b = some o := fun b o hb z => k4 b o hb (k3 b o (k2 b o z))
  have X₄ : K.In h₄ := fun a o z => kk a o (fun y => by rw [y, hnx] at z; cases z) (X₁ a o z)
  obtain ⟨oL, es, ep, hL, rL⟩ := hns
  have hn4 : h₄.Ns s.heap.objs.size (fun x => [(("self" : Str), Value.ref e), (("index" : Str), v)].reverse.lookup x) := ⟨oL, es, ep, kk _ _ (Ne.symm lne) hL, rL⟩
  refine ks_wpAt_execs_cons (ks_wpAt_Assign_Attr (wpAt_of_wpAny ?_))
  refine wpAny_Name (wpAny_loadName_local rfl (by rfl) hn4 hby ?_) (by decide)
  refine wpAny_Name (wpAny_loadName_local rfl (by rfl) hn4 hself ?_) (by decide)
  refine set_plain X₄ (ox := HandSPX.excO C _) (od := none) ⟨hx₄, rfl, rfl, trivial⟩ T.sa ?_
  refine osa_openX (od := none) SF X₄ ⟨hx₄, rfl, rfl, trivial⟩ T.ov T.tk fun b => ?_
  obtain ⟨cd2, hc2, hd2⟩ := any_some T.hd
  have hcls : Looks (model prog w) h₄ (classData C) cd2 := looks_clsIn X₄ hc2
  have hes : e ≠ h₄.objs.size := Nat.ne_of_lt (Heap.lt_size hx₄)
  obtain ⟨nm2, bs2, mro2, ns2, qn2, hdd2, sn2, sb2, ab2, col2, del2⟩ := cd2
  dsimp only at hd2
  subst hd2
  dsimp only
  unfold Builtin.ObjectAttr.storeInOwnDict Builtin.ObjectAttr.ownDictForStores
  repeat (first | with_reducible refine HandSPX.store_in_new ?_ ?_ | with_reducible refine wpAny_loadPart_at hx₄ ?_ | with_reducible refine hcls.at ?_ | wp_step)
  · exact ⟨_, #[], _, (Heap.get?_update_ne _ _ _ _ hes.symm).trans (Heap.get?_push_at rfl rfl), rfl, fun e he => absurd he (by simp), fun _ => rfl⟩
  · intro h' tk' hn' hs
    have hx5 : (h₄.push { cls := .type "dict", data := .dict #[] }).get? e = some (HandSPX.excO C _) := Heap.get?_push_of_some _ hx₄
    refine wpAt_of_wpAny (wpAny_execs_nil (hq h' tk' h₄.objs.size (h₂.push (kxs_mw initId e)).objs.size (fun b o hb z => ?_) ?_))
    · have z4 := kk b o hb (k b o z)
      exact (hs.2 b (Nat.ne_of_lt (Heap.lt_size z4))).trans ((Heap.get?_update_ne _ _ _ _ hb).trans (Heap.get?_push_of_some _ z4))
    · exact (hs.2 e hes).trans (Heap.get?_update_self _ hx5 rfl)
/-- X(v): made -/
theorem exc_made_index (FB : ExcBaseFacts B newId initId bmB) (SF : StoreFacts B bmB "object.__setattr__" "object") (KF : KxsFacts B initId) (T : ExcT prog K mg x "index" (iA "index" ⟨24, 17, 24, 21⟩ ⟨24, 23, 24, 28⟩) (iB "index" "a step failed" 0 ⟨25, 8, 25, 13⟩ ⟨25, 8, 25, 15⟩ ⟨25, 8, 25, 24⟩ ⟨25, 25, 25, 40⟩ ⟨25, 8, 25, 41⟩ ⟨25, 8, 25, 41⟩ ⟨26, 8, 26, 12⟩ ⟨26, 8, 26, 18⟩ ⟨26, 21, 26, 26⟩ ⟨26, 8, 26, 26⟩) (iS "index") B newId initId bmB C fI) {v : Value} (X : K.In s.heap) (hlim : s.heap.NoLimit)
    (G : s.heap.Ns mainGlobals mg) (GB : s.heap.Ns builtinsNs mb) (hmb : mb "super" = some (.type "super")) (hroom : A.depth + 1 < recursionLimit)
    (hq : ∀ h' tk e d t1, (∀ b o, s.heap.get? b = some o → h'.get? b = some o) → s.heap.objs.size ≤ e → h'.get? e = some { cls := .ref C, dict := some d, data := .fields #[.ref t1, .none, .none, .none, .bool false, .none] } → R (.ok (.ret (.ref e))) { s with heap := h', toks := tk }) :
    codeAny (model prog w) A (.call (.ref C) ⟨[v], []⟩) R s := by
  obtain ⟨nm, N', qn, bs, bm, hdct, sn, sub, ab, col, dd, k0, k1, kk2, kk3, k5, hC, hT⟩ := excInit_of X T.q
  obtain ⟨hp, g, dr, tk, os⟩ := s
  have k : ∀ b o, hp.get? b = some o → ((hp.push (kdv_tup [v])).push (HandSPX.excO C hp.objs.size)).get? b = some o := fun b o e => Heap.get?_push_of_some _ (Heap.get?_push_of_some _ e)
  have hget : ((hp.push (kdv_tup [v])).push (HandSPX.excO C hp.objs.size)).get? (hp.objs.size + 1) = some (HandSPX.excO C hp.objs.size) := by heap_get
  have hnx : K.lookup (hp.objs.size + 1) = none := by
    cases e : K.lookup (hp.objs.size + 1) with
    | none => rfl
    | some o =>
      have z : hp.get? (hp.objs.size + 1) = some o := X _ _ e
      exact absurd (Nat.lt_of_succ_lt (Heap.lt_size z)) (Nat.lt_irrefl _)
  have two : [v].length ≤ sizeLine := by rw [sizeLine_eq]; exact (by decide : 1 ≤ 16777216)
  refine HandSPX.call_own FB hT hC (looks_findIn X T.iC) (fun self => bind_fn X self T.tC) two ?_
  refine exc_init_index (s := ⟨(hp.push (kdv_tup [v])).push (HandSPX.excO C hp.objs.size), g, dr, tk, os⟩) FB SF KF T (X.keeps k) (hlim.keeps k) (G.keeps k) (GB.keeps k) hmb hget hnx ?_ fun h' tk' dx t1 k' hx => ?_
  · show A.depth + 1 < recursionLimit
    exact hroom
  · have old : ∀ b o, hp.get? b = some o → h'.get? b = some o := fun b o e => k' b o (Nat.ne_of_lt (Nat.lt_succ_of_lt (Heap.lt_size e))) (k b o e)
    exact ⟨rfl, hq h' tk' (hp.objs.size + 1) dx t1 old (Nat.le_succ _) hx⟩
end

section
variable {prog : Program} {w : World} {A : Around} {E : Value → Shared → Prop} {R : Result → Shared → Prop} {s : Shared} {K : Frag} {mg mb : Str → Option Value} {C fI : Addr} {x : Str} {B newId initId : String} {bmB : List Value}
theorem exc_init_position (FB : ExcBaseFacts B newId initId bmB) (SF : StoreFacts B bmB "object.__setattr__" "object") (KF : KxsFacts B initId) (T : ExcT prog K mg x "position" (iA "position" ⟨34, 17, 34, 21⟩ ⟨34, 23, 34, 31⟩) (iB "position" "the effect does not apply" 0 ⟨35, 8, 35, 13⟩ ⟨35, 8, 35, 15⟩ ⟨35, 8, 35, 24⟩ ⟨35, 25, 35, 52⟩ ⟨35, 8, 35, 53⟩ ⟨35, 8, 35, 53⟩ ⟨36, 8, 36, 12⟩ ⟨36, 8, 36, 21⟩ ⟨36, 24, 36, 32⟩ ⟨36, 8, 36, 32⟩) (iS "position") B newId initId bmB C fI) {e t0 : Addr} {v : Value} (X : K.In s.heap) (hlim : s.heap.NoLimit)
    (G : s.heap.Ns mainGlobals mg) (GB : s.heap.Ns builtinsNs mb) (hmb : mb "super" = some (.type "super")) (hx : s.heap.get? e = some (HandSPX.excO C t0)) (hnx : K.lookup e = none) (hroom : A.depth < recursionLimit)
    (hq : ∀ h' tk dx t1, (∀ b o, b ≠ e → s.heap.get? b = some o → h'.get? b = some o) → h'.get? e = some { cls := .ref C, dict := some dx, data := .fields #[.ref t1, .none, .none, .none, .bool false, .none] } → R (.ok (.ret .none)) { s with heap := h', toks := tk }) :
    codeAny (model prog w) A (.call (.ref fI) ⟨[.ref e, v], []⟩) R s := by
  obtain ⟨cc, cl, cld, csl, hcell, oc, od, doc, pm, an, cda, ct, osl, qual, ho, hcd, ccl, cdd, vs, ccs, file, tf, hcda, hvs, hfile⟩ := T.cell
  obtain ⟨cd, hcl⟩ := clsIn_of T.q
  refine ks_codeAny_call_defAt (body := (iB "position" "the effect does not apply" 0 ⟨35, 8, 35, 13⟩ ⟨35, 8, 35, 15⟩ ⟨35, 8, 35, 24⟩ ⟨35, 25, 35, 52⟩ ⟨35, 8, 35, 53⟩ ⟨35, 8, 35, 53⟩ ⟨36, 8, 36, 12⟩ ⟨36, 8, 36, 21⟩ ⟨36, 24, 36, 32⟩ ⟨36, 8, 36, 32⟩)) (binds := [("self", .ref e), ("position", v)]) hroom (X _ _ ho) rfl hlim (codeRec_of X hcd) rfl (BindsTo.of_eq (by first | rfl | with_unfolding_all rfl)) (show ∀ x ∈ (iS "position").names, x.2 ≠ .cell by decide +kernel) (fun y hy => ?_) (fun h₁ hns k => ?_)
  · rcases List.mem_cons.mp hy with rfl | hy
    · first | rfl | kernel_rfl
    · rcases List.mem_cons.mp hy with rfl | hy
      · first | rfl | kernel_rfl
      · cases hy
  have X₁ : K.In h₁ := X.keeps k
  have hself : ([(("self" : Str), Value.ref e), (("position" : Str), v)].reverse.lookup ("self" : Str)) = some (.ref e) := by first | rfl | kernel_rfl
  have hby : ([(("self" : Str), Value.ref e), (("position" : Str), v)].reverse.lookup ("position" : Str)) = some v := by first | rfl | kernel_rfl
  have hx₁ := k _ _ hx
  have I₁ : InstAt h₁ e (HandSPX.excO C t0) C none := ⟨hx₁, rfl, rfl, trivial⟩
  obtain ⟨oD, hD1, hD2⟩ : ∃ oD, h₁.get? C = some oD ∧ oD.data = .cls cd := by
    unfold clsIn at hcl
    split at hcl
    · rename_i c d cd' sl ho
      cases hcl
      exact ⟨_, X₁ _ _ ho, rfl⟩
    · cases hcl
  have heC : e ≠ C := fun z => by
    rw [z] at hx₁
    rw [hx₁] at hD1
    cases hD1
    cases hD2
  have hIn : ∀ {hh : Heap}, K.In hh → InstAt hh e (HandSPX.excO C t0) C none → Looks (model prog w) hh (isInstance (.ref e) (.type B)) true := fun XX II => II.type.andThen (looks_subIn XX T.sB)
  refine ks_wpAt_execs_cons (ks_wpAt_Expr_any (ks_wpAt_MethodCall ?_))
  refine ks_wpAt_super_base (f := fI) (cc := cda) (by rfl) (by rfl) (by decide) rfl (X₁ _ _ ho) rfl (ar := { arg := "self", annotation := none, pos := ⟨34, 17, 34, 21⟩ }) rfl rfl (X₁ _ _ hcda) rfl hvs hfile T.top ?_
  refine ks_loadName_global rfl (by rfl) (loadGlobal_builtin (G.keeps k) T.sup (GB.keeps k) hmb ⟨rfl, ?_⟩)
  refine wpAny_loadName_free rfl (by rfl) rfl ⟨_, X₁ _ _ hcell, rfl⟩ ?_
  refine wpAny_loadName_local rfl (by rfl) hns hself ?_
  refine ks_wpAny_isType_cls hD1 hD2 ⟨rfl, ?_⟩
  refine ks_wpAny_call_super hD1 hD2 hx₁ rfl (fun c z => by cases z) (looks_mroIn X₁ T.sC) (fun h₂ hso k2 => ?_)
  have X₂ : K.In h₂ := X₁.keeps k2
  have hx₂ := k2 _ _ hx₁
  have hmr : Looks (model prog w) h₂ (mroOf (.ref C)) cd.mro := fun A Q E s k q => wpAny_bind ((looks_clsIn X₂ hcl) A _ E s k (wpAny_pure q))
  have hm2 : alongIn K "__init__" ((cd.mro.dropWhile (· != .ref C)).drop 1) = some (some (.builtin initId)) := by
    have h := T.hm
    unfold ks_superIn at h
    rw [hcl] at h
    exact h
  refine kxs_getMethod KF hso (looks_opaque X₂ T.ho) hmr rfl X₂ hm2 (hIn X₂ ⟨hx₂, rfl, rfl, trivial⟩) heC (by decide) ?_
  have hmw : (h₂.push (kxs_mw initId e)).get? h₂.objs.size = some (kxs_mw initId e) := Heap.get?_push_at rfl rfl
  have k3 : ∀ b o, h₂.get? b = some o → (h₂.push (kxs_mw initId e)).get? b = some o := fun b o z => Heap.get?_push_of_some _ z
  refine kxs_callWith (i := initId) (x := e) rfl (Calls.evalArgs_plain ?_)
  refine spliced_more (Calls.Constant_str (spliced_none ⟨hmw, ?_⟩))
  have X₃ : K.In (h₂.push (kxs_mw initId e)) := X₂.keeps k3
  have hx₃ := k3 _ _ hx₂
  obtain ⟨nm, N', qn, bs, bm, hdct, sn, sub, ab, col, dd, k0, k1, kk2, kk3, k5, hC, hT⟩ := excInit_of X₃ T.q
  have two : ∀ z : Value, [z].length ≤ sizeLine := fun z => by rw [sizeLine_eq]; exact (by decide : 1 ≤ 16777216)
  have lne : e ≠ s.heap.objs.size := Nat.ne_of_lt (Heap.lt_size hx)
  refine wpAny_call (codeAny_of_tree ?_)
  show wpAny _ _ (callAny (.ref h₂.objs.size) ⟨_, []⟩) _ _ _
  simp only [callAny]
  refine wpAny_bind (wpAny_load hmw ?_)
  simp only [kxs_mw, show (Value.type "method-wrapper" == Value.type "method" || Value.type "method-wrapper" == Value.type "builtin_function_or_method" || Value.type "method-wrapper" == Value.type "method-wrapper") = true by decide, if_true]
  refine KFB.if_so (by decide) ?_
  refine wpAny_bind (check_bound_init FB.toExcCallFacts hC hx₃ rfl ?_)
  refine wpAny_bind (wpAny_pure (wpAny_pure ?_))
  refine ⟨plainId_quiet FB.init.plain _, codeAny_builtin FB.initEntry ?_⟩
  refine exc_init_tree (cls := .ref C) (t0 := t0) (dv := none) (c2 := .none) (c3 := .none) (b4 := .bool false) hx₃ (two _) (fun h₄ k4 hx₄ _ => ?_)
  have kk : ∀ b o, b ≠ e → h₁.get? b = some o → h₄.get? b = some o := fun b o hb z => k4 b o hb (k3 b o (k2 b o z))
  have X₄ : K.In h₄ := fun a o z => kk a o (fun y => by rw [y, hnx] at z; cases z) (X₁ a o z)
  obtain ⟨oL, es, ep, hL, rL⟩ := hns
  have hn4 : h₄.Ns s.heap.objs.size (fun x => [(("self" : Str), Value.ref e), (("position" : Str), v)].reverse.lookup x) := ⟨oL, es, ep, kk _ _ (Ne.symm lne) hL, rL⟩
  refine ks_wpAt_execs_cons (ks_wpAt_Assign_Attr (wpAt_of_wpAny ?_))
  refine wpAny_Name (wpAny_loadName_local rfl (by rfl) hn4 hby ?_) (by decide)
  refine wpAny_Name (wpAny_loadName_local rfl (by rfl) hn4 hself ?_) (by decide)
  refine set_plain X₄ (ox := HandSPX.excO C _) (od := none) ⟨hx₄, rfl, rfl, trivial⟩ T.sa ?_
  refine osa_openX (od := none) SF X₄ ⟨hx₄, rfl, rfl, trivial⟩ T.ov T.tk fun b => ?_
  obtain ⟨cd2, hc2, hd2⟩ := any_some T.hd
  have hcls : Looks (model prog w) h₄ (classData C) cd2 := looks_clsIn X₄ hc2
  have hes : e ≠ h₄.objs.size := Nat.ne_of_lt (Heap.lt_size hx₄)
  obtain ⟨nm2, bs2, mro2, ns2, qn2, hdd2, sn2, sb2, ab2, col2, del2⟩ := cd2
  dsimp only at hd2
  subst hd2
  dsimp only
  unfold Builtin.ObjectAttr.storeInOwnDict Builtin.ObjectAttr.ownDictForStores
  repeat (first | with_reducible refine HandSPX.store_in_new ?_ ?_ | with_reducible refine wpAny_loadPart_at hx₄ ?_ | with_reducible refine hcls.at ?_ | wp_step)
  · exact ⟨_, #[], _, (Heap.get?_update_ne _ _ _ _ hes.symm).trans (Heap.get?_push_at rfl rfl), rfl, fun e he => absurd he (by simp), fun _ => rfl⟩
  · intro h' tk' hn' hs
    have hx5 : (h₄.push { cls := .type "dict", data := .dict #[] }).get? e = some (HandSPX.excO C _) := Heap.get?_push_of_some _ hx₄
    refine wpAt_of_wpAny (wpAny_execs_nil (hq h' tk' h₄.objs.size (h₂.push (kxs_mw initId e)).objs.size (fun b o hb z => ?_) ?_))
    · have z4 := kk b o hb (k b o z)
      exact (hs.2 b (Nat.ne_of_lt (Heap.lt_size z4))).trans ((Heap.get?_update_ne _ _ _ _ hb).trans (Heap.get?_push_of_some _ z4))
    · exact (hs.2 e hes).trans (Heap.get?_update_self _ hx5 rfl)
/-- X(v): made -/
theorem exc_made_position (FB : ExcBaseFacts B newId initId bmB) (SF : StoreFacts B bmB "object.__setattr__" "object") (KF : KxsFacts B initId) (T : ExcT prog K mg x "position" (iA "position" ⟨34, 17, 34, 21⟩ ⟨34, 23, 34, 31⟩) (iB "position" "the effect does not apply" 0 ⟨35, 8, 35, 13⟩ ⟨35, 8, 35, 15⟩ ⟨35, 8, 35, 24⟩ ⟨35, 25, 35, 52⟩ ⟨35, 8, 35, 53⟩ ⟨35, 8, 35, 53⟩ ⟨36, 8, 36, 12⟩ ⟨36, 8, 36, 21⟩ ⟨36, 24, 36, 32⟩ ⟨36, 8, 36, 32⟩) (iS "position") B newId initId bmB C fI) {v : Value} (X : K.In s.heap) (hlim : s.heap.NoLimit)
    (G : s.heap.Ns mainGlobals mg) (GB : s.heap.Ns builtinsNs mb) (hmb : mb "super" = some (.type "super")) (hroom : A.depth + 1 < recursionLimit)
    (hq : ∀ h' tk e d t1, (∀ b o, s.heap.get? b = some o → h'.get? b = some o) → s.heap.objs.size ≤ e → h'.get? e = some { cls := .ref C, dict := some d, data := .fields #[.ref t1, .none, .none, .none, .bool false, .none] } → R (.ok (.ret (.ref e))) { s with heap := h', toks := tk }) :
    codeAny (model prog w) A (.call (.ref C) ⟨[v], []⟩) R s := by
  obtain ⟨nm, N', qn, bs, bm, hdct, sn, sub, ab, col, dd, k0, k1, kk2, kk3, k5, hC, hT⟩ := excInit_of X T.q
  obtain ⟨hp, g, dr, tk, os⟩ := s
  have k : ∀ b o, hp.get? b = some o → ((hp.push (kdv_tup [v])).push (HandSPX.excO C hp.objs.size)).get? b = some o := fun b o e => Heap.get?_push_of_some _ (Heap.get?_push_of_some _ e)
  have hget : ((hp.push (kdv_tup [v])).push (HandSPX.excO C hp.objs.size)).get? (hp.objs.size + 1) = some (HandSPX.excO C hp.objs.size) := by heap_get
  have hnx : K.lookup (hp.objs.size + 1) = none := by
    cases e : K.lookup (hp.objs.size + 1) with
    | none => rfl
    | some o =>
      have z : hp.get? (hp.objs.size + 1) = some o := X _ _ e
      exact absurd (Nat.lt_of_succ_lt (Heap.lt_size z)) (Nat.lt_irrefl _)
  have two : [v].length ≤ sizeLine := by rw [sizeLine_eq]; exact (by decide : 1 ≤ 16777216)
  refine HandSPX.call_own FB hT hC (looks_findIn X T.iC) (fun self => bind_fn X self T.tC) two ?_
  refine exc_init_position (s := ⟨(hp.push (kdv_tup [v])).push (HandSPX.excO C hp.objs.size), g, dr, tk, os⟩) FB SF KF T (X.keeps k) (hlim.keeps k) (G.keeps k) (GB.keeps k) hmb hget hnx ?_ fun h' tk' dx t1 k' hx => ?_
  · show A.depth + 1 < recursionLimit
    exact hroom
  · have old : ∀ b o, hp.get? b = some o → h'.get? b = some o := fun b o e => k' b o (Nat.ne_of_lt (Nat.lt_succ_of_lt (Heap.lt_size e))) (k b o e)
    exact ⟨rfl, hq h' tk' (hp.objs.size + 1) dx t1 old (Nat.le_succ _) hx⟩
end

end TXE
namespace TX
open PySem PySem.Spec PyProof.Rows L2 TXE
/-- X(e), X an own exception over RuntimeError or LookupError -/
def tMkE (C : Addr) (ta : TA) : L2.St → Hp → XK → Prop := fun σ H Q => ta σ H fun vs H1 => ∃ v, vs = [v] ∧ ∀ d, Q (.ref C) (some d) H1
section
variable {X : Cx} {C fI : Addr} {x f : Str} {ar : Arguments} {bo : List Stmt} {sc : Scope} {B newId initId : String} {bmB : List Value}
theorem pmk_e {a : Expr} {ta : TA} {p pos : Pos} {k : Nat} (T : ExcT X.prog X.K X.mg x f ar bo sc B newId initId bmB C fI) (hmade : ∀ {A : Around} {R : Result → Shared → Prop} {s : Shared} {mb : Str → Option Value} {v : Value}, X.K.In s.heap → s.heap.NoLimit → s.heap.Ns mainGlobals X.mg → s.heap.Ns builtinsNs mb → mb "super" = some (.type "super") → A.depth + 1 < recursionLimit →
      (∀ h' tk e d t1, (∀ b o, s.heap.get? b = some o → h'.get? b = some o) → s.heap.objs.size ≤ e → h'.get? e = some { cls := .ref C, dict := some d, data := .fields #[.ref t1, .none, .none, .none, .bool false, .none] } → R (.ok (.ret (.ref e))) { s with heap := h', toks := tk }) →
      codeAny (model X.prog X.w) A (.call (.ref C) ⟨[v], []⟩) R s)
    (hr : Room k X.A) (ha : PA X [a] ta) (hg : Gl X x := by rfl) (hd : (x == ("__debug__" : Str)) = false := by decide)
    (he : starEach (a :: []) X.env = (false, eval a X.env) :: starEach [] X.env := by rfl) (hpl : (backTo pos (starEach [] X.env)).any (·.1) = false := by rfl) :
    PMk X (.Call (.Name x p) [a] [] pos) (tMkE C ta) := by
  intro pins s σ H Q I h
  refine wpAny_Call_Name_kw (ld_glob I hg T.gC ?_ hd)
  refine PySem.W.callWith_K (h₀ := X.base) I.ok.mod.kin T.kC (thn (ha.run pos pins s σ H _ I h) fun us s1 hh => ?_) he hpl
  obtain ⟨vs, H1, I1, r1, v, ev, q1⟩ := hh
  subst ev
  refine ⟨I1.kIn, ?_⟩
  cases r1 with
  | cons rv rn =>
    rename_i v' us'
    cases rn
    show wpAny _ _ (call (.ref C) [v']) _ _ _
    have hlim := I1.nolimit
    obtain ⟨mb, b1, b2⟩ := I1.mod.blt
    have G1 := I1.mod.glob.keeps I1.bk
    have B1 := b1.keeps I1.bk
    have k1 := I1.kIn
    refine wpAny_call (hmade k1 hlim G1 B1 ((b2 "super" (by decide)).trans (by decide +kernel)) (by have := hr.dp; omega) fun h' tk' e d t1 old ge hx => ?_)
    obtain ⟨hp, g, dr, tk, os⟩ := s1
    show MkP X pins σ Q (.ref e) ⟨h', g, dr, tk', os⟩
    obtain ⟨G', g1, g2⟩ := restrict h' fun b => decide (b ≠ e)
    have gk : ∀ b, b ≠ e → G'.get? b = h'.get? b := fun b hb => g1 b (decide_eq_true hb)
    have gen : G'.get? e = none := g2 e (by simp)
    have old' : ∀ b o, hp.get? b = some o → G'.get? b = some o := fun b o q => (gk b (Nat.ne_of_lt (Nat.lt_of_lt_of_le (Heap.lt_size q) ge))).trans (old b o q)
    have J : Inv X pins σ H1 ⟨G', g, dr, tk', os⟩ := I1.kept (t' := tk') old'
    refine ⟨e, _, _, ⟨G', g, dr, tk', os⟩, H1, .ref C, some d, rfl, J, fun b o q => ?_, gen, hx, ⟨rfl, rfl⟩, rfl, rfl, I1.hok.fresh ge, rfl, I1.bare, raises_own T.exC T.tyC, q1 d⟩
    by_cases hb : b = e
    · have q' : G'.get? b = some o := q
      rw [hb, gen] at q'; cases q'
    · exact (gk b hb).symm.trans q
end
end TX
end
section
set_option autoImplicit false
set_option maxHeartbeats 4000000
/-! The text: each def as a datum; what the written part says (Txt). -/
namespace TX
open PySem PySem.Spec PyProof.Rows L2 He
abbrev ExcS (P : Program) (K : PySem.W.Frag) (mg : PySem.Str → Option Value) : Prop := TXE.ExcT P K mg "StepFailed" "index" (TXE.iA "index" ⟨24, 17, 24, 21⟩ ⟨24, 23, 24, 28⟩) (TXE.iB "index" "a step failed" 0 ⟨25, 8, 25, 13⟩ ⟨25, 8, 25, 15⟩ ⟨25, 8, 25, 24⟩ ⟨25, 25, 25, 40⟩ ⟨25, 8, 25, 41⟩ ⟨25, 8, 25, 41⟩ ⟨26, 8, 26, 12⟩ ⟨26, 8, 26, 18⟩ ⟨26, 21, 26, 26⟩ ⟨26, 8, 26, 26⟩) (TXE.iS "index") "RuntimeError" "RuntimeError.__new__" "RuntimeError.__init__" [.type "RuntimeError", .type "Exception", .type "BaseException", .type "object"] (ga K "StepFailed") (ma K (ga K "StepFailed") "__init__")
abbrev ExcN (P : Program) (K : PySem.W.Frag) (mg : PySem.Str → Option Value) : Prop := TXE.ExcT P K mg "NotApplicable" "position" (TXE.iA "position" ⟨34, 17, 34, 21⟩ ⟨34, 23, 34, 31⟩) (TXE.iB "position" "the effect does not apply" 0 ⟨35, 8, 35, 13⟩ ⟨35, 8, 35, 15⟩ ⟨35, 8, 35, 24⟩ ⟨35, 25, 35, 52⟩ ⟨35, 8, 35, 53⟩ ⟨35, 8, 35, 53⟩ ⟨36, 8, 36, 12⟩ ⟨36, 8, 36, 21⟩ ⟨36, 24, 36, 32⟩ ⟨36, 8, 36, 32⟩) (TXE.iS "position") "LookupError" "LookupError.__new__" "LookupError.__init__" [.type "LookupError", .type "Exception", .type "BaseException", .type "object"] (ga K "NotApplicable") (ma K (ga K "NotApplicable") "__init__")
/-- what the written part and the module's names say -/
structure Txt (P : Program) (K : PySem.W.Frag) (mg : PySem.Str → Option Value) : Prop where
  glo : ∀ x ∈ glos, mg x = some (.ref (ga K x))
  kpg : ∀ x ∈ glos, PySem.W.keepIn K (.ref (ga K x)) = true
  fre : ∀ x ∈ frees, mg x = none
  cls : ∀ x ∈ clss, Cls K (ga K x)
  mkr : ∀ x ∈ clss, Mk K (ga K x) (ma K (ga K x) "__init__")
  met : ∀ p ∈ mets, Meth K (ga K p.1) p.2 (ma K (ga K p.1) p.2)
  noat : ∀ p ∈ noats, NoAttr K (ga K p.1) p.2
  fn : ∀ (i : Nat) (d : He5.DefA), fns[i]? = some d → ∃ fd, FunD K d.name d.qual d.params d.body d.scope (d.dvs K) (d.kws K) (d.at_ K) fd
  lets : ∃ t, mg "LETTERS" = some (.str abc t)
  most : ∃ t, mg "MAX_LETTERS" = some (.int 8 t)
  isC : ∀ x ∈ eqcs, C8.InsC K (ga K x)
  eqf : ∀ x ∈ eqcs, PySem.W.findIn K (.ref (ga K x)) "__eq__" = some (some (.ref (ma K (ga K x) "__eq__"))) ∧ PySem.W.isFn K (.ref (ma K (ga K x) "__eq__")) = true ∧ PySem.W.mroIn K (ga K x) (.type "object") = some true ∧ PySem.W.findIn K (.ref (ga K x)) "__ne__" = some (some (.builtin "object.__ne__"))
  prop : ∀ f ∈ props, PropOf K (ga K "Effect") f (ma K (ga K "Effect") f) (He5.wf K (ga K "Effect") "property" f)
  cread : ClX.CRead K (ga K "Effect") (.type "type")
  cmet : ClX.CMet K (ga K "Effect") (.type "type") "identity" (ma K (ga K "Effect") "identity") (He5.wf K (ga K "Effect") "classmethod" "identity")
  excS : ExcS P K mg
  excN : ExcN P K mg
  exmS : PySem.W.exmOne K (.ref (ga K "StepFailed")) (.ref (ga K "StepFailed")) = some true
  exmN : PySem.W.exmOne K (.ref (ga K "NotApplicable")) (.ref (ga K "NotApplicable")) = some true
section
variable {P : Program} {w : World} {K : PySem.W.Frag} {mg : PySem.Str → Option Value} {base : Heap} {k : Nat} {sp : Sp} {N ps : List PySem.Str}
/-- a def's body keeps a promise -/
def Body (P : Program) (w : World) (K : PySem.W.Frag) (mg : PySem.Str → Option Value) (base : Heap) (k : Nat) (d : He5.DefA) (N : List PySem.Str) (sp : Sp) : Prop :=
  ∀ (f : Addr) (cdv : Value) (A : Around) (outer : List Env) (s : Shared) (H : Hp) (vs : List V) (Q : VK) (E : XK), Room k (A.deeper (envOfC d.qual d.scope s.heap.objs.size f cdv)) → sp vs H Q E →
    ∃ t, PSs (cxOf (L2.CX P w) P w K mg base N d.qual d.scope f cdv A outer s H E) d.body t ∧ t { nx := fun _ H' => Q .non H', rt := Q } (start N vs) H
def BindN (d : He5.DefA) (ps : List PySem.Str) : Prop :=
  ∀ (kV doc pm : Value) (an : Option Addr) (cdv ct : Value) (us : List Value), us.length = ps.length → bindArgs (PySem.W.fnOf d.name d.qual d.params d.body d.scope .none kV doc pm an cdv ct) ⟨us, []⟩ = pure (ps.zip us)
theorem fnrN (T : Txt P K mg) (i : Nat) {d : He5.DefA} (hi : fns[i]? = some d) (hd : d.dfl = []) (S : FnScope N ps d.scope) (hb : BindN d ps) (len : ∀ vs H Q E, sp vs H Q E → vs.length = ps.length) (body : Body P w K mg base k d N sp) :
    FnR P w K mg base (L2.CX P w) (k + 1) (d.at_ K) sp := by
  obtain ⟨fd, F⟩ := T.fn i d hi
  have e : d.dvs K = [] := by unfold He5.DefA.dvs; rw [hd]; rfl
  rw [e] at F
  have G : FnOk P w K mg base (L2.CX P w) (k + 1) (d.at_ K) fd ps sp := F.ok S len fun cdv A outer s H vs Q E hr h => body (d.at_ K) cdv A outer s H vs Q E hr h
  exact (G.raw (F.bindsN hb) .nil).imp fun vs H Q E h => by rw [List.append_nil]; exact h
theorem dfnN (T : Txt P K mg) (i : Nat) {d : He5.DefA} (hi : fns[i]? = some d) (x : PySem.Str) (hx : x ∈ glos) (hat : d.at_ K = ga K x) (hd : d.dfl = []) (S : FnScope N ps d.scope) (hb : BindN d ps) (len : ∀ vs H Q E, sp vs H Q E → vs.length = ps.length) (body : Body P w K mg base k d N sp) :
    Dfn P w K mg base (k + 1) x sp := ⟨ga K x, T.glo x hx, T.kpg x hx, by rw [← hat]; exact fnrN T i hi hd S hb len body⟩
theorem mtdN (T : Txt P K mg) (i : Nat) {d : He5.DefA} (hi : fns[i]? = some d) (c m : PySem.Str) (hc : c ∈ clss) (hm : (c, m) ∈ mets) (hat : d.at_ K = ma K (ga K c) m) (hd : d.dfl = []) (S : FnScope N ps d.scope) (hb : BindN d ps) (len : ∀ vs H Q E, sp vs H Q E → vs.length = ps.length) (body : Body P w K mg base k d N sp) :
    Mtd P w K mg base (k + 1) (ga K c) m sp := ⟨_, T.cls c hc, T.met (c, m) hm, by rw [← hat]; exact fnrN T i hi hd S hb len body⟩
theorem mkrN (T : Txt P K mg) (i : Nat) {d : He5.DefA} (hi : fns[i]? = some d) (c : PySem.Str) (hc : c ∈ clss) (hat : d.at_ K = ma K (ga K c) "__init__") (hd : d.dfl = []) (S : FnScope N ps d.scope) (hb : BindN d ps) (len : ∀ vs H Q E, sp vs H Q E → vs.length = ps.length) (body : Body P w K mg base k d N sp) :
    Mkr P w K mg base (k + 1) (ga K c) sp := ⟨_, T.mkr c hc, by rw [← hat]; exact fnrN T i hi hd S hb len body⟩
theorem Dfn.imp {x : PySem.Str} {sp' : Sp} (D : Dfn P w K mg base k x sp) (h : ∀ vs H Q E, sp' vs H Q E → sp vs H Q E) : Dfn P w K mg base k x sp' := by
  obtain ⟨f, a, b, F⟩ := D.ex
  exact ⟨f, a, b, F.imp h⟩
end
/-- an outcome that is known -/
theorem iteT' {c : Bool} {A B : Prop} (hc : c = true) (h : A) : if c = true then A else B := by rw [if_pos hc]; exact h
theorem iteF' {c : Bool} {A B : Prop} (hc : c = false) (h : B) : if c = true then A else B := by rw [hc, if_neg Bool.false_ne_true]; exact h
end TX
end
section
/-! The plain law: effects of step sequences as functions, composition, runs on tapes. No program here. -/
namespace TE
section
variable {L : Type} [DecidableEq L]

/-- a step -/
inductive Stp (L : Type) where
  | left
  | right
  | wr (z : L)
  | ex (z : L)

/-- an effect: what it expects, what it changes (never to the expected letter), its shift -/
structure SE (L : Type) where
  N : Int → Option L
  C : Int → Option L
  m : Int

theorem SE.ext' {e f : SE L} (h1 : ∀ i, e.N i = f.N i) (h2 : ∀ i, e.C i = f.C i) (h3 : e.m = f.m) : e = f := by
  obtain ⟨a, b, c⟩ := e
  obtain ⟨a', b', c'⟩ := f
  have e1 : a = a' := funext h1
  have e2 : b = b' := funext h2
  have e3 : c = c' := h3
  rw [e1, e2, e3]

def fset (f : Int → Option L) (i : Int) (v : Option L) : Int → Option L := fun j => if j = i then v else f j
theorem fset_same (f : Int → Option L) (i : Int) (v : Option L) : fset f i v i = v := if_pos rfl
theorem fset_ne (f : Int → Option L) {i j : Int} (v : Option L) (h : j ≠ i) : fset f i v j = f j := if_neg h

/-- the letter that is known at an offset -/
def SE.K (e : SE L) (i : Int) : Option L := (e.C i).or (e.N i)
def SE.one : SE L := ⟨fun _ => none, fun _ => none, 0⟩
def SE.Norm (e : SE L) : Prop := ∀ i z, e.C i = some z → e.N i ≠ some z

def SE.expect (e : SE L) (o : Int) (z : L) : Option (SE L) :=
  match e.K o with
  | none => some ⟨fset e.N o (some z), e.C, e.m⟩
  | some y => if y = z then some e else none
def SE.write (e : SE L) (o : Int) (z : L) : SE L := ⟨e.N, fset e.C o (if e.N o = some z then none else some z), e.m⟩
def SE.step (e : SE L) : Stp L → Option (SE L)
  | .left => some ⟨e.N, e.C, e.m - 1⟩
  | .right => some ⟨e.N, e.C, e.m + 1⟩
  | .wr z => some (e.write e.m z)
  | .ex z => e.expect e.m z
def runE (e : SE L) : List (Stp L) → Option (SE L)
  | [] => some e
  | s :: r => (e.step s).bind fun e' => runE e' r
def effOf (l : List (Stp L)) : Option (SE L) := runE SE.one l

theorem runE_append (e : SE L) (l r : List (Stp L)) : runE e (l ++ r) = (runE e l).bind fun e' => runE e' r := by
  induction l generalizing e with
  | nil => rfl
  | cons s l ih =>
    show (e.step s).bind (fun e' => runE e' (l ++ r)) = ((e.step s).bind fun e' => runE e' l).bind fun e' => runE e' r
    cases e.step s with
    | none => rfl
    | some e' => exact ih e'

theorem norm_one : (SE.one : SE L).Norm := fun i z h => by cases h
theorem norm_expect {e e' : SE L} {o : Int} {z : L} (n : e.Norm) (h : e.expect o z = some e') : e'.Norm := by
  unfold SE.expect at h
  cases k : e.K o with
  | none =>
    rw [k] at h
    have e1 := Option.some.inj h
    subst e1
    intro i y hc
    show fset e.N o (some z) i ≠ some y
    by_cases q : i = o
    · subst q
      unfold SE.K at k
      have hc' : e.C i = some y := hc
      rw [hc'] at k
      cases k
    · rw [fset_ne _ _ q]
      exact n i y hc
  | some y =>
    rw [k] at h
    dsimp only at h
    by_cases q : y = z
    · rw [if_pos q] at h
      rw [← Option.some.inj h]
      exact n
    · rw [if_neg q] at h
      cases h
theorem norm_write {e : SE L} (n : e.Norm) (o : Int) (z : L) : (e.write o z).Norm := by
  intro i y hc
  show e.N i ≠ some y
  have hc' : fset e.C o (if e.N o = some z then none else some z) i = some y := hc
  by_cases q : i = o
  · subst q
    rw [fset_same] at hc'
    by_cases w : e.N i = some z
    · rw [if_pos w] at hc'
      cases hc'
    · rw [if_neg w] at hc'
      rw [← Option.some.inj hc']
      exact w
  · rw [fset_ne _ _ q] at hc'
    exact n i y hc'
theorem norm_step {e e' : SE L} {s : Stp L} (n : e.Norm) (h : e.step s = some e') : e'.Norm := by
  cases s with
  | left => rw [← Option.some.inj h]; exact n
  | right => rw [← Option.some.inj h]; exact n
  | wr z => rw [← Option.some.inj h]; exact norm_write n _ _
  | ex z => exact norm_expect n h
theorem norm_run {e e' : SE L} {l : List (Stp L)} (n : e.Norm) (h : runE e l = some e') : e'.Norm := by
  induction l generalizing e with
  | nil => rw [← Option.some.inj h]; exact n
  | cons s l ih =>
    have h' : ((e.step s).bind fun e' => runE e' l) = some e' := h
    cases q : e.step s with
    | none => rw [q] at h'; cases h'
    | some e1 =>
      rw [q] at h'
      exact ih (norm_step n q) h'
theorem norm_eff {e : SE L} {l : List (Stp L)} (h : effOf l = some e) : e.Norm := norm_run norm_one h

/-! ### composition -/
open Classical in
def SE.clash (e f : SE L) : Prop := ∃ i z y, f.N i = some z ∧ e.K (e.m + i) = some y ∧ y ≠ z
def SE.cN (e f : SE L) (p : Int) : Option L := match e.K p with
  | none => f.N (p - e.m)
  | some _ => e.N p
def SE.cC (e f : SE L) (p : Int) : Option L := match f.C (p - e.m) with
  | some z => if e.cN f p = some z then none else some z
  | none => e.C p
def SE.cat (e f : SE L) : SE L := ⟨e.cN f, e.cC f, e.m + f.m⟩
open Classical in
noncomputable def SE.comp (e f : SE L) : Option (SE L) := if e.clash f then none else some (e.cat f)

theorem comp_clash {e f : SE L} (h : e.clash f) : e.comp f = none := if_pos h
theorem comp_ok {e f : SE L} (h : ¬ e.clash f) : e.comp f = some (e.cat f) := if_neg h

theorem cN_none {e f : SE L} {p : Int} (h : e.K p = none) : e.cN f p = f.N (p - e.m) := by unfold SE.cN; rw [h]
theorem cN_some {e f : SE L} {p : Int} {y : L} (h : e.K p = some y) : e.cN f p = e.N p := by unfold SE.cN; rw [h]
theorem K_none {e : SE L} {p : Int} (h : e.K p = none) : e.C p = none ∧ e.N p = none := by
  unfold SE.K at h
  cases c : e.C p with
  | none => rw [c] at h; exact ⟨rfl, h⟩
  | some y => rw [c] at h; cases h
theorem K_ofC {e : SE L} {p : Int} {y : L} (h : e.C p = some y) : e.K p = some y := by unfold SE.K; rw [h]; rfl
theorem K_ofN {e : SE L} {p : Int} (h : e.C p = none) : e.K p = e.N p := by unfold SE.K; rw [h]; rfl

/-- what is known behind both -/
theorem cat_K {e f : SE L} (ne : e.Norm) (nc : ¬ e.clash f) (p : Int) : (e.cat f).K p = (f.K (p - e.m)).or (e.K p) := by
  have hp : e.m + (p - e.m) = p := by omega
  cases c : f.C (p - e.m) with
  | some z =>
    rw [K_ofC c]
    show ((e.cC f p).or (e.cN f p)) = some z
    unfold SE.cC
    rw [c]
    dsimp only
    by_cases q : e.cN f p = some z
    · rw [if_pos q, q]; rfl
    · rw [if_neg q]; rfl
  | none =>
    rw [K_ofN c]
    have hC : (e.cat f).C p = e.C p := by
      show e.cC f p = e.C p
      unfold SE.cC
      rw [c]
    cases k : e.K p with
    | none =>
      obtain ⟨k1, k2⟩ := K_none k
      rw [K_ofN (hC.trans k1)]
      show e.cN f p = (f.N (p - e.m)).or none
      rw [cN_none k]
      cases f.N (p - e.m) <;> rfl
    | some y =>
      have hN : (e.cat f).N p = e.N p := cN_some k
      have hK : (e.cat f).K p = some y := by
        unfold SE.K
        rw [hC, hN]
        exact k
      rw [hK]
      cases g : f.N (p - e.m) with
      | none => rfl
      | some z =>
        have : y = z := by
          cases Classical.em (y = z) with
          | inl h => exact h
          | inr h => exact absurd ⟨p - e.m, z, y, g, by rw [hp]; exact k, h⟩ nc
        rw [this]; rfl

theorem norm_cat {e f : SE L} (ne : e.Norm) : (e.cat f).Norm := by
  intro p z h
  show e.cN f p ≠ some z
  have h' : e.cC f p = some z := h
  unfold SE.cC at h'
  cases c : f.C (p - e.m) with
  | some y =>
    rw [c] at h'
    dsimp only at h'
    by_cases q : e.cN f p = some y
    · rw [if_pos q] at h'; cases h'
    · rw [if_neg q] at h'
      rw [← Option.some.inj h']
      exact q
  | none =>
    rw [c] at h'
    dsimp only at h'
    rw [cN_some (K_ofC h')]
    exact ne p z h'

/-- one further step of the second is one further step of both -/
theorem comp_step {e f : SE L} (ne : e.Norm) (nf : f.Norm) (s : Stp L) : ((e.comp f).bind fun g => g.step s) = (f.step s).bind fun f' => e.comp f' := by
  have sub (p : Int) : (e.m + p) - e.m = p := by omega
  have add (p : Int) : e.m + (p - e.m) = p := by omega
  cases s with
  | left =>
    show ((e.comp f).bind fun g => some _) = e.comp ⟨f.N, f.C, f.m - 1⟩
    by_cases h : e.clash f
    · rw [comp_clash h, comp_clash (f := ⟨f.N, f.C, f.m - 1⟩) h]; rfl
    · rw [comp_ok h, comp_ok (f := ⟨f.N, f.C, f.m - 1⟩) h]
      refine congrArg some (SE.ext' (fun _ => rfl) (fun _ => rfl) ?_)
      show e.m + f.m - 1 = e.m + (f.m - 1)
      omega
  | right =>
    show ((e.comp f).bind fun g => some _) = e.comp ⟨f.N, f.C, f.m + 1⟩
    by_cases h : e.clash f
    · rw [comp_clash h, comp_clash (f := ⟨f.N, f.C, f.m + 1⟩) h]; rfl
    · rw [comp_ok h, comp_ok (f := ⟨f.N, f.C, f.m + 1⟩) h]
      refine congrArg some (SE.ext' (fun _ => rfl) (fun _ => rfl) ?_)
      show e.m + f.m + 1 = e.m + (f.m + 1)
      omega
  | wr z =>
    show ((e.comp f).bind fun g => some (g.write g.m z)) = e.comp (f.write f.m z)
    by_cases h : e.clash f
    · rw [comp_clash h, comp_clash (f := f.write f.m z) h]; rfl
    · rw [comp_ok h, comp_ok (f := f.write f.m z) h]
      refine congrArg some (SE.ext' (fun _ => rfl) (fun p => ?_) rfl)
      show fset (e.cC f) (e.m + f.m) (if e.cN f (e.m + f.m) = some z then none else some z) p = e.cC (f.write f.m z) p
      by_cases q : p = e.m + f.m
      · subst q
        rw [fset_same]
        unfold SE.cC
        rw [sub]
        show _ = (match fset f.C f.m (if f.N f.m = some z then none else some z) f.m with
          | some y => if e.cN f (e.m + f.m) = some y then none else some y
          | none => e.C (e.m + f.m))
        rw [fset_same]
        by_cases w : f.N f.m = some z
        · rw [if_pos w]
          dsimp only
          cases k : e.K (e.m + f.m) with
          | none =>
            rw [cN_none k, sub, if_pos w, (K_none k).1]
          | some y =>
            have hy : y = z := by
              cases Classical.em (y = z) with
              | inl h => exact h
              | inr hn => exact absurd ⟨f.m, z, y, w, k, hn⟩ h
            subst hy
            rw [cN_some k]
            cases c : e.C (e.m + f.m) with
            | none =>
              rw [K_ofN c] at k
              rw [if_pos k]
            | some x =>
              rw [K_ofC c] at k
              have : x = y := Option.some.inj k
              subst this
              rw [if_neg (ne _ _ c)]
        · rw [if_neg w]
      · rw [fset_ne _ _ q]
        unfold SE.cC
        show _ = (match fset f.C f.m (if f.N f.m = some z then none else some z) (p - e.m) with
          | some y => if e.cN f p = some y then none else some y
          | none => e.C p)
        rw [fset_ne _ _ (by omega : p - e.m ≠ f.m)]
  | ex z =>
    show ((e.comp f).bind fun g => g.expect g.m z) = (f.expect f.m z).bind fun f' => e.comp f'
    cases kf : f.K f.m with
    | some y =>
      have hf : f.expect f.m z = if y = z then some f else none := by unfold SE.expect; rw [kf]
      rw [hf]
      by_cases h : e.clash f
      · rw [comp_clash h]
        by_cases q : y = z
        · rw [if_pos q]; show none = e.comp f; rw [comp_clash h]
        · rw [if_neg q]; rfl
      · have hg : (e.cat f).expect (e.cat f).m z = if y = z then some (e.cat f) else none := by
          have hk : (e.cat f).K (e.cat f).m = some y := by
            rw [cat_K ne h]
            show (f.K (e.m + f.m - e.m)).or _ = _
            rw [sub, kf]; rfl
          unfold SE.expect
          rw [hk]
        rw [comp_ok h]
        show (e.cat f).expect (e.cat f).m z = _
        rw [hg]
        by_cases q : y = z
        · rw [if_pos q, if_pos q]; show _ = e.comp f; rw [comp_ok h]
        · rw [if_neg q, if_neg q]; rfl
    | none =>
      have hf : f.expect f.m z = some ⟨fset f.N f.m (some z), f.C, f.m⟩ := by unfold SE.expect; rw [kf]
      rw [hf]
      show _ = e.comp ⟨fset f.N f.m (some z), f.C, f.m⟩
      obtain ⟨c0, n0⟩ := K_none kf
      by_cases h : e.clash f
      · have h' : e.clash ⟨fset f.N f.m (some z), f.C, f.m⟩ := by
          obtain ⟨i, x, y, a, b, c⟩ := h
          refine ⟨i, x, y, ?_, b, c⟩
          show fset f.N f.m (some z) i = some x
          rw [fset_ne _ _ (fun q => by rw [q, n0] at a; cases a)]
          exact a
        rw [comp_clash h, comp_clash h']; rfl
      · rw [comp_ok h]
        show (e.cat f).expect (e.cat f).m z = _
        have hk : (e.cat f).K (e.cat f).m = e.K (e.m + f.m) := by
          rw [cat_K ne h]
          show (f.K (e.m + f.m - e.m)).or _ = _
          rw [sub, kf]; rfl
        cases ke : e.K (e.m + f.m) with
        | some y =>
          have hg : (e.cat f).expect (e.cat f).m z = if y = z then some (e.cat f) else none := by
            unfold SE.expect
            rw [hk, ke]
          rw [hg]
          by_cases q : y = z
          · have h' : ¬ e.clash ⟨fset f.N f.m (some z), f.C, f.m⟩ := by
              rintro ⟨i, x, w, a, b, c⟩
              have a' : fset f.N f.m (some z) i = some x := a
              by_cases r : i = f.m
              · subst r
                rw [fset_same] at a'
                rw [ke] at b
                exact c ((Option.some.inj b).symm.trans (q.trans (Option.some.inj a')))
              · rw [fset_ne _ _ r] at a'
                exact h ⟨i, x, w, a', b, c⟩
            rw [if_pos q, comp_ok h']
            refine congrArg some (SE.ext' (fun p => ?_) (fun p => ?_) rfl)
            · show e.cN f p = e.cN ⟨fset f.N f.m (some z), f.C, f.m⟩ p
              cases k : e.K p with
              | some _ => rw [cN_some k, cN_some k]
              | none =>
                rw [cN_none k, cN_none k]
                show _ = fset f.N f.m (some z) (p - e.m)
                rw [fset_ne _ _ (fun r => by
                  have : p = e.m + f.m := by omega
                  rw [this, ke] at k
                  cases k)]
            · show e.cC f p = e.cC ⟨fset f.N f.m (some z), f.C, f.m⟩ p
              unfold SE.cC
              have hN : e.cN ⟨fset f.N f.m (some z), f.C, f.m⟩ p = e.cN f p := by
                cases k : e.K p with
                | some _ => rw [cN_some k, cN_some k]
                | none =>
                  rw [cN_none k, cN_none k]
                  show fset f.N f.m (some z) (p - e.m) = _
                  rw [fset_ne _ _ (fun r => by
                    have : p = e.m + f.m := by omega
                    rw [this, ke] at k
                    cases k)]
              rw [hN]
          · have h' : e.clash ⟨fset f.N f.m (some z), f.C, f.m⟩ := ⟨f.m, z, y, fset_same _ _ _, ke, q⟩
            rw [if_neg q, comp_clash h']
        | none =>
          have hg : (e.cat f).expect (e.cat f).m z = some ⟨fset (e.cN f) (e.m + f.m) (some z), e.cC f, e.m + f.m⟩ := by
            unfold SE.expect
            rw [hk, ke]
            rfl
          have h' : ¬ e.clash ⟨fset f.N f.m (some z), f.C, f.m⟩ := by
            rintro ⟨i, x, w, a, b, c⟩
            have a' : fset f.N f.m (some z) i = some x := a
            by_cases r : i = f.m
            · subst r
              rw [ke] at b
              cases b
            · rw [fset_ne _ _ r] at a'
              exact h ⟨i, x, w, a', b, c⟩
          rw [hg, comp_ok h']
          have hN (p : Int) : fset (e.cN f) (e.m + f.m) (some z) p = e.cN ⟨fset f.N f.m (some z), f.C, f.m⟩ p := by
            by_cases r : p = e.m + f.m
            · subst r
              rw [fset_same, cN_none ke]
              show _ = fset f.N f.m (some z) (e.m + f.m - e.m)
              rw [sub, fset_same]
            · rw [fset_ne _ _ r]
              cases k : e.K p with
              | some _ => rw [cN_some k, cN_some k]
              | none =>
                rw [cN_none k, cN_none k]
                show _ = fset f.N f.m (some z) (p - e.m)
                rw [fset_ne _ _ (by omega)]
          refine congrArg some (SE.ext' hN (fun p => ?_) rfl)
          show e.cC f p = e.cC ⟨fset f.N f.m (some z), f.C, f.m⟩ p
          unfold SE.cC
          rw [← hN p]
          by_cases r : p = e.m + f.m
          · subst r
            have c1 : f.C (e.m + f.m - e.m) = none := by rw [sub]; exact c0
            have c2 : (⟨fset f.N f.m (some z), f.C, f.m⟩ : SE L).C (e.m + f.m - e.m) = none := c1
            rw [c1]
          · rw [fset_ne _ _ r]

theorem comp_run {e f : SE L} (ne : e.Norm) (nf : f.Norm) (l : List (Stp L)) : ((e.comp f).bind fun g => runE g l) = (runE f l).bind fun f' => e.comp f' := by
  induction l generalizing f with
  | nil =>
    show ((e.comp f).bind fun g => some g) = e.comp f
    cases e.comp f <;> rfl
  | cons s l ih =>
    have a : ((e.comp f).bind fun g => runE g (s :: l)) = (((e.comp f).bind fun g => g.step s).bind fun g => runE g l) := by
      cases e.comp f <;> rfl
    rw [a, comp_step ne nf]
    show _ = ((f.step s).bind fun e' => runE e' l).bind fun f' => e.comp f'
    cases q : f.step s with
    | none => rfl
    | some f' => exact ih (norm_step nf q)
theorem comp_one (e : SE L) : e.comp SE.one = some e := by
  have h : ¬ e.clash SE.one := by
    rintro ⟨i, z, y, a, _⟩
    cases a
  rw [comp_ok h]
  refine congrArg some (SE.ext' (fun p => ?_) (fun p => rfl) (by show e.m + 0 = e.m; omega))
  show e.cN SE.one p = e.N p
  cases k : e.K p with
  | none => rw [cN_none k, (K_none k).2]; rfl
  | some _ => rw [cN_some k]
theorem one_comp {e : SE L} (n : e.Norm) : SE.one.comp e = some e := by
  have h : ¬ (SE.one : SE L).clash e := by
    rintro ⟨i, z, y, _, b, _⟩
    cases b
  rw [comp_ok h]
  have z0 (p : Int) : p - (SE.one : SE L).m = p := by show p - 0 = p; omega
  have hN (p : Int) : (SE.one : SE L).cN e p = e.N p := by rw [cN_none rfl, z0]
  refine congrArg some (SE.ext' hN (fun p => ?_) (by show 0 + e.m = e.m; omega))
  show (SE.one : SE L).cC e p = e.C p
  unfold SE.cC
  rw [z0, hN]
  cases c : e.C p with
  | none => rfl
  | some y => show (if e.N p = some y then none else some y) = some y; rw [if_neg (n p y c)]
theorem run_comp {e : SE L} (n : e.Norm) (l : List (Stp L)) : runE e l = (effOf l).bind fun f => e.comp f := by
  have h := comp_run n (norm_one (L := L)) l
  rw [comp_one] at h
  exact h
/-- the effect of joined sequences -/
theorem eff_append (l r : List (Stp L)) : effOf (l ++ r) = (effOf l).bind fun e => (effOf r).bind fun f => e.comp f := by
  unfold effOf
  rw [runE_append]
  cases q : runE SE.one l with
  | none => rfl
  | some e => exact run_comp (norm_run norm_one q) r
end
end TE
end
section
set_option autoImplicit false
set_option maxHeartbeats 4000000
/-! What stands in the heap for a letter, a step, a line, an effect, a tape. -/
namespace TX
open PySem PySem.Spec PyProof.Rows L2 He TE
abbrev PStr := PySem.Str
def Let (z : PStr) : Prop := ∃ c, z = ⟨#[c]⟩ ∧ c ∈ abc.cps.toList
def Wrd (z : PStr) : Prop := 1 ≤ z.cps.size ∧ z.cps.size ≤ 8 ∧ ∀ c ∈ z.cps.toList, c ∈ abc.cps.toList
abbrev Step := Stp PStr
def SV : Step → List V
  | .left => [.str "left"]
  | .right => [.str "right"]
  | .wr z => [.str "write", .str z]
  | .ex z => [.str "expect", .str z]
def OkS : Step → Prop
  | .wr z => Let z
  | .ex z => Let z
  | _ => True
theorem paired_at1 {α β : Type} {F : α → β → Prop} {l₁ : List α} {l₂ : List β} (p : Paired F l₁ l₂) : ∀ {i : Nat} {a : α}, l₁[i]? = some a → ∃ b, l₂[i]? = some b ∧ F a b := by
  induction p with
  | nil => intro i b h; simp at h
  | cons h _ ih =>
    intro i b e
    cases i with
    | zero =>
      simp at e
      subst e
      exact ⟨_, rfl, h⟩
    | succ i =>
      simp at e
      obtain ⟨a, ha, f⟩ := ih e
      exact ⟨a, by simpa using ha, f⟩
theorem paired_imp {α β : Type} {F G : α → β → Prop} {l₁ : List α} {l₂ : List β} (p : Paired F l₁ l₂) (h : ∀ a b, F a b → G a b) : Paired G l₁ l₂ := by
  induction p with
  | nil => exact .nil
  | cons q _ ih => exact .cons (h _ _ q) ih
theorem paired_app {α β : Type} {F : α → β → Prop} {l₁ : List α} {l₂ : List β} (p : Paired F l₁ l₂) : ∀ {m₁ : List α} {m₂ : List β}, Paired F m₁ m₂ → Paired F (l₁ ++ m₁) (l₂ ++ m₂) := by
  induction p with
  | nil => intro m₁ m₂ q; exact q
  | cons q _ ih => intro m₁ m₂ z; exact .cons q (ih z)
section
variable {K : PySem.W.Frag}
def StpAt (K : PySem.W.Frag) (H : Hp) (v : V) (s : Step) : Prop := ∃ a, v = .ref a ∧ H a = some (.tup (SV s)) ∧ OkS s
def NmAt (K : PySem.W.Frag) (H : Hp) (v : V) (p : PStr × Step) : Prop := ∃ a v', v = .ref a ∧ H a = some (.tup [.str p.1, v']) ∧ StpAt K H v' p.2 ∧ Wrd p.1
def StsAt (K : PySem.W.Frag) (H : Hp) (a : Addr) (l : List Step) : Prop := ∃ vs, H a = some (.lst vs) ∧ Paired (StpAt K H) vs l
def LineAt (K : PySem.W.Frag) (H : Hp) (a : Addr) (ln : List (PStr × Step)) : Prop := ∃ vs, H a = some (.lst vs) ∧ Paired (NmAt K H) vs ln
theorem StpAt.same {H H' : Hp} {v : V} {s : Step} (h : StpAt K H v s) (e : Same H H') : StpAt K H' v s := by
  obtain ⟨a, rfl, h, o⟩ := h
  exact ⟨a, rfl, e _ _ h, o⟩
theorem NmAt.same {H H' : Hp} {v : V} {p : PStr × Step} (h : NmAt K H v p) (e : Same H H') : NmAt K H' v p := by
  obtain ⟨a, v', rfl, h, s, w⟩ := h
  exact ⟨a, v', rfl, e _ _ h, s.same e, w⟩
theorem StsAt.same {H H' : Hp} {a : Addr} {l : List Step} (h : StsAt K H a l) (e : Same H H') : StsAt K H' a l := by
  obtain ⟨vs, h, p⟩ := h
  exact ⟨vs, e _ _ h, paired_imp p fun _ _ q => q.same e⟩
theorem LineAt.same {H H' : Hp} {a : Addr} {l : List (PStr × Step)} (h : LineAt K H a l) (e : Same H H') : LineAt K H' a l := by
  obtain ⟨vs, h, p⟩ := h
  exact ⟨vs, e _ _ h, paired_imp p fun _ _ q => q.same e⟩
/-- a dict of letters by offset -/
structure LDk (kvs : List (Key × V)) (f : Int → Option PStr) (n : Nat) : Prop where
  nd : (kvs.map (·.1)).Nodup
  sh : ∀ p ∈ kvs, ∃ i z, p = (Sum.inl i, V.str z) ∧ Let z
  vl : ∀ i, valV kvs (Sum.inl i) = (f i).map V.str
  ln : kvs.length ≤ n
theorem LDk.nil {n : Nat} : LDk [] (fun _ => none) n := ⟨.nil, fun _ h => (by cases h), fun _ => rfl, Nat.zero_le _⟩
/-- an effect -/
def EffAt (K : PySem.W.Frag) (H : Hp) (v : V) (e : SE PStr) (n : Nat) : Prop := ∃ a dx fs p q kn kc, v = .ref a ∧ H a = some (.ins (ga K "Effect") dx fs) ∧ fs.lookup ("needs" : PStr) = some (.ref p) ∧ fs.lookup ("puts" : PStr) = some (.ref q) ∧ fs.lookup ("move" : PStr) = some (.int e.m) ∧
  fs.map (·.1) = (["needs", "puts", "move"] : List PStr) ∧ H p = some (.dK kn) ∧ H q = some (.dK kc) ∧ LDk kn e.N n ∧ LDk kc e.C n ∧ e.Norm
theorem EffAt.same {H H' : Hp} {v : V} {e : SE PStr} {n : Nat} (h : EffAt K H v e n) (s : Same H H') : EffAt K H' v e n := by
  obtain ⟨a, dx, fs, p, q, kn, kc, rfl, h1, h2, h3, h4, h5, h6, h7, r⟩ := h
  exact ⟨a, dx, fs, p, q, kn, kc, rfl, s _ _ h1, h2, h3, h4, h5, s _ _ h6, s _ _ h7, r⟩
/-- a tape: blank b, the letters T -/
def TapeAt (K : PySem.W.Frag) (H : Hp) (v : V) (b : PStr) (T : Int → PStr) (n : Nat) : Prop := ∃ a dx fs q kv f, v = .ref a ∧ H a = some (.ins (ga K "Tape") dx fs) ∧ fs.lookup ("blank_letter" : PStr) = some (.str b) ∧ fs.lookup ("own_cells" : PStr) = some (.ref q) ∧
  fs.map (·.1) = (["blank_letter", "own_cells"] : List PStr) ∧ H q = some (.dK kv) ∧ LDk kv f n ∧ Let b ∧ (∀ i z, f i = some z → z ≠ b) ∧ ∀ i, T i = (f i).getD b
theorem TapeAt.same {H H' : Hp} {v : V} {b : PStr} {T : Int → PStr} {n : Nat} (h : TapeAt K H v b T n) (s : Same H H') : TapeAt K H' v b T n := by
  obtain ⟨a, dx, fs, q, kv, f, rfl, h1, h2, h3, h4, h5, r⟩ := h
  exact ⟨a, dx, fs, q, kv, f, rfl, s _ _ h1, h2, h3, h4, s _ _ h5, r⟩
end
theorem Same.new {H H' : Hp} (s : Same H H') {p : Addr} {o : HO} (h : H' p = none) : Same H (upd H' p o) := s.trans (Ext.upd h)
theorem Same.put {H0 H : Hp} (s : Same H0 H) {p : Addr} {o : HO} (h : H0 p = none) : Same H0 (upd H p o) := fun c u e => by
  rw [upd_ne (fun z => by rw [z, h] at e; cases e)]
  exact s c u e
theorem items_y {kvs : List (Key × V)} {i : Nat} {H H' : Hp} {x : V} (y : YPair (fun i => kvs[i]?.map fun kv => kV kv.1) (fun i => kvs[i]?.map Prod.snd) i H x H') :
    ∃ t k v, x = .ref t ∧ H t = none ∧ H' = upd H t (.tup [kV k, v]) ∧ kvs[i]? = some (k, v) := by
  obtain ⟨t, x1, x2, e1, ht, e2, h1, h2⟩ := y
  obtain ⟨⟨k, v⟩, hk, rfl⟩ := Option.map_eq_some_iff.mp h1
  have h2' : kvs[i]?.map Prod.snd = some x2 := h2
  rw [hk] at h2'
  cases h2'
  exact ⟨t, k, v, e1, ht, e2, hk⟩
theorem enum_y {xs : List V} {i : Nat} {H H' : Hp} {x : V} (y : YPair (fun i => some (.int (i : Nat))) (fun i => xs[i]?) i H x H') :
    ∃ t v, x = .ref t ∧ H t = none ∧ H' = upd H t (.tup [.int (i : Nat), v]) ∧ xs[i]? = some v := by
  obtain ⟨t, x1, x2, e1, ht, e2, h1, h2⟩ := y
  cases h1
  exact ⟨t, x2, e1, ht, e2, h2⟩
theorem ne_free {H : Hp} {a t : Addr} {o : HO} (h : H a = some o) (ht : H t = none) : a ≠ t := fun e => by rw [e, ht] at h; cases h
end TX
end
section
set_option autoImplicit false
set_option maxHeartbeats 4000000
/-! The checks. -/
namespace TX
open PySem PySem.Spec PyProof.Rows L2 He TE
section
variable {P : Program} {w : World} {K : PySem.W.Frag} {mg : PStr → Option Value} {base : Heap}
/-! ### is_letter -/
theorem sc14 : FnScope ["candidate"] ["candidate"] (defScope s14) := ⟨rfl, rfl, rfl, by decide +kernel, rfl, by decide +kernel, by decide +kernel⟩
def spLetter : Sp := fun vs H Q _ => ∃ z, vs = [.str z] ∧ Let z ∧ Q (.bl true) H
theorem ok_is_letter (T : Txt P K mg) : Dfn P w K mg base 1 "is_letter" spLetter := by
  refine dfnN T 0 (d := d14) rfl "is_letter" (by decide +kernel) rfl rfl sc14 (fun _ _ _ _ _ _ us hl => match us, hl with | [_], _ => rfl) (fun vs H Q E h => ?_) (fun f cdv A outer s H vs Q E hr h => ?_)
  · obtain ⟨z, rfl, _⟩ := h
    rfl
  · obtain ⟨tL, hL⟩ := T.lets
    refine ⟨_, pss_one (ps_ret (pe_and (pe_callB call_isi (by rfl) (T.fre "isinstance" (by decide +kernel)) (by decide +kernel) (pa_cons (pv 0) (pa_cons (pe_bltn (v := .ty "str") (by rfl) (T.fre "str" (by decide +kernel)) (by decide +kernel) rfl) pa_nil)))
      (pe_and (pe_cmpR op_eq (pe_callB call_len_str (by rfl) (T.fre "len" (by decide +kernel)) PySem.boot_len (pa_cons (pv 0) pa_nil)) pe_int (nomark _))
        (pe_one (pe_cmpR op_in_sign (pv 0) (pe_glob (v := .str abc) (by rfl) hL ⟨_, rfl⟩) rfl))))), ?_⟩
    obtain ⟨z, rfl, ⟨c, rfl, hc⟩, hQ⟩ := h
    refine ⟨_, rfl, _, _, _, _, true, rfl, .ty _, .base (.str _), kit_ty (by decide +kernel), true, rfl, iteT ?_⟩
    refine ⟨_, rfl, _, rfl, by rw [sizeLine_eq]; exact (by decide : 1 ≤ 16777216), rfl, true, ?_, iteT ?_⟩
    · exact congrArg V.bl (decide_eq_true rfl)
    · refine ⟨_, rfl, c, abc, rfl, rfl, ?_⟩
      rw [decide_eq_true hc]
      exact hQ
/-! ### is_integer, check_integer -/
theorem sc15 : FnScope ["candidate"] ["candidate"] (defScope s15) := ⟨rfl, rfl, rfl, by decide +kernel, rfl, by decide +kernel, by decide +kernel⟩
def spInteger : Sp := fun vs H Q _ => ∃ i : Int, vs = [.int i] ∧ Q (.bl true) H
theorem ok_is_integer (T : Txt P K mg) : Dfn P w K mg base 1 "is_integer" spInteger := by
  refine dfnN T 1 (d := d15) rfl "is_integer" (by decide +kernel) rfl rfl sc15 (fun _ _ _ _ _ _ us hl => match us, hl with | [_], _ => rfl) (fun vs H Q E h => ?_) (fun f cdv A outer s H vs Q E hr h => ?_)
  · obtain ⟨z, rfl, _⟩ := h
    rfl
  · refine ⟨_, pss_one (ps_ret (pe_and (pe_callB call_isi (by rfl) (T.fre "isinstance" (by decide +kernel)) (by decide +kernel) (pa_cons (pv 0) (pa_cons (pe_bltn (v := .ty "int") (by rfl) (T.fre "int" (by decide +kernel)) (by decide +kernel) rfl) pa_nil)))
      (pe_one (pe_not (pe_callB call_isi (by rfl) (T.fre "isinstance" (by decide +kernel)) (by decide +kernel) (pa_cons (pv 0) (pa_cons (pe_bltn (v := .ty "bool") (by rfl) (T.fre "bool" (by decide +kernel)) (by decide +kernel) rfl) pa_nil))))))), ?_⟩
    obtain ⟨i, rfl, hQ⟩ := h
    refine ⟨_, rfl, _, _, _, _, true, rfl, .ty _, .base (.int _), kit_ty (by decide +kernel), true, rfl, iteT ?_⟩
    exact ⟨_, rfl, _, _, _, _, false, rfl, .ty _, .base (.int _), kit_ty (by decide +kernel), false, rfl, hQ⟩
theorem sc16 : FnScope ["candidate"] ["candidate"] (defScope s16) := ⟨rfl, rfl, rfl, by decide +kernel, rfl, by decide +kernel, by decide +kernel⟩
def spCheckInt : Sp := fun vs H Q _ => ∃ i : Int, vs = [.int i] ∧ Q .non H
theorem ok_check_integer (T : Txt P K mg) : Dfn P w K mg base 2 "check_integer" spCheckInt := by
  refine dfnN T 2 (d := d16) rfl "check_integer" (by decide +kernel) rfl rfl sc16 (fun _ _ _ _ _ _ us hl => match us, hl with | [_], _ => rfl) (fun vs H Q E h => ?_) (fun f cdv A outer s H vs Q E hr h => ?_)
  · obtain ⟨z, rfl, _⟩ := h
    rfl
  · refine ⟨_, pss_one (ps_if (pt_not (pt_val (pe_d (ok_is_integer T) hr (by decide) (by rfl) (pa_cons (pv 0) pa_nil)))) (pss_one ps_never) pss_nil), ?_⟩
    obtain ⟨i, rfl, hQ⟩ := h
    exact ⟨_, rfl, i, rfl, true, rfl, iteF hQ⟩
/-! ### move_of -/
theorem sc19 : FnScope ["step"] ["step"] (defScope s19) := ⟨rfl, rfl, rfl, by decide +kernel, rfl, by decide +kernel, by decide +kernel⟩
def mvS : Step → Int
  | .left => -1
  | .right => 1
  | _ => 0
def spMove (K : PySem.W.Frag) : Sp := fun vs H Q _ => ∃ v s, vs = [v] ∧ StpAt K H v s ∧ Q (.int (mvS s)) H
theorem ok_move_of (T : Txt P K mg) : Dfn P w K mg base 1 "move_of" (spMove K) := by
  refine dfnN T 5 (d := d19) rfl "move_of" (by decide +kernel) rfl rfl sc19 (fun _ _ _ _ _ _ us hl => match us, hl with | [_], _ => rfl) (fun vs H Q E h => ?_) (fun f cdv A outer s H vs Q E hr h => ?_)
  · obtain ⟨v, s, rfl, _⟩ := h
    rfl
  · refine ⟨_, pss_one (ps_match (pe_ix ix_tup (pv 0) pe_int (fun _ _ => rfl)) (pm_str (pss_one (ps_ret (pe_un un_neg pe_int))) (pm_str (pss_one (ps_ret pe_int)) (pm_any (pss_one (ps_ret pe_int)))))), ?_⟩
    obtain ⟨v, st, rfl, ⟨a, rfl, ha, ho⟩, hQ⟩ := h
    cases st with
    | left => exact ⟨_, rfl, a, _, 0, _, rfl, rfl, SqT.of ha, atI_nat rfl, "left", rfl, (if_pos rfl).mpr ⟨1, rfl, hQ⟩⟩
    | right => exact ⟨_, rfl, a, _, 0, _, rfl, rfl, SqT.of ha, atI_nat rfl, "right", rfl, (if_neg (by decide)).mpr ⟨"right", rfl, (if_pos rfl).mpr hQ⟩⟩
    | wr z => exact ⟨_, rfl, a, _, 0, _, rfl, rfl, SqT.of ha, atI_nat rfl, "write", rfl, (if_neg (by decide)).mpr ⟨"write", rfl, (if_neg (by decide)).mpr hQ⟩⟩
    | ex z => exact ⟨_, rfl, a, _, 0, _, rfl, rfl, SqT.of ha, atI_nat rfl, "expect", rfl, (if_neg (by decide)).mpr ⟨"expect", rfl, (if_neg (by decide)).mpr hQ⟩⟩
/-! ### is_step -/
theorem sc17 : FnScope ["candidate"] ["candidate"] (defScope s17) := ⟨rfl, rfl, rfl, by decide +kernel, rfl, by decide +kernel, by decide +kernel⟩
def spStep (K : PySem.W.Frag) : Sp := fun vs H Q _ => ∃ v s, vs = [v] ∧ StpAt K H v s ∧ ∀ H', Same H H' → Q (.bl true) H'
theorem inV_2a (a b : V) (ha : flatV a = true) : inV a [a, b] = true := by
  unfold inV
  simp only [List.any_cons]
  rw [show eqV a a = true from by cases a <;> first | rfl | (simp [eqV] <;> done) | cases ha]
  rfl
theorem ok_is_step (T : Txt P K mg) : Dfn P w K mg base 2 "is_step" (spStep K) := by
  refine dfnN T 3 (d := d17) rfl "is_step" (by decide +kernel) rfl rfl sc17 (fun _ _ _ _ _ _ us hl => match us, hl with | [_], _ => rfl) (fun vs H Q E h => ?_) (fun f cdv A outer s H vs Q E hr h => ?_)
  · obtain ⟨v, s, rfl, _⟩ := h
    rfl
  · have mI := T.fre "isinstance" (by decide +kernel)
    have mL := T.fre "len" (by decide +kernel)
    refine ⟨_, (pss_cons (ps_if (PW.pt (pw_or (pt_not (pt_val (pe_callB call_isi (by rfl) (T.fre "isinstance" (by decide +kernel)) (by decide +kernel) (pa_cons (pv 0) (pa_cons (pe_bltn (v := .ty "tuple") (by rfl) (T.fre "tuple" (by decide +kernel)) (by decide +kernel) rfl) pa_nil))))) (pw_or (pt_not (pt_chain op_le op_le pe_int (pe_callB call_len_seq (by rfl) (T.fre "len" (by decide +kernel)) PySem.boot_len (pa_cons (pv 0) pa_nil)) pe_int)) (pw_or1 (pt_not (pt_val (pe_callB call_isi (by rfl) (T.fre "isinstance" (by decide +kernel)) (by decide +kernel) (pa_cons (pe_ix ix_tup (pv 0) pe_int (fun _ _ => rfl)) (pa_cons (pe_bltn (v := .ty "str") (by rfl) (T.fre "str" (by decide +kernel)) (by decide +kernel) rfl) pa_nil))))))))) (pss_one (ps_ret pe_bl)) pss_nil) (pss_cons (ps_if (pt_cmpR op_eq (pe_callB call_len_seq (by rfl) (T.fre "len" (by decide +kernel)) PySem.boot_len (pa_cons (pv 0) pa_nil)) pe_int (nomark _)) (pss_one (ps_ret (pe_cmpR op_in_seq (pe_ix ix_tup (pv 0) pe_int (fun _ _ => rfl)) (pe_tup (pa_cons pe_str (pa_cons pe_str pa_nil))) rfl))) pss_nil) (pss_one (ps_ret (pe_and (pe_cmpR op_in_seq (pe_ix ix_tup (pv 0) pe_int (fun _ _ => rfl)) (pe_tup (pa_cons pe_str (pa_cons pe_str pa_nil))) rfl) (pe_one (pe_d (ok_is_letter T) hr (by decide) (by rfl) (pa_cons (pe_ix ix_tup (pv 0) pe_int (fun _ _ => rfl)) pa_nil)))))))), ?_⟩
    obtain ⟨v, st, rfl, ⟨a, rfl, ha, ho⟩, hQ⟩ := h
    have s2 : 2 ≤ sizeLine := by rw [sizeLine_eq]; decide
    have hlen : 1 ≤ (SV st).length ∧ (SV st).length ≤ 2 := by cases st <;> exact ⟨Nat.le_of_ble_eq_true rfl, Nat.le_of_ble_eq_true rfl⟩
    obtain ⟨x0, hx0⟩ : ∃ x0 : PStr, (SV st)[0]? = some (.str x0) := by cases st <;> exact ⟨_, rfl⟩
    refine ⟨_, rfl, _, _, _, _, true, rfl, .ty _, .base (.tup ha), kit_ty (by decide +kernel), true, rfl, iteF ?_⟩
    refine ⟨_, rfl, a, _, rfl, .inr (SqT.of ha), 1, ((SV st).length : Int), rfl, rfl, true, congrArg V.bl (decide_eq_true (by omega)), iteT ?_⟩
    refine ⟨_, 2, rfl, rfl, true, congrArg V.bl (decide_eq_true (by omega)), iteF ?_⟩
    refine ⟨_, rfl, a, _, 0, _, rfl, rfl, SqT.of ha, atI_nat hx0, _, _, _, _, true, rfl, .ty _, .base (.str _), kit_ty (by decide +kernel), true, rfl, iteF ?_⟩
    refine ⟨_, rfl, a, _, rfl, .inr (SqT.of ha), rfl, _, rfl, ?_⟩
    cases st with
    | left => exact iteT ⟨_, rfl, a, _, 0, _, rfl, rfl, SqT.of ha, atI_nat rfl, s2, fun p hp => ⟨p, _, rfl, .inr (SqT.of upd_same), rfl, rfl, hQ _ (Ext.upd hp)⟩⟩
    | right => exact iteT ⟨_, rfl, a, _, 0, _, rfl, rfl, SqT.of ha, atI_nat rfl, s2, fun p hp => ⟨p, _, rfl, .inr (SqT.of upd_same), rfl, rfl, hQ _ (Ext.upd hp)⟩⟩
    | wr z => exact iteF ⟨_, rfl, a, _, 0, _, rfl, rfl, SqT.of ha, atI_nat rfl, s2, fun p hp => ⟨p, _, rfl, .inr (SqT.of upd_same), rfl, rfl, true, rfl, iteT ⟨_, rfl, a, _, 1, _, rfl, rfl, SqT.of ((Ext.upd hp) _ _ ha), atI_nat rfl, z, rfl, ho, hQ _ (Ext.upd hp)⟩⟩⟩
    | ex z => exact iteF ⟨_, rfl, a, _, 0, _, rfl, rfl, SqT.of ha, atI_nat rfl, s2, fun p hp => ⟨p, _, rfl, .inr (SqT.of upd_same), rfl, rfl, true, rfl, iteT ⟨_, rfl, a, _, 1, _, rfl, rfl, SqT.of ((Ext.upd hp) _ _ ha), atI_nat rfl, z, rfl, ho, hQ _ (Ext.upd hp)⟩⟩⟩
/-! ### check_steps -/
theorem sc18 : FnScope ["candidate", "index", "step"] ["candidate"] (defScope s18) := ⟨rfl, rfl, rfl, by decide +kernel, rfl, by decide +kernel, by decide +kernel⟩
def spSteps (K : PySem.W.Frag) : Sp := fun vs H Q _ => ∃ a l, vs = [.ref a] ∧ StsAt K H a l ∧ ∀ H', Same H H' → Q .non H'
theorem kit_lt {K : PySem.W.Frag} : PySem.W.kitAny K (.type "list") [.type "list", .type "tuple"] = some true :=
  kitAny_cons (b := true) (kit_ty (by decide +kernel)) (fun e => Bool.noConfusion e) (fun _ => rfl)

theorem ok_check_steps (T : Txt P K mg) : Dfn P w K mg base 3 "check_steps" (spSteps K) := by
  refine dfnN T 4 (d := d18) rfl "check_steps" (by decide +kernel) rfl rfl sc18 (fun _ _ _ _ _ _ us hl => match us, hl with | [_], _ => rfl) (fun vs H Q E h => ?_) (fun f cdv A outer s H vs Q E hr h => ?_)
  · obtain ⟨v, s, rfl, _⟩ := h
    rfl
  · have mI := T.fre "isinstance" (by decide +kernel)
    refine ⟨_, (pss_cons (ps_if (pt_not (pt_val (pe_callB call_isiT (by rfl) (T.fre "isinstance" (by decide +kernel)) (by decide +kernel) (pa_cons (pv 0) (pa_cons (pe_tup (pa_cons (pe_bltn (v := .ty "list") (by rfl) (T.fre "list" (by decide +kernel)) (by decide +kernel) rfl) (pa_cons (pe_bltn (v := .ty "tuple") (by rfl) (T.fre "tuple" (by decide +kernel)) (by decide +kernel) rfl) pa_nil))) pa_nil))))) (pss_one ps_never) pss_nil) (pss_one (ps_for (passes_of rfl) rfl (pi_enum (by rfl) (T.fre "enumerate" (by decide +kernel)) (pa_cons (pv 0) pa_nil)) (pg_tup (by rfl) (pgs_cons (pg_name (i := 1) sc18.nd rfl (.inl rfl)) (pgs_cons (pg_name (i := 2) sc18.nd rfl (.inl rfl)) pgs_nil))) (pss_one (ps_if (pt_not (pt_val (pe_d (ok_is_step T) hr (by decide) (by rfl) (pa_cons (pv 2) pa_nil)))) (pss_one ps_never) pss_nil))))), ?_⟩
    obtain ⟨a, l, rfl, ⟨vs, hv, pr⟩, hQ⟩ := h
    refine ⟨_, rfl, by rw [sizeLine_eq]; exact (by decide : 2 ≤ 16777216), fun p hp => ?_⟩
    have e1 : Same H (upd H p (.tup [.ty "list", .ty "tuple"])) := Ext.upd hp
    refine ⟨_, p, _, _, _, true, rfl, upd_same, .cons (.ty _) (.cons (.ty _) .nil), .base (.lst (e1 _ _ hv)), kit_lt, true, rfl, iteF ?_⟩
    refine ⟨_, rfl, a, vs, rfl, SqL.of (e1 _ _ hv), for_it walk_enum (fun i σ H' => σ[0]? = some (some (.ref a)) ∧ σ.length = 3 ∧ Same H H') ⟨rfl, rfl, e1⟩ (fun i σ H' _ q => SqL.of (q.2.2 _ _ hv)) (fun i x σ H1 H2 hi q y => ?_) (fun σ H' q => hQ _ q.2.2)⟩
    obtain ⟨q0, ql, q1⟩ := q
    obtain ⟨t, x1, x2, rfl, ht, rfl, h1, h2⟩ := y
    have e2 : Same H (upd H1 t (.tup [x1, x2])) := Same.new q1 ht
    obtain ⟨st, hst, hs⟩ := paired_at1 pr h2
    obtain ⟨c0, c1, c2, rfl⟩ : ∃ c0 c1 c2, σ = [c0, c1, c2] := by
      match σ, ql with
      | [c0, c1, c2], _ => exact ⟨c0, c1, c2, rfl⟩
    refine ⟨t, _, rfl, SqT.of upd_same, rfl, ?_⟩
    refine ⟨_, _, rfl, _, _, rfl, rfl, x2, rfl, x2, st, rfl, hs.same e2, fun H3 e3 => ⟨true, rfl, iteF ?_⟩⟩
    exact ⟨q0, rfl, e2.trans e3⟩
/-! ### is_letter_dict -/
theorem same_unlock {H H' : Hp} {a : Addr} {u : HO} {o : Obj} (h : H a = some u) (s : Same (upd H a (.frz o u)) H') : Same H (upd H' a u) := fun c x e => by
  by_cases hc : c = a
  · rw [hc] at e ⊢
    rw [upd_same]
    rw [h] at e
    exact e
  · rw [upd_ne hc]
    exact s c x (by rw [upd_ne hc]; exact e)
theorem rep_bl (n : Nat) (b : Bool) : List.replicate n (V.bl b) = (List.replicate n b).map V.bl := by rw [List.map_replicate]
theorem rep_all (n : Nat) : (List.replicate n true).all id = true := by
  rw [List.all_eq_true]
  intro b hb
  exact (List.mem_replicate.mp hb).2
theorem rep_snoc {α : Type} (n : Nat) (x : α) : List.replicate n x ++ [x] = List.replicate (n + 1) x := by rw [List.replicate_succ']
theorem sc21 : FnScope ["candidate", "key", "value"] ["candidate"] (defScope s21) := ⟨rfl, rfl, rfl, by decide +kernel, rfl, by decide +kernel, by decide +kernel⟩
def LetD (kvs : List (Key × V)) : Prop := ∀ p ∈ kvs, ∃ i z, p = (Sum.inl i, V.str z) ∧ Let z
def spLD : Sp := fun vs H Q _ => ∃ a kvs, vs = [.ref a] ∧ H a = some (.dK kvs) ∧ kvs.length ≤ 1000 ∧ LetD kvs ∧ ∀ H', Same H H' → Q (.bl true) H'

theorem ok_is_letter_dict (T : Txt P K mg) : Dfn P w K mg base 2 "is_letter_dict" spLD := by
  refine dfnN T 6 (d := d21) rfl "is_letter_dict" (by decide +kernel) rfl rfl sc21 (fun _ _ _ _ _ _ us hl => match us, hl with | [_], _ => rfl) (fun vs H Q E h => ?_) (fun f cdv A outer s H vs Q E hr h => ?_)
  · obtain ⟨v, s, rfl, _⟩ := h
    rfl
  · refine ⟨_, (pss_cons (ps_if (pt_not (pt_val (pe_callB call_isi (by rfl) (T.fre "isinstance" (by decide +kernel)) (by decide +kernel) (pa_cons (pv 0) (pa_cons (pe_bltn (v := .ty "dict") (by rfl) (T.fre "dict" (by decide +kernel)) (by decide +kernel) rfl) pa_nil))))) (pss_one (ps_ret pe_bl)) pss_nil) (pss_one (ps_ret (pe_callB (cr_all rfl) (by rfl) (T.fre "all" (by decide +kernel)) (by decide +kernel) (pa_cons (pe_lock (pe_lc (own := [("key", 1), ("value", 2)]) (g := (gTup K 2 (gCons (gName 1) (gCons (gName 2) gNil)))) (tt := tYes) rfl sc21.nd (pi_items (pv 0)) (blkOk_by (own := [("key", 1), ("value", 2)]) (N := ["candidate", "key", "value"]) (sc := defScope s21) (by decide +kernel)) (fun _ _ _ _ _ => (pg_tup (by rfl) (pgs_cons (pg_name (i := 1) sc21.nd rfl (.inl rfl)) (pgs_cons (pg_name (i := 2) sc21.nd rfl (.inl rfl)) pgs_nil)))) (fun _ _ _ _ _ => pts_nil) (fun _ _ _ _ _ => (pe_and (pe_d (ok_is_integer T) hr (by decide) (by rfl) (pa_cons (pv 1) pa_nil)) (pe_one (pe_d (ok_is_letter T) hr (by decide) (by rfl) (pa_cons (pv 2) pa_nil))))))) pa_nil))))), ?_⟩
    obtain ⟨a, kvs, rfl, ha, hz, hL, hQ⟩ := h
    refine ⟨_, rfl, _, _, _, _, true, rfl, .ty _, .base (.dK ha), kit_ty (by decide +kernel), true, rfl, iteF ?_⟩
    refine ⟨a, _, ha, trivial, fun od => ?_⟩
    refine ⟨_, rfl, a, od, kvs, rfl, upd_same, fun D hD => ?_⟩
    refine lc_it walk_items (fun i H' => Same (upd H a (.frz od (.dK kvs))) H' ∧ H' D = some (.lst (List.replicate i (.bl true)))) ⟨Same.new (Same.refl _) hD, upd_same⟩ (fun i H' _ q => q.1 _ _ upd_same) (fun i x H1 H2 hi q y => ?_) (fun H' q => ?_)
    · obtain ⟨t, k, v, rfl, ht, rfl, hk⟩ := items_y y
      have e2 := Same.new (o := .tup [kV k, v]) q.1 ht
      obtain ⟨j, z, e, hz⟩ := hL (k, v) (List.mem_of_getElem? hk)
      cases e
      refine ⟨t, _, rfl, SqT.of upd_same, rfl, _, _, rfl, _, _, rfl, rfl, rfl, ?_⟩
      refine ⟨_, rfl, j, rfl, true, rfl, iteT ⟨_, rfl, z, rfl, hz, ?_⟩⟩
      refine ⟨_, (by rw [upd_ne (ne_free q.2 ht)]; exact q.2), by rw [List.length_replicate, sizeLine_eq]; omega, Same.put e2 hD, ?_⟩
      rw [upd_same, rep_snoc]
    · refine ⟨q.1 _ _ upd_same, D, _, rfl, SqL.of (by rw [upd_ne (fun e => by rw [e] at hD; rw [upd_same] at hD; cases hD), q.2, rep_bl]), ?_⟩
      rw [rep_all]
      exact hQ _ (same_unlock ha q.1)
end
end TX
end
section
set_option autoImplicit false
set_option maxHeartbeats 4000000
/-! Words, named steps, places. -/
namespace TX
open PySem PySem.Spec PyProof.Rows L2 He TE
section
variable {P : Program} {w : World} {K : PySem.W.Frag} {mg : PStr → Option Value} {base : Heap}
theorem sc37 : FnScope ["candidate", "letter"] ["candidate"] (defScope s37) := ⟨rfl, rfl, rfl, by decide +kernel, rfl, by decide +kernel, by decide +kernel⟩
def spWord : Sp := fun vs H Q _ => ∃ z, vs = [.str z] ∧ Wrd z ∧ ∀ H', Same H H' → Q (.bl true) H'

theorem ok_is_word (T : Txt P K mg) : Dfn P w K mg base 1 "is_word" spWord := by
  refine dfnN T 13 (d := d37) rfl "is_word" (by decide +kernel) rfl rfl sc37 (fun _ _ _ _ _ _ us hl => match us, hl with | [_], _ => rfl) (fun vs H Q E h => ?_) (fun f cdv A outer s H vs Q E hr h => ?_)
  · obtain ⟨z, rfl, _⟩ := h
    rfl
  · obtain ⟨tL, hL⟩ := T.lets
    obtain ⟨tM, hM⟩ := T.most
    refine ⟨_, (pss_cons (ps_if (PW.pt (pw_or (pt_not (pt_val (pe_callB call_isi (by rfl) (T.fre "isinstance" (by decide +kernel)) (by decide +kernel) (pa_cons (pv 0) (pa_cons (pe_bltn (v := .ty "str") (by rfl) (T.fre "str" (by decide +kernel)) (by decide +kernel) rfl) pa_nil))))) (pw_or1 (pt_not (pt_chain op_le op_le pe_int (pe_callB call_len_str (by rfl) (T.fre "len" (by decide +kernel)) PySem.boot_len (pa_cons (pv 0) pa_nil)) (pe_glob (v := .int 8) (by rfl) hM ⟨_, rfl⟩)))))) (pss_one (ps_ret pe_bl)) pss_nil) (pss_one (ps_ret (pe_callB (cr_all rfl) (by rfl) (T.fre "all" (by decide +kernel)) (by decide +kernel) (pa_cons (pe_lc (own := [("letter", 1)]) (g := (gName 1)) (tt := tYes) rfl sc37.nd (pi_str (pv 0)) (blkOk_by (own := [("letter", 1)]) (N := ["candidate", "letter"]) (sc := defScope s37) (by decide +kernel)) (fun _ _ _ _ _ => (pg_name (i := 1) sc37.nd rfl (.inl rfl))) (fun _ _ _ _ _ => pts_nil) (fun _ _ _ _ _ => (pe_cmpR op_in_sign (pv 1) (pe_glob (v := .str abc) (by rfl) hL ⟨_, rfl⟩) rfl))) pa_nil))))), ?_⟩
    obtain ⟨z, rfl, ⟨w1, w2, w3⟩, hQ⟩ := h
    have hl : z.length = z.cps.size := rfl
    refine ⟨_, rfl, _, _, _, _, true, rfl, .ty _, .base (.str _), kit_ty (by decide +kernel), true, rfl, iteF ?_⟩
    refine ⟨_, rfl, z, rfl, by rw [sizeLine_eq, hl]; omega, 1, (z.length : Int), rfl, rfl, true, congrArg V.bl (decide_eq_true (by rw [hl]; omega)), iteT ?_⟩
    refine ⟨_, 8, rfl, rfl, true, congrArg V.bl (decide_eq_true (by rw [hl]; omega)), iteF ?_⟩
    refine ⟨_, rfl, z, rfl, fun D hD => ?_⟩
    refine lc_it walk_str (fun i H' => Same H H' ∧ H' D = some (.lst (List.replicate i (.bl true)))) ⟨Same.new (Same.refl _) hD, upd_same⟩ (fun _ _ _ _ => trivial) (fun i x H1 H2 hi q y => ?_) (fun H' q => ?_)
    · obtain ⟨rfl, c, hc, rfl⟩ := y
      refine ⟨rfl, _, rfl, c, abc, rfl, rfl, _, q.2, by rw [List.length_replicate, sizeLine_eq]; omega, Same.put q.1 hD, ?_⟩
      have hm : c ∈ z.cps.toList := Array.mem_toList_iff.mpr (Array.mem_of_getElem? hc)
      rw [upd_same, decide_eq_true (w3 c hm), rep_snoc]
    · refine ⟨D, _, rfl, SqL.of (by rw [q.2, rep_bl]), ?_⟩
      rw [rep_all]
      exact hQ _ q.1
theorem sc38 : FnScope ["candidate", "name", "step"] ["candidate"] (defScope s38) := ⟨rfl, rfl, rfl, by decide +kernel, rfl, by decide +kernel, by decide +kernel⟩
def spNmStep (K : PySem.W.Frag) : Sp := fun vs H Q _ => ∃ v p, vs = [v] ∧ NmAt K H v p ∧ ∀ H', Same H H' → Q (.bl true) H'

theorem ok_is_named_step (T : Txt P K mg) : Dfn P w K mg base 3 "is_named_step" (spNmStep K) := by
  refine dfnN T 14 (d := d38) rfl "is_named_step" (by decide +kernel) rfl rfl sc38 (fun _ _ _ _ _ _ us hl => match us, hl with | [_], _ => rfl) (fun vs H Q E h => ?_) (fun f cdv A outer s H vs Q E hr h => ?_)
  · obtain ⟨z, p, rfl, _⟩ := h
    rfl
  · refine ⟨_, (pss_cons (ps_if (PW.pt (pw_or (pt_not (pt_val (pe_callB call_isi (by rfl) (T.fre "isinstance" (by decide +kernel)) (by decide +kernel) (pa_cons (pv 0) (pa_cons (pe_bltn (v := .ty "tuple") (by rfl) (T.fre "tuple" (by decide +kernel)) (by decide +kernel) rfl) pa_nil))))) (pw_or1 (pt_cmpR op_ne (pe_callB call_len_seq (by rfl) (T.fre "len" (by decide +kernel)) PySem.boot_len (pa_cons (pv 0) pa_nil)) pe_int (nomark _))))) (pss_one (ps_ret pe_bl)) pss_nil) (pss_cons (ps_asg (pv 0) (pg_tup (by rfl) (pgs_cons (pg_name (i := 1) sc38.nd rfl (.inl rfl)) (pgs_cons (pg_name (i := 2) sc38.nd rfl (.inl rfl)) pgs_nil)))) (pss_one (ps_ret (pe_and (pe_d (ok_is_word T) hr (by decide) (by rfl) (pa_cons (pv 1) pa_nil)) (pe_one (pe_d (ok_is_step T) hr (by decide) (by rfl) (pa_cons (pv 2) pa_nil)))))))), ?_⟩
    obtain ⟨v, p, rfl, ⟨a, v', rfl, ha, hs, hw⟩, hQ⟩ := h
    refine ⟨_, rfl, _, _, _, _, true, rfl, .ty _, .base (.tup ha), kit_ty (by decide +kernel), true, rfl, iteF ?_⟩
    refine ⟨_, rfl, a, _, rfl, .inr (SqT.of ha), rfl, false, rfl, iteF ?_⟩
    refine ⟨_, rfl, a, _, rfl, SqT.of ha, rfl, _, _, rfl, _, _, rfl, rfl, ?_⟩
    refine ⟨_, rfl, p.1, rfl, hw, fun H1 e1 => ⟨true, rfl, iteT ⟨_, rfl, v', p.2, rfl, hs.same e1, fun H2 e2 => hQ _ (e1.trans e2)⟩⟩⟩
theorem sc39 : FnScope ["candidate", "index", "step"] ["candidate"] (defScope s39) := ⟨rfl, rfl, rfl, by decide +kernel, rfl, by decide +kernel, by decide +kernel⟩
def spNamed (K : PySem.W.Frag) : Sp := fun vs H Q _ => ∃ a l, vs = [.ref a] ∧ LineAt K H a l ∧ ∀ H', Same H H' → Q .non H'

theorem ok_check_named (T : Txt P K mg) : Dfn P w K mg base 4 "check_named" (spNamed K) := by
  refine dfnN T 15 (d := d39) rfl "check_named" (by decide +kernel) rfl rfl sc39 (fun _ _ _ _ _ _ us hl => match us, hl with | [_], _ => rfl) (fun vs H Q E h => ?_) (fun f cdv A outer s H vs Q E hr h => ?_)
  · obtain ⟨v, s, rfl, _⟩ := h
    rfl
  · have mI := T.fre "isinstance" (by decide +kernel)
    refine ⟨_, (pss_cons (ps_if (pt_not (pt_val (pe_callB call_isiT (by rfl) (T.fre "isinstance" (by decide +kernel)) (by decide +kernel) (pa_cons (pv 0) (pa_cons (pe_tup (pa_cons (pe_bltn (v := .ty "list") (by rfl) (T.fre "list" (by decide +kernel)) (by decide +kernel) rfl) (pa_cons (pe_bltn (v := .ty "tuple") (by rfl) (T.fre "tuple" (by decide +kernel)) (by decide +kernel) rfl) pa_nil))) pa_nil))))) (pss_one ps_never) pss_nil) (pss_one (ps_for (passes_of rfl) rfl (pi_enum (by rfl) (T.fre "enumerate" (by decide +kernel)) (pa_cons (pv 0) pa_nil)) (pg_tup (by rfl) (pgs_cons (pg_name (i := 1) sc39.nd rfl (.inl rfl)) (pgs_cons (pg_name (i := 2) sc39.nd rfl (.inl rfl)) pgs_nil))) (pss_one (ps_if (pt_not (pt_val (pe_d (ok_is_named_step T) hr (by decide) (by rfl) (pa_cons (pv 2) pa_nil)))) (pss_one ps_never) pss_nil))))), ?_⟩
    obtain ⟨a, l, rfl, ⟨vs, hv, pr⟩, hQ⟩ := h
    refine ⟨_, rfl, by rw [sizeLine_eq]; exact (by decide : 2 ≤ 16777216), fun p hp => ?_⟩
    have e1 : Same H (upd H p (.tup [.ty "list", .ty "tuple"])) := Ext.upd hp
    refine ⟨_, p, _, _, _, true, rfl, upd_same, .cons (.ty _) (.cons (.ty _) .nil), .base (.lst (e1 _ _ hv)), kit_lt, true, rfl, iteF ?_⟩
    refine ⟨_, rfl, a, vs, rfl, SqL.of (e1 _ _ hv), for_it walk_enum (fun i σ H' => σ[0]? = some (some (.ref a)) ∧ σ.length = 3 ∧ Same H H') ⟨rfl, rfl, e1⟩ (fun i σ H' _ q => SqL.of (q.2.2 _ _ hv)) (fun i x σ H1 H2 hi q y => ?_) (fun σ H' q => hQ _ q.2.2)⟩
    obtain ⟨q0, ql, q1⟩ := q
    obtain ⟨t, x2, rfl, ht, rfl, h2⟩ := enum_y y
    have e2 : Same H (upd H1 t (.tup [.int (i : Nat), x2])) := Same.new q1 ht
    obtain ⟨st, hst, hs⟩ := paired_at1 pr h2
    obtain ⟨c0, c1, c2, rfl⟩ : ∃ c0 c1 c2, σ = [c0, c1, c2] := by
      match σ, ql with
      | [c0, c1, c2], _ => exact ⟨c0, c1, c2, rfl⟩
    refine ⟨t, _, rfl, SqT.of upd_same, rfl, ?_⟩
    refine ⟨_, _, rfl, _, _, rfl, rfl, x2, rfl, x2, st, rfl, hs.same e2, fun H3 e3 => ⟨true, rfl, iteF ?_⟩⟩
    exact ⟨q0, rfl, e2.trans e3⟩
end
end TX
end
section
set_option autoImplicit false
set_option maxHeartbeats 4000000
/-! Calls with keywords (a def, a class, a method), a call within a try, a classmethod without arguments, a property by FnR, a new dict that is locked at once. -/
namespace TX
open PySem PySem.Spec PyProof.Rows L2 He TE ClX
/-- f(e, .., k = v, ..), the values in the parameters' order: n positional ones, then the keywords' -/
structure KFn (P : Program) (w : World) (K : PySem.W.Frag) (mg : PStr → Option Value) (base : Heap) (k : Nat) (f : Addr) (n : Nat) (ks : List PStr) (sp : Sp) : Prop where
  ex : ∃ fd ps g gV, FnOk P w K mg base (L2.CX P w) k f fd ps sp ∧ KBn K fd ps n ks g gV ∧ ∀ vs zs, gV vs zs = vs ++ zs
def tKS (n m : Nat) (sp : Sp) (E : L2.St → XK) (t tk : TA) : TE := fun σ H Q => t σ H fun vs H1 => tk σ H1 fun zs H2 => vs.length = n ∧ zs.length = m ∧ sp (vs ++ zs) H2 Q (E σ)
def tKMk (C : Addr) (n m : Nat) (sp : Sp) (t tk : TA) : TE := fun σ H Q => t σ H fun vs H1 => tk σ H1 fun zs H2 => vs.length = n ∧ zs.length = m ∧
  ∀ x dx, H2 x = none → H2 dx = none → dx ≠ x → sp (.ref x :: vs ++ zs) (upd (upd H2 dx (.own x)) x (.ins C dx [])) (fun v H3 => v = .non ∧ Q (.ref x) H3) E0
def tKM (C : Addr) (m' : PStr) (n m : Nat) (sp : Sp) (E : L2.St → XK) (ta : TE) (t tk : TA) : TE := fun σ H Q => ta σ H fun x H1 => ∃ a dx fs, x = .ref a ∧ H1 a = some (.ins C dx fs) ∧ fs.lookup m' = none ∧ t σ H1 fun vs H2 => tk σ H2 fun zs H3 =>
  vs.length = n ∧ zs.length = m ∧ sp (.ref a :: vs ++ zs) H3 Q (E σ)
def tDS (sp : Sp) (E : L2.St → XK) (t : TA) : TE := fun σ H Q => t σ H fun vs H1 => sp vs H1 Q (E σ)
section
variable {X : Cx} {j k i n : Nat} {f C : Addr} {x m : PStr} {ks : List PStr} {sp : Sp} {E : L2.St → XK} {p pos apos : Pos} {e o : Expr} {es : List Expr} {kws : List Keyword} {ta : TE} {t tk : TA}
theorem run_kS {pins : List (Addr × Obj)} {σ : L2.St} {H : Hp} {s : Shared} {Q : VK} {us ws : List Value} {vs zs : List V} (F : KFn X.prog X.w X.K X.mg X.base k f n ks sp) (hr : Room k X.A) (hx : PassesAt (L2.CX X.prog X.w) X σ (E σ))
    (I : Inv X pins σ H s) (r : Vals vs us) (rz : Vals zs ws) (l1 : vs.length = n) (l2 : zs.length = ks.length) (h : sp (vs ++ zs) H Q (E σ)) : wpAny (model X.prog X.w) X.A (call (.ref f) us (ks.zip ws)) (EP X pins σ Q) X.xe s := by
  obtain ⟨fd, ps, g, gV, F, hb, hg⟩ := F.ex
  have r2 := hb.rel r rz
  refine wpAny_call (codeAny_mono (F.run X.A X.stack s H ⟨us, ks.zip ws⟩ (g us ws) (gV vs zs) Q (E σ) hr I.env0 (hb.to s us ws I.kIn (r.length.symm.trans l1) (rz.length.symm.trans l2)) r2 (by rw [hg]; exact h)) fun r s' hq => ?_)
  cases r with
  | error e => exact hx pins H s e s' I hq
  | ok fl =>
    cases fl with
    | ret u => exact I.after hq
    | next => exact False.elim hq
    | brk => exact False.elim hq
    | cont => exact False.elim hq
theorem pe_kS (F : KFn X.prog X.w X.K X.mg X.base k f n ks sp) (hr : Room j X.A) (hj : k ≤ j) (hx : ∀ σ, PassesAt (L2.CX X.prog X.w) X σ (E σ)) (hm : X.mg x = some (.ref f)) (hk : PySem.W.keepIn X.K (.ref f) = true) (hg : Gl X x)
    (ha : PA X (e :: es) t) (hkw : PK X kws tk) (hall : (backToKw pos (keywordEach kws X.env)).all (·.1.isSome) = true := by rfl) (hks : (backToKw pos (keywordEach kws X.env)).filterMap (·.1) = ks := by rfl)
    (hdb : (x == ("__debug__" : PStr)) = false := by decide) (he : starEach (e :: es) X.env = (false, eval e X.env) :: starEach es X.env := by rfl)
    (hpl : ((backTo pos (starEach (e :: es) X.env)).any (·.1) || (backToKw pos (keywordEach kws X.env)).any (·.1.isNone)) = false := by rfl) :
    PE X (.Call (.Name x p) (e :: es) kws pos) (tKS n ks.length sp E t tk) := by
  refine ⟨fun pins s σ H Q I h => ?_⟩
  refine wpAny_Call_Name_kw (ld_glob I hg hm ?_ hdb)
  refine PySem.W.callWith_KW (h₀ := X.base) I.ok.mod.kin hk hall (thn (ha.run pos pins s σ H _ I h) fun us s1 ⟨vs, H1, I1, r, q⟩ => ?_) hpl he
  refine thn (hkw.run pos pins s1 σ H1 _ I1 q) fun ws s2 ⟨zs, H2, I2, rz, l1, l2, q2⟩ => ⟨I2.kIn, ?_⟩
  rw [hks]
  exact run_kS F (hr.mono hj) (hx σ) I2 r rz l1 l2 q2
theorem pe_kMk (M : Mk X.K C f) (F : KFn X.prog X.w X.K X.mg X.base k f (n + 1) ks sp) (hr : Room j X.A) (hj : k + 1 ≤ j) (hm : X.mg x = some (.ref C)) (hg : Gl X x)
    (ha : PA X (e :: es) t) (hkw : PK X kws tk) (hall : (backToKw pos (keywordEach kws X.env)).all (·.1.isSome) = true := by rfl) (hks : (backToKw pos (keywordEach kws X.env)).filterMap (·.1) = ks := by rfl)
    (hdb : (x == ("__debug__" : PStr)) = false := by decide) (he : starEach (e :: es) X.env = (false, eval e X.env) :: starEach es X.env := by rfl)
    (hpl : ((backTo pos (starEach (e :: es) X.env)).any (·.1) || (backToKw pos (keywordEach kws X.env)).any (·.1.isNone)) = false := by rfl) :
    PE X (.Call (.Name x p) (e :: es) kws pos) (tKMk C n ks.length sp t tk) := by
  obtain ⟨fd, ps, g, gV, F, hb, hgv⟩ := F.ex
  refine ⟨fun pins s σ H Q I h => ?_⟩
  refine (pe_makeN (E := E0) M F (hr.mono hj) hg hm hb passL ha hkw hall hks hdb he hpl).run pins s σ H Q I ?_
  have e : gV = fun vs zs => vs ++ zs := funext fun vs => funext fun zs => hgv vs zs
  subst e
  exact h
theorem pe_kM {pl : Sem Bool} (c : Cls X.K C) (hm : Meth X.K C m f) (F : KFn X.prog X.w X.K X.mg X.base k f (n + 1) ks sp) (hr : Room j X.A) (hj : k ≤ j) (hx : ∀ σ, PassesAt (L2.CX X.prog X.w) X σ (E σ)) (ho : PE X o ta)
    (ha : PA X (e :: es) t) (hkw : PK X kws tk) (hall : (backToKw pos (keywordEach kws X.env)).all (·.1.isSome) = true := by rfl) (hks : (backToKw pos (keywordEach kws X.env)).filterMap (·.1) = ks := by rfl)
    (he : starEach (e :: es) X.env = (false, eval e X.env) :: starEach es X.env := by rfl)
    (hpl : ((backTo pos (starEach (e :: es) X.env)).any (·.1) || (backToKw pos (keywordEach kws X.env)).any (·.1.isNone)) = false := by rfl)
    (ht : eval (.Call (.Attribute o m apos) (e :: es) kws pos) X.env = (do
      let ov ← eval o X.env
      standAt apos.atName
      let (f, first) ← holding [ov] (getMethod ov m pl)
      callWith pos f first (backTo pos (starEach (e :: es) X.env)) (backToKw pos (keywordEach kws X.env))) := by rfl) :
    PE X (.Call (.Attribute o m apos) (e :: es) kws pos) (tKM C m n ks.length sp E ta t tk) := by
  refine ⟨fun pins s σ H Q I h => ?_⟩
  refine PySem.W.methodCall_KW (pl := pl) (thn (ho.run pins s σ H _ I h) fun u s1 hh => ?_) ht
  obtain ⟨x, H1, I1, rx, a, dx, fs, ex, ea, l, q⟩ := hh
  subst ex
  obtain rfl : u = Value.ref a := rx
  refine getmeth_ok I1 ea c hm l ?_
  refine PySem.W.callWith_KW (first := [.ref a]) (h₀ := X.base) I.ok.mod.kin hm.kp hall (thn (ha.run pos pins s1 σ H1 _ I1 q) fun us s2 hh => ?_) hpl he
  obtain ⟨vs, H2, I2, r, q2⟩ := hh
  refine thn (hkw.run pos pins s2 σ H2 _ I2 q2) fun ws s3 ⟨zs, H3, I3, rz, l1, l2, q3⟩ => ⟨I3.kIn, ?_⟩
  rw [hks]
  exact run_kS (us := .ref a :: us) (vs := .ref a :: vs) F (hr.mono hj) (hx σ) I3 (.cons rfl r) rz (congrArg Nat.succ l1) l2 q3
/-- a def's call, within a try -/
theorem pe_dS (D : Dfn X.prog X.w X.K X.mg X.base k x sp) (hr : Room j X.A) (hk : k ≤ j) (hx : ∀ σ, PassesAt (L2.CX X.prog X.w) X σ (E σ)) (hg : Gl X x) (ha : PA X (e :: es) t)
    (hdb : (x == ("__debug__" : PStr)) = false := by decide) (he : starEach (e :: es) X.env = (false, eval e X.env) :: starEach es X.env := by rfl) (hpl : (backTo pos (starEach es X.env)).any (·.1) = false := by rfl) :
    PE X (.Call (.Name x p) (e :: es) [] pos) (tDS sp E t) := by
  obtain ⟨f, hm, kp, F⟩ := D.ex
  refine ⟨fun pins s σ H Q I h => ?_⟩
  refine wpAny_Call_Name_kw (ld_glob I hg hm ?_ hdb)
  refine PySem.W.callWith_K (h₀ := X.base) I.ok.mod.kin kp (thn (ha.run pos pins s σ H _ I h) fun us s1 hh => ?_) he hpl
  obtain ⟨vs, H1, I1, r, q⟩ := hh
  refine ⟨I1.kIn, wpAny_call (codeAny_mono (F X.A X.stack s1 H1 us vs Q (E σ) (hr.mono hk) I1.env0 r q) fun r s' hq => ?_)⟩
  cases r with
  | error e => exact hx σ pins H1 s1 e s' I1 hq
  | ok fl =>
    cases fl with
    | ret u => exact I1.after hq
    | next => exact False.elim hq
    | brk => exact False.elim hq
    | cont => exact False.elim hq
end
section
variable {X : Cx} {j k : Nat} {C p g a : Addr} {mc : Value} {f m : PStr} {sp : Sp} {pos apos : Pos} {e o : Expr} {ta : TE}
/-- C.m(), a classmethod -/
def tCM0 (C : Addr) (sp : Sp) (ta : TE) : TE := fun σ H Q => ta σ H fun x H1 => x = .ref C ∧ sp [.ref C] H1 Q E0
theorem pe_cm0 {pl : Sem Bool} (he : PE X o ta) (r : CRead X.K C mc) (c : CMet X.K C mc m p g) (F : FnR X.prog X.w X.K X.mg X.base (L2.CX X.prog X.w) k g sp) (hr : Room j X.A) (hj : k ≤ j)
    (ht : eval (.Call (.Attribute o m apos) [] [] pos) X.env = (do
      let ov ← eval o X.env
      standAt apos.atName
      let (f, first) ← holding [ov] (getMethod ov m pl)
      callWith pos f first (backTo pos (starEach [] X.env)) (backToKw pos (keywordEach [] X.env))) := by rfl) :
    PE X (.Call (.Attribute o m apos) [] [] pos) (tCM0 C sp ta) := by
  refine ⟨fun pins s σ H Q I h => ?_⟩
  refine PySem.W.methodCall_KW (pl := pl) (thn (he.run pins s σ H _ I h) fun u s1 ⟨x, H1, I1, rx, ex, q⟩ => ?_) ht
  subst ex
  obtain rfl : u = Value.ref C := rx
  refine getmethcm_ok I1 r c fun s2 I2 => ?_
  refine PySem.W.callWith_M0 (K := X.K) (first := []) ⟨pin_at I2, I2.kIn⟩ c.fi ?_
  exact run_cm (us := []) (vs := []) F (hr.mono hj) passL I2 .nil q
/-- e.f, a property -/
def tPR (C : Addr) (sp : Sp) (ta : TE) : TE := fun σ H Q => ta σ H fun x H1 => ∃ a dx fs, x = .ref a ∧ H1 a = some (.ins C dx fs) ∧ sp [.ref a] H1 Q E0
theorem pe_pr (he : PE X e ta) (c : Cls X.K C) (hp : PropOf X.K C f p g) (F : FnR X.prog X.w X.K X.mg X.base (L2.CX X.prog X.w) k g sp) (hr : Room j X.A) (hj : k + 1 ≤ j)
    (hab : attributeBase e f X.env (eval e X.env) = eval e X.env := by rfl) : PE X (.Attribute e f pos) (tPR C sp ta) := by
  refine ⟨fun pins s σ H Q I h => ?_⟩
  refine attr_of hab (thn (he.run pins s σ H _ I h) fun u s1 ⟨x, H1, I1, rx, a, dx, fs, ex, ea, q⟩ => ?_)
  subst ex
  obtain rfl : u = Value.ref a := rx
  obtain ⟨mA, O, _, _, _, _⟩ := ins_get I1.hok ea
  obtain ⟨od, J, _⟩ := O.look
  obtain ⟨rest, hrec⟩ := hp.rec_
  have I2 := I1.tok (s1.toks + 1)
  have hc : (PySem.W.clsIn X.K C).isSome = true := by
    obtain ⟨cd, hc, _⟩ := PySem.W.any_some c.hd
    rw [hc]
    rfl
  refine PySem.W.get_bind I1.kIn J (PySem.W.plainGet_of (c.get f)).1 (PySem.W.findObj_data hc hp.at_ hp.get hp.tak) (PySem.W.plainGet_of (c.get f)).2 (wpAny_call (PySem.W.prop_get (s := { s1 with toks := s1.toks + 1 }) I1.kIn hrec ?_))
  refine codeAny_mono (F X.A.in1 X.stack { s1 with toks := s1.toks + 1 } H1 [.ref a] [.ref a] Q E0 (hr.mono hj).in1 I2.env0.in1 (.cons rfl .nil) q) fun r s' hq => ?_
  cases r with
  | error er => exact False.elim ((passL : Passes (L2.CX X.nox.prog X.nox.w) X.nox E0) pins σ H1 { s1 with toks := s1.toks + 1 } er s' (I2.wish _) hq)
  | ok fl =>
    cases fl with
    | ret u =>
      obtain ⟨v, H', I3, rv, q3⟩ := I2.after hq
      show wpAny _ _ (handedOut u) _ _ _
      rw [PySem.W.handedOut_of (handed_of rv)]
      exact wpAny_pure ⟨v, H', I3, rv, q3⟩
    | next => exact False.elim hq
    | brk => exact False.elim hq
    | cont => exact False.elim hq
/-- a value at an address, from now on locked -/
def tFrz (t : TE) : TE := fun σ H Q => t σ H fun v H1 => ∃ d u, v = .ref d ∧ H1 d = some u ∧ Mut (some u) ∧ ∀ o, Q v (upd H1 d (.frz o u))
theorem pe_frz (he : PE X e ta) : PE X e (tFrz ta) := by
  refine ⟨fun pins s σ H Q I h => ?_⟩
  refine thn (he.run pins s σ H _ I h) fun u s1 ⟨x, H1, I1, rx, d, o, ex, ed, mu, q⟩ => ?_
  subst ex
  obtain ⟨od, I2⟩ := I1.lock ed mu
  exact ⟨.ref d, _, I2, rx, q od⟩
end
end TX
end
section
set_option autoImplicit false
set_option maxHeartbeats 4000000
/-! Dicts of letters: a store, two merged, the keys; a function cut to some places. -/
namespace TX
open PySem PySem.Spec PyProof.Rows L2 He TE
/-- what H' has and H has not -/
def dif (H H' : Hp) : Hp := fun a => match H a with
  | some _ => none
  | none => H' a
theorem dif_at {H H' : Hp} {a : Addr} (h : H a = none) : dif H H' a = H' a := by unfold dif; rw [h]
theorem dif_same {H H' : Hp} : Same (dif H H') H' := fun a o h => by
  unfold dif at h
  cases e : H a with
  | some x => rw [e] at h; cases h
  | none => rw [e] at h; exact h
theorem dif_mono {H H1 H' : Hp} (s : Same H H1) : Same (dif H1 H') (dif H H') := fun a o h => by
  unfold dif at h
  cases e : H1 a with
  | some x => rw [e] at h; cases h
  | none =>
    rw [e] at h
    rw [dif_at (s.free e)]
    exact h
theorem dif_up {H H' H2 : Hp} (s : Same H' H2) : Same (dif H H') (dif H H2) := fun a o h => by
  unfold dif at h
  cases e : H a with
  | some x => rw [e] at h; cases h
  | none =>
    rw [e] at h
    rw [dif_at e]
    exact s a o h
theorem keys_put (kvs : List (Key × V)) (k : Key) (v : V) : (putK kvs k v).map (·.1) = kvs.map (·.1) ∨ (k ∉ kvs.map (·.1) ∧ (putK kvs k v).map (·.1) = kvs.map (·.1) ++ [k]) := by
  unfold putK
  have e : (kvs.any fun kv => decide (kv.1 = k)) = true ↔ k ∈ kvs.map (·.1) := by
    rw [List.any_eq_true, List.mem_map]
    constructor
    · rintro ⟨p, hp, q⟩
      exact ⟨p, hp, of_decide_eq_true q⟩
    · rintro ⟨p, hp, q⟩
      exact ⟨p, hp, decide_eq_true q⟩
  by_cases h : k ∈ kvs.map (·.1)
  · left
    rw [if_pos (e.mpr h), List.map_map]
    apply List.map_congr_left
    intro p _
    show (if p.1 = k then (p.1, v) else p).1 = p.1
    split <;> rfl
  · right
    rw [if_neg (fun q => h (e.mp q)), List.map_append]
    exact ⟨h, rfl⟩
theorem nd_put {kvs : List (Key × V)} {k : Key} {v : V} (h : (kvs.map (·.1)).Nodup) : ((putK kvs k v).map (·.1)).Nodup := by
  rcases keys_put kvs k v with e | ⟨n, e⟩
  · rw [e]
    exact h
  · rw [e, List.nodup_append]
    refine ⟨h, by simp, ?_⟩
    intro a ha b hb
    rw [List.mem_singleton] at hb
    subst hb
    exact fun e => n (e ▸ ha)
theorem pigeon {α : Type} [DecidableEq α] : ∀ (l : List α) (m : List α), l.Nodup → (∀ x ∈ l, x ∈ m) → l.length ≤ m.length
  | [], m, _, _ => Nat.zero_le _
  | a :: l, m, nd, h => by
    rw [List.nodup_cons] at nd
    have ha := h a List.mem_cons_self
    have q := pigeon l (m.erase a) nd.2 fun x hx => (List.mem_erase_of_ne (fun e : x = a => nd.1 (by rw [← e]; exact hx))).mpr (h x (List.mem_cons_of_mem _ hx))
    rw [List.length_erase_of_mem ha] at q
    have : 0 < m.length := List.length_pos_of_mem ha
    rw [List.length_cons]
    omega
theorem mem_put {kvs : List (Key × V)} {k : Key} {v : V} {p : Key × V} (h : p ∈ putK kvs k v) : p = (k, v) ∨ p ∈ kvs := by
  unfold putK at h
  split at h
  · obtain ⟨q, hq, e⟩ := List.mem_map.mp h
    by_cases hk : q.1 = k
    · rw [if_pos hk] at e
      rw [← e, hk]
      exact .inl rfl
    · rw [if_neg hk] at e
      rw [← e]
      exact .inr hq
  · rcases List.mem_append.mp h with h | h
    · exact .inr h
    · exact .inl (List.mem_singleton.mp h)
theorem valV_mem {kvs : List (Key × V)} {k : Key} {v : V} (h : valV kvs k = some v) : (k, v) ∈ kvs := by
  unfold valV at h
  obtain ⟨p, hp, e⟩ := Option.map_eq_some_iff.mp h
  have h1 := List.mem_of_find?_eq_some hp
  have h2 := of_decide_eq_true (List.find?_some (p := fun kv : Key × V => decide (kv.1 = k)) hp)
  rw [← e, ← h2]
  exact h1
theorem valV_of_mem {kvs : List (Key × V)} (nd : (kvs.map (·.1)).Nodup) {k : Key} {v : V} (h : (k, v) ∈ kvs) : valV kvs k = some v := by
  induction kvs with
  | nil => cases h
  | cons p r ih =>
    rw [List.map_cons, List.nodup_cons] at nd
    rcases List.mem_cons.mp h with e | h
    · rw [← e]
      exact valV_pos rfl
    · have ne : ¬ p.1 = k := fun e => nd.1 (by rw [e]; exact List.mem_map.mpr ⟨(k, v), h, rfl⟩)
      rw [valV_neg ne]
      exact ih nd.2 h
theorem LDk.mono {kvs : List (Key × V)} {f : Int → Option PStr} {n m : Nat} (h : LDk kvs f n) (l : n ≤ m) : LDk kvs f m := ⟨h.nd, h.sh, h.vl, Nat.le_trans h.ln l⟩
theorem LDk.put {kvs : List (Key × V)} {f : Int → Option PStr} {n : Nat} (h : LDk kvs f n) {i : Int} {z : PStr} (hz : Let z) : LDk (putK kvs (Sum.inl i) (.str z)) (fset f i (some z)) (n + 1) := by
  refine ⟨nd_put h.nd, fun p hp => ?_, fun j => ?_, Nat.le_trans (length_putK _ _ _) (Nat.succ_le_succ h.ln)⟩
  · rcases mem_put hp with rfl | hp
    · exact ⟨i, z, rfl, hz⟩
    · exact h.sh p hp
  · rw [valV_put]
    by_cases e : j = i
    · subst e
      rw [if_pos rfl, fset_same]
      rfl
    · rw [if_neg (fun q => e (Sum.inl.inj q)), fset_ne _ _ e]
      exact h.vl j
theorem LDk.small {kvs : List (Key × V)} {f : Int → Option PStr} {n : Nat} (h : LDk kvs f n) (l : n ≤ 10000) : kvs.length < sizeLine := by
  have := h.ln
  rw [sizeLine_eq]
  omega
theorem LDk.congr {kvs : List (Key × V)} {f g : Int → Option PStr} {n : Nat} (h : LDk kvs f n) (e : ∀ i, f i = g i) : LDk kvs g n := by
  have : f = g := funext e
  rw [← this]
  exact h
theorem LDk.letD {kvs : List (Key × V)} {f : Int → Option PStr} {n : Nat} (h : LDk kvs f n) : LetD kvs := h.sh
theorem LDk.lets {kvs : List (Key × V)} {f : Int → Option PStr} {n : Nat} (h : LDk kvs f n) {i : Int} {z : PStr} (e : f i = some z) : Let z := by
  have v := h.vl i
  rw [e] at v
  obtain ⟨j, y, q, hy⟩ := h.sh _ (valV_mem v)
  cases q
  exact hy
/-- an entry -/
theorem LDk.ent {kvs : List (Key × V)} {f : Int → Option PStr} {n : Nat} (h : LDk kvs f n) {p : Key × V} (hp : p ∈ kvs) : ∃ i z, p = (Sum.inl i, V.str z) ∧ Let z ∧ f i = some z := by
  obtain ⟨i, z, e, hz⟩ := h.sh p hp
  refine ⟨i, z, e, hz, ?_⟩
  have q := valV_of_mem h.nd (k := Sum.inl i) (v := .str z) (by rw [← e]; exact hp)
  rw [h.vl i] at q
  obtain ⟨y, hy, ey⟩ := Option.map_eq_some_iff.mp q
  cases ey
  exact hy
/-- its keys -/
theorem LDk.keys {kvs : List (Key × V)} {f : Int → Option PStr} {n : Nat} (h : LDk kvs f n) : ∃ ks : List Int, kvs.map (·.1) = ks.map Sum.inl ∧ ks.length = kvs.length ∧ ks.Nodup ∧ ∀ i, i ∈ ks ↔ (f i).isSome = true := by
  have ex : ∀ l : List (Key × V), (∀ p ∈ l, ∃ i z, p = (Sum.inl i, V.str z) ∧ Let z) → ∃ ks : List Int, l.map (·.1) = ks.map Sum.inl ∧ ks.length = l.length := by
    intro l
    induction l with
    | nil => intro _; exact ⟨[], rfl, rfl⟩
    | cons p r ih =>
      intro q
      obtain ⟨ks, e1, e2⟩ := ih fun p hp => q p (List.mem_cons_of_mem _ hp)
      obtain ⟨i, z, e, _⟩ := q p List.mem_cons_self
      exact ⟨i :: ks, by rw [List.map_cons, List.map_cons, e1, e], by rw [List.length_cons, List.length_cons, e2]⟩
  obtain ⟨ks, e1, e2⟩ := ex kvs h.sh
  have inj : ∀ (l : List Int), (l.map (Sum.inl : Int → Key)).Nodup → l.Nodup := by
    intro l
    induction l with
    | nil => intro _; exact .nil
    | cons a r ih =>
      intro q
      rw [List.map_cons, List.nodup_cons] at q
      rw [List.nodup_cons]
      exact ⟨fun hm => q.1 (List.mem_map.mpr ⟨a, hm, rfl⟩), ih q.2⟩
  refine ⟨ks, e1, e2, inj ks (by rw [← e1]; exact h.nd), fun i => ?_⟩
  constructor
  · intro hi
    have hm : (Sum.inl i : Key) ∈ kvs.map (·.1) := by
      rw [e1]
      exact List.mem_map.mpr ⟨i, hi, rfl⟩
    obtain ⟨p, hp, ep⟩ := List.mem_map.mp hm
    obtain ⟨j, z, e, _, fz⟩ := h.ent hp
    rw [e] at ep
    cases ep
    rw [fz]
    rfl
  · intro hi
    obtain ⟨z, hz⟩ := Option.isSome_iff_exists.mp hi
    have v := h.vl i
    rw [hz] at v
    have hm : (Sum.inl i : Key) ∈ kvs.map (·.1) := List.mem_map.mpr ⟨_, valV_mem v, rfl⟩
    rw [e1] at hm
    obtain ⟨j, hj, e⟩ := List.mem_map.mp hm
    cases e
    exact hj
theorem LDk.merge {kvs more : List (Key × V)} {f g : Int → Option PStr} {n m : Nat} (h : LDk kvs f n) (h' : LDk more g m) : LDk (mergeK kvs more) (fun i => (g i).or (f i)) (n + m) := by
  have gen : ∀ (l : List (Key × V)) (kvs : List (Key × V)) (f : Int → Option PStr) (n : Nat), LDk kvs f n → (l.map (·.1)).Nodup → (∀ p ∈ l, ∃ i z, p = (Sum.inl i, V.str z) ∧ Let z) →
      LDk (mergeK kvs l) (fun i => match valV l (Sum.inl i) with | some (.str z) => some z | _ => f i) (n + l.length) := by
    intro l
    induction l with
    | nil =>
      intro kvs f n h _ _
      exact h
    | cons p r ih =>
      intro kvs f n h nd sh
      obtain ⟨i, z, rfl, hz⟩ := sh _ List.mem_cons_self
      rw [List.map_cons, List.nodup_cons] at nd
      have q := ih (putK kvs (Sum.inl i) (.str z)) (fset f i (some z)) (n + 1) (h.put hz) nd.2 fun p hp => sh p (List.mem_cons_of_mem _ hp)
      refine (q.mono (by rw [List.length_cons]; omega)).congr fun j => ?_
      by_cases e : j = i
      · subst e
        have hn : valV r (Sum.inl j) = none := by
          cases hv : valV r (Sum.inl j) with
          | none => rfl
          | some v => exact absurd (List.mem_map.mpr ⟨_, valV_mem hv, rfl⟩) nd.1
        rw [hn, valV_pos rfl, fset_same]
      · rw [valV_neg (fun q => e (Sum.inl.inj q).symm), fset_ne _ _ e]
  refine ((gen more kvs f n h h'.nd h'.sh).mono (Nat.add_le_add_left h'.ln n)).congr fun i => ?_
  rw [h'.vl i]
  cases g i <;> rfl
/-- a dict comprehension over any walk -/
theorem dc_it {J : It} {n : Nat} {G : Hp → Prop} {Y : Nat → Hp → V → Hp → Prop} (w : Walk J n G Y) {g : TG} {tt : TT} {tk tv : L2.TE} {vs : List Nat} {σ : L2.St} {H1 : Hp} {D : Addr} {Qd : Hp → Prop} (Pv : Nat → Hp → Prop) (h0 : Pv 0 (upd H1 D (.dK []))) (hG : ∀ i H, i ≤ n → Pv i H → G H)
    (hs : ∀ i x H H', i < n → Pv i H → Y i H x H' → g x (wipe σ vs) H' fun σ2 H2 => wipe σ2 vs = wipe σ vs ∧ tt σ2 H2 fun b H3 =>
      if b = true then tk σ2 H3 fun y H4 => tv σ2 H4 fun z H5 => ∃ kvs k, y = kV k ∧ H5 D = some (.dK kvs) ∧ kvs.length < sizeLine ∧ Pv (i + 1) (upd H5 D (.dK (putK kvs k z))) else Pv (i + 1) H3) (hd : ∀ H, Pv n H → Qd H) :
    ∃ W : Nat → Nat → Hp → Prop, (∃ m, W 0 m (upd H1 D (.dK []))) ∧ ∀ i m H, W i m H →
      (J.stop i H ∧ Qd H) ∨ (J.go i H ∧ ∃ Nx : Hp → Prop, (∀ H', Nx H' → ∃ m', m' < m ∧ W (i + 1) m' H') ∧ ∀ x H', J.yld i H x H' → g x (wipe σ vs) H' fun σ2 H2 => wipe σ2 vs = wipe σ vs ∧ tt σ2 H2 fun b H3 =>
        if b = true then tk σ2 H3 fun y H4 => tv σ2 H4 fun z H5 => ∃ kvs k, y = kV k ∧ H5 D = some (.dK kvs) ∧ kvs.length < sizeLine ∧ Nx (upd H5 D (.dK (putK kvs k z))) else Nx H3) := by
  refine ⟨fun i m H => m = n - i ∧ i ≤ n ∧ Pv i H, ⟨n, by simp, Nat.zero_le _, h0⟩, ?_⟩
  rintro i m H ⟨rfl, hi, p⟩
  have q := hG i H hi p
  by_cases hlt : i < n
  · exact .inr ⟨w.goes i H hlt q, Pv (i + 1), fun H' p' => ⟨n - (i + 1), by omega, rfl, hlt, p'⟩, fun x H' y => hs i x H H' hlt p (w.yields i H x H' hlt q y)⟩
  · have e : i = n := by omega
    subst e
    exact .inl ⟨w.stops H q, hd H p⟩
/-- f, at the places of S only -/
def rst (f : Int → Option PStr) (S : List Int) : Int → Option PStr := fun j => if j ∈ S then f j else none
theorem rst_nil (f : Int → Option PStr) (j : Int) : rst f [] j = none := by
  unfold rst
  rw [if_neg (by simp)]
theorem rst_some {f : Int → Option PStr} {S : List Int} {y : Int} {z : PStr} (h : f y = some z) (j : Int) : fset (rst f S) y (some z) j = rst f (S ++ [y]) j := by
  unfold rst
  by_cases e : j = y
  · subst e
    rw [fset_same, if_pos (by simp), h]
  · rw [fset_ne _ _ e]
    by_cases m : j ∈ S
    · rw [if_pos m, if_pos (List.mem_append_left _ m)]
    · rw [if_neg m, if_neg (by simp [m, e])]
theorem rst_none {f : Int → Option PStr} {S : List Int} {y : Int} (h : f y = none) (j : Int) : rst f S j = rst f (S ++ [y]) j := by
  unfold rst
  by_cases m : j ∈ S
  · rw [if_pos m, if_pos (List.mem_append_left _ m)]
  · rw [if_neg m]
    by_cases e : j = y
    · subst e
      rw [if_pos (by simp), h]
    · rw [if_neg (by simp [m, e])]
theorem rst_all {f : Int → Option PStr} {S : List Int} (h : ∀ j z, f j = some z → j ∈ S) (j : Int) : rst f S j = f j := by
  unfold rst
  by_cases m : j ∈ S
  · rw [if_pos m]
  · rw [if_neg m]
    cases e : f j with
    | none => rfl
    | some z => exact absurd (h j z e) m
theorem take_snoc {α : Type} {l : List α} {i : Nat} {x : α} (h : l[i]? = some x) : l.take (i + 1) = l.take i ++ [x] := by
  obtain ⟨hi, e⟩ := List.getElem?_eq_some_iff.mp h
  rw [List.take_succ, h]
  rfl
/-- two dicts of letters are the same -/
theorem hitsR_iff {ls : List (Key × V)} {g : Int → Option PStr} {m : Nat} (hb : LDk ls g m) : ∀ (ks : List (Key × V)), (∀ p ∈ ks, ∃ i z, p = (Sum.inl i, V.str z) ∧ Let z) → (hitsR ls ks = true ↔ ∀ i z, (Sum.inl i, V.str z) ∈ ks → g i = some z) := by
  intro ks
  induction ks with
  | nil =>
    intro _
    exact ⟨fun _ i z h => (by cases h), fun _ => rfl⟩
  | cons p r ih =>
    intro sh
    obtain ⟨i, z, rfl, hz⟩ := sh _ List.mem_cons_self
    have ih' := ih fun p hp => sh p (List.mem_cons_of_mem _ hp)
    unfold hitsR
    show (match valV ls (Sum.inl i) with | none => false | some y => eqV (V.str z) y && hitsR ls r) = true ↔ _
    rw [hb.vl i]
    cases e : g i with
    | none =>
      constructor
      · intro h
        cases h
      · intro h
        have := h i z List.mem_cons_self
        rw [e] at this
        cases this
    | some y =>
      show (eqV (V.str z) (V.str y) && hitsR ls r) = true ↔ _
      rw [Bool.and_eq_true, ih']
      have eq : eqV (V.str z) (V.str y) = true ↔ z = y := by
        unfold eqV
        constructor
        · intro h
          simpa using h
        · intro h
          subst h
          simp
      rw [eq]
      constructor
      · rintro ⟨rfl, h⟩ j w hw
        rcases List.mem_cons.mp hw with q | q
        · cases q
          exact e
        · exact h j w q
      · intro h
        refine ⟨?_, fun j w q => h j w (List.mem_cons_of_mem _ q)⟩
        have := h i z List.mem_cons_self
        rw [e] at this
        exact (Option.some.inj this).symm
theorem sameR_iff {ks ls : List (Key × V)} {f g : Int → Option PStr} {n m : Nat} (ha : LDk ks f n) (hb : LDk ls g m) : sameR ks ls = true ↔ f = g := by
  unfold sameR
  rw [Bool.and_eq_true, hitsR_iff hb ks ha.sh]
  obtain ⟨k1, e1, l1, nd1, m1⟩ := ha.keys
  obtain ⟨k2, e2, l2, nd2, m2⟩ := hb.keys
  have mem : ∀ i z, (Sum.inl i, V.str z) ∈ ks ↔ f i = some z := fun i z => by
    constructor
    · intro h
      obtain ⟨j, y, e, _, fz⟩ := ha.ent h
      cases e
      exact fz
    · intro h
      have v := ha.vl i
      rw [h] at v
      exact valV_mem v
  constructor
  · rintro ⟨hl, hs⟩
    have hl' : k1.length = k2.length := by rw [l1, l2]; exact beq_iff_eq.mp hl
    have sub : ∀ i, i ∈ k1 → i ∈ k2 := fun i hi => by
      obtain ⟨z, hz⟩ := Option.isSome_iff_exists.mp ((m1 i).mp hi)
      rw [m2, hs i z ((mem i z).mpr hz)]
      rfl
    have sub2 : ∀ i, i ∈ k2 → i ∈ k1 := by
      intro i hi
      by_cases hm : i ∈ k1
      · exact hm
      · have q := pigeon (i :: k1) k2 (List.nodup_cons.mpr ⟨hm, nd1⟩) fun x hx => by
          rcases List.mem_cons.mp hx with rfl | hx
          · exact hi
          · exact sub x hx
        rw [List.length_cons] at q
        omega
    funext i
    cases e : f i with
    | some z => exact (hs i z ((mem i z).mpr e)).symm
    | none =>
      cases e' : g i with
      | none => rfl
      | some y =>
        have : i ∈ k1 := sub2 i ((m2 i).mpr (by rw [e']; rfl))
        rw [m1, e] at this
        cases this
  · rintro rfl
    refine ⟨?_, fun i z h => (mem i z).mp h⟩
    have q1 := pigeon k1 k2 nd1 fun i hi => (m2 i).mpr ((m1 i).mp hi)
    have q2 := pigeon k2 k1 nd2 fun i hi => (m1 i).mpr ((m2 i).mp hi)
    rw [← l1, ← l2]
    exact beq_iff_eq.mpr (Nat.le_antisymm q1 q2)
theorem LDk.flat {kvs : List (Key × V)} {f : Int → Option PStr} {n : Nat} (h : LDk kvs f n) : FlatR kvs := fun p hp => by
  obtain ⟨i, z, rfl, _⟩ := h.sh p hp
  rfl
end TX
end
section
set_option autoImplicit false
set_option maxHeartbeats 4000000
/-! Tapes; effects made, compared, applied. -/
namespace TX
open PySem PySem.Spec PyProof.Rows L2 He TE
/-- the fields after stores -/
theorem pf3 (a b c : PStr) (x y z : V) (h1 : (a = b) = False) (h2 : (a = c) = False) (h3 : (b = c) = False) : putF c z (putF b y (putF a x [])) = [(a, x), (b, y), (c, z)] := by
  simp [putF, h1, h2, h3]
theorem pf2 (a b : PStr) (x y : V) (h1 : (a = b) = False) : putF b y (putF a x []) = [(a, x), (b, y)] := by
  simp [putF, h1]
theorem pf2' (a b : PStr) (x y z : V) (h1 : (a = b) = False) : putF b z (putF b y (putF a x [])) = [(a, x), (b, z)] := by
  simp [putF, h1]
theorem lk_none {fs : List (PStr × V)} {ks : List PStr} {m : PStr} (h : fs.map (·.1) = ks) (hm : m ∉ ks) : fs.lookup m = none := by
  subst h
  induction fs with
  | nil => rfl
  | cons p r ih =>
    rw [List.map_cons, List.mem_cons, not_or] at hm
    rw [show p = (p.1, p.2) from rfl, List.lookup_cons]
    have : (m == p.1) = false := by
      rw [beq_eq_false_iff_ne]
      exact hm.1
    rw [this]
    exact ih hm.2
section
variable {P : Program} {w : World} {K : PySem.W.Frag} {mg : PStr → Option Value} {base : Heap}
/-! ### by_offset -/
theorem sc24 : FnScope ["letters", "offset"] ["letters"] (defScope s24) := ⟨rfl, rfl, rfl, by decide +kernel, rfl, by decide +kernel, by decide +kernel⟩
def spByOff : Sp := fun vs H Q _ => ∃ a kvs f n, vs = [.ref a] ∧ H a = some (.dK kvs) ∧ LDk kvs f n ∧ n < 64 ∧ ∀ H' d kv, Same H H' → H d = none → H' d = some (.dK kv) → LDk kv f n → Q (.ref d) H'

theorem ok_by_offset (T : Txt P K mg) : Dfn P w K mg base 1 "by_offset" spByOff := by
  refine dfnN T 7 (d := d24) rfl "by_offset" (by decide +kernel) rfl rfl sc24 (fun _ _ _ _ _ _ us hl => match us, hl with | [_], _ => rfl) (fun vs H Q E h => ?_) (fun f cdv A outer s H vs Q E hr h => ?_)
  · obtain ⟨a, kvs, f, n, rfl, _⟩ := h
    rfl
  · refine ⟨_, (pss_one (ps_ret (pe_dc (own := [("offset", 1)]) (g := (gName 1)) (tt := tYes) rfl sc24.nd (pi_list (pe_callB (call_sortedDI rfl) (by rfl) (T.fre "sorted" (by decide +kernel)) (by decide +kernel) (pa_cons (pv 0) pa_nil))) (blkOk_by (own := [("offset", 1)]) (N := ["letters", "offset"]) (sc := defScope s24) (by decide +kernel)) (fun _ _ _ _ _ => (pg_name (i := 1) sc24.nd rfl (.inl rfl))) (fun _ _ _ _ _ => pts_nil) (fun _ _ _ _ _ => (pv 1)) (fun _ _ _ _ _ => (pe_dget (hu_of hr) (pv 0) (pv 1) (fun _ _ => rfl)))))), ?_⟩
    obtain ⟨a, kvs, f, n, rfl, ha, L, hn, hQ⟩ := h
    obtain ⟨ks, k1, k2, k3, k4⟩ := L.keys
    have hl : ks.length < 64 := by rw [k2]; exact Nat.lt_of_le_of_lt L.ln hn
    refine ⟨_, rfl, a, kvs, ks, rfl, .inl ha, k1, hl, fun ys p pm _ hp => ?_⟩
    have e1 : Same H (upd H p (.lst (ys.map V.int))) := Ext.upd hp
    refine ⟨p, rfl, ⟨_, SqL.of upd_same⟩, fun D hD => ?_⟩
    have hD0 : H D = none := e1.free hD
    have nDp : p ≠ D := ne_free upd_same hD
    refine dc_it walk_list (fun i H' => Same (upd H p (.lst (ys.map V.int))) H' ∧ ∃ acc, H' D = some (.dK acc) ∧ LDk acc (rst f (ys.take i)) i) ⟨Same.new (Same.refl _) hD, _, upd_same, LDk.nil.congr fun j => (rst_nil f j).symm⟩ (fun i H' _ q => SqL.of (q.1 _ _ upd_same)) (fun i x H1 H2 hi q y => ?_) (fun H' q => ?_)
    · obtain ⟨rfl, hx⟩ := y
      obtain ⟨y, hy, rfl⟩ : ∃ y, ys[i]? = some y ∧ x = .int y := by
        rw [List.getElem?_map] at hx
        obtain ⟨y, hy, e⟩ := Option.map_eq_some_iff.mp hx
        exact ⟨y, hy, e.symm⟩
      obtain ⟨qs, acc, hacc, La⟩ := q
      obtain ⟨z, hz⟩ := Option.isSome_iff_exists.mp ((k4 y).mp (pm.mem_iff.mp (List.mem_of_getElem? hy)))
      have v := L.vl y
      rw [hz] at v
      have hil : i ≤ 10000 := by
        have h1 := pm.length_eq
        rw [List.length_map] at hi
        omega
      refine ⟨rfl, _, rfl, _, rfl, _, rfl, a, .str z, rfl, ?_, acc, Sum.inl y, rfl, hacc, La.small hil, Same.put qs hD, _, upd_same, (La.put (L.lets hz)).congr fun j => ?_⟩
      · exact .inl ⟨kvs, Sum.inl y, .inl (qs _ _ (e1 _ _ ha)), rfl, v.symm⟩
      · rw [take_snoc hy]
        exact rst_some hz j
    · obtain ⟨qs, acc, hacc, La⟩ := q
      refine hQ _ D acc (e1.trans qs) hD0 hacc ((La.congr fun j => ?_).mono ?_)
      · rw [List.length_map, List.take_length]
        exact rst_all (fun j z hz => pm.mem_iff.mpr ((k4 j).mpr (by rw [hz]; rfl))) j
      · rw [List.length_map, pm.length_eq, k2]
        exact L.ln
/-! ### Tape.__init__ -/
/-- a new instance, nothing stored -/
def NewI (H0 H : Hp) (x dx C : Addr) : Prop := H0 x = none ∧ H0 dx = none ∧ dx ≠ x ∧ H = upd (upd H0 dx (.own x)) x (.ins C dx [])
theorem NewI.same {H0 H : Hp} {x dx C : Addr} (h : NewI H0 H x dx C) : Same H0 H := by
  obtain ⟨h1, h2, h3, rfl⟩ := h
  exact Same.put (Same.put (Same.refl _) h2) h1
theorem NewI.at_ {H0 H : Hp} {x dx C : Addr} (h : NewI H0 H x dx C) : H x = some (.ins C dx []) := by
  obtain ⟨h1, h2, h3, rfl⟩ := h
  exact upd_same
theorem sc22_0 : FnScope ["self", "blank", "cells", "position"] ["self", "blank", "cells"] (defScope s22_0) := ⟨rfl, rfl, rfl, by decide +kernel, rfl, by decide +kernel, by decide +kernel⟩
def spTapeInit (K : PySem.W.Frag) : Sp := fun vs H Q _ => ∃ H0 x dx b a kvs f n, vs = [.ref x, .str b, .ref a] ∧ NewI H0 H x dx (ga K "Tape") ∧ H0 a = some (.dK kvs) ∧ LDk kvs f n ∧ n < 64 ∧ Let b ∧
  ∀ H', Same H0 H' → TapeAt K (dif H0 H') (.ref x) b (fun i => (f i).getD b) n → Q .non H'

theorem ok_tape_init (T : Txt P K mg) : KFn P w K mg base 3 (ma K (ga K "Tape") "__init__") 2 ["cells"] (spTapeInit K) := by
  obtain ⟨fd, F⟩ := T.fn 35 d22_0 rfl
  obtain ⟨its, mv, KB⟩ := FunD.kbinds (ps := ["self", "blank", "cells"]) F 2 ["cells"] [] (fun us _ _ ws => us ++ ws) (by intro q; cases q) (by intro q; cases q) (by intro q hq; cases hq) (fun r1 _ _ r4 => r1.append r4)
    (fun T D doc pm an cdv ct us its mv ws l1 l2 l3 l4 => match us, its, mv, ws, l1, l2, l3, l4 with | [_, _], [_], [], [_], _, _, _, _ => ⟨_, rfl, rfl⟩)
  refine ⟨fd, _, _, _, F.ok sc22_0 (fun vs H Q E h => ?_) (fun cdv A outer s H vs Q E hr h => ?_), KB, fun _ _ => rfl⟩
  · obtain ⟨H0, x, dx, b, a, kvs, f, n, rfl, _⟩ := h
    rfl
  · have cT := T.cls "Tape" (by decide +kernel)
    have n1 := T.noat ("Tape", "blank_letter") (by decide +kernel)
    have n2 := T.noat ("Tape", "own_cells") (by decide +kernel)
    refine ⟨_, (pss_cons (ps_if (pt_not (pt_val (pe_d (ok_is_letter T) hr (by decide) (by rfl) (pa_cons (pv 1) pa_nil)))) (pss_one ps_never) pss_nil) (pss_cons (ps_if (PW.pt (pw_and (pt_cmpR op_notN (pv 2) pe_non (nomark _)) (pw_and1 (pt_not (pt_val (pe_d (ok_is_letter_dict T) hr (by decide) (by rfl) (pa_cons (pv 2) pa_nil))))))) (pss_one ps_never) pss_nil) (pss_cons (ps_fld (pv 0) (pv 1) rfl) (pss_cons (ps_fld (pv 0) pe_dnewK rfl) (pss_one (ps_if (pt_cmpR op_notN (pv 2) pe_non (nomark _)) (pss_one (ps_fld (pv 0) (pe_dc (own := [("position", 3)]) (g := (gName 3)) rfl sc22_0.nd (pi_list (pe_callB (call_sortedDI rfl) (by rfl) (T.fre "sorted" (by decide +kernel)) (by decide +kernel) (pa_cons (pv 2) pa_nil))) (blkOk_by (own := [("position", 3)]) (N := ["self", "blank", "cells", "position"]) (sc := defScope s22_0) (by decide +kernel)) (fun _ _ _ _ _ => (pg_name (i := 3) sc22_0.nd rfl (.inl rfl))) (fun _ _ _ _ _ => (pts_one (pt_cmpR op_ne (pe_dget (hu_of hr) (pv 2) (pv 3) (fun _ _ => rfl)) (pv 1) (nomark _)))) (fun _ _ _ _ _ => (pv 3)) (fun _ _ _ _ _ => (pe_dget (hu_of hr) (pv 2) (pv 3) (fun _ _ => rfl)))) rfl)) pss_nil)))))), ?_⟩
    obtain ⟨H0, x, dx, b, a, kvs, f, n, rfl, hN, ha, L, hn, hb, hQ⟩ := h
    have s0 := hN.same
    refine ⟨_, rfl, b, rfl, hb, true, rfl, iteF ?_⟩
    refine ⟨_, rfl, rfl, true, rfl, iteT ⟨_, rfl, a, kvs, rfl, s0 _ _ ha, Nat.le_trans L.ln (by omega), L.letD, fun H1 e1 => ⟨true, rfl, iteF ?_⟩⟩⟩
    have t1 : Same H0 H1 := s0.trans e1
    have x1 := e1 _ _ hN.at_
    refine ⟨_, rfl, _, rfl, x, _, dx, [], rfl, x1, cT, n1, by decide, ?_⟩
    intro d hd
    have nxd : x ≠ d := ne_free upd_same hd
    refine ⟨_, rfl, x, _, dx, _, rfl, Eq.trans (upd_ne nxd) upd_same, cT, n2, (by show 1 < 1000; decide), ?_⟩
    refine ⟨_, rfl, rfl, true, rfl, iteT ?_⟩
    have t2 : Same H0 (upd H1 x (.ins (ga K "Tape") dx (putF "blank_letter" (.str b) []))) := Same.put t1 hN.1
    have t3 := Same.put (o := .ins (ga K "Tape") dx (putF "own_cells" (.ref d) (putF "blank_letter" (.str b) []))) (Same.new (o := .dK []) t2 hd) hN.1
    obtain ⟨ks, k1, k2, k3, k4⟩ := L.keys
    have hl : ks.length < 64 := by rw [k2]; exact Nat.lt_of_le_of_lt L.ln hn
    refine ⟨_, rfl, a, kvs, ks, rfl, .inl (t3 _ _ ha), k1, hl, fun ys p pm _ hp => ?_⟩
    have t4 := Same.new (o := .lst (ys.map V.int)) t3 hp
    refine ⟨p, rfl, ⟨_, SqL.of upd_same⟩, fun D hD => ?_⟩
    have hpx : x ≠ p := ne_free upd_same hp
    have hDx : x ≠ D := fun e => by
      rw [← e, upd_ne hpx, upd_same] at hD
      cases hD
    have t5 := Same.new (o := .dK []) t4 hD
    let g : Int → Option PStr := fun j => if f j = some b then none else f j
    refine dc_it walk_list (fun i H' => Same (upd (upd (upd (upd H1 x (.ins (ga K "Tape") dx (putF "blank_letter" (.str b) []))) d (.dK [])) x (.ins (ga K "Tape") dx (putF "own_cells" (.ref d) (putF "blank_letter" (.str b) [])))) p (.lst (ys.map V.int))) H' ∧ ∃ acc, H' D = some (.dK acc) ∧ LDk acc (rst g (ys.take i)) i)
      ⟨Same.new (Same.refl _) hD, _, upd_same, LDk.nil.congr fun j => (rst_nil g j).symm⟩ (fun i H' _ q => SqL.of (q.1 _ _ upd_same)) (fun i X H2 H3 hi q y => ?_) (fun H' q => ?_)
    · obtain ⟨rfl, hx⟩ := y
      obtain ⟨y, hy, rfl⟩ : ∃ y, ys[i]? = some y ∧ X = .int y := by
        rw [List.getElem?_map] at hx
        obtain ⟨y, hy, e⟩ := Option.map_eq_some_iff.mp hx
        exact ⟨y, hy, e.symm⟩
      obtain ⟨qs, acc, hacc, La⟩ := q
      obtain ⟨z, hz⟩ := Option.isSome_iff_exists.mp ((k4 y).mp (pm.mem_iff.mp (List.mem_of_getElem? hy)))
      have vv := L.vl y
      rw [hz] at vv
      have hil : i ≤ 10000 := by
        have h1 := pm.length_eq
        rw [List.length_map] at hi
        omega
      have hG : DGet H3 a (.int y) (some (.str z)) := .inl ⟨kvs, Sum.inl y, .inl (qs _ _ (t4 _ _ ha)), rfl, vv.symm⟩
      refine ⟨rfl, _, rfl, _, rfl, a, .str z, rfl, hG, _, rfl, rfl, _, rfl, ?_⟩
      by_cases ezb : z = b
      · have eg : g y = none := if_pos (by rw [hz, ezb])
        refine (iteF' (by rw [decide_eq_true (congrArg V.str ezb)]; rfl) ⟨qs, acc, hacc, ?_⟩)
        exact (La.mono (Nat.le_succ i)).congr fun j => by rw [take_snoc hy]; exact rst_none eg j
      · have eg : g y = some z := by
          show (if f y = some b then none else f y) = some z
          rw [if_neg (by rw [hz]; exact fun e => ezb (Option.some.inj e)), hz]
        refine (iteT' (by rw [decide_eq_false (fun e => ezb (V.str.inj e))]; rfl) ?_)
        refine ⟨_, rfl, _, rfl, _, rfl, a, .str z, rfl, hG, acc, Sum.inl y, rfl, hacc, La.small hil, Same.put qs hD, _, upd_same, (La.put (L.lets hz)).congr fun j => ?_⟩
        rw [take_snoc hy]
        exact rst_some eg j
    · obtain ⟨qs, acc, hacc, La⟩ := q
      have xx := qs x _ (by rw [upd_ne hpx]; exact upd_same)
      refine ⟨_, rfl, x, _, dx, _, rfl, xx, cT, n2, by rw [pf2 _ _ _ _ (by decide)]; show 2 < 1000; decide, ?_⟩
      rw [pf2' _ _ _ _ _ (by decide)]
      refine hQ _ (Same.put (t4.trans qs) hN.1) ⟨x, dx, _, D, acc, g, rfl, (dif_at hN.1).trans upd_same, rfl, rfl, rfl, (dif_at (t4.free hD)).trans (by rw [upd_ne (Ne.symm hDx)]; exact hacc), (La.congr fun j => ?_).mono ?_, hb, fun j z e => ?_, fun j => ?_⟩
      · rw [List.length_map, List.take_length]
        refine rst_all (fun j z hz => pm.mem_iff.mpr ((k4 j).mpr ?_)) j
        have e' : (if f j = some b then none else f j) = some z := hz
        by_cases q : f j = some b
        · rw [if_pos q] at e'; cases e'
        · rw [if_neg q] at e'; rw [e']; rfl
      · rw [List.length_map, pm.length_eq, k2]
        exact L.ln
      · have e' : (if f j = some b then none else f j) = some z := e
        by_cases q : f j = some b
        · rw [if_pos q] at e'; cases e'
        · rw [if_neg q] at e'
          exact fun ez => q (by rw [e', ez])
      · show (f j).getD b = (if f j = some b then none else f j).getD b
        by_cases q : f j = some b
        · rw [if_pos q, q]; rfl
        · rw [if_neg q]
end
end TX
end
section
set_option autoImplicit false
set_option maxHeartbeats 4000000
/-! Tape's methods. -/
namespace TX
open PySem PySem.Spec PyProof.Rows L2 He TE
theorem tape_meth {K : PySem.W.Frag} {fs : List (PStr × V)} {m : PStr} (h : fs.map (·.1) = (["blank_letter", "own_cells"] : List PStr)) (hm : m ∉ (["blank_letter", "own_cells"] : List PStr)) : fs.lookup m = none := lk_none h hm
/-- a tape whose cells may be locked -/
def TapeR (K : PySem.W.Frag) (H : Hp) (v : V) (b : PStr) (T : Int → PStr) : Prop := ∃ a dx fs q kv f n, v = .ref a ∧ H a = some (.ins (ga K "Tape") dx fs) ∧ fs.lookup ("blank_letter" : PStr) = some (.str b) ∧ fs.lookup ("own_cells" : PStr) = some (.ref q) ∧
  fs.map (·.1) = (["blank_letter", "own_cells"] : List PStr) ∧ Rd H q (.dK kv) ∧ LDk kv f n ∧ ∀ i, T i = (f i).getD b
theorem TapeAt.r {K : PySem.W.Frag} {H : Hp} {v : V} {b : PStr} {T : Int → PStr} {n : Nat} (h : TapeAt K H v b T n) : TapeR K H v b T := by
  obtain ⟨a, dx, fs, q, kv, f, e, h1, h2, h3, h4, h5, h6, _, _, h7⟩ := h
  exact ⟨a, dx, fs, q, kv, f, n, e, h1, h2, h3, h4, .inl h5, h6, h7⟩
theorem TapeR.same {K : PySem.W.Frag} {H H' : Hp} {v : V} {b : PStr} {T : Int → PStr} (h : TapeR K H v b T) (s : Same H H') : TapeR K H' v b T := by
  obtain ⟨a, dx, fs, q, kv, f, n, e, h1, h2, h3, h4, h5, h6, h7⟩ := h
  exact ⟨a, dx, fs, q, kv, f, n, e, s _ _ h1, h2, h3, h4, h5.elim (fun z => .inl (s _ _ z)) (fun ⟨o, z⟩ => .inr ⟨o, s _ _ z⟩), h6, h7⟩
/-- while a dict is locked -/
theorem TapeR.lock {K : PySem.W.Frag} {H : Hp} {v : V} {b : PStr} {T : Int → PStr} {p : Addr} {kvs : List (Key × V)} {od : Obj} (h : TapeR K H v b T) (hp : H p = some (.dK kvs)) : TapeR K (upd H p (.frz od (.dK kvs))) v b T := by
  obtain ⟨a, dx, fs, q, kv, f, n, e, h1, h2, h3, h4, h5, h6, h7⟩ := h
  refine ⟨a, dx, fs, q, kv, f, n, e, by rw [upd_ne (ne_of h1 hp (by intro z; cases z))]; exact h1, h2, h3, h4, ?_, h6, h7⟩
  by_cases hq : q = p
  · subst hq
    rcases h5 with z | ⟨o, z⟩
    · rw [hp] at z
      cases z
      exact .inr ⟨od, upd_same⟩
    · rw [hp] at z
      cases z
  · exact h5.elim (fun z => .inl (by rw [upd_ne hq]; exact z)) (fun ⟨o, z⟩ => .inr ⟨o, by rw [upd_ne hq]; exact z⟩)
section
variable {P : Program} {w : World} {K : PySem.W.Frag} {mg : PStr → Option Value} {base : Heap}
theorem sc22_6 : FnScope ["self", "position"] ["self", "position"] (defScope s22_6) := ⟨rfl, rfl, rfl, by decide +kernel, rfl, by decide +kernel, by decide +kernel⟩
def spTLetter (K : PySem.W.Frag) : Sp := fun vs H Q _ => ∃ v b Tf i, vs = [v, .int i] ∧ TapeR K H v b Tf ∧ Q (.str (Tf i)) H

theorem ok_tape_letter (T : Txt P K mg) : Mtd P w K mg base 2 (ga K "Tape") "letter" (spTLetter K) := by
  refine mtdN T 37 (d := d22_6) rfl "Tape" "letter" (by decide +kernel) (by decide +kernel) rfl rfl sc22_6 (fun _ _ _ _ _ _ us hl => match us, hl with | [_, _], _ => rfl) (fun vs H Q E h => ?_) (fun f cdv A outer s H vs Q E hr h => ?_)
  · obtain ⟨v, b, Tf, i, rfl, _⟩ := h
    rfl
  · have cT := T.cls "Tape" (by decide +kernel)
    have n1 := T.noat ("Tape", "blank_letter") (by decide +kernel)
    have n2 := T.noat ("Tape", "own_cells") (by decide +kernel)
    refine ⟨_, (pss_cons (ps_if (pt_not (pt_val (pe_d (ok_is_integer T) hr (by decide) (by rfl) (pa_cons (pv 1) pa_nil)))) (pss_one ps_never) pss_nil) (pss_one (ps_ret (pe_dget2 (hu_of hr) (pe_fld (pv 0) (by rfl)) (pv 1) (pe_fld (pv 0) (by rfl)) ⟨by rfl, by rfl, by rfl, by rfl⟩)))), ?_⟩
    obtain ⟨v, b, Tf, i, rfl, ⟨a, dx, fs, q, kv, f, n, rfl, ha, f1, f2, f3, hq, L, hT⟩, hQ⟩ := h
    refine ⟨_, rfl, i, rfl, true, rfl, iteF ?_⟩
    refine ⟨_, rfl, a, _, dx, fs, _, rfl, ha, cT, n2, f2, q, rfl, .inl ⟨kv, hq⟩, _, rfl, _, rfl, a, _, dx, fs, _, rfl, ha, cT, n1, f1, _, .inl ⟨kv, Sum.inl i, hq, rfl, rfl⟩, ?_⟩
    have e : (valV kv (Sum.inl i)).getD (.str b) = .str (Tf i) := by
      rw [L.vl i, hT i]
      cases f i <;> rfl
    rw [e]
    exact hQ
/-! ### with_letters -/
theorem sc22_7 : FnScope ["self", "letters"] ["self", "letters"] (defScope s22_7) := ⟨rfl, rfl, rfl, by decide +kernel, rfl, by decide +kernel, by decide +kernel⟩
def spWith (K : PySem.W.Frag) : Sp := fun vs H Q _ => ∃ v b Tf n a kvs g m, vs = [v, .ref a] ∧ TapeAt K H v b Tf n ∧ H a = some (.dK kvs) ∧ LDk kvs g m ∧ n + m < 64 ∧
  ∀ H' v', Same H H' → TapeAt K (dif H H') v' b (fun i => (g i).getD (Tf i)) (n + m) → Q v' H'

theorem ok_with_letters (T : Txt P K mg) : Mtd P w K mg base 5 (ga K "Tape") "with_letters" (spWith K) := by
  refine mtdN T 38 (d := d22_7) rfl "Tape" "with_letters" (by decide +kernel) (by decide +kernel) rfl rfl sc22_7 (fun _ _ _ _ _ _ us hl => match us, hl with | [_, _], _ => rfl) (fun vs H Q E h => ?_) (fun f cdv A outer s H vs Q E hr h => ?_)
  · obtain ⟨v, b, Tf, n, a, kvs, g, m, rfl, _⟩ := h
    rfl
  · have cT := T.cls "Tape" (by decide +kernel)
    have n1 := T.noat ("Tape", "blank_letter") (by decide +kernel)
    have n2 := T.noat ("Tape", "own_cells") (by decide +kernel)
    refine ⟨_, (pss_cons (ps_if (pt_not (pt_val (pe_d (ok_is_letter_dict T) hr (by decide) (by rfl) (pa_cons (pv 1) pa_nil)))) (pss_one ps_never) pss_nil) (pss_one (ps_ret (pe_kMk (T.mkr "Tape" (by decide +kernel)) (ok_tape_init T) hr (by decide) (T.glo "Tape" (by decide +kernel)) (by rfl) (pa_cons (pe_fld (pv 0) (by rfl)) pa_nil) (pk_cons (pe_merge (pe_fld (pv 0) (by rfl)) (pv 1)) pk_nil))))), ?_⟩
    obtain ⟨v, b, Tf, n, a, kvs, g, m, rfl, ⟨t, dx, fs, q, kv, f, rfl, ha, f1, f2, f3, hq, L, hb, hne, hT⟩, hA, Lg, hnm, hQ⟩ := h
    refine ⟨_, rfl, a, kvs, rfl, hA, Nat.le_trans Lg.ln (by omega), Lg.letD, fun H1 e1 => ⟨true, rfl, iteF ?_⟩⟩
    refine ⟨_, rfl, t, _, dx, fs, _, rfl, e1 _ _ ha, cT, n1, f1, ?_⟩
    intro p hp
    have e2 : Same H (upd H1 p (.dK [])) := Same.new e1 hp
    have np : ∀ {c : Addr} {o : HO}, H c = some o → c ≠ p := fun {c o} h => ne_free (e1 _ _ h) hp
    refine ⟨_, rfl, t, _, dx, fs, _, rfl, e2 _ _ ha, cT, n2, f2, q, kv, rfl, upd_same, .inl (e2 _ _ hq), np hq, Nat.le_trans L.ln (by omega), ?_⟩
    have e3 : Same H (upd (upd H1 p (.dK [])) p (.dK (mergeK [] kv))) := Same.put e2 (e1.free hp)
    refine ⟨_, rfl, a, kvs, rfl, upd_same, .inl (e3 _ _ hA), np hA, Nat.le_trans Lg.ln (by omega), ?_⟩
    have e4 : Same H (upd (upd (upd H1 p (.dK [])) p (.dK (mergeK [] kv))) p (.dK (mergeK (mergeK [] kv) kvs))) := Same.put e3 (e1.free hp)
    refine ⟨rfl, rfl, fun x dx' hx hdx hne' => ?_⟩
    have L1 := (LDk.merge (n := 0) (LDk.nil) L).merge Lg
    refine ⟨_, x, dx', b, p, _, _, _, rfl, ⟨hx, hdx, hne', rfl⟩, upd_same, L1.mono (m := n + m) (by omega), hnm, hb, fun H' e5 tp => ⟨rfl, hQ H' _ (e4.trans e5) ?_⟩⟩
    have e : (fun i => (g i).getD (Tf i)) = fun i => ((g i).or ((f i).or none)).getD b := by
      funext i
      rw [hT i]
      cases g i <;> cases f i <;> rfl
    rw [e]
    exact tp.same (dif_mono e4)
/-! ### == -/
theorem sc22_5 : FnScope ["self", "other"] ["self", "other"] (defScope s22_5) := ⟨rfl, rfl, rfl, by decide +kernel, rfl, by decide +kernel, by decide +kernel⟩
def TpEq (K : PySem.W.Frag) : Addr → Addr → Hp → Prop := fun a b H => ∃ bl Tf n m, TapeAt K H (.ref a) bl Tf n ∧ TapeAt K H (.ref b) bl Tf m
theorem mon_tpEq (a b : Addr) (H H' : Hp) (e : Ext H H') (h : TpEq K a b H) : TpEq K a b H' := by
  obtain ⟨bl, Tf, n, m, h1, h2⟩ := h
  exact ⟨bl, Tf, n, m, h1.same e, h2.same e⟩
theorem cells_of {f : Int → Option PStr} {b : PStr} {Tf : Int → PStr} (hne : ∀ i z, f i = some z → z ≠ b) (hT : ∀ i, Tf i = (f i).getD b) (i : Int) : f i = if Tf i = b then none else some (Tf i) := by
  rw [hT i]
  cases e : f i with
  | none => exact (if_pos rfl).symm
  | some z => exact (if_neg (hne i z e)).symm

theorem ok_tape_eq (T : Txt P K mg) : FnR P w K mg base (L2.CX P w) 1 (ma K (ga K "Tape") "__eq__") (spEq (TpEq K)) := by
  refine fnrN T 36 (d := d22_5) rfl rfl sc22_5 (fun _ _ _ _ _ _ us hl => match us, hl with | [_, _], _ => rfl) (fun vs H Q E h => ?_) (fun f cdv A outer s H vs Q E hr h => ?_)
  · obtain ⟨a, b, rfl, _⟩ := h
    rfl
  · have cT := T.cls "Tape" (by decide +kernel)
    have n1 := T.noat ("Tape", "blank_letter") (by decide +kernel)
    have n2 := T.noat ("Tape", "own_cells") (by decide +kernel)
    refine ⟨_, (pss_cons (ps_if (pt_not (pt_val (pe_callB (C8.call_isC (T.isC "Tape" (by decide +kernel))) (by rfl) (T.fre "isinstance" (by decide +kernel)) (by decide +kernel) (pa_cons (pv 1) (pa_cons (pe_glob (v := .ref (ga K "Tape")) (by rfl) (T.glo "Tape" (by decide +kernel)) rfl) pa_nil))))) (pss_one (ps_ret pe_bl)) pss_nil) (pss_one (ps_ret (pe_and (pe_cmpR op_eq (pe_fld (pv 0) (by rfl)) (pe_fld (pv 1) (by rfl)) (nomark _)) (pe_one (pe_cmpR (op_eqR hr.units0) (pe_fld (pv 0) (by rfl)) (pe_fld (pv 1) (by rfl)) (nomark _))))))), ?_⟩
    obtain ⟨a, b, rfl, ⟨bl, Tf, n, m, ⟨a', dx, fs, q, kv, f, e1, ha, f1, f2, f3, hq, L, hb, hne, hT⟩, ⟨b', dx', fs', q', kv', f', e2, ha', f1', f2', f3', hq', L', hb', hne', hT'⟩⟩, hQ⟩ := h
    cases e1
    cases e2
    refine ⟨_, rfl, b, dx', fs', rfl, ha', true, rfl, iteF ?_⟩
    refine ⟨_, rfl, a, _, dx, fs, _, rfl, ha, cT, n1, f1, _, rfl, b, _, dx', fs', _, rfl, ha', cT, n1, f1', rfl, true, congrArg V.bl (decide_eq_true rfl), iteT ?_⟩
    refine ⟨_, rfl, a, _, dx, fs, _, rfl, ha, cT, n2, f2, _, rfl, b, _, dx', fs', _, rfl, ha', cT, n2, f2', q, q', kv, kv', rfl, rfl, hq, hq', L.flat, L'.flat, ?_⟩
    rw [(sameR_iff L L').mpr (funext fun i => (cells_of hne hT i).trans (cells_of hne' hT' i).symm)]
    exact hQ _ Ext.rfl'
end
end TX
end
section
set_option autoImplicit false
set_option maxHeartbeats 4000000
/-! Effects: made, read, compared. -/
namespace TX
open PySem PySem.Spec PyProof.Rows L2 He TE
section
variable {P : Program} {w : World} {K : PySem.W.Frag} {mg : PStr → Option Value} {base : Heap}
theorem sc25 : FnScope ["expected", "changed", "shift", "offset", "letter"] ["expected", "changed", "shift"] (defScope s25) := ⟨rfl, rfl, rfl, by decide +kernel, rfl, by decide +kernel, by decide +kernel⟩
def spNormal : Sp := fun vs H Q _ => ∃ a c kn kc f g n, ∃ m : Int, vs = [.ref a, .ref c, .int m] ∧ H a = some (.dK kn) ∧ H c = some (.dK kc) ∧ a ≠ c ∧ LDk kn f n ∧ LDk kc g n ∧ n < 64 ∧ (∀ i z, g i = some z → f i ≠ some z) ∧ ∀ H', Same H H' → Q (.bl true) H'

theorem ok_is_normal (T : Txt P K mg) : Dfn P w K mg base 3 "is_normal" spNormal := by
  refine dfnN T 8 (d := d25) rfl "is_normal" (by decide +kernel) rfl rfl sc25 (fun _ _ _ _ _ _ us hl => match us, hl with | [_, _, _], _ => rfl) (fun vs H Q E h => ?_) (fun f cdv A outer s H vs Q E hr h => ?_)
  · obtain ⟨a, c, kn, kc, f, g, n, m, rfl, _⟩ := h
    rfl
  · refine ⟨_, (pss_cons (ps_if (PW.pt (pw_or (pt_not (pt_val (pe_d (ok_is_letter_dict T) hr (by decide) (by rfl) (pa_cons (pv 0) pa_nil)))) (pw_or (pt_not (pt_val (pe_d (ok_is_letter_dict T) hr (by decide) (by rfl) (pa_cons (pv 1) pa_nil)))) (pw_or1 (pt_not (pt_val (pe_d (ok_is_integer T) hr (by decide) (by rfl) (pa_cons (pv 2) pa_nil)))))))) (pss_one (ps_ret pe_bl)) pss_nil) (pss_one (ps_ret (pe_callB (cr_all rfl) (by rfl) (T.fre "all" (by decide +kernel)) (by decide +kernel) (pa_cons (pe_lock (pe_lc (own := [("offset", 3), ("letter", 4)]) (g := (gTup K 2 (gCons (gName 3) (gCons (gName 4) gNil)))) (tt := tYes) rfl sc25.nd (pi_items (pv 1)) (blkOk_by (own := [("offset", 3), ("letter", 4)]) (N := ["expected", "changed", "shift", "offset", "letter"]) (sc := defScope s25) (by decide +kernel)) (fun _ _ _ _ _ => (pg_tup (by rfl) (pgs_cons (pg_name (i := 3) sc25.nd rfl (.inl rfl)) (pgs_cons (pg_name (i := 4) sc25.nd rfl (.inl rfl)) pgs_nil)))) (fun _ _ _ _ _ => pts_nil) (fun _ _ _ _ _ => (pe_cmpR op_ne (pe_dget1 (hu_of hr) (pv 0) (pv 3) ⟨by rfl, by rfl, by rfl, by rfl⟩) (pv 4) (nomark _))))) pa_nil))))), ?_⟩
    obtain ⟨a, c, kn, kc, f, g, n, m, rfl, ha, hc, nac, L, L', hn, hN, hQ⟩ := h
    refine ⟨_, rfl, a, kn, rfl, ha, Nat.le_trans L.ln (by omega), L.letD, fun H1 e1 => ⟨true, rfl, iteF ?_⟩⟩
    refine ⟨_, rfl, c, kc, rfl, e1 _ _ hc, Nat.le_trans L'.ln (by omega), L'.letD, fun H2 e2 => ⟨true, rfl, iteF ?_⟩⟩
    refine ⟨_, rfl, m, rfl, true, rfl, iteF ?_⟩
    have e12 := e1.trans e2
    refine ⟨c, _, e12 _ _ hc, trivial, fun od => ?_⟩
    refine ⟨_, rfl, c, od, kc, rfl, upd_same, fun D hD => ?_⟩
    refine lc_it walk_items (fun i H' => Same (upd H2 c (.frz od (.dK kc))) H' ∧ H' D = some (.lst (List.replicate i (.bl true)))) ⟨Same.new (Same.refl _) hD, upd_same⟩ (fun i H' _ q => q.1 _ _ upd_same) (fun i x H3 H4 hi q y => ?_) (fun H' q => ?_)
    · obtain ⟨t, k, v, rfl, ht, rfl, hk⟩ := items_y y
      have e3 := Same.new (o := .tup [kV k, v]) q.1 ht
      obtain ⟨j, z, e, hz, gz⟩ := L'.ent (List.mem_of_getElem? hk)
      cases e
      have ha' : upd H3 t (.tup [kV (Sum.inl j), .str z]) a = some (.dK kn) := e3 _ _ (by rw [upd_ne nac]; exact e12 _ _ ha)
      refine ⟨t, _, rfl, SqT.of upd_same, rfl, _, _, rfl, _, _, rfl, rfl, rfl, ?_⟩
      refine ⟨_, rfl, a, rfl, .inl ⟨kn, .inl ha'⟩, _, rfl, _, .inl ⟨kn, Sum.inl j, .inl ha', rfl, rfl⟩, _, rfl, ?_⟩
      have hv : scal ((valV kn (Sum.inl j)).getD .non) (.str z) = true ∧ (!decide ((valV kn (Sum.inl j)).getD .non = .str z)) = true := by
        rw [L.vl j]
        cases fj : f j with
        | none => exact ⟨rfl, by rw [decide_eq_false (by intro q; cases q)]; rfl⟩
        | some y' =>
          refine ⟨rfl, ?_⟩
          have : y' ≠ z := fun e => hN j z gz (by rw [fj, e])
          show (!decide (V.str y' = V.str z)) = true
          rw [decide_eq_false (fun q => this (V.str.inj q))]
          rfl
      refine ⟨hv.1, ?_⟩
      rw [hv.2]
      refine ⟨_, (by rw [upd_ne (ne_free q.2 ht)]; exact q.2), by rw [List.length_replicate, sizeLine_eq]; have := L'.ln; omega, Same.put e3 hD, ?_⟩
      rw [upd_same, rep_snoc]
    · refine ⟨q.1 _ _ upd_same, D, _, rfl, SqL.of (by rw [upd_ne (fun e => by rw [e] at hD; rw [upd_same] at hD; cases hD), q.2, rep_bl]), ?_⟩
      rw [rep_all]
      exact hQ _ (e12.trans (same_unlock (e12 _ _ hc) q.1))
/-! ### __init__ -/
theorem sc26_0 : FnScope ["self", "expected", "changed", "shift"] ["self", "expected", "changed", "shift"] (defScope s26_0) := ⟨rfl, rfl, rfl, by decide +kernel, rfl, by decide +kernel, by decide +kernel⟩
def spEffInit (K : PySem.W.Frag) : Sp := fun vs H Q _ => ∃ H0 x dx a c kn kc n, ∃ e : SE PStr, vs = [.ref x, .ref a, .ref c, .int e.m] ∧ NewI H0 H x dx (ga K "Effect") ∧ H0 a = some (.dK kn) ∧ H0 c = some (.dK kc) ∧ a ≠ c ∧ LDk kn e.N n ∧ LDk kc e.C n ∧ n < 64 ∧ e.Norm ∧
  ∀ H', Same H0 H' → EffAt K (dif H0 H') (.ref x) e n → Q .non H'

theorem ok_eff_init (T : Txt P K mg) : Mkr P w K mg base 4 (ga K "Effect") (spEffInit K) := by
  refine mkrN T 39 (d := d26_0) rfl "Effect" (by decide +kernel) rfl rfl sc26_0 (fun _ _ _ _ _ _ us hl => match us, hl with | [_, _, _, _], _ => rfl) (fun vs H Q E h => ?_) (fun f cdv A outer s H vs Q E hr h => ?_)
  · obtain ⟨H0, x, dx, a, c, kn, kc, n, e, rfl, _⟩ := h
    rfl
  · have cE := T.cls "Effect" (by decide +kernel)
    have n1 := T.noat ("Effect", "needs") (by decide +kernel)
    have n2 := T.noat ("Effect", "puts") (by decide +kernel)
    have n3 := T.noat ("Effect", "move") (by decide +kernel)
    refine ⟨_, (pss_cons (ps_if (pt_not (pt_val (pe_d (ok_is_normal T) hr (by decide) (by rfl) (pa_cons (pv 1) (pa_cons (pv 2) (pa_cons (pv 3) pa_nil)))))) (pss_one ps_never) pss_nil) (pss_cons (ps_fld (pv 0) (pe_d (ok_by_offset T) hr (by decide) (by rfl) (pa_cons (pv 1) pa_nil)) rfl) (pss_cons (ps_fld (pv 0) (pe_d (ok_by_offset T) hr (by decide) (by rfl) (pa_cons (pv 2) pa_nil)) rfl) (pss_one (ps_fld (pv 0) (pv 3) rfl))))), ?_⟩
    obtain ⟨H0, x, dx, a, c, kn, kc, n, e, rfl, hN, ha, hc, nac, L, L', hn, hno, hQ⟩ := h
    have s0 := hN.same
    refine ⟨_, rfl, _, rfl, _, rfl, a, c, kn, kc, e.N, e.C, n, e.m, rfl, s0 _ _ ha, s0 _ _ hc, nac, L, L', hn, hno, fun H1 e1 => ⟨true, rfl, iteF ?_⟩⟩
    have t1 := s0.trans e1
    have x1 := e1 _ _ hN.at_
    refine ⟨_, rfl, a, kn, e.N, n, rfl, t1 _ _ ha, L, hn, fun H2 d kv e2 hd0 hd Ld => ?_⟩
    have t2 := t1.trans e2
    have x2 := e2 _ _ x1
    refine ⟨_, rfl, x, _, dx, _, rfl, x2, cE, n1, by decide, ?_⟩
    have t3 : Same H0 (upd H2 x (.ins (ga K "Effect") dx (putF "needs" (.ref d) []))) := Same.put t2 hN.1
    have nxd : d ≠ x := fun q => by rw [q] at hd; rw [hd] at x2; cases x2
    refine ⟨_, rfl, c, kc, e.C, n, rfl, t3 _ _ hc, L', hn, fun H3 d' kv' e3 hd0' hd' Ld' => ?_⟩
    have t4 := t3.trans e3
    have x3 := e3 _ _ upd_same
    refine ⟨_, rfl, x, _, dx, _, rfl, x3, cE, n2, (by show 1 < 1000; decide), ?_⟩
    have t5 : Same H0 (upd H3 x (.ins (ga K "Effect") dx (putF "puts" (.ref d') (putF "needs" (.ref d) [])))) := Same.put t4 hN.1
    have nxd' : d' ≠ x := fun q => by rw [q] at hd'; rw [hd'] at x3; cases x3
    have hd3 : H3 d = some (.dK kv) := e3 _ _ (by rw [upd_ne nxd]; exact hd)
    refine ⟨_, rfl, _, rfl, x, _, dx, _, rfl, upd_same, cE, n3, (by rw [pf2 _ _ _ _ (by decide)]; show 2 < 1000; decide), ?_⟩
    rw [pf3 _ _ _ _ _ _ (by decide) (by decide) (by decide)]
    exact hQ _ (Same.put t5 hN.1) ⟨x, dx, _, d, d', kv, kv', rfl, (dif_at hN.1).trans upd_same, rfl, rfl, rfl, rfl, (dif_at (t1.free hd0)).trans (by rw [upd_ne nxd, upd_ne nxd]; exact hd3), (dif_at (t3.free hd0')).trans (by rw [upd_ne nxd', upd_ne nxd']; exact hd'), Ld, Ld', hno⟩
/-! ### identity -/
theorem sc26_1 : FnScope ["cls"] ["cls"] (defScope s26_1) := ⟨rfl, rfl, rfl, by decide +kernel, rfl, by decide +kernel, by decide +kernel⟩
def spIdent (K : PySem.W.Frag) : Sp := fun vs H Q _ => vs = [.ref (ga K "Effect")] ∧ ∀ H' v, Same H H' → EffAt K (dif H H') v SE.one 0 → Q v H'

theorem ok_identity (T : Txt P K mg) : FnR P w K mg base (L2.CX P w) 6 (He5.wf K (ga K "Effect") "classmethod" "identity") (spIdent K) := by
  refine fnrN T 40 (d := d26_1) rfl rfl sc26_1 (fun _ _ _ _ _ _ us hl => match us, hl with | [_], _ => rfl) (fun vs H Q E h => ?_) (fun f cdv A outer s H vs Q E hr h => ?_)
  · obtain ⟨rfl, _⟩ := h
    rfl
  · refine ⟨_, (pss_one (ps_ret (pe_kV 0 (ok_eff_init T) hr (by decide) rfl (.inl rfl) (pa_cons pe_dnewK (pa_cons pe_dnewK (pa_cons pe_int pa_nil)))))), ?_⟩
    obtain ⟨rfl, hQ⟩ := h
    refine ⟨rfl, ?_⟩
    intro d1 h1 d2 h2 x dx hx hdx hne
    have e1 : Same H (upd H d1 (.dK [])) := Ext.upd h1
    have e2 := Same.new (o := .dK []) e1 h2
    have n12 : d1 ≠ d2 := ne_free upd_same h2
    refine ⟨_, x, dx, d1, d2, [], [], 0, SE.one, rfl, ⟨hx, hdx, hne, rfl⟩, by rw [upd_ne n12]; exact upd_same, upd_same, n12, LDk.nil, LDk.nil, by decide, norm_one, fun H' e3 q => ⟨rfl, hQ _ _ (e2.trans e3) (q.same (dif_mono e2))⟩⟩
/-! ### expected, changed, shift -/
theorem sc26_2 : FnScope ["self"] ["self"] (defScope s26_2) := ⟨rfl, rfl, rfl, by decide +kernel, rfl, by decide +kernel, by decide +kernel⟩
theorem sc26_3 : FnScope ["self"] ["self"] (defScope s26_3) := ⟨rfl, rfl, rfl, by decide +kernel, rfl, by decide +kernel, by decide +kernel⟩
theorem sc26_4 : FnScope ["self"] ["self"] (defScope s26_4) := ⟨rfl, rfl, rfl, by decide +kernel, rfl, by decide +kernel, by decide +kernel⟩
def spExp (K : PySem.W.Frag) : Sp := fun vs H Q _ => ∃ v e n, vs = [v] ∧ EffAt K H v e n ∧ ∀ H' d kv, Same H H' → H d = none → H' d = some (.dK kv) → LDk kv e.N n → Q (.ref d) H'
def spChg (K : PySem.W.Frag) : Sp := fun vs H Q _ => ∃ v e n, vs = [v] ∧ EffAt K H v e n ∧ ∀ H' d kv, Same H H' → H d = none → H' d = some (.dK kv) → LDk kv e.C n → Q (.ref d) H'
def spShift (K : PySem.W.Frag) : Sp := fun vs H Q _ => ∃ v e n, vs = [v] ∧ EffAt K H v e n ∧ Q (.int e.m) H

theorem ok_expected (T : Txt P K mg) : FnR P w K mg base (L2.CX P w) 1 (He5.wf K (ga K "Effect") "property" "expected") (spExp K) := by
  refine fnrN T 41 (d := d26_2) rfl rfl sc26_2 (fun _ _ _ _ _ _ us hl => match us, hl with | [_], _ => rfl) (fun vs H Q E h => ?_) (fun f cdv A outer s H vs Q E hr h => ?_)
  · obtain ⟨v, e, n, rfl, _⟩ := h
    rfl
  · have cE := T.cls "Effect" (by decide +kernel)
    have n1 := T.noat ("Effect", "needs") (by decide +kernel)
    refine ⟨_, (pss_one (ps_ret (pe_callTy call_dictD (by rfl) (T.fre "dict" (by decide +kernel)) (by decide +kernel) (pa_cons (pe_fld (pv 0) (by rfl)) pa_nil)))), ?_⟩
    obtain ⟨v, e, n, rfl, ⟨a, dx, fs, p, q, kn, kc, rfl, ha, f1, f2, f3, f4, hp, hq, L, L', no⟩, hQ⟩ := h
    refine ⟨_, rfl, a, _, dx, fs, _, rfl, ha, cE, n1, f1, p, kn, rfl, .inl hp, fun d hd => hQ _ d kn (Ext.upd hd) hd upd_same L⟩
theorem ok_changed (T : Txt P K mg) : FnR P w K mg base (L2.CX P w) 1 (He5.wf K (ga K "Effect") "property" "changed") (spChg K) := by
  refine fnrN T 42 (d := d26_3) rfl rfl sc26_3 (fun _ _ _ _ _ _ us hl => match us, hl with | [_], _ => rfl) (fun vs H Q E h => ?_) (fun f cdv A outer s H vs Q E hr h => ?_)
  · obtain ⟨v, e, n, rfl, _⟩ := h
    rfl
  · have cE := T.cls "Effect" (by decide +kernel)
    have n1 := T.noat ("Effect", "puts") (by decide +kernel)
    refine ⟨_, (pss_one (ps_ret (pe_callTy call_dictD (by rfl) (T.fre "dict" (by decide +kernel)) (by decide +kernel) (pa_cons (pe_fld (pv 0) (by rfl)) pa_nil)))), ?_⟩
    obtain ⟨v, e, n, rfl, ⟨a, dx, fs, p, q, kn, kc, rfl, ha, f1, f2, f3, f4, hp, hq, L, L', no⟩, hQ⟩ := h
    refine ⟨_, rfl, a, _, dx, fs, _, rfl, ha, cE, n1, f2, q, kc, rfl, .inl hq, fun d hd => hQ _ d kc (Ext.upd hd) hd upd_same L'⟩
theorem ok_shift (T : Txt P K mg) : FnR P w K mg base (L2.CX P w) 1 (He5.wf K (ga K "Effect") "property" "shift") (spShift K) := by
  refine fnrN T 43 (d := d26_4) rfl rfl sc26_4 (fun _ _ _ _ _ _ us hl => match us, hl with | [_], _ => rfl) (fun vs H Q E h => ?_) (fun f cdv A outer s H vs Q E hr h => ?_)
  · obtain ⟨v, e, n, rfl, _⟩ := h
    rfl
  · have cE := T.cls "Effect" (by decide +kernel)
    have n1 := T.noat ("Effect", "move") (by decide +kernel)
    refine ⟨_, (pss_one (ps_ret (pe_fld (pv 0) (by rfl)))), ?_⟩
    obtain ⟨v, e, n, rfl, ⟨a, dx, fs, p, q, kn, kc, rfl, ha, f1, f2, f3, f4, hp, hq, L, L', no⟩, hQ⟩ := h
    exact ⟨_, rfl, a, _, dx, fs, _, rfl, ha, cE, n1, f3, hQ⟩
/-! ### == -/
theorem sc26_5 : FnScope ["self", "other"] ["self", "other"] (defScope s26_5) := ⟨rfl, rfl, rfl, by decide +kernel, rfl, by decide +kernel, by decide +kernel⟩
def spEffEq (K : PySem.W.Frag) : Sp := fun vs H Q _ => ∃ va vb e f n m, vs = [va, vb] ∧ EffAt K H va e n ∧ EffAt K H vb f m ∧ ∀ r : Bool, (r = true ↔ e = f) → Q (.bl r) H
theorem bool_iff {a b : Bool} {p q : Prop} (h1 : a = true ↔ p) (h2 : b = true ↔ q) : (a && b) = true ↔ p ∧ q := by rw [Bool.and_eq_true, h1, h2]

theorem ok_eff_eq (T : Txt P K mg) : FnR P w K mg base (L2.CX P w) 1 (ma K (ga K "Effect") "__eq__") (spEffEq K) := by
  refine fnrN T 44 (d := d26_5) rfl rfl sc26_5 (fun _ _ _ _ _ _ us hl => match us, hl with | [_, _], _ => rfl) (fun vs H Q E h => ?_) (fun f cdv A outer s H vs Q E hr h => ?_)
  · obtain ⟨a, b, e, f, n, m, rfl, _⟩ := h
    rfl
  · have cE := T.cls "Effect" (by decide +kernel)
    have n1 := T.noat ("Effect", "needs") (by decide +kernel)
    have n2 := T.noat ("Effect", "puts") (by decide +kernel)
    have n3 := T.noat ("Effect", "move") (by decide +kernel)
    refine ⟨_, (pss_cons (ps_if (pt_not (pt_val (pe_callB (C8.call_isC (T.isC "Effect" (by decide +kernel))) (by rfl) (T.fre "isinstance" (by decide +kernel)) (by decide +kernel) (pa_cons (pv 1) (pa_cons (pe_glob (v := .ref (ga K "Effect")) (by rfl) (T.glo "Effect" (by decide +kernel)) rfl) pa_nil))))) (pss_one (ps_ret pe_bl)) pss_nil) (pss_one (ps_ret (pe_and (pe_cmpR (op_eqR hr.units0) (pe_fld (pv 0) (by rfl)) (pe_fld (pv 1) (by rfl)) (nomark _)) (pe_and (pe_cmpR (op_eqR hr.units0) (pe_fld (pv 0) (by rfl)) (pe_fld (pv 1) (by rfl)) (nomark _)) (pe_one (pe_cmpR op_eq (pe_fld (pv 0) (by rfl)) (pe_fld (pv 1) (by rfl)) (nomark _)))))))), ?_⟩
    obtain ⟨va, vb, e, f, n, m, rfl, ⟨a, dx, fs, p, q, kn, kc, rfl, ha, f1, f2, f3, f4, hp, hq, L, L', no⟩, ⟨a', dx', fs', p', q', kn', kc', rfl, ha', f1', f2', f3', f4', hp', hq', M, M', no'⟩, hQ⟩ := h
    have i1 := sameR_iff L M
    have i2 := sameR_iff L' M'
    have fin : ∀ {r : Bool}, (r = true ↔ (e.N = f.N ∧ e.C = f.C ∧ e.m = f.m)) → Q (.bl r) H := fun {r} h => hQ r (h.trans ⟨fun ⟨h1, h2, h3⟩ => SE.ext' (fun i => congrFun h1 i) (fun i => congrFun h2 i) h3, fun h => by subst h; exact ⟨rfl, rfl, rfl⟩⟩)
    refine ⟨_, rfl, a', dx', fs', rfl, ha', true, rfl, iteF ?_⟩
    refine ⟨_, rfl, a, _, dx, fs, _, rfl, ha, cE, n1, f1, _, rfl, a', _, dx', fs', _, rfl, ha', cE, n1, f1', p, p', kn, kn', rfl, rfl, hp, hp', L.flat, M.flat, _, rfl, ?_⟩
    by_cases b1 : sameR kn kn' = true
    · refine iteT' b1 ?_
      refine ⟨_, rfl, a, _, dx, fs, _, rfl, ha, cE, n2, f2, _, rfl, a', _, dx', fs', _, rfl, ha', cE, n2, f2', q, q', kc, kc', rfl, rfl, hq, hq', L'.flat, M'.flat, _, rfl, ?_⟩
      by_cases b2 : sameR kc kc' = true
      · refine iteT' b2 ?_
        refine ⟨_, rfl, a, _, dx, fs, _, rfl, ha, cE, n3, f3, _, rfl, a', _, dx', fs', _, rfl, ha', cE, n3, f3', rfl, fin ?_⟩
        rw [decide_eq_true_iff]
        exact ⟨fun h => ⟨i1.mp b1, i2.mp b2, V.int.inj h⟩, fun h => congrArg V.int h.2.2⟩
      · refine iteF' (by simpa using b2) (fin ?_)
        exact ⟨fun h => (by cases h), fun h => absurd (i2.mpr h.2.1) b2⟩
    · refine iteF' (by simpa using b1) (fin ?_)
      exact ⟨fun h => (by cases h), fun h => absurd (i1.mpr h.1) b1⟩
end
end TX
end
section
set_option autoImplicit false
set_option maxHeartbeats 4000000
/-! An effect and a tape. -/
namespace TX
open PySem PySem.Spec PyProof.Rows L2 He TE
theorem eff_meth {fs : List (PStr × V)} {m : PStr} (h : fs.map (·.1) = (["needs", "puts", "move"] : List PStr)) (hm : m ∉ (["needs", "puts", "move"] : List PStr)) : fs.lookup m = none := lk_none h hm
/-- the effect applies to the letters T with the head at h -/
def App (e : SE PStr) (Tf : Int → PStr) (h : Int) : Prop := ∀ i z, e.N i = some z → Tf (h + i) = z
section
variable {P : Program} {w : World} {K : PySem.W.Frag} {mg : PStr → Option Value} {base : Heap}
theorem sc26_10 : FnScope ["self", "tape", "head", "offset", "letter"] ["self", "tape", "head"] (defScope s26_10) := ⟨rfl, rfl, rfl, by decide +kernel, rfl, by decide +kernel, by decide +kernel⟩
def spMis (K : PySem.W.Frag) : Sp := fun vs H Q _ => ∃ v e n t b Tf m h, vs = [v, t, .int h] ∧ EffAt K H v e n ∧ TapeAt K H t b Tf m ∧ (App e Tf h → ∀ H', Same H H' → Q .non H') ∧ (¬ App e Tf h → ∀ j H', Same H H' → Q (.int j) H')

theorem ok_mismatch (T : Txt P K mg) : Mtd P w K mg base 3 (ga K "Effect") "mismatch" (spMis K) := by
  refine mtdN T 45 (d := d26_10) rfl "Effect" "mismatch" (by decide +kernel) (by decide +kernel) rfl rfl sc26_10 (fun _ _ _ _ _ _ us hl => match us, hl with | [_, _, _], _ => rfl) (fun vs H Q E h => ?_) (fun f cdv A outer s H vs Q E hr h => ?_)
  · obtain ⟨v, e, n, t, b, Tf, m, hh, rfl, _⟩ := h
    rfl
  · have cE := T.cls "Effect" (by decide +kernel)
    have n1 := T.noat ("Effect", "needs") (by decide +kernel)
    refine ⟨_, (pss_cons (ps_lock (ps_for (passes_of rfl) rfl (pi_items (pe_fld (pv 0) (by rfl))) (pg_tup (by rfl) (pgs_cons (pg_name (i := 3) sc26_10.nd rfl (.inl rfl)) (pgs_cons (pg_name (i := 4) sc26_10.nd rfl (.inl rfl)) pgs_nil))) (pss_one (ps_if (pt_cmpR op_ne (pe_m (ok_tape_letter T) hr (by decide) (pv 1) (pa_cons (pe_op op_add (pv 2) (pv 3)) pa_nil)) (pv 4) (nomark _)) (pss_one (ps_ret (pe_op op_add (pv 2) (pv 3)))) pss_nil)))) (pss_one (ps_ret pe_non))), ?_⟩
    obtain ⟨v, e, n, t, b, Tf, m, hh, rfl, ⟨a, dx, fs, p, q, kn, kc, rfl, ha, f1, f2, f3, f4, hp, hq, L, L', no⟩, tp, h1, h2⟩ := h
    obtain ⟨ta, tdx, tfs, tq, tkv, tf, rfl, tha, tf1, tf2, tf3, thq, tL, tr⟩ := id tp
    have nap : a ≠ p := ne_of ha hp (by intro z; cases z)
    have tnp : ta ≠ p := ne_of tha hp (by intro z; cases z)
    refine ⟨p, _, hp, trivial, fun od => ?_⟩
    have lk : upd H p (.frz od (.dK kn)) p = some (.frz od (.dK kn)) := upd_same
    have tpl : TapeR K (upd H p (.frz od (.dK kn))) (.ref ta) b Tf := tp.r.lock hp
    refine ⟨_, rfl, a, _, dx, fs, _, rfl, by rw [upd_ne nap]; exact ha, cE, n1, f1, p, od, kn, rfl, lk, ?_⟩
    refine for_it walk_items (fun i σ H' => (∃ c3 c4, σ = [some (.ref a), some (.ref ta), some (.int hh), c3, c4]) ∧ Same (upd H p (.frz od (.dK kn))) H' ∧ ∀ j x, (Sum.inl j, V.str x) ∈ kn.take i → Tf (hh + j) = x) ⟨⟨none, none, rfl⟩, Same.refl _, fun j x hx => by rw [List.take_zero] at hx; cases hx⟩ (fun i σ H' _ q => q.2.1 _ _ lk) (fun i x σ H1 H2 hi q y => ?_) (fun σ H' q => ?_)
    · obtain ⟨⟨c3, c4, rfl⟩, qs, qm⟩ := q
      obtain ⟨t, k, vv, rfl, ht, rfl, hk⟩ := items_y y
      have e3 := Same.new (o := .tup [kV k, vv]) qs ht
      obtain ⟨j, z, ee, hz, nz⟩ := L.ent (List.mem_of_getElem? hk)
      cases ee
      refine ⟨t, _, rfl, SqT.of upd_same, rfl, _, _, rfl, _, _, rfl, rfl, ?_⟩
      refine ⟨_, rfl, ta, tdx, tfs, rfl, e3 _ _ (by rw [upd_ne tnp]; exact tha), tape_meth (K := K) tf3 (by decide), ?_⟩
      refine ⟨_, rfl, _, rfl, hh, j, rfl, rfl, _, b, Tf, hh + j, rfl, tpl.same e3, ?_⟩
      refine ⟨_, rfl, rfl, _, rfl, ?_⟩
      by_cases eq : Tf (hh + j) = z
      · refine iteF' (by rw [decide_eq_true (congrArg V.str eq)]; rfl) ⟨⟨_, _, rfl⟩, e3, fun j' x' hx => ?_⟩
        rw [take_snoc hk] at hx
        rcases List.mem_append.mp hx with hx | hx
        · exact qm j' x' hx
        · have := List.mem_singleton.mp hx
          cases this
          exact eq
      · refine iteT' (by rw [decide_eq_false (fun q => eq (V.str.inj q))]; rfl) ?_
        refine ⟨_, rfl, _, rfl, hh, j, rfl, rfl, e3 _ _ lk, ?_⟩
        exact h2 (fun ap => eq (ap j z nz)) _ _ (same_unlock hp e3)
    · obtain ⟨_, qs, qm⟩ := q
      refine ⟨qs _ _ lk, h1 (fun j z nz => qm j z ?_) _ (same_unlock hp qs)⟩
      rw [List.take_length]
      have := L.vl j
      rw [nz] at this
      exact valV_mem this
/-! ### apply -/
theorem sc26_12 : FnScope ["self", "tape", "head", "position", "offset", "letter"] ["self", "tape", "head"] (defScope s26_12) := ⟨rfl, rfl, rfl, by decide +kernel, rfl, by decide +kernel, by decide +kernel⟩
def spApply (K : PySem.W.Frag) : Sp := fun vs H Q E => ∃ v e n t b Tf m h, vs = [v, t, .int h] ∧ EffAt K H v e n ∧ TapeAt K H t b Tf m ∧ n + m < 64 ∧
  (App e Tf h → ∀ H' p v', Same H H' → H p = none → H' p = some (.tup [v', .int (h + e.m)]) → TapeAt K H' v' b (fun j => (e.C (j - h)).getD (Tf j)) (m + n) → Q (.ref p) H') ∧
  (¬ App e Tf h → ∀ H' d, Same H H' → E (.ref (ga K "NotApplicable")) d H')

theorem ok_apply (T : Txt P K mg) : KFn P w K mg base 6 (ma K (ga K "Effect") "apply") 2 ["head"] (spApply K) := by
  obtain ⟨fd, F⟩ := T.fn 46 d26_12 rfl
  obtain ⟨mv, KB⟩ := FunD.kbinds0 (ps := ["self", "tape", "head"]) F 2 ["head"] [] (fun us _ ws => us ++ ws) (by intro q; cases q) (by intro q hq; cases hq) (fun r1 _ r4 => r1.append r4)
    (fun D doc pm an cdv ct us mv ws l1 l2 l3 => match us, mv, ws, l1, l2, l3 with | [_, _], [], [_], _, _, _ => rfl)
  refine ⟨fd, _, _, _, F.ok sc26_12 (fun vs H Q E h => ?_) (fun cdv A outer s H vs Q E hr h => ?_), KB, fun _ _ => rfl⟩
  · obtain ⟨v, e, n, t, b, Tf, m, hh, rfl, _⟩ := h
    rfl
  · have cE := T.cls "Effect" (by decide +kernel)
    have n1 := T.noat ("Effect", "puts") (by decide +kernel)
    have n3 := T.noat ("Effect", "move") (by decide +kernel)
    refine ⟨_, (pss_cons (ps_expr (pe_d (ok_check_integer T) hr (by decide) (by rfl) (pa_cons (pv 2) pa_nil))) (pss_cons (ps_set (i := 3) sc26_12.nd rfl (.inl rfl) (pe_m (ok_mismatch T) hr (by decide) (pv 0) (pa_cons (pv 1) (pa_cons (pv 2) pa_nil)))) (pss_cons (ps_if (pt_cmpR op_notN (pv 3) pe_non (nomark _)) (pss_one (ps_raise rfl (takes_of rfl rfl rfl rfl) (pmk_e T.excN (TXE.exc_made_position PySem.F.excBase_LookupError PySem.F.store_LookupError PySem.W.kxs_LookupError T.excN) hr (pa_cons (pv 3) pa_nil)))) pss_nil) (pss_one (ps_ret (pe_tup (pa_cons (pe_m (ok_with_letters T) hr (by decide) (pv 1) (pa_cons (pe_lock (pe_dc (own := [("offset", 4), ("letter", 5)]) (g := (gTup K 2 (gCons (gName 4) (gCons (gName 5) gNil)))) (tt := tYes) rfl sc26_12.nd (pi_items (pe_fld (pv 0) (by rfl))) (blkOk_by (own := [("offset", 4), ("letter", 5)]) (N := ["self", "tape", "head", "position", "offset", "letter"]) (sc := defScope s26_12) (by decide +kernel)) (fun _ _ _ _ _ => (pg_tup (by rfl) (pgs_cons (pg_name (i := 4) sc26_12.nd rfl (.inl rfl)) (pgs_cons (pg_name (i := 5) sc26_12.nd rfl (.inl rfl)) pgs_nil)))) (fun _ _ _ _ _ => pts_nil) (fun _ _ _ _ _ => (pe_op op_add (pv 2) (pv 4))) (fun _ _ _ _ _ => (pv 5)))) pa_nil)) (pa_cons (pe_op op_add (pv 2) (pe_fld (pv 0) (by rfl))) pa_nil)))))))), ?_⟩
    obtain ⟨v, e, n, t, b, Tf, m, hh, rfl, ef, tp, hnm, h1, h2⟩ := h
    obtain ⟨a, dx, fs, p, q, kn, kc, rfl, ha, f1, f2, f3, f4, hp, hq, L, L', no⟩ := id ef
    obtain ⟨ta, tdx, tfs, tq, tkv, tf, rfl, tha, tf1, tf2, tf3, thq, tL, tr⟩ := id tp
    refine ⟨_, rfl, hh, rfl, ?_⟩
    refine ⟨_, rfl, a, dx, fs, rfl, ha, eff_meth f4 (by decide), _, rfl, _, rfl, .ref a, e, n, .ref ta, b, Tf, m, hh, rfl, ef, tp, fun ap H1 e1 => ?_, fun nap j H1 e1 => ?_⟩
    · refine ⟨_, rfl, rfl, false, rfl, iteF ?_⟩
      refine ⟨_, rfl, ta, tdx, tfs, rfl, e1 _ _ tha, tape_meth (K := K) tf3 (by decide), q, _, e1 _ _ hq, trivial, fun od => ?_⟩
      have naq : a ≠ q := ne_of ha hq (by intro z; cases z)
      have lk : upd H1 q (.frz od (.dK kc)) q = some (.frz od (.dK kc)) := upd_same
      refine ⟨_, rfl, a, _, dx, fs, _, rfl, by rw [upd_ne naq]; exact e1 _ _ ha, cE, n1, f2, q, od, kc, rfl, lk, fun D hD => ?_⟩
      have nqD : q ≠ D := ne_free lk hD
      have hD1 : H1 D = none := by rw [upd_ne (Ne.symm nqD)] at hD; exact hD
      obtain ⟨ks, k1, k2, k3, k4⟩ := L'.keys
      let g : Int → Option PStr := fun j => e.C (j - hh)
      refine dc_it walk_items (fun i H' => Same (upd H1 q (.frz od (.dK kc))) H' ∧ ∃ acc, H' D = some (.dK acc) ∧ LDk acc (rst g ((ks.take i).map (hh + ·))) i)
        ⟨Same.new (Same.refl _) hD, _, upd_same, LDk.nil.congr fun j => (rst_nil g j).symm⟩ (fun i H' _ z => z.1 _ _ lk) (fun i x H2 H3 hi z y => ?_) (fun H' z => ?_)
      · obtain ⟨zs, acc, hacc, La⟩ := z
        obtain ⟨t, k, vv, rfl, ht, rfl, hk⟩ := items_y y
        have e3 := Same.new (o := .tup [kV k, vv]) zs ht
        obtain ⟨j, z, ee, hz, cz⟩ := L'.ent (List.mem_of_getElem? hk)
        cases ee
        have hkj : ks[i]? = some j := by
          have : (kc.map (·.1))[i]? = some (Sum.inl j) := by rw [List.getElem?_map, hk]; rfl
          rw [k1, List.getElem?_map] at this
          obtain ⟨j', hj', ej⟩ := Option.map_eq_some_iff.mp this
          cases ej
          exact hj'
        have gz : g (hh + j) = some z := by
          show e.C (hh + j - hh) = some z
          rw [show hh + j - hh = j by omega]
          exact cz
        refine ⟨t, _, rfl, SqT.of upd_same, rfl, _, _, rfl, _, _, rfl, rfl, rfl, ?_⟩
        refine ⟨_, rfl, _, rfl, hh, j, rfl, rfl, _, rfl, acc, Sum.inl (hh + j), rfl, by rw [upd_ne (ne_free hacc ht)]; exact hacc, La.small (by have := L'.ln; omega), Same.put e3 hD, _, upd_same, (La.put hz).congr fun j' => ?_⟩
        rw [take_snoc hkj, List.map_append]
        exact rst_some gz j'
      · obtain ⟨zs, acc, hacc, La⟩ := z
        have e4 : Same H1 (upd H' q (.dK kc)) := same_unlock (e1 _ _ hq) zs
        have e5 := e1.trans e4
        have La2 : LDk acc g n := (La.congr fun j => by
          rw [← k2, List.take_length]
          refine rst_all (fun j' z hz => ?_) j
          have : (e.C (j' - hh)).isSome = true := by
            show (g j').isSome = true
            rw [hz]
            rfl
          exact List.mem_map.mpr ⟨j' - hh, (k4 _).mpr this, by omega⟩).mono L'.ln
        refine ⟨zs _ _ lk, _, b, Tf, m, D, acc, g, n, rfl, tp.same e5, by rw [upd_ne (Ne.symm nqD)]; exact hacc, La2, by omega, fun H3 v' e6 tq0 => ?_⟩
        have tq' := TapeAt.same tq0 (dif_same)
        refine ⟨_, rfl, _, rfl, a, _, dx, fs, _, rfl, (e5.trans e6) _ _ ha, cE, n3, f3, hh, e.m, rfl, rfl, by rw [sizeLine_eq]; exact (by decide : 2 ≤ 16777216), fun pp hpp => ?_⟩
        have e7 := Same.new (o := .tup [v', .int (hh + e.m)]) (e5.trans e6) hpp
        exact h1 ap _ pp v' e7 ((e5.trans e6).free hpp) upd_same (tq'.same (Ext.upd hpp))
    · refine ⟨_, rfl, rfl, true, rfl, iteT ?_⟩
      exact ⟨_, rfl, _, rfl, fun dd => h2 nap H1 (some dd) e1⟩
end
end TX
end
section
set_option autoImplicit false
/-! The plain law, second part: a builder's state; a composition step by step; runs on tapes; joint effects. -/
namespace TE
section
variable {L : Type} [DecidableEq L]
/-- the effect of what is expected (N), written (W), the offset o -/
def mkE (N W : Int → Option L) (o : Int) : SE L := ⟨N, fun i => if W i = N i then none else W i, o⟩
theorem mkE_K (N W : Int → Option L) (o : Int) (i : Int) : (mkE N W o).K i = (W i).or (N i) := by
  show ((if W i = N i then none else W i : Option L)).or (N i) = (W i).or (N i)
  by_cases h : W i = N i
  · rw [if_pos h, h]
    cases N i <;> rfl
  · rw [if_neg h]
theorem mkE_norm (N W : Int → Option L) (o : Int) : (mkE N W o).Norm := fun i z h => by
  have h' : (if W i = N i then none else W i : Option L) = some z := h
  by_cases q : W i = N i
  · rw [if_pos q] at h'
    cases h'
  · rw [if_neg q] at h'
    show N i ≠ some z
    rw [← h']
    exact fun e => q e.symm
theorem mkE_one : mkE (fun _ => none) (fun _ => none) 0 = (SE.one : SE L) := by
  refine SE.ext' (fun _ => rfl) (fun i => ?_) rfl
  show (if (none : Option L) = none then none else none : Option L) = none
  rw [if_pos rfl]
theorem mkE_expect_new {N W : Int → Option L} {o i : Int} {z : L} (h : (W i).or (N i) = none) : (mkE N W o).expect i z = some (mkE (fset N i (some z)) W o) := by
  unfold SE.expect
  rw [mkE_K, h]
  refine congrArg some (SE.ext' (fun _ => rfl) (fun j => ?_) rfl)
  show (if W j = N j then none else W j : Option L) = if W j = fset N i (some z) j then none else W j
  by_cases e : j = i
  · subst e
    have hw : W j = none := by
      cases hw : W j with
      | none => rfl
      | some y => rw [hw] at h; cases h
    rw [hw, fset_same]
    have hn : N j = none := by
      rw [hw] at h
      exact h
    rw [hn, if_pos rfl, if_neg (by intro q; cases q)]
  · rw [fset_ne _ _ e]
theorem mkE_expect_old {N W : Int → Option L} {o i : Int} {z y : L} (h : (W i).or (N i) = some y) : (mkE N W o).expect i z = if y = z then some (mkE N W o) else none := by
  unfold SE.expect
  rw [mkE_K, h]
theorem mkE_write {N W : Int → Option L} {o i : Int} {z : L} : (mkE N W o).write i z = mkE N (fset W i (some z)) o := by
  refine SE.ext' (fun _ => rfl) (fun j => ?_) rfl
  show fset (fun i => if W i = N i then none else W i) i (if N i = some z then none else some z) j = if fset W i (some z) j = N j then none else fset W i (some z) j
  by_cases e : j = i
  · subst e
    rw [fset_same, fset_same]
    by_cases q : N j = some z
    · rw [if_pos q, if_pos q.symm]
    · rw [if_neg q, if_neg (fun e => q e.symm)]
  · rw [fset_ne _ _ e, fset_ne _ _ e]
/-- the known places -/
theorem known_expect {N W : Int → Option L} {i : Int} {z : L} (h : (W i).or (N i) = none) (j : Int) : fset (fun i => (W i).or (N i)) i (some z) j = (W j).or (fset N i (some z) j) := by
  by_cases e : j = i
  · subst e
    have hw : W j = none := by
      cases hw : W j with
      | none => rfl
      | some y => rw [hw] at h; cases h
    rw [fset_same, fset_same, hw]
    rfl
  · rw [fset_ne _ _ e, fset_ne _ _ e]
theorem known_write {N W : Int → Option L} {i : Int} {z : L} (j : Int) : fset (fun i => (W i).or (N i)) i (some z) j = (fset W i (some z) j).or (N j) := by
  by_cases e : j = i
  · subst e
    rw [fset_same, fset_same]
    rfl
  · rw [fset_ne _ _ e, fset_ne _ _ e]

/-! ### a composition, entry by entry -/
def clashG (e : SE L) (g : Int → Option L) : Prop := ∃ i z y, g i = some z ∧ e.K (e.m + i) = some y ∧ y ≠ z
def expN (e : SE L) (g : Int → Option L) (p : Int) : Option L := match e.K p with
  | none => g (p - e.m)
  | some _ => e.N p
open Classical in
/-- e, then g expected -/
noncomputable def expS (e : SE L) (g : Int → Option L) : Option (SE L) := if clashG e g then none else some ⟨expN e g, e.C, e.m⟩
def wrS (e : SE L) (h : Int → Option L) : SE L := ⟨e.N, fun p => match h (p - e.m) with
  | some z => if e.N p = some z then none else some z
  | none => e.C p, e.m⟩
theorem expS_none (e : SE L) : expS e (fun _ => none) = some e := by
  unfold expS
  rw [if_neg (by rintro ⟨i, z, y, h, _⟩; cases h)]
  refine congrArg some (SE.ext' (fun p => ?_) (fun _ => rfl) rfl)
  show expN e (fun _ => none) p = e.N p
  unfold expN
  cases h : e.K p with
  | none => exact (K_none h).2.symm
  | some y => rfl
theorem expN_K {e : SE L} {g : Int → Option L} (p : Int) : (⟨expN e g, e.C, e.m⟩ : SE L).K p = (e.K p).or (g (p - e.m)) := by
  show (e.C p).or (expN e g p) = (e.K p).or (g (p - e.m))
  unfold expN
  cases h : e.K p with
  | none =>
    rw [(K_none h).1]
  | some y =>
    show (e.C p).or (e.N p) = some y
    exact h
theorem expS_step {e : SE L} {g : Int → Option L} {i : Int} {z : L} (hg : g i = none) : (expS e g).bind (fun e' => e'.expect (e.m + i) z) = expS e (fset g i (some z)) := by
  have hi : e.m + i - e.m = i := by omega
  by_cases c : clashG e g
  · have c' : clashG e (fset g i (some z)) := by
      obtain ⟨j, x, y, h1, h2, h3⟩ := c
      have : j ≠ i := fun q => by rw [q, hg] at h1; cases h1
      exact ⟨j, x, y, by rw [fset_ne _ _ this]; exact h1, h2, h3⟩
    unfold expS
    rw [if_pos c, if_pos c']
    rfl
  · have e1 : expS e g = some ⟨expN e g, e.C, e.m⟩ := if_neg c
    rw [e1]
    show (⟨expN e g, e.C, e.m⟩ : SE L).expect (e.m + i) z = _
    unfold SE.expect
    rw [expN_K, hi, hg]
    cases k : e.K (e.m + i) with
    | none =>
      have nc : ¬ clashG e (fset g i (some z)) := by
        rintro ⟨j, x, y, h1, h2, h3⟩
        by_cases q : j = i
        · subst q
          rw [k] at h2
          cases h2
        · rw [fset_ne _ _ q] at h1
          exact c ⟨j, x, y, h1, h2, h3⟩
      unfold expS
      rw [if_neg nc]
      refine congrArg some (SE.ext' (fun p => ?_) (fun _ => rfl) rfl)
      show fset (expN e g) (e.m + i) (some z) p = expN e (fset g i (some z)) p
      by_cases q : p = e.m + i
      · subst q
        rw [fset_same]
        unfold expN
        rw [k, hi]
        show some z = fset g i (some z) i
        rw [fset_same]
      · rw [fset_ne _ _ q]
        unfold expN
        cases e.K p with
        | none =>
          show g (p - e.m) = fset g i (some z) (p - e.m)
          rw [fset_ne _ _ (by omega)]
        | some y => rfl
    | some y =>
      show (if y = z then some _ else none) = _
      by_cases q : y = z
      · rw [if_pos q]
        subst q
        have nc : ¬ clashG e (fset g i (some y)) := by
          rintro ⟨j, x, y', h1, h2, h3⟩
          by_cases q : j = i
          · subst q
            rw [fset_same] at h1
            rw [k] at h2
            cases h1
            cases h2
            exact h3 rfl
          · rw [fset_ne _ _ q] at h1
            exact c ⟨j, x, y', h1, h2, h3⟩
        unfold expS
        rw [if_neg nc]
        refine congrArg some (SE.ext' (fun p => ?_) (fun _ => rfl) rfl)
        show expN e g p = expN e (fset g i (some y)) p
        unfold expN
        cases kp : e.K p with
        | none =>
          have : p - e.m ≠ i := fun q => by
            have : p = e.m + i := by omega
            rw [this, k] at kp
            cases kp
          show g (p - e.m) = fset g i (some y) (p - e.m)
          rw [fset_ne _ _ this]
        | some y' => rfl
      · rw [if_neg q]
        have c' : clashG e (fset g i (some z)) := ⟨i, z, y, fset_same .., k, q⟩
        unfold expS
        rw [if_pos c']
theorem wrS_none (e : SE L) : wrS e (fun _ => none) = e := SE.ext' (fun _ => rfl) (fun _ => rfl) rfl
theorem wrS_step {e : SE L} {h : Int → Option L} {i : Int} {z : L} : (wrS e h).write (e.m + i) z = wrS e (fset h i (some z)) := by
  refine SE.ext' (fun _ => rfl) (fun p => ?_) rfl
  show fset (fun p => match h (p - e.m) with
  | some z => if e.N p = some z then none else some z
  | none => e.C p) (e.m + i) (if e.N (e.m + i) = some z then none else some z) p = match fset h i (some z) (p - e.m) with
  | some z => if e.N p = some z then none else some z
  | none => e.C p
  by_cases q : p = e.m + i
  · subst q
    rw [fset_same, show e.m + i - e.m = i by omega, fset_same]
  · rw [fset_ne _ _ q, fset_ne _ _ (by omega)]
theorem comp_is (e f : SE L) : e.comp f = (expS e f.N).map fun e1 => ⟨(wrS e1 f.C).N, (wrS e1 f.C).C, e1.m + f.m⟩ := by
  by_cases c : e.clash f
  · rw [comp_clash c]
    have c' : clashG e f.N := c
    unfold expS
    rw [if_pos c']
    rfl
  · rw [comp_ok c]
    have c' : ¬ clashG e f.N := c
    unfold expS
    rw [if_neg c']
    refine congrArg some (SE.ext' (fun p => ?_) (fun p => ?_) rfl)
    · rfl
    · rfl
theorem expS_m {e e' : SE L} {g : Int → Option L} (h : expS e g = some e') : e'.m = e.m := by
  unfold expS at h
  by_cases c : clashG e g
  · rw [if_pos c] at h
    cases h
  · rw [if_neg c] at h
    rw [← Option.some.inj h]
end
end TE
end
section
set_option autoImplicit false
set_option maxHeartbeats 4000000
/-! The builder. -/
namespace TX
open PySem PySem.Spec PyProof.Rows L2 He TE
abbrev bfs : List PStr := ["needs", "known", "written", "offset", "failed"]
theorem keys_putF {fs : List (PStr × V)} {f : PStr} {v : V} (h : f ∈ fs.map (·.1)) : (putF f v fs).map (·.1) = fs.map (·.1) := by
  induction fs with
  | nil => cases h
  | cons p r ih =>
    obtain ⟨g, x⟩ := p
    show (if g = f then (g, v) :: r else (g, x) :: putF f v r).map (·.1) = _
    by_cases e : g = f
    · rw [if_pos e]
      rfl
    · rw [if_neg e, List.map_cons, List.map_cons]
      rw [List.map_cons, List.mem_cons] at h
      rw [ih (h.resolve_left (fun q => e q.symm))]
/-- a builder, made after H0; st: its effect so far, none: failed -/
def BldAt (K : PySem.W.Frag) (H0 H : Hp) (v : V) (st : Option (SE PStr)) (nE nW : Nat) : Prop := ∃ a dx fs p q r kn kk kw N W o fl, v = .ref a ∧ Same H0 H ∧ (H0 a = none ∧ H0 p = none ∧ H0 q = none ∧ H0 r = none) ∧ (p ≠ q ∧ p ≠ r ∧ q ≠ r) ∧
  H a = some (.ins (ga K "Builder") dx fs) ∧ (fs.lookup ("needs" : PStr) = some (.ref p) ∧ fs.lookup ("known" : PStr) = some (.ref q) ∧ fs.lookup ("written" : PStr) = some (.ref r) ∧ fs.lookup ("offset" : PStr) = some (.int o) ∧ fs.lookup ("failed" : PStr) = some (.bl fl)) ∧
  fs.map (·.1) = bfs ∧ (H p = some (.dK kn) ∧ H q = some (.dK kk) ∧ H r = some (.dK kw)) ∧ LDk kn N nE ∧ LDk kk (fun i => (W i).or (N i)) (nE + nW) ∧ LDk kw W nW ∧ st = if fl = true then none else some (mkE N W o)
theorem BldAt.len {K : PySem.W.Frag} {fs : List (PStr × V)} (h : fs.map (·.1) = bfs) : fs.length < 1000 := by
  have := congrArg List.length h
  rw [List.length_map] at this
  rw [this]
  decide
theorem BldAt.mono {K : PySem.W.Frag} {H0 H : Hp} {v : V} {st : Option (SE PStr)} {nE nW mE mW : Nat} (h : BldAt K H0 H v st nE nW) (l : nE ≤ mE) (l' : nW ≤ mW) : BldAt K H0 H v st mE mW := by
  obtain ⟨a, dx, fs, p, q, r, kn, kk, kw, N, W, o, fl, h1, h2, h3, h4, h5, h6, h7, h8, l1, l2, l3, h9⟩ := h
  exact ⟨a, dx, fs, p, q, r, kn, kk, kw, N, W, o, fl, h1, h2, h3, h4, h5, h6, h7, h8, l1.mono l, l2.mono (Nat.add_le_add l l'), l3.mono l', h9⟩
theorem BldAt.same {K : PySem.W.Frag} {H0 H H' : Hp} {v : V} {st : Option (SE PStr)} {nE nW : Nat} (h : BldAt K H0 H v st nE nW) (s : Same H H') : BldAt K H0 H' v st nE nW := by
  obtain ⟨a, dx, fs, p, q, r, kn, kk, kw, N, W, o, fl, h1, h2, h3, h4, h5, h6, h7, ⟨h8, h8', h8''⟩, l1, l2, l3, h9⟩ := h
  exact ⟨a, dx, fs, p, q, r, kn, kk, kw, N, W, o, fl, h1, h2.trans s, h3, h4, s _ _ h5, h6, h7, ⟨s _ _ h8, s _ _ h8', s _ _ h8''⟩, l1, l2, l3, h9⟩
theorem bld_meth {fs : List (PStr × V)} {m : PStr} (h : fs.map (·.1) = bfs) (hm : m ∉ bfs) : fs.lookup m = none := lk_none h hm
section
variable {P : Program} {w : World} {K : PySem.W.Frag} {mg : PStr → Option Value} {base : Heap}
/-! ### __init__ -/
theorem sc27_0 : FnScope ["self"] ["self"] (defScope s27_0) := ⟨rfl, rfl, rfl, by decide +kernel, rfl, by decide +kernel, by decide +kernel⟩
def spBInit (K : PySem.W.Frag) : Sp := fun vs H Q _ => ∃ H0 x dx, vs = [.ref x] ∧ NewI H0 H x dx (ga K "Builder") ∧ ∀ H', BldAt K H0 H' (.ref x) (some SE.one) 0 0 → Q .non H'
theorem pf5 (a b c d e : PStr) (x y z u v : V) (h1 : (a = b) = False) (h2 : (a = c) = False) (h3 : (a = d) = False) (h4 : (a = e) = False) (h5 : (b = c) = False) (h6 : (b = d) = False) (h7 : (b = e) = False) (h8 : (c = d) = False) (h9 : (c = e) = False) (h10 : (d = e) = False) :
    putF e v (putF d u (putF c z (putF b y (putF a x [])))) = [(a, x), (b, y), (c, z), (d, u), (e, v)] := by
  simp [putF, h1, h2, h3, h4, h5, h6, h7, h8, h9, h10]
theorem len_putF (f : PStr) (v : V) : ∀ fs : List (PStr × V), (putF f v fs).length ≤ fs.length + 1
  | [] => Nat.le_refl _
  | (g, x) :: r => by
    show (if g = f then (g, v) :: r else (g, x) :: putF f v r).length ≤ _
    have := len_putF f v r
    split <;> simp only [List.length_cons] <;> omega

theorem ok_bld_init (T : Txt P K mg) : Mkr P w K mg base 1 (ga K "Builder") (spBInit K) := by
  refine mkrN T 47 (d := d27_0) rfl "Builder" (by decide +kernel) rfl rfl sc27_0 (fun _ _ _ _ _ _ us hl => match us, hl with | [_], _ => rfl) (fun vs H Q E h => ?_) (fun f cdv A outer s H vs Q E hr h => ?_)
  · obtain ⟨H0, x, dx, rfl, _⟩ := h
    rfl
  · have cB := T.cls "Builder" (by decide +kernel)
    have n1 := T.noat ("Builder", "needs") (by decide +kernel)
    have n2 := T.noat ("Builder", "known") (by decide +kernel)
    have n3 := T.noat ("Builder", "written") (by decide +kernel)
    have n4 := T.noat ("Builder", "offset") (by decide +kernel)
    have n5 := T.noat ("Builder", "failed") (by decide +kernel)
    refine ⟨_, (pss_cons (ps_fld (pv 0) pe_dnewK rfl) (pss_cons (ps_fld (pv 0) pe_dnewK rfl) (pss_cons (ps_fld (pv 0) pe_dnewK rfl) (pss_cons (ps_fld (pv 0) pe_int rfl) (pss_one (ps_fld (pv 0) pe_bl rfl)))))), ?_⟩
    obtain ⟨H0, x, dx, rfl, hN, hQ⟩ := h
    have s0 := hN.same
    have lp := fun (f : PStr) (v : V) (fs : List (PStr × V)) (k : Nat) (h : fs.length ≤ k) => Nat.le_trans (len_putF f v fs) (Nat.succ_le_succ h)
    intro p hp
    have xp : x ≠ p := ne_free hN.at_ hp
    refine ⟨_, rfl, x, _, dx, _, rfl, by rw [upd_ne xp]; exact hN.at_, cB, n1, by decide, ?_⟩
    intro q hq
    have xq : x ≠ q := ne_free upd_same hq
    have pq : p ≠ q := ne_free (by rw [upd_ne (Ne.symm xp)]; exact upd_same) hq
    refine ⟨_, rfl, x, _, dx, _, rfl, by rw [upd_ne xq]; exact upd_same, cB, n2, (by show 1 < 1000; decide), ?_⟩
    intro r hr'
    have xr : x ≠ r := ne_free upd_same hr'
    have qr : q ≠ r := ne_free (by rw [upd_ne (Ne.symm xq)]; exact upd_same) hr'
    have pr : p ≠ r := ne_free (by rw [upd_ne (Ne.symm xp), upd_ne pq, upd_ne (Ne.symm xp)]; exact upd_same) hr'
    have hp0 : H0 p = none := s0.free hp
    have t1 : Same H0 (upd H p (.dK [])) := Same.new s0 hp
    have t2 := Same.put (o := .ins (ga K "Builder") dx (putF "needs" (.ref p) [])) t1 hN.1
    have hq0 : H0 q = none := t2.free hq
    have t3 := Same.put (o := .ins (ga K "Builder") dx (putF "known" (.ref q) (putF "needs" (.ref p) []))) (Same.new (o := .dK []) t2 hq) hN.1
    have hr0 : H0 r = none := t3.free hr'
    have t4 := Same.put (o := .ins (ga K "Builder") dx (putF "written" (.ref r) (putF "known" (.ref q) (putF "needs" (.ref p) [])))) (Same.new (o := .dK []) t3 hr') hN.1
    have l1 : (putF "needs" (.ref p) ([] : List (PStr × V))).length ≤ 1 := Nat.le_refl _
    have l2 := lp "known" (.ref q) _ _ l1
    have l3 := lp "written" (.ref r) _ _ l2
    have l4 := lp "offset" (.int 0) _ _ l3
    refine ⟨_, rfl, x, _, dx, _, rfl, by rw [upd_ne xr]; exact upd_same, cB, n3, by omega, ?_⟩
    refine ⟨_, rfl, x, _, dx, _, rfl, upd_same, cB, n4, by omega, ?_⟩
    refine ⟨_, rfl, x, _, dx, _, rfl, upd_same, cB, n5, by omega, ?_⟩
    rw [pf5 _ _ _ _ _ _ _ _ _ _ (by decide) (by decide) (by decide) (by decide) (by decide) (by decide) (by decide) (by decide) (by decide) (by decide)]
    refine hQ _ ⟨x, dx, _, p, q, r, [], [], [], fun _ => none, fun _ => none, 0, false, rfl, Same.put (Same.put t4 hN.1) hN.1, ⟨hN.1, hp0, hq0, hr0⟩, ⟨pq, pr, qr⟩, upd_same, ⟨rfl, rfl, rfl, rfl, rfl⟩, rfl, ⟨?_, ?_, ?_⟩, LDk.nil, LDk.nil, LDk.nil, ?_⟩
    · rw [upd_ne (Ne.symm xp), upd_ne (Ne.symm xp), upd_ne (Ne.symm xp), upd_ne pr, upd_ne (Ne.symm xp), upd_ne pq, upd_ne (Ne.symm xp)]
      exact upd_same
    · rw [upd_ne (Ne.symm xq), upd_ne (Ne.symm xq), upd_ne (Ne.symm xq), upd_ne qr, upd_ne (Ne.symm xq)]
      exact upd_same
    · rw [upd_ne (Ne.symm xr), upd_ne (Ne.symm xr), upd_ne (Ne.symm xr)]
      exact upd_same
    · show some SE.one = if false = true then none else some (mkE (fun _ => none) (fun _ => none) 0)
      rw [if_neg Bool.false_ne_true, mkE_one]
end
end TX
end
section
set_option autoImplicit false
set_option maxHeartbeats 4000000
/-! The builder's methods. -/
namespace TX
open PySem PySem.Spec PyProof.Rows L2 He TE
section
variable {P : Program} {w : World} {K : PySem.W.Frag} {mg : PStr → Option Value} {base : Heap}
theorem sc27_1 : FnScope ["self", "offset", "letter"] ["self", "offset", "letter"] (defScope s27_1) := ⟨rfl, rfl, rfl, by decide +kernel, rfl, by decide +kernel, by decide +kernel⟩
theorem sc27_2 : FnScope ["self", "offset", "letter"] ["self", "offset", "letter"] (defScope s27_2) := ⟨rfl, rfl, rfl, by decide +kernel, rfl, by decide +kernel, by decide +kernel⟩
def spBExp (K : PySem.W.Frag) : Sp := fun vs H Q _ => ∃ H0 v i z st nE nW, vs = [v, .int i, .str z] ∧ BldAt K H0 H v st nE nW ∧ nE + nW ≤ 1000 ∧ Let z ∧ ∀ H', BldAt K H0 H' v (st.bind fun e => e.expect i z) (nE + 1) nW → Q .non H'

theorem ok_bld_expect (T : Txt P K mg) : Mtd P w K mg base 1 (ga K "Builder") "expect" (spBExp K) := by
  refine mtdN T 48 (d := d27_1) rfl "Builder" "expect" (by decide +kernel) (by decide +kernel) rfl rfl sc27_1 (fun _ _ _ _ _ _ us hl => match us, hl with | [_, _, _], _ => rfl) (fun vs H Q E h => ?_) (fun f cdv A outer s H vs Q E hr h => ?_)
  · obtain ⟨H0, v, i, z, st, nE, nW, rfl, _⟩ := h
    rfl
  · have cB := T.cls "Builder" (by decide +kernel)
    have n1 := T.noat ("Builder", "needs") (by decide +kernel)
    have n2 := T.noat ("Builder", "known") (by decide +kernel)
    have n5 := T.noat ("Builder", "failed") (by decide +kernel)
    refine ⟨_, (pss_one (ps_if (pt_cmp (pc_dnotin (hu_of hr) (pv 1) (pe_fld (pv 0) (by rfl)))) (pss_cons (ps_dput (hu_of hr) (pe_fld (pv 0) (by rfl)) (pv 1) (pv 2) rfl) (pss_one (ps_dput (hu_of hr) (pe_fld (pv 0) (by rfl)) (pv 1) (pv 2) rfl))) (pss_one (ps_if (pt_cmpR op_ne (pe_dget (hu_of hr) (pe_fld (pv 0) (by rfl)) (pv 1) (fun _ _ => rfl)) (pv 2) (nomark _)) (pss_one (ps_fld (pv 0) pe_bl rfl)) pss_nil)))), ?_⟩
    obtain ⟨H0, v, i, z, st, nE, nW, rfl, ⟨a, dx, fs, p, q, r, kn, kk, kw, N, W, o, fl, rfl, s0, ⟨ha0, hp0, hq0, hr0⟩, ⟨npq, npr, nqr⟩, ha, ⟨f1, f2, f3, f4, f5⟩, f6, ⟨hp, hq, hr'⟩, L1, L2, L3, hst⟩, hn, hz, hQ⟩ := h
    have nap : a ≠ p := ne_of ha hp (by intro z; cases z)
    have naq : a ≠ q := ne_of ha hq (by intro z; cases z)
    refine ⟨_, rfl, _, rfl, a, _, dx, fs, _, rfl, ha, cB, n2, f2, q, _, rfl, .inl ⟨kk, Sum.inl i, .inl hq, rfl, rfl⟩, _, rfl, ?_⟩
    have hk := L2.vl i
    cases ek : (W i).or (N i) with
    | none =>
      have hk' : valV kk (Sum.inl i) = none := by rw [hk]; show ((W i).or (N i)).map V.str = none; rw [ek]; rfl
      rw [hk']
      refine iteT ⟨_, rfl, _, rfl, a, _, dx, fs, _, rfl, ha, cB, n1, f1, _, rfl, p, _, rfl, .inl ⟨kn, Sum.inl i, hp, rfl, L1.small (by omega), rfl⟩, ?_⟩
      refine ⟨_, rfl, _, rfl, a, _, dx, fs, _, rfl, by rw [upd_ne nap]; exact ha, cB, n2, f2, _, rfl, q, _, rfl, .inl ⟨kk, Sum.inl i, by rw [upd_ne (Ne.symm npq)]; exact hq, rfl, L2.small (by omega), rfl⟩, ?_⟩
      refine hQ _ ⟨a, dx, fs, p, q, r, _, _, kw, fset N i (some z), W, o, fl, rfl, Same.put (Same.put s0 hp0) hq0, ⟨ha0, hp0, hq0, hr0⟩, ⟨npq, npr, nqr⟩, by rw [upd_ne naq, upd_ne nap]; exact ha, ⟨f1, f2, f3, f4, f5⟩, f6,
        ⟨by rw [upd_ne npq]; exact upd_same, upd_same, by rw [upd_ne (Ne.symm nqr), upd_ne (Ne.symm npr)]; exact hr'⟩, L1.put hz, ((L2.put hz).congr fun j => known_expect ek j).mono (by omega), L3, ?_⟩
      rw [hst]
      cases fl with
      | true => rfl
      | false => exact mkE_expect_new ek
    | some y =>
      have hk' : valV kk (Sum.inl i) = some (.str y) := by rw [hk]; show ((W i).or (N i)).map V.str = _; rw [ek]; rfl
      rw [hk']
      refine iteF ⟨_, rfl, a, _, dx, fs, _, rfl, ha, cB, n2, f2, _, rfl, q, .str y, rfl, .inl ⟨kk, Sum.inl i, .inl hq, rfl, hk'.symm⟩, _, rfl, rfl, _, rfl, ?_⟩
      by_cases e : y = z
      · refine iteF' (by rw [decide_eq_true (congrArg V.str e)]; rfl) (hQ _ ?_)
        refine ⟨a, dx, fs, p, q, r, kn, kk, kw, N, W, o, fl, rfl, s0, ⟨ha0, hp0, hq0, hr0⟩, ⟨npq, npr, nqr⟩, ha, ⟨f1, f2, f3, f4, f5⟩, f6, ⟨hp, hq, hr'⟩, L1.mono (Nat.le_succ _), L2.mono (by omega), L3, ?_⟩
        rw [hst]
        cases fl with
        | true => rfl
        | false => exact (mkE_expect_old ek).trans (if_pos e)
      · refine iteT' (by rw [decide_eq_false (fun q => e (V.str.inj q))]; rfl) ?_
        refine ⟨_, rfl, a, _, dx, fs, rfl, ha, cB, n5, BldAt.len (K := K) f6, hQ _ ?_⟩
        have lk := fun (g : PStr) => lookup_putF "failed" g (.bl true) fs
        refine ⟨a, dx, _, p, q, r, kn, kk, kw, N, W, o, true, rfl, Same.put s0 ha0, ⟨ha0, hp0, hq0, hr0⟩, ⟨npq, npr, nqr⟩, upd_same, ⟨?_, ?_, ?_, ?_, ?_⟩, (keys_putF (by rw [f6]; decide)).trans f6, ⟨by rw [upd_ne (Ne.symm nap)]; exact hp, by rw [upd_ne (Ne.symm naq)]; exact hq, by rw [upd_ne (Ne.symm (ne_of ha hr' (by intro z; cases z)))]; exact hr'⟩, L1.mono (Nat.le_succ _), L2.mono (by omega), L3, ?_⟩
        · rw [lk, if_neg (by decide)]; exact f1
        · rw [lk, if_neg (by decide)]; exact f2
        · rw [lk, if_neg (by decide)]; exact f3
        · rw [lk, if_neg (by decide)]; exact f4
        · rw [lk, if_pos rfl]
        · rw [hst]
          cases fl with
          | true => rfl
          | false => exact (mkE_expect_old ek).trans (if_neg e)
def spBWr (K : PySem.W.Frag) : Sp := fun vs H Q _ => ∃ H0 v i z st nE nW, vs = [v, .int i, .str z] ∧ BldAt K H0 H v st nE nW ∧ nE + nW ≤ 1000 ∧ Let z ∧ ∀ H', BldAt K H0 H' v (st.map fun e => e.write i z) nE (nW + 1) → Q .non H'

theorem ok_bld_write (T : Txt P K mg) : Mtd P w K mg base 1 (ga K "Builder") "write" (spBWr K) := by
  refine mtdN T 49 (d := d27_2) rfl "Builder" "write" (by decide +kernel) (by decide +kernel) rfl rfl sc27_2 (fun _ _ _ _ _ _ us hl => match us, hl with | [_, _, _], _ => rfl) (fun vs H Q E h => ?_) (fun f cdv A outer s H vs Q E hr h => ?_)
  · obtain ⟨H0, v, i, z, st, nE, nW, rfl, _⟩ := h
    rfl
  · have cB := T.cls "Builder" (by decide +kernel)
    have n2 := T.noat ("Builder", "known") (by decide +kernel)
    have n3 := T.noat ("Builder", "written") (by decide +kernel)
    refine ⟨_, (pss_cons (ps_dput (hu_of hr) (pe_fld (pv 0) (by rfl)) (pv 1) (pv 2) rfl) (pss_one (ps_dput (hu_of hr) (pe_fld (pv 0) (by rfl)) (pv 1) (pv 2) rfl))), ?_⟩
    obtain ⟨H0, v, i, z, st, nE, nW, rfl, ⟨a, dx, fs, p, q, r, kn, kk, kw, N, W, o, fl, rfl, s0, ⟨ha0, hp0, hq0, hr0⟩, ⟨npq, npr, nqr⟩, ha, ⟨f1, f2, f3, f4, f5⟩, f6, ⟨hp, hq, hr'⟩, L1, L2, L3, hst⟩, hn, hz, hQ⟩ := h
    have naq : a ≠ q := ne_of ha hq (by intro z; cases z)
    have nar : a ≠ r := ne_of ha hr' (by intro z; cases z)
    refine ⟨_, rfl, _, rfl, a, _, dx, fs, _, rfl, ha, cB, n2, f2, _, rfl, q, _, rfl, .inl ⟨kk, Sum.inl i, hq, rfl, L2.small (by omega), rfl⟩, ?_⟩
    refine ⟨_, rfl, _, rfl, a, _, dx, fs, _, rfl, by rw [upd_ne naq]; exact ha, cB, n3, f3, _, rfl, r, _, rfl, .inl ⟨kw, Sum.inl i, by rw [upd_ne (Ne.symm nqr)]; exact hr', rfl, L3.small (by omega), rfl⟩, ?_⟩
    refine hQ _ ⟨a, dx, fs, p, q, r, kn, _, _, N, fset W i (some z), o, fl, rfl, Same.put (Same.put s0 hq0) hr0, ⟨ha0, hp0, hq0, hr0⟩, ⟨npq, npr, nqr⟩, by rw [upd_ne nar, upd_ne naq]; exact ha, ⟨f1, f2, f3, f4, f5⟩, f6,
      ⟨by rw [upd_ne npr, upd_ne npq]; exact hp, by rw [upd_ne nqr]; exact upd_same, upd_same⟩, L1, ((L2.put hz).congr fun j => known_write j).mono (by omega), L3.put hz, ?_⟩
    rw [hst]
    cases fl with
    | true => rfl
    | false => exact congrArg some mkE_write
/-! ### add_step -/
theorem sc27_3 : FnScope ["self", "step"] ["self", "step"] (defScope s27_3) := ⟨rfl, rfl, rfl, by decide +kernel, rfl, by decide +kernel, by decide +kernel⟩
def spBStep (K : PySem.W.Frag) : Sp := fun vs H Q _ => ∃ H0 v u s st nE nW, vs = [v, u] ∧ BldAt K H0 H v st nE nW ∧ nE + nW ≤ 1000 ∧ StpAt K H u s ∧ ∀ H', BldAt K H0 H' v (st.bind fun e => e.step s) (nE + 1) (nW + 1) → Q .non H'
theorem bld_off {H0 H : Hp} {v : V} {st : Option (SE PStr)} {nE nW : Nat} (h : BldAt K H0 H v st nE nW) : ∃ a dx fs o, v = .ref a ∧ H a = some (.ins (ga K "Builder") dx fs) ∧ fs.lookup ("offset" : PStr) = some (.int o) ∧ fs.map (·.1) = bfs ∧ (∀ e, st = some e → e.m = o) ∧
    ∀ k : Int, BldAt K H0 (upd H a (.ins (ga K "Builder") dx (putF "offset" (.int k) fs))) v (st.map fun e => ⟨e.N, e.C, k⟩) nE nW := by
  obtain ⟨a, dx, fs, p, q, r, kn, kk, kw, N, W, o, fl, rfl, s0, ⟨ha0, hp0, hq0, hr0⟩, hd, ha, ⟨f1, f2, f3, f4, f5⟩, f6, ⟨hp, hq, hr'⟩, L1, L2, L3, hst⟩ := h
  have nap : a ≠ p := ne_of ha hp (by intro z; cases z)
  have naq : a ≠ q := ne_of ha hq (by intro z; cases z)
  have nar : a ≠ r := ne_of ha hr' (by intro z; cases z)
  refine ⟨a, dx, fs, o, rfl, ha, f4, f6, fun e he => ?_, fun k => ?_⟩
  · rw [hst] at he
    cases fl with
    | true => cases he
    | false =>
      have : mkE N W o = e := Option.some.inj he
      rw [← this]
      rfl
  · have lk := fun (g : PStr) => lookup_putF "offset" g (.int k) fs
    refine ⟨a, dx, _, p, q, r, kn, kk, kw, N, W, k, fl, rfl, Same.put s0 ha0, ⟨ha0, hp0, hq0, hr0⟩, hd, upd_same, ⟨?_, ?_, ?_, ?_, ?_⟩, (keys_putF (by rw [f6]; decide)).trans f6, ⟨by rw [upd_ne (Ne.symm nap)]; exact hp, by rw [upd_ne (Ne.symm naq)]; exact hq, by rw [upd_ne (Ne.symm nar)]; exact hr'⟩, L1, L2, L3, ?_⟩
    · rw [lk, if_neg (by decide)]; exact f1
    · rw [lk, if_neg (by decide)]; exact f2
    · rw [lk, if_neg (by decide)]; exact f3
    · rw [lk, if_pos rfl]
    · rw [lk, if_neg (by decide)]; exact f5
    · rw [hst]
      cases fl <;> rfl

theorem ok_bld_step (T : Txt P K mg) : Mtd P w K mg base 2 (ga K "Builder") "add_step" (spBStep K) := by
  refine mtdN T 50 (d := d27_3) rfl "Builder" "add_step" (by decide +kernel) (by decide +kernel) rfl rfl sc27_3 (fun _ _ _ _ _ _ us hl => match us, hl with | [_, _], _ => rfl) (fun vs H Q E h => ?_) (fun f cdv A outer s H vs Q E hr h => ?_)
  · obtain ⟨H0, v, u, s, st, nE, nW, rfl, _⟩ := h
    rfl
  · have cB := T.cls "Builder" (by decide +kernel)
    have n4 := T.noat ("Builder", "offset") (by decide +kernel)
    refine ⟨_, pss_one (ps_match (pe_ix ix_tup (pv 1) pe_int (fun _ _ => rfl)) (pm_str (pss_one (ps_expr (pe_m (ok_bld_expect T) hr (by decide) (pv 0) (pa_cons (pe_fld (pv 0) (by rfl)) (pa_cons (pe_ix ix_tup (pv 1) pe_int (fun _ _ => rfl)) pa_nil))))) (pm_str (pss_one (ps_expr (pe_m (ok_bld_write T) hr (by decide) (pv 0) (pa_cons (pe_fld (pv 0) (by rfl)) (pa_cons (pe_ix ix_tup (pv 1) pe_int (fun _ _ => rfl)) pa_nil))))) (pm_any (pss_one (ps_fldaug (pv 0) (pe_d (ok_move_of T) hr (by decide) (by rfl) (pa_cons (pv 1) pa_nil)) in_add)))))), ?_⟩
    obtain ⟨H0, v, u, s, st, nE, nW, rfl, hB, hn, ⟨b, rfl, hb, ho⟩, hQ⟩ := h
    obtain ⟨a, dx, fs, o, rfl, ha, f4, f6, hm, hset⟩ := bld_off hB
    cases s with
    | left =>
      refine ⟨_, rfl, b, _, 0, _, rfl, rfl, SqT.of hb, atI_nat rfl, "left", rfl, (if_neg (by decide)).mpr ⟨"left", rfl, (if_neg (by decide)).mpr ?_⟩⟩
      refine ⟨_, rfl, a, _, dx, fs, _, rfl, ha, cB, n4, f4, _, rfl, _, .left, rfl, ⟨b, rfl, hb, ho⟩, o, -1, rfl, rfl, dx, fs, ha, BldAt.len (K := K) f6, hQ _ ?_⟩
      have e : (st.bind fun e => e.step .left) = st.map fun e => ⟨e.N, e.C, o + -1⟩ := by
        cases st with
        | none => rfl
        | some e => rw [← hm e rfl]; rfl
      rw [e]
      exact (hset _).mono (Nat.le_succ _) (Nat.le_succ _)
    | right =>
      refine ⟨_, rfl, b, _, 0, _, rfl, rfl, SqT.of hb, atI_nat rfl, "right", rfl, (if_neg (by decide)).mpr ⟨"right", rfl, (if_neg (by decide)).mpr ?_⟩⟩
      refine ⟨_, rfl, a, _, dx, fs, _, rfl, ha, cB, n4, f4, _, rfl, _, .right, rfl, ⟨b, rfl, hb, ho⟩, o, 1, rfl, rfl, dx, fs, ha, BldAt.len (K := K) f6, hQ _ ?_⟩
      have e : (st.bind fun e => e.step .right) = st.map fun e => ⟨e.N, e.C, o + 1⟩ := by
        cases st with
        | none => rfl
        | some e => rw [← hm e rfl]; rfl
      rw [e]
      exact (hset _).mono (Nat.le_succ _) (Nat.le_succ _)
    | wr z =>
      refine ⟨_, rfl, b, _, 0, _, rfl, rfl, SqT.of hb, atI_nat rfl, "write", rfl, (if_neg (by decide)).mpr ⟨"write", rfl, (if_pos rfl).mpr ?_⟩⟩
      refine ⟨_, rfl, a, dx, fs, rfl, ha, bld_meth f6 (by decide), _, rfl, a, _, dx, fs, _, rfl, ha, cB, n4, f4, _, rfl, b, _, 1, _, rfl, rfl, SqT.of hb, atI_nat rfl, H0, _, o, z, st, nE, nW, rfl, hB, hn, ho, fun H' h' => hQ _ ?_⟩
      have e : (st.bind fun e => e.step (.wr z)) = st.map fun e => e.write o z := by
        cases st with
        | none => rfl
        | some e => rw [← hm e rfl]; rfl
      rw [e]
      exact h'.mono (Nat.le_succ _) (Nat.le_refl _)
    | ex z =>
      refine ⟨_, rfl, b, _, 0, _, rfl, rfl, SqT.of hb, atI_nat rfl, "expect", rfl, (if_pos rfl).mpr ?_⟩
      refine ⟨_, rfl, a, dx, fs, rfl, ha, bld_meth f6 (by decide), _, rfl, a, _, dx, fs, _, rfl, ha, cB, n4, f4, _, rfl, b, _, 1, _, rfl, rfl, SqT.of hb, atI_nat rfl, H0, _, o, z, st, nE, nW, rfl, hB, hn, ho, fun H' h' => hQ _ ?_⟩
      have e : (st.bind fun e => e.step (.ex z)) = st.bind fun e => e.expect o z := by
        cases st with
        | none => rfl
        | some e => rw [← hm e rfl]; rfl
      rw [e]
      exact h'.mono (Nat.le_refl _) (Nat.le_succ _)
end
end TX
end
section
set_option autoImplicit false
set_option maxHeartbeats 4000000
/-! y = {k: v for ..}, a statement. -/
namespace TX
open PySem PySem.Spec PyProof.Rows L2 He TE
section
variable {X : Cx}
theorem sw_dc {kx vx : Expr} {gs : List Comprehension} {scope : Scope} {pos py : Pos} {y : PStr} {l : Nat} {env : Env} (hk : env.scope.kind = .function) (hy : env.scope.names.lookup y = some .local) (hl : (py.line == pos.line) = true)
    (ha : (scope.names.any fun (n, k) => n == y && (k == .local || k == .cell)) = false) : swapsWith (.DictComp kx vx gs scope pos) (some (.Name y py)) l env = pure true := by
  have ky : env.kindOf y = some .local := hy
  have hb : env.blockKind = .function := by unfold Env.blockKind; rw [hk]; rfl
  unfold swapsWith
  simp only [hb, ky, ha, Expr.pos, hl]
  rfl
theorem ps_setDc {i : Nat} {y : PStr} {py : Pos} {kx vx tg iter : Expr} {ifs : List Expr} {scope : Scope} {own : List (PStr × Nat)} {pos spos : Pos} {wi : TI} {g : TG} {tt : TT} {tk tv : L2.TE} (hc : X.calm = true) (hN : X.N.Nodup) (hy : X.N[i]? = some y) (hyl : X.env.scope.names.lookup y = some .local)
    (hsw : swapsWith (.DictComp kx vx [⟨tg, iter, ifs, 0⟩] scope pos) (some (.Name y py)) spos.line X.env = pure true) (hi : PI X tg iter wi) (ok : BlkOk X.N X.env.scope scope own)
    (hg : ∀ (s : Shared) (H : Hp) (C : Addr) (cl : List (PStr × Addr)) (fp : List Addr), PG (X.blk s H scope (compEnvC scope cl C X.env) fp) tg g) (ht : ∀ (s : Shared) (H : Hp) (C : Addr) (cl : List (PStr × Addr)) (fp : List Addr), PTs (X.blk s H scope (compEnvC scope cl C X.env) fp) ifs tt)
    (hk : ∀ (s : Shared) (H : Hp) (C : Addr) (cl : List (PStr × Addr)) (fp : List Addr), PE (X.blk s H scope (compEnvC scope cl C X.env) fp) kx tk)
    (he : ∀ (s : Shared) (H : Hp) (C : Addr) (cl : List (PStr × Addr)) (fp : List Addr), PE (X.blk s H scope (compEnvC scope cl C X.env) fp) vx tv) (hs : ∀ x, foldedSetIterable iter X.env x = pure x := by intro _; rfl) :
    PS X (.Assign [.Name y py] (.DictComp kx vx [⟨tg, iter, ifs, 0⟩] scope pos) spos) (tAsg (tDc wi g tt tk tv (own.map (·.2))) (gName i)) := by
  refine ⟨fun pins s σ H D I h => ?_⟩
  rw [exec_Assign_Name_used _ _ _ _ hsw]
  refine wpAny_bind (wpAny_standAt (wpAny_bind ?_))
  show wpAny _ X.A (do let _ ← comprehension (.DictComp kx vx [⟨tg, iter, ifs, 0⟩] scope pos) scope X.env (firstIterPos [⟨tg, iter, ifs, 0⟩] pos) newDict false (eval iter X.env) (some (assign (.Name y py) X.env))) _ _ s
  have h : tDc wi g tt tk tv (own.map (·.2)) σ H (fun x H1 => gName i x σ H1 D.nx) := h
  refine wpAny_bind (thn (dc_core (Qf := fun _ s' => SP X pins D .next s') hc hN I hi ok hg ht hk he hs h fun L C s' m H' I' q hn f => ?_) fun _ s' hq => wpAny_pure (wpAny_pure hq))
  show wpAny _ _ (assign (.Name y py) X.env (.ref L)) _ _ _
  refine wpAny_assign_Name (store_ok2 (v := V.ref L) I' hN hy (.inl hyl) rfl (fun s2 I2 ⟨a, sb, ha⟩ => ?_) (.inr hyl))
  obtain ⟨f0, f1, f2, f3, f4, f5⟩ := f
  have haC : C ≠ a := by
    rcases ha with z | z
    · rw [z]; exact f1
    · exact fun e => f4 y a z e.symm
  refine ⟨m, hn.sameBut sb haC, fun h3 sb3 => ?_⟩
  exact ⟨_, H', I2.turned (t' := s2.toks) (fun b o hb e => (sb3.2 b hb).trans e) f0 f1 f3 f4 f5, q⟩
end
end TX
end
section
set_option autoImplicit false
set_option maxHeartbeats 4000000
/-! add_effect, result; effect_of. -/
namespace TX
open PySem PySem.Spec PyProof.Rows L2 He TE
/-- the result of a builder -/
def ResAt (K : PySem.W.Frag) (H : Hp) (r : V) (st : Option (SE PStr)) (n : Nat) : Prop := match st with
  | none => r = .non
  | some e => EffAt K H r e n
theorem ResAt.same {K : PySem.W.Frag} {H H' : Hp} {r : V} {st : Option (SE PStr)} {n : Nat} (h : ResAt K H r st n) (s : Same H H') : ResAt K H' r st n := by
  cases st with
  | none => exact h
  | some e => exact EffAt.same h s
section
variable {P : Program} {w : World} {K : PySem.W.Frag} {mg : PStr → Option Value} {base : Heap}
theorem sc27_5 : FnScope ["self", "changed", "offset", "letter"] ["self"] (defScope s27_5) := ⟨rfl, rfl, rfl, by decide +kernel, rfl, by decide +kernel, by decide +kernel⟩
def spBRes (K : PySem.W.Frag) : Sp := fun vs H Q _ => ∃ H0 v st nE nW n, vs = [v] ∧ BldAt K H0 H v st nE nW ∧ nE ≤ n ∧ nW ≤ n ∧ n < 64 ∧ ∀ H' r, Same H H' → ResAt K (dif H H') r st n → Q r H'

theorem ok_bld_result (T : Txt P K mg) : Mtd P w K mg base 6 (ga K "Builder") "result" (spBRes K) := by
  refine mtdN T 52 (d := d27_5) rfl "Builder" "result" (by decide +kernel) (by decide +kernel) rfl rfl sc27_5 (fun _ _ _ _ _ _ us hl => match us, hl with | [_], _ => rfl) (fun vs H Q E h => ?_) (fun f cdv A outer s H vs Q E hr h => ?_)
  · obtain ⟨H0, v, st, nE, nW, n, rfl, _⟩ := h
    rfl
  · have cB := T.cls "Builder" (by decide +kernel)
    have n1 := T.noat ("Builder", "needs") (by decide +kernel)
    have n3 := T.noat ("Builder", "written") (by decide +kernel)
    have n4 := T.noat ("Builder", "offset") (by decide +kernel)
    have n5 := T.noat ("Builder", "failed") (by decide +kernel)
    refine ⟨_, (pss_cons (ps_if (pt_val (pe_fld (pv 0) (by rfl))) (pss_one (ps_ret pe_non)) pss_nil) (pss_cons (ps_lock (ps_setDc (i := 1) (own := [("offset", 2), ("letter", 3)]) (g := (gTup K 2 (gCons (gName 2) (gCons (gName 3) gNil)))) (tt := (tTest (tOp rNe (tDGet1 (tFld K (tVar 0) "needs") (tVar 2)) (tVar 3)))) rfl sc27_5.nd rfl rfl (sw_dc rfl rfl rfl (by decide +kernel)) (pi_items (pe_fld (pv 0) (by rfl))) (blkOk_by (own := [("offset", 2), ("letter", 3)]) (N := ["self", "changed", "offset", "letter"]) (sc := defScope s27_5) (by decide +kernel)) (fun _ _ _ _ _ => (pg_tup (by rfl) (pgs_cons (pg_name (i := 2) sc27_5.nd rfl (.inl rfl)) (pgs_cons (pg_name (i := 3) sc27_5.nd rfl (.inl rfl)) pgs_nil)))) (fun _ _ _ _ _ => (pts_one (pt_cmpR op_ne (pe_dget1 (hu_of hr) (pe_fld (pv 0) (by rfl)) (pv 2) ⟨by rfl, by rfl, by rfl, by rfl⟩) (pv 3) (nomark _)))) (fun _ _ _ _ _ => (pv 2)) (fun _ _ _ _ _ => (pv 3)))) (pss_one (ps_ret (pe_k (ok_eff_init T) hr (by decide) (T.glo "Effect" (by decide +kernel)) (by rfl) (pa_cons (pe_fld (pv 0) (by rfl)) (pa_cons (pv 1) (pa_cons (pe_fld (pv 0) (by rfl)) pa_nil)))))))), ?_⟩
    obtain ⟨H0, v, st, nE, nW, n, rfl, ⟨a, dx, fs, p, q, r, kn, kk, kw, N, W, o, fl, rfl, s0, ⟨ha0, hp0, hq0, hr0⟩, ⟨npq, npr, nqr⟩, ha, ⟨f1, f2, f3, f4, f5⟩, f6, ⟨hp, hq, hr'⟩, L1, L2, L3, hst⟩, lE, lW, hn, hQ⟩ := h
    refine ⟨_, rfl, a, _, dx, fs, _, rfl, ha, cB, n5, f5, fl, rfl, ?_⟩
    cases fl with
    | true =>
      refine iteT (hQ _ _ (Same.refl _) ?_)
      rw [hst]
      exact rfl
    | false =>
      have hst' : st = some (mkE N W o) := hst
      refine iteF ⟨r, _, hr', trivial, fun od => ?_⟩
      have nar : a ≠ r := ne_of ha hr' (by intro z; cases z)
      have lk : upd H r (.frz od (.dK kw)) r = some (.frz od (.dK kw)) := upd_same
      have haL : upd H r (.frz od (.dK kw)) a = some (.ins (ga K "Builder") dx fs) := by rw [upd_ne nar]; exact ha
      have hpL : upd H r (.frz od (.dK kw)) p = some (.dK kn) := by rw [upd_ne npr]; exact hp
      refine ⟨_, rfl, a, _, dx, fs, _, rfl, haL, cB, n3, f3, r, od, kw, rfl, lk, fun D hD => ?_⟩
      have nrD : r ≠ D := ne_free lk hD
      have hD1 : H D = none := by rw [upd_ne (Ne.symm nrD)] at hD; exact hD
      obtain ⟨ks, k1, k2, k3, k4⟩ := L3.keys
      let g : Int → Option PStr := (mkE N W o).C
      refine dc_it walk_items (fun i H' => Same (upd H r (.frz od (.dK kw))) H' ∧ ∃ acc, H' D = some (.dK acc) ∧ LDk acc (rst g (ks.take i)) i)
        ⟨Same.new (Same.refl _) hD, _, upd_same, LDk.nil.congr fun j => (rst_nil g j).symm⟩ (fun i H' _ z => z.1 _ _ lk) (fun i x H2 H3 hi z y => ?_) (fun H' z => ?_)
      · obtain ⟨zs, acc, hacc, La⟩ := z
        obtain ⟨t, k, vv, rfl, ht, rfl, hk⟩ := items_y y
        have e3 := Same.new (o := .tup [kV k, vv]) zs ht
        obtain ⟨j, z, ee, hz, wz⟩ := L3.ent (List.mem_of_getElem? hk)
        cases ee
        have hkj : ks[i]? = some j := by
          have : (kw.map (·.1))[i]? = some (Sum.inl j) := by rw [List.getElem?_map, hk]; rfl
          rw [k1, List.getElem?_map] at this
          obtain ⟨j', hj', ej⟩ := Option.map_eq_some_iff.mp this
          cases ej
          exact hj'
        refine ⟨t, _, rfl, SqT.of upd_same, rfl, _, _, rfl, _, _, rfl, rfl, rfl, ?_⟩
        refine ⟨_, rfl, a, _, dx, fs, _, rfl, e3 _ _ haL, cB, n1, f1, p, rfl, .inl ⟨kn, .inl (e3 _ _ hpL)⟩, _, rfl, _, .inl ⟨kn, Sum.inl j, .inl (e3 _ _ hpL), rfl, rfl⟩, _, rfl, ?_⟩
        have hv : scal ((valV kn (Sum.inl j)).getD .non) (.str z) = true ∧ (!decide ((valV kn (Sum.inl j)).getD .non = .str z)) = !decide (N j = some z) := by
          rw [L1.vl j]
          cases fj : N j with
          | none => exact ⟨rfl, by rw [decide_eq_false (by intro q; cases q), decide_eq_false (by intro q; cases q)]⟩
          | some y' =>
            refine ⟨rfl, ?_⟩
            show (!decide (V.str y' = V.str z)) = !decide (some y' = some z)
            by_cases q : y' = z
            · rw [decide_eq_true (congrArg V.str q), decide_eq_true (congrArg some q)]
            · rw [decide_eq_false (fun e => q (V.str.inj e)), decide_eq_false (fun e => q (Option.some.inj e))]
        have gj : g j = if some z = N j then none else some z := by
          show (if W j = N j then none else W j : Option PStr) = _
          rw [wz]
        refine ⟨hv.1, ?_⟩
        rw [hv.2]
        refine ⟨_, rfl, ?_⟩
        by_cases q : N j = some z
        · refine iteF' (by rw [decide_eq_true q]; rfl) ⟨e3, acc, by rw [upd_ne (ne_free hacc ht)]; exact hacc, (La.mono (Nat.le_succ i)).congr fun j' => ?_⟩
          rw [take_snoc hkj]
          exact rst_none (gj.trans (if_pos q.symm)) j'
        · refine iteT' (by rw [decide_eq_false q]; rfl) ?_
          refine ⟨_, rfl, _, rfl, acc, Sum.inl j, rfl, by rw [upd_ne (ne_free hacc ht)]; exact hacc, La.small (by have := L3.ln; omega), Same.put e3 hD, _, upd_same, (La.put hz).congr fun j' => ?_⟩
          rw [take_snoc hkj]
          exact rst_some (gj.trans (if_neg (fun e => q e.symm))) j'
      · obtain ⟨zs, acc, hacc, La⟩ := z
        have e4 : Same H (upd H' r (.dK kw)) := same_unlock hr' zs
        have La2 : LDk acc g n := (La.congr fun j => by
          rw [← k2, List.take_length]
          refine rst_all (fun j' z hz => ?_) j
          have hz' : (if W j' = N j' then none else W j' : Option PStr) = some z := hz
          refine (k4 j').mpr ?_
          by_cases q : W j' = N j'
          · rw [if_pos q] at hz'; cases hz'
          · rw [if_neg q] at hz'; rw [hz']; rfl).mono (Nat.le_trans L3.ln lW)
        have hDn : upd H' r (.dK kw) D = some (.dK acc) := by rw [upd_ne (Ne.symm nrD)]; exact hacc
        refine ⟨zs _ _ lk, _, rfl, a, _, dx, fs, _, rfl, e4 _ _ ha, cB, n1, f1, _, rfl, _, rfl, a, _, dx, fs, _, rfl, e4 _ _ ha, cB, n4, f4, fun x dx' hx hdx hne => ?_⟩
        refine ⟨_, x, dx', p, D, kn, acc, n, mkE N W o, rfl, ⟨hx, hdx, hne, rfl⟩, e4 _ _ hp, hDn, ne_free hp hD1, L1.mono lE, La2, hn, mkE_norm N W o, fun H2 e5 ef => ⟨rfl, hQ _ _ (e4.trans e5) ?_⟩⟩
        rw [hst']
        exact ef.same (dif_mono e4)
end
end TX
end
section
set_option autoImplicit false
set_option maxHeartbeats 4000000
/-! add_effect; effect_of; compose. -/
namespace TX
open PySem PySem.Spec PyProof.Rows L2 He TE
theorem BldAt.rebase {K : PySem.W.Frag} {H0 H H1 : Hp} {v : V} {st : Option (SE PStr)} {nE nW : Nat} {d : Addr} {o : HO} (h : BldAt K H0 H v st nE nW) (s : Same H H1) (hd : H d = none) : BldAt K (upd H0 d o) (upd H1 d o) v st nE nW := by
  obtain ⟨a, dx, fs, p, q, r, kn, kk, kw, N, W, oo, fl, rfl, s0, ⟨ha0, hp0, hq0, hr0⟩, hdd, ha, hf, f6, ⟨hp, hq, hr'⟩, L1, L2, L3, hst⟩ := h
  have na := ne_free ha hd
  have np := ne_free hp hd
  have nq := ne_free hq hd
  have nr := ne_free hr' hd
  exact ⟨a, dx, fs, p, q, r, kn, kk, kw, N, W, oo, fl, rfl, Ext.upd1 (s0.trans s) d o, ⟨by rw [upd_ne na]; exact ha0, by rw [upd_ne np]; exact hp0, by rw [upd_ne nq]; exact hq0, by rw [upd_ne nr]; exact hr0⟩, hdd, by rw [upd_ne na]; exact s _ _ ha, hf, f6,
    ⟨by rw [upd_ne np]; exact s _ _ hp, by rw [upd_ne nq]; exact s _ _ hq, by rw [upd_ne nr]; exact s _ _ hr'⟩, L1, L2, L3, hst⟩
theorem BldAt.base {K : PySem.W.Frag} {H0 H1 H : Hp} {v : V} {st : Option (SE PStr)} {nE nW : Nat} (h : BldAt K H1 H v st nE nW) (s : Same H0 H1) : BldAt K H0 H v st nE nW := by
  obtain ⟨a, dx, fs, p, q, r, kn, kk, kw, N, W, oo, fl, e, s0, ⟨ha0, hp0, hq0, hr0⟩, rest⟩ := h
  exact ⟨a, dx, fs, p, q, r, kn, kk, kw, N, W, oo, fl, e, s.trans s0, ⟨s.free ha0, s.free hp0, s.free hq0, s.free hr0⟩, rest⟩
theorem BldAt.sm {K : PySem.W.Frag} {H0 H : Hp} {v : V} {st : Option (SE PStr)} {nE nW : Nat} (h : BldAt K H0 H v st nE nW) : Same H0 H := by
  obtain ⟨a, dx, fs, p, q, r, kn, kk, kw, N, W, oo, fl, e, s0, _⟩ := h
  exact s0
theorem BldAt.ref {K : PySem.W.Frag} {H0 H : Hp} {v : V} {st : Option (SE PStr)} {nE nW : Nat} (h : BldAt K H0 H v st nE nW) : ∃ a dx fs, v = .ref a ∧ H a = some (.ins (ga K "Builder") dx fs) ∧ fs.map (·.1) = bfs := by
  obtain ⟨a, dx, fs, p, q, r, kn, kk, kw, N, W, oo, fl, e, s0, _, _, ha, _, f6, _⟩ := h
  exact ⟨a, dx, fs, e, ha, f6⟩
theorem nd_idx {α : Type} : ∀ {l : List α}, l.Nodup → ∀ {i j : Nat} {x : α}, l[i]? = some x → l[j]? = some x → i = j
  | [], _, i, j, x, h, _ => by simp at h
  | a :: l, nd, 0, 0, x, _, _ => rfl
  | a :: l, nd, 0, j + 1, x, h, h' => by
    simp at h h'
    rw [List.nodup_cons] at nd
    exact absurd (List.mem_of_getElem? h') (by rw [← h]; exact nd.1)
  | a :: l, nd, i + 1, 0, x, h, h' => by
    simp at h h'
    rw [List.nodup_cons] at nd
    exact absurd (List.mem_of_getElem? h) (by rw [← h']; exact nd.1)
  | a :: l, nd, i + 1, j + 1, x, h, h' => by
    simp at h h'
    rw [List.nodup_cons] at nd
    rw [nd_idx nd.2 h h']
theorem not_take {α : Type} {l : List α} (nd : l.Nodup) {i : Nat} {x : α} (h : l[i]? = some x) : x ∉ l.take i := fun hm => by
  obtain ⟨i', e⟩ := List.mem_iff_getElem?.mp hm
  rw [List.getElem?_take] at e
  by_cases q : i' < i
  · rw [if_pos q] at e
    have := nd_idx nd e h
    omega
  · rw [if_neg q] at e
    cases e
section
variable {P : Program} {w : World} {K : PySem.W.Frag} {mg : PStr → Option Value} {base : Heap}
theorem sc27_4 : FnScope ["self", "effect", "offset", "letter"] ["self", "effect"] (defScope s27_4) := ⟨rfl, rfl, rfl, by decide +kernel, rfl, by decide +kernel, by decide +kernel⟩
def spBAdd (K : PySem.W.Frag) : Sp := fun vs H Q _ => ∃ H0 v u f n st nE nW, vs = [v, u] ∧ BldAt K H0 H v st nE nW ∧ EffAt K H0 u f n ∧ nE + nW + 2 * n ≤ 1000 ∧ ∀ H', BldAt K H0 H' v (st.bind fun e => e.comp f) (nE + n) (nW + n) → Q .non H'

theorem ok_bld_add (T : Txt P K mg) : Mtd P w K mg base 3 (ga K "Builder") "add_effect" (spBAdd K) := by
  refine mtdN T 51 (d := d27_4) rfl "Builder" "add_effect" (by decide +kernel) (by decide +kernel) rfl rfl sc27_4 (fun _ _ _ _ _ _ us hl => match us, hl with | [_, _], _ => rfl) (fun vs H Q E h => ?_) (fun f cdv A outer s H vs Q E hr h => ?_)
  · obtain ⟨H0, v, u, f, n, st, nE, nW, rfl, _⟩ := h
    rfl
  · have cB := T.cls "Builder" (by decide +kernel)
    have n4 := T.noat ("Builder", "offset") (by decide +kernel)
    refine ⟨_, (pss_cons (ps_for (passes_of rfl) rfl (pi_items (pe_frz (pe_pr (pv 1) (T.cls "Effect" (by decide +kernel)) (T.prop "expected" (by decide +kernel)) (ok_expected T) hr (by decide)))) (pg_tup (by rfl) (pgs_cons (pg_name (i := 2) sc27_4.nd rfl (.inl rfl)) (pgs_cons (pg_name (i := 3) sc27_4.nd rfl (.inl rfl)) pgs_nil))) (pss_one (ps_expr (pe_m (ok_bld_expect T) hr (by decide) (pv 0) (pa_cons (pe_op op_add (pe_fld (pv 0) (by rfl)) (pv 2)) (pa_cons (pv 3) pa_nil)))))) (pss_cons (ps_for (passes_of rfl) rfl (pi_items (pe_frz (pe_pr (pv 1) (T.cls "Effect" (by decide +kernel)) (T.prop "changed" (by decide +kernel)) (ok_changed T) hr (by decide)))) (pg_tup (by rfl) (pgs_cons (pg_name (i := 2) sc27_4.nd rfl (.inl rfl)) (pgs_cons (pg_name (i := 3) sc27_4.nd rfl (.inl rfl)) pgs_nil))) (pss_one (ps_expr (pe_m (ok_bld_write T) hr (by decide) (pv 0) (pa_cons (pe_op op_add (pe_fld (pv 0) (by rfl)) (pv 2)) (pa_cons (pv 3) pa_nil)))))) (pss_one (ps_fldaug (pv 0) (pe_pr (pv 1) (T.cls "Effect" (by decide +kernel)) (T.prop "shift" (by decide +kernel)) (ok_shift T) hr (by decide)) in_add)))), ?_⟩
    obtain ⟨H0, v, u, f, n, st, nE, nW, rfl, hB, hf, hn, hQ⟩ := h
    obtain ⟨ua, udx, ufs, up, uq, ukn, ukc, rfl, uha, _⟩ := id hf
    have sB := hB.sm
    refine ⟨_, rfl, ua, udx, ufs, rfl, sB _ _ uha, _, f, n, rfl, hf.same sB, fun H1 d kv e1 hd hd1 Ld => ⟨d, _, rfl, hd1, trivial, fun od => ?_⟩⟩
    obtain ⟨ks, k1, k2, k3, k4⟩ := Ld.keys
    refine ⟨d, od, kv, rfl, upd_same, ?_⟩
    have hd0 : H0 d = none := sB.free hd
    have sb1 : Same H0 (upd H0 d (.frz od (.dK kv))) := Same.put (Same.refl _) hd0
    have hB1 := hB.rebase (o := .frz od (.dK kv)) e1 hd
    refine for_it walk_items (fun i σ H' => (∃ c2 c3, σ = [some v, some (.ref ua), c2, c3]) ∧ BldAt K (upd H0 d (.frz od (.dK kv))) H' v (st.bind fun e => expS e (rst f.N (ks.take i))) (nE + i) nW)
      ⟨⟨none, none, rfl⟩, ?_⟩ (fun i σ H' _ z => z.2.sm _ _ upd_same) (fun i x σ H2 H3 hi z y => ?_) (fun σ H2 z => ?_)
    · have e : (st.bind fun e => expS e (rst f.N (ks.take 0))) = st := by
        cases st with
        | none => rfl
        | some e => rw [List.take_zero, show rst f.N [] = fun _ => none from funext (rst_nil f.N)]; exact expS_none e
      rw [e]
      exact hB1
    · obtain ⟨⟨c2, c3, rfl⟩, zB⟩ := z
      obtain ⟨t, k, vv, rfl, ht, rfl, hk⟩ := items_y y
      have e3 : Same H2 (upd H2 t (.tup [kV k, vv])) := Ext.upd ht
      obtain ⟨j, z, ee, hz, nz⟩ := Ld.ent (List.mem_of_getElem? hk)
      cases ee
      have hkj : ks[i]? = some j := by
        have : (kv.map (·.1))[i]? = some (Sum.inl j) := by rw [List.getElem?_map, hk]; rfl
        rw [k1, List.getElem?_map] at this
        obtain ⟨j', hj', ej⟩ := Option.map_eq_some_iff.mp this
        cases ej
        exact hj'
      obtain ⟨a, dx, fs, o, rfl, ha, f4, f6, hm, _⟩ := bld_off (zB.same e3)
      have hln := Ld.ln
      refine ⟨t, _, rfl, SqT.of upd_same, rfl, _, _, rfl, _, _, rfl, rfl, ?_⟩
      refine ⟨_, rfl, a, dx, fs, rfl, ha, bld_meth f6 (by decide), _, rfl, a, _, dx, fs, _, rfl, ha, cB, n4, f4, _, rfl, o, j, rfl, rfl, _, rfl, _, _, o + j, z, _, _, _, rfl, zB.same e3, by omega, hz, fun H4 h4 => ⟨⟨_, _, rfl⟩, ?_⟩⟩
      have e : (st.bind fun e => expS e (rst f.N (ks.take (i + 1)))) = (st.bind fun e => expS e (rst f.N (ks.take i))).bind fun e => e.expect (o + j) z := by
        cases st with
        | none => rfl
        | some e =>
          show expS e (rst f.N (ks.take (i + 1))) = (expS e (rst f.N (ks.take i))).bind fun e' => e'.expect (o + j) z
          have hg : rst f.N (ks.take i) j = none := by
            unfold rst
            rw [if_neg]
            exact not_take k3 hkj
          have st1 := expS_step (e := e) (z := z) hg
          have ef : fset (rst f.N (ks.take i)) j (some z) = rst f.N (ks.take (i + 1)) := by
            funext j'
            rw [take_snoc hkj]
            exact rst_some nz j'
          rw [ef] at st1
          rw [← st1]
          cases q : expS e (rst f.N (ks.take i)) with
          | none => rfl
          | some e' =>
            have : e'.m = o := hm e' q
            show e'.expect (e.m + j) z = e'.expect (o + j) z
            rw [← this, expS_m q]
      rw [e]
      exact h4
    · obtain ⟨⟨c2, c3, rfl⟩, zB⟩ := z
      have hB2 : BldAt K H0 H2 v (st.bind fun e => expS e f.N) (nE + n) nW := by
        have e : rst f.N (ks.take kv.length) = f.N := by
          funext j
          rw [← k2, List.take_length]
          exact rst_all (fun j z hz => (k4 j).mpr (by rw [hz]; rfl)) j
        have z2 := zB.base sb1
        rw [e] at z2
        exact z2.mono (Nat.add_le_add_left Ld.ln _) (Nat.le_refl _)
      clear zB hB1
      have sB2 := hB2.sm
      refine ⟨_, rfl, ua, udx, ufs, rfl, sB2 _ _ uha, _, f, n, rfl, hf.same sB2, fun H3 d2 kv2 e3 hd2 hd3 Ld2 => ⟨d2, _, rfl, hd3, trivial, fun od2 => ?_⟩⟩
      obtain ⟨ls, l1, l2, l3, l4⟩ := Ld2.keys
      refine ⟨d2, od2, kv2, rfl, upd_same, ?_⟩
      have hd20 : H0 d2 = none := sB2.free hd2
      have sb2 : Same H0 (upd H0 d2 (.frz od2 (.dK kv2))) := Same.put (Same.refl _) hd20
      have hB3 := hB2.rebase (o := .frz od2 (.dK kv2)) e3 hd2
      refine for_it walk_items (fun i σ H' => (∃ c2 c3, σ = [some v, some (.ref ua), c2, c3]) ∧ BldAt K (upd H0 d2 (.frz od2 (.dK kv2))) H' v ((st.bind fun e => expS e f.N).map fun e => wrS e (rst f.C (ls.take i))) (nE + n) (nW + i))
        ⟨⟨_, _, rfl⟩, ?_⟩ (fun i σ H' _ z => z.2.sm _ _ upd_same) (fun i x σ H4 H5 hi z y => ?_) (fun σ H4 z => ?_)
      · have e : ((st.bind fun e => expS e f.N).map fun e => wrS e (rst f.C (ls.take 0))) = st.bind fun e => expS e f.N := by
          rw [List.take_zero, show rst f.C [] = fun _ => none from funext (rst_nil f.C)]
          cases (st.bind fun e => expS e f.N) with
          | none => rfl
          | some e => exact congrArg some (wrS_none e)
        rw [e]
        exact hB3
      · obtain ⟨⟨c2, c3, rfl⟩, zB⟩ := z
        obtain ⟨t, k, vv, rfl, ht, rfl, hk⟩ := items_y y
        have e5 : Same H4 (upd H4 t (.tup [kV k, vv])) := Ext.upd ht
        obtain ⟨j, z, ee, hz, nz⟩ := Ld2.ent (List.mem_of_getElem? hk)
        cases ee
        have hkj : ls[i]? = some j := by
          have : (kv2.map (·.1))[i]? = some (Sum.inl j) := by rw [List.getElem?_map, hk]; rfl
          rw [l1, List.getElem?_map] at this
          obtain ⟨j', hj', ej⟩ := Option.map_eq_some_iff.mp this
          cases ej
          exact hj'
        obtain ⟨a, dx, fs, o, rfl, ha, f4, f6, hm, _⟩ := bld_off (zB.same e5)
        have hln := Ld2.ln
        refine ⟨t, _, rfl, SqT.of upd_same, rfl, _, _, rfl, _, _, rfl, rfl, ?_⟩
        refine ⟨_, rfl, a, dx, fs, rfl, ha, bld_meth f6 (by decide), _, rfl, a, _, dx, fs, _, rfl, ha, cB, n4, f4, _, rfl, o, j, rfl, rfl, _, rfl, _, _, o + j, z, _, _, _, rfl, zB.same e5, by omega, hz, fun H6 h6 => ⟨⟨_, _, rfl⟩, ?_⟩⟩
        have e : ((st.bind fun e => expS e f.N).map fun e => wrS e (rst f.C (ls.take (i + 1)))) = ((st.bind fun e => expS e f.N).map fun e => wrS e (rst f.C (ls.take i))).map fun e => e.write (o + j) z := by
          cases q : (st.bind fun e => expS e f.N) with
          | none => rfl
          | some e =>
            have ho : e.m = o := hm (wrS e (rst f.C (ls.take i))) (by rw [q]; rfl)
            refine congrArg some ?_
            show wrS e (rst f.C (ls.take (i + 1))) = (wrS e (rst f.C (ls.take i))).write (o + j) z
            rw [← ho, wrS_step]
            congr 1
            funext j'
            rw [take_snoc hkj]
            exact (rst_some nz j').symm
        rw [e]
        exact h6
      · obtain ⟨⟨c2, c3, rfl⟩, zB⟩ := z
        have hB4 : BldAt K H0 H4 v ((st.bind fun e => expS e f.N).map fun e => wrS e f.C) (nE + n) (nW + n) := by
          have e : rst f.C (ls.take kv2.length) = f.C := by
            funext j
            rw [← l2, List.take_length]
            exact rst_all (fun j z hz => (l4 j).mpr (by rw [hz]; rfl)) j
          have z2 := zB.base sb2
          rw [e] at z2
          exact z2.mono (Nat.le_refl _) (Nat.add_le_add_left Ld2.ln _)
        obtain ⟨a, dx, fs, o, rfl, ha, f4, f6, hm, hset⟩ := bld_off hB4
        have sB4 := hB4.sm
        refine ⟨_, rfl, a, _, dx, fs, _, rfl, ha, cB, n4, f4, _, rfl, ua, udx, ufs, rfl, sB4 _ _ uha, _, f, n, rfl, hf.same sB4, o, f.m, rfl, rfl, dx, fs, ha, BldAt.len (K := K) f6, hQ _ ?_⟩
        have e : (st.bind fun e => e.comp f) = ((st.bind fun e => expS e f.N).map fun e => wrS e f.C).map fun e => ⟨e.N, e.C, o + f.m⟩ := by
          cases st with
          | none => rfl
          | some e =>
            show e.comp f = ((expS e f.N).map fun e => wrS e f.C).map fun e => ⟨e.N, e.C, o + f.m⟩
            rw [comp_is]
            cases q : expS e f.N with
            | none => rfl
            | some e1 =>
              have ho : e1.m = o := hm (wrS e1 f.C) (by show ((expS e f.N).map fun e => wrS e f.C) = _; rw [q]; rfl)
              show some (⟨(wrS e1 f.C).N, (wrS e1 f.C).C, e1.m + f.m⟩ : SE PStr) = some ⟨(wrS e1 f.C).N, (wrS e1 f.C).C, o + f.m⟩
              rw [ho]
        rw [e]
        exact hset _
end
end TX
end
section
set_option autoImplicit false
set_option maxHeartbeats 4000000
/-! effect_of; compose. -/
namespace TX
open PySem PySem.Spec PyProof.Rows L2 He TE StX
section
variable {P : Program} {w : World} {K : PySem.W.Frag} {mg : PStr → Option Value} {base : Heap}
theorem sc28 : FnScope ["steps", "builder", "step"] ["steps"] (defScope s28) := ⟨rfl, rfl, rfl, by decide +kernel, rfl, by decide +kernel, by decide +kernel⟩
def spEffOf (K : PySem.W.Frag) : Sp := fun vs H Q _ => ∃ a l n, vs = [.ref a] ∧ StsAt K H a l ∧ l.length ≤ n ∧ n < 64 ∧ ∀ H' r, Same H H' → ResAt K (dif H H') r (effOf l) n → Q r H'

theorem ok_effect_of (T : Txt P K mg) : Dfn P w K mg base 7 "effect_of" (spEffOf K) := by
  refine dfnN T 9 (d := d28) rfl "effect_of" (by decide +kernel) rfl rfl sc28 (fun _ _ _ _ _ _ us hl => match us, hl with | [_], _ => rfl) (fun vs H Q E h => ?_) (fun f cdv A outer s H vs Q E hr h => ?_)
  · obtain ⟨a, l, n, rfl, _⟩ := h
    rfl
  · refine ⟨_, (pss_cons (ps_expr (pe_d (ok_check_steps T) hr (by decide) (by rfl) (pa_cons (pv 0) pa_nil))) (pss_cons (ps_set (i := 1) sc28.nd rfl (.inl rfl) (pe_k0 (ok_bld_init T) hr (by decide) (T.glo "Builder" (by decide +kernel)) (by rfl))) (pss_cons (ps_for (passes_of rfl) rfl (pi_list (pv 0)) (pg_name (i := 2) sc28.nd rfl (.inl rfl)) (pss_one (ps_expr (pe_m (ok_bld_step T) hr (by decide) (pv 1) (pa_cons (pv 2) pa_nil))))) (pss_one (ps_ret (pe_m0 (ok_bld_result T) hr (by decide) (pv 1))))))), ?_⟩
    obtain ⟨a, l, n, rfl, hs, hl, hn, hQ⟩ := h
    refine ⟨_, rfl, a, l, rfl, hs, fun H1 e1 => ?_⟩
    intro x dx hx hdx hne
    refine ⟨H1, x, dx, rfl, ⟨hx, hdx, hne, rfl⟩, fun H2 hB => ⟨rfl, ?_⟩⟩
    obtain ⟨vs, hv, pr⟩ := hs.same e1
    have hlen := pr.length
    refine ⟨_, rfl, a, rfl, ⟨_, SqL.of (hB.sm _ _ hv)⟩, for_it walk_list (fun i σ H' => (∃ c, σ = [some (.ref a), some (.ref x), c]) ∧ BldAt K H1 H' (.ref x) (effOf (l.take i)) i i) ⟨⟨none, rfl⟩, hB⟩ (fun i σ H' _ z => SqL.of (z.2.sm _ _ hv)) (fun i y σ H3 H4 hi z q => ?_) (fun σ H3 z => ?_)⟩
    · obtain ⟨⟨c, rfl⟩, zB⟩ := z
      obtain ⟨rfl, hy⟩ := q
      obtain ⟨st, hst, hs1⟩ := paired_at1 pr hy
      obtain ⟨b, bdx, bfs', eb, hb, fb⟩ := zB.ref
      cases eb
      refine ⟨_, rfl, x, bdx, bfs', rfl, hb, bld_meth fb (by decide), _, rfl, H1, _, y, st, _, i, i, rfl, zB, by omega, hs1.same zB.sm, fun H5 h5 => ⟨⟨_, rfl⟩, ?_⟩⟩
      have e : effOf (l.take (i + 1)) = (effOf (l.take i)).bind fun e => e.step st := by
        rw [take_snoc hst]
        show runE SE.one (l.take i ++ [st]) = _
        rw [runE_append]
        show (runE SE.one (l.take i)).bind _ = (runE SE.one (l.take i)).bind _
        cases runE SE.one (l.take i) with
        | none => rfl
        | some e' =>
          show (e'.step st).bind (fun e => some e) = e'.step st
          cases e'.step st <;> rfl
      rw [e]
      exact h5
    · obtain ⟨⟨c, rfl⟩, zB⟩ := z
      obtain ⟨b, bdx, bfs', eb, hb, fb⟩ := zB.ref
      cases eb
      refine ⟨_, rfl, x, bdx, bfs', rfl, hb, bld_meth fb (by decide), ?_⟩
      refine ⟨H1, _, _, vs.length, vs.length, n, rfl, zB, by omega, by omega, hn, fun H5 r e5 hr5 => hQ _ _ (e1.trans (zB.sm.trans e5)) ?_⟩
      rw [hlen, List.take_length] at hr5
      exact hr5.same (dif_mono (e1.trans zB.sm))
/-! ### compose -/
theorem sc29 : FnScope ["effects", "builder", "effect"] (([] : List PStr) ++ ([("effects" : PStr)] : List PStr)) (defScope s29) := ⟨rfl, rfl, rfl, by decide +kernel, rfl, by decide +kernel, by decide +kernel⟩
def spComp (K : PySem.W.Frag) : Sp := fun vs H Q _ => ∃ p u1 u2 e f n m, vs = [.ref p] ∧ H p = some (.tup [u1, u2]) ∧ EffAt K H u1 e n ∧ EffAt K H u2 f m ∧ n + m < 64 ∧ ∀ H' r, Same H H' → ResAt K (dif H H') r (e.comp f) (n + m) → Q r H'
def spCompose (K : PySem.W.Frag) : Sp := fun vs H Q _ => ∃ u1 u2 e f n m, vs = [u1, u2] ∧ EffAt K H u1 e n ∧ EffAt K H u2 f m ∧ n + m < 64 ∧ ∀ H' r, Same H H' → ResAt K (dif H H') r (e.comp f) (n + m) → Q r H'

theorem body_compose (T : Txt P K mg) : Body P w K mg base 6 d29 ["effects", "builder", "effect"] (spComp K) := by
  intro f cdv A outer s H vs Q E hr h
  refine ⟨_, (pss_cons (ps_set (i := 1) sc29.nd rfl (.inl rfl) (pe_k0 (ok_bld_init T) hr (by decide) (T.glo "Builder" (by decide +kernel)) (by rfl))) (pss_cons (ps_for (passes_of rfl) rfl (pi_tup (pv 0)) (pg_name (i := 2) sc29.nd rfl (.inl rfl)) (pss_cons (ps_if (pt_cmpR op_isN (pv 2) pe_non (nomark _)) (pss_one (ps_ret pe_non)) pss_nil) (pss_one (ps_expr (pe_m (ok_bld_add T) hr (by decide) (pv 1) (pa_cons (pv 2) pa_nil)))))) (pss_one (ps_ret (pe_m0 (ok_bld_result T) hr (by decide) (pv 1)))))), ?_⟩
  obtain ⟨p, u1, u2, e, g, n, m, rfl, hp, h1, h2, hnm, hQ⟩ := h
  intro x dx hx hdx hne
  refine ⟨H, x, dx, rfl, ⟨hx, hdx, hne, rfl⟩, fun H2 hB => ⟨rfl, ?_⟩⟩
  have he : e.Norm := by
    obtain ⟨_, _, _, _, _, _, _, _, _, _, _, _, _, _, _, _, _, no⟩ := h1
    exact no
  let sts : Nat → Option (SE PStr) := fun i => match i with
    | 0 => some SE.one
    | 1 => some e
    | _ => e.comp g
  let ns : Nat → Nat := fun i => match i with
    | 0 => 0
    | 1 => n
    | _ => n + m
  refine ⟨_, rfl, p, rfl, ⟨_, SqT.of (hB.sm _ _ hp)⟩, for_it walk_tup (fun i σ H' => (∃ c, σ = [some (.ref p), some (.ref x), c]) ∧ BldAt K H H' (.ref x) (sts i) (ns i) (ns i)) ⟨⟨none, rfl⟩, hB⟩ (fun i σ H' _ z => SqT.of (z.2.sm _ _ hp)) (fun i y σ H3 H4 hi z q => ?_) (fun σ H3 z => ?_)⟩
  · obtain ⟨⟨c, rfl⟩, zB⟩ := z
    obtain ⟨rfl, hy⟩ := q
    obtain ⟨b, bdx, bfs', eb, hb, fb⟩ := zB.ref
    cases eb
    have ref1 : ∀ {u : V} {e' : SE PStr} {k : Nat}, EffAt K H u e' k → decide (u = .non) = false := fun {u e' k} q => by
      obtain ⟨_, _, _, _, _, _, _, eu, _⟩ := q
      rw [eu]
      exact decide_eq_false (by intro q; cases q)
    match i, hi, hy with
    | 0, _, hy =>
      have : u1 = y := Option.some.inj hy
      subst this
      refine ⟨_, rfl, rfl, _, rfl, iteF' (ref1 h1) ?_⟩
      refine ⟨_, rfl, x, bdx, bfs', rfl, hb, bld_meth fb (by decide), _, rfl, H, _, _, e, n, _, _, _, rfl, zB, h1, by show 0 + 0 + 2 * n ≤ 1000; omega, fun H5 h5 => ⟨⟨_, rfl⟩, ?_⟩⟩
      have e1 : ((sts 0).bind fun e' => e'.comp e) = some e := one_comp he
      rw [e1] at h5
      exact h5.mono (by show 0 + n ≤ n; omega) (by show 0 + n ≤ n; omega)
    | 1, _, hy =>
      have : u2 = y := Option.some.inj hy
      subst this
      refine ⟨_, rfl, rfl, _, rfl, iteF' (ref1 h2) ?_⟩
      refine ⟨_, rfl, x, bdx, bfs', rfl, hb, bld_meth fb (by decide), _, rfl, H, _, _, g, m, _, _, _, rfl, zB, h2, by show n + n + 2 * m ≤ 1000; omega, fun H5 h5 => ⟨⟨_, rfl⟩, h5⟩⟩
    | i + 2, hi, _ => exact absurd hi (by show ¬ i + 2 < 2; omega)
  · obtain ⟨⟨c, rfl⟩, zB⟩ := z
    obtain ⟨b, bdx, bfs', eb, hb, fb⟩ := zB.ref
    cases eb
    refine ⟨_, rfl, x, bdx, bfs', rfl, hb, bld_meth fb (by decide), ?_⟩
    exact ⟨H, _, _, _, _, n + m, rfl, zB, Nat.le_refl _, Nat.le_refl _, hnm, fun H5 r e5 hr5 => hQ _ _ (zB.sm.trans e5) (hr5.same (dif_mono zB.sm))⟩
theorem ok_compose (T : Txt P K mg) : Dfn P w K mg base 7 "compose" (spCompose K) := by
  refine ⟨ga K "compose", T.glo "compose" (by decide +kernel), T.kpg "compose" (by decide +kernel), ?_⟩
  obtain ⟨fd, F⟩ := T.fn 10 d29 rfl
  obtain ⟨oc, od, dV, kV, doc, pm, an, cdv, ct, osl, rfl, lk, hcd, hD, hK⟩ := F.ex
  have ed : dV = .none := by
    rcases hD with ⟨_, e⟩ | ⟨e, _⟩
    · exact e
    · exact absurd rfl e
  subst ed
  have G := fn_star (P := P) (w := w) (K := K) (mg := mg) (base := base) (CX := L2.CX P w) (k := 6) (sp := spComp K) (ps := []) (pv := "effects") lk hcd sc29 cxUp (fun us rest hl => match us, hl, rest with
    | [], _, [] => rfl
    | [], _, r :: rs => rfl) (fun A outer s H vs Q E hr h => body_compose T _ cdv A outer s H vs Q E hr h)
  refine G.imp fun vs H Q E h => ?_
  obtain ⟨u1, u2, e, g, n, m, rfl, h1, h2, hnm, hQ⟩ := h
  refine ⟨[], [u1, u2], rfl, rfl, by rw [sizeLine_eq]; exact (by decide : 2 ≤ 16777216), fun p hp => ?_⟩
  have s1 : Same H (upd H p (.tup [u1, u2])) := Ext.upd hp
  exact ⟨p, u1, u2, e, g, n, m, rfl, upd_same, h1.same s1, h2.same s1, hnm, fun H' r e5 hr5 => hQ _ _ (s1.trans e5) (hr5.same (dif_mono s1))⟩
end
end TX
end
section
set_option autoImplicit false
/-! The plain law, third part: lines of named steps and their joint effects; runs on tapes. -/
namespace TE
section
variable {L M : Type} [DecidableEq L] [DecidableEq M]
/-- the steps of one name -/
def own (n : M) (l : List (M × Stp L)) : List (Stp L) := l.filterMap fun p => if p.1 = n then some p.2 else none
theorem own_append (n : M) (l r : List (M × Stp L)) : own n (l ++ r) = own n l ++ own n r := List.filterMap_append
theorem own_nil (n : M) : own n ([] : List (M × Stp L)) = [] := rfl
theorem own_len (n : M) (l : List (M × Stp L)) : (own n l).length ≤ l.length := List.length_filterMap_le _ _
theorem own_one (n : M) (p : M × Stp L) : own n [p] = if p.1 = n then [p.2] else [] := by
  unfold own
  rw [List.filterMap_cons]
  by_cases h : p.1 = n
  · simp [h]
  · simp [h]
abbrev Jt (M L : Type) := Option (M → SE L)
open Classical in
noncomputable def jointOf (l : List (M × Stp L)) : Jt M L := if ∀ n, (effOf (own n l)).isSome then some fun n => (effOf (own n l)).getD SE.one else none
open Classical in
noncomputable def compJ (j k : Jt M L) : Jt M L := j.bind fun f => k.bind fun g => if ∀ n, ((f n).comp (g n)).isSome then some fun n => ((f n).comp (g n)).getD SE.one else none
theorem jointOf_congr {l r : List (M × Stp L)} (h : ∀ n, own n l = own n r) : jointOf l = jointOf r := by
  unfold jointOf
  have e : (fun n => own n l) = fun n => own n r := funext h
  have e1 : (∀ n, (effOf (own n l)).isSome = true) = ∀ n, (effOf (own n r)).isSome = true := by
    exact forall_congr fun n => by rw [h n]
  have e2 : (fun n => (effOf (own n l)).getD SE.one) = fun n => (effOf (own n r)).getD SE.one := funext fun n => by rw [h n]
  by_cases c : ∀ n, (effOf (own n l)).isSome = true
  · rw [if_pos c, if_pos (e1 ▸ c), e2]
  · rw [if_neg c, if_neg (e1 ▸ c)]
theorem jointOf_some {l : List (M × Stp L)} (h : ∀ n, (effOf (own n l)).isSome = true) : jointOf l = some fun n => (effOf (own n l)).getD SE.one := if_pos h
theorem jointOf_none {l : List (M × Stp L)} {n : M} (h : effOf (own n l) = none) : jointOf l = none := if_neg (fun q => by have := q n; rw [h] at this; cases this)
theorem isSome_bind {α β : Type} {o : Option α} {f : α → Option β} (h : (o.bind f).isSome = true) : ∃ a, o = some a ∧ (f a).isSome = true := by
  cases o with
  | none => cases h
  | some a => exact ⟨a, rfl, h⟩
open Classical in
/-- the joint effect of two lines joined -/
theorem joint_append (l r : List (M × Stp L)) : compJ (jointOf l) (jointOf r) = jointOf (l ++ r) := by
  by_cases hl : ∀ n, (effOf (own n l)).isSome = true
  · by_cases hr : ∀ n, (effOf (own n r)).isSome = true
    · rw [jointOf_some hl, jointOf_some hr]
      have key : ∀ n, effOf (own n (l ++ r)) = ((effOf (own n l)).getD SE.one).comp ((effOf (own n r)).getD SE.one) := fun n => by
        rw [own_append, eff_append]
        obtain ⟨e, he⟩ := Option.isSome_iff_exists.mp (hl n)
        obtain ⟨f, hf⟩ := Option.isSome_iff_exists.mp (hr n)
        rw [he, hf]
        rfl
      show (if ∀ n, (((effOf (own n l)).getD SE.one).comp ((effOf (own n r)).getD SE.one)).isSome then some fun n => (((effOf (own n l)).getD SE.one).comp ((effOf (own n r)).getD SE.one)).getD SE.one else none) = _
      by_cases c : ∀ n, (((effOf (own n l)).getD SE.one).comp ((effOf (own n r)).getD SE.one)).isSome = true
      · rw [if_pos c, jointOf_some (fun n => by rw [key n]; exact c n)]
        exact congrArg some (funext fun n => by rw [key n])
      · rw [if_neg c]
        refine Eq.symm (if_neg fun q => c fun n => ?_)
        rw [← key n]
        exact q n
    · have e : jointOf r = none := if_neg hr
      have e2 : jointOf (l ++ r) = none := by
        refine if_neg fun q => hr fun n => ?_
        have := q n
        rw [own_append, eff_append] at this
        obtain ⟨a, _, h2⟩ := isSome_bind this
        obtain ⟨b, h3, _⟩ := isSome_bind h2
        rw [h3]
        rfl
      rw [e, e2]
      cases jointOf l <;> rfl
  · have e : jointOf l = none := if_neg hl
    have e2 : jointOf (l ++ r) = none := by
      refine if_neg fun q => hl fun n => ?_
      have := q n
      rw [own_append, eff_append] at this
      obtain ⟨a, h3, _⟩ := isSome_bind this
      rw [h3]
      rfl
    rw [e, e2]
    rfl
theorem compJ_assoc (l m r : List (M × Stp L)) : compJ (jointOf l) (compJ (jointOf m) (jointOf r)) = jointOf (l ++ m ++ r) := by rw [joint_append, joint_append, List.append_assoc]
open Classical in
theorem compJ_one_r {f : M → SE L} : compJ (some f) (some fun _ => SE.one) = some f := by
  show (if ∀ n, ((f n).comp SE.one).isSome then some fun n => ((f n).comp SE.one).getD SE.one else none) = some f
  rw [if_pos (fun n => by rw [comp_one]; rfl)]
  exact congrArg some (funext fun n => by rw [comp_one]; rfl)
open Classical in
theorem compJ_one_l {f : M → SE L} (h : ∀ n, (f n).Norm) : compJ (some fun _ => SE.one) (some f) = some f := by
  show (if ∀ n, (SE.one.comp (f n)).isSome then some fun n => (SE.one.comp (f n)).getD SE.one else none) = some f
  rw [if_pos (fun n => by rw [one_comp (h n)]; rfl)]
  exact congrArg some (funext fun n => by rw [one_comp (h n)]; rfl)
theorem joint_norm {l : List (M × Stp L)} {f : M → SE L} (h : jointOf l = some f) (n : M) : (f n).Norm := by
  by_cases c : ∀ n, (effOf (own n l)).isSome = true
  · rw [jointOf_some c] at h
    have e := congrFun (Option.some.inj h) n
    rw [← e]
    obtain ⟨x, hx⟩ := Option.isSome_iff_exists.mp (c n)
    rw [hx]
    exact norm_eff hx
  · have : jointOf l = none := if_neg c
    rw [this] at h
    cases h

/-! ### runs -/
/-- the letters and the head -/
abbrev Pl (L : Type) := (Int → L) × Int
def pset (T : Int → L) (i : Int) (z : L) : Int → L := fun j => if j = i then z else T j
def rstep (p : Pl L) : Stp L → Option (Pl L)
  | .left => some (p.1, p.2 - 1)
  | .right => some (p.1, p.2 + 1)
  | .wr z => some (pset p.1 p.2 z, p.2)
  | .ex z => if p.1 p.2 = z then some p else none
def runT (p : Pl L) : List (Stp L) → Option (Pl L)
  | [] => some p
  | s :: r => (rstep p s).bind fun q => runT q r
theorem runT_append (p : Pl L) (l r : List (Stp L)) : runT p (l ++ r) = (runT p l).bind fun q => runT q r := by
  induction l generalizing p with
  | nil => rfl
  | cons s l ih =>
    show (rstep p s).bind (fun q => runT q (l ++ r)) = ((rstep p s).bind fun q => runT q l).bind fun q => runT q r
    cases rstep p s with
    | none => rfl
    | some q => exact ih q
/-- e applies to (T, h) -/
def Appl (e : SE L) (p : Pl L) : Prop := ∀ i z, e.N i = some z → p.1 (p.2 + i) = z
/-- where e leads (T, h) -/
def leads (e : SE L) (p : Pl L) : Pl L := (fun j => (e.C (j - p.2)).getD (p.1 j), p.2 + e.m)
open Classical in
noncomputable def applyE (e : SE L) (p : Pl L) : Option (Pl L) := if Appl e p then some (leads e p) else none
theorem leads_get {e : SE L} {p : Pl L} (h : Appl e p) (i : Int) (y : L) (k : e.K i = some y) : (leads e p).1 (p.2 + i) = y := by
  show (e.C (p.2 + i - p.2)).getD (p.1 (p.2 + i)) = y
  rw [show p.2 + i - p.2 = i by omega]
  unfold SE.K at k
  cases c : e.C i with
  | some z =>
    rw [c] at k
    cases k
    rfl
  | none =>
    rw [c] at k
    exact h i y k
theorem leads_free {e : SE L} {p : Pl L} (i : Int) (k : e.K i = none) : (leads e p).1 (p.2 + i) = p.1 (p.2 + i) := by
  show (e.C (p.2 + i - p.2)).getD (p.1 (p.2 + i)) = _
  rw [show p.2 + i - p.2 = i by omega, (K_none k).1]
  rfl
theorem apply_step (e : SE L) (p : Pl L) (s : Stp L) : ((applyE e p).bind fun q => rstep q s) = (e.step s).bind fun e' => applyE e' p := by
  by_cases a : Appl e p
  · have e1 : applyE e p = some (leads e p) := if_pos a
    rw [e1]
    cases s with
    | left =>
      show some _ = applyE _ p
      refine Eq.symm ((if_pos a : applyE (⟨e.N, e.C, e.m - 1⟩ : SE L) p = _).trans (congrArg some ?_))
      show (_, p.2 + (e.m - 1)) = (_, p.2 + e.m - 1)
      rw [show p.2 + (e.m - 1) = p.2 + e.m - 1 by omega]
      rfl
    | right =>
      show some _ = applyE _ p
      refine Eq.symm ((if_pos a : applyE (⟨e.N, e.C, e.m + 1⟩ : SE L) p = _).trans (congrArg some ?_))
      show (_, p.2 + (e.m + 1)) = (_, p.2 + e.m + 1)
      rw [show p.2 + (e.m + 1) = p.2 + e.m + 1 by omega]
      rfl
    | wr z =>
      show some (pset (leads e p).1 (p.2 + e.m) z, p.2 + e.m) = applyE (e.write e.m z) p
      have a' : Appl (e.write e.m z) p := a
      rw [show applyE (e.write e.m z) p = some (leads (e.write e.m z) p) from if_pos a']
      refine congrArg some ?_
      refine Prod.ext (funext fun j => ?_) rfl
      show (if j = p.2 + e.m then z else (e.C (j - p.2)).getD (p.1 j)) = (fset e.C e.m (if e.N e.m = some z then none else some z) (j - p.2)).getD (p.1 j)
      by_cases q : j = p.2 + e.m
      · rw [if_pos q, show j - p.2 = e.m by omega, fset_same]
        by_cases w : e.N e.m = some z
        · rw [if_pos w, q]
          exact (a _ _ w).symm
        · rw [if_neg w]
          rfl
      · rw [if_neg q, fset_ne _ _ (by omega)]
    | ex z =>
      show (if (leads e p).1 (p.2 + e.m) = z then some (leads e p) else none) = (e.expect e.m z).bind fun e' => applyE e' p
      unfold SE.expect
      cases k : e.K e.m with
      | some y =>
        rw [leads_get a _ _ k]
        show _ = (if y = z then some e else none).bind _
        by_cases q : y = z
        · rw [if_pos q, if_pos q]
          exact e1.symm
        · rw [if_neg q, if_neg q]
          rfl
      | none =>
        rw [leads_free _ k]
        show _ = applyE ⟨fset e.N e.m (some z), e.C, e.m⟩ p
        by_cases q : p.1 (p.2 + e.m) = z
        · rw [if_pos q]
          have a' : Appl (⟨fset e.N e.m (some z), e.C, e.m⟩ : SE L) p := fun i x hx => by
            have hx' : fset e.N e.m (some z) i = some x := hx
            by_cases w : i = e.m
            · subst w
              rw [fset_same] at hx'
              rw [← Option.some.inj hx']
              exact q
            · rw [fset_ne _ _ w] at hx'
              exact a i x hx'
          exact (if_pos a').symm
        · rw [if_neg q]
          refine (if_neg fun a' => q ?_).symm
          exact a' e.m z (fset_same ..)
  · have e1 : applyE e p = none := if_neg a
    rw [e1]
    show none = _
    cases h : e.step s with
    | none => rfl
    | some e' =>
      show none = applyE e' p
      refine (if_neg fun a' => a fun i z hz => ?_).symm
      have hN : e'.N i = some z := by
        cases s with
        | left => rw [← Option.some.inj h]; exact hz
        | right => rw [← Option.some.inj h]; exact hz
        | wr y => rw [← Option.some.inj h]; exact hz
        | ex y =>
          have h' : e.expect e.m y = some e' := h
          unfold SE.expect at h'
          cases k : e.K e.m with
          | none =>
            rw [k] at h'
            rw [← Option.some.inj h']
            show fset e.N e.m (some y) i = some z
            have : i ≠ e.m := fun q => by
              rw [q, (K_none k).2] at hz
              cases hz
            rw [fset_ne _ _ this]
            exact hz
          | some x =>
            rw [k] at h'
            dsimp only at h'
            by_cases q : x = y
            · rw [if_pos q] at h'
              rw [← Option.some.inj h']
              exact hz
            · rw [if_neg q] at h'
              cases h'
      exact a' i z hN
theorem apply_run (p : Pl L) (l : List (Stp L)) (e : SE L) : ((applyE e p).bind fun q => runT q l) = (runE e l).bind fun e' => applyE e' p := by
  induction l generalizing e with
  | nil =>
    show (applyE e p).bind some = applyE e p
    cases applyE e p <;> rfl
  | cons s l ih =>
    show ((applyE e p).bind fun q => (rstep q s).bind fun q => runT q l) = ((e.step s).bind fun e' => runE e' l).bind fun e' => applyE e' p
    have h1 : ((applyE e p).bind fun q => (rstep q s).bind fun q => runT q l) = ((applyE e p).bind fun q => rstep q s).bind fun q => runT q l := by
      cases applyE e p <;> rfl
    rw [h1, apply_step]
    cases e.step s with
    | none => rfl
    | some e' => exact ih e'
/-- a run is what the effect does -/
theorem run_is (p : Pl L) (l : List (Stp L)) : runT p l = (effOf l).bind fun e => applyE e p := by
  have h := apply_run p l SE.one
  have e1 : applyE (SE.one : SE L) p = some p := by
    have a : Appl (SE.one : SE L) p := fun i z hz => by cases hz
    refine (if_pos a).trans (congrArg some ?_)
    refine Prod.ext rfl ?_
    show p.2 + 0 = p.2
    omega
  rw [e1] at h
  exact h
end
end TE
end
section
set_option autoImplicit false
set_option maxHeartbeats 4000000
/-! Places; the sequences by name. -/
namespace TX
open PySem PySem.Spec PyProof.Rows L2 He TE
abbrev Line := List (PStr × Step)
/-- the dict of the sequences, while it grows -/
structure FoundAt (K : PySem.W.Frag) (H0 H : Hp) (d : Addr) (kvs : List (Key × V)) (ln : Line) : Prop where
  at_ : H d = some (.dK kvs)
  new : H0 d = none
  nd : (kvs.map (·.1)).Nodup
  sh : ∀ p ∈ kvs, ∃ n a vs, p = (Sum.inr n, V.ref a) ∧ H0 a = none ∧ a ≠ d ∧ H a = some (.lst vs) ∧ Paired (StpAt K H0) vs (own n ln) ∧ own n ln ≠ []
  inj : ∀ n n' a, (Sum.inr n, V.ref a) ∈ kvs → (Sum.inr n', V.ref a) ∈ kvs → n = n'
  all : ∀ n, own n ln ≠ [] → ∃ a, (Sum.inr n, V.ref a) ∈ kvs
  len : kvs.length ≤ ln.length
/-- the dict of the sequences, done -/
def SbN (K : PySem.W.Frag) (H : Hp) (kvs : List (Key × V)) (ln : Line) : Prop := (kvs.map (·.1)).Nodup ∧ kvs.length ≤ ln.length ∧ (∀ p ∈ kvs, ∃ n a, p = (Sum.inr n, V.ref a) ∧ StsAt K H a (own n ln)) ∧ ∀ n, own n ln ≠ [] → ∃ a, (Sum.inr n, V.ref a) ∈ kvs
theorem inr_inj {ks : List PStr} (h : (ks.map (Sum.inr : PStr → Key)).Nodup) : ks.Nodup := by
  induction ks with
  | nil => exact .nil
  | cons a r ih =>
    rw [List.map_cons, List.nodup_cons] at h
    rw [List.nodup_cons]
    exact ⟨fun hm => h.1 (List.mem_map.mpr ⟨a, hm, rfl⟩), ih h.2⟩
theorem inr_keys {kvs : List (Key × V)} (sh : ∀ p ∈ kvs, ∃ n v, p = (Sum.inr n, v)) : ∃ ks : List PStr, kvs.map (·.1) = ks.map Sum.inr ∧ ks.length = kvs.length := by
  induction kvs with
  | nil => exact ⟨[], rfl, rfl⟩
  | cons p r ih =>
    obtain ⟨ks, e1, e2⟩ := ih fun p hp => sh p (List.mem_cons_of_mem _ hp)
    obtain ⟨n, v, e⟩ := sh p List.mem_cons_self
    exact ⟨n :: ks, by rw [List.map_cons, List.map_cons, e1, e], by rw [List.length_cons, List.length_cons, e2]⟩
theorem own_snoc (n : PStr) (l : Line) (p : PStr × Step) : own n (l ++ [p]) = own n l ++ if p.1 = n then [p.2] else [] := by rw [own_append, own_one]
section
variable {P : Program} {w : World} {K : PySem.W.Frag} {mg : PStr → Option Value} {base : Heap}
theorem sc31 : FnScope ["candidate", "tape", "head"] ["candidate"] (defScope s31) := ⟨rfl, rfl, rfl, by decide +kernel, rfl, by decide +kernel, by decide +kernel⟩
def PlAt (K : PySem.W.Frag) (H : Hp) (v : V) (b : PStr) (T : Int → PStr) (h : Int) (n : Nat) : Prop := ∃ p t, v = .ref p ∧ H p = some (.tup [t, .int h]) ∧ TapeAt K H t b T n
theorem PlAt.same {H H' : Hp} {v : V} {b : PStr} {T : Int → PStr} {h : Int} {n : Nat} (x : PlAt K H v b T h n) (s : Same H H') : PlAt K H' v b T h n := by
  obtain ⟨p, t, e, h1, h2⟩ := x
  exact ⟨p, t, e, s _ _ h1, h2.same s⟩
def spPlace (K : PySem.W.Frag) : Sp := fun vs H Q _ => ∃ v b Tf h n, vs = [v] ∧ PlAt K H v b Tf h n ∧ Q (.bl true) H

theorem ok_is_place (T : Txt P K mg) : Dfn P w K mg base 2 "is_place" (spPlace K) := by
  refine dfnN T 11 (d := d31) rfl "is_place" (by decide +kernel) rfl rfl sc31 (fun _ _ _ _ _ _ us hl => match us, hl with | [_], _ => rfl) (fun vs H Q E h => ?_) (fun f cdv A outer s H vs Q E hr h => ?_)
  · obtain ⟨v, b, Tf, hh, n, rfl, _⟩ := h
    rfl
  · refine ⟨_, (pss_cons (ps_if (PW.pt (pw_or (pt_not (pt_val (pe_callB call_isi (by rfl) (T.fre "isinstance" (by decide +kernel)) (by decide +kernel) (pa_cons (pv 0) (pa_cons (pe_bltn (v := .ty "tuple") (by rfl) (T.fre "tuple" (by decide +kernel)) (by decide +kernel) rfl) pa_nil))))) (pw_or1 (pt_cmpR op_ne (pe_callB call_len_seq (by rfl) (T.fre "len" (by decide +kernel)) PySem.boot_len (pa_cons (pv 0) pa_nil)) pe_int (nomark _))))) (pss_one (ps_ret pe_bl)) pss_nil) (pss_cons (ps_asg (pv 0) (pg_tup (by rfl) (pgs_cons (pg_name (i := 1) sc31.nd rfl (.inl rfl)) (pgs_cons (pg_name (i := 2) sc31.nd rfl (.inl rfl)) pgs_nil)))) (pss_one (ps_ret (pe_and (pe_callB (C8.call_isC (T.isC "Tape" (by decide +kernel))) (by rfl) (T.fre "isinstance" (by decide +kernel)) (by decide +kernel) (pa_cons (pv 1) (pa_cons (pe_glob (v := .ref (ga K "Tape")) (by rfl) (T.glo "Tape" (by decide +kernel)) rfl) pa_nil))) (pe_one (pe_d (ok_is_integer T) hr (by decide) (by rfl) (pa_cons (pv 2) pa_nil)))))))), ?_⟩
    obtain ⟨v, b, Tf, hh, n, rfl, ⟨p, t, rfl, hp, ht⟩, hQ⟩ := h
    obtain ⟨ta, tdx, tfs, tq, tkv, tf, rfl, tha, _⟩ := id ht
    refine ⟨_, rfl, _, _, _, _, true, rfl, .ty _, .base (.tup hp), kit_ty (by decide +kernel), true, rfl, iteF ?_⟩
    refine ⟨_, rfl, p, _, rfl, .inr (SqT.of hp), rfl, false, rfl, iteF ?_⟩
    refine ⟨_, rfl, p, _, rfl, SqT.of hp, rfl, _, _, rfl, _, _, rfl, rfl, ?_⟩
    exact ⟨_, rfl, ta, tdx, tfs, rfl, tha, true, rfl, iteT ⟨_, rfl, hh, rfl, hQ⟩⟩
/-! ### steps_by_name -/
theorem sc40 : FnScope ["steps", "found", "name", "step"] ["steps"] (defScope s40) := ⟨rfl, rfl, rfl, by decide +kernel, rfl, by decide +kernel, by decide +kernel⟩
def spSbN (K : PySem.W.Frag) : Sp := fun vs H Q _ => ∃ a ln, vs = [.ref a] ∧ LineAt K H a ln ∧ ln.length < 64 ∧ ∀ H' d kvs, Same H H' → H d = none → H' d = some (.dK kvs) → SbN K H' kvs ln → Q (.ref d) H'

theorem ok_steps_by_name (T : Txt P K mg) : Dfn P w K mg base 1 "steps_by_name" (spSbN K) := by
  refine dfnN T 16 (d := d40) rfl "steps_by_name" (by decide +kernel) rfl rfl sc40 (fun _ _ _ _ _ _ us hl => match us, hl with | [_], _ => rfl) (fun vs H Q E h => ?_) (fun f cdv A outer s H vs Q E hr h => ?_)
  · obtain ⟨a, ln, rfl, _⟩ := h
    rfl
  · refine ⟨_, (pss_cons (ps_set (i := 1) sc40.nd rfl (.inr rfl) pe_dnewK) (pss_cons (ps_for (passes_of rfl) rfl (pi_list (pv 0)) (pg_tup (by rfl) (pgs_cons (pg_name (i := 2) sc40.nd rfl (.inl rfl)) (pgs_cons (pg_name (i := 3) sc40.nd rfl (.inl rfl)) pgs_nil))) (pss_one (ps_expr (pe_bm PySem.F.plainAttrs_list PySem.F.slot_list_append PySem.F.type_list_append mt_append (pe_dsetd (pv 1) (pv 2) (pe_lst pa_nil) ⟨by rfl, by rfl, by rfl, by rfl⟩) (pa_cons (pv 3) pa_nil))))) (pss_one (ps_ret (pe_dc (own := [("name", 2)]) (g := (gName 2)) (tt := tYes) rfl sc40.nd (pi_list (pe_callB (call_sortedD rfl) (by rfl) (T.fre "sorted" (by decide +kernel)) (by decide +kernel) (pa_cons (pv 1) pa_nil))) (blkOk_by (own := [("name", 2)]) (N := ["steps", "found", "name", "step"]) (sc := defScope s40) (by decide +kernel)) (fun _ _ _ _ _ => (pg_name (i := 2) sc40.nd rfl (.inl rfl))) (fun _ _ _ _ _ => pts_nil) (fun _ _ _ _ _ => (pv 2)) (fun _ _ _ _ _ => (pe_dget (hu_of hr) (pv 1) (pv 2) (fun _ _ => rfl)))))))), ?_⟩
    obtain ⟨a, ln, rfl, ⟨vs, hv, pr⟩, hlen, hQ⟩ := h
    intro d hd
    have nad : a ≠ d := ne_free hv hd
    refine ⟨_, rfl, a, rfl, ⟨vs, SqL.of (by rw [upd_ne nad]; exact hv)⟩, ?_⟩
    refine for_it walk_list (fun i σ H' => (∃ c2 c3, σ = [some (.ref a), some (.ref d), c2, c3]) ∧ Same H H' ∧ ∃ kvs, FoundAt K H H' d kvs (ln.take i))
      ⟨⟨none, none, rfl⟩, Ext.upd hd, [], upd_same, hd, .nil, fun _ h => (by cases h), fun _ _ _ h => (by cases h), fun n h => absurd rfl h, Nat.le_refl _⟩ (fun i σ H' _ z => SqL.of (z.2.1 _ _ hv)) (fun i x σ H1 H2 hi z y => ?_) (fun σ H1 z => ?_)
    · obtain ⟨⟨c2, c3, rfl⟩, zs, kvs, F⟩ := z
      obtain ⟨rfl, hy⟩ := y
      obtain ⟨⟨n, st⟩, hst, ⟨ta, v', rfl, hta, hs, hw⟩⟩ := paired_at1 pr hy
      have tk : ln.take (i + 1) = ln.take i ++ [(n, st)] := take_snoc hst
      refine ⟨ta, _, rfl, SqT.of (zs _ _ hta), rfl, _, _, rfl, _, _, rfl, rfl, ?_⟩
      refine ⟨_, rfl, d, rfl, .inl ⟨kvs, .inl F.at_⟩, _, rfl, Nat.zero_le _, fun p hp => ?_⟩
      have ndp : d ≠ p := ne_free F.at_ hp
      have hlnk : kvs.length < sizeLine := by have := F.len; rw [List.length_take] at this; rw [sizeLine_eq]; omega
      refine ⟨kvs, Sum.inr n, by rw [upd_ne ndp]; exact F.at_, rfl, hlnk, fun v hv' => ?_, fun hv' => ?_⟩
      · -- the name is there
        have hm := valV_mem hv'
        obtain ⟨n', l, ws, e, hl0, hld, hl, pl, hne⟩ := F.sh _ hm
        cases e
        have nlp : l ≠ p := ne_free hl hp
        have hl' : upd H2 p (.lst []) l = some (.lst ws) := by rw [upd_ne nlp]; exact hl
        have hwl : ws.length ≤ 64 := by
          have := pl.length
          have h2 := own_len n (ln.take i)
          rw [List.length_take] at h2
          omega
        refine ⟨.inl ⟨rfl, _, SqL.of hl'⟩, _, rfl, l, ws, _, rfl, rfl, hl', by rw [sizeLine_eq]; omega, ⟨_, _, rfl⟩, Same.put (Same.new zs hp) hl0, kvs, ?_⟩
        have pl' : Paired (StpAt K H) (ws ++ [v']) (own n (ln.take (i + 1))) := by
          rw [tk, own_snoc, if_pos rfl]
          exact paired_app pl (.cons hs .nil)
        refine ⟨by rw [upd_ne (Ne.symm hld), upd_ne ndp]; exact F.at_, F.new, F.nd, fun q hq => ?_, F.inj, fun m hm' => ?_, Nat.le_trans F.len (by rw [tk, List.length_append]; omega)⟩
        · obtain ⟨m, b, us, e, hb0, hbd, hb, pb, hbe⟩ := F.sh q hq
          subst e
          by_cases hmn : m = n
          · subst hmn
            have : b = l := by
              have := (valV_of_mem F.nd hq).symm.trans hv'
              cases this
              rfl
            subst this
            refine ⟨m, b, ws ++ [v'], rfl, hb0, hbd, upd_same, pl', by rw [tk, own_snoc, if_pos rfl]; simp⟩
          · have nbl : b ≠ l := fun e => hmn (F.inj m n b hq (by rw [e]; exact hm))
            have hbp : b ≠ p := ne_free hb hp
            refine ⟨m, b, us, rfl, hb0, hbd, by rw [upd_ne nbl, upd_ne hbp]; exact hb, ?_, ?_⟩
            · rw [tk, own_snoc, if_neg (fun e => hmn e.symm), List.append_nil]
              exact pb
            · rw [tk, own_snoc, if_neg (fun e => hmn e.symm), List.append_nil]
              exact hbe
        · by_cases hmn : n = m
          · subst hmn
            exact ⟨l, hm⟩
          · rw [tk, own_snoc, if_neg hmn, List.append_nil] at hm'
            exact F.all m hm'
      · -- a new name
        have hown : own n (ln.take i) = [] := by
          cases q : own n (ln.take i) with
          | nil => rfl
          | cons x r =>
            obtain ⟨b, hb⟩ := F.all n (by rw [q]; exact List.cons_ne_nil _ _)
            rw [valV_of_mem F.nd hb] at hv'
            cases hv'
        have hp0 : H p = none := zs.free hp
        have hpl : upd (upd H2 p (.lst [])) d (.dK (putK kvs (Sum.inr n) (.ref p))) p = some (.lst []) := by rw [upd_ne (Ne.symm ndp)]; exact upd_same
        refine ⟨.inl ⟨rfl, _, SqL.of hpl⟩, _, rfl, p, [], _, rfl, rfl, hpl, by rw [sizeLine_eq]; decide, ⟨_, _, rfl⟩, Same.put (Same.put (Same.new zs hp) F.new) hp0, putK kvs (Sum.inr n) (.ref p), ?_⟩
        have hpk : putK kvs (Sum.inr n) (.ref p) = kvs ++ [(Sum.inr n, .ref p)] := putK_new _ hv'
        refine ⟨by rw [upd_ne ndp]; exact upd_same, F.new, nd_put F.nd, fun q hq => ?_, fun m m' b hm1 hm2 => ?_, fun m hm' => ?_, ?_⟩
        · rw [hpk] at hq
          rcases List.mem_append.mp hq with hq | hq
          · obtain ⟨m, b, us, e, hb0, hbd, hb, pb, hbe⟩ := F.sh q hq
            subst e
            have hmn : ¬ n = m := fun e => hbe (by rw [← e]; exact hown)
            have hbp : b ≠ p := ne_free hb hp
            refine ⟨m, b, us, rfl, hb0, hbd, by rw [upd_ne hbp, upd_ne hbd, upd_ne hbp]; exact hb, ?_, ?_⟩
            · rw [tk, own_snoc, if_neg hmn, List.append_nil]
              exact pb
            · rw [tk, own_snoc, if_neg hmn, List.append_nil]
              exact hbe
          · have := List.mem_singleton.mp hq
            subst this
            refine ⟨n, p, [v'], rfl, hp0, Ne.symm ndp, upd_same, ?_, ?_⟩
            · rw [tk, own_snoc, if_pos rfl, hown]
              exact .cons hs .nil
            · rw [tk, own_snoc, if_pos rfl, hown]
              exact List.cons_ne_nil _ _
        · rw [hpk] at hm1 hm2
          rcases List.mem_append.mp hm1 with h1 | h1
          · rcases List.mem_append.mp hm2 with h2 | h2
            · exact F.inj m m' b h1 h2
            · have e2 := List.mem_singleton.mp h2
              cases e2
              obtain ⟨_, _, us, e, _, _, hb, _⟩ := F.sh _ h1
              cases e
              exact absurd rfl (ne_free hb hp)
          · have e1 := List.mem_singleton.mp h1
            cases e1
            rcases List.mem_append.mp hm2 with h2 | h2
            · obtain ⟨_, _, us, e, _, _, hb, _⟩ := F.sh _ h2
              cases e
              exact absurd rfl (ne_free hb hp)
            · have e2 := List.mem_singleton.mp h2
              cases e2
              rfl
        · rw [hpk]
          by_cases hmn : n = m
          · subst hmn
            exact ⟨p, List.mem_append_right _ (List.mem_singleton.mpr rfl)⟩
          · rw [tk, own_snoc, if_neg hmn, List.append_nil] at hm'
            obtain ⟨b, hb⟩ := F.all m hm'
            exact ⟨b, List.mem_append_left _ hb⟩
        · rw [hpk, tk, List.length_append, List.length_append]
          exact Nat.add_le_add_right F.len 1
    · obtain ⟨⟨c2, c3, rfl⟩, zs, kvs, F⟩ := z
      have etk : ln.take vs.length = ln := by rw [pr.length, List.take_length]
      rw [etk] at F
      obtain ⟨ks, k1, k2⟩ := inr_keys (fun p hp => let ⟨n, a, _, e, _⟩ := F.sh p hp; ⟨n, .ref a, e⟩)
      have hkl : ks.length < 64 := by rw [k2]; exact Nat.lt_of_le_of_lt F.len hlen
      refine ⟨_, rfl, d, kvs, ks, rfl, .inl F.at_, k1, hkl, fun ys p pm _ hp => ?_⟩
      have ndp : d ≠ p := ne_free F.at_ hp
      refine ⟨p, rfl, ⟨_, SqL.of upd_same⟩, fun D hD => ?_⟩
      have hnd : ys.Nodup := pm.nodup_iff.mpr (inr_inj (by rw [← k1]; exact F.nd))
      have hD1 : H1 D = none := by
        by_cases q : D = p
        · rw [q]; exact hp
        · rw [upd_ne q] at hD; exact hD
      refine dc_it walk_list (fun i H' => Same (upd H1 p (.lst (ys.map V.str))) H' ∧ ∃ acc, H' D = some (.dK acc) ∧ (acc.map (·.1)) = (ys.take i).map Sum.inr ∧ ∀ q ∈ acc, q ∈ kvs) ⟨Same.new (Same.refl _) hD, [], upd_same, rfl, fun _ h => (by cases h)⟩ (fun i H' _ z => SqL.of (z.1 _ _ upd_same)) (fun i x H2 H3 hi z y => ?_) (fun H' z => ?_)
      · obtain ⟨rfl, hx⟩ := y
        obtain ⟨y, hy, rfl⟩ : ∃ y, ys[i]? = some y ∧ x = .str y := by
          rw [List.getElem?_map] at hx
          obtain ⟨y, hy, e⟩ := Option.map_eq_some_iff.mp hx
          exact ⟨y, hy, e.symm⟩
        obtain ⟨qs, acc, hacc, ka, sub⟩ := z
        have hin : (Sum.inr y : Key) ∈ kvs.map (·.1) := by
          rw [k1]
          exact List.mem_map.mpr ⟨y, pm.mem_iff.mp (List.mem_of_getElem? hy), rfl⟩
        obtain ⟨⟨k', u⟩, hq, ek⟩ := List.mem_map.mp hin
        have ek' : k' = Sum.inr y := ek
        subst ek'
        have hG : valV kvs (Sum.inr y) = some u := valV_of_mem F.nd hq
        have hda : H3 d = some (.dK kvs) := qs _ _ (by rw [upd_ne ndp]; exact F.at_)
        have hn : valV acc (Sum.inr y) = none := by
          cases q : valV acc (Sum.inr y) with
          | none => rfl
          | some v =>
            have hm : (Sum.inr y : Key) ∈ acc.map (·.1) := List.mem_map.mpr ⟨_, valV_mem q, rfl⟩
            rw [ka] at hm
            obtain ⟨y', hy', e⟩ := List.mem_map.mp hm
            cases e
            exact absurd hy' (not_take hnd hy)
        have hal : acc.length ≤ i := by
          have := congrArg List.length ka
          rw [List.length_map, List.length_map, List.length_take] at this
          omega
        have hil : i < 64 := by
          rw [List.length_map] at hi
          have := pm.length_eq
          omega
        refine ⟨rfl, _, rfl, _, rfl, _, rfl, d, u, rfl, .inl ⟨kvs, Sum.inr y, .inl hda, rfl, hG.symm⟩, acc, Sum.inr y, rfl, hacc, by rw [sizeLine_eq]; omega, Same.put qs hD, _, upd_same, ?_, fun q hq' => ?_⟩
        · rw [putK_new _ hn, List.map_append, ka, take_snoc hy, List.map_append]
          rfl
        · rw [putK_new _ hn] at hq'
          rcases List.mem_append.mp hq' with h | h
          · exact sub q h
          · rw [List.mem_singleton.mp h]
            exact hq
      · obtain ⟨qs, acc, hacc, ka, sub⟩ := z
        rw [List.length_map, List.take_length] at ka
        have e4 : Same H H' := (Same.new zs hp).trans qs
        have mem : ∀ n a, (Sum.inr n, V.ref a) ∈ kvs → (Sum.inr n, V.ref a) ∈ acc := fun n a hm => by
          have hk : (Sum.inr n : Key) ∈ acc.map (·.1) := by
            rw [ka]
            have : (Sum.inr n : Key) ∈ kvs.map (·.1) := List.mem_map.mpr ⟨_, hm, rfl⟩
            rw [k1] at this
            obtain ⟨y, hy, e⟩ := List.mem_map.mp this
            exact List.mem_map.mpr ⟨y, pm.mem_iff.mpr hy, e⟩
          obtain ⟨⟨k', u⟩, hq, ek⟩ := List.mem_map.mp hk
          have ek' : k' = Sum.inr n := ek
          subst ek'
          have := (valV_of_mem F.nd (sub _ hq)).symm.trans (valV_of_mem F.nd hm)
          cases this
          exact hq
        refine hQ H' D acc e4 (zs.free hD1) hacc ⟨?_, ?_, fun q hq => ?_, fun n hn => ?_⟩
        · rw [ka]
          have : (kvs.map (·.1)).Nodup := F.nd
          rw [k1] at this
          exact (pm.map Sum.inr).nodup_iff.mpr this
        · have := congrArg List.length ka
          rw [List.length_map, List.length_map, pm.length_eq, k2] at this
          rw [this]
          exact F.len
        · obtain ⟨n, l, ws, e, hl0, hld, hl, pl, _⟩ := F.sh q (sub q hq)
          exact ⟨n, l, e, ws, qs _ _ (by rw [upd_ne (ne_free hl hp)]; exact hl), paired_imp pl fun _ _ h => h.same e4⟩
        · obtain ⟨l, hl⟩ := F.all n hn
          exact ⟨l, mem n l hl⟩
end
end TX
end
section
set_option autoImplicit false
set_option maxHeartbeats 4000000
/-! Joint effects. -/
namespace TX
open PySem PySem.Spec PyProof.Rows L2 He TE
theorem EffAt.mono {K : PySem.W.Frag} {H : Hp} {v : V} {e : SE PStr} {n m : Nat} (h : EffAt K H v e n) (l : n ≤ m) : EffAt K H v e m := by
  obtain ⟨a, dx, fs, p, q, kn, kc, e0, h1, h2, h3, h4, h5, h6, h7, L, L', r⟩ := h
  exact ⟨a, dx, fs, p, q, kn, kc, e0, h1, h2, h3, h4, h5, h6, h7, L.mono l, L'.mono l, r⟩
theorem EffAt.norm {K : PySem.W.Frag} {H : Hp} {v : V} {e : SE PStr} {n : Nat} (h : EffAt K H v e n) : e.Norm := by
  obtain ⟨a, dx, fs, p, q, kn, kc, e0, h1, h2, h3, h4, h5, h6, h7, L, L', r⟩ := h
  exact r
theorem EffAt.isRef {K : PySem.W.Frag} {H : Hp} {v : V} {e : SE PStr} {n : Nat} (h : EffAt K H v e n) : ∃ a dx fs, v = .ref a ∧ H a = some (.ins (ga K "Effect") dx fs) ∧ fs.map (·.1) = (["needs", "puts", "move"] : List PStr) := by
  obtain ⟨a, dx, fs, p, q, kn, kc, e0, h1, h2, h3, h4, h5, h6, h7, L, L', r⟩ := h
  exact ⟨a, dx, fs, e0, h1, h5⟩
theorem EffAt.nonN {K : PySem.W.Frag} {H : Hp} {v : V} {e : SE PStr} {n : Nat} (h : EffAt K H v e n) : decide (v = V.non) = false := by
  obtain ⟨a, dx, fs, e, _⟩ := h.isRef
  rw [e]
  exact decide_eq_false (by intro q; cases q)
/-- while a dict with a text key is locked -/
theorem EffAt.lock {K : PySem.W.Frag} {H : Hp} {v : V} {e : SE PStr} {n : Nat} {d : Addr} {kvs : List (Key × V)} {od : Obj} {nm : PStr} {u : V} (h : EffAt K H v e n) (hd : H d = some (.dK kvs)) (hk : (Sum.inr nm, u) ∈ kvs) : EffAt K (upd H d (.frz od (.dK kvs))) v e n := by
  obtain ⟨a, dx, fs, p, q, kn, kc, e0, h1, h2, h3, h4, h5, h6, h7, L, L', r⟩ := h
  have no : ∀ {x : Addr} {kv : List (Key × V)} {f : Int → Option PStr}, H x = some (.dK kv) → LDk kv f n → x ≠ d := fun {x kv f} hx Lx q => by
    rw [q, hd] at hx
    cases hx
    obtain ⟨i, z, ee, _⟩ := Lx.sh _ hk
    cases ee
  exact ⟨a, dx, fs, p, q, kn, kc, e0, by rw [upd_ne (ne_of h1 hd (by intro z; cases z))]; exact h1, h2, h3, h4, h5, by rw [upd_ne (no h6 L)]; exact h6, by rw [upd_ne (no h7 L')]; exact h7, L, L', r⟩
open Classical in
noncomputable def joinO (o : PStr → Option (SE PStr)) : Jt PStr PStr := if ∀ n, (o n).isSome then some fun n => (o n).getD SE.one else none
theorem joinO_some {o : PStr → Option (SE PStr)} (h : ∀ n, (o n).isSome = true) : joinO o = some fun n => (o n).getD SE.one := if_pos h
theorem joinO_none {o : PStr → Option (SE PStr)} {n : PStr} (h : o n = none) : joinO o = none := if_neg (fun q => by have := q n; rw [h] at this; cases this)
theorem jointOf_is (ln : Line) : jointOf ln = joinO fun n => effOf (own n ln) := rfl
theorem compJ_is (f g : PStr → SE PStr) : compJ (some f) (some g) = joinO fun n => (f n).comp (g n) := rfl
/-- a joint effect -/
def JAt (K : PySem.W.Frag) (H : Hp) (v : V) (j : Jt PStr PStr) (k c : Nat) : Prop := match j with
  | none => v = .non
  | some g => ∃ d kvs, v = .ref d ∧ H d = some (.dK kvs) ∧ (kvs.map (·.1)).Nodup ∧ kvs.length ≤ c ∧ (∀ p ∈ kvs, ∃ n u, p = (Sum.inr n, u) ∧ EffAt K H u (g n) k ∧ g n ≠ SE.one) ∧ ∀ n, g n ≠ SE.one → ∃ u, (Sum.inr n, u) ∈ kvs
theorem JAt.same {K : PySem.W.Frag} {H H' : Hp} {v : V} {j : Jt PStr PStr} {k c : Nat} (h : JAt K H v j k c) (s : Same H H') : JAt K H' v j k c := by
  cases j with
  | none => exact h
  | some g =>
    obtain ⟨d, kvs, e, h1, h2, h3, h4, h5⟩ := h
    exact ⟨d, kvs, e, s _ _ h1, h2, h3, fun p hp => let ⟨n, u, e, q, r⟩ := h4 p hp; ⟨n, u, e, q.same s, r⟩, h5⟩
theorem JAt.mono {K : PySem.W.Frag} {H : Hp} {v : V} {j : Jt PStr PStr} {k c k' c' : Nat} (h : JAt K H v j k c) (lk : k ≤ k') (lc : c ≤ c') : JAt K H v j k' c' := by
  cases j with
  | none => exact h
  | some g =>
    obtain ⟨d, kvs, e, h1, h2, h3, h4, h5⟩ := h
    exact ⟨d, kvs, e, h1, h2, Nat.le_trans h3 lc, fun p hp => let ⟨n, u, e, q, r⟩ := h4 p hp; ⟨n, u, e, q.mono lk, r⟩, h5⟩
/-- results by name -/
def OAt (K : PySem.W.Frag) (H : Hp) (kvs : List (Key × V)) (o : PStr → Option (SE PStr)) (k c : Nat) : Prop := (kvs.map (·.1)).Nodup ∧ kvs.length ≤ c ∧ (∀ p ∈ kvs, ∃ n u, p = (Sum.inr n, u) ∧ ResAt K H u (o n) k) ∧ ∀ n, o n ≠ some SE.one → ∃ u, (Sum.inr n, u) ∈ kvs
section
variable {P : Program} {w : World} {K : PySem.W.Frag} {mg : PStr → Option Value} {base : Heap}
theorem sc41 : FnScope ["effects", "name", "effect"] ["effects"] (defScope s41) := ⟨rfl, rfl, rfl, by decide +kernel, rfl, by decide +kernel, by decide +kernel⟩
def spWoI (K : PySem.W.Frag) : Sp := fun vs H Q _ => ∃ d kvs g k c, vs = [.ref d] ∧ H d = some (.dK kvs) ∧ OAt K H kvs (fun n => some (g n)) k c ∧ c < 64 ∧ ∀ H' a, Same H H' → H a = none → JAt K H' (.ref a) (some g) k c → Q (.ref a) H'

theorem ok_without_identity (T : Txt P K mg) : Dfn P w K mg base 7 "without_identity" (spWoI K) := by
  refine dfnN T 17 (d := d41) rfl "without_identity" (by decide +kernel) rfl rfl sc41 (fun _ _ _ _ _ _ us hl => match us, hl with | [_], _ => rfl) (fun vs H Q E h => ?_) (fun f cdv A outer s H vs Q E hr h => ?_)
  · obtain ⟨d, kvs, g, k, c, rfl, _⟩ := h
    rfl
  · obtain ⟨q1, q2, q3, q4⟩ := T.eqf "Effect" (by decide +kernel)
    refine ⟨_, (pss_one (ps_ret (pe_lock (pe_dc (own := [("name", 1), ("effect", 2)]) (g := (gTup K 2 (gCons (gName 1) (gCons (gName 2) gNil)))) (tt := (tTest (tOp (rNeI (ga K "Effect") (spEffEq K)) (tVar 2) (tCM0 (ga K "Effect") (spIdent K) (tC (.ref (ga K "Effect"))))))) rfl sc41.nd (pi_items (pv 0)) (blkOk_by (own := [("name", 1), ("effect", 2)]) (N := ["effects", "name", "effect"]) (sc := defScope s41) (by decide +kernel)) (fun _ _ _ _ _ => (pg_tup (by rfl) (pgs_cons (pg_name (i := 1) sc41.nd rfl (.inl rfl)) (pgs_cons (pg_name (i := 2) sc41.nd rfl (.inl rfl)) pgs_nil)))) (fun _ _ _ _ _ => (pts_one (pt_cmpR (op_neI (ok_eff_eq T) (hr.mono (by decide)) q3 q4 q1 q2) (pv 2) (pe_cm0 (pe_glob (v := .ref (ga K "Effect")) (by rfl) (T.glo "Effect" (by decide +kernel)) rfl) T.cread T.cmet (ok_identity T) hr (by decide)) (nomark _)))) (fun _ _ _ _ _ => (pv 1)) (fun _ _ _ _ _ => (pv 2)))))), ?_⟩
    obtain ⟨d, kvs, g, k, c, rfl, hd, ⟨nd, len, sh, al⟩, hc, hQ⟩ := h
    refine ⟨d, _, hd, trivial, fun od => ?_⟩
    have lk : upd H d (.frz od (.dK kvs)) d = some (.frz od (.dK kvs)) := upd_same
    refine ⟨_, rfl, d, od, kvs, rfl, lk, fun D hD => ?_⟩
    have ndD : d ≠ D := ne_free lk hD
    have hD1 : H D = none := by rw [upd_ne (Ne.symm ndD)] at hD; exact hD
    refine dc_it walk_items (fun i H' => Same (upd H d (.frz od (.dK kvs))) H' ∧ ∃ acc, H' D = some (.dK acc) ∧ (acc.map (·.1)).Nodup ∧ acc.length ≤ i ∧ (∀ q ∈ acc, q ∈ kvs.take i ∧ ∃ n u, q = (Sum.inr n, u) ∧ g n ≠ SE.one) ∧ ∀ n u, (Sum.inr n, u) ∈ kvs.take i → g n ≠ SE.one → (Sum.inr n, u) ∈ acc)
      ⟨Same.new (Same.refl _) hD, [], upd_same, .nil, Nat.le_refl _, fun _ h => (by cases h), fun n u h => (by rw [List.take_zero] at h; cases h)⟩ (fun i H' _ z => z.1 _ _ lk) (fun i x H2 H3 hi z y => ?_) (fun H' z => ?_)
    · obtain ⟨zs, acc, hacc, z1, z2, z3, z4⟩ := z
      obtain ⟨t, k', vv, rfl, ht, rfl, hk⟩ := items_y y
      have e3 := Same.new (o := .tup [kV k', vv]) zs ht
      obtain ⟨n, u, ee, hu⟩ := sh _ (List.mem_of_getElem? hk)
      cases ee
      have hu' : EffAt K H vv (g n) k := hu
      have hu2 : EffAt K (upd H2 t (.tup [kV (Sum.inr n), vv])) vv (g n) k := (hu'.lock hd (List.mem_of_getElem? hk)).same e3
      refine ⟨t, _, rfl, SqT.of upd_same, rfl, _, _, rfl, _, _, rfl, rfl, rfl, ?_⟩
      refine ⟨_, rfl, rfl, rfl, fun H4 v4 e4 hv4 => ?_⟩
      have hu4 := hu2.same e4
      have hv5 : EffAt K H4 v4 SE.one 0 := EffAt.same hv4 dif_same
      obtain ⟨a, dx, fs, rfl, ha, _⟩ := hu4.isRef
      obtain ⟨b, dy, gs, rfl, hb, _⟩ := hv5.isRef
      refine ⟨a, b, dx, dy, fs, gs, rfl, rfl, ha, hb, _, _, g n, SE.one, k, 0, rfl, hu4, hv5, fun r hr' => ⟨r, rfl, _, rfl, ?_⟩⟩
      have tk : kvs.take (i + 1) = kvs.take i ++ [(Sum.inr n, .ref a)] := take_snoc hk
      have hacc4 : H4 D = some (.dK acc) := e4 _ _ (by rw [upd_ne (ne_free hacc ht)]; exact hacc)
      cases r with
      | true =>
        have eg : g n = SE.one := hr'.mp rfl
        refine iteF' rfl ⟨e3.trans e4, acc, hacc4, z1, Nat.le_trans z2 (Nat.le_succ i), fun q hq => ?_, fun m u hm hg => ?_⟩
        · obtain ⟨m1, m2⟩ := z3 q hq
          exact ⟨by rw [tk]; exact List.mem_append_left _ m1, m2⟩
        · rw [tk] at hm
          rcases List.mem_append.mp hm with h | h
          · exact z4 m u h hg
          · have e := List.mem_singleton.mp h
            cases e
            exact absurd eg hg
      | false =>
        have eg : g n ≠ SE.one := fun q => Bool.noConfusion (hr'.mpr q)
        have hn : valV acc (Sum.inr n) = none := by
          cases q : valV acc (Sum.inr n) with
          | none => rfl
          | some v =>
            obtain ⟨m1, _⟩ := z3 _ (valV_mem q)
            obtain ⟨i', e'⟩ := List.mem_iff_getElem?.mp m1
            rw [List.getElem?_take] at e'
            by_cases hlt : i' < i
            · rw [if_pos hlt] at e'
              have k1 : (kvs.map (·.1))[i']? = some (Sum.inr n) := by rw [List.getElem?_map, e']; rfl
              have k2 : (kvs.map (·.1))[i]? = some (Sum.inr n) := by rw [List.getElem?_map, hk]; rfl
              have := nd_idx nd k1 k2
              omega
            · rw [if_neg hlt] at e'
              cases e'
        refine iteT' rfl ?_
        refine ⟨_, rfl, _, rfl, acc, Sum.inr n, rfl, hacc4, by rw [sizeLine_eq]; omega, Same.put (e3.trans e4) hD, _, upd_same, nd_put z1, ?_, ?_, ?_⟩
        · rw [putK_new _ hn, List.length_append]
          exact Nat.succ_le_succ z2
        · intro q hq
          rw [putK_new _ hn] at hq
          rcases List.mem_append.mp hq with h | h
          · obtain ⟨m1, m2⟩ := z3 q h
            exact ⟨by rw [tk]; exact List.mem_append_left _ m1, m2⟩
          · have e := List.mem_singleton.mp h
            cases e
            exact ⟨by rw [tk]; exact List.mem_append_right _ (List.mem_singleton.mpr rfl), n, _, rfl, eg⟩
        · intro m u hm hg
          rw [putK_new _ hn]
          rw [tk] at hm
          rcases List.mem_append.mp hm with h | h
          · exact List.mem_append_left _ (z4 m u h hg)
          · exact List.mem_append_right _ h
    · obtain ⟨zs, acc, hacc, z1, z2, z3, z4⟩ := z
      have e4 : Same H (upd H' d (.dK kvs)) := same_unlock hd zs
      refine ⟨zs _ _ lk, hQ _ D e4 hD1 ⟨D, acc, rfl, by rw [upd_ne (Ne.symm ndD)]; exact hacc, z1, Nat.le_trans z2 len, fun q hq => ?_, fun n hn => ?_⟩⟩
      · obtain ⟨m1, n, u, e, hg⟩ := z3 q hq
        subst e
        rw [List.take_length] at m1
        obtain ⟨n', u', e', r'⟩ := sh _ m1
        cases e'
        exact ⟨n, u, rfl, EffAt.same r' e4, hg⟩
      · obtain ⟨u, hu⟩ := al n (fun q => hn (Option.some.inj q))
        exact ⟨u, z4 n u (by rw [List.take_length]; exact hu) hn⟩
end
end TX
end
section
set_option autoImplicit false
set_option maxHeartbeats 4000000
/-! joint_effect, compose_joint. -/
namespace TX
open PySem PySem.Spec PyProof.Rows L2 He TE
theorem any_no {K : PySem.W.Frag} {H : Hp} {kvs : List (Key × V)} {o : PStr → Option (SE PStr)} {k c : Nat} (h : OAt K H kvs o k c) (a : ∀ n, (o n).isSome = true) : (kvs.map fun p => decide (p.2 = V.non)).any id = false := by
  rw [List.any_eq_false]
  intro b hb
  obtain ⟨p, hp, e⟩ := List.mem_map.mp hb
  obtain ⟨n, u, e', r⟩ := h.2.2.1 p hp
  obtain ⟨x, hx⟩ := Option.isSome_iff_exists.mp (a n)
  rw [hx] at r
  have := EffAt.nonN r
  rw [e'] at e
  rw [← e]
  show ¬ decide (u = V.non) = true
  rw [this]
  exact Bool.false_ne_true
theorem any_yes {K : PySem.W.Frag} {H : Hp} {kvs : List (Key × V)} {o : PStr → Option (SE PStr)} {k c : Nat} (h : OAt K H kvs o k c) (a : ∃ n, o n = none) : (kvs.map fun p => decide (p.2 = V.non)).any id = true := by
  obtain ⟨n, hn⟩ := a
  obtain ⟨u, hu⟩ := h.2.2.2 n (by rw [hn]; exact fun q => nomatch q)
  rw [List.any_eq_true]
  refine ⟨true, List.mem_map.mpr ⟨_, hu, ?_⟩, rfl⟩
  obtain ⟨n', u', e', r⟩ := h.2.2.1 _ hu
  cases e'
  rw [hn] at r
  exact decide_eq_true r
theorem eff_nil : effOf ([] : List Step) = some SE.one := rfl
/-- without the thing at d -/
def del0 (H : Hp) (d : Addr) : Hp := fun a => if a = d then none else H a
theorem del0_at {H : Hp} {d : Addr} : del0 H d d = none := if_pos rfl
theorem del0_same {A H : Hp} {d : Addr} (s : Same A H) (h : A d = none) : Same A (del0 H d) := fun a o e => by
  unfold del0
  rw [if_neg (fun q => by rw [q, h] at e; cases e)]
  exact s a o e
theorem del0_upd {H : Hp} {d : Addr} {o : HO} : Same (del0 H d) (upd H d o) := fun a x e => by
  unfold del0 at e
  by_cases q : a = d
  · rw [if_pos q] at e
    cases e
  · rw [if_neg q] at e
    rw [upd_ne q]
    exact e
theorem nd_merge {kvs more : List (Key × V)} (h : (kvs.map (·.1)).Nodup) : ((mergeK kvs more).map (·.1)).Nodup := by
  induction more generalizing kvs with
  | nil => exact h
  | cons p r ih => exact ih (nd_put h)
theorem mem_keys_put {kvs : List (Key × V)} {k k' : Key} {v : V} : k' ∈ (putK kvs k v).map (·.1) ↔ k' ∈ kvs.map (·.1) ∨ k' = k := by
  rcases keys_put kvs k v with e | ⟨n, e⟩
  · rw [e]
    constructor
    · exact .inl
    · rintro (h | rfl)
      · exact h
      · cases q : valV kvs k' with
        | some x => exact List.mem_map.mpr ⟨_, valV_mem q, rfl⟩
        | none =>
          rw [putK_new v q, List.map_append] at e
          have := congrArg List.length e
          rw [List.length_append] at this
          simp at this
  · rw [e, List.mem_append, List.mem_singleton]
theorem mem_merge {kvs more : List (Key × V)} {k : Key} : k ∈ (mergeK kvs more).map (·.1) ↔ k ∈ kvs.map (·.1) ∨ k ∈ more.map (·.1) := by
  induction more generalizing kvs with
  | nil => simp [mergeK]
  | cons p r ih =>
    show k ∈ (mergeK (putK kvs p.1 p.2) r).map (·.1) ↔ _
    rw [ih, mem_keys_put, List.map_cons, List.mem_cons, or_assoc]
section
variable {P : Program} {w : World} {K : PySem.W.Frag} {mg : PStr → Option Value} {base : Heap}
theorem sc42 : FnScope ["steps", "effects", "name", "own", "effect"] ["steps"] (defScope s42) := ⟨rfl, rfl, rfl, by decide +kernel, rfl, by decide +kernel, by decide +kernel⟩
def spJoint (K : PySem.W.Frag) : Sp := fun vs H Q _ => ∃ a ln k c, vs = [.ref a] ∧ LineAt K H a ln ∧ ln.length ≤ c ∧ c < 64 ∧ (∀ n, (own n ln).length ≤ k) ∧ k < 64 ∧ ∀ H' r, Same H H' → JAt K H' r (jointOf ln) k c → (∀ b, r = .ref b → H b = none) → Q r H'

theorem ok_joint_effect (T : Txt P K mg) : Dfn P w K mg base 8 "joint_effect" (spJoint K) := by
  refine dfnN T 18 (d := d42) rfl "joint_effect" (by decide +kernel) rfl rfl sc42 (fun _ _ _ _ _ _ us hl => match us, hl with | [_], _ => rfl) (fun vs H Q E h => ?_) (fun f cdv A outer s H vs Q E hr h => ?_)
  · obtain ⟨a, ln, k, c, rfl, _⟩ := h
    rfl
  · refine ⟨_, (pss_cons (ps_expr (pe_d (ok_check_named T) hr (by decide) (by rfl) (pa_cons (pv 0) pa_nil))) (pss_cons (ps_setDc (i := 1) (own := [("name", 2), ("own", 3)]) (g := (gTup K 2 (gCons (gName 2) (gCons (gName 3) gNil)))) (tt := tYes) rfl sc42.nd rfl rfl (sw_dc rfl rfl rfl (by decide +kernel)) (pi_items (pe_frz (pe_d (ok_steps_by_name T) hr (by decide) (by rfl) (pa_cons (pv 0) pa_nil)))) (blkOk_by (own := [("name", 2), ("own", 3)]) (N := ["steps", "effects", "name", "own", "effect"]) (sc := defScope s42) (by decide +kernel)) (fun _ _ _ _ _ => (pg_tup (by rfl) (pgs_cons (pg_name (i := 2) sc42.nd rfl (.inl rfl)) (pgs_cons (pg_name (i := 3) sc42.nd rfl (.inl rfl)) pgs_nil)))) (fun _ _ _ _ _ => pts_nil) (fun _ _ _ _ _ => (pv 2)) (fun _ _ _ _ _ => (pe_d (ok_effect_of T) hr (by decide) (by rfl) (pa_cons (pv 3) pa_nil)))) (pss_cons (ps_if (pt_val (pe_callB (cr_any rfl) (by rfl) (T.fre "any" (by decide +kernel)) (by decide +kernel) (pa_cons (pe_lock (pe_lc (own := [("effect", 4)]) (g := (gName 4)) (tt := tYes) rfl sc42.nd (pi_values (pv 1)) (blkOk_by (own := [("effect", 4)]) (N := ["steps", "effects", "name", "own", "effect"]) (sc := defScope s42) (by decide +kernel)) (fun _ _ _ _ _ => (pg_name (i := 4) sc42.nd rfl (.inl rfl))) (fun _ _ _ _ _ => pts_nil) (fun _ _ _ _ _ => (pe_cmpR op_isN (pv 4) pe_non (nomark _))))) pa_nil))) (pss_one (ps_ret pe_non)) pss_nil) (pss_one (ps_ret (pe_d (ok_without_identity T) hr (by decide) (by rfl) (pa_cons (pv 1) pa_nil))))))), ?_⟩
    obtain ⟨a, ln, k, c, rfl, hl, hlc, hcc, hk, hk64, hQ⟩ := h
    refine ⟨_, rfl, a, ln, rfl, hl, fun H1 e1 => ?_⟩
    refine ⟨_, rfl, a, ln, rfl, hl.same e1, by omega, fun H2 d0 kv e2 hd0 hd2 S => ⟨d0, _, rfl, hd2, trivial, fun od0 => ?_⟩⟩
    refine ⟨d0, od0, kv, rfl, upd_same, fun d hdn => ?_⟩
    have e02 : Same H (upd H2 d0 (.frz od0 (.dK kv))) := Same.put (e1.trans e2) (e1.free hd0)
    have sL : ∀ {H' : Hp} {b : Addr} {l : List Step}, StsAt K H2 b l → Same (upd H2 d0 (.frz od0 (.dK kv))) H' → StsAt K H' b l := fun {H' b l} q s => by
      obtain ⟨vs, hv, pr⟩ := q
      have nb : b ≠ d0 := ne_of hv hd2 (by intro z; cases z)
      refine ⟨vs, s _ _ (by rw [upd_ne nb]; exact hv), paired_imp pr fun v st hst => ?_⟩
      obtain ⟨x, e, hx, ho⟩ := hst
      exact ⟨x, e, s _ _ (by rw [upd_ne (ne_of hx hd2 (by intro z; cases z))]; exact hx), ho⟩
    let o : PStr → Option (SE PStr) := fun n => effOf (own n ln)
    have lk0 : upd H2 d0 (.frz od0 (.dK kv)) d0 = some (.frz od0 (.dK kv)) := upd_same
    refine dc_it walk_items (fun i H' => ∃ acc Hb, Same (upd H2 d0 (.frz od0 (.dK kv))) Hb ∧ Hb d = none ∧ Same Hb H' ∧ H' d = some (.dK acc) ∧ (acc.map (·.1)) = (kv.take i).map (·.1) ∧ ∀ q ∈ acc, ∃ n u, q = (Sum.inr n, u) ∧ ResAt K Hb u (o n) k)
      ⟨[], _, Same.refl _, hdn, Same.new (Same.refl _) hdn, upd_same, rfl, fun _ h => (by cases h)⟩ (fun i H' _ z => let ⟨_, _, z1, _, z2, _⟩ := z; z2 _ _ (z1 _ _ lk0)) (fun i x H3 H4 hi z y => ?_) (fun H5 z => ?_)
    · obtain ⟨acc, Hb, zs, zb, zs', hacc, ka, za⟩ := z
      obtain ⟨t, k', vv, rfl, ht, rfl, hk'⟩ := items_y y
      have e3 := Same.new (o := .tup [kV k', vv]) (zs.trans zs') ht
      obtain ⟨n, b, ee, hs⟩ := S.2.2.1 _ (List.mem_of_getElem? hk')
      cases ee
      refine ⟨t, _, rfl, SqT.of upd_same, rfl, _, _, rfl, _, _, rfl, rfl, rfl, ?_⟩
      refine ⟨_, rfl, _, rfl, b, own n ln, k, rfl, sL hs e3, hk n, hk64, fun H6 r e6 hr6 => ?_⟩
      have hacc3 : upd H3 t (.tup [kV (Sum.inr n), .ref b]) d = some (.dK acc) := by rw [upd_ne (ne_free hacc ht)]; exact hacc
      have hacc6 : H6 d = some (.dK acc) := e6 _ _ hacc3
      have hn : valV acc (Sum.inr n) = none := by
        cases q : valV acc (Sum.inr n) with
        | none => rfl
        | some v =>
          have hm : (Sum.inr n : Key) ∈ acc.map (·.1) := List.mem_map.mpr ⟨_, valV_mem q, rfl⟩
          rw [ka, List.map_take] at hm
          exact absurd hm (not_take S.1 (by rw [List.getElem?_map, hk']; rfl))
      have hal : acc.length ≤ i := by
        have := congrArg List.length ka
        rw [List.length_map, List.length_map, List.length_take] at this
        omega
      have sb6 : Same Hb H6 := (Same.new zs' ht).trans e6
      refine ⟨acc, Sum.inr n, rfl, hacc6, by rw [sizeLine_eq]; have := S.2.1; omega, _, del0 H6 d, del0_same (e3.trans e6) hdn, del0_at, del0_upd, upd_same, ?_, fun q hq => ?_⟩
      · rw [putK_new _ hn, List.map_append, ka, take_snoc hk', List.map_append]
        rfl
      · rw [putK_new _ hn] at hq
        rcases List.mem_append.mp hq with h | h
        · obtain ⟨m, u, e, ru⟩ := za q h
          exact ⟨m, u, e, ru.same (del0_same sb6 zb)⟩
        · have e := List.mem_singleton.mp h
          subst e
          refine ⟨n, r, rfl, hr6.same (del0_same dif_same ?_)⟩
          unfold dif
          rw [hacc3]
    obtain ⟨kvs, Hb, zs, zb, zs', hd, ka, za⟩ := z
    rw [List.take_length] at ka
    have e05 : Same H H5 := e02.trans (zs.trans zs')
    have hj : jointOf ln = joinO o := rfl
    have OA : OAt K H5 kvs o k c := by
      refine ⟨by rw [ka]; exact S.1, ?_, fun q hq => let ⟨n, u, e, r⟩ := za q hq; ⟨n, u, e, r.same zs'⟩, fun n hn => ?_⟩
      · have := congrArg List.length ka
        rw [List.length_map, List.length_map] at this
        rw [this]
        exact Nat.le_trans S.2.1 hlc
      · have hne : own n ln ≠ [] := fun q => hn (by show effOf (own n ln) = _; rw [q]; rfl)
        obtain ⟨b, hb⟩ := S.2.2.2 n hne
        have : (Sum.inr n : Key) ∈ kvs.map (·.1) := by
          rw [ka]
          exact List.mem_map.mpr ⟨_, hb, rfl⟩
        obtain ⟨⟨k', u⟩, hq, ek⟩ := List.mem_map.mp this
        have ek' : k' = Sum.inr n := ek
        subst ek'
        exact ⟨u, hq⟩
    refine ⟨d, _, hd, trivial, fun od => ?_⟩
    have lk : upd H5 d (.frz od (.dK kvs)) d = some (.frz od (.dK kvs)) := upd_same
    refine ⟨_, rfl, d, od, kvs, rfl, lk, fun DD hDD => ?_⟩
    have ndD : d ≠ DD := ne_free lk hDD
    have hDD1 : H5 DD = none := by rw [upd_ne (Ne.symm ndD)] at hDD; exact hDD
    refine lc_it walk_values (fun i H' => Same (upd H5 d (.frz od (.dK kvs))) H' ∧ H' DD = some (.lst ((kvs.take i).map fun p => V.bl (decide (p.2 = V.non))))) ⟨Same.new (Same.refl _) hDD, upd_same⟩ (fun i H' _ z => z.1 _ _ lk) (fun i x H6 H7 hi z y => ?_) (fun H6 z => ?_)
    · obtain ⟨rfl, kk, hk⟩ := y
      refine ⟨rfl, _, rfl, rfl, _, z.2, by rw [List.length_map, List.length_take, sizeLine_eq]; have := OA.2.1; omega, Same.put z.1 hDD, ?_⟩
      rw [upd_same, take_snoc hk, List.map_append]
      rfl
    have e6 : Same H5 (upd H6 d (.dK kvs)) := same_unlock hd z.1
    refine ⟨z.1 _ _ lk, DD, kvs.map (fun p => decide (p.2 = V.non)), rfl, SqL.of (by rw [upd_ne (Ne.symm ndD), z.2, List.take_length, List.map_map]; rfl), _, rfl, ?_⟩
    have hd6 := e6 _ _ hd
    by_cases c : ∀ n, (o n).isSome = true
    · refine iteF' (any_no OA c) ?_
      refine ⟨_, rfl, d, kvs, fun n => (o n).getD SE.one, k, _, rfl, hd6, ⟨OA.1, OA.2.1, fun q hq => ?_, fun n hn => ?_⟩, hcc, fun H8 a8 e8 na8 J => ?_⟩
      · obtain ⟨n, u, e, r⟩ := OA.2.2.1 q hq
        refine ⟨n, u, e, ?_⟩
        obtain ⟨x, hx⟩ := Option.isSome_iff_exists.mp (c n)
        rw [hx] at r
        show ResAt K _ u (some ((o n).getD SE.one)) k
        rw [hx]
        exact ResAt.same r e6
      · obtain ⟨x, hx⟩ := Option.isSome_iff_exists.mp (c n)
        refine OA.2.2.2 n (fun q => hn ?_)
        show some ((o n).getD SE.one) = some SE.one
        rw [q]
        rfl
      · refine hQ H8 (.ref a8) (e05.trans (e6.trans e8)) ?_ (fun b eb => by cases eb; exact (e05.trans e6).free na8)
        rw [hj, joinO_some c]
        exact J
    · have c' : ∃ n, o n = none := by
        refine Classical.byContradiction fun q => c fun n => ?_
        cases hn : o n with
        | none => exact absurd ⟨n, hn⟩ q
        | some x => rfl
      refine iteT' (any_yes OA c') ?_
      refine hQ _ .non (e05.trans e6) ?_ (fun b eb => by cases eb)
      obtain ⟨n, hn⟩ := c'
      rw [hj, joinO_none hn]
      exact rfl
/-! ### compose_joint -/
theorem sc45 : FnScope ["one", "other", "nothing", "names", "effects", "name", "effect"] ["one", "other"] (defScope s45) := ⟨rfl, rfl, rfl, by decide +kernel, rfl, by decide +kernel, by decide +kernel⟩
def spCJ (K : PySem.W.Frag) : Sp := fun vs H Q _ => ∃ v1 v2 j1 j2 k1 k2 c1 c2, vs = [v1, v2] ∧ JAt K H v1 j1 k1 c1 ∧ JAt K H v2 j2 k2 c2 ∧ k1 + k2 < 64 ∧ c1 + c2 < 64 ∧
  ∀ H' r, Same H H' → JAt K H' r (compJ j1 j2) (k1 + k2) (c1 + c2) → (∀ b, r = .ref b → H b = none) → Q r H'

theorem ok_compose_joint (T : Txt P K mg) : Dfn P w K mg base 8 "compose_joint" (spCJ K) := by
  refine dfnN T 21 (d := d45) rfl "compose_joint" (by decide +kernel) rfl rfl sc45 (fun _ _ _ _ _ _ us hl => match us, hl with | [_, _], _ => rfl) (fun vs H Q E h => ?_) (fun f cdv A outer s H vs Q E hr h => ?_)
  · obtain ⟨v1, v2, j1, j2, k1, k2, c1, c2, rfl, _⟩ := h
    rfl
  · refine ⟨_, (pss_cons (ps_if (PW.pt (pw_or (pt_cmpR op_isN (pv 0) pe_non (nomark _)) (pw_or1 (pt_cmpR op_isN (pv 1) pe_non (nomark _))))) (pss_one (ps_ret pe_non)) pss_nil) (pss_cons (ps_set (i := 2) sc45.nd rfl (.inr rfl) (pe_cm0 (pe_glob (v := .ref (ga K "Effect")) (by rfl) (T.glo "Effect" (by decide +kernel)) rfl) T.cread T.cmet (ok_identity T) hr (by decide))) (pss_cons (ps_set (i := 3) sc45.nd rfl (.inl rfl) (pe_callB (call_sortedD rfl) (by rfl) (T.fre "sorted" (by decide +kernel)) (by decide +kernel) (pa_cons (pe_merge (pv 0) (pv 1)) pa_nil))) (pss_cons (ps_setDc (i := 4) (own := [("name", 5)]) (g := (gName 5)) (tt := tYes) rfl sc45.nd rfl rfl (sw_dc rfl rfl rfl (by decide +kernel)) (pi_list (pv 3)) (blkOk_by (own := [("name", 5)]) (N := ["one", "other", "nothing", "names", "effects", "name", "effect"]) (sc := defScope s45) (by decide +kernel)) (fun _ _ _ _ _ => (pg_name (i := 5) sc45.nd rfl (.inl rfl))) (fun _ _ _ _ _ => pts_nil) (fun _ _ _ _ _ => (pv 5)) (fun _ _ _ _ _ => (pe_d (ok_compose T) hr (by decide) (by rfl) (pa_cons (pe_dget2 (hu_of hr) (pv 0) (pv 5) (pv 2) ⟨by rfl, by rfl, by rfl, by rfl⟩) (pa_cons (pe_dget2 (hu_of hr) (pv 1) (pv 5) (pv 2) ⟨by rfl, by rfl, by rfl, by rfl⟩) pa_nil))))) (pss_cons (ps_if (pt_val (pe_callB (cr_any rfl) (by rfl) (T.fre "any" (by decide +kernel)) (by decide +kernel) (pa_cons (pe_lock (pe_lc (own := [("effect", 6)]) (g := (gName 6)) (tt := tYes) rfl sc45.nd (pi_values (pv 4)) (blkOk_by (own := [("effect", 6)]) (N := ["one", "other", "nothing", "names", "effects", "name", "effect"]) (sc := defScope s45) (by decide +kernel)) (fun _ _ _ _ _ => (pg_name (i := 6) sc45.nd rfl (.inl rfl))) (fun _ _ _ _ _ => pts_nil) (fun _ _ _ _ _ => (pe_cmpR op_isN (pv 6) pe_non (nomark _))))) pa_nil))) (pss_one (ps_ret pe_non)) pss_nil) (pss_one (ps_ret (pe_d (ok_without_identity T) hr (by decide) (by rfl) (pa_cons (pv 4) pa_nil))))))))), ?_⟩
    obtain ⟨v1, v2, j1, j2, k1, k2, c1, c2, rfl, h1, h2, hk64, hcc, hQ⟩ := h
    cases j1 with
    | none =>
      have e1 : v1 = .non := h1
      subst e1
      exact ⟨_, rfl, rfl, true, rfl, iteT (hQ H .non (Same.refl _) rfl (fun b e => nomatch e))⟩
    | some fj =>
    obtain ⟨d1, kvs1, rfl, hd1, nd1, len1, sh1, al1⟩ := id h1
    cases j2 with
    | none =>
      have e2 : v2 = .non := h2
      subst e2
      exact ⟨_, rfl, rfl, false, rfl, iteF ⟨_, rfl, rfl, true, rfl, iteT (hQ H .non (Same.refl _) rfl (fun b e => nomatch e))⟩⟩
    | some gj =>
    obtain ⟨d2, kvs2, rfl, hd2, nd2, len2, sh2, al2⟩ := id h2
    refine ⟨_, rfl, rfl, false, rfl, iteF ⟨_, rfl, rfl, false, rfl, iteF ?_⟩⟩
    refine ⟨rfl, rfl, fun H1 vn e1 hvn' => ?_⟩
    have hvn : EffAt K H1 vn SE.one 0 := EffAt.same hvn' dif_same
    intro p hp
    have n1 : d1 ≠ p := ne_free (e1 _ _ hd1) hp
    have n2 : d2 ≠ p := ne_free (e1 _ _ hd2) hp
    have z1 : Same H (upd H1 p (.dK [])) := Same.new e1 hp
    have z2 : Same H (upd (upd H1 p (.dK [])) p (.dK (mergeK [] kvs1))) := Same.put z1 (e1.free hp)
    have z3 : Same H (upd (upd (upd H1 p (.dK [])) p (.dK (mergeK [] kvs1))) p (.dK (mergeK (mergeK [] kvs1) kvs2))) := Same.put z2 (e1.free hp)
    have y3 : Same H1 (upd (upd (upd H1 p (.dK [])) p (.dK (mergeK [] kvs1))) p (.dK (mergeK (mergeK [] kvs1) kvs2))) := Same.put (Same.put (Ext.upd hp) hp) hp
    have mk : ∀ k : Key, k ∈ (mergeK (mergeK [] kvs1) kvs2).map (·.1) ↔ k ∈ kvs1.map (·.1) ∨ k ∈ kvs2.map (·.1) := fun k => by
      rw [mem_merge, mem_merge]
      simp
    have shM : ∀ q ∈ mergeK (mergeK [] kvs1) kvs2, ∃ n v, q = (Sum.inr n, v) := fun q hq => by
      rcases (mk q.1).mp (List.mem_map.mpr ⟨q, hq, rfl⟩) with h | h
      · obtain ⟨q', hq', e⟩ := List.mem_map.mp h
        obtain ⟨n, u, e', _⟩ := sh1 q' hq'
        exact ⟨n, q.2, Prod.ext (by rw [← e, e']) rfl⟩
      · obtain ⟨q', hq', e⟩ := List.mem_map.mp h
        obtain ⟨n, u, e', _⟩ := sh2 q' hq'
        exact ⟨n, q.2, Prod.ext (by rw [← e, e']) rfl⟩
    obtain ⟨ks, kM, lM⟩ := inr_keys shM
    have lenM : (mergeK (mergeK [] kvs1) kvs2).length ≤ c1 + c2 := by
      have a1 := length_mergeK kvs2 (mergeK [] kvs1)
      have a2 := length_mergeK kvs1 []
      simp only [List.length_nil] at a2
      omega
    have ndM : ks.Nodup := inr_inj (by rw [← kM]; exact nd_merge (nd_merge .nil))
    refine ⟨_, rfl, d1, kvs1, rfl, upd_same, .inl (z1 _ _ hd1), n1, by omega, _, rfl, d2, kvs2, rfl, upd_same, .inl (z2 _ _ hd2), n2, by omega, ?_⟩
    refine ⟨p, _, ks, rfl, .inl upd_same, kM, by rw [lM]; omega, fun ys p2 pm _ hp2 => ?_⟩
    have z4 := Same.new (o := .lst (ys.map V.str)) z3 hp2
    have y4 := Same.new (o := .lst (ys.map V.str)) y3 hp2
    have ndY : ys.Nodup := pm.nodup_iff.mpr ndM
    refine ⟨_, rfl, p2, rfl, ⟨_, SqL.of upd_same⟩, fun d hdn => ?_⟩
    let o : PStr → Option (SE PStr) := fun n => (fj n).comp (gj n)
    have lk0 : upd (upd (upd (upd H1 p (.dK [])) p (.dK (mergeK [] kvs1))) p (.dK (mergeK (mergeK [] kvs1) kvs2))) p2 (.lst (ys.map V.str)) p2 = some (.lst (ys.map V.str)) := upd_same
    generalize hHH : upd (upd (upd (upd H1 p (.dK [])) p (.dK (mergeK [] kvs1))) p (.dK (mergeK (mergeK [] kvs1) kvs2))) p2 (.lst (ys.map V.str)) = HH at z4 y4 hdn lk0 ⊢
    refine dc_it walk_list (fun i H' => ∃ acc Hb, Same HH Hb ∧ Hb d = none ∧ Same Hb H' ∧ H' d = some (.dK acc) ∧ (acc.map (·.1)) = (ys.take i).map Sum.inr ∧ ∀ q ∈ acc, ∃ n u, q = (Sum.inr n, u) ∧ ResAt K Hb u (o n) (k1 + k2))
      ⟨[], _, Same.refl _, hdn, Same.new (Same.refl _) hdn, upd_same, rfl, fun _ h => (by cases h)⟩ (fun i H' _ z => let ⟨_, _, z1, _, z2, _⟩ := z; SqL.of (z2 _ _ (z1 _ _ lk0))) (fun i x H3 H4 hi z y => ?_) (fun H5 z => ?_)
    · obtain ⟨rfl, hx⟩ := y
      obtain ⟨n, hy, rfl⟩ : ∃ y, ys[i]? = some y ∧ x = .str y := by
        rw [List.getElem?_map] at hx
        obtain ⟨y, hy, e⟩ := Option.map_eq_some_iff.mp hx
        exact ⟨y, hy, e.symm⟩
      obtain ⟨acc, Hb, zs, zb, zs', hacc, ka, za⟩ := z
      have e4 : Same H H4 := z4.trans (zs.trans zs')
      have hv4 : EffAt K H4 vn SE.one 0 := hvn.same (y4.trans (zs.trans zs'))
      have get : ∀ {kvs : List (Key × V)} {f : PStr → SE PStr} {k : Nat}, (kvs.map (·.1)).Nodup → (∀ p ∈ kvs, ∃ n u, p = (Sum.inr n, u) ∧ EffAt K H u (f n) k ∧ f n ≠ SE.one) → (∀ n, f n ≠ SE.one → ∃ u, (Sum.inr n, u) ∈ kvs) →
          EffAt K H4 ((valV kvs (Sum.inr n)).getD vn) (f n) k := fun {kvs f k} nd sh al => by
        cases q : valV kvs (Sum.inr n) with
        | some u =>
          obtain ⟨n', u', e, ru, _⟩ := sh _ (valV_mem q)
          cases e
          exact ru.same e4
        | none =>
          have : f n = SE.one := Classical.byContradiction fun hn => by
            obtain ⟨u, hu⟩ := al n hn
            rw [valV_of_mem nd hu] at q
            cases q
          rw [this]
          exact hv4.mono (Nat.zero_le _)
      refine ⟨rfl, _, rfl, ?_⟩
      refine ⟨_, rfl, d1, rfl, .inl ⟨kvs1, .inl (e4 _ _ hd1)⟩, _, rfl, _, rfl, _, .inl ⟨kvs1, Sum.inr n, .inl (e4 _ _ hd1), rfl, rfl⟩, ?_⟩
      refine ⟨_, rfl, d2, rfl, .inl ⟨kvs2, .inl (e4 _ _ hd2)⟩, _, rfl, _, rfl, _, .inl ⟨kvs2, Sum.inr n, .inl (e4 _ _ hd2), rfl, rfl⟩, ?_⟩
      refine ⟨_, _, fj n, gj n, k1, k2, rfl, get nd1 sh1 al1, get nd2 sh2 al2, hk64, fun H6 r e6 hr6 => ?_⟩
      have hacc6 : H6 d = some (.dK acc) := e6 _ _ hacc
      have hn : valV acc (Sum.inr n) = none := by
        cases q : valV acc (Sum.inr n) with
        | none => rfl
        | some v =>
          have hm : (Sum.inr n : Key) ∈ acc.map (·.1) := List.mem_map.mpr ⟨_, valV_mem q, rfl⟩
          rw [ka] at hm
          obtain ⟨y', hy', e⟩ := List.mem_map.mp hm
          cases e
          exact absurd hy' (not_take ndY hy)
      have hil : i < 64 := by
        rw [List.length_map] at hi
        have := pm.length_eq
        omega
      have hal : acc.length ≤ i := by
        have := congrArg List.length ka
        rw [List.length_map, List.length_map, List.length_take] at this
        omega
      have sb6 : Same Hb H6 := zs'.trans e6
      refine ⟨acc, Sum.inr n, rfl, hacc6, by rw [sizeLine_eq]; omega, _, del0 H6 d, del0_same (zs.trans sb6) hdn, del0_at, del0_upd, upd_same, ?_, fun q hq => ?_⟩
      · rw [putK_new _ hn, List.map_append, ka, take_snoc hy, List.map_append]
        rfl
      · rw [putK_new _ hn] at hq
        rcases List.mem_append.mp hq with h | h
        · obtain ⟨m, u, e, ru⟩ := za q h
          exact ⟨m, u, e, ru.same (del0_same sb6 zb)⟩
        · have e := List.mem_singleton.mp h
          subst e
          refine ⟨n, r, rfl, hr6.same (del0_same dif_same ?_)⟩
          unfold dif
          rw [hacc]
    obtain ⟨kvs, Hb, zs, zb, zs', hd, ka, za⟩ := z
    rw [List.length_map, List.take_length] at ka
    have e05 : Same H H5 := z4.trans (zs.trans zs')
    have hj : compJ (some fj) (some gj) = joinO o := rfl
    have OA : OAt K H5 kvs o (k1 + k2) (c1 + c2) := by
      refine ⟨?_, ?_, fun q hq => let ⟨n, u, e, r⟩ := za q hq; ⟨n, u, e, r.same zs'⟩, fun n hn => ?_⟩
      · rw [ka]
        refine (pm.map Sum.inr).nodup_iff.mpr ?_
        rw [← kM]
        exact nd_merge (nd_merge .nil)
      · have := congrArg List.length ka
        rw [List.length_map, List.length_map, pm.length_eq, lM] at this
        rw [this]
        exact lenM
      · have hin : (Sum.inr n : Key) ∈ kvs1.map (·.1) ∨ (Sum.inr n : Key) ∈ kvs2.map (·.1) := Classical.byContradiction fun q => hn (by
          have f1 : fj n = SE.one := Classical.byContradiction fun h => by
            obtain ⟨u, hu⟩ := al1 n h
            exact q (.inl (List.mem_map.mpr ⟨_, hu, rfl⟩))
          have g1 : gj n = SE.one := Classical.byContradiction fun h => by
            obtain ⟨u, hu⟩ := al2 n h
            exact q (.inr (List.mem_map.mpr ⟨_, hu, rfl⟩))
          show (fj n).comp (gj n) = some SE.one
          rw [f1, g1]
          exact comp_one SE.one)
        have hM := (mk _).mpr hin
        rw [kM] at hM
        obtain ⟨y, hy, e⟩ := List.mem_map.mp hM
        cases e
        have : (Sum.inr n : Key) ∈ kvs.map (·.1) := by
          rw [ka]
          exact List.mem_map.mpr ⟨n, pm.mem_iff.mpr hy, rfl⟩
        obtain ⟨⟨k', u⟩, hq, ek⟩ := List.mem_map.mp this
        have ek' : k' = Sum.inr n := ek
        subst ek'
        exact ⟨u, hq⟩
    refine ⟨d, _, hd, trivial, fun od => ?_⟩
    have lk : upd H5 d (.frz od (.dK kvs)) d = some (.frz od (.dK kvs)) := upd_same
    refine ⟨_, rfl, d, od, kvs, rfl, lk, fun DD hDD => ?_⟩
    have ndD : d ≠ DD := ne_free lk hDD
    have hDD1 : H5 DD = none := by rw [upd_ne (Ne.symm ndD)] at hDD; exact hDD
    refine lc_it walk_values (fun i H' => Same (upd H5 d (.frz od (.dK kvs))) H' ∧ H' DD = some (.lst ((kvs.take i).map fun p => V.bl (decide (p.2 = V.non))))) ⟨Same.new (Same.refl _) hDD, upd_same⟩ (fun i H' _ z => z.1 _ _ lk) (fun i x H6 H7 hi z y => ?_) (fun H6 z => ?_)
    · obtain ⟨rfl, kk, hk⟩ := y
      refine ⟨rfl, _, rfl, rfl, _, z.2, by rw [List.length_map, List.length_take, sizeLine_eq]; have := OA.2.1; omega, Same.put z.1 hDD, ?_⟩
      rw [upd_same, take_snoc hk, List.map_append]
      rfl
    have e6 : Same H5 (upd H6 d (.dK kvs)) := same_unlock hd z.1
    refine ⟨z.1 _ _ lk, DD, kvs.map (fun p => decide (p.2 = V.non)), rfl, SqL.of (by rw [upd_ne (Ne.symm ndD), z.2, List.take_length, List.map_map]; rfl), _, rfl, ?_⟩
    have hd6 := e6 _ _ hd
    by_cases c : ∀ n, (o n).isSome = true
    · refine iteF' (any_no OA c) ?_
      refine ⟨_, rfl, d, kvs, fun n => (o n).getD SE.one, (k1 + k2), _, rfl, hd6, ⟨OA.1, OA.2.1, fun q hq => ?_, fun n hn => ?_⟩, hcc, fun H8 a8 e8 na8 J => ?_⟩
      · obtain ⟨n, u, e, r⟩ := OA.2.2.1 q hq
        refine ⟨n, u, e, ?_⟩
        obtain ⟨x, hx⟩ := Option.isSome_iff_exists.mp (c n)
        rw [hx] at r
        show ResAt K _ u (some ((o n).getD SE.one)) (k1 + k2)
        rw [hx]
        exact ResAt.same r e6
      · obtain ⟨x, hx⟩ := Option.isSome_iff_exists.mp (c n)
        refine OA.2.2.2 n (fun q => hn ?_)
        show some ((o n).getD SE.one) = some SE.one
        rw [q]
        rfl
      · refine hQ H8 (.ref a8) (e05.trans (e6.trans e8)) ?_ (fun b eb => by cases eb; exact (e05.trans e6).free na8)
        rw [hj, joinO_some c]
        exact J
    · have c' : ∃ n, o n = none := by
        refine Classical.byContradiction fun q => c fun n => ?_
        cases hn : o n with
        | none => exact absurd ⟨n, hn⟩ q
        | some x => rfl
      refine iteT' (any_yes OA c') ?_
      refine hQ _ .non (e05.trans e6) ?_ (fun b eb => by cases eb)
      obtain ⟨n, hn⟩ := c'
      rw [hj, joinO_none hn]
      exact rfl
end
end TX
end
section
set_option autoImplicit false
set_option maxHeartbeats 4000000
/-! Runs. -/
namespace TX
open PySem PySem.Spec PyProof.Rows L2 He TE
abbrev rfsK : List PStr := ["own_tape", "position", "written"]
abbrev PlS := Pl PStr
/-- a run, its object at a, its dict at q; its tape stands in Bt -/
def RunRaw (K : PySem.W.Frag) (Bt H : Hp) (a q : Addr) (b : PStr) (m : Nat) (p : PlS) (nw : Nat) : Prop := ∃ dx fs kw W t Tf, H a = some (.ins (ga K "Run") dx fs) ∧ (fs.lookup ("own_tape" : PStr) = some t ∧ fs.lookup ("position" : PStr) = some (.int p.2) ∧ fs.lookup ("written" : PStr) = some (.ref q)) ∧ fs.map (·.1) = rfsK ∧
    H q = some (.dK kw) ∧ LDk kw W nw ∧ TapeAt K Bt t b Tf m ∧ p.1 = fun i => (W i).getD (Tf i)
/-- .. made after H0 -/
def RunAt (K : PySem.W.Frag) (Bt H0 H : Hp) (v : V) (b : PStr) (m : Nat) (p : PlS) (nw : Nat) : Prop := Same Bt H0 ∧ Same H0 H ∧ ∃ a q, v = .ref a ∧ H0 a = none ∧ H0 q = none ∧ RunRaw K Bt H a q b m p nw
theorem RunRaw.same {K : PySem.W.Frag} {Bt H H' : Hp} {a q : Addr} {b : PStr} {m : Nat} {p : PlS} {nw : Nat} (h : RunRaw K Bt H a q b m p nw) (ea : ∀ o, H a = some o → H' a = some o) (eq : ∀ o, H q = some o → H' q = some o) : RunRaw K Bt H' a q b m p nw := by
  obtain ⟨dx, fs, kw, W, t, Tf, h1, h2, h3, h4, r⟩ := h
  exact ⟨dx, fs, kw, W, t, Tf, ea _ h1, h2, h3, eq _ h4, r⟩
theorem RunRaw.mono {K : PySem.W.Frag} {Bt H : Hp} {a q : Addr} {b : PStr} {m : Nat} {p : PlS} {n n' : Nat} (h : RunRaw K Bt H a q b m p n) (l : n ≤ n') : RunRaw K Bt H a q b m p n' := by
  obtain ⟨dx, fs, kw, W, t, Tf, g1, g2, g3, g4, L, r⟩ := h
  exact ⟨dx, fs, kw, W, t, Tf, g1, g2, g3, g4, L.mono l, r⟩
theorem RunAt.same {K : PySem.W.Frag} {Bt H0 H H' : Hp} {v : V} {b : PStr} {m : Nat} {p : PlS} {nw : Nat} (h : RunAt K Bt H0 H v b m p nw) (s : Same H H') : RunAt K Bt H0 H' v b m p nw := by
  obtain ⟨hB, h1, a, q, e, a0, q0, r⟩ := h
  exact ⟨hB, h1.trans s, a, q, e, a0, q0, r.same (s _) (s _)⟩
theorem RunAt.mono {K : PySem.W.Frag} {Bt H0 H : Hp} {v : V} {b : PStr} {m : Nat} {p : PlS} {n n' : Nat} (h : RunAt K Bt H0 H v b m p n) (l : n ≤ n') : RunAt K Bt H0 H v b m p n' := by
  obtain ⟨hB, h1, a, q, e, a0, q0, r⟩ := h
  exact ⟨hB, h1, a, q, e, a0, q0, r.mono l⟩
theorem RunAt.ref {K : PySem.W.Frag} {Bt H0 H : Hp} {v : V} {b : PStr} {m : Nat} {p : PlS} {nw : Nat} (h : RunAt K Bt H0 H v b m p nw) : ∃ a dx fs, v = .ref a ∧ H a = some (.ins (ga K "Run") dx fs) ∧ fs.map (·.1) = rfsK := by
  obtain ⟨hB, h1, a, q, e, a0, q0, dx, fs, kw, W, t, Tf, g1, g2, g3, r⟩ := h
  exact ⟨a, dx, fs, e, g1, g3⟩
theorem run_meth {fs : List (PStr × V)} {m : PStr} (h : fs.map (·.1) = rfsK) (hm : m ∉ rfsK) : fs.lookup m = none := lk_none h hm
section
variable {P : Program} {w : World} {K : PySem.W.Frag} {mg : PStr → Option Value} {base : Heap}
theorem sc33_0 : FnScope ["self", "tape", "position"] ["self", "tape", "position"] (defScope s33_0) := ⟨rfl, rfl, rfl, by decide +kernel, rfl, by decide +kernel, by decide +kernel⟩
def spRInit (K : PySem.W.Frag) : Sp := fun vs H Q _ => ∃ Bt H0 x dx t b Tf m h, vs = [.ref x, t, .int h] ∧ NewI H0 H x dx (ga K "Run") ∧ TapeAt K Bt t b Tf m ∧ ∀ H' q, Same H0 H' → H0 q = none → q ≠ x → RunRaw K Bt H' x q b m (Tf, h) 0 → Q .non H'

theorem ok_run_init (T : Txt P K mg) : Mkr P w K mg base 1 (ga K "Run") (spRInit K) := by
  refine mkrN T 53 (d := d33_0) rfl "Run" (by decide +kernel) rfl rfl sc33_0 (fun _ _ _ _ _ _ us hl => match us, hl with | [_, _, _], _ => rfl) (fun vs H Q E h => ?_) (fun f cdv A outer s H vs Q E hr h => ?_)
  · obtain ⟨Bt, H0, x, dx, t, b, Tf, m, hh, rfl, _⟩ := h
    rfl
  · have cR := T.cls "Run" (by decide +kernel)
    have n1 := T.noat ("Run", "own_tape") (by decide +kernel)
    have n2 := T.noat ("Run", "position") (by decide +kernel)
    have n3 := T.noat ("Run", "written") (by decide +kernel)
    refine ⟨_, (pss_cons (ps_fld (pv 0) (pv 1) rfl) (pss_cons (ps_fld (pv 0) (pv 2) rfl) (pss_one (ps_fld (pv 0) pe_dnewK rfl)))), ?_⟩
    obtain ⟨Bt, H0, x, dx, t, b, Tf, m, hh, rfl, hN, ht, hQ⟩ := h
    refine ⟨_, rfl, _, rfl, x, _, dx, _, rfl, hN.at_, cR, n1, by decide, ?_⟩
    refine ⟨_, rfl, _, rfl, x, _, dx, _, rfl, upd_same, cR, n2, (by show 1 < 1000; decide), ?_⟩
    intro q hq
    have nxq : x ≠ q := ne_free upd_same hq
    have s1 : Same H0 (upd (upd H x (.ins (ga K "Run") dx (putF "own_tape" t []))) x (.ins (ga K "Run") dx (putF "position" (.int hh) (putF "own_tape" t [])))) := Same.put (Same.put hN.same hN.1) hN.1
    refine ⟨_, rfl, x, _, dx, _, rfl, by rw [upd_ne nxq]; exact upd_same, cR, n3, (by rw [pf2 _ _ _ _ (by decide)]; show 2 < 1000; decide), ?_⟩
    rw [pf3 _ _ _ _ _ _ (by decide) (by decide) (by decide)]
    refine hQ _ q (Same.put (Same.new s1 hq) hN.1) (s1.free hq) (Ne.symm nxq) ⟨dx, _, [], fun _ => none, t, Tf, upd_same, ⟨rfl, rfl, rfl⟩, rfl, ?_, LDk.nil, ht, rfl⟩
    rw [upd_ne (Ne.symm nxq)]
    exact upd_same
theorem sc33_1 : FnScope ["self"] ["self"] (defScope s33_1) := ⟨rfl, rfl, rfl, by decide +kernel, rfl, by decide +kernel, by decide +kernel⟩
def spRLet (K : PySem.W.Frag) : Sp := fun vs H Q _ => ∃ Bt H0 v b m p nw, vs = [v] ∧ RunAt K Bt H0 H v b m p nw ∧ Q (.str (p.1 p.2)) H

theorem ok_run_letter (T : Txt P K mg) : Mtd P w K mg base 3 (ga K "Run") "letter" (spRLet K) := by
  refine mtdN T 54 (d := d33_1) rfl "Run" "letter" (by decide +kernel) (by decide +kernel) rfl rfl sc33_1 (fun _ _ _ _ _ _ us hl => match us, hl with | [_], _ => rfl) (fun vs H Q E h => ?_) (fun f cdv A outer s H vs Q E hr h => ?_)
  · obtain ⟨Bt, H0, v, b, m, p, nw, rfl, _⟩ := h
    rfl
  · have cR := T.cls "Run" (by decide +kernel)
    have n1 := T.noat ("Run", "own_tape") (by decide +kernel)
    have n2 := T.noat ("Run", "position") (by decide +kernel)
    have n3 := T.noat ("Run", "written") (by decide +kernel)
    refine ⟨_, (pss_cons (ps_if (pt_cmp (pc_din (hu_of hr) (pe_fld (pv 0) (by rfl)) (pe_fld (pv 0) (by rfl)))) (pss_one (ps_ret (pe_dget (hu_of hr) (pe_fld (pv 0) (by rfl)) (pe_fld (pv 0) (by rfl)) (fun _ _ => rfl)))) pss_nil) (pss_one (ps_ret (pe_m (ok_tape_letter T) hr (by decide) (pe_fld (pv 0) (by rfl)) (pa_cons (pe_fld (pv 0) (by rfl)) pa_nil))))), ?_⟩
    obtain ⟨Bt, H0, v, b, m, p, nw, rfl, ⟨sB, s0, a, q, rfl, a0, q0, dx, fs, kw, W, t, Tf, ha, ⟨f1, f2, f3⟩, f4, hq, L, ht, hp⟩, hQ⟩ := h
    refine ⟨_, rfl, a, _, dx, fs, _, rfl, ha, cR, n2, f2, _, rfl, a, _, dx, fs, _, rfl, ha, cR, n3, f3, q, _, rfl, .inl ⟨kw, Sum.inl p.2, .inl hq, rfl, rfl⟩, _, rfl, ?_⟩
    have e : p.1 p.2 = (W p.2).getD (Tf p.2) := by rw [hp]
    rw [e] at hQ
    cases w1 : W p.2 with
    | some z =>
      have hv : valV kw (Sum.inl p.2) = some (.str z) := by rw [L.vl, w1]; rfl
      rw [w1] at hQ
      rw [hv]
      exact iteT ⟨_, rfl, a, _, dx, fs, _, rfl, ha, cR, n3, f3, _, rfl, a, _, dx, fs, _, rfl, ha, cR, n2, f2, q, .str z, rfl, .inl ⟨kw, Sum.inl p.2, .inl hq, rfl, hv.symm⟩, hQ⟩
    | none =>
      have hv : valV kw (Sum.inl p.2) = none := by rw [L.vl, w1]; rfl
      rw [w1] at hQ
      rw [hv]
      obtain ⟨ta, tdx, tfs, tq, tkv, tf, rfl, tha, tf1, tf2, tf3, _⟩ := id (ht.same (sB.trans s0))
      exact iteF ⟨_, rfl, a, _, dx, fs, _, rfl, ha, cR, n1, f1, ta, tdx, tfs, rfl, tha, tape_meth (K := K) tf3 (by decide), _, rfl, a, _, dx, fs, _, rfl, ha, cR, n2, f2, _, b, Tf, p.2, rfl, (ht.same (sB.trans s0)).r, hQ⟩
/-! ### perform -/
theorem sc33_2 : FnScope ["self", "step"] ["self", "step"] (defScope s33_2) := ⟨rfl, rfl, rfl, by decide +kernel, rfl, by decide +kernel, by decide +kernel⟩
def spPerf (K : PySem.W.Frag) : Sp := fun vs H Q _ => ∃ Bt H0 v u s b m p nw, vs = [v, u] ∧ RunAt K Bt H0 H v b m p nw ∧ nw ≤ 1000 ∧ StpAt K H u s ∧ (∀ q, rstep p s = some q → ∀ H', RunAt K Bt H0 H' v b m q (nw + 1) → Q (.bl true) H') ∧ (rstep p s = none → Q (.bl false) H)

theorem ok_perform (T : Txt P K mg) : Mtd P w K mg base 4 (ga K "Run") "perform" (spPerf K) := by
  refine mtdN T 55 (d := d33_2) rfl "Run" "perform" (by decide +kernel) (by decide +kernel) rfl rfl sc33_2 (fun _ _ _ _ _ _ us hl => match us, hl with | [_, _], _ => rfl) (fun vs H Q E h => ?_) (fun f cdv A outer s H vs Q E hr h => ?_)
  · obtain ⟨Bt, H0, v, u, s, b, m, p, nw, rfl, _⟩ := h
    rfl
  · have cR := T.cls "Run" (by decide +kernel)
    have n2 := T.noat ("Run", "position") (by decide +kernel)
    have n3 := T.noat ("Run", "written") (by decide +kernel)
    refine ⟨_, pss_cons (ps_match (pe_ix ix_tup (pv 1) pe_int (fun _ _ => rfl)) (pm_str (pss_one (ps_dput (hu_of hr) (pe_fld (pv 0) (by rfl)) (pe_fld (pv 0) (by rfl)) (pe_ix ix_tup (pv 1) pe_int (fun _ _ => rfl)) rfl)) (pm_str (pss_one (ps_ret (pe_cmpR op_eq (pe_m0 (ok_run_letter T) hr (by decide) (pv 0)) (pe_ix ix_tup (pv 1) pe_int (fun _ _ => rfl)) (nomark _)))) (pm_any (pss_one (ps_fldaug (pv 0) (pe_d (ok_move_of T) hr (by decide) (by rfl) (pa_cons (pv 1) pa_nil)) in_add)))))) (pss_one (ps_ret pe_bl)), ?_⟩
    obtain ⟨Bt, H0, v, u, s, b, m, p, nw, rfl, hR, hn, ⟨bb, rfl, hb, ho⟩, h1, h2⟩ := h
    obtain ⟨sB, s0, a, q, rfl, a0, q0, dx, fs, kw, W, t, Tf, ha, ⟨f1, f2, f3⟩, f4, hq, L, ht, hp⟩ := id hR
    have naq : a ≠ q := ne_of ha hq (by intro z; cases z)
    have flen : fs.length < 1000 := by
      have := congrArg List.length f4
      rw [List.length_map] at this
      rw [this]
      decide
    have lk := fun (g : PStr) (k : Int) => lookup_putF "position" g (.int k) fs
    have mv : ∀ k : Int, RunAt K Bt H0 (upd H a (.ins (ga K "Run") dx (putF "position" (.int k) fs))) (.ref a) b m (p.1, k) (nw + 1) := fun k =>
      ⟨sB, Same.put s0 a0, a, q, rfl, a0, q0, dx, _, kw, W, t, Tf, upd_same, ⟨by rw [lk, if_neg (by decide)]; exact f1, by rw [lk, if_pos rfl], by rw [lk, if_neg (by decide)]; exact f3⟩, (keys_putF (by rw [f4]; decide)).trans f4, by rw [upd_ne (Ne.symm naq)]; exact hq, L.mono (Nat.le_succ _), ht, hp⟩
    cases s with
    | left =>
      refine ⟨_, rfl, bb, _, 0, _, rfl, rfl, SqT.of hb, atI_nat rfl, "left", rfl, (if_neg (by decide)).mpr ⟨"left", rfl, (if_neg (by decide)).mpr ?_⟩⟩
      exact ⟨_, rfl, a, _, dx, fs, _, rfl, ha, cR, n2, f2, _, rfl, _, .left, rfl, ⟨bb, rfl, hb, ho⟩, p.2, -1, rfl, rfl, dx, fs, ha, flen, h1 (p.1, p.2 + -1) rfl _ (mv _)⟩
    | right =>
      refine ⟨_, rfl, bb, _, 0, _, rfl, rfl, SqT.of hb, atI_nat rfl, "right", rfl, (if_neg (by decide)).mpr ⟨"right", rfl, (if_neg (by decide)).mpr ?_⟩⟩
      exact ⟨_, rfl, a, _, dx, fs, _, rfl, ha, cR, n2, f2, _, rfl, _, .right, rfl, ⟨bb, rfl, hb, ho⟩, p.2, 1, rfl, rfl, dx, fs, ha, flen, h1 (p.1, p.2 + 1) rfl _ (mv _)⟩
    | wr z =>
      refine ⟨_, rfl, bb, _, 0, _, rfl, rfl, SqT.of hb, atI_nat rfl, "write", rfl, (if_pos rfl).mpr ?_⟩
      refine ⟨_, rfl, bb, _, 1, _, rfl, rfl, SqT.of hb, atI_nat rfl, _, rfl, a, _, dx, fs, _, rfl, ha, cR, n3, f3, _, rfl, a, _, dx, fs, _, rfl, ha, cR, n2, f2, q, _, rfl, .inl ⟨kw, Sum.inl p.2, hq, rfl, L.small (by omega), rfl⟩, h1 (pset p.1 p.2 z, p.2) rfl _ ?_⟩
      refine ⟨sB, Same.put s0 q0, a, q, rfl, a0, q0, dx, fs, _, fset W p.2 (some z), t, Tf, by rw [upd_ne naq]; exact ha, ⟨f1, f2, f3⟩, f4, upd_same, L.put ho, ht, ?_⟩
      funext j
      show (if j = p.2 then z else p.1 j) = (fset W p.2 (some z) j).getD (Tf j)
      by_cases e : j = p.2
      · rw [if_pos e, e, fset_same]
        rfl
      · rw [if_neg e, fset_ne _ _ e, hp]
    | ex z =>
      refine ⟨_, rfl, bb, _, 0, _, rfl, rfl, SqT.of hb, atI_nat rfl, "expect", rfl, (if_neg (by decide)).mpr ⟨"expect", rfl, (if_pos rfl).mpr ?_⟩⟩
      refine ⟨_, rfl, a, dx, fs, rfl, ha, run_meth f4 (by decide), Bt, H0, _, b, m, p, nw, rfl, hR, _, rfl, bb, _, 1, _, rfl, rfl, SqT.of hb, atI_nat rfl, rfl, ?_⟩
      by_cases e : p.1 p.2 = z
      · rw [decide_eq_true (congrArg V.str e)]
        exact h1 p (if_pos e) H (hR.mono (Nat.le_succ _))
      · rw [decide_eq_false (fun q => e (V.str.inj q))]
        exact h2 (if_neg e)
end
end TX
end
section
set_option autoImplicit false
set_option maxHeartbeats 4000000
/-! perform_all, place, run; check_places. -/
namespace TX
open PySem PySem.Spec PyProof.Rows L2 He TE
section
variable {P : Program} {w : World} {K : PySem.W.Frag} {mg : PStr → Option Value} {base : Heap}
theorem sc33_3 : FnScope ["self", "steps", "index", "step"] ["self", "steps"] (defScope s33_3) := ⟨rfl, rfl, rfl, by decide +kernel, rfl, by decide +kernel, by decide +kernel⟩
def spPAll (K : PySem.W.Frag) : Sp := fun vs H Q _ => ∃ Bt H0 v a l b m p, vs = [v, .ref a] ∧ RunAt K Bt H0 H v b m p 0 ∧ StsAt K H0 a l ∧ l.length ≤ 1000 ∧ (∀ q, runT p l = some q → ∀ H', RunAt K Bt H0 H' v b m q l.length → Q .non H') ∧ (runT p l = none → ∀ j H', Same H0 H' → Q (.int j) H')

theorem ok_perform_all (T : Txt P K mg) : Mtd P w K mg base 5 (ga K "Run") "perform_all" (spPAll K) := by
  refine mtdN T 56 (d := d33_3) rfl "Run" "perform_all" (by decide +kernel) (by decide +kernel) rfl rfl sc33_3 (fun _ _ _ _ _ _ us hl => match us, hl with | [_, _], _ => rfl) (fun vs H Q E h => ?_) (fun f cdv A outer s H vs Q E hr h => ?_)
  · obtain ⟨Bt, H0, v, a, l, b, m, p, rfl, _⟩ := h
    rfl
  · refine ⟨_, (pss_cons (ps_for (passes_of rfl) rfl (pi_enum (by rfl) (T.fre "enumerate" (by decide +kernel)) (pa_cons (pv 1) pa_nil)) (pg_tup (by rfl) (pgs_cons (pg_name (i := 2) sc33_3.nd rfl (.inl rfl)) (pgs_cons (pg_name (i := 3) sc33_3.nd rfl (.inl rfl)) pgs_nil))) (pss_one (ps_if (pt_not (pt_val (pe_m (ok_perform T) hr (by decide) (pv 0) (pa_cons (pv 3) pa_nil)))) (pss_one (ps_ret (pv 2))) pss_nil))) (pss_one (ps_ret pe_non))), ?_⟩
    obtain ⟨Bt, H0, v, a, l, b, m, p, rfl, hR, ⟨vs, hv, pr⟩, hl, h1, h2⟩ := h
    have hlen := pr.length
    refine ⟨_, rfl, a, vs, rfl, SqL.of (hR.2.1 _ _ hv), for_it walk_enum (fun i σ H' => (∃ c2 c3, σ = [some v, some (.ref a), c2, c3]) ∧ ∃ q, runT p (l.take i) = some q ∧ RunAt K Bt H0 H' v b m q i) ⟨⟨none, none, rfl⟩, p, rfl, hR⟩ (fun i σ H' _ z => let ⟨_, _, _, r⟩ := z; SqL.of (r.2.1 _ _ hv)) (fun i x σ H1 H2 hi z y => ?_) (fun σ H1 z => ?_)⟩
    · obtain ⟨⟨c2, c3, rfl⟩, q, hq, zR⟩ := z
      obtain ⟨t, x2, rfl, ht, rfl, hx⟩ := enum_y y
      have e3 : Same H1 (upd H1 t (.tup [.int (i : Nat), x2])) := Ext.upd ht
      obtain ⟨st, hst, hs⟩ := paired_at1 pr hx
      have zR' := zR.same e3
      obtain ⟨ra, rdx, rfs', er, hra, hrf⟩ := zR'.ref
      subst er
      have tk : l.take (i + 1) = l.take i ++ [st] := take_snoc hst
      have hrun : runT p (l.take (i + 1)) = rstep q st := by
        rw [tk, runT_append, hq]
        show (rstep q st).bind (fun q => some q) = rstep q st
        cases rstep q st <;> rfl
      refine ⟨t, _, rfl, SqT.of upd_same, rfl, _, _, rfl, _, _, rfl, rfl, ?_⟩
      refine ⟨_, rfl, ra, rdx, rfs', rfl, hra, run_meth hrf (by decide), _, rfl, Bt, H0, _, x2, st, b, m, q, i, rfl, zR', by omega, hs.same zR'.2.1, fun q' hq' H4 h4 => ⟨true, rfl, iteF ⟨⟨_, _, rfl⟩, q', hrun.trans hq', h4⟩⟩, fun hn => ⟨false, rfl, iteT ?_⟩⟩
      refine ⟨_, rfl, h2 ?_ _ _ zR'.2.1⟩
      have e : l = l.take (i + 1) ++ l.drop (i + 1) := (List.take_append_drop _ _).symm
      rw [e, runT_append, hrun, hn]
      rfl
    · obtain ⟨⟨c2, c3, rfl⟩, q, hq, zR⟩ := z
      rw [hlen, List.take_length] at hq
      rw [hlen] at zR
      exact h1 q hq H1 zR
theorem sc33_4 : FnScope ["self"] ["self"] (defScope s33_4) := ⟨rfl, rfl, rfl, by decide +kernel, rfl, by decide +kernel, by decide +kernel⟩
def spPlc (K : PySem.W.Frag) : Sp := fun vs H Q _ => ∃ Bt H0 v b m p nw, vs = [v] ∧ RunAt K Bt H0 H v b m p nw ∧ m + nw < 64 ∧ ∀ H' r, Same H H' → PlAt K (dif H H') r b p.1 p.2 (m + nw) → Q r H'

theorem ok_place (T : Txt P K mg) : Mtd P w K mg base 6 (ga K "Run") "place" (spPlc K) := by
  refine mtdN T 57 (d := d33_4) rfl "Run" "place" (by decide +kernel) (by decide +kernel) rfl rfl sc33_4 (fun _ _ _ _ _ _ us hl => match us, hl with | [_], _ => rfl) (fun vs H Q E h => ?_) (fun f cdv A outer s H vs Q E hr h => ?_)
  · obtain ⟨Bt, H0, v, b, m, p, nw, rfl, _⟩ := h
    rfl
  · have cR := T.cls "Run" (by decide +kernel)
    have n1 := T.noat ("Run", "own_tape") (by decide +kernel)
    have n2 := T.noat ("Run", "position") (by decide +kernel)
    have n3 := T.noat ("Run", "written") (by decide +kernel)
    refine ⟨_, (pss_one (ps_ret (pe_tup (pa_cons (pe_m (ok_with_letters T) hr (by decide) (pe_fld (pv 0) (by rfl)) (pa_cons (pe_fld (pv 0) (by rfl)) pa_nil)) (pa_cons (pe_fld (pv 0) (by rfl)) pa_nil))))), ?_⟩
    obtain ⟨Bt, H0, v, b, m, p, nw, rfl, ⟨sB, s0, a, q, rfl, a0, q0, dx, fs, kw, W, t, Tf, ha, ⟨f1, f2, f3⟩, f4, hq, L, ht, hp⟩, hmn, hQ⟩ := h
    obtain ⟨ta, tdx, tfs, tq, tkv, tf, rfl, tha, tf1, tf2, tf3, _⟩ := id (ht.same (sB.trans s0))
    refine ⟨_, rfl, a, _, dx, fs, _, rfl, ha, cR, n1, f1, ta, tdx, tfs, rfl, tha, tape_meth (K := K) tf3 (by decide), _, rfl, a, _, dx, fs, _, rfl, ha, cR, n3, f3, _, b, Tf, m, q, kw, W, nw, rfl, ht.same (sB.trans s0), hq, L, hmn, fun H1 v' e1 tp => ?_⟩
    refine ⟨_, rfl, a, _, dx, fs, _, rfl, e1 _ _ ha, cR, n2, f2, by rw [sizeLine_eq]; exact (by decide : 2 ≤ 16777216), fun pp hpp => ?_⟩
    have e2 := Same.new (o := .tup [v', .int p.2]) e1 hpp
    refine hQ _ _ e2 ⟨pp, v', rfl, (dif_at (e1.free hpp)).trans upd_same, ?_⟩
    rw [hp]
    exact tp.same (dif_up (Ext.upd hpp))
/-! ### run -/
theorem sc34 : FnScope ["steps", "tape", "head", "current", "index"] ["steps", "tape", "head"] (defScope s34) := ⟨rfl, rfl, rfl, by decide +kernel, rfl, by decide +kernel, by decide +kernel⟩
def spRun (K : PySem.W.Frag) : Sp := fun vs H Q E => ∃ a l t b Tf m h, vs = [.ref a, t, .int h] ∧ StsAt K H a l ∧ TapeAt K H t b Tf m ∧ m + l.length < 64 ∧
  (∀ q, runT (Tf, h) l = some q → ∀ H' r, Same H H' → PlAt K H' r b q.1 q.2 (m + l.length) → Q r H') ∧ (runT (Tf, h) l = none → ∀ H' d, Same H H' → E (.ref (ga K "StepFailed")) d H')

theorem ok_run (T : Txt P K mg) : KFn P w K mg base 7 (ga K "run") 2 ["head"] (spRun K) := by
  obtain ⟨fd, F⟩ := T.fn 12 d34 rfl
  obtain ⟨mv, KB⟩ := FunD.kbinds0 (ps := ["steps", "tape", "head"]) F 2 ["head"] [] (fun us _ ws => us ++ ws) (by intro q; cases q) (by intro q hq; cases hq) (fun r1 _ r4 => r1.append r4)
    (fun D doc pm an cdv ct us mv ws l1 l2 l3 => match us, mv, ws, l1, l2, l3 with | [_, _], [], [_], _, _, _ => rfl)
  refine ⟨fd, _, _, _, F.ok sc34 (fun vs H Q E h => ?_) (fun cdv A outer s H vs Q E hr h => ?_), KB, fun _ _ => rfl⟩
  · obtain ⟨a, l, t, b, Tf, m, hh, rfl, _⟩ := h
    rfl
  · refine ⟨_, (pss_cons (ps_expr (pe_d (ok_check_steps T) hr (by decide) (by rfl) (pa_cons (pv 0) pa_nil))) (pss_cons (ps_expr (pe_d (ok_check_integer T) hr (by decide) (by rfl) (pa_cons (pv 2) pa_nil))) (pss_cons (ps_set (i := 3) sc34.nd rfl (.inl rfl) (pe_k (ok_run_init T) hr (by decide) (T.glo "Run" (by decide +kernel)) (by rfl) (pa_cons (pv 1) (pa_cons (pv 2) pa_nil)))) (pss_cons (ps_set (i := 4) sc34.nd rfl (.inl rfl) (pe_m (ok_perform_all T) hr (by decide) (pv 3) (pa_cons (pv 0) pa_nil))) (pss_cons (ps_if (pt_cmpR op_notN (pv 4) pe_non (nomark _)) (pss_one (ps_raise rfl (takes_of rfl rfl rfl rfl) (pmk_e T.excS (TXE.exc_made_index PySem.F.excBase_RuntimeError PySem.F.store_RuntimeError PySem.W.kxs_RuntimeError T.excS) hr (pa_cons (pv 4) pa_nil)))) pss_nil) (pss_one (ps_ret (pe_m0 (ok_place T) hr (by decide) (pv 3))))))))), ?_⟩
    obtain ⟨a, l, t, b, Tf, m, hh, rfl, hs, ht, hml, h1, h2⟩ := h
    refine ⟨_, rfl, a, l, rfl, hs, fun H1 e1 => ?_⟩
    refine ⟨_, rfl, hh, rfl, ?_⟩
    refine ⟨_, rfl, _, rfl, ?_⟩
    intro x dx hx hdx hne
    refine ⟨H1, H1, x, dx, t, b, Tf, m, hh, rfl, ⟨hx, hdx, hne, rfl⟩, ht.same e1, fun H2 q e2 hq0 hqx raw => ⟨rfl, ?_⟩⟩
    have hR : RunAt K H1 H1 H2 (.ref x) b m (Tf, hh) 0 := ⟨Same.refl _, e2, x, q, rfl, hx, hq0, raw⟩
    obtain ⟨ra, rdx, rfs', er, hra, hrf⟩ := hR.ref
    cases er
    refine ⟨_, rfl, x, rdx, rfs', rfl, hra, run_meth hrf (by decide), _, rfl, H1, H1, _, a, l, b, m, (Tf, hh), rfl, hR, hs.same e1, by omega, fun q hq H3 h3 => ?_, fun hn j H3 e3 => ?_⟩
    · refine ⟨_, rfl, rfl, false, rfl, iteF ?_⟩
      obtain ⟨ra, rdx, rfs', er, hra, hrf⟩ := h3.ref
      cases er
      exact ⟨_, rfl, x, rdx, rfs', rfl, hra, run_meth hrf (by decide), H1, H1, _, b, m, q, _, rfl, h3, hml, fun H4 r e4 pl => h1 q hq H4 r (e1.trans (h3.2.1.trans e4)) (pl.same dif_same)⟩
    · refine ⟨_, rfl, rfl, true, rfl, iteT ?_⟩
      exact ⟨_, rfl, _, rfl, fun dd => h2 hn H3 (some dd) (e1.trans e3)⟩
/-! ### check_places -/
/-- places by name -/
def PlsAt (K : PySem.W.Frag) (H : Hp) (d : Addr) (b : PStr) (F : PStr → Option PlS) (m c : Nat) : Prop := ∃ kvs, H d = some (.dK kvs) ∧ (kvs.map (·.1)).Nodup ∧ kvs.length ≤ c ∧ (∀ p ∈ kvs, ∃ n v q, p = (Sum.inr n, v) ∧ F n = some q ∧ PlAt K H v b q.1 q.2 m ∧ Wrd n) ∧ ∀ n, (F n).isSome = true → ∃ v, (Sum.inr n, v) ∈ kvs
theorem PlAt.lock {H : Hp} {v : V} {b : PStr} {T : Int → PStr} {h : Int} {n : Nat} {d : Addr} {kvs : List (Key × V)} {od : Obj} {nm : PStr} {u : V} (x : PlAt K H v b T h n) (hd : H d = some (.dK kvs)) (hk : (Sum.inr nm, u) ∈ kvs) : PlAt K (upd H d (.frz od (.dK kvs))) v b T h n := by
  obtain ⟨p, t, e, h1, a, dx, fs, q, kv, f, e', g1, g2, g3, g4, g5, L, r⟩ := x
  have nqd : q ≠ d := fun z => by
    rw [z, hd] at g5
    cases g5
    obtain ⟨i, zz, ee, _⟩ := L.sh _ hk
    cases ee
  exact ⟨p, t, e, by rw [upd_ne (ne_of h1 hd (by intro z; cases z))]; exact h1, a, dx, fs, q, kv, f, e', by rw [upd_ne (ne_of g1 hd (by intro z; cases z))]; exact g1, g2, g3, g4, by rw [upd_ne nqd]; exact g5, L, r⟩
theorem sc43 : FnScope ["candidate", "name", "place"] ["candidate"] (defScope s43) := ⟨rfl, rfl, rfl, by decide +kernel, rfl, by decide +kernel, by decide +kernel⟩
def spChkP (K : PySem.W.Frag) : Sp := fun vs H Q _ => ∃ d b F m c, vs = [.ref d] ∧ PlsAt K H d b F m c ∧ ∀ H', Same H H' → Q .non H'

theorem ok_check_places (T : Txt P K mg) : Dfn P w K mg base 3 "check_places" (spChkP K) := by
  refine dfnN T 19 (d := d43) rfl "check_places" (by decide +kernel) rfl rfl sc43 (fun _ _ _ _ _ _ us hl => match us, hl with | [_], _ => rfl) (fun vs H Q E h => ?_) (fun f cdv A outer s H vs Q E hr h => ?_)
  · obtain ⟨d, b, F, m, c, rfl, _⟩ := h
    rfl
  · refine ⟨_, (pss_cons (ps_if (pt_not (pt_val (pe_callB call_isi (by rfl) (T.fre "isinstance" (by decide +kernel)) (by decide +kernel) (pa_cons (pv 0) (pa_cons (pe_bltn (v := .ty "dict") (by rfl) (T.fre "dict" (by decide +kernel)) (by decide +kernel) rfl) pa_nil))))) (pss_one ps_never) pss_nil) (pss_one (ps_lock (ps_for (passes_of rfl) rfl (pi_items (pv 0)) (pg_tup (by rfl) (pgs_cons (pg_name (i := 1) sc43.nd rfl (.inl rfl)) (pgs_cons (pg_name (i := 2) sc43.nd rfl (.inl rfl)) pgs_nil))) (pss_one (ps_if (PW.pt (pw_or (pt_not (pt_val (pe_d (ok_is_word T) hr (by decide) (by rfl) (pa_cons (pv 1) pa_nil)))) (pw_or1 (pt_not (pt_val (pe_d (ok_is_place T) hr (by decide) (by rfl) (pa_cons (pv 2) pa_nil))))))) (pss_one ps_never) pss_nil)))))), ?_⟩
    obtain ⟨d, b, F, m, c, rfl, ⟨kvs, hd, nd, len, sh, al⟩, hQ⟩ := h
    refine ⟨_, rfl, _, _, _, _, true, rfl, .ty _, .base (.dK hd), kit_ty (by decide +kernel), true, rfl, iteF ?_⟩
    refine ⟨d, _, hd, trivial, fun od => ?_⟩
    have lk : upd H d (.frz od (.dK kvs)) d = some (.frz od (.dK kvs)) := upd_same
    refine ⟨_, rfl, d, od, kvs, rfl, lk, for_it walk_items (fun i σ H' => (∃ c1 c2, σ = [some (.ref d), c1, c2]) ∧ Same (upd H d (.frz od (.dK kvs))) H') ⟨⟨none, none, rfl⟩, Same.refl _⟩ (fun i σ H' _ z => z.2 _ _ lk) (fun i x σ H1 H2 hi z y => ?_) (fun σ H1 z => ⟨z.2 _ _ lk, hQ _ (same_unlock hd z.2)⟩)⟩
    obtain ⟨⟨c1, c2, rfl⟩, zs⟩ := z
    obtain ⟨t, k, v, rfl, ht, rfl, hk⟩ := items_y y
    have e3 := Same.new (o := .tup [kV k, v]) zs ht
    obtain ⟨n, v', q, ee, hF, hp, hw⟩ := sh _ (List.mem_of_getElem? hk)
    cases ee
    refine ⟨t, _, rfl, SqT.of upd_same, rfl, _, _, rfl, _, _, rfl, rfl, ?_⟩
    refine ⟨_, rfl, n, rfl, hw, fun H4 e4 => ⟨true, rfl, iteF ?_⟩⟩
    refine ⟨_, rfl, _, b, q.1, q.2, m, rfl, ((hp.lock hd (List.mem_of_getElem? hk)).same e3).same e4, true, rfl, iteF ?_⟩
    exact ⟨⟨_, _, rfl⟩, e3.trans e4⟩
end
end TX
end
section
set_option autoImplicit false
set_option maxHeartbeats 4000000
/-! run_joint. -/
namespace TX
open PySem PySem.Spec PyProof.Rows L2 He TE
theorem TapeAt.unlock {K : PySem.W.Frag} {H : Hp} {v : V} {b : PStr} {T : Int → PStr} {n : Nat} {d : Addr} {u : HO} {od : Obj} (h : TapeAt K (upd H d (.frz od u)) v b T n) : TapeAt K H v b T n := by
  obtain ⟨a, dx, fs, q, kv, f, e, h1, h2, h3, h4, h5, r⟩ := h
  have na : a ≠ d := fun z => by rw [z, upd_same] at h1; cases h1
  have nq : q ≠ d := fun z => by rw [z, upd_same] at h5; cases h5
  exact ⟨a, dx, fs, q, kv, f, e, by rw [upd_ne na] at h1; exact h1, h2, h3, h4, by rw [upd_ne nq] at h5; exact h5, r⟩
theorem TapeAt.unl {K : PySem.W.Frag} {H : Hp} {v : V} {b : PStr} {T : Int → PStr} {n : Nat} {d : Addr} {u o : HO} {od : Obj} (hd : H d = some (.frz od u)) (h : TapeAt K H v b T n) : TapeAt K (upd H d o) v b T n := by
  obtain ⟨a, dx, fs, q, kv, f, e, h1, h2, h3, h4, h5, r⟩ := h
  exact ⟨a, dx, fs, q, kv, f, e, by rw [upd_ne (ne_of h1 hd (by intro z; cases z))]; exact h1, h2, h3, h4, by rw [upd_ne (ne_of h5 hd (by intro z; cases z))]; exact h5, r⟩
theorem PlAt.unl {K : PySem.W.Frag} {H : Hp} {v : V} {b : PStr} {T : Int → PStr} {h : Int} {n : Nat} {d : Addr} {u o : HO} {od : Obj} (hd : H d = some (.frz od u)) (x : PlAt K H v b T h n) : PlAt K (upd H d o) v b T h n := by
  obtain ⟨p, t, e, h1, ht⟩ := x
  exact ⟨p, t, e, by rw [upd_ne (ne_of h1 hd (by intro z; cases z))]; exact h1, ht.unl hd⟩
theorem RunRaw.unlock {K : PySem.W.Frag} {B H : Hp} {a q : Addr} {b : PStr} {m : Nat} {p : PlS} {nw : Nat} {d : Addr} {u : HO} {od : Obj} (h : RunRaw K (upd B d (.frz od u)) H a q b m p nw) : RunRaw K B H a q b m p nw := by
  obtain ⟨dx, fs, kw, W, t, Tf, g1, g2, g3, g4, L, ht, hp⟩ := h
  exact ⟨dx, fs, kw, W, t, Tf, g1, g2, g3, g4, L, ht.unlock, hp⟩
/-- several runs, in the dict at d -/
structure RunsAt (K : PySem.W.Frag) (B H : Hp) (d : Addr) (b : PStr) (m c : Nat) (G : PStr → Option PlS) (nw : Nat) (kvs : List (Key × V)) (A Qf : PStr → Addr) : Prop where
  sm : Same B H
  d0 : B d = none
  at_ : H d = some (.dK kvs)
  nd : (kvs.map (·.1)).Nodup
  len : kvs.length ≤ c
  sh : ∀ p ∈ kvs, ∃ n, p = (Sum.inr n, V.ref (A n)) ∧ (G n).isSome = true
  ent : ∀ n s, G n = some s → (Sum.inr n, V.ref (A n)) ∈ kvs ∧ RunRaw K B H (A n) (Qf n) b m s nw ∧ A n ≠ d ∧ Qf n ≠ d ∧ B (A n) = none ∧ B (Qf n) = none
  dst : ∀ n n', (G n).isSome = true → (G n').isSome = true → n ≠ n' → A n ≠ A n' ∧ A n ≠ Qf n' ∧ Qf n ≠ Qf n'
theorem RunsAt.unlock {K : PySem.W.Frag} {B H : Hp} {D : Addr} {b : PStr} {m c : Nat} {G : PStr → Option PlS} {nw : Nat} {kvs : List (Key × V)} {A Qf : PStr → Addr} {d : Addr} {u : HO} {od : Obj} (hd : B d = some u) (R : RunsAt K (upd B d (.frz od u)) H D b m c G nw kvs A Qf) : RunsAt K B (upd H d u) D b m c G nw kvs A Qf := by
  have lk : upd B d (.frz od u) d = some (.frz od u) := upd_same
  have ndD : D ≠ d := fun e => by have := R.d0; rw [e, lk] at this; cases this
  have fr : ∀ {x : Addr}, upd B d (.frz od u) x = none → x ≠ d ∧ B x = none := fun {x} h => by
    have n : x ≠ d := fun e => by rw [e, lk] at h; cases h
    rw [upd_ne n] at h
    exact ⟨n, h⟩
  refine ⟨same_unlock hd R.sm, (fr R.d0).2, by rw [upd_ne ndD]; exact R.at_, R.nd, R.len, R.sh, fun n s hs => ?_, R.dst⟩
  obtain ⟨h1, h2, h3, h4, h5, h6⟩ := R.ent n s hs
  obtain ⟨a1, a2⟩ := fr h5
  obtain ⟨q1, q2⟩ := fr h6
  exact ⟨h1, h2.unlock.same (fun o h => by rw [upd_ne a1]; exact h) (fun o h => by rw [upd_ne q1]; exact h), h3, h4, a2, q2⟩
noncomputable def tkG (kvp : List (Key × V)) (F : PStr → Option PlS) (i : Nat) (n : PStr) : Option PlS := open Classical in if (Sum.inr n : Key) ∈ (kvp.take i).map (·.1) then F n else none
theorem tkG_yes {kvp : List (Key × V)} {F : PStr → Option PlS} {i : Nat} {n : PStr} (h : (Sum.inr n : Key) ∈ (kvp.take i).map (·.1)) : tkG kvp F i n = F n := if_pos h
theorem tkG_no {kvp : List (Key × V)} {F : PStr → Option PlS} {i : Nat} {n : PStr} (h : (Sum.inr n : Key) ∉ (kvp.take i).map (·.1)) : tkG kvp F i n = none := if_neg h
theorem RunRaw.aq {K : PySem.W.Frag} {B H : Hp} {a q : Addr} {b : PStr} {m : Nat} {p : PlS} {nw : Nat} (h : RunRaw K B H a q b m p nw) : (∃ o, H a = some o) ∧ (∃ o, H q = some o) ∧ a ≠ q := by
  obtain ⟨dx, fs, kw, W, t, Tf, g1, g2, g3, g4, _⟩ := h
  exact ⟨⟨_, g1⟩, ⟨_, g4⟩, ne_of g1 g4 (by intro z; cases z)⟩
theorem run_own {p q : PlS} {n : PStr} {st : Step} {l : Line} (h : runT p (own n l) = some q) : runT p (own n (l ++ [(n, st)])) = rstep q st := by
  rw [own_append, own_one, if_pos rfl, runT_append, h]
  show (rstep q st).bind (fun q => some q) = rstep q st
  cases rstep q st <;> rfl
theorem own_other {n n' : PStr} {st : Step} {l : Line} (h : n ≠ n') : own n' (l ++ [(n, st)]) = own n' l := by
  rw [own_append, own_one, if_neg h, List.append_nil]
section
variable {P : Program} {w : World} {K : PySem.W.Frag} {mg : PStr → Option Value} {base : Heap}
theorem sc44 : FnScope ["steps", "places", "name", "step", "runs", "index", "own", "tape", "head"] ["steps", "places"] (defScope s44) := ⟨rfl, rfl, rfl, by decide +kernel, rfl, by decide +kernel, by decide +kernel⟩
def spRJ (K : PySem.W.Frag) : Sp := fun vs H Q E => ∃ a d ln b F m c, vs = [.ref a, .ref d] ∧ LineAt K H a ln ∧ PlsAt K H d b F m c ∧ (∀ p ∈ ln, (F p.1).isSome = true) ∧ m + ln.length < 64 ∧ c < 64 ∧
  ((∀ n p, F n = some p → (runT p (own n ln)).isSome = true) → ∀ H' r, Same H H' → PlsAt K H' r b (fun n => (F n).bind fun p => runT p (own n ln)) (m + ln.length) c → Q (.ref r) H') ∧
  ((∃ n p, F n = some p ∧ runT p (own n ln) = none) → ∀ H' d', Same H H' → E (.ref (ga K "StepFailed")) d' H')

theorem ok_run_joint (T : Txt P K mg) : Dfn P w K mg base 7 "run_joint" (spRJ K) := by
  refine dfnN T 20 (d := d44) rfl "run_joint" (by decide +kernel) rfl rfl sc44 (fun _ _ _ _ _ _ us hl => match us, hl with | [_, _], _ => rfl) (fun vs H Q E h => ?_) (fun f cdv A outer s H vs Q E hr h => ?_)
  · obtain ⟨a, d, ln, b, F, m, c, rfl, _⟩ := h
    rfl
  · refine ⟨_, (pss_cons (ps_expr (pe_d (ok_check_named T) hr (by decide) (by rfl) (pa_cons (pv 0) pa_nil))) (pss_cons (ps_expr (pe_d (ok_check_places T) hr (by decide) (by rfl) (pa_cons (pv 1) pa_nil))) (pss_cons (ps_for (passes_of rfl) rfl (pi_list (pv 0)) (pg_tup (by rfl) (pgs_cons (pg_name (i := 2) sc44.nd rfl (.inl rfl)) (pgs_cons (pg_name (i := 3) sc44.nd rfl (.inl rfl)) pgs_nil))) (pss_one (ps_if (pt_cmp (pc_dnotin (hu_of hr) (pv 2) (pv 1))) (pss_one ps_never) pss_nil))) (pss_cons (ps_lock (ps_setDc (i := 4) (own := [("name", 2), ("tape", 7), ("head", 8)]) (g := (gTup K 2 (gCons (gName 2) (gCons (gTup K 2 (gCons (gName 7) (gCons (gName 8) gNil))) gNil)))) (tt := tYes) rfl sc44.nd rfl rfl (sw_dc rfl rfl rfl (by decide +kernel)) (pi_items (pv 1)) (blkOk_by (own := [("name", 2), ("tape", 7), ("head", 8)]) (N := ["steps", "places", "name", "step", "runs", "index", "own", "tape", "head"]) (sc := defScope s44) (by decide +kernel)) (fun _ _ _ _ _ => (pg_tup (by rfl) (pgs_cons (pg_name (i := 2) sc44.nd rfl (.inl rfl)) (pgs_cons (pg_tup (by rfl) (pgs_cons (pg_name (i := 7) sc44.nd rfl (.inl rfl)) (pgs_cons (pg_name (i := 8) sc44.nd rfl (.inl rfl)) pgs_nil))) pgs_nil)))) (fun _ _ _ _ _ => pts_nil) (fun _ _ _ _ _ => (pv 2)) (fun _ _ _ _ _ => (pe_k (ok_run_init T) hr (by decide) (T.glo "Run" (by decide +kernel)) (by rfl) (pa_cons (pv 7) (pa_cons (pv 8) pa_nil)))))) (pss_cons (ps_for (passes_of rfl) rfl (pi_enum (by rfl) (T.fre "enumerate" (by decide +kernel)) (pa_cons (pv 0) pa_nil)) (pg_tup (by rfl) (pgs_cons (pg_name (i := 5) sc44.nd rfl (.inl rfl)) (pgs_cons (pg_tup (by rfl) (pgs_cons (pg_name (i := 2) sc44.nd rfl (.inl rfl)) (pgs_cons (pg_name (i := 3) sc44.nd rfl (.inl rfl)) pgs_nil))) pgs_nil))) (pss_cons (ps_set (i := 6) sc44.nd rfl (.inl rfl) (pe_dget (hu_of hr) (pv 4) (pv 2) (fun _ _ => rfl))) (pss_one (ps_if (pt_not (pt_val (pe_m (ok_perform T) hr (by decide) (pv 6) (pa_cons (pv 3) pa_nil)))) (pss_one (ps_raise rfl (takes_of rfl rfl rfl rfl) (pmk_e T.excS (TXE.exc_made_index PySem.F.excBase_RuntimeError PySem.F.store_RuntimeError PySem.W.kxs_RuntimeError T.excS) hr (pa_cons (pv 5) pa_nil)))) pss_nil)))) (pss_one (ps_ret (pe_lock (pe_dc (own := [("name", 2), ("own", 6)]) (g := (gTup K 2 (gCons (gName 2) (gCons (gName 6) gNil)))) (tt := tYes) rfl sc44.nd (pi_items (pv 4)) (blkOk_by (own := [("name", 2), ("own", 6)]) (N := ["steps", "places", "name", "step", "runs", "index", "own", "tape", "head"]) (sc := defScope s44) (by decide +kernel)) (fun _ _ _ _ _ => (pg_tup (by rfl) (pgs_cons (pg_name (i := 2) sc44.nd rfl (.inl rfl)) (pgs_cons (pg_name (i := 6) sc44.nd rfl (.inl rfl)) pgs_nil)))) (fun _ _ _ _ _ => pts_nil) (fun _ _ _ _ _ => (pv 2)) (fun _ _ _ _ _ => (pe_m0 (ok_place T) hr (by decide) (pv 6)))))))))))), ?_⟩
    obtain ⟨a, d, ln, b, F, m, c, rfl, hl, hp, hin, hml, hc, h1, h2⟩ := h
    refine ⟨_, rfl, a, ln, rfl, hl, fun H1 e1 => ?_⟩
    have hpS : ∀ {H' : Hp}, Same H H' → PlsAt K H' d b F m c := fun {H'} s => by
      obtain ⟨kvs, g1, g2, g3, g4, g5⟩ := hp
      exact ⟨kvs, s _ _ g1, g2, g3, fun p hp => let ⟨n, v, q, e, hF, r, hw⟩ := g4 p hp; ⟨n, v, q, e, hF, r.same s, hw⟩, g5⟩
    refine ⟨_, rfl, d, b, F, m, c, rfl, hpS e1, fun H2 e2 => ?_⟩
    have e12 := e1.trans e2
    obtain ⟨kvp, pd, pnd, plen, psh, pal⟩ := hpS e12
    obtain ⟨vs, hv, pr⟩ := hl.same e12
    have hlen := pr.length
    -- every name is in places
    refine ⟨_, rfl, a, rfl, ⟨vs, SqL.of hv⟩, for_it walk_list (fun i σ H' => (∃ c2 c3, σ = [some (.ref a), some (.ref d), c2, c3, none, none, none, none, none]) ∧ H' = H2) ⟨⟨none, none, rfl⟩, rfl⟩ (fun i σ H' _ z => SqL.of (by rw [z.2]; exact hv)) (fun i x σ H3 H4 hi z y => ?_) (fun σ H3 z => ?_)⟩
    · obtain ⟨⟨c2, c3, rfl⟩, rfl⟩ := z
      obtain ⟨rfl, hy⟩ := y
      obtain ⟨⟨n, st⟩, hst, ⟨ta, v', rfl, hta, hs, hw⟩⟩ := paired_at1 pr hy
      obtain ⟨u, hu⟩ := pal n (hin _ (List.mem_of_getElem? hst))
      refine ⟨ta, _, rfl, SqT.of hta, rfl, _, _, rfl, _, _, rfl, rfl, ?_⟩
      exact ⟨_, rfl, _, rfl, d, _, rfl, .inl ⟨kvp, Sum.inr n, .inl pd, rfl, rfl⟩, _, rfl, iteF' (by rw [valV_of_mem pnd hu]; rfl) ⟨⟨_, _, rfl⟩, rfl⟩⟩
    obtain ⟨⟨c2, c3, rfl⟩, rfl⟩ := z
    -- the runs
    refine ⟨d, _, pd, trivial, fun od => ?_⟩
    have lk : upd H3 d (.frz od (.dK kvp)) d = some (.frz od (.dK kvp)) := upd_same
    refine ⟨_, rfl, d, od, kvp, rfl, lk, fun D hD => ?_⟩
    have ndD : d ≠ D := ne_free lk hD
    have hD1 : H3 D = none := by rw [upd_ne (Ne.symm ndD)] at hD; exact hD
    let Gi : Nat → PStr → Option PlS := tkG kvp F
    have gi : ∀ {i n s}, Gi i n = some s → (Sum.inr n : Key) ∈ (kvp.take i).map (·.1) ∧ F n = some s := fun {i n s} h => by
      have h' : tkG kvp F i n = some s := h
      by_cases q : (Sum.inr n : Key) ∈ (kvp.take i).map (·.1)
      · rw [tkG_yes q] at h'
        exact ⟨q, h'⟩
      · rw [tkG_no q] at h'
        cases h'
    have gi' : ∀ {i n}, (Gi i n).isSome = true → (Sum.inr n : Key) ∈ (kvp.take i).map (·.1) := fun {i n} h => by
      obtain ⟨s, hs⟩ := Option.isSome_iff_exists.mp h
      exact (gi hs).1
    refine dc_it walk_items (fun i H' => ∃ acc Af Qf, RunsAt K (upd H3 d (.frz od (.dK kvp))) H' D b m i (Gi i) 0 acc Af Qf)
      ⟨[], fun _ => 0, fun _ => 0, Same.new (Same.refl _) hD, hD, upd_same, .nil, Nat.le_refl _, fun _ h => (by cases h), fun n s hs => absurd (gi hs).1 (by rw [List.take_zero]; exact List.not_mem_nil), fun n n' hs => absurd (gi' hs) (by rw [List.take_zero]; exact List.not_mem_nil)⟩ (fun i H' _ z => let ⟨_, _, _, r⟩ := z; r.sm _ _ lk) (fun i x H4 H5 hi z y => ?_) (fun H4 z => ?_)
    · obtain ⟨acc, Af, Qf, R⟩ := z
      obtain ⟨t, k, v, rfl, ht, rfl, hk⟩ := items_y y
      have e3 := Same.new (o := .tup [kV k, v]) R.sm ht
      obtain ⟨n, v', q, ee, hF, hpl, hw⟩ := psh _ (List.mem_of_getElem? hk)
      cases ee
      obtain ⟨pp, tp, rfl, hpp, htp⟩ := hpl.lock (od := od) pd (List.mem_of_getElem? hk)
      have hnk : (Sum.inr n : Key) ∉ (kvp.take i).map (·.1) := by
        rw [List.map_take]
        exact not_take pnd (by rw [List.getElem?_map, hk]; rfl)
      have hn : valV acc (Sum.inr n) = none := by
        cases q : valV acc (Sum.inr n) with
        | none => rfl
        | some v =>
          obtain ⟨n', e, hs⟩ := R.sh _ (valV_mem q)
          cases e
          exact absurd (gi' hs) hnk
      refine ⟨t, _, rfl, SqT.of upd_same, rfl, _, _, rfl, _, _, rfl, ⟨pp, _, rfl, SqT.of (e3 _ _ hpp), rfl, _, _, rfl, _, _, rfl, rfl, rfl, rfl, ?_⟩⟩
      refine ⟨_, rfl, _, rfl, _, rfl, ?_⟩
      intro x dx hx hdx hne
      refine ⟨upd H3 d (.frz od (.dK kvp)), _, x, dx, tp, b, q.1, m, q.2, rfl, ⟨hx, hdx, hne, rfl⟩, htp, fun H6 qq e6 hq0 hqx raw => ⟨rfl, ?_⟩⟩
      have hacc5 : upd H4 t (.tup [kV (Sum.inr n), .ref pp]) D = some (.dK acc) := by rw [upd_ne (ne_free R.at_ ht)]; exact R.at_
      have hacc6 : H6 D = some (.dK acc) := e6 _ _ hacc5
      have nxD : x ≠ D := fun e => by rw [e, hacc5] at hx; cases hx
      have nqD : qq ≠ D := fun e => by rw [e, hacc5] at hq0; cases hq0
      have e46 : Same H4 H6 := (Ext.upd ht).trans e6
      have tk : kvp.take (i + 1) = kvp.take i ++ [(Sum.inr n, .ref pp)] := take_snoc hk
      have gN : ∀ {n'}, n' ≠ n → Gi (i + 1) n' = Gi i n' := fun {n'} hne' => by
        show tkG kvp F (i + 1) n' = tkG kvp F i n'
        by_cases q : (Sum.inr n' : Key) ∈ (kvp.take i).map (·.1)
        · rw [tkG_yes q, tkG_yes (by rw [tk, List.map_append]; exact List.mem_append_left _ q)]
        · rw [tkG_no q, tkG_no]
          rw [tk, List.map_append]
          intro h
          rcases List.mem_append.mp h with h | h
          · exact q h
          · exact hne' (Sum.inr.inj (List.mem_singleton.mp h))
      have gS : Gi (i + 1) n = F n := tkG_yes (by rw [tk, List.map_append]; exact List.mem_append_right _ (List.mem_singleton.mpr rfl))
      refine ⟨acc, Sum.inr n, rfl, hacc6, by have := R.len; have : i < kvp.length := hi; rw [sizeLine_eq]; omega, putK acc (Sum.inr n) (.ref x), fun n' => if n' = n then x else Af n', fun n' => if n' = n then qq else Qf n', ?_⟩
      have old : ∀ {n' s}, n' ≠ n → Gi (i + 1) n' = some s → Gi i n' = some s := fun {n' s} h1 h2 => by rw [gN h1] at h2; exact h2
      have fresh : ∀ {n' s}, Gi i n' = some s → Af n' ≠ x ∧ Af n' ≠ qq ∧ Qf n' ≠ x ∧ Qf n' ≠ qq := fun {n' s} hs => by
        obtain ⟨⟨o1, h1⟩, ⟨o2, h2⟩, _⟩ := (R.ent n' s hs).2.1.aq
        have f1 : upd H4 t (.tup [kV (Sum.inr n), .ref pp]) (Af n') = some o1 := (Ext.upd ht) _ _ h1
        have f2 : upd H4 t (.tup [kV (Sum.inr n), .ref pp]) (Qf n') = some o2 := (Ext.upd ht) _ _ h2
        exact ⟨ne_free f1 hx, ne_free f1 hq0, ne_free f2 hx, ne_free f2 hq0⟩
      refine ⟨Same.put (e3.trans e6) hD, hD, upd_same, nd_put R.nd, ?_, fun p hp' => ?_, fun n' s hs => ?_, fun n1 n2 hs1 hs2 hne12 => ?_⟩
      · rw [putK_new _ hn, List.length_append]
        exact Nat.succ_le_succ R.len
      · rw [putK_new _ hn] at hp'
        rcases List.mem_append.mp hp' with h | h
        · obtain ⟨n', e, hs⟩ := R.sh p h
          have hnn : n' ≠ n := fun q => hnk (by rw [← q]; exact gi' hs)
          exact ⟨n', by rw [e, if_neg hnn], by rw [gN hnn]; exact hs⟩
        · exact ⟨n, by rw [List.mem_singleton.mp h, if_pos rfl], by rw [gS, hF]; rfl⟩
      · by_cases hnn : n' = n
        · subst hnn
          rw [gS, hF] at hs
          cases hs
          rw [if_pos rfl, if_pos rfl, putK_new _ hn]
          exact ⟨List.mem_append_right _ (List.mem_singleton.mpr rfl), raw.same (fun o h => by rw [upd_ne nxD]; exact h) (fun o h => by rw [upd_ne nqD]; exact h), nxD, nqD, e3.free hx, e3.free hq0⟩
        · have hs' := old hnn hs
          obtain ⟨h1, h2, h3, h4, h5, h6⟩ := R.ent n' s hs'
          rw [if_neg hnn, if_neg hnn, putK_new _ hn]
          exact ⟨List.mem_append_left _ h1, h2.same (fun o h => by rw [upd_ne h3]; exact e46 _ _ h) (fun o h => by rw [upd_ne h4]; exact e46 _ _ h), h3, h4, h5, h6⟩
      · by_cases q1 : n1 = n
        · subst q1
          have q2 : n2 ≠ n1 := Ne.symm hne12
          rw [gN q2] at hs2
          obtain ⟨s2, hs2'⟩ := Option.isSome_iff_exists.mp hs2
          obtain ⟨w1, w2, w3, w4⟩ := fresh hs2'
          rw [if_pos rfl, if_pos rfl, if_neg q2, if_neg q2]
          exact ⟨Ne.symm w1, Ne.symm w3, Ne.symm w4⟩
        · rw [gN q1] at hs1
          rw [if_neg q1, if_neg q1]
          by_cases q2 : n2 = n
          · subst q2
            obtain ⟨s1, hs1'⟩ := Option.isSome_iff_exists.mp hs1
            obtain ⟨w1, w2, w3, w4⟩ := fresh hs1'
            rw [if_pos rfl, if_pos rfl]
            exact ⟨w1, w2, w4⟩
          · rw [gN q2] at hs2
            rw [if_neg q2, if_neg q2]
            exact R.dst n1 n2 hs1 hs2 hne12
    · obtain ⟨acc, Af, Qf, R⟩ := z
      have R' := R.unlock pd
      refine ⟨R.sm _ _ lk, ?_⟩
      generalize upd H4 d (.dK kvp) = H5 at R' ⊢
      have gF : ∀ n, Gi kvp.length n = F n := fun n => by
        show tkG kvp F kvp.length n = F n
        by_cases q : (Sum.inr n : Key) ∈ (kvp.take kvp.length).map (·.1)
        · exact tkG_yes q
        · rw [tkG_no q]
          cases hF : F n with
          | none => rfl
          | some s =>
            obtain ⟨v, hv'⟩ := pal n (by rw [hF]; rfl)
            rw [List.take_length] at q
            exact absurd (List.mem_map.mpr ⟨_, hv', rfl⟩) q
      let G : Nat → PStr → Option PlS := fun i n => (F n).bind fun p => runT p (own n (ln.take i))
      have G0 : Gi kvp.length = G 0 := funext fun n => by
        rw [gF n]
        show F n = (F n).bind fun p => some p
        cases F n <;> rfl
      rw [G0] at R'
      have hvs5 := R'.sm _ _ hv
      refine ⟨_, rfl, a, vs, rfl, SqL.of hvs5, for_it walk_enum (fun i σ H' => (∃ c2 c3 c5 c6 c7 c8, σ = [some (.ref a), some (.ref d), c2, c3, some (.ref D), c5, c6, c7, c8]) ∧ (∀ n, (F n).isSome = true → (G i n).isSome = true) ∧ ∃ Af Qf, RunsAt K H3 H' D b m kvp.length (G i) i acc Af Qf) ⟨⟨_, _, _, _, _, _, rfl⟩, fun n h => by rw [← G0, gF n]; exact h, Af, Qf, R'⟩ (fun i σ H' _ z => let ⟨_, _, _, _, r⟩ := z; SqL.of (r.sm _ _ hv)) (fun i x σ H6 H7 hi z y => ?_) (fun σ H6 z => ?_)⟩
      · obtain ⟨⟨c2, c3, c5, c6, c7, c8, rfl⟩, hal, Af, Qf, R6⟩ := z
        obtain ⟨t, x2, rfl, ht, rfl, hx⟩ := enum_y y
        obtain ⟨⟨n, st⟩, hst, ⟨ta, v', rfl, hta, hs, hw⟩⟩ := paired_at1 pr hx
        have e3 : Same H6 (upd H6 t (.tup [.int (i : Nat), .ref ta])) := Ext.upd ht
        have hiL : i < ln.length := (List.getElem?_eq_some_iff.mp hst).1
        have tk : ln.take (i + 1) = ln.take i ++ [(n, st)] := take_snoc hst
        obtain ⟨p, hp0⟩ := Option.isSome_iff_exists.mp (hal n (hin _ (List.mem_of_getElem? hst)))
        obtain ⟨p0, hF0, hrun0⟩ : ∃ p0, F n = some p0 ∧ runT p0 (own n (ln.take i)) = some p := by
          have h' : ((F n).bind fun p => runT p (own n (ln.take i))) = some p := hp0
          cases hF : F n with
          | none => rw [hF] at h'; cases h'
          | some p0 => rw [hF] at h'; exact ⟨p0, rfl, h'⟩
        obtain ⟨m1, raw, aD, qD, a0, q0⟩ := R6.ent n p hp0
        obtain ⟨⟨oa, hoa⟩, ⟨oq, hoq⟩, naq⟩ := raw.aq
        have gS : G (i + 1) n = rstep p st := by
          show ((F n).bind fun p => runT p (own n (ln.take (i + 1)))) = _
          rw [hF0, tk]
          exact run_own hrun0
        have gN : ∀ {n'}, n' ≠ n → G (i + 1) n' = G i n' := fun {n'} h => by
          show ((F n').bind fun p => runT p (own n' (ln.take (i + 1)))) = _
          rw [tk, own_other (Ne.symm h)]
        have ra := raw.same (e3 _) (e3 _)
        have hB : Same H3 (del0 (del0 (upd H6 t (.tup [.int (i : Nat), .ref ta])) (Af n)) (Qf n)) := del0_same (del0_same (R6.sm.trans e3) a0) q0
        have hB2 : Same (del0 (del0 (upd H6 t (.tup [.int (i : Nat), .ref ta])) (Af n)) (Qf n)) (upd H6 t (.tup [.int (i : Nat), .ref ta])) := fun x o h => by
          unfold del0 at h
          by_cases h1 : x = Qf n
          · rw [if_pos h1] at h; cases h
          · rw [if_neg h1] at h
            by_cases h2 : x = Af n
            · rw [if_pos h2] at h; cases h
            · rw [if_neg h2] at h; exact h
        have hRA : RunAt K H3 (del0 (del0 (upd H6 t (.tup [.int (i : Nat), .ref ta])) (Af n)) (Qf n)) (upd H6 t (.tup [.int (i : Nat), .ref ta])) (.ref (Af n)) b m p i :=
          ⟨hB, hB2, Af n, Qf n, rfl, by unfold del0; rw [if_neg naq, if_pos rfl], del0_at, ra⟩
        have hta3 := (R6.sm.trans e3) _ _ hta
        obtain ⟨ra', rdx, rfs', er, hra, hrf⟩ := hRA.ref
        cases er
        refine ⟨t, _, rfl, SqT.of upd_same, rfl, _, _, rfl, _, _, rfl, ta, _, rfl, SqT.of hta3, rfl, _, _, rfl, _, _, rfl, rfl, rfl, ?_⟩
        refine ⟨_, rfl, _, rfl, D, _, rfl, .inl ⟨acc, Sum.inr n, .inl (e3 _ _ R6.at_), rfl, (valV_of_mem R6.nd m1).symm⟩, ?_⟩
        refine ⟨_, rfl, Af n, rdx, rfs', rfl, hra, run_meth hrf (by decide), _, rfl, H3, _, _, _, st, b, m, p, i, rfl, hRA, by omega, hs.same (R6.sm.trans e3), fun q hq H8 h8 => ⟨true, rfl, iteF ?_⟩, fun hn => ⟨false, rfl, iteT ?_⟩⟩
        · obtain ⟨s8, t8, a8, q8, e8, _, q80, raw8⟩ := h8
          cases e8
          have D8 : H8 D = some (.dK acc) := t8 _ _ (by unfold del0; rw [if_neg (Ne.symm qD), if_neg (Ne.symm aD)]; exact e3 _ _ R6.at_)
          have keep : ∀ {x : Addr} {o : HO}, x ≠ Af n → x ≠ Qf n → H6 x = some o → H8 x = some o := fun {x o} h1 h2 h => t8 _ _ (by unfold del0; rw [if_neg h2, if_neg h1]; exact e3 _ _ h)
          have away : ∀ {x : Addr} {o : HO}, x ≠ Af n → x ≠ Qf n → H6 x = some o → x ≠ q8 := fun {x o} h1 h2 h => by
            refine ne_free (H := del0 (del0 (upd H6 t (.tup [.int (i : Nat), .ref ta])) (Af n)) (Qf n)) (o := o) ?_ q80
            unfold del0
            rw [if_neg h2, if_neg h1]
            exact e3 _ _ h
          refine ⟨⟨_, _, _, _, _, _, rfl⟩, fun n' h => ?_, Af, fun n' => if n' = n then q8 else Qf n', ⟨s8.trans t8, R6.d0, D8, R6.nd, R6.len, fun p hp => ?_, fun n' s hs' => ?_, fun n1 n2 i1 i2 hne => ?_⟩⟩
          · by_cases e : n' = n
            · rw [e, gS, hq]; rfl
            · rw [gN e]; exact hal n' h
          · obtain ⟨n', e, g⟩ := R6.sh p hp
            refine ⟨n', e, ?_⟩
            by_cases e : n' = n
            · rw [e, gS, hq]; rfl
            · rw [gN e]; exact g
          · by_cases e : n' = n
            · subst e
              rw [gS, hq] at hs'
              cases hs'
              rw [if_pos rfl]
              exact ⟨m1, raw8, aD, Ne.symm (away (Ne.symm aD) (Ne.symm qD) R6.at_), a0, s8.free q80⟩
            · rw [gN e] at hs'
              rw [if_neg e]
              obtain ⟨h1, h2, h3, h4, h5, h6⟩ := R6.ent n' s hs'
              obtain ⟨d1, d2, d3⟩ := R6.dst n' n (by rw [hs']; rfl) (by rw [hp0]; rfl) e
              obtain ⟨d1', d2', d3'⟩ := R6.dst n n' (by rw [hp0]; rfl) (by rw [hs']; rfl) (Ne.symm e)
              exact ⟨h1, (h2.same (fun o h => keep d1 d2 h) (fun o h => keep (Ne.symm d2') d3 h)).mono (Nat.le_succ i), h3, h4, h5, h6⟩
          · have old : ∀ {n'}, n' ≠ n → (G (i + 1) n').isSome = true → (G i n').isSome = true := fun {n'} e h => by rw [gN e] at h; exact h
            have gn' : (G i n).isSome = true := by rw [hp0]; rfl
            have aw : ∀ {n'}, n' ≠ n → (G i n').isSome = true → Af n' ≠ q8 ∧ Qf n' ≠ q8 := fun {n'} e h => by
              obtain ⟨s', hs'⟩ := Option.isSome_iff_exists.mp h
              obtain ⟨h1, h2, _⟩ := R6.ent n' s' hs'
              obtain ⟨⟨o1, ho1⟩, ⟨o2, ho2⟩, _⟩ := h2.aq
              obtain ⟨d1, d2, d3⟩ := R6.dst n' n h gn' e
              obtain ⟨d1', d2', d3'⟩ := R6.dst n n' gn' h (Ne.symm e)
              exact ⟨away d1 d2 ho1, away (Ne.symm d2') d3 ho2⟩
            by_cases q1 : n1 = n
            · subst q1
              have q2 : n2 ≠ n1 := Ne.symm hne
              have o2 := old q2 i2
              obtain ⟨d1, d2, d3⟩ := R6.dst n1 n2 gn' o2 hne
              obtain ⟨w1, w2⟩ := aw q2 o2
              rw [if_pos rfl, if_neg q2]
              exact ⟨d1, d2, Ne.symm w2⟩
            · have o1 := old q1 i1
              rw [if_neg q1]
              by_cases q2 : n2 = n
              · subst q2
                obtain ⟨d1, d2, d3⟩ := R6.dst n1 n2 o1 gn' hne
                obtain ⟨w1, w2⟩ := aw q1 o1
                rw [if_pos rfl]
                exact ⟨d1, w1, w2⟩
              · rw [if_neg q2]
                exact R6.dst n1 n2 o1 (old q2 i2) hne
        · refine ⟨_, rfl, _, rfl, fun dd => h2 ⟨n, p0, hF0, ?_⟩ _ (some dd) (e12.trans (R6.sm.trans e3))⟩
          have e : ln = ln.take (i + 1) ++ ln.drop (i + 1) := (List.take_append_drop _ _).symm
          rw [e, own_append, runT_append, tk, run_own hrun0, hn]
          rfl
      · obtain ⟨⟨c2, c3, c5, c6, c7, c8, rfl⟩, hal, Af, Qf, R6⟩ := z
        rw [hlen] at R6 hal
        have hD6 := R6.at_
        have gT : ∀ n, G ln.length n = (F n).bind fun p => runT p (own n ln) := fun n => by
          show ((F n).bind fun p => runT p (own n (ln.take ln.length))) = _
          rw [List.take_length]
        have h1' := h1 (fun n p hp => by
          have := hal n (by rw [hp]; rfl)
          rw [gT n, hp] at this
          exact this)
        refine ⟨D, _, hD6, trivial, fun od2 => ?_⟩
        have lk2 : upd H6 D (.frz od2 (.dK acc)) D = some (.frz od2 (.dK acc)) := upd_same
        refine ⟨_, rfl, D, od2, acc, rfl, lk2, fun DD hDD => ?_⟩
        have e03 : Same H (upd H6 D (.frz od2 (.dK acc))) := e12.trans (Same.put R6.sm R6.d0)
        have rl : ∀ {n s}, G ln.length n = some s → RunRaw K H3 (upd H6 D (.frz od2 (.dK acc))) (Af n) (Qf n) b m s ln.length := fun {n s} hs => by
          obtain ⟨_, r2, r3, r4, _⟩ := R6.ent n s hs
          exact r2.same (fun o h => by rw [upd_ne r3]; exact h) (fun o h => by rw [upd_ne r4]; exact h)
        refine dc_it walk_items (fun i H' => ∃ acc2 Hb, Same (upd H6 D (.frz od2 (.dK acc))) Hb ∧ Hb DD = none ∧ Same Hb H' ∧ H' DD = some (.dK acc2) ∧ (acc2.map (·.1)) = (acc.take i).map (·.1) ∧ ∀ q ∈ acc2, ∃ n u s, q = (Sum.inr n, u) ∧ G ln.length n = some s ∧ PlAt K Hb u b s.1 s.2 (m + ln.length) ∧ Wrd n)
          ⟨[], _, Same.refl _, hDD, Same.new (Same.refl _) hDD, upd_same, rfl, fun _ h => (by cases h)⟩ (fun i H' _ z => let ⟨_, _, z1, _, z2, _⟩ := z; z2 _ _ (z1 _ _ lk2)) (fun i x H7 H8 hi z y => ?_) (fun H7 z => ?_)
        · obtain ⟨acc2, Hb, zs, zb, zs', hacc, ka, za⟩ := z
          obtain ⟨t, k', vv, rfl, ht, rfl, hk'⟩ := items_y y
          have e4 : Same H7 (upd H7 t (.tup [kV k', vv])) := Ext.upd ht
          have e3 := (zs.trans zs').trans e4
          obtain ⟨n, ee, hs⟩ := R6.sh _ (List.mem_of_getElem? hk')
          cases ee
          obtain ⟨s, hs⟩ := Option.isSome_iff_exists.mp hs
          obtain ⟨r1, r2, r3, r4, r5, r6⟩ := R6.ent n s hs
          have raw := (rl hs).same (e3 _) (e3 _)
          have hB : Same H3 (del0 (del0 (upd H7 t (.tup [kV (Sum.inr n), .ref (Af n)])) (Af n)) (Qf n)) := del0_same (del0_same ((Same.put R6.sm R6.d0).trans e3) r5) r6
          have hB2 : Same (del0 (del0 (upd H7 t (.tup [kV (Sum.inr n), .ref (Af n)])) (Af n)) (Qf n)) (upd H7 t (.tup [kV (Sum.inr n), .ref (Af n)])) := fun x o h => by
            unfold del0 at h
            by_cases h1 : x = Qf n
            · rw [if_pos h1] at h; cases h
            · rw [if_neg h1] at h
              by_cases h2 : x = Af n
              · rw [if_pos h2] at h; cases h
              · rw [if_neg h2] at h; exact h
          have hRA : RunAt K H3 (del0 (del0 (upd H7 t (.tup [kV (Sum.inr n), .ref (Af n)])) (Af n)) (Qf n)) (upd H7 t (.tup [kV (Sum.inr n), .ref (Af n)])) (.ref (Af n)) b m s ln.length :=
            ⟨hB, hB2, Af n, Qf n, rfl, by unfold del0; rw [if_neg raw.aq.2.2, if_pos rfl], del0_at, raw⟩
          obtain ⟨ra', rdx, rfs', er, hra, hrf⟩ := hRA.ref
          cases er
          refine ⟨t, _, rfl, SqT.of upd_same, rfl, _, _, rfl, _, _, rfl, rfl, rfl, ?_⟩
          refine ⟨_, rfl, _, rfl, Af n, rdx, rfs', rfl, hra, run_meth hrf (by decide), H3, _, _, b, m, s, ln.length, rfl, hRA, hml, fun H9 r e9 pl => ?_⟩
          have hacc3 : upd H7 t (.tup [kV (Sum.inr n), .ref (Af n)]) DD = some (.dK acc2) := by rw [upd_ne (ne_free hacc ht)]; exact hacc
          have hacc6 : H9 DD = some (.dK acc2) := e9 _ _ hacc3
          have hn : valV acc2 (Sum.inr n) = none := by
            cases q : valV acc2 (Sum.inr n) with
            | none => rfl
            | some v =>
              have hm : (Sum.inr n : Key) ∈ acc2.map (·.1) := List.mem_map.mpr ⟨_, valV_mem q, rfl⟩
              rw [ka, List.map_take] at hm
              exact absurd hm (not_take R6.nd (by rw [List.getElem?_map, hk']; rfl))
          have hal' : acc2.length ≤ i := by
            have := congrArg List.length ka
            rw [List.length_map, List.length_map, List.length_take] at this
            omega
          have hwn : Wrd n := by
            cases hF : F n with
            | none =>
              have h' := gT n
              rw [hs, hF] at h'
              cases h'
            | some p0 =>
              obtain ⟨v, hv'⟩ := pal n (by rw [hF]; rfl)
              obtain ⟨n', v'', q'', ee, _, _, hw⟩ := psh _ hv'
              cases ee
              exact hw
          have sb6 : Same Hb H9 := (zs'.trans e4).trans e9
          refine ⟨acc2, Sum.inr n, rfl, hacc6, by have := R6.len; rw [sizeLine_eq]; omega, _, del0 H9 DD, del0_same (e3.trans e9) hDD, del0_at, del0_upd, upd_same, ?_, fun q hq => ?_⟩
          · rw [putK_new _ hn, List.map_append, ka, take_snoc hk', List.map_append]
            rfl
          · rw [putK_new _ hn] at hq
            rcases List.mem_append.mp hq with h | h
            · obtain ⟨n', u, s', e, hs', ru, hw⟩ := za q h
              exact ⟨n', u, s', e, hs', ru.same (del0_same sb6 zb), hw⟩
            · have e := List.mem_singleton.mp h
              subst e
              refine ⟨n, r, s, rfl, hs, pl.same (del0_same dif_same ?_), hwn⟩
              unfold dif
              rw [hacc3]
        · obtain ⟨acc2, Hb, zs, zb, zs', hacc, ka, za⟩ := z
          rw [List.take_length] at ka
          have lk7 := (zs.trans zs') _ _ lk2
          have nDD : DD ≠ D := Ne.symm (ne_free lk2 hDD)
          refine ⟨lk7, h1' _ DD (e12.trans (R6.sm.trans (same_unlock hD6 (zs.trans zs')))) ⟨acc2, by rw [upd_ne nDD]; exact hacc, by rw [ka]; exact R6.nd, ?_, fun q hq => ?_, fun n hn => ?_⟩⟩
          · have := congrArg List.length ka
            rw [List.length_map, List.length_map] at this
            have := R6.len
            omega
          · obtain ⟨n, u, s, e, hs, pl, hw⟩ := za q hq
            exact ⟨n, u, s, e, (gT n).symm.trans hs, (pl.same zs').unl lk7, hw⟩
          · have hn : (G ln.length n).isSome = true := by rw [gT n]; exact hn
            obtain ⟨s, hs⟩ := Option.isSome_iff_exists.mp hn
            have : (Sum.inr n : Key) ∈ acc2.map (·.1) := by
              rw [ka]
              exact List.mem_map.mpr ⟨_, (R6.ent n s hs).1, rfl⟩
            obtain ⟨⟨k', u⟩, hq, ek⟩ := List.mem_map.mp this
            have ek' : k' = Sum.inr n := ek
            subst ek'
            exact ⟨u, hq⟩
end
end TX
end
section
set_option autoImplicit false
set_option maxHeartbeats 4000000
/-! The law's stream of numbers. -/
namespace TX
open PySem PySem.Spec PyProof.Rows L2 He TE
def Bts (i : Int) : Prop := Builtin.Int.intBits i ≤ 1048576
theorem bts_le {i j : Int} (h : i.natAbs ≤ j.natAbs) (b : Bts j) : Bts i := by
  unfold Bts Builtin.Int.intBits at *
  by_cases hi : i = 0
  · subst hi
    exact Nat.zero_le _
  · have hj : j ≠ 0 := fun e => by subst e; omega
    rw [if_neg (by simpa using hj)] at b
    rw [if_neg (by simpa using hi)]
    have h1 : j.natAbs < 2 ^ (j.natAbs.log2 + 1) := Nat.lt_log2_self
    have h2 : i.natAbs.log2 < j.natAbs.log2 + 1 := (Nat.log2_lt (by omega)).mpr (Nat.lt_of_le_of_lt h h1)
    omega
/-- the stream: two whole numbers -/
def StrAt (H : Hp) (s : Addr) : Prop := ∃ a b : Int, H s = some (.lst [.int a, .int b]) ∧ 0 ≤ a ∧ 0 ≤ b ∧ b < 2147483647
/-- as it was, but for the stream -/
def Sx (s : Addr) (H H' : Hp) : Prop := Same (del0 H s) (del0 H' s)
theorem Sx.refl {s : Addr} (H : Hp) : Sx s H H := Same.refl _
theorem Sx.trans {s : Addr} {A B C : Hp} (h : Sx s A B) (k : Sx s B C) : Sx s A C := Same.trans h k
theorem del0_ne {H : Hp} {s a : Addr} (h : a ≠ s) : del0 H s a = H a := if_neg h
theorem del0_le {H : Hp} {s : Addr} : Same (del0 H s) H := fun a o e => by
  unfold del0 at e
  by_cases h : a = s
  · rw [if_pos h] at e; cases e
  · rw [if_neg h] at e; exact e
theorem Sx.of {s : Addr} {H H' : Hp} (h : Same H H') : Sx s H H' := fun a o e => by
  by_cases q : a = s
  · subst q
    rw [del0_at] at e
    cases e
  · rw [del0_ne q] at e ⊢
    exact h _ _ e
theorem Sx.to {s : Addr} {H H' : Hp} (h : Sx s H H') {o : HO} : Sx s H (upd H' s o) := h.trans fun a x e => by
  by_cases q : a = s
  · subst q
    rw [del0_at] at e
    cases e
  · rw [del0_ne q] at e ⊢
    rw [upd_ne q]
    exact e
theorem StrAt.same {H H' : Hp} {s : Addr} (h : StrAt H s) (e : Same H H') : StrAt H' s := by
  obtain ⟨a, b, h, r⟩ := h
  exact ⟨a, b, e _ _ h, r⟩
section
variable {P : Program} {w : World} {K : PySem.W.Frag} {mg : PStr → Option Value} {base : Heap}
theorem sc47 : FnScope ["_law_script", "_law_k", "_law_cell", "_law_size", "_law_mixed"] ["_law_script", "_law_k"] (defScope s47) := ⟨rfl, rfl, rfl, by decide +kernel, rfl, by decide +kernel, by decide +kernel⟩
def spStream (K : PySem.W.Frag) : Sp := fun vs H Q _ => ∃ (a : Addr) (ns : List Int) (k : Nat), vs = [.ref a, .int k] ∧ SqL K H a (ns.map V.int) ∧ (∀ n ∈ ns, Bts n) ∧ ns.length ≤ sizeLine ∧ k < 5 ∧ ∀ H' s, Same H H' → H s = none → StrAt H' s → Q (.ref s) H'

theorem ok_stream (T : Txt P K mg) : Dfn P w K mg base 1 "_law_stream" (spStream K) := by
  refine dfnN T 22 (d := d47) rfl "_law_stream" (by decide +kernel) rfl rfl sc47 (fun _ _ _ _ _ _ us hl => match us, hl with | [_, _], _ => rfl) (fun vs H Q E h => ?_) (fun f cdv A outer s H vs Q E hr h => ?_)
  · obtain ⟨a, ns, k, rfl, _⟩ := h
    rfl
  · refine ⟨_, (pss_cons (ps_set (i := 2) sc47.nd rfl (.inl rfl) pe_int) (pss_cons (ps_if (pt_cmpR op_lt (pv 1) (pe_callB call_len_seq (by rfl) (T.fre "len" (by decide +kernel)) PySem.boot_len (pa_cons (pv 0) pa_nil)) (nomark _)) (pss_one (ps_set (i := 2) sc47.nd rfl (.inl rfl) (pe_ix ix_list (pv 0) (pv 1) (fun _ _ => rfl)))) pss_nil) (pss_cons (ps_set (i := 3) sc47.nd rfl (.inl rfl) (pe_callB (call_max2 rfl) (by rfl) (T.fre "max" (by decide +kernel)) (by decide +kernel) (pa_cons (pv 2) (pa_cons (pe_op op_sub (pe_un un_neg pe_int) (pv 2)) pa_nil)))) (pss_cons (ps_set (i := 4) sc47.nd rfl (.inl rfl) (pe_op op_mod (pe_op op_mul (pe_op op_add (pe_op op_add (pe_op op_add (pe_op op_mod (pv 3) pe_int) (pe_op op_mul (pe_op op_mul pe_int (pv 1)) (pv 1))) (pe_op op_mul pe_int (pv 1))) pe_int) pe_int) pe_int)) (pss_one (ps_ret (pe_lst (pa_cons (pe_op op_mulX (pv 3) (pe_callTy call_int1 (by rfl) (T.fre "int" (by decide +kernel)) (by decide +kernel) (pa_cons (pe_cmp (pc_ge (pv 3) (pe_op op_pow pe_int pe_int)) rfl) pa_nil))) (pa_cons (pv 4) pa_nil))))))))), ?_⟩
    obtain ⟨a, ns, k, rfl, hs, hb, hn, hk, hQ⟩ := h
    have hkk : (0 : Int) ≤ 7919 * (k : Int) * k ∧ 7919 * (k : Int) * k ≤ 200000 := by
      have : k = 0 ∨ k = 1 ∨ k = 2 ∨ k = 3 ∨ k = 4 := by omega
      rcases this with e | e | e | e | e <;> subst e <;> decide
    have sz : ∀ c : Int, Bts c → 0 ≤ (if -1 - c > c then -1 - c else c) ∧ Bts (if -1 - c > c then -1 - c else c) := fun c hc => by
      refine ⟨by split <;> omega, bts_le ?_ hc⟩
      split <;> omega
    have mm : ∀ {z : Int} {b : Bool}, Bts z → CMulX z (if b = true then 1 else 0) ∧ (0 ≤ z → 0 ≤ z * (if b = true then 1 else 0)) := fun {z b} hz => by
      unfold CMulX
      unfold Bts at hz
      cases b
      · exact ⟨by show (Builtin.Int.intBits z : Int) + (0 : Nat) ≤ _; omega, fun h => by show 0 ≤ z * 0; omega⟩
      · exact ⟨by show (Builtin.Int.intBits z : Int) + (1 : Nat) ≤ _; omega, fun h => by show 0 ≤ z * 1; omega⟩
    refine ⟨_, rfl, _, rfl, a, _, rfl, .inl hs, _, _, rfl, rfl, _, rfl, ?_⟩
    by_cases c : k < ns.length
    · obtain ⟨x, hx⟩ : ∃ x, ns[k]? = some x := ⟨_, List.getElem?_eq_getElem c⟩
      have hx' : Bts x := hb x (List.mem_of_getElem? hx)
      refine iteT' (by rw [List.length_map]; exact decide_eq_true (by omega)) ?_
      refine ⟨_, rfl, _, rfl, a, _, _, _, rfl, rfl, hs, atI_nat (by rw [List.getElem?_map, hx]; rfl), ?_⟩
      obtain ⟨h0, h1⟩ := sz x hx'
      generalize hz : (if -1 - x > x then -1 - x else x) = z at h0 h1
      refine ⟨_, rfl, _, rfl, _, rfl, _, _, rfl, rfl, _, _, rfl, ?_⟩
      rw [hz]
      refine ⟨_, rfl, _, _, rfl, rfl, (by show (0 : Int) < 2147483629; decide), _, rfl, _, _, rfl, rfl, .inl (by decide), _, rfl, _, _, rfl, rfl, .inl ?_, _, _, rfl, rfl, _, rfl, _, _, rfl, rfl, .inl (by decide), _, _, rfl, rfl, _, _, rfl, rfl, _, _, rfl, rfl, .inl ?_, _, _, rfl, rfl, (by show (0 : Int) < 2147483647; decide), ?_⟩
      · omega
      · omega
      refine ⟨_, rfl, _, rfl, _, _, rfl, rfl, ⟨by decide, by decide, by decide⟩, _, _, rfl, rfl, .inr ⟨_, rfl, _, _, rfl, rfl, (mm h1).1, ?_⟩⟩
      refine ⟨_, rfl, (by rw [sizeLine_eq]; exact (by decide : 2 ≤ 16777216)), fun l hl => ?_⟩
      exact hQ _ _ (Ext.upd hl) hl ⟨_, _, upd_same, (mm h1).2 h0, by omega, by omega⟩
    · refine iteF' (by rw [List.length_map]; exact decide_eq_false (by omega)) ?_
      obtain ⟨h0, h1⟩ := sz 0 (by unfold Bts; decide)
      generalize hz : (if (-1 - 0 : Int) > 0 then (-1 - 0 : Int) else 0) = z at h0 h1
      refine ⟨_, rfl, _, rfl, _, rfl, _, _, rfl, rfl, _, _, rfl, ?_⟩
      rw [hz]
      refine ⟨_, rfl, _, _, rfl, rfl, (by show (0 : Int) < 2147483629; decide), _, rfl, _, _, rfl, rfl, .inl (by decide), _, rfl, _, _, rfl, rfl, .inl ?_, _, _, rfl, rfl, _, rfl, _, _, rfl, rfl, .inl (by decide), _, _, rfl, rfl, _, _, rfl, rfl, _, _, rfl, rfl, .inl ?_, _, _, rfl, rfl, (by show (0 : Int) < 2147483647; decide), ?_⟩
      · omega
      · omega
      refine ⟨_, rfl, _, rfl, _, _, rfl, rfl, ⟨by decide, by decide, by decide⟩, _, _, rfl, rfl, .inr ⟨_, rfl, _, _, rfl, rfl, (mm h1).1, ?_⟩⟩
      refine ⟨_, rfl, (by rw [sizeLine_eq]; exact (by decide : 2 ≤ 16777216)), fun l hl => ?_⟩
      exact hQ _ _ (Ext.upd hl) hl ⟨_, _, upd_same, (mm h1).2 h0, by omega, by omega⟩
theorem sc48 : FnScope ["_law_stream_here", "_law_count", "_law_result"] ["_law_stream_here", "_law_count"] (defScope s48) := ⟨rfl, rfl, rfl, by decide +kernel, rfl, by decide +kernel, by decide +kernel⟩
def spDraw : Sp := fun vs H Q _ => ∃ (s : Addr) (c : Int), vs = [.ref s, .int c] ∧ StrAt H s ∧ 0 < c ∧ c < 1000000 ∧ ∀ H' r, StrAt H' s → Sx s H H' → 0 ≤ r → r < c → Q (.int r) H'

theorem ok_draw (T : Txt P K mg) : Dfn P w K mg base 1 "_law_draw" spDraw := by
  refine dfnN T 23 (d := d48) rfl "_law_draw" (by decide +kernel) rfl rfl sc48 (fun _ _ _ _ _ _ us hl => match us, hl with | [_, _], _ => rfl) (fun vs H Q E h => ?_) (fun f cdv A outer s H vs Q E hr h => ?_)
  · obtain ⟨s, c, rfl, _⟩ := h
    rfl
  · refine ⟨_, (pss_cons (ps_if (pt_cmpR op_gt (pe_ix ix_list (pv 0) pe_int (fun _ _ => rfl)) pe_int (nomark _)) (pss_cons (ps_set (i := 2) sc48.nd rfl (.inl rfl) (pe_op op_mod (pe_ix ix_list (pv 0) pe_int (fun _ _ => rfl)) (pv 1))) (pss_cons (ps_asg (pe_op op_fdiv (pe_ix ix_list (pv 0) pe_int (fun _ _ => rfl)) (pv 1)) (pg_sub (pv 0) pe_int set_list)) (pss_one (ps_ret (pv 2))))) pss_nil) (pss_cons (ps_asg (pe_op op_mod (pe_op op_add (pe_op op_mul (pe_ix ix_list (pv 0) pe_int (fun _ _ => rfl)) pe_int) pe_int) pe_int) (pg_sub (pv 0) pe_int set_list)) (pss_one (ps_ret (pe_op op_mod (pe_op op_fdiv (pe_op op_mod (pe_op op_mul (pe_ix ix_list (pv 0) pe_int (fun _ _ => rfl)) (pe_ix ix_list (pv 0) pe_int (fun _ _ => rfl))) pe_int) pe_int) (pv 1)))))), ?_⟩
    obtain ⟨s, c, rfl, ⟨a, b, hs, ha, hb, hb2⟩, hc, hc2, hQ⟩ := h
    refine ⟨_, rfl, s, _, _, _, rfl, rfl, SqL.of hs, rfl, ⟨_, _, rfl, rfl, _, rfl, ?_⟩⟩
    by_cases c0 : 0 < a
    · refine iteT' (decide_eq_true c0) ?_
      refine ⟨_, rfl, s, _, _, _, rfl, rfl, SqL.of hs, rfl, ⟨_, rfl, _, _, rfl, rfl, hc, _, rfl, s, _, _, _, rfl, rfl, SqL.of hs, rfl, ⟨_, rfl, _, _, rfl, rfl, ⟨hc, by omega⟩, _, rfl, s, _, _, 0, rfl, rfl, hs, rfl, ?_⟩⟩⟩
      refine ⟨_, rfl, hQ _ _ ⟨a / c, b, upd_same, Int.ediv_nonneg ha (by omega), hb, hb2⟩ ((Sx.refl _).to) (Int.emod_nonneg _ (by omega)) (Int.emod_lt_of_pos _ hc)⟩
    · refine iteF' (decide_eq_false c0) ?_
      refine ⟨_, rfl, s, _, _, _, rfl, rfl, SqL.of hs, rfl, ⟨_, _, rfl, rfl, .inl ?_, _, _, rfl, rfl, _, _, rfl, rfl, (by show (0 : Int) < 2147483647; decide), _, rfl, s, _, _, 1, rfl, rfl, hs, rfl, ?_⟩⟩
      · omega
      have h2 : upd H s (.lst [.int a, .int ((b * 69621 + 7) % 2147483647)]) s = some (.lst [.int a, .int ((b * 69621 + 7) % 2147483647)]) := upd_same
      have m0 : 0 ≤ (b * 69621 + 7) % 2147483647 := by omega
      have m1 : (b * 69621 + 7) % 2147483647 < 2147483647 := by omega
      refine ⟨_, rfl, s, _, _, _, rfl, rfl, SqL.of h2, rfl, ⟨_, rfl, s, _, _, _, rfl, rfl, SqL.of h2, rfl, ⟨_, _, rfl, rfl, .inl ?_, _, _, rfl, rfl, (by show (0 : Int) < 2147483629; decide), _, _, rfl, rfl, ⟨by decide, by decide⟩, _, rfl, _, _, rfl, rfl, hc, ?_⟩⟩⟩
      · omega
      exact hQ _ _ ⟨a, _, h2, ha, m0, m1⟩ ((Sx.refl _).to) (Int.emod_nonneg _ (by omega)) (Int.emod_lt_of_pos _ hc)
end
end TX
end
section
set_option autoImplicit false
set_option maxHeartbeats 4000000
/-! The law's alphabet, names and spots. -/
namespace TX
open PySem PySem.Spec PyProof.Rows L2 He TE
def AlphAt (H : Hp) (a : Addr) (zs : List PStr) : Prop := H a = some (.lst (zs.map V.str)) ∧ 2 ≤ zs.length ∧ zs.length ≤ 4 ∧ zs.Nodup ∧ ∀ z ∈ zs, Let z
theorem AlphAt.same {H H' : Hp} {a : Addr} {zs : List PStr} (h : AlphAt H a zs) (e : Same H H') : AlphAt H' a zs := ⟨e _ _ h.1, h.2⟩
/-- the small letter with this number -/
def ltr (j : Nat) : PStr := ⟨#[97 + j]⟩
theorem ltr_let {j : Nat} (h : j < 26) : Let (ltr j) := ⟨97 + j, rfl, by
  have : ∀ j < 26, 97 + j ∈ abc.cps.toList := by decide +kernel
  exact this j h⟩
theorem abc_at {i : Int} (h0 : 0 ≤ i) (h1 : i < 26) : atI abc.cps.toList i = some (97 + i.toNat) := by
  have : ∀ j < 26, atI abc.cps.toList ((j : Nat) : Int) = some (97 + j) := by decide +kernel
  have e := this i.toNat (by omega)
  rwa [Int.toNat_of_nonneg h0] at e
theorem StrAt.nd {H : Hp} {s : Addr} (h : StrAt H s) : ∃ o, H s = some o := let ⟨_, _, h, _⟩ := h; ⟨_, h⟩
/-- an address that is free now is free, and is none of the stream -/
theorem StrAt.free {H : Hp} {s p : Addr} (h : StrAt H s) (hp : H p = none) : p ≠ s := fun e => by
  obtain ⟨o, ho⟩ := h.nd
  rw [e, ho] at hp
  cases hp
theorem StrAt.upd {H : Hp} {s p : Addr} {o : HO} (h : StrAt H s) (hp : p ≠ s) : StrAt (upd H p o) s := by
  obtain ⟨a, b, e, r⟩ := h
  exact ⟨a, b, by rw [upd_ne (Ne.symm hp)]; exact e, r⟩
theorem nd_lin {f r : Int} (hr : r = 1 ∨ r = 3 ∨ r = 5 ∨ r = 7 ∨ r = 11) {n : Nat} (hn : n ≤ 4) (hf : 0 ≤ f) : ((List.range n).map fun i : Nat => ltr ((f + r * (i : Int)) % 26).toNat).Nodup := by
  rw [List.Nodup, List.pairwise_map]
  refine List.Pairwise.imp_of_mem (fun {a b} ha hb hab e => ?_) List.pairwise_lt_range
  have ha' := List.mem_range.mp ha
  have hb' := List.mem_range.mp hb
  have e1 : 97 + ((f + r * (a : Int)) % 26).toNat = 97 + ((f + r * (b : Int)) % 26).toNat := by
    have := congrArg (fun z : PStr => z.cps) e
    have := congrArg (fun z : Array Nat => z.toList) this
    exact (List.cons.inj this).1
  rcases hr with q | q | q | q | q <;> subst q <;> omega
theorem StrAt.new {H' : Hp} {s : Addr} (h : StrAt H' s) {p : Addr} (hp : H' p = none) (o : HO) : StrAt (L2.upd H' p o) s ∧ Sx s H' (L2.upd H' p o) := ⟨h.upd (h.free hp), Sx.of (Ext.upd hp)⟩
section
variable {P : Program} {w : World} {K : PySem.W.Frag} {mg : PStr → Option Value} {base : Heap}
theorem sc49 : FnScope ["_law_stream_here", "_law_every", "_law_first", "_law_far", "_law_number"] ["_law_stream_here"] (defScope s49) := ⟨rfl, rfl, rfl, by decide +kernel, rfl, by decide +kernel, by decide +kernel⟩
def spAlpha : Sp := fun vs H Q _ => ∃ (s : Addr), vs = [.ref s] ∧ StrAt H s ∧ ∀ H' a zs, StrAt H' s → Sx s H H' → AlphAt (del0 H' s) a zs → Q (.ref a) H'

theorem ok_alphabet (T : Txt P K mg) : Dfn P w K mg base 2 "_law_alphabet" spAlpha := by
  refine dfnN T 24 (d := d49) rfl "_law_alphabet" (by decide +kernel) rfl rfl sc49 (fun _ _ _ _ _ _ us hl => match us, hl with | [_], _ => rfl) (fun vs H Q E h => ?_) (fun f cdv A outer s H vs Q E hr h => ?_)
  · obtain ⟨s, rfl, _⟩ := h
    rfl
  · refine ⟨_, (pss_cons (ps_set (i := 1) sc49.nd rfl (.inr rfl) pe_str) (pss_cons (ps_asg (pe_tup (pa_cons (pe_d (ok_draw T) hr (by decide) (by rfl) (pa_cons (pv 0) (pa_cons pe_int pa_nil))) (pa_cons (pe_ix ix_list (pe_lst (pa_cons pe_int (pa_cons pe_int (pa_cons pe_int (pa_cons pe_int (pa_cons pe_int pa_nil)))))) (pe_d (ok_draw T) hr (by decide) (by rfl) (pa_cons (pv 0) (pa_cons pe_int pa_nil))) (fun _ _ => rfl)) pa_nil))) (pg_tup (by rfl) (pgs_cons (pg_name (i := 2) sc49.nd rfl (.inr rfl)) (pgs_cons (pg_name (i := 3) sc49.nd rfl (.inr rfl)) pgs_nil)))) (pss_one (ps_ret (pe_lc (own := [("_law_number", 4)]) (g := (gName 4)) (tt := tYes) rfl sc49.nd (pi_range1 (by rfl) (T.fre "range" (by decide +kernel)) (pa_cons (pe_op op_add pe_int (pe_d (ok_draw T) hr (by decide) (by rfl) (pa_cons (pv 0) (pa_cons pe_int pa_nil)))) pa_nil)) (blkOk_by (own := [("_law_number", 4)]) (N := ["_law_stream_here", "_law_every", "_law_first", "_law_far", "_law_number"]) (sc := defScope s49) (by decide +kernel)) (fun _ _ _ _ _ => (pg_name (i := 4) sc49.nd rfl (.inl rfl))) (fun _ _ _ _ _ => pts_nil) (fun _ _ _ _ _ => (pe_ix ix_str (pv 1) (pe_op op_mod (pe_op op_add (pv 2) (pe_op op_mul (pv 3) (pv 4))) pe_int) (fun _ _ => rfl)))))))), ?_⟩
    obtain ⟨s, rfl, hs, hQ⟩ := h
    refine ⟨_, rfl, _, _, rfl, hs, by decide, by decide, fun H1 f hs1 x1 f0 f1 => ?_⟩
    refine ⟨by rw [sizeLine_eq]; exact (by decide : 5 ≤ 16777216), fun l hl => ?_⟩
    obtain ⟨hs2, x2⟩ := hs1.new hl (.lst [.int 1, .int 3, .int 5, .int 7, .int 11])
    refine ⟨_, rfl, _, _, rfl, hs2, by decide, by decide, fun H2 g hs3 x3 g0 g1 => ?_⟩
    obtain ⟨q, hq, hq'⟩ : ∃ q : Int, atI [V.int 1, .int 3, .int 5, .int 7, .int 11] g = some (.int q) ∧ (q = 1 ∨ q = 3 ∨ q = 5 ∨ q = 7 ∨ q = 11) := by
      have : g = 0 ∨ g = 1 ∨ g = 2 ∨ g = 3 ∨ g = 4 := by omega
      rcases this with e | e | e | e | e <;> subst e
      · exact ⟨1, rfl, by decide⟩
      · exact ⟨3, rfl, by decide⟩
      · exact ⟨5, rfl, by decide⟩
      · exact ⟨7, rfl, by decide⟩
      · exact ⟨11, rfl, by decide⟩
    have hl2 : H2 l = some (.lst [.int 1, .int 3, .int 5, .int 7, .int 11]) := by
      have nl := hs1.free hl
      have := x3 l _ (by rw [del0_ne nl]; exact upd_same)
      rwa [del0_ne nl] at this
    refine ⟨l, _, _, _, rfl, rfl, SqL.of hl2, hq, by rw [sizeLine_eq]; exact (by decide : 2 ≤ 16777216), fun p hp => ?_⟩
    obtain ⟨hs4, x4⟩ := hs3.new hp (.tup [.int f, .int q])
    refine ⟨p, _, rfl, SqT.of upd_same, rfl, _, _, rfl, _, _, rfl, rfl, ?_⟩
    refine ⟨_, rfl, _, _, rfl, hs4, by decide, by decide, fun H3 c hs5 x5 c0 c1 => ?_⟩
    refine ⟨_, _, rfl, rfl, 2 + c, rfl, (by omega), (by omega), fun D hD => ?_⟩
    have nD := hs5.free hD
    have x05 : Sx s H H3 := x1.trans (x2.trans (x3.trans (x4.trans x5)))
    let zs : Nat → List PStr := fun n => (List.range n).map fun i : Nat => ltr ((f + q * (i : Int)) % 26).toNat
    refine lc_it walk_range (fun i H' => H' = upd H3 D (.lst ((zs i).map V.str))) rfl (fun _ _ _ _ => trivial) (fun i x H4 H5 hi z y => ?_) (fun H4 z => ?_)
    · subst z
      obtain ⟨rfl, rfl⟩ := y
      have r0 : 0 ≤ (f + q * (0 + (i : Int))) % 26 := Int.emod_nonneg _ (by decide)
      have r1 : (f + q * (0 + (i : Int))) % 26 < 26 := Int.emod_lt_of_pos _ (by decide)
      refine ⟨rfl, _, rfl, _, rfl, _, rfl, _, rfl, _, _, rfl, rfl, .inl (by omega), _, _, rfl, rfl, _, _, rfl, rfl, (by show (0 : Int) < 26; decide), _, _, _, rfl, rfl, (by rw [sizeLine_eq]; decide), abc_at r0 r1, ?_⟩
      refine ⟨_, upd_same, ?_, ?_⟩
      · rw [List.length_map, List.length_map, List.length_range, sizeLine_eq]
        omega
      · show upd (upd H3 D (.lst ((zs i).map V.str))) D (.lst ((zs i).map V.str ++ [V.str (ltr ((f + q * (0 + (i : Int))) % 26).toNat)])) = upd H3 D (.lst ((zs (i + 1)).map V.str))
        rw [upd_upd]
        show _ = upd H3 D (.lst (((List.range (i + 1)).map fun i : Nat => ltr ((f + q * (i : Int)) % 26).toNat).map V.str))
        rw [List.range_succ, List.map_append, List.map_append, Int.zero_add]
        rfl
    · subst z
      obtain ⟨h6, x6⟩ := hs5.new hD (.lst ((zs (2 + c).toNat).map V.str))
      refine hQ _ D (zs (2 + c).toNat) h6 (x05.trans x6) ⟨by rw [del0_ne nD]; exact upd_same, ?_, ?_, nd_lin hq' (by omega) f0, fun z hz => ?_⟩
      · rw [List.length_map, List.length_range]; omega
      · rw [List.length_map, List.length_range]; omega
      · obtain ⟨i, _, rfl⟩ := List.mem_map.mp hz
        exact ltr_let (by have : (f + q * (i : Int)) % 26 < 26 := Int.emod_lt_of_pos _ (by decide); omega)
end
end TX
end
section
set_option autoImplicit false
set_option maxHeartbeats 4000000
/-! The law's names. -/
namespace TX
open PySem PySem.Spec PyProof.Rows L2 He TE
theorem Sx.put {s p : Addr} {H H' : Hp} {o : HO} (h : Sx s H H') (hp : H p = none) : Sx s H (upd H' p o) := fun a x e => by
  have e' := h a x e
  by_cases q : a = s
  · subst q
    rw [del0_at] at e
    cases e
  · rw [del0_ne q] at e e' ⊢
    have : a ≠ p := fun z => by rw [z, hp] at e; cases e
    rw [upd_ne this]
    exact e'
theorem Sx.free {s p : Addr} {H H' : Hp} (h : Sx s H H') (n : p ≠ s) (hp : H' p = none) : H p = none := by
  have : del0 H s p = none := Same.free h (by rw [del0_ne n]; exact hp)
  rwa [del0_ne n] at this
theorem Sx.at {s p : Addr} {H H' : Hp} {o : HO} (h : Sx s H H') (n : p ≠ s) (hp : H p = some o) : H' p = some o := by
  have := h p o (by rw [del0_ne n]; exact hp)
  rwa [del0_ne n] at this
theorem AlphAt.ne {H : Hp} {s a : Addr} {zs : List PStr} (h : AlphAt (del0 H s) a zs) : a ≠ s := fun e => by
  have := h.1
  rw [e, del0_at] at this
  cases this
theorem AlphAt.up {H : Hp} {s a : Addr} {zs : List PStr} (h : AlphAt (del0 H s) a zs) : AlphAt H a zs := h.same del0_le
def NamesAt (H : Hp) (a : Addr) (ns : List PStr) : Prop := H a = some (.lst (ns.map V.str)) ∧ 1 ≤ ns.length ∧ ns.length ≤ 3 ∧ ns.Nodup ∧ ∀ n ∈ ns, Wrd n
theorem NamesAt.same {H H' : Hp} {a : Addr} {zs : List PStr} (h : NamesAt H a zs) (e : Same H H') : NamesAt H' a zs := ⟨e _ _ h.1, h.2⟩
/-- a word of small letters, its length -/
def Chs (z : PStr) (n : Nat) : Prop := z.cps.size = n ∧ ∀ c ∈ z.cps.toList, c ∈ abc.cps.toList
theorem Let.chs {z : PStr} (h : Let z) : Chs z 1 := by
  obtain ⟨c, rfl, hc⟩ := h
  exact ⟨rfl, fun x hx => by rw [List.mem_singleton.mp hx]; exact hc⟩
theorem str_cps (a b : PStr) : (a ++ b).cps = a.cps ++ b.cps := rfl
theorem Chs.app {a b : PStr} {n m : Nat} (h : Chs a n) (k : Chs b m) : Chs (a ++ b) (n + m) := by
  refine ⟨by rw [str_cps, Array.size_append, h.1, k.1], fun c hc => ?_⟩
  rw [str_cps, Array.toList_append] at hc
  rcases List.mem_append.mp hc with q | q
  · exact h.2 c q
  · exact k.2 c q
theorem Chs.nil : Chs PySem.Str.empty 0 := ⟨rfl, fun c h => by cases h⟩
theorem join_chs : ∀ {ys : List PStr}, (∀ y ∈ ys, Let y) → Chs (PySem.Str.join ⟨#[]⟩ ys) ys.length
  | [], _ => Chs.nil
  | [x], h => (h x (List.mem_singleton.mpr rfl)).chs
  | x :: y :: r, h => by
    have := (((h x (List.mem_cons_self ..)).chs.app Chs.nil).app (join_chs (ys := y :: r) fun z hz => h z (List.mem_cons_of_mem _ hz)))
    show Chs (x ++ ⟨#[]⟩ ++ PySem.Str.join ⟨#[]⟩ (y :: r)) _
    have e : 1 + 0 + (y :: r).length = (x :: y :: r).length := by
      rw [List.length_cons (a := x)]; omega
    rw [← e]
    exact this
theorem sum_let : ∀ {ys : List PStr}, (∀ y ∈ ys, Let y) → (ys.map (·.length)).sum = ys.length
  | [], _ => rfl
  | x :: r, h => by
    rw [List.map_cons, List.sum_cons, sum_let fun y hy => h y (List.mem_cons_of_mem _ hy), List.length_cons]
    have : x.length = 1 := (h x (List.mem_cons_self ..)).chs.1
    omega
theorem cut_take (zs : List PStr) {n : Nat} (c : Int) (h : c = (n : Int)) : cutV (zs.map V.str) none (some c) = (zs.take n).map V.str := by
  subst h
  unfold cutV
  rw [HT.sIx_none, HT.sIx_nat, List.drop_zero, Nat.sub_zero, List.map_take]
  rw [List.take_eq_take_iff]
  omega
theorem head_eq {z z' t t' : PStr} (h : Let z) (h' : Let z') (e : z ++ t = z' ++ t') : z = z' := by
  obtain ⟨c, rfl, _⟩ := h
  obtain ⟨c', rfl, _⟩ := h'
  have := congrArg (fun z : PStr => z.cps.toList) e
  have q : c :: t.cps.toList = c' :: t'.cps.toList := by
    simpa [str_cps] using this
  rw [(List.cons.inj q).1]
section
variable {P : Program} {w : World} {K : PySem.W.Frag} {mg : PStr → Option Value} {base : Heap}
theorem sc53 : FnScope ["_law_stream_here", "_law_alphabet_here", "_law_result", "_law_sign", "_law_turn", "_law_more"] ["_law_stream_here", "_law_alphabet_here"] (defScope s53) := ⟨rfl, rfl, rfl, by decide +kernel, rfl, by decide +kernel, by decide +kernel⟩
def rLQ (K : PySem.W.Frag) : List V → Hp → VK → Prop := fun xs H Q => ∃ p ys, xs = [V.ref p] ∧ (SqL K H p ys ∨ SqT K H p ys) ∧ Q (V.int ys.length) H
def spNames : Sp := fun vs H Q _ => ∃ (s a : Addr) (zs : List PStr), vs = [.ref s, .ref a] ∧ StrAt H s ∧ AlphAt (del0 H s) a zs ∧ ∀ H' r ns, StrAt H' s → Sx s H H' → NamesAt (del0 H' s) r ns → Q (.ref r) H'

theorem ok_names (T : Txt P K mg) : Dfn P w K mg base 2 "_law_names" spNames := by
  refine dfnN T 27 (d := d53) rfl "_law_names" (by decide +kernel) rfl rfl sc53 (fun _ _ _ _ _ _ us hl => match us, hl with | [_, _], _ => rfl) (fun vs H Q E h => ?_) (fun f cdv A outer s H vs Q E hr h => ?_)
  · obtain ⟨s, a, zs, rfl, _⟩ := h
    rfl
  · refine ⟨_, (pss_cons (ps_set (i := 2) sc53.nd rfl (.inl rfl) (pe_lst pa_nil)) (pss_cons (ps_for (passes_of rfl) rfl (pi_list (pe_slice sl_list (pv 1) po_none (po_some (pe_op op_add pe_int (pe_d (ok_draw T) hr (by decide) (by rfl) (pa_cons (pv 0) (pa_cons pe_int pa_nil))))))) (pg_name (i := 3) sc53.nd rfl (.inl rfl)) (pss_cons (ps_setLc (i := 5) (own := [("_law_turn", 4)]) (g := (gName 4)) (tt := tYes) (te := tOp (rIxL K) (tVar 1) (tD spDraw E0 (tCons (tVar 0) (tCons (tCB (rLQ K) (tCons (tVar 1) tNil)) tNil)))) rfl sc53.nd rfl rfl (sw_true rfl rfl rfl (by decide +kernel)) (pi_range1 (by rfl) (T.fre "range" (by decide +kernel)) (pa_cons (pe_d (ok_draw T) hr (by decide) (by rfl) (pa_cons (pv 0) (pa_cons pe_int pa_nil))) pa_nil)) (blkOk_by (own := [("_law_turn", 4)]) (N := ["_law_stream_here", "_law_alphabet_here", "_law_result", "_law_sign", "_law_turn", "_law_more"]) (sc := defScope s53) (by decide +kernel)) (fun _ _ _ _ _ => (pg_name (i := 4) sc53.nd rfl (.inl rfl))) (fun _ _ _ _ _ => pts_nil) (fun _ _ _ _ _ => (pe_ix ix_list (pv 1) (pe_d (ok_draw T) hr (by decide) (by rfl) (pa_cons (pv 0) (pa_cons (pe_callB call_len_seq (by rfl) (T.fre "len" (by decide +kernel)) PySem.boot_len (pa_cons (pv 1) pa_nil)) pa_nil))) (fun _ _ => rfl)))) (pss_one (ps_expr (pe_bm PySem.F.plainAttrs_list PySem.F.slot_list_append PySem.F.type_list_append mt_append (pv 2) (pa_cons (pe_op op_add_str (pv 3) (pe_join pe_str (pv 5))) pa_nil)))))) (pss_one (ps_ret (pv 2))))), ?_⟩
    obtain ⟨s, a, zs, rfl, hs, ha, hQ⟩ := h
    obtain ⟨z1, z2, z3, z4⟩ := ha.2
    have na := ha.ne
    refine ⟨by rw [sizeLine_eq]; exact (by decide : 0 ≤ 16777216), fun R hR => ?_⟩
    have nR := hs.free hR
    obtain ⟨hs1, x1⟩ := hs.new hR (.lst [])
    have aR : a ≠ R := ne_free ha.up.1 hR
    refine ⟨_, rfl, _, rfl, _, _, rfl, hs1, by decide, by decide, fun H1 c hs2 x2 c0 c1 => ⟨_, _, rfl, rfl, _, rfl, a, _, rfl, SqL.of (x2.at na (by rw [upd_ne aR]; exact ha.up.1)), fun p hp => ?_⟩⟩
    rw [cut_take zs (n := 1 + c.toNat) _ (by omega)]
    have np := hs2.free hp
    obtain ⟨hs3, x3⟩ := hs2.new hp (.lst ((zs.take (1 + c.toNat)).map V.str))
    have hR2 : H1 R = some (.lst []) := x2.at nR upd_same
    have pR : p ≠ R := Ne.symm (ne_free hR2 hp)
    have ha2 : H1 a = some (.lst (zs.map V.str)) := x2.at na (by rw [upd_ne aR]; exact ha.up.1)
    have ap : a ≠ p := ne_free ha2 hp
    let n := 1 + c.toNat
    let B : Hp := del0 (upd H1 p (.lst ((zs.take n).map V.str))) R
    have hB : Sx s H B := fun x o e => by
      by_cases q : x = s
      · subst q; rw [del0_at] at e; cases e
      · rw [del0_ne q] at e ⊢
        have xR : x ≠ R := fun z => by rw [z, hR] at e; cases e
        show del0 (upd H1 p (.lst ((zs.take n).map V.str))) R x = some o
        rw [del0_ne xR]
        exact x3.at q (x2.at q (x1.at q e))
    have BR : B R = none := del0_at
    have Ba : B a = some (.lst (zs.map V.str)) := by
      show del0 _ R a = _
      rw [del0_ne aR, upd_ne ap]
      exact ha2
    have Bp : B p = some (.lst ((zs.take n).map V.str)) := by
      show del0 _ R p = _
      rw [del0_ne pR, upd_same]
    refine ⟨p, rfl, ⟨_, SqL.of upd_same⟩, for_it walk_list (fun i σ H' => (∃ c3 c4 c5, σ = [some (.ref s), some (.ref a), some (.ref R), c3, c4, c5]) ∧ StrAt H' s ∧ Sx s B H' ∧ ∃ ms : List PStr, H' R = some (.lst (ms.map V.str)) ∧ ms.length = i ∧ ms.Nodup ∧ (∀ m ∈ ms, Wrd m) ∧ ∀ m ∈ ms, ∃ z ∈ zs.take i, ∃ t, m = z ++ t)
      ⟨⟨_, _, _, rfl⟩, hs3, fun x o e => ?_, [], by rw [upd_ne (Ne.symm pR)]; exact hR2, rfl, .nil, fun _ h => (by cases h), fun _ h => (by cases h)⟩ (fun i σ H' _ z => SqL.of (z.2.2.1.at np Bp)) (fun i x σ H4 H5 hi z y => ?_) (fun σ H4 z => ?_)⟩
    · exact (Sx.of (s := s) (del0_le : Same B _)) x o e
    · obtain ⟨⟨c3, c4, c5, rfl⟩, h4, x4, ms, hR4, hl, hnd, hw, hh⟩ := z
      obtain ⟨rfl, hy⟩ := y
      have hi' : i < n ∧ i < zs.length := by
        have : i < ((zs.take n).map V.str).length := hi
        rw [List.length_map, List.length_take] at this
        omega
      rw [List.getElem?_map, List.getElem?_take_of_lt hi'.1, List.getElem?_eq_getElem hi'.2] at hy
      have hy' : x = .str (zs[i]'hi'.2) := (Option.some.inj hy).symm
      subst hy'
      have hzi : zs[i]? = some (zs[i]'hi'.2) := List.getElem?_eq_getElem hi'.2
      generalize zs[i]'hi'.2 = z at hzi
      have hLz : Let z := z4 z (List.mem_of_getElem? hzi)
      refine ⟨_, rfl, _, _, rfl, h4, by decide, by decide, fun H6 k h6 x6 k0 k1 => ⟨k, rfl, by omega, by omega, fun D hD => ?_⟩⟩
      have nD := h6.free hD
      refine lc_it walk_range (fun j H' => StrAt H' s ∧ Sx s H6 H' ∧ ∃ ys : List PStr, H' D = some (.lst (ys.map V.str)) ∧ ys.length = j ∧ ∀ y ∈ ys, Let y) ⟨(h6.new hD _).1, (h6.new hD _).2, [], upd_same, rfl, fun _ h => (by cases h)⟩ (fun _ _ _ _ => trivial) (fun j x H7 H8 hj z y => ?_) (fun H7 z => ?_)
      · obtain ⟨rfl, rfl⟩ := y
        obtain ⟨h7, x7, ys, hD7, hyl, hyL⟩ := z
        have ha7 : H8 a = some (.lst (zs.map V.str)) := x7.at na (x6.at na (x4.at na Ba))
        refine ⟨rfl, _, rfl, _, rfl, _, rfl, a, _, rfl, .inl (SqL.of ha7), _, _, rfl, h7, by rw [List.length_map]; omega, by rw [List.length_map]; omega, fun H9 r h9 x9 r0 r1 => ?_⟩
        rw [List.length_map] at r1
        have hr' : r.toNat < zs.length := by omega
        refine ⟨a, _, r, .str (zs[r.toNat]'hr'), rfl, rfl, SqL.of (x9.at na ha7), ?_, ?_⟩
        · have := atI_nat (show (zs.map V.str)[r.toNat]? = some (V.str (zs[r.toNat]'hr')) by rw [List.getElem?_map, List.getElem?_eq_getElem hr']; rfl)
          rwa [Int.toNat_of_nonneg r0] at this
        · have hLy : Let (zs[r.toNat]'hr') := z4 _ (List.getElem_mem hr')
          generalize zs[r.toNat]'hr' = y at hLy
          refine ⟨ys.map V.str, x9.at nD hD7, by rw [List.length_map, sizeLine_eq]; omega, h9.upd nD, (x7.trans x9).put hD, ys ++ [y], by rw [upd_same, List.map_append]; rfl, by rw [List.length_append, hyl]; rfl, fun q hq => ?_⟩
          rcases List.mem_append.mp hq with h | h
          · exact hyL q h
          · rw [List.mem_singleton.mp h]; exact hLy
      · obtain ⟨h7, x7, ys, hD7, hyl, hyL⟩ := z
        have x47 : Sx s B H7 := x4.trans (x6.trans x7)
        have hR6 : H6 R = some (.lst (ms.map V.str)) := x6.at nR hR4
        have hR7 : H7 R = some (.lst (ms.map V.str)) := x7.at nR hR6
        have hj := join_chs hyL
        have hz1 := hLz.chs
        have lz : ∀ {n : Nat} {q : PStr}, Chs q n → q.length = n := fun h => h.1
        refine ⟨_, rfl, .inl ⟨rfl, _, SqL.of hR7⟩, _, rfl, ⟨_, rfl⟩, _, rfl, _, D, ys, rfl, rfl, .inl (SqL.of hD7), ?_, _, _, rfl, rfl, ?_, ?_⟩
        · rw [sum_let hyL]
          show ys.length + ys.length * 0 ≤ 16777216
          omega
        · rw [TL.join_eq]
          have e1 : z.length = 1 := hz1.1
          have e2 : (PySem.Str.join (PySem.Str.ofString "") ys).length = ys.length := hj.1
          rw [e1, e2, sizeLine_eq]
          omega
        · rw [TL.join_eq]
          have hm := hz1.app hj
          refine ⟨_, _, _, rfl, rfl, hR7, by rw [List.length_map, sizeLine_eq]; omega, ⟨_, _, _, rfl⟩, h7.upd nR, x47.put BR, ms ++ [z ++ PySem.Str.join ⟨#[]⟩ ys], by rw [upd_same, List.map_append]; rfl, by rw [List.length_append, hl]; rfl, ?_, fun m hmm => ?_, fun m hmm => ?_⟩
          · refine List.nodup_append.mpr ⟨hnd, List.nodup_cons.mpr ⟨List.not_mem_nil, .nil⟩, fun q hq q' hq' e => ?_⟩
            rw [List.mem_singleton.mp hq'] at e
            obtain ⟨z', hz', t, ht⟩ := hh q hq
            have hz'L : Let z' := z4 z' (List.mem_of_mem_take hz')
            rw [ht] at e
            rw [head_eq hz'L hLz e] at hz'
            exact not_take z3 hzi hz'
          · rcases List.mem_append.mp hmm with h | h
            · exact hw m h
            · rw [List.mem_singleton.mp h]
              exact ⟨by rw [hm.1]; omega, by rw [hm.1]; omega, hm.2⟩
          · rw [take_snoc hzi]
            rcases List.mem_append.mp hmm with h | h
            · obtain ⟨z', hz', r⟩ := hh m h
              exact ⟨z', List.mem_append_left _ hz', r⟩
            · exact ⟨z, List.mem_append_right _ (List.mem_singleton.mpr rfl), _, List.mem_singleton.mp h⟩
    · obtain ⟨⟨c3, c4, c5, rfl⟩, h4, x4, ms, hR4, hl, hnd, hw, hh⟩ := z
      rw [List.length_map, List.length_take] at hl
      exact ⟨_, rfl, hQ H4 R ms h4 (hB.trans x4) ⟨by rw [del0_ne nR]; exact hR4, by omega, by omega, hnd, hw⟩⟩
end
end TX
end
section
set_option autoImplicit false
set_option maxHeartbeats 4000000
/-! The law's steps. -/
namespace TX
open PySem PySem.Spec PyProof.Rows L2 He TE
/-- every tuple stands -/
def Tups (H H' : Hp) : Prop := ∀ a xs, H a = some (.tup xs) → H' a = some (.tup xs)
theorem Tups.refl (H : Hp) : Tups H H := fun _ _ h => h
theorem Tups.trans {A B C : Hp} (h : Tups A B) (k : Tups B C) : Tups A C := fun a xs e => k a xs (h a xs e)
theorem Tups.of {H H' : Hp} (h : Same H H') : Tups H H' := fun a xs e => h _ _ e
theorem Tups.put {H : Hp} {p : Addr} {o u : HO} (h : H p = some o) (n : ∀ xs, o ≠ .tup xs) : Tups H (upd H p u) := fun a xs e => by
  have : a ≠ p := fun z => by rw [z, h] at e; exact n xs (Option.some.inj e)
  rw [upd_ne this]
  exact e
theorem StrAt.kind {H : Hp} {s : Addr} (h : StrAt H s) : ∃ xs, H s = some (.lst xs) := let ⟨_, _, h, _⟩ := h; ⟨_, h⟩
theorem Sx.tups {s : Addr} {H H' : Hp} (h : Sx s H H') (hs : StrAt H s) : Tups H H' := fun a xs e => by
  obtain ⟨ys, hy⟩ := hs.kind
  exact h.at (ne_of e hy (by intro z; cases z)) e
theorem StrAt.tups {H : Hp} {s : Addr} (hs : StrAt H s) : Tups H (del0 H s) := fun a xs e => by
  obtain ⟨ys, hy⟩ := hs.kind
  rw [del0_ne (ne_of e hy (by intro z; cases z))]
  exact e
theorem StpAt.tups {K : PySem.W.Frag} {H H' : Hp} {v : V} {s : Step} (h : StpAt K H v s) (e : Tups H H') : StpAt K H' v s := by
  obtain ⟨a, rfl, h, o⟩ := h
  exact ⟨a, rfl, e _ _ h, o⟩
theorem NmAt.tups {K : PySem.W.Frag} {H H' : Hp} {v : V} {p : PStr × Step} (h : NmAt K H v p) (e : Tups H H') : NmAt K H' v p := by
  obtain ⟨a, v', rfl, h, s, w⟩ := h
  exact ⟨a, v', rfl, e _ _ h, s.tups e, w⟩
theorem alph_at {zs : List PStr} {r : Int} (h0 : 0 ≤ r) (h1 : r < ((zs.map V.str).length : Int)) : ∃ z ∈ zs, atI (zs.map V.str) r = some (V.str z) := by
  rw [List.length_map] at h1
  have hr' : r.toNat < zs.length := by omega
  refine ⟨_, List.getElem_mem hr', ?_⟩
  have := atI_nat (show (zs.map V.str)[r.toNat]? = some (V.str (zs[r.toNat]'hr')) by rw [List.getElem?_map, List.getElem?_eq_getElem hr']; rfl)
  rwa [Int.toNat_of_nonneg h0] at this
/-- the steps so far -/
structure StpI (K : PySem.W.Frag) (s d R : Addr) (H H' : Hp) (i j : Nat) (l : List Step) : Prop where
  st : StrAt H' s
  sx : Sx s H H'
  kn : ∃ kvs fk, H' d = some (.dK kvs) ∧ LDk kvs fk j
  rs : ∃ vs, H' R = some (.lst vs) ∧ Paired (StpAt K H') vs l
  ln : l.length = i
theorem StpI.step {K : PySem.W.Frag} {s d R : Addr} {H H' H2 : Hp} {i j : Nat} {l : List Step} (h : StpI K s d R H H' i j l) (hs : StrAt H2 s) (x : Sx s H' H2) (nd : d ≠ s) (nR : R ≠ s) : StpI K s d R H H2 i j l := by
  obtain ⟨kvs, fk, hd, L⟩ := h.kn
  obtain ⟨vs, hv, pr⟩ := h.rs
  exact ⟨hs, h.sx.trans x, ⟨kvs, fk, x.at nd hd, L⟩, ⟨vs, x.at nR hv, paired_imp pr fun _ _ q => q.tups (x.tups h.st)⟩, h.ln⟩
theorem StpI.new {K : PySem.W.Frag} {s d R : Addr} {H H' : Hp} {i j : Nat} {l : List Step} (h : StpI K s d R H H' i j l) (nd : d ≠ s) (nR : R ≠ s) {p : Addr} (hp : H' p = none) (o : HO) : StpI K s d R H (upd H' p o) i j l := h.step (h.st.new hp o).1 (h.st.new hp o).2 nd nR
theorem StpI.app {K : PySem.W.Frag} {s d R : Addr} {H H' : Hp} {i j : Nat} {l : List Step} (h : StpI K s d R H H' i j l) (nd : d ≠ s) (nR : R ≠ s) (hR : H R = none) {vs : List V} (hv : H' R = some (.lst vs)) {v : V} {t : Step} (ht : StpAt K H' v t) :
    StpI K s d R H (upd H' R (.lst (vs ++ [v]))) (i + 1) j (l ++ [t]) := by
  obtain ⟨kvs, fk, hd, L⟩ := h.kn
  obtain ⟨vs', hv', pr⟩ := h.rs
  rw [hv] at hv'
  cases hv'
  have tp : Tups H' (upd H' R (.lst (vs ++ [v]))) := Tups.put hv (by intro xs e; cases e)
  exact ⟨h.st.upd nR, h.sx.put hR, ⟨kvs, fk, by rw [upd_ne (ne_of hd hv (by intro z; cases z))]; exact hd, L⟩, ⟨_, upd_same, paired_app (paired_imp pr fun _ _ q => q.tups tp) (.cons (ht.tups tp) .nil)⟩, by rw [List.length_append, h.ln]; rfl⟩
theorem StpI.monoK {K : PySem.W.Frag} {s d R : Addr} {H H' : Hp} {i j : Nat} {l : List Step} (h : StpI K s d R H H' i j l) : StpI K s d R H H' i (j + 1) l := by
  obtain ⟨kvs, fk, hd, L⟩ := h.kn
  exact ⟨h.st, h.sx, ⟨kvs, fk, hd, L.mono (Nat.le_succ j)⟩, h.rs, h.ln⟩
theorem StpI.put {K : PySem.W.Frag} {s d R : Addr} {H H' : Hp} {i j : Nat} {l : List Step} (h : StpI K s d R H H' i j l) (nd : d ≠ s) (hd0 : H d = none) {kvs : List (Key × V)} {fk : Int → Option PStr} (hd : H' d = some (.dK kvs)) (L : LDk kvs fk j) {pl : Int} {z : PStr} (hz : Let z) :
    StpI K s d R H (upd H' d (.dK (putK kvs (Sum.inl pl) (.str z)))) i (j + 1) l := by
  obtain ⟨vs, hv, pr⟩ := h.rs
  have tp : Tups H' (upd H' d (.dK (putK kvs (Sum.inl pl) (.str z)))) := Tups.put hd (by intro xs e; cases e)
  exact ⟨h.st.upd nd, h.sx.put hd0, ⟨_, _, upd_same, L.put hz⟩, ⟨vs, by rw [upd_ne (ne_of hv hd (by intro z; cases z))]; exact hv, paired_imp pr fun _ _ q => q.tups tp⟩, h.ln⟩
section
variable {P : Program} {w : World} {K : PySem.W.Frag} {mg : PStr → Option Value} {base : Heap}
theorem sc50 : FnScope ["_law_stream_here", "_law_alphabet_here", "_law_most", "_law_known", "_law_place", "_law_result", "_law_turn", "_law_way", "_law_sign"] ["_law_stream_here", "_law_alphabet_here", "_law_most"] (defScope s50) := ⟨rfl, rfl, rfl, by decide +kernel, rfl, by decide +kernel, by decide +kernel⟩
def spLSteps (K : PySem.W.Frag) : Sp := fun vs H Q _ => ∃ (s a : Addr) (zs : List PStr) (m : Nat), vs = [.ref s, .ref a, .int m] ∧ StrAt H s ∧ AlphAt (del0 H s) a zs ∧ m ≤ 1000 ∧ ∀ H' r l, StrAt H' s → Sx s H H' → H r = none → StsAt K (del0 H' s) r l → l.length ≤ m → Q (.ref r) H'

theorem ok_steps (T : Txt P K mg) : Dfn P w K mg base 2 "_law_steps" (spLSteps K) := by
  refine dfnN T 25 (d := d50) rfl "_law_steps" (by decide +kernel) rfl rfl sc50 (fun _ _ _ _ _ _ us hl => match us, hl with | [_, _, _], _ => rfl) (fun vs H Q E h => ?_) (fun f cdv A outer s H vs Q E hr h => ?_)
  · obtain ⟨s, a, zs, m, rfl, _⟩ := h
    rfl
  · refine ⟨_, (pss_cons (ps_par3 (i := 3) (j := 4) (l := 5) rfl sc50.nd rfl rfl rfl (by decide) (by decide) (by decide) rfl rfl rfl (pa_cons pe_dnewK (pa_cons pe_int (pa_cons (pe_lst pa_nil) pa_nil))) rfl) (pss_cons (ps_for (passes_of rfl) rfl (pi_range1 (by rfl) (T.fre "range" (by decide +kernel)) (pa_cons (pe_d (ok_draw T) hr (by decide) (by rfl) (pa_cons (pv 0) (pa_cons (pe_op op_add (pv 2) pe_int) pa_nil))) pa_nil)) (pg_name (i := 6) sc50.nd rfl (.inl rfl)) (pss_cons (ps_set (i := 7) sc50.nd rfl (.inl rfl) (pe_d (ok_draw T) hr (by decide) (by rfl) (pa_cons (pv 0) (pa_cons pe_int pa_nil)))) (pss_cons (ps_set (i := 8) sc50.nd rfl (.inl rfl) (pe_ix ix_list (pv 1) (pe_d (ok_draw T) hr (by decide) (by rfl) (pa_cons (pv 0) (pa_cons (pe_callB call_len_seq (by rfl) (T.fre "len" (by decide +kernel)) PySem.boot_len (pa_cons (pv 1) pa_nil)) pa_nil))) (fun _ _ => rfl))) (pss_one (ps_if (pt_cmpR op_lt (pv 7) pe_int (nomark _)) (pss_cons (ps_set (i := 4) sc50.nd rfl (.inl rfl) (pe_op op_add (pv 4) (pe_ix ix_list (pe_lst (pa_cons (pe_un un_neg pe_int) (pa_cons pe_int pa_nil))) (pe_op op_fdiv (pv 7) pe_int) (fun _ _ => rfl)))) (pss_one (ps_expr (pe_bm PySem.F.plainAttrs_list PySem.F.slot_list_append PySem.F.type_list_append mt_append (pv 5) (pa_cons (pe_ix ix_list (pe_lst (pa_cons (pe_tup (pa_cons pe_str pa_nil)) (pa_cons (pe_tup (pa_cons pe_str pa_nil)) pa_nil))) (pe_op op_fdiv (pv 7) pe_int) (fun _ _ => rfl)) pa_nil))))) (pss_one (ps_if (pt_cmpR op_lt (pv 7) pe_int (nomark _)) (pss_cons (ps_dput (hu_of hr) (pv 3) (pv 4) (pv 8) rfl) (pss_one (ps_expr (pe_bm PySem.F.plainAttrs_list PySem.F.slot_list_append PySem.F.type_list_append mt_append (pv 5) (pa_cons (pe_tup (pa_cons pe_str (pa_cons (pv 8) pa_nil))) pa_nil))))) (pss_cons (ps_if (pt_cmpR op_gt (pe_d (ok_draw T) hr (by decide) (by rfl) (pa_cons (pv 0) (pa_cons pe_int pa_nil))) pe_int (nomark _)) (pss_one (ps_set (i := 8) sc50.nd rfl (.inl rfl) (pe_dget2 (hu_of hr) (pv 3) (pv 4) (pv 8) ⟨by rfl, by rfl, by rfl, by rfl⟩))) pss_nil) (pss_cons (ps_dput (hu_of hr) (pv 3) (pv 4) (pe_dget2 (hu_of hr) (pv 3) (pv 4) (pv 8) ⟨by rfl, by rfl, by rfl, by rfl⟩) rfl) (pss_one (ps_expr (pe_bm PySem.F.plainAttrs_list PySem.F.slot_list_append PySem.F.type_list_append mt_append (pv 5) (pa_cons (pe_tup (pa_cons pe_str (pa_cons (pv 8) pa_nil))) pa_nil))))))))))))) (pss_one (ps_ret (pv 5))))), ?_⟩
    obtain ⟨s, a, zs, m, rfl, hs, ha, hm, hQ⟩ := h
    obtain ⟨z1, z2, z3, z4⟩ := ha.2
    have na := ha.ne
    intro d hd
    refine ⟨by rw [sizeLine_eq]; exact (by decide : 0 ≤ 16777216), fun R hR => ⟨_, _, _, rfl, ?_⟩⟩
    have hdd : upd H d (.dK []) d = some (.dK []) := upd_same
    have dR : d ≠ R := ne_free hdd hR
    have hR0 : H R = none := by rw [upd_ne (Ne.symm dR)] at hR; exact hR
    have nd := hs.free hd
    have nR := hs.free hR0
    have I0 : StpI K s d R H (upd (upd H d (.dK [])) R (.lst [])) 0 0 [] := ⟨(hs.upd nd).upd nR, ((Sx.refl H).put hd).put hR0, ⟨[], _, by rw [upd_ne dR, upd_same], LDk.nil⟩, ⟨[], upd_same, .nil⟩, rfl⟩
    have al : ∀ {H' : Hp}, Sx s H H' → H' a = some (.lst (zs.map V.str)) := fun x => x.at na ha.up.1
    have zl : (0 : Int) < (zs.map V.str).length ∧ ((zs.map V.str).length : Int) < 1000000 := by rw [List.length_map]; omega
    refine ⟨_, rfl, _, rfl, _, _, rfl, rfl, _, _, rfl, I0.st, by omega, by omega, fun H1 c hs1 x1 c0 c1 => ?_⟩
    have I1 := I0.step hs1 x1 nd nR
    refine ⟨c, rfl, by omega, by omega, for_it walk_range (fun i σ H' => (∃ c6 c7 c8 pl, σ = [some (.ref s), some (.ref a), some (.int m), some (.ref d), some (.int pl), some (.ref R), c6, c7, c8]) ∧ ∃ l, StpI K s d R H H' i i l) ⟨⟨_, _, _, _, rfl⟩, [], I1⟩ (fun _ _ _ _ _ => trivial) (fun i x σ H2 H3 hi z y => ?_) (fun σ H2 z => ?_)⟩
    · obtain ⟨⟨c6, c7, c8, pl, rfl⟩, l, I2⟩ := z
      obtain ⟨rfl, rfl⟩ := y
      have hi2 : i ≤ 1000 := by omega
      refine ⟨_, rfl, _, _, rfl, I2.st, by decide, by decide, fun H4 w4 hs4 x4 w0 w1 => ?_⟩
      have I4 := I2.step hs4 x4 nd nR
      refine ⟨_, rfl, _, rfl, _, rfl, a, _, rfl, .inl (SqL.of (al I4.sx)), _, _, rfl, hs4, zl.1, zl.2, fun H5 r hs5 x5 r0 r1 => ?_⟩
      have I5 := I4.step hs5 x5 nd nR
      obtain ⟨z, hzm, hz⟩ := alph_at r0 r1
      have hLz : Let z := z4 z hzm
      refine ⟨a, _, r, _, rfl, rfl, SqL.of (al I5.sx), hz, ?_⟩
      refine ⟨_, rfl, _, _, rfl, rfl, _, rfl, ?_⟩
      by_cases c4 : w4 < 4
      · refine iteT' (decide_eq_true c4) ?_
        refine ⟨_, rfl, _, rfl, by rw [sizeLine_eq]; exact (by decide : 2 ≤ 16777216), fun l1 hl1 => ?_⟩
        have I6 := I5.new nd nR hl1 (.lst [.int (-1), .int 1])
        have w2 : w4 / 2 = 0 ∨ w4 / 2 = 1 := by omega
        obtain ⟨e, he⟩ : ∃ e : Int, atI [V.int (-1), .int 1] (w4 / 2) = some (.int e) := by
          rcases w2 with e | e <;> rw [e]
          · exact ⟨-1, rfl⟩
          · exact ⟨1, rfl⟩
        refine ⟨_, rfl, _, _, rfl, rfl, ⟨by decide, by decide⟩, l1, _, _, _, rfl, rfl, SqL.of upd_same, he, _, _, rfl, rfl, ?_⟩
        obtain ⟨vs, hv, pr⟩ := I6.rs
        refine ⟨_, rfl, .inl ⟨rfl, _, SqL.of hv⟩, ?_⟩
        refine ⟨by rw [sizeLine_eq]; exact (by decide : 1 ≤ 16777216), fun p1 hp1 => ⟨by rw [sizeLine_eq]; exact (by decide : 1 ≤ 16777216), fun p2 hp2 => ⟨by rw [sizeLine_eq]; exact (by decide : 2 ≤ 16777216), fun p3 hp3 => ?_⟩⟩⟩
        have I7 := I6.new nd nR hp1 (.tup [.str "left"])
        have I8 := I7.new nd nR hp2 (.tup [.str "right"])
        have I9 := I8.new nd nR hp3 (.lst [.ref p1, .ref p2])
        have q1 := ((Ext.upd hp2).trans (Ext.upd (o := .lst [.ref p1, .ref p2]) hp3)) p1 _ upd_same
        have q2 := (Ext.upd (o := .lst [.ref p1, .ref p2]) hp3) p2 _ upd_same
        obtain ⟨p, t, hp, ht⟩ : ∃ p t, atI [V.ref p1, .ref p2] (w4 / 2) = some p ∧ StpAt K (upd (upd (upd (upd H5 l1 (.lst [.int (-1), .int 1])) p1 (.tup [.str "left"])) p2 (.tup [.str "right"])) p3 (.lst [.ref p1, .ref p2])) p t := by
          rcases w2 with e | e <;> rw [e]
          · exact ⟨_, .left, rfl, p1, rfl, q1, trivial⟩
          · exact ⟨_, .right, rfl, p2, rfl, q2, trivial⟩
        obtain ⟨vs9, hv9, pr9⟩ := I9.rs
        have len9 := pr9.length
        have ln9 := I9.ln
        refine ⟨_, rfl, _, _, rfl, rfl, ⟨by decide, by decide⟩, p3, _, _, _, rfl, rfl, SqL.of upd_same, hp, R, _, _, rfl, rfl, hv9, by rw [sizeLine_eq]; omega, ⟨_, _, _, _, rfl⟩, _, (I9.app nd nR hR0 hv9 ht).monoK⟩
      · refine iteF' (decide_eq_false c4) ?_
        refine ⟨_, rfl, _, _, rfl, rfl, _, rfl, ?_⟩
        by_cases c6 : w4 < 6
        · refine iteT' (decide_eq_true c6) ?_
          obtain ⟨kvs, fk, hkd, L⟩ := I5.kn
          have I6 := I5.put nd hd hkd L (pl := pl) hLz
          refine ⟨_, rfl, _, rfl, _, rfl, d, _, rfl, DPut.k (k := Sum.inl pl) hkd (by have := L.ln; rw [sizeLine_eq]; omega), ?_⟩
          obtain ⟨vs, hv, pr⟩ := I6.rs
          refine ⟨_, rfl, .inl ⟨rfl, _, SqL.of hv⟩, ?_⟩
          refine ⟨_, rfl, by rw [sizeLine_eq]; exact (by decide : 2 ≤ 16777216), fun p1 hp1 => ?_⟩
          have I7 := I6.new nd nR hp1 (.tup [.str "write", .str z])
          obtain ⟨vs9, hv9, pr9⟩ := I7.rs
          have len9 := pr9.length
          have ln9 := I7.ln
          exact ⟨R, _, _, rfl, rfl, hv9, by rw [sizeLine_eq]; omega, ⟨_, _, _, _, rfl⟩, _, I7.app nd nR hR0 hv9 (t := .wr z) ⟨p1, rfl, upd_same, hLz⟩⟩
        · refine iteF' (decide_eq_false c6) ?_
          refine ⟨_, rfl, _, _, rfl, I5.st, by decide, by decide, fun H6 r' hs6 x6 r'0 r'1 => ?_⟩
          have I6 := I5.step hs6 x6 nd nR
          obtain ⟨kvs, fk, hkd, L⟩ := I6.kn
          have get : ∀ y : PStr, Let y → ∃ q, Let q ∧ (valV kvs (Sum.inl pl)).getD (.str y) = .str q := fun y hy => by
            rw [L.vl pl]
            cases hf : fk pl with
            | none => exact ⟨y, hy, rfl⟩
            | some q =>
              have hv' := L.vl pl
              rw [hf] at hv'
              obtain ⟨_, zz, e, hzz⟩ := L.sh _ (valV_mem hv')
              cases e
              exact ⟨q, hzz, rfl⟩
          refine ⟨_, _, rfl, rfl, _, rfl, ?_⟩
          by_cases c7 : 0 < r'
          · refine iteT' (decide_eq_true c7) ?_
            obtain ⟨q, hq, e⟩ := get z hLz
            obtain ⟨q2, hq2, eq2⟩ := get q hq
            refine ⟨_, rfl, d, rfl, .inl ⟨kvs, .inl hkd⟩, _, rfl, _, rfl, _, DGet.k (k := Sum.inl pl) hkd, ?_⟩
            rw [e]
            · skip
              refine ⟨_, rfl, d, rfl, .inl ⟨kvs, .inl hkd⟩, _, rfl, _, rfl, _, DGet.k (k := Sum.inl pl) hkd, ?_⟩
              rw [eq2]
              refine ⟨_, rfl, _, rfl, d, _, rfl, DPut.k (k := Sum.inl pl) hkd (by have := L.ln; rw [sizeLine_eq]; omega), ?_⟩
              have I7 := I6.put nd hd hkd L (pl := pl) hq2
              obtain ⟨vs, hv, pr⟩ := I7.rs
              refine ⟨_, rfl, .inl ⟨rfl, _, SqL.of hv⟩, ?_⟩
              refine ⟨_, rfl, by rw [sizeLine_eq]; exact (by decide : 2 ≤ 16777216), fun p1 hp1 => ?_⟩
              have I8 := I7.new nd nR hp1 (.tup [.str "expect", .str q])
              obtain ⟨vs9, hv9, pr9⟩ := I8.rs
              have len9 := pr9.length
              have ln9 := I8.ln
              exact ⟨R, _, _, rfl, rfl, hv9, by rw [sizeLine_eq]; omega, ⟨_, _, _, _, rfl⟩, _, I8.app nd nR hR0 hv9 (t := .ex q) ⟨p1, rfl, upd_same, hq⟩⟩
          · refine iteF' (decide_eq_false c7) ?_
            obtain ⟨q2, hq2, eq2⟩ := get z hLz
            · skip
              refine ⟨_, rfl, d, rfl, .inl ⟨kvs, .inl hkd⟩, _, rfl, _, rfl, _, DGet.k (k := Sum.inl pl) hkd, ?_⟩
              rw [eq2]
              refine ⟨_, rfl, _, rfl, d, _, rfl, DPut.k (k := Sum.inl pl) hkd (by have := L.ln; rw [sizeLine_eq]; omega), ?_⟩
              have I7 := I6.put nd hd hkd L (pl := pl) hq2
              obtain ⟨vs, hv, pr⟩ := I7.rs
              refine ⟨_, rfl, .inl ⟨rfl, _, SqL.of hv⟩, ?_⟩
              refine ⟨_, rfl, by rw [sizeLine_eq]; exact (by decide : 2 ≤ 16777216), fun p1 hp1 => ?_⟩
              have I8 := I7.new nd nR hp1 (.tup [.str "expect", .str z])
              obtain ⟨vs9, hv9, pr9⟩ := I8.rs
              have len9 := pr9.length
              have ln9 := I8.ln
              exact ⟨R, _, _, rfl, rfl, hv9, by rw [sizeLine_eq]; omega, ⟨_, _, _, _, rfl⟩, _, I8.app nd nR hR0 hv9 (t := .ex z) ⟨p1, rfl, upd_same, hLz⟩⟩
    · obtain ⟨⟨c6, c7, c8, pl, rfl⟩, l, I2⟩ := z
      obtain ⟨vs, hv, pr⟩ := I2.rs
      refine ⟨_, rfl, hQ H2 R l I2.st I2.sx hR0 ⟨vs, by rw [del0_ne nR]; exact hv, paired_imp pr fun _ _ q => q.tups I2.st.tups⟩ ?_⟩
      have := I2.ln
      omega
end
end TX
end
section
set_option autoImplicit false
set_option maxHeartbeats 4000000
/-! The law's spots. -/
namespace TX
open PySem PySem.Spec PyProof.Rows L2 He TE
section
variable {P : Program} {w : World} {K : PySem.W.Frag} {mg : PStr → Option Value} {base : Heap}
theorem sc51 : FnScope ["_law_stream_here", "_law_alphabet_here", "_law_empty", "_law_result", "_law_place", "_law_sign"] ["_law_stream_here", "_law_alphabet_here", "_law_empty"] (defScope s51) := ⟨rfl, rfl, rfl, by decide +kernel, rfl, by decide +kernel, by decide +kernel⟩
def spSpots (K : PySem.W.Frag) : Sp := fun vs H Q _ => ∃ (s a : Addr) (zs : List PStr) (b : PStr), vs = [.ref s, .ref a, .str b] ∧ StrAt H s ∧ AlphAt (del0 H s) a zs ∧ ∀ H' d kvs f, StrAt H' s → Sx s H H' → H d = none → H' d = some (.dK kvs) → LDk kvs f 7 → (∀ i z, f i = some z → z ≠ b) → Q (.ref d) H'

theorem ok_spots (T : Txt P K mg) : Dfn P w K mg base 2 "_law_spots" (spSpots K) := by
  refine dfnN T 26 (d := d51) rfl "_law_spots" (by decide +kernel) rfl rfl sc51 (fun _ _ _ _ _ _ us hl => match us, hl with | [_, _, _], _ => rfl) (fun vs H Q E h => ?_) (fun f cdv A outer s H vs Q E hr h => ?_)
  · obtain ⟨s, a, zs, m, rfl, _⟩ := h
    rfl
  · refine ⟨_, (pss_cons (ps_set (i := 3) sc51.nd rfl (.inl rfl) pe_dnewK) (pss_cons (ps_for (passes_of rfl) rfl (pi_range2 (by rfl) (T.fre "range" (by decide +kernel)) (pa_cons (pe_un un_neg pe_int) (pa_cons pe_int pa_nil))) (pg_name (i := 4) sc51.nd rfl (.inl rfl)) (pss_cons (ps_set (i := 5) sc51.nd rfl (.inl rfl) (pe_ix ix_list (pv 1) (pe_d (ok_draw T) hr (by decide) (by rfl) (pa_cons (pv 0) (pa_cons (pe_callB call_len_seq (by rfl) (T.fre "len" (by decide +kernel)) PySem.boot_len (pa_cons (pv 1) pa_nil)) pa_nil))) (fun _ _ => rfl))) (pss_one (ps_if (PW.pt (pw_and (pt_cmpR op_gt (pe_d (ok_draw T) hr (by decide) (by rfl) (pa_cons (pv 0) (pa_cons pe_int pa_nil))) pe_int (nomark _)) (pw_and1 (pt_cmpR op_ne (pv 5) (pv 2) (nomark _))))) (pss_one (ps_dput (hu_of hr) (pv 3) (pv 4) (pv 5) rfl)) pss_nil)))) (pss_one (ps_ret (pv 3))))), ?_⟩
    obtain ⟨s, a, zs, b, rfl, hs, ha, hQ⟩ := h
    obtain ⟨z1, z2, z3, z4⟩ := ha.2
    have na := ha.ne
    intro d hd
    have nd := hs.free hd
    have al : ∀ {H' : Hp}, Sx s H H' → H' a = some (.lst (zs.map V.str)) := fun x => x.at na ha.up.1
    have zl : (0 : Int) < (zs.map V.str).length ∧ ((zs.map V.str).length : Int) < 1000000 := by rw [List.length_map]; omega
    refine ⟨_, rfl, -3, 4, rfl, ⟨by decide, by decide, by decide, by decide⟩, for_it walk_range (fun i σ H' => (∃ c4 c5, σ = [some (.ref s), some (.ref a), some (.str b), some (.ref d), c4, c5]) ∧ StrAt H' s ∧ Sx s H H' ∧ ∃ kvs f, H' d = some (.dK kvs) ∧ LDk kvs f i ∧ ∀ i z, f i = some z → z ≠ b)
      ⟨⟨_, _, rfl⟩, hs.upd nd, (Sx.refl H).put hd, [], _, upd_same, LDk.nil, fun _ _ h => by cases h⟩ (fun _ _ _ _ _ => trivial) (fun i x σ H2 H3 hi z y => ?_) (fun σ H2 z => ?_)⟩
    · obtain ⟨⟨c4, c5, rfl⟩, hs2, x2, kvs, f, hkd, L, hb⟩ := z
      obtain ⟨rfl, rfl⟩ := y
      have hi7 : i < 7 := hi
      refine ⟨_, rfl, _, rfl, _, rfl, a, _, rfl, .inl (SqL.of (al x2)), _, _, rfl, hs2, zl.1, zl.2, fun H5 r hs5 x5 r0 r1 => ?_⟩
      obtain ⟨z, hzm, hz⟩ := alph_at r0 r1
      have hLz : Let z := z4 z hzm
      refine ⟨a, _, r, _, rfl, rfl, SqL.of (al (x2.trans x5)), hz, ?_⟩
      refine ⟨_, rfl, _, _, rfl, hs5, by decide, by decide, fun H6 r' hs6 x6 r'0 r'1 => ?_⟩
      have x26 := x2.trans (x5.trans x6)
      have hkd6 := x6.at nd (x5.at nd hkd)
      have stay : ∀ {c4 c5 : Option V}, (∃ c4' c5', [some (V.ref s), some (.ref a), some (.str b), some (.ref d), c4, c5] = [some (V.ref s), some (.ref a), some (.str b), some (.ref d), c4', c5']) ∧ StrAt H6 s ∧ Sx s H H6 ∧ ∃ kvs f, H6 d = some (.dK kvs) ∧ LDk kvs f (i + 1) ∧ ∀ i z, f i = some z → z ≠ b :=
        ⟨⟨_, _, rfl⟩, hs6, x26, kvs, f, hkd6, L.mono (Nat.le_succ i), hb⟩
      refine ⟨_, _, rfl, rfl, _, rfl, ?_⟩
      by_cases c7 : 0 < r'
      · refine iteT' (decide_eq_true c7) ?_
        refine ⟨_, rfl, _, rfl, rfl, _, rfl, ?_⟩
        by_cases c8 : z = b
        · refine iteF' (by rw [c8]; simp) ?_
          exact stay
        · refine iteT' (by simpa using c8) ?_
          refine ⟨_, rfl, _, rfl, _, rfl, d, _, rfl, DPut.k (k := Sum.inl (-3 + (i : Nat))) hkd6 (by have := L.ln; rw [sizeLine_eq]; omega), ⟨_, _, rfl⟩, hs6.upd nd, x26.put hd, _, _, upd_same, L.put hLz, fun j y hj => ?_⟩
          by_cases e : j = -3 + (i : Nat)
          · rw [e, fset_same] at hj
            cases hj
            exact c8
          · rw [fset_ne _ _ e] at hj
            exact hb j y hj
      · refine iteF' (decide_eq_false c7) ?_
        exact iteF stay
    · obtain ⟨⟨c4, c5, rfl⟩, hs2, x2, kvs, f, hkd, L, hb⟩ := z
      exact ⟨_, rfl, hQ H2 d kvs f hs2 x2 hd hkd L hb⟩
end
end TX
end
section
set_option autoImplicit false
set_option maxHeartbeats 4000000
/-! The law's lines of named steps. -/
namespace TX
open PySem PySem.Spec PyProof.Rows L2 He TE
theorem paired_take {α β : Type} {F : α → β → Prop} {l₁ : List α} {l₂ : List β} (p : Paired F l₁ l₂) : ∀ k, Paired F (l₁.take k) (l₂.take k) := by
  induction p with
  | nil => intro k; rw [List.take_nil, List.take_nil]; exact .nil
  | cons q _ ih =>
    intro k
    cases k with
    | zero => exact .nil
    | succ k => exact .cons q (ih k)
theorem paired_drop {α β : Type} {F : α → β → Prop} {l₁ : List α} {l₂ : List β} (p : Paired F l₁ l₂) : ∀ k, Paired F (l₁.drop k) (l₂.drop k) := by
  induction p with
  | nil => intro k; rw [List.drop_nil, List.drop_nil]; exact .nil
  | cons q p' ih =>
    intro k
    cases k with
    | zero => exact .cons q p'
    | succ k => exact ih k
theorem cut_to (vs : List V) {c : Int} (h : 0 ≤ c) : cutV vs none (some c) = vs.take c.toNat := by
  have e : c = ((c.toNat : Nat) : Int) := by omega
  unfold cutV
  rw [HT.sIx_none, List.drop_zero, Nat.sub_zero]
  rw [e, HT.sIx_nat, Int.toNat_natCast, List.take_eq_take_iff]
  omega
theorem cut_from (vs : List V) {c : Int} (h : 0 ≤ c) : cutV vs (some c) none = vs.drop c.toNat := by
  have e : c = ((c.toNat : Nat) : Int) := by omega
  unfold cutV
  rw [HT.sIx_none]
  rw [e, HT.sIx_nat, Int.toNat_natCast]
  by_cases q : c.toNat ≤ vs.length
  · rw [Nat.min_eq_left q, List.take_of_length_le]
    rw [List.length_drop]
    exact Nat.le_refl _
  · rw [Nat.min_eq_right (by omega), List.drop_eq_nil_of_le (Nat.le_refl _), List.drop_eq_nil_of_le (by omega), List.take_nil]
theorem NamesAt.ne {H : Hp} {s a : Addr} {zs : List PStr} (h : NamesAt (del0 H s) a zs) : a ≠ s := fun e => by
  have := h.1
  rw [e, del0_at] at this
  cases this
theorem NamesAt.up {H : Hp} {s a : Addr} {zs : List PStr} (h : NamesAt (del0 H s) a zs) : NamesAt H a zs := h.same del0_le
section
variable {P : Program} {w : World} {K : PySem.W.Frag} {mg : PStr → Option Value} {base : Heap}
theorem sc54 : FnScope ["_law_stream_here", "_law_names_here", "_law_alphabet_here", "_law_most", "_law_result", "_law_name", "_law_step", "_law_at", "_law_spot", "_law_one", "_law_last"] ["_law_stream_here", "_law_names_here", "_law_alphabet_here", "_law_most"] (defScope s54) := ⟨rfl, rfl, rfl, by decide +kernel, rfl, by decide +kernel, by decide +kernel⟩
def spLNamed (K : PySem.W.Frag) : Sp := fun vs H Q _ => ∃ (s nm a : Addr) (ns zs : List PStr) (m : Nat), vs = [.ref s, .ref nm, .ref a, .int m] ∧ StrAt H s ∧ NamesAt (del0 H s) nm ns ∧ AlphAt (del0 H s) a zs ∧ m ≤ 5 ∧ ∀ H' R ln, StrAt H' s → Sx s H H' → H R = none → LineAt K (del0 H' s) R ln → ln.length ≤ 15 → (∀ p ∈ ln, p.1 ∈ ns) → Q (.ref R) H'

theorem ok_named (T : Txt P K mg) : Dfn P w K mg base 3 "_law_named" (spLNamed K) := by
  refine dfnN T 28 (d := d54) rfl "_law_named" (by decide +kernel) rfl rfl sc54 (fun _ _ _ _ _ _ us hl => match us, hl with | [_, _, _, _], _ => rfl) (fun vs H Q E h => ?_) (fun f cdv A outer s H vs Q E hr h => ?_)
  · obtain ⟨s, nm, a, ns, zs, m, rfl, _⟩ := h
    rfl
  · refine ⟨_, (pss_cons (ps_set (i := 4) sc54.nd rfl (.inl rfl) (pe_lst pa_nil)) (pss_cons (ps_for (passes_of rfl) rfl (pi_list (pv 1)) (pg_name (i := 5) sc54.nd rfl (.inr rfl)) (pss_one (ps_for (passes_of rfl) rfl (pi_list (pe_d (ok_steps T) hr (by decide) (by rfl) (pa_cons (pv 0) (pa_cons (pv 2) (pa_cons (pv 3) pa_nil))))) (pg_name (i := 6) sc54.nd rfl (.inl rfl)) (pss_cons (ps_set (i := 7) sc54.nd rfl (.inl rfl) (pe_op op_sub (pe_callB call_len_seq (by rfl) (T.fre "len" (by decide +kernel)) PySem.boot_len (pa_cons (pv 4) pa_nil)) (pe_d (ok_draw T) hr (by decide) (by rfl) (pa_cons (pv 0) (pa_cons pe_int pa_nil))))) (pss_cons (ps_set (i := 10) sc54.nd rfl (.inl rfl) (pe_callB (cr_max rfl) (by rfl) (T.fre "max" (by decide +kernel)) (by decide +kernel) (pa_cons (pe_op op_cat (pe_lst (pa_cons (pe_un un_neg pe_int) pa_nil)) (pe_lc (own := [("_law_spot", 8), ("_law_one", 9)]) (g := (gTup K 2 (gCons (gName 8) (gCons (gName 9) gNil)))) (tt := (tTest (tOp rEq (tOp (rIxT K) (tVar 9) (tC (.int 0))) (tVar 5)))) rfl sc54.nd (pi_enum (by rfl) (T.fre "enumerate" (by decide +kernel)) (pa_cons (pv 4) pa_nil)) (blkOk_by (own := [("_law_spot", 8), ("_law_one", 9)]) (N := ["_law_stream_here", "_law_names_here", "_law_alphabet_here", "_law_most", "_law_result", "_law_name", "_law_step", "_law_at", "_law_spot", "_law_one", "_law_last"]) (sc := defScope s54) (by decide +kernel)) (fun _ _ _ _ _ => (pg_tup (by rfl) (pgs_cons (pg_name (i := 8) sc54.nd rfl (.inl rfl)) (pgs_cons (pg_name (i := 9) sc54.nd rfl (.inl rfl)) pgs_nil)))) (fun _ _ _ _ _ => (pts_one (pt_cmpR op_eq (pe_ix ix_tup (pv 9) pe_int (fun _ _ => rfl)) (pv 5) (nomark _)))) (fun _ _ _ _ _ => (pv 8)))) pa_nil))) (pss_cons (ps_set (i := 7) sc54.nd rfl (.inl rfl) (pe_callB (call_max2 rfl) (by rfl) (T.fre "max" (by decide +kernel)) (by decide +kernel) (pa_cons (pv 7) (pa_cons (pe_op op_add (pv 10) pe_int) pa_nil)))) (pss_one (ps_set (i := 4) sc54.nd rfl (.inl rfl) (pe_op op_cat (pe_op op_cat (pe_slice sl_list (pv 4) po_none (po_some (pv 7))) (pe_lst (pa_cons (pe_tup (pa_cons (pv 5) (pa_cons (pv 6) pa_nil))) pa_nil))) (pe_slice sl_list (pv 4) (po_some (pv 7)) po_none)))))))))) (pss_one (ps_ret (pv 4))))), ?_⟩
    obtain ⟨s, nm, a, ns, zs, m, rfl, hs, hn, ha, hm, hQ⟩ := h
    obtain ⟨n1, n2, n3, n4⟩ := hn.2
    have na := ha.ne
    have nnm := hn.ne
    refine ⟨by rw [sizeLine_eq]; exact (by decide : 0 ≤ 16777216), fun R hR => ?_⟩
    obtain ⟨hs1, x1⟩ := hs.new hR (.lst [])
    have nR := hs.free hR
    have nml : ∀ {H' : Hp}, Sx s H H' → H' nm = some (.lst (ns.map V.str)) := fun x => x.at nnm hn.up.1
    refine ⟨_, rfl, nm, rfl, ⟨_, SqL.of (nml x1)⟩, for_it walk_list (fun i σ H' => (∃ R c5 c6 c7 c8 c9 c10 ln, σ = [some (.ref s), some (.ref nm), some (.ref a), some (.int m), some (.ref R), c5, c6, c7, c8, c9, c10] ∧ H R = none ∧ LineAt K (del0 H' s) R ln ∧ ln.length ≤ 5 * i ∧ ∀ p ∈ ln, p.1 ∈ ns) ∧ StrAt H' s ∧ Sx s H H')
      ⟨⟨R, _, _, _, _, _, _, [], rfl, hR, ⟨[], by rw [del0_ne nR]; exact upd_same, .nil⟩, Nat.zero_le _, fun _ h => by cases h⟩, hs1, x1⟩ (fun i σ H' _ z => SqL.of (nml z.2.2)) (fun i x σ H2 H3 hi z y => ?_) (fun σ H2 z => ?_)⟩
    · obtain ⟨⟨R, c5, c6, c7, c8, c9, c10, ln, rfl, hR0, hl, hll, hln⟩, hs2, x2⟩ := z
      obtain ⟨rfl, hy⟩ := y
      rw [List.getElem?_map] at hy
      obtain ⟨n, hn', e⟩ := Option.map_eq_some_iff.mp hy
      subst e
      have hi3 : i < 3 := by
        have : i < (ns.map V.str).length := hi
        rw [List.length_map] at this
        omega
      have hnm : n ∈ ns := List.mem_of_getElem? hn'
      have hwn : Wrd n := n4 n hnm
      refine ⟨_, rfl, _, rfl, _, rfl, s, a, zs, m, rfl, hs2, ha.same x2, by omega, fun H4 r l hs4 x4 _ hst hlm => ?_⟩
      obtain ⟨ws, hws, pw⟩ := hst
      have nr : r ≠ s := fun e => by rw [e, del0_at] at hws; cases hws
      rw [del0_ne nr] at hws
      have plen := pw.length
      refine ⟨r, rfl, ⟨_, SqL.of hws⟩, for_it walk_list (fun j σ H' => (∃ R c6 c7 c8 c9 c10 ln, σ = [some (.ref s), some (.ref nm), some (.ref a), some (.int m), some (.ref R), some (.str n), c6, c7, c8, c9, c10] ∧ H R = none ∧ LineAt K (del0 H' s) R ln ∧ ln.length ≤ 5 * i + j ∧ ∀ p ∈ ln, p.1 ∈ ns) ∧ StrAt H' s ∧ Sx s H4 H')
        ⟨⟨R, _, _, _, _, _, ln, rfl, hR0, hl.same x4, hll, hln⟩, hs4, Sx.refl _⟩ (fun j σ H' _ z => SqL.of (z.2.2.at nr hws)) (fun j x σ H5 H6 hj z y => ?_) (fun σ H5 z => ?_)⟩
      · obtain ⟨⟨R, c6, c7, c8, c9, c10, ln, rfl, hR0, hl, hll, hln⟩, hs5, x5⟩ := z
        obtain ⟨rfl, hy⟩ := y
        obtain ⟨st, hst, hsx⟩ := paired_at1 pw hy
        have hj5 : j < ws.length := hj
        obtain ⟨vs, hv, pr⟩ := hl
        have nR : R ≠ s := fun e => by rw [e, del0_at] at hv; cases hv
        have hvl := pr.length
        have hv5 : H6 R = some (.lst vs) := by rw [del0_ne nR] at hv; exact hv
        refine ⟨_, rfl, R, _, rfl, .inl (SqL.of hv5), _, rfl, _, _, rfl, hs5, by decide, by decide, fun H7 k hs7 x7 k0 k1 => ⟨_, _, rfl, rfl, ?_⟩⟩
        refine ⟨_, rfl, by rw [sizeLine_eq]; exact (by decide : 1 ≤ 16777216), fun l1 hl1 => ?_⟩
        have hv7 := x7.at nR hv5
        have e7 : Same H7 (upd H7 l1 (.lst [.int (-1)])) := Ext.upd hl1
        refine ⟨_, rfl, R, vs, rfl, SqL.of (e7 _ _ hv7), fun D hD => ?_⟩
        have hnv : ∀ {i' : Nat} {q : V}, vs[i']? = some q → ∃ t2 p v', q = .ref t2 ∧ H7 t2 = some (.tup [.str p, v']) := fun {i' q} h => by
          obtain ⟨p, hp, t2, v', e, ht2, _⟩ := paired_at1 pr h
          have nt : t2 ≠ s := fun e => by rw [e, del0_at] at ht2; cases ht2
          rw [del0_ne nt] at ht2
          exact ⟨t2, p.1, v', e, x7.at nt ht2⟩
        refine lc_it walk_enum (fun i' H' => Same (upd H7 l1 (.lst [.int (-1)])) H' ∧ ∃ js : List Int, H' D = some (.lst (js.map V.int)) ∧ js.length ≤ i') ⟨Ext.upd hD, [], upd_same, Nat.le_refl _⟩ (fun i' H' _ z => SqL.of (z.1 _ _ (e7 _ _ hv7))) (fun i' x2 H8 H9 hi' z y => ?_) (fun H8 z => ?_)
        · obtain ⟨zs8, js, hD8, hjs⟩ := z
          obtain ⟨T2, x3, rfl, hT, rfl, hx3⟩ := enum_y y
          obtain ⟨t2, p, v', rfl, ht2⟩ := hnv hx3
          have e9 : Same H8 (upd H8 T2 (.tup [.int (i' : Nat), .ref t2])) := Ext.upd hT
          have hD9 := e9 _ _ hD8
          have hi'' : i' < vs.length := hi'
          refine ⟨T2, _, rfl, SqT.of upd_same, rfl, _, _, rfl, _, _, rfl, rfl, rfl, _, rfl, t2, _, _, _, rfl, rfl, SqT.of (e9 _ _ (zs8 _ _ (e7 _ _ ht2))), rfl, _, rfl, rfl, _, rfl, ?_⟩
          by_cases c : (V.str p = V.str n)
          · refine iteT' (decide_eq_true c) ?_
            refine ⟨_, rfl, js.map V.int, hD9, by rw [List.length_map, sizeLine_eq]; omega, Same.put (zs8.trans e9) hD, js ++ [(i' : Int)], by rw [upd_same, List.map_append]; rfl, by rw [List.length_append]; exact Nat.succ_le_succ hjs⟩
          · refine iteF' (decide_eq_false c) ?_
            exact ⟨zs8.trans e9, js, hD9, Nat.le_succ_of_le hjs⟩
        obtain ⟨zs8, js, hD8, hjs⟩ := z
        have hjs' : js.length ≤ vs.length := hjs
        refine ⟨l1, D, [.int (-1)], js.map V.int, rfl, rfl, zs8 _ _ upd_same, hD8, by rw [List.length_map, sizeLine_eq]; show 1 + js.length ≤ 16777216; omega, fun p1 hp1 => ?_⟩
        refine ⟨p1, (-1) :: js, rfl, SqL.of (by rw [upd_same]; rfl), by show 0 < js.length + 1; omega, fun last _ hmx => ?_⟩
        have hlast : -1 ≤ last := hmx (-1) (List.mem_cons_self ..)
        have e78 : Same H7 (upd H8 p1 (.lst ([.int (-1)] ++ js.map V.int))) := e7.trans (zs8.trans (Ext.upd hp1))
        refine ⟨_, rfl, _, rfl, _, _, rfl, rfl, _, _, rfl, ?_⟩
        have hat : 0 ≤ (if last + 1 > (vs.length : Int) - k then last + 1 else (vs.length : Int) - k) := by split <;> omega
        have hvm := e78 _ _ hv7
        have hsm := hs7.same e78
        generalize upd H8 p1 (.lst ([.int (-1)] ++ js.map V.int)) = Hm at e78 hvm hsm ⊢
        refine ⟨_, rfl, _, rfl, _, rfl, R, vs, rfl, SqL.of hvm, fun p2 hp2 => ?_⟩
        rw [cut_to vs hat]
        generalize (if last + 1 > (vs.length : Int) - k then last + 1 else (vs.length : Int) - k) = at_ at hat ⊢
        have lt : (vs.take at_.toNat).length ≤ vs.length := List.length_take_le' ..
        have ld : (vs.drop at_.toNat).length ≤ vs.length := by rw [List.length_drop]; omega
        have tl : (vs.take at_.toNat).length + (vs.drop at_.toNat).length = vs.length := by rw [List.length_take, List.length_drop]; omega
        refine ⟨_, rfl, _, rfl, by rw [sizeLine_eq]; exact (by decide : 2 ≤ 16777216), fun t ht => ⟨by rw [sizeLine_eq]; exact (by decide : 1 ≤ 16777216), fun l2 hl2 => ?_⟩⟩
        have s1 : Same Hm (upd Hm p2 (.lst (vs.take at_.toNat))) := Ext.upd hp2
        have s2 := Ext.upd (o := .tup [.str n, x]) ht
        have s3 := Ext.upd (o := .lst [.ref t]) hl2
        refine ⟨p2, l2, _, _, rfl, rfl, s3 _ _ (s2 _ _ upd_same), upd_same, by rw [sizeLine_eq]; show (vs.take at_.toNat).length + 1 ≤ 16777216; omega, fun p3 hp3 => ?_⟩
        have s4 := Ext.upd (o := .lst (vs.take at_.toNat ++ [.ref t])) hp3
        refine ⟨_, rfl, _, rfl, _, rfl, R, vs, rfl, SqL.of (s4 _ _ (s3 _ _ (s2 _ _ (s1 _ _ hvm)))), fun p4 hp4 => ?_⟩
        rw [cut_from vs hat]
        have s5 := Ext.upd (o := .lst (vs.drop at_.toNat)) hp4
        refine ⟨p3, p4, _, _, rfl, rfl, s5 _ _ upd_same, upd_same, by rw [List.length_append, sizeLine_eq]; show (vs.take at_.toNat).length + 1 + _ ≤ 16777216; omega, fun p5 hp5 => ?_⟩
        have s6 := Ext.upd (o := .lst (vs.take at_.toNat ++ [.ref t] ++ vs.drop at_.toNat)) hp5
        have sf := s1.trans (s2.trans (s3.trans (s4.trans (s5.trans s6))))
        have hsp := hsm.same (s1.trans (s2.trans (s3.trans (s4.trans s5))))
        have htf := (s3.trans (s4.trans (s5.trans s6))) t _ upd_same
        have xf := x7.trans ((Sx.of (s := s) e78).trans (Sx.of sf))
        have n5 := hsp.free hp5
        have hsf := hsm.same sf
        obtain ⟨ys, hys⟩ := hsf.kind
        have nt := ne_of htf hys (by intro z; cases z)
        have pr' := paired_imp pr fun _ _ q => NmAt.same q xf
        have new : NmAt K (del0 _ s) (.ref t) (n, st) := ⟨t, x, rfl, by rw [del0_ne nt]; exact htf, hsx.same (x5.trans xf), hwn⟩
        refine ⟨⟨p5, _, _, _, _, _, ln.take at_.toNat ++ [(n, st)] ++ ln.drop at_.toNat, rfl, (x2.trans (x4.trans (x5.trans (x7.trans ((Sx.of (s := s) e78).trans (Sx.of (s1.trans (s2.trans (s3.trans (s4.trans s5)))))))))).free n5 hp5, ⟨_, by rw [del0_ne n5]; exact upd_same, paired_app (paired_app (paired_take pr' _) (.cons new .nil)) (paired_drop pr' _)⟩, ?_, fun p hp => ?_⟩, hsf, x5.trans xf⟩
        · rw [List.length_append, List.length_append, List.length_take, List.length_drop]
          show min _ _ + 1 + _ ≤ _
          omega
        · rcases List.mem_append.mp hp with h | h
          · rcases List.mem_append.mp h with h | h
            · exact hln p (List.mem_of_mem_take h)
            · rw [List.mem_singleton.mp h]
              exact hnm
          · exact hln p (List.mem_of_mem_drop h)
      · obtain ⟨⟨R, c6, c7, c8, c9, c10, ln, rfl, hR0, hl, hll, hln⟩, hs5, x5⟩ := z
        exact ⟨⟨R, _, _, _, _, _, _, ln, rfl, hR0, hl, by omega, hln⟩, hs5, x2.trans (x4.trans x5)⟩
    · obtain ⟨⟨R, c5, c6, c7, c8, c9, c10, ln, rfl, hR0, hl, hll, hln⟩, hs2, x2⟩ := z
      rw [List.length_map] at hll
      exact ⟨_, rfl, hQ H2 R ln hs2 x2 hR0 hl (by omega) hln⟩
end
end TX
end
section
set_option autoImplicit false
set_option maxHeartbeats 4000000
/-! The law's sorted lines, its runs. -/
namespace TX
open PySem PySem.Spec PyProof.Rows L2 He TE
theorem takesN {X : Cx} : Takes X (fun _ _ _ _ => False) := fun _ _ x => by
  obtain ⟨_, _, _, _, _, _, _, _, _, _, _, _, _, _, _, _, z⟩ := x
  exact z.elim
theorem own_filter (m n : PStr) (ln : List (PStr × Step)) : own n (ln.filter fun p => decide (V.str p.1 = V.str m)) = if n = m then own n ln else [] := by
  induction ln with
  | nil =>
    rw [List.filter_nil, own_nil]
    split <;> rfl
  | cons p r ih =>
    rw [List.filter_cons]
    by_cases e : V.str p.1 = V.str m
    · rw [if_pos (decide_eq_true e)]
      have e' := V.str.inj e
      show own n ([p] ++ _) = if n = m then own n ([p] ++ r) else []
      rw [own_append, own_append, own_one, ih]
      by_cases q : n = m
      · rw [if_pos q, if_pos q]
      · rw [if_neg q, if_neg q, if_neg (fun z => q (z.symm.trans e'))]
        rfl
    · rw [if_neg (by rw [decide_eq_false e]; decide), ih]
      show _ = if n = m then own n ([p] ++ r) else []
      rw [own_append, own_one]
      by_cases q : n = m
      · rw [if_pos q, if_pos q, if_neg (fun z => e (by rw [z, q]))]
        rfl
      · rw [if_neg q, if_neg q]
section
variable {P : Program} {w : World} {K : PySem.W.Frag} {mg : PStr → Option Value} {base : Heap}
theorem sc55 : FnScope ["_law_line", "_law_names_here", "_law_result", "_law_name", "_law_one"] ["_law_line", "_law_names_here"] (defScope s55) := ⟨rfl, rfl, rfl, by decide +kernel, rfl, by decide +kernel, by decide +kernel⟩
def spSorted (K : PySem.W.Frag) : Sp := fun vs H Q _ => ∃ (a nm : Addr) (ln : List (PStr × Step)) (ns : List PStr), vs = [.ref a, .ref nm] ∧ LineAt K H a ln ∧ NamesAt H nm ns ∧ (∀ p ∈ ln, p.1 ∈ ns) ∧ ln.length ≤ 15 ∧ ∀ H' R ln', Same H H' → LineAt K H' R ln' → (∀ n, own n ln' = own n ln) → ln'.length ≤ 45 → Q (.ref R) H'

theorem ok_sorted (T : Txt P K mg) : Dfn P w K mg base 1 "_law_sorted" (spSorted K) := by
  refine dfnN T 29 (d := d55) rfl "_law_sorted" (by decide +kernel) rfl rfl sc55 (fun _ _ _ _ _ _ us hl => match us, hl with | [_, _], _ => rfl) (fun vs H Q E h => ?_) (fun f cdv A outer s H vs Q E hr h => ?_)
  · obtain ⟨a, nm, ln, ns, rfl, _⟩ := h
    rfl
  · refine ⟨_, (pss_cons (ps_set (i := 2) sc55.nd rfl (.inl rfl) (pe_lst pa_nil)) (pss_cons (ps_for (passes_of rfl) rfl (pi_list (pv 1)) (pg_name (i := 3) sc55.nd rfl (.inr rfl)) (pss_one (ps_set (i := 2) sc55.nd rfl (.inl rfl) (pe_op op_cat (pv 2) (pe_lc (own := [("_law_one", 4)]) (g := (gName 4)) (tt := (tTest (tOp rEq (tOp (rIxT K) (tVar 4) (tC (.int 0))) (tVar 3)))) rfl sc55.nd (pi_list (pv 0)) (blkOk_by (own := [("_law_one", 4)]) (N := ["_law_line", "_law_names_here", "_law_result", "_law_name", "_law_one"]) (sc := defScope s55) (by decide +kernel)) (fun _ _ _ _ _ => (pg_name (i := 4) sc55.nd rfl (.inl rfl))) (fun _ _ _ _ _ => (pts_one (pt_cmpR op_eq (pe_ix ix_tup (pv 4) pe_int (fun _ _ => rfl)) (pv 3) (nomark _)))) (fun _ _ _ _ _ => (pv 4))))))) (pss_one (ps_ret (pv 2))))), ?_⟩
    obtain ⟨a, nm, ln, ns, rfl, hl, hn, hin, hln, hQ⟩ := h
    obtain ⟨n1, n2, n3, n4⟩ := hn.2
    refine ⟨by rw [sizeLine_eq]; exact (by decide : 0 ≤ 16777216), fun R hR => ?_⟩
    have e1 : Same H (upd H R (.lst [])) := Ext.upd hR
    refine ⟨_, rfl, nm, rfl, ⟨_, SqL.of (e1 _ _ hn.1)⟩, for_it walk_list (fun i σ H' => Same H H' ∧ ∃ R c3 c4 ln', σ = [some (.ref a), some (.ref nm), some (.ref R), c3, c4] ∧ LineAt K H' R ln' ∧ ln'.length ≤ 15 * i ∧ ∀ n, own n ln' = if n ∈ ns.take i then own n ln else [])
      ⟨e1, R, _, _, [], rfl, ⟨[], upd_same, .nil⟩, Nat.zero_le _, fun n => by rw [List.take_zero, if_neg List.not_mem_nil]; rfl⟩ (fun i σ H' _ z => SqL.of (z.1 _ _ hn.1)) (fun i x σ H2 H3 hi z y => ?_) (fun σ H2 z => ?_)⟩
    · obtain ⟨e2, R, c3, c4, ln', rfl, hl', hll, hown⟩ := z
      obtain ⟨rfl, hy⟩ := y
      rw [List.getElem?_map] at hy
      obtain ⟨n, hn', e⟩ := Option.map_eq_some_iff.mp hy
      subst e
      have hi3 : i < 3 := by
        have : i < (ns.map V.str).length := hi
        rw [List.length_map] at this
        omega
      obtain ⟨vs, hv, pr⟩ := hl.same e2
      have hvl := pr.length
      refine ⟨_, rfl, _, rfl, a, rfl, ⟨vs, SqL.of hv⟩, fun D hD => ?_⟩
      refine lc_it walk_list (fun i' H' => Same H3 H' ∧ ∃ acc, H' D = some (.lst acc) ∧ Paired (NmAt K H3) acc ((ln.take i').filter fun p => decide (V.str p.1 = V.str n)) ∧ acc.length ≤ i') ⟨Ext.upd hD, [], upd_same, .nil, Nat.le_refl _⟩ (fun i' H' _ z => SqL.of (z.1 _ _ hv)) (fun i' x2 H8 H9 hi' z y => ?_) (fun H8 z => ?_)
      · obtain ⟨zs8, acc, hD8, pa, hla⟩ := z
        obtain ⟨rfl, hx⟩ := y
        obtain ⟨p, hp, hnm⟩ := paired_at1 pr hx
        have hnm' := hnm
        obtain ⟨t2, v', rfl, ht2, _⟩ := hnm
        have hi'' : i' < vs.length := hi'
        have tk : ln.take (i' + 1) = ln.take i' ++ [p] := take_snoc hp
        refine ⟨rfl, _, rfl, t2, _, _, _, rfl, rfl, SqT.of (zs8 _ _ ht2), rfl, _, rfl, rfl, _, rfl, ?_⟩
        by_cases c : (V.str p.1 = V.str n)
        · refine iteT' (decide_eq_true c) ?_
          refine ⟨_, rfl, acc, hD8, by rw [sizeLine_eq]; omega, Same.put zs8 hD, _, upd_same, ?_, by rw [List.length_append]; exact Nat.succ_le_succ hla⟩
          rw [tk, List.filter_append, List.filter_cons, if_pos (decide_eq_true c)]
          exact paired_app pa (.cons hnm' .nil)
        · refine iteF' (decide_eq_false c) ?_
          refine ⟨zs8, acc, hD8, ?_, Nat.le_succ_of_le hla⟩
          rw [tk, List.filter_append, List.filter_cons, if_neg (by rw [decide_eq_false c]; decide), List.filter_nil, List.append_nil]
          exact pa
      · obtain ⟨zs8, acc, hD8, pa, hla⟩ := z
        rw [hvl, List.take_length] at pa
        obtain ⟨vs', hv', pr'⟩ := hl'
        have l1 := pr'.length
        have l2 := pa.length
        have l3 : (ln.filter fun p => decide (V.str p.1 = V.str n)).length ≤ ln.length := List.length_filter_le ..
        refine ⟨R, D, _, _, rfl, rfl, zs8 _ _ hv', hD8, by rw [sizeLine_eq]; omega, fun p hp => ?_⟩
        have e9 := zs8.trans (Ext.upd (o := .lst (vs' ++ acc)) hp)
        refine ⟨e2.trans e9, p, _, _, ln' ++ ln.filter fun p => decide (V.str p.1 = V.str n), rfl, ⟨_, upd_same, paired_app (paired_imp pr' fun _ _ q => q.same e9) (paired_imp pa fun _ _ q => q.same e9)⟩, by rw [List.length_append]; omega, fun m => ?_⟩
        rw [own_append, hown m, own_filter, take_snoc hn']
        by_cases q : m = n
        · subst q
          rw [if_neg (not_take n3 hn'), if_pos rfl, if_pos (List.mem_append_right _ (List.mem_singleton.mpr rfl)), List.nil_append]
        · rw [if_neg q, List.append_nil]
          by_cases q2 : m ∈ ns.take i
          · rw [if_pos q2, if_pos (List.mem_append_left _ q2)]
          · rw [if_neg q2, if_neg]
            intro h
            rcases List.mem_append.mp h with h | h
            · exact q2 h
            · exact q (List.mem_singleton.mp h)
    · obtain ⟨e2, R, c3, c4, ln', rfl, hl', hll, hown⟩ := z
      rw [List.length_map] at hll hown
      refine ⟨_, rfl, hQ H2 R ln' e2 hl' (fun n => ?_) (by omega)⟩
      rw [hown n, List.take_length]
      by_cases q : n ∈ ns
      · rw [if_pos q]
      · rw [if_neg q]
        refine (List.filterMap_eq_nil_iff.mpr fun p hp => ?_).symm
        rw [if_neg]
        intro e
        exact q (e ▸ hin p hp)
/-! ### _law_ran -/
theorem sc56 : FnScope ["_law_line", "_law_places"] ["_law_line", "_law_places"] (defScope s56) := ⟨rfl, rfl, rfl, by decide +kernel, rfl, by decide +kernel, by decide +kernel⟩
def spRan (K : PySem.W.Frag) : Sp := fun vs H Q _ => ∃ a d ln b F m c, vs = [.ref a, .ref d] ∧ LineAt K H a ln ∧ PlsAt K H d b F m c ∧ (∀ p ∈ ln, (F p.1).isSome = true) ∧ m + ln.length < 64 ∧ c < 64 ∧
  ((∀ n p, F n = some p → (runT p (own n ln)).isSome = true) → ∀ H' r, Same H H' → PlsAt K H' r b (fun n => (F n).bind fun p => runT p (own n ln)) (m + ln.length) c → Q (.ref r) H') ∧
  ((∃ n p, F n = some p ∧ runT p (own n ln) = none) → ∀ H', Same H H' → Q .non H')

theorem ok_ran (T : Txt P K mg) : Dfn P w K mg base 8 "_law_ran" (spRan K) := by
  refine dfnN T 30 (d := d56) rfl "_law_ran" (by decide +kernel) rfl rfl sc56 (fun _ _ _ _ _ _ us hl => match us, hl with | [_, _], _ => rfl) (fun vs H Q E h => ?_) (fun f cdv A outer s H vs Q E hr h => ?_)
  · obtain ⟨a, d, ln, b, F, m, c, rfl, _⟩ := h
    rfl
  · refine ⟨_, pss_one (ps_try_only (tb := fun W => tRet (tDS (spRJ K) (WE W) (tCons (tVar 0) (tCons (tVar 1) tNil)))) (ts := fun _ _ _ => tRet (tC .non)) (Wout := fun _ _ _ _ => False) rfl rfl ⟨rfl, by decide, .inl (T.glo "StepFailed" (by decide +kernel))⟩ takesN
      (fun W pn xe tk _ => pss_one (ps_ret (pe_dS (ok_run_joint T) hr (by decide) (fun σ => passAt tk σ) (by rfl) (by exact (pa_cons (pv 0) (pa_cons (pv 1) pa_nil))))))
      (fun _ _ _ _ _ _ _ => pss_one (ps_ret pe_non))), ?_⟩
    obtain ⟨a, d, ln, b, F, m, c, rfl, hl, hp, hin, hm, hc, h1, h2⟩ := h
    exact ⟨_, rfl, _, rfl, a, d, ln, b, F, m, c, rfl, hl, hp, hin, hm, hc, h1, fun hx H' d' e => ⟨true, T.exmS, fun _ ao ha => h2 hx H' e, fun q => nomatch q⟩⟩
end
end TX
end
section
set_option autoImplicit false
set_option maxHeartbeats 4000000
/-! The law's runs alone, effects applied. -/
namespace TX
open PySem PySem.Spec PyProof.Rows L2 He TE
theorem PlAt.mono {K : PySem.W.Frag} {H : Hp} {v : V} {b : PStr} {T : Int → PStr} {h : Int} {n m : Nat} (x : PlAt K H v b T h n) (l : n ≤ m) : PlAt K H v b T h m := by
  obtain ⟨p, t, e, h1, a, dx, fs, q, kv, f, e', g1, g2, g3, g4, g5, L, r⟩ := x
  exact ⟨p, t, e, h1, a, dx, fs, q, kv, f, e', g1, g2, g3, g4, g5, L.mono l, r⟩
theorem own_snocV (n : PStr) (l : List (PStr × Step)) (p : PStr × Step) : own n (l ++ [p]) = own n l ++ (if V.str p.1 = V.str n then [p.2] else []) := by
  rw [own_append, own_one]
  by_cases e : p.1 = n
  · rw [if_pos e, if_pos (by rw [e])]
  · rw [if_neg e, if_neg (fun z => e (V.str.inj z))]
section
variable {P : Program} {w : World} {K : PySem.W.Frag} {mg : PStr → Option Value} {base : Heap}
theorem sc57 : FnScope ["_law_line", "_law_name", "_law_place", "_law_own", "_law_step"] ["_law_line", "_law_name", "_law_place"] (defScope s57) := ⟨rfl, rfl, rfl, by decide +kernel, rfl, by decide +kernel, by decide +kernel⟩
def spAlone (K : PySem.W.Frag) : Sp := fun vs H Q _ => ∃ (a : Addr) (n : PStr) (v : V) (ln : List (PStr × Step)) (b : PStr) (Tf : Int → PStr) (h : Int) (m : Nat), vs = [.ref a, .str n, v] ∧ LineAt K H a ln ∧ PlAt K H v b Tf h m ∧ m + ln.length < 64 ∧
  (∀ q, runT (Tf, h) (own n ln) = some q → ∀ H' r, Same H H' → PlAt K H' r b q.1 q.2 (m + ln.length) → Q r H') ∧ (runT (Tf, h) (own n ln) = none → ∀ H', Same H H' → Q .non H')

theorem ok_alone (T : Txt P K mg) : Dfn P w K mg base 8 "_law_alone" (spAlone K) := by
  refine dfnN T 31 (d := d57) rfl "_law_alone" (by decide +kernel) rfl rfl sc57 (fun _ _ _ _ _ _ us hl => match us, hl with | [_, _, _], _ => rfl) (fun vs H Q E h => ?_) (fun f cdv A outer s H vs Q E hr h => ?_)
  · obtain ⟨a, n, v, ln, b, Tf, hh, m, rfl, _⟩ := h
    rfl
  · refine ⟨_, pss_one (ps_try_only (tb := fun W => tRet (tKS 2 1 (spRun K) (WE W) (tCons (tLc (iList K (tVar 0)) (gTup K 2 (gCons (gName 3) (gCons (gName 4) gNil))) (tTest (tOp rEq (tVar 3) (tVar 1))) (tVar 4) [3, 4]) (tCons (tOp (rIxT K) (tVar 2) (tC (.int 0))) tNil)) (tCons (tOp (rIxT K) (tVar 2) (tC (.int 1))) tNil))) (ts := fun _ _ _ => tRet (tC .non)) (Wout := fun _ _ _ _ => False) rfl rfl ⟨rfl, by decide, .inl (T.glo "StepFailed" (by decide +kernel))⟩ takesN
      (fun W pn xe tk _ => pss_one (ps_ret (pe_kS (ok_run T) hr (by decide) (fun σ => passAt tk σ) (T.glo "run" (by decide +kernel)) (T.kpg "run" (by decide +kernel)) (by rfl)
         (by exact (pa_cons (pe_lc (own := [("_law_own", 3), ("_law_step", 4)]) (g := (gTup K 2 (gCons (gName 3) (gCons (gName 4) gNil)))) rfl sc57.nd (pi_list (pv 0)) (blkOk_by (own := [("_law_own", 3), ("_law_step", 4)]) (N := ["_law_line", "_law_name", "_law_place", "_law_own", "_law_step"]) (sc := defScope s57) (by decide +kernel)) (fun _ _ _ _ _ => (pg_tup (by rfl) (pgs_cons (pg_name (i := 3) sc57.nd rfl (.inl rfl)) (pgs_cons (pg_name (i := 4) sc57.nd rfl (.inl rfl)) pgs_nil)))) (fun _ _ _ _ _ => (pts_one (pt_cmpR op_eq (pv 3) (pv 1) (nomark _)))) (fun _ _ _ _ _ => (pv 4))) (pa_cons (pe_ix ix_tup (pv 2) pe_int (fun _ _ => rfl)) pa_nil))) (by exact (pk_cons (pe_ix ix_tup (pv 2) pe_int (fun _ _ => rfl)) pk_nil)))))
      (fun _ _ _ _ _ _ _ => pss_one (ps_ret pe_non))), ?_⟩
    obtain ⟨a, n, v, ln, b, Tf, hh, m, rfl, hl, hp, hm, h1, h2⟩ := h
    obtain ⟨vs, hv, pr⟩ := hl
    have hvl := pr.length
    obtain ⟨p, t, rfl, hpp, ht⟩ := hp
    have hol := own_len n ln
    refine ⟨_, rfl, a, rfl, ⟨vs, SqL.of hv⟩, fun D hD => ?_⟩
    refine lc_it walk_list (fun i' H' => Same H H' ∧ ∃ acc, H' D = some (.lst acc) ∧ Paired (StpAt K H) acc (own n (ln.take i')) ∧ acc.length ≤ i') ⟨Ext.upd hD, [], upd_same, .nil, Nat.le_refl _⟩ (fun i' H' _ z => SqL.of (z.1 _ _ hv)) (fun i' x2 H8 H9 hi' z y => ?_) (fun H8 z => ?_)
    · obtain ⟨zs8, acc, hD8, pa, hla⟩ := z
      obtain ⟨rfl, hx⟩ := y
      obtain ⟨q, hq, t2, v', rfl, ht2, hst, hw⟩ := paired_at1 pr hx
      have hi'' : i' < vs.length := hi'
      refine ⟨t2, _, rfl, SqT.of (zs8 _ _ ht2), rfl, _, _, rfl, _, _, rfl, rfl, rfl, _, rfl, _, rfl, rfl, _, rfl, ?_⟩
      by_cases c : (V.str q.1 = V.str n)
      · refine iteT' (decide_eq_true c) ?_
        refine ⟨_, rfl, acc, hD8, by rw [sizeLine_eq]; omega, Same.put zs8 hD, _, upd_same, ?_, by rw [List.length_append]; exact Nat.succ_le_succ hla⟩
        rw [take_snoc hq, own_snocV, if_pos c]
        exact paired_app pa (.cons hst .nil)
      · refine iteF' (decide_eq_false c) ?_
        refine ⟨zs8, acc, hD8, ?_, Nat.le_succ_of_le hla⟩
        rw [take_snoc hq, own_snocV, if_neg c, List.append_nil]
        exact pa
    · obtain ⟨zs8, acc, hD8, pa, hla⟩ := z
      rw [hvl, List.take_length] at pa
      refine ⟨_, rfl, p, _, _, _, rfl, rfl, SqT.of (zs8 _ _ hpp), rfl, _, rfl, p, _, _, _, rfl, rfl, SqT.of (zs8 _ _ hpp), rfl, rfl, rfl, ?_⟩
      refine ⟨D, own n ln, t, b, Tf, m, hh, rfl, ⟨acc, hD8, paired_imp pa fun _ _ q => q.same zs8⟩, ht.same zs8, by omega, fun q hq H9 r e9 pl => h1 q hq H9 r (zs8.trans e9) (pl.mono (by omega)), fun hn H9 d' e9 => ⟨true, T.exmS, fun _ ao ha => h2 hn H9 (zs8.trans e9), fun q => nomatch q⟩⟩
/-! ### _law_applied -/
theorem sc58 : FnScope ["_law_found", "_law_name", "_law_place"] ["_law_found", "_law_name", "_law_place"] (defScope s58) := ⟨rfl, rfl, rfl, by decide +kernel, rfl, by decide +kernel, by decide +kernel⟩
def spApplied (K : PySem.W.Frag) : Sp := fun vs H Q _ => ∃ (v : V) (n : PStr) (pv : V) (j : Jt PStr PStr) (k c : Nat) (b : PStr) (Tf : Int → PStr) (h : Int) (m : Nat), vs = [v, .str n, pv] ∧ JAt K H v j k c ∧ PlAt K H pv b Tf h m ∧ m + k < 64 ∧
  (j = none → Q .non H) ∧ ∀ g, j = some g → (∀ q, applyE (g n) (Tf, h) = some q → ∀ H' r, Same H H' → PlAt K H' r b q.1 q.2 (m + k) → Q r H') ∧ (applyE (g n) (Tf, h) = none → ∀ H', Same H H' → Q .non H')

theorem ok_applied (T : Txt P K mg) : Dfn P w K mg base 7 "_law_applied" (spApplied K) := by
  refine dfnN T 32 (d := d58) rfl "_law_applied" (by decide +kernel) rfl rfl sc58 (fun _ _ _ _ _ _ us hl => match us, hl with | [_, _, _], _ => rfl) (fun vs H Q E h => ?_) (fun f cdv A outer s H vs Q E hr h => ?_)
  · obtain ⟨v, n, pv, j, k, c, b, Tf, hh, m, rfl, _⟩ := h
    rfl
  · refine ⟨_, pss_cons (ps_if (pt_cmpR op_isN (pv 0) pe_non (nomark _)) (pss_one (ps_ret pe_non)) pss_nil) (pss_one (ps_try_only (tb := fun W => tRet (tKM (ga K "Effect") "apply" 1 1 (spApply K) (WE W) (tDGet2 (tVar 0) (tVar 1) (tCM0 (ga K "Effect") (spIdent K) (tC (.ref (ga K "Effect"))))) (tCons (tOp (rIxT K) (tVar 2) (tC (.int 0))) tNil) (tCons (tOp (rIxT K) (tVar 2) (tC (.int 1))) tNil))) (ts := fun _ _ _ => tRet (tC .non)) (Wout := fun _ _ _ _ => False) rfl rfl ⟨rfl, by decide, .inl (T.glo "NotApplicable" (by decide +kernel))⟩ takesN
      (fun W pn xe tk _ => pss_one (ps_ret (pe_kM (T.cls "Effect" (by decide +kernel)) (T.met ("Effect", "apply") (by decide +kernel)) (ok_apply T) hr (by decide) (fun σ => passAt tk σ)
         (pe_dget2 (hu_of hr) (pv 0) (pv 1) (pe_cm0 (pe_glob (v := .ref (ga K "Effect")) (by rfl) (T.glo "Effect" (by decide +kernel)) rfl) T.cread T.cmet (ok_identity T) hr (by decide)) ⟨by rfl, by rfl, by rfl, by rfl⟩)
         (by exact (pa_cons (pe_ix ix_tup (pv 2) pe_int (fun _ _ => rfl)) pa_nil)) (by exact (pk_cons (pe_ix ix_tup (pv 2) pe_int (fun _ _ => rfl)) pk_nil)))))
      (fun _ _ _ _ _ _ _ => pss_one (ps_ret pe_non)))), ?_⟩
    obtain ⟨v, n, pv, j, k, c, b, Tf, hh, m, rfl, hj, hp, hm, h1, h2⟩ := h
    cases j with
    | none =>
      obtain rfl : v = .non := hj
      exact ⟨_, rfl, rfl, true, rfl, iteT (h1 rfl)⟩
    | some g =>
      obtain ⟨g1, g2⟩ := h2 g rfl
      obtain ⟨d, kvs, rfl, hd, nd, len, sh, al⟩ := hj
      refine ⟨_, rfl, rfl, false, rfl, iteF ?_⟩
      obtain ⟨p, t, rfl, hpp, ht⟩ := hp
      refine ⟨_, rfl, d, rfl, .inl ⟨kvs, .inl hd⟩, _, rfl, rfl, rfl, fun H1 ev e1 he => ⟨_, DGet.k (k := Sum.inr n) (e1 _ _ hd), ?_⟩⟩
      have hE : EffAt K H1 ((valV kvs (Sum.inr n)).getD ev) (g n) k := by
        cases q : valV kvs (Sum.inr n) with
        | some u =>
          obtain ⟨n', u', e, hu, _⟩ := sh _ (valV_mem q)
          cases e
          exact hu.same e1
        | none =>
          have : g n = SE.one := Classical.byContradiction fun z => by
            obtain ⟨u, hu⟩ := al n z
            rw [valV_of_mem nd hu] at q
            cases q
          rw [this]
          exact (he.same dif_same).mono (Nat.zero_le _)
      obtain ⟨a, dx, fs, p1, q1, kn, kc, ee, ha, _, _, _, hk, _⟩ := id hE
      refine ⟨a, dx, fs, ee, ha, lk_none hk (by decide), _, rfl, p, _, _, _, rfl, rfl, SqT.of (e1 _ _ hpp), rfl, _, rfl, p, _, _, _, rfl, rfl, SqT.of (e1 _ _ hpp), rfl, rfl, rfl, ?_⟩
      refine ⟨_, g n, k, t, b, Tf, m, hh, rfl, by rw [← ee]; exact hE, ht.same e1, by omega, fun hA H' r v' e' hr0 hr1 tp => ?_, fun hA H' d' e' => ⟨true, T.exmN, fun _ ao ha => ?_, fun q => nomatch q⟩⟩
      · exact g1 _ (if_pos hA) H' _ (e1.trans e') ⟨r, v', rfl, hr1, tp⟩
      · exact g2 (if_neg hA) H' (e1.trans e')
end
end TX
end
section
set_option autoImplicit false
set_option maxHeartbeats 4000000
/-! Helpers for the law's comparing. -/
namespace TX
open PySem PySem.Spec PyProof.Rows L2 He TE
/-- a place, or None -/
def AltAt (K : PySem.W.Frag) (H : Hp) (v : V) (b : PStr) (o : Option PlS) (m : Nat) : Prop := match o with
  | none => v = .non
  | some q => PlAt K H v b q.1 q.2 m
/-- all that is no list stands -/
def NoL (H H' : Hp) : Prop := ∀ a o, (∀ xs, o ≠ .lst xs) → H a = some o → H' a = some o
theorem NoL.of {H H' : Hp} (h : Same H H') : NoL H H' := fun a o _ e => h _ _ e
theorem NoL.trans {A B C : Hp} (h : NoL A B) (k : NoL B C) : NoL A C := fun a o n e => k a o n (h a o n e)
theorem NoL.put {H : Hp} {p : Addr} {xs : List V} {u : HO} (h : H p = some (.lst xs)) : NoL H (upd H p u) := fun a o n e => by
  have : a ≠ p := fun z => by rw [z, h] at e; exact n xs (Option.some.inj e).symm
  rw [upd_ne this]
  exact e
theorem Sx.nol {s : Addr} {H H' : Hp} (h : Sx s H H') (hs : StrAt H s) : NoL H H' := fun a o n e => by
  obtain ⟨ys, hy⟩ := hs.kind
  have : a ≠ s := fun z => by rw [z, hy] at e; exact n ys (Option.some.inj e).symm
  exact h.at this e
theorem StrAt.nol {H : Hp} {s : Addr} (hs : StrAt H s) : NoL H (del0 H s) := fun a o n e => by
  obtain ⟨ys, hy⟩ := hs.kind
  have : a ≠ s := fun z => by rw [z, hy] at e; exact n ys (Option.some.inj e).symm
  rw [del0_ne this]
  exact e
section
variable {K : PySem.W.Frag}
theorem TapeAt.nol {H H' : Hp} {v : V} {b : PStr} {T : Int → PStr} {n : Nat} (h : TapeAt K H v b T n) (s : NoL H H') : TapeAt K H' v b T n := by
  obtain ⟨a, dx, fs, q, kv, f, e, h1, h2, h3, h4, h5, r⟩ := h
  exact ⟨a, dx, fs, q, kv, f, e, s _ _ (by intro xs z; cases z) h1, h2, h3, h4, s _ _ (by intro xs z; cases z) h5, r⟩
theorem PlAt.nol {H H' : Hp} {v : V} {b : PStr} {T : Int → PStr} {h : Int} {n : Nat} (x : PlAt K H v b T h n) (s : NoL H H') : PlAt K H' v b T h n := by
  obtain ⟨p, t, e, h1, ht⟩ := x
  exact ⟨p, t, e, s _ _ (by intro xs z; cases z) h1, ht.nol s⟩
theorem EffAt.nol {H H' : Hp} {v : V} {e : SE PStr} {n : Nat} (h : EffAt K H v e n) (s : NoL H H') : EffAt K H' v e n := by
  obtain ⟨a, dx, fs, p, q, kn, kc, rfl, h1, h2, h3, h4, h5, h6, h7, r⟩ := h
  exact ⟨a, dx, fs, p, q, kn, kc, rfl, s _ _ (by intro xs z; cases z) h1, h2, h3, h4, h5, s _ _ (by intro xs z; cases z) h6, s _ _ (by intro xs z; cases z) h7, r⟩
theorem AltAt.nol {H H' : Hp} {v : V} {b : PStr} {o : Option PlS} {m : Nat} (x : AltAt K H v b o m) (s : NoL H H') : AltAt K H' v b o m := by
  cases o with
  | none => exact x
  | some q => exact PlAt.nol x s
theorem JAt.nol {H H' : Hp} {v : V} {j : Jt PStr PStr} {k c : Nat} (h : JAt K H v j k c) (s : NoL H H') : JAt K H' v j k c := by
  cases j with
  | none => exact h
  | some g =>
    obtain ⟨d, kvs, e, h1, h2, h3, h4, h5⟩ := h
    exact ⟨d, kvs, e, s _ _ (by intro xs z; cases z) h1, h2, h3, fun p hp => let ⟨n, u, e, q, r⟩ := h4 p hp; ⟨n, u, e, q.nol s, r⟩, h5⟩
theorem PlsAt.nol {H H' : Hp} {d : Addr} {b : PStr} {F : PStr → Option PlS} {m c : Nat} (h : PlsAt K H d b F m c) (s : NoL H H') : PlsAt K H' d b F m c := by
  obtain ⟨kvs, g1, g2, g3, g4, g5⟩ := h
  exact ⟨kvs, s _ _ (by intro xs z; cases z) g1, g2, g3, fun p hp => let ⟨n, v, q, e, hF, r, hw⟩ := g4 p hp; ⟨n, v, q, e, hF, r.nol s, hw⟩, g5⟩
/-- two places alike -/
def DPl (K : PySem.W.Frag) : Eqv := DTup K (fun x y H => DIns (ga K "Tape") (TpEq K) x y H ∨ DFlat x y H)
def DAlt (K : PySem.W.Frag) : Eqv := fun x y H => DNon x y H ∨ DPl K x y H
theorem pl_eq {H : Hp} {u v : V} {b : PStr} {T : Int → PStr} {h : Int} {n m : Nat} (x : PlAt K H u b T h n) (y : PlAt K H v b T h m) : DPl K u v H := by
  obtain ⟨p, t, rfl, h1, ht⟩ := x
  obtain ⟨p', t', rfl, h1', ht'⟩ := y
  refine ⟨p, p', _, _, rfl, rfl, SqT.of h1, SqT.of h1', .cons (.inl ?_) (.cons (.inr ⟨rfl, rfl, ?_⟩) .nil)⟩
  · obtain ⟨a, dx, fs, q, kv, f, e, g1, r⟩ := id ht
    obtain ⟨a', dx', fs', q', kv', f', e', g1', r'⟩ := id ht'
    subst e
    subst e'
    exact ⟨a, a', dx, dx', fs, fs', rfl, rfl, g1, g1', b, T, n, m, ht, ht'⟩
  · show decide _ = true
    simp
theorem alt_eq {H : Hp} {u v : V} {b : PStr} {o : Option PlS} {n m : Nat} (x : AltAt K H u b o n) (y : AltAt K H v b o m) : DAlt K u v H := by
  cases o with
  | none => exact .inl ⟨x, y⟩
  | some q => exact .inr (pl_eq x y)
/-- a list of small texts as data -/
theorem strs_data {H : Hp} {a : Addr} {zs : List PStr} (h : H a = some (.lst (zs.map V.str))) (hw : ∀ z ∈ zs, Wrd z) : ∃ d, Dp K H (.ref a) d ∧ SeqAt.shaped d = true ∧ PyData.eqv d (.list []) = zs.isEmpty := by
  refine ⟨.list (zs.map PyData.str), .lst (SqL.of h) ?_, ?_, ?_⟩
  · clear h
    induction zs with
    | nil => exact .nil
    | cons z r ih => exact .cons (.str z) (ih fun y hy => hw y (List.mem_cons_of_mem _ hy))
  · have h1 : ∀ zs : List PStr, (∀ z ∈ zs, Wrd z) → PyData.canLayAll0 (zs.map PyData.str) = true ∧ PyData.depthAll (zs.map PyData.str) = 0 := by
      intro zs
      induction zs with
      | nil => intro _; exact ⟨rfl, rfl⟩
      | cons z r ih =>
        intro hw
        obtain ⟨i1, i2⟩ := ih fun y hy => hw y (List.mem_cons_of_mem _ hy)
        refine ⟨?_, ?_⟩
        · show (PyData.canLay0 (.str z) && PyData.canLayAll0 (r.map PyData.str)) = true
          rw [i1, Bool.and_true]
          have hz := (hw z (List.mem_cons_self ..)).2.2
          show z.cps.all (fun x => decide (x < 0x110000)) = true
          rw [← Array.all_toList, List.all_eq_true]
          have big : ∀ c ∈ abc.cps.toList, c < 0x110000 := by decide +kernel
          exact fun c hc => decide_eq_true (big c (hz c hc))
        · show max (PyData.depth (.str z)) (PyData.depthAll (r.map PyData.str)) = 0
          rw [i2]
          rfl
    obtain ⟨i1, i2⟩ := h1 zs hw
    unfold SeqAt.shaped
    show (PyData.canLayAll0 (zs.map PyData.str) && decide (PyData.depthAll (zs.map PyData.str) + 1 ≤ 64)) = true
    rw [i1, i2]
    rfl
  · cases zs <;> rfl
end
section
variable {P : Program} {w : World} {K : PySem.W.Frag} {mg : PStr → Option Value} {base : Heap}
theorem eqG_plE {X : Cx} (T : Txt X.prog X.K X.mg) : EqG X 1 (fun x y H => DIns (ga X.K "Tape") (TpEq X.K) x y H ∨ DFlat x y H) := by
  obtain ⟨q1, q2, q3, q4⟩ := T.eqf "Tape" (by decide +kernel)
  exact (eqG_insR (ok_tape_eq T) q1 q2 passL).or (eqG_flat.mono (Nat.zero_le _))
theorem mon_plE {K : PySem.W.Frag} : Mon (fun x y H => DIns (ga K "Tape") (TpEq K) x y H ∨ DFlat x y H) := fun x y H H' e d => by
  rcases d with d | d
  · exact .inl (mon_ins mon_tpEq x y H H' e d)
  · exact .inr d
theorem neAlt {X : Cx} (T : Txt X.prog X.K X.mg) {j : Nat} (hr : Room j X.A) (hj : 2 ≤ j) : OpR X (compareOp .NotEq) (rNeG (DAlt X.K)) :=
  op_neG ((rcN_non.mono (Nat.zero_le _)).or (rcN_tup mon_plE (eqG_plE T))) (hr.mono hj)
theorem neDic {X : Cx} (T : Txt X.prog X.K X.mg) {j : Nat} (hr : Room j X.A) (hj : 3 ≤ j) : OpR X (compareOp .NotEq) (rNeG (DDict (DPl X.K))) :=
  op_neG (rcN_dict (mon_tup mon_plE) (eqG_tup mon_plE (eqG_plE T))) (hr.mono hj)
end
end TX
end
section
set_option autoImplicit false
set_option maxHeartbeats 4000000
/-! _law_runs_right. -/
namespace TX
open PySem PySem.Spec PyProof.Rows L2 He TE
theorem merge_app : ∀ {more kvs : List (Key × V)}, ((kvs ++ more).map (·.1)).Nodup → mergeK kvs more = kvs ++ more
  | [], kvs, _ => (List.append_nil _).symm
  | (k, v) :: r, kvs, nd => by
    have hn : valV kvs k = none := by
      cases q : valV kvs k with
      | none => rfl
      | some u =>
        rw [List.map_append] at nd
        exact absurd rfl ((List.nodup_append.mp nd).2.2 k (List.mem_map.mpr ⟨_, valV_mem q, rfl⟩) k (List.mem_cons_self ..))
    show mergeK (putK kvs k v) r = kvs ++ (k, v) :: r
    rw [putK_new _ hn, merge_app (by rw [List.append_assoc]; exact nd), List.append_assoc]
    rfl
theorem nd_le : ∀ {l l' : List Key}, l.Nodup → (∀ x ∈ l, x ∈ l') → l.length ≤ l'.length
  | [], _, _, _ => Nat.zero_le _
  | x :: r, l', nd, h => by
    have hx := h x (List.mem_cons_self ..)
    have nd' := List.nodup_cons.mp nd
    have h1 := nd_le (l := r) (l' := l'.filter fun y => decide (y ≠ x)) nd'.2 (fun y hy => List.mem_filter.mpr ⟨h y (List.mem_cons_of_mem _ hy), decide_eq_true fun e => nd'.1 (by rw [← e]; exact hy)⟩)
    have h2 : (l'.filter fun y => decide (y ≠ x)).length < l'.length := List.length_filter_lt_length_iff_exists.mpr ⟨x, hx, by simp⟩
    show r.length + 1 ≤ _
    omega
theorem effOf_nil_of {ln : List (PStr × Step)} {n : PStr} (h : effOf (own n ln) = none) : ∃ p ∈ ln, p.1 = n := by
  refine Classical.byContradiction fun q => ?_
  have : own n ln = [] := List.filterMap_eq_nil_iff.mpr fun p hp => if_neg fun e => q ⟨p, hp, e⟩
  rw [this] at h
  cases h
section
variable {P : Program} {w : World} {K : PySem.W.Frag} {mg : PStr → Option Value} {base : Heap}
def spAlone2 (K : PySem.W.Frag) : Sp := fun vs H Q _ => ∃ (a : Addr) (n : PStr) (v : V) (ln : List (PStr × Step)) (b : PStr) (p : PlS) (m : Nat), vs = [.ref a, .str n, v] ∧ LineAt K H a ln ∧ PlAt K H v b p.1 p.2 m ∧ m + ln.length < 64 ∧
  ∀ H' r, Same H H' → AltAt K H' r b (runT p (own n ln)) (m + ln.length) → Q r H'
theorem ok_alone2 (T : Txt P K mg) : Dfn P w K mg base 8 "_law_alone" (spAlone2 K) := (ok_alone T).imp fun vs H Q E h => by
  obtain ⟨a, n, v, ln, b, p, m, rfl, hl, hp, hm, hQ⟩ := h
  exact ⟨a, n, v, ln, b, p.1, p.2, m, rfl, hl, hp, hm, fun q hq H' r e pl => hQ H' r e (by rw [show runT p (own n ln) = some q from hq]; exact pl), fun hn H' e => hQ H' .non e (by rw [show runT p (own n ln) = none from hn]; exact rfl)⟩
def RanAt (K : PySem.W.Frag) (H : Hp) (rv : V) (b : PStr) (F : PStr → Option PlS) (ln : List (PStr × Step)) (m c : Nat) : Prop :=
  ((∀ n p, F n = some p → (runT p (own n ln)).isSome = true) ∧ ∃ r, rv = .ref r ∧ PlsAt K H r b (fun n => (F n).bind fun p => runT p (own n ln)) m c) ∨ ((∃ n p, F n = some p ∧ runT p (own n ln) = none) ∧ rv = .non)
def spRan2 (K : PySem.W.Frag) : Sp := fun vs H Q _ => ∃ a d ln b F m c, vs = [.ref a, .ref d] ∧ LineAt K H a ln ∧ PlsAt K H d b F m c ∧ (∀ p ∈ ln, (F p.1).isSome = true) ∧ m + ln.length < 64 ∧ c < 64 ∧
  ∀ H' r, Same H H' → RanAt K H' r b F ln (m + ln.length) c → Q r H'
theorem ok_ran2 (T : Txt P K mg) : Dfn P w K mg base 8 "_law_ran" (spRan2 K) := (ok_ran T).imp fun vs H Q E h => by
  obtain ⟨a, d, ln, b, F, m, c, rfl, hl, hp, hin, hm, hc, hQ⟩ := h
  exact ⟨a, d, ln, b, F, m, c, rfl, hl, hp, hin, hm, hc, fun h H' r e pl => hQ H' _ e (.inl ⟨h, r, rfl, pl⟩), fun h H' e => hQ H' _ e (.inr ⟨h, rfl⟩)⟩
def spApplied2 (K : PySem.W.Frag) : Sp := fun vs H Q _ => ∃ (v : V) (n : PStr) (pv : V) (j : Jt PStr PStr) (k c : Nat) (b : PStr) (p : PlS) (m : Nat), vs = [v, .str n, pv] ∧ JAt K H v j k c ∧ PlAt K H pv b p.1 p.2 m ∧ m + k < 64 ∧
  ∀ H' r, Same H H' → AltAt K H' r b (j.bind fun g => applyE (g n) p) (m + k) → Q r H'
theorem ok_applied2 (T : Txt P K mg) : Dfn P w K mg base 7 "_law_applied" (spApplied2 K) := (ok_applied T).imp fun vs H Q E h => by
  obtain ⟨v, n, pv, j, k, c, b, p, m, rfl, hj, hp, hm, hQ⟩ := h
  refine ⟨v, n, pv, j, k, c, b, p.1, p.2, m, rfl, hj, hp, hm, fun e => ?_, fun g e => ⟨fun q hq H' r s pl => ?_, fun hn H' s => ?_⟩⟩
  · subst e
    exact hQ H .non (Same.refl _) rfl
  · subst e
    refine hQ H' r s ?_
    show AltAt K H' r b (applyE (g n) p) (m + k)
    rw [show applyE (g n) p = some q from hq]
    exact pl
  · subst e
    refine hQ H' .non s ?_
    show AltAt K H' .non b (applyE (g n) p) (m + k)
    rw [show applyE (g n) p = none from hn]
    exact rfl
theorem sc59 : FnScope ["_law_line", "_law_names_here", "_law_places", "_law_found", "_law_result", "_law_name", "_law_alone_here"] ["_law_line", "_law_names_here", "_law_places", "_law_found"] (defScope s59) := ⟨rfl, rfl, rfl, by decide +kernel, rfl, by decide +kernel, by decide +kernel⟩
def spRR (K : PySem.W.Frag) : Sp := fun vs H Q _ => ∃ (a nm d : Addr) (fv : V) (ln : List (PStr × Step)) (ns : List PStr) (b : PStr) (F : PStr → Option PlS) (m c c' : Nat), vs = [.ref a, .ref nm, .ref d, fv] ∧ LineAt K H a ln ∧ NamesAt H nm ns ∧ PlsAt K H d b F m c ∧ (∀ n, n ∈ ns ↔ (F n).isSome = true) ∧
  (∀ p ∈ ln, p.1 ∈ ns) ∧ ln.length ≤ 15 ∧ m ≤ 15 ∧ c < 64 ∧ JAt K H fv (jointOf ln) 15 c' ∧ ∀ H', Same H H' → Q (.bl true) H'

theorem ok_runs_right (T : Txt P K mg) : Dfn P w K mg base 9 "_law_runs_right" (spRR K) := by
  refine dfnN T 33 (d := d59) rfl "_law_runs_right" (by decide +kernel) rfl rfl sc59 (fun _ _ _ _ _ _ us hl => match us, hl with | [_, _, _, _], _ => rfl) (fun vs H Q E h => ?_) (fun f cdv A outer s H vs Q E hr h => ?_)
  · obtain ⟨a, nm, d, fv, ln, ns, b, F, m, c, c', rfl, _⟩ := h
    rfl
  · refine ⟨_, (pss_cons (ps_set (i := 4) sc59.nd rfl (.inl rfl) (pe_d (ok_ran2 T) hr (by decide) (by rfl) (pa_cons (pv 0) (pa_cons (pv 2) pa_nil)))) (pss_cons (ps_set (i := 6) sc59.nd rfl (.inr rfl) (pe_callTy (call_dictP rfl) (by rfl) (T.fre "dict" (by decide +kernel)) (by decide +kernel) (pa_cons (pe_lc (own := [("_law_name", 5)]) (g := (gName 5)) (tt := tYes) rfl sc59.nd (pi_list (pv 1)) (blkOk_by (own := [("_law_name", 5)]) (N := ["_law_line", "_law_names_here", "_law_places", "_law_found", "_law_result", "_law_name", "_law_alone_here"]) (sc := defScope s59) (by decide +kernel)) (fun _ _ _ _ _ => (pg_name (i := 5) sc59.nd rfl (.inl rfl))) (fun _ _ _ _ _ => pts_nil) (fun _ _ _ _ _ => (pe_tup (pa_cons (pv 5) (pa_cons (pe_d (ok_alone2 T) hr (by decide) (by rfl) (pa_cons (pv 0) (pa_cons (pv 5) (pa_cons (pe_dget (hu_of hr) (pv 2) (pv 5) (fun _ _ => rfl)) pa_nil)))) pa_nil))))) pa_nil))) (pss_cons (ps_if (pt_cmpR op_ne (pe_cmpR op_isN (pv 4) pe_non (nomark _)) (pe_cmpR (op_neD hr.units) (pe_lc (own := [("_law_name", 5)]) (g := (gName 5)) rfl sc59.nd (pi_list (pv 1)) (blkOk_by (own := [("_law_name", 5)]) (N := ["_law_line", "_law_names_here", "_law_places", "_law_found", "_law_result", "_law_name", "_law_alone_here"]) (sc := defScope s59) (by decide +kernel)) (fun _ _ _ _ _ => (pg_name (i := 5) sc59.nd rfl (.inl rfl))) (fun _ _ _ _ _ => (pts_one (pt_cmpR op_isN (pe_dget (hu_of hr) (pv 6) (pv 5) (fun _ _ => rfl)) pe_non (nomark _)))) (fun _ _ _ _ _ => (pv 5))) (pe_lst pa_nil) (nomark _)) (nomark _)) (pss_one (ps_ret pe_bl)) pss_nil) (pss_cons (ps_if (PW.pt (pw_and (pt_cmpR op_notN (pv 4) pe_non (nomark _)) (pw_and1 (pt_cmpR (neDic T hr (by decide)) (pv 4) (pv 6) (nomark _))))) (pss_one (ps_ret pe_bl)) pss_nil) (pss_cons (ps_if (pt_cmpR op_isN (pv 3) pe_non (nomark _)) (pss_one (ps_ret (pe_cmpR op_isN (pv 4) pe_non (nomark _)))) pss_nil) (pss_one (ps_ret (pe_cmpR (op_eqD hr.units) (pe_lc (own := [("_law_name", 5)]) (g := (gName 5)) (tt := (tTest (tOp (rNeG (DAlt K)) (tD (spApplied2 K) E0 (tCons (tVar 3) (tCons (tVar 5) (tCons (tDGet (tVar 2) (tVar 5)) tNil)))) (tDGet (tVar 6) (tVar 5))))) rfl sc59.nd (pi_list (pv 1)) (blkOk_by (own := [("_law_name", 5)]) (N := ["_law_line", "_law_names_here", "_law_places", "_law_found", "_law_result", "_law_name", "_law_alone_here"]) (sc := defScope s59) (by decide +kernel)) (fun _ _ _ _ _ => (pg_name (i := 5) sc59.nd rfl (.inl rfl))) (fun _ _ _ _ _ => (pts_one (pt_cmpR (neAlt T hr (by decide)) (pe_d (ok_applied2 T) hr (by decide) (by rfl) (pa_cons (pv 3) (pa_cons (pv 5) (pa_cons (pe_dget (hu_of hr) (pv 2) (pv 5) (fun _ _ => rfl)) pa_nil)))) (pe_dget (hu_of hr) (pv 6) (pv 5) (fun _ _ => rfl)) (nomark _)))) (fun _ _ _ _ _ => (pv 5))) (pe_lst pa_nil) (nomark _))))))))), ?_⟩
    obtain ⟨a, nm, d, fv, ln, ns, b, F, m, c, c', rfl, hl, hn, hp, hF, hin, hln, hm, hc, hj, hQ⟩ := h
    obtain ⟨n1, n2, n3, n4⟩ := hn.2
    refine ⟨_, rfl, _, rfl, a, d, ln, b, F, m, c, rfl, hl, hp, fun p hq => (hF _).mp (hin p hq), by omega, hc, fun H1 rv e1 hr1 => ?_⟩
    have hn1 := e1 _ _ hn.1
    have hl1 := hl.same e1
    have hp1 : PlsAt K H1 d b F m c := hp.nol (NoL.of e1)
    have hj1 := hj.same e1
    obtain ⟨kvp, pd, pnd, plen, psh, pal⟩ := id hp1
    -- a name's place
    have plc : ∀ n ∈ ns, ∃ p v, F n = some p ∧ valV kvp (Sum.inr n) = some v ∧ PlAt K H1 v b p.1 p.2 m := fun n hnn => by
      obtain ⟨v, hv⟩ := pal n ((hF n).mp hnn)
      obtain ⟨n', v', q, e, hq, pl, _⟩ := psh _ hv
      cases e
      exact ⟨q, v, hq, valV_of_mem pnd hv, pl⟩
    refine ⟨_, rfl, nm, rfl, ⟨_, SqL.of hn1⟩, fun D hD => ?_⟩
    refine lc_it walk_list (fun i H' => Same H1 H' ∧ ∃ (ps : List Addr) (kvs : List (Key × V)), H' D = some (.lst (ps.map V.ref)) ∧ Paired (fun p kv => H' p = some (.tup [kV kv.1, kv.2])) ps kvs ∧ kvs.map (·.1) = (ns.take i).map Sum.inr ∧ ∀ kv ∈ kvs, ∃ n p, kv.1 = Sum.inr n ∧ F n = some p ∧ AltAt K H' kv.2 b (runT p (own n ln)) (m + ln.length))
      ⟨Ext.upd hD, [], [], upd_same, .nil, rfl, fun _ h => by cases h⟩ (fun i H' _ z => SqL.of (z.1 _ _ hn1)) (fun i x H2 H3 hi z y => ?_) (fun H2 z => ?_)
    · obtain ⟨zs, ps, kvs, hD2, pr, hk, hall⟩ := z
      obtain ⟨rfl, hy⟩ := y
      rw [List.getElem?_map] at hy
      obtain ⟨n, hn', e⟩ := Option.map_eq_some_iff.mp hy
      subst e
      obtain ⟨p, v, hFn, hv, pl⟩ := plc n (List.mem_of_getElem? hn')
      have hi3 : i < 3 := by
        have : i < (ns.map V.str).length := hi
        rw [List.length_map] at this
        omega
      have hpl := pr.length
      have hkl := congrArg List.length hk
      rw [List.length_map, List.length_map, List.length_take] at hkl
      refine ⟨rfl, _, rfl, _, rfl, _, rfl, _, rfl, _, rfl, d, v, rfl, .inl ⟨kvp, Sum.inr n, .inl (zs _ _ pd), rfl, hv.symm⟩, a, n, v, ln, b, p, m, rfl, hl1.same zs, pl.same zs, by omega, fun H4 r e4 al => ?_⟩
      refine ⟨by rw [sizeLine_eq]; exact (by decide : 2 ≤ 16777216), fun t ht => ?_⟩
      have e5 := Ext.upd (o := .tup [.str n, r]) ht
      have hD5 := e5 _ _ (e4 _ _ hD2)
      have nt : t ≠ D := fun z => by rw [z, e4 _ _ hD2] at ht; cases ht
      have nl : NoL (upd H4 t (.tup [.str n, r])) (upd (upd H4 t (.tup [.str n, r])) D (.lst (ps.map V.ref ++ [.ref t]))) := NoL.put hD5
      have nl3 := (NoL.of (e4.trans e5)).trans nl
      refine ⟨ps.map V.ref, hD5, by rw [List.length_map, sizeLine_eq]; omega, Same.put (zs.trans (e4.trans e5)) hD, ps ++ [t], kvs ++ [(Sum.inr n, r)], by rw [upd_same, List.map_append]; rfl, paired_app (paired_imp pr fun _ _ q => nl3 _ _ (by intro xs z; cases z) q) (.cons (nl _ _ (by intro xs z; cases z) upd_same) .nil), ?_, fun kv hkv => ?_⟩
      · rw [List.map_append, hk, take_snoc hn', List.map_append]
        rfl
      · rcases List.mem_append.mp hkv with h | h
        · obtain ⟨n', p', e', hF', al'⟩ := hall kv h
          exact ⟨n', p', e', hF', al'.nol nl3⟩
        · rw [List.mem_singleton.mp h]
          exact ⟨n, p, rfl, hFn, al.nol ((NoL.of e5).trans nl)⟩
    obtain ⟨zs, ps, kvs, hD2, pr, hk, hall⟩ := z
    rw [List.length_map, List.take_length] at hk
    have hkl := congrArg List.length hk
    rw [List.length_map, List.length_map] at hkl
    refine ⟨D, ps, kvs, rfl, SqL.of hD2, paired_imp pr fun _ _ q => SqT.of q, fun A hA => ?_⟩
    have ndk : (kvs.map (·.1)).Nodup := by
      rw [hk]
      exact List.Pairwise.map _ (fun _ _ h q => h (Sum.inr.inj q)) n3
    rw [merge_app (kvs := []) ndk, List.nil_append]
    have eA : Same H2 (upd H2 A (.dK kvs)) := Ext.upd hA
    have hA3 : upd H2 A (.dK kvs) A = some (.dK kvs) := upd_same
    have e13 := zs.trans eA
    -- what stands for a name in alone
    have alo : ∀ n ∈ ns, ∃ p v u, F n = some p ∧ valV kvp (Sum.inr n) = some v ∧ PlAt K H1 v b p.1 p.2 m ∧ valV kvs (Sum.inr n) = some u ∧ AltAt K (upd H2 A (.dK kvs)) u b (runT p (own n ln)) (m + ln.length) := fun n hnn => by
      obtain ⟨p, v, h1, h2, h3⟩ := plc n hnn
      have : (Sum.inr n : Key) ∈ kvs.map (·.1) := by rw [hk]; exact List.mem_map.mpr ⟨n, hnn, rfl⟩
      obtain ⟨⟨k', u⟩, hu, ek⟩ := List.mem_map.mp this
      have ek' : k' = Sum.inr n := ek
      subst ek'
      obtain ⟨n', p', e', hF', al'⟩ := hall _ hu
      have e'' : n = n' := Sum.inr.inj e'
      subst e''
      rw [h1] at hF'
      cases hF'
      exact ⟨p, v, u, h1, h2, h3, valV_of_mem ndk hu, al'.nol (NoL.of eA)⟩
    generalize upd H2 A (.dK kvs) = H3 at eA hA3 e13 alo ⊢
    have hn3 := e13 _ _ hn1
    have u_ref : ∀ {H' : Hp} {u : V} {q : PlS} {k : Nat}, AltAt K H' u b (some q) k → u ≠ .non := fun h => by
      obtain ⟨p, t, e, _⟩ := h
      rw [e]
      intro z
      cases z
    let bad : PStr → Bool := fun n => decide ((valV kvs (Sum.inr n)).getD .non = V.non)
    refine ⟨_, rfl, rfl, _, rfl, nm, rfl, ⟨_, SqL.of hn3⟩, fun D2 hD2' => ?_⟩
    refine lc_it walk_list (fun i H' => Same H3 H' ∧ H' D2 = some (.lst (((ns.take i).filter bad).map V.str))) ⟨Ext.upd hD2', upd_same⟩ (fun i H' _ z => SqL.of (z.1 _ _ hn3)) (fun i x H4 H5 hi z y => ?_) (fun H4 z => ?_)
    · obtain ⟨zs4, hD4⟩ := z
      obtain ⟨rfl, hy⟩ := y
      rw [List.getElem?_map] at hy
      obtain ⟨n, hn', e⟩ := Option.map_eq_some_iff.mp hy
      subst e
      obtain ⟨p, v, u, h1, h2, h3, h4, h5⟩ := alo n (List.mem_of_getElem? hn')
      have hi3 : i < 3 := by
        have : i < (ns.map V.str).length := hi
        rw [List.length_map] at this
        omega
      have hb : bad n = decide (u = V.non) := by
        show decide ((valV kvs (Sum.inr n)).getD .non = V.non) = _
        rw [h4]
        rfl
      have hfl : ((ns.take i).filter bad).length ≤ i := Nat.le_trans (List.length_filter_le ..) (List.length_take_le ..)
      refine ⟨rfl, _, rfl, _, rfl, A, u, rfl, .inl ⟨kvs, Sum.inr n, .inl (zs4 _ _ hA3), rfl, h4.symm⟩, rfl, _, rfl, ?_⟩
      cases hc' : decide (u = V.non) with
      | true =>
        refine iteT' rfl ⟨_, rfl, _, hD4, by rw [List.length_map, sizeLine_eq]; omega, Same.put zs4 hD2', ?_⟩
        rw [upd_same, take_snoc hn', List.filter_append, List.filter_cons, if_pos (hb.trans hc'), List.map_append]
        rfl
      | false =>
        refine iteF' rfl ⟨zs4, ?_⟩
        rw [take_snoc hn', List.filter_append, List.filter_cons, if_neg (by rw [hb, hc']; decide), List.filter_nil, List.append_nil]
        exact hD4
    obtain ⟨zs4, hD4⟩ := z
    rw [List.length_map, List.take_length] at hD4
    refine ⟨by rw [sizeLine_eq]; exact (by decide : 0 ≤ 16777216), fun l4 hl4 => ?_⟩
    have e45 := Ext.upd (o := .lst []) hl4
    obtain ⟨dd, hd1, hd2, hd3⟩ := strs_data (K := K) (H := upd H4 l4 (.lst [])) (a := D2) (zs := ns.filter bad) (e45 _ _ hD4) (fun z hz => n4 z (List.mem_filter.mp hz).1)
    refine ⟨dd, .list [], hd1, .lst (SqL.of upd_same) .nil, hd2, rfl, rfl, _, rfl, ?_⟩
    have key : decide (rv = V.non) = !PyData.eqv dd (.list []) := by
      rw [hd3]
      rcases hr1 with ⟨hall, r, rfl, _⟩ | ⟨⟨n, p, hFn, hrn⟩, rfl⟩
      · have : ns.filter bad = [] := List.filter_eq_nil_iff.mpr fun n hnn => by
          obtain ⟨p, v, u, h1, h2, h3, h4, h5⟩ := alo n hnn
          obtain ⟨q, hq⟩ := Option.isSome_iff_exists.mp (hall n p h1)
          rw [hq] at h5
          show ¬ decide ((valV kvs (Sum.inr n)).getD .non = V.non) = true
          rw [h4]
          intro z
          exact u_ref h5 (of_decide_eq_true z)
        rw [this]
        rfl
      · have hnn := (hF n).mpr (by rw [hFn]; rfl)
        obtain ⟨p', v, u, h1, h2, h3, h4, h5⟩ := alo n hnn
        rw [hFn] at h1
        cases h1
        rw [hrn] at h5
        have hu : u = .non := h5
        have : n ∈ ns.filter bad := List.mem_filter.mpr ⟨hnn, by show decide ((valV kvs (Sum.inr n)).getD .non = V.non) = true; rw [h4, hu]; rfl⟩
        cases hq : ns.filter bad with
        | nil => rw [hq] at this; cases this
        | cons _ _ => rfl
    refine iteF' (by rw [key]; simp) ?_
    have e35 : Same H3 (upd H4 l4 (.lst [])) := zs4.trans e45
    generalize upd H4 l4 (.lst []) = H5 at e35 ⊢
    have e15 := e13.trans e35
    have hA5 := e35 _ _ hA3
    have hn5 := e35 _ _ hn3
    -- result and alone
    have same : ∀ r, rv = .ref r → DDict (DPl K) rv (.ref A) H5 := fun r er => by
      rcases hr1 with ⟨hall', r', er', kvr, r1, r2, r3, r4, r5⟩ | ⟨_, en⟩
      · have r1' := e15 _ _ r1
        have nrA : A ≠ r' := fun z => by
          have := zs _ _ r1
          rw [← z, hA] at this
          cases this
        refine ⟨r', A, kvr, kvs, er', rfl, r1', hA5, ?_, fun q hq => ?_⟩
        · have m1 : ∀ x ∈ kvr.map (·.1), x ∈ kvs.map (·.1) := fun x hx => by
            obtain ⟨q, hq, ex⟩ := List.mem_map.mp hx
            obtain ⟨n, v, s', e, hs, _⟩ := r4 q hq
            rw [← ex, e, hk]
            refine List.mem_map.mpr ⟨n, (hF n).mpr ?_, rfl⟩
            have hs' : ((F n).bind fun p => runT p (own n ln)) = some s' := hs
            cases hq : F n with
            | none => rw [hq] at hs'; cases hs'
            | some _ => rfl
          have m2 : ∀ x ∈ kvs.map (·.1), x ∈ kvr.map (·.1) := fun x hx => by
            rw [hk] at hx
            obtain ⟨n, hnn, ex⟩ := List.mem_map.mp hx
            obtain ⟨p, hp'⟩ := Option.isSome_iff_exists.mp ((hF n).mp hnn)
            obtain ⟨v, hv⟩ := r5 n (by show ((F n).bind fun p => runT p (own n ln)).isSome = true; rw [hp']; exact hall' n p hp')
            rw [← ex]
            exact List.mem_map.mpr ⟨_, hv, rfl⟩
          have l1 := nd_le r2 m1
          have l2 := nd_le ndk m2
          rw [List.length_map, List.length_map] at l1 l2
          omega
        · obtain ⟨n, v, s', e, hs, pl, _⟩ := r4 q hq
          have hs' : ((F n).bind fun p => runT p (own n ln)) = some s' := hs
          have hnn : n ∈ ns := (hF n).mpr (by
            cases hq : F n with
            | none => rw [hq] at hs'; cases hs'
            | some _ => rfl)
          obtain ⟨p, v', u, h1, h2, h3, h4, h5⟩ := alo n hnn
          rw [h1] at hs'
          have hs'' : runT p (own n ln) = some s' := hs'
          rw [hs''] at h5
          have pu : PlAt K H3 u b s'.1 s'.2 (m + ln.length) := h5
          refine ⟨u, by rw [e]; exact h4, fun oa ob => ?_⟩
          have mq : (Sum.inr n, v) ∈ kvr := by rw [← e]; exact hq
          have mu : (Sum.inr n, u) ∈ kvs := valV_mem h4
          have hA6 : upd H5 r' (.frz oa (.dK kvr)) A = some (.dK kvs) := by rw [upd_ne nrA]; exact hA5
          have pv1 := ((pl.same e15).lock (od := oa) r1' mq).lock (od := ob) hA6 mu
          have pu1 := ((pu.same e35).lock (od := oa) r1' mq).lock (od := ob) hA6 mu
          rw [e]
          exact pl_eq pv1 pu1
      · rw [en] at er
        cases er
    -- what stands after the second test
    have run_g : ∀ g, jointOf ln = some g → ∀ n p, applyE (g n) p = runT p (own n ln) := fun g hg n p => by
      rw [run_is]
      have : joinO (fun n => effOf (own n ln)) = some g := hg
      by_cases c : ∀ n, (effOf (own n ln)).isSome = true
      · rw [joinO_some (o := fun n => effOf (own n ln)) c] at this
        have e := congrFun (Option.some.inj this) n
        obtain ⟨x, hx⟩ := Option.isSome_iff_exists.mp (c n)
        have e' : x = g n := by
          have e'' : (effOf (own n ln)).getD SE.one = g n := e
          rw [hx] at e''
          exact e''
        rw [hx, e']
        rfl
      · have c' : ∃ n, effOf (own n ln) = none := by
          refine Classical.byContradiction fun q => c fun n => ?_
          cases hn : effOf (own n ln) with
          | none => exact absurd ⟨n, hn⟩ q
          | some x => rfl
        obtain ⟨n', hn'⟩ := c'
        rw [joinO_none (o := fun n => effOf (own n ln)) hn'] at this
        cases this
    have run_n : jointOf ln = none → rv = .non := fun hg => by
      have : joinO (fun n => effOf (own n ln)) = none := hg
      have c' : ∃ n, effOf (own n ln) = none := by
        refine Classical.byContradiction fun q => ?_
        have c : ∀ n, (effOf (own n ln)).isSome = true := fun n => by
          cases hn : effOf (own n ln) with
          | none => exact absurd ⟨n, hn⟩ q
          | some x => rfl
        rw [joinO_some (o := fun n => effOf (own n ln)) c] at this
        cases this
      obtain ⟨n, hn'⟩ := c'
      obtain ⟨p, hp', ep⟩ := effOf_nil_of hn'
      have hnn : n ∈ ns := ep ▸ hin p hp'
      obtain ⟨pl, hpl⟩ := Option.isSome_iff_exists.mp ((hF n).mp hnn)
      rcases hr1 with ⟨hall', _⟩ | ⟨_, en⟩
      · have := hall' n pl hpl
        rw [run_is, hn'] at this
        cases this
      · exact en
    have two : (∃ r, rv = .ref r) ∨ rv = .non := by
      rcases hr1 with ⟨_, r, e, _⟩ | ⟨_, e⟩
      · exact .inl ⟨r, e⟩
      · exact .inr e
    rcases two with ⟨rr, er⟩ | er
    · subst er
      refine ⟨_, rfl, rfl, true, rfl, iteT ⟨_, rfl, _, rfl, same rr rfl, fun H6 e6 => ⟨false, rfl, iteF ?_⟩⟩⟩
      cases hjn : jointOf ln with
      | none =>
        rw [hjn] at hj1
        obtain rfl : fv = .non := hj1
        exact ⟨_, rfl, rfl, true, rfl, iteT (by cases run_n hjn)⟩
      | some g =>
        have hj1' := hj1
        rw [hjn] at hj1
        obtain ⟨fd, fkvs, rfl, _⟩ := hj1
        refine ⟨_, rfl, rfl, false, rfl, iteF ?_⟩
        refine ⟨_, rfl, nm, rfl, ⟨_, SqL.of (e6 _ _ hn5)⟩, fun D3 hD3 => ?_⟩
        refine lc_it walk_list (fun i H' => Same H6 H' ∧ H' D3 = some (.lst [])) ⟨Ext.upd hD3, upd_same⟩ (fun i H' _ z => SqL.of (z.1 _ _ (e6 _ _ hn5))) (fun i x H7 H8 hi z y => ?_) (fun H7 z => ?_)
        · obtain ⟨zs7, hD7⟩ := z
          obtain ⟨rfl, hy⟩ := y
          rw [List.getElem?_map] at hy
          obtain ⟨n, hn', e⟩ := Option.map_eq_some_iff.mp hy
          subst e
          obtain ⟨p, v, u, h1, h2, h3, h4, h5⟩ := alo n (List.mem_of_getElem? hn')
          have e17 := e15.trans (e6.trans zs7)
          refine ⟨rfl, _, rfl, _, rfl, _, rfl, _, rfl, d, v, rfl, .inl ⟨kvp, Sum.inr n, .inl (e17 _ _ pd), rfl, h2.symm⟩, .ref fd, n, v, jointOf ln, 15, c', b, p, m, rfl, hj1'.same e17, h3.same e17, by omega, fun H9 r9 e9 al => ?_⟩
          rw [hjn] at al
          have al' : AltAt K H9 r9 b (runT p (own n ln)) (m + 15) := by rw [← run_g g hjn n p]; exact al
          have e39 := e35.trans (e6.trans (zs7.trans e9))
          exact ⟨_, rfl, _, rfl, A, u, rfl, .inl ⟨kvs, Sum.inr n, .inl (e39 _ _ hA3), rfl, h4.symm⟩, alt_eq al' (h5.nol (NoL.of e39)), fun H10 e10 => ⟨_, rfl, iteF ⟨zs7.trans (e9.trans e10), e10 _ _ (e9 _ _ hD7)⟩⟩⟩
        · obtain ⟨zs7, hD7⟩ := z
          refine ⟨by rw [sizeLine_eq]; exact (by decide : 0 ≤ 16777216), fun l7 hl7 => ?_⟩
          have e78 := Ext.upd (o := .lst []) hl7
          exact ⟨.list [], .list [], .lst (SqL.of (e78 _ _ hD7)) .nil, .lst (SqL.of upd_same) .nil, rfl, rfl, hQ _ (e1.trans (e15.trans (e6.trans (zs7.trans e78))))⟩
    · subst er
      have e6 : Same H5 H5 := Same.refl _
      refine ⟨_, rfl, rfl, false, rfl, iteF ?_⟩
      cases hjn : jointOf ln with
      | none =>
        rw [hjn] at hj1
        obtain rfl : fv = .non := hj1
        exact ⟨_, rfl, rfl, true, rfl, iteT ⟨_, rfl, rfl, hQ _ (e1.trans e15)⟩⟩
      | some g =>
        have hj1' := hj1
        rw [hjn] at hj1
        obtain ⟨fd, fkvs, rfl, _⟩ := hj1
        refine ⟨_, rfl, rfl, false, rfl, iteF ?_⟩
        refine ⟨_, rfl, nm, rfl, ⟨_, SqL.of (e6 _ _ hn5)⟩, fun D3 hD3 => ?_⟩
        refine lc_it walk_list (fun i H' => Same H5 H' ∧ H' D3 = some (.lst [])) ⟨Ext.upd hD3, upd_same⟩ (fun i H' _ z => SqL.of (z.1 _ _ (e6 _ _ hn5))) (fun i x H7 H8 hi z y => ?_) (fun H7 z => ?_)
        · obtain ⟨zs7, hD7⟩ := z
          obtain ⟨rfl, hy⟩ := y
          rw [List.getElem?_map] at hy
          obtain ⟨n, hn', e⟩ := Option.map_eq_some_iff.mp hy
          subst e
          obtain ⟨p, v, u, h1, h2, h3, h4, h5⟩ := alo n (List.mem_of_getElem? hn')
          have e17 := e15.trans (e6.trans zs7)
          refine ⟨rfl, _, rfl, _, rfl, _, rfl, _, rfl, d, v, rfl, .inl ⟨kvp, Sum.inr n, .inl (e17 _ _ pd), rfl, h2.symm⟩, .ref fd, n, v, jointOf ln, 15, c', b, p, m, rfl, hj1'.same e17, h3.same e17, by omega, fun H9 r9 e9 al => ?_⟩
          rw [hjn] at al
          have al' : AltAt K H9 r9 b (runT p (own n ln)) (m + 15) := by rw [← run_g g hjn n p]; exact al
          have e39 := e35.trans (e6.trans (zs7.trans e9))
          exact ⟨_, rfl, _, rfl, A, u, rfl, .inl ⟨kvs, Sum.inr n, .inl (e39 _ _ hA3), rfl, h4.symm⟩, alt_eq al' (h5.nol (NoL.of e39)), fun H10 e10 => ⟨_, rfl, iteF ⟨zs7.trans (e9.trans e10), e10 _ _ (e9 _ _ hD7)⟩⟩⟩
        · obtain ⟨zs7, hD7⟩ := z
          refine ⟨by rw [sizeLine_eq]; exact (by decide : 0 ≤ 16777216), fun l7 hl7 => ?_⟩
          have e78 := Ext.upd (o := .lst []) hl7
          exact ⟨.list [], .list [], .lst (SqL.of (e78 _ _ hD7)) .nil, .lst (SqL.of upd_same) .nil, rfl, rfl, hQ _ (e1.trans (e15.trans (e6.trans (zs7.trans e78))))⟩
end
end TX
end
section
set_option autoImplicit false
set_option maxHeartbeats 4000000
/-! Helpers: two joint effects alike. -/
namespace TX
open PySem PySem.Spec PyProof.Rows L2 He TE
def EfEq (K : PySem.W.Frag) : Addr → Addr → Hp → Prop := fun a b H => ∃ e n m, EffAt K H (.ref a) e n ∧ EffAt K H (.ref b) e m
theorem mon_efEq {K : PySem.W.Frag} (a b : Addr) (H H' : Hp) (e : Ext H H') (h : EfEq K a b H) : EfEq K a b H' := by
  obtain ⟨f, n, m, h1, h2⟩ := h
  exact ⟨f, n, m, h1.same e, h2.same e⟩
def DJ (K : PySem.W.Frag) : Eqv := fun x y H => DNon x y H ∨ DDict (DIns (ga K "Effect") (EfEq K)) x y H
section
variable {X : Cx} {j : Nat}
theorem eqG_ef (T : Txt X.prog X.K X.mg) : EqG X 1 (DIns (ga X.K "Effect") (EfEq X.K)) := by
  obtain ⟨q1, q2, q3, q4⟩ := T.eqf "Effect" (by decide +kernel)
  refine eqG_insR (CX := L2.CX X.prog X.w) (R := EfEq X.K) (E := E0) ((ok_eff_eq T).imp fun vs H Q E h => ?_) q1 q2 passL
  obtain ⟨a, b, rfl, ⟨e, n, m, h1, h2⟩, hQ⟩ := h
  exact ⟨.ref a, .ref b, e, e, n, m, rfl, h1, h2, fun r hr => by rw [hr.mpr rfl]; exact hQ H (Ext.rfl')⟩
theorem neJ (T : Txt X.prog X.K X.mg) (hr : Room j X.A) (hj : 3 ≤ j) : OpR X (compareOp .NotEq) (rNeG (DJ X.K)) :=
  op_neG ((rcN_non.mono (Nat.zero_le _)).or (rcN_dict (mon_ins mon_efEq) (eqG_ef T))) (hr.mono (Nat.le_trans (by decide) hj))
theorem neJs (T : Txt X.prog X.K X.mg) (hr : Room j X.A) (hj : 4 ≤ j) : OpR X (compareOp .NotEq) (rNeG (DList (DJ X.K))) :=
  op_neG (rcN_list (D := DJ X.K) (fun x y H H' e d => by
    rcases d with d | d
    · exact .inl d
    · exact .inr (mon_dict (mon_ins mon_efEq) x y H H' e d)) ((eqG_non.mono (Nat.zero_le _)).or (eqG_dict (mon_ins mon_efEq) (eqG_ef T)))) (hr.mono (Nat.le_trans (by decide) hj))
end
section
variable {K : PySem.W.Frag}
theorem j_keys {H H' : Hp} {g : PStr → SE PStr} {k k' : Nat} {ks ls : List (Key × V)} (h1 : ∀ p ∈ ks, ∃ n u, p = (Sum.inr n, u) ∧ EffAt K H u (g n) k ∧ g n ≠ SE.one) (h2 : ∀ n, g n ≠ SE.one → ∃ u, (Sum.inr n, u) ∈ ls) : ∀ x ∈ ks.map (·.1), x ∈ ls.map (·.1) := fun x hx => by
  obtain ⟨q, hq, ex⟩ := List.mem_map.mp hx
  obtain ⟨n, u, e, _, hne⟩ := h1 q hq
  obtain ⟨u', hu'⟩ := h2 n hne
  rw [← ex, e]
  exact List.mem_map.mpr ⟨_, hu', rfl⟩
/-- two that stand for the same are alike -/
theorem j_eq {H : Hp} {u v : V} {j : Jt PStr PStr} {k k' c c' : Nat} (x : JAt K H u j k c) (y : JAt K H v j k' c') (hne : ∀ a b, u = .ref a → v = .ref b → a ≠ b) : DJ K u v H := by
  cases j with
  | none => exact .inl ⟨x, y⟩
  | some g =>
    obtain ⟨d, ks, rfl, h1, h2, h3, h4, h5⟩ := x
    obtain ⟨d', ls, rfl, g1, g2, g3, g4, g5⟩ := y
    have nd := hne d d' rfl rfl
    refine .inr ⟨d, d', ks, ls, rfl, rfl, h1, g1, ?_, fun p hp => ?_⟩
    · have l1 := nd_le h2 (j_keys (H' := H) (k' := k) h4 g5)
      have l2 := nd_le g2 (j_keys (H' := H) (k' := k) g4 h5)
      rw [List.length_map, List.length_map] at l1 l2
      omega
    · obtain ⟨n, w, e, he, hn⟩ := h4 p hp
      obtain ⟨w', hw'⟩ := g5 n hn
      refine ⟨w', by rw [e]; exact valV_of_mem g2 hw', fun oa ob => ?_⟩
      obtain ⟨n', w'', e', he', _⟩ := g4 _ hw'
      cases e'
      have m1 : (Sum.inr n, w) ∈ ks := by rw [← e]; exact hp
      have q2 : upd H d (.frz oa (.dK ks)) d' = some (.dK ls) := by rw [upd_ne (Ne.symm nd)]; exact g1
      have a1 := (he.lock (od := oa) h1 m1).lock (od := ob) q2 hw'
      have a2 := (he'.lock (od := oa) h1 m1).lock (od := ob) q2 hw'
      rw [e]
      obtain ⟨a, dx, fs, _, _, _, _, ea, b1, _⟩ := id a1
      obtain ⟨a', dx', fs', _, _, _, _, ea', b1', _⟩ := id a2
      subst ea
      subst ea'
      exact ⟨a, a', dx, dx', fs, fs', rfl, rfl, b1, b1', g n, _, _, a1, a2⟩
theorem j_empty {H : Hp} {d : Addr} (h : H d = some (.dK [])) : JAt K H (.ref d) (some fun _ => SE.one) 0 0 :=
  ⟨d, [], rfl, h, .nil, Nat.le_refl _, (fun _ h => (by cases h)), fun n h => absurd rfl h⟩
end
end TX
end
section
set_option autoImplicit false
set_option maxHeartbeats 4000000
/-! The law. -/
namespace TX
open PySem PySem.Spec PyProof.Rows L2 He TE
section
variable {P : Program} {w : World} {K : PySem.W.Frag} {mg : PStr → Option Value} {base : Heap}
abbrev lawN : List PStr := ["_law_script", "_law_k", "_law_stream_here", "_law_alphabet_here", "_law_names_here", "_law_turn", "_law_one", "_law_two", "_law_three", "_law_line", "_law_found", "_law_whole", "_law_places", "_law_name", "_law_spots_here"]
theorem sc60 : FnScope lawN ["_law_script"] (defScope s60) := ⟨rfl, rfl, rfl, by decide +kernel, rfl, by decide +kernel, by decide +kernel⟩
def spLaw (K : PySem.W.Frag) : Sp := fun vs H Q _ => ∃ (a : Addr) (ns : List Int), vs = [.ref a] ∧ SqL K H a (ns.map V.int) ∧ (∀ n ∈ ns, Bts n) ∧ ns.length ≤ 63 ∧ ∀ H', Q (.bl true) H'

theorem law_body (T : Txt P K mg) : Body P w K mg base 9 d60 lawN (spLaw K) := fun f cdv A outer s H vs Q E hr h => by
  · refine ⟨_, (pss_cons (ps_for (passes_of rfl) rfl (pi_range1 (by rfl) (T.fre "range" (by decide +kernel)) (pa_cons (pe_callB (call_max2 rfl) (by rfl) (T.fre "max" (by decide +kernel)) (by decide +kernel) (pa_cons pe_int (pa_cons (pe_callB (call_min2 rfl) (by rfl) (T.fre "min" (by decide +kernel)) (by decide +kernel) (pa_cons pe_int (pa_cons (pe_callB call_len_seq (by rfl) (T.fre "len" (by decide +kernel)) PySem.boot_len (pa_cons (pv 0) pa_nil)) pa_nil))) pa_nil))) pa_nil)) (pg_name (i := 1) sc60.nd rfl (.inl rfl)) (pss_cons (ps_set (i := 2) sc60.nd rfl (.inr rfl) (pe_d (ok_stream T) hr (by decide) (by rfl) (pa_cons (pv 0) (pa_cons (pv 1) pa_nil)))) (pss_cons (ps_set (i := 3) sc60.nd rfl (.inr rfl) (pe_d (ok_alphabet T) hr (by decide) (by rfl) (pa_cons (pv 2) pa_nil))) (pss_cons (ps_set (i := 4) sc60.nd rfl (.inr rfl) (pe_d (ok_names T) hr (by decide) (by rfl) (pa_cons (pv 2) (pa_cons (pv 3) pa_nil)))) (pss_cons (ps_asg (pe_lc (own := [("_law_turn", 5)]) (g := (gName 5)) (tt := tYes) rfl sc60.nd (pi_range1 (by rfl) (T.fre "range" (by decide +kernel)) (pa_cons pe_int pa_nil)) (blkOk_by (own := [("_law_turn", 5)]) (N := ["_law_script", "_law_k", "_law_stream_here", "_law_alphabet_here", "_law_names_here", "_law_turn", "_law_one", "_law_two", "_law_three", "_law_line", "_law_found", "_law_whole", "_law_places", "_law_name", "_law_spots_here"]) (sc := defScope s60) (by decide +kernel)) (fun _ _ _ _ _ => (pg_name (i := 5) sc60.nd rfl (.inl rfl))) (fun _ _ _ _ _ => pts_nil) (fun _ _ _ _ _ => (pe_d (ok_named T) hr (by decide) (by rfl) (pa_cons (pv 2) (pa_cons (pv 4) (pa_cons (pv 3) (pa_cons pe_int pa_nil))))))) (pg_lst rfl (pgs_cons (pg_name (i := 6) sc60.nd rfl (.inl rfl)) (pgs_cons (pg_name (i := 7) sc60.nd rfl (.inl rfl)) (pgs_cons (pg_name (i := 8) sc60.nd rfl (.inl rfl)) pgs_nil))))) (pss_cons (ps_setLc (i := 10) (own := [("_law_line", 9)]) (g := (gName 9)) (tt := tYes) rfl sc60.nd rfl rfl (sw_true rfl rfl rfl (by decide +kernel)) (pi_list (pe_lst (pa_cons (pv 6) (pa_cons (pv 7) (pa_cons (pv 8) pa_nil))))) (blkOk_by (own := [("_law_line", 9)]) (N := ["_law_script", "_law_k", "_law_stream_here", "_law_alphabet_here", "_law_names_here", "_law_turn", "_law_one", "_law_two", "_law_three", "_law_line", "_law_found", "_law_whole", "_law_places", "_law_name", "_law_spots_here"]) (sc := defScope s60) (by decide +kernel)) (fun _ _ _ _ _ => (pg_name (i := 9) sc60.nd rfl (.inl rfl))) (fun _ _ _ _ _ => pts_nil) (fun _ _ _ _ _ => (pe_d (ok_joint_effect T) hr (by decide) (by rfl) (pa_cons (pv 9) pa_nil)))) (pss_cons (ps_if (pt_cmpR (neJ T hr (by decide)) (pe_d (ok_compose_joint T) hr (by decide) (by rfl) (pa_cons (pe_ix ix_list (pv 10) pe_int (fun _ _ => rfl)) (pa_cons (pe_ix ix_list (pv 10) pe_int (fun _ _ => rfl)) pa_nil))) (pe_d (ok_joint_effect T) hr (by decide) (by rfl) (pa_cons (pe_op op_cat (pv 6) (pv 7)) pa_nil)) (nomark _)) (pss_one (ps_ret pe_bl)) pss_nil) (pss_cons (ps_set (i := 11) sc60.nd rfl (.inl rfl) (pe_d (ok_joint_effect T) hr (by decide) (by rfl) (pa_cons (pe_op op_cat (pe_op op_cat (pv 6) (pv 7)) (pv 8)) pa_nil))) (pss_cons (ps_if (pt_cmpR (neJ T hr (by decide)) (pe_d (ok_compose_joint T) hr (by decide) (by rfl) (pa_cons (pe_d (ok_compose_joint T) hr (by decide) (by rfl) (pa_cons (pe_ix ix_list (pv 10) pe_int (fun _ _ => rfl)) (pa_cons (pe_ix ix_list (pv 10) pe_int (fun _ _ => rfl)) pa_nil))) (pa_cons (pe_ix ix_list (pv 10) pe_int (fun _ _ => rfl)) pa_nil))) (pv 11) (nomark _)) (pss_one (ps_ret pe_bl)) pss_nil) (pss_cons (ps_if (PW.pt (pw_or (pt_cmpR (neJ T hr (by decide)) (pe_d (ok_compose_joint T) hr (by decide) (by rfl) (pa_cons (pe_ix ix_list (pv 10) pe_int (fun _ _ => rfl)) (pa_cons (pe_d (ok_compose_joint T) hr (by decide) (by rfl) (pa_cons (pe_ix ix_list (pv 10) pe_int (fun _ _ => rfl)) (pa_cons (pe_ix ix_list (pv 10) pe_int (fun _ _ => rfl)) pa_nil))) pa_nil))) (pv 11) (nomark _)) (pw_or1 (pt_cmpR op_notN (pe_d (ok_compose_joint T) hr (by decide) (by rfl) (pa_cons pe_non (pa_cons pe_dnewK pa_nil))) pe_non (nomark _))))) (pss_one (ps_ret pe_bl)) pss_nil) (pss_cons (ps_if (pt_cmpR (neJ T hr (by decide)) (pe_d (ok_joint_effect T) hr (by decide) (by rfl) (pa_cons (pe_d (ok_sorted T) hr (by decide) (by rfl) (pa_cons (pv 6) (pa_cons (pv 4) pa_nil))) pa_nil)) (pe_ix ix_list (pv 10) pe_int (fun _ _ => rfl)) (nomark _)) (pss_one (ps_ret pe_bl)) pss_nil) (pss_cons (ps_if (pt_cmpR op_notN (pe_ix ix_list (pv 10) pe_int (fun _ _ => rfl)) pe_non (nomark _)) (pss_cons (ps_expr (pe_dclear (pe_d (ok_compose_joint T) hr (by decide) (by rfl) (pa_cons (pe_ix ix_list (pv 10) pe_int (fun _ _ => rfl)) (pa_cons pe_dnewK pa_nil))))) (pss_one (ps_expr (pe_dclear (pe_d (ok_compose_joint T) hr (by decide) (by rfl) (pa_cons pe_dnewK (pa_cons (pe_ix ix_list (pv 10) pe_int (fun _ _ => rfl)) pa_nil))))))) pss_nil) (pss_cons (ps_if (pt_cmpR (neJs T hr (by decide)) (pe_lc (own := [("_law_line", 9)]) (g := (gName 9)) (tt := tYes) rfl sc60.nd (pi_list (pe_lst (pa_cons (pv 6) (pa_cons (pv 7) (pa_cons (pv 8) pa_nil))))) (blkOk_by (own := [("_law_line", 9)]) (N := ["_law_script", "_law_k", "_law_stream_here", "_law_alphabet_here", "_law_names_here", "_law_turn", "_law_one", "_law_two", "_law_three", "_law_line", "_law_found", "_law_whole", "_law_places", "_law_name", "_law_spots_here"]) (sc := defScope s60) (by decide +kernel)) (fun _ _ _ _ _ => (pg_name (i := 9) sc60.nd rfl (.inl rfl))) (fun _ _ _ _ _ => pts_nil) (fun _ _ _ _ _ => (pe_d (ok_joint_effect T) hr (by decide) (by rfl) (pa_cons (pv 9) pa_nil)))) (pv 10) (nomark _)) (pss_one (ps_ret pe_bl)) pss_nil) (pss_cons (ps_set (i := 12) sc60.nd rfl (.inl rfl) pe_dnewK) (pss_cons (ps_for (passes_of rfl) rfl (pi_list (pv 4)) (pg_name (i := 13) sc60.nd rfl (.inl rfl)) (pss_cons (ps_set (i := 14) sc60.nd rfl (.inl rfl) (pe_d (ok_spots T) hr (by decide) (by rfl) (pa_cons (pv 2) (pa_cons (pv 3) (pa_cons (pe_ix ix_list (pv 3) pe_int (fun _ _ => rfl)) pa_nil))))) (pss_one (ps_dput (hu_of hr) (pv 12) (pv 13) (pe_tup (pa_cons (pe_kMk (T.mkr "Tape" (by decide +kernel)) (ok_tape_init T) hr (by decide) (T.glo "Tape" (by decide +kernel)) (by rfl) (pa_cons (pe_ix ix_list (pv 3) pe_int (fun _ _ => rfl)) pa_nil) (pk_cons (pv 14) pk_nil)) (pa_cons (pe_op op_sub (pe_d (ok_draw T) hr (by decide) (by rfl) (pa_cons (pv 2) (pa_cons pe_int pa_nil))) pe_int) pa_nil))) rfl)))) (pss_one (ps_if (PW.pt (pw_or (pt_not (pt_val (pe_d (ok_runs_right T) hr (by decide) (by rfl) (pa_cons (pv 6) (pa_cons (pv 4) (pa_cons (pv 12) (pa_cons (pe_ix ix_list (pv 10) pe_int (fun _ _ => rfl)) pa_nil))))))) (pw_or1 (pt_not (pt_val (pe_d (ok_runs_right T) hr (by decide) (by rfl) (pa_cons (pv 7) (pa_cons (pv 4) (pa_cons (pv 12) (pa_cons (pe_ix ix_list (pv 10) pe_int (fun _ _ => rfl)) pa_nil)))))))))) (pss_one (ps_ret pe_bl)) pss_nil))))))))))))))))) (pss_one (ps_ret pe_bl))), ?_⟩
    obtain ⟨a, ns, rfl, hs, hb, hn, hQ⟩ := h
    have hnl : ns.length ≤ sizeLine := by rw [sizeLine_eq]; omega
    let cnt : Int := (if (if ((ns.map V.int).length : Int) < 5 then ((ns.map V.int).length : Int) else 5) > 1 then (if ((ns.map V.int).length : Int) < 5 then ((ns.map V.int).length : Int) else 5) else 1)
    have c1 : cnt ≤ 5 ∧ 1 ≤ cnt := by
      show (if _ then _ else _) ≤ _ ∧ _ ≤ (if _ then _ else _)
      split <;> split <;> omega
    refine ⟨_, rfl, a, _, rfl, .inl hs, _, _, rfl, _, _, rfl, cnt, rfl, by omega, by omega, for_it walk_range (fun i σ H' => (∃ c1 c2 c3 c4 c5 c6 c7 c8 c9 c10 c11 c12 c13 c14, σ = [some (.ref a), c1, c2, c3, c4, c5, c6, c7, c8, c9, c10, c11, c12, c13, c14]) ∧ Same H H') ⟨⟨_, _, _, _, _, _, _, _, _, _, _, _, _, _, rfl⟩, Same.refl _⟩ (fun _ _ _ _ _ => trivial) (fun i x σ H2 H3 hi z y => ?_) (fun σ H2 z => hQ _)⟩
    obtain ⟨⟨c1', c2, c3, c4, c5, c6, c7, c8, c9, c10, c11, c12, c13, c14, rfl⟩, e2⟩ := z
    obtain ⟨rfl, rfl⟩ := y
    have hi5 : i < 5 := by omega
    refine ⟨_, rfl, _, rfl, a, ns, i, by show [V.ref a, V.int (0 + (i : Int))] = _; rw [Int.zero_add], hs.ext e2, hb, hnl, hi5, fun H4 s e4 s0 st4 => ?_⟩
    refine ⟨_, rfl, s, rfl, st4, fun H5 al zs st5 x5 ha5 => ?_⟩
    refine ⟨_, rfl, _, rfl, s, al, zs, rfl, st5, ha5, fun H6 nm nms st6 x6 hn6 => ?_⟩
    have ha6 := ha5.same x6
    refine ⟨3, rfl, by decide, by decide, fun D hD => ?_⟩
    have nD := st6.free hD
    have dd : ∀ {A B : Hp}, Same A B → Same (del0 A D) (del0 B D) := fun {A B} h => fun y o e => by
      by_cases q : y = D
      · subst q; rw [del0_at] at e; cases e
      · rw [del0_ne q] at e ⊢
        exact h _ _ e
    refine lc_it walk_range (fun j H' => StrAt H' s ∧ Sx s H6 H' ∧ ∃ (ps : List Addr) (lns : List (List (PStr × Step))), H' D = some (.lst (ps.map V.ref)) ∧ Paired (fun p ln => LineAt K (del0 (del0 H' s) D) p ln ∧ ln.length ≤ 15 ∧ ∀ q ∈ ln, q.1 ∈ nms) ps lns ∧ ps.length = j)
      ⟨(st6.new hD _).1, (st6.new hD _).2, [], [], upd_same, .nil, rfl⟩ (fun _ _ _ _ => trivial) (fun j x H7 H8 hj z y => ?_) (fun H7 z => ?_)
    · obtain ⟨st7, x7, ps, lns, hD7, pr, hpl⟩ := z
      obtain ⟨rfl, rfl⟩ := y
      refine ⟨rfl, _, rfl, _, rfl, _, rfl, s, nm, al, nms, zs, 5, rfl, st7, hn6.same x7, ha6.same x7, by decide, fun H9 R ln st9 x9 hR0 hl hll hln => ?_⟩
      have hD9 : H9 D = some (.lst (ps.map V.ref)) := x9.at nD hD7
      have hRD : R ≠ D := fun e => by rw [e, hD7] at hR0; cases hR0
      have upx : ∀ {o : HO}, Same (del0 (del0 H9 s) D) (del0 (del0 (upd H9 D o) s) D) := fun {o} => fun y u e => by
        by_cases q : y = D
        · subst q; rw [del0_at] at e; cases e
        · rw [del0_ne q] at e ⊢
          by_cases q2 : y = s
          · subst q2; rw [del0_at] at e; cases e
          · rw [del0_ne q2] at e ⊢
            rw [upd_ne q]
            exact e
      have hl' : LineAt K (del0 (del0 H9 s) D) R ln := by
        obtain ⟨vs, hv, pv⟩ := hl
        have tp : Tups (del0 H9 s) (del0 (del0 H9 s) D) := fun y xs e => by
          have : y ≠ D := fun q => by rw [q, del0_ne nD, hD9] at e; cases e
          rw [del0_ne this]
          exact e
        exact ⟨vs, by rw [del0_ne hRD]; exact hv, paired_imp pv fun _ _ q => q.tups tp⟩
      refine ⟨ps.map V.ref, hD9, by rw [List.length_map, sizeLine_eq]; omega, st9.upd nD, (x7.trans x9).put hD, ps ++ [R], lns ++ [ln], by rw [upd_same, List.map_append]; rfl, paired_app (paired_imp pr fun _ _ q => ⟨(q.1.same (dd x9)).same upx, q.2⟩) (.cons ⟨hl'.same upx, hll, hln⟩ .nil), by rw [List.length_append, hpl]; rfl⟩
    obtain ⟨st7, x7, ps, lns, hD7, pr, hpl⟩ := z
    have hpl3 : ps.length = 3 := hpl
    match ps, lns, pr, hpl3, hD7 with
    | [p1, p2, p3], [l1, l2, l3], .cons q1 (.cons q2 (.cons q3 .nil)), _, hD7 =>
    have up0 : Same (del0 (del0 H7 s) D) H7 := del0_le.trans del0_le
    have L1 : LineAt K H7 p1 l1 := q1.1.same up0
    have L2 : LineAt K H7 p2 l2 := q2.1.same up0
    have L3 : LineAt K H7 p3 l3 := q3.1.same up0
    refine ⟨D, _, rfl, SqL.of hD7, rfl, _, _, rfl, _, _, rfl, _, _, rfl, rfl, ?_⟩
    have q11 := q1.2.1
    have q21 := q2.2.1
    have q31 := q3.2.1
    -- found
    refine ⟨_, rfl, _, rfl, _, rfl, by rw [sizeLine_eq]; exact (by decide : 3 ≤ 16777216), fun T3 hT3 => ?_⟩
    have eT : Same H7 (upd H7 T3 (.lst [.ref p1, .ref p2, .ref p3])) := Ext.upd hT3
    refine ⟨T3, rfl, ⟨_, SqL.of upd_same⟩, fun FD hFD => ?_⟩
    have hT3' : upd H7 T3 (.lst [.ref p1, .ref p2, .ref p3]) T3 = some (.lst [.ref p1, .ref p2, .ref p3]) := upd_same
    generalize upd H7 T3 (.lst [.ref p1, .ref p2, .ref p3]) = H8 at eT hT3' hFD
    have three : ∀ {j : Nat} {x : V}, [V.ref p1, V.ref p2, V.ref p3][j]? = some x → ∃ p ln, x = .ref p ∧ [l1, l2, l3][j]? = some ln ∧ LineAt K H7 p ln ∧ ln.length ≤ 15 := fun {j x} h => by
      match j, h with
      | 0, h => exact ⟨p1, l1, (Option.some.inj h).symm, rfl, L1, q11⟩
      | 1, h => exact ⟨p2, l2, (Option.some.inj h).symm, rfl, L2, q21⟩
      | 2, h => exact ⟨p3, l3, (Option.some.inj h).symm, rfl, L3, q31⟩
      | j + 3, h => cases h
    refine lc_it walk_list (fun j H' => Same H8 H' ∧ ∃ us, H' FD = some (.lst us) ∧ Paired (fun u ln => JAt K H' u (jointOf ln) 15 15) us ([l1, l2, l3].take j) ∧ us.length ≤ j) ⟨Ext.upd hFD, [], upd_same, .nil, Nat.le_refl _⟩ (fun j H' _ z => SqL.of (z.1 _ _ hT3')) (fun j x H9 H10 hj z y => ?_) (fun H9 z => ?_)
    · obtain ⟨zs9, us, hu9, pr9, hul⟩ := z
      obtain ⟨rfl, hy⟩ := y
      obtain ⟨p, ln, rfl, hln, hL, hll⟩ := three hy
      have hj3 : j < 3 := hj
      refine ⟨rfl, _, rfl, p, ln, 15, 15, rfl, hL.same (eT.trans zs9), hll, by decide, fun n => Nat.le_trans (own_len n ln) hll, by decide, fun H11 r e11 J fr => ?_⟩
      have hu11 := e11 _ _ hu9
      have nl : NoL H11 (upd H11 FD (.lst (us ++ [r]))) := NoL.put hu11
      refine ⟨us, hu11, by rw [sizeLine_eq]; omega, Same.put (zs9.trans e11) hFD, us ++ [r], upd_same, ?_, by rw [List.length_append]; exact Nat.succ_le_succ hul⟩
      rw [take_snoc hln]
      exact paired_app (paired_imp pr9 fun _ _ q => (q.same e11).nol nl) (.cons (J.nol nl) .nil)
    obtain ⟨zs9, us, hF9, pr9, hul⟩ := z
    match us, pr9, hF9 with
    | [u1, u2, u3], .cons J1 (.cons J2 (.cons J3 .nil)), hF9 =>
    have e79 : Same H7 H9 := eT.trans zs9
    have at_of : ∀ {H' : Hp} {b : Addr} {j : Jt PStr PStr} {k c : Nat}, JAt K H' (.ref b) j k c → ∃ o, H' b = some o := fun {H' b j k c} h => by
      cases j with
      | none => cases h
      | some g =>
        obtain ⟨d, kvs, e, h1, _⟩ := h
        cases e
        exact ⟨_, h1⟩
    -- one fresh, the other there
    have neF : ∀ {H' : Hp} {u v : V} {j : Jt PStr PStr} {k c : Nat}, JAt K H' u j k c → (∀ b, v = .ref b → H' b = none) → ∀ a b, u = .ref a → v = .ref b → a ≠ b := fun {H' u v j k c} h fr a b eu ev e => by
      subst eu
      obtain ⟨o, ho⟩ := at_of h
      have := fr b ev
      rw [← e, ho] at this
      cases this
    -- compose(f0, f1) != joint(one + two)
    refine ⟨_, rfl, FD, _, _, _, rfl, rfl, SqL.of hF9, rfl, _, rfl, FD, _, _, _, rfl, rfl, SqL.of hF9, rfl, u1, u2, _, _, 15, 15, 15, 15, rfl, J1, J2, by decide, by decide, fun H10 r10 e10 J10 f10 => ?_⟩
    obtain ⟨v1, hv1, w1⟩ := L1.same (e79.trans e10)
    obtain ⟨v2, hv2, w2⟩ := L2.same (e79.trans e10)
    have w1l := w1.length
    have w2l := w2.length
    refine ⟨_, rfl, _, rfl, p1, p2, _, _, rfl, rfl, hv1, hv2, by rw [sizeLine_eq]; omega, fun c12 hc12 => ?_⟩
    have e11 := Ext.upd (o := .lst (v1 ++ v2)) hc12
    have L12 : LineAt K (upd H10 c12 (.lst (v1 ++ v2))) c12 (l1 ++ l2) := ⟨_, upd_same, paired_app (paired_imp w1 fun _ _ q => q.same e11) (paired_imp w2 fun _ _ q => q.same e11)⟩
    refine ⟨c12, l1 ++ l2, 45, 45, rfl, L12, by rw [List.length_append]; omega, by decide, fun n => Nat.le_trans (own_len n _) (by rw [List.length_append]; omega), by decide, fun H12 r12 e12 J12 f12 => ?_⟩
    rw [joint_append] at J10
    refine ⟨j_eq (J10.same (e11.trans e12)) J12 (neF (J10.same e11) f12), fun H13 e13 => ⟨_, rfl, iteF ?_⟩⟩
    -- whole
    have e9d : Same H9 H13 := e10.trans (e11.trans (e12.trans e13))
    obtain ⟨v1, hv1, w1⟩ := L1.same (e79.trans e9d)
    obtain ⟨v2, hv2, w2⟩ := L2.same (e79.trans e9d)
    obtain ⟨v3, hv3, w3⟩ := L3.same (e79.trans e9d)
    have w1l := w1.length
    have w2l := w2.length
    have w3l := w3.length
    refine ⟨_, rfl, _, rfl, p1, p2, _, _, rfl, rfl, hv1, hv2, by rw [sizeLine_eq]; omega, fun c12 hc12 => ?_⟩
    have e14 := Ext.upd (o := .lst (v1 ++ v2)) hc12
    refine ⟨_, rfl, c12, p3, _, _, rfl, rfl, upd_same, e14 _ _ hv3, by rw [List.length_append, sizeLine_eq]; omega, fun c13 hc13 => ?_⟩
    have e15 := Ext.upd (o := .lst (v1 ++ v2 ++ v3)) hc13
    have e145 := e14.trans e15
    have L13 : LineAt K (upd (upd H13 c12 (.lst (v1 ++ v2))) c13 (.lst (v1 ++ v2 ++ v3))) c13 (l1 ++ l2 ++ l3) := ⟨_, upd_same, paired_app (paired_app (paired_imp w1 fun _ _ q => q.same e145) (paired_imp w2 fun _ _ q => q.same e145)) (paired_imp w3 fun _ _ q => q.same e145)⟩
    refine ⟨c13, l1 ++ l2 ++ l3, 45, 45, rfl, L13, by rw [List.length_append, List.length_append]; omega, by decide, fun n => Nat.le_trans (own_len n _) (by rw [List.length_append, List.length_append]; omega), by decide, fun H16 wh e16 JW fW => ?_⟩
    have e9g : Same H9 H16 := e9d.trans (e145.trans e16)
    have hF16 := e9g _ _ hF9
    -- compose(compose(f0, f1), f2) != whole
    refine ⟨_, rfl, FD, _, _, _, rfl, rfl, SqL.of hF16, rfl, _, rfl, FD, _, _, _, rfl, rfl, SqL.of hF16, rfl, u1, u2, _, _, 15, 15, 15, 15, rfl, J1.same e9g, J2.same e9g, by decide, by decide, fun H17 r17 e17 J17 f17 => ?_⟩
    have e9h := e9g.trans e17
    refine ⟨_, rfl, FD, _, _, _, rfl, rfl, SqL.of (e9h _ _ hF9), rfl, r17, u3, _, _, 30, 15, 30, 15, rfl, J17, J3.same e9h, by decide, by decide, fun H18 r18 e18 J18 f18 => ?_⟩
    rw [joint_append, joint_append] at J18
    refine ⟨_, rfl, j_eq J18 (JW.same (e17.trans e18)) (fun a b ea eb e => neF (JW.same e17) f18 b a eb ea e.symm), fun H19 e19 => ⟨_, rfl, iteF ?_⟩⟩
    -- compose(f0, compose(f1, f2)) != whole
    have e9i := e9h.trans (e18.trans e19)
    have eW := e17.trans (e18.trans e19)
    have hF19 := e9i _ _ hF9
    refine ⟨_, rfl, FD, _, _, _, rfl, rfl, SqL.of hF19, rfl, _, rfl, FD, _, _, _, rfl, rfl, SqL.of hF19, rfl, _, rfl, FD, _, _, _, rfl, rfl, SqL.of hF19, rfl, u2, u3, _, _, 15, 15, 15, 15, rfl, J2.same e9i, J3.same e9i, by decide, by decide, fun H20 r20 e20 J20 f20 => ?_⟩
    have e9j := e9i.trans e20
    refine ⟨u1, r20, _, _, 15, 30, 15, 30, rfl, J1.same e9j, J20, by decide, by decide, fun H21 r21 e21 J21 f21 => ?_⟩
    rw [compJ_assoc] at J21
    refine ⟨_, rfl, j_eq J21 (JW.same (eW.trans (e20.trans e21))) (fun a b ea eb e => neF (JW.same (eW.trans e20)) f21 b a eb ea e.symm), fun H22 e22 => ⟨_, rfl, iteF ?_⟩⟩
    intro dd hdd
    refine ⟨.non, .ref dd, none, some fun _ => SE.one, 0, 0, 0, 0, rfl, rfl, j_empty upd_same, by decide, by decide, fun H23 r23 e23 J23 f23 => ?_⟩
    obtain rfl : r23 = .non := J23
    refine ⟨rfl, _, rfl, iteF ?_⟩
    have e9k : Same H9 H23 := e9j.trans (e21.trans (e22.trans ((Ext.upd hdd).trans e23)))
    -- joint(sorted(one)) != f0
    have e7k := e79.trans e9k
    have hn7 : NamesAt (del0 H7 s) nm nms := hn6.same x7
    have N7 : NamesAt H7 nm nms := hn7.up
    refine ⟨_, rfl, _, rfl, p1, nm, l1, nms, rfl, L1.same e7k, N7.same e7k, q1.2.2, q11, fun H24 R24 ln24 e24 L24 own24 len24 => ?_⟩
    refine ⟨R24, ln24, 45, 45, rfl, L24, len24, by decide, fun n => Nat.le_trans (own_len n _) len24, by decide, fun H25 r25 e25 J25 f25 => ?_⟩
    rw [jointOf_congr own24] at J25
    have e9m := e9k.trans (e24.trans e25)
    have hF25 := e9m _ _ hF9
    refine ⟨_, rfl, FD, _, _, _, rfl, rfl, SqL.of hF25, rfl, j_eq J25 (J1.same e9m) (fun a b ea eb e => neF (J1.same (e9k.trans e24)) f25 b a eb ea e.symm), fun H26 e26 => ⟨_, rfl, iteF ?_⟩⟩
    have e9n := e9m.trans e26
    have hF26 := e9n _ _ hF9
    refine ⟨_, rfl, FD, _, _, _, rfl, rfl, SqL.of hF26, rfl, rfl, _, rfl, ?_⟩
    cases hj1 : jointOf l1 with
    | none =>
      have hu1 : u1 = .non := by rw [hj1] at J1; exact J1
      refine iteF' (by rw [hu1]; rfl) ?_
      have e9z := e9n
      have hFz := e9z _ _ hF9
      have e7z := e79.trans e9z
      -- [joint(line) for line in [one, two, three]] != found
      refine ⟨_, rfl, _, rfl, _, rfl, by rw [sizeLine_eq]; exact (by decide : 3 ≤ 16777216), fun T4 hT4 => ?_⟩
      have eT4 := Ext.upd (o := .lst [.ref p1, .ref p2, .ref p3]) hT4
      refine ⟨T4, rfl, ⟨_, SqL.of upd_same⟩, fun FD4 hFD4 => ?_⟩
      have hT4' : upd H26 T4 (.lst [.ref p1, .ref p2, .ref p3]) T4 = some (.lst [.ref p1, .ref p2, .ref p3]) := upd_same
      generalize upd H26 T4 (.lst [.ref p1, .ref p2, .ref p3]) = H31 at eT4 hT4' hFD4
      have J123 : ∀ {j : Nat} {u : V}, [u1, u2, u3][j]? = some u → ∃ ln, [l1, l2, l3][j]? = some ln ∧ JAt K H9 u (jointOf ln) 15 15 := fun {j u} h => by
        match j, h with
        | 0, h => exact ⟨l1, rfl, Option.some.inj h ▸ J1⟩
        | 1, h => exact ⟨l2, rfl, Option.some.inj h ▸ J2⟩
        | 2, h => exact ⟨l3, rfl, Option.some.inj h ▸ J3⟩
        | j + 3, h => cases h
      refine lc_it walk_list (fun j H' => Same H31 H' ∧ ∃ ws, H' FD4 = some (.lst ws) ∧ Prs (fun w u H => ∃ ln, JAt K H w (jointOf ln) 15 15 ∧ JAt K H u (jointOf ln) 15 15 ∧ ∀ a b, w = .ref a → u = .ref b → a ≠ b) ws ([u1, u2, u3].take j) H' ∧ ws.length ≤ j) ⟨Ext.upd hFD4, [], upd_same, Prs.nil, Nat.le_refl _⟩ (fun j H' _ z => SqL.of (z.1 _ _ hT4')) (fun j x H32 H33 hj z y => ?_) (fun H32 z => ?_)
      · obtain ⟨zs32, ws, hw32, pr32, hwl⟩ := z
        obtain ⟨rfl, hy⟩ := y
        obtain ⟨p, ln, rfl, hln, hL, hll⟩ := three hy
        have hj3 : j < 3 := hj
        refine ⟨rfl, _, rfl, p, ln, 15, 15, rfl, hL.same (e7z.trans (eT4.trans zs32)), hll, by decide, fun n => Nat.le_trans (own_len n ln) hll, by decide, fun H34 r e34 J fr => ?_⟩
        have hw34 := e34 _ _ hw32
        have nl : NoL H34 (upd H34 FD4 (.lst (ws ++ [r]))) := NoL.put hw34
        refine ⟨ws, hw34, by rw [sizeLine_eq]; omega, Same.put (zs32.trans e34) hFD4, ws ++ [r], upd_same, ?_, by rw [List.length_append]; exact Nat.succ_le_succ hwl⟩
        have hju : ∃ u, [u1, u2, u3][j]? = some u := ⟨_, List.getElem?_eq_getElem (show j < [u1, u2, u3].length from hj3)⟩
        obtain ⟨u, hu⟩ := hju
        obtain ⟨ln', hln', Ju⟩ := J123 hu
        rw [hln] at hln'
        obtain rfl := Option.some.inj hln'
        rw [take_snoc hu]
        refine ⟨by rw [List.length_append, List.length_append, pr32.1]; rfl, fun i x y hx hy' => ?_⟩
        have Ju34 := Ju.same (e9z.trans (eT4.trans (zs32.trans e34)))
        by_cases q : i < ws.length
        · rw [List.getElem?_append_left q] at hx
          rw [List.getElem?_append_left (by rw [← pr32.1]; exact q)] at hy'
          obtain ⟨lnn, a1, a2, a3⟩ := pr32.2 i x y hx hy'
          exact ⟨lnn, (a1.same e34).nol nl, (a2.same e34).nol nl, a3⟩
        · rw [List.getElem?_append_right (by omega)] at hx
          rw [List.getElem?_append_right (by rw [← pr32.1]; omega)] at hy'
          rw [← pr32.1] at hy'
          have i0 : i - ws.length = 0 := by
            cases hq : i - ws.length with
            | zero => rfl
            | succ k => rw [hq] at hx; cases hx
          rw [i0] at hx hy'
          obtain rfl := Option.some.inj hx
          obtain rfl := Option.some.inj hy'
          exact ⟨ln, J.nol nl, Ju34.nol nl, fun a b ea eb e => neF (Ju.same (e9z.trans (eT4.trans zs32))) fr b a eb ea e.symm⟩
      obtain ⟨zs32, ws, hw32, pr32, hwl⟩ := z
      have e9y := e9z.trans (eT4.trans zs32)
      refine ⟨_, rfl, ⟨FD4, FD, ws, [u1, u2, u3], rfl, rfl, hw32, e9y _ _ hF9, pr32.1, fun i x y hx hy' => ?_⟩, fun H35 e35 => ⟨_, rfl, iteF ?_⟩⟩
      · obtain ⟨lnn, a1, a2, a3⟩ := pr32.2 i x y hx hy'
        exact j_eq a1 a2 a3
      have e9x := e9y.trans e35
      have e7x := e79.trans e9x
      have stx := st7.same e7x
      have xx := x7.trans (Sx.of (s := s) e7x)
      have nFD := (st7.same eT).free hFD
      have hFx := e9x _ _ hF9
      have N7s := hn6.same xx
      have A7s := ha6.same xx
      have al0 : ∀ {H' : Hp}, Sx s H35 H' → H' al = some (.lst (zs.map V.str)) := fun x => (A7s.same x).up.1
      obtain ⟨zl2, _, znd, zLet⟩ := A7s.2
      obtain ⟨b, hb0⟩ : ∃ b, zs[0]? = some b := ⟨_, List.getElem?_eq_getElem (by omega)⟩
      have hLb : Let b := zLet b (List.mem_of_getElem? hb0)
      have at0 : atI (zs.map V.str) 0 = some (V.str b) := atI_nat (show (zs.map V.str)[0]? = some (V.str b) by rw [List.getElem?_map, hb0]; rfl)
      obtain ⟨m1, m2, m3, m4⟩ := N7s.2
      -- places
      intro PP hPP
      have nPP := stx.free hPP
      refine ⟨_, rfl, nm, rfl, ⟨_, SqL.of (N7s.same ((Sx.refl H35).put (o := .dK []) hPP)).up.1⟩, for_it walk_list (fun j σ H' => (∃ c5 c9 c13 c14, σ = [some (.ref a), some (.int (0 + (i : Int))), some (.ref s), some (.ref al), some (.ref nm), c5, some (.ref p1), some (.ref p2), some (.ref p3), c9, some (.ref FD), some wh, some (.ref PP), c13, c14]) ∧ StrAt H' s ∧ Sx s H35 H' ∧
          ∃ (F : PStr → Option PlS) (kvs : List (Key × V)), H' PP = some (.dK kvs) ∧ (kvs.map (·.1)).Nodup ∧ kvs.length ≤ j ∧ (∀ p ∈ kvs, ∃ n v q, p = (Sum.inr n, v) ∧ F n = some q ∧ PlAt K (del0 (del0 H' s) PP) v b q.1 q.2 7 ∧ Wrd n) ∧ (∀ n, (F n).isSome = true → ∃ v, (Sum.inr n, v) ∈ kvs) ∧ ∀ n, n ∈ nms.take j ↔ (F n).isSome = true)
        ⟨⟨_, _, _, _, rfl⟩, stx.upd nPP, (Sx.refl H35).put hPP, fun _ => none, [], upd_same, .nil, Nat.le_refl _, (fun _ h => (by cases h)), (fun _ h => (by cases h)), fun n => ⟨fun h => (by rw [List.take_zero] at h; cases h), fun h => (by cases h)⟩⟩
        (fun j σ H' _ z => SqL.of (N7s.same z.2.2.1).up.1) (fun j x σ H36 H36' hj z y => ?_) (fun σ H36 z => ?_)⟩
      · obtain ⟨⟨c5, c9, c13, c14, rfl⟩, st36, x36, F, kvs, hP36, knd, klen, ksh, kal, kF⟩ := z
        obtain ⟨rfl, hy⟩ := y
        rw [List.getElem?_map] at hy
        obtain ⟨n, hn', e⟩ := Option.map_eq_some_iff.mp hy
        subst e
        have hj3 : j < 3 := by
          have : j < (nms.map V.str).length := hj
          rw [List.length_map] at this
          omega
        refine ⟨_, rfl, _, rfl, _, rfl, al, _, _, _, rfl, rfl, SqL.of (al0 x36), at0, s, al, zs, b, rfl, st36, A7s.same x36, fun H37 dsp kv f st37 x37 fr37 hd37 L hb37 => ?_⟩
        have x3637 := x36.trans x37
        refine ⟨_, rfl, al, _, _, _, rfl, rfl, SqL.of (al0 x3637), at0, _, rfl, rfl, rfl, fun x dx hx hdx hne => ⟨H37, x, dx, b, dsp, kv, f, 7, rfl, ⟨hx, hdx, hne, rfl⟩, hd37, L, by decide, hLb, fun H38 e38 tp => ⟨rfl, ?_⟩⟩⟩
        have st38 := st37.same e38
        refine ⟨_, rfl, _, _, rfl, st38, by decide, by decide, fun H39 r st39 x39 r0 r1 => ⟨_, _, rfl, rfl, by rw [sizeLine_eq]; exact (by decide : 2 ≤ 16777216), fun t ht => ?_⟩⟩
        have x3739 : Sx s H37 H39 := (Sx.of e38).trans x39
        have st40 := (st39.new ht (.tup [.ref x, .int (r - 2)])).1
        have x3740 := x3739.trans (st39.new ht (.tup [.ref x, .int (r - 2)])).2
        have x3640 := x37.trans x3740
        have hP37 := x37.at nPP hP36
        have hP40 := x3640.at nPP hP36
        have hP39 := x3739.at nPP hP37
        have tP : t ≠ PP := fun z => by rw [z, hP39] at ht; cases ht
        have ts := st39.free ht
        let G : PStr → Option PlS := fun n' => if n' = n then some ((fun i => (f i).getD b), r - 2) else F n'
        have gN : ∀ {n'}, n' ≠ n → G n' = F n' := fun h => if_neg h
        have gS : G n = some ((fun i => (f i).getD b), r - 2) := if_pos rfl
        refine ⟨_, rfl, _, rfl, PP, _, rfl, DPut.k (k := Sum.inr n) hP40 (by rw [sizeLine_eq]; omega), ⟨_, _, _, _, rfl⟩, st40.upd nPP, (x36.trans x3640).put hPP, G, putK kvs (Sum.inr n) (.ref t), upd_same, nd_put knd, ?_, fun q hq => ?_, fun n' h => ?_, fun n' => ?_⟩
        · exact Nat.le_trans (length_putK ..) (Nat.succ_le_succ klen)
        · have vn : valV kvs (Sum.inr n) = none := by
            cases hv : valV kvs (Sum.inr n) with
            | none => rfl
            | some v =>
              obtain ⟨n2, v2, q2, e2, hF2, _⟩ := ksh _ (valV_mem hv)
              cases e2
              exact absurd ((kF n).mpr (by rw [hF2]; rfl)) (not_take m3 hn')
          rw [putK_new _ vn] at hq
          rcases List.mem_append.mp hq with h | h
          · obtain ⟨n2, v2, q2, e2, hF2, pl, hw⟩ := ksh q h
            have ne : n2 ≠ n := fun z => by
              rw [e2] at h
              rw [← z, valV_of_mem knd h] at vn
              cases vn
            refine ⟨n2, v2, q2, e2, (gN ne).trans hF2, pl.same fun y o e => ?_, hw⟩
            by_cases yP : y = PP
            · subst yP; rw [del0_at] at e; cases e
            · rw [del0_ne yP] at e ⊢
              by_cases ys : y = s
              · subst ys; rw [del0_at] at e; cases e
              · rw [del0_ne ys] at e ⊢
                rw [upd_ne yP]
                exact x3640.at ys e
          · rw [List.mem_singleton.mp h]
            refine ⟨n, _, _, rfl, gS, ⟨t, _, rfl, by rw [del0_ne tP, del0_ne ts, upd_ne tP]; exact upd_same, tp.same fun y o e => ?_⟩, m4 n (List.mem_of_getElem? hn')⟩
            cases hq : H37 y with
            | some u =>
              unfold dif at e
              rw [hq] at e
              cases e
            | none =>
              rw [dif_at hq] at e
              have yP : y ≠ PP := fun z => by rw [z, hP37] at hq; cases hq
              have ys := st37.free hq
              have e39 := x39.at ys e
              have yt : y ≠ t := fun z => by rw [z, ht] at e39; cases e39
              rw [del0_ne yP, del0_ne ys, upd_ne yP, upd_ne yt]
              exact e39
        · by_cases q : n' = n
          · subst q
            have : (Sum.inr n' : Key) ∈ (putK kvs (Sum.inr n') (.ref t)).map (·.1) := mem_keys_put.mpr (.inr rfl)
            obtain ⟨⟨k', u⟩, hu, ek⟩ := List.mem_map.mp this
            have ek' : k' = Sum.inr n' := ek
            subst ek'
            exact ⟨u, hu⟩
          · rw [gN q] at h
            obtain ⟨v, hv⟩ := kal n' h
            have : (Sum.inr n' : Key) ∈ (putK kvs (Sum.inr n) (.ref t)).map (·.1) := mem_keys_put.mpr (.inl (List.mem_map.mpr ⟨_, hv, rfl⟩))
            obtain ⟨⟨k', u⟩, hu, ek⟩ := List.mem_map.mp this
            have ek' : k' = Sum.inr n' := ek
            subst ek'
            exact ⟨u, hu⟩
        · rw [take_snoc hn']
          by_cases q : n' = n
          · subst q
            exact ⟨fun _ => (by rw [gS]; rfl), fun _ => List.mem_append_right _ (List.mem_singleton.mpr rfl)⟩
          · rw [gN q]
            refine ⟨fun h => ?_, fun h => List.mem_append_left _ ((kF n').mpr h)⟩
            rcases List.mem_append.mp h with h | h
            · exact (kF n').mp h
            · exact absurd (List.mem_singleton.mp h) q
      · obtain ⟨⟨c5, c9, c13, c14, rfl⟩, st36, x36, F, kvs, hP36, knd, klen, ksh, kal, kF⟩ := z
        rw [List.length_map, List.take_length] at kF
        rw [List.length_map] at klen
        have PA : PlsAt K H36 PP b F 7 3 := ⟨kvs, hP36, knd, by omega, fun p hp => let ⟨n, v, q, e, hF, pl, hw⟩ := ksh p hp; ⟨n, v, q, e, hF, pl.same (del0_le.trans del0_le), hw⟩, kal⟩
        have x736 : Sx s H7 H36 := (Sx.of e7x).trans x36
        have nl9 : NoL H9 H36 := (NoL.of e9x).trans (x36.nol stx)
        have hF36 := x36.at nFD hFx
        have LA1 : LineAt K H36 p1 l1 := ((q1.1.same del0_le).same x736).same del0_le
        have LA2 : LineAt K H36 p2 l2 := ((q2.1.same del0_le).same x736).same del0_le
        have NA := (N7s.same x36).up
        refine ⟨_, rfl, _, rfl, _, rfl, _, rfl, FD, _, _, _, rfl, rfl, SqL.of hF36, rfl, p1, nm, PP, u1, l1, nms, b, F, 7, 3, 15, rfl, LA1, NA, PA, kF, q1.2.2, q11, by decide, by decide, J1.nol nl9, fun H43 e43 => ⟨true, rfl, iteF ?_⟩⟩
        refine ⟨_, rfl, _, rfl, _, rfl, _, rfl, FD, _, _, _, rfl, rfl, SqL.of (e43 _ _ hF36), rfl, p2, nm, PP, u2, l2, nms, b, F, 7, 3, 15, rfl, LA2.same e43, NA.same e43, PA.nol (NoL.of e43), kF, q2.2.2, q21, by decide, by decide, (J2.nol nl9).same e43, fun H44 e44 => ⟨true, rfl, iteF ?_⟩⟩
        refine ⟨⟨_, _, _, _, _, _, _, _, _, _, _, _, _, _, rfl⟩, e2.trans fun y o e => ?_⟩
        have ys : y ≠ s := fun z => by rw [z, s0] at e; cases e
        exact e44 _ _ (e43 _ _ (x36.at ys ((Sx.of (s := s) e7x).at ys (x7.at ys (x6.at ys (x5.at ys (e4 _ _ e)))))))
    | some g1 =>
      have J1s : JAt K H9 u1 (some g1) 15 15 := by rw [← hj1]; exact J1
      obtain ⟨d1, kv1, hu1, _⟩ := id J1s
      refine iteT' (by rw [hu1]; rfl) ?_
      -- compose(f0, {}).clear()
      refine ⟨_, rfl, FD, _, _, _, rfl, rfl, SqL.of hF26, rfl, fun dd1 hdd1 => ?_⟩
      have ea : Same H26 (upd H26 dd1 (.dK [])) := Ext.upd hdd1
      refine ⟨u1, .ref dd1, some g1, some fun _ => SE.one, 15, 0, 15, 0, rfl, J1s.same (e9n.trans ea), j_empty upd_same, by decide, by decide, fun H27 r27 e27 J27 f27 => ?_⟩
      rw [compJ_one_r] at J27
      obtain ⟨y1, ky1, rfl, hy1, _⟩ := J27
      have f27' := f27 y1 rfl
      refine ⟨.inr (.inr (.inl ⟨rfl, .inl ⟨_, hy1⟩⟩)), y1, ky1, rfl, rfl, hy1, ?_⟩
      have eb : Same H26 (upd H27 y1 (.dK [])) := Same.put (ea.trans e27) (ea.free f27')
      have e9o := e9n.trans eb
      have hF28 := e9o _ _ hF9
      generalize upd H27 y1 (.dK []) = H28 at eb e9o hF28 ⊢
      -- compose({}, f0).clear()
      intro dd2 hdd2
      have ec : Same H28 (upd H28 dd2 (.dK [])) := Ext.upd hdd2
      refine ⟨_, rfl, FD, _, _, _, rfl, rfl, SqL.of (ec _ _ hF28), rfl, ?_⟩
      refine ⟨.ref dd2, u1, some fun _ => SE.one, some g1, 0, 15, 0, 15, rfl, j_empty upd_same, J1s.same (e9o.trans ec), by decide, by decide, fun H29 r29 e29 J29 f29 => ?_⟩
      rw [compJ_one_l (joint_norm hj1)] at J29
      obtain ⟨y2, ky2, rfl, hy2, _⟩ := J29
      have f29' := f29 y2 rfl
      refine ⟨.inr (.inr (.inl ⟨rfl, .inl ⟨_, hy2⟩⟩)), y2, ky2, rfl, rfl, hy2, ?_⟩
      have ed : Same H28 (upd H29 y2 (.dK [])) := Same.put (ec.trans e29) (ec.free f29')
      have e9z := e9o.trans ed
      generalize upd H29 y2 (.dK []) = H30 at ed e9z ⊢
      have hFz := e9z _ _ hF9
      have e7z := e79.trans e9z
      -- [joint(line) for line in [one, two, three]] != found
      refine ⟨_, rfl, _, rfl, _, rfl, by rw [sizeLine_eq]; exact (by decide : 3 ≤ 16777216), fun T4 hT4 => ?_⟩
      have eT4 := Ext.upd (o := .lst [.ref p1, .ref p2, .ref p3]) hT4
      refine ⟨T4, rfl, ⟨_, SqL.of upd_same⟩, fun FD4 hFD4 => ?_⟩
      have hT4' : upd H30 T4 (.lst [.ref p1, .ref p2, .ref p3]) T4 = some (.lst [.ref p1, .ref p2, .ref p3]) := upd_same
      generalize upd H30 T4 (.lst [.ref p1, .ref p2, .ref p3]) = H31 at eT4 hT4' hFD4
      have J123 : ∀ {j : Nat} {u : V}, [u1, u2, u3][j]? = some u → ∃ ln, [l1, l2, l3][j]? = some ln ∧ JAt K H9 u (jointOf ln) 15 15 := fun {j u} h => by
        match j, h with
        | 0, h => exact ⟨l1, rfl, Option.some.inj h ▸ J1⟩
        | 1, h => exact ⟨l2, rfl, Option.some.inj h ▸ J2⟩
        | 2, h => exact ⟨l3, rfl, Option.some.inj h ▸ J3⟩
        | j + 3, h => cases h
      refine lc_it walk_list (fun j H' => Same H31 H' ∧ ∃ ws, H' FD4 = some (.lst ws) ∧ Prs (fun w u H => ∃ ln, JAt K H w (jointOf ln) 15 15 ∧ JAt K H u (jointOf ln) 15 15 ∧ ∀ a b, w = .ref a → u = .ref b → a ≠ b) ws ([u1, u2, u3].take j) H' ∧ ws.length ≤ j) ⟨Ext.upd hFD4, [], upd_same, Prs.nil, Nat.le_refl _⟩ (fun j H' _ z => SqL.of (z.1 _ _ hT4')) (fun j x H32 H33 hj z y => ?_) (fun H32 z => ?_)
      · obtain ⟨zs32, ws, hw32, pr32, hwl⟩ := z
        obtain ⟨rfl, hy⟩ := y
        obtain ⟨p, ln, rfl, hln, hL, hll⟩ := three hy
        have hj3 : j < 3 := hj
        refine ⟨rfl, _, rfl, p, ln, 15, 15, rfl, hL.same (e7z.trans (eT4.trans zs32)), hll, by decide, fun n => Nat.le_trans (own_len n ln) hll, by decide, fun H34 r e34 J fr => ?_⟩
        have hw34 := e34 _ _ hw32
        have nl : NoL H34 (upd H34 FD4 (.lst (ws ++ [r]))) := NoL.put hw34
        refine ⟨ws, hw34, by rw [sizeLine_eq]; omega, Same.put (zs32.trans e34) hFD4, ws ++ [r], upd_same, ?_, by rw [List.length_append]; exact Nat.succ_le_succ hwl⟩
        have hju : ∃ u, [u1, u2, u3][j]? = some u := ⟨_, List.getElem?_eq_getElem (show j < [u1, u2, u3].length from hj3)⟩
        obtain ⟨u, hu⟩ := hju
        obtain ⟨ln', hln', Ju⟩ := J123 hu
        rw [hln] at hln'
        obtain rfl := Option.some.inj hln'
        rw [take_snoc hu]
        refine ⟨by rw [List.length_append, List.length_append, pr32.1]; rfl, fun i x y hx hy' => ?_⟩
        have Ju34 := Ju.same (e9z.trans (eT4.trans (zs32.trans e34)))
        by_cases q : i < ws.length
        · rw [List.getElem?_append_left q] at hx
          rw [List.getElem?_append_left (by rw [← pr32.1]; exact q)] at hy'
          obtain ⟨lnn, a1, a2, a3⟩ := pr32.2 i x y hx hy'
          exact ⟨lnn, (a1.same e34).nol nl, (a2.same e34).nol nl, a3⟩
        · rw [List.getElem?_append_right (by omega)] at hx
          rw [List.getElem?_append_right (by rw [← pr32.1]; omega)] at hy'
          rw [← pr32.1] at hy'
          have i0 : i - ws.length = 0 := by
            cases hq : i - ws.length with
            | zero => rfl
            | succ k => rw [hq] at hx; cases hx
          rw [i0] at hx hy'
          obtain rfl := Option.some.inj hx
          obtain rfl := Option.some.inj hy'
          exact ⟨ln, J.nol nl, Ju34.nol nl, fun a b ea eb e => neF (Ju.same (e9z.trans (eT4.trans zs32))) fr b a eb ea e.symm⟩
      obtain ⟨zs32, ws, hw32, pr32, hwl⟩ := z
      have e9y := e9z.trans (eT4.trans zs32)
      refine ⟨_, rfl, ⟨FD4, FD, ws, [u1, u2, u3], rfl, rfl, hw32, e9y _ _ hF9, pr32.1, fun i x y hx hy' => ?_⟩, fun H35 e35 => ⟨_, rfl, iteF ?_⟩⟩
      · obtain ⟨lnn, a1, a2, a3⟩ := pr32.2 i x y hx hy'
        exact j_eq a1 a2 a3
      have e9x := e9y.trans e35
      have e7x := e79.trans e9x
      have stx := st7.same e7x
      have xx := x7.trans (Sx.of (s := s) e7x)
      have nFD := (st7.same eT).free hFD
      have hFx := e9x _ _ hF9
      have N7s := hn6.same xx
      have A7s := ha6.same xx
      have al0 : ∀ {H' : Hp}, Sx s H35 H' → H' al = some (.lst (zs.map V.str)) := fun x => (A7s.same x).up.1
      obtain ⟨zl2, _, znd, zLet⟩ := A7s.2
      obtain ⟨b, hb0⟩ : ∃ b, zs[0]? = some b := ⟨_, List.getElem?_eq_getElem (by omega)⟩
      have hLb : Let b := zLet b (List.mem_of_getElem? hb0)
      have at0 : atI (zs.map V.str) 0 = some (V.str b) := atI_nat (show (zs.map V.str)[0]? = some (V.str b) by rw [List.getElem?_map, hb0]; rfl)
      obtain ⟨m1, m2, m3, m4⟩ := N7s.2
      -- places
      intro PP hPP
      have nPP := stx.free hPP
      refine ⟨_, rfl, nm, rfl, ⟨_, SqL.of (N7s.same ((Sx.refl H35).put (o := .dK []) hPP)).up.1⟩, for_it walk_list (fun j σ H' => (∃ c5 c9 c13 c14, σ = [some (.ref a), some (.int (0 + (i : Int))), some (.ref s), some (.ref al), some (.ref nm), c5, some (.ref p1), some (.ref p2), some (.ref p3), c9, some (.ref FD), some wh, some (.ref PP), c13, c14]) ∧ StrAt H' s ∧ Sx s H35 H' ∧
          ∃ (F : PStr → Option PlS) (kvs : List (Key × V)), H' PP = some (.dK kvs) ∧ (kvs.map (·.1)).Nodup ∧ kvs.length ≤ j ∧ (∀ p ∈ kvs, ∃ n v q, p = (Sum.inr n, v) ∧ F n = some q ∧ PlAt K (del0 (del0 H' s) PP) v b q.1 q.2 7 ∧ Wrd n) ∧ (∀ n, (F n).isSome = true → ∃ v, (Sum.inr n, v) ∈ kvs) ∧ ∀ n, n ∈ nms.take j ↔ (F n).isSome = true)
        ⟨⟨_, _, _, _, rfl⟩, stx.upd nPP, (Sx.refl H35).put hPP, fun _ => none, [], upd_same, .nil, Nat.le_refl _, (fun _ h => (by cases h)), (fun _ h => (by cases h)), fun n => ⟨fun h => (by rw [List.take_zero] at h; cases h), fun h => (by cases h)⟩⟩
        (fun j σ H' _ z => SqL.of (N7s.same z.2.2.1).up.1) (fun j x σ H36 H36' hj z y => ?_) (fun σ H36 z => ?_)⟩
      · obtain ⟨⟨c5, c9, c13, c14, rfl⟩, st36, x36, F, kvs, hP36, knd, klen, ksh, kal, kF⟩ := z
        obtain ⟨rfl, hy⟩ := y
        rw [List.getElem?_map] at hy
        obtain ⟨n, hn', e⟩ := Option.map_eq_some_iff.mp hy
        subst e
        have hj3 : j < 3 := by
          have : j < (nms.map V.str).length := hj
          rw [List.length_map] at this
          omega
        refine ⟨_, rfl, _, rfl, _, rfl, al, _, _, _, rfl, rfl, SqL.of (al0 x36), at0, s, al, zs, b, rfl, st36, A7s.same x36, fun H37 dsp kv f st37 x37 fr37 hd37 L hb37 => ?_⟩
        have x3637 := x36.trans x37
        refine ⟨_, rfl, al, _, _, _, rfl, rfl, SqL.of (al0 x3637), at0, _, rfl, rfl, rfl, fun x dx hx hdx hne => ⟨H37, x, dx, b, dsp, kv, f, 7, rfl, ⟨hx, hdx, hne, rfl⟩, hd37, L, by decide, hLb, fun H38 e38 tp => ⟨rfl, ?_⟩⟩⟩
        have st38 := st37.same e38
        refine ⟨_, rfl, _, _, rfl, st38, by decide, by decide, fun H39 r st39 x39 r0 r1 => ⟨_, _, rfl, rfl, by rw [sizeLine_eq]; exact (by decide : 2 ≤ 16777216), fun t ht => ?_⟩⟩
        have x3739 : Sx s H37 H39 := (Sx.of e38).trans x39
        have st40 := (st39.new ht (.tup [.ref x, .int (r - 2)])).1
        have x3740 := x3739.trans (st39.new ht (.tup [.ref x, .int (r - 2)])).2
        have x3640 := x37.trans x3740
        have hP37 := x37.at nPP hP36
        have hP40 := x3640.at nPP hP36
        have hP39 := x3739.at nPP hP37
        have tP : t ≠ PP := fun z => by rw [z, hP39] at ht; cases ht
        have ts := st39.free ht
        let G : PStr → Option PlS := fun n' => if n' = n then some ((fun i => (f i).getD b), r - 2) else F n'
        have gN : ∀ {n'}, n' ≠ n → G n' = F n' := fun h => if_neg h
        have gS : G n = some ((fun i => (f i).getD b), r - 2) := if_pos rfl
        refine ⟨_, rfl, _, rfl, PP, _, rfl, DPut.k (k := Sum.inr n) hP40 (by rw [sizeLine_eq]; omega), ⟨_, _, _, _, rfl⟩, st40.upd nPP, (x36.trans x3640).put hPP, G, putK kvs (Sum.inr n) (.ref t), upd_same, nd_put knd, ?_, fun q hq => ?_, fun n' h => ?_, fun n' => ?_⟩
        · exact Nat.le_trans (length_putK ..) (Nat.succ_le_succ klen)
        · have vn : valV kvs (Sum.inr n) = none := by
            cases hv : valV kvs (Sum.inr n) with
            | none => rfl
            | some v =>
              obtain ⟨n2, v2, q2, e2, hF2, _⟩ := ksh _ (valV_mem hv)
              cases e2
              exact absurd ((kF n).mpr (by rw [hF2]; rfl)) (not_take m3 hn')
          rw [putK_new _ vn] at hq
          rcases List.mem_append.mp hq with h | h
          · obtain ⟨n2, v2, q2, e2, hF2, pl, hw⟩ := ksh q h
            have ne : n2 ≠ n := fun z => by
              rw [e2] at h
              rw [← z, valV_of_mem knd h] at vn
              cases vn
            refine ⟨n2, v2, q2, e2, (gN ne).trans hF2, pl.same fun y o e => ?_, hw⟩
            by_cases yP : y = PP
            · subst yP; rw [del0_at] at e; cases e
            · rw [del0_ne yP] at e ⊢
              by_cases ys : y = s
              · subst ys; rw [del0_at] at e; cases e
              · rw [del0_ne ys] at e ⊢
                rw [upd_ne yP]
                exact x3640.at ys e
          · rw [List.mem_singleton.mp h]
            refine ⟨n, _, _, rfl, gS, ⟨t, _, rfl, by rw [del0_ne tP, del0_ne ts, upd_ne tP]; exact upd_same, tp.same fun y o e => ?_⟩, m4 n (List.mem_of_getElem? hn')⟩
            cases hq : H37 y with
            | some u =>
              unfold dif at e
              rw [hq] at e
              cases e
            | none =>
              rw [dif_at hq] at e
              have yP : y ≠ PP := fun z => by rw [z, hP37] at hq; cases hq
              have ys := st37.free hq
              have e39 := x39.at ys e
              have yt : y ≠ t := fun z => by rw [z, ht] at e39; cases e39
              rw [del0_ne yP, del0_ne ys, upd_ne yP, upd_ne yt]
              exact e39
        · by_cases q : n' = n
          · subst q
            have : (Sum.inr n' : Key) ∈ (putK kvs (Sum.inr n') (.ref t)).map (·.1) := mem_keys_put.mpr (.inr rfl)
            obtain ⟨⟨k', u⟩, hu, ek⟩ := List.mem_map.mp this
            have ek' : k' = Sum.inr n' := ek
            subst ek'
            exact ⟨u, hu⟩
          · rw [gN q] at h
            obtain ⟨v, hv⟩ := kal n' h
            have : (Sum.inr n' : Key) ∈ (putK kvs (Sum.inr n) (.ref t)).map (·.1) := mem_keys_put.mpr (.inl (List.mem_map.mpr ⟨_, hv, rfl⟩))
            obtain ⟨⟨k', u⟩, hu, ek⟩ := List.mem_map.mp this
            have ek' : k' = Sum.inr n' := ek
            subst ek'
            exact ⟨u, hu⟩
        · rw [take_snoc hn']
          by_cases q : n' = n
          · subst q
            exact ⟨fun _ => (by rw [gS]; rfl), fun _ => List.mem_append_right _ (List.mem_singleton.mpr rfl)⟩
          · rw [gN q]
            refine ⟨fun h => ?_, fun h => List.mem_append_left _ ((kF n').mpr h)⟩
            rcases List.mem_append.mp h with h | h
            · exact (kF n').mp h
            · exact absurd (List.mem_singleton.mp h) q
      · obtain ⟨⟨c5, c9, c13, c14, rfl⟩, st36, x36, F, kvs, hP36, knd, klen, ksh, kal, kF⟩ := z
        rw [List.length_map, List.take_length] at kF
        rw [List.length_map] at klen
        have PA : PlsAt K H36 PP b F 7 3 := ⟨kvs, hP36, knd, by omega, fun p hp => let ⟨n, v, q, e, hF, pl, hw⟩ := ksh p hp; ⟨n, v, q, e, hF, pl.same (del0_le.trans del0_le), hw⟩, kal⟩
        have x736 : Sx s H7 H36 := (Sx.of e7x).trans x36
        have nl9 : NoL H9 H36 := (NoL.of e9x).trans (x36.nol stx)
        have hF36 := x36.at nFD hFx
        have LA1 : LineAt K H36 p1 l1 := ((q1.1.same del0_le).same x736).same del0_le
        have LA2 : LineAt K H36 p2 l2 := ((q2.1.same del0_le).same x736).same del0_le
        have NA := (N7s.same x36).up
        refine ⟨_, rfl, _, rfl, _, rfl, _, rfl, FD, _, _, _, rfl, rfl, SqL.of hF36, rfl, p1, nm, PP, u1, l1, nms, b, F, 7, 3, 15, rfl, LA1, NA, PA, kF, q1.2.2, q11, by decide, by decide, J1.nol nl9, fun H43 e43 => ⟨true, rfl, iteF ?_⟩⟩
        refine ⟨_, rfl, _, rfl, _, rfl, _, rfl, FD, _, _, _, rfl, rfl, SqL.of (e43 _ _ hF36), rfl, p2, nm, PP, u2, l2, nms, b, F, 7, 3, 15, rfl, LA2.same e43, NA.same e43, PA.nol (NoL.of e43), kF, q2.2.2, q21, by decide, by decide, (J2.nol nl9).same e43, fun H44 e44 => ⟨true, rfl, iteF ?_⟩⟩
        refine ⟨⟨_, _, _, _, _, _, _, _, _, _, _, _, _, _, rfl⟩, e2.trans fun y o e => ?_⟩
        have ys : y ≠ s := fun z => by rw [z, s0] at e; cases e
        exact e44 _ _ (e43 _ _ (x36.at ys ((Sx.of (s := s) e7x).at ys (x7.at ys (x6.at ys (x5.at ys (e4 _ _ e)))))))
end
end TX
end
section
set_option autoImplicit false
set_option maxHeartbeats 4000000
/-! What the head tells: facts of the written part, as Bools and data. -/
namespace TX
open PySem PySem.W PySem.Calls PyProof.Rows L2 He
theorem cell_of {K : Frag} {file : PySem.Str} {fI C : Addr} {ar : Arguments} {bo : List Stmt} {sc : Scope} (e : exW K fI = expE ar bo sc) (c : cellB K file fI C = true) :
    ∃ cc cl cld csl, K.lookup cc = some ⟨cl, cld, .cell (some (.ref C)), csl⟩ ∧ ∃ (oc : Value) (od : Option Addr) (doc pm : Value) (an : Option Addr) (cda : Addr) (ct : Value) (osl : Array (Option Value)) (qual : PySem.Str),
      K.lookup fI = some ⟨oc, od, .func (ksFn "__init__" qual ar bo sc .none .none doc pm an (.ref cda) ct cc), osl⟩ ∧ codeIn K (.ref cda) qual = true ∧
      ∃ ccl cdd vs ccs fl tf, K.lookup cda = some ⟨ccl, cdd, .fields vs, ccs⟩ ∧ vs[2]? = some (.str fl tf) ∧ (file == fl) = true := by
  unfold exW at e
  unfold cellB at c
  cases q : K.lookup fI with
  | none =>
    rw [q] at c
    cases c
  | some o =>
    obtain ⟨oc, od, dt, osl⟩ := o
    rw [q] at c e
    cases dt with
    | func fd =>
      obtain ⟨n1, n2, n3, n4, n5, n6, n7, n8, n9, n10, n11, n12, n13, n14, n15⟩ := fd
      have e2 : (some (n1, n3, n4, n5, n6, n7.map (·.1), n8, n9, n15) : ExD) = expE ar bo sc := e
      unfold expE at e2
      simp only [Option.some.injEq, Prod.mk.injEq] at e2
      obtain ⟨h1, h2, h3, h4, h5, h6, h7, h8, h9⟩ := e2
      subst h1 h2 h3 h4 h5 h7 h8 h9
      obtain ⟨c1, c2⟩ := ba c
      match n7, h6, c1 with
      | [(z, cc)], h6, c1 =>
        obtain rfl : z = "__class__" := (List.cons.inj h6).1
        have c1' : (match K.lookup cc with
          | some ⟨_, _, .cell (some (.ref c)), _⟩ => decide (c = C)
          | _ => false) = true := c1
        split at c1'
        · rename_i cl cld c0 csl hcc
          obtain rfl := of_decide_eq_true c1'
          cases n13 with
          | ref cda =>
            obtain ⟨c3, c4⟩ := ba (show (codeIn K (.ref cda) n2 && (match K.lookup cda with
              | some ⟨_, _, .fields vs, _⟩ => (match (vs[2]? : Option Value) with
                | some (Value.str fl _) => file == fl
                | _ => false)
              | _ => false)) = true from c2)
            split at c4
            · rename_i ccl cdd vs ccs hcd
              split at c4
              · rename_i fl tf hv
                exact ⟨cc, cl, cld, csl, hcc, oc, od, n10, n11, n12, cda, n14, osl, n2, rfl, c3, ccl, cdd, vs, ccs, fl, tf, hcd, hv, c4⟩
              · cases c4
            · cases c4
          | _ => cases c2
        · cases c1'
    | _ => cases c
theorem exc_of {P : Program} {K : Frag} {mg : PySem.Str → Option Value} {x f : PySem.Str} {B newId initId : String} {bmB : List Value} {ar : Arguments} {bo : List Stmt} {sc : Scope} (c : excB K P.main.file x f B newId initId bmB = true) (e : exW K (ma K (ga K x) "__init__") = expE ar bo sc)
    (gC : mg x = some (.ref (ga K x))) (sup : mg "super" = none) (top : (P.main.scope.names.lookup ("super" : PySem.Str)).isSome = false) :
    TXE.ExcT P K mg x f ar bo sc B newId initId bmB (ga K x) (ma K (ga K x) "__init__") ∧ exmOne K (.ref (ga K x)) (.ref (ga K x)) = some true := by
  obtain ⟨h1, c⟩ := ba c
  obtain ⟨h2, c⟩ := ba c
  obtain ⟨h3, c⟩ := ba c
  obtain ⟨h4, c⟩ := ba c
  obtain ⟨h5, c⟩ := ba c
  obtain ⟨h6, c⟩ := ba c
  obtain ⟨h7, c⟩ := ba c
  obtain ⟨h8, c⟩ := ba c
  obtain ⟨h9, c⟩ := ba c
  obtain ⟨h10, c⟩ := ba c
  obtain ⟨h11, c⟩ := ba c
  obtain ⟨h12, c⟩ := ba c
  obtain ⟨h13, c⟩ := ba c
  obtain ⟨h14, c⟩ := ba c
  obtain ⟨h15, h16⟩ := ba c
  exact ⟨⟨gC, h1, h2, of_decide_eq_true h3, h4, eqO_ok h5, eqO_ok h6, of_decide_eq_true h7, h8, of_decide_eq_true h9, of_decide_eq_true h10, of_decide_eq_true h11, of_decide_eq_true h12, eqO_ok h13, eqO_ok h14, sup, top, cell_of e h15⟩, of_decide_eq_true h16⟩
theorem prop_of {K : Frag} {C : Addr} {f : PySem.Str} (c : propB K C f = true) : PropOf K C f (ma K C f) (He5.wf K C "property" f) := by
  obtain ⟨h1, c⟩ := ba c
  obtain ⟨h2, c⟩ := ba c
  obtain ⟨h3, h4⟩ := ba c
  refine ⟨eqO_ok h1, eqO_ok h2, of_decide_eq_true h3, ?_⟩
  unfold He5.wf
  split at h4
  · rename_i g r e
    exact ⟨r, by rw [e]⟩
  · cases h4
theorem cread_of' {K : Frag} {C : Addr} (h : readsIn K C (.type "type") = true) : ClX.CRead K C (.type "type") := by
  refine ⟨h, ?_⟩
  unfold readsIn at h
  obtain ⟨h, _⟩ := ba h
  obtain ⟨h, _⟩ := ba h
  obtain ⟨h, h3⟩ := ba h
  obtain ⟨_, h2⟩ := ba h
  unfold specialIn
  rw [beq_iff_eq.mp h2, Option.bind_some]
  exact beq_iff_eq.mp h3
theorem txt_of {P : Program} {K : Frag} {h : Heap} {mg : PySem.Str → Option Value} (X : K.In h) (G : h.Ns mainGlobals mg) (c : SaysZ P.main.file K) (top : (P.main.scope.names.lookup ("super" : PySem.Str)).isSome = false) : Txt P K mg := by
  have c1 : allB K P.main.file = true := congrArg (fun z : AlZ => z.1) c
  have c2 : fns.map (fun d => He5.fnA K (d.at_ K)) = fns.map He5.DefA.val := congrArg (fun z : AlZ => z.2.1) c
  have c3 : [exW K (ma K (ga K "StepFailed") "__init__"), exW K (ma K (ga K "NotApplicable") "__init__")] = [hdExpS, hdExpN] := congrArg (fun z : AlZ => z.2.2) c
  obtain ⟨h1, c1⟩ := ba c1
  obtain ⟨h2, c1⟩ := ba c1
  obtain ⟨h3, c1⟩ := ba c1
  obtain ⟨h4, c1⟩ := ba c1
  obtain ⟨h5, c1⟩ := ba c1
  obtain ⟨h6, c1⟩ := ba c1
  obtain ⟨h7, c1⟩ := ba c1
  obtain ⟨h8, c1⟩ := ba c1
  obtain ⟨h9, c1⟩ := ba c1
  obtain ⟨h10, c1⟩ := ba c1
  obtain ⟨h11, c1⟩ := ba c1
  obtain ⟨h12, c1⟩ := ba c1
  obtain ⟨h13, c1⟩ := ba c1
  obtain ⟨h14, h15⟩ := ba c1
  have glo : ∀ x ∈ glos, mg x = some (.ref (ga K x)) := fun x hx => glo_ok X G (ba (List.all_eq_true.mp h1 x hx)).1
  have fre : ∀ x ∈ frees, mg x = none := fun x hx => free_ok X G (List.all_eq_true.mp h2 x hx)
  have sS := exc_of (P := P) h13 (List.cons.inj c3).1 (glo "StepFailed" (by decide +kernel)) (fre "super" (by decide +kernel)) top
  have sN := exc_of (P := P) h14 (List.cons.inj (List.cons.inj c3).2).1 (glo "NotApplicable" (by decide +kernel)) (fre "super" (by decide +kernel)) top
  refine ⟨glo, fun x hx => (ba (List.all_eq_true.mp h1 x hx)).2, fre, fun x hx => cls_ok (ba (List.all_eq_true.mp h3 x hx)).1, fun x hx => mkr_ok (ba (List.all_eq_true.mp h3 x hx)).2, fun p hp => meth_ok (List.all_eq_true.mp h4 p hp), fun p hp => noat_ok (List.all_eq_true.mp h5 p hp), fun i d hi => ?_,
    str_ok X G h6, int_ok X G h7, fun x hx => ?_, fun x hx => ?_, fun f hf => prop_of (List.all_eq_true.mp h9 f hf), cread_of' h10, He5.cmet_of h11 h12, sS.1, sN.1, sS.2, sN.2⟩
  · have e2 : (fns.map fun d => He5.fnA K (d.at_ K))[i]? = (fns.map He5.DefA.val)[i]? := by rw [c2]
    rw [List.getElem?_map, List.getElem?_map, hi] at e2
    exact He5.DefA.funD (Option.some.inj e2) (List.all_eq_true.mp h15 d (List.mem_of_getElem? hi))
  · have k := List.all_eq_true.mp h8 x hx
    obtain ⟨k1, k⟩ := ba k
    obtain ⟨k2, k⟩ := ba k
    obtain ⟨k3, k⟩ := ba k
    obtain ⟨k4, k⟩ := ba k
    obtain ⟨k5, k⟩ := ba k
    have hc : x ∈ clss := by
      have : ∀ x ∈ eqcs, x ∈ clss := by decide +kernel
      exact this x hx
    exact ⟨cls_ok (ba (List.all_eq_true.mp h3 x hc)).1, eqO_ok k1, eqO_ok k2, of_decide_eq_true k3, of_decide_eq_true k4, of_decide_eq_true k5⟩
  · have k := List.all_eq_true.mp h8 x hx
    obtain ⟨k1, k⟩ := ba k
    obtain ⟨k2, k⟩ := ba k
    obtain ⟨k3, k⟩ := ba k
    obtain ⟨k4, k⟩ := ba k
    obtain ⟨k5, k⟩ := ba k
    obtain ⟨k6, k⟩ := ba k
    obtain ⟨k7, k8⟩ := ba k
    exact ⟨eqO_ok k6, k7, of_decide_eq_true k4, eqO_ok k8⟩
end TX
end
section
set_option maxHeartbeats 0
/-! The end. -/
namespace TX
open PySem PySem.Spec PyProof.Rows L2 He
theorem walk_ofEB {l : PySem.W.OpenLaw} {n k : Nat} {q : Program} {loose : List PySem.Str} {XP : (PySem.Str → Option Value) → Heap → Prop} {YP : World → Heap → Prop} {d : DefRec} {CX : World → CXT} {x : PySem.Str}
    (hn : l.most = some n) (hn2 : n ≤ sizeLine) (hdf : d.params.defaults = []) (hr : Room k callerA)
    (F : ∀ (w : World) (mg : PySem.Str → Option Value) (fa : Addr) (h : Heap), YP w h → h.Ns mainGlobals mg → mg d.name = some (.ref fa) →
      ∃ (K : PySem.W.Frag) (fd : FuncData) (sp : Sp), K.In h ∧ (∀ (s : Shared) (u : Value), BindsTo s fd ⟨[u], []⟩ [(x, u)]) ∧
        (∀ (H : Hp) (a : Addr) (ns : List Int), ns.length ≤ n → (∀ z ∈ ns, Builtin.Int.intBits z ≤ 1048576) → Only H → SqL K H a (ns.map V.int) → sp [.ref a] H (fun v _ => v = .bl true) fun _ _ _ => False) ∧
        ∀ base : Heap, K.In base → base.Ns mainGlobals mg → FnOk l.prog w K mg base (CX w) k fa fd [x] sp)
    (hCX : ∀ (w : World) (H : Hp) (s : Shared) (e : Value) (s' : Shared), CX w [] H s (fun _ _ _ => False) e s' → False) :
    PySem.W.WalkO q loose XP YP l.row.toRowW d [] (fun f vs => PySem.call f vs) := by
  refine Att.attach_callB hn hdf fun w s₀ s₁ mg mb fa o pm cd doc a vs ns G Y ho hd hcd hmg hobj hints hlen hbits hg => ?_
  obtain ⟨K, fd, sp, KX, hb, hsp, hF⟩ := F w mg fa _ Y G.T.g hmg
  exact law_call KX G.T.g G.T.b G.T.builtins G.T.nolimit hg hobj hints (Nat.le_trans hlen hn2) hr hF hb (fun H hO hS => hsp H a ns hlen hbits hO hS) fun H e s' => hCX w H s₁ e s'
theorem law_fn {P : Program} {w : World} {K : PySem.W.Frag} {mg : PySem.Str → Option Value} (T : Txt P K mg) :
    ∃ fd : FuncData, (∀ (s : Shared) (v : Value), BindsTo s fd ⟨[v], []⟩ [("_law_script", v)]) ∧ ∀ base : Heap, FnOk P w K mg base (L2.CX P w) 10 (ga K "law") fd ["_law_script"] (spLaw K) := by
  obtain ⟨fd, F⟩ := T.fn 34 d60 rfl
  have e : d60.dvs K = [] := rfl
  rw [e] at F
  have b := FunD.bindsA (ps := ["_law_script"]) F fun _ _ _ _ _ _ us hl => match us, hl with | [_], _ => rfl
  refine ⟨fd, fun s v => b s [v] rfl, fun base => F.ok sc60 (fun vs H Q E h => ?_) fun cdv A outer s H vs Q E hr h => law_body T (d60.at_ K) cdv A outer s H vs Q E hr h⟩
  obtain ⟨a, ns, rfl, _⟩ := h
  rfl
end TX
open PySem PySem.W PySem.Calls PyProof.Rows
theorem PySem.Challenge.cw_tapeeffect_k63_whole_tapes_by_themselves_holds : PySem.Challenge.rw_tapeeffect_k63_whole_tapes_by_themselves.Holds := by
  w_on; o_law
  refine TX.hdHead ?_
  refine TX.walk_ofEB (l := PySem.Challenge.rw_tapeeffect_k63_whole_tapes_by_themselves) (n := 63) (k := 10) (x := "_law_script") (CX := fun w => L2.CX (PySem.Challenge.rw_tapeeffect_k63_whole_tapes_by_themselves).prog w) rfl (by decide) (by kernel_rfl) ⟨rfl, by decide, by decide⟩ ?F (fun _ _ _ _ _ z => by
    obtain ⟨_, _, _, _, _, _, _, _, _, _, _, _, z⟩ := z
    exact z)
  intro w mg fa h Y G hmg0
  obtain ⟨K, KX, c⟩ := Y
  have hmg : mg ("law" : PySem.Str) = some (.ref fa) := by
    have e : TX.hdDef.name = ("law" : PySem.Str) := by kernel_rfl
    rw [← e]
    exact hmg0
  have T : TX.Txt (PySem.Challenge.rw_tapeeffect_k63_whole_tapes_by_themselves).prog K mg := TX.txt_of KX G c (by kernel_rfl)
  have e := hmg.symm.trans (T.glo "law" (by decide +kernel))
  cases e
  obtain ⟨fd, hb, hF⟩ := TX.law_fn (w := w) T
  exact ⟨K, fd, TX.spLaw K, KX, hb, fun H a ns hl hbits _ hS => ⟨a, ns, rfl, hS, hbits, hl, fun _ => rfl⟩, fun base _ _ => hF base⟩
end
