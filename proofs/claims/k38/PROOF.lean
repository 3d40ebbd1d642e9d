import PyProof.Rows.All
import Wide.All
import OpenK.AllK
import Wide.FinOn
import KE.KStateDown
import HandS.ForMost
import HandS.Exc
import HandS.IsInst
import HandS.Defaults
import HandS.Property
import HandS.Codes
import HandS.Head0
import HandS.Head1
import HandS.Head2
import HandS.HeadEnd
import HandS.HeadHook1
import HandS.HeadHook2
import PySem.Challenge.RW_standsfor_k38_whole_lists_of_functions
import PySem.Str
import HandS.Walk
import HandS.GenYield
import PyProof.EnumMake
import PyProof.Draws
import HandS.TupAny
import HandS.DictComp
import HandS.Iter
import HandS.List
import HandS.Style
import HandS.Comp
set_option Elab.async false
set_option linter.all false
set_option maxRecDepth 100000
set_option maxHeartbeats 0
section
/-! K38T: the text by places, the facts of the top by names. Printed by gen_head.py. -/
namespace K38
open PySem PySem.Spec PyProof.Rows L2
def top (i : Nat) : Stmt := PySem.Challenge.pw_standsfor_k38_whole_lists_of_functions.main.body.getD i (.Pass ⟨0, 0, 0, 0⟩)
abbrev FnP (K : PySem.W.Frag) (x q : Str) (st : Stmt) (dvs : List V) (kws : List (Str × V)) (f : Addr) (fd : FuncData) : Prop := FunD K x q (defArgs st) (defBody st) (defScope st) dvs kws f fd

abbrev s_Part_init : Stmt := inClass (top 6) 0
def d_Part_init : He.DefD := ⟨("Part", some "__init__"), "__init__", "Part.__init__", defArgs s_Part_init, defBody s_Part_init, defScope s_Part_init, [.non, .non], []⟩
abbrev s_Frame_init : Stmt := inClass (top 7) 0
def d_Frame_init : He.DefD := ⟨("Frame", some "__init__"), "__init__", "Frame.__init__", defArgs s_Frame_init, defBody s_Frame_init, defScope s_Frame_init, [], []⟩
abbrev s_Scope_init : Stmt := inClass (top 9) 0
def d_Scope_init : He.DefD := ⟨("Scope", some "__init__"), "__init__", "Scope.__init__", defArgs s_Scope_init, defBody s_Scope_init, defScope s_Scope_init, [], []⟩
abbrev s_Scope_nearest : Stmt := inClass (top 9) 1
def d_Scope_nearest : He.DefD := ⟨("Scope", some "nearest"), "nearest", "Scope.nearest", defArgs s_Scope_nearest, defBody s_Scope_nearest, defScope s_Scope_nearest, [], []⟩
abbrev s_Function_init : Stmt := inClass (top 10) 0
def d_Function_init : He.DefD := ⟨("Function", some "__init__"), "__init__", "Function.__init__", defArgs s_Function_init, defBody s_Function_init, defScope s_Function_init, [], []⟩
abbrev s_text_of : Stmt := top 12
def d_text_of : He.DefD := ⟨("text_of", none), "text_of", "text_of", defArgs s_text_of, defBody s_text_of, defScope s_text_of, [], []⟩
abbrev s_Machine_init : Stmt := inClass (top 14) 0
def d_Machine_init : He.DefD := ⟨("Machine", some "__init__"), "__init__", "Machine.__init__", defArgs s_Machine_init, defBody s_Machine_init, defScope s_Machine_init, [], []⟩
abbrev s_Machine_step : Stmt := inClass (top 14) 1
def d_Machine_step : He.DefD := ⟨("Machine", some "step"), "step", "Machine.step", defArgs s_Machine_step, defBody s_Machine_step, defScope s_Machine_step, [], []⟩
abbrev s_Machine_stands : Stmt := inClass (top 14) 6
def d_Machine_stands : He.DefD := ⟨("Machine", some "stands"), "stands", "Machine.stands", defArgs s_Machine_stands, defBody s_Machine_stands, defScope s_Machine_stands, [], []⟩
abbrev s_Machine_go_on : Stmt := inClass (top 14) 7
def d_Machine_go_on : He.DefD := ⟨("Machine", some "go_on"), "go_on", "Machine.go_on", defArgs s_Machine_go_on, defBody s_Machine_go_on, defScope s_Machine_go_on, [], []⟩
abbrev s_Machine_further : Stmt := inClass (top 14) 8
def d_Machine_further : He.DefD := ⟨("Machine", some "further"), "further", "Machine.further", defArgs s_Machine_further, defBody s_Machine_further, defScope s_Machine_further, [], []⟩
abbrev s_Machine_behind : Stmt := inClass (top 14) 9
def d_Machine_behind : He.DefD := ⟨("Machine", some "behind"), "behind", "Machine.behind", defArgs s_Machine_behind, defBody s_Machine_behind, defScope s_Machine_behind, [], []⟩
abbrev s_Machine_leave : Stmt := inClass (top 14) 10
def d_Machine_leave : He.DefD := ⟨("Machine", some "leave"), "leave", "Machine.leave", defArgs s_Machine_leave, defBody s_Machine_leave, defScope s_Machine_leave, [], []⟩
abbrev s_Machine_begin : Stmt := inClass (top 14) 11
def d_Machine_begin : He.DefD := ⟨("Machine", some "begin"), "begin", "Machine.begin", defArgs s_Machine_begin, defBody s_Machine_begin, defScope s_Machine_begin, [], []⟩
abbrev s_Machine_choose : Stmt := inClass (top 14) 12
def d_Machine_choose : He.DefD := ⟨("Machine", some "choose"), "choose", "Machine.choose", defArgs s_Machine_choose, defBody s_Machine_choose, defScope s_Machine_choose, [], []⟩
abbrev s_Machine_right : Stmt := inClass (top 14) 13
def d_Machine_right : He.DefD := ⟨("Machine", some "right"), "right", "Machine.right", defArgs s_Machine_right, defBody s_Machine_right, defScope s_Machine_right, [], []⟩
abbrev s_Machine_finish : Stmt := inClass (top 14) 14
def d_Machine_finish : He.DefD := ⟨("Machine", some "finish"), "finish", "Machine.finish", defArgs s_Machine_finish, defBody s_Machine_finish, defScope s_Machine_finish, [], []⟩
abbrev s_Machine_call : Stmt := inClass (top 14) 15
def d_Machine_call : He.DefD := ⟨("Machine", some "call"), "call", "Machine.call", defArgs s_Machine_call, defBody s_Machine_call, defScope s_Machine_call, [], []⟩
abbrev s_Machine_enter_function : Stmt := inClass (top 14) 16
def d_Machine_enter_function : He.DefD := ⟨("Machine", some "enter_function"), "enter_function", "Machine.enter_function", defArgs s_Machine_enter_function, defBody s_Machine_enter_function, defScope s_Machine_enter_function, [], []⟩
abbrev s_Machine_enter : Stmt := inClass (top 14) 18
def d_Machine_enter : He.DefD := ⟨("Machine", some "enter"), "enter", "Machine.enter", defArgs s_Machine_enter, defBody s_Machine_enter, defScope s_Machine_enter, [], []⟩
abbrev s_Machine_simple : Stmt := inClass (top 14) 19
def d_Machine_simple : He.DefD := ⟨("Machine", some "simple"), "simple", "Machine.simple", defArgs s_Machine_simple, defBody s_Machine_simple, defScope s_Machine_simple, [], []⟩
abbrev s_Machine_holds : Stmt := inClass (top 14) 21
def d_Machine_holds : He.DefD := ⟨("Machine", some "holds"), "holds", "Machine.holds", defArgs s_Machine_holds, defBody s_Machine_holds, defScope s_Machine_holds, [], []⟩
abbrev s_is_name : Stmt := top 21
def d_is_name : He.DefD := ⟨("is_name", none), "is_name", "is_name", defArgs s_is_name, defBody s_is_name, defScope s_is_name, [], []⟩
abbrev s_are_names : Stmt := top 22
def d_are_names : He.DefD := ⟨("are_names", none), "are_names", "are_names", defArgs s_are_names, defBody s_are_names, defScope s_are_names, [], []⟩
abbrev s_head : Stmt := top 23
def d_head : He.DefD := ⟨("head", none), "head", "head", defArgs s_head, defBody s_head, defScope s_head, [], []⟩
abbrev s_Place_init : Stmt := inClass (top 24) 0
def d_Place_init : He.DefD := ⟨("Place", some "__init__"), "__init__", "Place.__init__", defArgs s_Place_init, defBody s_Place_init, defScope s_Place_init, [], []⟩
abbrev s_Place_within_function : Stmt := inClass (top 24) 1
def d_Place_within_function : He.DefD := ⟨("Place", some "within_function"), "within_function", "Place.within_function", defArgs s_Place_within_function, defBody s_Place_within_function, defScope s_Place_within_function, [], []⟩
abbrev s_is_simple : Stmt := top 25
def d_is_simple : He.DefD := ⟨("is_simple", none), "is_simple", "is_simple", defArgs s_is_simple, defBody s_is_simple, defScope s_is_simple, [], []⟩
abbrev s_are_things : Stmt := top 26
def d_are_things : He.DefD := ⟨("are_things", none), "are_things", "are_things", defArgs s_are_things, defBody s_are_things, defScope s_are_things, [], []⟩
abbrev s_is_right : Stmt := top 27
def d_is_right : He.DefD := ⟨("is_right", none), "is_right", "is_right", defArgs s_is_right, defBody s_is_right, defScope s_is_right, [], []⟩
abbrev s_is_test : Stmt := top 28
def d_is_test : He.DefD := ⟨("is_test", none), "is_test", "is_test", defArgs s_is_test, defBody s_is_test, defScope s_is_test, [.int 3], []⟩
abbrev s_is_short : Stmt := top 29
def d_is_short : He.DefD := ⟨("is_short", none), "is_short", "is_short", defArgs s_is_short, defBody s_is_short, defScope s_is_short, [], []⟩
abbrev s_is_statement : Stmt := top 30
def d_is_statement : He.DefD := ⟨("is_statement", none), "is_statement", "is_statement", defArgs s_is_statement, defBody s_is_statement, defScope s_is_statement, [], []⟩
abbrev s_is_block : Stmt := top 31
def d_is_block : He.DefD := ⟨("is_block", none), "is_block", "is_block", defArgs s_is_block, defBody s_is_block, defScope s_is_block, [], []⟩
abbrev s_are_outlines : Stmt := top 41
def d_are_outlines : He.DefD := ⟨("are_outlines", none), "are_outlines", "are_outlines", defArgs s_are_outlines, defBody s_are_outlines, defScope s_are_outlines, [], []⟩
abbrev s_copied_classes : Stmt := top 44
def d_copied_classes : He.DefD := ⟨("copied_classes", none), "copied_classes", "copied_classes", defArgs s_copied_classes, defBody s_copied_classes, defScope s_copied_classes, [], []⟩
abbrev s_bad_part : Stmt := top 46
def d_bad_part : He.DefD := ⟨("bad_part", none), "bad_part", "bad_part", defArgs s_bad_part, defBody s_bad_part, defScope s_bad_part, [], []⟩
abbrev s_Program_init : Stmt := inClass (top 47) 0
def d_Program_init : He.DefD := ⟨("Program", some "__init__"), "__init__", "Program.__init__", defArgs s_Program_init, defBody s_Program_init, defScope s_Program_init, [], []⟩
abbrev s_Program_classes : Stmt := inClass (top 47) 1
abbrev s_run : Stmt := top 51
def d_run : He.DefD := ⟨("run", none), "run", "run", defArgs s_run, defBody s_run, defScope s_run, [], [("most", .int 20000)]⟩
abbrev s_is_run : Stmt := top 52
def d_is_run : He.DefD := ⟨("is_run", none), "is_run", "is_run", defArgs s_is_run, defBody s_is_run, defScope s_is_run, [], []⟩
abbrev s_law_draw : Stmt := top 54
def d_law_draw : He.DefD := ⟨("_law_draw", none), "_law_draw", "_law_draw", defArgs s_law_draw, defBody s_law_draw, defScope s_law_draw, [], []⟩
abbrev s_law_names : Stmt := top 55
def d_law_names : He.DefD := ⟨("_law_names", none), "_law_names", "_law_names", defArgs s_law_names, defBody s_law_names, defScope s_law_names, [], []⟩
abbrev s_law_called : Stmt := top 56
def d_law_called : He.DefD := ⟨("_law_called", none), "_law_called", "_law_called", defArgs s_law_called, defBody s_law_called, defScope s_law_called, [], []⟩
abbrev s_law_is_none : Stmt := top 57
def d_law_is_none : He.DefD := ⟨("_law_is_none", none), "_law_is_none", "_law_is_none", defArgs s_law_is_none, defBody s_law_is_none, defScope s_law_is_none, [], []⟩
abbrev s_law_picker : Stmt := top 58
def d_law_picker : He.DefD := ⟨("_law_picker", none), "_law_picker", "_law_picker", defArgs s_law_picker, defBody s_law_picker, defScope s_law_picker, [], []⟩
abbrev s_law_loop : Stmt := top 59
def d_law_loop : He.DefD := ⟨("_law_loop", none), "_law_loop", "_law_loop", defArgs s_law_loop, defBody s_law_loop, defScope s_law_loop, [], []⟩
abbrev s_law_defs : Stmt := top 60
def d_law_defs : He.DefD := ⟨("_law_defs", none), "_law_defs", "_law_defs", defArgs s_law_defs, defBody s_law_defs, defScope s_law_defs, [], []⟩
abbrev s_law_text : Stmt := top 61
def d_law_text : He.DefD := ⟨("_law_text", none), "_law_text", "_law_text", defArgs s_law_text, defBody s_law_text, defScope s_law_text, [], []⟩
abbrev s_law_look : Stmt := top 62
def d_law_look : He.DefD := ⟨("_law_look", none), "_law_look", "_law_look", defArgs s_law_look, defBody s_law_look, defScope s_law_look, [], []⟩
abbrev s_law_change : Stmt := top 63
def d_law_change : He.DefD := ⟨("_law_change", none), "_law_change", "_law_change", defArgs s_law_change, defBody s_law_change, defScope s_law_change, [], []⟩
abbrev s_law : Stmt := top 64
def d_law : He.DefD := ⟨("law", none), "law", "law", defArgs s_law, defBody s_law, defScope s_law, [], []⟩
def fn : List He.DefD := [d_Part_init, d_Frame_init, d_Scope_init, d_Scope_nearest, d_Function_init, d_text_of, d_Machine_init, d_Machine_step, d_Machine_stands, d_Machine_go_on, d_Machine_further, d_Machine_behind, d_Machine_leave, d_Machine_begin, d_Machine_choose, d_Machine_right, d_Machine_finish, d_Machine_call, d_Machine_enter_function, d_Machine_enter, d_Machine_simple, d_Machine_holds, d_is_name, d_are_names, d_head, d_Place_init, d_Place_within_function, d_is_simple, d_are_things, d_is_right, d_is_test, d_is_short, d_is_statement, d_is_block, d_are_outlines, d_copied_classes, d_bad_part, d_Program_init, d_run, d_is_run, d_law_draw, d_law_names, d_law_called, d_law_is_none, d_law_picker, d_law_loop, d_law_defs, d_law_text, d_law_look, d_law_change, d_law]
def fa : List He.Fa := [
  .glo "Part",
  .cls "Part",
  .mkr "Part",
  .noat "Part" "kind",
  .noat "Part" "rows",
  .noat "Part" "place",
  .noat "Part" "statement",
  .noat "Part" "outcome",
  .glo "Frame",
  .cls "Frame",
  .mkr "Frame",
  .noat "Frame" "scope",
  .noat "Frame" "me",
  .noat "Frame" "owner",
  .noat "Frame" "parts",
  .noat "Frame" "pending",
  .glo "Scope",
  .cls "Scope",
  .mkr "Scope",
  .noat "Scope" "outer",
  .noat "Scope" "held",
  .glo "Function",
  .cls "Function",
  .mkr "Function",
  .noat "Function" "params",
  .noat "Function" "block",
  .noat "Function" "scope",
  .noat "Function" "me",
  .noat "Function" "owner",
  .glo "Machine",
  .cls "Machine",
  .mkr "Machine",
  .noat "Machine" "kinds",
  .noat "Machine" "ground",
  .noat "Machine" "stack",
  .noat "Machine" "printed",
  .noat "Machine" "ending",
  .noat "Machine" "deepest",
  .glo "Place",
  .cls "Place",
  .mkr "Place",
  .noat "Place" "fields",
  .noat "Place" "has_parent",
  .noat "Place" "known",
  .noat "Place" "may_return",
  .glo "Program",
  .cls "Program",
  .mkr "Program",
  .noat "Program" "held",
  .noat "Program" "body",
  .meth "Scope" "nearest",
  .glo "text_of",
  .meth "Machine" "step",
  .meth "Machine" "stands",
  .meth "Machine" "go_on",
  .meth "Machine" "further",
  .meth "Machine" "behind",
  .meth "Machine" "leave",
  .meth "Machine" "begin",
  .meth "Machine" "choose",
  .meth "Machine" "right",
  .meth "Machine" "finish",
  .meth "Machine" "call",
  .meth "Machine" "enter_function",
  .meth "Machine" "enter",
  .meth "Machine" "simple",
  .meth "Machine" "holds",
  .glo "is_name",
  .glo "are_names",
  .glo "head",
  .meth "Place" "within_function",
  .glo "is_simple",
  .glo "are_things",
  .glo "is_right",
  .glo "is_test",
  .glo "is_short",
  .glo "is_statement",
  .glo "is_block",
  .glo "are_outlines",
  .glo "copied_classes",
  .glo "bad_part",
  .glo "run",
  .glo "is_run",
  .glo "_law_draw",
  .glo "_law_names",
  .glo "_law_called",
  .glo "_law_is_none",
  .glo "_law_picker",
  .glo "_law_loop",
  .glo "_law_defs",
  .glo "_law_text",
  .glo "_law_look",
  .glo "_law_change",
  .glo "law",
  .free "len",
  .free "isinstance",
  .free "range",
  .free "enumerate",
  .free "tuple",
  .free "list",
  .free "int",
  .free "max",
  .free "sorted",
  .free "str",
  .free "dict",
  .free "bool",
  .str "LETTERS" "abcdefghijklmnopqrstuvwxyz",
  .int "MOST_STATEMENTS" 12,
  .int "MOST_DEEP" 8,
  .int "MOST_PARAMS" 3,
  .int "MOST_THINGS" 3,
  .int "MOST_CLASSES" 8,
  .int "MOST_FIELDS" 3,
  .int "MOST_WORDS" 4,
  .int "MOST_METHODS" 5,
  .int "STEPS" 20000,
  .int "CALLS" 200]

/-! ### the property, isinstance -/
def pAd (K : PySem.W.Frag) : Addr := He.ma K (He.ga K "Program") "classes"
def gAd (K : PySem.W.Frag) : Addr := match PySem.W.recIn K (pAd K) "property" with
  | some (.ref g :: _) => g
  | _ => 0
def fnWa (K : PySem.W.Frag) (a : Addr) : He.FnW := match K.lookup a with
  | some ⟨_, _, .func fd, _⟩ => some (fd.name, fd.qualname, fd.params, fd.body, fd.scope, fd.globals, fd.closure, fd.builtins)
  | _ => none
def fnOkA (K : PySem.W.Frag) (a : Addr) (q : Str) : Bool := PySem.W.keepIn K (.ref a) && (match K.lookup a with
  | some ⟨_, _, .func fd, _⟩ => PySem.W.codeIn K fd.code q && (He.dflB K fd.defaults [] && He.kwdB K fd.kwdefaults [])
  | _ => false)
theorem funA {K : PySem.W.Frag} {a : Addr} {x q : Str} {st : Stmt} (e : fnWa K a = some (x, q, defArgs st, .stmts (defBody st), defScope st, mainGlobals, [], builtinsNs)) (c : fnOkA K a q = true) : ∃ fd, FnP K x q st [] [] a fd := by
  obtain ⟨kp, c2⟩ := He.ba c
  unfold fnWa at e
  cases q1 : K.lookup a with
  | none =>
    rw [q1] at c2
    cases c2
  | some o =>
    obtain ⟨oc, od, dt, osl⟩ := o
    rw [q1] at c2 e
    cases dt with
    | func fd =>
      obtain ⟨n1, n2, n3, n4, n5, n6, n7, n8, n9, n10, n11, n12, n13, n14, n15⟩ := fd
      have e2 : (some (n1, n2, n3, n4, n5, n6, n7, n15) : He.FnW) = some (x, q, defArgs st, .stmts (defBody st), defScope st, mainGlobals, [], builtinsNs) := e
      simp only [Option.some.injEq, Prod.mk.injEq] at e2
      obtain ⟨h1, h2, h3, h4, h5, h6, h7, h8⟩ := e2
      subst h1 h2 h3 h4 h5 h6 h7 h8
      have c3 : (PySem.W.codeIn K n13 n2 && (He.dflB K n8 [] && He.kwdB K n9 [])) = true := c2
      obtain ⟨k1, k2⟩ := He.ba c3
      obtain ⟨k3, k4⟩ := He.ba k2
      exact ⟨_, ⟨oc, od, n8, n9, n10, n11, n12, n13, n14, osl, rfl, q1, k1, He.dflB_ok k3, He.kwdB_ok k4⟩, kp⟩
    | _ => cases c2
def insB (K : PySem.W.Frag) (C : Addr) : Bool := He.eqO (PySem.W.findIn K (.ref C) "__class__") (some (some (.builtin "object.__class__"))) && (decide (PySem.W.specialIn K (.builtin "object.__class__") "__get__" = some (some (.builtin "getset_descriptor.__get__"))) &&
  (decide (PySem.W.takesIn K (.builtin "object.__class__") = some true) && decide (PySem.W.mroIn K C (.type "object") = some true)))
def exL (K : PySem.W.Frag) : List Bool :=
  [He.eqO (PySem.W.findIn K (.ref (He.ga K "Program")) "classes") (some (some (.ref (pAd K)))),
   decide (PySem.W.specialIn K (.ref (pAd K)) "__get__" = some (some (.builtin "property.__get__"))),
   decide (PySem.W.takesIn K (.ref (pAd K)) = some true),
   (match PySem.W.recIn K (pAd K) "property" with
    | some (.ref g :: _) => decide (g = gAd K)
    | _ => false),
   fnOkA K (gAd K) "Program.classes",
   insB K (He.ga K "Function"),
   insB K (He.ga K "Program"),
   decide (PySem.W.kitOne K (.type "str") (.ref (He.ga K "Function")) = some false),
   decide (PySem.W.kitOne K (.type "NoneType") (.ref (He.ga K "Function")) = some false),
   decide (PySem.W.kitOne K (.ref (He.ga K "Function")) (.type "str") = some false),
   He.eqO (PySem.W.findIn K (.ref (He.ga K "Function")) "__eq__") (some (some (.builtin "object.__eq__")))]
structure Tx (K : PySem.W.Frag) (mg : Str → Option Value) : Prop where
  says : He.SaysD fa fn K
  ex : (exL K).all id = true
  pr : fnWa K (gAd K) = (some ("classes", "Program.classes", defArgs s_Program_classes, .stmts (defBody s_Program_classes), defScope s_Program_classes, mainGlobals, [], builtinsNs) : He.FnW)
  mgs : ∃ h : Heap, K.In h ∧ h.Ns mainGlobals mg
section
variable {K : PySem.W.Frag} {mg : Str → Option Value}
theorem Tx.g_Part (T : Tx K mg) : mg "Part" = some (.ref (He.ga K "Part")) := (let ⟨_, X, G⟩ := T.mgs; He.glo_ok X G (T.says.fact 0))
theorem Tx.cl_Part (T : Tx K mg) : Cls K (He.ga K "Part") := He.cls_ok (T.says.fact 1)
theorem Tx.mk_Part (T : Tx K mg) : Mk K (He.ga K "Part") (He.fAd K ("Part", some "__init__")) := He.mkr_ok (T.says.fact 2)
theorem Tx.na_Part_kind (T : Tx K mg) : NoAttr K (He.ga K "Part") "kind" := He.noat_ok (T.says.fact 3)
theorem Tx.na_Part_rows (T : Tx K mg) : NoAttr K (He.ga K "Part") "rows" := He.noat_ok (T.says.fact 4)
theorem Tx.na_Part_place (T : Tx K mg) : NoAttr K (He.ga K "Part") "place" := He.noat_ok (T.says.fact 5)
theorem Tx.na_Part_statement (T : Tx K mg) : NoAttr K (He.ga K "Part") "statement" := He.noat_ok (T.says.fact 6)
theorem Tx.na_Part_outcome (T : Tx K mg) : NoAttr K (He.ga K "Part") "outcome" := He.noat_ok (T.says.fact 7)
theorem Tx.g_Frame (T : Tx K mg) : mg "Frame" = some (.ref (He.ga K "Frame")) := (let ⟨_, X, G⟩ := T.mgs; He.glo_ok X G (T.says.fact 8))
theorem Tx.cl_Frame (T : Tx K mg) : Cls K (He.ga K "Frame") := He.cls_ok (T.says.fact 9)
theorem Tx.mk_Frame (T : Tx K mg) : Mk K (He.ga K "Frame") (He.fAd K ("Frame", some "__init__")) := He.mkr_ok (T.says.fact 10)
theorem Tx.na_Frame_scope (T : Tx K mg) : NoAttr K (He.ga K "Frame") "scope" := He.noat_ok (T.says.fact 11)
theorem Tx.na_Frame_me (T : Tx K mg) : NoAttr K (He.ga K "Frame") "me" := He.noat_ok (T.says.fact 12)
theorem Tx.na_Frame_owner (T : Tx K mg) : NoAttr K (He.ga K "Frame") "owner" := He.noat_ok (T.says.fact 13)
theorem Tx.na_Frame_parts (T : Tx K mg) : NoAttr K (He.ga K "Frame") "parts" := He.noat_ok (T.says.fact 14)
theorem Tx.na_Frame_pending (T : Tx K mg) : NoAttr K (He.ga K "Frame") "pending" := He.noat_ok (T.says.fact 15)
theorem Tx.g_Scope (T : Tx K mg) : mg "Scope" = some (.ref (He.ga K "Scope")) := (let ⟨_, X, G⟩ := T.mgs; He.glo_ok X G (T.says.fact 16))
theorem Tx.cl_Scope (T : Tx K mg) : Cls K (He.ga K "Scope") := He.cls_ok (T.says.fact 17)
theorem Tx.mk_Scope (T : Tx K mg) : Mk K (He.ga K "Scope") (He.fAd K ("Scope", some "__init__")) := He.mkr_ok (T.says.fact 18)
theorem Tx.na_Scope_outer (T : Tx K mg) : NoAttr K (He.ga K "Scope") "outer" := He.noat_ok (T.says.fact 19)
theorem Tx.na_Scope_held (T : Tx K mg) : NoAttr K (He.ga K "Scope") "held" := He.noat_ok (T.says.fact 20)
theorem Tx.g_Function (T : Tx K mg) : mg "Function" = some (.ref (He.ga K "Function")) := (let ⟨_, X, G⟩ := T.mgs; He.glo_ok X G (T.says.fact 21))
theorem Tx.cl_Function (T : Tx K mg) : Cls K (He.ga K "Function") := He.cls_ok (T.says.fact 22)
theorem Tx.mk_Function (T : Tx K mg) : Mk K (He.ga K "Function") (He.fAd K ("Function", some "__init__")) := He.mkr_ok (T.says.fact 23)
theorem Tx.na_Function_params (T : Tx K mg) : NoAttr K (He.ga K "Function") "params" := He.noat_ok (T.says.fact 24)
theorem Tx.na_Function_block (T : Tx K mg) : NoAttr K (He.ga K "Function") "block" := He.noat_ok (T.says.fact 25)
theorem Tx.na_Function_scope (T : Tx K mg) : NoAttr K (He.ga K "Function") "scope" := He.noat_ok (T.says.fact 26)
theorem Tx.na_Function_me (T : Tx K mg) : NoAttr K (He.ga K "Function") "me" := He.noat_ok (T.says.fact 27)
theorem Tx.na_Function_owner (T : Tx K mg) : NoAttr K (He.ga K "Function") "owner" := He.noat_ok (T.says.fact 28)
theorem Tx.g_Machine (T : Tx K mg) : mg "Machine" = some (.ref (He.ga K "Machine")) := (let ⟨_, X, G⟩ := T.mgs; He.glo_ok X G (T.says.fact 29))
theorem Tx.cl_Machine (T : Tx K mg) : Cls K (He.ga K "Machine") := He.cls_ok (T.says.fact 30)
theorem Tx.mk_Machine (T : Tx K mg) : Mk K (He.ga K "Machine") (He.fAd K ("Machine", some "__init__")) := He.mkr_ok (T.says.fact 31)
theorem Tx.na_Machine_kinds (T : Tx K mg) : NoAttr K (He.ga K "Machine") "kinds" := He.noat_ok (T.says.fact 32)
theorem Tx.na_Machine_ground (T : Tx K mg) : NoAttr K (He.ga K "Machine") "ground" := He.noat_ok (T.says.fact 33)
theorem Tx.na_Machine_stack (T : Tx K mg) : NoAttr K (He.ga K "Machine") "stack" := He.noat_ok (T.says.fact 34)
theorem Tx.na_Machine_printed (T : Tx K mg) : NoAttr K (He.ga K "Machine") "printed" := He.noat_ok (T.says.fact 35)
theorem Tx.na_Machine_ending (T : Tx K mg) : NoAttr K (He.ga K "Machine") "ending" := He.noat_ok (T.says.fact 36)
theorem Tx.na_Machine_deepest (T : Tx K mg) : NoAttr K (He.ga K "Machine") "deepest" := He.noat_ok (T.says.fact 37)
theorem Tx.g_Place (T : Tx K mg) : mg "Place" = some (.ref (He.ga K "Place")) := (let ⟨_, X, G⟩ := T.mgs; He.glo_ok X G (T.says.fact 38))
theorem Tx.cl_Place (T : Tx K mg) : Cls K (He.ga K "Place") := He.cls_ok (T.says.fact 39)
theorem Tx.mk_Place (T : Tx K mg) : Mk K (He.ga K "Place") (He.fAd K ("Place", some "__init__")) := He.mkr_ok (T.says.fact 40)
theorem Tx.na_Place_fields (T : Tx K mg) : NoAttr K (He.ga K "Place") "fields" := He.noat_ok (T.says.fact 41)
theorem Tx.na_Place_has_parent (T : Tx K mg) : NoAttr K (He.ga K "Place") "has_parent" := He.noat_ok (T.says.fact 42)
theorem Tx.na_Place_known (T : Tx K mg) : NoAttr K (He.ga K "Place") "known" := He.noat_ok (T.says.fact 43)
theorem Tx.na_Place_may_return (T : Tx K mg) : NoAttr K (He.ga K "Place") "may_return" := He.noat_ok (T.says.fact 44)
theorem Tx.g_Program (T : Tx K mg) : mg "Program" = some (.ref (He.ga K "Program")) := (let ⟨_, X, G⟩ := T.mgs; He.glo_ok X G (T.says.fact 45))
theorem Tx.cl_Program (T : Tx K mg) : Cls K (He.ga K "Program") := He.cls_ok (T.says.fact 46)
theorem Tx.mk_Program (T : Tx K mg) : Mk K (He.ga K "Program") (He.fAd K ("Program", some "__init__")) := He.mkr_ok (T.says.fact 47)
theorem Tx.na_Program_held (T : Tx K mg) : NoAttr K (He.ga K "Program") "held" := He.noat_ok (T.says.fact 48)
theorem Tx.na_Program_body (T : Tx K mg) : NoAttr K (He.ga K "Program") "body" := He.noat_ok (T.says.fact 49)
theorem Tx.me_Scope_nearest (T : Tx K mg) : Meth K (He.ga K "Scope") "nearest" (He.fAd K ("Scope", some "nearest")) := He.meth_ok (T.says.fact 50)
theorem Tx.g_text_of (T : Tx K mg) : mg "text_of" = some (.ref (He.fAd K ("text_of", none))) := (let ⟨_, X, G⟩ := T.mgs; He.glo_ok X G (T.says.fact 51))
theorem Tx.me_Machine_step (T : Tx K mg) : Meth K (He.ga K "Machine") "step" (He.fAd K ("Machine", some "step")) := He.meth_ok (T.says.fact 52)
theorem Tx.me_Machine_stands (T : Tx K mg) : Meth K (He.ga K "Machine") "stands" (He.fAd K ("Machine", some "stands")) := He.meth_ok (T.says.fact 53)
theorem Tx.me_Machine_go_on (T : Tx K mg) : Meth K (He.ga K "Machine") "go_on" (He.fAd K ("Machine", some "go_on")) := He.meth_ok (T.says.fact 54)
theorem Tx.me_Machine_further (T : Tx K mg) : Meth K (He.ga K "Machine") "further" (He.fAd K ("Machine", some "further")) := He.meth_ok (T.says.fact 55)
theorem Tx.me_Machine_behind (T : Tx K mg) : Meth K (He.ga K "Machine") "behind" (He.fAd K ("Machine", some "behind")) := He.meth_ok (T.says.fact 56)
theorem Tx.me_Machine_leave (T : Tx K mg) : Meth K (He.ga K "Machine") "leave" (He.fAd K ("Machine", some "leave")) := He.meth_ok (T.says.fact 57)
theorem Tx.me_Machine_begin (T : Tx K mg) : Meth K (He.ga K "Machine") "begin" (He.fAd K ("Machine", some "begin")) := He.meth_ok (T.says.fact 58)
theorem Tx.me_Machine_choose (T : Tx K mg) : Meth K (He.ga K "Machine") "choose" (He.fAd K ("Machine", some "choose")) := He.meth_ok (T.says.fact 59)
theorem Tx.me_Machine_right (T : Tx K mg) : Meth K (He.ga K "Machine") "right" (He.fAd K ("Machine", some "right")) := He.meth_ok (T.says.fact 60)
theorem Tx.me_Machine_finish (T : Tx K mg) : Meth K (He.ga K "Machine") "finish" (He.fAd K ("Machine", some "finish")) := He.meth_ok (T.says.fact 61)
theorem Tx.me_Machine_call (T : Tx K mg) : Meth K (He.ga K "Machine") "call" (He.fAd K ("Machine", some "call")) := He.meth_ok (T.says.fact 62)
theorem Tx.me_Machine_enter_function (T : Tx K mg) : Meth K (He.ga K "Machine") "enter_function" (He.fAd K ("Machine", some "enter_function")) := He.meth_ok (T.says.fact 63)
theorem Tx.me_Machine_enter (T : Tx K mg) : Meth K (He.ga K "Machine") "enter" (He.fAd K ("Machine", some "enter")) := He.meth_ok (T.says.fact 64)
theorem Tx.me_Machine_simple (T : Tx K mg) : Meth K (He.ga K "Machine") "simple" (He.fAd K ("Machine", some "simple")) := He.meth_ok (T.says.fact 65)
theorem Tx.me_Machine_holds (T : Tx K mg) : Meth K (He.ga K "Machine") "holds" (He.fAd K ("Machine", some "holds")) := He.meth_ok (T.says.fact 66)
theorem Tx.g_is_name (T : Tx K mg) : mg "is_name" = some (.ref (He.fAd K ("is_name", none))) := (let ⟨_, X, G⟩ := T.mgs; He.glo_ok X G (T.says.fact 67))
theorem Tx.g_are_names (T : Tx K mg) : mg "are_names" = some (.ref (He.fAd K ("are_names", none))) := (let ⟨_, X, G⟩ := T.mgs; He.glo_ok X G (T.says.fact 68))
theorem Tx.g_head (T : Tx K mg) : mg "head" = some (.ref (He.fAd K ("head", none))) := (let ⟨_, X, G⟩ := T.mgs; He.glo_ok X G (T.says.fact 69))
theorem Tx.me_Place_within_function (T : Tx K mg) : Meth K (He.ga K "Place") "within_function" (He.fAd K ("Place", some "within_function")) := He.meth_ok (T.says.fact 70)
theorem Tx.g_is_simple (T : Tx K mg) : mg "is_simple" = some (.ref (He.fAd K ("is_simple", none))) := (let ⟨_, X, G⟩ := T.mgs; He.glo_ok X G (T.says.fact 71))
theorem Tx.g_are_things (T : Tx K mg) : mg "are_things" = some (.ref (He.fAd K ("are_things", none))) := (let ⟨_, X, G⟩ := T.mgs; He.glo_ok X G (T.says.fact 72))
theorem Tx.g_is_right (T : Tx K mg) : mg "is_right" = some (.ref (He.fAd K ("is_right", none))) := (let ⟨_, X, G⟩ := T.mgs; He.glo_ok X G (T.says.fact 73))
theorem Tx.g_is_test (T : Tx K mg) : mg "is_test" = some (.ref (He.fAd K ("is_test", none))) := (let ⟨_, X, G⟩ := T.mgs; He.glo_ok X G (T.says.fact 74))
theorem Tx.g_is_short (T : Tx K mg) : mg "is_short" = some (.ref (He.fAd K ("is_short", none))) := (let ⟨_, X, G⟩ := T.mgs; He.glo_ok X G (T.says.fact 75))
theorem Tx.g_is_statement (T : Tx K mg) : mg "is_statement" = some (.ref (He.fAd K ("is_statement", none))) := (let ⟨_, X, G⟩ := T.mgs; He.glo_ok X G (T.says.fact 76))
theorem Tx.g_is_block (T : Tx K mg) : mg "is_block" = some (.ref (He.fAd K ("is_block", none))) := (let ⟨_, X, G⟩ := T.mgs; He.glo_ok X G (T.says.fact 77))
theorem Tx.g_are_outlines (T : Tx K mg) : mg "are_outlines" = some (.ref (He.fAd K ("are_outlines", none))) := (let ⟨_, X, G⟩ := T.mgs; He.glo_ok X G (T.says.fact 78))
theorem Tx.g_copied_classes (T : Tx K mg) : mg "copied_classes" = some (.ref (He.fAd K ("copied_classes", none))) := (let ⟨_, X, G⟩ := T.mgs; He.glo_ok X G (T.says.fact 79))
theorem Tx.g_bad_part (T : Tx K mg) : mg "bad_part" = some (.ref (He.fAd K ("bad_part", none))) := (let ⟨_, X, G⟩ := T.mgs; He.glo_ok X G (T.says.fact 80))
theorem Tx.g_run (T : Tx K mg) : mg "run" = some (.ref (He.fAd K ("run", none))) := (let ⟨_, X, G⟩ := T.mgs; He.glo_ok X G (T.says.fact 81))
theorem Tx.g_is_run (T : Tx K mg) : mg "is_run" = some (.ref (He.fAd K ("is_run", none))) := (let ⟨_, X, G⟩ := T.mgs; He.glo_ok X G (T.says.fact 82))
theorem Tx.g_law_draw (T : Tx K mg) : mg "_law_draw" = some (.ref (He.fAd K ("_law_draw", none))) := (let ⟨_, X, G⟩ := T.mgs; He.glo_ok X G (T.says.fact 83))
theorem Tx.g_law_names (T : Tx K mg) : mg "_law_names" = some (.ref (He.fAd K ("_law_names", none))) := (let ⟨_, X, G⟩ := T.mgs; He.glo_ok X G (T.says.fact 84))
theorem Tx.g_law_called (T : Tx K mg) : mg "_law_called" = some (.ref (He.fAd K ("_law_called", none))) := (let ⟨_, X, G⟩ := T.mgs; He.glo_ok X G (T.says.fact 85))
theorem Tx.g_law_is_none (T : Tx K mg) : mg "_law_is_none" = some (.ref (He.fAd K ("_law_is_none", none))) := (let ⟨_, X, G⟩ := T.mgs; He.glo_ok X G (T.says.fact 86))
theorem Tx.g_law_picker (T : Tx K mg) : mg "_law_picker" = some (.ref (He.fAd K ("_law_picker", none))) := (let ⟨_, X, G⟩ := T.mgs; He.glo_ok X G (T.says.fact 87))
theorem Tx.g_law_loop (T : Tx K mg) : mg "_law_loop" = some (.ref (He.fAd K ("_law_loop", none))) := (let ⟨_, X, G⟩ := T.mgs; He.glo_ok X G (T.says.fact 88))
theorem Tx.g_law_defs (T : Tx K mg) : mg "_law_defs" = some (.ref (He.fAd K ("_law_defs", none))) := (let ⟨_, X, G⟩ := T.mgs; He.glo_ok X G (T.says.fact 89))
theorem Tx.g_law_text (T : Tx K mg) : mg "_law_text" = some (.ref (He.fAd K ("_law_text", none))) := (let ⟨_, X, G⟩ := T.mgs; He.glo_ok X G (T.says.fact 90))
theorem Tx.g_law_look (T : Tx K mg) : mg "_law_look" = some (.ref (He.fAd K ("_law_look", none))) := (let ⟨_, X, G⟩ := T.mgs; He.glo_ok X G (T.says.fact 91))
theorem Tx.g_law_change (T : Tx K mg) : mg "_law_change" = some (.ref (He.fAd K ("_law_change", none))) := (let ⟨_, X, G⟩ := T.mgs; He.glo_ok X G (T.says.fact 92))
theorem Tx.g_law (T : Tx K mg) : mg "law" = some (.ref (He.fAd K ("law", none))) := (let ⟨_, X, G⟩ := T.mgs; He.glo_ok X G (T.says.fact 93))
theorem Tx.z_len (T : Tx K mg) : mg "len" = none := (let ⟨_, X, G⟩ := T.mgs; He.free_ok X G (T.says.fact 94))
theorem Tx.z_isinstance (T : Tx K mg) : mg "isinstance" = none := (let ⟨_, X, G⟩ := T.mgs; He.free_ok X G (T.says.fact 95))
theorem Tx.z_range (T : Tx K mg) : mg "range" = none := (let ⟨_, X, G⟩ := T.mgs; He.free_ok X G (T.says.fact 96))
theorem Tx.z_enumerate (T : Tx K mg) : mg "enumerate" = none := (let ⟨_, X, G⟩ := T.mgs; He.free_ok X G (T.says.fact 97))
theorem Tx.z_tuple (T : Tx K mg) : mg "tuple" = none := (let ⟨_, X, G⟩ := T.mgs; He.free_ok X G (T.says.fact 98))
theorem Tx.z_list (T : Tx K mg) : mg "list" = none := (let ⟨_, X, G⟩ := T.mgs; He.free_ok X G (T.says.fact 99))
theorem Tx.z_int (T : Tx K mg) : mg "int" = none := (let ⟨_, X, G⟩ := T.mgs; He.free_ok X G (T.says.fact 100))
theorem Tx.z_max (T : Tx K mg) : mg "max" = none := (let ⟨_, X, G⟩ := T.mgs; He.free_ok X G (T.says.fact 101))
theorem Tx.z_sorted (T : Tx K mg) : mg "sorted" = none := (let ⟨_, X, G⟩ := T.mgs; He.free_ok X G (T.says.fact 102))
theorem Tx.z_str (T : Tx K mg) : mg "str" = none := (let ⟨_, X, G⟩ := T.mgs; He.free_ok X G (T.says.fact 103))
theorem Tx.z_dict (T : Tx K mg) : mg "dict" = none := (let ⟨_, X, G⟩ := T.mgs; He.free_ok X G (T.says.fact 104))
theorem Tx.z_bool (T : Tx K mg) : mg "bool" = none := (let ⟨_, X, G⟩ := T.mgs; He.free_ok X G (T.says.fact 105))
theorem Tx.k_LETTERS (T : Tx K mg) : ∃ u, mg "LETTERS" = some u ∧ RelV (.str "abcdefghijklmnopqrstuvwxyz") u := (let ⟨_, X, G⟩ := T.mgs; let ⟨t, e⟩ := He.str_ok X G (T.says.fact 106); ⟨_, e, t, rfl⟩)
theorem Tx.k_MOST_STATEMENTS (T : Tx K mg) : ∃ u, mg "MOST_STATEMENTS" = some u ∧ RelV (.int 12) u := (let ⟨_, X, G⟩ := T.mgs; let ⟨t, e⟩ := He.int_ok X G (T.says.fact 107); ⟨_, e, t, rfl⟩)
theorem Tx.k_MOST_DEEP (T : Tx K mg) : ∃ u, mg "MOST_DEEP" = some u ∧ RelV (.int 8) u := (let ⟨_, X, G⟩ := T.mgs; let ⟨t, e⟩ := He.int_ok X G (T.says.fact 108); ⟨_, e, t, rfl⟩)
theorem Tx.k_MOST_PARAMS (T : Tx K mg) : ∃ u, mg "MOST_PARAMS" = some u ∧ RelV (.int 3) u := (let ⟨_, X, G⟩ := T.mgs; let ⟨t, e⟩ := He.int_ok X G (T.says.fact 109); ⟨_, e, t, rfl⟩)
theorem Tx.k_MOST_THINGS (T : Tx K mg) : ∃ u, mg "MOST_THINGS" = some u ∧ RelV (.int 3) u := (let ⟨_, X, G⟩ := T.mgs; let ⟨t, e⟩ := He.int_ok X G (T.says.fact 110); ⟨_, e, t, rfl⟩)
theorem Tx.k_MOST_CLASSES (T : Tx K mg) : ∃ u, mg "MOST_CLASSES" = some u ∧ RelV (.int 8) u := (let ⟨_, X, G⟩ := T.mgs; let ⟨t, e⟩ := He.int_ok X G (T.says.fact 111); ⟨_, e, t, rfl⟩)
theorem Tx.k_MOST_FIELDS (T : Tx K mg) : ∃ u, mg "MOST_FIELDS" = some u ∧ RelV (.int 3) u := (let ⟨_, X, G⟩ := T.mgs; let ⟨t, e⟩ := He.int_ok X G (T.says.fact 112); ⟨_, e, t, rfl⟩)
theorem Tx.k_MOST_WORDS (T : Tx K mg) : ∃ u, mg "MOST_WORDS" = some u ∧ RelV (.int 4) u := (let ⟨_, X, G⟩ := T.mgs; let ⟨t, e⟩ := He.int_ok X G (T.says.fact 113); ⟨_, e, t, rfl⟩)
theorem Tx.k_MOST_METHODS (T : Tx K mg) : ∃ u, mg "MOST_METHODS" = some u ∧ RelV (.int 5) u := (let ⟨_, X, G⟩ := T.mgs; let ⟨t, e⟩ := He.int_ok X G (T.says.fact 114); ⟨_, e, t, rfl⟩)
theorem Tx.k_STEPS (T : Tx K mg) : ∃ u, mg "STEPS" = some u ∧ RelV (.int 20000) u := (let ⟨_, X, G⟩ := T.mgs; let ⟨t, e⟩ := He.int_ok X G (T.says.fact 115); ⟨_, e, t, rfl⟩)
theorem Tx.k_CALLS (T : Tx K mg) : ∃ u, mg "CALLS" = some u ∧ RelV (.int 200) u := (let ⟨_, X, G⟩ := T.mgs; let ⟨t, e⟩ := He.int_ok X G (T.says.fact 116); ⟨_, e, t, rfl⟩)
theorem Tx.f_Part_init (T : Tx K mg) : ∃ fd, FnP K "__init__" "Part.__init__" s_Part_init [V.non, V.non] [] (He.fAd K ("Part", some "__init__")) fd := T.says.def_ 0 (d := d_Part_init) rfl
theorem Tx.f_Frame_init (T : Tx K mg) : ∃ fd, FnP K "__init__" "Frame.__init__" s_Frame_init [] [] (He.fAd K ("Frame", some "__init__")) fd := T.says.def_ 1 (d := d_Frame_init) rfl
theorem Tx.f_Scope_init (T : Tx K mg) : ∃ fd, FnP K "__init__" "Scope.__init__" s_Scope_init [] [] (He.fAd K ("Scope", some "__init__")) fd := T.says.def_ 2 (d := d_Scope_init) rfl
theorem Tx.f_Scope_nearest (T : Tx K mg) : ∃ fd, FnP K "nearest" "Scope.nearest" s_Scope_nearest [] [] (He.fAd K ("Scope", some "nearest")) fd := T.says.def_ 3 (d := d_Scope_nearest) rfl
theorem Tx.f_Function_init (T : Tx K mg) : ∃ fd, FnP K "__init__" "Function.__init__" s_Function_init [] [] (He.fAd K ("Function", some "__init__")) fd := T.says.def_ 4 (d := d_Function_init) rfl
theorem Tx.f_text_of (T : Tx K mg) : ∃ fd, FnP K "text_of" "text_of" s_text_of [] [] (He.fAd K ("text_of", none)) fd := T.says.def_ 5 (d := d_text_of) rfl
theorem Tx.f_Machine_init (T : Tx K mg) : ∃ fd, FnP K "__init__" "Machine.__init__" s_Machine_init [] [] (He.fAd K ("Machine", some "__init__")) fd := T.says.def_ 6 (d := d_Machine_init) rfl
theorem Tx.f_Machine_step (T : Tx K mg) : ∃ fd, FnP K "step" "Machine.step" s_Machine_step [] [] (He.fAd K ("Machine", some "step")) fd := T.says.def_ 7 (d := d_Machine_step) rfl
theorem Tx.f_Machine_stands (T : Tx K mg) : ∃ fd, FnP K "stands" "Machine.stands" s_Machine_stands [] [] (He.fAd K ("Machine", some "stands")) fd := T.says.def_ 8 (d := d_Machine_stands) rfl
theorem Tx.f_Machine_go_on (T : Tx K mg) : ∃ fd, FnP K "go_on" "Machine.go_on" s_Machine_go_on [] [] (He.fAd K ("Machine", some "go_on")) fd := T.says.def_ 9 (d := d_Machine_go_on) rfl
theorem Tx.f_Machine_further (T : Tx K mg) : ∃ fd, FnP K "further" "Machine.further" s_Machine_further [] [] (He.fAd K ("Machine", some "further")) fd := T.says.def_ 10 (d := d_Machine_further) rfl
theorem Tx.f_Machine_behind (T : Tx K mg) : ∃ fd, FnP K "behind" "Machine.behind" s_Machine_behind [] [] (He.fAd K ("Machine", some "behind")) fd := T.says.def_ 11 (d := d_Machine_behind) rfl
theorem Tx.f_Machine_leave (T : Tx K mg) : ∃ fd, FnP K "leave" "Machine.leave" s_Machine_leave [] [] (He.fAd K ("Machine", some "leave")) fd := T.says.def_ 12 (d := d_Machine_leave) rfl
theorem Tx.f_Machine_begin (T : Tx K mg) : ∃ fd, FnP K "begin" "Machine.begin" s_Machine_begin [] [] (He.fAd K ("Machine", some "begin")) fd := T.says.def_ 13 (d := d_Machine_begin) rfl
theorem Tx.f_Machine_choose (T : Tx K mg) : ∃ fd, FnP K "choose" "Machine.choose" s_Machine_choose [] [] (He.fAd K ("Machine", some "choose")) fd := T.says.def_ 14 (d := d_Machine_choose) rfl
theorem Tx.f_Machine_right (T : Tx K mg) : ∃ fd, FnP K "right" "Machine.right" s_Machine_right [] [] (He.fAd K ("Machine", some "right")) fd := T.says.def_ 15 (d := d_Machine_right) rfl
theorem Tx.f_Machine_finish (T : Tx K mg) : ∃ fd, FnP K "finish" "Machine.finish" s_Machine_finish [] [] (He.fAd K ("Machine", some "finish")) fd := T.says.def_ 16 (d := d_Machine_finish) rfl
theorem Tx.f_Machine_call (T : Tx K mg) : ∃ fd, FnP K "call" "Machine.call" s_Machine_call [] [] (He.fAd K ("Machine", some "call")) fd := T.says.def_ 17 (d := d_Machine_call) rfl
theorem Tx.f_Machine_enter_function (T : Tx K mg) : ∃ fd, FnP K "enter_function" "Machine.enter_function" s_Machine_enter_function [] [] (He.fAd K ("Machine", some "enter_function")) fd := T.says.def_ 18 (d := d_Machine_enter_function) rfl
theorem Tx.f_Machine_enter (T : Tx K mg) : ∃ fd, FnP K "enter" "Machine.enter" s_Machine_enter [] [] (He.fAd K ("Machine", some "enter")) fd := T.says.def_ 19 (d := d_Machine_enter) rfl
theorem Tx.f_Machine_simple (T : Tx K mg) : ∃ fd, FnP K "simple" "Machine.simple" s_Machine_simple [] [] (He.fAd K ("Machine", some "simple")) fd := T.says.def_ 20 (d := d_Machine_simple) rfl
theorem Tx.f_Machine_holds (T : Tx K mg) : ∃ fd, FnP K "holds" "Machine.holds" s_Machine_holds [] [] (He.fAd K ("Machine", some "holds")) fd := T.says.def_ 21 (d := d_Machine_holds) rfl
theorem Tx.f_is_name (T : Tx K mg) : ∃ fd, FnP K "is_name" "is_name" s_is_name [] [] (He.fAd K ("is_name", none)) fd := T.says.def_ 22 (d := d_is_name) rfl
theorem Tx.f_are_names (T : Tx K mg) : ∃ fd, FnP K "are_names" "are_names" s_are_names [] [] (He.fAd K ("are_names", none)) fd := T.says.def_ 23 (d := d_are_names) rfl
theorem Tx.f_head (T : Tx K mg) : ∃ fd, FnP K "head" "head" s_head [] [] (He.fAd K ("head", none)) fd := T.says.def_ 24 (d := d_head) rfl
theorem Tx.f_Place_init (T : Tx K mg) : ∃ fd, FnP K "__init__" "Place.__init__" s_Place_init [] [] (He.fAd K ("Place", some "__init__")) fd := T.says.def_ 25 (d := d_Place_init) rfl
theorem Tx.f_Place_within_function (T : Tx K mg) : ∃ fd, FnP K "within_function" "Place.within_function" s_Place_within_function [] [] (He.fAd K ("Place", some "within_function")) fd := T.says.def_ 26 (d := d_Place_within_function) rfl
theorem Tx.f_is_simple (T : Tx K mg) : ∃ fd, FnP K "is_simple" "is_simple" s_is_simple [] [] (He.fAd K ("is_simple", none)) fd := T.says.def_ 27 (d := d_is_simple) rfl
theorem Tx.f_are_things (T : Tx K mg) : ∃ fd, FnP K "are_things" "are_things" s_are_things [] [] (He.fAd K ("are_things", none)) fd := T.says.def_ 28 (d := d_are_things) rfl
theorem Tx.f_is_right (T : Tx K mg) : ∃ fd, FnP K "is_right" "is_right" s_is_right [] [] (He.fAd K ("is_right", none)) fd := T.says.def_ 29 (d := d_is_right) rfl
theorem Tx.f_is_test (T : Tx K mg) : ∃ fd, FnP K "is_test" "is_test" s_is_test [V.int 3] [] (He.fAd K ("is_test", none)) fd := T.says.def_ 30 (d := d_is_test) rfl
theorem Tx.f_is_short (T : Tx K mg) : ∃ fd, FnP K "is_short" "is_short" s_is_short [] [] (He.fAd K ("is_short", none)) fd := T.says.def_ 31 (d := d_is_short) rfl
theorem Tx.f_is_statement (T : Tx K mg) : ∃ fd, FnP K "is_statement" "is_statement" s_is_statement [] [] (He.fAd K ("is_statement", none)) fd := T.says.def_ 32 (d := d_is_statement) rfl
theorem Tx.f_is_block (T : Tx K mg) : ∃ fd, FnP K "is_block" "is_block" s_is_block [] [] (He.fAd K ("is_block", none)) fd := T.says.def_ 33 (d := d_is_block) rfl
theorem Tx.f_are_outlines (T : Tx K mg) : ∃ fd, FnP K "are_outlines" "are_outlines" s_are_outlines [] [] (He.fAd K ("are_outlines", none)) fd := T.says.def_ 34 (d := d_are_outlines) rfl
theorem Tx.f_copied_classes (T : Tx K mg) : ∃ fd, FnP K "copied_classes" "copied_classes" s_copied_classes [] [] (He.fAd K ("copied_classes", none)) fd := T.says.def_ 35 (d := d_copied_classes) rfl
theorem Tx.f_bad_part (T : Tx K mg) : ∃ fd, FnP K "bad_part" "bad_part" s_bad_part [] [] (He.fAd K ("bad_part", none)) fd := T.says.def_ 36 (d := d_bad_part) rfl
theorem Tx.f_Program_init (T : Tx K mg) : ∃ fd, FnP K "__init__" "Program.__init__" s_Program_init [] [] (He.fAd K ("Program", some "__init__")) fd := T.says.def_ 37 (d := d_Program_init) rfl
theorem Tx.f_run (T : Tx K mg) : ∃ fd, FnP K "run" "run" s_run [] [("most", V.int 20000)] (He.fAd K ("run", none)) fd := T.says.def_ 38 (d := d_run) rfl
theorem Tx.f_is_run (T : Tx K mg) : ∃ fd, FnP K "is_run" "is_run" s_is_run [] [] (He.fAd K ("is_run", none)) fd := T.says.def_ 39 (d := d_is_run) rfl
theorem Tx.f_law_draw (T : Tx K mg) : ∃ fd, FnP K "_law_draw" "_law_draw" s_law_draw [] [] (He.fAd K ("_law_draw", none)) fd := T.says.def_ 40 (d := d_law_draw) rfl
theorem Tx.f_law_names (T : Tx K mg) : ∃ fd, FnP K "_law_names" "_law_names" s_law_names [] [] (He.fAd K ("_law_names", none)) fd := T.says.def_ 41 (d := d_law_names) rfl
theorem Tx.f_law_called (T : Tx K mg) : ∃ fd, FnP K "_law_called" "_law_called" s_law_called [] [] (He.fAd K ("_law_called", none)) fd := T.says.def_ 42 (d := d_law_called) rfl
theorem Tx.f_law_is_none (T : Tx K mg) : ∃ fd, FnP K "_law_is_none" "_law_is_none" s_law_is_none [] [] (He.fAd K ("_law_is_none", none)) fd := T.says.def_ 43 (d := d_law_is_none) rfl
theorem Tx.f_law_picker (T : Tx K mg) : ∃ fd, FnP K "_law_picker" "_law_picker" s_law_picker [] [] (He.fAd K ("_law_picker", none)) fd := T.says.def_ 44 (d := d_law_picker) rfl
theorem Tx.f_law_loop (T : Tx K mg) : ∃ fd, FnP K "_law_loop" "_law_loop" s_law_loop [] [] (He.fAd K ("_law_loop", none)) fd := T.says.def_ 45 (d := d_law_loop) rfl
theorem Tx.f_law_defs (T : Tx K mg) : ∃ fd, FnP K "_law_defs" "_law_defs" s_law_defs [] [] (He.fAd K ("_law_defs", none)) fd := T.says.def_ 46 (d := d_law_defs) rfl
theorem Tx.f_law_text (T : Tx K mg) : ∃ fd, FnP K "_law_text" "_law_text" s_law_text [] [] (He.fAd K ("_law_text", none)) fd := T.says.def_ 47 (d := d_law_text) rfl
theorem Tx.f_law_look (T : Tx K mg) : ∃ fd, FnP K "_law_look" "_law_look" s_law_look [] [] (He.fAd K ("_law_look", none)) fd := T.says.def_ 48 (d := d_law_look) rfl
theorem Tx.f_law_change (T : Tx K mg) : ∃ fd, FnP K "_law_change" "_law_change" s_law_change [] [] (He.fAd K ("_law_change", none)) fd := T.says.def_ 49 (d := d_law_change) rfl
theorem Tx.f_law (T : Tx K mg) : ∃ fd, FnP K "law" "law" s_law [] [] (He.fAd K ("law", none)) fd := T.says.def_ 50 (d := d_law) rfl
theorem Tx.x (T : Tx K mg) (i : Nat) {b : Bool} (h : (exL K)[i]? = some b := by rfl) : b = true := List.all_eq_true.mp T.ex b (List.mem_of_getElem? h)
theorem Tx.propOf (T : Tx K mg) : PropOf K (He.ga K "Program") "classes" (pAd K) (gAd K) := by
  refine ⟨He.eqO_ok (T.x 0), of_decide_eq_true (T.x 1), of_decide_eq_true (T.x 2), ?_⟩
  have c := T.x 3
  cases e : PySem.W.recIn K (pAd K) "property" with
  | none => rw [e] at c; cases c
  | some l => cases l with
    | nil => rw [e] at c; cases c
    | cons v r => cases v with
      | ref g =>
        rw [e] at c
        exact ⟨r, by rw [show g = gAd K from of_decide_eq_true c]⟩
      | _ => rw [e] at c; cases c
theorem Tx.f_Program_classes (T : Tx K mg) : ∃ fd, FnP K "classes" "Program.classes" s_Program_classes [] [] (gAd K) fd := funA T.pr (T.x 4)
theorem insB_ok {C : Addr} (c : insB K C = true) {H : Hp} {a dx : Addr} {fs : List (Str × V)} (e : H a = some (.ins C dx fs)) (cl : Cls K C) : TyX K H (.ref a) (.ref C) := by
  obtain ⟨c1, c⟩ := He.ba c
  obtain ⟨c2, c⟩ := He.ba c
  obtain ⟨c3, c4⟩ := He.ba c
  exact .base (.ins e cl (He.eqO_ok c1) (of_decide_eq_true c2) (of_decide_eq_true c3) (of_decide_eq_true c4))
end
/-! ### the head -/
abbrev AlX : Type := He.AlD × (Bool × He.FnW)
def obsX (K : PySem.W.Frag) : AlX := (He.obsD fa fn K, (exL K).all id, fnWa K (gAd K))
def valX : AlX := (He.valD fn, true, some ("classes", "Program.classes", defArgs s_Program_classes, .stmts (defBody s_Program_classes), defScope s_Program_classes, mainGlobals, [], builtinsNs))
/-- all addresses below n, the newest first: what the top has made stands in front; no walk from object to object is needed -/
def dn : Nat → List Addr
  | 0 => []
  | n + 1 => n :: dn n
def obsXG (n : Nat) (g : Addr → Option Obj) : AlX := obsX (He.frG g (mainGlobals :: dn n))
def hookX (n : Nat) : PySem.W.Hook where
  α := AlX
  obs := fun s => obsXG n s.heap.get?
  val := fun _ => valX
  says := fun _ h => ∃ K : PySem.W.Frag, K.In h ∧ obsX K = valX
  of := fun _ _ e => ⟨_, He.frG_in, e⟩
  keeps := fun _ _ _ ⟨K, hK, c⟩ k => ⟨K, PySem.W.Frag.In.keeps hK k, c⟩
theorem obsXG_eq {n : Nat} {g : Addr → Option Obj} {s : Shared} (h : ∀ a, g a = s.heap.get? a) : obsXG n g = (hookX n).obs s := by
  have e : g = s.heap.get? := funext h
  rw [e] <;> rfl
theorem tx_of {K : PySem.W.Frag} {mg : Str → Option Value} {h : Heap} (X : K.In h) (G : h.Ns mainGlobals mg) (c : obsX K = valX) : Tx K mg :=
  ⟨congrArg (fun z : AlX => z.1) c, congrArg (fun z : AlX => z.2.1) c, congrArg (fun z : AlX => z.2.2) c, h, X, G⟩
abbrev Rw : PySem.W.OpenRow := PySem.W.OpenLaw.row PySem.Challenge.rw_standsfor_k38_whole_lists_of_functions
abbrev hk : PySem.W.Hook := hookX 700
def ob (s : PySem.W.SharedT) : AlX := obsXG 700 (HandSHeadRun.getT s)
theorem ob_eq (s : PySem.W.SharedT) : ob s = hk.obs s.abs := obsXG_eq (HandSHeadRun.getT_eq s)
def lawAt : Nat := 64
def loose0 : List Str := ["StandError", "BadProgram", "BadNumber", "TooLong", "Part", "Frame", "Scope", "Function", "Thing", "text_of", "Machine", "LETTERS", "MOST_STATEMENTS", "MOST_DEEP", "MOST_PARAMS", "MOST_THINGS", "is_name", "are_names", "head", "Place"]
def loose1 : List Str := ["is_simple", "are_things", "is_right", "is_test", "is_short", "is_statement", "is_block", "MOST_CLASSES", "MOST_FIELDS", "MOST_WORDS", "MOST_METHODS", "are_fields", "are_methods", "is_outline", "parents_end", "are_outlines", "bad_method", "copied", "copied_classes", "bad_part"]
def loose2 : List Str := ["Program", "STEPS", "CALLS", "run", "is_run", "_law_draw", "_law_names", "_law_called", "_law_is_none", "_law_picker", "_law_loop", "_law_defs", "_law_text", "_law_look", "_law_change"]
def loose : List Str := loose0 ++ loose1 ++ loose2
end K38
end
section
namespace K38
open PySem PySem.W PySem.Calls PyProof.Rows
theorem run (w : World) : HandSHeadRun.RunEq Rw (PySem.W.view Rw.prog [lawAt]) hk ob 12000 loose w := by
  intro os
  kernel_rfl
end K38
end
section
set_option autoImplicit false
/-! K38A: the small language as typed syntax, an abstract machine on configurations, and rules to reach its end. Plain Lean. -/
namespace K38
open PySem

/-- names: 0 cons, 1 head, 2 tail, 3 turn, 4 join, 5 look; 6 7 8 the three lists' names; 9 one, 10 other, 11 more -/
abbrev Nm := Fin 12

mutual
inductive Ex where
  | word (w : Str) | non | name (x : Nm) | fn (ps : List Nm) (b : List Sm)
inductive Rt where
  | ex (e : Ex) | call (f : Ex) (as : List Ex)
inductive Te where
  | same (a b : Ex) | not (t : Te)
inductive Sm where
  | lt (x : Nm) (r : Rt) | st (x : Nm) (r : Rt) | pr (e : Ex) | ret (r : Rt) | rs (r : Rt)
  | iff (t : Te) (a b : List Sm) | whl (t : Te) (a : List Sm) | tr (a : List Sm) (x : Nm) (b : List Sm) | la (a b : List Sm)
end

inductive Vl where
  | non | word (w : Str) | fn (i : Nat)
def textOf : Vl → Str
  | .non => "none" | .word w => w | .fn _ => "function"

structure Fn where
  ps : List Nm
  body : List Sm
  sc : Nat
structure Sc where
  outer : Option Nat
  held : Nm → Option Vl
  /-- for the proof alone: the function that was entered -/
  of : Nat
structure Mem where
  nF : Nat
  fns : Nat → Fn
  nS : Nat
  scs : Nat → Sc
inductive Oc where
  | on | val (v : Vl) | ret (v : Vl) | rs (v : Vl)
inductive Pk where
  | plain | tr (x : Nm) (b : List Sm) | la (b : List Sm) | thn (o : Oc)
structure Pt where
  k : Pk
  rows : List Sm
  place : Nat
structure Fr where
  sc : Nat
  parts : List Pt
  pend : Option Sm
inductive Nd where
  | done | raised (t : Str)
structure MS where
  mem : Mem
  frs : List Fr
  printed : List Str
  fin : Option Nd
  deep : Nat
abbrev Cfg := Oc × MS

def setH (h : Nm → Option Vl) (x : Nm) (v : Vl) : Nm → Option Vl := fun y => if y = x then some v else h y
def put (m : Mem) (i : Nat) (x : Nm) (v : Vl) : Mem :=
  { m with scs := fun j => if j = i then ⟨(m.scs i).outer, setH (m.scs i).held x v, (m.scs i).of⟩ else m.scs j }
def nearest (scs : Nat → Sc) : Nat → Nat → Nm → Option Nat
  | 0, _, _ => none
  | k + 1, i, x => if ((scs i).held x).isSome then some i else match (scs i).outer with
    | none => none
    | some j => nearest scs k j x
def look (m : Mem) (sc : Nat) (x : Nm) : Option Vl := (nearest m.scs 5 sc x).bind fun j => (m.scs j).held x
def newFn (m : Mem) (f : Fn) : Mem := { m with nF := m.nF + 1, fns := fun j => if j = m.nF then f else m.fns j }
def newSc (m : Mem) (s : Sc) : Mem := { m with nS := m.nS + 1, scs := fun j => if j = m.nS then s else m.scs j }
def simple (m : Mem) (sc : Nat) : Ex → Option (Vl × Mem)
  | .word w => some (.word w, m)
  | .non => some (.non, m)
  | .name x => (look m sc x).map fun v => (v, m)
  | .fn ps b => if ps.length ≤ 3 then some (.fn m.nF, newFn m ⟨ps, b, sc⟩) else none
/-- a simple one that makes nothing -/
def pureV (m : Mem) (sc : Nat) : Ex → Option Vl
  | .word w => some (.word w)
  | .non => some .non
  | .name x => look m sc x
  | .fn _ _ => none
def simples (sc : Nat) : Mem → List Ex → Option (List Vl × Mem)
  | m, [] => some ([], m)
  | m, e :: es => (simple m sc e).bind fun (v, m1) => (simples sc m1 es).map fun (vs, m2) => (v :: vs, m2)
/-- only what is asked: none against anything, words against words -/
def same : Vl → Vl → Option Bool
  | .non, .non => some true
  | .word a, .word b => some (decide (a = b))
  | .non, .word _ => some false
  | .word _, .non => some false
  | .fn _, .non => some false
  | .fn _, .word _ => some false
  | _, _ => none
def holds (m : Mem) (sc : Nat) : Te → Option Bool
  | .same a b => (pureV m sc a).bind fun x => (pureV m sc b).bind fun y => same x y
  | .not t => (holds m sc t).map fun b => !b
def dep : Te → Nat
  | .same _ _ => 1
  | .not t => dep t + 1
/-- a test that is not deep -/
def test (m : Mem) (sc : Nat) (t : Te) : Option Bool := if dep t ≤ 3 then holds m sc t else none
def finish (m : Mem) (sc : Nat) (st : Sm) (v : Vl) : Option (Oc × Mem) :=
  match st with
  | .lt x _ => some (.on, put m sc x v)
  | .st x _ => (nearest m.scs 5 sc x).map fun j => (.on, put m j x v)
  | .ret _ => some (.ret v, m)
  | .rs _ => some (.rs v, m)
  | _ => none
/-- params get things, or none -/
def bind : List Nm → List Vl → (Nm → Option Vl) → (Nm → Option Vl)
  | [], _, h => h
  | p :: ps, [], h => bind ps [] (setH h p .non)
  | p :: ps, v :: vs, h => bind ps vs (setH h p v)
def enter (s : MS) (f : Vl) (vs : List Vl) : Option Cfg :=
  match f with
  | .fn i =>
    if s.frs.length ≤ 200 then
      let g := s.mem.fns i
      some (.on, { s with mem := newSc s.mem ⟨some g.sc, bind g.ps vs fun _ => none, i⟩, frs := ⟨s.mem.nS, [⟨.plain, g.body, 0⟩], none⟩ :: s.frs, deep := max s.deep s.frs.length })
    else none
  | _ => some (.rs (.word "nofunc"), s)
/-- the right side of a statement, at the frame f, in whose part the place is moved on already -/
def right (s : MS) (f : Fr) (fs : List Fr) (st : Sm) : Rt → Option Cfg
  | .ex e => (simple s.mem f.sc e).bind fun (v, m) => (finish m f.sc st v).map fun (o, m') => (o, { s with mem := m', frs := f :: fs })
  | .call g as => if as.length ≤ 5 then (simples f.sc s.mem (g :: as)).bind fun (vs, m) => match vs with
    | [] => none
    | v :: vs => enter { s with mem := m, frs := { f with pend := some st } :: fs } v vs else none
def pushed (s : MS) (f : Fr) (fs : List Fr) (p : Pt) : Option Cfg :=
  if f.parts.length ≤ 1000 then some (.on, { s with frs := { f with parts := p :: f.parts } :: fs }) else none
def begin_ (s : MS) (f : Fr) (fs : List Fr) (p : Pt) (ps : List Pt) (st : Sm) : Option Cfg :=
  let f' : Fr := { f with parts := { p with place := p.place + 1 } :: ps }
  match st with
  | .lt _ r => right s f' fs st r
  | .st _ r => right s f' fs st r
  | .ret r => right s f' fs st r
  | .rs r => right s f' fs st r
  | .pr e => (pureV s.mem f.sc e).map fun v => (.on, { s with frs := f' :: fs, printed := s.printed ++ [textOf v] })
  | .iff t a b => (test s.mem f.sc t).bind fun h => pushed s f' fs ⟨.plain, if h then a else b, 0⟩
  | .whl t a => (test s.mem f.sc t).bind fun h => if h then pushed s { f with parts := p :: ps } fs ⟨.plain, a, 0⟩ else some (.on, { s with frs := f' :: fs })
  | .tr a x b => pushed s f' fs ⟨.tr x b, a, 0⟩
  | .la a b => pushed s f' fs ⟨.la b, a, 0⟩
/-- behind the part p of the frame f (whose other parts are ps) -/
def behind (s : MS) (f : Fr) (fs : List Fr) (p : Pt) (ps : List Pt) (o : Oc) : Option Cfg :=
  let f' : Fr := { f with parts := ps }
  match p.k, o with
  | .tr x b, .rs v => pushed { s with mem := put s.mem f.sc x v } f' fs ⟨.plain, b, 0⟩
  | .la b, o => pushed s f' fs ⟨.thn o, b, 0⟩
  | .thn o', .on => some (o', { s with frs := f' :: fs })
  | _, o => some (o, { s with frs := f' :: fs })
def leave (s : MS) (fs : List Fr) (o : Oc) : Option Cfg :=
  match fs with
  | [] => match o with
    | .rs v => some (.on, { s with fin := some (.raised (textOf v)) })
    | _ => some (.on, { s with fin := some .done })
  | _ :: _ => match o with
    | .rs v => some (.rs v, { s with frs := fs })
    | .ret v => some (.val v, { s with frs := fs })
    | _ => some (.val .non, { s with frs := fs })
def tick (c : Cfg) : Option (Nat × Cfg) :=
  match c.2.fin, c.2.frs with
  | some _, _ => none
  | none, [] => none
  | none, f :: fs => match c.1 with
    | .val v => f.pend.bind fun st => (finish c.2.mem f.sc st v).map fun (o, m) => (0, o, { c.2 with mem := m })
    | .on => match f.parts with
      | [] => (leave c.2 fs .on).map fun c' => (0, c')
      | p :: ps => match p.rows[p.place]? with
        | some st => (begin_ c.2 f fs p ps st).map fun c' => (1, c')
        | none => (behind c.2 f fs p ps .on).map fun c' => (0, c')
    | o => match f.parts with
      | [] => (leave c.2 fs o).map fun c' => (0, c')
      | p :: ps => (behind c.2 f fs p ps o).map fun c' => (0, c')

inductive Tk : Nat → Nat → Cfg → Cfg → Prop where
  | refl (c : Cfg) : Tk 0 0 c c
  | cons {b n m : Nat} {c c1 c2 : Cfg} : tick c = some (b, c1) → Tk n m c1 c2 → Tk (n + b) (m + 1) c c2

/-- the end: done, the lines printed, never deeper than 200 -/
def Fin_ (L : List Str) (c : Cfg) : Prop := c.1 = .on ∧ c.2.fin = some .done ∧ c.2.printed = L ∧ c.2.deep ≤ 200
/-- within N beginnings the end is reached -/
def W (L : List Str) (N : Nat) (c : Cfg) : Prop := ∃ n m c', n ≤ N ∧ Tk n m c c' ∧ Fin_ L c'

section
variable {L : List Str} {N : Nat}
theorem W.tick0 {c c1 : Cfg} (h : tick c = some (0, c1)) (w : W L N c1) : W L N c := by
  obtain ⟨n, m, c', hn, ht, hf⟩ := w
  exact ⟨n + 0, m + 1, c', by omega, .cons h ht, hf⟩
theorem W.tick1 {c c1 : Cfg} (h : tick c = some (1, c1)) (w : W L N c1) : W L (N + 1) c := by
  obtain ⟨n, m, c', hn, ht, hf⟩ := w
  exact ⟨n + 1, m + 1, c', by omega, .cons h ht, hf⟩
theorem W.mono {M : Nat} {c : Cfg} (w : W L N c) (h : N ≤ M) : W L M c := by
  obtain ⟨n, m, c', hn, ht, hf⟩ := w
  exact ⟨n, m, c', by omega, ht, hf⟩

variable {m m1 : Mem} {sc : Nat} {k : Pk} {rows : List Sm} {i : Nat} {ps : List Pt} {pd : Option Sm} {fs : List Fr} {pr : List Str} {d : Nat} {st : Sm}

/-- a statement with a simple right side -/
theorem W.ex {e : Ex} {v : Vl} {o : Oc} {m2 : Mem} (hr : rows[i]? = some st)
    (hst : (∃ x, st = .lt x (.ex e)) ∨ (∃ x, st = .st x (.ex e)) ∨ st = .ret (.ex e) ∨ st = .rs (.ex e))
    (h1 : simple m sc e = some (v, m1)) (h2 : finish m1 sc st v = some (o, m2))
    (w : W L N (o, ⟨m2, ⟨sc, ⟨k, rows, i + 1⟩ :: ps, pd⟩ :: fs, pr, none, d⟩)) :
    W L (N + 1) (.on, ⟨m, ⟨sc, ⟨k, rows, i⟩ :: ps, pd⟩ :: fs, pr, none, d⟩) := by
  refine W.tick1 ?_ w
  rcases hst with ⟨x, rfl⟩ | ⟨x, rfl⟩ | rfl | rfl <;> simp [tick, hr, begin_, right, h1, h2]
/-- a statement whose right side is a call of a function -/
theorem W.call {g : Ex} {as : List Ex} {vs : List Vl} {j : Nat} (hr : rows[i]? = some st)
    (hst : (∃ x, st = .lt x (.call g as)) ∨ (∃ x, st = .st x (.call g as)) ∨ st = .ret (.call g as) ∨ st = .rs (.call g as))
    (h1 : simples sc m (g :: as) = some (.fn j :: vs, m1)) (hl : fs.length + 1 ≤ 200)
    (w : W L N (.on, ⟨newSc m1 ⟨some (m1.fns j).sc, bind (m1.fns j).ps vs fun _ => none, j⟩, ⟨m1.nS, [⟨.plain, (m1.fns j).body, 0⟩], none⟩ :: ⟨sc, ⟨k, rows, i + 1⟩ :: ps, some st⟩ :: fs, pr, none, max d (fs.length + 1)⟩)) (ha : as.length ≤ 5 := by simp) :
    W L (N + 1) (.on, ⟨m, ⟨sc, ⟨k, rows, i⟩ :: ps, pd⟩ :: fs, pr, none, d⟩) := by
  refine W.tick1 ?_ w
  rcases hst with ⟨x, rfl⟩ | ⟨x, rfl⟩ | rfl | rfl <;> simp [tick, hr, begin_, right, ha, h1, enter, hl]
/-- .. of what is no function -/
theorem W.nofn {g : Ex} {as : List Ex} {v : Vl} {vs : List Vl} (hr : rows[i]? = some st)
    (hst : (∃ x, st = .lt x (.call g as)) ∨ (∃ x, st = .st x (.call g as)) ∨ st = .ret (.call g as) ∨ st = .rs (.call g as))
    (h1 : simples sc m (g :: as) = some (v :: vs, m1)) (hv : ∀ j, v ≠ .fn j)
    (w : W L N (.rs (.word "nofunc"), ⟨m1, ⟨sc, ⟨k, rows, i + 1⟩ :: ps, some st⟩ :: fs, pr, none, d⟩)) (ha : as.length ≤ 5 := by simp) :
    W L (N + 1) (.on, ⟨m, ⟨sc, ⟨k, rows, i⟩ :: ps, pd⟩ :: fs, pr, none, d⟩) := by
  refine W.tick1 ?_ w
  have he : enter ⟨m1, ⟨sc, ⟨k, rows, i + 1⟩ :: ps, some st⟩ :: fs, pr, none, d⟩ v vs = some (.rs (.word "nofunc"), ⟨m1, ⟨sc, ⟨k, rows, i + 1⟩ :: ps, some st⟩ :: fs, pr, none, d⟩) := by
    cases v with
    | fn j => exact absurd rfl (hv j)
    | non => rfl
    | word w => rfl
  rcases hst with ⟨x, rfl⟩ | ⟨x, rfl⟩ | rfl | rfl <;> simp [tick, hr, begin_, right, ha, h1, he]
theorem W.prt {e : Ex} {v : Vl} (hr : rows[i]? = some (.pr e)) (h1 : pureV m sc e = some v)
    (w : W L N (.on, ⟨m, ⟨sc, ⟨k, rows, i + 1⟩ :: ps, pd⟩ :: fs, pr ++ [textOf v], none, d⟩)) :
    W L (N + 1) (.on, ⟨m, ⟨sc, ⟨k, rows, i⟩ :: ps, pd⟩ :: fs, pr, none, d⟩) := by
  refine W.tick1 ?_ w
  simp [tick, hr, begin_, h1]
theorem W.iff {t : Te} {a b : List Sm} {h : Bool} (hr : rows[i]? = some (.iff t a b)) (h1 : holds m sc t = some h) (hl : ps.length + 1 ≤ 1000)
    (w : W L N (.on, ⟨m, ⟨sc, ⟨.plain, if h then a else b, 0⟩ :: ⟨k, rows, i + 1⟩ :: ps, pd⟩ :: fs, pr, none, d⟩)) (hd : dep t ≤ 3 := by decide) :
    W L (N + 1) (.on, ⟨m, ⟨sc, ⟨k, rows, i⟩ :: ps, pd⟩ :: fs, pr, none, d⟩) := by
  refine W.tick1 ?_ w
  simp [tick, hr, begin_, test, hd, h1, pushed, hl]
theorem W.whl1 {t : Te} {a : List Sm} (hr : rows[i]? = some (.whl t a)) (h1 : holds m sc t = some true) (hl : ps.length + 1 ≤ 1000)
    (w : W L N (.on, ⟨m, ⟨sc, ⟨.plain, a, 0⟩ :: ⟨k, rows, i⟩ :: ps, pd⟩ :: fs, pr, none, d⟩)) (hd : dep t ≤ 3 := by decide) :
    W L (N + 1) (.on, ⟨m, ⟨sc, ⟨k, rows, i⟩ :: ps, pd⟩ :: fs, pr, none, d⟩) := by
  refine W.tick1 ?_ w
  simp [tick, hr, begin_, test, hd, h1, pushed, hl]
theorem W.whl0 {t : Te} {a : List Sm} (hr : rows[i]? = some (.whl t a)) (h1 : holds m sc t = some false)
    (w : W L N (.on, ⟨m, ⟨sc, ⟨k, rows, i + 1⟩ :: ps, pd⟩ :: fs, pr, none, d⟩)) (hd : dep t ≤ 3 := by decide) :
    W L (N + 1) (.on, ⟨m, ⟨sc, ⟨k, rows, i⟩ :: ps, pd⟩ :: fs, pr, none, d⟩) := by
  refine W.tick1 ?_ w
  simp [tick, hr, begin_, test, hd, h1]
theorem W.tr {a b : List Sm} {x : Nm} (hr : rows[i]? = some (.tr a x b)) (hl : ps.length + 1 ≤ 1000)
    (w : W L N (.on, ⟨m, ⟨sc, ⟨.tr x b, a, 0⟩ :: ⟨k, rows, i + 1⟩ :: ps, pd⟩ :: fs, pr, none, d⟩)) :
    W L (N + 1) (.on, ⟨m, ⟨sc, ⟨k, rows, i⟩ :: ps, pd⟩ :: fs, pr, none, d⟩) := by
  refine W.tick1 ?_ w
  simp [tick, hr, begin_, pushed, hl]
theorem W.la {a b : List Sm} (hr : rows[i]? = some (.la a b)) (hl : ps.length + 1 ≤ 1000)
    (w : W L N (.on, ⟨m, ⟨sc, ⟨.la b, a, 0⟩ :: ⟨k, rows, i + 1⟩ :: ps, pd⟩ :: fs, pr, none, d⟩)) :
    W L (N + 1) (.on, ⟨m, ⟨sc, ⟨k, rows, i⟩ :: ps, pd⟩ :: fs, pr, none, d⟩) := by
  refine W.tick1 ?_ w
  simp [tick, hr, begin_, pushed, hl]
/-- a value comes to the statement that waits -/
theorem W.val {v : Vl} {o : Oc} {m2 : Mem} {parts : List Pt} (h2 : finish m sc st v = some (o, m2))
    (w : W L N (o, ⟨m2, ⟨sc, parts, some st⟩ :: fs, pr, none, d⟩)) : W L N (.val v, ⟨m, ⟨sc, parts, some st⟩ :: fs, pr, none, d⟩) := by
  refine W.tick0 ?_ w
  simp [tick, h2]
/-- the end of a part: plain, or of a try -/
theorem W.pop (hr : rows[i]? = none) (hk : k = .plain ∨ ∃ x b, k = .tr x b) (w : W L N (.on, ⟨m, ⟨sc, ps, pd⟩ :: fs, pr, none, d⟩)) :
    W L N (.on, ⟨m, ⟨sc, ⟨k, rows, i⟩ :: ps, pd⟩ :: fs, pr, none, d⟩) := by
  refine W.tick0 ?_ w
  rcases hk with rfl | ⟨x, b, rfl⟩ <;> simp [tick, hr, behind]
/-- the end of a last's first block whose second one is empty, well ended -/
theorem W.popLa (hr : rows[i]? = none) (hl : ps.length ≤ 1000) (w : W L N (.on, ⟨m, ⟨sc, ps, pd⟩ :: fs, pr, none, d⟩)) :
    W L N (.on, ⟨m, ⟨sc, ⟨.la [], rows, i⟩ :: ps, pd⟩ :: fs, pr, none, d⟩) := by
  refine W.tick0 (c1 := (.on, ⟨m, ⟨sc, ⟨.thn .on, [], 0⟩ :: ps, pd⟩ :: fs, pr, none, d⟩)) ?_ (W.tick0 ?_ w)
  · simp [tick, hr, behind, pushed, hl]
  · simp [tick, behind]
/-- a return leaves a plain part, a try's first block -/
theorem W.popRet {v : Vl} (hk : k = .plain ∨ ∃ x b, k = .tr x b) (w : W L N (.ret v, ⟨m, ⟨sc, ps, pd⟩ :: fs, pr, none, d⟩)) :
    W L N (.ret v, ⟨m, ⟨sc, ⟨k, rows, i⟩ :: ps, pd⟩ :: fs, pr, none, d⟩) := by
  refine W.tick0 ?_ w
  rcases hk with rfl | ⟨x, b, rfl⟩ <;> simp [tick, behind]
theorem W.popRs {v : Vl} (w : W L N (.rs v, ⟨m, ⟨sc, ps, pd⟩ :: fs, pr, none, d⟩)) :
    W L N (.rs v, ⟨m, ⟨sc, ⟨.plain, rows, i⟩ :: ps, pd⟩ :: fs, pr, none, d⟩) := by
  refine W.tick0 ?_ w
  simp [tick, behind]
/-- a try catches -/
theorem W.catch_ {v : Vl} {x : Nm} {b : List Sm} (hl : ps.length ≤ 1000) (w : W L N (.on, ⟨put m sc x v, ⟨sc, ⟨.plain, b, 0⟩ :: ps, pd⟩ :: fs, pr, none, d⟩)) :
    W L N (.rs v, ⟨m, ⟨sc, ⟨.tr x b, rows, i⟩ :: ps, pd⟩ :: fs, pr, none, d⟩) := by
  refine W.tick0 ?_ w
  simp [tick, behind, pushed, hl]
/-- a call is left -/
theorem W.leaveRet {v : Vl} {f : Fr} (w : W L N (.val v, ⟨m, f :: fs, pr, none, d⟩)) : W L N (.ret v, ⟨m, ⟨sc, [], pd⟩ :: f :: fs, pr, none, d⟩) := by
  refine W.tick0 ?_ w
  simp [tick, leave]
theorem W.leaveRs {v : Vl} {f : Fr} (w : W L N (.rs v, ⟨m, f :: fs, pr, none, d⟩)) : W L N (.rs v, ⟨m, ⟨sc, [], pd⟩ :: f :: fs, pr, none, d⟩) := by
  refine W.tick0 ?_ w
  simp [tick, leave]
/-- the end -/
theorem W.fin (hd : d ≤ 200) : W pr 0 (.on, ⟨m, [⟨sc, [], pd⟩], pr, none, d⟩) :=
  W.tick0 (c1 := (.on, ⟨m, [⟨sc, [], pd⟩], pr, some .done, d⟩)) (by simp [tick, leave]) ⟨0, 0, _, Nat.le_refl _, .refl _, rfl, rfl, rfl, hd⟩
end
end K38
end
section
set_option autoImplicit false
/-! K38B: the program of the law as syntax, what its functions do on the abstract machine. -/
namespace K38
open PySem

def callE (f : Nm) (as : List Ex) : Rt := .call (.name f) as
def isNon (x : Nm) : Te := .same (.name x) .non
def cellBody : List Sm := [.ret (.call (.name 11) [.name 9, .name 10])]
def pick (p : Nm) : Ex := .fn [9, 10] [.ret (.ex (.name p))]
def pickBody (p : Nm) : List Sm := [.ret (.call (.name 9) [pick p])]
def loopS (name one : Nm) (rows : List Sm) : Sm :=
  .whl (.not (isNon name)) ([.lt one (callE 1 [.name name])] ++ rows ++ [.st name (callE 2 [.name name])])
def turnBody : List Sm := [.lt 10 (.ex .non), loopS 9 11 [.st 10 (callE 0 [.name 11, .name 10])], .ret (.ex (.name 10))]
def joinBody : List Sm := [.iff (isNon 9) [.ret (.ex (.name 10))] [], .lt 11 (callE 1 [.name 9]), .st 9 (callE 2 [.name 9]),
  .st 10 (callE 4 [.name 9, .name 10]), .ret (callE 0 [.name 11, .name 10])]
def lookBody (w0 w1 : Str) : List Sm := [.tr [loopS 9 11 [.iff (.same (.name 11) (.name 10)) [.rs (.ex (.word w0))] []], .ret (.ex (.word w1))] 11 [.ret (.ex (.name 11))]]
def defPs : Nat → List Nm
  | 0 => [9, 10] | 1 => [9] | 2 => [9] | 3 => [9] | 4 => [9, 10] | _ => [9, 10]
def fnBody (w0 w1 : Str) : Nat → List Sm
  | 0 => [.ret (.ex (.fn [11] cellBody))] | 1 => pickBody 9 | 2 => pickBody 10 | 3 => turnBody | 4 => joinBody | _ => lookBody w0 w1

inductive Th where
  | w (x : Str) | l (xs : List Th)
def thText : Th → Str
  | .w x => x | .l [] => "none" | .l (_ :: _) => "function"

mutual
def IsT (m : Mem) : Th → Vl → Prop
  | .w x, v => v = .word x
  | .l xs, v => IsL m xs v
def IsL (m : Mem) : List Th → Vl → Prop
  | [], v => v = .non
  | x :: xs, v => ∃ (i c : Nat) (vx vt : Vl), v = .fn i ∧ i < m.nF ∧ m.fns i = ⟨[11], cellBody, c⟩ ∧ (m.scs c).of = 0 ∧ c < m.nS ∧
      (m.scs c).outer = some 0 ∧ (m.scs c).held 9 = some vx ∧ (m.scs c).held 10 = some vt ∧ IsT m x vx ∧ IsL m xs vt
end

/-- all old functions and cells stay -/
structure ExtZ (m m' : Mem) : Prop where
  nF : m.nF ≤ m'.nF
  fns : ∀ i, i < m.nF → m'.fns i = m.fns i
  nS : m.nS ≤ m'.nS
  cel : ∀ i, i < m.nS → (m.scs i).of = 0 → m'.scs i = m.scs i
/-- .. and all old scopes -/
structure Ext (m m' : Mem) : Prop extends ExtZ m m' where
  all : ∀ i, i < m.nS → m'.scs i = m.scs i
theorem Ext.mk' {m m' : Mem} (nF : m.nF ≤ m'.nF) (fns : ∀ i, i < m.nF → m'.fns i = m.fns i) (nS : m.nS ≤ m'.nS) (all : ∀ i, i < m.nS → m'.scs i = m.scs i) : Ext m m' :=
  ⟨⟨nF, fns, nS, fun i hi _ => all i hi⟩, all⟩
theorem ExtZ.refl (m : Mem) : ExtZ m m := ⟨Nat.le_refl _, fun _ _ => rfl, Nat.le_refl _, fun _ _ _ => rfl⟩
theorem Ext.refl (m : Mem) : Ext m m := ⟨.refl m, fun _ _ => rfl⟩
theorem ExtZ.trans {a b c : Mem} (h : ExtZ a b) (g : ExtZ b c) : ExtZ a c :=
  ⟨Nat.le_trans h.nF g.nF, fun i hi => (g.fns i (Nat.lt_of_lt_of_le hi h.nF)).trans (h.fns i hi), Nat.le_trans h.nS g.nS,
    fun i hi h0 => (g.cel i (Nat.lt_of_lt_of_le hi h.nS) (by rw [h.cel i hi h0]; exact h0)).trans (h.cel i hi h0)⟩
theorem Ext.trans {a b c : Mem} (h : Ext a b) (g : Ext b c) : Ext a c :=
  ⟨h.toExtZ.trans g.toExtZ, fun i hi => (g.all i (Nat.lt_of_lt_of_le hi h.nS)).trans (h.all i hi)⟩
theorem ext_sc (m : Mem) (s : Sc) : Ext m (newSc m s) :=
  .mk' (Nat.le_refl _) (fun _ _ => rfl) (Nat.le_succ _) fun i hi => by simp [newSc, Nat.ne_of_lt hi]
theorem ext_fn (m : Mem) (f : Fn) : Ext m (newFn m f) :=
  .mk' (Nat.le_succ _) (fun i hi => by simp [newFn, Nat.ne_of_lt hi]) (Nat.le_refl _) fun _ _ => rfl
theorem Ext.put {a b : Mem} (h : Ext a b) {i : Nat} (hi : a.nS ≤ i) (x : Nm) (v : Vl) : Ext a (put b i x v) :=
  .mk' h.nF h.fns h.nS fun j hj => by
    have : j ≠ i := by omega
    simp [K38.put, this, h.all j hj]
theorem extZ_put (m : Mem) {i : Nat} (hi : (m.scs i).of ≠ 0) (x : Nm) (v : Vl) : ExtZ m (put m i x v) :=
  ⟨Nat.le_refl _, fun _ _ => rfl, Nat.le_refl _, fun j _ h0 => by
    have : j ≠ i := fun e => by subst e; exact hi h0
    simp [K38.put, this]⟩

mutual
theorem IsT.ext {m m' : Mem} (h : ExtZ m m') : ∀ (x : Th) (v : Vl), IsT m x v → IsT m' x v
  | .w x, v, q => by unfold IsT at q ⊢; exact q
  | .l xs, v, q => by unfold IsT at q ⊢; exact IsL.ext h xs v q
theorem IsL.ext {m m' : Mem} (h : ExtZ m m') : ∀ (xs : List Th) (v : Vl), IsL m xs v → IsL m' xs v
  | [], v, q => by unfold IsL at q ⊢; exact q
  | x :: xs, v, q => by
    unfold IsL at q ⊢
    obtain ⟨i, c, vx, vt, rfl, h1, h2, h3, h4, h5, h6, h7, h8, h9⟩ := q
    have e := h.cel c h4 h3
    exact ⟨i, c, vx, vt, rfl, Nat.lt_of_lt_of_le h1 h.nF, (h.fns i h1).trans h2, by rw [e]; exact h3, Nat.lt_of_lt_of_le h4 h.nS, by rw [e]; exact h5, by rw [e]; exact h6, by rw [e]; exact h7, IsT.ext h x vx h8, IsL.ext h xs vt h9⟩
end
theorem IsT.text {m : Mem} : ∀ {x : Th} {v : Vl}, IsT m x v → textOf v = thText x
  | .w x, v, q => by unfold IsT at q; subst q; rfl
  | .l [], v, q => by unfold IsT IsL at q; subst q; rfl
  | .l (x :: xs), v, q => by
    unfold IsT IsL at q
    obtain ⟨i, c, vx, vt, rfl, _⟩ := q
    rfl

theorem near_own {m : Mem} {c : Nat} {x : Nm} {v : Vl} (h : (m.scs c).held x = some v) : nearest m.scs 5 c x = some c := by
  simp [nearest, h]
theorem look_own {m : Mem} {c : Nat} {x : Nm} {v : Vl} (h : (m.scs c).held x = some v) : look m c x = some v := by
  simp [look, near_own h, h]
theorem look_up {m : Mem} {c j : Nat} {x : Nm} {v : Vl} (h0 : (m.scs c).held x = none) (ho : (m.scs c).outer = some j) (h : (m.scs j).held x = some v) : look m c x = some v := by
  simp [look, nearest, h0, ho, h]

/-- the ground, with the six functions -/
structure Gd (w0 w1 : Str) (m : Mem) : Prop where
  of : (m.scs 0).of ≠ 0
  nS : 0 < m.nS
  nF : 6 ≤ m.nF
  out : (m.scs 0).outer = none
  h0 : (m.scs 0).held 0 = some (.fn 0)
  h1 : (m.scs 0).held 1 = some (.fn 1)
  h2 : (m.scs 0).held 2 = some (.fn 2)
  h3 : (m.scs 0).held 3 = some (.fn 3)
  h4 : (m.scs 0).held 4 = some (.fn 4)
  h5 : (m.scs 0).held 5 = some (.fn 5)
  fn : ∀ i, i < 6 → m.fns i = ⟨defPs i, fnBody w0 w1 i, 0⟩
theorem Gd.ext {w0 w1 : Str} {m m' : Mem} (g : Gd w0 w1 m) (h : Ext m m') : Gd w0 w1 m' := by
  have e := h.all 0 g.nS
  exact ⟨by rw [e]; exact g.of, Nat.lt_of_lt_of_le g.nS h.nS, Nat.le_trans g.nF h.nF, by rw [e]; exact g.out, by rw [e]; exact g.h0, by rw [e]; exact g.h1, by rw [e]; exact g.h2, by rw [e]; exact g.h3, by rw [e]; exact g.h4, by rw [e]; exact g.h5,
    fun i hi => (h.fns i (Nat.lt_of_lt_of_le hi g.nF)).trans (g.fn i hi)⟩
theorem Gd.put {w0 w1 : Str} {m : Mem} (g : Gd w0 w1 m) {x : Nm} (hx : 6 ≤ x.val) (v : Vl) : Gd w0 w1 (put m 0 x v) := by
  have ne : ∀ y : Nm, y.val < 6 → y ≠ x := fun y hy e => by subst e; omega
  refine ⟨?_, g.nS, g.nF, ?_, ?_, ?_, ?_, ?_, ?_, ?_, g.fn⟩
  · simp [K38.put]; exact g.of
  · simp [K38.put]; exact g.out
  all_goals simp only [K38.put, if_true, setH]
  · rw [if_neg (ne _ (by decide))]; exact g.h0
  · rw [if_neg (ne _ (by decide))]; exact g.h1
  · rw [if_neg (ne _ (by decide))]; exact g.h2
  · rw [if_neg (ne _ (by decide))]; exact g.h3
  · rw [if_neg (ne _ (by decide))]; exact g.h4
  · rw [if_neg (ne _ (by decide))]; exact g.h5

/-- the function j is entered with vs, from the frame F -/
def ent (m : Mem) (j : Nat) (vs : List Vl) (F : Fr) (fs : List Fr) (pr : List Str) (d : Nat) : Cfg :=
  (.on, ⟨newSc m ⟨some (m.fns j).sc, bind (m.fns j).ps vs fun _ => none, j⟩, ⟨m.nS, [⟨.plain, (m.fns j).body, 0⟩], none⟩ :: F :: fs, pr, none, max d (fs.length + 1)⟩)

theorem scs_new (m : Mem) (s : Sc) : (newSc m s).scs m.nS = s := by simp [newSc]
theorem scs_old (m : Mem) (s : Sc) {i : Nat} (h : i < m.nS) : (newSc m s).scs i = m.scs i := by simp [newSc, Nat.ne_of_lt h]
theorem scs_fn (m : Mem) (f : Fn) (i : Nat) : (newFn m f).scs i = m.scs i := rfl
theorem fns_sc (m : Mem) (s : Sc) (i : Nat) : (newSc m s).fns i = m.fns i := rfl
theorem fns_new (m : Mem) (f : Fn) : (newFn m f).fns m.nF = f := by simp [newFn]
theorem fns_old (m : Mem) (f : Fn) {i : Nat} (h : i < m.nF) : (newFn m f).fns i = m.fns i := by simp [newFn, Nat.ne_of_lt h]

section
variable {L : List Str} {N : Nat} {w0 w1 : Str} {m : Mem} {F : Fr} {fs : List Fr} {pr : List Str} {d : Nat} {x : Th} {xs ys : List Th} {v vx vt : Vl}

theorem cons_ok (g : Gd w0 w1 m) (hx : IsT m x vx) (ht : IsL m xs vt) (hd : d ≤ 200) (hl : fs.length + 1 ≤ 200)
    (K : ∀ m' v d', Ext m m' → IsL m' (x :: xs) v → d' ≤ 200 → W L N (.val v, ⟨m', F :: fs, pr, none, d'⟩)) :
    W L (N + 1) (ent m 0 [vx, vt] F fs pr d) := by
  unfold ent
  rw [g.fn 0 (by decide)]
  refine W.ex (e := .fn [11] cellBody) rfl (.inr (.inr (.inl rfl))) rfl rfl (W.popRet (.inl rfl) (W.leaveRet (K _ _ _ ?_ ?_ ?_)))
  · exact (ext_sc m _).trans (ext_fn _ _)
  · unfold IsL
    refine ⟨_, m.nS, vx, vt, rfl, Nat.lt_succ_self _, fns_new _ _, ?_, Nat.lt_succ_self _, ?_, ?_, ?_, IsT.ext ((ext_sc m _).trans (ext_fn _ _)).toExtZ _ _ hx, IsL.ext ((ext_sc m _).trans (ext_fn _ _)).toExtZ _ _ ht⟩
    · rw [scs_fn, scs_new]
    · rw [scs_fn, scs_new]
    · rw [scs_fn, scs_new]; rfl
    · rw [scs_fn, scs_new]; rfl
  · omega

/-- head (p = 9) and tail (p = 10) -/
theorem pick_ok {j : Nat} {p : Nm} (hj : m.fns j = ⟨[9], pickBody p, 0⟩) (hp : p = 9 ∨ p = 10) (hv : IsL m (x :: xs) v) (hd : d ≤ 200) (hl : fs.length + 3 ≤ 200)
    (K : ∀ m' vx vt d', Ext m m' → IsT m' x vx → IsL m' xs vt → d' ≤ 200 → W L N (.val (if p = 9 then vx else vt), ⟨m', F :: fs, pr, none, d'⟩)) :
    W L (N + 3) (ent m j [v] F fs pr d) := by
  unfold IsL at hv
  obtain ⟨i, c, vx, vt, rfl, h1, h2, h3, h4, h5, h6, h7, h8, h9⟩ := hv
  unfold ent
  rw [hj]
  generalize hm1 : newSc m ⟨some 0, bind [9] [Vl.fn i] fun _ => none, j⟩ = m1
  have e01 : Ext m m1 := by rw [← hm1]; exact ext_sc _ _
  have a1 : m1.scs m.nS = ⟨some 0, bind [9] [Vl.fn i] fun _ => none, j⟩ := by rw [← hm1, scs_new]
  have n1 : m1.nS = m.nS + 1 := by rw [← hm1]; rfl
  -- return one(pick)
  generalize hm2 : newFn m1 ⟨[9, 10], [.ret (.ex (.name p))], m.nS⟩ = m2
  have e12 : Ext m1 m2 := by rw [← hm2]; exact ext_fn _ _
  have b2 : m2.fns m1.nF = ⟨[9, 10], [.ret (.ex (.name p))], m.nS⟩ := by rw [← hm2, fns_new]
  have n2 : m2.nS = m.nS + 1 := by rw [← hm2]; exact n1
  have q2 : m1.nF < m2.nF := by rw [← hm2]; exact Nat.lt_succ_self _
  have s1 : simples m.nS m1 [.name 9, pick p] = some ([.fn i, .fn m1.nF], m2) := by
    have l9 : look m1 m.nS 9 = some (.fn i) := look_own (by rw [a1]; rfl)
    simp only [simples, simple, if_pos (show ([9, 10] : List Nm).length ≤ 3 by decide), pick, l9, Option.map_some, Option.bind_some, hm2]
  refine W.call (st := .ret (.call (.name 9) [pick p])) rfl (.inr (.inr (.inl rfl))) s1 (by simp; omega) ?_
  have f2 : m2.fns i = ⟨[11], cellBody, c⟩ := by rw [e12.fns i (Nat.lt_of_lt_of_le h1 e01.nF), e01.fns i h1, h2]
  rw [f2, n2]
  generalize hm3 : newSc m2 ⟨some c, bind [11] [Vl.fn m1.nF] fun _ => none, i⟩ = m3
  have e23 : Ext m2 m3 := by rw [← hm3]; exact ext_sc _ _
  have a3 : m3.scs (m.nS + 1) = ⟨some c, bind [11] [Vl.fn m1.nF] fun _ => none, i⟩ := by rw [← hm3, ← n2, scs_new]
  have c3 : m3.scs c = m.scs c := by rw [e23.all c (by have := e01.nS; have := e12.nS; omega), e12.all c (by have := e01.nS; omega), e01.all c h4]
  have n3 : m3.nS = m.nS + 2 := by rw [← hm3]; show m2.nS + 1 = _; omega
  -- return more(one, other)
  have s3 : simples (m.nS + 1) m3 [.name 11, .name 9, .name 10] = some ([.fn m1.nF, vx, vt], m3) := by
    have l11 : look m3 (m.nS + 1) 11 = some (.fn m1.nF) := look_own (by rw [a3]; rfl)
    have l9 : look m3 (m.nS + 1) 9 = some vx := look_up (j := c) (by rw [a3]; rfl) (by rw [a3]) (by rw [c3]; exact h6)
    have l10 : look m3 (m.nS + 1) 10 = some vt := look_up (j := c) (by rw [a3]; rfl) (by rw [a3]) (by rw [c3]; exact h7)
    simp only [simples, simple, l11, l9, l10, Option.map_some, Option.bind_some]
  refine W.call (st := .ret (.call (.name 11) [.name 9, .name 10])) rfl (.inr (.inr (.inl rfl))) s3 (by simp; omega) ?_
  have f3 : m3.fns m1.nF = ⟨[9, 10], [.ret (.ex (.name p))], m.nS⟩ := by rw [e23.fns _ q2, b2]
  rw [f3, n3]
  generalize hm4 : newSc m3 ⟨some m.nS, bind [9, 10] [vx, vt] fun _ => none, m1.nF⟩ = m4
  have e34 : Ext m3 m4 := by rw [← hm4]; exact ext_sc _ _
  have a4 : m4.scs (m.nS + 2) = ⟨some m.nS, bind [9, 10] [vx, vt] fun _ => none, m1.nF⟩ := by rw [← hm4, ← n3, scs_new]
  have l4 : look m4 (m.nS + 2) p = some (if p = 9 then vx else vt) := by
    rcases hp with rfl | rfl
    · exact look_own (by rw [a4]; rfl)
    · exact look_own (by rw [a4]; rfl)
  have s4 : simple m4 (m.nS + 2) (.name p) = some (if p = 9 then vx else vt, m4) := by simp only [simple, l4, Option.map_some]
  refine W.ex (e := .name p) rfl (.inr (.inr (.inl rfl))) s4 rfl (W.popRet (.inl rfl) (W.leaveRet ?_))
  have e04 : Ext m m4 := e01.trans (e12.trans (e23.trans e34))
  refine W.val rfl (W.popRet (.inl rfl) (W.leaveRet (W.val rfl (W.popRet (.inl rfl) (W.leaveRet ?_)))))
  exact K m4 vx vt _ e04 (IsT.ext e04.toExtZ _ _ h8) (IsL.ext e04.toExtZ _ _ h9) (by simp; omega)
theorem head_ok (g : Gd w0 w1 m) (hv : IsL m (x :: xs) v) (hd : d ≤ 200) (hl : fs.length + 3 ≤ 200)
    (K : ∀ m' vx d', Ext m m' → IsT m' x vx → d' ≤ 200 → W L N (.val vx, ⟨m', F :: fs, pr, none, d'⟩)) :
    W L (N + 3) (ent m 1 [v] F fs pr d) :=
  pick_ok (g.fn 1 (by decide)) (.inl rfl) hv hd hl fun m' vx _ d' a b _ c => K m' vx d' a b c
theorem tail_ok (g : Gd w0 w1 m) (hv : IsL m (x :: xs) v) (hd : d ≤ 200) (hl : fs.length + 3 ≤ 200)
    (K : ∀ m' vt d', Ext m m' → IsL m' xs vt → d' ≤ 200 → W L N (.val vt, ⟨m', F :: fs, pr, none, d'⟩)) :
    W L (N + 3) (ent m 2 [v] F fs pr d) :=
  pick_ok (g.fn 2 (by decide)) (.inr rfl) hv hd hl fun m' _ vt d' a _ b c => K m' vt d' a b c
/-- head and tail of the empty list -/
theorem pick_nil {j : Nat} {p : Nm} (hj : m.fns j = ⟨[9], pickBody p, 0⟩) (hd : d ≤ 200) (hl : fs.length + 3 ≤ 200)
    (K : ∀ m' d', Ext m m' → d' ≤ 200 → W L N (.rs (.word "nofunc"), ⟨m', F :: fs, pr, none, d'⟩)) :
    W L (N + 1) (ent m j [.non] F fs pr d) := by
  unfold ent
  rw [hj]
  generalize hm1 : newSc m ⟨some 0, bind [9] [Vl.non] fun _ => none, j⟩ = m1
  have e01 : Ext m m1 := by rw [← hm1]; exact ext_sc _ _
  have a1 : m1.scs m.nS = ⟨some 0, bind [9] [Vl.non] fun _ => none, j⟩ := by rw [← hm1, scs_new]
  have s1 : simples m.nS m1 [.name 9, pick p] = some ([.non, .fn m1.nF], newFn m1 ⟨[9, 10], [.ret (.ex (.name p))], m.nS⟩) := by
    have l9 : look m1 m.nS 9 = some .non := look_own (by rw [a1]; rfl)
    simp only [simples, simple, if_pos (show ([9, 10] : List Nm).length ≤ 3 by decide), pick, l9, Option.map_some, Option.bind_some]
  refine W.nofn (st := .ret (.call (.name 9) [pick p])) rfl (.inr (.inr (.inl rfl))) s1 (fun j e => nomatch e) (W.popRs (W.leaveRs (K _ _ (e01.trans (ext_fn _ _)) ?_)))
  omega

end
end K38
end
section
set_option autoImplicit false
set_option linter.unusedVariables false
/-! K38C: turn, join, look. -/
namespace K38
open PySem
section
variable {L : List Str} {N : Nat} {w0 w1 : Str} {m : Mem} {F : Fr} {fs : List Fr} {pr : List Str} {d : Nat} {x : Th} {xs ys : List Th} {v vx vt : Vl}

/-- a call of a def of the ground, in any statement: what stands at the right side -/
theorem W.callG {k : Pk} {rows : List Sm} {i : Nat} {ps : List Pt} {pd : Option Sm} {st : Sm} {sc j : Nat} {g : Ex} {as : List Ex} {vs : List Vl} {m1 : Mem} (hr : rows[i]? = some st)
    (hst : (∃ x, st = .lt x (.call g as)) ∨ (∃ x, st = .st x (.call g as)) ∨ st = .ret (.call g as) ∨ st = .rs (.call g as))
    (h1 : simples sc m (g :: as) = some (.fn j :: vs, m1)) (hl : fs.length + 1 ≤ 200)
    (w : W L N (ent m1 j vs ⟨sc, ⟨k, rows, i + 1⟩ :: ps, some st⟩ fs pr d)) (ha : as.length ≤ 5 := by simp) :
    W L (N + 1) (.on, ⟨m, ⟨sc, ⟨k, rows, i⟩ :: ps, pd⟩ :: fs, pr, none, d⟩) := W.call hr hst h1 hl w ha

theorem put_own {i : Nat} {y : Nm} : (put m i y v).scs i = ⟨(m.scs i).outer, setH (m.scs i).held y v, (m.scs i).of⟩ := by simp [put]
theorem setH_ne {h : Nm → Option Vl} {y z : Nm} (e : z ≠ y) : setH h y v z = h z := by simp [setH, e]

/-- what the scope c of a function over the ground holds: one, other, perhaps more; the others are the ground's -/
structure Lc (m : Mem) (c : Nat) (one other : Vl) : Prop where
  out : (m.scs c).outer = some 0
  of : (m.scs c).of ≠ 0
  one : (m.scs c).held 9 = some one
  oth : (m.scs c).held 10 = some other
  gr : ∀ y : Nm, y.val < 6 → (m.scs c).held y = none
theorem Lc.ext {m m' : Mem} {c : Nat} {a b : Vl} (h : Lc m c a b) (e : Ext m m') (hc : c < m.nS) : Lc m' c a b := by
  have q := e.all c hc
  exact ⟨by rw [q]; exact h.out, by rw [q]; exact h.of, by rw [q]; exact h.one, by rw [q]; exact h.oth, fun y hy => by rw [q]; exact h.gr y hy⟩
theorem Lc.putGr {m : Mem} {c : Nat} {a b : Vl} (h : Lc m c a b) (u : Vl) {z : Nm} (hz : 9 ≤ z.val) : ∀ y : Nm, y.val < 6 → ((put m c z u).scs c).held y = none := fun y hy => by
  rw [put_own]
  show setH _ z u y = none
  rw [setH_ne (fun e => by subst e; omega)]
  exact h.gr y hy
theorem Lc.put9 {m : Mem} {c : Nat} {a b : Vl} (h : Lc m c a b) (u : Vl) : Lc (put m c 9 u) c u b :=
  ⟨by rw [put_own]; exact h.out, by rw [put_own]; exact h.of, by rw [put_own]; rfl, by rw [put_own]; exact h.oth, h.putGr u (by decide)⟩
theorem Lc.put10 {m : Mem} {c : Nat} {a b : Vl} (h : Lc m c a b) (u : Vl) : Lc (put m c 10 u) c a u :=
  ⟨by rw [put_own]; exact h.out, by rw [put_own]; exact h.of, by rw [put_own]; exact h.one, by rw [put_own]; rfl, h.putGr u (by decide)⟩
theorem Lc.put11 {m : Mem} {c : Nat} {a b : Vl} (h : Lc m c a b) (u : Vl) : Lc (put m c 11 u) c a b :=
  ⟨by rw [put_own]; exact h.out, by rw [put_own]; exact h.of, by rw [put_own]; exact h.one, by rw [put_own]; exact h.oth, h.putGr u (by decide)⟩
theorem Lc.l9 {m : Mem} {c : Nat} {a b : Vl} (h : Lc m c a b) : look m c 9 = some a := look_own h.one
theorem Lc.l10 {m : Mem} {c : Nat} {a b : Vl} (h : Lc m c a b) : look m c 10 = some b := look_own h.oth
theorem Lc.lg {m : Mem} {c : Nat} {a b u : Vl} (h : Lc m c a b) {y : Nm} (hy : y.val < 6) (g : (m.scs 0).held y = some u) : look m c y = some u := look_up (h.gr y hy) h.out g
theorem Gd.put' {m : Mem} (g : Gd w0 w1 m) {c : Nat} (hc : 0 < c) (y : Nm) (u : Vl) : Gd w0 w1 (K38.put m c y u) := by
  have e : (K38.put m c y u).scs 0 = m.scs 0 := by simp [K38.put, Nat.ne_of_lt hc]
  exact ⟨by rw [e]; exact g.of, g.nS, g.nF, by rw [e]; exact g.out, by rw [e]; exact g.h0, by rw [e]; exact g.h1, by rw [e]; exact g.h2, by rw [e]; exact g.h3, by rw [e]; exact g.h4, by rw [e]; exact g.h5, g.fn⟩
theorem isL_fn {m : Mem} (h : IsL m (x :: xs) v) : ∃ i, v = .fn i := by
  unfold IsL at h
  obtain ⟨i, _, _, _, e, _⟩ := h
  exact ⟨i, e⟩
theorem isL_nil {m : Mem} (h : IsL m [] v) : v = .non := by unfold IsL at h; exact h
theorem isL_mk {m : Mem} : IsL m [] .non := by unfold IsL; rfl
/-- the test «one = none» -/
theorem test_cons {m : Mem} {c : Nat} {y : Nm} (h : look m c y = some v) (q : IsL m (x :: xs) v) : holds m c (isNon y) = some false := by
  obtain ⟨i, rfl⟩ := isL_fn q
  simp [isNon, holds, pureV, h, same]
theorem test_nil {m : Mem} {c : Nat} {y : Nm} (h : look m c y = some v) (q : IsL m [] v) : holds m c (isNon y) = some true := by
  cases isL_nil q
  simp [isNon, holds, pureV, h, same]
theorem test_not {m : Mem} {c : Nat} {t : Te} {b : Bool} (h : holds m c t = some b) : holds m c (.not t) = some (!b) := by simp [holds, h]
theorem fin_st {m : Mem} {c : Nat} {y : Nm} {r : Rt} {u : Vl} (h : (m.scs c).held y = some u) : finish m c (.st y r) v = some (.on, put m c y v) := by
  simp [finish, near_own h]

/-- what stands in a frame of turn, join, look: the call's memory m0, the memory now, the frame's scope -/
structure Here (w0 w1 : Str) (m0 m : Mem) (c : Nat) (a b : Vl) : Prop where
  gd : Gd w0 w1 m
  ext : Ext m0 m
  c0 : 0 < c
  hc : m0.nS ≤ c
  cS : c < m.nS
  lc : Lc m c a b
theorem Here.put9 {m0 m : Mem} {c : Nat} {a b : Vl} (h : Here w0 w1 m0 m c a b) (u : Vl) : Here w0 w1 m0 (put m c 9 u) c u b :=
  ⟨h.gd.put' h.c0 _ _, h.ext.put h.hc _ _, h.c0, h.hc, h.cS, h.lc.put9 u⟩
theorem Here.put10 {m0 m : Mem} {c : Nat} {a b : Vl} (h : Here w0 w1 m0 m c a b) (u : Vl) : Here w0 w1 m0 (put m c 10 u) c a u :=
  ⟨h.gd.put' h.c0 _ _, h.ext.put h.hc _ _, h.c0, h.hc, h.cS, h.lc.put10 u⟩
theorem Here.put11 {m0 m : Mem} {c : Nat} {a b : Vl} (h : Here w0 w1 m0 m c a b) (u : Vl) : Here w0 w1 m0 (put m c 11 u) c a b :=
  ⟨h.gd.put' h.c0 _ _, h.ext.put h.hc _ _, h.c0, h.hc, h.cS, h.lc.put11 u⟩
theorem Here.more {m0 m m' : Mem} {c : Nat} {a b : Vl} (h : Here w0 w1 m0 m c a b) (e : Ext m m') : Here w0 w1 m0 m' c a b :=
  ⟨h.gd.ext e, h.ext.trans e, h.c0, h.hc, Nat.lt_of_lt_of_le h.cS e.nS, h.lc.ext e h.cS⟩
theorem Here.z {m0 m : Mem} {c : Nat} {a b : Vl} (h : Here w0 w1 m0 m c a b) (y : Nm) (u : Vl) : ExtZ m (put m c y u) := extZ_put m h.lc.of y u

variable {m0 : Mem} {c : Nat} {b : Vl} {k : Pk} {rows : List Sm} {i : Nat} {ps : List Pt} {pd : Option Sm}
/-- let more head(one) -/
theorem headIn (h : Here w0 w1 m0 m c v b) (hv : IsL m (x :: xs) v) (hr : rows[i]? = some (.lt 11 (callE 1 [.name 9]))) (hd : d ≤ 200) (hl : fs.length + 4 ≤ 200)
    (K : ∀ m' vx d' pd, Here w0 w1 m0 m' c v b → ExtZ m m' → (m'.scs c).held 11 = some vx → IsT m' x vx → d' ≤ 200 →
      W L N (.on, ⟨m', ⟨c, ⟨k, rows, i + 1⟩ :: ps, pd⟩ :: fs, pr, none, d'⟩)) :
    W L (N + 4) (.on, ⟨m, ⟨c, ⟨k, rows, i⟩ :: ps, pd⟩ :: fs, pr, none, d⟩) := by
  have s1 : simples c m [.name 1, .name 9] = some ([.fn 1, v], m) := by
    simp only [simples, simple, h.lc.lg (y := 1) (by decide) h.gd.h1, h.lc.l9, Option.map_some, Option.bind_some]
  refine W.callG (N := N + 3) hr (.inl ⟨11, rfl⟩) s1 (by omega) (head_ok h.gd hv hd (by omega) fun m' vx d' e hx hd' => W.val rfl ?_)
  have h' := h.more e
  exact K _ vx d' _ (h'.put11 vx) (e.toExtZ.trans (h'.z 11 vx)) (by rw [put_own]; rfl) (IsT.ext (h'.z 11 vx) _ _ hx) hd'
/-- set one tail(one) -/
theorem tailIn (h : Here w0 w1 m0 m c v b) (hv : IsL m (x :: xs) v) (hr : rows[i]? = some (.st 9 (callE 2 [.name 9]))) (hd : d ≤ 200) (hl : fs.length + 4 ≤ 200)
    (K : ∀ m' vt d' pd, Here w0 w1 m0 m' c vt b → ExtZ m m' → (m'.scs c).held 11 = (m.scs c).held 11 → IsL m' xs vt → d' ≤ 200 →
      W L N (.on, ⟨m', ⟨c, ⟨k, rows, i + 1⟩ :: ps, pd⟩ :: fs, pr, none, d'⟩)) :
    W L (N + 4) (.on, ⟨m, ⟨c, ⟨k, rows, i⟩ :: ps, pd⟩ :: fs, pr, none, d⟩) := by
  have s1 : simples c m [.name 2, .name 9] = some ([.fn 2, v], m) := by
    simp only [simples, simple, h.lc.lg (y := 2) (by decide) h.gd.h2, h.lc.l9, Option.map_some, Option.bind_some]
  refine W.callG (N := N + 3) hr (.inr (.inl ⟨9, rfl⟩)) s1 (by omega) (tail_ok h.gd hv hd (by omega) fun m' vt d' e ht hd' => ?_)
  have h' := h.more e
  refine W.val (fin_st h'.lc.one) ?_
  exact K _ vt d' _ (h'.put9 vt) (e.toExtZ.trans (h'.z 9 vt)) (by rw [put_own, ← e.all c h.cS]; rfl) (IsL.ext (h'.z 9 vt) _ _ ht) hd'

/-- turn's while -/
theorem turn_loop : ∀ (xs : List Th) {ys : List Th} {m : Mem} {d : Nat} {v b : Vl} {pd : Option Sm}, Here w0 w1 m0 m c v b → IsL m xs v → IsL m ys b → d ≤ 200 → fs.length + 4 ≤ 200 → 
    (∀ m' u d' pd, Here w0 w1 m0 m' c .non u → IsL m' (xs.reverse ++ ys) u → d' ≤ 200 → W L N (.on, ⟨m', ⟨c, [⟨.plain, turnBody, 2⟩], pd⟩ :: fs, pr, none, d'⟩)) →
    W L (N + 11 * xs.length + 1) (.on, ⟨m, ⟨c, [⟨.plain, turnBody, 1⟩], pd⟩ :: fs, pr, none, d⟩)
  | [], ys, m, d, v, b, pd, h, hv, hb, hd, hl, K => by
    cases isL_nil hv
    refine W.whl0 (a := [.lt 11 (callE 1 [.name 9])] ++ [.st 10 (callE 0 [.name 11, .name 10])] ++ [.st 9 (callE 2 [.name 9])]) rfl (test_not (test_nil h.lc.l9 hv)) ?_
    exact K m b d _ h hb hd
  | x :: xs, ys, m, d, v, b, pd, h, hv, hb, hd, hl, K => by
    have e : N + 11 * (x :: xs).length + 1 = ((N + 11 * xs.length + 1) + 4 + 2 + 4) + 1 := by simp; omega
    rw [e]
    refine W.whl1 (a := [.lt 11 (callE 1 [.name 9])] ++ [.st 10 (callE 0 [.name 11, .name 10])] ++ [.st 9 (callE 2 [.name 9])]) rfl (test_not (test_cons h.lc.l9 hv)) (by simp) ?_
    refine headIn h hv rfl hd hl fun m1 vx d1 pd1 h1 z1 e1 hx hd1 => ?_
    have s1 : simples c m1 [.name 0, .name 11, .name 10] = some ([.fn 0, vx, b], m1) := by
      simp only [simples, simple, h1.lc.lg (y := 0) (by decide) h1.gd.h0, h1.lc.l10, look_own e1, Option.map_some, Option.bind_some]
    refine W.callG (N := (N + 11 * xs.length + 1) + 4 + 1) rfl (.inr (.inl ⟨10, rfl⟩)) s1 (by omega) (cons_ok h1.gd hx (IsL.ext z1 _ _ hb) hd1 (by omega) fun m2 u d2 e2 hu hd2 => ?_)
    have h2 := h1.more e2
    refine W.val (fin_st h2.lc.oth) ?_
    have h3 := h2.put10 u
    have z3 := h2.z 10 u
    refine tailIn (v := v) h3 (IsL.ext (z1.trans (e2.toExtZ.trans z3)) _ _ hv) rfl hd2 hl fun m4 vt d4 pd4 h4 z4 _ ht hd4 => ?_
    refine W.pop rfl (.inl rfl) ?_
    refine turn_loop xs (ys := x :: ys) h4 ht (IsL.ext (z3.trans z4) _ _ hu) hd4 hl fun m' u d' pd h q hd' => K m' u d' pd h ?_ hd'
    rw [List.reverse_cons, List.append_assoc]
    exact q
theorem turn_ok (g : Gd w0 w1 m) (hv : IsL m xs v) (hd : d ≤ 200) (hl : fs.length + 5 ≤ 200)
    (K : ∀ m' u d', Ext m m' → IsL m' xs.reverse u → d' ≤ 200 → W L N (.val u, ⟨m', F :: fs, pr, none, d'⟩)) :
    W L (N + 11 * xs.length + 3) (ent m 3 [v] F fs pr d) := by
  unfold ent
  rw [g.fn 3 (by decide)]
  show W L _ (.on, ⟨newSc m ⟨some 0, bind [9] [v] fun _ => none, 3⟩, ⟨m.nS, [⟨.plain, turnBody, 0⟩], none⟩ :: F :: fs, pr, none, max d (fs.length + 1)⟩)
  have e0 : Ext m (newSc m ⟨some 0, bind [9] [v] fun _ => none, 3⟩) := ext_sc _ _
  have a1 := scs_new m ⟨some 0, bind [9] [v] fun _ => none, 3⟩
  generalize hm1 : newSc m ⟨some 0, bind [9] [v] fun _ => none, 3⟩ = m1 at *
  have n1 : m1.nS = m.nS + 1 := by rw [← hm1]; rfl
  refine W.ex (N := N + 11 * xs.length + 2) (e := .non) (st := .lt 10 (.ex .non)) rfl (.inl ⟨10, rfl⟩) rfl rfl ?_
  have h2 : Here w0 w1 m (put m1 m.nS 10 .non) m.nS v .non := by
    refine ⟨(g.ext e0).put' g.nS _ _, e0.put (Nat.le_refl _) _ _, g.nS, Nat.le_refl _, by show m.nS < m1.nS; omega, ⟨?_, ?_, ?_, ?_, fun y hy => ?_⟩⟩
    · rw [put_own, a1]
    · rw [put_own, a1]; show (3 : Nat) ≠ 0; decide
    · rw [put_own, a1]; rfl
    · rw [put_own, a1]; rfl
    · rw [put_own, a1]
      show setH (setH (fun _ => none) 9 v) 10 .non y = none
      rw [setH_ne (fun e => by subst e; exact absurd hy (by decide)), setH_ne (fun e => by subst e; exact absurd hy (by decide))]
  have z2 : ExtZ m1 (put m1 m.nS 10 .non) := extZ_put m1 (by rw [a1]; show (3 : Nat) ≠ 0; decide) _ _
  have e3 : N + 11 * xs.length + 2 = (N + 1) + 11 * xs.length + 1 := by omega
  rw [e3]
  refine turn_loop xs (ys := []) (N := N + 1) h2 (IsL.ext (e0.toExtZ.trans z2) _ _ hv) isL_mk (by omega) (by simp; omega) fun m' u d' pd h q hd' => ?_
  rw [List.append_nil] at q
  have s4 : simple m' m.nS (.name 10) = some (u, m') := by simp only [simple, h.lc.l10, Option.map_some]
  refine W.ex (e := .name 10) (st := .ret (.ex (.name 10))) rfl (.inr (.inr (.inl rfl))) s4 rfl (W.popRet (.inl rfl) (W.leaveRet ?_))
  exact K m' u d' h.ext q hd'

/-- a function of two params is entered -/
theorem here2 {j : Nat} {body : List Sm} (g : Gd w0 w1 m) (hj : j ≠ 0) : Here w0 w1 m (newSc m ⟨some 0, bind [9, 10] [v, b] fun _ => none, j⟩) m.nS v b := by
  have a1 := scs_new m ⟨some 0, bind [9, 10] [v, b] fun _ => none, j⟩
  refine ⟨g.ext (ext_sc _ _), ext_sc _ _, g.nS, Nat.le_refl _, Nat.lt_succ_self _, ⟨?_, ?_, ?_, ?_, fun y hy => ?_⟩⟩
  · rw [a1]
  · rw [a1]; exact hj
  · rw [a1]; rfl
  · rw [a1]; rfl
  · rw [a1]
    show setH (setH (fun _ => none) 9 v) 10 b y = none
    rw [setH_ne (fun e => by subst e; exact absurd hy (by decide)), setH_ne (fun e => by subst e; exact absurd hy (by decide))]

/-- join: the function calls itself down the first list -/
theorem join_ok : ∀ (xs : List Th) {ys : List Th} {m : Mem} {d N : Nat} {v b : Vl} {F : Fr} {fs : List Fr}, Gd w0 w1 m → IsL m xs v → IsL m ys b → d ≤ 200 → fs.length + xs.length + 5 ≤ 200 →
    (∀ m' u d', Ext m m' → IsL m' (xs ++ ys) u → d' ≤ 200 → W L N (.val u, ⟨m', F :: fs, pr, none, d'⟩)) →
    W L (N + 12 * xs.length + 2) (ent m 4 [v, b] F fs pr d)
  | [], ys, m, d, N, v, b, F, fs, g, hv, hb, hd, hl, K => by
    unfold ent
    rw [g.fn 4 (by decide)]
    show W L _ (.on, ⟨newSc m ⟨some 0, bind [9, 10] [v, b] fun _ => none, 4⟩, ⟨m.nS, [⟨.plain, joinBody, 0⟩], none⟩ :: F :: fs, pr, none, max d (fs.length + 1)⟩)
    have h1 := here2 (body := joinBody) (v := v) (b := b) (j := 4) g (by decide)
    have z1 : Ext m (newSc m ⟨some 0, bind [9, 10] [v, b] fun _ => none, 4⟩) := ext_sc _ _
    generalize newSc m ⟨some 0, bind [9, 10] [v, b] fun _ => none, 4⟩ = m1 at *
    refine W.iff (N := N + 1) (a := [.ret (.ex (.name 10))]) (b := []) rfl (test_nil h1.lc.l9 (IsL.ext z1.toExtZ _ _ hv)) (by simp) ?_
    have s4 : simple m1 m.nS (.name 10) = some (b, m1) := by simp only [simple, h1.lc.l10, Option.map_some]
    refine W.ex (e := .name 10) (st := .ret (.ex (.name 10))) rfl (.inr (.inr (.inl rfl))) s4 rfl (W.popRet (.inl rfl) (W.popRet (.inl rfl) (W.leaveRet ?_)))
    exact K m1 b _ z1 (IsL.ext z1.toExtZ _ _ hb) (by simp at hl; omega)
  | x :: xs, ys, m, d, N, v, b, F, fs, g, hv, hb, hd, hl, K => by
    unfold ent
    rw [g.fn 4 (by decide)]
    show W L _ (.on, ⟨newSc m ⟨some 0, bind [9, 10] [v, b] fun _ => none, 4⟩, ⟨m.nS, [⟨.plain, joinBody, 0⟩], none⟩ :: F :: fs, pr, none, max d (fs.length + 1)⟩)
    have h1 := here2 (body := joinBody) (v := v) (b := b) (j := 4) g (by decide)
    have z1 : Ext m (newSc m ⟨some 0, bind [9, 10] [v, b] fun _ => none, 4⟩) := ext_sc _ _
    generalize newSc m ⟨some 0, bind [9, 10] [v, b] fun _ => none, 4⟩ = m1 at *
    simp only [List.length_cons] at hl
    have en : N + 12 * (x :: xs).length + 2 = (((N + 1 + 1) + 12 * xs.length + 2 + 1) + 4 + 4) + 1 := by simp; omega
    rw [en]
    have hv1 := IsL.ext z1.toExtZ _ _ hv
    refine W.iff (a := [.ret (.ex (.name 10))]) (b := []) rfl (test_cons h1.lc.l9 hv1) (by simp) ?_
    refine W.pop rfl (.inl rfl) ?_
    refine headIn h1 hv1 rfl (by omega) (by simp; omega) fun m2 vx d2 pd2 h2 z2 e2 hx hd2 => ?_
    refine tailIn h2 (IsL.ext z2 _ _ hv1) rfl hd2 (by simp; omega) fun m3 vt d3 pd3 h3 z3 e3 ht hd3 => ?_
    have s4 : simples m.nS m3 [.name 4, .name 9, .name 10] = some ([.fn 4, vt, b], m3) := by
      simp only [simples, simple, h3.lc.lg (y := 4) (by decide) h3.gd.h4, h3.lc.l9, h3.lc.l10, Option.map_some, Option.bind_some]
    refine W.callG (N := (N + 1 + 1) + 12 * xs.length + 2) rfl (.inr (.inl ⟨10, rfl⟩)) s4 (by simp; omega) ?_
    refine join_ok xs (ys := ys) h3.gd ht (IsL.ext (z1.toExtZ.trans (z2.trans z3)) _ _ hb) hd3 (by simp; omega) fun m5 u d5 e5 hu hd5 => ?_
    have h5 := h3.more e5
    refine W.val (fin_st h5.lc.oth) ?_
    have h6 := h5.put10 u
    have e6 : ((put m5 m.nS 10 u).scs m.nS).held 11 = some vx := by
      rw [put_own]
      have q := e5.all _ h3.cS
      exact (setH_ne (v := u) (h := (m5.scs m.nS).held) (y := 10) (z := 11) (by decide)).trans (by rw [q, e3, e2])
    have s7 : simples m.nS (put m5 m.nS 10 u) [.name 0, .name 11, .name 10] = some ([.fn 0, vx, u], put m5 m.nS 10 u) := by
      simp only [simples, simple, h6.lc.lg (y := 0) (by decide) h6.gd.h0, h6.lc.l10, look_own e6, Option.map_some, Option.bind_some]
    refine W.callG (N := N + 1) rfl (.inr (.inr (.inl rfl))) s7 (by simp; omega) ?_
    have z6 := h5.z 10 u
    refine cons_ok h6.gd (IsT.ext (z3.trans (e5.toExtZ.trans z6)) _ _ hx) (IsL.ext z6 _ _ hu) hd5 (by simp; omega) fun m8 u8 d8 e8 hu8 hd8 => ?_
    refine W.val rfl (W.popRet (.inl rfl) (W.leaveRet ?_))
    exact K m8 u8 d8 (h6.ext.trans e8) hu8 hd8

def isW (q : Str) : Th → Bool
  | .w y => decide (y = q)
  | .l _ => false
def isIn (q : Str) (xs : List Th) : Bool := xs.any (isW q)
theorem same_w {m : Mem} {q : Str} : ∀ {x : Th} {u : Vl}, IsT m x u → same u (.word q) = some (isW q x)
  | .w y, u, h => by unfold IsT at h; subst h; rfl
  | .l [], u, h => by unfold IsT IsL at h; subst h; rfl
  | .l (x :: xs), u, h => by
    unfold IsT IsL at h
    obtain ⟨i, _, _, _, rfl, _⟩ := h
    rfl
def lookIf (w0 : Str) : Sm := .iff (.same (.name 11) (.name 10)) [.rs (.ex (.word w0))] []
def lookIn (w0 w1 : Str) : List Sm := [loopS 9 11 [lookIf w0], .ret (.ex (.word w1))]
/-- look's while, within its try -/
theorem look_loop {q : Str} : ∀ (xs : List Th) {m : Mem} {d N : Nat} {v : Vl} {pd : Option Sm}, Here w0 w1 m0 m c v (.word q) → IsL m xs v → d ≤ 200 → fs.length + 5 ≤ 200 →
    (∀ m' d', Ext m0 m' → d' ≤ 200 → W L N (.val (.word (if isIn q xs then w0 else w1)), ⟨m', F :: fs, pr, none, d'⟩)) →
    W L (N + 10 * xs.length + 3) (.on, ⟨m, ⟨c, [⟨.tr 11 [.ret (.ex (.name 11))], lookIn w0 w1, 0⟩, ⟨.plain, lookBody w0 w1, 1⟩], pd⟩ :: F :: fs, pr, none, d⟩)
  | [], m, d, N, v, pd, h, hv, hd, hl, K => by
    refine W.whl0 (N := N + 2) (a := [.lt 11 (callE 1 [.name 9])] ++ [lookIf w0] ++ [.st 9 (callE 2 [.name 9])]) rfl (test_not (test_nil h.lc.l9 hv)) ?_
    refine W.ex (N := N + 1) (e := .word w1) (st := .ret (.ex (.word w1))) rfl (.inr (.inr (.inl rfl))) rfl rfl (W.popRet (.inr ⟨_, _, rfl⟩) (W.popRet (.inl rfl) (W.leaveRet ?_)))
    exact (K m d h.ext hd).mono (by omega)
  | x :: xs, m, d, N, v, pd, h, hv, hd, hl, K => by
    have en : N + 10 * (x :: xs).length + 3 = (((N + 10 * xs.length + 3) + 4 + 1) + 4) + 1 := by simp; omega
    rw [en]
    refine W.whl1 (a := [.lt 11 (callE 1 [.name 9])] ++ [lookIf w0] ++ [.st 9 (callE 2 [.name 9])]) rfl (test_not (test_cons h.lc.l9 hv)) (by simp) ?_
    refine headIn h hv rfl hd (by simp; omega) fun m1 vx d1 pd1 h1 z1 e1 hx hd1 => ?_
    have ht : holds m1 c (.same (.name 11) (.name 10)) = some (isW q x) := by
      simp only [holds, pureV, look_own e1, h1.lc.l10, Option.bind_some]
      exact same_w hx
    refine W.iff (a := [.rs (.ex (.word w0))]) (b := []) rfl ht (by simp) ?_
    clear ht
    cases hq : isW q x with
    | true =>
      have ei : isIn q (x :: xs) = true := by unfold isIn; rw [List.any_cons, hq]; rfl
      rw [ei] at K
      have e2 : (N + 10 * xs.length + 3) + 4 = (N + 10 * xs.length + 6) + 1 := by omega
      rw [e2]
      refine W.ex (e := .word w0) (st := .rs (.ex (.word w0))) rfl (.inr (.inr (.inr rfl))) rfl rfl (W.popRs (W.popRs (W.catch_ (by simp) ?_)))
      have s4 : simple (put m1 c 11 (.word w0)) c (.name 11) = some (.word w0, put m1 c 11 (.word w0)) := by
        have : look (put m1 c 11 (.word w0)) c 11 = some (.word w0) := look_own (by rw [put_own]; rfl)
        simp only [simple, this, Option.map_some]
      have e3 : N + 10 * xs.length + 6 = (N + 10 * xs.length + 5) + 1 := by omega
      rw [e3]
      refine W.ex (e := .name 11) (st := .ret (.ex (.name 11))) rfl (.inr (.inr (.inl rfl))) s4 rfl (W.popRet (.inl rfl) (W.popRet (.inl rfl) (W.leaveRet ?_)))
      exact (K _ d1 (h1.put11 _).ext hd1).mono (by omega)
    | false =>
      have ei : isIn q (x :: xs) = isIn q xs := by unfold isIn; rw [List.any_cons, hq]; rfl
      rw [ei] at K
      refine W.pop rfl (.inl rfl) ?_
      refine tailIn h1 (IsL.ext z1 _ _ hv) rfl hd1 (by simp; omega) fun m2 vt d2 pd2 h2 z2 _ ht hd2 => ?_
      exact W.pop rfl (.inl rfl) (look_loop xs h2 ht hd2 hl K)
theorem look_ok {q : Str} (g : Gd w0 w1 m) (hv : IsL m xs v) (hd : d ≤ 200) (hl : fs.length + 5 ≤ 200)
    (K : ∀ m' d', Ext m m' → d' ≤ 200 → W L N (.val (.word (if isIn q xs then w0 else w1)), ⟨m', F :: fs, pr, none, d'⟩)) :
    W L (N + 10 * xs.length + 4) (ent m 5 [v, .word q] F fs pr d) := by
  unfold ent
  rw [g.fn 5 (by decide)]
  show W L _ (.on, ⟨newSc m ⟨some 0, bind [9, 10] [v, .word q] fun _ => none, 5⟩, ⟨m.nS, [⟨.plain, lookBody w0 w1, 0⟩], none⟩ :: F :: fs, pr, none, max d (fs.length + 1)⟩)
  have h1 := here2 (body := joinBody) (v := v) (b := .word q) (j := 5) g (by decide)
  have z1 : Ext m (newSc m ⟨some 0, bind [9, 10] [v, .word q] fun _ => none, 5⟩) := ext_sc _ _
  refine W.tr (a := lookIn w0 w1) (x := 11) (b := [.ret (.ex (.name 11))]) rfl (by simp) ?_
  exact look_loop xs h1 (IsL.ext z1.toExtZ _ _ hv) (by omega) hl K
end
end K38
end
section
set_option autoImplicit false
set_option linter.unusedVariables false
/-! K38D: the deeds; the whole run. -/
namespace K38
open PySem

/-- the lists' names -/
def ln : Nat → Nm
  | 0 => 6 | 1 => 7 | _ => 8
structure Dd where
  k : Nat
  to : Nat
  fr : Nat
  wi : Nat
abbrev Ls := Nat → List Th
def setL (s : Ls) (j : Nat) (xs : List Th) : Ls := fun i => if i = j then xs else s i
def headText : List Th → Str
  | [] => "nofunc"
  | x :: _ => thText x
/-- a deed: the lists behind it, the lines, the statement -/
def lookD (wd : Nat → Str) (s : Ls) (d : Dd) : List Str × Sm :=
  if d.k = 5 then ([headText (s d.fr)], .tr [.lt 11 (callE 1 [.name (ln d.fr)]), .pr (.name 11)] 11 [.pr (.name 11)])
  else if d.k = 6 then ((s d.fr).map thText, .la [.lt 9 (.ex (.name (ln d.fr))), loopS 9 11 [.pr (.name 11)]] [])
  else ([if isIn (wd d.wi) (s d.fr) then wd 0 else wd 1], .iff (.same .non .non) [.lt 11 (callE 5 [.name (ln d.fr), .word (wd d.wi)]), .pr (.name 11)] [])
def changeD (wd : Nat → Str) (s : Ls) (d : Dd) : Ls × List Str × Sm :=
  if d.k = 1 then (setL s d.to (s d.fr).reverse, [], .st (ln d.to) (callE 3 [.name (ln d.fr)]))
  else if d.k = 2 ∧ (s d.to).length + (s d.fr).length ≤ 8 then (setL s d.to (s d.to ++ s d.fr), [], .st (ln d.to) (callE 4 [.name (ln d.to), .name (ln d.fr)]))
  else if d.k = 3 then (setL s d.to (s d.fr), [], .st (ln d.to) (.ex (.name (ln d.fr))))
  else if d.k = 4 ∨ (s d.to).length = 8 then
    (match s d.fr with | [] => s | _ :: r => setL s d.to r, match s d.fr with | [] => ["nofunc"] | _ :: _ => [], .tr [.st (ln d.to) (callE 2 [.name (ln d.fr)])] 11 [.pr (.name 11)])
  else if d.k = 0 ∧ d.wi = 3 then (setL s d.to (.l (s d.fr) :: s d.to), [], .st (ln d.to) (callE 0 [.name (ln d.fr), .name (ln d.to)]))
  else (setL s d.to (.w (wd d.wi) :: s d.to), [], .st (ln d.to) (callE 0 [.word (wd d.wi), .name (ln d.to)]))
def deedD (wd : Nat → Str) (s : Ls) (d : Dd) : Ls × List Str × Sm :=
  if d.k > 4 then (s, lookD wd s d) else changeD wd s d
structure DdOk (d : Dd) : Prop where
  k : d.k < 8
  to : d.to < 3
  fr : d.fr < 3
  wi : d.wi < 4

/-- what stands at the program's own level -/
structure Top (w0 w1 : Str) (m : Mem) (s : Ls) : Prop where
  gd : Gd w0 w1 m
  ls : ∀ j, j < 3 → ∃ v, (m.scs 0).held (ln j) = some v ∧ IsL m (s j) v
  le : ∀ j, j < 3 → (s j).length ≤ 8

theorem ln_ge (j : Nat) : 6 ≤ (ln j).val := by
  match j with
  | 0 => decide
  | 1 => decide
  | _ + 2 => show (6 : Nat) ≤ 8; decide
theorem ln_lt (j : Nat) : (ln j).val < 9 := by
  match j with
  | 0 => decide
  | 1 => decide
  | _ + 2 => show (8 : Nat) < 9; decide
theorem ln_inj {i j : Nat} (hi : i < 3) (hj : j < 3) (h : ln i = ln j) : i = j := by
  match i, hi, j, hj with
  | 0, _, 0, _ => rfl
  | 1, _, 1, _ => rfl
  | 2, _, 2, _ => rfl
  | 0, _, 1, _ => exact absurd h (by decide)
  | 0, _, 2, _ => exact absurd h (by decide)
  | 1, _, 0, _ => exact absurd h (by decide)
  | 1, _, 2, _ => exact absurd h (by decide)
  | 2, _, 0, _ => exact absurd h (by decide)
  | 2, _, 1, _ => exact absurd h (by decide)

section
variable {L : List Str} {N : Nat} {w0 w1 : Str} {m m' : Mem} {F : Fr} {fs : List Fr} {pr : List Str} {d : Nat} {x : Th} {xs ys : List Th} {v vx vt : Vl} {s : Ls}

theorem Top.more (t : Top w0 w1 m s) (e : Ext m m') : Top w0 w1 m' s :=
  ⟨t.gd.ext e, fun j hj => by
    obtain ⟨v, h1, h2⟩ := t.ls j hj
    exact ⟨v, by rw [e.all 0 t.gd.nS]; exact h1, IsL.ext e.toExtZ _ _ h2⟩, t.le⟩
theorem Top.z (t : Top w0 w1 m s) (y : Nm) (v : Vl) : ExtZ m (put m 0 y v) := extZ_put m t.gd.of y v
theorem Top.put {y : Nm} (t : Top w0 w1 m s) (hy : 9 ≤ y.val) (v : Vl) : Top w0 w1 (put m 0 y v) s :=
  ⟨t.gd.put (by omega) v, fun j hj => by
    obtain ⟨u, h1, h2⟩ := t.ls j hj
    refine ⟨u, ?_, IsL.ext (t.z y v) _ _ h2⟩
    rw [put_own]
    exact (setH_ne fun e => by have := ln_lt j; rw [e] at this; omega).trans h1, t.le⟩
theorem Top.set {j : Nat} (t : Top w0 w1 m s) (hj : j < 3) (h : IsL m xs v) (hl : xs.length ≤ 8) : Top w0 w1 (K38.put m 0 (ln j) v) (setL s j xs) :=
  ⟨t.gd.put (ln_ge j) v, fun i hi => by
    rw [put_own]
    by_cases e : i = j
    · subst e
      refine ⟨v, ?_, ?_⟩
      · simp [setH]
      · simp only [setL, if_true]; exact IsL.ext (t.z _ v) _ _ h
    · obtain ⟨u, h1, h2⟩ := t.ls i hi
      refine ⟨u, (setH_ne fun q => e (ln_inj hi hj q)).trans h1, ?_⟩
      simp only [setL, e, if_false]
      exact IsL.ext (t.z _ v) _ _ h2, fun i hi => by
    by_cases e : i = j
    · subst e; simp only [setL, if_true]; exact hl
    · simp only [setL, e, if_false]; exact t.le i hi⟩
theorem Top.l (t : Top w0 w1 m s) {j : Nat} (hj : j < 3) : ∃ v, look m 0 (ln j) = some v ∧ (m.scs 0).held (ln j) = some v ∧ IsL m (s j) v := by
  obtain ⟨v, h1, h2⟩ := t.ls j hj
  exact ⟨v, look_own h1, h1, h2⟩

variable {k : Pk} {rows : List Sm} {i : Nat} {ps : List Pt} {pd : Option Sm}
/-- let more head(y), at the ground -/
theorem gHead {y : Nm} (t : Top w0 w1 m s) (hy : look m 0 y = some v) (hv : IsL m (x :: xs) v) (hr : rows[i]? = some (.lt 11 (callE 1 [.name y]))) (hd : d ≤ 200)
    (K : ∀ m' vx d' pd, Top w0 w1 m' s → ExtZ m m' → (m'.scs 0).held 11 = some vx → ((m'.scs 0).held 9 = (m.scs 0).held 9) → IsT m' x vx → d' ≤ 200 →
      W L N (.on, ⟨m', [⟨0, ⟨k, rows, i + 1⟩ :: ps, pd⟩], pr, none, d'⟩)) :
    W L (N + 4) (.on, ⟨m, [⟨0, ⟨k, rows, i⟩ :: ps, pd⟩], pr, none, d⟩) := by
  have s1 : simples 0 m [.name 1, .name y] = some ([.fn 1, v], m) := by
    simp only [simples, simple, look_own t.gd.h1, hy, Option.map_some, Option.bind_some]
  refine W.callG (N := N + 3) hr (.inl ⟨11, rfl⟩) s1 (by simp) (head_ok t.gd hv hd (by simp) fun m' vx d' e hx hd' => W.val rfl ?_)
  have t' := t.more e
  refine K _ vx d' _ (t'.put (by decide) vx) (e.toExtZ.trans (t'.z 11 vx)) (by rw [put_own]; rfl) ?_ (IsT.ext (t'.z 11 vx) _ _ hx) hd'
  rw [put_own, ← e.all 0 t.gd.nS]
  exact setH_ne (h := (m'.scs 0).held) (v := vx) (y := 11) (z := 9) (by decide)
/-- print all: the while -/
theorem print_loop : ∀ (xs : List Th) {m : Mem} {d N : Nat} {v : Vl} {pr : List Str} {pd : Option Sm}, Top w0 w1 m s → (m.scs 0).held 9 = some v → IsL m xs v → d ≤ 200 → rows[i]? = some (loopS 9 11 [.pr (.name 11)]) → ps.length ≤ 900 →
    (∀ m' d' pd, Top w0 w1 m' s → d' ≤ 200 → W L N (.on, ⟨m', [⟨0, ⟨k, rows, i + 1⟩ :: ps, pd⟩], pr ++ xs.map thText, none, d'⟩)) →
    W L (N + 10 * xs.length + 1) (.on, ⟨m, [⟨0, ⟨k, rows, i⟩ :: ps, pd⟩], pr, none, d⟩)
  | [], m, d, N, v, pr, pd, t, h9, hv, hd, hr, hp, K => by
    have hr' := hr
    unfold loopS at hr'
    refine W.whl0 (N := N) hr' (test_not (test_nil (look_own h9) hv)) ?_
    have q := K m d pd t hd
    simp only [List.map_nil, List.append_nil] at q
    exact q
  | x :: xs, m, d, N, v, pr, pd, t, h9, hv, hd, hr, hp, K => by
    have en : N + 10 * (x :: xs).length + 1 = (((N + 10 * xs.length + 1) + 4 + 1) + 4) + 1 := by simp; omega
    rw [en]
    have hr' := hr
    unfold loopS at hr'
    refine W.whl1 hr' (test_not (test_cons (look_own h9) hv)) (by omega) ?_
    refine gHead t (look_own h9) hv rfl hd fun m1 vx d1 pd1 t1 z1 e1 e9 hx hd1 => ?_
    refine W.prt (v := vx) rfl (by simp only [pureV, look_own e1]) ?_
    rw [hx.text]
    have h91 : (m1.scs 0).held 9 = some v := e9.trans h9
    have s2 : simples 0 m1 [.name 2, .name 9] = some ([.fn 2, v], m1) := by
      simp only [simples, simple, look_own t1.gd.h2, look_own h91, Option.map_some, Option.bind_some]
    refine W.callG (N := (N + 10 * xs.length + 1) + 3) rfl (.inr (.inl ⟨9, rfl⟩)) s2 (by simp) (tail_ok t1.gd (IsL.ext z1 _ _ hv) hd1 (by simp) fun m2 vt d2 e2 ht hd2 => ?_)
    have h92 : (m2.scs 0).held 9 = some v := by rw [e2.all 0 t1.gd.nS]; exact h91
    refine W.val (fin_st h92) (W.pop rfl (.inl rfl) ?_)
    have t2 := t1.more e2
    refine print_loop xs (v := vt) (t2.put (by decide) vt) (by rw [put_own]; rfl) (IsL.ext (t2.z 9 vt) _ _ ht) hd2 hr hp fun m' d' pd t' hd' => ?_
    have q := K m' d' pd t' hd'
    rw [List.map_cons] at q
    rw [List.append_assoc]
    exact q

/-- ONE DEED -/
theorem deed_ok {wd : Nat → Str} {q : Dd} (t : Top (wd 0) (wd 1) m s) (ok : DdOk q) (hr : rows[i]? = some (deedD wd s q).2.2) (hd : d ≤ 200) (hp : ps.length ≤ 800)
    (K : ∀ m' d' pd, Top (wd 0) (wd 1) m' (deedD wd s q).1 → d' ≤ 200 → W L N (.on, ⟨m', [⟨0, ⟨k, rows, i + 1⟩ :: ps, pd⟩], pr ++ (deedD wd s q).2.1, none, d'⟩)) :
    W L (N + 110) (.on, ⟨m, [⟨0, ⟨k, rows, i⟩ :: ps, pd⟩], pr, none, d⟩) := by
  obtain ⟨va, la, ha, ia⟩ := t.l ok.to
  obtain ⟨vf, lf, hf, if_⟩ := t.l ok.fr
  have lea := t.le _ ok.to
  have lef := t.le _ ok.fr
  unfold deedD at hr K
  by_cases h4 : q.k > 4
  · simp only [h4, if_true] at hr K
    unfold lookD at hr K
    by_cases h5 : q.k = 5
    · -- print the head
      simp only [h5, if_true] at hr K
      refine (W.tr (N := N + 6) hr (by omega) ?_).mono (by omega)
      have s1 : simples 0 m [.name 1, .name (ln q.fr)] = some ([.fn 1, vf], m) := by
        simp only [simples, simple, look_own t.gd.h1, lf, Option.map_some, Option.bind_some]
      cases e : s q.fr with
      | nil =>
        rw [e] at if_ K
        cases isL_nil if_
        refine W.callG (N := N + 5) rfl (.inl ⟨11, rfl⟩) s1 (by simp) ((pick_nil (N := N + 1) (t.gd.fn 1 (by decide)) hd (by simp) fun m' d' e' hd' => ?_).mono (by omega))
        refine W.catch_ (by simp; omega) (W.prt (N := N) (v := .word "nofunc") rfl (by simp only [pureV]; exact look_own (by rw [put_own]; rfl)) (W.pop rfl (.inl rfl) ?_))
        exact K _ d' _ ((t.more e').put (by decide) _) hd'
      | cons x xs =>
        rw [e] at if_ K
        refine (gHead (N := N + 1) t lf if_ rfl hd fun m' vx d' pd t' z' e11 _ hx hd' => ?_).mono (by omega)
        refine W.prt (N := N) (v := vx) rfl (by simp only [pureV, look_own e11]) (W.pop rfl (.inr ⟨_, _, rfl⟩) ?_)
        rw [hx.text]
        exact K _ d' _ t' hd'
    · simp only [h5, if_false] at hr K
      by_cases h6 : q.k = 6
      · -- print all
        simp only [h6, if_true] at hr K
        refine (W.la (N := N + 10 * (s q.fr).length + 2) hr (by omega) ?_).mono (by omega)
        have s1 : simple m 0 (.name (ln q.fr)) = some (vf, m) := by simp only [simple, lf, Option.map_some]
        refine W.ex (N := N + 10 * (s q.fr).length + 1) rfl (.inl ⟨9, rfl⟩) s1 rfl ?_
        refine print_loop (s q.fr) (v := vf) (t.put (by decide) vf) (by rw [put_own]; rfl) (IsL.ext (t.z 9 vf) _ _ if_) hd rfl (by simp; omega) fun m' d' pd t' hd' => ?_
        exact W.popLa rfl (by simp; omega) (K _ d' _ t' hd')
      · -- look
        simp only [h6, if_false] at hr K
        refine (W.iff (N := N + 1 + 10 * (s q.fr).length + 4 + 1) (h := true) hr rfl (by omega) ?_).mono (by omega)
        have s1 : simples 0 m [.name 5, .name (ln q.fr), .word (wd q.wi)] = some ([.fn 5, vf, .word (wd q.wi)], m) := by
          simp only [simples, simple, look_own t.gd.h5, lf, Option.map_some, Option.bind_some]
        refine W.callG (N := N + 1 + 10 * (s q.fr).length + 4) rfl (.inl ⟨11, rfl⟩) s1 (by simp) (look_ok t.gd if_ hd (by simp) fun m' d' e' hd' => W.val rfl ?_)
        refine W.prt (N := N) (v := .word (if isIn (wd q.wi) (s q.fr) then wd 0 else wd 1)) rfl (by simp only [pureV]; exact look_own (by rw [put_own]; rfl)) (W.pop rfl (.inl rfl) ?_)
        exact K _ d' _ ((t.more e').put (by decide) _) hd'
  · simp only [h4, if_false] at hr K
    unfold changeD at hr K
    by_cases h1 : q.k = 1
    · -- turn round
      simp only [h1, if_true] at hr K
      have s1 : simples 0 m [.name 3, .name (ln q.fr)] = some ([.fn 3, vf], m) := by
        simp only [simples, simple, look_own t.gd.h3, lf, Option.map_some, Option.bind_some]
      refine (W.callG (N := N + 11 * (s q.fr).length + 3) hr (.inr (.inl ⟨_, rfl⟩)) s1 (by simp) (turn_ok t.gd if_ hd (by simp) fun m' u d' e' hu hd' => ?_)).mono (by omega)
      refine W.val (fin_st (u := va) (by rw [e'.all 0 t.gd.nS]; exact ha)) ?_
      have q' := K _ d' (some (.st (ln q.to) (callE 3 [.name (ln q.fr)]))) ((t.more e').set ok.to hu (by rw [List.length_reverse]; exact lef)) hd'
      rw [List.append_nil] at q'
      exact q'
    · simp only [h1, if_false] at hr K
      by_cases h2 : q.k = 2 ∧ (s q.to).length + (s q.fr).length ≤ 8
      · -- join
        simp only [if_pos h2] at hr K
        have s1 : simples 0 m [.name 4, .name (ln q.to), .name (ln q.fr)] = some ([.fn 4, va, vf], m) := by
          simp only [simples, simple, look_own t.gd.h4, la, lf, Option.map_some, Option.bind_some]
        refine (W.callG (N := N + 12 * (s q.to).length + 2) hr (.inr (.inl ⟨_, rfl⟩)) s1 (by simp) (join_ok (s q.to) t.gd ia if_ hd (by simp; omega) fun m' u d' e' hu hd' => ?_)).mono (by omega)
        refine W.val (fin_st (u := va) (by rw [e'.all 0 t.gd.nS]; exact ha)) ?_
        have q' := K _ d' (some (.st (ln q.to) (callE 4 [.name (ln q.to), .name (ln q.fr)]))) ((t.more e').set ok.to hu (by rw [List.length_append]; exact h2.2)) hd'
        rw [List.append_nil] at q'
        exact q'
      · simp only [if_neg h2] at hr K
        by_cases h3 : q.k = 3
        · -- take another's list
          simp only [h3, if_true] at hr K
          have s1 : simple m 0 (.name (ln q.fr)) = some (vf, m) := by simp only [simple, lf, Option.map_some]
          refine (W.ex (N := N) hr (.inr (.inl ⟨_, rfl⟩)) s1 (fin_st ha) ?_).mono (by omega)
          have q' := K _ d pd (t.set ok.to if_ lef) hd
          rw [List.append_nil] at q'
          exact q'
        · simp only [h3, if_false] at hr K
          by_cases h8 : q.k = 4 ∨ (s q.to).length = 8
          · -- drop the head
            simp only [if_pos h8] at hr K
            refine (W.tr (N := N + 5) hr (by omega) ?_).mono (by omega)
            have s1 : simples 0 m [.name 2, .name (ln q.fr)] = some ([.fn 2, vf], m) := by
              simp only [simples, simple, look_own t.gd.h2, lf, Option.map_some, Option.bind_some]
            cases e : s q.fr with
            | nil =>
              rw [e] at if_ K
              cases isL_nil if_
              refine W.callG (N := N + 4) rfl (.inr (.inl ⟨_, rfl⟩)) s1 (by simp) ((pick_nil (N := N + 1) (t.gd.fn 2 (by decide)) hd (by simp) fun m' d' e' hd' => ?_).mono (by omega))
              refine W.catch_ (by simp; omega) (W.prt (N := N) (v := .word "nofunc") rfl (by simp only [pureV]; exact look_own (by rw [put_own]; rfl)) (W.pop rfl (.inl rfl) ?_))
              exact K _ d' _ ((t.more e').put (by decide) _) hd'
            | cons x xs =>
              rw [e] at if_ K lef
              refine W.callG (N := N + 4) rfl (.inr (.inl ⟨_, rfl⟩)) s1 (by simp) ((tail_ok (N := N) t.gd if_ hd (by simp) fun m' u d' e' hu hd' => ?_).mono (by omega))
              refine W.val (fin_st (u := va) (by rw [e'.all 0 t.gd.nS]; exact ha)) (W.pop rfl (.inr ⟨_, _, rfl⟩) ?_)
              have q' := K _ d' (some (.st (ln q.to) (callE 2 [.name (ln q.fr)]))) ((t.more e').set ok.to hu (by simp at lef; omega)) hd'
              rw [List.append_nil] at q'
              exact q'
          · simp only [if_neg h8] at hr K
            have l8 : (s q.to).length < 8 := by
              have : ¬ (s q.to).length = 8 := fun z => h8 (.inr z)
              omega
            by_cases h0 : q.k = 0 ∧ q.wi = 3
            · simp only [if_pos h0] at hr K
              have s1 : simples 0 m [.name 0, .name (ln q.fr), .name (ln q.to)] = some ([.fn 0, vf, va], m) := by
                simp only [simples, simple, look_own t.gd.h0, la, lf, Option.map_some, Option.bind_some]
              refine (W.callG (N := N + 1) hr (.inr (.inl ⟨_, rfl⟩)) s1 (by simp) (cons_ok (x := .l (s q.fr)) t.gd (by unfold IsT; exact if_) ia hd (by simp) fun m' u d' e' hu hd' => ?_)).mono (by omega)
              refine W.val (fin_st (u := va) (by rw [e'.all 0 t.gd.nS]; exact ha)) ?_
              have q' := K _ d' (some (.st (ln q.to) (callE 0 [.name (ln q.fr), .name (ln q.to)]))) ((t.more e').set ok.to hu (by rw [List.length_cons]; exact l8)) hd'
              rw [List.append_nil] at q'
              exact q'
            · simp only [if_neg h0] at hr K
              have s1 : simples 0 m [.name 0, .word (wd q.wi), .name (ln q.to)] = some ([.fn 0, .word (wd q.wi), va], m) := by
                simp only [simples, simple, look_own t.gd.h0, la, Option.map_some, Option.bind_some]
              refine (W.callG (N := N + 1) hr (.inr (.inl ⟨_, rfl⟩)) s1 (by simp) (cons_ok (x := .w (wd q.wi)) t.gd (by unfold IsT; rfl) ia hd (by simp) fun m' u d' e' hu hd' => ?_)).mono (by omega)
              refine W.val (fin_st (u := va) (by rw [e'.all 0 t.gd.nS]; exact ha)) ?_
              have q' := K _ d' (some (.st (ln q.to) (callE 0 [.word (wd q.wi), .name (ln q.to)]))) ((t.more e').set ok.to hu (by rw [List.length_cons]; exact l8)) hd'
              rw [List.append_nil] at q'
              exact q'

/-- a group of deeds: the lists behind it, the lines, the statements -/
def groupD (wd : Nat → Str) : Ls → List Dd → Ls × List Str × List Sm
  | s, [] => (s, [], [])
  | s, q :: qs => ((groupD wd (deedD wd s q).1 qs).1, (deedD wd s q).2.1 ++ (groupD wd (deedD wd s q).1 qs).2.1, (deedD wd s q).2.2 :: (groupD wd (deedD wd s q).1 qs).2.2)
theorem group_ok {wd : Nat → Str} : ∀ (qs : List Dd) {m : Mem} {s : Ls} {i d N : Nat} {pr : List Str} {pd : Option Sm} {ahead : List Sm}, Top (wd 0) (wd 1) m s → (∀ q ∈ qs, DdOk q) → rows = ahead ++ (groupD wd s qs).2.2 → i = ahead.length → d ≤ 200 → ps.length ≤ 800 →
    (∀ m' d' pd, Top (wd 0) (wd 1) m' (groupD wd s qs).1 → d' ≤ 200 → W L N (.on, ⟨m', [⟨0, ps, pd⟩], pr ++ (groupD wd s qs).2.1, none, d'⟩)) →
    W L (N + 110 * qs.length) (.on, ⟨m, [⟨0, ⟨.plain, rows, i⟩ :: ps, pd⟩], pr, none, d⟩)
  | [], m, s, i, d, N, pr, pd, ahead, t, ok, hr, hi, hd, hp, K => by
    have q := K m d pd t hd
    simp only [groupD, List.append_nil] at q hr
    subst hr hi
    exact W.pop (by simp) (.inl rfl) q
  | q :: qs, m, s, i, d, N, pr, pd, ahead, t, ok, hr, hi, hd, hp, K => by
    have en : N + 110 * (q :: qs).length = (N + 110 * qs.length) + 110 := by simp; omega
    rw [en]
    refine deed_ok t (ok q (by simp)) (by rw [hr, hi]; simp [groupD]) hd hp fun m' d' pd t' hd' => ?_
    refine group_ok qs (ahead := ahead ++ [(deedD wd s q).2.2]) t' (fun z hz => ok z (by simp [hz])) (by rw [hr]; simp [groupD]) (by rw [hi]; simp) hd' hp fun m2 d2 pd2 t2 hd2 => ?_
    have z := K m2 d2 pd2 t2 hd2
    simp only [groupD] at z
    rw [List.append_assoc]
    exact z
end

/-! ### the whole body -/
def defSm (wd : Nat → Str) (j : Nat) (x : Nm) : Sm := .lt x (.ex (.fn (defPs j) (fnBody (wd 0) (wd 1) j)))
def always : Te := .same .non .non
def bodyOf (wd : Nat → Str) (a b c : List Sm) : List Sm :=
  [defSm wd 0 0, defSm wd 1 1, defSm wd 2 2, defSm wd 3 3, defSm wd 4 4, defSm wd 5 5, .lt 6 (.ex .non), .lt 7 (.ex .non), .lt 8 (.ex .non), .iff always a [], .iff always b [], .iff always c []]
def noLs : Ls := fun _ => []
def mem0 : Mem := ⟨0, fun _ => ⟨[], [], 0⟩, 1, fun _ => ⟨none, fun _ => none, 99⟩⟩
/-- the machine at its beginning -/
def start (body : List Sm) : MS := ⟨mem0, [⟨0, [⟨.plain, body, 0⟩], none⟩], [], none, 0⟩

/-- three groups one behind the other -/
def three (wd : Nat → Str) (qa qb qc : List Dd) : List Str × List Sm :=
  match groupD wd noLs qa with
  | (s1, l1, r1) => match groupD wd s1 qb with
    | (s2, l2, r2) => match groupD wd s2 qc with
      | (_, l3, r3) => (l1 ++ l2 ++ l3, bodyOf wd r1 r2 r3)

theorem run_ok {wd : Nat → Str} {qa qb qc : List Dd} (ha : ∀ q ∈ qa, DdOk q) (hb : ∀ q ∈ qb, DdOk q) (hc : ∀ q ∈ qc, DdOk q) (la : qa.length ≤ 8) (lb : qb.length ≤ 8) (lc : qc.length ≤ 8) :
    W (three wd qa qb qc).1 3000 (.on, start (three wd qa qb qc).2) := by
  unfold start three
  rcases hA : groupD wd noLs qa with ⟨s1, l1, r1⟩
  rcases hB : groupD wd s1 qb with ⟨s2, l2, r2⟩
  rcases hC : groupD wd s2 qc with ⟨s3, l3, r3⟩
  simp only [hB, hC]
  refine W.mono (N := 0 + 110 * qc.length + 1 + 110 * qb.length + 1 + 110 * qa.length + 1 + 1 + 1 + 1 + 1 + 1 + 1 + 1 + 1 + 1) ?_ (by omega)
  refine W.ex rfl (.inl ⟨0, rfl⟩) rfl rfl ?_
  refine W.ex rfl (.inl ⟨1, rfl⟩) rfl rfl ?_
  refine W.ex rfl (.inl ⟨2, rfl⟩) rfl rfl ?_
  refine W.ex rfl (.inl ⟨3, rfl⟩) rfl rfl ?_
  refine W.ex rfl (.inl ⟨4, rfl⟩) rfl rfl ?_
  refine W.ex rfl (.inl ⟨5, rfl⟩) rfl rfl ?_
  refine W.ex rfl (.inl ⟨6, rfl⟩) rfl rfl ?_
  refine W.ex rfl (.inl ⟨7, rfl⟩) rfl rfl ?_
  refine W.ex rfl (.inl ⟨8, rfl⟩) rfl rfl ?_
  refine W.iff (N := 0 + 110 * qc.length + 1 + 110 * qb.length + 1 + 110 * qa.length) (h := true) rfl rfl (by simp) ?_
  have T0 : ∀ m : Mem, m.nS = 1 → m.nF = 6 → (m.scs 0).outer = none → (m.scs 0).of = 99 → (∀ i, i < 6 → m.fns i = ⟨defPs i, fnBody (wd 0) (wd 1) i, 0⟩) → (m.scs 0).held 0 = some (.fn 0) → (m.scs 0).held 1 = some (.fn 1) → (m.scs 0).held 2 = some (.fn 2) →
      (m.scs 0).held 3 = some (.fn 3) → (m.scs 0).held 4 = some (.fn 4) → (m.scs 0).held 5 = some (.fn 5) → (m.scs 0).held 6 = some .non → (m.scs 0).held 7 = some .non → (m.scs 0).held 8 = some .non → Top (wd 0) (wd 1) m noLs := by
    intro m a b c d e f0 f1 f2 f3 f4 f5 f6 f7 f8
    refine ⟨⟨by rw [d]; decide, by omega, by omega, c, f0, f1, f2, f3, f4, f5, e⟩, fun j hj => ?_, fun j hj => Nat.zero_le _⟩
    match j, hj with
    | 0, _ => exact ⟨_, f6, isL_mk⟩
    | 1, _ => exact ⟨_, f7, isL_mk⟩
    | 2, _ => exact ⟨_, f8, isL_mk⟩
  refine group_ok qa (s := noLs) (ahead := []) (T0 _ rfl rfl rfl rfl (fun i hi => ?_) rfl rfl rfl rfl rfl rfl rfl rfl rfl) ha (by rw [hA]; rfl) rfl (by simp) (by simp) fun m1 d1 p1 t1 hd1 => ?_
  · match i, hi with
    | 0, _ => rfl
    | 1, _ => rfl
    | 2, _ => rfl
    | 3, _ => rfl
    | 4, _ => rfl
    | 5, _ => rfl
  rw [hA] at t1
  refine W.iff (N := 0 + 110 * qc.length + 1 + 110 * qb.length) (h := true) rfl rfl (by simp) ?_
  refine group_ok qb (s := s1) (ahead := []) t1 hb (by rw [hB]; rfl) rfl hd1 (by simp) fun m2 d2 p2 t2 hd2 => ?_
  rw [hB] at t2
  refine W.iff (N := 0 + 110 * qc.length) (h := true) rfl rfl (by simp) ?_
  refine group_ok qc (s := s2) (ahead := []) t2 hc (by rw [hC]; rfl) rfl hd2 (by simp) fun m3 d3 p3 t3 hd3 => ?_
  refine W.pop rfl (.inl rfl) ?_
  rw [hA, hB, hC]
  exact W.fin hd3
end K38
end
section
/-! K38W: a def that keeps its promise (Ok), its calls; instances' attributes; syntax on the heap. -/
namespace K38
open PySem PySem.Spec PyProof.Rows L2

/-! ### defs -/
def Ok (P : Program) (w : World) (K : PySem.W.Frag) (mg : Str → Option Value) (base : Heap) (k : Nat) (f : Addr) (ps : List Str) (ds : List V) (sp : Sp) : Prop :=
  ∃ (fd : FuncData) (us : List Value), FnOk P w K mg base CX0 k f fd ps sp ∧ Binds K fd ps us ∧ Vals ds us ∧ PySem.W.keepIn K (.ref f) = true ∧ ∃ (oc : Value) (od : Option Addr) (osl : Array (Option Value)), K.lookup f = some ⟨oc, od, .func fd, osl⟩
section
variable {P : Program} {w : World} {K : PySem.W.Frag} {mg : Str → Option Value} {base : Heap}
theorem Ok.mono {j k : Nat} {f : Addr} {ps : List Str} {ds : List V} {sp : Sp} (o : Ok P w K mg base j f ps ds sp) (h : j ≤ k) : Ok P w K mg base k f ps ds sp :=
  let ⟨fd, us, a, b, c, d⟩ := o
  ⟨fd, us, a.mono h, b, c, d⟩
theorem mkOk {x q : Str} {st : Stmt} {dvs : List V} {kws : List (Str × V)} {f : Addr} {fd : FuncData} {N ps : List Str} {k : Nat} {ds : List V} {sp : Sp} (F : FnP K x q st dvs kws f fd) (S : FnScope N ps (defScope st))
    (b : ∃ us, Vals ds us ∧ Binds K fd ps us) (len : ∀ vs H Q E, sp vs H Q E → vs.length = ps.length)
    (hbody : ∀ (cdv : Value) (A : Around) (outer : List Env) (s : Shared) (H : Hp) (vs : List V) (Q : VK) (E : XK), Room k (A.deeper (envOfC q (defScope st) s.heap.objs.size f cdv)) → sp vs H Q E →
      ∃ t, PSs (cxOf CX0 P w K mg base N q (defScope st) f cdv A outer s H E).nox (defBody st) t ∧ t { nx := fun _ H' => Q .non H', rt := Q } (L2.start N vs) H) : Ok P w K mg base (k + 1) f ps ds sp := by
  obtain ⟨us, v, b⟩ := b
  refine ⟨fd, us, FunD.ok F S len fun cdv A outer s H vs Q E hr h => ?_, b, v, F.kp, (by
    obtain ⟨oc, od, _, _, _, _, _, _, _, osl, _, lk, _⟩ := F.ex
    exact ⟨oc, od, osl, lk⟩)⟩
  obtain ⟨t, h1, h2⟩ := hbody cdv A outer s H vs Q E hr h
  exact ⟨t, h1.nox, h2⟩
/-- one promise for many -/
theorem Ok.ex {α : Type} {G : α → Prop} {k : Nat} {f : Addr} {ps : List Str} {ds : List V} {sp : α → Sp} (a0 : α) (g0 : G a0) (h : ∀ a, G a → Ok P w K mg base k f ps ds (sp a)) : Ok P w K mg base k f ps ds (fun vs H Q E => ∃ a, G a ∧ sp a vs H Q E) := by
  obtain ⟨fd, us, _, b, v, kp, oc, od, osl, lk⟩ := h a0 g0
  have all : ∀ a, G a → FnOk P w K mg base CX0 k f fd ps (sp a) := fun a g => by
    obtain ⟨fd', us', G', _, _, _, oc', od', osl', lk'⟩ := h a g
    rw [lk] at lk'
    cases lk'
    exact G'
  refine ⟨fd, us, ⟨fun vs H Q E ⟨a, g, z⟩ => (all a g).len vs H Q E z, fun A outer s H args us vs Q E hr he hb hv ⟨a, g, z⟩ => (all a g).run A outer s H args us vs Q E hr he hb hv z⟩, b, v, kp, oc, od, osl, lk⟩
theorem bind0 {x q : Str} {st : Stmt} {f : Addr} {fd : FuncData} {ps : List Str} {kws : List (Str × V)} (F : FnP K x q st [] kws f fd)
    (h : ∀ (kV doc pm : Value) (an : Option Addr) (cdv ct : Value) (us : List Value), us.length = ps.length → bindArgs (PySem.W.fnOf x q (defArgs st) (defBody st) (defScope st) .none kV doc pm an cdv ct) ⟨us, []⟩ = pure (ps.zip us)) : ∃ us, Vals [] us ∧ Binds K fd ps us :=
  ⟨[], .nil, FunD.bindsN F h⟩
end
/-! ### heaps -/
theorem same_new {H : Hp} {p : Addr} (h : H p = none) (o : HO) : Same H (upd H p o) := fun b u q => by rw [upd_ne (ne_of_none q h)]; exact q
theorem Same.seqT {K : PySem.W.Frag} {H H' : Hp} {a : Addr} {xs : List V} (e : Same H H') (h : SqT K H a xs) : SqT K H' a xs := by
  rcases h with (h | ⟨o, h⟩) | h
  · exact .inl (.inl (e _ _ h))
  · exact .inl (.inr ⟨o, e _ _ h⟩)
  · exact .inr h
/-- what a new instance leaves: seen from the heap ahead -/
theorem made_new {H : Hp} {x dx C : Addr} {fs : List (Str × V)} (nx : H x = none) (ndx : H dx = none) : Same H (upd (upd (upd H dx (.own x)) x (.ins C dx [])) x (.ins C dx fs)) := fun b u q => by
  rw [upd_ne (ne_of_none q nx), upd_ne (ne_of_none q nx), upd_ne (ne_of_none q ndx)]
  exact q

def fsPart (kind_ rows_ place_ statement_ outcome_ : V) : List (Str × V) := [("kind", kind_), ("rows", rows_), ("place", place_), ("statement", statement_), ("outcome", outcome_)]
theorem fsPart_init (kind_ rows_ place_ statement_ outcome_ : V) : (putF "outcome" outcome_ (putF "statement" statement_ (putF "place" place_ (putF "rows" rows_ (putF "kind" kind_ []))))) = fsPart kind_ rows_ place_ statement_ outcome_ := by kernel_rfl
theorem fsPart_kind {kind_ rows_ place_ statement_ outcome_ : V} : (fsPart kind_ rows_ place_ statement_ outcome_).lookup ("kind" : Str) = some kind_ := by kernel_rfl
theorem fsPart_put_kind {kind_ rows_ place_ statement_ outcome_ v : V} : putF "kind" v (fsPart kind_ rows_ place_ statement_ outcome_) = fsPart v rows_ place_ statement_ outcome_ := by kernel_rfl
theorem fsPart_rows {kind_ rows_ place_ statement_ outcome_ : V} : (fsPart kind_ rows_ place_ statement_ outcome_).lookup ("rows" : Str) = some rows_ := by kernel_rfl
theorem fsPart_put_rows {kind_ rows_ place_ statement_ outcome_ v : V} : putF "rows" v (fsPart kind_ rows_ place_ statement_ outcome_) = fsPart kind_ v place_ statement_ outcome_ := by kernel_rfl
theorem fsPart_place {kind_ rows_ place_ statement_ outcome_ : V} : (fsPart kind_ rows_ place_ statement_ outcome_).lookup ("place" : Str) = some place_ := by kernel_rfl
theorem fsPart_put_place {kind_ rows_ place_ statement_ outcome_ v : V} : putF "place" v (fsPart kind_ rows_ place_ statement_ outcome_) = fsPart kind_ rows_ v statement_ outcome_ := by kernel_rfl
theorem fsPart_statement {kind_ rows_ place_ statement_ outcome_ : V} : (fsPart kind_ rows_ place_ statement_ outcome_).lookup ("statement" : Str) = some statement_ := by kernel_rfl
theorem fsPart_put_statement {kind_ rows_ place_ statement_ outcome_ v : V} : putF "statement" v (fsPart kind_ rows_ place_ statement_ outcome_) = fsPart kind_ rows_ place_ v outcome_ := by kernel_rfl
theorem fsPart_outcome {kind_ rows_ place_ statement_ outcome_ : V} : (fsPart kind_ rows_ place_ statement_ outcome_).lookup ("outcome" : Str) = some outcome_ := by kernel_rfl
theorem fsPart_put_outcome {kind_ rows_ place_ statement_ outcome_ v : V} : putF "outcome" v (fsPart kind_ rows_ place_ statement_ outcome_) = fsPart kind_ rows_ place_ statement_ v := by kernel_rfl
def fsFrame (scope_ me_ owner_ parts_ pending_ : V) : List (Str × V) := [("scope", scope_), ("me", me_), ("owner", owner_), ("parts", parts_), ("pending", pending_)]
theorem fsFrame_init (scope_ me_ owner_ parts_ pending_ : V) : (putF "pending" pending_ (putF "parts" parts_ (putF "owner" owner_ (putF "me" me_ (putF "scope" scope_ []))))) = fsFrame scope_ me_ owner_ parts_ pending_ := by kernel_rfl
theorem fsFrame_scope {scope_ me_ owner_ parts_ pending_ : V} : (fsFrame scope_ me_ owner_ parts_ pending_).lookup ("scope" : Str) = some scope_ := by kernel_rfl
theorem fsFrame_put_scope {scope_ me_ owner_ parts_ pending_ v : V} : putF "scope" v (fsFrame scope_ me_ owner_ parts_ pending_) = fsFrame v me_ owner_ parts_ pending_ := by kernel_rfl
theorem fsFrame_me {scope_ me_ owner_ parts_ pending_ : V} : (fsFrame scope_ me_ owner_ parts_ pending_).lookup ("me" : Str) = some me_ := by kernel_rfl
theorem fsFrame_put_me {scope_ me_ owner_ parts_ pending_ v : V} : putF "me" v (fsFrame scope_ me_ owner_ parts_ pending_) = fsFrame scope_ v owner_ parts_ pending_ := by kernel_rfl
theorem fsFrame_owner {scope_ me_ owner_ parts_ pending_ : V} : (fsFrame scope_ me_ owner_ parts_ pending_).lookup ("owner" : Str) = some owner_ := by kernel_rfl
theorem fsFrame_put_owner {scope_ me_ owner_ parts_ pending_ v : V} : putF "owner" v (fsFrame scope_ me_ owner_ parts_ pending_) = fsFrame scope_ me_ v parts_ pending_ := by kernel_rfl
theorem fsFrame_parts {scope_ me_ owner_ parts_ pending_ : V} : (fsFrame scope_ me_ owner_ parts_ pending_).lookup ("parts" : Str) = some parts_ := by kernel_rfl
theorem fsFrame_put_parts {scope_ me_ owner_ parts_ pending_ v : V} : putF "parts" v (fsFrame scope_ me_ owner_ parts_ pending_) = fsFrame scope_ me_ owner_ v pending_ := by kernel_rfl
theorem fsFrame_pending {scope_ me_ owner_ parts_ pending_ : V} : (fsFrame scope_ me_ owner_ parts_ pending_).lookup ("pending" : Str) = some pending_ := by kernel_rfl
theorem fsFrame_put_pending {scope_ me_ owner_ parts_ pending_ v : V} : putF "pending" v (fsFrame scope_ me_ owner_ parts_ pending_) = fsFrame scope_ me_ owner_ parts_ v := by kernel_rfl
def fsScope (outer_ held_ : V) : List (Str × V) := [("outer", outer_), ("held", held_)]
theorem fsScope_init (outer_ held_ : V) : (putF "held" held_ (putF "outer" outer_ [])) = fsScope outer_ held_ := by kernel_rfl
theorem fsScope_outer {outer_ held_ : V} : (fsScope outer_ held_).lookup ("outer" : Str) = some outer_ := by kernel_rfl
theorem fsScope_put_outer {outer_ held_ v : V} : putF "outer" v (fsScope outer_ held_) = fsScope v held_ := by kernel_rfl
theorem fsScope_held {outer_ held_ : V} : (fsScope outer_ held_).lookup ("held" : Str) = some held_ := by kernel_rfl
theorem fsScope_put_held {outer_ held_ v : V} : putF "held" v (fsScope outer_ held_) = fsScope outer_ v := by kernel_rfl
def fsFunction (params_ block_ scope_ me_ owner_ : V) : List (Str × V) := [("params", params_), ("block", block_), ("scope", scope_), ("me", me_), ("owner", owner_)]
theorem fsFunction_init (params_ block_ scope_ me_ owner_ : V) : (putF "owner" owner_ (putF "me" me_ (putF "scope" scope_ (putF "block" block_ (putF "params" params_ []))))) = fsFunction params_ block_ scope_ me_ owner_ := by kernel_rfl
theorem fsFunction_params {params_ block_ scope_ me_ owner_ : V} : (fsFunction params_ block_ scope_ me_ owner_).lookup ("params" : Str) = some params_ := by kernel_rfl
theorem fsFunction_put_params {params_ block_ scope_ me_ owner_ v : V} : putF "params" v (fsFunction params_ block_ scope_ me_ owner_) = fsFunction v block_ scope_ me_ owner_ := by kernel_rfl
theorem fsFunction_block {params_ block_ scope_ me_ owner_ : V} : (fsFunction params_ block_ scope_ me_ owner_).lookup ("block" : Str) = some block_ := by kernel_rfl
theorem fsFunction_put_block {params_ block_ scope_ me_ owner_ v : V} : putF "block" v (fsFunction params_ block_ scope_ me_ owner_) = fsFunction params_ v scope_ me_ owner_ := by kernel_rfl
theorem fsFunction_scope {params_ block_ scope_ me_ owner_ : V} : (fsFunction params_ block_ scope_ me_ owner_).lookup ("scope" : Str) = some scope_ := by kernel_rfl
theorem fsFunction_put_scope {params_ block_ scope_ me_ owner_ v : V} : putF "scope" v (fsFunction params_ block_ scope_ me_ owner_) = fsFunction params_ block_ v me_ owner_ := by kernel_rfl
theorem fsFunction_me {params_ block_ scope_ me_ owner_ : V} : (fsFunction params_ block_ scope_ me_ owner_).lookup ("me" : Str) = some me_ := by kernel_rfl
theorem fsFunction_put_me {params_ block_ scope_ me_ owner_ v : V} : putF "me" v (fsFunction params_ block_ scope_ me_ owner_) = fsFunction params_ block_ scope_ v owner_ := by kernel_rfl
theorem fsFunction_owner {params_ block_ scope_ me_ owner_ : V} : (fsFunction params_ block_ scope_ me_ owner_).lookup ("owner" : Str) = some owner_ := by kernel_rfl
theorem fsFunction_put_owner {params_ block_ scope_ me_ owner_ v : V} : putF "owner" v (fsFunction params_ block_ scope_ me_ owner_) = fsFunction params_ block_ scope_ me_ v := by kernel_rfl
def fsMachine (kinds_ ground_ stack_ printed_ ending_ deepest_ : V) : List (Str × V) := [("kinds", kinds_), ("ground", ground_), ("stack", stack_), ("printed", printed_), ("ending", ending_), ("deepest", deepest_)]
theorem fsMachine_init (kinds_ ground_ stack_ printed_ ending_ deepest_ : V) : (putF "deepest" deepest_ (putF "ending" ending_ (putF "printed" printed_ (putF "stack" stack_ (putF "ground" ground_ (putF "kinds" kinds_ [])))))) = fsMachine kinds_ ground_ stack_ printed_ ending_ deepest_ := by kernel_rfl
theorem fsMachine_kinds {kinds_ ground_ stack_ printed_ ending_ deepest_ : V} : (fsMachine kinds_ ground_ stack_ printed_ ending_ deepest_).lookup ("kinds" : Str) = some kinds_ := by kernel_rfl
theorem fsMachine_put_kinds {kinds_ ground_ stack_ printed_ ending_ deepest_ v : V} : putF "kinds" v (fsMachine kinds_ ground_ stack_ printed_ ending_ deepest_) = fsMachine v ground_ stack_ printed_ ending_ deepest_ := by kernel_rfl
theorem fsMachine_ground {kinds_ ground_ stack_ printed_ ending_ deepest_ : V} : (fsMachine kinds_ ground_ stack_ printed_ ending_ deepest_).lookup ("ground" : Str) = some ground_ := by kernel_rfl
theorem fsMachine_put_ground {kinds_ ground_ stack_ printed_ ending_ deepest_ v : V} : putF "ground" v (fsMachine kinds_ ground_ stack_ printed_ ending_ deepest_) = fsMachine kinds_ v stack_ printed_ ending_ deepest_ := by kernel_rfl
theorem fsMachine_stack {kinds_ ground_ stack_ printed_ ending_ deepest_ : V} : (fsMachine kinds_ ground_ stack_ printed_ ending_ deepest_).lookup ("stack" : Str) = some stack_ := by kernel_rfl
theorem fsMachine_put_stack {kinds_ ground_ stack_ printed_ ending_ deepest_ v : V} : putF "stack" v (fsMachine kinds_ ground_ stack_ printed_ ending_ deepest_) = fsMachine kinds_ ground_ v printed_ ending_ deepest_ := by kernel_rfl
theorem fsMachine_printed {kinds_ ground_ stack_ printed_ ending_ deepest_ : V} : (fsMachine kinds_ ground_ stack_ printed_ ending_ deepest_).lookup ("printed" : Str) = some printed_ := by kernel_rfl
theorem fsMachine_put_printed {kinds_ ground_ stack_ printed_ ending_ deepest_ v : V} : putF "printed" v (fsMachine kinds_ ground_ stack_ printed_ ending_ deepest_) = fsMachine kinds_ ground_ stack_ v ending_ deepest_ := by kernel_rfl
theorem fsMachine_ending {kinds_ ground_ stack_ printed_ ending_ deepest_ : V} : (fsMachine kinds_ ground_ stack_ printed_ ending_ deepest_).lookup ("ending" : Str) = some ending_ := by kernel_rfl
theorem fsMachine_put_ending {kinds_ ground_ stack_ printed_ ending_ deepest_ v : V} : putF "ending" v (fsMachine kinds_ ground_ stack_ printed_ ending_ deepest_) = fsMachine kinds_ ground_ stack_ printed_ v deepest_ := by kernel_rfl
theorem fsMachine_deepest {kinds_ ground_ stack_ printed_ ending_ deepest_ : V} : (fsMachine kinds_ ground_ stack_ printed_ ending_ deepest_).lookup ("deepest" : Str) = some deepest_ := by kernel_rfl
theorem fsMachine_put_deepest {kinds_ ground_ stack_ printed_ ending_ deepest_ v : V} : putF "deepest" v (fsMachine kinds_ ground_ stack_ printed_ ending_ deepest_) = fsMachine kinds_ ground_ stack_ printed_ ending_ v := by kernel_rfl
def fsPlace (fields_ has_parent_ known_ may_return_ : V) : List (Str × V) := [("fields", fields_), ("has_parent", has_parent_), ("known", known_), ("may_return", may_return_)]
theorem fsPlace_init (fields_ has_parent_ known_ may_return_ : V) : (putF "may_return" may_return_ (putF "known" known_ (putF "has_parent" has_parent_ (putF "fields" fields_ [])))) = fsPlace fields_ has_parent_ known_ may_return_ := by kernel_rfl
theorem fsPlace_fields {fields_ has_parent_ known_ may_return_ : V} : (fsPlace fields_ has_parent_ known_ may_return_).lookup ("fields" : Str) = some fields_ := by kernel_rfl
theorem fsPlace_put_fields {fields_ has_parent_ known_ may_return_ v : V} : putF "fields" v (fsPlace fields_ has_parent_ known_ may_return_) = fsPlace v has_parent_ known_ may_return_ := by kernel_rfl
theorem fsPlace_has_parent {fields_ has_parent_ known_ may_return_ : V} : (fsPlace fields_ has_parent_ known_ may_return_).lookup ("has_parent" : Str) = some has_parent_ := by kernel_rfl
theorem fsPlace_put_has_parent {fields_ has_parent_ known_ may_return_ v : V} : putF "has_parent" v (fsPlace fields_ has_parent_ known_ may_return_) = fsPlace fields_ v known_ may_return_ := by kernel_rfl
theorem fsPlace_known {fields_ has_parent_ known_ may_return_ : V} : (fsPlace fields_ has_parent_ known_ may_return_).lookup ("known" : Str) = some known_ := by kernel_rfl
theorem fsPlace_put_known {fields_ has_parent_ known_ may_return_ v : V} : putF "known" v (fsPlace fields_ has_parent_ known_ may_return_) = fsPlace fields_ has_parent_ v may_return_ := by kernel_rfl
theorem fsPlace_may_return {fields_ has_parent_ known_ may_return_ : V} : (fsPlace fields_ has_parent_ known_ may_return_).lookup ("may_return" : Str) = some may_return_ := by kernel_rfl
theorem fsPlace_put_may_return {fields_ has_parent_ known_ may_return_ v : V} : putF "may_return" v (fsPlace fields_ has_parent_ known_ may_return_) = fsPlace fields_ has_parent_ known_ v := by kernel_rfl
def fsProgram (held_ body_ : V) : List (Str × V) := [("held", held_), ("body", body_)]
theorem fsProgram_init (held_ body_ : V) : (putF "body" body_ (putF "held" held_ [])) = fsProgram held_ body_ := by kernel_rfl
theorem fsProgram_held {held_ body_ : V} : (fsProgram held_ body_).lookup ("held" : Str) = some held_ := by kernel_rfl
theorem fsProgram_put_held {held_ body_ v : V} : putF "held" v (fsProgram held_ body_) = fsProgram v body_ := by kernel_rfl
theorem fsProgram_body {held_ body_ : V} : (fsProgram held_ body_).lookup ("body" : Str) = some body_ := by kernel_rfl
theorem fsProgram_put_body {held_ body_ v : V} : putF "body" v (fsProgram held_ body_) = fsProgram held_ v := by kernel_rfl
theorem fsMachine_no_step {kinds_ ground_ stack_ printed_ ending_ deepest_ : V} : (fsMachine kinds_ ground_ stack_ printed_ ending_ deepest_).lookup ("step" : Str) = none := by kernel_rfl
theorem fsMachine_no_stands {kinds_ ground_ stack_ printed_ ending_ deepest_ : V} : (fsMachine kinds_ ground_ stack_ printed_ ending_ deepest_).lookup ("stands" : Str) = none := by kernel_rfl
theorem fsMachine_no_go_on {kinds_ ground_ stack_ printed_ ending_ deepest_ : V} : (fsMachine kinds_ ground_ stack_ printed_ ending_ deepest_).lookup ("go_on" : Str) = none := by kernel_rfl
theorem fsMachine_no_further {kinds_ ground_ stack_ printed_ ending_ deepest_ : V} : (fsMachine kinds_ ground_ stack_ printed_ ending_ deepest_).lookup ("further" : Str) = none := by kernel_rfl
theorem fsMachine_no_behind {kinds_ ground_ stack_ printed_ ending_ deepest_ : V} : (fsMachine kinds_ ground_ stack_ printed_ ending_ deepest_).lookup ("behind" : Str) = none := by kernel_rfl
theorem fsMachine_no_leave {kinds_ ground_ stack_ printed_ ending_ deepest_ : V} : (fsMachine kinds_ ground_ stack_ printed_ ending_ deepest_).lookup ("leave" : Str) = none := by kernel_rfl
theorem fsMachine_no_begin {kinds_ ground_ stack_ printed_ ending_ deepest_ : V} : (fsMachine kinds_ ground_ stack_ printed_ ending_ deepest_).lookup ("begin" : Str) = none := by kernel_rfl
theorem fsMachine_no_choose {kinds_ ground_ stack_ printed_ ending_ deepest_ : V} : (fsMachine kinds_ ground_ stack_ printed_ ending_ deepest_).lookup ("choose" : Str) = none := by kernel_rfl
theorem fsMachine_no_right {kinds_ ground_ stack_ printed_ ending_ deepest_ : V} : (fsMachine kinds_ ground_ stack_ printed_ ending_ deepest_).lookup ("right" : Str) = none := by kernel_rfl
theorem fsMachine_no_finish {kinds_ ground_ stack_ printed_ ending_ deepest_ : V} : (fsMachine kinds_ ground_ stack_ printed_ ending_ deepest_).lookup ("finish" : Str) = none := by kernel_rfl
theorem fsMachine_no_call {kinds_ ground_ stack_ printed_ ending_ deepest_ : V} : (fsMachine kinds_ ground_ stack_ printed_ ending_ deepest_).lookup ("call" : Str) = none := by kernel_rfl
theorem fsMachine_no_enter_function {kinds_ ground_ stack_ printed_ ending_ deepest_ : V} : (fsMachine kinds_ ground_ stack_ printed_ ending_ deepest_).lookup ("enter_function" : Str) = none := by kernel_rfl
theorem fsMachine_no_enter {kinds_ ground_ stack_ printed_ ending_ deepest_ : V} : (fsMachine kinds_ ground_ stack_ printed_ ending_ deepest_).lookup ("enter" : Str) = none := by kernel_rfl
theorem fsMachine_no_simple {kinds_ ground_ stack_ printed_ ending_ deepest_ : V} : (fsMachine kinds_ ground_ stack_ printed_ ending_ deepest_).lookup ("simple" : Str) = none := by kernel_rfl
theorem fsMachine_no_holds {kinds_ ground_ stack_ printed_ ending_ deepest_ : V} : (fsMachine kinds_ ground_ stack_ printed_ ending_ deepest_).lookup ("holds" : Str) = none := by kernel_rfl
theorem fsScope_no_nearest {outer_ held_ : V} : (fsScope outer_ held_).lookup ("nearest" : Str) = none := by kernel_rfl
theorem fsPlace_no_within_function {fields_ has_parent_ known_ may_return_ : V} : (fsPlace fields_ has_parent_ known_ may_return_).lookup ("within_function" : Str) = none := by kernel_rfl

/-! ### syntax on the heap -/
inductive T where
  | s (x : Str) | t (xs : List T)
mutual
def At (H : Hp) : T → V → Prop
  | .s x, v => v = .str x
  | .t xs, v => ∃ a vs, v = .ref a ∧ H a = some (.tup vs) ∧ Ats H xs vs
def Ats (H : Hp) : List T → List V → Prop
  | [], vs => vs = []
  | x :: xs, vs => ∃ v r, vs = v :: r ∧ At H x v ∧ Ats H xs r
end
mutual
theorem At.same {H H' : Hp} (h : ∀ a vs, H a = some (.tup vs) → H' a = some (.tup vs)) : ∀ (t : T) (v : V), At H t v → At H' t v
  | .s x, v, q => by unfold At at q ⊢; exact q
  | .t xs, v, q => by
    unfold At at q ⊢
    obtain ⟨a, vs, e, e1, e2⟩ := q
    exact ⟨a, vs, e, h _ _ e1, Ats.same h xs vs e2⟩
theorem Ats.same {H H' : Hp} (h : ∀ a vs, H a = some (.tup vs) → H' a = some (.tup vs)) : ∀ (ts : List T) (vs : List V), Ats H ts vs → Ats H' ts vs
  | [], vs, q => by unfold Ats at q ⊢; exact q
  | x :: xs, vs, q => by
    unfold Ats at q ⊢
    obtain ⟨v, r, e, e1, e2⟩ := q
    exact ⟨v, r, e, At.same h x v e1, Ats.same h xs r e2⟩
end
/-- tuples stay -/
def Tps (H H' : Hp) : Prop := ∀ a vs, H a = some (.tup vs) → H' a = some (.tup vs)
theorem Tps.trans {H H1 H2 : Hp} (a : Tps H H1) (b : Tps H1 H2) : Tps H H2 := fun c o h => b c o (a c o h)
theorem Tps.refl (H : Hp) : Tps H H := fun _ _ h => h
theorem tps_of {H H' : Hp} (h : Same H H') : Tps H H' := fun a vs e => h a _ e
theorem At.str {H : Hp} {x : Str} {v : V} (h : At H (.s x) v) : v = .str x := by unfold At at h; exact h
theorem At.tup {H : Hp} {xs : List T} {v : V} (h : At H (.t xs) v) : ∃ a vs, v = .ref a ∧ H a = some (.tup vs) ∧ Ats H xs vs := by unfold At at h; exact h
theorem Ats.nil {H : Hp} {vs : List V} (h : Ats H [] vs) : vs = [] := by unfold Ats at h; exact h
theorem Ats.cons {H : Hp} {x : T} {xs : List T} {vs : List V} (h : Ats H (x :: xs) vs) : ∃ v r, vs = v :: r ∧ At H x v ∧ Ats H xs r := by unfold Ats at h; exact h
theorem At.mkS {H : Hp} {x : Str} : At H (.s x) (.str x) := by unfold At; rfl
theorem At.mkT {H : Hp} {xs : List T} {a : Addr} {vs : List V} (e : H a = some (.tup vs)) (h : Ats H xs vs) : At H (.t xs) (.ref a) := by unfold At; exact ⟨a, vs, rfl, e, h⟩
theorem Ats.mkN {H : Hp} : Ats H [] [] := by unfold Ats; rfl
theorem Ats.mkC {H : Hp} {x : T} {xs : List T} {v : V} {r : List V} (h : At H x v) (g : Ats H xs r) : Ats H (x :: xs) (v :: r) := by unfold Ats; exact ⟨v, r, rfl, h, g⟩
theorem At.tup1 {H : Hp} {a : T} {v : V} (h : At H (.t [a]) v) : ∃ p x, v = .ref p ∧ H p = some (.tup [x]) ∧ At H a x := by
  obtain ⟨p, vs, e, e1, h⟩ := h.tup
  obtain ⟨x, r, rfl, hx, h⟩ := h.cons
  cases h.nil
  exact ⟨p, x, e, e1, hx⟩
theorem At.tup2 {H : Hp} {a b : T} {v : V} (h : At H (.t [a, b]) v) : ∃ p x y, v = .ref p ∧ H p = some (.tup [x, y]) ∧ At H a x ∧ At H b y := by
  obtain ⟨p, vs, e, e1, h⟩ := h.tup
  obtain ⟨x, r, rfl, hx, h⟩ := h.cons
  obtain ⟨y, r, rfl, hy, h⟩ := h.cons
  cases h.nil
  exact ⟨p, x, y, e, e1, hx, hy⟩
theorem At.tup3 {H : Hp} {a b c : T} {v : V} (h : At H (.t [a, b, c]) v) : ∃ p x y z, v = .ref p ∧ H p = some (.tup [x, y, z]) ∧ At H a x ∧ At H b y ∧ At H c z := by
  obtain ⟨p, vs, e, e1, h⟩ := h.tup
  obtain ⟨x, r, rfl, hx, h⟩ := h.cons
  obtain ⟨y, r, rfl, hy, h⟩ := h.cons
  obtain ⟨z, r, rfl, hz, h⟩ := h.cons
  cases h.nil
  exact ⟨p, x, y, z, e, e1, hx, hy, hz⟩
theorem At.tup4 {H : Hp} {a b c d : T} {v : V} (h : At H (.t [a, b, c, d]) v) : ∃ p x y z u, v = .ref p ∧ H p = some (.tup [x, y, z, u]) ∧ At H a x ∧ At H b y ∧ At H c z ∧ At H d u := by
  obtain ⟨p, vs, e, e1, h⟩ := h.tup
  obtain ⟨x, r, rfl, hx, h⟩ := h.cons
  obtain ⟨y, r, rfl, hy, h⟩ := h.cons
  obtain ⟨z, r, rfl, hz, h⟩ := h.cons
  obtain ⟨u, r, rfl, hu, h⟩ := h.cons
  cases h.nil
  exact ⟨p, x, y, z, u, e, e1, hx, hy, hz, hu⟩
theorem Ats.len {H : Hp} : ∀ {ts : List T} {vs : List V}, Ats H ts vs → vs.length = ts.length
  | [], vs, h => by cases h.nil; rfl
  | t :: ts, vs, h => by
    obtain ⟨v, r, rfl, _, h⟩ := h.cons
    rw [List.length_cons, List.length_cons, h.len]
theorem Ats.get {H : Hp} : ∀ {ts : List T} {vs : List V} {i : Nat} {v : V}, Ats H ts vs → vs[i]? = some v → ∃ t, ts[i]? = some t ∧ At H t v
  | [], vs, i, v, h, e => by cases h.nil; cases e
  | t :: ts, vs, i, v, h, e => by
    obtain ⟨u, r, rfl, hu, h⟩ := h.cons
    cases i with
    | zero => cases e; exact ⟨t, rfl, hu⟩
    | succ i => exact h.get (i := i) e
theorem Ats.get' {H : Hp} : ∀ {ts : List T} {vs : List V} {i : Nat} {t : T}, Ats H ts vs → ts[i]? = some t → ∃ v, vs[i]? = some v ∧ At H t v
  | [], vs, i, v, h, e => by cases e
  | t :: ts, vs, i, v, h, e => by
    obtain ⟨u, r, rfl, hu, h⟩ := h.cons
    cases i with
    | zero => cases e; exact ⟨u, rfl, hu⟩
    | succ i => exact h.get' (i := i) e
theorem Ats.app {H : Hp} : ∀ {ts us : List T} {vs ws : List V}, Ats H ts vs → Ats H us ws → Ats H (ts ++ us) (vs ++ ws)
  | [], us, vs, ws, h, g => by cases h.nil; exact g
  | t :: ts, us, vs, ws, h, g => by
    obtain ⟨u, r, rfl, hu, h⟩ := h.cons
    exact .mkC hu (h.app g)

section
variable (nm : Nm → Str)
def eNames (ps : List Nm) : T := .t (ps.map fun x => .s (nm x))
mutual
def eEx : Ex → T
  | .word w => .t [.s "word", .s w]
  | .non => .t [.s "none"]
  | .name x => .t [.s "name", .s (nm x)]
  | .fn ps b => .t [.s "fn", .t (ps.map fun x => .s (nm x)), .t (eSms b)]
def eExs : List Ex → List T
  | [] => []
  | e :: es => eEx e :: eExs es
def eRt : Rt → T
  | .ex e => eEx e
  | .call f as => .t [.s "call", eEx f, .t (eExs as)]
def eTe : Te → T
  | .same a b => .t [.s "same", eEx a, eEx b]
  | .not t => .t [.s "not", eTe t]
def eSm : Sm → T
  | .lt x r => .t [.s "let", .s (nm x), eRt r]
  | .st x r => .t [.s "set", .s (nm x), eRt r]
  | .pr e => .t [.s "print", eEx e]
  | .ret r => .t [.s "return", eRt r]
  | .rs r => .t [.s "raise", eRt r]
  | .iff t a b => .t [.s "if", eTe t, .t (eSms a), .t (eSms b)]
  | .whl t a => .t [.s "while", eTe t, .t (eSms a)]
  | .tr a x b => .t [.s "try", .t (eSms a), .s (nm x), .t (eSms b)]
  | .la a b => .t [.s "last", .t (eSms a), .t (eSms b)]
def eSms : List Sm → List T
  | [] => []
  | s :: r => eSm s :: eSms r
end
end
theorem eSms_get {nm : Nm → Str} : ∀ {b : List Sm} {i : Nat}, (eSms nm b)[i]? = (b[i]?).map (eSm nm)
  | [], i => by simp [eSms]
  | s :: r, 0 => by simp [eSms]
  | s :: r, i + 1 => by
    simp only [eSms, List.getElem?_cons_succ]
    exact eSms_get
theorem eSms_len {nm : Nm → Str} : ∀ {b : List Sm}, (eSms nm b).length = b.length
  | [] => by simp [eSms]
  | s :: r => by simp [eSms, eSms_len]
theorem eExs_len {nm : Nm → Str} : ∀ {b : List Ex}, (eExs nm b).length = b.length
  | [] => by simp [eExs]
  | s :: r => by simp [eExs, eExs_len]
theorem eExs_get {nm : Nm → Str} : ∀ {b : List Ex} {i : Nat}, (eExs nm b)[i]? = (b[i]?).map (eEx nm)
  | [], i => by simp [eExs]
  | s :: r, 0 => by simp [eExs]
  | s :: r, i + 1 => by
    simp only [eExs, List.getElem?_cons_succ]
    exact eExs_get
end K38
end
section
/-! K38F0: is_name, head. -/
namespace K38
open PySem PySem.Spec PyProof.Rows L2
theorem pe_gc {X : Cx} {x : Str} {pos : Pos} {v : V} (hg : Gl X x) (h : ∃ u, X.mg x = some u ∧ RelV v u) (hd : (x == ("__debug__" : Str)) = false := by decide) : PE X (.Name x pos) (tC v) := by
  obtain ⟨u, hm, r⟩ := h
  exact pe_glob hg hm r hd
theorem kT {c A B : Prop} [Decidable c] (h : c) (a : A) : if c then A else B := by rw [if_pos h]; exact a
theorem kF {c A B : Prop} [Decidable c] (h : ¬ c) (b : B) : if c then A else B := by rw [if_neg h]; exact b
def letters : Str := "abcdefghijklmnopqrstuvwxyz"
def okNm (x : Str) : Prop := 1 ≤ x.length ∧ x.length ≤ 8 ∧ ∀ c ∈ x.cps.toList, c ∈ letters.cps.toList
section
variable {P : Program} {w : World} {K : PySem.W.Frag} {mg : Str → Option Value} {base : Heap}
def spIsName : Sp := fun vs H Q _ => ∃ x : Str, vs = [.str x] ∧ okNm x ∧ Q (.bl true) H
theorem sc_is_name : FnScope ["thing", "letter"] ["thing"] (defScope s_is_name) := ⟨rfl, rfl, rfl, by decide +kernel, rfl, by decide +kernel, by decide +kernel⟩
theorem ok_is_name (T : Tx K mg) : Ok P w K mg base 1 (He.fAd K ("is_name", none)) ["thing"] [] spIsName := by
  obtain ⟨fd, F⟩ := T.f_is_name
  refine mkOk F sc_is_name (bind0 F fun _ _ _ _ _ _ us hl => match us, hl with | [_], _ => rfl) (fun vs H Q E h => ?_) (fun cdv A outer s H vs Q E hr h => ?_)
  · obtain ⟨x, rfl, _⟩ := h
    rfl
  obtain ⟨x, rfl, ⟨o1, o2, o3⟩, k⟩ := h
  refine ⟨_, (pss_cons (ps_if (PW.pt (pw_or (pt_not (pt_val (pe_callB call_isi (by rfl) T.z_isinstance (by decide +kernel) (pa_cons (pv 0) (pa_cons (pe_bltn (v := .ty "str") (by rfl) T.z_str (by decide +kernel) rfl) pa_nil))))) (pw_or1 (pt_not (pt_chain op_le op_le pe_int (pe_callB call_len_str (by rfl) T.z_len PySem.boot_len (pa_cons (pv 0) pa_nil)) pe_int))))) (pss_one (ps_ret pe_bl)) pss_nil)
      (pss_cons (ps_for PassesOwn.never rfl (pi_str (pv 0)) (pg_name (i := 1) sc_is_name.nd rfl (Or.inl rfl))
      (pss_one (ps_if (pt_cmpR op_notIn_sign (pv 1) (pe_gc rfl T.k_LETTERS) (by rfl)) (pss_one (ps_ret pe_bl)) pss_nil)))
      (pss_one (ps_ret pe_bl)))), ?_⟩
  have hl : x.length ≤ sizeLine := Nat.le_trans o2 (by decide)
  -- isinstance(thing, str), 1 <= len(thing) <= 8
  refine ⟨_, rfl, _, _, _, _, true, rfl, .ty "str", .base (.str x), kit_ty (by decide +kernel), true, rfl, iteF ?_⟩
  refine ⟨_, rfl, _, rfl, hl, 1, (x.length : Int), rfl, rfl, decide ((1 : Int) ≤ (x.length : Int)), rfl, ?_⟩
  refine kT (decide_eq_true (by omega)) ⟨(x.length : Int), 8, rfl, rfl, decide ((x.length : Int) ≤ 8), rfl, ?_⟩
  rw [decide_eq_true (by omega : (x.length : Int) ≤ 8)]
  refine iteF ?_
  -- the loop
  refine ⟨_, rfl, x, rfl, for_it (walk_str (z := x)) (fun i σ H' => H' = H ∧ ∃ v, σ = [some (.str x), v]) ⟨rfl, _, rfl⟩ (fun _ _ _ _ _ => trivial) ?_ ?_⟩
  · rintro i y σ H' H2 hi ⟨rfl, v, rfl⟩ ⟨rfl, c, hc, rfl⟩
    have hm : c ∈ letters.cps.toList := o3 c (by
      rw [← Array.getElem?_toList] at hc
      exact List.mem_of_getElem? hc)
    refine ⟨_, rfl, c, _, rfl, rfl, _, rfl, ?_⟩
    rw [decide_eq_true (show c ∈ (Str.ofString "abcdefghijklmnopqrstuvwxyz").cps.toList from hm)]
    exact iteF ⟨rfl, _, rfl⟩
  · rintro σ H' ⟨rfl, v, rfl⟩
    exact k
def spHead : Sp := fun vs H Q _ => ∃ (p : Addr) (x : Str) (r : List V), vs = [.ref p] ∧ H p = some (.tup (.str x :: r)) ∧ Q (.str x) H
theorem sc_head : FnScope ["thing"] ["thing"] (defScope s_head) := ⟨rfl, rfl, rfl, by decide +kernel, rfl, by decide +kernel, by decide +kernel⟩
theorem ok_head (T : Tx K mg) : Ok P w K mg base 1 (He.fAd K ("head", none)) ["thing"] [] spHead := by
  obtain ⟨fd, F⟩ := T.f_head
  refine mkOk F sc_head (bind0 F fun _ _ _ _ _ _ us hl => match us, hl with | [_], _ => rfl) (fun vs H Q E h => ?_) (fun cdv A outer s H vs Q E hr h => ?_)
  · obtain ⟨p, x, r, rfl, _⟩ := h
    rfl
  obtain ⟨p, x, r, rfl, hp, k⟩ := h
  refine ⟨_, (pss_cons (ps_if (PW.pt (pw_and (pt_val (pe_callB call_isi (by rfl) T.z_isinstance (by decide +kernel) (pa_cons (pv 0) (pa_cons (pe_bltn (v := .ty "tuple") (by rfl) T.z_tuple (by decide +kernel) rfl) pa_nil)))) (pw_and (pt_cmpR op_gt (pe_callB call_len_seq (by rfl) T.z_len PySem.boot_len (pa_cons (pv 0) pa_nil)) pe_int (nomark _)) (pw_and1 (pt_val (pe_callB call_isi (by rfl) T.z_isinstance (by decide +kernel) (pa_cons (pe_ix ix_tup (pv 0) pe_int (fun _ _ => rfl)) (pa_cons (pe_bltn (v := .ty "str") (by rfl) T.z_str (by decide +kernel) rfl) pa_nil)))))))) (pss_one (ps_ret (pe_ix ix_tup (pv 0) pe_int (fun _ _ => rfl)))) pss_nil)
      (pss_one (ps_ret pe_str))), ?_⟩
  refine ⟨_, rfl, _, _, _, _, true, rfl, .ty "tuple", .base (.tup hp), kit_ty (by decide +kernel), true, rfl, iteT ?_⟩
  refine ⟨_, rfl, p, _, rfl, .inr (SqT.of hp), _, 0, rfl, rfl, _, rfl, kT (decide_eq_true (by rw [List.length_cons]; omega)) ?_⟩
  refine ⟨_, rfl, p, _, 0, _, rfl, rfl, SqT.of hp, atI_nat (j := 0) rfl, _, _, _, _, true, rfl, .ty "str", .base (.str x), kit_ty (by decide +kernel), true, rfl, iteT ?_⟩
  exact ⟨_, rfl, p, _, 0, _, rfl, rfl, SqT.of hp, atI_nat (j := 0) rfl, k⟩
end
end K38
end
section
/-! K38E: for k, x in enumerate(a tuple). -/
namespace K38
open PySem PySem.Spec PyProof.Rows L2
section
variable {prog : Program} {w : World} {A : Around} {E : Value → Shared → Prop} {s : Shared}
theorem nextOf_tup_item {it t : Addr} {i : Nat} {items : Array Value} {x : Value} {Q : Value → Shared → Prop} (hit : IsTupIter s.heap it t i) (ht : IsTup s.heap t items) (hx : items[i]? = some x)
    (hQ : ∀ h', IsTupIter h' it t (i + 1) → Heap.SameBut it s.heap h' → Q x { s with heap := h' }) : wpAny (model prog w) A (Builtin.SmallTypes.nextOf (.ref it)) Q E s := by
  unfold Builtin.SmallTypes.nextOf
  exact wpAny_bind (special_tup_item hit ht hx fun h' a b => wpAny_pure (hQ h' a b))
theorem nextOf_tup_end {it t : Addr} {i : Nat} {items : Array Value} {Q : Value → Shared → Prop} (hh : A.handled = none) (hit : IsTupIter s.heap it t i) (ht : IsTup s.heap t items) (hx : items[i]? = none)
    (hE : ∀ e h', StopX e h' → Heap.ExtBut it s.heap h' → E e { s with heap := h' }) : wpAny (model prog w) A (Builtin.SmallTypes.nextOf (.ref it)) Q E s := by
  unfold Builtin.SmallTypes.nextOf
  exact wpAny_bind (special_tup_end hh hit ht hx hE)
end
theorem drawsTup {prog : Program} {w : World} {A : Around} (hh : A.handled = none) (it t : Addr) (hne : t ≠ it) (items : Array Value) :
    Draws prog w A it [it, t] items.size (fun i v => items[i]? = some v) (fun i h => IsTupIter h it t i ∧ IsTup h t items) where
  live := fun _ _ st => let ⟨o, ho, _⟩ := st.1; ⟨o, ho⟩
  frame := fun _ _ _ st hk => by
    obtain ⟨⟨o, ho, r⟩, ⟨o2, ho2, r2⟩⟩ := st
    exact ⟨⟨o, hk it (by simp) o ho, r⟩, ⟨o2, hk t (by simp) o2 ho2, r2⟩⟩
  item := fun i s Q E hi st hQ => by
    refine nextOf_tup_item st.1 st.2 (x := items[i]) (by simp [hi]) fun h' hit' hs' => ?_
    obtain ⟨o2, ho2, r2⟩ := st.2
    exact hQ _ h' s.toks (by simp [hi]) ⟨hit', o2, (hs'.2 t hne).trans ho2, r2⟩ hs'
  done := fun s Q E st hE => nextOf_tup_end hh st.1 st.2 (by simp) fun e h' sx eb => by
    obtain ⟨a, o, vs, rfl, h1, h2, _⟩ := sx
    exact hE h' a eb ⟨o, h1, h2⟩

theorem meets_enumerate_newT (l : Addr) (items : Array Value) (n : Nat) (dct : Option Addr) (sl : Array (Option Value)) :
    Meets (Builtin.«enumerate.__new__» ⟨[.type "enumerate", .ref l], []⟩) (fun _ R s => s.heap.get? l = some { cls := .type "tuple", dict := dct, data := .seq items n, slots := sl } ∧
      R (.ok (.ret (.ref (s.heap.push { cls := .type "tuple_iterator", data := .fields #[.ref l, .int 0 0] }).objs.size)))
        { s with heap := (s.heap.push { cls := .type "tuple_iterator", data := .fields #[.ref l, .int 0 0] }).push { cls := .type "enumerate", data := .fields #[.none, .bool false, .ref s.heap.objs.size, rawInt 0, .none, .none] } }) :=
  .of_wp fun prog w A R s h => by
    obtain ⟨hp, g, d, tk, os⟩ := s; obtain ⟨hl, h⟩ := h
    have hsub := sub_enumerate
    have hL : Heap.IsTuple (Shared.heap ⟨hp, g, d, tk, os⟩) l items := ⟨_, hl, rfl, n, rfl⟩
    wp_walk using AutoSeq1.wpAny_loadPart' hl
    refine wpAny_stack_any fun st => wpAny_pure ?_
    split
    · rename_i c _ _ _ _ _
      cases (c == Value.type "enumerate")
      · wp_walk using AutoSeq1.wpAny_loadPart' hl, wpAny_pyIter_tuple hL
        exact ⟨_, rfl, h⟩
      · wp_walk using AutoSeq1.wpAny_loadPart' hl, wpAny_pyIter_tuple hL
        exact ⟨_, rfl, h⟩
    · wp_walk using AutoSeq1.wpAny_loadPart' hl, wpAny_pyIter_tuple hL
      exact ⟨_, rfl, h⟩
section
variable {prog : Program} {w : World} {A : Around} {E : Value → Shared → Prop} {s : Shared}
theorem call_enumerate_tup {l : Addr} {items : Array Value} {Q : Value → Shared → Prop} (hL : IsTup s.heap l items)
    (h : ∀ h', IsEnum h' (s.heap.objs.size + 1) s.heap.objs.size 0 .none → IsTupIter h' s.heap.objs.size l 0 → h'.objs.size = s.heap.objs.size + 2 →
      (∀ b o, s.heap.get? b = some o → h'.get? b = some o) → Q (.ref (s.heap.objs.size + 1)) { s with heap := h' }) :
    wpAny (model prog w) A (call (.type "enumerate") [.ref l]) Q E s := by
  obtain ⟨⟨c, dct, dt, sl⟩, hl, hc, n, hd⟩ := hL
  replace hc : c = .type "tuple" := hc
  replace hd : dt = .seq items n := hd
  subst hc hd
  refine callType_new F.called_enumerate (by decide) (F.typeCall_enumerate_1 _) (F.newCall_enumerate_1 _) (fun obj => F.args_object_init_2 obj _) F.entry_enumerate_new
    (meets_enumerate_newT l items n dct sl) ⟨hl, ?_⟩
  have hz : (s.heap.push { cls := .type "tuple_iterator", data := .fields #[.ref l, .int 0 0] }).objs.size = s.heap.objs.size + 1 := Heap.size_push ..
  show _ ∧ _
  rw [hz]
  have he : IsEnum ((s.heap.push { cls := .type "tuple_iterator", data := .fields #[.ref l, .int 0 0] }).push
      { cls := .type "enumerate", data := .fields #[.none, .bool false, .ref s.heap.objs.size, rawInt 0, .none, .none] }) (s.heap.objs.size + 1) s.heap.objs.size 0 .none := by
    have := Heap.get?_push_size (s.heap.push { cls := .type "tuple_iterator", data := .fields #[.ref l, .int 0 0] })
      (o := { cls := .type "enumerate", data := .fields #[.none, .bool false, .ref s.heap.objs.size, rawInt 0, .none, .none] }) rfl
    rw [hz] at this; exact this
  refine ⟨⟨_, he, rfl⟩, h _ he ⟨_, Heap.get?_push_of_some _ (Heap.get?_push_size _ rfl), rfl, rfl⟩ (by rw [Heap.size_push, hz]) fun b o x => Heap.get?_push_of_some _ (Heap.get?_push_of_some _ x)⟩
end
section
variable {prog : Program} {w : World} {A : Around} {E : Value → Shared → Prop} {s : Shared}
theorem enumT_end {e it t : Addr} {i : Nat} {items : Array Value} {old : Value} {k : Int} {Q : Option Value → Shared → Prop} (hh : A.handled = none) (he : IsEnum s.heap e it k old) (hit : IsTupIter s.heap it t i) (ht : IsTup s.heap t items) (hx : items[i]? = none)
    (hQ : ∀ h', Heap.ExtBut it s.heap h' → Q none { s with heap := h' }) : wpAny (model prog w) A (pyNext (.ref e)) Q E s := by
  have hT : s.TypeIs (.ref e) "enumerate" := ⟨_, he, rfl⟩
  unfold pyNext
  refine wpAny_bind (wpAny_attempt (wpAny_callSpecial?_slot (name := Str.ofString "__next__") hT F.slot_enumerate_next
    (wpAny_call_entry F.slot_enumerate_next hT F.entry_enumerate_next ?_ (F.args_enumerate_next_1 _))))
  show wpAny _ _ (field (.ref e) 2 >>= _) _ _ _
  refine wpAny_bind (wpAny_field he rfl (x := .ref it) rfl ?_)
  refine wpAny_bind (nextOf_tup_end (A := A.in1) hh hit ht hx fun x h' sx eb => ?_)
  obtain ⟨a, o, vs, rfl, ho, hc, _⟩ := sx
  refine wpAny_bind (wpAny_isInstance (T := "StopIteration") (b := true) ⟨o, ho, hc⟩ isSubtype_stop ?_)
  exact wpAny_pure (hQ _ eb)
end
/-- the tuple at a as it stands at each turn, each item in a new pair -/
def IteT (K : PySem.W.Frag) (a : Addr) : It :=
  ⟨fun i H => ∃ (xs : List V) (x : V), SqT K H a xs ∧ xs[i]? = some x, fun i H v H' => ∃ T x, v = .ref T ∧ H T = none ∧ H' = upd H T (.tup [.int (i : Nat), x]) ∧ ∀ xs, SqT K H a xs → xs[i]? = some x, fun i H => ∃ xs : List V, SqT K H a xs ∧ xs.length ≤ i⟩
theorem turn_enumT {P : Program} {w : World} {K : PySem.W.Frag} {elts : List Expr} {kk : Nat} {tpos : Pos} (a e it : Addr) :
    Turn P w K (.Tuple elts kk tpos) (IteT K a) [e, it] e (fun i h => (∃ old, IsEnum h e it ((i : Nat) : Int) old) ∧ IsTupIter h it a i ∧ e ≠ it ∧ e ≠ a ∧ a ≠ it) where
  mem := by simp
  obj := fun i h st b hb => by
    obtain ⟨⟨old, he⟩, ⟨o, ho, hc, hd⟩, _⟩ := st
    have e' : b = e ∨ b = it := by simpa using hb
    rcases e' with z | z
    · rw [z]; exact ⟨_, he, fun v q => nomatch q⟩
    · rw [z]; exact ⟨o, ho, fun v q => by rw [hd] at q; cases q⟩
  keep := fun i h h' st k => by
    obtain ⟨⟨old, he⟩, ⟨o, ho, r⟩, hne⟩ := st
    exact ⟨⟨old, k e (by simp) _ he⟩, ⟨o, k it (by simp) _ ho, r⟩, hne⟩
  item := by
    intro X hP hw hK hc i pins s σ H E I hf st hg
    subst hP hw hK
    obtain ⟨⟨old, he⟩, hit, hne, hea, hai⟩ := st
    obtain ⟨xs, x, hq, hx⟩ := hg
    obtain ⟨its, rv, p, hz⟩ := I.tuple hq
    obtain ⟨u, hu, ru⟩ := rv.get hx
    have hel : e < s.heap.objs.size := Heap.lt_size he
    have hil : it < s.heap.objs.size := by obtain ⟨_, q, _⟩ := hit; exact Heap.lt_size q
    have hil2 : i < its.toArray.size := by
      have q := (List.getElem?_eq_some_iff.mp hu).1
      simpa using q
    refine wpAny_pyNext_enum_itemD (drawsTup (A := X.A.in1) (I.ok.hd hc) it a hai its.toArray) he ⟨hit, p⟩ hil2 hne (by simp [hne, hea]) fun y h' tk hy ho hst' hT hsz hk => ?_
    obtain ⟨hit', _⟩ := hst'
    have ey : y = u := by
      have q : its.toArray[i]? = some u := by simpa using hu
      rw [q] at hy
      exact (Option.some.inj hy).symm
    subst ey
    refine ⟨_, rfl, wpAny_letOwnedTupleGo_enum (s := { s with heap := h', toks := tk + 1 }) ho fun h'' he' sb => ?_⟩
    have hT2 : h''.get? s.heap.objs.size = some { cls := .type "tuple", data := .seq #[.int i tk, y] } := (sb.2 _ (Nat.ne_of_gt hel)).trans hT
    have new : ObjOk X.prog X.w (upd H s.heap.objs.size (.tup [.int (i : Nat), x])) h'' s.heap.objs.size (.tup [.int (i : Nat), x]) :=
      ⟨by show 2 ≤ sizeLine; decide, [.int i tk, y], .cons ⟨_, rfl⟩ (.cons ru .nil), ⟨_, hT2, rfl, _, rfl⟩⟩
    have I1 : Inv X pins σ (upd H s.heap.objs.size (.tup [.int (i : Nat), x])) { s with heap := h'', toks := tk + 1 } :=
      I.turnedNew (ch := [e, it]) (fun b ob hb q => (sb.2 b (fun z => hb (by simp [z]))).trans (hk b ob (fun z => hb (by simp [z])) (fun z => hb (by simp [z])) q)) hf (Nat.le_refl _) new
    refine ⟨.ref s.heap.objs.size, _, I1, rfl, ⟨_, x, rfl, I.hok.fresh (Nat.le_refl _), rfl, fun ys hy => by rw [I.tuple_inj hy hq]; exact hx⟩, ⟨⟨y, ?_⟩, ?_, hne, hea, hai⟩, fun b hb => ?_⟩
    · have e1 : ((i + 1 : Nat) : Int) = (i : Int) + 1 := by omega
      rw [e1]; exact he'
    · obtain ⟨o, ho2, r⟩ := hit'
      exact ⟨o, (sb.2 it (Ne.symm hne)).trans ho2, r⟩
    · have hb' : b < s.heap.objs.size := by
        have e' : b = e ∨ b = it := by simpa using hb
        rcases e' with z | z
        · rw [z]; exact hel
        · rw [z]; exact hil
      rw [upd_ne (Nat.ne_of_lt hb')]
      exact (hf b hb).1
  done := by
    intro X hP hw hK hc i pins s σ H E I hf st hg
    subst hP hw hK
    obtain ⟨⟨old, he⟩, hit, hne, hea, hai⟩ := st
    obtain ⟨xs, hq, hx⟩ := hg
    obtain ⟨its, rv, p, hz⟩ := I.tuple hq
    obtain ⟨f0, f1, f2, f3, f4, f5⟩ := hf it (by simp)
    have hl := rv.length
    exact enumT_end (I.ok.hd hc) he hit p (by simp; omega) fun h' eb => ⟨rfl, I.turned (t' := s.toks) (fun b o hb q => eb b o hb q) f0 f1 f3 f4 f5⟩
  self := fun A i s Q E st h => let ⟨⟨_, he⟩, _⟩ := st; wpAny_pyIter_enum he h
def iEnumT (K : PySem.W.Frag) (ta : TA) : TI := fun σ H R => ta σ H fun vs H1 => ∃ a xs, vs = [.ref a] ∧ SqT K H1 a xs ∧ R (IteT K a) H1
theorem pi_enumT {X : Cx} {e : Expr} {ta : TA} {p pos tpos : Pos} {elts : List Expr} {kk : Nat} (hg : Gl X "enumerate") (hm : X.mg "enumerate" = none) (ha : PA X [e] ta) (hs : starEach [e] X.env = [(false, eval e X.env)] := by rfl) :
    PI X (.Tuple elts kk tpos) (.Call (.Name "enumerate" p) [e] [] pos) (iEnumT X.K ta) := by
  refine ⟨fun pins s σ H R I h => ?_⟩
  refine Call_ (ld_blt I hg hm boot_enumerate (PyProof.Rows.callWith_type1 (thn (ha.run pos pins s σ H _ I h) fun us s1 ⟨vs, H1, I1, r1, q1⟩ => ?_) hs rfl))
  obtain ⟨a, xs, ex, hq, q⟩ := q1
  subst ex
  cases r1 with
  | cons r rr =>
    cases rr
    cases r
    obtain ⟨its, rv, p', hz⟩ := I1.tuple hq
    refine call_enumerate_tup p' fun h' he hit hsz hk => wpAny_pyIter_enum he ?_
    have I2 : Inv X pins σ H1 { s1 with heap := h' } := I1.kept (t' := s1.toks) hk
    have la : a < s1.heap.objs.size := p'.lt
    refine ⟨s1.heap.objs.size + 1, [s1.heap.objs.size + 1, s1.heap.objs.size], _, _, H1, rfl, I2, turn_enumT a (s1.heap.objs.size + 1) s1.heap.objs.size, ⟨⟨.none, he⟩, hit, Nat.succ_ne_self _, Nat.ne_of_gt (Nat.lt_succ_of_lt la), Nat.ne_of_lt la⟩, fun b hb => ?_, q⟩
    have e' : b = s1.heap.objs.size + 1 ∨ b = s1.heap.objs.size := by simpa using hb
    have hle : s1.heap.objs.size ≤ b := by
      rcases e' with z | z
      · rw [z]; exact Nat.le_add_right _ _
      · rw [z]; exact Nat.le_refl _
    exact I1.fpOk hle (I1.hok.fresh hle)
end K38
end
section
/-! K38F: are_names, Place, is_simple .. is_block: True for well formed syntax. -/
namespace K38
open PySem PySem.Spec PyProof.Rows L2
section
variable {P : Program} {w : World} {K : PySem.W.Frag} {mg : Str → Option Value} {base : Heap}
theorem cutV_take {xs : List V} {i : Nat} (h : i ≤ xs.length) : cutV xs none (some (i : Int)) = xs.take i := by
  unfold cutV
  rw [HT.sIx_none, HT.sIx_nat, Nat.min_eq_left h, Nat.sub_zero, List.drop_zero]
theorem inV_str {x : Str} : ∀ {xs : List Str}, ¬ x ∈ xs → inV (.str x) (xs.map V.str) = false
  | [], _ => rfl
  | y :: ys, h => by
    have h1 : ¬ x = y := fun e => h (by rw [e]; exact List.mem_cons_self)
    have h2 : inV (.str x) (ys.map V.str) = false := inV_str fun e => h (List.mem_cons_of_mem _ e)
    show ((y == x) || inV (.str x) (ys.map V.str)) = false
    rw [h2, Bool.or_false]
    exact beq_eq_false_iff_ne.mpr fun e => h1 e.symm
theorem allFlat : ∀ {xs : List Str}, (xs.map V.str).all flatV = true
  | [] => rfl
  | y :: ys => by
    show (true && (ys.map V.str).all flatV) = true
    rw [Bool.true_and]
    exact allFlat
def spAreNames : Sp := fun vs H Q _ => ∃ (p : Addr) (xs : List Str), vs = [.ref p, .int 3] ∧ H p = some (.tup (xs.map V.str)) ∧ xs.length ≤ 3 ∧ xs.Nodup ∧ (∀ x ∈ xs, okNm x) ∧ ∀ H', Same H H' → Q (.bl true) H'
theorem sc_are_names : FnScope ["thing", "most", "at", "name"] ["thing", "most"] (defScope s_are_names) := ⟨rfl, rfl, rfl, by decide +kernel, rfl, by decide +kernel, by decide +kernel⟩
theorem ok_are_names (T : Tx K mg) : Ok P w K mg base 2 (He.fAd K ("are_names", none)) ["thing", "most"] [] spAreNames := by
  obtain ⟨fd, F⟩ := T.f_are_names
  obtain ⟨fd_is_name, us_is_name, G_is_name, b_is_name, v_is_name, k_is_name, _⟩ := ok_is_name T
  refine mkOk F sc_are_names (bind0 F fun _ _ _ _ _ _ us hl => match us, hl with | [_, _], _ => rfl) (fun vs H Q E h => ?_) (fun cdv A outer s H vs Q E hr h => ?_)
  · obtain ⟨p, xs, rfl, _⟩ := h
    rfl
  obtain ⟨p, xs, rfl, hp, h3, nd, oks, k⟩ := h
  refine ⟨_, (pss_cons (ps_if (PW.pt (pw_or (pt_not (pt_val (pe_callB call_isi (by rfl) T.z_isinstance (by decide +kernel) (pa_cons (pv 0) (pa_cons (pe_bltn (v := .ty "tuple") (by rfl) T.z_tuple (by decide +kernel) rfl) pa_nil))))) (pw_or1 (pt_cmpR op_gt (pe_callB call_len_seq (by rfl) T.z_len PySem.boot_len (pa_cons (pv 0) pa_nil)) (pv 1) (nomark _))))) (pss_one (ps_ret pe_bl)) pss_nil)
      (pss_cons (ps_for PassesOwn.never rfl (pi_enumT rfl T.z_enumerate (pa_cons (pv 0) pa_nil)) (pg_tup rfl (pgs_cons (pg_name (i := 2) sc_are_names.nd rfl (Or.inl rfl)) (pgs_cons (pg_name (i := 3) sc_are_names.nd rfl (Or.inl rfl)) pgs_nil)))
      (pss_one (ps_if (PW.pt (pw_or (pt_not (pt_val (pe_call G_is_name (hr.mono (by decide)) rfl T.g_is_name k_is_name b_is_name v_is_name pass0 (pa_cons (pv 3) pa_nil)))) (pw_or1 (pt_cmpR op_in_seq (pv 3) (pe_slice sl_tupA (pv 0) po_none (po_some (pv 2))) (by rfl))))) (pss_one (ps_ret pe_bl)) pss_nil)))
      (pss_one (ps_ret pe_bl)))), ?_⟩
  refine ⟨_, rfl, _, _, _, _, true, rfl, .ty "tuple", .base (.tup hp), kit_ty (by decide +kernel), true, rfl, iteF ?_⟩
  refine ⟨_, rfl, p, _, rfl, .inr (SqT.of hp), _, rfl, _, 3, rfl, rfl, _, rfl, ?_⟩
  rw [decide_eq_false (show ¬ (((xs.map V.str).length : Nat) : Int) > 3 by rw [List.length_map]; omega)]
  refine iteF ?_
  refine ⟨_, rfl, p, _, rfl, SqT.of hp, fun i m σ H' => m = xs.length - i ∧ i ≤ xs.length ∧ Same H H' ∧ ∃ u v, σ = [some (.ref p), some (.int 3), u, v], ⟨_, rfl, Nat.zero_le _, .refl H, _, _, rfl⟩, ?_⟩
  rintro i m σ H' ⟨rfl, hi, S, u, v, rfl⟩
  by_cases hlt : i < xs.length
  · obtain ⟨x, hx⟩ : ∃ x, xs[i]? = some x := ⟨_, List.getElem?_eq_getElem hlt⟩
    have hx' : (xs.map V.str)[i]? = some (.str x) := by rw [List.getElem?_map, hx]; rfl
    refine .inr ⟨⟨_, _, SqT.of (S _ _ hp), hx'⟩, fun σ' H2 => i + 1 ≤ xs.length ∧ Same H H2 ∧ ∃ u v, σ' = [some (.ref p), some (.int 3), u, v], fun σ' H2 z => ⟨xs.length - (i + 1), by omega, rfl, z⟩, ?_⟩
    rintro y H2 ⟨t, x', rfl, ht, rfl, hq⟩
    have e' := hq _ (SqT.of (S _ _ hp))
    rw [hx'] at e'
    cases e'
    have S2 := S.trans (same_new ht (.tup [.int (i : Nat), .str x]))
    refine ⟨t, _, rfl, SqT.of upd_same, rfl, _, _, rfl, _, _, rfl, rfl, ?_⟩
    refine ⟨_, rfl, x, rfl, oks x (List.mem_of_getElem? hx), true, rfl, iteF ?_⟩
    have hp2 := S2 _ _ hp
    have hni : ¬ x ∈ xs.take i := fun hm => by
      obtain ⟨j, hj, ej⟩ := List.mem_iff_getElem.mp hm
      rw [List.length_take] at hj
      rw [List.getElem_take] at ej
      have hi2 := (List.getElem?_eq_some_iff.mp hx)
      obtain ⟨hi3, ei⟩ := hi2
      have : j = i := (List.getElem_inj nd).mp (ej.trans ei.symm)
      omega
    refine ⟨_, rfl, _, rfl, _, rfl, (i : Int), rfl, p, _, rfl, SqT.of hp2, fun z => ?_, fun _ q hq2 => ?_⟩
    · exfalso
      have z2 := z.2
      rw [HT.sIx_nat, List.length_map] at z2
      omega
    · rw [cutV_take (by rw [List.length_map]; exact hi), ← List.map_take]
      refine ⟨q, _, rfl, .inr (SqT.of upd_same), rfl, allFlat, _, rfl, ?_⟩
      rw [show (if false = true then !inV (.str x) ((xs.take i).map V.str) else inV (.str x) ((xs.take i).map V.str)) = false from inV_str hni]
      exact iteF ⟨hlt, S2.trans (same_new hq2 _), _, _, rfl⟩
  · exact .inl ⟨⟨_, SqT.of (S _ _ hp), by rw [List.length_map]; omega⟩, k _ S⟩
end
end K38
end
section
/-! K38G: Place; is_simple .. is_block: True for well formed syntax. -/
namespace K38
open PySem PySem.Spec PyProof.Rows L2
section
variable {P : Program} {w : World} {K : PySem.W.Frag} {mg : Str → Option Value} {base : Heap}
theorem pf_nil : ([] : List (Str × V)).length ≤ 0 := Nat.le_refl _
theorem pf_le {f : Str} {v : V} {fs : List (Str × V)} {n : Nat} (h : fs.length ≤ n) : (putF f v fs).length ≤ n + 1 := Nat.le_trans (length_putF f v fs) (Nat.succ_le_succ h)
theorem bT {c : Prop} [Decidable c] (h : c) {Q : V → Hp → Prop} {H : Hp} (q : Q (.bl true) H) : Q (.bl (decide c)) H := by rw [decide_eq_true h]; exact q
theorem bF {c : Prop} [Decidable c] (h : ¬ c) {Q : V → Hp → Prop} {H : Hp} (q : Q (.bl false) H) : Q (.bl (decide c)) H := by rw [decide_eq_false h]; exact q
def spPlaceInit (K : PySem.W.Frag) : Sp := fun vs H Q _ => ∃ (p dx : Addr) (a b c d : V), vs = [.ref p, a, b, c, d] ∧ H p = some (.ins (He.ga K "Place") dx []) ∧ Q .non (upd H p (.ins (He.ga K "Place") dx (fsPlace a b c d)))
theorem sc_Place_init : FnScope ["self", "fields", "has_parent", "classes", "may_return"] ["self", "fields", "has_parent", "classes", "may_return"] (defScope s_Place_init) := ⟨rfl, rfl, rfl, by decide +kernel, rfl, by decide +kernel, by decide +kernel⟩
theorem ok_Place_init (T : Tx K mg) : Ok P w K mg base 1 (He.fAd K ("Place", some "__init__")) ["self", "fields", "has_parent", "classes", "may_return"] [] (spPlaceInit K) := by
  obtain ⟨fd, F⟩ := T.f_Place_init
  refine mkOk F sc_Place_init (bind0 F fun _ _ _ _ _ _ us hl => match us, hl with | [_, _, _, _, _], _ => rfl) (fun vs H Q E h => ?_) (fun cdv A outer s H vs Q E hr h => ?_)
  · obtain ⟨p, dx, a, b, c, d, rfl, _⟩ := h
    rfl
  obtain ⟨p, dx, a, b, c, d, rfl, hp, k⟩ := h
  refine ⟨_, (pss_cons (ps_fld (pv 0) (pv 1) rfl)
      (pss_cons (ps_fld (pv 0) (pv 2) rfl)
      (pss_cons (ps_fld (pv 0) (pv 3) rfl)
      (pss_one (ps_fld (pv 0) (pv 4) rfl))))), ?_⟩
  refine ⟨_, rfl, _, rfl, p, _, dx, _, rfl, hp, T.cl_Place, T.na_Place_fields, (by decide), ?_⟩
  refine ⟨_, rfl, _, rfl, p, _, dx, _, rfl, upd_same, T.cl_Place, T.na_Place_has_parent, Nat.lt_of_le_of_lt (pf_le pf_nil) (by decide), ?_⟩
  refine ⟨_, rfl, _, rfl, p, _, dx, _, rfl, upd_same, T.cl_Place, T.na_Place_known, Nat.lt_of_le_of_lt (pf_le (pf_le pf_nil)) (by decide), ?_⟩
  refine ⟨_, rfl, _, rfl, p, _, dx, _, rfl, upd_same, T.cl_Place, T.na_Place_may_return, Nat.lt_of_le_of_lt (pf_le (pf_le (pf_le pf_nil))) (by decide), ?_⟩
  rw [upd_upd, upd_upd, upd_upd, fsPlace_init]
  exact k
/-- a place in the program's body or in its functions: no class around it -/
def PlaceAt (K : PySem.W.Frag) (H : Hp) (v : V) (mr : Bool) : Prop := ∃ (p dx : Addr) (kn : V), v = .ref p ∧ H p = some (.ins (He.ga K "Place") dx (fsPlace .non (.bl false) kn (.bl mr)))
theorem PlaceAt.same {H H' : Hp} {v : V} {mr : Bool} (h : PlaceAt K H v mr) (s : Same H H') : PlaceAt K H' v mr := by
  obtain ⟨p, dx, kn, e, e1⟩ := h
  exact ⟨p, dx, kn, e, s _ _ e1⟩
def spWithin (K : PySem.W.Frag) : Sp := fun vs H Q _ => ∃ (v : V) (mr : Bool), vs = [v] ∧ PlaceAt K H v mr ∧ ∀ H' u, Same H H' → PlaceAt K H' u true → Q u H'
theorem sc_Place_within_function : FnScope ["self"] ["self"] (defScope s_Place_within_function) := ⟨rfl, rfl, rfl, by decide +kernel, rfl, by decide +kernel, by decide +kernel⟩
theorem ok_Place_within_function (T : Tx K mg) : Ok P w K mg base 3 (He.fAd K ("Place", some "within_function")) ["self"] [] (spWithin K) := by
  obtain ⟨fd, F⟩ := T.f_Place_within_function
  obtain ⟨fd_Place_init, us_Place_init, G_Place_init, b_Place_init, v_Place_init, k_Place_init, _⟩ := ok_Place_init T
  refine mkOk F sc_Place_within_function (bind0 F fun _ _ _ _ _ _ us hl => match us, hl with | [_], _ => rfl) (fun vs H Q E h => ?_) (fun cdv A outer s H vs Q E hr h => ?_)
  · obtain ⟨v, mr, rfl, _⟩ := h
    rfl
  obtain ⟨v, mr, rfl, ⟨p, dx, kn, rfl, hp⟩, k⟩ := h
  refine ⟨_, (pss_one (ps_ret (pe_make T.mk_Place G_Place_init (hr.mono (by decide)) rfl T.g_Place b_Place_init v_Place_init pass0 (pa_cons (pe_fld (pv 0) rfl) (pa_cons (pe_fld (pv 0) rfl) (pa_cons (pe_fld (pv 0) rfl) (pa_cons pe_bl pa_nil))))))), ?_⟩
  refine ⟨_, rfl, p, _, dx, _, _, rfl, hp, T.cl_Place, T.na_Place_fields, fsPlace_fields, _, rfl, p, _, dx, _, _, rfl, hp, T.cl_Place, T.na_Place_has_parent, fsPlace_has_parent, _, rfl, p, _, dx, _, _, rfl, hp, T.cl_Place, T.na_Place_known, fsPlace_known, ?_⟩
  intro x ex nx nex ne
  refine ⟨x, ex, _, _, _, _, rfl, upd_same, rfl, k _ _ (made_new nx nex) ⟨x, ex, _, rfl, upd_same⟩⟩

/-! ### well formed syntax -/
mutual
def wEx : Nat → Ex → Prop
  | _, .word x => okNm x
  | _, .non => True
  | _, .name _ => True
  | d, .fn ps b => ps.length ≤ 3 ∧ ps.Nodup ∧ (d + 1 ≤ 8 ∧ b.length ≤ 12) ∧ wSms (d + 1) true b
def wExs : Nat → List Ex → Prop
  | _, [] => True
  | d, e :: es => wEx d e ∧ wExs d es
def wRt : Nat → Rt → Prop
  | d, .ex e => wEx d e
  | d, .call f as => wEx d f ∧ as.length ≤ 3 ∧ wExs d as
def wTe : Nat → Nat → Te → Prop
  | l, d, .same a b => 0 < l ∧ wEx d a ∧ wEx d b
  | l, d, .not t => 0 < l ∧ wTe (l - 1) d t
def wSm : Nat → Bool → Sm → Prop
  | d, _, .lt _ r => wRt d r
  | d, _, .st _ r => wRt d r
  | d, _, .pr e => wEx d e
  | d, mr, .ret r => mr = true ∧ wRt d r
  | d, _, .rs r => wRt d r
  | d, mr, .iff t a b => wTe 3 d t ∧ ((d + 1 ≤ 8 ∧ a.length ≤ 12) ∧ wSms (d + 1) mr a) ∧ ((d + 1 ≤ 8 ∧ b.length ≤ 12) ∧ wSms (d + 1) mr b)
  | d, mr, .whl t a => wTe 3 d t ∧ ((d + 1 ≤ 8 ∧ a.length ≤ 12) ∧ wSms (d + 1) mr a)
  | d, mr, .tr a _ b => ((d + 1 ≤ 8 ∧ a.length ≤ 12) ∧ wSms (d + 1) mr a) ∧ ((d + 1 ≤ 8 ∧ b.length ≤ 12) ∧ wSms (d + 1) mr b)
  | d, mr, .la a b => ((d + 1 ≤ 8 ∧ a.length ≤ 12) ∧ wSms (d + 1) mr a) ∧ ((d + 1 ≤ 8 ∧ b.length ≤ 12) ∧ wSms (d + 1) mr b)
def wSms : Nat → Bool → List Sm → Prop
  | _, _, [] => True
  | d, mr, s :: r => wSm d mr s ∧ wSms d mr r
end
/-- a block of the depth d -/
def wBl (d : Nat) (mr : Bool) (b : List Sm) : Prop := (d ≤ 8 ∧ b.length ≤ 12) ∧ wSms d mr b
theorem wSms_get {d : Nat} {mr : Bool} : ∀ {b : List Sm} {i : Nat} {s : Sm}, wSms d mr b → b[i]? = some s → wSm d mr s
  | [], i, s, _, e => by cases e
  | x :: r, 0, s, h, e => by unfold wSms at h; cases e; exact h.1
  | x :: r, i + 1, s, h, e => by unfold wSms at h; exact wSms_get h.2 e
theorem wExs_get {d : Nat} : ∀ {b : List Ex} {i : Nat} {s : Ex}, wExs d b → b[i]? = some s → wEx d s
  | [], i, s, _, e => by cases e
  | x :: r, 0, s, h, e => by unfold wExs at h; cases e; exact h.1
  | x :: r, i + 1, s, h, e => by unfold wExs at h; exact wExs_get h.2 e

/-! ### promises: True, all that stood stands -/
structure NmOk (nm : Nm → Str) : Prop where
  ok : ∀ x, okNm (nm x)
  inj : ∀ x y, nm x = nm y → x = y
def spSimple (K : PySem.W.Frag) (nm : Nm → Str) (d : Nat) : Sp := fun vs H Q _ => ∃ (e : Ex) (v pl : V) (mr : Bool), vs = [v, pl, .int d] ∧ At H (eEx nm e) v ∧ PlaceAt K H pl mr ∧ wEx d e ∧ ∀ H', Same H H' → Q (.bl true) H'
def spThings (K : PySem.W.Frag) (nm : Nm → Str) (d : Nat) : Sp := fun vs H Q _ => ∃ (es : List Ex) (v pl : V) (mr : Bool), vs = [v, pl, .int d] ∧ At H (.t (eExs nm es)) v ∧ PlaceAt K H pl mr ∧ es.length ≤ 3 ∧ wExs d es ∧ ∀ H', Same H H' → Q (.bl true) H'
def spRight (K : PySem.W.Frag) (nm : Nm → Str) (d : Nat) : Sp := fun vs H Q _ => ∃ (r : Rt) (v pl : V) (mr : Bool), vs = [v, pl, .int d] ∧ At H (eRt nm r) v ∧ PlaceAt K H pl mr ∧ wRt d r ∧ ∀ H', Same H H' → Q (.bl true) H'
def spTest (K : PySem.W.Frag) (nm : Nm → Str) (l d : Nat) : Sp := fun vs H Q _ => ∃ (t : Te) (v pl : V) (mr : Bool), vs = [v, pl, .int d, .int l] ∧ At H (eTe nm t) v ∧ PlaceAt K H pl mr ∧ wTe l d t ∧ ∀ H', Same H H' → Q (.bl true) H'
def spStmt (K : PySem.W.Frag) (nm : Nm → Str) (d : Nat) : Sp := fun vs H Q _ => ∃ (st : Sm) (v pl : V) (mr : Bool), vs = [v, pl, .int d] ∧ At H (eSm nm st) v ∧ PlaceAt K H pl mr ∧ wSm d mr st ∧ ∀ H', Same H H' → Q (.bl true) H'
def spBlock (K : PySem.W.Frag) (nm : Nm → Str) (d : Nat) : Sp := fun vs H Q _ => ∃ (b : List Sm) (v pl : V) (mr : Bool), vs = [v, pl, .int d] ∧ At H (.t (eSms nm b)) v ∧ PlaceAt K H pl mr ∧ wBl d mr b ∧ ∀ H', Same H H' → Q (.bl true) H'
def isShort : Sm → Bool
  | .lt _ _ => true | .st _ _ => true | .pr _ => true | .ret _ => true | .rs _ => true | _ => false
def spShort (K : PySem.W.Frag) (nm : Nm → Str) (d : Nat) : Sp := fun vs H Q _ => ∃ (st : Sm) (v pl : V) (mr : Bool), vs = [v, pl, .int d] ∧ At H (eSm nm st) v ∧ PlaceAt K H pl mr ∧ isShort st = true ∧ wSm d mr st ∧ ∀ H', Same H H' → Q (.bl true) H'
theorem ats_names {H : Hp} {nm : Nm → Str} : ∀ {ps : List Nm} {vs : List V}, Ats H (ps.map fun x => .s (nm x)) vs → vs = (ps.map nm).map V.str
  | [], vs, h => h.nil
  | p :: ps, vs, h => by
    obtain ⟨v, r, rfl, hv, h⟩ := h.cons
    rw [hv.str, ats_names h]
    rfl
variable {nm : Nm → Str} {d : Nat}
end
end K38
end
section
/-! K38H: is_simple .. is_block. -/
namespace K38
open PySem PySem.Spec PyProof.Rows L2
section
variable {P : Program} {w : World} {K : PySem.W.Frag} {mg : Str → Option Value} {base : Heap} {nm : Nm → Str} {d : Nat}
theorem nodup_nm (N : NmOk nm) {ps : List Nm} (h : ps.Nodup) : (ps.map nm).Nodup := List.pairwise_map.mpr (h.imp fun a e => a (N.inj _ _ e))
theorem oks_nm (N : NmOk nm) {ps : List Nm} : ∀ x ∈ ps.map nm, okNm x := fun x hx => by
  obtain ⟨y, _, rfl⟩ := List.mem_map.mp hx
  exact N.ok y
theorem sc_is_simple : FnScope ["thing", "place", "depth", "kind"] ["thing", "place", "depth"] (defScope s_is_simple) := ⟨rfl, rfl, rfl, by decide +kernel, rfl, by decide +kernel, by decide +kernel⟩
theorem ok_is_simple (T : Tx K mg) (N : NmOk nm) {k : Nat} (hk : 3 ≤ k) (OB : Ok P w K mg base k (He.fAd K ("is_block", none)) ["thing", "place", "depth"] [] (spBlock K nm (d + 1))) :
    Ok P w K mg base (k + 1) (He.fAd K ("is_simple", none)) ["thing", "place", "depth"] [] (spSimple K nm d) := by
  obtain ⟨fd, F⟩ := T.f_is_simple
  obtain ⟨fd_is_name, us_is_name, G_is_name, b_is_name, v_is_name, k_is_name, _⟩ := ok_is_name T
  obtain ⟨fd_head, us_head, G_head, b_head, v_head, k_head, _⟩ := ok_head T
  obtain ⟨fd_are_names, us_are_names, G_are_names, b_are_names, v_are_names, k_are_names, _⟩ := ok_are_names T
  obtain ⟨fd_Place_within_function, us_Place_within_function, G_Place_within_function, b_Place_within_function, v_Place_within_function, k_Place_within_function, _⟩ := ok_Place_within_function T
  obtain ⟨fd_is_block, us_is_block, G_is_block, b_is_block, v_is_block, k_is_block, _⟩ := OB
  refine mkOk F sc_is_simple (bind0 F fun _ _ _ _ _ _ us hl => match us, hl with | [_, _, _], _ => rfl) (fun vs H Q E h => ?_) (fun cdv A outer s H vs Q E hr h => ?_)
  · obtain ⟨e, v, pl, mr, rfl, _⟩ := h
    rfl
  obtain ⟨e, v, pl, mr, rfl, hv, hpl, wf, k⟩ := h
  refine ⟨_, (pss_cons (ps_set (i := 3) sc_is_simple.nd rfl (Or.inl rfl) (pe_call G_head (hr.mono (by omega)) rfl T.g_head k_head b_head v_head pass0 (pa_cons (pv 0) pa_nil)))
      (pss_cons (ps_if (pt_cmpR op_eq (pv 3) pe_str (nomark _)) (pss_one (ps_ret (pe_cmpR op_eq (pe_callB call_len_seq (by rfl) T.z_len PySem.boot_len (pa_cons (pv 0) pa_nil)) pe_int (nomark _)))) pss_nil)
      (pss_cons (ps_if (pt_cmpR op_eq (pv 3) pe_str (nomark _)) pss_never pss_nil)
      (pss_cons (ps_if (pt_cmpR op_eq (pv 3) pe_str (nomark _)) (pss_cons (ps_if (PW.pt (pw_or (pt_cmpR op_ne (pe_callB call_len_seq (by rfl) T.z_len PySem.boot_len (pa_cons (pv 0) pa_nil)) pe_int (nomark _)) (pw_or1 (pt_not (pt_val (pe_call G_are_names (hr.mono (by omega)) rfl T.g_are_names k_are_names b_are_names v_are_names pass0 (pa_cons (pe_ix ix_tup (pv 0) pe_int (fun _ _ => rfl)) (pa_cons (pe_gc rfl T.k_MOST_PARAMS) pa_nil)))))))) (pss_one (ps_ret pe_bl)) pss_nil)
      (pss_one (ps_ret (pe_call G_is_block (hr.mono (by omega)) rfl T.g_is_block k_is_block b_is_block v_is_block pass0 (pa_cons (pe_ix ix_tup (pv 0) pe_int (fun _ _ => rfl)) (pa_cons (pe_meth0 (pv 1) T.cl_Place T.me_Place_within_function G_Place_within_function (hr.mono (by omega)) b_Place_within_function v_Place_within_function pass0) (pa_cons (pe_op op_add (pv 2) pe_int) pa_nil))))))) pss_nil)
      (pss_cons (ps_if (PW.pt (pw_or (pt_cmpR op_eq (pv 3) pe_str (nomark _)) (pw_or1 (pt_cmpR op_ne (pe_callB call_len_seq (by rfl) T.z_len PySem.boot_len (pa_cons (pv 0) pa_nil)) pe_int (nomark _))))) (pss_one (ps_ret pe_bl)) pss_nil)
      (pss_cons (ps_if (pt_cmpR op_eq (pv 3) pe_str (nomark _)) pss_never pss_nil)
      (pss_cons (ps_if (pt_cmpR op_eq (pv 3) pe_str (nomark _)) pss_never pss_nil)
      (pss_one (ps_ret (pe_and (pe_cmpR op_in_seq (pv 3) (pe_tup (pa_cons pe_str (pa_cons pe_str pa_nil))) (by rfl)) (pe_one (pe_call G_is_name (hr.mono (by omega)) rfl T.g_is_name k_is_name b_is_name v_is_name pass0 (pa_cons (pe_ix ix_tup (pv 0) pe_int (fun _ _ => rfl)) pa_nil))))))))))))), ?_⟩
  cases e with
  | word x =>
    unfold eEx at hv
    unfold wEx at wf
    obtain ⟨p, a, b, rfl, hp, ha, hb⟩ := hv.tup2
    cases ha.str
    cases hb.str
    refine ⟨_, rfl, p, _, _, rfl, hp, ?_⟩
    refine ⟨_, rfl, rfl, _, rfl, kF (by decide +kernel) ?_⟩
    refine ⟨_, rfl, rfl, _, rfl, kF (by decide +kernel) ?_⟩
    refine ⟨_, rfl, rfl, _, rfl, kF (by decide +kernel) ?_⟩
    refine ⟨_, rfl, rfl, _, rfl, kF (by decide +kernel) ?_⟩
    refine ⟨_, rfl, p, _, rfl, .inr (SqT.of hp), rfl, _, rfl, kF (by simp) ?_⟩
    refine ⟨_, rfl, rfl, _, rfl, kF (by decide +kernel) ?_⟩
    refine ⟨_, rfl, rfl, _, rfl, kF (by decide +kernel) ?_⟩
    refine ⟨_, rfl, by decide, fun q hq => ⟨q, _, rfl, .inr (SqT.of upd_same), rfl, rfl, _, rfl, kT (by decide +kernel) ?_⟩⟩
    have S := same_new hq (.tup [.str "word", .str "name"])
    exact ⟨_, rfl, p, _, 1, _, rfl, rfl, SqT.of (S _ _ hp), atI_nat (j := 1) rfl, x, rfl, wf, k _ S⟩
  | name x =>
    unfold eEx at hv
    unfold wEx at wf
    obtain ⟨p, a, b, rfl, hp, ha, hb⟩ := hv.tup2
    cases ha.str
    cases hb.str
    refine ⟨_, rfl, p, _, _, rfl, hp, ?_⟩
    refine ⟨_, rfl, rfl, _, rfl, kF (by decide +kernel) ?_⟩
    refine ⟨_, rfl, rfl, _, rfl, kF (by decide +kernel) ?_⟩
    refine ⟨_, rfl, rfl, _, rfl, kF (by decide +kernel) ?_⟩
    refine ⟨_, rfl, rfl, _, rfl, kF (by decide +kernel) ?_⟩
    refine ⟨_, rfl, p, _, rfl, .inr (SqT.of hp), rfl, _, rfl, kF (by simp) ?_⟩
    refine ⟨_, rfl, rfl, _, rfl, kF (by decide +kernel) ?_⟩
    refine ⟨_, rfl, rfl, _, rfl, kF (by decide +kernel) ?_⟩
    refine ⟨_, rfl, by decide, fun q hq => ⟨q, _, rfl, .inr (SqT.of upd_same), rfl, rfl, _, rfl, kT (by decide +kernel) ?_⟩⟩
    have S := same_new hq (.tup [.str "word", .str "name"])
    exact ⟨_, rfl, p, _, 1, _, rfl, rfl, SqT.of (S _ _ hp), atI_nat (j := 1) rfl, nm x, rfl, (N.ok x), k _ S⟩
  | non =>
    unfold eEx at hv
    obtain ⟨p, a, rfl, hp, ha⟩ := hv.tup1
    cases ha.str
    refine ⟨_, rfl, p, _, _, rfl, hp, ?_⟩
    refine ⟨_, rfl, rfl, _, rfl, kT (by decide +kernel) ?_⟩
    exact ⟨_, rfl, p, _, rfl, .inr (SqT.of hp), rfl, bT rfl (k _ (.refl H))⟩
  | fn ps b =>
    unfold eEx at hv
    unfold wEx at wf
    obtain ⟨l3, nd, wb⟩ := wf
    obtain ⟨p, a, b1, b2, rfl, hp, ha, hb1, hb2⟩ := hv.tup3
    cases ha.str
    obtain ⟨p1, vs, rfl, h1, hn⟩ := hb1.tup
    cases ats_names hn
    obtain ⟨pp, dx, kn, rfl, hpl'⟩ := id hpl
    refine ⟨_, rfl, p, _, _, rfl, hp, ?_⟩
    refine ⟨_, rfl, rfl, _, rfl, kF (by decide +kernel) ?_⟩
    refine ⟨_, rfl, rfl, _, rfl, kF (by decide +kernel) ?_⟩
    refine ⟨_, rfl, rfl, _, rfl, kT (by decide +kernel) ?_⟩
    refine ⟨_, rfl, p, _, rfl, .inr (SqT.of hp), rfl, _, rfl, kF (by simp) ?_⟩
    refine ⟨_, rfl, p, _, 1, _, rfl, rfl, SqT.of hp, atI_nat (j := 1) rfl, p1, ps.map nm, rfl, h1, by rw [List.length_map]; exact l3, nodup_nm N nd, oks_nm N, fun H1 S1 => ⟨true, rfl, iteF ?_⟩⟩
    refine ⟨_, rfl, p, _, 2, _, rfl, rfl, SqT.of (S1 _ _ hp), atI_nat (j := 2) rfl, _, rfl, pp, dx, _, rfl, S1 _ _ hpl', fsPlace_no_within_function, _, mr, rfl, hpl.same S1, fun H2 u S2 hu => ?_⟩
    refine ⟨_, rfl, _, _, rfl, rfl, b, b2, u, true, rfl, ?_, hu, wb, fun H3 S3 => k _ (S1.trans (S2.trans S3))⟩
    exact At.same (tps_of (S1.trans S2)) _ _ hb2

theorem sc_are_things : FnScope ["thing", "place", "depth", "item"] ["thing", "place", "depth"] (defScope s_are_things) := ⟨rfl, rfl, rfl, by decide +kernel, rfl, by decide +kernel, by decide +kernel⟩
theorem ok_are_things (T : Tx K mg) {k : Nat} (OS : Ok P w K mg base k (He.fAd K ("is_simple", none)) ["thing", "place", "depth"] [] (spSimple K nm d)) :
    Ok P w K mg base (k + 1) (He.fAd K ("are_things", none)) ["thing", "place", "depth"] [] (spThings K nm d) := by
  obtain ⟨fd, F⟩ := T.f_are_things
  obtain ⟨fd_is_simple, us_is_simple, G_is_simple, b_is_simple, v_is_simple, k_is_simple, _⟩ := OS
  refine mkOk F sc_are_things (bind0 F fun _ _ _ _ _ _ us hl => match us, hl with | [_, _, _], _ => rfl) (fun vs H Q E h => ?_) (fun cdv A outer s H vs Q E hr h => ?_)
  · obtain ⟨e, v, pl, mr, rfl, _⟩ := h
    rfl
  obtain ⟨es, v, pl, mr, rfl, hv, hpl, l3, wf, k⟩ := h
  obtain ⟨p, vs, rfl, hp, hs⟩ := hv.tup
  refine ⟨_, (pss_cons (ps_if (PW.pt (pw_or (pt_not (pt_val (pe_callB call_isi (by rfl) T.z_isinstance (by decide +kernel) (pa_cons (pv 0) (pa_cons (pe_bltn (v := .ty "tuple") (by rfl) T.z_tuple (by decide +kernel) rfl) pa_nil))))) (pw_or1 (pt_cmpR op_gt (pe_callB call_len_seq (by rfl) T.z_len PySem.boot_len (pa_cons (pv 0) pa_nil)) (pe_gc rfl T.k_MOST_THINGS) (nomark _))))) (pss_one (ps_ret pe_bl)) pss_nil)
      (pss_cons (ps_for PassesOwn.never rfl (pi_tup (pv 0)) (pg_name (i := 3) sc_are_things.nd rfl (Or.inl rfl))
      (pss_one (ps_if (pt_not (pt_val (pe_call G_is_simple (hr.mono (by omega)) rfl T.g_is_simple k_is_simple b_is_simple v_is_simple pass0 (pa_cons (pv 3) (pa_cons (pv 1) (pa_cons (pv 2) pa_nil)))))) (pss_one (ps_ret pe_bl)) pss_nil)))
      (pss_one (ps_ret pe_bl)))), ?_⟩
  have hl : vs.length = es.length := by rw [hs.len, eExs_len]
  refine ⟨_, rfl, _, _, _, _, true, rfl, .ty "tuple", .base (.tup hp), kit_ty (by decide +kernel), true, rfl, iteF ?_⟩
  refine ⟨_, rfl, p, _, rfl, .inr (SqT.of hp), _, _, rfl, rfl, _, rfl, kF (by simp; omega) ?_⟩
  refine ⟨_, rfl, p, rfl, ⟨_, SqT.of hp⟩, for_tup (K := K) (a := p) (xs := vs) (fun i σ H' => Same H H' ∧ ∃ u, σ = [some (.ref p), some pl, some (.int d), u]) ⟨.refl H, _, rfl⟩ (fun i σ H' _ q => SqT.of (q.1 _ _ hp)) ?_ ?_⟩
  · rintro i y σ H' hi ⟨S, u, rfl⟩
    obtain ⟨t, ht, hy⟩ := hs.get hi
    rw [eExs_get] at ht
    cases he : es[i]? with
    | none => rw [he] at ht; cases ht
    | some e =>
      rw [he] at ht
      cases ht
      exact ⟨_, rfl, _, rfl, _, rfl, e, y, pl, mr, rfl, At.same (tps_of S) _ _ hy, hpl.same S, wExs_get wf he, fun H2 S2 => ⟨true, rfl, iteF ⟨S.trans S2, _, rfl⟩⟩⟩
  · rintro σ H' ⟨S, u, rfl⟩
    exact k _ S
theorem sc_is_right : FnScope ["thing", "place", "depth", "kind"] ["thing", "place", "depth"] (defScope s_is_right) := ⟨rfl, rfl, rfl, by decide +kernel, rfl, by decide +kernel, by decide +kernel⟩
theorem ok_is_right (T : Tx K mg) {k : Nat} (hk : 1 ≤ k) (OS : Ok P w K mg base k (He.fAd K ("is_simple", none)) ["thing", "place", "depth"] [] (spSimple K nm d))
    (OT : Ok P w K mg base k (He.fAd K ("are_things", none)) ["thing", "place", "depth"] [] (spThings K nm d)) :
    Ok P w K mg base (k + 1) (He.fAd K ("is_right", none)) ["thing", "place", "depth"] [] (spRight K nm d) := by
  obtain ⟨fd, F⟩ := T.f_is_right
  obtain ⟨fd_is_simple, us_is_simple, G_is_simple, b_is_simple, v_is_simple, k_is_simple, _⟩ := OS
  obtain ⟨fd_are_things, us_are_things, G_are_things, b_are_things, v_are_things, k_are_things, _⟩ := OT
  obtain ⟨fd_head, us_head, G_head, b_head, v_head, k_head, _⟩ := ok_head T
  refine mkOk F sc_is_right (bind0 F fun _ _ _ _ _ _ us hl => match us, hl with | [_, _, _], _ => rfl) (fun vs H Q E h => ?_) (fun cdv A outer s H vs Q E hr h => ?_)
  · obtain ⟨e, v, pl, mr, rfl, _⟩ := h
    rfl
  obtain ⟨r, v, pl, mr, rfl, hv, hpl, wf, k⟩ := h
  refine ⟨_, (pss_cons (ps_set (i := 3) sc_is_right.nd rfl (Or.inl rfl) (pe_call G_head (hr.mono (by omega)) rfl T.g_head k_head b_head v_head pass0 (pa_cons (pv 0) pa_nil)))
      (pss_cons (ps_if (pt_cmpR op_eq (pv 3) pe_str (nomark _)) (pss_one (ps_ret (pe_and (pe_cmpR op_eq (pe_callB call_len_seq (by rfl) T.z_len PySem.boot_len (pa_cons (pv 0) pa_nil)) pe_int (nomark _)) (pe_and (pe_call G_is_simple (hr.mono (by omega)) rfl T.g_is_simple k_is_simple b_is_simple v_is_simple pass0 (pa_cons (pe_ix ix_tup (pv 0) pe_int (fun _ _ => rfl)) (pa_cons (pv 1) (pa_cons (pv 2) pa_nil)))) (pe_one (pe_call G_are_things (hr.mono (by omega)) rfl T.g_are_things k_are_things b_are_things v_are_things pass0 (pa_cons (pe_ix ix_tup (pv 0) pe_int (fun _ _ => rfl)) (pa_cons (pv 1) (pa_cons (pv 2) pa_nil))))))))) pss_nil)
      (pss_cons (ps_if (pt_cmpR op_eq (pv 3) pe_str (nomark _)) pss_never pss_nil)
      (pss_cons (ps_if (pt_cmpR op_eq (pv 3) pe_str (nomark _)) pss_never pss_nil)
      (pss_one (ps_ret (pe_call G_is_simple (hr.mono (by omega)) rfl T.g_is_simple k_is_simple b_is_simple v_is_simple pass0 (pa_cons (pv 0) (pa_cons (pv 1) (pa_cons (pv 2) pa_nil)))))))))), ?_⟩
  cases r with
  | call f as =>
    unfold eRt at hv
    unfold wRt at wf
    obtain ⟨wf1, l3, wf2⟩ := wf
    obtain ⟨p, a, b, c, rfl, hp, ha, hb, hc⟩ := hv.tup3
    cases ha.str
    refine ⟨_, rfl, p, _, _, rfl, hp, ?_⟩
    refine ⟨_, rfl, rfl, _, rfl, kT (by decide +kernel) ?_⟩
    refine ⟨_, rfl, p, _, rfl, .inr (SqT.of hp), rfl, _, rfl, kT (by simp) ?_⟩
    refine ⟨_, rfl, p, _, 1, _, rfl, rfl, SqT.of hp, atI_nat (j := 1) rfl, _, rfl, _, rfl, f, b, pl, mr, rfl, hb, hpl, wf1, fun H1 S1 => ⟨true, rfl, iteT ?_⟩⟩
    exact ⟨_, rfl, p, _, 2, _, rfl, rfl, SqT.of (S1 _ _ hp), atI_nat (j := 2) rfl, _, rfl, _, rfl, as, c, pl, mr, rfl, At.same (tps_of S1) _ _ hc, hpl.same S1, l3, wf2, fun H2 S2 => k _ (S1.trans S2)⟩
  | ex e =>
    unfold eRt at hv
    unfold wRt at wf
    have hh : ∃ (p : Addr) (a : Str) (r : List V), v = .ref p ∧ H p = some (.tup (.str a :: r)) ∧ (a = "word" ∨ a = "none" ∨ a = "name" ∨ a = "fn") := by
      cases e with
      | word x =>
        unfold eEx at hv
        obtain ⟨p, a, b, e1, hp, ha, _⟩ := hv.tup2
        cases ha.str
        exact ⟨p, _, _, e1, hp, .inl rfl⟩
      | non =>
        unfold eEx at hv
        obtain ⟨p, a, e1, hp, ha⟩ := hv.tup1
        cases ha.str
        exact ⟨p, _, _, e1, hp, .inr (.inl rfl)⟩
      | name x =>
        unfold eEx at hv
        obtain ⟨p, a, b, e1, hp, ha, _⟩ := hv.tup2
        cases ha.str
        exact ⟨p, _, _, e1, hp, .inr (.inr (.inl rfl))⟩
      | fn ps b =>
        unfold eEx at hv
        obtain ⟨p, a, b, c, e1, hp, ha, _⟩ := hv.tup3
        cases ha.str
        exact ⟨p, _, _, e1, hp, .inr (.inr (.inr rfl))⟩
    obtain ⟨p, a, r, rfl, hp, hkd⟩ := hh
    refine ⟨_, rfl, p, _, _, rfl, hp, ?_⟩
    have n1 : ¬ decide (V.str a = V.str "call") = true := by rcases hkd with rfl | rfl | rfl | rfl <;> decide +kernel
    have n2 : ¬ decide (V.str a = V.str "ask") = true := by rcases hkd with rfl | rfl | rfl | rfl <;> decide +kernel
    have n3 : ¬ decide (V.str a = V.str "parent") = true := by rcases hkd with rfl | rfl | rfl | rfl <;> decide +kernel
    refine ⟨_, rfl, rfl, _, rfl, kF n1 ?_⟩
    refine ⟨_, rfl, rfl, _, rfl, kF n2 ?_⟩
    refine ⟨_, rfl, rfl, _, rfl, kF n3 ?_⟩
    exact ⟨_, rfl, _, rfl, _, rfl, e, _, pl, mr, rfl, hv, hpl, wf, fun H1 S1 => k _ S1⟩


theorem bind_is_test4 {f : Addr} {fd : FuncData} (F : FnP K "is_test" "is_test" s_is_test [V.int 3] [] f fd) : ∃ us, Vals [] us ∧ Binds K fd ["thing", "place", "depth", "levels"] us := by
  obtain ⟨ds, v, b⟩ := FunD.binds1 (ps := ["thing", "place", "depth", "levels"]) F 4 1 (by simp) rfl (fun T kV doc pm an cdv ct us its h1 h2 => match us, its, h1, h2 with | [_, _, _, _], [_], _, _ => ⟨_, rfl, rfl⟩)
  exact ⟨ds, v, b⟩
theorem bind_is_test3 {f : Addr} {fd : FuncData} (F : FnP K "is_test" "is_test" s_is_test [V.int 3] [] f fd) : ∃ us, Vals [V.int 3] us ∧ Binds K fd ["thing", "place", "depth", "levels"] us := by
  obtain ⟨ds, v, b⟩ := FunD.binds1 (ps := ["thing", "place", "depth", "levels"]) F 3 0 (by simp) rfl (fun T kV doc pm an cdv ct us its h1 h2 => match us, its, h1, h2 with | [_, _, _], [_], _, _ => ⟨_, rfl, rfl⟩)
  exact ⟨ds, v, b⟩
theorem sc_is_test : FnScope ["thing", "place", "depth", "levels", "kind"] ["thing", "place", "depth", "levels"] (defScope s_is_test) := ⟨rfl, rfl, rfl, by decide +kernel, rfl, by decide +kernel, by decide +kernel⟩
theorem ok_is_test (T : Tx K mg) {k : Nat} (hk : 1 ≤ k) (OS : Ok P w K mg base k (He.fAd K ("is_simple", none)) ["thing", "place", "depth"] [] (spSimple K nm d)) {ds : List V}
    (hb : ∀ {fd}, FnP K "is_test" "is_test" s_is_test [V.int 3] [] (He.fAd K ("is_test", none)) fd → ∃ us, Vals ds us ∧ Binds K fd ["thing", "place", "depth", "levels"] us) :
    ∀ l : Nat, Ok P w K mg base (k + 1 + l) (He.fAd K ("is_test", none)) ["thing", "place", "depth", "levels"] ds (spTest K nm l d)
  | 0 => by
    obtain ⟨fd, F⟩ := T.f_is_test
    refine mkOk F sc_is_test (hb F) (fun vs H Q E h => ?_) (fun cdv A outer s H vs Q E hr h => ?_)
    · obtain ⟨e, v, pl, mr, rfl, _⟩ := h
      rfl
    obtain ⟨t, v, pl, mr, rfl, hv, hpl, wf, k⟩ := h
    cases t <;> exact absurd wf.1 (Nat.lt_irrefl 0)
  | l + 1 => by
    obtain ⟨fd, F⟩ := T.f_is_test
    have OT := ok_is_test T hk OS (ds := []) bind_is_test4 l
    obtain ⟨fd_is_test, us_is_test, G_is_test, b_is_test, v_is_test, k_is_test, _⟩ := OT
    obtain ⟨fd_is_simple, us_is_simple, G_is_simple, b_is_simple, v_is_simple, k_is_simple, _⟩ := OS
    obtain ⟨fd_head, us_head, G_head, b_head, v_head, k_head, _⟩ := ok_head T
    refine mkOk (k := k + 1 + l) F sc_is_test (hb F) (fun vs H Q E h => ?_) (fun cdv A outer s H vs Q E hr h => ?_)
    · obtain ⟨e, v, pl, mr, rfl, _⟩ := h
      rfl
    obtain ⟨t, v, pl, mr, rfl, hv, hpl, wf, k⟩ := h
    refine ⟨_, (pss_cons (ps_set (i := 4) sc_is_test.nd rfl (Or.inl rfl) (pe_call G_head (hr.mono (by omega)) rfl T.g_head k_head b_head v_head pass0 (pa_cons (pv 0) pa_nil)))
      (pss_cons (ps_if (pt_cmpR op_eq (pv 3) pe_int (nomark _)) (pss_one (ps_ret pe_bl)) pss_nil)
      (pss_cons (ps_if (pt_cmpR op_eq (pv 4) pe_str (nomark _)) (pss_one (ps_ret (pe_and (pe_cmpR op_eq (pe_callB call_len_seq (by rfl) T.z_len PySem.boot_len (pa_cons (pv 0) pa_nil)) pe_int (nomark _)) (pe_and (pe_call G_is_simple (hr.mono (by omega)) rfl T.g_is_simple k_is_simple b_is_simple v_is_simple pass0 (pa_cons (pe_ix ix_tup (pv 0) pe_int (fun _ _ => rfl)) (pa_cons (pv 1) (pa_cons (pv 2) pa_nil)))) (pe_one (pe_call G_is_simple (hr.mono (by omega)) rfl T.g_is_simple k_is_simple b_is_simple v_is_simple pass0 (pa_cons (pe_ix ix_tup (pv 0) pe_int (fun _ _ => rfl)) (pa_cons (pv 1) (pa_cons (pv 2) pa_nil))))))))) pss_nil)
      (pss_cons (ps_if (pt_cmpR op_eq (pv 4) pe_str (nomark _)) (pss_one (ps_ret (pe_and (pe_cmpR op_eq (pe_callB call_len_seq (by rfl) T.z_len PySem.boot_len (pa_cons (pv 0) pa_nil)) pe_int (nomark _)) (pe_one (pe_call G_is_test (hr.mono (by omega)) rfl T.g_is_test k_is_test b_is_test v_is_test pass0 (pa_cons (pe_ix ix_tup (pv 0) pe_int (fun _ _ => rfl)) (pa_cons (pv 1) (pa_cons (pv 2) (pa_cons (pe_op op_sub (pv 3) pe_int) pa_nil))))))))) pss_nil)
      (pss_cons (ps_if (PW.pt (pw_and (pt_cmpR op_ne (pv 4) pe_str (nomark _)) (pw_and1 (pt_cmpR op_ne (pv 4) pe_str (nomark _))))) (pss_one (ps_ret pe_bl)) pss_nil)
      pss_never))))), ?_⟩
    have l0 : ¬ decide (V.int ((l + 1 : Nat) : Int) = V.int 0) = true := fun h => by
      have h2 := V.int.inj (of_decide_eq_true h)
      omega
    cases t with
    | same a b =>
      unfold eTe at hv
      unfold wTe at wf
      obtain ⟨_, wa, wb⟩ := wf
      obtain ⟨p, x, y, z, rfl, hp, hx, hy, hz⟩ := hv.tup3
      cases hx.str
      refine ⟨_, rfl, p, _, _, rfl, hp, ?_⟩
      refine ⟨_, rfl, rfl, _, rfl, kF l0 ?_⟩
      refine ⟨_, rfl, rfl, _, rfl, kT (by decide +kernel) ?_⟩
      refine ⟨_, rfl, p, _, rfl, .inr (SqT.of hp), rfl, _, rfl, kT (by simp) ?_⟩
      refine ⟨_, rfl, p, _, 1, _, rfl, rfl, SqT.of hp, atI_nat (j := 1) rfl, _, rfl, _, rfl, a, y, pl, mr, rfl, hy, hpl, wa, fun H1 S1 => ⟨true, rfl, iteT ?_⟩⟩
      exact ⟨_, rfl, p, _, 2, _, rfl, rfl, SqT.of (S1 _ _ hp), atI_nat (j := 2) rfl, _, rfl, _, rfl, b, z, pl, mr, rfl, At.same (tps_of S1) _ _ hz, hpl.same S1, wb, fun H2 S2 => k _ (S1.trans S2)⟩
    | not t =>
      unfold eTe at hv
      unfold wTe at wf
      obtain ⟨_, wt⟩ := wf
      obtain ⟨p, x, y, rfl, hp, hx, hy⟩ := hv.tup2
      cases hx.str
      refine ⟨_, rfl, p, _, _, rfl, hp, ?_⟩
      refine ⟨_, rfl, rfl, _, rfl, kF l0 ?_⟩
      refine ⟨_, rfl, rfl, _, rfl, kF (by decide +kernel) ?_⟩
      refine ⟨_, rfl, rfl, _, rfl, kT (by decide +kernel) ?_⟩
      refine ⟨_, rfl, p, _, rfl, .inr (SqT.of hp), rfl, _, rfl, kT (by simp) ?_⟩
      refine ⟨_, rfl, p, _, 1, _, rfl, rfl, SqT.of hp, atI_nat (j := 1) rfl, _, rfl, _, rfl, _, rfl, _, _, rfl, rfl, t, y, pl, mr, ?_, hy, hpl, wt, fun H1 S1 => k _ S1⟩
      show [y, pl, V.int d, V.int (((l + 1 : Nat) : Int) - 1)] = [y, pl, V.int d, V.int (l : Int)]
      rw [show ((l + 1 : Nat) : Int) - 1 = (l : Int) by omega]

end
end K38
end
section
/-! K38I: is_short, is_statement, is_block; all of them by the depth. -/
namespace K38
open PySem PySem.Spec PyProof.Rows L2
section
variable {P : Program} {w : World} {K : PySem.W.Frag} {mg : Str → Option Value} {base : Heap} {nm : Nm → Str} {d : Nat}
theorem sc_is_short : FnScope ["thing", "place", "depth", "kind"] ["thing", "place", "depth"] (defScope s_is_short) := ⟨rfl, rfl, rfl, by decide +kernel, rfl, by decide +kernel, by decide +kernel⟩
theorem ok_is_short (T : Tx K mg) (N : NmOk nm) {k : Nat} (hk : 1 ≤ k) (OS : Ok P w K mg base k (He.fAd K ("is_simple", none)) ["thing", "place", "depth"] [] (spSimple K nm d))
    (OR : Ok P w K mg base k (He.fAd K ("is_right", none)) ["thing", "place", "depth"] [] (spRight K nm d)) :
    Ok P w K mg base (k + 1) (He.fAd K ("is_short", none)) ["thing", "place", "depth"] [] (spShort K nm d) := by
  obtain ⟨fd, F⟩ := T.f_is_short
  obtain ⟨fd_is_simple, us_is_simple, G_is_simple, b_is_simple, v_is_simple, k_is_simple, _⟩ := OS
  obtain ⟨fd_is_right, us_is_right, G_is_right, b_is_right, v_is_right, k_is_right, _⟩ := OR
  obtain ⟨fd_is_name, us_is_name, G_is_name, b_is_name, v_is_name, k_is_name, _⟩ := ok_is_name T
  obtain ⟨fd_head, us_head, G_head, b_head, v_head, k_head, _⟩ := ok_head T
  refine mkOk F sc_is_short (bind0 F fun _ _ _ _ _ _ us hl => match us, hl with | [_, _, _], _ => rfl) (fun vs H Q E h => ?_) (fun cdv A outer s H vs Q E hr h => ?_)
  · obtain ⟨e, v, pl, mr, rfl, _⟩ := h
    rfl
  obtain ⟨st, v, pl, mr, rfl, hv, hpl, sh, wf, k⟩ := h
  refine ⟨_, (pss_cons (ps_set (i := 3) sc_is_short.nd rfl (Or.inl rfl) (pe_call G_head (hr.mono (by omega)) rfl T.g_head k_head b_head v_head pass0 (pa_cons (pv 0) pa_nil)))
      (pss_cons (ps_if (PW.pt (pw_or (pt_cmpR op_eq (pv 3) pe_str (nomark _)) (pw_or1 (pt_cmpR op_eq (pv 3) pe_str (nomark _))))) (pss_one (ps_ret (pe_and (pe_cmpR op_eq (pe_callB call_len_seq (by rfl) T.z_len PySem.boot_len (pa_cons (pv 0) pa_nil)) pe_int (nomark _)) (pe_and (pe_call G_is_name (hr.mono (by omega)) rfl T.g_is_name k_is_name b_is_name v_is_name pass0 (pa_cons (pe_ix ix_tup (pv 0) pe_int (fun _ _ => rfl)) pa_nil)) (pe_one (pe_call G_is_right (hr.mono (by omega)) rfl T.g_is_right k_is_right b_is_right v_is_right pass0 (pa_cons (pe_ix ix_tup (pv 0) pe_int (fun _ _ => rfl)) (pa_cons (pv 1) (pa_cons (pv 2) pa_nil))))))))) pss_nil)
      (pss_cons (ps_if (pt_cmpR op_eq (pv 3) pe_str (nomark _)) pss_never pss_nil)
      (pss_cons (ps_if (pt_cmpR op_eq (pv 3) pe_str (nomark _)) (pss_one (ps_ret (pe_and (pe_cmpR op_eq (pe_callB call_len_seq (by rfl) T.z_len PySem.boot_len (pa_cons (pv 0) pa_nil)) pe_int (nomark _)) (pe_one (pe_call G_is_simple (hr.mono (by omega)) rfl T.g_is_simple k_is_simple b_is_simple v_is_simple pass0 (pa_cons (pe_ix ix_tup (pv 0) pe_int (fun _ _ => rfl)) (pa_cons (pv 1) (pa_cons (pv 2) pa_nil)))))))) pss_nil)
      (pss_cons (ps_if (pt_cmpR op_eq (pv 3) pe_str (nomark _)) (pss_one (ps_ret (pe_and (pe_fld (pv 1) rfl) (pe_and (pe_cmpR op_eq (pe_callB call_len_seq (by rfl) T.z_len PySem.boot_len (pa_cons (pv 0) pa_nil)) pe_int (nomark _)) (pe_one (pe_call G_is_right (hr.mono (by omega)) rfl T.g_is_right k_is_right b_is_right v_is_right pass0 (pa_cons (pe_ix ix_tup (pv 0) pe_int (fun _ _ => rfl)) (pa_cons (pv 1) (pa_cons (pv 2) pa_nil))))))))) pss_nil)
      (pss_cons (ps_if (PW.pt (pw_or (pt_cmpR op_eq (pv 3) pe_str (nomark _)) (pw_or1 (pt_cmpR op_eq (pv 3) pe_str (nomark _))))) (pss_one (ps_ret (pe_and (pe_cmpR op_eq (pe_callB call_len_seq (by rfl) T.z_len PySem.boot_len (pa_cons (pv 0) pa_nil)) pe_int (nomark _)) (pe_one (pe_call G_is_right (hr.mono (by omega)) rfl T.g_is_right k_is_right b_is_right v_is_right pass0 (pa_cons (pe_ix ix_tup (pv 0) pe_int (fun _ _ => rfl)) (pa_cons (pv 1) (pa_cons (pv 2) pa_nil)))))))) pss_nil)
      (pss_one (ps_ret pe_bl)))))))), ?_⟩
  cases st with
  | lt x r =>
    unfold eSm at hv
    unfold wSm at wf
    obtain ⟨p, a, b, c, rfl, hp, ha, hb, hc⟩ := hv.tup3
    cases ha.str
    cases hb.str
    refine ⟨_, rfl, p, _, _, rfl, hp, ?_⟩
    refine ⟨_, rfl, rfl, _, rfl, kT (by decide +kernel) ?_⟩
    refine iteT ?_
    refine ⟨_, rfl, p, _, rfl, .inr (SqT.of hp), rfl, _, rfl, kT (by simp) ?_⟩
    refine ⟨_, rfl, p, _, 1, _, rfl, rfl, SqT.of hp, atI_nat (j := 1) rfl, nm x, rfl, N.ok x, true, rfl, iteT ?_⟩
    exact ⟨_, rfl, p, _, 2, _, rfl, rfl, SqT.of hp, atI_nat (j := 2) rfl, _, rfl, _, rfl, r, c, pl, mr, rfl, hc, hpl, wf, fun H1 S1 => k _ S1⟩
  | st x r =>
    unfold eSm at hv
    unfold wSm at wf
    obtain ⟨p, a, b, c, rfl, hp, ha, hb, hc⟩ := hv.tup3
    cases ha.str
    cases hb.str
    refine ⟨_, rfl, p, _, _, rfl, hp, ?_⟩
    refine ⟨_, rfl, rfl, _, rfl, kF (by decide +kernel) ?_⟩
    refine ⟨_, rfl, rfl, _, rfl, kT (by decide +kernel) ?_⟩
    refine ⟨_, rfl, p, _, rfl, .inr (SqT.of hp), rfl, _, rfl, kT (by simp) ?_⟩
    refine ⟨_, rfl, p, _, 1, _, rfl, rfl, SqT.of hp, atI_nat (j := 1) rfl, nm x, rfl, N.ok x, true, rfl, iteT ?_⟩
    exact ⟨_, rfl, p, _, 2, _, rfl, rfl, SqT.of hp, atI_nat (j := 2) rfl, _, rfl, _, rfl, r, c, pl, mr, rfl, hc, hpl, wf, fun H1 S1 => k _ S1⟩
  | pr e =>
    unfold eSm at hv
    unfold wSm at wf
    obtain ⟨p, a, b, rfl, hp, ha, hb⟩ := hv.tup2
    cases ha.str
    refine ⟨_, rfl, p, _, _, rfl, hp, ?_⟩
    refine ⟨_, rfl, rfl, _, rfl, kF (by decide +kernel) ?_⟩
    refine ⟨_, rfl, rfl, _, rfl, kF (by decide +kernel) ?_⟩
    refine ⟨_, rfl, rfl, _, rfl, kF (by decide +kernel) ?_⟩
    refine ⟨_, rfl, rfl, _, rfl, kT (by decide +kernel) ?_⟩
    refine ⟨_, rfl, p, _, rfl, .inr (SqT.of hp), rfl, _, rfl, kT (by simp) ?_⟩
    exact ⟨_, rfl, p, _, 1, _, rfl, rfl, SqT.of hp, atI_nat (j := 1) rfl, _, rfl, _, rfl, e, b, pl, mr, rfl, hb, hpl, wf, fun H1 S1 => k _ S1⟩
  | ret r =>
    unfold eSm at hv
    unfold wSm at wf
    obtain ⟨rfl, wf⟩ := wf
    obtain ⟨p, a, b, rfl, hp, ha, hb⟩ := hv.tup2
    cases ha.str
    obtain ⟨pp, dx, kn, rfl, hpl'⟩ := id hpl
    refine ⟨_, rfl, p, _, _, rfl, hp, ?_⟩
    refine ⟨_, rfl, rfl, _, rfl, kF (by decide +kernel) ?_⟩
    refine ⟨_, rfl, rfl, _, rfl, kF (by decide +kernel) ?_⟩
    refine ⟨_, rfl, rfl, _, rfl, kF (by decide +kernel) ?_⟩
    refine ⟨_, rfl, rfl, _, rfl, kF (by decide +kernel) ?_⟩
    refine ⟨_, rfl, rfl, _, rfl, kT (by decide +kernel) ?_⟩
    refine ⟨_, rfl, pp, _, dx, _, _, rfl, hpl', T.cl_Place, T.na_Place_may_return, fsPlace_may_return, true, rfl, iteT ?_⟩
    refine ⟨_, rfl, p, _, rfl, .inr (SqT.of hp), rfl, _, rfl, kT (by simp) ?_⟩
    exact ⟨_, rfl, p, _, 1, _, rfl, rfl, SqT.of hp, atI_nat (j := 1) rfl, _, rfl, _, rfl, r, b, _, true, rfl, hb, hpl, wf, fun H1 S1 => k _ S1⟩
  | rs r =>
    unfold eSm at hv
    unfold wSm at wf
    obtain ⟨p, a, b, rfl, hp, ha, hb⟩ := hv.tup2
    cases ha.str
    refine ⟨_, rfl, p, _, _, rfl, hp, ?_⟩
    refine ⟨_, rfl, rfl, _, rfl, kF (by decide +kernel) ?_⟩
    refine ⟨_, rfl, rfl, _, rfl, kF (by decide +kernel) ?_⟩
    refine ⟨_, rfl, rfl, _, rfl, kF (by decide +kernel) ?_⟩
    refine ⟨_, rfl, rfl, _, rfl, kF (by decide +kernel) ?_⟩
    refine ⟨_, rfl, rfl, _, rfl, kF (by decide +kernel) ?_⟩
    refine ⟨_, rfl, rfl, _, rfl, kF (by decide +kernel) ?_⟩
    refine ⟨_, rfl, rfl, _, rfl, kT (by decide +kernel) ?_⟩
    refine ⟨_, rfl, p, _, rfl, .inr (SqT.of hp), rfl, _, rfl, kT (by simp) ?_⟩
    exact ⟨_, rfl, p, _, 1, _, rfl, rfl, SqT.of hp, atI_nat (j := 1) rfl, _, rfl, _, rfl, r, b, pl, mr, rfl, hb, hpl, wf, fun H1 S1 => k _ S1⟩
  | iff t a b => cases sh
  | whl t a => cases sh
  | tr a x b => cases sh
  | la a b => cases sh

theorem sc_is_statement : FnScope ["thing", "place", "depth", "kind"] ["thing", "place", "depth"] (defScope s_is_statement) := ⟨rfl, rfl, rfl, by decide +kernel, rfl, by decide +kernel, by decide +kernel⟩
theorem ok_is_statement (T : Tx K mg) (N : NmOk nm) {k : Nat} (hk : 1 ≤ k) (OH : Ok P w K mg base k (He.fAd K ("is_short", none)) ["thing", "place", "depth"] [] (spShort K nm d))
    (OT : Ok P w K mg base k (He.fAd K ("is_test", none)) ["thing", "place", "depth", "levels"] [V.int 3] (spTest K nm 3 d))
    (OB : Ok P w K mg base k (He.fAd K ("is_block", none)) ["thing", "place", "depth"] [] (spBlock K nm (d + 1))) :
    Ok P w K mg base (k + 1) (He.fAd K ("is_statement", none)) ["thing", "place", "depth"] [] (spStmt K nm d) := by
  obtain ⟨fd, F⟩ := T.f_is_statement
  obtain ⟨fd_is_short, us_is_short, G_is_short, b_is_short, v_is_short, k_is_short, _⟩ := OH
  obtain ⟨fd_is_test, us_is_test, G_is_test, b_is_test, v_is_test, k_is_test, _⟩ := OT
  obtain ⟨fd_is_block, us_is_block, G_is_block, b_is_block, v_is_block, k_is_block, _⟩ := OB
  obtain ⟨fd_is_name, us_is_name, G_is_name, b_is_name, v_is_name, k_is_name, _⟩ := ok_is_name T
  obtain ⟨fd_head, us_head, G_head, b_head, v_head, k_head, _⟩ := ok_head T
  refine mkOk F sc_is_statement (bind0 F fun _ _ _ _ _ _ us hl => match us, hl with | [_, _, _], _ => rfl) (fun vs H Q E h => ?_) (fun cdv A outer s H vs Q E hr h => ?_)
  · obtain ⟨e, v, pl, mr, rfl, _⟩ := h
    rfl
  obtain ⟨st, v, pl, mr, rfl, hv, hpl, wf, k⟩ := h
  refine ⟨_, (pss_cons (ps_set (i := 3) sc_is_statement.nd rfl (Or.inl rfl) (pe_call G_head (hr.mono (by omega)) rfl T.g_head k_head b_head v_head pass0 (pa_cons (pv 0) pa_nil)))
      (pss_cons (ps_if (pt_cmpR op_eq (pv 3) pe_str (nomark _)) (pss_cons (ps_if (PW.pt (pw_or (pt_cmpR op_ne (pe_callB call_len_seq (by rfl) T.z_len PySem.boot_len (pa_cons (pv 0) pa_nil)) pe_int (nomark _)) (pw_or1 (pt_not (pt_val (pe_call G_is_test (hr.mono (by omega)) rfl T.g_is_test k_is_test b_is_test v_is_test pass0 (pa_cons (pe_ix ix_tup (pv 0) pe_int (fun _ _ => rfl)) (pa_cons (pv 1) (pa_cons (pv 2) pa_nil))))))))) (pss_one (ps_ret pe_bl)) pss_nil)
      (pss_one (ps_ret (pe_and (pe_call G_is_block (hr.mono (by omega)) rfl T.g_is_block k_is_block b_is_block v_is_block pass0 (pa_cons (pe_ix ix_tup (pv 0) pe_int (fun _ _ => rfl)) (pa_cons (pv 1) (pa_cons (pe_op op_add (pv 2) pe_int) pa_nil)))) (pe_one (pe_call G_is_block (hr.mono (by omega)) rfl T.g_is_block k_is_block b_is_block v_is_block pass0 (pa_cons (pe_ix ix_tup (pv 0) pe_int (fun _ _ => rfl)) (pa_cons (pv 1) (pa_cons (pe_op op_add (pv 2) pe_int) pa_nil))))))))) pss_nil)
      (pss_cons (ps_if (pt_cmpR op_eq (pv 3) pe_str (nomark _)) (pss_one (ps_ret (pe_and (pe_cmpR op_eq (pe_callB call_len_seq (by rfl) T.z_len PySem.boot_len (pa_cons (pv 0) pa_nil)) pe_int (nomark _)) (pe_and (pe_call G_is_test (hr.mono (by omega)) rfl T.g_is_test k_is_test b_is_test v_is_test pass0 (pa_cons (pe_ix ix_tup (pv 0) pe_int (fun _ _ => rfl)) (pa_cons (pv 1) (pa_cons (pv 2) pa_nil)))) (pe_one (pe_call G_is_block (hr.mono (by omega)) rfl T.g_is_block k_is_block b_is_block v_is_block pass0 (pa_cons (pe_ix ix_tup (pv 0) pe_int (fun _ _ => rfl)) (pa_cons (pv 1) (pa_cons (pe_op op_add (pv 2) pe_int) pa_nil))))))))) pss_nil)
      (pss_cons (ps_if (pt_cmpR op_eq (pv 3) pe_str (nomark _)) (pss_cons (ps_if (PW.pt (pw_or (pt_cmpR op_ne (pe_callB call_len_seq (by rfl) T.z_len PySem.boot_len (pa_cons (pv 0) pa_nil)) pe_int (nomark _)) (pw_or1 (pt_not (pt_val (pe_call G_is_name (hr.mono (by omega)) rfl T.g_is_name k_is_name b_is_name v_is_name pass0 (pa_cons (pe_ix ix_tup (pv 0) pe_int (fun _ _ => rfl)) pa_nil))))))) (pss_one (ps_ret pe_bl)) pss_nil)
      (pss_one (ps_ret (pe_and (pe_call G_is_block (hr.mono (by omega)) rfl T.g_is_block k_is_block b_is_block v_is_block pass0 (pa_cons (pe_ix ix_tup (pv 0) pe_int (fun _ _ => rfl)) (pa_cons (pv 1) (pa_cons (pe_op op_add (pv 2) pe_int) pa_nil)))) (pe_one (pe_call G_is_block (hr.mono (by omega)) rfl T.g_is_block k_is_block b_is_block v_is_block pass0 (pa_cons (pe_ix ix_tup (pv 0) pe_int (fun _ _ => rfl)) (pa_cons (pv 1) (pa_cons (pe_op op_add (pv 2) pe_int) pa_nil))))))))) pss_nil)
      (pss_cons (ps_if (pt_cmpR op_eq (pv 3) pe_str (nomark _)) (pss_one (ps_ret (pe_and (pe_cmpR op_eq (pe_callB call_len_seq (by rfl) T.z_len PySem.boot_len (pa_cons (pv 0) pa_nil)) pe_int (nomark _)) (pe_and (pe_call G_is_block (hr.mono (by omega)) rfl T.g_is_block k_is_block b_is_block v_is_block pass0 (pa_cons (pe_ix ix_tup (pv 0) pe_int (fun _ _ => rfl)) (pa_cons (pv 1) (pa_cons (pe_op op_add (pv 2) pe_int) pa_nil)))) (pe_one (pe_call G_is_block (hr.mono (by omega)) rfl T.g_is_block k_is_block b_is_block v_is_block pass0 (pa_cons (pe_ix ix_tup (pv 0) pe_int (fun _ _ => rfl)) (pa_cons (pv 1) (pa_cons (pe_op op_add (pv 2) pe_int) pa_nil))))))))) pss_nil)
      (pss_one (ps_ret (pe_call G_is_short (hr.mono (by omega)) rfl T.g_is_short k_is_short b_is_short v_is_short pass0 (pa_cons (pv 0) (pa_cons (pv 1) (pa_cons (pv 2) pa_nil))))))))))), ?_⟩
  cases st with
  | lt x r =>
    have hv0 := hv
    unfold eSm at hv
    obtain ⟨p, a, b, c, rfl, hp, ha, _⟩ := hv.tup3
    cases ha.str
    refine ⟨_, rfl, p, _, _, rfl, hp, ?_⟩
    refine ⟨_, rfl, rfl, _, rfl, kF (by decide +kernel) ?_⟩
    refine ⟨_, rfl, rfl, _, rfl, kF (by decide +kernel) ?_⟩
    refine ⟨_, rfl, rfl, _, rfl, kF (by decide +kernel) ?_⟩
    refine ⟨_, rfl, rfl, _, rfl, kF (by decide +kernel) ?_⟩
    exact ⟨_, rfl, _, rfl, _, rfl, _, _, pl, mr, rfl, hv0, hpl, rfl, wf, fun H1 S1 => k _ S1⟩
  | st x r =>
    have hv0 := hv
    unfold eSm at hv
    obtain ⟨p, a, b, c, rfl, hp, ha, _⟩ := hv.tup3
    cases ha.str
    refine ⟨_, rfl, p, _, _, rfl, hp, ?_⟩
    refine ⟨_, rfl, rfl, _, rfl, kF (by decide +kernel) ?_⟩
    refine ⟨_, rfl, rfl, _, rfl, kF (by decide +kernel) ?_⟩
    refine ⟨_, rfl, rfl, _, rfl, kF (by decide +kernel) ?_⟩
    refine ⟨_, rfl, rfl, _, rfl, kF (by decide +kernel) ?_⟩
    exact ⟨_, rfl, _, rfl, _, rfl, _, _, pl, mr, rfl, hv0, hpl, rfl, wf, fun H1 S1 => k _ S1⟩
  | pr e =>
    have hv0 := hv
    unfold eSm at hv
    obtain ⟨p, a, b, rfl, hp, ha, _⟩ := hv.tup2
    cases ha.str
    refine ⟨_, rfl, p, _, _, rfl, hp, ?_⟩
    refine ⟨_, rfl, rfl, _, rfl, kF (by decide +kernel) ?_⟩
    refine ⟨_, rfl, rfl, _, rfl, kF (by decide +kernel) ?_⟩
    refine ⟨_, rfl, rfl, _, rfl, kF (by decide +kernel) ?_⟩
    refine ⟨_, rfl, rfl, _, rfl, kF (by decide +kernel) ?_⟩
    exact ⟨_, rfl, _, rfl, _, rfl, _, _, pl, mr, rfl, hv0, hpl, rfl, wf, fun H1 S1 => k _ S1⟩
  | ret r =>
    have hv0 := hv
    unfold eSm at hv
    obtain ⟨p, a, b, rfl, hp, ha, _⟩ := hv.tup2
    cases ha.str
    refine ⟨_, rfl, p, _, _, rfl, hp, ?_⟩
    refine ⟨_, rfl, rfl, _, rfl, kF (by decide +kernel) ?_⟩
    refine ⟨_, rfl, rfl, _, rfl, kF (by decide +kernel) ?_⟩
    refine ⟨_, rfl, rfl, _, rfl, kF (by decide +kernel) ?_⟩
    refine ⟨_, rfl, rfl, _, rfl, kF (by decide +kernel) ?_⟩
    exact ⟨_, rfl, _, rfl, _, rfl, _, _, pl, mr, rfl, hv0, hpl, rfl, wf, fun H1 S1 => k _ S1⟩
  | rs r =>
    have hv0 := hv
    unfold eSm at hv
    obtain ⟨p, a, b, rfl, hp, ha, _⟩ := hv.tup2
    cases ha.str
    refine ⟨_, rfl, p, _, _, rfl, hp, ?_⟩
    refine ⟨_, rfl, rfl, _, rfl, kF (by decide +kernel) ?_⟩
    refine ⟨_, rfl, rfl, _, rfl, kF (by decide +kernel) ?_⟩
    refine ⟨_, rfl, rfl, _, rfl, kF (by decide +kernel) ?_⟩
    refine ⟨_, rfl, rfl, _, rfl, kF (by decide +kernel) ?_⟩
    exact ⟨_, rfl, _, rfl, _, rfl, _, _, pl, mr, rfl, hv0, hpl, rfl, wf, fun H1 S1 => k _ S1⟩
  | iff t a b =>
    unfold eSm at hv
    unfold wSm at wf
    obtain ⟨wt, wa, wb⟩ := wf
    obtain ⟨p, x, y, z, u, rfl, hp, hx, hy, hz, hu⟩ := hv.tup4
    cases hx.str
    refine ⟨_, rfl, p, _, _, rfl, hp, ?_⟩
    refine ⟨_, rfl, rfl, _, rfl, kT (by decide +kernel) ?_⟩
    refine ⟨_, rfl, p, _, rfl, .inr (SqT.of hp), rfl, _, rfl, kF (by simp) ?_⟩
    refine ⟨_, rfl, p, _, 1, _, rfl, rfl, SqT.of hp, atI_nat (j := 1) rfl, _, rfl, _, rfl, t, y, pl, mr, rfl, hy, hpl, wt, fun H1 S1 => ⟨true, rfl, iteF ?_⟩⟩
    refine ⟨_, rfl, p, _, 2, _, rfl, rfl, SqT.of (S1 _ _ hp), atI_nat (j := 2) rfl, _, rfl, _, rfl, _, _, rfl, rfl, a, z, pl, mr, rfl, At.same (tps_of S1) _ _ hz, hpl.same S1, wa, fun H2 S2 => ⟨true, rfl, iteT ?_⟩⟩
    have S12 := S1.trans S2
    exact ⟨_, rfl, p, _, 3, _, rfl, rfl, SqT.of (S12 _ _ hp), atI_nat (j := 3) rfl, _, rfl, _, rfl, _, _, rfl, rfl, b, u, pl, mr, rfl, At.same (tps_of S12) _ _ hu, hpl.same S12, wb, fun H3 S3 => k _ (S12.trans S3)⟩
  | whl t a =>
    unfold eSm at hv
    unfold wSm at wf
    obtain ⟨wt, wa⟩ := wf
    obtain ⟨p, x, y, z, rfl, hp, hx, hy, hz⟩ := hv.tup3
    cases hx.str
    refine ⟨_, rfl, p, _, _, rfl, hp, ?_⟩
    refine ⟨_, rfl, rfl, _, rfl, kF (by decide +kernel) ?_⟩
    refine ⟨_, rfl, rfl, _, rfl, kT (by decide +kernel) ?_⟩
    refine ⟨_, rfl, p, _, rfl, .inr (SqT.of hp), rfl, _, rfl, kT (by simp) ?_⟩
    refine ⟨_, rfl, p, _, 1, _, rfl, rfl, SqT.of hp, atI_nat (j := 1) rfl, _, rfl, _, rfl, t, y, pl, mr, rfl, hy, hpl, wt, fun H1 S1 => ⟨true, rfl, iteT ?_⟩⟩
    exact ⟨_, rfl, p, _, 2, _, rfl, rfl, SqT.of (S1 _ _ hp), atI_nat (j := 2) rfl, _, rfl, _, rfl, _, _, rfl, rfl, a, z, pl, mr, rfl, At.same (tps_of S1) _ _ hz, hpl.same S1, wa, fun H2 S2 => k _ (S1.trans S2)⟩
  | tr a x b =>
    unfold eSm at hv
    unfold wSm at wf
    obtain ⟨wa, wb⟩ := wf
    obtain ⟨p, q, y, z, u, rfl, hp, hx, hy, hz, hu⟩ := hv.tup4
    cases hx.str
    cases hz.str
    refine ⟨_, rfl, p, _, _, rfl, hp, ?_⟩
    refine ⟨_, rfl, rfl, _, rfl, kF (by decide +kernel) ?_⟩
    refine ⟨_, rfl, rfl, _, rfl, kF (by decide +kernel) ?_⟩
    refine ⟨_, rfl, rfl, _, rfl, kT (by decide +kernel) ?_⟩
    refine ⟨_, rfl, p, _, rfl, .inr (SqT.of hp), rfl, _, rfl, kF (by simp) ?_⟩
    refine ⟨_, rfl, p, _, 2, _, rfl, rfl, SqT.of hp, atI_nat (j := 2) rfl, nm x, rfl, N.ok x, true, rfl, iteF ?_⟩
    refine ⟨_, rfl, p, _, 1, _, rfl, rfl, SqT.of hp, atI_nat (j := 1) rfl, _, rfl, _, rfl, _, _, rfl, rfl, a, y, pl, mr, rfl, hy, hpl, wa, fun H2 S2 => ⟨true, rfl, iteT ?_⟩⟩
    exact ⟨_, rfl, p, _, 3, _, rfl, rfl, SqT.of (S2 _ _ hp), atI_nat (j := 3) rfl, _, rfl, _, rfl, _, _, rfl, rfl, b, u, pl, mr, rfl, At.same (tps_of S2) _ _ hu, hpl.same S2, wb, fun H3 S3 => k _ (S2.trans S3)⟩
  | la a b =>
    unfold eSm at hv
    unfold wSm at wf
    obtain ⟨wa, wb⟩ := wf
    obtain ⟨p, x, y, z, rfl, hp, hx, hy, hz⟩ := hv.tup3
    cases hx.str
    refine ⟨_, rfl, p, _, _, rfl, hp, ?_⟩
    refine ⟨_, rfl, rfl, _, rfl, kF (by decide +kernel) ?_⟩
    refine ⟨_, rfl, rfl, _, rfl, kF (by decide +kernel) ?_⟩
    refine ⟨_, rfl, rfl, _, rfl, kF (by decide +kernel) ?_⟩
    refine ⟨_, rfl, rfl, _, rfl, kT (by decide +kernel) ?_⟩
    refine ⟨_, rfl, p, _, rfl, .inr (SqT.of hp), rfl, _, rfl, kT (by simp) ?_⟩
    refine ⟨_, rfl, p, _, 1, _, rfl, rfl, SqT.of hp, atI_nat (j := 1) rfl, _, rfl, _, rfl, _, _, rfl, rfl, a, y, pl, mr, rfl, hy, hpl, wa, fun H2 S2 => ⟨true, rfl, iteT ?_⟩⟩
    exact ⟨_, rfl, p, _, 2, _, rfl, rfl, SqT.of (S2 _ _ hp), atI_nat (j := 2) rfl, _, rfl, _, rfl, _, _, rfl, rfl, b, z, pl, mr, rfl, At.same (tps_of S2) _ _ hz, hpl.same S2, wb, fun H3 S3 => k _ (S2.trans S3)⟩

theorem sc_is_block : FnScope ["thing", "place", "depth", "statement"] ["thing", "place", "depth"] (defScope s_is_block) := ⟨rfl, rfl, rfl, by decide +kernel, rfl, by decide +kernel, by decide +kernel⟩
theorem ok_is_block1 (T : Tx K mg) {k : Nat} (OS : Ok P w K mg base k (He.fAd K ("is_statement", none)) ["thing", "place", "depth"] [] (spStmt K nm d)) :
    Ok P w K mg base (k + 1) (He.fAd K ("is_block", none)) ["thing", "place", "depth"] [] (spBlock K nm d) := by
  obtain ⟨fd, F⟩ := T.f_is_block
  obtain ⟨fd_is_statement, us_is_statement, G_is_statement, b_is_statement, v_is_statement, k_is_statement, _⟩ := OS
  refine mkOk F sc_is_block (bind0 F fun _ _ _ _ _ _ us hl => match us, hl with | [_, _, _], _ => rfl) (fun vs H Q E h => ?_) (fun cdv A outer s H vs Q E hr h => ?_)
  · obtain ⟨e, v, pl, mr, rfl, _⟩ := h
    rfl
  obtain ⟨b, v, pl, mr, rfl, hv, hpl, ⟨⟨d8, l12⟩, wf⟩, k⟩ := h
  obtain ⟨p, vs, rfl, hp, hs⟩ := hv.tup
  refine ⟨_, (pss_cons (ps_if (PW.pt (pw_or (pt_not (pt_val (pe_callB call_isi (by rfl) T.z_isinstance (by decide +kernel) (pa_cons (pv 0) (pa_cons (pe_bltn (v := .ty "tuple") (by rfl) T.z_tuple (by decide +kernel) rfl) pa_nil))))) (pw_or (pt_cmpR op_gt (pe_callB call_len_seq (by rfl) T.z_len PySem.boot_len (pa_cons (pv 0) pa_nil)) (pe_gc rfl T.k_MOST_STATEMENTS) (nomark _)) (pw_or1 (pt_cmpR op_gt (pv 2) (pe_gc rfl T.k_MOST_DEEP) (nomark _)))))) (pss_one (ps_ret pe_bl)) pss_nil)
      (pss_cons (ps_for PassesOwn.never rfl (pi_tup (pv 0)) (pg_name (i := 3) sc_is_block.nd rfl (Or.inl rfl))
      (pss_one (ps_if (pt_not (pt_val (pe_call G_is_statement (hr.mono (by omega)) rfl T.g_is_statement k_is_statement b_is_statement v_is_statement pass0 (pa_cons (pv 3) (pa_cons (pv 1) (pa_cons (pv 2) pa_nil)))))) (pss_one (ps_ret pe_bl)) pss_nil)))
      (pss_one (ps_ret pe_bl)))), ?_⟩
  have hl : vs.length = b.length := by rw [hs.len, eSms_len]
  refine ⟨_, rfl, _, _, _, _, true, rfl, .ty "tuple", .base (.tup hp), kit_ty (by decide +kernel), true, rfl, iteF ?_⟩
  refine ⟨_, rfl, p, _, rfl, .inr (SqT.of hp), _, _, rfl, rfl, _, rfl, kF (by simp; omega) ?_⟩
  refine ⟨_, rfl, _, _, rfl, rfl, _, rfl, kF (by simp; omega) ?_⟩
  refine ⟨_, rfl, p, rfl, ⟨_, SqT.of hp⟩, for_tup (K := K) (a := p) (xs := vs) (fun i σ H' => Same H H' ∧ ∃ u, σ = [some (.ref p), some pl, some (.int d), u]) ⟨.refl H, _, rfl⟩ (fun i σ H' _ q => SqT.of (q.1 _ _ hp)) ?_ ?_⟩
  · rintro i y σ H' hi ⟨S, u, rfl⟩
    obtain ⟨t, ht, hy⟩ := hs.get hi
    rw [eSms_get] at ht
    cases he : b[i]? with
    | none => rw [he] at ht; cases ht
    | some e =>
      rw [he] at ht
      cases ht
      exact ⟨_, rfl, _, rfl, _, rfl, e, y, pl, mr, rfl, At.same (tps_of S) _ _ hy, hpl.same S, wSms_get wf he, fun H2 S2 => ⟨true, rfl, iteF ⟨S.trans S2, _, rfl⟩⟩⟩
  · rintro σ H' ⟨S, u, rfl⟩
    exact k _ S
/-- no block is nine deep -/
theorem ok_is_block0 (T : Tx K mg) (hd : 9 ≤ d) : Ok P w K mg base 3 (He.fAd K ("is_block", none)) ["thing", "place", "depth"] [] (spBlock K nm d) := by
  obtain ⟨fd, F⟩ := T.f_is_block
  refine mkOk F sc_is_block (bind0 F fun _ _ _ _ _ _ us hl => match us, hl with | [_, _, _], _ => rfl) (fun vs H Q E h => ?_) (fun cdv A outer s H vs Q E hr h => ?_)
  · obtain ⟨e, v, pl, mr, rfl, _⟩ := h
    rfl
  obtain ⟨b, v, pl, mr, rfl, hv, hpl, ⟨⟨d8, l12⟩, wf⟩, k⟩ := h
  omega
theorem ok_is_block_at (T : Tx K mg) (N : NmOk nm) : ∀ r d : Nat, d + r = 9 → Ok P w K mg base (3 + 10 * r) (He.fAd K ("is_block", none)) ["thing", "place", "depth"] [] (spBlock K nm d)
  | 0, d, h => ok_is_block0 T (by omega)
  | r + 1, d, h => by
    have OB : Ok P w K mg base (3 + 10 * r) (He.fAd K ("is_block", none)) ["thing", "place", "depth"] [] (spBlock K nm (d + 1)) := ok_is_block_at T N r (d + 1) (by omega)
    have OS := ok_is_simple T N (by omega) OB
    have OT := ok_are_things T OS
    have OR := ok_is_right T (by omega) (OS.mono (Nat.le_succ _)) OT
    have OH := ok_is_short T N (by omega) (OS.mono (by omega)) OR
    have OE := ok_is_test T (k := 3 + 10 * r + 1) (by omega) OS (ds := [V.int 3]) bind_is_test3 3
    have OM := ok_is_statement T N (k := 3 + 10 * r + 8) (by omega) (OH.mono (by omega)) (OE.mono (by omega)) (OB.mono (by omega))
    exact (ok_is_block1 T OM).mono (by omega)
theorem ok_is_block (T : Tx K mg) (N : NmOk nm) : Ok P w K mg base 83 (He.fAd K ("is_block", none)) ["thing", "place", "depth"] [] (spBlock K nm 1) := ok_is_block_at T N 8 1 rfl
end
end K38
end
section
/-! K38J: no classes: copied_classes, are_outlines, bad_part; Program. -/
namespace K38
open PySem PySem.Spec PyProof.Rows L2
theorem pe_never {X : Cx} {e : Expr} : PE X e (fun _ _ _ => False) := ⟨fun _ _ _ _ _ _ h => h.elim⟩
theorem pg_never {X : Cx} {e : Expr} : PG X e (fun _ _ _ _ => False) := ⟨fun _ _ _ _ _ _ _ _ _ h => h.elim⟩
theorem upd_self {H : Hp} {a : Addr} {o : HO} (h : H a = some o) : upd H a o = H := by
  funext b
  unfold upd
  split
  · rename_i e; rw [e, h]
  · rfl
section
variable {P : Program} {w : World} {K : PySem.W.Frag} {mg : Str → Option Value} {base : Heap} {nm : Nm → Str}
def spCopied : Sp := fun vs H Q _ => ∃ c : Addr, vs = [.ref c] ∧ H c = some (.dK []) ∧ ∀ h, H h = none → Q (.ref h) (upd H h (.dK []))
theorem sc_copied_classes : FnScope ["classes"] ["classes"] (defScope s_copied_classes) := ⟨rfl, rfl, rfl, by decide +kernel, rfl, by decide +kernel, by decide +kernel⟩
theorem ok_copied_classes (T : Tx K mg) : Ok P w K mg base 1 (He.fAd K ("copied_classes", none)) ["classes"] [] spCopied := by
  obtain ⟨fd, F⟩ := T.f_copied_classes
  refine mkOk F sc_copied_classes (bind0 F fun _ _ _ _ _ _ us hl => match us, hl with | [_], _ => rfl) (fun vs H Q E h => ?_) (fun cdv A outer s H vs Q E hr h => ?_)
  · obtain ⟨c, rfl, _⟩ := h
    rfl
  obtain ⟨c, rfl, hc, k⟩ := h
  refine ⟨_, pss_one (ps_ret (pe_lock (pe_dc (own := []) rfl sc_copied_classes.nd (pi_items (pv 0)) (blkOk_by (N := ["classes"]) (sc := defScope s_copied_classes) (own := []) (by decide +kernel)) (fun _ _ _ _ _ => pg_never) (fun _ _ _ _ _ => pts_nil) (fun _ _ _ _ _ => pe_never) (fun _ _ _ _ _ => pe_never)))), ?_⟩
  refine ⟨c, _, hc, trivial, fun od => ?_⟩
  refine ⟨_, rfl, c, od, _, rfl, upd_same, fun D hD => ⟨fun i m H' => i = 0 ∧ H' = upd (upd H c (.frz od (.dK []))) D (.dK []), ⟨0, rfl, rfl⟩, ?_⟩⟩
  rintro i m H' ⟨rfl, rfl⟩
  have ne : c ≠ D := ne_of_none upd_same hD
  have hD' : H D = none := by rw [upd_ne ne.symm] at hD; exact hD
  refine .inl ⟨⟨by rw [upd_ne ne, upd_same], Nat.zero_le _⟩, by rw [upd_ne ne, upd_same], ?_⟩
  have e : upd (upd (upd H c (.frz od (.dK []))) D (.dK [])) c (.dK []) = upd H D (.dK []) := by
    funext b
    unfold upd
    by_cases h1 : b = c
    · subst h1; rw [if_pos rfl, if_neg ne, hc]
    · rw [if_neg h1, if_neg h1]
  rw [e]
  exact k D hD'
def spOutlines : Sp := fun vs H Q _ => ∃ c : Addr, vs = [.ref c] ∧ H c = some (.dK []) ∧ Q (.bl true) H
theorem sc_are_outlines : FnScope ["thing", "name", "cls"] ["thing"] (defScope s_are_outlines) := ⟨rfl, rfl, rfl, by decide +kernel, rfl, by decide +kernel, by decide +kernel⟩
theorem ok_are_outlines (T : Tx K mg) : Ok P w K mg base 1 (He.fAd K ("are_outlines", none)) ["thing"] [] spOutlines := by
  obtain ⟨fd, F⟩ := T.f_are_outlines
  refine mkOk F sc_are_outlines (bind0 F fun _ _ _ _ _ _ us hl => match us, hl with | [_], _ => rfl) (fun vs H Q E h => ?_) (fun cdv A outer s H vs Q E hr h => ?_)
  · obtain ⟨c, rfl, _⟩ := h
    rfl
  obtain ⟨c, rfl, hc, k⟩ := h
  refine ⟨_, pss_cons (ps_if (PW.pt (pw_or (pt_not (pt_val (pe_callB call_isi (by rfl) T.z_isinstance (by decide +kernel) (pa_cons (pv 0) (pa_cons (pe_bltn (v := .ty "dict") (by rfl) T.z_dict (by decide +kernel) rfl) pa_nil)))))
      (pw_or1 (pt_cmpR op_gt (pe_callB call_lenD (by rfl) T.z_len PySem.boot_len (pa_cons (pv 0) pa_nil)) (pe_gc rfl T.k_MOST_CLASSES) (nomark _))))) (pss_one (ps_ret pe_bl)) pss_nil)
    (pss_cons (ps_lock (ps_for PassesOwn.never rfl (pi_items (pv 0)) pg_never pss_never))
    (pss_cons (ps_lock (ps_for PassesOwn.never rfl (pi_keys (pv 0)) pg_never pss_never)) (pss_one (ps_ret pe_bl)))), ?_⟩
  refine ⟨_, rfl, _, _, _, _, true, rfl, .ty "dict", .base (.dK hc), kit_ty (by decide +kernel), true, rfl, iteF ?_⟩
  refine ⟨_, rfl, c, _, rfl, hc, _, _, rfl, rfl, _, rfl, kF (by simp) ?_⟩
  refine ⟨c, _, hc, trivial, fun od => ?_⟩
  refine ⟨_, rfl, c, od, _, rfl, upd_same, fun i m σ' H' => i = 0 ∧ σ' = _ ∧ H' = upd H c (.frz od (.dK [])), ⟨0, rfl, rfl, rfl⟩, ?_⟩
  rintro i m σ' H' ⟨rfl, rfl, rfl⟩
  refine .inl ⟨⟨upd_same, Nat.zero_le _⟩, upd_same, ?_⟩
  rw [upd_upd, upd_self hc]
  refine ⟨c, _, hc, trivial, fun od => ?_⟩
  refine ⟨_, rfl, c, od, rfl, .inl ⟨_, upd_same, fun i m σ' H' => i = 0 ∧ σ' = _ ∧ H' = upd H c (.frz od (.dK [])), ⟨0, rfl, rfl, rfl⟩, ?_⟩⟩
  rintro i m σ' H' ⟨rfl, rfl, rfl⟩
  refine .inl ⟨⟨upd_same, Nat.zero_le _⟩, upd_same, ?_⟩
  rw [upd_upd, upd_self hc]
  exact k
def spBadPart (nm : Nm → Str) : Sp := fun vs H Q _ => ∃ (c : Addr) (b : List Sm) (v : V), vs = [.ref c, v] ∧ H c = some (.dK []) ∧ At H (.t (eSms nm b)) v ∧ wBl 1 false b ∧ ∀ H', Same H H' → Q .non H'
theorem sc_bad_part : FnScope ["classes", "body", "names", "name", "method"] ["classes", "body"] (defScope s_bad_part) := ⟨rfl, rfl, rfl, by decide +kernel, rfl, by decide +kernel, by decide +kernel⟩
theorem ok_bad_part (T : Tx K mg) (N : NmOk nm) : Ok P w K mg base 84 (He.fAd K ("bad_part", none)) ["classes", "body"] [] (spBadPart nm) := by
  obtain ⟨fd, F⟩ := T.f_bad_part
  obtain ⟨fd_are_outlines, us_are_outlines, G_are_outlines, b_are_outlines, v_are_outlines, k_are_outlines, _⟩ := ok_are_outlines T
  obtain ⟨fd_Place_init, us_Place_init, G_Place_init, b_Place_init, v_Place_init, k_Place_init, _⟩ := ok_Place_init T
  obtain ⟨fd_is_block, us_is_block, G_is_block, b_is_block, v_is_block, k_is_block, _⟩ := ok_is_block T N
  refine mkOk F sc_bad_part (bind0 F fun _ _ _ _ _ _ us hl => match us, hl with | [_, _], _ => rfl) (fun vs H Q E h => ?_) (fun cdv A outer s H vs Q E hr h => ?_)
  · obtain ⟨c, b, v, rfl, _⟩ := h
    rfl
  obtain ⟨c, b, v, rfl, hc, hv, wf, k⟩ := h
  refine ⟨_, (pss_cons (ps_if (pt_not (pt_val (pe_call G_are_outlines (hr.mono (by decide)) rfl T.g_are_outlines k_are_outlines b_are_outlines v_are_outlines pass0 (pa_cons (pv 0) pa_nil)))) (pss_one (ps_ret pe_str)) pss_nil)
      (pss_cons (ps_set (i := 2) sc_bad_part.nd rfl (Or.inl rfl) (pe_callTy call_tuple_of (by rfl) T.z_tuple (by decide +kernel) (pa_cons (pe_callB (call_sortedD rfl) (by rfl) T.z_sorted (by decide +kernel) (pa_cons (pv 0) pa_nil)) pa_nil)))
      (pss_cons (ps_for PassesOwn.never rfl (pi_tup (pv 2)) (pg_name (i := 3) sc_bad_part.nd rfl (Or.inl rfl))
      pss_never)
      (pss_cons (ps_if (pt_not (pt_val (pe_call G_is_block (hr.mono (by decide)) rfl T.g_is_block k_is_block b_is_block v_is_block pass0 (pa_cons (pv 1) (pa_cons (pe_make T.mk_Place G_Place_init (hr.mono (by decide)) rfl T.g_Place b_Place_init v_Place_init pass0 (pa_cons pe_non (pa_cons pe_bl (pa_cons (pv 2) (pa_cons pe_bl pa_nil))))) (pa_cons pe_int pa_nil)))))) (pss_one (ps_ret pe_str)) pss_nil)
      (pss_one (ps_ret pe_non)))))), ?_⟩
  refine ⟨_, rfl, c, rfl, hc, true, rfl, iteF ?_⟩
  refine ⟨_, rfl, c, [], [], rfl, .inl hc, rfl, by decide, fun ys p hy _ hp => ?_⟩
  cases hy.eq_nil
  have S1 := same_new hp (.lst (([] : List Str).map V.str))
  refine ⟨p, _, rfl, .inl ⟨SqL.of upd_same, fun q hq => ?_⟩⟩
  have S2 := S1.trans (same_new hq (.tup (([] : List Str).map V.str)))
  refine ⟨_, rfl, q, rfl, ⟨_, SqT.of upd_same⟩, for_tup (K := K) (a := q) (xs := ([] : List Str).map V.str) (fun i σ H' => H' = upd (upd H p (.lst (([] : List Str).map V.str))) q (.tup (([] : List Str).map V.str)) ∧ σ = _) ⟨rfl, rfl⟩ (fun i σ H' _ z => by rw [z.1]; exact SqT.of upd_same) ?_ ?_⟩
  · rintro i y σ H' hi _
    cases hi
  rintro σ H' ⟨rfl, rfl⟩
  generalize upd (upd H p (.lst (([] : List Str).map V.str))) q (.tup (([] : List Str).map V.str)) = H2 at S2
  refine ⟨_, rfl, _, rfl, fun x dx nx ndx nex => ?_⟩
  refine ⟨x, dx, _, _, _, _, rfl, upd_same, rfl, ?_⟩
  have S3 := S2.trans (made_new (fs := fsPlace .non (.bl false) (.ref q) (.bl false)) (C := He.ga K "Place") nx ndx)
  refine ⟨b, v, _, false, rfl, At.same (tps_of S3) _ _ hv, ⟨x, dx, _, rfl, upd_same⟩, wf, fun H4 S4 => ⟨true, rfl, iteF ?_⟩⟩
  exact k _ (S3.trans S4)
def spProgramInit (K : PySem.W.Frag) (nm : Nm → Str) : Sp := fun vs H Q _ => ∃ (p dx c : Addr) (b : List Sm) (v : V), vs = [.ref p, .ref c, v] ∧ H p = some (.ins (He.ga K "Program") dx []) ∧ H c = some (.dK []) ∧ At H (.t (eSms nm b)) v ∧ wBl 1 false b ∧
  ∀ H' h, (∀ a o, a ≠ p → H a = some o → H' a = some o) → H' p = some (.ins (He.ga K "Program") dx (fsProgram (.ref h) v)) → H' h = some (.dK []) → Q .non H'
theorem sc_Program_init : FnScope ["self", "classes", "body", "part"] ["self", "classes", "body"] (defScope s_Program_init) := ⟨rfl, rfl, rfl, by decide +kernel, rfl, by decide +kernel, by decide +kernel⟩
theorem ok_Program_init (T : Tx K mg) (N : NmOk nm) : Ok P w K mg base 85 (He.fAd K ("Program", some "__init__")) ["self", "classes", "body"] [] (spProgramInit K nm) := by
  obtain ⟨fd, F⟩ := T.f_Program_init
  obtain ⟨fd_copied_classes, us_copied_classes, G_copied_classes, b_copied_classes, v_copied_classes, k_copied_classes, _⟩ := ok_copied_classes T
  obtain ⟨fd_bad_part, us_bad_part, G_bad_part, b_bad_part, v_bad_part, k_bad_part, _⟩ := ok_bad_part T N
  refine mkOk F sc_Program_init (bind0 F fun _ _ _ _ _ _ us hl => match us, hl with | [_, _, _], _ => rfl) (fun vs H Q E h => ?_) (fun cdv A outer s H vs Q E hr h => ?_)
  · obtain ⟨p, dx, c, b, v, rfl, _⟩ := h
    rfl
  obtain ⟨p, dx, c, b, v, rfl, hp, hc, hv, wf, k⟩ := h
  refine ⟨_, (pss_cons (ps_set (i := 3) sc_Program_init.nd rfl (Or.inl rfl) (pe_call G_bad_part (hr.mono (by decide)) rfl T.g_bad_part k_bad_part b_bad_part v_bad_part pass0 (pa_cons (pv 1) (pa_cons (pv 2) pa_nil))))
      (pss_cons (ps_if (pt_cmpR op_notN (pv 3) pe_non (nomark _)) pss_never pss_nil)
      (pss_cons (ps_fld (pv 0) (pe_call G_copied_classes (hr.mono (by decide)) rfl T.g_copied_classes k_copied_classes b_copied_classes v_copied_classes pass0 (pa_cons (pv 1) pa_nil)) rfl)
      (pss_one (ps_fld (pv 0) (pv 2) rfl))))), ?_⟩
  refine ⟨_, rfl, _, rfl, c, b, v, rfl, hc, hv, wf, fun H1 S1 => ?_⟩
  refine ⟨_, rfl, rfl, _, rfl, iteF ?_⟩
  refine ⟨_, rfl, c, rfl, S1 _ _ hc, fun h nh => ?_⟩
  have S2 := S1.trans (same_new nh (.dK []))
  have e2 : (upd H1 h (.dK [])) h = some (.dK []) := upd_same
  have nhp : h ≠ p := (ne_of_none (S1 _ _ hp) nh).symm
  generalize upd H1 h (.dK []) = H2 at S2 e2
  refine ⟨_, rfl, p, _, dx, _, rfl, S2 _ _ hp, T.cl_Program, T.na_Program_held, (by decide), ?_⟩
  refine ⟨_, rfl, _, rfl, p, _, dx, _, rfl, upd_same, T.cl_Program, T.na_Program_body, Nat.lt_of_le_of_lt (pf_le pf_nil) (by decide), ?_⟩
  rw [upd_upd, fsProgram_init]
  exact k _ h (fun a o ne e => by rw [upd_ne ne]; exact S2 _ _ e) upd_same (by rw [upd_ne nhp]; exact e2)
/-- a program on the heap -/
def ProgAt (K : PySem.W.Frag) (nm : Nm → Str) (H : Hp) (p : Addr) (b : List Sm) : Prop := ∃ (dx h : Addr) (v : V), H p = some (.ins (He.ga K "Program") dx (fsProgram (.ref h) v)) ∧ H h = some (.dK []) ∧ At H (.t (eSms nm b)) v
def spClasses (K : PySem.W.Frag) : Sp := fun vs H Q _ => ∃ (p dx h : Addr) (v : V), vs = [.ref p] ∧ H p = some (.ins (He.ga K "Program") dx (fsProgram (.ref h) v)) ∧ H h = some (.dK []) ∧ ∀ c, H c = none → Q (.ref c) (upd H c (.dK []))
theorem sc_Program_classes : FnScope ["self"] ["self"] (defScope s_Program_classes) := ⟨rfl, rfl, rfl, by decide +kernel, rfl, by decide +kernel, by decide +kernel⟩
theorem ok_Program_classes (T : Tx K mg) : Ok P w K mg base 2 (gAd K) ["self"] [] (spClasses K) := by
  obtain ⟨fd, F⟩ := T.f_Program_classes
  obtain ⟨fd_copied_classes, us_copied_classes, G_copied_classes, b_copied_classes, v_copied_classes, k_copied_classes, _⟩ := ok_copied_classes T
  refine mkOk F sc_Program_classes (bind0 F fun _ _ _ _ _ _ us hl => match us, hl with | [_], _ => rfl) (fun vs H Q E h => ?_) (fun cdv A outer s H vs Q E hr h => ?_)
  · obtain ⟨p, dx, h, v, rfl, _⟩ := h
    rfl
  obtain ⟨p, dx, h, v, rfl, hp, hh, k⟩ := h
  refine ⟨_, (pss_one (ps_ret (pe_call G_copied_classes (hr.mono (by decide)) rfl T.g_copied_classes k_copied_classes b_copied_classes v_copied_classes pass0 (pa_cons (pe_fld (pv 0) rfl) pa_nil)))), ?_⟩
  exact ⟨_, rfl, p, _, dx, _, _, rfl, hp, T.cl_Program, T.na_Program_held, fsProgram_held, h, rfl, hh, k⟩
end
end K38
end
section
/-! K38R: how the abstract machine stands on the heap. -/
namespace K38
open PySem PySem.Spec PyProof.Rows L2

/-- what sort of thing it is -/
def tgF : List (Str × V) → Nat
  | [] => 9
  | (n, _) :: _ => if n = "kind" then 10 else if n = "scope" then 11 else if n = "outer" then 12 else if n = "params" then 13 else if n = "kinds" then 14 else 9
def tg : HO → Nat
  | .lst _ => 1 | .tup _ => 2 | .dK _ => 3 | .ins _ _ fs => tgF fs | .own _ => 4 | _ => 0
theorem tg_part {C dx : Addr} {a b c d e : V} : tg (.ins C dx (fsPart a b c d e)) = 10 := by kernel_rfl
theorem tg_frame {C dx : Addr} {a b c d e : V} : tg (.ins C dx (fsFrame a b c d e)) = 11 := by kernel_rfl
theorem tg_scope {C dx : Addr} {a b : V} : tg (.ins C dx (fsScope a b)) = 12 := by kernel_rfl
theorem tg_fn {C dx : Addr} {a b c d e : V} : tg (.ins C dx (fsFunction a b c d e)) = 13 := by kernel_rfl
theorem tg_mach {C dx : Addr} {a b c d e f : V} : tg (.ins C dx (fsMachine a b c d e f)) = 14 := by kernel_rfl
theorem ne_tg {H : Hp} {a b : Addr} {o u : HO} (h : H a = some o) (h' : H b = some u) (d : tg o ≠ tg u) : a ≠ b := ne_of h h' fun e => d (by rw [e])

structure FA where
  a : Addr
  pl : Addr
  ps : List Addr
def FA.ft (x : FA) : List Addr := x.a :: x.pl :: x.ps
structure RA where
  m : Addr
  stk : Addr
  prt : Addr
  nF : Nat
  fa : Nat → Addr
  nS : Nat
  sa : Nat → Addr
  sd : Nat → Addr
  fr : List FA
def RA.foot (R : RA) : List Addr := R.m :: R.stk :: R.prt :: R.fr.flatMap FA.ft
/-- functions and scopes stay, more may come -/
structure RExt (R R' : RA) : Prop where
  nF : R.nF ≤ R'.nF
  fa : ∀ i, i < R.nF → R'.fa i = R.fa i
  nS : R.nS ≤ R'.nS
  sa : ∀ i, i < R.nS → R'.sa i = R.sa i
  sd : ∀ i, i < R.nS → R'.sd i = R.sd i
theorem RExt.refl (R : RA) : RExt R R := ⟨Nat.le_refl _, fun _ _ => rfl, Nat.le_refl _, fun _ _ => rfl, fun _ _ => rfl⟩
theorem RExt.of {R R' : RA} (h1 : R'.nF = R.nF) (h2 : R'.fa = R.fa) (h3 : R'.nS = R.nS) (h4 : R'.sa = R.sa) (h5 : R'.sd = R.sd) : RExt R R' :=
  ⟨by omega, fun _ _ => by rw [h2], by omega, fun _ _ => by rw [h4], fun _ _ => by rw [h5]⟩
theorem RExt.trans {R R1 R2 : RA} (a : RExt R R1) (b : RExt R1 R2) : RExt R R2 :=
  ⟨Nat.le_trans a.nF b.nF, fun i hi => (b.fa i (Nat.lt_of_lt_of_le hi a.nF)).trans (a.fa i hi), Nat.le_trans a.nS b.nS, fun i hi => (b.sa i (Nat.lt_of_lt_of_le hi a.nS)).trans (a.sa i hi), fun i hi => (b.sd i (Nat.lt_of_lt_of_le hi a.nS)).trans (a.sd i hi)⟩

def VlAt (R : RA) : Vl → V → Prop
  | .non, u => u = .non
  | .word x, u => u = .str x
  | .fn i, u => i < R.nF ∧ u = .ref (R.fa i)
theorem VlAt.ext {R R' : RA} (e : RExt R R') : ∀ {v : Vl} {u : V}, VlAt R v u → VlAt R' v u
  | .non, _, h => h
  | .word _, _, h => h
  | .fn i, _, ⟨h, q⟩ => ⟨Nat.lt_of_lt_of_le h e.nF, by rw [q, e.fa i h]⟩
def OutAt (R : RA) : Option Nat → V → Prop
  | none, u => u = .non
  | some j, u => j < R.nS ∧ u = .ref (R.sa j)
theorem OutAt.ext {R R' : RA} (e : RExt R R') : ∀ {v : Option Nat} {u : V}, OutAt R v u → OutAt R' v u
  | none, _, h => h
  | some i, _, ⟨h, q⟩ => ⟨Nat.lt_of_lt_of_le h e.nS, by rw [q, e.sa i h]⟩
def HeldV (R : RA) : Option Vl → Option V → Prop
  | none, u => u = none
  | some v, u => ∃ w, u = some w ∧ VlAt R v w
theorem HeldV.ext {R R' : RA} (e : RExt R R') : ∀ {v : Option Vl} {u : Option V}, HeldV R v u → HeldV R' v u
  | none, _, h => h
  | some v, _, ⟨w, q, h⟩ => ⟨w, q, h.ext e⟩
section
variable (K : PySem.W.Frag) (nm : Nm → Str) (R : RA) (H : Hp)
structure HeldAt (kvs : List (Key × V)) (h : Nm → Option Vl) : Prop where
  nd : (kvs.map (·.1)).Nodup
  ks : ∀ k ∈ kvs.map (·.1), ∃ x, k = .inr (nm x)
  vs : ∀ x, HeldV R (h x) (valV kvs (.inr (nm x)))
def FnAt (i : Nat) (f : Fn) : Prop := f.sc < R.nS ∧ ∃ (dx p : Addr) (vb : V), H (R.fa i) = some (.ins (He.ga K "Function") dx (fsFunction (.ref p) vb (.ref (R.sa f.sc)) .non .non)) ∧
  H p = some (.tup (f.ps.map fun x => .str (nm x))) ∧ At H (.t (eSms nm f.body)) vb ∧ f.ps.length ≤ 3
def ScAt (i : Nat) (s : Sc) : Prop := ∃ (dx : Addr) (ov : V) (kvs : List (Key × V)), H (R.sa i) = some (.ins (He.ga K "Scope") dx (fsScope ov (.ref (R.sd i)))) ∧ OutAt R s.outer ov ∧ H (R.sd i) = some (.dK kvs) ∧ HeldAt nm R kvs s.held
def OcAt : Oc → V → Prop
  | .on, v => ∃ p, v = .ref p ∧ H p = some (.tup [.str "on"])
  | .val u, v => ∃ p w, v = .ref p ∧ H p = some (.tup [.str "value", w]) ∧ VlAt R u w
  | .ret u, v => ∃ p w, v = .ref p ∧ H p = some (.tup [.str "return", w]) ∧ VlAt R u w
  | .rs u, v => ∃ p w, v = .ref p ∧ H p = some (.tup [.str "raise", w]) ∧ VlAt R u w
def PkAt (rows : List Sm) : Pk → Str → V → V → Prop
  | .plain, k, _, _ => k = "plain"
  | .tr x b, k, s, _ => k = "try" ∧ At H (eSm nm (.tr rows x b)) s
  | .la b, k, s, _ => k = "last" ∧ At H (eSm nm (.la rows b)) s
  | .thn oc, k, _, o => k = "then" ∧ OcAt R H oc o
def PtAt (a : Addr) (p : Pt) : Prop := ∃ (dx : Addr) (kd : Str) (rv sv ov : V), H a = some (.ins (He.ga K "Part") dx (fsPart (.str kd) rv (.int p.place) sv ov)) ∧ At H (.t (eSms nm p.rows)) rv ∧ PkAt nm R H p.rows p.k kd sv ov
def PendAt : Option Sm → V → Prop
  | none, v => v = .non
  | some st, v => At H (eSm nm st) v
def FrAt (x : FA) (f : Fr) : Prop := f.sc < R.nS ∧ ∃ (dx : Addr) (pv : V), H x.a = some (.ins (He.ga K "Frame") dx (fsFrame (.ref (R.sa f.sc)) .non .non (.ref x.pl) pv)) ∧ PendAt nm H f.pend pv ∧
  H x.pl = some (.lst (x.ps.reverse.map V.ref)) ∧ Paired (PtAt K nm R H) x.ps f.parts
def EndAt : Option Nd → V → Prop
  | none, v => v = .non
  | some .done, v => ∃ p, v = .ref p ∧ H p = some (.tup [.str "done"])
  | some (.raised t), v => ∃ p, v = .ref p ∧ H p = some (.tup [.str "raised", .str t])
def MachAt (s : MS) : Prop := ∃ (dx : Addr) (kv gv ev : V), H R.m = some (.ins (He.ga K "Machine") dx (fsMachine kv gv (.ref R.stk) (.ref R.prt) ev (.int s.deep))) ∧ EndAt H s.fin ev
structure Rep (H0 : Hp) (s : MS) : Prop where
  nF : R.nF = s.mem.nF
  nS : R.nS = s.mem.nS
  base : Same H0 H
  new : ∀ a ∈ R.foot, H0 a = none
  newD : ∀ i, i < R.nS → H0 (R.sd i) = none
  nd : R.foot.Nodup
  inj : ∀ i j, i < R.nS → j < R.nS → R.sd i = R.sd j → i = j
  mach : MachAt K R H s
  stk : H R.stk = some (.lst (R.fr.reverse.map fun x => V.ref x.a))
  prt : H R.prt = some (.lst (s.printed.map V.str))
  fns : ∀ i, i < R.nF → FnAt K nm R H i (s.mem.fns i)
  scs : ∀ i, i < R.nS → ScAt K nm R H i (s.mem.scs i)
  frs : Paired (FrAt K nm R H) R.fr s.frs
end
section
variable {K : PySem.W.Frag} {nm : Nm → Str} {R R' : RA} {H H' H0 : Hp} {s : MS}
theorem HeldAt.ext {kvs : List (Key × V)} {h : Nm → Option Vl} (e : RExt R R') (q : HeldAt nm R kvs h) : HeldAt nm R' kvs h := ⟨q.nd, q.ks, fun x => (q.vs x).ext e⟩
theorem OcAt.ext (e : RExt R R') (t : Tps H H') : ∀ {o : Oc} {v : V}, OcAt R H o v → OcAt R' H' o v
  | .on, _, ⟨p, h, q⟩ => ⟨p, h, t _ _ q⟩
  | .val _, _, ⟨p, w, h, q, r⟩ => ⟨p, w, h, t _ _ q, r.ext e⟩
  | .ret _, _, ⟨p, w, h, q, r⟩ => ⟨p, w, h, t _ _ q, r.ext e⟩
  | .rs _, _, ⟨p, w, h, q, r⟩ => ⟨p, w, h, t _ _ q, r.ext e⟩
theorem PkAt.ext (e : RExt R R') (t : Tps H H') {rows : List Sm} : ∀ {k : Pk} {kd : Str} {sv ov : V}, PkAt nm R H rows k kd sv ov → PkAt nm R' H' rows k kd sv ov
  | .plain, _, _, _, h => h
  | .tr _ _, _, _, _, ⟨h, q⟩ => ⟨h, At.same t _ _ q⟩
  | .la _, _, _, _, ⟨h, q⟩ => ⟨h, At.same t _ _ q⟩
  | .thn _, _, _, _, ⟨h, q⟩ => ⟨h, q.ext e t⟩
theorem PtAt.ext (e : RExt R R') (t : Tps H H') {a : Addr} {p : Pt} (ha : ∀ o, H a = some o → H' a = some o) : PtAt K nm R H a p → PtAt K nm R' H' a p
  | ⟨dx, kd, rv, sv, ov, h1, h2, h3⟩ => ⟨dx, kd, rv, sv, ov, ha _ h1, At.same t _ _ h2, h3.ext e t⟩
theorem PendAt.ext (t : Tps H H') : ∀ {p : Option Sm} {v : V}, PendAt nm H p v → PendAt nm H' p v
  | none, _, h => h
  | some _, _, h => At.same t _ _ h
theorem paired_ext {α β : Type} {F G : α → β → Prop} : ∀ {l : List α} {r : List β}, Paired F l r → (∀ a ∈ l, ∀ b, F a b → G a b) → Paired G l r
  | _, _, .nil, _ => .nil
  | _, _, .cons h t, f => .cons (f _ List.mem_cons_self _ h) (paired_ext t fun a ha b => f a (List.mem_cons_of_mem _ ha) b)
theorem FrAt.ext (e : RExt R R') (t : Tps H H') {x : FA} {f : Fr} (ha : ∀ a ∈ x.ft, ∀ o, H a = some o → H' a = some o) : FrAt K nm R H x f → FrAt K nm R' H' x f
  | ⟨h0, dx, pv, h1, h2, h3, h4⟩ => ⟨Nat.lt_of_lt_of_le h0 e.nS, dx, pv, by rw [e.sa _ h0]; exact ha _ List.mem_cons_self _ h1, h2.ext t, ha _ (List.mem_cons_of_mem _ List.mem_cons_self) _ h3,
      paired_ext h4 fun a hm b q => q.ext e t (ha a (List.mem_cons_of_mem _ (List.mem_cons_of_mem _ hm)))⟩
theorem FnAt.ext (e : RExt R R') (t : Tps H H') {i : Nat} {f : Fn} (hi : i < R.nF) (ha : ∀ o, H (R.fa i) = some o → H' (R.fa i) = some o) : FnAt K nm R H i f → FnAt K nm R' H' i f
  | ⟨h0, dx, p, vb, h1, h2, h3⟩ => ⟨Nat.lt_of_lt_of_le h0 e.nS, dx, p, vb, by rw [e.fa i hi, e.sa _ h0]; exact ha _ h1, t _ _ h2, At.same t _ _ h3.1, h3.2⟩
theorem ScAt.ext (e : RExt R R') {i : Nat} {f : Sc} (hi : i < R.nS) (ha : ∀ o, H (R.sa i) = some o → H' (R.sa i) = some o) (hd : ∀ o, H (R.sd i) = some o → H' (R.sd i) = some o) : ScAt K nm R H i f → ScAt K nm R' H' i f
  | ⟨dx, ov, kvs, h1, h2, h3, h4⟩ => ⟨dx, ov, kvs, by rw [e.sa i hi, e.sd i hi]; exact ha _ h1, h2.ext e, by rw [e.sd i hi]; exact hd _ h3, h4.ext e⟩
theorem EndAt.ext (t : Tps H H') : ∀ {p : Option Nd} {v : V}, EndAt H p v → EndAt H' p v
  | none, _, h => h
  | some .done, _, ⟨p, h, q⟩ => ⟨p, h, t _ _ q⟩
  | some (.raised _), _, ⟨p, h, q⟩ => ⟨p, h, t _ _ q⟩
/-- all that stood stands -/
theorem Rep.same (r : Rep K nm R H H0 s) (S : Same H H') : Rep K nm R H' H0 s := by
  have t := tps_of S
  have e := RExt.refl R
  obtain ⟨dx, kv, gv, ev, h1, h2⟩ := r.mach
  exact ⟨r.nF, r.nS, r.base.trans S, r.new, r.newD, r.nd, r.inj, ⟨dx, kv, gv, ev, S _ _ h1, h2.ext t⟩, S _ _ r.stk, S _ _ r.prt, fun i hi => (r.fns i hi).ext e t hi fun o => S _ o,
    fun i hi => (r.scs i hi).ext e hi (fun o => S _ o) fun o => S _ o, paired_ext r.frs fun a _ b q => q.ext e t fun c _ o => S c o⟩
theorem Rep.at_fr (r : Rep K nm R H H0 s) {a : Addr} (h : a ∈ R.foot) : ∃ o, H a = some o := by
  unfold RA.foot at h
  rcases List.mem_cons.mp h with rfl | h
  · obtain ⟨dx, kv, gv, ev, h1, _⟩ := r.mach; exact ⟨_, h1⟩
  rcases List.mem_cons.mp h with rfl | h
  · exact ⟨_, r.stk⟩
  rcases List.mem_cons.mp h with rfl | h
  · exact ⟨_, r.prt⟩
  obtain ⟨x, hx, ha⟩ := List.mem_flatMap.mp h
  have go : ∀ {l : List FA} {fs : List Fr}, Paired (FrAt K nm R H) l fs → x ∈ l → ∃ f, FrAt K nm R H x f := by
    intro l fs p
    induction p with
    | nil => intro h; cases h
    | cons q _ ih =>
      intro h
      rcases List.mem_cons.mp h with rfl | h
      · exact ⟨_, q⟩
      · exact ih h
  obtain ⟨f, _, dx, pv, h1, _, h3, h4⟩ := go r.frs hx
  unfold FA.ft at ha
  rcases List.mem_cons.mp ha with rfl | ha
  · exact ⟨_, h1⟩
  rcases List.mem_cons.mp ha with rfl | ha
  · exact ⟨_, h3⟩
  have go2 : ∀ {l : List Addr} {fs : List Pt}, Paired (PtAt K nm R H) l fs → a ∈ l → ∃ o, H a = some o := by
    intro l fs p
    induction p with
    | nil => intro h; cases h
    | cons q _ ih =>
      intro h
      rcases List.mem_cons.mp h with rfl | h
      · obtain ⟨_, _, _, _, _, q, _⟩ := q
        exact ⟨_, q⟩
      · exact ih h
  exact go2 h4 ha
theorem Rep.fresh (r : Rep K nm R H H0 s) {p : Addr} (h : H p = none) : p ∉ R.foot := fun hm => by
  obtain ⟨o, e⟩ := r.at_fr hm
  rw [h] at e; cases e
end
end K38
end
section
/-! K38S: one thing of the machine is changed. -/
namespace K38
open PySem PySem.Spec PyProof.Rows L2
section
variable {K : PySem.W.Frag} {nm : Nm → Str} {R R' : RA} {H H' H0 : Hp} {s : MS} {q : Addr} {oq o' : HO}
theorem off_tps (hq : H q = some oq) (ht : tg oq ≠ 2) : Tps H (upd H q o') := fun a vs h => by
  rw [upd_ne (ne_of h hq fun e => ht (by rw [← e]; rfl))]
  exact h
theorem off_at {a : Addr} (h : a ≠ q) : ∀ o, H a = some o → (upd H q o') a = some o := fun o e => by rw [upd_ne h]; exact e
theorem Rep.offFns (r : Rep K nm R H H0 s) (hq : H q = some oq) (ht : tg oq ≠ 2) (hf : tg oq ≠ 13) : ∀ i, i < R.nF → FnAt K nm R (upd H q o') i (s.mem.fns i) := fun i hi => by
  refine (r.fns i hi).ext (.refl R) (off_tps hq ht) hi (off_at ?_)
  obtain ⟨_, dx, p, vb, h1, _⟩ := r.fns i hi
  exact ne_tg h1 hq (by rw [tg_fn]; exact fun e => hf e.symm)
theorem Rep.offSc (r : Rep K nm R H H0 s) (hq : H q = some oq) (hs : tg oq ≠ 12) {i : Nat} (hi : i < R.nS) (hd : R.sd i ≠ q) : ScAt K nm R (upd H q o') i (s.mem.scs i) := by
  refine (r.scs i hi).ext (.refl R) hi (off_at ?_) (off_at hd)
  obtain ⟨dx, ov, kvs, h1, _⟩ := r.scs i hi
  exact ne_tg h1 hq (by rw [tg_scope]; exact fun e => hs e.symm)
theorem Rep.offScs (r : Rep K nm R H H0 s) (hq : H q = some oq) (hs : tg oq ≠ 12) (hd : tg oq ≠ 3) : ∀ i, i < R.nS → ScAt K nm R (upd H q o') i (s.mem.scs i) := fun i hi => by
  refine r.offSc hq hs hi ?_
  obtain ⟨dx, ov, kvs, _, _, h3, _⟩ := r.scs i hi
  exact ne_of h3 hq fun e => hd (by rw [← e]; rfl)
theorem offFr (hq : H q = some oq) (ht : tg oq ≠ 2) {x : FA} {f : Fr} (hn : q ∉ x.ft) (h : FrAt K nm R H x f) : FrAt K nm R (upd H q o') x f :=
  h.ext (.refl R) (off_tps hq ht) fun a ha => off_at fun e => hn (by rw [← e]; exact ha)
theorem offFrs (hq : H q = some oq) (ht : tg oq ≠ 2) {l : List FA} {fs : List Fr} (hn : ∀ x ∈ l, q ∉ x.ft) (h : Paired (FrAt K nm R H) l fs) : Paired (FrAt K nm R (upd H q o')) l fs :=
  paired_ext h fun x hx f z => offFr hq ht (hn x hx) z
theorem offMach (hq : H q = some oq) (ht : tg oq ≠ 2) (hm : R.m ≠ q) (h : MachAt K R H s) : MachAt K R (upd H q o') s := by
  obtain ⟨dx, kv, gv, ev, h1, h2⟩ := h
  exact ⟨dx, kv, gv, ev, off_at hm _ h1, h2.ext (off_tps hq ht)⟩
theorem off_base (r : Rep K nm R H H0 s) (h0 : H0 q = none) : Same H0 (upd H q o') := fun b o e => by
  rw [upd_ne fun z => by rw [z, h0] at e; cases e]
  exact r.base _ _ e
theorem foot_no (r : Rep K nm R H H0 s) (h : q ∉ R.foot) : R.m ≠ q ∧ R.stk ≠ q ∧ R.prt ≠ q ∧ ∀ x ∈ R.fr, q ∉ x.ft := by
  unfold RA.foot at h
  simp only [List.mem_cons, List.mem_flatMap, not_or, not_exists, not_and] at h
  exact ⟨fun e => h.1 e.symm, fun e => h.2.1 e.symm, fun e => h.2.2.1 e.symm, h.2.2.2⟩
/-- a list of one's own -/
theorem Rep.tmp (r : Rep K nm R H H0 s) {xs ys : List V} (hq : H q = some (.lst xs)) (hn : q ∉ R.foot) (h0 : H0 q = none) : Rep K nm R (upd H q (.lst ys)) H0 s := by
  obtain ⟨n1, n2, n3, n4⟩ := foot_no r hn
  exact ⟨r.nF, r.nS, off_base r h0, r.new, r.newD, r.nd, r.inj, offMach hq (by simp [tg]) n1 r.mach, off_at n2 _ r.stk, off_at n3 _ r.prt, r.offFns hq (by simp [tg]) (by simp [tg]), r.offScs hq (by simp [tg]) (by simp [tg]), offFrs hq (by simp [tg]) n4 r.frs⟩
/-- a dict of one's own -/
theorem Rep.tmpD (r : Rep K nm R H H0 s) {xs ys : List (Key × V)} (hq : H q = some (.dK xs)) (hn : ∀ i, i < R.nS → R.sd i ≠ q) (h0 : H0 q = none) : Rep K nm R (upd H q (.dK ys)) H0 s := by
  have hf : q ∉ R.foot := fun hm => by
    have tgs : ∀ o, H q = some o → tg o = 3 := fun o e => by rw [hq] at e; cases e; rfl
    unfold RA.foot at hm
    rcases List.mem_cons.mp hm with rfl | hm
    · obtain ⟨dx, kv, gv, ev, h1, _⟩ := r.mach
      exact absurd (tgs _ h1) (by rw [tg_mach]; decide)
    rcases List.mem_cons.mp hm with rfl | hm
    · exact absurd (tgs _ r.stk) (by simp [tg])
    rcases List.mem_cons.mp hm with rfl | hm
    · exact absurd (tgs _ r.prt) (by simp [tg])
    obtain ⟨x, hx, ha⟩ := List.mem_flatMap.mp hm
    have go : ∀ {l : List FA} {fs : List Fr}, Paired (FrAt K nm R H) l fs → x ∈ l → ∃ f, FrAt K nm R H x f := by
      intro l fs p
      induction p with
      | nil => intro h; cases h
      | cons z _ ih =>
        intro h
        rcases List.mem_cons.mp h with rfl | h
        · exact ⟨_, z⟩
        · exact ih h
    obtain ⟨f, _, dx, pv, h1, _, h3, h4⟩ := go r.frs hx
    unfold FA.ft at ha
    rcases List.mem_cons.mp ha with rfl | ha
    · exact absurd (tgs _ h1) (by rw [tg_frame]; decide)
    rcases List.mem_cons.mp ha with rfl | ha
    · exact absurd (tgs _ h3) (by simp [tg])
    have go2 : ∀ {l : List Addr} {fs : List Pt}, Paired (PtAt K nm R H) l fs → q ∈ l → ∃ p, PtAt K nm R H q p := by
      intro l fs p
      induction p with
      | nil => intro h; cases h
      | cons z _ ih =>
        intro h
        rcases List.mem_cons.mp h with rfl | h
        · exact ⟨_, z⟩
        · exact ih h
    obtain ⟨p, dx, kd, rv, sv, ov, h5, _⟩ := go2 h4 ha
    exact absurd (tgs _ h5) (by rw [tg_part]; decide)
  obtain ⟨n1, n2, n3, n4⟩ := foot_no r hf
  exact ⟨r.nF, r.nS, off_base r h0, r.new, r.newD, r.nd, r.inj, offMach hq (by simp [tg]) n1 r.mach, off_at n2 _ r.stk, off_at n3 _ r.prt, r.offFns hq (by simp [tg]) (by simp [tg]), fun i hi => r.offSc hq (by simp [tg]) hi (hn i hi), offFrs hq (by simp [tg]) n4 r.frs⟩
/-- no frame, part, list is a scope's dict -/
theorem Rep.sdFoot (r : Rep K nm R H H0 s) {i : Nat} (hi : i < R.nS) : R.sd i ∉ R.foot := fun hm => by
  obtain ⟨dx, ov, kvs, _, _, h3, _⟩ := r.scs i hi
  -- as above, by tags
  have tgs : ∀ o, H (R.sd i) = some o → tg o = 3 := fun o e => by rw [h3] at e; cases e; rfl
  unfold RA.foot at hm
  rcases List.mem_cons.mp hm with e | hm
  · obtain ⟨dx, kv, gv, ev, h1, _⟩ := r.mach
    exact absurd (tgs _ (by rw [e]; exact h1)) (by rw [tg_mach]; decide)
  rcases List.mem_cons.mp hm with e | hm
  · exact absurd (tgs _ (by rw [e]; exact r.stk)) (by simp [tg])
  rcases List.mem_cons.mp hm with e | hm
  · exact absurd (tgs _ (by rw [e]; exact r.prt)) (by simp [tg])
  obtain ⟨x, hx, ha⟩ := List.mem_flatMap.mp hm
  have go : ∀ {l : List FA} {fs : List Fr}, Paired (FrAt K nm R H) l fs → x ∈ l → ∃ f, FrAt K nm R H x f := by
    intro l fs p
    induction p with
    | nil => intro h; cases h
    | cons z _ ih =>
      intro h
      rcases List.mem_cons.mp h with rfl | h
      · exact ⟨_, z⟩
      · exact ih h
  obtain ⟨f, _, dx, pv, h1, _, h3', h4⟩ := go r.frs hx
  unfold FA.ft at ha
  rcases List.mem_cons.mp ha with e | ha
  · exact absurd (tgs _ (by rw [e]; exact h1)) (by rw [tg_frame]; decide)
  rcases List.mem_cons.mp ha with e | ha
  · exact absurd (tgs _ (by rw [e]; exact h3')) (by simp [tg])
  have go2 : ∀ {l : List Addr} {fs : List Pt}, Paired (PtAt K nm R H) l fs → R.sd i ∈ l → ∃ p, PtAt K nm R H (R.sd i) p := by
    intro l fs p
    induction p with
    | nil => intro h; cases h
    | cons z _ ih =>
      intro h
      rcases List.mem_cons.mp h with e | h
      · rw [e]; exact ⟨_, z⟩
      · exact ih h
  obtain ⟨p, dx, kd, rv, sv, ov, h5, _⟩ := go2 h4 ha
  exact absurd (tgs _ h5) (by rw [tg_part]; decide)
theorem keys_len {α : Type} [DecidableEq α] {l : List α} {m : List α} (nd : l.Nodup) (h : ∀ k ∈ l, k ∈ m) : l.length ≤ m.length := by
  induction l generalizing m with
  | nil => exact Nat.zero_le _
  | cons a l ih =>
    obtain ⟨n1, n2⟩ := List.nodup_cons.mp nd
    have hm := h a List.mem_cons_self
    have q := ih (m := m.erase a) n2 fun k hk => (List.mem_erase_of_ne (fun e => n1 (by rw [← e]; exact hk))).mpr (h k (List.mem_cons_of_mem _ hk))
    rw [List.length_erase_of_mem hm] at q
    have : 0 < m.length := List.length_pos_of_mem hm
    rw [List.length_cons]
    omega
theorem HeldAt.len {kvs : List (Key × V)} {h : Nm → Option Vl} (q : HeldAt nm R kvs h) : kvs.length ≤ 12 := by
  have z := keys_len (m := (List.finRange 12).map fun x => (.inr (nm x) : Key)) q.nd fun k hk => by
    obtain ⟨x, rfl⟩ := q.ks k hk
    exact List.mem_map.mpr ⟨x, List.mem_finRange x, rfl⟩
  rw [List.length_map, List.length_map, List.length_finRange] at z
  exact z
theorem putK_keys {kvs : List (Key × V)} {k : Key} {v : V} : (putK kvs k v).map (·.1) = if (valV kvs k).isSome then kvs.map (·.1) else kvs.map (·.1) ++ [k] := by
  cases e : valV kvs k with
  | none => rw [putK_new v e]; simp
  | some u =>
    have e2 : (kvs.any fun kv => decide (kv.1 = k)) = true := by rw [valV_any, e]; rfl
    unfold putK
    rw [e2]
    simp only [if_true, Option.isSome_some, List.map_map]
    congr 1
    funext kv
    show (if kv.1 = k then (kv.1, v) else kv).1 = kv.1
    split <;> rfl
theorem valV_none_mem {kvs : List (Key × V)} {k : Key} (h : valV kvs k = none) : k ∉ kvs.map (·.1) := fun hm => by
  obtain ⟨kv, hk, e⟩ := List.mem_map.mp hm
  have e2 : (kvs.any fun kv => decide (kv.1 = k)) = true := List.any_eq_true.mpr ⟨kv, hk, decide_eq_true e⟩
  rw [valV_any, h] at e2
  cases e2
theorem HeldAt.put (N : NmOk nm) {kvs : List (Key × V)} {h : Nm → Option Vl} (q : HeldAt nm R kvs h) {x : Nm} {v : Vl} {u : V} (hu : VlAt R v u) : HeldAt nm R (putK kvs (.inr (nm x)) u) (setH h x v) := by
  refine ⟨?_, fun k hk => ?_, fun y => ?_⟩
  · rw [putK_keys]
    split
    · exact q.nd
    · rename_i hn
      refine List.nodup_append.mpr ⟨q.nd, by simp, fun a ha b hb e => ?_⟩
      have hb' : b = .inr (nm x) := by simpa using hb
      have : valV kvs (.inr (nm x)) = none := by simpa using hn
      exact valV_none_mem this (by rw [← hb', ← e]; exact ha)
  · rw [putK_keys] at hk
    split at hk
    · exact q.ks k hk
    · rcases List.mem_append.mp hk with hk | hk
      · exact q.ks k hk
      · exact ⟨x, by simpa using hk⟩
  · rw [valV_put]
    by_cases e : y = x
    · subst e
      rw [if_pos rfl]
      simp only [setH, if_true]
      exact ⟨u, rfl, hu⟩
    · rw [if_neg fun z => e (N.inj _ _ (Sum.inr.inj z))]
      simp only [setH, e, if_false]
      exact q.vs y
/-- a name gets a value -/
theorem Rep.put (r : Rep K nm R H H0 s) (N : NmOk nm) {i : Nat} (hi : i < R.nS) {x : Nm} {v : Vl} {u : V} (hu : VlAt R v u) {kvs : List (Key × V)} (hk : H (R.sd i) = some (.dK kvs)) :
    Rep K nm R (upd H (R.sd i) (.dK (putK kvs (.inr (nm x)) u))) H0 { s with mem := K38.put s.mem i x v } := by
  obtain ⟨n1, n2, n3, n4⟩ := foot_no r (r.sdFoot hi)
  refine ⟨r.nF, r.nS, off_base r (r.newD i hi), r.new, r.newD, r.nd, r.inj, offMach hk (by simp [tg]) n1 r.mach, off_at n2 _ r.stk, off_at n3 _ r.prt, r.offFns hk (by simp [tg]) (by simp [tg]), fun j hj => ?_, offFrs hk (by simp [tg]) n4 r.frs⟩
  by_cases e : j = i
  · subst e
    obtain ⟨dx, ov, kvs', h1, h2, h3, h4⟩ := r.scs j hj
    rw [hk] at h3
    cases h3
    refine ⟨dx, ov, _, off_at (ne_tg h1 hk (by rw [tg_scope]; simp [tg])) _ h1, ?_, upd_same, ?_⟩
    · show OutAt R ((K38.put s.mem j x v).scs j).outer ov
      rw [put_own]; exact h2
    · show HeldAt nm R _ ((K38.put s.mem j x v).scs j).held
      rw [put_own]; exact h4.put N hu
  · have z := r.offSc (o' := .dK (putK kvs (.inr (nm x)) u)) hk (by simp [tg]) hj fun w => e (r.inj j i hj hi w)
    have e2 : (K38.put s.mem i x v).scs j = s.mem.scs j := by simp [K38.put, e]
    show ScAt K nm R _ j ((K38.put s.mem i x v).scs j)
    rw [e2]; exact z

theorem nd_top {x : FA} {l : List FA} (nd : R.foot.Nodup) (h : R.fr = x :: l) (hq : q ∈ x.ft) : R.m ≠ q ∧ R.stk ≠ q ∧ R.prt ≠ q ∧ (∀ y ∈ l, q ∉ y.ft) ∧ x.ft.Nodup := by
  unfold RA.foot at nd
  rw [h, List.flatMap_cons] at nd
  obtain ⟨a1, nd⟩ := List.nodup_cons.mp nd
  obtain ⟨a2, nd⟩ := List.nodup_cons.mp nd
  obtain ⟨a3, nd⟩ := List.nodup_cons.mp nd
  obtain ⟨b1, b2, b3⟩ := List.nodup_append.mp nd
  refine ⟨fun e => a1 ?_, fun e => a2 ?_, fun e => a3 ?_, fun y hy hm => ?_, b1⟩
  · rw [e]; exact List.mem_cons_of_mem _ (List.mem_cons_of_mem _ (List.mem_append_left _ hq))
  · rw [e]; exact List.mem_cons_of_mem _ (List.mem_append_left _ hq)
  · rw [e]; exact List.mem_append_left _ hq
  · exact b3 q hq q (List.mem_flatMap.mpr ⟨y, hy, hm⟩) rfl
/-- the top frame changes at q, all else stays -/
theorem Rep.top (r : Rep K nm R H H0 s) {x x' : FA} {l : List FA} {f f' : Fr} {fs : List Fr} (hR : R.fr = x :: l) (hs : s.frs = f :: fs) (hq : H q = some oq) (hm : q ∈ x.ft) (t2 : tg oq ≠ 2) (t3 : tg oq ≠ 3) (t12 : tg oq ≠ 12) (t13 : tg oq ≠ 13)
    (hx : x'.a = x.a) (nd : (RA.foot { R with fr := x' :: l }).Nodup) (new : ∀ a ∈ RA.foot { R with fr := x' :: l }, H0 a = none) (top : FrAt K nm R (upd H q o') x' f') : Rep K nm { R with fr := x' :: l } (upd H q o') H0 { s with frs := f' :: fs } := by
  obtain ⟨n1, n2, n3, n4, n5⟩ := nd_top r.nd hR hm
  have e : RExt R { R with fr := x' :: l } := .of rfl rfl rfl rfl rfl
  have t := off_tps (o' := o') hq t2
  have h0 : H0 q = none := r.new q (by
    unfold RA.foot
    rw [hR, List.flatMap_cons]
    exact List.mem_cons_of_mem _ (List.mem_cons_of_mem _ (List.mem_cons_of_mem _ (List.mem_append_left _ hm))))
  have fr := r.frs
  rw [hR, hs] at fr
  cases fr with
  | cons _ rest =>
    refine ⟨r.nF, r.nS, off_base r h0, new, r.newD, nd, r.inj, offMach hq t2 n1 r.mach, ?_, off_at n3 _ r.prt, r.offFns hq t2 t13, fun i hi => (r.offScs hq t12 t3 i hi).ext e hi (fun _ h => h) (fun _ h => h), .cons top (paired_ext (offFrs (o' := o') hq t2 n4 rest) fun y _ g z => z.ext e (Tps.refl _) fun _ _ _ h => h)⟩
    have z := off_at (o' := o') n2 _ r.stk
    rw [hR] at z
    rw [z]
    simp only [List.reverse_cons, List.map_append, List.map_cons, List.map_nil, hx]
theorem Rep.top0 (r : Rep K nm R H H0 s) {x : FA} {l : List FA} {f : Fr} {fs : List Fr} (hR : R.fr = x :: l) (hs : s.frs = f :: fs) : FrAt K nm R H x f := by
  have fr := r.frs
  rw [hR, hs] at fr
  cases fr with
  | cons h _ => exact h
theorem nd_self (r : Rep K nm R H H0 s) {x : FA} {l : List FA} (hR : R.fr = x :: l) : (RA.foot { R with fr := x :: l }).Nodup := by
  have := r.nd
  rw [← hR]; exact this
/-- a statement waits -/
theorem Rep.pend (r : Rep K nm R H H0 s) {x : FA} {l : List FA} {f : Fr} {fs : List Fr} (hR : R.fr = x :: l) (hs : s.frs = f :: fs) {dx : Addr} {a b c d e sv : V} {st : Sm}
    (hq : H x.a = some (.ins (He.ga K "Frame") dx (fsFrame a b c d e))) (hv : At H (eSm nm st) sv) :
    Rep K nm R (upd H x.a (.ins (He.ga K "Frame") dx (fsFrame a b c d sv))) H0 { s with frs := { f with pend := some st } :: fs } := by
  have hm : x.a ∈ x.ft := List.mem_cons_self
  have eR : { R with fr := x :: l } = R := by rw [← hR]
  obtain ⟨n1, n2, n3, n4, n5⟩ := nd_top r.nd hR hm
  have top := r.top0 hR hs
  have z := r.top (o' := .ins (He.ga K "Frame") dx (fsFrame a b c d sv)) (x' := x) (f' := { f with pend := some st }) hR hs hq hm (by rw [tg_frame]; decide) (by rw [tg_frame]; decide) (by rw [tg_frame]; decide) (by rw [tg_frame]; decide) rfl (nd_self r hR) (by rw [eR]; exact r.new) ?_
  · rw [eR] at z; exact z
  · obtain ⟨h0, dx', pv, h1, h2, h3, h4⟩ := top
    rw [hq] at h1
    have e1 := Option.some.inj h1
    injection e1 with e2 e3 e4
    have e5 : a = .ref (R.sa f.sc) ∧ b = .non ∧ c = .non ∧ d = .ref x.pl := by
      unfold fsFrame at e4
      simp only [List.cons.injEq, Prod.mk.injEq, true_and, and_true] at e4
      exact ⟨e4.1, e4.2.1, e4.2.2.1, e4.2.2.2.1⟩
    obtain ⟨rfl, rfl, rfl, rfl⟩ := e5
    have t := off_tps (o' := .ins (He.ga K "Frame") dx (fsFrame (.ref (R.sa f.sc)) .non .non (.ref x.pl) sv)) hq (by rw [tg_frame]; decide)
    obtain ⟨m1, m2⟩ := List.nodup_cons.mp n5
    refine ⟨h0, dx, sv, upd_same, At.same t _ _ hv, off_at (fun e => m1 (by rw [← e]; exact List.mem_cons_self)) _ h3, paired_ext h4 fun y hy p z => z.ext (.refl R) t (off_at fun e => m1 (by rw [← e]; exact List.mem_cons_of_mem _ hy))⟩
end
end K38
end
section
/-! K38U: parts, frames, the lines, the end; functions and scopes that come. -/
namespace K38
open PySem PySem.Spec PyProof.Rows L2
section
variable {K : PySem.W.Frag} {nm : Nm → Str} {R R' : RA} {H H' H1 H0 : Hp} {s : MS} {q : Addr} {oq o' : HO} {x : FA} {l : List FA} {f : Fr} {fs : List Fr}
theorem mem_foot (hR : R.fr = x :: l) (hm : q ∈ x.ft) : q ∈ R.foot := by
  unfold RA.foot
  rw [hR, List.flatMap_cons]
  exact List.mem_cons_of_mem _ (List.mem_cons_of_mem _ (List.mem_cons_of_mem _ (List.mem_append_left _ hm)))
/-- the top part's place -/
theorem Rep.place (r : Rep K nm R H H0 s) (hR : R.fr = x :: l) (hs : s.frs = f :: fs) {a : Addr} {as : List Addr} {p : Pt} {ps : List Pt} (hx : x.ps = a :: as) (hp : f.parts = p :: ps) {dx : Addr} {kd rv sv ov : V} {i : Int}
    (hq : H a = some (.ins (He.ga K "Part") dx (fsPart kd rv (.int i) sv ov))) (n : Nat) :
    Rep K nm R (upd H a (.ins (He.ga K "Part") dx (fsPart kd rv (.int n) sv ov))) H0 { s with frs := { f with parts := { p with place := n } :: ps } :: fs } := by
  have hm : a ∈ x.ft := by unfold FA.ft; rw [hx]; exact List.mem_cons_of_mem _ (List.mem_cons_of_mem _ List.mem_cons_self)
  have eR : { R with fr := x :: l } = R := by rw [← hR]
  obtain ⟨n1, n2, n3, n4, n5⟩ := nd_top r.nd hR hm
  have z := r.top (o' := .ins (He.ga K "Part") dx (fsPart kd rv (.int n) sv ov)) (x' := x) (f' := { f with parts := { p with place := n } :: ps }) hR hs hq hm (by rw [tg_part]; decide) (by rw [tg_part]; decide) (by rw [tg_part]; decide) (by rw [tg_part]; decide) rfl (nd_self r hR) (by rw [eR]; exact r.new) ?_
  · rw [eR] at z; exact z
  · obtain ⟨h0, dx', pv, h1, h2, h3, h4⟩ := r.top0 hR hs
    have t := off_tps (o' := .ins (He.ga K "Part") dx (fsPart kd rv (.int n) sv ov)) hq (by rw [tg_part]; decide)
    have hx2 : x.ft = x.a :: x.pl :: a :: as := by unfold FA.ft; rw [hx]
    rw [hx2] at n5
    obtain ⟨m1, m2⟩ := List.nodup_cons.mp n5
    obtain ⟨m3, m4⟩ := List.nodup_cons.mp m2
    obtain ⟨m5, _⟩ := List.nodup_cons.mp m4
    rw [hx, hp] at h4
    refine ⟨h0, dx', pv, off_at (fun e => m1 (by rw [e]; exact List.mem_cons_of_mem _ List.mem_cons_self)) _ h1, h2.ext t, off_at (fun e => m3 (by rw [e]; exact List.mem_cons_self)) _ h3, ?_⟩
    rw [hx]
    cases h4 with
    | cons q1 q2 =>
      obtain ⟨dx2, kd2, rv2, sv2, ov2, g1, g2, g3⟩ := q1
      rw [hq] at g1
      have e1 := Option.some.inj g1
      injection e1 with e2 e3 e4
      unfold fsPart at e4
      simp only [List.cons.injEq, Prod.mk.injEq, true_and, and_true] at e4
      obtain ⟨e5, e6, e7, e8, e9⟩ := e4
      subst e5 e6 e8 e9
      exact .cons ⟨dx, kd2, rv, sv, ov, upd_same, At.same t _ _ g2, g3.ext (.refl R) t⟩ (paired_ext q2 fun y hy p z => z.ext (.refl R) t (off_at fun e => m5 (by rw [← e]; exact hy)))
theorem nd_push (nd : R.foot.Nodup) (hR : R.fr = x :: l) {p : Addr} (hp : p ∉ R.foot) : (RA.foot { R with fr := { x with ps := p :: x.ps } :: l }).Nodup ∧ ∀ a, a ∈ RA.foot { R with fr := { x with ps := p :: x.ps } :: l } → a ∈ R.foot ∨ a = p := by
  unfold RA.foot at nd hp ⊢
  rw [hR] at nd hp ⊢
  simp only [List.flatMap_cons, FA.ft, List.cons_append] at nd hp ⊢
  simp only [List.nodup_cons, List.mem_cons, not_or] at nd hp ⊢
  obtain ⟨a1, a2, a3, a4, a5, a6⟩ := nd
  obtain ⟨b1, b2, b3, b4, b5, b6⟩ := hp
  refine ⟨⟨⟨a1.1, a1.2.1, a1.2.2.1, a1.2.2.2.1, fun e => b1 e.symm, a1.2.2.2.2⟩, ⟨a2.1, a2.2.1, a2.2.2.1, fun e => b2 e.symm, a2.2.2.2⟩, ⟨a3.1, a3.2.1, fun e => b3 e.symm, a3.2.2⟩, ⟨a4.1, fun e => b4 e.symm, a4.2⟩, ⟨fun e => b5 e.symm, a5⟩, b6, a6⟩, fun a h => ?_⟩
  rcases h with h | h | h | h | h | h | h
  · exact .inl (.inl h)
  · exact .inl (.inr (.inl h))
  · exact .inl (.inr (.inr (.inl h)))
  · exact .inl (.inr (.inr (.inr (.inl h))))
  · exact .inl (.inr (.inr (.inr (.inr (.inl h)))))
  · exact .inr h
  · exact .inl (.inr (.inr (.inr (.inr (.inr h)))))
/-- a part is put on top -/
theorem Rep.push (r : Rep K nm R H H0 s) (hR : R.fr = x :: l) (hs : s.frs = f :: fs) (S : Same H H1) {p : Addr} {pt : Pt} (hn : H p = none) (hp : PtAt K nm R H1 p pt) :
    Rep K nm { R with fr := { x with ps := p :: x.ps } :: l } (upd H1 x.pl (.lst (x.ps.reverse.map V.ref ++ [.ref p]))) H0 { s with frs := { f with parts := pt :: f.parts } :: fs } := by
  have r1 := r.same S
  have pf := r.fresh hn
  have h0 := r.base.free hn
  obtain ⟨d1, d2⟩ := nd_push r.nd hR pf
  obtain ⟨g0, dx', pv, g1, g2, g3, g4⟩ := r1.top0 hR hs
  have hm : x.pl ∈ x.ft := List.mem_cons_of_mem _ List.mem_cons_self
  obtain ⟨n1, n2, n3, n4, n5⟩ := nd_top r.nd hR hm
  obtain ⟨m1, m2⟩ := List.nodup_cons.mp n5
  obtain ⟨m3, m4⟩ := List.nodup_cons.mp m2
  have t := off_tps (o' := .lst (x.ps.reverse.map V.ref ++ [.ref p])) g3 (by simp [tg])
  have e : RExt R { R with fr := { x with ps := p :: x.ps } :: l } := .of rfl rfl rfl rfl rfl
  refine r1.top (x' := { x with ps := p :: x.ps }) (f' := { f with parts := pt :: f.parts }) hR hs g3 hm (by simp [tg]) (by simp [tg]) (by simp [tg]) (by simp [tg]) rfl d1 (fun a ha => ?_) ?_
  · rcases d2 a ha with z | z
    · exact r.new a z
    · rw [z]; exact h0
  · refine ⟨g0, dx', pv, off_at (fun e => m1 (by rw [e]; exact List.mem_cons_self)) _ g1, g2.ext t, ?_, ?_⟩
    · rw [upd_same]
      simp only [List.reverse_cons, List.map_append, List.map_cons, List.map_nil]
    · have np : p ≠ x.pl := fun e => pf (by rw [e]; exact mem_foot hR hm)
      exact .cons (hp.ext (.refl R) t (off_at np)) (paired_ext g4 fun y hy p z => z.ext (.refl R) t (off_at fun e => m3 (by rw [← e]; exact hy)))
theorem nd_pop (nd : R.foot.Nodup) (hR : R.fr = x :: l) {p : Addr} {ps : List Addr} (hp : x.ps = p :: ps) : (RA.foot { R with fr := { x with ps := ps } :: l }).Nodup ∧ (∀ a, a ∈ RA.foot { R with fr := { x with ps := ps } :: l } → a ∈ R.foot) ∧ p ∉ RA.foot { R with fr := { x with ps := ps } :: l } := by
  unfold RA.foot at nd ⊢
  rw [hR] at nd ⊢
  simp only [List.flatMap_cons, FA.ft, List.cons_append, hp] at nd ⊢
  simp only [List.nodup_cons, List.mem_cons, not_or] at nd ⊢
  obtain ⟨a1, a2, a3, a4, a5, a6, a7⟩ := nd
  refine ⟨⟨⟨a1.1, a1.2.1, a1.2.2.1, a1.2.2.2.1, a1.2.2.2.2.2⟩, ⟨a2.1, a2.2.1, a2.2.2.1, a2.2.2.2.2⟩, ⟨a3.1, a3.2.1, a3.2.2.2⟩, ⟨a4.1, a4.2.2⟩, a5.2, a7⟩, fun a h => ?_, fun e => a1.2.2.2.2.1 e.symm, fun e => a2.2.2.2.1 e.symm, fun e => a3.2.2.1 e.symm, fun e => a4.2.1 e.symm, fun e => a5.1 e.symm, a6⟩
  rcases h with h | h | h | h | h | h
  · exact .inl h
  · exact .inr (.inl h)
  · exact .inr (.inr (.inl h))
  · exact .inr (.inr (.inr (.inl h)))
  · exact .inr (.inr (.inr (.inr (.inl h))))
  · exact .inr (.inr (.inr (.inr (.inr (.inr h)))))
/-- the top part is taken off -/
theorem Rep.pop (r : Rep K nm R H H0 s) (hR : R.fr = x :: l) (hs : s.frs = f :: fs) {a : Addr} {as : List Addr} {p : Pt} {ps : List Pt} (hx : x.ps = a :: as) (hp : f.parts = p :: ps) :
    Rep K nm { R with fr := { x with ps := as } :: l } (upd H x.pl (.lst (x.ps.reverse.map V.ref).dropLast)) H0 { s with frs := { f with parts := ps } :: fs } ∧
    PtAt K nm { R with fr := { x with ps := as } :: l } (upd H x.pl (.lst (x.ps.reverse.map V.ref).dropLast)) a p ∧ a ∉ RA.foot { R with fr := { x with ps := as } :: l } := by
  obtain ⟨d1, d2, d3⟩ := nd_pop r.nd hR hx
  obtain ⟨g0, dx', pv, g1, g2, g3, g4⟩ := r.top0 hR hs
  have hm : x.pl ∈ x.ft := List.mem_cons_of_mem _ List.mem_cons_self
  obtain ⟨n1, n2, n3, n4, n5⟩ := nd_top r.nd hR hm
  have hx2 : x.ft = x.a :: x.pl :: a :: as := by unfold FA.ft; rw [hx]
  rw [hx2] at n5
  obtain ⟨m1, m2⟩ := List.nodup_cons.mp n5
  obtain ⟨m3, m4⟩ := List.nodup_cons.mp m2
  have t := off_tps (o' := .lst (x.ps.reverse.map V.ref).dropLast) g3 (by simp [tg])
  have e : RExt R { R with fr := { x with ps := as } :: l } := .of rfl rfl rfl rfl rfl
  rw [hx, hp] at g4
  cases g4 with
  | cons q1 q2 =>
    refine ⟨r.top (x' := { x with ps := as }) (f' := { f with parts := ps }) hR hs g3 hm (by simp [tg]) (by simp [tg]) (by simp [tg]) (by simp [tg]) rfl d1 (fun a ha => r.new a (d2 a ha)) ?_, q1.ext e t (off_at fun e => m3 (by rw [← e]; exact List.mem_cons_self)), d3⟩
    refine ⟨g0, dx', pv, off_at (fun e => m1 (by rw [e]; exact List.mem_cons_self)) _ g1, g2.ext t, ?_, paired_ext q2 fun y hy p z => z.ext (.refl R) t (off_at fun e => m3 (by rw [← e]; exact List.mem_cons_of_mem _ hy))⟩
    rw [upd_same, hx]
    simp only [List.reverse_cons, List.map_append, List.map_cons, List.map_nil, List.dropLast_concat]
/-- the top frame is left -/
theorem Rep.left (r : Rep K nm R H H0 s) (hR : R.fr = x :: l) (hs : s.frs = f :: fs) :
    Rep K nm { R with fr := l } (upd H R.stk (.lst (R.fr.reverse.map fun x => V.ref x.a).dropLast)) H0 { s with frs := fs } := by
  have hst : R.stk ∈ R.foot := List.mem_cons_of_mem _ List.mem_cons_self
  have nd := r.nd
  unfold RA.foot at nd
  rw [hR, List.flatMap_cons] at nd
  obtain ⟨a1, nd⟩ := List.nodup_cons.mp nd
  obtain ⟨a2, nd⟩ := List.nodup_cons.mp nd
  obtain ⟨a3, nd⟩ := List.nodup_cons.mp nd
  obtain ⟨b1, b2, b3⟩ := List.nodup_append.mp nd
  have e : RExt R { R with fr := l } := .of rfl rfl rfl rfl rfl
  have fr := r.frs
  rw [hR, hs] at fr
  cases fr with
  | cons _ rest =>
    refine ⟨r.nF, r.nS, off_base r (r.new _ hst), fun a ha => r.new a ?_, r.newD, ?_, r.inj, offMach r.stk (by simp [tg]) (fun e => a1 (by rw [e]; exact List.mem_cons_self)) r.mach, ?_, off_at (fun e => a2 (by rw [← e]; exact List.mem_cons_self)) _ r.prt, r.offFns r.stk (by simp [tg]) (by simp [tg]),
      fun i hi => (r.offScs r.stk (by simp [tg]) (by simp [tg]) i hi).ext e hi (fun _ h => h) (fun _ h => h), ?_⟩
    · unfold RA.foot at ha ⊢
      rw [hR, List.flatMap_cons]
      rcases List.mem_cons.mp ha with h | ha
      · rw [h]; exact List.mem_cons_self
      rcases List.mem_cons.mp ha with h | ha
      · rw [h]; exact List.mem_cons_of_mem _ List.mem_cons_self
      rcases List.mem_cons.mp ha with h | ha
      · rw [h]; exact List.mem_cons_of_mem _ (List.mem_cons_of_mem _ List.mem_cons_self)
      · exact List.mem_cons_of_mem _ (List.mem_cons_of_mem _ (List.mem_cons_of_mem _ (List.mem_append_right _ ha)))
    · unfold RA.foot
      refine List.nodup_cons.mpr ⟨fun h => a1 ?_, List.nodup_cons.mpr ⟨fun h => a2 ?_, List.nodup_cons.mpr ⟨fun h => a3 (List.mem_append_right _ h), b2⟩⟩⟩
      · rcases List.mem_cons.mp h with h | h
        · rw [h]; exact List.mem_cons_self
        rcases List.mem_cons.mp h with h | h
        · rw [h]; exact List.mem_cons_of_mem _ List.mem_cons_self
        · exact List.mem_cons_of_mem _ (List.mem_cons_of_mem _ (List.mem_append_right _ h))
      · rcases List.mem_cons.mp h with h | h
        · rw [h]; exact List.mem_cons_self
        · exact List.mem_cons_of_mem _ (List.mem_append_right _ h)
    · rw [upd_same, hR]
      simp only [List.reverse_cons, List.map_append, List.map_cons, List.map_nil, List.dropLast_concat]
    · refine paired_ext (offFrs (o' := .lst (R.fr.reverse.map fun x => V.ref x.a).dropLast) r.stk (by simp [tg]) (fun y hy hm => a2 ?_) rest) fun y _ g z => z.ext e (Tps.refl _) fun _ _ _ h => h
      exact List.mem_cons_of_mem _ (List.mem_append_right _ (List.mem_flatMap.mpr ⟨y, hy, hm⟩))
theorem foot3 (nd : R.foot.Nodup) : R.m ≠ R.stk ∧ R.m ≠ R.prt ∧ R.stk ≠ R.prt ∧ (∀ y ∈ R.fr, R.m ∉ y.ft) ∧ (∀ y ∈ R.fr, R.stk ∉ y.ft) ∧ (∀ y ∈ R.fr, R.prt ∉ y.ft) := by
  unfold RA.foot at nd
  obtain ⟨a1, nd⟩ := List.nodup_cons.mp nd
  obtain ⟨a2, nd⟩ := List.nodup_cons.mp nd
  obtain ⟨a3, nd⟩ := List.nodup_cons.mp nd
  refine ⟨fun e => a1 (by rw [e]; exact List.mem_cons_self), fun e => a1 (by rw [e]; exact List.mem_cons_of_mem _ List.mem_cons_self), fun e => a2 (by rw [e]; exact List.mem_cons_self), fun y hy hm => a1 ?_, fun y hy hm => a2 ?_, fun y hy hm => a3 ?_⟩
  · exact List.mem_cons_of_mem _ (List.mem_cons_of_mem _ (List.mem_flatMap.mpr ⟨y, hy, hm⟩))
  · exact List.mem_cons_of_mem _ (List.mem_flatMap.mpr ⟨y, hy, hm⟩)
  · exact List.mem_flatMap.mpr ⟨y, hy, hm⟩
/-- a line is printed -/
theorem Rep.print (r : Rep K nm R H H0 s) (t : Str) : Rep K nm R (upd H R.prt (.lst (s.printed.map V.str ++ [.str t]))) H0 { s with printed := s.printed ++ [t] } := by
  obtain ⟨d1, d2, d3, d4, d5, d6⟩ := foot3 r.nd
  have hpt : R.prt ∈ R.foot := List.mem_cons_of_mem _ (List.mem_cons_of_mem _ List.mem_cons_self)
  refine ⟨r.nF, r.nS, off_base r (r.new _ hpt), r.new, r.newD, r.nd, r.inj, offMach r.prt (by simp [tg]) d2 r.mach, off_at d3 _ r.stk, ?_, r.offFns r.prt (by simp [tg]) (by simp [tg]), r.offScs r.prt (by simp [tg]) (by simp [tg]), offFrs r.prt (by simp [tg]) d6 r.frs⟩
  rw [upd_same]
  simp only [List.map_append, List.map_cons, List.map_nil]
/-- the machine's own attributes -/
theorem Rep.machine (r : Rep K nm R H H0 s) {dx : Addr} {kv gv a b ev ev' : V} {c d : Int} (hq : H R.m = some (.ins (He.ga K "Machine") dx (fsMachine kv gv a b ev (.int c)))) {fin : Option Nd} {n : Nat} (he : EndAt H fin ev') :
    Rep K nm R (upd H R.m (.ins (He.ga K "Machine") dx (fsMachine kv gv a b ev' (.int n)))) H0 { s with fin := fin, deep := n } := by
  obtain ⟨d1, d2, d3, d4, d5, d6⟩ := foot3 r.nd
  have hpt : R.m ∈ R.foot := List.mem_cons_self
  have t2 : tg (HO.ins (He.ga K "Machine") dx (fsMachine kv gv a b ev (.int c))) = 14 := tg_mach
  have t := off_tps (o' := .ins (He.ga K "Machine") dx (fsMachine kv gv a b ev' (.int n))) hq (by rw [t2]; decide)
  refine ⟨r.nF, r.nS, off_base r (r.new _ hpt), r.new, r.newD, r.nd, r.inj, ?_, off_at d1.symm _ r.stk, off_at d2.symm _ r.prt, r.offFns hq (by rw [t2]; decide) (by rw [t2]; decide), r.offScs hq (by rw [t2]; decide) (by rw [t2]; decide), offFrs hq (by rw [t2]; decide) d4 r.frs⟩
  obtain ⟨dx', kv', gv', ev0, h1, h2⟩ := r.mach
  rw [hq] at h1
  have e1 := Option.some.inj h1
  injection e1 with e2 e3 e4
  unfold fsMachine at e4
  simp only [List.cons.injEq, Prod.mk.injEq, true_and, and_true] at e4
  obtain ⟨e5, e6, e7, e8, e9, e10⟩ := e4
  subst e7 e8
  exact ⟨dx, kv, gv, ev', upd_same, he.ext t⟩
/-- a function comes -/
theorem Rep.newFn (r : Rep K nm R H H0 s) {g : Fn} {p dx pp : Addr} {vb : V} (hsc : g.sc < R.nS) (h1 : H p = some (.ins (He.ga K "Function") dx (fsFunction (.ref pp) vb (.ref (R.sa g.sc)) .non .non))) (h2 : H pp = some (.tup (g.ps.map fun x => .str (nm x))))
    (h3 : At H (.t (eSms nm g.body)) vb) (h4 : g.ps.length ≤ 3) : Rep K nm { R with nF := R.nF + 1, fa := fun i => if i = R.nF then p else R.fa i } H H0 { s with mem := K38.newFn s.mem g } ∧ RExt R { R with nF := R.nF + 1, fa := fun i => if i = R.nF then p else R.fa i } := by
  have e : RExt R { R with nF := R.nF + 1, fa := fun i => if i = R.nF then p else R.fa i } := ⟨Nat.le_succ _, fun i hi => if_neg (Nat.ne_of_lt hi), Nat.le_refl _, fun _ _ => rfl, fun _ _ => rfl⟩
  refine ⟨⟨congrArg (· + 1) r.nF, r.nS, r.base, r.new, r.newD, r.nd, r.inj, r.mach, r.stk, r.prt, fun i hi => ?_, fun i hi => (r.scs i hi).ext e hi (fun _ h => h) (fun _ h => h), paired_ext r.frs fun y _ g z => z.ext e (Tps.refl _) fun _ _ _ h => h⟩, e⟩
  by_cases hi2 : i = R.nF
  · subst hi2
    have e2 : (K38.newFn s.mem g).fns R.nF = g := by simp [K38.newFn, r.nF]
    show FnAt K nm _ H R.nF ((K38.newFn s.mem g).fns R.nF)
    rw [e2]
    refine ⟨hsc, dx, pp, vb, ?_, h2, h3, h4⟩
    show H (if R.nF = R.nF then p else _) = _
    rw [if_pos rfl]; exact h1
  · have hi3 : i < R.nF := by have : i < R.nF + 1 := hi; omega
    have e2 : (K38.newFn s.mem g).fns i = s.mem.fns i := by simp [K38.newFn, ← r.nF, hi2]
    show FnAt K nm _ H i ((K38.newFn s.mem g).fns i)
    rw [e2]
    exact (r.fns i hi3).ext e (Tps.refl _) hi3 (fun _ h => h)
/-- a call is entered: its scope, its frame -/
theorem Rep.enter (r : Rep K nm R H H0 s) {sc : Sc} {body : List Sm} {a pl pt sa sd dx dx2 dx3 : Addr} {ov bv : V} {kvs : List (Key × V)}
    (f0 : [a, pl, pt].Nodup) (f1 : a ∉ R.foot) (f2 : pl ∉ R.foot) (f3 : pt ∉ R.foot) (f4 : ∀ i, i < R.nS → R.sd i ≠ sd) (g1 : H0 a = none) (g2 : H0 pl = none) (g3 : H0 pt = none) (g4 : H0 sd = none)
    (h1 : H a = some (.ins (He.ga K "Frame") dx (fsFrame (.ref sa) .non .non (.ref pl) .non))) (h2 : H pl = some (.lst [.ref pt])) (h3 : H pt = some (.ins (He.ga K "Part") dx2 (fsPart (.str "plain") bv (.int 0) .non .non))) (hb : At H (.t (eSms nm body)) bv)
    (h4 : H sa = some (.ins (He.ga K "Scope") dx3 (fsScope ov (.ref sd)))) (ho : OutAt R sc.outer ov) (h5 : H sd = some (.dK kvs)) (hk : HeldAt nm R kvs sc.held) :
    Rep K nm { R with nS := R.nS + 1, sa := fun i => if i = R.nS then sa else R.sa i, sd := fun i => if i = R.nS then sd else R.sd i, fr := ⟨a, pl, [pt]⟩ :: R.fr } (upd H R.stk (.lst ((R.fr.reverse.map fun x => V.ref x.a) ++ [.ref a]))) H0
      { s with mem := newSc s.mem sc, frs := ⟨s.mem.nS, [⟨.plain, body, 0⟩], none⟩ :: s.frs } ∧
    RExt R { R with nS := R.nS + 1, sa := fun i => if i = R.nS then sa else R.sa i, sd := fun i => if i = R.nS then sd else R.sd i, fr := ⟨a, pl, [pt]⟩ :: R.fr } := by
  have e : RExt R { R with nS := R.nS + 1, sa := fun i => if i = R.nS then sa else R.sa i, sd := fun i => if i = R.nS then sd else R.sd i, fr := ⟨a, pl, [pt]⟩ :: R.fr } :=
    ⟨Nat.le_refl _, fun _ _ => rfl, Nat.le_succ _, fun i hi => if_neg (Nat.ne_of_lt hi), fun i hi => if_neg (Nat.ne_of_lt hi)⟩
  obtain ⟨d1, d2, d3, d4, d5, d6⟩ := foot3 r.nd
  have hst : R.stk ∈ R.foot := List.mem_cons_of_mem _ List.mem_cons_self
  have t := off_tps (o' := .lst ((R.fr.reverse.map fun x => V.ref x.a) ++ [.ref a])) r.stk (by simp [tg])
  have nst : ∀ {b : Addr}, b ∉ R.foot → b ≠ R.stk := fun hb e => hb (by rw [e]; exact hst)
  refine ⟨⟨r.nF, congrArg (· + 1) r.nS, off_base r (r.new _ hst), fun b hb => ?_, fun i hi => ?_, ?_, fun i j hi hj h => ?_, offMach r.stk (by simp [tg]) d1 r.mach, ?_, off_at d3.symm _ r.prt, fun i hi => ?_, fun i hi => ?_, .cons ?_ ?_⟩, e⟩
  · unfold RA.foot at hb
    simp only [List.flatMap_cons, FA.ft, List.cons_append, List.nil_append, List.mem_cons] at hb
    rcases hb with h | h | h | h | h | h | h
    · rw [h]; exact r.new _ List.mem_cons_self
    · rw [h]; exact r.new _ hst
    · rw [h]; exact r.new _ (List.mem_cons_of_mem _ (List.mem_cons_of_mem _ List.mem_cons_self))
    · rw [h]; exact g1
    · rw [h]; exact g2
    · rw [h]; exact g3
    · exact r.new b (List.mem_cons_of_mem _ (List.mem_cons_of_mem _ (List.mem_cons_of_mem _ h)))
  · show H0 (if i = R.nS then sd else R.sd i) = none
    by_cases hi2 : i = R.nS
    · rw [if_pos hi2]; exact g4
    · rw [if_neg hi2]; exact r.newD i (by have : i < R.nS + 1 := hi; omega)
  · have nd := r.nd
    unfold RA.foot at nd f1 f2 f3 ⊢
    simp only [List.flatMap_cons, FA.ft, List.cons_append, List.nil_append, List.nodup_cons, List.mem_cons, not_or, List.mem_nil_iff, List.not_mem_nil, not_false_eq_true, and_true, List.nodup_nil] at nd f0 f1 f2 f3 ⊢
    obtain ⟨a1, a2, a3, a4⟩ := nd
    obtain ⟨b1, b2⟩ := f0
    refine ⟨⟨a1.1, a1.2.1, fun e => f1.1 e.symm, fun e => f2.1 e.symm, fun e => f3.1 e.symm, a1.2.2⟩, ⟨a2.1, fun e => f1.2.1 e.symm, fun e => f2.2.1 e.symm, fun e => f3.2.1 e.symm, a2.2⟩, ⟨fun e => f1.2.2.1 e.symm, fun e => f2.2.2.1 e.symm, fun e => f3.2.2.1 e.symm, a3⟩, ⟨b1.1, b1.2, f1.2.2.2⟩, ⟨b2, f2.2.2.2⟩, f3.2.2.2, a4⟩
  · have hi' : i < R.nS + 1 := hi
    have hj' : j < R.nS + 1 := hj
    have h' : (if i = R.nS then sd else R.sd i) = (if j = R.nS then sd else R.sd j) := h
    by_cases hi2 : i = R.nS
    · by_cases hj2 : j = R.nS
      · rw [hi2, hj2]
      · rw [if_pos hi2, if_neg hj2] at h'
        exact absurd h'.symm (f4 j (by omega))
    · by_cases hj2 : j = R.nS
      · rw [if_neg hi2, if_pos hj2] at h'
        exact absurd h' (f4 i (by omega))
      · rw [if_neg hi2, if_neg hj2] at h'
        exact r.inj i j (by omega) (by omega) h'
  · rw [upd_same]
    simp only [List.reverse_cons, List.map_append, List.map_cons, List.map_nil]
  · exact (r.offFns r.stk (by simp [tg]) (by simp [tg]) i hi).ext e (Tps.refl _) hi (fun _ h => h)
  · have hi' : i < R.nS + 1 := hi
    by_cases hi2 : i = R.nS
    · have e2 : (newSc s.mem sc).scs i = sc := by simp [newSc, hi2, r.nS]
      show ScAt K nm _ _ i ((newSc s.mem sc).scs i)
      rw [e2]
      subst hi2
      refine ⟨dx3, ov, kvs, ?_, ho.ext e, ?_, hk.ext e⟩
      · show upd H R.stk _ (if R.nS = R.nS then sa else _) = some (.ins _ dx3 (fsScope ov (.ref (if R.nS = R.nS then sd else _))))
        rw [if_pos rfl, if_pos rfl]
        exact off_at (ne_tg h4 r.stk (by rw [tg_scope]; simp [tg])) _ h4
      · show upd H R.stk _ (if R.nS = R.nS then sd else _) = _
        rw [if_pos rfl]
        exact off_at (ne_tg h5 r.stk (by simp [tg])) _ h5
    · have hi3 : i < R.nS := by omega
      have e2 : (newSc s.mem sc).scs i = s.mem.scs i := by simp [newSc, ← r.nS, hi2]
      show ScAt K nm _ _ i ((newSc s.mem sc).scs i)
      rw [e2]
      exact (r.offScs r.stk (by simp [tg]) (by simp [tg]) i hi3).ext e hi3 (fun _ h => h) (fun _ h => h)
  · refine ⟨by show s.mem.nS < R.nS + 1; rw [← r.nS]; exact Nat.lt_succ_self _, dx, .non, ?_, rfl, ?_, .cons ⟨dx2, _, bv, .non, .non, ?_, At.same t _ _ hb, rfl⟩ .nil⟩
    · show upd H R.stk _ a = some (.ins _ dx (fsFrame (.ref (if s.mem.nS = R.nS then sa else _)) .non .non (.ref pl) .non))
      rw [if_pos r.nS.symm]
      exact off_at (nst f1) _ h1
    · exact off_at (nst f2) _ h2
    · exact off_at (nst f3) _ h3
  · exact paired_ext (offFrs (o' := .lst ((R.fr.reverse.map fun x => V.ref x.a) ++ [.ref a])) r.stk (by simp [tg]) d5 r.frs) fun y _ g z => z.ext e (Tps.refl _) fun _ _ _ h => h
end
end K38
end
section
/-! K38Q: == of an instance without an own __eq__ and None or a text. -/
namespace K38
open PySem PySem.Spec PyProof.Rows L2 PySem.SeqAt
theorem str_eq_ref (l C dx : Addr) (b : Str) (u : Tok) :
    Meets (Builtin.«str.__eq__» ⟨[.str b u, .ref l], []⟩) (fun _ R s => s.heap.get? l = some (PySem.W.instObj C dx) ∧ R (.ok (.ret .notImplemented)) s) :=
  .of_wp fun prog w A R s h => by
    obtain ⟨hp, g, d, tk, os⟩ := s; obtain ⟨hl, h⟩ := h
    wp_walk using AutoSeq1.wpAny_loadPart' hl
    exact ⟨_, rfl, h⟩
section
variable {M : Model} {prog : Program} {w : World} {A : Around} {E : Value → Shared → Prop} {s : Shared} {K : PySem.W.Frag} {x C dx : Addr} {od : Option Obj} {b : Str} {u : Tok}
theorem isSame_str {R : Bool → Shared → Prop} (h : R false s) : wpAny M A (isSame (.ref x) (.str b u)) R E s := wpAny_of_eq (rfl : isSame (.ref x) (.str b u) = pure false) h
theorem entry_str {Q : Fin → Shared → Prop} (hq : Q (.done (.ret .notImplemented)) s) : wpAny M A (Builtin.«object.__eq__» ⟨[.ref x, .str b u], []⟩) Q E s := by
  unfold Builtin.«object.__eq__»
  repeat (first | with_reducible refine isSame_str ?_ | wp_step)
  exact hq
theorem call_objEqS {Q : Value → Shared → Prop} {ox : Obj} (X : K.In s.heap) (I : PySem.W.InstAt s.heap x ox C od) (hm : PySem.W.mroIn K C (.type "object") = some true) (hq : Q .notImplemented s) :
    wpAny (model prog w) A (call (.builtin "object.__eq__") [.ref x, .str b u]) Q E s :=
  wpAny_call (codeAny_call_builtin F.cmp_object.eq.plain F.cmpEntry_eq (PySem.W.check_slot F.cmpKind_eq F.cmpSplit_eq (I.type.andThen (PySem.W.looks_mroIn X hm)) (F.cmpArgs_eq _ _) (entry_str hq)))
theorem sub_str : PySem.W.subIn K (.type "str") (.ref C) = some false := by
  have e : fastBuiltinMro "str" = some [.type "str", .type "object"] := by decide +kernel
  show (fastBuiltinMro "str").map (·.contains (.ref C)) = some false
  rw [e]
  first
    | rfl
    | simp
theorem rc_str (hu : A.units < cLine) (X : K.In s.heap) (I : PySem.W.InstAt s.heap x (PySem.W.instObj C dx) C od) (hm : PySem.W.mroIn K C (.type "object") = some true) (hs : PySem.W.findIn K (.ref C) "__eq__" = some (some (.builtin "object.__eq__"))) (hx : s.heap.get? x = some (PySem.W.instObj C dx)) :
    RcAt A s (.ref x) (.str b u) false := fun prog w E Q h => by
  have one : wpAny (model prog w) A (tryCompare (.ref x) "__eq__" (.str b u)) (fun r s' => r = none ∧ s' = s) E s := by
    unfold tryCompare
    exact wpAny_bind (HN.ifBound_objEq X I hs (call_objEqS X I hm (wpAny_pure ⟨rfl, rfl⟩)))
  have two : wpAny (model prog w) A (tryCompare (.str b u) "__eq__" (.ref x)) (fun r s' => r = none ∧ s' = s) E s :=
    wpAny_tryCompare_declines (typeIs_str s b u) F.slot_str_eq_refl (call_meets F.slot_str_eq_refl (typeIs_str s b u) F.entry_str_eq (F.args_str_eq_2 _ _) (str_eq_ref x C dx b u) ⟨hx, rfl, rfl, rfl⟩)
  simp only [richCompare, cmpInfo_Eq, oneThing_ref]
  refine wpAny_holding (wpAny_bind (wpAny_cRoomFor hu ?_))
  refine wpAny_bind (I.type.here ?_)
  refine wpAny_bind (wpAny_typeOf (typeIs_str s b u) ?_)
  split
  · refine wpAny_bind ((PySem.W.looks_subIn X sub_str).here ?_)
    simp only [Bool.false_eq_true, if_false, Bool.not_false, if_true]
    refine wpAny_bind (m := tryCompare (.ref x) _ (.str b u)) (wpAny_mono one (fun r s1 z => ?_) fun _ _ e => e)
    obtain ⟨z1, z2⟩ := z
    subst z1
    subst z2
    refine wpAny_bind (m := tryCompare (.str b u) _ (.ref x)) (wpAny_mono two (fun r s2 z => ?_) fun _ _ e => e)
    obtain ⟨z1, z2⟩ := z
    subst z1
    subst z2
    exact wpAny_bind (wpAny_rule (wpAny_bind (wpAny_of_eq (rfl : isSame (.ref x) (.str b u) = pure false) (wpAny_pure h))))
  · rename_i q
    exact absurd (by simp) q
end
/-- == where an instance of such a class may stand against None or a text -/
def rEqI (K : PySem.W.Frag) : R2 := fun x y H Q => ∃ a C dx fs, x = .ref a ∧ H a = some (.ins C dx fs) ∧ PySem.W.mroIn K C (.type "object") = some true ∧ PySem.W.findIn K (.ref C) "__eq__" = some (some (.builtin "object.__eq__")) ∧ (y = .non ∨ ∃ z, y = .str z) ∧ Q (.bl false) H
theorem op_eqI {X : Cx} (hu : X.A.units < cLine) : OpR X (compareOp .Eq) (rEqI X.K) := by
  intro pins s σ H x y v u Q I rx ry h
  obtain ⟨a, C, dx, fs, rfl, ea, hm, hs, hy, q⟩ := h
  cases rx
  obtain ⟨mA, O, _⟩ := ins_get I.hok ea
  obtain ⟨od, J, _⟩ := O.look
  rcases hy with rfl | ⟨z, rfl⟩
  · cases ry
    exact HN.rc_none hu I.kIn J hm hs X.prog X.w X.xe _ ⟨.bl false, H, I, rfl, q⟩
  · obtain ⟨t, rfl⟩ := ry
    exact rc_str hu I.kIn J hm hs J.at_ X.prog X.w X.xe _ ⟨.bl false, H, I, rfl, q⟩
def op_eqJ {X : Cx} (hu : X.A.units < cLine) : OpR X (compareOp .Eq) (fun x y H Q => rEq x y H Q ∨ rEqI X.K x y H Q) := OpR.or op_eq (op_eqI hu)
end K38
end
section
/-! K38X: Part, Frame, Scope, Function; text_of, nearest, simple, holds. -/
namespace K38
open PySem PySem.Spec PyProof.Rows L2
/-- all but p stands -/
def But (p : Addr) (H H' : Hp) : Prop := ∀ a o, a ≠ p → H a = some o → H' a = some o
/-- what a made instance leaves, seen from ahead: the init kept all but it -/
theorem But.made {H H' : Hp} {x dx : Addr} {o : HO} (b : But x (upd (upd H dx (.own x)) x o) H') (nx : H x = none) (ndx : H dx = none) : Same H H' := fun a u e => by
  have h1 : a ≠ x := ne_of_none e nx
  refine b a u h1 ?_
  rw [upd_ne h1, upd_ne (ne_of_none e ndx)]
  exact e
section
variable {P : Program} {w : World} {K : PySem.W.Frag} {mg : Str → Option Value} {base : Heap} {nm : Nm → Str}
def spPartInit (K : PySem.W.Frag) : Sp := fun vs H Q _ => ∃ (p dx : Addr) (k r st o : V), vs = [.ref p, k, r, st, o] ∧ H p = some (.ins (He.ga K "Part") dx []) ∧ Q .non (upd H p (.ins (He.ga K "Part") dx (fsPart k r (.int 0) st o)))
theorem sc_Part_init : FnScope ["self", "kind", "rows", "statement", "outcome"] ["self", "kind", "rows", "statement", "outcome"] (defScope s_Part_init) := ⟨rfl, rfl, rfl, by decide +kernel, rfl, by decide +kernel, by decide +kernel⟩
theorem ok_Part_init (T : Tx K mg) {ds : List V} (hb : ∀ {fd}, FnP K "__init__" "Part.__init__" s_Part_init [V.non, V.non] [] (He.fAd K ("Part", some "__init__")) fd → ∃ us, Vals ds us ∧ Binds K fd ["self", "kind", "rows", "statement", "outcome"] us) :
    Ok P w K mg base 1 (He.fAd K ("Part", some "__init__")) ["self", "kind", "rows", "statement", "outcome"] ds (spPartInit K) := by
  obtain ⟨fd, F⟩ := T.f_Part_init
  refine mkOk F sc_Part_init (hb F) (fun vs H Q E h => ?_) (fun cdv A outer s H vs Q E hr h => ?_)
  · obtain ⟨p, dx, a, b, c, d, rfl, _⟩ := h
    rfl
  obtain ⟨p, dx, a, b, c, d, rfl, hp, k⟩ := h
  refine ⟨_, (pss_cons (ps_fld (pv 0) (pv 1) rfl)
      (pss_cons (ps_fld (pv 0) (pv 2) rfl)
      (pss_cons (ps_fld (pv 0) pe_int rfl)
      (pss_cons (ps_fld (pv 0) (pv 3) rfl)
      (pss_one (ps_fld (pv 0) (pv 4) rfl)))))), ?_⟩
  refine ⟨_, rfl, _, rfl, p, _, dx, _, rfl, hp, T.cl_Part, T.na_Part_kind, (by decide), ?_⟩
  refine ⟨_, rfl, _, rfl, p, _, dx, _, rfl, upd_same, T.cl_Part, T.na_Part_rows, (Nat.lt_of_le_of_lt (pf_le pf_nil) (by decide)), ?_⟩
  refine ⟨_, rfl, p, _, dx, _, rfl, upd_same, T.cl_Part, T.na_Part_place, (Nat.lt_of_le_of_lt (pf_le (pf_le pf_nil)) (by decide)), ?_⟩
  refine ⟨_, rfl, _, rfl, p, _, dx, _, rfl, upd_same, T.cl_Part, T.na_Part_statement, (Nat.lt_of_le_of_lt (pf_le (pf_le (pf_le pf_nil))) (by decide)), ?_⟩
  refine ⟨_, rfl, _, rfl, p, _, dx, _, rfl, upd_same, T.cl_Part, T.na_Part_outcome, (Nat.lt_of_le_of_lt (pf_le (pf_le (pf_le (pf_le pf_nil)))) (by decide)), ?_⟩
  rw [upd_upd, upd_upd, upd_upd, upd_upd, fsPart_init]
  exact k
theorem bind_Part3 {fd : FuncData} (F : FnP K "__init__" "Part.__init__" s_Part_init [V.non, V.non] [] (He.fAd K ("Part", some "__init__")) fd) : ∃ us, Vals [V.non, V.non] us ∧ Binds K fd ["self", "kind", "rows", "statement", "outcome"] us := by
  obtain ⟨ds, v, b⟩ := FunD.binds1 (ps := ["self", "kind", "rows", "statement", "outcome"]) F 3 0 (by simp) rfl (fun T kV doc pm an cdv ct us its h1 h2 => match us, its, h1, h2 with | [_, _, _], [_, _], _, _ => ⟨_, rfl, rfl⟩)
  exact ⟨ds, v, b⟩
theorem bind_Part4 {fd : FuncData} (F : FnP K "__init__" "Part.__init__" s_Part_init [V.non, V.non] [] (He.fAd K ("Part", some "__init__")) fd) : ∃ us, Vals [V.non] us ∧ Binds K fd ["self", "kind", "rows", "statement", "outcome"] us := by
  obtain ⟨ds, v, b⟩ := FunD.binds1 (ps := ["self", "kind", "rows", "statement", "outcome"]) F 4 1 (by simp) rfl (fun T kV doc pm an cdv ct us its h1 h2 => match us, its, h1, h2 with | [_, _, _, _], [_, _], _, _ => ⟨_, rfl, rfl⟩)
  exact ⟨ds, v, b⟩
theorem bind_Part5 {fd : FuncData} (F : FnP K "__init__" "Part.__init__" s_Part_init [V.non, V.non] [] (He.fAd K ("Part", some "__init__")) fd) : ∃ us, Vals [] us ∧ Binds K fd ["self", "kind", "rows", "statement", "outcome"] us := by
  obtain ⟨ds, v, b⟩ := FunD.binds1 (ps := ["self", "kind", "rows", "statement", "outcome"]) F 5 2 (by simp) rfl (fun T kV doc pm an cdv ct us its h1 h2 => match us, its, h1, h2 with | [_, _, _, _, _], [_, _], _, _ => ⟨_, rfl, rfl⟩)
  exact ⟨ds, v, b⟩
def spFunctionInit (K : PySem.W.Frag) : Sp := fun vs H Q _ => ∃ (p dx : Addr) (a b c d e : V), vs = [.ref p, a, b, c, d, e] ∧ H p = some (.ins (He.ga K "Function") dx []) ∧ Q .non (upd H p (.ins (He.ga K "Function") dx (fsFunction a b c d e)))
theorem sc_Function_init : FnScope ["self", "params", "block", "scope", "me", "owner"] ["self", "params", "block", "scope", "me", "owner"] (defScope s_Function_init) := ⟨rfl, rfl, rfl, by decide +kernel, rfl, by decide +kernel, by decide +kernel⟩
theorem ok_Function_init (T : Tx K mg) : Ok P w K mg base 1 (He.fAd K ("Function", some "__init__")) ["self", "params", "block", "scope", "me", "owner"] [] (spFunctionInit K) := by
  obtain ⟨fd, F⟩ := T.f_Function_init
  refine mkOk F sc_Function_init (bind0 F fun _ _ _ _ _ _ us hl => match us, hl with | [_, _, _, _, _, _], _ => rfl) (fun vs H Q E h => ?_) (fun cdv A outer s H vs Q E hr h => ?_)
  · obtain ⟨p, dx, a, b, c, d, e, rfl, _⟩ := h
    rfl
  obtain ⟨p, dx, a, b, c, d, e, rfl, hp, k⟩ := h
  refine ⟨_, (pss_cons (ps_fld (pv 0) (pv 1) rfl)
      (pss_cons (ps_fld (pv 0) (pv 2) rfl)
      (pss_cons (ps_fld (pv 0) (pv 3) rfl)
      (pss_cons (ps_fld (pv 0) (pv 4) rfl)
      (pss_one (ps_fld (pv 0) (pv 5) rfl)))))), ?_⟩
  refine ⟨_, rfl, _, rfl, p, _, dx, _, rfl, hp, T.cl_Function, T.na_Function_params, (by decide), ?_⟩
  refine ⟨_, rfl, _, rfl, p, _, dx, _, rfl, upd_same, T.cl_Function, T.na_Function_block, (Nat.lt_of_le_of_lt (pf_le pf_nil) (by decide)), ?_⟩
  refine ⟨_, rfl, _, rfl, p, _, dx, _, rfl, upd_same, T.cl_Function, T.na_Function_scope, (Nat.lt_of_le_of_lt (pf_le (pf_le pf_nil)) (by decide)), ?_⟩
  refine ⟨_, rfl, _, rfl, p, _, dx, _, rfl, upd_same, T.cl_Function, T.na_Function_me, (Nat.lt_of_le_of_lt (pf_le (pf_le (pf_le pf_nil))) (by decide)), ?_⟩
  refine ⟨_, rfl, _, rfl, p, _, dx, _, rfl, upd_same, T.cl_Function, T.na_Function_owner, (Nat.lt_of_le_of_lt (pf_le (pf_le (pf_le (pf_le pf_nil)))) (by decide)), ?_⟩
  rw [upd_upd, upd_upd, upd_upd, upd_upd, fsFunction_init]
  exact k
def spScopeInit (K : PySem.W.Frag) : Sp := fun vs H Q _ => ∃ (p dx : Addr) (o : V), vs = [.ref p, o] ∧ H p = some (.ins (He.ga K "Scope") dx []) ∧
  ∀ d H', H d = none → But p H H' → H' p = some (.ins (He.ga K "Scope") dx (fsScope o (.ref d))) → H' d = some (.dK []) → Q .non H'
theorem sc_Scope_init : FnScope ["self", "outer"] ["self", "outer"] (defScope s_Scope_init) := ⟨rfl, rfl, rfl, by decide +kernel, rfl, by decide +kernel, by decide +kernel⟩
theorem ok_Scope_init (T : Tx K mg) : Ok P w K mg base 1 (He.fAd K ("Scope", some "__init__")) ["self", "outer"] [] (spScopeInit K) := by
  obtain ⟨fd, F⟩ := T.f_Scope_init
  refine mkOk F sc_Scope_init (bind0 F fun _ _ _ _ _ _ us hl => match us, hl with | [_, _], _ => rfl) (fun vs H Q E h => ?_) (fun cdv A outer s H vs Q E hr h => ?_)
  · obtain ⟨p, dx, o, rfl, _⟩ := h
    rfl
  obtain ⟨p, dx, o, rfl, hp, k⟩ := h
  refine ⟨_, (pss_cons (ps_fld (pv 0) (pv 1) rfl)
      (pss_one (ps_fld (pv 0) pe_dnewK rfl))), ?_⟩
  refine ⟨_, rfl, _, rfl, p, _, dx, _, rfl, hp, T.cl_Scope, T.na_Scope_outer, (by decide), fun d hd => ?_⟩
  have npd : p ≠ d := ne_of_none upd_same hd
  refine ⟨_, rfl, p, _, dx, _, rfl, (upd_ne npd).trans upd_same, T.cl_Scope, T.na_Scope_held, (Nat.lt_of_le_of_lt (pf_le pf_nil) (by decide)), ?_⟩
  have hd0 : H d = none := by rw [upd_ne npd.symm] at hd; exact hd
  refine k d _ hd0 (fun a u ne e => ?_) ?_ ?_
  · rw [upd_ne ne, upd_ne (ne_of_none e hd0), upd_ne ne]; exact e
  · rw [upd_same, fsScope_init]
  · rw [upd_ne npd.symm, upd_same]
def spFrameInit (K : PySem.W.Frag) : Sp := fun vs H Q _ => ∃ (p dx : Addr) (a b c r : V), vs = [.ref p, a, b, c, r] ∧ H p = some (.ins (He.ga K "Frame") dx []) ∧
  ∀ pl pt dx2 H', H pl = none → H pt = none → pl ≠ pt → But p H H' → H' p = some (.ins (He.ga K "Frame") dx (fsFrame a b c (.ref pl) .non)) → H' pl = some (.lst [.ref pt]) → H' pt = some (.ins (He.ga K "Part") dx2 (fsPart (.str "plain") r (.int 0) .non .non)) → Q .non H'
theorem sc_Frame_init : FnScope ["self", "scope", "me", "owner", "block"] ["self", "scope", "me", "owner", "block"] (defScope s_Frame_init) := ⟨rfl, rfl, rfl, by decide +kernel, rfl, by decide +kernel, by decide +kernel⟩
theorem ok_Frame_init (T : Tx K mg) : Ok P w K mg base 3 (He.fAd K ("Frame", some "__init__")) ["self", "scope", "me", "owner", "block"] [] (spFrameInit K) := by
  obtain ⟨fd, F⟩ := T.f_Frame_init
  obtain ⟨fd_Part_init, us_Part_init, G_Part_init, b_Part_init, v_Part_init, k_Part_init, _⟩ := ok_Part_init T bind_Part3
  refine mkOk F sc_Frame_init (bind0 F fun _ _ _ _ _ _ us hl => match us, hl with | [_, _, _, _, _], _ => rfl) (fun vs H Q E h => ?_) (fun cdv A outer s H vs Q E hr h => ?_)
  · obtain ⟨p, dx, a, b, c, r, rfl, _⟩ := h
    rfl
  obtain ⟨p, dx, a, b, c, r, rfl, hp, k⟩ := h
  refine ⟨_, (pss_cons (ps_fld (pv 0) (pv 1) rfl)
      (pss_cons (ps_fld (pv 0) (pv 2) rfl)
      (pss_cons (ps_fld (pv 0) (pv 3) rfl)
      (pss_cons (ps_fld (pv 0) (pe_lst (pa_cons (pe_make T.mk_Part G_Part_init (hr.mono (by decide)) rfl T.g_Part b_Part_init v_Part_init pass0 (pa_cons pe_str (pa_cons (pv 4) pa_nil))) pa_nil)) rfl)
      (pss_one (ps_fld (pv 0) pe_non rfl)))))), ?_⟩
  refine ⟨_, rfl, _, rfl, p, _, dx, _, rfl, hp, T.cl_Frame, T.na_Frame_scope, (by decide), ?_⟩
  refine ⟨_, rfl, _, rfl, p, _, dx, _, rfl, upd_same, T.cl_Frame, T.na_Frame_me, (Nat.lt_of_le_of_lt (pf_le pf_nil) (by decide)), ?_⟩
  refine ⟨_, rfl, _, rfl, p, _, dx, _, rfl, upd_same, T.cl_Frame, T.na_Frame_owner, (Nat.lt_of_le_of_lt (pf_le (pf_le pf_nil)) (by decide)), ?_⟩
  rw [upd_upd, upd_upd]
  -- self.parts = [Part("plain", block)]
  refine ⟨_, rfl, fun x ex nx nex nxe => ⟨x, ex, _, _, _, _, rfl, upd_same, rfl, ?_⟩⟩
  have Sx := made_new (fs := fsPart (.str "plain") r (.int 0) .non .non) (C := He.ga K "Part") nx nex
  have ex1 : (upd (upd (upd (upd H p (.ins (He.ga K "Frame") dx (putF "owner" c (putF "me" b (putF "scope" a []))))) ex (.own x)) x (.ins (He.ga K "Part") ex [])) x (.ins (He.ga K "Part") ex (fsPart (.str "plain") r (.int 0) .non .non))) x = some (.ins (He.ga K "Part") ex (fsPart (.str "plain") r (.int 0) .non .non)) := upd_same
  generalize upd (upd (upd (upd H p (.ins (He.ga K "Frame") dx (putF "owner" c (putF "me" b (putF "scope" a []))))) ex (.own x)) x (.ins (He.ga K "Part") ex [])) x (.ins (He.ga K "Part") ex (fsPart (.str "plain") r (.int 0) .non .non)) = H1 at Sx ex1 ⊢
  have npx : p ≠ x := ne_of_none upd_same nx
  have hx0 : H x = none := by rw [upd_ne npx.symm] at nx; exact nx
  have hp1 := Sx p _ upd_same
  refine ⟨by show 1 ≤ sizeLine; decide, fun q hq => ?_⟩
  have npq : p ≠ q := ne_of_none hp1 hq
  have nxq : x ≠ q := ne_of_none ex1 hq
  refine ⟨_, rfl, p, _, dx, _, rfl, (upd_ne npq).trans hp1, T.cl_Frame, T.na_Frame_parts, (Nat.lt_of_le_of_lt (pf_le (pf_le (pf_le pf_nil))) (by decide)), ?_⟩
  refine ⟨_, rfl, p, _, dx, _, rfl, upd_same, T.cl_Frame, T.na_Frame_pending, (Nat.lt_of_le_of_lt (pf_le (pf_le (pf_le (pf_le pf_nil)))) (by decide)), ?_⟩
  have hq0 : H q = none := by
    cases e : H q with
    | none => rfl
    | some o =>
      rw [Sx q o (by rw [upd_ne npq.symm]; exact e)] at hq
      cases hq
  refine k q x ex _ hq0 hx0 nxq.symm (fun a u ne e => ?_) ?_ ?_ ?_
  · rw [upd_ne ne, upd_ne ne, upd_ne (ne_of_none e hq0)]
    exact Sx a u (by rw [upd_ne ne]; exact e)
  · rw [upd_same, fsFrame_init]
  · rw [upd_ne npq.symm, upd_ne npq.symm, upd_same]
  · rw [upd_ne npx.symm, upd_ne npx.symm, upd_ne nxq]; exact ex1


/-! ### text_of, nearest -/
def spTextOf (K : PySem.W.Frag) : Sp := fun vs H Q _ => ∃ (v : Vl) (u : V), vs = [u] ∧ (match v with | .non => u = .non | .word x => u = .str x | .fn _ => ∃ a dx b c d e f, u = .ref a ∧ H a = some (.ins (He.ga K "Function") dx (fsFunction b c d e f))) ∧ Q (.str (textOf v)) H
theorem sc_text_of : FnScope ["value"] ["value"] (defScope s_text_of) := ⟨rfl, rfl, rfl, by decide +kernel, rfl, by decide +kernel, by decide +kernel⟩
theorem ok_text_of (T : Tx K mg) : Ok P w K mg base 1 (He.fAd K ("text_of", none)) ["value"] [] (spTextOf K) := by
  obtain ⟨fd, F⟩ := T.f_text_of
  refine mkOk F sc_text_of (bind0 F fun _ _ _ _ _ _ us hl => match us, hl with | [_], _ => rfl) (fun vs H Q E h => ?_) (fun cdv A outer s H vs Q E hr h => ?_)
  · obtain ⟨v, u, rfl, _⟩ := h
    rfl
  obtain ⟨v, u, rfl, hv, k⟩ := h
  refine ⟨_, (pss_cons (ps_if (pt_cmpR op_isN (pv 0) pe_non (nomark _)) (pss_one (ps_ret pe_str)) pss_nil)
      (pss_cons (ps_if (pt_val (pe_callB call_isi (by rfl) T.z_isinstance (by decide +kernel) (pa_cons (pv 0) (pa_cons (pe_bltn (v := .ty "str") (by rfl) T.z_str (by decide +kernel) rfl) pa_nil)))) (pss_one (ps_ret (pv 0))) pss_nil)
      (pss_cons (ps_if (pt_val (pe_callB call_isi (by rfl) T.z_isinstance (by decide +kernel) (pa_cons (pv 0) (pa_cons (pe_glob (v := .ref (He.ga K "Function")) rfl T.g_Function rfl) pa_nil)))) (pss_one (ps_ret pe_str)) pss_nil)
      pss_never))), ?_⟩
  cases v with
  | non =>
    have hv' : u = .non := hv
    subst hv'
    exact ⟨_, rfl, rfl, _, rfl, iteT k⟩
  | word x =>
    have hv' : u = .str x := hv
    subst hv'
    refine ⟨_, rfl, rfl, _, rfl, iteF ?_⟩
    exact ⟨_, rfl, _, _, _, _, true, rfl, .ty "str", .base (.str x), kit_ty (by decide +kernel), true, rfl, iteT ⟨_, rfl, k⟩⟩
  | fn i =>
    obtain ⟨a, dx, b, c, d, e, f, rfl, ha⟩ := hv
    refine ⟨_, rfl, rfl, _, rfl, iteF ?_⟩
    refine ⟨_, rfl, _, _, _, _, false, rfl, .ty "str", insB_ok (T.x 5) ha T.cl_Function, of_decide_eq_true (T.x 9), false, rfl, iteF ?_⟩
    refine ⟨_, rfl, _, _, _, _, true, rfl, .own _, insB_ok (T.x 5) ha T.cl_Function, ?_, true, rfl, iteT k⟩
    unfold PySem.W.kitOne
    rw [if_pos (by simp)]
theorem nearest_lt {R : RA} {H H0 : Hp} {s : MS} (r : Rep K nm R H H0 s) : ∀ {k i j : Nat} {x : Nm}, i < R.nS → nearest s.mem.scs k i x = some j → j < R.nS
  | 0, i, j, x, hi, h => by cases h
  | k + 1, i, j, x, hi, h => by
    unfold nearest at h
    split at h
    · cases h; exact hi
    · obtain ⟨dx, ov, kvs, _, ho, _⟩ := r.scs i hi
      cases e : (s.mem.scs i).outer with
      | none => rw [e] at h; cases h
      | some i' =>
        rw [e] at h ho
        exact nearest_lt r ho.1 h
def spNearest (K : PySem.W.Frag) (nm : Nm → Str) : Sp := fun vs H Q _ => ∃ (R : RA) (H0 : Hp) (s : MS) (k i j : Nat) (x : Nm), vs = [.ref (R.sa i), .str (nm x)] ∧ i < R.nS ∧ Rep K nm R H H0 s ∧ nearest s.mem.scs k i x = some j ∧ Q (.ref (R.sa j)) H
theorem sc_Scope_nearest : FnScope ["self", "name", "scope"] ["self", "name"] (defScope s_Scope_nearest) := ⟨rfl, rfl, rfl, by decide +kernel, rfl, by decide +kernel, by decide +kernel⟩
theorem ok_Scope_nearest (T : Tx K mg) : Ok P w K mg base 1 (He.fAd K ("Scope", some "nearest")) ["self", "name"] [] (spNearest K nm) := by
  obtain ⟨fd, F⟩ := T.f_Scope_nearest
  refine mkOk F sc_Scope_nearest (bind0 F fun _ _ _ _ _ _ us hl => match us, hl with | [_, _], _ => rfl) (fun vs H Q E h => ?_) (fun cdv A outer s H vs Q E hr h => ?_)
  · obtain ⟨R, H0, s, k, i, j, x, rfl, _⟩ := h
    rfl
  obtain ⟨R, H0, s, n, i, j, x, rfl, hi, r, hn, k⟩ := h
  refine ⟨_, (pss_cons (ps_set (i := 2) sc_Scope_nearest.nd rfl (Or.inl rfl) (pv 0))
      (pss_cons (ps_while PassesOwn.never (pt_cmpR op_notN (pv 2) pe_non (nomark _)) (pss_cons (ps_if (pt_cmp (pc_din (hu_of hr) (pv 1) (pe_fld (pv 2) rfl))) (pss_one (ps_ret (pv 2))) pss_nil)
      (pss_one (ps_set (i := 2) sc_Scope_nearest.nd rfl (Or.inl rfl) (pe_fld (pv 2) rfl)))))
      (pss_one (ps_ret pe_non)))), ?_⟩
  refine ⟨_, rfl, fun m σ' H' => H' = H ∧ ∃ i', i' < R.nS ∧ nearest s.mem.scs m i' x = some j ∧ σ' = [some (.ref (R.sa i)), some (.str (nm x)), some (.ref (R.sa i'))], ⟨n, rfl, i, hi, hn, rfl⟩, ?_⟩
  rintro m σ' H' ⟨rfl, i', hi', hn', rfl⟩
  refine ⟨_, rfl, rfl, _, rfl, iteT ?_⟩
  obtain ⟨dx, ov, kvs, h1, h2, h3, h4⟩ := r.scs i' hi'
  cases m with
  | zero => cases hn'
  | succ m =>
    refine ⟨fun σ' H'' => H'' = H' ∧ ∃ i', i' < R.nS ∧ nearest s.mem.scs m i' x = some j ∧ σ' = [some (.ref (R.sa i)), some (.str (nm x)), some (.ref (R.sa i'))], fun σ' H'' z => ⟨m, Nat.lt_succ_self _, z⟩, ?_⟩
    refine ⟨_, rfl, _, rfl, _, _, dx, _, _, rfl, h1, T.cl_Scope, T.na_Scope_held, fsScope_held, _, _, rfl, DGet.k (k := Sum.inr (nm x)) h3, _, rfl, ?_⟩
    unfold nearest at hn'
    have hv := h4.vs x
    cases e : (s.mem.scs i').held x with
    | some v =>
      rw [e] at hv hn'
      obtain ⟨u, hu, _⟩ := hv
      rw [hu]
      refine iteT ⟨_, rfl, ?_⟩
      simp only [Option.isSome_some, if_true, Option.some.injEq] at hn'
      subst hn'
      exact k
    | none =>
      rw [e] at hv hn'
      have hv' : valV kvs (.inr (nm x)) = none := hv
      rw [hv']
      refine iteF ?_
      cases eo : (s.mem.scs i').outer with
      | none =>
        rw [eo] at hn'
        cases hn'
      | some i2 =>
        rw [eo] at hn' h2
        obtain ⟨l2, rfl⟩ := h2
        exact ⟨_, rfl, _, _, dx, _, _, rfl, h1, T.cl_Scope, T.na_Scope_outer, fsScope_outer, rfl, i2, l2, hn', rfl⟩

end
end K38
end
section
/-! K38Y: simple, holds, finish. -/
namespace K38
open PySem PySem.Spec PyProof.Rows L2
/-- only functions come -/
structure RX (R R' : RA) : Prop where
  ext : RExt R R'
  m : R'.m = R.m
  stk : R'.stk = R.stk
  prt : R'.prt = R.prt
  fr : R'.fr = R.fr
  sa : R'.sa = R.sa
  nS : R'.nS = R.nS
  sd : R'.sd = R.sd
theorem RX.refl (R : RA) : RX R R := ⟨.refl R, rfl, rfl, rfl, rfl, rfl, rfl, rfl⟩
theorem RX.trans {R R1 R2 : RA} (a : RX R R1) (b : RX R1 R2) : RX R R2 := ⟨a.ext.trans b.ext, b.m.trans a.m, b.stk.trans a.stk, b.prt.trans a.prt, b.fr.trans a.fr, b.sa.trans a.sa, b.nS.trans a.nS, b.sd.trans a.sd⟩
theorem RX.foot {R R' : RA} (a : RX R R') : R'.foot = R.foot := by unfold RA.foot; rw [a.m, a.stk, a.prt, a.fr]
/-- a frame with its scope -/
def FrSc (K : PySem.W.Frag) (R : RA) (H : Hp) (fr : Addr) (sc : Nat) : Prop := sc < R.nS ∧ ∃ (dx : Addr) (c d : V), H fr = some (.ins (He.ga K "Frame") dx (fsFrame (.ref (R.sa sc)) .non .non c d))
theorem FrSc.same {K : PySem.W.Frag} {R R' : RA} {H H' : Hp} {fr : Addr} {sc : Nat} (h : FrSc K R H fr sc) (x : RX R R') (S : Same H H') : FrSc K R' H' fr sc := by
  obtain ⟨h0, dx, c, d, e⟩ := h
  exact ⟨by rw [x.nS]; exact h0, dx, c, d, by rw [x.sa]; exact S _ _ e⟩
section
variable {P : Program} {w : World} {K : PySem.W.Frag} {mg : Str → Option Value} {base : Heap} {nm : Nm → Str}
def spMSimple (K : PySem.W.Frag) (nm : Nm → Str) : Sp := fun vs H Q _ => ∃ (R : RA) (H0 : Hp) (s : MS) (fr : Addr) (sc : Nat) (e : Ex) (v : V) (u : Vl) (m' : Mem), vs = [.ref R.m, .ref fr, v] ∧ Rep K nm R H H0 s ∧ FrSc K R H fr sc ∧ At H (eEx nm e) v ∧ simple s.mem sc e = some (u, m') ∧
  ∀ R' H' p w, Same H H' → H p = none → H' p = some (.lst [w]) → VlAt R' u w → RX R R' → Rep K nm R' H' H0 { s with mem := m' } → Q (.ref p) H'
theorem sc_Machine_simple : FnScope ["self", "frame", "simple", "kind", "scope"] ["self", "frame", "simple"] (defScope s_Machine_simple) := ⟨rfl, rfl, rfl, by decide +kernel, rfl, by decide +kernel, by decide +kernel⟩
theorem look_near {m : Mem} {sc : Nat} {x : Nm} {v : Vl} (h : look m sc x = some v) : ∃ j, nearest m.scs 5 sc x = some j ∧ (m.scs j).held x = some v := by
  unfold look at h
  cases e : nearest m.scs 5 sc x with
  | none => rw [e] at h; cases h
  | some j => rw [e] at h; exact ⟨j, rfl, h⟩
theorem ok_Machine_simple (T : Tx K mg) : Ok P w K mg base 3 (He.fAd K ("Machine", some "simple")) ["self", "frame", "simple"] [] (spMSimple K nm) := by
  obtain ⟨fd, F⟩ := T.f_Machine_simple
  obtain ⟨fd_Scope_nearest, us_Scope_nearest, G_Scope_nearest, b_Scope_nearest, v_Scope_nearest, k_Scope_nearest, _⟩ := ok_Scope_nearest (nm := nm) T
  obtain ⟨fd_Function_init, us_Function_init, G_Function_init, b_Function_init, v_Function_init, k_Function_init, _⟩ := ok_Function_init T
  refine mkOk F sc_Machine_simple (bind0 F fun _ _ _ _ _ _ us hl => match us, hl with | [_, _, _], _ => rfl) (fun vs H Q E h => ?_) (fun cdv A outer s H vs Q E hr h => ?_)
  · obtain ⟨R, H0, s, fr, sc, e, v, u, m', rfl, _⟩ := h
    rfl
  obtain ⟨R, H0, s, fr, sc, e, v, u, m', rfl, r, hfr, hv, hs, k⟩ := h
  refine ⟨_, (pss_cons (ps_set (i := 3) sc_Machine_simple.nd rfl (Or.inl rfl) (pe_ix ix_tup (pv 2) pe_int (fun _ _ => rfl)))
      (pss_cons (ps_if (pt_cmpR op_eq (pv 3) pe_str (nomark _)) (pss_one (ps_ret (pe_lst (pa_cons (pe_ix ix_tup (pv 2) pe_int (fun _ _ => rfl)) pa_nil)))) pss_nil)
      (pss_cons (ps_if (pt_cmpR op_eq (pv 3) pe_str (nomark _)) (pss_one (ps_ret (pe_lst (pa_cons pe_non pa_nil)))) pss_nil)
      (pss_cons (ps_if (pt_cmpR op_eq (pv 3) pe_str (nomark _)) (pss_cons (ps_set (i := 4) sc_Machine_simple.nd rfl (Or.inl rfl) (pe_meth (pe_fld (pv 1) rfl) T.cl_Scope T.me_Scope_nearest G_Scope_nearest (hr.mono (by decide)) b_Scope_nearest v_Scope_nearest pass0 (pa_cons (pe_ix ix_tup (pv 2) pe_int (fun _ _ => rfl)) pa_nil)))
      (pss_one (ps_ret (pe_ifExp (pt_cmpR op_isN (pv 4) pe_non (nomark _)) (pe_lst pa_nil) (pe_lst (pa_cons (pe_dget (hu_of hr) (pe_fld (pv 4) rfl) (pe_ix ix_tup (pv 2) pe_int (fun _ _ => rfl)) (fun _ _ => rfl)) pa_nil)))))) pss_nil)
      (pss_cons (ps_if (pt_cmpR op_eq (pv 3) pe_str (nomark _)) pss_never pss_nil)
      (pss_cons (ps_if (pt_cmpR op_eq (pv 3) pe_str (nomark _)) pss_never pss_nil)
      (pss_cons (ps_if (pt_cmpR op_eq (pv 3) pe_str (nomark _)) (pss_one (ps_ret (pe_lst (pa_cons (pe_make T.mk_Function G_Function_init (hr.mono (by decide)) rfl T.g_Function b_Function_init v_Function_init pass0 (pa_cons (pe_ix ix_tup (pv 2) pe_int (fun _ _ => rfl)) (pa_cons (pe_ix ix_tup (pv 2) pe_int (fun _ _ => rfl)) (pa_cons (pe_fld (pv 1) rfl) (pa_cons (pe_fld (pv 1) rfl) (pa_cons (pe_fld (pv 1) rfl) pa_nil)))))) pa_nil)))) pss_nil)
      pss_never))))))), ?_⟩
  obtain ⟨sN, dxf, cf, df, hf⟩ := id hfr
  cases e with
  | word x =>
    unfold eEx at hv
    obtain ⟨p, a, b, rfl, hp, ha, hb⟩ := hv.tup2
    cases ha.str
    cases hb.str
    cases hs
    refine ⟨_, rfl, p, _, 0, _, rfl, rfl, SqT.of hp, atI_nat (j := 0) rfl, ?_⟩
    refine ⟨_, rfl, rfl, _, rfl, kT (by decide +kernel) ?_⟩
    refine ⟨_, rfl, p, _, 1, _, rfl, rfl, SqT.of hp, atI_nat (j := 1) rfl, by show 1 ≤ sizeLine; decide, fun q hq => ?_⟩
    have S := same_new hq (.lst [.str x])
    exact k R _ q _ S hq upd_same rfl (.refl R) (r.same S)
  | non =>
    unfold eEx at hv
    obtain ⟨p, a, rfl, hp, ha⟩ := hv.tup1
    cases ha.str
    cases hs
    refine ⟨_, rfl, p, _, 0, _, rfl, rfl, SqT.of hp, atI_nat (j := 0) rfl, ?_⟩
    refine ⟨_, rfl, rfl, _, rfl, kF (by decide +kernel) ?_⟩
    refine ⟨_, rfl, rfl, _, rfl, kT (by decide +kernel) ?_⟩
    refine ⟨by show 1 ≤ sizeLine; decide, fun q hq => ?_⟩
    have S := same_new hq (.lst [.non])
    exact k R _ q _ S hq upd_same rfl (.refl R) (r.same S)
  | name x =>
    unfold eEx at hv
    obtain ⟨p, a, b, rfl, hp, ha, hb⟩ := hv.tup2
    cases ha.str
    cases hb.str
    unfold simple at hs
    obtain ⟨u', hu', e1⟩ := Option.map_eq_some_iff.mp hs
    cases e1
    obtain ⟨j, hj, hh⟩ := look_near hu'
    have jN := nearest_lt r sN hj
    obtain ⟨dxs, ovs, kvs0, hs1, _⟩ := r.scs sc sN
    obtain ⟨dxj, ovj, kvs, h1, h2, h3, h4⟩ := r.scs j jN
    have hx := h4.vs x
    rw [hh] at hx
    obtain ⟨wv, hw, hvl⟩ := hx
    refine ⟨_, rfl, p, _, 0, _, rfl, rfl, SqT.of hp, atI_nat (j := 0) rfl, ?_⟩
    refine ⟨_, rfl, rfl, _, rfl, kF (by decide +kernel) ?_⟩
    refine ⟨_, rfl, rfl, _, rfl, kF (by decide +kernel) ?_⟩
    refine ⟨_, rfl, rfl, _, rfl, kT (by decide +kernel) ?_⟩
    refine ⟨_, rfl, fr, _, dxf, _, _, rfl, hf, T.cl_Frame, T.na_Frame_scope, fsFrame_scope, R.sa sc, dxs, _, rfl, hs1, fsScope_no_nearest, _, rfl, p, _, 1, _, rfl, rfl, SqT.of hp, atI_nat (j := 1) rfl, R, H0, s, 5, sc, j, x, rfl, sN, r, hj, ?_⟩
    refine ⟨_, rfl, rfl, _, rfl, iteF ?_⟩
    refine ⟨_, rfl, R.sa j, _, dxj, _, _, rfl, h1, T.cl_Scope, T.na_Scope_held, fsScope_held, _, rfl, p, _, 1, _, rfl, rfl, SqT.of hp, atI_nat (j := 1) rfl, _, wv, rfl, (by rw [← hw]; exact DGet.k (k := Sum.inr (nm x)) h3), by show 1 ≤ sizeLine; decide, fun q hq => ?_⟩
    have S := same_new hq (.lst [wv])
    exact k R _ q _ S hq upd_same hvl (.refl R) (r.same S)
  | fn ps b =>
    unfold eEx at hv
    obtain ⟨p, a, b1, b2, rfl, hp, ha, hb1, hb2⟩ := hv.tup3
    cases ha.str
    have hs' : (if ps.length ≤ 3 then some (Vl.fn s.mem.nF, newFn s.mem ⟨ps, b, sc⟩) else none) = some (u, m') := hs
    by_cases hl3 : ps.length ≤ 3
    case neg => rw [if_neg hl3] at hs'; cases hs'
    rw [if_pos hl3] at hs'
    cases hs'
    obtain ⟨p1, vs1, rfl, hp1, hn1⟩ := hb1.tup
    cases ats_names hn1
    refine ⟨_, rfl, p, _, 0, _, rfl, rfl, SqT.of hp, atI_nat (j := 0) rfl, ?_⟩
    refine ⟨_, rfl, rfl, _, rfl, kF (by decide +kernel) ?_⟩
    refine ⟨_, rfl, rfl, _, rfl, kF (by decide +kernel) ?_⟩
    refine ⟨_, rfl, rfl, _, rfl, kF (by decide +kernel) ?_⟩
    refine ⟨_, rfl, rfl, _, rfl, kF (by decide +kernel) ?_⟩
    refine ⟨_, rfl, rfl, _, rfl, kF (by decide +kernel) ?_⟩
    refine ⟨_, rfl, rfl, _, rfl, kT (by decide +kernel) ?_⟩
    refine ⟨_, rfl, p, _, 1, _, rfl, rfl, SqT.of hp, atI_nat (j := 1) rfl, _, rfl, p, _, 2, _, rfl, rfl, SqT.of hp, atI_nat (j := 2) rfl, _, rfl, fr, _, dxf, _, _, rfl, hf, T.cl_Frame, T.na_Frame_scope, fsFrame_scope, _, rfl, fr, _, dxf, _, _, rfl, hf, T.cl_Frame, T.na_Frame_me, fsFrame_me, _, rfl, fr, _, dxf, _, _, rfl, hf, T.cl_Frame, T.na_Frame_owner, fsFrame_owner, fun y ey ny ney nye => ?_⟩
    refine ⟨y, ey, _, _, _, _, _, rfl, upd_same, rfl, ?_⟩
    have S1 := made_new (fs := fsFunction (.ref p1) b2 (.ref (R.sa sc)) .non .non) (C := He.ga K "Function") ny ney
    have e1 : (upd (upd (upd H ey (.own y)) y (.ins (He.ga K "Function") ey [])) y (.ins (He.ga K "Function") ey (fsFunction (.ref p1) b2 (.ref (R.sa sc)) .non .non))) y = some (.ins (He.ga K "Function") ey (fsFunction (.ref p1) b2 (.ref (R.sa sc)) .non .non)) := upd_same
    generalize upd (upd (upd H ey (.own y)) y (.ins (He.ga K "Function") ey [])) y (.ins (He.ga K "Function") ey (fsFunction (.ref p1) b2 (.ref (R.sa sc)) .non .non)) = H1 at S1 e1 ⊢
    refine ⟨by show 1 ≤ sizeLine; decide, fun q hq => ?_⟩
    have S2 := same_new hq (.lst [.ref y])
    have S := S1.trans S2
    have hq0 : H q = none := S1.free hq
    have rS := r.same S
    have hpp : (upd H1 q (.lst [.ref y])) p1 = some (.tup (ps.map fun x => .str (nm x))) := by
      rw [show (ps.map fun x => V.str (nm x)) = (ps.map nm).map V.str by rw [List.map_map]; rfl]
      exact S _ _ hp1
    obtain ⟨rN, eN⟩ := rS.newFn (g := ⟨ps, b, sc⟩) (p := y) (dx := ey) (pp := p1) (vb := b2) sN (S2 _ _ e1) hpp (At.same (tps_of S) _ _ hb2) hl3
    refine k _ _ q (.ref y) S hq0 upd_same ⟨?_, ?_⟩ ⟨eN, rfl, rfl, rfl, rfl, rfl, rfl, rfl⟩ rN
    · show s.mem.nF < R.nF + 1
      rw [r.nF]; exact Nat.lt_succ_self _
    · show V.ref y = V.ref (if s.mem.nF = R.nF then y else _)
      rw [if_pos r.nF.symm]


/-! ### holds -/
theorem pure_simple {m : Mem} {sc : Nat} {e : Ex} {v : Vl} (h : pureV m sc e = some v) : simple m sc e = some (v, m) := by
  cases e with
  | word x => cases h; rfl
  | non => cases h; rfl
  | name x =>
    have h' : look m sc x = some v := h
    show (look m sc x).map (fun v => (v, m)) = _
    rw [h']; rfl
  | fn ps b => cases h
def spHolds (K : PySem.W.Frag) (nm : Nm → Str) (l : Nat) : Sp := fun vs H Q _ => ∃ (R : RA) (H0 : Hp) (s : MS) (fr : Addr) (sc : Nat) (t : Te) (v : V) (b : Bool), vs = [.ref R.m, .ref fr, v] ∧ Rep K nm R H H0 s ∧ FrSc K R H fr sc ∧ At H (eTe nm t) v ∧ holds s.mem sc t = some b ∧ dep t ≤ l ∧
  ∀ H', Same H H' → Q (.bl b) H'
theorem mem_self (s : MS) : ({ s with mem := s.mem } : MS) = s := rfl
theorem sc_Machine_holds : FnScope ["self", "frame", "test", "held", "one", "other"] ["self", "frame", "test"] (defScope s_Machine_holds) := ⟨rfl, rfl, rfl, by decide +kernel, rfl, by decide +kernel, by decide +kernel⟩
theorem ok_Machine_holds (T : Tx K mg) : ∀ l : Nat, Ok P w K mg base (4 + l) (He.fAd K ("Machine", some "holds")) ["self", "frame", "test"] [] (spHolds K nm l)
  | 0 => by
    obtain ⟨fd, F⟩ := T.f_Machine_holds
    refine mkOk (k := 3) F sc_Machine_holds (bind0 F fun _ _ _ _ _ _ us hl => match us, hl with | [_, _, _], _ => rfl) (fun vs H Q E h => ?_) (fun cdv A outer s H vs Q E hr h => ?_)
    · obtain ⟨R, H0, s, fr, sc, t, v, b, rfl, _⟩ := h
      rfl
    obtain ⟨R, H0, s, fr, sc, t, v, b, rfl, r, hfr, hv, hb, hl, k⟩ := h
    exfalso
    cases t <;> simp [dep] at hl
  | l + 1 => by
    obtain ⟨fd, F⟩ := T.f_Machine_holds
    have OH := ok_Machine_holds T l
    obtain ⟨fd_Machine_simple, us_Machine_simple, G_Machine_simple, b_Machine_simple, v_Machine_simple, k_Machine_simple, _⟩ := ok_Machine_simple (nm := nm) T
    obtain ⟨fd_Machine_holds, us_Machine_holds, G_Machine_holds, b_Machine_holds, v_Machine_holds, k_Machine_holds, _⟩ := OH
    refine mkOk (k := 4 + l) F sc_Machine_holds (bind0 F fun _ _ _ _ _ _ us hl => match us, hl with | [_, _, _], _ => rfl) (fun vs H Q E h => ?_) (fun cdv A outer s H vs Q E hr h => ?_)
    · obtain ⟨R, H0, s, fr, sc, t, v, b, rfl, _⟩ := h
      rfl
    obtain ⟨R, H0, s, fr, sc, t, v, b, rfl, r, hfr, hv, hb, hl, k⟩ := h
    refine ⟨_, (pss_cons (ps_if (pt_cmpR op_eq (pe_ix ix_tup (pv 2) pe_int (fun _ _ => rfl)) pe_str (nomark _)) (pss_cons (ps_set (i := 4) sc_Machine_holds.nd rfl (Or.inl rfl) (pe_meth (pv 0) T.cl_Machine T.me_Machine_simple G_Machine_simple (hr.mono (by omega)) b_Machine_simple v_Machine_simple pass0 (pa_cons (pv 1) (pa_cons (pe_ix ix_tup (pv 2) pe_int (fun _ _ => rfl)) pa_nil))))
      (pss_cons (ps_set (i := 5) sc_Machine_holds.nd rfl (Or.inl rfl) (pe_meth (pv 0) T.cl_Machine T.me_Machine_simple G_Machine_simple (hr.mono (by omega)) b_Machine_simple v_Machine_simple pass0 (pa_cons (pv 1) (pa_cons (pe_ix ix_tup (pv 2) pe_int (fun _ _ => rfl)) pa_nil))))
      (pss_cons (ps_if (PW.pt (pw_or (pt_cmpR op_eq (pe_callB call_len_seq (by rfl) T.z_len PySem.boot_len (pa_cons (pv 4) pa_nil)) pe_int (nomark _)) (pw_or1 (pt_cmpR op_eq (pe_callB call_len_seq (by rfl) T.z_len PySem.boot_len (pa_cons (pv 5) pa_nil)) pe_int (nomark _))))) (pss_one (ps_ret pe_non)) pss_nil)
      (pss_one (ps_ret (pe_cmpR (OpR.or op_eq (op_eqI hr.units0)) (pe_ix ix_list (pv 4) pe_int (fun _ _ => rfl)) (pe_ix ix_list (pv 5) pe_int (fun _ _ => rfl)) (nomark _))))))) pss_nil)
      (pss_cons (ps_set (i := 3) sc_Machine_holds.nd rfl (Or.inl rfl) (pe_meth (pv 0) T.cl_Machine T.me_Machine_holds G_Machine_holds (hr.mono (by omega)) b_Machine_holds v_Machine_holds pass0 (pa_cons (pv 1) (pa_cons (pe_ix ix_tup (pv 2) pe_int (fun _ _ => rfl)) pa_nil))))
      (pss_cons (ps_if (pt_cmpR op_eq (pe_ix ix_tup (pv 2) pe_int (fun _ _ => rfl)) pe_str (nomark _)) (pss_one (ps_ret (pe_ifExp (pt_cmpR op_isN (pv 3) pe_non (nomark _)) pe_non (pe_not (pv 3))))) pss_nil)
      pss_never))), ?_⟩
    obtain ⟨dxm, kv, gv, ev, hm, _⟩ := r.mach
    cases t with
    | same a c =>
      unfold eTe at hv
      obtain ⟨p, x, y, z, rfl, hp, hx, hy, hz⟩ := hv.tup3
      cases hx.str
      unfold holds at hb
      obtain ⟨va, hva, hb⟩ := Option.bind_eq_some_iff.mp hb
      obtain ⟨vc, hvc, hb⟩ := Option.bind_eq_some_iff.mp hb
      refine ⟨_, rfl, p, _, 0, _, rfl, rfl, SqT.of hp, atI_nat (j := 0) rfl, rfl, _, rfl, kT (by decide +kernel) ?_⟩
      refine ⟨_, rfl, R.m, dxm, _, rfl, hm, fsMachine_no_simple, _, rfl, _, rfl, p, _, 1, _, rfl, rfl, SqT.of hp, atI_nat (j := 1) rfl, R, H0, s, fr, sc, a, y, va, s.mem, rfl, r, hfr, hy, pure_simple hva, fun R1 H1 q1 w1 S1 n1 e1 vl1 x1 r1 => ?_⟩
      have hp1 := S1 _ _ hp
      have hm1 := S1 _ _ hm
      refine ⟨_, rfl, R.m, dxm, _, rfl, hm1, fsMachine_no_simple, _, rfl, _, rfl, p, _, 2, _, rfl, rfl, SqT.of hp1, atI_nat (j := 2) rfl, R1, H0, s, fr, sc, c, z, vc, s.mem, (by rw [x1.m]; rfl), r1, hfr.same x1 S1, At.same (tps_of S1) _ _ hz, pure_simple hvc, fun R2 H2 q2 w2 S2 n2 e2 vl2 x2 r2 => ?_⟩
      have e1' := S2 _ _ e1
      have vl1' := vl1.ext x2.ext
      have S := S1.trans S2
      refine ⟨_, rfl, q1, _, rfl, .inl (SqL.of e1'), rfl, _, rfl, kF (by simp) ?_⟩
      refine ⟨_, rfl, q2, _, rfl, .inl (SqL.of e2), rfl, _, rfl, kF (by simp) ?_⟩
      refine ⟨_, rfl, q1, _, 0, _, rfl, rfl, SqL.of e1', atI_nat (j := 0) rfl, _, rfl, q2, _, 0, _, rfl, rfl, SqL.of e2, atI_nat (j := 0) rfl, ?_⟩
      have fin : ∀ b', b' = b → Q (.bl b') H2 := fun b' e => by rw [e]; exact k _ S
      cases va with
      | non =>
        have hw1 : w1 = .non := vl1'
        subst hw1
        cases vc with
        | non =>
          have hw2 : w2 = .non := vl2
          subst hw2
          refine .inl ⟨rfl, fin _ ?_⟩
          cases hb; decide
        | word d =>
          have hw2 : w2 = .str d := vl2
          subst hw2
          refine .inl ⟨rfl, fin _ ?_⟩
          cases hb; rfl
        | fn i => cases hb
      | word d =>
        have hw1 : w1 = .str d := vl1'
        subst hw1
        cases vc with
        | non =>
          have hw2 : w2 = .non := vl2
          subst hw2
          refine .inl ⟨rfl, fin _ ?_⟩
          cases hb; rfl
        | word d' =>
          have hw2 : w2 = .str d' := vl2
          subst hw2
          refine .inl ⟨rfl, fin _ ?_⟩
          have hb' : some (decide (d = d')) = some b := hb
          cases hb'
          by_cases e : d = d'
          · subst e; simp
          · rw [decide_eq_false e]; exact decide_eq_false fun z => e (V.str.inj z)
        | fn i => cases hb
      | fn i =>
        obtain ⟨hi, rfl⟩ := vl1'
        obtain ⟨_, dxq, pq, vbq, hq, _⟩ := r2.fns i hi
        have mro := PySem.W.mroIn K (He.ga K "Function") (.type "object")
        have hmr : PySem.W.mroIn K (He.ga K "Function") (.type "object") = some true := by
          have c := T.x 5
          obtain ⟨_, c⟩ := He.ba c
          obtain ⟨_, c⟩ := He.ba c
          obtain ⟨_, c⟩ := He.ba c
          exact of_decide_eq_true c
        have hfn := He.eqO_ok (T.x 10)
        have go : (w2 = .non ∨ ∃ z, w2 = .str z) → false = b → rEqI K (.ref (R2.fa i)) w2 H2 (fun x H => Q x H) ∨ False := fun h e => .inl ⟨_, _, dxq, _, rfl, hq, hmr, hfn, h, by rw [e]; exact k _ S⟩
        cases vc with
        | non =>
          have hw2 : w2 = .non := vl2
          cases hb
          exact .inr ((go (.inl hw2) rfl).elim id False.elim)
        | word d' =>
          have hw2 : w2 = .str d' := vl2
          cases hb
          exact .inr ((go (.inr ⟨d', hw2⟩) rfl).elim id False.elim)
        | fn i => cases hb
    | not t =>
      unfold eTe at hv
      obtain ⟨p, x, y, rfl, hp, hx, hy⟩ := hv.tup2
      cases hx.str
      unfold holds at hb
      obtain ⟨b', hb', e⟩ := Option.map_eq_some_iff.mp hb
      subst e
      have hl' : dep t ≤ l := by simp only [dep] at hl; omega
      refine ⟨_, rfl, p, _, 0, _, rfl, rfl, SqT.of hp, atI_nat (j := 0) rfl, rfl, _, rfl, kF (by decide +kernel) ?_⟩
      refine ⟨_, rfl, R.m, dxm, _, rfl, hm, fsMachine_no_holds, _, rfl, _, rfl, p, _, 1, _, rfl, rfl, SqT.of hp, atI_nat (j := 1) rfl, R, H0, s, fr, sc, t, y, b', rfl, r, hfr, hy, hb', hl', fun H1 S1 => ?_⟩
      have hp1 := S1 _ _ hp
      refine ⟨_, rfl, p, _, 0, _, rfl, rfl, SqT.of hp1, atI_nat (j := 0) rfl, rfl, _, rfl, kT (by decide +kernel) ?_⟩
      exact ⟨_, rfl, rfl, _, rfl, kF (by simp) ⟨_, rfl, b', rfl, k _ S1⟩⟩

end
end K38
end
section
/-! K38Z: finish, leave, behind, choose. -/
namespace K38
open PySem PySem.Spec PyProof.Rows L2
/-- what a method leaves -/
structure Nx (K : PySem.W.Frag) (nm : Nm → Str) (R R' : RA) (H H' H0 : Hp) (s' : MS) : Prop where
  rep : Rep K nm R' H' H0 s'
  m : R'.m = R.m
  prt : R'.prt = R.prt
  ext : RExt R R'
  tps : Tps H H'
section
variable {P : Program} {w : World} {K : PySem.W.Frag} {mg : Str → Option Value} {base : Heap} {nm : Nm → Str} {R R' R'' : RA} {H H' H'' H0 : Hp} {s s' s'' : MS}
theorem Nx.same (n : Nx K nm R R' H H' H0 s') (S : Same H' H'') : Nx K nm R R' H H'' H0 s' := ⟨n.rep.same S, n.m, n.prt, n.ext, n.tps.trans (tps_of S)⟩
theorem Nx.trans (a : Nx K nm R R' H H' H0 s') (b : Nx K nm R' R'' H' H'' H0 s'') : Nx K nm R R'' H H'' H0 s'' := ⟨b.rep, b.m.trans a.m, b.prt.trans a.prt, a.ext.trans b.ext, a.tps.trans b.tps⟩
theorem Nx.of (r : Rep K nm R H' H0 s') (t : Tps H H') : Nx K nm R R H H' H0 s' := ⟨r, rfl, rfl, .refl R, t⟩
theorem Nx.self (r : Rep K nm R H H0 s) : Nx K nm R R H H H0 s := ⟨r, rfl, rfl, .refl R, Tps.refl H⟩
/-- the outcome ("on",) -/
theorem Nx.on {Q : VK} (n : Nx K nm R R' H H' H0 s') (k : ∀ R' H' v', Nx K nm R R' H H' H0 s' → OcAt R' H' .on v' → Q v' H') : 1 ≤ sizeLine ∧ ∀ p, H' p = none → Q (.ref p) (upd H' p (.tup [.str "on"])) :=
  ⟨by decide, fun p hp => k R' _ _ (n.same (same_new hp _)) ⟨p, rfl, upd_same⟩⟩
def spFinish (K : PySem.W.Frag) (nm : Nm → Str) : Sp := fun vs H Q _ => ∃ (R : RA) (H0 : Hp) (s : MS) (fr : Addr) (sc : Nat) (st : Sm) (v : V) (u : Vl) (w : V) (o : Oc) (m' : Mem), vs = [.ref R.m, .ref fr, v, w] ∧ Rep K nm R H H0 s ∧ FrSc K R H fr sc ∧ At H (eSm nm st) v ∧ VlAt R u w ∧ finish s.mem sc st u = some (o, m') ∧
  ∀ R' H' v', Nx K nm R R' H H' H0 { s with mem := m' } → OcAt R' H' o v' → Q v' H'
theorem sc_Machine_finish : FnScope ["self", "frame", "statement", "value", "kind", "scope"] ["self", "frame", "statement", "value"] (defScope s_Machine_finish) := ⟨rfl, rfl, rfl, by decide +kernel, rfl, by decide +kernel, by decide +kernel⟩
theorem ok_Machine_finish (T : Tx K mg) (N : NmOk nm) : Ok P w K mg base 2 (He.fAd K ("Machine", some "finish")) ["self", "frame", "statement", "value"] [] (spFinish K nm) := by
  obtain ⟨fd, F⟩ := T.f_Machine_finish
  obtain ⟨fd_Scope_nearest, us_Scope_nearest, G_Scope_nearest, b_Scope_nearest, v_Scope_nearest, k_Scope_nearest, _⟩ := ok_Scope_nearest (nm := nm) T
  refine mkOk F sc_Machine_finish (bind0 F fun _ _ _ _ _ _ us hl => match us, hl with | [_, _, _, _], _ => rfl) (fun vs H Q E h => ?_) (fun cdv A outer s H vs Q E hr h => ?_)
  · obtain ⟨R, H0, s, fr, sc, st, v, u, w, o, m', rfl, _⟩ := h
    rfl
  obtain ⟨R, H0, s, fr, sc, st, v, u, w, o, m', rfl, r, hfr, hv, hu, hs, k⟩ := h
  refine ⟨_, (pss_cons (ps_set (i := 4) sc_Machine_finish.nd rfl (Or.inl rfl) (pe_ix ix_tup (pv 2) pe_int (fun _ _ => rfl)))
      (pss_cons (ps_if (PW.pt (pw_or (pt_cmpR op_eq (pv 4) pe_str (nomark _)) (pw_or1 (pt_cmpR op_eq (pv 4) pe_str (nomark _))))) (pss_one (ps_ret (pe_tup (pa_cons (pv 4) (pa_cons (pv 3) pa_nil))))) pss_nil)
      (pss_cons (ps_if (pt_cmpR op_eq (pv 4) pe_str (nomark _)) (pss_one (ps_dput (hu_of hr) (pe_fld (pe_fld (pv 1) rfl) rfl) (pe_ix ix_tup (pv 2) pe_int (fun _ _ => rfl)) (pv 3) rfl)) pss_nil)
      (pss_cons (ps_if (pt_cmpR op_eq (pv 4) pe_str (nomark _)) (pss_cons (ps_set (i := 5) sc_Machine_finish.nd rfl (Or.inl rfl) (pe_meth (pe_fld (pv 1) rfl) T.cl_Scope T.me_Scope_nearest G_Scope_nearest (hr.mono (by decide)) b_Scope_nearest v_Scope_nearest pass0 (pa_cons (pe_ix ix_tup (pv 2) pe_int (fun _ _ => rfl)) pa_nil)))
      (pss_cons (ps_if (pt_cmpR op_isN (pv 5) pe_non (nomark _)) (pss_one (ps_ret (pe_tup (pa_cons pe_str (pa_cons pe_str pa_nil))))) pss_nil)
      (pss_one (ps_dput (hu_of hr) (pe_fld (pv 5) rfl) (pe_ix ix_tup (pv 2) pe_int (fun _ _ => rfl)) (pv 3) rfl)))) pss_nil)
      (pss_cons (ps_if (pt_cmpR op_eq (pv 4) pe_str (nomark _)) pss_never pss_nil)
      (pss_one (ps_ret (pe_tup (pa_cons pe_str pa_nil))))))))), ?_⟩
  obtain ⟨sN, dxf, cf, df, hf⟩ := id hfr
  obtain ⟨dxs, ovs, kvs, hs1, hs2, hs3, hs4⟩ := r.scs sc sN
  cases st with
  | lt x rr =>
    unfold eSm at hv
    obtain ⟨p, a, b, c, rfl, hp, ha, hb, hc⟩ := hv.tup3
    cases ha.str
    cases hb.str
    cases hs
    refine ⟨_, rfl, p, _, 0, _, rfl, rfl, SqT.of hp, atI_nat (j := 0) rfl, ?_⟩
    refine ⟨_, rfl, rfl, _, rfl, kF (by decide +kernel) ?_⟩
    refine ⟨_, rfl, rfl, _, rfl, kF (by decide +kernel) ?_⟩
    refine ⟨_, rfl, rfl, _, rfl, kT (by decide +kernel) ?_⟩
    refine ⟨_, rfl, _, rfl, fr, _, dxf, _, _, rfl, hf, T.cl_Frame, T.na_Frame_scope, fsFrame_scope, R.sa sc, _, dxs, _, _, rfl, hs1, T.cl_Scope, T.na_Scope_held, fsScope_held, _, rfl, p, _, 1, _, rfl, rfl, SqT.of hp, atI_nat (j := 1) rfl, R.sd sc, _, rfl, DPut.k (k := Sum.inr (nm x)) hs3 (Nat.lt_of_le_of_lt hs4.len (by decide)), ?_⟩
    have r1 := r.put N sN hu (x := x) hs3
    have t1 : Tps H (upd H (R.sd sc) (.dK (putK kvs (.inr (nm x)) w))) := off_tps hs3 (by simp [tg])
    generalize upd H (R.sd sc) (.dK (putK kvs (.inr (nm x)) w)) = H1 at r1 t1
    refine ⟨_, rfl, rfl, _, rfl, kF (by decide +kernel) ?_⟩
    refine ⟨_, rfl, rfl, _, rfl, kF (by decide +kernel) ?_⟩
    exact (Nx.of r1 t1).on k
  | st x rr =>
    unfold eSm at hv
    obtain ⟨p, a, b, c, rfl, hp, ha, hb, hc⟩ := hv.tup3
    cases ha.str
    cases hb.str
    unfold finish at hs
    obtain ⟨j, hj, e1⟩ := Option.map_eq_some_iff.mp hs
    cases e1
    have jN := nearest_lt r sN hj
    obtain ⟨dxj, ovj, kvj, h1, h2, h3, h4⟩ := r.scs j jN
    refine ⟨_, rfl, p, _, 0, _, rfl, rfl, SqT.of hp, atI_nat (j := 0) rfl, ?_⟩
    refine ⟨_, rfl, rfl, _, rfl, kF (by decide +kernel) ?_⟩
    refine ⟨_, rfl, rfl, _, rfl, kF (by decide +kernel) ?_⟩
    refine ⟨_, rfl, rfl, _, rfl, kF (by decide +kernel) ?_⟩
    refine ⟨_, rfl, rfl, _, rfl, kT (by decide +kernel) ?_⟩
    refine ⟨_, rfl, fr, _, dxf, _, _, rfl, hf, T.cl_Frame, T.na_Frame_scope, fsFrame_scope, R.sa sc, dxs, _, rfl, hs1, fsScope_no_nearest, _, rfl, p, _, 1, _, rfl, rfl, SqT.of hp, atI_nat (j := 1) rfl, R, H0, s, 5, sc, j, x, rfl, sN, r, hj, ?_⟩
    refine ⟨_, rfl, rfl, _, rfl, iteF ?_⟩
    refine ⟨_, rfl, _, rfl, R.sa j, _, dxj, _, _, rfl, h1, T.cl_Scope, T.na_Scope_held, fsScope_held, _, rfl, p, _, 1, _, rfl, rfl, SqT.of hp, atI_nat (j := 1) rfl, R.sd j, _, rfl, DPut.k (k := Sum.inr (nm x)) h3 (Nat.lt_of_le_of_lt h4.len (by decide)), ?_⟩
    have r1 := r.put N jN hu (x := x) h3
    have t1 : Tps H (upd H (R.sd j) (.dK (putK kvj (.inr (nm x)) w))) := off_tps h3 (by simp [tg])
    generalize upd H (R.sd j) (.dK (putK kvj (.inr (nm x)) w)) = H1 at r1 t1
    refine ⟨_, rfl, rfl, _, rfl, kF (by decide +kernel) ?_⟩
    exact (Nx.of r1 t1).on k
  | ret rr =>
    unfold eSm at hv
    obtain ⟨p, a, b, rfl, hp, ha, hb⟩ := hv.tup2
    cases ha.str
    cases hs
    refine ⟨_, rfl, p, _, 0, _, rfl, rfl, SqT.of hp, atI_nat (j := 0) rfl, ?_⟩
    refine ⟨_, rfl, rfl, _, rfl, kT (by decide +kernel) ?_⟩
    refine iteT ?_
    refine ⟨_, rfl, _, rfl, by show 2 ≤ sizeLine; decide, fun q hq => ?_⟩
    exact k R _ _ ((Nx.self r).same (same_new hq _)) ⟨q, w, rfl, upd_same, hu⟩
  | rs rr =>
    unfold eSm at hv
    obtain ⟨p, a, b, rfl, hp, ha, hb⟩ := hv.tup2
    cases ha.str
    cases hs
    refine ⟨_, rfl, p, _, 0, _, rfl, rfl, SqT.of hp, atI_nat (j := 0) rfl, ?_⟩
    refine ⟨_, rfl, rfl, _, rfl, kF (by decide +kernel) ?_⟩
    refine ⟨_, rfl, rfl, _, rfl, kT (by decide +kernel) ?_⟩
    refine ⟨_, rfl, _, rfl, by show 2 ≤ sizeLine; decide, fun q hq => ?_⟩
    exact k R _ _ ((Nx.self r).same (same_new hq _)) ⟨q, w, rfl, upd_same, hu⟩
  | pr e => cases hs
  | iff t a b => cases hs
  | whl t a => cases hs
  | tr a x b => cases hs
  | la a b => cases hs
/-! ### leave -/
/-- the stack's length is told by the frames' -/
theorem Rep.slen (r : Rep K nm R H H0 s) : (R.fr.reverse.map fun x => V.ref x.a).length = s.frs.length := by
  rw [List.length_map, List.length_reverse]
  exact r.frs.length

theorem fsM_len {a b c d e f : V} : (fsMachine a b c d e f).length < 1000 := by show 6 < 1000; decide
theorem fsF_len {a b c d e : V} : (fsFrame a b c d e).length < 1000 := by show 5 < 1000; decide
theorem fsP_len {a b c d e : V} : (fsPart a b c d e).length < 1000 := by show 5 < 1000; decide
def spLeave (K : PySem.W.Frag) (nm : Nm → Str) : Sp := fun vs H Q _ => ∃ (R : RA) (H0 : Hp) (s : MS) (f : Fr) (fs : List Fr) (o : Oc) (v : V) (o' : Oc) (s' : MS), vs = [.ref R.m, v] ∧ Rep K nm R H H0 s ∧ s.frs = f :: fs ∧ OcAt R H o v ∧ leave s fs o = some (o', s') ∧
  ∀ R' H' v', Nx K nm R R' H H' H0 s' → OcAt R' H' o' v' → Q v' H'
theorem vl_text (r : Rep K nm R H H0 s) (u : Vl) (w : V) : VlAt R u w → (match u with | .non => w = .non | .word x => w = .str x | .fn _ => ∃ a dx b c d e f, w = .ref a ∧ H a = some (.ins (He.ga K "Function") dx (fsFunction b c d e f))) := by
  intro h
  cases u with
  | non => exact h
  | word x => exact h
  | fn i =>
    obtain ⟨hi, rfl⟩ := h
    obtain ⟨_, dx, p, vb, h1, _⟩ := r.fns i hi
    exact ⟨_, _, _, _, _, _, _, rfl, h1⟩
theorem sc_Machine_leave : FnScope ["self", "outcome"] ["self", "outcome"] (defScope s_Machine_leave) := ⟨rfl, rfl, rfl, by decide +kernel, rfl, by decide +kernel, by decide +kernel⟩
theorem ok_Machine_leave (T : Tx K mg) : Ok P w K mg base 2 (He.fAd K ("Machine", some "leave")) ["self", "outcome"] [] (spLeave K nm) := by
  obtain ⟨fd, F⟩ := T.f_Machine_leave
  obtain ⟨fd_text_of, us_text_of, G_text_of, b_text_of, v_text_of, k_text_of, _⟩ := ok_text_of T
  refine mkOk F sc_Machine_leave (bind0 F fun _ _ _ _ _ _ us hl => match us, hl with | [_, _], _ => rfl) (fun vs H Q E h => ?_) (fun cdv A outer s H vs Q E hr h => ?_)
  · obtain ⟨R, H0, s, f, fs, o, v, o', s', rfl, _⟩ := h
    rfl
  obtain ⟨R, H0, s, f, fs, o, v, o', s', rfl, r, hfs, ho, hs, k⟩ := h
  refine ⟨_, (pss_cons (ps_if (pt_cmpR op_eq (pe_callB call_len_seq (by rfl) T.z_len PySem.boot_len (pa_cons (pe_fld (pv 0) rfl) pa_nil)) pe_int (nomark _)) (pss_cons (ps_fld (pv 0) (pe_tup (pa_cons pe_str pa_nil)) rfl)
      (pss_cons (ps_if (pt_cmpR op_eq (pe_ix ix_tup (pv 1) pe_int (fun _ _ => rfl)) pe_str (nomark _)) (pss_one (ps_fld (pv 0) (pe_tup (pa_cons pe_str (pa_cons (pe_call G_text_of (hr.mono (by decide)) rfl T.g_text_of k_text_of b_text_of v_text_of pass0 (pa_cons (pe_ix ix_tup (pv 1) pe_int (fun _ _ => rfl)) pa_nil)) pa_nil))) rfl)) pss_nil)
      (pss_one (ps_ret (pe_tup (pa_cons pe_str pa_nil)))))) pss_nil)
      (pss_cons (ps_expr (pe_bm0 PySem.F.plainAttrs_list PySem.F.slot_list_pop PySem.F.type_list_pop mt_pop (pe_fld (pv 0) rfl)))
      (pss_cons (ps_if (pt_cmpR op_eq (pe_ix ix_tup (pv 1) pe_int (fun _ _ => rfl)) pe_str (nomark _)) (pss_one (ps_ret (pv 1))) pss_nil)
      (pss_cons (ps_if (pt_cmpR op_eq (pe_ix ix_tup (pv 1) pe_int (fun _ _ => rfl)) pe_str (nomark _)) (pss_one (ps_ret (pe_tup (pa_cons pe_str (pa_cons (pe_ix ix_tup (pv 1) pe_int (fun _ _ => rfl)) pa_nil))))) pss_nil)
      (pss_one (ps_ret (pe_tup (pa_cons pe_str (pa_cons pe_non pa_nil))))))))), ?_⟩
  obtain ⟨dxm, kv, gv, ev, hm, hev⟩ := r.mach
  have hlen := r.slen
  rw [hfs] at hlen
  refine ⟨_, rfl, R.m, _, dxm, _, _, rfl, hm, T.cl_Machine, T.na_Machine_stack, fsMachine_stack, R.stk, _, rfl, .inl (SqL.of r.stk), rfl, _, rfl, ?_⟩
  rw [hlen]
  cases fs with
  | nil =>
    refine kT (by simp) ?_
    refine ⟨by show 1 ≤ sizeLine; decide, fun q hq => ?_⟩
    have S1 := same_new hq (.tup [.str "done"])
    have r1 := r.same S1
    have hm1 := S1 _ _ hm
    have e1 : (upd H q (.tup [.str "done"])) q = some (.tup [.str "done"]) := upd_same
    have ho1 := ho.ext (.refl R) (tps_of S1)
    have t1 := tps_of S1
    generalize upd H q (.tup [.str "done"]) = H1 at S1 r1 hm1 e1 ho1 t1
    refine ⟨_, rfl, R.m, _, dxm, _, rfl, hm1, T.cl_Machine, T.na_Machine_ending, fsM_len, ?_⟩
    rw [fsMachine_put_ending]
    have r2 := r1.machine (d := 0) (fin := some .done) (n := s.deep) hm1 (ev' := .ref q) ⟨q, rfl, e1⟩
    have t2 : Tps H1 (upd H1 R.m (.ins (He.ga K "Machine") dxm (fsMachine kv gv (.ref R.stk) (.ref R.prt) (.ref q) (.int s.deep)))) := off_tps hm1 (by rw [tg_mach]; decide)
    have hm2 : (upd H1 R.m (.ins (He.ga K "Machine") dxm (fsMachine kv gv (.ref R.stk) (.ref R.prt) (.ref q) (.int s.deep)))) R.m = some (.ins (He.ga K "Machine") dxm (fsMachine kv gv (.ref R.stk) (.ref R.prt) (.ref q) (.int s.deep))) := upd_same
    have ho2 := ho1.ext (.refl R) t2
    have t3 := t1.trans t2
    generalize upd H1 R.m (.ins (He.ga K "Machine") dxm (fsMachine kv gv (.ref R.stk) (.ref R.prt) (.ref q) (.int s.deep))) = H2 at r2 t2 hm2 ho2 t3 ⊢
    have dn : (∀ z, o ≠ .rs z) → some (o', s') = some (Oc.on, { s with fin := some .done }) := fun h => by
      rw [← hs]
      cases o with
      | rs z => exact absurd rfl (h z)
      | on => rfl
      | val z => rfl
      | ret z => rfl
    cases o with
    | on =>
      cases dn (fun z e => by cases e)
      obtain ⟨p, rfl, hp⟩ := ho2
      refine ⟨_, rfl, p, _, 0, _, rfl, rfl, SqT.of hp, atI_nat (j := 0) rfl, ?_⟩
      refine ⟨rfl, _, rfl, kF (by decide +kernel) ?_⟩
      exact (Nx.of r2 t3).on k
    | val z =>
      cases dn (fun z e => by cases e)
      obtain ⟨p, zv, rfl, hp, hz⟩ := ho2
      refine ⟨_, rfl, p, _, 0, _, rfl, rfl, SqT.of hp, atI_nat (j := 0) rfl, ?_⟩
      refine ⟨rfl, _, rfl, kF (by decide +kernel) ?_⟩
      exact (Nx.of r2 t3).on k
    | ret z =>
      cases dn (fun z e => by cases e)
      obtain ⟨p, zv, rfl, hp, hz⟩ := ho2
      refine ⟨_, rfl, p, _, 0, _, rfl, rfl, SqT.of hp, atI_nat (j := 0) rfl, ?_⟩
      refine ⟨rfl, _, rfl, kF (by decide +kernel) ?_⟩
      exact (Nx.of r2 t3).on k
    | rs z =>
      cases hs
      obtain ⟨p, zv, rfl, hp, hz⟩ := ho2
      refine ⟨_, rfl, p, _, 0, _, rfl, rfl, SqT.of hp, atI_nat (j := 0) rfl, ?_⟩
      refine ⟨rfl, _, rfl, kT (by decide +kernel) ?_⟩
      refine ⟨_, rfl, p, _, 1, _, rfl, rfl, SqT.of hp, atI_nat (j := 1) rfl, z, zv, rfl, vl_text r2 z zv hz, ?_⟩
      refine ⟨by show 2 ≤ sizeLine; decide, fun q2 hq2 => ?_⟩
      have S3 := same_new hq2 (.tup [.str "raised", .str (textOf z)])
      have r3 := r2.same S3
      have hm3 := S3 _ _ hm2
      have e3 : (upd H2 q2 (.tup [.str "raised", .str (textOf z)])) q2 = some (.tup [.str "raised", .str (textOf z)]) := upd_same
      have t4 := t3.trans (tps_of S3)
      generalize upd H2 q2 (.tup [.str "raised", .str (textOf z)]) = H3 at S3 r3 hm3 e3 t4
      refine ⟨_, rfl, R.m, _, dxm, _, rfl, hm3, T.cl_Machine, T.na_Machine_ending, fsM_len, ?_⟩
      rw [fsMachine_put_ending]
      have r4 := r3.machine (d := 0) (fin := some (.raised (textOf z))) (n := s.deep) hm3 (ev' := .ref q2) ⟨q2, rfl, e3⟩
      have t5 : Tps H3 (upd H3 R.m (.ins (He.ga K "Machine") dxm (fsMachine kv gv (.ref R.stk) (.ref R.prt) (.ref q2) (.int s.deep)))) := off_tps hm3 (by rw [tg_mach]; decide)
      exact (Nx.of r4 (t4.trans t5)).on k
  | cons f2 fs2 =>
    refine kF (by simp; omega) ?_
    cases hR : R.fr with
    | nil =>
      exfalso
      have := r.frs.length
      rw [hR, hfs] at this
      simp at this
    | cons x l =>
      refine ⟨_, rfl, R.m, _, dxm, _, _, rfl, hm, T.cl_Machine, T.na_Machine_stack, fsMachine_stack, .inl ⟨rfl, _, SqL.of r.stk⟩, R.stk, _, V.ref x.a, rfl, rfl, r.stk, ?_, ?_⟩
      · rw [hR]
        simp
      have r1 := r.left hR hfs
      have t1 : Tps H (upd H R.stk (.lst (R.fr.reverse.map fun x => V.ref x.a).dropLast)) := off_tps r.stk (by simp [tg])
      have e1 : RExt R { R with fr := l } := .of rfl rfl rfl rfl rfl
      have ho1 := ho.ext e1 t1
      have n1 : Nx K nm R { R with fr := l } H (upd H R.stk (.lst (R.fr.reverse.map fun x => V.ref x.a).dropLast)) H0 { s with frs := f2 :: fs2 } := ⟨r1, rfl, rfl, e1, t1⟩
      generalize upd H R.stk (.lst (R.fr.reverse.map fun x => V.ref x.a).dropLast) = H1 at r1 t1 ho1 n1
      cases o with
      | on =>
        cases hs
        obtain ⟨p, rfl, hp⟩ := ho1
        refine ⟨_, rfl, p, _, 0, _, rfl, rfl, SqT.of hp, atI_nat (j := 0) rfl, ?_⟩
        refine ⟨rfl, _, rfl, kF (by decide +kernel) ?_⟩
        refine ⟨_, rfl, p, _, 0, _, rfl, rfl, SqT.of hp, atI_nat (j := 0) rfl, ?_⟩
        refine ⟨rfl, _, rfl, kF (by decide +kernel) ?_⟩
        refine ⟨by show 2 ≤ sizeLine; decide, fun q hq => ?_⟩
        exact k _ _ _ (n1.same (same_new hq _)) ⟨q, _, rfl, upd_same, rfl⟩
      | val z =>
        cases hs
        obtain ⟨p, zv, rfl, hp, hz⟩ := ho1
        refine ⟨_, rfl, p, _, 0, _, rfl, rfl, SqT.of hp, atI_nat (j := 0) rfl, ?_⟩
        refine ⟨rfl, _, rfl, kF (by decide +kernel) ?_⟩
        refine ⟨_, rfl, p, _, 0, _, rfl, rfl, SqT.of hp, atI_nat (j := 0) rfl, ?_⟩
        refine ⟨rfl, _, rfl, kF (by decide +kernel) ?_⟩
        refine ⟨by show 2 ≤ sizeLine; decide, fun q hq => ?_⟩
        exact k _ _ _ (n1.same (same_new hq _)) ⟨q, _, rfl, upd_same, rfl⟩
      | ret z =>
        cases hs
        obtain ⟨p, zv, rfl, hp, hz⟩ := ho1
        refine ⟨_, rfl, p, _, 0, _, rfl, rfl, SqT.of hp, atI_nat (j := 0) rfl, ?_⟩
        refine ⟨rfl, _, rfl, kF (by decide +kernel) ?_⟩
        refine ⟨_, rfl, p, _, 0, _, rfl, rfl, SqT.of hp, atI_nat (j := 0) rfl, ?_⟩
        refine ⟨rfl, _, rfl, kT (by decide +kernel) ?_⟩
        refine ⟨_, rfl, p, _, 1, _, rfl, rfl, SqT.of hp, atI_nat (j := 1) rfl, by show 2 ≤ sizeLine; decide, fun q hq => ?_⟩
        exact k _ _ _ (n1.same (same_new hq _)) ⟨q, zv, rfl, upd_same, hz⟩
      | rs z =>
        cases hs
        have ho2 := ho1
        obtain ⟨p, zv, rfl, hp, hz⟩ := ho1
        refine ⟨_, rfl, p, _, 0, _, rfl, rfl, SqT.of hp, atI_nat (j := 0) rfl, ?_⟩
        refine ⟨rfl, _, rfl, kT (by decide +kernel) ?_⟩
        exact ⟨_, rfl, k _ _ _ n1 ho2⟩

end
end K38
end
section
/-! K38Z2: a part is put on; behind, choose. -/
namespace K38
open PySem PySem.Spec PyProof.Rows L2
section
variable {P : Program} {w : World} {K : PySem.W.Frag} {mg : Str → Option Value} {base : Heap} {nm : Nm → Str} {R R' R'' : RA} {H H' H'' H0 : Hp} {s s' s'' : MS}
def pH (K : PySem.W.Frag) (H : Hp) (y ey : Addr) (kd rv sv ov : V) : Hp := upd (upd (upd H ey (.own y)) y (.ins (He.ga K "Part") ey [])) y (.ins (He.ga K "Part") ey (fsPart kd rv (.int 0) sv ov))
/-- a new part is put on, then ("on",) -/
theorem Rep.push_on (r : Rep K nm R H H0 s) {x : FA} {l : List FA} {f : Fr} {fs : List Fr} (hR : R.fr = x :: l) (hs : s.frs = f :: fs) {pt : Pt} {kd : Str} {rv sv ov : V} {y ey : Addr} (ny : H y = none) (ney : H ey = none) (h0 : pt.place = 0) (hrv : At H (.t (eSms nm pt.rows)) rv) (hk : PkAt nm R H pt.rows pt.k kd sv ov)
    (hl : f.parts.length ≤ 1000) {Q : VK} (k : ∀ R' H' v', Nx K nm R R' H H' H0 { s with frs := { f with parts := pt :: f.parts } :: fs } → OcAt R' H' .on v' → Q v' H') :
    ∃ l' xs z, V.ref x.pl = .ref l' ∧ [V.ref y] = [z] ∧ (pH K H y ey (.str kd) rv sv ov) l' = some (.lst xs) ∧ xs.length < sizeLine ∧
      (1 ≤ sizeLine ∧ ∀ q, (upd (pH K H y ey (.str kd) rv sv ov) l' (.lst (xs ++ [z]))) q = none → Q (.ref q) (upd (upd (pH K H y ey (.str kd) rv sv ov) l' (.lst (xs ++ [z]))) q (.tup [.str "on"]))) := by
  have S : Same H (pH K H y ey (.str kd) rv sv ov) := made_new ny ney
  have ey' : (pH K H y ey (.str kd) rv sv ov) y = some (.ins (He.ga K "Part") ey (fsPart (.str kd) rv (.int 0) sv ov)) := upd_same
  obtain ⟨g0, dx', pv, g1, g2, g3, g4⟩ := r.top0 hR hs
  have hp : PtAt K nm R (pH K H y ey (.str kd) rv sv ov) y pt := ⟨ey, kd, rv, sv, ov, by rw [ey', h0]; rfl, At.same (tps_of S) _ _ hrv, hk.ext (.refl R) (tps_of S)⟩
  generalize pH K H y ey (.str kd) rv sv ov = H1 at S ey' hp ⊢
  refine ⟨x.pl, _, _, rfl, rfl, S _ _ g3, ?_, ?_⟩
  · rw [List.length_map, List.length_reverse, g4.length]
    exact Nat.lt_of_le_of_lt hl (by decide)
  · have r1 := r.push hR hs S ny hp
    have t1 : Tps H1 (upd H1 x.pl (.lst (x.ps.reverse.map V.ref ++ [.ref y]))) := off_tps (S _ _ g3) (by simp [tg])
    exact Nx.on (R := R) ⟨r1, rfl, rfl, .of rfl rfl rfl rfl rfl, (tps_of S).trans t1⟩ k
def spBehind (K : PySem.W.Frag) (nm : Nm → Str) : Sp := fun vs H Q _ => ∃ (R : RA) (H0 : Hp) (s : MS) (x : FA) (l : List FA) (f : Fr) (fs : List Fr) (a : Addr) (pt : Pt) (o : Oc) (v : V) (o' : Oc) (s' : MS), vs = [.ref R.m, .ref x.a, .ref a, v] ∧ Rep K nm R H H0 s ∧ R.fr = x :: l ∧ s.frs = f :: fs ∧ PtAt K nm R H a pt ∧
  OcAt R H o v ∧ behind s f fs pt f.parts o = some (o', s') ∧ ∀ R' H' v', Nx K nm R R' H H' H0 s' → OcAt R' H' o' v' → Q v' H'
theorem pushed_iff {s : MS} {f : Fr} {fs : List Fr} {pt : Pt} {c : Cfg} (h : pushed s f fs pt = some c) : f.parts.length ≤ 1000 ∧ c = (.on, { s with frs := { f with parts := pt :: f.parts } :: fs }) := by
  unfold pushed at h
  split at h
  · cases h; exact ⟨by assumption, rfl⟩
  · cases h
theorem sc_Machine_behind : FnScope ["self", "frame", "part", "outcome"] ["self", "frame", "part", "outcome"] (defScope s_Machine_behind) := ⟨rfl, rfl, rfl, by decide +kernel, rfl, by decide +kernel, by decide +kernel⟩
theorem ok_Machine_behind (T : Tx K mg) (N : NmOk nm) : Ok P w K mg base 3 (He.fAd K ("Machine", some "behind")) ["self", "frame", "part", "outcome"] [] (spBehind K nm) := by
  obtain ⟨fd, F⟩ := T.f_Machine_behind
  obtain ⟨fd_Part_init3, us_Part_init3, G_Part_init3, b_Part_init3, v_Part_init3, k_Part_init3, _⟩ := ok_Part_init T bind_Part3
  obtain ⟨fd_Part_init5, us_Part_init5, G_Part_init5, b_Part_init5, v_Part_init5, k_Part_init5, _⟩ := ok_Part_init T bind_Part5
  refine mkOk F sc_Machine_behind (bind0 F fun _ _ _ _ _ _ us hl => match us, hl with | [_, _, _, _], _ => rfl) (fun vs H Q E h => ?_) (fun cdv A outer s H vs Q E hr h => ?_)
  · obtain ⟨R, H0, s, x, l, f, fs, a, pt, o, v, o', s', rfl, _⟩ := h
    rfl
  obtain ⟨R, H0, s, x, l, f, fs, a, pt, o, v, o', s', rfl, r, hR, hfs, hpt, ho, hs, k⟩ := h
  refine ⟨_, (pss_cons (ps_if (PW.pt (pw_and (pt_cmpR op_eq (pe_fld (pv 2) rfl) pe_str (nomark _)) (pw_and1 (pt_cmpR op_eq (pe_ix ix_tup (pv 3) pe_int (fun _ _ => rfl)) pe_str (nomark _))))) (pss_cons (ps_dput (hu_of hr) (pe_fld (pe_fld (pv 1) rfl) rfl) (pe_ix ix_tup (pe_fld (pv 2) rfl) pe_int (fun _ _ => rfl)) (pe_ix ix_tup (pv 3) pe_int (fun _ _ => rfl)) rfl)
      (pss_cons (ps_expr (pe_bm PySem.F.plainAttrs_list PySem.F.slot_list_append PySem.F.type_list_append mt_append (pe_fld (pv 1) rfl) (pa_cons (pe_make T.mk_Part G_Part_init3 (hr.mono (by decide)) rfl T.g_Part b_Part_init3 v_Part_init3 pass0 (pa_cons pe_str (pa_cons (pe_ix ix_tup (pe_fld (pv 2) rfl) pe_int (fun _ _ => rfl)) pa_nil))) pa_nil)))
      (pss_one (ps_ret (pe_tup (pa_cons pe_str pa_nil)))))) pss_nil)
      (pss_cons (ps_if (pt_cmpR op_eq (pe_fld (pv 2) rfl) pe_str (nomark _)) (pss_cons (ps_expr (pe_bm PySem.F.plainAttrs_list PySem.F.slot_list_append PySem.F.type_list_append mt_append (pe_fld (pv 1) rfl) (pa_cons (pe_make T.mk_Part G_Part_init5 (hr.mono (by decide)) rfl T.g_Part b_Part_init5 v_Part_init5 pass0 (pa_cons pe_str (pa_cons (pe_ix ix_tup (pe_fld (pv 2) rfl) pe_int (fun _ _ => rfl)) (pa_cons (pe_fld (pv 2) rfl) (pa_cons (pv 3) pa_nil))))) pa_nil)))
      (pss_one (ps_ret (pe_tup (pa_cons pe_str pa_nil))))) pss_nil)
      (pss_cons (ps_if (PW.pt (pw_and (pt_cmpR op_eq (pe_fld (pv 2) rfl) pe_str (nomark _)) (pw_and1 (pt_cmpR op_eq (pe_ix ix_tup (pv 3) pe_int (fun _ _ => rfl)) pe_str (nomark _))))) (pss_one (ps_ret (pe_fld (pv 2) rfl))) pss_nil)
      (pss_one (ps_ret (pv 3)))))), ?_⟩
  obtain ⟨dxp, kd, rv, sv, ov, hp0, hrows, hpk⟩ := id hpt
  obtain ⟨sN, dxf, pv, hf, hpend, hpl, hparts⟩ := r.top0 hR hfs
  obtain ⟨dxs, ovs, kvs, hs1, hs2, hs3, hs4⟩ := r.scs f.sc sN
  have hfs' : ({ s with frs := { f with parts := f.parts } :: fs } : MS) = s := by rw [show ({ f with parts := f.parts } : Fr) = f from rfl, ← hfs]
  cases hk : pt.k with
  | plain =>
    rw [hk] at hpk
    have e : kd = "plain" := hpk
    subst e
    have e2 : behind s f fs pt f.parts o = some (o, s) := by
      unfold behind
      rw [hk]
      cases o <;> exact congrArg some (Prod.ext rfl hfs')
    rw [e2] at hs
    cases hs
    refine ⟨_, rfl, a, _, dxp, _, _, rfl, hp0, T.cl_Part, T.na_Part_kind, fsPart_kind, rfl, _, rfl, kF (by decide +kernel) ?_⟩
    refine iteF ?_
    refine ⟨_, rfl, a, _, dxp, _, _, rfl, hp0, T.cl_Part, T.na_Part_kind, fsPart_kind, rfl, _, rfl, kF (by decide +kernel) ?_⟩
    refine ⟨_, rfl, a, _, dxp, _, _, rfl, hp0, T.cl_Part, T.na_Part_kind, fsPart_kind, rfl, _, rfl, kF (by decide +kernel) ?_⟩
    refine iteF ?_
    exact ⟨_, rfl, k _ _ _ (Nx.self r) ho⟩
  | tr x2 b =>
    rw [hk] at hpk
    obtain ⟨e, hst⟩ := hpk
    subst e
    refine ⟨_, rfl, a, _, dxp, _, _, rfl, hp0, T.cl_Part, T.na_Part_kind, fsPart_kind, rfl, _, rfl, kT (by decide +kernel) ?_⟩
    cases o with
    | rs z =>
      unfold behind at hs
      rw [hk] at hs
      obtain ⟨hl, e1⟩ := pushed_iff hs
      cases e1
      obtain ⟨p, zv, rfl, hp, hz⟩ := id ho
      refine ⟨_, rfl, p, _, 0, _, rfl, rfl, SqT.of hp, atI_nat (j := 0) rfl, ?_⟩
      refine ⟨rfl, _, rfl, kT (by decide +kernel) ?_⟩
      unfold eSm at hst
      obtain ⟨ps, s0, s1, s2, s3, rfl, hps, e0, e1, e2, e3⟩ := hst.tup4
      cases e2.str
      refine ⟨_, rfl, p, _, 1, _, rfl, rfl, SqT.of hp, atI_nat (j := 1) rfl, _, rfl, x.a, _, dxf, _, _, rfl, hf, T.cl_Frame, T.na_Frame_scope, fsFrame_scope, R.sa f.sc, _, dxs, _, _, rfl, hs1, T.cl_Scope, T.na_Scope_held, fsScope_held, _, rfl, a, _, dxp, _, _, rfl, hp0, T.cl_Part, T.na_Part_statement, fsPart_statement, ps, _, 2, _, rfl, rfl, SqT.of hps, atI_nat (j := 2) rfl, R.sd f.sc, _, rfl, DPut.k (k := Sum.inr (nm x2)) hs3 (Nat.lt_of_le_of_lt hs4.len (by decide)), ?_⟩
      have r1 := r.put N sN hz (x := x2) hs3
      have t1 : Tps H (upd H (R.sd f.sc) (.dK (putK kvs (.inr (nm x2)) zv))) := off_tps hs3 (by simp [tg])
      have b1 : ∀ c : Addr, ∀ oc : HO, H c = some oc → tg oc ≠ 3 → (upd H (R.sd f.sc) (.dK (putK kvs (.inr (nm x2)) zv))) c = some oc := fun c oc h ht => off_at (ne_tg h hs3 ht) _ h
      generalize upd H (R.sd f.sc) (.dK (putK kvs (.inr (nm x2)) zv)) = H1 at r1 t1 b1 ⊢
      have hf1 := b1 _ _ hf (by rw [tg_frame]; decide)
      have hp1 := b1 _ _ hp0 (by rw [tg_part]; decide)
      refine ⟨_, rfl, x.a, _, dxf, _, _, rfl, hf1, T.cl_Frame, T.na_Frame_parts, fsFrame_parts, .inl ⟨rfl, _, SqL.of (b1 _ _ hpl (by simp [tg]))⟩, ?_⟩
      refine ⟨_, rfl, a, _, dxp, _, _, rfl, hp1, T.cl_Part, T.na_Part_statement, fsPart_statement, ps, _, 3, _, rfl, rfl, SqT.of (t1 _ _ hps), atI_nat (j := 3) rfl, fun y ey ny ney nye => ⟨y, ey, _, _, _, _, rfl, upd_same, rfl, ?_⟩⟩
      exact r1.push_on hR hfs ny ney (pt := ⟨.plain, b, 0⟩) rfl (At.same t1 _ _ e3) rfl hl fun R' H' v' n o => k R' H' v' ⟨n.rep, n.m, n.prt, n.ext, t1.trans n.tps⟩ o
    | on =>
      have e2 : behind s f fs pt f.parts .on = some (.on, s) := by
        unfold behind
        rw [hk]
        exact congrArg (fun z => some (_, z)) hfs'
      rw [e2] at hs
      cases hs
      obtain ⟨p, rfl, hp⟩ := id ho
      refine ⟨_, rfl, p, _, 0, _, rfl, rfl, SqT.of hp, atI_nat (j := 0) rfl, ?_⟩
      refine ⟨rfl, _, rfl, kF (by decide +kernel) ?_⟩
      refine ⟨_, rfl, a, _, dxp, _, _, rfl, hp0, T.cl_Part, T.na_Part_kind, fsPart_kind, rfl, _, rfl, kF (by decide +kernel) ?_⟩
      refine ⟨_, rfl, a, _, dxp, _, _, rfl, hp0, T.cl_Part, T.na_Part_kind, fsPart_kind, rfl, _, rfl, kF (by decide +kernel) ?_⟩
      refine iteF ?_
      exact ⟨_, rfl, k _ _ _ (Nx.self r) ho⟩
    | val z =>
      have e2 : behind s f fs pt f.parts (.val z) = some (.val z, s) := by
        unfold behind
        rw [hk]
        exact congrArg (fun z => some (_, z)) hfs'
      rw [e2] at hs
      cases hs
      obtain ⟨p, zv, rfl, hp, hz⟩ := id ho
      refine ⟨_, rfl, p, _, 0, _, rfl, rfl, SqT.of hp, atI_nat (j := 0) rfl, ?_⟩
      refine ⟨rfl, _, rfl, kF (by decide +kernel) ?_⟩
      refine ⟨_, rfl, a, _, dxp, _, _, rfl, hp0, T.cl_Part, T.na_Part_kind, fsPart_kind, rfl, _, rfl, kF (by decide +kernel) ?_⟩
      refine ⟨_, rfl, a, _, dxp, _, _, rfl, hp0, T.cl_Part, T.na_Part_kind, fsPart_kind, rfl, _, rfl, kF (by decide +kernel) ?_⟩
      refine iteF ?_
      exact ⟨_, rfl, k _ _ _ (Nx.self r) ho⟩
    | ret z =>
      have e2 : behind s f fs pt f.parts (.ret z) = some (.ret z, s) := by
        unfold behind
        rw [hk]
        exact congrArg (fun z => some (_, z)) hfs'
      rw [e2] at hs
      cases hs
      obtain ⟨p, zv, rfl, hp, hz⟩ := id ho
      refine ⟨_, rfl, p, _, 0, _, rfl, rfl, SqT.of hp, atI_nat (j := 0) rfl, ?_⟩
      refine ⟨rfl, _, rfl, kF (by decide +kernel) ?_⟩
      refine ⟨_, rfl, a, _, dxp, _, _, rfl, hp0, T.cl_Part, T.na_Part_kind, fsPart_kind, rfl, _, rfl, kF (by decide +kernel) ?_⟩
      refine ⟨_, rfl, a, _, dxp, _, _, rfl, hp0, T.cl_Part, T.na_Part_kind, fsPart_kind, rfl, _, rfl, kF (by decide +kernel) ?_⟩
      refine iteF ?_
      exact ⟨_, rfl, k _ _ _ (Nx.self r) ho⟩
  | la b =>
    rw [hk] at hpk
    obtain ⟨e, hst⟩ := hpk
    subst e
    refine ⟨_, rfl, a, _, dxp, _, _, rfl, hp0, T.cl_Part, T.na_Part_kind, fsPart_kind, rfl, _, rfl, kF (by decide +kernel) ?_⟩
    refine iteF ?_
    refine ⟨_, rfl, a, _, dxp, _, _, rfl, hp0, T.cl_Part, T.na_Part_kind, fsPart_kind, rfl, _, rfl, kT (by decide +kernel) ?_⟩
    have e2 : behind s f fs pt f.parts o = pushed s f fs ⟨.thn o, b, 0⟩ := by
      unfold behind
      rw [hk]
    rw [e2] at hs
    obtain ⟨hl, e1⟩ := pushed_iff hs
    cases e1
    have hst' := hst
    unfold eSm at hst
    obtain ⟨ps, s0, s1, s2, rfl, hps, e0, e1, e2⟩ := hst.tup3
    refine ⟨_, rfl, x.a, _, dxf, _, _, rfl, hf, T.cl_Frame, T.na_Frame_parts, fsFrame_parts, .inl ⟨rfl, _, SqL.of hpl⟩, ?_⟩
    refine ⟨_, rfl, a, _, dxp, _, _, rfl, hp0, T.cl_Part, T.na_Part_statement, fsPart_statement, ps, _, 2, _, rfl, rfl, SqT.of hps, atI_nat (j := 2) rfl, _, rfl, a, _, dxp, _, _, rfl, hp0, T.cl_Part, T.na_Part_statement, fsPart_statement, _, rfl, fun y ey ny ney nye => ⟨y, ey, _, _, _, _, rfl, upd_same, rfl, ?_⟩⟩
    exact r.push_on hR hfs ny ney (pt := ⟨.thn o, b, 0⟩) rfl e2 ⟨rfl, ho⟩ hl k
  | thn o2 =>
    rw [hk] at hpk
    obtain ⟨e, ho2⟩ := hpk
    subst e
    refine ⟨_, rfl, a, _, dxp, _, _, rfl, hp0, T.cl_Part, T.na_Part_kind, fsPart_kind, rfl, _, rfl, kF (by decide +kernel) ?_⟩
    refine iteF ?_
    refine ⟨_, rfl, a, _, dxp, _, _, rfl, hp0, T.cl_Part, T.na_Part_kind, fsPart_kind, rfl, _, rfl, kF (by decide +kernel) ?_⟩
    refine ⟨_, rfl, a, _, dxp, _, _, rfl, hp0, T.cl_Part, T.na_Part_kind, fsPart_kind, rfl, _, rfl, kT (by decide +kernel) ?_⟩
    cases o with
    | on =>
      have e2 : behind s f fs pt f.parts .on = some (o2, s) := by
        unfold behind
        rw [hk]
        exact congrArg (fun z => some (_, z)) hfs'
      rw [e2] at hs
      cases hs
      obtain ⟨p, rfl, hp⟩ := id ho
      refine ⟨_, rfl, p, _, 0, _, rfl, rfl, SqT.of hp, atI_nat (j := 0) rfl, ?_⟩
      refine ⟨rfl, _, rfl, kT (by decide +kernel) ?_⟩
      exact ⟨_, rfl, a, _, dxp, _, _, rfl, hp0, T.cl_Part, T.na_Part_outcome, fsPart_outcome, k _ _ _ (Nx.self r) ho2⟩
    | val z =>
      have e2 : behind s f fs pt f.parts (.val z) = some (.val z, s) := by
        unfold behind
        rw [hk]
        exact congrArg (fun z => some (_, z)) hfs'
      rw [e2] at hs
      cases hs
      obtain ⟨p, zv, rfl, hp, hz⟩ := id ho
      refine ⟨_, rfl, p, _, 0, _, rfl, rfl, SqT.of hp, atI_nat (j := 0) rfl, ?_⟩
      refine ⟨rfl, _, rfl, kF (by decide +kernel) ?_⟩
      exact ⟨_, rfl, k _ _ _ (Nx.self r) ho⟩
    | ret z =>
      have e2 : behind s f fs pt f.parts (.ret z) = some (.ret z, s) := by
        unfold behind
        rw [hk]
        exact congrArg (fun z => some (_, z)) hfs'
      rw [e2] at hs
      cases hs
      obtain ⟨p, zv, rfl, hp, hz⟩ := id ho
      refine ⟨_, rfl, p, _, 0, _, rfl, rfl, SqT.of hp, atI_nat (j := 0) rfl, ?_⟩
      refine ⟨rfl, _, rfl, kF (by decide +kernel) ?_⟩
      exact ⟨_, rfl, k _ _ _ (Nx.self r) ho⟩
    | rs z =>
      have e2 : behind s f fs pt f.parts (.rs z) = some (.rs z, s) := by
        unfold behind
        rw [hk]
        exact congrArg (fun z => some (_, z)) hfs'
      rw [e2] at hs
      cases hs
      obtain ⟨p, zv, rfl, hp, hz⟩ := id ho
      refine ⟨_, rfl, p, _, 0, _, rfl, rfl, SqT.of hp, atI_nat (j := 0) rfl, ?_⟩
      refine ⟨rfl, _, rfl, kF (by decide +kernel) ?_⟩
      exact ⟨_, rfl, k _ _ _ (Nx.self r) ho⟩

/-! ### choose -/
def chooseA (s : MS) (f : Fr) (fs : List Fr) (p : Pt) (ps : List Pt) : Sm → Option Cfg
  | .iff t a b => (test s.mem f.sc t).bind fun h => pushed s f fs ⟨.plain, if h then a else b, 0⟩
  | .whl t a => (test s.mem f.sc t).bind fun h => if h then pushed s f fs ⟨.plain, a, 0⟩ else some (.on, { s with frs := { f with parts := { p with place := p.place + 1 } :: ps } :: fs })
  | _ => none
theorem test_iff {m : Mem} {sc : Nat} {t : Te} {b : Bool} (h : test m sc t = some b) : holds m sc t = some b ∧ dep t ≤ 3 := by
  unfold test at h
  split at h
  · exact ⟨h, by assumption⟩
  · cases h
theorem Rep.frSc (r : Rep K nm R H H0 s) {x : FA} {l : List FA} {f : Fr} {fs : List Fr} (hR : R.fr = x :: l) (hs : s.frs = f :: fs) : FrSc K R H x.a f.sc := by
  obtain ⟨sN, dxf, pv, hf, _⟩ := r.top0 hR hs
  exact ⟨sN, dxf, _, _, hf⟩
def spChoose (K : PySem.W.Frag) (nm : Nm → Str) : Sp := fun vs H Q _ => ∃ (R : RA) (H0 : Hp) (s : MS) (x : FA) (l : List FA) (f : Fr) (fs : List Fr) (a : Addr) (as : List Addr) (pt : Pt) (pts : List Pt) (st : Sm) (v : V) (o' : Oc) (s' : MS), vs = [.ref R.m, .ref x.a, .ref a, v] ∧ Rep K nm R H H0 s ∧ R.fr = x :: l ∧ s.frs = f :: fs ∧ x.ps = a :: as ∧ f.parts = pt :: pts ∧
  At H (eSm nm st) v ∧ chooseA s f fs pt pts st = some (o', s') ∧ ∀ R' H' v', Nx K nm R R' H H' H0 s' → OcAt R' H' o' v' → Q v' H'
theorem sc_Machine_choose : FnScope ["self", "frame", "part", "statement", "held"] ["self", "frame", "part", "statement"] (defScope s_Machine_choose) := ⟨rfl, rfl, rfl, by decide +kernel, rfl, by decide +kernel, by decide +kernel⟩
theorem ok_Machine_choose (T : Tx K mg) : Ok P w K mg base 8 (He.fAd K ("Machine", some "choose")) ["self", "frame", "part", "statement"] [] (spChoose K nm) := by
  obtain ⟨fd, F⟩ := T.f_Machine_choose
  obtain ⟨fd_Part_init, us_Part_init, G_Part_init, b_Part_init, v_Part_init, k_Part_init, _⟩ := ok_Part_init T bind_Part3
  obtain ⟨fd_Machine_holds, us_Machine_holds, G_Machine_holds, b_Machine_holds, v_Machine_holds, k_Machine_holds, _⟩ := ok_Machine_holds (nm := nm) T 3
  refine mkOk F sc_Machine_choose (bind0 F fun _ _ _ _ _ _ us hl => match us, hl with | [_, _, _, _], _ => rfl) (fun vs H Q E h => ?_) (fun cdv A outer s H vs Q E hr h => ?_)
  · obtain ⟨R, H0, s, x, l, f, fs, a, as, pt, pts, st, v, o', s', rfl, _⟩ := h
    rfl
  obtain ⟨R, H0, s, x, l, f, fs, a, as, pt, pts, st, v, o', s', rfl, r, hR, hfs, hx, hpp, hv, hs, k⟩ := h
  refine ⟨_, (pss_cons (ps_set (i := 4) sc_Machine_choose.nd rfl (Or.inl rfl) (pe_meth (pv 0) T.cl_Machine T.me_Machine_holds G_Machine_holds (hr.mono (by decide)) b_Machine_holds v_Machine_holds pass0 (pa_cons (pv 1) (pa_cons (pe_ix ix_tup (pv 3) pe_int (fun _ _ => rfl)) pa_nil))))
      (pss_cons (ps_if (pt_cmpR op_isN (pv 4) pe_non (nomark _)) (pss_one (ps_ret (pe_tup (pa_cons pe_str (pa_cons pe_str pa_nil))))) pss_nil)
      (pss_cons (ps_if (pt_cmpR op_eq (pe_ix ix_tup (pv 3) pe_int (fun _ _ => rfl)) pe_str (nomark _)) (pss_one (ps_expr (pe_bm PySem.F.plainAttrs_list PySem.F.slot_list_append PySem.F.type_list_append mt_append (pe_fld (pv 1) rfl) (pa_cons (pe_make T.mk_Part G_Part_init (hr.mono (by decide)) rfl T.g_Part b_Part_init v_Part_init pass0 (pa_cons pe_str (pa_cons (pe_ifExp (pt_val (pv 4)) (pe_ix ix_tup (pv 3) pe_int (fun _ _ => rfl)) (pe_ix ix_tup (pv 3) pe_int (fun _ _ => rfl))) pa_nil))) pa_nil)))) (pss_one (ps_if (pt_val (pv 4)) (pss_one (ps_expr (pe_bm PySem.F.plainAttrs_list PySem.F.slot_list_append PySem.F.type_list_append mt_append (pe_fld (pv 1) rfl) (pa_cons (pe_make T.mk_Part G_Part_init (hr.mono (by decide)) rfl T.g_Part b_Part_init v_Part_init pass0 (pa_cons pe_str (pa_cons (pe_ix ix_tup (pv 3) pe_int (fun _ _ => rfl)) pa_nil))) pa_nil)))) (pss_one (ps_fldaug (pv 2) pe_int in_add)))))
      (pss_one (ps_ret (pe_tup (pa_cons pe_str pa_nil))))))), ?_⟩
  obtain ⟨dxm, kv, gv, ev, hm, _⟩ := r.mach
  have hfr := r.frSc hR hfs
  cases st with
  | iff t b1 b2 =>
    obtain ⟨b, hb, hs⟩ := Option.bind_eq_some_iff.mp hs
    obtain ⟨hb, hd⟩ := test_iff hb
    obtain ⟨hl, e1⟩ := pushed_iff hs
    cases e1
    unfold eSm at hv
    obtain ⟨p, s0, s1, s2, s3, rfl, hp, e0, e1, e2, e3⟩ := hv.tup4
    cases e0.str
    refine ⟨_, rfl, R.m, dxm, _, rfl, hm, fsMachine_no_holds, _, rfl, _, rfl, p, _, 1, _, rfl, rfl, SqT.of hp, atI_nat (j := 1) rfl, R, H0, s, x.a, f.sc, t, s1, b, rfl, r, hfr, e1, hb, hd, fun H1 S1 => ?_⟩
    have r1 := r.same S1
    obtain ⟨sN, dxf, pv, hf, hpend, hpl, hparts⟩ := r1.top0 hR hfs
    have hp1 := S1 _ _ hp
    have fin : ∀ R' H' v', Nx K nm R R' H1 H' H0 { s with frs := { f with parts := ⟨.plain, if b = true then b1 else b2, 0⟩ :: f.parts } :: fs } → OcAt R' H' .on v' → Q v' H' := fun R' H' v' n o => k R' H' v' ⟨n.rep, n.m, n.prt, n.ext, (tps_of S1).trans n.tps⟩ o
    refine ⟨_, rfl, rfl, _, rfl, kF (by simp) ?_⟩
    refine ⟨_, rfl, p, _, 0, _, rfl, rfl, SqT.of hp1, atI_nat (j := 0) rfl, rfl, _, rfl, kT (by decide +kernel) ?_⟩
    refine ⟨_, rfl, x.a, _, dxf, _, _, rfl, hf, T.cl_Frame, T.na_Frame_parts, fsFrame_parts, .inl ⟨rfl, _, SqL.of hpl⟩, ?_⟩
    refine ⟨_, rfl, b, rfl, ?_⟩
    cases b with
    | true => exact kT rfl ⟨_, rfl, p, _, 2, _, rfl, rfl, SqT.of hp1, atI_nat (j := 2) rfl, fun y ey ny ney nye => ⟨y, ey, _, _, _, _, rfl, upd_same, rfl, r1.push_on hR hfs ny ney (pt := ⟨.plain, b1, 0⟩) rfl (At.same (tps_of S1) _ _ e2) rfl hl fin⟩⟩
    | false => exact kF (by simp) ⟨_, rfl, p, _, 3, _, rfl, rfl, SqT.of hp1, atI_nat (j := 3) rfl, fun y ey ny ney nye => ⟨y, ey, _, _, _, _, rfl, upd_same, rfl, r1.push_on hR hfs ny ney (pt := ⟨.plain, b2, 0⟩) rfl (At.same (tps_of S1) _ _ e3) rfl hl fin⟩⟩
  | whl t b1 =>
    obtain ⟨b, hb, hs⟩ := Option.bind_eq_some_iff.mp hs
    obtain ⟨hb, hd⟩ := test_iff hb
    unfold eSm at hv
    obtain ⟨p, s0, s1, s2, rfl, hp, e0, e1, e2⟩ := hv.tup3
    cases e0.str
    refine ⟨_, rfl, R.m, dxm, _, rfl, hm, fsMachine_no_holds, _, rfl, _, rfl, p, _, 1, _, rfl, rfl, SqT.of hp, atI_nat (j := 1) rfl, R, H0, s, x.a, f.sc, t, s1, b, rfl, r, hfr, e1, hb, hd, fun H1 S1 => ?_⟩
    have r1 := r.same S1
    obtain ⟨sN, dxf, pv, hf, hpend, hpl, hparts⟩ := r1.top0 hR hfs
    have hp1 := S1 _ _ hp
    refine ⟨_, rfl, rfl, _, rfl, kF (by simp) ?_⟩
    refine ⟨_, rfl, p, _, 0, _, rfl, rfl, SqT.of hp1, atI_nat (j := 0) rfl, rfl, _, rfl, kF (by decide +kernel) ?_⟩
    refine ⟨_, rfl, b, rfl, ?_⟩
    cases b with
    | true =>
      obtain ⟨hl, e1⟩ := pushed_iff hs
      cases e1
      refine kT rfl ?_
      refine ⟨_, rfl, x.a, _, dxf, _, _, rfl, hf, T.cl_Frame, T.na_Frame_parts, fsFrame_parts, .inl ⟨rfl, _, SqL.of hpl⟩, ?_⟩
      exact ⟨_, rfl, p, _, 2, _, rfl, rfl, SqT.of hp1, atI_nat (j := 2) rfl, fun y ey ny ney nye => ⟨y, ey, _, _, _, _, rfl, upd_same, rfl, r1.push_on hR hfs ny ney (pt := ⟨.plain, b1, 0⟩) rfl (At.same (tps_of S1) _ _ e2) rfl hl fun R' H' v' n o => k R' H' v' ⟨n.rep, n.m, n.prt, n.ext, (tps_of S1).trans n.tps⟩ o⟩⟩
    | false =>
      cases hs
      refine kF (by simp) ?_
      rw [hx, hpp] at hparts
      cases hparts with
      | cons q1 q2 =>
        obtain ⟨dxp, kd, rv, sv, ov, hp0, hrows, hpk⟩ := q1
        refine ⟨_, rfl, a, _, dxp, _, _, rfl, hp0, T.cl_Part, T.na_Part_place, fsPart_place, _, _, rfl, rfl, dxp, _, hp0, fsP_len, ?_⟩
        rw [fsPart_put_place, show ((pt.place : Int) + 1) = ((pt.place + 1 : Nat) : Int) from by omega]
        have r2 := r1.place hR hfs hx hpp hp0 (pt.place + 1)
        have t2 : Tps H1 (upd H1 a (.ins (He.ga K "Part") dxp (fsPart (.str kd) rv (.int ((pt.place + 1 : Nat) : Int)) sv ov))) := off_tps hp0 (by rw [tg_part]; decide)
        exact (Nx.of r2 ((tps_of S1).trans t2)).on k
  | lt x2 rr => cases hs
  | st x2 rr => cases hs
  | pr e => cases hs
  | ret rr => cases hs
  | rs rr => cases hs
  | tr b1 x2 b2 => cases hs
  | la b1 b2 => cases hs

end
end K38
end
section
/-! K38Z3: enter, enter_function. -/
namespace K38
open PySem PySem.Spec PyProof.Rows L2
section
variable {P : Program} {w : World} {K : PySem.W.Frag} {mg : Str → Option Value} {base : Heap} {nm : Nm → Str} {R R' R'' : RA} {H H' H'' H0 : Hp} {s s' s'' : MS}
/-- a frame that is made, not yet entered -/
structure EntAt (K : PySem.W.Frag) (nm : Nm → Str) (R : RA) (H H0 : Hp) (i : Option Nat) (body : List Sm) (a pl pt sa sd dx dx2 dx3 : Addr) (ov bv : V) : Prop where
  f0 : [a, pl, pt].Nodup
  f1 : a ∉ R.foot
  f2 : pl ∉ R.foot
  f3 : pt ∉ R.foot
  f4 : ∀ i, i < R.nS → R.sd i ≠ sd
  g1 : H0 a = none
  g2 : H0 pl = none
  g3 : H0 pt = none
  g4 : H0 sd = none
  h1 : H a = some (.ins (He.ga K "Frame") dx (fsFrame (.ref sa) .non .non (.ref pl) .non))
  h2 : H pl = some (.lst [.ref pt])
  h3 : H pt = some (.ins (He.ga K "Part") dx2 (fsPart (.str "plain") bv (.int 0) .non .non))
  hb : At H (.t (eSms nm body)) bv
  h4 : H sa = some (.ins (He.ga K "Scope") dx3 (fsScope ov (.ref sd)))
  ho : OutAt R i ov
theorem EntAt.put {i : Option Nat} {body : List Sm} {a pl pt sa sd dx dx2 dx3 : Addr} {ov bv : V} {kvs : List (Key × V)} {o' : HO} (e : EntAt K nm R H H0 i body a pl pt sa sd dx dx2 dx3 ov bv) (hd : H sd = some (.dK kvs)) : EntAt K nm R (upd H sd o') H0 i body a pl pt sa sd dx dx2 dx3 ov bv :=
  ⟨e.f0, e.f1, e.f2, e.f3, e.f4, e.g1, e.g2, e.g3, e.g4, off_at (ne_tg e.h1 hd (by rw [tg_frame]; simp [tg])) _ e.h1, off_at (ne_tg e.h2 hd (by simp [tg])) _ e.h2, off_at (ne_tg e.h3 hd (by rw [tg_part]; simp [tg])) _ e.h3, At.same (off_tps hd (by simp [tg])) _ _ e.hb,
    off_at (ne_tg e.h4 hd (by rw [tg_scope]; simp [tg])) _ e.h4, e.ho⟩
theorem bind_take : ∀ {ps : List Nm} {vs : List Vl} {h : Nm → Option Vl} {i : Nat} {x : Nm}, ps[i]? = some x → bind (ps.take (i + 1)) vs h = setH (bind (ps.take i) vs h) x ((vs[i]?).getD .non)
  | [], vs, h, i, x, e => by simp at e
  | p :: ps, [], h, 0, x, e => by
    simp at e
    subst e
    simp [bind]
  | p :: ps, v :: vs, h, 0, x, e => by
    simp at e
    subst e
    simp [bind]
  | p :: ps, [], h, i + 1, x, e => by
    have e' : ps[i]? = some x := by simpa using e
    rw [List.take_succ_cons, List.take_succ_cons]
    simp only [bind]
    rw [bind_take (vs := []) e']
    simp
  | p :: ps, v :: vs, h, i + 1, x, e => by
    have e' : ps[i]? = some x := by simpa using e
    rw [List.take_succ_cons, List.take_succ_cons]
    simp only [bind]
    rw [bind_take e']
    simp
theorem paired_get {α β : Type} {F : α → β → Prop} : ∀ {l : List α} {r : List β} {i : Nat} {b : β}, Paired F l r → r[i]? = some b → ∃ a, l[i]? = some a ∧ F a b
  | _, _, i, b, .nil, e => by simp at e
  | _, _, 0, b, .cons h t, e => by simp at e; subst e; exact ⟨_, rfl, h⟩
  | _, _, i + 1, b, .cons h t, e => by
    obtain ⟨a, h1, h2⟩ := paired_get t (by simpa using e)
    exact ⟨a, by simpa using h1, h2⟩
def spEnter (K : PySem.W.Frag) (nm : Nm → Str) : Sp := fun vs H Q _ => ∃ (R : RA) (H0 : Hp) (s : MS) (g : Fn) (j : Nat) (pp tl : Addr) (vls : List Vl) (ws : List V) (a pl pt sa sd dx dx2 dx3 : Addr) (ov bv : V), vs = [.ref R.m, .ref a, .ref pp, .ref tl] ∧ Rep K nm R H H0 s ∧
  EntAt K nm R H H0 (some g.sc) g.body a pl pt sa sd dx dx2 dx3 ov bv ∧ H sd = some (.dK []) ∧ H pp = some (.tup (g.ps.map fun x => .str (nm x))) ∧ g.ps.length ≤ 3 ∧ H tl = some (.lst ws) ∧ Paired (VlAt R) vls ws ∧ s.frs.length ≤ 200 ∧
  ∀ R' H' v', Nx K nm R R' H H' H0 { s with mem := newSc s.mem ⟨some g.sc, bind g.ps vls fun _ => none, j⟩, frs := ⟨s.mem.nS, [⟨.plain, g.body, 0⟩], none⟩ :: s.frs, deep := max s.deep s.frs.length } → OcAt R' H' .on v' → Q v' H'
theorem sc_Machine_enter : FnScope ["self", "frame", "params", "things", "k"] ["self", "frame", "params", "things"] (defScope s_Machine_enter) := ⟨rfl, rfl, rfl, by decide +kernel, rfl, by decide +kernel, by decide +kernel⟩
theorem ok_Machine_enter (T : Tx K mg) (N : NmOk nm) : Ok P w K mg base 1 (He.fAd K ("Machine", some "enter")) ["self", "frame", "params", "things"] [] (spEnter K nm) := by
  obtain ⟨fd, F⟩ := T.f_Machine_enter
  refine mkOk F sc_Machine_enter (bind0 F fun _ _ _ _ _ _ us hl => match us, hl with | [_, _, _, _], _ => rfl) (fun vs H Q E h => ?_) (fun cdv A outer s H vs Q E hr h => ?_)
  · obtain ⟨R, H0, s, g, j, pp, tl, vls, ws, a, pl, pt, sa, sd, dx, dx2, dx3, ov, bv, rfl, _⟩ := h
    rfl
  obtain ⟨R, H0, s, g, j, pp, tl, vls, ws, a, pl, pt, sa, sd, dx, dx2, dx3, ov, bv, rfl, r, e, hsd, hpp, hl3, htl, hvs, hl, k⟩ := h
  refine ⟨_, (pss_cons (ps_for PassesOwn.never rfl (pi_range1 rfl T.z_range (pa_cons (pe_callB call_len_seq (by rfl) T.z_len PySem.boot_len (pa_cons (pv 2) pa_nil)) pa_nil)) (pg_name (i := 4) sc_Machine_enter.nd rfl (Or.inl rfl))
      (pss_one (ps_dput (hu_of hr) (pe_fld (pe_fld (pv 1) rfl) rfl) (pe_ix ix_tup (pv 2) (pv 4) (fun _ _ => rfl)) (pe_ifExp (pt_cmpR op_lt (pv 4) (pe_callB call_len_seq (by rfl) T.z_len PySem.boot_len (pa_cons (pv 3) pa_nil)) (nomark _)) (pe_ix ix_list (pv 3) (pv 4) (fun _ _ => rfl)) pe_non) rfl)))
      (pss_cons (ps_expr (pe_bm PySem.F.plainAttrs_list PySem.F.slot_list_append PySem.F.type_list_append mt_append (pe_fld (pv 0) rfl) (pa_cons (pv 1) pa_nil)))
      (pss_cons (ps_fld (pv 0) (pe_callB (call_max2 rfl) (by rfl) T.z_max (by decide +kernel) (pa_cons (pe_fld (pv 0) rfl) (pa_cons (pe_op op_sub (pe_callB call_len_seq (by rfl) T.z_len PySem.boot_len (pa_cons (pe_fld (pv 0) rfl) pa_nil)) pe_int) pa_nil))) rfl)
      (pss_one (ps_ret (pe_tup (pa_cons pe_str pa_nil))))))), ?_⟩
  have wl : ws.length = vls.length := hvs.length.symm
  refine ⟨_, rfl, pp, _, rfl, .inr (SqT.of hpp), ((g.ps.map fun x => V.str (nm x)).length : Int), rfl, ?_, ?_, ?_⟩
  · have : (0 : Int) ≤ ((g.ps.map fun x => V.str (nm x)).length : Int) := Int.natCast_nonneg _
    omega
  · rw [List.length_map]
    have h2 : (2 : Int) ^ 62 = 4611686018427387904 := by decide +kernel
    omega
  refine ⟨fun i m σ H' => m = g.ps.length - i ∧ i ≤ g.ps.length ∧ (∃ u, σ = [some (.ref R.m), some (.ref a), some (.ref pp), some (.ref tl), u]) ∧ Rep K nm R H' H0 s ∧ EntAt K nm R H' H0 (some g.sc) g.body a pl pt sa sd dx dx2 dx3 ov bv ∧
      (∃ kvs, H' sd = some (.dK kvs) ∧ HeldAt nm R kvs (bind (g.ps.take i) vls fun _ => none)) ∧ H' pp = some (.tup (g.ps.map fun x => .str (nm x))) ∧ H' tl = some (.lst ws) ∧ Tps H H', ⟨_, rfl, Nat.zero_le _, ⟨_, rfl⟩, r, e, ⟨[], hsd, ?_⟩, hpp, htl, Tps.refl H⟩, ?_⟩
  · exact ⟨List.nodup_nil, fun k hk => (by cases hk), fun x => rfl⟩
  rintro i m σ H1 ⟨rfl, hi, ⟨u, rfl⟩, r1, e1, ⟨kvs, hd1, hk1⟩, hpp1, htl1, t1⟩
  by_cases hlt : i < g.ps.length
  · obtain ⟨x, hx⟩ : ∃ x, g.ps[i]? = some x := ⟨_, List.getElem?_eq_getElem hlt⟩
    have hx' : (g.ps.map fun x => V.str (nm x))[i]? = some (.str (nm x)) := by rw [List.getElem?_map, hx]; rfl
    refine .inr ⟨by show i < (((g.ps.map fun x => V.str (nm x)).length : Int)).toNat; rw [Int.toNat_natCast, List.length_map]; exact hlt, fun σ' H2 => i + 1 ≤ g.ps.length ∧ (∃ u, σ' = [some (.ref R.m), some (.ref a), some (.ref pp), some (.ref tl), u]) ∧ Rep K nm R H2 H0 s ∧ EntAt K nm R H2 H0 (some g.sc) g.body a pl pt sa sd dx dx2 dx3 ov bv ∧
      (∃ kvs, H2 sd = some (.dK kvs) ∧ HeldAt nm R kvs (bind (g.ps.take (i + 1)) vls fun _ => none)) ∧ H2 pp = some (.tup (g.ps.map fun x => .str (nm x))) ∧ H2 tl = some (.lst ws) ∧ Tps H H2, fun σ' H2 z => ⟨g.ps.length - (i + 1), by omega, rfl, z⟩, ?_⟩
    rintro y H2 ⟨rfl, hy⟩
    rw [Int.zero_add] at hy
    subst hy
    -- what comes to the name
    have key : ∀ (z : V), VlAt R ((vls[i]?).getD .non) z → ∃ H4, DPut H2 sd (.str (nm x)) z H4 ∧ (i + 1 ≤ g.ps.length ∧ (∃ u, ([some (.ref R.m), some (.ref a), some (.ref pp), some (.ref tl), some (.int (i : Nat))] : L2.St) = [some (.ref R.m), some (.ref a), some (.ref pp), some (.ref tl), u]) ∧ Rep K nm R H4 H0 s ∧ EntAt K nm R H4 H0 (some g.sc) g.body a pl pt sa sd dx dx2 dx3 ov bv ∧
        (∃ kvs, H4 sd = some (.dK kvs) ∧ HeldAt nm R kvs (bind (g.ps.take (i + 1)) vls fun _ => none)) ∧ H4 pp = some (.tup (g.ps.map fun x => .str (nm x))) ∧ H4 tl = some (.lst ws) ∧ Tps H H4) := fun z hz => by
      refine ⟨_, DPut.k (k := Sum.inr (nm x)) hd1 (Nat.lt_of_le_of_lt hk1.len (by decide)), hlt, ⟨_, rfl⟩, r1.tmpD hd1 e1.f4 e1.g4, e1.put hd1, ⟨_, upd_same, ?_⟩, off_at (ne_tg hpp1 hd1 (by simp [tg])) _ hpp1, off_at (ne_tg htl1 hd1 (by simp [tg])) _ htl1, t1.trans (off_tps hd1 (by simp [tg]))⟩
      rw [bind_take hx]
      exact hk1.put N hz
    have slot : ∀ (z : V), VlAt R ((vls[i]?).getD .non) z → _ := key
    refine ⟨_, rfl, _, rfl, tl, _, rfl, .inl (SqL.of htl1), (i : Int), (ws.length : Int), rfl, rfl, _, rfl, ?_⟩
    by_cases hw : i < ws.length
    · obtain ⟨z, hz⟩ : ∃ z, ws[i]? = some z := ⟨_, List.getElem?_eq_getElem hw⟩
      obtain ⟨q, hq, hqz⟩ := paired_get hvs hz
      obtain ⟨H4, hput, hfin⟩ := key z (by rw [hq]; exact hqz)
      refine kT (decide_eq_true (by omega)) ?_
      exact ⟨_, rfl, _, rfl, tl, _, (i : Int), _, rfl, rfl, SqL.of htl1, atI_nat (j := i) hz, _, rfl, a, _, dx, _, _, rfl, e1.h1, T.cl_Frame, T.na_Frame_scope, fsFrame_scope, sa, _, dx3, _, _, rfl, e1.h4, T.cl_Scope, T.na_Scope_held, fsScope_held, _, rfl, _, rfl, pp, _, (i : Int), _, rfl, rfl, SqT.of hpp1, atI_nat (j := i) hx', sd, _, rfl, hput, hfin⟩
    · have hq : vls[i]? = none := List.getElem?_eq_none (by omega)
      obtain ⟨H4, hput, hfin⟩ := key .non (by rw [hq]; rfl)
      refine kF (by rw [decide_eq_false (by omega)]; simp) ?_
      exact ⟨_, rfl, a, _, dx, _, _, rfl, e1.h1, T.cl_Frame, T.na_Frame_scope, fsFrame_scope, sa, _, dx3, _, _, rfl, e1.h4, T.cl_Scope, T.na_Scope_held, fsScope_held, _, rfl, _, rfl, pp, _, (i : Int), _, rfl, rfl, SqT.of hpp1, atI_nat (j := i) hx', sd, _, rfl, hput, hfin⟩
  · refine .inl ⟨by show (((g.ps.map fun x => V.str (nm x)).length : Int)).toNat ≤ i; rw [Int.toNat_natCast, List.length_map]; omega, ?_⟩
    rw [List.take_of_length_le (by omega)] at hk1
    obtain ⟨dxm, kv, gv, ev, hm, hev⟩ := r1.mach
    have sl := r1.slen
    refine ⟨_, rfl, R.m, _, dxm, _, _, rfl, hm, T.cl_Machine, T.na_Machine_stack, fsMachine_stack, .inl ⟨rfl, _, SqL.of r1.stk⟩, _, rfl, R.stk, _, _, rfl, rfl, r1.stk, by rw [sl]; exact Nat.lt_of_le_of_lt hl (by decide), ?_⟩
    obtain ⟨r2, x2⟩ := r1.enter (sc := ⟨some g.sc, bind g.ps vls fun _ => none, j⟩) e1.f0 e1.f1 e1.f2 e1.f3 e1.f4 e1.g1 e1.g2 e1.g3 e1.g4 e1.h1 e1.h2 e1.h3 e1.hb e1.h4 e1.ho hd1 hk1
    have t2 : Tps H1 (upd H1 R.stk (.lst ((R.fr.reverse.map fun x => V.ref x.a) ++ [.ref a]))) := off_tps r1.stk (by simp [tg])
    have t := t1.trans t2
    generalize upd H1 R.stk (.lst ((R.fr.reverse.map fun x => V.ref x.a) ++ [.ref a])) = H2 at r2 t2 t ⊢
    have sl2 := r2.slen
    have hm2 := r2.mach
    obtain ⟨dxm, kv, gv, ev, hm, hev⟩ := hm2
    refine ⟨_, rfl, R.m, _, dxm, _, _, rfl, hm, T.cl_Machine, T.na_Machine_deepest, fsMachine_deepest, _, rfl, R.m, _, dxm, _, _, rfl, hm, T.cl_Machine, T.na_Machine_stack, fsMachine_stack, R.stk, _, rfl, .inl (SqL.of r2.stk), _, _, rfl, rfl, _, _, rfl, _, rfl, R.m, _, dxm, _, rfl, hm, T.cl_Machine, T.na_Machine_deepest, fsM_len, ?_⟩
    rw [fsMachine_put_deepest, sl2]
    have r3 := r2.machine (d := 0) (fin := s.fin) (n := max s.deep s.frs.length) hm hev
    have t3 : Tps H2 (upd H2 R.m (.ins (He.ga K "Machine") dxm (fsMachine kv gv (.ref R.stk) (.ref R.prt) ev (.int ((max s.deep s.frs.length : Nat) : Int))))) := off_tps hm (by rw [tg_mach]; decide)
    have ed : (if (((⟨s.mem.nS, [⟨.plain, g.body, 0⟩], none⟩ :: s.frs : List Fr).length : Nat) : Int) - 1 > ((s.deep : Nat) : Int) then (((⟨s.mem.nS, [⟨.plain, g.body, 0⟩], none⟩ :: s.frs : List Fr).length : Nat) : Int) - 1 else ((s.deep : Nat) : Int)) = ((max s.deep s.frs.length : Nat) : Int) := by
      rw [List.length_cons]
      split <;> omega
    rw [show (if (((⟨s.mem.nS, [⟨.plain, g.body, 0⟩], none⟩ :: s.frs : List Fr).length : Nat) : Int) - 1 > ((s.deep : Nat) : Int) then (((⟨s.mem.nS, [⟨.plain, g.body, 0⟩], none⟩ :: s.frs : List Fr).length : Nat) : Int) - 1 else ((s.deep : Nat) : Int)) = ((max s.deep s.frs.length : Nat) : Int) from ed]
    exact Nx.on (R := R) ⟨r3, rfl, rfl, x2, t.trans t3⟩ k

end
end K38
end
section
/-! K38Z4: enter_function, call. -/
namespace K38
open PySem PySem.Spec PyProof.Rows L2
section
variable {P : Program} {w : World} {K : PySem.W.Frag} {mg : Str → Option Value} {base : Heap} {nm : Nm → Str} {R R' R'' : RA} {H H' H'' H0 : Hp} {s s' s'' : MS}
theorem made0 {H : Hp} {x dx : Addr} {o : HO} (nx : H x = none) (ndx : H dx = none) : Same H (upd (upd H dx (.own x)) x o) := fun b u q => by
  rw [upd_ne (ne_of_none q nx), upd_ne (ne_of_none q ndx)]
  exact q
def spEnterFn (K : PySem.W.Frag) (nm : Nm → Str) : Sp := fun vs H Q _ => ∃ (R : RA) (H0 : Hp) (s : MS) (u : Vl) (wv : V) (tl : Addr) (vls : List Vl) (ws : List V) (o' : Oc) (s' : MS), vs = [.ref R.m, wv, .ref tl] ∧ Rep K nm R H H0 s ∧ VlAt R u wv ∧ H tl = some (.lst ws) ∧ Paired (VlAt R) vls ws ∧ enter s u vls = some (o', s') ∧
  ∀ R' H' v', Nx K nm R R' H H' H0 s' → OcAt R' H' o' v' → Q v' H'
theorem sc_Machine_enter_function : FnScope ["self", "value", "things"] ["self", "value", "things"] (defScope s_Machine_enter_function) := ⟨rfl, rfl, rfl, by decide +kernel, rfl, by decide +kernel, by decide +kernel⟩
theorem ok_Machine_enter_function (T : Tx K mg) (N : NmOk nm) : Ok P w K mg base 5 (He.fAd K ("Machine", some "enter_function")) ["self", "value", "things"] [] (spEnterFn K nm) := by
  obtain ⟨fd, F⟩ := T.f_Machine_enter_function
  obtain ⟨fd_Scope_init, us_Scope_init, G_Scope_init, b_Scope_init, v_Scope_init, k_Scope_init, _⟩ := ok_Scope_init T
  obtain ⟨fd_Frame_init, us_Frame_init, G_Frame_init, b_Frame_init, v_Frame_init, k_Frame_init, _⟩ := ok_Frame_init T
  obtain ⟨fd_Machine_enter, us_Machine_enter, G_Machine_enter, b_Machine_enter, v_Machine_enter, k_Machine_enter, _⟩ := ok_Machine_enter T N
  refine mkOk F sc_Machine_enter_function (bind0 F fun _ _ _ _ _ _ us hl => match us, hl with | [_, _, _], _ => rfl) (fun vs H Q E h => ?_) (fun cdv A outer s H vs Q E hr h => ?_)
  · obtain ⟨R, H0, s, u, wv, tl, vls, ws, o', s', rfl, _⟩ := h
    rfl
  obtain ⟨R, H0, s, u, wv, tl, vls, ws, o', s', rfl, r, hu, htl, hvs, hs, k⟩ := h
  refine ⟨_, (pss_cons (ps_if (pt_not (pt_val (pe_callB call_isi (by rfl) T.z_isinstance (by decide +kernel) (pa_cons (pv 1) (pa_cons (pe_glob (v := .ref (He.ga K "Function")) rfl T.g_Function rfl) pa_nil))))) (pss_one (ps_ret (pe_tup (pa_cons pe_str (pa_cons pe_str pa_nil))))) pss_nil)
      (pss_one (ps_ret (pe_meth (pv 0) T.cl_Machine T.me_Machine_enter G_Machine_enter (hr.mono (by decide)) b_Machine_enter v_Machine_enter pass0 (pa_cons (pe_make T.mk_Frame G_Frame_init (hr.mono (by decide)) rfl T.g_Frame b_Frame_init v_Frame_init pass0 (pa_cons (pe_make T.mk_Scope G_Scope_init (hr.mono (by decide)) rfl T.g_Scope b_Scope_init v_Scope_init pass0 (pa_cons (pe_fld (pv 1) rfl) pa_nil)) (pa_cons (pe_fld (pv 1) rfl) (pa_cons (pe_fld (pv 1) rfl) (pa_cons (pe_fld (pv 1) rfl) pa_nil))))) (pa_cons (pe_fld (pv 1) rfl) (pa_cons (pv 2) pa_nil))))))), ?_⟩
  cases u with
  | non =>
    cases hs
    have e : wv = .non := hu
    subst e
    refine ⟨_, rfl, _, _, _, _, false, rfl, .own _, .base .non, of_decide_eq_true (T.x 8), false, rfl, iteT ?_⟩
    refine ⟨by show 2 ≤ sizeLine; decide, fun q hq => ?_⟩
    exact k R _ _ ((Nx.self r).same (same_new hq _)) ⟨q, _, rfl, upd_same, rfl⟩
  | word x =>
    cases hs
    have e : wv = .str x := hu
    subst e
    refine ⟨_, rfl, _, _, _, _, false, rfl, .own _, .base (.str x), of_decide_eq_true (T.x 7), false, rfl, iteT ?_⟩
    refine ⟨by show 2 ≤ sizeLine; decide, fun q hq => ?_⟩
    exact k R _ _ ((Nx.self r).same (same_new hq _)) ⟨q, _, rfl, upd_same, rfl⟩
  | fn i =>
    obtain ⟨hi, rfl⟩ := hu
    have hs' : (if s.frs.length ≤ 200 then some (Oc.on, ({ s with mem := newSc s.mem ⟨some (s.mem.fns i).sc, bind (s.mem.fns i).ps vls fun _ => none, i⟩, frs := ⟨s.mem.nS, [⟨.plain, (s.mem.fns i).body, 0⟩], none⟩ :: s.frs, deep := max s.deep s.frs.length } : MS)) else none) = some (o', s') := hs
    by_cases hl : s.frs.length ≤ 200
    case neg => rw [if_neg hl] at hs'; cases hs'
    rw [if_pos hl] at hs'
    cases hs'
    obtain ⟨scN, dxq, pq, vbq, hq, hpq, hbody, hl3⟩ := r.fns i hi
    obtain ⟨dxm, kv, gv, ev, hm, _⟩ := r.mach
    refine ⟨_, rfl, _, _, _, _, true, rfl, .own _, insB_ok (T.x 5) hq T.cl_Function, ?_, true, rfl, iteF ?_⟩
    · unfold PySem.W.kitOne
      rw [if_pos (by simp)]
    refine ⟨_, rfl, R.m, dxm, _, rfl, hm, fsMachine_no_enter, _, rfl, R.fa i, _, dxq, _, _, rfl, hq, T.cl_Function, T.na_Function_scope, fsFunction_scope, fun y ey ny ney nye => ⟨y, ey, _, rfl, upd_same, fun d H1 hd0 b1 e1 e2 => ⟨rfl, ?_⟩⟩⟩
    have hd : H d = none := (made0 ny ney).free hd0
    have S1 := b1.made ny ney
    have hq1 := S1 _ _ hq
    refine ⟨_, rfl, R.fa i, _, dxq, _, _, rfl, hq1, T.cl_Function, T.na_Function_me, fsFunction_me, _, rfl, R.fa i, _, dxq, _, _, rfl, hq1, T.cl_Function, T.na_Function_owner, fsFunction_owner, _, rfl, R.fa i, _, dxq, _, _, rfl, hq1, T.cl_Function, T.na_Function_block, fsFunction_block, fun z ez nz nez nze => ⟨z, ez, _, _, _, _, rfl, upd_same, fun pl pt dx2 H2 hpl hpt npp b2 e3 e4 e5 => ⟨rfl, ?_⟩⟩⟩
    have hpl1 : H1 pl = none := (made0 nz nez).free hpl
    have hpt1 : H1 pt = none := (made0 nz nez).free hpt
    have S2 := b2.made nz nez
    have S := S1.trans S2
    have r2 := r.same S
    have zpl : z ≠ pl := ne_of_none upd_same hpl
    have zpt : z ≠ pt := ne_of_none upd_same hpt
    have hz := S1.free nz
    have hpl0 := S1.free hpl1
    have hpt0 := S1.free hpt1
    have ent : EntAt K nm R H2 H0 (some (s.mem.fns i).sc) (s.mem.fns i).body z pl pt y d ez dx2 ey (.ref (R.sa (s.mem.fns i).sc)) vbq :=
      ⟨by simp [zpl, zpt, npp], r.fresh hz, r.fresh hpl0, r.fresh hpt0, fun j hj => (by obtain ⟨_, _, _, _, _, h5, _⟩ := r.scs j hj; exact ne_of_none h5 hd), r.base.free hz, r.base.free hpl0, r.base.free hpt0, r.base.free hd, e3, e4, e5, At.same (tps_of S) _ _ hbody, S2 _ _ e1, ⟨scN, rfl⟩⟩
    refine ⟨_, rfl, R.fa i, _, dxq, _, _, rfl, S _ _ hq, T.cl_Function, T.na_Function_params, fsFunction_params, _, rfl, R, H0, s, s.mem.fns i, i, pq, tl, vls, ws, z, pl, pt, y, d, ez, dx2, ey, _, vbq, rfl, r2, ent, S2 _ _ e2, S _ _ hpq, hl3, S _ _ htl, hvs, hl, fun R' H' v' n o => ?_⟩
    exact k R' H' v' ⟨n.rep, n.m, n.prt, n.ext, (tps_of S).trans n.tps⟩ o

/-! ### call -/
theorem cutV_tail {x : V} {xs : List V} : cutV (x :: xs) (some 1) none = xs := by
  unfold cutV
  rw [HT.sIx_none, show (some (1 : Int)) = some (((1 : Nat)) : Int) from rfl, HT.sIx_nat, List.length_cons, Nat.min_eq_left (by omega), List.drop_succ_cons, List.drop_zero]
  exact List.take_of_length_le (by omega)
theorem simples_cons {sc : Nat} {m m2 : Mem} {e : Ex} {es : List Ex} {vs : List Vl} (h : simples sc m (e :: es) = some (vs, m2)) : ∃ v m1 vr, simple m sc e = some (v, m1) ∧ simples sc m1 es = some (vr, m2) ∧ vs = v :: vr := by
  unfold simples at h
  obtain ⟨⟨v, m1⟩, h1, h2⟩ := Option.bind_eq_some_iff.mp h
  obtain ⟨⟨vr, m3⟩, h3, h4⟩ := Option.map_eq_some_iff.mp h2
  cases h4
  exact ⟨v, m1, vr, h1, h3, rfl⟩
theorem paired_app {α β : Type} {F : α → β → Prop} : ∀ {l l' : List α} {r r' : List β}, Paired F l r → Paired F l' r' → Paired F (l ++ l') (r ++ r')
  | _, _, _, _, .nil, h => h
  | _, _, _, _, .cons h t, g => .cons h (paired_app t g)
def spCall (K : PySem.W.Frag) (nm : Nm → Str) : Sp := fun vs H Q _ => ∃ (R : RA) (H0 : Hp) (s : MS) (fr : Addr) (sc : Nat) (g : Ex) (as : List Ex) (v : V) (u : Vl) (vls : List Vl) (m' : Mem) (o' : Oc) (s' : MS), vs = [.ref R.m, .ref fr, v] ∧ Rep K nm R H H0 s ∧ FrSc K R H fr sc ∧ At H (eRt nm (.call g as)) v ∧ as.length ≤ 5 ∧
  simples sc s.mem (g :: as) = some (u :: vls, m') ∧ enter { s with mem := m' } u vls = some (o', s') ∧ ∀ R' H' v', Nx K nm R R' H H' H0 s' → OcAt R' H' o' v' → Q v' H'
theorem sc_Machine_call : FnScope ["self", "frame", "right", "simples", "values", "simple", "got"] ["self", "frame", "right"] (defScope s_Machine_call) := ⟨rfl, rfl, rfl, by decide +kernel, rfl, by decide +kernel, by decide +kernel⟩
theorem ok_Machine_call (T : Tx K mg) (N : NmOk nm) : Ok P w K mg base 6 (He.fAd K ("Machine", some "call")) ["self", "frame", "right"] [] (spCall K nm) := by
  obtain ⟨fd, F⟩ := T.f_Machine_call
  obtain ⟨fd_Machine_simple, us_Machine_simple, G_Machine_simple, b_Machine_simple, v_Machine_simple, k_Machine_simple, _⟩ := ok_Machine_simple (nm := nm) T
  obtain ⟨fd_Machine_enter_function, us_Machine_enter_function, G_Machine_enter_function, b_Machine_enter_function, v_Machine_enter_function, k_Machine_enter_function, _⟩ := ok_Machine_enter_function T N
  refine mkOk F sc_Machine_call (bind0 F fun _ _ _ _ _ _ us hl => match us, hl with | [_, _, _], _ => rfl) (fun vs H Q E h => ?_) (fun cdv A outer s H vs Q E hr h => ?_)
  · obtain ⟨R, H0, s, fr, sc, g, as, v, u, vls, m', o', s', rfl, _⟩ := h
    rfl
  obtain ⟨R, H0, s, fr, sc, g, as, v, u, vls, m', o', s', rfl, r, hfr, hv, ha5, hsim, hs, k⟩ := h
  refine ⟨_, (pss_cons (ps_set (i := 3) sc_Machine_call.nd rfl (Or.inl rfl) (pe_callTy call_list_of (by rfl) T.z_list (by decide +kernel) (pa_cons (pe_ix ix_tup (pv 2) (pe_un un_neg pe_int) (fun _ _ => rfl)) pa_nil)))
      (pss_cons (ps_if (pt_cmpR op_ne (pe_ix ix_tup (pv 2) pe_int (fun _ _ => rfl)) pe_str (nomark _)) (pss_one (ps_expr (pe_bm PySem.F.plainAttrs_list PySem.F.slot_list_insert PySem.F.type_list_insert mt_insert (pv 3) (pa_cons pe_int (pa_cons (pe_ix ix_tup (pv 2) pe_int (fun _ _ => rfl)) pa_nil))))) pss_nil)
      (pss_cons (ps_set (i := 4) sc_Machine_call.nd rfl (Or.inl rfl) (pe_lst pa_nil))
      (pss_cons (ps_for PassesOwn.never rfl (pi_list (pv 3)) (pg_name (i := 5) sc_Machine_call.nd rfl (Or.inl rfl))
      (pss_cons (ps_set (i := 6) sc_Machine_call.nd rfl (Or.inl rfl) (pe_meth (pv 0) T.cl_Machine T.me_Machine_simple G_Machine_simple (hr.mono (by decide)) b_Machine_simple v_Machine_simple pass0 (pa_cons (pv 1) (pa_cons (pv 5) pa_nil))))
      (pss_cons (ps_if (pt_cmpR op_eq (pe_callB call_len_seq (by rfl) T.z_len PySem.boot_len (pa_cons (pv 6) pa_nil)) pe_int (nomark _)) (pss_one (ps_ret (pe_tup (pa_cons pe_str (pa_cons pe_str pa_nil))))) pss_nil)
      (pss_one (ps_expr (pe_bm PySem.F.plainAttrs_list PySem.F.slot_list_append PySem.F.type_list_append mt_append (pv 4) (pa_cons (pe_ix ix_list (pv 6) pe_int (fun _ _ => rfl)) pa_nil)))))))
      (pss_cons (ps_if (pt_cmpR op_eq (pe_ix ix_tup (pv 2) pe_int (fun _ _ => rfl)) pe_str (nomark _)) pss_never pss_nil)
      (pss_cons (ps_if (pt_cmpR op_eq (pe_ix ix_tup (pv 2) pe_int (fun _ _ => rfl)) pe_str (nomark _)) (pss_one (ps_ret (pe_meth (pv 0) T.cl_Machine T.me_Machine_enter_function G_Machine_enter_function (hr.mono (by decide)) b_Machine_enter_function v_Machine_enter_function pass0 (pa_cons (pe_ix ix_list (pv 4) pe_int (fun _ _ => rfl)) (pa_cons (pe_slice sl_list (pv 4) (po_some pe_int) po_none) pa_nil))))) pss_nil)
      pss_never)))))), ?_⟩
  unfold eRt at hv
  obtain ⟨p, s0, s1, s2, rfl, hp, e0, e1, e2⟩ := hv.tup3
  cases e0.str
  obtain ⟨pa, xs, rfl, hpa, hxs⟩ := e2.tup
  -- simples = list(right[-1]), with right[1] ahead
  refine ⟨_, rfl, 1, rfl, p, _, -1, _, rfl, rfl, SqT.of hp, rfl, pa, _, rfl, .inr (SqT.of hpa), fun sl hsl => ?_⟩
  have S1 := same_new hsl (.lst xs)
  have hp1 := S1 _ _ hp
  have e1' := At.same (tps_of S1) _ _ e1
  have hxs1 := Ats.same (tps_of S1) _ _ hxs
  have r1 := r.same S1
  have hfr1 := hfr.same (.refl R) S1
  have t1 := tps_of S1
  have f1 := r.fresh hsl
  have h01 := r.base.free hsl
  have esl : (upd H sl (.lst xs)) sl = some (.lst xs) := upd_same
  generalize upd H sl (.lst xs) = H1 at S1 hp1 e1' hxs1 r1 hfr1 t1 esl
  have xl : xs.length = as.length := by rw [hxs.len, eExs_len]
  refine ⟨_, rfl, p, _, 0, _, rfl, rfl, SqT.of hp1, atI_nat (j := 0) rfl, rfl, _, rfl, kT (by decide +kernel) ?_⟩
  refine ⟨_, rfl, .inl ⟨rfl, _, SqL.of esl⟩, _, rfl, p, _, 1, _, rfl, rfl, SqT.of hp1, atI_nat (j := 1) rfl, sl, xs, 0, s1, rfl, rfl, esl, by rw [xl]; exact Nat.lt_of_le_of_lt ha5 (by decide), by decide, by decide, ?_⟩
  have r2 := r1.tmp (ys := xs.take (0 : Int).toNat ++ [s1] ++ xs.drop (0 : Int).toNat) esl f1 h01
  have t2 : Tps H1 (upd H1 sl (.lst (xs.take (0 : Int).toNat ++ [s1] ++ xs.drop (0 : Int).toNat))) := off_tps esl (by simp [tg])
  have hfr2 : FrSc K R (upd H1 sl (.lst (xs.take (0 : Int).toNat ++ [s1] ++ xs.drop (0 : Int).toNat))) fr sc := by
    obtain ⟨sN, dx, c, d, h⟩ := hfr1
    exact ⟨sN, dx, c, d, off_at (ne_tg h esl (by rw [tg_frame]; simp [tg])) _ h⟩
  have esl2 : (upd H1 sl (.lst (xs.take (0 : Int).toNat ++ [s1] ++ xs.drop (0 : Int).toNat))) sl = some (.lst (s1 :: xs)) := upd_same
  have hall : Ats (upd H1 sl (.lst (xs.take (0 : Int).toNat ++ [s1] ++ xs.drop (0 : Int).toNat))) (eExs nm (g :: as)) (s1 :: xs) := by
    rw [show eExs nm (g :: as) = eEx nm g :: eExs nm as by simp [eExs]]
    exact .mkC (At.same t2 _ _ e1') (Ats.same t2 _ _ hxs1)
  have t12 := t1.trans t2
  have hp2 := t12 _ _ hp
  generalize upd H1 sl (.lst (xs.take (0 : Int).toNat ++ [s1] ++ xs.drop (0 : Int).toNat)) = H2 at r2 t2 hfr2 esl2 hall t12 hp2 ⊢
  -- values = []
  refine ⟨by show 0 ≤ sizeLine; decide, fun vl hvl => ?_⟩
  have S3 := same_new hvl (.lst [])
  have slvl : sl ≠ vl := ne_of_none esl2 hvl
  have fv := r2.fresh hvl
  have h0v := r2.base.free hvl
  have r3 := r2.same S3
  have t3 := t12.trans (tps_of S3)
  have hfr3 := hfr2.same (.refl R) S3
  have esl3 := S3 _ _ esl2
  have hall3 := Ats.same (tps_of S3) _ _ hall
  have evl : (upd H2 vl (.lst [])) vl = some (.lst []) := upd_same
  generalize upd H2 vl (.lst []) = H3 at S3 r3 t3 hfr3 esl3 hall3 evl
  -- the loop
  let Pv : Nat → L2.St → Hp → Prop := fun i σ H' => ∃ (R' : RA) (mi : Mem) (va vb : List Vl) (ws : List V) (u5 u6 : Option V), σ = [some (.ref R.m), some (.ref fr), some (.ref p), some (.ref sl), some (.ref vl), u5, u6] ∧ RX R R' ∧ Rep K nm R' H' H0 { s with mem := mi } ∧ simples sc mi ((g :: as).drop i) = some (vb, m') ∧
    u :: vls = va ++ vb ∧ va.length = i ∧ Paired (VlAt R') va ws ∧ FrSc K R' H' fr sc ∧ H' sl = some (.lst (s1 :: xs)) ∧ H' vl = some (.lst ws) ∧ Ats H' (eExs nm (g :: as)) (s1 :: xs) ∧ Tps H H'
  refine ⟨_, rfl, sl, rfl, ⟨_, SqL.of esl3⟩, for_list (K := K) (a := sl) (xs := s1 :: xs) Pv ⟨R, s.mem, [], u :: vls, [], _, _, rfl, .refl R, r3, hsim, rfl, rfl, .nil, hfr3, esl3, evl, hall3, t3⟩ (fun i σ H' _ z => ?_) ?_ ?_⟩
  · obtain ⟨R', mi, va, vb, ws, u5, u6, rfl, x', r', hb, hab, hal, hpv, hfr', hsl', hvl', hall', t'⟩ := z
    exact SqL.of hsl'
  · rintro i y σ H' hi ⟨R', mi, va, vb, ws, u5, u6, rfl, x', r', hb, hab, hal, hpv, hfr', hsl', hvl', hall', t'⟩
    obtain ⟨t, ht, hty⟩ := hall'.get hi
    rw [eExs_get] at ht
    obtain ⟨e, he, rfl⟩ := Option.map_eq_some_iff.mp ht
    have hil : i < (g :: as).length := (List.getElem?_eq_some_iff.mp he).1
    have hdr : (g :: as).drop i = e :: (g :: as).drop (i + 1) := by
      rw [List.drop_eq_getElem_cons hil, (List.getElem?_eq_some_iff.mp he).2]
    rw [hdr] at hb
    obtain ⟨v1, m1, vr, hs1, hs2, rfl⟩ := simples_cons hb
    obtain ⟨dxm, kv, gv, ev, hm, _⟩ := r'.mach
    refine ⟨_, rfl, R'.m, dxm, _, (by rw [x'.m]), hm, fsMachine_no_simple, _, rfl, _, rfl, R', H0, { s with mem := mi }, fr, sc, e, y, v1, m1, (by rw [x'.m]; rfl), r', hfr', hty, hs1, fun R2 H4 q w4 S4 nq eq vq x4 r4 => ?_⟩
    refine ⟨_, rfl, q, _, rfl, .inl (SqL.of eq), rfl, _, rfl, kF (by simp) ?_⟩
    have hvl4 := S4 _ _ hvl'
    have wl : ws.length = i := by rw [← hpv.length]; exact hal
    have hil5 : i ≤ 5 := by rw [List.length_cons] at hil; omega
    refine ⟨_, rfl, .inl ⟨rfl, _, SqL.of hvl4⟩, _, rfl, q, _, 0, _, rfl, rfl, SqL.of eq, atI_nat (j := 0) rfl, vl, _, _, rfl, rfl, hvl4, by rw [wl]; exact Nat.lt_of_le_of_lt hil5 (by decide), ?_⟩
    have hvf : vl ∉ R2.foot := by rw [(x'.trans x4).foot]; exact fv
    have hsl4 := S4 _ _ hsl'
    have hqv : q ≠ vl := (ne_of_none hvl' nq).symm
    have t5 : Tps H4 (upd H4 vl (.lst (ws ++ [w4]))) := off_tps hvl4 (by simp [tg])
    refine ⟨R2, m1, va ++ [v1], vr, ws ++ [w4], _, _, rfl, x'.trans x4, r4.tmp hvl4 hvf h0v, hs2, by rw [hab]; simp, by simp [hal], paired_app (paired_ext hpv fun a _ b z => z.ext x4.ext) (.cons vq .nil), ?_, off_at slvl _ hsl4, upd_same, Ats.same t5 _ _ (Ats.same (tps_of S4) _ _ hall'), (t'.trans (tps_of S4)).trans t5⟩
    obtain ⟨sN, dx, c, d, h⟩ := hfr'.same x4 S4
    exact ⟨sN, dx, c, d, off_at (ne_tg h hvl4 (by rw [tg_frame]; simp [tg])) _ h⟩
  · rintro σ H' ⟨R', mi, va, vb, ws, u5, u6, rfl, x', r', hb, hab, hal, hpv, hfr', hsl', hvl', hall', t'⟩
    rw [List.drop_of_length_le (by rw [List.length_cons, List.length_cons, xl]; omega)] at hb
    cases hb
    rw [List.append_nil] at hab
    subst hab
    cases hpv with
    | @cons _ w0 _ wr h0 hr =>
      have hp' := t' _ _ hp
      refine ⟨_, rfl, p, _, 0, _, rfl, rfl, SqT.of hp', atI_nat (j := 0) rfl, rfl, _, rfl, kF (by decide +kernel) ?_⟩
      refine ⟨_, rfl, p, _, 0, _, rfl, rfl, SqT.of hp', atI_nat (j := 0) rfl, rfl, _, rfl, kT (by decide +kernel) ?_⟩
      obtain ⟨dxm, kv, gv, ev, hm, _⟩ := r'.mach
      refine ⟨_, rfl, R'.m, dxm, _, (by rw [x'.m]), hm, fsMachine_no_enter_function, _, rfl, vl, _, 0, _, rfl, rfl, SqL.of hvl', atI_nat (j := 0) rfl, _, rfl, 1, rfl, vl, _, rfl, SqL.of hvl', fun q hq => ?_⟩
      rw [cutV_tail]
      have S6 := same_new hq (.lst wr)
      refine ⟨R', H0, { s with mem := m' }, u, w0, q, vls, wr, o', s', (by rw [x'.m]; rfl), r'.same S6, h0, upd_same, hr, hs, fun R'' H'' v'' n o => ?_⟩
      exact k R'' H'' v'' ⟨n.rep, n.m.trans x'.m, n.prt.trans x'.prt, x'.ext.trans n.ext, (t'.trans (tps_of S6)).trans n.tps⟩ o

end
end K38
end
section
/-! K38Z5: right, begin. -/
namespace K38
open PySem PySem.Spec PyProof.Rows L2
section
variable {P : Program} {w : World} {K : PySem.W.Frag} {mg : Str → Option Value} {base : Heap} {nm : Nm → Str} {R R' R'' : RA} {H H' H'' H0 : Hp} {s s' s'' : MS}
def spMRight (K : PySem.W.Frag) (nm : Nm → Str) : Sp := fun vs H Q _ => ∃ (R : RA) (H0 : Hp) (s : MS) (x : FA) (l : List FA) (f : Fr) (fs : List Fr) (st : Sm) (rr : Rt) (v vr : V) (o' : Oc) (s' : MS), vs = [.ref R.m, .ref x.a, v, vr] ∧ Rep K nm R H H0 s ∧ R.fr = x :: l ∧ s.frs = f :: fs ∧ At H (eSm nm st) v ∧ At H (eRt nm rr) vr ∧
  right s f fs st rr = some (o', s') ∧ ∀ R' H' v', Nx K nm R R' H H' H0 s' → OcAt R' H' o' v' → Q v' H'
theorem ex_head {e : Ex} {v : V} (h : At H (eEx nm e) v) : ∃ p k r, v = .ref p ∧ H p = some (.tup (.str k :: r)) ∧ inV (.str k) [.str "call", .str "ask", .str "parent"] = false := by
  cases e with
  | word x =>
    unfold eEx at h
    obtain ⟨p, a, b, rfl, hp, ha, hb⟩ := h.tup2
    cases ha.str
    exact ⟨p, _, _, rfl, hp, by decide +kernel⟩
  | non =>
    unfold eEx at h
    obtain ⟨p, a, rfl, hp, ha⟩ := h.tup1
    cases ha.str
    exact ⟨p, _, _, rfl, hp, by decide +kernel⟩
  | name x =>
    unfold eEx at h
    obtain ⟨p, a, b, rfl, hp, ha, hb⟩ := h.tup2
    cases ha.str
    exact ⟨p, _, _, rfl, hp, by decide +kernel⟩
  | fn ps b =>
    unfold eEx at h
    obtain ⟨p, a, b, c, rfl, hp, ha, hb⟩ := h.tup3
    cases ha.str
    exact ⟨p, _, _, rfl, hp, by decide +kernel⟩
theorem sc_Machine_right : FnScope ["self", "frame", "statement", "right", "got"] ["self", "frame", "statement", "right"] (defScope s_Machine_right) := ⟨rfl, rfl, rfl, by decide +kernel, rfl, by decide +kernel, by decide +kernel⟩
theorem ok_Machine_right (T : Tx K mg) (N : NmOk nm) : Ok P w K mg base 7 (He.fAd K ("Machine", some "right")) ["self", "frame", "statement", "right"] [] (spMRight K nm) := by
  obtain ⟨fd, F⟩ := T.f_Machine_right
  obtain ⟨fd_Machine_simple, us_Machine_simple, G_Machine_simple, b_Machine_simple, v_Machine_simple, k_Machine_simple, _⟩ := ok_Machine_simple (nm := nm) T
  obtain ⟨fd_Machine_call, us_Machine_call, G_Machine_call, b_Machine_call, v_Machine_call, k_Machine_call, _⟩ := ok_Machine_call T N
  obtain ⟨fd_Machine_finish, us_Machine_finish, G_Machine_finish, b_Machine_finish, v_Machine_finish, k_Machine_finish, _⟩ := ok_Machine_finish T N
  refine mkOk F sc_Machine_right (bind0 F fun _ _ _ _ _ _ us hl => match us, hl with | [_, _, _, _], _ => rfl) (fun vs H Q E h => ?_) (fun cdv A outer s H vs Q E hr h => ?_)
  · obtain ⟨R, H0, s, x, l, f, fs, st, rr, v, vr, o', s', rfl, _⟩ := h
    rfl
  obtain ⟨R, H0, s, x, l, f, fs, st, rr, v, vr, o', s', rfl, r, hR, hfs, hv, hvr, hs, k⟩ := h
  refine ⟨_, (pss_cons (ps_if (pt_cmpR op_in_seq (pe_ix ix_tup (pv 3) pe_int (fun _ _ => rfl)) (pe_tup (pa_cons pe_str (pa_cons pe_str (pa_cons pe_str pa_nil)))) (by rfl)) (pss_cons (ps_fld (pv 1) (pv 2) rfl)
      (pss_one (ps_ret (pe_meth (pv 0) T.cl_Machine T.me_Machine_call G_Machine_call (hr.mono (by decide)) b_Machine_call v_Machine_call pass0 (pa_cons (pv 1) (pa_cons (pv 3) pa_nil)))))) pss_nil)
      (pss_cons (ps_set (i := 4) sc_Machine_right.nd rfl (Or.inl rfl) (pe_meth (pv 0) T.cl_Machine T.me_Machine_simple G_Machine_simple (hr.mono (by decide)) b_Machine_simple v_Machine_simple pass0 (pa_cons (pv 1) (pa_cons (pv 3) pa_nil))))
      (pss_cons (ps_if (pt_cmpR op_eq (pe_callB call_len_seq (by rfl) T.z_len PySem.boot_len (pa_cons (pv 4) pa_nil)) pe_int (nomark _)) (pss_one (ps_ret (pe_tup (pa_cons pe_str (pa_cons pe_str pa_nil))))) pss_nil)
      (pss_one (ps_ret (pe_meth (pv 0) T.cl_Machine T.me_Machine_finish G_Machine_finish (hr.mono (by decide)) b_Machine_finish v_Machine_finish pass0 (pa_cons (pv 1) (pa_cons (pv 2) (pa_cons (pe_ix ix_list (pv 4) pe_int (fun _ _ => rfl)) pa_nil))))))))), ?_⟩
  cases rr with
  | ex e =>
    have hve : At H (eEx nm e) vr := hvr
    obtain ⟨p, kk, rest, rfl, hp, hin⟩ := ex_head hve
    have hs' : ((simple s.mem f.sc e).bind fun z => (finish z.2 f.sc st z.1).map fun y => (y.1, ({ s with mem := y.2, frs := f :: fs } : MS))) = some (o', s') := hs
    obtain ⟨⟨u, m1⟩, h1, h2⟩ := Option.bind_eq_some_iff.mp hs'
    obtain ⟨⟨o, m2⟩, h3, h4⟩ := Option.map_eq_some_iff.mp h2
    have es : ({ s with mem := m2, frs := f :: fs } : MS) = { s with mem := m2 } := by rw [← hfs]
    have h4' : (o, ({ s with mem := m2, frs := f :: fs } : MS)) = (o', s') := h4
    rw [es] at h4'
    cases h4'
    refine ⟨_, rfl, p, _, 0, _, rfl, rfl, SqT.of hp, atI_nat (j := 0) rfl, by show 3 ≤ sizeLine; decide, fun q1 hq1 => ⟨q1, _, rfl, .inr (SqT.of upd_same), rfl, rfl, _, rfl, ?_⟩⟩
    have S1 := same_new hq1 (.tup [.str "call", .str "ask", .str "parent"])
    generalize upd H q1 (.tup [.str "call", .str "ask", .str "parent"]) = H1 at S1 ⊢
    refine kF (by rw [show (if false = true then !inV (.str kk) [.str "call", .str "ask", .str "parent"] else inV (.str kk) [.str "call", .str "ask", .str "parent"]) = false from hin]; simp) ?_
    have r1 := r.same S1
    have hfr := r1.frSc hR hfs
    obtain ⟨dxm, kv, gv, ev, hm, _⟩ := r1.mach
    refine ⟨_, rfl, R.m, dxm, _, rfl, hm, fsMachine_no_simple, _, rfl, _, rfl, R, H0, s, x.a, f.sc, e, _, u, m1, rfl, r1, hfr, At.same (tps_of S1) _ _ hve, h1, fun R2 H2 q w2 S2 nq eq vq x2 r2 => ?_⟩
    refine ⟨_, rfl, q, _, rfl, .inl (SqL.of eq), rfl, _, rfl, kF (by simp) ?_⟩
    obtain ⟨dxm, kv, gv, ev, hm, _⟩ := r2.mach
    have t12 := (tps_of S1).trans (tps_of S2)
    refine ⟨_, rfl, R2.m, dxm, _, (by rw [x2.m]), hm, fsMachine_no_finish, _, rfl, _, rfl, _, rfl, q, _, 0, _, rfl, rfl, SqL.of eq, atI_nat (j := 0) rfl, R2, H0, { s with mem := m1 }, x.a, f.sc, st, v, u, w2, _, m2, (by rw [x2.m]; rfl), r2, hfr.same x2 S2, At.same t12 _ _ hv, vq, h3, fun R' H' v' n oc => ?_⟩
    exact k R' H' v' ⟨n.rep, n.m.trans x2.m, n.prt.trans x2.prt, x2.ext.trans n.ext, t12.trans n.tps⟩ oc
  | call g as =>
    have hvr' := hvr
    unfold eRt at hvr'
    obtain ⟨p, s0, s1, s2, rfl, hp, e0, e1, e2⟩ := hvr'.tup3
    cases e0.str
    have hs' : (if as.length ≤ 5 then (simples f.sc s.mem (g :: as)).bind (fun z => match z.1 with | [] => none | v :: vs => enter { s with mem := z.2, frs := { f with pend := some st } :: fs } v vs) else none) = some (o', s') := hs
    by_cases ha : as.length ≤ 5
    case neg => rw [if_neg ha] at hs'; cases hs'
    rw [if_pos ha] at hs'
    obtain ⟨⟨vls0, m'⟩, h1, h2⟩ := Option.bind_eq_some_iff.mp hs'
    cases vls0 with
    | nil => cases h2
    | cons u vls =>
      refine ⟨_, rfl, p, _, 0, _, rfl, rfl, SqT.of hp, atI_nat (j := 0) rfl, by show 3 ≤ sizeLine; decide, fun q1 hq1 => ⟨q1, _, rfl, .inr (SqT.of upd_same), rfl, rfl, _, rfl, ?_⟩⟩
      have S1 := same_new hq1 (.tup [.str "call", .str "ask", .str "parent"])
      generalize upd H q1 (.tup [.str "call", .str "ask", .str "parent"]) = H1 at S1 ⊢
      refine kT (by decide +kernel) ?_
      have r1 := r.same S1
      obtain ⟨sN, dxf, pv, hf, hpend, hpl, hparts⟩ := r1.top0 hR hfs
      refine ⟨_, rfl, _, rfl, x.a, _, dxf, _, rfl, hf, T.cl_Frame, T.na_Frame_pending, fsF_len, ?_⟩
      rw [fsFrame_put_pending]
      have r2 := r1.pend hR hfs hf (At.same (tps_of S1) _ _ hv)
      have t2 : Tps H1 (upd H1 x.a (.ins (He.ga K "Frame") dxf (fsFrame (.ref (R.sa f.sc)) .non .non (.ref x.pl) v))) := off_tps hf (by rw [tg_frame]; decide)
      generalize upd H1 x.a (.ins (He.ga K "Frame") dxf (fsFrame (.ref (R.sa f.sc)) .non .non (.ref x.pl) v)) = H2 at r2 t2 ⊢
      have t12 := (tps_of S1).trans t2
      obtain ⟨dxm, kv, gv, ev, hm, _⟩ := r2.mach
      refine ⟨_, rfl, R.m, dxm, _, rfl, hm, fsMachine_no_call, _, rfl, _, rfl, R, H0, { s with frs := { f with pend := some st } :: fs }, x.a, f.sc, g, as, _, u, vls, m', o', s', rfl, r2, r2.frSc (f := { f with pend := some st }) hR rfl, At.same t12 _ _ hvr, ha, h1, h2, fun R' H' v' n oc => ?_⟩
      exact k R' H' v' ⟨n.rep, n.m, n.prt, n.ext, t12.trans n.tps⟩ oc

/-! ### begin -/
def begun (s : MS) (f : Fr) (fs : List Fr) (p : Pt) (ps : List Pt) : Sm → Option Cfg
  | .lt x r => right s f fs (.lt x r) r
  | .st x r => right s f fs (.st x r) r
  | .ret r => right s f fs (.ret r) r
  | .rs r => right s f fs (.rs r) r
  | .pr e => (pureV s.mem f.sc e).map fun v => (.on, { s with printed := s.printed ++ [textOf v] })
  | .iff t a b => chooseA s f fs p ps (.iff t a b)
  | .whl t a => chooseA s f fs p ps (.whl t a)
  | .tr a x b => pushed s f fs ⟨.tr x b, a, 0⟩
  | .la a b => pushed s f fs ⟨.la b, a, 0⟩
def spBegin (K : PySem.W.Frag) (nm : Nm → Str) : Sp := fun vs H Q _ => ∃ (R : RA) (H0 : Hp) (s : MS) (x : FA) (l : List FA) (f : Fr) (fs : List Fr) (a : Addr) (as : List Addr) (pt : Pt) (pts : List Pt) (st : Sm) (v : V) (o' : Oc) (s' : MS), vs = [.ref R.m, .ref x.a, .ref a, v] ∧ Rep K nm R H H0 s ∧ R.fr = x :: l ∧ s.frs = f :: fs ∧ x.ps = a :: as ∧ f.parts = pt :: pts ∧
  At H (eSm nm st) v ∧ s.printed.length < sizeLine ∧ begun s f fs pt pts st = some (o', s') ∧ ∀ R' H' v', Nx K nm R R' H H' H0 s' → OcAt R' H' o' v' → Q v' H'
theorem sc_Machine_begin : FnScope ["self", "frame", "part", "statement", "kind", "got"] ["self", "frame", "part", "statement"] (defScope s_Machine_begin) := ⟨rfl, rfl, rfl, by decide +kernel, rfl, by decide +kernel, by decide +kernel⟩
theorem ok_Machine_begin (T : Tx K mg) (N : NmOk nm) : Ok P w K mg base 9 (He.fAd K ("Machine", some "begin")) ["self", "frame", "part", "statement"] [] (spBegin K nm) := by
  obtain ⟨fd, F⟩ := T.f_Machine_begin
  obtain ⟨fd_text_of, us_text_of, G_text_of, b_text_of, v_text_of, k_text_of, _⟩ := ok_text_of T
  obtain ⟨fd_Part_init, us_Part_init, G_Part_init, b_Part_init, v_Part_init, k_Part_init, _⟩ := ok_Part_init T bind_Part4
  obtain ⟨fd_Machine_simple, us_Machine_simple, G_Machine_simple, b_Machine_simple, v_Machine_simple, k_Machine_simple, _⟩ := ok_Machine_simple (nm := nm) T
  obtain ⟨fd_Machine_right, us_Machine_right, G_Machine_right, b_Machine_right, v_Machine_right, k_Machine_right, _⟩ := ok_Machine_right T N
  obtain ⟨fd_Machine_choose, us_Machine_choose, G_Machine_choose, b_Machine_choose, v_Machine_choose, k_Machine_choose, _⟩ := ok_Machine_choose (nm := nm) T
  refine mkOk F sc_Machine_begin (bind0 F fun _ _ _ _ _ _ us hl => match us, hl with | [_, _, _, _], _ => rfl) (fun vs H Q E h => ?_) (fun cdv A outer s H vs Q E hr h => ?_)
  · obtain ⟨R, H0, s, x, l, f, fs, a, as, pt, pts, st, v, o', s', rfl, _⟩ := h
    rfl
  obtain ⟨R, H0, s, x, l, f, fs, a, as, pt, pts, st, v, o', s', rfl, r, hR, hfs, hx, hpp, hv, hpr, hs, k⟩ := h
  refine ⟨_, (pss_cons (ps_set (i := 4) sc_Machine_begin.nd rfl (Or.inl rfl) (pe_ix ix_tup (pv 3) pe_int (fun _ _ => rfl)))
      (pss_cons (ps_if (pt_cmpR op_in_seq (pv 4) (pe_tup (pa_cons pe_str (pa_cons pe_str (pa_cons pe_str pa_nil)))) (by rfl)) (pss_one (ps_ret (pe_meth (pv 0) T.cl_Machine T.me_Machine_right G_Machine_right (hr.mono (by decide)) b_Machine_right v_Machine_right pass0 (pa_cons (pv 1) (pa_cons (pv 3) (pa_cons (pe_ix ix_tup (pv 3) pe_int (fun _ _ => rfl)) pa_nil)))))) pss_nil)
      (pss_cons (ps_if (pt_cmpR op_in_seq (pv 4) (pe_tup (pa_cons pe_str (pa_cons pe_str (pa_cons pe_str pa_nil)))) (by rfl)) (pss_one (ps_ret (pe_meth (pv 0) T.cl_Machine T.me_Machine_right G_Machine_right (hr.mono (by decide)) b_Machine_right v_Machine_right pass0 (pa_cons (pv 1) (pa_cons (pv 3) (pa_cons (pe_ix ix_tup (pv 3) pe_int (fun _ _ => rfl)) pa_nil)))))) pss_nil)
      (pss_cons (ps_if (pt_cmpR op_eq (pv 4) pe_str (nomark _)) (pss_cons (ps_set (i := 5) sc_Machine_begin.nd rfl (Or.inl rfl) (pe_meth (pv 0) T.cl_Machine T.me_Machine_simple G_Machine_simple (hr.mono (by decide)) b_Machine_simple v_Machine_simple pass0 (pa_cons (pv 1) (pa_cons (pe_ix ix_tup (pv 3) pe_int (fun _ _ => rfl)) pa_nil))))
      (pss_cons (ps_if (pt_cmpR op_eq (pe_callB call_len_seq (by rfl) T.z_len PySem.boot_len (pa_cons (pv 5) pa_nil)) pe_int (nomark _)) (pss_one (ps_ret (pe_tup (pa_cons pe_str (pa_cons pe_str pa_nil))))) pss_nil)
      (pss_cons (ps_expr (pe_bm PySem.F.plainAttrs_list PySem.F.slot_list_append PySem.F.type_list_append mt_append (pe_fld (pv 0) rfl) (pa_cons (pe_call G_text_of (hr.mono (by decide)) rfl T.g_text_of k_text_of b_text_of v_text_of pass0 (pa_cons (pe_ix ix_list (pv 5) pe_int (fun _ _ => rfl)) pa_nil)) pa_nil)))
      (pss_one (ps_ret (pe_tup (pa_cons pe_str pa_nil))))))) pss_nil)
      (pss_cons (ps_if (PW.pt (pw_or (pt_cmpR op_eq (pv 4) pe_str (nomark _)) (pw_or1 (pt_cmpR op_eq (pv 4) pe_str (nomark _))))) (pss_one (ps_ret (pe_meth (pv 0) T.cl_Machine T.me_Machine_choose G_Machine_choose (hr.mono (by decide)) b_Machine_choose v_Machine_choose pass0 (pa_cons (pv 1) (pa_cons (pv 2) (pa_cons (pv 3) pa_nil)))))) pss_nil)
      (pss_cons (ps_expr (pe_bm PySem.F.plainAttrs_list PySem.F.slot_list_append PySem.F.type_list_append mt_append (pe_fld (pv 1) rfl) (pa_cons (pe_make T.mk_Part G_Part_init (hr.mono (by decide)) rfl T.g_Part b_Part_init v_Part_init pass0 (pa_cons (pv 4) (pa_cons (pe_ix ix_tup (pv 3) pe_int (fun _ _ => rfl)) (pa_cons (pv 3) pa_nil)))) pa_nil)))
      (pss_one (ps_ret (pe_tup (pa_cons pe_str pa_nil)))))))))), ?_⟩
  cases st with
  | lt x2 rr =>
    have hv0 := hv
    unfold eSm at hv
    obtain ⟨p, s0, s1, s2, rfl, hp, es0, es1, es2⟩ := hv.tup3
    cases es0.str
    refine ⟨_, rfl, p, _, 0, _, rfl, rfl, SqT.of hp, atI_nat (j := 0) rfl, ?_⟩
    refine ⟨_, rfl, by show 3 ≤ sizeLine; decide, fun q1 hq1 => ⟨q1, _, rfl, .inr (SqT.of upd_same), rfl, rfl, _, rfl, ?_⟩⟩
    have S1 := same_new hq1 (.tup [.str "let", .str "set", .str "keep"])
    generalize upd H q1 (.tup [.str "let", .str "set", .str "keep"]) = H1 at S1 ⊢
    refine kT (by decide +kernel) ?_
    have r1 := r.same S1
    have hp1 := S1 _ _ hp
    obtain ⟨dxm, kv, gv, ev, hm, _⟩ := r1.mach
    refine ⟨_, rfl, R.m, dxm, _, rfl, hm, fsMachine_no_right, _, rfl, _, rfl, _, rfl, p, _, 2, _, rfl, rfl, SqT.of hp1, atI_nat (j := 2) rfl, R, H0, s, x, l, f, fs, .lt x2 rr, rr, .ref p, s2, o', s', rfl, r1, hR, hfs, At.same (tps_of S1) _ _ hv0, At.same (tps_of S1) _ _ es2, hs, fun R' H' v' n oc => ?_⟩
    exact k R' H' v' ⟨n.rep, n.m, n.prt, n.ext, (tps_of S1).trans n.tps⟩ oc
  | st x2 rr =>
    have hv0 := hv
    unfold eSm at hv
    obtain ⟨p, s0, s1, s2, rfl, hp, es0, es1, es2⟩ := hv.tup3
    cases es0.str
    refine ⟨_, rfl, p, _, 0, _, rfl, rfl, SqT.of hp, atI_nat (j := 0) rfl, ?_⟩
    refine ⟨_, rfl, by show 3 ≤ sizeLine; decide, fun q1 hq1 => ⟨q1, _, rfl, .inr (SqT.of upd_same), rfl, rfl, _, rfl, ?_⟩⟩
    have S1 := same_new hq1 (.tup [.str "let", .str "set", .str "keep"])
    generalize upd H q1 (.tup [.str "let", .str "set", .str "keep"]) = H1 at S1 ⊢
    refine kT (by decide +kernel) ?_
    have r1 := r.same S1
    have hp1 := S1 _ _ hp
    obtain ⟨dxm, kv, gv, ev, hm, _⟩ := r1.mach
    refine ⟨_, rfl, R.m, dxm, _, rfl, hm, fsMachine_no_right, _, rfl, _, rfl, _, rfl, p, _, 2, _, rfl, rfl, SqT.of hp1, atI_nat (j := 2) rfl, R, H0, s, x, l, f, fs, .st x2 rr, rr, .ref p, s2, o', s', rfl, r1, hR, hfs, At.same (tps_of S1) _ _ hv0, At.same (tps_of S1) _ _ es2, hs, fun R' H' v' n oc => ?_⟩
    exact k R' H' v' ⟨n.rep, n.m, n.prt, n.ext, (tps_of S1).trans n.tps⟩ oc
  | ret rr =>
    have hv0 := hv
    unfold eSm at hv
    obtain ⟨p, s0, s1, rfl, hp, es0, es1⟩ := hv.tup2
    cases es0.str
    refine ⟨_, rfl, p, _, 0, _, rfl, rfl, SqT.of hp, atI_nat (j := 0) rfl, ?_⟩
    refine ⟨_, rfl, by show 3 ≤ sizeLine; decide, fun q1 hq1 => ⟨q1, _, rfl, .inr (SqT.of upd_same), rfl, rfl, _, rfl, ?_⟩⟩
    have S1 := same_new hq1 (.tup [.str "let", .str "set", .str "keep"])
    generalize upd H q1 (.tup [.str "let", .str "set", .str "keep"]) = H1 at S1 ⊢
    refine kF (by decide +kernel) ?_
    refine ⟨_, rfl, by show 3 ≤ sizeLine; decide, fun q2 hq2 => ⟨q2, _, rfl, .inr (SqT.of upd_same), rfl, rfl, _, rfl, ?_⟩⟩
    have S2 := same_new hq2 (.tup [.str "do", .str "return", .str "raise"])
    generalize upd H1 q2 (.tup [.str "do", .str "return", .str "raise"]) = H2 at S2 ⊢
    refine kT (by decide +kernel) ?_
    have S12 := S1.trans S2
    have r1 := r.same S12
    have hp1 := S12 _ _ hp
    obtain ⟨dxm, kv, gv, ev, hm, _⟩ := r1.mach
    refine ⟨_, rfl, R.m, dxm, _, rfl, hm, fsMachine_no_right, _, rfl, _, rfl, _, rfl, p, _, 1, _, rfl, rfl, SqT.of hp1, atI_nat (j := 1) rfl, R, H0, s, x, l, f, fs, .ret rr, rr, .ref p, s1, o', s', rfl, r1, hR, hfs, At.same (tps_of S12) _ _ hv0, At.same (tps_of S12) _ _ es1, hs, fun R' H' v' n oc => ?_⟩
    exact k R' H' v' ⟨n.rep, n.m, n.prt, n.ext, (tps_of S12).trans n.tps⟩ oc
  | rs rr =>
    have hv0 := hv
    unfold eSm at hv
    obtain ⟨p, s0, s1, rfl, hp, es0, es1⟩ := hv.tup2
    cases es0.str
    refine ⟨_, rfl, p, _, 0, _, rfl, rfl, SqT.of hp, atI_nat (j := 0) rfl, ?_⟩
    refine ⟨_, rfl, by show 3 ≤ sizeLine; decide, fun q1 hq1 => ⟨q1, _, rfl, .inr (SqT.of upd_same), rfl, rfl, _, rfl, ?_⟩⟩
    have S1 := same_new hq1 (.tup [.str "let", .str "set", .str "keep"])
    generalize upd H q1 (.tup [.str "let", .str "set", .str "keep"]) = H1 at S1 ⊢
    refine kF (by decide +kernel) ?_
    refine ⟨_, rfl, by show 3 ≤ sizeLine; decide, fun q2 hq2 => ⟨q2, _, rfl, .inr (SqT.of upd_same), rfl, rfl, _, rfl, ?_⟩⟩
    have S2 := same_new hq2 (.tup [.str "do", .str "return", .str "raise"])
    generalize upd H1 q2 (.tup [.str "do", .str "return", .str "raise"]) = H2 at S2 ⊢
    refine kT (by decide +kernel) ?_
    have S12 := S1.trans S2
    have r1 := r.same S12
    have hp1 := S12 _ _ hp
    obtain ⟨dxm, kv, gv, ev, hm, _⟩ := r1.mach
    refine ⟨_, rfl, R.m, dxm, _, rfl, hm, fsMachine_no_right, _, rfl, _, rfl, _, rfl, p, _, 1, _, rfl, rfl, SqT.of hp1, atI_nat (j := 1) rfl, R, H0, s, x, l, f, fs, .rs rr, rr, .ref p, s1, o', s', rfl, r1, hR, hfs, At.same (tps_of S12) _ _ hv0, At.same (tps_of S12) _ _ es1, hs, fun R' H' v' n oc => ?_⟩
    exact k R' H' v' ⟨n.rep, n.m, n.prt, n.ext, (tps_of S12).trans n.tps⟩ oc
  | pr e =>
    have hv0 := hv
    unfold eSm at hv
    obtain ⟨p, s0, s1, rfl, hp, es0, es1⟩ := hv.tup2
    cases es0.str
    refine ⟨_, rfl, p, _, 0, _, rfl, rfl, SqT.of hp, atI_nat (j := 0) rfl, ?_⟩
    refine ⟨_, rfl, by show 3 ≤ sizeLine; decide, fun q1 hq1 => ⟨q1, _, rfl, .inr (SqT.of upd_same), rfl, rfl, _, rfl, ?_⟩⟩
    have S1 := same_new hq1 (.tup [.str "let", .str "set", .str "keep"])
    generalize upd H q1 (.tup [.str "let", .str "set", .str "keep"]) = H1 at S1 ⊢
    refine kF (by decide +kernel) ?_
    refine ⟨_, rfl, by show 3 ≤ sizeLine; decide, fun q2 hq2 => ⟨q2, _, rfl, .inr (SqT.of upd_same), rfl, rfl, _, rfl, ?_⟩⟩
    have S2 := same_new hq2 (.tup [.str "do", .str "return", .str "raise"])
    generalize upd H1 q2 (.tup [.str "do", .str "return", .str "raise"]) = H2 at S2 ⊢
    refine kF (by decide +kernel) ?_
    have S12 := S1.trans S2
    have r1 := r.same S12
    have hp1 := S12 _ _ hp
    obtain ⟨dxm, kv, gv, ev, hm, _⟩ := r1.mach
    refine ⟨_, rfl, rfl, _, rfl, kT (by decide +kernel) ?_⟩
    obtain ⟨u, hu, e2⟩ := Option.map_eq_some_iff.mp hs
    cases e2
    refine ⟨_, rfl, R.m, dxm, _, rfl, hm, fsMachine_no_simple, _, rfl, _, rfl, p, _, 1, _, rfl, rfl, SqT.of hp1, atI_nat (j := 1) rfl, R, H0, s, x.a, f.sc, e, s1, u, s.mem, rfl, r1, r1.frSc hR hfs, At.same (tps_of S12) _ _ es1, pure_simple hu, fun R2 H3 q w2 S3 nq eq vq x2 r2 => ?_⟩
    refine ⟨_, rfl, q, _, rfl, .inl (SqL.of eq), rfl, _, rfl, kF (by simp) ?_⟩
    obtain ⟨dxm, kv, gv, ev, hm, _⟩ := r2.mach
    refine ⟨_, rfl, R2.m, _, dxm, _, _, (by rw [x2.m]), hm, T.cl_Machine, T.na_Machine_printed, fsMachine_printed, .inl ⟨rfl, _, SqL.of r2.prt⟩, _, rfl, q, _, 0, _, rfl, rfl, SqL.of eq, atI_nat (j := 0) rfl, u, w2, rfl, vl_text r2 u w2 vq, R2.prt, _, _, rfl, rfl, r2.prt, by rw [List.length_map]; exact hpr, ?_⟩
    have r3 := r2.print (textOf u)
    have t3 : Tps H3 (upd H3 R2.prt (.lst (s.printed.map V.str ++ [.str (textOf u)]))) := off_tps r2.prt (by simp [tg])
    exact Nx.on (R := R) ⟨r3, x2.m, x2.prt, x2.ext, ((tps_of S12).trans (tps_of S3)).trans t3⟩ k
  | iff t b1 b2 =>
    have hv0 := hv
    unfold eSm at hv
    obtain ⟨p, s0, s1, s2, s3, rfl, hp, es0, es1, es2, es3⟩ := hv.tup4
    cases es0.str
    refine ⟨_, rfl, p, _, 0, _, rfl, rfl, SqT.of hp, atI_nat (j := 0) rfl, ?_⟩
    refine ⟨_, rfl, by show 3 ≤ sizeLine; decide, fun q1 hq1 => ⟨q1, _, rfl, .inr (SqT.of upd_same), rfl, rfl, _, rfl, ?_⟩⟩
    have S1 := same_new hq1 (.tup [.str "let", .str "set", .str "keep"])
    generalize upd H q1 (.tup [.str "let", .str "set", .str "keep"]) = H1 at S1 ⊢
    refine kF (by decide +kernel) ?_
    refine ⟨_, rfl, by show 3 ≤ sizeLine; decide, fun q2 hq2 => ⟨q2, _, rfl, .inr (SqT.of upd_same), rfl, rfl, _, rfl, ?_⟩⟩
    have S2 := same_new hq2 (.tup [.str "do", .str "return", .str "raise"])
    generalize upd H1 q2 (.tup [.str "do", .str "return", .str "raise"]) = H2 at S2 ⊢
    refine kF (by decide +kernel) ?_
    have S12 := S1.trans S2
    have r1 := r.same S12
    have hp1 := S12 _ _ hp
    obtain ⟨dxm, kv, gv, ev, hm, _⟩ := r1.mach
    refine ⟨_, rfl, rfl, _, rfl, kF (by decide +kernel) ?_⟩
    refine ⟨_, rfl, rfl, _, rfl, kT (by decide +kernel) ?_⟩
    refine iteT ?_
    refine ⟨_, rfl, R.m, dxm, _, rfl, hm, fsMachine_no_choose, _, rfl, _, rfl, _, rfl, R, H0, s, x, l, f, fs, a, as, pt, pts, _, _, o', s', rfl, r1, hR, hfs, hx, hpp, At.same (tps_of S12) _ _ hv0, hs, fun R' H' v' n oc => ?_⟩
    exact k R' H' v' ⟨n.rep, n.m, n.prt, n.ext, (tps_of S12).trans n.tps⟩ oc
  | whl t b1 =>
    have hv0 := hv
    unfold eSm at hv
    obtain ⟨p, s0, s1, s2, rfl, hp, es0, es1, es2⟩ := hv.tup3
    cases es0.str
    refine ⟨_, rfl, p, _, 0, _, rfl, rfl, SqT.of hp, atI_nat (j := 0) rfl, ?_⟩
    refine ⟨_, rfl, by show 3 ≤ sizeLine; decide, fun q1 hq1 => ⟨q1, _, rfl, .inr (SqT.of upd_same), rfl, rfl, _, rfl, ?_⟩⟩
    have S1 := same_new hq1 (.tup [.str "let", .str "set", .str "keep"])
    generalize upd H q1 (.tup [.str "let", .str "set", .str "keep"]) = H1 at S1 ⊢
    refine kF (by decide +kernel) ?_
    refine ⟨_, rfl, by show 3 ≤ sizeLine; decide, fun q2 hq2 => ⟨q2, _, rfl, .inr (SqT.of upd_same), rfl, rfl, _, rfl, ?_⟩⟩
    have S2 := same_new hq2 (.tup [.str "do", .str "return", .str "raise"])
    generalize upd H1 q2 (.tup [.str "do", .str "return", .str "raise"]) = H2 at S2 ⊢
    refine kF (by decide +kernel) ?_
    have S12 := S1.trans S2
    have r1 := r.same S12
    have hp1 := S12 _ _ hp
    obtain ⟨dxm, kv, gv, ev, hm, _⟩ := r1.mach
    refine ⟨_, rfl, rfl, _, rfl, kF (by decide +kernel) ?_⟩
    refine ⟨_, rfl, rfl, _, rfl, kF (by decide +kernel) ?_⟩
    refine ⟨_, rfl, rfl, _, rfl, kT (by decide +kernel) ?_⟩
    refine ⟨_, rfl, R.m, dxm, _, rfl, hm, fsMachine_no_choose, _, rfl, _, rfl, _, rfl, R, H0, s, x, l, f, fs, a, as, pt, pts, _, _, o', s', rfl, r1, hR, hfs, hx, hpp, At.same (tps_of S12) _ _ hv0, hs, fun R' H' v' n oc => ?_⟩
    exact k R' H' v' ⟨n.rep, n.m, n.prt, n.ext, (tps_of S12).trans n.tps⟩ oc
  | tr b1 x2 b2 =>
    have hv0 := hv
    unfold eSm at hv
    obtain ⟨p, s0, s1, s2, s3, rfl, hp, es0, es1, es2, es3⟩ := hv.tup4
    cases es0.str
    refine ⟨_, rfl, p, _, 0, _, rfl, rfl, SqT.of hp, atI_nat (j := 0) rfl, ?_⟩
    refine ⟨_, rfl, by show 3 ≤ sizeLine; decide, fun q1 hq1 => ⟨q1, _, rfl, .inr (SqT.of upd_same), rfl, rfl, _, rfl, ?_⟩⟩
    have S1 := same_new hq1 (.tup [.str "let", .str "set", .str "keep"])
    generalize upd H q1 (.tup [.str "let", .str "set", .str "keep"]) = H1 at S1 ⊢
    refine kF (by decide +kernel) ?_
    refine ⟨_, rfl, by show 3 ≤ sizeLine; decide, fun q2 hq2 => ⟨q2, _, rfl, .inr (SqT.of upd_same), rfl, rfl, _, rfl, ?_⟩⟩
    have S2 := same_new hq2 (.tup [.str "do", .str "return", .str "raise"])
    generalize upd H1 q2 (.tup [.str "do", .str "return", .str "raise"]) = H2 at S2 ⊢
    refine kF (by decide +kernel) ?_
    have S12 := S1.trans S2
    have r1 := r.same S12
    have hp1 := S12 _ _ hp
    obtain ⟨dxm, kv, gv, ev, hm, _⟩ := r1.mach
    refine ⟨_, rfl, rfl, _, rfl, kF (by decide +kernel) ?_⟩
    refine ⟨_, rfl, rfl, _, rfl, kF (by decide +kernel) ?_⟩
    refine ⟨_, rfl, rfl, _, rfl, kF (by decide +kernel) ?_⟩
    obtain ⟨hl, e2⟩ := pushed_iff hs
    cases e2
    obtain ⟨sN, dxf, pv, hf, hpend, hpl, hparts⟩ := r1.top0 hR hfs
    refine ⟨_, rfl, x.a, _, dxf, _, _, rfl, hf, T.cl_Frame, T.na_Frame_parts, fsFrame_parts, .inl ⟨rfl, _, SqL.of hpl⟩, ?_⟩
    refine ⟨_, rfl, _, rfl, p, _, 1, _, rfl, rfl, SqT.of hp1, atI_nat (j := 1) rfl, _, rfl, fun y ey ny ney nye => ⟨y, ey, _, _, _, _, rfl, upd_same, rfl, ?_⟩⟩
    exact r1.push_on hR hfs ny ney (pt := ⟨.tr x2 b2, b1, 0⟩) rfl (At.same (tps_of S12) _ _ es1) ⟨rfl, At.same (tps_of S12) _ _ hv0⟩ hl fun R' H' v' n o => k R' H' v' ⟨n.rep, n.m, n.prt, n.ext, (tps_of S12).trans n.tps⟩ o
  | la b1 b2 =>
    have hv0 := hv
    unfold eSm at hv
    obtain ⟨p, s0, s1, s2, rfl, hp, es0, es1, es2⟩ := hv.tup3
    cases es0.str
    refine ⟨_, rfl, p, _, 0, _, rfl, rfl, SqT.of hp, atI_nat (j := 0) rfl, ?_⟩
    refine ⟨_, rfl, by show 3 ≤ sizeLine; decide, fun q1 hq1 => ⟨q1, _, rfl, .inr (SqT.of upd_same), rfl, rfl, _, rfl, ?_⟩⟩
    have S1 := same_new hq1 (.tup [.str "let", .str "set", .str "keep"])
    generalize upd H q1 (.tup [.str "let", .str "set", .str "keep"]) = H1 at S1 ⊢
    refine kF (by decide +kernel) ?_
    refine ⟨_, rfl, by show 3 ≤ sizeLine; decide, fun q2 hq2 => ⟨q2, _, rfl, .inr (SqT.of upd_same), rfl, rfl, _, rfl, ?_⟩⟩
    have S2 := same_new hq2 (.tup [.str "do", .str "return", .str "raise"])
    generalize upd H1 q2 (.tup [.str "do", .str "return", .str "raise"]) = H2 at S2 ⊢
    refine kF (by decide +kernel) ?_
    have S12 := S1.trans S2
    have r1 := r.same S12
    have hp1 := S12 _ _ hp
    obtain ⟨dxm, kv, gv, ev, hm, _⟩ := r1.mach
    refine ⟨_, rfl, rfl, _, rfl, kF (by decide +kernel) ?_⟩
    refine ⟨_, rfl, rfl, _, rfl, kF (by decide +kernel) ?_⟩
    refine ⟨_, rfl, rfl, _, rfl, kF (by decide +kernel) ?_⟩
    obtain ⟨hl, e2⟩ := pushed_iff hs
    cases e2
    obtain ⟨sN, dxf, pv, hf, hpend, hpl, hparts⟩ := r1.top0 hR hfs
    refine ⟨_, rfl, x.a, _, dxf, _, _, rfl, hf, T.cl_Frame, T.na_Frame_parts, fsFrame_parts, .inl ⟨rfl, _, SqL.of hpl⟩, ?_⟩
    refine ⟨_, rfl, _, rfl, p, _, 1, _, rfl, rfl, SqT.of hp1, atI_nat (j := 1) rfl, _, rfl, fun y ey ny ney nye => ⟨y, ey, _, _, _, _, rfl, upd_same, rfl, ?_⟩⟩
    exact r1.push_on hR hfs ny ney (pt := ⟨.la b2, b1, 0⟩) rfl (At.same (tps_of S12) _ _ es1) ⟨rfl, At.same (tps_of S12) _ _ hv0⟩ hl fun R' H' v' n o => k R' H' v' ⟨n.rep, n.m, n.prt, n.ext, (tps_of S12).trans n.tps⟩ o

end
end K38
end
section
/-! K38Z6: further, stands, go_on. -/
namespace K38
open PySem PySem.Spec PyProof.Rows L2
section
variable {P : Program} {w : World} {K : PySem.W.Frag} {mg : Str → Option Value} {base : Heap} {nm : Nm → Str} {R R' R'' : RA} {H H' H'' H0 : Hp} {s s' s'' : MS}
def furtherA (s : MS) (f : Fr) (fs : List Fr) (o : Oc) : Option Cfg := match o with
  | .val v => f.pend.bind fun st => (finish s.mem f.sc st v).map fun z => (z.1, { s with mem := z.2 })
  | o => match f.parts with
    | [] => leave s fs o
    | p :: ps => behind s f fs p ps o
theorem atI_last {xs : List V} {y : V} : atI (xs ++ [y]) (-1) = some y := by
  unfold atI ixN
  rw [if_neg (by decide)]
  simp
  rw [if_pos (by omega), show (-1 + ((xs.length : Int) + 1)).toNat = xs.length by omega]
  simp
theorem frs_last {x : FA} {l : List FA} (hR : R.fr = x :: l) : atI (R.fr.reverse.map fun x => V.ref x.a) (-1) = some (.ref x.a) := by
  rw [hR, List.reverse_cons, List.map_append]
  exact atI_last
theorem ps_last {a : Addr} {as : List Addr} : atI ((a :: as).reverse.map V.ref) (-1) = some (.ref a) := by
  rw [List.reverse_cons, List.map_append]
  exact atI_last
theorem Rep.fr_cons (r : Rep K nm R H H0 s) {f : Fr} {fs : List Fr} (hs : s.frs = f :: fs) : ∃ x l, R.fr = x :: l := by
  have := r.frs
  rw [hs] at this
  cases h : R.fr with
  | nil => rw [h] at this; cases this
  | cons x l => exact ⟨x, l, rfl⟩
def spFurther (K : PySem.W.Frag) (nm : Nm → Str) : Sp := fun vs H Q _ => ∃ (R : RA) (H0 : Hp) (s : MS) (f : Fr) (fs : List Fr) (o : Oc) (v : V) (o' : Oc) (s' : MS), vs = [.ref R.m, v] ∧ Rep K nm R H H0 s ∧ s.frs = f :: fs ∧ OcAt R H o v ∧ furtherA s f fs o = some (o', s') ∧
  ∀ R' H' v', Nx K nm R R' H H' H0 s' → OcAt R' H' o' v' → Q v' H'
def isVal : Oc → Bool
  | .val _ => true
  | _ => false
theorem oc_head {o : Oc} {v : V} (h : OcAt R H o v) (hn : isVal o = false) : ∃ p k r, v = .ref p ∧ H p = some (.tup (.str k :: r)) ∧ ¬ k = "value" := by
  cases o with
  | on => obtain ⟨p, rfl, hp⟩ := h; exact ⟨p, _, _, rfl, hp, by decide +kernel⟩
  | val z => cases hn
  | ret z => obtain ⟨p, z, rfl, hp, _⟩ := h; exact ⟨p, _, _, rfl, hp, by decide +kernel⟩
  | rs z => obtain ⟨p, z, rfl, hp, _⟩ := h; exact ⟨p, _, _, rfl, hp, by decide +kernel⟩
theorem sc_Machine_further : FnScope ["self", "outcome", "frame"] ["self", "outcome"] (defScope s_Machine_further) := ⟨rfl, rfl, rfl, by decide +kernel, rfl, by decide +kernel, by decide +kernel⟩
theorem ok_Machine_further (T : Tx K mg) (N : NmOk nm) : Ok P w K mg base 4 (He.fAd K ("Machine", some "further")) ["self", "outcome"] [] (spFurther K nm) := by
  obtain ⟨fd, F⟩ := T.f_Machine_further
  obtain ⟨fd_Machine_finish, us_Machine_finish, G_Machine_finish, b_Machine_finish, v_Machine_finish, k_Machine_finish, _⟩ := ok_Machine_finish T N
  obtain ⟨fd_Machine_leave, us_Machine_leave, G_Machine_leave, b_Machine_leave, v_Machine_leave, k_Machine_leave, _⟩ := ok_Machine_leave (nm := nm) T
  obtain ⟨fd_Machine_behind, us_Machine_behind, G_Machine_behind, b_Machine_behind, v_Machine_behind, k_Machine_behind, _⟩ := ok_Machine_behind T N
  refine mkOk F sc_Machine_further (bind0 F fun _ _ _ _ _ _ us hl => match us, hl with | [_, _], _ => rfl) (fun vs H Q E h => ?_) (fun cdv A outer s H vs Q E hr h => ?_)
  · obtain ⟨R, H0, s, f, fs, o, v, o', s', rfl, _⟩ := h
    rfl
  obtain ⟨R, H0, s, f, fs, o, v, o', s', rfl, r, hfs, ho, hs, k⟩ := h
  refine ⟨_, (pss_cons (ps_set (i := 2) sc_Machine_further.nd rfl (Or.inl rfl) (pe_ix ix_list (pe_fld (pv 0) rfl) (pe_un un_neg pe_int) (fun _ _ => rfl)))
      (pss_cons (ps_if (pt_cmpR op_eq (pe_ix ix_tup (pv 1) pe_int (fun _ _ => rfl)) pe_str (nomark _)) (pss_one (ps_ret (pe_meth (pv 0) T.cl_Machine T.me_Machine_finish G_Machine_finish (hr.mono (by decide)) b_Machine_finish v_Machine_finish pass0 (pa_cons (pv 2) (pa_cons (pe_fld (pv 2) rfl) (pa_cons (pe_ix ix_tup (pv 1) pe_int (fun _ _ => rfl)) pa_nil)))))) pss_nil)
      (pss_cons (ps_if (pt_cmpR op_eq (pe_callB call_len_seq (by rfl) T.z_len PySem.boot_len (pa_cons (pe_fld (pv 2) rfl) pa_nil)) pe_int (nomark _)) (pss_one (ps_ret (pe_meth (pv 0) T.cl_Machine T.me_Machine_leave G_Machine_leave (hr.mono (by decide)) b_Machine_leave v_Machine_leave pass0 (pa_cons (pv 1) pa_nil)))) pss_nil)
      (pss_one (ps_ret (pe_meth (pv 0) T.cl_Machine T.me_Machine_behind G_Machine_behind (hr.mono (by decide)) b_Machine_behind v_Machine_behind pass0 (pa_cons (pv 2) (pa_cons (pe_bm0 PySem.F.plainAttrs_list PySem.F.slot_list_pop PySem.F.type_list_pop mt_pop (pe_fld (pv 2) rfl)) (pa_cons (pv 1) pa_nil))))))))), ?_⟩
  obtain ⟨dxm, kv, gv, ev, hm, _⟩ := r.mach
  obtain ⟨x, l, hR⟩ := r.fr_cons hfs
  have hfr := r.frSc hR hfs
  obtain ⟨sN, dxf, pv, hf, hpend, hpl, hparts⟩ := r.top0 hR hfs
  refine ⟨_, rfl, R.m, _, dxm, _, _, rfl, hm, T.cl_Machine, T.na_Machine_stack, fsMachine_stack, 1, rfl, R.stk, _, -1, _, rfl, rfl, SqL.of r.stk, frs_last hR, ?_⟩
  cases o with
  | val z =>
    obtain ⟨p, zv, rfl, hp, hz⟩ := ho
    obtain ⟨st, hst, h2⟩ := Option.bind_eq_some_iff.mp hs
    obtain ⟨⟨o2, m2⟩, h3, h4⟩ := Option.map_eq_some_iff.mp h2
    cases h4
    rw [hst] at hpend
    refine ⟨_, rfl, p, _, 0, _, rfl, rfl, SqT.of hp, atI_nat (j := 0) rfl, rfl, _, rfl, kT (by decide +kernel) ?_⟩
    exact ⟨_, rfl, R.m, dxm, _, rfl, hm, fsMachine_no_finish, _, rfl, _, rfl, x.a, _, dxf, _, _, rfl, hf, T.cl_Frame, T.na_Frame_pending, fsFrame_pending, _, rfl, p, _, 1, _, rfl, rfl, SqT.of hp, atI_nat (j := 1) rfl, R, H0, s, x.a, f.sc, st, pv, z, zv, _, m2, rfl, r, hfr, hpend, hz, h3, k⟩

  | on =>
    obtain ⟨p, kk, rr, rfl, hp, hk⟩ := oc_head ho rfl
    refine ⟨_, rfl, p, _, 0, _, rfl, rfl, SqT.of hp, atI_nat (j := 0) rfl, rfl, _, rfl, kF (by rw [decide_eq_false (fun e => hk (V.str.inj e))]; simp) ?_⟩
    refine ⟨_, rfl, x.a, _, dxf, _, _, rfl, hf, T.cl_Frame, T.na_Frame_parts, fsFrame_parts, x.pl, _, rfl, .inl (SqL.of hpl), rfl, _, rfl, ?_⟩
    cases hpp : f.parts with
    | nil =>
      rw [hpp] at hparts
      have hx : x.ps = [] := by
        cases h : x.ps with
        | nil => rfl
        | cons a as => rw [h] at hparts; cases hparts
      rw [hx]
      refine kT (by simp) ?_
      have hs' : leave s fs (.on) = some (o', s') := by
        have h2 := hs
        unfold furtherA at h2
        rw [hpp] at h2
        exact h2
      exact ⟨_, rfl, R.m, dxm, _, rfl, hm, fsMachine_no_leave, _, rfl, R, H0, s, f, fs, _, _, o', s', rfl, r, hfs, ho, hs', k⟩
    | cons pt pts =>
      have hparts0 := hparts
      rw [hpp] at hparts
      obtain ⟨a, as, hx⟩ : ∃ a as, x.ps = a :: as := by
        cases h : x.ps with
        | nil => rw [h] at hparts; cases hparts
        | cons a as => exact ⟨a, as, rfl⟩
      refine kF (by rw [hx]; simp; omega) ?_
      have hs' : behind s f fs pt pts (.on) = some (o', s') := by
        have h2 := hs
        unfold furtherA at h2
        rw [hpp] at h2
        exact h2
      obtain ⟨r1, hpt, hna⟩ := r.pop hR hfs hx hpp
      have t1 : Tps H (upd H x.pl (.lst (x.ps.reverse.map V.ref).dropLast)) := off_tps hpl (by simp [tg])
      have e1 : RExt R { R with fr := { x with ps := as } :: l } := .of rfl rfl rfl rfl rfl
      have ho1 := ho.ext e1 t1
      refine ⟨_, rfl, R.m, dxm, _, rfl, hm, fsMachine_no_behind, _, rfl, _, rfl, x.a, _, dxf, _, _, rfl, hf, T.cl_Frame, T.na_Frame_parts, fsFrame_parts, .inl ⟨rfl, _, SqL.of hpl⟩, x.pl, _, V.ref a, rfl, rfl, hpl, ?_, ?_⟩
      · rw [hx]
        simp
      refine ⟨_, rfl, { R with fr := { x with ps := as } :: l }, H0, { s with frs := { f with parts := pts } :: fs }, { x with ps := as }, l, { f with parts := pts }, fs, a, pt, _, _, o', s', rfl, r1, rfl, rfl, hpt, ho1, hs', fun R' H' v' n oc => ?_⟩
      exact k R' H' v' ⟨n.rep, n.m, n.prt, e1.trans n.ext, t1.trans n.tps⟩ oc
  | ret z =>
    obtain ⟨p, kk, rr, rfl, hp, hk⟩ := oc_head ho rfl
    refine ⟨_, rfl, p, _, 0, _, rfl, rfl, SqT.of hp, atI_nat (j := 0) rfl, rfl, _, rfl, kF (by rw [decide_eq_false (fun e => hk (V.str.inj e))]; simp) ?_⟩
    refine ⟨_, rfl, x.a, _, dxf, _, _, rfl, hf, T.cl_Frame, T.na_Frame_parts, fsFrame_parts, x.pl, _, rfl, .inl (SqL.of hpl), rfl, _, rfl, ?_⟩
    cases hpp : f.parts with
    | nil =>
      rw [hpp] at hparts
      have hx : x.ps = [] := by
        cases h : x.ps with
        | nil => rfl
        | cons a as => rw [h] at hparts; cases hparts
      rw [hx]
      refine kT (by simp) ?_
      have hs' : leave s fs (.ret z) = some (o', s') := by
        have h2 := hs
        unfold furtherA at h2
        rw [hpp] at h2
        exact h2
      exact ⟨_, rfl, R.m, dxm, _, rfl, hm, fsMachine_no_leave, _, rfl, R, H0, s, f, fs, _, _, o', s', rfl, r, hfs, ho, hs', k⟩
    | cons pt pts =>
      have hparts0 := hparts
      rw [hpp] at hparts
      obtain ⟨a, as, hx⟩ : ∃ a as, x.ps = a :: as := by
        cases h : x.ps with
        | nil => rw [h] at hparts; cases hparts
        | cons a as => exact ⟨a, as, rfl⟩
      refine kF (by rw [hx]; simp; omega) ?_
      have hs' : behind s f fs pt pts (.ret z) = some (o', s') := by
        have h2 := hs
        unfold furtherA at h2
        rw [hpp] at h2
        exact h2
      obtain ⟨r1, hpt, hna⟩ := r.pop hR hfs hx hpp
      have t1 : Tps H (upd H x.pl (.lst (x.ps.reverse.map V.ref).dropLast)) := off_tps hpl (by simp [tg])
      have e1 : RExt R { R with fr := { x with ps := as } :: l } := .of rfl rfl rfl rfl rfl
      have ho1 := ho.ext e1 t1
      refine ⟨_, rfl, R.m, dxm, _, rfl, hm, fsMachine_no_behind, _, rfl, _, rfl, x.a, _, dxf, _, _, rfl, hf, T.cl_Frame, T.na_Frame_parts, fsFrame_parts, .inl ⟨rfl, _, SqL.of hpl⟩, x.pl, _, V.ref a, rfl, rfl, hpl, ?_, ?_⟩
      · rw [hx]
        simp
      refine ⟨_, rfl, { R with fr := { x with ps := as } :: l }, H0, { s with frs := { f with parts := pts } :: fs }, { x with ps := as }, l, { f with parts := pts }, fs, a, pt, _, _, o', s', rfl, r1, rfl, rfl, hpt, ho1, hs', fun R' H' v' n oc => ?_⟩
      exact k R' H' v' ⟨n.rep, n.m, n.prt, e1.trans n.ext, t1.trans n.tps⟩ oc
  | rs z =>
    obtain ⟨p, kk, rr, rfl, hp, hk⟩ := oc_head ho rfl
    refine ⟨_, rfl, p, _, 0, _, rfl, rfl, SqT.of hp, atI_nat (j := 0) rfl, rfl, _, rfl, kF (by rw [decide_eq_false (fun e => hk (V.str.inj e))]; simp) ?_⟩
    refine ⟨_, rfl, x.a, _, dxf, _, _, rfl, hf, T.cl_Frame, T.na_Frame_parts, fsFrame_parts, x.pl, _, rfl, .inl (SqL.of hpl), rfl, _, rfl, ?_⟩
    cases hpp : f.parts with
    | nil =>
      rw [hpp] at hparts
      have hx : x.ps = [] := by
        cases h : x.ps with
        | nil => rfl
        | cons a as => rw [h] at hparts; cases hparts
      rw [hx]
      refine kT (by simp) ?_
      have hs' : leave s fs (.rs z) = some (o', s') := by
        have h2 := hs
        unfold furtherA at h2
        rw [hpp] at h2
        exact h2
      exact ⟨_, rfl, R.m, dxm, _, rfl, hm, fsMachine_no_leave, _, rfl, R, H0, s, f, fs, _, _, o', s', rfl, r, hfs, ho, hs', k⟩
    | cons pt pts =>
      have hparts0 := hparts
      rw [hpp] at hparts
      obtain ⟨a, as, hx⟩ : ∃ a as, x.ps = a :: as := by
        cases h : x.ps with
        | nil => rw [h] at hparts; cases hparts
        | cons a as => exact ⟨a, as, rfl⟩
      refine kF (by rw [hx]; simp; omega) ?_
      have hs' : behind s f fs pt pts (.rs z) = some (o', s') := by
        have h2 := hs
        unfold furtherA at h2
        rw [hpp] at h2
        exact h2
      obtain ⟨r1, hpt, hna⟩ := r.pop hR hfs hx hpp
      have t1 : Tps H (upd H x.pl (.lst (x.ps.reverse.map V.ref).dropLast)) := off_tps hpl (by simp [tg])
      have e1 : RExt R { R with fr := { x with ps := as } :: l } := .of rfl rfl rfl rfl rfl
      have ho1 := ho.ext e1 t1
      refine ⟨_, rfl, R.m, dxm, _, rfl, hm, fsMachine_no_behind, _, rfl, _, rfl, x.a, _, dxf, _, _, rfl, hf, T.cl_Frame, T.na_Frame_parts, fsFrame_parts, .inl ⟨rfl, _, SqL.of hpl⟩, x.pl, _, V.ref a, rfl, rfl, hpl, ?_, ?_⟩
      · rw [hx]
        simp
      refine ⟨_, rfl, { R with fr := { x with ps := as } :: l }, H0, { s with frs := { f with parts := pts } :: fs }, { x with ps := as }, l, { f with parts := pts }, fs, a, pt, _, _, o', s', rfl, r1, rfl, rfl, hpt, ho1, hs', fun R' H' v' n oc => ?_⟩
      exact k R' H' v' ⟨n.rep, n.m, n.prt, e1.trans n.ext, t1.trans n.tps⟩ oc

/-! ### stands -/
def standsA (f : Fr) : Bool := match f.parts with
  | [] => false
  | p :: _ => decide (p.place < p.rows.length)
def spStands (K : PySem.W.Frag) (nm : Nm → Str) : Sp := fun vs H Q _ => ∃ (R : RA) (H0 : Hp) (s : MS) (f : Fr) (fs : List Fr), vs = [.ref R.m] ∧ Rep K nm R H H0 s ∧ s.frs = f :: fs ∧ Q (.bl (standsA f)) H
theorem sc_Machine_stands : FnScope ["self", "parts"] ["self"] (defScope s_Machine_stands) := ⟨rfl, rfl, rfl, by decide +kernel, rfl, by decide +kernel, by decide +kernel⟩
theorem ok_Machine_stands (T : Tx K mg) : Ok P w K mg base 1 (He.fAd K ("Machine", some "stands")) ["self"] [] (spStands K nm) := by
  obtain ⟨fd, F⟩ := T.f_Machine_stands
  refine mkOk F sc_Machine_stands (bind0 F fun _ _ _ _ _ _ us hl => match us, hl with | [_], _ => rfl) (fun vs H Q E h => ?_) (fun cdv A outer s H vs Q E hr h => ?_)
  · obtain ⟨R, H0, s, f, fs, rfl, _⟩ := h
    rfl
  obtain ⟨R, H0, s, f, fs, rfl, r, hfs, k⟩ := h
  refine ⟨_, (pss_cons (ps_set (i := 1) sc_Machine_stands.nd rfl (Or.inl rfl) (pe_fld (pe_ix ix_list (pe_fld (pv 0) rfl) (pe_un un_neg pe_int) (fun _ _ => rfl)) rfl))
      (pss_one (ps_ret (pe_and (pe_cmpR op_gt (pe_callB call_len_seq (by rfl) T.z_len PySem.boot_len (pa_cons (pv 1) pa_nil)) pe_int (nomark _)) (pe_one (pe_cmpR op_lt (pe_fld (pe_ix ix_list (pv 1) (pe_un un_neg pe_int) (fun _ _ => rfl)) rfl) (pe_callB call_len_seq (by rfl) T.z_len PySem.boot_len (pa_cons (pe_fld (pe_ix ix_list (pv 1) (pe_un un_neg pe_int) (fun _ _ => rfl)) rfl) pa_nil)) (nomark _))))))), ?_⟩
  obtain ⟨dxm, kv, gv, ev, hm, _⟩ := r.mach
  obtain ⟨x, l, hR⟩ := r.fr_cons hfs
  obtain ⟨sN, dxf, pv', hf, hpend, hpl, hparts⟩ := r.top0 hR hfs
  refine ⟨_, rfl, R.m, _, dxm, _, _, rfl, hm, T.cl_Machine, T.na_Machine_stack, fsMachine_stack, 1, rfl, R.stk, _, -1, _, rfl, rfl, SqL.of r.stk, frs_last hR, x.a, _, dxf, _, _, rfl, hf, T.cl_Frame, T.na_Frame_parts, fsFrame_parts, ?_⟩
  unfold standsA at k
  cases hpp : f.parts with
  | nil =>
    rw [hpp] at hparts k
    have hx : x.ps = [] := by
      cases h : x.ps with
      | nil => rfl
      | cons a as => rw [h] at hparts; cases hparts
    rw [hx] at hpl
    exact ⟨_, rfl, x.pl, _, rfl, .inl (SqL.of hpl), _, 0, rfl, rfl, _, rfl, kF (by simp) k⟩
  | cons pt pts =>
    rw [hpp] at hparts k
    obtain ⟨a, as, hx⟩ : ∃ a as, x.ps = a :: as := by
      cases h : x.ps with
      | nil => rw [h] at hparts; cases hparts
      | cons a as => exact ⟨a, as, rfl⟩
    rw [hx] at hparts hpl
    cases hparts with
    | cons q1 q2 =>
      obtain ⟨dxp, kd, rv, sv, ov, hp0, hrows, hpk⟩ := q1
      obtain ⟨rp, rvs, rfl, hrp, hrs⟩ := hrows.tup
      refine ⟨_, rfl, x.pl, _, rfl, .inl (SqL.of hpl), _, 0, rfl, rfl, _, rfl, kT (decide_eq_true (by rw [List.length_map, List.length_reverse, List.length_cons]; omega)) ?_⟩
      refine ⟨_, rfl, 1, rfl, x.pl, _, -1, _, rfl, rfl, SqL.of hpl, ps_last, a, _, dxp, _, _, rfl, hp0, T.cl_Part, T.na_Part_place, fsPart_place, _, rfl, 1, rfl, x.pl, _, -1, _, rfl, rfl, SqL.of hpl, ps_last, a, _, dxp, _, _, rfl, hp0, T.cl_Part, T.na_Part_rows, fsPart_rows, rp, _, rfl, .inr (SqT.of hrp), _, _, rfl, rfl, ?_⟩
      rw [hrs.len, eSms_len]
      have e : decide ((pt.place : Int) < (pt.rows.length : Int)) = decide (pt.place < pt.rows.length) := by
        by_cases h : pt.place < pt.rows.length
        · rw [decide_eq_true h, decide_eq_true (by omega)]
        · rw [decide_eq_false h, decide_eq_false (by omega)]
      have k' : Q (.bl (decide (pt.place < pt.rows.length))) H := k
      rw [← e] at k'
      exact k'
/-! ### go_on -/
/-- ahead of a statement -/
structure Ahead (s : MS) (f : Fr) (fs : List Fr) (p : Pt) (ps : List Pt) (st : Sm) : Prop where
  fin : s.fin = none
  frs : s.frs = f :: fs
  parts : f.parts = p :: ps
  row : p.rows[p.place]? = some st
theorem tick_cases {o : Oc} {b : Nat} {c1 : Cfg} (hf : s.fin = none) (h : tick (o, s) = some (b, c1)) : ∃ f fs, s.frs = f :: fs ∧ ((o = .on ∧ ∃ p ps st, Ahead s f fs p ps st ∧ b = 1 ∧ begin_ s f fs p ps st = some c1) ∨ (¬ (o = .on ∧ standsA f = true) ∧ b = 0 ∧ furtherA s f fs o = some c1)) := by
  unfold tick at h
  simp only [hf] at h
  cases hfs : s.frs with
  | nil => simp only [hfs] at h; cases h
  | cons f fs =>
    simp only [hfs] at h
    refine ⟨f, fs, rfl, ?_⟩
    cases o with
    | val v =>
      simp only at h
      obtain ⟨st, h1, h2⟩ := Option.bind_eq_some_iff.mp h
      obtain ⟨z, h3, h4⟩ := Option.map_eq_some_iff.mp h2
      cases h4
      refine .inr ⟨fun e => (by cases e.1), rfl, ?_⟩
      unfold furtherA
      simp only [h1, Option.bind_some, h3, Option.map_some, hfs, hf]
    | on =>
      simp only at h
      cases hp : f.parts with
      | nil =>
        simp only [hp] at h
        obtain ⟨z, h3, h4⟩ := Option.map_eq_some_iff.mp h
        cases h4
        refine .inr ⟨fun e => (by have e2 := e.2; unfold standsA at e2; rw [hp] at e2; cases e2), rfl, ?_⟩
        unfold furtherA
        simp only [hp, h3]
      | cons p ps =>
        simp only [hp] at h
        cases hr : p.rows[p.place]? with
        | some st =>
          simp only [hr] at h
          obtain ⟨z, h3, h4⟩ := Option.map_eq_some_iff.mp h
          cases h4
          exact .inl ⟨rfl, p, ps, st, ⟨hf, hfs, hp, hr⟩, rfl, h3⟩
        | none =>
          simp only [hr] at h
          obtain ⟨z, h3, h4⟩ := Option.map_eq_some_iff.mp h
          cases h4
          refine .inr ⟨fun e => ?_, rfl, ?_⟩
          · have e2 := e.2
            unfold standsA at e2
            rw [hp] at e2
            have e3 : p.place < p.rows.length := of_decide_eq_true e2
            rw [List.getElem?_eq_getElem e3] at hr
            cases hr
          unfold furtherA
          simp only [hp, h3]
    | ret v =>
      simp only at h
      refine .inr ⟨fun e => (by cases e.1), ?_⟩
      unfold furtherA
      cases hp : f.parts with
      | nil =>
        simp only [hp] at h
        obtain ⟨z, h3, h4⟩ := Option.map_eq_some_iff.mp h
        cases h4
        exact ⟨rfl, h3⟩
      | cons p ps =>
        simp only [hp] at h
        obtain ⟨z, h3, h4⟩ := Option.map_eq_some_iff.mp h
        cases h4
        exact ⟨rfl, h3⟩
    | rs v =>
      simp only at h
      refine .inr ⟨fun e => (by cases e.1), ?_⟩
      unfold furtherA
      cases hp : f.parts with
      | nil =>
        simp only [hp] at h
        obtain ⟨z, h3, h4⟩ := Option.map_eq_some_iff.mp h
        cases h4
        exact ⟨rfl, h3⟩
      | cons p ps =>
        simp only [hp] at h
        obtain ⟨z, h3, h4⟩ := Option.map_eq_some_iff.mp h
        cases h4
        exact ⟨rfl, h3⟩
/-- from here the end is m things and n beginnings away -/
def Left (L : List Str) (n m : Nat) (o : Oc) (s : MS) : Prop := ∃ c', Tk n m (o, s) c' ∧ Fin_ L c'
theorem Left.fin {L : List Str} {n m : Nat} {o : Oc} (h : Left L n m o s) (hf : s.fin ≠ none) : n = 0 ∧ m = 0 ∧ Fin_ L (o, s) := by
  obtain ⟨c', t, f⟩ := h
  cases t with
  | refl => exact ⟨rfl, rfl, f⟩
  | cons e t =>
    exfalso
    unfold tick at e
    cases h : s.fin with
    | none => exact hf h
    | some z => simp only [h] at e; cases e
theorem Left.go {L : List Str} {n m : Nat} {o : Oc} (h : Left L n m o s) (hf : s.fin = none) : ∃ f fs, s.frs = f :: fs ∧ ((o = .on ∧ ∃ p ps st o1 s1 n1 m1, Ahead s f fs p ps st ∧ begin_ s f fs p ps st = some (o1, s1) ∧ n = n1 + 1 ∧ m = m1 + 1 ∧ Left L n1 m1 o1 s1) ∨
    (¬ (o = .on ∧ standsA f = true) ∧ ∃ o1 s1 m1, furtherA s f fs o = some (o1, s1) ∧ m = m1 + 1 ∧ Left L n m1 o1 s1)) := by
  obtain ⟨c', t, fi⟩ := h
  cases t with
  | refl =>
    have := fi.2.1
    rw [hf] at this
    cases this
  | @cons b n1 m1 _ c1 _ e t =>
    obtain ⟨f, fs, h1, h2⟩ := tick_cases hf e
    refine ⟨f, fs, h1, ?_⟩
    rcases h2 with ⟨ho, p, ps, st, ha, hb, hbe⟩ | ⟨hn, hb, hfu⟩
    · subst hb
      exact .inl ⟨ho, p, ps, st, c1.1, c1.2, n1, m1, ha, hbe, rfl, rfl, c', t, fi⟩
    · subst hb
      exact .inr ⟨hn, c1.1, c1.2, m1, hfu, rfl, c', t, fi⟩
def spGoOn (K : PySem.W.Frag) (nm : Nm → Str) : Sp := fun vs H Q _ => ∃ (R : RA) (H0 : Hp) (s : MS) (o : Oc) (v : V) (L : List Str) (n m : Nat), vs = [.ref R.m, v] ∧ Rep K nm R H H0 s ∧ OcAt R H o v ∧ Left L n m o s ∧ (s.fin ≠ none → o = .on) ∧
  ∀ R' H' s' m', Nx K nm R R' H H' H0 s' → (s'.fin ≠ none ∨ ∃ f fs p ps st, Ahead s' f fs p ps st) → Left L n m' .on s' → Q .non H'
theorem further_fin {f : Fr} {fs : List Fr} {o o1 : Oc} {s1 : MS} (h : furtherA s f fs o = some (o1, s1)) (hf : s.fin = none) : s1.fin ≠ none → o1 = .on := by
  have pu : ∀ {s : MS} {f : Fr} {fs : List Fr} {pt : Pt}, pushed s f fs pt = some (o1, s1) → s1.fin ≠ none → o1 = .on := fun h _ => by
    obtain ⟨_, e⟩ := pushed_iff h
    cases e; rfl
  have be : ∀ {p : Pt} {ps : List Pt}, behind s f fs p ps o = some (o1, s1) → s1.fin ≠ none → o1 = .on := fun {p ps} h hn => by
    unfold behind at h
    cases hk : p.k with
    | plain => simp only [hk] at h; cases h; exact absurd hf hn
    | tr x b =>
      cases o with
      | rs z => simp only [hk] at h; exact pu h hn
      | on => simp only [hk] at h; cases h; exact absurd hf hn
      | val z => simp only [hk] at h; cases h; exact absurd hf hn
      | ret z => simp only [hk] at h; cases h; exact absurd hf hn
    | la b =>
      simp only [hk] at h; exact pu h hn
    | thn o2 =>
      cases o with
      | on => simp only [hk] at h; cases h; exact absurd hf hn
      | rs z => simp only [hk] at h; cases h; exact absurd hf hn
      | val z => simp only [hk] at h; cases h; exact absurd hf hn
      | ret z => simp only [hk] at h; cases h; exact absurd hf hn
  have le : leave s fs o = some (o1, s1) → s1.fin ≠ none → o1 = .on := fun h hn => by
    unfold leave at h
    cases fs with
    | nil => cases o <;> (cases h; rfl)
    | cons a b => cases o <;> (cases h; exact absurd hf hn)
  intro hn
  unfold furtherA at h
  cases o with
  | val z =>
    obtain ⟨st, h1, h2⟩ := Option.bind_eq_some_iff.mp h
    obtain ⟨z, h3, h4⟩ := Option.map_eq_some_iff.mp h2
    cases h4
    exact absurd hf hn
  | on =>
    cases hp : f.parts with
    | nil => simp only [hp] at h; exact le h hn
    | cons p ps => simp only [hp] at h; exact be h hn
  | ret z =>
    cases hp : f.parts with
    | nil => simp only [hp] at h; exact le h hn
    | cons p ps => simp only [hp] at h; exact be h hn
  | rs z =>
    cases hp : f.parts with
    | nil => simp only [hp] at h; exact le h hn
    | cons p ps => simp only [hp] at h; exact be h hn


theorem on_head {o : Oc} {v : V} (h : OcAt R H o v) (hn : o ≠ .on) : ∃ p k r, v = .ref p ∧ H p = some (.tup (.str k :: r)) ∧ ¬ k = "on" := by
  cases o with
  | on => exact absurd rfl hn
  | val z => obtain ⟨p, z, rfl, hp, _⟩ := h; exact ⟨p, _, _, rfl, hp, by decide +kernel⟩
  | ret z => obtain ⟨p, z, rfl, hp, _⟩ := h; exact ⟨p, _, _, rfl, hp, by decide +kernel⟩
  | rs z => obtain ⟨p, z, rfl, hp, _⟩ := h; exact ⟨p, _, _, rfl, hp, by decide +kernel⟩
theorem ahead_stands {s : MS} {f : Fr} {fs : List Fr} {p : Pt} {ps : List Pt} {st : Sm} (a : Ahead s f fs p ps st) : standsA f = true := by
  unfold standsA
  rw [a.parts]
  exact decide_eq_true (List.getElem?_eq_some_iff.mp a.row).1
theorem sc_Machine_go_on : FnScope ["self", "outcome"] ["self", "outcome"] (defScope s_Machine_go_on) := ⟨rfl, rfl, rfl, by decide +kernel, rfl, by decide +kernel, by decide +kernel⟩
theorem ok_Machine_go_on (T : Tx K mg) (N : NmOk nm) : Ok P w K mg base 5 (He.fAd K ("Machine", some "go_on")) ["self", "outcome"] [] (spGoOn K nm) := by
  obtain ⟨fd, F⟩ := T.f_Machine_go_on
  obtain ⟨fd_Machine_stands, us_Machine_stands, G_Machine_stands, b_Machine_stands, v_Machine_stands, k_Machine_stands, _⟩ := ok_Machine_stands (nm := nm) T
  obtain ⟨fd_Machine_further, us_Machine_further, G_Machine_further, b_Machine_further, v_Machine_further, k_Machine_further, _⟩ := ok_Machine_further T N
  refine mkOk F sc_Machine_go_on (bind0 F fun _ _ _ _ _ _ us hl => match us, hl with | [_, _], _ => rfl) (fun vs H Q E h => ?_) (fun cdv A outer s H vs Q E hr h => ?_)
  · obtain ⟨R, H0, s, o, v, L, n, m, rfl, _⟩ := h
    rfl
  obtain ⟨R, H0, s, o, v, L, n, m, rfl, r, ho, hleft, hfin, k⟩ := h
  refine ⟨_, (pss_one (ps_while PassesOwn.never (PW.pt (pw_and (pt_cmpR op_isN (pe_fld (pv 0) rfl) pe_non (nomark _)) (pw_and1 (pt_not (PW.pt (pw_and (pt_cmpR op_eq (pe_ix ix_tup (pv 1) pe_int (fun _ _ => rfl)) pe_str (nomark _)) (pw_and1 (pt_val (pe_meth0 (pv 0) T.cl_Machine T.me_Machine_stands G_Machine_stands (hr.mono (by decide)) b_Machine_stands v_Machine_stands pass0))))))))) (pss_one (ps_set (i := 1) sc_Machine_go_on.nd rfl (Or.inl rfl) (pe_meth (pv 0) T.cl_Machine T.me_Machine_further G_Machine_further (hr.mono (by decide)) b_Machine_further v_Machine_further pass0 (pa_cons (pv 1) pa_nil)))))), ?_⟩
  refine ⟨fun m' σ H' => ∃ (R' : RA) (o' : Oc) (v' : V) (s' : MS), σ = [some (.ref R.m), some v'] ∧ Nx K nm R R' H H' H0 s' ∧ OcAt R' H' o' v' ∧ Left L n m' o' s' ∧ (s'.fin ≠ none → o' = .on), ⟨m, R, o, v, s, rfl, Nx.self r, ho, hleft, hfin⟩, ?_⟩
  rintro m' σ H' ⟨R', o', v', s', rfl, n', ho', hleft', hfin'⟩
  obtain ⟨dxm, kv, gv, ev, hm, hev⟩ := n'.rep.mach
  refine ⟨_, rfl, R'.m, _, dxm, _, _, (by rw [n'.m]), hm, T.cl_Machine, T.na_Machine_ending, fsMachine_ending, rfl, _, rfl, ?_⟩
  cases hf : s'.fin with
  | some z =>
    have hne : ev ≠ .non := by
      rw [hf] at hev
      intro e
      subst e
      cases z with
      | done => obtain ⟨_, e, _⟩ := hev; cases e
      | raised t => obtain ⟨_, e, _⟩ := hev; cases e
    refine kF (by simpa using hne) ?_
    refine iteF ?_
    have : o' = .on := hfin' (by rw [hf]; simp)
    subst this
    exact k R' H' s' m' n' (.inl (by rw [hf]; simp)) hleft'
  | none =>
    have he : ev = .non := by rw [hf] at hev; exact hev
    subst he
    refine kT (by simp) ?_
    obtain ⟨f, fs, hfs, hc⟩ := hleft'.go hf
    -- what an outcome that goes on does
    have go : ¬ (o' = .on ∧ standsA f = true) → (∃ N : L2.St → Hp → Prop, (∀ σ'' H'', N σ'' H'' → ∃ m2, m2 < m' ∧ ∃ (R' : RA) (o' : Oc) (v' : V) (s' : MS), σ'' = [some (.ref R.m), some v'] ∧ Nx K nm R R' H H'' H0 s' ∧ OcAt R' H'' o' v' ∧ Left L n m2 o' s' ∧ (s'.fin ≠ none → o' = .on)) ∧
        spFurther K nm [.ref R.m, v'] H' (fun y H2 => N [some (.ref R.m), some y] H2) fun _ _ _ => False) := fun hn => by
      rcases hc with ⟨ho2, p, ps, st, o1, s1, n1, m1, ha, _⟩ | ⟨_, o1, s1, m1, hfu, hm1, hl1⟩
      · exact absurd ⟨ho2, by have := ahead_stands ha; exact this⟩ hn
      · refine ⟨fun σ'' H'' => ∃ (R' : RA) (o' : Oc) (v' : V) (s' : MS), σ'' = [some (.ref R.m), some v'] ∧ Nx K nm R R' H H'' H0 s' ∧ OcAt R' H'' o' v' ∧ Left L n m1 o' s' ∧ (s'.fin ≠ none → o' = .on), fun σ'' H'' z => ⟨m1, by omega, z⟩, ?_⟩
        refine ⟨R', H0, s', f, fs, o', v', o1, s1, by rw [n'.m], n'.rep, hfs, ho', hfu, fun R2 H2 v2 n2 oc2 => ?_⟩
        exact ⟨R2, o1, v2, s1, rfl, n'.trans n2, oc2, hl1, further_fin hfu hf⟩
    by_cases hon : o' = .on
    · subst hon
      obtain ⟨p, rfl, hp⟩ := id ho'
      refine ⟨_, rfl, p, _, 0, _, rfl, rfl, SqT.of hp, atI_nat (j := 0) rfl, rfl, _, rfl, kT (by decide +kernel) ?_⟩
      refine ⟨_, rfl, R'.m, dxm, _, (by rw [n'.m]), hm, fsMachine_no_stands, R', H0, s', f, fs, (by rw [n'.m]; rfl), n'.rep, hfs, standsA f, rfl, ?_⟩
      by_cases hst : standsA f = true
      · rw [hst]
        refine iteF ?_
        rcases hc with ⟨ho2, p2, ps, st, o1, s1, n1, m1, ha, _⟩ | ⟨hn, _⟩
        · exact k R' H' s' m' n' (.inr ⟨f, fs, p2, ps, st, ha⟩) hleft'
        · exact absurd ⟨rfl, hst⟩ hn
      · obtain ⟨N, h1, h2⟩ := go (fun e => hst e.2)
        rw [Bool.eq_false_iff.mpr hst]
        refine iteT ⟨N, h1, ?_⟩
        obtain ⟨R0, H00, s0, f0, fs0, o0, v0, o1, s1, e1, e2, e3, e4, e5, e6⟩ := h2
        exact ⟨_, rfl, R'.m, dxm, _, (by rw [n'.m]), hm, fsMachine_no_further, _, rfl, R0, H00, s0, f0, fs0, o0, v0, o1, s1, (by rw [← e1]; rfl), e2, e3, e4, e5, e6⟩
    · obtain ⟨p, kk, rr, rfl, hp, hk⟩ := on_head ho' hon
      refine ⟨_, rfl, p, _, 0, _, rfl, rfl, SqT.of hp, atI_nat (j := 0) rfl, rfl, _, rfl, kF (by rw [decide_eq_false (fun e => hk (V.str.inj e))]; simp) ?_⟩
      obtain ⟨N, h1, h2⟩ := go (fun e => hon e.1)
      refine iteT ⟨N, h1, ?_⟩
      obtain ⟨R0, H00, s0, f0, fs0, o0, v0, o1, s1, e1, e2, e3, e4, e5, e6⟩ := h2
      exact ⟨_, rfl, R'.m, dxm, _, (by rw [n'.m]), hm, fsMachine_no_further, _, rfl, R0, H00, s0, f0, fs0, o0, v0, o1, s1, (by rw [← e1]; rfl), e2, e3, e4, e5, e6⟩

end
end K38
end
section
/-! K38Z7: lines and depth only grow; step. -/
namespace K38
open PySem PySem.Spec PyProof.Rows L2
section
variable {P : Program} {w : World} {K : PySem.W.Frag} {mg : Str → Option Value} {base : Heap} {nm : Nm → Str} {R R' R'' : RA} {H H' H'' H0 : Hp} {s s' s'' : MS}
def Mo (s s1 : MS) : Prop := s.printed.length ≤ s1.printed.length ∧ s.deep ≤ s1.deep
theorem Mo.trans {a b c : MS} (x : Mo a b) (y : Mo b c) : Mo a c := ⟨Nat.le_trans x.1 y.1, Nat.le_trans x.2 y.2⟩
theorem mo_pushed {f : Fr} {fs : List Fr} {pt : Pt} {c : Cfg} (h : pushed s f fs pt = some c) : Mo s c.2 := by
  obtain ⟨_, e⟩ := pushed_iff h
  cases e
  exact ⟨Nat.le_refl _, Nat.le_refl _⟩
theorem mo_enter {u : Vl} {vs : List Vl} {c : Cfg} (h : enter s u vs = some c) : Mo s c.2 := by
  cases u with
  | non => cases h; exact ⟨Nat.le_refl _, Nat.le_refl _⟩
  | word x => cases h; exact ⟨Nat.le_refl _, Nat.le_refl _⟩
  | fn i =>
    unfold enter at h
    simp only at h
    split at h
    · cases h; exact ⟨Nat.le_refl _, Nat.le_max_left _ _⟩
    · cases h
theorem right_call {f : Fr} {fs : List Fr} {st : Sm} {g : Ex} {as : List Ex} {c : Cfg} (h : right s f fs st (.call g as) = some c) : ∃ v vs m, enter { s with mem := m, frs := { f with pend := some st } :: fs } v vs = some c := by
  have hs' : (if as.length ≤ 5 then (simples f.sc s.mem (g :: as)).bind (fun z => match z.1 with | [] => none | v :: vs => enter { s with mem := z.2, frs := { f with pend := some st } :: fs } v vs) else none) = some c := h
  by_cases ha : as.length ≤ 5
  case neg => rw [if_neg ha] at hs'; cases hs'
  rw [if_pos ha] at hs'
  obtain ⟨⟨vls0, m'⟩, h1, h2⟩ := Option.bind_eq_some_iff.mp hs'
  cases vls0 with
  | nil => cases h2
  | cons u vls => exact ⟨u, vls, m', h2⟩
theorem mo_right {f : Fr} {fs : List Fr} {st : Sm} {rr : Rt} {c : Cfg} (h : right s f fs st rr = some c) : Mo s c.2 := by
  cases rr with
  | ex e =>
    unfold right at h
    obtain ⟨z, h1, h2⟩ := Option.bind_eq_some_iff.mp h
    obtain ⟨y, h3, h4⟩ := Option.map_eq_some_iff.mp h2
    cases h4
    exact ⟨Nat.le_refl _, Nat.le_refl _⟩
  | call g as =>
    obtain ⟨v, vs, m, h2⟩ := right_call h
    exact mo_enter (s := { s with mem := m, frs := { f with pend := some st } :: fs }) h2
theorem mo_begin {f : Fr} {fs : List Fr} {p : Pt} {ps : List Pt} {st : Sm} {c : Cfg} (h : begin_ s f fs p ps st = some c) : Mo s c.2 := by
  cases st with
  | lt x r => exact mo_right h
  | st x r => exact mo_right h
  | ret r => exact mo_right h
  | rs r => exact mo_right h
  | pr e =>
    obtain ⟨u, hu, e2⟩ := Option.map_eq_some_iff.mp h
    cases e2
    exact ⟨by show _ ≤ (s.printed ++ [textOf u]).length; rw [List.length_append]; omega, Nat.le_refl _⟩
  | iff t a b =>
    obtain ⟨b2, _, h2⟩ := Option.bind_eq_some_iff.mp h
    exact mo_pushed h2
  | whl t a =>
    obtain ⟨b2, _, h2⟩ := Option.bind_eq_some_iff.mp h
    cases b2 with
    | true => exact mo_pushed h2
    | false => cases h2; exact ⟨Nat.le_refl _, Nat.le_refl _⟩
  | tr a x b => exact mo_pushed h
  | la a b => exact mo_pushed h
theorem mo_further {f : Fr} {fs : List Fr} {o o1 : Oc} {s1 : MS} (h : furtherA s f fs o = some (o1, s1)) : Mo s s1 := by
  have rf : Mo s s := ⟨Nat.le_refl _, Nat.le_refl _⟩
  have be : ∀ {p : Pt} {ps : List Pt}, behind s f fs p ps o = some (o1, s1) → Mo s s1 := fun {p ps} h => by
    unfold behind at h
    cases hk : p.k with
    | plain => simp only [hk] at h; cases h; exact rf
    | tr x b =>
      cases o with
      | rs z => simp only [hk] at h; exact mo_pushed h
      | on => simp only [hk] at h; cases h; exact rf
      | val z => simp only [hk] at h; cases h; exact rf
      | ret z => simp only [hk] at h; cases h; exact rf
    | la b => simp only [hk] at h; exact mo_pushed h
    | thn o2 =>
      cases o with
      | on => simp only [hk] at h; cases h; exact rf
      | rs z => simp only [hk] at h; cases h; exact rf
      | val z => simp only [hk] at h; cases h; exact rf
      | ret z => simp only [hk] at h; cases h; exact rf
  have le : leave s fs o = some (o1, s1) → Mo s s1 := fun h => by
    unfold leave at h
    cases fs with
    | nil => cases o <;> (cases h; exact rf)
    | cons a b => cases o <;> (cases h; exact rf)
  unfold furtherA at h
  cases o with
  | val z =>
    obtain ⟨st, h1, h2⟩ := Option.bind_eq_some_iff.mp h
    obtain ⟨z, h3, h4⟩ := Option.map_eq_some_iff.mp h2
    cases h4
    exact rf
  | on =>
    cases hp : f.parts with
    | nil => simp only [hp] at h; exact le h
    | cons p ps => simp only [hp] at h; exact be h
  | ret z =>
    cases hp : f.parts with
    | nil => simp only [hp] at h; exact le h
    | cons p ps => simp only [hp] at h; exact be h
  | rs z =>
    cases hp : f.parts with
    | nil => simp only [hp] at h; exact le h
    | cons p ps => simp only [hp] at h; exact be h
theorem mo_tk {n m : Nat} {c c' : Cfg} (t : Tk n m c c') : Mo c.2 c'.2 := by
  induction t with
  | refl c => exact ⟨Nat.le_refl _, Nat.le_refl _⟩
  | @cons b n m c c1 c2 e t ih =>
    refine Mo.trans ?_ ih
    obtain ⟨o, s⟩ := c
    have hf : s.fin = none := by
      cases h : s.fin with
      | none => rfl
      | some z =>
        unfold tick at e
        simp only [h] at e
        cases e
    obtain ⟨f, fs, _, h2⟩ := tick_cases hf e
    rcases h2 with ⟨_, p, ps, st, _, _, hbe⟩ | ⟨_, _, hfu⟩
    · exact mo_begin hbe
    · exact mo_further (s1 := c1.2) (o1 := c1.1) hfu
theorem Left.small {L : List Str} {n m : Nat} {o : Oc} (h : Left L n m o s) : s.printed.length ≤ L.length ∧ s.deep ≤ 200 := by
  obtain ⟨c', t, f⟩ := h
  have := mo_tk t
  exact ⟨by rw [← f.2.2.1]; exact this.1, Nat.le_trans this.2 f.2.2.2⟩
/-! ### step -/
def isWh : Sm → Bool
  | .whl _ _ => true
  | _ => false
theorem begun_nw {f : Fr} {fs : List Fr} {p : Pt} {ps : List Pt} {st : Sm} {c : Cfg} (h : begin_ s f fs p ps st = some c) (hw : isWh st = false) : begun { s with frs := { f with parts := { p with place := p.place + 1 } :: ps } :: fs } { f with parts := { p with place := p.place + 1 } :: ps } fs { p with place := p.place + 1 } ps st = some c := by
  cases st with
  | whl t a => cases hw
  | lt x r => cases r <;> exact h
  | st x r => cases r <;> exact h
  | ret r => cases r <;> exact h
  | rs r => cases r <;> exact h
  | pr e => exact h
  | iff t a b => exact h
  | tr a x b => exact h
  | la a b => exact h
theorem begun_w {f : Fr} {fs : List Fr} {p : Pt} {ps : List Pt} {st : Sm} {c : Cfg} (h : begin_ s f fs p ps st = some c) (hw : isWh st = true) (hp : f.parts = p :: ps) : begun s f fs p ps st = some c := by
  have e : ({ f with parts := p :: ps } : Fr) = f := by rw [← hp]
  cases st with
  | whl t a =>
    unfold begin_ at h
    simp only [e] at h
    exact h
  | lt x r => cases hw
  | st x r => cases hw
  | ret r => cases hw
  | rs r => cases hw
  | pr e => cases hw
  | iff t a b => cases hw
  | tr a x b => cases hw
  | la a b => cases hw
theorem sm_head {st : Sm} {v : V} (h : At H (eSm nm st) v) : ∃ p k r, v = .ref p ∧ H p = some (.tup (.str k :: r)) ∧ (k = "while" ↔ isWh st = true) := by
  cases st with
  | lt x r =>
    unfold eSm at h
    obtain ⟨p, s0, s1, s2, rfl, hp, e0, _⟩ := h.tup3
    cases e0.str
    exact ⟨p, _, _, rfl, hp, ⟨fun e => absurd e (by decide +kernel), fun e => (by cases e)⟩⟩
  | st x r =>
    unfold eSm at h
    obtain ⟨p, s0, s1, s2, rfl, hp, e0, _⟩ := h.tup3
    cases e0.str
    exact ⟨p, _, _, rfl, hp, ⟨fun e => absurd e (by decide +kernel), fun e => (by cases e)⟩⟩
  | ret r =>
    unfold eSm at h
    obtain ⟨p, s0, s1, rfl, hp, e0, _⟩ := h.tup2
    cases e0.str
    exact ⟨p, _, _, rfl, hp, ⟨fun e => absurd e (by decide +kernel), fun e => (by cases e)⟩⟩
  | rs r =>
    unfold eSm at h
    obtain ⟨p, s0, s1, rfl, hp, e0, _⟩ := h.tup2
    cases e0.str
    exact ⟨p, _, _, rfl, hp, ⟨fun e => absurd e (by decide +kernel), fun e => (by cases e)⟩⟩
  | pr e =>
    unfold eSm at h
    obtain ⟨p, s0, s1, rfl, hp, e0, _⟩ := h.tup2
    cases e0.str
    exact ⟨p, _, _, rfl, hp, ⟨fun e => absurd e (by decide +kernel), fun e => (by cases e)⟩⟩
  | iff t a b =>
    unfold eSm at h
    obtain ⟨p, s0, s1, s2, s3, rfl, hp, e0, _⟩ := h.tup4
    cases e0.str
    exact ⟨p, _, _, rfl, hp, ⟨fun e => absurd e (by decide +kernel), fun e => (by cases e)⟩⟩
  | whl t a =>
    unfold eSm at h
    obtain ⟨p, s0, s1, s2, rfl, hp, e0, _⟩ := h.tup3
    cases e0.str
    exact ⟨p, _, _, rfl, hp, ⟨fun _ => rfl, fun _ => rfl⟩⟩
  | tr a x b =>
    unfold eSm at h
    obtain ⟨p, s0, s1, s2, s3, rfl, hp, e0, _⟩ := h.tup4
    cases e0.str
    exact ⟨p, _, _, rfl, hp, ⟨fun e => absurd e (by decide +kernel), fun e => (by cases e)⟩⟩
  | la a b =>
    unfold eSm at h
    obtain ⟨p, s0, s1, s2, rfl, hp, e0, _⟩ := h.tup3
    cases e0.str
    exact ⟨p, _, _, rfl, hp, ⟨fun e => absurd e (by decide +kernel), fun e => (by cases e)⟩⟩
theorem Ahead.uniq {f f' : Fr} {fs fs' : List Fr} {p p' : Pt} {ps ps' : List Pt} {st st' : Sm} (a : Ahead s f fs p ps st) (b : Ahead s f' fs' p' ps' st') : f' = f ∧ fs' = fs ∧ p' = p ∧ ps' = ps ∧ st' = st := by
  have h1 := a.frs.symm.trans b.frs
  obtain ⟨rfl, rfl⟩ := List.cons.inj h1
  have h2 := a.parts.symm.trans b.parts
  obtain ⟨rfl, rfl⟩ := List.cons.inj h2
  have h3 := a.row.symm.trans b.row
  cases h3
  exact ⟨rfl, rfl, rfl, rfl, rfl⟩
theorem begin_fin {f : Fr} {fs : List Fr} {p : Pt} {ps : List Pt} {st : Sm} {c : Cfg} (h : begin_ s f fs p ps st = some c) (hf : s.fin = none) : c.2.fin = none := by
  have pu : ∀ {f : Fr} {fs : List Fr} {pt : Pt}, pushed s f fs pt = some c → c.2.fin = none := fun h => by
    obtain ⟨_, e⟩ := pushed_iff h
    cases e; exact hf
  have en : ∀ {s : MS} {u : Vl} {vs : List Vl}, s.fin = none → enter s u vs = some c → c.2.fin = none := fun {s u vs} hf h => by
    cases u with
    | non => cases h; exact hf
    | word x => cases h; exact hf
    | fn i =>
      unfold enter at h
      simp only at h
      split at h
      · cases h; exact hf
      · cases h
  have ri : ∀ {f : Fr} {st : Sm} {rr : Rt}, right s f fs st rr = some c → c.2.fin = none := fun {f st rr} h => by
    cases rr with
    | ex e =>
      unfold right at h
      obtain ⟨z, h1, h2⟩ := Option.bind_eq_some_iff.mp h
      obtain ⟨y, h3, h4⟩ := Option.map_eq_some_iff.mp h2
      cases h4
      exact hf
    | call g as =>
      obtain ⟨v, vs, m, h2⟩ := right_call h
      exact en (s := { s with mem := m, frs := { f with pend := some st } :: fs }) hf h2
  cases st with
  | lt x r => exact ri h
  | st x r => exact ri h
  | ret r => exact ri h
  | rs r => exact ri h
  | pr e =>
    obtain ⟨u, hu, e2⟩ := Option.map_eq_some_iff.mp h
    cases e2
    exact hf
  | iff t a b =>
    obtain ⟨b2, _, h2⟩ := Option.bind_eq_some_iff.mp h
    exact pu h2
  | whl t a =>
    obtain ⟨b2, _, h2⟩ := Option.bind_eq_some_iff.mp h
    cases b2 with
    | true => exact pu h2
    | false => cases h2; exact hf
  | tr a x b => exact pu h
  | la a b => exact pu h
def spStep (K : PySem.W.Frag) (nm : Nm → Str) : Sp := fun vs H Q _ => ∃ (R : RA) (H0 : Hp) (s : MS) (f : Fr) (fs : List Fr) (pt : Pt) (pts : List Pt) (st : Sm) (L : List Str) (n m : Nat), vs = [.ref R.m] ∧ Rep K nm R H H0 s ∧ Ahead s f fs pt pts st ∧ Left L n m .on s ∧ L.length < sizeLine ∧
  ∀ R' H' s' n' m' q, Nx K nm R R' H H' H0 s' → (s'.fin ≠ none ∨ ∃ f fs p ps st, Ahead s' f fs p ps st) → Left L n' m' .on s' → n = n' + 1 → Q q H'
theorem sc_Machine_step : FnScope ["self", "before", "frame", "part", "statement"] ["self"] (defScope s_Machine_step) := ⟨rfl, rfl, rfl, by decide +kernel, rfl, by decide +kernel, by decide +kernel⟩
theorem ok_Machine_step (T : Tx K mg) (N : NmOk nm) : Ok P w K mg base 10 (He.fAd K ("Machine", some "step")) ["self"] [] (spStep K nm) := by
  obtain ⟨fd, F⟩ := T.f_Machine_step
  obtain ⟨fd_Machine_go_on, us_Machine_go_on, G_Machine_go_on, b_Machine_go_on, v_Machine_go_on, k_Machine_go_on, _⟩ := ok_Machine_go_on T N
  obtain ⟨fd_Machine_begin, us_Machine_begin, G_Machine_begin, b_Machine_begin, v_Machine_begin, k_Machine_begin, _⟩ := ok_Machine_begin T N
  refine mkOk F sc_Machine_step (bind0 F fun _ _ _ _ _ _ us hl => match us, hl with | [_], _ => rfl) (fun vs H Q E h => ?_) (fun cdv A outer s H vs Q E hr h => ?_)
  · obtain ⟨R, H0, s, f, fs, pt, pts, st, L, n, m, rfl, _⟩ := h
    rfl
  obtain ⟨R, H0, s, f, fs, pt, pts, st, L, n, m, rfl, r, ha, hleft, hL, k⟩ := h
  refine ⟨_, (pss_cons (ps_set (i := 1) sc_Machine_step.nd rfl (Or.inl rfl) (pe_callB call_len_seq (by rfl) T.z_len PySem.boot_len (pa_cons (pe_fld (pv 0) rfl) pa_nil)))
      (pss_cons (ps_set (i := 2) sc_Machine_step.nd rfl (Or.inl rfl) (pe_ix ix_list (pe_fld (pv 0) rfl) (pe_un un_neg pe_int) (fun _ _ => rfl)))
      (pss_cons (ps_set (i := 3) sc_Machine_step.nd rfl (Or.inl rfl) (pe_ix ix_list (pe_fld (pv 2) rfl) (pe_un un_neg pe_int) (fun _ _ => rfl)))
      (pss_cons (ps_set (i := 4) sc_Machine_step.nd rfl (Or.inl rfl) (pe_ix ix_tup (pe_fld (pv 3) rfl) (pe_fld (pv 3) rfl) (fun _ _ => rfl)))
      (pss_cons (ps_if (pt_cmpR op_ne (pe_ix ix_tup (pv 4) pe_int (fun _ _ => rfl)) pe_str (nomark _)) (pss_one (ps_fldaug (pv 3) pe_int in_add)) pss_nil)
      (pss_cons (ps_expr (pe_meth (pv 0) T.cl_Machine T.me_Machine_go_on G_Machine_go_on (hr.mono (by decide)) b_Machine_go_on v_Machine_go_on pass0 (pa_cons (pe_meth (pv 0) T.cl_Machine T.me_Machine_begin G_Machine_begin (hr.mono (by decide)) b_Machine_begin v_Machine_begin pass0 (pa_cons (pv 2) (pa_cons (pv 3) (pa_cons (pv 4) pa_nil)))) pa_nil)))
      (pss_one (ps_ret (pe_slice sl_list (pe_fld (pv 0) rfl) (po_some (pv 1)) po_none))))))))), ?_⟩
  obtain ⟨f', fs', hfs', hc⟩ := hleft.go ha.fin
  rcases hc with ⟨_, p', ps', st', o1, s1, n1, m1, ha', hbe, hn, hm1, hl1⟩ | ⟨hno, _⟩
  case inr =>
    exfalso
    have e := (ha.frs.symm.trans hfs')
    obtain ⟨rfl, rfl⟩ := List.cons.inj e
    exact hno ⟨rfl, ahead_stands ha⟩
  obtain ⟨rfl, rfl, rfl, rfl, rfl⟩ := ha.uniq ha'
  have sm := hleft.small
  obtain ⟨dxm, kv, gv, ev, hm, _⟩ := r.mach
  obtain ⟨x, l, hR⟩ := r.fr_cons ha.frs
  obtain ⟨sN, dxf, pv, hf, hpend, hpl, hparts⟩ := r.top0 hR ha.frs
  rw [ha.parts] at hparts
  obtain ⟨a, as, hx⟩ : ∃ a as, x.ps = a :: as := by
    cases h : x.ps with
    | nil => rw [h] at hparts; cases hparts
    | cons a as => exact ⟨a, as, rfl⟩
  rw [hx] at hparts
  cases hparts with
  | cons q1 q2 =>
    obtain ⟨dxp, kd, rv, sv, ov, hp0, hrows, hpk⟩ := q1
    obtain ⟨rp, rvs, rfl, hrp, hrs⟩ := hrows.tup
    obtain ⟨stv, hstv, hst⟩ := hrs.get' (i := p'.place) (t := eSm nm st') (by rw [eSms_get, ha.row]; rfl)
    obtain ⟨q, kk, rr, rfl, hq, hkk⟩ := sm_head hst
    refine ⟨_, rfl, R.m, _, dxm, _, _, rfl, hm, T.cl_Machine, T.na_Machine_printed, fsMachine_printed, R.prt, _, rfl, .inl (SqL.of r.prt), ?_⟩
    refine ⟨_, rfl, R.m, _, dxm, _, _, rfl, hm, T.cl_Machine, T.na_Machine_stack, fsMachine_stack, 1, rfl, R.stk, _, -1, _, rfl, rfl, SqL.of r.stk, frs_last hR, ?_⟩
    refine ⟨_, rfl, x.a, _, dxf, _, _, rfl, hf, T.cl_Frame, T.na_Frame_parts, fsFrame_parts, 1, rfl, x.pl, _, -1, _, rfl, rfl, SqL.of hpl, (by rw [hx]; exact ps_last), ?_⟩
    refine ⟨_, rfl, a, _, dxp, _, _, rfl, hp0, T.cl_Part, T.na_Part_rows, fsPart_rows, _, rfl, a, _, dxp, _, _, rfl, hp0, T.cl_Part, T.na_Part_place, fsPart_place, rp, _, (p'.place : Int), _, rfl, rfl, SqT.of hrp, atI_nat (j := p'.place) hstv, ?_⟩
    refine ⟨_, rfl, q, _, 0, _, rfl, rfl, SqT.of hq, atI_nat (j := 0) rfl, rfl, _, rfl, ?_⟩
    by_cases hw : isWh st' = true
    · refine kF (by rw [hkk.mpr hw]; decide +kernel) ?_
      refine ⟨_, rfl, R.m, dxm, _, rfl, hm, fsMachine_no_go_on, _, rfl, R.m, dxm, _, rfl, hm, fsMachine_no_begin, _, rfl, _, rfl, _, rfl, R, H0, s, x, l, f', fs', a, as, p', ps', st', .ref q, o1, s1, rfl, r, hR, ha.frs, hx, ha.parts, At.same (Tps.refl H) _ _ hst, Nat.lt_of_le_of_lt sm.1 hL, begun_w hbe hw ha.parts, fun R3 H3 v3 n3 oc3 => ?_⟩
      refine ⟨R3, H0, s1, o1, v3, L, n1, m1, (by rw [n3.m]; rfl), n3.rep, oc3, hl1, fun hne => absurd (begin_fin hbe ha.fin) hne, fun R' H' s' m' n4 hs' hl' => ?_⟩
      have n34 := n3.trans n4
      have n' : Nx K nm R R' H H' H0 s' := ⟨n34.rep, n34.m, n34.prt, n34.ext, (Tps.refl H).trans n34.tps⟩
      obtain ⟨dxm', kv', gv', ev', hm', _⟩ := n'.rep.mach
      exact ⟨_, rfl, R'.m, _, dxm', _, _, by rw [n'.m], hm', T.cl_Machine, T.na_Machine_printed, fsMachine_printed, _, rfl, _, rfl, R'.prt, _, rfl, SqL.of n'.rep.prt, fun p hp => k R' _ s' n1 m' _ (n'.same (same_new hp _)) hs' hl' hn⟩
    · have hwf : isWh st' = false := by simpa using hw
      refine kT (by rw [decide_eq_false (fun e => hw (hkk.mp (V.str.inj e)))]; rfl) ?_
      refine ⟨_, rfl, a, _, dxp, _, _, rfl, hp0, T.cl_Part, T.na_Part_place, fsPart_place, _, _, rfl, rfl, dxp, _, hp0, fsP_len, ?_⟩
      rw [fsPart_put_place, show ((p'.place : Int) + 1) = ((p'.place + 1 : Nat) : Int) from by omega]
      have r2 := r.place hR ha.frs hx ha.parts hp0 (p'.place + 1)
      have t2 : Tps H (upd H a (.ins (He.ga K "Part") dxp (fsPart (.str kd) (.ref rp) (.int ((p'.place + 1 : Nat) : Int)) sv ov))) := off_tps hp0 (by rw [tg_part]; decide)
      generalize upd H a (.ins (He.ga K "Part") dxp (fsPart (.str kd) (.ref rp) (.int ((p'.place + 1 : Nat) : Int)) sv ov)) = H1 at r2 t2 ⊢
      obtain ⟨dxm, kv, gv, ev, hm, _⟩ := r2.mach
      refine ⟨_, rfl, R.m, dxm, _, rfl, hm, fsMachine_no_go_on, _, rfl, R.m, dxm, _, rfl, hm, fsMachine_no_begin, _, rfl, _, rfl, _, rfl, R, H0, _, x, l, _, fs', a, as, _, ps', st', .ref q, o1, s1, rfl, r2, hR, rfl, hx, rfl, At.same t2 _ _ hst, Nat.lt_of_le_of_lt sm.1 hL, begun_nw hbe hwf, fun R3 H3 v3 n3 oc3 => ?_⟩
      refine ⟨R3, H0, s1, o1, v3, L, n1, m1, (by rw [n3.m]; rfl), n3.rep, oc3, hl1, fun hne => absurd (begin_fin hbe ha.fin) hne, fun R' H' s' m' n4 hs' hl' => ?_⟩
      have n34 := n3.trans n4
      have n' : Nx K nm R R' H H' H0 s' := ⟨n34.rep, n34.m, n34.prt, n34.ext, t2.trans n34.tps⟩
      obtain ⟨dxm', kv', gv', ev', hm', _⟩ := n'.rep.mach
      exact ⟨_, rfl, R'.m, _, dxm', _, _, by rw [n'.m], hm', T.cl_Machine, T.na_Machine_printed, fsMachine_printed, _, rfl, _, rfl, R'.prt, _, rfl, SqL.of n'.rep.prt, fun p hp => k R' _ s' n1 m' _ (n'.same (same_new hp _)) hs' hl' hn⟩

end
end K38
end
section
/-! K38Z8: Machine.__init__. -/
namespace K38
open PySem PySem.Spec PyProof.Rows L2
section
variable {P : Program} {w : World} {K : PySem.W.Frag} {mg : Str → Option Value} {base : Heap} {nm : Nm → Str} {R R' R'' : RA} {H H' H'' H0 : Hp} {s s' s'' : MS}
theorem But.refl {p : Addr} (H : Hp) : But p H H := fun _ _ _ h => h
theorem But.trans {p : Addr} {H H1 H2 : Hp} (a : But p H H1) (b : But p H1 H2) : But p H H2 := fun c o n h => b c o n (a c o n h)
theorem But.of {p : Addr} (S : Same H H') : But p H H' := fun a o _ h => S a o h
theorem But.at {p : Addr} {o : HO} (H : Hp) : But p H (upd H p o) := fun a u n h => by rw [upd_ne n]; exact h
theorem But.free {p a : Addr} (b : But p H H') (h : H' a = none) (n : a ≠ p) : H a = none := by
  cases e : H a with
  | none => rfl
  | some o => rw [b a o n e] at h; cases h
def less (H : Hp) (p : Addr) : Hp := fun b => if b = p then none else H b
theorem less_none {p a : Addr} (h : H a = none) : less H p a = none := by
  unfold less
  split
  · rfl
  · exact h
theorem less_same {p : Addr} (b : But p H H') : Same (less H p) H' := fun a o h => by
  unfold less at h
  split at h
  · cases h
  · exact b a o (by assumption) h
def spMachineInit (K : PySem.W.Frag) (nm : Nm → Str) : Sp := fun vs H Q _ => ∃ (p dx pa : Addr) (b : List Sm) (L : List Str) (n m : Nat), vs = [.ref p, .ref pa] ∧ H p = some (.ins (He.ga K "Machine") dx []) ∧ ProgAt K nm H pa b ∧ Left L n m .on (start b) ∧
  ∀ R' H' s' m', R'.m = p → Rep K nm R' H' (less H p) s' → (s'.fin ≠ none ∨ ∃ f fs p ps st, Ahead s' f fs p ps st) → Left L n m' .on s' → Q .non H'
theorem sc_Machine_init : FnScope ["self", "program"] ["self", "program"] (defScope s_Machine_init) := ⟨rfl, rfl, rfl, by decide +kernel, rfl, by decide +kernel, by decide +kernel⟩
theorem ok_Machine_init (T : Tx K mg) (N : NmOk nm) : Ok P w K mg base 6 (He.fAd K ("Machine", some "__init__")) ["self", "program"] [] (spMachineInit K nm) := by
  obtain ⟨fd, F⟩ := T.f_Machine_init
  obtain ⟨fd_Program_classes, us_Program_classes, G_Program_classes, b_Program_classes, v_Program_classes, k_Program_classes, _⟩ := ok_Program_classes T
  obtain ⟨fd_Scope_init, us_Scope_init, G_Scope_init, b_Scope_init, v_Scope_init, k_Scope_init, _⟩ := ok_Scope_init T
  obtain ⟨fd_Frame_init, us_Frame_init, G_Frame_init, b_Frame_init, v_Frame_init, k_Frame_init, _⟩ := ok_Frame_init T
  obtain ⟨fd_Machine_go_on, us_Machine_go_on, G_Machine_go_on, b_Machine_go_on, v_Machine_go_on, k_Machine_go_on, _⟩ := ok_Machine_go_on T N
  refine mkOk F sc_Machine_init (bind0 F fun _ _ _ _ _ _ us hl => match us, hl with | [_, _], _ => rfl) (fun vs H Q E h => ?_) (fun cdv A outer s H vs Q E hr h => ?_)
  · obtain ⟨p, dx, pa, b, L, n, m, rfl, _⟩ := h
    rfl
  obtain ⟨p, dx, pa, b, L, n, m, rfl, hp, ⟨dxa, ha, bv, hpa, hha, hb⟩, hleft, k⟩ := h
  refine ⟨_, (pss_cons (ps_fld (pv 0) (pe_prop (pv 1) T.cl_Program T.propOf G_Program_classes (hr.mono (by decide)) b_Program_classes v_Program_classes pass0 (by rfl)) rfl)
      (pss_cons (ps_fld (pv 0) (pe_make T.mk_Scope G_Scope_init (hr.mono (by decide)) rfl T.g_Scope b_Scope_init v_Scope_init pass0 (pa_cons pe_non pa_nil)) rfl)
      (pss_cons (ps_fld (pv 0) (pe_lst (pa_cons (pe_make T.mk_Frame G_Frame_init (hr.mono (by decide)) rfl T.g_Frame b_Frame_init v_Frame_init pass0 (pa_cons (pe_fld (pv 0) rfl) (pa_cons pe_non (pa_cons pe_non (pa_cons (pe_fld (pv 1) rfl) pa_nil))))) pa_nil)) rfl)
      (pss_cons (ps_fld (pv 0) (pe_lst pa_nil) rfl)
      (pss_cons (ps_fld (pv 0) pe_non rfl)
      (pss_cons (ps_fld (pv 0) pe_int rfl)
      (pss_one (ps_expr (pe_meth (pv 0) T.cl_Machine T.me_Machine_go_on G_Machine_go_on (hr.mono (by decide)) b_Machine_go_on v_Machine_go_on pass0 (pa_cons (pe_tup (pa_cons pe_str pa_nil)) pa_nil)))))))))), ?_⟩
  have pne : pa ≠ p := fun e => by
    rw [e, hp] at hpa
    have e1 := Option.some.inj hpa
    injection e1 with e2 e3 e4
    cases e4
  -- self.kinds
  refine ⟨_, rfl, pa, dxa, _, rfl, hpa, pa, dxa, ha, bv, rfl, hpa, hha, fun c hc => ?_⟩
  have B1 : But p H (upd H c (.dK [])) := But.of (same_new hc _)
  have hp1 := same_new hc (.dK []) _ _ hp
  generalize upd H c (.dK []) = H1 at B1 hp1 ⊢
  refine ⟨_, rfl, p, _, dx, _, rfl, hp1, T.cl_Machine, T.na_Machine_kinds, (by decide), ?_⟩
  have B2 : But p H (upd H1 p (.ins (He.ga K "Machine") dx (putF "kinds" (.ref c) []))) := B1.trans (But.at H1)
  have hp2 : (upd H1 p (.ins (He.ga K "Machine") dx (putF "kinds" (.ref c) []))) p = some (.ins (He.ga K "Machine") dx (putF "kinds" (.ref c) [])) := upd_same
  generalize upd H1 p (.ins (He.ga K "Machine") dx (putF "kinds" (.ref c) [])) = H2 at B2 hp2 ⊢
  -- self.ground = Scope(None)
  refine fun y ey ny ney nye => ⟨y, ey, _, rfl, upd_same, fun d H3 hd0 b3 e1 e2 => ⟨rfl, ?_⟩⟩
  have hd : H2 d = none := (made0 ny ney).free hd0
  have S3 := b3.made ny ney
  have B3 := B2.trans (But.of S3)
  have hp3 := S3 _ _ hp2
  have ynp : y ≠ p := (ne_of_none hp2 ny).symm
  have dnp : d ≠ p := (ne_of_none hp2 hd).symm
  have y0 := B2.free ny ynp
  have d0 := B2.free hd dnp
  refine ⟨_, rfl, p, _, dx, _, rfl, hp3, T.cl_Machine, T.na_Machine_ground, (Nat.lt_of_le_of_lt (pf_le pf_nil) (by decide)), ?_⟩
  have B4 : But p H (upd H3 p (.ins (He.ga K "Machine") dx (putF "ground" (.ref y) (putF "kinds" (.ref c) [])))) := B3.trans (But.at H3)
  have e1' : (upd H3 p (.ins (He.ga K "Machine") dx (putF "ground" (.ref y) (putF "kinds" (.ref c) [])))) y = _ := (upd_ne ynp).trans e1
  have e2' : (upd H3 p (.ins (He.ga K "Machine") dx (putF "ground" (.ref y) (putF "kinds" (.ref c) [])))) d = _ := (upd_ne dnp).trans e2
  have hp4 : (upd H3 p (.ins (He.ga K "Machine") dx (putF "ground" (.ref y) (putF "kinds" (.ref c) [])))) p = some (.ins (He.ga K "Machine") dx (putF "ground" (.ref y) (putF "kinds" (.ref c) []))) := upd_same
  generalize upd H3 p (.ins (He.ga K "Machine") dx (putF "ground" (.ref y) (putF "kinds" (.ref c) []))) = H4 at B4 hp4 e1' e2' ⊢
  have hpa4 := B4 _ _ pne hpa
  -- self.stack = [Frame(..)]
  refine ⟨_, rfl, p, _, dx, _, .ref y, rfl, hp4, T.cl_Machine, T.na_Machine_ground, (by kernel_rfl), _, rfl, pa, _, dxa, _, _, rfl, hpa4, T.cl_Program, T.na_Program_body, fsProgram_body, fun z ez nz nez nze => ⟨z, ez, _, _, _, _, rfl, upd_same, fun pl pt dx2 H5 hpl hpt npp b5 e3 e4 e5 => ⟨rfl, ?_⟩⟩⟩
  have hpl4 : H4 pl = none := (made0 nz nez).free hpl
  have hpt4 : H4 pt = none := (made0 nz nez).free hpt
  have S5 := b5.made nz nez
  have B5 := B4.trans (But.of S5)
  have znp : z ≠ p := (ne_of_none hp4 nz).symm
  have plp : pl ≠ p := (ne_of_none hp4 hpl4).symm
  have ptp : pt ≠ p := (ne_of_none hp4 hpt4).symm
  have z0 := B4.free nz znp
  have pl0 := B4.free hpl4 plp
  have pt0 := B4.free hpt4 ptp
  have e1'' := S5 _ _ e1'
  have e2'' := S5 _ _ e2'
  have hp5 := S5 _ _ hp4
  refine ⟨by show 1 ≤ sizeLine; decide, fun sk hsk => ?_⟩
  have S6 := same_new hsk (.lst [.ref z])
  have B6 := B5.trans (But.of S6)
  have skp : sk ≠ p := (ne_of_none hp5 hsk).symm
  have sk0 := B5.free hsk skp
  have skpl : sk ≠ pl := (ne_of_none e4 hsk).symm
  have hsk6 : (upd H5 sk (.lst [.ref z])) sk = some (.lst [.ref z]) := upd_same
  have hp6 := S6 _ _ hp5
  have e16 := S6 _ _ e1''
  have e26 := S6 _ _ e2''
  have e36 := S6 _ _ e3
  have e46 := S6 _ _ e4
  have e56 := S6 _ _ e5
  generalize upd H5 sk (.lst [.ref z]) = H6 at B6 hsk6 hp6 e16 e26 e36 e46 e56
  refine ⟨_, rfl, p, _, dx, _, rfl, hp6, T.cl_Machine, T.na_Machine_stack, (Nat.lt_of_le_of_lt (pf_le (pf_le pf_nil)) (by decide)), ?_⟩
  -- self.printed = []
  refine ⟨by show 0 ≤ sizeLine; decide, fun pr hpr => ?_⟩
  have prp : pr ≠ p := (ne_of_none upd_same hpr).symm
  rw [upd_ne prp] at hpr
  have pr0 := B6.free hpr prp
  have prsk : pr ≠ sk := (ne_of_none hsk6 hpr).symm
  have prpl : pr ≠ pl := (ne_of_none e46 hpr).symm
  have zpr : z ≠ pr := ne_of_none e36 hpr
  have ptpr : pt ≠ pr := ne_of_none e56 hpr
  have ypr : y ≠ pr := ne_of_none e16 hpr
  have dpr : d ≠ pr := ne_of_none e26 hpr
  refine ⟨_, rfl, p, _, dx, _, rfl, (upd_ne prp.symm).trans upd_same, T.cl_Machine, T.na_Machine_printed, (Nat.lt_of_le_of_lt (pf_le (pf_le (pf_le pf_nil))) (by decide)), ?_⟩
  refine ⟨_, rfl, p, _, dx, _, rfl, upd_same, T.cl_Machine, T.na_Machine_ending, (Nat.lt_of_le_of_lt (pf_le (pf_le (pf_le (pf_le pf_nil)))) (by decide)), ?_⟩
  refine ⟨_, rfl, p, _, dx, _, rfl, upd_same, T.cl_Machine, T.na_Machine_deepest, (Nat.lt_of_le_of_lt (pf_le (pf_le (pf_le (pf_le (pf_le pf_nil))))) (by decide)), ?_⟩
  rw [upd_upd, upd_upd, fsMachine_init]
  -- all of it
  have BF : But p H (upd (upd (upd H6 p (.ins (He.ga K "Machine") dx (putF "stack" (.ref sk) (putF "ground" (.ref y) (putF "kinds" (.ref c) []))))) pr (.lst [])) p (.ins (He.ga K "Machine") dx (fsMachine (.ref c) (.ref y) (.ref sk) (.ref pr) .non (.int 0)))) := by
    intro a o ne h
    have h6 := B6 a o ne h
    have e : a ≠ pr := fun e => by rw [e, hpr] at h6; cases h6
    rw [upd_ne ne, upd_ne e, upd_ne ne]
    exact h6
  have at_ : ∀ (a : Addr) (o : HO), a ≠ p → a ≠ pr → H6 a = some o → (upd (upd (upd H6 p (.ins (He.ga K "Machine") dx (putF "stack" (.ref sk) (putF "ground" (.ref y) (putF "kinds" (.ref c) []))))) pr (.lst [])) p (.ins (He.ga K "Machine") dx (fsMachine (.ref c) (.ref y) (.ref sk) (.ref pr) .non (.int 0)))) a = some o := fun a o n1 n2 h => by rw [upd_ne n1, upd_ne n2, upd_ne n1]; exact h
  have hpF : (upd (upd (upd H6 p (.ins (He.ga K "Machine") dx (putF "stack" (.ref sk) (putF "ground" (.ref y) (putF "kinds" (.ref c) []))))) pr (.lst [])) p (.ins (He.ga K "Machine") dx (fsMachine (.ref c) (.ref y) (.ref sk) (.ref pr) .non (.int 0)))) p = some (.ins (He.ga K "Machine") dx (fsMachine (.ref c) (.ref y) (.ref sk) (.ref pr) .non (.int 0))) := upd_same
  have hprF : (upd (upd (upd H6 p (.ins (He.ga K "Machine") dx (putF "stack" (.ref sk) (putF "ground" (.ref y) (putF "kinds" (.ref c) []))))) pr (.lst [])) p (.ins (He.ga K "Machine") dx (fsMachine (.ref c) (.ref y) (.ref sk) (.ref pr) .non (.int 0)))) pr = some (.lst []) := by rw [upd_ne prp, upd_same]
  generalize upd (upd (upd H6 p (.ins (He.ga K "Machine") dx (putF "stack" (.ref sk) (putF "ground" (.ref y) (putF "kinds" (.ref c) []))))) pr (.lst [])) p (.ins (He.ga K "Machine") dx (fsMachine (.ref c) (.ref y) (.ref sk) (.ref pr) .non (.int 0))) = HF at BF at_ hpF hprF ⊢
  have zF := at_ _ _ znp zpr e36
  have plF := at_ _ _ plp prpl.symm e46
  have ptF := at_ _ _ ptp ptpr e56
  have yF := at_ _ _ ynp ypr e16
  have dF := at_ _ _ dnp dpr e26
  have skF := at_ _ _ skp prsk.symm hsk6
  have zpt : z ≠ pt := ne_tg e36 e56 (by rw [tg_frame, tg_part]; decide)
  have zpl : z ≠ pl := ne_tg e36 e46 (by rw [tg_frame]; simp [tg])
  have zsk : z ≠ sk := ne_tg e36 hsk6 (by rw [tg_frame]; simp [tg])
  have ptsk : pt ≠ sk := ne_tg e56 hsk6 (by rw [tg_part]; simp [tg])
  have hbF : At HF (.t (eSms nm b)) bv := by
    refine At.same (fun a vs h => ?_) _ _ hb
    exact BF _ _ (fun e => by rw [e, hp] at h; cases h) h
  let RR : RA := ⟨p, sk, pr, 0, fun _ => 0, 1, fun _ => y, fun _ => d, [⟨z, pl, [pt]⟩]⟩
  have rep : Rep K nm RR HF (less H p) (start b) := by
    refine ⟨rfl, rfl, less_same BF, fun a hm => ?_, fun i _ => less_none d0, ?_, fun i j hi hj _ => ?_, ⟨dx, _, _, _, hpF, rfl⟩, skF, hprF, fun i hi => absurd hi (Nat.not_lt_zero _), fun i hi => ?_, .cons ⟨Nat.lt_succ_self _, _, .non, zF, rfl, plF, .cons ⟨dx2, _, bv, _, _, ptF, hbF, rfl⟩ .nil⟩ .nil⟩
    · have hm' : a ∈ [p, sk, pr, z, pl, pt] := hm
      simp only [List.mem_cons, List.not_mem_nil, or_false] at hm'
      rcases hm' with rfl | rfl | rfl | rfl | rfl | rfl
      · unfold less; rw [if_pos rfl]
      · exact less_none sk0
      · exact less_none pr0
      · exact less_none z0
      · exact less_none pl0
      · exact less_none pt0
    · show [p, sk, pr, z, pl, pt].Nodup
      simp only [List.nodup_cons, List.mem_cons, List.not_mem_nil, or_false, not_or, not_false_eq_true, and_true, List.nodup_nil]
      exact ⟨⟨skp.symm, prp.symm, znp.symm, plp.symm, ptp.symm⟩, ⟨prsk.symm, zsk.symm, skpl, ptsk.symm⟩, ⟨zpr.symm, prpl, ptpr.symm⟩, ⟨zpl, zpt⟩, npp⟩
    · have hi' : i < 1 := hi
      have hj' : j < 1 := hj
      omega
    · have hi' : i < 1 := hi
      have : i = 0 := by omega
      subst this
      exact ⟨_, _, [], yF, rfl, dF, List.nodup_nil, fun k hk => (by cases hk), fun x => rfl⟩
  refine ⟨_, rfl, p, dx, _, rfl, hpF, fsMachine_no_go_on, by show 1 ≤ sizeLine; decide, fun q hq => ?_⟩
  have S7 := same_new hq (.tup [.str "on"])
  refine ⟨RR, less H p, start b, .on, .ref q, L, n, m, rfl, rep.same S7, ⟨q, rfl, upd_same⟩, hleft, fun h => absurd rfl h, fun R' H' s' m' nx hs hl => ?_⟩
  exact k R' H' s' m' nx.m nx.rep hs hl

end
end K38
end
section
/-! K38V: words of letters may be laid; two lists of words compared. -/
namespace K38
open PySem PySem.Spec PyProof.Rows L2
theorem strOk_letters {x : Str} (h : ∀ c ∈ x.cps.toList, c ∈ letters.cps.toList) : PyData.strOk x = true := by
  unfold PyData.strOk
  rw [Array.all_eq_true']
  intro c hc
  have all : ∀ c ∈ letters.cps.toList, decide (c < 0x110000) = true := by decide +kernel
  exact all c (h c (by simpa using hc))
section
variable {K : PySem.W.Frag} {H : Hp}
theorem dpAll_str : ∀ {L : List Str}, DpAll K H (L.map V.str) (L.map PyData.str)
  | [] => .nil
  | x :: L => .cons (.str x) dpAll_str
theorem lay_all : ∀ {L : List Str}, (∀ x ∈ L, PyData.strOk x = true) → PyData.canLayAll0 (L.map PyData.str) = true
  | [], _ => by simp [PyData.canLayAll0]
  | x :: L, h => by
    simp only [List.map_cons, PyData.canLayAll0, PyData.canLay0]
    rw [h x List.mem_cons_self, lay_all fun y hy => h y (List.mem_cons_of_mem _ hy)]
    rfl
theorem depth_all : ∀ {L : List Str}, PyData.depthAll (L.map PyData.str) = 0
  | [] => by simp [PyData.depthAll]
  | x :: L => by
    simp only [List.map_cons, PyData.depthAll, PyData.depth, depth_all]
    rfl
theorem shaped_list {L : List Str} (h : ∀ x ∈ L, PyData.strOk x = true) : SeqAt.shaped (.list (L.map PyData.str)) = true := by
  unfold SeqAt.shaped
  simp only [PyData.canLay0, PyData.depth, depth_all, lay_all h]
  rfl
theorem shaped_tup {L : List Str} (h : ∀ x ∈ L, PyData.strOk x = true) : SeqAt.shaped (.tuple (L.map PyData.str)) = true := by
  unfold SeqAt.shaped
  simp only [PyData.canLay0, PyData.depth, depth_all, lay_all h]
  rfl
theorem eqv_all : ∀ {L M : List Str}, PyData.eqvAll (L.map PyData.str) (M.map PyData.str) = decide (L = M)
  | [], [] => by simp [PyData.eqvAll]
  | [], y :: M => by simp [PyData.eqvAll]
  | x :: L, [] => by simp [PyData.eqvAll]
  | x :: L, y :: M => by
    simp only [List.map_cons, PyData.eqvAll, PyData.eqv]
    rw [eqv_all]
    by_cases e : x = y
    · subst e
      by_cases e2 : L = M
      · subst e2; simp
      · simp [e2]
    · simp [e]
theorem dp_lst {a : Addr} {L : List Str} (h : SqL K H a (L.map V.str)) : Dp K H (.ref a) (.list (L.map PyData.str)) := .lst h dpAll_str
theorem dp_tup {a : Addr} {L : List Str} (h : SqT K H a (L.map V.str)) : Dp K H (.ref a) (.tuple (L.map PyData.str)) := .tup h dpAll_str
theorem eqv_list {L M : List Str} : PyData.eqv (.list (L.map PyData.str)) (.list (M.map PyData.str)) = decide (L = M) := by simp only [PyData.eqv]; exact eqv_all
theorem eqv_tup {L M : List Str} : PyData.eqv (.tuple (L.map PyData.str)) (.tuple (M.map PyData.str)) = decide (L = M) := by simp only [PyData.eqv]; exact eqv_all
end
end K38
end
section
/-! K38Z9: run, is_run. -/
namespace K38
open PySem PySem.Spec PyProof.Rows L2
section
variable {P : Program} {w : World} {K : PySem.W.Frag} {mg : Str → Option Value} {base : Heap} {nm : Nm → Str} {R R' R'' : RA} {H H' H'' H0 : Hp} {s s' s'' : MS}
theorem ProgAt.same {pa : Addr} {b : List Sm} (h : ProgAt K nm H pa b) (S : Same H H') : ProgAt K nm H' pa b := by
  obtain ⟨dx, c, v, h1, h2, h3⟩ := h
  exact ⟨dx, c, v, S _ _ h1, S _ _ h2, At.same (tps_of S) _ _ h3⟩
theorem bind_run {fd : FuncData} {f : Addr} (F : FnP K "run" "run" s_run [] [("most", V.int 20000)] f fd) : ∃ us, Vals [V.int 20000] us ∧ Binds K fd ["program", "most"] us :=
  FunD.binds0 (ps := ["program", "most"]) F 1 (by simp) rfl fun D doc pm an cdv ct us ks h1 h2 => match us, ks, h1, h2 with | [_], [_], _, _ => ⟨_, _, _, _, _, _, rfl, rfl, rfl⟩
def spRun (K : PySem.W.Frag) (nm : Nm → Str) : Sp := fun vs H Q _ => ∃ (pa : Addr) (b : List Sm) (L : List Str) (n m : Nat), vs = [.ref pa, .int 20000] ∧ ProgAt K nm H pa b ∧ Left L n m .on (start b) ∧ n < 20000 ∧ L.length < sizeLine ∧
  ∀ H' q lp ep, Same H H' → H' q = some (.tup [.ref lp, .ref ep]) → H' lp = some (.lst (L.map V.str)) → H' ep = some (.tup [.str "done"]) → Q (.ref q) H'
theorem sc_run : FnScope ["program", "most", "machine", "steps"] ["program", "most"] (defScope s_run) := ⟨rfl, rfl, rfl, by decide +kernel, rfl, by decide +kernel, by decide +kernel⟩
theorem ok_run (T : Tx K mg) (N : NmOk nm) : Ok P w K mg base 11 (He.fAd K ("run", none)) ["program", "most"] [.int 20000] (spRun K nm) := by
  obtain ⟨fd, F⟩ := T.f_run
  obtain ⟨fd_Machine_init, us_Machine_init, G_Machine_init, b_Machine_init, v_Machine_init, k_Machine_init, _⟩ := ok_Machine_init T N
  obtain ⟨fd_Machine_step, us_Machine_step, G_Machine_step, b_Machine_step, v_Machine_step, k_Machine_step, _⟩ := ok_Machine_step T N
  refine mkOk F sc_run (bind_run F) (fun vs H Q E h => ?_) (fun cdv A outer s H vs Q E hr h => ?_)
  · obtain ⟨pa, b, L, n, m, rfl, _⟩ := h
    rfl
  obtain ⟨pa, b, L, n, m, rfl, hpa, hleft, hn, hL, k⟩ := h
  refine ⟨_, (pss_cons (ps_if (pt_not (pt_val (pe_callB call_isi (by rfl) T.z_isinstance (by decide +kernel) (pa_cons (pv 0) (pa_cons (pe_glob (v := .ref (He.ga K "Program")) rfl T.g_Program rfl) pa_nil))))) pss_never pss_nil)
      (pss_cons (ps_if (PW.pt (pw_or (pt_not (pt_val (pe_callB call_isi (by rfl) T.z_isinstance (by decide +kernel) (pa_cons (pv 1) (pa_cons (pe_bltn (v := .ty "int") (by rfl) T.z_int (by decide +kernel) rfl) pa_nil))))) (pw_or (pt_val (pe_callB call_isi (by rfl) T.z_isinstance (by decide +kernel) (pa_cons (pv 1) (pa_cons (pe_bltn (v := .ty "bool") (by rfl) T.z_bool (by decide +kernel) rfl) pa_nil)))) (pw_or (pt_cmpR op_lt (pv 1) pe_int (nomark _)) (pw_or1 (pt_cmpR op_gt (pv 1) pe_int (nomark _))))))) pss_never pss_nil)
      (pss_cons (ps_set (i := 2) sc_run.nd rfl (Or.inl rfl) (pe_make T.mk_Machine G_Machine_init (hr.mono (by decide)) rfl T.g_Machine b_Machine_init v_Machine_init pass0 (pa_cons (pv 0) pa_nil)))
      (pss_cons (ps_set (i := 3) sc_run.nd rfl (Or.inl rfl) pe_int)
      (pss_cons (ps_while PassesOwn.never (pt_cmpR op_isN (pe_fld (pv 2) rfl) pe_non (nomark _)) (pss_cons (ps_if (pt_cmpR op_eq (pv 3) (pv 1) (nomark _)) pss_never pss_nil)
      (pss_cons (ps_expr (pe_meth0 (pv 2) T.cl_Machine T.me_Machine_step G_Machine_step (hr.mono (by decide)) b_Machine_step v_Machine_step pass0))
      (pss_cons (ps_aug (i := 3) sc_run.nd rfl (Or.inl rfl) pe_int ip_add)
      (pss_one (ps_if (pt_cmpR op_gt (pe_fld (pv 2) rfl) (pe_gc rfl T.k_CALLS) (nomark _)) pss_never pss_nil))))))
      (pss_one (ps_ret (pe_tup (pa_cons (pe_callTy call_list_of (by rfl) T.z_list (by decide +kernel) (pa_cons (pe_fld (pv 2) rfl) pa_nil)) (pa_cons (pe_fld (pv 2) rfl) pa_nil)))))))))), ?_⟩
  obtain ⟨dxa, ha, bv, hpa1, hha, hbv⟩ := id hpa
  refine ⟨_, rfl, _, _, _, _, true, rfl, .own _, insB_ok (T.x 6) hpa1 T.cl_Program, ?_, true, rfl, iteF ?_⟩
  · unfold PySem.W.kitOne
    rw [if_pos (by simp)]
  refine ⟨_, rfl, _, _, _, _, true, rfl, .ty "int", .base (.int 20000), kit_ty (by decide +kernel), true, rfl, iteF ?_⟩
  refine ⟨_, rfl, _, _, _, _, false, rfl, .ty "bool", .base (.int 20000), kit_ty (by decide +kernel), false, rfl, iteF ?_⟩
  refine ⟨_, rfl, _, _, rfl, rfl, _, rfl, kF (by decide +kernel) ?_⟩
  refine ⟨_, rfl, _, _, rfl, rfl, _, rfl, kF (by decide +kernel) ?_⟩
  -- the machine
  refine ⟨_, rfl, fun x dx nx ndx nex => ⟨x, dx, pa, b, L, n, m, rfl, upd_same, hpa.same (made0 nx ndx), hleft, fun R1 H1 s1 m1 e1 r1 hs1 hl1 => ⟨rfl, ?_⟩⟩⟩
  have S0 : ∀ H', Same (less (upd (upd H dx (.own x)) x (.ins (He.ga K "Machine") dx [])) x) H' → Same H H' := fun H' S a o h => by
    refine S a o ?_
    have ne : a ≠ x := ne_of_none h nx
    unfold less
    rw [if_neg ne]
    exact made0 nx ndx a o h
  generalize less (upd (upd H dx (.own x)) x (.ins (He.ga K "Machine") dx [])) x = H0 at r1 S0
  refine ⟨fun j σ H' => ∃ (R' : RA) (s' : MS) (m' : Nat), σ = [some (.ref pa), some (.int 20000), some (.ref x), some (.int ((n - j : Nat) : Int))] ∧ j ≤ n ∧ R'.m = x ∧ Rep K nm R' H' H0 s' ∧ (s'.fin ≠ none ∨ ∃ f fs p ps st, Ahead s' f fs p ps st) ∧ Left L j m' .on s', ⟨n, R1, s1, m1, by rw [Nat.sub_self]; rfl, Nat.le_refl _, e1, r1, hs1, hl1⟩, ?_⟩
  rintro j σ H' ⟨R', s', m', rfl, hj, hm', r', hs', hl'⟩
  obtain ⟨dxm, kv, gv, ev, hm, hev⟩ := r'.mach
  refine ⟨_, rfl, R'.m, _, dxm, _, _, (by rw [hm']), hm, T.cl_Machine, T.na_Machine_ending, fsMachine_ending, rfl, _, rfl, ?_⟩
  cases hf : s'.fin with
  | some z =>
    obtain ⟨_, _, hfin⟩ := hl'.fin (by rw [hf]; simp)
    obtain ⟨_, h2, h3, h4⟩ := hfin
    have h2' : s'.fin = some .done := h2
    rw [h2'] at hev
    obtain ⟨ep, rfl, hep⟩ := hev
    refine kF (by simp) ?_
    refine ⟨_, rfl, R'.m, _, dxm, _, _, (by rw [hm']), hm, T.cl_Machine, T.na_Machine_printed, fsMachine_printed, R'.prt, _, rfl, .inl (SqL.of r'.prt), fun lp hlp => ?_⟩
    have S2 := same_new hlp (.lst (s'.printed.map V.str))
    have e2 : (upd H' lp (.lst (s'.printed.map V.str))) lp = some (.lst (s'.printed.map V.str)) := upd_same
    have hm2 := S2 _ _ hm
    have hep2 := S2 _ _ hep
    have r2 := r'.same S2
    generalize upd H' lp (.lst (s'.printed.map V.str)) = H2 at S2 e2 hm2 hep2 r2
    refine ⟨_, rfl, R'.m, _, dxm, _, _, (by rw [hm']), hm2, T.cl_Machine, T.na_Machine_ending, fsMachine_ending, by show 2 ≤ sizeLine; decide, fun q hq => ?_⟩
    have S3 := same_new hq (.tup [.ref lp, .ref ep])
    have h3' : s'.printed = L := h3
    rw [h3'] at e2
    exact k _ q lp ep (S0 _ (r2.base.trans S3)) upd_same (S3 _ _ e2) (S3 _ _ hep2)
  | none =>
    have he : ev = .non := by rw [hf] at hev; exact hev
    subst he
    refine kT (by simp) ?_
    obtain ⟨f, fs, pt, pts, st, hah⟩ : ∃ f fs p ps st, Ahead s' f fs p ps st := by
      rcases hs' with h | h
      · exact absurd hf h
      · exact h
    refine ⟨fun σ'' H'' => ∃ (R' : RA) (s' : MS) (m' : Nat), 1 ≤ j ∧ σ'' = [some (.ref pa), some (.int 20000), some (.ref x), some (.int ((n - (j - 1) : Nat) : Int))] ∧ R'.m = x ∧ Rep K nm R' H'' H0 s' ∧ (s'.fin ≠ none ∨ ∃ f fs p ps st, Ahead s' f fs p ps st) ∧ Left L (j - 1) m' .on s', fun σ'' H'' z => ?_, ?_⟩
    · obtain ⟨R2, s2, m2, h1, h2, h3, h4, h5, h6⟩ := z
      exact ⟨j - 1, by omega, R2, s2, m2, h2, by omega, h3, h4, h5, h6⟩
    refine ⟨_, rfl, _, rfl, rfl, _, rfl, kF (by rw [decide_eq_false (fun e => by have := V.int.inj e; omega)]; simp) ?_⟩
    refine ⟨_, rfl, R'.m, dxm, _, (by rw [hm']), hm, fsMachine_no_step, R', H0, s', f, fs, pt, pts, st, L, j, m', (by rw [hm']; rfl), r', hah, hl', hL, fun R2 H2 s2 n2 m2 q n2x hs2 hl2 hn2 => ?_⟩
    subst hn2
    obtain ⟨dxm2, kv2, gv2, ev2, hmm2, hev2⟩ := n2x.rep.mach
    refine ⟨_, rfl, _, _, rfl, rfl, ?_⟩
    refine ⟨_, rfl, R2.m, _, dxm2, _, _, (by rw [n2x.m, hm']), hmm2, T.cl_Machine, T.na_Machine_deepest, fsMachine_deepest, _, _, rfl, rfl, _, rfl, kF (by rw [decide_eq_false (by have := hl2.small.2; omega)]; simp) ?_⟩
    refine ⟨R2, s2, m2, by omega, ?_, by rw [n2x.m, hm'], n2x.rep, hs2, by rw [Nat.add_sub_cancel]; exact hl2⟩
    rw [Nat.add_sub_cancel, show ((n - n2 : Nat) : Int) = ((n - (n2 + 1) : Nat) : Int) + 1 by omega]
    rfl

/-! ### is_run -/
def spIsRun (K : PySem.W.Frag) (nm : Nm → Str) : Sp := fun vs H Q _ => ∃ (pa ll ee : Addr) (b : List Sm) (L M es : List Str) (n m : Nat), vs = [.ref pa, .ref ll, .ref ee] ∧ ProgAt K nm H pa b ∧ Left L n m .on (start b) ∧ n < 20000 ∧ L.length < sizeLine ∧ (∀ x ∈ L, PyData.strOk x = true) ∧ (∀ x ∈ M, PyData.strOk x = true) ∧ (∀ x ∈ es, PyData.strOk x = true) ∧
  H ll = some (.lst (M.map V.str)) ∧ H ee = some (.tup (es.map V.str)) ∧ ∀ H', Same H H' → Q (.bl (decide (M = L) && decide (es = ([Str.ofString "done"] : List Str)))) H'
theorem sc_is_run : FnScope ["program", "lines", "end", "due", "ending"] ["program", "lines", "end"] (defScope s_is_run) := ⟨rfl, rfl, rfl, by decide +kernel, rfl, by decide +kernel, by decide +kernel⟩
theorem ok_is_run (T : Tx K mg) (N : NmOk nm) : Ok P w K mg base 64 (He.fAd K ("is_run", none)) ["program", "lines", "end"] [] (spIsRun K nm) := by
  obtain ⟨fd, F⟩ := T.f_is_run
  obtain ⟨fd_run, us_run, G_run, b_run, v_run, k_run, _⟩ := ok_run T N
  refine mkOk F sc_is_run (bind0 F fun _ _ _ _ _ _ us hl => match us, hl with | [_, _, _], _ => rfl) (fun vs H Q E h => ?_) (fun cdv A outer s H vs Q E hr h => ?_)
  · obtain ⟨pa, ll, ee, b, L, M, es, n, m, rfl, _⟩ := h
    rfl
  obtain ⟨pa, ll, ee, b, L, M, es, n, m, rfl, hpa, hleft, hn, hL, oL, oM, oE, hll, hee, k⟩ := h
  refine ⟨_, (pss_cons (ps_asg (pe_call G_run (hr.mono (by decide)) rfl T.g_run k_run b_run v_run pass0 (pa_cons (pv 0) pa_nil)) (pg_tup rfl (pgs_cons (pg_name (i := 3) sc_is_run.nd rfl (Or.inl rfl)) (pgs_cons (pg_name (i := 4) sc_is_run.nd rfl (Or.inl rfl)) pgs_nil))))
      (pss_one (ps_ret (pe_and (pe_callB call_isi (by rfl) T.z_isinstance (by decide +kernel) (pa_cons (pv 1) (pa_cons (pe_bltn (v := .ty "list") (by rfl) T.z_list (by decide +kernel) rfl) pa_nil))) (pe_and (pe_cmpR (op_eqD hr.units) (pv 1) (pv 3) (nomark _)) (pe_and (pe_callB call_isi (by rfl) T.z_isinstance (by decide +kernel) (pa_cons (pv 2) (pa_cons (pe_bltn (v := .ty "tuple") (by rfl) T.z_tuple (by decide +kernel) rfl) pa_nil))) (pe_one (pe_cmpR (op_eqD hr.units) (pv 2) (pv 4) (nomark _))))))))), ?_⟩
  refine ⟨_, rfl, pa, b, L, n, m, rfl, hpa, hleft, hn, hL, fun H1 q lp ep S1 hq hlp hep => ?_⟩
  refine ⟨q, _, rfl, SqT.of hq, rfl, _, _, rfl, _, _, rfl, rfl, ?_⟩
  have hll1 := S1 _ _ hll
  have hee1 := S1 _ _ hee
  refine ⟨_, rfl, _, _, _, _, true, rfl, .ty "list", .base (.lst hll1), kit_ty (by decide +kernel), true, rfl, kT rfl ?_⟩
  refine ⟨_, rfl, _, rfl, _, _, dp_lst (SqL.of hll1), dp_lst (SqL.of hlp), shaped_list oM, shaped_list oL, _, rfl, ?_⟩
  rw [eqv_list]
  by_cases e1 : M = L
  · rw [decide_eq_true e1] at k ⊢
    refine kT rfl ?_
    refine ⟨_, rfl, _, _, _, _, true, rfl, .ty "tuple", .base (.tup hee1), kit_ty (by decide +kernel), true, rfl, kT rfl ?_⟩
    refine ⟨_, rfl, _, rfl, _, _, dp_tup (SqT.of hee1), dp_tup (L := [Str.ofString "done"]) (SqT.of hep), shaped_tup oE, by decide +kernel, ?_⟩
    rw [eqv_tup]
    exact k _ S1
  · rw [decide_eq_false e1] at k ⊢
    refine kF (by simp) ?_
    exact k _ S1

end
end K38
end
section
/-! K38L1: the law's draw. -/
namespace K38
open PySem PySem.Spec PyProof.Rows L2
section
variable {P : Program} {w : World} {K : PySem.W.Frag} {mg : Str → Option Value} {base : Heap} {nm : Nm → Str} {H H' H'' H0 : Hp}
theorem atI_int {xs : List V} {i : Int} (h0 : 0 ≤ i) (h1 : i < xs.length) : ixN xs.length i = some i.toNat ∧ i.toNat < xs.length := by
  refine ⟨?_, by omega⟩
  unfold ixN
  rw [if_pos h0, if_pos h1]
/-- the tape: a count and the cells -/
structure Tape (H : Hp) (tp c cl : Addr) (cnt : Int) (ns : List Int) : Prop where
  htp : H tp = some (.lst [.ref c, .ref cl])
  hc : H c = some (.lst [.int cnt])
  hcl : H cl = some (.lst (ns.map V.int))
  pos : 0 ≤ cnt
  ne1 : c ≠ cl
  ne2 : tp ≠ c
  ne3 : tp ≠ cl
def But2 (c cl : Addr) (H H' : Hp) : Prop := ∀ a o, a ≠ c → a ≠ cl → H a = some o → H' a = some o
def spDraw : Sp := fun vs H Q _ => ∃ (tp c cl : Addr) (cnt : Int) (ns : List Int) (many : Int), vs = [.ref tp, .int many] ∧ 0 < many ∧ many < 1000 ∧ Tape H tp c cl cnt ns ∧ ∀ H' cnt' ns' r, Tape H' tp c cl cnt' ns' → But2 c cl H H' → 0 ≤ r → r < many → Q (.int r) H'
theorem sc_law_draw : FnScope ["_law_tape", "_law_many", "_law_count", "_law_cells", "_law_cell", "_law_number"] ["_law_tape", "_law_many"] (defScope s_law_draw) := ⟨rfl, rfl, rfl, by decide +kernel, rfl, by decide +kernel, by decide +kernel⟩
theorem ok_law_draw (T : Tx K mg) : Ok P w K mg base 1 (He.fAd K ("_law_draw", none)) ["_law_tape", "_law_many"] [] spDraw := by
  obtain ⟨fd, F⟩ := T.f_law_draw
  refine mkOk F sc_law_draw (bind0 F fun _ _ _ _ _ _ us hl => match us, hl with | [_, _], _ => rfl) (fun vs H Q E h => ?_) (fun cdv A outer s H vs Q E hr h => ?_)
  · obtain ⟨tp, c, cl, cnt, ns, many, rfl, _⟩ := h
    rfl
  obtain ⟨tp, c, cl, cnt, ns, many, rfl, hm0, hm1, t, k⟩ := h
  refine ⟨_, (pss_cons (ps_asg (pe_op op_add (pe_ix ix_list (pe_ix ix_list (pv 0) pe_int (fun _ _ => rfl)) pe_int (fun _ _ => rfl)) pe_int) (pg_sub (pe_ix ix_list (pv 0) pe_int (fun _ _ => rfl)) pe_int set_list))
      (pss_cons (ps_set (i := 2) sc_law_draw.nd rfl (Or.inl rfl) (pe_ix ix_list (pe_ix ix_list (pv 0) pe_int (fun _ _ => rfl)) pe_int (fun _ _ => rfl)))
      (pss_cons (ps_set (i := 3) sc_law_draw.nd rfl (Or.inl rfl) (pe_ix ix_list (pv 0) pe_int (fun _ _ => rfl)))
      (pss_cons (ps_if (PW.pt (pw_or (pt_cmpR op_gt (pv 2) pe_int (nomark _)) (pw_or1 (pt_cmpR op_eq (pe_callB call_len_seq (by rfl) T.z_len PySem.boot_len (pa_cons (pv 3) pa_nil)) pe_int (nomark _))))) (pss_one (ps_ret pe_int)) pss_nil)
      (pss_cons (ps_set (i := 4) sc_law_draw.nd rfl (Or.inl rfl) (pe_ix ix_list (pv 3) (pe_op op_mod (pe_callTy call_int1 (by rfl) T.z_int (by decide +kernel) (pa_cons (pv 2) pa_nil)) (pe_callB call_len_seq (by rfl) T.z_len PySem.boot_len (pa_cons (pv 3) pa_nil))) (fun _ _ => rfl)))
      (pss_cons (ps_if (PW.pt (pw_or (pt_cmpR op_ge (pv 4) (pe_op op_pow pe_int pe_int) (nomark _)) (pw_or1 (pt_cmpR op_le (pv 4) (pe_un un_neg (pe_op op_pow pe_int pe_int)) (nomark _))))) (pss_cons (ps_asg (pe_op op_fdiv (pv 4) (pv 1)) (pg_sub (pv 3) (pe_op op_mod (pe_callTy call_int1 (by rfl) T.z_int (by decide +kernel) (pa_cons (pv 2) pa_nil)) (pe_callB call_len_seq (by rfl) T.z_len PySem.boot_len (pa_cons (pv 3) pa_nil))) set_list))
      (pss_one (ps_ret (pe_op op_mod (pe_callTy call_int1 (by rfl) T.z_int (by decide +kernel) (pa_cons (pv 4) pa_nil)) (pv 1))))) pss_nil)
      (pss_cons (ps_set (i := 5) sc_law_draw.nd rfl (Or.inl rfl) (pe_op op_mod (pe_callTy call_int1 (by rfl) T.z_int (by decide +kernel) (pa_cons (pe_op op_mul (pe_op op_add (pe_op op_add (pe_op op_mod (pe_callTy call_int1 (by rfl) T.z_int (by decide +kernel) (pa_cons (pv 4) pa_nil)) pe_int) (pe_op op_mul pe_int (pv 2))) pe_int) pe_int) pa_nil)) pe_int))
      (pss_cons (ps_set (i := 5) sc_law_draw.nd rfl (Or.inl rfl) (pe_op op_mod (pe_callTy call_int1 (by rfl) T.z_int (by decide +kernel) (pa_cons (pe_op op_mul (pv 5) (pe_op op_add (pe_op op_fdiv (pv 5) pe_int) pe_int)) pa_nil)) pe_int))
      (pss_cons (ps_set (i := 5) sc_law_draw.nd rfl (Or.inl rfl) (pe_op op_mod (pe_callTy call_int1 (by rfl) T.z_int (by decide +kernel) (pa_cons (pe_op op_mul (pv 5) (pe_op op_add (pe_op op_fdiv (pv 5) pe_int) pe_int)) pa_nil)) pe_int))
      (pss_one (ps_ret (pe_op op_mod (pe_callTy call_int1 (by rfl) T.z_int (by decide +kernel) (pa_cons (pe_op op_fdiv (pv 5) pe_int) pa_nil)) (pv 1))))))))))))), ?_⟩
  refine ⟨_, rfl, tp, _, 0, _, rfl, rfl, SqL.of t.htp, atI_nat (j := 0) rfl, c, _, 0, _, rfl, rfl, SqL.of t.hc, atI_nat (j := 0) rfl, cnt, 1, rfl, rfl, _, rfl, tp, _, 0, _, rfl, rfl, SqL.of t.htp, atI_nat (j := 0) rfl, c, _, 0, 0, rfl, rfl, t.hc, rfl, ?_⟩
  have t1 : Tape (upd H c (.lst ([V.int cnt].set 0 (.int (cnt + 1))))) tp c cl (cnt + 1) ns := ⟨by rw [upd_ne t.ne2]; exact t.htp, upd_same, by rw [upd_ne t.ne1.symm]; exact t.hcl, by have := t.pos; omega, t.ne1, t.ne2, t.ne3⟩
  have b1 : But2 c cl H (upd H c (.lst ([V.int cnt].set 0 (.int (cnt + 1))))) := fun a o n1 n2 h => by rw [upd_ne n1]; exact h
  generalize upd H c (.lst ([V.int cnt].set 0 (.int (cnt + 1)))) = H1 at t1 b1 ⊢
  have hp1 := t1.pos
  have hp0 := t.pos
  generalize cnt + 1 = n at t1 hp1 ⊢
  refine ⟨_, rfl, tp, _, 0, _, rfl, rfl, SqL.of t1.htp, atI_nat (j := 0) rfl, c, _, 0, _, rfl, rfl, SqL.of t1.hc, atI_nat (j := 0) rfl, ?_⟩
  refine ⟨_, rfl, tp, _, 1, _, rfl, rfl, SqL.of t1.htp, atI_nat (j := 1) rfl, ?_⟩
  refine ⟨_, rfl, n, 800, rfl, rfl, _, rfl, ?_⟩
  by_cases h8 : n > 800
  · refine kT (decide_eq_true h8) (iteT ?_)
    exact k _ _ _ 0 t1 b1 (by omega) hm0
  refine kF (by rw [decide_eq_false h8]; simp) ?_
  refine ⟨_, rfl, cl, _, rfl, .inl (SqL.of t1.hcl), rfl, _, rfl, ?_⟩
  by_cases hz : ns.length = 0
  · refine kT (by rw [List.length_map, hz]; decide) ?_
    exact k _ _ _ 0 t1 b1 (by omega) hm0
  refine kF (by rw [List.length_map, decide_eq_false (fun e => hz (by have := V.int.inj e; omega))]; simp) ?_
  have hlen : (0 : Int) < ((ns.map V.int).length : Nat) := by rw [List.length_map]; omega
  have i0 : 0 ≤ n % ((ns.map V.int).length : Nat) := Int.emod_nonneg _ (by omega)
  have i1 : n % ((ns.map V.int).length : Nat) < ((ns.map V.int).length : Nat) := Int.emod_lt_of_pos _ hlen
  obtain ⟨ix1, ix2⟩ := atI_int i0 i1
  obtain ⟨x, hx⟩ : ∃ x : Int, (ns.map V.int)[(n % ((ns.map V.int).length : Nat)).toNat]? = some (.int x) := by
    rw [List.length_map] at ix2 ⊢
    exact ⟨ns[(n % (ns.length : Nat)).toNat], by rw [List.getElem?_map, List.getElem?_eq_getElem ix2]; rfl⟩
  have hat : atI (ns.map V.int) (n % ((ns.map V.int).length : Nat)) = some (.int x) := by
    unfold atI
    rw [ix1]
    exact hx
  have e64 : (2 : Int) ^ 64 = 18446744073709551616 := by decide +kernel
  have cm : ∀ i j : Int, 0 ≤ i → i < 18446744073709551616 → CMul i j := fun i j h1 h2 => .inl ⟨by omega, by omega⟩
  have cp : CPow 10 18 := ⟨by decide, by decide, by decide⟩
  refine ⟨_, rfl, _, rfl, .inl ⟨_, rfl, _, rfl, cl, _, rfl, .inl (SqL.of t1.hcl), _, _, rfl, rfl, hlen, cl, _, _, _, rfl, rfl, SqL.of t1.hcl, hat, ?_⟩⟩
  -- the two ways
  have cd : CDiv x many := ⟨hm0, by omega⟩
  refine ⟨_, rfl, 10, 18, rfl, rfl, cp, _, _, rfl, rfl, _, rfl, ?_⟩
  by_cases hb1 : x ≥ 10 ^ (18 : Int).toNat
  · refine kT (decide_eq_true hb1) (iteT ?_)
    refine ⟨_, rfl, _, rfl, _, _, rfl, rfl, cd, _, rfl, _, rfl, .inl ⟨_, rfl, _, rfl, cl, _, rfl, .inl (SqL.of t1.hcl), _, _, rfl, rfl, hlen, cl, _, _, _, rfl, rfl, t1.hcl, ix1, ?_⟩⟩
    refine ⟨_, rfl, .inl ⟨_, rfl, _, rfl, _, _, rfl, rfl, hm0, k _ n (ns.set (n % ((ns.map V.int).length : Nat)).toNat (x / many)) _ ⟨?_, ?_, ?_, hp1, t.ne1, t.ne2, t.ne3⟩ (fun a o n1 n2 h => ?_) (Int.emod_nonneg _ (by omega)) (Int.emod_lt_of_pos _ hm0)⟩⟩
    · rw [upd_ne t.ne3]; exact t1.htp
    · rw [upd_ne t.ne1]; exact t1.hc
    · rw [upd_same, List.map_set]
    · rw [upd_ne n2]; exact b1 a o n1 n2 h
  refine kF (by rw [decide_eq_false hb1]; simp) ?_
  refine ⟨_, rfl, 10, 18, rfl, rfl, cp, _, rfl, _, _, rfl, rfl, _, rfl, ?_⟩
  by_cases hb2 : x ≤ -10 ^ (18 : Int).toNat
  · refine kT (decide_eq_true hb2) ?_
    refine ⟨_, rfl, _, rfl, _, _, rfl, rfl, cd, _, rfl, _, rfl, .inl ⟨_, rfl, _, rfl, cl, _, rfl, .inl (SqL.of t1.hcl), _, _, rfl, rfl, hlen, cl, _, _, _, rfl, rfl, t1.hcl, ix1, ?_⟩⟩
    refine ⟨_, rfl, .inl ⟨_, rfl, _, rfl, _, _, rfl, rfl, hm0, k _ n (ns.set (n % ((ns.map V.int).length : Nat)).toNat (x / many)) _ ⟨?_, ?_, ?_, hp1, t.ne1, t.ne2, t.ne3⟩ (fun a o n1 n2 h => ?_) (Int.emod_nonneg _ (by omega)) (Int.emod_lt_of_pos _ hm0)⟩⟩
    · rw [upd_ne t.ne3]; exact t1.htp
    · rw [upd_ne t.ne1]; exact t1.hc
    · rw [upd_same, List.map_set]
    · rw [upd_ne n2]; exact b1 a o n1 n2 h
  refine kF (by rw [decide_eq_false hb2]; simp) ?_
  refine ⟨_, rfl, .inl ⟨_, rfl, _, _, rfl, rfl, (show (0 : Int) < 2147483647 by decide), _, rfl, _, _, rfl, rfl, cm _ _ (by decide) (by decide), _, _, rfl, rfl, _, _, rfl, rfl, _, _, rfl, rfl, cm _ _ ?_ ?_, .inl ⟨_, rfl, _, _, rfl, rfl, (show (0 : Int) < 2147483647 by decide), ?_⟩⟩⟩
  · have h1 : 0 ≤ x % 2147483647 := Int.emod_nonneg _ (by decide)
    omega
  · have h2 : x % 2147483647 < 2147483647 := Int.emod_lt_of_pos _ (by decide)
    omega
  have n1a : 0 ≤ (x % 2147483647 + 7919 * n + 1) * 48271 % 2147483647 := Int.emod_nonneg _ (by decide)
  have n1b : (x % 2147483647 + 7919 * n + 1) * 48271 % 2147483647 < 2147483647 := Int.emod_lt_of_pos _ (by decide)
  refine ⟨_, rfl, _, rfl, _, _, rfl, rfl, ⟨by decide, by decide⟩, _, _, rfl, rfl, _, _, rfl, rfl, cm _ _ n1a (Int.lt_trans n1b (by decide)), .inl ⟨_, rfl, _, _, rfl, rfl, (show (0 : Int) < 2147483647 by decide), ?_⟩⟩
  have n2a : 0 ≤ (((x % 2147483647 + 7919 * n + 1) * 48271 % 2147483647) * (((x % 2147483647 + 7919 * n + 1) * 48271 % 2147483647) / 1009 + 69621) % 2147483647) := Int.emod_nonneg _ (by decide)
  have n2b : (((x % 2147483647 + 7919 * n + 1) * 48271 % 2147483647) * (((x % 2147483647 + 7919 * n + 1) * 48271 % 2147483647) / 1009 + 69621) % 2147483647) < 2147483647 := Int.emod_lt_of_pos _ (by decide)
  refine ⟨_, rfl, _, rfl, _, _, rfl, rfl, ⟨by decide, by decide⟩, _, _, rfl, rfl, _, _, rfl, rfl, cm _ _ n2a (Int.lt_trans n2b (by decide)), .inl ⟨_, rfl, _, _, rfl, rfl, (show (0 : Int) < 2147483399 by decide), ?_⟩⟩
  exact ⟨_, rfl, _, _, rfl, rfl, ⟨by decide, by decide⟩, .inl ⟨_, rfl, _, rfl, _, _, rfl, rfl, hm0, k _ _ _ _ t1 b1 (Int.emod_nonneg _ (by omega)) (Int.emod_lt_of_pos _ hm0)⟩⟩
end
end K38
end
section
/-! K38L2: expressions that make syntax. -/
namespace K38
open PySem PySem.Spec PyProof.Rows L2
/-- at any later heap the expression makes a value that tells T, and changes nothing -/
def Mk (t : TE) (σ : L2.St) (H : Hp) (X : T) : Prop := ∀ H1, Same H H1 → ∀ Q : VK, (∀ H2 v, Same H1 H2 → At H2 X v → Q v H2) → t σ H1 Q
def MkA (t : TA) (σ : L2.St) (H : Hp) (Xs : List T) : Prop := ∀ H1, Same H H1 → ∀ Q : List V → Hp → Prop, (∀ H2 vs, Same H1 H2 → Ats H2 Xs vs → Q vs H2) → t σ H1 Q
def MkL (t : TE) (σ : L2.St) (H : Hp) (Xs : List T) : Prop := ∀ H1, Same H H1 → ∀ Q : VK, (∀ H2 l vs, Same H1 H2 → H2 l = some (.lst vs) → Ats H2 Xs vs → Q (.ref l) H2) → t σ H1 Q
section
variable {K : PySem.W.Frag} {σ : L2.St} {H : Hp} {te ta tb : TE} {tr : TA} {X : T} {Xs Ys : List T}
theorem mk_str {x : Str} : Mk (tC (.str x)) σ H (.s x) := fun H1 S Q k => k H1 _ (.refl H1) .mkS
theorem mk_var {i : Nat} {v : V} (h : σ[i]? = some (some v)) (a : At H X v) : Mk (tVar i) σ H X := fun H1 S Q k => ⟨v, h, k H1 _ (.refl H1) (At.same (tps_of S) _ _ a)⟩
theorem mkA_nil : MkA tNil σ H [] := fun H1 S Q k => k H1 _ (.refl H1) .mkN
theorem mkA_cons (a : Mk te σ H X) (r : MkA tr σ H Xs) : MkA (tCons te tr) σ H (X :: Xs) := fun H1 S Q k =>
  a H1 S _ fun H2 v S2 av => r H2 (S.trans S2) _ fun H3 vs S3 avs => k H3 _ (S2.trans S3) (.mkC (At.same (tps_of S3) _ _ av) avs)
theorem mk_tup (a : MkA tr σ H Xs) (hl : Xs.length ≤ sizeLine) : Mk (tTup tr) σ H (.t Xs) := fun H1 S Q k =>
  a H1 S _ fun H2 vs S2 avs => ⟨by rw [avs.len]; exact hl, fun p hp => k _ _ (S2.trans (same_new hp _)) (.mkT upd_same (Ats.same (tps_of (same_new hp _)) _ _ avs))⟩
theorem mk_lst (a : MkA tr σ H Xs) (hl : Xs.length ≤ sizeLine) : MkL (tLst tr) σ H Xs := fun H1 S Q k =>
  a H1 S _ fun H2 vs S2 avs => ⟨by rw [avs.len]; exact hl, fun p hp => k _ p vs (S2.trans (same_new hp _)) upd_same (Ats.same (tps_of (same_new hp _)) _ _ avs)⟩
theorem mk_lvar {i : Nat} {l : Addr} {vs : List V} (h : σ[i]? = some (some (.ref l))) (hl : H l = some (.lst vs)) (a : Ats H Xs vs) : MkL (tVar i) σ H Xs := fun H1 S Q k =>
  ⟨_, h, k H1 l vs (.refl H1) (S _ _ hl) (Ats.same (tps_of S) _ _ a)⟩
theorem mk_ix {i : Nat} {j : Int} {l : Addr} {x : Str} {L : List Str} (h : σ[i]? = some (some (.ref l))) (hl : H l = some (.lst (L.map V.str))) (hx : atI (L.map V.str) j = some (.str x)) : Mk (tOp (rIxL K) (tVar i) (tC (.int j))) σ H (.s x) := fun H1 S Q k =>
  ⟨_, h, l, _, j, _, rfl, rfl, SqL.of (S _ _ hl), hx, k H1 _ (.refl H1) .mkS⟩
theorem mk_tupOf {r : List V → Hp → VK → Prop} (hr : ∀ H p ys Q, SqL K H p ys → (∀ l, H l = none → Q (.ref l) (upd H l (.tup ys))) → r [.ref p] H Q) (a : MkL te σ H Xs) : Mk (tCB r (tCons te tNil)) σ H (.t Xs) := fun H1 S Q k =>
  a H1 S _ fun H2 l vs S2 hl avs => hr H2 l vs _ (SqL.of hl) fun p hp => k _ _ (S2.trans (same_new hp _)) (.mkT upd_same (Ats.same (tps_of (same_new hp _)) _ _ avs))
theorem mk_cat (a : Mk ta σ H (.t Xs)) (b : Mk tb σ H (.t Ys)) (hl : Xs.length + Ys.length ≤ sizeLine) : Mk (tOp (rCatA K) ta tb) σ H (.t (Xs ++ Ys)) := fun H1 S Q k =>
  a H1 S _ fun H2 v S2 av => b H2 (S.trans S2) _ fun H3 u S3 au => by
    obtain ⟨p, vs, rfl, hp, avs⟩ := (At.same (tps_of S3) _ _ av).tup
    obtain ⟨q, us, rfl, hq, aus⟩ := au.tup
    refine ⟨p, q, vs, us, rfl, rfl, SqT.of hp, SqT.of hq, by rw [avs.len, aus.len]; exact hl, fun e => ?_, fun e1 e2 => ?_, fun e1 e2 z hz => ?_⟩
    · subst e
      have : Xs = [] := List.length_eq_zero_iff.mp avs.len.symm
      subst this
      exact k _ _ (S2.trans S3) au
    · subst e2
      have : Ys = [] := List.length_eq_zero_iff.mp aus.len.symm
      subst this
      exact k _ _ (S2.trans S3) (by rw [List.append_nil]; exact At.same (tps_of S3) _ _ av)
    · have S4 := same_new hz (.tup (vs ++ us))
      exact k _ _ ((S2.trans S3).trans S4) (.mkT upd_same (Ats.app (Ats.same (tps_of S4) _ _ avs) (Ats.same (tps_of S4) _ _ aus)))
theorem mk_ren {X' : T} (a : Mk te σ H X) (e : X = X') : Mk te σ H X' := e ▸ a
theorem Mk.same {H' : Hp} (a : Mk te σ H X) (S : Same H H') : Mk te σ H' X := fun H1 S1 => a H1 (S.trans S1)
theorem ret_mk {D : Ends} (a : Mk te σ H X) (k : ∀ H1 v, Same H H1 → At H1 X v → D.rt v H1) : tRet te D σ H := a H (.refl H) _ k
theorem asg_mk {D : Ends} {i : Nat} {u : TS} (a : Mk te σ H X) (k : ∀ H1 v, Same H H1 → At H1 X v → u D (σ.set i (some v)) H1) : tSeq (tAsg te (gName i)) u D σ H := a H (.refl H) _ k
/-- a row is put behind a list of one's own -/
theorem app_mk {D : Ends} {i : Nat} {l : Addr} {u : TS} {H0 : Hp} {vs : List V} (h : σ[i]? = some (some (.ref l))) (a : Mk te σ H X) (S : Same H0 H) (h0 : H0 l = none) (hl : H l = some (.lst vs)) (hv : Ats H Xs vs) (hz : Xs.length < sizeLine)
    (k : ∀ H1 vs', Same H0 H1 → Tps H H1 → H1 l = some (.lst vs') → Ats H1 (Xs ++ [X]) vs' → u D σ H1) : tSeq (tDrop (tBM K "list" rAppend (tVar i) (tCons te tNil))) u D σ H :=
  ⟨_, h, .inl ⟨rfl, _, SqL.of hl⟩, a H (.refl H) _ fun H1 v S1 av => ⟨l, vs, v, rfl, rfl, S1 _ _ hl, by rw [hv.len]; exact hz, by
    have t : Tps H1 (upd H1 l (.lst (vs ++ [v]))) := off_tps (S1 _ _ hl) (by simp [tg])
    have t0 := (tps_of S1).trans t
    refine k _ _ (fun a o e => ?_) t0 upd_same (Ats.app (Ats.same t0 _ _ hv) (.mkC (At.same t _ _ av) .mkN))
    rw [upd_ne (ne_of_none e h0)]
    exact S1 _ _ (S _ _ e)⟩⟩
end
end K38
end
section
/-! K38L3: called, is_none, picker, loop. -/
namespace K38
open PySem PySem.Spec PyProof.Rows L2
abbrev tN (x : Str) : T := .t [.s "name", .s x]
abbrev tCl (x : Str) (Xs : List T) : T := .t [.s "call", tN x, .t Xs]
abbrev tIN (x : Str) : T := .t [.s "same", tN x, .t [.s "none"]]
abbrev tPk (one other picked : Str) : T := .t [.s "fn", .t [.s one], .t [.t [.s "return", tCl one [.t [.s "fn", .t [.s one, .s other], .t [.t [.s "return", tN picked]]]]]]]
abbrev tLp (d1 d2 name one : Str) (Xs : List T) : T := .t [.s "while", .t [.s "not", tIN name], .t ([.t [.s "let", .s one, tCl d1 [tN name]]] ++ Xs ++ [.t [.s "set", .s name, tCl d2 [tN name]]])]
section
variable {P : Program} {w : World} {K : PySem.W.Frag} {mg : Str → Option Value} {base : Heap} {nm : Nm → Str} {H H' H'' H0 : Hp} {σ : L2.St} {te ta tb tc td tl : TE} {Xs : List T}
def spCalled : Sp := fun vs H Q _ => ∃ (x : Str) (l : Addr) (Xs : List T) (ws : List V), vs = [.str x, .ref l] ∧ H l = some (.lst ws) ∧ Ats H Xs ws ∧ ∀ H' v, Same H H' → At H' (tCl x Xs) v → Q v H'
theorem mk_called {E : XK} {x : Str} (a : Mk te σ H (.s x)) (b : MkL tl σ H Xs) : Mk (tCall spCalled [] E (tCons te (tCons tl tNil))) σ H (tCl x Xs) := fun H1 S Q k =>
  a H1 S _ fun H2 v S2 av => by
    cases av.str
    exact b H2 (S.trans S2) _ fun H3 l ws S3 hl hw => ⟨x, l, Xs, ws, rfl, hl, hw, fun H4 v S4 a4 => k H4 v ((S2.trans S3).trans S4) a4⟩
theorem sc_law_called : FnScope ["_law_name", "_law_things"] ["_law_name", "_law_things"] (defScope s_law_called) := ⟨rfl, rfl, rfl, by decide +kernel, rfl, by decide +kernel, by decide +kernel⟩
theorem ok_law_called (T : Tx K mg) : Ok P w K mg base 1 (He.fAd K ("_law_called", none)) ["_law_name", "_law_things"] [] spCalled := by
  obtain ⟨fd, F⟩ := T.f_law_called
  refine mkOk F sc_law_called (bind0 F fun _ _ _ _ _ _ us hl => match us, hl with | [_, _], _ => rfl) (fun vs H Q E h => ?_) (fun cdv A outer s H vs Q E hr h => ?_)
  · obtain ⟨x, l, Xs, ws, rfl, _⟩ := h
    rfl
  obtain ⟨x, l, Xs, ws, rfl, hl, hw, k⟩ := h
  refine ⟨_, (pss_one (ps_ret (pe_tup (pa_cons pe_str (pa_cons (pe_tup (pa_cons pe_str (pa_cons (pv 0) pa_nil))) (pa_cons (pe_callTy call_tuple_of (by rfl) T.z_tuple (by decide +kernel) (pa_cons (pv 1) pa_nil)) pa_nil)))))), ?_⟩
  exact ret_mk (mk_tup (mkA_cons mk_str (mkA_cons (mk_tup (mkA_cons mk_str (mkA_cons (mk_var rfl .mkS) mkA_nil)) (by show 2 ≤ sizeLine; decide)) (mkA_cons (mk_tupOf (fun H p ys Q h1 h2 => ⟨p, ys, rfl, .inl ⟨h1, h2⟩⟩) (mk_lvar rfl hl hw)) mkA_nil))) (by show 3 ≤ sizeLine; decide)) k
def spIsNone : Sp := fun vs H Q _ => ∃ (x : Str), vs = [.str x] ∧ ∀ H' v, Same H H' → At H' (tIN x) v → Q v H'
theorem mk_isNone {E : XK} {x : Str} (a : Mk te σ H (.s x)) : Mk (tCall spIsNone [] E (tCons te tNil)) σ H (tIN x) := fun H1 S Q k =>
  a H1 S _ fun H2 v S2 av => by
    cases av.str
    exact ⟨x, rfl, fun H4 v S4 a4 => k H4 v (S2.trans S4) a4⟩
theorem sc_law_is_none : FnScope ["_law_name"] ["_law_name"] (defScope s_law_is_none) := ⟨rfl, rfl, rfl, by decide +kernel, rfl, by decide +kernel, by decide +kernel⟩
theorem ok_law_is_none (T : Tx K mg) : Ok P w K mg base 1 (He.fAd K ("_law_is_none", none)) ["_law_name"] [] spIsNone := by
  obtain ⟨fd, F⟩ := T.f_law_is_none
  refine mkOk F sc_law_is_none (bind0 F fun _ _ _ _ _ _ us hl => match us, hl with | [_], _ => rfl) (fun vs H Q E h => ?_) (fun cdv A outer s H vs Q E hr h => ?_)
  · obtain ⟨x, rfl, _⟩ := h
    rfl
  obtain ⟨x, rfl, k⟩ := h
  refine ⟨_, (pss_one (ps_ret (pe_tup (pa_cons pe_str (pa_cons (pe_tup (pa_cons pe_str (pa_cons (pv 0) pa_nil))) (pa_cons (pe_tup (pa_cons pe_str pa_nil)) pa_nil)))))), ?_⟩
  exact ret_mk (mk_tup (mkA_cons mk_str (mkA_cons (mk_tup (mkA_cons mk_str (mkA_cons (mk_var rfl .mkS) mkA_nil)) (by show 2 ≤ sizeLine; decide)) (mkA_cons (mk_tup (mkA_cons mk_str mkA_nil) (by show 1 ≤ sizeLine; decide)) mkA_nil))) (by show 3 ≤ sizeLine; decide)) k
def spPicker : Sp := fun vs H Q _ => ∃ (n one other picked : Str), vs = [.str n, .str one, .str other, .str picked] ∧ ∀ H' v, Same H H' → At H' (tPk one other picked) v → Q v H'
theorem mk_picker {E : XK} {n one other picked : Str} (a : Mk ta σ H (.s n)) (b : Mk tb σ H (.s one)) (c : Mk tc σ H (.s other)) (d : Mk td σ H (.s picked)) : Mk (tCall spPicker [] E (tCons ta (tCons tb (tCons tc (tCons td tNil))))) σ H (tPk one other picked) := fun H1 S Q k =>
  a H1 S _ fun H2 v2 S2 a2 => b H2 (S.trans S2) _ fun H3 v3 S3 a3 => c H3 ((S.trans S2).trans S3) _ fun H4 v4 S4 a4 => d H4 (((S.trans S2).trans S3).trans S4) _ fun H5 v5 S5 a5 => by
    cases a2.str
    cases a3.str
    cases a4.str
    cases a5.str
    exact ⟨n, one, other, picked, rfl, fun H6 v S6 a6 => k H6 v ((((S2.trans S3).trans S4).trans S5).trans S6) a6⟩
theorem sc_law_picker : FnScope ["_law_name", "_law_one", "_law_other", "_law_picked", "_law_pick"] ["_law_name", "_law_one", "_law_other", "_law_picked"] (defScope s_law_picker) := ⟨rfl, rfl, rfl, by decide +kernel, rfl, by decide +kernel, by decide +kernel⟩
theorem ok_law_picker (T : Tx K mg) : Ok P w K mg base 2 (He.fAd K ("_law_picker", none)) ["_law_name", "_law_one", "_law_other", "_law_picked"] [] spPicker := by
  obtain ⟨fd, F⟩ := T.f_law_picker
  obtain ⟨fd_law_called, us_law_called, G_law_called, b_law_called, v_law_called, k_law_called, _⟩ := ok_law_called T
  refine mkOk F sc_law_picker (bind0 F fun _ _ _ _ _ _ us hl => match us, hl with | [_, _, _, _], _ => rfl) (fun vs H Q E h => ?_) (fun cdv A outer s H vs Q E hr h => ?_)
  · obtain ⟨n, one, other, picked, rfl, _⟩ := h
    rfl
  obtain ⟨n, one, other, picked, rfl, k⟩ := h
  refine ⟨_, (pss_cons (ps_set (i := 4) sc_law_picker.nd rfl (Or.inl rfl) (pe_tup (pa_cons pe_str (pa_cons (pe_tup (pa_cons (pv 1) (pa_cons (pv 2) pa_nil))) (pa_cons (pe_tup (pa_cons (pe_tup (pa_cons pe_str (pa_cons (pe_tup (pa_cons pe_str (pa_cons (pv 3) pa_nil))) pa_nil))) pa_nil)) pa_nil)))))
      (pss_one (ps_ret (pe_tup (pa_cons pe_str (pa_cons (pe_tup (pa_cons (pv 1) pa_nil)) (pa_cons (pe_tup (pa_cons (pe_tup (pa_cons pe_str (pa_cons (pe_call G_law_called (hr.mono (by decide)) rfl T.g_law_called k_law_called b_law_called v_law_called pass0 (pa_cons (pv 1) (pa_cons (pe_lst (pa_cons (pv 4) pa_nil)) pa_nil))) pa_nil))) pa_nil)) pa_nil))))))), ?_⟩
  refine asg_mk (mk_tup (mkA_cons mk_str (mkA_cons (mk_tup (mkA_cons (mk_var rfl .mkS) (mkA_cons (mk_var rfl .mkS) mkA_nil)) (by show 2 ≤ sizeLine; decide)) (mkA_cons (mk_tup (mkA_cons (mk_tup (mkA_cons mk_str (mkA_cons (mk_tup (mkA_cons mk_str (mkA_cons (mk_var rfl .mkS) mkA_nil)) (by show 2 ≤ sizeLine; decide)) mkA_nil)) (by show 2 ≤ sizeLine; decide)) mkA_nil) (by show 1 ≤ sizeLine; decide)) mkA_nil))) (by show 3 ≤ sizeLine; decide)) fun H1 v1 S1 a1 => ?_
  exact ret_mk (mk_tup (mkA_cons mk_str (mkA_cons (mk_tup (mkA_cons (mk_var rfl .mkS) mkA_nil) (by show 1 ≤ sizeLine; decide)) (mkA_cons (mk_tup (mkA_cons (mk_tup (mkA_cons mk_str (mkA_cons (mk_called (mk_var rfl .mkS) (mk_lst (mkA_cons (mk_var rfl a1) mkA_nil) (by show 1 ≤ sizeLine; decide))) mkA_nil)) (by show 2 ≤ sizeLine; decide)) mkA_nil) (by show 1 ≤ sizeLine; decide)) mkA_nil))) (by show 3 ≤ sizeLine; decide)) fun H2 v S2 a2 => k H2 v (S1.trans S2) a2
def spLoop : Sp := fun vs H Q _ => ∃ (dl rl : Addr) (D : List Str) (d1 d2 name one : Str) (Xs : List T) (ws : List V), vs = [.ref dl, .str name, .str one, .ref rl] ∧ H dl = some (.lst (D.map V.str)) ∧ atI (D.map V.str) 1 = some (.str d1) ∧ atI (D.map V.str) 2 = some (.str d2) ∧ H rl = some (.lst ws) ∧ Ats H Xs ws ∧ Xs.length ≤ 100 ∧
  ∀ H' v, Same H H' → At H' (tLp d1 d2 name one Xs) v → Q v H'
theorem mk_loop {E : XK} {i : Nat} {dl : Addr} {D : List Str} {d1 d2 name one : Str} (h : σ[i]? = some (some (.ref dl))) (hd : H dl = some (.lst (D.map V.str))) (e1 : atI (D.map V.str) 1 = some (.str d1)) (e2 : atI (D.map V.str) 2 = some (.str d2)) (b : Mk tb σ H (.s name)) (c : Mk tc σ H (.s one)) (d : MkL tl σ H Xs) (hx : Xs.length ≤ 100) :
    Mk (tCall spLoop [] E (tCons (tVar i) (tCons tb (tCons tc (tCons tl tNil))))) σ H (tLp d1 d2 name one Xs) := fun H1 S Q k =>
  ⟨_, h, b H1 S _ fun H3 v3 S3 a3 => c H3 (S.trans S3) _ fun H4 v4 S4 a4 => d H4 ((S.trans S3).trans S4) _ fun H5 l ws S5 hl hw => by
    cases a3.str
    cases a4.str
    exact ⟨dl, l, D, d1, d2, name, one, Xs, ws, rfl, (((S.trans S3).trans S4).trans S5) _ _ hd, e1, e2, hl, hw, hx, fun H6 v S6 a6 => k H6 v (((S3.trans S4).trans S5).trans S6) a6⟩⟩
theorem sc_law_loop : FnScope ["_law_defs_here", "_law_name", "_law_one", "_law_rows", "_law_rest"] ["_law_defs_here", "_law_name", "_law_one", "_law_rows"] (defScope s_law_loop) := ⟨rfl, rfl, rfl, by decide +kernel, rfl, by decide +kernel, by decide +kernel⟩
theorem ok_law_loop (T : Tx K mg) : Ok P w K mg base 2 (He.fAd K ("_law_loop", none)) ["_law_defs_here", "_law_name", "_law_one", "_law_rows"] [] spLoop := by
  obtain ⟨fd, F⟩ := T.f_law_loop
  obtain ⟨fd_law_called, us_law_called, G_law_called, b_law_called, v_law_called, k_law_called, _⟩ := ok_law_called T
  obtain ⟨fd_law_is_none, us_law_is_none, G_law_is_none, b_law_is_none, v_law_is_none, k_law_is_none, _⟩ := ok_law_is_none T
  refine mkOk F sc_law_loop (bind0 F fun _ _ _ _ _ _ us hl => match us, hl with | [_, _, _, _], _ => rfl) (fun vs H Q E h => ?_) (fun cdv A outer s H vs Q E hr h => ?_)
  · obtain ⟨dl, rl, D, d1, d2, name, one, Xs, ws, rfl, _⟩ := h
    rfl
  obtain ⟨dl, rl, D, d1, d2, name, one, Xs, ws, rfl, hd, e1, e2, hl, hw, hx, k⟩ := h
  refine ⟨_, (pss_cons (ps_set (i := 4) sc_law_loop.nd rfl (Or.inl rfl) (pe_op op_catA (pe_tup (pa_cons (pe_tup (pa_cons pe_str (pa_cons (pv 2) (pa_cons (pe_call G_law_called (hr.mono (by decide)) rfl T.g_law_called k_law_called b_law_called v_law_called pass0 (pa_cons (pe_ix ix_list (pv 0) pe_int (fun _ _ => rfl)) (pa_cons (pe_lst (pa_cons (pe_tup (pa_cons pe_str (pa_cons (pv 1) pa_nil))) pa_nil)) pa_nil))) pa_nil)))) pa_nil)) (pe_callTy call_tuple_of (by rfl) T.z_tuple (by decide +kernel) (pa_cons (pv 3) pa_nil))))
      (pss_cons (ps_set (i := 4) sc_law_loop.nd rfl (Or.inl rfl) (pe_op op_catA (pv 4) (pe_tup (pa_cons (pe_tup (pa_cons pe_str (pa_cons (pv 1) (pa_cons (pe_call G_law_called (hr.mono (by decide)) rfl T.g_law_called k_law_called b_law_called v_law_called pass0 (pa_cons (pe_ix ix_list (pv 0) pe_int (fun _ _ => rfl)) (pa_cons (pe_lst (pa_cons (pe_tup (pa_cons pe_str (pa_cons (pv 1) pa_nil))) pa_nil)) pa_nil))) pa_nil)))) pa_nil))))
      (pss_one (ps_ret (pe_tup (pa_cons pe_str (pa_cons (pe_tup (pa_cons pe_str (pa_cons (pe_call G_law_is_none (hr.mono (by decide)) rfl T.g_law_is_none k_law_is_none b_law_is_none v_law_is_none pass0 (pa_cons (pv 1) pa_nil)) pa_nil))) (pa_cons (pv 4) pa_nil)))))))), ?_⟩
  have sz : 1000 ≤ sizeLine := by decide
  refine asg_mk (mk_cat (mk_tup (mkA_cons (mk_tup (mkA_cons mk_str (mkA_cons (mk_var rfl .mkS) (mkA_cons (mk_called (mk_ix rfl hd e1) (mk_lst (mkA_cons (mk_tup (mkA_cons mk_str (mkA_cons (mk_var rfl .mkS) mkA_nil)) (by show 2 ≤ sizeLine; decide)) mkA_nil) (by show 1 ≤ sizeLine; decide))) mkA_nil))) (by show 3 ≤ sizeLine; decide)) mkA_nil) (by show 1 ≤ sizeLine; decide)) (mk_tupOf (fun H p ys Q h1 h2 => ⟨p, ys, rfl, .inl ⟨h1, h2⟩⟩) (mk_lvar rfl hl hw)) (by simp only [List.length_cons, List.length_nil, List.length_append]; omega)) fun H1 v1 S1 a1 => ?_
  have hd1 := S1 _ _ hd
  refine asg_mk (mk_cat (mk_var rfl a1) (mk_tup (mkA_cons (mk_tup (mkA_cons mk_str (mkA_cons (mk_var rfl .mkS) (mkA_cons (mk_called (mk_ix rfl hd1 e2) (mk_lst (mkA_cons (mk_tup (mkA_cons mk_str (mkA_cons (mk_var rfl .mkS) mkA_nil)) (by show 2 ≤ sizeLine; decide)) mkA_nil) (by show 1 ≤ sizeLine; decide))) mkA_nil))) (by show 3 ≤ sizeLine; decide)) mkA_nil) (by show 1 ≤ sizeLine; decide)) (by simp only [List.length_cons, List.length_nil, List.length_append]; omega)) fun H2 v2 S2 a2 => ?_
  exact ret_mk (mk_tup (mkA_cons mk_str (mkA_cons (mk_tup (mkA_cons mk_str (mkA_cons (mk_isNone (mk_var rfl .mkS)) mkA_nil)) (by show 2 ≤ sizeLine; decide)) (mkA_cons (mk_var rfl a2) mkA_nil))) (by show 3 ≤ sizeLine; decide)) fun H3 v S3 a3 => k H3 v ((S1.trans S2).trans S3) a3
end
end K38
end
section
/-! K38L4: the defs of the law's program. -/
namespace K38
open PySem PySem.Spec PyProof.Rows L2
section
variable {P : Program} {w : World} {K : PySem.W.Frag} {mg : Str → Option Value} {base : Heap} {nm : Nm → Str} {H H' H'' H0 : Hp} {σ : L2.St} {te ta tb tc td tl : TE} {tr : TA} {Xs : List T}
theorem asg_lst {D : Ends} {i : Nat} {u : TS} (a : MkA tr σ H Xs) (hl : Xs.length ≤ sizeLine) (k : ∀ H1 l vs, Same H H1 → H l = none → H1 l = some (.lst vs) → Ats H1 Xs vs → u D (σ.set i (some (.ref l))) H1) : tSeq (tAsg (tLst tr) (gName i)) u D σ H :=
  a H (.refl H) _ fun H2 vs S2 avs => ⟨by rw [avs.len]; exact hl, fun p hp => k _ p vs (S2.trans (same_new hp _)) (S2.free hp) upd_same (Ats.same (tps_of (same_new hp _)) _ _ avs)⟩
def defsOf (wd : Nat → Str) : List Sm := [defSm wd 0 0, defSm wd 1 1, defSm wd 2 2, defSm wd 3 3, defSm wd 4 4, defSm wd 5 5]
def dNames (nm : Nm → Str) : List Str := [nm 0, nm 1, nm 2, nm 3, nm 4, nm 5]
def spDefs (nm : Nm → Str) : Sp := fun vs H Q _ => ∃ (dl wl : Addr) (W : List Str) (wd : Nat → Str), vs = [.ref dl, .str (nm 9), .str (nm 10), .str (nm 11), .ref wl] ∧ H dl = some (.lst ((dNames nm).map V.str)) ∧ H wl = some (.lst (W.map V.str)) ∧ atI (W.map V.str) 0 = some (.str (wd 0)) ∧ atI (W.map V.str) 1 = some (.str (wd 1)) ∧
  ∀ H' rl ws, Same H H' → H rl = none → H' rl = some (.lst ws) → Ats H' (eSms nm (defsOf wd)) ws → Q (.ref rl) H'
theorem sc_law_defs : FnScope ["_law_defs_here", "_law_one", "_law_other", "_law_more", "_law_words", "_law_cons", "_law_rows", "_law_turned", "_law_block", "_law_found"] ["_law_defs_here", "_law_one", "_law_other", "_law_more", "_law_words"] (defScope s_law_defs) := ⟨rfl, rfl, rfl, by decide +kernel, rfl, by decide +kernel, by decide +kernel⟩
theorem ok_law_defs (T : Tx K mg) : Ok P w K mg base 3 (He.fAd K ("_law_defs", none)) ["_law_defs_here", "_law_one", "_law_other", "_law_more", "_law_words"] [] (spDefs nm) := by
  obtain ⟨fd, F⟩ := T.f_law_defs
  obtain ⟨fd_law_called, us_law_called, G_law_called, b_law_called, v_law_called, k_law_called, _⟩ := ok_law_called T
  obtain ⟨fd_law_is_none, us_law_is_none, G_law_is_none, b_law_is_none, v_law_is_none, k_law_is_none, _⟩ := ok_law_is_none T
  obtain ⟨fd_law_picker, us_law_picker, G_law_picker, b_law_picker, v_law_picker, k_law_picker, _⟩ := ok_law_picker T
  obtain ⟨fd_law_loop, us_law_loop, G_law_loop, b_law_loop, v_law_loop, k_law_loop, _⟩ := ok_law_loop T
  refine mkOk F sc_law_defs (bind0 F fun _ _ _ _ _ _ us hl => match us, hl with | [_, _, _, _, _], _ => rfl) (fun vs H Q E h => ?_) (fun cdv A outer s H vs Q E hr h => ?_)
  · obtain ⟨dl, wl, W, wd, rfl, _⟩ := h
    rfl
  obtain ⟨dl, wl, W, wd, rfl, hd, hw, hw0, hw1, k⟩ := h
  refine ⟨_, (pss_cons (ps_set (i := 5) sc_law_defs.nd rfl (Or.inl rfl) (pe_tup (pa_cons pe_str (pa_cons (pe_tup (pa_cons (pv 3) pa_nil)) (pa_cons (pe_tup (pa_cons (pe_tup (pa_cons pe_str (pa_cons (pe_tup (pa_cons pe_str (pa_cons (pe_tup (pa_cons pe_str (pa_cons (pv 3) pa_nil))) (pa_cons (pe_tup (pa_cons (pe_tup (pa_cons pe_str (pa_cons (pv 1) pa_nil))) (pa_cons (pe_tup (pa_cons pe_str (pa_cons (pv 2) pa_nil))) pa_nil))) pa_nil)))) pa_nil))) pa_nil)) pa_nil)))))
      (pss_cons (ps_set (i := 6) sc_law_defs.nd rfl (Or.inl rfl) (pe_lst (pa_cons (pe_tup (pa_cons pe_str (pa_cons (pe_ix ix_list (pv 0) pe_int (fun _ _ => rfl)) (pa_cons (pe_tup (pa_cons pe_str (pa_cons (pe_tup (pa_cons (pv 1) (pa_cons (pv 2) pa_nil))) (pa_cons (pe_tup (pa_cons (pe_tup (pa_cons pe_str (pa_cons (pv 5) pa_nil))) pa_nil)) pa_nil)))) pa_nil)))) pa_nil)))
      (pss_cons (ps_expr (pe_bm PySem.F.plainAttrs_list PySem.F.slot_list_append PySem.F.type_list_append mt_append (pv 6) (pa_cons (pe_tup (pa_cons pe_str (pa_cons (pe_ix ix_list (pv 0) pe_int (fun _ _ => rfl)) (pa_cons (pe_call G_law_picker (hr.mono (by decide)) rfl T.g_law_picker k_law_picker b_law_picker v_law_picker pass0 (pa_cons (pe_ix ix_list (pv 0) pe_int (fun _ _ => rfl)) (pa_cons (pv 1) (pa_cons (pv 2) (pa_cons (pv 1) pa_nil))))) pa_nil)))) pa_nil)))
      (pss_cons (ps_expr (pe_bm PySem.F.plainAttrs_list PySem.F.slot_list_append PySem.F.type_list_append mt_append (pv 6) (pa_cons (pe_tup (pa_cons pe_str (pa_cons (pe_ix ix_list (pv 0) pe_int (fun _ _ => rfl)) (pa_cons (pe_call G_law_picker (hr.mono (by decide)) rfl T.g_law_picker k_law_picker b_law_picker v_law_picker pass0 (pa_cons (pe_ix ix_list (pv 0) pe_int (fun _ _ => rfl)) (pa_cons (pv 1) (pa_cons (pv 2) (pa_cons (pv 2) pa_nil))))) pa_nil)))) pa_nil)))
      (pss_cons (ps_set (i := 7) sc_law_defs.nd rfl (Or.inl rfl) (pe_tup (pa_cons pe_str (pa_cons (pv 2) (pa_cons (pe_call G_law_called (hr.mono (by decide)) rfl T.g_law_called k_law_called b_law_called v_law_called pass0 (pa_cons (pe_ix ix_list (pv 0) pe_int (fun _ _ => rfl)) (pa_cons (pe_lst (pa_cons (pe_tup (pa_cons pe_str (pa_cons (pv 3) pa_nil))) (pa_cons (pe_tup (pa_cons pe_str (pa_cons (pv 2) pa_nil))) pa_nil))) pa_nil))) pa_nil)))))
      (pss_cons (ps_set (i := 8) sc_law_defs.nd rfl (Or.inl rfl) (pe_tup (pa_cons (pe_tup (pa_cons pe_str (pa_cons (pv 2) (pa_cons (pe_tup (pa_cons pe_str pa_nil)) pa_nil)))) (pa_cons (pe_call G_law_loop (hr.mono (by decide)) rfl T.g_law_loop k_law_loop b_law_loop v_law_loop pass0 (pa_cons (pv 0) (pa_cons (pv 1) (pa_cons (pv 3) (pa_cons (pe_lst (pa_cons (pv 7) pa_nil)) pa_nil))))) (pa_cons (pe_tup (pa_cons pe_str (pa_cons (pe_tup (pa_cons pe_str (pa_cons (pv 2) pa_nil))) pa_nil))) pa_nil)))))
      (pss_cons (ps_expr (pe_bm PySem.F.plainAttrs_list PySem.F.slot_list_append PySem.F.type_list_append mt_append (pv 6) (pa_cons (pe_tup (pa_cons pe_str (pa_cons (pe_ix ix_list (pv 0) pe_int (fun _ _ => rfl)) (pa_cons (pe_tup (pa_cons pe_str (pa_cons (pe_tup (pa_cons (pv 1) pa_nil)) (pa_cons (pv 8) pa_nil)))) pa_nil)))) pa_nil)))
      (pss_cons (ps_set (i := 8) sc_law_defs.nd rfl (Or.inl rfl) (pe_tup (pa_cons (pe_tup (pa_cons pe_str (pa_cons (pe_call G_law_is_none (hr.mono (by decide)) rfl T.g_law_is_none k_law_is_none b_law_is_none v_law_is_none pass0 (pa_cons (pv 1) pa_nil)) (pa_cons (pe_tup (pa_cons (pe_tup (pa_cons pe_str (pa_cons (pe_tup (pa_cons pe_str (pa_cons (pv 2) pa_nil))) pa_nil))) pa_nil)) (pa_cons (pe_tup pa_nil) pa_nil))))) pa_nil)))
      (pss_cons (ps_set (i := 8) sc_law_defs.nd rfl (Or.inl rfl) (pe_op op_catA (pv 8) (pe_tup (pa_cons (pe_tup (pa_cons pe_str (pa_cons (pv 3) (pa_cons (pe_call G_law_called (hr.mono (by decide)) rfl T.g_law_called k_law_called b_law_called v_law_called pass0 (pa_cons (pe_ix ix_list (pv 0) pe_int (fun _ _ => rfl)) (pa_cons (pe_lst (pa_cons (pe_tup (pa_cons pe_str (pa_cons (pv 1) pa_nil))) pa_nil)) pa_nil))) pa_nil)))) pa_nil))))
      (pss_cons (ps_set (i := 8) sc_law_defs.nd rfl (Or.inl rfl) (pe_op op_catA (pv 8) (pe_tup (pa_cons (pe_tup (pa_cons pe_str (pa_cons (pv 1) (pa_cons (pe_call G_law_called (hr.mono (by decide)) rfl T.g_law_called k_law_called b_law_called v_law_called pass0 (pa_cons (pe_ix ix_list (pv 0) pe_int (fun _ _ => rfl)) (pa_cons (pe_lst (pa_cons (pe_tup (pa_cons pe_str (pa_cons (pv 1) pa_nil))) pa_nil)) pa_nil))) pa_nil)))) pa_nil))))
      (pss_cons (ps_set (i := 8) sc_law_defs.nd rfl (Or.inl rfl) (pe_op op_catA (pv 8) (pe_tup (pa_cons (pe_tup (pa_cons pe_str (pa_cons (pv 2) (pa_cons (pe_call G_law_called (hr.mono (by decide)) rfl T.g_law_called k_law_called b_law_called v_law_called pass0 (pa_cons (pe_ix ix_list (pv 0) pe_int (fun _ _ => rfl)) (pa_cons (pe_lst (pa_cons (pe_tup (pa_cons pe_str (pa_cons (pv 1) pa_nil))) (pa_cons (pe_tup (pa_cons pe_str (pa_cons (pv 2) pa_nil))) pa_nil))) pa_nil))) pa_nil)))) pa_nil))))
      (pss_cons (ps_set (i := 8) sc_law_defs.nd rfl (Or.inl rfl) (pe_op op_catA (pv 8) (pe_tup (pa_cons (pe_tup (pa_cons pe_str (pa_cons (pe_call G_law_called (hr.mono (by decide)) rfl T.g_law_called k_law_called b_law_called v_law_called pass0 (pa_cons (pe_ix ix_list (pv 0) pe_int (fun _ _ => rfl)) (pa_cons (pe_lst (pa_cons (pe_tup (pa_cons pe_str (pa_cons (pv 3) pa_nil))) (pa_cons (pe_tup (pa_cons pe_str (pa_cons (pv 2) pa_nil))) pa_nil))) pa_nil))) pa_nil))) pa_nil))))
      (pss_cons (ps_expr (pe_bm PySem.F.plainAttrs_list PySem.F.slot_list_append PySem.F.type_list_append mt_append (pv 6) (pa_cons (pe_tup (pa_cons pe_str (pa_cons (pe_ix ix_list (pv 0) pe_int (fun _ _ => rfl)) (pa_cons (pe_tup (pa_cons pe_str (pa_cons (pe_tup (pa_cons (pv 1) (pa_cons (pv 2) pa_nil))) (pa_cons (pv 8) pa_nil)))) pa_nil)))) pa_nil)))
      (pss_cons (ps_set (i := 9) sc_law_defs.nd rfl (Or.inl rfl) (pe_tup (pa_cons pe_str (pa_cons (pe_tup (pa_cons pe_str (pa_cons (pe_tup (pa_cons pe_str (pa_cons (pv 3) pa_nil))) (pa_cons (pe_tup (pa_cons pe_str (pa_cons (pv 2) pa_nil))) pa_nil)))) (pa_cons (pe_tup (pa_cons (pe_tup (pa_cons pe_str (pa_cons (pe_tup (pa_cons pe_str (pa_cons (pe_ix ix_list (pv 4) pe_int (fun _ _ => rfl)) pa_nil))) pa_nil))) pa_nil)) (pa_cons (pe_tup pa_nil) pa_nil))))))
      (pss_cons (ps_set (i := 8) sc_law_defs.nd rfl (Or.inl rfl) (pe_tup (pa_cons (pe_call G_law_loop (hr.mono (by decide)) rfl T.g_law_loop k_law_loop b_law_loop v_law_loop pass0 (pa_cons (pv 0) (pa_cons (pv 1) (pa_cons (pv 3) (pa_cons (pe_lst (pa_cons (pv 9) pa_nil)) pa_nil))))) (pa_cons (pe_tup (pa_cons pe_str (pa_cons (pe_tup (pa_cons pe_str (pa_cons (pe_ix ix_list (pv 4) pe_int (fun _ _ => rfl)) pa_nil))) pa_nil))) pa_nil))))
      (pss_cons (ps_set (i := 8) sc_law_defs.nd rfl (Or.inl rfl) (pe_tup (pa_cons (pe_tup (pa_cons pe_str (pa_cons (pv 8) (pa_cons (pv 3) (pa_cons (pe_tup (pa_cons (pe_tup (pa_cons pe_str (pa_cons (pe_tup (pa_cons pe_str (pa_cons (pv 3) pa_nil))) pa_nil))) pa_nil)) pa_nil))))) pa_nil)))
      (pss_cons (ps_expr (pe_bm PySem.F.plainAttrs_list PySem.F.slot_list_append PySem.F.type_list_append mt_append (pv 6) (pa_cons (pe_tup (pa_cons pe_str (pa_cons (pe_ix ix_list (pv 0) pe_int (fun _ _ => rfl)) (pa_cons (pe_tup (pa_cons pe_str (pa_cons (pe_tup (pa_cons (pv 1) (pa_cons (pv 2) pa_nil))) (pa_cons (pv 8) pa_nil)))) pa_nil)))) pa_nil)))
      (pss_one (ps_ret (pv 6)))))))))))))))))))), ?_⟩
  have Z0 := Same.refl H
  change tSeq _ _ _ [some (.ref dl), some (.str (nm 9)), some (.str (nm 10)), some (.str (nm 11)), some (.ref wl), none, none, none, none, none] H
  refine asg_mk (mk_tup (mkA_cons mk_str (mkA_cons (mk_tup (mkA_cons (mk_var rfl .mkS) mkA_nil) (by show 1 ≤ sizeLine; decide)) (mkA_cons (mk_tup (mkA_cons (mk_tup (mkA_cons mk_str (mkA_cons (mk_tup (mkA_cons mk_str (mkA_cons (mk_tup (mkA_cons mk_str (mkA_cons (mk_var rfl .mkS) mkA_nil)) (by show 2 ≤ sizeLine; decide)) (mkA_cons (mk_tup (mkA_cons (mk_tup (mkA_cons mk_str (mkA_cons (mk_var rfl .mkS) mkA_nil)) (by show 2 ≤ sizeLine; decide)) (mkA_cons (mk_tup (mkA_cons mk_str (mkA_cons (mk_var rfl .mkS) mkA_nil)) (by show 2 ≤ sizeLine; decide)) mkA_nil)) (by show 2 ≤ sizeLine; decide)) mkA_nil))) (by show 3 ≤ sizeLine; decide)) mkA_nil)) (by show 2 ≤ sizeLine; decide)) mkA_nil) (by show 1 ≤ sizeLine; decide)) mkA_nil))) (by show 3 ≤ sizeLine; decide)) fun H1 v1 S1 a1 => ?_
  have Z1 := Z0.trans S1
  have t1 := tps_of S1
  change tSeq _ _ _ [some (.ref dl), some (.str (nm 9)), some (.str (nm 10)), some (.str (nm 11)), some (.ref wl), some v1, none, none, none, none] H1
  refine asg_lst (mkA_cons (mk_tup (mkA_cons mk_str (mkA_cons (mk_ix rfl (Z1 _ _ hd) rfl) (mkA_cons (mk_tup (mkA_cons mk_str (mkA_cons (mk_tup (mkA_cons (mk_var rfl .mkS) (mkA_cons (mk_var rfl .mkS) mkA_nil)) (by show 2 ≤ sizeLine; decide)) (mkA_cons (mk_tup (mkA_cons (mk_tup (mkA_cons mk_str (mkA_cons (mk_var rfl a1) mkA_nil)) (by show 2 ≤ sizeLine; decide)) mkA_nil) (by show 1 ≤ sizeLine; decide)) mkA_nil))) (by show 3 ≤ sizeLine; decide)) mkA_nil))) (by show 3 ≤ sizeLine; decide)) mkA_nil) (by show 1 ≤ sizeLine; decide) fun H2 rl vs2 S2 h0' hl2 hv2 => ?_
  have h0 := Z1.free h0'
  have Z2 := Z1.trans S2
  have t2 := tps_of S2
  change tSeq _ _ _ [some (.ref dl), some (.str (nm 9)), some (.str (nm 10)), some (.str (nm 11)), some (.ref wl), some v1, some (.ref rl), none, none, none] H2
  refine app_mk rfl (mk_tup (mkA_cons mk_str (mkA_cons (mk_ix rfl (Z2 _ _ hd) rfl) (mkA_cons (mk_picker (mk_ix rfl (Z2 _ _ hd) rfl) (mk_var rfl .mkS) (mk_var rfl .mkS) (mk_var rfl .mkS)) mkA_nil))) (by show 3 ≤ sizeLine; decide)) Z2 h0 hl2 hv2 (by show 1 < sizeLine; decide) fun H3 vs3 Z3 t3 hl3 hv3 => ?_
  change tSeq _ _ _ [some (.ref dl), some (.str (nm 9)), some (.str (nm 10)), some (.str (nm 11)), some (.ref wl), some v1, some (.ref rl), none, none, none] H3
  refine app_mk rfl (mk_tup (mkA_cons mk_str (mkA_cons (mk_ix rfl (Z3 _ _ hd) rfl) (mkA_cons (mk_picker (mk_ix rfl (Z3 _ _ hd) rfl) (mk_var rfl .mkS) (mk_var rfl .mkS) (mk_var rfl .mkS)) mkA_nil))) (by show 3 ≤ sizeLine; decide)) Z3 h0 hl3 hv3 (by show 2 < sizeLine; decide) fun H4 vs4 Z4 t4 hl4 hv4 => ?_
  change tSeq _ _ _ [some (.ref dl), some (.str (nm 9)), some (.str (nm 10)), some (.str (nm 11)), some (.ref wl), some v1, some (.ref rl), none, none, none] H4
  refine asg_mk (mk_tup (mkA_cons mk_str (mkA_cons (mk_var rfl .mkS) (mkA_cons (mk_called (mk_ix rfl (Z4 _ _ hd) rfl) (mk_lst (mkA_cons (mk_tup (mkA_cons mk_str (mkA_cons (mk_var rfl .mkS) mkA_nil)) (by show 2 ≤ sizeLine; decide)) (mkA_cons (mk_tup (mkA_cons mk_str (mkA_cons (mk_var rfl .mkS) mkA_nil)) (by show 2 ≤ sizeLine; decide)) mkA_nil)) (by show 2 ≤ sizeLine; decide))) mkA_nil))) (by show 3 ≤ sizeLine; decide)) fun H5 v5 S5 a5 => ?_
  have Z5 := Z4.trans S5
  have t5 := tps_of S5
  have hl5 := S5 _ _ hl4
  have hv5 := Ats.same t5 _ _ hv4
  change tSeq _ _ _ [some (.ref dl), some (.str (nm 9)), some (.str (nm 10)), some (.str (nm 11)), some (.ref wl), some v1, some (.ref rl), some v5, none, none] H5
  refine asg_mk (mk_tup (mkA_cons (mk_tup (mkA_cons mk_str (mkA_cons (mk_var rfl .mkS) (mkA_cons (mk_tup (mkA_cons mk_str mkA_nil) (by show 1 ≤ sizeLine; decide)) mkA_nil))) (by show 3 ≤ sizeLine; decide)) (mkA_cons (mk_loop rfl (Z5 _ _ hd) rfl rfl (mk_var rfl .mkS) (mk_var rfl .mkS) (mk_lst (mkA_cons (mk_var rfl a5) mkA_nil) (by show 1 ≤ sizeLine; decide)) (by simp)) (mkA_cons (mk_tup (mkA_cons mk_str (mkA_cons (mk_tup (mkA_cons mk_str (mkA_cons (mk_var rfl .mkS) mkA_nil)) (by show 2 ≤ sizeLine; decide)) mkA_nil)) (by show 2 ≤ sizeLine; decide)) mkA_nil))) (by show 3 ≤ sizeLine; decide)) fun H6 v6 S6 a6 => ?_
  have Z6 := Z5.trans S6
  have t6 := tps_of S6
  have hl6 := S6 _ _ hl5
  have hv6 := Ats.same t6 _ _ hv5
  change tSeq _ _ _ [some (.ref dl), some (.str (nm 9)), some (.str (nm 10)), some (.str (nm 11)), some (.ref wl), some v1, some (.ref rl), some v5, some v6, none] H6
  refine app_mk rfl (mk_tup (mkA_cons mk_str (mkA_cons (mk_ix rfl (Z6 _ _ hd) rfl) (mkA_cons (mk_tup (mkA_cons mk_str (mkA_cons (mk_tup (mkA_cons (mk_var rfl .mkS) mkA_nil) (by show 1 ≤ sizeLine; decide)) (mkA_cons (mk_var rfl a6) mkA_nil))) (by show 3 ≤ sizeLine; decide)) mkA_nil))) (by show 3 ≤ sizeLine; decide)) Z6 h0 hl6 hv6 (by show 3 < sizeLine; decide) fun H7 vs7 Z7 t7 hl7 hv7 => ?_
  change tSeq _ _ _ [some (.ref dl), some (.str (nm 9)), some (.str (nm 10)), some (.str (nm 11)), some (.ref wl), some v1, some (.ref rl), some v5, some v6, none] H7
  refine asg_mk (mk_tup (mkA_cons (mk_tup (mkA_cons mk_str (mkA_cons (mk_isNone (mk_var rfl .mkS)) (mkA_cons (mk_tup (mkA_cons (mk_tup (mkA_cons mk_str (mkA_cons (mk_tup (mkA_cons mk_str (mkA_cons (mk_var rfl .mkS) mkA_nil)) (by show 2 ≤ sizeLine; decide)) mkA_nil)) (by show 2 ≤ sizeLine; decide)) mkA_nil) (by show 1 ≤ sizeLine; decide)) (mkA_cons (mk_tup mkA_nil (by show 0 ≤ sizeLine; decide)) mkA_nil)))) (by show 4 ≤ sizeLine; decide)) mkA_nil) (by show 1 ≤ sizeLine; decide)) fun H8 v8 S8 a8 => ?_
  have Z8 := Z7.trans S8
  have t8 := tps_of S8
  have hl8 := S8 _ _ hl7
  have hv8 := Ats.same t8 _ _ hv7
  change tSeq _ _ _ [some (.ref dl), some (.str (nm 9)), some (.str (nm 10)), some (.str (nm 11)), some (.ref wl), some v1, some (.ref rl), some v5, some v8, none] H8
  refine asg_mk (mk_cat (mk_var rfl a8) (mk_tup (mkA_cons (mk_tup (mkA_cons mk_str (mkA_cons (mk_var rfl .mkS) (mkA_cons (mk_called (mk_ix rfl (Z8 _ _ hd) rfl) (mk_lst (mkA_cons (mk_tup (mkA_cons mk_str (mkA_cons (mk_var rfl .mkS) mkA_nil)) (by show 2 ≤ sizeLine; decide)) mkA_nil) (by show 1 ≤ sizeLine; decide))) mkA_nil))) (by show 3 ≤ sizeLine; decide)) mkA_nil) (by show 1 ≤ sizeLine; decide)) (by simp; decide)) fun H9 v9 S9 a9 => ?_
  have Z9 := Z8.trans S9
  have t9 := tps_of S9
  have hl9 := S9 _ _ hl8
  have hv9 := Ats.same t9 _ _ hv8
  change tSeq _ _ _ [some (.ref dl), some (.str (nm 9)), some (.str (nm 10)), some (.str (nm 11)), some (.ref wl), some v1, some (.ref rl), some v5, some v9, none] H9
  refine asg_mk (mk_cat (mk_var rfl a9) (mk_tup (mkA_cons (mk_tup (mkA_cons mk_str (mkA_cons (mk_var rfl .mkS) (mkA_cons (mk_called (mk_ix rfl (Z9 _ _ hd) rfl) (mk_lst (mkA_cons (mk_tup (mkA_cons mk_str (mkA_cons (mk_var rfl .mkS) mkA_nil)) (by show 2 ≤ sizeLine; decide)) mkA_nil) (by show 1 ≤ sizeLine; decide))) mkA_nil))) (by show 3 ≤ sizeLine; decide)) mkA_nil) (by show 1 ≤ sizeLine; decide)) (by simp; decide)) fun H10 v10 S10 a10 => ?_
  have Z10 := Z9.trans S10
  have t10 := tps_of S10
  have hl10 := S10 _ _ hl9
  have hv10 := Ats.same t10 _ _ hv9
  change tSeq _ _ _ [some (.ref dl), some (.str (nm 9)), some (.str (nm 10)), some (.str (nm 11)), some (.ref wl), some v1, some (.ref rl), some v5, some v10, none] H10
  refine asg_mk (mk_cat (mk_var rfl a10) (mk_tup (mkA_cons (mk_tup (mkA_cons mk_str (mkA_cons (mk_var rfl .mkS) (mkA_cons (mk_called (mk_ix rfl (Z10 _ _ hd) rfl) (mk_lst (mkA_cons (mk_tup (mkA_cons mk_str (mkA_cons (mk_var rfl .mkS) mkA_nil)) (by show 2 ≤ sizeLine; decide)) (mkA_cons (mk_tup (mkA_cons mk_str (mkA_cons (mk_var rfl .mkS) mkA_nil)) (by show 2 ≤ sizeLine; decide)) mkA_nil)) (by show 2 ≤ sizeLine; decide))) mkA_nil))) (by show 3 ≤ sizeLine; decide)) mkA_nil) (by show 1 ≤ sizeLine; decide)) (by simp; decide)) fun H11 v11 S11 a11 => ?_
  have Z11 := Z10.trans S11
  have t11 := tps_of S11
  have hl11 := S11 _ _ hl10
  have hv11 := Ats.same t11 _ _ hv10
  change tSeq _ _ _ [some (.ref dl), some (.str (nm 9)), some (.str (nm 10)), some (.str (nm 11)), some (.ref wl), some v1, some (.ref rl), some v5, some v11, none] H11
  refine asg_mk (mk_cat (mk_var rfl a11) (mk_tup (mkA_cons (mk_tup (mkA_cons mk_str (mkA_cons (mk_called (mk_ix rfl (Z11 _ _ hd) rfl) (mk_lst (mkA_cons (mk_tup (mkA_cons mk_str (mkA_cons (mk_var rfl .mkS) mkA_nil)) (by show 2 ≤ sizeLine; decide)) (mkA_cons (mk_tup (mkA_cons mk_str (mkA_cons (mk_var rfl .mkS) mkA_nil)) (by show 2 ≤ sizeLine; decide)) mkA_nil)) (by show 2 ≤ sizeLine; decide))) mkA_nil)) (by show 2 ≤ sizeLine; decide)) mkA_nil) (by show 1 ≤ sizeLine; decide)) (by simp; decide)) fun H12 v12 S12 a12 => ?_
  have Z12 := Z11.trans S12
  have t12 := tps_of S12
  have hl12 := S12 _ _ hl11
  have hv12 := Ats.same t12 _ _ hv11
  change tSeq _ _ _ [some (.ref dl), some (.str (nm 9)), some (.str (nm 10)), some (.str (nm 11)), some (.ref wl), some v1, some (.ref rl), some v5, some v12, none] H12
  refine app_mk rfl (mk_tup (mkA_cons mk_str (mkA_cons (mk_ix rfl (Z12 _ _ hd) rfl) (mkA_cons (mk_tup (mkA_cons mk_str (mkA_cons (mk_tup (mkA_cons (mk_var rfl .mkS) (mkA_cons (mk_var rfl .mkS) mkA_nil)) (by show 2 ≤ sizeLine; decide)) (mkA_cons (mk_var rfl a12) mkA_nil))) (by show 3 ≤ sizeLine; decide)) mkA_nil))) (by show 3 ≤ sizeLine; decide)) Z12 h0 hl12 hv12 (by show 4 < sizeLine; decide) fun H13 vs13 Z13 t13 hl13 hv13 => ?_
  change tSeq _ _ _ [some (.ref dl), some (.str (nm 9)), some (.str (nm 10)), some (.str (nm 11)), some (.ref wl), some v1, some (.ref rl), some v5, some v12, none] H13
  refine asg_mk (mk_tup (mkA_cons mk_str (mkA_cons (mk_tup (mkA_cons mk_str (mkA_cons (mk_tup (mkA_cons mk_str (mkA_cons (mk_var rfl .mkS) mkA_nil)) (by show 2 ≤ sizeLine; decide)) (mkA_cons (mk_tup (mkA_cons mk_str (mkA_cons (mk_var rfl .mkS) mkA_nil)) (by show 2 ≤ sizeLine; decide)) mkA_nil))) (by show 3 ≤ sizeLine; decide)) (mkA_cons (mk_tup (mkA_cons (mk_tup (mkA_cons mk_str (mkA_cons (mk_tup (mkA_cons mk_str (mkA_cons (mk_ix rfl (Z13 _ _ hw) hw0) mkA_nil)) (by show 2 ≤ sizeLine; decide)) mkA_nil)) (by show 2 ≤ sizeLine; decide)) mkA_nil) (by show 1 ≤ sizeLine; decide)) (mkA_cons (mk_tup mkA_nil (by show 0 ≤ sizeLine; decide)) mkA_nil)))) (by show 4 ≤ sizeLine; decide)) fun H14 v14 S14 a14 => ?_
  have Z14 := Z13.trans S14
  have t14 := tps_of S14
  have hl14 := S14 _ _ hl13
  have hv14 := Ats.same t14 _ _ hv13
  change tSeq _ _ _ [some (.ref dl), some (.str (nm 9)), some (.str (nm 10)), some (.str (nm 11)), some (.ref wl), some v1, some (.ref rl), some v5, some v12, some v14] H14
  refine asg_mk (mk_tup (mkA_cons (mk_loop rfl (Z14 _ _ hd) rfl rfl (mk_var rfl .mkS) (mk_var rfl .mkS) (mk_lst (mkA_cons (mk_var rfl a14) mkA_nil) (by show 1 ≤ sizeLine; decide)) (by simp)) (mkA_cons (mk_tup (mkA_cons mk_str (mkA_cons (mk_tup (mkA_cons mk_str (mkA_cons (mk_ix rfl (Z14 _ _ hw) hw1) mkA_nil)) (by show 2 ≤ sizeLine; decide)) mkA_nil)) (by show 2 ≤ sizeLine; decide)) mkA_nil)) (by show 2 ≤ sizeLine; decide)) fun H15 v15 S15 a15 => ?_
  have Z15 := Z14.trans S15
  have t15 := tps_of S15
  have hl15 := S15 _ _ hl14
  have hv15 := Ats.same t15 _ _ hv14
  change tSeq _ _ _ [some (.ref dl), some (.str (nm 9)), some (.str (nm 10)), some (.str (nm 11)), some (.ref wl), some v1, some (.ref rl), some v5, some v15, some v14] H15
  refine asg_mk (mk_tup (mkA_cons (mk_tup (mkA_cons mk_str (mkA_cons (mk_var rfl a15) (mkA_cons (mk_var rfl .mkS) (mkA_cons (mk_tup (mkA_cons (mk_tup (mkA_cons mk_str (mkA_cons (mk_tup (mkA_cons mk_str (mkA_cons (mk_var rfl .mkS) mkA_nil)) (by show 2 ≤ sizeLine; decide)) mkA_nil)) (by show 2 ≤ sizeLine; decide)) mkA_nil) (by show 1 ≤ sizeLine; decide)) mkA_nil)))) (by show 4 ≤ sizeLine; decide)) mkA_nil) (by show 1 ≤ sizeLine; decide)) fun H16 v16 S16 a16 => ?_
  have Z16 := Z15.trans S16
  have t16 := tps_of S16
  have hl16 := S16 _ _ hl15
  have hv16 := Ats.same t16 _ _ hv15
  change tSeq _ _ _ [some (.ref dl), some (.str (nm 9)), some (.str (nm 10)), some (.str (nm 11)), some (.ref wl), some v1, some (.ref rl), some v5, some v16, some v14] H16
  refine app_mk rfl (mk_tup (mkA_cons mk_str (mkA_cons (mk_ix rfl (Z16 _ _ hd) rfl) (mkA_cons (mk_tup (mkA_cons mk_str (mkA_cons (mk_tup (mkA_cons (mk_var rfl .mkS) (mkA_cons (mk_var rfl .mkS) mkA_nil)) (by show 2 ≤ sizeLine; decide)) (mkA_cons (mk_var rfl a16) mkA_nil))) (by show 3 ≤ sizeLine; decide)) mkA_nil))) (by show 3 ≤ sizeLine; decide)) Z16 h0 hl16 hv16 (by show 5 < sizeLine; decide) fun H17 vs17 Z17 t17 hl17 hv17 => ?_
  refine ⟨_, rfl, k H17 rl _ Z17 h0 hl17 ?_⟩
  have e : eSms nm (defsOf wd) = _ := (by simp only [defsOf, eSms, defSm, defPs, fnBody, cellBody, pickBody, pick, turnBody, joinBody, lookBody, loopS, callE, isNon, eSm, eRt, eEx, eExs, eTe, List.map_cons, List.map_nil, List.cons_append, List.nil_append]; rfl)
  rw [e]
  exact hv17
end
end K38
end
section
/-! K38N: t[::-1] of a tuple. -/
namespace K38
open PySem PySem.Spec PyProof.Rows L2 HT
theorem rev_places (n : Nat) : Builtin.Slice.slicePlaces ((n : Int) - 1) (-1) (-1) = n := by
  unfold Builtin.Slice.slicePlaces
  rw [if_neg (by decide)]
  by_cases h : (n : Int) - 1 > -1
  · rw [if_pos h, show (- -1 : Int) = 1 by decide, Int.ediv_one]
    omega
  · rw [if_neg h]
    omega
theorem rev_pick (xs : Array Value) : ((List.range xs.size).filterMap fun (m : Nat) => xs[((xs.size : Int) - 1 + (m : Int) * (-1)).toNat]?).toArray = xs.toList.reverse.toArray := by
  have k := PySem.W.krv_pick xs
  unfold slicePick at k
  rw [PySem.W.krv_bounds] at k
  have k2 : ((sliceRange ((xs.size : Int) - 1) (-1) (-1)).filterMap (xs[·]?)).toArray = xs.toList.reverse.toArray := k
  rw [PySem.W.krv_sliceRange, List.filterMap_map] at k2
  rw [← k2]
  congr 2
  funext m
  show xs[((xs.size : Int) - 1 + (m : Int) * (-1)).toNat]? = xs[xs.size - 1 - m]?
  rw [show ((xs.size : Int) - 1 + (m : Int) * (-1)).toNat = xs.size - 1 - m by omega]
section
variable {prog : Program} {w : World} {A : Around} {E : Value → Shared → Prop} {s : Shared}
theorem applied_rev {sl : Addr} {vl vu vs : Value} {n : Nat} {Q : Int × Int × Nat → Shared → Prop} (hs : s.heap.IsSliceOf sl vl vu vs) (pl : IsPart vl none) (pu : IsPart vu none) (ps : IsPart vs (some (-1)))
    (h : Q ((n : Int) - 1, -1, n) s) : wpAny (model prog w) A (Builtin.Slice.sliceApplied (.ref sl) (pure (n : Int))) Q E s := by
  obtain ⟨z, z1, z2, z3⟩ := id hs
  unfold Builtin.Slice.sliceApplied Builtin.Slice.sliceFields
  refine wpAny_bind (wpAny_bind (wpAny_field z1 z3 (x := vl) rfl (wpAny_bind (wpAny_field z1 z3 (x := vu) rfl (wpAny_bind (wpAny_field z1 z3 (x := vs) rfl (wpAny_pure ?_)))))))
  refine wpAny_bind (HT.slicePart_ ps ?_)
  show wpAny _ _ (if ((-1 : Int) == 0) = true then _ else _) _ _ s
  rw [if_neg (show ¬ ((-1 : Int) == 0) = true by decide)]
  refine wpAny_bind (HT.slicePart_ pl (wpAny_bind (HT.slicePart_ pu (wpAny_bind (wpAny_pure ?_)))))
  show wpAny _ _ (pure ((n : Int) - 1, (-1 : Int), Builtin.Slice.slicePlaces ((n : Int) - 1) (-1) (-1))) _ _ s
  rw [rev_places]
  exact wpAny_pure h
theorem item_rev {t sl : Addr} {items : Array Value} {vl vu vs : Value} {Q : Value → Shared → Prop} (ht : IsTup s.heap t items) (hs : s.heap.IsSliceOf sl vl vu vs) (pl : IsPart vl none) (pu : IsPart vu none) (ps : IsPart vs (some (-1)))
    (h : Q (.ref s.heap.objs.size) { s with heap := s.heap.push { cls := .type "tuple", data := .seq items.toList.reverse.toArray } }) (hsz : items.size ≤ sizeLine) : wpAny (model prog w) A (getItem (.ref t) (.ref sl)) Q E s := by
  have fit : sizeOk (.seq items.toList.reverse.toArray) := by
    show items.toList.reverse.toArray.size ≤ sizeLine
    rw [List.size_toArray, List.length_reverse, Array.length_toList]; exact hsz
  obtain ⟨z, z1, z2, z3⟩ := id hs
  have hT : s.TypeIs (.ref sl) "slice" := ⟨z, z1, z2⟩
  unfold getItem
  try with_reducible refine wpAny_holding ?_
  first | refine wpAny_bind (wpAny_pure ?_) | skip
  refine wpAny_bind (wpAny_sequenceKey ht.typeIs (by decide) (wpAny_bind (wpAny_callSpecial?_slot (name := Str.ofString "__getitem__") ht.typeIs slot_tuple_getitem (wpAny_call_entry slot_tuple_getitem ht.typeIs entry_tuple_getitem ?_ (args_tuple_getitem _ _)))))
  show wpAny _ _ (Builtin.Tuple.tupleItemsOf (.ref t) >>= _) _ _ s
  refine wpAny_bind (tupleItemsOf_ ht (wpAny_bind (wpAny_typeOf hT ?_)))
  rw [if_pos (show (Value.type "slice" == Value.type "slice") = true by decide)]
  refine wpAny_bind (applied_rev hs pl pu ps ?_)
  show wpAny _ _ (if ((((items.size : Nat) : Int) - 1 == 0 && (-1 : Int) == 1) && items.size == items.size) = true then _ else _) _ _ s
  rw [if_neg (by simp), rev_pick]
  first
    | exact wpAny_bind (m := Builtin.Tuple.tupleExact _) (wpAny_newObj_type (wpAny_pure ⟨_, rfl, wpAny_pure h⟩) fit)
    | exact wpAny_bind (m := Builtin.Tuple.tupleExact _) (wpAny_newObj_type (wpAny_bind (wpAny_pure (wpAny_pure ⟨_, rfl, wpAny_pure h⟩))) fit)
    | exact wpAny_bind (wpAny_bind (m := Builtin.Tuple.tupleExact _) (wpAny_newObj_type (wpAny_pure (wpAny_pure ⟨_, rfl, wpAny_pure h⟩)) fit))
    | exact wpAny_bind (wpAny_bind (m := Builtin.Tuple.tupleExact _) (wpAny_newObj_type (wpAny_pure ⟨_, rfl, wpAny_pure h⟩) fit))
end
def tRevT (K : PySem.W.Frag) (te : TE) : TE := fun σ H Q => te σ H fun v H1 => ∃ a xs, v = .ref a ∧ SqT K H1 a xs ∧ ∀ p, H1 p = none → Q (.ref p) (upd H1 p (.tup xs.reverse))
theorem pe_revT {X : Cx} {e : Expr} {te : TE} {n1 : Nat} {a1 a2 a3 a4 : Pos} (he : PE X e te) :
    PE X (.Subscript e (.Slice none none (some (.UnaryOp .USub (.Constant (.int 1) n1 a1) a2)) a3) a4) (tRevT X.K te) := by
  constructor
  intro pins s σ H Q I h
  refine Subscript_ (thn (he.run pins s σ H _ I h) fun v s1 z => ?_)
  obtain ⟨x, H1, I1, r1, a, xs, ex, hx, q⟩ := z
  subst ex
  cases r1
  have hst : PO X (some (.UnaryOp .USub (.Constant (.int 1) n1 a1) a2)) _ := po_some (pe_un un_neg pe_int)
  refine wpAny_Slice (thn (po_none.run pins s1 σ H1 (fun o H2 => o = none ∧ H2 = H1) I1 ⟨rfl, rfl⟩) fun vl s2 z2 => ?_)
  obtain ⟨l, H2, I2, pl, el, e2⟩ := z2
  subst el e2
  refine thn (po_none.run pins s2 σ H2 (fun o H3 => o = none ∧ H3 = H2) I2 ⟨rfl, rfl⟩) fun vu s3 z3 => ?_
  obtain ⟨u, H3, I3, pu, eu, e3⟩ := z3
  subst eu e3
  refine thn (hst.run pins s3 σ H3 (fun o H4 => o = some (-1) ∧ H4 = H3) I3 ⟨1, rfl, -1, rfl, rfl, rfl⟩) fun vs s4 z4 => ?_
  obtain ⟨o, H4, I4, ps, eo, e4⟩ := z4
  subst eo e4
  have I5 : Inv X pins σ H4 { s4 with heap := s4.heap.push { cls := .type "slice", data := .fields #[vl, vu, vs] } } := I4.kept (t' := s4.toks) fun _ _ y => Heap.get?_push_of_some _ y
  obtain ⟨its, r, ht, hz⟩ := I5.tuple hx
  have hlen := r.length
  show wpAny (model X.prog X.w) X.A (subscriptTail e (.Slice none none (some (.UnaryOp .USub (.Constant (.int 1) n1 a1) a2)) a3) (.ref a) (.ref s4.heap.objs.size)) (EP X pins σ Q) X.xe { s4 with heap := s4.heap.push { cls := .type "slice", data := .fields #[vl, vu, vs] } }
  refine tail_any (ops := [.ref a, .ref s4.heap.objs.size]) ht.typeIs (slot_tuple_getitem.lookup) (item_rev ht (Heap.IsSliceOf.new _ vl vu vs) pl pu ps ?_ (by rw [List.size_toArray]; omega)) (by with_unfolding_all rfl)
  refine ⟨.ref _, _, I5.laid (t' := s4.toks) (o := .tup xs.reverse) (fun _ _ y => Heap.get?_push_of_some _ y) (Nat.le_refl _) ⟨by rw [List.length_reverse]; exact hz, _, r.reverse, ?_⟩, rfl, q _ (I5.hok.fresh (Nat.le_refl _))⟩
  exact IsTup.new _ _
end K38
end
section
/-! K38L5: text, look. -/
namespace K38
open PySem PySem.Spec PyProof.Rows L2
mutual
def toT : Th → T
  | .w x => .s x
  | .l xs => .t (toTs xs)
def toTs : List Th → List T
  | [] => []
  | x :: xs => toT x :: toTs xs
end
theorem toTs_len : ∀ {xs : List Th}, (toTs xs).length = xs.length
  | [] => by simp [toTs]
  | x :: xs => by simp only [toTs, List.length_cons, toTs_len]
theorem toTs_get : ∀ {xs : List Th} {i : Nat}, (toTs xs)[i]? = (xs[i]?).map toT
  | [], i => by simp [toTs]
  | x :: xs, 0 => by simp [toTs]
  | x :: xs, i + 1 => by simp only [toTs, List.getElem?_cons_succ, toTs_get]
theorem toTs_app : ∀ {xs ys : List Th}, toTs (xs ++ ys) = toTs xs ++ toTs ys
  | [], ys => by simp [toTs]
  | x :: xs, ys => by simp only [List.cons_append, toTs, toTs_app]
abbrev tLs (xs : List Th) : T := .t (toTs xs)
section
variable {P : Program} {w : World} {K : PySem.W.Frag} {mg : Str → Option Value} {base : Heap} {nm : Nm → Str} {H H' H'' H0 : Hp} {σ : L2.St} {te ta tb tc td tl : TE} {tr : TA} {Xs : List T} {wd : Nat → Str} {s : Ls}
/-! ### values that stand -/
def Ev1 (t : TE) (σ : L2.St) (H : Hp) (v : V) : Prop := ∀ H1, Same H H1 → ∀ Q : VK, Q v H1 → t σ H1 Q
theorem ev_var {i : Nat} {v : V} (h : σ[i]? = some (some v)) : Ev1 (tVar i) σ H v := fun H1 S Q q => ⟨v, h, q⟩
theorem ev_c {v : V} : Ev1 (tC v) σ H v := fun H1 S Q q => q
theorem ev_dget {i : Nat} {a : Addr} {key : Str} {kvs : List (Key × V)} {v : V} (h : σ[i]? = some (some (.ref a))) (hw : H a = some (.dK kvs)) (e : valV kvs (.inr key) = some v) : Ev1 (tDGet (tVar i) (tC (.str key))) σ H v := fun H1 S Q q =>
  ⟨_, h, a, v, rfl, by rw [← e]; exact DGet.k (k := Sum.inr key) (S _ _ hw), q⟩
theorem ev_ixL {l : Addr} {xs : List V} {i : Int} {v : V} (a : Ev1 ta σ H (.ref l)) (b : Ev1 tb σ H (.int i)) (hl : H l = some (.lst xs)) (e : atI xs i = some v) : Ev1 (tOp (rIxL K) ta tb) σ H v := fun H1 S Q q =>
  a H1 S _ (b H1 S _ ⟨l, xs, i, v, rfl, rfl, SqL.of (S _ _ hl), e, q⟩)
theorem ev_ixT {l : Addr} {xs : List V} {i : Int} {v : V} (a : Ev1 ta σ H (.ref l)) (b : Ev1 tb σ H (.int i)) (hl : H l = some (.tup xs)) (e : atI xs i = some v) : Ev1 (tOp (rIxT K) ta tb) σ H v := fun H1 S Q q =>
  a H1 S _ (b H1 S _ ⟨l, xs, i, v, rfl, rfl, SqT.of (S _ _ hl), e, q⟩)
theorem mk_ev {x : Str} (a : Ev1 te σ H (.str x)) : Mk te σ H (.s x) := fun H1 S Q k => a H1 S _ (k H1 _ (.refl H1) .mkS)
theorem asg_ev {D : Ends} {i : Nat} {u : TS} {v : V} (a : Ev1 te σ H v) (k : u D (σ.set i (some v)) H) : tSeq (tAsg te (gName i)) u D σ H := a H (.refl H) _ k
/-! ### the law's world -/
structure Wo (nm : Nm → Str) (H : Hp) (wo wl dl nl ll : Addr) (wd : Nat → Str) (s : Ls) : Prop where
  hwo : H wo = some (.dK [(.inr "words", .ref wl), (.inr "defs", .ref dl), (.inr "names", .ref nl), (.inr "lists", .ref ll), (.inr "one", .str (nm 9)), (.inr "more", .str (nm 11))])
  hwl : H wl = some (.lst ([wd 0, wd 1, wd 2, wd 3].map V.str))
  hdl : H dl = some (.lst ((dNames nm).map V.str))
  hnl : H nl = some (.lst ([nm 6, nm 7, nm 8].map V.str))
  hll : ∃ ts, H ll = some (.lst ts) ∧ ts.length = 3 ∧ ∀ j, j < 3 → ∃ v, ts[j]? = some v ∧ At H (tLs (s j)) v
theorem Wo.same {wo wl dl nl ll : Addr} (q : Wo nm H wo wl dl nl ll wd s) (S : Same H H') : Wo nm H' wo wl dl nl ll wd s := by
  obtain ⟨ts, h1, h2, h3⟩ := q.hll
  exact ⟨S _ _ q.hwo, S _ _ q.hwl, S _ _ q.hdl, S _ _ q.hnl, ts, S _ _ h1, h2, fun j hj => (by obtain ⟨v, e1, e2⟩ := h3 j hj; exact ⟨v, e1, At.same (tps_of S) _ _ e2⟩)⟩
theorem But.tps {li : Addr} {xs : List V} (b : But li H H') (h : H li = some (.lst xs)) : Tps H H' := fun a vs e => b a _ (fun z => by rw [z, h] at e; cases e) e
structure Off (li wl dl nl ll : Addr) : Prop where
  wl : wl ≠ li
  dl : dl ≠ li
  nl : nl ≠ li
  ll : ll ≠ li
theorem Wo.but {wo wl dl nl ll li : Addr} {xs : List V} (q : Wo nm H wo wl dl nl ll wd s) (b : But li H H') (h : H li = some (.lst xs)) (o : Off li wl dl nl ll) : Wo nm H' wo wl dl nl ll wd s := by
  obtain ⟨ts, h1, h2, h3⟩ := q.hll
  exact ⟨b _ _ (fun z => by have e := q.hwo; rw [z, h] at e; cases e) q.hwo, b _ _ o.wl q.hwl, b _ _ o.dl q.hdl, b _ _ o.nl q.hnl, ts, b _ _ o.ll h1, h2, fun j hj => (by obtain ⟨v, e1, e2⟩ := h3 j hj; exact ⟨v, e1, At.same (b.tps h) _ _ e2⟩)⟩
theorem wd_at {j : Nat} (h : j < 4) : atI ([wd 0, wd 1, wd 2, wd 3].map V.str) (j : Int) = some (.str (wd j)) := by
  match j, h with
  | 0, _ => rfl
  | 1, _ => rfl
  | 2, _ => rfl
  | 3, _ => rfl
theorem nm_at {j : Nat} (h : j < 3) : atI ([nm 6, nm 7, nm 8].map V.str) (j : Int) = some (.str (nm (ln j))) := by
  match j, h with
  | 0, _ => rfl
  | 1, _ => rfl
  | 2, _ => rfl
def ddV (d : Dd) : List V := [.int (d.k : Nat), .int (d.to : Nat), .int (d.fr : Nat), .int (d.wi : Nat)]
/-! ### text -/
def spText : Sp := fun vs H Q _ => ∃ (x : Th) (v : V), vs = [v] ∧ At H (toT x) v ∧ Q (.str (thText x)) H
theorem sc_law_text : FnScope ["_law_thing"] ["_law_thing"] (defScope s_law_text) := ⟨rfl, rfl, rfl, by decide +kernel, rfl, by decide +kernel, by decide +kernel⟩
theorem ok_law_text (T : Tx K mg) : Ok P w K mg base 1 (He.fAd K ("_law_text", none)) ["_law_thing"] [] spText := by
  obtain ⟨fd, F⟩ := T.f_law_text
  refine mkOk F sc_law_text (bind0 F fun _ _ _ _ _ _ us hl => match us, hl with | [_], _ => rfl) (fun vs H Q E h => ?_) (fun cdv A outer s H vs Q E hr h => ?_)
  · obtain ⟨x, v, rfl, _⟩ := h
    rfl
  obtain ⟨x, v, rfl, hx, k⟩ := h
  refine ⟨_, (pss_cons (ps_if (pt_val (pe_callB call_isi (by rfl) T.z_isinstance (by decide +kernel) (pa_cons (pv 0) (pa_cons (pe_bltn (v := .ty "str") (by rfl) T.z_str (by decide +kernel) rfl) pa_nil)))) (pss_one (ps_ret (pv 0))) pss_nil)
      (pss_cons (ps_if (pt_cmpR op_eq (pe_callB call_len_seq (by rfl) T.z_len PySem.boot_len (pa_cons (pv 0) pa_nil)) pe_int (nomark _)) (pss_one (ps_ret pe_str)) pss_nil)
      (pss_one (ps_ret pe_str)))), ?_⟩
  cases x with
  | w x =>
    unfold toT at hx
    cases hx.str
    exact ⟨_, rfl, _, _, _, _, true, rfl, .ty "str", .base (.str x), kit_ty (by decide +kernel), true, rfl, iteT ⟨_, rfl, k⟩⟩
  | l xs =>
    unfold toT at hx
    obtain ⟨p, vs, rfl, hp, hvs⟩ := hx.tup
    have hl : vs.length = xs.length := by rw [hvs.len, toTs_len]
    refine ⟨_, rfl, _, _, _, _, false, rfl, .ty "str", .base (.tup hp), kit_ty (by decide +kernel), false, rfl, iteF ?_⟩
    refine ⟨_, rfl, p, _, rfl, .inr (SqT.of hp), rfl, _, rfl, ?_⟩
    rw [hl]
    cases xs with
    | nil => exact kT (by decide) k
    | cons y ys => exact kF (by rw [List.length_cons, decide_eq_false (fun e => by have := V.int.inj e; omega)]; simp) k
/-! ### look -/
def wordsOf : List Th → List Str
  | [] => []
  | .w x :: r => x :: wordsOf r
  | .l _ :: r => wordsOf r
theorem wordsOf_in {q : Str} : ∀ {xs : List Th}, inV (.str q) ((wordsOf xs).map V.str) = isIn q xs
  | [] => rfl
  | .w x :: r => by
    show ((x == q) || inV (.str q) ((wordsOf r).map V.str)) = (isW q (.w x) || isIn q r)
    rw [wordsOf_in]
    congr 1
  | .l ys :: r => by
    show inV (.str q) ((wordsOf r).map V.str) = (isW q (.l ys) || isIn q r)
    rw [wordsOf_in]
    rfl
theorem wordsOf_take {xs : List Th} {i : Nat} {x : Th} (h : xs[i]? = some x) : wordsOf (xs.take (i + 1)) = wordsOf (xs.take i) ++ wordsOf [x] := by
  rw [List.take_succ, h]
  generalize xs.take i = ys
  induction ys with
  | nil => rfl
  | cons y ys ih =>
    cases y with
    | w z => show z :: wordsOf (ys ++ [x]) = z :: (wordsOf ys ++ wordsOf [x]); rw [← ih]; rfl
    | l z => show wordsOf (ys ++ [x]) = wordsOf ys ++ wordsOf [x]; rw [← ih]; rfl
theorem wordsOf_len : ∀ {xs : List Th}, (wordsOf xs).length ≤ xs.length
  | [] => Nat.le_refl _
  | .w x :: r => by show (x :: wordsOf r).length ≤ _; rw [List.length_cons, List.length_cons]; exact Nat.succ_le_succ wordsOf_len
  | .l _ :: r => by show (wordsOf r).length ≤ _; rw [List.length_cons]; exact Nat.le_succ_of_le wordsOf_len
def spLook (nm : Nm → Str) : Sp := fun vs H Q _ => ∃ (wo wl dl nl ll li dd : Addr) (wd : Nat → Str) (s : Ls) (d : Dd) (L : List Str), vs = [.ref wo, .ref dd, .ref li] ∧ Wo nm H wo wl dl nl ll wd s ∧ DdOk d ∧ H dd = some (.tup (ddV d)) ∧ H li = some (.lst (L.map V.str)) ∧ Off li wl dl nl ll ∧ L.length ≤ 1000 ∧ (∀ j, j < 3 → (s j).length ≤ 8) ∧
  ∀ H' v, But li H H' → H' li = some (.lst ((L ++ (lookD wd s d).1).map V.str)) → At H' (eSm nm (lookD wd s d).2) v → Q v H'
theorem sc_law_look : FnScope ["_law_world", "_law_deed", "_law_lines", "_law_defs_here", "_law_more", "_law_word", "_law_name", "_law_held", "_law_rows", "_law_thing"] ["_law_world", "_law_deed", "_law_lines"] (defScope s_law_look) := ⟨rfl, rfl, rfl, by decide +kernel, rfl, by decide +kernel, by decide +kernel⟩
theorem ok_law_look (T : Tx K mg) : Ok P w K mg base 3 (He.fAd K ("_law_look", none)) ["_law_world", "_law_deed", "_law_lines"] [] (spLook nm) := by
  obtain ⟨fd, F⟩ := T.f_law_look
  obtain ⟨fd_law_called, us_law_called, G_law_called, b_law_called, v_law_called, k_law_called, _⟩ := ok_law_called T
  obtain ⟨fd_law_loop, us_law_loop, G_law_loop, b_law_loop, v_law_loop, k_law_loop, _⟩ := ok_law_loop T
  obtain ⟨fd_law_text, us_law_text, G_law_text, b_law_text, v_law_text, k_law_text, _⟩ := ok_law_text T
  refine mkOk F sc_law_look (bind0 F fun _ _ _ _ _ _ us hl => match us, hl with | [_, _, _], _ => rfl) (fun vs H Q E h => ?_) (fun cdv A outer s H vs Q E hr h => ?_)
  · obtain ⟨wo, wl, dl, nl, ll, li, dd, wd, s, d, L, rfl, _⟩ := h
    rfl
  obtain ⟨wo, wl, dl, nl, ll, li, dd, wd, s, d, L, rfl, q, dok, hdd, hli, off, hL, h8, k⟩ := h
  refine ⟨_, (pss_cons (ps_set (i := 3) sc_law_look.nd rfl (Or.inl rfl) (pe_dget (hu_of hr) (pv 0) pe_str (fun _ _ => rfl)))
      (pss_cons (ps_set (i := 4) sc_law_look.nd rfl (Or.inl rfl) (pe_dget (hu_of hr) (pv 0) pe_str (fun _ _ => rfl)))
      (pss_cons (ps_set (i := 5) sc_law_look.nd rfl (Or.inl rfl) (pe_ix ix_list (pe_dget (hu_of hr) (pv 0) pe_str (fun _ _ => rfl)) (pe_ix ix_tup (pv 1) pe_int (fun _ _ => rfl)) (fun _ _ => rfl)))
      (pss_cons (ps_set (i := 6) sc_law_look.nd rfl (Or.inl rfl) (pe_tup (pa_cons pe_str (pa_cons (pe_ix ix_list (pe_dget (hu_of hr) (pv 0) pe_str (fun _ _ => rfl)) (pe_ix ix_tup (pv 1) pe_int (fun _ _ => rfl)) (fun _ _ => rfl)) pa_nil))))
      (pss_cons (ps_set (i := 7) sc_law_look.nd rfl (Or.inl rfl) (pe_ix ix_list (pe_dget (hu_of hr) (pv 0) pe_str (fun _ _ => rfl)) (pe_ix ix_tup (pv 1) pe_int (fun _ _ => rfl)) (fun _ _ => rfl)))
      (pss_cons (ps_if (pt_cmpR op_eq (pe_ix ix_tup (pv 1) pe_int (fun _ _ => rfl)) pe_int (nomark _)) (pss_cons (ps_expr (pe_bm PySem.F.plainAttrs_list PySem.F.slot_list_append PySem.F.type_list_append mt_append (pv 2) (pa_cons (pe_ifExp (pt_cmpR op_gt (pe_callB call_len_seq (by rfl) T.z_len PySem.boot_len (pa_cons (pv 7) pa_nil)) pe_int (nomark _)) (pe_call G_law_text (hr.mono (by decide)) rfl T.g_law_text k_law_text b_law_text v_law_text pass0 (pa_cons (pe_ix ix_tup (pv 7) pe_int (fun _ _ => rfl)) pa_nil)) pe_str) pa_nil)))
      (pss_cons (ps_set (i := 8) sc_law_look.nd rfl (Or.inl rfl) (pe_tup (pa_cons (pe_tup (pa_cons pe_str (pa_cons (pv 4) (pa_cons (pe_call G_law_called (hr.mono (by decide)) rfl T.g_law_called k_law_called b_law_called v_law_called pass0 (pa_cons (pe_ix ix_list (pv 3) pe_int (fun _ _ => rfl)) (pa_cons (pe_lst (pa_cons (pv 6) pa_nil)) pa_nil))) pa_nil)))) (pa_cons (pe_tup (pa_cons pe_str (pa_cons (pe_tup (pa_cons pe_str (pa_cons (pv 4) pa_nil))) pa_nil))) pa_nil))))
      (pss_one (ps_ret (pe_tup (pa_cons pe_str (pa_cons (pv 8) (pa_cons (pv 4) (pa_cons (pe_tup (pa_cons (pe_tup (pa_cons pe_str (pa_cons (pe_tup (pa_cons pe_str (pa_cons (pv 4) pa_nil))) pa_nil))) pa_nil)) pa_nil))))))))) pss_nil)
      (pss_cons (ps_if (pt_cmpR op_eq (pe_ix ix_tup (pv 1) pe_int (fun _ _ => rfl)) pe_int (nomark _)) (pss_cons (ps_for PassesOwn.never rfl (pi_tup (pv 7)) (pg_name (i := 9) sc_law_look.nd rfl (Or.inl rfl))
      (pss_one (ps_expr (pe_bm PySem.F.plainAttrs_list PySem.F.slot_list_append PySem.F.type_list_append mt_append (pv 2) (pa_cons (pe_call G_law_text (hr.mono (by decide)) rfl T.g_law_text k_law_text b_law_text v_law_text pass0 (pa_cons (pv 9) pa_nil)) pa_nil)))))
      (pss_cons (ps_set (i := 8) sc_law_look.nd rfl (Or.inl rfl) (pe_tup (pa_cons (pe_tup (pa_cons pe_str (pa_cons (pe_dget (hu_of hr) (pv 0) pe_str (fun _ _ => rfl)) (pa_cons (pv 6) pa_nil)))) (pa_cons (pe_call G_law_loop (hr.mono (by decide)) rfl T.g_law_loop k_law_loop b_law_loop v_law_loop pass0 (pa_cons (pv 3) (pa_cons (pe_dget (hu_of hr) (pv 0) pe_str (fun _ _ => rfl)) (pa_cons (pv 4) (pa_cons (pe_lst (pa_cons (pe_tup (pa_cons pe_str (pa_cons (pe_tup (pa_cons pe_str (pa_cons (pv 4) pa_nil))) pa_nil))) pa_nil)) pa_nil))))) pa_nil))))
      (pss_one (ps_ret (pe_tup (pa_cons pe_str (pa_cons (pv 8) (pa_cons (pe_tup pa_nil) pa_nil)))))))) pss_nil)
      (pss_cons (ps_expr (pe_bm PySem.F.plainAttrs_list PySem.F.slot_list_append PySem.F.type_list_append mt_append (pv 2) (pa_cons (pe_ix ix_list (pe_dget (hu_of hr) (pv 0) pe_str (fun _ _ => rfl)) (pe_op op_sub pe_int (pe_callTy call_int1 (by rfl) T.z_int (by decide +kernel) (pa_cons (pe_cmpR op_in_seq (pv 5) (pe_lc (own := [("_law_thing", 9)]) (g := gName 9) (tt := tB (tCB (rIsi K) (tCons (tVar 9) (tCons (tC (.ty "str")) tNil)))) (te := tVar 9) (by rfl) sc_law_look.nd (pi_tup (pv 7)) (blkOk_by (own := [("_law_thing", 9)]) (N := ["_law_world", "_law_deed", "_law_lines", "_law_defs_here", "_law_more", "_law_word", "_law_name", "_law_held", "_law_rows", "_law_thing"]) (sc := defScope s_law_look) (by decide +kernel)) (fun _ _ _ _ _ => pg_name (i := 9) sc_law_look.nd rfl (Or.inl rfl)) (fun _ _ _ _ _ => pts_one (pt_val (pe_callB call_isi (by rfl) T.z_isinstance (by decide +kernel) (pa_cons (pv 9) (pa_cons (pe_bltn (v := .ty "str") (by rfl) T.z_str (by decide +kernel) rfl) pa_nil))))) (fun _ _ _ _ _ => pv 9)) (by rfl)) pa_nil))) (fun _ _ => rfl)) pa_nil)))
      (pss_cons (ps_set (i := 8) sc_law_look.nd rfl (Or.inl rfl) (pe_tup (pa_cons (pe_tup (pa_cons pe_str (pa_cons (pv 4) (pa_cons (pe_call G_law_called (hr.mono (by decide)) rfl T.g_law_called k_law_called b_law_called v_law_called pass0 (pa_cons (pe_ix ix_list (pv 3) pe_int (fun _ _ => rfl)) (pa_cons (pe_lst (pa_cons (pv 6) (pa_cons (pe_tup (pa_cons pe_str (pa_cons (pv 5) pa_nil))) pa_nil))) pa_nil))) pa_nil)))) (pa_cons (pe_tup (pa_cons pe_str (pa_cons (pe_tup (pa_cons pe_str (pa_cons (pv 4) pa_nil))) pa_nil))) pa_nil))))
      (pss_one (ps_ret (pe_tup (pa_cons pe_str (pa_cons (pe_tup (pa_cons pe_str (pa_cons (pe_tup (pa_cons pe_str pa_nil)) (pa_cons (pe_tup (pa_cons pe_str pa_nil)) pa_nil)))) (pa_cons (pv 8) (pa_cons (pe_tup pa_nil) pa_nil)))))))))))))))), ?_⟩
  have sz : 3000 < sizeLine := by decide
  refine asg_ev (ev_dget rfl q.hwo rfl) ?_
  refine asg_ev (ev_dget rfl q.hwo rfl) ?_
  refine asg_ev (ev_ixL (ev_dget rfl q.hwo rfl) (ev_ixT (ev_var rfl) ev_c hdd (atI_nat (j := 3) rfl)) q.hwl (wd_at dok.wi)) ?_
  refine asg_mk (mk_tup (mkA_cons mk_str (mkA_cons (mk_ev (ev_ixL (ev_dget rfl q.hwo rfl) (ev_ixT (ev_var rfl) ev_c hdd (atI_nat (j := 2) rfl)) q.hnl (nm_at dok.fr))) mkA_nil)) (by show 2 ≤ sizeLine; decide)) fun H1 nv S1 an => ?_
  have q1 := q.same S1
  have hdd1 := S1 _ _ hdd
  have hli1 := S1 _ _ hli
  obtain ⟨ts, hl1, hl2, hl3⟩ := q1.hll
  obtain ⟨hv, hl4, hl5⟩ := hl3 d.fr dok.fr
  obtain ⟨hp, hvs, rfl, hhp, hhvs⟩ := hl5.tup
  have h8f := h8 d.fr dok.fr
  have hlen : hvs.length = (s d.fr).length := by rw [hhvs.len, toTs_len]
  refine asg_ev (ev_ixL (ev_dget rfl q1.hwo rfl) (ev_ixT (ev_var rfl) ev_c hdd1 (atI_nat (j := 2) rfl)) hl1 (atI_nat (j := d.fr) hl4)) ?_
  change tSeq _ _ _ [some (.ref wo), some (.ref dd), some (.ref li), some (.ref dl), some (.str (nm 11)), some (.str (wd d.wi)), some nv, some (.ref hp), none, none] H1
  have But0 : ∀ H2, But li H1 H2 → But li H H2 := fun H2 b => But.trans (But.of S1) b
  -- one line more
  have appd : ∀ (x : Str) (L2 : List Str) (H2 : Hp), But li H1 H2 → H2 li = some (.lst (L2.map V.str)) → But li H1 (upd H2 li (.lst (L2.map V.str ++ [.str x]))) ∧ (upd H2 li (.lst (L2.map V.str ++ [.str x]))) li = some (.lst ((L2 ++ [x]).map V.str)) := fun x L2 H2 b h =>
    ⟨fun a o n e => by rw [upd_ne n]; exact b a o n e, by rw [upd_same, List.map_append]; rfl⟩
  refine ⟨_, rfl, dd, _, 0, _, rfl, rfl, SqT.of hdd1, atI_nat (j := 0) rfl, rfl, _, rfl, ?_⟩
  by_cases h5 : d.k = 5
  · refine kT (by rw [h5]; decide) ?_
    have eD : lookD wd s d = ([headText (s d.fr)], .tr [.lt 11 (callE 1 [.name (ln d.fr)]), .pr (.name 11)] 11 [.pr (.name 11)]) := if_pos h5
    rw [eD] at k
    -- behind the line
    refine ⟨_, rfl, .inl ⟨rfl, _, SqL.of hli1⟩, _, rfl, hp, _, rfl, .inr (SqT.of hhp), _, 0, rfl, rfl, _, rfl, ?_⟩
    cases hs : s d.fr with
    | nil =>
      rw [hs] at hlen k
      refine kF (by rw [hlen]; simp) ?_
      refine ⟨li, _, _, rfl, rfl, hli1, by rw [List.length_map]; omega, ?_⟩
      obtain ⟨b2, e2⟩ := appd "nofunc" L H1 (But.refl H1) hli1
      generalize upd H1 li (.lst (L.map V.str ++ [.str "nofunc"])) = H2 at b2 e2 ⊢
      have q2 := q1.but b2 hli1 off
      have tt := b2.tps hli1
      refine asg_mk (mk_tup (mkA_cons (mk_tup (mkA_cons mk_str (mkA_cons (mk_var rfl .mkS) (mkA_cons (mk_called (mk_ix rfl q2.hdl rfl) (mk_lst (mkA_cons (mk_var rfl (At.same tt _ _ an)) mkA_nil) (by show 1 ≤ sizeLine; decide))) mkA_nil))) (by show 3 ≤ sizeLine; decide)) (mkA_cons (mk_tup (mkA_cons mk_str (mkA_cons (mk_tup (mkA_cons mk_str (mkA_cons (mk_var rfl .mkS) mkA_nil)) (by show 2 ≤ sizeLine; decide)) mkA_nil)) (by show 2 ≤ sizeLine; decide)) mkA_nil)) (by show 2 ≤ sizeLine; decide)) fun H3 v3 S3 a3 => ?_
      change tRet _ _ [some (.ref wo), some (.ref dd), some (.ref li), some (.ref dl), some (.str (nm 11)), some (.str (wd d.wi)), some nv, some (.ref hp), some v3, none] H3
      refine ret_mk (mk_tup (mkA_cons mk_str (mkA_cons (mk_var rfl a3) (mkA_cons (mk_var rfl .mkS) (mkA_cons (mk_tup (mkA_cons (mk_tup (mkA_cons mk_str (mkA_cons (mk_tup (mkA_cons mk_str (mkA_cons (mk_var rfl .mkS) mkA_nil)) (by show 2 ≤ sizeLine; decide)) mkA_nil)) (by show 2 ≤ sizeLine; decide)) mkA_nil) (by show 1 ≤ sizeLine; decide)) mkA_nil)))) (by show 4 ≤ sizeLine; decide)) fun H4 v4 S4 a4 => ?_
      refine k H4 v4 (But.trans (But0 _ b2) (But.of (S3.trans S4))) ((S3.trans S4) _ _ e2) ?_
      have e : eSm nm (.tr [.lt 11 (callE 1 [.name (ln d.fr)]), .pr (.name 11)] 11 [.pr (.name 11)]) = _ := (by simp only [eSms, loopS, callE, isNon, eSm, eRt, eEx, eExs, eTe, List.map_cons, List.map_nil, List.cons_append, List.nil_append]; rfl)
      rw [e]
      exact a4
    | cons x xs =>
      rw [hs] at hlen k hhvs
      refine kT (by rw [hlen, List.length_cons]; exact decide_eq_true (by omega)) ?_
      obtain ⟨v0, hv0, av0⟩ := hhvs.get' (i := 0) (t := toT x) (by simp [toTs])
      refine ⟨_, rfl, hp, _, 0, _, rfl, rfl, SqT.of hhp, atI_nat (j := 0) hv0, x, v0, rfl, av0, ?_⟩
      refine ⟨li, _, _, rfl, rfl, hli1, by rw [List.length_map]; omega, ?_⟩
      obtain ⟨b2, e2⟩ := appd (thText x) L H1 (But.refl H1) hli1
      generalize upd H1 li (.lst (L.map V.str ++ [.str (thText x)])) = H2 at b2 e2 ⊢
      have q2 := q1.but b2 hli1 off
      have tt := b2.tps hli1
      refine asg_mk (mk_tup (mkA_cons (mk_tup (mkA_cons mk_str (mkA_cons (mk_var rfl .mkS) (mkA_cons (mk_called (mk_ix rfl q2.hdl rfl) (mk_lst (mkA_cons (mk_var rfl (At.same tt _ _ an)) mkA_nil) (by show 1 ≤ sizeLine; decide))) mkA_nil))) (by show 3 ≤ sizeLine; decide)) (mkA_cons (mk_tup (mkA_cons mk_str (mkA_cons (mk_tup (mkA_cons mk_str (mkA_cons (mk_var rfl .mkS) mkA_nil)) (by show 2 ≤ sizeLine; decide)) mkA_nil)) (by show 2 ≤ sizeLine; decide)) mkA_nil)) (by show 2 ≤ sizeLine; decide)) fun H3 v3 S3 a3 => ?_
      change tRet _ _ [some (.ref wo), some (.ref dd), some (.ref li), some (.ref dl), some (.str (nm 11)), some (.str (wd d.wi)), some nv, some (.ref hp), some v3, none] H3
      refine ret_mk (mk_tup (mkA_cons mk_str (mkA_cons (mk_var rfl a3) (mkA_cons (mk_var rfl .mkS) (mkA_cons (mk_tup (mkA_cons (mk_tup (mkA_cons mk_str (mkA_cons (mk_tup (mkA_cons mk_str (mkA_cons (mk_var rfl .mkS) mkA_nil)) (by show 2 ≤ sizeLine; decide)) mkA_nil)) (by show 2 ≤ sizeLine; decide)) mkA_nil) (by show 1 ≤ sizeLine; decide)) mkA_nil)))) (by show 4 ≤ sizeLine; decide)) fun H4 v4 S4 a4 => ?_
      refine k H4 v4 (But.trans (But0 _ b2) (But.of (S3.trans S4))) ((S3.trans S4) _ _ e2) ?_
      have e : eSm nm (.tr [.lt 11 (callE 1 [.name (ln d.fr)]), .pr (.name 11)] 11 [.pr (.name 11)]) = _ := (by simp only [eSms, loopS, callE, isNon, eSm, eRt, eEx, eExs, eTe, List.map_cons, List.map_nil, List.cons_append, List.nil_append]; rfl)
      rw [e]
      exact a4
  refine kF (by rw [decide_eq_false (fun e => h5 (by have := V.int.inj e; omega))]; simp) ?_
  refine ⟨_, rfl, dd, _, 0, _, rfl, rfl, SqT.of hdd1, atI_nat (j := 0) rfl, rfl, _, rfl, ?_⟩
  by_cases h6 : d.k = 6
  · refine kT (by rw [h6]; decide) ?_
    have eD : lookD wd s d = ((s d.fr).map thText, .la [.lt 9 (.ex (.name (ln d.fr))), loopS 9 11 [.pr (.name 11)]] []) := (if_neg h5).trans (if_pos h6)
    rw [eD] at k
    refine ⟨_, rfl, hp, rfl, ⟨_, SqT.of hhp⟩, for_tup (K := K) (a := hp) (xs := hvs) (fun i σ H2 => ∃ u, σ = [some (.ref wo), some (.ref dd), some (.ref li), some (.ref dl), some (.str (nm 11)), some (.str (wd d.wi)), some nv, some (.ref hp), none, u] ∧ But li H1 H2 ∧ H2 li = some (.lst ((L ++ ((s d.fr).take i).map thText).map V.str))) ⟨_, rfl, But.refl H1, by simpa using hli1⟩ (fun i σ H2 _ z => ?_) ?_ ?_⟩
    · obtain ⟨u, _, b2, _⟩ := z
      exact SqT.of (b2.tps hli1 _ _ hhp)
    · rintro i y σ H2 hi ⟨u, rfl, b2, e2⟩
      obtain ⟨t, ht, hty⟩ := hhvs.get hi
      rw [toTs_get] at ht
      obtain ⟨x, hx, rfl⟩ := Option.map_eq_some_iff.mp ht
      have hil : i < (s d.fr).length := (List.getElem?_eq_some_iff.mp hx).1
      refine ⟨_, rfl, .inl ⟨rfl, _, SqL.of e2⟩, _, rfl, x, y, rfl, At.same (b2.tps hli1) _ _ hty, li, _, _, rfl, rfl, e2, by rw [List.length_map, List.length_append, List.length_map, List.length_take]; omega, ?_⟩
      obtain ⟨b3, e3⟩ := appd (thText x) _ H2 b2 e2
      refine ⟨_, rfl, b3, ?_⟩
      rw [e3, List.take_succ, hx, List.append_assoc]
      simp
    · rintro σ H2 ⟨u, rfl, b2, e2⟩
      rw [hlen, List.take_length] at e2
      change tSeq _ _ _ [some (.ref wo), some (.ref dd), some (.ref li), some (.ref dl), some (.str (nm 11)), some (.str (wd d.wi)), some nv, some (.ref hp), none, u] H2
      have q2 := q1.but b2 hli1 off
      have tt := b2.tps hli1
      refine asg_mk (mk_tup (mkA_cons (mk_tup (mkA_cons mk_str (mkA_cons (mk_ev (ev_dget rfl q2.hwo rfl)) (mkA_cons (mk_var rfl (At.same tt _ _ an)) mkA_nil))) (by show 3 ≤ sizeLine; decide)) (mkA_cons (mk_loop rfl q2.hdl rfl rfl (mk_ev (ev_dget rfl q2.hwo rfl)) (mk_var rfl .mkS) (mk_lst (mkA_cons (mk_tup (mkA_cons mk_str (mkA_cons (mk_tup (mkA_cons mk_str (mkA_cons (mk_var rfl .mkS) mkA_nil)) (by show 2 ≤ sizeLine; decide)) mkA_nil)) (by show 2 ≤ sizeLine; decide)) mkA_nil) (by show 1 ≤ sizeLine; decide)) (by simp)) mkA_nil)) (by show 2 ≤ sizeLine; decide)) fun H3 v3 S3 a3 => ?_
      change tRet _ _ [some (.ref wo), some (.ref dd), some (.ref li), some (.ref dl), some (.str (nm 11)), some (.str (wd d.wi)), some nv, some (.ref hp), some v3, u] H3
      refine ret_mk (mk_tup (mkA_cons mk_str (mkA_cons (mk_var rfl a3) (mkA_cons (mk_tup mkA_nil (by show 0 ≤ sizeLine; decide)) mkA_nil))) (by show 3 ≤ sizeLine; decide)) fun H4 v4 S4 a4 => ?_
      refine k H4 v4 (But.trans (But0 _ b2) (But.of (S3.trans S4))) ((S3.trans S4) _ _ e2) ?_
      have e : eSm nm (.la [.lt 9 (.ex (.name (ln d.fr))), loopS 9 11 [.pr (.name 11)]] []) = _ := (by simp only [eSms, loopS, callE, isNon, eSm, eRt, eEx, eExs, eTe, List.map_cons, List.map_nil, List.cons_append, List.nil_append]; rfl)
      rw [e]
      exact a4
  refine kF (by rw [decide_eq_false (fun e => h6 (by have := V.int.inj e; omega))]; simp) ?_
  have eD : lookD wd s d = ([if isIn (wd d.wi) (s d.fr) then wd 0 else wd 1], .iff (.same .non .non) [.lt 11 (callE 5 [.name (ln d.fr), .word (wd d.wi)]), .pr (.name 11)] []) := (if_neg h5).trans (if_neg h6)
  rw [eD] at k
  refine ⟨_, rfl, .inl ⟨rfl, _, SqL.of hli1⟩, _, rfl, wo, _, rfl, (DGet.k (k := Sum.inr "words") q1.hwo : DGet H1 wo (.str "words") (some (.ref wl))), _, rfl, _, rfl, hp, rfl, ⟨_, SqT.of hhp⟩, fun D hD => ?_⟩
  refine lc_tup (K := K) (a := hp) (xs := hvs) (fun i H2 => Same H1 H2 ∧ H2 D = some (.lst ((wordsOf ((s d.fr).take i)).map V.str))) ⟨same_new hD _, by rw [upd_same]; rfl⟩ (fun i H2 _ z => SqT.of (z.1 _ _ hhp)) ?_ ?_
  · rintro i y H2 hi ⟨S2, e2⟩
    obtain ⟨t, ht, hty⟩ := hhvs.get hi
    rw [toTs_get] at ht
    obtain ⟨x, hx, rfl⟩ := Option.map_eq_some_iff.mp ht
    have hty2 := At.same (tps_of S2) _ _ hty
    have hil : i < (s d.fr).length := (List.getElem?_eq_some_iff.mp hx).1
    have hwl := wordsOf_len (xs := (s d.fr).take i)
    rw [List.length_take] at hwl
    refine ⟨rfl, ?_⟩
    cases x with
    | w z =>
      unfold toT at hty2
      cases hty2.str
      refine ⟨_, rfl, _, _, _, _, true, rfl, .ty "str", .base (.str z), kit_ty (by decide +kernel), true, rfl, iteT ?_⟩
      refine ⟨_, rfl, _, e2, by rw [List.length_map]; omega, fun a o e => ?_, ?_⟩
      · rw [upd_ne (ne_of_none e hD)]; exact S2 _ _ e
      · rw [upd_same, wordsOf_take hx, List.map_append]; rfl
    | l z =>
      unfold toT at hty2
      obtain ⟨zp, zv, rfl, hzp, _⟩ := hty2.tup
      refine ⟨_, rfl, _, _, _, _, false, rfl, .ty "str", .base (.tup hzp), kit_ty (by decide +kernel), false, rfl, iteF ?_⟩
      exact ⟨S2, by rw [e2, wordsOf_take hx]; simp [wordsOf]⟩
  · rintro H2 ⟨S2, e2⟩
    rw [hlen, List.take_length] at e2
    have hli2 := S2 _ _ hli1
    have q12 := q1.same S2
    refine ⟨D, _, rfl, .inl (SqL.of e2), rfl, allFlat, .inr ⟨_, rfl, _, _, rfl, rfl, wl, _, _, .str (if isIn (wd d.wi) (s d.fr) then wd 0 else wd 1), rfl, rfl, SqL.of q12.hwl, ?_, li, _, _, rfl, rfl, hli2, by rw [List.length_map]; omega, ?_⟩⟩
    · rw [show (if false = true then !inV (.str (wd d.wi)) ((wordsOf (s d.fr)).map V.str) else inV (.str (wd d.wi)) ((wordsOf (s d.fr)).map V.str)) = isIn (wd d.wi) (s d.fr) from wordsOf_in]
      cases isIn (wd d.wi) (s d.fr) with
      | true => rfl
      | false => rfl
    obtain ⟨b2, e2⟩ := appd (if isIn (wd d.wi) (s d.fr) then wd 0 else wd 1) L H2 (But.of S2) hli2
    generalize upd H2 li (.lst (L.map V.str ++ [.str (if isIn (wd d.wi) (s d.fr) then wd 0 else wd 1)])) = H2 at b2 e2 ⊢
    have q2 := q1.but b2 hli1 off
    have tt := b2.tps hli1
    refine asg_mk (mk_tup (mkA_cons (mk_tup (mkA_cons mk_str (mkA_cons (mk_var rfl .mkS) (mkA_cons (mk_called (mk_ix rfl q2.hdl rfl) (mk_lst (mkA_cons (mk_var rfl (At.same tt _ _ an)) (mkA_cons (mk_tup (mkA_cons mk_str (mkA_cons (mk_var rfl .mkS) mkA_nil)) (by show 2 ≤ sizeLine; decide)) mkA_nil)) (by show 2 ≤ sizeLine; decide))) mkA_nil))) (by show 3 ≤ sizeLine; decide)) (mkA_cons (mk_tup (mkA_cons mk_str (mkA_cons (mk_tup (mkA_cons mk_str (mkA_cons (mk_var rfl .mkS) mkA_nil)) (by show 2 ≤ sizeLine; decide)) mkA_nil)) (by show 2 ≤ sizeLine; decide)) mkA_nil)) (by show 2 ≤ sizeLine; decide)) fun H3 v3 S3 a3 => ?_
    change tRet _ _ [some (.ref wo), some (.ref dd), some (.ref li), some (.ref dl), some (.str (nm 11)), some (.str (wd d.wi)), some nv, some (.ref hp), some v3, none] H3
    refine ret_mk (mk_tup (mkA_cons mk_str (mkA_cons (mk_tup (mkA_cons mk_str (mkA_cons (mk_tup (mkA_cons mk_str mkA_nil) (by show 1 ≤ sizeLine; decide)) (mkA_cons (mk_tup (mkA_cons mk_str mkA_nil) (by show 1 ≤ sizeLine; decide)) mkA_nil))) (by show 3 ≤ sizeLine; decide)) (mkA_cons (mk_var rfl a3) (mkA_cons (mk_tup mkA_nil (by show 0 ≤ sizeLine; decide)) mkA_nil)))) (by show 4 ≤ sizeLine; decide)) fun H4 v4 S4 a4 => ?_
    refine k H4 v4 (But.trans (But0 _ b2) (But.of (S3.trans S4))) ((S3.trans S4) _ _ e2) ?_
    have e : eSm nm (.iff (.same .non .non) [.lt 11 (callE 5 [.name (ln d.fr), .word (wd d.wi)]), .pr (.name 11)] []) = _ := (by simp only [eSms, loopS, callE, isNon, eSm, eRt, eEx, eExs, eTe, List.map_cons, List.map_nil, List.cons_append, List.nil_append]; rfl)
    rw [e]
    exact a4

end
end K38
end
section
/-! K38L6: change. -/
namespace K38
open PySem PySem.Spec PyProof.Rows L2
section
variable {P : Program} {w : World} {K : PySem.W.Frag} {mg : Str → Option Value} {base : Heap} {nm : Nm → Str} {H H' H'' H0 : Hp} {σ : L2.St} {te ta tb ti : TE} {tr : TA} {X : T} {Xs : List T} {wd : Nat → Str} {s : Ls}
theorem both {R A B : Prop} {b : Bool} (r : R) (h1 : b = true → R → A) (h2 : b = false → R → B) : if b = true then A else B := by
  cases b with
  | true => exact kT rfl (h1 rfl r)
  | false => exact kF (by simp) (h2 rfl r)
theorem mk_at {v : V} (a : Ev1 te σ H v) (h : At H X v) : Mk te σ H X := fun H1 S Q k => a H1 S _ (k H1 _ (.refl H1) (At.same (tps_of S) _ _ h))
theorem Ats.rev {H : Hp} : ∀ {Xs : List T} {vs : List V}, Ats H Xs vs → Ats H Xs.reverse vs.reverse
  | [], vs, h => by cases h.nil; exact .mkN
  | x :: Xs, vs, h => by
    obtain ⟨v, r, rfl, h1, h2⟩ := h.cons
    rw [List.reverse_cons, List.reverse_cons]
    exact Ats.app (Ats.rev h2) (.mkC h1 .mkN)
theorem mk_rev (a : Mk te σ H (.t Xs)) : Mk (tRevT K te) σ H (.t Xs.reverse) := fun H1 S Q k =>
  a H1 S _ fun H2 v S2 av => by
    obtain ⟨p, vs, rfl, hp, avs⟩ := av.tup
    exact ⟨p, vs, rfl, SqT.of hp, fun q hq => k _ _ (S2.trans (same_new hq _)) (.mkT upd_same (Ats.rev (Ats.same (tps_of (same_new hq _)) _ _ avs)))⟩
theorem mk_tail (a : Mk te σ H (.t (X :: Xs))) : Mk (tSl (rSlA K) te (tPart (tC (.int 1))) tNoPart) σ H (.t Xs) := fun H1 S Q k =>
  a H1 S _ fun H2 v S2 av => by
    obtain ⟨p, vs, rfl, hp, avs⟩ := av.tup
    obtain ⟨v0, vr, rfl, a0, ar⟩ := avs.cons
    refine ⟨1, rfl, p, v0 :: vr, rfl, SqT.of hp, fun z => ?_, fun _ q hq => ?_⟩
    · exfalso
      have z1 := z.1
      rw [show (some (1 : Int)) = some (((1 : Nat)) : Int) from rfl, HT.sIx_nat, List.length_cons] at z1
      omega
    · rw [cutV_tail]
      exact k _ _ (S2.trans (same_new hq _)) (.mkT upd_same (Ats.same (tps_of (same_new hq _)) _ _ ar))
theorem set_mk1 {D : Ends} {i : Nat} {j : Nat} {ll : Addr} {ts : List V} (a : Mk te σ H X) (h : σ[i]? = some (some (.ref ll))) (b : Ev1 ti σ H (.int (j : Nat))) (hl : H ll = some (.lst ts)) (hj : j < ts.length) (k : ∀ H1 v, Same H H1 → At H1 X v → D.nx σ (upd H1 ll (.lst (ts.set j v)))) :
    tAsg te (gSub (tVar i) ti rSetL) D σ H :=
  a H (.refl H) _ fun H1 v S1 av => ⟨_, h, b H1 S1 _ ⟨ll, ts, (j : Nat), j, rfl, rfl, S1 _ _ hl, (by
    have z := (atI_int (xs := ts) (i := (j : Nat)) (by omega) (by omega)).1
    rw [Int.toNat_natCast] at z
    exact z), k H1 v S1 av⟩⟩
theorem set_mk {D : Ends} {u : TS} {i : Nat} {j : Nat} {ll : Addr} {ts : List V} (a : Mk te σ H X) (h : σ[i]? = some (some (.ref ll))) (b : Ev1 ti σ H (.int (j : Nat))) (hl : H ll = some (.lst ts)) (hj : j < ts.length) (k : ∀ H1 v, Same H H1 → At H1 X v → u D σ (upd H1 ll (.lst (ts.set j v)))) :
    tSeq (tAsg te (gSub (tVar i) ti rSetL)) u D σ H :=
  a H (.refl H) _ fun H1 v S1 av => ⟨_, h, b H1 S1 _ ⟨ll, ts, (j : Nat), j, rfl, rfl, S1 _ _ hl, (by
    have z := (atI_int (xs := ts) (i := (j : Nat)) (by omega) (by omega)).1
    rw [Int.toNat_natCast] at z
    exact z), k H1 v S1 av⟩⟩
structure OffL (ll wl dl nl : Addr) : Prop where
  wl : wl ≠ ll
  dl : dl ≠ ll
  nl : nl ≠ ll
theorem toTs_rev : ∀ {xs : List Th}, toTs xs.reverse = (toTs xs).reverse
  | [] => by simp [toTs]
  | x :: xs => by rw [List.reverse_cons, toTs_app, toTs_rev]; simp [toTs]
/-- a list of the law's comes in the place of another -/
theorem Wo.set {wo wl dl nl ll : Addr} {ts : List V} {j : Nat} {v : V} {xs : List Th} (q : Wo nm H wo wl dl nl ll wd s) (o : OffL ll wl dl nl) (hl : H ll = some (.lst ts)) (hj : j < 3) (hv : At H (tLs xs) v) : Wo nm (upd H ll (.lst (ts.set j v))) wo wl dl nl ll wd (setL s j xs) := by
  obtain ⟨ts', h1, h2, h3⟩ := q.hll
  rw [hl] at h1
  cases h1
  have t : Tps H (upd H ll (.lst (ts.set j v))) := off_tps hl (by simp [tg])
  refine ⟨off_at (ne_tg q.hwo hl (by simp [tg])) _ q.hwo, off_at o.wl _ q.hwl, off_at o.dl _ q.hdl, off_at o.nl _ q.hnl, _, upd_same, by rw [List.length_set]; exact h2, fun i hi => ?_⟩
  by_cases e : i = j
  · subst e
    refine ⟨v, by rw [List.getElem?_set_self (by omega)], ?_⟩
    simp only [setL, if_true]
    exact At.same t _ _ hv
  · obtain ⟨u, e1, e2⟩ := h3 i hi
    refine ⟨u, by rw [List.getElem?_set_ne (fun z => e z.symm)]; exact e1, ?_⟩
    simp only [setL, e, if_false]
    exact At.same t _ _ e2
theorem change_le (d : Dd) (h8 : ∀ j, j < 3 → (s j).length ≤ 8) (dok : DdOk d) : ∀ j, j < 3 → ((changeD wd s d).1 j).length ≤ 8 := by
  have st : ∀ xs : List Th, xs.length ≤ 8 → ∀ j, j < 3 → (setL s d.to xs j).length ≤ 8 := fun xs hx j hj => by
    unfold setL
    split
    · exact hx
    · exact h8 j hj
  have hf := h8 d.fr dok.fr
  have ht := h8 d.to dok.to
  unfold changeD
  split
  · exact st _ (by rw [List.length_reverse]; exact hf)
  split
  · rename_i h; exact st _ (by rw [List.length_append]; exact h.2)
  split
  · exact st _ hf
  split
  · cases hs : s d.fr with
    | nil => exact h8
    | cons x r => exact st _ (by rw [hs, List.length_cons] at hf; omega)
  rename_i h1
  have hn : (s d.to).length ≠ 8 := fun e => h1 (.inr e)
  split
  · exact st _ (by rw [List.length_cons]; omega)
  · exact st _ (by rw [List.length_cons]; omega)
def spChange (nm : Nm → Str) : Sp := fun vs H Q _ => ∃ (wo wl dl nl ll li dd : Addr) (wd : Nat → Str) (s : Ls) (d : Dd) (L : List Str), vs = [.ref wo, .ref dd, .ref li] ∧ Wo nm H wo wl dl nl ll wd s ∧ DdOk d ∧ d.k ≤ 4 ∧ H dd = some (.tup (ddV d)) ∧ H li = some (.lst (L.map V.str)) ∧ Off li wl dl nl ll ∧ OffL ll wl dl nl ∧ L.length ≤ 1000 ∧ (∀ j, j < 3 → (s j).length ≤ 8) ∧
  ∀ H' v, But2 li ll H H' → H' li = some (.lst ((L ++ (changeD wd s d).2.1).map V.str)) → Wo nm H' wo wl dl nl ll wd (changeD wd s d).1 → At H' (eSm nm (changeD wd s d).2.2) v → Q v H'
theorem sc_law_change : FnScope ["_law_world", "_law_deed", "_law_lines", "_law_defs_here", "_law_lists", "_law_to", "_law_name", "_law_mine", "_law_dropped"] ["_law_world", "_law_deed", "_law_lines"] (defScope s_law_change) := ⟨rfl, rfl, rfl, by decide +kernel, rfl, by decide +kernel, by decide +kernel⟩
theorem ok_law_change (T : Tx K mg) : Ok P w K mg base 3 (He.fAd K ("_law_change", none)) ["_law_world", "_law_deed", "_law_lines"] [] (spChange nm) := by
  obtain ⟨fd, F⟩ := T.f_law_change
  obtain ⟨fd_law_called, us_law_called, G_law_called, b_law_called, v_law_called, k_law_called, _⟩ := ok_law_called T
  refine mkOk F sc_law_change (bind0 F fun _ _ _ _ _ _ us hl => match us, hl with | [_, _, _], _ => rfl) (fun vs H Q E h => ?_) (fun cdv A outer s H vs Q E hr h => ?_)
  · obtain ⟨wo, wl, dl, nl, ll, li, dd, wd, s, d, L, rfl, _⟩ := h
    rfl
  obtain ⟨wo, wl, dl, nl, ll, li, dd, wd, s, d, L, rfl, q, dok, hk4, hdd, hli, off, offL, hL, h8, k⟩ := h
  refine ⟨_, (pss_cons (ps_set (i := 3) sc_law_change.nd rfl (Or.inl rfl) (pe_dget (hu_of hr) (pv 0) pe_str (fun _ _ => rfl)))
      (pss_cons (ps_set (i := 4) sc_law_change.nd rfl (Or.inl rfl) (pe_dget (hu_of hr) (pv 0) pe_str (fun _ _ => rfl)))
      (pss_cons (ps_set (i := 5) sc_law_change.nd rfl (Or.inl rfl) (pe_ix ix_list (pe_dget (hu_of hr) (pv 0) pe_str (fun _ _ => rfl)) (pe_ix ix_tup (pv 1) pe_int (fun _ _ => rfl)) (fun _ _ => rfl)))
      (pss_cons (ps_set (i := 6) sc_law_change.nd rfl (Or.inl rfl) (pe_tup (pa_cons pe_str (pa_cons (pe_ix ix_list (pe_dget (hu_of hr) (pv 0) pe_str (fun _ _ => rfl)) (pe_ix ix_tup (pv 1) pe_int (fun _ _ => rfl)) (fun _ _ => rfl)) pa_nil))))
      (pss_cons (ps_set (i := 7) sc_law_change.nd rfl (Or.inl rfl) (pe_tup (pa_cons pe_str (pa_cons (pv 5) pa_nil))))
      (pss_cons (ps_if (pt_cmpR op_eq (pe_ix ix_tup (pv 1) pe_int (fun _ _ => rfl)) pe_int (nomark _)) (pss_cons (ps_asg (pe_revT (pe_ix ix_list (pv 4) (pe_ix ix_tup (pv 1) pe_int (fun _ _ => rfl)) (fun _ _ => rfl))) (pg_sub (pv 4) (pe_ix ix_tup (pv 1) pe_int (fun _ _ => rfl)) set_list))
      (pss_one (ps_ret (pe_tup (pa_cons pe_str (pa_cons (pv 5) (pa_cons (pe_call G_law_called (hr.mono (by decide)) rfl T.g_law_called k_law_called b_law_called v_law_called pass0 (pa_cons (pe_ix ix_list (pv 3) pe_int (fun _ _ => rfl)) (pa_cons (pe_lst (pa_cons (pv 6) pa_nil)) pa_nil))) pa_nil))))))) pss_nil)
      (pss_cons (ps_if (PW.pt (pw_and (pt_cmpR op_eq (pe_ix ix_tup (pv 1) pe_int (fun _ _ => rfl)) pe_int (nomark _)) (pw_and1 (pt_cmpR op_le (pe_op op_add (pe_callB call_len_seq (by rfl) T.z_len PySem.boot_len (pa_cons (pe_ix ix_list (pv 4) (pe_ix ix_tup (pv 1) pe_int (fun _ _ => rfl)) (fun _ _ => rfl)) pa_nil)) (pe_callB call_len_seq (by rfl) T.z_len PySem.boot_len (pa_cons (pe_ix ix_list (pv 4) (pe_ix ix_tup (pv 1) pe_int (fun _ _ => rfl)) (fun _ _ => rfl)) pa_nil))) pe_int (nomark _))))) (pss_cons (ps_asg (pe_op op_catA (pe_ix ix_list (pv 4) (pe_ix ix_tup (pv 1) pe_int (fun _ _ => rfl)) (fun _ _ => rfl)) (pe_ix ix_list (pv 4) (pe_ix ix_tup (pv 1) pe_int (fun _ _ => rfl)) (fun _ _ => rfl))) (pg_sub (pv 4) (pe_ix ix_tup (pv 1) pe_int (fun _ _ => rfl)) set_list))
      (pss_one (ps_ret (pe_tup (pa_cons pe_str (pa_cons (pv 5) (pa_cons (pe_call G_law_called (hr.mono (by decide)) rfl T.g_law_called k_law_called b_law_called v_law_called pass0 (pa_cons (pe_ix ix_list (pv 3) pe_int (fun _ _ => rfl)) (pa_cons (pe_lst (pa_cons (pv 7) (pa_cons (pv 6) pa_nil))) pa_nil))) pa_nil))))))) pss_nil)
      (pss_cons (ps_if (pt_cmpR op_eq (pe_ix ix_tup (pv 1) pe_int (fun _ _ => rfl)) pe_int (nomark _)) (pss_cons (ps_asg (pe_ix ix_list (pv 4) (pe_ix ix_tup (pv 1) pe_int (fun _ _ => rfl)) (fun _ _ => rfl)) (pg_sub (pv 4) (pe_ix ix_tup (pv 1) pe_int (fun _ _ => rfl)) set_list))
      (pss_one (ps_ret (pe_tup (pa_cons pe_str (pa_cons (pv 5) (pa_cons (pv 6) pa_nil))))))) pss_nil)
      (pss_cons (ps_if (PW.pt (pw_or (pt_cmpR op_eq (pe_ix ix_tup (pv 1) pe_int (fun _ _ => rfl)) pe_int (nomark _)) (pw_or1 (pt_cmpR op_eq (pe_callB call_len_seq (by rfl) T.z_len PySem.boot_len (pa_cons (pe_ix ix_list (pv 4) (pe_ix ix_tup (pv 1) pe_int (fun _ _ => rfl)) (fun _ _ => rfl)) pa_nil)) pe_int (nomark _))))) (pss_cons (ps_if (pt_cmpR op_eq (pe_callB call_len_seq (by rfl) T.z_len PySem.boot_len (pa_cons (pe_ix ix_list (pv 4) (pe_ix ix_tup (pv 1) pe_int (fun _ _ => rfl)) (fun _ _ => rfl)) pa_nil)) pe_int (nomark _)) (pss_one (ps_expr (pe_bm PySem.F.plainAttrs_list PySem.F.slot_list_append PySem.F.type_list_append mt_append (pv 2) (pa_cons pe_str pa_nil)))) (pss_one (ps_asg (pe_slice sl_tupA (pe_ix ix_list (pv 4) (pe_ix ix_tup (pv 1) pe_int (fun _ _ => rfl)) (fun _ _ => rfl)) (po_some pe_int) po_none) (pg_sub (pv 4) (pe_ix ix_tup (pv 1) pe_int (fun _ _ => rfl)) set_list))))
      (pss_cons (ps_set (i := 8) sc_law_change.nd rfl (Or.inl rfl) (pe_tup (pa_cons pe_str (pa_cons (pv 5) (pa_cons (pe_call G_law_called (hr.mono (by decide)) rfl T.g_law_called k_law_called b_law_called v_law_called pass0 (pa_cons (pe_ix ix_list (pv 3) pe_int (fun _ _ => rfl)) (pa_cons (pe_lst (pa_cons (pv 6) pa_nil)) pa_nil))) pa_nil)))))
      (pss_one (ps_ret (pe_tup (pa_cons pe_str (pa_cons (pe_tup (pa_cons (pv 8) pa_nil)) (pa_cons (pe_dget (hu_of hr) (pv 0) pe_str (fun _ _ => rfl)) (pa_cons (pe_tup (pa_cons (pe_tup (pa_cons pe_str (pa_cons (pe_tup (pa_cons pe_str (pa_cons (pe_dget (hu_of hr) (pv 0) pe_str (fun _ _ => rfl)) pa_nil))) pa_nil))) pa_nil)) pa_nil))))))))) pss_nil)
      (pss_cons (ps_if (PW.pt (pw_and (pt_cmpR op_eq (pe_ix ix_tup (pv 1) pe_int (fun _ _ => rfl)) pe_int (nomark _)) (pw_and1 (pt_cmpR op_eq (pe_ix ix_tup (pv 1) pe_int (fun _ _ => rfl)) pe_int (nomark _))))) (pss_cons (ps_asg (pe_op op_catA (pe_tup (pa_cons (pe_ix ix_list (pv 4) (pe_ix ix_tup (pv 1) pe_int (fun _ _ => rfl)) (fun _ _ => rfl)) pa_nil)) (pe_ix ix_list (pv 4) (pe_ix ix_tup (pv 1) pe_int (fun _ _ => rfl)) (fun _ _ => rfl))) (pg_sub (pv 4) (pe_ix ix_tup (pv 1) pe_int (fun _ _ => rfl)) set_list))
      (pss_one (ps_ret (pe_tup (pa_cons pe_str (pa_cons (pv 5) (pa_cons (pe_call G_law_called (hr.mono (by decide)) rfl T.g_law_called k_law_called b_law_called v_law_called pass0 (pa_cons (pe_ix ix_list (pv 3) pe_int (fun _ _ => rfl)) (pa_cons (pe_lst (pa_cons (pv 6) (pa_cons (pv 7) pa_nil))) pa_nil))) pa_nil))))))) pss_nil)
      (pss_cons (ps_asg (pe_op op_catA (pe_tup (pa_cons (pe_ix ix_list (pe_dget (hu_of hr) (pv 0) pe_str (fun _ _ => rfl)) (pe_ix ix_tup (pv 1) pe_int (fun _ _ => rfl)) (fun _ _ => rfl)) pa_nil)) (pe_ix ix_list (pv 4) (pe_ix ix_tup (pv 1) pe_int (fun _ _ => rfl)) (fun _ _ => rfl))) (pg_sub (pv 4) (pe_ix ix_tup (pv 1) pe_int (fun _ _ => rfl)) set_list))
      (pss_one (ps_ret (pe_tup (pa_cons pe_str (pa_cons (pv 5) (pa_cons (pe_call G_law_called (hr.mono (by decide)) rfl T.g_law_called k_law_called b_law_called v_law_called pass0 (pa_cons (pe_ix ix_list (pv 3) pe_int (fun _ _ => rfl)) (pa_cons (pe_lst (pa_cons (pe_tup (pa_cons pe_str (pa_cons (pe_ix ix_list (pe_dget (hu_of hr) (pv 0) pe_str (fun _ _ => rfl)) (pe_ix ix_tup (pv 1) pe_int (fun _ _ => rfl)) (fun _ _ => rfl)) pa_nil))) (pa_cons (pv 7) pa_nil))) pa_nil))) pa_nil))))))))))))))))), ?_⟩
  have sz : 3000 < sizeLine := by decide
  refine asg_ev (ev_dget rfl q.hwo rfl) ?_
  refine asg_ev (ev_dget rfl q.hwo rfl) ?_
  refine asg_ev (ev_ixL (ev_dget rfl q.hwo rfl) (ev_ixT (ev_var rfl) ev_c hdd (atI_nat (j := 1) rfl)) q.hnl (nm_at dok.to)) ?_
  refine asg_mk (mk_tup (mkA_cons mk_str (mkA_cons (mk_ev (ev_ixL (ev_dget rfl q.hwo rfl) (ev_ixT (ev_var rfl) ev_c hdd (atI_nat (j := 2) rfl)) q.hnl (nm_at dok.fr))) mkA_nil)) (by show 2 ≤ sizeLine; decide)) fun H1 nv S1 an => ?_
  change tSeq _ _ _ [some (.ref wo), some (.ref dd), some (.ref li), some (.ref dl), some (.ref ll), some (.str (nm (ln d.to))), some nv, none, none] H1
  refine asg_mk (mk_tup (mkA_cons mk_str (mkA_cons (mk_var rfl .mkS) mkA_nil)) (by show 2 ≤ sizeLine; decide)) fun H2 mv S2 am => ?_
  change tSeq _ _ _ [some (.ref wo), some (.ref dd), some (.ref li), some (.ref dl), some (.ref ll), some (.str (nm (ln d.to))), some nv, some mv, none] H2
  have S12 := S1.trans S2
  have q2 := q.same S12
  have hdd2 := S12 _ _ hdd
  have hli2 := S12 _ _ hli
  have an2 := At.same (tps_of S2) _ _ an
  obtain ⟨ts, hl1, hl2, hl3⟩ := q2.hll
  obtain ⟨fv, hf1, hf2⟩ := hl3 d.fr dok.fr
  obtain ⟨tv, ht1, ht2⟩ := hl3 d.to dok.to
  obtain ⟨fp, fvs, rfl, hfp, hfvs⟩ := hf2.tup
  obtain ⟨tp, tvs, rfl, htp, htvs⟩ := ht2.tup
  have lf : fvs.length = (s d.fr).length := by rw [hfvs.len, toTs_len]
  have lt : tvs.length = (s d.to).length := by rw [htvs.len, toTs_len]
  have h8f := h8 d.fr dok.fr
  have h8t := h8 d.to dok.to
  have b12 : But2 li ll H H2 := fun a o _ _ h => S12 a o h
  have lli : li ≠ ll := off.ll.symm
  -- behind a list that is set
  have stp : ∀ (H3 : Hp) (v : V) (xs : List Th), Same H2 H3 → At H3 (tLs xs) v → Wo nm (upd H3 ll (.lst (ts.set d.to v))) wo wl dl nl ll wd (setL s d.to xs) ∧ But2 li ll H (upd H3 ll (.lst (ts.set d.to v))) ∧ Tps H2 (upd H3 ll (.lst (ts.set d.to v))) ∧ (upd H3 ll (.lst (ts.set d.to v))) li = some (.lst (L.map V.str)) := fun H3 v xs S3 av =>
    ⟨(q2.same S3).set offL (S3 _ _ hl1) dok.to av, fun a o n1 n2 h => by rw [upd_ne n2]; exact S3 _ _ (S12 _ _ h), (tps_of S3).trans (off_tps (S3 _ _ hl1) (by simp [tg])), by rw [upd_ne lli]; exact S3 _ _ hli2⟩
  have atf : Ev1 (tOp (rIxL K) (tVar 4) (tOp (rIxT K) (tVar 1) (tC (.int 2)))) [some (.ref wo), some (.ref dd), some (.ref li), some (.ref dl), some (.ref ll), some (.str (nm (ln d.to))), some nv, some mv, none] H2 (.ref fp) := ev_ixL (ev_var rfl) (ev_ixT (ev_var rfl) ev_c hdd2 (atI_nat (j := 2) rfl)) hl1 (atI_nat (j := d.fr) hf1)
  have att : Ev1 (tOp (rIxL K) (tVar 4) (tOp (rIxT K) (tVar 1) (tC (.int 1)))) [some (.ref wo), some (.ref dd), some (.ref li), some (.ref dl), some (.ref ll), some (.str (nm (ln d.to))), some nv, some mv, none] H2 (.ref tp) := ev_ixL (ev_var rfl) (ev_ixT (ev_var rfl) ev_c hdd2 (atI_nat (j := 1) rfl)) hl1 (atI_nat (j := d.to) ht1)
  have at1 : Ev1 (tOp (rIxT K) (tVar 1) (tC (.int 1))) [some (.ref wo), some (.ref dd), some (.ref li), some (.ref dl), some (.ref ll), some (.str (nm (ln d.to))), some nv, some mv, none] H2 (.int (d.to : Nat)) := ev_ixT (ev_var rfl) ev_c hdd2 (atI_nat (j := 1) rfl)
  have at0 : ∀ {Q : VK}, Q (.int (d.k : Nat)) H2 → (tOp (rIxT K) (tVar 1) (tC (.int 0))) [some (.ref wo), some (.ref dd), some (.ref li), some (.ref dl), some (.ref ll), some (.str (nm (ln d.to))), some nv, some mv, none] H2 Q := fun q => ev_ixT (ev_var rfl) ev_c hdd2 (atI_nat (j := 0) rfl) H2 (.refl H2) _ q
  have kf : ∀ {j : Nat}, d.k ≠ j → ¬ decide ((V.int (d.k : Nat) : V) = V.int (j : Nat)) = true := fun h => by
    rw [decide_eq_false (fun e => h (by have := V.int.inj e; omega))]
    simp
  have k0 : ∀ {j : Nat}, d.k = j → decide ((V.int (d.k : Nat) : V) = V.int (j : Nat)) = true := fun h => by rw [h]; simp
  refine ⟨_, rfl, dd, _, 0, _, rfl, rfl, SqT.of hdd2, atI_nat (j := 0) rfl, rfl, _, rfl, ?_⟩
  by_cases h1 : d.k = 1
  · refine kT (k0 h1) ?_
    have eD : changeD wd s d = (setL s d.to (s d.fr).reverse, [], .st (ln d.to) (callE 3 [.name (ln d.fr)])) := if_pos h1
    rw [eD] at k
    refine set_mk (mk_rev (mk_at atf hf2)) rfl at1 hl1 (by rw [hl2]; exact dok.to) fun H3 v S3 av => ?_
    have av' : At H3 (tLs (s d.fr).reverse) v := by
      have e : tLs (s d.fr).reverse = .t (toTs (s d.fr)).reverse := congrArg K38.T.t toTs_rev
      rw [e]; exact av
    obtain ⟨q4, b4, t4, e4⟩ := stp H3 v _ S3 av'
    generalize upd H3 ll (.lst (ts.set d.to v)) = H4 at q4 b4 t4 e4 ⊢
    change tRet _ _ [some (.ref wo), some (.ref dd), some (.ref li), some (.ref dl), some (.ref ll), some (.str (nm (ln d.to))), some nv, some mv, none] H4
    refine ret_mk (mk_tup (mkA_cons mk_str (mkA_cons (mk_var rfl .mkS) (mkA_cons (mk_called (mk_ix rfl q4.hdl rfl) (mk_lst (mkA_cons (mk_var rfl (At.same t4 _ _ an2)) mkA_nil) (by show 1 ≤ sizeLine; decide))) mkA_nil))) (by show 3 ≤ sizeLine; decide)) fun H6 v6 S6 a6 => ?_
    refine k H6 v6 (fun a o n1 n2 h => S6 _ _ (b4 a o n1 n2 h)) (by rw [List.append_nil]; exact S6 _ _ e4) (q4.same S6) ?_
    have e : eSm nm (.st (ln d.to) (callE 3 [.name (ln d.fr)])) = _ := (by simp only [eSms, loopS, callE, isNon, eSm, eRt, eEx, eExs, eTe, List.map_cons, List.map_nil, List.cons_append, List.nil_append]; rfl)
    rw [e]
    exact a6
  refine kF (kf h1) ?_
  refine ⟨_, rfl, dd, _, 0, _, rfl, rfl, SqT.of hdd2, atI_nat (j := 0) rfl, rfl, _, rfl, ?_⟩
  -- joined
  by_cases h2 : d.k = 2 ∧ (s d.to).length + (s d.fr).length ≤ 8
  · refine kT (k0 h2.1) ?_
    refine ⟨_, rfl, _, rfl, dd, _, 1, _, rfl, rfl, SqT.of hdd2, atI_nat (j := 1) rfl, ll, _, _, _, rfl, rfl, SqL.of hl1, atI_nat (j := d.to) ht1, tp, _, rfl, .inr (SqT.of htp), _, rfl, _, rfl, dd, _, 2, _, rfl, rfl, SqT.of hdd2, atI_nat (j := 2) rfl, ll, _, _, _, rfl, rfl, SqL.of hl1, atI_nat (j := d.fr) hf1, fp, _, rfl, .inr (SqT.of hfp), _, _, rfl, rfl, _, _, rfl, rfl, _, rfl, ?_⟩
    refine kT (by rw [lf, lt]; exact decide_eq_true (by omega)) ?_
    have eD : changeD wd s d = (setL s d.to (s d.to ++ s d.fr), [], .st (ln d.to) (callE 4 [.name (ln d.to), .name (ln d.fr)])) := (if_neg h1).trans (if_pos h2)
    rw [eD] at k
    refine set_mk (mk_cat (mk_at att ht2) (mk_at atf hf2) (by rw [toTs_len, toTs_len]; omega)) rfl at1 hl1 (by rw [hl2]; exact dok.to) fun H3 v S3 av => ?_
    have av' : At H3 (tLs (s d.to ++ s d.fr)) v := by
      have e : tLs (s d.to ++ s d.fr) = .t (toTs (s d.to) ++ toTs (s d.fr)) := congrArg K38.T.t toTs_app
      rw [e]; exact av
    obtain ⟨q4, b4, t4, e4⟩ := stp H3 v _ S3 av'
    generalize upd H3 ll (.lst (ts.set d.to v)) = H4 at q4 b4 t4 e4 ⊢
    change tRet _ _ [some (.ref wo), some (.ref dd), some (.ref li), some (.ref dl), some (.ref ll), some (.str (nm (ln d.to))), some nv, some mv, none] H4
    refine ret_mk (mk_tup (mkA_cons mk_str (mkA_cons (mk_var rfl .mkS) (mkA_cons (mk_called (mk_ix rfl q4.hdl rfl) (mk_lst (mkA_cons (mk_var rfl (At.same t4 _ _ am)) (mkA_cons (mk_var rfl (At.same t4 _ _ an2)) mkA_nil)) (by show 2 ≤ sizeLine; decide))) mkA_nil))) (by show 3 ≤ sizeLine; decide)) fun H6 v6 S6 a6 => ?_
    refine k H6 v6 (fun a o n1 n2 h => S6 _ _ (b4 a o n1 n2 h)) (by rw [List.append_nil]; exact S6 _ _ e4) (q4.same S6) ?_
    have e : eSm nm (.st (ln d.to) (callE 4 [.name (ln d.to), .name (ln d.fr)])) = _ := (by simp only [eSms, loopS, callE, isNon, eSm, eRt, eEx, eExs, eTe, List.map_cons, List.map_nil, List.cons_append, List.nil_append]; rfl)
    rw [e]
    exact a6
  refine both ?r2 (fun e r => ?s2) (fun e r => iteF r)
  case s2 =>
    have e2 : d.k = 2 := by have := V.int.inj (of_decide_eq_true e); omega
    refine ⟨_, rfl, _, rfl, dd, _, 1, _, rfl, rfl, SqT.of hdd2, atI_nat (j := 1) rfl, ll, _, _, _, rfl, rfl, SqL.of hl1, atI_nat (j := d.to) ht1, tp, _, rfl, .inr (SqT.of htp), _, rfl, _, rfl, dd, _, 2, _, rfl, rfl, SqT.of hdd2, atI_nat (j := 2) rfl, ll, _, _, _, rfl, rfl, SqL.of hl1, atI_nat (j := d.fr) hf1, fp, _, rfl, .inr (SqT.of hfp), _, _, rfl, rfl, _, _, rfl, rfl, _, rfl, ?_⟩
    exact kF (by rw [lf, lt, decide_eq_false (fun z => h2 ⟨e2, by omega⟩)]; simp) r
  case r2 =>
  refine ⟨_, rfl, dd, _, 0, _, rfl, rfl, SqT.of hdd2, atI_nat (j := 0) rfl, rfl, _, rfl, ?_⟩
  by_cases h3 : d.k = 3
  · refine kT (k0 h3) ?_
    have eD : changeD wd s d = (setL s d.to (s d.fr), [], .st (ln d.to) (.ex (.name (ln d.fr)))) := (if_neg h1).trans ((if_neg h2).trans (if_pos h3))
    rw [eD] at k
    refine set_mk (mk_at atf hf2) rfl at1 hl1 (by rw [hl2]; exact dok.to) fun H3 v S3 av => ?_
    have av' : At H3 (tLs (s d.fr)) v := av
    obtain ⟨q4, b4, t4, e4⟩ := stp H3 v _ S3 av'
    generalize upd H3 ll (.lst (ts.set d.to v)) = H4 at q4 b4 t4 e4 ⊢
    change tRet _ _ [some (.ref wo), some (.ref dd), some (.ref li), some (.ref dl), some (.ref ll), some (.str (nm (ln d.to))), some nv, some mv, none] H4
    refine ret_mk (mk_tup (mkA_cons mk_str (mkA_cons (mk_var rfl .mkS) (mkA_cons (mk_var rfl (At.same t4 _ _ an2)) mkA_nil))) (by show 3 ≤ sizeLine; decide)) fun H6 v6 S6 a6 => ?_
    refine k H6 v6 (fun a o n1 n2 h => S6 _ _ (b4 a o n1 n2 h)) (by rw [List.append_nil]; exact S6 _ _ e4) (q4.same S6) ?_
    have e : eSm nm (.st (ln d.to) (.ex (.name (ln d.fr)))) = _ := (by simp only [eSms, loopS, callE, isNon, eSm, eRt, eEx, eExs, eTe, List.map_cons, List.map_nil, List.cons_append, List.nil_append]; rfl)
    rw [e]
    exact a6
  refine kF (kf h3) ?_
  refine ⟨_, rfl, dd, _, 0, _, rfl, rfl, SqT.of hdd2, atI_nat (j := 0) rfl, rfl, _, rfl, ?_⟩
  by_cases h4 : d.k = 4 ∨ (s d.to).length = 8
  · refine both ?r4 (fun e r => iteT r) (fun e r => ?s4)
    case s4 =>
      have e4 : (s d.to).length = 8 := by
        rcases h4 with z | z
        · rw [z] at e; simp at e
        · exact z
      refine ⟨_, rfl, _, rfl, dd, _, 1, _, rfl, rfl, SqT.of hdd2, atI_nat (j := 1) rfl, ll, _, _, _, rfl, rfl, SqL.of hl1, atI_nat (j := d.to) ht1, tp, _, rfl, .inr (SqT.of htp), rfl, _, rfl, ?_⟩
      exact kT (by rw [lt, e4]; decide) r
    case r4 =>
      refine ⟨_, rfl, _, rfl, dd, _, 2, _, rfl, rfl, SqT.of hdd2, atI_nat (j := 2) rfl, ll, _, _, _, rfl, rfl, SqL.of hl1, atI_nat (j := d.fr) hf1, fp, _, rfl, .inr (SqT.of hfp), rfl, _, rfl, ?_⟩
      cases hs : s d.fr with
      | nil =>
        have eD : changeD wd s d = (s, ([Str.ofString "nofunc"] : List Str), Sm.tr [.st (ln d.to) (callE 2 [.name (ln d.fr)])] 11 [.pr (.name 11)]) := by
          unfold changeD
          rw [if_neg h1, if_neg h2, if_neg h3, if_pos h4, hs]
        rw [eD] at k
        refine kT (by rw [lf, hs]; decide) ?_
        refine ⟨_, rfl, .inl ⟨rfl, _, SqL.of hli2⟩, li, _, _, rfl, rfl, hli2, by rw [List.length_map]; omega, ?_⟩
        have bb : But li H2 (upd H2 li (.lst (L.map V.str ++ [.str "nofunc"]))) := But.at H2
        have q4 := q2.but bb hli2 off
        have b4 : But2 li ll H (upd H2 li (.lst (L.map V.str ++ [.str "nofunc"]))) := fun a o n1 n2 h => by rw [upd_ne n1]; exact b12 a o n1 n2 h
        have t4 := bb.tps hli2
        have e4 : (upd H2 li (.lst (L.map V.str ++ [.str "nofunc"]))) li = some (.lst ((L ++ ([Str.ofString "nofunc"] : List Str)).map V.str)) := by rw [upd_same, List.map_append]; rfl
        generalize upd H2 li (.lst (L.map V.str ++ [.str "nofunc"])) = H4 at q4 b4 t4 e4 ⊢
        change tSeq _ _ _ [some (.ref wo), some (.ref dd), some (.ref li), some (.ref dl), some (.ref ll), some (.str (nm (ln d.to))), some nv, some mv, none] H4
        refine asg_mk (mk_tup (mkA_cons mk_str (mkA_cons (mk_var rfl .mkS) (mkA_cons (mk_called (mk_ix rfl q4.hdl rfl) (mk_lst (mkA_cons (mk_var rfl (At.same t4 _ _ an2)) mkA_nil) (by show 1 ≤ sizeLine; decide))) mkA_nil))) (by show 3 ≤ sizeLine; decide)) fun H5 v5 S5 a5 => ?_
        change tRet _ _ [some (.ref wo), some (.ref dd), some (.ref li), some (.ref dl), some (.ref ll), some (.str (nm (ln d.to))), some nv, some mv, some v5] H5
        refine ret_mk (mk_tup (mkA_cons mk_str (mkA_cons (mk_tup (mkA_cons (mk_var rfl a5) mkA_nil) (by show 1 ≤ sizeLine; decide)) (mkA_cons (mk_ev (ev_dget rfl (S5 _ _ q4.hwo) rfl)) (mkA_cons (mk_tup (mkA_cons (mk_tup (mkA_cons mk_str (mkA_cons (mk_tup (mkA_cons mk_str (mkA_cons (mk_ev (ev_dget rfl (S5 _ _ q4.hwo) rfl)) mkA_nil)) (by show 2 ≤ sizeLine; decide)) mkA_nil)) (by show 2 ≤ sizeLine; decide)) mkA_nil) (by show 1 ≤ sizeLine; decide)) mkA_nil)))) (by show 4 ≤ sizeLine; decide)) fun H6 v6 S6 a6 => ?_
        refine k H6 v6 (fun a o n1 n2 h => S6 _ _ (S5 _ _ (b4 a o n1 n2 h))) (S6 _ _ (S5 _ _ e4)) (q4.same (S5.trans S6)) ?_
        have e : eSm nm (.tr [.st (ln d.to) (callE 2 [.name (ln d.fr)])] 11 [.pr (.name 11)]) = _ := (by simp only [eSms, loopS, callE, isNon, eSm, eRt, eEx, eExs, eTe, List.map_cons, List.map_nil, List.cons_append, List.nil_append]; rfl)
        rw [e]
        exact a6
      | cons x xs =>
        have eD : changeD wd s d = (setL s d.to xs, [], .tr [.st (ln d.to) (callE 2 [.name (ln d.fr)])] 11 [.pr (.name 11)]) := by
          unfold changeD
          rw [if_neg h1, if_neg h2, if_neg h3, if_pos h4, hs]
        rw [eD] at k
        refine kF (by rw [lf, hs, List.length_cons, decide_eq_false (fun z => by have := V.int.inj z; omega)]; simp) ?_
        have hf2' : At H2 (.t (toT x :: toTs xs)) (.ref fp) := by rw [hs] at hf2; exact hf2
        refine set_mk1 (mk_tail (mk_at atf hf2')) rfl at1 hl1 (by rw [hl2]; exact dok.to) fun H3 v S3 av => ?_
        obtain ⟨q4, b4, t4, e4⟩ := stp H3 v xs S3 av
        generalize upd H3 ll (.lst (ts.set d.to v)) = H4 at q4 b4 t4 e4 ⊢
        rw [show L.map V.str = (L ++ []).map V.str by rw [List.append_nil]] at e4
        change tSeq _ _ _ [some (.ref wo), some (.ref dd), some (.ref li), some (.ref dl), some (.ref ll), some (.str (nm (ln d.to))), some nv, some mv, none] H4
        refine asg_mk (mk_tup (mkA_cons mk_str (mkA_cons (mk_var rfl .mkS) (mkA_cons (mk_called (mk_ix rfl q4.hdl rfl) (mk_lst (mkA_cons (mk_var rfl (At.same t4 _ _ an2)) mkA_nil) (by show 1 ≤ sizeLine; decide))) mkA_nil))) (by show 3 ≤ sizeLine; decide)) fun H5 v5 S5 a5 => ?_
        change tRet _ _ [some (.ref wo), some (.ref dd), some (.ref li), some (.ref dl), some (.ref ll), some (.str (nm (ln d.to))), some nv, some mv, some v5] H5
        refine ret_mk (mk_tup (mkA_cons mk_str (mkA_cons (mk_tup (mkA_cons (mk_var rfl a5) mkA_nil) (by show 1 ≤ sizeLine; decide)) (mkA_cons (mk_ev (ev_dget rfl (S5 _ _ q4.hwo) rfl)) (mkA_cons (mk_tup (mkA_cons (mk_tup (mkA_cons mk_str (mkA_cons (mk_tup (mkA_cons mk_str (mkA_cons (mk_ev (ev_dget rfl (S5 _ _ q4.hwo) rfl)) mkA_nil)) (by show 2 ≤ sizeLine; decide)) mkA_nil)) (by show 2 ≤ sizeLine; decide)) mkA_nil) (by show 1 ≤ sizeLine; decide)) mkA_nil)))) (by show 4 ≤ sizeLine; decide)) fun H6 v6 S6 a6 => ?_
        refine k H6 v6 (fun a o n1 n2 h => S6 _ _ (S5 _ _ (b4 a o n1 n2 h))) (S6 _ _ (S5 _ _ e4)) (q4.same (S5.trans S6)) ?_
        have e : eSm nm (.tr [.st (ln d.to) (callE 2 [.name (ln d.fr)])] 11 [.pr (.name 11)]) = _ := (by simp only [eSms, loopS, callE, isNon, eSm, eRt, eEx, eExs, eTe, List.map_cons, List.map_nil, List.cons_append, List.nil_append]; rfl)
        rw [e]
        exact a6
  have h4a : d.k ≠ 4 := fun e => h4 (.inl e)
  have h4b : (s d.to).length ≠ 8 := fun e => h4 (.inr e)
  refine kF (kf h4a) ?_
  refine ⟨_, rfl, _, rfl, dd, _, 1, _, rfl, rfl, SqT.of hdd2, atI_nat (j := 1) rfl, ll, _, _, _, rfl, rfl, SqL.of hl1, atI_nat (j := d.to) ht1, tp, _, rfl, .inr (SqT.of htp), rfl, _, rfl, ?_⟩
  refine kF (by rw [lt, decide_eq_false (fun z => h4b (by have := V.int.inj z; omega))]; simp) ?_
  refine ⟨_, rfl, dd, _, 0, _, rfl, rfl, SqT.of hdd2, atI_nat (j := 0) rfl, rfl, _, rfl, ?_⟩
  by_cases h5 : d.k = 0 ∧ d.wi = 3
  · refine kT (k0 h5.1) ?_
    refine ⟨_, rfl, dd, _, 3, _, rfl, rfl, SqT.of hdd2, atI_nat (j := 3) rfl, rfl, _, rfl, ?_⟩
    refine kT (by rw [h5.2]; decide) ?_
    have eD : changeD wd s d = (setL s d.to (.l (s d.fr) :: s d.to), [], .st (ln d.to) (callE 0 [.name (ln d.fr), .name (ln d.to)])) := by
      unfold changeD
      rw [if_neg h1, if_neg h2, if_neg h3, if_neg h4, if_pos h5]
    rw [eD] at k
    refine set_mk (mk_cat (mk_tup (mkA_cons (mk_at atf hf2) mkA_nil) (by show 1 ≤ sizeLine; decide)) (mk_at att ht2) (by rw [toTs_len, List.length_cons, List.length_nil]; omega)) rfl at1 hl1 (by rw [hl2]; exact dok.to) fun H3 v S3 av => ?_
    have av' : At H3 (tLs (.l (s d.fr) :: s d.to)) v := by
      have e : tLs (.l (s d.fr) :: s d.to) = .t ([tLs (s d.fr)] ++ toTs (s d.to)) := by simp [toTs, toT]
      rw [e]; exact av
    obtain ⟨q4, b4, t4, e4⟩ := stp H3 v _ S3 av'
    generalize upd H3 ll (.lst (ts.set d.to v)) = H4 at q4 b4 t4 e4 ⊢
    change tRet _ _ [some (.ref wo), some (.ref dd), some (.ref li), some (.ref dl), some (.ref ll), some (.str (nm (ln d.to))), some nv, some mv, none] H4
    refine ret_mk (mk_tup (mkA_cons mk_str (mkA_cons (mk_var rfl .mkS) (mkA_cons (mk_called (mk_ix rfl q4.hdl rfl) (mk_lst (mkA_cons (mk_var rfl (At.same t4 _ _ an2)) (mkA_cons (mk_var rfl (At.same t4 _ _ am)) mkA_nil)) (by show 2 ≤ sizeLine; decide))) mkA_nil))) (by show 3 ≤ sizeLine; decide)) fun H6 v6 S6 a6 => ?_
    refine k H6 v6 (fun a o n1 n2 h => S6 _ _ (b4 a o n1 n2 h)) (by rw [List.append_nil]; exact S6 _ _ e4) (q4.same S6) ?_
    have e : eSm nm (.st (ln d.to) (callE 0 [.name (ln d.fr), .name (ln d.to)])) = _ := (by simp only [eSms, loopS, callE, isNon, eSm, eRt, eEx, eExs, eTe, List.map_cons, List.map_nil, List.cons_append, List.nil_append]; rfl)
    rw [e]
    exact a6
  refine both ?r5 (fun e r => ?s5) (fun e r => iteF r)
  case s5 =>
    have e5 : d.k = 0 := by have := V.int.inj (of_decide_eq_true e); omega
    refine ⟨_, rfl, dd, _, 3, _, rfl, rfl, SqT.of hdd2, atI_nat (j := 3) rfl, rfl, _, rfl, ?_⟩
    exact kF (by rw [decide_eq_false (fun z => h5 ⟨e5, by have := V.int.inj z; omega⟩)]; simp) r
  case r5 =>
    have eD : changeD wd s d = (setL s d.to (.w (wd d.wi) :: s d.to), [], .st (ln d.to) (callE 0 [.word (wd d.wi), .name (ln d.to)])) := by
      unfold changeD
      rw [if_neg h1, if_neg h2, if_neg h3, if_neg h4, if_neg h5]
    rw [eD] at k
    have atw : Ev1 (tOp (rIxL K) (tDGet (tVar 0) (tC (.str "words"))) (tOp (rIxT K) (tVar 1) (tC (.int 3)))) [some (.ref wo), some (.ref dd), some (.ref li), some (.ref dl), some (.ref ll), some (.str (nm (ln d.to))), some nv, some mv, none] H2 (.str (wd d.wi)) := ev_ixL (ev_dget rfl q2.hwo rfl) (ev_ixT (ev_var rfl) ev_c hdd2 (atI_nat (j := 3) rfl)) q2.hwl (wd_at dok.wi)
    refine set_mk (mk_cat (mk_tup (mkA_cons (mk_ev atw) mkA_nil) (by show 1 ≤ sizeLine; decide)) (mk_at att ht2) (by rw [toTs_len, List.length_cons, List.length_nil]; omega)) rfl at1 hl1 (by rw [hl2]; exact dok.to) fun H3 v S3 av => ?_
    have av' : At H3 (tLs (.w (wd d.wi) :: s d.to)) v := by
      have e : tLs (.w (wd d.wi) :: s d.to) = .t ([.s (wd d.wi)] ++ toTs (s d.to)) := by simp [toTs, toT]
      rw [e]; exact av
    obtain ⟨q4, b4, t4, e4⟩ := stp H3 v _ S3 av'
    generalize upd H3 ll (.lst (ts.set d.to v)) = H4 at q4 b4 t4 e4 ⊢
    change tRet _ _ [some (.ref wo), some (.ref dd), some (.ref li), some (.ref dl), some (.ref ll), some (.str (nm (ln d.to))), some nv, some mv, none] H4
    refine ret_mk (mk_tup (mkA_cons mk_str (mkA_cons (mk_var rfl .mkS) (mkA_cons (mk_called (mk_ix rfl q4.hdl rfl) (mk_lst (mkA_cons (mk_tup (mkA_cons mk_str (mkA_cons (mk_ev (ev_ixL (ev_dget rfl q4.hwo rfl) (ev_ixT (ev_var rfl) ev_c (t4 _ _ hdd2) (atI_nat (j := 3) rfl)) q4.hwl (wd_at dok.wi))) mkA_nil)) (by show 2 ≤ sizeLine; decide)) (mkA_cons (mk_var rfl (At.same t4 _ _ am)) mkA_nil)) (by show 2 ≤ sizeLine; decide))) mkA_nil))) (by show 3 ≤ sizeLine; decide)) fun H6 v6 S6 a6 => ?_
    refine k H6 v6 (fun a o n1 n2 h => S6 _ _ (b4 a o n1 n2 h)) (by rw [List.append_nil]; exact S6 _ _ e4) (q4.same S6) ?_
    have e : eSm nm (.st (ln d.to) (callE 0 [.word (wd d.wi), .name (ln d.to)])) = _ := (by simp only [eSms, loopS, callE, isNon, eSm, eRt, eEx, eExs, eTe, List.map_cons, List.map_nil, List.cons_append, List.nil_append]; rfl)
    rw [e]
    exact a6

end
end K38
end
section
/-! K38L7: names. -/
namespace K38
open PySem PySem.Spec PyProof.Rows L2
/-- a name, its first sign the letter of this place -/
def Fst (side : Nat) (j : Nat) (x : Str) : Prop := okNm x ∧ j < 13 ∧ x.cps.toList[0]? = letters.cps.toList[2 * j + side]?
def Seqn (first side : Nat) (L : List Str) (n : Nat) : Prop := L.length = n ∧ ∀ k, k < n → ∃ x d, L[k]? = some x ∧ d < 2 ∧ Fst side ((first + 2 * k + d) % 13) x
theorem letters_len : letters.cps.toList.length = 26 := by decide +kernel
theorem letters_inj : ∀ i j, i < 26 → j < 26 → letters.cps.toList[i]? = letters.cps.toList[j]? → i = j := by
  intro i j hi hj h
  have nd : letters.cps.toList.Nodup := by decide +kernel
  have h1 : i < letters.cps.toList.length := by rw [letters_len]; exact hi
  have h2 : j < letters.cps.toList.length := by rw [letters_len]; exact hj
  rw [List.getElem?_eq_getElem h1, List.getElem?_eq_getElem h2] at h
  exact (List.getElem_inj nd).mp (Option.some.inj h)
/-- what names tells -/
structure NmsOk (side : Nat) (n : Nat) (L : List Str) : Prop where
  len : L.length = n
  nd : L.Nodup
  ok : ∀ x ∈ L, ∃ j, Fst side j x
theorem Seqn.ok {first side n : Nat} {L : List Str} (h : Seqn first side L n) (hn : n ≤ 6) (hs : side < 2) : NmsOk side n L := by
  obtain ⟨hl, hk⟩ := h
  have get : ∀ k (hk' : k < L.length), ∃ d, d < 2 ∧ Fst side ((first + 2 * k + d) % 13) L[k] := fun k hk' => by
    obtain ⟨x, d, h1, h2, h3⟩ := hk k (by omega)
    rw [List.getElem?_eq_getElem hk'] at h1
    cases h1
    exact ⟨d, h2, h3⟩
  refine ⟨hl, ?_, fun x hx => ?_⟩
  · rw [List.nodup_iff_pairwise_ne, List.pairwise_iff_getElem]
    intro i j hi hj hij e
    obtain ⟨d1, a1, _, b1, c1⟩ := get i hi
    obtain ⟨d2, a2, _, b2, c2⟩ := get j hj
    rw [e, c2] at c1
    have z := letters_inj _ _ (by omega) (by omega) c1
    have z1 := Nat.div_add_mod (first + 2 * i + d1) 13
    have z2 := Nat.div_add_mod (first + 2 * j + d2) 13
    generalize (first + 2 * i + d1) / 13 = q1 at z1
    generalize (first + 2 * j + d2) / 13 = q2 at z2
    rcases Nat.lt_or_ge q1 q2 with h | h <;> omega
  · obtain ⟨k, hk', rfl⟩ := List.mem_iff_getElem.mp hx
    obtain ⟨d, _, h3⟩ := get k hk'
    exact ⟨_, h3⟩
theorem NmsOk.rev {side n : Nat} {L : List Str} (h : NmsOk side n L) : NmsOk side n L.reverse :=
  ⟨by rw [List.length_reverse]; exact h.len, (by unfold List.Nodup; rw [List.pairwise_reverse]; exact List.Pairwise.imp (fun h => h.symm) h.nd), fun x hx => h.ok x (List.mem_reverse.mp hx)⟩
section
variable {P : Program} {w : World} {K : PySem.W.Frag} {mg : Str → Option Value} {base : Heap} {H H' H'' H0 : Hp}
theorem But2.refl {c cl : Addr} (H : Hp) : But2 c cl H H := fun _ _ _ _ h => h
theorem But2.trans {c cl : Addr} {H H1 H2 : Hp} (a : But2 c cl H H1) (b : But2 c cl H1 H2) : But2 c cl H H2 := fun x o n1 n2 h => b x o n1 n2 (a x o n1 n2 h)
theorem But2.of {c cl : Addr} (S : Same H H') : But2 c cl H H' := fun a o _ _ h => S a o h
theorem But2.free {c cl a : Addr} (b : But2 c cl H H') (h : H' a = none) (n1 : a ≠ c) (n2 : a ≠ cl) : H a = none := by
  cases e : H a with
  | none => rfl
  | some o => rw [b a o n1 n2 e] at h; cases h
theorem Tape.same {tp c cl : Addr} {cnt : Int} {ns : List Int} (t : Tape H tp c cl cnt ns) (S : Same H H') : Tape H' tp c cl cnt ns := ⟨S _ _ t.htp, S _ _ t.hc, S _ _ t.hcl, t.pos, t.ne1, t.ne2, t.ne3⟩
theorem Tape.off {tp c cl l : Addr} {cnt : Int} {ns : List Int} {o' : HO} (t : Tape H tp c cl cnt ns) (h1 : l ≠ tp) (h2 : l ≠ c) (h3 : l ≠ cl) : Tape (upd H l o') tp c cl cnt ns := ⟨(upd_ne h1.symm).trans t.htp, (upd_ne h2.symm).trans t.hc, (upd_ne h3.symm).trans t.hcl, t.pos, t.ne1, t.ne2, t.ne3⟩
theorem Tape.fresh {tp c cl l : Addr} {cnt : Int} {ns : List Int} (t : Tape H tp c cl cnt ns) (h : H l = none) : l ≠ tp ∧ l ≠ c ∧ l ≠ cl := ⟨(ne_of_none t.htp h).symm, (ne_of_none t.hc h).symm, (ne_of_none t.hcl h).symm⟩
def spNames : Sp := fun vs H Q _ => ∃ (tp c cl : Addr) (cnt : Int) (ns : List Int) (many first side : Nat), vs = [.ref tp, .int (many : Nat), .int (first : Nat), .int (side : Nat)] ∧ many ≤ 6 ∧ first < 13 ∧ side < 2 ∧ Tape H tp c cl cnt ns ∧
  ∀ H' l cnt' ns' L, Tape H' tp c cl cnt' ns' → But2 c cl H H' → H l = none → H' l = some (.lst (L.map V.str)) → NmsOk side many L → Q (.ref l) H'
theorem ix_letters {i : Nat} (h : i < 26) : ∃ ch, atI letters.cps.toList (i : Int) = some ch ∧ letters.cps.toList[i]? = some ch := by
  have hl : i < letters.cps.toList.length := by rw [letters_len]; exact h
  exact ⟨letters.cps.toList[i], atI_nat (j := i) (List.getElem?_eq_getElem hl), List.getElem?_eq_getElem hl⟩
theorem app_cps {x : Str} {ch : Nat} : (x ++ (⟨#[ch]⟩ : Str)).cps.toList = x.cps.toList ++ [ch] := by
  show (x.cps ++ #[ch]).toList = _
  rw [Array.toList_append]
theorem app_len {x : Str} {ch : Nat} : (x ++ (⟨#[ch]⟩ : Str)).length = x.length + 1 := by
  show (x.cps ++ #[ch]).size = x.cps.size + 1
  rw [Array.size_append]
  rfl
/-- a name that grows -/
structure Grow (side j : Nat) (x : Str) (n : Nat) : Prop where
  len : x.length = n + 1
  let_ : ∀ c ∈ x.cps.toList, c ∈ letters.cps.toList
  jl : j < 13
  fst : x.cps.toList[0]? = letters.cps.toList[2 * j + side]?
theorem sc_law_names : FnScope ["_law_tape", "_law_many", "_law_first", "_law_side", "_law_letters", "_law_names_here", "_law_k", "_law_name", "_law_more"] ["_law_tape", "_law_many", "_law_first", "_law_side"] (defScope s_law_names) := ⟨rfl, rfl, rfl, by decide +kernel, rfl, by decide +kernel, by decide +kernel⟩
theorem ok_law_names (T : Tx K mg) : Ok P w K mg base 2 (He.fAd K ("_law_names", none)) ["_law_tape", "_law_many", "_law_first", "_law_side"] [] spNames := by
  obtain ⟨fd, F⟩ := T.f_law_names
  obtain ⟨fd_law_draw, us_law_draw, G_law_draw, b_law_draw, v_law_draw, k_law_draw, _⟩ := ok_law_draw T
  refine mkOk F sc_law_names (bind0 F fun _ _ _ _ _ _ us hl => match us, hl with | [_, _, _, _], _ => rfl) (fun vs H Q E h => ?_) (fun cdv A outer s H vs Q E hr h => ?_)
  · obtain ⟨tp, c, cl, cnt, ns, many, first, side, rfl, _⟩ := h
    rfl
  obtain ⟨tp, c, cl, cnt, ns, many, first, side, rfl, hm6, hf13, hs2, t, k⟩ := h
  refine ⟨_, (pss_cons (ps_set (i := 4) sc_law_names.nd rfl (Or.inl rfl) pe_str)
      (pss_cons (ps_set (i := 5) sc_law_names.nd rfl (Or.inl rfl) (pe_lst pa_nil))
      (pss_cons (ps_for PassesOwn.never rfl (pi_range1 rfl T.z_range (pa_cons (pv 1) pa_nil)) (pg_name (i := 6) sc_law_names.nd rfl (Or.inl rfl))
      (pss_cons (ps_set (i := 7) sc_law_names.nd rfl (Or.inl rfl) (pe_ix ix_str (pv 4) (pe_op op_add (pe_op op_mul pe_int (pe_op op_mod (pe_callTy call_int1 (by rfl) T.z_int (by decide +kernel) (pa_cons (pe_op op_add (pe_op op_add (pv 2) (pe_op op_mul pe_int (pv 6))) (pe_call G_law_draw (hr.mono (by decide)) rfl T.g_law_draw k_law_draw b_law_draw v_law_draw pass0 (pa_cons (pv 0) (pa_cons pe_int pa_nil)))) pa_nil)) pe_int)) (pv 3)) (fun _ _ => rfl)))
      (pss_cons (ps_for PassesOwn.never rfl (pi_range1 rfl T.z_range (pa_cons (pe_call G_law_draw (hr.mono (by decide)) rfl T.g_law_draw k_law_draw b_law_draw v_law_draw pass0 (pa_cons (pv 0) (pa_cons pe_int pa_nil))) pa_nil)) (pg_name (i := 8) sc_law_names.nd rfl (Or.inl rfl))
      (pss_one (ps_set (i := 7) sc_law_names.nd rfl (Or.inl rfl) (pe_op op_add_str (pv 7) (pe_ix ix_str (pv 4) (pe_call G_law_draw (hr.mono (by decide)) rfl T.g_law_draw k_law_draw b_law_draw v_law_draw pass0 (pa_cons (pv 0) (pa_cons pe_int pa_nil))) (fun _ _ => rfl))))))
      (pss_one (ps_expr (pe_bm PySem.F.plainAttrs_list PySem.F.slot_list_append PySem.F.type_list_append mt_append (pv 5) (pa_cons (pv 7) pa_nil)))))))
      (pss_cons (ps_if (pt_cmpR op_eq (pe_call G_law_draw (hr.mono (by decide)) rfl T.g_law_draw k_law_draw b_law_draw v_law_draw pass0 (pa_cons (pv 0) (pa_cons pe_int pa_nil))) pe_int (nomark _)) (pss_one (ps_set (i := 5) sc_law_names.nd rfl (Or.inl rfl) (pe_revL (pv 5)))) pss_nil)
      (pss_one (ps_ret (pv 5))))))), ?_⟩
  have szm : ((letters : Str).length : Nat) ≤ sizeLine := by decide +kernel
  have sz : 100 < sizeLine := by decide
  have e62 : (2 : Int) ^ 62 = 4611686018427387904 := by decide +kernel
  have e64 : (2 : Int) ^ 64 = 18446744073709551616 := by decide +kernel
  refine ⟨by show 0 ≤ sizeLine; decide, fun l0 hl0 => ?_⟩
  have S1 := same_new hl0 (.lst [])
  have t1 := t.same S1
  obtain ⟨n0, n1, n2⟩ := t.fresh hl0
  have el : (upd H l0 (.lst [])) l0 = some (.lst (([] : List Str).map V.str)) := upd_same
  have b1 : But2 c cl H (upd H l0 (.lst [])) := But2.of S1
  generalize upd H l0 (.lst []) = H1 at t1 el b1 ⊢
  -- the names
  refine ⟨_, rfl, (many : Int), rfl, by omega, by omega, ?_⟩
  refine for_it (walk_range (lo := 0) (n := ((many : Nat) : Int).toNat)) (fun i σ H' => ∃ u6 u7 u8 cnt ns L, σ = [some (.ref tp), some (.int (many : Nat)), some (.int (first : Nat)), some (.int (side : Nat)), some (.str letters), some (.ref l0), u6, u7, u8] ∧ Tape H' tp c cl cnt ns ∧ But2 c cl H H' ∧ H' l0 = some (.lst (L.map V.str)) ∧ Seqn first side L i) ⟨_, _, _, cnt, ns, [], rfl, t1, b1, el, rfl, fun k hk => absurd hk (Nat.not_lt_zero _)⟩ (fun _ _ _ _ _ => trivial) ?_ ?_
  · rintro i y σ H2 H2' hi ⟨u6, u7, u8, cnt2, ns2, L, rfl, t2, b2, e2, sq⟩ ⟨rfl, rfl⟩
    rw [Int.toNat_natCast] at hi
    -- name = letters[..]
    refine ⟨_, rfl, _, rfl, _, rfl, _, _, rfl, rfl, .inl ⟨by omega, by omega⟩, _, _, rfl, rfl, _, rfl, tp, c, cl, cnt2, ns2, 2, rfl, by decide, by decide, t2, fun H3 cnt3 ns3 r t3 b3 r0 r1 => ?_⟩
    obtain ⟨d, rfl⟩ : ∃ d : Nat, r = (d : Int) := ⟨r.toNat, by omega⟩
    have hd2 : d < 2 := by omega
    have ev : (2 : Int) * (((first : Nat) : Int) + 2 * (0 + (i : Int)) + (d : Int)).emod 13 + ((side : Nat) : Int) = ((2 * ((first + 2 * i + d) % 13) + side : Nat) : Int) := by
      have e : ((first : Nat) : Int) + 2 * (0 + (i : Int)) + (d : Int) = ((first + 2 * i + d : Nat) : Int) := by omega
      rw [e]
      show (2 : Int) * (((first + 2 * i + d : Nat) : Int) % 13) + _ = _
      omega
    obtain ⟨ch, hc1, hc2⟩ := ix_letters (i := 2 * ((first + 2 * i + d) % 13) + side) (by omega)
    rw [← ev] at hc1
    refine ⟨_, _, rfl, rfl, .inl ⟨_, rfl, _, _, rfl, rfl, (show (0 : Int) < 13 by decide), _, _, rfl, rfl, .inl ⟨by omega, by omega⟩, _, rfl, _, _, rfl, rfl, letters, _, ch, rfl, rfl, szm, hc1, ?_⟩⟩
    have g0 : Grow side ((first + 2 * i + d) % 13) (⟨#[ch]⟩ : Str) 0 := ⟨rfl, fun c hc => (by
      have : c = ch := by simpa using hc
      rw [this]; exact List.mem_of_getElem? hc2), by omega, hc2.symm⟩
    have b23 := b2.trans b3
    have e3 := b3 _ _ n1 n2 e2
    -- more letters
    refine ⟨_, rfl, tp, c, cl, cnt3, ns3, 8, rfl, by decide, by decide, t3, fun H4 cnt4 ns4 m t4 b4 m0 m1 => ?_⟩
    obtain ⟨mm, rfl⟩ : ∃ d : Nat, m = (d : Int) := ⟨m.toNat, by omega⟩
    have e4 := b4 _ _ n1 n2 e3
    have b24 := b23.trans b4
    refine ⟨(mm : Int), rfl, by omega, by omega, ?_⟩
    refine for_it (walk_range (lo := 0) (n := ((mm : Nat) : Int).toNat)) (fun i2 σ H' => ∃ u8 cnt ns x, σ = [some (.ref tp), some (.int (many : Nat)), some (.int (first : Nat)), some (.int (side : Nat)), some (.str letters), some (.ref l0), some (.int (0 + (i : Int))), some (.str x), u8] ∧ Tape H' tp c cl cnt ns ∧ But2 c cl H H' ∧ H' l0 = some (.lst (L.map V.str)) ∧ Grow side ((first + 2 * i + d) % 13) x i2) ⟨_, cnt4, ns4, _, rfl, t4, b24, e4, g0⟩ (fun _ _ _ _ _ => trivial) ?_ ?_
    · rintro i2 y σ H5 H5' hi2 ⟨u8, cnt5, ns5, x, rfl, t5, b5, e5, g5⟩ ⟨rfl, rfl⟩
      rw [Int.toNat_natCast] at hi2
      refine ⟨_, rfl, _, rfl, _, rfl, tp, c, cl, cnt5, ns5, 26, rfl, by decide, by decide, t5, fun H6 cnt6 ns6 r6 t6 b6 r60 r61 => ?_⟩
      obtain ⟨d6, rfl⟩ : ∃ d : Nat, r6 = (d : Int) := ⟨r6.toNat, by omega⟩
      obtain ⟨c6, hc61, hc62⟩ := ix_letters (i := d6) (by omega)
      refine ⟨letters, _, c6, rfl, rfl, szm, hc61, _, _, rfl, rfl, by rw [g5.len]; show i2 + 1 + 1 ≤ sizeLine; omega, ?_⟩
      refine ⟨_, cnt6, ns6, _, rfl, t6, b5.trans b6, b6 _ _ n1 n2 e5, by rw [app_len, g5.len], fun c hc => ?_, g5.jl, ?_⟩
      · rw [app_cps] at hc
        rcases List.mem_append.mp hc with hc | hc
        · exact g5.let_ c hc
        · have : c = c6 := by simpa using hc
          rw [this]; exact List.mem_of_getElem? hc62
      · rw [app_cps, List.getElem?_append_left (by have := g5.len; show 0 < x.cps.toList.length; rw [Array.length_toList]; have e : x.cps.size = i2 + 1 := this; omega)]
        exact g5.fst
    · rintro σ H5 ⟨u8, cnt5, ns5, x, rfl, t5, b5, e5, g5⟩
      rw [Int.toNat_natCast] at g5
      refine ⟨_, rfl, .inl ⟨rfl, _, SqL.of e5⟩, _, rfl, l0, _, _, rfl, rfl, e5, by rw [List.length_map, sq.1]; omega, ?_⟩
      refine ⟨_, _, _, cnt5, ns5, L ++ [x], rfl, t5.off n0 n1 n2, ?_, ?_, by rw [List.length_append, sq.1]; rfl, fun j hj => ?_⟩
      · intro a o h1 h2 h
        have ne : a ≠ l0 := fun e => by rw [e] at h; rw [h] at hl0; cases hl0
        rw [upd_ne ne]
        exact b5 a o h1 h2 h
      · rw [upd_same, List.map_append]; rfl
      · by_cases e : j < i
        · obtain ⟨x', d', h1, h2⟩ := sq.2 j e
          exact ⟨x', d', by rw [List.getElem?_append_left (by rw [sq.1]; exact e)]; exact h1, h2⟩
        · have : j = i := by omega
          subst this
          exact ⟨x, d, by rw [List.getElem?_append_right (by rw [sq.1]; exact Nat.le_refl _), sq.1, Nat.sub_self]; rfl, hd2, ⟨by have := g5.len; omega, by have := g5.len; omega, g5.let_⟩, g5.jl, g5.fst⟩
  · rintro σ H2 ⟨u6, u7, u8, cnt2, ns2, L, rfl, t2, b2, e2, sq⟩
    rw [Int.toNat_natCast] at sq
    have ok := sq.ok hm6 hs2
    refine ⟨_, rfl, tp, c, cl, cnt2, ns2, 2, rfl, by decide, by decide, t2, fun H3 cnt3 ns3 r t3 b3 r0 r1 => ?_⟩
    have e3 := b3 _ _ n1 n2 e2
    refine ⟨rfl, _, rfl, ?_⟩
    by_cases hr1 : r = 1
    · refine kT (by rw [hr1]; simp) ?_
      refine ⟨_, rfl, l0, _, rfl, SqL.of e3, fun q hq => ?_⟩
      have S4 := same_new hq (.lst (L.map V.str).reverse)
      obtain ⟨_, q1, q2⟩ := t3.fresh hq
      refine ⟨_, rfl, k _ q cnt3 ns3 L.reverse (t3.same S4) ((b2.trans b3).trans (But2.of S4)) ((b2.trans b3).free hq q1 q2) ?_ ok.rev⟩
      rw [upd_same, List.map_reverse]
    · refine kF (by rw [decide_eq_false (fun e => hr1 (V.int.inj e))]; simp) ?_
      exact ⟨_, rfl, k H3 l0 cnt3 ns3 L t3 (b2.trans b3) hl0 e3 ok⟩

end
end K38
end
section
/-! K38P: plain: the law's program is well formed, its lines may be laid; deeds one behind another. -/
namespace K38
open PySem PySem.Spec PyProof.Rows L2
section
variable {wd : Nat → Str} {s : Ls}
theorem wf_deed (hw : ∀ j, j < 4 → okNm (wd j)) {d : Dd} (hd : DdOk d) : wSm 2 false (deedD wd s d).2.2 := by
  have h := hw d.wi hd.wi
  unfold deedD
  split
  · unfold lookD
    split
    · simp [wSm, wSms, wRt, wEx, wExs, callE]
    split
    · simp [wSm, wSms, wRt, wEx, wExs, wTe, callE, loopS, isNon]
    · simp [wSm, wSms, wRt, wEx, wExs, wTe, callE, h]
  · unfold changeD
    split
    · simp [wSm, wSms, wRt, wEx, wExs, callE]
    split
    · simp [wSm, wSms, wRt, wEx, wExs, callE]
    split
    · simp [wSm, wSms, wRt, wEx, wExs, callE]
    split
    · simp [wSm, wSms, wRt, wEx, wExs, callE]
    split
    · simp [wSm, wSms, wRt, wEx, wExs, callE]
    · simp [wSm, wSms, wRt, wEx, wExs, callE, h]
theorem wf_group (hw : ∀ j, j < 4 → okNm (wd j)) : ∀ {q : List Dd} {s : Ls}, (∀ d ∈ q, DdOk d) → wSms 2 false (groupD wd s q).2.2 ∧ (groupD wd s q).2.2.length = q.length
  | [], s, _ => by simp [groupD, wSms]
  | d :: q, s, h => by
    obtain ⟨h1, h2⟩ := wf_group hw (q := q) (s := (deedD wd s d).1) fun x hx => h x (List.mem_cons_of_mem _ hx)
    simp only [groupD, wSms, List.length_cons, h2]
    exact ⟨⟨wf_deed hw (h d List.mem_cons_self), h1⟩, trivial⟩
theorem wf_body (hw : ∀ j, j < 4 → okNm (wd j)) {a b c : List Sm} (ha : wSms 2 false a) (hb : wSms 2 false b) (hc : wSms 2 false c) (la : a.length ≤ 12) (lb : b.length ≤ 12) (lc : c.length ≤ 12) : wBl 1 false (bodyOf wd a b c) := by
  have h0 := hw 0 (by decide)
  have h1 := hw 1 (by decide)
  simp [wBl, bodyOf, defSm, defPs, fnBody, cellBody, pickBody, pick, turnBody, joinBody, lookBody, loopS, callE, isNon, always, wSms, wSm, wRt, wTe, wEx, wExs, h0, h1, ha, hb, hc, la, lb, lc]
theorem groupD_snoc : ∀ {q : List Dd} {s : Ls} {d : Dd}, groupD wd s (q ++ [d]) = ((deedD wd (groupD wd s q).1 d).1, (groupD wd s q).2.1 ++ (deedD wd (groupD wd s q).1 d).2.1, (groupD wd s q).2.2 ++ [(deedD wd (groupD wd s q).1 d).2.2])
  | [], s, d => by simp [groupD]
  | x :: q, s, d => by
    rw [List.cons_append]
    simp only [groupD]
    rw [groupD_snoc]
    simp
def groupsD (wd : Nat → Str) : Ls → List (List Dd) → Ls × List Str × List (List Sm)
  | s, [] => (s, [], [])
  | s, q :: r => ((groupsD wd (groupD wd s q).1 r).1, (groupD wd s q).2.1 ++ (groupsD wd (groupD wd s q).1 r).2.1, (groupD wd s q).2.2 :: (groupsD wd (groupD wd s q).1 r).2.2)
theorem groupsD_snoc : ∀ {g : List (List Dd)} {s : Ls} {q : List Dd}, groupsD wd s (g ++ [q]) = ((groupD wd (groupsD wd s g).1 q).1, (groupsD wd s g).2.1 ++ (groupD wd (groupsD wd s g).1 q).2.1, (groupsD wd s g).2.2 ++ [(groupD wd (groupsD wd s g).1 q).2.2])
  | [], s, q => by simp [groupsD]
  | x :: g, s, q => by
    rw [List.cons_append]
    simp only [groupsD]
    rw [groupsD_snoc]
    simp
theorem three_eq {qa qb qc : List Dd} : three wd qa qb qc = ((groupsD wd noLs [qa, qb, qc]).2.1, bodyOf wd (groupD wd noLs qa).2.2 (groupD wd (groupD wd noLs qa).1 qb).2.2 (groupD wd (groupD wd (groupD wd noLs qa).1 qb).1 qc).2.2) := by
  simp [three, groupsD]
/-- the lists and the lines behind n deeds -/
structure StOk (s : Ls) (L : List Str) (n : Nat) : Prop where
  h8 : ∀ j, j < 3 → (s j).length ≤ 8
  top : ∀ j, j < 3 → ∀ x, Th.w x ∈ s j → PyData.strOk x = true
  len : L.length ≤ 8 * n
  ok : ∀ y ∈ L, PyData.strOk y = true
theorem wd_strOk (hw : ∀ j, j < 4 → okNm (wd j)) {j : Nat} (h : j < 4) : PyData.strOk (wd j) = true := strOk_letters (hw j h).2.2
theorem thText_ok {x : Th} (h : ∀ y, x = .w y → PyData.strOk y = true) : PyData.strOk (thText x) = true := by
  cases x with
  | w y => exact h y rfl
  | l xs =>
    cases xs with
    | nil => show PyData.strOk (Str.ofString "none") = true; decide +kernel
    | cons a b => show PyData.strOk (Str.ofString "function") = true; decide +kernel
theorem StOk.deed (hw : ∀ j, j < 4 → okNm (wd j)) {L : List Str} {n : Nat} (st : StOk s L n) {d : Dd} (hd : DdOk d) : StOk (deedD wd s d).1 (L ++ (deedD wd s d).2.1) (n + 1) := by
  have key : (∀ j, j < 3 → ((deedD wd s d).1 j).length ≤ 8) ∧ (∀ j, j < 3 → ∀ x, Th.w x ∈ (deedD wd s d).1 j → PyData.strOk x = true) ∧ (deedD wd s d).2.1.length ≤ 8 ∧ ∀ y ∈ (deedD wd s d).2.1, PyData.strOk y = true := by
    have h8f := st.h8 d.fr hd.fr
    have tf := st.top d.fr hd.fr
    have tt := st.top d.to hd.to
    unfold deedD
    split
    · refine ⟨st.h8, st.top, ?_⟩
      unfold lookD
      split
      · refine ⟨by simp, fun y hy => ?_⟩
        have e : y = headText (s d.fr) := by simpa using hy
        rw [e]
        cases hs : s d.fr with
        | nil => show PyData.strOk _ = true; decide +kernel
        | cons x r => exact thText_ok fun y e => tf y (by rw [hs, ← e]; exact List.mem_cons_self)
      split
      · refine ⟨by rw [List.length_map]; exact h8f, fun y hy => ?_⟩
        obtain ⟨x, hx, rfl⟩ := List.mem_map.mp hy
        exact thText_ok fun y e => tf y (by rw [← e]; exact hx)
      · refine ⟨by simp, fun y hy => ?_⟩
        have e : y = if isIn (wd d.wi) (s d.fr) then wd 0 else wd 1 := by simpa using hy
        rw [e]
        split
        · exact wd_strOk hw (by decide)
        · exact wd_strOk hw (by decide)
    · refine ⟨change_le d st.h8 hd, ?_⟩
      have se : ∀ xs : List Th, (∀ x, Th.w x ∈ xs → PyData.strOk x = true) → ∀ j, j < 3 → ∀ x, Th.w x ∈ setL s d.to xs j → PyData.strOk x = true := fun xs h j hj x hx => by
        unfold setL at hx
        split at hx
        · exact h x hx
        · exact st.top j hj x hx
      unfold changeD
      split
      · exact ⟨se _ fun x hx => tf x (List.mem_reverse.mp hx), by simp, fun y hy => by cases hy⟩
      split
      · refine ⟨se _ fun x hx => ?_, by simp, fun y hy => by cases hy⟩
        rcases List.mem_append.mp hx with h | h
        · exact tt x h
        · exact tf x h
      split
      · exact ⟨se _ tf, by simp, fun y hy => by cases hy⟩
      split
      · cases hs : s d.fr with
        | nil =>
          refine ⟨st.top, by simp, fun y hy => ?_⟩
          have e : y = Str.ofString "nofunc" := by simpa using hy
          rw [e]; decide +kernel
        | cons x r =>
          exact ⟨se _ fun z hz => tf z (by rw [hs]; exact List.mem_cons_of_mem _ hz), by simp, fun y hy => by cases hy⟩
      split
      · refine ⟨se _ fun x hx => ?_, by simp, fun y hy => by cases hy⟩
        rcases List.mem_cons.mp hx with h | h
        · cases h
        · exact tt x h
      · refine ⟨se _ fun x hx => ?_, by simp, fun y hy => by cases hy⟩
        rcases List.mem_cons.mp hx with h | h
        · cases h; exact wd_strOk hw hd.wi
        · exact tt x h
  obtain ⟨k1, k2, k3, k4⟩ := key
  refine ⟨k1, k2, by rw [List.length_append]; have := st.len; omega, fun y hy => ?_⟩
  rcases List.mem_append.mp hy with h | h
  · exact st.ok y h
  · exact k4 y h
theorem W.left {L : List Str} {N : Nat} {s : MS} (w : W L N (.on, s)) : ∃ n m, n ≤ N ∧ Left L n m .on s := by
  obtain ⟨n, m, c', h1, h2, h3⟩ := w
  exact ⟨n, m, h1, c', h2, h3⟩
end
end K38
end
section
/-! K38L8a: what the law keeps on the heap. -/
namespace K38
open PySem PySem.Spec PyProof.Rows L2
def Bm (M : List Addr) (H H' : Hp) : Prop := ∀ a o, a ∉ M → H a = some o → H' a = some o
section
variable {H H' H'' : Hp} {M : List Addr} {nm : Nm → Str} {wd : Nat → Str} {s : Ls}
theorem Bm.tps (b : Bm M H H') (h : ∀ m ∈ M, ∃ xs, H m = some (.lst xs)) : Tps H H' := fun a vs e => b a _ (fun hm => by
  obtain ⟨xs, q⟩ := h a hm
  rw [e] at q; cases q) e
theorem Bm.of2 {c cl : Addr} (b : But2 c cl H H') : Bm [c, cl] H H' := fun a o hn e => b a o (fun z => hn (by simp [z])) (fun z => hn (by simp [z])) e
theorem Bm.of1 {c : Addr} (b : But c H H') : Bm [c] H H' := fun a o hn e => b a o (fun z => hn (by simp [z])) e
theorem Tape.bm {tp c cl : Addr} {cnt : Int} {ns : List Int} (t : Tape H tp c cl cnt ns) (b : Bm M H H') (h1 : tp ∉ M) (h2 : c ∉ M) (h3 : cl ∉ M) : Tape H' tp c cl cnt ns := ⟨b _ _ h1 t.htp, b _ _ h2 t.hc, b _ _ h3 t.hcl, t.pos, t.ne1, t.ne2, t.ne3⟩
theorem Wo.bm {wo wl dl nl ll : Addr} (q : Wo nm H wo wl dl nl ll wd s) (b : Bm M H H') (h : ∀ m ∈ M, ∃ xs, H m = some (.lst xs)) (h1 : wl ∉ M) (h2 : dl ∉ M) (h3 : nl ∉ M) (h4 : ll ∉ M) : Wo nm H' wo wl dl nl ll wd s := by
  obtain ⟨ts, e1, e2, e3⟩ := q.hll
  refine ⟨b _ _ (fun hm => ?_) q.hwo, b _ _ h1 q.hwl, b _ _ h2 q.hdl, b _ _ h3 q.hnl, ts, b _ _ h4 e1, e2, fun j hj => ?_⟩
  · obtain ⟨xs, z⟩ := h _ hm
    have e := q.hwo
    rw [z] at e; cases e
  · obtain ⟨v, g1, g2⟩ := e3 j hj
    exact ⟨v, g1, At.same (b.tps h) _ _ g2⟩
def LsAt (nm : Nm → Str) (H : Hp) (l : Addr) (B : List Sm) : Prop := ∃ ws, H l = some (.lst ws) ∧ Ats H (eSms nm B) ws
theorem LsAt.bm {l : Addr} {B : List Sm} (q : LsAt nm H l B) (b : Bm M H H') (h : ∀ m ∈ M, ∃ xs, H m = some (.lst xs)) (hl : l ∉ M) : LsAt nm H' l B := by
  obtain ⟨ws, e1, e2⟩ := q
  exact ⟨ws, b _ _ hl e1, Ats.same (b.tps h) _ _ e2⟩
theorem LsAt.same {l : Addr} {B : List Sm} (q : LsAt nm H l B) (S : Same H H') : LsAt nm H' l B := by
  obtain ⟨ws, e1, e2⟩ := q
  exact ⟨ws, S _ _ e1, Ats.same (tps_of S) _ _ e2⟩
theorem eSms_app : ∀ {a b : List Sm}, eSms nm (a ++ b) = eSms nm a ++ eSms nm b
  | [], b => by simp [eSms]
  | x :: a, b => by simp only [List.cons_append, eSms, eSms_app]
theorem nd_ne {l : List Addr} (nd : l.Nodup) (i j : Nat) {a b : Addr} (hi : l[i]? = some a) (hj : l[j]? = some b) (h : i ≠ j) : a ≠ b := fun e => by
  obtain ⟨h1, e1⟩ := List.getElem?_eq_some_iff.mp hi
  obtain ⟨h2, e2⟩ := List.getElem?_eq_some_iff.mp hj
  exact h ((List.getElem_inj nd).mp (by rw [e1, e2, e]))
theorem nin1 {a b : Addr} (h : a ≠ b) : a ∉ [b] := by simp [h]
theorem nin2 {a b c : Addr} (h : a ≠ b) (g : a ≠ c) : a ∉ [b, c] := by simp [h, g]
/-- all that the law holds -/
structure Lw (nm : Nm → Str) (wd : Nat → Str) (H : Hp) (tp c cl wo wl dl nl ll bl li : Addr) (s : Ls) (L : List Str) (B : List Sm) : Prop where
  nd : [tp, c, cl, wl, dl, nl, ll, bl, li].Nodup
  tape : ∃ cnt ns, Tape H tp c cl cnt ns
  wo : Wo nm H wo wl dl nl ll wd s
  bl : LsAt nm H bl B
  li : H li = some (.lst (L.map V.str))
section
variable {tp c cl wo wl dl nl ll bl li : Addr} {L : List Str} {B : List Sm}
theorem Lw.same (q : Lw nm wd H tp c cl wo wl dl nl ll bl li s L B) (S : Same H H') : Lw nm wd H' tp c cl wo wl dl nl ll bl li s L B := by
  obtain ⟨cnt, ns, t⟩ := q.tape
  exact ⟨q.nd, ⟨cnt, ns, t.same S⟩, q.wo.same S, q.bl.same S, S _ _ q.li⟩
theorem lsts2 {cnt : Int} {ns : List Int} (t : Tape H tp c cl cnt ns) : ∀ m ∈ [c, cl], ∃ xs, H m = some (.lst xs) := fun m hm => by
  simp only [List.mem_cons, List.not_mem_nil, or_false] at hm
  rcases hm with rfl | rfl
  · exact ⟨_, t.hc⟩
  · exact ⟨_, t.hcl⟩
theorem Lw.draw (q : Lw nm wd H tp c cl wo wl dl nl ll bl li s L B) {cnt : Int} {ns : List Int} (t : Tape H' tp c cl cnt ns) (b : But2 c cl H H') : Lw nm wd H' tp c cl wo wl dl nl ll bl li s L B ∧ Tps H H' := by
  obtain ⟨cnt0, ns0, t0⟩ := q.tape
  have bm := Bm.of2 b
  have hl := lsts2 t0
  have n := fun i j (h : i ≠ j) {a b : Addr} hi hj => nd_ne q.nd i j (a := a) (b := b) hi hj h
  have nn : ∀ i, 2 < i → ∀ {a : Addr}, [tp, c, cl, wl, dl, nl, ll, bl, li][i]? = some a → a ∉ [c, cl] := fun i hi a ha => nin2 (n i 1 (by omega) ha rfl) (n i 2 (by omega) ha rfl)
  exact ⟨⟨q.nd, ⟨cnt, ns, t⟩, q.wo.bm bm hl (nn 3 (by decide) rfl) (nn 4 (by decide) rfl) (nn 5 (by decide) rfl) (nn 6 (by decide) rfl), q.bl.bm bm hl (nn 7 (by decide) rfl), bm _ _ (nn 8 (by decide) rfl) q.li⟩, bm.tps hl⟩
/-- look's or change's work -/
theorem Lw.work {s' : Ls} {L' : List Str} (q : Lw nm wd H tp c cl wo wl dl nl ll bl li s L B) (b : But2 li ll H H') (w : Wo nm H' wo wl dl nl ll wd s') (h : H' li = some (.lst (L'.map V.str))) : Lw nm wd H' tp c cl wo wl dl nl ll bl li s' L' B ∧ Tps H H' := by
  obtain ⟨cnt0, ns0, t0⟩ := q.tape
  obtain ⟨ts, e1, _⟩ := q.wo.hll
  have bm := Bm.of2 b
  have hl : ∀ m ∈ [li, ll], ∃ xs, H m = some (.lst xs) := fun m hm => by
    simp only [List.mem_cons, List.not_mem_nil, or_false] at hm
    rcases hm with rfl | rfl
    · exact ⟨_, q.li⟩
    · exact ⟨_, e1⟩
  have n := fun i j (h : i ≠ j) {a b : Addr} hi hj => nd_ne q.nd i j (a := a) (b := b) hi hj h
  have nn : ∀ i, i ≠ 6 → i ≠ 8 → ∀ {a : Addr}, [tp, c, cl, wl, dl, nl, ll, bl, li][i]? = some a → a ∉ [li, ll] := fun i h1 h2 a ha => nin2 (n i 8 h2 ha rfl) (n i 6 h1 ha rfl)
  exact ⟨⟨q.nd, ⟨_, _, t0.bm bm (nn 0 (by decide) (by decide) rfl) (nn 1 (by decide) (by decide) rfl) (nn 2 (by decide) (by decide) rfl)⟩, w, q.bl.bm bm hl (nn 7 (by decide) (by decide) rfl), h⟩, bm.tps hl⟩
/-- a list of one's own changes -/
theorem Lw.own (q : Lw nm wd H tp c cl wo wl dl nl ll bl li s L B) {rl : Addr} {xs ys : List V} (h : H rl = some (.lst xs)) (hr : ∀ x ∈ [tp, c, cl, wl, dl, nl, ll, bl, li], x ≠ rl) : Lw nm wd (upd H rl (.lst ys)) tp c cl wo wl dl nl ll bl li s L B := by
  obtain ⟨cnt0, ns0, t0⟩ := q.tape
  have bm : Bm [rl] H (upd H rl (.lst ys)) := Bm.of1 (But.at H)
  have hl : ∀ m ∈ [rl], ∃ xs, H m = some (.lst xs) := fun m hm => by
    simp only [List.mem_cons, List.not_mem_nil, or_false] at hm
    subst hm
    exact ⟨_, h⟩
  have nn : ∀ {a : Addr}, a ∈ [tp, c, cl, wl, dl, nl, ll, bl, li] → a ∉ [rl] := fun ha => nin1 (hr _ ha)
  exact ⟨q.nd, ⟨_, _, t0.bm bm (nn (by simp)) (nn (by simp)) (nn (by simp))⟩, q.wo.bm bm hl (nn (by simp)) (nn (by simp)) (nn (by simp)) (nn (by simp)), q.bl.bm bm hl (nn (by simp)), bm _ _ (nn (by simp)) q.li⟩
/-- a statement comes to the body -/
theorem Lw.body (q : Lw nm wd H tp c cl wo wl dl nl ll bl li s L B) {ws : List V} {st : Sm} {v : V} (h : H bl = some (.lst ws)) (hw : Ats H (eSms nm B) ws) (hv : At H (eSm nm st) v) : Lw nm wd (upd H bl (.lst (ws ++ [v]))) tp c cl wo wl dl nl ll bl li s L (B ++ [st]) := by
  obtain ⟨cnt0, ns0, t0⟩ := q.tape
  have bm : Bm [bl] H (upd H bl (.lst (ws ++ [v]))) := Bm.of1 (But.at H)
  have hl : ∀ m ∈ [bl], ∃ xs, H m = some (.lst xs) := fun m hm => by
    simp only [List.mem_cons, List.not_mem_nil, or_false] at hm
    subst hm
    exact ⟨_, h⟩
  have n := fun i j (h : i ≠ j) {a b : Addr} hi hj => nd_ne q.nd i j (a := a) (b := b) hi hj h
  have nn : ∀ i, i ≠ 7 → ∀ {a : Addr}, [tp, c, cl, wl, dl, nl, ll, bl, li][i]? = some a → a ∉ [bl] := fun i h1 a ha => nin1 (n i 7 h1 ha rfl)
  refine ⟨q.nd, ⟨_, _, t0.bm bm (nn 0 (by decide) rfl) (nn 1 (by decide) rfl) (nn 2 (by decide) rfl)⟩, q.wo.bm bm hl (nn 3 (by decide) rfl) (nn 4 (by decide) rfl) (nn 5 (by decide) rfl) (nn 6 (by decide) rfl), ⟨_, upd_same, ?_⟩, bm _ _ (nn 8 (by decide) rfl) q.li⟩
  rw [eSms_app]
  refine Ats.app (Ats.same (bm.tps hl) _ _ hw) ?_
  rw [show eSms nm [st] = [eSm nm st] by simp [eSms]]
  exact .mkC (At.same (bm.tps hl) _ _ hv) .mkN
theorem Lw.off (q : Lw nm wd H tp c cl wo wl dl nl ll bl li s L B) : Off li wl dl nl ll ∧ OffL ll wl dl nl := by
  have n := fun i j (h : i ≠ j) {a b : Addr} hi hj => nd_ne q.nd i j (a := a) (b := b) hi hj h
  exact ⟨⟨n 3 8 (by decide) rfl rfl, n 4 8 (by decide) rfl rfl, n 5 8 (by decide) rfl rfl, n 6 8 (by decide) rfl rfl⟩, ⟨n 3 6 (by decide) rfl rfl, n 4 6 (by decide) rfl rfl, n 5 6 (by decide) rfl rfl⟩⟩
theorem Lw.lst (q : Lw nm wd H tp c cl wo wl dl nl ll bl li s L B) : ∀ x ∈ [tp, c, cl, wl, dl, nl, ll, bl, li], ∃ o, H x = some o := by
  obtain ⟨cnt0, ns0, t0⟩ := q.tape
  obtain ⟨ts, e1, _⟩ := q.wo.hll
  obtain ⟨ws, e2, _⟩ := q.bl
  intro x hx
  simp only [List.mem_cons, List.not_mem_nil, or_false] at hx
  rcases hx with rfl | rfl | rfl | rfl | rfl | rfl | rfl | rfl | rfl
  · exact ⟨_, t0.htp⟩
  · exact ⟨_, t0.hc⟩
  · exact ⟨_, t0.hcl⟩
  · exact ⟨_, q.wo.hwl⟩
  · exact ⟨_, q.wo.hdl⟩
  · exact ⟨_, q.wo.hnl⟩
  · exact ⟨_, e1⟩
  · exact ⟨_, e2⟩
  · exact ⟨_, q.li⟩
end
end
end K38
end
section
/-! K38L8: the law. -/
namespace K38
open PySem PySem.Spec PyProof.Rows L2
theorem Same.seqL {K : PySem.W.Frag} {H H' : Hp} {a : Addr} {xs : List V} (e : Same H H') (h : SqL K H a xs) : SqL K H' a xs := by
  rcases h with (h | ⟨o, h⟩) | h
  · exact .inl (.inl (e _ _ h))
  · exact .inl (.inr ⟨o, e _ _ h⟩)
  · exact .inr h
theorem names_nm {D NN : List Str} (hD : NmsOk 0 6 D) (hN : NmsOk 1 6 NN) : ∃ nm : Nm → Str, NmOk nm ∧ D = dNames nm ∧ NN = [nm 6, nm 7, nm 8, nm 9, nm 10, nm 11] := by
  have nd : (D ++ NN).Nodup := by
    refine List.nodup_append.mpr ⟨hD.nd, hN.nd, fun a ha b hb e => ?_⟩
    subst e
    obtain ⟨i, _, h1, h2⟩ := hD.ok a ha
    obtain ⟨j, _, g1, g2⟩ := hN.ok a hb
    rw [h2] at g2
    have z := letters_inj _ _ (by omega) (by omega) g2
    omega
  have len : (D ++ NN).length = 12 := by rw [List.length_append, hD.len, hN.len]
  refine ⟨fun x => (D ++ NN)[x.val]'(by rw [len]; exact x.isLt), ⟨fun x => ?_, fun x y e => ?_⟩, ?_, ?_⟩
  · have hm : (D ++ NN)[x.val]'(by rw [len]; exact x.isLt) ∈ D ++ NN := List.getElem_mem _
    rcases List.mem_append.mp hm with h | h
    · obtain ⟨_, q⟩ := hD.ok _ h
      exact q.1
    · obtain ⟨_, q⟩ := hN.ok _ h
      exact q.1
  · exact Fin.ext ((List.getElem_inj nd).mp e)
  · match D, hD.len, NN, hN.len with
    | [_, _, _, _, _, _], _, [_, _, _, _, _, _], _ => rfl
  · match D, hD.len, NN, hN.len with
    | [_, _, _, _, _, _], _, [_, _, _, _, _, _], _ => rfl
theorem words_wd {W : List Str} {side : Nat} (h : NmsOk side 4 W) : ∃ wd : Nat → Str, W = [wd 0, wd 1, wd 2, wd 3] ∧ ∀ j, j < 4 → okNm (wd j) := by
  refine ⟨fun j => (W[j]?).getD "", ?_, fun j hj => ?_⟩
  · match W, h.len with
    | [_, _, _, _], _ => rfl
  · have hl : j < W.length := by rw [h.len]; exact hj
    show okNm ((W[j]?).getD "")
    rw [List.getElem?_eq_getElem hl]
    obtain ⟨_, q⟩ := h.ok _ (List.getElem_mem hl)
    exact q.1
section
variable {P : Program} {w : World} {K : PySem.W.Frag} {mg : Str → Option Value} {base : Heap}
def spLaw (K : PySem.W.Frag) : Sp := fun vs H Q _ => ∃ (a : Addr) (ns : List Int), vs = [.ref a] ∧ SqL K H a (ns.map V.int) ∧ ∀ H', Q (.bl true) H'
theorem groupsD_len {wd : Nat → Str} : ∀ {gs : List (List Dd)} {s : Ls}, (groupsD wd s gs).2.2.length = gs.length
  | [], s => rfl
  | q :: r, s => by simp only [groupsD, List.length_cons, groupsD_len]
def lets : List Sm := [.lt 6 (.ex .non), .lt 7 (.ex .non), .lt 8 (.ex .non)]

theorem drop_mk {σ : L2.St} {H : Hp} {te : TE} {X : T} {D : Ends} {i : Nat} {l : Addr} {vs : List V} (h : σ[i]? = some (some (.ref l))) (hl : H l = some (.lst vs)) (hz : vs.length < sizeLine) (a : Mk te σ H X) (k : ∀ H1 v, Same H H1 → At H1 X v → D.nx σ (upd H1 l (.lst (vs ++ [v])))) :
    tDrop (tBM K "list" rAppend (tVar i) (tCons te tNil)) D σ H :=
  ⟨_, h, .inl ⟨rfl, _, SqL.of hl⟩, a H (.refl H) _ fun H1 v S1 av => ⟨l, vs, v, rfl, rfl, S1 _ _ hl, hz, k H1 v S1 av⟩⟩
def nm0 : Nm → Str := fun x => ⟨#[97 + x.val]⟩
theorem nm0_ok : NmOk nm0 := ⟨fun x => (by
  have : ∀ x : Nm, (1 ≤ (nm0 x).length ∧ (nm0 x).length ≤ 8) ∧ ∀ c ∈ (nm0 x).cps.toList, c ∈ letters.cps.toList := by decide +kernel
  exact ⟨(this x).1.1, (this x).1.2, (this x).2⟩), by decide +kernel⟩
theorem sc_law : FnScope ["_law_script", "_law_tape", "_law_words", "_law_defs_here", "_law_names_here", "_law_world", "_law_always", "_law_body", "_law_name", "_law_lines", "_law_group", "_law_program", "_law_told", "_law_rows", "_law_k", "_law_deed"] ["_law_script"] (defScope s_law) := ⟨rfl, rfl, rfl, by decide +kernel, rfl, by decide +kernel, by decide +kernel⟩
theorem ok_law (T : Tx K mg) : Ok P w K mg base 90 (He.fAd K ("law", none)) ["_law_script"] [] (spLaw K) := by
  obtain ⟨fd, F⟩ := T.f_law
  obtain ⟨fd_law_draw, us_law_draw, G_law_draw, b_law_draw, v_law_draw, k_law_draw, _⟩ := ok_law_draw T
  obtain ⟨fd_law_names, us_law_names, G_law_names, b_law_names, v_law_names, k_law_names, _⟩ := ok_law_names T
  obtain ⟨fd_law_defs, us_law_defs, G_law_defs, b_law_defs, v_law_defs, k_law_defs, _⟩ := Ok.ex nm0 nm0_ok fun nm N => ok_law_defs (nm := nm) T
  obtain ⟨fd_law_look, us_law_look, G_law_look, b_law_look, v_law_look, k_law_look, _⟩ := Ok.ex nm0 nm0_ok fun nm N => ok_law_look (nm := nm) T
  obtain ⟨fd_law_change, us_law_change, G_law_change, b_law_change, v_law_change, k_law_change, _⟩ := Ok.ex nm0 nm0_ok fun nm N => ok_law_change (nm := nm) T
  obtain ⟨fd_Program_init, us_Program_init, G_Program_init, b_Program_init, v_Program_init, k_Program_init, _⟩ := Ok.ex nm0 nm0_ok fun nm N => ok_Program_init (nm := nm) T N
  obtain ⟨fd_run, us_run, G_run, b_run, v_run, k_run, _⟩ := Ok.ex nm0 nm0_ok fun nm N => ok_run (nm := nm) T N
  obtain ⟨fd_is_run, us_is_run, G_is_run, b_is_run, v_is_run, k_is_run, _⟩ := Ok.ex nm0 nm0_ok fun nm N => ok_is_run (nm := nm) T N
  refine mkOk F sc_law (bind0 F fun _ _ _ _ _ _ us hl => match us, hl with | [_], _ => rfl) (fun vs H Q E h => ?_) (fun cdv A outer s H vs Q E hr h => ?_)
  · obtain ⟨a, ns, rfl, _⟩ := h
    rfl
  obtain ⟨a, ns, rfl, hS, k⟩ := h
  refine ⟨_, (pss_cons (ps_set (i := 1) sc_law.nd rfl (Or.inl rfl) (pe_lst (pa_cons (pe_lst (pa_cons pe_int pa_nil)) (pa_cons (pe_callTy call_list_of (by rfl) T.z_list (by decide +kernel) (pa_cons (pv 0) pa_nil)) pa_nil))))
      (pss_cons (ps_set (i := 2) sc_law.nd rfl (Or.inl rfl) (pe_call G_law_names (hr.mono (by decide)) rfl T.g_law_names k_law_names b_law_names v_law_names pass0 (pa_cons (pv 1) (pa_cons pe_int (pa_cons (pe_call G_law_draw (hr.mono (by decide)) rfl T.g_law_draw k_law_draw b_law_draw v_law_draw pass0 (pa_cons (pv 1) (pa_cons pe_int pa_nil))) (pa_cons (pe_call G_law_draw (hr.mono (by decide)) rfl T.g_law_draw k_law_draw b_law_draw v_law_draw pass0 (pa_cons (pv 1) (pa_cons pe_int pa_nil))) pa_nil))))))
      (pss_cons (ps_set (i := 3) sc_law.nd rfl (Or.inl rfl) (pe_call G_law_names (hr.mono (by decide)) rfl T.g_law_names k_law_names b_law_names v_law_names pass0 (pa_cons (pv 1) (pa_cons pe_int (pa_cons (pe_call G_law_draw (hr.mono (by decide)) rfl T.g_law_draw k_law_draw b_law_draw v_law_draw pass0 (pa_cons (pv 1) (pa_cons pe_int pa_nil))) (pa_cons pe_int pa_nil))))))
      (pss_cons (ps_set (i := 4) sc_law.nd rfl (Or.inl rfl) (pe_call G_law_names (hr.mono (by decide)) rfl T.g_law_names k_law_names b_law_names v_law_names pass0 (pa_cons (pv 1) (pa_cons pe_int (pa_cons (pe_call G_law_draw (hr.mono (by decide)) rfl T.g_law_draw k_law_draw b_law_draw v_law_draw pass0 (pa_cons (pv 1) (pa_cons pe_int pa_nil))) (pa_cons pe_int pa_nil))))))
      (pss_cons (ps_set (i := 5) sc_law.nd rfl (Or.inl rfl) (pe_disp (pps_cons pe_str (pv 2) (pps_cons pe_str (pv 3) (pps_cons pe_str (pe_slice sl_list (pv 4) po_none (po_some pe_int)) (pps_cons pe_str (pe_lst (pa_cons (pe_tup pa_nil) (pa_cons (pe_tup pa_nil) (pa_cons (pe_tup pa_nil) pa_nil)))) pps_nil)))) (by rfl) (by rfl) (fun z => by cases z) (by decide)))
      (pss_cons (ps_dput (hu_of hr) (pv 5) pe_str (pe_ix ix_list (pv 4) pe_int (fun _ _ => rfl)) rfl)
      (pss_cons (ps_dput (hu_of hr) (pv 5) pe_str (pe_ix ix_list (pv 4) pe_int (fun _ _ => rfl)) rfl)
      (pss_cons (ps_set (i := 6) sc_law.nd rfl (Or.inl rfl) (pe_tup (pa_cons pe_str (pa_cons (pe_tup (pa_cons pe_str pa_nil)) (pa_cons (pe_tup (pa_cons pe_str pa_nil)) pa_nil)))))
      (pss_cons (ps_set (i := 7) sc_law.nd rfl (Or.inl rfl) (pe_call G_law_defs (hr.mono (by decide)) rfl T.g_law_defs k_law_defs b_law_defs v_law_defs pass0 (pa_cons (pv 3) (pa_cons (pe_ix ix_list (pv 4) pe_int (fun _ _ => rfl)) (pa_cons (pe_ix ix_list (pv 4) pe_int (fun _ _ => rfl)) (pa_cons (pe_ix ix_list (pv 4) pe_int (fun _ _ => rfl)) (pa_cons (pv 2) pa_nil)))))))
      (pss_cons (ps_for PassesOwn.never rfl (pi_list (pe_slice sl_list (pv 4) po_none (po_some pe_int))) (pg_name (i := 8) sc_law.nd rfl (Or.inl rfl))
      (pss_one (ps_expr (pe_bm PySem.F.plainAttrs_list PySem.F.slot_list_append PySem.F.type_list_append mt_append (pv 7) (pa_cons (pe_tup (pa_cons pe_str (pa_cons (pv 8) (pa_cons (pe_tup (pa_cons pe_str pa_nil)) pa_nil)))) pa_nil)))))
      (pss_cons (ps_set (i := 9) sc_law.nd rfl (Or.inl rfl) (pe_lst pa_nil))
      (pss_cons (ps_for PassesOwn.never rfl (pi_range1 rfl T.z_range (pa_cons pe_int pa_nil)) (pg_name (i := 10) sc_law.nd rfl (Or.inl rfl))
      (pss_cons (ps_set (i := 13) sc_law.nd rfl (Or.inl rfl) (pe_lst pa_nil))
      (pss_cons (ps_for PassesOwn.never rfl (pi_range1 rfl T.z_range (pa_cons (pe_call G_law_draw (hr.mono (by decide)) rfl T.g_law_draw k_law_draw b_law_draw v_law_draw pass0 (pa_cons (pv 1) (pa_cons pe_int pa_nil))) pa_nil)) (pg_name (i := 14) sc_law.nd rfl (Or.inl rfl))
      (pss_cons (ps_set (i := 15) sc_law.nd rfl (Or.inl rfl) (pe_tup (pa_cons (pe_call G_law_draw (hr.mono (by decide)) rfl T.g_law_draw k_law_draw b_law_draw v_law_draw pass0 (pa_cons (pv 1) (pa_cons pe_int pa_nil))) (pa_cons (pe_call G_law_draw (hr.mono (by decide)) rfl T.g_law_draw k_law_draw b_law_draw v_law_draw pass0 (pa_cons (pv 1) (pa_cons pe_int pa_nil))) (pa_cons (pe_call G_law_draw (hr.mono (by decide)) rfl T.g_law_draw k_law_draw b_law_draw v_law_draw pass0 (pa_cons (pv 1) (pa_cons pe_int pa_nil))) (pa_cons (pe_call G_law_draw (hr.mono (by decide)) rfl T.g_law_draw k_law_draw b_law_draw v_law_draw pass0 (pa_cons (pv 1) (pa_cons pe_int pa_nil))) pa_nil))))))
      (pss_one (ps_if (pt_cmpR op_gt (pe_ix ix_tup (pv 15) pe_int (fun _ _ => rfl)) pe_int (nomark _)) (pss_one (ps_expr (pe_bm PySem.F.plainAttrs_list PySem.F.slot_list_append PySem.F.type_list_append mt_append (pv 13) (pa_cons (pe_call G_law_look (hr.mono (by decide)) rfl T.g_law_look k_law_look b_law_look v_law_look pass0 (pa_cons (pv 5) (pa_cons (pv 15) (pa_cons (pv 9) pa_nil)))) pa_nil)))) (pss_one (ps_expr (pe_bm PySem.F.plainAttrs_list PySem.F.slot_list_append PySem.F.type_list_append mt_append (pv 13) (pa_cons (pe_call G_law_change (hr.mono (by decide)) rfl T.g_law_change k_law_change b_law_change v_law_change pass0 (pa_cons (pv 5) (pa_cons (pv 15) (pa_cons (pv 9) pa_nil)))) pa_nil))))))))
      (pss_one (ps_expr (pe_bm PySem.F.plainAttrs_list PySem.F.slot_list_append PySem.F.type_list_append mt_append (pv 7) (pa_cons (pe_tup (pa_cons pe_str (pa_cons (pv 6) (pa_cons (pe_callTy call_tuple_of (by rfl) T.z_tuple (by decide +kernel) (pa_cons (pv 13) pa_nil)) (pa_cons (pe_tup pa_nil) pa_nil))))) pa_nil)))))))
      (pss_cons (ps_set (i := 11) sc_law.nd rfl (Or.inl rfl) (pe_make T.mk_Program G_Program_init (hr.mono (by decide)) rfl T.g_Program b_Program_init v_Program_init pass0 (pa_cons pe_dnewK (pa_cons (pe_callTy call_tuple_of (by rfl) T.z_tuple (by decide +kernel) (pa_cons (pv 7) pa_nil)) pa_nil))))
      (pss_cons (ps_set (i := 12) sc_law.nd rfl (Or.inl rfl) (pe_call G_run (hr.mono (by decide)) rfl T.g_run k_run b_run v_run pass0 (pa_cons (pv 11) pa_nil)))
      (pss_cons (ps_if (PW.pt (pw_or (pt_not (pt_val (pe_callB call_isi (by rfl) T.z_isinstance (by decide +kernel) (pa_cons (pv 12) (pa_cons (pe_bltn (v := .ty "tuple") (by rfl) T.z_tuple (by decide +kernel) rfl) pa_nil))))) (pw_or (pt_cmpR op_ne (pe_callB call_len_seq (by rfl) T.z_len PySem.boot_len (pa_cons (pv 12) pa_nil)) pe_int (nomark _)) (pw_or (pt_not (pt_val (pe_callB call_isi (by rfl) T.z_isinstance (by decide +kernel) (pa_cons (pe_ix ix_tup (pv 12) pe_int (fun _ _ => rfl)) (pa_cons (pe_bltn (v := .ty "list") (by rfl) T.z_list (by decide +kernel) rfl) pa_nil))))) (pw_or1 (pt_not (pt_val (pe_callB call_isi (by rfl) T.z_isinstance (by decide +kernel) (pa_cons (pe_ix ix_tup (pv 12) pe_int (fun _ _ => rfl)) (pa_cons (pe_bltn (v := .ty "tuple") (by rfl) T.z_tuple (by decide +kernel) rfl) pa_nil)))))))))) (pss_one (ps_ret pe_bl)) pss_nil)
      (pss_cons (ps_if (PW.pt (pw_or (pt_cmpR (op_neD hr.units) (pe_ix ix_tup (pv 12) pe_int (fun _ _ => rfl)) (pv 9) (nomark _)) (pw_or (pt_cmpR (op_neD hr.units) (pe_ix ix_tup (pv 12) pe_int (fun _ _ => rfl)) (pe_tup (pa_cons pe_str pa_nil)) (nomark _)) (pw_or1 (pt_not (pt_val (pe_call G_is_run (hr.mono (by decide)) rfl T.g_is_run k_is_run b_is_run v_is_run pass0 (pa_cons (pv 11) (pa_cons (pe_callTy call_list_of (by rfl) T.z_list (by decide +kernel) (pa_cons (pv 9) pa_nil)) (pa_cons (pe_tup (pa_cons pe_str pa_nil)) pa_nil)))))))))) (pss_one (ps_ret pe_bl)) pss_nil)
      (pss_cons (ps_if (PW.pt (pw_and (pt_cmpR op_gt (pe_callB call_len_seq (by rfl) T.z_len PySem.boot_len (pa_cons (pv 9) pa_nil)) pe_int (nomark _)) (pw_and1 (pt_val (pe_call G_is_run (hr.mono (by decide)) rfl T.g_is_run k_is_run b_is_run v_is_run pass0 (pa_cons (pv 11) (pa_cons (pe_slice sl_list (pv 9) (po_some pe_int) po_none) (pa_cons (pe_tup (pa_cons pe_str pa_nil)) pa_nil)))))))) (pss_one (ps_ret pe_bl)) pss_nil)
      (pss_one (ps_ret (pe_not (pe_call G_is_run (hr.mono (by decide)) rfl T.g_is_run k_is_run b_is_run v_is_run pass0 (pa_cons (pv 11) (pa_cons (pe_callTy call_list_of (by rfl) T.z_list (by decide +kernel) (pa_cons (pv 9) pa_nil)) (pa_cons (pe_tup (pa_cons pe_str (pa_cons pe_str pa_nil))) pa_nil)))))))))))))))))))))))), ?_⟩
  have sz : 3000 < sizeLine := by decide
  have e62 : (2 : Int) ^ 62 = 4611686018427387904 := by decide +kernel
  -- the tape
  refine ⟨by show 1 ≤ sizeLine; decide, fun c hc => ⟨_, rfl, a, _, rfl, .inl (Same.seqL (same_new hc _) hS), fun cl hcl => ⟨by show 2 ≤ sizeLine; decide, fun tp htp => ?_⟩⟩⟩
  have nccl : c ≠ cl := ne_of_none upd_same hcl
  have h1c : (upd (upd H c (.lst [.int 0])) cl (.lst (ns.map V.int))) c = some (.lst [.int 0]) := (upd_ne nccl).trans upd_same
  have h1cl : (upd (upd H c (.lst [.int 0])) cl (.lst (ns.map V.int))) cl = some (.lst (ns.map V.int)) := upd_same
  have t3 : Tape (upd (upd (upd H c (.lst [.int 0])) cl (.lst (ns.map V.int))) tp (.lst [.ref c, .ref cl])) tp c cl 0 ns :=
    ⟨upd_same, same_new htp _ _ _ h1c, same_new htp _ _ _ h1cl, Int.le_refl 0, nccl, (ne_of_none h1c htp).symm, (ne_of_none h1cl htp).symm⟩
  generalize upd (upd (upd H c (.lst [.int 0])) cl (.lst (ns.map V.int))) tp (.lst [.ref c, .ref cl]) = H3 at t3 ⊢
  -- the names
  refine ⟨_, rfl, _, rfl, tp, c, cl, _, _, 13, rfl, by decide, by decide, t3, fun H4 cnt4 ns4 r4 t4 b4 r40 r41 => ?_⟩
  refine ⟨_, rfl, tp, c, cl, _, _, 2, rfl, by decide, by decide, t4, fun H5 cnt5 ns5 r5 t5 b5 r50 r51 => ?_⟩
  obtain ⟨f4, rfl⟩ : ∃ d : Nat, r4 = (d : Int) := ⟨r4.toNat, by omega⟩
  obtain ⟨f5, rfl⟩ : ∃ d : Nat, r5 = (d : Int) := ⟨r5.toNat, by omega⟩
  refine ⟨tp, c, cl, _, _, 4, f4, f5, rfl, by decide, by omega, by omega, t5, fun H6 wl cnt6 ns6 W t6 b6 hwl0 hwl okW => ?_⟩
  obtain ⟨wl1, wl2, wl3⟩ := t5.fresh hwl0
  refine ⟨_, rfl, _, rfl, tp, c, cl, _, _, 13, rfl, by decide, by decide, t6, fun H7 cnt7 ns7 r7 t7 b7 r70 r71 => ?_⟩
  obtain ⟨f7, rfl⟩ : ∃ d : Nat, r7 = (d : Int) := ⟨r7.toNat, by omega⟩
  refine ⟨tp, c, cl, _, _, 6, f7, 0, rfl, by decide, by omega, by decide, t7, fun H8 dl cnt8 ns8 DN t8 b8 hdl0 hdl okD => ?_⟩
  obtain ⟨dl1, dl2, dl3⟩ := t7.fresh hdl0
  have hwl7 := b7 _ _ wl2 wl3 hwl
  have wldl : wl ≠ dl := ne_of_none hwl7 hdl0
  have hwl8 := b8 _ _ wl2 wl3 hwl7
  refine ⟨_, rfl, _, rfl, tp, c, cl, _, _, 13, rfl, by decide, by decide, t8, fun H9 cnt9 ns9 r9 t9 b9 r90 r91 => ?_⟩
  obtain ⟨f9, rfl⟩ : ∃ d : Nat, r9 = (d : Int) := ⟨r9.toNat, by omega⟩
  refine ⟨tp, c, cl, _, _, 6, f9, 1, rfl, by decide, by omega, by decide, t9, fun H10 na cnt10 ns10 NN t10 b10 hna0 hna okN => ?_⟩
  have hwl10 := b10 _ _ wl2 wl3 (b9 _ _ wl2 wl3 hwl8)
  have hdl10 := b10 _ _ dl2 dl3 (b9 _ _ dl2 dl3 hdl)
  obtain ⟨nm, N, rfl, rfl⟩ := names_nm okD okN
  obtain ⟨wd, rfl, hwd⟩ := words_wd okW
  change tSeq _ _ _ [some (.ref a), some (.ref tp), some (.ref wl), some (.ref dl), some (.ref na), none, none, none, none, none, none, none, none, none, none, none] H10
  -- the world
  refine fun wo hwo => ⟨_, rfl, _, rfl, _, rfl, 3, rfl, na, _, rfl, SqL.of (same_new hwo _ _ _ hna), fun nl hnl => ⟨by show 0 ≤ sizeLine; decide, fun z1 hz1 => ⟨by show 0 ≤ sizeLine; decide, fun z2 hz2 => ⟨by show 0 ≤ sizeLine; decide, fun z3 hz3 => ⟨by show 3 ≤ sizeLine; decide, fun ll hll => ?_⟩⟩⟩⟩⟩
  have G1 := same_new hwo (.dK [])
  have wo1 : (upd H10 wo (.dK [])) wo = some (.dK []) := upd_same
  generalize upd H10 wo (.dK []) = J1 at hnl hz1 hz2 hz3 hll G1 wo1 ⊢
  have ecut : cutV ([nm 6, nm 7, nm 8, nm 9, nm 10, nm 11].map V.str) none (some 3) = [nm 6, nm 7, nm 8].map V.str := rfl
  rw [ecut] at hz1 hz2 hz3 hll ⊢
  have G2 := same_new hnl (.lst ([nm 6, nm 7, nm 8].map V.str))
  have nl2 : (upd J1 nl (.lst ([nm 6, nm 7, nm 8].map V.str))) nl = some (.lst ([nm 6, nm 7, nm 8].map V.str)) := upd_same
  generalize upd J1 nl (.lst ([nm 6, nm 7, nm 8].map V.str)) = J2 at hz1 hz2 hz3 hll G2 nl2 ⊢
  have G3 := same_new hz1 (.tup [])
  have z13 : (upd J2 z1 (.tup [])) z1 = some (.tup []) := upd_same
  generalize upd J2 z1 (.tup []) = J3 at hz2 hz3 hll G3 z13 ⊢
  have G4 := same_new hz2 (.tup [])
  have z24 : (upd J3 z2 (.tup [])) z2 = some (.tup []) := upd_same
  generalize upd J3 z2 (.tup []) = J4 at hz3 hll G4 z24 ⊢
  have G5 := same_new hz3 (.tup [])
  have z35 : (upd J4 z3 (.tup [])) z3 = some (.tup []) := upd_same
  generalize upd J4 z3 (.tup []) = J5 at hll G5 z35 ⊢
  have G6 := same_new hll (.lst [.ref z1, .ref z2, .ref z3])
  have ll6 : (upd J5 ll (.lst [.ref z1, .ref z2, .ref z3])) ll = some (.lst [.ref z1, .ref z2, .ref z3]) := upd_same
  generalize upd J5 ll (.lst [.ref z1, .ref z2, .ref z3]) = J6 at G6 ll6 ⊢
  have G26 := ((G3.trans G4).trans G5).trans G6
  have G16 := G2.trans G26
  have wo6 := G16 _ _ wo1
  have nl6 := G26 _ _ nl2
  have t6' := t10.same (G1.trans G16)
  have wl6 := (G1.trans G16) _ _ hwl10
  have dl6 := (G1.trans G16) _ _ hdl10
  have na6 := (G1.trans G16) _ _ hna
  obtain ⟨tpJ1, cJ1, clJ1⟩ := (t10.same G1).fresh hnl
  have wlnl : wl ≠ nl := ne_of_none (G1 _ _ hwl10) hnl
  have dlnl : dl ≠ nl := ne_of_none (G1 _ _ hdl10) hnl
  have G15 := ((G2.trans G3).trans G4).trans G5
  obtain ⟨tpJ5, cJ5, clJ5⟩ := (t10.same (G1.trans G15)).fresh hll
  have wlll : wl ≠ ll := ne_of_none ((G1.trans G15) _ _ hwl10) hll
  have dlll : dl ≠ ll := ne_of_none ((G1.trans G15) _ _ hdl10) hll
  have nlll : nl ≠ ll := ne_of_none (((G3.trans G4).trans G5) _ _ nl2) hll
  refine ⟨wo6, [(.inr "words", .ref wl), (.inr "defs", .ref dl), (.inr "names", .ref nl), (.inr "lists", .ref ll)], rfl, by show 4 ≤ 15; decide, ?_⟩
  have off1 : ∀ {x : Addr} {xs : List V} {o' : HO} {J : Hp}, (∃ ys, J wo = some (.dK ys)) → J x = some (.lst xs) → (upd J wo o') x = some (.lst xs) := fun ⟨ys, h1⟩ h2 => off_at (ne_tg h2 h1 (by simp [tg])) _ h2
  have tof : ∀ {o' : HO} {J : Hp} {cnt : Int} {ns : List Int}, (∃ ys, J wo = some (.dK ys)) → Tape J tp c cl cnt ns → Tape (upd J wo o') tp c cl cnt ns := fun h t => ⟨off1 h t.htp, off1 h t.hc, off1 h t.hcl, t.pos, t.ne1, t.ne2, t.ne3⟩
  change tSeq _ _ _ [some (.ref a), some (.ref tp), some (.ref wl), some (.ref dl), some (.ref na), some (.ref wo), none, none, none, none, none, none, none, none, none, none] (upd J6 wo (.dK [(.inr "words", .ref wl), (.inr "defs", .ref dl), (.inr "names", .ref nl), (.inr "lists", .ref ll)]))
  have wo7 : (upd J6 wo (.dK [(.inr "words", .ref wl), (.inr "defs", .ref dl), (.inr "names", .ref nl), (.inr "lists", .ref ll)])) wo = some (.dK [(.inr "words", .ref wl), (.inr "defs", .ref dl), (.inr "names", .ref nl), (.inr "lists", .ref ll)]) := upd_same
  have t7' := tof (o' := .dK [(.inr "words", .ref wl), (.inr "defs", .ref dl), (.inr "names", .ref nl), (.inr "lists", .ref ll)]) ⟨_, wo6⟩ t6'
  have wl7 := off1 (o' := .dK [(.inr "words", .ref wl), (.inr "defs", .ref dl), (.inr "names", .ref nl), (.inr "lists", .ref ll)]) ⟨_, wo6⟩ wl6
  have dl7 := off1 (o' := .dK [(.inr "words", .ref wl), (.inr "defs", .ref dl), (.inr "names", .ref nl), (.inr "lists", .ref ll)]) ⟨_, wo6⟩ dl6
  have na7 := off1 (o' := .dK [(.inr "words", .ref wl), (.inr "defs", .ref dl), (.inr "names", .ref nl), (.inr "lists", .ref ll)]) ⟨_, wo6⟩ na6
  have nl7 := off1 (o' := .dK [(.inr "words", .ref wl), (.inr "defs", .ref dl), (.inr "names", .ref nl), (.inr "lists", .ref ll)]) ⟨_, wo6⟩ nl6
  have ll7 := off1 (o' := .dK [(.inr "words", .ref wl), (.inr "defs", .ref dl), (.inr "names", .ref nl), (.inr "lists", .ref ll)]) ⟨_, wo6⟩ ll6
  have p7 : Tps J6 (upd J6 wo (.dK [(.inr "words", .ref wl), (.inr "defs", .ref dl), (.inr "names", .ref nl), (.inr "lists", .ref ll)])) := off_tps wo6 (by simp [tg])
  generalize upd J6 wo (.dK [(.inr "words", .ref wl), (.inr "defs", .ref dl), (.inr "names", .ref nl), (.inr "lists", .ref ll)]) = J7 at wo7 t7' wl7 dl7 na7 nl7 ll7 p7 ⊢
  refine ⟨_, rfl, na, _, 3, _, rfl, rfl, SqL.of na7, atI_nat (j := 3) rfl, _, rfl, wo, _, rfl, DPut.k (k := Sum.inr "one") wo7 (by show 4 < sizeLine; decide), ?_⟩
  refine ⟨_, rfl, na, _, 5, _, rfl, rfl, SqL.of (off1 ⟨_, wo7⟩ na7), atI_nat (j := 5) rfl, _, rfl, wo, _, rfl, DPut.k (k := Sum.inr "more") upd_same (by show 5 < sizeLine; decide), ?_⟩
  rw [upd_upd]
  have wo9 : (upd J7 wo (.dK (putK (putK [(.inr "words", .ref wl), (.inr "defs", .ref dl), (.inr "names", .ref nl), (.inr "lists", .ref ll)] (Sum.inr "one") (.str (nm 9))) (Sum.inr "more") (.str (nm 11))))) wo = some (.dK [(.inr "words", .ref wl), (.inr "defs", .ref dl), (.inr "names", .ref nl), (.inr "lists", .ref ll), (.inr "one", .str (nm 9)), (.inr "more", .str (nm 11))]) := upd_same
  have t9' := tof (o' := .dK (putK (putK [(.inr "words", .ref wl), (.inr "defs", .ref dl), (.inr "names", .ref nl), (.inr "lists", .ref ll)] (Sum.inr "one") (.str (nm 9))) (Sum.inr "more") (.str (nm 11)))) ⟨_, wo7⟩ t7'
  have wl9 := off1 (o' := .dK (putK (putK [(.inr "words", .ref wl), (.inr "defs", .ref dl), (.inr "names", .ref nl), (.inr "lists", .ref ll)] (Sum.inr "one") (.str (nm 9))) (Sum.inr "more") (.str (nm 11)))) ⟨_, wo7⟩ wl7
  have dl9 := off1 (o' := .dK (putK (putK [(.inr "words", .ref wl), (.inr "defs", .ref dl), (.inr "names", .ref nl), (.inr "lists", .ref ll)] (Sum.inr "one") (.str (nm 9))) (Sum.inr "more") (.str (nm 11)))) ⟨_, wo7⟩ dl7
  have na9 := off1 (o' := .dK (putK (putK [(.inr "words", .ref wl), (.inr "defs", .ref dl), (.inr "names", .ref nl), (.inr "lists", .ref ll)] (Sum.inr "one") (.str (nm 9))) (Sum.inr "more") (.str (nm 11)))) ⟨_, wo7⟩ na7
  have nl9 := off1 (o' := .dK (putK (putK [(.inr "words", .ref wl), (.inr "defs", .ref dl), (.inr "names", .ref nl), (.inr "lists", .ref ll)] (Sum.inr "one") (.str (nm 9))) (Sum.inr "more") (.str (nm 11)))) ⟨_, wo7⟩ nl7
  have ll9 := off1 (o' := .dK (putK (putK [(.inr "words", .ref wl), (.inr "defs", .ref dl), (.inr "names", .ref nl), (.inr "lists", .ref ll)] (Sum.inr "one") (.str (nm 9))) (Sum.inr "more") (.str (nm 11)))) ⟨_, wo7⟩ ll7
  have p9 : Tps J7 (upd J7 wo (.dK (putK (putK [(.inr "words", .ref wl), (.inr "defs", .ref dl), (.inr "names", .ref nl), (.inr "lists", .ref ll)] (Sum.inr "one") (.str (nm 9))) (Sum.inr "more") (.str (nm 11))))) := off_tps wo7 (by simp [tg])
  generalize upd J7 wo (.dK (putK (putK [(.inr "words", .ref wl), (.inr "defs", .ref dl), (.inr "names", .ref nl), (.inr "lists", .ref ll)] (Sum.inr "one") (.str (nm 9))) (Sum.inr "more") (.str (nm 11)))) = J9 at wo9 t9' wl9 dl9 na9 nl9 ll9 p9 ⊢
  have p69 := p7.trans p9
  have zz : toTs [] = [] := by simp [toTs]
  have q9 : Wo nm J9 wo wl dl nl ll wd noLs := by
    refine ⟨wo9, wl9, dl9, nl9, _, ll9, rfl, fun j hj => ?_⟩
    have at0 : ∀ z, J6 z = some (.tup []) → At J9 (tLs []) (.ref z) := fun z hz => by
      show At J9 (.t (toTs [])) _
      rw [zz]
      exact .mkT (p69 _ _ hz) .mkN
    match j, hj with
    | 0, _ => exact ⟨_, rfl, at0 z1 (((G4.trans G5).trans G6) _ _ z13)⟩
    | 1, _ => exact ⟨_, rfl, at0 z2 ((G5.trans G6) _ _ z24)⟩
    | 2, _ => exact ⟨_, rfl, at0 z3 (G6 _ _ z35)⟩
  -- always
  refine asg_mk (mk_tup (mkA_cons mk_str (mkA_cons (mk_tup (mkA_cons mk_str mkA_nil) (by show 1 ≤ sizeLine; decide)) (mkA_cons (mk_tup (mkA_cons mk_str mkA_nil) (by show 1 ≤ sizeLine; decide)) mkA_nil))) (by show 3 ≤ sizeLine; decide)) fun J10 av S10 aav => ?_
  change tSeq _ _ _ [some (.ref a), some (.ref tp), some (.ref wl), some (.ref dl), some (.ref na), some (.ref wo), some av, none, none, none, none, none, none, none, none, none] J10
  have q10 := q9.same S10
  have na10 := S10 _ _ na9
  refine ⟨_, rfl, _, rfl, na, _, 3, _, rfl, rfl, SqL.of na10, atI_nat (j := 3) rfl, _, rfl, na, _, 4, _, rfl, rfl, SqL.of na10, atI_nat (j := 4) rfl, _, rfl, na, _, 5, _, rfl, rfl, SqL.of na10, atI_nat (j := 5) rfl, _, rfl, nm, N, dl, wl, [wd 0, wd 1, wd 2, wd 3], wd, rfl, q10.hdl, q10.hwl, rfl, rfl, fun J11 bl ws S11 hbl0 hbl hws => ?_⟩
  have t10' := t9'.same S10
  obtain ⟨tpbl, cbl, clbl⟩ := t10'.fresh hbl0
  obtain ⟨ts10, ll10, _⟩ := q10.hll
  have wlbl : wl ≠ bl := ne_of_none q10.hwl hbl0
  have dlbl : dl ≠ bl := ne_of_none q10.hdl hbl0
  have nlbl : nl ≠ bl := ne_of_none q10.hnl hbl0
  have llbl : ll ≠ bl := ne_of_none ll10 hbl0
  have q11 := q10.same S11
  have t11 := t10'.same S11
  have na11 := S11 _ _ na10
  have aav11 := At.same (tps_of S11) _ _ aav
  -- the lists' names
  refine ⟨_, rfl, 3, rfl, na, _, rfl, SqL.of na11, fun sl hsl => ⟨sl, rfl, ⟨_, SqL.of upd_same⟩, ?_⟩⟩
  rw [ecut] at *
  have S12 := same_new hsl (.lst ([nm 6, nm 7, nm 8].map V.str))
  have sl12 : (upd J11 sl (.lst ([nm 6, nm 7, nm 8].map V.str))) sl = some (.lst ([nm 6, nm 7, nm 8].map V.str)) := upd_same
  have slbl : sl ≠ bl := (ne_of_none hbl hsl).symm
  generalize upd J11 sl (.lst ([nm 6, nm 7, nm 8].map V.str)) = J12 at S12 sl12 ⊢
  have hbl12 := S12 _ _ hbl
  have hws12 := Ats.same (tps_of S12) _ _ hws
  refine for_list (K := K) (a := sl) (xs := [nm 6, nm 7, nm 8].map V.str) (fun i σ J => ∃ u8 ws', σ = [some (.ref a), some (.ref tp), some (.ref wl), some (.ref dl), some (.ref na), some (.ref wo), some av, some (.ref bl), u8, none, none, none, none, none, none, none] ∧ But bl J12 J ∧ J bl = some (.lst ws') ∧ Ats J (eSms nm (defsOf wd ++ lets.take i)) ws') ⟨_, ws, rfl, But.refl J12, hbl12, by rw [List.take_zero, List.append_nil]; exact hws12⟩ (fun i σ J _ z => ?_) ?_ ?_
  · obtain ⟨u8, ws', _, b, _⟩ := z
    exact SqL.of (b _ _ slbl sl12)
  · rintro i y σ J hi ⟨u8, ws', rfl, b, eb, hw'⟩
    obtain ⟨x, rfl, hx⟩ : ∃ x : Nm, y = .str (nm x) ∧ lets.take (i + 1) = lets.take i ++ [.lt x (.ex .non)] := by
      match i, hi with
      | 0, hi => cases hi; exact ⟨6, rfl, rfl⟩
      | 1, hi => cases hi; exact ⟨7, rfl, rfl⟩
      | 2, hi => cases hi; exact ⟨8, rfl, rfl⟩
      | n + 3, hi => simp at hi
    have wl' : ws'.length ≤ 100 := by
      rw [hw'.len, eSms_len, List.length_append, List.length_take]
      show 6 + _ ≤ 100
      have : lets.length = 3 := rfl
      omega
    refine drop_mk rfl eb (by omega) (mk_tup (mkA_cons mk_str (mkA_cons (mk_var rfl .mkS) (mkA_cons (mk_tup (mkA_cons mk_str mkA_nil) (by show 1 ≤ sizeLine; decide)) mkA_nil))) (by show 3 ≤ sizeLine; decide)) fun J13 v S13 av' => ?_
    have t13 : Tps J13 (upd J13 bl (.lst (ws' ++ [v]))) := off_tps (S13 _ _ eb) (by simp [tg])
    refine ⟨_, _, rfl, (b.trans (But.of S13)).trans (But.at J13), upd_same, ?_⟩
    rw [hx, ← List.append_assoc, eSms_app]
    refine Ats.app (Ats.same ((tps_of S13).trans t13) _ _ hw') ?_
    rw [show eSms nm [.lt x (.ex .non)] = [.t [.s "let", .s (nm x), .t [.s "none"]]] by simp [eSms, eSm, eRt, eEx]]
    exact .mkC (At.same t13 _ _ av') .mkN
  rintro σ J13 ⟨u8, ws', rfl, b13, hbl13, hws13⟩
  have hws13' : Ats J13 (eSms nm (defsOf wd ++ lets)) ws' := hws13
  have t12p := b13.tps hbl12
  -- lines = []
  refine ⟨by show 0 ≤ sizeLine; decide, fun li hli => ?_⟩
  have bm13 : Bm [bl] J12 J13 := Bm.of1 b13
  have hlb : ∀ m ∈ [bl], ∃ xs, J12 m = some (.lst xs) := fun m hm => by
    simp only [List.mem_cons, List.not_mem_nil, or_false] at hm
    subst hm
    exact ⟨_, hbl12⟩
  have t13' := (t11.same S12).bm bm13 (nin1 tpbl.symm) (nin1 cbl.symm) (nin1 clbl.symm)
  have q13 := (q11.same S12).bm bm13 hlb (nin1 wlbl) (nin1 dlbl) (nin1 nlbl) (nin1 llbl)
  obtain ⟨tpli, cli, clli⟩ := t13'.fresh hli
  obtain ⟨ts13, ll13, _⟩ := q13.hll
  have wlli : wl ≠ li := ne_of_none q13.hwl hli
  have dlli : dl ≠ li := ne_of_none q13.hdl hli
  have nlli : nl ≠ li := ne_of_none q13.hnl hli
  have llli : ll ≠ li := ne_of_none ll13 hli
  have blli : bl ≠ li := ne_of_none hbl13 hli
  have S14 := same_new hli (.lst [])
  have aav14 : At (upd J13 li (.lst [])) (eTe nm always) av := by
    have e : eTe nm always = .t [.s "same", .t [.s "none"], .t [.s "none"]] := by simp [always, eTe, eEx]
    rw [e]
    exact At.same (((tps_of S12).trans t12p).trans (tps_of S14)) _ _ aav11
  have q0 : Lw nm wd (upd J13 li (.lst [])) tp c cl wo wl dl nl ll bl li noLs [] (defsOf wd ++ lets) := by
    refine ⟨?_, ⟨_, _, t13'.same S14⟩, q13.same S14, ⟨ws', S14 _ _ hbl13, Ats.same (tps_of S14) _ _ hws13'⟩, upd_same⟩
    simp only [List.nodup_cons, List.mem_cons, List.not_mem_nil, or_false, not_or, not_false_eq_true, and_true, List.nodup_nil]
    exact ⟨⟨t3.ne2, t3.ne3, wl1.symm, dl1.symm, tpJ1.symm, tpJ5.symm, tpbl.symm, tpli.symm⟩, ⟨nccl, wl2.symm, dl2.symm, cJ1.symm, cJ5.symm, cbl.symm, cli.symm⟩, ⟨wl3.symm, dl3.symm, clJ1.symm, clJ5.symm, clbl.symm, clli.symm⟩, ⟨wldl, wlnl, wlll, wlbl, wlli⟩, ⟨dlnl, dlll, dlbl, dlli⟩, ⟨nlll, nlbl, nlli⟩, ⟨llbl, llli⟩, blli⟩
  generalize upd J13 li (.lst []) = J14 at aav14 q0 ⊢
  -- the groups
  refine ⟨3, rfl, by omega, by omega, ?_⟩
  refine for_it (walk_range (lo := 0) (n := (3 : Int).toNat)) (fun g σ J => ∃ u8 u10 u13 u14 u15 gs, σ = [some (.ref a), some (.ref tp), some (.ref wl), some (.ref dl), some (.ref na), some (.ref wo), some av, some (.ref bl), u8, some (.ref li), u10, none, none, u13, u14, u15] ∧ gs.length = g ∧ (∀ q ∈ gs, q.length ≤ 8 ∧ ∀ d ∈ q, DdOk d) ∧ StOk (groupsD wd noLs gs).1 (groupsD wd noLs gs).2.1 (8 * g) ∧ At J (eTe nm always) av ∧
    Lw nm wd J tp c cl wo wl dl nl ll bl li (groupsD wd noLs gs).1 (groupsD wd noLs gs).2.1 (defsOf wd ++ lets ++ (groupsD wd noLs gs).2.2.map fun r => .iff always r [])) ⟨_, _, _, _, _, [], rfl, rfl, fun q hq => (by cases hq), ⟨fun j hj => Nat.zero_le _, fun j hj x hx => (by cases hx), Nat.le_refl _, fun y hy => (by cases hy)⟩, aav14, by simpa [groupsD] using q0⟩ (fun _ _ _ _ _ => trivial) ?_ ?_
  · rintro g y σ J J' hg ⟨u8, u10, u13, u14, u15, gs, rfl, hgl, hgs, st, aJ, q⟩ ⟨rfl, rfl⟩
    have hg3 : g < 3 := hg
    -- rows = []
    refine ⟨by show 0 ≤ sizeLine; decide, fun rl hrl => ?_⟩
    have hr : ∀ x ∈ [tp, c, cl, wl, dl, nl, ll, bl, li], x ≠ rl := fun x hx => (by obtain ⟨o, ho⟩ := q.lst x hx; exact ne_of_none ho hrl)
    have SJ := same_new hrl (.lst [])
    have qJ := q.same SJ
    have aJ2 := At.same (tps_of SJ) _ _ aJ
    have rl0 : LsAt nm (upd J' rl (.lst [])) rl [] := ⟨[], upd_same, by rw [show eSms nm [] = [] by simp [eSms]]; exact .mkN⟩
    generalize upd J' rl (.lst []) = K0 at qJ aJ2 rl0 ⊢
    obtain ⟨cnt0, ns0, t0⟩ := qJ.tape
    have rlc : rl ≠ c := (hr c (by simp)).symm
    have rlcl : rl ≠ cl := (hr cl (by simp)).symm
    refine ⟨_, rfl, tp, c, cl, cnt0, ns0, 9, rfl, by decide, by decide, t0, fun K1 cnt1 ns1 r1 t1 b1 r10 r11 => ?_⟩
    obtain ⟨mm, rfl⟩ : ∃ d : Nat, r1 = (d : Int) := ⟨r1.toNat, by omega⟩
    obtain ⟨q1, p1⟩ := qJ.draw t1 b1
    have aK1 := At.same p1 _ _ aJ2
    have rl1 : LsAt nm K1 rl [] := rl0.bm (Bm.of2 b1) (lsts2 t0) (nin2 rlc rlcl)
    refine ⟨(mm : Int), rfl, by omega, by omega, ?_⟩
    refine for_it (walk_range (lo := 0) (n := ((mm : Nat) : Int).toNat)) (fun kk σ J => ∃ u14 u15 ds, σ = [some (.ref a), some (.ref tp), some (.ref wl), some (.ref dl), some (.ref na), some (.ref wo), some av, some (.ref bl), u8, some (.ref li), some (.int (0 + (g : Int))), none, none, some (.ref rl), u14, u15] ∧ ds.length = kk ∧ (∀ d ∈ ds, DdOk d) ∧ StOk (groupD wd (groupsD wd noLs gs).1 ds).1 ((groupsD wd noLs gs).2.1 ++ (groupD wd (groupsD wd noLs gs).1 ds).2.1) (8 * g + kk) ∧ At J (eTe nm always) av ∧
      Lw nm wd J tp c cl wo wl dl nl ll bl li (groupD wd (groupsD wd noLs gs).1 ds).1 ((groupsD wd noLs gs).2.1 ++ (groupD wd (groupsD wd noLs gs).1 ds).2.1) (defsOf wd ++ lets ++ (groupsD wd noLs gs).2.2.map fun r => .iff always r []) ∧ LsAt nm J rl (groupD wd (groupsD wd noLs gs).1 ds).2.2) ⟨_, _, [], rfl, rfl, fun d hd => (by cases hd), by simpa [groupD] using st, aK1, by simpa [groupD] using q1, by simpa [groupD] using rl1⟩ (fun _ _ _ _ _ => trivial) ?_ ?_
    · rintro kk y σ J J' hk ⟨u14, u15, ds, rfl, hdl_, hds, st2, aJ, q, rls⟩ ⟨rfl, rfl⟩
      rw [Int.toNat_natCast] at hk
      have snoc := fun d => groupD_snoc (wd := wd) (q := ds) (s := (groupsD wd noLs gs).1) (d := d)
      generalize hs2 : (groupD wd (groupsD wd noLs gs).1 ds).1 = s2 at st2 q rls snoc
      generalize hL2 : (groupsD wd noLs gs).2.1 ++ (groupD wd (groupsD wd noLs gs).1 ds).2.1 = L2 at st2 q
      generalize hR2 : (groupD wd (groupsD wd noLs gs).1 ds).2.2 = R2 at rls snoc
      have hlenR : R2.length = kk := by rw [← hR2, (wf_group hwd (q := ds) hds).2]; exact hdl_
      have lenL := st2.len
      -- one draw
      have dr : ∀ {A B : Hp} {cn : Int} {nn : List Int}, Lw nm wd A tp c cl wo wl dl nl ll bl li s2 L2 (defsOf wd ++ lets ++ (groupsD wd noLs gs).2.2.map fun r => .iff always r []) ∧ LsAt nm A rl R2 ∧ At A (eTe nm always) av → Tape B tp c cl cn nn → But2 c cl A B →
          Lw nm wd B tp c cl wo wl dl nl ll bl li s2 L2 (defsOf wd ++ lets ++ (groupsD wd noLs gs).2.2.map fun r => .iff always r []) ∧ LsAt nm B rl R2 ∧ At B (eTe nm always) av := fun ⟨x1, x2, x3⟩ tB b => by
        obtain ⟨cn0, nn0, tA⟩ := x1.tape
        obtain ⟨y1, y2⟩ := x1.draw tB b
        exact ⟨y1, x2.bm (Bm.of2 b) (lsts2 tA) (nin2 rlc rlcl), At.same y2 _ _ x3⟩
      obtain ⟨cnt2, ns2, t2⟩ := q.tape
      refine ⟨_, rfl, tp, c, cl, cnt2, ns2, 8, rfl, by decide, by decide, t2, fun A1 cn1 nn1 d1 tA1 bA1 d10 d11 => ⟨_, rfl, tp, c, cl, cn1, nn1, 3, rfl, by decide, by decide, tA1, fun A2 cn2 nn2 d2 tA2 bA2 d20 d21 => ⟨_, rfl, tp, c, cl, cn2, nn2, 3, rfl, by decide, by decide, tA2, fun A3 cn3 nn3 d3 tA3 bA3 d30 d31 => ⟨_, rfl, tp, c, cl, cn3, nn3, 4, rfl, by decide, by decide, tA3, fun A4 cn4 nn4 d4 tA4 bA4 d40 d41 => ⟨by show 4 ≤ sizeLine; decide, fun dd hdd => ?_⟩⟩⟩⟩⟩
      obtain ⟨k1, rfl⟩ : ∃ d : Nat, d1 = (d : Int) := ⟨d1.toNat, by omega⟩
      obtain ⟨k2, rfl⟩ : ∃ d : Nat, d2 = (d : Int) := ⟨d2.toNat, by omega⟩
      obtain ⟨k3, rfl⟩ : ∃ d : Nat, d3 = (d : Int) := ⟨d3.toNat, by omega⟩
      obtain ⟨k4, rfl⟩ : ∃ d : Nat, d4 = (d : Int) := ⟨d4.toNat, by omega⟩
      have all4 := dr (dr (dr (dr ⟨q, rls, aJ⟩ tA1 bA1) tA2 bA2) tA3 bA3) tA4 bA4
      let d : Dd := ⟨k1, k2, k3, k4⟩
      have dok : DdOk d := ⟨by show k1 < 8; omega, by show k2 < 3; omega, by show k3 < 3; omega, by show k4 < 4; omega⟩
      have SD := same_new hdd (.tup [.int (k1 : Nat), .int (k2 : Nat), .int (k3 : Nat), .int (k4 : Nat)])
      have hdd5 : (upd A4 dd (.tup [.int (k1 : Nat), .int (k2 : Nat), .int (k3 : Nat), .int (k4 : Nat)])) dd = some (.tup (ddV d)) := upd_same
      have q5 := all4.1.same SD
      have rl5 := all4.2.1.same SD
      have aJ5 := At.same (tps_of SD) _ _ all4.2.2
      generalize upd A4 dd (.tup [.int (k1 : Nat), .int (k2 : Nat), .int (k3 : Nat), .int (k4 : Nat)]) = A5 at hdd5 q5 rl5 aJ5 ⊢
      obtain ⟨off, offL⟩ := q5.off
      have st3 := st2.deed hwd dok
      -- the row comes
      have row : ∀ (A6 : Hp) (v : V) (st : Sm), (deedD wd s2 d).2.2 = st → Lw nm wd A6 tp c cl wo wl dl nl ll bl li (deedD wd s2 d).1 (L2 ++ (deedD wd s2 d).2.1) (defsOf wd ++ lets ++ (groupsD wd noLs gs).2.2.map fun r => .iff always r []) → LsAt nm A6 rl R2 → At A6 (eTe nm always) av → At A6 (eSm nm st) v →
          ∃ l xs y, V.ref rl = .ref l ∧ [v] = [y] ∧ A6 l = some (.lst xs) ∧ xs.length < sizeLine ∧ ∃ u14 u15 ds, [some (.ref a), some (.ref tp), some (.ref wl), some (.ref dl), some (.ref na), some (.ref wo), some av, some (.ref bl), u8, some (.ref li), some (.int (0 + (g : Int))), none, none, some (.ref rl), some (.int (0 + (kk : Int))), some (.ref dd)] = [some (.ref a), some (.ref tp), some (.ref wl), some (.ref dl), some (.ref na), some (.ref wo), some av, some (.ref bl), u8, some (.ref li), some (.int (0 + (g : Int))), none, none, some (.ref rl), u14, u15] ∧ ds.length = kk + 1 ∧ (∀ d ∈ ds, DdOk d) ∧ StOk (groupD wd (groupsD wd noLs gs).1 ds).1 ((groupsD wd noLs gs).2.1 ++ (groupD wd (groupsD wd noLs gs).1 ds).2.1) (8 * g + (kk + 1)) ∧ At (upd A6 l (.lst (xs ++ [y]))) (eTe nm always) av ∧
            Lw nm wd (upd A6 l (.lst (xs ++ [y]))) tp c cl wo wl dl nl ll bl li (groupD wd (groupsD wd noLs gs).1 ds).1 ((groupsD wd noLs gs).2.1 ++ (groupD wd (groupsD wd noLs gs).1 ds).2.1) (defsOf wd ++ lets ++ (groupsD wd noLs gs).2.2.map fun r => .iff always r []) ∧ LsAt nm (upd A6 l (.lst (xs ++ [y]))) rl (groupD wd (groupsD wd noLs gs).1 ds).2.2 := fun A6 v st est q6 rl6 aJ6 av6 => by
        obtain ⟨xs, hx1, hx2⟩ := rl6
        have tu : Tps A6 (upd A6 rl (.lst (xs ++ [v]))) := off_tps hx1 (by simp [tg])
        refine ⟨rl, xs, v, rfl, rfl, hx1, by rw [hx2.len, eSms_len, hlenR]; omega, _, _, ds ++ [d], rfl, by rw [List.length_append, hdl_]; rfl, fun x hx => ?_, ?_, At.same tu _ _ aJ6, ?_, ?_⟩
        · rcases List.mem_append.mp hx with h | h
          · exact hds x h
          · have : x = d := by simpa using h
            rw [this]; exact dok
        · rw [snoc d]
          show StOk (deedD wd s2 d).1 ((groupsD wd noLs gs).2.1 ++ ((groupD wd (groupsD wd noLs gs).1 ds).2.1 ++ (deedD wd s2 d).2.1)) (8 * g + (kk + 1))
          rw [← List.append_assoc, hL2]
          exact st3
        · rw [snoc d]
          show Lw nm wd _ tp c cl wo wl dl nl ll bl li (deedD wd s2 d).1 ((groupsD wd noLs gs).2.1 ++ ((groupD wd (groupsD wd noLs gs).1 ds).2.1 ++ (deedD wd s2 d).2.1)) _
          rw [← List.append_assoc, hL2]
          exact q6.own hx1 hr
        · rw [snoc d]
          show LsAt nm _ rl (R2 ++ [(deedD wd s2 d).2.2])
          refine ⟨_, upd_same, ?_⟩
          rw [eSms_app, est]
          refine Ats.app (Ats.same tu _ _ hx2) ?_
          rw [show eSms nm [st] = [eSm nm st] by simp [eSms]]
          exact .mkC (At.same tu _ _ av6) .mkN
      refine ⟨_, rfl, dd, _, 0, _, rfl, rfl, SqT.of hdd5, atI_nat (j := 0) rfl, _, 4, rfl, rfl, _, rfl, ?_⟩
      obtain ⟨xs5, hx51, _⟩ := id rl5
      have lli : li ≠ rl := hr li (by simp)
      have rlli : rl ≠ li := lli.symm
      have rlll : rl ≠ ll := (hr ll (by simp)).symm
      obtain ⟨ts5, ll5, _⟩ := q5.wo.hll
      have hls : ∀ m ∈ [li, ll], ∃ xs, A5 m = some (.lst xs) := fun m hm => by
        simp only [List.mem_cons, List.not_mem_nil, or_false] at hm
        rcases hm with rfl | rfl
        · exact ⟨_, q5.li⟩
        · exact ⟨_, ll5⟩
      by_cases hk5 : k1 > 4
      · have dk : d.k = k1 := rfl
        refine kT (decide_eq_true (by omega)) ?_
        have eD : deedD wd s2 d = (s2, lookD wd s2 d) := if_pos hk5
        refine ⟨_, rfl, .inl ⟨rfl, _, SqL.of hx51⟩, _, rfl, _, rfl, _, rfl, nm, N, wo, wl, dl, nl, ll, li, dd, wd, s2, d, L2, rfl, q5.wo, dok, hdd5, q5.li, off, by omega, st2.h8, fun A6 v b6 e6 a6 => ?_⟩
        have b6' : But2 li ll A5 A6 := fun x o n1 n2 h => b6 x o n1 h
        obtain ⟨q6, p6⟩ := q5.work b6' (q5.wo.but b6 q5.li off) e6
        refine row A6 v _ rfl (by rw [eD]; exact q6) (rl5.bm (Bm.of2 b6') hls (nin2 rlli rlll)) (At.same p6 _ _ aJ5) (by rw [eD]; exact a6)
      · have dk : d.k = k1 := rfl
        refine kF (by rw [decide_eq_false (by omega)]; simp) ?_
        have eD : deedD wd s2 d = changeD wd s2 d := if_neg hk5
        refine ⟨_, rfl, .inl ⟨rfl, _, SqL.of hx51⟩, _, rfl, _, rfl, _, rfl, nm, N, wo, wl, dl, nl, ll, li, dd, wd, s2, d, L2, rfl, q5.wo, dok, by show k1 ≤ 4; omega, hdd5, q5.li, off, offL, by omega, st2.h8, fun A6 v b6 e6 w6 a6 => ?_⟩
        obtain ⟨q6, p6⟩ := q5.work b6 w6 e6
        refine row A6 v _ rfl (by rw [eD]; exact q6) (rl5.bm (Bm.of2 b6) hls (nin2 rlli rlll)) (At.same p6 _ _ aJ5) (by rw [eD]; exact a6)
    · rintro σ J2 ⟨u14, u15, ds, rfl, hdl_, hds, st2, aJ, q, rls⟩
      rw [Int.toNat_natCast] at hdl_ st2
      obtain ⟨rws, hr1, hr2⟩ := rls
      obtain ⟨bws, hb1, hb2⟩ := q.bl
      have hgr : (groupsD wd noLs gs).2.2.length = gs.length := groupsD_len
      refine drop_mk rfl hb1 (by rw [hb2.len, eSms_len, List.length_append, List.length_map, hgr, hgl]; show 9 + g < sizeLine; omega) (mk_tup (mkA_cons mk_str (mkA_cons (mk_var rfl aJ) (mkA_cons (mk_tupOf (fun H p ys Q h1 h2 => ⟨p, ys, rfl, .inl ⟨h1, h2⟩⟩) (mk_lvar rfl hr1 hr2)) (mkA_cons (mk_tup mkA_nil (by show 0 ≤ sizeLine; decide)) mkA_nil)))) (by show 4 ≤ sizeLine; decide)) fun J3 v S3 av3 => ?_
      have q3 := q.same S3
      have snoc := groupsD_snoc (wd := wd) (g := gs) (s := noLs) (q := ds)
      refine ⟨_, _, _, _, _, gs ++ [ds], rfl, by rw [List.length_append, hgl]; rfl, fun x hx => ?_, ?_, ?_, ?_⟩
      · rcases List.mem_append.mp hx with h | h
        · exact hgs x h
        · have : x = ds := by simpa using h
          rw [this]; exact ⟨by omega, hds⟩
      · rw [snoc]
        have := st2.len
        exact ⟨st2.h8, st2.top, by show ((groupsD wd noLs gs).2.1 ++ _).length ≤ _; omega, st2.ok⟩
      · exact At.same (off_tps (S3 _ _ hb1) (by simp [tg])) _ _ (At.same (tps_of S3) _ _ aJ)
      · rw [snoc]
        show Lw nm wd _ tp c cl wo wl dl nl ll bl li (groupD wd (groupsD wd noLs gs).1 ds).1 ((groupsD wd noLs gs).2.1 ++ (groupD wd (groupsD wd noLs gs).1 ds).2.1) (defsOf wd ++ lets ++ ((groupsD wd noLs gs).2.2 ++ [(groupD wd (groupsD wd noLs gs).1 ds).2.2]).map fun r => .iff always r [])
        rw [List.map_append, ← List.append_assoc]
        refine q3.body (S3 _ _ hb1) (Ats.same (tps_of S3) _ _ hb2) ?_
        have e : eSm nm (.iff always (groupD wd (groupsD wd noLs gs).1 ds).2.2 []) = _ := (by simp only [eSm, eSms]; rfl)
        rw [e]
        exact av3
  rintro σ J15 ⟨u8, u10, u13, u14, u15, gs, rfl, hgl, hgs, st, aJ, q⟩
  have hgl3 : gs.length = 3 := hgl
  obtain ⟨qa, qb, qc, rfl⟩ : ∃ qa qb qc, gs = [qa, qb, qc] := by
    match gs, hgl3 with
    | [x, y, z], _ => exact ⟨x, y, z, rfl⟩
  have run := run_ok (wd := wd) (qa := qa) (qb := qb) (qc := qc) (hgs qa (by simp)).2 (hgs qb (by simp)).2 (hgs qc (by simp)).2 (hgs qa (by simp)).1 (hgs qb (by simp)).1 (hgs qc (by simp)).1
  rw [three_eq] at run
  have eB : defsOf wd ++ lets ++ ((groupsD wd noLs [qa, qb, qc]).2.2.map fun r => .iff always r []) = bodyOf wd (groupD wd noLs qa).2.2 (groupD wd (groupD wd noLs qa).1 qb).2.2 (groupD wd (groupD wd (groupD wd noLs qa).1 qb).1 qc).2.2 := rfl
  rw [eB] at q
  have wa := wf_group hwd (q := qa) (s := noLs) (hgs qa (by simp)).2
  have wb := wf_group hwd (q := qb) (s := (groupD wd noLs qa).1) (hgs qb (by simp)).2
  have wc := wf_group hwd (q := qc) (s := (groupD wd (groupD wd noLs qa).1 qb).1) (hgs qc (by simp)).2
  have la := (hgs qa (by simp)).1
  have lb := (hgs qb (by simp)).1
  have lc := (hgs qc (by simp)).1
  have wf := wf_body hwd wa.1 wb.1 wc.1 (by rw [wa.2]; omega) (by rw [wb.2]; omega) (by rw [wc.2]; omega)
  have oL := st.ok
  have hL := st.len
  generalize (groupsD wd noLs [qa, qb, qc]).2.1 = LL at run q oL hL
  generalize (groupsD wd noLs [qa, qb, qc]).1 = sE at q
  generalize bodyOf wd (groupD wd noLs qa).2.2 (groupD wd (groupD wd noLs qa).1 qb).2.2 (groupD wd (groupD wd (groupD wd noLs qa).1 qb).1 qc).2.2 = BB at run q wf
  obtain ⟨n, m, hn, left⟩ := W.left run
  have hL2 : LL.length < sizeLine := by
    have : (8 * (3 : Int).toNat) = 24 := rfl
    omega
  clear run wa wb wc eB st
  -- the program
  obtain ⟨bws, hb1, hb2⟩ := q.bl
  refine fun cd hcd => ⟨_, rfl, bl, _, rfl, .inl ⟨SqL.of (same_new hcd _ _ _ hb1), fun bt hbt => fun x dx nx ndx nex => ?_⟩⟩
  have V1 := same_new hcd (.dK [])
  have cd1 : (upd J15 cd (.dK [])) cd = some (.dK []) := upd_same
  generalize upd J15 cd (.dK []) = V1h at hbt V1 cd1 nx ndx ⊢
  have V2 := same_new hbt (.tup bws)
  have bt2 : (upd V1h bt (.tup bws)) bt = some (.tup bws) := upd_same
  generalize upd V1h bt (.tup bws) = V2h at V2 bt2 nx ndx ⊢
  have V12 := V1.trans V2
  have ab : At V2h (.t (eSms nm BB)) (.ref bt) := .mkT bt2 (Ats.same (tps_of V12) _ _ hb2)
  have V3 := made0 (o := .ins (He.ga K "Program") dx []) nx ndx
  refine ⟨nm, N, x, dx, cd, BB, .ref bt, rfl, upd_same, V3 _ _ (V2 _ _ cd1), At.same (tps_of V3) _ _ ab, wf, fun H1 ph b1 e1 e2 => ⟨rfl, ?_⟩⟩
  have V4 : Same V2h H1 := But.made b1 nx ndx
  have V14 := V12.trans V4
  have pg : ProgAt K nm H1 x BB := ⟨dx, ph, .ref bt, e1, e2, At.same (tps_of V4) _ _ ab⟩
  have li1 := V14 _ _ q.li
  change tSeq _ _ _ [some (.ref a), some (.ref tp), some (.ref wl), some (.ref dl), some (.ref na), some (.ref wo), some av, some (.ref bl), u8, some (.ref li), u10, some (.ref x), none, u13, u14, u15] H1
  -- the run
  refine ⟨_, rfl, nm, N, x, BB, LL, n, m, rfl, pg, left, by omega, hL2, fun H2 qq lp ep S2 hq hlp hep => ?_⟩
  change tSeq _ _ _ [some (.ref a), some (.ref tp), some (.ref wl), some (.ref dl), some (.ref na), some (.ref wo), some av, some (.ref bl), u8, some (.ref li), u10, some (.ref x), some (.ref qq), u13, u14, u15] H2
  have pg2 := pg.same S2
  have li2 := S2 _ _ li1
  refine ⟨_, rfl, _, _, _, _, true, rfl, .ty "tuple", .base (.tup hq), kit_ty (by decide +kernel), true, rfl, iteF ?_⟩
  refine ⟨_, rfl, qq, _, rfl, .inr (SqT.of hq), rfl, _, rfl, kF (by show ¬ (!decide (V.int ((2 : Nat) : Int) = V.int 2)) = true; decide +kernel) ?_⟩
  refine ⟨_, rfl, qq, _, 0, _, rfl, rfl, SqT.of hq, atI_nat (j := 0) rfl, _, _, _, _, true, rfl, .ty "list", .base (.lst hlp), kit_ty (by decide +kernel), true, rfl, iteF ?_⟩
  refine ⟨_, rfl, qq, _, 1, _, rfl, rfl, SqT.of hq, atI_nat (j := 1) rfl, _, _, _, _, true, rfl, .ty "tuple", .base (.tup hep), kit_ty (by decide +kernel), true, rfl, iteF ?_⟩
  -- what is told
  have okD : ∀ y ∈ ([Str.ofString "done"] : List Str), PyData.strOk y = true := by decide +kernel
  have okR : ∀ y ∈ ([Str.ofString "raised", Str.ofString "none"] : List Str), PyData.strOk y = true := by decide +kernel
  refine ⟨_, rfl, qq, _, 0, _, rfl, rfl, SqT.of hq, atI_nat (j := 0) rfl, _, rfl, _, _, dp_lst (SqL.of hlp), dp_lst (SqL.of li2), shaped_list oL, shaped_list oL, _, rfl, ?_⟩
  refine kF (by rw [eqv_list, decide_eq_true rfl]; simp) ?_
  refine ⟨_, rfl, qq, _, 1, _, rfl, rfl, SqT.of hq, atI_nat (j := 1) rfl, by show 1 ≤ sizeLine; decide, fun dn hdn => ?_⟩
  have S3 := same_new hdn (.tup [.str "done"])
  have dn3 : (upd H2 dn (.tup [.str "done"])) dn = some (.tup (([Str.ofString "done"] : List Str).map V.str)) := upd_same
  generalize upd H2 dn (.tup [.str "done"]) = H3' at S3 dn3 ⊢
  have hep3 : H3' ep = some (.tup (([Str.ofString "done"] : List Str).map V.str)) := S3 _ _ hep
  refine ⟨_, _, dp_tup (SqT.of hep3), dp_tup (SqT.of dn3), shaped_tup okD, shaped_tup okD, _, rfl, ?_⟩
  refine kF (by rw [eqv_tup, decide_eq_true rfl]; simp) ?_
  have li3 := S3 _ _ li2
  have pg3 := pg2.same S3
  refine ⟨_, rfl, _, rfl, li, _, rfl, .inl (SqL.of li3), fun l2 hl2 => ⟨by show 1 ≤ sizeLine; decide, fun d2 hd2 => ?_⟩⟩
  have S4 := same_new hl2 (.lst (LL.map V.str))
  have l24 : (upd H3' l2 (.lst (LL.map V.str))) l2 = some (.lst (LL.map V.str)) := upd_same
  generalize upd H3' l2 (.lst (LL.map V.str)) = H4' at hd2 S4 l24 ⊢
  have S5 := same_new hd2 (.tup [.str "done"])
  have d25 : (upd H4' d2 (.tup [.str "done"])) d2 = some (.tup (([Str.ofString "done"] : List Str).map V.str)) := upd_same
  generalize upd H4' d2 (.tup [.str "done"]) = H5' at S5 d25 ⊢
  refine ⟨nm, N, x, l2, d2, BB, LL, LL, [Str.ofString "done"], n, m, rfl, pg3.same (S4.trans S5), left, by omega, hL2, oL, oL, okD, S5 _ _ l24, d25, fun H6 S6 => ⟨_, rfl, ?_⟩⟩
  rw [decide_eq_true (rfl : LL = LL), decide_eq_true (rfl : ([Str.ofString "done"] : List Str) = [Str.ofString "done"])]
  refine kF (by simp) ?_
  have li6 := ((S4.trans S5).trans S6) _ _ li3
  have pg6 := pg3.same ((S4.trans S5).trans S6)
  refine ⟨_, rfl, li, _, rfl, .inl (SqL.of li6), _, 0, rfl, rfl, _, rfl, ?_⟩
  refine both ?last (fun e r => ?less) (fun e r => iteF r)
  case less =>
    cases LL with
    | nil => simp at e
    | cons y ys =>
      refine ⟨_, rfl, _, rfl, 1, rfl, li, _, rfl, SqL.of li6, fun l3 hl3 => ⟨by show 1 ≤ sizeLine; decide, fun d3 hd3 => ?_⟩⟩
      rw [show cutV ((y :: ys).map V.str) (some 1) none = ys.map V.str from cutV_tail] at hd3 ⊢
      have S7 := same_new hl3 (.lst (ys.map V.str))
      have l37 : (upd H6 l3 (.lst (ys.map V.str))) l3 = some (.lst (ys.map V.str)) := upd_same
      generalize upd H6 l3 (.lst (ys.map V.str)) = H7' at hd3 S7 l37 ⊢
      have S8 := same_new hd3 (.tup [.str "done"])
      have d38 : (upd H7' d3 (.tup [.str "done"])) d3 = some (.tup (([Str.ofString "done"] : List Str).map V.str)) := upd_same
      generalize upd H7' d3 (.tup [.str "done"]) = H8' at S8 d38 ⊢
      refine ⟨nm, N, x, l3, d3, BB, y :: ys, ys, [Str.ofString "done"], n, m, rfl, pg6.same (S7.trans S8), left, by omega, hL2, oL, fun z hz => oL z (List.mem_cons_of_mem _ hz), okD, S8 _ _ l37, d38, fun H9 S9 => ⟨_, rfl, ?_⟩⟩
      have ne : ¬ ys = y :: ys := fun e => by have := congrArg List.length e; simp at this
      rw [decide_eq_false ne]
      refine kF (by simp) ?_
      have S79 := (S7.trans S8).trans S9
      have li9 := S79 _ _ li6
      have pg9 := pg6.same S79
      refine ⟨_, rfl, _, rfl, li, _, rfl, .inl (SqL.of li9), fun l5 hl5 => ⟨by show 2 ≤ sizeLine; decide, fun d5 hd5 => ?_⟩⟩
      have SA := same_new hl5 (.lst ((y :: ys).map V.str))
      have l5a : (upd H9 l5 (.lst ((y :: ys).map V.str))) l5 = some (.lst ((y :: ys).map V.str)) := upd_same
      generalize upd H9 l5 (.lst ((y :: ys).map V.str)) = HA at hd5 SA l5a ⊢
      have SB := same_new hd5 (.tup [.str "raised", .str "none"])
      have d5b : (upd HA d5 (.tup [.str "raised", .str "none"])) d5 = some (.tup (([Str.ofString "raised", Str.ofString "none"] : List Str).map V.str)) := upd_same
      generalize upd HA d5 (.tup [.str "raised", .str "none"]) = HB at SB d5b ⊢
      refine ⟨nm, N, x, l5, d5, BB, y :: ys, y :: ys, [Str.ofString "raised", Str.ofString "none"], n, m, rfl, pg9.same (SA.trans SB), left, by omega, hL2, oL, oL, okR, SB _ _ l5a, d5b, fun HZ SZ => ⟨_, rfl, ?_⟩⟩
      rw [decide_eq_true (rfl : y :: ys = y :: ys), show decide (([Str.ofString "raised", Str.ofString "none"] : List Str) = [Str.ofString "done"]) = false by decide +kernel]
      exact k HZ
  case last =>
    refine ⟨_, rfl, _, rfl, li, _, rfl, .inl (SqL.of li6), fun l5 hl5 => ⟨by show 2 ≤ sizeLine; decide, fun d5 hd5 => ?_⟩⟩
    have SA := same_new hl5 (.lst ((LL).map V.str))
    have l5a : (upd H6 l5 (.lst ((LL).map V.str))) l5 = some (.lst ((LL).map V.str)) := upd_same
    generalize upd H6 l5 (.lst ((LL).map V.str)) = HA at hd5 SA l5a ⊢
    have SB := same_new hd5 (.tup [.str "raised", .str "none"])
    have d5b : (upd HA d5 (.tup [.str "raised", .str "none"])) d5 = some (.tup (([Str.ofString "raised", Str.ofString "none"] : List Str).map V.str)) := upd_same
    generalize upd HA d5 (.tup [.str "raised", .str "none"]) = HB at SB d5b ⊢
    refine ⟨nm, N, x, l5, d5, BB, LL, LL, [Str.ofString "raised", Str.ofString "none"], n, m, rfl, pg6.same (SA.trans SB), left, by omega, hL2, oL, oL, okR, SB _ _ l5a, d5b, fun HZ SZ => ⟨_, rfl, ?_⟩⟩
    rw [decide_eq_true (rfl : LL = LL), show decide (([Str.ofString "raised", Str.ofString "none"] : List Str) = [Str.ofString "done"]) = false by decide +kernel]
    exact k HZ
end
end K38
end
/-! K38M: the join. -/
namespace K38
open PySem PySem.Spec PyProof.Rows L2
theorem law_facts {P : Program} {w : World} {K : PySem.W.Frag} {mg : Str → Option Value} {f : Addr} (T : Tx K mg) (hfa : mg ("law" : Str) = some (.ref f)) :
    ∃ fd : FuncData, (∀ (s : Shared) (v : Value), BindsTo s fd ⟨[v], []⟩ [("_law_script", v)]) ∧ ∀ base : Heap, FnOk P w K mg base CX0 90 f fd ["_law_script"] (spLaw K) := by
  obtain ⟨fd, F⟩ := T.f_law
  have e := hfa.symm.trans T.g_law
  cases e
  refine ⟨fd, fun s v => FunD.bindsA (ps := ["_law_script"]) F (fun _ _ _ _ _ _ us hl => match us, hl with | [_], _ => rfl) s [v] rfl, fun base => ?_⟩
  obtain ⟨fd', us, G, _, _, _, oc', od', osl', lk'⟩ := ok_law (P := P) (w := w) (base := base) T
  obtain ⟨oc, od, _, _, _, _, _, _, _, osl, _, lk, _⟩ := F.ex
  rw [lk] at lk'
  cases lk'
  exact G
end K38
open PySem PySem.W PySem.Calls PyProof.Rows
theorem PySem.Challenge.cw_standsfor_k38_whole_lists_of_functions_holds : PySem.Challenge.rw_standsfor_k38_whole_lists_of_functions.Holds := by
  w_on; o_law
  refine HandSHeadRun.head_any (r := K38.Rw) (q := view K38.Rw.prog [K38.lawAt]) (H := K38.hk) (ob := K38.ob) (M := 12000) (loose := K38.loose) (d := HandSHeadRun.topDef K38.Rw.prog K38.lawAt) (kwd := [])
    K38.ob_eq (by kernel_rfl) (fun s => by kernel_rfl) K38.run (by kernel_rfl) (by kernel_rfl) (by kernel_rfl) (by rfl) (by first | assumption | decide +kernel) (by decide +kernel) ⟨rfl, rfl, rfl, rfl, rfl, by decide +kernel⟩ ?hw ?hc
  case hw => w_witness2
  case hc =>
    refine L2.walk_ofE (l := PySem.Challenge.rw_standsfor_k38_whole_lists_of_functions) (n := 63) (k := 90) (x := "_law_script") (CX := L2.CX0) rfl (by decide) (by kernel_rfl) ⟨rfl, by decide, by decide⟩ ?F (fun _ _ _ _ z => z)
    intro w mg fa h Y G hmg0
    obtain ⟨K, KX, c⟩ := Y
    have hmg : mg ("law" : PySem.Str) = some (.ref fa) := by
      have e : (HandSHeadRun.topDef K38.Rw.prog K38.lawAt).name = ("law" : PySem.Str) := by kernel_rfl
      rw [← e]
      exact hmg0
    obtain ⟨fd, hb, hF⟩ := K38.law_facts (P := PySem.Challenge.rw_standsfor_k38_whole_lists_of_functions.prog) (w := w) (K38.tx_of KX G c) hmg
    exact ⟨K, fd, K38.spLaw K, KX, hb, fun H a ns hl _ hS => ⟨a, ns, rfl, hS, fun _ => rfl⟩, fun base _ _ => hF base⟩
