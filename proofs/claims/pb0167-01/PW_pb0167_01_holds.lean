import PyProof.Rows.All
import Wide.All
import OpenK.AllK
import Wide.FinOn
import PySem.Challenge.RW_pb0167_01
open PySem PySem.W PySem.Calls PyProof.Rows
set_option Elab.async false
set_option maxRecDepth 100000
set_option linter.unusedVariables false
namespace Mine
/-! the head, in pieces: printed by genhd.py (a program of mine) -/
abbrev pg : Program := PySem.Challenge.pw_pb0167_01
abbrev dE (P : Params) (x : Str) (t : Tok) (v : Value) : DictEntry := ⟨PyData.keyHash P x, .str x t, v⟩
noncomputable def ldr (P : Params) : Value := match (PySem.W.boot_o_3 P).data with
  | .dict es _ => ((es.toList.drop 3).map (·.val)).headD .none
  | _ => .none
def kid (l : List Stmt) (i : Nat) : Stmt := (l.drop i).headD (.Pass ⟨0, 0, 0, 0⟩)
def inC : Stmt → List Stmt
  | .ClassDef (body := b) .. => b
  | _ => []
def prmOf : Stmt → Arguments
  | .FunctionDef (args := a) .. => a
  | _ => ⟨[], [], none, [], [], none, []⟩
def bdyOf : Stmt → List Stmt
  | .FunctionDef (body := b) .. => b
  | _ => []
def scpOf : Stmt → Scope
  | .FunctionDef (scope := s) .. => s
  | _ => ⟨.function, [], false, false, []⟩
noncomputable def dd0 : Stmt := kid pg.main.body 0
noncomputable def fP0 : Arguments := prmOf dd0
noncomputable def bd0 : List Stmt := bdyOf dd0
noncomputable def fS0 : Scope := scpOf dd0
noncomputable def dd1 : Stmt := kid (inC (kid pg.main.body 2)) 0
noncomputable def fP1 : Arguments := prmOf dd1
noncomputable def bd1 : List Stmt := bdyOf dd1
noncomputable def fS1 : Scope := scpOf dd1
noncomputable def dd2 : Stmt := kid (inC (kid pg.main.body 2)) 1
noncomputable def fP2 : Arguments := prmOf dd2
noncomputable def bd2 : List Stmt := bdyOf dd2
noncomputable def fS2 : Scope := scpOf dd2
noncomputable def dd3 : Stmt := kid (inC (kid pg.main.body 2)) 2
noncomputable def fP3 : Arguments := prmOf dd3
noncomputable def bd3 : List Stmt := bdyOf dd3
noncomputable def fS3 : Scope := scpOf dd3
noncomputable def dd4 : Stmt := kid (inC (kid pg.main.body 2)) 3
noncomputable def fP4 : Arguments := prmOf dd4
noncomputable def bd4 : List Stmt := bdyOf dd4
noncomputable def fS4 : Scope := scpOf dd4
noncomputable def dd5 : Stmt := kid (inC (kid pg.main.body 5)) 0
noncomputable def fP5 : Arguments := prmOf dd5
noncomputable def bd5 : List Stmt := bdyOf dd5
noncomputable def fS5 : Scope := scpOf dd5
noncomputable def dd6 : Stmt := kid (inC (kid pg.main.body 5)) 1
noncomputable def fP6 : Arguments := prmOf dd6
noncomputable def bd6 : List Stmt := bdyOf dd6
noncomputable def fS6 : Scope := scpOf dd6
noncomputable def dd7 : Stmt := kid (inC (kid pg.main.body 5)) 2
noncomputable def fP7 : Arguments := prmOf dd7
noncomputable def bd7 : List Stmt := bdyOf dd7
noncomputable def fS7 : Scope := scpOf dd7
noncomputable def dd8 : Stmt := kid (inC (kid pg.main.body 6)) 0
noncomputable def fP8 : Arguments := prmOf dd8
noncomputable def bd8 : List Stmt := bdyOf dd8
noncomputable def fS8 : Scope := scpOf dd8
noncomputable def dd9 : Stmt := kid (inC (kid pg.main.body 6)) 1
noncomputable def fP9 : Arguments := prmOf dd9
noncomputable def bd9 : List Stmt := bdyOf dd9
noncomputable def fS9 : Scope := scpOf dd9
noncomputable def dd10 : Stmt := kid (inC (kid pg.main.body 6)) 2
noncomputable def fP10 : Arguments := prmOf dd10
noncomputable def bd10 : List Stmt := bdyOf dd10
noncomputable def fS10 : Scope := scpOf dd10
noncomputable def dd11 : Stmt := kid (inC (kid pg.main.body 6)) 3
noncomputable def fP11 : Arguments := prmOf dd11
noncomputable def bd11 : List Stmt := bdyOf dd11
noncomputable def fS11 : Scope := scpOf dd11
noncomputable def dd12 : Stmt := kid pg.main.body 7
noncomputable def fP12 : Arguments := prmOf dd12
noncomputable def bd12 : List Stmt := bdyOf dd12
noncomputable def fS12 : Scope := scpOf dd12
noncomputable def dd13 : Stmt := kid pg.main.body 8
noncomputable def fP13 : Arguments := prmOf dd13
noncomputable def bd13 : List Stmt := bdyOf dd13
noncomputable def fS13 : Scope := scpOf dd13
noncomputable def dd14 : Stmt := kid pg.main.body 9
noncomputable def fP14 : Arguments := prmOf dd14
noncomputable def bd14 : List Stmt := bdyOf dd14
noncomputable def fS14 : Scope := scpOf dd14
noncomputable def dd15 : Stmt := kid (inC (kid pg.main.body 11)) 0
noncomputable def fP15 : Arguments := prmOf dd15
noncomputable def bd15 : List Stmt := bdyOf dd15
noncomputable def fS15 : Scope := scpOf dd15
noncomputable def dd16 : Stmt := kid (inC (kid pg.main.body 11)) 1
noncomputable def fP16 : Arguments := prmOf dd16
noncomputable def bd16 : List Stmt := bdyOf dd16
noncomputable def fS16 : Scope := scpOf dd16
noncomputable def dd17 : Stmt := kid (inC (kid pg.main.body 11)) 2
noncomputable def fP17 : Arguments := prmOf dd17
noncomputable def bd17 : List Stmt := bdyOf dd17
noncomputable def fS17 : Scope := scpOf dd17
noncomputable def dd18 : Stmt := kid (inC (kid pg.main.body 11)) 3
noncomputable def fP18 : Arguments := prmOf dd18
noncomputable def bd18 : List Stmt := bdyOf dd18
noncomputable def fS18 : Scope := scpOf dd18
noncomputable def dd19 : Stmt := kid (inC (kid pg.main.body 11)) 4
noncomputable def fP19 : Arguments := prmOf dd19
noncomputable def bd19 : List Stmt := bdyOf dd19
noncomputable def fS19 : Scope := scpOf dd19
noncomputable def dd20 : Stmt := kid pg.main.body 13
noncomputable def fP20 : Arguments := prmOf dd20
noncomputable def bd20 : List Stmt := bdyOf dd20
noncomputable def fS20 : Scope := scpOf dd20
noncomputable def dd21 : Stmt := kid pg.main.body 14
noncomputable def fP21 : Arguments := prmOf dd21
noncomputable def bd21 : List Stmt := bdyOf dd21
noncomputable def fS21 : Scope := scpOf dd21
noncomputable def dd22 : Stmt := kid pg.main.body 15
noncomputable def fP22 : Arguments := prmOf dd22
noncomputable def bd22 : List Stmt := bdyOf dd22
noncomputable def fS22 : Scope := scpOf dd22
noncomputable def dd23 : Stmt := kid pg.main.body 16
noncomputable def fP23 : Arguments := prmOf dd23
noncomputable def bd23 : List Stmt := bdyOf dd23
noncomputable def fS23 : Scope := scpOf dd23
noncomputable def dd24 : Stmt := kid pg.main.body 17
noncomputable def fP24 : Arguments := prmOf dd24
noncomputable def bd24 : List Stmt := bdyOf dd24
noncomputable def fS24 : Scope := scpOf dd24
noncomputable def dd25 : Stmt := kid pg.main.body 18
noncomputable def fP25 : Arguments := prmOf dd25
noncomputable def bd25 : List Stmt := bdyOf dd25
noncomputable def fS25 : Scope := scpOf dd25
noncomputable def dd26 : Stmt := kid pg.main.body 19
noncomputable def fP26 : Arguments := prmOf dd26
noncomputable def bd26 : List Stmt := bdyOf dd26
noncomputable def fS26 : Scope := scpOf dd26
noncomputable def dd27 : Stmt := kid pg.main.body 20
noncomputable def fP27 : Arguments := prmOf dd27
noncomputable def bd27 : List Stmt := bdyOf dd27
noncomputable def fS27 : Scope := scpOf dd27
noncomputable def dd28 : Stmt := kid pg.main.body 21
noncomputable def fP28 : Arguments := prmOf dd28
noncomputable def bd28 : List Stmt := bdyOf dd28
noncomputable def fS28 : Scope := scpOf dd28
noncomputable def o11 (P : Params) : Obj := { cls := .type "tuple", data := .seq #[] }
noncomputable def o12 (P : Params) : Obj := { cls := .none, data := .fields #[] }
noncomputable def o13 (P : Params) : Obj := { cls := .type "code", data := .fields #[.str "<module>" 182, .str "<module>" 183, .str "/claim/cut.py" 184, .int 1 0, .int 0 0, .int 0 0, .int 0 0, .int 0 0, .ref 11, .bool false, .int 181 0, .ref 12, .none, .none, .none, .none, .int 185 0, .int 1 0, .str "/claim/cut.py" 186] }
noncomputable def o14 (P : Params) : Obj := { cls := .type "frame", slots := #[some (.ref 13), some (.ref 3), some (.ref 3), none, some (.str "__main__" 164), none, some (.ref 0)] }
noncomputable def hp_pre (P : Params) : Heap := ⟨⟨[PySem.W.boot_o_0 P, PySem.W.boot_o_1 P, PySem.W.boot_o_2 P, PySem.W.boot_o_3 P, PySem.W.boot_o_4 P, PySem.W.boot_o_5 P, PySem.W.boot_o_6 P, PySem.W.boot_o_7 P, PySem.W.boot_o_8 P, PySem.W.boot_o_9 P, PySem.W.boot_o_10 P, o11 P, o12 P, o13 P, o14 P]⟩, {}⟩
noncomputable def tr_block (P : Params) : BT := .node (PySem.W.boot_o_0 P) (.node (PySem.W.boot_o_1 P) (.node (PySem.W.boot_o_3 P) (.node (PySem.W.boot_o_7 P) .nil .nil) (.node (o11 P) .nil .nil)) (.node (PySem.W.boot_o_5 P) (.node (PySem.W.boot_o_9 P) .nil .nil) (.node (o13 P) .nil .nil))) (.node (PySem.W.boot_o_2 P) (.node (PySem.W.boot_o_4 P) (.node (PySem.W.boot_o_8 P) .nil .nil) (.node (o12 P) .nil .nil)) (.node (PySem.W.boot_o_6 P) (.node (PySem.W.boot_o_10 P) .nil .nil) (.node (o14 P) .nil .nil)))
noncomputable def o3_p4 (P : Params) : Obj := { cls := .type "dict", data := .dict #[dE P "__name__" 165 (.str "joinedhand.contexts" 251), dE P "__doc__" 166 (.none), dE P "__package__" 167 (.none), dE P "__loader__" 168 (ldr P), dE P "__spec__" 169 (.none), dE P "__annotations__" 170 (.ref 6), dE P "__builtins__" 171 (.ref 4), dE P "__file__" 173 (.str "/claim/cut.py" 172), dE P "__cached__" 174 (.none), dE P "_wall" 193 (.ref 21), dE P "Coverage" 250 (.ref 59), dE P "BY_CLASSES" 254 (.int 2 253)] 12 }
noncomputable def o12_p4 (P : Params) : Obj := { cls := .none, data := .fields #[.int 1 0, .int 0 0, .ref 20, .int 5 0, .int 0 0, .ref 27] }
noncomputable def o15 (P : Params) : Obj := { cls := .type "tuple", data := .seq #[] }
noncomputable def o16 (P : Params) : Obj := { cls := .none, data := .fields #[] }
noncomputable def o17 (P : Params) : Obj := { cls := .type "tuple", data := .seq #[.str "k" 190] }
noncomputable def o18 (P : Params) : Obj := { cls := .type "tuple", data := .seq #[] }
noncomputable def o19 (P : Params) : Obj := { cls := .none, data := .func { name := "_wall", qualname := "_wall", params := fP0, body := .stmts bd0, scope := fS0, globals := 0, closure := [], defaults := .none, kwdefaults := .none } }
noncomputable def o20 (P : Params) : Obj := { cls := .type "code", data := .fields #[.str "_wall" 187, .str "_wall" 188, .str "/claim/cut.py" 189, .int 1 0, .int 1 0, .int 0 0, .int 0 0, .int 3 0, .ref 15, .bool true, .int 181 0, .ref 16, .none, .ref 17, .ref 18, .ref 19, .int 191 0, .int 1 0, .str "/claim/cut.py" 192] }
noncomputable def o21 (P : Params) : Obj := { cls := .type "function", data := .func { name := "_wall", qualname := "_wall", params := fP0, body := .stmts bd0, scope := fS0, globals := 3, closure := [], defaults := .none, kwdefaults := .none, pyModule := .str "__main__" 164, code := .ref 20 } }
noncomputable def o22 (P : Params) : Obj := { cls := .type "tuple", data := .seq #[] }
noncomputable def o23 (P : Params) : Obj := { cls := .type "builtin_function_or_method", data := .fields #[.builtin "type.__prepare__", .type "type"] }
noncomputable def o24 (P : Params) : Obj := { cls := .type "dict", data := .dict #[dE P "__module__" 203 (.str "joinedhand.coverage" 194), dE P "__qualname__" 205 (.str "Coverage" 204), dE P "__firstlineno__" 207 (.int 5 206), dE P "__init__" 215 (.ref 35), dE P "index" 226 (.ref 42), dE P "has" 234 (.ref 49), dE P "told" 241 (.ref 56), dE P "__static_attributes__" 243 (.ref 57)] 8 }
noncomputable def o25 (P : Params) : Obj := { cls := .type "tuple", data := .seq #[] }
noncomputable def o26 (P : Params) : Obj := { cls := .none, data := .fields #[.int 7 0, .int 4 0, .ref 34, .int 10 0, .int 4 0, .ref 41, .int 23 0, .int 4 0, .ref 48, .int 26 0, .int 4 0, .ref 55] }
noncomputable def o27 (P : Params) : Obj := { cls := .type "code", data := .fields #[.str "Coverage" 198, .str "Coverage" 199, .str "/claim/cut.py" 200, .int 5 0, .int 0 0, .int 0 0, .int 0 0, .int 0 0, .ref 25, .bool false, .int 181 0, .ref 26, .none, .none, .none, .none, .int 201 0, .int 5 0, .str "/claim/cut.py" 202] }
noncomputable def o28 (P : Params) : Obj := { cls := .type "frame", slots := #[some (.ref 27), some (.ref 3), some (.ref 24), none, some (.str "joinedhand.coverage" 194), none, some (.ref 0)] }
noncomputable def o29 (P : Params) : Obj := { cls := .type "tuple", data := .seq #[] }
noncomputable def o30 (P : Params) : Obj := { cls := .none, data := .fields #[] }
noncomputable def o31 (P : Params) : Obj := { cls := .type "tuple", data := .seq #[.str "self" 211, .str "glyphs" 212] }
noncomputable def o32 (P : Params) : Obj := { cls := .type "tuple", data := .seq #[] }
noncomputable def o33 (P : Params) : Obj := { cls := .none, data := .func { name := "__init__", qualname := "Coverage.__init__", params := fP1, body := .stmts bd1, scope := fS1, globals := 0, closure := [], defaults := .none, kwdefaults := .none } }
noncomputable def o34 (P : Params) : Obj := { cls := .type "code", data := .fields #[.str "__init__" 208, .str "Coverage.__init__" 209, .str "/claim/cut.py" 210, .int 7 0, .int 2 0, .int 0 0, .int 0 0, .int 3 0, .ref 29, .bool true, .int 181 0, .ref 30, .none, .ref 31, .ref 32, .ref 33, .int 213 0, .int 7 0, .str "/claim/cut.py" 214] }
noncomputable def o35 (P : Params) : Obj := { cls := .type "function", data := .func { name := "__init__", qualname := "Coverage.__init__", params := fP1, body := .stmts bd1, scope := fS1, globals := 3, closure := [], defaults := .none, kwdefaults := .none, pyModule := .str "joinedhand.coverage" 194, code := .ref 34 } }
noncomputable def o36 (P : Params) : Obj := { cls := .type "tuple", data := .seq #[] }
noncomputable def o37 (P : Params) : Obj := { cls := .none, data := .fields #[] }
noncomputable def o38 (P : Params) : Obj := { cls := .type "tuple", data := .seq #[.str "self" 219, .str "glyph" 220, .str "low" 221, .str "high" 222, .str "middle" 223] }
noncomputable def o39 (P : Params) : Obj := { cls := .type "tuple", data := .seq #[] }
noncomputable def o40 (P : Params) : Obj := { cls := .none, data := .func { name := "index", qualname := "Coverage.index", params := fP2, body := .stmts bd2, scope := fS2, globals := 0, closure := [], defaults := .none, kwdefaults := .none } }
noncomputable def o41 (P : Params) : Obj := { cls := .type "code", data := .fields #[.str "index" 216, .str "Coverage.index" 217, .str "/claim/cut.py" 218, .int 10 0, .int 2 0, .int 0 0, .int 0 0, .int 3 0, .ref 36, .bool true, .int 181 0, .ref 37, .none, .ref 38, .ref 39, .ref 40, .int 224 0, .int 10 0, .str "/claim/cut.py" 225] }
noncomputable def o42 (P : Params) : Obj := { cls := .type "function", data := .func { name := "index", qualname := "Coverage.index", params := fP2, body := .stmts bd2, scope := fS2, globals := 3, closure := [], defaults := .none, kwdefaults := .none, pyModule := .str "joinedhand.coverage" 194, code := .ref 41 } }
noncomputable def o43 (P : Params) : Obj := { cls := .type "tuple", data := .seq #[] }
noncomputable def o44 (P : Params) : Obj := { cls := .none, data := .fields #[] }
noncomputable def o45 (P : Params) : Obj := { cls := .type "tuple", data := .seq #[.str "self" 230, .str "glyph" 231] }
noncomputable def o46 (P : Params) : Obj := { cls := .type "tuple", data := .seq #[] }
noncomputable def o47 (P : Params) : Obj := { cls := .none, data := .func { name := "has", qualname := "Coverage.has", params := fP3, body := .stmts bd3, scope := fS3, globals := 0, closure := [], defaults := .none, kwdefaults := .none } }
noncomputable def o48 (P : Params) : Obj := { cls := .type "code", data := .fields #[.str "has" 227, .str "Coverage.has" 228, .str "/claim/cut.py" 229, .int 23 0, .int 2 0, .int 0 0, .int 0 0, .int 3 0, .ref 43, .bool true, .int 181 0, .ref 44, .none, .ref 45, .ref 46, .ref 47, .int 232 0, .int 23 0, .str "/claim/cut.py" 233] }
noncomputable def o49 (P : Params) : Obj := { cls := .type "function", data := .func { name := "has", qualname := "Coverage.has", params := fP3, body := .stmts bd3, scope := fS3, globals := 3, closure := [], defaults := .none, kwdefaults := .none, pyModule := .str "joinedhand.coverage" 194, code := .ref 48 } }
noncomputable def o50 (P : Params) : Obj := { cls := .type "tuple", data := .seq #[] }
noncomputable def o51 (P : Params) : Obj := { cls := .none, data := .fields #[] }
noncomputable def o52 (P : Params) : Obj := { cls := .type "tuple", data := .seq #[.str "self" 238] }
noncomputable def o53 (P : Params) : Obj := { cls := .type "tuple", data := .seq #[] }
noncomputable def o54 (P : Params) : Obj := { cls := .none, data := .func { name := "told", qualname := "Coverage.told", params := fP4, body := .stmts bd4, scope := fS4, globals := 0, closure := [], defaults := .none, kwdefaults := .none } }
noncomputable def o55 (P : Params) : Obj := { cls := .type "code", data := .fields #[.str "told" 235, .str "Coverage.told" 236, .str "/claim/cut.py" 237, .int 26 0, .int 1 0, .int 0 0, .int 0 0, .int 3 0, .ref 50, .bool true, .int 181 0, .ref 51, .none, .ref 52, .ref 53, .ref 54, .int 239 0, .int 26 0, .str "/claim/cut.py" 240] }
noncomputable def o56 (P : Params) : Obj := { cls := .type "function", data := .func { name := "told", qualname := "Coverage.told", params := fP4, body := .stmts bd4, scope := fS4, globals := 3, closure := [], defaults := .none, kwdefaults := .none, pyModule := .str "joinedhand.coverage" 194, code := .ref 55 } }
noncomputable def o57 (P : Params) : Obj := { cls := .type "tuple", data := .seq #[.str "glyphs" 242] }
noncomputable def o58 (P : Params) : Obj := { cls := .type "dict", data := .dict #[dE P "__module__" 203 (.str "joinedhand.coverage" 194), dE P "__firstlineno__" 207 (.int 5 206), dE P "__init__" 215 (.ref 35), dE P "index" 226 (.ref 42), dE P "has" 234 (.ref 49), dE P "told" 241 (.ref 56), dE P "__static_attributes__" 243 (.ref 57), dE P "__dict__" 245 (.ref 60), dE P "__weakref__" 247 (.ref 61), dE P "__doc__" 248 (.none)] 4 }
noncomputable def o59 (P : Params) : Obj := { cls := .type "type", data := .cls { name := "Coverage", bases := [.type "object"], mro := [.ref 59, .type "object"], ns := 58, qualname := "Coverage" }, slots := #[none, none, some (.str "Coverage" 196), some (.str "Coverage" 204), some (.builtin "object.__new__"), some (.bool true)] }
noncomputable def o60 (P : Params) : Obj := { cls := .type "getset_descriptor", data := .fields #[.str "__dict__" 244, .ref 59, .builtin "function.__dict__", .builtin "function.__dict__#set"] }
noncomputable def o61 (P : Params) : Obj := { cls := .type "getset_descriptor", data := .fields #[.str "__weakref__" 246, .ref 59, .builtin "ExceptionGroup.__weakref__", .none] }
noncomputable def o62 (P : Params) : Obj := { cls := .type "super", data := .fields #[.ref 59, .ref 59, .ref 59] }
noncomputable def o63 (P : Params) : Obj := { cls := .type "builtin_function_or_method", data := .fields #[.builtin "object.__init_subclass__", .ref 59] }
noncomputable def tr_p4 (P : Params) : BT := .node (PySem.W.boot_o_0 P) (.node (PySem.W.boot_o_1 P) (.node (o3_p4 P) (.node (PySem.W.boot_o_7 P) (.node (o15 P) (.node (o31 P) (.node (o63 P) .nil .nil) .nil) (.node (o47 P) .nil .nil)) (.node (o23 P) (.node (o39 P) .nil .nil) (.node (o55 P) .nil .nil))) (.node (o11 P) (.node (o19 P) (.node (o35 P) .nil .nil) (.node (o51 P) .nil .nil)) (.node (o27 P) (.node (o43 P) .nil .nil) (.node (o59 P) .nil .nil)))) (.node (PySem.W.boot_o_5 P) (.node (PySem.W.boot_o_9 P) (.node (o17 P) (.node (o33 P) .nil .nil) (.node (o49 P) .nil .nil)) (.node (o25 P) (.node (o41 P) .nil .nil) (.node (o57 P) .nil .nil))) (.node (o13 P) (.node (o21 P) (.node (o37 P) .nil .nil) (.node (o53 P) .nil .nil)) (.node (o29 P) (.node (o45 P) .nil .nil) (.node (o61 P) .nil .nil))))) (.node (PySem.W.boot_o_2 P) (.node (PySem.W.boot_o_4 P) (.node (PySem.W.boot_o_8 P) (.node (o16 P) (.node (o32 P) .nil .nil) (.node (o48 P) .nil .nil)) (.node (o24 P) (.node (o40 P) .nil .nil) (.node (o56 P) .nil .nil))) (.node (o12_p4 P) (.node (o20 P) (.node (o36 P) .nil .nil) (.node (o52 P) .nil .nil)) (.node (o28 P) (.node (o44 P) .nil .nil) (.node (o60 P) .nil .nil)))) (.node (PySem.W.boot_o_6 P) (.node (PySem.W.boot_o_10 P) (.node (o18 P) (.node (o34 P) .nil .nil) (.node (o50 P) .nil .nil)) (.node (o26 P) (.node (o42 P) .nil .nil) (.node (o58 P) .nil .nil))) (.node (o14 P) (.node (o22 P) (.node (o38 P) .nil .nil) (.node (o54 P) .nil .nil)) (.node (o30 P) (.node (o46 P) .nil .nil) (.node (o62 P) .nil .nil)))))
noncomputable def o3_p5 (P : Params) : Obj := { cls := .type "dict", data := .dict #[dE P "__name__" 165 (.str "joinedhand.contexts" 251), dE P "__doc__" 166 (.none), dE P "__package__" 167 (.none), dE P "__loader__" 168 (ldr P), dE P "__spec__" 169 (.none), dE P "__annotations__" 170 (.ref 6), dE P "__builtins__" 171 (.ref 4), dE P "__file__" 173 (.str "/claim/cut.py" 172), dE P "__cached__" 174 (.none), dE P "_wall" 193 (.ref 21), dE P "Coverage" 250 (.ref 59), dE P "BY_CLASSES" 254 (.int 2 253), dE P "Rule" 303 (.ref 94)] 13 }
noncomputable def o12_p5 (P : Params) : Obj := { cls := .none, data := .fields #[.int 1 0, .int 0 0, .ref 20, .int 5 0, .int 0 0, .ref 27, .int 30 0, .int 0 0, .ref 69] }
noncomputable def o64 (P : Params) : Obj := { cls := .type "tuple", data := .seq #[] }
noncomputable def o65 (P : Params) : Obj := { cls := .type "builtin_function_or_method", data := .fields #[.builtin "type.__prepare__", .type "type"] }
noncomputable def o66 (P : Params) : Obj := { cls := .type "dict", data := .dict #[dE P "__module__" 262 (.str "joinedhand.contexts" 251), dE P "__qualname__" 264 (.str "Rule" 263), dE P "__firstlineno__" 266 (.int 30 265), dE P "__init__" 277 (.ref 77), dE P "told" 284 (.ref 84), dE P "reach" 291 (.ref 91), dE P "__static_attributes__" 296 (.ref 92)] 7 }
noncomputable def o67 (P : Params) : Obj := { cls := .type "tuple", data := .seq #[] }
noncomputable def o68 (P : Params) : Obj := { cls := .none, data := .fields #[.int 32 0, .int 4 0, .ref 76, .int 38 0, .int 4 0, .ref 83, .int 41 0, .int 4 0, .ref 90] }
noncomputable def o69 (P : Params) : Obj := { cls := .type "code", data := .fields #[.str "Rule" 257, .str "Rule" 258, .str "/claim/cut.py" 259, .int 30 0, .int 0 0, .int 0 0, .int 0 0, .int 0 0, .ref 67, .bool false, .int 181 0, .ref 68, .none, .none, .none, .none, .int 260 0, .int 30 0, .str "/claim/cut.py" 261] }
noncomputable def o70 (P : Params) : Obj := { cls := .type "frame", slots := #[some (.ref 69), some (.ref 3), some (.ref 66), none, some (.str "joinedhand.contexts" 251), none, some (.ref 0)] }
noncomputable def o71 (P : Params) : Obj := { cls := .type "tuple", data := .seq #[] }
noncomputable def o72 (P : Params) : Obj := { cls := .none, data := .fields #[] }
noncomputable def o73 (P : Params) : Obj := { cls := .type "tuple", data := .seq #[.str "self" 270, .str "back" 271, .str "inside" 272, .str "ahead" 273, .str "actions" 274] }
noncomputable def o74 (P : Params) : Obj := { cls := .type "tuple", data := .seq #[] }
noncomputable def o75 (P : Params) : Obj := { cls := .none, data := .func { name := "__init__", qualname := "Rule.__init__", params := fP5, body := .stmts bd5, scope := fS5, globals := 0, closure := [], defaults := .none, kwdefaults := .none } }
noncomputable def o76 (P : Params) : Obj := { cls := .type "code", data := .fields #[.str "__init__" 267, .str "Rule.__init__" 268, .str "/claim/cut.py" 269, .int 32 0, .int 5 0, .int 0 0, .int 0 0, .int 3 0, .ref 71, .bool true, .int 181 0, .ref 72, .none, .ref 73, .ref 74, .ref 75, .int 275 0, .int 32 0, .str "/claim/cut.py" 276] }
noncomputable def o77 (P : Params) : Obj := { cls := .type "function", data := .func { name := "__init__", qualname := "Rule.__init__", params := fP5, body := .stmts bd5, scope := fS5, globals := 3, closure := [], defaults := .none, kwdefaults := .none, pyModule := .str "joinedhand.contexts" 251, code := .ref 76 } }
noncomputable def o78 (P : Params) : Obj := { cls := .type "tuple", data := .seq #[] }
noncomputable def o79 (P : Params) : Obj := { cls := .none, data := .fields #[] }
noncomputable def o80 (P : Params) : Obj := { cls := .type "tuple", data := .seq #[.str "self" 281] }
noncomputable def o81 (P : Params) : Obj := { cls := .type "tuple", data := .seq #[] }
noncomputable def o82 (P : Params) : Obj := { cls := .none, data := .func { name := "told", qualname := "Rule.told", params := fP6, body := .stmts bd6, scope := fS6, globals := 0, closure := [], defaults := .none, kwdefaults := .none } }
noncomputable def o83 (P : Params) : Obj := { cls := .type "code", data := .fields #[.str "told" 278, .str "Rule.told" 279, .str "/claim/cut.py" 280, .int 38 0, .int 1 0, .int 0 0, .int 0 0, .int 3 0, .ref 78, .bool true, .int 181 0, .ref 79, .none, .ref 80, .ref 81, .ref 82, .int 282 0, .int 38 0, .str "/claim/cut.py" 283] }
noncomputable def o84 (P : Params) : Obj := { cls := .type "function", data := .func { name := "told", qualname := "Rule.told", params := fP6, body := .stmts bd6, scope := fS6, globals := 3, closure := [], defaults := .none, kwdefaults := .none, pyModule := .str "joinedhand.contexts" 251, code := .ref 83 } }
noncomputable def o85 (P : Params) : Obj := { cls := .type "tuple", data := .seq #[] }
noncomputable def o86 (P : Params) : Obj := { cls := .none, data := .fields #[] }
noncomputable def o87 (P : Params) : Obj := { cls := .type "tuple", data := .seq #[.str "self" 288] }
noncomputable def o88 (P : Params) : Obj := { cls := .type "tuple", data := .seq #[] }
noncomputable def o89 (P : Params) : Obj := { cls := .none, data := .func { name := "reach", qualname := "Rule.reach", params := fP7, body := .stmts bd7, scope := fS7, globals := 0, closure := [], defaults := .none, kwdefaults := .none } }
noncomputable def o90 (P : Params) : Obj := { cls := .type "code", data := .fields #[.str "reach" 285, .str "Rule.reach" 286, .str "/claim/cut.py" 287, .int 41 0, .int 1 0, .int 0 0, .int 0 0, .int 3 0, .ref 85, .bool true, .int 181 0, .ref 86, .none, .ref 87, .ref 88, .ref 89, .int 289 0, .int 41 0, .str "/claim/cut.py" 290] }
noncomputable def o91 (P : Params) : Obj := { cls := .type "function", data := .func { name := "reach", qualname := "Rule.reach", params := fP7, body := .stmts bd7, scope := fS7, globals := 3, closure := [], defaults := .none, kwdefaults := .none, pyModule := .str "joinedhand.contexts" 251, code := .ref 90 } }
noncomputable def o92 (P : Params) : Obj := { cls := .type "tuple", data := .seq #[.str "actions" 292, .str "ahead" 293, .str "back" 294, .str "inside" 295] }
noncomputable def o93 (P : Params) : Obj := { cls := .type "dict", data := .dict #[dE P "__module__" 262 (.str "joinedhand.contexts" 251), dE P "__firstlineno__" 266 (.int 30 265), dE P "__init__" 277 (.ref 77), dE P "told" 284 (.ref 84), dE P "reach" 291 (.ref 91), dE P "__static_attributes__" 296 (.ref 92), dE P "__dict__" 298 (.ref 95), dE P "__weakref__" 300 (.ref 96), dE P "__doc__" 301 (.none)] 4 }
noncomputable def o94 (P : Params) : Obj := { cls := .type "type", data := .cls { name := "Rule", bases := [.type "object"], mro := [.ref 94, .type "object"], ns := 93, qualname := "Rule" }, slots := #[none, none, some (.str "Rule" 255), some (.str "Rule" 263), some (.builtin "object.__new__"), some (.bool true)] }
noncomputable def o95 (P : Params) : Obj := { cls := .type "getset_descriptor", data := .fields #[.str "__dict__" 297, .ref 94, .builtin "function.__dict__", .builtin "function.__dict__#set"] }
noncomputable def o96 (P : Params) : Obj := { cls := .type "getset_descriptor", data := .fields #[.str "__weakref__" 299, .ref 94, .builtin "ExceptionGroup.__weakref__", .none] }
noncomputable def o97 (P : Params) : Obj := { cls := .type "super", data := .fields #[.ref 94, .ref 94, .ref 94] }
noncomputable def o98 (P : Params) : Obj := { cls := .type "builtin_function_or_method", data := .fields #[.builtin "object.__init_subclass__", .ref 94] }
noncomputable def tr_p5 (P : Params) : BT := .node (PySem.W.boot_o_0 P) (.node (PySem.W.boot_o_1 P) (.node (o3_p5 P) (.node (PySem.W.boot_o_7 P) (.node (o15 P) (.node (o31 P) (.node (o63 P) .nil .nil) (.node (o95 P) .nil .nil)) (.node (o47 P) (.node (o79 P) .nil .nil) .nil)) (.node (o23 P) (.node (o39 P) (.node (o71 P) .nil .nil) .nil) (.node (o55 P) (.node (o87 P) .nil .nil) .nil))) (.node (o11 P) (.node (o19 P) (.node (o35 P) (.node (o67 P) .nil .nil) .nil) (.node (o51 P) (.node (o83 P) .nil .nil) .nil)) (.node (o27 P) (.node (o43 P) (.node (o75 P) .nil .nil) .nil) (.node (o59 P) (.node (o91 P) .nil .nil) .nil)))) (.node (PySem.W.boot_o_5 P) (.node (PySem.W.boot_o_9 P) (.node (o17 P) (.node (o33 P) (.node (o65 P) .nil .nil) (.node (o97 P) .nil .nil)) (.node (o49 P) (.node (o81 P) .nil .nil) .nil)) (.node (o25 P) (.node (o41 P) (.node (o73 P) .nil .nil) .nil) (.node (o57 P) (.node (o89 P) .nil .nil) .nil))) (.node (o13 P) (.node (o21 P) (.node (o37 P) (.node (o69 P) .nil .nil) .nil) (.node (o53 P) (.node (o85 P) .nil .nil) .nil)) (.node (o29 P) (.node (o45 P) (.node (o77 P) .nil .nil) .nil) (.node (o61 P) (.node (o93 P) .nil .nil) .nil))))) (.node (PySem.W.boot_o_2 P) (.node (PySem.W.boot_o_4 P) (.node (PySem.W.boot_o_8 P) (.node (o16 P) (.node (o32 P) (.node (o64 P) .nil .nil) (.node (o96 P) .nil .nil)) (.node (o48 P) (.node (o80 P) .nil .nil) .nil)) (.node (o24 P) (.node (o40 P) (.node (o72 P) .nil .nil) .nil) (.node (o56 P) (.node (o88 P) .nil .nil) .nil))) (.node (o12_p5 P) (.node (o20 P) (.node (o36 P) (.node (o68 P) .nil .nil) .nil) (.node (o52 P) (.node (o84 P) .nil .nil) .nil)) (.node (o28 P) (.node (o44 P) (.node (o76 P) .nil .nil) .nil) (.node (o60 P) (.node (o92 P) .nil .nil) .nil)))) (.node (PySem.W.boot_o_6 P) (.node (PySem.W.boot_o_10 P) (.node (o18 P) (.node (o34 P) (.node (o66 P) .nil .nil) (.node (o98 P) .nil .nil)) (.node (o50 P) (.node (o82 P) .nil .nil) .nil)) (.node (o26 P) (.node (o42 P) (.node (o74 P) .nil .nil) .nil) (.node (o58 P) (.node (o90 P) .nil .nil) .nil))) (.node (o14 P) (.node (o22 P) (.node (o38 P) (.node (o70 P) .nil .nil) .nil) (.node (o54 P) (.node (o86 P) .nil .nil) .nil)) (.node (o30 P) (.node (o46 P) (.node (o78 P) .nil .nil) .nil) (.node (o62 P) (.node (o94 P) .nil .nil) .nil)))))
noncomputable def o3_p8 (P : Params) : Obj := { cls := .type "dict", data := .dict #[dE P "__name__" 165 (.str "joinedhand.contexts" 251), dE P "__doc__" 166 (.none), dE P "__package__" 167 (.none), dE P "__loader__" 168 (ldr P), dE P "__spec__" 169 (.none), dE P "__annotations__" 170 (.ref 6), dE P "__builtins__" 171 (.ref 4), dE P "__file__" 173 (.str "/claim/cut.py" 172), dE P "__cached__" 174 (.none), dE P "_wall" 193 (.ref 21), dE P "Coverage" 250 (.ref 59), dE P "BY_CLASSES" 254 (.int 2 253), dE P "Rule" 303 (.ref 94), dE P "Contexts" 363 (.ref 135), dE P "told_row" 369 (.ref 144), dE P "lookups_of" 380 (.ref 151)] 16 }
noncomputable def o12_p8 (P : Params) : Obj := { cls := .none, data := .fields #[.int 1 0, .int 0 0, .ref 20, .int 5 0, .int 0 0, .ref 27, .int 30 0, .int 0 0, .ref 69, .int 43 0, .int 0 0, .ref 104, .int 67 0, .int 0 0, .ref 143, .int 69 0, .int 0 0, .ref 150] }
noncomputable def o99 (P : Params) : Obj := { cls := .type "tuple", data := .seq #[] }
noncomputable def o100 (P : Params) : Obj := { cls := .type "builtin_function_or_method", data := .fields #[.builtin "type.__prepare__", .type "type"] }
noncomputable def o101 (P : Params) : Obj := { cls := .type "dict", data := .dict #[dE P "__module__" 311 (.str "joinedhand.contexts" 251), dE P "__qualname__" 313 (.str "Contexts" 312), dE P "__firstlineno__" 315 (.int 43 314), dE P "__init__" 327 (.ref 113), dE P "told" 333 (.ref 118), dE P "used_classes" 340 (.ref 125), dE P "rules" 350 (.ref 132), dE P "__static_attributes__" 356 (.ref 133)] 8 }
noncomputable def o102 (P : Params) : Obj := { cls := .type "tuple", data := .seq #[] }
noncomputable def o103 (P : Params) : Obj := { cls := .none, data := .fields #[.int 45 0, .int 4 0, .ref 112, .int 52 0, .int 4 0, .ref 117, .int 58 0, .int 4 0, .ref 124, .int 61 0, .int 4 0, .ref 131] }
noncomputable def o104 (P : Params) : Obj := { cls := .type "code", data := .fields #[.str "Contexts" 306, .str "Contexts" 307, .str "/claim/cut.py" 308, .int 43 0, .int 0 0, .int 0 0, .int 0 0, .int 0 0, .ref 102, .bool false, .int 181 0, .ref 103, .none, .none, .none, .none, .int 309 0, .int 43 0, .str "/claim/cut.py" 310] }
noncomputable def o105 (P : Params) : Obj := { cls := .type "frame", slots := #[some (.ref 104), some (.ref 3), some (.ref 101), none, some (.str "joinedhand.contexts" 251), none, some (.ref 0)] }
noncomputable def o106 (P : Params) : Obj := { cls := .type "tuple", data := .seq #[.none, .none] }
noncomputable def o107 (P : Params) : Obj := { cls := .type "tuple", data := .seq #[] }
noncomputable def o108 (P : Params) : Obj := { cls := .none, data := .fields #[] }
noncomputable def o109 (P : Params) : Obj := { cls := .type "tuple", data := .seq #[.str "self" 319, .str "form" 320, .str "is_chained" 321, .str "sets" 322, .str "coverage" 323, .str "classes" 324] }
noncomputable def o110 (P : Params) : Obj := { cls := .type "tuple", data := .seq #[] }
noncomputable def o111 (P : Params) : Obj := { cls := .none, data := .func { name := "__init__", qualname := "Contexts.__init__", params := fP8, body := .stmts bd8, scope := fS8, globals := 0, closure := [], defaults := .none, kwdefaults := .none } }
noncomputable def o112 (P : Params) : Obj := { cls := .type "code", data := .fields #[.str "__init__" 316, .str "Contexts.__init__" 317, .str "/claim/cut.py" 318, .int 45 0, .int 6 0, .int 0 0, .int 0 0, .int 3 0, .ref 107, .bool true, .int 181 0, .ref 108, .none, .ref 109, .ref 110, .ref 111, .int 325 0, .int 45 0, .str "/claim/cut.py" 326] }
noncomputable def o113 (P : Params) : Obj := { cls := .type "function", data := .func { name := "__init__", qualname := "Contexts.__init__", params := fP8, body := .stmts bd8, scope := fS8, globals := 3, closure := [], defaults := .ref 106, kwdefaults := .none, pyModule := .str "joinedhand.contexts" 251, code := .ref 112 } }
noncomputable def o114 (P : Params) : Obj := { cls := .type "tuple", data := .seq #[] }
noncomputable def o115 (P : Params) : Obj := { cls := .none, data := .fields #[] }
noncomputable def o116 (P : Params) : Obj := { cls := .none, data := .func { name := "told", qualname := "Contexts.told", params := fP9, body := .stmts bd9, scope := fS9, globals := 0, closure := [], defaults := .none, kwdefaults := .none } }
noncomputable def o117 (P : Params) : Obj := { cls := .type "code", data := .fields #[.str "told" 328, .str "Contexts.told" 329, .str "/claim/cut.py" 330, .int 52 0, .int 1 0, .int 0 0, .int 0 0, .int 3 0, .ref 114, .bool true, .int 181 0, .ref 115, .none, .none, .none, .ref 116, .int 331 0, .int 52 0, .str "/claim/cut.py" 332] }
noncomputable def o118 (P : Params) : Obj := { cls := .type "function", data := .func { name := "told", qualname := "Contexts.told", params := fP9, body := .stmts bd9, scope := fS9, globals := 3, closure := [], defaults := .none, kwdefaults := .none, pyModule := .str "joinedhand.contexts" 251, code := .ref 117 } }
noncomputable def o119 (P : Params) : Obj := { cls := .type "tuple", data := .seq #[] }
noncomputable def o120 (P : Params) : Obj := { cls := .none, data := .fields #[] }
noncomputable def o121 (P : Params) : Obj := { cls := .type "tuple", data := .seq #[.str "self" 337] }
noncomputable def o122 (P : Params) : Obj := { cls := .type "tuple", data := .seq #[] }
noncomputable def o123 (P : Params) : Obj := { cls := .none, data := .func { name := "used_classes", qualname := "Contexts.used_classes", params := fP10, body := .stmts bd10, scope := fS10, globals := 0, closure := [], defaults := .none, kwdefaults := .none } }
noncomputable def o124 (P : Params) : Obj := { cls := .type "code", data := .fields #[.str "used_classes" 334, .str "Contexts.used_classes" 335, .str "/claim/cut.py" 336, .int 58 0, .int 1 0, .int 0 0, .int 0 0, .int 3 0, .ref 119, .bool true, .int 181 0, .ref 120, .none, .ref 121, .ref 122, .ref 123, .int 338 0, .int 58 0, .str "/claim/cut.py" 339] }
noncomputable def o125 (P : Params) : Obj := { cls := .type "function", data := .func { name := "used_classes", qualname := "Contexts.used_classes", params := fP10, body := .stmts bd10, scope := fS10, globals := 3, closure := [], defaults := .none, kwdefaults := .none, pyModule := .str "joinedhand.contexts" 251, code := .ref 124 } }
noncomputable def o126 (P : Params) : Obj := { cls := .type "tuple", data := .seq #[] }
noncomputable def o127 (P : Params) : Obj := { cls := .none, data := .fields #[] }
noncomputable def o128 (P : Params) : Obj := { cls := .type "tuple", data := .seq #[.str "self" 344, .str "found" 345, .str "key" 346, .str "rule" 347] }
noncomputable def o129 (P : Params) : Obj := { cls := .type "tuple", data := .seq #[] }
noncomputable def o130 (P : Params) : Obj := { cls := .none, data := .func { name := "rules", qualname := "Contexts.rules", params := fP11, body := .stmts bd11, scope := fS11, globals := 0, closure := [], defaults := .none, kwdefaults := .none } }
noncomputable def o131 (P : Params) : Obj := { cls := .type "code", data := .fields #[.str "rules" 341, .str "Contexts.rules" 342, .str "/claim/cut.py" 343, .int 61 0, .int 1 0, .int 0 0, .int 0 0, .int 3 0, .ref 126, .bool true, .int 181 0, .ref 127, .none, .ref 128, .ref 129, .ref 130, .int 348 0, .int 61 0, .str "/claim/cut.py" 349] }
noncomputable def o132 (P : Params) : Obj := { cls := .type "function", data := .func { name := "rules", qualname := "Contexts.rules", params := fP11, body := .stmts bd11, scope := fS11, globals := 3, closure := [], defaults := .none, kwdefaults := .none, pyModule := .str "joinedhand.contexts" 251, code := .ref 131 } }
noncomputable def o133 (P : Params) : Obj := { cls := .type "tuple", data := .seq #[.str "classes" 351, .str "coverage" 352, .str "form" 353, .str "is_chained" 354, .str "sets" 355] }
noncomputable def o134 (P : Params) : Obj := { cls := .type "dict", data := .dict #[dE P "__module__" 311 (.str "joinedhand.contexts" 251), dE P "__firstlineno__" 315 (.int 43 314), dE P "__init__" 327 (.ref 113), dE P "told" 333 (.ref 118), dE P "used_classes" 340 (.ref 125), dE P "rules" 350 (.ref 132), dE P "__static_attributes__" 356 (.ref 133), dE P "__dict__" 358 (.ref 136), dE P "__weakref__" 360 (.ref 137), dE P "__doc__" 361 (.none)] 4 }
noncomputable def o135 (P : Params) : Obj := { cls := .type "type", data := .cls { name := "Contexts", bases := [.type "object"], mro := [.ref 135, .type "object"], ns := 134, qualname := "Contexts" }, slots := #[none, none, some (.str "Contexts" 304), some (.str "Contexts" 312), some (.builtin "object.__new__"), some (.bool true)] }
noncomputable def o136 (P : Params) : Obj := { cls := .type "getset_descriptor", data := .fields #[.str "__dict__" 357, .ref 135, .builtin "function.__dict__", .builtin "function.__dict__#set"] }
noncomputable def o137 (P : Params) : Obj := { cls := .type "getset_descriptor", data := .fields #[.str "__weakref__" 359, .ref 135, .builtin "ExceptionGroup.__weakref__", .none] }
noncomputable def o138 (P : Params) : Obj := { cls := .type "super", data := .fields #[.ref 135, .ref 135, .ref 135] }
noncomputable def o139 (P : Params) : Obj := { cls := .type "builtin_function_or_method", data := .fields #[.builtin "object.__init_subclass__", .ref 135] }
noncomputable def o140 (P : Params) : Obj := { cls := .type "tuple", data := .seq #[] }
noncomputable def o141 (P : Params) : Obj := { cls := .none, data := .fields #[] }
noncomputable def o142 (P : Params) : Obj := { cls := .none, data := .func { name := "told_row", qualname := "told_row", params := fP12, body := .stmts bd12, scope := fS12, globals := 0, closure := [], defaults := .none, kwdefaults := .none } }
noncomputable def o143 (P : Params) : Obj := { cls := .type "code", data := .fields #[.str "told_row" 364, .str "told_row" 365, .str "/claim/cut.py" 366, .int 67 0, .int 1 0, .int 0 0, .int 0 0, .int 3 0, .ref 140, .bool true, .int 181 0, .ref 141, .none, .none, .none, .ref 142, .int 367 0, .int 67 0, .str "/claim/cut.py" 368] }
noncomputable def o144 (P : Params) : Obj := { cls := .type "function", data := .func { name := "told_row", qualname := "told_row", params := fP12, body := .stmts bd12, scope := fS12, globals := 3, closure := [], defaults := .none, kwdefaults := .none, pyModule := .str "joinedhand.contexts" 251, code := .ref 143 } }
noncomputable def o145 (P : Params) : Obj := { cls := .type "tuple", data := .seq #[] }
noncomputable def o146 (P : Params) : Obj := { cls := .none, data := .fields #[] }
noncomputable def o147 (P : Params) : Obj := { cls := .type "tuple", data := .seq #[.str "table" 373, .str "found" 374, .str "rule" 375, .str "index" 376, .str "lookup" 377] }
noncomputable def o148 (P : Params) : Obj := { cls := .type "tuple", data := .seq #[] }
noncomputable def o149 (P : Params) : Obj := { cls := .none, data := .func { name := "lookups_of", qualname := "lookups_of", params := fP13, body := .stmts bd13, scope := fS13, globals := 0, closure := [], defaults := .none, kwdefaults := .none } }
noncomputable def o150 (P : Params) : Obj := { cls := .type "code", data := .fields #[.str "lookups_of" 370, .str "lookups_of" 371, .str "/claim/cut.py" 372, .int 69 0, .int 1 0, .int 0 0, .int 0 0, .int 3 0, .ref 145, .bool true, .int 181 0, .ref 146, .none, .ref 147, .ref 148, .ref 149, .int 378 0, .int 69 0, .str "/claim/cut.py" 379] }
noncomputable def o151 (P : Params) : Obj := { cls := .type "function", data := .func { name := "lookups_of", qualname := "lookups_of", params := fP13, body := .stmts bd13, scope := fS13, globals := 3, closure := [], defaults := .none, kwdefaults := .none, pyModule := .str "joinedhand.contexts" 251, code := .ref 150 } }
noncomputable def tr_p8 (P : Params) : BT := .node (PySem.W.boot_o_0 P) (.node (PySem.W.boot_o_1 P) (.node (o3_p8 P) (.node (PySem.W.boot_o_7 P) (.node (o15 P) (.node (o31 P) (.node (o63 P) (.node (o127 P) .nil .nil) .nil) (.node (o95 P) .nil .nil)) (.node (o47 P) (.node (o79 P) (.node (o143 P) .nil .nil) .nil) (.node (o111 P) .nil .nil))) (.node (o23 P) (.node (o39 P) (.node (o71 P) (.node (o135 P) .nil .nil) .nil) (.node (o103 P) .nil .nil)) (.node (o55 P) (.node (o87 P) (.node (o151 P) .nil .nil) .nil) (.node (o119 P) .nil .nil)))) (.node (o11 P) (.node (o19 P) (.node (o35 P) (.node (o67 P) (.node (o131 P) .nil .nil) .nil) (.node (o99 P) .nil .nil)) (.node (o51 P) (.node (o83 P) (.node (o147 P) .nil .nil) .nil) (.node (o115 P) .nil .nil))) (.node (o27 P) (.node (o43 P) (.node (o75 P) (.node (o139 P) .nil .nil) .nil) (.node (o107 P) .nil .nil)) (.node (o59 P) (.node (o91 P) .nil .nil) (.node (o123 P) .nil .nil))))) (.node (PySem.W.boot_o_5 P) (.node (PySem.W.boot_o_9 P) (.node (o17 P) (.node (o33 P) (.node (o65 P) (.node (o129 P) .nil .nil) .nil) (.node (o97 P) .nil .nil)) (.node (o49 P) (.node (o81 P) (.node (o145 P) .nil .nil) .nil) (.node (o113 P) .nil .nil))) (.node (o25 P) (.node (o41 P) (.node (o73 P) (.node (o137 P) .nil .nil) .nil) (.node (o105 P) .nil .nil)) (.node (o57 P) (.node (o89 P) .nil .nil) (.node (o121 P) .nil .nil)))) (.node (o13 P) (.node (o21 P) (.node (o37 P) (.node (o69 P) (.node (o133 P) .nil .nil) .nil) (.node (o101 P) .nil .nil)) (.node (o53 P) (.node (o85 P) (.node (o149 P) .nil .nil) .nil) (.node (o117 P) .nil .nil))) (.node (o29 P) (.node (o45 P) (.node (o77 P) (.node (o141 P) .nil .nil) .nil) (.node (o109 P) .nil .nil)) (.node (o61 P) (.node (o93 P) .nil .nil) (.node (o125 P) .nil .nil)))))) (.node (PySem.W.boot_o_2 P) (.node (PySem.W.boot_o_4 P) (.node (PySem.W.boot_o_8 P) (.node (o16 P) (.node (o32 P) (.node (o64 P) (.node (o128 P) .nil .nil) .nil) (.node (o96 P) .nil .nil)) (.node (o48 P) (.node (o80 P) (.node (o144 P) .nil .nil) .nil) (.node (o112 P) .nil .nil))) (.node (o24 P) (.node (o40 P) (.node (o72 P) (.node (o136 P) .nil .nil) .nil) (.node (o104 P) .nil .nil)) (.node (o56 P) (.node (o88 P) .nil .nil) (.node (o120 P) .nil .nil)))) (.node (o12_p8 P) (.node (o20 P) (.node (o36 P) (.node (o68 P) (.node (o132 P) .nil .nil) .nil) (.node (o100 P) .nil .nil)) (.node (o52 P) (.node (o84 P) (.node (o148 P) .nil .nil) .nil) (.node (o116 P) .nil .nil))) (.node (o28 P) (.node (o44 P) (.node (o76 P) (.node (o140 P) .nil .nil) .nil) (.node (o108 P) .nil .nil)) (.node (o60 P) (.node (o92 P) .nil .nil) (.node (o124 P) .nil .nil))))) (.node (PySem.W.boot_o_6 P) (.node (PySem.W.boot_o_10 P) (.node (o18 P) (.node (o34 P) (.node (o66 P) (.node (o130 P) .nil .nil) .nil) (.node (o98 P) .nil .nil)) (.node (o50 P) (.node (o82 P) (.node (o146 P) .nil .nil) .nil) (.node (o114 P) .nil .nil))) (.node (o26 P) (.node (o42 P) (.node (o74 P) (.node (o138 P) .nil .nil) .nil) (.node (o106 P) .nil .nil)) (.node (o58 P) (.node (o90 P) .nil .nil) (.node (o122 P) .nil .nil)))) (.node (o14 P) (.node (o22 P) (.node (o38 P) (.node (o70 P) (.node (o134 P) .nil .nil) .nil) (.node (o102 P) .nil .nil)) (.node (o54 P) (.node (o86 P) (.node (o150 P) .nil .nil) .nil) (.node (o118 P) .nil .nil))) (.node (o30 P) (.node (o46 P) (.node (o78 P) (.node (o142 P) .nil .nil) .nil) (.node (o110 P) .nil .nil)) (.node (o62 P) (.node (o94 P) .nil .nil) (.node (o126 P) .nil .nil))))))
noncomputable def o3_p11 (P : Params) : Obj := { cls := .type "dict", data := .dict #[dE P "__name__" 165 (.str "joinedhand.classdefs" 387), dE P "__doc__" 166 (.none), dE P "__package__" 167 (.none), dE P "__loader__" 168 (ldr P), dE P "__spec__" 169 (.none), dE P "__annotations__" 170 (.ref 6), dE P "__builtins__" 171 (.ref 4), dE P "__file__" 173 (.str "/claim/cut.py" 172), dE P "__cached__" 174 (.none), dE P "_wall" 193 (.ref 21), dE P "Coverage" 250 (.ref 59), dE P "BY_CLASSES" 254 (.int 2 253), dE P "Rule" 303 (.ref 94), dE P "Contexts" 363 (.ref 135), dE P "told_row" 369 (.ref 144), dE P "lookups_of" 380 (.ref 151), dE P "with_lookups" 386 (.ref 156), dE P "ClassDef" 448 (.ref 199)] 18 }
noncomputable def o12_p11 (P : Params) : Obj := { cls := .none, data := .fields #[.int 1 0, .int 0 0, .ref 20, .int 5 0, .int 0 0, .ref 27, .int 30 0, .int 0 0, .ref 69, .int 43 0, .int 0 0, .ref 104, .int 67 0, .int 0 0, .ref 143, .int 69 0, .int 0 0, .ref 150, .int 75 0, .int 0 0, .ref 155, .int 84 0, .int 0 0, .ref 162] }
noncomputable def o152 (P : Params) : Obj := { cls := .type "tuple", data := .seq #[] }
noncomputable def o153 (P : Params) : Obj := { cls := .none, data := .fields #[] }
noncomputable def o154 (P : Params) : Obj := { cls := .none, data := .func { name := "with_lookups", qualname := "with_lookups", params := fP14, body := .stmts bd14, scope := fS14, globals := 0, closure := [], defaults := .none, kwdefaults := .none } }
noncomputable def o155 (P : Params) : Obj := { cls := .type "code", data := .fields #[.str "with_lookups" 381, .str "with_lookups" 382, .str "/claim/cut.py" 383, .int 75 0, .int 2 0, .int 0 0, .int 0 0, .int 3 0, .ref 152, .bool true, .int 181 0, .ref 153, .none, .none, .none, .ref 154, .int 384 0, .int 75 0, .str "/claim/cut.py" 385] }
noncomputable def o156 (P : Params) : Obj := { cls := .type "function", data := .func { name := "with_lookups", qualname := "with_lookups", params := fP14, body := .stmts bd14, scope := fS14, globals := 3, closure := [], defaults := .none, kwdefaults := .none, pyModule := .str "joinedhand.contexts" 251, code := .ref 155 } }
noncomputable def o157 (P : Params) : Obj := { cls := .type "tuple", data := .seq #[] }
noncomputable def o158 (P : Params) : Obj := { cls := .type "builtin_function_or_method", data := .fields #[.builtin "type.__prepare__", .type "type"] }
noncomputable def o159 (P : Params) : Obj := { cls := .type "dict", data := .dict #[dE P "__module__" 396 (.str "joinedhand.classdefs" 387), dE P "__qualname__" 398 (.str "ClassDef" 397), dE P "__firstlineno__" 400 (.int 84 399), dE P "__init__" 408 (.ref 170), dE P "class_of" 416 (.ref 177), dE P "glyphs_of" 424 (.ref 184), dE P "count" 433 (.ref 191), dE P "told" 439 (.ref 196), dE P "__static_attributes__" 441 (.ref 197)] 9 }
noncomputable def o160 (P : Params) : Obj := { cls := .type "tuple", data := .seq #[] }
noncomputable def o161 (P : Params) : Obj := { cls := .none, data := .fields #[.int 86 0, .int 4 0, .ref 169, .int 89 0, .int 4 0, .ref 176, .int 92 0, .int 4 0, .ref 183, .int 95 0, .int 4 0, .ref 190, .int 101 0, .int 4 0, .ref 195] }
noncomputable def o162 (P : Params) : Obj := { cls := .type "code", data := .fields #[.str "ClassDef" 391, .str "ClassDef" 392, .str "/claim/cut.py" 393, .int 84 0, .int 0 0, .int 0 0, .int 0 0, .int 0 0, .ref 160, .bool false, .int 181 0, .ref 161, .none, .none, .none, .none, .int 394 0, .int 84 0, .str "/claim/cut.py" 395] }
noncomputable def o163 (P : Params) : Obj := { cls := .type "frame", slots := #[some (.ref 162), some (.ref 3), some (.ref 159), none, some (.str "joinedhand.classdefs" 387), none, some (.ref 0)] }
noncomputable def o164 (P : Params) : Obj := { cls := .type "tuple", data := .seq #[] }
noncomputable def o165 (P : Params) : Obj := { cls := .none, data := .fields #[] }
noncomputable def o166 (P : Params) : Obj := { cls := .type "tuple", data := .seq #[.str "self" 404, .str "classes" 405] }
noncomputable def o167 (P : Params) : Obj := { cls := .type "tuple", data := .seq #[] }
noncomputable def o168 (P : Params) : Obj := { cls := .none, data := .func { name := "__init__", qualname := "ClassDef.__init__", params := fP15, body := .stmts bd15, scope := fS15, globals := 0, closure := [], defaults := .none, kwdefaults := .none } }
noncomputable def o169 (P : Params) : Obj := { cls := .type "code", data := .fields #[.str "__init__" 401, .str "ClassDef.__init__" 402, .str "/claim/cut.py" 403, .int 86 0, .int 2 0, .int 0 0, .int 0 0, .int 3 0, .ref 164, .bool true, .int 181 0, .ref 165, .none, .ref 166, .ref 167, .ref 168, .int 406 0, .int 86 0, .str "/claim/cut.py" 407] }
noncomputable def o170 (P : Params) : Obj := { cls := .type "function", data := .func { name := "__init__", qualname := "ClassDef.__init__", params := fP15, body := .stmts bd15, scope := fS15, globals := 3, closure := [], defaults := .none, kwdefaults := .none, pyModule := .str "joinedhand.classdefs" 387, code := .ref 169 } }
noncomputable def o171 (P : Params) : Obj := { cls := .type "tuple", data := .seq #[] }
noncomputable def o172 (P : Params) : Obj := { cls := .none, data := .fields #[] }
noncomputable def o173 (P : Params) : Obj := { cls := .type "tuple", data := .seq #[.str "self" 412, .str "glyph" 413] }
noncomputable def o174 (P : Params) : Obj := { cls := .type "tuple", data := .seq #[] }
noncomputable def o175 (P : Params) : Obj := { cls := .none, data := .func { name := "class_of", qualname := "ClassDef.class_of", params := fP16, body := .stmts bd16, scope := fS3, globals := 0, closure := [], defaults := .none, kwdefaults := .none } }
noncomputable def o176 (P : Params) : Obj := { cls := .type "code", data := .fields #[.str "class_of" 409, .str "ClassDef.class_of" 410, .str "/claim/cut.py" 411, .int 89 0, .int 2 0, .int 0 0, .int 0 0, .int 3 0, .ref 171, .bool true, .int 181 0, .ref 172, .none, .ref 173, .ref 174, .ref 175, .int 414 0, .int 89 0, .str "/claim/cut.py" 415] }
noncomputable def o177 (P : Params) : Obj := { cls := .type "function", data := .func { name := "class_of", qualname := "ClassDef.class_of", params := fP16, body := .stmts bd16, scope := fS3, globals := 3, closure := [], defaults := .none, kwdefaults := .none, pyModule := .str "joinedhand.classdefs" 387, code := .ref 176 } }
noncomputable def o178 (P : Params) : Obj := { cls := .type "tuple", data := .seq #[] }
noncomputable def o179 (P : Params) : Obj := { cls := .none, data := .fields #[] }
noncomputable def o180 (P : Params) : Obj := { cls := .type "tuple", data := .seq #[.str "self" 420, .str "number" 421] }
noncomputable def o181 (P : Params) : Obj := { cls := .type "tuple", data := .seq #[] }
noncomputable def o182 (P : Params) : Obj := { cls := .none, data := .func { name := "glyphs_of", qualname := "ClassDef.glyphs_of", params := fP17, body := .stmts bd17, scope := fS17, globals := 0, closure := [], defaults := .none, kwdefaults := .none } }
noncomputable def o183 (P : Params) : Obj := { cls := .type "code", data := .fields #[.str "glyphs_of" 417, .str "ClassDef.glyphs_of" 418, .str "/claim/cut.py" 419, .int 92 0, .int 2 0, .int 0 0, .int 0 0, .int 3 0, .ref 178, .bool true, .int 181 0, .ref 179, .none, .ref 180, .ref 181, .ref 182, .int 422 0, .int 92 0, .str "/claim/cut.py" 423] }
noncomputable def o184 (P : Params) : Obj := { cls := .type "function", data := .func { name := "glyphs_of", qualname := "ClassDef.glyphs_of", params := fP17, body := .stmts bd17, scope := fS17, globals := 3, closure := [], defaults := .none, kwdefaults := .none, pyModule := .str "joinedhand.classdefs" 387, code := .ref 183 } }
noncomputable def o185 (P : Params) : Obj := { cls := .type "tuple", data := .seq #[] }
noncomputable def o186 (P : Params) : Obj := { cls := .none, data := .fields #[] }
noncomputable def o187 (P : Params) : Obj := { cls := .type "tuple", data := .seq #[.str "self" 428, .str "most" 429, .str "glyph" 430] }
noncomputable def o188 (P : Params) : Obj := { cls := .type "tuple", data := .seq #[] }
noncomputable def o189 (P : Params) : Obj := { cls := .none, data := .func { name := "count", qualname := "ClassDef.count", params := fP18, body := .stmts bd18, scope := fS18, globals := 0, closure := [], defaults := .none, kwdefaults := .none } }
noncomputable def o190 (P : Params) : Obj := { cls := .type "code", data := .fields #[.str "count" 425, .str "ClassDef.count" 426, .str "/claim/cut.py" 427, .int 95 0, .int 1 0, .int 0 0, .int 0 0, .int 3 0, .ref 185, .bool true, .int 181 0, .ref 186, .none, .ref 187, .ref 188, .ref 189, .int 431 0, .int 95 0, .str "/claim/cut.py" 432] }
noncomputable def o191 (P : Params) : Obj := { cls := .type "function", data := .func { name := "count", qualname := "ClassDef.count", params := fP18, body := .stmts bd18, scope := fS18, globals := 3, closure := [], defaults := .none, kwdefaults := .none, pyModule := .str "joinedhand.classdefs" 387, code := .ref 190 } }
noncomputable def o192 (P : Params) : Obj := { cls := .type "tuple", data := .seq #[] }
noncomputable def o193 (P : Params) : Obj := { cls := .none, data := .fields #[] }
noncomputable def o194 (P : Params) : Obj := { cls := .none, data := .func { name := "told", qualname := "ClassDef.told", params := fP19, body := .stmts bd19, scope := fS19, globals := 0, closure := [], defaults := .none, kwdefaults := .none } }
noncomputable def o195 (P : Params) : Obj := { cls := .type "code", data := .fields #[.str "told" 434, .str "ClassDef.told" 435, .str "/claim/cut.py" 436, .int 101 0, .int 1 0, .int 0 0, .int 0 0, .int 3 0, .ref 192, .bool true, .int 181 0, .ref 193, .none, .none, .none, .ref 194, .int 437 0, .int 101 0, .str "/claim/cut.py" 438] }
noncomputable def o196 (P : Params) : Obj := { cls := .type "function", data := .func { name := "told", qualname := "ClassDef.told", params := fP19, body := .stmts bd19, scope := fS19, globals := 3, closure := [], defaults := .none, kwdefaults := .none, pyModule := .str "joinedhand.classdefs" 387, code := .ref 195 } }
noncomputable def o197 (P : Params) : Obj := { cls := .type "tuple", data := .seq #[.str "classes" 440] }
noncomputable def o198 (P : Params) : Obj := { cls := .type "dict", data := .dict #[dE P "__module__" 396 (.str "joinedhand.classdefs" 387), dE P "__firstlineno__" 400 (.int 84 399), dE P "__init__" 408 (.ref 170), dE P "class_of" 416 (.ref 177), dE P "glyphs_of" 424 (.ref 184), dE P "count" 433 (.ref 191), dE P "told" 439 (.ref 196), dE P "__static_attributes__" 441 (.ref 197), dE P "__dict__" 443 (.ref 200), dE P "__weakref__" 445 (.ref 201), dE P "__doc__" 446 (.none)] 4 }
noncomputable def o199 (P : Params) : Obj := { cls := .type "type", data := .cls { name := "ClassDef", bases := [.type "object"], mro := [.ref 199, .type "object"], ns := 198, qualname := "ClassDef" }, slots := #[none, none, some (.str "ClassDef" 389), some (.str "ClassDef" 397), some (.builtin "object.__new__"), some (.bool true)] }
noncomputable def o200 (P : Params) : Obj := { cls := .type "getset_descriptor", data := .fields #[.str "__dict__" 442, .ref 199, .builtin "function.__dict__", .builtin "function.__dict__#set"] }
noncomputable def o201 (P : Params) : Obj := { cls := .type "getset_descriptor", data := .fields #[.str "__weakref__" 444, .ref 199, .builtin "ExceptionGroup.__weakref__", .none] }
noncomputable def o202 (P : Params) : Obj := { cls := .type "super", data := .fields #[.ref 199, .ref 199, .ref 199] }
noncomputable def o203 (P : Params) : Obj := { cls := .type "builtin_function_or_method", data := .fields #[.builtin "object.__init_subclass__", .ref 199] }
noncomputable def tr_p11 (P : Params) : BT := .node (PySem.W.boot_o_0 P) (.node (PySem.W.boot_o_1 P) (.node (o3_p11 P) (.node (PySem.W.boot_o_7 P) (.node (o15 P) (.node (o31 P) (.node (o63 P) (.node (o127 P) .nil .nil) (.node (o191 P) .nil .nil)) (.node (o95 P) (.node (o159 P) .nil .nil) .nil)) (.node (o47 P) (.node (o79 P) (.node (o143 P) .nil .nil) .nil) (.node (o111 P) (.node (o175 P) .nil .nil) .nil))) (.node (o23 P) (.node (o39 P) (.node (o71 P) (.node (o135 P) .nil .nil) (.node (o199 P) .nil .nil)) (.node (o103 P) (.node (o167 P) .nil .nil) .nil)) (.node (o55 P) (.node (o87 P) (.node (o151 P) .nil .nil) .nil) (.node (o119 P) (.node (o183 P) .nil .nil) .nil)))) (.node (o11 P) (.node (o19 P) (.node (o35 P) (.node (o67 P) (.node (o131 P) .nil .nil) (.node (o195 P) .nil .nil)) (.node (o99 P) (.node (o163 P) .nil .nil) .nil)) (.node (o51 P) (.node (o83 P) (.node (o147 P) .nil .nil) .nil) (.node (o115 P) (.node (o179 P) .nil .nil) .nil))) (.node (o27 P) (.node (o43 P) (.node (o75 P) (.node (o139 P) .nil .nil) (.node (o203 P) .nil .nil)) (.node (o107 P) (.node (o171 P) .nil .nil) .nil)) (.node (o59 P) (.node (o91 P) (.node (o155 P) .nil .nil) .nil) (.node (o123 P) (.node (o187 P) .nil .nil) .nil))))) (.node (PySem.W.boot_o_5 P) (.node (PySem.W.boot_o_9 P) (.node (o17 P) (.node (o33 P) (.node (o65 P) (.node (o129 P) .nil .nil) (.node (o193 P) .nil .nil)) (.node (o97 P) (.node (o161 P) .nil .nil) .nil)) (.node (o49 P) (.node (o81 P) (.node (o145 P) .nil .nil) .nil) (.node (o113 P) (.node (o177 P) .nil .nil) .nil))) (.node (o25 P) (.node (o41 P) (.node (o73 P) (.node (o137 P) .nil .nil) (.node (o201 P) .nil .nil)) (.node (o105 P) (.node (o169 P) .nil .nil) .nil)) (.node (o57 P) (.node (o89 P) (.node (o153 P) .nil .nil) .nil) (.node (o121 P) (.node (o185 P) .nil .nil) .nil)))) (.node (o13 P) (.node (o21 P) (.node (o37 P) (.node (o69 P) (.node (o133 P) .nil .nil) (.node (o197 P) .nil .nil)) (.node (o101 P) (.node (o165 P) .nil .nil) .nil)) (.node (o53 P) (.node (o85 P) (.node (o149 P) .nil .nil) .nil) (.node (o117 P) (.node (o181 P) .nil .nil) .nil))) (.node (o29 P) (.node (o45 P) (.node (o77 P) (.node (o141 P) .nil .nil) .nil) (.node (o109 P) (.node (o173 P) .nil .nil) .nil)) (.node (o61 P) (.node (o93 P) (.node (o157 P) .nil .nil) .nil) (.node (o125 P) (.node (o189 P) .nil .nil) .nil)))))) (.node (PySem.W.boot_o_2 P) (.node (PySem.W.boot_o_4 P) (.node (PySem.W.boot_o_8 P) (.node (o16 P) (.node (o32 P) (.node (o64 P) (.node (o128 P) .nil .nil) (.node (o192 P) .nil .nil)) (.node (o96 P) (.node (o160 P) .nil .nil) .nil)) (.node (o48 P) (.node (o80 P) (.node (o144 P) .nil .nil) .nil) (.node (o112 P) (.node (o176 P) .nil .nil) .nil))) (.node (o24 P) (.node (o40 P) (.node (o72 P) (.node (o136 P) .nil .nil) (.node (o200 P) .nil .nil)) (.node (o104 P) (.node (o168 P) .nil .nil) .nil)) (.node (o56 P) (.node (o88 P) (.node (o152 P) .nil .nil) .nil) (.node (o120 P) (.node (o184 P) .nil .nil) .nil)))) (.node (o12_p11 P) (.node (o20 P) (.node (o36 P) (.node (o68 P) (.node (o132 P) .nil .nil) (.node (o196 P) .nil .nil)) (.node (o100 P) (.node (o164 P) .nil .nil) .nil)) (.node (o52 P) (.node (o84 P) (.node (o148 P) .nil .nil) .nil) (.node (o116 P) (.node (o180 P) .nil .nil) .nil))) (.node (o28 P) (.node (o44 P) (.node (o76 P) (.node (o140 P) .nil .nil) .nil) (.node (o108 P) (.node (o172 P) .nil .nil) .nil)) (.node (o60 P) (.node (o92 P) (.node (o156 P) .nil .nil) .nil) (.node (o124 P) (.node (o188 P) .nil .nil) .nil))))) (.node (PySem.W.boot_o_6 P) (.node (PySem.W.boot_o_10 P) (.node (o18 P) (.node (o34 P) (.node (o66 P) (.node (o130 P) .nil .nil) (.node (o194 P) .nil .nil)) (.node (o98 P) (.node (o162 P) .nil .nil) .nil)) (.node (o50 P) (.node (o82 P) (.node (o146 P) .nil .nil) .nil) (.node (o114 P) (.node (o178 P) .nil .nil) .nil))) (.node (o26 P) (.node (o42 P) (.node (o74 P) (.node (o138 P) .nil .nil) (.node (o202 P) .nil .nil)) (.node (o106 P) (.node (o170 P) .nil .nil) .nil)) (.node (o58 P) (.node (o90 P) (.node (o154 P) .nil .nil) .nil) (.node (o122 P) (.node (o186 P) .nil .nil) .nil)))) (.node (o14 P) (.node (o22 P) (.node (o38 P) (.node (o70 P) (.node (o134 P) .nil .nil) (.node (o198 P) .nil .nil)) (.node (o102 P) (.node (o166 P) .nil .nil) .nil)) (.node (o54 P) (.node (o86 P) (.node (o150 P) .nil .nil) .nil) (.node (o118 P) (.node (o182 P) .nil .nil) .nil))) (.node (o30 P) (.node (o46 P) (.node (o78 P) (.node (o142 P) .nil .nil) .nil) (.node (o110 P) (.node (o174 P) .nil .nil) .nil)) (.node (o62 P) (.node (o94 P) (.node (o158 P) .nil .nil) .nil) (.node (o126 P) (.node (o190 P) .nil .nil) .nil))))))
noncomputable def o3_p21 (P : Params) : Obj := { cls := .type "dict", data := .dict #[dE P "__name__" 165 (.str "law_pb0167_01" 449), dE P "__doc__" 166 (.none), dE P "__package__" 167 (.none), dE P "__loader__" 168 (ldr P), dE P "__spec__" 169 (.none), dE P "__annotations__" 170 (.ref 6), dE P "__builtins__" 171 (.ref 4), dE P "__file__" 173 (.str "/claim/cut.py" 172), dE P "__cached__" 174 (.none), dE P "_wall" 193 (.ref 21), dE P "Coverage" 250 (.ref 59), dE P "BY_CLASSES" 254 (.int 2 253), dE P "Rule" 303 (.ref 94), dE P "Contexts" 363 (.ref 135), dE P "told_row" 369 (.ref 144), dE P "lookups_of" 380 (.ref 151), dE P "with_lookups" 386 (.ref 156), dE P "ClassDef" 448 (.ref 199), dE P "_law_pen" 456 (.ref 208), dE P "_law_draw" 469 (.ref 215), dE P "_law_glyphs" 475 (.ref 220), dE P "_law_classes" 481 (.ref 225), dE P "_law_part" 489 (.ref 232), dE P "_law_rule" 495 (.ref 237), dE P "_law_table" 509 (.ref 244), dE P "_law_dict" 515 (.ref 249), dE P "law" 521 (.ref 254)] 27 }
noncomputable def o12_p21 (P : Params) : Obj := { cls := .none, data := .fields #[.int 1 0, .int 0 0, .ref 20, .int 5 0, .int 0 0, .ref 27, .int 30 0, .int 0 0, .ref 69, .int 43 0, .int 0 0, .ref 104, .int 67 0, .int 0 0, .ref 143, .int 69 0, .int 0 0, .ref 150, .int 75 0, .int 0 0, .ref 155, .int 84 0, .int 0 0, .ref 162, .int 104 0, .int 0 0, .ref 207, .int 106 0, .int 0 0, .ref 214, .int 123 0, .int 0 0, .ref 219, .int 126 0, .int 0 0, .ref 224, .int 128 0, .int 0 0, .ref 231, .int 132 0, .int 0 0, .ref 236, .int 138 0, .int 0 0, .ref 243, .int 152 0, .int 0 0, .ref 248, .int 154 0, .int 0 0, .ref 253] }
noncomputable def o204 (P : Params) : Obj := { cls := .type "tuple", data := .seq #[] }
noncomputable def o205 (P : Params) : Obj := { cls := .none, data := .fields #[] }
noncomputable def o206 (P : Params) : Obj := { cls := .none, data := .func { name := "_law_pen", qualname := "_law_pen", params := fP20, body := .stmts bd20, scope := fS20, globals := 0, closure := [], defaults := .none, kwdefaults := .none } }
noncomputable def o207 (P : Params) : Obj := { cls := .type "code", data := .fields #[.str "_law_pen" 451, .str "_law_pen" 452, .str "/claim/cut.py" 453, .int 104 0, .int 1 0, .int 0 0, .int 0 0, .int 3 0, .ref 204, .bool true, .int 181 0, .ref 205, .none, .none, .none, .ref 206, .int 454 0, .int 104 0, .str "/claim/cut.py" 455] }
noncomputable def o208 (P : Params) : Obj := { cls := .type "function", data := .func { name := "_law_pen", qualname := "_law_pen", params := fP20, body := .stmts bd20, scope := fS20, globals := 3, closure := [], defaults := .none, kwdefaults := .none, pyModule := .str "law_pb0167_01" 449, code := .ref 207 } }
noncomputable def o209 (P : Params) : Obj := { cls := .type "tuple", data := .seq #[] }
noncomputable def o210 (P : Params) : Obj := { cls := .none, data := .fields #[] }
noncomputable def o211 (P : Params) : Obj := { cls := .type "tuple", data := .seq #[.str "pen" 460, .str "many" 461, .str "digit" 462, .str "spot" 463, .str "cell" 464, .str "great" 465, .str "churned" 466] }
noncomputable def o212 (P : Params) : Obj := { cls := .type "tuple", data := .seq #[] }
noncomputable def o213 (P : Params) : Obj := { cls := .none, data := .func { name := "_law_draw", qualname := "_law_draw", params := fP21, body := .stmts bd21, scope := fS21, globals := 0, closure := [], defaults := .none, kwdefaults := .none } }
noncomputable def o214 (P : Params) : Obj := { cls := .type "code", data := .fields #[.str "_law_draw" 457, .str "_law_draw" 458, .str "/claim/cut.py" 459, .int 106 0, .int 2 0, .int 0 0, .int 0 0, .int 3 0, .ref 209, .bool true, .int 181 0, .ref 210, .none, .ref 211, .ref 212, .ref 213, .int 467 0, .int 106 0, .str "/claim/cut.py" 468] }
noncomputable def o215 (P : Params) : Obj := { cls := .type "function", data := .func { name := "_law_draw", qualname := "_law_draw", params := fP21, body := .stmts bd21, scope := fS21, globals := 3, closure := [], defaults := .none, kwdefaults := .none, pyModule := .str "law_pb0167_01" 449, code := .ref 214 } }
noncomputable def o216 (P : Params) : Obj := { cls := .type "tuple", data := .seq #[] }
noncomputable def o217 (P : Params) : Obj := { cls := .none, data := .fields #[] }
noncomputable def o218 (P : Params) : Obj := { cls := .none, data := .func { name := "_law_glyphs", qualname := "_law_glyphs", params := fP22, body := .stmts bd22, scope := fS22, globals := 0, closure := [], defaults := .none, kwdefaults := .none } }
noncomputable def o219 (P : Params) : Obj := { cls := .type "code", data := .fields #[.str "_law_glyphs" 470, .str "_law_glyphs" 471, .str "/claim/cut.py" 472, .int 123 0, .int 2 0, .int 0 0, .int 0 0, .int 3 0, .ref 216, .bool true, .int 181 0, .ref 217, .none, .none, .none, .ref 218, .int 473 0, .int 123 0, .str "/claim/cut.py" 474] }
noncomputable def o220 (P : Params) : Obj := { cls := .type "function", data := .func { name := "_law_glyphs", qualname := "_law_glyphs", params := fP22, body := .stmts bd22, scope := fS22, globals := 3, closure := [], defaults := .none, kwdefaults := .none, pyModule := .str "law_pb0167_01" 449, code := .ref 219 } }
noncomputable def o221 (P : Params) : Obj := { cls := .type "tuple", data := .seq #[] }
noncomputable def o222 (P : Params) : Obj := { cls := .none, data := .fields #[] }
noncomputable def o223 (P : Params) : Obj := { cls := .none, data := .func { name := "_law_classes", qualname := "_law_classes", params := fP23, body := .stmts bd23, scope := fS23, globals := 0, closure := [], defaults := .none, kwdefaults := .none } }
noncomputable def o224 (P : Params) : Obj := { cls := .type "code", data := .fields #[.str "_law_classes" 476, .str "_law_classes" 477, .str "/claim/cut.py" 478, .int 126 0, .int 1 0, .int 0 0, .int 0 0, .int 3 0, .ref 221, .bool true, .int 181 0, .ref 222, .none, .none, .none, .ref 223, .int 479 0, .int 126 0, .str "/claim/cut.py" 480] }
noncomputable def o225 (P : Params) : Obj := { cls := .type "function", data := .func { name := "_law_classes", qualname := "_law_classes", params := fP23, body := .stmts bd23, scope := fS23, globals := 3, closure := [], defaults := .none, kwdefaults := .none, pyModule := .str "law_pb0167_01" 449, code := .ref 224 } }
noncomputable def o226 (P : Params) : Obj := { cls := .type "tuple", data := .seq #[] }
noncomputable def o227 (P : Params) : Obj := { cls := .none, data := .fields #[] }
noncomputable def o228 (P : Params) : Obj := { cls := .type "tuple", data := .seq #[.str "pen" 485, .str "form" 486] }
noncomputable def o229 (P : Params) : Obj := { cls := .type "tuple", data := .seq #[] }
noncomputable def o230 (P : Params) : Obj := { cls := .none, data := .func { name := "_law_part", qualname := "_law_part", params := fP24, body := .stmts bd24, scope := fS24, globals := 0, closure := [], defaults := .none, kwdefaults := .none } }
noncomputable def o231 (P : Params) : Obj := { cls := .type "code", data := .fields #[.str "_law_part" 482, .str "_law_part" 483, .str "/claim/cut.py" 484, .int 128 0, .int 2 0, .int 0 0, .int 0 0, .int 3 0, .ref 226, .bool true, .int 181 0, .ref 227, .none, .ref 228, .ref 229, .ref 230, .int 487 0, .int 128 0, .str "/claim/cut.py" 488] }
noncomputable def o232 (P : Params) : Obj := { cls := .type "function", data := .func { name := "_law_part", qualname := "_law_part", params := fP24, body := .stmts bd24, scope := fS24, globals := 3, closure := [], defaults := .none, kwdefaults := .none, pyModule := .str "law_pb0167_01" 449, code := .ref 231 } }
noncomputable def o233 (P : Params) : Obj := { cls := .type "tuple", data := .seq #[] }
noncomputable def o234 (P : Params) : Obj := { cls := .none, data := .fields #[] }
noncomputable def o235 (P : Params) : Obj := { cls := .none, data := .func { name := "_law_rule", qualname := "_law_rule", params := fP25, body := .stmts bd25, scope := fS25, globals := 0, closure := [], defaults := .none, kwdefaults := .none } }
noncomputable def o236 (P : Params) : Obj := { cls := .type "code", data := .fields #[.str "_law_rule" 490, .str "_law_rule" 491, .str "/claim/cut.py" 492, .int 132 0, .int 5 0, .int 0 0, .int 0 0, .int 3 0, .ref 233, .bool true, .int 181 0, .ref 234, .none, .none, .none, .ref 235, .int 493 0, .int 132 0, .str "/claim/cut.py" 494] }
noncomputable def o237 (P : Params) : Obj := { cls := .type "function", data := .func { name := "_law_rule", qualname := "_law_rule", params := fP25, body := .stmts bd25, scope := fS25, globals := 3, closure := [], defaults := .none, kwdefaults := .none, pyModule := .str "law_pb0167_01" 449, code := .ref 236 } }
noncomputable def o238 (P : Params) : Obj := { cls := .type "tuple", data := .seq #[] }
noncomputable def o239 (P : Params) : Obj := { cls := .none, data := .fields #[] }
noncomputable def o240 (P : Params) : Obj := { cls := .type "tuple", data := .seq #[.str "pen" 499, .str "form" 500, .str "is_chained" 501, .str "rule" 502, .str "sets" 503, .str "number" 504, .str "first" 505, .str "classes" 506] }
noncomputable def o241 (P : Params) : Obj := { cls := .type "tuple", data := .seq #[] }
noncomputable def o242 (P : Params) : Obj := { cls := .none, data := .func { name := "_law_table", qualname := "_law_table", params := fP26, body := .stmts bd26, scope := fS26, globals := 0, closure := [], defaults := .none, kwdefaults := .none } }
noncomputable def o243 (P : Params) : Obj := { cls := .type "code", data := .fields #[.str "_law_table" 496, .str "_law_table" 497, .str "/claim/cut.py" 498, .int 138 0, .int 1 0, .int 0 0, .int 0 0, .int 3 0, .ref 238, .bool true, .int 181 0, .ref 239, .none, .ref 240, .ref 241, .ref 242, .int 507 0, .int 138 0, .str "/claim/cut.py" 508] }
noncomputable def o244 (P : Params) : Obj := { cls := .type "function", data := .func { name := "_law_table", qualname := "_law_table", params := fP26, body := .stmts bd26, scope := fS26, globals := 3, closure := [], defaults := .none, kwdefaults := .none, pyModule := .str "law_pb0167_01" 449, code := .ref 243 } }
noncomputable def o245 (P : Params) : Obj := { cls := .type "tuple", data := .seq #[] }
noncomputable def o246 (P : Params) : Obj := { cls := .none, data := .fields #[] }
noncomputable def o247 (P : Params) : Obj := { cls := .none, data := .func { name := "_law_dict", qualname := "_law_dict", params := fP27, body := .stmts bd27, scope := fS27, globals := 0, closure := [], defaults := .none, kwdefaults := .none } }
noncomputable def o248 (P : Params) : Obj := { cls := .type "code", data := .fields #[.str "_law_dict" 510, .str "_law_dict" 511, .str "/claim/cut.py" 512, .int 152 0, .int 1 0, .int 0 0, .int 0 0, .int 3 0, .ref 245, .bool true, .int 181 0, .ref 246, .none, .none, .none, .ref 247, .int 513 0, .int 152 0, .str "/claim/cut.py" 514] }
noncomputable def o249 (P : Params) : Obj := { cls := .type "function", data := .func { name := "_law_dict", qualname := "_law_dict", params := fP27, body := .stmts bd27, scope := fS27, globals := 3, closure := [], defaults := .none, kwdefaults := .none, pyModule := .str "law_pb0167_01" 449, code := .ref 248 } }
noncomputable def o250 (P : Params) : Obj := { cls := .type "tuple", data := .seq #[] }
noncomputable def o251 (P : Params) : Obj := { cls := .none, data := .fields #[] }
noncomputable def o252 (P : Params) : Obj := { cls := .none, data := .func { name := "law", qualname := "law", params := fP28, body := .stmts bd28, scope := fS28, globals := 0, closure := [], defaults := .none, kwdefaults := .none } }
noncomputable def o253 (P : Params) : Obj := { cls := .type "code", data := .fields #[.str "law" 516, .str "law" 517, .str "/claim/cut.py" 518, .int 154 0, .int 1 0, .int 0 0, .int 0 0, .int 3 0, .ref 250, .bool true, .int 181 0, .ref 251, .none, .none, .none, .ref 252, .int 519 0, .int 154 0, .str "/claim/cut.py" 520] }
noncomputable def o254 (P : Params) : Obj := { cls := .type "function", data := .func { name := "law", qualname := "law", params := fP28, body := .stmts bd28, scope := fS28, globals := 3, closure := [], defaults := .none, kwdefaults := .none, pyModule := .str "law_pb0167_01" 449, code := .ref 253 } }
noncomputable def tr_p21 (P : Params) : BT := .node (PySem.W.boot_o_0 P) (.node (PySem.W.boot_o_1 P) (.node (o3_p21 P) (.node (PySem.W.boot_o_7 P) (.node (o15 P) (.node (o31 P) (.node (o63 P) (.node (o127 P) .nil .nil) (.node (o191 P) .nil .nil)) (.node (o95 P) (.node (o159 P) .nil .nil) (.node (o223 P) .nil .nil))) (.node (o47 P) (.node (o79 P) (.node (o143 P) .nil .nil) (.node (o207 P) .nil .nil)) (.node (o111 P) (.node (o175 P) .nil .nil) (.node (o239 P) .nil .nil)))) (.node (o23 P) (.node (o39 P) (.node (o71 P) (.node (o135 P) .nil .nil) (.node (o199 P) .nil .nil)) (.node (o103 P) (.node (o167 P) .nil .nil) (.node (o231 P) .nil .nil))) (.node (o55 P) (.node (o87 P) (.node (o151 P) .nil .nil) (.node (o215 P) .nil .nil)) (.node (o119 P) (.node (o183 P) .nil .nil) (.node (o247 P) .nil .nil))))) (.node (o11 P) (.node (o19 P) (.node (o35 P) (.node (o67 P) (.node (o131 P) .nil .nil) (.node (o195 P) .nil .nil)) (.node (o99 P) (.node (o163 P) .nil .nil) (.node (o227 P) .nil .nil))) (.node (o51 P) (.node (o83 P) (.node (o147 P) .nil .nil) (.node (o211 P) .nil .nil)) (.node (o115 P) (.node (o179 P) .nil .nil) (.node (o243 P) .nil .nil)))) (.node (o27 P) (.node (o43 P) (.node (o75 P) (.node (o139 P) .nil .nil) (.node (o203 P) .nil .nil)) (.node (o107 P) (.node (o171 P) .nil .nil) (.node (o235 P) .nil .nil))) (.node (o59 P) (.node (o91 P) (.node (o155 P) .nil .nil) (.node (o219 P) .nil .nil)) (.node (o123 P) (.node (o187 P) .nil .nil) (.node (o251 P) .nil .nil)))))) (.node (PySem.W.boot_o_5 P) (.node (PySem.W.boot_o_9 P) (.node (o17 P) (.node (o33 P) (.node (o65 P) (.node (o129 P) .nil .nil) (.node (o193 P) .nil .nil)) (.node (o97 P) (.node (o161 P) .nil .nil) (.node (o225 P) .nil .nil))) (.node (o49 P) (.node (o81 P) (.node (o145 P) .nil .nil) (.node (o209 P) .nil .nil)) (.node (o113 P) (.node (o177 P) .nil .nil) (.node (o241 P) .nil .nil)))) (.node (o25 P) (.node (o41 P) (.node (o73 P) (.node (o137 P) .nil .nil) (.node (o201 P) .nil .nil)) (.node (o105 P) (.node (o169 P) .nil .nil) (.node (o233 P) .nil .nil))) (.node (o57 P) (.node (o89 P) (.node (o153 P) .nil .nil) (.node (o217 P) .nil .nil)) (.node (o121 P) (.node (o185 P) .nil .nil) (.node (o249 P) .nil .nil))))) (.node (o13 P) (.node (o21 P) (.node (o37 P) (.node (o69 P) (.node (o133 P) .nil .nil) (.node (o197 P) .nil .nil)) (.node (o101 P) (.node (o165 P) .nil .nil) (.node (o229 P) .nil .nil))) (.node (o53 P) (.node (o85 P) (.node (o149 P) .nil .nil) (.node (o213 P) .nil .nil)) (.node (o117 P) (.node (o181 P) .nil .nil) (.node (o245 P) .nil .nil)))) (.node (o29 P) (.node (o45 P) (.node (o77 P) (.node (o141 P) .nil .nil) (.node (o205 P) .nil .nil)) (.node (o109 P) (.node (o173 P) .nil .nil) (.node (o237 P) .nil .nil))) (.node (o61 P) (.node (o93 P) (.node (o157 P) .nil .nil) (.node (o221 P) .nil .nil)) (.node (o125 P) (.node (o189 P) .nil .nil) (.node (o253 P) .nil .nil))))))) (.node (PySem.W.boot_o_2 P) (.node (PySem.W.boot_o_4 P) (.node (PySem.W.boot_o_8 P) (.node (o16 P) (.node (o32 P) (.node (o64 P) (.node (o128 P) .nil .nil) (.node (o192 P) .nil .nil)) (.node (o96 P) (.node (o160 P) .nil .nil) (.node (o224 P) .nil .nil))) (.node (o48 P) (.node (o80 P) (.node (o144 P) .nil .nil) (.node (o208 P) .nil .nil)) (.node (o112 P) (.node (o176 P) .nil .nil) (.node (o240 P) .nil .nil)))) (.node (o24 P) (.node (o40 P) (.node (o72 P) (.node (o136 P) .nil .nil) (.node (o200 P) .nil .nil)) (.node (o104 P) (.node (o168 P) .nil .nil) (.node (o232 P) .nil .nil))) (.node (o56 P) (.node (o88 P) (.node (o152 P) .nil .nil) (.node (o216 P) .nil .nil)) (.node (o120 P) (.node (o184 P) .nil .nil) (.node (o248 P) .nil .nil))))) (.node (o12_p21 P) (.node (o20 P) (.node (o36 P) (.node (o68 P) (.node (o132 P) .nil .nil) (.node (o196 P) .nil .nil)) (.node (o100 P) (.node (o164 P) .nil .nil) (.node (o228 P) .nil .nil))) (.node (o52 P) (.node (o84 P) (.node (o148 P) .nil .nil) (.node (o212 P) .nil .nil)) (.node (o116 P) (.node (o180 P) .nil .nil) (.node (o244 P) .nil .nil)))) (.node (o28 P) (.node (o44 P) (.node (o76 P) (.node (o140 P) .nil .nil) (.node (o204 P) .nil .nil)) (.node (o108 P) (.node (o172 P) .nil .nil) (.node (o236 P) .nil .nil))) (.node (o60 P) (.node (o92 P) (.node (o156 P) .nil .nil) (.node (o220 P) .nil .nil)) (.node (o124 P) (.node (o188 P) .nil .nil) (.node (o252 P) .nil .nil)))))) (.node (PySem.W.boot_o_6 P) (.node (PySem.W.boot_o_10 P) (.node (o18 P) (.node (o34 P) (.node (o66 P) (.node (o130 P) .nil .nil) (.node (o194 P) .nil .nil)) (.node (o98 P) (.node (o162 P) .nil .nil) (.node (o226 P) .nil .nil))) (.node (o50 P) (.node (o82 P) (.node (o146 P) .nil .nil) (.node (o210 P) .nil .nil)) (.node (o114 P) (.node (o178 P) .nil .nil) (.node (o242 P) .nil .nil)))) (.node (o26 P) (.node (o42 P) (.node (o74 P) (.node (o138 P) .nil .nil) (.node (o202 P) .nil .nil)) (.node (o106 P) (.node (o170 P) .nil .nil) (.node (o234 P) .nil .nil))) (.node (o58 P) (.node (o90 P) (.node (o154 P) .nil .nil) (.node (o218 P) .nil .nil)) (.node (o122 P) (.node (o186 P) .nil .nil) (.node (o250 P) .nil .nil))))) (.node (o14 P) (.node (o22 P) (.node (o38 P) (.node (o70 P) (.node (o134 P) .nil .nil) (.node (o198 P) .nil .nil)) (.node (o102 P) (.node (o166 P) .nil .nil) (.node (o230 P) .nil .nil))) (.node (o54 P) (.node (o86 P) (.node (o150 P) .nil .nil) (.node (o214 P) .nil .nil)) (.node (o118 P) (.node (o182 P) .nil .nil) (.node (o246 P) .nil .nil)))) (.node (o30 P) (.node (o46 P) (.node (o78 P) (.node (o142 P) .nil .nil) (.node (o206 P) .nil .nil)) (.node (o110 P) (.node (o174 P) .nil .nil) (.node (o238 P) .nil .nil))) (.node (o62 P) (.node (o94 P) (.node (o158 P) .nil .nil) (.node (o222 P) .nil .nil)) (.node (o126 P) (.node (o190 P) .nil .nil) (.node (o254 P) .nil .nil)))))))
noncomputable def hp_fin (P : Params) : Heap := ⟨⟨[PySem.W.boot_o_0 P, PySem.W.boot_o_1 P, PySem.W.boot_o_2 P, o3_p21 P, PySem.W.boot_o_4 P, PySem.W.boot_o_5 P, PySem.W.boot_o_6 P, PySem.W.boot_o_7 P, PySem.W.boot_o_8 P, PySem.W.boot_o_9 P, PySem.W.boot_o_10 P, o11 P, o12_p21 P, o13 P, o14 P, o15 P, o16 P, o17 P, o18 P, o19 P, o20 P, o21 P, o22 P, o23 P, o24 P, o25 P, o26 P, o27 P, o28 P, o29 P, o30 P, o31 P, o32 P, o33 P, o34 P, o35 P, o36 P, o37 P, o38 P, o39 P, o40 P, o41 P, o42 P, o43 P, o44 P, o45 P, o46 P, o47 P, o48 P, o49 P, o50 P, o51 P, o52 P, o53 P, o54 P, o55 P, o56 P, o57 P, o58 P, o59 P, o60 P, o61 P, o62 P, o63 P, o64 P, o65 P, o66 P, o67 P, o68 P, o69 P, o70 P, o71 P, o72 P, o73 P, o74 P, o75 P, o76 P, o77 P, o78 P, o79 P, o80 P, o81 P, o82 P, o83 P, o84 P, o85 P, o86 P, o87 P, o88 P, o89 P, o90 P, o91 P, o92 P, o93 P, o94 P, o95 P, o96 P, o97 P, o98 P, o99 P, o100 P, o101 P, o102 P, o103 P, o104 P, o105 P, o106 P, o107 P, o108 P, o109 P, o110 P, o111 P, o112 P, o113 P, o114 P, o115 P, o116 P, o117 P, o118 P, o119 P, o120 P, o121 P, o122 P, o123 P, o124 P, o125 P, o126 P, o127 P, o128 P, o129 P, o130 P, o131 P, o132 P, o133 P, o134 P, o135 P, o136 P, o137 P, o138 P, o139 P, o140 P, o141 P, o142 P, o143 P, o144 P, o145 P, o146 P, o147 P, o148 P, o149 P, o150 P, o151 P, o152 P, o153 P, o154 P, o155 P, o156 P, o157 P, o158 P, o159 P, o160 P, o161 P, o162 P, o163 P, o164 P, o165 P, o166 P, o167 P, o168 P, o169 P, o170 P, o171 P, o172 P, o173 P, o174 P, o175 P, o176 P, o177 P, o178 P, o179 P, o180 P, o181 P, o182 P, o183 P, o184 P, o185 P, o186 P, o187 P, o188 P, o189 P, o190 P, o191 P, o192 P, o193 P, o194 P, o195 P, o196 P, o197 P, o198 P, o199 P, o200 P, o201 P, o202 P, o203 P, o204 P, o205 P, o206 P, o207 P, o208 P, o209 P, o210 P, o211 P, o212 P, o213 P, o214 P, o215 P, o216 P, o217 P, o218 P, o219 P, o220 P, o221 P, o222 P, o223 P, o224 P, o225 P, o226 P, o227 P, o228 P, o229 P, o230 P, o231 P, o232 P, o233 P, o234 P, o235 P, o236 P, o237 P, o238 P, o239 P, o240 P, o241 P, o242 P, o243 P, o244 P, o245 P, o246 P, o247 P, o248 P, o249 P, o250 P, o251 P, o252 P, o253 P, o254 P]⟩, {}⟩
noncomputable def K (P : Params) : Frag := [(nat_lit 2, PySem.W.boot_o_2 P), (nat_lit 3, o3_p21 P), (nat_lit 15, o15 P), (nat_lit 17, o17 P), (nat_lit 18, o18 P), (nat_lit 20, o20 P), (nat_lit 21, o21 P), (nat_lit 29, o29 P), (nat_lit 31, o31 P), (nat_lit 32, o32 P), (nat_lit 34, o34 P), (nat_lit 35, o35 P), (nat_lit 36, o36 P), (nat_lit 38, o38 P), (nat_lit 39, o39 P), (nat_lit 41, o41 P), (nat_lit 42, o42 P), (nat_lit 43, o43 P), (nat_lit 45, o45 P), (nat_lit 46, o46 P), (nat_lit 48, o48 P), (nat_lit 49, o49 P), (nat_lit 50, o50 P), (nat_lit 52, o52 P), (nat_lit 53, o53 P), (nat_lit 55, o55 P), (nat_lit 56, o56 P), (nat_lit 57, o57 P), (nat_lit 58, o58 P), (nat_lit 59, o59 P), (nat_lit 60, o60 P), (nat_lit 61, o61 P), (nat_lit 71, o71 P), (nat_lit 73, o73 P), (nat_lit 74, o74 P), (nat_lit 76, o76 P), (nat_lit 77, o77 P), (nat_lit 78, o78 P), (nat_lit 80, o80 P), (nat_lit 81, o81 P), (nat_lit 83, o83 P), (nat_lit 84, o84 P), (nat_lit 85, o85 P), (nat_lit 87, o87 P), (nat_lit 88, o88 P), (nat_lit 90, o90 P), (nat_lit 91, o91 P), (nat_lit 92, o92 P), (nat_lit 93, o93 P), (nat_lit 94, o94 P), (nat_lit 95, o95 P), (nat_lit 96, o96 P), (nat_lit 106, o106 P), (nat_lit 107, o107 P), (nat_lit 109, o109 P), (nat_lit 110, o110 P), (nat_lit 112, o112 P), (nat_lit 113, o113 P), (nat_lit 114, o114 P), (nat_lit 117, o117 P), (nat_lit 118, o118 P), (nat_lit 119, o119 P), (nat_lit 121, o121 P), (nat_lit 122, o122 P), (nat_lit 124, o124 P), (nat_lit 125, o125 P), (nat_lit 126, o126 P), (nat_lit 128, o128 P), (nat_lit 129, o129 P), (nat_lit 131, o131 P), (nat_lit 132, o132 P), (nat_lit 133, o133 P), (nat_lit 134, o134 P), (nat_lit 135, o135 P), (nat_lit 136, o136 P), (nat_lit 137, o137 P), (nat_lit 140, o140 P), (nat_lit 143, o143 P), (nat_lit 144, o144 P), (nat_lit 145, o145 P), (nat_lit 147, o147 P), (nat_lit 148, o148 P), (nat_lit 150, o150 P), (nat_lit 151, o151 P), (nat_lit 152, o152 P), (nat_lit 155, o155 P), (nat_lit 156, o156 P), (nat_lit 164, o164 P), (nat_lit 166, o166 P), (nat_lit 167, o167 P), (nat_lit 169, o169 P), (nat_lit 170, o170 P), (nat_lit 171, o171 P), (nat_lit 173, o173 P), (nat_lit 174, o174 P), (nat_lit 176, o176 P), (nat_lit 177, o177 P), (nat_lit 178, o178 P), (nat_lit 180, o180 P), (nat_lit 181, o181 P), (nat_lit 183, o183 P), (nat_lit 184, o184 P), (nat_lit 185, o185 P), (nat_lit 187, o187 P), (nat_lit 188, o188 P), (nat_lit 190, o190 P), (nat_lit 191, o191 P), (nat_lit 192, o192 P), (nat_lit 195, o195 P), (nat_lit 196, o196 P), (nat_lit 197, o197 P), (nat_lit 198, o198 P), (nat_lit 199, o199 P), (nat_lit 200, o200 P), (nat_lit 201, o201 P), (nat_lit 204, o204 P), (nat_lit 207, o207 P), (nat_lit 208, o208 P), (nat_lit 209, o209 P), (nat_lit 211, o211 P), (nat_lit 212, o212 P), (nat_lit 214, o214 P), (nat_lit 215, o215 P), (nat_lit 216, o216 P), (nat_lit 219, o219 P), (nat_lit 220, o220 P), (nat_lit 221, o221 P), (nat_lit 224, o224 P), (nat_lit 225, o225 P), (nat_lit 226, o226 P), (nat_lit 228, o228 P), (nat_lit 229, o229 P), (nat_lit 231, o231 P), (nat_lit 232, o232 P), (nat_lit 233, o233 P), (nat_lit 236, o236 P), (nat_lit 237, o237 P), (nat_lit 238, o238 P), (nat_lit 240, o240 P), (nat_lit 241, o241 P), (nat_lit 243, o243 P), (nat_lit 244, o244 P), (nat_lit 245, o245 P), (nat_lit 248, o248 P), (nat_lit 249, o249 P), (nat_lit 250, o250 P), (nat_lit 253, o253 P), (nat_lit 254, o254 P)]
abbrev kAs : List Addr := [nat_lit 2, nat_lit 3, nat_lit 15, nat_lit 17, nat_lit 18, nat_lit 20, nat_lit 21, nat_lit 29, nat_lit 31, nat_lit 32, nat_lit 34, nat_lit 35, nat_lit 36, nat_lit 38, nat_lit 39, nat_lit 41, nat_lit 42, nat_lit 43, nat_lit 45, nat_lit 46, nat_lit 48, nat_lit 49, nat_lit 50, nat_lit 52, nat_lit 53, nat_lit 55, nat_lit 56, nat_lit 57, nat_lit 58, nat_lit 59, nat_lit 60, nat_lit 61, nat_lit 71, nat_lit 73, nat_lit 74, nat_lit 76, nat_lit 77, nat_lit 78, nat_lit 80, nat_lit 81, nat_lit 83, nat_lit 84, nat_lit 85, nat_lit 87, nat_lit 88, nat_lit 90, nat_lit 91, nat_lit 92, nat_lit 93, nat_lit 94, nat_lit 95, nat_lit 96, nat_lit 106, nat_lit 107, nat_lit 109, nat_lit 110, nat_lit 112, nat_lit 113, nat_lit 114, nat_lit 117, nat_lit 118, nat_lit 119, nat_lit 121, nat_lit 122, nat_lit 124, nat_lit 125, nat_lit 126, nat_lit 128, nat_lit 129, nat_lit 131, nat_lit 132, nat_lit 133, nat_lit 134, nat_lit 135, nat_lit 136, nat_lit 137, nat_lit 140, nat_lit 143, nat_lit 144, nat_lit 145, nat_lit 147, nat_lit 148, nat_lit 150, nat_lit 151, nat_lit 152, nat_lit 155, nat_lit 156, nat_lit 164, nat_lit 166, nat_lit 167, nat_lit 169, nat_lit 170, nat_lit 171, nat_lit 173, nat_lit 174, nat_lit 176, nat_lit 177, nat_lit 178, nat_lit 180, nat_lit 181, nat_lit 183, nat_lit 184, nat_lit 185, nat_lit 187, nat_lit 188, nat_lit 190, nat_lit 191, nat_lit 192, nat_lit 195, nat_lit 196, nat_lit 197, nat_lit 198, nat_lit 199, nat_lit 200, nat_lit 201, nat_lit 204, nat_lit 207, nat_lit 208, nat_lit 209, nat_lit 211, nat_lit 212, nat_lit 214, nat_lit 215, nat_lit 216, nat_lit 219, nat_lit 220, nat_lit 221, nat_lit 224, nat_lit 225, nat_lit 226, nat_lit 228, nat_lit 229, nat_lit 231, nat_lit 232, nat_lit 233, nat_lit 236, nat_lit 237, nat_lit 238, nat_lit 240, nat_lit 241, nat_lit 243, nat_lit 244, nat_lit 245, nat_lit 248, nat_lit 249, nat_lit 250, nat_lit 253, nat_lit 254]
noncomputable def q : Program := view pg [0, 2, 4, 5, 6, 7, 8, 9, 11, 13, 14, 15, 16, 17, 18, 19, 20, 21]
noncomputable def env0 : Env := { scope := pg.main.scope, locals := mainNs, globals := mainNs, cells := [], code := .ref 13, frame := some 14 }
noncomputable abbrev cd0 : Code := .body (behindTheImports pg) env0
abbrev fr0 : List Frame := [topFrame ⟨0, 0, 0, 0⟩]
theorem run_pre (w : World) (os : OsState) : topGo treeTable pg w 11 (some (.ref 6)) 12 ⟨boot_heap w.params, ⟨[]⟩, boot_drawn, boot_toks, os⟩ (topStub pg) = some (⟨hp_pre w.params, ⟨[]⟩, {}, 187, os⟩, ⟨denote treeTable cd0, cd0, ⟨0, 0, 0, 0⟩, fr0⟩) := by kernel_rfl
theorem run_block (w : World) (os : OsState) : segRun treeTable pg w 11 (some (.ref 6)) 1 1 ⟨hp_pre w.params, ⟨[]⟩, {}, 187, os⟩ (blockOf (behindTheImports pg) env0 cd0 ⟨0, 0, 0, 0⟩ fr0) = some (.next, (SharedT.abs ⟨tr_block w.params, 15, {}, ⟨[]⟩, {}, 187, os⟩), cd0, ⟨0, 0, 0, 0⟩) := by kernel_rfl
noncomputable def sts0 : List Stmt := ((behindTheImports pg).drop 0).take 5
theorem run_p4 (w : World) (os : OsState) : segRun treeTable pg w 11 (some (.ref 6)) 1 377 (SharedT.abs ⟨tr_block w.params, 15, {}, ⟨[]⟩, {}, 187, os⟩) (piecesOf sts0 env0 cd0 ⟨0, 0, 0, 0⟩ fr0) = some (.next, (SharedT.abs ⟨tr_p4 w.params, 64, {}, ⟨[]⟩, {}, 255, os⟩), cd0, ⟨29, 0, 29, 10⟩) := segRun_of (by rw [PySem.W.Fast.te10110043849684766642, PySem.W.Fast.te14364793385576792824]; kernel_rfl)
noncomputable def sts1 : List Stmt := ((behindTheImports pg).drop 5).take 1
theorem run_p5 (w : World) (os : OsState) : segRun treeTable pg w 11 (some (.ref 6)) 1 291 (SharedT.abs ⟨tr_p4 w.params, 64, {}, ⟨[]⟩, {}, 255, os⟩) (piecesOf sts1 env0 cd0 ⟨29, 0, 29, 10⟩ fr0) = some (.next, (SharedT.abs ⟨tr_p5 w.params, 99, {}, ⟨[]⟩, {}, 304, os⟩), cd0, ⟨30, 0, 42, 16⟩) := segRun_of (by rw [PySem.W.Fast.te10110043849684766642, PySem.W.Fast.te14364793385576792824]; kernel_rfl)
noncomputable def sts2 : List Stmt := ((behindTheImports pg).drop 6).take 3
theorem run_p8 (w : World) (os : OsState) : segRun treeTable pg w 11 (some (.ref 6)) 1 384 (SharedT.abs ⟨tr_p5 w.params, 99, {}, ⟨[]⟩, {}, 304, os⟩) (piecesOf sts2 env0 cd0 ⟨30, 0, 42, 16⟩ fr0) = some (.next, (SharedT.abs ⟨tr_p8 w.params, 152, {}, ⟨[]⟩, {}, 381, os⟩), cd0, ⟨69, 0, 74, 24⟩) := segRun_of (by rw [PySem.W.Fast.te10110043849684766642, PySem.W.Fast.te14364793385576792824]; kernel_rfl)
noncomputable def sts3 : List Stmt := ((behindTheImports pg).drop 9).take 3
theorem run_p11 (w : World) (os : OsState) : segRun treeTable pg w 11 (some (.ref 6)) 1 383 (SharedT.abs ⟨tr_p8 w.params, 152, {}, ⟨[]⟩, {}, 381, os⟩) (piecesOf sts3 env0 cd0 ⟨69, 0, 74, 24⟩ fr0) = some (.next, (SharedT.abs ⟨tr_p11 w.params, 204, {}, ⟨[]⟩, {}, 449, os⟩), cd0, ⟨84, 0, 102, 86⟩) := segRun_of (by rw [PySem.W.Fast.te10110043849684766642, PySem.W.Fast.te14364793385576792824]; kernel_rfl)
noncomputable def sts4 : List Stmt := ((behindTheImports pg).drop 12).take 10
theorem run_p21 (w : World) (os : OsState) : segRun treeTable pg w 11 (some (.ref 6)) 1 267 (SharedT.abs ⟨tr_p11 w.params, 204, {}, ⟨[]⟩, {}, 449, os⟩) (piecesOf sts4 env0 cd0 ⟨84, 0, 102, 86⟩ fr0) = some (.next, (SharedT.abs ⟨tr_p21 w.params, 255, {}, ⟨[]⟩, {}, 522, os⟩), cd0, ⟨154, 0, 171, 109⟩) := segRun_of (by rw [PySem.W.Fast.te10110043849684766642, PySem.W.Fast.te14364793385576792824]; kernel_rfl)
theorem run_fin (w : World) (os : OsState) : topRun treeTable pg w 11 (some (.ref 6)) 2 (SharedT.abs ⟨tr_p21 w.params, 255, {}, ⟨[]⟩, {}, 522, os⟩) ⟨doneF .next, cd0, ⟨154, 0, 171, 109⟩, fr0⟩ = some ⟨hp_fin w.params, ⟨[]⟩, {}, 522, os⟩ := by kernel_rfl
theorem run_all (w : World) (os : OsState) : topRun treeTable pg w 11 (some (.ref 6)) 1717 ⟨boot_heap w.params, ⟨[]⟩, boot_drawn, boot_toks, os⟩ (topStub pg) = some ⟨hp_fin w.params, ⟨[]⟩, {}, 522, os⟩ :=
  have x := go_top (run_pre w os) (piece_block (run_block w os) (piece_app (run_p4 w os) (piece_app (run_p5 w os) (piece_app (run_p8 w os) (piece_app (run_p11 w os) (piece_app (run_p21 w os) (piece_nil (run_fin w os))))))))
  x
abbrev rw0 : RowW := PySem.Challenge.rw_pb0167_01.row.toRowW
noncomputable abbrev hook : Hook := kHook K kAs (fun _ => rfl)
noncomputable abbrev xt0 (s : Shared) : Bool := xlAt q [] s && recOk (RowW.records rw0) s
theorem looks (w : World) (os : OsState) : ((staticsOk (importedModules pg.main.body) (boot_heap w.params) (hp_fin w.params) && namesBound pg (hp_fin w.params) && gensDone ⟨hp_fin w.params, ⟨[]⟩, {}, 522, os⟩ && laidKept (boot_heap w.params) (hp_fin w.params)),
    openSeen q [] (importedModules pg.main.body) xt0 true ⟨hp_fin w.params, ⟨[]⟩, {}, 522, os⟩, hook.obs ⟨hp_fin w.params, ⟨[]⟩, {}, 522, os⟩) = (true, openGood q [], hook.val w) := by
  refine looks_pair (by kernel_rfl) (looks_pair ?_ (by kernel_rfl))
  rw [PySem.W.Fast.te4187177175401517315]
  refine looks_pair (by kernel_rfl) ?_
  refine looks_pair (by kernel_rfl) ?_
  refine looks_pair (by kernel_rfl) ?_
  refine looks_pair (by kernel_rfl) ?_
  refine looks_pair (by kernel_rfl) ?_
  refine looks_pair (by kernel_rfl) ?_
  refine looks_pair (by kernel_rfl) ?_
  refine looks_pair (by kernel_rfl) ?_
  kernel_rfl
theorem left0 : LeftO pg q [] xt0 hook.obs hook.val 3520 :=
  LeftO.of_pieces (H₀ := boot_heap) (H₁ := hp_fin) (gs₀ := ⟨[]⟩) (gs₁ := ⟨[]⟩) (d₀ := boot_drawn) (d₁ := {}) (k₀ := boot_toks) (k₁ := 522) (m₀ := 11) (ann := some (.ref 6)) (M := 1717)
    (boot_open (by kernel_rfl) (by kernel_rfl) (fun s => by kernel_rfl)) (fun w => by kernel_rfl) run_all (by kernel_rfl) (fun w => funext fun os => looks w os)

noncomputable abbrev KF (w : World) : Frag := K w.params
abbrev Sub (Γ h : Heap) : Prop := ∀ b o, Γ.get? b = some o → h.get? b = some o
theorem Sub.rfl' {Γ : Heap} : Sub Γ Γ := fun _ _ e => e
theorem Sub.trans {a b c : Heap} (x : Sub a b) (y : Sub b c) : Sub a c := fun _ _ e => y _ _ (x _ _ e)

/-- what the text's own run left, as far as the proof asks -/
structure Glb (w : World) (H : Heap) : Prop where
  kin : (KF w).In H
  glob : ∃ mg, H.Ns mainGlobals mg
  blt : ∃ mb, H.Ns builtinsNs mb ∧ ∀ x : Str, x ≠ "__name__" → mb x = bootBuiltins x
  lim : H.NoLimit
theorem Glb.mono {w : World} {H H' : Heap} (g : Glb w H) (k : Sub H H') : Glb w H' :=
  ⟨g.kin.keeps k, let ⟨mg, a⟩ := g.glob; ⟨mg, a.keeps k⟩, let ⟨mb, a, b⟩ := g.blt; ⟨mb, a.keeps k, b⟩, g.lim.keeps k⟩

/-- what a frame owns: an address, and what is known of the thing there -/
abbrev Own := List (Addr × (Obj → Prop))
abbrev Own.as (own : Own) : List Addr := own.map Prod.fst
def NsO (m : Str → Option Value) (o : Obj) : Prop := ∃ es ep, o.data = .dict es ep ∧ StrKeys es ∧ ∀ n, nsFind es n = m n
def CellO (v : Option Value) (o : Obj) : Prop := o.data = .cell v

/-- where a call began: what it may write, and what is hidden from it -/
structure Ent where
  s : Shared
  W : List Addr
  hid : List Addr

structure St (w : World) (e : Ent) (Γ : Heap) (own : Own) (s : Shared) : Prop where
  g : Glb w Γ
  see : Sub Γ s.heap
  has : ∀ q ∈ own, ∃ o, s.heap.get? q.1 = some o ∧ q.2 o
  off : ∀ a, a ∈ own.as ∨ a ∈ e.hid → Γ.get? a = none
  nd : own.as.Nodup
  keep : ∀ b o, e.s.heap.get? b = some o → b ∉ e.W → s.heap.get? b = some o
  new : ∀ a ∈ own.as, a ∈ e.W ∨ e.s.heap.get? a = none
  elv : ∀ a ∈ e.hid, ∃ o, e.s.heap.get? a = some o
  hlv : ∀ a ∈ e.hid, ∃ o, s.heap.get? a = some o
  wown : ∀ a ∈ e.W, a ∈ own.as
  os : s.os = e.s.os
  gens : s.gens = e.s.gens

theorem get_ge {h : Heap} {a : Addr} (ha : h.objs.size ≤ a) : h.get? a = none := by
  cases e : h.get? a with
  | none => rfl
  | some o => exact absurd (Heap.lt_size e) (Nat.not_lt.mpr ha)

/-- one owned thing for another at its address -/
inductive Up (a : Addr) (P P' : Obj → Prop) : Own → Own → Prop
  | head {r} : Up a P P' ((a, P) :: r) ((a, P') :: r)
  | tail {p r r'} : Up a P P' r r' → Up a P P' (p :: r) (p :: r')
section
variable {a : Addr} {P P' : Obj → Prop}
theorem Up.map : ∀ {l l' : Own}, Up a P P' l l' → l'.as = l.as
  | _, _, .head => rfl
  | _, _, .tail u => by simp only [Own.as, List.map_cons]; rw [show List.map Prod.fst _ = List.map Prod.fst _ from u.map]
theorem Up.mem : ∀ {l l' : Own}, Up a P P' l l' → (a, P) ∈ l
  | _, _, .head => .head _
  | _, _, .tail u => .tail _ u.mem
theorem Up.mem' : ∀ {l l' : Own}, Up a P P' l l' → (a, P') ∈ l'
  | _, _, .head => .head _
  | _, _, .tail u => .tail _ u.mem'
theorem Up.cases : ∀ {l l' : Own}, Up a P P' l l' → l.as.Nodup → ∀ q ∈ l', q = (a, P') ∨ (q ∈ l ∧ q.1 ≠ a)
  | _, _, .head, nd, q, hq => by
    rcases List.mem_cons.mp hq with rfl | hq
    · exact .inl rfl
    · exact .inr ⟨.tail _ hq, fun z => (List.nodup_cons.mp nd).1 (List.mem_map.mpr ⟨q, hq, z⟩)⟩
  | _, _, .tail (p := p) u, nd, q, hq => by
    have nd' := List.nodup_cons.mp nd
    rcases List.mem_cons.mp hq with rfl | hq
    · exact .inr ⟨.head _, fun z => nd'.1 (z ▸ List.mem_map_of_mem u.mem)⟩
    · exact (u.cases nd'.2 q hq).imp id fun z => ⟨.tail _ z.1, z.2⟩
end

section
variable {w : World} {e : Ent} {Γ : Heap} {s s' : Shared} {own own' : Own} {a : Addr} {P P' : Obj → Prop} {o : Obj}

theorem St.glb (S : St w e Γ own s) : Glb w s.heap := S.g.mono S.see
theorem St.kin (S : St w e Γ own s) : (KF w).In s.heap := S.g.kin.keeps S.see

theorem St.live (S : St w e Γ own s) {a : Addr} (ha : a ∈ own.as) : ∃ o, s.heap.get? a = some o := by
  obtain ⟨q, hq, rfl⟩ := List.mem_map.mp ha
  obtain ⟨o, ho, _⟩ := S.has q hq
  exact ⟨o, ho⟩
theorem St.ne_own (S : St w e Γ own s) {b : Addr} (hb : s.heap.get? b = none) : b ∉ own.as := fun hm => by
  obtain ⟨o, ho⟩ := S.live hm
  rw [hb] at ho; cases ho
theorem St.ne_hid (S : St w e Γ own s) {b : Addr} (hb : s.heap.get? b = none) : b ∉ e.hid := fun hm => by
  obtain ⟨o, ho⟩ := S.hlv _ hm
  rw [hb] at ho; cases ho
theorem St.gnone (S : St w e Γ own s) {b : Addr} (hb : s.heap.get? b = none) : Γ.get? b = none := by
  cases q : Γ.get? b with
  | none => rfl
  | some o => have := S.see _ _ q; rw [hb] at this; cases this
theorem St.enone (S : St w e Γ own s) {b : Addr} (hb : s.heap.get? b = none) : e.s.heap.get? b = none := by
  cases q : e.s.heap.get? b with
  | none => rfl
  | some o =>
    by_cases hW : b ∈ e.W
    · exact absurd (S.wown _ hW) (S.ne_own hb)
    · have := S.keep _ _ q hW; rw [hb] at this; cases this

/-- only new things -/
theorem St.kept (S : St w e Γ own s) (k : Sub s.heap s'.heap) (os : s'.os = s.os := by rfl) (gn : s'.gens = s.gens := by rfl) : St w e Γ own s' where
  g := S.g
  see := S.see.trans k
  has := fun q hq => let ⟨o, ho, hP⟩ := S.has q hq; ⟨o, k _ _ ho, hP⟩
  off := S.off
  nd := S.nd
  keep := fun b o hb hW => k _ _ (S.keep b o hb hW)
  new := S.new
  elv := S.elv
  hlv := fun b hb => let ⟨o, ho⟩ := S.hlv b hb; ⟨o, k _ _ ho⟩
  wown := S.wown
  os := os.trans S.os
  gens := gn.trans S.gens

theorem St.tok (S : St w e Γ own s) {t : Tok} : St w e Γ own { s with toks := t } := S.kept Sub.rfl'

/-- an owned thing is written -/
theorem St.upd (S : St w e Γ own s) (U : Up a P P' own own') (hs : ∀ b o, b ≠ a → s.heap.get? b = some o → s'.heap.get? b = some o)
    (ho : ∃ o, s'.heap.get? a = some o ∧ P' o) (os : s'.os = s.os := by rfl) (gn : s'.gens = s.gens := by rfl) : St w e Γ own' s' := by
  have ha : a ∈ own.as := List.mem_map_of_mem (f := Prod.fst) U.mem
  have hnew := S.new a ha
  refine ⟨S.g, fun b o hb => ?_, fun q hq => ?_, fun b hb => S.off b (hb.imp (fun z => U.map ▸ z) id), ?_, fun b o hb hW => ?_, fun b hb => S.new b (U.map ▸ hb), S.elv, fun b hb => ?_, fun b hb => ?_, os.trans S.os, gn.trans S.gens⟩
  · have hne : b ≠ a := by
      rintro rfl
      rw [S.off _ (.inl ha)] at hb; cases hb
    exact hs b o hne (S.see b o hb)
  · rcases U.cases S.nd q hq with rfl | ⟨hq, hne⟩
    · exact ho
    · obtain ⟨o, h1, h2⟩ := S.has q hq
      exact ⟨o, hs _ _ hne h1, h2⟩
  · rw [U.map]; exact S.nd
  · have hne : b ≠ a := by
      rintro rfl
      rcases hnew with h | h
      · exact hW h
      · rw [hb] at h; cases h
    exact hs b o hne (S.keep b o hb hW)
  · by_cases hba : b = a
    · obtain ⟨o, h1, _⟩ := ho; exact ⟨o, hba ▸ h1⟩
    · obtain ⟨o, h1⟩ := S.hlv b hb; exact ⟨o, hs _ _ hba h1⟩
  · rw [U.map]; exact S.wown b hb

theorem St.updS (S : St w e Γ own s) (U : Up a P P' own own') (hs : Heap.SameBut a s.heap s'.heap)
    (ho : ∃ o, s'.heap.get? a = some o ∧ P' o) (os : s'.os = s.os := by rfl) (gn : s'.gens = s.gens := by rfl) : St w e Γ own' s' :=
  S.upd U (fun b _ hb h => (hs.2 b hb).trans h) ho os gn

/-- a new thing is owned -/
theorem St.more (S : St w e Γ own s) (k : Sub s.heap s'.heap) (ha : s.heap.get? a = none) (ho : ∃ o, s'.heap.get? a = some o ∧ P o)
    (os : s'.os = s.os := by rfl) (gn : s'.gens = s.gens := by rfl) : St w e Γ ((a, P) :: own) s' := by
  have S' := S.kept k os gn
  refine ⟨S.g, S'.see, fun q hq => ?_, fun b hb => ?_, ?_, S'.keep, fun b hb => ?_, S.elv, S'.hlv, fun b hb => .tail _ (S.wown b hb), S'.os, S'.gens⟩
  · rcases List.mem_cons.mp hq with rfl | hq
    · exact ho
    · exact S'.has q hq
  · rcases hb with hb | hb
    · rcases List.mem_cons.mp hb with rfl | hb
      · exact S.gnone ha
      · exact S.off _ (.inl hb)
    · exact S.off _ (.inr hb)
  · exact List.nodup_cons.mpr ⟨S.ne_own ha, S.nd⟩
  · rcases List.mem_cons.mp hb with rfl | hb
    · exact .inr (S.enone ha)
    · exact S.new _ hb

/-- some of what is owned is forgotten -/
theorem St.less (S : St w e Γ own s) (hs : own'.Sublist own) (hW : ∀ a ∈ e.W, a ∈ own'.as) : St w e Γ own' s :=
  have hs' : own'.as.Sublist own.as := hs.map Prod.fst
  { g := S.g, see := S.see, has := fun q hq => S.has q (hs.subset hq), keep := S.keep, elv := S.elv, hlv := S.hlv, os := S.os, gens := S.gens,
    off := fun b hb => S.off b (hb.imp (fun z => hs'.subset z) id), nd := S.nd.sublist hs', new := fun b hb => S.new b (hs'.subset hb), wown := hW }
theorem St.perm (S : St w e Γ own s) (hs : own.Perm own') : St w e Γ own' s :=
  have hs' : own.as.Perm own'.as := hs.map Prod.fst
  { g := S.g, see := S.see, has := fun q hq => S.has q (hs.mem_iff.mpr hq), keep := S.keep, elv := S.elv, hlv := S.hlv, os := S.os, gens := S.gens,
    off := fun b hb => S.off b (hb.imp (fun z => hs'.mem_iff.mpr z) id), nd := hs'.nodup_iff.mp S.nd, new := fun b hb => S.new b (hs'.mem_iff.mpr hb), wown := fun b hb => hs'.mem_iff.mp (S.wown b hb) }
/-- less is known of what is owned -/
theorem St.weak (S : St w e Γ own s) (U : Up a P P' own own') (h : ∀ o, P o → P' o) : St w e Γ own' s :=
  S.upd U (fun _ _ _ h => h) (let ⟨o, h1, h2⟩ := S.has _ U.mem; ⟨o, h1, h _ h2⟩)

/-- the whole ground: all but what is owned or hidden -/
def Grd (e : Ent) (own : Own) (h : Heap) : Heap := hideAll h (own.as ++ e.hid)
theorem St.frz (S : St w e Γ own s) : St w e (Grd e own s.heap) own s ∧ Sub Γ (Grd e own s.heap) ∧ ∀ b o, s.heap.get? b = some o → b ∉ own.as → b ∉ e.hid → (Grd e own s.heap).get? b = some o := by
  have sub : Sub Γ (Grd e own s.heap) := fun b o hb => hideAll_get _ (S.see b o hb) fun hm => by have := S.off b (List.mem_append.mp hm); rw [this] at hb; cases hb
  exact ⟨⟨S.g.mono sub, fun b o hb => of_hideAll _ hb, S.has, fun b hb => hideAll_none _ (List.mem_append.mpr hb), S.nd, S.keep, S.new, S.elv, S.hlv, S.wown, S.os, S.gens⟩, sub, fun b o hb h1 h2 => hideAll_get _ hb fun hm => (List.mem_append.mp hm).elim h1 h2⟩

/-- new things stand still from now on -/
theorem St.still (S : St w e Γ own s) (k : Sub s.heap s'.heap) (os : s'.os = s.os := by rfl) (gn : s'.gens = s.gens := by rfl) :
    ∃ Γ', St w e Γ' own s' ∧ Sub Γ Γ' ∧ ∀ b o, s.heap.get? b = none → s'.heap.get? b = some o → Γ'.get? b = some o := by
  have S' := S.kept k os gn
  obtain ⟨a1, a2, a3⟩ := S'.frz
  exact ⟨_, a1, a2, fun b o hb ho => a3 b o ho (S.ne_own hb) (S.ne_hid hb)⟩

/-- an owned new thing stands still from now on -/
theorem St.freeze (S : St w e Γ ((a, P) :: own) s) (hW : ∀ x ∈ e.W, x ∈ own.as) : ∃ Γ' o, St w e Γ' own s ∧ Sub Γ Γ' ∧ Γ'.get? a = some o ∧ P o := by
  have S' := S.less (List.sublist_cons_self _ own) hW
  obtain ⟨a1, a2, a3⟩ := S'.frz
  obtain ⟨o, h1, h2⟩ := S.has _ (.head _)
  have nd := List.nodup_cons.mp S.nd
  refine ⟨_, o, a1, a2, a3 _ _ h1 nd.1 fun hm => ?_, h2⟩
  obtain ⟨o', h'⟩ := S.elv _ hm
  rcases S.new a (.head _) with h | h
  · exact nd.1 (hW _ h)
  · rw [h'] at h; cases h

/-- into a call: what the callee owns is what it has made, and what it may write -/
theorem St.enter (S : St w e Γ own s) {fr wr : Own} (k : Sub s.heap s'.heap) (hfr : ∀ q ∈ fr, s.heap.get? q.1 = none ∧ ∃ o, s'.heap.get? q.1 = some o ∧ q.2 o) (hnd : fr.as.Nodup)
    (hwr : wr.Sublist own) (os : s'.os = s.os := by rfl) (gn : s'.gens = s.gens := by rfl) : St w ⟨s, wr.as, own.as ++ e.hid⟩ Γ (fr ++ wr) s' := by
  have hw' : wr.as.Sublist own.as := hwr.map Prod.fst
  have hap : (fr ++ wr).as = fr.as ++ wr.as := List.map_append
  have hfn : ∀ a ∈ fr.as, s.heap.get? a = none := fun a ha => by obtain ⟨q, hq, rfl⟩ := List.mem_map.mp ha; exact (hfr q hq).1
  refine ⟨S.g, S.see.trans k, fun q hq => ?_, fun a ha => ?_, ?_, fun b o hb _ => k _ _ hb, fun a ha => ?_, fun a ha => ?_, fun a ha => ?_, fun a ha => ?_, os, gn⟩
  · rcases List.mem_append.mp hq with hq | hq
    · exact (hfr q hq).2
    · obtain ⟨o, h1, h2⟩ := S.has q (hwr.subset hq); exact ⟨o, k _ _ h1, h2⟩
  · rw [hap] at ha
    rcases ha with ha | ha
    · rcases List.mem_append.mp ha with ha | ha
      · exact S.gnone (hfn a ha)
      · exact S.off a (.inl (hw'.subset ha))
    · exact S.off a (List.mem_append.mp ha)
  · rw [hap]
    refine List.nodup_append.mpr ⟨hnd, S.nd.sublist hw', fun a ha b hb hab => ?_⟩
    subst hab
    exact S.ne_own (hfn a ha) (hw'.subset hb)
  · rw [hap] at ha
    rcases List.mem_append.mp ha with ha | ha
    · exact .inr (hfn a ha)
    · exact .inl ha
  · rcases List.mem_append.mp ha with ha | ha
    · exact S.live ha
    · exact S.hlv a ha
  · have : ∃ o, s.heap.get? a = some o := by
      rcases List.mem_append.mp ha with ha | ha
      · exact S.live ha
      · exact S.hlv a ha
    obtain ⟨o, ho⟩ := this
    exact ⟨o, k _ _ ho⟩
  · rw [hap]; exact List.mem_append_right _ ha

/-- out of a call that wrote nothing of the caller's -/
theorem St.leave0 {Γ' : Heap} {own₂ : Own} {s₀ : Shared} (S : St w e Γ own s) (hs₀ : s₀ = s) (S' : St w ⟨s₀, [], own.as ++ e.hid⟩ Γ' own₂ s') : St w e Γ' own s' := by
  subst hs₀
  exact {
  g := S'.g
  see := S'.see
  has := fun q hq => let ⟨o, ho, hP⟩ := S.has q hq; ⟨o, S'.keep _ _ ho (List.not_mem_nil), hP⟩
  off := fun a ha => S'.off a (.inr (List.mem_append.mpr ha))
  nd := S.nd
  keep := fun b o hb hW => S'.keep _ _ (S.keep b o hb hW) List.not_mem_nil
  new := S.new
  elv := S.elv
  hlv := fun b hb => let ⟨o, ho⟩ := S.hlv b hb; ⟨o, S'.keep _ _ ho List.not_mem_nil⟩
  wown := S.wown
  os := S'.os.trans S.os
  gens := S'.gens.trans S.gens }

/-- out of a call that wrote one owned thing -/
theorem St.leave1 {Γ' : Heap} {own₂ : Own} (S : St w e Γ own s) (U : Up a P P' own own') (S' : St w ⟨s, [a], own.as ++ e.hid⟩ Γ' own₂ s') (hm : (a, P') ∈ own₂) : St w e Γ' own' s' := by
  have ha : a ∈ own.as := List.mem_map_of_mem (f := Prod.fst) U.mem
  have hnew := S.new a ha
  have nin : ∀ {b : Addr}, b ≠ a → b ∉ [a] := fun h hm => h (List.mem_singleton.mp hm)
  refine ⟨S'.g, S'.see, fun q hq => ?_, fun b hb => S'.off b (.inr (List.mem_append.mpr (hb.imp (fun z => U.map ▸ z) id))), ?_, fun b o hb hW => ?_, fun b hb => S.new b (U.map ▸ hb), S.elv, fun b hb => ?_, fun b hb => ?_, S'.os.trans S.os, S'.gens.trans S.gens⟩
  · rcases U.cases S.nd q hq with rfl | ⟨hq, hne⟩
    · exact S'.has _ hm
    · obtain ⟨o, h1, h2⟩ := S.has q hq
      exact ⟨o, S'.keep _ _ h1 (nin hne), h2⟩
  · rw [U.map]; exact S.nd
  · have hne : b ≠ a := by
      rintro rfl
      rcases hnew with h | h
      · exact hW h
      · rw [hb] at h; cases h
    exact S'.keep _ _ (S.keep b o hb hW) (nin hne)
  · by_cases hba : b = a
    · obtain ⟨o, h1, _⟩ := S'.has _ hm; exact ⟨o, hba ▸ h1⟩
    · obtain ⟨o, h1⟩ := S.hlv b hb; exact ⟨o, S'.keep _ _ h1 (nin hba)⟩
  · rw [U.map]; exact S.wown b hb
end

/-- room for n more frames -/
structure Room (A : Around) (n : Nat) : Prop where
  hh : A.handled = none
  dp : A.depth + 2 * n + 10 < recursionLimit
  un : A.units + 12 * n + 200 < cLine
theorem Room.deeper {A : Around} {n : Nat} (R : Room A (n + 1)) (env : Env) : Room (A.deeper env) n := ⟨R.hh, by have := R.dp; show A.depth + 1 + 2 * n + 10 < _; omega, by have := R.un; show A.units + 3 + 12 * n + 200 < _; omega⟩
theorem Room.le {A : Around} {n k : Nat} (R : Room A n) (h : k ≤ n) : Room A k := ⟨R.hh, by have := R.dp; omega, by have := R.un; omega⟩
theorem Room.in1 {A : Around} {n : Nat} (R : Room A (n + 1)) : Room A.in1 n := ⟨R.hh, by have := R.dp; show A.depth + 2 * n + 10 < _; omega, by have := R.un; show A.units + 1 + 12 * n + 200 < _; omega⟩
theorem Room.depth {A : Around} {n : Nat} (R : Room A n) : A.depth < recursionLimit := by have := R.dp; omega


/-- locals, one name more -/
def upd (m : Str → Option Value) (x : Str) (v : Value) : Str → Option Value := fun y => if y = x then some v else m y
theorem upd_same {m : Str → Option Value} {x : Str} {v : Value} : upd m x v x = some v := if_pos rfl
theorem upd_ne {m : Str → Option Value} {x y : Str} {v : Value} (h : y ≠ x) : upd m x v y = m y := if_neg h
def m0 : Str → Option Value := fun _ => none

/-- the frame of a call: its locals, its cells -/
abbrev cellOwn (cm : Str → Option Value) (cs : List (Str × Addr)) : Own := cs.map fun c => (c.2, CellO (cm c.1))

def retV : Flow → Value
  | .ret v => v
  | _ => .none

def kindsOk (scope : Scope) (binds : List (Str × Value)) : Bool :=
  (binds.map (·.1)).all fun x => decide (scope.names.lookup x = some .local) || (decide (scope.names.lookup x = some .cell) && ((cellsFrom 0 scope.names []).map (·.1)).contains x)
theorem lookup_of_name {x : Str} : ∀ {cs : List (Str × Addr)}, x ∈ cs.map (·.1) → (cs.lookup x).isSome = true
  | (n, c) :: r, h => by
    rw [List.lookup_cons]
    cases hb : x == n with
    | true => rfl
    | false =>
      rcases List.mem_cons.mp h with e | h
      · exact absurd (beq_iff_eq.mpr e) (by rw [hb]; decide)
      · exact lookup_of_name h
theorem kinds_of {scope : Scope} {binds : List (Str × Value)} (h : kindsOk scope binds = true) (n : Nat) :
    ∀ x ∈ binds, scope.names.lookup x.1 = some .local ∨ (scope.names.lookup x.1 = some .cell ∧ ((cellsFrom n scope.names []).lookup x.1).isSome = true) := fun x hx => by
  have := List.all_eq_true.mp h x.1 (List.mem_map_of_mem hx)
  simp only [Bool.or_eq_true, Bool.and_eq_true, decide_eq_true_eq] at this
  refine this.imp id fun z => ⟨z.1, lookup_of_name ?_⟩
  rw [cellsFrom_names scope.names n 0 [] [] rfl]
  exact List.contains_iff_mem.mp z.2

section
variable {w : World} {e : Ent} {Γ : Heap} {s : Shared} {own own' : Own} {p : Addr} {P P' : Obj → Prop} {A : Around} {E : Value → Shared → Prop} {Q : Value → Shared → Prop}
  {f : Addr} {name qual : Str} {params : Arguments} {body : List Stmt} {scope : Scope} {dV kV doc pm cdv ct oc : Value} {an od : Option Addr} {osl : Array (Option Value)} {args : List Value} {binds : List (Str × Value)}

theorem call_core {wr : Own} {fr : Addr → Own} (S : St w e Γ own s) (hroom : A.depth < recursionLimit)
    (ho : (KF w).lookup f = some ⟨oc, od, .func (fnX name qual params body scope [] dV kV doc pm an cdv ct), osl⟩) (hcd : codeIn (KF w) cdv qual = true)
    (hbind : BindsTo s (fnX name qual params body scope [] dV kV doc pm an cdv ct) ⟨args, []⟩ binds)
    (hkind : kindsOk scope binds = true)
    (hnd : ((cellsFrom 0 scope.names []).map (·.1)).Nodup) (hwr : wr.Sublist own)
    (hfr : ∀ L, fr L = (L, NsO (bindL (envOfC qual scope L f cdv).kindOf binds fun _ => none)) :: cellOwn (bindC (envOfC qual scope L f cdv).kindOf binds fun _ => none) (cellsFrom (L + 1) scope.names []))
    (h : ∀ L s₂, St w ⟨s, wr.as, own.as ++ e.hid⟩ Γ (fr L ++ wr) s₂ →
      wpAny (model pg w) (A.deeper (envOfC qual scope L f cdv)) (execs body (envOfC qual scope L f cdv)) (fun fl s' => Q (retV fl) s') (fun _ _ => False) s₂)
    (hco : scope.isCoroutine = false := by rfl) (hgen : scope.isGenerator = false := by rfl) (hk : scope.kind = .function := by rfl) :
    codeAny (model pg w) A (.call (.ref f) ⟨args, []⟩) (fun r s' => match r with | .ok (.ret v) => Q v s' | .ok _ => False | .error e => E e s') s := by
  refine codeAny_call_function hroom (S.kin _ _ ho) rfl hco hgen rfl (codeRec_of S.kin hcd) (hbind _ _ _ _ ?_)
  refine wpAny_newFunctionEnv_cells hk (kinds_of hkind _) fun env' he s' x => ?_
  subst he
  refine ⟨S.glb.lim.keeps x.toInCall.keep, codeAny_func ?_⟩
  have hx : St w ⟨s, wr.as, own.as ++ e.hid⟩ Γ (fr s.heap.objs.size ++ wr) s' := by
    obtain ⟨h₁, tk, rfl, _⟩ := x.done
    have hcell : ∀ n c, (n, c) ∈ cellsFrom (s.heap.objs.size + 1) scope.names [] → h₁.IsCell c (bindC (envOfC qual scope s.heap.objs.size f cdv).kindOf binds (fun _ => none) n) ∧ s.heap.objs.size < c :=
      fun n c hm => ⟨x.cell n c (lookup_of_mem_nodup (cellsFrom_names scope.names 0 (s.heap.objs.size + 1) [] [] rfl ▸ hnd) hm), x.above n c hm⟩
    refine S.enter (s' := { s with heap := h₁, toks := tk }) x.toInCall.keep (fun q hq => ?_) ?_ hwr
    · rw [hfr] at hq
      rcases List.mem_cons.mp hq with rfl | hq
      · exact ⟨get_ge (Nat.le_refl _), let ⟨o, es, ep, a, b, c, d⟩ := x.toInCall.ns; ⟨o, a, es, ep, b, c, d⟩⟩
      · obtain ⟨⟨n, c⟩, hc, rfl⟩ := List.mem_map.mp hq
        obtain ⟨⟨o, h1, h2⟩, h3⟩ := hcell n c hc
        exact ⟨get_ge (Nat.le_of_lt h3), o, h1, h2⟩
    · rw [hfr, Own.as, List.map_cons, List.map_map]
      refine List.nodup_cons.mpr ⟨fun hm => ?_, ?_⟩
      · obtain ⟨⟨n, c⟩, hc, hcc⟩ := List.mem_map.mp hm
        have := (hcell n c hc).2
        have hcc' : c = s.heap.objs.size := hcc
        rw [hcc'] at this
        exact Nat.lt_irrefl _ this
      · exact List.pairwise_map.mpr x.apart
  refine wpAny_mono (h s.heap.objs.size s' hx) (fun fl s' hl => ?_) fun _ _ y => y.elim
  cases fl <;> exact hl

theorem call0 {fr : Addr → Own} {K : Heap → Value → Prop} (S : St w e Γ own s) (hroom : A.depth < recursionLimit)
    (ho : (KF w).lookup f = some ⟨oc, od, .func (fnX name qual params body scope [] dV kV doc pm an cdv ct), osl⟩) (hcd : codeIn (KF w) cdv qual = true)
    (hbind : BindsTo s (fnX name qual params body scope [] dV kV doc pm an cdv ct) ⟨args, []⟩ binds)
    (hkind : kindsOk scope binds = true)
    (hnd : ((cellsFrom 0 scope.names []).map (·.1)).Nodup)
    (hfr : ∀ L, fr L = (L, NsO (bindL (envOfC qual scope L f cdv).kindOf binds fun _ => none)) :: cellOwn (bindC (envOfC qual scope L f cdv).kindOf binds fun _ => none) (cellsFrom (L + 1) scope.names []))
    (hQ : ∀ Γ' s' v, St w e Γ' own s' → Sub Γ Γ' → K Γ' v → Q v s')
    (h : ∀ (e' : Ent), e'.W = [] → ∀ L s₂, St w e' Γ (fr L) s₂ →
      wpAny (model pg w) (A.deeper (envOfC qual scope L f cdv)) (execs body (envOfC qual scope L f cdv))
        (fun fl s' => ∃ Γ' own₂, St w e' Γ' own₂ s' ∧ Sub Γ Γ' ∧ K Γ' (retV fl)) (fun _ _ => False) s₂)
    (hco : scope.isCoroutine = false := by rfl) (hgen : scope.isGenerator = false := by rfl) (hk : scope.kind = .function := by rfl) :
    wpAny (model pg w) A (call (.ref f) args) Q E s := by
  refine wpAny_call (call_core (wr := []) (fr := fr) S hroom ho hcd hbind hkind hnd (List.nil_sublist _) hfr (fun L s₂ S₂ => ?_) hco hgen hk)
  rw [List.append_nil] at S₂
  refine wpAny_mono (h _ rfl L s₂ S₂) (fun fl s' hl => ?_) fun _ _ y => y
  obtain ⟨Γ', own₂, h1, h2, h3⟩ := hl
  exact hQ Γ' s' _ (S.leave0 rfl h1) h2 h3

theorem Up.single {own own' : Own} (U : Up p P P' own own') : [(p, P)].Sublist own := by
  induction U with
  | head => exact List.Sublist.cons_cons _ (List.nil_sublist _)
  | tail _ ih => exact ih.cons _

theorem code1 {fr : Addr → Own} {K : Heap → Value → Prop} {R : Result → Shared → Prop} (S : St w e Γ own s) (U : Up p P P' own own') (hroom : A.depth < recursionLimit)
    (ho : (KF w).lookup f = some ⟨oc, od, .func (fnX name qual params body scope [] dV kV doc pm an cdv ct), osl⟩) (hcd : codeIn (KF w) cdv qual = true)
    (hbind : BindsTo s (fnX name qual params body scope [] dV kV doc pm an cdv ct) ⟨args, []⟩ binds)
    (hkind : kindsOk scope binds = true)
    (hnd : ((cellsFrom 0 scope.names []).map (·.1)).Nodup)
    (hfr : ∀ L, fr L = ((L, NsO (bindL (envOfC qual scope L f cdv).kindOf binds fun _ => none)) :: cellOwn (bindC (envOfC qual scope L f cdv).kindOf binds fun _ => none) (cellsFrom (L + 1) scope.names [])) ++ [(p, P)])
    (hQ : ∀ Γ' s' v, St w e Γ' own' s' → Sub Γ Γ' → K Γ' v → R (.ok (.ret v)) s')
    (h : ∀ (e' : Ent), e'.W = [p] → ∀ L s₂, St w e' Γ (fr L) s₂ →
      wpAny (model pg w) (A.deeper (envOfC qual scope L f cdv)) (execs body (envOfC qual scope L f cdv))
        (fun fl s' => ∃ Γ' own₂, St w e' Γ' own₂ s' ∧ (p, P') ∈ own₂ ∧ Sub Γ Γ' ∧ K Γ' (retV fl)) (fun _ _ => False) s₂)
    (hco : scope.isCoroutine = false := by rfl) (hgen : scope.isGenerator = false := by rfl) (hk : scope.kind = .function := by rfl) :
    codeAny (model pg w) A (.call (.ref f) ⟨args, []⟩) R s := by
  refine codeAny_mono (R := fun r s' => match r with | .ok (.ret v) => R (.ok (.ret v)) s' | .ok _ => False | .error e => False) ?_ fun r s' h => by
    rcases r with e | (v | _ | _ | _) <;> first | exact h | exact h.elim
  refine call_core (Q := fun v s' => R (.ok (.ret v)) s') (E := fun _ _ => False) (wr := [(p, P)]) (fr := fun L => (L, NsO (bindL (envOfC qual scope L f cdv).kindOf binds fun _ => none)) :: cellOwn (bindC (envOfC qual scope L f cdv).kindOf binds fun _ => none) (cellsFrom (L + 1) scope.names [])) S hroom ho hcd hbind hkind hnd U.single (fun _ => rfl) (fun L s₂ S₂ => ?_) hco hgen hk
  rw [← hfr] at S₂
  refine wpAny_mono (h _ rfl L s₂ S₂) (fun fl s' hl => ?_) fun _ _ y => y
  obtain ⟨Γ', own₂, h1, hm, h2, h3⟩ := hl
  exact hQ Γ' s' _ (S.leave1 U h1 hm) h2 h3
theorem call1 {fr : Addr → Own} {K : Heap → Value → Prop} (S : St w e Γ own s) (U : Up p P P' own own') (hroom : A.depth < recursionLimit)
    (ho : (KF w).lookup f = some ⟨oc, od, .func (fnX name qual params body scope [] dV kV doc pm an cdv ct), osl⟩) (hcd : codeIn (KF w) cdv qual = true)
    (hbind : BindsTo s (fnX name qual params body scope [] dV kV doc pm an cdv ct) ⟨args, []⟩ binds)
    (hkind : kindsOk scope binds = true)
    (hnd : ((cellsFrom 0 scope.names []).map (·.1)).Nodup)
    (hfr : ∀ L, fr L = ((L, NsO (bindL (envOfC qual scope L f cdv).kindOf binds fun _ => none)) :: cellOwn (bindC (envOfC qual scope L f cdv).kindOf binds fun _ => none) (cellsFrom (L + 1) scope.names [])) ++ [(p, P)])
    (hQ : ∀ Γ' s' v, St w e Γ' own' s' → Sub Γ Γ' → K Γ' v → Q v s')
    (h : ∀ (e' : Ent), e'.W = [p] → ∀ L s₂, St w e' Γ (fr L) s₂ →
      wpAny (model pg w) (A.deeper (envOfC qual scope L f cdv)) (execs body (envOfC qual scope L f cdv))
        (fun fl s' => ∃ Γ' own₂, St w e' Γ' own₂ s' ∧ (p, P') ∈ own₂ ∧ Sub Γ Γ' ∧ K Γ' (retV fl)) (fun _ _ => False) s₂)
    (hco : scope.isCoroutine = false := by rfl) (hgen : scope.isGenerator = false := by rfl) (hk : scope.kind = .function := by rfl) :
    wpAny (model pg w) A (call (.ref f) args) Q E s :=
  wpAny_call (code1 (K := K) S U hroom ho hcd hbind hkind hnd hfr (fun Γ' s' v a b c => hQ Γ' s' v a b c) h hco hgen hk)
end


theorem NsO.ns {h : Heap} {a : Addr} {m : Str → Option Value} : (∃ o, h.get? a = some o ∧ NsO m o) → h.Ns a m :=
  fun ⟨o, a, es, ep, b, c, d⟩ => ⟨o, es, ep, a, b, c, d⟩
theorem NsO.of {h : Heap} {a : Addr} {m : Str → Option Value} : h.Ns a m → ∃ o, h.get? a = some o ∧ NsO m o :=
  fun ⟨o, es, ep, a, b, c, d⟩ => ⟨o, a, es, ep, b, c, d⟩

section
variable {w : World} {e : Ent} {Γ : Heap} {s : Shared} {own own' : Own} {A : Around} {E : Value → Shared → Prop} {env : Env} {m : Str → Option Value} {x : Str} {pos : Pos} {v : Value}

/-! names -/
theorem r_local {Q : Value → Shared → Prop} (S : St w e Γ own s) (hm : (env.locals, NsO m) ∈ own) (hv : m x = some v) (h : Q v s)
    (hk : env.scope.kind = .function := by rfl) (hl : env.kindOf x = some .local := by rfl) (hd : (x == ("__debug__" : Str)) = false := by decide) :
    wpAny (model pg w) A (eval (.Name x pos) env) Q E s :=
  wpAny_Name (wpAny_loadName_local hk hl (NsO.ns (S.has _ hm)) hv h) hd
theorem r_cell {Q : Value → Shared → Prop} {c : Addr} (S : St w e Γ own s) (hc : env.cells.lookup x = some c) (hm : (c, CellO (some v)) ∈ own) (h : Q v s)
    (hk : env.scope.kind = .function := by rfl) (hl : env.kindOf x = some .cell := by rfl) (hd : (x == ("__debug__" : Str)) = false := by decide) :
    wpAny (model pg w) A (eval (.Name x pos) env) Q E s :=
  wpAny_Name (wpAny_loadName_cell hk hl hc (S.has _ hm) h) hd
theorem r_glob {Q : Value → Shared → Prop} (S : St w e Γ own s) (he : nsIn (KF w) mainGlobals x = some (some v)) (h : Q v s) (hg : env.globals = mainGlobals := by rfl)
    (hk : env.scope.kind = .function := by rfl) (hl : env.kindOf x = some .globalImplicit := by rfl) (hd : (x == ("__debug__" : Str)) = false := by decide) :
    wpAny (model pg w) A (eval (.Name x pos) env) Q E s := by
  obtain ⟨mg, g⟩ := S.glb.glob
  exact Name_function_global hk hl (loadGlobal_global (hg ▸ g) (mg_of S.kin g he) h) hd
theorem r_blt {Q : Value → Shared → Prop} (S : St w e Γ own s) (he : nsIn (KF w) mainGlobals x = some none) (hv : bootBuiltins x = some v) (h : Q v s) (hn : x ≠ "__name__" := by decide) (hg : env.globals = mainGlobals := by rfl) (hb : env.builtins = builtinsNs := by rfl)
    (hk : env.scope.kind = .function := by rfl) (hl : env.kindOf x = some .globalImplicit := by rfl) (hd : (x == ("__debug__" : Str)) = false := by decide) :
    wpAny (model pg w) A (eval (.Name x pos) env) Q E s := by
  obtain ⟨mg, g⟩ := S.glb.glob
  obtain ⟨mb, b, bb⟩ := S.glb.blt
  exact Name_function_global hk hl (loadGlobal_builtin (hg ▸ g) (mg_none_of S.kin g he) (hb ▸ b) ((bb x hn).trans hv) h) hd
theorem r_store {Q : Unit → Shared → Prop} {L : Addr} (S : St w e Γ own s) (U : Up L (NsO m) (NsO (upd m x v)) own own')
    (h : ∀ s', St w e Γ own' s' → Q () s') (hL : env.locals = L := by rfl) (hl : env.kindOf x = some .local := by rfl)
    (hp : (env.scope.kind == .class || (env.scope.kind == .module && env.locals != env.globals)) = false := by rfl) : wpAny (model pg w) A (storeName env x v) Q E s := by
  subst hL
  exact wpAny_storeName_local hl (NsO.ns (S.has _ U.mem)) (fun h' hn hs => h _ (S.updS U hs (NsO.of hn))) hp
theorem r_storeC {Q : Unit → Shared → Prop} {c : Addr} {v₀ : Option Value} (S : St w e Γ own s) (hc : env.cells.lookup x = some c) (U : Up c (CellO v₀) (CellO (some v)) own own')
    (h : ∀ s', St w e Γ own' s' → Q () s') (hk : env.scope.kind = .function := by rfl) (hl : env.kindOf x = some .cell := by rfl) : wpAny (model pg w) A (storeName env x v) Q E s :=
  wpAny_storeName_cell hk hl hc (S.has _ U.mem) (fun h' hn hs => h _ (S.updS U hs hn))

/-! constants -/
theorem r_int {Q : Value → Shared → Prop} {i : Int} {k : Nat} (S : St w e Γ own s) (h : ∀ s' t, St w e Γ own s' → Q (.int i t) s') :
    wpAny (model pg w) A (eval (.Constant (.int i) k pos) env) Q E s := wpAny_Constant_int (h _ _ S.tok)
theorem r_bool {Q : Value → Shared → Prop} {b : Bool} {k : Nat} (h : Q (.bool b) s) :
    wpAny (model pg w) A (eval (.Constant (.bool b) k pos) env) Q E s := Constant_bool h
theorem r_none {Q : Value → Shared → Prop} {k : Nat} (h : Q .none s) :
    wpAny (model pg w) A (eval (.Constant .none k pos) env) Q E s := Constant_none h

/-! ints -/
variable {a b : Int} {t u : Tok}
theorem r_add {Q : Value → Shared → Prop} (S : St w e Γ own s) (h : ∀ s' t', St w e Γ own s' → Q (.int (a + b) t') s') : wpAny (model pg w) A (binaryOp .Add (.int a t) (.int b u)) Q E s := wpAny_add_int (h _ _ S.tok)
theorem r_sub {Q : Value → Shared → Prop} (S : St w e Γ own s) (h : ∀ s' t', St w e Γ own s' → Q (.int (a - b) t') s') : wpAny (model pg w) A (binaryOp .Sub (.int a t) (.int b u)) Q E s := sub_int' (h _ _ S.tok)
theorem r_mod {Q : Value → Shared → Prop} (S : St w e Γ own s) (hb : 0 < b) (h : ∀ s' t', St w e Γ own s' → Q (.int (a % b) t') s') : wpAny (model pg w) A (binaryOp .Mod (.int a t) (.int b u)) Q E s := by
  refine mod_int' (by omega) ?_
  rw [Int.fmod_eq_emod_of_nonneg a (by omega)]
  exact h _ _ S.tok
theorem r_div {Q : Value → Shared → Prop} (S : St w e Γ own s) (hb : 0 < b) (hs : b < 1000) (h : ∀ s' t', St w e Γ own s' → Q (.int (a / b) t') s') : wpAny (model pg w) A (binaryOp .FloorDiv (.int a t) (.int b u)) Q E s := by
  refine floordiv_int (by omega) ?_ (.inl (PyProof.noPylong_small (by omega)))
  rw [Int.fdiv_eq_ediv_of_nonneg a (by omega)]
  exact h _ _ S.tok
theorem r_mul {Q : Value → Shared → Prop} (S : St w e Γ own s) (ha : a.natAbs < 2 ^ 64) (h : ∀ s' t', St w e Γ own s' → Q (.int (a * b) t') s') : wpAny (model pg w) A (binaryOp .Mult (.int a t) (.int b u)) Q E s :=
  P.mul_int (h _ _ S.tok) (IntMulOk.of_left (intBits_le_64 (by omega) (by omega)))
theorem r_pow {Q : Value → Shared → Prop} (S : St w e Γ own s) (hb : 0 ≤ b) (hb' : b ≤ 1000000) (ha : a.natAbs < 2 ^ 64) (h : ∀ s' t', St w e Γ own s' → Q (.int (a ^ b.toNat) t') s') : wpAny (model pg w) A (binaryOp .Pow (.int a t) (.int b u)) Q E s :=
  pow_int_small hb hb' ha (h _ _ S.tok)
theorem r_lt {Q : Value → Shared → Prop} (h : Q (.bool (decide (a < b))) s) : wpAny (model pg w) A (compareOp .Lt (.int a t) (.int b u)) Q E s := P.lt_int h
theorem r_gt {Q : Value → Shared → Prop} (h : Q (.bool (decide (a > b))) s) : wpAny (model pg w) A (compareOp .Gt (.int a t) (.int b u)) Q E s := P.gt_int h
theorem r_ge {Q : Value → Shared → Prop} (h : Q (.bool (decide (a ≥ b))) s) : wpAny (model pg w) A (compareOp .GtE (.int a t) (.int b u)) Q E s := P.ge_int h
theorem r_eq {Q : Value → Shared → Prop} (h : Q (.bool (decide (a = b))) s) : wpAny (model pg w) A (compareOp .Eq (.int a t) (.int b u)) Q E s := P.eq_int (by
  rw [show (a == b) = decide (a = b) from rfl]; exact h)
theorem r_ne {Q : Value → Shared → Prop} (h : Q (.bool (decide (a ≠ b))) s) : wpAny (model pg w) A (compareOp .NotEq (.int a t) (.int b u)) Q E s := P.ne_int (by
  rw [show (a != b) = decide (a ≠ b) by simp [bne, BEq.beq]]; exact h)
theorem r_abs {Q : Value → Shared → Prop} (S : St w e Γ own s) (h : ∀ s' t', St w e Γ own s' → Q (.int (a.natAbs : Int) t') s') : wpAny (model pg w) A (call (.builtin "abs") [.int a t]) Q E s :=
  call_abs_int fun u tk => by
    have : (if a < 0 then -a else a) = (a.natAbs : Int) := by split <;> omega
    rw [this]; exact h _ _ S.tok
theorem r_intint {Q : Value → Shared → Prop} (S : St w e Γ own s) (h : ∀ s' t', St w e Γ own s' → Q (.int a t') s') : wpAny (model pg w) A (call (.type "int") [.int a t]) Q E s := call_int_int (h _ _ S)
end

/-! lists, tuples -/
def LO (vs : List Value) (o : Obj) : Prop := o.cls = .type "list" ∧ ∃ n, o.data = .seq vs.toArray n
def LP (vs : List Value) (o : Obj) : Prop := ∃ n, o = { cls := .type "list", data := .seq vs.toArray n }
def TP (vs : List Value) (o : Obj) : Prop := ∃ n, o = { cls := .type "tuple", data := .seq vs.toArray n }
theorem LP.lo {vs : List Value} {o : Obj} (h : LP vs o) : LO vs o := by obtain ⟨n, rfl⟩ := h; exact ⟨rfl, n, rfl⟩
def At (Γ : Heap) (a : Addr) (P : Obj → Prop) : Prop := ∃ o, Γ.get? a = some o ∧ P o
theorem At.mono {Γ Γ' : Heap} {a : Addr} {P : Obj → Prop} (h : At Γ a P) (k : Sub Γ Γ') : At Γ' a P := let ⟨o, h1, h2⟩ := h; ⟨o, k _ _ h1, h2⟩
theorem At.weak {Γ : Heap} {a : Addr} {P P' : Obj → Prop} (h : At Γ a P) (k : ∀ o, P o → P' o) : At Γ a P' := let ⟨o, h1, h2⟩ := h; ⟨o, h1, k _ h2⟩
abbrev IsLst (Γ : Heap) (a : Addr) (vs : List Value) : Prop := At Γ a (LP vs)
abbrev IsTpl (Γ : Heap) (a : Addr) (vs : List Value) : Prop := At Γ a (TP vs)
theorem LO.list {h : Heap} {a : Addr} {vs : List Value} (x : At h a (LO vs)) : h.IsList a vs.toArray := let ⟨o, h1, h2, h3⟩ := x; ⟨o, h1, h2, h3⟩
theorem LO.of {h : Heap} {a : Addr} {xs : Array Value} (x : h.IsList a xs) : At h a (LO xs.toList) := let ⟨o, h1, h2, n, h3⟩ := x; ⟨o, h1, h2, n, h3⟩
theorem LP.list {h : Heap} {a : Addr} {vs : List Value} (x : IsLst h a vs) : h.IsList a vs.toArray := LO.list (x.weak fun _ => LP.lo)
theorem LP.isL {h : Heap} {a : Addr} {vs : List Value} (x : IsLst h a vs) : ∃ n, IsL h a vs.toArray n := let ⟨_, h1, n, h2⟩ := x; ⟨n, h1.trans (congrArg some h2)⟩
theorem TP.isT {h : Heap} {a : Addr} {vs : List Value} (x : IsTpl h a vs) : ∃ n, IsT h a vs.toArray n := let ⟨_, h1, n, h2⟩ := x; ⟨n, h1.trans (congrArg some h2)⟩
theorem TP.tup {h : Heap} {a : Addr} {vs : List Value} (x : IsTpl h a vs) : h.IsTuple a vs.toArray := let ⟨_, h1, n, h2⟩ := x; ⟨_, h1, by rw [h2], n, by rw [h2]⟩

section
variable {w : World} {e : Ent} {Γ : Heap} {s : Shared} {own own' : Own} {A : Around} {E : Value → Shared → Prop} {env : Env} {m : Str → Option Value} {x : Str} {pos : Pos} {v : Value} {k : Int} {u : Tok} {l : Addr} {vs : List Value}
theorem St.at (S : St w e Γ own s) {P : Obj → Prop} (h : At Γ l P) : At s.heap l P := h.mono S.see
theorem St.at' (S : St w e Γ own s) {P : Obj → Prop} (h : (l, P) ∈ own) : At s.heap l P := S.has _ h

theorem r_item {value slice : Expr} {Q : Value → Shared → Prop} (hl : At s.heap l (LO vs)) (h0 : 0 ≤ k) (hb : k < 2 ^ 63) (hx : vs[k.toNat]? = some v) (h : Q v s)
    (hs : subscripted slice false (.ref l) (.int k u) = operate [.ref l, .int k u] (getItem (.ref l) (.int k u)) := by with_unfolding_all rfl) :
    wpAny (model pg w) A (subscriptTail value slice (.ref l) (.int k u)) Q E s :=
  tail_any (LO.list hl).typeIs slot_list_getitem.lookup (wpAny_getItem_list (LO.list hl) h0 hb (by simpa using hx) h) hs
theorem r_len {Q : Value → Shared → Prop} (S : St w e Γ own s) (hl : At s.heap l (LO vs)) (hz : vs.length < 2 ^ 62) (h : ∀ s' t', St w e Γ own s' → Q (.int (vs.length : Nat) t') s') :
    wpAny (model pg w) A (call (.builtin "len") [.ref l]) Q E s :=
  Calls.call_len_list (LO.list hl) (by simp only [List.size_toArray]; omega) (by simp only [List.size_toArray]; exact h _ _ S.tok)
theorem r_setItem {Q : Unit → Shared → Prop} (S : St w e Γ own s) (U : Up l (LO vs) (LO (vs.set k.toNat v)) own own') (h0 : 0 ≤ k) (hb : k < 2 ^ 63) (hk : k.toNat < vs.length)
    (h : ∀ s', St w e Γ own' s' → Q () s') : wpAny (model pg w) A (setItem (.ref l) (.int k u) v) Q E s :=
  wpAny_setItem_list (LO.list (S.at' U.mem)) h0 hb (by simp only [List.size_toArray]; omega) fun h' hl hs => h _ (S.updS U hs (by
    have := LO.of hl
    rwa [show (vs.toArray.setIfInBounds k.toNat v).toList = vs.set k.toNat v by simp] at this))
end

theorem r_ite {c : Prop} [Decidable c] {P Q : Prop} (h1 : c → P) (h2 : ¬ c → Q) : if decide c = true then P else Q := by
  by_cases h : c
  · rw [if_pos (decide_eq_true h)]; exact h1 h
  · rw [if_neg (by simp [h])]; exact h2 h
theorem r_tt {P Q : Prop} (h : P) : if true = true then P else Q := by rw [if_pos rfl]; exact h
theorem r_ff {P Q : Prop} (h : Q) : if false = true then P else Q := by rw [if_neg (by decide)]; exact h
theorem r_join {α : Type} {M : Model} {A : Around} {t : Sem α} {R Q : α → Shared → Prop} {E : Value → Shared → Prop} {s : Shared} (h : wpAny M A t R E s) (hQ : ∀ a s, R a s → Q a s) : wpAny M A t Q E s :=
  wpAny_mono h hQ fun _ _ h => h
theorem le_line {n : Nat} (h : n ≤ 1000) : n ≤ sizeLine := by rw [sizeLine_eq]; omega

section
variable {w : World} {e : Ent} {Γ : Heap} {s : Shared} {own own' : Own} {A : Around} {E : Value → Shared → Prop} {env : Env} {vs us : List Value} {o : Obj} {a b : Addr} {ns ms : List Int}
/-- a new thing, and it stands still -/
theorem St.alloc (S : St w e Γ own s) (hf : o.isFreed = false) : ∃ Γ', St w e Γ' own { s with heap := s.heap.push o } ∧ Sub Γ Γ' ∧ Γ'.get? s.heap.objs.size = some o := by
  obtain ⟨Γ', h1, h2, h3⟩ := S.still (s' := { s with heap := s.heap.push o }) (fun _ _ e => Heap.get?_push_of_some _ e)
  exact ⟨Γ', h1, h2, h3 _ _ (get_ge (Nat.le_refl _)) (Heap.get?_push_size _ hf)⟩
theorem St.allocO {P : Obj → Prop} (S : St w e Γ own s) (hf : o.isFreed = false) (hP : P o) : St w e Γ ((s.heap.objs.size, P) :: own) { s with heap := s.heap.push o } :=
  S.more (fun _ _ e => Heap.get?_push_of_some _ e) (get_ge (Nat.le_refl _)) ⟨o, Heap.get?_push_size _ hf, hP⟩
theorem r_newList {Q : Value → Shared → Prop} (S : St w e Γ own s) (hz : vs.length ≤ 1000) (h : ∀ Γ' s' a, St w e Γ' own s' → Sub Γ Γ' → IsLst Γ' a vs → Q (.ref a) s') : wpAny (model pg w) A (newList vs) Q E s := by
  obtain ⟨Γ', h1, h2, h3⟩ := S.alloc (o := { cls := .type "list", data := .seq vs.toArray }) rfl
  exact wpAny_newList (h _ _ _ h1 h2 ⟨_, h3, _, rfl⟩) (le_line hz)
theorem r_newListO {Q : Value → Shared → Prop} (S : St w e Γ own s) (hz : vs.length ≤ 1000) (h : ∀ s' a, St w e Γ ((a, LP vs) :: own) s' → Q (.ref a) s') : wpAny (model pg w) A (newList vs) Q E s :=
  wpAny_newList (h _ _ (S.allocO rfl ⟨_, rfl⟩)) (le_line hz)
theorem r_newTuple {Q : Value → Shared → Prop} (S : St w e Γ own s) (hz : vs.length ≤ 1000) (h : ∀ Γ' s' a, St w e Γ' own s' → Sub Γ Γ' → IsTpl Γ' a vs → Q (.ref a) s') : wpAny (model pg w) A (newTuple vs) Q E s := by
  obtain ⟨Γ', h1, h2, h3⟩ := S.alloc (o := { cls := .type "tuple", data := .seq vs.toArray }) rfl
  exact wpAny_newTuple (h _ _ _ h1 h2 ⟨_, h3, _, rfl⟩) (le_line hz)
theorem r_neInts {Q : Value → Shared → Prop} (ha : At s.heap a (LO vs)) (hb : At s.heap b (LO us)) (hi : IntsAre vs ns) (hj : IntsAre us ms) (R : Room A 0) (h : Q (.bool (decide (ns ≠ ms))) s) :
    wpAny (model pg w) A (compareOp .NotEq (.ref a) (.ref b)) Q E s :=
  ne_intsK (LO.list ha) hi (LO.list hb) hj (by have := R.un; omega) (by rw [← decide_not]; exact h)
end


/-! names, the kind first -/
theorem m0_at {x : Str} : m0 x = none := rfl
section
variable {w : World} {e : Ent} {Γ : Heap} {s : Shared} {own own' : Own} {A : Around} {E : Value → Shared → Prop} {env : Env} {m : Str → Option Value} {x : Str} {pos : Pos} {v : Value}
theorem q_local {Q : Value → Shared → Prop} (hl : env.kindOf x = some .local) (S : St w e Γ own s) (hm : (env.locals, NsO m) ∈ own) (hv : m x = some v) (h : Q v s)
    (hk : env.scope.kind = .function := by kernel_rfl!) (hd : (x == ("__debug__" : Str)) = false := by kernel_rfl!) : wpAny (model pg w) A (eval (.Name x pos) env) Q E s :=
  r_local S hm hv h hk hl hd
theorem q_cell {Q : Value → Shared → Prop} {c : Addr} (hl : env.kindOf x = some .cell) (S : St w e Γ own s) (hc : env.cells.lookup x = some c) (hm : (c, CellO (some v)) ∈ own) (h : Q v s)
    (hk : env.scope.kind = .function := by kernel_rfl!) (hd : (x == ("__debug__" : Str)) = false := by kernel_rfl!) : wpAny (model pg w) A (eval (.Name x pos) env) Q E s :=
  r_cell S hc hm h hk hl hd
theorem q_glob {Q : Value → Shared → Prop} (he : nsIn (KF w) mainGlobals x = some (some v)) (S : St w e Γ own s) (h : Q v s) (hg : env.globals = mainGlobals := by kernel_rfl!)
    (hk : env.scope.kind = .function := by kernel_rfl!) (hl : env.kindOf x = some .globalImplicit := by kernel_rfl!) (hd : (x == ("__debug__" : Str)) = false := by kernel_rfl!) :
    wpAny (model pg w) A (eval (.Name x pos) env) Q E s := r_glob S he h hg hk hl hd
theorem q_blt {Q : Value → Shared → Prop} (hv : bootBuiltins x = some v) (he : nsIn (KF w) mainGlobals x = some none) (S : St w e Γ own s) (h : Q v s) (hn : x ≠ "__name__" := by decide +kernel) (hg : env.globals = mainGlobals := by kernel_rfl!) (hb : env.builtins = builtinsNs := by kernel_rfl!)
    (hk : env.scope.kind = .function := by kernel_rfl!) (hl : env.kindOf x = some .globalImplicit := by kernel_rfl!) (hd : (x == ("__debug__" : Str)) = false := by kernel_rfl!) :
    wpAny (model pg w) A (eval (.Name x pos) env) Q E s := r_blt S he hv h hn hg hb hk hl hd
theorem q_store {Q : Unit → Shared → Prop} {L : Addr} (hl : env.kindOf x = some .local) (S : St w e Γ own s) (U : Up L (NsO m) (NsO (upd m x v)) own own')
    (h : ∀ s', St w e Γ own' s' → Q () s') (hL : env.locals = L := by kernel_rfl!)
    (hp : (env.scope.kind == .class || (env.scope.kind == .module && env.locals != env.globals)) = false := by kernel_rfl!) : wpAny (model pg w) A (storeName env x v) Q E s := r_store S U h hL hl hp
theorem q_storeC {Q : Unit → Shared → Prop} {c : Addr} {v₀ : Option Value} (hl : env.kindOf x = some .cell) (S : St w e Γ own s) (hc : env.cells.lookup x = some c) (U : Up c (CellO v₀) (CellO (some v)) own own')
    (h : ∀ s', St w e Γ own' s' → Q () s') (hk : env.scope.kind = .function := by kernel_rfl!) : wpAny (model pg w) A (storeName env x v) Q E s := r_storeC S hc U h hk hl
end
theorem g0 {w : World} : nsIn (KF w) mainGlobals "BY_CLASSES" = some (some (.int 2 253)) := by kernel_rfl
theorem g1 {w : World} : nsIn (KF w) mainGlobals "Coverage" = some (some (.ref 59)) := by kernel_rfl
theorem g2 {w : World} : nsIn (KF w) mainGlobals "Rule" = some (some (.ref 94)) := by kernel_rfl
theorem g3 {w : World} : nsIn (KF w) mainGlobals "Contexts" = some (some (.ref 135)) := by kernel_rfl
theorem g4 {w : World} : nsIn (KF w) mainGlobals "told_row" = some (some (.ref 144)) := by kernel_rfl
theorem g5 {w : World} : nsIn (KF w) mainGlobals "lookups_of" = some (some (.ref 151)) := by kernel_rfl
theorem g6 {w : World} : nsIn (KF w) mainGlobals "with_lookups" = some (some (.ref 156)) := by kernel_rfl
theorem g7 {w : World} : nsIn (KF w) mainGlobals "ClassDef" = some (some (.ref 199)) := by kernel_rfl
theorem g8 {w : World} : nsIn (KF w) mainGlobals "_law_pen" = some (some (.ref 208)) := by kernel_rfl
theorem g9 {w : World} : nsIn (KF w) mainGlobals "_law_draw" = some (some (.ref 215)) := by kernel_rfl
theorem g10 {w : World} : nsIn (KF w) mainGlobals "_law_glyphs" = some (some (.ref 220)) := by kernel_rfl
theorem g11 {w : World} : nsIn (KF w) mainGlobals "_law_classes" = some (some (.ref 225)) := by kernel_rfl
theorem g12 {w : World} : nsIn (KF w) mainGlobals "_law_part" = some (some (.ref 232)) := by kernel_rfl
theorem g13 {w : World} : nsIn (KF w) mainGlobals "_law_rule" = some (some (.ref 237)) := by kernel_rfl
theorem g14 {w : World} : nsIn (KF w) mainGlobals "_law_table" = some (some (.ref 244)) := by kernel_rfl
theorem g15 {w : World} : nsIn (KF w) mainGlobals "_law_dict" = some (some (.ref 249)) := by kernel_rfl



local macro_rules | `(tactic| walk_at "clr") => `(tactic| repeat ((with_reducible rename St _ _ _ _ _ => hhSt); clear hhSt))
local macro_rules | `(tactic| walk_at "mm") => `(tactic| ((repeat (first | exact List.Mem.head _ | refine List.Mem.tail _ ?_)); done))
local macro_rules | `(tactic| walk_at "up") => `(tactic| first | exact Up.head | (apply Up.tail; walk_at "up"))
local macro_rules | `(tactic| walk_at "lk") => `(tactic| ((repeat (first | with_reducible exact upd_same | with_reducible assumption | with_reducible refine (upd_ne (by decide +kernel)).trans ?_ | exact m0_at | assumption | exact rfl)); done))
local macro_rules | `(tactic| walk_at "sub") => `(tactic| first | exact Sub.rfl' | assumption | exact Sub.trans (by assumption) (by walk_at "sub"))
local macro_rules | `(tactic| walk_at "gl") => `(tactic| with_reducible first | exact g0 | exact g1 | exact g2 | exact g3 | exact g4 | exact g5 | exact g6 | exact g7 | exact g8 | exact g9 | exact g10 | exact g11 | exact g12 | exact g13 | exact g14 | exact g15)
local macro_rules | `(tactic| walk_at "bl") => `(tactic| with_reducible first | exact PyProof.Rows.Boot.«int» | exact PyProof.Rows.Boot.«len» | exact PyProof.Rows.Boot.«tuple» | exact PyProof.Rows.Boot.«range» | exact PyProof.Rows.Boot.«sorted» | exact PyProof.Rows.Boot.«dict» | exact PyProof.Rows.Boot.«set» | exact PyProof.Rows.Boot.«abs» | exact PyProof.Rows.Boot.«isinstance» | exact PyProof.Rows.Boot.«list»)
local macro_rules | `(tactic| walk_at "ev") => `(tactic| first
  | ((with_reducible show wpAny _ _ (eval (Expr.Name _ _) _) _ _ _); first
    | with_reducible refine q_local (by kernel_rfl!) (by assumption) (by k_dflt (walk_at "mm")) (by k_dflt (walk_at "lk")) ?_
    | with_reducible refine q_cell (by kernel_rfl!) (by assumption) (by k_dflt (exact rfl)) (by k_dflt (walk_at "mm")) ?_
    | with_reducible refine q_glob (by walk_at "gl") (by assumption) ?_
    | with_reducible refine q_blt (by walk_at "bl") (by kernel_rfl!) (by assumption) ?_)
  | ((with_reducible show wpAny _ _ (eval (Expr.Constant (Const.int _) _ _) _) _ _ _); with_reducible refine r_int (by assumption) ?_; walk_at "clr"; intro _ _ _)
  | with_reducible refine Attribute_any_ ?_
  | ((with_reducible show wpAny _ _ (eval (Expr.Call (Expr.Attribute _ _ _) _ _ _) _) _ _ _); with_reducible refine MethodCall_ ?_ (he := by k_dflt (exact rfl)))
  | ((with_reducible show wpAny _ _ (eval (Expr.Call _ _ [] _) _) _ _ _); with_reducible refine Call_ ?_ (he := by k_dflt (exact rfl)))
  | with_reducible refine wpAny_BinOp ?_
  | ((with_reducible show wpAny _ _ (eval (Expr.Subscript _ (Expr.Slice _ _ _ _) _) _) _ _ _); refine wpAny_Subscript_list_slice ?_)
  | with_reducible refine Subscript_ ?_
  | with_reducible refine wpAny_Compare1 ?_
  | with_reducible refine Tuple_ ?_
  | with_reducible refine List_ ?_
  | with_reducible refine IfExp_ ?_
  | with_reducible refine BoolOp_one ?_
  | with_reducible refine BoolOp_and ?_
  | with_reducible refine BoolOp_or ?_
  | with_reducible refine r_bool ?_
  | with_reducible refine r_none ?_
  | with_reducible refine UnaryOp_ ?_)
local macro_rules | `(tactic| walk_at "it") => `(tactic| first
  | with_reducible refine wpAny_isTrue_Compare1 ?_
  | with_reducible refine isTrue_and ?_
  | with_reducible refine isTrue_or ?_
  | with_reducible refine isTrue_and_nil ?_
  | with_reducible refine isTrue_or_nil ?_
  | with_reducible refine isTrue_not ?_
  | ((first | (with_reducible show wpAny _ _ (isTrue (Expr.Name _ _) _ _) _ _ _) | (with_reducible show wpAny _ _ (isTrue (Expr.Attribute _ _ _) _ _) _ _ _) | (with_reducible show wpAny _ _ (isTrue (Expr.Call _ _ _ _) _ _) _ _ _)); with_reducible refine isTrue_plain ?_ (he := by k_dflt (exact rfl))))
local macro_rules | `(tactic| walk_at "cw") => `(tactic| first
  | with_reducible refine PyProof.Rows.callWith_type1 ?_ (he := by k_dflt (exact rfl)) (hplain := by k_dflt (exact rfl))
  | with_reducible refine PyProof.Rows.callWith_type0 ?_
  | with_reducible refine PyProof.Rows.callWith_builtin1 ?_ (he := by k_dflt (exact rfl)) (hplain := by k_dflt (exact rfl))
  | with_reducible refine callWith_method1 ?_ (he := by k_dflt (exact rfl)) (hplain := by k_dflt (exact rfl))
  | with_reducible refine callWith_method0 ?_)
local macro_rules | `(tactic| walk_at "bo") => `(tactic| first
  | ((with_reducible show wpAny _ _ (binaryOp .Add (Value.int _ _) (Value.int _ _)) _ _ _); with_reducible refine r_add (by assumption) ?_; walk_at "clr"; intro _ _ _)
  | ((with_reducible show wpAny _ _ (binaryOp .Sub (Value.int _ _) (Value.int _ _)) _ _ _); with_reducible refine r_sub (by assumption) ?_; walk_at "clr"; intro _ _ _)
  | ((with_reducible show wpAny _ _ (binaryOp .Mod (Value.int _ _) (Value.int _ _)) _ _ _); with_reducible refine r_mod (by assumption) (by omega) ?_; walk_at "clr"; intro _ _ _)
  | ((with_reducible show wpAny _ _ (binaryOp .Mult (Value.int _ _) (Value.int _ _)) _ _ _); with_reducible refine r_mul (by assumption) (by omega) ?_; walk_at "clr"; intro _ _ _)
  | ((with_reducible show wpAny _ _ (binaryOp .FloorDiv (Value.int _ _) (Value.int _ _)) _ _ _); with_reducible refine r_div (by assumption) (by omega) (by omega) ?_; walk_at "clr"; intro _ _ _)
  | ((with_reducible show wpAny _ _ (binaryOp .Pow (Value.int _ _) (Value.int _ _)) _ _ _); with_reducible refine r_pow (by assumption) (by omega) (by omega) (by omega) ?_; walk_at "clr"; intro _ _ _))
local macro_rules | `(tactic| walk_at "fz") => `(tactic| first | assumption | exact At.mono (by assumption) (by walk_at "sub"))
local macro_rules | `(tactic| walk_at "al") => `(tactic| first | with_reducible exact St.at' (by assumption) (by walk_at "mm") | k_dflt (exact At.weak (St.at (by assumption) (by walk_at "fz")) (fun _ => LP.lo)) | k_dflt (exact St.at' (by assumption) (by walk_at "mm")))
local macro_rules | `(tactic| walk_at "w list") => `(tactic| first
  | ((with_reducible show wpAny _ _ (subscriptTail _ _ (Value.ref _) (Value.int _ _)) _ _ _); with_reducible refine r_item (by walk_at "al") (by omega) (by omega) (by k_dflt (exact rfl)) ?_)
  | ((with_reducible show wpAny _ _ (setItem (Value.ref _) (Value.int _ _) _) _ _ _); with_reducible refine r_setItem (by assumption) (by walk_at "up") (by omega) (by omega) (by simp) ?_; walk_at "clr"; intro _ _)
  | ((with_reducible show wpAny _ _ (call (Value.builtin "len") [Value.ref _]) _ _ _); with_reducible refine r_len (by assumption) (by walk_at "al") (by omega) ?_; walk_at "clr"; intro _ _ _))
local macro_rules | `(tactic| walk_at "w") => `(tactic| first
  | ((with_reducible show wpAny _ _ (eval _ _) _ _ _); walk_at "ev")
  | ((with_reducible show wpAny _ _ (spliced (backTo _ (starEach (_ :: _) _))) _ _ _); with_reducible refine args_cons ?_ (he := by k_dflt (exact rfl)))
  | with_reducible refine args_nil ?_
  | with_reducible refine wpAny_execs_cons ?_
  | ((with_reducible show wpAny _ _ (storeName _ _ _) _ _ _); first | (with_reducible refine q_store (by kernel_rfl!) (by assumption) (by walk_at "up") ?_; walk_at "clr"; intro _ _) | (with_reducible refine q_storeC (by kernel_rfl!) (by assumption) (by k_dflt (exact rfl)) (by walk_at "up") ?_; walk_at "clr"; intro _ _))
  | ((with_reducible show wpAny _ _ (exec (Stmt.Assign [Expr.Name _ _] _ _) _) _ _ _); with_reducible refine wpAny_Assign_Name ?_ (hs := by k_dflt (exact rfl)))
  | ((with_reducible show wpAny _ _ (callWith _ _ _ _ _) _ _ _); walk_at "cw")
  | ((with_reducible show wpAny _ _ (isTrue _ _ _) _ _ _); walk_at "it")
  | ((with_reducible show wpAny _ _ (binaryOp _ _ _) _ _ _); walk_at "bo")
  | with_reducible refine wpAny_truthy_bool ?_
  | with_reducible refine r_tt ?_
  | with_reducible refine r_ff ?_
  | with_reducible refine wpAny_Return_some ?_
  | with_reducible refine wpAny_execs_nil ?_
  | ((with_reducible show wpAny _ _ (exec (Stmt.Assign [Expr.Subscript _ _ _] _ _) _) _ _ _); with_reducible refine wpAny_Assign_Subscript ?_ (hs := by k_dflt (exact rfl)))
  | with_reducible refine r_lt ?_
  | with_reducible refine r_gt ?_
  | with_reducible refine r_ge ?_
  | with_reducible refine r_eq ?_
  | with_reducible refine r_ne ?_
  | ((with_reducible show wpAny _ _ (call (Value.builtin "abs") _) _ _ _); with_reducible refine r_abs (by assumption) ?_; walk_at "clr"; intro _ _ _)
  | ((with_reducible show wpAny _ _ (call (Value.type "int") _) _ _ _); with_reducible refine r_intint (by assumption) ?_; walk_at "clr"; intro _ _ _)
  | walk_at "w list")



/-- the pen: a list of the script's copy, the spot, the great -/
def PenO (scr : Addr) (N : Nat) (o : Obj) : Prop :=
  ∃ (spot great : Int) (t₁ t₂ : Tok), LO [.ref scr, .int spot t₁, .int great t₂] o ∧ 0 ≤ spot ∧ spot ≤ N ∧ 0 ≤ great
/-- the script's copy -/
def Scr (Γ : Heap) (scr : Addr) : Prop := ∃ vs ns, IsLst Γ scr vs ∧ IntsAre vs ns ∧ vs.length ≤ 63

theorem St.open_ {w : World} {e : Ent} {Γ : Heap} {s : Shared} {own : Own} {a : Addr} {P : Obj → Prop} (S : St w e Γ own s) (h : (a, P) ∈ own) : ∃ o, s.heap.get? a = some o ∧ P o := S.has _ h

section
variable {w : World} {e : Ent} {Γ : Heap} {s : Shared} {own own' : Own} {A : Around} {E : Value → Shared → Prop} {p scr : Addr}
/-- the pen is opened -/
theorem St.pen {N : Nat} {L : Addr} {m : Str → Option Value} (S : St w e Γ [(L, NsO m), (p, PenO scr N)] s) :
    ∃ (spot great : Int) (t₁ t₂ : Tok), 0 ≤ spot ∧ spot ≤ N ∧ 0 ≤ great ∧ St w e Γ [(L, NsO m), (p, LO [.ref scr, .int spot t₁, .int great t₂])] s := by
  obtain ⟨o, h1, spot, great, t₁, t₂, h2, h3, h4, h5⟩ := S.has _ (.tail _ (.head _))
  exact ⟨spot, great, t₁, t₂, h3, h4, h5, S.upd (.tail .head) (fun _ _ _ h => h) ⟨o, h1, h2⟩⟩

theorem int_at {vs : List Value} {ns : List Int} (h : IntsAre vs ns) {k : Int} (h0 : 0 ≤ k) (hk : k < vs.length) : ∃ c t, vs[k.toNat]? = some (.int c t) := by
  have : ∀ {vs : List Value} {ns : List Int}, IntsAre vs ns → ∀ {k : Nat}, k < vs.length → ∃ c t, vs[k]? = some (.int c t) := by
    intro vs ns h
    induction h with
    | nil => intro k hk; exact absurd hk (Nat.not_lt_zero _)
    | cons n t _ ih =>
      intro k hk
      cases k with
      | zero => exact ⟨_, _, rfl⟩
      | succ k => exact ih (by simpa using hk)
  exact this h (by omega)
theorem pow_bound {x y q : Int} (hx : 0 ≤ x) (hx' : x < 2147483629) (hy : 0 ≤ y) (hy' : y ≤ 13011) (hq : 0 ≤ q) (hq' : q ≤ 17525000000) : (x * y + q + 37).natAbs < 2 ^ 64 := by
  have h1 : 0 ≤ x * y := Int.mul_nonneg hx hy
  have h2 : x * y ≤ 2147483629 * 13011 := Int.mul_le_mul (Int.le_of_lt hx') hy' hy (by decide)
  omega
theorem sq_bound {x : Int} (h0 : 0 ≤ x) (h1 : x ≤ 5000) : 0 ≤ 701 * x * x ∧ 701 * x * x ≤ 17525000000 := by
  have h2 : 0 ≤ x * x := Int.mul_nonneg h0 h0
  have h3 : x * x ≤ 5000 * 5000 := Int.mul_le_mul h1 h1 h0 (by decide)
  rw [Int.mul_assoc]
  omega
set_option maxHeartbeats 2000000 in
theorem c_draw {Q : Value → Shared → Prop} {N : Nat} {many : Int} {tk : Tok}
    (S : St w e Γ own s) (hs : Scr Γ scr) (U : Up p (PenO scr N) (PenO scr (N + 1)) own own') (R : Room A 2) (hN : N < 5000) (hm : 1 ≤ many) (hm' : many < 1000)
    (hQ : ∀ Γ' s' d t, St w e Γ' own' s' → Sub Γ Γ' → 0 ≤ d → d < many → Q (.int d t) s') : wpAny (model pg w) A (call (.ref 215) [.ref p, .int many tk]) Q E s := by
  refine' call1 (K := fun _ v => ∃ d t, v = .int d t ∧ 0 ≤ d ∧ d < many)
    (fr := fun L => [(L, NsO (upd (upd m0 "pen" (.ref p)) "many" (.int many tk))), (p, PenO scr N)]) (binds := [("pen", .ref p), ("many", .int many tk)]) S U R.depth ?ho ?hcd ?hbind ?hkind ?hnd ?hfr ?hQ ?body ?h1 ?h2 ?h3
  case ho => rfl
  case hcd => rfl
  case hbind => exact .of_eq (by rfl)
  case hkind => rfl
  case hnd => decide
  case hfr => intro L; rfl
  case h1 => rfl
  case h2 => rfl
  case h3 => rfl
  case hQ => rintro Γ' s' v S' k ⟨d, t, rfl, h1, h2⟩; exact hQ Γ' s' d t S' k h1 h2
  intro e' hW L s S; show wpAny _ _ (execs (_ :: _) _) _ _ _
  obtain ⟨spot, great, t₁, t₂, h0, h1, h2, S⟩ := S.pen
  repeat (walk_at "w")
  refine wpAny_If ?_
  repeat (walk_at "w")
  obtain ⟨vs, ns, hl, hi, hz⟩ := hs
  refine r_ite (fun hg => ?_) (fun hg => ?_)
  · repeat (walk_at "w")
    refine ⟨Γ, _, St.weak (a := p) (P' := PenO scr (N + 1)) (by assumption) (by walk_at "up") ?_, by walk_at "mm", Sub.rfl', _, _, rfl, Int.emod_nonneg _ (by omega), Int.emod_lt_of_pos _ (by omega)⟩
    exact fun o ho => ⟨_, _, _, _, ho, h0, by omega, Int.ediv_nonneg (by omega) (by omega)⟩
  · repeat (walk_at "w")
    have hpos : ns ≠ [] → 0 < vs.length := fun hne => by
      have := hi.length
      cases ns with
      | nil => exact absurd rfl hne
      | cons _ _ => simp only [List.length_cons] at this; omega
    refine r_join (R := fun fl s' => fl = Flow.next ∧ ∃ Γ' m c tc t', Sub Γ Γ' ∧ St w e' Γ' [(L, NsO m), (p, LO [.ref scr, .int (spot + 1) t', .int great t₂])] s' ∧
      m "pen" = some (.ref p) ∧ m "many" = some (.int many tk) ∧ m "spot" = some (.int spot t₁) ∧ m "cell" = some (.int c tc)) ?_ ?_
    · refine wpAny_If ?_
      repeat (walk_at "w")
      refine r_newList (by assumption) (by simp) ?_
      walk_at "clr"; intro Γ' s' a _ k _
      refine r_neInts (by walk_at "al") (by walk_at "al") (by assumption) .nil (Room.le (R.deeper _) (Nat.zero_le _)) ?_
      repeat (walk_at "w")
      refine r_ite (fun hne => ?_) (fun hne => ?_)
      · have hpos := hpos hne
        repeat (walk_at "w")
        obtain ⟨c, tc, hc⟩ := int_at hi (k := spot % vs.length) (Int.emod_nonneg _ (by omega)) (Int.emod_lt_of_pos _ (by omega))
        refine r_item (v := .int c tc) (by walk_at "al") (Int.emod_nonneg _ (by omega)) (by have := Int.emod_lt_of_pos spot (b := vs.length) (by omega); omega) hc ?_
        repeat (walk_at "w")
        exact ⟨rfl, Γ', _, c, tc, _, k, by assumption, by walk_at "lk", by walk_at "lk", by walk_at "lk", by walk_at "lk"⟩
      · repeat (walk_at "w")
        exact ⟨rfl, Γ', _, 0, _, _, k, by assumption, by walk_at "lk", by walk_at "lk", by walk_at "lk", by walk_at "lk"⟩
    walk_at "clr"
    rintro _ s ⟨rfl, Γ', m, c, tc, t', k, S, m1, m2, m3, m4⟩
    walk_at "w"
    refine wpAny_If ?_
    refine r_join (R := fun b s' => (b = true → 10 ^ 18 ≤ (c.natAbs : Int)) ∧ St w e' Γ' [(L, NsO m), (p, LO [.ref scr, .int (spot + 1) t', .int great t₂])] s') ?_ ?_
    · repeat (walk_at "w")
      refine r_ite (fun hlt => ?_) (fun hlt => ?_)
      · repeat (walk_at "w")
        refine r_ite (fun hge => ?_) (fun hge => ?_)
        · repeat (walk_at "w")
          exact ⟨fun _ => hge, by assumption⟩
        · repeat (walk_at "w")
          exact ⟨nofun, by assumption⟩
      · repeat (walk_at "w")
        exact ⟨nofun, by assumption⟩
    walk_at "clr"
    rintro b s ⟨hb, S⟩
    have e18 : (10 : Int) ^ (18 : Int).toNat = 1000000000000000000 := rfl
    cases b
    · repeat (walk_at "w")
      refine r_pow (by assumption) (by omega) (by omega) (pow_bound (Int.emod_nonneg _ (by decide)) (Int.emod_lt_of_pos _ (by decide)) (by omega) (by omega) (sq_bound h0 (by omega)).1 (sq_bound h0 (by omega)).2) ?_
      walk_at "clr"; intro _ _ _
      repeat (walk_at "w")
      refine ⟨Γ', _, St.weak (a := p) (P' := PenO scr (N + 1)) (by assumption) (by walk_at "up") ?_, by walk_at "mm", k, _, _, rfl, Int.emod_nonneg _ (by omega), Int.emod_lt_of_pos _ (by omega)⟩
      exact fun o ho => ⟨_, _, _, _, ho, by omega, by omega, h2⟩
    · have hb := hb rfl
      repeat (walk_at "w")
      refine ⟨Γ', _, St.weak (a := p) (P' := PenO scr (N + 1)) (by assumption) (by walk_at "up") ?_, by walk_at "mm", k, _, _, rfl, Int.emod_nonneg _ (by omega), Int.emod_lt_of_pos _ (by omega)⟩
      exact fun o ho => ⟨_, _, _, _, ho, by omega, by omega, Int.ediv_nonneg (by rw [e18]; omega) (by omega)⟩
end



/-- an owned thing is given up -/
inductive Out (a : Addr) : Own → Own → Prop
  | head {P r} : Out a ((a, P) :: r) r
  | tail {p r r'} : Out a r r' → Out a (p :: r) (p :: r')
theorem Out.sub {a : Addr} {l l' : Own} (u : Out a l l') : l'.Sublist l := by
  induction u with
  | head => exact List.sublist_cons_self _ _
  | tail _ ih => exact ih.cons_cons _
theorem Out.mem {a : Addr} {l l' : Own} (u : Out a l l') : a ∈ l.as := by
  induction u with
  | head => exact .head _
  | tail _ ih => exact .tail _ ih
theorem Out.ne {a : Addr} {l l' : Own} (u : Out a l l') (nd : l.as.Nodup) : a ∉ l'.as := by
  induction u with
  | head => exact (List.nodup_cons.mp nd).1
  | tail u ih =>
    have nd' := List.nodup_cons.mp nd
    intro h
    rcases List.mem_cons.mp h with e | h
    · exact nd'.1 (e ▸ u.mem)
    · exact ih nd'.2 h

section
variable {w : World} {e : Ent} {Γ : Heap} {s s' : Shared} {own own' : Own} {a : Addr}
/-- it is given up, whatever becomes of it -/
theorem St.lose (S : St w e Γ own s) (U : Out a own own') (hW : ∀ x ∈ e.W, x ∈ own'.as) (hs : ∀ b o, b ≠ a → s.heap.get? b = some o → s'.heap.get? b = some o)
    (os : s'.os = s.os := by rfl) (gn : s'.gens = s.gens := by rfl) : St w e Γ own' s' := by
  have hne := U.ne S.nd
  have hnW : a ∉ e.W := fun h => hne (hW _ h)
  have hen : e.s.heap.get? a = none := (S.new a U.mem).resolve_left hnW
  have hoff := S.off a (.inl U.mem)
  have S' := S.less U.sub hW
  refine ⟨S'.g, fun b o hb => hs b o (fun z => ?_) (S.see b o hb), fun q hq => ?_, S'.off, S'.nd, fun b o hb hW => hs b o (fun z => ?_) (S.keep b o hb hW), S'.new, S'.elv, fun b hb => ?_, S'.wown, os.trans S.os, gn.trans S.gens⟩
  · rw [z, hoff] at hb; cases hb
  · obtain ⟨o, h1, h2⟩ := S'.has q hq
    exact ⟨o, hs _ _ (fun z => hne (z ▸ List.mem_map_of_mem hq)) h1, h2⟩
  · rw [z, hen] at hb; cases hb
  · obtain ⟨o, ho⟩ := S.hlv b hb
    refine ⟨o, hs _ _ (fun z => ?_) ho⟩
    obtain ⟨o', ho'⟩ := S.elv b hb
    rw [z, hen] at ho'; cases ho'
end

def goNames : List String := ["enumerate", "zip", "dict_itemiterator", "dict_reverseitemiterator", "odict_iterator", "itertools.zip_longest", "itertools.pairwise"]

/-- what is walked: n values, the i-th of which is as P says; the iterator's own thing before the i-th is as IT says -/
structure Src (w : World) (Γ : Heap) (n : Nat) (IT : Nat → Obj → Prop) (P : Nat → Value → Prop) : Prop where
  shape : ∀ i o, IT i o → ∃ T vs, o.cls = .type T ∧ o.data = .fields vs ∧ goNames.contains T = false
  next : ∀ {A : Around} {Γ' : Heap} {s : Shared} {I : Addr} {i : Nat} {Q : Option Value → Shared → Prop} {E : Value → Shared → Prop}, A.handled = none → Sub Γ Γ' → Sub Γ' s.heap → At s.heap I (IT i) → i < n →
    (∀ v h' tk, P i v → At h' I (IT (i + 1)) → (∀ b o, b ≠ I → s.heap.get? b = some o → h'.get? b = some o) → Q (some v) { s with heap := h', toks := tk }) → wpAny (model pg w) A (pyNext (.ref I)) Q E s
  stop : ∀ {A : Around} {Γ' : Heap} {s : Shared} {I : Addr} {Q : Option Value → Shared → Prop} {E : Value → Shared → Prop}, A.handled = none → Sub Γ Γ' → Sub Γ' s.heap → At s.heap I (IT n) →
    (∀ h' tk, (∀ b o, b ≠ I → s.heap.get? b = some o → h'.get? b = some o) → Q none { s with heap := h', toks := tk }) → wpAny (model pg w) A (pyNext (.ref I)) Q E s
  self : ∀ {A : Around} {s : Shared} {I : Addr} {i : Nat} {Q : Value → Shared → Prop} {E : Value → Shared → Prop}, At s.heap I (IT i) → Q (.ref I) s → wpAny (model pg w) A (pyIter (.ref I)) Q E s

theorem go_of {w : World} {A : Around} {s : Shared} {I : Addr} {o : Obj} {T : String} {vs : Array Value} {v : Value} {target : Expr} {Q : Unit → Shared → Prop} {E : Value → Shared → Prop}
    (ho : s.heap.get? I = some o) (hc : o.cls = .type T) (hd : o.data = .fields vs) (hT : goNames.contains T = false) (hQ : Q () s) : wpAny (model pg w) A (letOwnedTupleGo target (.ref I) v) Q E s := by
  have key : ∀ a, wpAny (model pg w) A (do
      let o ← load I
      match o.cls, o.data with
      | .type n, .fields vs =>
        if goNames.contains n && vs[0]? == some (rawInt a) then do
          rule "for.unpacks-the-owned-tuple"
          updateField I 0 .none
      | _, _ => pure ()) Q E s := fun a => by
    refine wpAny_bind (wpAny_load ho ?_)
    rw [hc, hd]
    dsimp only
    rw [hT, Bool.false_and, if_neg (by decide)]
    exact wpAny_pure hQ
  unfold letOwnedTupleGo
  split <;> first
    | exact wpAny_pure hQ
    | (cases v <;> first | exact wpAny_pure hQ | exact key _)

section
variable {w : World} {e : Ent} {Γ : Heap} {s s' : Shared} {own own' : Own} {a I : Addr} {A : Around} {E : Value → Shared → Prop} {vs : List Value}

theorem src_list (ht : IsLst Γ a vs) : Src w Γ vs.length (fun i o => o.cls = .type "list_iterator" ∧ o.data = .fields #[.ref a, .int i 0]) (fun i v => vs[i]? = some v) where
  shape := fun i o h => ⟨_, _, h.1, h.2, by decide⟩
  next := fun {A Γ' s I i Q E} hh k k' hI hi hQ => by
    have hit : s.heap.IsListIter I a i := let ⟨o, h1, h2, h3⟩ := hI; ⟨o, h1, h2, h3⟩
    have hl := LP.list ((ht.mono k).mono k')
    exact wpAny_pyNext_list_item hit hl (x := vs[i]) (by simp [hi]) fun h' hit' hs => hQ _ h' s.toks (by simp [hi]) (let ⟨o, h1, h2, h3⟩ := hit'; ⟨o, h1, h2, h3⟩) fun b o hb e => (hs.2 b hb).trans e
  stop := fun {A Γ' s I Q E} hh k k' hI hQ => by
    have hit : s.heap.IsListIter I a vs.length := let ⟨o, h1, h2, h3⟩ := hI; ⟨o, h1, h2, h3⟩
    exact wpAny_pyNext_list_end hh hit (LP.list ((ht.mono k).mono k')) (by simp) fun h' he => hQ h' s.toks fun b o hb e => he b o hb e
  self := fun {A s I i Q E} hI hQ => wpAny_pyIter_listiter (let ⟨o, h1, h2, h3⟩ := hI; ⟨o, h1, h2, h3⟩) hQ
theorem src_tuple (ht : IsTpl Γ a vs) : Src w Γ vs.length (fun i o => o.cls = .type "tuple_iterator" ∧ o.data = .fields #[.ref a, .int i 0]) (fun i v => vs[i]? = some v) where
  shape := fun i o h => ⟨_, _, h.1, h.2, by decide⟩
  next := fun {A Γ' s I i Q E} hh k k' hI hi hQ => by
    have hit : s.heap.IsTupleIter I a i := let ⟨o, h1, h2, h3⟩ := hI; ⟨o, h1, h2, h3⟩
    have hl := TP.tup ((ht.mono k).mono k')
    exact wpAny_pyNext_tuple_item hit hl (x := vs[i]) (by simp [hi]) fun h' hit' hs => hQ _ h' s.toks (by simp [hi]) (let ⟨o, h1, h2, h3⟩ := hit'; ⟨o, h1, h2, h3⟩) fun b o hb e => (hs.2 b hb).trans e
  stop := fun {A Γ' s I Q E} hh k k' hI hQ => by
    have hit : s.heap.IsTupleIter I a vs.length := let ⟨o, h1, h2, h3⟩ := hI; ⟨o, h1, h2, h3⟩
    exact wpAny_pyNext_tuple_end hh hit (TP.tup ((ht.mono k).mono k')) (by simp) fun h' he => hQ h' s.toks fun b o hb e => he b o hb e
  self := fun {A s I i Q E} hI hQ => wpAny_pyIter_tupleiter (let ⟨o, h1, h2, h3⟩ := hI; ⟨o, h1, h2, h3⟩) hQ
theorem src_range {x c : Int} {n : Nat} : Src w Γ n (fun i o => o = { cls := .type "range_iterator", data := .fields #[rawInt (x + (i : Nat) * c), rawInt ((n : Int) - (i : Nat)), rawInt c] }) (fun i v => ∃ t, v = .int (x + (i : Nat) * c) t) where
  shape := fun i o h => by subst h; exact ⟨_, _, rfl, rfl, by decide⟩
  next := fun {A Γ' s I i Q E} hh k k' hI hi hQ => by
    have hit : IsRangeIter s.heap I (x + (i : Nat) * c) ((n : Int) - (i : Nat)) c := let ⟨o, h1, h2⟩ := hI; h1.trans (congrArg some h2)
    exact wpAny_pyNext_range_item hit (by omega) fun h' hit' hs => hQ _ h' _ ⟨_, rfl⟩ (by
      refine ⟨_, hit', ?_⟩
      rw [show x + (i : Nat) * c + c = x + ((i + 1 : Nat) : Int) * c by rw [Int.natCast_add, Int.add_mul]; omega, show (n : Int) - (i : Nat) - 1 = (n : Int) - ((i + 1 : Nat) : Int) by omega]) fun b o hb e => (hs.2 b hb).trans e
  stop := fun {A Γ' s I Q E} hh k k' hI hQ => by
    have hit : IsRangeIter s.heap I (x + (n : Nat) * c) ((n : Int) - (n : Nat)) c := let ⟨o, h1, h2⟩ := hI; h1.trans (congrArg some h2)
    exact wpAny_pyNext_range_end hh hit (by omega) fun h' he => hQ h' s.toks fun b o hb e => he b o hb e
  self := fun {A s I i Q E} hI hQ => wpAny_pyIter_rangeiter (x := x + (i : Nat) * c) (let ⟨o, h1, h2⟩ := hI; h1.trans (congrArg some h2)) hQ
end

section
variable {w : World} {e : Ent} {Γ : Heap} {s s' : Shared} {own own' : Own} {a I : Addr} {A : Around} {E : Value → Shared → Prop} {vs : List Value}
theorem St.iter {P : Obj → Prop} {o : Obj} (S : St w e Γ own s) (hf : o.isFreed = false) (hP : P o) : St w e Γ ((s.heap.objs.size, P) :: own) { s with heap := s.heap.push o } := S.allocO hf hP

/-- what a walk over xs is to be handed -/
def IterOf (w : World) (e : Ent) (Γ : Heap) (own : Own) (n : Nat) (P : Nat → Value → Prop) (it : Value) (s : Shared) : Prop :=
  ∃ I IT, it = .ref I ∧ Src w Γ n IT P ∧ St w e Γ ((I, IT 0) :: own) s
theorem i_list {Q : Value → Shared → Prop} (S : St w e Γ own s) (ht : IsLst Γ a vs) (h : ∀ it s', IterOf w e Γ own vs.length (fun i v => vs[i]? = some v) it s' → Q it s') : wpAny (model pg w) A (pyIter (.ref a)) Q E s :=
  wpAny_pyIter_list (LP.list (ht.mono S.see)) (h _ _ ⟨_, _, rfl, src_list ht, S.allocO rfl ⟨rfl, rfl⟩⟩)
theorem i_tuple {Q : Value → Shared → Prop} (S : St w e Γ own s) (ht : IsTpl Γ a vs) (h : ∀ it s', IterOf w e Γ own vs.length (fun i v => vs[i]? = some v) it s' → Q it s') : wpAny (model pg w) A (pyIter (.ref a)) Q E s :=
  wpAny_pyIter_tuple (TP.tup (ht.mono S.see)) (h _ _ ⟨_, _, rfl, src_tuple ht, S.allocO rfl ⟨rfl, rfl⟩⟩)

/-! loops -/
theorem r_For {target iter : Expr} {body : List Stmt} {pos : Pos} {env : Env} {Q : Flow → Shared → Prop}
    (h : wpAny (model pg w) A (eval iter env) (fun x s₁ => wpAny (model pg w) A (pyIter x) (fun it s₂ => ∃ e Γ own n P, ∃ Inv : Nat → Heap → Own → Prop, IterOf w e Γ own n P it s₂ ∧ Inv 0 Γ own ∧
      (∀ i Γ' own', Inv i Γ' own' → ∀ x ∈ e.W, x ∈ own'.as) ∧
      (∀ i v Γ' own' J s E', i < n → P i v → Sub Γ Γ' → Inv i Γ' own' → St w e Γ' (J :: own') s → wpAny (model pg w) A (assign target env v) (fun _ s₂ => wpAny (model pg w) A (execs body env)
        (fun f s' => f = .next ∧ ∃ Γ'' own'', St w e Γ'' (J :: own'') s' ∧ Sub Γ' Γ'' ∧ Inv (i + 1) Γ'' own'') E' s₂) E' s) ∧
      (∀ Γ' own' s', Sub Γ Γ' → Inv n Γ' own' → St w e Γ' own' s' → Q .next s')) E s₁) E s)
    (hh : A.handled = none) (hs : ∀ x, foldedSetIterable iter env x = pure x := by intro _; rfl) :
    wpAny (model pg w) A (exec (.For target iter body [] pos) env) Q E s := by
  refine wpAny_For (wpAny_mono h (fun x s₁ h₁ => wpAny_mono h₁ (fun it s₂ h₂ => ?_) fun _ _ y => y) fun _ _ y => y) hs
  obtain ⟨e, Γ, own, n, P, Inv, ⟨I, IT, rfl, src, S⟩, h0, hW, turn, fin⟩ := h₂
  refine codeAny_forLoop_any (fun k s => ∃ i Γ' own', k = n + 1 - i ∧ i ≤ n ∧ Sub Γ Γ' ∧ Inv i Γ' own' ∧ St w e Γ' ((I, IT i) :: own') s) ?_ (n + 1) ⟨0, Γ, own, by omega, Nat.zero_le _, Sub.rfl', h0, S⟩
  rintro k s ⟨i, Γ', own', rfl, hi, k, hI, S⟩
  by_cases hlt : i < n
  · refine src.next hh k S.see (S.has _ (.head _)) hlt fun v h' tk hP hI' hk => ?_
    have S₁ : St w e Γ' ((I, IT (i + 1)) :: own') { s with heap := h', toks := tk } := S.upd .head hk hI'
    obtain ⟨o, ho, hIT⟩ := hI'
    obtain ⟨T, fs, hc, hd, hT⟩ := src.shape _ _ hIT
    refine go_of ho hc hd hT (wpAny_mono (turn i v Γ' own' _ _ _ hlt hP k hI S₁) (fun _ s₂ h₂ => wpAny_mono h₂ (fun f s' hf => ?_) fun _ _ y => y) fun _ _ y => y)
    obtain ⟨rfl, Γ'', own'', S'', k', hI''⟩ := hf
    exact ⟨n + 1 - (i + 1), by omega, i + 1, Γ'', own'', rfl, hlt, k.trans k', hI'', S''⟩
  · obtain rfl : i = n := by omega
    refine src.stop hh k S.see (S.has _ (.head _)) fun h' tk hk => ?_
    exact wpAny_execs_nil (fin Γ' own' _ k hI (S.lose .head (hW _ _ _ hI) hk))

/-! list displays by a walk -/
theorem codeAny_compLoop_own {elt target iter : Expr} {ifs : List Expr} {scope : Scope} {pos : Pos} {it acc : Value} {env : Env} {R : Result → Shared → Prop} (I : Nat → Shared → Prop)
    (turn : ∀ n s, I n s → wpAny (model pg w) A (pyNext it) (fun r s₁ => match r with
      | none => R (.ok .next) s₁
      | some v => wpAny (model pg w) A (letOwnedTupleGo target it v) (fun _ s₁ => wpAny (model pg w) A (assign target env v) (fun _ s₂ =>
          wpAny (model pg w) A (forIn ifs true fun c r => if r = true then do let ok ← isTrue c env (eval c env); pure (ForInStep.yield ok) else pure (ForInStep.yield r)) (fun ok s₃ =>
            if ok = true then wpAny (model pg w) A (eval elt env) (fun x s₄ =>
              wpAny (model pg w) A (call (.builtin "list.append") [acc, x]) (fun _ s₅ => ∃ m, m < n ∧ I m s₅) (notedBy (model pg w) A env fun e s' => R (.error e) s') s₄) (notedBy (model pg w) A env fun e s' => R (.error e) s') s₃
            else ∃ m, m < n ∧ I m s₃) (notedBy (model pg w) A env fun e s' => R (.error e) s') s₂) (notedBy (model pg w) A env fun e s' => R (.error e) s') s₁) (notedBy (model pg w) A env fun e s' => R (.error e) s') s₁) (notedBy (model pg w) A env fun e s' => R (.error e) s') s)
    (n : Nat) (h : I n s) : codeAny (model pg w) A (.compLoop (.ListComp elt [⟨target, iter, ifs, 0⟩] scope pos) 0 it acc env) R s := by
  refine codeAny_loop rfl I (fun n s hI => ?_) n h
  show wpAny _ A ((compTurn (.ListComp elt [⟨target, iter, ifs, 0⟩] scope pos) 0 it acc env).onRaise (fun x => do noteFrame x env; theTreesLotGoes x)) _ _ s
  refine wpAny_noted ?_
  rw [compTurn_list]
  refine wpAny_bind (wpAny_standAt (wpAny_bind (wpAny_mono (turn n s hI) (fun r s₁ h₁ => ?_) fun _ _ h' => h')))
  cases r with
  | none => exact wpAny_pure h₁
  | some v =>
    refine wpAny_bind (wpAny_mono h₁ (fun _ s₁ h₁ => ?_) fun _ _ h' => h')
    refine wpAny_bind (wpAny_mono h₁ (fun _ s₂ h₂ => wpAny_bind (wpAny_mono h₂ (fun ok s₃ h₃ => ?_) fun _ _ h' => h')) fun _ _ h' => h')
    cases ok with
    | false => exact wpAny_pure ⟨rfl, h₃⟩
    | true =>
      exact wpAny_bind (wpAny_bind (wpAny_mono h₃ (fun x s₄ h₄ => wpAny_bind (wpAny_mono h₄ (fun _ s₅ h₅ => wpAny_pure (wpAny_pure ⟨rfl, h₅⟩)) fun _ _ h' => h')) fun _ _ h' => h'))
end



section
variable {w : World} {A : Around} {E : Value → Shared → Prop} {env : Env}

abbrev testsOf (w : World) (A : Around) (ifs : List Expr) (env : Env) (Q : Bool → Shared → Prop) (E : Value → Shared → Prop) (s : Shared) : Prop :=
  wpAny (model pg w) A (forIn ifs true fun c r => if r = true then do let ok ← isTrue c env (eval c env); pure (ForInStep.yield ok) else pure (ForInStep.yield r)) Q E s

/-- one turn of a list display -/
def TurnK (w : World) (A : Around) (env : Env) (scope : Scope) (cl : List (Str × Addr)) (target elt : Expr) (ifs : List Expr) (e : Ent) (Γ : Heap) (n : Nat) (P : Nat → Value → Prop) (Inv : Nat → List Value → Heap → Own → Prop) : Prop :=
  ∀ i v ys Γ' (own' : Own) C m D J s E', i < n → P i v → ys.length ≤ i → Sub Γ Γ' → Inv i ys Γ' own' → St w e Γ' ((C, NsO m) :: D :: J :: own') s →
    wpAny (model pg w) A (assign target (compEnvC scope cl C env) v) (fun _ s₂ => testsOf w A ifs (compEnvC scope cl C env)
      (fun ok s₃ => if ok = true then wpAny (model pg w) A (eval elt (compEnvC scope cl C env)) (fun y s₄ => ∃ Γ'' own'' m', St w e Γ'' ((C, NsO m') :: D :: J :: own'') s₄ ∧ Sub Γ' Γ'' ∧ Inv (i + 1) (ys ++ [y]) Γ'' own'') E' s₃
        else ∃ Γ'' own'' m', St w e Γ'' ((C, NsO m') :: D :: J :: own'') s₃ ∧ Sub Γ' Γ'' ∧ Inv (i + 1) ys Γ'' own'') E' s₂) E' s

theorem comp_core {elt target iter : Expr} {ifs : List Expr} {scope : Scope} {cl : List (Str × Addr)} {pos : Pos} {s₂ : Shared} {it : Value} {RR : Value → Addr → Result → Shared → Prop}
    {e : Ent} {Γ : Heap} {own : Own} {n : Nat} {P : Nat → Value → Prop} {Inv : Nat → List Value → Heap → Own → Prop}
    (hh : A.handled = none) (hcell : ∀ y ∈ scope.names, y.2 ≠ .cell) (hkind : scope.kind = .function) (HI : IterOf w e Γ own n P it s₂) (hn : n ≤ 1000) (h0 : Inv 0 [] Γ own)
    (hW : ∀ i ys Γ' own', Inv i ys Γ' own' → ∀ x ∈ e.W, x ∈ Own.as own') (turn : TurnK w A env scope cl target elt ifs e Γ n P Inv)
    (hR : ∀ Γ' own' m ys C D s', Sub Γ Γ' → Inv n ys Γ' own' → ys.length ≤ n → St w e Γ' ((C, NsO m) :: (D, LP ys) :: own') s' → RR (.ref D) C (.ok .next) s') :
    wpAny (model pg w) A (newList []) (fun acc s₃ => wpAny (model pg w) A (newFunctionEnv scope env.globals cl [] env.qual none .none (some env)) (fun cenv s₄ =>
      codeAny (model pg w) A (.compStart (.ListComp elt [⟨target, iter, ifs, 0⟩] scope pos) 0 it acc { cenv with scope := relabel scope env }) (RR acc cenv.locals) s₄) E s₃) E s₂ := by
  obtain ⟨I, IT, rfl, src, S⟩ := HI
  refine wpAny_newList ?_ (le_line (by simp))
  have S₁ : St w e Γ ((s₂.heap.objs.size, LP []) :: (I, IT 0) :: own) { s₂ with heap := s₂.heap.push { cls := .type "list", data := .seq ([] : List Value).toArray } } := S.allocO rfl ⟨_, rfl⟩
  generalize s₂.heap.objs.size = D at S₁ ⊢
  generalize ({ s₂ with heap := s₂.heap.push { cls := .type "list", data := .seq ([] : List Value).toArray } } : Shared) = s₃ at S₁ ⊢
  refine wpAny_newFunctionEnv hcell (by intro y hy; simp at hy) (fun h₁ hns hsb => ?_) hkind
  have S₂ : St w e Γ ((s₃.heap.objs.size, NsO fun _ => none) :: (D, LP []) :: (I, IT 0) :: own) { s₃ with heap := h₁, toks := s₃.toks + ([] : List (Str × Value)).length } :=
    S₁.more (fun b o hb => hsb.extBut b o (Nat.ne_of_lt (Heap.lt_size hb)) (Heap.get?_push_of_some _ hb)) (get_ge (Nat.le_refl _)) (NsO.of hns)
  generalize s₃.heap.objs.size = C at S₂ ⊢
  generalize ({ s₃ with heap := h₁, toks := s₃.toks + ([] : List (Str × Value)).length } : Shared) = s₄ at S₂ ⊢
  show codeAny (model pg w) A (.compStart (.ListComp elt [⟨target, iter, ifs, 0⟩] scope pos) 0 (.ref I) (.ref D) (compEnvC scope cl C env)) (RR (.ref D) C) s₄
  have loop : codeAny (model pg w) A (.compLoop (.ListComp elt [⟨target, iter, ifs, 0⟩] scope pos) 0 (.ref I) (.ref D) (compEnvC scope cl C env)) (RR (.ref D) C) s₄ := by
    refine codeAny_compLoop_own (fun k s => ∃ i ys Γ' own' m, k = n + 1 - i ∧ i ≤ n ∧ ys.length ≤ i ∧ Sub Γ Γ' ∧ Inv i ys Γ' own' ∧ St w e Γ' ((C, NsO m) :: (D, LP ys) :: (I, IT i) :: own') s) ?_ (n + 1)
      ⟨0, [], Γ, own, _, by omega, Nat.zero_le _, Nat.zero_le _, Sub.rfl', h0, S₂⟩
    rintro k s ⟨i, ys, Γ', own', m, rfl, hi, hys, k, hI, S⟩
    by_cases hlt : i < n
    · refine src.next hh k S.see (S.has _ (.tail _ (.tail _ (.head _)))) hlt fun v h' tk hP hI' hk => ?_
      have S₁ : St w e Γ' ((C, NsO m) :: (D, LP ys) :: (I, IT (i + 1)) :: own') { s with heap := h', toks := tk } := S.upd (.tail (.tail .head)) hk hI'
      obtain ⟨o, ho, hIT⟩ := hI'
      obtain ⟨T, fs, hc, hd, hT⟩ := src.shape _ _ hIT
      refine go_of ho hc hd hT (wpAny_mono (turn i v ys Γ' own' C m _ _ _ _ hlt hP hys k hI S₁) (fun _ s₂ h₂ => wpAny_mono h₂ (fun ok s₃ h₃ => ?_) fun _ _ y => y) fun _ _ y => y)
      cases ok with
      | false =>
        rw [if_neg (by decide)] at h₃ ⊢
        obtain ⟨Γ'', own'', m', S'', k', hI''⟩ := h₃
        exact ⟨n + 1 - (i + 1), by omega, i + 1, ys, Γ'', own'', m', rfl, hlt, by omega, k.trans k', hI'', S''⟩
      | true =>
        rw [if_pos rfl] at h₃ ⊢
        refine wpAny_mono h₃ (fun y s₄ h₄ => ?_) fun _ _ y => y
        obtain ⟨Γ'', own'', m', S'', k', hI''⟩ := h₄
        obtain ⟨o, h1, nn, h2⟩ := S''.has (D, LP ys) (.tail _ (.head _))
        have hz : ys.toArray.size ≤ sizeLine := le_line (by simp; omega)
        refine wpAny_list_append_plain (hsz := hz) ⟨nn, h1.trans (congrArg some h2)⟩ fun h₅ hl₅ hs₅ => ?_
        obtain ⟨n', e'⟩ := hl₅
        refine ⟨n + 1 - (i + 1), by omega, i + 1, ys ++ [y], Γ'', own'', m', rfl, hlt, by simp; omega, k.trans k', hI'', S''.updS (.tail .head) hs₅ ⟨_, e', n', ?_⟩⟩
        simp
    · obtain rfl : i = n := by omega
      refine src.stop hh k S.see (S.has _ (.tail _ (.tail _ (.head _)))) fun h' tk hk => ?_
      exact hR Γ' own' m ys C D _ k hI hys (S.lose (.tail (.tail .head)) (fun x hx => .tail _ (.tail _ (hW _ _ _ _ hI x hx))) hk)
  exact codeAny_compStart_list loop (src.self (S₂.has (I, IT 0) (.tail _ (.tail _ (.head _)))) loop)

theorem r_ListComp {s : Shared} {elt target iter : Expr} {ifs : List Expr} {scope : Scope} {cl : List (Str × Addr)} {pos : Pos} {Q : Value → Shared → Prop}
    (hh : A.handled = none) (hclos : closureFor scope env = pure cl)
    (h : wpAny (model pg w) A (eval iter env) (fun xv s₁ => wpAny (model pg w) A (pyIter xv) (fun it s₂ => ∃ e Γ own n P, ∃ Inv : Nat → List Value → Heap → Own → Prop, IterOf w e Γ own n P it s₂ ∧ n ≤ 1000 ∧ Inv 0 [] Γ own ∧
      (∀ i ys Γ' own', Inv i ys Γ' own' → ∀ x ∈ e.W, x ∈ Own.as own') ∧ TurnK w A env scope cl target elt ifs e Γ n P Inv ∧
      (∀ Γ' own' a ys s', Sub Γ Γ' → (∃ Γ'', Sub Γ'' Γ' ∧ Inv n ys Γ'' own') → ys.length ≤ n → IsLst Γ' a ys → St w e Γ' own' s' → Q (.ref a) s')) E s₁) E s)
    (hcell : ∀ y ∈ scope.names, y.2 ≠ .cell := by decide) (hkind : scope.kind = .function := by rfl) (hnames : ∀ y ∈ scope.names, y.2 = .local → scope.names.lookup y.1 = some .local := by decide)
    (hs : ∀ x, foldedSetIterable iter env x = pure x := by intro _; rfl) :
    wpAny (model pg w) A (eval (.ListComp elt [⟨target, iter, ifs, 0⟩] scope pos) env) Q E s := by
  rw [eval_ListComp]
  refine wpAny_comprehension_free (use := none) rfl hs hclos hkind hnames (wpAny_mono h (fun xv s₁ h₁ => wpAny_mono h₁ (fun it s₂ h₂ => ?_) fun _ _ e => e) fun _ _ e => e)
  obtain ⟨e, Γ, own, n, P, Inv, HI, hn, h0, hW, turn, fin⟩ := h₂
  refine comp_core (RR := fun acc C => compPost (model pg w) A E none Q acc C) hh hcell hkind HI hn h0 hW turn fun Γ' own' m ys C D s' k hI hys S => ?_
  refine ⟨m, NsO.ns (S.has _ (.head _)), fun h' hs' => ?_⟩
  have S₁ : St w e Γ' ((D, LP ys) :: own') { s' with heap := h' } := S.lose .head (fun x hx => .tail _ (hW _ _ _ _ hI x hx)) fun b o hb h => (hs'.2 b hb).trans h
  obtain ⟨Γ'', o, S₂, k₂, h1, h2⟩ := S₁.freeze (hW _ _ _ _ hI)
  exact fin Γ'' own' D ys _ (k.trans k₂) ⟨Γ', k₂, hI⟩ hys ⟨o, h1, h2⟩ S₂

/-- x = [..] of a frame's own name -/
theorem r_AssignComp {s : Shared} {elt target iter : Expr} {ifs : List Expr} {scope : Scope} {cl : List (Str × Addr)} {pos spos py : Pos} {y : Str} {Q : Flow → Shared → Prop}
    (hh : A.handled = none) (hsw : swapsWith (.ListComp elt [⟨target, iter, ifs, 0⟩] scope pos) (some (.Name y py)) spos.line env = pure true) (hclos : closureFor scope env = pure cl)
    (h : wpAny (model pg w) A (eval iter env) (fun xv s₁ => wpAny (model pg w) A (pyIter xv) (fun it s₂ => ∃ e Γ own n P m, ∃ own₂ : Addr → Own, ∃ Inv : Nat → List Value → Heap → Prop, IterOf w e Γ own n P it s₂ ∧ n ≤ 1000 ∧ Inv 0 [] Γ ∧
      (∀ x ∈ e.W, x ∈ Own.as own) ∧ TurnK w A env scope cl target elt ifs e Γ n P (fun i ys Γ' own' => own' = own ∧ Inv i ys Γ') ∧
      (∀ a, Up env.locals (NsO m) (NsO (upd m y (.ref a))) own (own₂ a)) ∧
      (∀ Γ' a ys s', Sub Γ Γ' → (∃ Γ'', Sub Γ'' Γ' ∧ Inv n ys Γ'') → ys.length ≤ n → IsLst Γ' a ys → St w e Γ' (own₂ a) s' → Q .next s')) E s₁) E s)
    (hy : env.kindOf y = some .local := by rfl) (hp : (env.scope.kind == .class || (env.scope.kind == .module && env.locals != env.globals)) = false := by rfl)
    (hcell : ∀ y ∈ scope.names, y.2 ≠ .cell := by decide) (hkind : scope.kind = .function := by rfl) (hnames : ∀ y ∈ scope.names, y.2 = .local → scope.names.lookup y.1 = some .local := by decide)
    (hs : ∀ x, foldedSetIterable iter env x = pure x := by intro _; rfl) :
    wpAny (model pg w) A (exec (.Assign [.Name y py] (.ListComp elt [⟨target, iter, ifs, 0⟩] scope pos) spos) env) Q E s := by
  rw [exec_Assign_Name_used _ _ _ _ hsw]
  refine wpAny_bind (wpAny_standAt (wpAny_bind ?_))
  show wpAny _ A (do let _ ← comprehension (.ListComp elt [⟨target, iter, ifs, 0⟩] scope pos) scope env _ (newList []) false (eval iter env) (some (assign (.Name y py) env))) _ _ s
  refine wpAny_bind (wpAny_mono (wpAny_comprehension_free (use := some (assign (.Name y py) env)) (Q := fun _ s' => Q .next s') rfl hs hclos hkind hnames
    (wpAny_mono h (fun xv s₁ h₁ => wpAny_mono h₁ (fun it s₂ h₂ => ?_) fun _ _ e => e) fun _ _ e => e)) (fun _ s' hq => wpAny_pure (wpAny_pure hq)) fun _ _ e => e)
  obtain ⟨e, Γ, own, n, P, m, own₂, Inv, HI, hn, h0, hW, turn, U, fin⟩ := h₂
  refine comp_core (Inv := fun i ys Γ' own' => own' = own ∧ Inv i ys Γ') (RR := fun acc C => compPost (model pg w) A E (some (assign (.Name y py) env)) (fun _ s' => Q .next s') acc C) hh hcell hkind HI hn ⟨rfl, h0⟩ (by rintro _ _ _ _ ⟨rfl, _⟩; exact hW) turn ?_
  rintro Γ' _ mC ys C D s' k ⟨rfl, hI⟩ hys S
  show wpAny _ A (assign (.Name y py) env (.ref D)) _ _ _
  have hW' : ∀ x ∈ e.W, x ∈ Own.as (own₂ D) := fun x hx => by rw [(U D).map]; exact hW x hx
  refine wpAny_assign_Name (r_store S (.tail (.tail (U D))) (fun s'' S' => ?_) rfl hy hp)
  refine ⟨mC, NsO.ns (S'.has _ (.head _)), fun h' hs' => ?_⟩
  have S₁ : St w e Γ' ((D, LP ys) :: own₂ D) { s'' with heap := h' } := S'.lose .head (fun x hx => .tail _ (hW' x hx)) fun b o hb h => (hs'.2 b hb).trans h
  obtain ⟨Γ'', o, S₂, k₂, h1, h2⟩ := S₁.freeze hW'
  exact fin Γ'' D ys _ (k.trans k₂) ⟨Γ', k₂, hI⟩ hys ⟨o, h1, h2⟩ S₂
end



section
variable {w : World} {e : Ent} {Γ : Heap} {s s' : Shared} {own own' : Own} {a l p : Addr} {A : Around} {E : Value → Shared → Prop} {env : Env} {vs : List Value} {P : Obj → Prop}

theorem ep_none {Q : Value → Shared → Prop} (h : Q .none s) : wpAny (model pg w) A (evalPart none env) Q E s := wpAny_pure h
theorem ep_some {x : Expr} {Q : Value → Shared → Prop} (h : wpAny (model pg w) A (eval x env) Q E s) : wpAny (model pg w) A (evalPart (some x) env) Q E s := h
theorem sl_upto {Q : Value → Shared → Prop} {b : Nat} {k : Int} {t : Tok} (S : St w e Γ own s) (hk : k = (b : Nat)) (hl : At s.heap l (LO vs)) (hz : vs.length ≤ 1000) (h : ∀ Γ' s' a, St w e Γ' own s' → Sub Γ Γ' → IsLst Γ' a (vs.take b) → Q (.ref a) s') :
    ∃ l' items lo hi, Value.ref l = .ref l' ∧ s.heap.IsList l' items ∧ items.size ≤ sizeLine ∧ IsPart .none lo ∧ IsPart (.int k t) hi ∧
      Q (.ref (s.heap.objs.size + 1)) { s with heap := (s.heap.push { cls := .type "slice", data := .fields #[.none, .int k t, .none] }).push { cls := .type "list", data := .seq (slicePick items lo hi none) } } := by
  subst hk
  refine ⟨l, _, none, some b, rfl, LO.list hl, le_line (by simpa using hz), .none, .int _ _, ?_⟩
  rw [slicePick_upto']
  obtain ⟨Γ₁, S₁, k₁, _⟩ := S.alloc (o := { cls := .type "slice", data := .fields #[.none, .int (b : Nat) t, .none] }) rfl
  obtain ⟨Γ₂, S₂, k₂, h₂⟩ := S₁.alloc (o := { cls := .type "list", data := .seq (vs.toArray.toList.take b).toArray }) rfl
  rw [show (({ s with heap := s.heap.push { cls := .type "slice", data := .fields #[.none, .int (b : Nat) t, .none] } } : Shared).heap.objs.size) = s.heap.objs.size + 1 from Heap.size_push ..] at h₂
  exact h Γ₂ _ _ S₂ (k₁.trans k₂) ⟨_, h₂, _, rfl⟩
theorem sl_from {Q : Value → Shared → Prop} {b : Nat} {k : Int} {t : Tok} (S : St w e Γ own s) (hk : k = (b : Nat)) (hl : At s.heap l (LO vs)) (hz : vs.length ≤ 1000) (h : ∀ Γ' s' a, St w e Γ' own s' → Sub Γ Γ' → IsLst Γ' a (vs.drop b) → Q (.ref a) s') :
    ∃ l' items lo hi, Value.ref l = .ref l' ∧ s.heap.IsList l' items ∧ items.size ≤ sizeLine ∧ IsPart (.int k t) lo ∧ IsPart .none hi ∧
      Q (.ref (s.heap.objs.size + 1)) { s with heap := (s.heap.push { cls := .type "slice", data := .fields #[.int k t, .none, .none] }).push { cls := .type "list", data := .seq (slicePick items lo hi none) } } := by
  subst hk
  refine ⟨l, _, some b, none, rfl, LO.list hl, le_line (by simpa using hz), .int _ _, .none, ?_⟩
  rw [slicePick_from']
  obtain ⟨Γ₁, S₁, k₁, _⟩ := S.alloc (o := { cls := .type "slice", data := .fields #[.int (b : Nat) t, .none, .none] }) rfl
  obtain ⟨Γ₂, S₂, k₂, h₂⟩ := S₁.alloc (o := { cls := .type "list", data := .seq (vs.toArray.toList.drop b).toArray }) rfl
  rw [show (({ s with heap := s.heap.push { cls := .type "slice", data := .fields #[.int (b : Nat) t, .none, .none] } } : Shared).heap.objs.size) = s.heap.objs.size + 1 from Heap.size_push ..] at h₂
  exact h Γ₂ _ _ S₂ (k₁.trans k₂) ⟨_, h₂, _, rfl⟩

/-- out of a call that hands over a new thing -/
theorem St.leave0n {Γ' : Heap} {own₂ : Own} (S : St w e Γ own s) (S' : St w ⟨s, [], own.as ++ e.hid⟩ Γ' own₂ s') (hm : (p, P) ∈ own₂) : St w e Γ' ((p, P) :: own) s' := by
  have S₀ := S.leave0 rfl S'
  have hpn : s.heap.get? p = none := (S'.new p (List.mem_map_of_mem (f := Prod.fst) hm)).resolve_left (by simp)
  refine ⟨S₀.g, S₀.see, fun q hq => ?_, fun b hb => ?_, List.nodup_cons.mpr ⟨S.ne_own hpn, S.nd⟩, S₀.keep, fun b hb => ?_, S₀.elv, S₀.hlv, fun b hb => .tail _ (S₀.wown b hb), S₀.os, S₀.gens⟩
  · rcases List.mem_cons.mp hq with rfl | hq
    · exact S'.has _ hm
    · exact S₀.has q hq
  · rcases hb with hb | hb
    · rcases List.mem_cons.mp hb with rfl | hb
      · exact S'.off _ (.inl (List.mem_map_of_mem (f := Prod.fst) hm))
      · exact S₀.off _ (.inl hb)
    · exact S₀.off _ (.inr hb)
  · rcases List.mem_cons.mp hb with rfl | hb
    · exact .inr (S.enone hpn)
    · exact S₀.new _ hb
end



/-! the table of a set: its places rise -/
namespace SetFacts
def Rising (xs : Array Nat) : Prop := ∀ i j, i < j → j < xs.size → xs.getD i 0 < xs.getD j 0

theorem getD_of_lt {xs : Array Nat} {i d d' : Nat} (h : i < xs.size) : xs.getD i d = xs.getD i d' := by
  simp [Array.getD, h]

theorem below_go {xs : Array Nat} (hr : Rising xs) (j : Nat) : ∀ fuel lo hi, lo ≤ hi → hi ≤ xs.size → hi - lo ≤ fuel → (∀ i, i < lo → xs.getD i 0 < j) → (∀ i, hi ≤ i → i < xs.size → j ≤ xs.getD i 0) →
    (SetTable.below.go xs j fuel lo hi ≤ xs.size ∧ (∀ i, i < SetTable.below.go xs j fuel lo hi → xs.getD i 0 < j) ∧ ∀ i, SetTable.below.go xs j fuel lo hi ≤ i → i < xs.size → j ≤ xs.getD i 0)
  | 0, lo, hi, h1, h2, h3, a, b => by
    have : lo = hi := by omega
    subst this
    exact ⟨h2, a, b⟩
  | fuel + 1, lo, hi, h1, h2, h3, a, b => by
    unfold SetTable.below.go
    split
    · rename_i hlt
      have hm : (lo + hi) / 2 < xs.size := by omega
      dsimp only
      rw [getD_of_lt (d' := 0) hm]
      by_cases hj : xs.getD ((lo + hi) / 2) 0 < j
      · rw [if_pos hj]
        refine below_go hr j fuel ((lo + hi) / 2 + 1) hi (by omega) h2 (by omega) (fun i hi' => ?_) b
        by_cases e : i = (lo + hi) / 2
        · rw [e]; exact hj
        · exact Nat.lt_trans (hr i _ (by omega) hm) hj
      · rw [if_neg hj]
        refine below_go hr j fuel lo ((lo + hi) / 2) (by omega) (by omega) (by omega) a (fun i hi' hi'' => ?_)
        by_cases e : i = (lo + hi) / 2
        · rw [e]; omega
        · exact Nat.le_of_lt (Nat.lt_of_le_of_lt (Nat.not_lt.mp hj) (hr _ i (by omega) hi''))
    · have : lo = hi := by omega
      subst this
      exact ⟨h2, a, b⟩

theorem below_spec {xs : Array Nat} (hr : Rising xs) (j : Nat) :
    SetTable.below xs j ≤ xs.size ∧ (∀ i, i < SetTable.below xs j → xs.getD i 0 < j) ∧ ∀ i, SetTable.below xs j ≤ i → i < xs.size → j ≤ xs.getD i 0 :=
  below_go hr j xs.size 0 xs.size (Nat.zero_le _) (Nat.le_refl _) (by omega) (fun i h => absurd h (Nat.not_lt_zero _)) (fun i h h' => absurd h' (Nat.not_lt.mpr h))

theorem below_eq {xs : Array Nat} (hr : Rising xs) (j k : Nat) (hk : k ≤ xs.size) (a : ∀ i, i < k → xs.getD i 0 < j) (b : ∀ i, k ≤ i → i < xs.size → j ≤ xs.getD i 0) : SetTable.below xs j = k := by
  obtain ⟨h1, h2, h3⟩ := below_spec hr j
  rcases Nat.lt_trichotomy (SetTable.below xs j) k with h | h | h
  · have := a _ h; have := h3 _ (Nat.le_refl _) (by omega); omega
  · exact h
  · have := h2 _ h; have := b _ (Nat.le_refl _) (by omega); omega

theorem insertAt_size {xs : Array Nat} {p x : Nat} (hp : p ≤ xs.size) : (SetTable.insertAt xs p x).size = xs.size + 1 := by
  simp [SetTable.insertAt]; omega
theorem insertAt_getD {xs : Array Nat} {p x : Nat} (hp : p ≤ xs.size) (i : Nat) (hi : i < xs.size + 1) :
    (SetTable.insertAt xs p x).getD i 0 = if i < p then xs.getD i 0 else if i = p then x else xs.getD (i - 1) 0 := by
  have hs : i < (SetTable.insertAt xs p x).size := by rw [insertAt_size hp]; exact hi
  have e1 : (SetTable.insertAt xs p x).getD i 0 = ((SetTable.insertAt xs p x).toList)[i]?.getD 0 := by
    simp [Array.getD, hs]
  have e2 : ∀ k, k < xs.size → xs.getD k 0 = (xs.toList)[k]?.getD 0 := fun k hk => by simp [Array.getD, hk]
  rw [e1, SetTable.toList_insertAt]
  have hpl : p ≤ xs.toList.length := by simpa using hp
  split
  · rename_i h
    rw [List.getElem?_append_left (by simp; omega), List.getElem?_take_of_lt h, e2 i (by omega)]
  · rename_i h
    rw [List.getElem?_append_right (by simp; omega)]
    have hl : (xs.toList.take p).length = p := by rw [List.length_take]; omega
    rw [hl]
    split
    · rename_i h'; subst h'; simp
    · rename_i h'
      obtain ⟨k, rfl⟩ : ∃ k, i = p + 1 + k := ⟨i - p - 1, by omega⟩
      rw [show p + 1 + k - p = k + 1 by omega, List.getElem?_cons_succ, List.getElem?_drop, show p + 1 + k - 1 = p + k by omega, e2 (p + k) (by omega)]

theorem rising_insert {xs : Array Nat} (hr : Rising xs) {j : Nat} (hj : ∀ i, i < xs.size → xs.getD i 0 ≠ j) : Rising (SetTable.insertAt xs (SetTable.below xs j) j) := by
  obtain ⟨h1, h2, h3⟩ := below_spec hr j
  generalize SetTable.below xs j = p at h1 h2 h3
  intro a b hab hb
  rw [insertAt_size h1] at hb
  rw [insertAt_getD h1 a (by omega), insertAt_getD h1 b hb]
  by_cases ha' : a < p
  · rw [if_pos ha']
    by_cases hb' : b < p
    · rw [if_pos hb']; exact hr a b hab (by omega)
    · rw [if_neg hb']
      by_cases hbe : b = p
      · rw [if_pos hbe]; exact h2 a ha'
      · rw [if_neg hbe]; exact Nat.lt_of_lt_of_le (h2 a ha') (h3 (b - 1) (by omega) (by omega))
  · rw [if_neg ha', if_neg (show ¬ b < p by omega)]
    by_cases hae : a = p
    · rw [if_pos hae, if_neg (show ¬ b = p by omega)]
      exact Nat.lt_of_le_of_ne (h3 (b - 1) (by omega) (by omega)) (Ne.symm (hj _ (by omega)))
    · rw [if_neg hae, if_neg (show ¬ b = p by omega)]
      exact hr _ _ (by omega) (by omega)

theorem not_in_of_slot {t : SetTable} (hr : Rising t.place) {j : Nat} (h : ∀ i, t.slot j ≠ .live i) : ∀ i, i < t.place.size → t.place.getD i 0 ≠ j := by
  intro i hi e
  have hb := below_eq hr j i (Nat.le_of_lt hi) (fun k hk => by rw [← e]; exact hr k i hk hi) (fun k hk hk' => by
    rw [← e]
    rcases Nat.lt_or_eq_of_le hk with h | h
    · exact Nat.le_of_lt (hr i k h hk')
    · rw [h]; exact Nat.le_refl _)
  have he : t.place[i]? = some j := by rw [← e]; simp [Array.getD, hi]
  refine h i ?_
  unfold SetTable.slot
  simp only [hb, he, beq_self_eq_true, if_true]

/-- a probe ends at a place that holds nothing -/
theorem probe_free {t : SetTable} {f : Nat → Int} {h : Int} : ∀ fuel (p : SetTable.Probe), (∀ d, p.dummy = some d → ∀ i, t.slot d ≠ .live i) → ∀ j dm, SetTable.probe.go t f h fuel p = some (.empty j dm) →
    (∀ i, t.slot j ≠ .live i) ∧ ∀ d, dm = some d → ∀ i, t.slot d ≠ .live i
  | 0, p, hp, j, dm, e => by simp [SetTable.probe.go] at e
  | fuel + 1, p, hp, j, dm, e => by
    unfold SetTable.probe.go at e
    split at e
    · rename_i hs
      cases e
      exact ⟨fun i => by rw [hs]; exact nofun, hp⟩
    · rename_i hs
      refine probe_free fuel _ (fun d hd i => ?_) j dm e
      have : d = p.j := by
        unfold SetTable.advance at hd
        dsimp only at hd
        split at hd <;> exact (Option.some.inj hd).symm
      rw [this, hs]; exact nofun
    · split at e
      · cases e
      · refine probe_free fuel _ (fun d hd => hp d ?_) j dm e
        unfold SetTable.advance at hd
        split at hd <;> exact hd

theorem freeSlot_free {t : SetTable} {h : Int} {slot : Nat} {b : Bool} (e : t.freeSlot h = some (slot, b)) : ∀ i, t.slot slot ≠ .live i := by
  unfold SetTable.freeSlot at e
  split at e
  · rename_i j dummy hp
    obtain ⟨h1, h2⟩ := probe_free _ _ (fun d hd => by cases hd) _ _ hp
    cases e
    cases dummy with
    | none => exact h1
    | some d => exact h2 d rfl
  · cases e

theorem rising_range (n : Nat) : Rising (Array.range n) := fun i j hij hj => by
  have hj' : j < n := by simpa using hj
  have hi' : i < n := by omega
  simp [Array.getD, hj', hi', hij]

def Good (b : Bool) (t : SetTable) : Prop := (b = true ∨ t.led = true) ∧ Rising t.place
theorem Good.standIn {b : Bool} {t : SetTable} (g : Good b t) (n : Nat) : Good b (t.standIn n) := ⟨g.1, rising_range n⟩
theorem Good.orStandIn {b : Bool} {t : SetTable} (g : Good b t) (n : Nat) : Good b (t.orStandIn n) := by
  unfold SetTable.orStandIn
  split
  · exact g
  · exact g.standIn n
theorem Good.plain {b p : Bool} {t : SetTable} (g : Good b t) : Good b { t with plain := p } := g
theorem Good.layNew {b : Bool} {t : SetTable} (g : Good b t) (es : Array (Int × Value)) (h : Int) (x : Value) : Good b (layNew t es h x).2.1 := by
  unfold PySem.layNew
  split
  · rename_i slot wd e
    dsimp only
    refine Good.orStandIn (t := (t.put slot).1) ⟨g.1, ?_⟩ _
    exact rising_insert g.2 (not_in_of_slot g.2 (freeSlot_free e))
  · exact g.standIn _

theorem rising_of_sorted {l : List Nat} (h : l.Pairwise (· < ·)) : Rising l.toArray := fun i j hij hj => by
  have hj' : j < l.length := by simpa using hj
  have := List.pairwise_iff_getElem.mp h i j (by omega) hj' hij
  simp [Array.getD, hj', show i < l.length by omega, this]
theorem filterMap_sorted {α : Type} (f : Nat → Option (Nat × α)) (hf : ∀ j x, f j = some x → x.1 = j) : ∀ l : List Nat, l.Pairwise (· < ·) → ((l.filterMap f).map (·.1)).Pairwise (· < ·) ∧ ∀ y ∈ (l.filterMap f).map (·.1), y ∈ l
  | [], _ => by simp
  | j :: r, h => by
    obtain ⟨h1, h2⟩ := List.pairwise_cons.mp h
    obtain ⟨a, b⟩ := filterMap_sorted f hf r h2
    cases e : f j with
    | none =>
      rw [List.filterMap_cons_none e]
      exact ⟨a, fun y hy => .tail _ (b y hy)⟩
    | some x =>
      rw [List.filterMap_cons_some e, List.map_cons, hf j x e]
      exact ⟨List.pairwise_cons.mpr ⟨fun y hy => h1 y (b y hy), a⟩, fun y hy => (List.mem_cons.mp hy).elim (fun z => z ▸ .head _) fun z => .tail _ (b y z)⟩
theorem Good.relayAll {b : Bool} {t : SetTable} (g : Good b t) (es : Array (Int × Value)) (n : Nat) : Good b (relayAll t es n).2.1 := by
  unfold PySem.relayAll
  split
  · rename_i t' order e
    dsimp only
    split
    · unfold SetTable.relaid SetTable.laid at e
      obtain ⟨owner, _, e⟩ := Option.bind_eq_some_iff.mp e
      cases e
      refine ⟨g.1, rising_of_sorted (filterMap_sorted _ (fun j x hx => ?_) _ List.pairwise_lt_range).1⟩
      obtain ⟨y, _, rfl⟩ := Option.map_eq_some_iff.mp hx
      rfl
    · exact g.standIn _
  · exact g.standIn _
theorem Good.fresh {b : Bool} {f m : Nat} : Good b (.fresh f m (!b)) := ⟨by cases b <;> simp [SetTable.fresh], fun i j _ hj => absurd hj (by simp [SetTable.fresh])⟩
end SetFacts



section
variable {w : World} {A : Around} {E : Value → Shared → Prop} {s : Shared} {a : Addr} {ks : List Int} {k : Int} {t : Tok}

abbrev byText (w : World) : Bool := w.params.followText "set-order"
def keyOf (e : Int × Value) : Int := match e.2 with | .int k _ => k | _ => 0
def IntEs (l : List (Int × Value)) : Prop := ∀ e ∈ l, ∃ k t, e = (hashInt k, .int k t)
/-- a set of ints, in the order of its table -/
def SetO (w : World) (ks : List Int) (o : Obj) : Prop :=
  o.ExactSet ∧ ∃ es ep tb, o.data = .set es ep tb ∧ IntEs es.toList ∧ es.toList.map keyOf = ks ∧ es.size < scanBound ∧ tb.fits es.size = true ∧ SetFacts.Good (byText w) tb

theorem IntEs.elems {l : List (Int × Value)} (h : IntEs l) : ElemsOf (intKind pg w) l := fun e he => by
  obtain ⟨k, t, rfl⟩ := h e he
  exact ⟨⟨k, intKind_is _ _ _ _, rfl⟩, rfl⟩
theorem IntEs.perm {l l' : List (Int × Value)} (h : IntEs l) (p : l'.Perm l) : IntEs l' := fun e he => h e (p.mem_iff.mp he)
theorem IntEs.find {l : List (Int × Value)} (h : IntEs l) : (l.findIdx? fun e => (intKind pg w).is k e.2).isSome = decide (k ∈ l.map keyOf) := by
  induction l with
  | nil => simp
  | cons e r ih =>
    obtain ⟨k', t', rfl⟩ := h e (.head _)
    have ih := ih fun e he => h e (.tail _ he)
    have hi : (intKind pg w).is k (Value.int k' t') = (k' == k) := rfl
    rw [List.findIdx?_cons, hi]
    by_cases hk : k = k'
    · subst hk; simp [keyOf]
    · rw [beq_eq_false_iff_ne.mpr (Ne.symm hk)]
      have : (k ∈ ((hashInt k', Value.int k' t') :: r).map keyOf) ↔ k ∈ r.map keyOf := by
        rw [List.map_cons, List.mem_cons]; exact ⟨fun z => z.resolve_left hk, .inr⟩
      simp only [decide_eq_decide.mpr this, ← ih]
      simp

theorem SetO.store {o : Obj} {es es' : Array (Int × Value)} {ep : Nat} {tb tb' : SetTable} {h : Heap} (ho : h.get? a = some o) (hex : o.ExactSet) (hd : o.data = .set es ep tb)
    (h1 : IntEs es'.toList) (h2 : es'.size < scanBound) (h3 : tb'.fits es'.size = true) (h4 : SetFacts.Good (byText w) tb') :
    (h.update a (Obj.putSet es' tb')).get? a = some { o with data := .set es' (ep + 1) tb' } ∧ SetO w (es'.toList.map keyOf) { o with data := .set es' (ep + 1) tb' } := by
  have hg := Heap.get?_update_self (Obj.putSet es' tb') ho (by rw [putSet_of es' tb' hd]; rfl)
  rw [putSet_of es' tb' hd] at hg
  exact ⟨hg, hex, es', ep + 1, tb', rfl, h1, rfl, h2, h3, h4⟩

theorem add_tail {g : Bool → Sem Unit} (hgv : ∀ (b : Bool) (s₁ : Shared) (Q' : Unit → Shared → Prop), Q' () s₁ → wpAny (model pg w) A (g b) Q' E s₁)
    {o : Obj} {es : Array (Int × Value)} {ep : Nat} {t : SetTable} (ho : s.heap.get? a = some o) (hex : o.ExactSet) (hd : o.data = .set es ep t)
    {es1 : Array (Int × Value)} {t2 : SetTable} (hI : IntEs es1.toList) (hb1 : es1.size < scanBound) (hf2 : t2.fits es1.size = true) (hg : SetFacts.Good (byText w) t2) {wasDummy : Bool} {R : Option Bool → Shared → Prop}
    (h : ∀ h' ks', Heap.SameBut a s.heap h' → ks'.Perm (es1.toList.map keyOf) → At h' a (SetO w ks') → R (some true) { s with heap := h' }) :
    wpAny (model pg w) A (do
        storeSet a es1 t2
        if (!wasDummy && t2.tooFull) = true then do
            g (relayAll t2 es1 (SetTable.grown es1.size)).2.2
            storeSet a (relayAll t2 es1 (SetTable.grown es1.size)).1 (relayAll t2 es1 (SetTable.grown es1.size)).2.1
            pure (some true)
          else pure (some true)) R E s := by
  refine wpAny_bind (wpAny_storeSet_of ho hd ?_ (fits_of_scanBound hb1))
  obtain ⟨ho1, hS1⟩ := SetO.store ho hex hd hI hb1 hf2 hg
  have hsb1 := Heap.SameBut.update s.heap a (Obj.putSet es1 t2)
  split
  · have hp := relayAll_perm t2 es1 (SetTable.grown es1.size)
    have hfr := relayAll_fits t2 es1 (SetTable.grown es1.size)
    have hgr := hg.relayAll es1 (SetTable.grown es1.size)
    generalize hRl : relayAll t2 es1 (SetTable.grown es1.size) = Rl at hp hfr hgr ⊢
    obtain ⟨es2, t3, gave2⟩ := Rl
    dsimp only at hp hfr hgr ⊢
    have hsz : es2.size = es1.size := by rw [← Array.length_toList, hp.length_eq, Array.length_toList]
    have hb2 : es2.size < scanBound := by rw [hsz]; exact hb1
    refine wpAny_bind (hgv _ _ _ ?_)
    refine wpAny_bind (wpAny_storeSet_of ho1 rfl ?_ (fits_of_scanBound hb2))
    obtain ⟨ho2, hS2⟩ := SetO.store (w := w) ho1 hex rfl (hI.perm hp) hb2 hfr hgr
    exact wpAny_pure (h _ _ (hsb1.trans (Heap.SameBut.update _ a _)) (hp.map keyOf) ⟨_, ho2, hS2⟩)
  · exact wpAny_pure (h _ _ hsb1 (.refl _) ⟨_, ho1, hS1⟩)

theorem set_add {Q : Bool → Shared → Prop} (hS : At s.heap a (SetO w ks)) (hroom : ks.length + 1 < scanBound)
    (h : ∀ b h' ks', Heap.SameBut a s.heap h' → At h' a (SetO w ks') → (k ∈ ks ∧ ks' = ks ∨ k ∉ ks ∧ ks'.Perm (ks ++ [k])) → Q b { s with heap := h' }) :
    wpAny (model pg w) A (setAddHashed a (.int k t) (hashInt k)) Q E s := by
  obtain ⟨o, ho, hex, es, ep, tb, hd, hI, hks, hb, hf, hg⟩ := id hS
  have hel := hI.elems (w := w)
  have hb1 : es.size + 1 < scanBound := by
    have : ks.length = es.size := by rw [← hks]; simp
    omega
  have hkey : (intKind pg w).is k (.int k t) = true := intKind_is _ _ _ _
  change wpAny _ _ (setAddHashed a (.int k t) ((intKind pg w).hash k)) _ _ _
  unfold setAddHashed setAddHashedIn
  refine wpAny_holding (wpAny_bind (wpAny_setState_of ho hd hf ?_))
  dsimp only
  rw [byScan_of rfl hb hel]
  simp only [↓reduceIte]
  unfold setAddByScan
  refine wpAny_bind ?_
  refine wpAny_bind (wpAny_rule ?_)
  refine wpAny_bind (wpAny_setScan_of (knd := intKind pg w) hkey ho hd hf hel ?_)
  have hfind := hI.find (w := w) (k := k)
  rw [hks] at hfind
  cases hr : es.toList.findIdx? (fun e => (intKind pg w).is k e.2) with
  | some j =>
    rw [hr] at hfind
    have hm : k ∈ ks := of_decide_eq_true hfind.symm
    dsimp only
    exact wpAny_pure (wpAny_pure (by
      have := h false s.heap ks (.refl _ _) hS (.inl ⟨hm, rfl⟩)
      exact this))
  | none =>
    rw [hr] at hfind
    have hm : k ∉ ks := of_decide_eq_false hfind.symm
    dsimp only
    have hgw : ∀ (b : Bool) {s₁ : Shared} {Q' : Unit → Shared → Prop}, Q' () s₁ → wpAny (model pg w) A (match b with | true => rule "set.scan.the-table-gave-way" | false => pure ()) Q' E s₁ :=
      fun b s₁ Q' hq => by cases b <;> first | exact wpAny_pure hq | exact wpAny_rule hq
    have hperm := layNew_perm tb es ((intKind pg w).hash k) (.int k t)
    have hfits := layNew_fits tb es ((intKind pg w).hash k) (.int k t)
    have hgood := hg.layNew es ((intKind pg w).hash k) (.int k t)
    generalize hL : layNew tb es ((intKind pg w).hash k) (.int k t) = L at hperm hfits hgood ⊢
    obtain ⟨es1, t1, wasDummy, gave⟩ := L
    dsimp only at hperm hfits hgood ⊢
    rw [Array.toList_push] at hperm
    have hI1 : IntEs es1.toList := IntEs.perm (by
      intro e he
      rcases List.mem_append.mp he with he | he
      · exact hI e he
      · exact ⟨k, t, List.mem_singleton.mp he⟩) hperm
    have hks1 : (es1.toList.map keyOf).Perm (ks ++ [k]) := by
      have := hperm.map keyOf
      rw [List.map_append, hks] at this
      exact this
    have hsz1 : es1.size = es.size + 1 := by rw [← Array.length_toList, hperm.length_eq, List.length_append, Array.length_toList]; rfl
    refine wpAny_bind (hgw _ ?_)
    split
    · refine wpAny_bind ?_
      rw [hashByValue_scannable 8 (show (Value.int k t).scannable = true from rfl)]
      refine wpAny_pure ?_
      refine add_tail ?_ ho hex hd hI1 (by omega) ?_ ?_ ?_
      · intro b s₁ Q' hq; cases b <;> first | exact wpAny_pure hq | exact wpAny_rule hq
      · split
        · exact hfits
        · exact SetTable.fits_plain_off hfits
      · split
        · exact hgood
        · exact hgood
      · intro h' ks' hsb hp hS'; dsimp only; exact wpAny_pure (h _ _ _ hsb hS' (.inr ⟨hm, hp.trans hks1⟩))
    · refine wpAny_bind (wpAny_pure ?_)
      simp only [↓reduceIte]
      refine add_tail ?_ ho hex hd hI1 (by omega) hfits hgood ?_
      · intro b s₁ Q' hq; cases b <;> first | exact wpAny_pure hq | exact wpAny_rule hq
      · intro h' ks' hsb hp hS'; dsimp only; exact wpAny_pure (h _ _ _ hsb hS' (.inr ⟨hm, hp.trans hks1⟩))
end



section
theorem owner_si : Manifest.owners.lookup (String.ofList ['r', 'o', 't', 'a', 'r', 'e', 't', 'i', '_', 't', 'e', 's'].reverse) = some Manifest.sig_set_iterator := by kernel_rfl
theorem slot_si_next : Slot "set_iterator" "__next__" "set_iterator.__next__" :=
  .of (owner := "set_iterator") (n := "__next__") (by rw [typeLookup_type, builtinLookup_eq_fast]; kernel_rfl) (by decide +kernel) (by decide +kernel) (by decide +kernel)
    (by first | exact .inl (by decide +kernel) | exact .inr (by decide +kernel)) (by rw [isSubtype_type]; kernel_rfl)
theorem entry_si_next : entryFor table "set_iterator.__next__" = some Builtin.«set_iterator.__next__» := entryFor_of_tree (by kernel_rfl)
theorem args_si_next_1 (a : Value) : argsOk "set_iterator.__next__" ⟨[a], []⟩ := by
  unfold argsOk; rw [signature?_of (id := "set_iterator.__next__") (n := ['_', '_', 't', 'x', 'e', 'n', '_', '_']) (o := ['r', 'o', 't', 'a', 'r', 'e', 't', 'i', '_', 't', 'e', 's']) (by kernel_rfl) owner_si]; kernel_rfl
theorem slot_si_iter : Slot "set_iterator" "__iter__" "set_iterator.__iter__" :=
  .of (owner := "set_iterator") (n := "__iter__") (by rw [typeLookup_type, builtinLookup_eq_fast]; kernel_rfl) (by decide +kernel) (by decide +kernel) (by decide +kernel)
    (by first | exact .inl (by decide +kernel) | exact .inr (by decide +kernel)) (by rw [isSubtype_type]; kernel_rfl)
theorem entry_si_iter : entryFor table "set_iterator.__iter__" = some Builtin.«dict_keyiterator.__iter__» :=
  entryFor_alias (id' := "dict_keyiterator.__iter__") (by rw [fastTable_eq_tree]; kernel_rfl) rfl (by rw [PySem.W.Fast.canonicalY_eq]; decide +kernel) (by rw [fastTable_eq_tree]; kernel_rfl)
theorem args_si_iter_1 (a : Value) : argsOk "set_iterator.__iter__" ⟨[a], []⟩ := by
  unfold argsOk; rw [signature?_of (id := "set_iterator.__iter__") (n := ['_', '_', 'r', 'e', 't', 'i', '_', '_']) (o := ['r', 'o', 't', 'a', 'r', 'e', 't', 'i', '_', 't', 'e', 's']) (by kernel_rfl) owner_si]; kernel_rfl
theorem entry_set_iter : entryFor table "set.__iter__" = some Builtin.«frozenset.__iter__» :=
  entryFor_alias (id' := "frozenset.__iter__") (by rw [fastTable_eq_tree]; kernel_rfl) rfl (by rw [PySem.W.Fast.canonicalY_eq]; decide +kernel) (by rw [fastTable_eq_tree]; kernel_rfl)

variable {w : World} {A : Around} {E : Value → Shared → Prop} {s : Shared} {a I : Addr} {ks : List Int}

theorem wpAny_choose {src : Source} {n : Nat} {Q : Nat → Shared → Prop} (hn : 0 < n) (h : ∀ i d, i < n → Q i { s with drawn := d }) : wpAny (model pg w) A (choose src n) Q E s := by
  intro Γ p hΓ
  show Sem.wp _ _ (.choose src n .pure) _ _ _ _
  rw [Sem.wp_choose]
  refine ⟨by omega, ?_⟩
  exact h _ _ (Nat.mod_lt _ hn)

theorem erase_perm {α : Type} : ∀ {xs : List α} {i : Nat} (h : i < xs.length), (xs[i] :: xs.eraseIdx i).Perm xs
  | x :: xs, 0, _ => .refl _
  | x :: xs, i + 1, h => by
    simp only [List.getElem_cons_succ, List.eraseIdx_cons_succ]
    exact (List.Perm.swap _ _ _).trans ((erase_perm (Nat.lt_of_succ_lt_succ h)).cons _)
theorem wpAny_drawOrder {α : Type} : ∀ (n : Nat) (xs : List α) (s : Shared) (Q : List α → Shared → Prop), xs.length = n → (∀ ys d, ys.Perm xs → Q ys { s with drawn := d }) → wpAny (model pg w) A (drawOrder n xs) Q E s
  | 0, xs, s, Q, hn, h => by
    obtain rfl := List.eq_nil_of_length_eq_zero hn
    exact wpAny_pure (h [] s.drawn (.refl _))
  | n + 1, [], s, Q, hn, h => by simp at hn
  | n + 1, x :: xs, s, Q, hn, h => by
    unfold drawOrder
    refine wpAny_bind (wpAny_choose (by simp) fun i d hi => ?_)
    have hi' : i < (x :: xs).length := hi
    rw [List.getElem?_eq_getElem hi']
    dsimp only
    refine wpAny_bind (wpAny_drawOrder n _ _ _ (by rw [List.length_eraseIdx_of_lt hi', hn]; rfl) fun ys d' hp => ?_)
    refine wpAny_pure (h _ d' ?_)
    exact (hp.cons _).trans (erase_perm hi')

theorem pick_go {α : Type} (next : Nat → Nat) : ∀ (fuel k : Nat) (left : List α) (out : Array α), left.length ≤ fuel → (pickOrder.go next fuel k left out).toList.Perm (out.toList ++ left)
  | 0, k, left, out, h => by
    obtain rfl := List.eq_nil_of_length_eq_zero (Nat.le_zero.mp h)
    simp [pickOrder.go]
  | fuel + 1, k, [], out, h => by simp [pickOrder.go]
  | fuel + 1, k, x :: xs, out, h => by
    have hi : next k % (x :: xs).length < (x :: xs).length := Nat.mod_lt _ (by simp)
    unfold pickOrder.go
    rw [List.getElem?_eq_getElem hi]
    dsimp only
    refine (pick_go next fuel (k + 1) _ _ (by rw [List.length_eraseIdx_of_lt hi]; simp at h ⊢; omega)).trans ?_
    rw [Array.toList_push, List.append_assoc]
    exact (List.Perm.refl _).append (erase_perm hi)
theorem pick_perm {α : Type} (next : Nat → Nat) (xs : Array α) : (pickOrder next xs).toList.Perm xs.toList := by
  have := pick_go next xs.size 0 xs.toList #[] (by simp)
  simpa [pickOrder] using this

def slotAt (tb : SetTable) (j : Nat) : Nat := if j = 0 then 0 else tb.place.getD (j - 1) 0 + 1
theorem below_slotAt {tb : SetTable} (hr : SetFacts.Rising tb.place) {j : Nat} (hj : j ≤ tb.place.size) : SetTable.below tb.place (slotAt tb j) = j := by
  unfold slotAt
  split
  · rename_i h
    subst h
    exact SetFacts.below_eq hr _ _ hj (fun i hi => absurd hi (by omega)) fun i _ _ => Nat.zero_le _
  · refine SetFacts.below_eq hr _ _ hj (fun i hi => ?_) fun i h1 h2 => ?_
    · rcases Nat.lt_or_ge i (j - 1) with h | h
      · have := hr i (j - 1) h (by omega); omega
      · obtain rfl : i = j - 1 := by omega
        omega
    · exact hr (j - 1) i (by omega) h2

/-- how the walk goes -/
inductive Mode (w : World) (a : Addr) (es : Array (Int × Value)) (ep : Nat) (tb : SetTable) (h : Heap) : Value → Nat → List Int → Prop
  | text {j} : byText w = true → Mode w a es ep tb h (rawInt 0) j ((pickOrder (w.params.setOrder a ep) es).toList.map keyOf)
  | slots {j} : byText w = false → (!tb.plain && decide (es.size > 1)) = false → Mode w a es ep tb h (rawInt (slotAt tb j)) j (es.toList.map keyOf)
  | drawn {j p} {ps : List Nat} : IsTpl h p (ps.map fun (i : Nat) => rawInt i) → (∀ i ∈ ps, i < es.size) → Mode w a es ep tb h (.ref p) j (ps.map fun i => keyOf (es.getD i (0, .none)))

structure SIt (w : World) (I a : Addr) (fp : List Addr) (ord : List Int) (j : Nat) (h : Heap) : Prop where
  mk ::
  it : ∃ oa es ep tb o first, h.get? a = some oa ∧ oa.data = .set es ep tb ∧ IntEs es.toList ∧ tb.fits es.size = true ∧ SetFacts.Good (byText w) tb ∧ ord.length = es.size ∧
    h.get? I = some o ∧ o.cls = .type "set_iterator" ∧ o.data = .fields #[first, rawInt (j : Nat), .ref a, rawInt (es.size : Nat), rawInt (ep : Nat)] ∧ Mode w a es ep tb h first j ord ∧ (∀ p, first = .ref p → p ∈ fp ∧ p ≠ I)
  ne : a ≠ I
  inf : a ∈ fp ∧ I ∈ fp

section
variable {oa : Obj} {es : Array (Int × Value)} {ep : Nat} {tb : SetTable}
theorem w_byText {Q : Bool → Shared → Prop} (h : Q (byText w) s) : wpAny (model pg w) A setsByText Q E s := by
  unfold setsByText
  exact wpAny_bind (wpAny_askSetting (wpAny_pure h))
theorem setNext_text {slot j : Nat} {Q : Option (Value × Nat) → Shared → Prop} (hoa : s.heap.get? a = some oa) (hda : oa.data = .set es ep tb) (hf : tb.fits es.size = true) (hb : byText w = true)
    (h : Q (((pickOrder (w.params.setOrder a ep) es)[j]?).map fun e => (e.2, slot)) s) : wpAny (model pg w) A (setNext a slot j ep) Q E s := by
  unfold setNext
  refine wpAny_bind (wpAny_setState_of hoa hda hf ?_)
  dsimp only
  refine wpAny_bind (w_byText ?_)
  rw [if_pos hb]
  show wpAny _ _ (if (ep != ep) = true then _ else _) _ _ _
  rw [if_neg (by simp)]
  unfold setWalk
  refine wpAny_bind (wpAny_bind (wpAny_setState_of hoa hda hf ?_))
  dsimp only
  refine wpAny_bind (w_byText ?_)
  rw [if_pos hb]
  refine wpAny_bind (wpAny_askSetting ?_)
  exact wpAny_pure (wpAny_pure h)
theorem setNext_slots {slot j : Nat} {Q : Option (Value × Nat) → Shared → Prop} (hoa : s.heap.get? a = some oa) (hda : oa.data = .set es ep tb) (hf : tb.fits es.size = true) (hb : byText w = false) (hg : SetFacts.Good (byText w) tb)
    (hdr : (!tb.plain && decide (es.size > 1)) = false)
    (h : Q (match es[SetTable.below tb.place slot]?, tb.place[SetTable.below tb.place slot]? with | some (_, x), some j => some (x, j + 1) | _, _ => none) s) : wpAny (model pg w) A (setNext a slot j ep) Q E s := by
  have hled : tb.led = true := hg.1.resolve_left (by rw [hb]; exact Bool.false_ne_true)
  unfold setNext
  refine wpAny_bind (wpAny_setState_of hoa hda hf ?_)
  dsimp only
  refine wpAny_bind (w_byText ?_)
  rw [hb, if_neg (by decide)]
  refine wpAny_bind (wpAny_pure ?_)
  refine wpAny_ite_split (fun hd => ?_) (fun _ => ?_)
  · exact absurd (show (!tb.plain && decide (es.size > 1)) = true from hd) (by rw [hdr]; exact Bool.false_ne_true)
  refine wpAny_bind (wpAny_of_eq (a := ()) (by
    show (if (!tb.led && !es.isEmpty) = true then Sem.unsupported "set:maker-not-led" else pure ()) = pure ()
    rw [hled]; rfl) ?_)
  exact wpAny_pure h
end

/-- the field of the walk is moved on -/
theorem si_fields {o : Obj} {first ia in' ie x : Value} {j : Nat} {h0 : Heap} (ho : h0.get? I = some o) (hc : o.cls = .type "set_iterator") (hd : o.data = .fields #[first, rawInt (j : Nat), ia, in', ie]) :
    ∃ o', ((h0.update I (Obj.mapFields (·.setIfInBounds 0 x))).update I (Obj.mapFields (·.setIfInBounds 1 (rawInt ((j : Int) + 1))))).get? I = some o' ∧ o'.cls = .type "set_iterator" ∧ o'.data = .fields #[x, rawInt ((j + 1 : Nat)), ia, in', ie] :=
  ⟨_, Heap.get?_update_self _ (Heap.get?_update_self _ ho (Obj.isFreed_of_fields (Obj.data_mapFields hd _))) (Obj.isFreed_of_fields (Obj.data_mapFields (Obj.data_mapFields hd _) _)),
    (Obj.cls_mapFields ..).trans ((Obj.cls_mapFields ..).trans hc), by rw [Obj.data_mapFields (Obj.data_mapFields hd _)]; simp [rawInt]⟩
theorem si_field1 {o : Obj} {first ia in' ie : Value} {j : Nat} {h0 : Heap} (ho : h0.get? I = some o) (hc : o.cls = .type "set_iterator") (hd : o.data = .fields #[first, rawInt (j : Nat), ia, in', ie]) :
    ∃ o', (h0.update I (Obj.mapFields (·.setIfInBounds 1 (rawInt ((j : Int) + 1))))).get? I = some o' ∧ o'.cls = .type "set_iterator" ∧ o'.data = .fields #[first, rawInt ((j + 1 : Nat)), ia, in', ie] :=
  ⟨_, Heap.get?_update_self _ ho (Obj.isFreed_of_fields (Obj.data_mapFields hd _)),
    (Obj.cls_mapFields ..).trans hc, by rw [Obj.data_mapFields hd]; simp [rawInt]⟩
theorem IntEs.at {es : Array (Int × Value)} (h : IntEs es.toList) {e : Int × Value} (he : e ∈ es.toList) : ∃ t, e.2 = .int (keyOf e) t := by
  obtain ⟨k, t, rfl⟩ := h e he
  exact ⟨t, rfl⟩

theorem si_item {fp : List Addr} {ord : List Int} {j : Nat} {Q : Option Value → Shared → Prop} (S : SIt w I a fp ord j s.heap) (hj : j < ord.length)
    (h : ∀ h' t, SIt w I a fp ord (j + 1) h' → Heap.SameBut I s.heap h' → Q (some (.int ord[j] t)) { s with heap := h' }) : wpAny (model pg w) A (pyNext (.ref I)) Q E s := by
  obtain ⟨⟨oa, es, ep, tb, o, first, hoa, hda, hI, hf, hg, hlen, ho, hc, hd, hm, hfp⟩, hne, hin⟩ := id S
  have hT : s.TypeIs (.ref I) "set_iterator" := ⟨o, ho, hc⟩
  have hgo : ∀ h' o' x, Heap.SameBut I s.heap h' → h'.get? I = some o' → o'.cls = .type "set_iterator" → o'.data = .fields #[x, rawInt ((j + 1 : Nat)), .ref a, rawInt (es.size : Nat), rawInt (ep : Nat)] → Mode w a es ep tb h' x (j + 1) ord → (∀ p, x = .ref p → p ∈ fp ∧ p ≠ I) →
      SIt w I a fp ord (j + 1) h' := fun h' o' x hs ho' hc' hd' hm' hfp' =>
    ⟨⟨oa, es, ep, tb, o', x, (hs.2 a hne).trans hoa, hda, hI, hf, hg, hlen, ho', hc', hd', hm', hfp'⟩, hne, hin⟩
  unfold pyNext
  refine wpAny_bind (wpAny_attempt (wpAny_callSpecial?_slot (name := Str.ofString "__next__") hT slot_si_next
    (wpAny_call_entry slot_si_next hT entry_si_next ?_ (args_si_next_1 _))))
  show wpAny _ _ (fieldsOf (.ref I) >>= _) _ _ s
  refine wpAny_bind (wpAny_fieldsOf ho hd ?_)
  show wpAny _ _ (setEntries a >>= _) _ _ s
  refine wpAny_bind (wpAny_setEntries_of hoa hda hf ?_)
  show wpAny _ _ (if ((es.size : Int) != ((es.size : Nat) : Int)) = true then _ else _) _ _ s
  rw [if_neg (by simp)]
  have hlen' := hlen
  cases hm with
  | text hb =>
    show wpAny _ _ (setNext a 0 j ep >>= _) _ _ s
    refine wpAny_bind (setNext_text hoa hda hf hb ?_)
    have hj' : j < (pickOrder (w.params.setOrder a ep) es).size := by simpa using hj
    rw [Array.getElem?_eq_getElem hj']
    obtain ⟨t, ht⟩ := hI.at ((pick_perm _ _).mem_iff.mp (Array.getElem_mem_toList hj'))
    simp only [Option.map_some]
    show wpAny _ _ (setField (.ref I) 0 (rawInt 0) >>= _) _ _ s
    refine wpAny_bind (wpAny_setField ho hd (by simp) ?_)
    have ho1 := Heap.get?_update_self (Obj.mapFields (·.setIfInBounds 0 (rawInt 0))) ho (Obj.isFreed_of_fields (Obj.data_mapFields hd _))
    show wpAny _ _ (setField (.ref I) 1 (rawInt ((j : Int) + 1)) >>= _) _ _ _
    refine wpAny_bind (wpAny_setField ho1 (Obj.data_mapFields hd _) (by simp) ?_)
    refine wpAny_pure ⟨_, rfl, wpAny_pure ?_⟩
    rw [ht]
    obtain ⟨o', e1, e2, e3⟩ := si_fields (x := rawInt 0) ho hc hd
    have := h _ t (hgo _ o' _ ((Heap.SameBut.update ..).trans (Heap.SameBut.update ..)) e1 e2 e3 (.text hb) nofun) ((Heap.SameBut.update ..).trans (Heap.SameBut.update ..))
    simpa using this
  | slots hb hdr =>
    show wpAny _ _ (setNext a (slotAt tb j) j ep >>= _) _ _ s
    have hps : tb.place.size = es.size := by
      simp only [SetTable.fits, Bool.and_eq_true, beq_iff_eq] at hf; exact hf.1
    have hj' : j < es.size := by simpa using hj
    refine wpAny_bind (setNext_slots hoa hda hf hb hg hdr ?_)
    rw [below_slotAt hg.2 (by omega), Array.getElem?_eq_getElem hj', Array.getElem?_eq_getElem (show j < tb.place.size by omega)]
    obtain ⟨t, ht⟩ := hI.at (Array.getElem_mem_toList hj')
    have hsl : tb.place[j]'(by omega) + 1 = slotAt tb (j + 1) := by
      have h1 : j < tb.place.size := by omega
      simp [slotAt, Array.getD, h1]
    dsimp only
    rw [hsl]
    show wpAny _ _ (setField (.ref I) 0 (rawInt (slotAt tb (j + 1) : Nat)) >>= _) _ _ s
    refine wpAny_bind (wpAny_setField ho hd (by simp) ?_)
    have ho1 := Heap.get?_update_self (Obj.mapFields (·.setIfInBounds 0 (rawInt (slotAt tb (j + 1) : Nat)))) ho (Obj.isFreed_of_fields (Obj.data_mapFields hd _))
    show wpAny _ _ (setField (.ref I) 1 (rawInt ((j : Int) + 1)) >>= _) _ _ _
    refine wpAny_bind (wpAny_setField ho1 (Obj.data_mapFields hd _) (by simp) ?_)
    refine wpAny_pure ⟨_, rfl, wpAny_pure ?_⟩
    rw [ht]
    obtain ⟨o', e1, e2, e3⟩ := si_fields (x := rawInt (slotAt tb (j + 1) : Nat)) ho hc hd
    have := h _ t (hgo _ o' _ ((Heap.SameBut.update ..).trans (Heap.SameBut.update ..)) e1 e2 e3 (.slots hb hdr) nofun) ((Heap.SameBut.update ..).trans (Heap.SameBut.update ..))
    simpa using this
  | @drawn _ p ps hp hps =>
    have hpI := hfp p rfl
    show wpAny _ _ (seqItems? (.ref p) >>= _) _ _ s
    obtain ⟨op, hop, np, rfl⟩ := hp
    refine wpAny_bind (wpAny_seqItems hop rfl ?_)
    have hj' : j < ps.length := by simpa using hj
    dsimp only
    rw [show ((ps.map fun (i : Nat) => rawInt i).toArray)[((j : Nat) : Int).toNat]? = some (rawInt (ps[j] : Nat)) by simp [hj']]
    have hb' : ps[j] < es.size := hps _ (List.getElem_mem hj')
    obtain ⟨t, ht⟩ := hI.at (Array.getElem_mem_toList hb')
    show wpAny _ _ (setNextDrawn a ps[j] ep >>= _) _ _ s
    unfold setNextDrawn
    refine wpAny_bind (wpAny_bind (wpAny_setState_of hoa hda hf ?_))
    show wpAny _ _ (if (ep != ep) = true then _ else _) _ _ _
    rw [if_neg (by simp)]
    rw [Array.getElem?_eq_getElem hb']
    refine wpAny_pure ?_
    show wpAny _ _ (setField (.ref I) 1 (rawInt ((j : Int) + 1)) >>= _) _ _ _
    refine wpAny_bind (wpAny_setField ho hd (by simp) ?_)
    refine wpAny_pure ⟨_, rfl, wpAny_pure ?_⟩
    change Q (some (es[ps[j]].2)) _
    rw [ht]
    obtain ⟨o', e1, e2, e3⟩ := si_field1 ho hc hd
    have := h _ t (hgo _ o' _ (Heap.SameBut.update ..) e1 e2 e3 (.drawn ⟨_, ((Heap.SameBut.update s.heap I _).2 p hpI.2).trans hop, np, rfl⟩ hps) hfp) (Heap.SameBut.update ..)
    simpa [hb'] using this

theorem raise_stop {α : Type} {Q : α → Shared → Prop} (hh : A.handled = none) (h : ∀ e h', (∀ b o, s.heap.get? b = some o → h'.get? b = some o) → Shared.TypeIs { s with heap := h' } e "StopIteration" → E e { s with heap := h' }) :
    wpAny (model pg w) A (newExc (.type "StopIteration") [] >>= fun e => raiseNew e) Q E s := by
  refine wpAny_bind ?_
  simp only [newExc, newTuple]
  refine wpAny_bind (wpAny_newObj_type ?_ (by size_fits))
  refine wpAny_bind (m := firstArgMember _ _) (wpAny_of_eq (a := Value.none) (by first | rfl | (simp only [firstArgMember]; rfl)) ?_)
  refine wpAny_newObj_type ?_ (by size_fits)
  simp only [raiseNew]
  refine wpAny_bind (wpAny_handled ?_)
  rw [hh]
  refine wpAny_bind (wpAny_pure (wpAny_throw ?_))
  exact h _ _ (fun b o e => Heap.get?_push_of_some _ (Heap.get?_push_of_some _ e)) ⟨_, Heap.get?_push_size _ rfl, rfl⟩

theorem si_end {fp : List Addr} {ord : List Int} {Q : Option Value → Shared → Prop} (hh : A.handled = none) (S : SIt w I a fp ord ord.length s.heap)
    (h : ∀ h', (∀ b o, b ≠ I → s.heap.get? b = some o → h'.get? b = some o) → Q none { s with heap := h' }) : wpAny (model pg w) A (pyNext (.ref I)) Q E s := by
  obtain ⟨⟨oa, es, ep, tb, o, first, hoa, hda, hI, hf, hg, hlen, ho, hc, hd, hm, hfp⟩, hne, hin⟩ := id S
  have hT : s.TypeIs (.ref I) "set_iterator" := ⟨o, ho, hc⟩
  unfold pyNext
  refine wpAny_bind (wpAny_attempt (wpAny_callSpecial?_slot (name := Str.ofString "__next__") hT slot_si_next
    (wpAny_call_entry slot_si_next hT entry_si_next ?_ (args_si_next_1 _))))
  show wpAny _ _ (fieldsOf (.ref I) >>= _) _ _ s
  refine wpAny_bind (wpAny_fieldsOf ho hd ?_)
  show wpAny _ _ (setEntries a >>= _) _ _ s
  refine wpAny_bind (wpAny_setEntries_of hoa hda hf ?_)
  show wpAny _ _ (if ((es.size : Int) != ((es.size : Nat) : Int)) = true then _ else _) _ _ s
  rw [if_neg (by simp)]
  have fin : ∀ h1, (∀ b, b ≠ I → h1.get? b = s.heap.get? b) → ∀ (Q' : Fin → Shared → Prop), wpAny (model pg w) A.in1 (newExc (.type "StopIteration") [] >>= fun e => raiseNew e) Q'
      (fun e s' => wpAny (model pg w) A (do let __do_lift ← isInstance e (Value.type "StopIteration"); if __do_lift = true then pure none else throw e) Q E s') { s with heap := h1 } := by
    intro h1 hk Q'
    refine raise_stop (by rw [show A.in1.handled = A.handled from rfl, hh]) fun e h' hk' hT' => ?_
    refine wpAny_bind (wpAny_isInstance (T := "StopIteration") (b := true) hT' isSubtype_stop ?_)
    exact wpAny_pure (h _ fun b o hb e => hk' b o ((hk b hb).trans e))
  cases hm with
  | text hb =>
    show wpAny _ _ (setNext a 0 _ ep >>= _) _ _ s
    refine wpAny_bind (setNext_text hoa hda hf hb ?_)
    rw [Array.getElem?_eq_none (by simp)]
    show wpAny _ _ (setField (.ref I) 2 .none >>= _) _ _ s
    refine wpAny_bind (wpAny_setField ho hd (by simp) ?_)
    exact fin _ (fun b hb => (Heap.SameBut.update s.heap I _).2 b hb) _
  | slots hb hdr =>
    show wpAny _ _ (setNext a (slotAt tb _) _ ep >>= _) _ _ s
    have hps : tb.place.size = es.size := by
      simp only [SetTable.fits, Bool.and_eq_true, beq_iff_eq] at hf; exact hf.1
    refine wpAny_bind (setNext_slots hoa hda hf hb hg hdr ?_)
    rw [below_slotAt hg.2 (by simp [hps]), Array.getElem?_eq_none (by simp)]
    show wpAny _ _ (setField (.ref I) 2 .none >>= _) _ _ s
    refine wpAny_bind (wpAny_setField ho hd (by simp) ?_)
    exact fin _ (fun b hb => (Heap.SameBut.update s.heap I _).2 b hb) _
  | @drawn _ p ps hp hps =>
    show wpAny _ _ (seqItems? (.ref p) >>= _) _ _ s
    obtain ⟨op, hop, np, rfl⟩ := hp
    refine wpAny_bind (wpAny_seqItems hop rfl ?_)
    dsimp only
    rw [Array.getElem?_eq_none (by simp)]
    show wpAny _ _ (setField (.ref I) 0 (rawInt 0) >>= _) _ _ s
    refine wpAny_bind (wpAny_setField ho hd (by simp) ?_)
    have ho1 := Heap.get?_update_self (Obj.mapFields (·.setIfInBounds 0 (rawInt 0))) ho (Obj.isFreed_of_fields (Obj.data_mapFields hd _))
    show wpAny _ _ (setField (.ref I) 2 .none >>= _) _ _ _
    refine wpAny_bind (wpAny_setField ho1 (Obj.data_mapFields hd _) (by simp) ?_)
    exact fin _ (fun b hb => ((Heap.SameBut.update s.heap I _).trans (Heap.SameBut.update _ I _)).2 b hb) _

/-- a set is walked -/
theorem si_walks {fp : List Addr} {ord : List Int} (hh : A.handled = none) :
    Walks pg w A I (I :: a :: fp) [I] ord.length (fun i v => ∃ k t, ord[i]? = some k ∧ v = .int k t) (fun j h => SIt w I a (I :: a :: fp) ord j h) where
  sub := fun b hb => by rw [List.mem_singleton.mp hb]; exact .head _
  frame := fun i h h' st hk => by
    obtain ⟨⟨oa, es, ep, tb, o, first, hoa, hda, hI, hf, hg, hlen, ho, hc, hd, hm, hfp⟩, hne, hin⟩ := st
    refine ⟨⟨oa, es, ep, tb, o, first, hk _ hin.1 _ hoa, hda, hI, hf, hg, hlen, hk _ hin.2 _ ho, hc, hd, ?_, hfp⟩, hne, hin⟩
    cases hm with
    | text hb => exact .text hb
    | slots hb hdr => exact .slots hb hdr
    | drawn hp hps =>
      obtain ⟨op, hop, z⟩ := hp
      exact .drawn ⟨op, hk _ (hfp _ rfl).1 _ hop, z⟩ hps
  item := fun i s Q E hi st hQ => si_item st hi fun h' t st' hs => hQ _ h' s.toks ⟨_, t, List.getElem?_eq_getElem hi, rfl⟩ st' fun b o hb e => (hs.2 b (fun z => hb (z ▸ .head _))).trans e
  done := fun s Q E st hQ => si_end hh st fun h' hk => hQ h' s.toks fun b o hb e => hk b o (fun z => hb (z ▸ .head _)) e
  self := fun i s Q E st hQ => by
    obtain ⟨⟨oa, es, ep, tb, o, first, hoa, hda, hI, hf, hg, hlen, ho, hc, hd, hm, hfp⟩, hne, hin⟩ := st
    exact wpAny_pyIter_slot ⟨_, ho, hc⟩ slot_si_iter (wpAny_call_entry slot_si_iter ⟨_, ho, hc⟩ entry_si_iter (wpAny_pure ⟨_, rfl, "set_iterator", _, ⟨_, ho, hc⟩, slot_si_next.lookup, hQ⟩) (args_si_iter_1 _))
end



section
variable {w : World} {A : Around} {E : Value → Shared → Prop} {s : Shared} {a I : Addr} {ks : List Int}

theorem set_iter {Q : Value → Shared → Prop} (hS : At s.heap a (SetO w ks)) (hn : ks.length ≤ 1000)
    (h : ∀ I fp ord h' d, ord.Perm ks → SIt w I a (I :: a :: fp) ord 0 h' → (∀ b o, s.heap.get? b = some o → h'.get? b = some o) → I ≠ a → (∀ b, b = I ∨ b ∈ fp → s.heap.get? b = none) → Q (.ref I) { s with heap := h', drawn := d }) :
    wpAny (model pg w) A (pyIter (.ref a)) Q E s := by
  obtain ⟨o, ho, hex, es, ep, tb, hd, hI, hks, hb, hf, hg⟩ := id hS
  have hT : s.TypeIs (.ref a) "set" := ⟨o, ho, hex.1⟩
  have hlen : ks.length = es.size := by rw [← hks]; simp
  refine wpAny_pyIter_slot hT F.slot_set_iter (wpAny_call_entry F.slot_set_iter hT entry_set_iter ?_ (F.args_set_iter_1 _))
  show wpAny _ _ (Builtin.Frozenset.sizeOf a >>= _) _ _ s
  unfold Builtin.Frozenset.sizeOf
  refine wpAny_bind (wpAny_bind (wpAny_setEntries_of ho hd hf (wpAny_pure ?_)))
  unfold setDrawn
  refine wpAny_bind (wpAny_bind (wpAny_setState_of ho hd hf ?_))
  dsimp only
  refine wpAny_bind (w_byText (wpAny_pure ?_))
  have hlt := Heap.lt_size ho
  have fin : ∀ (s1 : Shared) (first : Value) (fp : List Addr) (ord : List Int), ord.Perm ks → (∃ d, s1 = { s with heap := s1.heap, drawn := d }) → (∀ b o, s.heap.get? b = some o → s1.heap.get? b = some o) → s.heap.objs.size ≤ s1.heap.objs.size →
      (∀ h', (∀ b o, s1.heap.get? b = some o → h'.get? b = some o) → Mode w a es ep tb h' first 0 ord) → (∀ p, first = .ref p → p ∈ fp ∧ p < s1.heap.objs.size) → (∀ b ∈ fp, s.heap.get? b = none) →
      wpAny (model pg w) A.in1 (do ret (← newFields "set_iterator" [first, rawInt 0, .ref a, rawInt (es.size : Nat), rawInt (← setEpoch a)]))
        (fun fin s' => ∃ v, fin = .done (.ret v) ∧ ∃ T' r, s'.TypeIs v T' ∧ typeLookup (.type T') "__next__" = pure (some r) ∧ Q v s') E s1 := by
    intro s1 first fp ord hp hs1 hk hsz hm hfp hfn
    refine wpAny_bind (wpAny_setEpoch_of (hk _ _ ho) hd hf ?_)
    refine wpAny_bind (wpAny_newObj_type ?_)
    refine wpAny_pure ⟨_, rfl, "set_iterator", _, ⟨_, Heap.get?_push_size _ rfl, rfl⟩, slot_si_next.lookup, ?_⟩
    obtain ⟨d, hs1⟩ := hs1
    have := h s1.heap.objs.size fp ord (s1.heap.push { cls := .type "set_iterator", data := .fields [first, rawInt 0, .ref a, rawInt (es.size : Nat), rawInt (ep : Nat)].toArray }) d hp
      ⟨⟨o, es, ep, tb, _, first, Heap.get?_push_of_some _ (hk _ _ ho), hd, hI, hf, hg, hp.length_eq.trans hlen, Heap.get?_push_size _ rfl, rfl, rfl, hm _ fun b o e => Heap.get?_push_of_some _ e,
        fun p e => ⟨.tail _ (.tail _ (hfp p e).1), Nat.ne_of_lt (hfp p e).2⟩⟩, Nat.ne_of_lt (Nat.lt_of_lt_of_le hlt hsz), .tail _ (.head _), .head _⟩
      (fun b o e => Heap.get?_push_of_some _ (hk b o e)) (Nat.ne_of_gt (Nat.lt_of_lt_of_le hlt hsz)) (fun b hb => by
        rcases hb with rfl | hb
        · exact get_ge hsz
        · exact hfn b hb)
    rw [hs1]
    rw [hs1] at this
    exact this
  cases hbt : byText w with
  | true =>
    rw [if_neg (by simp)]
    refine wpAny_bind (wpAny_pure ?_)
    exact fin s _ [] _ (hks ▸ (pick_perm _ _).map keyOf) ⟨s.drawn, rfl⟩ (fun _ _ e => e) (Nat.le_refl _) (fun h' _ => .text hbt) nofun nofun
  | false =>
    refine wpAny_ite_split (fun hdr => ?_) (fun hdr => ?_)
    · refine wpAny_bind (wpAny_drawOrder _ _ _ _ (by simp) fun ys d hp => ?_)
      have hly : ys.length = es.size := by rw [hp.length_eq]; simp
      refine wpAny_bind (wpAny_newTuple ?_ (le_line (by simp [hly]; omega)))
      have hm : ∀ i ∈ ys, i < es.size := fun i hi => by have := hp.mem_iff.mp hi; simpa using this
      refine fin _ _ [s.heap.objs.size] (ys.map fun i => keyOf (es.getD i (0, .none))) ?_ ⟨d, rfl⟩ (fun b o e => Heap.get?_push_of_some _ e) (by rw [Heap.size_push]; exact Nat.le_succ _) (fun h' hk => .drawn ⟨_, hk _ _ (Heap.get?_push_size _ rfl), 0, rfl⟩ hm) (fun p e => by cases e; exact ⟨.head _, by rw [Heap.size_push]; exact Nat.lt_succ_self _⟩) fun b hb => by rw [List.mem_singleton.mp hb]; exact get_ge (Nat.le_refl _)
      refine (hp.map _).trans ?_
      rw [← hks]
      refine List.Perm.of_eq ?_
      apply List.ext_getElem <;> simp
      intro i h1
      simp [h1]
    · refine wpAny_bind (wpAny_pure ?_)
      have hdr' : (!tb.plain && decide (es.size > 1)) = false := by
        have : ¬ ((!tb.plain && decide (es.size > 1)) = true) := fun z => hdr z
        simpa using this
      have hm : ∀ h', Mode w a es ep tb h' (rawInt 0) 0 (es.toList.map keyOf) := fun h' => by
        have := Mode.slots (a := a) (ep := ep) (h := h') (j := 0) hbt hdr'
        simpa [slotAt] using this
      exact fin s _ [] (es.toList.map keyOf) (by rw [hks]) ⟨s.drawn, rfl⟩ (fun _ _ e => e) (Nat.le_refl _) (fun h' _ => hm h') nofun nofun

theorem ints_of {vs : List Value} : ∀ {ns : List Int}, vs.length = ns.length → (∀ (i : Nat) v, vs[i]? = some v → ∃ k t, ns[i]? = some k ∧ v = .int k t) → IntsAre vs ns := by
  induction vs with
  | nil => intro ns hl _; obtain rfl := List.eq_nil_of_length_eq_zero hl.symm; exact .nil
  | cons v vs ih =>
    intro ns hl h
    cases ns with
    | nil => simp at hl
    | cons n ns =>
      obtain ⟨k, t, hk, rfl⟩ := h 0 v rfl
      obtain rfl : n = k := by simpa using hk
      exact .cons _ _ (ih (by simpa using hl) fun i v e => h (i + 1) v e)

theorem set_hint {Q : Bool → Shared → Prop} (hT : s.TypeIs (.ref a) "set") (h : Q false s) : wpAny (model pg w) A (Builtin.List.listLengthHint (.ref a)) Q E s := by
  unfold Builtin.List.listLengthHint
  refine wpAny_bind (wpAny_specialOf hT PySem.F.slot_set_len.lookup ?_)
  generalize hid : ("set.__len__" : String) = id0
  wp_delta
  rw [show splitId id0 = some ("set", "__len__") from by subst hid; decide +kernel]
  subst hid
  refine wpAny_bind (wpAny_isInstance (T := "set") (b := true) hT (by rw [isSubtype_type]; kernel_rfl) ?_)
  refine wpAny_ite_split (fun hab => absurd hab (by decide)) (fun _ => ?_)
  refine wpAny_ite_split (fun _ => ?_) (fun hab => absurd (by decide +kernel) hab)
  refine wpAny_bind (wpAny_typeOf hT ?_)
  exact wpAny_pure h

theorem set_collect {R : List Value → Shared → Prop} (hh : A.handled = none) (hS : At s.heap a (SetO w ks)) (hn : ks.length ≤ 1000)
    (h : ∀ h' tk d vs ns, IntsAre vs ns → ns.Perm ks → (∀ b o, s.heap.get? b = some o → h'.get? b = some o) → R vs { s with heap := h', toks := tk, drawn := d }) :
    wpAny (model pg w) A (collect (.ref a)) R E s := by
  obtain ⟨o, ho, hso⟩ := id hS
  have hlt := Heap.lt_size ho
  have hsz : ks.length ≤ sizeLine := le_line hn
  unfold collect
  refine wpAny_bind (wpAny_runValue (codeAny_builtin entry_proto_collect' ?_))
  rw [Around.under_plainId PySem.F.plain_proto_collect _]
  show wpAny _ A.in1 (newList [] >>= fun l => again (.builtin "list.__iadd__" ⟨[l, .ref a], []⟩)) _ _ s
  refine wpAny_bind (wpAny_newObj_type ?_)
  refine wpAny_pure ⟨plainId_quiet PySem.F.plain_list_iadd _, codeAny_builtin entry_list_iadd' ?_⟩
  rw [Around.under_plainId PySem.F.plain_list_iadd _]
  have hL : (s.heap.push { cls := .type "list", data := .seq ([] : List Value).toArray }).get? s.heap.objs.size = some { cls := .type "list", data := .seq #[] } := Heap.get?_push_size _ rfl
  have ho1 := Heap.get?_push_of_some { cls := .type "list", data := .seq ([] : List Value).toArray } ho
  show wpAny _ A.in1 (Builtin.List.listExtendWith (.ref s.heap.objs.size) (.ref a) (.ref s.heap.objs.size)) _ _ _
  have key : wpAny (model pg w) A.in1 (Builtin.List.listExtendWith (.ref s.heap.objs.size) (.ref a) (.ref s.heap.objs.size))
      (fun fin s' => match fin with
        | .done f => False
        | .again c' => c'.quiet = true ∧ codeAny (model pg w) A c' (fun q s' => ∃ h' tk d acc' c' ns, q = .ok (.ret (.ref s.heap.objs.size)) ∧ s' = { s with heap := h', toks := tk, drawn := d } ∧
          (∀ b o, s.heap.get? b = some o → h'.get? b = some o) ∧ h'.get? s.heap.objs.size = some { cls := .type "list", dict := none, data := .seq acc' c', slots := #[] } ∧ IntsAre acc'.toList ns ∧ ns.Perm ks) s') (fun e s' => False)
      { s with heap := s.heap.push { cls := .type "list", data := .seq ([] : List Value).toArray } } := by
    unfold Builtin.List.listExtendWith
    have hT : Shared.TypeIs { s with heap := s.heap.push { cls := .type "list", data := .seq ([] : List Value).toArray } } (.ref a) "set" := ⟨o, ho1, hso.1.1⟩
    refine wpAny_bind (wpAny_typeOf (T := "set") hT ?_)
    have h1 : Builtin.List.listSameRef (.ref s.heap.objs.size) (.ref a) = false := by simp [Builtin.List.listSameRef, Nat.ne_of_gt hlt]
    simp only [h1, show (Value.type "set" == Value.type "list") = false by decide, show (Value.type "set" == Value.type "tuple") = false by decide, Bool.or_false, Bool.false_eq_true, if_false]
    refine wpAny_bind (set_iter (w := w) (ks := ks) ⟨o, ho1, hso⟩ hn fun I fp ord h' d hp st hk hIa hnew => ?_)
    have hLI : s.heap.objs.size ≠ I := fun z => by
      have := hnew I (.inl rfl)
      rw [← z] at this
      rw [hL] at this; cases this
    have hLf : s.heap.objs.size ∉ I :: a :: fp := by
      intro hm
      rcases List.mem_cons.mp hm with z | hm
      · exact hLI z
      rcases List.mem_cons.mp hm with z | hm
      · exact Nat.ne_of_gt hlt z
      · have := hnew _ (.inr hm)
        rw [hL] at this; cases this
    have hT' : Shared.TypeIs { s with heap := h', drawn := d } (.ref a) "set" := ⟨o, hk _ _ ho1, hso.1.1⟩
    refine wpAny_bind (wpAny_holding (set_hint hT' ?_))
    refine wpAny_ite_split (fun _ => ?_) (fun hab => absurd (by decide) hab)
    refine wpAny_bind (wpAny_rule ?_)
    refine wpAny_bind ?_
    show wpAny _ _ (updateSeq s.heap.objs.size (·.push .none) >>= fun _ => updateSeq s.heap.objs.size (·.pop)) _ _ _
    have hS₁ := hk _ _ hL
    refine wpAny_bind (wpAny_updateSeq hS₁ rfl ?_)
    have hS₂ := Heap.get?_update_self (Obj.mapSeq (·.push Value.none)) hS₁ rfl
    refine wpAny_updateSeq (hz := by seq_fits) hS₂ rfl ?_
    have hS₃ := Heap.get?_update_self (Obj.mapSeq (·.pop)) hS₂ rfl
    have W := (si_walks (w := w) (A := A.in1) (I := I) (a := a) (fp := fp) (ord := ord) hh).toS
    have hoth : ∀ b o, b ≠ s.heap.objs.size → h'.get? b = some o → ((h'.update s.heap.objs.size (Obj.mapSeq (·.push Value.none))).update s.heap.objs.size (Obj.mapSeq (·.pop))).get? b = some o :=
      fun b o hb e => (Heap.get?_update_other _ _ (Ne.symm hb)).trans ((Heap.get?_update_other _ _ (Ne.symm hb)).trans e)
    refine wpAny_pure ⟨plainId_quiet PySem.F.plain_extend_loop _, ?_⟩
    refine codeAny_extend_loopS W (by rw [hp.length_eq]; exact hsz) _ hLf _ ord.length 0 _ #[] _ rfl (Nat.zero_le _) ?_ hS₃ (ItemsOf.nil _) fun s' acc' c' hm hS' hacc => ?_
    · exact W.frame 0 { s with heap := h', drawn := d } _ _ st (Nat.le_refl _) fun b hb o e => hoth b o (fun z => hLf (z ▸ hb)) e
    rw [Moved.eq_with hm]
    refine ⟨s'.heap, s'.toks, d, acc', c', ord, rfl, rfl, fun b o e => ?_, hS', ints_of (by simp [hacc.1]) (fun i v e => hacc.2 i v (by simpa using e)), hp⟩
    have hbL : b ≠ s.heap.objs.size := Nat.ne_of_lt (Heap.lt_size e)
    refine hm.heap b o (fun hmem => ?_) (hoth b o hbL (hk b o (Heap.get?_push_of_some _ e)))
    rcases List.mem_cons.mp hmem with z | hmem
    · exact hbL z
    · have hz := List.mem_singleton.mp hmem
      have := hnew I (.inl rfl)
      rw [← hz, Heap.get?_push_of_some _ e] at this
      cases this
  refine wpAny_mono key (fun fin s' x => ?_) fun e s' x => x.elim
  cases fin with
  | done f => exact x.elim
  | again c₁ =>
    refine ⟨x.1, codeAny_mono x.2 fun q s₂ y => ?_⟩
    obtain ⟨h', tk, d, acc', c', ns, rfl, rfl, hk, hS', hi, hp⟩ := y
    show wpAny _ A (load s.heap.objs.size >>= _) _ _ _
    refine wpAny_bind (wpAny_load hS' ?_)
    exact wpAny_pure (h h' tk d _ ns hi hp hk)
end



section
variable {w : World} {A : Around} {E : Value → Shared → Prop} {R : Result → Shared → Prop} {s : Shared} {a I : Addr} {ks ns : List Int} {fp wr : List Addr} {G : Array GenState → Array GenState → Prop} {n : Nat} {P : Nat → Value → Prop} {St : Nat → Shared → Prop}

/-- the set of the first i of ns -/
def SetUpTo (w : World) (ns : List Int) (i : Nat) (o : Obj) : Prop := ∃ ks, SetO w ks o ∧ ks.Nodup ∧ (∀ k, k ∈ ks ↔ k ∈ ns.take i) ∧ ks.length ≤ i

theorem set_loop (W : WalksS pg w A.in1 I fp wr G ns.length P St) (S : Addr) (hSf : S ∉ fp)
    (hval : ∀ i v, P i v → ∃ k t, ns[i]? = some k ∧ v = .int k t) (hb : ns.length + 1 < scanBound) :
    ∀ (k i : Nat) (s : Shared), ns.length - i = k → i ≤ ns.length → St i s → At s.heap S (SetUpTo w ns i) →
      (∀ s', Moved (S :: wr) G s s' → At s'.heap S (SetUpTo w ns ns.length) → R (.ok (.ret .none)) s') →
      codeAny (model pg w) A (.builtin "set.update.loop" ⟨[.ref S, .ref I], []⟩) R s := by
  have hSw : S ∉ wr := fun h => hSf (W.sub _ h)
  have hsub : ∀ b ∈ wr, b ∈ S :: wr := fun b hb => List.mem_cons_of_mem _ hb
  intro k
  induction k with
  | zero =>
    intro i s hk hi hst hS hR
    have hin : i = ns.length := by omega
    subst hin
    refine codeAny_builtin F.entry_set_update_loop ?_
    rw [Around.under_plainId F.plain_set_update_loop _]
    show wpAny _ A.in1 (pyNext (.ref I) >>= _) _ _ s
    refine wpAny_bind (W.done s _ _ hst fun s' hm => ?_)
    show wpAny _ A.in1 (ret Value.none) _ _ s'
    exact wpAny_pure (hR s' (hm.mono hsub) (by
      obtain ⟨o, ho, rest⟩ := hS
      exact ⟨o, hm.heap S _ hSw ho, rest⟩))
  | succ k ih =>
    intro i s hk hi hst hS hR
    have hlt : i < ns.length := by omega
    refine codeAny_builtin F.entry_set_update_loop ?_
    rw [Around.under_plainId F.plain_set_update_loop _]
    show wpAny _ A.in1 (pyNext (.ref I) >>= _) _ _ s
    refine wpAny_bind (W.item i s _ _ hlt hst fun v s' hP hst' hm => ?_)
    obtain ⟨k0, t, hk0, rfl⟩ := hval i v hP
    obtain ⟨o, ho, ks, hso, hnd, hmem, hlen⟩ := hS
    have hS' : At s'.heap S (SetO w ks) := ⟨o, hm.heap S _ hSw ho, hso⟩
    show wpAny _ A.in1 (holding [Value.int k0 t] (setAdd S (.int k0 t)) >>= _) _ _ s'
    refine wpAny_bind (wpAny_holding ?_)
    unfold setAdd
    refine wpAny_holding ?_
    refine wpAny_bind ((intKind pg w).pyHash (k := k0) (intKind_is _ _ _ _) ?_)
    refine set_add (w := w) (ks := ks) (s := { s' with toks := s'.toks + 1 }) hS' (by omega) fun b h' ks' hsb hS2 hcase => ?_
    have hS3 : At h' S (SetUpTo w ns (i + 1)) := by
      refine hS2.weak fun o ho => ⟨ks', ho, ?_⟩
      have htk : ∀ x, x ∈ ns.take (i + 1) ↔ x ∈ ns.take i ∨ x = k0 := fun x => by
        rw [List.take_add_one, hk0]; simp
      rcases hcase with ⟨hin, rfl⟩ | ⟨hout, hp⟩
      · refine ⟨hnd, fun x => ?_, by omega⟩
        rw [htk, hmem]
        exact ⟨.inl, fun h => h.elim id fun z => z ▸ (hmem _).mp hin⟩
      · refine ⟨hp.nodup_iff.mpr (List.nodup_append.mpr ⟨hnd, by simp, fun x hx y hy => ?_⟩), fun x => ?_, by rw [hp.length_eq]; simp; omega⟩
        · rw [List.mem_singleton.mp hy]; exact fun z => hout (z ▸ hx)
        · rw [hp.mem_iff, htk, ← hmem]; simp
    refine wpAny_pure ⟨plainId_quiet F.plain_set_update_loop _, ih (i + 1) _ (by omega) hlt (W.frame _ s' _ _ hst' (Nat.le_succ _) fun b hb o e => ?_) hS3 fun s'' hm'' hS'' => ?_⟩
    · rw [hsb.2 b (fun h : b = S => hSf (by rw [← h]; exact hb))]; exact e
    · refine hR s'' (Moved.trans W.gtrans ((hm.mono hsub).then_heap (Nat.le_succ _) fun b o hb e => ?_) hm'') hS''
      rw [hsb.2 b (fun h : b = S => hb (by rw [h]; exact List.mem_cons_self))]; exact e

theorem code_set_new_led (a : Value) {Q₁ : Value → Shared → Prop}
    (h : Q₁ (.ref s.heap.objs.size) { s with heap := s.heap.push { cls := .type "set", dict := none, data := .set #[] 0 (.fresh 0 0 (!(byText w))) } }) :
    codeAny (model pg w) A (.call (.builtin "set.__new__") ⟨[.type "set", a], []⟩) (wants Q₁ E) s := by
  refine codeAny_of_tree ?_
  show wpAny _ A.in1 (do checkBuiltinCall "set.__new__" ⟨[.type "set", a], []⟩; again (.builtin "set.__new__" ⟨[.type "set", a], []⟩)) _ _ s
  refine wpAny_bind (wpAny_of_eq (F.newCall_set_1 a) (wpAny_pure ⟨plainId_quiet F.plain_set_new _, codeAny_builtin F.entry_set_new ?_⟩))
  rw [Around.under_plainId F.plain_set_new _]
  unfold Builtin.«set.__new__» Builtin.Frozenset.newClass
  have hsub := sub_set_self
  obtain ⟨hp, g, d, tk, os⟩ := s
  dsimp only
  wp_walk
  refine wpAny_askSetting (wpAny_pure ?_)
  dsimp only
  simp only [newObj]
  refine wpAny_bind (wpAny_alloc (wpAny_pure ?_))
  exact wpAny_pure h
theorem ints_at : ∀ {vs : List Value} {ns : List Int}, IntsAre vs ns → ∀ {i : Nat} {v : Value}, vs[i]? = some v → ∃ k t, ns[i]? = some k ∧ v = .int k t
  | _, _, .nil, i, v, h => by simp at h
  | _, _, .cons n t hr, 0, v, h => by simp at h; exact ⟨n, t, rfl, h.symm⟩
  | _, _, .cons n t hr, i + 1, v, h => by
    simp only [List.getElem?_cons_succ] at h ⊢
    exact ints_at hr h
set_option maxHeartbeats 3200000 in
theorem call_set {l : Addr} {items : Array Value} {Q : Value → Shared → Prop}
    (hh : A.handled = none) (hl : s.heap.IsList l items) (hi : IntsAre items.toList ns) (hb : items.size + 1 < scanBound)
    (h : ∀ (h' : Heap) (tk : Nat), At h' s.heap.objs.size (SetUpTo w ns ns.length) →
      (∀ b o, b < s.heap.objs.size → s.heap.get? b = some o → h'.get? b = some o) → Q (.ref s.heap.objs.size) { s with heap := h', toks := tk }) :
    wpAny (model pg w) A (call (.type "set") [.ref l]) Q E s := by
  obtain ⟨c, tl, hmro⟩ := F.called_set.mro
  have hmade := F.called_set.made
  have hsub := F.called_set.sub
  refine wpAny_call (codeAny_of_tree ?_)
  show wpAny _ _ (callAny (.type "set") _) _ _ _
  refine wpAny_pure ⟨Code.quiet_builtin _ (by decide +kernel), codeAny_builtin F.entry_type_call ?_⟩
  rw [Around.under_plain (weight_type_call_type "set" [.ref l] []) rfl]
  have h1 := F.called_set.notType
  have h2 := F.called_set.canCreate
  have hct := F.typeCall_set_1 (.ref l)
  repeat (any_goals (first | assumption | wp_step))

  refine codeAny_mono (code_set_new_led (.ref l) (E := E) (Q₁ := fun obj s₁ => ∃ led : Bool, led = (!(byText w)) ∧ obj = .ref s.heap.objs.size ∧ s₁ = { s with heap := s.heap.push { cls := .type "set", dict := none, data := .set #[] 0 (.fresh 0 0 led) } }) ⟨_, rfl, rfl, rfl⟩) fun r s₁ hr => ?_
  cases r with
  | error e => exact hr
  | ok fl =>
    cases fl with
    | ret obj =>
      obtain ⟨led, hled, rfl, rfl⟩ := hr
      have hS : (s.heap.push { cls := .type "set", dict := none, data := .set #[] 0 (.fresh 0 0 led) }).get? s.heap.objs.size = some { cls := .type "set", dict := none, data := .set #[] 0 (.fresh 0 0 led) } := Heap.get?_push_size _ rfl
      have hT : Shared.TypeIs { s with heap := s.heap.push { cls := .type "set", dict := none, data := .set #[] 0 (.fresh 0 0 led) } } (.ref s.heap.objs.size) "set" := ⟨_, hS, rfl⟩
      have hli := F.called_set.init.lookup
      have hbi := F.called_set.init.bind (.ref s.heap.objs.size)
      repeat (any_goals (first | assumption | wp_step))

      refine codeAny_mono (codeAny_call_builtin (R := wants (fun r s₂ => r = .none ∧ ∃ h' tk, s₂ = { s with heap := h', toks := tk } ∧
          At h' s.heap.objs.size (SetUpTo w ns ns.length) ∧
          (∀ b o, b < s.heap.objs.size → s.heap.get? b = some o → h'.get? b = some o)) E) F.called_set.init.plain F.entry_set_init (check_set_init_1 hT ?_)) fun r₂ s₂ hr₂ => ?_
      · obtain ⟨ol, hol, hcl, nl, hdl⟩ := hl
        obtain ⟨ocls, odict, odata, oslots⟩ := ol
        simp only at hcl hdl
        subst hcl; subst hdl
        have hol' : (s.heap.push { cls := .type "set", dict := none, data := .set #[] 0 (.fresh 0 0 led) }).get? l = some { cls := .type "list", dict := odict, data := .seq items nl, slots := oslots } := Heap.get?_push_of_some _ hol
        have hsls := F.sub_list_set
        have hslf := F.sub_list_frozenset
        have hne : (Value.type "list" == Value.type "dict") = false := by decide
        have hl1 : (s.heap.push { cls := .type "set", dict := none, data := .set #[] 0 (.fresh 0 0 led) }).IsList l items := ⟨_, hol', rfl, nl, rfl⟩
        unfold Builtin.«set.__init__» noKeywords Builtin.Frozenset.updateFrom
        generalize hPI : pyIter = PI
        wp_walk
        subst hPI

        refine wpAny_pyIter_list hl1 ?_
        refine wpAny_bind (wpAny_runValue ?_)
        have hlS : l < s.heap.objs.size := Heap.lt_size hol
        have hh3 : A.in1.in1.in1.handled = none := by simp [hh]
        have hneI : l ≠ (s.heap.push { cls := .type "set", dict := none, data := .set #[] 0 (.fresh 0 0 led) }).objs.size := by
          rw [Heap.size_push]; exact Nat.ne_of_lt (Nat.lt_succ_of_lt hlS)
        have hSf : s.heap.objs.size ∉ [(s.heap.push { cls := .type "set", dict := none, data := .set #[] 0 (.fresh 0 0 led) }).objs.size, l] := by
          rw [Heap.size_push]; simp only [List.mem_cons, List.mem_singleton, List.not_mem_nil, or_false, not_or]
          exact ⟨Nat.ne_of_lt (Nat.lt_succ_self _), Nat.ne_of_gt hlS⟩
        have hlen : items.size = ns.length := by rw [← Array.length_toList]; exact hi.length
        have hval : ∀ (i : Nat) (v : Value), items[i]? = some v → ∃ k t, ns[i]? = some k ∧ v = .int k t := fun i v hv =>
          ints_at hi (by rw [Array.getElem?_toList]; exact hv)
        have W := (Walks.list (prog := pg) (w := w) hh3 (s.heap.push { cls := .type "set", dict := none, data := .set #[] 0 (.fresh 0 0 led) }).objs.size l hneI items).toS
        rw [hlen] at W
        refine set_loop W s.heap.objs.size hSf hval (by rw [← hlen]; exact hb) _ 0 _ rfl (Nat.zero_le _)
          ⟨⟨_, Heap.get?_push_size _ rfl, rfl, rfl⟩, (hl1.push _)⟩ ?hS0 ?hR
        case hS0 =>
          have hget : ((s.heap.push { cls := .type "set", dict := none, data := .set #[] 0 (.fresh 0 0 led) }).push { cls := .type "list_iterator", data := .fields #[.ref l, .int 0 0] }).get? s.heap.objs.size
              = some { cls := .type "set", dict := none, data := .set #[] 0 (.fresh 0 0 led) } := Heap.get?_push_of_some _ hS
          refine ⟨_, hget, [], ⟨⟨rfl, rfl, rfl⟩, #[], 0, _, rfl, by intro e he; simp at he, rfl, by decide, rfl, ?_⟩, List.nodup_nil, by simp, Nat.zero_le _⟩
          rw [hled]
          exact SetFacts.Good.fresh
        case hR =>
          intro s' hm hS'
          obtain ⟨h', g', d', tk', os'⟩ := s'
          have eg : g' = s.gens := hm.gens
          have ed : d' = s.drawn := hm.drawn
          have eo : os' = s.os := hm.os
          subst eg; subst ed; subst eo
          show wpAny _ _ _ _ _ _
          refine wpAny_pure ?_
          show wpAny _ _ (ret Value.none) _ _ _
          refine wpAny_pure ⟨rfl, h', tk', rfl, hS', fun b o hb e => ?_⟩
          have hb1 : b ≠ s.heap.objs.size := Nat.ne_of_lt hb
          have hb2 : b ≠ (s.heap.push { cls := .type "set", dict := none, data := .set #[] 0 (.fresh 0 0 led) }).objs.size := by
            rw [Heap.size_push]; exact Nat.ne_of_lt (Nat.lt_succ_of_lt hb)
          exact hm.heap b o (by simp only [List.mem_cons, List.mem_singleton, List.not_mem_nil, or_false, not_or]; exact ⟨hb1, hb2⟩) (Heap.get?_push_of_some _ (Heap.get?_push_of_some _ e))

      · cases r₂ with
        | error e => exact hr₂
        | ok fl₂ =>
          cases fl₂ with
          | ret r =>
            obtain ⟨rfl, h', tk, rfl, hS', hk'⟩ := hr₂
            repeat (any_goals (first | assumption | wp_step))
            exact h _ _ hS' hk'
          | _ => exact hr₂.elim
    | _ => exact hr.elim
end



section
variable {w : World} {A : Around} {E : Value → Shared → Prop} {h : Heap} {g : Array GenState} {d : Drawn} {t : Nat} {os : OsState} {a : Addr} {o : Obj}
theorem lk_list_keys : typeLookup (.type "list") "keys" = pure none := by rw [typeLookup_type, builtinLookup_eq_fast]; kernel_rfl

theorem raise_attr {α : Type} {Q : α → Shared → Prop} {x : Value} {name msg : Str} (hh : A.handled = none) (hlen : ¬ msg.length > sizeLine) (hn : ¬ name.length > sizeLine)
    (hE : ∀ e h' tk, (∀ b o, h.get? b = some o → h'.get? b = some o) → Shared.TypeIs ⟨h', g, d, tk, os⟩ e "AttributeError" → E e ⟨h', g, d, tk, os⟩) :
    wpAny (model pg w) A (raiseAttrError x name msg) Q E ⟨h, g, d, t, os⟩ := by
  unfold raiseAttrError
  unfold mkStr
  refine wpAny_bind ?_
  refine wpAny_ite_split (fun z => absurd z hlen) (fun _ => ?_)
  refine wpAny_bind (wpAny_fresh (wpAny_pure ?_))
  refine wpAny_bind ?_
  simp only [newExc, newTuple]
  refine wpAny_bind (wpAny_newObj_type ?_ (by size_fits))
  refine wpAny_bind (m := firstArgMember _ _) (wpAny_of_eq (a := Value.none) (by first | rfl | (simp only [firstArgMember]; rfl)) ?_)
  refine wpAny_newObj_type ?_ (by size_fits)
  refine wpAny_bind (wpAny_mkText ?_)
  dsimp only
  have ho : ((h.push { cls := .type "tuple", data := .seq [Value.str msg t].toArray }).push { cls := .type "AttributeError", data := .fields #[.ref h.objs.size, .none, .none, .none, .bool false, .none, unsetMember, unsetMember] }).get? (h.push { cls := .type "tuple", data := .seq [Value.str msg t].toArray }).objs.size
      = some { cls := .type "AttributeError", data := .fields #[.ref h.objs.size, .none, .none, .none, .bool false, .none, unsetMember, unsetMember] } := Heap.get?_push_size _ rfl
  have hk : ∀ b o, h.get? b = some o → ((h.push { cls := .type "tuple", data := .seq [Value.str msg t].toArray }).push { cls := .type "AttributeError", data := .fields #[.ref h.objs.size, .none, .none, .none, .bool false, .none, unsetMember, unsetMember] }).get? b = some o :=
    fun b o e => Heap.get?_push_of_some _ (Heap.get?_push_of_some _ e)
  change wpAny _ _ _ _ _ ⟨(h.push { cls := .type "tuple", data := .seq [Value.str msg t].toArray }).push { cls := .type "AttributeError", data := .fields #[.ref h.objs.size, .none, .none, .none, .bool false, .none, unsetMember, unsetMember] }, g, d, t + 1 + 1, os⟩
  have hne : ∀ b o, h.get? b = some o → b ≠ (h.push { cls := .type "tuple", data := .seq [Value.str msg t].toArray }).objs.size := fun b o e =>
    Nat.ne_of_lt (Nat.lt_of_lt_of_le (Heap.lt_size e) (by rw [Heap.size_push]; exact Nat.le_succ _))
  generalize (h.push { cls := .type "tuple", data := .seq [Value.str msg t].toArray }).objs.size = I at ho hne ⊢
  generalize (h.push { cls := .type "tuple", data := .seq [Value.str msg t].toArray }).push { cls := .type "AttributeError", data := .fields #[.ref h.objs.size, .none, .none, .none, .bool false, .none, unsetMember, unsetMember] } = h2 at ho hk ⊢
  have hT : Shared.TypeIs ⟨h2, g, d, t + 1 + 1, os⟩ (.ref I) "AttributeError" := ⟨_, ho, rfl⟩
  refine wpAny_bind ?_
  unfold noteAttr
  refine wpAny_bind ?_
  unfold lacksNameAndObj
  refine wpAny_bind (wpAny_isInstance (T := "AttributeError") (b := true) hT (by rw [isSubtype_type]; kernel_rfl) ?_)
  rw [if_neg (by decide)]
  refine wpAny_bind (wpAny_load ho ?_)
  show wpAny _ _ (pure true) _ _ _
  refine wpAny_pure ?_
  rw [if_pos rfl]
  refine wpAny_bind (wpAny_rule ?_)
  refine wpAny_bind (wpAny_typeOf hT ?_)
  refine wpAny_layMembers ho rfl ?_
  simp only [raiseNew]
  refine wpAny_bind (wpAny_handled ?_)
  rw [hh]
  refine wpAny_bind (wpAny_pure (wpAny_throw ?_))
  refine hE _ _ _ (fun b o e => (Heap.get?_update_other _ _ (Ne.symm (hne b o e))).trans (hk b o e)) ⟨_, Heap.get?_update_self _ ho rfl, rfl⟩
theorem keys_entry {tk : Tok} {Q : Fin → Shared → Prop} {xs : Array Value} {n : Nat} (hh : A.handled = none) (hE : ∀ e h' tk, (∀ b o, h.get? b = some o → h'.get? b = some o) → Shared.TypeIs ⟨h', g, d, tk, os⟩ e "AttributeError" → E e ⟨h', g, d, tk, os⟩) (hx : h.get? a = some { cls := .type "list", data := .seq xs n }) :
    wpAny (model pg w) A (Builtin.«object.__getattribute__» ⟨[.ref a, .str "keys" tk], []⟩) Q E ⟨h, g, d, t, os⟩ := by
  have hT : (⟨h, g, d, t, os⟩ : Shared).TypeIs (.ref a) "list" := ⟨_, hx, rfl⟩
  have f4 := lk_list_keys
  repeat (any_goals (first | assumption | wp_step))
  generalize hmsg : (Str.ofString _ ++ _ ++ _ : Str) = msg
  unfold raiseAttrError
  have hlen : ¬ msg.length > sizeLine := by
    rw [← hmsg, find?_eq_fast]; decide +kernel
  refine raise_attr hh hlen (by decide) hE

theorem no_keys {tk : Tok} {Q : Option Value → Shared → Prop} {xs : Array Value} {n : Nat} (hh : A.handled = none) (hx : h.get? a = some { cls := .type "list", data := .seq xs n })
    (hQ : ∀ h' tk, (∀ b o, h.get? b = some o → h'.get? b = some o) → Q none ⟨h', g, d, tk, os⟩) : wpAny (model pg w) A (getAttr? (.ref a) "keys") Q E ⟨h, g, d, t, os⟩ := by
  have hT : (⟨h, g, d, t, os⟩ : Shared).TypeIs (.ref a) "list" := ⟨_, hx, rfl⟩
  unfold getAttr?
  refine wpAny_bind (wpAny_mkText ?_)
  unfold getAttrBy?
  refine wpAny_bind (wpAny_attempt ?_)
  have f2 := F.slot_list_getattribute.lookup
  have f3 := F.slot_list_getattribute.bind (.ref a)
  have key : ∀ {tk : Tok} {t' : Nat} {R : Result → Shared → Prop}, (∀ e h' tk, (∀ b o, h.get? b = some o → h'.get? b = some o) → Shared.TypeIs ⟨h', g, d, tk, os⟩ e "AttributeError" → R (.error e) ⟨h', g, d, tk, os⟩) →
      codeAny (model pg w) A (.call (.builtin "list.__getattribute__") ⟨[.ref a, .str "keys" tk], []⟩) R ⟨h, g, d, t', os⟩ := fun hR =>
    codeAny_call_builtin F.slot_list_getattribute.plain F.entry_list_ga (F.slot_list_getattribute.check _ _ _ _ _ _ _ _ (show (⟨h, g, d, _, os⟩ : Shared).TypeIs (.ref a) "list" from ⟨_, hx, rfl⟩) (F.args_list_getattribute_2 _ _) (keys_entry (by exact hh) hR hx))
  dsimp only
  have hT' : (⟨h, g, d, t + 1, os⟩ : Shared).TypeIs (.ref a) "list" := ⟨_, hx, rfl⟩
  repeat (any_goals (first | assumption | wp_step))
  refine key fun e h' tk hk hTe => ?_
  have f5 : typeLookup (.type "list") "__getattr__" = pure none := by rw [typeLookup_type, builtinLookup_eq_fast]; kernel_rfl
  dsimp only
  unfold getattributeRaised
  refine wpAny_bind (wpAny_isInstance (T := "AttributeError") (b := true) hTe (by rw [isSubtype_type]; kernel_rfl) ?_)
  rw [if_pos rfl]
  unfold hookBehind
  rw [if_neg (by decide)]
  refine wpAny_bind (wpAny_of_eq f5 ?_)
  unfold hookOrError attributeErrorLeaves
  dsimp only
  rw [if_pos (by decide)]
  refine wpAny_bind (wpAny_throw ?_)
  refine wpAny_bind (wpAny_isInstance (T := "AttributeError") (b := true) hTe (by rw [isSubtype_type]; kernel_rfl) ?_)
  rw [if_pos rfl]
  exact wpAny_pure (hQ _ _ hk)
end



section
variable {w : World} {A : Around} {E : Value → Shared → Prop} {R : Result → Shared → Prop} {s : Shared} {a d I l : Addr} {kvs : List (Int × Value)} {vs : List Value} {h0 : Heap}
/-- a dict with int keys -/
def DO (w : World) (kvs : List (Int × Value)) (o : Obj) : Prop := o.IsDictOf (intKind pg w) kvs
theorem DO.dict {h : Heap} : At h a (DO w kvs) ↔ h.DictOf (intKind pg w) a kvs := Heap.dictOf_iff.symm
def PairList (h : Heap) (vs : List Value) (kvs : List (Int × Value)) : Prop := vs.length = kvs.length ∧ ∀ (i : Nat) v, vs[i]? = some v → ∃ p t k x, v = .ref p ∧ kvs[i]? = some (k, x) ∧ IsTpl h p [.int k t, x]
theorem entry_dict_loop : entryFor table "dict.update.loop" = some Builtin.«dict.update.loop» := entryFor_of_tree (by kernel_rfl)
theorem plain_dict_loop : plainId "dict.update.loop" = true := by decide +kernel

theorem dict_loop (hh : A.handled = none) (hP : PairList h0 vs kvs) (hd0 : h0.get? d = none) (hI0 : h0.get? I = none) (hl0 : IsLst h0 l vs) (hdI : d ≠ I) (hb : vs.length ≤ 1000) :
    ∀ (k i : Nat) (s : Shared), vs.length - i = k → i ≤ vs.length → s.heap.IsListIter I l i → s.heap.DictOf (intKind pg w) d (merged [] (kvs.take i)) → (∀ b o, h0.get? b = some o → s.heap.get? b = some o) →
      (∀ h' tk, h'.DictOf (intKind pg w) d (merged [] kvs) → (∀ b o, h0.get? b = some o → h'.get? b = some o) → R (.ok (.ret .none)) { s with heap := h', toks := tk }) →
      codeAny (model pg w) A (.builtin "dict.update.loop" ⟨[.ref d, .ref I, rawInt (i : Nat), .none], []⟩) R s := by
  have hnd : ∀ b o, h0.get? b = some o → b ≠ d := fun b o e z => by rw [z, hd0] at e; cases e
  have hnI : ∀ b o, h0.get? b = some o → b ≠ I := fun b o e z => by rw [z, hI0] at e; cases e
  have hlI : l ≠ I := let ⟨o, ho, _⟩ := hl0; hnI l o ho
  have hhi : A.in1.handled = none := hh
  have hW := Walks.list (prog := pg) (w := w) (A := A.in1) hhi I l hlI vs.toArray
  have hls : ∀ h : Heap, (∀ b o, h0.get? b = some o → h.get? b = some o) → h.IsList l vs.toArray := fun h k => LP.list (At.mono hl0 fun b o e => k b o e)
  intro k
  induction k with
  | zero =>
    intro i s hk hi hst hD hk0 hR
    have hin : i = vs.length := by omega
    subst hin
    refine codeAny_builtin entry_dict_loop ?_
    rw [Around.under_plainId plain_dict_loop _]
    show wpAny _ A.in1 (pyNext (.ref I) >>= _) _ _ s
    refine wpAny_bind (hW.done s _ _ (by simpa using ⟨hst, hls _ hk0⟩) fun h' tk hkeep => ?_)
    show wpAny _ A.in1 (Builtin.Dict.addKeywords d [] >>= fun _ => ret Value.none) _ _ _
    refine wpAny_bind (wpAny_pure (wpAny_pure (hR h' tk ?_ ?_)))
    · have := hD.at fun o e => hkeep d o (by simpa using hdI) e
      rwa [List.take_of_length_le (by rw [hP.1]; exact Nat.le_refl _)] at this
    · exact fun b o e => hkeep b o (by simpa using hnI b o e) (hk0 b o e)
  | succ k ih =>
    intro i s hk hi hst hD hk0 hR
    have hlt : i < vs.length := by omega
    refine codeAny_builtin entry_dict_loop ?_
    rw [Around.under_plainId plain_dict_loop _]
    show wpAny _ A.in1 (pyNext (.ref I) >>= _) _ _ s
    refine wpAny_bind (hW.item i s _ _ (by simpa using hlt) ⟨hst, hls _ hk0⟩ fun v h' tk hv hst' hkeep => ?_)
    obtain ⟨p, t, k0, x, rfl, hkv, hT⟩ := hP.2 i v (by simpa using hv)
    have hk1 : ∀ b o, h0.get? b = some o → h'.get? b = some o := fun b o e => hkeep b o (by simpa using hnI b o e) (hk0 b o e)
    have hT1 : IsTpl h' p [.int k0 t, x] := hT.mono hk1
    obtain ⟨op, hop, np, rfl⟩ := hT1
    have hD1 := hD.at fun o e => hkeep d o (by simpa using hdI) e
    show wpAny _ A.in1 (holding [Value.ref p] _ >>= _) _ _ _
    refine wpAny_bind (wpAny_holding ?_)
    refine wpAny_bind (wpAny_tryCatch ?_)
    unfold Builtin.Dict.pairItems
    refine wpAny_bind (wpAny_typeOf (T := "tuple") ⟨_, hop, rfl⟩ ?_)
    rw [if_pos (by decide)]
    refine wpAny_bind (wpAny_seqItems hop rfl ?_)
    refine wpAny_pure ?_
    show wpAny _ _ (holding [Value.int k0 t, x] (dictSet d (.int k0 t) x)) _ _ _
    have hlen : (merged ([] : List (Int × Value)) (kvs.take i)).length ≤ sizeLine := by
      refine le_line (Nat.le_trans (merged_length_le _ _) ?_)
      have := hP.1
      simp; omega
    refine wpAny_holding (wpAny_dictSet_pairs (hsz := hlen) (k := k0) (intKind_is _ _ _ _) hD1 fun h2 hD2 hs2 => ?_)
    rw [← merged_take_succ _ _ _ _ hkv] at hD2
    have hkk : ∀ b o, h0.get? b = some o → h2.get? b = some o := fun b o e => (hs2.2 b (hnd b o e)).trans (hk1 b o e)
    refine wpAny_pure ⟨plainId_quiet plain_dict_loop _, ?_⟩
    exact ih (i + 1) _ (by omega) hlt (hst'.1.extBut hs2.extBut (Ne.symm hdI)) hD2 hkk fun h3 tk3 hD3 hk3 => hR h3 tk3 hD3 hk3

theorem call_dict_pairs {Q : Value → Shared → Prop} (hh : A.handled = none) (hP : PairList s.heap vs kvs) (hl : IsLst s.heap l vs) (hb : vs.length ≤ 1000)
    (h : ∀ h' tk, At h' s.heap.objs.size (DO w (merged [] kvs)) → (∀ b o, s.heap.get? b = some o → h'.get? b = some o) → Q (.ref s.heap.objs.size) { s with heap := h', toks := tk }) :
    wpAny (model pg w) A (call (.type "dict") [.ref l]) Q E s := by
  refine callType_codes (Q₁ := fun obj s₁ => obj = .ref s.heap.objs.size ∧ s₁ = { s with heap := s.heap.push { cls := .type "dict", data := .dict #[] } }) F.kt_called_dict (F.kt_typeCall_dict_1 _) F.entry_dict_init (kt_code_dict_new _ ⟨rfl, rfl⟩) ?_
  rintro obj s₁ ⟨rfl, rfl⟩
  have hnew : (s.heap.push { cls := .type "dict", data := .dict #[] }).DictOf (intKind pg w) s.heap.objs.size [] := Heap.DictOf.new s.heap
  obtain ⟨ol, hol, nl, rfl⟩ := id hl
  have hol1 := Heap.get?_push_of_some { cls := .type "dict", data := .dict #[] } hol
  refine ⟨hnew.typeIs, F.args_dict_init_2 _ _, ?_⟩
  unfold Builtin.«dict.__init__»
  refine wpAny_bind ?_
  unfold Builtin.Dict.selfAndRest
  refine wpAny_bind (wpAny_notOrdered_dict hnew.typeIs ?_)
  show wpAny _ _ (pure (s.heap.objs.size, [Value.ref l])) _ _ _
  refine wpAny_pure ?_
  show wpAny _ _ (Builtin.Dict.updateFrom "dict.__init__" s.heap.objs.size (.ref l) [] .none) _ _ _
  unfold Builtin.Dict.updateFrom
  refine wpAny_bind (wpAny_typeOf (T := "list") ⟨_, hol1, rfl⟩ ?_)
  rw [if_pos (by decide)]
  refine wpAny_bind ?_
  refine no_keys (tk := 0) (by exact hh) hol1 fun h1 tk1 hk1 => ?_
  rw [if_pos (by rfl)]
  refine wpAny_bind (wpAny_rule ?_)
  refine wpAny_bind (wpAny_pyIter_list (l := l) (items := vs.toArray) ⟨_, hk1 _ _ hol1, rfl, nl, rfl⟩ ?_)
  refine wpAny_pure ⟨plainId_quiet plain_dict_loop _, ?_⟩
  have hsz : s.heap.objs.size < h1.objs.size := Heap.lt_size (hk1 _ _ (Heap.get?_push_size _ rfl))
  rw [show rawInt 0 = rawInt ((0 : Nat) : Int) from rfl]
  refine dict_loop (w := w) (A := A.in1) (h0 := s.heap) (l := l) (vs := vs) (kvs := kvs) hh hP (get_ge (Nat.le_refl _)) (get_ge (Nat.le_of_lt hsz)) hl (Nat.ne_of_lt hsz) hb _ 0 _ rfl (Nat.zero_le _) ?_ ?_ ?_ fun h' tk hD hk => ?_
  · exact ⟨_, Heap.get?_push_size _ rfl, rfl, rfl⟩
  · exact (hnew.keep hk1).push _
  · exact fun b o e => Heap.get?_push_of_some _ (hk1 _ _ (Heap.get?_push_of_some _ e))
  · exact ⟨rfl, h h' tk (DO.dict.mpr hD) hk⟩
end



section
variable {w : World} {e : Ent} {Γ : Heap} {s s' : Shared} {own own' : Own} {a d l : Addr} {A : Around} {E : Value → Shared → Prop} {env : Env} {vs us : List Value} {ns ks : List Int} {kvs : List (Int × Value)} {v : Value} {k : Int} {t : Tok}

theorem St.big (S : St w e Γ own s) : 3 < s.heap.objs.size := by
  obtain ⟨mg, hm⟩ := S.g.glob
  obtain ⟨o, es, ep, ho, _⟩ := hm
  exact Heap.lt_size (S.see _ _ ho)
theorem ne_mod {d : Addr} (h : 3 < d) : (d == sysModules) = false := by
  rw [beq_eq_false_iff_ne]
  intro z
  rw [z] at h
  exact absurd h (by decide)
abbrev IsDct (w : World) (Γ : Heap) (d : Addr) (kvs : List (Int × Value)) : Prop := At Γ d (DO w kvs) ∧ 3 < d

/-! sets and what is sorted -/
theorem r_set {Q : Value → Shared → Prop} (S : St w e Γ own s) (hh : A.handled = none) (hl : At s.heap l (LO vs)) (hi : IntsAre vs ns) (hz : vs.length ≤ 1000)
    (h : ∀ Γ' s' b, St w e Γ' own s' → Sub Γ Γ' → At Γ' b (SetUpTo w ns ns.length) → Q (.ref b) s') : wpAny (model pg w) A (call (.type "set") [.ref l]) Q E s := by
  refine call_set (w := w) (ns := ns) hh (LO.list hl) (by simpa using hi) (by simp only [List.size_toArray]; unfold scanBound; omega) fun h' tk hS hk => ?_
  obtain ⟨Γ', S', k', f'⟩ := S.still (s' := { s with heap := h', toks := tk }) (fun b o e => hk b o (Heap.lt_size e) e)
  obtain ⟨o, ho, hP⟩ := hS
  exact h Γ' _ _ S' k' ⟨o, f' _ _ (get_ge (Nat.le_refl _)) ho, hP⟩

theorem sorted_tail {Q : Value → Shared → Prop} (S : St w e Γ own s) (hi : IntsAre vs ns) (hz : vs.length < 64)
    (h : ∀ Γ' s' b us ms, St w e Γ' own s' → Sub Γ Γ' → IsLst Γ' b us → IntsAre us ms → ms.Perm ns → ms.Pairwise (· ≤ ·) → Q (.ref b) s') :
    wpAny (model pg w) A (newList vs) (fun l s' => wpAny (model pg w) A (call (.builtin "list.sort") [l]) (fun _ s' => Q l s') E s') E s := by
  refine wpAny_newList ?_ (le_line (by omega))
  have hoL : (s.heap.push { cls := .type "list", data := .seq vs.toArray }).get? s.heap.objs.size = some (seqObj "list" vs.toArray 0) := Heap.get?_push_size _ rfl
  refine wpAny_call_entry slot_list_sort ⟨_, hoL, rfl⟩ entry_list_sort (list_sort_tree hoL hi hz fun out ms a1 a2 a3 => ⟨_, rfl, ?_⟩) (args_list_sort _)
  have hold : ∀ b o, s.heap.get? b = some o → (sortedHeap (s.heap.push { cls := .type "list", data := .seq vs.toArray }) s.heap.objs.size vs out).get? b = some o := fun b o e =>
    (sortedHeap_old (Nat.ne_of_lt (Heap.lt_size e)) (by rw [size_push']; exact Nat.lt_succ_of_lt (Heap.lt_size e))).trans (Heap.get?_push_of_some _ e)
  obtain ⟨Γ', S', k', f'⟩ := S.still (s' := { s with heap := sortedHeap (s.heap.push { cls := .type "list", data := .seq vs.toArray }) s.heap.objs.size vs out }) hold
  obtain ⟨n', hat⟩ := sortedHeap_at (out := out) hoL
  exact h Γ' _ _ out.toList ms S' k' ⟨_, f' _ _ (get_ge (Nat.le_refl _)) hat, n', by simp⟩ a1 a2 a3

theorem r_sorted_of {Q : Value → Shared → Prop} {x : Value} {n : Nat} (hn : n < 64) (hc : ∀ {R : List Value → Shared → Prop} {E : Value → Shared → Prop}, (∀ Γ' s' vs ns, St w e Γ' own s' → Sub Γ Γ' → IntsAre vs ns → ns.Perm ks → vs.length = n → R vs s') → wpAny (model pg w) A.in1 (collect x) R E s)
    (h : ∀ Γ' s' b us ms, St w e Γ' own s' → Sub Γ Γ' → IsLst Γ' b us → IntsAre us ms → ms.Perm ks → ms.Pairwise (· ≤ ·) → Q (.ref b) s') :
    wpAny (model pg w) A (call (.builtin "sorted") [x]) Q E s := by
  refine call_function_entry kind_sorted plain_sorted entry_sorted (args_sorted1 _) ?_
  unfold Builtin.«sorted»
  refine wpAny_bind (m := checkCount "sorted" 1 1 _) (wpAny_pure ?_)
  refine wpAny_bind (hc fun Γ' s' vs ns S' k' hi hp hl => ?_)
  refine wpAny_bind (wpAny_mono (sorted_tail (Q := fun v s' => ∃ Γ' b us ms, v = .ref b ∧ St w e Γ' own s' ∧ Sub Γ Γ' ∧ IsLst Γ' b us ∧ IntsAre us ms ∧ ms.Perm ks ∧ ms.Pairwise (· ≤ ·)) S' hi (by omega)
    fun Γ'' s'' b us ms S'' k'' a1 a2 a3 a4 => ⟨Γ'', b, us, ms, rfl, S'', k'.trans k'', a1, a2, a3.trans hp, a4⟩) (fun l s'' hx => ?_) fun _ _ y => y)
  refine wpAny_bind (wpAny_holding (wpAny_mono hx (fun _ s₃ z => ?_) fun _ _ y => y))
  obtain ⟨Γ₃, b, us, ms, rfl, S₃, k₃, a1, a2, a3, a4⟩ := z
  exact wpAny_pure ⟨_, rfl, h Γ₃ s₃ b us ms S₃ k₃ a1 a2 a3 a4⟩

theorem r_sorted_set {Q : Value → Shared → Prop} (S : St w e Γ own s) (hh : A.handled = none) (hS : At s.heap a (SetO w ks)) (hn : ks.length < 64)
    (h : ∀ Γ' s' b us ms, St w e Γ' own s' → Sub Γ Γ' → IsLst Γ' b us → IntsAre us ms → ms.Perm ks → ms.Pairwise (· ≤ ·) → Q (.ref b) s') :
    wpAny (model pg w) A (call (.builtin "sorted") [.ref a]) Q E s := by
  refine r_sorted_of (ks := ks) hn (fun {R E} hR => set_collect (by exact hh) hS (by omega) fun h' tk dd vs ns hi hp hk => ?_) h
  obtain ⟨Γ', S', k', _⟩ := S.still (s' := { s with heap := h', toks := tk, drawn := dd }) hk
  exact hR Γ' _ vs ns S' k' hi hp (hi.length.trans hp.length_eq)

theorem r_sorted_dict {Q : Value → Shared → Prop} (S : St w e Γ own s) (hh : A.handled = none) (hd : At s.heap d (DO w kvs)) (hb : 3 < d) (hn : kvs.length < 64)
    (h : ∀ Γ' s' b us ms, St w e Γ' own s' → Sub Γ Γ' → IsLst Γ' b us → IntsAre us ms → ms.Perm (kvs.map (·.1)) → ms.Pairwise (· ≤ ·) → Q (.ref b) s') :
    wpAny (model pg w) A (call (.builtin "sorted") [.ref d]) Q E s := by
  refine r_sorted_of (ks := kvs.map (·.1)) hn (fun {R E} hR => ?_) h
  obtain ⟨ep, hat⟩ := (DO.dict.mp hd).dictAt
  refine kdu_collect (kdl_dict (knd := intKind pg w) (kvs := kvs) (ep := ep) (ne_mod hb)) (by exact hh) hat (le_line (by omega)) fun h' tk acc hk hacc => ?_
  obtain ⟨Γ', S', k', _⟩ := S.still (s' := { s with heap := h', toks := tk }) hk
  refine hR Γ' _ acc.toList (kvs.map (·.1)) S' k' (ints_of (by simp [hacc.1]) fun i v e => ?_) (.refl _) (by simp [hacc.1])
  obtain ⟨k, x, hx, hk⟩ := hacc.2 i v (by simpa using e)
  obtain ⟨t, rfl⟩ := Value.isInt_shape hk
  exact ⟨k, t, by simp [hx], rfl⟩

/-! dicts -/
theorem r_dict {Q : Value → Shared → Prop} (S : St w e Γ own s) (hh : A.handled = none) (hl : IsLst Γ l vs) (hP : PairList Γ vs kvs) (hz : vs.length ≤ 1000)
    (h : ∀ Γ' s' b, St w e Γ' own s' → Sub Γ Γ' → IsDct w Γ' b (merged [] kvs) → Q (.ref b) s') : wpAny (model pg w) A (call (.type "dict") [.ref l]) Q E s := by
  refine call_dict_pairs (vs := vs) (kvs := kvs) hh ⟨hP.1, fun i v e => ?_⟩ (S.at hl) hz fun h' tk hD hk => ?_
  · obtain ⟨p, t, k, x, a1, a2, a3⟩ := hP.2 i v e
    exact ⟨p, t, k, x, a1, a2, S.at a3⟩
  obtain ⟨Γ', S', k', f'⟩ := S.still (s' := { s with heap := h', toks := tk }) hk
  obtain ⟨o, ho, hP⟩ := hD
  exact h Γ' _ _ S' k' ⟨⟨o, f' _ _ (get_ge (Nat.le_refl _)) ho, hP⟩, S.big⟩

theorem src_dict {ep : Nat} (hat : Γ.DictAt (intKind pg w) d kvs ep) : Src w Γ kvs.length (fun i o => o.cls = .type "dict_keyiterator" ∧ o.data = .fields #[.ref d, .int i 0, .int kvs.length 0, .int ep 0]) (fun i v => ∃ k x t, kvs[i]? = some (k, x) ∧ v = .int k t) := by
  refine ⟨fun i o h => ⟨_, _, h.1, h.2, by decide⟩, fun {A Γ' s I i Q E} hh k k' hI hi hQ => ?_, fun {A Γ' s I Q E} hh k k' hI hQ => ?_, fun {A s I i Q E} hI hQ => ?_⟩
  · have hit : s.heap.IsKeyIter I d i kvs.length ep := let ⟨o, h1, h2, h3⟩ := hI; ⟨o, h1, h2, h3⟩
    have hat' := hat.keep (k.trans k')
    obtain ⟨⟨k0, x⟩, hx⟩ : ∃ p, kvs[i]? = some p := ⟨kvs[i], by simp [hi]⟩
    refine wpAny_pyNext_dict_item hit hat' hx fun key h' hkey hit' hs => ?_
    obtain ⟨t, rfl⟩ := Value.isInt_shape hkey
    exact hQ _ h' s.toks ⟨k0, x, t, hx, rfl⟩ (let ⟨o, h1, h2, h3⟩ := hit'; ⟨o, h1, h2, h3⟩) fun b o hb e => (hs.2 b hb).trans e
  · have hit : s.heap.IsKeyIter I d kvs.length kvs.length ep := let ⟨o, h1, h2, h3⟩ := hI; ⟨o, h1, h2, h3⟩
    exact wpAny_pyNext_dict_end hh hit (hat.keep (k.trans k')) (by simp) fun h' he => hQ h' s.toks fun b o hb e => he b o hb e
  · have hit : s.heap.IsKeyIter I d i kvs.length ep := let ⟨o, h1, h2, h3⟩ := hI; ⟨o, h1, h2, h3⟩
    exact wpAny_pyIter_keyiter hit hQ
theorem i_dict {Q : Value → Shared → Prop} (S : St w e Γ own s) (hd : IsDct w Γ d kvs) (h : ∀ it s', IterOf w e Γ own kvs.length (fun i v => ∃ k x t, kvs[i]? = some (k, x) ∧ v = .int k t) it s' → Q it s') : wpAny (model pg w) A (pyIter (.ref d)) Q E s := by
  obtain ⟨ep, hat⟩ := (DO.dict.mp hd.1).dictAt
  exact wpAny_pyIter_dict (ne_mod hd.2) (hat.keep S.see) (h _ _ ⟨_, _, rfl, src_dict hat, S.allocO rfl ⟨rfl, rfl⟩⟩)
theorem r_range {Q : Value → Shared → Prop} (S : St w e Γ own s) (h : ∀ Γ' s' b t u v, St w e Γ' own s' → Sub Γ Γ' → IsRange Γ' b 0 k 1 t u v → Q (.ref b) s') : wpAny (model pg w) A (call (.type "range") [.int k t]) Q E s := by
  refine call_range_1 ?_
  obtain ⟨Γ', S', k', f'⟩ := S.still (s' := { s with heap := s.heap.push { cls := .type "range", data := .fields #[.int 0 s.toks, .int k t, .int 1 (s.toks + 1)] }, toks := s.toks + 1 + 1 }) fun _ _ e => Heap.get?_push_of_some _ e
  exact h Γ' _ _ _ _ _ S' k' (f' _ _ (get_ge (Nat.le_refl _)) (Heap.get?_push_size _ rfl))
theorem range_n (n : Nat) : Builtin.Range.rangeSize 0 (n : Int) 1 = n := by
  rw [rangeSize_pos (by decide) (by omega)]; omega
theorem i_range {Q : Value → Shared → Prop} {n : Nat} {t u v' : Tok} (S : St w e Γ own s) (hr : IsRange Γ a 0 (n : Nat) 1 t u v') (hn : n ≤ 1000) (h : ∀ it s', IterOf w e Γ own n (fun i v => ∃ t, v = .int (0 + (i : Nat) * 1) t) it s' → Q it s') : wpAny (model pg w) A (pyIter (.ref a)) Q E s := by
  refine wpAny_pyIter_range (S.see _ _ hr) ?_ (h _ _ ⟨_, _, rfl, src_range (x := 0) (c := 1) (n := n), S.allocO rfl ?_⟩)
  · unfold Builtin.Range.small
    rw [range_n]
    have h1 : Builtin.Range.rangeFitsLong (n : Int) = true := by unfold Builtin.Range.rangeFitsLong; simp; omega
    simp only [h1, Bool.and_true, Bool.and_eq_true, Bool.or_eq_true]
    refine ⟨⟨by decide, by decide⟩, .inr ?_⟩
    rw [if_pos (by decide)]
    unfold Builtin.Range.rangeFitsLong; simp; omega
  · rw [range_n]; simp

/-! a dict's rows -/
theorem r_in {Q : Value → Shared → Prop} (S : St w e Γ own s) (hd : At s.heap d (DO w kvs)) (hb : 3 < d) (h : ∀ s', St w e Γ own s' → Q (.bool (valueAt kvs k).isSome) s') : wpAny (model pg w) A (compareOp .In (.int k t) (.ref d)) Q E s :=
  wpAny_in_of (knd := intKind pg w) (k := k) (intKind_is _ _ _ _) (ne_mod hb) (DO.dict.mp hd).mapOf (h _ S.tok)
theorem r_dictItem {Q : Value → Shared → Prop} {value slice : Expr} (S : St w e Γ own s) (hd : At s.heap d (DO w kvs)) (hv : valueAt kvs k = some v) (h : ∀ s', St w e Γ own s' → Q v s')
    (hs : subscripted slice false (.ref d) (.int k t) = operate [.ref d, .int k t] (getItem (.ref d) (.int k t)) := by with_unfolding_all rfl) :
    wpAny (model pg w) A (subscriptTail value slice (.ref d) (.int k t)) Q E s :=
  tail_any (DO.dict.mp hd).typeIs F.slot_dict_getitem.lookup (wpAny_getItem_of (knd := intKind pg w) (k := k) (intKind_is _ _ _ _) (DO.dict.mp hd).mapOf hv (h _ S.tok)) hs
theorem r_dictSet {Q : Unit → Shared → Prop} (S : St w e Γ own s) (U : Up d (DO w kvs) (DO w (stored kvs k v)) own own') (hz : kvs.length ≤ 1000) (h : ∀ s', St w e Γ own' s' → Q () s') :
    wpAny (model pg w) A (setItem (.ref d) (.int k t) v) Q E s :=
  wpAny_setItem_pairs (hsz := le_line hz) (knd := intKind pg w) (k := k) (intKind_is _ _ _ _) (DO.dict.mp (S.at' U.mem)) fun h' hd' hs => h _ (S.updS U hs (DO.dict.mpr hd'))
theorem DO.new : DO w [] { cls := .type "dict", data := .dict #[] } := ⟨#[], 0, ⟨rfl, rfl, rfl⟩, rfl, fun _ he => by simp at he, Pairs.nil, List.nodup_nil⟩
theorem r_newDict {Q : Value → Shared → Prop} {pos : Pos} (S : St w e Γ own s) (h : ∀ s' a, 3 < a → St w e Γ ((a, DO w []) :: own) s' → Q (.ref a) s') : wpAny (model pg w) A (eval (.Dict [] [] pos) env) Q E s :=
  wpAny_Dict_empty (h _ _ S.big (S.allocO rfl DO.new))
theorem r_dict1 {Q : Value → Shared → Prop} {pos : Pos} {x y : Expr} (S : St w e Γ own s)
    (h : ∀ s' a, 3 < a → St w e Γ ((a, DO w []) :: own) s' → wpAny (model pg w) A (eval x env) (fun kv s₁ => wpAny (model pg w) A (eval y env) (fun v s₂ => ∃ Γ' k t, kv = .int k t ∧ Sub Γ Γ' ∧ St w e Γ' ((a, DO w []) :: own) s₂ ∧
      ∀ s', St w e Γ' ((a, DO w [(k, v)]) :: own) s' → Q (.ref a) s') E s₁) E s') : wpAny (model pg w) A (eval (.Dict [some x] [y] pos) env) Q E s := by
  refine wpAny_Dict_walk (knd := intKind pg w) rfl rfl (by simp) (by simp) ?_
  refine pairTrees_cons_walk ?_
  refine wpAny_mono (h _ _ S.big (S.allocO rfl DO.new)) (fun kv s₁ h₁ => wpAny_mono h₁ (fun v s₂ h₂ => ?_) fun _ _ y => y) fun _ _ y => y
  obtain ⟨Γ', k, t, rfl, kk, S₂, fin⟩ := h₂
  refine pairTrees_nil_walk ⟨[(k, v)], ?_, DO.dict.mp (S₂.has _ (.head _)), fun h' hd hs => ?_⟩
  · exact ⟨intKind_is _ _ _ _, rfl, trivial⟩
  · exact fin _ (S₂.updS .head hs (DO.dict.mpr hd))
end



section
variable {w : World} {e : Ent} {Γ : Heap} {s s' : Shared} {own own' : Own} {a b d l : Addr} {A : Around} {E : Value → Shared → Prop} {env : Env} {vs us : List Value} {v : Value} {k : Int} {t u : Tok}

theorem r_tupleOf {Q : Value → Shared → Prop} (S : St w e Γ own s) (hl : At s.heap l (LO vs)) (hz : vs.length ≤ 1000) (h : ∀ Γ' s' a, St w e Γ' own s' → Sub Γ Γ' → IsTpl Γ' a vs → Q (.ref a) s') : wpAny (model pg w) A (call (.type "tuple") [.ref l]) Q E s :=
  call_tuple_list (hsz := le_line (by simpa using hz)) (LO.list hl) fun h' hk => by
    obtain ⟨Γ', S', k', f'⟩ := S.still (s' := { s with heap := h'.push { cls := .type "tuple", data := .seq vs.toArray } }) fun b o e => Heap.get?_push_of_some _ (hk b o e)
    have hn : s.heap.get? h'.objs.size = none := by
      cases q : s.heap.get? h'.objs.size with
      | none => rfl
      | some o => exact absurd (Heap.lt_size (hk _ _ q)) (Nat.lt_irrefl _)
    exact h Γ' _ _ S' k' ⟨_, f' _ _ hn (Heap.get?_push_size _ rfl), 0, rfl⟩
theorem r_tupleSame {Q : Value → Shared → Prop} (hl : IsTpl s.heap l vs) (h : Q (.ref l) s) : wpAny (model pg w) A (call (.type "tuple") [.ref l]) Q E s := call_tuple_same (TP.tup hl) h
theorem r_listOf {Q : Value → Shared → Prop} (S : St w e Γ own s) (hl : IsTpl s.heap l vs) (hz : vs.length ≤ 1000) (h : ∀ Γ' s' a, St w e Γ' own s' → Sub Γ Γ' → IsLst Γ' a vs → Q (.ref a) s') : wpAny (model pg w) A (call (.type "list") [.ref l]) Q E s := by
  obtain ⟨o, ho, n, rfl⟩ := hl
  refine call_list_seq (hsz := le_line (by simpa using hz)) l (.inr rfl) ho rfl rfl fun h' c' hk hg => ?_
  obtain ⟨Γ', S', k', f'⟩ := S.still (s' := { s with heap := h' }) hk
  exact h Γ' _ _ S' k' ⟨_, f' _ _ (get_ge (Nat.le_refl _)) hg, c', rfl⟩
theorem r_addL {Q : Value → Shared → Prop} (S : St w e Γ own s) (hl : IsLst s.heap l vs) (hb : IsLst s.heap b us) (hz : vs.length + us.length ≤ 1000) (h : ∀ Γ' s' a, St w e Γ' own s' → Sub Γ Γ' → IsLst Γ' a (vs ++ us) → Q (.ref a) s') :
    wpAny (model pg w) A (binaryOp .Add (.ref l) (.ref b)) Q E s := by
  obtain ⟨n, h1⟩ := LP.isL hl
  obtain ⟨m, h2⟩ := LP.isL hb
  refine P.add_list (hsz := le_line (by simpa using hz)) h1 h2 ?_
  obtain ⟨Γ', S', k', f'⟩ := S.alloc (o := { cls := .type "list", data := .seq (vs.toArray ++ us.toArray) }) rfl
  exact h Γ' _ _ S' k' ⟨_, f', 0, by simp⟩
theorem r_addT {Q : Value → Shared → Prop} (S : St w e Γ own s) (hl : IsTpl Γ l vs) (hb : IsTpl Γ b us) (h0 : vs ≠ []) (hz : vs.length + us.length ≤ 1000) (h : ∀ Γ' s' a, St w e Γ' own s' → Sub Γ Γ' → IsTpl Γ' a (vs ++ us) → Q (.ref a) s') :
    wpAny (model pg w) A (binaryOp .Add (.ref l) (.ref b)) Q E s := by
  obtain ⟨o1, ho1, n, rfl⟩ := S.at hl
  obtain ⟨o2, ho2, m, rfl⟩ := S.at hb
  by_cases hw : us = []
  · refine concat_meets ⟨_, ho1, rfl⟩ ⟨_, ho2, rfl⟩ noFill_tuple_add seq_tuple_add PySem.F.slot_tuple_add PySem.F.entry_tuple_add (PySem.F.args_tuple_add_2 _ _)
        (tuple_addW1 l b vs.toArray us.toArray n m none none #[] #[] (by simpa using h0) (by simp [hw])) ⟨ho1, ho2, ?_⟩
    refine h Γ s l S Sub.rfl' ?_
    rw [hw, List.append_nil]; exact hl
  · refine concat_meets ⟨_, ho1, rfl⟩ ⟨_, ho2, rfl⟩ noFill_tuple_add seq_tuple_add PySem.F.slot_tuple_add PySem.F.entry_tuple_add (PySem.F.args_tuple_add_2 _ _)
        (tuple_addW2 l b vs.toArray us.toArray n m none none #[] #[] (by simpa using h0) (by simpa using hw) (by rw [List.size_toArray, List.size_toArray]; exact le_line hz)) ⟨ho1, ho2, ?_⟩
    obtain ⟨Γ', S', k', f'⟩ := S.alloc (o := { cls := .type "tuple", data := .seq (vs.toArray ++ us.toArray) }) rfl
    exact h Γ' _ _ S' k' ⟨_, f', 0, by simp⟩
theorem r_lenT {Q : Value → Shared → Prop} (S : St w e Γ own s) (hl : IsTpl Γ l vs) (hz : vs.length ≤ 1000) (h : ∀ s' t', St w e Γ own s' → Q (.int (vs.length : Nat) t') s') : wpAny (model pg w) A (call (.builtin "len") [.ref l]) Q E s := by
  obtain ⟨n, h1⟩ := TP.isT (S.at hl)
  exact P.len_tuple h1 (by simp only [List.size_toArray]; omega) (by simp only [List.size_toArray]; exact h _ _ S.tok)
theorem r_itemT {Q : Value → Shared → Prop} {value slice : Expr} (hl : IsTpl s.heap l vs) (h0 : 0 ≤ k) (hb : k < 2 ^ 63) (hx : vs[k.toNat]? = some v) (h : Q v s)
    (hs : subscripted slice false (.ref l) (.int k u) = operate [.ref l, .int k u] (getItem (.ref l) (.int k u)) := by with_unfolding_all rfl) :
    wpAny (model pg w) A (subscriptTail value slice (.ref l) (.int k u)) Q E s := by
  have hT := (TP.tup hl)
  obtain ⟨n, h1⟩ := TP.isT hl
  have hlt : k.toNat < vs.length := by
    rcases Nat.lt_or_ge k.toNat vs.length with z | z
    · exact z
    · rw [List.getElem?_eq_none z] at hx; cases hx
  refine tail_any ⟨_, h1, rfl⟩ PyProof.Rows.slot_tuple_getitem.lookup (P.getItem_tuple (k := k.toNat) h1 (by have : (0 : Int) ≤ k := h0; omega) hb ?_ (by simpa using hx) h) hs
  have h3 : (k : Int) < vs.length := by omega
  simp [seqIndex?, show ¬ k < 0 by omega, h0, h3]
theorem r_itemNeg {Q : Value → Shared → Prop} {value slice : Expr} (hl : At s.heap l (LO vs)) (h0 : k < 0) (h1 : -(vs.length : Int) ≤ k) (hz : vs.length ≤ 1000) (hx : vs[(k + vs.length).toNat]? = some v) (h : Q v s)
    (hs : subscripted slice false (.ref l) (.int k u) = operate [.ref l, .int k u] (getItem (.ref l) (.int k u)) := by with_unfolding_all rfl) :
    wpAny (model pg w) A (subscriptTail value slice (.ref l) (.int k u)) Q E s :=
  tail_any (LO.list hl).typeIs slot_list_getitem.lookup (wpAny_getItem_list_neg (LO.list hl) h0 (by simpa using h1) (by omega) (by simpa using hx) h) hs
theorem r_mulB {Q : Value → Shared → Prop} {c : Bool} (S : St w e Γ own s) (h : ∀ s' t', St w e Γ own s' → Q (.int (k * if c = true then (1 : Int) else 0) t') s') : wpAny (model pg w) A (binaryOp .Mult (.int k t) (.bool c)) Q E s := PySem.IntBool.mul_int_bool (h _ _ S.tok)
theorem r_appendL {Q : Value → Shared → Prop} (S : St w e Γ own s) (U : Up l (LP vs) (LP (vs ++ [v])) own own') (hz : vs.length ≤ 1000) (h : ∀ s', St w e Γ own' s' → Q .none s') : wpAny (model pg w) A (call (.builtin "list.append") [.ref l, v]) Q E s := by
  obtain ⟨o, h1, n, h2⟩ := S.has _ U.mem
  refine wpAny_list_append_plain (hsz := le_line (by simpa using hz)) ⟨n, h1.trans (congrArg some h2)⟩ fun h' hl' hs' => ?_
  obtain ⟨n', e'⟩ := hl'
  exact h _ (S.updS U hs' ⟨_, e', n', by simp⟩)
theorem r_neg {Q : Value → Shared → Prop} (S : St w e Γ own s) (h : ∀ s' t', St w e Γ own s' → Q (.int (-k) t') s') : wpAny (model pg w) A (unaryOp .USub (.int k t)) Q E s := P.neg_int (h _ _ S.tok)
end



section
/-- a namespace of at most n names -/
def FldO (n : Nat) (m : Str → Option Value) (o : Obj) : Prop := ∃ es ep, o.data = .dict es ep ∧ StrKeys es ∧ (∀ x, nsFind es x = m x) ∧ es.size ≤ n
theorem FldO.ns {n : Nat} {m : Str → Option Value} {o : Obj} (h : FldO n m o) : NsO m o := let ⟨es, ep, a, b, c, _⟩ := h; ⟨es, ep, a, b, c⟩
theorem FldO.new : FldO 0 m0 emptyDict := ⟨#[], 0, rfl, fun _ h => by simp at h, fun _ => rfl, Nat.le_refl _⟩
open Sem in
theorem wpAny_nsSetF {M : Model} {A : Around} {E : Value → Shared → Prop} {s : Shared} {a : Addr} {n : Nat} {m : Str → Option Value} {name : Str} {v : Value} {Q : Unit → Shared → Prop} (hn : At s.heap a (FldO n m))
    (hQ : ∀ h', At h' a (FldO (n + 1) (upd m name v)) → Heap.SameBut a s.heap h' → Q () { s with heap := h', toks := s.toks + 1 }) : wpAny M A (nsSet a name v) Q E s := fun Γ p _ => by
  obtain ⟨o, ho, es, ep, hd, hk, hm, hz⟩ := hn
  simp only [nsSet, strHash, wp_bind', wp_cmd_ask, wp_pure', wp_cmd_mkText]
  rw [wp_loadPart_of M Γ _ p { s with toks := s.toks + 1 } (o := o) _ ho]
  have hany : es.any (·.refKey) = false := by
    rw [Array.any_eq_false']; intro e he; obtain ⟨n, t, h⟩ := hk e he; simp [DictEntry.refKey, h]
  simp only [hd, aRefKeyMayBeTheName_at, hany, Bool.and_false, Bool.false_eq_true, if_false, wp_cmd_updatePart]
  refine ⟨by rw [ho]; rfl, hQ _ ?_ (Heap.SameBut.update ..)⟩
  obtain ⟨c, d, dt, sl⟩ := o
  subst hd
  cases hi : es.findIdx? (·.key.isStr name) with
  | some i =>
    refine ⟨_, Heap.get?_update_self _ ho (by simp only [Obj.putName_eq, Obj.putNameByArray, hi]; rfl), _, ep, by simp only [Obj.putName_eq, Obj.putNameByArray, hi]; rfl, hk.modify _ _, fun x => ?_, by simpa using Nat.le_succ_of_le hz⟩
    show _ = if x = name then some v else m x
    rw [← hm]; exact findBy_modify (fun n v => v.isStr n) Value.isStr_inj es name x v i hi
  | none =>
    refine ⟨_, Heap.get?_update_self _ ho (by simp only [Obj.putName_eq, Obj.putNameByArray, hi]; rfl), _, ep + 1, by simp only [Obj.putName_eq, Obj.putNameByArray, hi]; rfl, hk.push _ _ _ _, fun x => ?_, by simpa using hz⟩
    show _ = if x = name then some v else m x
    rw [← hm]
    exact findBy_push (fun n v => v.isStr n) es name x _ _ v (fun y => by
      show (name == y) = decide (y = name)
      by_cases h : y = name
      · subst h; simp
      · have : ¬ name = y := fun e => h e.symm
        simp [h, this]) hi
end

section
variable {w : World} {e : Ent} {Γ : Heap} {s s' : Shared} {own own' : Own} {x dx C fI : Addr} {A : Around} {E : Value → Shared → Prop} {env : Env} {m : Str → Option Value} {name : Str} {v : Value} {o : Obj}

theorem NsO.look (h : NsO m o) : lookIn name o = some (m name) := by
  obtain ⟨es, ep, hd, hk, hm⟩ := h
  unfold lookIn
  rw [hd]
  dsimp only
  have hf : nsFind es name = (es.toList.find? fun e => e.key.isStr name).map (·.val) := by
    unfold nsFind findBy
    simp only [← Array.find?_toList]
  rw [hm] at hf
  cases q : es.toList.find? (fun e => e.key.isStr name) with
  | some e => rw [q] at hf; dsimp only; rw [hf]; rfl
  | none =>
    rw [q] at hf
    dsimp only
    have hr : es.toList.any (·.refKey) = false := by
      rw [List.any_eq_false]
      intro e he
      obtain ⟨n, t, hn⟩ := hk e (Array.mem_toList_iff.mp he)
      simp [DictEntry.refKey, hn]
    rw [hr, hf]
    rfl

/-- a thing of class C, its fields as m says -/
def IsInst (Γ : Heap) (x C : Addr) (m : Str → Option Value) : Prop := ∃ dx, Γ.get? x = some (instObj C dx) ∧ At Γ dx (NsO m)
theorem IsInst.mono {Γ Γ' : Heap} (h : IsInst Γ x C m) (k : Sub Γ Γ') : IsInst Γ' x C m := let ⟨dx, a, b⟩ := h; ⟨dx, k _ _ a, b.mono k⟩
theorem IsInst.at_ {h : Heap} (I : IsInst h x C m) : ∃ ox od, InstAt h x ox C (some od) ∧ NsO m od := by
  obtain ⟨dx, h1, od, h2, h3⟩ := I
  exact ⟨_, od, ⟨h1, rfl, rfl, h2⟩, h3⟩

abbrev plainGet (w : World) (C : Addr) : Prop := findIn (KF w) (.ref C) "__getattribute__" = some (some (.builtin "object.__getattribute__")) ∧ (clsIn (KF w) C).any (·.hasDict) = true
theorem find_field {K : Frag} {od : Obj} (hc : (clsIn K C).any (·.hasDict) = true) (ha : findIn K (.ref C) name = some none) (hl : lookIn name od = some (some v)) : findObj K C (some od) name = some (.value v) := by
  obtain ⟨cd, h1, h2⟩ := any_some hc
  unfold findObj PySem.W.ownOf
  rw [h1, ha]
  simp only [Option.bind_some, h2, if_true, hl]

theorem r_attr {Q : Value → Shared → Prop} {expr : Bool} (S : St w e Γ own s) (I : IsInst Γ x C m) (hv : m name = some v) (hh : handedIn v = true) (h : ∀ s', St w e Γ own s' → Q v s')
    (hga : plainGet w C := by exact ⟨by kernel_rfl!, by kernel_rfl!⟩) (ha : findIn (KF w) (.ref C) name = some none := by kernel_rfl!) : wpAny (model pg w) A (getAttr (.ref x) name expr) Q E s := by
  obtain ⟨ox, od, I', hm⟩ := (I.mono S.see).at_
  exact get_value S.kin I' hga.1 (find_field hga.2 ha (by rw [hm.look, hv])) hh (h _ S.tok)

theorem r_meth {Q : Value × List Value → Shared → Prop} {pl : Sem Bool} {f : Addr} (S : St w e Γ own s) (I : IsInst Γ x C m) (hv : m name = none) (h : Q (.ref f, [.ref x]) s)
    (hga : plainGet w C := by exact ⟨by kernel_rfl!, by kernel_rfl!⟩) (hk : findIn (KF w) (.ref C) "__getattr__" = some none := by kernel_rfl!) (hf : findIn (KF w) (.ref C) name = some (some (.ref f)) := by k_dflt (exact rfl)) (ht : typeIn (KF w) (.ref f) = some (.type "function") := by kernel_rfl!) :
    wpAny (model pg w) A (getMethod (.ref x) name pl) Q E s := by
  obtain ⟨ox, od, I', hm⟩ := (I.mono S.see).at_
  exact method_fn S.kin I' hga.1 hk hf ht (by show (lookIn name od).map (·.isSome) = some false; rw [hm.look, hv]; rfl) h

theorem r_setattr {Q : Unit → Shared → Prop} (S : St w e Γ own s) (hx : Γ.get? x = some (instObj C dx)) {n : Nat} (U : Up dx (FldO n m) (FldO (n + 1) (upd m name v)) own own') (hz : n ≤ 1000) (h : ∀ s', St w e Γ own' s' → Q () s')
    (hs : findIn (KF w) (.ref C) "__setattr__" = some (some (.builtin "object.__setattr__")) := by kernel_rfl!) (hp : plainOver (KF w) C = true := by kernel_rfl!) (ht : takerIn (KF w) C name = some none := by kernel_rfl!) (hd : (clsIn (KF w) C).any (·.hasDict) = true := by kernel_rfl!) :
    wpAny (model pg w) A (setAttr (.ref x) name v) Q E s := by
  have hx' := S.see _ _ hx
  obtain ⟨od, ho, hm⟩ := S.has _ U.mem
  have I : InstAt s.heap x (instObj C dx) C (some od) := ⟨hx', rfl, rfl, ho⟩
  refine set_plain S.kin I hs ?_
  refine osa_open (s := { s with toks := s.toks + 1 }) S.kin I hp ht fun b => ?_
  obtain ⟨cd, hc, hd'⟩ := any_some hd
  refine wpAny_bind (wpAny_pure (wpAny_bind (wpAny_bind (wpAny_loadPart hx' (wpAny_bind ((looks_clsIn S.kin hc) _ _ _ _ (fun _ _ e => e) ?_))))))
  rw [hd']
  refine wpAny_pure (a := some dx) (wpAny_bind (wpAny_pure (wpAny_bind ?_)))
  refine wpAny_nsSetF (m := m) (n := n) ⟨od, ho, hm⟩ fun h' hn hsb => ?_
  have S' := S.updS (s' := { s with heap := h', toks := s.toks + 1 + 1 }) U hsb hn
  obtain ⟨o', g1, es', ep', g2, g3, g4, g5⟩ := hn
  refine wpAny_bind (wpAny_lookBehind g1 (by rw [g2]; exact pastItsLine_dict (by rw [sizeLine_eq]; omega)) ?_)
  exact wpAny_pure (h _ S')

/-! what a class makes -/
theorem Room.make {A : Around} {n : Nat} (R : Room A (n + 1)) {vals : List Value} : Room (A.under (.builtin "type.__call__" ⟨.ref C :: vals, []⟩)) n := by
  have h1 := R.dp
  have h2 := R.un
  refine ⟨R.hh, ?_, ?_⟩
  · show A.depth + 1 + 2 * n + 10 < _; omega
  · have : (Code.builtin "type.__call__" ⟨.ref C :: vals, []⟩).cUnits = 1 := rfl
    show A.units + (Code.builtin "type.__call__" ⟨.ref C :: vals, []⟩).cUnits + 12 * n + 200 < _
    omega
theorem r_make {vals : List Value} {Q : Value → Shared → Prop} (S : St w e Γ own s) (hm : makesIn (KF w) C = true) (hi : findIn (KF w) (.ref C) "__init__" = some (some (.ref fI))) (hf : typeIn (KF w) (.ref fI) = some (.type "function"))
    (h : ∀ Γ' x dx s', St w e Γ' ((dx, FldO 0 m0) :: own) s' → Sub Γ Γ' → Γ'.get? x = some (instObj C dx) →
      codeAny (model pg w) (A.under (.builtin "type.__call__" ⟨.ref C :: vals, []⟩)) (.call (.ref fI) ⟨.ref x :: vals, []⟩) (InitBack x fun r s' => match r with | .ok (.ret v) => Q v s' | .ok _ => False | .error e => E e s') s') :
    wpAny (model pg w) A (call (.ref C) vals) Q E s := by
  refine wpAny_call ?_
  have S1 := S.allocO (P := FldO 0 m0) (o := emptyDict) rfl FldO.new
  obtain ⟨Γ', S2, k2, h2⟩ := S1.alloc (o := instObj C s.heap.objs.size) rfl
  have hsz : (s.heap.push emptyDict).objs.size = s.heap.objs.size + 1 := Heap.size_push ..
  obtain ⟨hp, g, d, tk, os⟩ := s
  refine make_core (makes_of S.kin hm) (looks_findIn S.kin hi) (fun self => bind_fn S.kin self hf) (.inl rfl) ?_
  refine h Γ' (hp.objs.size + 1) hp.objs.size _ S2 k2 ?_
  rw [← hsz]
  exact h2
end

local macro_rules | `(tactic| walk_at "ad") => `(tactic| first | exact St.at' (by assumption) (by walk_at "mm") | exact St.at (by assumption) (by assumption) | exact St.at (by assumption) (At.mono (by assumption) (by walk_at "sub")))
local macro_rules | `(tactic| walk_at "fi") => `(tactic| first | assumption | exact IsInst.mono (by assumption) (by walk_at "sub"))
local macro_rules | `(tactic| walk_at "fg") => `(tactic| first | assumption | exact (show Sub _ _ by walk_at "sub") _ _ (by assumption))
local macro_rules | `(tactic| walk_at "w2") => `(tactic| first
  | ((with_reducible show wpAny _ _ (eval _ _) _ _ _); walk_at "ev")
  | ((with_reducible show wpAny _ _ (getAttr (Value.ref _) _ _) _ _ _); with_reducible refine r_attr (by assumption) (by k_dflt (walk_at "fi")) (by k_dflt (walk_at "lk")) (by k_dflt (first | rfl | assumption)) ?_; walk_at "clr"; intro _ _)
  | ((with_reducible show wpAny _ _ (getMethod (Value.ref _) _ _) _ _ _); with_reducible refine r_meth (by assumption) (by k_dflt (walk_at "fi")) (by k_dflt (walk_at "lk")) ?_)
  | ((with_reducible show wpAny _ _ (callWith _ (Value.ref _) _ _ _) _ _ _); first | with_reducible refine callWith_K (K := KF _) (St.kin (by assumption)) (by kernel_rfl!) ?_ (he := by k_dflt (exact rfl)) (hplain := by k_dflt (exact rfl)) | with_reducible refine callWith_K0 (K := KF _) (St.kin (by assumption)) (by kernel_rfl!) ?_)
  | ((with_reducible show (KF _).In _ ∧ _); refine ⟨St.kin (by assumption), ?_⟩)
  | walk_at "w"
  | ((with_reducible show wpAny _ _ (exec (Stmt.Assign [Expr.Attribute _ _ _] _ _) _) _ _ _); with_reducible refine plainObj_wpAny_Assign_Attribute ?_ (hs := by k_dflt (exact rfl)))
  | ((with_reducible show wpAny _ _ (setAttr (Value.ref _) _ _) _ _ _); with_reducible refine r_setattr (by assumption) (by k_dflt (walk_at "fg")) (by walk_at "up") (by decide) ?_; walk_at "clr"; intro _ _)
  | ((with_reducible show wpAny _ _ (compareOp .In (Value.int _ _) (Value.ref _)) _ _ _); with_reducible refine r_in (by assumption) (by k_dflt (walk_at "ad")) (by assumption) ?_; walk_at "clr"; intro _ _)
  | with_reducible refine ep_none ?_
  | with_reducible refine ep_some ?_
  | with_reducible refine wpAny_assign_Name ?_
  | ((with_reducible show testsOf _ _ [] _ _ _ _); refine wpAny_tests_nil ?_)
  | ((with_reducible show testsOf _ _ [_] _ _ _ _); refine wpAny_tests_one ?_)
  | ((with_reducible show wpAny _ _ (unaryOp _ _) _ _ _); with_reducible refine r_neg (by assumption) ?_; walk_at "clr"; intro _ _ _)
  | ((with_reducible show wpAny _ _ (binaryOp _ (Value.int _ _) (Value.bool _)) _ _ _); with_reducible refine r_mulB (by assumption) ?_; walk_at "clr"; intro _ _ _))



section
variable {w : World} {e : Ent} {Γ : Heap} {s : Shared} {own own' : Own} {A : Around} {E : Value → Shared → Prop} {v v1 v2 v3 v4 : Value}

theorem St.inst {n : Nat} {m : Str → Option Value} {Γ' : Heap} {s' : Shared} {x dx C : Addr} (S : St w e Γ own s) (S' : St w e Γ' ((dx, FldO n m) :: own) s') (hx : Γ'.get? x = some (instObj C dx)) :
    ∃ Γ'', St w e Γ'' own s' ∧ Sub Γ' Γ'' ∧ IsInst Γ'' x C m := by
  obtain ⟨Γ'', o, S'', k, h1, h2⟩ := S'.freeze fun x hx => S.wown x hx
  exact ⟨Γ'', S'', k, dx, k _ _ hx, o, h1, h2.ns⟩

theorem c_Coverage {Q : Value → Shared → Prop} (S : St w e Γ own s) (R : Room A 2)
    (hQ : ∀ Γ' s' x, St w e Γ' own s' → Sub Γ Γ' → IsInst Γ' x 59 (upd m0 "glyphs" v) → Q (.ref x) s') : wpAny (model pg w) A (call (.ref 59) [v]) Q E s := by
  refine r_make (fI := 35) S rfl rfl rfl fun Γ₁ x dx s₁ S₁ k₁ hx => ?_
  refine' code1 (K := fun _ v => v = .none) (P' := FldO 1 (upd m0 "glyphs" v)) (own' := (dx, FldO 1 (upd m0 "glyphs" v)) :: own)
    (fr := fun L => [(L, NsO (upd (upd m0 "self" (.ref x)) "glyphs" v)), (dx, FldO 0 m0)]) (binds := [("self", .ref x), ("glyphs", v)]) S₁ .head (R.make (vals := [v])).depth ?ho ?hcd ?hbind ?hkind ?hnd ?hfr ?hQ ?body ?h1 ?h2 ?h3
  case ho => rfl
  case hcd => rfl
  case hbind => exact .of_eq (by rfl)
  case hkind => rfl
  case hnd => decide
  case hfr => intro L; rfl
  case h1 => rfl
  case h2 => rfl
  case h3 => rfl
  case hQ =>
    rintro Γ' s' v' S' k rfl
    obtain ⟨Γ'', S'', k', I⟩ := S.inst S' (k _ _ hx)
    exact ⟨rfl, hQ Γ'' s' x S'' ((k₁.trans k).trans k') I⟩
  intro e' hW L s S; show wpAny _ _ (execs (_ :: _) _) _ _ _
  repeat (walk_at "w2")
  exact ⟨Γ₁, _, by assumption, by walk_at "mm", Sub.rfl', rfl⟩

theorem c_ClassDef {Q : Value → Shared → Prop} (S : St w e Γ own s) (R : Room A 2)
    (hQ : ∀ Γ' s' x, St w e Γ' own s' → Sub Γ Γ' → IsInst Γ' x 199 (upd m0 "classes" v) → Q (.ref x) s') : wpAny (model pg w) A (call (.ref 199) [v]) Q E s := by
  refine r_make (fI := 170) S rfl rfl rfl fun Γ₁ x dx s₁ S₁ k₁ hx => ?_
  refine' code1 (K := fun _ v => v = .none) (P' := FldO 1 (upd m0 "classes" v)) (own' := (dx, FldO 1 (upd m0 "classes" v)) :: own)
    (fr := fun L => [(L, NsO (upd (upd m0 "self" (.ref x)) "classes" v)), (dx, FldO 0 m0)]) (binds := [("self", .ref x), ("classes", v)]) S₁ .head (R.make (vals := [v])).depth ?ho ?hcd ?hbind ?hkind ?hnd ?hfr ?hQ ?body ?h1 ?h2 ?h3
  case ho => rfl
  case hcd => rfl
  case hbind => exact .of_eq (by rfl)
  case hkind => rfl
  case hnd => decide
  case hfr => intro L; rfl
  case h1 => rfl
  case h2 => rfl
  case h3 => rfl
  case hQ =>
    rintro Γ' s' v' S' k rfl
    obtain ⟨Γ'', S'', k', I⟩ := S.inst S' (k _ _ hx)
    exact ⟨rfl, hQ Γ'' s' x S'' ((k₁.trans k).trans k') I⟩
  intro e' hW L s S; show wpAny _ _ (execs (_ :: _) _) _ _ _
  repeat (walk_at "w2")
  exact ⟨Γ₁, _, by assumption, by walk_at "mm", Sub.rfl', rfl⟩

def ruleM (back inside ahead actions : Value) : Str → Option Value := upd (upd (upd (upd m0 "back" back) "inside" inside) "ahead" ahead) "actions" actions
theorem c_Rule {Q : Value → Shared → Prop} (S : St w e Γ own s) (R : Room A 2)
    (hQ : ∀ Γ' s' x, St w e Γ' own s' → Sub Γ Γ' → IsInst Γ' x 94 (ruleM v1 v2 v3 v4) → Q (.ref x) s') : wpAny (model pg w) A (call (.ref 94) [v1, v2, v3, v4]) Q E s := by
  refine r_make (fI := 77) S rfl rfl rfl fun Γ₁ x dx s₁ S₁ k₁ hx => ?_
  refine' code1 (K := fun _ v => v = .none) (P' := FldO 4 (ruleM v1 v2 v3 v4)) (own' := (dx, FldO 4 (ruleM v1 v2 v3 v4)) :: own)
    (fr := fun L => [(L, NsO (upd (upd (upd (upd (upd m0 "self" (.ref x)) "back" v1) "inside" v2) "ahead" v3) "actions" v4)), (dx, FldO 0 m0)]) (binds := [("self", .ref x), ("back", v1), ("inside", v2), ("ahead", v3), ("actions", v4)]) S₁ .head (R.make (vals := [v1, v2, v3, v4])).depth ?ho ?hcd ?hbind ?hkind ?hnd ?hfr ?hQ ?body ?h1 ?h2 ?h3
  case ho => rfl
  case hcd => rfl
  case hbind => exact .of_eq (by rfl)
  case hkind => rfl
  case hnd => decide
  case hfr => intro L; rfl
  case h1 => rfl
  case h2 => rfl
  case h3 => rfl
  case hQ =>
    rintro Γ' s' v' S' k rfl
    obtain ⟨Γ'', S'', k', I⟩ := S.inst S' (k _ _ hx)
    exact ⟨rfl, hQ Γ'' s' x S'' ((k₁.trans k).trans k') I⟩
  intro e' hW L s S; show wpAny _ _ (execs (_ :: _) _) _ _ _
  repeat (walk_at "w2")
  exact ⟨Γ₁, _, by assumption, by walk_at "mm", Sub.rfl', rfl⟩

def ctxM (form chained sets cov cls : Value) : Str → Option Value := upd (upd (upd (upd (upd m0 "form" form) "is_chained" chained) "sets" sets) "coverage" cov) "classes" cls
theorem c_Contexts {Q : Value → Shared → Prop} {form chained sets cov cls : Value} {args : List Value} (hargs : args = [form, chained, sets, cov, cls] ∨ args = [form, chained, sets] ∧ cov = .none ∧ cls = .none) (S : St w e Γ own s) (R : Room A 2)
    (hQ : ∀ Γ' s' x, St w e Γ' own s' → Sub Γ Γ' → IsInst Γ' x 135 (ctxM form chained sets cov cls) → Q (.ref x) s') : wpAny (model pg w) A (call (.ref 135) args) Q E s := by
  refine r_make (fI := 113) S rfl rfl rfl fun Γ₁ x dx s₁ S₁ k₁ hx => ?_
  refine' code1 (K := fun _ v => v = .none) (P' := FldO 5 (ctxM form chained sets cov cls)) (own' := (dx, FldO 5 (ctxM form chained sets cov cls)) :: own)
    (fr := fun L => [(L, NsO (upd (upd (upd (upd (upd (upd m0 "self" (.ref x)) "form" form) "is_chained" chained) "sets" sets) "coverage" cov) "classes" cls)), (dx, FldO 0 m0)]) (binds := [("self", .ref x), ("form", form), ("is_chained", chained), ("sets", sets), ("coverage", cov), ("classes", cls)]) S₁ .head (R.make (vals := args)).depth ?ho ?hcd ?hbind ?hkind ?hnd ?hfr ?hQ ?body ?h1 ?h2 ?h3
  case ho => rfl
  case hcd => rfl
  case hbind =>
    rcases hargs with rfl | ⟨rfl, rfl, rfl⟩
    · exact .of_defaults (T := 106) rfl (S₁.kin _ _ rfl) rfl rfl rfl
    · exact .of_defaults (T := 106) rfl (S₁.kin _ _ rfl) rfl rfl rfl
  case hkind => rfl
  case hnd => decide
  case hfr => intro L; rfl
  case h1 => rfl
  case h2 => rfl
  case h3 => rfl
  case hQ =>
    rintro Γ' s' v' S' k rfl
    obtain ⟨Γ'', S'', k', I⟩ := S.inst S' (k _ _ hx)
    exact ⟨rfl, hQ Γ'' s' x S'' ((k₁.trans k).trans k') I⟩
  intro e' hW L s S; show wpAny _ _ (execs (_ :: _) _) _ _ _
  repeat (walk_at "w2")
  exact ⟨Γ₁, _, by assumption, by walk_at "mm", Sub.rfl', rfl⟩
end



section
variable {w : World} {e : Ent} {Γ : Heap} {s : Shared} {own own' : Own} {A : Around} {E : Value → Shared → Prop} {l p scr : Addr} {vs : List Value} {ns : List Int} {Q : Value → Shared → Prop}
  {f : Addr} {name qual : Str} {params : Arguments} {body : List Stmt} {scope : Scope} {dV kV doc pm cdv ct oc : Value} {an od : Option Addr} {osl : Array (Option Value)} {args : List Value} {binds : List (Str × Value)}

/-- a call that hands over a new thing -/
theorem callN {fr : Addr → Own} {K : Heap → Addr → (Obj → Prop) → Prop} (S : St w e Γ own s) (hroom : A.depth < recursionLimit)
    (ho : (KF w).lookup f = some ⟨oc, od, .func (fnX name qual params body scope [] dV kV doc pm an cdv ct), osl⟩) (hcd : codeIn (KF w) cdv qual = true)
    (hbind : BindsTo s (fnX name qual params body scope [] dV kV doc pm an cdv ct) ⟨args, []⟩ binds)
    (hkind : kindsOk scope binds = true)
    (hnd : ((cellsFrom 0 scope.names []).map (·.1)).Nodup)
    (hfr : ∀ L, fr L = (L, NsO (bindL (envOfC qual scope L f cdv).kindOf binds fun _ => none)) :: cellOwn (bindC (envOfC qual scope L f cdv).kindOf binds fun _ => none) (cellsFrom (L + 1) scope.names []))
    (hQ : ∀ Γ' s' p P, St w e Γ' ((p, P) :: own) s' → Sub Γ Γ' → K Γ' p P → Q (.ref p) s')
    (h : ∀ (e' : Ent), e'.W = [] → ∀ L s₂, St w e' Γ (fr L) s₂ →
      wpAny (model pg w) (A.deeper (envOfC qual scope L f cdv)) (execs body (envOfC qual scope L f cdv))
        (fun fl s' => ∃ Γ' own₂ p P, retV fl = .ref p ∧ St w e' Γ' own₂ s' ∧ (p, P) ∈ own₂ ∧ Sub Γ Γ' ∧ K Γ' p P) (fun _ _ => False) s₂)
    (hco : scope.isCoroutine = false := by rfl) (hgen : scope.isGenerator = false := by rfl) (hk : scope.kind = .function := by rfl) :
    wpAny (model pg w) A (call (.ref f) args) Q E s := by
  refine wpAny_call (call_core (wr := []) (fr := fr) S hroom ho hcd hbind hkind hnd (List.nil_sublist _) hfr (fun L s₂ S₂ => ?_) hco hgen hk)
  rw [List.append_nil] at S₂
  refine wpAny_mono (h _ rfl L s₂ S₂) (fun fl s' hl => ?_) fun _ _ y => y
  obtain ⟨Γ', own₂, p, P, hr, h1, hm, h2, h3⟩ := hl
  rw [hr]
  exact hQ Γ' s' p P (S.leave0n h1 hm) h2 h3

theorem ints_snoc {vs : List Value} {ns : List Int} {k : Int} {t : Tok} (h : IntsAre vs ns) : IntsAre (vs ++ [.int k t]) (ns ++ [k]) := by
  induction h with
  | nil => exact .cons k t .nil
  | cons j u hr ih => exact .cons j u ih

theorem c_pen (S : St w e Γ own s) (R : Room A 2) (hl : At Γ l (LO vs)) (hi : IntsAre vs ns) (hz : vs.length ≤ 63)
    (hQ : ∀ Γ' s' p scr, St w e Γ' ((p, PenO scr 0) :: own) s' → Sub Γ Γ' → Scr Γ' scr → Q (.ref p) s') : wpAny (model pg w) A (call (.ref 208) [.ref l]) Q E s := by
  refine' callN (K := fun Γ' p P => ∃ scr, P = PenO scr 0 ∧ Scr Γ' scr) (fr := fun L => [(L, NsO (upd m0 "script" (.ref l)))]) (binds := [("script", .ref l)]) S R.depth ?ho ?hcd ?hbind ?hkind ?hnd ?hfr ?hQ ?body ?h1 ?h2 ?h3
  case ho => rfl
  case hcd => rfl
  case hbind => exact .of_eq (by rfl)
  case hkind => rfl
  case hnd => decide
  case hfr => intro L; rfl
  case h1 => rfl
  case h2 => rfl
  case h3 => rfl
  case hQ => rintro Γ' s' p P S' k ⟨scr, rfl, h⟩; exact hQ Γ' s' p scr S' k h
  intro e' hW L s S; show wpAny _ _ (execs (_ :: _) _) _ _ _
  repeat (walk_at "w2")
  refine r_ListComp (R.deeper _).hh (by rfl) ?_
  repeat (walk_at "w2")
  refine sl_upto (Q := fun xv s₁ => wpAny _ _ (pyIter xv) _ _ s₁) (b := 63) (by assumption) rfl (St.at (by assumption) hl) (by omega) ?_
  walk_at "clr"; intro Γ₁ s a S k₁ ha
  refine i_list S ha fun it s₂ HI => ⟨e', Γ₁, _, _, _, fun i ys Γ' own' => own' = [(L, NsO (upd m0 "script" (.ref l)))] ∧ IntsAre ys ((ns.take 63).take i), HI, ?_, ⟨rfl, .nil⟩, ?_, ?_, ?_⟩
  · rw [List.length_take]; omega
  · intro _ _ _ _ _ x hx; rw [hW] at hx; cases hx
  · rintro i v ys Γ' _ C m D J s E' hi' hP hys k ⟨rfl, hI⟩ S
    obtain ⟨k0, t0, hk0, rfl⟩ := ints_at (hi.take 63) hP
    repeat (walk_at "w2")
    refine ⟨Γ', _, _, by assumption, Sub.rfl', rfl, ?_⟩
    rw [List.take_add_one, hk0]
    exact ints_snoc hI
  · rintro Γ₂ _ a ys s k ⟨Γ'', k2, rfl, hI⟩ hy ha S
    repeat (walk_at "w2")
    refine r_newListO (by assumption) (by simp) ?_
    walk_at "clr"; intro s p S
    repeat (walk_at "w2")
    refine ⟨Γ₂, _, p, PenO a 0, rfl, S.weak .head (P' := PenO a 0) ?_, by walk_at "mm", k₁.trans k, a, rfl, ys, _, ha, hI, ?_⟩
    · rintro o ⟨n, rfl⟩
      exact ⟨0, 0, _, _, ⟨rfl, n, rfl⟩, Int.le_refl _, Int.le_refl _, Int.le_refl _⟩
    · rw [List.length_take] at hy; omega

theorem PenO.le {N M : Nat} {o : Obj} (h : PenO scr N o) (hNM : N ≤ M) : PenO scr M o := by
  obtain ⟨spot, great, t₁, t₂, h1, h2, h3, h4⟩ := h
  exact ⟨spot, great, t₁, t₂, h1, h2, by omega, h4⟩

theorem Scr.mono {Γ Γ' : Heap} (h : Scr Γ scr) (k : Sub Γ Γ') : Scr Γ' scr := let ⟨vs, ns, a, b⟩ := h; ⟨vs, ns, a.mono k, b⟩
end

local macro_rules | `(tactic| walk_at "room") => `(tactic| first | assumption | exact Room.le (Room.deeper (by assumption) _) (by decide) | exact Room.le (by assumption) (by decide))
local macro_rules | `(tactic| walk_at "scr") => `(tactic| first | assumption | exact Scr.mono (by assumption) (by walk_at "sub"))
local macro_rules | `(tactic| walk_at "draw") => `(tactic| (refine c_draw (by assumption) (by walk_at "scr") (by walk_at "up") (by walk_at "room") (by omega) (by omega) (by omega) ?_; walk_at "clr"))



section
variable {w : World} {e : Ent} {Γ : Heap} {s : Shared} {own own' : Own} {A : Around} {E : Value → Shared → Prop} {l p scr : Addr} {vs : List Value} {ns : List Int} {Q : Value → Shared → Prop}

set_option maxHeartbeats 2000000 in
theorem c_glyphs {N : Nat} {most : Int} {tk : Tok} (S : St w e Γ own s) (hs : Scr Γ scr) (U : Up p (PenO scr N) (PenO scr (N + 13)) own own') (R : Room A 4) (hN : N < 4900) (hm : 1 ≤ most) (hm' : most ≤ 6)
    (hQ : ∀ Γ' s' a vs ns, St w e Γ' own' s' → Sub Γ Γ' → IsLst Γ' a vs → IntsAre vs ns → 1 ≤ vs.length → vs.length ≤ most.toNat → Q (.ref a) s') : wpAny (model pg w) A (call (.ref 220) [.ref p, .int most tk]) Q E s := by
  refine' call1 (K := fun Γ' v => ∃ a vs ns, v = .ref a ∧ IsLst Γ' a vs ∧ IntsAre vs ns ∧ 1 ≤ vs.length ∧ vs.length ≤ most.toNat)
    (fr := fun L => [(L, NsO (upd m0 "most" (.int most tk))), (L + 2, CellO none), (L + 1, CellO (some (.ref p))), (p, PenO scr N)]) (binds := [("pen", .ref p), ("most", .int most tk)]) S U R.depth ?ho ?hcd ?hbind ?hkind ?hnd ?hfr ?hQ ?body ?h1 ?h2 ?h3
  case ho => rfl
  case hcd => rfl
  case hbind => exact .of_eq (by rfl)
  case hkind => rfl
  case hnd => decide
  case hfr => intro L; rfl
  case h1 => rfl
  case h2 => rfl
  case h3 => rfl
  case hQ => rintro Γ' s' v S' k ⟨a, vs, ns, rfl, h1, h2, h3, h4⟩; exact hQ Γ' s' a vs ns S' k h1 h2 h3 h4
  intro e' hW L s S; show wpAny _ _ (execs (_ :: _) _) _ _ _
  repeat (walk_at "w2")
  refine r_ListComp (R.deeper _).hh (by rfl) ?_
  repeat (walk_at "w2")
  walk_at "draw"; intro Γ₁ s d td S k₁ d0 d1
  repeat (walk_at "w2")
  refine r_range (by assumption) ?_
  walk_at "clr"; intro Γ₂ s ra t u v S k₂ hra
  obtain ⟨n, hn⟩ : ∃ n : Nat, (n : Int) = 1 + d := ⟨(1 + d).toNat, by omega⟩
  rw [← hn] at hra
  refine i_range S hra (by omega) fun it s₂ HI => ⟨e', Γ₂, _, _, _, fun i ys Γ' own' => own' = [(L, NsO (upd m0 "most" (.int most tk))), (L + 2, CellO none), (L + 1, CellO (some (.ref p))), (p, PenO scr (N + 1 + i))] ∧ ∃ ns, IntsAre ys ns ∧ ns.length = i,
    HI, by omega, ⟨rfl, [], .nil, rfl⟩, ?_, ?_, ?_⟩
  · rintro i ys Γ' own' ⟨rfl, _⟩ x hx
    rw [hW] at hx; rw [List.mem_singleton.mp hx]; simp [Own.as]
  · rintro i v ys Γ' _ C m D J s E' hi' hP hys k ⟨rfl, ns, hI, hl⟩ S
    repeat (walk_at "w2")
    walk_at "draw"; intro Γ₃ s d' td' S k₃ d0' d1'
    exact ⟨Γ₃, _, _, by assumption, k₃, rfl, _, (ints_snoc hI), by simp [hl]⟩
  · rintro Γ₃ _ a ys s k ⟨Γ'', k2, rfl, ns, hI, hnl⟩ hy ha S
    repeat (walk_at "w2")
    refine r_set (by assumption) (R.deeper _).hh (by walk_at "al") hI (by omega) ?_
    walk_at "clr"; intro Γ₄ s b S k₄ hb
    repeat (walk_at "w2")
    obtain ⟨o, ho, ks, hso, hnd, hmem, hlen⟩ := hb
    refine r_sorted_set (ks := ks) (by assumption) (R.deeper _).hh (S.at ⟨o, ho, hso⟩) (by omega) ?_
    walk_at "clr"; intro Γ₅ s f us ms S k₅ hf hu hp hsrt
    repeat (walk_at "w2")
    have hkn : 1 ≤ ks.length := by
      cases ns with
      | nil => simp at hnl; omega
      | cons x r =>
        have : x ∈ ks := (hmem x).mpr (by simp)
        exact List.length_pos_of_mem this
    have hul : us.length = ks.length := hu.length.trans hp.length_eq
    obtain ⟨g0, t0, hg0⟩ := int_at hu (k := 0) (Int.le_refl _) (by omega)
    obtain ⟨g1, t1, hg1⟩ := int_at hu (k := (us.length : Int) - 1) (by omega) (by omega)
    refine r_item (v := .int g0 t0) (by walk_at "al") (by omega) (by omega) hg0 ?_
    repeat (walk_at "w2")
    refine r_newList (by assumption) (by simp) ?_
    walk_at "clr"; intro Γ₆ s b1 S k₆ hb1
    refine r_ListComp (R.deeper _).hh (by rfl) ?_
    repeat (walk_at "w2")
    refine sl_from (Q := fun xv s₁ => wpAny _ _ (pyIter xv) _ _ s₁) (b := 1) (by assumption) rfl (by walk_at "al") (by omega) ?_
    walk_at "clr"; intro Γ₇ s a2 S k₇ ha2
    refine i_list S ha2 fun it s₂ HI => ⟨e', Γ₇, _, _, _, fun i ys Γ' own' => own' = [(L, NsO (upd m0 "most" (.int most tk))), (L + 2, CellO (some (.ref f))), (L + 1, CellO (some (.ref p))), (p, PenO scr (N + 1 + n + i))] ∧ ∃ ns, IntsAre ys ns ∧ ys.length = i,
      HI, by rw [List.length_drop]; omega, ⟨rfl, [], .nil, rfl⟩, ?_, ?_, ?_⟩
    · rintro i ys Γ' own' ⟨rfl, _⟩ x hx
      rw [hW] at hx; rw [List.mem_singleton.mp hx]; simp [Own.as]
    · rintro i v ys Γ' _ C m D J s E' hi' hP hys k ⟨rfl, ns, hI, hl⟩ S
      obtain ⟨k0, t0, hk0, rfl⟩ := ints_at (hu.drop 1) hP
      rw [List.length_drop] at hi'
      repeat (walk_at "w2")
      walk_at "draw"; intro Γ₃ s d' td' S k₃ d0' d1'
      repeat (walk_at "w2")
      refine r_itemNeg (v := .int g1 t1) (by walk_at "al") (by omega) (by omega) (by omega) (by rw [← hg1]; congr 1 <;> omega) ?_
      repeat (walk_at "w2")
      exact ⟨Γ₃, _, _, by assumption, k₃, rfl, _, (ints_snoc hI), by simp [hl]⟩
    · rintro Γ₈ _ a3 ys s k ⟨Γ'', k2, rfl, ns', hI', hyl⟩ hy' ha3 S
      rw [List.length_drop] at hyl
      refine r_addL (by assumption) (S.at (hb1.mono (k₇.trans k))) (S.at ha3) (by simp; omega) ?_
      walk_at "clr"; intro Γ₉ s a4 S k₉ ha4
      refine ⟨Γ₉, _, St.weak (a := p) (P' := PenO scr (N + 13)) S (by walk_at "up") ?_, by walk_at "mm", by walk_at "sub", a4, _, g0 :: ns', rfl, ha4, .cons _ _ hI', by simp, ?_⟩
      · exact fun o ho => PenO.le ho (by rw [List.length_drop]; omega)
      · simp
        omega
end



/-! the table as a datum -/
inductive PD
  | num (n : Int)
  | cov (ns : List Int)
structure RuleD where
  back : Value
  inside : Value
  ahead : Value
  bp : List PD
  ip : List PD
  ap : List PD
  acts : List (Int × Int)
structure CtxD where
  form : Int
  ch : Bool
  sets : List (Int × List RuleD)
  cov : Value
  cls : Value
  covD : List Int
  clsD : List (List (Int × Int))

def AllAt {α : Type} (R : Value → α → Prop) (vs : List Value) (ps : List α) : Prop := vs.length = ps.length ∧ ∀ (i : Nat) v, vs[i]? = some v → ∃ p, ps[i]? = some p ∧ R v p
section
variable {α : Type} {R R' : Value → α → Prop} {vs : List Value} {ps : List α} {v : Value} {p : α}
theorem AllAt.nil : AllAt R [] [] := ⟨rfl, fun i v h => by simp at h⟩
theorem AllAt.snoc (h : AllAt R vs ps) (hp : R v p) : AllAt R (vs ++ [v]) (ps ++ [p]) := by
  refine ⟨by simp [h.1], fun i u hu => ?_⟩
  rcases Nat.lt_or_ge i vs.length with hi | hi
  · rw [List.getElem?_append_left hi] at hu
    rw [List.getElem?_append_left (h.1 ▸ hi)]
    exact h.2 i u hu
  · rw [List.getElem?_append_right hi] at hu
    rw [List.getElem?_append_right (h.1 ▸ hi)]
    rw [← h.1]
    cases hz : i - vs.length with
    | zero => rw [hz] at hu; simp at hu; exact ⟨p, rfl, hu ▸ hp⟩
    | succ k => rw [hz] at hu; simp at hu
theorem AllAt.cons (hp : R v p) (h : AllAt R vs ps) : AllAt R (v :: vs) (p :: ps) := by
  refine ⟨by simp [h.1], fun i u hu => ?_⟩
  cases i with
  | zero => simp at hu; exact ⟨p, rfl, hu ▸ hp⟩
  | succ k => simp only [List.getElem?_cons_succ] at hu ⊢; exact h.2 k u hu
theorem AllAt.weak (h : AllAt R vs ps) (k : ∀ v p, R v p → R' v p) : AllAt R' vs ps := ⟨h.1, fun i v hv => let ⟨p, a, b⟩ := h.2 i v hv; ⟨p, a, k _ _ b⟩⟩
theorem AllAt.append {us : List Value} {qs : List α} (h : AllAt R vs ps) (h' : AllAt R us qs) : AllAt R (vs ++ us) (ps ++ qs) := by
  refine ⟨by simp [h.1, h'.1], fun i u hu => ?_⟩
  rcases Nat.lt_or_ge i vs.length with hi | hi
  · rw [List.getElem?_append_left hi] at hu
    rw [List.getElem?_append_left (h.1 ▸ hi)]
    exact h.2 i u hu
  · rw [List.getElem?_append_right hi] at hu
    rw [List.getElem?_append_right (h.1 ▸ hi), ← h.1]
    exact h'.2 _ u hu
end

def IntsOf (ns : List Int) (vs : List Value) : Prop := IntsAre vs ns
def TupI (Γ : Heap) (v : Value) (ns : List Int) : Prop := ∃ t vs, v = .ref t ∧ IsTpl Γ t vs ∧ IntsAre vs ns
def CovAt (Γ : Heap) (v : Value) (ns : List Int) : Prop := ∃ x tv, v = .ref x ∧ IsInst Γ x 59 (upd m0 "glyphs" tv) ∧ TupI Γ tv ns ∧ ns.length ≤ 6
def PartAt (Γ : Heap) (v : Value) : PD → Prop
  | .num n => ∃ t, v = .int n t
  | .cov ns => CovAt Γ v ns
def RowAt (Γ : Heap) (v : Value) (ps : List PD) : Prop := ∃ t vs, v = .ref t ∧ IsTpl Γ t vs ∧ AllAt (PartAt Γ) vs ps ∧ ps.length ≤ 3
def ActAt (Γ : Heap) (v : Value) (a : Int × Int) : Prop := ∃ p t u, v = .ref p ∧ IsTpl Γ p [.int a.1 t, .int a.2 u]
def ActsAt (Γ : Heap) (v : Value) (acts : List (Int × Int)) : Prop := ∃ t vs, v = .ref t ∧ IsTpl Γ t vs ∧ AllAt (ActAt Γ) vs acts ∧ acts.length ≤ 2
def RuleAt (Γ : Heap) (v : Value) (r : RuleD) : Prop := ∃ x av, v = .ref x ∧ IsInst Γ x 94 (ruleM r.back r.inside r.ahead av) ∧ ActsAt Γ av r.acts ∧ RowAt Γ r.back r.bp ∧ RowAt Γ r.inside r.ip ∧ RowAt Γ r.ahead r.ap
def RulesAt (Γ : Heap) (v : Value) (rs : List RuleD) : Prop := ∃ l vs, v = .ref l ∧ IsLst Γ l vs ∧ AllAt (RuleAt Γ) vs rs
def SetsI (Γ : Heap) : List (Int × Value) → List (Int × List RuleD) → Prop
  | [], [] => True
  | q :: r, q' :: r' => q.1 = q'.1 ∧ RulesAt Γ q.2 q'.2 ∧ SetsI Γ r r'
  | _, _ => False
def SetsAt (w : World) (Γ : Heap) (v : Value) (kss : List (Int × List RuleD)) : Prop := ∃ d kvs, v = .ref d ∧ IsDct w Γ d kvs ∧ SetsI Γ kvs kss
def ClsAt' (w : World) (Γ : Heap) (v : Value) (qs : List (Int × Int)) : Prop :=
  ∃ x d kvs, v = .ref x ∧ IsInst Γ x 199 (upd m0 "classes" (.ref d)) ∧ IsDct w Γ d kvs ∧ kvs.length = qs.length ∧ qs.length ≤ 4 ∧ ∀ (i : Nat) k x, kvs[i]? = some (k, x) → ∃ n t, qs[i]? = some (k, n) ∧ x = .int n t
def ClssAt (w : World) (Γ : Heap) (v : Value) (qss : List (List (Int × Int))) : Prop := ∃ t vs, v = .ref t ∧ IsTpl Γ t vs ∧ AllAt (ClsAt' w Γ) vs qss ∧ qss.length = 3
def CtxAt (w : World) (Γ : Heap) (v : Value) (c : CtxD) : Prop :=
  ∃ x ft sv, v = .ref x ∧ IsInst Γ x 135 (ctxM (.int c.form ft) (.bool c.ch) sv c.cov c.cls) ∧ SetsAt w Γ sv c.sets ∧ (∀ q ∈ c.sets, q.2.length ≤ 4) ∧ c.sets.length ≤ 4 ∧
    handedIn c.cov = true ∧ handedIn c.cls = true ∧ (c.form = 2 → CovAt Γ c.cov c.covD ∧ ClssAt w Γ c.cls c.clsD)

section
variable {w : World} {Γ Γ' : Heap} {v : Value} {ns : List Int}
theorem TupI.mono (h : TupI Γ v ns) (k : Sub Γ Γ') : TupI Γ' v ns := let ⟨t, vs, a, b, c⟩ := h; ⟨t, vs, a, b.mono k, c⟩
theorem CovAt.mono (h : CovAt Γ v ns) (k : Sub Γ Γ') : CovAt Γ' v ns := let ⟨x, tv, a, b, c, d⟩ := h; ⟨x, tv, a, b.mono k, c.mono k, d⟩
theorem PartAt.mono {p : PD} (h : PartAt Γ v p) (k : Sub Γ Γ') : PartAt Γ' v p := by
  cases p with
  | num n => exact h
  | cov ns => exact CovAt.mono h k
theorem RowAt.mono {ps : List PD} (h : RowAt Γ v ps) (k : Sub Γ Γ') : RowAt Γ' v ps := let ⟨t, vs, a, b, c, d⟩ := h; ⟨t, vs, a, b.mono k, c.weak fun _ _ z => PartAt.mono z k, d⟩
theorem ActAt.mono {a : Int × Int} (h : ActAt Γ v a) (k : Sub Γ Γ') : ActAt Γ' v a := let ⟨p, t, u, a, b⟩ := h; ⟨p, t, u, a, b.mono k⟩
theorem ActsAt.mono {acts : List (Int × Int)} (h : ActsAt Γ v acts) (k : Sub Γ Γ') : ActsAt Γ' v acts := let ⟨t, vs, a, b, c, d⟩ := h; ⟨t, vs, a, b.mono k, c.weak fun _ _ z => ActAt.mono z k, d⟩
theorem RuleAt.mono {r : RuleD} (h : RuleAt Γ v r) (k : Sub Γ Γ') : RuleAt Γ' v r := let ⟨x, av, a, b, c, d, e, f⟩ := h; ⟨x, av, a, b.mono k, c.mono k, d.mono k, e.mono k, f.mono k⟩
theorem RulesAt.mono {rs : List RuleD} (h : RulesAt Γ v rs) (k : Sub Γ Γ') : RulesAt Γ' v rs := let ⟨l, vs, a, b, c⟩ := h; ⟨l, vs, a, b.mono k, c.weak fun _ _ z => RuleAt.mono z k⟩
theorem SetsI.mono (k : Sub Γ Γ') : ∀ {kvs : List (Int × Value)} {kss : List (Int × List RuleD)}, SetsI Γ kvs kss → SetsI Γ' kvs kss
  | [], [], _ => trivial
  | _ :: _, _ :: _, ⟨a, b, c⟩ => ⟨a, b.mono k, SetsI.mono k c⟩
theorem SetsAt.mono {kss : List (Int × List RuleD)} (h : SetsAt w Γ v kss) (k : Sub Γ Γ') : SetsAt w Γ' v kss :=
  let ⟨d, kvs, a, b, c⟩ := h; ⟨d, kvs, a, ⟨b.1.mono k, b.2⟩, c.mono k⟩
theorem ClsAt'.mono {qs : List (Int × Int)} (h : ClsAt' w Γ v qs) (k : Sub Γ Γ') : ClsAt' w Γ' v qs := let ⟨x, d, kvs, a, b, c, r⟩ := h; ⟨x, d, kvs, a, b.mono k, ⟨c.1.mono k, c.2⟩, r⟩
theorem ClssAt.mono {qss : List (List (Int × Int))} (h : ClssAt w Γ v qss) (k : Sub Γ Γ') : ClssAt w Γ' v qss := let ⟨t, vs, a, b, c, d⟩ := h; ⟨t, vs, a, b.mono k, c.weak fun _ _ z => ClsAt'.mono z k, d⟩
theorem CtxAt.mono {c : CtxD} (h : CtxAt w Γ v c) (k : Sub Γ Γ') : CtxAt w Γ' v c :=
  let ⟨x, ft, sv, a, b, s, n, n', h1, h2, g⟩ := h; ⟨x, ft, sv, a, b.mono k, s.mono k, n, n', h1, h2, fun z => ⟨(g z).1.mono k, (g z).2.mono k⟩⟩
end

section
variable {w : World} {e : Ent} {Γ : Heap} {s : Shared} {own own' : Own} {A : Around} {E : Value → Shared → Prop} {l p scr : Addr} {vs : List Value} {ns : List Int} {Q : Value → Shared → Prop}

set_option maxHeartbeats 2000000 in
theorem c_part {N : Nat} {form : Int} {tk : Tok} (S : St w e Γ own s) (hs : Scr Γ scr) (U : Up p (PenO scr N) (PenO scr (N + 13)) own own') (R : Room A 6) (hN : N < 4900)
    (hQ : ∀ Γ' s' v d, St w e Γ' own' s' → Sub Γ Γ' → PartAt Γ' v d → Q v s') : wpAny (model pg w) A (call (.ref 232) [.ref p, .int form tk]) Q E s := by
  refine' call1 (K := fun Γ' v => ∃ d, PartAt Γ' v d)
    (fr := fun L => [(L, NsO (upd (upd m0 "pen" (.ref p)) "form" (.int form tk))), (p, PenO scr N)]) (binds := [("pen", .ref p), ("form", .int form tk)]) S U R.depth ?ho ?hcd ?hbind ?hkind ?hnd ?hfr ?hQ ?body ?h1 ?h2 ?h3
  case ho => rfl
  case hcd => rfl
  case hbind => exact .of_eq (by rfl)
  case hkind => rfl
  case hnd => decide
  case hfr => intro L; rfl
  case h1 => rfl
  case h2 => rfl
  case h3 => rfl
  case hQ => rintro Γ' s' v S' k ⟨d, h⟩; exact hQ Γ' s' v d S' k h
  intro e' hW L s S; show wpAny _ _ (execs (_ :: _) _) _ _ _
  repeat (walk_at "w2")
  refine wpAny_If ?_
  repeat (walk_at "w2")
  refine r_ite (fun hg => ?_) (fun hg => ?_)
  · repeat (walk_at "w2")
    refine c_glyphs (N := N) (by assumption) (by walk_at "scr") (by walk_at "up") (by walk_at "room") (by omega) (by omega) (by omega) ?_
    walk_at "clr"; intro Γ₁ s a vs ns S k₁ ha hi h1 h2
    repeat (walk_at "w2")
    refine r_tupleOf (by assumption) (by walk_at "al") (by omega) ?_
    walk_at "clr"; intro Γ₂ s t S k₂ ht
    repeat (walk_at "w2")
    refine c_Coverage (by assumption) (by walk_at "room") ?_
    walk_at "clr"; intro Γ₃ s x S k₃ hx
    exact ⟨Γ₃, _, by assumption, by walk_at "mm", by walk_at "sub", .cov ns, x, _, rfl, hx, ⟨t, vs, rfl, ht.mono k₃, hi⟩, by have := hi.length; omega⟩
  · repeat (walk_at "w2")
    refine r_ite (fun h1 => ?_) (fun h1 => ?_)
    all_goals
      repeat (walk_at "w2")
      walk_at "draw"; intro Γ₁ s d td S k₁ d0 d1
      refine ⟨Γ₁, _, St.weak (a := p) (P' := PenO scr (N + 13)) S (by walk_at "up") ?_, by walk_at "mm", by walk_at "sub", .num d, td, rfl⟩
      exact fun o ho => PenO.le ho (by omega)

/-- rows that stand one by one for pairs -/
theorem PairList.of {Γ : Heap} {vs : List Value} {qs : List (Int × Int)} (h : AllAt (ActAt Γ) vs qs) : ∃ kvs : List (Int × Value), PairList Γ vs kvs ∧ kvs.map (·.1) = qs.map (·.1) ∧ kvs.length = qs.length ∧ ∀ (i : Nat) k x, kvs[i]? = some (k, x) → ∃ n t, qs[i]? = some (k, n) ∧ x = .int n t := by
  obtain ⟨hl, h⟩ := h
  induction vs generalizing qs with
  | nil =>
    obtain rfl := List.eq_nil_of_length_eq_zero hl.symm
    exact ⟨[], ⟨rfl, fun i v h => by simp at h⟩, rfl, rfl, fun i k x h => by simp at h⟩
  | cons v vs ih =>
    cases qs with
    | nil => simp at hl
    | cons q qs =>
      obtain ⟨q', hq', p, t, u, hv, hT⟩ := h 0 v rfl
      obtain rfl : q = q' := by simpa using hq'
      obtain ⟨kvs, hP, hk, hl', hv'⟩ := ih (qs := qs) (by simpa using hl) fun i v hv => h (i + 1) v hv
      refine ⟨(q.1, .int q.2 u) :: kvs, ⟨by simp [hP.1], fun i v' e => ?_⟩, by simp [hk], by simp [hl'], fun i k x e => ?_⟩
      · cases i with
        | zero => simp at e; subst e; exact ⟨p, t, q.1, .int q.2 u, hv, rfl, hT⟩
        | succ i => simp only [List.getElem?_cons_succ] at e ⊢; exact hP.2 i v' e
      · cases i with
        | zero => simp at e; obtain ⟨rfl, rfl⟩ := e; exact ⟨q.2, u, rfl, rfl⟩
        | succ i => simp only [List.getElem?_cons_succ] at e ⊢; exact hv' i k x e

def intPairs' (qs : List (Int × Int)) (kvs : List (Int × Value)) : Prop := kvs.length = qs.length ∧ ∀ (i : Nat) k x, kvs[i]? = some (k, x) → ∃ n t, qs[i]? = some (k, n) ∧ x = .int n t
theorem stored_ints {acc : List (Int × Value)} {k : Int} {x : Value} (h : ∀ q ∈ acc, ∃ n t, q.2 = Value.int n t) (hx : ∃ n t, x = Value.int n t) : ∀ q ∈ stored acc k x, ∃ n t, q.2 = Value.int n t := by
  intro q hq
  unfold stored at hq
  split at hq
  · obtain ⟨r, hr, rfl⟩ := List.mem_map.mp hq
    split
    · exact hx
    · exact h r hr
  · rcases List.mem_append.mp hq with hq | hq
    · exact h q hq
    · rw [List.mem_singleton.mp hq]; exact hx
theorem merged_ints : ∀ {kvs acc : List (Int × Value)}, (∀ q ∈ acc, ∃ n t, q.2 = Value.int n t) → (∀ q ∈ kvs, ∃ n t, q.2 = Value.int n t) → ∀ q ∈ merged acc kvs, ∃ n t, q.2 = Value.int n t
  | [], acc, h, _ => h
  | q :: r, acc, h, h' => merged_ints (acc := stored acc q.1 q.2) (stored_ints h (h' q (.head _))) fun z hz => h' z (.tail _ hz)
theorem pairs_of {kvs : List (Int × Value)} (h : ∀ q ∈ kvs, ∃ n t, q.2 = Value.int n t) : ∃ qs : List (Int × Int), intPairs' qs kvs := by
  induction kvs with
  | nil => exact ⟨[], rfl, fun i k x e => by simp at e⟩
  | cons q r ih =>
    obtain ⟨qs, hl, hq⟩ := ih fun z hz => h z (.tail _ hz)
    obtain ⟨n, t, hn⟩ := h q (.head _)
    refine ⟨(q.1, n) :: qs, by simp [hl], fun i k x e => ?_⟩
    cases i with
    | zero => simp at e; subst e; exact ⟨n, t, rfl, hn⟩
    | succ i => simp only [List.getElem?_cons_succ] at e ⊢; exact hq i k x e

set_option maxHeartbeats 2000000 in
theorem c_classes {N : Nat} (S : St w e Γ own s) (hs : Scr Γ scr) (U : Up p (PenO scr N) (PenO scr (N + 17)) own own') (R : Room A 6) (hN : N < 4800)
    (hQ : ∀ Γ' s' v d, St w e Γ' own' s' → Sub Γ Γ' → ClsAt' w Γ' v d → Q v s') : wpAny (model pg w) A (call (.ref 225) [.ref p]) Q E s := by
  refine' call1 (K := fun Γ' v => ∃ d, ClsAt' w Γ' v d)
    (fr := fun L => [(L, NsO m0), (L + 1, CellO (some (.ref p))), (p, PenO scr N)]) (binds := [("pen", .ref p)]) S U R.depth ?ho ?hcd ?hbind ?hkind ?hnd ?hfr ?hQ ?body ?h1 ?h2 ?h3
  case ho => rfl
  case hcd => rfl
  case hbind => exact .of_eq (by rfl)
  case hkind => rfl
  case hnd => decide
  case hfr => intro L; rfl
  case h1 => rfl
  case h2 => rfl
  case h3 => rfl
  case hQ => rintro Γ' s' v S' k ⟨d, h⟩; exact hQ Γ' s' v d S' k h
  intro e' hW L s S; show wpAny _ _ (execs (_ :: _) _) _ _ _
  repeat (walk_at "w2")
  refine r_ListComp (R.deeper _).hh (by rfl) ?_
  repeat (walk_at "w2")
  refine c_glyphs (N := N) (by assumption) (by walk_at "scr") (by walk_at "up") (by walk_at "room") (by omega) (by omega) (by omega) ?_
  walk_at "clr"; intro Γ₁ s a vs ns S k₁ ha hi h1 h2
  refine i_list S ha fun it s₂ HI => ⟨e', Γ₁, _, _, _, fun i ys Γ' own' => own' = [(L, NsO m0), (L + 1, CellO (some (.ref p))), (p, PenO scr (N + 13 + i))] ∧ ∃ qs, AllAt (ActAt Γ') ys qs ∧ qs.length = i,
      HI, by omega, ⟨rfl, [], .nil, rfl⟩, ?_, ?_, ?_⟩
  · rintro i ys Γ' own' ⟨rfl, _⟩ x hx
    rw [hW] at hx; rw [List.mem_singleton.mp hx]; simp [Own.as]
  · rintro i v ys Γ' _ C m D J s E' hi' hP hys k ⟨rfl, qs, hq, hl⟩ S
    obtain ⟨k0, t0, hk0, rfl⟩ := ints_at hi hP
    have hi4 : i < 4 := by omega
    repeat (walk_at "w2")
    walk_at "draw"; intro Γ₃ s d' td' S k₃ d0' d1'
    repeat (walk_at "w2")
    refine r_newTuple (by assumption) (by simp) ?_
    walk_at "clr"; intro Γ₄ s t S k₄ ht
    exact ⟨Γ₄, _, _, by assumption, by walk_at "sub", rfl, qs ++ [(k0, 1 + d')], (hq.weak fun _ _ z => ActAt.mono z (k₃.trans k₄)).snoc ⟨t, _, _, rfl, ht⟩, by simp [hl]⟩
  · rintro Γ₃ _ a2 ys s k ⟨Γ'', k2, rfl, qs, hq, hl⟩ hy ha2 S
    have hq := hq.weak fun _ _ z => ActAt.mono z k2
    obtain ⟨kvs, hP, _, hkl, hkv⟩ := PairList.of hq
    repeat (walk_at "w2")
    refine r_dict (by assumption) (R.deeper _).hh (by walk_at "fz") hP (by have := hq.1; omega) ?_
    walk_at "clr"; intro Γ₄ s d S k₄ hd
    repeat (walk_at "w2")
    refine c_ClassDef (by assumption) (by walk_at "room") ?_
    walk_at "clr"; intro Γ₅ s x S k₅ hx
    have hml := merged_length_le ([] : List (Int × Value)) kvs
    obtain ⟨qs', hq1, hq2⟩ := pairs_of (merged_ints (acc := []) (kvs := kvs) (fun q hq => by simp at hq) fun q hq => by
      obtain ⟨i, hi, rfl⟩ := List.mem_iff_getElem.mp hq
      obtain ⟨n, t, _, hx⟩ := hkv i _ _ (List.getElem?_eq_getElem hi)
      exact ⟨n, t, hx⟩)
    refine ⟨Γ₅, _, St.weak (a := p) (P' := PenO scr (N + 17)) S (by walk_at "up") ?_, by walk_at "mm", by walk_at "sub", qs', x, d, _, rfl, hx, ⟨hd.1.mono k₅, hd.2⟩, hq1, ?_, hq2⟩
    · exact fun o ho => PenO.le ho (by omega)
    · simp at hml; omega
end



section
variable {w : World} {e : Ent} {Γ : Heap} {s : Shared} {own own' : Own} {A : Around} {E : Value → Shared → Prop} {l p scr : Addr} {vs : List Value} {ns : List Int} {Q : Value → Shared → Prop}

set_option maxHeartbeats 8000000 in
theorem c_rule {N : Nat} {form nb : Int} {ch : Bool} {fv : Value} {fd : PD} {tk tn : Tok} (S : St w e Γ own s) (hs : Scr Γ scr) (U : Up p (PenO scr N) (PenO scr (N + 90)) own own') (R : Room A 8) (hN : N < 4700) (hf : PartAt Γ fv fd)
    (hQ : ∀ Γ' s' v d, St w e Γ' own' s' → Sub Γ Γ' → RuleAt Γ' v d → (∀ a ∈ d.acts, 0 ≤ a.2 ∧ a.2 < 6) → Q v s') : wpAny (model pg w) A (call (.ref 237) [.ref p, .int form tk, .bool ch, fv, .int nb tn]) Q E s := by
  refine' call1 (K := fun Γ' v => ∃ d, RuleAt Γ' v d ∧ (∀ a ∈ d.acts, 0 ≤ a.2 ∧ a.2 < 6))
    (fr := fun L => [(L, NsO (upd (upd (upd m0 "is_chained" (.bool ch)) "first" fv) "number" (.int nb tn))), (L + 3, CellO none), (L + 2, CellO (some (.int form tk))), (L + 1, CellO (some (.ref p))), (p, PenO scr N)])
    (binds := [("pen", .ref p), ("form", .int form tk), ("is_chained", .bool ch), ("first", fv), ("number", .int nb tn)]) S U R.depth ?ho ?hcd ?hbind ?hkind ?hnd ?hfr ?hQ ?body ?h1 ?h2 ?h3
  case ho => rfl
  case hcd => rfl
  case hbind => exact .of_eq (by rfl)
  case hkind => rfl
  case hnd => decide
  case hfr => intro L; rfl
  case h1 => rfl
  case h2 => rfl
  case h3 => rfl
  case hQ => rintro Γ' s' v S' k ⟨d, h1, h2⟩; exact hQ Γ' s' v d S' k h1 h2
  intro e' hW L s S; show wpAny _ _ (execs (_ :: _) _) _ _ _
  refine wpAny_execs_cons ?_
  refine wpAny_Assign_Name ?_
  refine r_join (R := fun v s' => ∃ Γ' ps, St w e' Γ' [(L, NsO (upd (upd (upd m0 "is_chained" (.bool ch)) "first" fv) "number" (.int nb tn))), (L + 3, CellO none), (L + 2, CellO (some (.int form tk))), (L + 1, CellO (some (.ref p))), (p, PenO scr (N + 28))] s' ∧ Sub Γ Γ' ∧ RowAt Γ' v ps) ?_ ?_
  · repeat (walk_at "w2")
    cases ch
    · repeat (walk_at "w2")
      refine r_newTuple (by assumption) (by simp) ?_
      walk_at "clr"; intro Γ₁ s t S k₁ ht
      refine ⟨Γ₁, [], St.weak (a := p) (P' := PenO scr (N + 28)) S (by walk_at "up") fun o ho => PenO.le ho (by omega), by walk_at "sub", t, [], rfl, ht, .nil, by simp⟩
    · repeat (walk_at "w2")
      refine r_ListComp (R.deeper _).hh (by rfl) ?_
      repeat (walk_at "w2")
      walk_at "draw"; intro Γ₁ s d td S k₁ d0 d1
      repeat (walk_at "w2")
      refine r_range (by assumption) ?_
      walk_at "clr"; intro Γ₂ s ra t u v S k₂ hra
      obtain ⟨n, hn⟩ : ∃ n : Nat, (n : Int) = d := ⟨d.toNat, by omega⟩
      rw [← hn] at hra
      refine i_range S hra (by omega) fun it s₂ HI => ⟨e', Γ₂, _, _, _, fun i ys Γ' own' => own' = [(L, NsO (upd (upd (upd m0 "is_chained" (.bool true)) "first" fv) "number" (.int nb tn))), (L + 3, CellO none), (L + 2, CellO (some (.int form tk))), (L + 1, CellO (some (.ref p))), (p, PenO scr (N + 1 + 13 * i))] ∧ ∃ ps, AllAt (PartAt Γ') ys ps ∧ ps.length = i,
        HI, by omega, ⟨rfl, [], .nil, rfl⟩, ?_, ?_, ?_⟩
      · rintro i ys Γ' own' ⟨rfl, _⟩ x hx
        rw [hW] at hx; rw [List.mem_singleton.mp hx]; simp [Own.as]
      · rintro i v ys Γ' _ C m D J s E' hi' hP hys k ⟨rfl, ps, hI, hl⟩ S
        repeat (walk_at "w2")
        refine c_part (N := N + 1 + 13 * i) (by assumption) (by walk_at "scr") (by walk_at "up") (by walk_at "room") (by omega) ?_
        walk_at "clr"; intro Γ₃ s v d S k₃ hv
        exact ⟨Γ₃, _, _, by assumption, by walk_at "sub", rfl, ps ++ [d], (hI.weak fun _ _ z => PartAt.mono z k₃).snoc hv, by simp [hl]⟩
      · rintro Γ₃ _ a2 ys s k ⟨Γ'', k2, rfl, ps, hI, hl⟩ hy ha2 S
        repeat (walk_at "w2")
        refine r_tupleOf (by assumption) (by walk_at "al") (by omega) ?_
        walk_at "clr"; intro Γ₄ s t S k₄ ht
        refine ⟨Γ₄, ps, St.weak (a := p) (P' := PenO scr (N + 28)) S (by walk_at "up") fun o ho => PenO.le ho (by omega), by walk_at "sub", t, ys, rfl, ht, hI.weak fun _ _ z => PartAt.mono z (k2.trans k₄), by omega⟩
  walk_at "clr"
  rintro v1 s ⟨Γ₁, bp, S, k₁, hb⟩
  repeat (walk_at "w2")
  refine r_newTuple (by assumption) (by simp) ?_
  walk_at "clr"; intro Γ₅ s tf S k₅ htf
  refine wpAny_mono (Q := fun v s' => ∃ Γ' ti vs ip, v = .ref ti ∧ St w e' Γ' [(L, NsO (upd (upd (upd (upd m0 "is_chained" (.bool ch)) "first" fv) "number" (.int nb tn)) "back" v1)), (L + 3, CellO none), (L + 2, CellO (some (.int form tk))), (L + 1, CellO (some (.ref p))), (p, PenO scr (N + 56))] s' ∧ Sub Γ₁ Γ' ∧ IsTpl Γ' tf [fv] ∧ IsTpl Γ' ti vs ∧ AllAt (PartAt Γ') vs ip ∧ ip.length ≤ 2) (E := fun _ _ => False) ?_ ?_ fun _ _ z => z
  · repeat (walk_at "w2")
    refine r_ListComp (R.deeper _).hh (by rfl) ?_
    repeat (walk_at "w2")
    walk_at "draw"; intro Γ₁₁ s d td S k₁₁ d0 d1
    repeat (walk_at "w2")
    refine r_range (by assumption) ?_
    walk_at "clr"; intro Γ₂ s ra t u v S k₂ hra
    obtain ⟨n, hn⟩ : ∃ n : Nat, (n : Int) = d := ⟨d.toNat, by omega⟩
    rw [← hn] at hra
    refine i_range S hra (by omega) fun it s₂ HI => ⟨e', Γ₂, _, _, _, fun i ys Γ' own' => own' = [(L, NsO (upd (upd (upd (upd m0 "is_chained" (.bool ch)) "first" fv) "number" (.int nb tn)) "back" v1)), (L + 3, CellO none), (L + 2, CellO (some (.int form tk))), (L + 1, CellO (some (.ref p))), (p, PenO scr (N + 28 + 1 + 13 * i))] ∧ ∃ ps, AllAt (PartAt Γ') ys ps ∧ ps.length = i,
      HI, by omega, ⟨rfl, [], .nil, rfl⟩, ?_, ?_, ?_⟩
    · rintro i ys Γ' own' ⟨rfl, _⟩ x hx
      rw [hW] at hx; rw [List.mem_singleton.mp hx]; simp [Own.as]
    · rintro i v ys Γ' _ C m D J s E' hi' hP hys k ⟨rfl, ps, hI, hl⟩ S
      repeat (walk_at "w2")
      refine c_part (N := N + 28 + 1 + 13 * i) (by assumption) (by walk_at "scr") (by walk_at "up") (by walk_at "room") (by omega) ?_
      walk_at "clr"; intro Γ₃ s v d S k₃ hv
      exact ⟨Γ₃, _, _, by assumption, by walk_at "sub", rfl, ps ++ [d], (hI.weak fun _ _ z => PartAt.mono z k₃).snoc hv, by simp [hl]⟩
    · rintro Γ₃ _ a2 ys s k ⟨Γ'', k2, rfl, ps, hI, hl⟩ hy ha2 S
      repeat (walk_at "w2")
      refine r_tupleOf (by assumption) (by walk_at "al") (by omega) ?_
      walk_at "clr"; intro Γ₄ s t S k₄ ht
      refine ⟨Γ₄, t, ys, ps, rfl, St.weak (a := p) (P' := PenO scr (N + 56)) S (by walk_at "up") fun o ho => PenO.le ho (by omega), by walk_at "sub", by walk_at "fz", ht, hI.weak fun _ _ z => PartAt.mono z (k2.trans k₄), by omega⟩

  walk_at "clr"
  rintro _ s ⟨Γ₂, t2, vs2, ip, rfl, S, k₂, htf, ht2, hip, hil⟩
  refine r_addT (by assumption) htf ht2 (by simp) (by have := hip.1; simp; omega) ?_
  walk_at "clr"; intro Γ₃ s ti S k₃ hti
  have hin : AllAt (PartAt Γ₃) ([fv] ++ vs2) ([fd] ++ ip) := (AllAt.cons (hf.mono ((k₁.trans k₂).trans k₃)) .nil).append (hip.weak fun _ _ z => PartAt.mono z k₃)
  have hlen : ([fv] ++ vs2).length ≤ 3 ∧ 1 ≤ ([fv] ++ vs2).length := by have := hip.1; simp; omega
  generalize hvs : [fv] ++ vs2 = vsi at hti hin hlen
  walk_at "w2"
  walk_at "w2"
  refine wpAny_Assign_Name ?_
  refine r_join (R := fun v s' => ∃ Γ' ps, St w e' Γ' [(L, NsO (upd (upd (upd (upd m0 "is_chained" (.bool ch)) "first" fv) "number" (.int nb tn)) "back" v1)), (L + 3, CellO (some (.ref ti))), (L + 2, CellO (some (.int form tk))), (L + 1, CellO (some (.ref p))), (p, PenO scr (N + 84))] s' ∧ Sub Γ₃ Γ' ∧ RowAt Γ' v ps) ?_ ?_
  · repeat (walk_at "w2")
    cases ch
    · repeat (walk_at "w2")
      refine r_newTuple (by assumption) (by simp) ?_
      walk_at "clr"; intro Γ₁ s t S k₁ ht
      refine ⟨Γ₁, [], St.weak (a := p) (P' := PenO scr (N + 84)) S (by walk_at "up") fun o ho => PenO.le ho (by omega), by walk_at "sub", t, [], rfl, ht, .nil, by simp⟩
    · repeat (walk_at "w2")
      refine r_ListComp (R.deeper _).hh (by rfl) ?_
      repeat (walk_at "w2")
      walk_at "draw"; intro Γ₁₁ s d td S k₁₁ d0 d1
      repeat (walk_at "w2")
      refine r_range (by assumption) ?_
      walk_at "clr"; intro Γ₂ s ra t u v S k₂ hra
      obtain ⟨n, hn⟩ : ∃ n : Nat, (n : Int) = d := ⟨d.toNat, by omega⟩
      rw [← hn] at hra
      refine i_range S hra (by omega) fun it s₂ HI => ⟨e', Γ₂, _, _, _, fun i ys Γ' own' => own' = [(L, NsO (upd (upd (upd (upd m0 "is_chained" (.bool true)) "first" fv) "number" (.int nb tn)) "back" v1)), (L + 3, CellO (some (.ref ti))), (L + 2, CellO (some (.int form tk))), (L + 1, CellO (some (.ref p))), (p, PenO scr (N + 56 + 1 + 13 * i))] ∧ ∃ ps, AllAt (PartAt Γ') ys ps ∧ ps.length = i,
        HI, by omega, ⟨rfl, [], .nil, rfl⟩, ?_, ?_, ?_⟩
      · rintro i ys Γ' own' ⟨rfl, _⟩ x hx
        rw [hW] at hx; rw [List.mem_singleton.mp hx]; simp [Own.as]
      · rintro i v ys Γ' _ C m D J s E' hi' hP hys k ⟨rfl, ps, hI, hl⟩ S
        repeat (walk_at "w2")
        refine c_part (N := N + 56 + 1 + 13 * i) (by assumption) (by walk_at "scr") (by walk_at "up") (by walk_at "room") (by omega) ?_
        walk_at "clr"; intro Γ₃ s v d S k₃ hv
        exact ⟨Γ₃, _, _, by assumption, by walk_at "sub", rfl, ps ++ [d], (hI.weak fun _ _ z => PartAt.mono z k₃).snoc hv, by simp [hl]⟩
      · rintro Γ₃ _ a2 ys s k ⟨Γ'', k2, rfl, ps, hI, hl⟩ hy ha2 S
        repeat (walk_at "w2")
        refine r_tupleOf (by assumption) (by walk_at "al") (by omega) ?_
        walk_at "clr"; intro Γ₄ s t S k₄ ht
        refine ⟨Γ₄, ps, St.weak (a := p) (P' := PenO scr (N + 84)) S (by walk_at "up") fun o ho => PenO.le ho (by omega), by walk_at "sub", t, ys, rfl, ht, hI.weak fun _ _ z => PartAt.mono z (k2.trans k₄), by omega⟩

  walk_at "clr"
  rintro v3 s ⟨Γ₄, ap, S, k₄, hap⟩
  repeat (walk_at "w2")
  refine r_ListComp (R.deeper _).hh (by rfl) ?_
  repeat (walk_at "w2")
  walk_at "draw"; intro Γ₁₁ s d td S k₁₁ d0 d1
  repeat (walk_at "w2")
  refine r_range (by assumption) ?_
  walk_at "clr"; intro Γ₂₂ s ra t u v S k₂₂ hra
  obtain ⟨n, hn⟩ : ∃ n : Nat, (n : Int) = d := ⟨d.toNat, by omega⟩
  rw [← hn] at hra
  refine i_range S hra (by omega) fun it s₂ HI => ⟨e', Γ₂₂, _, _, _, fun i ys Γ' own' => own' = [(L, NsO (upd (upd (upd (upd (upd m0 "is_chained" (.bool ch)) "first" fv) "number" (.int nb tn)) "back" v1) "ahead" v3)), (L + 3, CellO (some (.ref ti))), (L + 2, CellO (some (.int form tk))), (L + 1, CellO (some (.ref p))), (p, PenO scr (N + 84 + 1 + 2 * i))] ∧ ∃ qs, AllAt (ActAt Γ') ys qs ∧ qs.length = i ∧ ∀ q ∈ qs, 0 ≤ q.2 ∧ q.2 < 6,
    HI, by omega, ⟨rfl, [], .nil, rfl, by simp⟩, ?_, ?_, ?_⟩
  · rintro i ys Γ' own' ⟨rfl, _⟩ x hx
    rw [hW] at hx; rw [List.mem_singleton.mp hx]; simp [Own.as]
  · rintro i v ys Γ' _ C m D J s E' hi' hP hys k ⟨rfl, qs, hI, hl, hb6⟩ S
    repeat (walk_at "w2")
    refine r_lenT (by assumption) (hti.mono (by walk_at "sub")) (by omega) ?_
    walk_at "clr"; intro s tl S
    repeat (walk_at "w2")
    walk_at "draw"; intro Γ₆ s d1 td1 S k₆ e0 e1
    repeat (walk_at "w2")
    walk_at "draw"; intro Γ₇ s d2 td2 S k₇ f0 f1
    repeat (walk_at "w2")
    refine r_newTuple (by assumption) (by simp) ?_
    walk_at "clr"; intro Γ₈ s tt S k₈ htt
    refine ⟨Γ₈, _, _, by assumption, by walk_at "sub", rfl, qs ++ [(d1, d2)], (hI.weak fun _ _ z => ActAt.mono z ((k₆.trans k₇).trans k₈)).snoc ⟨tt, _, _, rfl, htt⟩, by simp [hl], ?_⟩
    intro q hq
    rcases List.mem_append.mp hq with hq | hq
    · exact hb6 q hq
    · rw [List.mem_singleton.mp hq]; exact ⟨f0, f1⟩
  · rintro Γ₆ _ a2 ys s k ⟨Γ'', k2, rfl, qs, hI, hl, hb6⟩ hy ha2 S
    repeat (walk_at "w2")
    refine r_tupleOf (by assumption) (by walk_at "al") (by omega) ?_
    walk_at "clr"; intro Γ₇ s ta S k₇ hta
    repeat (walk_at "w2")
    refine c_Rule (by assumption) (by walk_at "room") ?_
    walk_at "clr"; intro Γ₈ s x S k₈ hx
    have kk : Sub Γ₃ Γ₈ := by walk_at "sub"
    have kb : Sub Γ₁ Γ₈ := by walk_at "sub"
    have ka : Sub Γ₄ Γ₈ := by walk_at "sub"
    refine ⟨Γ₈, _, St.weak (a := p) (P' := PenO scr (N + 90)) S (by walk_at "up") fun o ho => PenO.le ho (by omega), by walk_at "mm", by walk_at "sub", ⟨v1, .ref ti, v3, bp, [fd] ++ ip, ap, qs⟩, ⟨x, .ref ta, rfl, hx, ⟨ta, ys, rfl, hta.mono k₈, hI.weak fun _ _ z => ActAt.mono z ((k2.trans k₇).trans k₈), by show qs.length ≤ 2; omega⟩, hb.mono kb, ⟨ti, vsi, rfl, hti.mono kk, hin.weak fun _ _ z => PartAt.mono z kk, by show ([fd] ++ ip).length ≤ 3; have := hin.1; omega⟩, hap.mono ka⟩, hb6⟩
end



def put {α : Type} (l : List (Int × α)) (k : Int) (v : α) : List (Int × α) := if l.any (fun q => q.1 = k) then l.map (fun q => if q.1 = k then (q.1, v) else q) else l ++ [(k, v)]
def getK {α : Type} (l : List (Int × α)) (k : Int) : Option α := (l.find? fun q => q.1 = k).map (·.2)
theorem put_len {α : Type} (l : List (Int × α)) (k : Int) (v : α) : (put l k v).length ≤ l.length + 1 := by unfold put; split <;> simp
theorem put_all {α : Type} {P : Int × α → Prop} {l : List (Int × α)} {k : Int} {v : α} (h : ∀ q ∈ l, P q) (hv : P (k, v)) : ∀ q ∈ put l k v, P q := by
  intro q hq
  unfold put at hq
  split at hq
  · obtain ⟨r, hr, rfl⟩ := List.mem_map.mp hq
    split
    · rename_i e; rw [e]; exact hv
    · exact h r hr
  · rcases List.mem_append.mp hq with hq | hq
    · exact h q hq
    · rw [List.mem_singleton.mp hq]; exact hv
section
variable {Γ : Heap} {k : Int}
theorem SetsI.len : ∀ {kvs : List (Int × Value)} {kss : List (Int × List RuleD)}, SetsI Γ kvs kss → kvs.length = kss.length
  | [], [], _ => rfl
  | _ :: _, _ :: _, ⟨_, _, c⟩ => congrArg Nat.succ (SetsI.len c)
theorem SetsI.keys : ∀ {kvs : List (Int × Value)} {kss : List (Int × List RuleD)}, SetsI Γ kvs kss → kvs.map (·.1) = kss.map (·.1)
  | [], [], _ => rfl
  | _ :: _, _ :: _, ⟨a, _, c⟩ => by simp only [List.map_cons, a, SetsI.keys c]
theorem SetsI.any : ∀ {kvs : List (Int × Value)} {kss : List (Int × List RuleD)}, SetsI Γ kvs kss → kvs.any (fun q => q.1 = k) = kss.any (fun q => q.1 = k)
  | [], [], _ => rfl
  | _ :: _, _ :: _, ⟨a, _, c⟩ => by simp only [List.any_cons, a, SetsI.any c]
theorem SetsI.at : ∀ {kvs : List (Int × Value)} {kss : List (Int × List RuleD)}, SetsI Γ kvs kss → ∀ {i : Nat} {k : Int} {x : Value}, kvs[i]? = some (k, x) → ∃ rs, kss[i]? = some (k, rs) ∧ RulesAt Γ x rs
  | [], [], _, i, k, x, h => by simp at h
  | q :: r, q' :: r', ⟨a, b, c⟩, 0, k, x, h => by simp at h; subst h; exact ⟨q'.2, by simp at a; simp [a], b⟩
  | q :: r, q' :: r', ⟨a, b, c⟩, i + 1, k, x, h => by simp only [List.getElem?_cons_succ] at h ⊢; exact SetsI.at c h
theorem SetsI.app : ∀ {kvs kvs' : List (Int × Value)} {kss kss' : List (Int × List RuleD)}, SetsI Γ kvs kss → SetsI Γ kvs' kss' → SetsI Γ (kvs ++ kvs') (kss ++ kss')
  | [], _, [], _, _, h => h
  | _ :: _, _, _ :: _, _, ⟨a, b, c⟩, h => ⟨a, b, SetsI.app c h⟩
theorem SetsI.put {x : Value} {rs : List RuleD} {kvs : List (Int × Value)} {kss : List (Int × List RuleD)} (h : SetsI Γ kvs kss) (hx : RulesAt Γ x rs) : SetsI Γ (stored kvs k x) (Mine.put kss k rs) := by
  unfold stored Mine.put
  rw [h.any (k := k)]
  split
  · have : ∀ {kvs : List (Int × Value)} {kss : List (Int × List RuleD)}, SetsI Γ kvs kss → SetsI Γ (kvs.map fun kv => if kv.1 = k then (kv.1, x) else kv) (kss.map fun q => if q.1 = k then (q.1, rs) else q) := by
      intro kvs
      induction kvs with
      | nil => intro kss h; cases kss with
        | nil => trivial
        | cons _ _ => exact h.elim
      | cons q r ih => intro kss h; cases kss with
        | nil => exact h.elim
        | cons q' r' =>
          obtain ⟨a, b, c⟩ := h
          refine ⟨?_, ?_, ih c⟩
          · dsimp only; rw [← a]; split <;> first | rfl | exact a
          · dsimp only
            by_cases e : q.1 = k
            · rw [if_pos e, if_pos (a ▸ e)]; exact hx
            · rw [if_neg e, if_neg (a ▸ e)]; exact b
    exact this h
  · exact h.app ⟨rfl, hx, trivial⟩
theorem SetsI.get : ∀ {kvs : List (Int × Value)} {kss : List (Int × List RuleD)}, SetsI Γ kvs kss → match valueAt kvs k with | some x => ∃ rs, getK kss k = some rs ∧ RulesAt Γ x rs ∧ ∃ q ∈ kss, q.2 = rs | none => getK kss k = none
  | [], [], _ => rfl
  | q :: r, q' :: r', ⟨a, b, c⟩ => by
    unfold valueAt getK
    rw [List.find?_cons, List.find?_cons]
    by_cases e : q.1 = k
    · rw [decide_eq_true e, decide_eq_true (a ▸ e)]
      exact ⟨_, rfl, b, q', .head _, rfl⟩
    · rw [decide_eq_false e, decide_eq_false (a ▸ e)]
      have := SetsI.get c
      unfold valueAt getK at this
      split at this
      · rename_i x hx
        rw [hx]
        obtain ⟨rs, h1, h2, z, h3, h4⟩ := this
        exact ⟨rs, h1, h2, z, .tail _ h3, h4⟩
      · rename_i hx
        rw [hx]; exact this
end



def ActsOk (kss : List (Int × List RuleD)) : Prop := ∀ q ∈ kss, ∀ r ∈ q.2, ∀ a ∈ r.acts, 0 ≤ a.2 ∧ a.2 < 6
section
variable {w : World} {e : Ent} {Γ : Heap} {s : Shared} {own own' : Own} {A : Around} {E : Value → Shared → Prop} {l p scr : Addr} {vs : List Value} {ns : List Int} {Q : Value → Shared → Prop}

theorem r_getMethodD {d : Addr} {kvs : List (Int × Value)} {pl : Sem Bool} {Q : Value × List Value → Shared → Prop} (hd : At s.heap d (DO w kvs)) (h : Q (.builtin "dict.get", [.ref d]) s) : wpAny (model pg w) A (getMethod (.ref d) "get" pl) Q E s :=
  getMethod_builtin (DO.dict.mp hd).typeIs PySem.F.plainAttrs_dict PySem.F.slot_dict_get PySem.F.type_dict_get (DO.dict.mp hd).mapOf.noDict h

set_option maxHeartbeats 8000000 in
theorem c_table {N : Nat} (S : St w e Γ own s) (hs : Scr Γ scr) (U : Up p (PenO scr N) (PenO scr (N + 500)) own own') (R : Room A 10) (hN : N < 4000)
    (hQ : ∀ Γ' s' v c, St w e Γ' own' s' → Sub Γ Γ' → CtxAt w Γ' v c → ActsOk c.sets → Q v s') : wpAny (model pg w) A (call (.ref 244) [.ref p]) Q E s := by
  refine' call1 (K := fun Γ' v => ∃ c, CtxAt w Γ' v c ∧ ActsOk c.sets)
    (fr := fun L => [(L, NsO (upd m0 "pen" (.ref p))), (p, PenO scr N)])
    (binds := [("pen", .ref p)]) S U R.depth ?ho ?hcd ?hbind ?hkind ?hnd ?hfr ?hQ ?body ?h1 ?h2 ?h3
  case ho => rfl
  case hcd => rfl
  case hbind => exact .of_eq (by rfl)
  case hkind => rfl
  case hnd => decide
  case hfr => intro L; rfl
  case h1 => rfl
  case h2 => rfl
  case h3 => rfl
  case hQ => rintro Γ' s' v S' k ⟨d, h1, h2⟩; exact hQ Γ' s' v d S' k h1 h2
  intro e' hW L s S; show wpAny _ _ (execs (_ :: _) _) _ _ _
  refine wpAny_execs_cons ?_
  refine wpAny_Assign_Name ?_
  refine r_join (R := fun v s' => ∃ Γ' f tf, v = .int f tf ∧ St w e' Γ' [(L, NsO (upd m0 "pen" (.ref p))), (p, PenO scr (N + 1))] s' ∧ Sub Γ Γ' ∧ (f = 1 ∨ f = 2 ∨ f = 3)) ?_ ?_
  · repeat (walk_at "w2")
    refine r_newList (by assumption) (by simp) ?_
    walk_at "clr"; intro Γ₁ s t S k₁ ht
    repeat (walk_at "w2")
    walk_at "draw"; intro Γ₂ s d td S k₂ d0 d1
    have hd : d = 0 ∨ d = 1 ∨ d = 2 := by omega
    rcases hd with rfl | rfl | rfl
    · refine r_item (by walk_at "al") (by omega) (by omega) rfl ?_
      exact ⟨Γ₂, _, _, rfl, S, by walk_at "sub", .inl rfl⟩
    · refine r_item (by walk_at "al") (by omega) (by omega) rfl ?_
      exact ⟨Γ₂, _, _, rfl, S, by walk_at "sub", .inr (.inl rfl)⟩
    · refine r_item (by walk_at "al") (by omega) (by omega) rfl ?_
      exact ⟨Γ₂, _, _, rfl, S, by walk_at "sub", .inr (.inr rfl)⟩
  walk_at "clr"
  rintro _ s ⟨Γ₁, form, tf, rfl, S, k₁, hform⟩
  repeat (walk_at "w2")
  walk_at "draw"; intro Γ₂ s d td S k₂ d0 d1
  repeat (walk_at "w2")
  rename_i S
  generalize decide (d = 1) = ch at S ⊢
  have hWp : ∀ {P : Obj → Prop} {own : Own}, (p, P) ∈ own → ∀ x ∈ e'.W, x ∈ Own.as own := fun h x hx => by
    rw [hW] at hx; rw [List.mem_singleton.mp hx]; exact List.mem_map_of_mem (f := Prod.fst) h
  refine wpAny_If ?_
  repeat (walk_at "w2")
  refine r_ite (fun hg => ?_) (fun hg => ?_)
  · subst hg
    repeat (walk_at "w2")
    refine c_part (by assumption) (by walk_at "scr") (by walk_at "up") (by walk_at "room") (by omega) ?_
    walk_at "clr"; intro Γ₃ s v1 pd S k₃ hv
    repeat (walk_at "w2")
    refine c_rule (by assumption) (by walk_at "scr") (by walk_at "up") (by walk_at "room") (by omega) hv ?_
    walk_at "clr"; intro Γ₄ s rv rd S k₄ hr hok
    repeat (walk_at "w2")
    refine r_dict1 (by assumption) ?_
    walk_at "clr"; intro s da hda S
    repeat (walk_at "w2")
    refine r_newList (by assumption) (by simp) ?_
    walk_at "clr"; intro Γ₅ s lr S k₅ hlr
    refine ⟨Γ₅, 0, _, rfl, by walk_at "sub", S, ?_⟩
    walk_at "clr"; intro s S
    obtain ⟨Γ₆, o, S', k₆, ho, hDO⟩ := S.freeze (hWp (.tail _ (.head _)))
    clear S
    have S := S'
    clear S'
    repeat (walk_at "w2")
    refine c_Contexts (.inr ⟨rfl, rfl, rfl⟩) (by assumption) (by walk_at "room") ?_
    walk_at "clr"; intro Γ₇ s x S k₇ hx
    refine ⟨Γ₇, _, St.weak (a := p) (P' := PenO scr (N + 500)) S (by walk_at "up") fun o ho => PenO.le ho (by omega), by walk_at "mm", by walk_at "sub", ⟨3, ch, [(0, [rd])], .none, .none, [], []⟩, ⟨x, _, _, rfl, hx, ⟨da, _, rfl, ⟨⟨o, k₇ _ _ ho, hDO⟩, hda⟩, rfl, ⟨lr, [rv], rfl, hlr.mono (k₆.trans k₇), AllAt.cons (hr.mono ((k₅.trans k₆).trans k₇)) .nil⟩, trivial⟩, ?_, ?_, rfl, rfl, ?_⟩, ?_⟩
    · intro q hq; rw [List.mem_singleton.mp hq]; simp
    · simp
    · intro h; exact absurd (show (3 : Int) = 2 from h) (by decide)
    · intro q hq r hr; rw [List.mem_singleton.mp hq] at hr; rw [List.mem_singleton.mp hr]; exact hok
  · repeat (walk_at "w2")
    refine r_newDict (by assumption) ?_
    walk_at "clr"; intro s d3 hd3 S
    repeat (walk_at "w2")
    refine r_For ?_ (R.deeper _).hh
    repeat (walk_at "w2")
    walk_at "draw"; intro Γ₃ s dn tdn S k₃ dn0 dn1
    repeat (walk_at "w2")
    refine r_range (by assumption) ?_
    walk_at "clr"; intro Γ₄ s ra t u v S k₄ hra
    obtain ⟨n, hn⟩ : ∃ n : Nat, (n : Int) = 1 + dn := ⟨(1 + dn).toNat, by omega⟩
    rw [← hn] at hra
    refine i_range S hra (by omega) fun it s₂ HI => ⟨e', Γ₄, _, _, _, fun i Γ' own' => ∃ m kvs kss, own' = [(d3, DO w kvs), (L, NsO m), (p, PenO scr (N + 3 + 91 * i))] ∧ m "pen" = some (.ref p) ∧ m "form" = some (.int form tf) ∧ m "is_chained" = some (.bool ch) ∧ m "sets" = some (.ref d3) ∧
        SetsI Γ' kvs kss ∧ kss.length ≤ i ∧ (∀ q ∈ kss, q.2.length ≤ i) ∧ ActsOk kss,
      HI, ⟨_, [], [], rfl, by walk_at "lk", by walk_at "lk", by walk_at "lk", by walk_at "lk", trivial, Nat.le_refl _, by simp, fun q hq => by simp at hq⟩, ?_, ?_, ?_⟩
    · rintro i Γ' own' ⟨m, kvs, kss, rfl, _⟩
      exact hWp (.tail _ (.tail _ (.head _)))
    · rintro i v Γ' _ J s E' hi' hP k ⟨m, kvs, kss, rfl, m1, m2, m3, m4, hI, hl, hq, hok⟩ S
      obtain ⟨ti, rfl⟩ := hP
      refine wpAny_assign_Name ?_
      walk_at "w2"
      refine wpAny_execs_cons ?_
      refine wpAny_Assign_Name ?_
      refine r_join (R := fun v s' => ∃ Γ'' d t, v = .int d t ∧ St w e' Γ'' [J, (d3, DO w kvs), (L, NsO (upd m "number" (.int (0 + (i : Int) * 1) ti))), (p, PenO scr (N + 3 + 91 * i + 1))] s' ∧ Sub Γ' Γ'') ?_ ?_
      · repeat (walk_at "w2")
        refine r_ite (fun h1 => ?_) (fun h1 => ?_)
        all_goals
          repeat (walk_at "w2")
          walk_at "draw"; intro Γ₅ s d td S k₅ d0 d1
          exact ⟨Γ₅, d, td, rfl, S, k₅⟩
      walk_at "clr"
      rintro _ s ⟨Γ₅, fst, tfst, rfl, S, k₅⟩
      repeat (walk_at "w2")
      rename_i S
      refine r_getMethodD (S.at' (.tail _ (.head _))) ?_
      refine wpAny_dict_get2 (knd := intKind pg w) (x := eval (Expr.Name _ _) _) (y := eval (Expr.List [] _) _) (ne_mod hd3) ?_
      repeat (walk_at "w2")
      refine r_newList (by assumption) (by simp) ?_
      walk_at "clr"; intro Γ₆ s le S k₆ hle
      refine ⟨fst, valueAt kvs, intKind_is _ _ _ _, (DO.dict.mp (S.at' (.tail _ (.head _)))).mapOf, ?_⟩
      obtain ⟨lv, rs, hlv, hrs, hrl, hrok⟩ : ∃ lv rs, (valueAt kvs fst).getD (.ref le) = lv ∧ RulesAt Γ₆ lv rs ∧ rs.length ≤ i ∧ (∀ r ∈ rs, ∀ a ∈ r.acts, 0 ≤ a.2 ∧ a.2 < 6) := by
        have hg := hI.get (k := fst)
        split at hg
        · rename_i x hx
          obtain ⟨rs, _, h2, q, hq1, rfl⟩ := hg
          exact ⟨x, q.2, by rw [hx]; rfl, h2.mono (k₅.trans k₆), hq q hq1, hok q hq1⟩
        · rename_i hx
          exact ⟨.ref le, [], by rw [hx]; rfl, ⟨le, [], rfl, hle, .nil⟩, Nat.zero_le _, by simp⟩
      rw [hlv]
      have S' := S.tok (t := s.toks + 1)
      clear S
      have S := S'
      clear S'
      repeat (walk_at "w2")
      refine c_rule (N := N + 3 + 91 * i + 1) (fd := .num fst) (by assumption) (by walk_at "scr") (by walk_at "up") (by walk_at "room") (by omega) ⟨_, rfl⟩ ?_
      walk_at "clr"; intro Γ₇ s rv rd S k₇ hr hok'
      repeat (walk_at "w2")
      refine r_newList (by assumption) (by simp) ?_
      walk_at "clr"; intro Γ₈ s l1 S k₈ hl1
      obtain ⟨la, lvs, rfl, hla, hall⟩ := hrs
      refine r_addL (by assumption) (S.at (hla.mono (k₇.trans k₈))) (S.at hl1) (by have := hall.1; simp; omega) ?_
      walk_at "clr"; intro Γ₉ s l2 S k₉ hl2
      repeat (walk_at "w2")
      refine r_dictSet (by assumption) (by walk_at "up") (by have := hI.len; omega) ?_
      walk_at "clr"; intro s S
      repeat (walk_at "w2")
      refine ⟨rfl, Γ₉, _, St.weak (a := p) (P' := PenO scr (N + 3 + 91 * (i + 1))) S (by walk_at "up") fun o ho => PenO.le ho (by omega), by walk_at "sub", _, _, put kss fst (rs ++ [rd]), rfl, by walk_at "lk", by walk_at "lk", by walk_at "lk", by walk_at "lk",
        (hI.mono (by walk_at "sub")).put ⟨l2, _, rfl, hl2, (hall.weak fun _ _ z => RuleAt.mono z ((k₇.trans k₈).trans k₉)).append (AllAt.cons (hr.mono (k₈.trans k₉)) .nil)⟩, by have := put_len kss fst (rs ++ [rd]); omega, ?_, ?_⟩
      · exact put_all (P := fun (q : Int × List RuleD) => q.2.length ≤ i + 1) (fun q h => Nat.le_succ_of_le (hq q h)) (by show (rs ++ [rd]).length ≤ i + 1; rw [List.length_append]; exact Nat.succ_le_succ hrl)
      · refine put_all (P := fun (q : Int × List RuleD) => ∀ r ∈ q.2, ∀ a ∈ r.acts, 0 ≤ a.2 ∧ a.2 < 6) hok fun r hr => ?_
        rcases List.mem_append.mp hr with hr | hr
        · exact hrok r hr
        · rw [List.mem_singleton.mp hr]; exact hok'
    · rintro Γ₅ _ s k ⟨m, kvs, kss, rfl, m1, m2, m3, m4, hI, hl, hq, hok⟩ S
      have hq4 : ∀ q ∈ kss, q.2.length ≤ 4 := fun q h => by have := hq q h; omega
      repeat (walk_at "w2")
      refine wpAny_If ?_
      repeat (walk_at "w2")
      refine r_ite (fun h1 => ?_) (fun h1 => ?_)
      · repeat (walk_at "w2")
        rename_i S
        obtain ⟨Γ₆, o, S', k₆, ho, hDO⟩ := S.freeze (hWp (.tail _ (.head _)))
        clear S
        have S := S'
        clear S'
        refine c_Contexts (.inr ⟨rfl, rfl, rfl⟩) (by assumption) (by walk_at "room") ?_
        walk_at "clr"; intro Γ₇ s x S k₇ hx
        refine ⟨Γ₇, _, St.weak (a := p) (P' := PenO scr (N + 500)) S (by walk_at "up") fun o ho => PenO.le ho (by omega), by walk_at "mm", by walk_at "sub", ⟨1, ch, kss, .none, .none, [], []⟩, ⟨x, _, _, rfl, hx, ⟨d3, _, rfl, ⟨⟨o, k₇ _ _ ho, hDO⟩, hd3⟩, hI.mono (k₆.trans k₇)⟩, hq4, by show kss.length ≤ 4; omega, rfl, rfl, ?_⟩, hok⟩
        intro h; exact absurd (show (1 : Int) = 2 from h) (by decide)
      · repeat (walk_at "w2")
        refine c_classes (by assumption) (by walk_at "scr") (by walk_at "up") (by walk_at "room") (by omega) ?_
        walk_at "clr"; intro Γ₆ s v1 q1 S k₆ hv1
        repeat (walk_at "w2")
        refine c_classes (by assumption) (by walk_at "scr") (by walk_at "up") (by walk_at "room") (by omega) ?_
        walk_at "clr"; intro Γ₇ s v2 q2 S k₇ hv2
        repeat (walk_at "w2")
        refine c_classes (by assumption) (by walk_at "scr") (by walk_at "up") (by walk_at "room") (by omega) ?_
        walk_at "clr"; intro Γ₈ s v3 q3 S k₈ hv3
        repeat (walk_at "w2")
        refine r_newTuple (by assumption) (by simp) ?_
        walk_at "clr"; intro Γ₉ s t3 S k₉ ht3
        repeat (walk_at "w2")
        refine c_glyphs (by assumption) (by walk_at "scr") (by walk_at "up") (by walk_at "room") (by omega) (by omega) (by omega) ?_
        walk_at "clr"; intro Γ₁₀ s ga gvs gns S k₁₀ hga hgi hg1 hg2
        repeat (walk_at "w2")
        refine r_tupleOf (by assumption) (by walk_at "al") (by omega) ?_
        walk_at "clr"; intro Γ₁₁ s gt S k₁₁ hgt
        repeat (walk_at "w2")
        refine c_Coverage (by assumption) (by walk_at "room") ?_
        walk_at "clr"; intro Γ₁₂ s cx S k₁₂ hcx
        repeat (walk_at "w2")
        rename_i S
        obtain ⟨Γ₁₃, o, S', k₁₃, ho, hDO⟩ := S.freeze (hWp (.tail _ (.head _)))
        clear S
        have S := S'
        clear S'
        refine c_Contexts (.inl rfl) (by assumption) (by walk_at "room") ?_
        walk_at "clr"; intro Γ₁₄ s x S k₁₄ hx
        refine ⟨Γ₁₄, _, St.weak (a := p) (P' := PenO scr (N + 500)) S (by walk_at "up") fun o ho => PenO.le ho (by omega), by walk_at "mm", by walk_at "sub", ⟨2, ch, kss, .ref cx, .ref t3, gns, [q1, q2, q3]⟩, ⟨x, _, _, rfl, hx, ⟨d3, _, rfl, ⟨⟨o, k₁₄ _ _ ho, hDO⟩, hd3⟩, hI.mono (by walk_at "sub")⟩, hq4, by show kss.length ≤ 4; omega, rfl, rfl, fun _ => ⟨?_, ?_⟩⟩, hok⟩
        · exact ⟨cx, _, rfl, hcx.mono (k₁₃.trans k₁₄), ⟨gt, gvs, rfl, hgt.mono ((k₁₂.trans k₁₃).trans k₁₄), hgi⟩, by have := hgi.length; show gns.length ≤ 6; omega⟩
        · refine ⟨t3, _, rfl, ht3.mono (by walk_at "sub"), ?_, rfl⟩
          exact AllAt.cons (hv1.mono (by walk_at "sub")) (AllAt.cons (hv2.mono (by walk_at "sub")) (AllAt.cons (hv3.mono (by walk_at "sub")) .nil))
end



/-- a dict from ints to ints -/
def IsNum (w : World) (Γ : Heap) (v : Value) (qs : List (Int × Int)) : Prop := ∃ d kvs, v = .ref d ∧ IsDct w Γ d kvs ∧ intPairs' qs kvs ∧ (qs.map (·.1)).Nodup
theorem IsNum.mono {w : World} {Γ Γ' : Heap} {v : Value} {qs : List (Int × Int)} (h : IsNum w Γ v qs) (k : Sub Γ Γ') : IsNum w Γ' v qs := let ⟨d, kvs, a, b, c⟩ := h; ⟨d, kvs, a, ⟨b.1.mono k, b.2⟩, c⟩
theorem intPairs'.cons {q : Int × Int} {qs : List (Int × Int)} {p : Int × Value} {kvs : List (Int × Value)} (h : intPairs' (q :: qs) (p :: kvs)) : p.1 = q.1 ∧ (∃ t, p.2 = .int q.2 t) ∧ intPairs' qs kvs := by
  obtain ⟨hl, h⟩ := h
  obtain ⟨n, t, h1, h2⟩ := h 0 p.1 p.2 rfl
  simp at h1
  subst h1
  exact ⟨rfl, ⟨t, h2⟩, by simpa using hl, fun i k x e => h (i + 1) k x e⟩
theorem intPairs'.get : ∀ {qs : List (Int × Int)} {kvs : List (Int × Value)} {k : Int}, intPairs' qs kvs → match getK qs k with | some n => ∃ t, valueAt kvs k = some (.int n t) | none => valueAt kvs k = none
  | [], [], k, _ => rfl
  | [], _ :: _, k, h => by have := h.1; simp at this
  | _ :: _, [], k, h => by have := h.1; simp at this
  | q :: qs, p :: kvs, k, h => by
    obtain ⟨a, ⟨t, b⟩, c⟩ := h.cons
    unfold valueAt getK
    rw [List.find?_cons, List.find?_cons]
    by_cases e : q.1 = k
    · rw [decide_eq_true e, decide_eq_true (a ▸ e)]
      exact ⟨t, by simp [b]⟩
    · rw [decide_eq_false e, decide_eq_false (a ▸ e)]
      exact c.get

section
variable {w : World} {e : Ent} {Γ : Heap} {s : Shared} {own own' : Own} {A : Around} {E : Value → Shared → Prop} {l p scr : Addr} {vs : List Value} {ns : List Int} {Q : Value → Shared → Prop}

theorem num_of {Γ : Heap} {b : Addr} {kvs : List (Int × Value)} {qs : List (Int × Int)} (hd : IsDct w Γ b (merged [] kvs)) (hk : kvs.map (·.1) = qs.map (·.1)) (hl : kvs.length = qs.length) (hv : ∀ (i : Nat) k x, kvs[i]? = some (k, x) → ∃ n t, qs[i]? = some (k, n) ∧ x = .int n t) (hn : (qs.map (·.1)).Nodup) :
    IsNum w Γ (.ref b) qs := by
  rw [merged_nil_of_nodup kvs (by rw [hk]; exact hn)] at hd
  exact ⟨b, kvs, rfl, hd, ⟨hl, hv⟩, hn⟩

set_option maxHeartbeats 4000000 in
theorem c_dict {N : Nat} (S : St w e Γ own s) (hs : Scr Γ scr) (U : Up p (PenO scr N) (PenO scr (N + 20)) own own') (R : Room A 4) (hN : N < 4900)
    (hQ : ∀ Γ' s' v qs, St w e Γ' own' s' → Sub Γ Γ' → IsNum w Γ' v qs → (∀ q ∈ qs, 0 ≤ q.2 ∧ q.2 < 6) → qs.length ≤ 6 → Q v s') : wpAny (model pg w) A (call (.ref 249) [.ref p]) Q E s := by
  refine' call1 (K := fun Γ' v => ∃ qs, IsNum w Γ' v qs ∧ (∀ q ∈ qs, 0 ≤ q.2 ∧ q.2 < 6) ∧ qs.length ≤ 6)
    (fr := fun L => [(L, NsO m0), (L + 1, CellO (some (.ref p))), (p, PenO scr N)])
    (binds := [("pen", .ref p)]) S U R.depth ?ho ?hcd ?hbind ?hkind ?hnd ?hfr ?hQ ?body ?h1 ?h2 ?h3
  case ho => rfl
  case hcd => rfl
  case hbind => exact .of_eq (by rfl)
  case hkind => rfl
  case hnd => decide
  case hfr => intro L; rfl
  case h1 => rfl
  case h2 => rfl
  case h3 => rfl
  case hQ => rintro Γ' s' v S' k ⟨d, h1, h2, h3⟩; exact hQ Γ' s' v d S' k h1 h2 h3
  intro e' hW L s S; show wpAny _ _ (execs (_ :: _) _) _ _ _
  repeat (walk_at "w2")
  refine r_ListComp (R.deeper _).hh (by rfl) ?_
  repeat (walk_at "w2")
  refine r_range (by assumption) ?_
  walk_at "clr"; intro Γ₂ s ra t u v S k₂ hra
  rw [show (6 : Int) = ((6 : Nat) : Int) from rfl] at hra
  refine i_range S hra (by omega) fun it s₂ HI => ⟨e', Γ₂, _, _, _, fun i ys Γ' own' => own' = [(L, NsO m0), (L + 1, CellO (some (.ref p))), (p, PenO scr (N + 2 * i))] ∧ ∃ qs, AllAt (ActAt Γ') ys qs ∧ qs.length ≤ i ∧ (∀ q ∈ qs, q.1 < i ∧ 0 ≤ q.2 ∧ q.2 < 6) ∧ (qs.map (·.1)).Nodup,
      HI, by omega, ⟨rfl, [], .nil, Nat.le_refl _, by simp, List.nodup_nil⟩, ?_, ?_, ?_⟩
  · rintro i ys Γ' own' ⟨rfl, _⟩ x hx
    rw [hW] at hx; rw [List.mem_singleton.mp hx]; simp [Own.as]
  · rintro i v ys Γ' _ C m D J s E' hi' hP hys k ⟨rfl, qs, hq, hl, hb, hn⟩ S
    obtain ⟨ti, rfl⟩ := hP
    repeat (walk_at "w2")
    walk_at "draw"; intro Γ₃ s d' td' S k₃ d0' d1'
    repeat (walk_at "w2")
    refine r_ite (fun hg => ?_) (fun hg => ?_)
    · repeat (walk_at "w2")
      walk_at "draw"; intro Γ₄ s d2 td2 S k₄ f0 f1
      repeat (walk_at "w2")
      refine r_newTuple (by assumption) (by simp) ?_
      walk_at "clr"; intro Γ₅ s tt S k₅ htt
      refine ⟨Γ₅, _, _, by assumption, by walk_at "sub", rfl, qs ++ [(0 + (i : Int) * 1, d2)], (hq.weak fun _ _ z => ActAt.mono z ((k₃.trans k₄).trans k₅)).snoc ⟨tt, _, _, rfl, htt⟩, by simp; omega, ?_, ?_⟩
      · intro q hq
        rcases List.mem_append.mp hq with hq | hq
        · have := hb q hq; omega
        · rw [List.mem_singleton.mp hq]; exact ⟨by show (0 + (i : Int) * 1) < _; omega, f0, f1⟩
      · rw [List.map_append]
        refine List.nodup_append.mpr ⟨hn, by simp, fun x hx y hy => ?_⟩
        obtain ⟨q, hq, rfl⟩ := List.mem_map.mp hx
        have h1 := (hb q hq).1
        have h2 : y = 0 + (i : Int) * 1 := by simpa using hy
        omega
    · refine ⟨Γ₃, _, _, St.weak (a := p) (P' := PenO scr (N + 2 * (i + 1))) (by assumption) (by walk_at "up") ?_, by walk_at "sub", rfl, qs, hq.weak fun _ _ z => ActAt.mono z k₃, by omega, fun q hq => by have := hb q hq; omega, hn⟩
      exact fun o ho => PenO.le ho (by omega)
  · rintro Γ₃ _ a2 ys s k ⟨Γ'', k2, rfl, qs, hq, hl, hb, hn⟩ hy ha2 S
    have hq := hq.weak fun _ _ z => ActAt.mono z k2
    obtain ⟨kvs, hP, hkk, hkl, hkv⟩ := PairList.of hq
    repeat (walk_at "w2")
    refine r_dict (by assumption) (R.deeper _).hh (by walk_at "fz") hP (by have := hq.1; omega) ?_
    walk_at "clr"; intro Γ₄ s d S k₄ hd
    refine ⟨Γ₄, _, St.weak (a := p) (P' := PenO scr (N + 20)) S (by walk_at "up") ?_, by walk_at "mm", by walk_at "sub", qs, num_of hd hkk hkl hkv hn, fun q h => (hb q h).2, by omega⟩
    exact fun o ho => PenO.le ho (by omega)
end



def wlR (f : Int → Option Int) (r : RuleD) : RuleD := { r with acts := r.acts.filterMap fun a => (f a.2).map fun n => (a.1, n) }
def wlS (f : Int → Option Int) (q : Int × List RuleD) : Int × List RuleD := (q.1, q.2.map (wlR f))
def wl (f : Int → Option Int) (c : CtxD) : CtxD := { c with sets := c.sets.map (wlS f) }

section
variable {w : World} {e : Ent} {Γ : Heap} {s : Shared} {own own' : Own} {A : Around} {E : Value → Shared → Prop} {l p scr : Addr} {vs : List Value} {ns : List Int} {Q : Value → Shared → Prop} {tv nv : Value} {c : CtxD} {qs : List (Int × Int)}

theorem DO.nodup {Γ : Heap} {d : Addr} {kvs : List (Int × Value)} (h : At Γ d (DO w kvs)) : (kvs.map (·.1)).Nodup := let ⟨_, _, _, _, _, _, _, _, hn⟩ := h; hn

theorem valueAt_stored {l : List (Int × Value)} {k : Int} {v : Value} : valueAt (stored l k v) k = some v := by
  unfold stored
  split
  · rename_i h
    induction l with
    | nil => simp at h
    | cons q r ih =>
      unfold valueAt
      by_cases e : q.1 = k
      · simp [e]
      · have hr : (r.any fun kv => decide (kv.1 = k)) = true := by simpa [e] using h
        have := ih hr
        unfold valueAt at this
        rw [List.map_cons, if_neg e, List.find?_cons, decide_eq_false e]
        exact this
  · rename_i h
    unfold valueAt
    rw [List.find?_append]
    have : l.find? (fun kv => decide (kv.1 = k)) = none := by
      rw [List.find?_eq_none]
      intro q hq hk
      exact h (List.any_eq_true.mpr ⟨q, hq, hk⟩)
    rw [this]
    simp
theorem stored_fresh {l : List (Int × Value)} {k : Int} {v : Value} (h : k ∉ l.map (·.1)) : stored l k v = l ++ [(k, v)] := by
  unfold stored
  rw [if_neg]
  intro hk
  obtain ⟨q, hq, e⟩ := List.any_eq_true.mp hk
  exact h (List.mem_map.mpr ⟨q, hq, of_decide_eq_true e⟩)
theorem r_getMethodL {l : Addr} {vs : List Value} {pl : Sem Bool} {Q : Value × List Value → Shared → Prop} (hl : At s.heap l (LP vs)) (h : Q (.builtin "list.append", [.ref l]) s) : wpAny (model pg w) A (getMethod (.ref l) "append" pl) Q E s := by
  obtain ⟨o, ho, n, rfl⟩ := hl
  exact getMethod_list_append ho rfl rfl h
theorem RowAt.ref {v : Value} {ps : List PD} (h : RowAt Γ v ps) : handedIn v = true := by obtain ⟨t, vs, rfl, _⟩ := h; rfl
theorem AllAt.at {α : Type} {R : Value → α → Prop} {vs : List Value} {ps : List α} (h : AllAt R vs ps) {i : Nat} {v : Value} (hv : vs[i]? = some v) : ∃ p, ps[i]? = some p ∧ R v p := h.2 i v hv

theorem r_pair {p : Addr} {v1 v2 : Value} {a b : Str} {pa pb pos : Pos} {x1} {env : Env} {Q : Unit → Shared → Prop} (S : St w e Γ own s) (hh : A.handled = none) (hT : IsTpl Γ p [v1, v2])
    (h : ∀ s', St w e Γ own s' → wpAny (model pg w) A (assign (.Name a pa) env v1) (fun _ s₂ => wpAny (model pg w) A (assign (.Name b pb) env v2) Q E s₂) E s') :
    wpAny (model pg w) A (assign (.Tuple [.Name a pa, .Name b pb] x1 pos) env (.ref p)) Q E s := by
  refine wpAny_assign_Tuple (items := #[v1, v2]) hh (TP.tup (S.at hT)) rfl rfl fun h' hk => ?_
  have S' : St w e Γ own { s with heap := h' } := S.kept fun b o e => hk b o (Nat.ne_of_lt (Heap.lt_size e)) e
  refine assignInOrder_cons ?_
  refine wpAny_mono (h _ S') (fun _ s₂ h₂ => ?_) fun _ _ y => y
  refine assignInOrder_cons ?_
  exact wpAny_mono h₂ (fun _ s₃ h₃ => assignInOrder_nil h₃) fun _ _ y => y

set_option maxHeartbeats 8000000 in
theorem c_wl (S : St w e Γ own s) (R : Room A 6) (hc : CtxAt w Γ tv c) (hn : IsNum w Γ nv qs)
    (hQ : ∀ Γ' s' v, St w e Γ' own s' → Sub Γ Γ' → CtxAt w Γ' v (wl (getK qs) c) → Q v s') : wpAny (model pg w) A (call (.ref 156) [tv, nv]) Q E s := by
  refine' call0 (K := fun Γ' v => CtxAt w Γ' v (wl (getK qs) c))
    (fr := fun L => [(L, NsO (upd m0 "table" tv)), (L + 1, CellO (some nv))])
    (binds := [("table", tv), ("numbers", nv)]) S R.depth ?ho ?hcd ?hbind ?hkind ?hnd ?hfr ?hQ ?body ?h1 ?h2 ?h3
  case ho => rfl
  case hcd => rfl
  case hbind => exact .of_eq (by rfl)
  case hkind => rfl
  case hnd => decide
  case hfr => intro L; rfl
  case h1 => rfl
  case h2 => rfl
  case h3 => rfl
  case hQ => exact hQ
  intro e' hW L s S; show wpAny _ _ (execs (_ :: _) _) _ _ _
  obtain ⟨x, ft, sv, rfl, hx, ⟨ds, kvs, rfl, hds, hI⟩, hr4, hs4, hcov, hcls, hform⟩ := id hc
  obtain ⟨dn, nkvs, rfl, hdn, hnp, hnn⟩ := id hn
  repeat (walk_at "w2")
  refine r_newDict (by assumption) ?_
  walk_at "clr"; intro s d hd S
  repeat (walk_at "w2")
  refine r_For ?_ (R.deeper _).hh
  repeat (walk_at "w2")
  rename_i S
  refine i_dict S hds fun it s₂ HI => ⟨e', Γ, _, _, _, fun i Γ' own' => ∃ m kvs', own' = [(d, DO w kvs'), (L, NsO m), (L + 1, CellO (some (.ref dn)))] ∧ m "table" = some (.ref x) ∧ m "sets" = some (.ref d) ∧ SetsI Γ' kvs' ((c.sets.take i).map (wlS (getK qs))),
    HI, ⟨_, [], rfl, by walk_at "lk", by walk_at "lk", trivial⟩, ?_, ?_, ?_⟩
  · rintro i Γ' own' _ x hx
    rw [hW] at hx; cases hx
  · rintro i v Γ' _ J s E' hi' hP k ⟨m, kvs', rfl, m1, m2, hI'⟩ S
    obtain ⟨key, xv, tk, hkey, rfl⟩ := hP
    obtain ⟨rs, hrs, hrx⟩ := hI.at hkey
    have hkn : key ∉ kvs'.map (·.1) := by
      rw [hI'.keys]
      have h1 := DO.nodup hds.1
      rw [hI.keys] at h1
      intro hm
      rw [List.map_map] at hm
      obtain ⟨q, hq, hqk⟩ := List.mem_map.mp hm
      obtain ⟨j, hj, hqj⟩ := List.mem_iff_getElem.mp hq
      have hji : j < i := by rw [List.length_take] at hj; omega
      have hjl : j < c.sets.length := by rw [List.length_take] at hj; omega
      have hil : i < c.sets.length := by rw [← hI.len]; exact hi'
      have e1 : c.sets[j].1 = key := by
        have : (c.sets.take i)[j] = c.sets[j] := List.getElem_take
        rw [← this, hqj]; exact hqk
      have e2 : c.sets[i].1 = key := by
        have := List.getElem?_eq_getElem hil
        rw [this] at hrs; exact congrArg Prod.fst (Option.some.inj hrs)
      have := List.pairwise_iff_getElem.mp h1 j i (by simpa using hjl) (by simpa using hil) hji
      simp only [List.getElem_map] at this
      exact this (e1.trans e2.symm)
    have hvx : valueAt kvs key = some xv := valueAt_of_get (DO.nodup hds.1) hkey
    repeat (walk_at "w2")
    refine r_newListO (by assumption) (by simp) ?_
    walk_at "clr"; intro s lst S
    repeat (walk_at "w2")
    refine r_dictSet (by assumption) (by walk_at "up") (by have := hI'.len; simp at this; omega) ?_
    walk_at "clr"; intro s S
    repeat (walk_at "w2")
    refine r_For ?_ (R.deeper _).hh
    repeat (walk_at "w2")
    rename_i S
    refine r_dictItem S (S.at (hds.1.mono k)) hvx ?_
    walk_at "clr"; intro s S
    obtain ⟨rl, rvs, rfl, hrl, hall⟩ := hrx
    refine i_list S (hrl.mono k) fun it s₂ HI₂ => ⟨e', Γ', _, _, _, fun j Γ'' own'' => ∃ m' ys, own'' = (lst, LP ys) :: J :: [(d, DO w (stored kvs' key (.ref lst))), (L, NsO m'), (L + 1, CellO (some (.ref dn)))] ∧ m' "table" = some (.ref x) ∧ m' "sets" = some (.ref d) ∧ m' "key" = some (.int key tk) ∧
        AllAt (RuleAt Γ'') ys ((rs.take j).map (wlR (getK qs))),
      HI₂, ⟨_, [], rfl, by walk_at "lk", by walk_at "lk", by walk_at "lk", .nil⟩, ?_, ?_, ?_⟩
    · rintro j Γ'' own'' _ y hy
      rw [hW] at hy; cases hy
    · rintro j v Γ'' _ J2 s E'' hj hP2 k' ⟨m', ys, rfl, n1, n2, n3, hys⟩ S
      obtain ⟨r, hr, hrule⟩ := hall.at hP2
      obtain ⟨xr, av, rfl, hxr, hacts, hb, hin, ha⟩ := hrule.mono (k.trans k')
      have hjb : handedIn r.back = true := hb.ref
      have hji : handedIn r.inside = true := hin.ref
      have hja : handedIn r.ahead = true := ha.ref
      obtain ⟨ta, avs, rfl, hta, hal, ha2⟩ := hacts
      repeat (walk_at "w2")
      refine r_ListComp (R.deeper _).hh (by rfl) ?_
      repeat (walk_at "w2")
      rename_i S
      refine i_tuple S hta fun it s₂ HI₃ => ⟨e', Γ'', _, _, _, fun i3 zs Γ₃ own₃ => own₃ = J2 :: (lst, LP ys) :: J :: [(d, DO w (stored kvs' key (.ref lst))), (L, NsO (upd m' "rule" (.ref xr))), (L + 1, CellO (some (.ref dn)))] ∧ AllAt (ActAt Γ₃) zs ((r.acts.take i3).filterMap fun a => (getK qs a.2).map fun n => (a.1, n)),
        HI₃, by have := hal.1; omega, ⟨rfl, .nil⟩, ?_, ?_, ?_⟩
      · rintro _ _ _ _ _ y hy
        rw [hW] at hy; cases hy
      · rintro i3 v zs Γ₃ _ C m3 D3 J3 s E3 hi3 hP3 hzs k3 ⟨rfl, hz⟩ S
        obtain ⟨a, hai, hact⟩ := hal.at hP3
        obtain ⟨pt, t1, t2, rfl, hpt⟩ := hact.mono k3
        refine r_pair S (R.deeper _).hh hpt ?_
        walk_at "clr"; intro s S
        repeat (walk_at "w2")
        rename_i S
        refine r_in S (S.at (hdn.1.mono (by walk_at "sub"))) hdn.2 ?_
        walk_at "clr"; intro s S
        have hg := hnp.get (k := a.2)
        cases hk : getK qs a.2 with
        | none =>
          rw [hk] at hg
          rw [show valueAt nkvs a.2 = none from hg, Option.isSome_none]
          repeat (walk_at "w2")
          refine ⟨Γ₃, _, _, by assumption, Sub.rfl', rfl, ?_⟩
          rw [List.take_add_one, hai, List.filterMap_append]
          simpa [hk] using hz
        | some n =>
          rw [hk] at hg
          obtain ⟨tv, hg⟩ := hg
          rw [hg, Option.isSome_some]
          repeat (walk_at "w2")
          rename_i S
          refine r_dictItem S (S.at (hdn.1.mono (by walk_at "sub"))) hg ?_
          walk_at "clr"; intro s S
          repeat (walk_at "w2")
          refine r_newTuple (by assumption) (by simp) ?_
          walk_at "clr"; intro Γ₄ s tt S k₄ htt
          refine ⟨Γ₄, _, _, S, k₄, rfl, ?_⟩
          rw [List.take_add_one, hai, List.filterMap_append]
          have := (hz.weak fun _ _ z => ActAt.mono z k₄).snoc (p := (a.1, n)) ⟨tt, t1, tv, rfl, htt⟩
          simpa [hk] using this
      · rintro Γ₃ _ a3 zs s k3 ⟨Γ₃', k3', rfl, hz⟩ hzl ha3 S
        repeat (walk_at "w2")
        refine r_tupleOf (by assumption) (by walk_at "al") (by have := hal.1; omega) ?_
        walk_at "clr"; intro Γ₄ s tt S k₄ htt
        repeat (walk_at "w2")
        refine wpAny_Expr ?_
        repeat (walk_at "w2")
        rename_i S
        refine r_dictItem S (S.at' (by walk_at "mm")) (valueAt_stored (l := kvs') (k := key) (v := .ref lst)) ?_
        walk_at "clr"; intro s S
        refine r_getMethodL (S.at' (by walk_at "mm")) ?_
        repeat (walk_at "w2")
        refine c_Rule (by assumption) (by walk_at "room") ?_
        walk_at "clr"; intro Γ₅ s xn S k₅ hxn
        repeat (walk_at "w2")
        refine r_appendL (by assumption) (by walk_at "up") (by have h1 := hys.1; have h2 := hr4 _ (List.mem_of_getElem? hrs); simp at h1 h2; omega) ?_
        walk_at "clr"; intro s S
        repeat (walk_at "w2")
        have kz : Sub Γ₃' Γ₅ := by walk_at "sub"
        have ky : Sub Γ'' Γ₅ := by walk_at "sub"
        refine ⟨rfl, Γ₅, _, by assumption, ky, _, ys ++ [.ref xn], rfl, by walk_at "lk", by walk_at "lk", by walk_at "lk", ?_⟩
        rw [List.take_add_one, hr, List.map_append]
        rw [List.take_of_length_le (by rw [hal.1]; exact Nat.le_refl _)] at hz
        refine (hys.weak fun _ _ z => RuleAt.mono z ky).snoc (p := wlR (getK qs) r) ⟨xn, .ref tt, rfl, hxn, ⟨tt, zs, rfl, htt.mono k₅, hz.weak fun _ _ z => ActAt.mono z kz, ?_⟩, hb.mono ky, hin.mono ky, ha.mono ky⟩
        exact Nat.le_trans (List.length_filterMap_le _ _) ha2
    · rintro Γ₄ _ s k' ⟨m', ys, rfl, n1, n2, n3, hys⟩ S
      obtain ⟨Γ₆, o, S', k₆, ho, hLP⟩ := S.freeze (fun y hy => by rw [hW] at hy; cases hy)
      clear S
      have S := S'
      clear S'
      repeat (walk_at "w2")
      refine ⟨rfl, Γ₆, _, by assumption, k'.trans k₆, _, _, rfl, by walk_at "lk", by walk_at "lk", ?_⟩
      rw [stored_fresh hkn, List.take_add_one, hrs, List.map_append]
      refine (hI'.mono (k'.trans k₆)).app ⟨rfl, ⟨lst, ys, rfl, ⟨o, ho, hLP⟩, ?_⟩, trivial⟩
      rw [List.take_of_length_le (by rw [hall.1]; exact Nat.le_refl _)] at hys
      exact hys.weak fun _ _ z => RuleAt.mono z k₆
  · rintro Γ₅ _ s k ⟨m, kvs', rfl, m1, m2, hI'⟩ S
    repeat (walk_at "w2")
    rename_i S
    obtain ⟨Γ₆, o, S', k₆, ho, hDO⟩ := S.freeze (fun y hy => by rw [hW] at hy; cases hy)
    clear S
    have S := S'
    clear S'
    refine c_Contexts (.inl rfl) (by assumption) (by walk_at "room") ?_
    walk_at "clr"; intro Γ₇ s x7 S k₇ hx7
    rw [hI.len, List.take_length] at hI'
    refine ⟨Γ₇, _, S, by walk_at "sub", x7, ft, _, rfl, hx7, ⟨d, _, rfl, ⟨⟨o, k₇ _ _ ho, hDO⟩, hd⟩, hI'.mono (k₆.trans k₇)⟩, ?_, ?_, hcov, hcls, fun h => ⟨(hform h).1.mono (by walk_at "sub"), (hform h).2.mono (by walk_at "sub")⟩⟩
    · intro q hq
      obtain ⟨q', hq', rfl⟩ := List.mem_map.mp hq
      have := hr4 q' hq'
      simpa [wlS] using this
    · show (c.sets.map (wlS (getK qs))).length ≤ 4
      rw [List.length_map]; exact hs4
end



/-! what is told -/
def Shp (n : Nat) (d : PyData) : Prop := d.canLay0 = true ∧ d.depth ≤ n
theorem Shp.le {n m : Nat} {d : PyData} (h : Shp n d) (k : n ≤ m) : Shp m d := ⟨h.1, Nat.le_trans h.2 k⟩
theorem Shp.tup {n : Nat} {ds : List PyData} (h : ∀ d ∈ ds, Shp n d) : Shp (n + 1) (.tuple ds) := by
  have h1 : PyData.canLayAll0 ds = true ∧ PyData.depthAll ds ≤ n := by
    induction ds with
    | nil => exact ⟨by simp [PyData.canLayAll0], by simp [PyData.depthAll]⟩
    | cons d r ih =>
      have hd := h d (.head _)
      have hr := ih fun x hx => h x (.tail _ hx)
      refine ⟨by simp [PyData.canLayAll0, hd.1, hr.1], ?_⟩
      simp only [PyData.depthAll]
      exact Nat.max_le.mpr ⟨hd.2, hr.2⟩
  exact ⟨by simp [PyData.canLay0, h1.1], by simp only [PyData.depth]; omega⟩
def TD (Γ : Heap) (n : Nat) (v : Value) (d : PyData) : Prop := Reads Γ v d [] ∧ Shp n d
section
variable {w : World} {Γ Γ' : Heap} {v : Value} {d : PyData} {n : Nat} {vs : List Value} {ds : List PyData} {t : Addr} {ns : List Int}
theorem reads_all : ∀ {vs : List Value} {ds : List PyData}, AllAt (TD Γ n) vs ds → ReadsAll Γ vs ds []
  | [], [], _ => .nil
  | [], _ :: _, h => by have := h.1; simp at this
  | _ :: _, [], h => by have := h.1; simp at this
  | v :: vs, d :: ds, h => by
    obtain ⟨d', h1, h2⟩ := h.2 0 v rfl
    obtain rfl : d = d' := by simpa using h1
    have h3 : AllAt (TD Γ n) vs ds := ⟨by have := h.1; simpa using this, fun i u hu => h.2 (i + 1) u hu⟩
    exact ReadsAll.cons (as := []) (bs := []) h2.1 (reads_all h3)
theorem TD.tup (ht : IsTpl Γ t vs) (h : AllAt (TD Γ n) vs ds) : TD Γ (n + 1) (.ref t) (.tuple ds) := by
  obtain ⟨o, ho, m, rfl⟩ := ht
  refine ⟨.tuple ho rfl rfl (by simpa using reads_all h), Shp.tup fun d hd => ?_⟩
  obtain ⟨i, hi, rfl⟩ := List.mem_iff_getElem.mp hd
  have hiv : i < vs.length := by rw [h.1]; exact hi
  obtain ⟨p, h1, h2⟩ := h.2 i _ (List.getElem?_eq_getElem hiv)
  rw [List.getElem?_eq_getElem hi] at h1
  cases h1
  exact h2.2
theorem TD.int {k : Int} {u : Tok} : TD Γ 0 (.int k u) (.int k) := ⟨.int _ _, by simp [PyData.canLay0], by simp [PyData.depth]⟩
theorem TD.bool {b : Bool} : TD Γ 0 (.bool b) (.bool b) := ⟨.bool _, by simp [PyData.canLay0], by simp [PyData.depth]⟩
theorem TD.le {m : Nat} (h : TD Γ n v d) (k : n ≤ m) : TD Γ m v d := ⟨h.1, h.2.le k⟩
theorem TD.mono (h : TD Γ n v d) (k : Sub Γ Γ') : TD Γ' n v d := ⟨Reads.keeps k h.1, h.2⟩
theorem AllAt.ints {vs : List Value} {ns : List Int} (h : IntsAre vs ns) : AllAt (TD Γ 0) vs (ns.map .int) := by
  refine ⟨by simp [h.length], fun i v hv => ?_⟩
  obtain ⟨k, u, hk, rfl⟩ := ints_at h hv
  exact ⟨.int k, by simp [hk], TD.int⟩
def toldP : PD → PyData
  | .num n => .int n
  | .cov ns => .tuple (ns.map .int)
def toldRow (ps : List PD) : PyData := .tuple (ps.map toldP)
def toldAct (a : Int × Int) : PyData := .tuple [.int a.1, .int a.2]
def toldRule (r : RuleD) : PyData := .tuple [toldRow r.bp, toldRow r.ip, toldRow r.ap, .tuple (r.acts.map toldAct)]
theorem TupI.td (h : TupI Γ v ns) : TD Γ 1 v (.tuple (ns.map .int)) := by
  obtain ⟨t, vs, rfl, ht, hi⟩ := h
  exact TD.tup ht (AllAt.ints hi)
theorem ActAt.td {a : Int × Int} (h : ActAt Γ v a) : TD Γ 1 v (toldAct a) := by
  obtain ⟨p, t, u, rfl, hp⟩ := h
  exact TD.tup hp (AllAt.cons TD.int (AllAt.cons TD.int .nil))
theorem AllAt.map {α β : Type} {R : Value → α → Prop} {R' : Value → β → Prop} {f : α → β} {vs : List Value} {ps : List α} (h : AllAt R vs ps) (k : ∀ v p, R v p → R' v (f p)) : AllAt R' vs (ps.map f) :=
  ⟨by simp [h.1], fun i v hv => let ⟨p, a, b⟩ := h.2 i v hv; ⟨f p, by simp [a], k _ _ b⟩⟩
theorem ActsAt.td {acts : List (Int × Int)} (h : ActsAt Γ v acts) : TD Γ 2 v (.tuple (acts.map toldAct)) := by
  obtain ⟨t, vs, rfl, ht, ha, _⟩ := h
  exact TD.tup ht (ha.map fun _ _ z => ActAt.td z)
end

/-! sorted lists of ints -/
theorem sorted_eq : ∀ {xs ys : List Int}, xs.Perm ys → xs.Pairwise (· ≤ ·) → ys.Pairwise (· ≤ ·) → xs = ys
  | [], ys, p, _, _ => (List.Perm.nil_eq p)
  | x :: xs, [], p, _, _ => by have := p.length_eq; simp at this
  | x :: xs, y :: ys, p, hx, hy => by
    obtain ⟨hx1, hx2⟩ := List.pairwise_cons.mp hx
    obtain ⟨hy1, hy2⟩ := List.pairwise_cons.mp hy
    have e : x = y := by
      have h1 : x ∈ y :: ys := p.mem_iff.mp (.head _)
      have h2 : y ∈ x :: xs := p.mem_iff.mpr (.head _)
      rcases List.mem_cons.mp h1 with h1 | h1
      · exact h1
      rcases List.mem_cons.mp h2 with h2 | h2
      · exact h2.symm
      · exact Int.le_antisymm (hx1 _ h2) (hy1 _ h1)
    subst e
    rw [sorted_eq (List.Perm.cons_inv p) hx2 hy2]
def sortI (xs : List Int) : List Int := xs.mergeSort (fun a b => decide (a ≤ b))
theorem sortI_perm (xs : List Int) : (sortI xs).Perm xs := List.mergeSort_perm _ _
theorem sortI_sorted (xs : List Int) : (sortI xs).Pairwise (· ≤ ·) := by
  have := List.pairwise_mergeSort (le := fun (a b : Int) => decide (a ≤ b)) (fun a b c h1 h2 => by simp at *; omega) (fun a b => by simp; omega) xs
  exact this.imp fun h => by simpa using h
theorem sortI_eq {xs ys : List Int} (p : xs.Perm ys) (h : xs.Pairwise (· ≤ ·)) : xs = sortI ys := sorted_eq (p.trans (sortI_perm ys).symm) h (sortI_sorted ys)



section
variable {w : World} {e : Ent} {Γ : Heap} {s : Shared} {own own' : Own} {A : Around} {E : Value → Shared → Prop} {l p scr : Addr} {vs : List Value} {ns : List Int} {Q : Value → Shared → Prop} {tv nv v : Value} {c : CtxD} {qs : List (Int × Int)}

theorem r_isCov {x : Addr} {m : Str → Option Value} (S : St w e Γ own s) (I : IsInst Γ x 59 m) (h : Q (.bool true) s) : wpAny (model pg w) A (call (.builtin "isinstance") [.ref x, .ref 59]) Q E s := by
  obtain ⟨ox, od, I', hm⟩ := (I.mono S.see).at_
  exact isi_call (K := KF w) S.kin (fun M => I'.type) rfl nofun h
theorem r_isNum {k : Int} {t : Tok} (S : St w e Γ own s) (h : ∀ s', St w e Γ own s' → Q (.bool false) s') : wpAny (model pg w) A (call (.builtin "isinstance") [.int k t, .ref 59]) Q E s :=
  isn_call (K := KF w) (T := "int") (P := fun _ => True) S.kin (fun M => Looks.of_pure rfl) rfl nofun trivial (fun {_ _ _ _ _ s} _ q => by obtain ⟨hp, g, d, tk, os⟩ := s; exact class_attr_int q) (h _ S.tok)

theorem c_toldCov {ns : List Int} (S : St w e Γ own s) (R : Room A 2) (hc : CovAt Γ v ns) (hQ : ∀ Γ' s' v, St w e Γ' own s' → Sub Γ Γ' → TD Γ' 1 v (.tuple (ns.map .int)) → Q v s') : wpAny (model pg w) A (call (.ref 56) [v]) Q E s := by
  refine' call0 (K := fun Γ' v => TD Γ' 1 v (.tuple (ns.map .int)))
    (fr := fun L => [(L, NsO (upd m0 "self" v))])
    (binds := [("self", v)]) S R.depth ?ho ?hcd ?hbind ?hkind ?hnd ?hfr ?hQ ?body ?h1 ?h2 ?h3
  case ho => rfl
  case hcd => rfl
  case hbind => exact .of_eq (by rfl)
  case hkind => rfl
  case hnd => decide
  case hfr => intro L; rfl
  case h1 => rfl
  case h2 => rfl
  case h3 => rfl
  case hQ => exact hQ
  intro e' hW L s S; show wpAny _ _ (execs (_ :: _) _) _ _ _
  obtain ⟨x, tv, rfl, hx, ⟨t, vs, rfl, ht, hi⟩, hl⟩ := hc
  repeat (walk_at "w2")
  rename_i S
  refine r_tupleSame (S.at ht) ?_
  exact ⟨Γ, _, S, Sub.rfl', TD.tup ht (AllAt.ints hi)⟩

set_option maxHeartbeats 4000000 in
theorem c_toldRow {ps : List PD} (S : St w e Γ own s) (R : Room A 4) (hc : RowAt Γ v ps) (hQ : ∀ Γ' s' v, St w e Γ' own s' → Sub Γ Γ' → TD Γ' 2 v (toldRow ps) → Q v s') : wpAny (model pg w) A (call (.ref 144) [v]) Q E s := by
  refine' call0 (K := fun Γ' v => TD Γ' 2 v (toldRow ps))
    (fr := fun L => [(L, NsO (upd m0 "row" v))])
    (binds := [("row", v)]) S R.depth ?ho ?hcd ?hbind ?hkind ?hnd ?hfr ?hQ ?body ?h1 ?h2 ?h3
  case ho => rfl
  case hcd => rfl
  case hbind => exact .of_eq (by rfl)
  case hkind => rfl
  case hnd => decide
  case hfr => intro L; rfl
  case h1 => rfl
  case h2 => rfl
  case h3 => rfl
  case hQ => exact hQ
  intro e' hW L s S; show wpAny _ _ (execs (_ :: _) _) _ _ _
  obtain ⟨t, vs, rfl, ht, hall, hl⟩ := hc
  repeat (walk_at "w2")
  refine r_ListComp (R.deeper _).hh (by rfl) ?_
  repeat (walk_at "w2")
  rename_i S
  refine i_tuple S ht fun it s₂ HI => ⟨e', Γ, _, _, _, fun i ys Γ' own' => own' = [(L, NsO (upd m0 "row" (.ref t)))] ∧ AllAt (TD Γ' 1) ys ((ps.take i).map toldP), HI, by have := hall.1; omega, ⟨rfl, .nil⟩, ?_, ?_, ?_⟩
  · rintro _ _ _ _ _ y hy
    rw [hW] at hy; cases hy
  · rintro i v ys Γ' _ C m D J s E' hi' hP hys k ⟨rfl, hz⟩ S
    obtain ⟨pd, hpd, hpart⟩ := hall.at hP
    have hpart := hpart.mono k
    cases pd with
    | num n =>
      obtain ⟨tk, rfl⟩ := hpart
      repeat (walk_at "w2")
      refine r_isNum (by assumption) ?_
      walk_at "clr"; intro s S
      repeat (walk_at "w2")
      refine ⟨Γ', _, _, by assumption, Sub.rfl', rfl, ?_⟩
      rw [List.take_add_one, hpd, List.map_append]
      exact hz.snoc (TD.int.le (by omega))
    | cov ns =>
      obtain ⟨x, tv, rfl, hx, hrest⟩ := id hpart
      repeat (walk_at "w2")
      rename_i S
      refine r_isCov S hx ?_
      repeat (walk_at "w2")
      refine c_toldCov (by assumption) (by walk_at "room") hpart ?_
      walk_at "clr"; intro Γ₃ s v S k₃ hv
      refine ⟨Γ₃, _, _, S, k₃, rfl, ?_⟩
      rw [List.take_add_one, hpd, List.map_append]
      exact (hz.weak fun _ _ z => TD.mono z k₃).snoc hv
  · rintro Γ₃ _ a2 ys s k ⟨Γ'', k2, rfl, hz⟩ hy ha2 S
    repeat (walk_at "w2")
    refine r_tupleOf (by assumption) (by walk_at "al") (by have := hall.1; omega) ?_
    walk_at "clr"; intro Γ₄ s tt S k₄ htt
    rw [List.take_of_length_le (by rw [hall.1]; exact Nat.le_refl _)] at hz
    exact ⟨Γ₄, _, S, by walk_at "sub", TD.tup htt (hz.weak fun _ _ z => TD.mono z (k2.trans k₄))⟩

theorem c_toldRule {r : RuleD} (S : St w e Γ own s) (R : Room A 6) (hc : RuleAt Γ v r) (hQ : ∀ Γ' s' v, St w e Γ' own s' → Sub Γ Γ' → TD Γ' 3 v (toldRule r) → Q v s') : wpAny (model pg w) A (call (.ref 84) [v]) Q E s := by
  refine' call0 (K := fun Γ' v => TD Γ' 3 v (toldRule r))
    (fr := fun L => [(L, NsO (upd m0 "self" v))])
    (binds := [("self", v)]) S R.depth ?ho ?hcd ?hbind ?hkind ?hnd ?hfr ?hQ ?body ?h1 ?h2 ?h3
  case ho => rfl
  case hcd => rfl
  case hbind => exact .of_eq (by rfl)
  case hkind => rfl
  case hnd => decide
  case hfr => intro L; rfl
  case h1 => rfl
  case h2 => rfl
  case h3 => rfl
  case hQ => exact hQ
  intro e' hW L s S; show wpAny _ _ (execs (_ :: _) _) _ _ _
  obtain ⟨x, av, rfl, hx, hacts, hb, hi, ha⟩ := hc
  have hjb : handedIn r.back = true := hb.ref
  have hji : handedIn r.inside = true := hi.ref
  have hja : handedIn r.ahead = true := ha.ref
  obtain ⟨ta, avs, rfl, hta, hal, ha2⟩ := id hacts
  repeat (walk_at "w2")
  refine c_toldRow (by assumption) (by walk_at "room") hb ?_
  walk_at "clr"; intro Γ₁ s v1 S k₁ h1
  repeat (walk_at "w2")
  refine c_toldRow (by assumption) (by walk_at "room") (hi.mono k₁) ?_
  walk_at "clr"; intro Γ₂ s v2 S k₂ h2
  repeat (walk_at "w2")
  refine c_toldRow (by assumption) (by walk_at "room") (ha.mono (k₁.trans k₂)) ?_
  walk_at "clr"; intro Γ₃ s v3 S k₃ h3
  repeat (walk_at "w2")
  rename_i S
  refine r_tupleSame (S.at (hta.mono (by walk_at "sub"))) ?_
  repeat (walk_at "w2")
  refine r_newTuple (by assumption) (by simp) ?_
  walk_at "clr"; intro Γ₄ s t S k₄ ht
  refine ⟨Γ₄, _, S, by walk_at "sub", TD.tup ht ?_⟩
  exact AllAt.cons (h1.mono (by walk_at "sub")) (AllAt.cons (h2.mono (by walk_at "sub")) (AllAt.cons (h3.mono (by walk_at "sub")) (AllAt.cons (hacts.td.mono (by walk_at "sub")) .nil)))
end



theorem getK_mem {α : Type} : ∀ {qs : List (Int × α)} {k : Int}, k ∈ qs.map (·.1) → ∃ n, getK qs k = some n ∧ (k, n) ∈ qs
  | [], k, h => by simp at h
  | q :: r, k, h => by
    unfold getK
    rw [List.find?_cons]
    by_cases e : q.1 = k
    · rw [decide_eq_true e]; exact ⟨q.2, rfl, by rw [← e]; exact .head _⟩
    · rw [decide_eq_false e]
      have : k ∈ r.map (·.1) := by
        rcases List.mem_cons.mp h with h | h
        · exact absurd h.symm e
        · exact h
      obtain ⟨n, h1, h2⟩ := getK_mem this
      exact ⟨n, h1, .tail _ h2⟩
theorem intPairs'.keys : ∀ {qs : List (Int × Int)} {kvs : List (Int × Value)}, intPairs' qs kvs → kvs.map (·.1) = qs.map (·.1)
  | [], [], _ => rfl
  | [], _ :: _, h => by have := h.1; simp at this
  | _ :: _, [], h => by have := h.1; simp at this
  | q :: qs, p :: kvs, h => by
    obtain ⟨a, _, c⟩ := h.cons
    simp only [List.map_cons, a, c.keys]
def toldCls (qs : List (Int × Int)) : PyData := .tuple ((sortI (qs.map (·.1))).map fun k => .tuple [.int k, .int ((getK qs k).getD 0)])

section
variable {w : World} {e : Ent} {Γ : Heap} {s : Shared} {own own' : Own} {A : Around} {E : Value → Shared → Prop} {l p scr : Addr} {vs : List Value} {ns : List Int} {Q : Value → Shared → Prop} {tv nv v : Value} {c : CtxD} {qs : List (Int × Int)}

set_option maxHeartbeats 4000000 in
theorem c_toldCls (S : St w e Γ own s) (R : Room A 4) (hc : ClsAt' w Γ v qs) (hQ : ∀ Γ' s' v, St w e Γ' own s' → Sub Γ Γ' → TD Γ' 2 v (toldCls qs) → Q v s') : wpAny (model pg w) A (call (.ref 196) [v]) Q E s := by
  refine' call0 (K := fun Γ' v => TD Γ' 2 v (toldCls qs))
    (fr := fun L => [(L, NsO m0), (L + 1, CellO (some v))])
    (binds := [("self", v)]) S R.depth ?ho ?hcd ?hbind ?hkind ?hnd ?hfr ?hQ ?body ?h1 ?h2 ?h3
  case ho => rfl
  case hcd => rfl
  case hbind => exact .of_eq (by rfl)
  case hkind => rfl
  case hnd => decide
  case hfr => intro L; rfl
  case h1 => rfl
  case h2 => rfl
  case h3 => rfl
  case hQ => exact hQ
  intro e' hW L s S; show wpAny _ _ (execs (_ :: _) _) _ _ _
  obtain ⟨x, d, kvs, rfl, hx, hd, hl, hl4, hq⟩ := hc
  have hqp : intPairs' qs kvs := ⟨hl, hq⟩
  repeat (walk_at "w2")
  refine r_ListComp (R.deeper _).hh (by rfl) ?_
  repeat (walk_at "w2")
  rename_i S
  refine r_sorted_dict S (R.deeper _).hh (S.at hd.1) hd.2 (by omega) ?_
  walk_at "clr"; intro Γ₁ s b us ms S k₁ hb hu hp hsrt
  have hms : ms = sortI (qs.map (·.1)) := sortI_eq (by rw [← hqp.keys]; exact hp) hsrt
  have hml : ms.length = qs.length := by rw [hp.length_eq]; simpa using hl
  refine i_list S hb fun it s₂ HI => ⟨e', Γ₁, _, _, _, fun i ys Γ' own' => own' = [(L, NsO m0), (L + 1, CellO (some (.ref x)))] ∧ AllAt (TD Γ' 1) ys ((ms.take i).map fun k => .tuple [.int k, .int ((getK qs k).getD 0)]), HI, by have := hu.length; omega, ⟨rfl, .nil⟩, ?_, ?_, ?_⟩
  · rintro _ _ _ _ _ y hy
    rw [hW] at hy; cases hy
  · rintro i v ys Γ' _ C m D J s E' hi' hP hys k ⟨rfl, hz⟩ S
    obtain ⟨k0, t0, hk0, rfl⟩ := ints_at hu hP
    have hmem : k0 ∈ qs.map (·.1) := by
      rw [← hqp.keys]; exact hp.mem_iff.mp (List.mem_of_getElem? hk0)
    obtain ⟨n, hgn, _⟩ := getK_mem hmem
    have hg := hqp.get (k := k0)
    rw [hgn] at hg
    obtain ⟨tn, hg⟩ := hg
    repeat (walk_at "w2")
    rename_i S
    refine r_dictItem S (S.at (hd.1.mono (by walk_at "sub"))) hg ?_
    walk_at "clr"; intro s S
    repeat (walk_at "w2")
    refine r_newTuple (by assumption) (by simp) ?_
    walk_at "clr"; intro Γ₄ s tt S k₄ htt
    refine ⟨Γ₄, _, _, S, k₄, rfl, ?_⟩
    rw [List.take_add_one, hk0, List.map_append]
    have := (hz.weak fun _ _ z => TD.mono z k₄).snoc (TD.tup htt (AllAt.cons TD.int (AllAt.cons TD.int .nil)))
    simpa [hgn] using this
  · rintro Γ₃ _ a2 ys s k ⟨Γ'', k2, rfl, hz⟩ hy ha2 S
    repeat (walk_at "w2")
    refine r_tupleOf (by assumption) (by walk_at "al") (by have := hu.length; omega) ?_
    walk_at "clr"; intro Γ₄ s tt S k₄ htt
    rw [List.take_of_length_le (by rw [hu.length]; exact Nat.le_refl _)] at hz
    have := TD.tup htt (hz.weak fun _ _ z => TD.mono z (k2.trans k₄))
    rw [hms] at this
    exact ⟨Γ₄, _, S, by walk_at "sub", this⟩

def usedOf (c : CtxD) : List (List (Int × Int)) := if c.ch = true then c.clsD else (c.clsD.drop 1).take 1
theorem c_used (S : St w e Γ own s) (R : Room A 2) (hc : CtxAt w Γ v c) (h2 : c.form = 2) (hQ : ∀ Γ' s' a vs, St w e Γ' own s' → Sub Γ Γ' → IsLst Γ' a vs → AllAt (ClsAt' w Γ') vs (usedOf c) → vs.length ≤ 3 → Q (.ref a) s') : wpAny (model pg w) A (call (.ref 125) [v]) Q E s := by
  refine' call0 (K := fun Γ' v => ∃ a vs, v = .ref a ∧ IsLst Γ' a vs ∧ AllAt (ClsAt' w Γ') vs (usedOf c) ∧ vs.length ≤ 3)
    (fr := fun L => [(L, NsO (upd m0 "self" v))])
    (binds := [("self", v)]) S R.depth ?ho ?hcd ?hbind ?hkind ?hnd ?hfr ?hQ ?body ?h1 ?h2 ?h3
  case ho => rfl
  case hcd => rfl
  case hbind => exact .of_eq (by rfl)
  case hkind => rfl
  case hnd => decide
  case hfr => intro L; rfl
  case h1 => rfl
  case h2 => rfl
  case h3 => rfl
  case hQ => rintro Γ' s' v S' k ⟨a, vs, rfl, h1, h2, h3⟩; exact hQ Γ' s' a vs S' k h1 h2 h3
  intro e' hW L s S; show wpAny _ _ (execs (_ :: _) _) _ _ _
  obtain ⟨x, ft, sv, rfl, hx, hsets, hr4, hs4, hcov, hcls, hform⟩ := id hc
  obtain ⟨_, t, cvs, hct, ht, hall, hlen⟩ := hform h2
  have hcl : cvs.length = 3 := hall.1.trans hlen
  unfold usedOf
  repeat (walk_at "w2")
  rename_i S
  cases hch : c.ch with
  | true =>
    repeat (walk_at "w2")
    rw [hct]
    rename_i S
    refine r_listOf S (S.at ht) (by omega) ?_
    walk_at "clr"; intro Γ₁ s a S k₁ ha
    exact ⟨Γ₁, _, S, k₁, a, cvs, rfl, ha, hall.weak fun _ _ z => ClsAt'.mono z k₁, by omega⟩
  | false =>
    repeat (walk_at "w2")
    rw [hct]
    rename_i S
    obtain ⟨v1, hv1⟩ : ∃ v1, cvs[1]? = some v1 := ⟨cvs[1], by simp [hcl]⟩
    obtain ⟨q1, hq1, hc1⟩ := hall.at hv1
    refine r_itemT (S.at ht) (by omega) (by omega) hv1 ?_
    repeat (walk_at "w2")
    refine r_newList (by assumption) (by simp) ?_
    walk_at "clr"; intro Γ₁ s a S k₁ ha
    refine ⟨Γ₁, _, S, k₁, a, _, rfl, ha, ?_, by simp⟩
    have : (c.clsD.drop 1).take 1 = [q1] := by
      match hcd : c.clsD, hlen with
      | [a, b, c], _ => rw [hcd] at hq1; simp at hq1; simp [hq1]
    rw [if_neg (by simp), this]
    exact AllAt.cons (hc1.mono k₁) .nil
end



def rsAt (kss : List (Int × List RuleD)) (k : Int) : List RuleD := (getK kss k).getD []
def toldSet (kss : List (Int × List RuleD)) (k : Int) : PyData := .tuple [.int k, .tuple ((rsAt kss k).map toldRule)]
def toldSets (kss : List (Int × List RuleD)) : PyData := .tuple (((sortI (kss.map (·.1))).filter fun k => decide (0 < (rsAt kss k).length)).map (toldSet kss))
def toldCtx (c : CtxD) : PyData := .tuple ([.int c.form, .bool c.ch, toldSets c.sets] ++ if c.form = 2 then [.tuple (c.covD.map .int), .tuple ((usedOf c).map toldCls)] else [])

section
variable {w : World} {e : Ent} {Γ : Heap} {s : Shared} {own own' : Own} {A : Around} {E : Value → Shared → Prop} {l p scr : Addr} {vs : List Value} {ns : List Int} {Q : Value → Shared → Prop} {tv nv v : Value} {c : CtxD} {qs : List (Int × Int)}

/-- the rules of a key -/
theorem SetsI.key {kvs : List (Int × Value)} {kss : List (Int × List RuleD)} (h : SetsI Γ kvs kss) {k : Int} (hk : k ∈ kss.map (·.1)) : ∃ lr lvs, valueAt kvs k = some (.ref lr) ∧ IsLst Γ lr lvs ∧ AllAt (RuleAt Γ) lvs (rsAt kss k) ∧ ∃ q ∈ kss, q.2 = rsAt kss k := by
  obtain ⟨rs, hg, _⟩ := getK_mem hk
  have h1 := h.get (k := k)
  unfold rsAt
  split at h1
  · rename_i x hx
    obtain ⟨rs', h2, ⟨lr, lvs, rfl, h4, h5⟩, q, hq, hqe⟩ := h1
    rw [h2]
    exact ⟨lr, lvs, hx, h4, h5, q, hq, hqe⟩
  · rename_i hx
    rw [h1] at hg; cases hg

set_option maxHeartbeats 8000000 in
theorem c_told (S : St w e Γ own s) (R : Room A 8) (hc : CtxAt w Γ v c) (hQ : ∀ Γ' s' v, St w e Γ' own s' → Sub Γ Γ' → TD Γ' 7 v (toldCtx c) → Q v s') : wpAny (model pg w) A (call (.ref 118) [v]) Q E s := by
  refine' call0 (K := fun Γ' v => TD Γ' 7 v (toldCtx c))
    (fr := fun L => [(L, NsO m0), (L + 1, CellO (some v))])
    (binds := [("self", v)]) S R.depth ?ho ?hcd ?hbind ?hkind ?hnd ?hfr ?hQ ?body ?h1 ?h2 ?h3
  case ho => rfl
  case hcd => rfl
  case hbind => exact .of_eq (by rfl)
  case hkind => rfl
  case hnd => decide
  case hfr => intro L; rfl
  case h1 => rfl
  case h2 => rfl
  case h3 => rfl
  case hQ => exact hQ
  intro e' hW L s S; show wpAny _ _ (execs (_ :: _) _) _ _ _
  obtain ⟨x, ft, sv, rfl, hx, ⟨d, kvs, rfl, hd, hI⟩, hr4, hs4, hcov, hcls, hform⟩ := id hc
  have hkl := hI.len
  repeat (walk_at "w2")
  refine r_ListComp (R.deeper _).hh (by rfl) ?_
  repeat (walk_at "w2")
  rename_i S
  refine r_sorted_dict S (R.deeper _).hh (S.at hd.1) hd.2 (by omega) ?_
  walk_at "clr"; intro Γ₁ s b us ms S k₁ hb hu hp hsrt
  have hms : ms = sortI (c.sets.map (·.1)) := sortI_eq (by rw [← hI.keys]; exact hp) hsrt
  have hml : ms.length = c.sets.length := by rw [hp.length_eq]; simpa using hkl
  refine i_list S hb fun it s₂ HI => ⟨e', Γ₁, _, _, _, fun i ys Γ' own' => own' = [(L, NsO m0), (L + 1, CellO (some (.ref x)))] ∧ AllAt (TD Γ' 5) ys (((ms.take i).filter fun k => decide (0 < (rsAt c.sets k).length)).map (toldSet c.sets)), HI, by have := hu.length; omega, ⟨rfl, .nil⟩, ?_, ?_, ?_⟩
  · rintro _ _ _ _ _ y hy
    rw [hW] at hy; cases hy
  · rintro i v ys Γ' _ C m D J s E' hi' hP hys k ⟨rfl, hz⟩ S
    obtain ⟨k0, t0, hk0, rfl⟩ := ints_at hu hP
    have hmem : k0 ∈ c.sets.map (·.1) := by
      rw [← hI.keys]; exact hp.mem_iff.mp (List.mem_of_getElem? hk0)
    obtain ⟨lr, lvs, hva, hlr, hall, q, hq, hqe⟩ := hI.key hmem
    have hl4 : lvs.length ≤ 4 := by rw [hall.1, ← hqe]; exact hr4 q hq
    repeat (walk_at "w2")
    rename_i S
    refine r_dictItem S (S.at (hd.1.mono (by walk_at "sub"))) hva ?_
    walk_at "clr"; intro s S
    repeat (walk_at "w2")
    refine r_ite (fun hg => ?_) (fun hg => ?_)
    · repeat (walk_at "w2")
      refine r_ListComp (R.deeper _).hh (by rfl) ?_
      repeat (walk_at "w2")
      rename_i S
      refine r_dictItem S (S.at (hd.1.mono (by walk_at "sub"))) hva ?_
      walk_at "clr"; intro s S
      refine i_list S (hlr.mono (by walk_at "sub")) fun it s₂ HI₂ => ⟨e', Γ', _, _, _, fun j zs Γ₂ own₂ => own₂ = (C, NsO (upd m "key" (.int k0 t0))) :: D :: J :: [(L, NsO m0), (L + 1, CellO (some (.ref x)))] ∧ AllAt (TD Γ₂ 3) zs (((rsAt c.sets k0).take j).map toldRule), HI₂, by omega, ⟨rfl, .nil⟩, ?_, ?_, ?_⟩
      · rintro _ _ _ _ _ y hy
        rw [hW] at hy; cases hy
      · rintro j v zs Γ₂ _ C2 m2 D2 J2 s E2 hj hP2 hzs k2 ⟨rfl, hz2⟩ S
        obtain ⟨r, hr, hrule⟩ := hall.at hP2
        have hrule := hrule.mono ((k₁.trans k).trans k2)
        obtain ⟨xr, av, rfl, hxr, _⟩ := id hrule
        repeat (walk_at "w2")
        refine c_toldRule (by assumption) (by walk_at "room") hrule ?_
        walk_at "clr"; intro Γ₃ s v S k₃ hv
        refine ⟨Γ₃, _, _, S, k₃, rfl, ?_⟩
        rw [List.take_add_one, hr, List.map_append]
        exact (hz2.weak fun _ _ z => TD.mono z k₃).snoc hv
      · rintro Γ₃ _ a2 zs s k' ⟨Γ3', k3', rfl, hz2⟩ hzl ha2 S
        repeat (walk_at "w2")
        refine r_tupleOf (by assumption) (by walk_at "al") (by omega) ?_
        walk_at "clr"; intro Γ₄ s tt S k₄ htt
        repeat (walk_at "w2")
        refine r_newTuple (by assumption) (by simp) ?_
        walk_at "clr"; intro Γ₅ s t5 S k₅ ht5
        refine ⟨Γ₅, _, _, S, by walk_at "sub", rfl, ?_⟩
        rw [List.take_of_length_le (by rw [hall.1]; exact Nat.le_refl _)] at hz2
        have h5 : TD Γ₅ 5 (.ref t5) (toldSet c.sets k0) := TD.tup ht5 (AllAt.cons (TD.int.le (by omega)) (AllAt.cons ((TD.tup htt (hz2.weak fun _ _ z => TD.mono z (k3'.trans k₄))).mono k₅) .nil))
        have kk : Sub Γ' Γ₅ := by walk_at "sub"
        have h6 := (hz.weak fun _ _ z => TD.mono z kk).snoc h5
        have hpos : 0 < (rsAt c.sets k0).length := by rw [← hall.1]; omega
        rw [List.take_add_one, hk0, List.filter_append, List.map_append]
        simpa [hpos] using h6
    · refine ⟨Γ', _, _, by assumption, Sub.rfl', rfl, ?_⟩
      have hpos : ¬ 0 < (rsAt c.sets k0).length := by rw [← hall.1]; omega
      rw [List.take_add_one, hk0, List.filter_append, List.map_append]
      have he : List.filter (fun k => decide (0 < (rsAt c.sets k).length)) (some k0).toList = [] := by simp [hpos]
      rw [he]
      simpa using hz
  · rintro Γ₃ _ a2 ys s k ⟨Γ'', k2, rfl, hz⟩ hy ha2 S
    repeat (walk_at "w2")
    refine r_tupleOf (by assumption) (by walk_at "al") (by have := hu.length; omega) ?_
    walk_at "clr"; intro Γ₄ s tt S k₄ htt
    rw [List.take_of_length_le (by rw [hu.length]; exact Nat.le_refl _)] at hz
    have hts := TD.tup htt (hz.weak fun _ _ z => TD.mono z (k2.trans k₄))
    rw [hms] at hts
    repeat (walk_at "w2")
    refine wpAny_If ?_
    repeat (walk_at "w2")
    refine r_ite (fun h2 => ?_) (fun h2 => ?_)
    · repeat (walk_at "w2")
      refine r_newTuple (by assumption) (by simp) ?_
      walk_at "clr"; intro Γ₅ s t5 S k₅ ht5
      refine ⟨Γ₅, _, S, by walk_at "sub", ?_⟩
      unfold toldCtx
      rw [if_neg h2, List.append_nil]
      exact TD.tup ht5 (AllAt.cons (TD.int.le (by omega)) (AllAt.cons (TD.bool.le (by omega)) (AllAt.cons (hts.mono k₅) .nil)))
    · have h2 : c.form = 2 := Decidable.of_not_not h2
      obtain ⟨hcv, hclx⟩ := hform h2
      obtain ⟨xc, tvc, hce, hxc, _⟩ := id hcv
      repeat (walk_at "w2")
      rw [hce]
      repeat (walk_at "w2")
      refine c_toldCov (ns := c.covD) (by assumption) (by walk_at "room") (by rw [← hce]; exact hcv.mono (by walk_at "sub")) ?_
      walk_at "clr"; intro Γ₅ s v5 S k₅ hv5
      repeat (walk_at "w2")
      refine r_ListComp (R.deeper _).hh (by rfl) ?_
      repeat (walk_at "w2")
      refine c_used (c := c) (by assumption) (by walk_at "room") (hc.mono (by walk_at "sub")) h2 ?_
      walk_at "clr"; intro Γ₆ s ua uvs S k₆ hua huall hul
      refine i_list S hua fun it s₂ HI₂ => ⟨e', Γ₆, _, _, _, fun j zs Γ₂ own₂ => own₂ = [(L, NsO (upd m0 "sets" (.ref tt))), (L + 1, CellO (some (.ref x)))] ∧ AllAt (TD Γ₂ 2) zs (((usedOf c).take j).map toldCls), HI₂, by omega, ⟨rfl, .nil⟩, ?_, ?_, ?_⟩
      · rintro _ _ _ _ _ y hy
        rw [hW] at hy; cases hy
      · rintro j v zs Γ₂ _ C2 m2 D2 J2 s E2 hj hP2 hzs k2 ⟨rfl, hz2⟩ S
        obtain ⟨q, hq, hcl⟩ := huall.at hP2
        have hcl := hcl.mono k2
        obtain ⟨xr, dd, kk, rfl, hxr, _⟩ := id hcl
        repeat (walk_at "w2")
        refine c_toldCls (by assumption) (by walk_at "room") hcl ?_
        walk_at "clr"; intro Γ₃ s v S k₃ hv
        refine ⟨Γ₃, _, _, S, k₃, rfl, ?_⟩
        rw [List.take_add_one, hq, List.map_append]
        exact (hz2.weak fun _ _ z => TD.mono z k₃).snoc hv
      · rintro Γ₇ _ a3 zs s k' ⟨Γ7', k7', rfl, hz2⟩ hzl ha3 S
        repeat (walk_at "w2")
        refine r_tupleOf (by assumption) (by walk_at "al") (by omega) ?_
        walk_at "clr"; intro Γ₈ s t8 S k₈ ht8
        repeat (walk_at "w2")
        refine r_newTuple (by assumption) (by simp) ?_
        walk_at "clr"; intro Γ₉ s t9 S k₉ ht9
        refine ⟨Γ₉, _, S, by walk_at "sub", ?_⟩
        rw [List.take_of_length_le (by rw [huall.1]; exact Nat.le_refl _)] at hz2
        unfold toldCtx
        rw [if_pos h2]
        exact TD.tup ht9 (AllAt.cons (TD.int.le (by omega)) (AllAt.cons (TD.bool.le (by omega)) (AllAt.cons (hts.mono (by walk_at "sub")) (AllAt.cons ((hv5.mono (by walk_at "sub")).le (by omega)) (AllAt.cons (((TD.tup ht8 (hz2.weak fun _ _ z => TD.mono z (k7'.trans k₈))).mono k₉).le (by omega)) .nil)))))
end



def rulesOf (kss : List (Int × List RuleD)) : List RuleD := (sortI (kss.map (·.1))).flatMap (rsAt kss)
def lookL (rs : List RuleD) : List Int := rs.flatMap fun r => r.acts.map (·.2)
theorem stored_keys {l : List (Int × Value)} {k : Int} {v : Value} (k' : Int) : k' ∈ (stored l k v).map (·.1) ↔ k' ∈ l.map (·.1) ∨ k' = k := by
  unfold stored
  split
  · rename_i h
    obtain ⟨q, hq, e⟩ := List.any_eq_true.mp h
    have e := of_decide_eq_true e
    have : (l.map fun kv => if kv.1 = k then (kv.1, v) else kv).map (·.1) = l.map (·.1) := by
      rw [List.map_map]
      apply List.map_congr_left
      intro x _
      show (if x.1 = k then (x.1, v) else x).1 = x.1
      split <;> rfl
    rw [this]
    exact ⟨.inl, fun h => h.elim id fun z => z ▸ List.mem_map.mpr ⟨q, hq, e⟩⟩
  · rw [List.map_append, List.mem_append]; simp

section
variable {w : World} {e : Ent} {Γ : Heap} {s : Shared} {own own' : Own} {A : Around} {E : Value → Shared → Prop} {l p scr : Addr} {vs : List Value} {ns : List Int} {Q : Value → Shared → Prop} {tv nv v : Value} {c : CtxD} {qs : List (Int × Int)}

set_option maxHeartbeats 8000000 in
theorem c_rules (S : St w e Γ own s) (R : Room A 4) (hc : CtxAt w Γ v c) (hQ : ∀ Γ' s' a vs, St w e Γ' own s' → Sub Γ Γ' → IsLst Γ' a vs → AllAt (RuleAt Γ') vs (rulesOf c.sets) → vs.length ≤ 16 → Q (.ref a) s') : wpAny (model pg w) A (call (.ref 132) [v]) Q E s := by
  refine' call0 (K := fun Γ' v => ∃ a vs, v = .ref a ∧ IsLst Γ' a vs ∧ AllAt (RuleAt Γ') vs (rulesOf c.sets) ∧ vs.length ≤ 16)
    (fr := fun L => [(L, NsO (upd m0 "self" v))])
    (binds := [("self", v)]) S R.depth ?ho ?hcd ?hbind ?hkind ?hnd ?hfr ?hQ ?body ?h1 ?h2 ?h3
  case ho => rfl
  case hcd => rfl
  case hbind => exact .of_eq (by rfl)
  case hkind => rfl
  case hnd => decide
  case hfr => intro L; rfl
  case h1 => rfl
  case h2 => rfl
  case h3 => rfl
  case hQ => rintro Γ' s' v S' k ⟨a, vs, rfl, h1, h2, h3⟩; exact hQ Γ' s' a vs S' k h1 h2 h3
  intro e' hW L s S; show wpAny _ _ (execs (_ :: _) _) _ _ _
  obtain ⟨x, ft, sv, rfl, hx, ⟨d, kvs, rfl, hd, hI⟩, hr4, hs4, hcov, hcls, hform⟩ := id hc
  have hkl := hI.len
  repeat (walk_at "w2")
  refine r_newListO (by assumption) (by simp) ?_
  walk_at "clr"; intro s lst S
  repeat (walk_at "w2")
  refine r_For ?_ (R.deeper _).hh
  repeat (walk_at "w2")
  rename_i S
  refine r_sorted_dict S (R.deeper _).hh (S.at hd.1) hd.2 (by omega) ?_
  walk_at "clr"; intro Γ₁ s b us ms S k₁ hb hu hp hsrt
  have hms : ms = sortI (c.sets.map (·.1)) := sortI_eq (by rw [← hI.keys]; exact hp) hsrt
  have hml : ms.length = c.sets.length := by rw [hp.length_eq]; simpa using hkl
  have hul := hu.length
  refine i_list S hb fun it s₂ HI => ⟨e', Γ₁, _, _, _, fun i Γ' own' => ∃ m ys, own' = [(lst, LP ys), (L, NsO m)] ∧ m "self" = some (.ref x) ∧ m "found" = some (.ref lst) ∧ AllAt (RuleAt Γ') ys ((ms.take i).flatMap (rsAt c.sets)) ∧ ys.length ≤ 4 * i,
    HI, ⟨_, [], rfl, by walk_at "lk", by walk_at "lk", .nil, Nat.zero_le _⟩, ?_, ?_, ?_⟩
  · rintro _ _ _ _ y hy
    rw [hW] at hy; cases hy
  · rintro i v Γ' _ J s E' hi' hP k ⟨m, ys, rfl, m1, m2, hz, hzl⟩ S
    obtain ⟨k0, t0, hk0, rfl⟩ := ints_at hu hP
    have hmem : k0 ∈ c.sets.map (·.1) := by
      rw [← hI.keys]; exact hp.mem_iff.mp (List.mem_of_getElem? hk0)
    obtain ⟨lr, lvs, hva, hlr, hall, q, hq, hqe⟩ := hI.key hmem
    have hl4 : lvs.length ≤ 4 := by rw [hall.1, ← hqe]; exact hr4 q hq
    repeat (walk_at "w2")
    refine r_For ?_ (R.deeper _).hh
    repeat (walk_at "w2")
    rename_i S
    refine r_dictItem S (S.at (hd.1.mono (by walk_at "sub"))) hva ?_
    walk_at "clr"; intro s S
    refine i_list S (hlr.mono (by walk_at "sub")) fun it s₂ HI₂ => ⟨e', Γ', _, _, _, fun j Γ'' own'' => ∃ m' zs, own'' = J :: [(lst, LP (ys ++ zs)), (L, NsO m')] ∧ m' "self" = some (.ref x) ∧ m' "found" = some (.ref lst) ∧ AllAt (RuleAt Γ'') zs ((rsAt c.sets k0).take j) ∧ zs.length = j,
      HI₂, ⟨_, [], by rw [List.append_nil], by walk_at "lk", by walk_at "lk", .nil, rfl⟩, ?_, ?_, ?_⟩
    · rintro _ _ _ _ y hy
      rw [hW] at hy; cases hy
    · rintro j v Γ'' _ J2 s E2 hj hP2 k2 ⟨m', zs, rfl, n1, n2, hy2, hyl⟩ S
      obtain ⟨r, hr, hrule⟩ := hall.at hP2
      have hrule := hrule.mono ((k₁.trans k).trans k2)
      obtain ⟨xr, av, rfl, hxr, _⟩ := id hrule
      repeat (walk_at "w2")
      refine wpAny_Expr ?_
      repeat (walk_at "w2")
      rename_i S
      refine r_getMethodL (S.at' (by walk_at "mm")) ?_
      repeat (walk_at "w2")
      refine r_appendL (by assumption) (by walk_at "up") (by rw [List.length_append]; omega) ?_
      walk_at "clr"; intro s S
      repeat (walk_at "w2")
      refine ⟨rfl, Γ'', _, S, Sub.rfl', _, zs ++ [.ref xr], by rw [List.append_assoc], by walk_at "lk", by walk_at "lk", ?_, by simp [hyl]⟩
      rw [List.take_add_one, hr]
      exact hy2.snoc hrule
    · rintro Γ₄ _ s k' ⟨m', zs, rfl, n1, n2, hy2, hyl⟩ S
      repeat (walk_at "w2")
      refine ⟨rfl, Γ₄, _, S, k', _, ys ++ zs, rfl, by walk_at "lk", by walk_at "lk", ?_, by rw [List.length_append]; omega⟩
      rw [List.take_add_one, hk0, List.flatMap_append]
      rw [List.take_of_length_le (by rw [hall.1]; exact Nat.le_refl _)] at hy2
      have := (hz.weak fun _ _ z => RuleAt.mono z k').append hy2
      simpa using this
  · rintro Γ₅ _ s k ⟨m, ys, rfl, m1, m2, hz, hzl⟩ S
    repeat (walk_at "w2")
    rename_i S
    obtain ⟨Γ₆, o, S', k₆, ho, hLP⟩ := S.freeze (fun y hy => by rw [hW] at hy; cases hy)
    rw [List.take_of_length_le (by omega), hms] at hz
    exact ⟨Γ₆, _, S', by walk_at "sub", lst, ys, rfl, ⟨o, ho, hLP⟩, hz.weak fun _ _ z => RuleAt.mono z k₆, by omega⟩

set_option maxHeartbeats 8000000 in
theorem c_lookups (S : St w e Γ own s) (R : Room A 6) (hc : CtxAt w Γ v c) (hQ : ∀ Γ' s' a vs ms, St w e Γ' own s' → Sub Γ Γ' → IsLst Γ' a vs → IntsAre vs ms → ms.Nodup → ms.Pairwise (· ≤ ·) → (∀ k, k ∈ ms ↔ k ∈ lookL (rulesOf c.sets)) → ms.length ≤ 32 → Q (.ref a) s') : wpAny (model pg w) A (call (.ref 151) [v]) Q E s := by
  refine' call0 (K := fun Γ' v => ∃ a vs ms, v = .ref a ∧ IsLst Γ' a vs ∧ IntsAre vs ms ∧ ms.Nodup ∧ ms.Pairwise (· ≤ ·) ∧ (∀ k, k ∈ ms ↔ k ∈ lookL (rulesOf c.sets)) ∧ ms.length ≤ 32)
    (fr := fun L => [(L, NsO (upd m0 "table" v))])
    (binds := [("table", v)]) S R.depth ?ho ?hcd ?hbind ?hkind ?hnd ?hfr ?hQ ?body ?h1 ?h2 ?h3
  case ho => rfl
  case hcd => rfl
  case hbind => exact .of_eq (by rfl)
  case hkind => rfl
  case hnd => decide
  case hfr => intro L; rfl
  case h1 => rfl
  case h2 => rfl
  case h3 => rfl
  case hQ => rintro Γ' s' v S' k ⟨a, vs, ms, rfl, h1, h2, h3, h4, h5, h6⟩; exact hQ Γ' s' a vs ms S' k h1 h2 h3 h4 h5 h6
  intro e' hW L s S; show wpAny _ _ (execs (_ :: _) _) _ _ _
  obtain ⟨x, ft, sv, rfl, hx, _⟩ := id hc
  repeat (walk_at "w2")
  refine r_newDict (by assumption) ?_
  walk_at "clr"; intro s d hd S
  repeat (walk_at "w2")
  refine r_For ?_ (R.deeper _).hh
  repeat (walk_at "w2")
  refine c_rules (by assumption) (by walk_at "room") hc ?_
  walk_at "clr"; intro Γ₁ s lr lvs S k₁ hlr hall hl16
  refine i_list S hlr fun it s₂ HI => ⟨e', Γ₁, _, _, _, fun i Γ' own' => ∃ m kvs, own' = [(d, DO w kvs), (L, NsO m)] ∧ m "found" = some (.ref d) ∧ (∀ k, k ∈ kvs.map (·.1) ↔ k ∈ lookL ((rulesOf c.sets).take i)) ∧ kvs.length ≤ 2 * i,
    HI, ⟨_, [], rfl, by walk_at "lk", by simp [lookL], Nat.zero_le _⟩, ?_, ?_, ?_⟩
  · rintro _ _ _ _ y hy
    rw [hW] at hy; cases hy
  · rintro i v Γ' _ J s E' hi' hP k ⟨m, kvs, rfl, m1, hz, hzl⟩ S
    obtain ⟨r, hr, hrule⟩ := hall.at hP
    have hrule := hrule.mono k
    obtain ⟨xr, av, rfl, hxr, ⟨ta, avs, rfl, hta, hal, ha2⟩, _⟩ := hrule
    repeat (walk_at "w2")
    refine r_For ?_ (R.deeper _).hh
    repeat (walk_at "w2")
    rename_i S
    refine i_tuple S hta fun it s₂ HI₂ => ⟨e', Γ', _, _, _, fun j Γ'' own'' => ∃ m' kvs', own'' = J :: [(d, DO w kvs'), (L, NsO m')] ∧ m' "found" = some (.ref d) ∧ (∀ k, k ∈ kvs'.map (·.1) ↔ k ∈ kvs.map (·.1) ∨ k ∈ (r.acts.take j).map (·.2)) ∧ kvs'.length ≤ kvs.length + j,
      HI₂, ⟨_, kvs, rfl, by walk_at "lk", by simp, by omega⟩, ?_, ?_, ?_⟩
    · rintro _ _ _ _ y hy
      rw [hW] at hy; cases hy
    · rintro j v Γ'' _ J2 s E2 hj hP2 k2 ⟨m', kvs', rfl, n1, hy2, hyl⟩ S
      obtain ⟨a, hai, hact⟩ := hal.at hP2
      obtain ⟨pt, t1, t2, rfl, hpt⟩ := hact.mono k2
      have hal1 := hal.1
      refine r_pair S (R.deeper _).hh hpt ?_
      walk_at "clr"; intro s S
      repeat (walk_at "w2")
      refine r_dictSet (by assumption) (by walk_at "up") (by omega) ?_
      walk_at "clr"; intro s S
      repeat (walk_at "w2")
      refine ⟨rfl, Γ'', _, S, Sub.rfl', _, _, rfl, by walk_at "lk", fun k => ?_, by have := stored_length_le kvs' a.2 (.bool true); omega⟩
      rw [stored_keys, hy2, List.take_add_one, hai, List.map_append, List.mem_append]
      simp [or_assoc]
    · rintro Γ₄ _ s k' ⟨m', kvs', rfl, n1, hy2, hyl⟩ S
      have hal1 := hal.1
      repeat (walk_at "w2")
      refine ⟨rfl, Γ₄, _, S, k', _, kvs', rfl, by walk_at "lk", fun k => ?_, by omega⟩
      have hj : r.acts.take avs.length = r.acts := List.take_of_length_le (by omega)
      rw [hy2, hz, hj, List.take_add_one, hr]
      simp [lookL]
  · rintro Γ₅ _ s k ⟨m, kvs, rfl, m1, hz, hzl⟩ S
    repeat (walk_at "w2")
    rename_i S
    refine r_sorted_dict S (R.deeper _).hh (S.at' (.head _)) hd (by omega) ?_
    have hnd := DO.nodup (S.at' (.head _))
    walk_at "clr"; intro Γ₆ s b us ms S k₆ hb hu hp hsrt
    refine ⟨Γ₆, _, S, by walk_at "sub", b, us, ms, rfl, hb, hu, hp.nodup_iff.mpr hnd, hsrt, fun k => ?_, by have := hp.length_eq; simp at this; omega⟩
    rw [hp.mem_iff, hz, List.take_of_length_le (by rw [hall.1]; exact Nat.le_refl _)]
end



/-! the plain law -/
theorem wlR_wlR {f g : Int → Option Int} (r : RuleD) : wlR g (wlR f r) = wlR (fun k => (f k).bind g) r := by
  unfold wlR
  simp only [List.filterMap_filterMap]
  congr 1
  congr 1
  funext a
  cases h : f a.2 <;> simp
theorem wl_wl (f g : Int → Option Int) (c : CtxD) : wl g (wl f c) = wl (fun k => (f k).bind g) c := by
  unfold wl wlS
  simp only [List.map_map]
  congr 1
  apply List.map_congr_left
  intro q _
  simp only [Function.comp, List.map_map]
  congr 1
  apply List.map_congr_left
  intro r _
  exact wlR_wlR r
theorem wlR_id {f : Int → Option Int} {r : RuleD} (h : ∀ a ∈ r.acts, f a.2 = some a.2) : wlR f r = r := by
  unfold wlR
  have : (r.acts.filterMap fun a => (f a.2).map fun n => (a.1, n)) = r.acts := by
    have : ∀ l : List (Int × Int), (∀ a ∈ l, f a.2 = some a.2) → (l.filterMap fun a => (f a.2).map fun n => (a.1, n)) = l := by
      intro l
      induction l with
      | nil => intro _; rfl
      | cons a l ih =>
        intro h
        rw [List.filterMap_cons_some (by rw [h a (.head _)]; rfl), ih fun x hx => h x (.tail _ hx)]
    exact this _ h
  rw [this]
theorem wl_id {f : Int → Option Int} {c : CtxD} (h : ∀ q ∈ c.sets, ∀ r ∈ q.2, ∀ a ∈ r.acts, f a.2 = some a.2) : wl f c = c := by
  unfold wl
  have : c.sets.map (wlS f) = c.sets := by
    have : ∀ l : List (Int × List RuleD), (∀ q ∈ l, ∀ r ∈ q.2, ∀ a ∈ r.acts, f a.2 = some a.2) → l.map (wlS f) = l := by
      intro l
      induction l with
      | nil => intro _; rfl
      | cons q l ih =>
        intro h
        rw [List.map_cons, ih fun x hx => h x (.tail _ hx)]
        congr 1
        unfold wlS
        have hr : ∀ rs : List RuleD, (∀ r ∈ rs, ∀ a ∈ r.acts, f a.2 = some a.2) → rs.map (wlR f) = rs := by
          intro rs
          induction rs with
          | nil => intro _; rfl
          | cons r rs ih2 => intro h; rw [List.map_cons, wlR_id (h r (.head _)), ih2 fun x hx => h x (.tail _ hx)]
        rw [hr q.2 (h q (.head _))]
    exact this _ h
  rw [this]
theorem getK_map {f : Int → Option Int} (kss : List (Int × List RuleD)) (k : Int) : getK (kss.map (wlS f)) k = (getK kss k).map fun rs => rs.map (wlR f) := by
  unfold getK
  induction kss with
  | nil => rfl
  | cons q r ih =>
    rw [List.map_cons, List.find?_cons, List.find?_cons]
    by_cases e : q.1 = k
    · rw [decide_eq_true e, decide_eq_true (show (wlS f q).1 = k from e)]; rfl
    · rw [decide_eq_false e, decide_eq_false (show ¬ (wlS f q).1 = k from e)]; exact ih
theorem rulesOf_wl (f : Int → Option Int) (kss : List (Int × List RuleD)) : rulesOf (kss.map (wlS f)) = (rulesOf kss).map (wlR f) := by
  unfold rulesOf
  have : (kss.map (wlS f)).map (·.1) = kss.map (·.1) := by rw [List.map_map]; rfl
  rw [this, List.map_flatMap]
  congr 1
  funext k
  unfold rsAt
  rw [getK_map]
  cases getK kss k <;> rfl
theorem lookL_wl (f : Int → Option Int) (rs : List RuleD) (k : Int) : k ∈ lookL (rs.map (wlR f)) ↔ ∃ a ∈ lookL rs, f a = some k := by
  unfold lookL wlR
  constructor
  · intro h
    obtain ⟨r, hr, h⟩ := List.mem_flatMap.mp h
    obtain ⟨r0, hr0, rfl⟩ := List.mem_map.mp hr
    obtain ⟨a, ha, rfl⟩ := List.mem_map.mp h
    obtain ⟨a0, ha0, h1⟩ := List.mem_filterMap.mp ha
    obtain ⟨n, hn, rfl⟩ := Option.map_eq_some_iff.mp h1
    exact ⟨a0.2, List.mem_flatMap.mpr ⟨r0, hr0, List.mem_map_of_mem ha0⟩, hn⟩
  · rintro ⟨a, ha, hf⟩
    obtain ⟨r0, hr0, h⟩ := List.mem_flatMap.mp ha
    obtain ⟨a0, ha0, rfl⟩ := List.mem_map.mp h
    refine List.mem_flatMap.mpr ⟨_, List.mem_map_of_mem hr0, List.mem_map.mpr ⟨(a0.1, k), List.mem_filterMap.mpr ⟨a0, ha0, by rw [hf]; rfl⟩, rfl⟩⟩
/-- what goes through both -/
def thr (q1 q2 : List (Int × Int)) (ks : List Int) : List (Int × Int) := ks.filterMap fun k => ((getK q1 k).bind (getK q2)).map fun n => (k, n)
theorem getK_thr {g : Int → Option Int} (k : Int) : ∀ ks : List Int, getK (ks.filterMap fun k => (g k).map fun n => (k, n)) k = if k ∈ ks then g k else none
  | [] => rfl
  | x :: r => by
    have ih := getK_thr (g := g) k r
    cases hx : g x with
    | none =>
      rw [List.filterMap_cons_none (by rw [hx]; rfl), ih]
      by_cases e : k = x
      · subst e; simp [hx]
      · simp [e]
    | some n =>
      rw [List.filterMap_cons_some (by rw [hx]; rfl)]
      by_cases e : k = x
      · subst e; unfold getK; simp [hx]
      · have e' : ¬ x = k := fun z => e z.symm
        have : getK ((x, n) :: (r.filterMap fun k => (g k).map fun n => (k, n))) k = getK (r.filterMap fun k => (g k).map fun n => (k, n)) k := by
          unfold getK; rw [List.find?_cons, decide_eq_false e']
        rw [this, ih]
        simp [e]
theorem getK_none {α : Type} {qs : List (Int × α)} {k : Int} (h : k ∉ qs.map (·.1)) : getK qs k = none := by
  unfold getK
  rw [Option.map_eq_none_iff, List.find?_eq_none]
  intro q hq hk
  exact h (List.mem_map.mpr ⟨q, hq, of_decide_eq_true hk⟩)
theorem getK_thr' (q1 q2 : List (Int × Int)) (k : Int) : getK (thr q1 q2 (q1.map (·.1))) k = (getK q1 k).bind (getK q2) := by
  unfold thr
  rw [getK_thr]
  split
  · rfl
  · rename_i h; rw [getK_none h]; rfl
theorem thr_keys {g : Int → Option Int} : ∀ ks : List Int, ks.Nodup → ((ks.filterMap fun k => (g k).map fun n => (k, n)).map (·.1)).Nodup ∧ ∀ x ∈ (ks.filterMap fun k => (g k).map fun n => (k, n)).map (·.1), x ∈ ks
  | [], _ => by simp
  | x :: r, h => by
    obtain ⟨h1, h2⟩ := List.nodup_cons.mp h
    obtain ⟨a, b⟩ := thr_keys (g := g) r h2
    cases hx : g x with
    | none => rw [List.filterMap_cons_none (by rw [hx]; rfl)]; exact ⟨a, fun y hy => .tail _ (b y hy)⟩
    | some n =>
      rw [List.filterMap_cons_some (by rw [hx]; rfl), List.map_cons]
      refine ⟨List.nodup_cons.mpr ⟨fun hm => h1 (b x hm), a⟩, fun y hy => ?_⟩
      rcases List.mem_cons.mp hy with rfl | hy
      · exact .head _
      · exact .tail _ (b y hy)
def idq (n : Nat) : List (Int × Int) := (List.range n).map fun i => (((0 + (i : Nat) * 1 : Int)), ((0 + (i : Nat) * 1 : Int)))
theorem idq_keys (n : Nat) : (idq n).map (·.1) = (List.range n).map fun i => (0 + (i : Nat) * 1 : Int) := by unfold idq; rw [List.map_map]; rfl
theorem idq_nodup (n : Nat) : ((idq n).map (·.1)).Nodup := by
  rw [idq_keys]
  refine List.pairwise_map.mpr (List.nodup_range.imp fun h => ?_)
  intro e; apply h; omega
theorem idq_get {n : Nat} {k : Int} (h0 : 0 ≤ k) (h : k < n) : getK (idq n) k = some k := by
  have hm : k ∈ (idq n).map (·.1) := by rw [idq_keys]; exact List.mem_map.mpr ⟨k.toNat, by simp; omega, by omega⟩
  obtain ⟨m, h1, h2⟩ := getK_mem hm
  obtain ⟨i, _, hi⟩ := List.mem_map.mp h2
  cases hi
  exact h1
theorem nodup_eq {xs ys : List Int} (hx : xs.Nodup) (hy : ys.Nodup) (h : ∀ k, k ∈ xs ↔ k ∈ ys) (sx : xs.Pairwise (· ≤ ·)) (sy : ys.Pairwise (· ≤ ·)) : xs = ys :=
  sorted_eq ((List.perm_ext_iff_of_nodup hx hy).mpr fun {a} => h a) sx sy
def fnBody (K : Frag) (a : Addr) : Option (List Stmt × Scope) := match K.lookup a with
  | some ⟨_, _, .func fd, _⟩ => (match fd.body with | .stmts b => some (b, fd.scope) | _ => none)
  | _ => none



section
variable {w : World} {e : Ent} {Γ : Heap} {s : Shared} {own own' : Own} {A : Around} {E : Value → Shared → Prop} {l L fa : Addr} {vs : List Value} {ns : List Int} {cdv : Value}

theorem shaped_of {n : Nat} {d : PyData} (h : Shp n d) (hn : n ≤ 64) : PySem.SeqAt.shaped d = true := by
  unfold PySem.SeqAt.shaped
  rw [h.1, decide_eq_true (Nat.le_trans h.2 hn)]; rfl
theorem r_neTD {n m : Nat} {v v' : Value} {d : PyData} {Q : Value → Shared → Prop} (S : St w e Γ own s) (h1 : TD Γ n v d) (h2 : TD Γ m v' d) (hn : n ≤ 64) (hm : m ≤ 64) (R : Room A 0) (h : Q (.bool false) s) : wpAny (model pg w) A (compareOp .NotEq v v') Q E s :=
  PySem.SeqAt.compareNe_shaped (Reads.keeps S.see h1.1) (Reads.keeps S.see h2.1) (shaped_of h1.2 hn) (shaped_of h2.2 hm) (by have := R.un; omega) (by rw [PySem.SeqAt.eqv_refl d h1.2.1]; exact h)
theorem r_eqTD {n m : Nat} {v v' : Value} {d : PyData} {Q : Value → Shared → Prop} (S : St w e Γ own s) (h1 : TD Γ n v d) (h2 : TD Γ m v' d) (hn : n ≤ 64) (hm : m ≤ 64) (R : Room A 0) (h : Q (.bool true) s) : wpAny (model pg w) A (compareOp .Eq v v') Q E s :=
  PySem.SeqAt.compareEq_shaped (Reads.keeps S.see h1.1) (Reads.keeps S.see h2.1) (shaped_of h1.2 hn) (shaped_of h2.2 hm) (by have := R.un; omega) (by rw [PySem.SeqAt.eqv_refl d h1.2.1]; exact h)
theorem get_of {kvs : List (Int × Value)} {qs : List (Int × Int)} (hp : intPairs' qs kvs) {k n : Int} {t : Tok} (h : valueAt kvs k = some (.int n t)) : getK qs k = some n := by
  have hg := hp.get (k := k)
  cases hk : getK qs k with
  | none => rw [hk] at hg; rw [show valueAt kvs k = none from hg] at h; cases h
  | some m => rw [hk] at hg; obtain ⟨u, hu⟩ := hg; rw [hu] at h; cases h; rfl

def RowV (Γ : Heap) (v : Value) (r : RuleD) : Prop := ∃ t, v = .ref t ∧ IsTpl Γ t [r.back, r.inside, r.ahead]
theorem RowV.mono {Γ Γ' : Heap} {v : Value} {r : RuleD} (h : RowV Γ v r) (k : Sub Γ Γ') : RowV Γ' v r := let ⟨t, a, b⟩ := h; ⟨t, a, b.mono k⟩
theorem r_eqRows {a b : Addr} {vs us : List Value} {rs rs' : List RuleD} {Q : Value → Shared → Prop} (S : St w e Γ own s) (ha : IsLst Γ a vs) (hb : IsLst Γ b us) (h1 : AllAt (RowV Γ) vs rs) (h2 : AllAt (RowV Γ) us rs')
    (hrs : rs.map (fun r => (r.back, r.inside, r.ahead)) = rs'.map (fun r => (r.back, r.inside, r.ahead))) (R : Room A 0) (h : Q (.bool true) s) : wpAny (model pg w) A (compareOp .Eq (.ref a) (.ref b)) Q E s := by
  have hlen : vs.length = us.length := by
    rw [h1.1, h2.1]
    have := congrArg List.length hrs
    simpa using this
  have hu := R.un
  refine PySem.SeqAt.eq_listAt (e := fun _ => true) (LP.list (S.at ha)) (LP.list (S.at hb)) (by simpa using hlen) (by omega) (fun j hj1 hj2 => ?_) ?_
  · have hj1' : j < vs.length := by simpa using hj1
    have hj2' : j < us.length := by simpa using hj2
    obtain ⟨r1, hr1, t1, e1, ht1⟩ := h1.2 j _ (List.getElem?_eq_getElem hj1')
    obtain ⟨r2, hr2, t2, e2, ht2⟩ := h2.2 j _ (List.getElem?_eq_getElem hj2')
    have hrr : (r1.back, r1.inside, r1.ahead) = (r2.back, r2.inside, r2.ahead) := by
      have := congrArg (fun l => l[j]?) hrs
      simp only [List.getElem?_map, hr1, hr2, Option.map_some] at this
      exact Option.some.inj this
    have eb : r1.back = r2.back := congrArg (·.1) hrr
    have ei : r1.inside = r2.inside := congrArg (·.2.1) hrr
    have ea : r1.ahead = r2.ahead := congrArg (·.2.2) hrr
    rw [← eb, ← ei, ← ea] at ht2
    have g1 : vs.toArray[j] = .ref t1 := by simpa using e1
    have g2 : us.toArray[j] = .ref t2 := by simpa using e2
    rw [g1, g2]
    by_cases ht : t1 = t2
    · rw [ht]; exact PySem.SeqAt.EqAt.same _
    · refine PySem.SeqAt.EqAt.of_refs ht ?_
      have := PySem.SeqAt.RcAt.tuples (A := A.in1) (e := fun _ => true) (TP.tup (S.at ht1)) (TP.tup (S.at ht2)) (by show A.units + 1 < cLine; omega) (fun i hi1 hi2 => PySem.SeqAt.EqAt.same _)
      have e3 : ((List.range 3).all fun _ => true) = true := by decide
      simpa [e3] using this
  · have : (List.range vs.toArray.size).all (fun _ => true) = true := by simp
    rw [this]; exact h

set_option maxHeartbeats 16000000 in
theorem law_body {body : List Stmt} {scope : Scope} (hb : fnBody (KF w) 254 = some (body, scope)) (R : Room A 12) (hW : e.W = []) (hl : At Γ l (LO vs)) (hi : IntsAre vs ns) (hz : vs.length ≤ 63)
    (S : St w e Γ [(L, NsO (upd m0 "script" (.ref l))), (L + 2, CellO none), (L + 1, CellO none)] s) :
    wpAny (model pg w) A (execs body (envOfC "law" scope L fa cdv)) (fun fl s' => fl = .ret (.bool true) ∧ ∃ Γ' own', St w e Γ' own' s') (fun _ _ => False) s := by
  have hb' : fnBody (KF w) 254 = some (_, _) := rfl
  rw [hb'] at hb
  have h1 := congrArg Prod.fst (Option.some.inj hb)
  have h2 := congrArg Prod.snd (Option.some.inj hb)
  dsimp only at h1 h2
  subst h1 h2
  clear hb hb'
  show wpAny _ _ (execs (_ :: _) _) _ _ _
  repeat (walk_at "w2")
  refine c_pen (by assumption) (by walk_at "room") hl hi hz ?_
  walk_at "clr"; intro Γ₁ s p scr S k₁ hscr
  repeat (walk_at "w2")
  refine c_table (by assumption) (by walk_at "scr") (by walk_at "up") (by walk_at "room") (by omega) ?_
  walk_at "clr"; intro Γ₂ s tv c S k₂ hc hok
  obtain ⟨xt, ft, sv, rfl, hxt, _⟩ := id hc
  repeat (walk_at "w2")
  refine c_told (by assumption) (by walk_at "room") hc ?_
  walk_at "clr"; intro Γ₃ s bv S k₃ hbv
  repeat (walk_at "w2")
  refine Assign_Tuple ?_
  repeat (walk_at "w2")
  refine c_dict (by assumption) (by walk_at "scr") (by walk_at "up") (by walk_at "room") (by omega) ?_
  walk_at "clr"; intro Γ₄ s ov q1 S k₄ hq1 hb1 hl1
  repeat (walk_at "w2")
  refine c_dict (by assumption) (by walk_at "scr") (by walk_at "up") (by walk_at "room") (by omega) ?_
  walk_at "clr"; intro Γ₅ s ov2 q2 S k₅ hq2 hb2 hl2
  obtain ⟨d1, kv1, rfl, hd1, hp1, hn1⟩ := id hq1
  obtain ⟨d2, kv2, rfl, hd2, hp2, hn2⟩ := id hq2
  repeat (walk_at "w2")
  refine r_newTuple (by assumption) (by simp) ?_
  walk_at "clr"; intro Γ₆ s tt S k₆ htt
  refine r_pair S R.hh htt ?_
  walk_at "clr"; intro s S
  repeat (walk_at "w2")
  rename_i S
  have S2 := S.less (own' := [(L, NsO (upd (upd (upd (upd m0 "script" (.ref l)) "pen" (.ref p)) "table" (.ref xt)) "before" bv)), (L + 2, CellO (some (.ref d2))), (L + 1, CellO (some (.ref d1)))]) (List.sublist_cons_self _ _) (fun y hy => by rw [hW] at hy; cases hy)
  clear S
  have S := S2
  clear S2
  have hd1' : IsDct w Γ₆ d1 kv1 := ⟨hd1.1.mono (by walk_at "sub"), hd1.2⟩
  have hd2' : IsDct w Γ₆ d2 kv2 := ⟨hd2.1.mono (by walk_at "sub"), hd2.2⟩
  refine r_ListComp R.hh (by rfl) ?_
  repeat (walk_at "w2")
  rename_i S
  refine i_dict S hd1' fun it s₂ HI => ⟨e, Γ₆, _, _, _, fun i ys Γ' own' => own' = [(L, NsO (upd (upd (upd (upd m0 "script" (.ref l)) "pen" (.ref p)) "table" (.ref xt)) "before" bv)), (L + 2, CellO (some (.ref d2))), (L + 1, CellO (some (.ref d1)))] ∧ AllAt (ActAt Γ') ys (thr q1 q2 ((q1.map (·.1)).take i)),
    HI, by have := hp1.1; omega, ⟨rfl, .nil⟩, ?_, ?_, ?_⟩
  · rintro _ _ _ _ _ y hy
    rw [hW] at hy; cases hy
  · rintro i v ys Γ' _ C m D J s E' hi' hP hys k ⟨rfl, hz⟩ S
    obtain ⟨k0, x0, t0, hk0, rfl⟩ := hP
    obtain ⟨n1, tn1, hq1i, rfl⟩ := hp1.2 i k0 x0 hk0
    have hv1 : valueAt kv1 k0 = some (.int n1 tn1) := valueAt_of_get (DO.nodup hd1.1) hk0
    have hg1 : getK q1 k0 = some n1 := get_of hp1 hv1
    have hki : (q1.map (·.1))[i]? = some k0 := by simp [hq1i]
    repeat (walk_at "w2")
    rename_i S
    refine r_dictItem S (S.at (hd1'.1.mono (by walk_at "sub"))) hv1 ?_
    walk_at "clr"; intro s S
    repeat (walk_at "w2")
    rename_i S
    refine r_in S (S.at (hd2'.1.mono (by walk_at "sub"))) hd2.2 ?_
    walk_at "clr"; intro s S
    have hg := hp2.get (k := n1)
    cases hk : getK q2 n1 with
    | none =>
      rw [hk] at hg
      rw [show valueAt kv2 n1 = none from hg, Option.isSome_none]
      repeat (walk_at "w2")
      refine ⟨Γ', _, _, by assumption, Sub.rfl', rfl, ?_⟩
      rw [List.take_add_one, hki]
      unfold thr at hz ⊢
      rw [List.filterMap_append]
      simpa [hg1, hk] using hz
    | some n2 =>
      rw [hk] at hg
      obtain ⟨tn2, hg⟩ := hg
      rw [hg, Option.isSome_some]
      repeat (walk_at "w2")
      rename_i S
      refine r_dictItem S (S.at (hd1'.1.mono (by walk_at "sub"))) hv1 ?_
      walk_at "clr"; intro s S
      repeat (walk_at "w2")
      rename_i S
      refine r_dictItem S (S.at (hd2'.1.mono (by walk_at "sub"))) hg ?_
      walk_at "clr"; intro s S
      repeat (walk_at "w2")
      refine r_newTuple (by assumption) (by simp) ?_
      walk_at "clr"; intro Γ₇ s t7 S k₇ ht7
      refine ⟨Γ₇, _, _, S, k₇, rfl, ?_⟩
      rw [List.take_add_one, hki]
      have := (hz.weak fun _ _ z => ActAt.mono z k₇).snoc (p := (k0, n2)) ⟨t7, _, _, rfl, ht7⟩
      unfold thr at this ⊢
      rw [List.filterMap_append]
      simpa [hg1, hk] using this
  rintro Γ₇ _ a7 ys s k₇ ⟨Γ7', k7', rfl, hz⟩ hyl ha7 S
  rw [List.take_of_length_le (by rw [List.length_map, hp1.1]; exact Nat.le_refl _)] at hz
  have hz := hz.weak fun _ _ z => ActAt.mono z k7'
  obtain ⟨kv3, hP3, hkk3, hkl3, hkv3⟩ := PairList.of hz
  repeat (walk_at "w2")
  refine r_dict (by assumption) R.hh (by walk_at "fz") hP3 (by have := hp1.1; omega) ?_
  walk_at "clr"; intro Γ₈ s d3 S k₈ hd3
  have hn3 : IsNum w Γ₈ (.ref d3) (thr q1 q2 (q1.map (·.1))) := num_of hd3 hkk3 hkl3 hkv3 (thr_keys _ hn1).1
  repeat (walk_at "w2")
  refine c_wl (by assumption) (by walk_at "room") (hc.mono (by walk_at "sub")) (hq1.mono (by walk_at "sub")) ?_
  walk_at "clr"; intro Γ₉ s fv S k₉ hcf
  obtain ⟨xf, ff, fsv, rfl, hxf, _⟩ := id hcf
  repeat (walk_at "w2")
  refine wpAny_If ?_
  repeat (walk_at "w2")
  refine c_wl (by assumption) (by walk_at "room") hcf (hq2.mono (by walk_at "sub")) ?_
  walk_at "clr"; intro Γ₁₀ s gv S k₁₀ hcg
  obtain ⟨xg, fg, gsv, rfl, hxg, _⟩ := id hcg
  repeat (walk_at "w2")
  refine c_told (by assumption) (by walk_at "room") hcg ?_
  walk_at "clr"; intro Γ₁₁ s w1 S k₁₁ hw1
  repeat (walk_at "w2")
  refine c_wl (by assumption) (by walk_at "room") (hc.mono (by walk_at "sub")) (hn3.mono (by walk_at "sub")) ?_
  walk_at "clr"; intro Γ₁₂ s hv S k₁₂ hch
  obtain ⟨xh, fh, hsv, rfl, hxh, _⟩ := id hch
  repeat (walk_at "w2")
  refine c_told (by assumption) (by walk_at "room") hch ?_
  walk_at "clr"; intro Γ₁₃ s w2 S k₁₃ hw2
  have heq : wl (getK q2) (wl (getK q1) c) = wl (getK (thr q1 q2 (q1.map (·.1)))) c := by
    rw [wl_wl]; congr 1; funext k; exact (getK_thr' q1 q2 k).symm
  rw [heq] at hw1
  refine r_neTD S (hw1.mono (by walk_at "sub")) hw2 (by omega) (by omega) (R.le (by omega)) ?_
  repeat (walk_at "w2")
  refine wpAny_If ?_
  repeat (walk_at "w2")
  refine r_ListComp R.hh (by rfl) ?_
  repeat (walk_at "w2")
  refine r_range (by assumption) ?_
  walk_at "clr"; intro Γ₁₄ s ra t u v S k₁₄ hra
  rw [show (70 : Int) = ((70 : Nat) : Int) from rfl] at hra
  refine i_range S hra (by omega) fun it s₂ HI => ⟨e, Γ₁₄, _, _, _, fun i ys Γ' own' => own' = [(L, NsO (upd (upd (upd (upd (upd (upd m0 "script" (.ref l)) "pen" (.ref p)) "table" (.ref xt)) "before" bv) "through" (.ref d3)) "first" (.ref xf))), (L + 2, CellO (some (.ref d2))), (L + 1, CellO (some (.ref d1)))] ∧ AllAt (ActAt Γ') ys (idq i),
    HI, by omega, ⟨rfl, .nil⟩, ?_, ?_, ?_⟩
  · rintro _ _ _ _ _ y hy
    rw [hW] at hy; cases hy
  · rintro i v ys Γ' _ C m D J s E' hi' hP hys k ⟨rfl, hz⟩ S
    obtain ⟨ti, rfl⟩ := hP
    repeat (walk_at "w2")
    refine r_newTuple (by assumption) (by simp) ?_
    walk_at "clr"; intro Γ₇ s t7 S k₇ ht7
    refine ⟨Γ₇, _, _, S, k₇, rfl, ?_⟩
    have hi1 : idq (i + 1) = idq i ++ [(0 + (i : Int) * 1, 0 + (i : Int) * 1)] := by unfold idq; rw [List.range_succ, List.map_append]; rfl
    rw [hi1]
    exact (hz.weak fun _ _ z => ActAt.mono z k₇).snoc ⟨t7, _, _, rfl, ht7⟩
  rintro Γ₁₅ _ a15 ys s k₁₅ ⟨Γ15', k15', rfl, hz⟩ hyl ha15 S
  have hz := hz.weak fun _ _ z => ActAt.mono z k15'
  obtain ⟨kv4, hP4, hkk4, hkl4, hkv4⟩ := PairList.of hz
  repeat (walk_at "w2")
  refine r_dict (by assumption) R.hh (by walk_at "fz") hP4 (by omega) ?_
  walk_at "clr"; intro Γ₁₆ s d4 S k₁₆ hd4
  have hn4 : IsNum w Γ₁₆ (.ref d4) (idq 70) := num_of hd4 hkk4 hkl4 hkv4 (idq_nodup 70)
  repeat (walk_at "w2")
  refine c_wl (by assumption) (by walk_at "room") (hc.mono (by walk_at "sub")) hn4 ?_
  walk_at "clr"; intro Γ₁₇ s iv S k₁₇ hci
  obtain ⟨xi, fi, isv, rfl, hxi, _⟩ := id hci
  repeat (walk_at "w2")
  refine c_told (by assumption) (by walk_at "room") hci ?_
  walk_at "clr"; intro Γ₁₈ s w3 S k₁₈ hw3
  repeat (walk_at "w2")
  rename_i S
  have heq2 : wl (getK (idq 70)) c = c := wl_id fun q hq r hr a ha => idq_get (hok q hq r hr a ha).1 (by have := (hok q hq r hr a ha).2; omega)
  rw [heq2] at hw3
  refine r_neTD S hw3 (hbv.mono (by walk_at "sub")) (by omega) (by omega) (R.le (by omega)) ?_
  repeat (walk_at "w2")
  refine wpAny_If ?_
  repeat (walk_at "w2")
  refine c_lookups (by assumption) (by walk_at "room") (hcf.mono (by walk_at "sub")) ?_
  walk_at "clr"; intro Γ₁₉ s la lavs ms1 S k₁₉ hla hlai hnd1 hs1 hm1 hl32
  repeat (walk_at "w2")
  refine r_ListComp R.hh (by rfl) ?_
  repeat (walk_at "w2")
  refine c_lookups (by assumption) (by walk_at "room") (hc.mono (by walk_at "sub")) ?_
  walk_at "clr"; intro Γ₂₀ s lb lbvs ms0 S k₂₀ hlb hlbi hnd0 hs0 hm0 hl320
  have hlbl := hlbi.length
  refine i_list S hlb fun it s₂ HI => ⟨e, Γ₂₀, _, _, _, fun i ys Γ' own' => own' = [(L, NsO (upd (upd (upd (upd (upd (upd m0 "script" (.ref l)) "pen" (.ref p)) "table" (.ref xt)) "before" bv) "through" (.ref d3)) "first" (.ref xf))), (L + 2, CellO (some (.ref d2))), (L + 1, CellO (some (.ref d1)))] ∧ IntsAre ys ((ms0.take i).filterMap (getK q1)),
    HI, by omega, ⟨rfl, .nil⟩, ?_, ?_, ?_⟩
  · rintro _ _ _ _ _ y hy
    rw [hW] at hy; cases hy
  · rintro i v ys Γ' _ C m D J s E' hi' hP hys k ⟨rfl, hz⟩ S
    obtain ⟨k0, t0, hk0, rfl⟩ := ints_at hlbi hP
    have hg := hp1.get (k := k0)
    repeat (walk_at "w2")
    rename_i S
    refine r_in S (S.at (hd1'.1.mono (by walk_at "sub"))) hd1.2 ?_
    walk_at "clr"; intro s S
    cases hk : getK q1 k0 with
    | none =>
      rw [hk] at hg
      rw [show valueAt kv1 k0 = none from hg, Option.isSome_none]
      repeat (walk_at "w2")
      refine ⟨Γ', _, _, by assumption, Sub.rfl', rfl, ?_⟩
      rw [List.take_add_one, hk0, List.filterMap_append]
      simpa [hk] using hz
    | some n2 =>
      rw [hk] at hg
      obtain ⟨tn2, hg⟩ := hg
      rw [hg, Option.isSome_some]
      repeat (walk_at "w2")
      rename_i S
      refine r_dictItem S (S.at (hd1'.1.mono (by walk_at "sub"))) hg ?_
      walk_at "clr"; intro s S
      refine ⟨Γ', _, _, S, Sub.rfl', rfl, ?_⟩
      rw [List.take_add_one, hk0, List.filterMap_append]
      have := ints_snoc (k := n2) (t := tn2) hz
      simpa [hk] using this
  rintro Γ₂₁ _ a21 ys s k₂₁ ⟨Γ21', k21', rfl, hz⟩ hyl ha21 S
  rw [List.take_of_length_le (by omega)] at hz
  repeat (walk_at "w2")
  refine r_set (by assumption) R.hh (by walk_at "al") hz (by omega) ?_
  walk_at "clr"; intro Γ₂₂ s sa S k₂₂ hsa
  repeat (walk_at "w2")
  obtain ⟨so, hso, ks, hsets, hsnd, hsmem, hslen⟩ := hsa
  rename_i S
  refine r_sorted_set (ks := ks) S R.hh (S.at ⟨so, hso, hsets⟩) (by have := hz.length; omega) ?_
  walk_at "clr"; intro Γ₂₃ s sb sbvs ms2 S k₂₃ hsb hsbi hsp hss
  repeat (walk_at "w2")
  rename_i S
  have hms : ms1 = ms2 := nodup_eq hnd1 (hsp.nodup_iff.mpr hsnd) (fun k => by
    rw [hm1, hsp.mem_iff, hsmem, List.take_length, List.mem_filterMap]
    show k ∈ lookL (rulesOf (c.sets.map (wlS (getK q1)))) ↔ _
    rw [rulesOf_wl, lookL_wl]
    exact ⟨fun ⟨a, h1, h2⟩ => ⟨a, (hm0 a).mpr h1, h2⟩, fun ⟨a, h1, h2⟩ => ⟨a, (hm0 a).mp h1, h2⟩⟩) hs1 hss
  refine r_neInts (S.at ((hla.mono (by walk_at "sub")).weak fun _ => LP.lo)) (S.at (hsb.weak fun _ => LP.lo)) hlai hsbi (R.le (by omega)) ?_
  rw [decide_eq_false (show ¬ (ms1 ≠ ms2) from fun z => z hms)]
  repeat (walk_at "w2")
  refine r_newDict (by assumption) ?_
  walk_at "clr"; intro s d5 hd5 S
  obtain ⟨Γ₂₄, o5, S', k₂₄, ho5, hDO5⟩ := S.freeze (fun y hy => by rw [hW] at hy; cases hy)
  clear S
  have S := S'
  clear S'
  have hn5 : IsNum w Γ₂₄ (.ref d5) [] := ⟨d5, [], rfl, ⟨⟨o5, ho5, hDO5⟩, hd5⟩, ⟨rfl, fun i k x h => by simp at h⟩, List.nodup_nil⟩
  repeat (walk_at "w2")
  refine c_wl (by assumption) (by walk_at "room") (hc.mono (by walk_at "sub")) hn5 ?_
  walk_at "clr"; intro Γ₂₅ s ev S k₂₅ hcb
  obtain ⟨xb, fb, bsv, rfl, hxb, _⟩ := id hcb
  repeat (walk_at "w2")
  refine wpAny_If ?_
  repeat (walk_at "w2")
  refine c_lookups (by assumption) (by walk_at "room") hcb ?_
  walk_at "clr"; intro Γ₂₆ s lc lcvs ms3 S k₂₆ hlc hlci hnd3 hs3 hm3 hl323
  repeat (walk_at "w2")
  refine r_newList (by assumption) (by simp) ?_
  walk_at "clr"; intro Γ₂₇ s le S k₂₇ hle
  have hms3 : ms3 = [] := by
    cases ms3 with
    | nil => rfl
    | cons x r =>
      have := (hm3 x).mp (.head _)
      have h2 : x ∈ lookL (rulesOf (c.sets.map (wlS (getK [])))) := this
      rw [rulesOf_wl, lookL_wl] at h2
      obtain ⟨a, _, ha⟩ := h2
      cases ha
  subst hms3
  refine r_neInts (S.at ((hlc.mono (by walk_at "sub")).weak fun _ => LP.lo)) (S.at (hle.weak fun _ => LP.lo)) hlci .nil (R.le (by omega)) ?_
  rw [decide_eq_false (show ¬ (([] : List Int) ≠ []) from fun z => z rfl)]
  repeat (walk_at "w2")
  refine c_rules (by assumption) (by walk_at "room") (hcb.mono (by walk_at "sub")) ?_
  walk_at "clr"; intro Γ₂₈ s r1 r1vs S k₂₈ hr1 hr1a hr1l
  repeat (walk_at "w2")
  refine c_rules (by assumption) (by walk_at "room") (hc.mono (by walk_at "sub")) ?_
  walk_at "clr"; intro Γ₂₉ s r2 r2vs S k₂₉ hr2 hr2a hr2l
  repeat (walk_at "w2")
  have hrl : rulesOf (wl (getK []) c).sets = (rulesOf c.sets).map (wlR (getK [])) := rulesOf_wl _ _
  refine r_ite (fun hne => absurd ?_ hne) (fun _ => ?_)
  · have h1 := hr1a.1
    have h2 := hr2a.1
    rw [hrl, List.length_map] at h1
    omega
  repeat (walk_at "w2")
  refine r_AssignComp R.hh (by rfl) (by rfl) ?_
  repeat (walk_at "w2")
  refine c_rules (by assumption) (by walk_at "room") (hc.mono (by walk_at "sub")) ?_
  walk_at "clr"; intro Γ₃₀ s r3 r3vs S k₃₀ hr3 hal hr3l
  refine i_list S hr3 fun it s₂ HI => ⟨e, Γ₃₀, _, _, _, (upd (upd (upd (upd (upd (upd (upd m0 "script" (.ref l)) "pen" (.ref p)) "table" (.ref xt)) "before" bv) "through" (.ref d3)) "first" (.ref xf)) "bare" (.ref xb)), fun rw => [(L, NsO (upd (upd (upd (upd (upd (upd (upd (upd m0 "script" (.ref l)) "pen" (.ref p)) "table" (.ref xt)) "before" bv) "through" (.ref d3)) "first" (.ref xf)) "bare" (.ref xb)) "rows" (.ref rw))), (L + 2, CellO (some (.ref d2))), (L + 1, CellO (some (.ref d1)))], fun i ys Γ' => AllAt (RowV Γ') ys ((rulesOf c.sets).take i),
    HI, by omega, .nil, ?_, ?_, fun a => .head, ?_⟩
  · intro y hy
    rw [hW] at hy; cases hy
  · rintro i v ys Γ' _ C m D J s E' hi' hP hys k ⟨rfl, hz⟩ S
    obtain ⟨r, hr, hrule⟩ := hal.at hP
    obtain ⟨xr, av, rfl, hxr, _, hbk, hin, hah⟩ := hrule.mono k
    have hjb : handedIn r.back = true := hbk.ref
    have hji : handedIn r.inside = true := hin.ref
    have hja : handedIn r.ahead = true := hah.ref
    repeat (walk_at "w2")
    refine r_newTuple (by assumption) (by simp) ?_
    walk_at "clr"; intro Γt s tr S kt htr
    have hz : AllAt (RowV Γ') ys ((rulesOf c.sets).take i) := hz
    refine ⟨Γt, _, _, S, kt, rfl, ?_⟩
    show AllAt (RowV Γt) _ ((rulesOf c.sets).take (i + 1))
    rw [List.take_add_one, hr]
    exact (hz.weak fun _ _ z => RowV.mono z kt).snoc ⟨tr, rfl, htr⟩
  rintro Γ₃₁ rw1 ys1 s k₃₁ ⟨Γ31', k31', hz1⟩ hyl1 hrw1 S
  have hz1 : AllAt (RowV Γ31') ys1 ((rulesOf c.sets).take r3vs.length) := hz1
  rw [List.take_of_length_le (by rw [hal.1]; exact Nat.le_refl _)] at hz1
  have hz1 := hz1.weak fun _ _ z => RowV.mono z k31'
  clear hal
  repeat (walk_at "w2")
  refine r_ListComp R.hh (by rfl) ?_
  repeat (walk_at "w2")
  refine c_rules (by assumption) (by walk_at "room") (hcb.mono (by walk_at "sub")) ?_
  walk_at "clr"; intro Γ₃₂ s r4 r4vs S k₃₂ hr4 hal hr4l
  refine i_list S hr4 fun it s₂ HI => ⟨e, Γ₃₂, _, _, _, fun i ys Γ' own' => own' = [(L, NsO (upd (upd (upd (upd (upd (upd (upd (upd m0 "script" (.ref l)) "pen" (.ref p)) "table" (.ref xt)) "before" bv) "through" (.ref d3)) "first" (.ref xf)) "bare" (.ref xb)) "rows" (.ref rw1))), (L + 2, CellO (some (.ref d2))), (L + 1, CellO (some (.ref d1)))] ∧ AllAt (RowV Γ') ys ((rulesOf (wl (getK []) c).sets).take i),
    HI, by omega, ⟨rfl, .nil⟩, ?_, ?_, ?_⟩
  · rintro _ _ _ _ _ y hy
    rw [hW] at hy; cases hy
  · rintro i v ys Γ' _ C m D J s E' hi' hP hys k ⟨rfl, hz⟩ S
    obtain ⟨r, hr, hrule⟩ := hal.at hP
    obtain ⟨xr, av, rfl, hxr, _, hbk, hin, hah⟩ := hrule.mono k
    have hjb : handedIn r.back = true := hbk.ref
    have hji : handedIn r.inside = true := hin.ref
    have hja : handedIn r.ahead = true := hah.ref
    repeat (walk_at "w2")
    refine r_newTuple (by assumption) (by simp) ?_
    walk_at "clr"; intro Γt s tr S kt htr
    refine ⟨Γt, _, _, S, kt, rfl, ?_⟩
    rw [List.take_add_one, hr]
    exact (hz.weak fun _ _ z => RowV.mono z kt).snoc ⟨tr, rfl, htr⟩
  rintro Γ₃₃ _ rw2 ys2 s k₃₃ ⟨Γ33', k33', rfl, hz2⟩ hyl2 hrw2 S
  rw [List.take_of_length_le (by rw [hal.1]; exact Nat.le_refl _)] at hz2
  have hz2 := hz2.weak fun _ _ z => RowV.mono z k33'
  repeat (walk_at "w2")
  rename_i S
  refine r_eqRows S hrw2 (hrw1.mono (by walk_at "sub")) hz2 (hz1.weak fun _ _ z => RowV.mono z (by walk_at "sub")) (by rw [hrl, List.map_map]; rfl) (R.le (by omega)) ?_
  repeat (walk_at "w2")
  refine c_told (by assumption) (by walk_at "room") (hc.mono (by walk_at "sub")) ?_
  walk_at "clr"; intro Γ₃₄ s w5 S k₃₄ hw5
  repeat (walk_at "w2")
  rename_i S
  refine r_eqTD S hw5 (hbv.mono (by walk_at "sub")) (by omega) (by omega) (R.le (by omega)) ?_
  repeat (walk_at "w2")
  exact ⟨rfl, Γ₃₄, _, S⟩
end



theorem law_end {w : World} {s₀ s₁ : Shared} {V : Program} {loose : List Str} {mean : ExcName → Option Value} {mg mb : Str → Option Value} {args : List WData} {h₁ : Heap} {tk : Nat} {fa lst : Addr} {cdv : Value} {vs : List Value} {ns : List Int} {o1 o2 : Obj} {body : List Stmt} {scope : Scope} {A : Around} {E : Value → Shared → Prop}
    (hb : fnBody (KF w) 254 = some (body, scope)) (KX : (KF w).In s₁.heap) (T : Top V loose mean mg mb s₁.heap) (hl : s₁.heap.IsList lst vs.toArray) (hi : IntsAre vs ns) (hlen : ¬ ((63 : Nat) : Int) < ns.length) (hg : s₁.gens = #[])
    (F : Fr s₁.heap s₁.heap.objs.size h₁ (upd m0 "script" (.ref lst))) (N : News s₁.heap s₁.heap.objs.size h₁ [(s₁.heap.objs.size + 1 + 1, o1), (s₁.heap.objs.size + 1, o2)]) (c1 : o1.data = .cell none) (c2 : o2.data = .cell none) (R : Room A 12) (hp : PySem.Challenge.rw_pb0167_01.row.claim.post args (WData.bool true) args = true) :
    wpAny (model pg w) A (execs body (envOfC "law" scope s₁.heap.objs.size fa cdv))
      (fun f s' => GoodW PySem.Challenge.rw_pb0167_01.row.claim (classAt s₀.heap) (ExcName.means s₀.heap) args s₁ (Except.ok (Flow.ret (match f with | Flow.ret v => v | _ => Value.none))) s') E
      { s₁ with heap := h₁, toks := tk } := by
  have N1 := N _ (.head _)
  have N2 := N _ (.tail _ (.head _))
  have S : St w ⟨s₁, [], []⟩ s₁.heap [(s₁.heap.objs.size, NsO (upd m0 "script" (.ref lst))), (s₁.heap.objs.size + 2, CellO none), (s₁.heap.objs.size + 1, CellO none)] { s₁ with heap := h₁, toks := tk } := {
    g := ⟨KX, ⟨mg, T.g⟩, ⟨mb, T.b, T.builtins⟩, T.nolimit⟩
    see := F.keep
    has := fun q hq => by
      rcases List.mem_cons.mp hq with rfl | hq
      · obtain ⟨o, es, ep, a, b, c, d⟩ := F.ns; exact ⟨o, a, es, ep, b, c, d⟩
      rcases List.mem_cons.mp hq with rfl | hq
      · exact ⟨o1, N1.1, c1⟩
      · rw [List.mem_singleton.mp hq]; exact ⟨o2, N2.1, c2⟩
    off := fun a ha => by
      rcases ha with ha | ha
      · rcases List.mem_cons.mp ha with rfl | ha
        · exact get_ge (Nat.le_refl _)
        rcases List.mem_cons.mp ha with rfl | ha
        · exact N1.2.2
        · rw [List.mem_singleton.mp ha]; exact N2.2.2
      · cases ha
    nd := by
      show List.Nodup [s₁.heap.objs.size, s₁.heap.objs.size + 2, s₁.heap.objs.size + 1]
      simp
    keep := fun b o hb _ => F.keep b o hb
    new := fun a ha => by
      rcases List.mem_cons.mp ha with rfl | ha
      · exact .inr (get_ge (Nat.le_refl _))
      rcases List.mem_cons.mp ha with rfl | ha
      · exact .inr N1.2.2
      · rw [List.mem_singleton.mp ha]; exact .inr N2.2.2
    elv := fun a ha => by cases ha
    hlv := fun a ha => by cases ha
    wown := fun a ha => by cases ha
    os := rfl
    gens := rfl }
  have hlen' : vs.length ≤ 63 := by rw [hi.length]; omega
  obtain ⟨o, ho, hc, n, hd⟩ := hl
  refine wpAny_mono (law_body (e := ⟨s₁, [], []⟩) hb R rfl ⟨o, ho, hc, n, hd⟩ hi hlen' S) (fun fl s' hx => ?_) (fun _ _ z => z.elim)
  obtain ⟨rfl, Γ', own', S'⟩ := hx
  exact ⟨.inl ⟨.bool true, _, [], rfl, fun _ => rfl, ReadsW.bool true, hp, fun _ => ⟨List.nodup_nil, fun _ hm => nomatch hm⟩⟩, fun b o e => S'.keep b o e (by simp), S'.os, S'.gens.trans hg⟩
theorem room0 (env : Env) : Room (callerA.deeper env) 12 := ⟨rfl, by show callerA.depth + 1 + 2 * 12 + 10 < recursionLimit; decide, by show callerA.units + 3 + 12 * 12 + 200 < cLine; decide⟩

end Mine

theorem Mine.look1 : looksOpen PySem.Challenge.pw_pb0167_01 = true := by
  rw [PySem.W.Fast.te12908688711261696721]; kernel_rfl
theorem Mine.said1 : PySem.Challenge.rw_pb0167_01.row.wellSaid = true := by
  show OpenRow.wellSaid _ = true
  unfold OpenRow.wellSaid OpenRow.partSaid
  repeat' (with_reducible refine look_both ?_ ?_)
  all_goals (first | ((with_reducible show looksOpen _ = true); exact Mine.look1) | kernel_rfl)
theorem Mine.said0 : PySem.Challenge.rw_pb0167_01.wellSaid = true := by
  show OpenLaw.wellSaid _ = true
  rw [PySem.W.Fast.te9446332074065402090]
  delta PySem.W.Fast.tw9446332074065402090
  repeat' (with_reducible refine look_both ?_ ?_)
  all_goals (first | (rw [← PySem.W.Fast.te17960256430627541270, ← PySem.W.Fast.te2368527892694137696]; exact Mine.said1) | kernel_rfl)
set_option maxHeartbeats 8000000 in
theorem PySem.Challenge.cw_pb0167_01_holds : PySem.Challenge.rw_pb0167_01.Holds := by
  w_on
  refine holds_law Mine.said0 fun said => ?_
  refine holds_open (q := Mine.q) (loose := []) (Xt := Mine.xt0) (XP := XL Mine.q []) (Yf := Mine.hook.obs) (Ya := Mine.hook.val) (YP := Mine.hook.says) (N := 3520) Mine.left0 Mine.hook.of Mine.hook.keeps (fun s e => xl_of s (Bool.and_eq_true_iff.mp e).1) XL.keeps (by rfl) (by rfl) (by rfl) (fun s e => recFacts_of (Bool.and_eq_true_iff.mp e).2) (by rfl) (by first | assumption | decide +kernel) (by decide +kernel) ⟨rfl, rfl, rfl, rfl, rfl, by decide +kernel⟩ ?hw ?hc
  case hw => w_witness2
  intro w s₀ s₁ mg mb G Y fa o pm cd doc dV kV ho hd hcd hD hmg hg args vals as hpre hlay hrd hwl hlo
  have KX := kIn_of Y
  refine Ground.open G ?_
  intro T B D TE TW
  clear D B TE TW
  wrow_args hpre hlay hrd hwl hlo
  refine enter_call ?_
  w_top on
  refine codeAny_mono ?_ (fun _ _ g => GoodW.toG g)
  w_call any ho hd hcd hD T F
  refine Mine.law_end (by exact rfl) (by assumption) (by assumption) (by assumption) (by assumption) (by assumption) (by assumption) (by assumption) (by assumption) (by assumption) (by assumption) ?_ ?_
  · exact Mine.room0 _
  · first | rfl | wrow_post
