import PyProof.Rows.All
import Wide.All
import OpenK.AllK
import Wide.FinOn
import PySem.Challenge.RW_on0188_01
open PySem PySem.W PySem.Spec PySem.Calls PyProof.Rows
set_option Elab.async false
set_option maxRecDepth 100000
set_option maxHeartbeats 8000000
set_option linter.unusedVariables false
namespace Mine
abbrev pg : Program := PySem.Challenge.pw_on0188_01
def pNth : List Stmt → Nat → Stmt
  | [], _ => .Pass ⟨0, 0, 0, 0⟩
  | s :: _, 0 => s
  | _ :: l, i + 1 => pNth l i
def pSub : Stmt → List Stmt
  | .FunctionDef _ _ b _ _ _ _ _ _ _ => b
  | .ClassDef _ _ _ b _ _ _ _ _ _ _ => b
  | _ => []
def pPar : Stmt → Arguments
  | .FunctionDef _ a _ _ _ _ _ _ _ _ => a
  | _ => ⟨[], [], none, [], [], none, []⟩
def pSco : Stmt → Scope
  | .FunctionDef _ _ _ _ _ _ s _ _ _ => s
  | _ => ⟨.function, [], false, false, []⟩
def pSt (i : Nat) : Stmt := pNth pg.main.body i
def pSt2 (i j : Nat) : Stmt := pNth (pSub (pSt i)) j
noncomputable def ob0 (P : Params) : Obj := ⟨(.type "tuple"), none, (.seq #[] 0), #[]⟩
noncomputable def ob1 (P : Params) : Obj := ⟨.none, none, (.fields #[]), #[]⟩
noncomputable def ob2 (P : Params) : Obj := ⟨(.type "code"), none, (.fields #[(.str "<module>" 182), (.str "<module>" 183), (.str "/claim/cut.py" 184), (.int 1 0), (.int 0 0), (.int 0 0), (.int 0 0), (.int 0 0), (.ref 11), (.bool false), (.int 181 0), (.ref 12), .none, .none, .none, .none, (.int 185 0), (.int 1 0), (.str "/claim/cut.py" 186)]), #[]⟩
noncomputable def ob3 (P : Params) : Obj := ⟨(.type "frame"), none, .plain, #[(some (.ref 13)), (some (.ref 3)), (some (.ref 3)), none, (some (.str "__main__" 164)), none, (some (.ref 0))]⟩
noncomputable def ob4 (P : Params) : Obj := ⟨.none, none, (.dict #[⟨(PyData.keyHash P "type.__subclasses__.Exception.0"), (.str "type.__subclasses__.Exception.0" 221), (.int 38 0)⟩, ⟨(PyData.keyHash P "type.__subclasses__.Exception.n"), (.str "type.__subclasses__.Exception.n" 222), (.int 1 0)⟩] 2), #[]⟩
noncomputable def ob5 (P : Params) : Obj := ⟨(.type "dict"), none, (.dict #[⟨(PyData.keyHash P "__name__"), (.str "__name__" 165), (.str "markupmill.sheet" 291)⟩, ⟨(PyData.keyHash P "__doc__"), (.str "__doc__" 166), .none⟩, ⟨(PyData.keyHash P "__package__"), (.str "__package__" 167), .none⟩, ⟨(PyData.keyHash P "__loader__"), (.str "__loader__" 168), (.builtin "__main__.__loader__#opaque")⟩, ⟨(PyData.keyHash P "__spec__"), (.str "__spec__" 169), .none⟩, ⟨(PyData.keyHash P "__annotations__"), (.str "__annotations__" 170), (.ref 6)⟩, ⟨(PyData.keyHash P "__builtins__"), (.str "__builtins__" 171), (.ref 4)⟩, ⟨(PyData.keyHash P "__file__"), (.str "__file__" 173), (.str "/claim/cut.py" 172)⟩, ⟨(PyData.keyHash P "__cached__"), (.str "__cached__" 174), .none⟩, ⟨(PyData.keyHash P "_wall"), (.str "_wall" 193), (.ref 21)⟩, ⟨(PyData.keyHash P "MarkupError"), (.str "MarkupError" 224), (.ref 38)⟩, ⟨(PyData.keyHash P "TreeFault"), (.str "TreeFault" 240), (.ref 51)⟩, ⟨(PyData.keyHash P "list_above"), (.str "list_above" 252), (.ref 60)⟩, ⟨(PyData.keyHash P "remove"), (.str "remove" 260), (.ref 67)⟩, ⟨(PyData.keyHash P "is_blank"), (.str "is_blank" 269), (.ref 74)⟩, ⟨(PyData.keyHash P "keeps_spaces"), (.str "keeps_spaces" 279), (.ref 81)⟩, ⟨(PyData.keyHash P "blank_texts"), (.str "blank_texts" 290), (.ref 88)⟩, ⟨(PyData.keyHash P "Strip"), (.str "Strip" 341), (.ref 119)⟩] 18), #[]⟩
noncomputable def ob6 (P : Params) : Obj := ⟨.none, none, (.fields #[(.int 1 0), (.int 0 0), (.ref 20), (.int 5 0), (.int 0 0), (.ref 27), (.int 10 0), (.int 0 0), (.ref 47), (.int 13 0), (.int 0 0), (.ref 59), (.int 19 0), (.int 0 0), (.ref 66), (.int 25 0), (.int 0 0), (.ref 73), (.int 27 0), (.int 0 0), (.ref 80), (.int 35 0), (.int 0 0), (.ref 87), (.int 46 0), (.int 0 0), (.ref 94)]), #[]⟩
noncomputable def ob7 (P : Params) : Obj := ⟨(.type "tuple"), none, (.seq #[] 0), #[]⟩
noncomputable def ob8 (P : Params) : Obj := ⟨.none, none, (.fields #[]), #[]⟩
noncomputable def ob9 (P : Params) : Obj := ⟨(.type "tuple"), none, (.seq #[(.str "k" 190)] 0), #[]⟩
noncomputable def ob10 (P : Params) : Obj := ⟨(.type "tuple"), none, (.seq #[] 0), #[]⟩
noncomputable def ob11 (P : Params) : Obj := ⟨.none, none, (.func ⟨"_wall", "_wall", (pPar (pSt 0)), (.stmts (pSub (pSt 0))), (pSco (pSt 0)), 0, [], .none, .none, .none, .none, none, .none, .none, 0⟩), #[]⟩
noncomputable def ob12 (P : Params) : Obj := ⟨(.type "code"), none, (.fields #[(.str "_wall" 187), (.str "_wall" 188), (.str "/claim/cut.py" 189), (.int 1 0), (.int 1 0), (.int 0 0), (.int 0 0), (.int 3 0), (.ref 15), (.bool true), (.int 181 0), (.ref 16), .none, (.ref 17), (.ref 18), (.ref 19), (.int 191 0), (.int 1 0), (.str "/claim/cut.py" 192)]), #[]⟩
noncomputable def ob13 (P : Params) : Obj := ⟨(.type "function"), none, (.func ⟨"_wall", "_wall", (pPar (pSt 0)), (.stmts (pSub (pSt 0))), (pSco (pSt 0)), 3, [], .none, .none, .none, (.str "__main__" 164), none, (.ref 20), .none, 0⟩), #[]⟩
noncomputable def ob14 (P : Params) : Obj := ⟨(.type "tuple"), none, (.seq #[(.type "Exception")] 0), #[]⟩
noncomputable def ob15 (P : Params) : Obj := ⟨(.type "builtin_function_or_method"), none, (.fields #[(.builtin "type.__prepare__"), (.type "type")]), #[]⟩
noncomputable def ob16 (P : Params) : Obj := ⟨(.type "dict"), none, (.dict #[⟨(PyData.keyHash P "__module__"), (.str "__module__" 203), (.str "markupmill.errors" 194)⟩, ⟨(PyData.keyHash P "__qualname__"), (.str "__qualname__" 205), (.str "MarkupError" 204)⟩, ⟨(PyData.keyHash P "__firstlineno__"), (.str "__firstlineno__" 207), (.int 5 206)⟩, ⟨(PyData.keyHash P "__init__"), (.str "__init__" 215), (.ref 35)⟩, ⟨(PyData.keyHash P "__static_attributes__"), (.str "__static_attributes__" 217), (.ref 36)⟩] 5), #[]⟩
noncomputable def ob17 (P : Params) : Obj := ⟨(.type "tuple"), none, (.seq #[] 0), #[]⟩
noncomputable def ob18 (P : Params) : Obj := ⟨.none, none, (.fields #[(.int 7 0), (.int 4 0), (.ref 34)]), #[]⟩
noncomputable def ob19 (P : Params) : Obj := ⟨(.type "code"), none, (.fields #[(.str "MarkupError" 198), (.str "MarkupError" 199), (.str "/claim/cut.py" 200), (.int 5 0), (.int 0 0), (.int 0 0), (.int 0 0), (.int 0 0), (.ref 25), (.bool false), (.int 181 0), (.ref 26), .none, .none, .none, .none, (.int 201 0), (.int 5 0), (.str "/claim/cut.py" 202)]), #[]⟩
noncomputable def ob20 (P : Params) : Obj := ⟨(.type "frame"), none, .plain, #[(some (.ref 27)), (some (.ref 3)), (some (.ref 24)), none, (some (.str "markupmill.errors" 194)), none, (some (.ref 0))]⟩
noncomputable def ob21 (P : Params) : Obj := ⟨(.type "tuple"), none, (.seq #[] 0), #[]⟩
noncomputable def ob22 (P : Params) : Obj := ⟨.none, none, (.fields #[]), #[]⟩
noncomputable def ob23 (P : Params) : Obj := ⟨(.type "tuple"), none, (.seq #[(.str "self" 211), (.str "message" 212)] 0), #[]⟩
noncomputable def ob24 (P : Params) : Obj := ⟨(.type "tuple"), none, (.seq #[] 0), #[]⟩
noncomputable def ob25 (P : Params) : Obj := ⟨.none, none, (.func ⟨"__init__", "MarkupError.__init__", (pPar (pSt2 2 0)), (.stmts (pSub (pSt2 2 0))), (pSco (pSt2 2 0)), 0, [], .none, .none, .none, .none, none, .none, .none, 0⟩), #[]⟩
noncomputable def ob26 (P : Params) : Obj := ⟨(.type "code"), none, (.fields #[(.str "__init__" 208), (.str "MarkupError.__init__" 209), (.str "/claim/cut.py" 210), (.int 7 0), (.int 2 0), (.int 0 0), (.int 0 0), (.int 3 0), (.ref 29), (.bool true), (.int 181 0), (.ref 30), .none, (.ref 31), (.ref 32), (.ref 33), (.int 213 0), (.int 7 0), (.str "/claim/cut.py" 214)]), #[]⟩
noncomputable def ob27 (P : Params) : Obj := ⟨(.type "function"), none, (.func ⟨"__init__", "MarkupError.__init__", (pPar (pSt2 2 0)), (.stmts (pSub (pSt2 2 0))), (pSco (pSt2 2 0)), 3, [], .none, .none, .none, (.str "markupmill.errors" 194), none, (.ref 34), .none, 0⟩), #[]⟩
noncomputable def ob28 (P : Params) : Obj := ⟨(.type "tuple"), none, (.seq #[(.str "message" 216)] 0), #[]⟩
noncomputable def ob29 (P : Params) : Obj := ⟨(.type "dict"), none, (.dict #[⟨(PyData.keyHash P "__module__"), (.str "__module__" 203), (.str "markupmill.errors" 194)⟩, ⟨(PyData.keyHash P "__firstlineno__"), (.str "__firstlineno__" 207), (.int 5 206)⟩, ⟨(PyData.keyHash P "__init__"), (.str "__init__" 215), (.ref 35)⟩, ⟨(PyData.keyHash P "__static_attributes__"), (.str "__static_attributes__" 217), (.ref 36)⟩, ⟨(PyData.keyHash P "__weakref__"), (.str "__weakref__" 219), (.ref 39)⟩, ⟨(PyData.keyHash P "__doc__"), (.str "__doc__" 220), .none⟩] 3), #[]⟩
noncomputable def ob30 (P : Params) : Obj := ⟨(.type "type"), none, (.cls ⟨"MarkupError", [(.type "Exception")], [(.ref 38), (.type "Exception"), (.type "BaseException"), (.type "object")], 37, "MarkupError", true, [], [(.ref 51)], false, none, false⟩), #[(some (.ref 22)), none, (some (.str "MarkupError" 196)), (some (.str "MarkupError" 204)), (some (.builtin "Exception.__new__")), (some (.bool true))]⟩
noncomputable def ob31 (P : Params) : Obj := ⟨(.type "getset_descriptor"), none, (.fields #[(.str "__weakref__" 218), (.ref 38), (.builtin "ExceptionGroup.__weakref__"), .none]), #[]⟩
noncomputable def ob32 (P : Params) : Obj := ⟨(.type "super"), none, (.fields #[(.ref 38), (.ref 38), (.ref 38)]), #[]⟩
noncomputable def ob33 (P : Params) : Obj := ⟨(.type "builtin_function_or_method"), none, (.fields #[(.builtin "object.__init_subclass__"), (.ref 38)]), #[]⟩
noncomputable def ob34 (P : Params) : Obj := ⟨(.type "tuple"), none, (.seq #[(.ref 38)] 0), #[]⟩
noncomputable def ob35 (P : Params) : Obj := ⟨(.type "builtin_function_or_method"), none, (.fields #[(.builtin "type.__prepare__"), (.type "type")]), #[]⟩
noncomputable def ob36 (P : Params) : Obj := ⟨(.type "dict"), none, (.dict #[⟨(PyData.keyHash P "__module__"), (.str "__module__" 232), (.str "markupmill.errors" 194)⟩, ⟨(PyData.keyHash P "__qualname__"), (.str "__qualname__" 234), (.str "TreeFault" 233)⟩, ⟨(PyData.keyHash P "__firstlineno__"), (.str "__firstlineno__" 236), (.int 10 235)⟩, ⟨(PyData.keyHash P "__static_attributes__"), (.str "__static_attributes__" 237), (.ref 49)⟩] 4), #[]⟩
noncomputable def ob37 (P : Params) : Obj := ⟨(.type "tuple"), none, (.seq #[] 0), #[]⟩
noncomputable def ob38 (P : Params) : Obj := ⟨.none, none, (.fields #[]), #[]⟩
noncomputable def ob39 (P : Params) : Obj := ⟨(.type "code"), none, (.fields #[(.str "TreeFault" 227), (.str "TreeFault" 228), (.str "/claim/cut.py" 229), (.int 10 0), (.int 0 0), (.int 0 0), (.int 0 0), (.int 0 0), (.ref 45), (.bool false), (.int 181 0), (.ref 46), .none, .none, .none, .none, (.int 230 0), (.int 10 0), (.str "/claim/cut.py" 231)]), #[]⟩
noncomputable def ob40 (P : Params) : Obj := ⟨(.type "frame"), none, .plain, #[(some (.ref 47)), (some (.ref 3)), (some (.ref 44)), none, (some (.str "markupmill.errors" 194)), none, (some (.ref 0))]⟩
noncomputable def ob41 (P : Params) : Obj := ⟨(.type "tuple"), none, (.seq #[] 0), #[]⟩
noncomputable def ob42 (P : Params) : Obj := ⟨(.type "dict"), none, (.dict #[⟨(PyData.keyHash P "__module__"), (.str "__module__" 232), (.str "markupmill.errors" 194)⟩, ⟨(PyData.keyHash P "__firstlineno__"), (.str "__firstlineno__" 236), (.int 10 235)⟩, ⟨(PyData.keyHash P "__static_attributes__"), (.str "__static_attributes__" 237), (.ref 49)⟩, ⟨(PyData.keyHash P "__doc__"), (.str "__doc__" 238), .none⟩] 2), #[]⟩
noncomputable def ob43 (P : Params) : Obj := ⟨(.type "type"), none, (.cls ⟨"TreeFault", [(.ref 38)], [(.ref 51), (.ref 38), (.type "Exception"), (.type "BaseException"), (.type "object")], 50, "TreeFault", true, [], [], false, none, false⟩), #[(some (.ref 42)), none, (some (.str "TreeFault" 225)), (some (.str "TreeFault" 233)), (some (.builtin "Exception.__new__")), (some (.bool true))]⟩
noncomputable def ob44 (P : Params) : Obj := ⟨(.type "super"), none, (.fields #[(.ref 51), (.ref 51), (.ref 51)]), #[]⟩
noncomputable def ob45 (P : Params) : Obj := ⟨(.type "builtin_function_or_method"), none, (.fields #[(.builtin "object.__init_subclass__"), (.ref 51)]), #[]⟩
noncomputable def ob46 (P : Params) : Obj := ⟨(.type "tuple"), none, (.seq #[] 0), #[]⟩
noncomputable def ob47 (P : Params) : Obj := ⟨.none, none, (.fields #[]), #[]⟩
noncomputable def ob48 (P : Params) : Obj := ⟨(.type "tuple"), none, (.seq #[(.str "tree" 246), (.str "node" 247), (.str "row" 248), (.str "kind" 249)] 0), #[]⟩
noncomputable def ob49 (P : Params) : Obj := ⟨(.type "tuple"), none, (.seq #[] 0), #[]⟩
noncomputable def ob50 (P : Params) : Obj := ⟨.none, none, (.func ⟨"list_above", "list_above", (pPar (pSt 5)), (.stmts (pSub (pSt 5))), (pSco (pSt 5)), 0, [], .none, .none, .none, .none, none, .none, .none, 0⟩), #[]⟩
noncomputable def ob51 (P : Params) : Obj := ⟨(.type "code"), none, (.fields #[(.str "list_above" 243), (.str "list_above" 244), (.str "/claim/cut.py" 245), (.int 13 0), (.int 2 0), (.int 0 0), (.int 0 0), (.int 3 0), (.ref 54), (.bool true), (.int 181 0), (.ref 55), .none, (.ref 56), (.ref 57), (.ref 58), (.int 250 0), (.int 13 0), (.str "/claim/cut.py" 251)]), #[]⟩
noncomputable def ob52 (P : Params) : Obj := ⟨(.type "function"), none, (.func ⟨"list_above", "list_above", (pPar (pSt 5)), (.stmts (pSub (pSt 5))), (pSco (pSt 5)), 3, [], .none, .none, .none, (.str "markupmill.edits" 241), none, (.ref 59), .none, 0⟩), #[]⟩
noncomputable def ob53 (P : Params) : Obj := ⟨(.type "tuple"), none, (.seq #[] 0), #[]⟩
noncomputable def ob54 (P : Params) : Obj := ⟨.none, none, (.fields #[]), #[]⟩
noncomputable def ob55 (P : Params) : Obj := ⟨(.type "tuple"), none, (.seq #[(.str "tree" 256), (.str "node" 257)] 0), #[]⟩
noncomputable def ob56 (P : Params) : Obj := ⟨(.type "tuple"), none, (.seq #[] 0), #[]⟩
noncomputable def ob57 (P : Params) : Obj := ⟨.none, none, (.func ⟨"remove", "remove", (pPar (pSt 6)), (.stmts (pSub (pSt 6))), (pSco (pSt 6)), 0, [], .none, .none, .none, .none, none, .none, .none, 0⟩), #[]⟩
noncomputable def ob58 (P : Params) : Obj := ⟨(.type "code"), none, (.fields #[(.str "remove" 253), (.str "remove" 254), (.str "/claim/cut.py" 255), (.int 19 0), (.int 2 0), (.int 0 0), (.int 0 0), (.int 3 0), (.ref 61), (.bool true), (.int 181 0), (.ref 62), .none, (.ref 63), (.ref 64), (.ref 65), (.int 258 0), (.int 19 0), (.str "/claim/cut.py" 259)]), #[]⟩
noncomputable def ob59 (P : Params) : Obj := ⟨(.type "function"), none, (.func ⟨"remove", "remove", (pPar (pSt 6)), (.stmts (pSub (pSt 6))), (pSco (pSt 6)), 3, [], .none, .none, .none, (.str "markupmill.edits" 241), none, (.ref 66), .none, 0⟩), #[]⟩
noncomputable def ob60 (P : Params) : Obj := ⟨(.type "tuple"), none, (.seq #[] 0), #[]⟩
noncomputable def ob61 (P : Params) : Obj := ⟨.none, none, (.fields #[]), #[]⟩
noncomputable def ob62 (P : Params) : Obj := ⟨(.type "tuple"), none, (.seq #[(.str "text" 266)] 0), #[]⟩
noncomputable def ob63 (P : Params) : Obj := ⟨(.type "tuple"), none, (.seq #[] 0), #[]⟩
noncomputable def ob64 (P : Params) : Obj := ⟨.none, none, (.func ⟨"is_blank", "is_blank", (pPar (pSt 8)), (.stmts (pSub (pSt 8))), (pSco (pSt 8)), 0, [], .none, .none, .none, .none, none, .none, .none, 0⟩), #[]⟩
noncomputable def ob65 (P : Params) : Obj := ⟨(.type "code"), none, (.fields #[(.str "is_blank" 263), (.str "is_blank" 264), (.str "/claim/cut.py" 265), (.int 25 0), (.int 1 0), (.int 0 0), (.int 0 0), (.int 3 0), (.ref 68), (.bool true), (.int 181 0), (.ref 69), .none, (.ref 70), (.ref 71), (.ref 72), (.int 267 0), (.int 25 0), (.str "/claim/cut.py" 268)]), #[]⟩
noncomputable def ob66 (P : Params) : Obj := ⟨(.type "function"), none, (.func ⟨"is_blank", "is_blank", (pPar (pSt 8)), (.stmts (pSub (pSt 8))), (pSco (pSt 8)), 3, [], .none, .none, .none, (.str "markupmill.sheet_words" 261), none, (.ref 73), .none, 0⟩), #[]⟩
noncomputable def ob67 (P : Params) : Obj := ⟨(.type "tuple"), none, (.seq #[] 0), #[]⟩
noncomputable def ob68 (P : Params) : Obj := ⟨.none, none, (.fields #[]), #[]⟩
noncomputable def ob69 (P : Params) : Obj := ⟨(.type "tuple"), none, (.seq #[(.str "tree" 273), (.str "element" 274), (.str "here" 275), (.str "node" 276)] 0), #[]⟩
noncomputable def ob70 (P : Params) : Obj := ⟨(.type "tuple"), none, (.seq #[] 0), #[]⟩
noncomputable def ob71 (P : Params) : Obj := ⟨.none, none, (.func ⟨"keeps_spaces", "keeps_spaces", (pPar (pSt 9)), (.stmts (pSub (pSt 9))), (pSco (pSt 9)), 0, [], .none, .none, .none, .none, none, .none, .none, 0⟩), #[]⟩
noncomputable def ob72 (P : Params) : Obj := ⟨(.type "code"), none, (.fields #[(.str "keeps_spaces" 270), (.str "keeps_spaces" 271), (.str "/claim/cut.py" 272), (.int 27 0), (.int 2 0), (.int 0 0), (.int 0 0), (.int 3 0), (.ref 75), (.bool true), (.int 181 0), (.ref 76), .none, (.ref 77), (.ref 78), (.ref 79), (.int 277 0), (.int 27 0), (.str "/claim/cut.py" 278)]), #[]⟩
noncomputable def ob73 (P : Params) : Obj := ⟨(.type "function"), none, (.func ⟨"keeps_spaces", "keeps_spaces", (pPar (pSt 9)), (.stmts (pSub (pSt 9))), (pSco (pSt 9)), 3, [], .none, .none, .none, (.str "markupmill.sheet_words" 261), none, (.ref 80), .none, 0⟩), #[]⟩
noncomputable def ob74 (P : Params) : Obj := ⟨(.type "tuple"), none, (.seq #[] 0), #[]⟩
noncomputable def ob75 (P : Params) : Obj := ⟨.none, none, (.fields #[]), #[]⟩
noncomputable def ob76 (P : Params) : Obj := ⟨(.type "tuple"), none, (.seq #[(.str "tree" 283), (.str "root" 284), (.str "found" 285), (.str "left" 286), (.str "node" 287)] 0), #[]⟩
noncomputable def ob77 (P : Params) : Obj := ⟨(.type "tuple"), none, (.seq #[] 0), #[]⟩
noncomputable def ob78 (P : Params) : Obj := ⟨.none, none, (.func ⟨"blank_texts", "blank_texts", (pPar (pSt 10)), (.stmts (pSub (pSt 10))), (pSco (pSt 10)), 0, [], .none, .none, .none, .none, none, .none, .none, 0⟩), #[]⟩
noncomputable def ob79 (P : Params) : Obj := ⟨(.type "code"), none, (.fields #[(.str "blank_texts" 280), (.str "blank_texts" 281), (.str "/claim/cut.py" 282), (.int 35 0), (.int 2 0), (.int 0 0), (.int 0 0), (.int 3 0), (.ref 82), (.bool true), (.int 181 0), (.ref 83), .none, (.ref 84), (.ref 85), (.ref 86), (.int 288 0), (.int 35 0), (.str "/claim/cut.py" 289)]), #[]⟩
noncomputable def ob80 (P : Params) : Obj := ⟨(.type "function"), none, (.func ⟨"blank_texts", "blank_texts", (pPar (pSt 10)), (.stmts (pSub (pSt 10))), (pSco (pSt 10)), 3, [], .none, .none, .none, (.str "markupmill.sheet_words" 261), none, (.ref 87), .none, 0⟩), #[]⟩
noncomputable def ob81 (P : Params) : Obj := ⟨(.type "tuple"), none, (.seq #[] 0), #[]⟩
noncomputable def ob82 (P : Params) : Obj := ⟨(.type "builtin_function_or_method"), none, (.fields #[(.builtin "type.__prepare__"), (.type "type")]), #[]⟩
noncomputable def ob83 (P : Params) : Obj := ⟨(.type "dict"), none, (.dict #[⟨(PyData.keyHash P "__module__"), (.str "__module__" 300), (.str "markupmill.sheet" 291)⟩, ⟨(PyData.keyHash P "__qualname__"), (.str "__qualname__" 302), (.str "Strip" 301)⟩, ⟨(PyData.keyHash P "__firstlineno__"), (.str "__firstlineno__" 304), (.int 46 303)⟩, ⟨(PyData.keyHash P "__init__"), (.str "__init__" 314), (.ref 102)⟩, ⟨(PyData.keyHash P "rank"), (.str "rank" 321), (.ref 109)⟩, ⟨(PyData.keyHash P "fits"), (.str "fits" 330), (.ref 116)⟩, ⟨(PyData.keyHash P "__static_attributes__"), (.str "__static_attributes__" 334), (.ref 117)⟩] 7), #[]⟩
noncomputable def ob84 (P : Params) : Obj := ⟨(.type "tuple"), none, (.seq #[] 0), #[]⟩
noncomputable def ob85 (P : Params) : Obj := ⟨.none, none, (.fields #[(.int 48 0), (.int 4 0), (.ref 101), (.int 53 0), (.int 4 0), (.ref 108), (.int 56 0), (.int 4 0), (.ref 115)]), #[]⟩
noncomputable def ob86 (P : Params) : Obj := ⟨(.type "code"), none, (.fields #[(.str "Strip" 295), (.str "Strip" 296), (.str "/claim/cut.py" 297), (.int 46 0), (.int 0 0), (.int 0 0), (.int 0 0), (.int 0 0), (.ref 92), (.bool false), (.int 181 0), (.ref 93), .none, .none, .none, .none, (.int 298 0), (.int 46 0), (.str "/claim/cut.py" 299)]), #[]⟩
noncomputable def ob87 (P : Params) : Obj := ⟨(.type "frame"), none, .plain, #[(some (.ref 94)), (some (.ref 3)), (some (.ref 91)), none, (some (.str "markupmill.sheet" 291)), none, (some (.ref 0))]⟩
noncomputable def ob88 (P : Params) : Obj := ⟨(.type "tuple"), none, (.seq #[] 0), #[]⟩
noncomputable def ob89 (P : Params) : Obj := ⟨.none, none, (.fields #[]), #[]⟩
noncomputable def ob90 (P : Params) : Obj := ⟨(.type "tuple"), none, (.seq #[(.str "self" 308), (.str "uri" 309), (.str "local" 310), (.str "is_stripped" 311)] 0), #[]⟩
noncomputable def ob91 (P : Params) : Obj := ⟨(.type "tuple"), none, (.seq #[] 0), #[]⟩
noncomputable def ob92 (P : Params) : Obj := ⟨.none, none, (.func ⟨"__init__", "Strip.__init__", (pPar (pSt2 12 0)), (.stmts (pSub (pSt2 12 0))), (pSco (pSt2 12 0)), 0, [], .none, .none, .none, .none, none, .none, .none, 0⟩), #[]⟩
noncomputable def ob93 (P : Params) : Obj := ⟨(.type "code"), none, (.fields #[(.str "__init__" 305), (.str "Strip.__init__" 306), (.str "/claim/cut.py" 307), (.int 48 0), (.int 4 0), (.int 0 0), (.int 0 0), (.int 3 0), (.ref 96), (.bool true), (.int 181 0), (.ref 97), .none, (.ref 98), (.ref 99), (.ref 100), (.int 312 0), (.int 48 0), (.str "/claim/cut.py" 313)]), #[]⟩
noncomputable def ob94 (P : Params) : Obj := ⟨(.type "function"), none, (.func ⟨"__init__", "Strip.__init__", (pPar (pSt2 12 0)), (.stmts (pSub (pSt2 12 0))), (pSco (pSt2 12 0)), 3, [], .none, .none, .none, (.str "markupmill.sheet" 291), none, (.ref 101), .none, 0⟩), #[]⟩
noncomputable def ob95 (P : Params) : Obj := ⟨(.type "tuple"), none, (.seq #[] 0), #[]⟩
noncomputable def ob96 (P : Params) : Obj := ⟨.none, none, (.fields #[]), #[]⟩
noncomputable def ob97 (P : Params) : Obj := ⟨(.type "tuple"), none, (.seq #[(.str "self" 318)] 0), #[]⟩
noncomputable def ob98 (P : Params) : Obj := ⟨(.type "tuple"), none, (.seq #[] 0), #[]⟩
noncomputable def ob99 (P : Params) : Obj := ⟨.none, none, (.func ⟨"rank", "Strip.rank", (pPar (pSt2 12 1)), (.stmts (pSub (pSt2 12 1))), (pSco (pSt2 18 3)), 0, [], .none, .none, .none, .none, none, .none, .none, 0⟩), #[]⟩
noncomputable def ob100 (P : Params) : Obj := ⟨(.type "code"), none, (.fields #[(.str "rank" 315), (.str "Strip.rank" 316), (.str "/claim/cut.py" 317), (.int 53 0), (.int 1 0), (.int 0 0), (.int 0 0), (.int 3 0), (.ref 103), (.bool true), (.int 181 0), (.ref 104), .none, (.ref 105), (.ref 106), (.ref 107), (.int 319 0), (.int 53 0), (.str "/claim/cut.py" 320)]), #[]⟩
noncomputable def ob101 (P : Params) : Obj := ⟨(.type "function"), none, (.func ⟨"rank", "Strip.rank", (pPar (pSt2 12 1)), (.stmts (pSub (pSt2 12 1))), (pSco (pSt2 18 3)), 3, [], .none, .none, .none, (.str "markupmill.sheet" 291), none, (.ref 108), .none, 0⟩), #[]⟩
noncomputable def ob102 (P : Params) : Obj := ⟨(.type "tuple"), none, (.seq #[] 0), #[]⟩
noncomputable def ob103 (P : Params) : Obj := ⟨.none, none, (.fields #[]), #[]⟩
noncomputable def ob104 (P : Params) : Obj := ⟨(.type "tuple"), none, (.seq #[(.str "self" 325), (.str "uri" 326), (.str "local" 327)] 0), #[]⟩
noncomputable def ob105 (P : Params) : Obj := ⟨(.type "tuple"), none, (.seq #[] 0), #[]⟩
noncomputable def ob106 (P : Params) : Obj := ⟨.none, none, (.func ⟨"fits", "Strip.fits", (pPar (pSt2 12 2)), (.stmts (pSub (pSt2 12 2))), (pSco (pSt2 12 2)), 0, [], .none, .none, .none, .none, none, .none, .none, 0⟩), #[]⟩
noncomputable def ob107 (P : Params) : Obj := ⟨(.type "code"), none, (.fields #[(.str "fits" 322), (.str "Strip.fits" 323), (.str "/claim/cut.py" 324), (.int 56 0), (.int 3 0), (.int 0 0), (.int 0 0), (.int 3 0), (.ref 110), (.bool true), (.int 181 0), (.ref 111), .none, (.ref 112), (.ref 113), (.ref 114), (.int 328 0), (.int 56 0), (.str "/claim/cut.py" 329)]), #[]⟩
noncomputable def ob108 (P : Params) : Obj := ⟨(.type "function"), none, (.func ⟨"fits", "Strip.fits", (pPar (pSt2 12 2)), (.stmts (pSub (pSt2 12 2))), (pSco (pSt2 12 2)), 3, [], .none, .none, .none, (.str "markupmill.sheet" 291), none, (.ref 115), .none, 0⟩), #[]⟩
noncomputable def ob109 (P : Params) : Obj := ⟨(.type "tuple"), none, (.seq #[(.str "is_stripped" 331), (.str "local" 332), (.str "uri" 333)] 0), #[]⟩
noncomputable def ob110 (P : Params) : Obj := ⟨(.type "dict"), none, (.dict #[⟨(PyData.keyHash P "__module__"), (.str "__module__" 300), (.str "markupmill.sheet" 291)⟩, ⟨(PyData.keyHash P "__firstlineno__"), (.str "__firstlineno__" 304), (.int 46 303)⟩, ⟨(PyData.keyHash P "__init__"), (.str "__init__" 314), (.ref 102)⟩, ⟨(PyData.keyHash P "rank"), (.str "rank" 321), (.ref 109)⟩, ⟨(PyData.keyHash P "fits"), (.str "fits" 330), (.ref 116)⟩, ⟨(PyData.keyHash P "__static_attributes__"), (.str "__static_attributes__" 334), (.ref 117)⟩, ⟨(PyData.keyHash P "__dict__"), (.str "__dict__" 336), (.ref 120)⟩, ⟨(PyData.keyHash P "__weakref__"), (.str "__weakref__" 338), (.ref 121)⟩, ⟨(PyData.keyHash P "__doc__"), (.str "__doc__" 339), .none⟩] 4), #[]⟩
noncomputable def ob111 (P : Params) : Obj := ⟨(.type "type"), none, (.cls ⟨"Strip", [(.type "object")], [(.ref 119), (.type "object")], 118, "Strip", true, [], [], false, none, false⟩), #[none, none, (some (.str "Strip" 293)), (some (.str "Strip" 301)), (some (.builtin "object.__new__")), (some (.bool true))]⟩
noncomputable def ob112 (P : Params) : Obj := ⟨(.type "getset_descriptor"), none, (.fields #[(.str "__dict__" 335), (.ref 119), (.builtin "function.__dict__"), (.builtin "function.__dict__#set")]), #[]⟩
noncomputable def ob113 (P : Params) : Obj := ⟨(.type "getset_descriptor"), none, (.fields #[(.str "__weakref__" 337), (.ref 119), (.builtin "ExceptionGroup.__weakref__"), .none]), #[]⟩
noncomputable def ob114 (P : Params) : Obj := ⟨(.type "super"), none, (.fields #[(.ref 119), (.ref 119), (.ref 119)]), #[]⟩
noncomputable def ob115 (P : Params) : Obj := ⟨(.type "builtin_function_or_method"), none, (.fields #[(.builtin "object.__init_subclass__"), (.ref 119)]), #[]⟩
noncomputable def ob116 (P : Params) : Obj := ⟨(.type "dict"), none, (.dict #[⟨(PyData.keyHash P "__name__"), (.str "__name__" 165), (.str "markupmill.tree" 365)⟩, ⟨(PyData.keyHash P "__doc__"), (.str "__doc__" 166), .none⟩, ⟨(PyData.keyHash P "__package__"), (.str "__package__" 167), .none⟩, ⟨(PyData.keyHash P "__loader__"), (.str "__loader__" 168), (.builtin "__main__.__loader__#opaque")⟩, ⟨(PyData.keyHash P "__spec__"), (.str "__spec__" 169), .none⟩, ⟨(PyData.keyHash P "__annotations__"), (.str "__annotations__" 170), (.ref 6)⟩, ⟨(PyData.keyHash P "__builtins__"), (.str "__builtins__" 171), (.ref 4)⟩, ⟨(PyData.keyHash P "__file__"), (.str "__file__" 173), (.str "/claim/cut.py" 172)⟩, ⟨(PyData.keyHash P "__cached__"), (.str "__cached__" 174), .none⟩, ⟨(PyData.keyHash P "_wall"), (.str "_wall" 193), (.ref 21)⟩, ⟨(PyData.keyHash P "MarkupError"), (.str "MarkupError" 224), (.ref 38)⟩, ⟨(PyData.keyHash P "TreeFault"), (.str "TreeFault" 240), (.ref 51)⟩, ⟨(PyData.keyHash P "list_above"), (.str "list_above" 252), (.ref 60)⟩, ⟨(PyData.keyHash P "remove"), (.str "remove" 260), (.ref 67)⟩, ⟨(PyData.keyHash P "is_blank"), (.str "is_blank" 269), (.ref 74)⟩, ⟨(PyData.keyHash P "keeps_spaces"), (.str "keeps_spaces" 279), (.ref 81)⟩, ⟨(PyData.keyHash P "blank_texts"), (.str "blank_texts" 290), (.ref 88)⟩, ⟨(PyData.keyHash P "Strip"), (.str "Strip" 341), (.ref 119)⟩, ⟨(PyData.keyHash P "is_stripped"), (.str "is_stripped" 353), (.ref 130)⟩, ⟨(PyData.keyHash P "strip_source"), (.str "strip_source" 364), (.ref 137)⟩, ⟨(PyData.keyHash P "PARENTS"), (.str "PARENTS" 369), (.ref 138)⟩, ⟨(PyData.keyHash P "NodeRow"), (.str "NodeRow" 411), (.ref 155)⟩] 22), #[]⟩
noncomputable def ob117 (P : Params) : Obj := ⟨.none, none, (.fields #[(.int 1 0), (.int 0 0), (.ref 20), (.int 5 0), (.int 0 0), (.ref 27), (.int 10 0), (.int 0 0), (.ref 47), (.int 13 0), (.int 0 0), (.ref 59), (.int 19 0), (.int 0 0), (.ref 66), (.int 25 0), (.int 0 0), (.ref 73), (.int 27 0), (.int 0 0), (.ref 80), (.int 35 0), (.int 0 0), (.ref 87), (.int 46 0), (.int 0 0), (.ref 94), (.int 60 0), (.int 0 0), (.ref 129), (.int 66 0), (.int 0 0), (.ref 136), (.int 76 0), (.int 0 0), (.ref 144)]), #[]⟩
noncomputable def ob118 (P : Params) : Obj := ⟨(.type "tuple"), none, (.seq #[] 0), #[]⟩
noncomputable def ob119 (P : Params) : Obj := ⟨.none, none, (.fields #[]), #[]⟩
noncomputable def ob120 (P : Params) : Obj := ⟨(.type "tuple"), none, (.seq #[(.str "strips" 345), (.str "uri" 346), (.str "local" 347), (.str "told" 348), (.str "rank" 349), (.str "strip" 350)] 0), #[]⟩
noncomputable def ob121 (P : Params) : Obj := ⟨(.type "tuple"), none, (.seq #[] 0), #[]⟩
noncomputable def ob122 (P : Params) : Obj := ⟨.none, none, (.func ⟨"is_stripped", "is_stripped", (pPar (pSt 13)), (.stmts (pSub (pSt 13))), (pSco (pSt 13)), 0, [], .none, .none, .none, .none, none, .none, .none, 0⟩), #[]⟩
noncomputable def ob123 (P : Params) : Obj := ⟨(.type "code"), none, (.fields #[(.str "is_stripped" 342), (.str "is_stripped" 343), (.str "/claim/cut.py" 344), (.int 60 0), (.int 3 0), (.int 0 0), (.int 0 0), (.int 3 0), (.ref 124), (.bool true), (.int 181 0), (.ref 125), .none, (.ref 126), (.ref 127), (.ref 128), (.int 351 0), (.int 60 0), (.str "/claim/cut.py" 352)]), #[]⟩
noncomputable def ob124 (P : Params) : Obj := ⟨(.type "function"), none, (.func ⟨"is_stripped", "is_stripped", (pPar (pSt 13)), (.stmts (pSub (pSt 13))), (pSco (pSt 13)), 3, [], .none, .none, .none, (.str "markupmill.sheet" 291), none, (.ref 129), .none, 0⟩), #[]⟩
noncomputable def ob125 (P : Params) : Obj := ⟨(.type "tuple"), none, (.seq #[] 0), #[]⟩
noncomputable def ob126 (P : Params) : Obj := ⟨.none, none, (.fields #[]), #[]⟩
noncomputable def ob127 (P : Params) : Obj := ⟨(.type "tuple"), none, (.seq #[(.str "tree" 357), (.str "root" 358), (.str "strips" 359), (.str "node" 360), (.str "parent" 361)] 0), #[]⟩
noncomputable def ob128 (P : Params) : Obj := ⟨(.type "tuple"), none, (.seq #[] 0), #[]⟩
noncomputable def ob129 (P : Params) : Obj := ⟨.none, none, (.func ⟨"strip_source", "strip_source", (pPar (pSt 14)), (.stmts (pSub (pSt 14))), (pSco (pSt 14)), 0, [], .none, .none, .none, .none, none, .none, .none, 0⟩), #[]⟩
noncomputable def ob130 (P : Params) : Obj := ⟨(.type "code"), none, (.fields #[(.str "strip_source" 354), (.str "strip_source" 355), (.str "/claim/cut.py" 356), (.int 66 0), (.int 3 0), (.int 0 0), (.int 0 0), (.int 3 0), (.ref 131), (.bool true), (.int 181 0), (.ref 132), .none, (.ref 133), (.ref 134), (.ref 135), (.int 362 0), (.int 66 0), (.str "/claim/cut.py" 363)]), #[]⟩
noncomputable def ob131 (P : Params) : Obj := ⟨(.type "function"), none, (.func ⟨"strip_source", "strip_source", (pPar (pSt 14)), (.stmts (pSub (pSt 14))), (pSco (pSt 14)), 3, [], .none, .none, .none, (.str "markupmill.sheet" 291), none, (.ref 136), .none, 0⟩), #[]⟩
noncomputable def ob132 (P : Params) : Obj := ⟨(.type "tuple"), none, (.seq #[(.str "root" 367), (.str "element" 368)] 0), #[]⟩
noncomputable def ob133 (P : Params) : Obj := ⟨(.type "tuple"), none, (.seq #[] 0), #[]⟩
noncomputable def ob134 (P : Params) : Obj := ⟨(.type "builtin_function_or_method"), none, (.fields #[(.builtin "type.__prepare__"), (.type "type")]), #[]⟩
noncomputable def ob135 (P : Params) : Obj := ⟨(.type "dict"), none, (.dict #[⟨(PyData.keyHash P "__module__"), (.str "__module__" 377), (.str "markupmill.tree" 365)⟩, ⟨(PyData.keyHash P "__qualname__"), (.str "__qualname__" 379), (.str "NodeRow" 378)⟩, ⟨(PyData.keyHash P "__firstlineno__"), (.str "__firstlineno__" 381), (.int 76 380)⟩, ⟨(PyData.keyHash P "__init__"), (.str "__init__" 394), (.ref 152)⟩, ⟨(PyData.keyHash P "__static_attributes__"), (.str "__static_attributes__" 404), (.ref 153)⟩] 5), #[]⟩
noncomputable def ob136 (P : Params) : Obj := ⟨(.type "tuple"), none, (.seq #[] 0), #[]⟩
noncomputable def ob137 (P : Params) : Obj := ⟨.none, none, (.fields #[(.int 78 0), (.int 4 0), (.ref 151)]), #[]⟩
noncomputable def ob138 (P : Params) : Obj := ⟨(.type "code"), none, (.fields #[(.str "NodeRow" 372), (.str "NodeRow" 373), (.str "/claim/cut.py" 374), (.int 76 0), (.int 0 0), (.int 0 0), (.int 0 0), (.int 0 0), (.ref 142), (.bool false), (.int 181 0), (.ref 143), .none, .none, .none, .none, (.int 375 0), (.int 76 0), (.str "/claim/cut.py" 376)]), #[]⟩
noncomputable def ob139 (P : Params) : Obj := ⟨(.type "frame"), none, .plain, #[(some (.ref 144)), (some (.ref 3)), (some (.ref 141)), none, (some (.str "markupmill.tree" 365)), none, (some (.ref 0))]⟩
noncomputable def ob140 (P : Params) : Obj := ⟨(.type "tuple"), none, (.seq #[] 0), #[]⟩
noncomputable def ob141 (P : Params) : Obj := ⟨.none, none, (.fields #[]), #[]⟩
noncomputable def ob142 (P : Params) : Obj := ⟨(.type "tuple"), none, (.seq #[(.str "self" 385), (.str "kind" 386), (.str "name" 387), (.str "uri" 388), (.str "local" 389), (.str "value" 390), (.str "parent" 391)] 0), #[]⟩
noncomputable def ob143 (P : Params) : Obj := ⟨(.type "tuple"), none, (.seq #[] 0), #[]⟩
noncomputable def ob144 (P : Params) : Obj := ⟨.none, none, (.func ⟨"__init__", "NodeRow.__init__", (pPar (pSt2 17 0)), (.stmts (pSub (pSt2 17 0))), (pSco (pSt2 17 0)), 0, [], .none, .none, .none, .none, none, .none, .none, 0⟩), #[]⟩
noncomputable def ob145 (P : Params) : Obj := ⟨(.type "code"), none, (.fields #[(.str "__init__" 382), (.str "NodeRow.__init__" 383), (.str "/claim/cut.py" 384), (.int 78 0), (.int 7 0), (.int 0 0), (.int 0 0), (.int 3 0), (.ref 146), (.bool true), (.int 181 0), (.ref 147), .none, (.ref 148), (.ref 149), (.ref 150), (.int 392 0), (.int 78 0), (.str "/claim/cut.py" 393)]), #[]⟩
noncomputable def ob146 (P : Params) : Obj := ⟨(.type "function"), none, (.func ⟨"__init__", "NodeRow.__init__", (pPar (pSt2 17 0)), (.stmts (pSub (pSt2 17 0))), (pSco (pSt2 17 0)), 3, [], .none, .none, .none, (.str "markupmill.tree" 365), none, (.ref 151), .none, 0⟩), #[]⟩
noncomputable def ob147 (P : Params) : Obj := ⟨(.type "tuple"), none, (.seq #[(.str "attributes" 395), (.str "children" 396), (.str "kind" 397), (.str "local" 398), (.str "name" 399), (.str "namespaces" 400), (.str "parent" 401), (.str "uri" 402), (.str "value" 403)] 0), #[]⟩
noncomputable def ob148 (P : Params) : Obj := ⟨(.type "dict"), none, (.dict #[⟨(PyData.keyHash P "__module__"), (.str "__module__" 377), (.str "markupmill.tree" 365)⟩, ⟨(PyData.keyHash P "__firstlineno__"), (.str "__firstlineno__" 381), (.int 76 380)⟩, ⟨(PyData.keyHash P "__init__"), (.str "__init__" 394), (.ref 152)⟩, ⟨(PyData.keyHash P "__static_attributes__"), (.str "__static_attributes__" 404), (.ref 153)⟩, ⟨(PyData.keyHash P "__dict__"), (.str "__dict__" 406), (.ref 156)⟩, ⟨(PyData.keyHash P "__weakref__"), (.str "__weakref__" 408), (.ref 157)⟩, ⟨(PyData.keyHash P "__doc__"), (.str "__doc__" 409), .none⟩] 4), #[]⟩
noncomputable def ob149 (P : Params) : Obj := ⟨(.type "type"), none, (.cls ⟨"NodeRow", [(.type "object")], [(.ref 155), (.type "object")], 154, "NodeRow", true, [], [], false, none, false⟩), #[none, none, (some (.str "NodeRow" 370)), (some (.str "NodeRow" 378)), (some (.builtin "object.__new__")), (some (.bool true))]⟩
noncomputable def ob150 (P : Params) : Obj := ⟨(.type "getset_descriptor"), none, (.fields #[(.str "__dict__" 405), (.ref 155), (.builtin "function.__dict__"), (.builtin "function.__dict__#set")]), #[]⟩
noncomputable def ob151 (P : Params) : Obj := ⟨(.type "getset_descriptor"), none, (.fields #[(.str "__weakref__" 407), (.ref 155), (.builtin "ExceptionGroup.__weakref__"), .none]), #[]⟩
noncomputable def ob152 (P : Params) : Obj := ⟨(.type "super"), none, (.fields #[(.ref 155), (.ref 155), (.ref 155)]), #[]⟩
noncomputable def ob153 (P : Params) : Obj := ⟨(.type "builtin_function_or_method"), none, (.fields #[(.builtin "object.__init_subclass__"), (.ref 155)]), #[]⟩
noncomputable def ob154 (P : Params) : Obj := ⟨(.type "dict"), none, (.dict #[⟨(PyData.keyHash P "__name__"), (.str "__name__" 165), (.str "markupmill.tree" 365)⟩, ⟨(PyData.keyHash P "__doc__"), (.str "__doc__" 166), .none⟩, ⟨(PyData.keyHash P "__package__"), (.str "__package__" 167), .none⟩, ⟨(PyData.keyHash P "__loader__"), (.str "__loader__" 168), (.builtin "__main__.__loader__#opaque")⟩, ⟨(PyData.keyHash P "__spec__"), (.str "__spec__" 169), .none⟩, ⟨(PyData.keyHash P "__annotations__"), (.str "__annotations__" 170), (.ref 6)⟩, ⟨(PyData.keyHash P "__builtins__"), (.str "__builtins__" 171), (.ref 4)⟩, ⟨(PyData.keyHash P "__file__"), (.str "__file__" 173), (.str "/claim/cut.py" 172)⟩, ⟨(PyData.keyHash P "__cached__"), (.str "__cached__" 174), .none⟩, ⟨(PyData.keyHash P "_wall"), (.str "_wall" 193), (.ref 21)⟩, ⟨(PyData.keyHash P "MarkupError"), (.str "MarkupError" 224), (.ref 38)⟩, ⟨(PyData.keyHash P "TreeFault"), (.str "TreeFault" 240), (.ref 51)⟩, ⟨(PyData.keyHash P "list_above"), (.str "list_above" 252), (.ref 60)⟩, ⟨(PyData.keyHash P "remove"), (.str "remove" 260), (.ref 67)⟩, ⟨(PyData.keyHash P "is_blank"), (.str "is_blank" 269), (.ref 74)⟩, ⟨(PyData.keyHash P "keeps_spaces"), (.str "keeps_spaces" 279), (.ref 81)⟩, ⟨(PyData.keyHash P "blank_texts"), (.str "blank_texts" 290), (.ref 88)⟩, ⟨(PyData.keyHash P "Strip"), (.str "Strip" 341), (.ref 119)⟩, ⟨(PyData.keyHash P "is_stripped"), (.str "is_stripped" 353), (.ref 130)⟩, ⟨(PyData.keyHash P "strip_source"), (.str "strip_source" 364), (.ref 137)⟩, ⟨(PyData.keyHash P "PARENTS"), (.str "PARENTS" 369), (.ref 138)⟩, ⟨(PyData.keyHash P "NodeRow"), (.str "NodeRow" 411), (.ref 155)⟩, ⟨(PyData.keyHash P "Tree"), (.str "Tree" 662), (.ref 344)⟩] 23), #[]⟩
noncomputable def ob155 (P : Params) : Obj := ⟨.none, none, (.fields #[(.int 1 0), (.int 0 0), (.ref 20), (.int 5 0), (.int 0 0), (.ref 27), (.int 10 0), (.int 0 0), (.ref 47), (.int 13 0), (.int 0 0), (.ref 59), (.int 19 0), (.int 0 0), (.ref 66), (.int 25 0), (.int 0 0), (.ref 73), (.int 27 0), (.int 0 0), (.ref 80), (.int 35 0), (.int 0 0), (.ref 87), (.int 46 0), (.int 0 0), (.ref 94), (.int 60 0), (.int 0 0), (.ref 129), (.int 66 0), (.int 0 0), (.ref 136), (.int 76 0), (.int 0 0), (.ref 144), (.int 88 0), (.int 0 0), (.ref 165)]), #[]⟩
noncomputable def ob156 (P : Params) : Obj := ⟨(.type "tuple"), none, (.seq #[] 0), #[]⟩
noncomputable def ob157 (P : Params) : Obj := ⟨(.type "builtin_function_or_method"), none, (.fields #[(.builtin "type.__prepare__"), (.type "type")]), #[]⟩
noncomputable def ob158 (P : Params) : Obj := ⟨(.type "dict"), none, (.dict #[⟨(PyData.keyHash P "__module__"), (.str "__module__" 419), (.str "markupmill.tree" 365)⟩, ⟨(PyData.keyHash P "__qualname__"), (.str "__qualname__" 421), (.str "Tree" 420)⟩, ⟨(PyData.keyHash P "__firstlineno__"), (.str "__firstlineno__" 423), (.int 88 422)⟩, ⟨(PyData.keyHash P "__init__"), (.str "__init__" 430), (.ref 173)⟩, ⟨(PyData.keyHash P "new_row"), (.str "new_row" 443), (.ref 180)⟩, ⟨(PyData.keyHash P "row"), (.str "row" 451), (.ref 187)⟩, ⟨(PyData.keyHash P "new_root"), (.str "new_root" 458), (.ref 194)⟩, ⟨(PyData.keyHash P "add_child"), (.str "add_child" 472), (.ref 201)⟩, ⟨(PyData.keyHash P "add_element"), (.str "add_element" 483), (.ref 208)⟩, ⟨(PyData.keyHash P "add_text"), (.str "add_text" 492), (.ref 215)⟩, ⟨(PyData.keyHash P "add_comment"), (.str "add_comment" 501), (.ref 222)⟩, ⟨(PyData.keyHash P "add_instruction"), (.str "add_instruction" 511), (.ref 229)⟩, ⟨(PyData.keyHash P "element_row"), (.str "element_row" 520), (.ref 236)⟩, ⟨(PyData.keyHash P "set_attribute"), (.str "set_attribute" 535), (.ref 243)⟩, ⟨(PyData.keyHash P "add_namespace"), (.str "add_namespace" 545), (.ref 250)⟩, ⟨(PyData.keyHash P "set_value"), (.str "set_value" 554), (.ref 257)⟩, ⟨(PyData.keyHash P "kind"), (.str "kind" 562), (.ref 264)⟩, ⟨(PyData.keyHash P "name"), (.str "name" 570), (.ref 271)⟩, ⟨(PyData.keyHash P "uri"), (.str "uri" 578), (.ref 278)⟩, ⟨(PyData.keyHash P "local"), (.str "local" 586), (.ref 285)⟩, ⟨(PyData.keyHash P "value"), (.str "value" 594), (.ref 292)⟩, ⟨(PyData.keyHash P "parent"), (.str "parent" 602), (.ref 299)⟩, ⟨(PyData.keyHash P "children"), (.str "children" 610), (.ref 306)⟩, ⟨(PyData.keyHash P "attributes"), (.str "attributes" 618), (.ref 313)⟩, ⟨(PyData.keyHash P "namespaces"), (.str "namespaces" 626), (.ref 320)⟩, ⟨(PyData.keyHash P "root_of"), (.str "root_of" 634), (.ref 327)⟩, ⟨(PyData.keyHash P "is_above"), (.str "is_above" 643), (.ref 334)⟩, ⟨(PyData.keyHash P "attribute_value"), (.str "attribute_value" 653), (.ref 341)⟩, ⟨(PyData.keyHash P "__static_attributes__"), (.str "__static_attributes__" 655), (.ref 342)⟩] 29), #[]⟩
noncomputable def ob159 (P : Params) : Obj := ⟨(.type "tuple"), none, (.seq #[] 0), #[]⟩
noncomputable def ob160 (P : Params) : Obj := ⟨.none, none, (.fields #[(.int 90 0), (.int 4 0), (.ref 172), (.int 93 0), (.int 4 0), (.ref 179), (.int 97 0), (.int 4 0), (.ref 186), (.int 102 0), (.int 4 0), (.ref 193), (.int 105 0), (.int 4 0), (.ref 200), (.int 113 0), (.int 4 0), (.ref 207), (.int 116 0), (.int 4 0), (.ref 214), (.int 119 0), (.int 4 0), (.ref 221), (.int 122 0), (.int 4 0), (.ref 228), (.int 125 0), (.int 4 0), (.ref 235), (.int 131 0), (.int 4 0), (.ref 242), (.int 143 0), (.int 4 0), (.ref 249), (.int 146 0), (.int 4 0), (.ref 256), (.int 149 0), (.int 4 0), (.ref 263), (.int 152 0), (.int 4 0), (.ref 270), (.int 155 0), (.int 4 0), (.ref 277), (.int 158 0), (.int 4 0), (.ref 284), (.int 161 0), (.int 4 0), (.ref 291), (.int 164 0), (.int 4 0), (.ref 298), (.int 167 0), (.int 4 0), (.ref 305), (.int 170 0), (.int 4 0), (.ref 312), (.int 173 0), (.int 4 0), (.ref 319), (.int 176 0), (.int 4 0), (.ref 326), (.int 179 0), (.int 4 0), (.ref 333), (.int 182 0), (.int 4 0), (.ref 340)]), #[]⟩
noncomputable def ob161 (P : Params) : Obj := ⟨(.type "code"), none, (.fields #[(.str "Tree" 414), (.str "Tree" 415), (.str "/claim/cut.py" 416), (.int 88 0), (.int 0 0), (.int 0 0), (.int 0 0), (.int 0 0), (.ref 163), (.bool false), (.int 181 0), (.ref 164), .none, .none, .none, .none, (.int 417 0), (.int 88 0), (.str "/claim/cut.py" 418)]), #[]⟩
noncomputable def ob162 (P : Params) : Obj := ⟨(.type "frame"), none, .plain, #[(some (.ref 165)), (some (.ref 3)), (some (.ref 162)), none, (some (.str "markupmill.tree" 365)), none, (some (.ref 0))]⟩
noncomputable def ob163 (P : Params) : Obj := ⟨(.type "tuple"), none, (.seq #[] 0), #[]⟩
noncomputable def ob164 (P : Params) : Obj := ⟨.none, none, (.fields #[]), #[]⟩
noncomputable def ob165 (P : Params) : Obj := ⟨(.type "tuple"), none, (.seq #[(.str "self" 427)] 0), #[]⟩
noncomputable def ob166 (P : Params) : Obj := ⟨(.type "tuple"), none, (.seq #[] 0), #[]⟩
noncomputable def ob167 (P : Params) : Obj := ⟨.none, none, (.func ⟨"__init__", "Tree.__init__", (pPar (pSt2 18 0)), (.stmts (pSub (pSt2 18 0))), (pSco (pSt2 18 3)), 0, [], .none, .none, .none, .none, none, .none, .none, 0⟩), #[]⟩
noncomputable def ob168 (P : Params) : Obj := ⟨(.type "code"), none, (.fields #[(.str "__init__" 424), (.str "Tree.__init__" 425), (.str "/claim/cut.py" 426), (.int 90 0), (.int 1 0), (.int 0 0), (.int 0 0), (.int 3 0), (.ref 167), (.bool true), (.int 181 0), (.ref 168), .none, (.ref 169), (.ref 170), (.ref 171), (.int 428 0), (.int 90 0), (.str "/claim/cut.py" 429)]), #[]⟩
noncomputable def ob169 (P : Params) : Obj := ⟨(.type "function"), none, (.func ⟨"__init__", "Tree.__init__", (pPar (pSt2 18 0)), (.stmts (pSub (pSt2 18 0))), (pSco (pSt2 18 3)), 3, [], .none, .none, .none, (.str "markupmill.tree" 365), none, (.ref 172), .none, 0⟩), #[]⟩
noncomputable def ob170 (P : Params) : Obj := ⟨(.type "tuple"), none, (.seq #[] 0), #[]⟩
noncomputable def ob171 (P : Params) : Obj := ⟨.none, none, (.fields #[]), #[]⟩
noncomputable def ob172 (P : Params) : Obj := ⟨(.type "tuple"), none, (.seq #[(.str "self" 434), (.str "kind" 435), (.str "name" 436), (.str "uri" 437), (.str "local" 438), (.str "value" 439), (.str "parent" 440)] 0), #[]⟩
noncomputable def ob173 (P : Params) : Obj := ⟨(.type "tuple"), none, (.seq #[] 0), #[]⟩
noncomputable def ob174 (P : Params) : Obj := ⟨.none, none, (.func ⟨"new_row", "Tree.new_row", (pPar (pSt2 18 1)), (.stmts (pSub (pSt2 18 1))), (pSco (pSt2 18 1)), 0, [], .none, .none, .none, .none, none, .none, .none, 0⟩), #[]⟩
noncomputable def ob175 (P : Params) : Obj := ⟨(.type "code"), none, (.fields #[(.str "new_row" 431), (.str "Tree.new_row" 432), (.str "/claim/cut.py" 433), (.int 93 0), (.int 7 0), (.int 0 0), (.int 0 0), (.int 3 0), (.ref 174), (.bool true), (.int 181 0), (.ref 175), .none, (.ref 176), (.ref 177), (.ref 178), (.int 441 0), (.int 93 0), (.str "/claim/cut.py" 442)]), #[]⟩
noncomputable def ob176 (P : Params) : Obj := ⟨(.type "function"), none, (.func ⟨"new_row", "Tree.new_row", (pPar (pSt2 18 1)), (.stmts (pSub (pSt2 18 1))), (pSco (pSt2 18 1)), 3, [], .none, .none, .none, (.str "markupmill.tree" 365), none, (.ref 179), .none, 0⟩), #[]⟩
noncomputable def ob177 (P : Params) : Obj := ⟨(.type "tuple"), none, (.seq #[] 0), #[]⟩
noncomputable def ob178 (P : Params) : Obj := ⟨.none, none, (.fields #[]), #[]⟩
noncomputable def ob179 (P : Params) : Obj := ⟨(.type "tuple"), none, (.seq #[(.str "self" 447), (.str "node" 448)] 0), #[]⟩
noncomputable def ob180 (P : Params) : Obj := ⟨(.type "tuple"), none, (.seq #[] 0), #[]⟩
noncomputable def ob181 (P : Params) : Obj := ⟨.none, none, (.func ⟨"row", "Tree.row", (pPar (pSt2 18 2)), (.stmts (pSub (pSt2 18 2))), (pSco (pSt2 18 2)), 0, [], .none, .none, .none, .none, none, .none, .none, 0⟩), #[]⟩
noncomputable def ob182 (P : Params) : Obj := ⟨(.type "code"), none, (.fields #[(.str "row" 444), (.str "Tree.row" 445), (.str "/claim/cut.py" 446), (.int 97 0), (.int 2 0), (.int 0 0), (.int 0 0), (.int 3 0), (.ref 181), (.bool true), (.int 181 0), (.ref 182), .none, (.ref 183), (.ref 184), (.ref 185), (.int 449 0), (.int 97 0), (.str "/claim/cut.py" 450)]), #[]⟩
noncomputable def ob183 (P : Params) : Obj := ⟨(.type "function"), none, (.func ⟨"row", "Tree.row", (pPar (pSt2 18 2)), (.stmts (pSub (pSt2 18 2))), (pSco (pSt2 18 2)), 3, [], .none, .none, .none, (.str "markupmill.tree" 365), none, (.ref 186), .none, 0⟩), #[]⟩
noncomputable def ob184 (P : Params) : Obj := ⟨(.type "tuple"), none, (.seq #[] 0), #[]⟩
noncomputable def ob185 (P : Params) : Obj := ⟨.none, none, (.fields #[]), #[]⟩
noncomputable def ob186 (P : Params) : Obj := ⟨(.type "tuple"), none, (.seq #[(.str "self" 455)] 0), #[]⟩
noncomputable def ob187 (P : Params) : Obj := ⟨(.type "tuple"), none, (.seq #[] 0), #[]⟩
noncomputable def ob188 (P : Params) : Obj := ⟨.none, none, (.func ⟨"new_root", "Tree.new_root", (pPar (pSt2 18 3)), (.stmts (pSub (pSt2 18 3))), (pSco (pSt2 18 3)), 0, [], .none, .none, .none, .none, none, .none, .none, 0⟩), #[]⟩
noncomputable def ob189 (P : Params) : Obj := ⟨(.type "code"), none, (.fields #[(.str "new_root" 452), (.str "Tree.new_root" 453), (.str "/claim/cut.py" 454), (.int 102 0), (.int 1 0), (.int 0 0), (.int 0 0), (.int 3 0), (.ref 188), (.bool true), (.int 181 0), (.ref 189), .none, (.ref 190), (.ref 191), (.ref 192), (.int 456 0), (.int 102 0), (.str "/claim/cut.py" 457)]), #[]⟩
noncomputable def ob190 (P : Params) : Obj := ⟨(.type "function"), none, (.func ⟨"new_root", "Tree.new_root", (pPar (pSt2 18 3)), (.stmts (pSub (pSt2 18 3))), (pSco (pSt2 18 3)), 3, [], .none, .none, .none, (.str "markupmill.tree" 365), none, (.ref 193), .none, 0⟩), #[]⟩
noncomputable def ob191 (P : Params) : Obj := ⟨(.type "tuple"), none, (.seq #[] 0), #[]⟩
noncomputable def ob192 (P : Params) : Obj := ⟨.none, none, (.fields #[]), #[]⟩
noncomputable def ob193 (P : Params) : Obj := ⟨(.type "tuple"), none, (.seq #[(.str "self" 462), (.str "parent" 463), (.str "kind" 464), (.str "name" 465), (.str "uri" 466), (.str "local" 467), (.str "value" 468), (.str "node" 469)] 0), #[]⟩
noncomputable def ob194 (P : Params) : Obj := ⟨(.type "tuple"), none, (.seq #[] 0), #[]⟩
noncomputable def ob195 (P : Params) : Obj := ⟨.none, none, (.func ⟨"add_child", "Tree.add_child", (pPar (pSt2 18 4)), (.stmts (pSub (pSt2 18 4))), (pSco (pSt2 18 4)), 0, [], .none, .none, .none, .none, none, .none, .none, 0⟩), #[]⟩
noncomputable def ob196 (P : Params) : Obj := ⟨(.type "code"), none, (.fields #[(.str "add_child" 459), (.str "Tree.add_child" 460), (.str "/claim/cut.py" 461), (.int 105 0), (.int 7 0), (.int 0 0), (.int 0 0), (.int 3 0), (.ref 195), (.bool true), (.int 181 0), (.ref 196), .none, (.ref 197), (.ref 198), (.ref 199), (.int 470 0), (.int 105 0), (.str "/claim/cut.py" 471)]), #[]⟩
noncomputable def ob197 (P : Params) : Obj := ⟨(.type "function"), none, (.func ⟨"add_child", "Tree.add_child", (pPar (pSt2 18 4)), (.stmts (pSub (pSt2 18 4))), (pSco (pSt2 18 4)), 3, [], .none, .none, .none, (.str "markupmill.tree" 365), none, (.ref 200), .none, 0⟩), #[]⟩
noncomputable def ob198 (P : Params) : Obj := ⟨(.type "tuple"), none, (.seq #[] 0), #[]⟩
noncomputable def ob199 (P : Params) : Obj := ⟨.none, none, (.fields #[]), #[]⟩
noncomputable def ob200 (P : Params) : Obj := ⟨(.type "tuple"), none, (.seq #[(.str "self" 476), (.str "parent" 477), (.str "name" 478), (.str "uri" 479), (.str "local" 480)] 0), #[]⟩
noncomputable def ob201 (P : Params) : Obj := ⟨(.type "tuple"), none, (.seq #[] 0), #[]⟩
noncomputable def ob202 (P : Params) : Obj := ⟨.none, none, (.func ⟨"add_element", "Tree.add_element", (pPar (pSt2 18 5)), (.stmts (pSub (pSt2 18 5))), (pSco (pSt2 18 5)), 0, [], .none, .none, .none, .none, none, .none, .none, 0⟩), #[]⟩
noncomputable def ob203 (P : Params) : Obj := ⟨(.type "code"), none, (.fields #[(.str "add_element" 473), (.str "Tree.add_element" 474), (.str "/claim/cut.py" 475), (.int 113 0), (.int 5 0), (.int 0 0), (.int 0 0), (.int 3 0), (.ref 202), (.bool true), (.int 181 0), (.ref 203), .none, (.ref 204), (.ref 205), (.ref 206), (.int 481 0), (.int 113 0), (.str "/claim/cut.py" 482)]), #[]⟩
noncomputable def ob204 (P : Params) : Obj := ⟨(.type "function"), none, (.func ⟨"add_element", "Tree.add_element", (pPar (pSt2 18 5)), (.stmts (pSub (pSt2 18 5))), (pSco (pSt2 18 5)), 3, [], .none, .none, .none, (.str "markupmill.tree" 365), none, (.ref 207), .none, 0⟩), #[]⟩
noncomputable def ob205 (P : Params) : Obj := ⟨(.type "tuple"), none, (.seq #[] 0), #[]⟩
noncomputable def ob206 (P : Params) : Obj := ⟨.none, none, (.fields #[]), #[]⟩
noncomputable def ob207 (P : Params) : Obj := ⟨(.type "tuple"), none, (.seq #[(.str "self" 487), (.str "parent" 488), (.str "value" 489)] 0), #[]⟩
noncomputable def ob208 (P : Params) : Obj := ⟨(.type "tuple"), none, (.seq #[] 0), #[]⟩
noncomputable def ob209 (P : Params) : Obj := ⟨.none, none, (.func ⟨"add_text", "Tree.add_text", (pPar (pSt2 18 6)), (.stmts (pSub (pSt2 18 6))), (pSco (pSt2 18 7)), 0, [], .none, .none, .none, .none, none, .none, .none, 0⟩), #[]⟩
noncomputable def ob210 (P : Params) : Obj := ⟨(.type "code"), none, (.fields #[(.str "add_text" 484), (.str "Tree.add_text" 485), (.str "/claim/cut.py" 486), (.int 116 0), (.int 3 0), (.int 0 0), (.int 0 0), (.int 3 0), (.ref 209), (.bool true), (.int 181 0), (.ref 210), .none, (.ref 211), (.ref 212), (.ref 213), (.int 490 0), (.int 116 0), (.str "/claim/cut.py" 491)]), #[]⟩
noncomputable def ob211 (P : Params) : Obj := ⟨(.type "function"), none, (.func ⟨"add_text", "Tree.add_text", (pPar (pSt2 18 6)), (.stmts (pSub (pSt2 18 6))), (pSco (pSt2 18 7)), 3, [], .none, .none, .none, (.str "markupmill.tree" 365), none, (.ref 214), .none, 0⟩), #[]⟩
noncomputable def ob212 (P : Params) : Obj := ⟨(.type "tuple"), none, (.seq #[] 0), #[]⟩
noncomputable def ob213 (P : Params) : Obj := ⟨.none, none, (.fields #[]), #[]⟩
noncomputable def ob214 (P : Params) : Obj := ⟨(.type "tuple"), none, (.seq #[(.str "self" 496), (.str "parent" 497), (.str "value" 498)] 0), #[]⟩
noncomputable def ob215 (P : Params) : Obj := ⟨(.type "tuple"), none, (.seq #[] 0), #[]⟩
noncomputable def ob216 (P : Params) : Obj := ⟨.none, none, (.func ⟨"add_comment", "Tree.add_comment", (pPar (pSt2 18 7)), (.stmts (pSub (pSt2 18 7))), (pSco (pSt2 18 7)), 0, [], .none, .none, .none, .none, none, .none, .none, 0⟩), #[]⟩
noncomputable def ob217 (P : Params) : Obj := ⟨(.type "code"), none, (.fields #[(.str "add_comment" 493), (.str "Tree.add_comment" 494), (.str "/claim/cut.py" 495), (.int 119 0), (.int 3 0), (.int 0 0), (.int 0 0), (.int 3 0), (.ref 216), (.bool true), (.int 181 0), (.ref 217), .none, (.ref 218), (.ref 219), (.ref 220), (.int 499 0), (.int 119 0), (.str "/claim/cut.py" 500)]), #[]⟩
noncomputable def ob218 (P : Params) : Obj := ⟨(.type "function"), none, (.func ⟨"add_comment", "Tree.add_comment", (pPar (pSt2 18 7)), (.stmts (pSub (pSt2 18 7))), (pSco (pSt2 18 7)), 3, [], .none, .none, .none, (.str "markupmill.tree" 365), none, (.ref 221), .none, 0⟩), #[]⟩
noncomputable def ob219 (P : Params) : Obj := ⟨(.type "tuple"), none, (.seq #[] 0), #[]⟩
noncomputable def ob220 (P : Params) : Obj := ⟨.none, none, (.fields #[]), #[]⟩
noncomputable def ob221 (P : Params) : Obj := ⟨(.type "tuple"), none, (.seq #[(.str "self" 505), (.str "parent" 506), (.str "target" 507), (.str "data" 508)] 0), #[]⟩
noncomputable def ob222 (P : Params) : Obj := ⟨(.type "tuple"), none, (.seq #[] 0), #[]⟩
noncomputable def ob223 (P : Params) : Obj := ⟨.none, none, (.func ⟨"add_instruction", "Tree.add_instruction", (pPar (pSt2 18 8)), (.stmts (pSub (pSt2 18 8))), (pSco (pSt2 18 8)), 0, [], .none, .none, .none, .none, none, .none, .none, 0⟩), #[]⟩
noncomputable def ob224 (P : Params) : Obj := ⟨(.type "code"), none, (.fields #[(.str "add_instruction" 502), (.str "Tree.add_instruction" 503), (.str "/claim/cut.py" 504), (.int 122 0), (.int 4 0), (.int 0 0), (.int 0 0), (.int 3 0), (.ref 223), (.bool true), (.int 181 0), (.ref 224), .none, (.ref 225), (.ref 226), (.ref 227), (.int 509 0), (.int 122 0), (.str "/claim/cut.py" 510)]), #[]⟩
noncomputable def ob225 (P : Params) : Obj := ⟨(.type "function"), none, (.func ⟨"add_instruction", "Tree.add_instruction", (pPar (pSt2 18 8)), (.stmts (pSub (pSt2 18 8))), (pSco (pSt2 18 8)), 3, [], .none, .none, .none, (.str "markupmill.tree" 365), none, (.ref 228), .none, 0⟩), #[]⟩
noncomputable def ob226 (P : Params) : Obj := ⟨(.type "tuple"), none, (.seq #[] 0), #[]⟩
noncomputable def ob227 (P : Params) : Obj := ⟨.none, none, (.fields #[]), #[]⟩
noncomputable def ob228 (P : Params) : Obj := ⟨(.type "tuple"), none, (.seq #[(.str "self" 515), (.str "element" 516), (.str "row" 517)] 0), #[]⟩
noncomputable def ob229 (P : Params) : Obj := ⟨(.type "tuple"), none, (.seq #[] 0), #[]⟩
noncomputable def ob230 (P : Params) : Obj := ⟨.none, none, (.func ⟨"element_row", "Tree.element_row", (pPar (pSt2 18 9)), (.stmts (pSub (pSt2 18 9))), (pSco (pSt2 18 9)), 0, [], .none, .none, .none, .none, none, .none, .none, 0⟩), #[]⟩
noncomputable def ob231 (P : Params) : Obj := ⟨(.type "code"), none, (.fields #[(.str "element_row" 512), (.str "Tree.element_row" 513), (.str "/claim/cut.py" 514), (.int 125 0), (.int 2 0), (.int 0 0), (.int 0 0), (.int 3 0), (.ref 230), (.bool true), (.int 181 0), (.ref 231), .none, (.ref 232), (.ref 233), (.ref 234), (.int 518 0), (.int 125 0), (.str "/claim/cut.py" 519)]), #[]⟩
noncomputable def ob232 (P : Params) : Obj := ⟨(.type "function"), none, (.func ⟨"element_row", "Tree.element_row", (pPar (pSt2 18 9)), (.stmts (pSub (pSt2 18 9))), (pSco (pSt2 18 9)), 3, [], .none, .none, .none, (.str "markupmill.tree" 365), none, (.ref 235), .none, 0⟩), #[]⟩
noncomputable def ob233 (P : Params) : Obj := ⟨(.type "tuple"), none, (.seq #[] 0), #[]⟩
noncomputable def ob234 (P : Params) : Obj := ⟨.none, none, (.fields #[]), #[]⟩
noncomputable def ob235 (P : Params) : Obj := ⟨(.type "tuple"), none, (.seq #[(.str "self" 524), (.str "element" 525), (.str "name" 526), (.str "uri" 527), (.str "local" 528), (.str "value" 529), (.str "row" 530), (.str "node" 531), (.str "known" 532)] 0), #[]⟩
noncomputable def ob236 (P : Params) : Obj := ⟨(.type "tuple"), none, (.seq #[] 0), #[]⟩
noncomputable def ob237 (P : Params) : Obj := ⟨.none, none, (.func ⟨"set_attribute", "Tree.set_attribute", (pPar (pSt2 18 10)), (.stmts (pSub (pSt2 18 10))), (pSco (pSt2 18 10)), 0, [], .none, .none, .none, .none, none, .none, .none, 0⟩), #[]⟩
noncomputable def ob238 (P : Params) : Obj := ⟨(.type "code"), none, (.fields #[(.str "set_attribute" 521), (.str "Tree.set_attribute" 522), (.str "/claim/cut.py" 523), (.int 131 0), (.int 6 0), (.int 0 0), (.int 0 0), (.int 3 0), (.ref 237), (.bool true), (.int 181 0), (.ref 238), .none, (.ref 239), (.ref 240), (.ref 241), (.int 533 0), (.int 131 0), (.str "/claim/cut.py" 534)]), #[]⟩
noncomputable def ob239 (P : Params) : Obj := ⟨(.type "function"), none, (.func ⟨"set_attribute", "Tree.set_attribute", (pPar (pSt2 18 10)), (.stmts (pSub (pSt2 18 10))), (pSco (pSt2 18 10)), 3, [], .none, .none, .none, (.str "markupmill.tree" 365), none, (.ref 242), .none, 0⟩), #[]⟩
noncomputable def ob240 (P : Params) : Obj := ⟨(.type "tuple"), none, (.seq #[] 0), #[]⟩
noncomputable def ob241 (P : Params) : Obj := ⟨.none, none, (.fields #[]), #[]⟩
noncomputable def ob242 (P : Params) : Obj := ⟨(.type "tuple"), none, (.seq #[(.str "self" 539), (.str "element" 540), (.str "prefix" 541), (.str "uri" 542)] 0), #[]⟩
noncomputable def ob243 (P : Params) : Obj := ⟨(.type "tuple"), none, (.seq #[] 0), #[]⟩
noncomputable def ob244 (P : Params) : Obj := ⟨.none, none, (.func ⟨"add_namespace", "Tree.add_namespace", (pPar (pSt2 18 11)), (.stmts (pSub (pSt2 18 11))), (pSco (pSt2 18 11)), 0, [], .none, .none, .none, .none, none, .none, .none, 0⟩), #[]⟩
noncomputable def ob245 (P : Params) : Obj := ⟨(.type "code"), none, (.fields #[(.str "add_namespace" 536), (.str "Tree.add_namespace" 537), (.str "/claim/cut.py" 538), (.int 143 0), (.int 4 0), (.int 0 0), (.int 0 0), (.int 3 0), (.ref 244), (.bool true), (.int 181 0), (.ref 245), .none, (.ref 246), (.ref 247), (.ref 248), (.int 543 0), (.int 143 0), (.str "/claim/cut.py" 544)]), #[]⟩
noncomputable def ob246 (P : Params) : Obj := ⟨(.type "function"), none, (.func ⟨"add_namespace", "Tree.add_namespace", (pPar (pSt2 18 11)), (.stmts (pSub (pSt2 18 11))), (pSco (pSt2 18 11)), 3, [], .none, .none, .none, (.str "markupmill.tree" 365), none, (.ref 249), .none, 0⟩), #[]⟩
noncomputable def ob247 (P : Params) : Obj := ⟨(.type "tuple"), none, (.seq #[] 0), #[]⟩
noncomputable def ob248 (P : Params) : Obj := ⟨.none, none, (.fields #[]), #[]⟩
noncomputable def ob249 (P : Params) : Obj := ⟨(.type "tuple"), none, (.seq #[(.str "self" 549), (.str "node" 550), (.str "value" 551)] 0), #[]⟩
noncomputable def ob250 (P : Params) : Obj := ⟨(.type "tuple"), none, (.seq #[] 0), #[]⟩
noncomputable def ob251 (P : Params) : Obj := ⟨.none, none, (.func ⟨"set_value", "Tree.set_value", (pPar (pSt2 18 12)), (.stmts (pSub (pSt2 18 12))), (pSco (pSt2 18 12)), 0, [], .none, .none, .none, .none, none, .none, .none, 0⟩), #[]⟩
noncomputable def ob252 (P : Params) : Obj := ⟨(.type "code"), none, (.fields #[(.str "set_value" 546), (.str "Tree.set_value" 547), (.str "/claim/cut.py" 548), (.int 146 0), (.int 3 0), (.int 0 0), (.int 0 0), (.int 3 0), (.ref 251), (.bool true), (.int 181 0), (.ref 252), .none, (.ref 253), (.ref 254), (.ref 255), (.int 552 0), (.int 146 0), (.str "/claim/cut.py" 553)]), #[]⟩
noncomputable def ob253 (P : Params) : Obj := ⟨(.type "function"), none, (.func ⟨"set_value", "Tree.set_value", (pPar (pSt2 18 12)), (.stmts (pSub (pSt2 18 12))), (pSco (pSt2 18 12)), 3, [], .none, .none, .none, (.str "markupmill.tree" 365), none, (.ref 256), .none, 0⟩), #[]⟩
noncomputable def ob254 (P : Params) : Obj := ⟨(.type "tuple"), none, (.seq #[] 0), #[]⟩
noncomputable def ob255 (P : Params) : Obj := ⟨.none, none, (.fields #[]), #[]⟩
noncomputable def ob256 (P : Params) : Obj := ⟨(.type "tuple"), none, (.seq #[(.str "self" 558), (.str "node" 559)] 0), #[]⟩
noncomputable def ob257 (P : Params) : Obj := ⟨(.type "tuple"), none, (.seq #[] 0), #[]⟩
noncomputable def ob258 (P : Params) : Obj := ⟨.none, none, (.func ⟨"kind", "Tree.kind", (pPar (pSt2 18 13)), (.stmts (pSub (pSt2 18 13))), (pSco (pSt2 18 18)), 0, [], .none, .none, .none, .none, none, .none, .none, 0⟩), #[]⟩
noncomputable def ob259 (P : Params) : Obj := ⟨(.type "code"), none, (.fields #[(.str "kind" 555), (.str "Tree.kind" 556), (.str "/claim/cut.py" 557), (.int 149 0), (.int 2 0), (.int 0 0), (.int 0 0), (.int 3 0), (.ref 258), (.bool true), (.int 181 0), (.ref 259), .none, (.ref 260), (.ref 261), (.ref 262), (.int 560 0), (.int 149 0), (.str "/claim/cut.py" 561)]), #[]⟩
noncomputable def ob260 (P : Params) : Obj := ⟨(.type "function"), none, (.func ⟨"kind", "Tree.kind", (pPar (pSt2 18 13)), (.stmts (pSub (pSt2 18 13))), (pSco (pSt2 18 18)), 3, [], .none, .none, .none, (.str "markupmill.tree" 365), none, (.ref 263), .none, 0⟩), #[]⟩
noncomputable def ob261 (P : Params) : Obj := ⟨(.type "tuple"), none, (.seq #[] 0), #[]⟩
noncomputable def ob262 (P : Params) : Obj := ⟨.none, none, (.fields #[]), #[]⟩
noncomputable def ob263 (P : Params) : Obj := ⟨(.type "tuple"), none, (.seq #[(.str "self" 566), (.str "node" 567)] 0), #[]⟩
noncomputable def ob264 (P : Params) : Obj := ⟨(.type "tuple"), none, (.seq #[] 0), #[]⟩
noncomputable def ob265 (P : Params) : Obj := ⟨.none, none, (.func ⟨"name", "Tree.name", (pPar (pSt2 18 14)), (.stmts (pSub (pSt2 18 14))), (pSco (pSt2 18 18)), 0, [], .none, .none, .none, .none, none, .none, .none, 0⟩), #[]⟩
noncomputable def ob266 (P : Params) : Obj := ⟨(.type "code"), none, (.fields #[(.str "name" 563), (.str "Tree.name" 564), (.str "/claim/cut.py" 565), (.int 152 0), (.int 2 0), (.int 0 0), (.int 0 0), (.int 3 0), (.ref 265), (.bool true), (.int 181 0), (.ref 266), .none, (.ref 267), (.ref 268), (.ref 269), (.int 568 0), (.int 152 0), (.str "/claim/cut.py" 569)]), #[]⟩
noncomputable def ob267 (P : Params) : Obj := ⟨(.type "function"), none, (.func ⟨"name", "Tree.name", (pPar (pSt2 18 14)), (.stmts (pSub (pSt2 18 14))), (pSco (pSt2 18 18)), 3, [], .none, .none, .none, (.str "markupmill.tree" 365), none, (.ref 270), .none, 0⟩), #[]⟩
noncomputable def ob268 (P : Params) : Obj := ⟨(.type "tuple"), none, (.seq #[] 0), #[]⟩
noncomputable def ob269 (P : Params) : Obj := ⟨.none, none, (.fields #[]), #[]⟩
noncomputable def ob270 (P : Params) : Obj := ⟨(.type "tuple"), none, (.seq #[(.str "self" 574), (.str "node" 575)] 0), #[]⟩
noncomputable def ob271 (P : Params) : Obj := ⟨(.type "tuple"), none, (.seq #[] 0), #[]⟩
noncomputable def ob272 (P : Params) : Obj := ⟨.none, none, (.func ⟨"uri", "Tree.uri", (pPar (pSt2 18 15)), (.stmts (pSub (pSt2 18 15))), (pSco (pSt2 18 18)), 0, [], .none, .none, .none, .none, none, .none, .none, 0⟩), #[]⟩
noncomputable def ob273 (P : Params) : Obj := ⟨(.type "code"), none, (.fields #[(.str "uri" 571), (.str "Tree.uri" 572), (.str "/claim/cut.py" 573), (.int 155 0), (.int 2 0), (.int 0 0), (.int 0 0), (.int 3 0), (.ref 272), (.bool true), (.int 181 0), (.ref 273), .none, (.ref 274), (.ref 275), (.ref 276), (.int 576 0), (.int 155 0), (.str "/claim/cut.py" 577)]), #[]⟩
noncomputable def ob274 (P : Params) : Obj := ⟨(.type "function"), none, (.func ⟨"uri", "Tree.uri", (pPar (pSt2 18 15)), (.stmts (pSub (pSt2 18 15))), (pSco (pSt2 18 18)), 3, [], .none, .none, .none, (.str "markupmill.tree" 365), none, (.ref 277), .none, 0⟩), #[]⟩
noncomputable def ob275 (P : Params) : Obj := ⟨(.type "tuple"), none, (.seq #[] 0), #[]⟩
noncomputable def ob276 (P : Params) : Obj := ⟨.none, none, (.fields #[]), #[]⟩
noncomputable def ob277 (P : Params) : Obj := ⟨(.type "tuple"), none, (.seq #[(.str "self" 582), (.str "node" 583)] 0), #[]⟩
noncomputable def ob278 (P : Params) : Obj := ⟨(.type "tuple"), none, (.seq #[] 0), #[]⟩
noncomputable def ob279 (P : Params) : Obj := ⟨.none, none, (.func ⟨"local", "Tree.local", (pPar (pSt2 18 16)), (.stmts (pSub (pSt2 18 16))), (pSco (pSt2 18 18)), 0, [], .none, .none, .none, .none, none, .none, .none, 0⟩), #[]⟩
noncomputable def ob280 (P : Params) : Obj := ⟨(.type "code"), none, (.fields #[(.str "local" 579), (.str "Tree.local" 580), (.str "/claim/cut.py" 581), (.int 158 0), (.int 2 0), (.int 0 0), (.int 0 0), (.int 3 0), (.ref 279), (.bool true), (.int 181 0), (.ref 280), .none, (.ref 281), (.ref 282), (.ref 283), (.int 584 0), (.int 158 0), (.str "/claim/cut.py" 585)]), #[]⟩
noncomputable def ob281 (P : Params) : Obj := ⟨(.type "function"), none, (.func ⟨"local", "Tree.local", (pPar (pSt2 18 16)), (.stmts (pSub (pSt2 18 16))), (pSco (pSt2 18 18)), 3, [], .none, .none, .none, (.str "markupmill.tree" 365), none, (.ref 284), .none, 0⟩), #[]⟩
noncomputable def ob282 (P : Params) : Obj := ⟨(.type "tuple"), none, (.seq #[] 0), #[]⟩
noncomputable def ob283 (P : Params) : Obj := ⟨.none, none, (.fields #[]), #[]⟩
noncomputable def ob284 (P : Params) : Obj := ⟨(.type "tuple"), none, (.seq #[(.str "self" 590), (.str "node" 591)] 0), #[]⟩
noncomputable def ob285 (P : Params) : Obj := ⟨(.type "tuple"), none, (.seq #[] 0), #[]⟩
noncomputable def ob286 (P : Params) : Obj := ⟨.none, none, (.func ⟨"value", "Tree.value", (pPar (pSt2 18 17)), (.stmts (pSub (pSt2 18 17))), (pSco (pSt2 18 18)), 0, [], .none, .none, .none, .none, none, .none, .none, 0⟩), #[]⟩
noncomputable def ob287 (P : Params) : Obj := ⟨(.type "code"), none, (.fields #[(.str "value" 587), (.str "Tree.value" 588), (.str "/claim/cut.py" 589), (.int 161 0), (.int 2 0), (.int 0 0), (.int 0 0), (.int 3 0), (.ref 286), (.bool true), (.int 181 0), (.ref 287), .none, (.ref 288), (.ref 289), (.ref 290), (.int 592 0), (.int 161 0), (.str "/claim/cut.py" 593)]), #[]⟩
noncomputable def ob288 (P : Params) : Obj := ⟨(.type "function"), none, (.func ⟨"value", "Tree.value", (pPar (pSt2 18 17)), (.stmts (pSub (pSt2 18 17))), (pSco (pSt2 18 18)), 3, [], .none, .none, .none, (.str "markupmill.tree" 365), none, (.ref 291), .none, 0⟩), #[]⟩
noncomputable def ob289 (P : Params) : Obj := ⟨(.type "tuple"), none, (.seq #[] 0), #[]⟩
noncomputable def ob290 (P : Params) : Obj := ⟨.none, none, (.fields #[]), #[]⟩
noncomputable def ob291 (P : Params) : Obj := ⟨(.type "tuple"), none, (.seq #[(.str "self" 598), (.str "node" 599)] 0), #[]⟩
noncomputable def ob292 (P : Params) : Obj := ⟨(.type "tuple"), none, (.seq #[] 0), #[]⟩
noncomputable def ob293 (P : Params) : Obj := ⟨.none, none, (.func ⟨"parent", "Tree.parent", (pPar (pSt2 18 18)), (.stmts (pSub (pSt2 18 18))), (pSco (pSt2 18 18)), 0, [], .none, .none, .none, .none, none, .none, .none, 0⟩), #[]⟩
noncomputable def ob294 (P : Params) : Obj := ⟨(.type "code"), none, (.fields #[(.str "parent" 595), (.str "Tree.parent" 596), (.str "/claim/cut.py" 597), (.int 164 0), (.int 2 0), (.int 0 0), (.int 0 0), (.int 3 0), (.ref 293), (.bool true), (.int 181 0), (.ref 294), .none, (.ref 295), (.ref 296), (.ref 297), (.int 600 0), (.int 164 0), (.str "/claim/cut.py" 601)]), #[]⟩
noncomputable def ob295 (P : Params) : Obj := ⟨(.type "function"), none, (.func ⟨"parent", "Tree.parent", (pPar (pSt2 18 18)), (.stmts (pSub (pSt2 18 18))), (pSco (pSt2 18 18)), 3, [], .none, .none, .none, (.str "markupmill.tree" 365), none, (.ref 298), .none, 0⟩), #[]⟩
noncomputable def ob296 (P : Params) : Obj := ⟨(.type "tuple"), none, (.seq #[] 0), #[]⟩
noncomputable def ob297 (P : Params) : Obj := ⟨.none, none, (.fields #[]), #[]⟩
noncomputable def ob298 (P : Params) : Obj := ⟨(.type "tuple"), none, (.seq #[(.str "self" 606), (.str "node" 607)] 0), #[]⟩
noncomputable def ob299 (P : Params) : Obj := ⟨(.type "tuple"), none, (.seq #[] 0), #[]⟩
noncomputable def ob300 (P : Params) : Obj := ⟨.none, none, (.func ⟨"children", "Tree.children", (pPar (pSt2 18 19)), (.stmts (pSub (pSt2 18 19))), (pSco (pSt2 18 21)), 0, [], .none, .none, .none, .none, none, .none, .none, 0⟩), #[]⟩
noncomputable def ob301 (P : Params) : Obj := ⟨(.type "code"), none, (.fields #[(.str "children" 603), (.str "Tree.children" 604), (.str "/claim/cut.py" 605), (.int 167 0), (.int 2 0), (.int 0 0), (.int 0 0), (.int 3 0), (.ref 300), (.bool true), (.int 181 0), (.ref 301), .none, (.ref 302), (.ref 303), (.ref 304), (.int 608 0), (.int 167 0), (.str "/claim/cut.py" 609)]), #[]⟩
noncomputable def ob302 (P : Params) : Obj := ⟨(.type "function"), none, (.func ⟨"children", "Tree.children", (pPar (pSt2 18 19)), (.stmts (pSub (pSt2 18 19))), (pSco (pSt2 18 21)), 3, [], .none, .none, .none, (.str "markupmill.tree" 365), none, (.ref 305), .none, 0⟩), #[]⟩
noncomputable def ob303 (P : Params) : Obj := ⟨(.type "tuple"), none, (.seq #[] 0), #[]⟩
noncomputable def ob304 (P : Params) : Obj := ⟨.none, none, (.fields #[]), #[]⟩
noncomputable def ob305 (P : Params) : Obj := ⟨(.type "tuple"), none, (.seq #[(.str "self" 614), (.str "node" 615)] 0), #[]⟩
noncomputable def ob306 (P : Params) : Obj := ⟨(.type "tuple"), none, (.seq #[] 0), #[]⟩
noncomputable def ob307 (P : Params) : Obj := ⟨.none, none, (.func ⟨"attributes", "Tree.attributes", (pPar (pSt2 18 20)), (.stmts (pSub (pSt2 18 20))), (pSco (pSt2 18 21)), 0, [], .none, .none, .none, .none, none, .none, .none, 0⟩), #[]⟩
noncomputable def ob308 (P : Params) : Obj := ⟨(.type "code"), none, (.fields #[(.str "attributes" 611), (.str "Tree.attributes" 612), (.str "/claim/cut.py" 613), (.int 170 0), (.int 2 0), (.int 0 0), (.int 0 0), (.int 3 0), (.ref 307), (.bool true), (.int 181 0), (.ref 308), .none, (.ref 309), (.ref 310), (.ref 311), (.int 616 0), (.int 170 0), (.str "/claim/cut.py" 617)]), #[]⟩
noncomputable def ob309 (P : Params) : Obj := ⟨(.type "function"), none, (.func ⟨"attributes", "Tree.attributes", (pPar (pSt2 18 20)), (.stmts (pSub (pSt2 18 20))), (pSco (pSt2 18 21)), 3, [], .none, .none, .none, (.str "markupmill.tree" 365), none, (.ref 312), .none, 0⟩), #[]⟩
noncomputable def ob310 (P : Params) : Obj := ⟨(.type "tuple"), none, (.seq #[] 0), #[]⟩
noncomputable def ob311 (P : Params) : Obj := ⟨.none, none, (.fields #[]), #[]⟩
noncomputable def ob312 (P : Params) : Obj := ⟨(.type "tuple"), none, (.seq #[(.str "self" 622), (.str "node" 623)] 0), #[]⟩
noncomputable def ob313 (P : Params) : Obj := ⟨(.type "tuple"), none, (.seq #[] 0), #[]⟩
noncomputable def ob314 (P : Params) : Obj := ⟨.none, none, (.func ⟨"namespaces", "Tree.namespaces", (pPar (pSt2 18 21)), (.stmts (pSub (pSt2 18 21))), (pSco (pSt2 18 21)), 0, [], .none, .none, .none, .none, none, .none, .none, 0⟩), #[]⟩
noncomputable def ob315 (P : Params) : Obj := ⟨(.type "code"), none, (.fields #[(.str "namespaces" 619), (.str "Tree.namespaces" 620), (.str "/claim/cut.py" 621), (.int 173 0), (.int 2 0), (.int 0 0), (.int 0 0), (.int 3 0), (.ref 314), (.bool true), (.int 181 0), (.ref 315), .none, (.ref 316), (.ref 317), (.ref 318), (.int 624 0), (.int 173 0), (.str "/claim/cut.py" 625)]), #[]⟩
noncomputable def ob316 (P : Params) : Obj := ⟨(.type "function"), none, (.func ⟨"namespaces", "Tree.namespaces", (pPar (pSt2 18 21)), (.stmts (pSub (pSt2 18 21))), (pSco (pSt2 18 21)), 3, [], .none, .none, .none, (.str "markupmill.tree" 365), none, (.ref 319), .none, 0⟩), #[]⟩
noncomputable def ob317 (P : Params) : Obj := ⟨(.type "tuple"), none, (.seq #[] 0), #[]⟩
noncomputable def ob318 (P : Params) : Obj := ⟨.none, none, (.fields #[]), #[]⟩
noncomputable def ob319 (P : Params) : Obj := ⟨(.type "tuple"), none, (.seq #[(.str "self" 630), (.str "node" 631)] 0), #[]⟩
noncomputable def ob320 (P : Params) : Obj := ⟨(.type "tuple"), none, (.seq #[] 0), #[]⟩
noncomputable def ob321 (P : Params) : Obj := ⟨.none, none, (.func ⟨"root_of", "Tree.root_of", (pPar (pSt2 18 22)), (.stmts (pSub (pSt2 18 22))), (pSco (pSt2 18 22)), 0, [], .none, .none, .none, .none, none, .none, .none, 0⟩), #[]⟩
noncomputable def ob322 (P : Params) : Obj := ⟨(.type "code"), none, (.fields #[(.str "root_of" 627), (.str "Tree.root_of" 628), (.str "/claim/cut.py" 629), (.int 176 0), (.int 2 0), (.int 0 0), (.int 0 0), (.int 3 0), (.ref 321), (.bool true), (.int 181 0), (.ref 322), .none, (.ref 323), (.ref 324), (.ref 325), (.int 632 0), (.int 176 0), (.str "/claim/cut.py" 633)]), #[]⟩
noncomputable def ob323 (P : Params) : Obj := ⟨(.type "function"), none, (.func ⟨"root_of", "Tree.root_of", (pPar (pSt2 18 22)), (.stmts (pSub (pSt2 18 22))), (pSco (pSt2 18 22)), 3, [], .none, .none, .none, (.str "markupmill.tree" 365), none, (.ref 326), .none, 0⟩), #[]⟩
noncomputable def ob324 (P : Params) : Obj := ⟨(.type "tuple"), none, (.seq #[] 0), #[]⟩
noncomputable def ob325 (P : Params) : Obj := ⟨.none, none, (.fields #[]), #[]⟩
noncomputable def ob326 (P : Params) : Obj := ⟨(.type "tuple"), none, (.seq #[(.str "self" 638), (.str "node" 639), (.str "other" 640)] 0), #[]⟩
noncomputable def ob327 (P : Params) : Obj := ⟨(.type "tuple"), none, (.seq #[] 0), #[]⟩
noncomputable def ob328 (P : Params) : Obj := ⟨.none, none, (.func ⟨"is_above", "Tree.is_above", (pPar (pSt2 18 23)), (.stmts (pSub (pSt2 18 23))), (pSco (pSt2 18 23)), 0, [], .none, .none, .none, .none, none, .none, .none, 0⟩), #[]⟩
noncomputable def ob329 (P : Params) : Obj := ⟨(.type "code"), none, (.fields #[(.str "is_above" 635), (.str "Tree.is_above" 636), (.str "/claim/cut.py" 637), (.int 179 0), (.int 3 0), (.int 0 0), (.int 0 0), (.int 3 0), (.ref 328), (.bool true), (.int 181 0), (.ref 329), .none, (.ref 330), (.ref 331), (.ref 332), (.int 641 0), (.int 179 0), (.str "/claim/cut.py" 642)]), #[]⟩
noncomputable def ob330 (P : Params) : Obj := ⟨(.type "function"), none, (.func ⟨"is_above", "Tree.is_above", (pPar (pSt2 18 23)), (.stmts (pSub (pSt2 18 23))), (pSco (pSt2 18 23)), 3, [], .none, .none, .none, (.str "markupmill.tree" 365), none, (.ref 333), .none, 0⟩), #[]⟩
noncomputable def ob331 (P : Params) : Obj := ⟨(.type "tuple"), none, (.seq #[] 0), #[]⟩
noncomputable def ob332 (P : Params) : Obj := ⟨.none, none, (.fields #[]), #[]⟩
noncomputable def ob333 (P : Params) : Obj := ⟨(.type "tuple"), none, (.seq #[(.str "self" 647), (.str "element" 648), (.str "uri" 649), (.str "local" 650)] 0), #[]⟩
noncomputable def ob334 (P : Params) : Obj := ⟨(.type "tuple"), none, (.seq #[] 0), #[]⟩
noncomputable def ob335 (P : Params) : Obj := ⟨.none, none, (.func ⟨"attribute_value", "Tree.attribute_value", (pPar (pSt2 18 24)), (.stmts (pSub (pSt2 18 24))), (pSco (pSt2 18 24)), 0, [], .none, .none, .none, .none, none, .none, .none, 0⟩), #[]⟩
noncomputable def ob336 (P : Params) : Obj := ⟨(.type "code"), none, (.fields #[(.str "attribute_value" 644), (.str "Tree.attribute_value" 645), (.str "/claim/cut.py" 646), (.int 182 0), (.int 4 0), (.int 0 0), (.int 0 0), (.int 3 0), (.ref 335), (.bool true), (.int 181 0), (.ref 336), .none, (.ref 337), (.ref 338), (.ref 339), (.int 651 0), (.int 182 0), (.str "/claim/cut.py" 652)]), #[]⟩
noncomputable def ob337 (P : Params) : Obj := ⟨(.type "function"), none, (.func ⟨"attribute_value", "Tree.attribute_value", (pPar (pSt2 18 24)), (.stmts (pSub (pSt2 18 24))), (pSco (pSt2 18 24)), 3, [], .none, .none, .none, (.str "markupmill.tree" 365), none, (.ref 340), .none, 0⟩), #[]⟩
noncomputable def ob338 (P : Params) : Obj := ⟨(.type "tuple"), none, (.seq #[(.str "rows" 654)] 0), #[]⟩
noncomputable def ob339 (P : Params) : Obj := ⟨(.type "dict"), none, (.dict #[⟨(PyData.keyHash P "__module__"), (.str "__module__" 419), (.str "markupmill.tree" 365)⟩, ⟨(PyData.keyHash P "__firstlineno__"), (.str "__firstlineno__" 423), (.int 88 422)⟩, ⟨(PyData.keyHash P "__init__"), (.str "__init__" 430), (.ref 173)⟩, ⟨(PyData.keyHash P "new_row"), (.str "new_row" 443), (.ref 180)⟩, ⟨(PyData.keyHash P "row"), (.str "row" 451), (.ref 187)⟩, ⟨(PyData.keyHash P "new_root"), (.str "new_root" 458), (.ref 194)⟩, ⟨(PyData.keyHash P "add_child"), (.str "add_child" 472), (.ref 201)⟩, ⟨(PyData.keyHash P "add_element"), (.str "add_element" 483), (.ref 208)⟩, ⟨(PyData.keyHash P "add_text"), (.str "add_text" 492), (.ref 215)⟩, ⟨(PyData.keyHash P "add_comment"), (.str "add_comment" 501), (.ref 222)⟩, ⟨(PyData.keyHash P "add_instruction"), (.str "add_instruction" 511), (.ref 229)⟩, ⟨(PyData.keyHash P "element_row"), (.str "element_row" 520), (.ref 236)⟩, ⟨(PyData.keyHash P "set_attribute"), (.str "set_attribute" 535), (.ref 243)⟩, ⟨(PyData.keyHash P "add_namespace"), (.str "add_namespace" 545), (.ref 250)⟩, ⟨(PyData.keyHash P "set_value"), (.str "set_value" 554), (.ref 257)⟩, ⟨(PyData.keyHash P "kind"), (.str "kind" 562), (.ref 264)⟩, ⟨(PyData.keyHash P "name"), (.str "name" 570), (.ref 271)⟩, ⟨(PyData.keyHash P "uri"), (.str "uri" 578), (.ref 278)⟩, ⟨(PyData.keyHash P "local"), (.str "local" 586), (.ref 285)⟩, ⟨(PyData.keyHash P "value"), (.str "value" 594), (.ref 292)⟩, ⟨(PyData.keyHash P "parent"), (.str "parent" 602), (.ref 299)⟩, ⟨(PyData.keyHash P "children"), (.str "children" 610), (.ref 306)⟩, ⟨(PyData.keyHash P "attributes"), (.str "attributes" 618), (.ref 313)⟩, ⟨(PyData.keyHash P "namespaces"), (.str "namespaces" 626), (.ref 320)⟩, ⟨(PyData.keyHash P "root_of"), (.str "root_of" 634), (.ref 327)⟩, ⟨(PyData.keyHash P "is_above"), (.str "is_above" 643), (.ref 334)⟩, ⟨(PyData.keyHash P "attribute_value"), (.str "attribute_value" 653), (.ref 341)⟩, ⟨(PyData.keyHash P "__static_attributes__"), (.str "__static_attributes__" 655), (.ref 342)⟩, ⟨(PyData.keyHash P "__dict__"), (.str "__dict__" 657), (.ref 345)⟩, ⟨(PyData.keyHash P "__weakref__"), (.str "__weakref__" 659), (.ref 346)⟩, ⟨(PyData.keyHash P "__doc__"), (.str "__doc__" 660), .none⟩] 4), #[]⟩
noncomputable def ob340 (P : Params) : Obj := ⟨(.type "type"), none, (.cls ⟨"Tree", [(.type "object")], [(.ref 344), (.type "object")], 343, "Tree", true, [], [], false, none, false⟩), #[none, none, (some (.str "Tree" 412)), (some (.str "Tree" 420)), (some (.builtin "object.__new__")), (some (.bool true))]⟩
noncomputable def ob341 (P : Params) : Obj := ⟨(.type "getset_descriptor"), none, (.fields #[(.str "__dict__" 656), (.ref 344), (.builtin "function.__dict__"), (.builtin "function.__dict__#set")]), #[]⟩
noncomputable def ob342 (P : Params) : Obj := ⟨(.type "getset_descriptor"), none, (.fields #[(.str "__weakref__" 658), (.ref 344), (.builtin "ExceptionGroup.__weakref__"), .none]), #[]⟩
noncomputable def ob343 (P : Params) : Obj := ⟨(.type "super"), none, (.fields #[(.ref 344), (.ref 344), (.ref 344)]), #[]⟩
noncomputable def ob344 (P : Params) : Obj := ⟨(.type "builtin_function_or_method"), none, (.fields #[(.builtin "object.__init_subclass__"), (.ref 344)]), #[]⟩
noncomputable def ob345 (P : Params) : Obj := ⟨(.type "dict"), none, (.dict #[⟨(PyData.keyHash P "__name__"), (.str "__name__" 165), (.str "law_on0188_01" 663)⟩, ⟨(PyData.keyHash P "__doc__"), (.str "__doc__" 166), .none⟩, ⟨(PyData.keyHash P "__package__"), (.str "__package__" 167), .none⟩, ⟨(PyData.keyHash P "__loader__"), (.str "__loader__" 168), (.builtin "__main__.__loader__#opaque")⟩, ⟨(PyData.keyHash P "__spec__"), (.str "__spec__" 169), .none⟩, ⟨(PyData.keyHash P "__annotations__"), (.str "__annotations__" 170), (.ref 6)⟩, ⟨(PyData.keyHash P "__builtins__"), (.str "__builtins__" 171), (.ref 4)⟩, ⟨(PyData.keyHash P "__file__"), (.str "__file__" 173), (.str "/claim/cut.py" 172)⟩, ⟨(PyData.keyHash P "__cached__"), (.str "__cached__" 174), .none⟩, ⟨(PyData.keyHash P "_wall"), (.str "_wall" 193), (.ref 21)⟩, ⟨(PyData.keyHash P "MarkupError"), (.str "MarkupError" 224), (.ref 38)⟩, ⟨(PyData.keyHash P "TreeFault"), (.str "TreeFault" 240), (.ref 51)⟩, ⟨(PyData.keyHash P "list_above"), (.str "list_above" 252), (.ref 60)⟩, ⟨(PyData.keyHash P "remove"), (.str "remove" 260), (.ref 67)⟩, ⟨(PyData.keyHash P "is_blank"), (.str "is_blank" 269), (.ref 74)⟩, ⟨(PyData.keyHash P "keeps_spaces"), (.str "keeps_spaces" 279), (.ref 81)⟩, ⟨(PyData.keyHash P "blank_texts"), (.str "blank_texts" 290), (.ref 88)⟩, ⟨(PyData.keyHash P "Strip"), (.str "Strip" 341), (.ref 119)⟩, ⟨(PyData.keyHash P "is_stripped"), (.str "is_stripped" 353), (.ref 130)⟩, ⟨(PyData.keyHash P "strip_source"), (.str "strip_source" 364), (.ref 137)⟩, ⟨(PyData.keyHash P "PARENTS"), (.str "PARENTS" 369), (.ref 138)⟩, ⟨(PyData.keyHash P "NodeRow"), (.str "NodeRow" 411), (.ref 155)⟩, ⟨(PyData.keyHash P "Tree"), (.str "Tree" 662), (.ref 344)⟩, ⟨(PyData.keyHash P "_law_pool"), (.str "_law_pool" 675), (.ref 355)⟩, ⟨(PyData.keyHash P "_law_take"), (.str "_law_take" 684), (.ref 362)⟩, ⟨(PyData.keyHash P "_law_one"), (.str "_law_one" 692), (.ref 369)⟩, ⟨(PyData.keyHash P "_law_document"), (.str "_law_document" 712), (.ref 376)⟩, ⟨(PyData.keyHash P "_law_strips"), (.str "_law_strips" 723), (.ref 383)⟩, ⟨(PyData.keyHash P "_law_goes"), (.str "_law_goes" 729), (.ref 388)⟩, ⟨(PyData.keyHash P "_law_is_kept"), (.str "_law_is_kept" 737), (.ref 395)⟩, ⟨(PyData.keyHash P "_law_children"), (.str "_law_children" 743), (.ref 400)⟩, ⟨(PyData.keyHash P "law"), (.str "law" 749), (.ref 405)⟩] 32), #[]⟩
noncomputable def ob346 (P : Params) : Obj := ⟨.none, none, (.fields #[(.int 1 0), (.int 0 0), (.ref 20), (.int 5 0), (.int 0 0), (.ref 27), (.int 10 0), (.int 0 0), (.ref 47), (.int 13 0), (.int 0 0), (.ref 59), (.int 19 0), (.int 0 0), (.ref 66), (.int 25 0), (.int 0 0), (.ref 73), (.int 27 0), (.int 0 0), (.ref 80), (.int 35 0), (.int 0 0), (.ref 87), (.int 46 0), (.int 0 0), (.ref 94), (.int 60 0), (.int 0 0), (.ref 129), (.int 66 0), (.int 0 0), (.ref 136), (.int 76 0), (.int 0 0), (.ref 144), (.int 88 0), (.int 0 0), (.ref 165), (.int 185 0), (.int 0 0), (.ref 354), (.int 192 0), (.int 0 0), (.ref 361), (.int 199 0), (.int 0 0), (.ref 368), (.int 201 0), (.int 0 0), (.ref 375), (.int 226 0), (.int 0 0), (.ref 382), (.int 232 0), (.int 0 0), (.ref 387), (.int 241 0), (.int 0 0), (.ref 394), (.int 247 0), (.int 0 0), (.ref 399), (.int 254 0), (.int 0 0), (.ref 404)]), #[]⟩
noncomputable def ob347 (P : Params) : Obj := ⟨(.type "tuple"), none, (.seq #[] 0), #[]⟩
noncomputable def ob348 (P : Params) : Obj := ⟨.none, none, (.fields #[]), #[]⟩
noncomputable def ob349 (P : Params) : Obj := ⟨(.type "tuple"), none, (.seq #[(.str "script" 668), (.str "k" 669), (.str "cell" 670), (.str "big" 671), (.str "mixed" 672)] 0), #[]⟩
noncomputable def ob350 (P : Params) : Obj := ⟨(.type "tuple"), none, (.seq #[] 0), #[]⟩
noncomputable def ob351 (P : Params) : Obj := ⟨.none, none, (.func ⟨"_law_pool", "_law_pool", (pPar (pSt 20)), (.stmts (pSub (pSt 20))), (pSco (pSt 20)), 0, [], .none, .none, .none, .none, none, .none, .none, 0⟩), #[]⟩
noncomputable def ob352 (P : Params) : Obj := ⟨(.type "code"), none, (.fields #[(.str "_law_pool" 665), (.str "_law_pool" 666), (.str "/claim/cut.py" 667), (.int 185 0), (.int 2 0), (.int 0 0), (.int 0 0), (.int 3 0), (.ref 349), (.bool true), (.int 181 0), (.ref 350), .none, (.ref 351), (.ref 352), (.ref 353), (.int 673 0), (.int 185 0), (.str "/claim/cut.py" 674)]), #[]⟩
noncomputable def ob353 (P : Params) : Obj := ⟨(.type "function"), none, (.func ⟨"_law_pool", "_law_pool", (pPar (pSt 20)), (.stmts (pSub (pSt 20))), (pSco (pSt 20)), 3, [], .none, .none, .none, (.str "law_on0188_01" 663), none, (.ref 354), .none, 0⟩), #[]⟩
noncomputable def ob354 (P : Params) : Obj := ⟨(.type "tuple"), none, (.seq #[] 0), #[]⟩
noncomputable def ob355 (P : Params) : Obj := ⟨.none, none, (.fields #[]), #[]⟩
noncomputable def ob356 (P : Params) : Obj := ⟨(.type "tuple"), none, (.seq #[(.str "source" 679), (.str "top" 680), (.str "drawn" 681)] 0), #[]⟩
noncomputable def ob357 (P : Params) : Obj := ⟨(.type "tuple"), none, (.seq #[] 0), #[]⟩
noncomputable def ob358 (P : Params) : Obj := ⟨.none, none, (.func ⟨"_law_take", "_law_take", (pPar (pSt 21)), (.stmts (pSub (pSt 21))), (pSco (pSt 21)), 0, [], .none, .none, .none, .none, none, .none, .none, 0⟩), #[]⟩
noncomputable def ob359 (P : Params) : Obj := ⟨(.type "code"), none, (.fields #[(.str "_law_take" 676), (.str "_law_take" 677), (.str "/claim/cut.py" 678), (.int 192 0), (.int 2 0), (.int 0 0), (.int 0 0), (.int 3 0), (.ref 356), (.bool true), (.int 181 0), (.ref 357), .none, (.ref 358), (.ref 359), (.ref 360), (.int 682 0), (.int 192 0), (.str "/claim/cut.py" 683)]), #[]⟩
noncomputable def ob360 (P : Params) : Obj := ⟨(.type "function"), none, (.func ⟨"_law_take", "_law_take", (pPar (pSt 21)), (.stmts (pSub (pSt 21))), (pSco (pSt 21)), 3, [], .none, .none, .none, (.str "law_on0188_01" 663), none, (.ref 361), .none, 0⟩), #[]⟩
noncomputable def ob361 (P : Params) : Obj := ⟨(.type "tuple"), none, (.seq #[] 0), #[]⟩
noncomputable def ob362 (P : Params) : Obj := ⟨.none, none, (.fields #[]), #[]⟩
noncomputable def ob363 (P : Params) : Obj := ⟨(.type "tuple"), none, (.seq #[(.str "source" 688), (.str "things" 689)] 0), #[]⟩
noncomputable def ob364 (P : Params) : Obj := ⟨(.type "tuple"), none, (.seq #[] 0), #[]⟩
noncomputable def ob365 (P : Params) : Obj := ⟨.none, none, (.func ⟨"_law_one", "_law_one", (pPar (pSt 22)), (.stmts (pSub (pSt 22))), (pSco (pSt 22)), 0, [], .none, .none, .none, .none, none, .none, .none, 0⟩), #[]⟩
noncomputable def ob366 (P : Params) : Obj := ⟨(.type "code"), none, (.fields #[(.str "_law_one" 685), (.str "_law_one" 686), (.str "/claim/cut.py" 687), (.int 199 0), (.int 2 0), (.int 0 0), (.int 0 0), (.int 3 0), (.ref 363), (.bool true), (.int 181 0), (.ref 364), .none, (.ref 365), (.ref 366), (.ref 367), (.int 690 0), (.int 199 0), (.str "/claim/cut.py" 691)]), #[]⟩
noncomputable def ob367 (P : Params) : Obj := ⟨(.type "function"), none, (.func ⟨"_law_one", "_law_one", (pPar (pSt 22)), (.stmts (pSub (pSt 22))), (pSco (pSt 22)), 3, [], .none, .none, .none, (.str "law_on0188_01" 663), none, (.ref 368), .none, 0⟩), #[]⟩
noncomputable def ob368 (P : Params) : Obj := ⟨(.type "tuple"), none, (.seq #[] 0), #[]⟩
noncomputable def ob369 (P : Params) : Obj := ⟨.none, none, (.fields #[]), #[]⟩
noncomputable def ob370 (P : Params) : Obj := ⟨(.type "tuple"), none, (.seq #[(.str "source" 696), (.str "tree" 697), (.str "root" 698), (.str "rows" 699), (.str "parents" 700), (.str "turn" 701), (.str "at" 702), (.str "way" 703), (.str "parent" 704), (.str "uri" 705), (.str "local" 706), (.str "word" 707), (.str "node" 708), (.str "text" 709)] 0), #[]⟩
noncomputable def ob371 (P : Params) : Obj := ⟨(.type "tuple"), none, (.seq #[] 0), #[]⟩
noncomputable def ob372 (P : Params) : Obj := ⟨.none, none, (.func ⟨"_law_document", "_law_document", (pPar (pSt 23)), (.stmts (pSub (pSt 23))), (pSco (pSt 23)), 0, [], .none, .none, .none, .none, none, .none, .none, 0⟩), #[]⟩
noncomputable def ob373 (P : Params) : Obj := ⟨(.type "code"), none, (.fields #[(.str "_law_document" 693), (.str "_law_document" 694), (.str "/claim/cut.py" 695), (.int 201 0), (.int 1 0), (.int 0 0), (.int 0 0), (.int 3 0), (.ref 370), (.bool true), (.int 181 0), (.ref 371), .none, (.ref 372), (.ref 373), (.ref 374), (.int 710 0), (.int 201 0), (.str "/claim/cut.py" 711)]), #[]⟩
noncomputable def ob374 (P : Params) : Obj := ⟨(.type "function"), none, (.func ⟨"_law_document", "_law_document", (pPar (pSt 23)), (.stmts (pSub (pSt 23))), (pSco (pSt 23)), 3, [], .none, .none, .none, (.str "law_on0188_01" 663), none, (.ref 375), .none, 0⟩), #[]⟩
noncomputable def ob375 (P : Params) : Obj := ⟨(.type "tuple"), none, (.seq #[] 0), #[]⟩
noncomputable def ob376 (P : Params) : Obj := ⟨.none, none, (.fields #[]), #[]⟩
noncomputable def ob377 (P : Params) : Obj := ⟨(.type "tuple"), none, (.seq #[(.str "source" 716), (.str "found" 717), (.str "turn" 718), (.str "uri" 719), (.str "local" 720)] 0), #[]⟩
noncomputable def ob378 (P : Params) : Obj := ⟨(.type "tuple"), none, (.seq #[] 0), #[]⟩
noncomputable def ob379 (P : Params) : Obj := ⟨.none, none, (.func ⟨"_law_strips", "_law_strips", (pPar (pSt 24)), (.stmts (pSub (pSt 24))), (pSco (pSt 24)), 0, [], .none, .none, .none, .none, none, .none, .none, 0⟩), #[]⟩
noncomputable def ob380 (P : Params) : Obj := ⟨(.type "code"), none, (.fields #[(.str "_law_strips" 713), (.str "_law_strips" 714), (.str "/claim/cut.py" 715), (.int 226 0), (.int 1 0), (.int 0 0), (.int 0 0), (.int 3 0), (.ref 377), (.bool true), (.int 181 0), (.ref 378), .none, (.ref 379), (.ref 380), (.ref 381), (.int 721 0), (.int 226 0), (.str "/claim/cut.py" 722)]), #[]⟩
noncomputable def ob381 (P : Params) : Obj := ⟨(.type "function"), none, (.func ⟨"_law_strips", "_law_strips", (pPar (pSt 24)), (.stmts (pSub (pSt 24))), (pSco (pSt 24)), 3, [], .none, .none, .none, (.str "law_on0188_01" 663), none, (.ref 382), .none, 0⟩), #[]⟩
noncomputable def ob382 (P : Params) : Obj := ⟨(.type "tuple"), none, (.seq #[] 0), #[]⟩
noncomputable def ob383 (P : Params) : Obj := ⟨.none, none, (.fields #[]), #[]⟩
noncomputable def ob384 (P : Params) : Obj := ⟨.none, none, (.func ⟨"_law_goes", "_law_goes", (pPar (pSt 25)), (.stmts (pSub (pSt 25))), (pSco (pSt 25)), 0, [], .none, .none, .none, .none, none, .none, .none, 0⟩), #[]⟩
noncomputable def ob385 (P : Params) : Obj := ⟨(.type "code"), none, (.fields #[(.str "_law_goes" 724), (.str "_law_goes" 725), (.str "/claim/cut.py" 726), (.int 232 0), (.int 3 0), (.int 0 0), (.int 0 0), (.int 3 0), (.ref 384), (.bool true), (.int 181 0), (.ref 385), .none, .none, .none, (.ref 386), (.int 727 0), (.int 232 0), (.str "/claim/cut.py" 728)]), #[]⟩
noncomputable def ob386 (P : Params) : Obj := ⟨(.type "function"), none, (.func ⟨"_law_goes", "_law_goes", (pPar (pSt 25)), (.stmts (pSub (pSt 25))), (pSco (pSt 25)), 3, [], .none, .none, .none, (.str "law_on0188_01" 663), none, (.ref 387), .none, 0⟩), #[]⟩
noncomputable def ob387 (P : Params) : Obj := ⟨(.type "tuple"), none, (.seq #[] 0), #[]⟩
noncomputable def ob388 (P : Params) : Obj := ⟨.none, none, (.fields #[]), #[]⟩
noncomputable def ob389 (P : Params) : Obj := ⟨(.type "tuple"), none, (.seq #[(.str "rows" 733), (.str "at" 734)] 0), #[]⟩
noncomputable def ob390 (P : Params) : Obj := ⟨(.type "tuple"), none, (.seq #[] 0), #[]⟩
noncomputable def ob391 (P : Params) : Obj := ⟨.none, none, (.func ⟨"_law_is_kept", "_law_is_kept", (pPar (pSt 26)), (.stmts (pSub (pSt 26))), (pSco (pSt 26)), 0, [], .none, .none, .none, .none, none, .none, .none, 0⟩), #[]⟩
noncomputable def ob392 (P : Params) : Obj := ⟨(.type "code"), none, (.fields #[(.str "_law_is_kept" 730), (.str "_law_is_kept" 731), (.str "/claim/cut.py" 732), (.int 241 0), (.int 2 0), (.int 0 0), (.int 0 0), (.int 3 0), (.ref 389), (.bool true), (.int 181 0), (.ref 390), .none, (.ref 391), (.ref 392), (.ref 393), (.int 735 0), (.int 241 0), (.str "/claim/cut.py" 736)]), #[]⟩
noncomputable def ob393 (P : Params) : Obj := ⟨(.type "function"), none, (.func ⟨"_law_is_kept", "_law_is_kept", (pPar (pSt 26)), (.stmts (pSub (pSt 26))), (pSco (pSt 26)), 3, [], .none, .none, .none, (.str "law_on0188_01" 663), none, (.ref 394), .none, 0⟩), #[]⟩
noncomputable def ob394 (P : Params) : Obj := ⟨(.type "tuple"), none, (.seq #[] 0), #[]⟩
noncomputable def ob395 (P : Params) : Obj := ⟨.none, none, (.fields #[]), #[]⟩
noncomputable def ob396 (P : Params) : Obj := ⟨.none, none, (.func ⟨"_law_children", "_law_children", (pPar (pSt 27)), (.stmts (pSub (pSt 27))), (pSco (pSt 27)), 0, [], .none, .none, .none, .none, none, .none, .none, 0⟩), #[]⟩
noncomputable def ob397 (P : Params) : Obj := ⟨(.type "code"), none, (.fields #[(.str "_law_children" 738), (.str "_law_children" 739), (.str "/claim/cut.py" 740), (.int 247 0), (.int 3 0), (.int 0 0), (.int 0 0), (.int 3 0), (.ref 396), (.bool true), (.int 181 0), (.ref 397), .none, .none, .none, (.ref 398), (.int 741 0), (.int 247 0), (.str "/claim/cut.py" 742)]), #[]⟩
noncomputable def ob398 (P : Params) : Obj := ⟨(.type "function"), none, (.func ⟨"_law_children", "_law_children", (pPar (pSt 27)), (.stmts (pSub (pSt 27))), (pSco (pSt 27)), 3, [], .none, .none, .none, (.str "law_on0188_01" 663), none, (.ref 399), .none, 0⟩), #[]⟩
noncomputable def ob399 (P : Params) : Obj := ⟨(.type "tuple"), none, (.seq #[] 0), #[]⟩
noncomputable def ob400 (P : Params) : Obj := ⟨.none, none, (.fields #[]), #[]⟩
noncomputable def ob401 (P : Params) : Obj := ⟨.none, none, (.func ⟨"law", "law", (pPar (pSt 28)), (.stmts (pSub (pSt 28))), (pSco (pSt 28)), 0, [], .none, .none, .none, .none, none, .none, .none, 0⟩), #[]⟩
noncomputable def ob402 (P : Params) : Obj := ⟨(.type "code"), none, (.fields #[(.str "law" 744), (.str "law" 745), (.str "/claim/cut.py" 746), (.int 254 0), (.int 1 0), (.int 0 0), (.int 0 0), (.int 3 0), (.ref 401), (.bool true), (.int 181 0), (.ref 402), .none, .none, .none, (.ref 403), (.int 747 0), (.int 254 0), (.str "/claim/cut.py" 748)]), #[]⟩
noncomputable def ob403 (P : Params) : Obj := ⟨(.type "function"), none, (.func ⟨"law", "law", (pPar (pSt 28)), (.stmts (pSub (pSt 28))), (pSco (pSt 28)), 3, [], .none, .none, .none, (.str "law_on0188_01" 663), none, (.ref 404), .none, 0⟩), #[]⟩
noncomputable def hp0 (P : Params) : Heap := ⟨⟨[boot_o_0 P, boot_o_1 P, boot_o_2 P, boot_o_3 P, boot_o_4 P, boot_o_5 P, boot_o_6 P, boot_o_7 P, boot_o_8 P, boot_o_9 P, boot_o_10 P, ob0 P, ob1 P, ob2 P, ob3 P]⟩, {}⟩
noncomputable def tr1 (P : Params) : BT := (.node (boot_o_0 P) (.node (boot_o_1 P) (.node (boot_o_3 P) (.node (boot_o_7 P) .nil .nil) (.node (ob0 P) .nil .nil)) (.node (boot_o_5 P) (.node (boot_o_9 P) .nil .nil) (.node (ob2 P) .nil .nil))) (.node (boot_o_2 P) (.node (boot_o_4 P) (.node (boot_o_8 P) .nil .nil) (.node (ob1 P) .nil .nil)) (.node (boot_o_6 P) (.node (boot_o_10 P) .nil .nil) (.node (ob3 P) .nil .nil))))
noncomputable def tr2 (P : Params) : BT := (.node (boot_o_0 P) (.node (boot_o_1 P) (.node (ob5 P) (.node (boot_o_7 P) (.node (ob7 P) (.node (ob23 P) (.node (ob55 P) .nil .nil) (.node (ob87 P) .nil .nil)) (.node (ob39 P) (.node (ob71 P) .nil .nil) (.node (ob103 P) .nil .nil))) (.node (ob15 P) (.node (ob31 P) (.node (ob63 P) .nil .nil) (.node (ob95 P) .nil .nil)) (.node (ob47 P) (.node (ob79 P) .nil .nil) (.node (ob111 P) .nil .nil)))) (.node (ob0 P) (.node (ob11 P) (.node (ob27 P) (.node (ob59 P) .nil .nil) (.node (ob91 P) .nil .nil)) (.node (ob43 P) (.node (ob75 P) .nil .nil) (.node (ob107 P) .nil .nil))) (.node (ob19 P) (.node (ob35 P) (.node (ob67 P) .nil .nil) (.node (ob99 P) .nil .nil)) (.node (ob51 P) (.node (ob83 P) .nil .nil) (.node (ob115 P) .nil .nil))))) (.node (boot_o_5 P) (.node (boot_o_9 P) (.node (ob9 P) (.node (ob25 P) (.node (ob57 P) .nil .nil) (.node (ob89 P) .nil .nil)) (.node (ob41 P) (.node (ob73 P) .nil .nil) (.node (ob105 P) .nil .nil))) (.node (ob17 P) (.node (ob33 P) (.node (ob65 P) .nil .nil) (.node (ob97 P) .nil .nil)) (.node (ob49 P) (.node (ob81 P) .nil .nil) (.node (ob113 P) .nil .nil)))) (.node (ob2 P) (.node (ob13 P) (.node (ob29 P) (.node (ob61 P) .nil .nil) (.node (ob93 P) .nil .nil)) (.node (ob45 P) (.node (ob77 P) .nil .nil) (.node (ob109 P) .nil .nil))) (.node (ob21 P) (.node (ob37 P) (.node (ob69 P) .nil .nil) (.node (ob101 P) .nil .nil)) (.node (ob53 P) (.node (ob85 P) .nil .nil) .nil))))) (.node (ob4 P) (.node (boot_o_4 P) (.node (boot_o_8 P) (.node (ob8 P) (.node (ob24 P) (.node (ob56 P) .nil .nil) (.node (ob88 P) .nil .nil)) (.node (ob40 P) (.node (ob72 P) .nil .nil) (.node (ob104 P) .nil .nil))) (.node (ob16 P) (.node (ob32 P) (.node (ob64 P) .nil .nil) (.node (ob96 P) .nil .nil)) (.node (ob48 P) (.node (ob80 P) .nil .nil) (.node (ob112 P) .nil .nil)))) (.node (ob6 P) (.node (ob12 P) (.node (ob28 P) (.node (ob60 P) .nil .nil) (.node (ob92 P) .nil .nil)) (.node (ob44 P) (.node (ob76 P) .nil .nil) (.node (ob108 P) .nil .nil))) (.node (ob20 P) (.node (ob36 P) (.node (ob68 P) .nil .nil) (.node (ob100 P) .nil .nil)) (.node (ob52 P) (.node (ob84 P) .nil .nil) .nil)))) (.node (boot_o_6 P) (.node (boot_o_10 P) (.node (ob10 P) (.node (ob26 P) (.node (ob58 P) .nil .nil) (.node (ob90 P) .nil .nil)) (.node (ob42 P) (.node (ob74 P) .nil .nil) (.node (ob106 P) .nil .nil))) (.node (ob18 P) (.node (ob34 P) (.node (ob66 P) .nil .nil) (.node (ob98 P) .nil .nil)) (.node (ob50 P) (.node (ob82 P) .nil .nil) (.node (ob114 P) .nil .nil)))) (.node (ob3 P) (.node (ob14 P) (.node (ob30 P) (.node (ob62 P) .nil .nil) (.node (ob94 P) .nil .nil)) (.node (ob46 P) (.node (ob78 P) .nil .nil) (.node (ob110 P) .nil .nil))) (.node (ob22 P) (.node (ob38 P) (.node (ob70 P) .nil .nil) (.node (ob102 P) .nil .nil)) (.node (ob54 P) (.node (ob86 P) .nil .nil) .nil))))))
noncomputable def tr3 (P : Params) : BT := (.node (boot_o_0 P) (.node (boot_o_1 P) (.node (ob116 P) (.node (boot_o_7 P) (.node (ob7 P) (.node (ob23 P) (.node (ob55 P) (.node (ob121 P) .nil .nil) .nil) (.node (ob87 P) (.node (ob153 P) .nil .nil) .nil)) (.node (ob39 P) (.node (ob71 P) (.node (ob137 P) .nil .nil) .nil) (.node (ob103 P) .nil .nil))) (.node (ob15 P) (.node (ob31 P) (.node (ob63 P) (.node (ob129 P) .nil .nil) .nil) (.node (ob95 P) .nil .nil)) (.node (ob47 P) (.node (ob79 P) (.node (ob145 P) .nil .nil) .nil) (.node (ob111 P) .nil .nil)))) (.node (ob0 P) (.node (ob11 P) (.node (ob27 P) (.node (ob59 P) (.node (ob125 P) .nil .nil) .nil) (.node (ob91 P) .nil .nil)) (.node (ob43 P) (.node (ob75 P) (.node (ob141 P) .nil .nil) .nil) (.node (ob107 P) .nil .nil))) (.node (ob19 P) (.node (ob35 P) (.node (ob67 P) (.node (ob133 P) .nil .nil) .nil) (.node (ob99 P) .nil .nil)) (.node (ob51 P) (.node (ob83 P) (.node (ob149 P) .nil .nil) .nil) (.node (ob115 P) .nil .nil))))) (.node (boot_o_5 P) (.node (boot_o_9 P) (.node (ob9 P) (.node (ob25 P) (.node (ob57 P) (.node (ob123 P) .nil .nil) .nil) (.node (ob89 P) .nil .nil)) (.node (ob41 P) (.node (ob73 P) (.node (ob139 P) .nil .nil) .nil) (.node (ob105 P) .nil .nil))) (.node (ob17 P) (.node (ob33 P) (.node (ob65 P) (.node (ob131 P) .nil .nil) .nil) (.node (ob97 P) .nil .nil)) (.node (ob49 P) (.node (ob81 P) (.node (ob147 P) .nil .nil) .nil) (.node (ob113 P) .nil .nil)))) (.node (ob2 P) (.node (ob13 P) (.node (ob29 P) (.node (ob61 P) (.node (ob127 P) .nil .nil) .nil) (.node (ob93 P) .nil .nil)) (.node (ob45 P) (.node (ob77 P) (.node (ob143 P) .nil .nil) .nil) (.node (ob109 P) .nil .nil))) (.node (ob21 P) (.node (ob37 P) (.node (ob69 P) (.node (ob135 P) .nil .nil) .nil) (.node (ob101 P) .nil .nil)) (.node (ob53 P) (.node (ob85 P) (.node (ob151 P) .nil .nil) .nil) (.node (ob119 P) .nil .nil)))))) (.node (ob4 P) (.node (boot_o_4 P) (.node (boot_o_8 P) (.node (ob8 P) (.node (ob24 P) (.node (ob56 P) (.node (ob122 P) .nil .nil) .nil) (.node (ob88 P) .nil .nil)) (.node (ob40 P) (.node (ob72 P) (.node (ob138 P) .nil .nil) .nil) (.node (ob104 P) .nil .nil))) (.node (ob16 P) (.node (ob32 P) (.node (ob64 P) (.node (ob130 P) .nil .nil) .nil) (.node (ob96 P) .nil .nil)) (.node (ob48 P) (.node (ob80 P) (.node (ob146 P) .nil .nil) .nil) (.node (ob112 P) .nil .nil)))) (.node (ob117 P) (.node (ob12 P) (.node (ob28 P) (.node (ob60 P) (.node (ob126 P) .nil .nil) .nil) (.node (ob92 P) .nil .nil)) (.node (ob44 P) (.node (ob76 P) (.node (ob142 P) .nil .nil) .nil) (.node (ob108 P) .nil .nil))) (.node (ob20 P) (.node (ob36 P) (.node (ob68 P) (.node (ob134 P) .nil .nil) .nil) (.node (ob100 P) .nil .nil)) (.node (ob52 P) (.node (ob84 P) (.node (ob150 P) .nil .nil) .nil) (.node (ob118 P) .nil .nil))))) (.node (boot_o_6 P) (.node (boot_o_10 P) (.node (ob10 P) (.node (ob26 P) (.node (ob58 P) (.node (ob124 P) .nil .nil) .nil) (.node (ob90 P) .nil .nil)) (.node (ob42 P) (.node (ob74 P) (.node (ob140 P) .nil .nil) .nil) (.node (ob106 P) .nil .nil))) (.node (ob18 P) (.node (ob34 P) (.node (ob66 P) (.node (ob132 P) .nil .nil) .nil) (.node (ob98 P) .nil .nil)) (.node (ob50 P) (.node (ob82 P) (.node (ob148 P) .nil .nil) .nil) (.node (ob114 P) .nil .nil)))) (.node (ob3 P) (.node (ob14 P) (.node (ob30 P) (.node (ob62 P) (.node (ob128 P) .nil .nil) .nil) (.node (ob94 P) .nil .nil)) (.node (ob46 P) (.node (ob78 P) (.node (ob144 P) .nil .nil) .nil) (.node (ob110 P) .nil .nil))) (.node (ob22 P) (.node (ob38 P) (.node (ob70 P) (.node (ob136 P) .nil .nil) .nil) (.node (ob102 P) .nil .nil)) (.node (ob54 P) (.node (ob86 P) (.node (ob152 P) .nil .nil) .nil) (.node (ob120 P) .nil .nil)))))))
noncomputable def tr4 (P : Params) : BT := (.node (boot_o_0 P) (.node (boot_o_1 P) (.node (ob154 P) (.node (boot_o_7 P) (.node (ob7 P) (.node (ob23 P) (.node (ob55 P) (.node (ob121 P) (.node (ob251 P) .nil .nil) .nil) (.node (ob187 P) (.node (ob315 P) .nil .nil) .nil)) (.node (ob87 P) (.node (ob153 P) (.node (ob283 P) .nil .nil) .nil) (.node (ob219 P) .nil .nil))) (.node (ob39 P) (.node (ob71 P) (.node (ob137 P) (.node (ob267 P) .nil .nil) .nil) (.node (ob203 P) (.node (ob331 P) .nil .nil) .nil)) (.node (ob103 P) (.node (ob171 P) (.node (ob299 P) .nil .nil) .nil) (.node (ob235 P) .nil .nil)))) (.node (ob15 P) (.node (ob31 P) (.node (ob63 P) (.node (ob129 P) (.node (ob259 P) .nil .nil) .nil) (.node (ob195 P) (.node (ob323 P) .nil .nil) .nil)) (.node (ob95 P) (.node (ob163 P) (.node (ob291 P) .nil .nil) .nil) (.node (ob227 P) .nil .nil))) (.node (ob47 P) (.node (ob79 P) (.node (ob145 P) (.node (ob275 P) .nil .nil) .nil) (.node (ob211 P) (.node (ob339 P) .nil .nil) .nil)) (.node (ob111 P) (.node (ob179 P) (.node (ob307 P) .nil .nil) .nil) (.node (ob243 P) .nil .nil))))) (.node (ob0 P) (.node (ob11 P) (.node (ob27 P) (.node (ob59 P) (.node (ob125 P) (.node (ob255 P) .nil .nil) .nil) (.node (ob191 P) (.node (ob319 P) .nil .nil) .nil)) (.node (ob91 P) (.node (ob159 P) (.node (ob287 P) .nil .nil) .nil) (.node (ob223 P) .nil .nil))) (.node (ob43 P) (.node (ob75 P) (.node (ob141 P) (.node (ob271 P) .nil .nil) .nil) (.node (ob207 P) (.node (ob335 P) .nil .nil) .nil)) (.node (ob107 P) (.node (ob175 P) (.node (ob303 P) .nil .nil) .nil) (.node (ob239 P) .nil .nil)))) (.node (ob19 P) (.node (ob35 P) (.node (ob67 P) (.node (ob133 P) (.node (ob263 P) .nil .nil) .nil) (.node (ob199 P) (.node (ob327 P) .nil .nil) .nil)) (.node (ob99 P) (.node (ob167 P) (.node (ob295 P) .nil .nil) .nil) (.node (ob231 P) .nil .nil))) (.node (ob51 P) (.node (ob83 P) (.node (ob149 P) (.node (ob279 P) .nil .nil) .nil) (.node (ob215 P) (.node (ob343 P) .nil .nil) .nil)) (.node (ob115 P) (.node (ob183 P) (.node (ob311 P) .nil .nil) .nil) (.node (ob247 P) .nil .nil)))))) (.node (boot_o_5 P) (.node (boot_o_9 P) (.node (ob9 P) (.node (ob25 P) (.node (ob57 P) (.node (ob123 P) (.node (ob253 P) .nil .nil) .nil) (.node (ob189 P) (.node (ob317 P) .nil .nil) .nil)) (.node (ob89 P) (.node (ob157 P) (.node (ob285 P) .nil .nil) .nil) (.node (ob221 P) .nil .nil))) (.node (ob41 P) (.node (ob73 P) (.node (ob139 P) (.node (ob269 P) .nil .nil) .nil) (.node (ob205 P) (.node (ob333 P) .nil .nil) .nil)) (.node (ob105 P) (.node (ob173 P) (.node (ob301 P) .nil .nil) .nil) (.node (ob237 P) .nil .nil)))) (.node (ob17 P) (.node (ob33 P) (.node (ob65 P) (.node (ob131 P) (.node (ob261 P) .nil .nil) .nil) (.node (ob197 P) (.node (ob325 P) .nil .nil) .nil)) (.node (ob97 P) (.node (ob165 P) (.node (ob293 P) .nil .nil) .nil) (.node (ob229 P) .nil .nil))) (.node (ob49 P) (.node (ob81 P) (.node (ob147 P) (.node (ob277 P) .nil .nil) .nil) (.node (ob213 P) (.node (ob341 P) .nil .nil) .nil)) (.node (ob113 P) (.node (ob181 P) (.node (ob309 P) .nil .nil) .nil) (.node (ob245 P) .nil .nil))))) (.node (ob2 P) (.node (ob13 P) (.node (ob29 P) (.node (ob61 P) (.node (ob127 P) (.node (ob257 P) .nil .nil) .nil) (.node (ob193 P) (.node (ob321 P) .nil .nil) .nil)) (.node (ob93 P) (.node (ob161 P) (.node (ob289 P) .nil .nil) .nil) (.node (ob225 P) .nil .nil))) (.node (ob45 P) (.node (ob77 P) (.node (ob143 P) (.node (ob273 P) .nil .nil) .nil) (.node (ob209 P) (.node (ob337 P) .nil .nil) .nil)) (.node (ob109 P) (.node (ob177 P) (.node (ob305 P) .nil .nil) .nil) (.node (ob241 P) .nil .nil)))) (.node (ob21 P) (.node (ob37 P) (.node (ob69 P) (.node (ob135 P) (.node (ob265 P) .nil .nil) .nil) (.node (ob201 P) (.node (ob329 P) .nil .nil) .nil)) (.node (ob101 P) (.node (ob169 P) (.node (ob297 P) .nil .nil) .nil) (.node (ob233 P) .nil .nil))) (.node (ob53 P) (.node (ob85 P) (.node (ob151 P) (.node (ob281 P) .nil .nil) .nil) (.node (ob217 P) .nil .nil)) (.node (ob119 P) (.node (ob185 P) (.node (ob313 P) .nil .nil) .nil) (.node (ob249 P) .nil .nil))))))) (.node (ob4 P) (.node (boot_o_4 P) (.node (boot_o_8 P) (.node (ob8 P) (.node (ob24 P) (.node (ob56 P) (.node (ob122 P) (.node (ob252 P) .nil .nil) .nil) (.node (ob188 P) (.node (ob316 P) .nil .nil) .nil)) (.node (ob88 P) (.node (ob156 P) (.node (ob284 P) .nil .nil) .nil) (.node (ob220 P) .nil .nil))) (.node (ob40 P) (.node (ob72 P) (.node (ob138 P) (.node (ob268 P) .nil .nil) .nil) (.node (ob204 P) (.node (ob332 P) .nil .nil) .nil)) (.node (ob104 P) (.node (ob172 P) (.node (ob300 P) .nil .nil) .nil) (.node (ob236 P) .nil .nil)))) (.node (ob16 P) (.node (ob32 P) (.node (ob64 P) (.node (ob130 P) (.node (ob260 P) .nil .nil) .nil) (.node (ob196 P) (.node (ob324 P) .nil .nil) .nil)) (.node (ob96 P) (.node (ob164 P) (.node (ob292 P) .nil .nil) .nil) (.node (ob228 P) .nil .nil))) (.node (ob48 P) (.node (ob80 P) (.node (ob146 P) (.node (ob276 P) .nil .nil) .nil) (.node (ob212 P) (.node (ob340 P) .nil .nil) .nil)) (.node (ob112 P) (.node (ob180 P) (.node (ob308 P) .nil .nil) .nil) (.node (ob244 P) .nil .nil))))) (.node (ob155 P) (.node (ob12 P) (.node (ob28 P) (.node (ob60 P) (.node (ob126 P) (.node (ob256 P) .nil .nil) .nil) (.node (ob192 P) (.node (ob320 P) .nil .nil) .nil)) (.node (ob92 P) (.node (ob160 P) (.node (ob288 P) .nil .nil) .nil) (.node (ob224 P) .nil .nil))) (.node (ob44 P) (.node (ob76 P) (.node (ob142 P) (.node (ob272 P) .nil .nil) .nil) (.node (ob208 P) (.node (ob336 P) .nil .nil) .nil)) (.node (ob108 P) (.node (ob176 P) (.node (ob304 P) .nil .nil) .nil) (.node (ob240 P) .nil .nil)))) (.node (ob20 P) (.node (ob36 P) (.node (ob68 P) (.node (ob134 P) (.node (ob264 P) .nil .nil) .nil) (.node (ob200 P) (.node (ob328 P) .nil .nil) .nil)) (.node (ob100 P) (.node (ob168 P) (.node (ob296 P) .nil .nil) .nil) (.node (ob232 P) .nil .nil))) (.node (ob52 P) (.node (ob84 P) (.node (ob150 P) (.node (ob280 P) .nil .nil) .nil) (.node (ob216 P) (.node (ob344 P) .nil .nil) .nil)) (.node (ob118 P) (.node (ob184 P) (.node (ob312 P) .nil .nil) .nil) (.node (ob248 P) .nil .nil)))))) (.node (boot_o_6 P) (.node (boot_o_10 P) (.node (ob10 P) (.node (ob26 P) (.node (ob58 P) (.node (ob124 P) (.node (ob254 P) .nil .nil) .nil) (.node (ob190 P) (.node (ob318 P) .nil .nil) .nil)) (.node (ob90 P) (.node (ob158 P) (.node (ob286 P) .nil .nil) .nil) (.node (ob222 P) .nil .nil))) (.node (ob42 P) (.node (ob74 P) (.node (ob140 P) (.node (ob270 P) .nil .nil) .nil) (.node (ob206 P) (.node (ob334 P) .nil .nil) .nil)) (.node (ob106 P) (.node (ob174 P) (.node (ob302 P) .nil .nil) .nil) (.node (ob238 P) .nil .nil)))) (.node (ob18 P) (.node (ob34 P) (.node (ob66 P) (.node (ob132 P) (.node (ob262 P) .nil .nil) .nil) (.node (ob198 P) (.node (ob326 P) .nil .nil) .nil)) (.node (ob98 P) (.node (ob166 P) (.node (ob294 P) .nil .nil) .nil) (.node (ob230 P) .nil .nil))) (.node (ob50 P) (.node (ob82 P) (.node (ob148 P) (.node (ob278 P) .nil .nil) .nil) (.node (ob214 P) (.node (ob342 P) .nil .nil) .nil)) (.node (ob114 P) (.node (ob182 P) (.node (ob310 P) .nil .nil) .nil) (.node (ob246 P) .nil .nil))))) (.node (ob3 P) (.node (ob14 P) (.node (ob30 P) (.node (ob62 P) (.node (ob128 P) (.node (ob258 P) .nil .nil) .nil) (.node (ob194 P) (.node (ob322 P) .nil .nil) .nil)) (.node (ob94 P) (.node (ob162 P) (.node (ob290 P) .nil .nil) .nil) (.node (ob226 P) .nil .nil))) (.node (ob46 P) (.node (ob78 P) (.node (ob144 P) (.node (ob274 P) .nil .nil) .nil) (.node (ob210 P) (.node (ob338 P) .nil .nil) .nil)) (.node (ob110 P) (.node (ob178 P) (.node (ob306 P) .nil .nil) .nil) (.node (ob242 P) .nil .nil)))) (.node (ob22 P) (.node (ob38 P) (.node (ob70 P) (.node (ob136 P) (.node (ob266 P) .nil .nil) .nil) (.node (ob202 P) (.node (ob330 P) .nil .nil) .nil)) (.node (ob102 P) (.node (ob170 P) (.node (ob298 P) .nil .nil) .nil) (.node (ob234 P) .nil .nil))) (.node (ob54 P) (.node (ob86 P) (.node (ob152 P) (.node (ob282 P) .nil .nil) .nil) (.node (ob218 P) .nil .nil)) (.node (ob120 P) (.node (ob186 P) (.node (ob314 P) .nil .nil) .nil) (.node (ob250 P) .nil .nil))))))))
noncomputable def tr5 (P : Params) : BT := (.node (boot_o_0 P) (.node (boot_o_1 P) (.node (ob345 P) (.node (boot_o_7 P) (.node (ob7 P) (.node (ob23 P) (.node (ob55 P) (.node (ob121 P) (.node (ob251 P) .nil .nil) (.node (ob381 P) .nil .nil)) (.node (ob187 P) (.node (ob315 P) .nil .nil) .nil)) (.node (ob87 P) (.node (ob153 P) (.node (ob283 P) .nil .nil) .nil) (.node (ob219 P) (.node (ob349 P) .nil .nil) .nil))) (.node (ob39 P) (.node (ob71 P) (.node (ob137 P) (.node (ob267 P) .nil .nil) (.node (ob397 P) .nil .nil)) (.node (ob203 P) (.node (ob331 P) .nil .nil) .nil)) (.node (ob103 P) (.node (ob171 P) (.node (ob299 P) .nil .nil) .nil) (.node (ob235 P) (.node (ob365 P) .nil .nil) .nil)))) (.node (ob15 P) (.node (ob31 P) (.node (ob63 P) (.node (ob129 P) (.node (ob259 P) .nil .nil) (.node (ob389 P) .nil .nil)) (.node (ob195 P) (.node (ob323 P) .nil .nil) .nil)) (.node (ob95 P) (.node (ob163 P) (.node (ob291 P) .nil .nil) .nil) (.node (ob227 P) (.node (ob357 P) .nil .nil) .nil))) (.node (ob47 P) (.node (ob79 P) (.node (ob145 P) (.node (ob275 P) .nil .nil) .nil) (.node (ob211 P) (.node (ob339 P) .nil .nil) .nil)) (.node (ob111 P) (.node (ob179 P) (.node (ob307 P) .nil .nil) .nil) (.node (ob243 P) (.node (ob373 P) .nil .nil) .nil))))) (.node (ob0 P) (.node (ob11 P) (.node (ob27 P) (.node (ob59 P) (.node (ob125 P) (.node (ob255 P) .nil .nil) (.node (ob385 P) .nil .nil)) (.node (ob191 P) (.node (ob319 P) .nil .nil) .nil)) (.node (ob91 P) (.node (ob159 P) (.node (ob287 P) .nil .nil) .nil) (.node (ob223 P) (.node (ob353 P) .nil .nil) .nil))) (.node (ob43 P) (.node (ob75 P) (.node (ob141 P) (.node (ob271 P) .nil .nil) (.node (ob401 P) .nil .nil)) (.node (ob207 P) (.node (ob335 P) .nil .nil) .nil)) (.node (ob107 P) (.node (ob175 P) (.node (ob303 P) .nil .nil) .nil) (.node (ob239 P) (.node (ob369 P) .nil .nil) .nil)))) (.node (ob19 P) (.node (ob35 P) (.node (ob67 P) (.node (ob133 P) (.node (ob263 P) .nil .nil) (.node (ob393 P) .nil .nil)) (.node (ob199 P) (.node (ob327 P) .nil .nil) .nil)) (.node (ob99 P) (.node (ob167 P) (.node (ob295 P) .nil .nil) .nil) (.node (ob231 P) (.node (ob361 P) .nil .nil) .nil))) (.node (ob51 P) (.node (ob83 P) (.node (ob149 P) (.node (ob279 P) .nil .nil) .nil) (.node (ob215 P) (.node (ob343 P) .nil .nil) .nil)) (.node (ob115 P) (.node (ob183 P) (.node (ob311 P) .nil .nil) .nil) (.node (ob247 P) (.node (ob377 P) .nil .nil) .nil)))))) (.node (boot_o_5 P) (.node (boot_o_9 P) (.node (ob9 P) (.node (ob25 P) (.node (ob57 P) (.node (ob123 P) (.node (ob253 P) .nil .nil) (.node (ob383 P) .nil .nil)) (.node (ob189 P) (.node (ob317 P) .nil .nil) .nil)) (.node (ob89 P) (.node (ob157 P) (.node (ob285 P) .nil .nil) .nil) (.node (ob221 P) (.node (ob351 P) .nil .nil) .nil))) (.node (ob41 P) (.node (ob73 P) (.node (ob139 P) (.node (ob269 P) .nil .nil) (.node (ob399 P) .nil .nil)) (.node (ob205 P) (.node (ob333 P) .nil .nil) .nil)) (.node (ob105 P) (.node (ob173 P) (.node (ob301 P) .nil .nil) .nil) (.node (ob237 P) (.node (ob367 P) .nil .nil) .nil)))) (.node (ob17 P) (.node (ob33 P) (.node (ob65 P) (.node (ob131 P) (.node (ob261 P) .nil .nil) (.node (ob391 P) .nil .nil)) (.node (ob197 P) (.node (ob325 P) .nil .nil) .nil)) (.node (ob97 P) (.node (ob165 P) (.node (ob293 P) .nil .nil) .nil) (.node (ob229 P) (.node (ob359 P) .nil .nil) .nil))) (.node (ob49 P) (.node (ob81 P) (.node (ob147 P) (.node (ob277 P) .nil .nil) .nil) (.node (ob213 P) (.node (ob341 P) .nil .nil) .nil)) (.node (ob113 P) (.node (ob181 P) (.node (ob309 P) .nil .nil) .nil) (.node (ob245 P) (.node (ob375 P) .nil .nil) .nil))))) (.node (ob2 P) (.node (ob13 P) (.node (ob29 P) (.node (ob61 P) (.node (ob127 P) (.node (ob257 P) .nil .nil) (.node (ob387 P) .nil .nil)) (.node (ob193 P) (.node (ob321 P) .nil .nil) .nil)) (.node (ob93 P) (.node (ob161 P) (.node (ob289 P) .nil .nil) .nil) (.node (ob225 P) (.node (ob355 P) .nil .nil) .nil))) (.node (ob45 P) (.node (ob77 P) (.node (ob143 P) (.node (ob273 P) .nil .nil) (.node (ob403 P) .nil .nil)) (.node (ob209 P) (.node (ob337 P) .nil .nil) .nil)) (.node (ob109 P) (.node (ob177 P) (.node (ob305 P) .nil .nil) .nil) (.node (ob241 P) (.node (ob371 P) .nil .nil) .nil)))) (.node (ob21 P) (.node (ob37 P) (.node (ob69 P) (.node (ob135 P) (.node (ob265 P) .nil .nil) (.node (ob395 P) .nil .nil)) (.node (ob201 P) (.node (ob329 P) .nil .nil) .nil)) (.node (ob101 P) (.node (ob169 P) (.node (ob297 P) .nil .nil) .nil) (.node (ob233 P) (.node (ob363 P) .nil .nil) .nil))) (.node (ob53 P) (.node (ob85 P) (.node (ob151 P) (.node (ob281 P) .nil .nil) .nil) (.node (ob217 P) (.node (ob347 P) .nil .nil) .nil)) (.node (ob119 P) (.node (ob185 P) (.node (ob313 P) .nil .nil) .nil) (.node (ob249 P) (.node (ob379 P) .nil .nil) .nil))))))) (.node (ob4 P) (.node (boot_o_4 P) (.node (boot_o_8 P) (.node (ob8 P) (.node (ob24 P) (.node (ob56 P) (.node (ob122 P) (.node (ob252 P) .nil .nil) (.node (ob382 P) .nil .nil)) (.node (ob188 P) (.node (ob316 P) .nil .nil) .nil)) (.node (ob88 P) (.node (ob156 P) (.node (ob284 P) .nil .nil) .nil) (.node (ob220 P) (.node (ob350 P) .nil .nil) .nil))) (.node (ob40 P) (.node (ob72 P) (.node (ob138 P) (.node (ob268 P) .nil .nil) (.node (ob398 P) .nil .nil)) (.node (ob204 P) (.node (ob332 P) .nil .nil) .nil)) (.node (ob104 P) (.node (ob172 P) (.node (ob300 P) .nil .nil) .nil) (.node (ob236 P) (.node (ob366 P) .nil .nil) .nil)))) (.node (ob16 P) (.node (ob32 P) (.node (ob64 P) (.node (ob130 P) (.node (ob260 P) .nil .nil) (.node (ob390 P) .nil .nil)) (.node (ob196 P) (.node (ob324 P) .nil .nil) .nil)) (.node (ob96 P) (.node (ob164 P) (.node (ob292 P) .nil .nil) .nil) (.node (ob228 P) (.node (ob358 P) .nil .nil) .nil))) (.node (ob48 P) (.node (ob80 P) (.node (ob146 P) (.node (ob276 P) .nil .nil) .nil) (.node (ob212 P) (.node (ob340 P) .nil .nil) .nil)) (.node (ob112 P) (.node (ob180 P) (.node (ob308 P) .nil .nil) .nil) (.node (ob244 P) (.node (ob374 P) .nil .nil) .nil))))) (.node (ob346 P) (.node (ob12 P) (.node (ob28 P) (.node (ob60 P) (.node (ob126 P) (.node (ob256 P) .nil .nil) (.node (ob386 P) .nil .nil)) (.node (ob192 P) (.node (ob320 P) .nil .nil) .nil)) (.node (ob92 P) (.node (ob160 P) (.node (ob288 P) .nil .nil) .nil) (.node (ob224 P) (.node (ob354 P) .nil .nil) .nil))) (.node (ob44 P) (.node (ob76 P) (.node (ob142 P) (.node (ob272 P) .nil .nil) (.node (ob402 P) .nil .nil)) (.node (ob208 P) (.node (ob336 P) .nil .nil) .nil)) (.node (ob108 P) (.node (ob176 P) (.node (ob304 P) .nil .nil) .nil) (.node (ob240 P) (.node (ob370 P) .nil .nil) .nil)))) (.node (ob20 P) (.node (ob36 P) (.node (ob68 P) (.node (ob134 P) (.node (ob264 P) .nil .nil) (.node (ob394 P) .nil .nil)) (.node (ob200 P) (.node (ob328 P) .nil .nil) .nil)) (.node (ob100 P) (.node (ob168 P) (.node (ob296 P) .nil .nil) .nil) (.node (ob232 P) (.node (ob362 P) .nil .nil) .nil))) (.node (ob52 P) (.node (ob84 P) (.node (ob150 P) (.node (ob280 P) .nil .nil) .nil) (.node (ob216 P) (.node (ob344 P) .nil .nil) .nil)) (.node (ob118 P) (.node (ob184 P) (.node (ob312 P) .nil .nil) .nil) (.node (ob248 P) (.node (ob378 P) .nil .nil) .nil)))))) (.node (boot_o_6 P) (.node (boot_o_10 P) (.node (ob10 P) (.node (ob26 P) (.node (ob58 P) (.node (ob124 P) (.node (ob254 P) .nil .nil) (.node (ob384 P) .nil .nil)) (.node (ob190 P) (.node (ob318 P) .nil .nil) .nil)) (.node (ob90 P) (.node (ob158 P) (.node (ob286 P) .nil .nil) .nil) (.node (ob222 P) (.node (ob352 P) .nil .nil) .nil))) (.node (ob42 P) (.node (ob74 P) (.node (ob140 P) (.node (ob270 P) .nil .nil) (.node (ob400 P) .nil .nil)) (.node (ob206 P) (.node (ob334 P) .nil .nil) .nil)) (.node (ob106 P) (.node (ob174 P) (.node (ob302 P) .nil .nil) .nil) (.node (ob238 P) (.node (ob368 P) .nil .nil) .nil)))) (.node (ob18 P) (.node (ob34 P) (.node (ob66 P) (.node (ob132 P) (.node (ob262 P) .nil .nil) (.node (ob392 P) .nil .nil)) (.node (ob198 P) (.node (ob326 P) .nil .nil) .nil)) (.node (ob98 P) (.node (ob166 P) (.node (ob294 P) .nil .nil) .nil) (.node (ob230 P) (.node (ob360 P) .nil .nil) .nil))) (.node (ob50 P) (.node (ob82 P) (.node (ob148 P) (.node (ob278 P) .nil .nil) .nil) (.node (ob214 P) (.node (ob342 P) .nil .nil) .nil)) (.node (ob114 P) (.node (ob182 P) (.node (ob310 P) .nil .nil) .nil) (.node (ob246 P) (.node (ob376 P) .nil .nil) .nil))))) (.node (ob3 P) (.node (ob14 P) (.node (ob30 P) (.node (ob62 P) (.node (ob128 P) (.node (ob258 P) .nil .nil) (.node (ob388 P) .nil .nil)) (.node (ob194 P) (.node (ob322 P) .nil .nil) .nil)) (.node (ob94 P) (.node (ob162 P) (.node (ob290 P) .nil .nil) .nil) (.node (ob226 P) (.node (ob356 P) .nil .nil) .nil))) (.node (ob46 P) (.node (ob78 P) (.node (ob144 P) (.node (ob274 P) .nil .nil) .nil) (.node (ob210 P) (.node (ob338 P) .nil .nil) .nil)) (.node (ob110 P) (.node (ob178 P) (.node (ob306 P) .nil .nil) .nil) (.node (ob242 P) (.node (ob372 P) .nil .nil) .nil)))) (.node (ob22 P) (.node (ob38 P) (.node (ob70 P) (.node (ob136 P) (.node (ob266 P) .nil .nil) (.node (ob396 P) .nil .nil)) (.node (ob202 P) (.node (ob330 P) .nil .nil) .nil)) (.node (ob102 P) (.node (ob170 P) (.node (ob298 P) .nil .nil) .nil) (.node (ob234 P) (.node (ob364 P) .nil .nil) .nil))) (.node (ob54 P) (.node (ob86 P) (.node (ob152 P) (.node (ob282 P) .nil .nil) .nil) (.node (ob218 P) (.node (ob348 P) .nil .nil) .nil)) (.node (ob120 P) (.node (ob186 P) (.node (ob314 P) .nil .nil) .nil) (.node (ob250 P) (.node (ob380 P) .nil .nil) .nil))))))))
noncomputable def hp6 (P : Params) : Heap := ⟨⟨[boot_o_0 P, boot_o_1 P, ob4 P, ob345 P, boot_o_4 P, boot_o_5 P, boot_o_6 P, boot_o_7 P, boot_o_8 P, boot_o_9 P, boot_o_10 P, ob0 P, ob346 P, ob2 P, ob3 P, ob7 P, ob8 P, ob9 P, ob10 P, ob11 P, ob12 P, ob13 P, ob14 P, ob15 P, ob16 P, ob17 P, ob18 P, ob19 P, ob20 P, ob21 P, ob22 P, ob23 P, ob24 P, ob25 P, ob26 P, ob27 P, ob28 P, ob29 P, ob30 P, ob31 P, ob32 P, ob33 P, ob34 P, ob35 P, ob36 P, ob37 P, ob38 P, ob39 P, ob40 P, ob41 P, ob42 P, ob43 P, ob44 P, ob45 P, ob46 P, ob47 P, ob48 P, ob49 P, ob50 P, ob51 P, ob52 P, ob53 P, ob54 P, ob55 P, ob56 P, ob57 P, ob58 P, ob59 P, ob60 P, ob61 P, ob62 P, ob63 P, ob64 P, ob65 P, ob66 P, ob67 P, ob68 P, ob69 P, ob70 P, ob71 P, ob72 P, ob73 P, ob74 P, ob75 P, ob76 P, ob77 P, ob78 P, ob79 P, ob80 P, ob81 P, ob82 P, ob83 P, ob84 P, ob85 P, ob86 P, ob87 P, ob88 P, ob89 P, ob90 P, ob91 P, ob92 P, ob93 P, ob94 P, ob95 P, ob96 P, ob97 P, ob98 P, ob99 P, ob100 P, ob101 P, ob102 P, ob103 P, ob104 P, ob105 P, ob106 P, ob107 P, ob108 P, ob109 P, ob110 P, ob111 P, ob112 P, ob113 P, ob114 P, ob115 P, ob118 P, ob119 P, ob120 P, ob121 P, ob122 P, ob123 P, ob124 P, ob125 P, ob126 P, ob127 P, ob128 P, ob129 P, ob130 P, ob131 P, ob132 P, ob133 P, ob134 P, ob135 P, ob136 P, ob137 P, ob138 P, ob139 P, ob140 P, ob141 P, ob142 P, ob143 P, ob144 P, ob145 P, ob146 P, ob147 P, ob148 P, ob149 P, ob150 P, ob151 P, ob152 P, ob153 P, ob156 P, ob157 P, ob158 P, ob159 P, ob160 P, ob161 P, ob162 P, ob163 P, ob164 P, ob165 P, ob166 P, ob167 P, ob168 P, ob169 P, ob170 P, ob171 P, ob172 P, ob173 P, ob174 P, ob175 P, ob176 P, ob177 P, ob178 P, ob179 P, ob180 P, ob181 P, ob182 P, ob183 P, ob184 P, ob185 P, ob186 P, ob187 P, ob188 P, ob189 P, ob190 P, ob191 P, ob192 P, ob193 P, ob194 P, ob195 P, ob196 P, ob197 P, ob198 P, ob199 P, ob200 P, ob201 P, ob202 P, ob203 P, ob204 P, ob205 P, ob206 P, ob207 P, ob208 P, ob209 P, ob210 P, ob211 P, ob212 P, ob213 P, ob214 P, ob215 P, ob216 P, ob217 P, ob218 P, ob219 P, ob220 P, ob221 P, ob222 P, ob223 P, ob224 P, ob225 P, ob226 P, ob227 P, ob228 P, ob229 P, ob230 P, ob231 P, ob232 P, ob233 P, ob234 P, ob235 P, ob236 P, ob237 P, ob238 P, ob239 P, ob240 P, ob241 P, ob242 P, ob243 P, ob244 P, ob245 P, ob246 P, ob247 P, ob248 P, ob249 P, ob250 P, ob251 P, ob252 P, ob253 P, ob254 P, ob255 P, ob256 P, ob257 P, ob258 P, ob259 P, ob260 P, ob261 P, ob262 P, ob263 P, ob264 P, ob265 P, ob266 P, ob267 P, ob268 P, ob269 P, ob270 P, ob271 P, ob272 P, ob273 P, ob274 P, ob275 P, ob276 P, ob277 P, ob278 P, ob279 P, ob280 P, ob281 P, ob282 P, ob283 P, ob284 P, ob285 P, ob286 P, ob287 P, ob288 P, ob289 P, ob290 P, ob291 P, ob292 P, ob293 P, ob294 P, ob295 P, ob296 P, ob297 P, ob298 P, ob299 P, ob300 P, ob301 P, ob302 P, ob303 P, ob304 P, ob305 P, ob306 P, ob307 P, ob308 P, ob309 P, ob310 P, ob311 P, ob312 P, ob313 P, ob314 P, ob315 P, ob316 P, ob317 P, ob318 P, ob319 P, ob320 P, ob321 P, ob322 P, ob323 P, ob324 P, ob325 P, ob326 P, ob327 P, ob328 P, ob329 P, ob330 P, ob331 P, ob332 P, ob333 P, ob334 P, ob335 P, ob336 P, ob337 P, ob338 P, ob339 P, ob340 P, ob341 P, ob342 P, ob343 P, ob344 P, ob347 P, ob348 P, ob349 P, ob350 P, ob351 P, ob352 P, ob353 P, ob354 P, ob355 P, ob356 P, ob357 P, ob358 P, ob359 P, ob360 P, ob361 P, ob362 P, ob363 P, ob364 P, ob365 P, ob366 P, ob367 P, ob368 P, ob369 P, ob370 P, ob371 P, ob372 P, ob373 P, ob374 P, ob375 P, ob376 P, ob377 P, ob378 P, ob379 P, ob380 P, ob381 P, ob382 P, ob383 P, ob384 P, ob385 P, ob386 P, ob387 P, ob388 P, ob389 P, ob390 P, ob391 P, ob392 P, ob393 P, ob394 P, ob395 P, ob396 P, ob397 P, ob398 P, ob399 P, ob400 P, ob401 P, ob402 P, ob403 P]⟩, {}⟩
def pEnv : Env := { scope := pg.main.scope, locals := mainNs, globals := mainNs, cells := [], code := .ref 13, frame := some 14 }
abbrev pB : List Frame := [topFrame ⟨0, 0, 0, 0⟩]
abbrev pCode : Code := .body (behindTheImports pg) pEnv
abbrev pAnn : Option Value := some (.ref 6)
def gs0 : Array GenState := ⟨[]⟩
def sts1 : List Stmt := [pSt 0, pSt 1, pSt 2, pSt 3, pSt 4, pSt 5, pSt 6, pSt 7, pSt 8, pSt 9, pSt 10, pSt 11, pSt 12]
def sts2 : List Stmt := [pSt 13, pSt 14, pSt 15, pSt 16, pSt 17]
def sts3 : List Stmt := [pSt 18]
def sts4 : List Stmt := [pSt 19, pSt 20, pSt 21, pSt 22, pSt 23, pSt 24, pSt 25, pSt 26, pSt 27, pSt 28]
theorem h_pre (w : World) : (fun os => PySem.W.Fast.tw15667345088766844465 PySem.W.Fast.tw14364793385576792824 pg w 11 pAnn 12 ⟨boot_heap w.params, gs0, boot_drawn, boot_toks, os⟩ (topStub pg)) = fun os => some (⟨hp0 w.params, gs0, boot_drawn, 187, os⟩, ⟨denote treeTable pCode, pCode, ⟨0, 0, 0, 0⟩, pB⟩) := by
  rw [PySem.W.Fast.te11892475500146522536, PySem.W.Fast.te14364793385576792824]
  kernel_rfl
theorem h_block (w : World) : (fun os => PySem.W.Fast.tw14374325043358763698 PySem.W.Fast.tw14364793385576792824 pg w 11 pAnn 1 1 ⟨hp0 w.params, gs0, boot_drawn, 187, os⟩ (blockOf (behindTheImports pg) pEnv pCode ⟨0, 0, 0, 0⟩ pB)) = fun os => some (Flow.next, SharedT.abs ⟨tr1 w.params, 15, {}, gs0, boot_drawn, 187, os⟩, pCode, ⟨0, 0, 0, 0⟩) := by
  kernel_rfl
theorem h_g1 (w : World) : (fun os => PySem.W.Fast.tw10110043849684766642 PySem.W.Fast.tw14364793385576792824 pg w 11 pAnn 1 953 ⟨tr1 w.params, 15, {}, gs0, boot_drawn, 187, os⟩ (piecesOf sts1 pEnv pCode ⟨0, 0, 0, 0⟩ pB)) = fun os => some (Flow.next, (⟨tr2 w.params, 124, {}, gs0, boot_drawn, 342, os⟩ : SharedT), pCode, ⟨46, 0, 59, 50⟩) := by
  kernel_rfl
theorem h_g2 (w : World) : (fun os => PySem.W.Fast.tw10110043849684766642 PySem.W.Fast.tw14364793385576792824 pg w 11 pAnn 1 324 ⟨tr2 w.params, 124, {}, gs0, boot_drawn, 342, os⟩ (piecesOf sts2 pEnv pCode ⟨46, 0, 59, 50⟩ pB)) = fun os => some (Flow.next, (⟨tr3 w.params, 160, {}, gs0, boot_drawn, 412, os⟩ : SharedT), pCode, ⟨76, 0, 87, 28⟩) := by
  kernel_rfl
theorem h_g3 (w : World) : (fun os => PySem.W.Fast.tw10110043849684766642 PySem.W.Fast.tw14364793385576792824 pg w 11 pAnn 1 1021 ⟨tr3 w.params, 160, {}, gs0, boot_drawn, 412, os⟩ (piecesOf sts3 pEnv pCode ⟨76, 0, 87, 28⟩ pB)) = fun os => some (Flow.next, (⟨tr4 w.params, 349, {}, gs0, boot_drawn, 663, os⟩ : SharedT), pCode, ⟨88, 0, 183, 16⟩) := by
  kernel_rfl
theorem h_g4 (w : World) : (fun os => PySem.W.Fast.tw10110043849684766642 PySem.W.Fast.tw14364793385576792824 pg w 11 pAnn 1 287 ⟨tr4 w.params, 349, {}, gs0, boot_drawn, 663, os⟩ (piecesOf sts4 pEnv pCode ⟨88, 0, 183, 16⟩ pB)) = fun os => some (Flow.next, (⟨tr5 w.params, 406, {}, gs0, boot_drawn, 750, os⟩ : SharedT), pCode, ⟨254, 0, 280, 15⟩) := by
  kernel_rfl
theorem h_fin (w : World) : (fun os => PySem.W.Fast.tw14082659384304107361 PySem.W.Fast.tw14364793385576792824 pg w 11 pAnn 2 (SharedT.abs ⟨tr5 w.params, 406, {}, gs0, boot_drawn, 750, os⟩) ⟨doneF .next, pCode, ⟨254, 0, 280, 15⟩, pB⟩) = fun os => some ⟨hp6 w.params, gs0, boot_drawn, 750, os⟩ := by
  kernel_rfl

noncomputable def hK : Params → Frag := fun P => (nat_lit 2, ob4 P) :: (nat_lit 3, ob345 P) :: (nat_lit 15, ob7 P) :: (nat_lit 17, ob9 P) :: (nat_lit 18, ob10 P) :: (nat_lit 20, ob12 P) :: (nat_lit 21, ob13 P) :: (nat_lit 22, ob14 P) :: (nat_lit 29, ob21 P) :: (nat_lit 31, ob23 P) :: (nat_lit 32, ob24 P) :: (nat_lit 34, ob26 P) :: (nat_lit 35, ob27 P) :: (nat_lit 36, ob28 P) :: (nat_lit 37, ob29 P) :: (nat_lit 38, ob30 P) :: (nat_lit 39, ob31 P) :: (nat_lit 42, ob34 P) :: (nat_lit 49, ob41 P) :: (nat_lit 50, ob42 P) :: (nat_lit 51, ob43 P) :: (nat_lit 54, ob46 P) :: (nat_lit 56, ob48 P) :: (nat_lit 57, ob49 P) :: (nat_lit 59, ob51 P) :: (nat_lit 60, ob52 P) :: (nat_lit 61, ob53 P) :: (nat_lit 63, ob55 P) :: (nat_lit 64, ob56 P) :: (nat_lit 66, ob58 P) :: (nat_lit 67, ob59 P) :: (nat_lit 68, ob60 P) :: (nat_lit 70, ob62 P) :: (nat_lit 71, ob63 P) :: (nat_lit 73, ob65 P) :: (nat_lit 74, ob66 P) :: (nat_lit 75, ob67 P) :: (nat_lit 77, ob69 P) :: (nat_lit 78, ob70 P) :: (nat_lit 80, ob72 P) :: (nat_lit 81, ob73 P) :: (nat_lit 82, ob74 P) :: (nat_lit 84, ob76 P) :: (nat_lit 85, ob77 P) :: (nat_lit 87, ob79 P) :: (nat_lit 88, ob80 P) :: (nat_lit 96, ob88 P) :: (nat_lit 98, ob90 P) :: (nat_lit 99, ob91 P) :: (nat_lit 101, ob93 P) :: (nat_lit 102, ob94 P) :: (nat_lit 103, ob95 P) :: (nat_lit 105, ob97 P) :: (nat_lit 106, ob98 P) :: (nat_lit 108, ob100 P) :: (nat_lit 109, ob101 P) :: (nat_lit 110, ob102 P) :: (nat_lit 112, ob104 P) :: (nat_lit 113, ob105 P) :: (nat_lit 115, ob107 P) :: (nat_lit 116, ob108 P) :: (nat_lit 117, ob109 P) :: (nat_lit 118, ob110 P) :: (nat_lit 119, ob111 P) :: (nat_lit 120, ob112 P) :: (nat_lit 121, ob113 P) :: (nat_lit 124, ob118 P) :: (nat_lit 126, ob120 P) :: (nat_lit 127, ob121 P) :: (nat_lit 129, ob123 P) :: (nat_lit 130, ob124 P) :: (nat_lit 131, ob125 P) :: (nat_lit 133, ob127 P) :: (nat_lit 134, ob128 P) :: (nat_lit 136, ob130 P) :: (nat_lit 137, ob131 P) :: (nat_lit 138, ob132 P) :: (nat_lit 146, ob140 P) :: (nat_lit 148, ob142 P) :: (nat_lit 149, ob143 P) :: (nat_lit 151, ob145 P) :: (nat_lit 152, ob146 P) :: (nat_lit 153, ob147 P) :: (nat_lit 154, ob148 P) :: (nat_lit 155, ob149 P) :: (nat_lit 156, ob150 P) :: (nat_lit 157, ob151 P) :: (nat_lit 167, ob163 P) :: (nat_lit 169, ob165 P) :: (nat_lit 170, ob166 P) :: (nat_lit 172, ob168 P) :: (nat_lit 173, ob169 P) :: (nat_lit 174, ob170 P) :: (nat_lit 176, ob172 P) :: (nat_lit 177, ob173 P) :: (nat_lit 179, ob175 P) :: (nat_lit 180, ob176 P) :: (nat_lit 181, ob177 P) :: (nat_lit 183, ob179 P) :: (nat_lit 184, ob180 P) :: (nat_lit 186, ob182 P) :: (nat_lit 187, ob183 P) :: (nat_lit 188, ob184 P) :: (nat_lit 190, ob186 P) :: (nat_lit 191, ob187 P) :: (nat_lit 193, ob189 P) :: (nat_lit 194, ob190 P) :: (nat_lit 195, ob191 P) :: (nat_lit 197, ob193 P) :: (nat_lit 198, ob194 P) :: (nat_lit 200, ob196 P) :: (nat_lit 201, ob197 P) :: (nat_lit 202, ob198 P) :: (nat_lit 204, ob200 P) :: (nat_lit 205, ob201 P) :: (nat_lit 207, ob203 P) :: (nat_lit 208, ob204 P) :: (nat_lit 209, ob205 P) :: (nat_lit 211, ob207 P) :: (nat_lit 212, ob208 P) :: (nat_lit 214, ob210 P) :: (nat_lit 215, ob211 P) :: (nat_lit 216, ob212 P) :: (nat_lit 218, ob214 P) :: (nat_lit 219, ob215 P) :: (nat_lit 221, ob217 P) :: (nat_lit 222, ob218 P) :: (nat_lit 223, ob219 P) :: (nat_lit 225, ob221 P) :: (nat_lit 226, ob222 P) :: (nat_lit 228, ob224 P) :: (nat_lit 229, ob225 P) :: (nat_lit 230, ob226 P) :: (nat_lit 232, ob228 P) :: (nat_lit 233, ob229 P) :: (nat_lit 235, ob231 P) :: (nat_lit 236, ob232 P) :: (nat_lit 237, ob233 P) :: (nat_lit 239, ob235 P) :: (nat_lit 240, ob236 P) :: (nat_lit 242, ob238 P) :: (nat_lit 243, ob239 P) :: (nat_lit 244, ob240 P) :: (nat_lit 246, ob242 P) :: (nat_lit 247, ob243 P) :: (nat_lit 249, ob245 P) :: (nat_lit 250, ob246 P) :: (nat_lit 251, ob247 P) :: (nat_lit 253, ob249 P) :: (nat_lit 254, ob250 P) :: (nat_lit 256, ob252 P) :: (nat_lit 257, ob253 P) :: (nat_lit 258, ob254 P) :: (nat_lit 260, ob256 P) :: (nat_lit 261, ob257 P) :: (nat_lit 263, ob259 P) :: (nat_lit 264, ob260 P) :: (nat_lit 265, ob261 P) :: (nat_lit 267, ob263 P) :: (nat_lit 268, ob264 P) :: (nat_lit 270, ob266 P) :: (nat_lit 271, ob267 P) :: (nat_lit 272, ob268 P) :: (nat_lit 274, ob270 P) :: (nat_lit 275, ob271 P) :: (nat_lit 277, ob273 P) :: (nat_lit 278, ob274 P) :: (nat_lit 279, ob275 P) :: (nat_lit 281, ob277 P) :: (nat_lit 282, ob278 P) :: (nat_lit 284, ob280 P) :: (nat_lit 285, ob281 P) :: (nat_lit 286, ob282 P) :: (nat_lit 288, ob284 P) :: (nat_lit 289, ob285 P) :: (nat_lit 291, ob287 P) :: (nat_lit 292, ob288 P) :: (nat_lit 293, ob289 P) :: (nat_lit 295, ob291 P) :: (nat_lit 296, ob292 P) :: (nat_lit 298, ob294 P) :: (nat_lit 299, ob295 P) :: (nat_lit 300, ob296 P) :: (nat_lit 302, ob298 P) :: (nat_lit 303, ob299 P) :: (nat_lit 305, ob301 P) :: (nat_lit 306, ob302 P) :: (nat_lit 307, ob303 P) :: (nat_lit 309, ob305 P) :: (nat_lit 310, ob306 P) :: (nat_lit 312, ob308 P) :: (nat_lit 313, ob309 P) :: (nat_lit 314, ob310 P) :: (nat_lit 316, ob312 P) :: (nat_lit 317, ob313 P) :: (nat_lit 319, ob315 P) :: (nat_lit 320, ob316 P) :: (nat_lit 321, ob317 P) :: (nat_lit 323, ob319 P) :: (nat_lit 324, ob320 P) :: (nat_lit 326, ob322 P) :: (nat_lit 327, ob323 P) :: (nat_lit 328, ob324 P) :: (nat_lit 330, ob326 P) :: (nat_lit 331, ob327 P) :: (nat_lit 333, ob329 P) :: (nat_lit 334, ob330 P) :: (nat_lit 335, ob331 P) :: (nat_lit 337, ob333 P) :: (nat_lit 338, ob334 P) :: (nat_lit 340, ob336 P) :: (nat_lit 341, ob337 P) :: (nat_lit 342, ob338 P) :: (nat_lit 343, ob339 P) :: (nat_lit 344, ob340 P) :: (nat_lit 345, ob341 P) :: (nat_lit 346, ob342 P) :: (nat_lit 349, ob347 P) :: (nat_lit 351, ob349 P) :: (nat_lit 352, ob350 P) :: (nat_lit 354, ob352 P) :: (nat_lit 355, ob353 P) :: (nat_lit 356, ob354 P) :: (nat_lit 358, ob356 P) :: (nat_lit 359, ob357 P) :: (nat_lit 361, ob359 P) :: (nat_lit 362, ob360 P) :: (nat_lit 363, ob361 P) :: (nat_lit 365, ob363 P) :: (nat_lit 366, ob364 P) :: (nat_lit 368, ob366 P) :: (nat_lit 369, ob367 P) :: (nat_lit 370, ob368 P) :: (nat_lit 372, ob370 P) :: (nat_lit 373, ob371 P) :: (nat_lit 375, ob373 P) :: (nat_lit 376, ob374 P) :: (nat_lit 377, ob375 P) :: (nat_lit 379, ob377 P) :: (nat_lit 380, ob378 P) :: (nat_lit 382, ob380 P) :: (nat_lit 383, ob381 P) :: (nat_lit 384, ob382 P) :: (nat_lit 387, ob385 P) :: (nat_lit 388, ob386 P) :: (nat_lit 389, ob387 P) :: (nat_lit 391, ob389 P) :: (nat_lit 392, ob390 P) :: (nat_lit 394, ob392 P) :: (nat_lit 395, ob393 P) :: (nat_lit 396, ob394 P) :: (nat_lit 399, ob397 P) :: (nat_lit 400, ob398 P) :: (nat_lit 401, ob399 P) :: (nat_lit 404, ob402 P) :: (nat_lit 405, ob403 P) :: []
abbrev hAs : List Addr := [2, 3, 15, 17, 18, 20, 21, 22, 29, 31, 32, 34, 35, 36, 37, 38, 39, 42, 49, 50, 51, 54, 56, 57, 59, 60, 61, 63, 64, 66, 67, 68, 70, 71, 73, 74, 75, 77, 78, 80, 81, 82, 84, 85, 87, 88, 96, 98, 99, 101, 102, 103, 105, 106, 108, 109, 110, 112, 113, 115, 116, 117, 118, 119, 120, 121, 124, 126, 127, 129, 130, 131, 133, 134, 136, 137, 138, 146, 148, 149, 151, 152, 153, 154, 155, 156, 157, 167, 169, 170, 172, 173, 174, 176, 177, 179, 180, 181, 183, 184, 186, 187, 188, 190, 191, 193, 194, 195, 197, 198, 200, 201, 202, 204, 205, 207, 208, 209, 211, 212, 214, 215, 216, 218, 219, 221, 222, 223, 225, 226, 228, 229, 230, 232, 233, 235, 236, 237, 239, 240, 242, 243, 244, 246, 247, 249, 250, 251, 253, 254, 256, 257, 258, 260, 261, 263, 264, 265, 267, 268, 270, 271, 272, 274, 275, 277, 278, 279, 281, 282, 284, 285, 286, 288, 289, 291, 292, 293, 295, 296, 298, 299, 300, 302, 303, 305, 306, 307, 309, 310, 312, 313, 314, 316, 317, 319, 320, 321, 323, 324, 326, 327, 328, 330, 331, 333, 334, 335, 337, 338, 340, 341, 342, 343, 344, 345, 346, 349, 351, 352, 354, 355, 356, 358, 359, 361, 362, 363, 365, 366, 368, 369, 370, 372, 373, 375, 376, 377, 379, 380, 382, 383, 384, 387, 388, 389, 391, 392, 394, 395, 396, 399, 400, 401, 404, 405]
def view : Program := { pg with main := { pg.main with body := [pSt 0, pSt 2, pSt 3, pSt 5, pSt 6, pSt 8, pSt 9, pSt 10, pSt 12, pSt 13, pSt 14, pSt 16, pSt 17, pSt 18, pSt 20, pSt 21, pSt 22, pSt 23, pSt 24, pSt 25, pSt 26, pSt 27, pSt 28] } }
theorem h_body : behindTheImports pg = sts1 ++ (sts2 ++ (sts3 ++ (sts4 ++ []))) := by kernel_rfl
theorem h_run (w : World) (os : OsState) : topRun treeTable pg w 11 pAnn (12 + (1 + (953 + (324 + (1021 + (287 + 2)))))) ⟨boot_heap w.params, gs0, boot_drawn, boot_toks, os⟩ (topStub pg) = some ⟨hp6 w.params, gs0, boot_drawn, 750, os⟩ := by
  have k5 : topRun treeTable pg w 11 pAnn 2 (SharedT.abs ⟨tr5 w.params, 406, {}, gs0, boot_drawn, 750, os⟩) (restOf [] pEnv pCode ⟨254, 0, 280, 15⟩ pB) = some ⟨hp6 w.params, gs0, boot_drawn, 750, os⟩ := by
    rw [PySem.W.Fast.te14082659384304107361, PySem.W.Fast.te14364793385576792824]
    exact congrFun (h_fin w) os
  have s4 : segRunT treeTable pg w 11 pAnn 1 287 ⟨tr4 w.params, 349, {}, gs0, boot_drawn, 663, os⟩ (piecesOf sts4 pEnv pCode ⟨88, 0, 183, 16⟩ pB) = some (Flow.next, (⟨tr5 w.params, 406, {}, gs0, boot_drawn, 750, os⟩ : SharedT), pCode, ⟨254, 0, 280, 15⟩) := by
    rw [PySem.W.Fast.te10110043849684766642, PySem.W.Fast.te14364793385576792824]
    exact congrFun (h_g4 w) os
  have k4 := piece_app (segRun_of s4) k5
  have s3 : segRunT treeTable pg w 11 pAnn 1 1021 ⟨tr3 w.params, 160, {}, gs0, boot_drawn, 412, os⟩ (piecesOf sts3 pEnv pCode ⟨76, 0, 87, 28⟩ pB) = some (Flow.next, (⟨tr4 w.params, 349, {}, gs0, boot_drawn, 663, os⟩ : SharedT), pCode, ⟨88, 0, 183, 16⟩) := by
    rw [PySem.W.Fast.te10110043849684766642, PySem.W.Fast.te14364793385576792824]
    exact congrFun (h_g3 w) os
  have k3 := piece_app (segRun_of s3) k4
  have s2 : segRunT treeTable pg w 11 pAnn 1 324 ⟨tr2 w.params, 124, {}, gs0, boot_drawn, 342, os⟩ (piecesOf sts2 pEnv pCode ⟨46, 0, 59, 50⟩ pB) = some (Flow.next, (⟨tr3 w.params, 160, {}, gs0, boot_drawn, 412, os⟩ : SharedT), pCode, ⟨76, 0, 87, 28⟩) := by
    rw [PySem.W.Fast.te10110043849684766642, PySem.W.Fast.te14364793385576792824]
    exact congrFun (h_g2 w) os
  have k2 := piece_app (segRun_of s2) k3
  have s1 : segRunT treeTable pg w 11 pAnn 1 953 ⟨tr1 w.params, 15, {}, gs0, boot_drawn, 187, os⟩ (piecesOf sts1 pEnv pCode ⟨0, 0, 0, 0⟩ pB) = some (Flow.next, (⟨tr2 w.params, 124, {}, gs0, boot_drawn, 342, os⟩ : SharedT), pCode, ⟨46, 0, 59, 50⟩) := by
    rw [PySem.W.Fast.te10110043849684766642, PySem.W.Fast.te14364793385576792824]
    exact congrFun (h_g1 w) os
  have k1 := piece_app (segRun_of s1) k2
  have sb : segRun treeTable pg w 11 pAnn 1 1 ⟨hp0 w.params, gs0, boot_drawn, 187, os⟩ (blockOf (behindTheImports pg) pEnv pCode ⟨0, 0, 0, 0⟩ pB) = some (Flow.next, SharedT.abs ⟨tr1 w.params, 15, {}, gs0, boot_drawn, 187, os⟩, pCode, ⟨0, 0, 0, 0⟩) := by
    rw [PySem.W.Fast.te14374325043358763698, PySem.W.Fast.te14364793385576792824]
    exact congrFun (h_block w) os
  rw [← h_body] at k1
  have k0 := piece_block sb k1
  refine go_top (s' := ⟨hp0 w.params, gs0, boot_drawn, 187, os⟩) (t' := ⟨denote treeTable pCode, pCode, ⟨0, 0, 0, 0⟩, pB⟩) ?_ k0
  rw [PySem.W.Fast.te15667345088766844465]
  have e := congrFun (h_pre w) os
  rw [PySem.W.Fast.te14364793385576792824] at e ⊢
  exact e
theorem h_open : opening pg = plainProg pg.main.scope.names := by kernel_rfl
theorem h_fence (s : Shared) : fenceModules? pg s = some s := by kernel_rfl
theorem h_size (w : World) : ((boot_heap w.params).isNs mainGlobals && gs0.size == 0, (boot_heap w.params).objs.size, (boot_heap w.params).nsMap mainGlobals (Str.ofString "__annotations__")) = (true, 11, pAnn) := by
  rw [PySem.W.Fast.te8920871248978507458]
  kernel_rfl
theorem h_as (P : Params) : hAs = (hK P).map (·.1) := by kernel_rfl
abbrev hXt : Shared → Bool := fun s => xlAt view [] s && recOk (RowW.records PySem.Challenge.rw_on0188_01.row.toRowW) s
noncomputable abbrev hHk : Hook := kmHook hK hAs h_as [385]
theorem h_look (w : World) : (fun os => (staticsOk (importedModules pg.main.body) (boot_heap w.params) (hp6 w.params) && namesBound pg (hp6 w.params) && gensDone ⟨hp6 w.params, gs0, boot_drawn, 750, os⟩ && laidKept (boot_heap w.params) (hp6 w.params),
    PySem.W.Fast.tw4187177175401517315 view [] (importedModules pg.main.body) hXt true ⟨hp6 w.params, gs0, boot_drawn, 750, os⟩, hHk.obs ⟨hp6 w.params, gs0, boot_drawn, 750, os⟩)) = fun _ => (true, openGood view [], hHk.val w) := by
  kernel_rfl
theorem h_left : LeftO pg view [] hXt hHk.obs hHk.val 5288 :=
  LeftO.of_pieces (H₀ := boot_heap) (H₁ := hp6) (gs₀ := gs0) (gs₁ := gs0) (m₀ := 11) (ann := pAnn) (boot_open h_open (by decide) h_fence) h_size h_run (by decide) (by
    intro w
    have e := h_look w
    rw [← PySem.W.Fast.te4187177175401517315] at e
    exact e)
end Mine

section
open PySem PySem.W PySem.Spec PySem.Calls PyProof.Rows
set_option Elab.async false
set_option maxRecDepth 100000
set_option maxHeartbeats 8000000
namespace Mine
abbrev lawProg := PySem.Challenge.rw_on0188_01.prog

/-- a value without its token -/
def sv : Value → Value
  | .int i _ => .int i 0
  | .float b _ => .float b 0
  | .str s _ => .str s 0
  | .bytes b _ => .bytes b 0
  | v => v
def fsv : Flow → Flow
  | .ret v => .ret (sv v)
  | f => f
def lsv (l : List Value) : List Value := l.map sv

inductive AObj where
  | list (vs : List Value)
  | tuple (vs : List Value)
  | inst (C d : Addr)
  | attrs (fs : List (Str × Value))
  | cell (v : Option Value)
  | ns (fs : List (Str × Value))
  | tab (l : List ((Nat × Nat) × Addr))
  | code (q : Str)
  | rng (k : Int)
  | liter (l : Addr)
  | enum (it : Addr)
  | lam (params : Arguments) (body : Expr) (scope : Scope) (q : Str) (c : Addr)

abbrev listO (vs : List Value) (n : Nat) : Obj := { cls := .type "list", data := .seq vs.toArray n }
abbrev tupO (vs : List Value) (n : Nat) : Obj := { cls := .type "tuple", data := .seq vs.toArray n }

inductive ERel : List (Str × Value) → List DictEntry → Prop
  | nil : ERel [] []
  | cons {x : Str} {v : Value} {t : Tok} {fs : List (Str × Value)} {es : List DictEntry} {k : Int} (r : ERel fs es) : ERel ((x, sv v) :: fs) (⟨k, .str x t, v⟩ :: es)

abbrev AM := List (Str × Value)
def MRel (am : AM) (m : Str → Option Value) : Prop := ∀ x v, am.lookup x = some v → ∃ v', m x = some v' ∧ sv v' = v
inductive ORel : AObj → Obj → Prop
  | list (xs : List Value) (n : Nat) : ORel (.list (lsv xs)) (listO xs n)
  | tuple (xs : List Value) (n : Nat) : ORel (.tuple (lsv xs)) (tupO xs n)
  | inst (C d : Addr) : ORel (.inst C d) (instObj C d)
  | attrs {fs : List (Str × Value)} {es : List DictEntry} (n : Nat) (r : ERel fs es) : ORel (.attrs fs) (dictOf es n)
  | cell {o : Obj} {v : Option Value} (h : o.data = .cell v) : ORel (.cell (v.map sv)) o
  | ns {o : Obj} {fs : List (Str × Value)} {es : Array DictEntry} {ep : Nat} (hd : o.data = .dict es ep) (hk : StrKeys es) (hm : MRel fs (nsFind es)) : ORel (.ns fs) o
  | tab {l : List ((Nat × Nat) × Addr)} {ps : Array Value} (ht : TriplesOk ps.toList) (hc : ∀ pos : Pos, codeAmong pos ps.toList = (l.lookup (pos.line, pos.col)).map Value.ref) : ORel (.tab l) (tabObj ps)
  | code {o : Obj} {vs : Array Value} {q : Str} {t : Tok} (hd : o.data = .fields vs) (hv : vs[1]? = some (.str q t)) : ORel (.code q) o
  | rng (k : Int) {t u v : Tok} : ORel (.rng k) { cls := .type "range", dict := none, data := .fields #[.int 0 t, .int k u, .int 1 v], slots := #[] }
  | liter {l : Addr} {o : Obj} (hc : o.cls = .type "list_iterator") (hd : o.data = .fields #[.ref l, .int 0 0]) : ORel (.liter l) o
  | enum (it : Addr) : ORel (.enum it) { cls := .type "enumerate", dict := none, data := .fields #[.none, .bool false, .ref it, rawInt 0, .none, .none], slots := #[] }
  | lam (params : Arguments) (body : Expr) (scope : Scope) (q : Str) (c : Addr) (pm ctv : Value) : ORel (.lam params body scope q c) (kla_obj "<lambda>" q params body scope [] pm c ctv)

abbrev AH := Addr → Option AObj
def HR (h₀ : Heap) (L : Addr) (h : Heap) (H : AH) (X : List (Addr × Obj)) : Prop :=
  ∃ news, News h₀ L h news ∧ (∀ a o, H a = some o → ∃ ob, (a, ob) ∈ news ∧ ORel o ob) ∧ ∀ p ∈ X, p ∈ news ∧ H p.1 = none
def hset (H : AH) (a : Addr) (o : AObj) : AH := fun b => if b = a then some o else H b
theorem hset_self (H : AH) (a : Addr) (o : AObj) : hset H a o a = some o := by simp [hset]
theorem hset_ne {H : AH} {a b : Addr} {o : AObj} (h : b ≠ a) : hset H a o b = H b := by simp [hset, h]

theorem HR.get {h₀ h : Heap} {L : Addr} {H : AH} {X : List (Addr × Obj)} (R : HR h₀ L h H X) {a : Addr} {o : AObj} (e : H a = some o) :
    ∃ ob, h.get? a = some ob ∧ ORel o ob := by
  obtain ⟨news, N, hH, hX⟩ := R
  obtain ⟨ob, hm, ho⟩ := hH a o e
  exact ⟨ob, (N _ hm).1, ho⟩
/-- a new object -/
theorem HR.new {h₀ h : Heap} {L : Addr} {H : AH} {X : List (Addr × Obj)} (R : HR h₀ L h H X)
    : ∃ news, News h₀ L h news ∧ ∀ h' a ob o, News h₀ L h' ((a, ob) :: news) → (∀ p ∈ news, p.1 < a) → ORel o ob → H a = none ∧ (∀ b, H b ≠ none → b < a) ∧ HR h₀ L h' (hset H a o) X ∧ HR h₀ L h' H X := by
  obtain ⟨news, N, hH, hX⟩ := R
  refine ⟨news, N, fun h' a ob o N' hlt ho => ?_⟩
  have hb : ∀ b, H b ≠ none → b < a := fun b hb => by
    cases e : H b with
    | none => exact absurd e hb
    | some o => obtain ⟨ob, hm, _⟩ := hH b o e; exact hlt _ hm
  have hn : H a = none := by
    cases e : H a with
    | none => rfl
    | some o => exact absurd (hb a (by rw [e]; simp)) (Nat.lt_irrefl _)
  refine ⟨hn, hb, ⟨(a, ob) :: news, N', fun b o' e => ?_, fun p hp => ⟨.tail _ (hX p hp).1, ?_⟩⟩, ⟨(a, ob) :: news, N', fun b o' e => ?_, fun p hp => ⟨.tail _ (hX p hp).1, (hX p hp).2⟩⟩⟩
  · by_cases q : b = a
    · subst q; rw [hset_self] at e; cases e; exact ⟨ob, .head _, ho⟩
    · rw [hset_ne q] at e; obtain ⟨ob, hm, ho⟩ := hH b o' e; exact ⟨ob, .tail _ hm, ho⟩
  · have : p.1 ≠ a := fun q => by have := hlt p (hX p hp).1; rw [q] at this; exact Nat.lt_irrefl _ this
    rw [hset_ne this]; exact (hX p hp).2
  · obtain ⟨ob, hm, ho⟩ := hH b o' e; exact ⟨ob, .tail _ hm, ho⟩
theorem rest_ne {news : List (Addr × Obj)} {a : Addr} : ∀ p ∈ news.filter (fun p => p.1 != a), p.1 ≠ a := fun p hp => by
  have := (List.mem_filter.mp hp).2
  simpa using this
/-- an object that is written -/
theorem HR.upd {h₀ h : Heap} {L : Addr} {H : AH} {X : List (Addr × Obj)} (R : HR h₀ L h H X) {a : Addr} {o : AObj} (e : H a = some o) :
    ∃ ob rest, ORel o ob ∧ News h₀ L h ((a, ob) :: rest) ∧ (∀ p ∈ rest, p.1 ≠ a) ∧ (∀ h' o' ob', ORel o' ob' → News h₀ L h' ((a, ob') :: rest) → HR h₀ L h' (hset H a o') X) := by
  obtain ⟨news, N, hH, hX⟩ := R
  obtain ⟨ob, hm, ho⟩ := hH a o e
  refine ⟨ob, news.filter (fun p => p.1 != a), ho, fun p hp => ?_, rest_ne, fun h' o' ob' ho' N' => ⟨_, N', fun b o'' e' => ?_, fun p hp => ?_⟩⟩
  · rcases List.mem_cons.mp hp with rfl | hp
    · exact N _ hm
    · exact N p (List.mem_filter.mp hp).1
  · by_cases q : b = a
    · subst q; rw [hset_self] at e'; cases e'; exact ⟨ob', .head _, ho'⟩
    · rw [hset_ne q] at e'; obtain ⟨ob, hm, ho⟩ := hH b o'' e'
      exact ⟨ob, .tail _ (List.mem_filter.mpr ⟨hm, by simpa using q⟩), ho⟩
  · have : p.1 ≠ a := fun q => by have := (hX p hp).2; rw [q, e] at this; cases this
    exact ⟨.tail _ (List.mem_filter.mpr ⟨(hX p hp).1, by simpa using this⟩), by rw [hset_ne this]; exact (hX p hp).2⟩

structure Cx where
  p : Program
  loose : List Str
  mean : ExcName → Option Value
  mg : Str → Option Value
  mb : Str → Option Value
  dp : Nat
  un : Nat
  gd : Option (List Code)
  cn : Str
  cs : Scope
  a : Addr
  ccd : Value
  cl : List (Str × Addr)
  outer : List Env
  A₀ : Around
  base : Heap
  h₀ : Heap
  L : Addr
  sc : Addr
  ns : List Int
  sh : Shared
abbrev Cx.A (c : Cx) : Around := ktrTop c.dp c.un c.gd c.cn c.cs c.L c.a c.ccd c.cl c.outer
abbrev Cx.env (c : Cx) : Env := envX c.cn c.cs c.L c.a c.ccd c.cl
structure Cx.Ok (w : World) (n : Nat) (c : Cx) : Prop where
  d : c.dp + n < recursionLimit
  u : c.un + 100 + 8 * n < cLine
  B : Below c.A₀ c.base c.outer c.h₀
  X : (hK w.params).In c.h₀
  T : Top c.p c.loose c.mean c.mg c.mb c.h₀
  k : c.cs.kind = .function
  C : CodeHd c.h₀ 387 385
  S : ∃ vs, c.h₀.IsList c.sc vs.toArray ∧ IntsAre vs c.ns
theorem sc_keeps {h h' : Heap} {sc : Addr} {ns : List Int} (x : ∃ vs : List Value, h.IsList sc vs.toArray ∧ IntsAre vs ns) (st : ∀ b o, h.get? b = some o → h'.get? b = some o) : ∃ vs : List Value, h'.IsList sc vs.toArray ∧ IntsAre vs ns :=
  let ⟨vs, a, b⟩ := x; ⟨vs, a.at fun o e => st _ o e, b⟩
def Sh (c : Cx) (s : Shared) : Prop := s.os = c.sh.os ∧ s.gens = c.sh.gens
def MR (c : Cx) (s : Shared) (am : AM) (m : Str → Option Value) : Prop := MRel am m ∧ Sh c s
abbrev noE : Value → Shared → Prop := fun _ _ => False
def Tr (w : World) (c : Cx) {α : Type} (ab : α → α) (t : Sem α) (am : AM) (H : AH) (Q : α → AM → AH → Prop) : Prop :=
  ∀ (s : Shared) (m : Str → Option Value) (X : List (Addr × Obj)) (P : α → Shared → Prop), Fr c.h₀ c.L s.heap m → MR c s am m → HR c.h₀ c.L s.heap H X →
    (∀ b s' m' am' H', Fr c.h₀ c.L s'.heap m' → MR c s' am' m' → HR c.h₀ c.L s'.heap H' X → Q (ab b) am' H' → P b s') →
    wpAny (model lawProg w) c.A t P noE s

section
variable {w : World} {n : Nat} {c : Cx} {env : Env} {am : AM} {H : AH}
theorem Tr.mono {α : Type} {ab : α → α} {t : Sem α} {Q Q' : α → AM → AH → Prop} (h : Tr w c ab t am H Q) (hq : ∀ b am H, Q b am H → Q' b am H) : Tr w c ab t am H Q' :=
  fun s m X P F M R k => h s m X P F M R fun b s' m' am' H' F' M' R' q => k b s' m' am' H' F' M' R' (hq _ _ _ q)
theorem Tr.weak {α : Type} {ab : α → α} {t : Sem α} {Q : α → AM → AH → Prop} (am' : AM) (hm : ∀ x v, am'.lookup x = some v → am.lookup x = some v) (h : Tr w c ab t am' H Q) : Tr w c ab t am H Q :=
  fun s m X P F M R k => h s m X P F ⟨fun x v e => M.1 x v (hm x v e), M.2⟩ R k
theorem HR.drop {h₀ h : Heap} {L : Addr} {H H' : AH} {X : List (Addr × Obj)} (hH : ∀ a o, H' a = some o → H a = some o) (R : HR h₀ L h H X) : HR h₀ L h H' X := by
  obtain ⟨news, N, h1, h2⟩ := R
  refine ⟨news, N, fun a o e => h1 a o (hH a o e), fun p hp => ⟨(h2 p hp).1, ?_⟩⟩
  cases e : H' p.1 with
  | none => rfl
  | some o => have := hH _ _ e; rw [(h2 p hp).2] at this; cases this
theorem Tr.drop {α : Type} {ab : α → α} {t : Sem α} {Q : α → AM → AH → Prop} (H' : AH) (hH : ∀ a o, H' a = some o → H a = some o) (h : Tr w c ab t am H' Q) : Tr w c ab t am H Q :=
  fun s m X P F M R k => h s m X P F M (R.drop hH) k

/-! statements -/
abbrev Ev (w : World) (c : Cx) (env : Env) (e : Expr) := Tr w c sv (eval e env)
abbrev Ex (w : World) (c : Cx) (env : Env) (b : List Stmt) := Tr w c fsv (execs b env)
abbrev St (w : World) (c : Cx) (env : Env) (b : Stmt) := Tr w c fsv (exec b env)
abbrev Tst (w : World) (c : Cx) (env : Env) (e : Expr) := Tr w c id (PySem.isTrue e env (eval e env))

theorem ex_nil {Q : Flow → AM → AH → Prop} (h : Q .next am H) : Ex w c env [] am H Q :=
  fun s m X P F M R k => wpAny_execs_nil (k .next s m am H F M R h)
def next (w : World) (c : Cx) (env : Env) (rest : List Stmt) (Q : Flow → AM → AH → Prop) (f : Flow) (am : AM) (H : AH) : Prop :=
  match f with
  | .next => Ex w c env rest am H Q
  | f => Q f am H
theorem ex_cons {st : Stmt} {rest : List Stmt} {Q : Flow → AM → AH → Prop} (h : St w c env st am H (next w c env rest Q)) : Ex w c env (st :: rest) am H Q :=
  fun s m X P F M R k => wpAny_execs_cons (h s m X _ F M R fun b s' m' am' H' F' M' R' q => by
    cases b with
    | next => exact q s' m' X P F' M' R' k
    | brk => exact k _ s' m' am' H' F' M' R' q
    | cont => exact k _ s' m' am' H' F' M' R' q
    | ret v => exact k _ s' m' am' H' F' M' R' q)
theorem st_return {e : Expr} {pos : Pos} {Q : Flow → AM → AH → Prop} (h : Ev w c env e am H fun v am H => Q (.ret v) am H) : St w c env (.Return (some e) pos) am H Q :=
  fun s m X P F M R k => wpAny_Return_some (h s m X _ F M R fun b s' m' am' H' F' M' R' q => k _ s' m' am' H' F' M' R' q)
theorem st_return0 {pos : Pos} {Q : Flow → AM → AH → Prop} (h : Q (.ret .none) am H) : St w c env (.Return none pos) am H Q :=
  fun s m X P F M R k => wpAny_Return_none (k _ s m am H F M R h)
theorem st_if {test : Expr} {body orelse : List Stmt} {pos : Pos} {Q : Flow → AM → AH → Prop}
    (h : Tst w c env test am H fun b am H => if b = true then Ex w c env body am H Q else Ex w c env orelse am H Q) : St w c env (.If test body orelse pos) am H Q :=
  fun s m X P F M R k => wpAny_If (h s m X _ F M R fun b s' m' am' H' F' M' R' q => by
    cases b with
    | true => exact (if_pos rfl) ▸ (show Ex w c env body am' H' Q by simpa using q) s' m' X P F' M' R' k
    | false => exact (show Ex w c env orelse am' H' Q by simpa using q) s' m' X P F' M' R' k)
theorem st_expr {e : Expr} {pos : Pos} {Q : Flow → AM → AH → Prop} (h : Ev w c env e am H fun _ am H => Q .next am H)
    (h1 : interactive env = false := by rfl) (h2 : swapsWith e none pos.line env = pure false := by rfl) : St w c env (.Expr e pos) am H Q :=
  fun s m X P F M R k => wpAny_Expr_any (h s m X _ F M R fun b s' m' am' H' F' M' R' q => k _ s' m' am' H' F' M' R' q) h1 h2

theorem mrel_set {m : Str → Option Value} (M : MRel am m) {x : Str} {v : Value} : MRel ((x, sv v) :: am) (fun y => if y = x then some v else m y) := by
  intro y u e
  rw [List.lookup_cons] at e
  by_cases q : y = x
  · subst q; simp at e; exact ⟨v, by simp, e⟩
  · have : (y == x) = false := by simpa using q
    rw [this] at e; simpa [q] using M y u e
theorem HR.same {h₀ h h' : Heap} {L : Addr} {H : AH} {X : List (Addr × Obj)} (hs : Heap.SameBut L h h') (R : HR h₀ L h H X) : HR h₀ L h' H X := by
  obtain ⟨news, N, h1, h2⟩ := R
  exact ⟨news, fun p hp => ⟨(hs.2 _ (N p hp).2.1).trans (N p hp).1, (N p hp).2⟩, h1, h2⟩
theorem store_ {x : Str} {v : Value} {Q : Unit → AM → AH → Prop} (O : c.Ok w n) (h : Q () ((x, sv v) :: am) H) (hl : c.env.kindOf x = some .local := by rfl) : Tr w c id (storeName c.env x v) am H Q :=
  fun s m X P F M R k => wpAny_storeName_local hl F.ns (fun h' hn hs => k _ _ _ _ H (F.set hn hs) ⟨mrel_set M.1, M.2⟩ (R.same hs) h)
    (by show (c.cs.kind == .class || (c.cs.kind == .module && c.L != mainGlobals)) = false; rw [O.k]; rfl)
theorem st_assign {x : Str} {px : Pos} {e : Expr} {pos : Pos} {Q : Flow → AM → AH → Prop} (O : c.Ok w n) (h : Ev w c c.env e am H fun v am H => Q .next ((x, v) :: am) H)
    (hl : c.env.kindOf x = some .local := by rfl) (hs : swapsWith e (some (Expr.Name x px)) pos.line c.env = pure false := by rfl) : St w c c.env (.Assign [.Name x px] e pos) am H Q :=
  fun s m X P F M R k => wpAny_Assign_Name (h s m X _ F M R fun b s' m' am' H' F' M' R' q =>
    store_ O (Q := fun _ am H => Q .next am H) q hl s' m' X _ F' M' R' fun _ s'' m'' am'' H'' F'' M'' R'' q' => k _ _ _ _ _ F'' M'' R'' q') hs

/-! expressions -/
theorem ev_int {i : Int} {k : Nat} {pos : Pos} {Q : Value → AM → AH → Prop} (h : Q (.int i 0) am H) : Ev w c env (.Constant (.int i) k pos) am H Q :=
  fun s m X P F M R kk => wpAny_Constant_int (kk _ _ m am H F M R h)
theorem ev_str {x : Str} {k : Nat} {pos : Pos} {Q : Value → AM → AH → Prop} (h : Q (.str x 0) am H) : Ev w c env (.Constant (.str x) k pos) am H Q :=
  fun s m X P F M R kk => Calls.Constant_str (kk _ _ m am H F M R h)
theorem ev_none {k : Nat} {pos : Pos} {Q : Value → AM → AH → Prop} (h : Q .none am H) : Ev w c env (.Constant .none k pos) am H Q :=
  fun s m X P F M R kk => Constant_none (kk _ _ m am H F M R h)
theorem ev_bool {b : Bool} {k : Nat} {pos : Pos} {Q : Value → AM → AH → Prop} (h : Q (.bool b) am H) : Ev w c env (.Constant (.bool b) k pos) am H Q :=
  fun s m X P F M R kk => wpAny_Constant_bool (kk _ _ m am H F M R h)
theorem ev_loc {x : Str} {pos : Pos} {v : Value} {Q : Value → AM → AH → Prop} (O : c.Ok w n) (hv : am.lookup x = some v) (h : Q v am H)
    (hl : c.env.kindOf x = some .local := by rfl) (hd : (x == ("__debug__" : Str)) = false := by decide) : Ev w c c.env (.Name x pos) am H Q :=
  fun s m X P F M R kk => by
    obtain ⟨v', e, rfl⟩ := M.1 x v hv
    exact nameX_L F e (kk _ _ m am H F M R h) O.k hl hd
theorem ev_glob {x : Str} {pos : Pos} {v : Value} {Q : Value → AM → AH → Prop} (O : c.Ok w n) (e : nsIn (hK w.params) mainGlobals x = some (some v)) (h : Q (sv v) am H)
    (hl : c.env.kindOf x = some .globalImplicit := by rfl) (hd : (x == ("__debug__" : Str)) = false := by decide) : Ev w c c.env (.Name x pos) am H Q :=
  fun s m X P F M R kk => nameX_K F O.X (topRead_of O.T) e (kk _ _ m am H F M R h) O.k hl hd
theorem ev_built {x : Str} {pos : Pos} {v : Value} {Q : Value → AM → AH → Prop} (O : c.Ok w n) (e : nsIn (hK w.params) mainGlobals x = some none) (hv : bootBuiltins x = some v) (hn : x ≠ "__name__") (h : Q (sv v) am H)
    (hl : c.env.kindOf x = some .globalImplicit := by rfl) (hd : (x == ("__debug__" : Str)) = false := by decide) : Ev w c c.env (.Name x pos) am H Q :=
  fun s m X P F M R kk => nameX_B F O.X (topRead_of O.T) e hv hn (kk _ _ m am H F M R h) O.k hl hd
theorem ev_ifexp {test body orelse : Expr} {pos : Pos} {Q : Value → AM → AH → Prop}
    (h : Tst w c env test am H fun b am H => if b = true then Ev w c env body am H Q else Ev w c env orelse am H Q) : Ev w c env (.IfExp test body orelse pos) am H Q :=
  fun s m X P F M R k => IfExp_ (h s m X _ F M R fun b s' m' am' H' F' M' R' q => by
    cases b with
    | true => exact (if_pos rfl) ▸ (show Ev w c env body am' H' Q by simpa using q) s' m' X P F' M' R' k
    | false => exact (show Ev w c env orelse am' H' Q by simpa using q) s' m' X P F' M' R' k)

/-! truth of a value -/
def truV : Value → Option Bool
  | .bool b => some b
  | .none => some false
  | _ => none
theorem truthy_ {v : Value} {b : Bool} {Q : Bool → AM → AH → Prop} (e : truV (sv v) = some b) (h : Q b am H) : Tr w c id (truthy v) am H Q :=
  fun s m X P F M R k => by
    cases v with
    | bool x => cases e; exact wpAny_truthy_bool (k _ _ m am H F M R h)
    | none => cases e; exact truthy_none (k _ _ m am H F M R h)
    | _ => cases e
theorem tst_plain {e : Expr} {Q : Bool → AM → AH → Prop} (h : Ev w c env e am H fun v am H => ∃ b, truV v = some b ∧ Q b am H)
    (hp : (PySem.isTrue e env (eval e env) = do
          let v ← (eval e env)
          standAt e.pos
          holding [v] (truthy v)) := by rfl) : Tst w c env e am H Q :=
  fun s m X P F M R k => isTrue_plain (h s m X _ F M R fun b s' m' am' H' F' M' R' ⟨_, e, q⟩ => truthy_ e q s' m' X _ F' M' R' k) hp
theorem tst_not {e : Expr} {pos : Pos} {whole : Sem Value} {Q : Bool → AM → AH → Prop} (h : Tst w c env e am H fun b am H => Q (!b) am H) : Tr w c id (PySem.isTrue (.UnaryOp .Not e pos) env whole) am H Q :=
  fun s m X P F M R k => isTrue_not (h s m X _ F M R fun b s' m' am' H' F' M' R' q => k _ _ _ _ _ F' M' R' q)
theorem tst_and {x : Expr} {rest : List Expr} {pos : Pos} {whole : Sem Value} {Q : Bool → AM → AH → Prop}
    (h : Tst w c env x am H fun b am H => if b = true then Tr w c id (PySem.isTrue (.BoolOp .And rest pos) env whole) am H Q else Q false am H) : Tr w c id (PySem.isTrue (.BoolOp .And (x :: rest) pos) env whole) am H Q :=
  fun s m X P F M R k => isTrue_and (h s m X _ F M R fun b s' m' am' H' F' M' R' q => by
    cases b with
    | true => exact (if_pos rfl) ▸ (show Tr w c id (PySem.isTrue (.BoolOp .And rest pos) env whole) am' H' Q by simpa using q) s' m' X P F' M' R' k
    | false => exact k _ _ _ _ _ F' M' R' (by simpa using q))
theorem tst_and_nil {pos : Pos} {whole : Sem Value} {Q : Bool → AM → AH → Prop} (h : Q true am H) : Tr w c id (PySem.isTrue (.BoolOp .And [] pos) env whole) am H Q :=
  fun s m X P F M R k => isTrue_and_nil (k _ _ m _ _ F M R h)
theorem tst_or {x : Expr} {rest : List Expr} {pos : Pos} {whole : Sem Value} {Q : Bool → AM → AH → Prop}
    (h : Tst w c env x am H fun b am H => if b = true then Q true am H else Tr w c id (PySem.isTrue (.BoolOp .Or rest pos) env whole) am H Q) : Tr w c id (PySem.isTrue (.BoolOp .Or (x :: rest) pos) env whole) am H Q :=
  fun s m X P F M R k => isTrue_or (h s m X _ F M R fun b s' m' am' H' F' M' R' q => by
    cases b with
    | true => exact k _ _ _ _ _ F' M' R' (by simpa using q)
    | false => exact (show Tr w c id (PySem.isTrue (.BoolOp .Or rest pos) env whole) am' H' Q by simpa using q) s' m' X P F' M' R' k)
theorem tst_or_nil {pos : Pos} {whole : Sem Value} {Q : Bool → AM → AH → Prop} (h : Q false am H) : Tr w c id (PySem.isTrue (.BoolOp .Or [] pos) env whole) am H Q :=
  fun s m X P F M R k => isTrue_or_nil (k _ _ m _ _ F M R h)
end
end Mine
end

section
open PySem PySem.W PySem.Spec PySem.Calls PyProof.Rows
set_option Elab.async false
set_option maxRecDepth 100000
set_option maxHeartbeats 8000000
namespace Mine

theorem sv_int {a : Value} {i : Int} {t : Tok} (h : sv a = .int i t) : ∃ t, a = .int i t := by
  cases a <;> simp_all [sv]
theorem sv_str {a : Value} {i : Str} {t : Tok} (h : sv a = .str i t) : ∃ t, a = .str i t := by
  cases a <;> simp_all [sv]
theorem sv_none {a : Value} (h : sv a = .none) : a = .none := by
  cases a <;> simp_all [sv]
theorem sv_bool {a : Value} {b : Bool} (h : sv a = .bool b) : a = .bool b := by
  cases a <;> simp_all [sv]
theorem sv_ref {a : Value} {b : Addr} (h : sv a = .ref b) : a = .ref b := by
  cases a <;> simp_all [sv]
theorem sv_builtin {a : Value} {b : String} (h : sv a = .builtin b) : a = .builtin b := by
  cases a <;> simp_all [sv]
theorem sv_type {a : Value} {b : String} (h : sv a = .type b) : a = .type b := by
  cases a <;> simp_all [sv]
theorem lsv_cons {l : List Value} {v : Value} {vs : List Value} (h : lsv l = v :: vs) : ∃ v' l', l = v' :: l' ∧ sv v' = v ∧ lsv l' = vs := by
  cases l with
  | nil => cases h
  | cons a l => simp [lsv] at h; exact ⟨a, l, rfl, h.1, h.2⟩
theorem lsv_nil {l : List Value} (h : lsv l = []) : l = [] := by
  cases l with
  | nil => rfl
  | cons a l => cases h
theorem lsv_length (l : List Value) : (lsv l).length = l.length := by simp [lsv]
theorem lsv_get {l : List Value} {k : Nat} {v : Value} (h : (lsv l)[k]? = some v) : ∃ v', l[k]? = some v' ∧ sv v' = v := by
  simp [lsv] at h; exact h
theorem lsv_mem {l : List Value} {v : Value} (h : v ∈ l) : sv v ∈ lsv l := List.mem_map_of_mem h

inductive BinR : Operator → Value → Value → Value → Prop
  | add (i j : Int) {t u : Tok} : BinR .Add (.int i t) (.int j u) (.int (i + j) 0)
  | sub (i j : Int) {t u : Tok} : BinR .Sub (.int i t) (.int j u) (.int (i - j) 0)
  | mul (i j : Int) {t u : Tok} (h : IntMulOk i j) : BinR .Mult (.int i t) (.int j u) (.int (i * j) 0)
  | mod (i j : Int) {t u : Tok} (h : j ≠ 0) : BinR .Mod (.int i t) (.int j u) (.int (i.fmod j) 0)
  | div (i j : Int) {t u : Tok} (h : j ≠ 0) (h2 : Builtin.divisionGoesByPylong i j = false) : BinR .FloorDiv (.int i t) (.int j u) (.int (i.fdiv j) 0)
  | pow (i j : Int) {t u : Tok} (h1 : 0 ≤ j) (h2 : j ≤ 1000000) (h3 : i.natAbs < 2 ^ 64) : BinR .Pow (.int i t) (.int j u) (.int (i ^ j.toNat) 0)
  | cat (x y : Str) {t u : Tok} (h : x.length + y.length ≤ sizeLine) : BinR .Add (.str x t) (.str y u) (.str (x ++ y) 0)

section
variable {w : World} {n : Nat} {c : Cx} {env : Env} {am : AM} {H : AH}
theorem bin_ {op : Operator} {a b r : Value} {Q : Value → AM → AH → Prop} (h : BinR op (sv a) (sv b) r) (q : Q r am H) : Tr w c sv (binaryOp op a b) am H Q := by
  intro s m X P F M R k
  generalize ea : sv a = a' at h
  generalize eb : sv b = b' at h
  cases h with
  | add i j => obtain ⟨t, rfl⟩ := sv_int ea; obtain ⟨u, rfl⟩ := sv_int eb; exact add_int (k _ _ m _ _ F M R q)
  | sub i j => obtain ⟨t, rfl⟩ := sv_int ea; obtain ⟨u, rfl⟩ := sv_int eb; exact sub_int (k _ _ m _ _ F M R q)
  | mul i j h => obtain ⟨t, rfl⟩ := sv_int ea; obtain ⟨u, rfl⟩ := sv_int eb; exact mul_int (k _ _ m _ _ F M R q) h
  | mod i j h => obtain ⟨t, rfl⟩ := sv_int ea; obtain ⟨u, rfl⟩ := sv_int eb; exact mod_int h (k _ _ m _ _ F M R q)
  | div i j h h2 => obtain ⟨t, rfl⟩ := sv_int ea; obtain ⟨u, rfl⟩ := sv_int eb; exact floordiv_int h (k _ _ m _ _ F M R q) (.inl h2)
  | pow i j h1 h2 h3 => obtain ⟨t, rfl⟩ := sv_int ea; obtain ⟨u, rfl⟩ := sv_int eb; exact pow_int_small h1 h2 h3 (k _ _ m _ _ F M R q)
  | cat x y h => obtain ⟨t, rfl⟩ := sv_str ea; obtain ⟨u, rfl⟩ := sv_str eb; exact SBL.add (fun _ _ _ => k _ _ m _ _ F M R q) h
theorem ev_bin {op : Operator} {l r : Expr} {pos : Pos} {Q : Value → AM → AH → Prop}
    (h : Ev w c env l am H fun a am H => Ev w c env r am H fun b am H => ∃ v, BinR op a b v ∧ Q v am H) : Ev w c env (.BinOp l op r pos) am H Q :=
  fun s m X P F M R k => wpAny_BinOp (h s m X _ F M R fun a s1 m1 am1 H1 F1 M1 R1 h1 => h1 s1 m1 X _ F1 M1 R1 fun b s2 m2 am2 H2 F2 M2 R2 ⟨v, e, q⟩ => bin_ e q s2 m2 X _ F2 M2 R2 k)
theorem ev_binG {op : Operator} {l r : Expr} {pos : Pos} {Q : Value → AM → AH → Prop}
    (h : Ev w c env l am H fun a am H => Ev w c env r am H fun b am H => ∀ a' b', sv a' = a → sv b' = b → Tr w c sv (binaryOp op a' b') am H Q) : Ev w c env (.BinOp l op r pos) am H Q :=
  fun s m X P F M R k => wpAny_BinOp (h s m X _ F M R fun a s1 m1 am1 H1 F1 M1 R1 h1 => h1 s1 m1 X _ F1 M1 R1 fun b s2 m2 am2 H2 F2 M2 R2 q => q a b rfl rfl s2 m2 X _ F2 M2 R2 k)
theorem ev_neg {x : Expr} {pos : Pos} {Q : Value → AM → AH → Prop} (h : Ev w c env x am H fun v am H => ∃ i : Int, v = .int i 0 ∧ Q (.int (-i) 0) am H) : Ev w c env (.UnaryOp .USub x pos) am H Q :=
  fun s m X P F M R k => UnaryOp_ (h s m X _ F M R fun a s1 m1 am1 H1 F1 M1 R1 ⟨i, e, q⟩ => by
    obtain ⟨t, rfl⟩ := sv_int e
    exact neg_int (k _ _ m1 _ _ F1 M1 R1 q))

/-! comparisons -/
def CmpIs (w : World) (c : Cx) (H : AH) (op : CmpOp) (a b : Value) (r : Bool) : Prop :=
  ∀ a' b' (s : Shared) m X (P E : Value → Shared → Prop), sv a' = a → sv b' = b → Fr c.h₀ c.L s.heap m → HR c.h₀ c.L s.heap H X → P (.bool r) s → wpAny (model lawProg w) c.A (compareOp op a' b') P E s
theorem ev_cmp {op : CmpOp} {l r : Expr} {pos : Pos} {Q : Value → AM → AH → Prop}
    (h : Ev w c env l am H fun a am H => Ev w c env r am H fun b am H => ∃ t, CmpIs w c H op a b t ∧ Q (.bool t) am H) (hm : behindInMarks op r = false := by rfl) : Ev w c env (.Compare l [op] [r] pos) am H Q :=
  fun s m X P F M R k => wpAny_Compare1 (h s m X _ F M R fun a s1 m1 am1 H1 F1 M1 R1 h1 => h1 s1 m1 X _ F1 M1 R1 fun b s2 m2 am2 H2 F2 M2 R2 ⟨v, e, q⟩ => e a b s2 m2 X _ _ rfl rfl F2 R2 (k _ _ m2 _ _ F2 M2 R2 q)) hm
theorem tst_cmp {op : CmpOp} {l r : Expr} {pos : Pos} {whole : Sem Value} {Q : Bool → AM → AH → Prop}
    (h : Ev w c env l am H fun a am H => Ev w c env r am H fun b am H => ∃ t, CmpIs w c H op a b t ∧ Q t am H) (hm : behindInMarks op r = false := by rfl) : Tr w c id (PySem.isTrue (.Compare l [op] [r] pos) env whole) am H Q :=
  fun s m X P F M R k => wpAny_isTrue_Compare1 (h s m X _ F M R fun a s1 m1 am1 H1 F1 M1 R1 h1 => h1 s1 m1 X _ F1 M1 R1 fun b s2 m2 am2 H2 F2 M2 R2 ⟨v, e, q⟩ => e a b s2 m2 X _ _ rfl rfl F2 R2 (wpAny_truthy_bool (k _ _ m2 _ _ F2 M2 R2 q))) hm
theorem tst_cmp2 {op op' : CmpOp} {l r r' : Expr} {pos : Pos} {whole : Sem Value} {Q : Bool → AM → AH → Prop}
    (h : Ev w c env l am H fun a am H => Ev w c env r am H fun b am H => ∃ t, CmpIs w c H op a b t ∧ if t = true then Ev w c env r' am H (fun b' am H => ∃ t, CmpIs w c H op' b b' t ∧ Q t am H) else Q false am H)
    (hm : lastMarks [op, op'] [r, r'] = false := by rfl) : Tr w c id (PySem.isTrue (.Compare l [op, op'] [r, r'] pos) env whole) am H Q :=
  fun s m X P F M R k => isTrue_chain (h s m X _ F M R fun a s1 m1 am1 H1 F1 M1 R1 h1 => test_link (h1 s1 m1 X _ F1 M1 R1 fun b s2 m2 am2 H2 F2 M2 R2 ⟨v, e, q⟩ => e a b s2 m2 X _ _ rfl rfl F2 R2 (wpAny_truthy_bool (by
    cases v with
    | false => rw [if_neg Bool.false_ne_true] at q ⊢; exact k _ _ m2 _ _ F2 M2 R2 q
    | true => rw [if_pos rfl] at q ⊢; exact test_last (q s2 m2 X _ F2 M2 R2 fun b' s3 m3 am3 H3 F3 M3 R3 ⟨v, e, q⟩ => e b b' s3 m3 X _ _ rfl rfl F3 R3 (wpAny_truthy_bool (k _ _ m3 _ _ F3 M3 R3 q))))))) hm

theorem CmpIs.lt {i j : Int} : CmpIs w c H .Lt (.int i 0) (.int j 0) (decide (i < j)) := fun a b s m X P E ea eb F R q => by
  obtain ⟨t, rfl⟩ := sv_int ea; obtain ⟨u, rfl⟩ := sv_int eb; exact lt_int q
theorem CmpIs.le {i j : Int} : CmpIs w c H .LtE (.int i 0) (.int j 0) (decide (i ≤ j)) := fun a b s m X P E ea eb F R q => by
  obtain ⟨t, rfl⟩ := sv_int ea; obtain ⟨u, rfl⟩ := sv_int eb; exact le_int q
theorem CmpIs.gt {i j : Int} : CmpIs w c H .Gt (.int i 0) (.int j 0) (decide (j < i)) := fun a b s m X P E ea eb F R q => by
  obtain ⟨t, rfl⟩ := sv_int ea; obtain ⟨u, rfl⟩ := sv_int eb; exact gt_int q
theorem CmpIs.ge {i j : Int} : CmpIs w c H .GtE (.int i 0) (.int j 0) (decide (j ≤ i)) := fun a b s m X P E ea eb F R q => by
  obtain ⟨t, rfl⟩ := sv_int ea; obtain ⟨u, rfl⟩ := sv_int eb; exact ge_int q
theorem CmpIs.eqi {i j : Int} : CmpIs w c H .Eq (.int i 0) (.int j 0) (i == j) := fun a b s m X P E ea eb F R q => by
  obtain ⟨t, rfl⟩ := sv_int ea; obtain ⟨u, rfl⟩ := sv_int eb; exact eq_int q
theorem CmpIs.nei {i j : Int} : CmpIs w c H .NotEq (.int i 0) (.int j 0) (i != j) := fun a b s m X P E ea eb F R q => by
  obtain ⟨t, rfl⟩ := sv_int ea; obtain ⟨u, rfl⟩ := sv_int eb; exact ne_int q
theorem CmpIs.eqs {i j : Str} : CmpIs w c H .Eq (.str i 0) (.str j 0) (i == j) := fun a b s m X P E ea eb F R q => by
  obtain ⟨t, rfl⟩ := sv_str ea; obtain ⟨u, rfl⟩ := sv_str eb; exact eq_str q
theorem CmpIs.nes {i j : Str} : CmpIs w c H .NotEq (.str i 0) (.str j 0) (i != j) := fun a b s m X P E ea eb F R q => by
  obtain ⟨t, rfl⟩ := sv_str ea; obtain ⟨u, rfl⟩ := sv_str eb; exact ne_str q
theorem CmpIs.eqni {j : Int} : CmpIs w c H .Eq .none (.int j 0) false := fun a b s m X P E ea eb F R q => by
  obtain rfl := sv_none ea; obtain ⟨u, rfl⟩ := sv_int eb; exact EqNone.eq_none_int q
theorem CmpIs.neb {i j : Bool} : CmpIs w c H .NotEq (.bool i) (.bool j) (i != j) := fun a b s m X P E ea eb F R q => by
  obtain rfl := sv_bool ea; obtain rfl := sv_bool eb; exact ne_bool q
theorem sv_isnone (a : Value) : (a == Value.none) = (sv a == Value.none) := by cases a <;> rfl
theorem CmpIs.isn {a : Value} : CmpIs w c H .Is a .none (a == Value.none) := fun a' b s m X P E ea eb F R q => by
  obtain rfl := sv_none eb; refine is_none ?_; rw [sv_isnone, ea]; exact q
theorem CmpIs.isnt {a : Value} : CmpIs w c H .IsNot a .none (!(a == Value.none)) := fun a' b s m X P E ea eb F R q => by
  obtain rfl := sv_none eb; refine isNot_none ?_; rw [sv_isnone, ea]; exact q

/-! equality of flat values -/
def veq : Value → Value → Option Bool
  | .int i _, .int j _ => some (i == j)
  | .str i _, .str j _ => some (i == j)
  | .bool i, .bool j => some (i == j)
  | .none, .none => some true
  | .none, .str .. | .str .., .none | .none, .int .. | .int .., .none => some false
  | _, _ => none
theorem veq_at {a b : Value} {r : Bool} (h : veq (sv a) (sv b) = some r) (A : Around) (s : Shared) : SeqAt.EqAt A s a b r := by
  generalize ea : sv a = x at h
  generalize eb : sv b = y at h
  unfold veq at h
  split at h <;> first | (cases h; done) | skip
  all_goals cases h
  · obtain ⟨_, rfl⟩ := sv_int ea; obtain ⟨_, rfl⟩ := sv_int eb; exact SeqAt.EqAt.int_int _ _ _ _
  · obtain ⟨_, rfl⟩ := sv_str ea; obtain ⟨_, rfl⟩ := sv_str eb; exact SeqAt.EqAt.str_str _ _ _ _
  · obtain rfl := sv_bool ea; obtain rfl := sv_bool eb; exact SeqAt.EqAt.bool_bool _ _
  · obtain rfl := sv_none ea; obtain rfl := sv_none eb; exact SeqAt.EqAt.same _
  · obtain rfl := sv_none ea; obtain ⟨_, rfl⟩ := sv_str eb; exact SeqAt.EqAt.none_str _ _
  · obtain ⟨_, rfl⟩ := sv_str ea; obtain rfl := sv_none eb; exact SeqAt.EqAt.str_none _ _
  · obtain rfl := sv_none ea; obtain ⟨_, rfl⟩ := sv_int eb; exact SeqAt.EqAt.none_int _ _
  · obtain ⟨_, rfl⟩ := sv_int ea; obtain rfl := sv_none eb; exact SeqAt.EqAt.int_none _ _
theorem Cx.Ok.room {w : World} {c : Cx} (O : c.Ok w n) : c.A.units < cLine := by
  have := O.u; show c.un < cLine; omega
theorem HR.list {h₀ h : Heap} {L : Addr} {X : List (Addr × Obj)} (R : HR h₀ L h H X) {a : Addr} {vs : List Value} (e : H a = some (.list vs)) : ∃ xs k, h.get? a = some (listO xs k) ∧ lsv xs = vs ∧ h.IsList a xs.toArray := by
  obtain ⟨ob, h1, h2⟩ := R.get e
  generalize q : AObj.list vs = z at h2
  cases h2 <;> cases q
  exact ⟨_, _, h1, rfl, _, h1, rfl, _, rfl⟩
theorem HR.tup {h₀ h : Heap} {L : Addr} {X : List (Addr × Obj)} (R : HR h₀ L h H X) {a : Addr} {vs : List Value} (e : H a = some (.tuple vs)) : ∃ xs k, h.get? a = some (tupO xs k) ∧ lsv xs = vs ∧ h.IsTuple a xs.toArray := by
  obtain ⟨ob, h1, h2⟩ := R.get e
  generalize q : AObj.tuple vs = z at h2
  cases h2 <;> cases q
  exact ⟨_, _, h1, rfl, _, h1, rfl, _, rfl⟩
def lveq : List Value → List Value → Option Bool
  | [], [] => some true
  | a :: as, b :: bs => match veq a b, lveq as bs with
    | some x, some y => some (x && y)
    | _, _ => none
  | _, _ => some false
theorem all_range_succ (e : Nat → Bool) (k : Nat) : (List.range (k + 1)).all e = (e 0 && (List.range k).all fun i => e (i + 1)) := by
  rw [List.range_succ_eq_map, List.all_cons, List.all_map]; rfl
theorem lveq_len : ∀ {xs ys : List Value} {r : Bool}, xs.length = ys.length → lveq (lsv xs) (lsv ys) = some r → ∀ A s, ∃ e : Nat → Bool, (∀ j (h1 : j < xs.length) (h2 : j < ys.length), SeqAt.EqAt A s xs[j] ys[j] (e j)) ∧ (List.range xs.length).all e = r
  | [], [], r, _, h, A, s => ⟨fun _ => true, fun j h1 => absurd h1 (Nat.not_lt_zero _), by simpa [lsv, lveq] using h⟩
  | x :: xs, y :: ys, r, hl, h, A, s => by
    simp only [lsv, List.map_cons, lveq] at h
    cases h1 : veq (sv x) (sv y) with
    | none => rw [h1] at h; cases h
    | some p =>
      cases h2 : lveq (lsv xs) (lsv ys) with
      | none => rw [h1] at h; simp only [lsv] at h2; rw [h2] at h; cases h
      | some q =>
        rw [h1] at h; simp only [lsv] at h2; rw [h2] at h; cases h
        obtain ⟨e, he, ha⟩ := lveq_len (Nat.succ.inj hl) h2 A s
        refine ⟨fun j => match j with | 0 => p | j + 1 => e j, fun j h1' h2' => ?_, ?_⟩
        · cases j with
          | zero => exact veq_at h1 A s
          | succ j => exact he j (Nat.lt_of_succ_lt_succ h1') (Nat.lt_of_succ_lt_succ h2')
        · rw [List.length_cons, all_range_succ]; simp only [ha]
theorem lveq_ne : ∀ {xs ys : List Value}, xs.length ≠ ys.length → ∀ r, lveq (lsv xs) (lsv ys) = some r → r = false
  | [], [], h, _, _ => absurd rfl h
  | [], _ :: _, _, r, h => by simpa [lsv, lveq] using h.symm
  | _ :: _, [], _, r, h => by simpa [lsv, lveq] using h.symm
  | x :: xs, y :: ys, hl, r, h => by
    simp only [lsv, List.map_cons, lveq] at h
    split at h
    · rename_i p q h1 h2
      have := lveq_ne (xs := xs) (ys := ys) (fun e => hl (congrArg Nat.succ e)) _ h2
      cases h; rw [this]; simp
    · cases h
theorem CmpIs.eql {a b : Addr} {xs ys : List Value} {r : Bool} (O : c.Ok w n) (ha : H a = some (.list xs)) (hb : H b = some (.list ys)) (h : lveq xs ys = some r ∨ (xs.length ≠ ys.length ∧ r = false)) : CmpIs w c H .Eq (.ref a) (.ref b) r := fun a' b' s m X P E ea eb F R q => by
  obtain rfl := sv_ref ea; obtain rfl := sv_ref eb
  obtain ⟨xs, k, g1, rfl, l1⟩ := R.list ha
  obtain ⟨ys, k', g2, rfl, l2⟩ := R.list hb
  by_cases hz : xs.length = ys.length
  · rcases h with h | h
    · obtain ⟨e, he, hr⟩ := lveq_len hz h c.A.in1 s
      refine SeqAt.eq_listAt l1 l2 (by simpa using hz) O.room (e := e) (fun j h1 h2 => by simpa using he j (by simpa using h1) (by simpa using h2)) ?_
      rw [List.size_toArray, hr]; exact q
    · exact absurd hz (by simpa [lsv_length] using h.1)
  · have : r = false := h.elim (fun h => lveq_ne hz r h) (·.2)
    subst this
    exact SeqAt.eq_list_lengthsAt l1 l2 (by simpa using hz) O.room q
theorem CmpIs.nel {a b : Addr} {xs ys : List Value} {r : Bool} (O : c.Ok w n) (ha : H a = some (.list xs)) (hb : H b = some (.list ys)) (h : lveq xs ys = some r ∨ (xs.length ≠ ys.length ∧ r = false)) : CmpIs w c H .NotEq (.ref a) (.ref b) (!r) := fun a' b' s m X P E ea eb F R q => by
  obtain rfl := sv_ref ea; obtain rfl := sv_ref eb
  obtain ⟨xs, k, g1, rfl, l1⟩ := R.list ha
  obtain ⟨ys, k', g2, rfl, l2⟩ := R.list hb
  refine cmp_ofNotEq ?_
  by_cases hz : xs.length = ys.length
  · rcases h with h | h
    · obtain ⟨e, he, hr⟩ := lveq_len hz h c.A.in1 s
      refine SeqAt.RcNeAt.lists l1 l2 (by simpa using hz) O.room (e := e) (fun j h1 h2 => by simpa using he j (by simpa using h1) (by simpa using h2)) _ _ _ _ ?_
      rw [List.size_toArray, hr]; exact q
    · exact absurd hz (by simpa [lsv_length] using h.1)
  · have : r = false := h.elim (fun h => lveq_ne hz r h) (·.2)
    subst this
    exact SeqAt.RcNeAt.lists_lengths l1 l2 (by simpa using hz) O.room _ _ _ _ q
theorem CmpIs.eqt {a b : Addr} {xs ys : List Value} {r : Bool} (O : c.Ok w n) (ha : H a = some (.tuple xs)) (hb : H b = some (.tuple ys)) (hz : xs.length = ys.length) (h : lveq xs ys = some r) : CmpIs w c H .Eq (.ref a) (.ref b) r := fun a' b' s m X P E ea eb F R q => by
  obtain rfl := sv_ref ea; obtain rfl := sv_ref eb
  obtain ⟨xs, k, g1, rfl, l1⟩ := R.tup ha
  obtain ⟨ys, k', g2, rfl, l2⟩ := R.tup hb
  rw [lsv_length, lsv_length] at hz
  obtain ⟨e, he, hr⟩ := lveq_len hz h c.A.in1 s
  refine SeqAt.eq_tupleAt l1 l2 O.room (e := e) (fun j h1 h2 => by simpa using he j (by simpa using h1) (by simpa using h2)) ?_
  have : ((List.range (min xs.toArray.size ys.toArray.size)).all e && xs.toArray.size == ys.toArray.size) = r := by
    simp [hz] at hr ⊢; exact hr
  rw [this]; exact q
/-- membership -/
def linq : List Value → Value → Option Bool
  | [], _ => some false
  | a :: as, x => match veq a x, linq as x with
    | some p, some q => some (p || q)
    | _, _ => none
theorem linq_all {x : Value} : ∀ {xs : List Value} {r : Bool}, linq (lsv xs) (sv x) = some r → (∀ y ∈ xs, veq (sv y) (sv x) = some ((veq (sv y) (sv x)).getD false)) ∧ xs.any (fun y => (veq (sv y) (sv x)).getD false) = r := by
  intro xs
  induction xs with
  | nil => exact fun h => ⟨fun _ h => (nomatch h), by simpa [linq, lsv] using h⟩
  | cons a as ih =>
    intro r h
    simp only [lsv, List.map_cons, linq] at h
    split at h
    · rename_i p q h1 h2
      cases h
      obtain ⟨g1, g2⟩ := ih h2
      refine ⟨fun y hy => ?_, ?_⟩
      · rcases List.mem_cons.mp hy with rfl | hy
        · rw [h1]; rfl
        · exact g1 y hy
      · rw [List.any_cons, g2, h1]; rfl
    · cases h
theorem CmpIs.inl {a : Value} {b : Addr} {ys : List Value} {r : Bool} (hb : H b = some (.list ys)) (h : linq ys a = some r) : CmpIs w c H .In a (.ref b) r := fun a' b' s m X P E ea eb F R q => by
  subst ea; obtain rfl := sv_ref eb
  obtain ⟨ys, k', g2, rfl, l2⟩ := R.list hb
  obtain ⟨g1, rfl⟩ := linq_all h
  exact SeqAt.in_listAt _ l2 (fun y hy => veq_at (g1 y (by simpa using hy)) _ _) (by simpa using q)
theorem CmpIs.ninl {a : Value} {b : Addr} {ys : List Value} {r : Bool} (hb : H b = some (.list ys)) (h : linq ys a = some r) : CmpIs w c H .NotIn a (.ref b) (!r) := fun a' b' s m X P E ea eb F R q => by
  subst ea; obtain rfl := sv_ref eb
  obtain ⟨ys, k', g2, rfl, l2⟩ := R.list hb
  obtain ⟨g1, rfl⟩ := linq_all h
  exact SeqAt.notIn_listAt _ l2 (fun y hy => veq_at (g1 y (by simpa using hy)) _ _) (by simpa using q)
theorem CmpIs.int {a : Value} {b : Addr} {ys : List Value} {r : Bool} (hb : H b = some (.tuple ys)) (h : linq ys a = some r) : CmpIs w c H .In a (.ref b) r := fun a' b' s m X P E ea eb F R q => by
  subst ea; obtain rfl := sv_ref eb
  obtain ⟨ys, k', g2, rfl, l2⟩ := R.tup hb
  obtain ⟨g1, rfl⟩ := linq_all h
  exact SeqAt.in_tupleAt _ l2 (fun y hy => veq_at (g1 y (by simpa using hy)) _ _) (by simpa using q)
theorem CmpIs.nint {a : Value} {b : Addr} {ys : List Value} {r : Bool} (hb : H b = some (.tuple ys)) (h : linq ys a = some r) : CmpIs w c H .NotIn a (.ref b) (!r) := fun a' b' s m X P E ea eb F R q => by
  subst ea; obtain rfl := sv_ref eb
  obtain ⟨ys, k', g2, rfl, l2⟩ := R.tup hb
  obtain ⟨g1, rfl⟩ := linq_all h
  exact SeqAt.notIn_tupleAt _ l2 (fun y hy => veq_at (g1 y (by simpa using hy)) _ _) (by simpa using q)
theorem CmpIs.ninK {a : Value} {b : Addr} {ys : List Value} {k : Nat} {r : Bool} (O : c.Ok w n) (hb : (hK w.params).lookup b = some { cls := .type "tuple", data := .seq ys.toArray k }) (h : linq (lsv ys) a = some r) : CmpIs w c H .NotIn a (.ref b) (!r) := fun a' b' s m X P E ea eb F R q => by
  subst ea; obtain rfl := sv_ref eb
  have g := (O.X.keeps F.keep) _ _ hb
  obtain ⟨g1, rfl⟩ := linq_all h
  exact SeqAt.notIn_tupleAt _ ⟨_, g, rfl, _, rfl⟩ (fun y hy => veq_at (g1 y (by simpa using hy)) _ _) (by simpa using q)
end
end Mine
end

section
open PySem PySem.W PySem.Spec PySem.Calls PyProof.Rows
set_option Elab.async false
set_option maxRecDepth 100000
set_option maxHeartbeats 8000000
namespace Mine
theorem Cx.Ok.le {w : World} {c : Cx} {n k : Nat} (O : c.Ok w n) (h : k ≤ n) : c.Ok w k :=
  ⟨by have := O.d; omega, by have := O.u; omega, O.B, O.X, O.T, O.k, O.C, O.S⟩

/-- a contract: calls of f with these arguments, made by any caller -/
def Spec (w : World) (f : Value) (need : Nat) (H : AH) (args : List Value) (post : Value → AH → Prop) : Prop :=
  ∀ (c : Cx), c.Ok w need → ∀ (args' : List Value) (s : Shared) (m : Str → Option Value) (X : List (Addr × Obj)) (R : Result → Shared → Prop),
    lsv args' = args → Fr c.h₀ c.L s.heap m → HR c.h₀ c.L s.heap H X → Sh c s →
    (∀ v s' H', Fr c.h₀ c.L s'.heap m → HR c.h₀ c.L s'.heap H' X → Sh c s' → post (sv v) H' → R (.ok (.ret v)) s') →
    codeAny (model lawProg w) c.A (.call f ⟨args', []⟩) R s
theorem Spec.mono {w : World} {f : Value} {k : Nat} {H : AH} {args : List Value} {post post' : Value → AH → Prop} (h : Spec w f k H args post) (hp : ∀ v H, post v H → post' v H) : Spec w f k H args post' :=
  fun c O args' s m X R ea F HR' K r => h c O args' s m X R ea F HR' K fun v s' H' F' R' K' q => r v s' H' F' R' K' (hp _ _ q)

abbrev Args (w : World) (c : Cx) (env : Env) (pos : Pos) (es : List Expr) := Tr w c lsv (spliced (backTo pos (starEach es env)))
section
variable {w : World} {n : Nat} {c : Cx} {env : Env} {am : AM} {H : AH}
theorem ar_nil {pos : Pos} {Q : List Value → AM → AH → Prop} (h : Q [] am H) : Args w c env pos [] am H Q :=
  fun s m X P F M R k => spliced_none (k _ _ m _ _ F M R h)
theorem ar_cons {pos : Pos} {e : Expr} {es : List Expr} {Q : List Value → AM → AH → Prop} (h : Ev w c env e am H fun v am H => Args w c env pos es am H fun vs am H => Q (v :: vs) am H)
    (he : starEach (e :: es) env = (false, eval e env) :: starEach es env := by rfl) : Args w c env pos (e :: es) am H Q :=
  fun s m X P F M R k => spliced_more (h s m X _ F M R fun v s1 m1 am1 H1 F1 M1 R1 h1 => h1 s1 m1 X _ F1 M1 R1 fun vs s2 m2 am2 H2 F2 M2 R2 q => k _ _ m2 _ _ F2 M2 R2 q) he
/-- the call of a value, after its arguments stand -/
def CallIs (w : World) (c : Cx) (f : Value) (vs : List Value) (am : AM) (H : AH) (Q : Value → AM → AH → Prop) : Prop :=
  ∀ vs', lsv vs' = vs → Tr w c sv (call f vs') am H Q
theorem Spec.use {f : Value} {need : Nat} {vs : List Value} {post : Value → AH → Prop} {Q : Value → AM → AH → Prop} (O : c.Ok w n) (h : Spec w f need H vs post) (hn : need ≤ n) (hq : ∀ v H', post v H' → Q v am H') : CallIs w c f vs am H Q :=
  fun vs' ea s m X P F M R k => wpAny_call (h c (O.le hn) vs' s m X _ ea F R M.2 fun v s' H' F' R' K' q => k _ _ m am H' F' ⟨M.1, K'⟩ R' (hq _ _ q))
theorem keepIn_type {K : Frag} {f : Value} (h : keepIn K f = true) : ∃ a, f = .ref a := by
  unfold keepIn at h; split at h
  · exact ⟨_, rfl⟩
  · cases h
inductive Callable (w : World) : Value → Prop
  | ref {a : Addr} (h : keepIn (hK w.params) (.ref a) = true) : Callable w (.ref a)
  | type (T : String) : Callable w (.type T)
  | builtin (T : String) : Callable w (.builtin T)
theorem ev_call0 {func : Expr} {pos : Pos} {Q : Value → AM → AH → Prop} (O : c.Ok w n)
    (h : Ev w c env func am H fun f am H => (∃ a, f = .ref a ∧ keepIn (hK w.params) f = true) ∧ CallIs w c f [] am H Q)
    (he : eval (.Call func [] [] pos) env = (do callWith pos (← eval func env) [] (backTo pos (starEach [] env)) (backToKw pos (keywordEach [] env))) := by rfl) : Ev w c env (.Call func [] [] pos) am H Q :=
  fun s m X P F M R k => Call_ (h s m X _ F M R fun f s1 m1 am1 H1 F1 M1 R1 ⟨⟨a, ef, hk⟩, ha⟩ => by
    obtain rfl := sv_ref ef
    exact callWith_K0 (O.X.keeps F1.keep) hk (ha [] rfl s1 m1 X _ F1 M1 R1 k)) he
theorem ev_call {func e : Expr} {rest : List Expr} {pos : Pos} {Q : Value → AM → AH → Prop} (O : c.Ok w n)
    (h : Ev w c env func am H fun f am H => Callable w f ∧ Args w c env pos (e :: rest) am H fun vs am H => CallIs w c f vs am H Q)
    (he : eval (.Call func (e :: rest) [] pos) env = (do callWith pos (← eval func env) [] (backTo pos (starEach (e :: rest) env)) (backToKw pos (keywordEach [] env))) := by rfl)
    (h1 : starEach (e :: rest) env = (false, eval e env) :: starEach rest env := by rfl)
    (h2 : ((backTo pos (starEach rest env)).any fun x => x.fst) = false := by rfl) : Ev w c env (.Call func (e :: rest) [] pos) am H Q :=
  fun s m X P F M R k => Call_ (h s m X _ F M R fun f s1 m1 am1 H1 F1 M1 R1 ⟨hk, ha⟩ => by
    generalize ef : sv f = f' at hk ha
    cases hk with
    | ref hk =>
      obtain rfl := sv_ref ef
      exact callWith_K O.X hk (ha s1 m1 X _ F1 M1 R1 fun vs s2 m2 am2 H2 F2 M2 R2 h2 => ⟨O.X.keeps F2.keep, h2 vs rfl s2 m2 X _ F2 M2 R2 k⟩) h1 h2
    | type T =>
      obtain rfl := sv_type ef
      exact callWith_type1 (ha s1 m1 X _ F1 M1 R1 fun vs s2 m2 am2 H2 F2 M2 R2 h2 => h2 vs rfl s2 m2 X _ F2 M2 R2 k) h1 h2
    | builtin T =>
      obtain rfl := sv_builtin ef
      exact callWith_method1 (first := []) (ha s1 m1 X _ F1 M1 R1 fun vs s2 m2 am2 H2 F2 M2 R2 h2 => h2 vs rfl s2 m2 X _ F2 M2 R2 k) h1 h2) he

/-! attributes -/
theorem sv_handed (v : Value) : handedIn (sv v) = handedIn v := by cases v <;> rfl
theorem isStr_eq (x y : Str) (t : Tok) : (Value.str x t).isStr y = (x == y) := rfl
theorem getL_some {x : Str} {v : Value} {fs : List (Str × Value)} {es : List DictEntry} (r : ERel fs es) : fs.lookup x = some v → ∃ v', getL x es = some (some v') ∧ sv v' = v := by
  induction r with
  | nil => intro h; cases h
  | @cons y u t fs es k r ih =>
    intro h
    rw [List.lookup_cons] at h
    by_cases q : y = x
    · subst q
      simp at h
      exact ⟨u, by simp [getL, isStr_eq], h⟩
    · have q1 : (x == y) = false := by simpa using fun e => q e.symm
      have q2 : (y == x) = false := by simpa using q
      rw [q1] at h
      obtain ⟨v', e, e'⟩ := ih h
      refine ⟨v', ?_, e'⟩
      unfold getL at e ⊢
      rw [List.find?_cons]
      simp only [isStr_eq, q2]
      split at e
      · cases e; simp_all
      · split at e <;> simp_all
theorem getL_none {x : Str} {fs : List (Str × Value)} {es : List DictEntry} (r : ERel fs es) : fs.lookup x = none → getL x es = some none := by
  induction r with
  | nil => intro h; rfl
  | @cons y u t fs es k r ih =>
    intro h
    rw [List.lookup_cons] at h
    by_cases q : y = x
    · subst q; simp at h
    · have q1 : (x == y) = false := by simpa using fun e => q e.symm
      have q2 : (y == x) = false := by simpa using q
      rw [q1] at h
      have e := ih h
      unfold getL at e ⊢
      rw [List.find?_cons]
      simp only [isStr_eq, q2]
      split at e
      · cases e
      · rename_i q3
        rw [q3]
        split at e
        · cases e
        · rename_i q4
          rw [List.any_cons]
          have : (⟨k, .str y t, u⟩ : DictEntry).refKey = false := rfl
          rw [this, Bool.false_or, if_neg q4]
def aput (x : Str) (v : Value) : List (Str × Value) → List (Str × Value)
  | [] => [(x, v)]
  | (y, u) :: r => if y == x then (y, v) :: r else (y, u) :: aput x v r
theorem ERel.put {x : Str} {v : Value} {hsh : Int} {t : Tok} {fs : List (Str × Value)} {es : List DictEntry} (r : ERel fs es) : ERel (aput x (sv v) fs) (putL x hsh (.str x t) v es) := by
  induction r with
  | nil => exact .cons .nil
  | @cons y u t fs es k r ih =>
    unfold aput putL
    by_cases q : (y == x) = true
    · rw [if_pos q]; exact (if_pos (c := (Value.str y t).isStr x = true) q).symm ▸ .cons r
    · rw [if_neg q]; exact (if_neg (c := (Value.str y t).isStr x = true) q).symm ▸ .cons ih
theorem ERel.len {fs : List (Str × Value)} {es : List DictEntry} (r : ERel fs es) : es.length = fs.length := by
  induction r with
  | nil => rfl
  | cons r ih => rw [List.length_cons, List.length_cons, ih]
theorem putL_len (x : Str) (hsh : Int) (k v : Value) : ∀ es : List DictEntry, (putL x hsh k v es).length ≤ es.length + 1
  | [] => Nat.le_refl _
  | e :: r => by
    unfold putL
    split
    · simp
    · simpa using putL_len x hsh k v r
theorem HR.inst {h₀ h : Heap} {L : Addr} {X : List (Addr × Obj)} (R : HR h₀ L h H X) {a C d : Addr} {fs : List (Str × Value)} (e : H a = some (.inst C d)) (e' : H d = some (.attrs fs)) :
    ∃ es k, ERel fs es ∧ InstAt h a (instObj C d) C (some (dictOf es k)) := by
  obtain ⟨news, N, h1, h2⟩ := R
  obtain ⟨ob, m1, r1⟩ := h1 _ _ e
  obtain ⟨od, m2, r2⟩ := h1 _ _ e'
  cases r1
  generalize q : AObj.attrs fs = z at r2
  cases r2 <;> cases q
  rename_i es k r
  exact ⟨es, k, r, InstAt.of_news N m1 m2⟩
structure AttrOk (w : World) (C : Addr) (name : Str) : Prop where
  g : plainGet (hK w.params) C name = true
  d : hasDictIn (hK w.params) C = true
  f : ∃ attr, findIn (hK w.params) (.ref C) name = some attr ∧ noGet (hK w.params) attr = true
structure SetOk (w : World) (C : Addr) (name : Str) : Prop where
  f : findIn (hK w.params) (.ref C) "__setattr__" = some (some (.builtin "object.__setattr__"))
  p : plainOver (hK w.params) C = true
  t : takerIn (hK w.params) C name = some none
  d : hasDictIn (hK w.params) C = true
structure MethOk (w : World) (C : Addr) (name : Str) (f : Addr) : Prop where
  g : plainGet (hK w.params) C name = true
  fn : findIn (hK w.params) (.ref C) name = some (some (.ref f))
  i : isFn (hK w.params) (.ref f) = true
/-- what an attribute reads as -/
def AttrIs (w : World) (H : AH) (o : Value) (name : Str) (v : Value) : Prop :=
  ∃ a C d fs, o = .ref a ∧ H a = some (.inst C d) ∧ H d = some (.attrs fs) ∧ AttrOk w C name ∧ fs.lookup name = some v ∧ handedIn v = true
theorem get_ {o : Value} {name : Str} {v : Value} {Q : Value → AM → AH → Prop} (O : c.Ok w n) (h : AttrIs w H (sv o) name v) (q : Q v am H) : Tr w c sv (getAttr o name true) am H Q := by
  obtain ⟨a, C, d, fs, eo, e1, e2, A, e3, e4⟩ := h
  obtain rfl := sv_ref eo
  intro s m X P F M R k
  obtain ⟨es, kk, r, I⟩ := R.inst e1 e2
  obtain ⟨v', g1, rfl⟩ := getL_some r e3
  obtain ⟨attr, f1, f2⟩ := A.f
  exact get_own F O.X I A.g A.d f1 f2 g1 ((sv_handed _).symm.trans e4) (k _ _ m _ _ F M R q)
theorem ev_attr {value : Expr} {attr : Str} {pos : Pos} {Q : Value → AM → AH → Prop} (O : c.Ok w n) (h : Ev w c env value am H fun o am H => ∃ v, AttrIs w H o attr v ∧ Q v am H)
    (he : (eval (value.Attribute attr pos) env = do
          let o ← eval value env
          standAt pos.atName
          let r ← holding [o] (getAttr o attr true)
          letTemporaryGo value o r
          pure r) := by rfl) : Ev w c env (.Attribute value attr pos) am H Q :=
  fun s m X P F M R k => Attribute_any_ (h s m X _ F M R fun o s1 m1 am1 H1 F1 M1 R1 ⟨v, e, q⟩ => get_ O e q s1 m1 X _ F1 M1 R1 k) he
theorem set_ {o v : Value} {a C d : Addr} {fs : List (Str × Value)} {name : Str} {Q : Unit → AM → AH → Prop} (O : c.Ok w n) (eo : sv o = .ref a) (e1 : H a = some (.inst C d)) (e2 : H d = some (.attrs fs)) (S : SetOk w C name) (hl : fs.length ≤ 900)
    (q : Q () am (hset H d (.attrs (aput name (sv v) fs)))) : Tr w c id (setAttr o name v) am H Q := by
  obtain rfl := sv_ref eo
  intro s m X P F M R k
  obtain ⟨ob, rest, ho, N, hr, upd⟩ := R.upd e2
  generalize qq : AObj.attrs fs = z at ho
  cases ho <;> cases qq
  rename_i es kk r
  obtain ⟨news', N', h1, h2⟩ := id R
  obtain ⟨ob1, m1, r1⟩ := h1 _ _ e1
  cases r1
  obtain ⟨ob2, m2, r2⟩ := h1 _ _ e2
  have : ob2 = dictOf es kk := Option.some.inj (((N' _ m2).1).symm.trans (N _ (.head _)).1)
  subst this
  have I := InstAt.of_news (sl := (instObj C d).slots) N' m1 m2
  refine set_dict F O.X N I rfl S.f S.p S.t S.d ?_ rfl (.head hr) ?_ fun h' F' N2 => k _ _ m _ _ F' M (upd h' _ _ (.attrs _ r.put) N2) q
  · cases hx : fs.lookup name with
    | none => rw [getL_none r hx]; rfl
    | some v => obtain ⟨v', g, _⟩ := getL_some r hx; rw [g]; rfl
  · have := putL_len name (PyData.keyHash w.params name) (.str name (s.toks + 1)) v es
    rw [r.len] at this; omega
theorem st_setattr {o value : Expr} {attr : Str} {pos' pos : Pos} {Q : Flow → AM → AH → Prop} (O : c.Ok w n)
    (h : Ev w c env value am H fun v am H => Ev w c env o am H fun ov am H => ∃ a C d fs, ov = .ref a ∧ H a = some (.inst C d) ∧ H d = some (.attrs fs) ∧ SetOk w C attr ∧ fs.length ≤ 900 ∧ Q .next am (hset H d (.attrs (aput attr v fs))))
    (hs : swapsWith value (some (o.Attribute attr pos')) pos.line env = pure false := by rfl) : St w c env (.Assign [.Attribute o attr pos'] value pos) am H Q :=
  fun s m X P F M R k => plainObj_wpAny_Assign_Attribute (h s m X _ F M R fun v s1 m1 am1 H1 F1 M1 R1 h1 => h1 s1 m1 X _ F1 M1 R1 fun ov s2 m2 am2 H2 F2 M2 R2 ⟨a, C, d, fs, eo, e1, e2, S, hl, q⟩ =>
    set_ (Q := fun _ => Q .next) O eo e1 e2 S hl q s2 m2 X _ F2 M2 R2 fun _ s3 m3 am3 H3 F3 M3 R3 q => k _ _ m3 _ _ F3 M3 R3 q) hs
/-! methods -/
def GetM (w : World) (c : Cx) (H : AH) (ov : Value) (name : Str) (f : Value) : Prop :=
  ∀ ov' (s : Shared) m X pl (P : Value × List Value → Shared → Prop), sv ov' = ov → Fr c.h₀ c.L s.heap m → HR c.h₀ c.L s.heap H X → P (f, [ov']) s → wpAny (model lawProg w) c.A (getMethod ov' name pl) P noE s
theorem GetM.inst {a C d f : Addr} {fs : List (Str × Value)} {name : Str} (O : c.Ok w n) (e1 : H a = some (.inst C d)) (e2 : H d = some (.attrs fs)) (S : MethOk w C name f) (hl : fs.lookup name = none) : GetM w c H (.ref a) name (.ref f) := by
  intro ov' s m X pl P eo F R p
  obtain rfl := sv_ref eo
  obtain ⟨es, kk, r, I⟩ := R.inst e1 e2
  exact method_inst F O.X I S.g S.fn S.i (getL_none r hl) p
theorem GetM.list {a : Addr} {vs : List Value} {name : Str} {id : String} (e1 : H a = some (.list vs)) (S : Slot "list" name id) (ht : typeOf (Value.builtin id) = pure (Value.type "method_descriptor") := by rfl) : GetM w c H (.ref a) name (.builtin id) := by
  intro ov' s m X pl P eo F R p
  obtain rfl := sv_ref eo
  obtain ⟨news, N, h1, h2⟩ := R
  obtain ⟨ob, m1, r1⟩ := h1 _ _ e1
  generalize qq : AObj.list vs = z at r1
  cases r1 <;> cases qq
  exact kl_method (its := _) N m1 S ht p
theorem GetM.strip {x : Str} {t : Tok} : GetM w c H (.str x t) "strip" (.builtin "str.strip") := by
  intro ov' s m X pl P eo F R p
  obtain ⟨t, rfl⟩ := sv_str eo
  exact GM.strip p
inductive MCall (w : World) : Value → Prop
  | ref {a : Addr} (h : keepIn (hK w.params) (.ref a) = true) : MCall w (.ref a)
  | builtin (T : String) : MCall w (.builtin T)
theorem ev_meth {o e : Expr} {rest : List Expr} {name : Str} {apos pos : Pos} {pl : Sem Bool} {Q : Value → AM → AH → Prop} (O : c.Ok w n)
    (h : Ev w c env o am H fun ov am H => ∃ f, GetM w c H ov name f ∧ MCall w f ∧ Args w c env pos (e :: rest) am H fun vs am H => CallIs w c f (ov :: vs) am H Q)
    (he : eval (.Call (.Attribute o name apos) (e :: rest) [] pos) env = (do
      let ov ← eval o env
      standAt apos.atName
      let (f, first) ← holding [ov] (getMethod ov name pl)
      callWith pos f first (backTo pos (starEach (e :: rest) env)) []) := by rfl)
    (h1 : starEach (e :: rest) env = (false, eval e env) :: starEach rest env := by rfl)
    (h2 : ((backTo pos (starEach rest env)).any fun x => x.fst) = false := by rfl) : Ev w c env (.Call (.Attribute o name apos) (e :: rest) [] pos) am H Q :=
  fun s m X P F M R k => MethodCall_ (h s m X _ F M R fun ov s1 m1 am1 H1 F1 M1 R1 ⟨f, g, hk, ha⟩ => g ov s1 m1 X _ _ rfl F1 R1 (by
    cases hk with
    | ref hk => exact callWith_K O.X hk (ha s1 m1 X _ F1 M1 R1 fun vs s2 m2 am2 H2 F2 M2 R2 h2 => ⟨O.X.keeps F2.keep, h2 _ rfl s2 m2 X _ F2 M2 R2 k⟩) h1 h2
    | builtin T => exact callWith_method1 (ha s1 m1 X _ F1 M1 R1 fun vs s2 m2 am2 H2 F2 M2 R2 h2 => h2 _ rfl s2 m2 X _ F2 M2 R2 k) h1 h2)) he
theorem ev_meth0 {o : Expr} {name : Str} {apos pos : Pos} {pl : Sem Bool} {Q : Value → AM → AH → Prop} (O : c.Ok w n)
    (h : Ev w c env o am H fun ov am H => ∃ f, GetM w c H ov name f ∧ MCall w f ∧ CallIs w c f [ov] am H Q)
    (he : eval (.Call (.Attribute o name apos) [] [] pos) env = (do
      let ov ← eval o env
      standAt apos.atName
      let (f, first) ← holding [ov] (getMethod ov name pl)
      callWith pos f first (backTo pos (starEach [] env)) []) := by rfl) : Ev w c env (.Call (.Attribute o name apos) [] [] pos) am H Q :=
  fun s m X P F M R k => MethodCall_ (h s m X _ F M R fun ov s1 m1 am1 H1 F1 M1 R1 ⟨f, g, hk, ha⟩ => g ov s1 m1 X _ _ rfl F1 R1 (by
    cases hk with
    | ref hk => exact callWith_K0 (O.X.keeps F1.keep) hk (ha _ rfl s1 m1 X _ F1 M1 R1 k)
    | builtin T => exact callWith_method0 (ha _ rfl s1 m1 X _ F1 M1 R1 k))) he
/-! builtin calls -/
theorem HR.listU {h₀ h : Heap} {L : Addr} {X : List (Addr × Obj)} (R : HR h₀ L h H X) {a : Addr} {vs : List Value} (e : H a = some (.list vs)) :
    ∃ xs k rest, lsv xs = vs ∧ News h₀ L h ((a, W.listOf xs.toArray k) :: rest) ∧ (∀ p ∈ rest, p.1 ≠ a) ∧ ∀ h' ys k', News h₀ L h' ((a, W.listOf (List.toArray ys) k') :: rest) → HR h₀ L h' (hset H a (.list (lsv ys))) X := by
  obtain ⟨ob, rest, ho, N, hr, upd⟩ := R.upd e
  generalize qq : AObj.list vs = z at ho
  cases ho <;> cases qq
  exact ⟨_, _, rest, rfl, N, hr, fun h' ys k' N' => upd h' _ _ (.list ys k') N'⟩
theorem ci_append {l : Addr} {vs : List Value} {x : Value} {Q : Value → AM → AH → Prop} (e : H l = some (.list vs)) (hz : vs.length ≤ 1000) (q : Q .none am (hset H l (.list (vs ++ [x])))) : CallIs w c (.builtin "list.append") [.ref l, x] am H Q := by
  intro vs' ea s m X P F M R k
  obtain ⟨a, r1, rfl, ea1, ea⟩ := lsv_cons ea
  obtain ⟨x, r2, rfl, rfl, ea2⟩ := lsv_cons ea
  obtain rfl := lsv_nil ea2
  obtain rfl := sv_ref ea1
  obtain ⟨xs, kk, rest, rfl, N, hr, upd⟩ := R.listU e
  refine append_K F N (.head hr) (fun h' F' N' => k _ _ m _ _ F' M (upd h' (xs ++ [x]) (kk + 1) (by simpa using N')) (by show Q .none am _; simpa [lsv] using q)) ?_
  rw [lsv_length] at hz
  rw [List.size_toArray]; exact Nat.le_trans hz (by decide)
end
end Mine
end

section
open PySem PySem.W PySem.Spec PySem.Calls PyProof.Rows
set_option Elab.async false
set_option maxRecDepth 100000
set_option maxHeartbeats 8000000
namespace Mine
theorem lsv_one {l : List Value} {a : Value} (h : lsv l = [a]) : ∃ a', l = [a'] ∧ sv a' = a := by
  obtain ⟨a', r, rfl, e, e2⟩ := lsv_cons h; obtain rfl := lsv_nil e2; exact ⟨a', rfl, e⟩
theorem lsv_two {l : List Value} {a b : Value} (h : lsv l = [a, b]) : ∃ a' b', l = [a', b'] ∧ sv a' = a ∧ sv b' = b := by
  obtain ⟨a', r, rfl, e, e2⟩ := lsv_cons h; obtain ⟨b', rfl, e3⟩ := lsv_one e2; exact ⟨a', b', rfl, e, e3⟩
theorem lsv_append (a b : List Value) : lsv (a ++ b) = lsv a ++ lsv b := by simp [lsv]
theorem kl_last_of (p : List Value) (y : Value) : kl_last (p ++ [y]) = some (p, y) := by
  induction p with
  | nil => rfl
  | cons x p ih => rw [List.cons_append, kl_last, ih]
theorem sz_of {n : Nat} (h : n ≤ 1000) : n ≤ sizeLine := Nat.le_trans h (by decide)

section
variable {w : World} {n : Nat} {c : Cx} {env : Env} {am : AM} {H : AH}
theorem ci_pop {l : Addr} {vs : List Value} {x : Value} {Q : Value → AM → AH → Prop} (e : H l = some (.list (vs ++ [x]))) (hz : vs.length ≤ 900) (q : Q x am (hset H l (.list vs))) : CallIs w c (.builtin "list.pop") [.ref l] am H Q := by
  intro vs' ea s m X P F M R k
  obtain ⟨a, rfl, ea1⟩ := lsv_one ea
  obtain rfl := sv_ref ea1
  obtain ⟨xs, kk, rest, ex, N, hr, upd⟩ := R.listU e
  have : ∃ p y, xs = p ++ [y] ∧ lsv p = vs ∧ sv y = x := by
    rcases List.eq_nil_or_concat xs with rfl | ⟨p, y, rfl⟩
    · simp [lsv] at ex
    · simp [lsv] at ex ⊢; exact ⟨p, y, ⟨rfl, rfl⟩, ex.1, ex.2⟩
  obtain ⟨p, y, rfl, rfl, rfl⟩ := this
  rw [lsv_length] at hz
  refine kl_pop F N (kl_last_of p y) (.head hr) (sz_of (by simp; omega)) (fun h' F' N' => k _ _ m _ _ F' M (upd h' p (kk + 1) N') q)
theorem ci_extend {l b : Addr} {vs us : List Value} {Q : Value → AM → AH → Prop} (e : H l = some (.list vs)) (e2 : H b = some (.list us)) (hne : b ≠ l) (hz : vs.length ≤ 1000) (hz2 : us.length ≤ 1000) (q : Q .none am (hset H l (.list (vs ++ us)))) : CallIs w c (.builtin "list.extend") [.ref l, .ref b] am H Q := by
  intro vs' ea s m X P F M R k
  obtain ⟨a1, a2, rfl, ea1, ea2⟩ := lsv_two ea
  obtain rfl := sv_ref ea1
  obtain rfl := sv_ref ea2
  obtain ⟨ys, ky, gy, ey, iy⟩ := R.list e2
  obtain ⟨news', N', h1, h2⟩ := id R
  obtain ⟨ob, rest, ho, N, hr, upd⟩ := R.upd e
  obtain ⟨oy, my, ry⟩ := h1 _ _ e2
  have hm : (b, oy) ∈ (l, ob) :: (b, oy) :: rest := .tail _ (.head _)
  have N2 : News c.h₀ c.L s.heap ((l, ob) :: (b, oy) :: rest) := by
    intro p hp
    rcases List.mem_cons.mp hp with rfl | hp
    · exact N _ (.head _)
    rcases List.mem_cons.mp hp with rfl | hp
    · exact N' _ my
    · exact N _ (.tail _ hp)
  have hr2 : ∀ p ∈ (b, oy) :: rest, p.1 ≠ l := by
    intro p hp
    rcases List.mem_cons.mp hp with rfl | hp
    · exact hne
    · exact hr _ hp
  have drop : ∀ {h' o}, News c.h₀ c.L h' ((l, o) :: (b, oy) :: rest) → News c.h₀ c.L h' ((l, o) :: rest) := fun N p hp => by
    rcases List.mem_cons.mp hp with rfl | hp
    · exact N _ (.head _)
    · exact N _ (.tail _ (.tail _ hp))
  generalize qq : AObj.list us = z at ry
  cases ry <;> cases qq
  rename_i ys2 ky2
  generalize qq : AObj.list vs = z at ho
  cases ho <;> cases qq
  rename_i xs kx
  rw [lsv_length] at hz hz2
  have hf : ¬(!xs.toArray.isEmpty && Builtin.List.listTooLong (xs.toArray.size + ys2.toArray.size)) = true := by
    have : Builtin.List.listTooLong (xs.toArray.size + ys2.toArray.size) = false := by
      simp [Builtin.List.listTooLong, sizeLine]; omega
    rw [this]; simp
  cases ys2 with
  | nil =>
    refine kxn_extend (its := xs.toArray) (its2 := #[]) F N2 hm rfl (.head hr2) hf (sz_of (by simpa using hz)) ?_ fun h' F' N3 => k _ _ m _ _ F' M (upd h' _ _ (.list xs kx) (drop N3)) ?_
    · have := sz_of hz; simp; omega
    · show Q .none am _; simpa [lsv] using q
  | cons y ys2 =>
    refine kl_extend (its := xs.toArray) (its2 := (y :: ys2).toArray) F N2 hm rfl (by simp) (.head hr2) hf (sz_of (by simpa using hz)) ?_ fun h' F' N3 => k _ _ m _ _ F' M (upd h' _ _ (.list (xs ++ (y :: ys2)) (kx + 1)) (by simpa using drop N3)) ?_
    · have h3 : sizeLine = 16777216 := rfl
      simp at hz hz2 ⊢; omega
    · show Q .none am _; simpa [lsv] using q
def delInt (k : Int) : List Int → List Int
  | [] => []
  | x :: r => if x = k then r else x :: delInt k r
abbrev ivs (l : List Int) : List Value := l.map fun i => .int i 0
theorem ivs_sv {xs : List Value} {l : List Int} (h : lsv xs = ivs l) : kf_ints xs = true ∧ ∀ k, k ∈ l → ∃ j q, kf_at k xs = some j ∧ ki_delL xs j = some q ∧ lsv q = ivs (delInt k l) := by
  induction xs generalizing l with
  | nil => cases l with
    | nil => exact ⟨rfl, fun _ h => nomatch h⟩
    | cons a l => simp [lsv] at h
  | cons x xs ih => cases l with
    | nil => simp [lsv] at h
    | cons a l =>
      simp only [lsv, List.map_cons, List.cons.injEq] at h
      obtain ⟨t, rfl⟩ := sv_int h.1
      obtain ⟨h1, h2⟩ := ih h.2
      refine ⟨h1, fun k hk => ?_⟩
      by_cases q : a = k
      · subst q
        refine ⟨0, xs, ?_, rfl, ?_⟩
        · simp [kf_at, isInt]
        · simp [delInt]; exact h.2
      · have hk' : k ∈ l := (List.mem_cons.mp hk).resolve_left fun e => q e.symm
        obtain ⟨j, qq, e1, e2, e3⟩ := h2 k hk'
        refine ⟨j + 1, .int a t :: qq, ?_, ?_, ?_⟩
        · have : isInt k (.int a t) = false := by simpa [isInt] using q
          simp [kf_at, this, e1]
        · simp [ki_delL, e2]
        · simp [delInt, q, lsv, sv]; exact e3
theorem ci_remove {l : Addr} {vs : List Int} {i : Int} {Q : Value → AM → AH → Prop} (e : H l = some (.list (ivs vs))) (hz : vs.length ≤ 1000) (hi : i ∈ vs) (q : Q .none am (hset H l (.list (ivs (delInt i vs))))) : CallIs w c (.builtin "list.remove") [.ref l, .int i 0] am H Q := by
  intro vs' ea s m X P F M R k
  obtain ⟨a, b, rfl, ea1, ea2⟩ := lsv_two ea
  obtain rfl := sv_ref ea1
  obtain ⟨t, rfl⟩ := sv_int ea2
  obtain ⟨xs, kk, rest, ex, N, hr, upd⟩ := R.listU e
  obtain ⟨g1, g2⟩ := ivs_sv ex
  obtain ⟨j, qq, e1, e2, e3⟩ := g2 i hi
  have hlen : xs.length = vs.length := by have := congrArg List.length ex; simpa [lsv] using this
  refine kf_remove (its := xs.toArray) F N g1 e1 e2 (.head hr) (sz_of (by simpa [hlen] using hz)) (fun h' F' N' => k _ _ m _ _ F' M (upd h' qq (kk + 1) N') ?_)
  rw [e3]; exact q
theorem ci_int {i : Int} {Q : Value → AM → AH → Prop} (q : Q (.int i 0) am H) : CallIs w c (.type "int") [.int i 0] am H Q := by
  intro vs' ea s m X P F M R k
  obtain ⟨a, rfl, ea1⟩ := lsv_one ea
  obtain ⟨t, rfl⟩ := sv_int ea1
  exact call_int_int (k _ _ m _ _ F M R q)
theorem ci_intb {b : Bool} {Q : Value → AM → AH → Prop} (q : Q (.int (if b = true then 1 else 0) 0) am H) : CallIs w c (.type "int") [.bool b] am H Q := by
  intro vs' ea s m X P F M R k
  obtain ⟨a, rfl, ea1⟩ := lsv_one ea
  obtain rfl := sv_bool ea1
  exact call_int_bool (k _ _ m _ _ F M R q)
theorem ci_len {l : Addr} {vs : List Value} {Q : Value → AM → AH → Prop} (e : H l = some (.list vs)) (hz : vs.length < 2 ^ 60) (q : Q (.int vs.length 0) am H) : CallIs w c (.builtin "len") [.ref l] am H Q := by
  intro vs' ea s m X P F M R k
  obtain ⟨a, rfl, ea1⟩ := lsv_one ea
  obtain rfl := sv_ref ea1
  obtain ⟨xs, kk, g, rfl, il⟩ := R.list e
  rw [lsv_length] at q hz
  refine len_list il ?_ (k _ _ m _ _ F M R ?_)
  · rw [List.size_toArray]; omega
  · rw [List.size_toArray]; exact q
theorem ci_max {a b : Int} {Q : Value → AM → AH → Prop} (q : Q (.int (if b > a then b else a) 0) am H) : CallIs w c (.builtin "max") [.int a 0, .int b 0] am H Q := by
  intro vs' ea s m X P F M R k
  obtain ⟨x, y, rfl, ea1, ea2⟩ := lsv_two ea
  obtain ⟨t, rfl⟩ := sv_int ea1
  obtain ⟨u, rfl⟩ := sv_int ea2
  obtain ⟨news, N, h1, h2⟩ := R
  exact max_two_N rfl F N fun h' tk F' N' => k _ _ m _ _ F' M ⟨news, N', h1, h2⟩ q
theorem ci_strip {x z : Str} {Q : Value → AM → AH → Prop} (hz : x.length ≤ sizeLine) (q : Q (.str (Txt.stripChars x z) 0) am H) : CallIs w c (.builtin "str.strip") [.str x 0, .str z 0] am H Q := by
  intro vs' ea s m X P F M R k
  obtain ⟨x, y, rfl, ea1, ea2⟩ := lsv_two ea
  obtain ⟨t, rfl⟩ := sv_str ea1
  obtain ⟨u, rfl⟩ := sv_str ea2
  exact KXw.stripChars rfl hz fun t' kk => k _ _ m _ _ F M R q
/-- a new object, of which the address is not known -/
def New (H : AH) (o : AObj) (am : AM) (Q : Value → AM → AH → Prop) : Prop := ∀ a, H a = none → (∀ b, H b ≠ none → b < a) → Q (.ref a) am (hset H a o)
theorem ci_list {b : Addr} {us : List Value} {Q : Value → AM → AH → Prop} (e : H b = some (.list us)) (hz : us.length ≤ 1000) (q : New H (.list us) am Q) : CallIs w c (.type "list") [.ref b] am H Q := by
  intro vs' ea s m X P F M R k
  obtain ⟨a, rfl, ea1⟩ := lsv_one ea
  obtain rfl := sv_ref ea1
  obtain ⟨news, N, hn⟩ := R.new
  obtain ⟨news', N', h1, h2⟩ := id R
  obtain ⟨ob, m1, r1⟩ := h1 _ _ e
  generalize qq : AObj.list us = z at r1
  cases r1 <;> cases qq
  rename_i xs kx
  rw [lsv_length] at hz
  have N2 : News c.h₀ c.L s.heap ((b, listO xs kx) :: news) := by
    intro p hp
    rcases List.mem_cons.mp hp with rfl | hp
    · exact N' _ m1
    · exact N _ hp
  refine kup_listOf (its2 := xs.toArray) F N2 (.head _) rfl (fun D cc h' F' N3 lt => ?_) (sz_of (by simpa using hz))
  obtain ⟨q1, q2, q3, _⟩ := hn h' D (W.listOf xs.toArray cc) _ (fun p hp => N3 p (by rcases List.mem_cons.mp hp with rfl | hp; exact .head _; exact .tail _ (.tail _ hp))) (fun p hp => lt p (.tail _ hp)) (.list xs cc)
  exact k _ _ m _ _ F' M q3 (q D q1 q2)
theorem add_lists {a b : Addr} {us vs : List Value} {Q : Value → AM → AH → Prop} {a' b' : Value} (ea : sv a' = .ref a) (eb : sv b' = .ref b) (e1 : H a = some (.list us)) (e2 : H b = some (.list vs)) (hz : us.length ≤ 1000) (hz2 : vs.length ≤ 1000) (q : New H (.list (us ++ vs)) am Q) :
    Tr w c sv (binaryOp .Add a' b') am H Q := by
  obtain rfl := sv_ref ea; obtain rfl := sv_ref eb
  intro s m X P F M R k
  obtain ⟨news, N, hn⟩ := R.new
  obtain ⟨xs, kx, g1, rfl, i1⟩ := R.list e1
  obtain ⟨ys, ky, g2, rfl, i2⟩ := R.list e2
  rw [lsv_length] at hz hz2
  refine kmk_add_lit F N i1 i2 rfl (fun D h' F' N3 lt => ?_) ?_
  · obtain ⟨q1, q2, q3, _⟩ := hn h' D _ _ N3 lt (.list (xs ++ ys) 0)
    exact k _ _ m _ _ F' M q3 (by rw [lsv_append]; exact q D q1 q2)
  · have h3 : sizeLine = 16777216 := rfl
    simp; omega
/-! displays -/
theorem ev_list {elts : List Expr} {pos : Pos} {Q : Value → AM → AH → Prop} (h : Args w c env pos elts am H fun vs am H => vs.length ≤ 1000 ∧ New H (.list vs) am Q) : Ev w c env (.List elts pos) am H Q :=
  fun s m X P F M R k => List_ (h s m X _ F M R fun vs s1 m1 am1 H1 F1 M1 R1 ⟨hz, q⟩ => by
    obtain ⟨news, N, hn⟩ := R1.new
    rw [lsv_length] at hz
    refine newList_K F1 N (fun D h' F' N' lt => ?_) (sz_of hz)
    obtain ⟨q1, q2, q3, _⟩ := hn _ D _ _ N' lt (.list vs 0)
    exact k _ _ m1 _ _ F' M1 q3 (q D q1 q2))
theorem ev_tuple {elts : List Expr} {kk : Nat} {pos : Pos} {Q : Value → AM → AH → Prop} (h : Args w c env pos elts am H fun vs am H => vs.length ≤ 1000 ∧ New H (.tuple vs) am Q) : Ev w c env (.Tuple elts kk pos) am H Q :=
  fun s m X P F M R k => Tuple_ (h s m X _ F M R fun vs s1 m1 am1 H1 F1 M1 R1 ⟨hz, q⟩ => by
    obtain ⟨news, N, hn⟩ := R1.new
    rw [lsv_length] at hz
    refine kup_newTuple F1 N (fun D h' F' N' lt => ?_) (sz_of hz)
    obtain ⟨q1, q2, q3, _⟩ := hn _ D _ _ N' lt (.tuple vs 0)
    exact k _ _ m1 _ _ F' M1 q3 (q D q1 q2))
/-! subscripts -/
def SubIs (H : AH) (o i v : Value) : Prop :=
  ∃ a k j vs, o = .ref a ∧ i = .int k 0 ∧ (H a = some (.list vs) ∨ H a = some (.tuple vs)) ∧ seqIndex? k vs.length = some j ∧ vs[j]? = some v ∧ -(2 ^ 63) ≤ k ∧ k < 2 ^ 63
theorem seqIndex_nonneg {k : Int} {l j : Nat} (h0 : 0 ≤ k) (h : seqIndex? k l = some j) : j = k.toNat := by
  unfold seqIndex? at h
  simp only [if_neg (Int.not_lt.mpr h0)] at h
  split at h
  · cases h; rfl
  · cases h
theorem ev_sub {value slice : Expr} {pos : Pos} {Q : Value → AM → AH → Prop} (h : Ev w c env value am H fun o am H => Ev w c env slice am H fun i am H => ∃ v, SubIs H o i v ∧ Q v am H)
    (hs : ∀ a k u, subscripted slice false (.ref a) (.int k u) = operate [.ref a, .int k u] (getItem (.ref a) (.int k u)) := by intro _ _ _; with_unfolding_all rfl) : Ev w c env (.Subscript value slice pos) am H Q :=
  fun s m X P F M R k => Subscript_ (h s m X _ F M R fun o s1 m1 am1 H1 F1 M1 R1 h1 => h1 s1 m1 X _ F1 M1 R1 fun i s2 m2 am2 H2 F2 M2 R2 ⟨v, ⟨a, kk, j, vs, eo, ei, e, hj, hx, hlo, hhi⟩, q⟩ => by
    obtain rfl := sv_ref eo
    obtain ⟨u, rfl⟩ := sv_int ei
    rcases e with e | e
    · obtain ⟨xs, kx, g, rfl, il⟩ := R2.list e
      rw [lsv_length] at hj
      obtain ⟨v', hv', rfl⟩ := lsv_get hx
      by_cases h0 : kk < 0
      · exact kde_neg il h0 hlo hj hv' (k _ _ m2 _ _ F2 M2 R2 q) (hs _ _ _)
      · refine tail_any il.typeIs slot_list_getitem.lookup (getItem_listL il (Int.not_lt.mp h0) hhi ?_ (k _ _ m2 _ _ F2 M2 R2 q)) (hs _ _ _)
        rw [← seqIndex_nonneg (Int.not_lt.mp h0) hj]; exact hv'
    · obtain ⟨xs, kx, g, rfl, il⟩ := R2.tup e
      rw [lsv_length] at hj
      obtain ⟨v', hv', rfl⟩ := lsv_get hx
      have it : IsTup s2.heap a xs.toArray := il
      exact tail_any it.typeIs slot_tuple_getitem.lookup (PyProof.Rows.getItem_tuple it hlo hhi (by simpa using hj) (by simpa using hv') (k _ _ m2 _ _ F2 M2 R2 q)) (hs _ _ _))
theorem st_setitem {o i value : Expr} {pos' pos : Pos} {Q : Flow → AM → AH → Prop}
    (h : Ev w c env value am H fun v am H => Ev w c env o am H fun ov am H => Ev w c env i am H fun iv am H => ∃ (a : Addr) (kk : Nat) (vs : List Value), ov = .ref a ∧ iv = .int kk 0 ∧ H a = some (.list vs) ∧ kk < vs.length ∧ vs.length ≤ 1000 ∧ Q .next am (hset H a (.list (vs.set kk v))))
    (hs : swapsWith value (some (o.Subscript i pos')) pos.line env = pure false := by rfl) : St w c env (.Assign [.Subscript o i pos'] value pos) am H Q :=
  fun s m X P F M R k => wpAny_Assign_Subscript (h s m X _ F M R fun v s1 m1 am1 H1 F1 M1 R1 h1 => h1 s1 m1 X _ F1 M1 R1 fun ov s2 m2 am2 H2 F2 M2 R2 h2 => h2 s2 m2 X _ F2 M2 R2 fun iv s3 m3 am3 H3 F3 M3 R3 ⟨a, kk, vs, eo, ei, e, hlt, hz, q⟩ => by
    obtain rfl := sv_ref eo
    obtain ⟨u, rfl⟩ := sv_int ei
    obtain ⟨xs, kx, rest, rfl, N, hr, upd⟩ := R3.listU e
    rw [lsv_length] at hlt hz
    have z := N _ (.head _)
    refine ki_setAt z.1 (Int.natCast_nonneg _) (by omega) (by simpa using hlt) (k _ _ m3 _ _ (F3.change (Heap.SameBut.update ..) z.2.1 z.2.2) M3
      (upd _ (xs.set kk v) kx (ki_turn (pre := []) _ N (fun _ h => nomatch h) hr ?_ ?_)) ?_)
    · apply Array.toList_inj.mp
      simp
    · simp
    · show Q .next am3 _; simpa [lsv, List.map_set] using q) hs
end
end Mine
end

section
open PySem PySem.W PySem.Spec PySem.Calls PyProof.Rows
set_option Elab.async false
set_option maxRecDepth 100000
set_option maxHeartbeats 8000000
namespace Mine
def Sub (H H' : AH) : Prop := ∀ a o, H a = some o → H' a = some o
theorem Sub.refl {H : AH} : Sub H H := fun _ _ e => e
theorem Sub.trans {H H' H'' : AH} (h : Sub H H') (g : Sub H' H'') : Sub H H'' := fun a o e => g a o (h a o e)
theorem Sub.new {H : AH} {a : Addr} {o : AObj} (h : H a = none) : Sub H (hset H a o) := fun b o' e => by
  rw [hset_ne]; exact e
  intro q; subst q; rw [h] at e; cases e
theorem Sub.set {H H' : AH} {a : Addr} {o : AObj} (h : Sub H H') : Sub (hset H a o) (hset H' a o) := fun b o' e => by
  by_cases q : b = a
  · subst q; rw [hset_self] at e ⊢; exact e
  · rw [hset_ne q] at e ⊢; exact h b o' e
def retOf : Flow → Value
  | .ret v => v
  | _ => .none
theorem fsv_ret (fl : Flow) : sv (match fl with | .ret v => v | _ => Value.none) = retOf (fsv fl) := by cases fl <;> rfl
abbrev fnCx (c : Cx) (qual : Str) (scope : Scope) (f : Addr) (cdv : Value) (cl : List (Str × Addr)) : Cx := { c with cn := qual, cs := scope, a := f, ccd := cdv, cl := cl }
/-- what a body shows -/
def Body (w : World) (need : Nat) (qual : Str) (scope : Scope) (f : Addr) (cdv : Value) (body : List Stmt) (am : AM) (H : AH) (post : Value → AH → Prop) : Prop :=
  ∀ c : Cx, (fnCx c qual scope f cdv []).Ok w need → Ex w (fnCx c qual scope f cdv []) (fnCx c qual scope f cdv []).env body am H fun fl _ H' => ∃ H'', Sub H'' H' ∧ post (retOf fl) H''
theorem lookup_map {l : List (Str × Value)} {x : Str} {v : Value} (h : (l.map fun y => (y.1, sv y.2)).lookup x = some v) : ∃ v', l.lookup x = some v' ∧ sv v' = v := by
  induction l with
  | nil => cases h
  | cons y l ih =>
    rw [List.map_cons, List.lookup_cons] at h
    rw [List.lookup_cons]
    split at h
    · exact ⟨_, rfl, by simpa using h⟩
    · exact ih h
theorem HR.lt {h₀ h : Heap} {L : Addr} {H : AH} {X : List (Addr × Obj)} (R : HR h₀ L h H X) : ∀ b, H b ≠ none → b < h.objs.size := fun b hb => by
  cases e : H b with
  | none => exact absurd e hb
  | some o => obtain ⟨ob, g, _⟩ := R.get e; exact Heap.lt_size g
theorem Spec.of {w : World} {need : Nat} {H : AH} {args : List Value} {post : Value → AH → Prop} {name qual : Str} {params : Arguments} {body : List Stmt} {scope : Scope} {dV kV doc pm cdv ct oc : Value} {an od : Option Addr} {osl : Array (Option Value)} {f : Addr}
    (ho : (hK w.params).lookup f = some ⟨oc, od, .func (fnOf name qual params body scope dV kV doc pm an cdv ct), osl⟩) (hcd : codeIn (hK w.params) cdv qual = true)
    (hb : ∀ (args' : List Value) s, args'.length = args.length → BindsTo s (fnOf name qual params body scope dV kV doc pm an cdv ct) ⟨args', []⟩ ((params.args.map (·.arg)).zip args')) (hnm : ∀ x ∈ params.args.map (·.arg), scope.names.lookup x = some .local)
    (hco : scope.isCoroutine = false) (hgen : scope.isGenerator = false) (hk : scope.kind = .function) (hcell : ∀ x ∈ scope.names, x.2 ≠ .cell)
    (h : Body w need qual scope f cdv body (((params.args.map (·.arg)).zip args).reverse) H post) : Spec w (.ref f) (need + 1) H args post := by
  intro c O args' s m X R ea F HR' K r
  have B := hb args' s (by rw [← ea, lsv_length])
  have hl : ∀ y ∈ (params.args.map (·.arg)).zip args', scope.names.lookup y.1 = some .local := fun y hy => hnm _ (List.of_mem_zip hy).1
  have hz : ((params.args.map (·.arg)).zip args).reverse = ((params.args.map (·.arg)).zip args').reverse.map (fun y => (y.1, sv y.2)) := by
    rw [← ea, List.map_reverse]; congr 1; simp [lsv, List.zip_map_right]
  rw [hz] at h
  obtain ⟨news, N, h1, h2⟩ := id HR'
  have hd := O.d
  have hu := O.u
  refine callX_plain (cl := []) O.B F N O.T.nolimit rfl rfl O.k ((O.X.keeps F.keep) _ _ ho) rfl (codeRec_of (O.X.keeps F.keep) hcd) (Nat.lt_of_le_of_lt (Nat.le_add_right _ _) hd) B hl (fun g L' h₁ FG F' N' B' st _ => ?_) hcell hco hgen hk
  let c' : Cx := fnCx { c with dp := c.dp + 1, un := c.un + 3, outer := c.env :: c.outer, A₀ := c.A, h₀ := g, L := L' } qual scope f cdv []
  have O' : c'.Ok w need := ⟨by show c.dp + 1 + need < _; omega, by show c.un + 3 + 100 + 8 * need < _; omega, B', O.X.keeps st, O.T.keeps st, hk, O.C.keeps st, sc_keeps O.S st⟩
  exact wpAny_mono (h c' O' _ _ X (fun fl s' => LeaveK c.h₀ c.L m g R (match fl with | .ret v => v | _ => .none) s') F' ⟨fun x v e => lookup_map e, K⟩ ⟨news, N', h1, h2⟩
    fun fl s' m' am' H' F2 M2 ⟨news2, N2, h3, h4⟩ ⟨H'', sub, q⟩ => leaveK_ F2 N2 fun F3 N3 => r _ s' H'' F3 (HR.drop sub ⟨news2, N3, h3, h4⟩) M2.2 (by rw [fsv_ret]; exact q)) (fun _ _ x => x) fun _ _ y => y.elim

end Mine
end

section
open PySem PySem.W PySem.Spec PySem.Calls PyProof.Rows
set_option Elab.async false
set_option maxRecDepth 100000
set_option maxHeartbeats 8000000
namespace Mine
theorem fillNow : (PySem.Challenge.rw_on0188_01 = PySem.Challenge.rw_on0188_01) ∧ hK = hK := by
  k_fill
  exact ⟨rfl, rfl⟩
theorem len0 {l : List Value} (h : l.length = 0) : l = [] := List.eq_nil_of_length_eq_zero h
theorem lenS {l : List Value} {n : Nat} (h : l.length = n + 1) : ∃ a r, l = a :: r ∧ r.length = n := by
  cases l with
  | nil => cases h
  | cons a r => exact ⟨a, r, rfl, Nat.succ.inj h⟩
theorem all0 {P : List Value → Shared → Prop} (h : ∀ (s : Shared), P [] s) : ∀ (args' : List Value) (s : Shared), args'.length = ([] : List Value).length → P args' s := by
  intro l s h'
  obtain rfl := len0 h'
  exact h _
theorem all1 {P : List Value → Shared → Prop} {x0 : Value} (h : ∀ (y0 : Value) (s : Shared), P [y0] s) : ∀ (args' : List Value) (s : Shared), args'.length = [x0].length → P args' s := by
  intro l s h'
  obtain ⟨_, _, rfl, h0⟩ := lenS h'
  obtain rfl := len0 h0
  exact h _ _
theorem all2 {P : List Value → Shared → Prop} {x0 x1 : Value} (h : ∀ (y0 y1 : Value) (s : Shared), P [y0, y1] s) : ∀ (args' : List Value) (s : Shared), args'.length = [x0, x1].length → P args' s := by
  intro l s h'
  obtain ⟨_, _, rfl, h0⟩ := lenS h'
  obtain ⟨_, _, rfl, h1⟩ := lenS h0
  obtain rfl := len0 h1
  exact h _ _ _
theorem all3 {P : List Value → Shared → Prop} {x0 x1 x2 : Value} (h : ∀ (y0 y1 y2 : Value) (s : Shared), P [y0, y1, y2] s) : ∀ (args' : List Value) (s : Shared), args'.length = [x0, x1, x2].length → P args' s := by
  intro l s h'
  obtain ⟨_, _, rfl, h0⟩ := lenS h'
  obtain ⟨_, _, rfl, h1⟩ := lenS h0
  obtain ⟨_, _, rfl, h2⟩ := lenS h1
  obtain rfl := len0 h2
  exact h _ _ _ _
theorem all4 {P : List Value → Shared → Prop} {x0 x1 x2 x3 : Value} (h : ∀ (y0 y1 y2 y3 : Value) (s : Shared), P [y0, y1, y2, y3] s) : ∀ (args' : List Value) (s : Shared), args'.length = [x0, x1, x2, x3].length → P args' s := by
  intro l s h'
  obtain ⟨_, _, rfl, h0⟩ := lenS h'
  obtain ⟨_, _, rfl, h1⟩ := lenS h0
  obtain ⟨_, _, rfl, h2⟩ := lenS h1
  obtain ⟨_, _, rfl, h3⟩ := lenS h2
  obtain rfl := len0 h3
  exact h _ _ _ _ _
theorem all5 {P : List Value → Shared → Prop} {x0 x1 x2 x3 x4 : Value} (h : ∀ (y0 y1 y2 y3 y4 : Value) (s : Shared), P [y0, y1, y2, y3, y4] s) : ∀ (args' : List Value) (s : Shared), args'.length = [x0, x1, x2, x3, x4].length → P args' s := by
  intro l s h'
  obtain ⟨_, _, rfl, h0⟩ := lenS h'
  obtain ⟨_, _, rfl, h1⟩ := lenS h0
  obtain ⟨_, _, rfl, h2⟩ := lenS h1
  obtain ⟨_, _, rfl, h3⟩ := lenS h2
  obtain ⟨_, _, rfl, h4⟩ := lenS h3
  obtain rfl := len0 h4
  exact h _ _ _ _ _ _
theorem all6 {P : List Value → Shared → Prop} {x0 x1 x2 x3 x4 x5 : Value} (h : ∀ (y0 y1 y2 y3 y4 y5 : Value) (s : Shared), P [y0, y1, y2, y3, y4, y5] s) : ∀ (args' : List Value) (s : Shared), args'.length = [x0, x1, x2, x3, x4, x5].length → P args' s := by
  intro l s h'
  obtain ⟨_, _, rfl, h0⟩ := lenS h'
  obtain ⟨_, _, rfl, h1⟩ := lenS h0
  obtain ⟨_, _, rfl, h2⟩ := lenS h1
  obtain ⟨_, _, rfl, h3⟩ := lenS h2
  obtain ⟨_, _, rfl, h4⟩ := lenS h3
  obtain ⟨_, _, rfl, h5⟩ := lenS h4
  obtain rfl := len0 h5
  exact h _ _ _ _ _ _ _
theorem all7 {P : List Value → Shared → Prop} {x0 x1 x2 x3 x4 x5 x6 : Value} (h : ∀ (y0 y1 y2 y3 y4 y5 y6 : Value) (s : Shared), P [y0, y1, y2, y3, y4, y5, y6] s) : ∀ (args' : List Value) (s : Shared), args'.length = [x0, x1, x2, x3, x4, x5, x6].length → P args' s := by
  intro l s h'
  obtain ⟨_, _, rfl, h0⟩ := lenS h'
  obtain ⟨_, _, rfl, h1⟩ := lenS h0
  obtain ⟨_, _, rfl, h2⟩ := lenS h1
  obtain ⟨_, _, rfl, h3⟩ := lenS h2
  obtain ⟨_, _, rfl, h4⟩ := lenS h3
  obtain ⟨_, _, rfl, h5⟩ := lenS h4
  obtain ⟨_, _, rfl, h6⟩ := lenS h5
  obtain rfl := len0 h6
  exact h _ _ _ _ _ _ _ _
theorem ite_t {p q : Prop} (h : p) : if true = true then p else q := by simpa using h
theorem ite_f {p q : Prop} (h : q) : if false = true then p else q := by simpa using h
theorem ite_b {b : Bool} {p q : Prop} (h1 : b = true → p) (h2 : b = false → q) : if b = true then p else q := by
  cases b with
  | true => exact ite_t (h1 rfl)
  | false => exact ite_f (h2 rfl)
theorem ite_isT {b : Bool} {p q : Prop} (e : b = true) (h1 : p) : if b = true then p else q := by rw [e]; exact ite_t h1
theorem ite_isF {b : Bool} {p q : Prop} (e : b = false) (h1 : q) : if b = true then p else q := by rw [e]; exact ite_f h1
section
variable {w : World} {n : Nat} {c : Cx} {env : Env} {am : AM} {H : AH}
theorem ev_globF {x : Str} {pos : Pos} {a : Addr} {Q : Value → AM → AH → Prop} (O : c.Ok w n) (e : nsIn (hK w.params) mainGlobals x = some (some (.ref a))) (h : Q (.ref a) am H)
    (hl : c.env.kindOf x = some .globalImplicit := by rfl) (hd : (x == ("__debug__" : Str)) = false := by decide) : Ev w c c.env (.Name x pos) am H Q := ev_glob O e h hl hd
theorem ev_builtF {x : Str} {pos : Pos} {id : String} {Q : Value → AM → AH → Prop} (O : c.Ok w n) (e : nsIn (hK w.params) mainGlobals x = some none) (hv : bootBuiltins x = some (.builtin id)) (h : Q (.builtin id) am H) (hn : x ≠ "__name__" := by decide)
    (hl : c.env.kindOf x = some .globalImplicit := by rfl) (hd : (x == ("__debug__" : Str)) = false := by decide) : Ev w c c.env (.Name x pos) am H Q := ev_built O e hv hn h hl hd
theorem ev_builtT {x : Str} {pos : Pos} {id : String} {Q : Value → AM → AH → Prop} (O : c.Ok w n) (e : nsIn (hK w.params) mainGlobals x = some none) (hv : bootBuiltins x = some (.type id)) (h : Q (.type id) am H) (hn : x ≠ "__name__" := by decide)
    (hl : c.env.kindOf x = some .globalImplicit := by rfl) (hd : (x == ("__debug__" : Str)) = false := by decide) : Ev w c c.env (.Name x pos) am H Q := ev_built O e hv hn h hl hd
theorem next_next {rest : List Stmt} {Q : Flow → AM → AH → Prop} (h : Ex w c env rest am H Q) : next w c env rest Q .next am H := h
theorem next_ret {rest : List Stmt} {v : Value} {Q : Flow → AM → AH → Prop} (h : Q (.ret v) am H) : next w c env rest Q (.ret v) am H := h
theorem ev_boolop_and {e₁ e₂ : Expr} {rest : List Expr} {pos : Pos} {Q : Value → AM → AH → Prop}
    (h : Ev w c env e₁ am H fun v am H => ∃ b, truV v = some b ∧ if b = true then Ev w c env (.BoolOp .And (e₂ :: rest) pos) am H Q else Q v am H) : Ev w c env (.BoolOp .And (e₁ :: e₂ :: rest) pos) am H Q :=
  fun s m X P F M R k => BoolOp_and (h s m X _ F M R fun v s1 m1 am1 H1 F1 M1 R1 ⟨b, hb, q⟩ => truthy_ (Q := fun b' am' H' => b' = b ∧ am' = am1 ∧ H' = H1) hb ⟨rfl, rfl, rfl⟩ s1 m1 X _ F1 M1 R1 fun b' s2 m2 am2 H2 F2 M2 R2 ⟨e1, e2, e3⟩ => by
    have e1' : b' = b := e1
    subst e1' e2 e3
    cases b' with
    | true => exact (if_pos rfl) ▸ (show Ev w c env (.BoolOp .And (e₂ :: rest) pos) am2 H2 Q by simpa using q) s2 m2 X P F2 M2 R2 k
    | false => simp only [Bool.false_eq_true, if_false] at q ⊢; exact k _ _ m2 _ _ F2 M2 R2 q)
theorem ev_boolop_or {e₁ e₂ : Expr} {rest : List Expr} {pos : Pos} {Q : Value → AM → AH → Prop}
    (h : Ev w c env e₁ am H fun v am H => ∃ b, truV v = some b ∧ if b = true then Q v am H else Ev w c env (.BoolOp .Or (e₂ :: rest) pos) am H Q) : Ev w c env (.BoolOp .Or (e₁ :: e₂ :: rest) pos) am H Q :=
  fun s m X P F M R k => BoolOp_or (h s m X _ F M R fun v s1 m1 am1 H1 F1 M1 R1 ⟨b, hb, q⟩ => truthy_ (Q := fun b' am' H' => b' = b ∧ am' = am1 ∧ H' = H1) hb ⟨rfl, rfl, rfl⟩ s1 m1 X _ F1 M1 R1 fun b' s2 m2 am2 H2 F2 M2 R2 ⟨e1, e2, e3⟩ => by
    have e1' : b' = b := e1
    subst e1' e2 e3
    cases b' with
    | false => exact (if_neg Bool.false_ne_true) ▸ (show Ev w c env (.BoolOp .Or (e₂ :: rest) pos) am2 H2 Q by simpa using q) s2 m2 X P F2 M2 R2 k
    | true => simp only [if_true] at q ⊢; exact k _ _ m2 _ _ F2 M2 R2 q)
theorem ev_boolop_one {op : BoolOp} {e : Expr} {pos : Pos} {Q : Value → AM → AH → Prop} (h : Ev w c env e am H Q)
    (he : eval (.BoolOp op [e] pos) env = eval e env := by rfl) : Ev w c env (.BoolOp op [e] pos) am H Q := fun s m X P F M R k => by rw [he]; exact h s m X P F M R k
end
theorem sp_is_blank (w : World) (H : AH) (x : Str) (hx : x.length ≤ sizeLine) : Spec w (.ref 74) 2 H [.str x 0] (fun r H' => H' = H ∧ r = .bool (Txt.stripChars x " \t\r\n" == "")) := by
  refine' Spec.of ?ho ?hcd ?hb ?hnm ?hco ?hgen ?hk ?hcell ?h
  case ho => k_is
  case hcd => k_is
  case hb => ((first | (with_reducible refine all0 ?_) | (with_reducible refine all1 ?_) | (with_reducible refine all2 ?_) | (with_reducible refine all3 ?_) | (with_reducible refine all4 ?_) | (with_reducible refine all5 ?_) | (with_reducible refine all6 ?_) | (with_reducible refine all7 ?_)); intros; exact BindsTo.of_eq rfl)
  case hnm => decide
  case hco => rfl
  case hgen => rfl
  case hk => rfl
  case hcell => decide
  try (conv in (occs := *) (pSub _) => whnf)
  try (conv in (occs := *) (pSco _) => whnf)
  try (conv in (occs := *) (pPar _) => whnf)
  intro c O
  refine ex_cons ?_
  refine st_return ?_
  refine ev_cmp ?_
  refine ev_meth (by assumption) ?_
  refine ev_loc (by assumption) rfl ?_
  refine ⟨_, GetM.strip, ?_⟩
  refine ⟨.builtin _, ?_⟩
  refine ar_cons ?_
  refine ev_str ?_
  refine ar_nil ?_
  refine ci_strip hx ?_
  refine ev_str ?_
  with_reducible refine ⟨_, .eqs, ?_⟩
  with_reducible refine next_ret ?_
  exact ⟨_, Sub.refl, rfl, rfl⟩
end Mine
end

section
open PySem PySem.W PySem.Spec PySem.Calls PyProof.Rows
set_option Elab.async false
set_option maxRecDepth 100000
set_option maxHeartbeats 8000000
namespace Mine
theorem fill7 : (PySem.Challenge.rw_on0188_01 = PySem.Challenge.rw_on0188_01) ∧ hK = hK := by
  k_fill
  exact ⟨rfl, rfl⟩
def nv (i : Nat) : Value := .int (i : Int) 0
def oval : Option Nat → Value
  | none => .none
  | some i => nv i
structure NodeA where
  a : Addr
  d : Addr
  c : Addr
  t : Addr
  ns : Addr
  kind : Str
  name : Str
  uri : Str
  loc : Str
  value : Str
  par : Option Nat
  ch : List Nat
  ats : List Nat
def NodeA.fields (x : NodeA) : List (Str × Value) := [("kind", .str x.kind 0), ("name", .str x.name 0), ("uri", .str x.uri 0), ("local", .str x.loc 0), ("value", .str x.value 0), ("parent", oval x.par), ("children", .ref x.c), ("attributes", .ref x.t), ("namespaces", .ref x.ns)]
structure NodeIs (H : AH) (x : NodeA) : Prop where
  a : H x.a = some (.inst 155 x.d)
  d : H x.d = some (.attrs x.fields)
  c : H x.c = some (.list (x.ch.map nv))
  t : H x.t = some (.list (x.ats.map nv))
def NodeA.addrs (x : NodeA) : List Addr := [x.a, x.d, x.c, x.t]
structure TreeA where
  T : Addr
  d : Addr
  rl : Addr
  ns : List NodeA
def TreeA.addrs (t : TreeA) : List Addr := t.T :: t.d :: t.rl :: t.ns.flatMap NodeA.addrs
structure IsTree (H : AH) (t : TreeA) : Prop where
  T : H t.T = some (.inst 344 t.d)
  d : H t.d = some (.attrs [("rows", .ref t.rl)])
  rl : H t.rl = some (.list (t.ns.map fun x => .ref x.a))
  ns : ∀ x ∈ t.ns, NodeIs H x
  nd : t.addrs.Nodup
  csz : ∀ x ∈ t.ns, x.ch.length ≤ t.ns.length ∧ x.ats.length ≤ t.ns.length
  sz : t.ns.length ≤ 200
theorem ao_rows (w : World) : AttrOk w 344 "rows" := by (refine' ⟨?g, ?d, none, ?f, ?n⟩; (case g => k_is); (case d => k_is); (case f => k_is); (case n => k_is))
theorem ao_kind (w : World) : AttrOk w 155 "kind" := by (refine' ⟨?g, ?d, none, ?f, ?n⟩; (case g => k_is); (case d => k_is); (case f => k_is); (case n => k_is))
theorem ao_name (w : World) : AttrOk w 155 "name" := by (refine' ⟨?g, ?d, none, ?f, ?n⟩; (case g => k_is); (case d => k_is); (case f => k_is); (case n => k_is))
theorem ao_uri (w : World) : AttrOk w 155 "uri" := by (refine' ⟨?g, ?d, none, ?f, ?n⟩; (case g => k_is); (case d => k_is); (case f => k_is); (case n => k_is))
theorem ao_local (w : World) : AttrOk w 155 "local" := by (refine' ⟨?g, ?d, none, ?f, ?n⟩; (case g => k_is); (case d => k_is); (case f => k_is); (case n => k_is))
theorem ao_value (w : World) : AttrOk w 155 "value" := by (refine' ⟨?g, ?d, none, ?f, ?n⟩; (case g => k_is); (case d => k_is); (case f => k_is); (case n => k_is))
theorem ao_parent (w : World) : AttrOk w 155 "parent" := by (refine' ⟨?g, ?d, none, ?f, ?n⟩; (case g => k_is); (case d => k_is); (case f => k_is); (case n => k_is))
theorem ao_children (w : World) : AttrOk w 155 "children" := by (refine' ⟨?g, ?d, none, ?f, ?n⟩; (case g => k_is); (case d => k_is); (case f => k_is); (case n => k_is))
theorem ao_attributes (w : World) : AttrOk w 155 "attributes" := by (refine' ⟨?g, ?d, none, ?f, ?n⟩; (case g => k_is); (case d => k_is); (case f => k_is); (case n => k_is))
theorem so_parent (w : World) : SetOk w 155 "parent" := by (refine' ⟨?g, ?d, ?f, ?n⟩; (case g => k_is); (case d => k_is); (case f => k_is); (case n => k_is))
theorem mo_row (w : World) : MethOk w 344 "row" 187 := by (refine' ⟨?g, ?d, ?f⟩; (case g => k_is); (case d => k_is); (case f => k_is))
theorem mo_new_row (w : World) : MethOk w 344 "new_row" 180 := by (refine' ⟨?g, ?d, ?f⟩; (case g => k_is); (case d => k_is); (case f => k_is))
theorem mo_new_root (w : World) : MethOk w 344 "new_root" 194 := by (refine' ⟨?g, ?d, ?f⟩; (case g => k_is); (case d => k_is); (case f => k_is))
theorem mo_add_child (w : World) : MethOk w 344 "add_child" 201 := by (refine' ⟨?g, ?d, ?f⟩; (case g => k_is); (case d => k_is); (case f => k_is))
theorem mo_add_element (w : World) : MethOk w 344 "add_element" 208 := by (refine' ⟨?g, ?d, ?f⟩; (case g => k_is); (case d => k_is); (case f => k_is))
theorem mo_add_text (w : World) : MethOk w 344 "add_text" 215 := by (refine' ⟨?g, ?d, ?f⟩; (case g => k_is); (case d => k_is); (case f => k_is))
theorem mo_add_comment (w : World) : MethOk w 344 "add_comment" 222 := by (refine' ⟨?g, ?d, ?f⟩; (case g => k_is); (case d => k_is); (case f => k_is))
theorem mo_element_row (w : World) : MethOk w 344 "element_row" 236 := by (refine' ⟨?g, ?d, ?f⟩; (case g => k_is); (case d => k_is); (case f => k_is))
theorem mo_set_attribute (w : World) : MethOk w 344 "set_attribute" 243 := by (refine' ⟨?g, ?d, ?f⟩; (case g => k_is); (case d => k_is); (case f => k_is))
theorem mo_kind (w : World) : MethOk w 344 "kind" 264 := by (refine' ⟨?g, ?d, ?f⟩; (case g => k_is); (case d => k_is); (case f => k_is))
theorem mo_name (w : World) : MethOk w 344 "name" 271 := by (refine' ⟨?g, ?d, ?f⟩; (case g => k_is); (case d => k_is); (case f => k_is))
theorem mo_uri (w : World) : MethOk w 344 "uri" 278 := by (refine' ⟨?g, ?d, ?f⟩; (case g => k_is); (case d => k_is); (case f => k_is))
theorem mo_local (w : World) : MethOk w 344 "local" 285 := by (refine' ⟨?g, ?d, ?f⟩; (case g => k_is); (case d => k_is); (case f => k_is))
theorem mo_value (w : World) : MethOk w 344 "value" 292 := by (refine' ⟨?g, ?d, ?f⟩; (case g => k_is); (case d => k_is); (case f => k_is))
theorem mo_parent (w : World) : MethOk w 344 "parent" 299 := by (refine' ⟨?g, ?d, ?f⟩; (case g => k_is); (case d => k_is); (case f => k_is))
theorem mo_children (w : World) : MethOk w 344 "children" 306 := by (refine' ⟨?g, ?d, ?f⟩; (case g => k_is); (case d => k_is); (case f => k_is))
theorem mo_attributes (w : World) : MethOk w 344 "attributes" 313 := by (refine' ⟨?g, ?d, ?f⟩; (case g => k_is); (case d => k_is); (case f => k_is))

section
variable {w : World} {n : Nat} {c : Cx} {H : AH} {t : TreeA} {x : NodeA} {i : Nat}
theorem IsTree.meth {name : Str} {f : Addr} (O : c.Ok w n) (h : IsTree H t) (m : MethOk w 344 name f) (hn : (name == "rows") = false := by decide) : GetM w c H (.ref t.T) name (.ref f) :=
  GetM.inst O h.T h.d m (by rw [List.lookup_cons, hn]; rfl)
theorem IsTree.rows (h : IsTree H t) : AttrIs w H (.ref t.T) "rows" (.ref t.rl) := ⟨_, _, _, _, rfl, h.T, h.d, ao_rows w, rfl, rfl⟩
theorem IsTree.at (h : IsTree H t) (e : t.ns[i]? = some x) : SubIs H (.ref t.rl) (nv i) (.ref x.a) := by
  have hlt : i < t.ns.length := (List.getElem?_eq_some_iff.mp e).1
  have := h.sz
  refine ⟨_, _, i, _, rfl, rfl, .inl h.rl, ?_, ?_, ?_, ?_⟩
  · have h0 : ¬ (i : Int) < 0 := Int.not_lt.mpr (Int.natCast_nonneg i)
    simp [seqIndex?, hlt, h0]
  · simp [e]
  · omega
  · omega
end
end Mine
end

section
open PySem PySem.W PySem.Spec PySem.Calls PyProof.Rows
set_option Elab.async false
set_option maxRecDepth 100000
set_option maxHeartbeats 8000000
namespace Mine
theorem fill8 : (PySem.Challenge.rw_on0188_01 = PySem.Challenge.rw_on0188_01) ∧ hK = hK := by
  k_fill
  exact ⟨rfl, rfl⟩
section
variable {n : Nat} {c : Cx} {H : AH} {t : TreeA} {x : NodeA} {i : Nat}
theorem sp_row (w : World) (h : IsTree H t) (e : t.ns[i]? = some x) : Spec w (.ref 187) 2 H [.ref t.T, nv i] (fun r H' => H' = H ∧ r = .ref x.a) := by
  have hlt : i < t.ns.length := (List.getElem?_eq_some_iff.mp e).1
  have hz := h.sz
  refine' Spec.of ?ho ?hcd ?hb ?hnm ?hco ?hgen ?hk ?hcell ?h
  case ho => k_is
  case hcd => k_is
  case hb => ((first | (with_reducible refine all0 ?_) | (with_reducible refine all1 ?_) | (with_reducible refine all2 ?_) | (with_reducible refine all3 ?_) | (with_reducible refine all4 ?_) | (with_reducible refine all5 ?_) | (with_reducible refine all6 ?_) | (with_reducible refine all7 ?_)); intros; exact BindsTo.of_eq rfl)
  case hnm => decide
  case hco => rfl
  case hgen => rfl
  case hk => rfl
  case hcell => decide
  try (conv in (occs := *) (pSub _) => whnf)
  try (conv in (occs := *) (pSco _) => whnf)
  try (conv in (occs := *) (pPar _) => whnf)
  intro c O
  refine ex_cons ?_
  refine st_if ?_
  refine tst_not ?_
  refine tst_cmp2 ?_
  refine ev_int ?_
  refine ev_loc (by assumption) rfl ?_
  with_reducible refine ⟨_, .le, ?_⟩
  refine ite_isT (by simp) ?_
  refine ev_call (by assumption) ?_
  (refine' ev_builtF (by assumption) ?zq1 boot_len ?_; (case zq1 => k_is))
  refine ⟨.builtin _, ?_⟩
  refine ar_cons ?_
  refine ev_attr (by assumption) ?_
  refine ev_loc (by assumption) rfl ?_
  refine ⟨_, h.rows, ?_⟩
  refine ar_nil ?_
  refine ci_len h.rl (by simp; omega) ?_
  with_reducible refine ⟨_, .lt, ?_⟩
  refine ite_isF (by simpa using hlt) ?_
  refine ex_nil ?_
  with_reducible refine next_next ?_
  refine ex_cons ?_
  refine st_return ?_
  refine ev_sub ?_
  refine ev_attr (by assumption) ?_
  refine ev_loc (by assumption) rfl ?_
  refine ⟨_, h.rows, ?_⟩
  refine ev_loc (by assumption) rfl ?_
  refine ⟨_, h.at e, ?_⟩
  with_reducible refine next_ret ?_
  exact ⟨_, Sub.refl, rfl, rfl⟩
theorem sp_kind (w : World) (h : IsTree H t) (e : t.ns[i]? = some x) : Spec w (.ref 264) 3 H [.ref t.T, nv i] (fun r H' => H' = H ∧ r = .str x.kind 0) := by
  have hn := h.ns x (List.mem_of_getElem? e)
  refine' Spec.of ?ho ?hcd ?hb ?hnm ?hco ?hgen ?hk ?hcell ?h
  case ho => k_is
  case hcd => k_is
  case hb => ((first | (with_reducible refine all0 ?_) | (with_reducible refine all1 ?_) | (with_reducible refine all2 ?_) | (with_reducible refine all3 ?_) | (with_reducible refine all4 ?_) | (with_reducible refine all5 ?_) | (with_reducible refine all6 ?_) | (with_reducible refine all7 ?_)); intros; exact BindsTo.of_eq rfl)
  case hnm => decide
  case hco => rfl
  case hgen => rfl
  case hk => rfl
  case hcell => decide
  try (conv in (occs := *) (pSub _) => whnf)
  try (conv in (occs := *) (pSco _) => whnf)
  try (conv in (occs := *) (pPar _) => whnf)
  intro c O
  refine ex_cons ?_
  refine st_return ?_
  refine ev_attr (by assumption) ?_
  refine ev_meth (by assumption) ?_
  refine ev_loc (by assumption) rfl ?_
  refine ⟨_, h.meth O (mo_row w), ?_⟩
  refine ⟨.ref (by k_is), ?_⟩
  refine ar_cons ?_
  refine ev_loc (by assumption) rfl ?_
  refine ar_nil ?_
  refine (sp_row w h e).use O (by decide) ?_
  rintro _ _ ⟨rfl, rfl⟩
  refine ⟨_, ⟨_, _, _, _, rfl, hn.a, hn.d, ao_kind w, rfl, rfl⟩, ?_⟩
  with_reducible refine next_ret ?_
  exact ⟨_, Sub.refl, rfl, rfl⟩
theorem sp_name (w : World) (h : IsTree H t) (e : t.ns[i]? = some x) : Spec w (.ref 271) 3 H [.ref t.T, nv i] (fun r H' => H' = H ∧ r = .str x.name 0) := by
  have hn := h.ns x (List.mem_of_getElem? e)
  refine' Spec.of ?ho ?hcd ?hb ?hnm ?hco ?hgen ?hk ?hcell ?h
  case ho => k_is
  case hcd => k_is
  case hb => ((first | (with_reducible refine all0 ?_) | (with_reducible refine all1 ?_) | (with_reducible refine all2 ?_) | (with_reducible refine all3 ?_) | (with_reducible refine all4 ?_) | (with_reducible refine all5 ?_) | (with_reducible refine all6 ?_) | (with_reducible refine all7 ?_)); intros; exact BindsTo.of_eq rfl)
  case hnm => decide
  case hco => rfl
  case hgen => rfl
  case hk => rfl
  case hcell => decide
  try (conv in (occs := *) (pSub _) => whnf)
  try (conv in (occs := *) (pSco _) => whnf)
  try (conv in (occs := *) (pPar _) => whnf)
  intro c O
  refine ex_cons ?_
  refine st_return ?_
  refine ev_attr (by assumption) ?_
  refine ev_meth (by assumption) ?_
  refine ev_loc (by assumption) rfl ?_
  refine ⟨_, h.meth O (mo_row w), ?_⟩
  refine ⟨.ref (by k_is), ?_⟩
  refine ar_cons ?_
  refine ev_loc (by assumption) rfl ?_
  refine ar_nil ?_
  refine (sp_row w h e).use O (by decide) ?_
  rintro _ _ ⟨rfl, rfl⟩
  refine ⟨_, ⟨_, _, _, _, rfl, hn.a, hn.d, ao_name w, rfl, rfl⟩, ?_⟩
  with_reducible refine next_ret ?_
  exact ⟨_, Sub.refl, rfl, rfl⟩
theorem sp_uri (w : World) (h : IsTree H t) (e : t.ns[i]? = some x) : Spec w (.ref 278) 3 H [.ref t.T, nv i] (fun r H' => H' = H ∧ r = .str x.uri 0) := by
  have hn := h.ns x (List.mem_of_getElem? e)
  refine' Spec.of ?ho ?hcd ?hb ?hnm ?hco ?hgen ?hk ?hcell ?h
  case ho => k_is
  case hcd => k_is
  case hb => ((first | (with_reducible refine all0 ?_) | (with_reducible refine all1 ?_) | (with_reducible refine all2 ?_) | (with_reducible refine all3 ?_) | (with_reducible refine all4 ?_) | (with_reducible refine all5 ?_) | (with_reducible refine all6 ?_) | (with_reducible refine all7 ?_)); intros; exact BindsTo.of_eq rfl)
  case hnm => decide
  case hco => rfl
  case hgen => rfl
  case hk => rfl
  case hcell => decide
  try (conv in (occs := *) (pSub _) => whnf)
  try (conv in (occs := *) (pSco _) => whnf)
  try (conv in (occs := *) (pPar _) => whnf)
  intro c O
  refine ex_cons ?_
  refine st_return ?_
  refine ev_attr (by assumption) ?_
  refine ev_meth (by assumption) ?_
  refine ev_loc (by assumption) rfl ?_
  refine ⟨_, h.meth O (mo_row w), ?_⟩
  refine ⟨.ref (by k_is), ?_⟩
  refine ar_cons ?_
  refine ev_loc (by assumption) rfl ?_
  refine ar_nil ?_
  refine (sp_row w h e).use O (by decide) ?_
  rintro _ _ ⟨rfl, rfl⟩
  refine ⟨_, ⟨_, _, _, _, rfl, hn.a, hn.d, ao_uri w, rfl, rfl⟩, ?_⟩
  with_reducible refine next_ret ?_
  exact ⟨_, Sub.refl, rfl, rfl⟩
theorem sp_local (w : World) (h : IsTree H t) (e : t.ns[i]? = some x) : Spec w (.ref 285) 3 H [.ref t.T, nv i] (fun r H' => H' = H ∧ r = .str x.loc 0) := by
  have hn := h.ns x (List.mem_of_getElem? e)
  refine' Spec.of ?ho ?hcd ?hb ?hnm ?hco ?hgen ?hk ?hcell ?h
  case ho => k_is
  case hcd => k_is
  case hb => ((first | (with_reducible refine all0 ?_) | (with_reducible refine all1 ?_) | (with_reducible refine all2 ?_) | (with_reducible refine all3 ?_) | (with_reducible refine all4 ?_) | (with_reducible refine all5 ?_) | (with_reducible refine all6 ?_) | (with_reducible refine all7 ?_)); intros; exact BindsTo.of_eq rfl)
  case hnm => decide
  case hco => rfl
  case hgen => rfl
  case hk => rfl
  case hcell => decide
  try (conv in (occs := *) (pSub _) => whnf)
  try (conv in (occs := *) (pSco _) => whnf)
  try (conv in (occs := *) (pPar _) => whnf)
  intro c O
  refine ex_cons ?_
  refine st_return ?_
  refine ev_attr (by assumption) ?_
  refine ev_meth (by assumption) ?_
  refine ev_loc (by assumption) rfl ?_
  refine ⟨_, h.meth O (mo_row w), ?_⟩
  refine ⟨.ref (by k_is), ?_⟩
  refine ar_cons ?_
  refine ev_loc (by assumption) rfl ?_
  refine ar_nil ?_
  refine (sp_row w h e).use O (by decide) ?_
  rintro _ _ ⟨rfl, rfl⟩
  refine ⟨_, ⟨_, _, _, _, rfl, hn.a, hn.d, ao_local w, rfl, rfl⟩, ?_⟩
  with_reducible refine next_ret ?_
  exact ⟨_, Sub.refl, rfl, rfl⟩
theorem sp_value (w : World) (h : IsTree H t) (e : t.ns[i]? = some x) : Spec w (.ref 292) 3 H [.ref t.T, nv i] (fun r H' => H' = H ∧ r = .str x.value 0) := by
  have hn := h.ns x (List.mem_of_getElem? e)
  refine' Spec.of ?ho ?hcd ?hb ?hnm ?hco ?hgen ?hk ?hcell ?h
  case ho => k_is
  case hcd => k_is
  case hb => ((first | (with_reducible refine all0 ?_) | (with_reducible refine all1 ?_) | (with_reducible refine all2 ?_) | (with_reducible refine all3 ?_) | (with_reducible refine all4 ?_) | (with_reducible refine all5 ?_) | (with_reducible refine all6 ?_) | (with_reducible refine all7 ?_)); intros; exact BindsTo.of_eq rfl)
  case hnm => decide
  case hco => rfl
  case hgen => rfl
  case hk => rfl
  case hcell => decide
  try (conv in (occs := *) (pSub _) => whnf)
  try (conv in (occs := *) (pSco _) => whnf)
  try (conv in (occs := *) (pPar _) => whnf)
  intro c O
  refine ex_cons ?_
  refine st_return ?_
  refine ev_attr (by assumption) ?_
  refine ev_meth (by assumption) ?_
  refine ev_loc (by assumption) rfl ?_
  refine ⟨_, h.meth O (mo_row w), ?_⟩
  refine ⟨.ref (by k_is), ?_⟩
  refine ar_cons ?_
  refine ev_loc (by assumption) rfl ?_
  refine ar_nil ?_
  refine (sp_row w h e).use O (by decide) ?_
  rintro _ _ ⟨rfl, rfl⟩
  refine ⟨_, ⟨_, _, _, _, rfl, hn.a, hn.d, ao_value w, rfl, rfl⟩, ?_⟩
  with_reducible refine next_ret ?_
  exact ⟨_, Sub.refl, rfl, rfl⟩
theorem sp_parent (w : World) (h : IsTree H t) (e : t.ns[i]? = some x) : Spec w (.ref 299) 3 H [.ref t.T, nv i] (fun r H' => H' = H ∧ r = oval x.par) := by
  have hn := h.ns x (List.mem_of_getElem? e)
  refine' Spec.of ?ho ?hcd ?hb ?hnm ?hco ?hgen ?hk ?hcell ?h
  case ho => k_is
  case hcd => k_is
  case hb => ((first | (with_reducible refine all0 ?_) | (with_reducible refine all1 ?_) | (with_reducible refine all2 ?_) | (with_reducible refine all3 ?_) | (with_reducible refine all4 ?_) | (with_reducible refine all5 ?_) | (with_reducible refine all6 ?_) | (with_reducible refine all7 ?_)); intros; exact BindsTo.of_eq rfl)
  case hnm => decide
  case hco => rfl
  case hgen => rfl
  case hk => rfl
  case hcell => decide
  try (conv in (occs := *) (pSub _) => whnf)
  try (conv in (occs := *) (pSco _) => whnf)
  try (conv in (occs := *) (pPar _) => whnf)
  intro c O
  refine ex_cons ?_
  refine st_return ?_
  refine ev_attr (by assumption) ?_
  refine ev_meth (by assumption) ?_
  refine ev_loc (by assumption) rfl ?_
  refine ⟨_, h.meth O (mo_row w), ?_⟩
  refine ⟨.ref (by k_is), ?_⟩
  refine ar_cons ?_
  refine ev_loc (by assumption) rfl ?_
  refine ar_nil ?_
  refine (sp_row w h e).use O (by decide) ?_
  rintro _ _ ⟨rfl, rfl⟩
  refine ⟨_, ⟨_, _, _, _, rfl, hn.a, hn.d, ao_parent w, rfl, by cases x.par <;> rfl⟩, ?_⟩
  with_reducible refine next_ret ?_
  exact ⟨_, Sub.refl, rfl, rfl⟩
theorem sp_children (w : World) (h : IsTree H t) (e : t.ns[i]? = some x) : Spec w (.ref 306) 3 H [.ref t.T, nv i] (fun r H' => ∃ a, H a = none ∧ (∀ b, H b ≠ none → b < a) ∧ r = .ref a ∧ H' = hset H a (.list (x.ch.map nv))) := by
  have hn := h.ns x (List.mem_of_getElem? e)
  have hz := h.csz x (List.mem_of_getElem? e)
  have hs := h.sz
  refine' Spec.of ?ho ?hcd ?hb ?hnm ?hco ?hgen ?hk ?hcell ?h
  case ho => k_is
  case hcd => k_is
  case hb => ((first | (with_reducible refine all0 ?_) | (with_reducible refine all1 ?_) | (with_reducible refine all2 ?_) | (with_reducible refine all3 ?_) | (with_reducible refine all4 ?_) | (with_reducible refine all5 ?_) | (with_reducible refine all6 ?_) | (with_reducible refine all7 ?_)); intros; exact BindsTo.of_eq rfl)
  case hnm => decide
  case hco => rfl
  case hgen => rfl
  case hk => rfl
  case hcell => decide
  try (conv in (occs := *) (pSub _) => whnf)
  try (conv in (occs := *) (pSco _) => whnf)
  try (conv in (occs := *) (pPar _) => whnf)
  intro c O
  refine ex_cons ?_
  refine st_return ?_
  refine ev_call (by assumption) ?_
  (refine' ev_builtT (by assumption) ?zq1 boot_list ?_; (case zq1 => k_is))
  refine ⟨.type _, ?_⟩
  refine ar_cons ?_
  refine ev_attr (by assumption) ?_
  refine ev_meth (by assumption) ?_
  refine ev_loc (by assumption) rfl ?_
  refine ⟨_, h.meth O (mo_row w), ?_⟩
  refine ⟨.ref (by k_is), ?_⟩
  refine ar_cons ?_
  refine ev_loc (by assumption) rfl ?_
  refine ar_nil ?_
  refine (sp_row w h e).use O (by decide) ?_
  rintro _ _ ⟨rfl, rfl⟩
  refine ⟨_, ⟨_, _, _, _, rfl, hn.a, hn.d, ao_children w, rfl, rfl⟩, ?_⟩
  refine ar_nil ?_
  refine ci_list hn.c (by simp; omega) fun a h1 h2 => ?_
  with_reducible refine next_ret ?_
  exact ⟨_, Sub.refl, a, h1, h2, rfl, rfl⟩
theorem sp_attributes (w : World) (h : IsTree H t) (e : t.ns[i]? = some x) : Spec w (.ref 313) 3 H [.ref t.T, nv i] (fun r H' => ∃ a, H a = none ∧ (∀ b, H b ≠ none → b < a) ∧ r = .ref a ∧ H' = hset H a (.list (x.ats.map nv))) := by
  have hn := h.ns x (List.mem_of_getElem? e)
  have hz := h.csz x (List.mem_of_getElem? e)
  have hs := h.sz
  refine' Spec.of ?ho ?hcd ?hb ?hnm ?hco ?hgen ?hk ?hcell ?h
  case ho => k_is
  case hcd => k_is
  case hb => ((first | (with_reducible refine all0 ?_) | (with_reducible refine all1 ?_) | (with_reducible refine all2 ?_) | (with_reducible refine all3 ?_) | (with_reducible refine all4 ?_) | (with_reducible refine all5 ?_) | (with_reducible refine all6 ?_) | (with_reducible refine all7 ?_)); intros; exact BindsTo.of_eq rfl)
  case hnm => decide
  case hco => rfl
  case hgen => rfl
  case hk => rfl
  case hcell => decide
  try (conv in (occs := *) (pSub _) => whnf)
  try (conv in (occs := *) (pSco _) => whnf)
  try (conv in (occs := *) (pPar _) => whnf)
  intro c O
  refine ex_cons ?_
  refine st_return ?_
  refine ev_call (by assumption) ?_
  (refine' ev_builtT (by assumption) ?zq1 boot_list ?_; (case zq1 => k_is))
  refine ⟨.type _, ?_⟩
  refine ar_cons ?_
  refine ev_attr (by assumption) ?_
  refine ev_meth (by assumption) ?_
  refine ev_loc (by assumption) rfl ?_
  refine ⟨_, h.meth O (mo_row w), ?_⟩
  refine ⟨.ref (by k_is), ?_⟩
  refine ar_cons ?_
  refine ev_loc (by assumption) rfl ?_
  refine ar_nil ?_
  refine (sp_row w h e).use O (by decide) ?_
  rintro _ _ ⟨rfl, rfl⟩
  refine ⟨_, ⟨_, _, _, _, rfl, hn.a, hn.d, ao_attributes w, rfl, rfl⟩, ?_⟩
  refine ar_nil ?_
  refine ci_list hn.t (by simp; omega) fun a h1 h2 => ?_
  with_reducible refine next_ret ?_
  exact ⟨_, Sub.refl, a, h1, h2, rfl, rfl⟩
end
end Mine
end

section
open PySem PySem.W PySem.Spec PySem.Calls PyProof.Rows
set_option Elab.async false
set_option maxRecDepth 100000
set_option maxHeartbeats 8000000
namespace Mine
section
variable {w : World} {n : Nat} {c : Cx} {env : Env} {am : AM} {H : AH}
theorem HR.new2 {h₀ h : Heap} {L : Addr} {X : List (Addr × Obj)} (R : HR h₀ L h H X) :
    ∃ news, News h₀ L h news ∧ ∀ h' x dx obx obd o1 o2, News h₀ L h' ((x, obx) :: (dx, obd) :: news) → (∀ p ∈ news, p.1 < dx) → dx < x → ORel o1 obx → ORel o2 obd →
      H dx = none ∧ H x = none ∧ (∀ b, H b ≠ none → b < dx) ∧ HR h₀ L h' (hset (hset H dx o2) x o1) X := by
  obtain ⟨news, N, hH, hX⟩ := R
  refine ⟨news, N, fun h' x dx obx obd o1 o2 N' hlt hxd r1 r2 => ?_⟩
  have hb : ∀ b, H b ≠ none → b < dx := fun b hb => by
    cases e : H b with
    | none => exact absurd e hb
    | some o => obtain ⟨ob, hm, _⟩ := hH b o e; exact hlt _ hm
  have hn : ∀ z, dx ≤ z → H z = none := fun z hz => by
    cases e : H z with
    | none => rfl
    | some o => exact absurd (hb z (by rw [e]; simp)) (Nat.not_lt.mpr hz)
  refine ⟨hn _ (Nat.le_refl _), hn _ (Nat.le_of_lt hxd), hb, (x, obx) :: (dx, obd) :: news, N', fun b o' e => ?_, fun p hp => ⟨.tail _ (.tail _ (hX p hp).1), ?_⟩⟩
  · by_cases q : b = x
    · subst q; rw [hset_self] at e; cases e; exact ⟨_, .head _, r1⟩
    · rw [hset_ne q] at e
      by_cases q2 : b = dx
      · subst q2; rw [hset_self] at e; cases e; exact ⟨_, .tail _ (.head _), r2⟩
      · rw [hset_ne q2] at e; obtain ⟨ob, hm, ho⟩ := hH b o' e; exact ⟨ob, .tail _ (.tail _ hm), ho⟩
  · have l1 := hlt p (hX p hp).1
    rw [hset_ne (Nat.ne_of_lt (Nat.lt_trans l1 hxd)), hset_ne (Nat.ne_of_lt l1)]; exact (hX p hp).2
/-- the call of a class with its own __init__ -/
theorem ci_class {C fI : Addr} {args : List Value} {need : Nat} {post : Addr → AH → Prop} {Q : Value → AM → AH → Prop} (O : c.Ok w n) (hn : need < n)
    (hm : makesIn (hK w.params) C = true) (hi : findIn (hK w.params) (.ref C) "__init__" = some (some (.ref fI))) (hf : isFn (hK w.params) (.ref fI) = true)
    (h : ∀ x dx, H dx = none → H x = none → (∀ b, H b ≠ none → b < dx) → dx < x → Spec w (.ref fI) need (hset (hset H dx (.attrs [])) x (.inst C dx)) (.ref x :: args) (fun r H' => r = .none ∧ post x H'))
    (q : ∀ x H', post x H' → Q (.ref x) am H') : CallIs w c (.ref C) args am H Q := by
  intro vs' ea s m X P F M R k
  obtain ⟨news, N, hnew⟩ := R.new2
  refine call_cls F O.X N hm hi hf fun x dx h' F' N' lt hxd => ?_
  obtain ⟨h1, h2, h3, R'⟩ := hnew _ _ _ _ _ _ _ N' lt hxd (.inst C dx) (.attrs 0 .nil)
  have hd := O.d
  have hu := O.u
  let c' : Cx := { c with dp := c.dp + 1, un := c.un + 1 }
  have O' : c'.Ok w need := ⟨by show c.dp + 1 + need < _; omega, by show c.un + 1 + 100 + 8 * need < _; omega, ⟨O.B.stack, O.B.stays, O.B.frames⟩, O.X, O.T, O.k, O.C, O.S⟩
  refine h x dx h1 h2 h3 hxd c' O' (.ref x :: vs') _ m X _ (by simp [lsv, sv, ← ea]) F' R' M.2 fun v s' H' F2 R2 K2 ⟨e, p⟩ => ?_
  have := sv_none e
  subst this
  exact ⟨rfl, k _ _ m am H' F2 ⟨M.1, K2⟩ R2 (q x H' p)⟩
theorem HR.push {h₀ h : Heap} {L : Addr} {m : Str → Option Value} {X : List (Addr × Obj)} (F : Fr h₀ L h m) (R : HR h₀ L h H X) (o : Obj) (hfree : o.isFreed = false := by rfl) : HR h₀ L (h.push o) H ((h.objs.size, o) :: X) ∧ ∀ p ∈ X, p.1 ≠ h.objs.size := by
  have hlt := R.lt
  obtain ⟨news, N, h1, h2⟩ := R
  have hx : ∀ p ∈ X, p.1 ≠ h.objs.size := fun p hp => Nat.ne_of_lt (Heap.lt_size (N p (h2 p hp).1).1)
  refine ⟨⟨(h.objs.size, o) :: news, N.push F o hfree, fun a oo e => ?_, fun p hp => ?_⟩, hx⟩
  · obtain ⟨ob, hm, r⟩ := h1 a oo e; exact ⟨ob, .tail _ hm, r⟩
  · rcases List.mem_cons.mp hp with rfl | hp
    · refine ⟨.head _, ?_⟩
      cases e : H h.objs.size with
      | none => rfl
      | some oo => exact absurd (hlt h.objs.size (by rw [e]; simp)) (Nat.lt_irrefl _)
    · exact ⟨.tail _ (h2 p hp).1, (h2 p hp).2⟩
theorem HR.setX {h₀ h h' : Heap} {L it : Addr} {o o' : Obj} {X : List (Addr × Obj)} (R : HR h₀ L h H ((it, o) :: X)) (hx : ∀ p ∈ X, p.1 ≠ it) (hs : Heap.SameBut it h h') (g : h'.get? it = some o') : HR h₀ L h' H ((it, o') :: X) := by
  obtain ⟨news, N, h1, h2⟩ := R
  have hi := h2 _ (.head _)
  refine ⟨(it, o') :: news.filter (fun p => p.1 != it), fun p hp => ?_, fun a oo e => ?_, fun p hp => ?_⟩
  · rcases List.mem_cons.mp hp with rfl | hp
    · exact ⟨g, (N _ hi.1).2⟩
    · have hp' := N p (List.mem_filter.mp hp).1
      have ne : p.1 ≠ it := by simpa using (List.mem_filter.mp hp).2
      exact ⟨(hs.2 _ ne).trans hp'.1, hp'.2⟩
  · obtain ⟨ob, hm, r⟩ := h1 a oo e
    have ne : a ≠ it := fun q => by rw [q, hi.2] at e; cases e
    exact ⟨ob, .tail _ (List.mem_filter.mpr ⟨hm, by simpa using ne⟩), r⟩
  · rcases List.mem_cons.mp hp with rfl | hp
    · exact ⟨.head _, hi.2⟩
    · exact ⟨.tail _ (List.mem_filter.mpr ⟨(h2 p (.tail _ hp)).1, by simpa using hx p hp⟩), (h2 p (.tail _ hp)).2⟩
theorem HR.popX {h₀ h : Heap} {L : Addr} {p : Addr × Obj} {X : List (Addr × Obj)} (R : HR h₀ L h H (p :: X)) : HR h₀ L h H X := by
  obtain ⟨news, N, h1, h2⟩ := R
  exact ⟨news, N, h1, fun q hq => h2 q (.tail _ hq)⟩
theorem HR.getX {h₀ h : Heap} {L : Addr} {p : Addr × Obj} {X : List (Addr × Obj)} (R : HR h₀ L h H (p :: X)) : h.get? p.1 = some p.2 ∧ p.1 ≠ L ∧ h₀.get? p.1 = none := by
  obtain ⟨news, N, h1, h2⟩ := R
  exact N _ (h2 _ (.head _)).1

theorem HR.ext {h₀ h h' : Heap} {L it : Addr} {X : List (Addr × Obj)} (R : HR h₀ L h H X) (hi : H it = none) (hx : ∀ p ∈ X, p.1 ≠ it) (hs : ∀ b o, b ≠ it → h.get? b = some o → h'.get? b = some o) : HR h₀ L h' H X := by
  obtain ⟨news, N, h1, h2⟩ := R
  refine ⟨news.filter (fun p => p.1 != it), fun p hp => ?_, fun a oo e => ?_, fun p hp => ?_⟩
  · have hp' := N p (List.mem_filter.mp hp).1
    exact ⟨hs _ _ (by simpa using (List.mem_filter.mp hp).2) hp'.1, hp'.2⟩
  · obtain ⟨ob, hm, r⟩ := h1 a oo e
    have ne : a ≠ it := fun q => by rw [q, hi] at e; cases e
    exact ⟨ob, List.mem_filter.mpr ⟨hm, by simpa using ne⟩, r⟩
  · exact ⟨List.mem_filter.mpr ⟨(h2 p hp).1, by simpa using hx p hp⟩, (h2 p hp).2⟩
theorem HR.noneX {h₀ h : Heap} {L : Addr} {p : Addr × Obj} {X : List (Addr × Obj)} (R : HR h₀ L h H (p :: X)) : H p.1 = none := by
  obtain ⟨news, N, h1, h2⟩ := R
  exact (h2 _ (.head _)).2
theorem Fr_ext {h₀ h h' : Heap} {L it : Addr} {m : Str → Option Value} (F : Fr h₀ L h m) (hL : it ≠ L) (h0 : h₀.get? it = none) (hs : Heap.ExtBut it h h') : Fr h₀ L h' m :=
  ⟨F.ns.extBut hs (Ne.symm hL), fun b o e => hs b o (fun q => by rw [q, h0] at e; cases e) (F.keep b o e), F.above⟩
def As (w : World) (c : Cx) (env : Env) (target : Expr) (x : Value) (am : AM) (H : AH) (Q : AM → AH → Prop) : Prop := ∀ x', sv x' = x → Tr w c id (assign target env x') am H fun _ => Q
theorem as_name {x : Str} {px : Pos} {v : Value} {Q : AM → AH → Prop} (O : c.Ok w n) (h : Q ((x, v) :: am) H) (hl : c.env.kindOf x = some .local := by rfl) : As w c c.env (.Name x px) v am H Q :=
  fun v' e s m X P F M R k => wpAny_assign_Name (store_ O (Q := fun _ am H => Q am H) (by rw [e]; exact h) hl s m X P F M R k)
def loopQ (Q : Flow → AM → AH → Prop) (I : AM → AH → Prop) (f : Flow) (am : AM) (H : AH) : Prop :=
  match f with
  | .next => I am H
  | .cont => I am H
  | .brk => Q .next am H
  | .ret v => Q (.ret v) am H
end
end Mine
end

section
open PySem PySem.W PySem.Spec PySem.Calls PyProof.Rows
set_option Elab.async false
set_option maxRecDepth 100000
set_option maxHeartbeats 8000000
namespace Mine
abbrev PX := List (Addr × Obj)
def hdel (H : AH) (a : Addr) : AH := fun b => if b = a then none else H b
theorem hdel_self (H : AH) (a : Addr) : hdel H a a = none := by simp [hdel]
theorem hdel_ne {H : AH} {a b : Addr} (h : b ≠ a) : hdel H a b = H b := by simp [hdel, h]
theorem hdel_sub (H : AH) (a : Addr) : Sub (hdel H a) H := fun b o e => by
  by_cases q : b = a
  · subst q; rw [hdel_self] at e; cases e
  · rwa [hdel_ne q] at e
theorem fr_new {h₀ h : Heap} {L a : Addr} {m : Str → Option Value} (F : Fr h₀ L h m) (ha : h.objs.size ≤ a) : a ≠ L ∧ h₀.get? a = none := by
  have hL : L < a := Nat.lt_of_lt_of_le F.ns.lt ha
  exact ⟨Nat.ne_of_gt hL, Heap.get?_none_of_le (Nat.le_trans F.above (Nat.le_of_lt hL))⟩
section
variable {h₀ h h' : Heap} {L a : Addr} {m : Str → Option Value} {H : AH} {X : PX} {ob : Obj} {o : AObj}
theorem HR.ltX (R : HR h₀ L h H X) : ∀ p ∈ X, p.1 < h.objs.size := fun p hp => by
  obtain ⟨news, N, h1, h2⟩ := R
  exact Heap.lt_size (N p (h2 p hp).1).1
theorem HR.keeps (R : HR h₀ L h H X) (hk : ∀ b o, h.get? b = some o → h'.get? b = some o) : HR h₀ L h' H X := by
  obtain ⟨news, N, h1, h2⟩ := R
  exact ⟨news, fun p hp => ⟨hk _ _ (N p hp).1, (N p hp).2⟩, h1, h2⟩
theorem HR.fresh (R : HR h₀ L h H X) (ha : h.objs.size ≤ a) : H a = none ∧ (∀ b, H b ≠ none → b < a) := by
  have hb : ∀ b, H b ≠ none → b < a := fun b q => Nat.lt_of_lt_of_le (R.lt b q) ha
  refine ⟨?_, hb⟩
  cases e : H a with
  | none => rfl
  | some o => exact absurd (hb a (by rw [e]; simp)) (Nat.lt_irrefl _)
theorem HR.add (F : Fr h₀ L h m) (R : HR h₀ L h H X) (hk : ∀ b o, h.get? b = some o → h'.get? b = some o) (ha : h.objs.size ≤ a) (g : h'.get? a = some ob) (ho : ORel o ob) : HR h₀ L h' (hset H a o) X := by
  have hx := R.ltX
  obtain ⟨hn, hb⟩ := R.fresh ha
  obtain ⟨news, N, h1, h2⟩ := R
  refine ⟨(a, ob) :: news, fun p hp => ?_, fun b o' e => ?_, fun p hp => ⟨.tail _ (h2 p hp).1, ?_⟩⟩
  · rcases List.mem_cons.mp hp with rfl | hp
    · exact ⟨g, fr_new F ha⟩
    · exact ⟨hk _ _ (N p hp).1, (N p hp).2⟩
  · by_cases q : b = a
    · subst q; rw [hset_self] at e; cases e; exact ⟨ob, .head _, ho⟩
    · rw [hset_ne q] at e; obtain ⟨ob, hm, ho⟩ := h1 b o' e; exact ⟨ob, .tail _ hm, ho⟩
  · rw [hset_ne (Nat.ne_of_lt (Nat.lt_of_lt_of_le (hx p hp) ha))]; exact (h2 p hp).2
theorem HR.addX (F : Fr h₀ L h m) (R : HR h₀ L h H X) (hk : ∀ b o, h.get? b = some o → h'.get? b = some o) (ha : h.objs.size ≤ a) (g : h'.get? a = some ob) : HR h₀ L h' H ((a, ob) :: X) := by
  obtain ⟨hn, hb⟩ := R.fresh ha
  obtain ⟨news, N, h1, h2⟩ := R
  refine ⟨(a, ob) :: news, fun p hp => ?_, fun b o' e => ?_, fun p hp => ?_⟩
  · rcases List.mem_cons.mp hp with rfl | hp
    · exact ⟨g, fr_new F ha⟩
    · exact ⟨hk _ _ (N p hp).1, (N p hp).2⟩
  · obtain ⟨ob, hm, ho⟩ := h1 b o' e; exact ⟨ob, .tail _ hm, ho⟩
  · rcases List.mem_cons.mp hp with rfl | hp
    · exact ⟨.head _, hn⟩
    · exact ⟨.tail _ (h2 p hp).1, (h2 p hp).2⟩
theorem HR.hide (R : HR h₀ L h H X) (e : H a = some o) : ∃ ob, ORel o ob ∧ HR h₀ L h (hdel H a) ((a, ob) :: X) ∧ ∀ p ∈ X, p.1 ≠ a := by
  obtain ⟨news, N, h1, h2⟩ := R
  obtain ⟨ob, hm, ho⟩ := h1 a o e
  have hne : ∀ p ∈ X, p.1 ≠ a := fun p hp q => by have := (h2 p hp).2; rw [q, e] at this; cases this
  refine ⟨ob, ho, ⟨news, N, fun b o' e' => ?_, fun p hp => ?_⟩, hne⟩
  · by_cases q : b = a
    · subst q; rw [hdel_self] at e'; cases e'
    · rw [hdel_ne q] at e'; exact h1 b o' e'
  · rcases List.mem_cons.mp hp with rfl | hp
    · exact ⟨hm, hdel_self _ _⟩
    · exact ⟨(h2 p hp).1, by rw [hdel_ne (hne p hp)]; exact (h2 p hp).2⟩
theorem HR.shed {XI : PX} (R : HR h₀ L h H (XI ++ X)) : HR h₀ L h H X := by
  obtain ⟨news, N, h1, h2⟩ := R
  exact ⟨news, N, h1, fun p hp => h2 p (List.mem_append_right _ hp)⟩
end
def apart (XI X : PX) : Prop := ∀ p ∈ X, ∀ q ∈ XI, p.1 ≠ q.1
theorem apart_one {it : Addr} {o : Obj} {X : PX} (h : ∀ p ∈ X, p.1 ≠ it) : apart [(it, o)] X := fun p hp q hq => by
  rcases List.mem_singleton.mp hq with rfl; exact h p hp
theorem apart.one {it : Addr} {o : Obj} {X : PX} (h : apart [(it, o)] X) : ∀ p ∈ X, p.1 ≠ it := fun p hp => h p hp (it, o) (.head _)
theorem apart_two {a b : Addr} {o o' : Obj} {X : PX} (h : ∀ p ∈ X, p.1 ≠ a) (h' : ∀ p ∈ X, p.1 ≠ b) : apart [(a, o), (b, o')] X := fun p hp q hq => by
  rcases List.mem_cons.mp hq with rfl | hq
  · exact h p hp
  · rcases List.mem_singleton.mp hq with rfl; exact h' p hp
/-- iterators -/
structure Iter (w : World) (c : Cx) (target : Expr) (itv : Value) (k : Nat) (C : AH → Prop) (item : Nat → Value → AH → AH → Prop) (I : Nat → PX → Prop) : Prop where
  step : ∀ i XI (s : Shared) m H X (Q : Value → Shared → Prop), i < k → I i XI → C H → Fr c.h₀ c.L s.heap m → HR c.h₀ c.L s.heap H (XI ++ X) → apart XI X →
     (∀ v h' tk XI' H', item i (sv v) H H' → Fr c.h₀ c.L h' m → HR c.h₀ c.L h' H' (XI' ++ X) → apart XI' X → I (i + 1) XI' → Q v { s with heap := h', toks := tk }) →
     wpAny (model lawProg w) c.A (pyNext itv) (fun r s1 => ∃ v, r = some v ∧ wpAny (model lawProg w) c.A (letOwnedTupleGo target itv v) (fun _ s2 => Q v s2) noE s1) noE s
  done : ∀ XI (s : Shared) m H X (Q : Shared → Prop), I k XI → C H → Fr c.h₀ c.L s.heap m → HR c.h₀ c.L s.heap H (XI ++ X) → apart XI X →
     (∀ h' tk, Fr c.h₀ c.L h' m → HR c.h₀ c.L h' H X → Q { s with heap := h', toks := tk }) →
     wpAny (model lawProg w) c.A (pyNext itv) (fun r s1 => r = none ∧ Q s1) noE s
  self : ∀ i XI (s : Shared) H X (Q : Value → Shared → Prop), I i XI → HR c.h₀ c.L s.heap H (XI ++ X) → Q itv s → wpAny (model lawProg w) c.A (pyIter itv) Q noE s
/-- what is iterated over -/
def Itb (w : World) (c : Cx) (target : Expr) (v : Value) (k : Nat) (C : AH → Prop) (item : Nat → Value → AH → AH → Prop) (H H0 : AH) : Prop :=
  ∀ v' (s : Shared) m X (Q : Value → Shared → Prop), sv v' = v → Fr c.h₀ c.L s.heap m → HR c.h₀ c.L s.heap H X →
    (∀ itv I XI h', Iter w c target itv k C item I → I 0 XI → Fr c.h₀ c.L h' m → HR c.h₀ c.L h' H0 (XI ++ X) → apart XI X → Q itv { s with heap := h' }) →
    wpAny (model lawProg w) c.A (pyIter v') Q noE s
section
variable {w : World} {n : Nat} {c : Cx} {H : AH} {target : Expr}
theorem go_list {it l : Addr} {j : Nat} {v : Value} {s : Shared} {Q : Unit → Shared → Prop} (hit : s.heap.IsListIter it l j) (q : Q () s) (ht : ∀ r, letOwnedTupleGo target (.ref it) v = r → r = pure () ∨ ∃ elts x1 pos, target = .Tuple elts x1 pos) :
    wpAny (model lawProg w) c.A (letOwnedTupleGo target (.ref it) v) Q noE s := by
  rcases ht _ rfl with e | ⟨elts, x1, pos, rfl⟩
  · rw [e]; exact wpAny_pure q
  · cases v with
    | ref a => exact wpAny_letOwnedTupleGo_listiter hit q
    | _ => exact wpAny_pure q
/-- the targets that are served -/
def TgOk : Expr → Prop
  | .Name .. => True
  | .Tuple .. => True
  | _ => False
theorem tg_go (h : TgOk target) {it : Addr} {v : Value} : ∀ r, letOwnedTupleGo target (.ref it) v = r → r = pure () ∨ ∃ elts x1 pos, target = .Tuple elts x1 pos := by
  intro r e
  cases target with
  | Name x p => exact .inl e.symm
  | Tuple elts x1 pos => exact .inr ⟨_, _, _, rfl⟩
  | _ => exact h.elim
theorem iter_list (ht : TgOk target) {it l : Addr} {vs : List Value} : Iter w c target (.ref it) vs.length (fun H => H l = some (.list vs)) (fun i v H H' => vs[i]? = some v ∧ H' = H)
    (fun i XI => ∃ o, XI = [(it, o)] ∧ o.cls = .type "list_iterator" ∧ o.data = .fields #[.ref l, .int (i : Nat) 0]) where
  step := by
    rintro i _ s m H X Q hi ⟨o, rfl, oc, od⟩ hl F R ap k
    have z := R.getX
    have hit : s.heap.IsListIter it l i := ⟨o, z.1, oc, od⟩
    obtain ⟨ys, ky, g', ey, il'⟩ := R.list hl
    have hlt : i < ys.length := by have := congrArg List.length ey; rw [lsv_length] at this; omega
    have hv : ys[i]? = some ys[i] := List.getElem?_eq_getElem hlt
    generalize ys[i] = y at hv
    refine wpAny_pyNext_list_item (x := y) hit il' (by simpa using hv) fun h' hit' hs => ?_
    obtain ⟨o', g2, oc', od'⟩ := id hit'
    exact ⟨_, rfl, go_list hit' (k _ _ s.toks [(it, o')] _ ⟨by rw [← ey]; simp [lsv, hv], rfl⟩ (F.change hs z.2.1 z.2.2) (R.setX ap.one hs g2) (apart_one ap.one) ⟨o', rfl, oc', od'⟩) (tg_go ht)⟩
  done := by
    rintro _ s m H X Q ⟨o, rfl, oc, od⟩ hl F R ap k
    have z := R.getX
    have hit : s.heap.IsListIter it l vs.length := ⟨o, z.1, oc, od⟩
    obtain ⟨ys, ky, g', ey, il'⟩ := R.list hl
    have hn : ys[vs.length]? = none := by
      have := congrArg List.length ey; rw [lsv_length] at this; exact List.getElem?_eq_none (by omega)
    exact wpAny_pyNext_list_end rfl hit il' (by simpa using hn) fun h' hb => ⟨rfl, k h' s.toks (Fr_ext F z.2.1 z.2.2 hb) (R.popX.ext R.noneX ap.one hb)⟩
  self := by
    rintro i _ s H X Q ⟨o, rfl, oc, od⟩ R k
    exact wpAny_pyIter_listiter ⟨o, R.getX.1, oc, od⟩ k
theorem itb_list (ht : TgOk target) {l : Addr} {vs : List Value} (e : H l = some (.list vs)) : Itb w c target (.ref l) vs.length (fun H => H l = some (.list vs)) (fun i v H H' => vs[i]? = some v ∧ H' = H) H H := by
  intro v' s m X Q ev F R k
  obtain rfl := sv_ref ev
  obtain ⟨xs, kx, g, ex, il⟩ := R.list e
  refine wpAny_pyIter_list il ?_
  obtain ⟨R2, hx⟩ := R.push F { cls := .type "list_iterator", data := .fields #[.ref l, .int 0 0] }
  exact k _ _ [(s.heap.objs.size, { cls := .type "list_iterator", data := .fields #[.ref l, .int 0 0] })] _ (iter_list ht) ⟨_, rfl, rfl, rfl⟩ (F.push _) R2 (apart_one hx)
/-- range -/
theorem iter_range (ht : ∀ it v, letOwnedTupleGo target it v = pure ()) {it : Addr} {k : Nat} : Iter w c target (.ref it) k (fun _ => True) (fun i v H H' => v = .int (i : Nat) 0 ∧ H' = H)
    (fun i XI => XI = [(it, { cls := .type "range_iterator", dict := none, data := .fields #[rawInt (i : Nat), rawInt ((k : Int) - (i : Nat)), rawInt 1], slots := #[] })]) where
  step := by
    rintro i _ s m H X Q hi rfl _ F R ap k'
    have z := R.getX
    refine wpAny_pyNext_range_item (x := (i : Nat)) (left := (k : Int) - (i : Nat)) (step := 1) z.1 (by omega) fun h' g hs => ?_
    refine ⟨_, rfl, ?_⟩
    rw [ht]
    refine wpAny_pure (k' _ _ _ [(it, _)] _ ⟨rfl, rfl⟩ (F.change hs z.2.1 z.2.2) (R.setX ap.one hs g) (apart_one ap.one) ?_)
    have e1 : ((i : Nat) : Int) + 1 = ((i + 1 : Nat) : Int) := by omega
    have e2 : (k : Int) - (i : Nat) - 1 = (k : Int) - ((i + 1 : Nat) : Int) := by omega
    rw [e1, e2]
  done := by
    rintro _ s m H X Q rfl _ F R ap k'
    have z := R.getX
    exact wpAny_pyNext_range_end (x := (k : Nat)) (left := (k : Int) - (k : Nat)) (step := 1) rfl z.1 (by omega) fun h' hb => ⟨rfl, k' h' s.toks (Fr_ext F z.2.1 z.2.2 hb) (R.popX.ext R.noneX ap.one hb)⟩
  self := by
    rintro i _ s H X Q rfl R k'
    have hT : s.TypeIs (.ref it) "range_iterator" := ⟨_, R.getX.1, rfl⟩
    exact wpAny_pyIter_rangeiter R.getX.1 k'
theorem itb_range (ht : ∀ it v, letOwnedTupleGo target it v = pure ()) {r : Addr} {k : Nat} (hk : k ≤ 1000) (e : H r = some (.rng k)) : Itb w c target (.ref r) k (fun _ => True) (fun i v H H' => v = .int (i : Nat) 0 ∧ H' = H) H H := by
  intro v' s m X Q ev F R kk
  obtain rfl := sv_ref ev
  obtain ⟨ob, g, ho⟩ := R.get e
  cases ho
  refine wpAny_pyIter_range g (small_one (by omega) (by omega) (by omega) (by omega)) ?_
  obtain ⟨R2, hx⟩ := R.push F { cls := .type "range_iterator", data := .fields #[rawInt 0, rawInt (Builtin.Range.rangeSize 0 k 1), rawInt 1] }
  have er : Builtin.Range.rangeSize 0 (k : Int) 1 = (k : Int) - ((0 : Nat) : Int) := by rw [rangeSize_one]; split <;> omega
  exact kk _ _ [(s.heap.objs.size, { cls := .type "range_iterator", data := .fields #[rawInt 0, rawInt (Builtin.Range.rangeSize 0 k 1), rawInt 1] })] _ (iter_range ht) (by rw [er]; rfl) (F.push _) R2 (apart_one hx)
end
end Mine
end

section
open PySem PySem.W PySem.Spec PySem.Calls PyProof.Rows
set_option Elab.async false
set_option maxRecDepth 100000
set_option maxHeartbeats 8000000
namespace Mine
section
variable {w : World} {n : Nat} {c : Cx} {env : Env} {am : AM} {H : AH} {target : Expr}
theorem ExtBut_keep {h h' : Heap} {P : Prop} (f : P) : P := f
theorem HR.ext2 {h₀ h h' : Heap} {L a b : Addr} {X : PX} (R : HR h₀ L h H X) (ha : H a = none) (hb : H b = none) (hxa : ∀ p ∈ X, p.1 ≠ a) (hxb : ∀ p ∈ X, p.1 ≠ b) (hs : ∀ d o, d ≠ a → d ≠ b → h.get? d = some o → h'.get? d = some o) : HR h₀ L h' H X := by
  obtain ⟨news, N, h1, h2⟩ := R
  refine ⟨news.filter (fun p => p.1 != a && p.1 != b), fun p hp => ?_, fun d oo e => ?_, fun p hp => ?_⟩
  · have hp' := N p (List.mem_filter.mp hp).1
    have hne := (List.mem_filter.mp hp).2
    simp at hne
    exact ⟨hs _ _ hne.1 hne.2 hp'.1, hp'.2⟩
  · obtain ⟨ob, hm, r⟩ := h1 d oo e
    have na : d ≠ a := fun q => by rw [q, ha] at e; cases e
    have nb : d ≠ b := fun q => by rw [q, hb] at e; cases e
    exact ⟨ob, List.mem_filter.mpr ⟨hm, by simp [na, nb]⟩, r⟩
  · exact ⟨List.mem_filter.mpr ⟨(h2 p hp).1, by simp [hxa p hp, hxb p hp]⟩, (h2 p hp).2⟩
theorem Fr_ext2 {h₀ h h' : Heap} {L a b : Addr} {m : Str → Option Value} (F : Fr h₀ L h m) (hL : a ≠ L) (hL' : b ≠ L) (h0 : h₀.get? a = none) (h0' : h₀.get? b = none) (hs : ∀ d o, d ≠ a → d ≠ b → h.get? d = some o → h'.get? d = some o) : Fr h₀ L h' m :=
  ⟨F.ns.at' fun o e => hs L o (Ne.symm hL) (Ne.symm hL') e, fun d o e => hs d o (fun q => by rw [q, h0] at e; cases e) (fun q => by rw [q, h0'] at e; cases e) (F.keep d o e), F.above⟩
/-- both hidden objects come out of a step -/
theorem HR.setX2 {h₀ h h' : Heap} {L a b : Addr} {oa ob oa' ob' : Obj} {X : PX} (R : HR h₀ L h H ((a, oa) :: (b, ob) :: X)) (hxa : ∀ p ∈ X, p.1 ≠ a) (hxb : ∀ p ∈ X, p.1 ≠ b)
    (hs : ∀ d o, d ≠ a → d ≠ b → h.get? d = some o → h'.get? d = some o) (ga : h'.get? a = some oa') (gb : h'.get? b = some ob') : HR h₀ L h' H ((a, oa') :: (b, ob') :: X) := by
  have za := R.getX
  have zb := R.popX.getX
  have ra := R.noneX
  have rb := R.popX.noneX
  obtain ⟨news, N, h1, h2⟩ := R.popX.popX.ext2 ra rb hxa hxb hs
  refine ⟨(a, oa') :: (b, ob') :: news, fun p hp => ?_, fun d oo e => ?_, fun p hp => ?_⟩
  · rcases List.mem_cons.mp hp with rfl | hp
    · exact ⟨ga, za.2⟩
    rcases List.mem_cons.mp hp with rfl | hp
    · exact ⟨gb, zb.2⟩
    · exact N p hp
  · obtain ⟨o, hm, r⟩ := h1 d oo e; exact ⟨o, .tail _ (.tail _ hm), r⟩
  · rcases List.mem_cons.mp hp with rfl | hp
    · exact ⟨.head _, ra⟩
    rcases List.mem_cons.mp hp with rfl | hp
    · exact ⟨.tail _ (.head _), rb⟩
    · exact ⟨.tail _ (.tail _ (h2 p hp).1), (h2 p hp).2⟩
theorem iter_enum (elts : List Expr) (x1 : Nat) (pos : Pos) {e it l : Addr} {vs : List Value} (hei : e ≠ it) :
    Iter w c (.Tuple elts x1 pos) (.ref e) vs.length (fun H => H l = some (.list vs)) (fun i v H H' => ∃ T x, v = .ref T ∧ vs[i]? = some x ∧ H T = none ∧ (∀ b, H b ≠ none → b < T) ∧ H' = hset H T (.tuple [.int (i : Nat) 0, x]))
    (fun i XI => ∃ old o, XI = [(e, { cls := .type "enumerate", dict := none, data := .fields #[.none, .bool false, .ref it, rawInt (i : Nat), .none, old], slots := #[] }), (it, o)] ∧ o.cls = .type "list_iterator" ∧ o.data = .fields #[.ref l, .int (i : Nat) 0]) where
  step := by
    rintro i _ s m H X Q hi ⟨old, o, rfl, oc, od⟩ hl F R ap k
    have za := R.getX
    have zb := R.popX.getX
    have hit : s.heap.IsListIter it l i := ⟨o, zb.1, oc, od⟩
    obtain ⟨ys, ky, g', ey, il'⟩ := R.list hl
    have hlt : i < ys.length := by have := congrArg List.length ey; rw [lsv_length] at this; omega
    have hv : ys[i]? = some ys[i] := List.getElem?_eq_getElem hlt
    generalize ys[i] = y at hv
    have hxa : ∀ p ∈ X, p.1 ≠ e := fun p hp => ap p hp _ (.head _)
    have hxb : ∀ p ∈ X, p.1 ≠ it := fun p hp => ap p hp _ (.tail _ (.head _))
    have el : e < s.heap.objs.size := Heap.lt_size za.1
    have il : it < s.heap.objs.size := Heap.lt_size zb.1
    refine wpAny_pyNext_enum_item za.1 hit il' (x := y) (by simpa using hv) hei fun h' ho hit' hT hsz hk => ?_
    obtain ⟨o', g2, oc', od'⟩ := id hit'
    refine ⟨_, rfl, ?_⟩
    refine wpAny_letOwnedTupleGo_enum ho fun h2 he2 hs2 => ?_
    have hk2 : ∀ d o, d ≠ e → d ≠ it → s.heap.get? d = some o → h2.get? d = some o := fun d o h3 h4 q => (hs2.2 d h3).trans (hk d o h3 h4 q)
    have g3 : h2.get? it = some o' := (hs2.2 it (Ne.symm hei)).trans g2
    have gT : h2.get? s.heap.objs.size = some (tupO [.int i s.toks, y] 0) := (hs2.2 _ (Nat.ne_of_gt el)).trans hT
    obtain ⟨hn, hb⟩ := R.fresh (Nat.le_refl _)
    have R2 : HR c.h₀ c.L h2 H ([(e, _), (it, o')] ++ X) := R.setX2 hxa hxb hk2 he2 g3
    have F2 : Fr c.h₀ c.L h2 m := Fr_ext2 F za.2.1 zb.2.1 za.2.2 zb.2.2 hk2
    obtain ⟨f1, f2⟩ := fr_new F (Nat.le_refl _)
    refine k (.ref s.heap.objs.size) h2 (s.toks + 1) _ (hset H s.heap.objs.size (.tuple [.int (i : Nat) 0, sv y])) ⟨_, _, rfl, by rw [← ey]; simp [lsv, hv], hn, hb, rfl⟩ F2 ?_ ?_ ⟨y, o', rfl, oc', od'⟩
    · obtain ⟨news, N, h1, h2'⟩ := R2
      refine ⟨(s.heap.objs.size, tupO [.int i s.toks, y] 0) :: news, fun p hp => ?_, fun b o' e' => ?_, fun p hp => ⟨.tail _ (h2' p hp).1, ?_⟩⟩
      · rcases List.mem_cons.mp hp with rfl | hp
        · exact ⟨gT, f1, f2⟩
        · exact N p hp
      · by_cases q : b = s.heap.objs.size
        · subst q; rw [hset_self] at e'; cases e'; exact ⟨_, .head _, .tuple [.int i s.toks, y] 0⟩
        · rw [hset_ne q] at e'; obtain ⟨ob, hm, ho⟩ := h1 b o' e'; exact ⟨ob, .tail _ hm, ho⟩
      · have hp2 : p.1 < s.heap.objs.size := by
          rcases List.mem_cons.mp hp with rfl | hp
          · exact el
          rcases List.mem_cons.mp hp with rfl | hp
          · exact il
          · exact R.ltX p (.tail _ (.tail _ hp))
        rw [hset_ne (Nat.ne_of_lt hp2)]; exact (h2' p hp).2
    · exact apart_two hxa hxb
  done := by
    rintro _ s m H X Q ⟨old, o, rfl, oc, od⟩ hl F R ap k
    have za := R.getX
    have zb := R.popX.getX
    have hit : s.heap.IsListIter it l vs.length := ⟨o, zb.1, oc, od⟩
    obtain ⟨ys, ky, g', ey, il'⟩ := R.list hl
    have hn : ys[vs.length]? = none := by
      have := congrArg List.length ey; rw [lsv_length] at this; exact List.getElem?_eq_none (by omega)
    have hxb : ∀ p ∈ X, p.1 ≠ it := fun p hp => ap p hp _ (.tail _ (.head _))
    exact wpAny_pyNext_enum_end rfl za.1 hit il' (by simpa using hn) fun h' hb => ⟨rfl, k h' s.toks (Fr_ext F zb.2.1 zb.2.2 hb) (R.popX.popX.ext R.popX.noneX hxb hb)⟩
  self := by
    rintro i _ s H X Q ⟨old, o, rfl, oc, od⟩ R k
    exact wpAny_pyIter_enum R.getX.1 k
theorem itb_enum (elts : List Expr) (x1 : Nat) (pos : Pos) {l e it : Addr} {vs : List Value} (h1 : H e = some (.enum it)) (h2 : H it = some (.liter l)) :
    Itb w c (.Tuple elts x1 pos) (.ref e) vs.length (fun H => H l = some (.list vs)) (fun i v H H' => ∃ T x, v = .ref T ∧ vs[i]? = some x ∧ H T = none ∧ (∀ b, H b ≠ none → b < T) ∧ H' = hset H T (.tuple [.int (i : Nat) 0, x])) H (hdel (hdel H it) e) := by
  intro v' s m X Q ev F R k
  obtain rfl := sv_ref ev
  have hei : e ≠ it := fun q => by rw [q, h2] at h1; cases h1
  obtain ⟨oi, ri, Ri, xi⟩ := R.hide h2
  obtain ⟨oe, re, Re, xe⟩ := Ri.hide (by rw [hdel_ne hei]; exact h1)
  cases re
  generalize q : AObj.liter l = z at ri
  cases ri <;> cases q
  rename_i hc hd
  refine wpAny_pyIter_enum Re.getX.1 ?_
  exact k _ _ [(e, _), (it, oi)] s.heap (iter_enum elts x1 pos hei) ⟨_, oi, rfl, hc, hd⟩ F Re (apart_two (fun p hp => xe p (.tail _ hp)) xi)
/-- enumerate(list) -/
theorem ci_enumerate {b : Addr} {us : List Value} {Q : Value → AM → AH → Prop} (e : H b = some (.list us)) (q : ∀ it en, H it = none → H en = none → it < en → (∀ b, H b ≠ none → b < it) → Q (.ref en) am (hset (hset H it (.liter b)) en (.enum it))) : CallIs w c (.type "enumerate") [.ref b] am H Q := by
  intro vs' ea s m X P F M R k
  obtain ⟨a, rfl, ea1⟩ := lsv_one ea
  obtain rfl := sv_ref ea1
  obtain ⟨xs, kx, g, ex, il⟩ := R.list e
  refine call_enumerate_list il fun h' he hit hsz hk => ?_
  obtain ⟨o, g2, oc, od⟩ := hit
  obtain ⟨n1, b1⟩ := R.fresh (Nat.le_refl _)
  obtain ⟨n2, b2⟩ := R.fresh (Nat.le_succ _)
  obtain ⟨news, N, h1, h2⟩ := R.add F hk (Nat.le_refl _) g2 (.liter oc od)
  have hl : (s.heap.objs.size : Nat) ≠ s.heap.objs.size + 1 := Nat.ne_of_lt (Nat.lt_succ_self _)
  refine k (.ref (s.heap.objs.size + 1)) _ m am _ (F.keeps hk) M ?_ (q s.heap.objs.size (s.heap.objs.size + 1) n1 n2 (Nat.lt_succ_self _) b1)
  obtain ⟨oe, ree, gee⟩ : ∃ oe, ORel (.enum s.heap.objs.size) oe ∧ h'.get? (s.heap.objs.size + 1) = some oe := ⟨_, .enum _, he⟩
  refine ⟨(s.heap.objs.size + 1, oe) :: news, fun p hp => ?_, fun b o' e' => ?_, fun p hp => ⟨.tail _ (h2 p hp).1, ?_⟩⟩
  · rcases List.mem_cons.mp hp with rfl | hp
    · exact ⟨gee, fr_new F (Nat.le_succ _)⟩
    · exact N p hp
  · by_cases q : b = s.heap.objs.size + 1
    · subst q; rw [hset_self] at e'; cases e'; exact ⟨_, .head _, ree⟩
    · rw [hset_ne q] at e'; obtain ⟨ob, hm, ho⟩ := h1 b o' e'; exact ⟨ob, .tail _ hm, ho⟩
  · rw [hset_ne (Nat.ne_of_lt (Nat.lt_succ_of_lt (R.ltX p hp)))]; exact (h2 p hp).2
theorem ci_range {k : Int} {Q : Value → AM → AH → Prop} (q : New H (.rng k) am Q) : CallIs w c (.type "range") [.int k 0] am H Q := by
  intro vs' ea s m X P F M R kk
  obtain ⟨a, rfl, ea1⟩ := lsv_one ea
  obtain ⟨t, rfl⟩ := sv_int ea1
  refine call_range_1 ?_
  obtain ⟨n1, b1⟩ := R.fresh (Nat.le_refl _)
  exact kk (.ref s.heap.objs.size) _ m am _ (F.push _) M (R.add F (fun b o e => Heap.get?_push_of_some _ e) (Nat.le_refl _) (Heap.get?_push_size _ rfl) (.rng k)) (q _ n1 b1)
end
end Mine
end

section
open PySem PySem.W PySem.Spec PySem.Calls PyProof.Rows
set_option Elab.async false
set_option maxRecDepth 100000
set_option maxHeartbeats 8000000
namespace Mine
/-- less is known -/
def AmSub (am' am : AM) : Prop := ∀ p ∈ am', am.lookup p.1 = some p.2
theorem amsub_nil {am : AM} : AmSub [] am := fun _ h => nomatch h
theorem amsub_cons {am am' : AM} {x : Str} {v : Value} (h : am.lookup x = some v) (r : AmSub am' am) : AmSub ((x, v) :: am') am := fun p hp => by
  rcases List.mem_cons.mp hp with rfl | hp
  · exact h
  · exact r p hp
theorem lookup_mem {l : AM} {x : Str} {v : Value} (h : l.lookup x = some v) : (x, v) ∈ l := by
  induction l with
  | nil => cases h
  | cons y l ih =>
    rw [List.lookup_cons] at h
    split at h
    · rename_i q
      have := eq_of_beq q; subst this; cases h; exact .head _
    · exact .tail _ (ih h)
theorem MR.sub {c : Cx} {s : Shared} {am am' : AM} {m : Str → Option Value} (M : MR c s am m) (h : AmSub am' am) : MR c s am' m := ⟨fun x v e => M.1 x v (h (x, v) (lookup_mem e)), M.2⟩
def Wk (J : AM → AH → Prop) (am : AM) (H : AH) : Prop := ∃ am' H', AmSub am' am ∧ Sub H' H ∧ J am' H'
theorem Wk.self {J : AM → AH → Prop} {am : AM} {H : AH} (h : J am H) (ha : AmSub am am) : Wk J am H := ⟨am, H, ha, .refl, h⟩
section
variable {w : World} {n : Nat} {c : Cx} {env : Env} {am : AM} {H : AH} {target : Expr}
theorem Tr.wk {α : Type} {ab : α → α} {t : Sem α} {Q : α → AM → AH → Prop} (h : Wk (fun am H => Tr w c ab t am H Q) am H) : Tr w c ab t am H Q := by
  obtain ⟨am', H', h1, h2, h3⟩ := h
  exact fun s m X P F M R k => h3 s m X P F (M.sub h1) (R.drop h2) k
theorem st_for {iter : Expr} {body : List Stmt} {pos : Pos} {Q : Flow → AM → AH → Prop}
    (h : Ev w c env iter am H fun v am H => ∃ (k : Nat) (C : AH → Prop) (item : Nat → Value → AH → AH → Prop) (H0 : AH) (J : Nat → AM → AH → Prop), Itb w c target v k C item H H0 ∧ Sub H0 H ∧ J 0 am H0 ∧ (∀ i am H, J i am H → C H) ∧
      (∀ i am H v H', i < k → J i am H → item i v H H' → As w c env target v am H' fun am H => Ex w c env body am H (loopQ Q (Wk (J (i + 1))))) ∧ ∀ am H, J k am H → Q .next am H)
    (hf : ∀ x : Value, foldedSetIterable iter env x = pure x := by intro _; rfl) : St w c env (.For target iter body [] pos) am H Q := by
  intro s m X P F M R kk
  refine wpAny_For (h s m X _ F M R fun v s1 m1 am1 H1 F1 M1 R1 ⟨k, C, item, H0, J, hI, hsub, h0, hC, hstep, hend⟩ => ?_) hf
  refine hI v s1 m1 X _ rfl F1 R1 fun itv I XI h' IT i0 F2 R2 ap => ?_
  refine codeAny_forLoop_any (fun d s' => ∃ i m am H XI, Fr c.h₀ c.L s'.heap m ∧ MR c s' am m ∧ HR c.h₀ c.L s'.heap H (XI ++ X) ∧ apart XI X ∧ I i XI ∧ J i am H ∧ i ≤ k ∧ d = k - i) ?_ k ⟨0, m1, am1, H0, XI, F2, M1, R2, ap, i0, h0, Nat.zero_le _, rfl⟩
  rintro d s' ⟨i, m', am', H', XI', F', M', R', ap', hi, hJ, hle, rfl⟩
  by_cases hlt : i < k
  · refine wpAny_mono (IT.step i XI' s' m' H' X (fun v s2 => wpAny (model lawProg w) c.A (assign target env v) (fun _ s₂ => wpAny (model lawProg w) c.A (execs body env) (fun f s₃ => match f with
            | .next | .cont => ∃ d, d < k - i ∧ ∃ i m am H XI, Fr c.h₀ c.L s₃.heap m ∧ MR c s₃ am m ∧ HR c.h₀ c.L s₃.heap H (XI ++ X) ∧ apart XI X ∧ I i XI ∧ J i am H ∧ i ≤ k ∧ d = k - i
            | .brk => P .next s₃
            | .ret v => P (.ret v) s₃) noE s₂) noE s2) hlt hi (hC _ _ _ hJ) F' R' ap' fun v h2 tk XI2 H2 hit F2 R2 ap2 hi2 => ?_) ?_ fun _ _ y => y.elim
    · refine hstep i am' H' (sv v) H2 hlt hJ hit v rfl { s' with heap := h2, toks := tk } m' (XI2 ++ X) _ F2 M' R2 fun _ s4 m4 am4 H4 F4 M4 R4 hb => ?_
      refine hb s4 m4 (XI2 ++ X) _ F4 M4 R4 fun b s5 m5 am5 H5 F5 M5 R5 q => ?_
      cases b with
      | next =>
        obtain ⟨am6, H6, q1, q2, q3⟩ := q
        exact ⟨k - (i + 1), by omega, i + 1, m5, am6, H6, XI2, F5, M5.sub q1, R5.drop q2, ap2, hi2, q3, hlt, rfl⟩
      | cont =>
        obtain ⟨am6, H6, q1, q2, q3⟩ := q
        exact ⟨k - (i + 1), by omega, i + 1, m5, am6, H6, XI2, F5, M5.sub q1, R5.drop q2, ap2, hi2, q3, hlt, rfl⟩
      | brk => exact kk .next _ _ _ _ F5 M5 R5.shed q
      | ret v => exact kk (.ret v) _ _ _ _ F5 M5 R5.shed q
    · rintro _ s1 ⟨v, rfl, q⟩
      refine wpAny_mono q (fun _ s2 q2 => wpAny_mono q2 (fun _ s3 q3 => wpAny_mono q3 (fun f s4 q4 => ?_) fun _ _ y => y.elim) fun _ _ y => y.elim) fun _ _ y => y.elim
      cases f with
      | next => exact q4
      | cont => exact q4
      | brk => exact q4
      | ret v => exact q4
  · obtain rfl : i = k := Nat.le_antisymm hle (Nat.not_lt.mp hlt)
    refine wpAny_mono (IT.done XI' s' m' H' X (fun s3 => P .next s3) hi (hC _ _ _ hJ) F' R' ap' fun h2 tk F2 R2 => kk .next _ _ _ _ F2 M' R2 (hend _ _ hJ)) ?_ fun _ _ y => y.elim
    rintro _ s3 ⟨rfl, q⟩
    exact wpAny_execs_nil q
theorem st_while {test : Expr} {body : List Stmt} {pos : Pos} {Q : Flow → AM → AH → Prop} (J : Nat → AM → AH → Prop) (k : Nat) (h0 : J k am H)
    (turn : ∀ k am H, J k am H → Tst w c env test am H fun b am H => if b = true then Ex w c env body am H (loopQ Q (Wk fun am H => ∃ k', k' < k ∧ J k' am H)) else Q .next am H) : St w c env (.While test body [] pos) am H Q := by
  intro s m X P F M R kk
  refine wpAny_While (codeAny_whileLoop (fun d s' => ∃ m am H, Fr c.h₀ c.L s'.heap m ∧ MR c s' am m ∧ HR c.h₀ c.L s'.heap H X ∧ J d am H) ?_ k ⟨m, am, H, F, M, R, h0⟩)
  rintro d s' ⟨m', am', H', F', M', R', hJ⟩
  refine wpAny_mono (turn d am' H' hJ s' m' X (fun b s2 => ∃ m am H, Fr c.h₀ c.L s2.heap m ∧ MR c s2 am m ∧ HR c.h₀ c.L s2.heap H X ∧ if b = true then Ex w c env body am H (loopQ Q (Wk fun am H => ∃ k', k' < d ∧ J k' am H)) else Q .next am H) F' M' R'
    fun b s2 m2 am2 H2 F2 M2 R2 q => ⟨m2, am2, H2, F2, M2, R2, q⟩) ?_ fun _ _ y => y.elim
  rintro b s2 ⟨m2, am2, H2, F2, M2, R2, q⟩
  cases b with
  | false =>
    rw [if_neg Bool.false_ne_true] at q ⊢
    exact wpAny_execs_nil (kk .next _ _ _ _ F2 M2 R2 q)
  | true =>
    rw [if_pos rfl] at q ⊢
    refine wpAny_mono (q s2 m2 X (fun f s₃ => match f with
            | .next | .cont => ∃ m, m < d ∧ ∃ m' am H, Fr c.h₀ c.L s₃.heap m' ∧ MR c s₃ am m' ∧ HR c.h₀ c.L s₃.heap H X ∧ J m am H
            | .brk => P .next s₃
            | .ret v => P (.ret v) s₃) F2 M2 R2 fun b s5 m5 am5 H5 F5 M5 R5 q => ?_) (fun f s3 q3 => ?_) fun _ _ y => y.elim
    · cases b with
      | next =>
        obtain ⟨am6, H6, q1, q2, k', q3, q4⟩ := q
        exact ⟨k', q3, m5, am6, H6, F5, M5.sub q1, R5.drop q2, q4⟩
      | cont =>
        obtain ⟨am6, H6, q1, q2, k', q3, q4⟩ := q
        exact ⟨k', q3, m5, am6, H6, F5, M5.sub q1, R5.drop q2, q4⟩
      | brk => exact kk .next _ _ _ _ F5 M5 R5 q
      | ret v => exact kk (.ret v) _ _ _ _ F5 M5 R5 q
    · cases f with
      | next => exact q3
      | cont => exact q3
      | brk => exact q3
      | ret v => exact q3
/-! tuples as targets -/
def AsL (w : World) (c : Cx) : List (Value → Sem Unit) → List Value → AM → AH → (AM → AH → Prop) → Prop
  | [], [], am, H, Q => Q am H
  | t :: ts, v :: vs, am, H, Q => ∀ v', sv v' = v → Tr w c id (t v') am H fun _ am H => AsL w c ts vs am H Q
  | _, _, _, _, _ => False
theorem AsL.run {ts : List (Value → Sem Unit)} {vs : List Value} {Q : AM → AH → Prop} (h : AsL w c ts vs am H Q) : ∀ vs', lsv vs' = vs → Tr w c id (assignInOrder ts vs') am H fun _ => Q := by
  induction ts generalizing vs am H with
  | nil =>
    intro vs' e
    cases vs with
    | nil => obtain rfl := lsv_nil e; exact fun s m X P F M R k => assignInOrder_nil (k () _ m _ _ F M R h)
    | cons v vs => exact h.elim
  | cons t ts ih =>
    intro vs' e
    cases vs with
    | nil => exact h.elim
    | cons v vs =>
      obtain ⟨v', l', rfl, e1, e2⟩ := lsv_cons e
      exact fun s m X P F M R k => assignInOrder_cons (h v' e1 s m X _ F M R fun _ s1 m1 am1 H1 F1 M1 R1 q => ih q l' e2 s1 m1 X _ F1 M1 R1 k)
theorem AsL.len {ts : List (Value → Sem Unit)} {vs : List Value} {Q : AM → AH → Prop} (h : AsL w c ts vs am H Q) (hz : ts.length = vs.length) : ts.length = vs.length := hz
theorem as_tuple {elts : List Expr} {x1 : Nat} {pos : Pos} {t : Addr} {vs : List Value} {Q : AM → AH → Prop} (e : H t = some (.tuple vs)) (h : AsL w c ((assignEach elts env).map (·.2)) vs am H Q)
    (hz : (assignEach elts env).length = vs.length := by rfl) (hstar : (assignEach elts env).findIdx? (·.1) = none := by rfl) : As w c env (.Tuple elts x1 pos) (.ref t) am H Q := by
  intro v' ev s m X P F M R k
  obtain rfl := sv_ref ev
  obtain ⟨xs, kx, g, ex, il⟩ := R.tup e
  have it : IsTup s.heap t xs.toArray := il
  refine assign_Tuple_tuple rfl it (by rw [hz, ← ex, lsv_length]; simp) hstar fun h' he => ?_
  obtain ⟨hn, hb⟩ := R.fresh (Nat.le_refl _)
  obtain ⟨f1, f2⟩ := fr_new F (Nat.le_refl _)
  have hx := R.ltX
  exact h.run xs ex _ m X _ (Fr_ext F f1 f2 he) M (R.ext hn (fun p hp => Nat.ne_of_lt (hx p hp)) he) k
theorem as_tup2 {a b : Expr} {x1 : Nat} {pos : Pos} {t : Addr} {u v : Value} {Q : AM → AH → Prop} (e : H t = some (.tuple [u, v])) (h : As w c env a u am H fun am H => As w c env b v am H Q)
    (he : assignEach [a, b] env = [(false, assign a env), (false, assign b env)] := by rfl) : As w c env (.Tuple [a, b] x1 pos) (.ref t) am H Q :=
  as_tuple e (by rw [he]; exact fun v' e => Tr.mono (h v' e) fun _ am H q v' e => q v' e) (by rw [he]; rfl) (by rw [he]; rfl)
theorem as_tup3 {a b d : Expr} {x1 : Nat} {pos : Pos} {t : Addr} {u v z : Value} {Q : AM → AH → Prop} (e : H t = some (.tuple [u, v, z])) (h : As w c env a u am H fun am H => As w c env b v am H fun am H => As w c env d z am H Q)
    (he : assignEach [a, b, d] env = [(false, assign a env), (false, assign b env), (false, assign d env)] := by rfl) : As w c env (.Tuple [a, b, d] x1 pos) (.ref t) am H Q :=
  as_tuple e (by rw [he]; exact fun v' e => Tr.mono (h v' e) fun _ am H q v' e => Tr.mono (q v' e) fun _ am H q v' e => q v' e) (by rw [he]; rfl) (by rw [he]; rfl)
theorem st_assign_tup {elts : List Expr} {kk : Nat} {tpos pos : Pos} {value : Expr} {Q : Flow → AM → AH → Prop} (h : Ev w c env value am H fun v am H => As w c env (.Tuple elts kk tpos) v am H fun am H => Q .next am H)
    (hs : swapsWithSole [.Tuple elts kk tpos] value pos.line env = pure false := by rfl) (hw : swappedStores [.Tuple elts kk tpos] value env = pure none := by rfl) : St w c env (.Assign [.Tuple elts kk tpos] value pos) am H Q :=
  fun s m X P F M R k => PyProof.Rows.Assign_Tuple (h s m X _ F M R fun v s1 m1 am1 H1 F1 M1 R1 q => q v rfl s1 m1 X _ F1 M1 R1 fun _ s2 m2 am2 H2 F2 M2 R2 q2 => k _ _ m2 _ _ F2 M2 R2 q2) hs hw
theorem st_assign_sw {elts : List Expr} {kk : Nat} {tpos pos : Pos} {value : Expr} {names : List Str} {Q : Flow → AM → AH → Prop}
    (h : Ev w c env value am H fun v am H => ∃ t vs, v = .ref t ∧ H t = some (.tuple vs) ∧ vs.length = names.length ∧ AsL w c (names.reverse.map fun n => bindName env n) vs.reverse am H fun am H => Q .next am H)
    (hs : swapsWithSole [.Tuple elts kk tpos] value pos.line env = pure false := by rfl) (hw : swappedStores [.Tuple elts kk tpos] value env = pure (some names) := by rfl) : St w c env (.Assign [.Tuple elts kk tpos] value pos) am H Q :=
  fun s m X P F M R k => PyProof.Rows.Assign_Tuple_swapped (h s m X _ F M R fun v s1 m1 am1 H1 F1 M1 R1 ⟨t, vs, ev, e, hz, q⟩ => by
    obtain rfl := sv_ref ev
    obtain ⟨xs, kx, g, ex, il⟩ := R1.tup e
    have it : IsTup s1.heap t xs.toArray := il
    rw [show names.length = xs.toArray.size from by rw [← hz, ← ex, lsv_length]; simp]
    refine unpackItems_tuple rfl it fun h' he => ?_
    obtain ⟨hn, hb⟩ := R1.fresh (Nat.le_refl _)
    obtain ⟨f1, f2⟩ := fr_new F1 (Nat.le_refl _)
    have hx := R1.ltX
    exact q.run xs.reverse (by rw [← ex]; simp [lsv]) _ m1 X _ (Fr_ext F1 f1 f2 he) M1 (R1.ext hn (fun p hp => Nat.ne_of_lt (hx p hp)) he) fun _ s2 m2 am2 H2 F2 M2 R2 q2 => k _ _ m2 _ _ F2 M2 R2 q2) hs hw
theorem as_bind {x : Str} {v : Value} {Q : AM → AH → Prop} (O : c.Ok w n) (h : Q ((x, v) :: am) H) (hl : c.env.kindOf x = some .local := by rfl) : ∀ v', sv v' = v → Tr w c id (bindName c.env x v') am H fun _ => Q :=
  fun v' e s m X P F M R k => bindName_ (store_ O (Q := fun _ am H => Q am H) (by rw [e]; exact h) hl s m X P F M R k)
end
end Mine
end

section
open PySem PySem.W PySem.Spec PySem.Calls PyProof.Rows
set_option Elab.async false
set_option maxRecDepth 100000
set_option maxHeartbeats 8000000
namespace Mine
section
variable {h₀ h h' : Heap} {L a : Addr} {m : Str → Option Value} {H : AH} {X X' : PX} {ob ob' : Obj} {o : AObj}
theorem HR.subX (R : HR h₀ L h H X) (hs : ∀ p ∈ X', p ∈ X) : HR h₀ L h H X' := by
  obtain ⟨news, N, h1, h2⟩ := R
  exact ⟨news, N, h1, fun p hp => h2 p (hs p hp)⟩
theorem HR.unhide (R : HR h₀ L h H X) (hm : (a, ob) ∈ X) (ho : ORel o ob) (hs : ∀ p ∈ X', p ∈ X ∧ p.1 ≠ a) : HR h₀ L h (hset H a o) X' := by
  obtain ⟨news, N, h1, h2⟩ := R
  refine ⟨news, N, fun b o' e => ?_, fun p hp => ⟨(h2 p (hs p hp).1).1, by rw [hset_ne (hs p hp).2]; exact (h2 p (hs p hp).1).2⟩⟩
  by_cases q : b = a
  · subst q; rw [hset_self] at e; cases e; exact ⟨ob, (h2 _ hm).1, ho⟩
  · rw [hset_ne q] at e; exact h1 b o' e
theorem HR.swapX (R : HR h₀ L h H X) (hm : (a, ob) ∈ X) (hs : Heap.SameBut a h h') (g : h'.get? a = some ob') (hx : ∀ p ∈ X', p = (a, ob') ∨ (p ∈ X ∧ p.1 ≠ a)) : HR h₀ L h' H X' := by
  obtain ⟨news, N, h1, h2⟩ := R
  have hn := (h2 _ hm).2
  refine ⟨(a, ob') :: news.filter (fun p => p.1 != a), fun p hp => ?_, fun b oo e => ?_, fun p hp => ?_⟩
  · rcases List.mem_cons.mp hp with rfl | hp
    · exact ⟨g, (N _ (h2 _ hm).1).2⟩
    · have hp' := N p (List.mem_filter.mp hp).1
      exact ⟨(hs.2 _ (by simpa using (List.mem_filter.mp hp).2)).trans hp'.1, hp'.2⟩
  · obtain ⟨ob, hm, r⟩ := h1 b oo e
    have ne : b ≠ a := fun q => by rw [q, hn] at e; cases e
    exact ⟨ob, .tail _ (List.mem_filter.mpr ⟨hm, by simpa using ne⟩), r⟩
  · rcases hx p hp with rfl | ⟨q1, q2⟩
    · exact ⟨.head _, hn⟩
    · exact ⟨.tail _ (List.mem_filter.mpr ⟨(h2 p q1).1, by simpa using q2⟩), (h2 p q1).2⟩
theorem HR.at (R : HR h₀ L h H X) (hm : (a, ob) ∈ X) : h.get? a = some ob ∧ a ≠ L ∧ h₀.get? a = none ∧ H a = none := by
  obtain ⟨news, N, h1, h2⟩ := R
  have := N _ (h2 _ hm).1
  exact ⟨this.1, this.2.1, this.2.2, (h2 _ hm).2⟩
end
theorem compLoop_run {w : World} {A : Around} {elt target iter : Expr} {ifs : List Expr} {scope : Scope} {pos : Pos} {it acc : Value} {env : Env} {R : Result → Shared → Prop} {s : Shared} (I : Nat → Shared → Prop)
    (turn : ∀ n s, I n s → wpAny (model lawProg w) A (pyNext it) (fun r s₁ => match r with
      | none => R (.ok .next) s₁
      | some v => wpAny (model lawProg w) A (letOwnedTupleGo target it v) (fun _ s₁' => wpAny (model lawProg w) A (assign target env v) (fun _ s₂ =>
          wpAny (model lawProg w) A (forIn ifs true fun c r => if r = true then do let ok ← isTrue c env (eval c env); pure (ForInStep.yield ok) else pure (ForInStep.yield r)) (fun ok s₃ =>
            if ok = true then wpAny (model lawProg w) A (eval elt env) (fun x s₄ => wpAny (model lawProg w) A (call (.builtin "list.append") [acc, x]) (fun _ s₅ => ∃ m, m < n ∧ I m s₅) noE s₄) noE s₃
            else ∃ m, m < n ∧ I m s₃) noE s₂) noE s₁') noE s₁) noE s)
    (n : Nat) (h : I n s) : codeAny (model lawProg w) A (.compLoop (.ListComp elt [⟨target, iter, ifs, 0⟩] scope pos) 0 it acc env) R s := by
  refine codeAny_loop rfl I (fun n s hI => ?_) n h
  show wpAny _ A ((compTurn (.ListComp elt [⟨target, iter, ifs, 0⟩] scope pos) 0 it acc env).onRaise (fun x => do noteFrame x env; theTreesLotGoes x)) _ _ s
  refine wpAny_noted (wpAny_mono ?_ (fun _ _ q => q) fun _ _ (y : False) => y.elim)
  rw [compTurn_list]
  refine wpAny_bind (wpAny_standAt (wpAny_bind (wpAny_mono (turn n s hI) (fun r s₁ h₁ => ?_) fun _ _ y => y)))
  cases r with
  | none => exact wpAny_pure h₁
  | some v =>
    refine wpAny_bind (wpAny_mono h₁ (fun _ s2 h2 => wpAny_bind (wpAny_mono h2 (fun _ s3 h3 => wpAny_bind (wpAny_mono h3 (fun ok s4 h4 => ?_) fun _ _ y => y)) fun _ _ y => y)) fun _ _ y => y)
    cases ok with
    | false => exact wpAny_pure ⟨rfl, h4⟩
    | true => exact wpAny_bind (wpAny_bind (wpAny_mono h4 (fun x s5 h5 => wpAny_bind (wpAny_mono h5 (fun _ s6 h6 => wpAny_pure (wpAny_pure ⟨rfl, h6⟩)) fun _ _ y => y)) fun _ _ y => y))
section
variable {w : World} {n : Nat} {c : Cx} {env : Env} {am : AM} {H : AH} {target : Expr}
def CBody (w : World) (c : Cx) (env : Env) : List Expr → Expr → AM → AH → (Option Value → AH → Prop) → Prop
  | [], elt, am, H, post => Ev w c env elt am H fun v am' H' => am' = am ∧ post (some v) H'
  | [t], elt, am, H, post => Tst w c env t am H fun b am1 H1 => am1 = am ∧ if b = true then Ev w c env elt am1 H1 (fun v am' H' => am' = am ∧ post (some v) H') else post none H1
  | _, _, _, _, _ => False
theorem CBody.run {ifs : List Expr} {elt : Expr} {post : Option Value → AH → Prop} (h : CBody w c env ifs elt am H post) {s : Shared} {m : Str → Option Value} {X : PX} (F : Fr c.h₀ c.L s.heap m) (M : MR c s am m) (R : HR c.h₀ c.L s.heap H X)
    {P : Option Value → Shared → Prop} (k : ∀ r s' m' H', Fr c.h₀ c.L s'.heap m' → MR c s' am m' → HR c.h₀ c.L s'.heap H' X → post (r.map sv) H' → P r s') :
    wpAny (model lawProg w) c.A (forIn ifs true fun c r => if r = true then do let ok ← isTrue c env (eval c env); pure (ForInStep.yield ok) else pure (ForInStep.yield r)) (fun ok s₃ =>
      if ok = true then wpAny (model lawProg w) c.A (eval elt env) (fun x s₄ => P (some x) s₄) noE s₃ else P none s₃) noE s := by
  match ifs, h with
  | [], h => exact wpAny_tests_nil (by rw [if_pos rfl]; exact h s m X _ F M R fun v s' m' am' H' F' M' R' ⟨e, q⟩ => k (some v) s' m' H' F' (e ▸ M') R' q)
  | [t], h =>
    refine wpAny_tests_one (h s m X _ F M R fun b s' m' am' H' F' M' R' ⟨e, q⟩ => ?_)
    subst e
    dsimp only [id] at q
    cases b with
    | false => rw [if_neg Bool.false_ne_true] at q ⊢; exact k none s' m' H' F' M' R' q
    | true => rw [if_pos rfl] at q ⊢; exact q s' m' X _ F' M' R' fun v s' m' am' H' F' M' R' ⟨e, q⟩ => k (some v) s' m' H' F' (e ▸ M') R' q
  | _ :: _ :: _, h => exact h.elim
/-- a list comprehension of one clause -/
theorem st_lc {elt iter : Expr} {ifs : List Expr} {scope : Scope} {y : Str} {py pos spos : Pos} {cl : List (Str × Addr)} {Q : Flow → AM → AH → Prop} (O : c.Ok w n)
    (h : Ev w c c.env iter am H fun v am H => ∃ (k : Nat) (C : AH → Prop) (item : Nat → Value → AH → AH → Prop) (H0 : AH) (J : Nat → List Value → AH → Prop), Itb w c target v k C item H H0 ∧ k ≤ 1000 ∧ J 0 [] H0 ∧ (∀ i ys H, J i ys H → C H) ∧
      (∀ i ys H v H' Cc, i < k → J i ys H → item i v H H' → H Cc = none → H' Cc = none → As w c (compEnvC scope cl Cc c.env) target v am (hset H' Cc (.ns [])) fun am1 H1 => am1 = am ∧
        CBody w c (compEnvC scope cl Cc c.env) ifs elt am H1 fun r H'' => ∃ fs H3, H'' Cc = some (.ns fs) ∧ Sub H3 H'' ∧ H3 Cc = none ∧ J (i + 1) (ys ++ r.toList) H3) ∧
      ∀ ys H D, J k ys H → H D = none → Q .next ((y, .ref D) :: am) (hset H D (.list ys)))
    (hsw : swapsWith (.ListComp elt [⟨target, iter, ifs, 0⟩] scope pos) (some (.Name y py)) spos.line c.env = pure true) (hclos : closureFor scope c.env = pure cl) (hcell : ∀ y ∈ scope.names, y.2 ≠ .cell := by decide) (hkind : scope.kind = .function := by rfl) (hnames : ∀ y ∈ scope.names, y.2 = .local → scope.names.lookup y.1 = some .local := by decide)
    (hs : ∀ x, foldedSetIterable iter c.env x = pure x := by intro _; rfl) (hy : c.env.kindOf y = some .local := by rfl) : St w c c.env (.Assign [.Name y py] (.ListComp elt [⟨target, iter, ifs, 0⟩] scope pos) spos) am H Q := by
  intro s m X P F M R kk
  show wpAny (model lawProg w) c.A (exec (.Assign [.Name y py] (.ListComp elt [⟨target, iter, ifs, 0⟩] scope pos) spos) c.env) P noE s
  rw [exec_Assign_Name_used _ _ _ _ hsw]
  refine wpAny_bind (wpAny_standAt (wpAny_bind ?_))
  show wpAny _ c.A (do let _ ← comprehension (.ListComp elt [⟨target, iter, ifs, 0⟩] scope pos) scope c.env _ (newList []) false (eval iter c.env) (some (assign (.Name y py) c.env))) _ _ s
  refine wpAny_bind (wpAny_mono (wpAny_comprehension_free (use := some (assign (.Name y py) c.env)) (Q := fun _ s' => P .next s') rfl hs hclos hkind hnames ?_) (fun _ s' hq => wpAny_pure (wpAny_pure hq)) fun _ _ e => e)
  refine (h s m X _ F M R fun v s1 m1 am1 H1 F1 M1 R1 ⟨k, C, item, H0, J, hI, hk, h0, hC, hstep, hend⟩ => ?_)
  refine hI v s1 m1 X _ rfl F1 R1 fun itv I XI h' IT i0 F2 R2 ap => ?_
  refine wpAny_newObj_type (wpAny_newFunctionEnv hcell (by intro y hy; simp at hy) (fun h₁ hns₁ hsb₁ => ?_) hkind)
  dsimp only at hns₁ hsb₁ ⊢
  have F3 := F2.push (LCg.lst [])
  have R3 := R2.addX F2 (ob := LCg.lst []) (a := h'.objs.size) (fun b o e => Heap.get?_push_of_some _ e) (Nat.le_refl _) (Heap.get?_push_size _ rfl)
  generalize hH2 : h'.push { cls := .type "list", dict := none, data := .seq ([] : List Value).toArray } = H2 at hns₁ hsb₁ ⊢
  have F3 : Fr c.h₀ c.L H2 m1 := hH2 ▸ F3
  have R3 : HR c.h₀ c.L H2 H0 ((h'.objs.size, LCg.lst []) :: (XI ++ X)) := hH2 ▸ R3
  have k1 : ∀ b o, H2.get? b = some o → h₁.get? b = some o := fun b o e => hsb₁.extBut b o (Nat.ne_of_lt (Heap.lt_size e)) (Heap.get?_push_of_some _ e)
  obtain ⟨oC, gC, nC⟩ := LCg.ns_obj hns₁
  have F4 : Fr c.h₀ c.L h₁ m1 := F3.keeps k1
  have R4 := R3.addX F3 k1 (Nat.le_refl _) gC
  have lD : (h'.objs.size : Nat) < H2.objs.size := by rw [← hH2, Heap.size_push]; exact Nat.lt_succ_self _
  have l2 := R2.ltX
  generalize hD : h'.objs.size = D at *
  generalize hCc : H2.objs.size = Cc at *
  have lXD : ∀ p ∈ XI ++ X, p.1 ≠ D := fun p hp => Nat.ne_of_lt (l2 p hp)
  have lXC : ∀ p ∈ XI ++ X, p.1 ≠ Cc := fun p hp => Nat.ne_of_lt (Nat.lt_trans (l2 p hp) lD)
  have hDC : D ≠ Cc := Nat.ne_of_lt lD
  have aXD : ∀ p ∈ X, p.1 ≠ D := fun p hp => lXD p (List.mem_append_right _ hp)
  have aXC : ∀ p ∈ X, p.1 ≠ Cc := fun p hp => lXC p (List.mem_append_right _ hp)
  have loop : codeAny (model lawProg w) c.A (.compLoop (.ListComp elt [⟨target, iter, ifs, 0⟩] scope pos) 0 itv (.ref D) { newEnv scope Cc c.env.globals cl c.env.qual none .none (some c.env) c.env.builtins with scope := relabel scope c.env })
      (compPost (model lawProg w) c.A noE (some (assign (.Name y py) c.env)) (fun _ s' => P .next s') (.ref D) Cc) { s1 with heap := h₁, toks := s1.toks + ([] : List (Str × Value)).length } := by
    refine compLoop_run (fun d s' => ∃ i m' H XI ys zs oC m2, Fr c.h₀ c.L s'.heap m' ∧ MR c s' am1 m' ∧ HR c.h₀ c.L s'.heap H (XI ++ ((Cc, oC) :: (D, LCg.lst zs) :: X)) ∧ apart XI ((Cc, oC) :: (D, LCg.lst zs) :: X) ∧ LCg.NsObj oC m2 ∧ lsv zs = ys ∧ ys.length ≤ i ∧ I i XI ∧ J i ys H ∧ i ≤ k ∧ d = k - i) ?_ k
      ⟨0, m1, H0, XI, [], [], oC, _, F4, M1, R4.subX (fun p hp => ?_), ?_, nC, rfl, Nat.le_refl _, i0, h0, Nat.zero_le _, rfl⟩
    · rintro d s' ⟨i, m', H, XI, ys, zs, oC, m2, F', M', R', ap', nC', ezs, hlen, hi, hJ, hle, rfl⟩
      have mC : (Cc, oC) ∈ XI ++ ((Cc, oC) :: (D, LCg.lst zs) :: X) := List.mem_append_right _ (.head _)
      by_cases hlt : i < k
      · refine wpAny_mono (IT.step i XI s' m' H ((Cc, oC) :: (D, LCg.lst zs) :: X) (fun v s2 => wpAny (model lawProg w) c.A (assign target (compEnvC scope cl Cc c.env) v) (fun _ s₂ =>
            wpAny (model lawProg w) c.A (forIn ifs true fun t r => if r = true then do let ok ← PySem.isTrue t (compEnvC scope cl Cc c.env) (eval t (compEnvC scope cl Cc c.env)); pure (ForInStep.yield ok) else pure (ForInStep.yield r)) (fun ok s₃ =>
            if ok = true then wpAny (model lawProg w) c.A (eval elt (compEnvC scope cl Cc c.env)) (fun x s₄ => wpAny (model lawProg w) c.A (call (.builtin "list.append") [.ref D, x]) (fun _ s₅ => ∃ d, d < k - i ∧
              ∃ i m' H XI ys zs oC m2, Fr c.h₀ c.L s₅.heap m' ∧ MR c s₅ am1 m' ∧ HR c.h₀ c.L s₅.heap H (XI ++ ((Cc, oC) :: (D, LCg.lst zs) :: X)) ∧ apart XI ((Cc, oC) :: (D, LCg.lst zs) :: X) ∧ LCg.NsObj oC m2 ∧ lsv zs = ys ∧ ys.length ≤ i ∧ I i XI ∧ J i ys H ∧ i ≤ k ∧ d = k - i) noE s₄) noE s₃
            else ∃ d, d < k - i ∧ ∃ i m' H XI ys zs oC m2, Fr c.h₀ c.L s₃.heap m' ∧ MR c s₃ am1 m' ∧ HR c.h₀ c.L s₃.heap H (XI ++ ((Cc, oC) :: (D, LCg.lst zs) :: X)) ∧ apart XI ((Cc, oC) :: (D, LCg.lst zs) :: X) ∧ LCg.NsObj oC m2 ∧ lsv zs = ys ∧ ys.length ≤ i ∧ I i XI ∧ J i ys H ∧ i ≤ k ∧ d = k - i) noE s₂) noE s2)
            hlt hi (hC _ _ _ hJ) F' R' ap' fun v h2 tk XI2 H2 hit F2 R2 ap2 hi2 => ?_) ?_ fun _ _ y => y.elim
        · have mC2 : (Cc, oC) ∈ XI2 ++ ((Cc, oC) :: (D, LCg.lst zs) :: X) := List.mem_append_right _ (.head _)
          obtain ⟨es, ep, e1, e2, e3⟩ := id nC'
          have notC : ∀ p ∈ XI2 ++ ((D, LCg.lst zs) :: X), p ∈ XI2 ++ ((Cc, oC) :: (D, LCg.lst zs) :: X) ∧ p.1 ≠ Cc := fun p hp => by
            rcases List.mem_append.mp hp with hp | hp
            · exact ⟨List.mem_append_left _ hp, fun q => ap2 _ (.head _) p hp q.symm⟩
            · refine ⟨List.mem_append_right _ (.tail _ hp), ?_⟩
              rcases List.mem_cons.mp hp with rfl | hp
              · exact hDC
              · exact aXC p hp
          have R5 := R2.unhide mC2 (ORel.ns (fs := []) e1 e2 (fun x v e => by cases e)) notC
          refine hstep i ys H (sv v) H2 Cc hlt hJ hit (R'.at mC).2.2.2 (R2.at mC2).2.2.2 v rfl _ m' _ _ F2 M' R5 fun _ s6 m6 am6 H6 F6 M6 R6 ⟨ea, hb⟩ => ?_
          subst ea
          have notD : ∀ {oC6 : Obj} {zs' : List Value}, ∀ p ∈ XI2 ++ ((Cc, oC6) :: (D, LCg.lst zs') :: X), p = (D, LCg.lst zs') ∨ (p ∈ (Cc, oC6) :: (XI2 ++ ((D, LCg.lst zs) :: X)) ∧ p.1 ≠ D) := fun p hp => by
            rcases List.mem_append.mp hp with hp | hp
            · exact .inr ⟨.tail _ (List.mem_append_left _ hp), fun q => ap2 _ (.tail _ (.head _)) p hp q.symm⟩
            · rcases List.mem_cons.mp hp with rfl | hp
              · exact .inr ⟨.head _, fun q => hDC q.symm⟩
              rcases List.mem_cons.mp hp with rfl | hp
              · exact .inl rfl
              · exact .inr ⟨.tail _ (List.mem_append_right _ (.tail _ hp)), aXD p hp⟩
          have apN : ∀ {oC6 : Obj} {zs' : List Value}, apart XI2 ((Cc, oC6) :: (D, LCg.lst zs') :: X) := fun p hp q hq => by
            rcases List.mem_cons.mp hp with rfl | hp
            · exact ap2 _ (.head _) q hq
            rcases List.mem_cons.mp hp with rfl | hp
            · exact ap2 _ (.tail _ (.head _)) q hq
            · exact ap2 _ (.tail _ (.tail _ hp)) q hq
          refine wpAny_mono (hb.run F6 M6 R6 (P := fun r s' => ∃ m' H' oC6 m26 , Fr c.h₀ c.L s'.heap m' ∧ MR c s' am6 m' ∧ HR c.h₀ c.L s'.heap H' ((Cc, oC6) :: (XI2 ++ ((D, LCg.lst zs) :: X))) ∧ LCg.NsObj oC6 m26 ∧ J (i + 1) (ys ++ (r.map sv).toList) H')
            fun r s7 m7 H7 F7 M7 R7 ⟨fs, H8, q1, q2, q3, q4⟩ => ?_) (fun ok s7 q7 => ?_) fun _ _ y => y
          · obtain ⟨oC7, r7, R8, _⟩ := R7.hide q1
            cases r7 with
            | ns hd hk' hm' =>
              refine ⟨m7, H8, oC7, _, F7, M7, R8.drop (fun a o e => ?_), ⟨_, _, hd, hk', fun _ => rfl⟩, q4⟩
              have : a ≠ Cc := fun q => by rw [q, q3] at e; cases e
              rw [hdel_ne this]; exact q2 a o e
          · cases ok with
            | false =>
              rw [if_neg Bool.false_ne_true] at q7 ⊢
              obtain ⟨m7, H7, oC6, m26, F7, M7, R7, nC6, hJ7⟩ := q7
              refine ⟨k - (i + 1), by omega, i + 1, m7, H7, XI2, ys, zs, oC6, m26, F7, M7, R7.subX (fun p hp => ?_), apN, nC6, ezs, by omega, hi2, by simpa using hJ7, hlt, rfl⟩
              rcases List.mem_append.mp hp with hp | hp
              · exact .tail _ (List.mem_append_left _ hp)
              · rcases List.mem_cons.mp hp with rfl | hp
                · exact .head _
                · exact .tail _ (List.mem_append_right _ hp)
            | true =>
              rw [if_pos rfl] at q7 ⊢
              refine wpAny_mono q7 (fun x s8 q8 => ?_) fun _ _ y => y
              obtain ⟨m7, H7, oC6, m26, F7, M7, R7, nC6, hJ7⟩ := q8
              have mD : (D, LCg.lst zs) ∈ (Cc, oC6) :: (XI2 ++ ((D, LCg.lst zs) :: X)) := .tail _ (List.mem_append_right _ (.head _))
              have zD := R7.at mD
              refine append_at (hsz := ?_) zD.1 fun h9 hs9 g9 => ?_
              case refine_2 =>
                have hz : zs.length ≤ 1000 := by rw [← lsv_length, ezs]; omega
                rw [List.size_toArray]; exact Nat.le_trans hz (by decide)
              case refine_1 =>
                rw [LCg.lst_snoc] at g9
                exact ⟨k - (i + 1), by omega, i + 1, m7, H7, XI2, ys ++ [sv x], zs ++ [x], oC6, m26, F7.change hs9 zD.2.1 zD.2.2.1, M7, R7.swapX mD hs9 g9 notD, apN, nC6, by rw [lsv_append, ezs]; rfl, by simp; omega, hi2, hJ7, hlt, rfl⟩
        · rintro _ s1 ⟨v, rfl, q⟩
          exact q
      · obtain rfl : i = k := Nat.le_antisymm hle (Nat.not_lt.mp hlt)
        refine wpAny_mono (IT.done XI s' m' H ((Cc, oC) :: (D, LCg.lst zs) :: X) (fun s3 => compPost (model lawProg w) c.A noE (some (assign (.Name y py) c.env)) (fun _ s' => P .next s') (.ref D) Cc (.ok .next) s3) hi (hC _ _ _ hJ) F' R' ap' fun h2 tk F2 R2 => ?_) ?_ fun _ _ y => y
        · refine as_name (Q := fun am' H' => am' = (y, .ref D) :: am1 ∧ H' = H) O ⟨rfl, rfl⟩ hy (.ref D) rfl _ m' _ _ F2 M' R2 fun _ s4 m4 am4 H4 F4 M4 R4 ⟨ea, eH⟩ => ?_
          have ea' : am4 = (y, .ref D) :: am1 := ea
          have eH' : H4 = H := eH
          subst ea' eH'
          have zC := R4.at (.head _)
          refine ⟨m2, nC'.ns zC.1, fun h5 hs5 => ?_⟩
          have R5 := R4.popX.ext zC.2.2.2 (fun p hp => by
            rcases List.mem_cons.mp hp with rfl | hp
            · exact hDC
            · exact aXC p hp) (fun b o hb e => (hs5.2 b hb).trans e)
          have R6 := R5.unhide (.head _) (ORel.list zs zs.length) (X' := X) (fun p hp => ⟨.tail _ hp, aXD p hp⟩)
          exact kk .next _ _ _ _ (F4.change hs5 zC.2.1 zC.2.2.1) M4 R6 (by rw [ezs]; exact hend ys H4 D hJ (R5.at (.head _)).2.2.2)
        · rintro _ s3 ⟨rfl, q⟩
          exact q
    · rcases List.mem_append.mp hp with hp | hp
      · exact .tail _ (.tail _ (List.mem_append_left _ hp))
      · rcases List.mem_cons.mp hp with rfl | hp
        · exact .head _
        rcases List.mem_cons.mp hp with rfl | hp
        · exact .tail _ (.head _)
        · exact .tail _ (.tail _ (List.mem_append_right _ hp))
    · intro p hp q hq
      have hq' : q ∈ XI ++ X := List.mem_append_left _ hq
      rcases List.mem_cons.mp hp with rfl | hp
      · exact fun e => lXC q hq' e.symm
      rcases List.mem_cons.mp hp with rfl | hp
      · exact fun e => lXD q hq' e.symm
      · exact ap p hp q hq
  exact codeAny_compStart_list loop (wpAny_mono (IT.self 0 XI _ H0 X _ i0 (R4.popX.popX) loop) (fun _ _ q => q) fun _ _ y => y.elim)
end
end Mine
end

section
open PySem PySem.W PySem.Spec PySem.Calls PyProof.Rows
set_option Elab.async false
set_option maxRecDepth 100000
set_option maxHeartbeats 8000000
namespace Mine
section
variable {w : World} {n : Nat} {c : Cx} {env : Env} {am : AM} {H : AH} {target : Expr}
/-! names of a comprehension -/
theorem HR.nsAt {h₀ h : Heap} {L a : Addr} {X : PX} {fs : AM} (R : HR h₀ L h H X) (e : H a = some (.ns fs)) : ∃ m, h.Ns a m ∧ MRel fs m := by
  obtain ⟨ob, g, r⟩ := R.get e
  cases r with
  | ns hd hk hm => exact ⟨_, ⟨ob, _, _, g, hd, hk, fun _ => rfl⟩, hm⟩
theorem HR.cellAt {h₀ h : Heap} {L a : Addr} {X : PX} {v : Option Value} (R : HR h₀ L h H X) (e : H a = some (.cell v)) : ∃ v', h.IsCell a v' ∧ v'.map sv = v := by
  obtain ⟨ob, g, r⟩ := R.get e
  generalize q : AObj.cell v = z at r
  cases r <;> cases q
  rename_i v' hd
  exact ⟨v', ⟨ob, g, hd⟩, rfl⟩
theorem evc_loc {scope : Scope} {cl : List (Str × Addr)} {Cc : Addr} {fs : AM} {x : Str} {pos : Pos} {v : Value} {Q : Value → AM → AH → Prop} (e : H Cc = some (.ns fs)) (hv : fs.lookup x = some v) (h : Q v am H)
    (hk : (compEnvC scope cl Cc env).scope.kind = .function := by rfl) (hl : (compEnvC scope cl Cc env).kindOf x = some .local := by rfl) (hd : (x == ("__debug__" : Str)) = false := by decide) : Ev w c (compEnvC scope cl Cc env) (.Name x pos) am H Q :=
  fun s m X P F M R kk => by
    obtain ⟨m', hn, hm⟩ := R.nsAt e
    obtain ⟨v', e', rfl⟩ := hm x v hv
    exact wpAny_Name (wpAny_loadName_local hk hl hn e' (kk _ _ m am H F M R h)) hd
theorem evc_cell {scope : Scope} {cl : List (Str × Addr)} {Cc a : Addr} {x : Str} {pos : Pos} {v : Value} {Q : Value → AM → AH → Prop} (hc : cl.lookup x = some a) (e : H a = some (.cell (some v))) (h : Q v am H)
    (hk : (compEnvC scope cl Cc env).scope.kind = .function := by rfl) (hl : (compEnvC scope cl Cc env).kindOf x = some .cell := by rfl) (hd : (x == ("__debug__" : Str)) = false := by decide) : Ev w c (compEnvC scope cl Cc env) (.Name x pos) am H Q :=
  fun s m X P F M R kk => by
    obtain ⟨v', hv, e'⟩ := R.cellAt e
    cases v' with
    | none => cases e'
    | some v' => cases e'; exact wpAny_Name (wpAny_loadName_cell hk hl hc hv (kk _ _ m am H F M R h)) hd
theorem evc_glob {scope : Scope} {cl : List (Str × Addr)} {Cc : Addr} {x : Str} {pos : Pos} {v : Value} {Q : Value → AM → AH → Prop} (O : c.Ok w n) (e : nsIn (hK w.params) mainGlobals x = some (some v)) (h : Q (sv v) am H)
    (hk : (compEnvC scope cl Cc c.env).scope.kind = .function := by rfl) (hl : (compEnvC scope cl Cc c.env).kindOf x = some .globalImplicit := by rfl) (hd : (x == ("__debug__" : Str)) = false := by decide) : Ev w c (compEnvC scope cl Cc c.env) (.Name x pos) am H Q :=
  fun s m X P F M R kk => Name_function_global hk hl (loadGlobal_global (env := compEnvC scope cl Cc c.env) (O.T.g.keeps F.keep) (mg_of O.X O.T.g e) (kk _ _ m am H F M R h)) hd
theorem asc_name {scope : Scope} {cl : List (Str × Addr)} {Cc : Addr} {fs : AM} {x : Str} {px : Pos} {v : Value} {Q : AM → AH → Prop} (e : H Cc = some (.ns fs)) (h : Q am (hset H Cc (.ns ((x, v) :: fs))))
    (hk : (compEnvC scope cl Cc env).scope.kind = .function := by rfl) (hl : (compEnvC scope cl Cc env).kindOf x = some .local := by rfl) : As w c (compEnvC scope cl Cc env) (.Name x px) v am H Q := by
  intro v' ev s m X P F M R k
  obtain ⟨ob, rest, ho, N, hr, upd⟩ := R.upd e
  have z := N _ (.head _)
  cases ho with
  | ns hd hk' hm =>
    refine wpAny_assign_Name (wpAny_storeName_local hl ⟨ob, _, _, z.1, hd, hk', fun _ => rfl⟩ (fun h' hn hs => ?_) (by
      show ((compEnvC scope cl Cc env).scope.kind == .class || ((compEnvC scope cl Cc env).scope.kind == .module && _)) = false
      rw [hk]; rfl))
    have hs' : Heap.SameBut Cc s.heap h' := hs
    obtain ⟨o2, es2, ep2, g2, hd2, hk2, hm2⟩ := hn
    refine k () _ m am _ (F.change hs z.2.1 z.2.2) M (upd h' (.ns ((x, v) :: fs)) o2 (.ns hd2 hk2 ?_) ?_) h
    · subst ev
      intro y u q
      rw [hm2 y]
      exact mrel_set (m := nsFind _) hm y u q
    · intro p hp
      rcases List.mem_cons.mp hp with rfl | hp
      · exact ⟨g2, z.2⟩
      · have := N p (.tail _ hp); exact ⟨(hs'.2 _ (hr p hp)).trans this.1, this.2⟩
/-! cells of a frame -/
theorem ev_cell {a : Addr} {x : Str} {pos : Pos} {v : Value} {Q : Value → AM → AH → Prop} (O : c.Ok w n) (hc : c.cl.lookup x = some a) (e : H a = some (.cell (some v))) (h : Q v am H)
    (hl : c.env.kindOf x = some .cell := by rfl) (hd : (x == ("__debug__" : Str)) = false := by decide) : Ev w c c.env (.Name x pos) am H Q :=
  fun s m X P F M R kk => by
    obtain ⟨v', hv, e'⟩ := R.cellAt e
    cases v' with
    | none => cases e'
    | some v' => cases e'; exact wpAny_Name (wpAny_loadName_cell O.k hl hc hv (kk _ _ m am H F M R h)) hd
theorem as_cell {a : Addr} {v₀ : Option Value} {x : Str} {px : Pos} {v : Value} {Q : AM → AH → Prop} (O : c.Ok w n) (hc : c.cl.lookup x = some a) (e : H a = some (.cell v₀)) (h : Q am (hset H a (.cell (some v))))
    (hl : c.env.kindOf x = some .cell := by rfl) : As w c c.env (.Name x px) v am H Q := by
  intro v' ev s m X P F M R k
  obtain ⟨ob, rest, ho, N, hr, upd⟩ := R.upd e
  have z := N _ (.head _)
  generalize q : AObj.cell v₀ = y at ho
  cases ho <;> cases q
  rename_i v1 hd
  refine wpAny_assign_Name (wpAny_storeName_cell O.k hl hc ⟨ob, z.1, hd⟩ fun h' hv hs => ?_)
  obtain ⟨o', g, hd'⟩ := hv
  refine k () _ m am _ (F.change hs z.2.1 z.2.2) M (upd h' (.cell (some v)) o' (by rw [← ev]; exact .cell hd') ?_) h
  intro p hp
  rcases List.mem_cons.mp hp with rfl | hp
  · exact ⟨g, z.2⟩
  · have := N p (.tail _ hp); exact ⟨(hs.2 _ (hr p hp)).trans this.1, this.2⟩
/-! slices -/
theorem ev_rev {value : Expr} {k1 : Nat} {p1 p2 p3 pos : Pos} {Q : Value → AM → AH → Prop}
    (h : Ev w c env value am H fun o am H => ∃ l vs, o = .ref l ∧ H l = some (.list vs) ∧ vs.length ≤ 1000 ∧ New H (.list vs.reverse) am Q)
    (hs : ∀ a b, subscripted (.Slice none none (some (.UnaryOp .USub (.Constant (.int 1) k1 p1) p2)) p3) false (.ref a) (.ref b) = operate [.ref a, .ref b] (getItem (.ref a) (.ref b)) := by intro _ _; with_unfolding_all rfl)
 : Ev w c env (.Subscript value (.Slice none none (some (.UnaryOp .USub (.Constant (.int 1) k1 p1) p2)) p3) pos) am H Q :=
  fun s m X P F M R k => Subscript_ (h s m X _ F M R fun o s1 m1 am1 H1 F1 M1 R1 ⟨l, vs, eo, e, hz, q⟩ => by
    obtain rfl := sv_ref eo
    obtain ⟨xs, kx, g, rfl, il⟩ := R1.list e
    rw [lsv_length] at hz
    refine wpAny_Slice ?_
    rw [evalPart_none, evalPart_some]
    refine wpAny_pure (wpAny_pure (UnaryOp_ (wpAny_Constant_int (neg_int ?_))))
    obtain ⟨news, N, hn⟩ := R1.new
    refine kba_turn (value' := PySem.Expr.Name (PySem.Str.ofString "_") ⟨0, 0, 0, 0⟩) (fun _ => rfl) ?_
    refine slice_list3 (s := { s1 with toks := _ }) (lo := none) (hi := none) (st := some (-1)) F1 N il .none .none (.int _ _) (by decide) (fun h' F' N' => ?_) (hs _ _) (fun _ => rfl) (by rw [List.size_toArray]; exact sz_of hz)
    rw [krv_pick] at N'
    obtain ⟨q1, q2, q3, _⟩ := hn h' _ _ _ N' (fun p hp => Nat.lt_succ_of_lt (Heap.lt_size (N p hp).1)) (.list xs.reverse 0)
    exact k _ _ m1 _ _ F' M1 q3 (by rw [show lsv xs.reverse = (lsv xs).reverse by simp [lsv]]; exact q _ q1 q2))
end
end Mine
end

section
open PySem PySem.W PySem.Spec PySem.Calls PyProof.Rows
set_option Elab.async false
set_option maxRecDepth 100000
set_option maxHeartbeats 8000000
namespace Mine
/-! functions with cells -/
theorem bindL_lookup (kd : Str → Option NameKind) : ∀ (binds : List (Str × Value)) (m : Str → Option Value) (x : Str),
    bindL kd binds m x = match (binds.filter fun y => kd y.1 == some .local).reverse.lookup x with | some v => some v | none => m x
  | [], m, x => rfl
  | (y, v) :: r, m, x => by
    unfold bindL
    rw [bindL_lookup kd r]
    by_cases h : kd y = some .local
    · rw [if_pos h, List.filter_cons_of_pos (by simp [h]), List.reverse_cons, lookup_append]
      cases List.lookup x (List.filter (fun y => kd y.1 == some NameKind.local) r).reverse with
      | some u => rfl
      | none =>
        by_cases q : x = y
        · subst q; simp
        · have : (x == y) = false := by simpa using q
          simp [List.lookup, this, q]
    · rw [if_neg h, List.filter_cons_of_neg (by simpa using h)]
where lookup_append {x : Str} : ∀ {a b : List (Str × Value)}, (a ++ b).lookup x = match a.lookup x with | some v => some v | none => b.lookup x
  | [], b => rfl
  | (y, v) :: a, b => by
    rw [List.cons_append, List.lookup_cons, List.lookup_cons]
    split
    · rfl
    · exact lookup_append
theorem bindC_lookup (kd : Str → Option NameKind) : ∀ (binds : List (Str × Value)) (m : Str → Option Value) (x : Str),
    bindC kd binds m x = match (binds.filter fun y => !(kd y.1 == some .local)).reverse.lookup x with | some v => some v | none => m x
  | [], m, x => rfl
  | (y, v) :: r, m, x => by
    unfold bindC
    rw [bindC_lookup kd r]
    by_cases h : kd y = some .local
    · rw [if_pos h, List.filter_cons_of_neg (by simp [h])]
    · rw [if_neg h, List.filter_cons_of_pos (by simpa using h), List.reverse_cons, bindL_lookup.lookup_append]
      cases List.lookup x (List.filter (fun y => !(kd y.1 == some NameKind.local)) r).reverse with
      | some u => rfl
      | none =>
        by_cases q : x = y
        · subst q; simp
        · have : (x == y) = false := by simpa using q
          simp [List.lookup, this, q]
def cellsH (H : AH) (cv : Str → Option Value) : List (Str × Addr) → AH
  | [] => H
  | (x, a) :: r => hset (cellsH H cv r) a (.cell (cv x))
theorem cellsFrom_ge {x : Str} {a : Addr} : ∀ (names : List (Str × NameKind)) (n : Nat) (acc : List (Str × Addr)), (x, a) ∈ cellsFrom n names acc → n ≤ a ∨ (x, a) ∈ acc
  | [], n, acc, h => .inr h
  | (y, k) :: r, n, acc, h => by
    unfold cellsFrom at h
    split at h
    · rcases cellsFrom_ge r (n + 1) _ h with q | q
      · exact .inl (Nat.le_of_succ_le q)
      · rcases List.mem_cons.mp q with q | q
        · cases q; exact .inl (Nat.le_refl _)
        · exact .inr q
    · exact cellsFrom_ge r n acc h
theorem cells_HR {H : AH} {X : PX} {cm : Str → Option Value} {cs : List (Str × Addr)} {cells news : List (Addr × Obj)} (Y : CellsAre cm cs cells)
    (h1 : ∀ a o, H a = some o → ∃ ob, (a, ob) ∈ news ∧ ORel o ob) (h2 : ∀ p ∈ X, p ∈ news ∧ H p.1 = none) (hne : ∀ p ∈ X, ∀ q ∈ cs, p.1 ≠ q.2) :
    (∀ a o, cellsH H (fun x => (cm x).map sv) cs a = some o → ∃ ob, (a, ob) ∈ cells ++ news ∧ ORel o ob) ∧ ∀ p ∈ X, p ∈ cells ++ news ∧ cellsH H (fun x => (cm x).map sv) cs p.1 = none := by
  induction Y with
  | nil => exact ⟨h1, h2⟩
  | @cons x a o cs cells hd Y ih =>
    obtain ⟨i1, i2⟩ := ih fun p hp q hq => hne p hp q (.tail _ hq)
    refine ⟨fun b o' e => ?_, fun p hp => ⟨.tail _ (i2 p hp).1, ?_⟩⟩
    · by_cases q : b = a
      · subst q
        rw [cellsH, hset_self] at e; cases e
        exact ⟨o, .head _, .cell hd⟩
      · rw [cellsH, hset_ne q] at e
        obtain ⟨ob, hm, ho⟩ := i1 b o' e; exact ⟨ob, .tail _ hm, ho⟩
    · rw [cellsH, hset_ne (hne p hp (x, a) (.head _))]; exact (i2 p hp).2
theorem map_lookup {l : List (Str × Value)} {x : Str} : (l.lookup x).map sv = (l.map fun y => (y.1, sv y.2)).lookup x := by
  induction l with
  | nil => rfl
  | cons y l ih =>
    rw [List.map_cons, List.lookup_cons, List.lookup_cons]
    split
    · rfl
    · exact ih
theorem filter_sv (p : Str → Bool) : ∀ l : List (Str × Value), (l.map fun y => (y.1, sv y.2)).filter (fun y => p y.1) = (l.filter fun y => p y.1).map fun y => (y.1, sv y.2)
  | [] => rfl
  | y :: l => by
    rw [List.map_cons, List.filter_cons, List.filter_cons, filter_sv p l]
    split <;> rfl
def locArgs (names : List (Str × NameKind)) (b : List (Str × Value)) : AM := (b.filter fun y => names.lookup y.1 == some .local).reverse
def celArgs (names : List (Str × NameKind)) (b : List (Str × Value)) : AM := (b.filter fun y => !(names.lookup y.1 == some .local)).reverse
theorem Spec.ofC {w : World} {need : Nat} {H : AH} {args : List Value} {post : Value → AH → Prop} {name qual : Str} {params : Arguments} {body : List Stmt} {scope : Scope} {dV kV doc pm cdv ct oc : Value} {an od : Option Addr} {osl : Array (Option Value)} {f : Addr}
    (ho : (hK w.params).lookup f = some ⟨oc, od, .func (fnOf name qual params body scope dV kV doc pm an cdv ct), osl⟩) (hcd : codeIn (hK w.params) cdv qual = true)
    (hb : ∀ (args' : List Value) s, args'.length = args.length → BindsTo s (fnOf name qual params body scope dV kV doc pm an cdv ct) ⟨args', []⟩ ((params.args.map (·.arg)).zip args'))
    (hkn : ((params.args.map (·.arg)).all fun y => scope.names.lookup y == some .local || scope.names.lookup y == some .cell) = true)
    (hnd : ((cellsFrom 0 scope.names []).map (·.1)).Nodup)
    (hco : scope.isCoroutine = false) (hgen : scope.isGenerator = false) (hk : scope.kind = .function)
    (h : ∀ c : Cx, (∀ b, H b ≠ none → b < c.L) → (fnCx c qual scope f cdv (cellsFrom (c.L + 1) scope.names [])).Ok w need →
      Ex w (fnCx c qual scope f cdv (cellsFrom (c.L + 1) scope.names [])) (fnCx c qual scope f cdv (cellsFrom (c.L + 1) scope.names [])).env body (locArgs scope.names ((params.args.map (·.arg)).zip args))
        (cellsH H (fun x => (celArgs scope.names ((params.args.map (·.arg)).zip args)).lookup x) (cellsFrom (c.L + 1) scope.names [])) fun fl _ H' => ∃ H'', Sub H'' H' ∧ post (retOf fl) H'') : Spec w (.ref f) (need + 1) H args post := by
  intro c O args' s m X R ea F HR' K r
  have B := hb args' s (by rw [← ea, lsv_length])
  have hz : ((params.args.map (·.arg)).zip args) = ((params.args.map (·.arg)).zip args').map (fun y => (y.1, sv y.2)) := by
    rw [← ea]; simp [lsv, List.zip_map_right]
  have hkd : (((params.args.map (·.arg)).zip args').all fun y => scope.names.lookup y.1 == some .local || scope.names.lookup y.1 == some .cell) = true :=
    List.all_eq_true.mpr fun y hy => List.all_eq_true.mp hkn y.1 (List.of_mem_zip hy).1
  rw [hz] at h
  obtain ⟨news, N, h1, h2⟩ := id HR'
  have hd := O.d
  have hu := O.u
  refine callX_cells O.B F N O.T.nolimit rfl rfl O.k ((O.X.keeps F.keep) _ _ ho) rfl (codeRec_of (O.X.keeps F.keep) hcd) (Nat.lt_of_le_of_lt (Nat.le_add_right _ _) hd) B (kindsX hkd) hnd (fun g L' h₁ tk cells FG F' N' Y B' st hlt => ?_) hco hgen hk
  let c' : Cx := { c with dp := c.dp + 1, un := c.un + 3, outer := c.env :: c.outer, A₀ := c.A, h₀ := g, L := L' }
  let c2 : Cx := fnCx c' qual scope f cdv (cellsFrom (L' + 1) scope.names [])
  have O' : c2.Ok w need := ⟨by show c.dp + 1 + need < _; omega, by show c.un + 3 + 100 + 8 * need < _; omega, B', O.X.keeps st, O.T.keeps st, hk, O.C.keeps st, sc_keeps O.S st⟩
  have hbL : ∀ b, H b ≠ none → b < L' := fun b hb => by
    cases e : H b with
    | none => exact absurd e hb
    | some o => obtain ⟨ob, hm, _⟩ := h1 b o e; exact hlt _ hm
  have hcm : (fun x => (celArgs scope.names (((params.args.map (·.arg)).zip args').map fun y => (y.1, sv y.2))).lookup x) = fun x => ((bindC (envOfC qual scope L' f cdv).kindOf ((params.args.map (·.arg)).zip args') fun _ => none) x).map sv := by
    funext x
    rw [bindC_lookup, celArgs, filter_sv (fun y => !(scope.names.lookup y == some .local)), ← List.map_reverse, ← map_lookup]
    show Option.map sv (List.lookup x (List.filter (fun y => !(scope.names.lookup y.1 == some NameKind.local)) _).reverse) = _
    show _ = Option.map sv (match List.lookup x (List.filter (fun y => !(scope.names.lookup y.1 == some NameKind.local)) _).reverse with | some v => some v | none => none)
    cases List.lookup x (List.filter (fun y => !(scope.names.lookup y.1 == some NameKind.local)) ((params.args.map (·.arg)).zip args')).reverse <;> rfl
  obtain ⟨i1, i2⟩ := cells_HR (X := X) Y h1 h2 fun p hp q hq e => by
    rcases cellsFrom_ge _ _ _ (show (q.1, q.2) ∈ _ from hq) with g | g
    · have l := hlt p (h2 p hp).1
      rw [e] at l
      exact absurd (Nat.lt_of_lt_of_le l (Nat.le_of_succ_le g)) (Nat.lt_irrefl _)
    · cases g
  rw [hcm] at h
  refine wpAny_mono (h c' hbL O' _ _ X (fun fl s' => LeaveK c.h₀ c.L m g R (match fl with | .ret v => v | _ => .none) s') F' ⟨fun x v e => ?_, K⟩ ⟨_, N', i1, i2⟩
    fun fl s' m' am' H' F2 M2 ⟨news2, N2, h3, h4⟩ ⟨H'', sub, q⟩ => leaveK_ F2 N2 fun F3 N3 => r _ s' H'' F3 (HR.drop sub ⟨news2, N3, h3, h4⟩) M2.2 (by cases fl <;> exact q)) (fun _ _ x => x) fun _ _ y => y.elim
  rw [locArgs, filter_sv (fun y => scope.names.lookup y == some .local), ← List.map_reverse] at e
  obtain ⟨v', e1, e2⟩ := lookup_map e
  refine ⟨v', ?_, e2⟩
  rw [bindL_lookup]
  have e1' : List.lookup x (List.filter (fun y => (envOfC qual scope L' f cdv).kindOf y.1 == some NameKind.local) ((params.args.map (·.arg)).zip args')).reverse = some v' := e1
  rw [e1']
/-! lambdas -/
def TabOk (q : Str) (H : AH) : Prop := ∃ l, H 385 = some (.tab l) ∧ ∀ e ∈ l, H e.2 = some (.code q)
def LamOk (H : AH) (f : Addr) (params : Arguments) (body : Expr) (scope : Scope) (q : Str) : Prop := ∃ c', H f = some (.lam params body scope q c') ∧ H c' = some (.code q)
theorem codeAmong_app {pos : Pos} {a b : Int} {c : Value} (l : List Value) (h : TriplesOk l) : codeAmong pos (l ++ [rawInt a, rawInt b, c]) = match codeAmong pos l with | some v => some v | none => if (a == pos.line && b == pos.col) = true then some c else none := by
  fun_induction TriplesOk l with
  | case1 => simp [codeAmong, rawInt]
  | case2 a' t b' u x rest ih =>
    simp only [List.cons_append, codeAmong]
    split
    · rfl
    · exact ih h
  | case3 l h1 h2 => exact h.elim
theorem lookup_app {β : Type} {x : Nat × Nat} : ∀ {a b : List ((Nat × Nat) × β)}, (a ++ b).lookup x = match a.lookup x with | some v => some v | none => b.lookup x
  | [], b => rfl
  | (y, v) :: a, b => by
    rw [List.cons_append, List.lookup_cons, List.lookup_cons]
    split
    · rfl
    · exact lookup_app
theorem mem_of_lookup {β : Type} {x : Nat × Nat} {v : β} : ∀ {l : List ((Nat × Nat) × β)}, l.lookup x = some v → ∃ e ∈ l, e.2 = v
  | [], h => by cases h
  | y :: l, h => by
    rw [List.lookup_cons] at h
    split at h
    · cases h; exact ⟨y, .head _, rfl⟩
    · obtain ⟨e, he, q⟩ := mem_of_lookup h; exact ⟨e, .tail _ he, q⟩
section
variable {w : World} {n : Nat} {c : Cx} {env : Env} {am : AM} {H : AH}
theorem ev_lambda {params : Arguments} {body : Expr} {scope : Scope} {pos : Pos} {q : Str} {Q : Value → AM → AH → Prop} (O : c.Ok w n) (hcd : c.ccd = .ref 387) (hT : TabOk q H) (hq : c.env.qual ++ "<lambda>" = q)
    (h : ∀ f H', TabOk q H' → H f = none → (∀ a, a ≠ 385 → H a ≠ none → H' a = H a) → LamOk H' f params body scope q → Q (.ref f) am H')
    (hdef : defaultsOf params c.env = ([], []) := by rfl) (hcl : closureFor scope c.env = pure [] := by rfl) : Ev w c c.env (.Lambda params body scope pos) am H Q := by
  intro s m X P F M R k
  refine kla_eval hdef ?_
  rw [hq]
  obtain ⟨l, e, hl⟩ := hT
  obtain ⟨news, N, g1, g2⟩ := id R
  obtain ⟨ob, hm, ho⟩ := g1 385 _ e
  generalize qq : AObj.tab l = y at ho
  cases ho <;> cases qq
  rename_i ps ht hc
  have hcp := hc pos
  have N2 : News c.h₀ c.L s.heap ((385, tabObj ps) :: news.filter (fun p => p.1 != 385)) := fun p hp => by
    rcases List.mem_cons.mp hp with rfl | hp
    · exact N _ hm
    · exact N p (List.mem_filter.mp hp).1
  have inN : ∀ p ∈ news, p.1 ≠ 385 → p ∈ (385, tabObj ps) :: news.filter (fun p => p.1 != 385) := fun p hp hne => .tail _ (List.mem_filter.mpr ⟨hp, by simpa using hne⟩)
  cases hlk : l.lookup (pos.line, pos.col) with
  | none =>
    rw [hlk] at hcp
    refine kla_nest (mg := c.mg) F N2 O.T O.C hcd (.head rest_ne) ht hcp hcl fun f c' oc vs t ctv h' tk F' N' d1 d2 l1 l2 => ?_
    have hall : ∀ p ∈ news, p.1 < c' := fun p hp => by
      by_cases q : p.1 = 385
      · rw [q]; exact l1 (385, tabObj ps) (.head _)
      · exact l1 p (inN p hp q)
    have hb : ∀ b, H b ≠ none → b < c' := fun b hb => by
      cases q : H b with
      | none => exact absurd q hb
      | some o => obtain ⟨ob, hm, _⟩ := g1 b o q; exact hall _ hm
    have hcn : H c' = none := by
      cases q : H c' with
      | none => rfl
      | some o => exact absurd (hb c' (by rw [q]; simp)) (Nat.lt_irrefl _)
    have hfn : H f = none := by
      cases q : H f with
      | none => rfl
      | some o => exact absurd (Nat.lt_trans l2 (hb f (by rw [q]; simp))) (Nat.lt_irrefl _)
    have hc5 : c' ≠ 385 := fun q => by rw [q, e] at hcn; cases hcn
    have hf5 : f ≠ 385 := fun q => by rw [q, e] at hfn; cases hfn
    have hfc : f ≠ c' := Nat.ne_of_gt l2
    have rt : ORel (.tab (l ++ [((pos.line, pos.col), c')])) (tabObj (ps ++ #[rawInt pos.line, rawInt pos.col, .ref c'])) := .tab (by simpa using TriplesOk_snoc _ _ _ _ ht) (fun pos' => by
      have := codeAmong_app (pos := pos') (a := pos.line) (b := pos.col) (c := .ref c') ps.toList ht
      have e2 : (ps ++ #[rawInt ↑pos.line, rawInt ↑pos.col, Value.ref c']).toList = ps.toList ++ [rawInt pos.line, rawInt pos.col, .ref c'] := by simp
      rw [e2, this, hc pos', lookup_app]
      cases l.lookup (pos'.line, pos'.col) with
      | some v => rfl
      | none =>
        simp only [Option.map_none, List.lookup]
        by_cases q : (pos'.line, pos'.col) = (pos.line, pos.col)
        · have q1 := (Prod.mk.inj q).1
          have q2 := (Prod.mk.inj q).2
          simp [q1, q2]
        · have q' : ((pos'.line, pos'.col) == (pos.line, pos.col)) = false := by simpa using q
          rw [q']
          have : ¬ (((pos.line : Int) == pos'.line && (pos.col : Int) == pos'.col) = true) := by
            intro q2
            simp only [Bool.and_eq_true, beq_iff_eq] at q2
            exact q (Prod.ext (by dsimp only; omega) (by dsimp only; omega))
          rw [if_neg this]; rfl)
    have hH : HR c.h₀ c.L h' (hset (hset (hset H 385 (.tab (l ++ [((pos.line, pos.col), c')]))) c' (.code q)) f (.lam params body scope q c')) X := by
      refine ⟨_, N', fun b o' e' => ?_, fun p hp => ⟨.tail _ (.tail _ ?_), ?_⟩⟩
      · by_cases q1 : b = f
        · subst q1; rw [hset_self] at e'; cases e'; exact ⟨_, .head _, .lam ..⟩
        · rw [hset_ne q1] at e'
          by_cases q2 : b = c'
          · subst q2; rw [hset_self] at e'; cases e'; exact ⟨_, .tail _ (.head _), .code d1 d2⟩
          · rw [hset_ne q2] at e'
            by_cases q3 : b = 385
            · subst q3; rw [hset_self] at e'; cases e'; exact ⟨_, .tail _ (.tail _ (.head _)), rt⟩
            · rw [hset_ne q3] at e'
              obtain ⟨ob, hm, ho⟩ := g1 b o' e'
              exact ⟨ob, .tail _ (.tail _ (.tail _ (List.mem_filter.mpr ⟨hm, by simpa using q3⟩))), ho⟩
      · have : p.1 ≠ 385 := fun q => by have := (g2 p hp).2; rw [q, e] at this; cases this
        exact .tail _ (List.mem_filter.mpr ⟨(g2 p hp).1, by simpa using this⟩)
      · have : p.1 ≠ 385 := fun q => by have := (g2 p hp).2; rw [q, e] at this; cases this
        have hps := hall p (g2 p hp).1
        rw [hset_ne (Nat.ne_of_lt (Nat.lt_trans hps l2)), hset_ne (Nat.ne_of_lt hps), hset_ne this]
        exact (g2 p hp).2
    refine k _ _ m am _ F' M hH (h f _ ⟨l ++ [((pos.line, pos.col), c')], ?_, ?_⟩ hfn ?_ ⟨c', hset_self _ _ _, ?_⟩)
    · rw [hset_ne (Ne.symm hf5), hset_ne (Ne.symm hc5), hset_self]
    · intro x hx
      have : (hset (hset H 385 (.tab (l ++ [((pos.line, pos.col), c')]))) c' (.code q)) x.2 = some (.code q) ∧ x.2 ≠ f := by
        rcases List.mem_append.mp hx with hx | hx
        · have hxx := hl x hx
          have n1 : x.2 ≠ c' := fun q => by rw [q, hcn] at hxx; cases hxx
          have n2 : x.2 ≠ 385 := fun q => by rw [q, e] at hxx; cases hxx
          have n3 : x.2 ≠ f := fun q => by rw [q, hfn] at hxx; cases hxx
          exact ⟨by rw [hset_ne n1, hset_ne n2]; exact hxx, n3⟩
        · rcases List.mem_singleton.mp hx with rfl
          exact ⟨hset_self _ _ _, Ne.symm hfc⟩
      rw [hset_ne this.2]; exact this.1
    · intro a h5 ha
      have n1 : a ≠ f := fun q => ha (q ▸ hfn)
      have n2 : a ≠ c' := fun q => ha (q ▸ hcn)
      rw [hset_ne n1, hset_ne n2, hset_ne h5]
    · rw [hset_ne (Ne.symm hfc), hset_self]
  | some c' =>
    rw [hlk] at hcp
    obtain ⟨x, hx, rfl⟩ := mem_of_lookup hlk
    refine kla_hit (mg := c.mg) F N O.T O.C hcd hm ht hcp hcl fun f ctv h' tk F' N' lt => ?_
    have hb : ∀ b, H b ≠ none → b < f := fun b hb => by
      cases q : H b with
      | none => exact absurd q hb
      | some o => obtain ⟨ob, hm, _⟩ := g1 b o q; exact lt _ hm
    have hfn : H f = none := by
      cases q : H f with
      | none => rfl
      | some o => exact absurd (hb f (by rw [q]; simp)) (Nat.lt_irrefl _)
    have hne : ∀ {a}, H a ≠ none → a ≠ f := fun ha q => ha (q ▸ hfn)
    have hxx := hl x hx
    refine k _ _ m am (hset H f (.lam params body scope q x.2)) F' M ⟨_, N', fun b o' e' => ?_, fun p hp => ⟨.tail _ (g2 p hp).1, ?_⟩⟩ (h f _ ⟨l, ?_, fun y hy => ?_⟩ hfn (fun a _ ha => hset_ne (hne ha)) ⟨x.2, hset_self _ _ _, ?_⟩)
    · by_cases q1 : b = f
      · subst q1; rw [hset_self] at e'; cases e'; exact ⟨_, .head _, .lam ..⟩
      · rw [hset_ne q1] at e'
        obtain ⟨ob, hm, ho⟩ := g1 b o' e'
        exact ⟨ob, .tail _ hm, ho⟩
    · rw [hset_ne (Nat.ne_of_lt (lt p (g2 p hp).1))]; exact (g2 p hp).2
    · rw [hset_ne (hne (by rw [e]; simp))]; exact e
    · rw [hset_ne (hne (by rw [hl y hy]; simp))]; exact hl y hy
    · rw [hset_ne (hne (by rw [hxx]; simp))]; exact hxx
/-- the call of a lambda of one argument -/
theorem ci_lam {params : Arguments} {body : Expr} {scope : Scope} {q x : Str} {v : Value} {f : Addr} {need : Nat} {post : Value → AH → Prop} {Q : Value → AM → AH → Prop} (O : c.Ok w n) (hn : need < n) (hL : LamOk H f params body scope q)
    (hb : ∀ pm ctv c' v, bindArgs (kla_fn "<lambda>" q params body scope [] pm (.ref c') ctv) ⟨[v], []⟩ = pure [(x, v)])
    (hx : scope.names.lookup x = some .local) (hco : scope.isCoroutine = false) (hgen : scope.isGenerator = false) (hk : scope.kind = .function) (hcell : ∀ x ∈ scope.names, x.2 ≠ .cell)
    (h : ∀ (c : Cx) (ccd : Value), (fnCx c q scope f ccd []).Ok w need → Ev w (fnCx c q scope f ccd []) (fnCx c q scope f ccd []).env body [(x, v)] H fun r _ H' => ∃ H'', Sub H'' H' ∧ post r H'')
    (hq : ∀ r H', post r H' → Q r am H') : CallIs w c (.ref f) [v] am H Q := by
  intro vs' ea s m X P F M R k
  obtain ⟨v', rfl, rfl⟩ := lsv_one ea
  obtain ⟨c', e1, e2⟩ := hL
  obtain ⟨news, N, g1, g2⟩ := id R
  obtain ⟨of, hm, ho⟩ := g1 f _ e1
  obtain ⟨oc, hm2, ho2⟩ := g1 c' _ e2
  generalize qq : AObj.lam params body scope q c' = y at ho
  cases ho <;> cases qq
  rename_i pm ctv
  generalize qq : AObj.code q = y at ho2
  cases ho2 <;> cases qq
  rename_i vs t hd hv
  have hd' := O.d
  have hu := O.u
  refine wpAny_call ?_
  refine kla_code O.B F O.X N O.T rfl rfl O.k hm (codeRec_news N hm2 hd hv) (Nat.lt_of_le_of_lt (Nat.le_add_right _ _) hd') (hb pm ctv c' v') (fun y hy => by rcases List.mem_singleton.mp hy with rfl; exact hx) (fun g L' h₁ FG F' N' B' X' T' => ?_) hco hgen hk hcell
  have hst : ∀ b o, c.h₀.get? b = some o → g.get? b = some o := FG.keep
  let c1 : Cx := { c with dp := c.dp + 1, un := c.un + 3, outer := c.env :: c.outer, A₀ := c.A, h₀ := g, L := L' }
  let c2 : Cx := fnCx c1 q scope f (.ref c') []
  have O' : c2.Ok w need := ⟨by show c.dp + 1 + need < _; omega, by show c.un + 3 + 100 + 8 * need < _; omega, B', X', T', hk, O.C.keeps hst, sc_keeps O.S hst⟩
  exact wpAny_mono (h c1 (.ref c') O' _ _ X _ F' (And.intro (fun y u e => by
      rw [List.lookup_cons] at e
      split at e
      · rename_i q; have := eq_of_beq q; subst this; cases e; exact ⟨v', by simp, rfl⟩
      · cases e) M.2) ⟨news, N', g1, g2⟩
    fun r s' m' am' H' F2 M2 ⟨news2, N2, h3, h4⟩ ⟨H'', sub, q⟩ => leaveK_ F2 N2 fun F3 N3 => k _ s' m am H'' F3 ⟨M.1, M2.2⟩ (HR.drop sub ⟨news2, N3, h3, h4⟩) (hq _ _ q)) (fun _ _ x => x) fun _ _ y => y.elim
end
end Mine
end

section
open PySem PySem.W PySem.Spec PySem.Calls PyProof.Rows
set_option Elab.async false
set_option maxRecDepth 100000
set_option maxHeartbeats 8000000
namespace Mine
theorem fillC1 : (PySem.Challenge.rw_on0188_01 = PySem.Challenge.rw_on0188_01) ∧ hK = hK := by
  k_fill
  exact ⟨rfl, rfl⟩
section
variable {w : World} {n : Nat} {c : Cx} {env : Env} {am : AM} {H : AH}
theorem ci_len_sc {Q : Value → AM → AH → Prop} (O : c.Ok w n) (hz : c.ns.length < 2 ^ 60) (q : Q (.int c.ns.length 0) am H) : CallIs w c (.builtin "len") [.ref c.sc] am H Q := by
  intro vs' ea s m X P F M R k
  obtain ⟨a, rfl, ea1⟩ := lsv_one ea
  obtain rfl := sv_ref ea1
  obtain ⟨vs, il, hi⟩ := O.S
  have il' : s.heap.IsList c.sc vs.toArray := il.at fun o e => F.keep _ _ e
  have hl : vs.length = c.ns.length := by
    clear il il' q hz
    generalize c.ns = ns at hi
    induction hi with
    | nil => rfl
    | cons n t h ih => simp [ih]
  refine len_list il' ?_ (k _ _ m _ _ F M R ?_)
  · rw [List.size_toArray, hl]; omega
  · rw [List.size_toArray, hl]; exact q
theorem ints_at {vs : List Value} {ns : List Int} (h : IntsAre vs ns) : ∀ k, k < ns.length → ∃ i t, vs[k]? = some (.int i t) := by
  induction h with
  | nil => intro k hk; cases hk
  | cons n t h ih =>
    intro k hk
    cases k with
    | zero => exact ⟨n, t, rfl⟩
    | succ k => exact ih k (Nat.lt_of_succ_lt_succ hk)
theorem ev_sub_sc {value slice : Expr} {pos : Pos} {Q : Value → AM → AH → Prop} (O : c.Ok w n) (h : Ev w c env value am H fun o am H => Ev w c env slice am H fun i am H => o = .ref c.sc ∧ ∃ k : Nat, i = .int k 0 ∧ k < c.ns.length ∧ k < 1000 ∧ ∀ j : Int, Q (.int j 0) am H)
    (hs : ∀ a k u, subscripted slice false (.ref a) (.int k u) = operate [.ref a, .int k u] (getItem (.ref a) (.int k u)) := by intro _ _ _; with_unfolding_all rfl) : Ev w c env (.Subscript value slice pos) am H Q :=
  fun s m X P F M R k => Subscript_ (h s m X _ F M R fun o s1 m1 am1 H1 F1 M1 R1 h1 => h1 s1 m1 X _ F1 M1 R1 fun i s2 m2 am2 H2 F2 M2 R2 ⟨eo, kk, ei, hk, hk2, q⟩ => by
    obtain rfl := sv_ref eo
    obtain ⟨u, rfl⟩ := sv_int ei
    obtain ⟨vs, il, hi⟩ := O.S
    have il' : s2.heap.IsList c.sc vs.toArray := il.at fun o e => F2.keep _ _ e
    obtain ⟨i, t, hv⟩ := ints_at hi kk hk
    exact tail_any il'.typeIs slot_list_getitem.lookup (getItem_listL il' (Int.natCast_nonneg _) (by omega) (x := .int i t) (by simpa using hv) (k (.int i t) _ m2 _ _ F2 M2 R2 (q i))) (hs _ _ _))
theorem sub_l0 {a : Addr} {v : Value} {vs : List Value} (e : H a = some (.list (v :: vs))) : SubIs H (.ref a) (.int 0 0) v :=
  ⟨a, 0, 0, v :: vs, rfl, rfl, .inl e, by simp [seqIndex?], rfl, by decide, by decide⟩
theorem sub_l1 {a : Addr} {u v : Value} {vs : List Value} (e : H a = some (.list (u :: v :: vs))) : SubIs H (.ref a) (.int 1 0) v :=
  ⟨a, 1, 1, u :: v :: vs, rfl, rfl, .inl e, by simp [seqIndex?]; omega, rfl, by decide, by decide⟩
theorem sub_l {a : Addr} {v : Value} {vs : List Value} {k : Nat} (e : H a = some (.list vs)) (hk : vs[k]? = some v) (hz : vs.length ≤ 1000) : SubIs H (.ref a) (.int k 0) v := by
  have hlt : k < vs.length := (List.getElem?_eq_some_iff.mp hk).1
  have h0 : ¬ (k : Int) < 0 := Int.not_lt.mpr (Int.natCast_nonneg k)
  exact ⟨a, k, k, vs, rfl, rfl, .inl e, by simp [seqIndex?, hlt, h0], hk, by omega, by omega⟩
theorem sub_t {a : Addr} {v : Value} {vs : List Value} {k : Nat} (e : H a = some (.tuple vs)) (hk : vs[k]? = some v) (hz : vs.length ≤ 1000) : SubIs H (.ref a) (.int k 0) v := by
  have hlt : k < vs.length := (List.getElem?_eq_some_iff.mp hk).1
  have h0 : ¬ (k : Int) < 0 := Int.not_lt.mpr (Int.natCast_nonneg k)
  exact ⟨a, k, k, vs, rfl, rfl, .inr e, by simp [seqIndex?, hlt, h0], hk, by omega, by omega⟩
theorem sub_neg1 {a : Addr} {v : Value} {vs : List Value} (e : H a = some (.list (vs ++ [v]))) (hz : vs.length ≤ 1000) : SubIs H (.ref a) (.int (-1) 0) v :=
  ⟨a, -1, vs.length, vs ++ [v], rfl, rfl, .inl e, by simp [seqIndex?]; omega, by simp, by decide, by decide⟩
end
def SrcOk (H : AH) (l : Addr) : Prop := ∃ b m : Int, H l = some (.list [.int b 0, .int m 0]) ∧ 0 ≤ b ∧ 0 ≤ m ∧ m < 2147483647
theorem bits_small {a : Int} (h0 : 0 ≤ a) (h : a < 2147483648) : Builtin.Int.intBits a ≤ 64 := by
  unfold Builtin.Int.intBits
  split
  · exact Nat.zero_le _
  · rename_i q
    have hn : a.natAbs ≠ 0 := fun e => q (by simp; omega)
    have : a.natAbs.log2 < 31 := (Nat.log2_lt hn).mpr (by omega)
    omega
theorem mod_range (i : Int) {j : Nat} (h : 0 < j) : ∃ d : Nat, i.fmod j = d ∧ d < j := by
  have h1 := Int.emod_nonneg i (b := (j : Int)) (by omega)
  have h2 := Int.emod_lt_of_pos i (b := (j : Int)) (by omega)
  rw [Int.fmod_eq_emod_of_nonneg i (by omega)]
  exact ⟨(i % j).toNat, by omega, by omega⟩
theorem fdiv_nonneg {b : Int} {top : Nat} (hb : 0 ≤ b) : 0 ≤ b.fdiv top := Int.fdiv_nonneg hb (Int.natCast_nonneg _)
theorem sp_take {w : World} {H : AH} {l : Addr} {top : Nat} (hS : SrcOk H l) (h0 : 0 < top) (h1 : top < 1000) :
    Spec w (.ref 362) 2 H [.ref l, nv top] (fun r H' => ∃ d : Nat, d < top ∧ r = nv d ∧ ∃ o, H' = hset H l o ∧ SrcOk H' l) := by
  obtain ⟨b, m, e, hb, hm, hm2⟩ := hS
  have ht : (top : Int) ≠ 0 := by omega
  have htp : ∀ i : Int, Builtin.divisionGoesByPylong i (top : Int) = false := fun i => PyProof.noPylong_small (by omega)
  refine' Spec.of ?ho ?hcd ?hb ?hnm ?hco ?hgen ?hk ?hcell ?h
  case ho => k_is
  case hcd => k_is
  case hb => ((first | (with_reducible refine all0 ?_) | (with_reducible refine all1 ?_) | (with_reducible refine all2 ?_) | (with_reducible refine all3 ?_) | (with_reducible refine all4 ?_) | (with_reducible refine all5 ?_) | (with_reducible refine all6 ?_) | (with_reducible refine all7 ?_)); intros; exact BindsTo.of_eq rfl)
  case hnm => decide
  case hco => rfl
  case hgen => rfl
  case hk => rfl
  case hcell => decide
  try (conv in (occs := *) (pSub _) => whnf)
  try (conv in (occs := *) (pSco _) => whnf)
  try (conv in (occs := *) (pPar _) => whnf)
  intro c O
  refine ex_cons ?_
  refine st_if ?_
  refine tst_cmp ?_
  refine ev_sub ?_
  refine ev_loc (by assumption) rfl ?_
  refine ev_int ?_
  refine ⟨_, sub_l0 e, ?_⟩
  refine ev_int ?_
  with_reducible refine ⟨_, .gt, ?_⟩
  refine ite_b (fun hb' => ?_) (fun hb' => ?_)
  · refine ex_cons ?_
    refine st_assign (by assumption) ?_
    refine ev_bin ?_
    refine ev_call (by assumption) ?_
    (refine' ev_builtT (by assumption) ?zq1 boot_int ?_; (case zq1 => k_is))
    refine ⟨.type _, ?_⟩
    refine ar_cons ?_
    refine ev_sub ?_
    refine ev_loc (by assumption) rfl ?_
    refine ev_int ?_
    refine ⟨_, sub_l0 e, ?_⟩
    refine ar_nil ?_
    refine ci_int ?_
    refine ev_loc (by assumption) rfl ?_
    refine ⟨_, .mod _ _ ht, ?_⟩
    with_reducible refine next_next ?_
    refine ex_cons ?_
    refine st_setitem ?_
    refine ev_bin ?_
    refine ev_sub ?_
    refine ev_loc (by assumption) rfl ?_
    refine ev_int ?_
    refine ⟨_, sub_l0 e, ?_⟩
    refine ev_loc (by assumption) rfl ?_
    refine ⟨_, .div _ _ ht (htp _), ?_⟩
    refine ev_loc (by assumption) rfl ?_
    refine ev_int ?_
    refine ⟨l, 0, _, rfl, rfl, e, by simp, by simp, ?_⟩
    with_reducible refine next_next ?_
    refine ex_cons ?_
    refine st_return ?_
    refine ev_loc (by assumption) rfl ?_
    with_reducible refine next_ret ?_
    with_reducible refine next_ret ?_
    obtain ⟨d, e1, e2⟩ := mod_range b h0
    exact ⟨_, Sub.refl, d, e2, by rw [retOf, e1]; rfl, _, rfl, ⟨_, _, hset_self _ _ _, fdiv_nonneg hb, hm, hm2⟩⟩
  · refine ex_nil ?_
    with_reducible refine next_next ?_
    refine ex_cons ?_
    refine st_setitem ?_
    refine ev_bin ?_
    refine ev_call (by assumption) ?_
    (refine' ev_builtT (by assumption) ?zq1 boot_int ?_; (case zq1 => k_is))
    refine ⟨.type _, ?_⟩
    refine ar_cons ?_
    refine ev_bin ?_
    refine ev_bin ?_
    refine ev_sub ?_
    refine ev_loc (by assumption) rfl ?_
    refine ev_int ?_
    refine ⟨_, sub_l1 e, ?_⟩
    refine ev_int ?_
    refine ⟨_, .mul _ _ (IntMulOk.of_left (bits_small hm (by omega))), ?_⟩
    refine ev_int ?_
    refine ⟨_, .add _ _, ?_⟩
    refine ar_nil ?_
    refine ci_int ?_
    refine ev_int ?_
    refine ⟨_, .mod _ _ (by decide), ?_⟩
    refine ev_loc (by assumption) rfl ?_
    refine ev_int ?_
    refine ⟨l, 1, _, rfl, rfl, e, by simp, by simp, ?_⟩
    with_reducible refine next_next ?_
    refine ex_cons ?_
    refine st_return ?_
    refine ev_bin ?_
    refine ev_call (by assumption) ?_
    (refine' ev_builtT (by assumption) ?zq1 boot_int ?_; (case zq1 => k_is))
    refine ⟨.type _, ?_⟩
    refine ar_cons ?_
    refine ev_bin ?_
    refine ev_bin ?_
    refine ev_call (by assumption) ?_
    (refine' ev_builtT (by assumption) ?zq1 boot_int ?_; (case zq1 => k_is))
    refine ⟨.type _, ?_⟩
    refine ar_cons ?_
    refine ev_bin ?_
    refine ev_sub ?_
    refine ev_loc (by assumption) rfl ?_
    refine ev_int ?_
    obtain ⟨m2, em, hm3⟩ := mod_range (m * 39373 + 7) (j := 2147483647) (by decide)
    have em : Int.fmod (m * 39373 + 7) 2147483647 = (m2 : Int) := em
    rw [em]
    have e2 := hset_self H l (.list [.int b 0, .int m2 0])
    refine ⟨_, sub_l1 e2, ?_⟩
    refine ev_sub ?_
    refine ev_loc (by assumption) rfl ?_
    refine ev_int ?_
    refine ⟨_, sub_l1 e2, ?_⟩
    refine ⟨_, .mul _ _ (IntMulOk.of_left (bits_small (by omega) (by omega))), ?_⟩
    refine ar_nil ?_
    refine ci_int ?_
    refine ev_int ?_
    refine ⟨_, .mod _ _ (by decide), ?_⟩
    refine ev_int ?_
    refine ⟨_, .div _ _ (by decide) (PyProof.noPylong_small (by decide)), ?_⟩
    refine ar_nil ?_
    refine ci_int ?_
    refine ev_loc (by assumption) rfl ?_
    refine ⟨_, .mod _ _ ht, ?_⟩
    with_reducible refine next_ret ?_
    obtain ⟨d, e3, e4⟩ := mod_range (((m2 : Int) * m2).fmod 2147483629 |>.fdiv 32) h0
    exact ⟨_, Sub.refl, d, e4, by rw [retOf, e3]; rfl, _, rfl, ⟨_, _, e2, hb, by omega, by omega⟩⟩
theorem sp_one {w : World} {H : AH} {l a : Addr} {vs : List Value} (hS : SrcOk H l) (ha : H a = some (.list vs)) (hne : a ≠ l) (hz : 0 < vs.length ∧ vs.length < 1000) :
    Spec w (.ref 369) 3 H [.ref l, .ref a] (fun r H' => ∃ (d : Nat) (v : Value), vs[d]? = some v ∧ r = v ∧ ∃ o, H' = hset H l o ∧ SrcOk H' l) := by
  refine' Spec.of ?ho ?hcd ?hb ?hnm ?hco ?hgen ?hk ?hcell ?h
  case ho => k_is
  case hcd => k_is
  case hb => ((first | (with_reducible refine all0 ?_) | (with_reducible refine all1 ?_) | (with_reducible refine all2 ?_) | (with_reducible refine all3 ?_) | (with_reducible refine all4 ?_) | (with_reducible refine all5 ?_) | (with_reducible refine all6 ?_) | (with_reducible refine all7 ?_)); intros; exact BindsTo.of_eq rfl)
  case hnm => decide
  case hco => rfl
  case hgen => rfl
  case hk => rfl
  case hcell => decide
  try (conv in (occs := *) (pSub _) => whnf)
  try (conv in (occs := *) (pSco _) => whnf)
  try (conv in (occs := *) (pPar _) => whnf)
  intro c O
  refine ex_cons ?_
  refine st_return ?_
  refine ev_sub ?_
  refine ev_loc (by assumption) rfl ?_
  refine ev_call (by assumption) ?_
  (refine' ev_globF (by assumption) ?zq1 ?_; (case zq1 => k_is))
  refine ⟨.ref (by k_is), ?_⟩
  refine ar_cons ?_
  refine ev_loc (by assumption) rfl ?_
  refine ar_cons ?_
  refine ev_call (by assumption) ?_
  (refine' ev_builtF (by assumption) ?zq1 boot_len ?_; (case zq1 => k_is))
  refine ⟨.builtin _, ?_⟩
  refine ar_cons ?_
  refine ev_loc (by assumption) rfl ?_
  refine ar_nil ?_
  refine ci_len ha (by omega) ?_
  refine ar_nil ?_
  refine (sp_take hS hz.1 hz.2).use O (by decide) ?_
  rintro r H' ⟨d, hd, rfl, o, rfl, hS'⟩
  have hv : vs[d]? = some vs[d] := List.getElem?_eq_getElem hd
  refine ⟨_, sub_l (by rw [hset_ne hne]; exact ha) hv (by omega), ?_⟩
  with_reducible refine next_ret ?_
  exact ⟨_, Sub.refl, d, _, hv, rfl, o, rfl, hS'⟩
def SpecP (w : World) (sc : Addr) (ns : List Int) (f : Value) (need : Nat) (H : AH) (args : List Value) (post : Value → AH → Prop) : Prop :=
  ∀ (c : Cx), c.Ok w need → c.sc = sc → c.ns = ns → ∀ (args' : List Value) (s : Shared) (m : Str → Option Value) (X : List (Addr × Obj)) (R : Result → Shared → Prop),
    lsv args' = args → Fr c.h₀ c.L s.heap m → HR c.h₀ c.L s.heap H X → Sh c s →
    (∀ v s' H', Fr c.h₀ c.L s'.heap m → HR c.h₀ c.L s'.heap H' X → Sh c s' → post (sv v) H' → R (.ok (.ret v)) s') →
    codeAny (model lawProg w) c.A (.call f ⟨args', []⟩) R s
theorem SpecP.of {w : World} {sc : Addr} {ns : List Int} {need : Nat} {H : AH} {args : List Value} {post : Value → AH → Prop} {name qual : Str} {params : Arguments} {body : List Stmt} {scope : Scope} {dV kV doc pm cdv ct oc : Value} {an od : Option Addr} {osl : Array (Option Value)} {f : Addr}
    (ho : (hK w.params).lookup f = some ⟨oc, od, .func (fnOf name qual params body scope dV kV doc pm an cdv ct), osl⟩) (hcd : codeIn (hK w.params) cdv qual = true)
    (hb : ∀ (args' : List Value) s, args'.length = args.length → BindsTo s (fnOf name qual params body scope dV kV doc pm an cdv ct) ⟨args', []⟩ ((params.args.map (·.arg)).zip args')) (hnm : ∀ x ∈ params.args.map (·.arg), scope.names.lookup x = some .local)
    (hco : scope.isCoroutine = false) (hgen : scope.isGenerator = false) (hk : scope.kind = .function) (hcell : ∀ x ∈ scope.names, x.2 ≠ .cell)
    (h : ∀ c : Cx, c.sc = sc → c.ns = ns → (fnCx c qual scope f cdv []).Ok w need → Ex w (fnCx c qual scope f cdv []) (fnCx c qual scope f cdv []).env body (((params.args.map (·.arg)).zip args).reverse) H fun fl _ H' => ∃ H'', Sub H'' H' ∧ post (retOf fl) H'') : SpecP w sc ns (.ref f) (need + 1) H args post := by
  intro c O esc ens args' s m X R ea F HR' K r
  have B := hb args' s (by rw [← ea, lsv_length])
  have hl : ∀ y ∈ (params.args.map (·.arg)).zip args', scope.names.lookup y.1 = some .local := fun y hy => hnm _ (List.of_mem_zip hy).1
  have hz : ((params.args.map (·.arg)).zip args).reverse = ((params.args.map (·.arg)).zip args').reverse.map (fun y => (y.1, sv y.2)) := by
    rw [← ea, List.map_reverse]; congr 1; simp [lsv, List.zip_map_right]
  rw [hz] at h
  obtain ⟨news, N, h1, h2⟩ := id HR'
  have hd := O.d
  have hu := O.u
  refine callX_plain (cl := []) O.B F N O.T.nolimit rfl rfl O.k ((O.X.keeps F.keep) _ _ ho) rfl (codeRec_of (O.X.keeps F.keep) hcd) (Nat.lt_of_le_of_lt (Nat.le_add_right _ _) hd) B hl (fun g L' h₁ FG F' N' B' st _ => ?_) hcell hco hgen hk
  let c' : Cx := fnCx { c with dp := c.dp + 1, un := c.un + 3, outer := c.env :: c.outer, A₀ := c.A, h₀ := g, L := L' } qual scope f cdv []
  have O' : c'.Ok w need := ⟨by show c.dp + 1 + need < _; omega, by show c.un + 3 + 100 + 8 * need < _; omega, B', O.X.keeps st, O.T.keeps st, hk, O.C.keeps st, sc_keeps O.S st⟩
  exact wpAny_mono (h c' esc ens O' _ _ X (fun fl s' => LeaveK c.h₀ c.L m g R (match fl with | .ret v => v | _ => .none) s') F' ⟨fun x v e => lookup_map e, K⟩ ⟨news, N', h1, h2⟩
    fun fl s' m' am' H' F2 M2 ⟨news2, N2, h3, h4⟩ ⟨H'', sub, q⟩ => leaveK_ F2 N2 fun F3 N3 => r _ s' H'' F3 (HR.drop sub ⟨news2, N3, h3, h4⟩) M2.2 (by cases fl <;> exact q)) (fun _ _ x => x) fun _ _ y => y.elim


theorem SpecP.use {w : World} {n : Nat} {c : Cx} {am : AM} {H : AH} {f : Value} {need : Nat} {vs : List Value} {post : Value → AH → Prop} {Q : Value → AM → AH → Prop} (O : c.Ok w n) (h : SpecP w c.sc c.ns f need H vs post) (hn : need ≤ n) (hq : ∀ v H', post v H' → Q v am H') : CallIs w c f vs am H Q :=
  fun vs' ea s m X P F M R k => wpAny_call (h c (O.le hn) rfl rfl vs' s m X _ ea F R M.2 fun v s' H' F' R' K' q => k _ _ m am H' F' ⟨M.1, K'⟩ R' (hq _ _ q))
theorem sp_pool {w : World} {H : AH} {sc : Addr} {ns : List Int} (hz : ns.length ≤ 63) :
    SpecP w sc ns (.ref 355) 2 H [.ref sc, .int 0 0] (fun r H' => ∃ a o, r = .ref a ∧ H a = none ∧ H' = hset H a o ∧ SrcOk H' a) := by
  refine' SpecP.of ?ho ?hcd ?hb ?hnm ?hco ?hgen ?hk ?hcell ?h
  case ho => k_is
  case hcd => k_is
  case hb => ((first | (with_reducible refine all0 ?_) | (with_reducible refine all1 ?_) | (with_reducible refine all2 ?_) | (with_reducible refine all3 ?_) | (with_reducible refine all4 ?_) | (with_reducible refine all5 ?_) | (with_reducible refine all6 ?_) | (with_reducible refine all7 ?_)); intros; exact BindsTo.of_eq rfl)
  case hnm => decide
  case hco => rfl
  case hgen => rfl
  case hk => rfl
  case hcell => decide
  try (conv in (occs := *) (pSub _) => whnf)
  try (conv in (occs := *) (pSco _) => whnf)
  try (conv in (occs := *) (pPar _) => whnf)
  intro c esc ens O
  have O' := O
  subst esc ens
  refine ex_cons ?_
  refine st_assign (by assumption) ?_
  refine ev_int ?_
  with_reducible refine next_next ?_
  refine ex_cons ?_
  refine st_if ?_
  refine tst_cmp ?_
  refine ev_loc (by assumption) rfl ?_
  refine ev_call (by assumption) ?_
  (refine' ev_builtF (by assumption) ?zq1 boot_len ?_; (case zq1 => k_is))
  refine ⟨.builtin _, ?_⟩
  refine ar_cons ?_
  refine ev_loc (by assumption) rfl ?_
  refine ar_nil ?_
  refine ci_len_sc O' (by show c.ns.length < _; omega) ?_
  with_reducible refine ⟨_, .lt, ?_⟩
  refine ite_b (fun hb' => ?_) (fun hb' => ?_)
  · refine ex_cons ?_
    refine st_assign O' ?_
    refine ev_sub_sc O' ?_
    refine ev_loc (by assumption) rfl ?_
    refine ev_loc (by assumption) rfl ?_
    refine ⟨rfl, 0, rfl, by simpa using hb', by decide, fun j => ?_⟩
    with_reducible refine next_next ?_
    refine ex_nil ?_
    with_reducible refine next_next ?_
    refine ex_cons ?_
    refine st_assign (by assumption) ?_
    refine ev_call (by assumption) ?_
    (refine' ev_builtF (by assumption) ?zq1 boot_max ?_; (case zq1 => k_is))
    refine ⟨.builtin _, ?_⟩
    refine ar_cons ?_
    refine ev_call (by assumption) ?_
    (refine' ev_builtT (by assumption) ?zq1 boot_int ?_; (case zq1 => k_is))
    refine ⟨.type _, ?_⟩
    refine ar_cons ?_
    refine ev_loc (by assumption) rfl ?_
    refine ar_nil ?_
    refine ci_int ?_
    refine ar_cons ?_
    refine ev_call (by assumption) ?_
    (refine' ev_builtT (by assumption) ?zq1 boot_int ?_; (case zq1 => k_is))
    refine ⟨.type _, ?_⟩
    refine ar_cons ?_
    refine ev_bin ?_
    refine ev_neg ?_
    refine ev_int ?_
    refine ⟨_, rfl, ?_⟩
    refine ev_loc (by assumption) rfl ?_
    refine ⟨_, .sub _ _, ?_⟩
    refine ar_nil ?_
    refine ci_int ?_
    refine ar_nil ?_
    refine ci_max ?_
    obtain ⟨g, hg⟩ : ∃ g : Nat, (if (-1 : Int) - j > j then -1 - j else j) = (g : Int) := ⟨(if (-1 : Int) - j > j then -1 - j else j).toNat, by split <;> omega⟩
    rw [hg]
    with_reducible refine next_next ?_
    refine ex_cons ?_
    refine st_assign (by assumption) ?_
    refine ev_bin ?_
    refine ev_call (by assumption) ?_
    (refine' ev_builtT (by assumption) ?zq1 boot_int ?_; (case zq1 => k_is))
    refine ⟨.type _, ?_⟩
    refine ar_cons ?_
    refine ev_bin ?_
    refine ev_bin ?_
    refine ev_bin ?_
    refine ev_bin ?_
    refine ev_bin ?_
    refine ev_call (by assumption) ?_
    (refine' ev_builtT (by assumption) ?zq1 boot_int ?_; (case zq1 => k_is))
    refine ⟨.type _, ?_⟩
    refine ar_cons ?_
    refine ev_loc (by assumption) rfl ?_
    refine ar_nil ?_
    refine ci_int ?_
    refine ev_int ?_
    refine ⟨_, .mod _ _ (by decide), ?_⟩
    refine ev_bin ?_
    refine ev_bin ?_
    refine ev_int ?_
    refine ev_loc (by assumption) rfl ?_
    refine ⟨_, .mul _ _ (IntMulOk.of_left (by decide)), ?_⟩
    refine ev_loc (by assumption) rfl ?_
    refine ⟨_, .mul _ _ (IntMulOk.of_left (by decide)), ?_⟩
    refine ⟨_, .add _ _, ?_⟩
    refine ev_bin ?_
    refine ev_int ?_
    refine ev_loc (by assumption) rfl ?_
    refine ⟨_, .mul _ _ (IntMulOk.of_left (by decide)), ?_⟩
    refine ⟨_, .add _ _, ?_⟩
    refine ev_int ?_
    refine ⟨_, .add _ _, ?_⟩
    refine ev_int ?_
    refine ⟨_, .mul _ _ (IntMulOk.of_right (by decide)), ?_⟩
    refine ar_nil ?_
    refine ci_int ?_
    refine ev_int ?_
    refine ⟨_, .mod _ _ (by decide), ?_⟩
    with_reducible refine next_next ?_
    refine ex_cons ?_
    refine st_return ?_
    refine ev_list ?_
    refine ar_cons ?_
    refine ev_bin ?_
    refine ev_loc (by assumption) rfl ?_
    refine ev_call (by assumption) ?_
    (refine' ev_builtT (by assumption) ?zq1 boot_int ?_; (case zq1 => k_is))
    refine ⟨.type _, ?_⟩
    refine ar_cons ?_
    refine ev_cmp ?_
    refine ev_loc (by assumption) rfl ?_
    refine ev_bin ?_
    refine ev_int ?_
    refine ev_int ?_
    refine ⟨_, .pow _ _ (by decide) (by decide) (by decide), ?_⟩
    with_reducible refine ⟨_, .ge, ?_⟩
    refine ar_nil ?_
    refine ci_intb ?_
    obtain ⟨b, hb⟩ : ∃ b : Nat, (if (decide ((10 : Int) ^ (18 : Int).toNat ≤ g)) = true then (1 : Int) else 0) = (b : Int) ∧ b ≤ 1 := by
      split
      · exact ⟨1, rfl, by decide⟩
      · exact ⟨0, rfl, by decide⟩
    rw [hb.1]
    refine ⟨_, .mul _ _ (IntMulOk.of_right (bits_small (by omega) (by omega))), ?_⟩
    refine ar_cons ?_
    refine ev_loc (by assumption) rfl ?_
    refine ar_nil ?_
    refine ⟨by simp, fun a h1 h2 => ?_⟩
    with_reducible refine next_ret ?_
    obtain ⟨m2, em, hm3⟩ := mod_range (((g : Int).fmod 2147483629 + 7919 * 0 * 0 + 31 * 0 + 17) * 48271) (j := 2147483647) (by decide)
    have em : Int.fmod (((g : Int).fmod 2147483629 + 7919 * 0 * 0 + 31 * 0 + 17) * 48271) 2147483647 = (m2 : Int) := em
    exact ⟨_, Sub.refl, a, _, rfl, h1, rfl, _, _, hset_self _ _ _, Int.mul_nonneg (by omega) (by omega), by omega, by omega⟩
  · refine ex_nil ?_
    with_reducible refine next_next ?_
    refine ex_cons ?_
    refine st_assign (by assumption) ?_
    refine ev_call (by assumption) ?_
    (refine' ev_builtF (by assumption) ?zq1 boot_max ?_; (case zq1 => k_is))
    refine ⟨.builtin _, ?_⟩
    refine ar_cons ?_
    refine ev_call (by assumption) ?_
    (refine' ev_builtT (by assumption) ?zq1 boot_int ?_; (case zq1 => k_is))
    refine ⟨.type _, ?_⟩
    refine ar_cons ?_
    refine ev_loc (by assumption) rfl ?_
    refine ar_nil ?_
    refine ci_int ?_
    refine ar_cons ?_
    refine ev_call (by assumption) ?_
    (refine' ev_builtT (by assumption) ?zq1 boot_int ?_; (case zq1 => k_is))
    refine ⟨.type _, ?_⟩
    refine ar_cons ?_
    refine ev_bin ?_
    refine ev_neg ?_
    refine ev_int ?_
    refine ⟨_, rfl, ?_⟩
    refine ev_loc (by assumption) rfl ?_
    refine ⟨_, .sub _ _, ?_⟩
    refine ar_nil ?_
    refine ci_int ?_
    refine ar_nil ?_
    refine ci_max ?_
    obtain ⟨g, hg⟩ : ∃ g : Nat, (if (-1 : Int) - 0 > 0 then -1 - 0 else 0) = (g : Int) := ⟨(if (-1 : Int) - 0 > 0 then -1 - 0 else 0).toNat, by split <;> omega⟩
    rw [hg]
    with_reducible refine next_next ?_
    refine ex_cons ?_
    refine st_assign (by assumption) ?_
    refine ev_bin ?_
    refine ev_call (by assumption) ?_
    (refine' ev_builtT (by assumption) ?zq1 boot_int ?_; (case zq1 => k_is))
    refine ⟨.type _, ?_⟩
    refine ar_cons ?_
    refine ev_bin ?_
    refine ev_bin ?_
    refine ev_bin ?_
    refine ev_bin ?_
    refine ev_bin ?_
    refine ev_call (by assumption) ?_
    (refine' ev_builtT (by assumption) ?zq1 boot_int ?_; (case zq1 => k_is))
    refine ⟨.type _, ?_⟩
    refine ar_cons ?_
    refine ev_loc (by assumption) rfl ?_
    refine ar_nil ?_
    refine ci_int ?_
    refine ev_int ?_
    refine ⟨_, .mod _ _ (by decide), ?_⟩
    refine ev_bin ?_
    refine ev_bin ?_
    refine ev_int ?_
    refine ev_loc (by assumption) rfl ?_
    refine ⟨_, .mul _ _ (IntMulOk.of_left (by decide)), ?_⟩
    refine ev_loc (by assumption) rfl ?_
    refine ⟨_, .mul _ _ (IntMulOk.of_left (by decide)), ?_⟩
    refine ⟨_, .add _ _, ?_⟩
    refine ev_bin ?_
    refine ev_int ?_
    refine ev_loc (by assumption) rfl ?_
    refine ⟨_, .mul _ _ (IntMulOk.of_left (by decide)), ?_⟩
    refine ⟨_, .add _ _, ?_⟩
    refine ev_int ?_
    refine ⟨_, .add _ _, ?_⟩
    refine ev_int ?_
    refine ⟨_, .mul _ _ (IntMulOk.of_right (by decide)), ?_⟩
    refine ar_nil ?_
    refine ci_int ?_
    refine ev_int ?_
    refine ⟨_, .mod _ _ (by decide), ?_⟩
    with_reducible refine next_next ?_
    refine ex_cons ?_
    refine st_return ?_
    refine ev_list ?_
    refine ar_cons ?_
    refine ev_bin ?_
    refine ev_loc (by assumption) rfl ?_
    refine ev_call (by assumption) ?_
    (refine' ev_builtT (by assumption) ?zq1 boot_int ?_; (case zq1 => k_is))
    refine ⟨.type _, ?_⟩
    refine ar_cons ?_
    refine ev_cmp ?_
    refine ev_loc (by assumption) rfl ?_
    refine ev_bin ?_
    refine ev_int ?_
    refine ev_int ?_
    refine ⟨_, .pow _ _ (by decide) (by decide) (by decide), ?_⟩
    with_reducible refine ⟨_, .ge, ?_⟩
    refine ar_nil ?_
    refine ci_intb ?_
    obtain ⟨b, hb⟩ : ∃ b : Nat, (if (decide ((10 : Int) ^ (18 : Int).toNat ≤ g)) = true then (1 : Int) else 0) = (b : Int) ∧ b ≤ 1 := by
      split
      · exact ⟨1, rfl, by decide⟩
      · exact ⟨0, rfl, by decide⟩
    rw [hb.1]
    refine ⟨_, .mul _ _ (IntMulOk.of_right (bits_small (by omega) (by omega))), ?_⟩
    refine ar_cons ?_
    refine ev_loc (by assumption) rfl ?_
    refine ar_nil ?_
    refine ⟨by simp, fun a h1 h2 => ?_⟩
    with_reducible refine next_ret ?_
    obtain ⟨m2, em, hm3⟩ := mod_range (((g : Int).fmod 2147483629 + 7919 * 0 * 0 + 31 * 0 + 17) * 48271) (j := 2147483647) (by decide)
    have em : Int.fmod (((g : Int).fmod 2147483629 + 7919 * 0 * 0 + 31 * 0 + 17) * 48271) 2147483647 = (m2 : Int) := em
    exact ⟨_, Sub.refl, a, _, rfl, h1, rfl, _, _, hset_self _ _ _, Int.mul_nonneg (by omega) (by omega), by omega, by omega⟩
end Mine
end

section
open PySem PySem.W PySem.Spec PySem.Calls PyProof.Rows
set_option Elab.async false
set_option maxRecDepth 100000
set_option maxHeartbeats 8000000
namespace Mine
theorem fillC2 : (PySem.Challenge.rw_on0188_01 = PySem.Challenge.rw_on0188_01) ∧ hK = hK := by
  k_fill
  exact ⟨rfl, rfl⟩
/-- a node without its addresses -/
structure PN where
  kind : Str
  name : Str
  uri : Str
  loc : Str
  value : Str
  par : Option Nat
  ch : List Nat
  ats : List Nat
def NodeA.pn (x : NodeA) : PN := ⟨x.kind, x.name, x.uri, x.loc, x.value, x.par, x.ch, x.ats⟩
def TreeA.pns (t : TreeA) : List PN := t.ns.map NodeA.pn
theorem TreeA.pns_len (t : TreeA) : t.pns.length = t.ns.length := by simp [TreeA.pns]
theorem TreeA.pns_at {t : TreeA} {i : Nat} {p : PN} (h : t.pns[i]? = some p) : ∃ x, t.ns[i]? = some x ∧ x.pn = p := by
  simp [TreeA.pns] at h; exact h
theorem ne_of_none {H : AH} {a b : Addr} (h : H a = none) (h' : H b ≠ none) : b ≠ a := fun e => h' (e ▸ h)
theorem some_ne {H : AH} {a : Addr} {o : AObj} (h : H a = some o) : H a ≠ none := by rw [h]; simp
section
variable {H H' : AH} {t : TreeA} {x x' : NodeA} {i : Nat}
theorem NodeIs.live (h : NodeIs H x) : ∀ a ∈ x.addrs, ∃ o, H a = some o ∧ ∀ vs, o ≠ .tuple vs := by
  intro a ha
  simp only [NodeA.addrs, List.mem_cons, List.mem_nil_iff, or_false] at ha
  rcases ha with rfl | rfl | rfl | rfl
  · exact ⟨_, h.a, fun _ e => nomatch e⟩
  · exact ⟨_, h.d, fun _ e => nomatch e⟩
  · exact ⟨_, h.c, fun _ e => nomatch e⟩
  · exact ⟨_, h.t, fun _ e => nomatch e⟩
theorem NodeIs.frame (h : NodeIs H x) (hk : ∀ a ∈ x.addrs, H' a = H a) : NodeIs H' x :=
  ⟨(hk _ (by simp [NodeA.addrs])).trans h.a, (hk _ (by simp [NodeA.addrs])).trans h.d, (hk _ (by simp [NodeA.addrs])).trans h.c, (hk _ (by simp [NodeA.addrs])).trans h.t⟩
theorem TreeA.mem_addrs {a : Addr} : a ∈ t.addrs ↔ a = t.T ∨ a = t.d ∨ a = t.rl ∨ ∃ x ∈ t.ns, a ∈ x.addrs := by
  simp [TreeA.addrs, List.mem_flatMap]
theorem IsTree.live (h : IsTree H t) : ∀ a ∈ t.addrs, ∃ o, H a = some o ∧ ∀ vs, o ≠ .tuple vs := by
  intro a ha
  rcases TreeA.mem_addrs.mp ha with rfl | rfl | rfl | ⟨x, hx, ha⟩
  · exact ⟨_, h.T, fun _ e => nomatch e⟩
  · exact ⟨_, h.d, fun _ e => nomatch e⟩
  · exact ⟨_, h.rl, fun _ e => nomatch e⟩
  · exact (h.ns x hx).live a ha
theorem IsTree.not_none (h : IsTree H t) {a : Addr} (ha : H a = none) : a ∉ t.addrs := fun q => by
  obtain ⟨o, e, _⟩ := h.live a q; rw [ha] at e; cases e
theorem IsTree.not_tuple (h : IsTree H t) {a : Addr} {vs : List Value} (ha : H a = some (.tuple vs)) : a ∉ t.addrs := fun q => by
  obtain ⟨o, e, n⟩ := h.live a q; rw [ha] at e; cases e; exact n vs rfl
theorem IsTree.frame (h : IsTree H t) (hk : ∀ a ∈ t.addrs, H' a = H a) : IsTree H' t where
  T := (hk _ (by simp [TreeA.addrs])).trans h.T
  d := (hk _ (by simp [TreeA.addrs])).trans h.d
  rl := (hk _ (by simp [TreeA.addrs])).trans h.rl
  ns := fun x hx => (h.ns x hx).frame fun a ha => hk a (TreeA.mem_addrs.mpr (.inr (.inr (.inr ⟨x, hx, ha⟩))))
  nd := h.nd
  csz := h.csz
  sz := h.sz
theorem IsTree.new (h : IsTree H t) {a : Addr} {o : AObj} (ha : H a = none) : IsTree (hset H a o) t :=
  h.frame fun b hb => hset_ne fun q => h.not_none ha (q ▸ hb)
theorem IsTree.off (h : IsTree H t) {a : Addr} {o : AObj} (ha : a ∉ t.addrs) : IsTree (hset H a o) t :=
  h.frame fun b hb => hset_ne fun q => ha (q ▸ hb)
theorem map_set {α β : Type} {f : α → β} {l : List α} {i : Nat} {x y : α} (e : l[i]? = some x) (h : f y = f x) : (l.set i y).map f = l.map f := by
  apply List.ext_getElem?
  intro j
  simp only [List.getElem?_map, List.getElem?_set]
  by_cases q : i = j
  · subst q
    obtain ⟨hl, rfl⟩ := List.getElem?_eq_some_iff.mp e
    simp [hl, h]
  · simp [q]
theorem flat_set {β : Type} {f : NodeA → List β} {l : List NodeA} {i : Nat} {x y : NodeA} (e : l[i]? = some x) (h : f y = f x) : (l.set i y).flatMap f = l.flatMap f := by
  rw [List.flatMap_def, List.flatMap_def, map_set e h]
theorem IsTree.apart (h : IsTree H t) {j : Nat} {y : NodeA} (e : t.ns[i]? = some x) (e' : t.ns[j]? = some y) (hij : i ≠ j) : ∀ a ∈ x.addrs, a ∉ y.addrs := by
  have nd := h.nd
  have hp : (t.ns.flatMap NodeA.addrs).Pairwise (· ≠ ·) := by
    have := nd
    unfold TreeA.addrs at this
    exact (List.pairwise_cons.mp (List.pairwise_cons.mp (List.pairwise_cons.mp this).2).2).2
  have h2 := (List.pairwise_flatMap.mp hp).2
  rw [List.pairwise_iff_getElem] at h2
  obtain ⟨li, ei⟩ := List.getElem?_eq_some_iff.mp e
  obtain ⟨lj, ej⟩ := List.getElem?_eq_some_iff.mp e'
  intro a ha hb
  rcases Nat.lt_or_gt_of_ne hij with l | l
  · exact h2 i j li lj l a (ei ▸ ha) a (ej ▸ hb) rfl
  · exact h2 j i lj li l a (ej ▸ hb) a (ei ▸ ha) rfl
theorem IsTree.top_ne (h : IsTree H t) (e : x ∈ t.ns) : t.T ∉ x.addrs ∧ t.d ∉ x.addrs ∧ t.rl ∉ x.addrs ∧ t.T ≠ t.rl ∧ t.d ≠ t.rl := by
  have nd := h.nd
  unfold TreeA.addrs at nd
  obtain ⟨n1, nd⟩ := List.pairwise_cons.mp nd
  obtain ⟨n2, nd⟩ := List.pairwise_cons.mp nd
  obtain ⟨n3, nd⟩ := List.pairwise_cons.mp nd
  have m : ∀ {a}, a ∈ x.addrs → a ∈ t.ns.flatMap NodeA.addrs := fun ha => List.mem_flatMap.mpr ⟨x, e, ha⟩
  exact ⟨fun q => n1 _ (.tail _ (.tail _ (m q))) rfl, fun q => n2 _ (.tail _ (m q)) rfl, fun q => n3 _ (m q) rfl, n1 _ (.tail _ (.head _)), n2 _ (.head _)⟩
theorem IsTree.rl_ne (h : IsTree H t) : t.T ≠ t.rl ∧ t.d ≠ t.rl := by
  have nd := h.nd
  unfold TreeA.addrs at nd
  obtain ⟨n1, nd⟩ := List.pairwise_cons.mp nd
  obtain ⟨n2, nd⟩ := List.pairwise_cons.mp nd
  exact ⟨n1 _ (.tail _ (.head _)), n2 _ (.head _)⟩
theorem IsTree.upd (h : IsTree H t) (e : t.ns[i]? = some x) (ha : x'.addrs = x.addrs) (hN : NodeIs H' x') (hk : ∀ a ∈ t.addrs, a ∉ x.addrs → H' a = H a)
    (hz : x'.ch.length ≤ t.ns.length ∧ x'.ats.length ≤ t.ns.length) : IsTree H' { t with ns := t.ns.set i x' } where
  T := (hk _ (by simp [TreeA.addrs]) (h.top_ne (List.mem_of_getElem? e)).1).trans h.T
  d := (hk _ (by simp [TreeA.addrs]) (h.top_ne (List.mem_of_getElem? e)).2.1).trans h.d
  rl := by
    have e1 : x'.a = x.a := by simp [NodeA.addrs] at ha; exact ha.1
    have : (t.ns.set i x').map (fun x => Value.ref x.a) = t.ns.map fun x => Value.ref x.a := map_set e (by simp [e1])
    show H' t.rl = some (.list ((t.ns.set i x').map fun x => Value.ref x.a))
    rw [this]
    exact (hk _ (by simp [TreeA.addrs]) (h.top_ne (List.mem_of_getElem? e)).2.2.1).trans h.rl
  ns := fun y hy => by
    obtain ⟨j, hj⟩ := List.mem_iff_getElem?.mp hy
    rw [List.getElem?_set] at hj
    split at hj
    · split at hj
      · cases hj; exact hN
      · cases hj
    · rename_i hij
      exact (h.ns y (List.mem_of_getElem? hj)).frame fun a ha' => hk a (TreeA.mem_addrs.mpr (.inr (.inr (.inr ⟨y, List.mem_of_getElem? hj, ha'⟩)))) (h.apart hj e (Ne.symm hij) a ha')
  nd := by
    show (t.T :: t.d :: t.rl :: (t.ns.set i x').flatMap NodeA.addrs).Nodup
    rw [flat_set e ha]; exact h.nd
  csz := fun y hy => by
    show y.ch.length ≤ (t.ns.set i x').length ∧ y.ats.length ≤ (t.ns.set i x').length
    rw [List.length_set]
    rcases List.mem_or_eq_of_mem_set hy with hy | rfl
    · exact h.csz y hy
    · exact hz
  sz := by show (t.ns.set i x').length ≤ 200; rw [List.length_set]; exact h.sz
theorem IsTree.push (h : IsTree H t) (hx : NodeIs H' x) (hr : H' t.rl = some (.list (t.ns.map (fun x => .ref x.a) ++ [.ref x.a]))) (hk : ∀ a ∈ t.addrs, a ≠ t.rl → H' a = H a) (nd : x.addrs.Nodup)
    (fr : ∀ a ∈ x.addrs, a ∉ t.addrs) (hz : t.ns.length < 200) (hc : x.ch = [] ∧ x.ats = []) : IsTree H' { t with ns := t.ns ++ [x] } where
  T := (hk _ (by simp [TreeA.addrs]) h.rl_ne.1).trans h.T
  d := (hk _ (by simp [TreeA.addrs]) h.rl_ne.2).trans h.d
  rl := by show H' t.rl = some (.list ((t.ns ++ [x]).map fun x => .ref x.a)); rw [hr]; simp
  ns := fun y hy => by
    rcases List.mem_append.mp hy with hy | hy
    · exact (h.ns y hy).frame fun a ha => hk a (TreeA.mem_addrs.mpr (.inr (.inr (.inr ⟨y, hy, ha⟩)))) fun q => (h.top_ne hy).2.2.1 (q ▸ ha)
    · rcases List.mem_singleton.mp hy with rfl; exact hx
  nd := by
    show (t.T :: t.d :: t.rl :: (t.ns ++ [x]).flatMap NodeA.addrs).Nodup
    have : (t.T :: t.d :: t.rl :: (t.ns ++ [x]).flatMap NodeA.addrs) = t.addrs ++ x.addrs := by simp [TreeA.addrs]
    rw [this]
    exact List.nodup_append.mpr ⟨h.nd, nd, fun a ha b hb q => fr b hb (q ▸ ha)⟩
  csz := fun y hy => by
    show y.ch.length ≤ (t.ns ++ [x]).length ∧ y.ats.length ≤ (t.ns ++ [x]).length
    rw [List.length_append]
    rcases List.mem_append.mp hy with hy | hy
    · have := h.csz y hy; omega
    · rcases List.mem_singleton.mp hy with rfl; rw [hc.1, hc.2]; simp
  sz := by show (t.ns ++ [x]).length ≤ 200; simp; omega
end
structure TStep (H : AH) (t : TreeA) (H' : AH) (t' : TreeA) : Prop where
  i : IsTree H' t'
  k : ∀ a, a ∉ t.addrs → H a ≠ none → H' a = H a
  f : ∀ a ∈ t'.addrs, a ∈ t.addrs ∨ H a = none
  T : t'.T = t.T
  o : ∀ (i : Nat) (x : NodeA), t.ns[i]? = some x → ∃ y, t'.ns[i]? = some y ∧ y.addrs = x.addrs
theorem TStep.off {H H' : AH} {t t' : TreeA} (S : TStep H t H' t') {a : Addr} (ha : a ∉ t.addrs) (h : H a ≠ none) : a ∉ t'.addrs := fun q => (S.f a q).elim ha h
theorem TStep.trans {H H' H'' : AH} {t t' t'' : TreeA} (S : TStep H t H' t') (S' : TStep H' t' H'' t'') : TStep H t H'' t'' where
  i := S'.i
  k := fun a ha h => by
    have e := S.k a ha h
    rw [S'.k a (S.off ha h) (by rw [e]; exact h), e]
  f := fun a ha => by
    rcases S'.f a ha with q | q
    · exact S.f a q
    · by_cases q2 : a ∈ t.addrs
      · exact .inl q2
      · refine .inr ?_
        cases e : H a with
        | none => rfl
        | some o => rw [S.k a q2 (some_ne e), e] at q; cases q
  T := S'.T.trans S.T
  o := fun i x e => by
    obtain ⟨y, e1, e2⟩ := S.o i x e
    obtain ⟨z, e3, e4⟩ := S'.o i y e1
    exact ⟨z, e3, e4.trans e2⟩
theorem set_o {l : List NodeA} {i : Nat} {x x' : NodeA} (e : l[i]? = some x) (ha : x'.addrs = x.addrs) : ∀ (j : Nat) (y : NodeA), l[j]? = some y → ∃ z, (l.set i x')[j]? = some z ∧ z.addrs = y.addrs := fun j y ej => by
  rw [List.getElem?_set]
  by_cases q : i = j
  · subst q
    rw [e] at ej; cases ej
    have := (List.getElem?_eq_some_iff.mp e).1
    exact ⟨x', by simp [this], ha⟩
  · exact ⟨y, by simp [q, ej], rfl⟩
theorem TStep.refl {H : AH} {t : TreeA} (h : IsTree H t) : TStep H t H t := ⟨h, fun _ _ _ => rfl, fun _ ha => .inl ha, rfl, fun _ x e => ⟨x, e, rfl⟩⟩
theorem so_rows (w : World) : SetOk w 344 "rows" := by (refine' ⟨?g, ?d, ?f, ?n⟩; (case g => k_is); (case d => k_is); (case f => k_is); (case n => k_is))
theorem so_kind (w : World) : SetOk w 155 "kind" := by (refine' ⟨?g, ?d, ?f, ?n⟩; (case g => k_is); (case d => k_is); (case f => k_is); (case n => k_is))
theorem so_name (w : World) : SetOk w 155 "name" := by (refine' ⟨?g, ?d, ?f, ?n⟩; (case g => k_is); (case d => k_is); (case f => k_is); (case n => k_is))
theorem so_uri (w : World) : SetOk w 155 "uri" := by (refine' ⟨?g, ?d, ?f, ?n⟩; (case g => k_is); (case d => k_is); (case f => k_is); (case n => k_is))
theorem so_local (w : World) : SetOk w 155 "local" := by (refine' ⟨?g, ?d, ?f, ?n⟩; (case g => k_is); (case d => k_is); (case f => k_is); (case n => k_is))
theorem so_value (w : World) : SetOk w 155 "value" := by (refine' ⟨?g, ?d, ?f, ?n⟩; (case g => k_is); (case d => k_is); (case f => k_is); (case n => k_is))
theorem so_children (w : World) : SetOk w 155 "children" := by (refine' ⟨?g, ?d, ?f, ?n⟩; (case g => k_is); (case d => k_is); (case f => k_is); (case n => k_is))
theorem so_attributes (w : World) : SetOk w 155 "attributes" := by (refine' ⟨?g, ?d, ?f, ?n⟩; (case g => k_is); (case d => k_is); (case f => k_is); (case n => k_is))
theorem so_namespaces (w : World) : SetOk w 155 "namespaces" := by (refine' ⟨?g, ?d, ?f, ?n⟩; (case g => k_is); (case d => k_is); (case f => k_is); (case n => k_is))
end Mine
end

section
open PySem PySem.W PySem.Spec PySem.Calls PyProof.Rows
set_option Elab.async false
set_option maxRecDepth 100000
set_option maxHeartbeats 8000000
namespace Mine
theorem fillC3 : (PySem.Challenge.rw_on0188_01 = PySem.Challenge.rw_on0188_01) ∧ hK = hK := by
  k_fill
  exact ⟨rfl, rfl⟩
structure InitSt (H Hk : AH) (x dx C : Addr) (fs : List (Str × Value)) : Prop where
  e1 : Hk x = some (.inst C dx)
  e2 : Hk dx = some (.attrs fs)
  ne : x ≠ dx
  k : ∀ a, a ≠ dx → H a ≠ none → Hk a = H a
theorem InitSt.set {H Hk : AH} {x dx C : Addr} {fs fs' : List (Str × Value)} (S : InitSt H Hk x dx C fs) : InitSt H (hset Hk dx (.attrs fs')) x dx C fs' :=
  ⟨by rw [hset_ne S.ne]; exact S.e1, hset_self _ _ _, S.ne, fun a h1 h2 => by rw [hset_ne h1]; exact S.k a h1 h2⟩
theorem InitSt.new {H Hk : AH} {x dx C a : Addr} {o : AObj} {fs : List (Str × Value)} (S : InitSt H Hk x dx C fs) (ha : Hk a = none) : InitSt H (hset Hk a o) x dx C fs :=
  ⟨by rw [hset_ne (ne_of_none ha (some_ne S.e1))]; exact S.e1, by rw [hset_ne (ne_of_none ha (some_ne S.e2))]; exact S.e2, S.ne, fun b h1 h2 => by
    have e := S.k b h1 h2
    rw [hset_ne (ne_of_none ha (by rw [e]; exact h2)), e]⟩
theorem InitSt.none {H Hk : AH} {x dx C a : Addr} {fs : List (Str × Value)} (S : InitSt H Hk x dx C fs) (ha : Hk a = none) : H a = none := by
  cases e : H a with
  | none => rfl
  | some o =>
    have : a ≠ dx := fun q => by rw [q, S.e2] at ha; cases ha
    rw [S.k a this (some_ne e), e] at ha; cases ha
theorem InitSt.set' {H Hk H2 : AH} {x dx C : Addr} {fs fs' : List (Str × Value)} (S : InitSt H Hk x dx C fs) (hq : hset Hk dx (.attrs fs') = H2) : InitSt H H2 x dx C fs' := hq ▸ S.set
theorem InitSt.new' {H Hk H2 : AH} {x dx C a : Addr} {o : AObj} {fs : List (Str × Value)} (S : InitSt H Hk x dx C fs) (ha : Hk a = Option.none) (hq : hset Hk a o = H2) : InitSt H H2 x dx C fs := hq ▸ S.new ha
theorem InitSt.dne {H Hk : AH} {x dx C a : Addr} {fs : List (Str × Value)} (S : InitSt H Hk x dx C fs) (ha : Hk a = Option.none) : a ≠ dx := fun q => by rw [q, S.e2] at ha; cases ha
theorem hq_self {H H2 : AH} {a : Addr} {o : AObj} (hq : hset H a o = H2) : H2 a = some o := hq ▸ hset_self _ _ _
theorem hq_keep {H H2 : AH} {a b : Addr} {o o' : AObj} (hq : hset H a o = H2) (h : H b = some o') (hne : b ≠ a) : H2 b = some o' := by rw [← hq, hset_ne hne]; exact h
theorem hq_new {H H2 : AH} {a b : Addr} {o o' : AObj} (hq : hset H a o = H2) (h : H b = some o') (hn : H a = none) : H2 b = some o' := hq_keep hq h fun q => by rw [q, hn] at h; cases h
theorem sp_row_init {w : World} {H : AH} {x dx : Addr} {kind name uri loc value : Str} {par : Option Nat} (e1 : H x = some (.inst 155 dx)) (e2 : H dx = some (.attrs [])) (ne : x ≠ dx) :
    Spec w (.ref 152) 1 H [.ref x, .str kind 0, .str name 0, .str uri 0, .str loc 0, .str value 0, oval par] (fun r H' => r = .none ∧ ∃ c t ns, H c = none ∧ H t = none ∧ c ≠ t ∧
      InitSt H H' x dx 155 (NodeA.fields ⟨x, dx, c, t, ns, kind, name, uri, loc, value, par, [], []⟩) ∧ H' c = some (.list []) ∧ H' t = some (.list [])) := by
  have S : InitSt H H x dx 155 [] := ⟨e1, e2, ne, fun _ _ _ => rfl⟩
  refine' Spec.of ?ho ?hcd ?hb ?hnm ?hco ?hgen ?hk ?hcell ?h
  case ho => k_is
  case hcd => k_is
  case hb => ((first | (with_reducible refine all0 ?_) | (with_reducible refine all1 ?_) | (with_reducible refine all2 ?_) | (with_reducible refine all3 ?_) | (with_reducible refine all4 ?_) | (with_reducible refine all5 ?_) | (with_reducible refine all6 ?_) | (with_reducible refine all7 ?_)); intros; exact BindsTo.of_eq rfl)
  case hnm => decide
  case hco => rfl
  case hgen => rfl
  case hk => rfl
  case hcell => decide
  try (conv in (occs := *) (pSub _) => whnf)
  try (conv in (occs := *) (pSco _) => whnf)
  try (conv in (occs := *) (pPar _) => whnf)
  intro c O
  refine ex_cons ?_
  refine st_setattr (by assumption) ?_
  refine ev_loc (by assumption) rfl ?_
  refine ev_loc (by assumption) rfl ?_
  refine ⟨_, _, _, _, rfl, S.e1, S.e2, so_kind w, Nat.le_of_ble_eq_true rfl, ?_⟩
  generalize hq : hset _ dx _ = Hn
  replace S := S.set' hq
  clear hq
  with_reducible refine next_next ?_
  refine ex_cons ?_
  refine st_setattr (by assumption) ?_
  refine ev_loc (by assumption) rfl ?_
  refine ev_loc (by assumption) rfl ?_
  refine ⟨_, _, _, _, rfl, S.e1, S.e2, so_name w, Nat.le_of_ble_eq_true rfl, ?_⟩
  generalize hq : hset _ dx _ = Hn
  replace S := S.set' hq
  clear hq
  with_reducible refine next_next ?_
  refine ex_cons ?_
  refine st_setattr (by assumption) ?_
  refine ev_loc (by assumption) rfl ?_
  refine ev_loc (by assumption) rfl ?_
  refine ⟨_, _, _, _, rfl, S.e1, S.e2, so_uri w, Nat.le_of_ble_eq_true rfl, ?_⟩
  generalize hq : hset _ dx _ = Hn
  replace S := S.set' hq
  clear hq
  with_reducible refine next_next ?_
  refine ex_cons ?_
  refine st_setattr (by assumption) ?_
  refine ev_loc (by assumption) rfl ?_
  refine ev_loc (by assumption) rfl ?_
  refine ⟨_, _, _, _, rfl, S.e1, S.e2, so_local w, Nat.le_of_ble_eq_true rfl, ?_⟩
  generalize hq : hset _ dx _ = Hn
  replace S := S.set' hq
  clear hq
  with_reducible refine next_next ?_
  refine ex_cons ?_
  refine st_setattr (by assumption) ?_
  refine ev_loc (by assumption) rfl ?_
  refine ev_loc (by assumption) rfl ?_
  refine ⟨_, _, _, _, rfl, S.e1, S.e2, so_value w, Nat.le_of_ble_eq_true rfl, ?_⟩
  generalize hq : hset _ dx _ = Hn
  replace S := S.set' hq
  clear hq
  with_reducible refine next_next ?_
  refine ex_cons ?_
  refine st_setattr (by assumption) ?_
  refine ev_loc (by assumption) rfl ?_
  refine ev_loc (by assumption) rfl ?_
  refine ⟨_, _, _, _, rfl, S.e1, S.e2, so_parent w, Nat.le_of_ble_eq_true rfl, ?_⟩
  generalize hq : hset _ dx _ = Hn
  replace S := S.set' hq
  clear hq
  with_reducible refine next_next ?_
  refine ex_cons ?_
  refine st_setattr (by assumption) ?_
  refine ev_list ?_
  refine ar_nil ?_
  refine ⟨by simp, fun c hc _ => ?_⟩
  have cn := S.none hc
  have cd := S.dne hc
  generalize hq : hset _ c _ = Hn
  replace S := S.new' hc hq
  have cL := hq_self hq
  clear hq
  refine ev_loc (by assumption) rfl ?_
  refine ⟨_, _, _, _, rfl, S.e1, S.e2, so_children w, Nat.le_of_ble_eq_true rfl, ?_⟩
  generalize hq : hset _ dx _ = Hn
  replace S := S.set' hq
  replace cL := hq_keep hq cL cd
  clear hq
  with_reducible refine next_next ?_
  refine ex_cons ?_
  refine st_setattr (by assumption) ?_
  refine ev_list ?_
  refine ar_nil ?_
  refine ⟨by simp, fun t ht _ => ?_⟩
  have tn := S.none ht
  have ct : c ≠ t := fun q => by rw [← q, cL] at ht; cases ht
  have td := S.dne ht
  generalize hq : hset _ t _ = Hn
  replace S := S.new' ht hq
  have tL := hq_self hq
  replace cL := hq_new hq cL ht
  clear hq
  refine ev_loc (by assumption) rfl ?_
  refine ⟨_, _, _, _, rfl, S.e1, S.e2, so_attributes w, Nat.le_of_ble_eq_true rfl, ?_⟩
  generalize hq : hset _ dx _ = Hn
  replace S := S.set' hq
  replace cL := hq_keep hq cL cd
  replace tL := hq_keep hq tL td
  clear hq
  with_reducible refine next_next ?_
  refine ex_cons ?_
  refine st_setattr (by assumption) ?_
  refine ev_list ?_
  refine ar_nil ?_
  refine ⟨by simp, fun u hu _ => ?_⟩
  have un := S.none hu
  have ud := S.dne hu
  generalize hq : hset _ u _ = Hn
  replace S := S.new' hu hq
  have uL := hq_self hq
  replace cL := hq_new hq cL hu
  replace tL := hq_new hq tL hu
  clear hq
  refine ev_loc (by assumption) rfl ?_
  refine ⟨_, _, _, _, rfl, S.e1, S.e2, so_namespaces w, Nat.le_of_ble_eq_true rfl, ?_⟩
  generalize hq : hset _ dx _ = Hn
  replace S := S.set' hq
  replace cL := hq_keep hq cL cd
  replace tL := hq_keep hq tL td
  replace uL := hq_keep hq uL ud
  clear hq
  with_reducible refine next_next ?_
  refine ex_nil ?_
  exact ⟨_, Sub.refl, rfl, c, t, u, cn, tn, ct, S, cL, tL⟩
end Mine
end

section
open PySem PySem.W PySem.Spec PySem.Calls PyProof.Rows
set_option Elab.async false
set_option maxRecDepth 100000
set_option maxHeartbeats 8000000
namespace Mine
theorem fillC4 : (PySem.Challenge.rw_on0188_01 = PySem.Challenge.rw_on0188_01) ∧ hK = hK := by
  k_fill
  exact ⟨rfl, rfl⟩
def NewRow (H : AH) (t : TreeA) (p : PN) (r : Value) (H' : AH) : Prop := r = nv t.ns.length ∧ ∃ t', TStep H t H' t' ∧ t'.pns = t.pns ++ [p]
theorem ci_NodeRow {w : World} {n : Nat} {c : Cx} {am : AM} {H : AH} {kind name uri loc value : Str} {par : Option Nat} {Q : Value → AM → AH → Prop} (O : c.Ok w n) (hn : 1 < n)
    (hQ : ∀ (y : NodeA) H', y.pn = ⟨kind, name, uri, loc, value, par, [], []⟩ → NodeIs H' y → y.addrs.Nodup → (∀ a ∈ y.addrs, H a = none) → (∀ a, H a ≠ none → H' a = H a) → Q (.ref y.a) am H') :
    CallIs w c (.ref 155) [.str kind 0, .str name 0, .str uri 0, .str loc 0, .str value 0, oval par] am H Q := by
  refine ci_class (need := 1) (fI := 152) (post := fun x H' => ∃ y : NodeA, y.a = x ∧ y.pn = ⟨kind, name, uri, loc, value, par, [], []⟩ ∧ NodeIs H' y ∧ y.addrs.Nodup ∧ (∀ a ∈ y.addrs, H a = none) ∧ (∀ a, H a ≠ none → H' a = H a)) O hn (by k_is) (by k_is) (by k_is) (fun x dx h1 h2 h3 h4 => ?_) ?_
  · refine (sp_row_init (hset_self _ _ _) (by rw [hset_ne (Nat.ne_of_lt h4)]; exact hset_self _ _ _) (Nat.ne_of_gt h4)).mono ?_
    rintro v H' ⟨rfl, c1, t1, u1, hc, ht, ct, S, cL, tL⟩
    have k0 : ∀ a, H a ≠ none → hset (hset H dx (.attrs [])) x (.inst 155 dx) a = H a := fun a ha => by
      rw [hset_ne (ne_of_none h2 ha), hset_ne (ne_of_none h1 ha)]
    have nn : ∀ {a}, hset (hset H dx (.attrs [])) x (.inst 155 dx) a = none → H a = none ∧ a ≠ x ∧ a ≠ dx := fun {a} ha => by
      have q1 : a ≠ x := fun q => by rw [q, hset_self] at ha; cases ha
      rw [hset_ne q1] at ha
      have q2 : a ≠ dx := fun q => by rw [q, hset_self] at ha; cases ha
      rw [hset_ne q2] at ha
      exact ⟨ha, q1, q2⟩
    obtain ⟨c0, cx, cd⟩ := nn hc
    obtain ⟨t0, tx, td⟩ := nn ht
    refine ⟨rfl, ⟨x, dx, c1, t1, u1, kind, name, uri, loc, value, par, [], []⟩, rfl, rfl, ⟨S.e1, S.e2, cL, tL⟩, ?_, ?_, fun a ha => ?_⟩
    · simp [NodeA.addrs, ct, Ne.symm cx, Ne.symm tx, Ne.symm cd, Ne.symm td, Nat.ne_of_gt h4]
    · intro a ha
      simp only [NodeA.addrs, List.mem_cons, List.mem_nil_iff, or_false] at ha
      rcases ha with rfl | rfl | rfl | rfl
      · exact h2
      · exact h1
      · exact c0
      · exact t0
    · rw [S.k a (ne_of_none h1 ha) (by rw [k0 a ha]; exact ha), k0 a ha]
  · rintro x H' ⟨y, rfl, h1, h2, h3, h4, h5⟩
    exact hQ y H' h1 h2 h3 h4 h5
theorem sp_new_row {w : World} {H : AH} {t : TreeA} {kind name uri loc value : Str} {par : Option Nat} (h : IsTree H t) (hz : t.ns.length < 200) :
    Spec w (.ref 180) 3 H [.ref t.T, .str kind 0, .str name 0, .str uri 0, .str loc 0, .str value 0, oval par] (NewRow H t ⟨kind, name, uri, loc, value, par, [], []⟩) := by
  refine' Spec.of ?ho ?hcd ?hb ?hnm ?hco ?hgen ?hk ?hcell ?h
  case ho => k_is
  case hcd => k_is
  case hb => ((first | (with_reducible refine all0 ?_) | (with_reducible refine all1 ?_) | (with_reducible refine all2 ?_) | (with_reducible refine all3 ?_) | (with_reducible refine all4 ?_) | (with_reducible refine all5 ?_) | (with_reducible refine all6 ?_) | (with_reducible refine all7 ?_)); intros; exact BindsTo.of_eq rfl)
  case hnm => decide
  case hco => rfl
  case hgen => rfl
  case hk => rfl
  case hcell => decide
  try (conv in (occs := *) (pSub _) => whnf)
  try (conv in (occs := *) (pSco _) => whnf)
  try (conv in (occs := *) (pPar _) => whnf)
  intro c O
  refine ex_cons ?_
  refine st_expr ?_
  refine ev_meth (by assumption) ?_
  refine ev_attr (by assumption) ?_
  refine ev_loc (by assumption) rfl ?_
  refine ⟨_, h.rows, ?_⟩
  refine ⟨_, GetM.list h.rl slot_list_append, ?_⟩
  refine ⟨.builtin _, ?_⟩
  refine ar_cons ?_
  refine ev_call (by assumption) ?_
  (refine' ev_globF (by assumption) ?zq1 ?_; (case zq1 => k_is))
  refine ⟨.ref (by k_is), ?_⟩
  refine ar_cons ?_
  refine ev_loc (by assumption) rfl ?_
  refine ar_cons ?_
  refine ev_loc (by assumption) rfl ?_
  refine ar_cons ?_
  refine ev_loc (by assumption) rfl ?_
  refine ar_cons ?_
  refine ev_loc (by assumption) rfl ?_
  refine ar_cons ?_
  refine ev_loc (by assumption) rfl ?_
  refine ar_cons ?_
  refine ev_loc (by assumption) rfl ?_
  refine ar_nil ?_
  refine ci_NodeRow O (by decide) ?_
  intro y H1 hp hN hnd hfr hk
  have kt : ∀ a ∈ t.addrs, H1 a = H a := fun a ha => hk a (by obtain ⟨o, e, _⟩ := h.live a ha; exact some_ne e)
  have h1 := h.frame kt
  refine ar_nil ?_
  refine ci_append h1.rl (by simp; omega) ?_
  have hoff : ∀ a ∈ y.addrs, a ∉ t.addrs := fun a ha => h.not_none (hfr a ha)
  have hrl : t.rl ∈ t.addrs := by simp [TreeA.addrs]
  have h2 : IsTree (hset H1 t.rl (.list (t.ns.map (fun x => Value.ref x.a) ++ [.ref y.a]))) { t with ns := t.ns ++ [y] } :=
    h.push (hN.frame fun a ha => hset_ne fun q => hoff a ha (q ▸ hrl)) (hset_self _ _ _) (fun a ha hne => by rw [hset_ne hne]; exact kt a ha) hnd hoff hz ⟨congrArg PN.ch hp, congrArg PN.ats hp⟩
  generalize hq : hset H1 t.rl _ = H2 at h2
  with_reducible refine next_next ?_
  refine ex_cons ?_
  refine st_return ?_
  refine ev_bin ?_
  refine ev_call (by assumption) ?_
  (refine' ev_builtF (by assumption) ?zq1 boot_len ?_; (case zq1 => k_is))
  refine ⟨.builtin _, ?_⟩
  refine ar_cons ?_
  refine ev_attr (by assumption) ?_
  refine ev_loc (by assumption) rfl ?_
  refine ⟨_, h2.rows, ?_⟩
  refine ar_nil ?_
  refine ci_len h2.rl (by simp; omega) ?_
  refine ev_int ?_
  refine ⟨_, .sub _ _, ?_⟩
  with_reducible refine next_ret ?_
  refine ⟨_, Sub.refl, ?_, { t with ns := t.ns ++ [y] }, ⟨h2, fun a ha hn => ?_, fun a ha => ?_, rfl, fun j z ej => ⟨z, by show (t.ns ++ [y])[j]? = _; rw [List.getElem?_append_left (List.getElem?_eq_some_iff.mp ej).1]; exact ej, rfl⟩⟩, ?_⟩
  · show Value.int _ 0 = Value.int _ 0
    congr 1
    simp
  · rw [← hq, hset_ne (fun q => ha (by rw [q]; exact hrl)), hk a hn]
  · rcases TreeA.mem_addrs.mp ha with q | q | q | ⟨x, hx, q⟩
    · exact .inl (TreeA.mem_addrs.mpr (.inl q))
    · exact .inl (TreeA.mem_addrs.mpr (.inr (.inl q)))
    · exact .inl (TreeA.mem_addrs.mpr (.inr (.inr (.inl q))))
    · rcases List.mem_append.mp hx with hx | hx
      · exact .inl (TreeA.mem_addrs.mpr (.inr (.inr (.inr ⟨x, hx, q⟩))))
      · rcases List.mem_singleton.mp hx with rfl; exact .inr (hfr a q)
  · simp [TreeA.pns, hp]
end Mine
end

section
open PySem PySem.W PySem.Spec PySem.Calls PyProof.Rows
set_option Elab.async false
set_option maxRecDepth 100000
set_option maxHeartbeats 8000000
namespace Mine
theorem fillC5 : (PySem.Challenge.rw_on0188_01 = PySem.Challenge.rw_on0188_01) ∧ hK = hK := by
  k_fill
  exact ⟨rfl, rfl⟩
theorem ci_Tree {w : World} {n : Nat} {c : Cx} {am : AM} {H : AH} {Q : Value → AM → AH → Prop} (O : c.Ok w n) (hn : 1 < n)
    (hQ : ∀ (t : TreeA) H', t.ns = [] → IsTree H' t → (∀ a ∈ t.addrs, H a = none) → (∀ a, H a ≠ none → H' a = H a) → Q (.ref t.T) am H') :
    CallIs w c (.ref 344) [] am H Q := by
  refine ci_class (need := 1) (fI := 173) (post := fun x H' => ∃ t : TreeA, t.T = x ∧ t.ns = [] ∧ IsTree H' t ∧ (∀ a ∈ t.addrs, H a = none) ∧ (∀ a, H a ≠ none → H' a = H a)) O hn (by k_is) (by k_is) (by k_is) (fun x dx h1 h2 h3 h4 => ?_) ?_
  · have S : InitSt (hset (hset H dx (.attrs [])) x (.inst 344 dx)) (hset (hset H dx (.attrs [])) x (.inst 344 dx)) x dx 344 [] := ⟨hset_self _ _ _, by rw [hset_ne (Nat.ne_of_lt h4)]; exact hset_self _ _ _, Nat.ne_of_gt h4, fun _ _ _ => rfl⟩
    have k0 : ∀ a, H a ≠ none → hset (hset H dx (.attrs [])) x (.inst 344 dx) a = H a := fun a ha => by
      rw [hset_ne (ne_of_none h2 ha), hset_ne (ne_of_none h1 ha)]
    have nn : ∀ {a}, hset (hset H dx (.attrs [])) x (.inst 344 dx) a = none → H a = none ∧ a ≠ x ∧ a ≠ dx := fun {a} ha => by
      have q1 : a ≠ x := fun q => by rw [q, hset_self] at ha; cases ha
      rw [hset_ne q1] at ha
      have q2 : a ≠ dx := fun q => by rw [q, hset_self] at ha; cases ha
      rw [hset_ne q2] at ha
      exact ⟨ha, q1, q2⟩
    generalize hset (hset H dx (.attrs [])) x (.inst 344 dx) = H0 at *
    refine' Spec.of ?ho ?hcd ?hb ?hnm ?hco ?hgen ?hk ?hcell ?h
    case ho => k_is
    case hcd => k_is
    case hb => ((first | (with_reducible refine all0 ?_) | (with_reducible refine all1 ?_) | (with_reducible refine all2 ?_) | (with_reducible refine all3 ?_) | (with_reducible refine all4 ?_) | (with_reducible refine all5 ?_) | (with_reducible refine all6 ?_) | (with_reducible refine all7 ?_)); intros; exact BindsTo.of_eq rfl)
    case hnm => decide
    case hco => rfl
    case hgen => rfl
    case hk => rfl
    case hcell => decide
    try (conv in (occs := *) (pSub _) => whnf)
    try (conv in (occs := *) (pSco _) => whnf)
    try (conv in (occs := *) (pPar _) => whnf)
    intro c O
    refine ex_cons ?_
    refine st_setattr (by assumption) ?_
    refine ev_list ?_
    refine ar_nil ?_
    refine ⟨by simp, fun c hc _ => ?_⟩
    have cd := S.dne hc
    obtain ⟨c0, cx, cdx⟩ := nn hc
    generalize hq : hset _ c _ = Hn
    replace S := S.new' hc hq
    have cL := hq_self hq
    clear hq
    refine ev_loc (by assumption) rfl ?_
    refine ⟨_, _, _, _, rfl, S.e1, S.e2, so_rows w, Nat.le_of_ble_eq_true rfl, ?_⟩
    generalize hq : hset _ dx _ = Hn
    replace S := S.set' hq
    replace cL := hq_keep hq cL cd
    clear hq
    with_reducible refine next_next ?_
    refine ex_nil ?_
    refine ⟨_, Sub.refl, rfl, ⟨x, dx, c, []⟩, rfl, rfl, ⟨S.e1, S.e2, cL, fun _ h => (nomatch h), ?_, fun _ h => (nomatch h), Nat.zero_le _⟩, ?_, fun a ha => ?_⟩
    · simp [TreeA.addrs, Ne.symm cx, Ne.symm cdx, Nat.ne_of_gt h4]
    · intro a ha
      simp only [TreeA.addrs, List.flatMap_nil, List.mem_cons, List.mem_nil_iff, or_false] at ha
      rcases ha with rfl | rfl | rfl
      · exact h2
      · exact h1
      · exact c0
    · rw [S.k a (ne_of_none h1 ha) (by rw [k0 a ha]; exact ha), k0 a ha]
  · rintro x H' ⟨t, rfl, h1, h2, h3, h4⟩
    exact hQ t H' h1 h2 h3 h4
theorem sp_new_root {w : World} {H : AH} {t : TreeA} (h : IsTree H t) (hz : t.ns.length < 200) :
    Spec w (.ref 194) 4 H [.ref t.T] (NewRow H t ⟨"root", "", "", "", "", none, [], []⟩) := by
  refine' Spec.of ?ho ?hcd ?hb ?hnm ?hco ?hgen ?hk ?hcell ?h
  case ho => k_is
  case hcd => k_is
  case hb => ((first | (with_reducible refine all0 ?_) | (with_reducible refine all1 ?_) | (with_reducible refine all2 ?_) | (with_reducible refine all3 ?_) | (with_reducible refine all4 ?_) | (with_reducible refine all5 ?_) | (with_reducible refine all6 ?_) | (with_reducible refine all7 ?_)); intros; exact BindsTo.of_eq rfl)
  case hnm => decide
  case hco => rfl
  case hgen => rfl
  case hk => rfl
  case hcell => decide
  try (conv in (occs := *) (pSub _) => whnf)
  try (conv in (occs := *) (pSco _) => whnf)
  try (conv in (occs := *) (pPar _) => whnf)
  intro c O
  refine ex_cons ?_
  refine st_return ?_
  refine ev_meth (by assumption) ?_
  refine ev_loc (by assumption) rfl ?_
  refine ⟨_, h.meth O (mo_new_row w), ?_⟩
  refine ⟨.ref (by k_is), ?_⟩
  refine ar_cons ?_
  refine ev_str ?_
  refine ar_cons ?_
  refine ev_str ?_
  refine ar_cons ?_
  refine ev_str ?_
  refine ar_cons ?_
  refine ev_str ?_
  refine ar_cons ?_
  refine ev_str ?_
  refine ar_cons ?_
  refine ev_none ?_
  refine ar_nil ?_
  refine (sp_new_row (par := none) h hz).use O (by decide) ?_
  intro r H' hr
  with_reducible refine next_ret ?_
  exact ⟨_, Sub.refl, hr⟩
theorem TStep.at {H H' : AH} {t t' : TreeA} {p : PN} (S : TStep H t H' t') (e : t'.pns = t.pns ++ [p]) {i : Nat} {x : NodeA} (hx : t.ns[i]? = some x) : ∃ y, t'.ns[i]? = some y ∧ y.pn = x.pn ∧ y.addrs = x.addrs := by
  have h1 : t.pns[i]? = some x.pn := by simp [TreeA.pns, hx]
  have hlt : i < t.pns.length := (List.getElem?_eq_some_iff.mp h1).1
  have : t'.pns[i]? = some x.pn := by rw [e, List.getElem?_append_left hlt]; exact h1
  obtain ⟨y, e1, e2⟩ := TreeA.pns_at this
  obtain ⟨z, e3, e4⟩ := S.o i x hx
  rw [e1] at e3; cases e3
  exact ⟨y, e1, e2, e4⟩
def AddRow (H : AH) (t : TreeA) (i : Nat) (x p : PN) (r : Value) (H' : AH) : Prop := r = nv t.ns.length ∧ ∃ t', TStep H t H' t' ∧ t'.pns = t.pns.set i { x with ch := x.ch ++ [t.ns.length] } ++ [p]
theorem sp_add_child {w : World} {H : AH} {t : TreeA} {i : Nat} {x : NodeA} {kind name uri loc value : Str} (h : IsTree H t) (hz : t.ns.length < 200) (e : t.ns[i]? = some x) (hk : x.kind = "root" ∨ x.kind = "element") :
    Spec w (.ref 201) 4 H [.ref t.T, nv i, .str kind 0, .str name 0, .str uri 0, .str loc 0, .str value 0] (AddRow H t i x.pn ⟨kind, name, uri, loc, value, some i, [], []⟩) := by
  have hn := h.ns x (List.mem_of_getElem? e)
  have hlt : i < t.ns.length := (List.getElem?_eq_some_iff.mp e).1
  refine' Spec.of ?ho ?hcd ?hb ?hnm ?hco ?hgen ?hk ?hcell ?h
  case ho => k_is
  case hcd => k_is
  case hb => ((first | (with_reducible refine all0 ?_) | (with_reducible refine all1 ?_) | (with_reducible refine all2 ?_) | (with_reducible refine all3 ?_) | (with_reducible refine all4 ?_) | (with_reducible refine all5 ?_) | (with_reducible refine all6 ?_) | (with_reducible refine all7 ?_)); intros; exact BindsTo.of_eq rfl)
  case hnm => decide
  case hco => rfl
  case hgen => rfl
  case hk => rfl
  case hcell => decide
  try (conv in (occs := *) (pSub _) => whnf)
  try (conv in (occs := *) (pSco _) => whnf)
  try (conv in (occs := *) (pPar _) => whnf)
  intro c O
  refine ex_cons ?_
  refine st_if ?_
  refine tst_and ?_
  refine tst_cmp ?_
  refine ev_loc (by assumption) rfl ?_
  refine ev_none ?_
  with_reducible refine ⟨_, .isnt, ?_⟩
  refine ite_isT rfl ?_
  refine tst_and ?_
  refine tst_cmp ?_
  refine ev_attr (by assumption) ?_
  refine ev_meth (by assumption) ?_
  refine ev_loc (by assumption) rfl ?_
  refine ⟨_, h.meth O (mo_row w), ?_⟩
  refine ⟨.ref (by k_is), ?_⟩
  refine ar_cons ?_
  refine ev_loc (by assumption) rfl ?_
  refine ar_nil ?_
  refine (sp_row w h e).use O (by decide) ?_
  rintro _ _ ⟨rfl, rfl⟩
  refine ⟨_, ⟨_, _, _, _, rfl, hn.a, hn.d, ao_kind w, rfl, rfl⟩, ?_⟩
  (refine' ev_globF (by assumption) ?zq1 ?_; (case zq1 => k_is))
  refine ⟨_, .ninK O (by k_is) (r := true) (by rcases hk with q | q <;> rw [q] <;> rfl), ?_⟩
  refine ite_isF rfl ?_
  refine ite_f ?_
  refine ex_nil ?_
  with_reducible refine next_next ?_
  refine ex_cons ?_
  refine st_assign (by assumption) ?_
  refine ev_meth (by assumption) ?_
  refine ev_loc (by assumption) rfl ?_
  refine ⟨_, h.meth O (mo_new_row w), ?_⟩
  refine ⟨.ref (by k_is), ?_⟩
  refine ar_cons ?_
  refine ev_loc (by assumption) rfl ?_
  refine ar_cons ?_
  refine ev_loc (by assumption) rfl ?_
  refine ar_cons ?_
  refine ev_loc (by assumption) rfl ?_
  refine ar_cons ?_
  refine ev_loc (by assumption) rfl ?_
  refine ar_cons ?_
  refine ev_loc (by assumption) rfl ?_
  refine ar_cons ?_
  refine ev_loc (by assumption) rfl ?_
  refine ar_nil ?_
  refine (sp_new_row (par := some i) h hz).use O (by decide) ?_
  rintro _ H1 ⟨rfl, t1, S1, e1⟩
  obtain ⟨y, hy, py, pa⟩ := S1.at e1 e
  have h1 := S1.i
  have hn1 := h1.ns y (List.mem_of_getElem? hy)
  with_reducible refine next_next ?_
  refine ex_cons ?_
  refine st_if ?_
  refine tst_cmp ?_
  refine ev_loc (by assumption) rfl ?_
  refine ev_none ?_
  with_reducible refine ⟨_, .isnt, ?_⟩
  refine ite_isT rfl ?_
  have hT : t1.T = t.T := S1.T
  rw [← hT]
  refine ex_cons ?_
  refine st_expr ?_
  refine ev_meth (by assumption) ?_
  refine ev_attr (by assumption) ?_
  refine ev_sub ?_
  refine ev_attr (by assumption) ?_
  refine ev_loc (by assumption) rfl ?_
  refine ⟨_, h1.rows, ?_⟩
  refine ev_loc (by assumption) rfl ?_
  refine ⟨_, h1.at hy, ?_⟩
  refine ⟨_, ⟨_, _, _, _, rfl, hn1.a, hn1.d, ao_children w, rfl, rfl⟩, ?_⟩
  refine ⟨_, GetM.list hn1.c slot_list_append, ?_⟩
  refine ⟨.builtin _, ?_⟩
  refine ar_cons ?_
  refine ev_loc (by assumption) rfl ?_
  refine ar_nil ?_
  have cz := h1.csz y (List.mem_of_getElem? hy)
  have tz := h1.sz
  refine ci_append hn1.c (by simp; omega) ?_
  have hyc : y.c ∈ y.addrs := by simp [NodeA.addrs]
  have hyt : ∀ a ∈ y.addrs, a ∈ t1.addrs := fun a ha => TreeA.mem_addrs.mpr (.inr (.inr (.inr ⟨y, List.mem_of_getElem? hy, ha⟩)))
  have l1 : t1.ns.length = t.ns.length + 1 := by rw [← t1.pns_len, e1, List.length_append, t.pns_len]; rfl
  have czx : y.ch.length ≤ t.ns.length := by
    have := h.csz x (List.mem_of_getElem? e)
    have e2 : y.ch = x.ch := congrArg PN.ch py
    rw [e2]; exact this.1
  have ynd : y.addrs.Nodup := by
    have nd := h1.nd
    unfold TreeA.addrs at nd
    have := (List.pairwise_cons.mp (List.pairwise_cons.mp (List.pairwise_cons.mp nd).2).2).2
    exact (List.pairwise_flatMap.mp this).1 y (List.mem_of_getElem? hy)
  have yne : y.a ≠ y.c ∧ y.d ≠ y.c ∧ y.t ≠ y.c := by
    simp [NodeA.addrs] at ynd
    exact ⟨ynd.1.2.1, ynd.2.1.1, fun q => ynd.2.2 q.symm⟩
  have h2 : IsTree (hset H1 y.c (.list (y.ch.map nv ++ [nv t.ns.length]))) { t1 with ns := t1.ns.set i { y with ch := y.ch ++ [t.ns.length] } } :=
    h1.upd (x' := { y with ch := y.ch ++ [t.ns.length] }) hy rfl ⟨by rw [hset_ne yne.1]; exact hn1.a, by rw [hset_ne yne.2.1]; exact hn1.d, by show hset H1 y.c _ y.c = _; rw [hset_self]; simp, by show hset H1 y.c _ y.t = _; rw [hset_ne yne.2.2]; exact hn1.t⟩
      (fun a _ hna => hset_ne fun q => hna (q ▸ hyc)) ⟨by show (y.ch ++ [t.ns.length]).length ≤ _; simp; omega, cz.2⟩
  generalize hq : hset H1 y.c _ = H2 at h2
  with_reducible refine next_next ?_
  refine ex_nil ?_
  with_reducible refine next_next ?_
  refine ex_cons ?_
  refine st_return ?_
  refine ev_loc (by assumption) rfl ?_
  with_reducible refine next_ret ?_
  refine ⟨_, Sub.refl, rfl, _, S1.trans ⟨h2, fun a ha hna => by rw [← hq, hset_ne fun q => ha (by rw [q]; exact hyt _ hyc)], fun a ha => .inl ?_, rfl, set_o hy rfl⟩, ?_⟩
  · have : ({ t1 with ns := t1.ns.set i { y with ch := y.ch ++ [t.ns.length] } } : TreeA).addrs = t1.addrs := by
      show (t1.T :: t1.d :: t1.rl :: (t1.ns.set i { y with ch := y.ch ++ [t.ns.length] }).flatMap NodeA.addrs) = _
      rw [flat_set (y := { y with ch := y.ch ++ [t.ns.length] }) hy rfl]; rfl
    rw [← this]; exact ha
  · show (t1.ns.set i { y with ch := y.ch ++ [t.ns.length] }).map NodeA.pn = _
    rw [List.map_set]
    show t1.pns.set i { y.pn with ch := y.pn.ch ++ [t.ns.length] } = _
    rw [e1, py, List.set_append_left _ _ (by rw [t.pns_len]; exact hlt)]
theorem sp_add_element {w : World} {H : AH} {t : TreeA} {i : Nat} {x : NodeA} {name uri loc : Str} (h : IsTree H t) (hz : t.ns.length < 200) (e : t.ns[i]? = some x) (hk : x.kind = "root" ∨ x.kind = "element") :
    Spec w (.ref 208) 5 H [.ref t.T, nv i, .str name 0, .str uri 0, .str loc 0] (AddRow H t i x.pn ⟨"element", name, uri, loc, "", some i, [], []⟩) := by
  refine' Spec.of ?ho ?hcd ?hb ?hnm ?hco ?hgen ?hk ?hcell ?h
  case ho => k_is
  case hcd => k_is
  case hb => ((first | (with_reducible refine all0 ?_) | (with_reducible refine all1 ?_) | (with_reducible refine all2 ?_) | (with_reducible refine all3 ?_) | (with_reducible refine all4 ?_) | (with_reducible refine all5 ?_) | (with_reducible refine all6 ?_) | (with_reducible refine all7 ?_)); intros; exact BindsTo.of_eq rfl)
  case hnm => decide
  case hco => rfl
  case hgen => rfl
  case hk => rfl
  case hcell => decide
  try (conv in (occs := *) (pSub _) => whnf)
  try (conv in (occs := *) (pSco _) => whnf)
  try (conv in (occs := *) (pPar _) => whnf)
  intro c O
  refine ex_cons ?_
  refine st_return ?_
  refine ev_meth (by assumption) ?_
  refine ev_loc (by assumption) rfl ?_
  refine ⟨_, h.meth O (mo_add_child w), ?_⟩
  refine ⟨.ref (by k_is), ?_⟩
  refine ar_cons ?_
  refine ev_loc (by assumption) rfl ?_
  refine ar_cons ?_
  refine ev_str ?_
  refine ar_cons ?_
  refine ev_loc (by assumption) rfl ?_
  refine ar_cons ?_
  refine ev_loc (by assumption) rfl ?_
  refine ar_cons ?_
  refine ev_loc (by assumption) rfl ?_
  refine ar_cons ?_
  refine ev_str ?_
  refine ar_nil ?_
  refine (sp_add_child h hz e hk).use O (by decide) ?_
  intro r H' hr
  with_reducible refine next_ret ?_
  exact ⟨_, Sub.refl, hr⟩
theorem sp_add_text {w : World} {H : AH} {t : TreeA} {i : Nat} {x : NodeA} {value : Str} (h : IsTree H t) (hz : t.ns.length < 200) (e : t.ns[i]? = some x) (hk : x.kind = "root" ∨ x.kind = "element") :
    Spec w (.ref 215) 5 H [.ref t.T, nv i, .str value 0] (AddRow H t i x.pn ⟨"text", "", "", "", value, some i, [], []⟩) := by
  refine' Spec.of ?ho ?hcd ?hb ?hnm ?hco ?hgen ?hk ?hcell ?h
  case ho => k_is
  case hcd => k_is
  case hb => ((first | (with_reducible refine all0 ?_) | (with_reducible refine all1 ?_) | (with_reducible refine all2 ?_) | (with_reducible refine all3 ?_) | (with_reducible refine all4 ?_) | (with_reducible refine all5 ?_) | (with_reducible refine all6 ?_) | (with_reducible refine all7 ?_)); intros; exact BindsTo.of_eq rfl)
  case hnm => decide
  case hco => rfl
  case hgen => rfl
  case hk => rfl
  case hcell => decide
  try (conv in (occs := *) (pSub _) => whnf)
  try (conv in (occs := *) (pSco _) => whnf)
  try (conv in (occs := *) (pPar _) => whnf)
  intro c O
  refine ex_cons ?_
  refine st_return ?_
  refine ev_meth (by assumption) ?_
  refine ev_loc (by assumption) rfl ?_
  refine ⟨_, h.meth O (mo_add_child w), ?_⟩
  refine ⟨.ref (by k_is), ?_⟩
  refine ar_cons ?_
  refine ev_loc (by assumption) rfl ?_
  refine ar_cons ?_
  refine ev_str ?_
  refine ar_cons ?_
  refine ev_str ?_
  refine ar_cons ?_
  refine ev_str ?_
  refine ar_cons ?_
  refine ev_str ?_
  refine ar_cons ?_
  refine ev_loc (by assumption) rfl ?_
  refine ar_nil ?_
  refine (sp_add_child h hz e hk).use O (by decide) ?_
  intro r H' hr
  with_reducible refine next_ret ?_
  exact ⟨_, Sub.refl, hr⟩
theorem sp_add_comment {w : World} {H : AH} {t : TreeA} {i : Nat} {x : NodeA} {value : Str} (h : IsTree H t) (hz : t.ns.length < 200) (e : t.ns[i]? = some x) (hk : x.kind = "root" ∨ x.kind = "element") :
    Spec w (.ref 222) 5 H [.ref t.T, nv i, .str value 0] (AddRow H t i x.pn ⟨"comment", "", "", "", value, some i, [], []⟩) := by
  refine' Spec.of ?ho ?hcd ?hb ?hnm ?hco ?hgen ?hk ?hcell ?h
  case ho => k_is
  case hcd => k_is
  case hb => ((first | (with_reducible refine all0 ?_) | (with_reducible refine all1 ?_) | (with_reducible refine all2 ?_) | (with_reducible refine all3 ?_) | (with_reducible refine all4 ?_) | (with_reducible refine all5 ?_) | (with_reducible refine all6 ?_) | (with_reducible refine all7 ?_)); intros; exact BindsTo.of_eq rfl)
  case hnm => decide
  case hco => rfl
  case hgen => rfl
  case hk => rfl
  case hcell => decide
  try (conv in (occs := *) (pSub _) => whnf)
  try (conv in (occs := *) (pSco _) => whnf)
  try (conv in (occs := *) (pPar _) => whnf)
  intro c O
  refine ex_cons ?_
  refine st_return ?_
  refine ev_meth (by assumption) ?_
  refine ev_loc (by assumption) rfl ?_
  refine ⟨_, h.meth O (mo_add_child w), ?_⟩
  refine ⟨.ref (by k_is), ?_⟩
  refine ar_cons ?_
  refine ev_loc (by assumption) rfl ?_
  refine ar_cons ?_
  refine ev_str ?_
  refine ar_cons ?_
  refine ev_str ?_
  refine ar_cons ?_
  refine ev_str ?_
  refine ar_cons ?_
  refine ev_str ?_
  refine ar_cons ?_
  refine ev_loc (by assumption) rfl ?_
  refine ar_nil ?_
  refine (sp_add_child h hz e hk).use O (by decide) ?_
  intro r H' hr
  with_reducible refine next_ret ?_
  exact ⟨_, Sub.refl, hr⟩
end Mine
end

section
open PySem PySem.W PySem.Spec PySem.Calls PyProof.Rows
set_option Elab.async false
set_option maxRecDepth 100000
set_option maxHeartbeats 8000000
namespace Mine
theorem fillC6 : (PySem.Challenge.rw_on0188_01 = PySem.Challenge.rw_on0188_01) ∧ hK = hK := by
  k_fill
  exact ⟨rfl, rfl⟩
theorem IsTree.nodup (h : IsTree H t) {y : NodeA} (hy : y ∈ t.ns) : y.addrs.Nodup := by
  have nd := h.nd
  unfold TreeA.addrs at nd
  exact (List.pairwise_flatMap.mp (List.pairwise_cons.mp (List.pairwise_cons.mp (List.pairwise_cons.mp nd).2).2).2).1 y hy
theorem IsTree.node_ne (h : IsTree H t) {y : NodeA} (hy : y ∈ t.ns) : y.a ≠ y.d ∧ y.a ≠ y.c ∧ y.a ≠ y.t ∧ y.d ≠ y.c ∧ y.d ≠ y.t ∧ y.c ≠ y.t := by
  have ynd := h.nodup hy
  simp [NodeA.addrs] at ynd
  exact ⟨ynd.1.1, ynd.1.2.1, ynd.1.2.2, ynd.2.1.1, ynd.2.1.2, ynd.2.2⟩
theorem IsTree.mem (_h : IsTree H t) {y : NodeA} (hy : y ∈ t.ns) : ∀ a ∈ y.addrs, a ∈ t.addrs := fun a ha => TreeA.mem_addrs.mpr (.inr (.inr (.inr ⟨y, hy, ha⟩)))
/-- one object of a node is written -/
theorem IsTree.step1 {H : AH} {t : TreeA} {i : Nat} {x x' : NodeA} (h : IsTree H t) (e : t.ns[i]? = some x) (ha : x'.addrs = x.addrs) {b : Addr} {o : AObj} (hb : b ∈ x.addrs) (hN : NodeIs (hset H b o) x')
    (hz : x'.ch.length ≤ t.ns.length ∧ x'.ats.length ≤ t.ns.length) : TStep H t (hset H b o) { t with ns := t.ns.set i x' } ∧ ({ t with ns := t.ns.set i x' } : TreeA).pns = t.pns.set i x'.pn := by
  have hbt := h.mem (List.mem_of_getElem? e) b hb
  refine ⟨⟨h.upd e ha hN (fun a _ hna => hset_ne fun q => hna (q ▸ hb)) hz, fun a hna _ => hset_ne fun q => hna (q ▸ hbt), fun a ha' => .inl ?_, rfl, set_o e ha⟩, ?_⟩
  · have : ({ t with ns := t.ns.set i x' } : TreeA).addrs = t.addrs := by
      show (t.T :: t.d :: t.rl :: (t.ns.set i x').flatMap NodeA.addrs) = _
      rw [flat_set e ha]; rfl
    rw [← this]; exact ha'
  · show (t.ns.set i x').map NodeA.pn = _
    rw [List.map_set]; rfl
theorem IsTree.setCh {H : AH} {t : TreeA} {i : Nat} {x : NodeA} (h : IsTree H t) (e : t.ns[i]? = some x) {l : List Nat} {vs : List Value} (hv : vs = l.map nv) (hz : l.length ≤ t.ns.length) :
    ∃ t', TStep H t (hset H x.c (.list vs)) t' ∧ t'.pns = t.pns.set i { x.pn with ch := l } := by
  have hx := List.mem_of_getElem? e
  have hn := h.ns x hx
  obtain ⟨n1, n2, n3, n4, n5, n6⟩ := h.node_ne hx
  have cz := h.csz x hx
  subst hv
  obtain ⟨h1, h2⟩ := h.step1 (x' := { x with ch := l }) (b := x.c) (o := .list (l.map nv)) e rfl (by simp [NodeA.addrs]) ⟨by rw [hset_ne n2]; exact hn.a, by rw [hset_ne n4]; exact hn.d, hset_self _ _ _, by show hset H x.c _ x.t = _; rw [hset_ne (Ne.symm n6)]; exact hn.t⟩ ⟨hz, cz.2⟩
  exact ⟨_, h1, h2⟩
theorem IsTree.setAt {H : AH} {t : TreeA} {i : Nat} {x : NodeA} (h : IsTree H t) (e : t.ns[i]? = some x) {l : List Nat} {vs : List Value} (hv : vs = l.map nv) (hz : l.length ≤ t.ns.length) :
    ∃ t', TStep H t (hset H x.t (.list vs)) t' ∧ t'.pns = t.pns.set i { x.pn with ats := l } := by
  have hx := List.mem_of_getElem? e
  have hn := h.ns x hx
  obtain ⟨n1, n2, n3, n4, n5, n6⟩ := h.node_ne hx
  have cz := h.csz x hx
  subst hv
  obtain ⟨h1, h2⟩ := h.step1 (x' := { x with ats := l }) (b := x.t) (o := .list (l.map nv)) e rfl (by simp [NodeA.addrs]) ⟨by rw [hset_ne n3]; exact hn.a, by rw [hset_ne n5]; exact hn.d, by show hset H x.t _ x.c = _; rw [hset_ne n6]; exact hn.c, hset_self _ _ _⟩ ⟨cz.1, hz⟩
  exact ⟨_, h1, h2⟩
theorem IsTree.setPar {H : AH} {t : TreeA} {i : Nat} {x : NodeA} (h : IsTree H t) (e : t.ns[i]? = some x) :
    ∃ t', TStep H t (hset H x.d (.attrs (aput "parent" .none x.fields))) t' ∧ t'.pns = t.pns.set i { x.pn with par := none } := by
  have hx := List.mem_of_getElem? e
  have hn := h.ns x hx
  obtain ⟨n1, n2, n3, n4, n5, n6⟩ := h.node_ne hx
  have cz := h.csz x hx
  obtain ⟨h1, h2⟩ := h.step1 (x' := { x with par := none }) (b := x.d) (o := .attrs (aput "parent" .none x.fields)) e rfl (by simp [NodeA.addrs]) ⟨by rw [hset_ne n1]; exact hn.a, by rw [hset_self]; rfl, by show hset H x.d _ x.c = _; rw [hset_ne (Ne.symm n4)]; exact hn.c, by show hset H x.d _ x.t = _; rw [hset_ne (Ne.symm n5)]; exact hn.t⟩ cz
  exact ⟨_, h1, h2⟩
theorem sp_element_row {w : World} {H : AH} {t : TreeA} {i : Nat} {x : NodeA} (h : IsTree H t) (e : t.ns[i]? = some x) (hk : x.kind = "element") : Spec w (.ref 236) 3 H [.ref t.T, nv i] (fun r H' => H' = H ∧ r = .ref x.a) := by
  have hn := h.ns x (List.mem_of_getElem? e)
  refine' Spec.of ?ho ?hcd ?hb ?hnm ?hco ?hgen ?hk ?hcell ?h
  case ho => k_is
  case hcd => k_is
  case hb => ((first | (with_reducible refine all0 ?_) | (with_reducible refine all1 ?_) | (with_reducible refine all2 ?_) | (with_reducible refine all3 ?_) | (with_reducible refine all4 ?_) | (with_reducible refine all5 ?_) | (with_reducible refine all6 ?_) | (with_reducible refine all7 ?_)); intros; exact BindsTo.of_eq rfl)
  case hnm => decide
  case hco => rfl
  case hgen => rfl
  case hk => rfl
  case hcell => decide
  try (conv in (occs := *) (pSub _) => whnf)
  try (conv in (occs := *) (pSco _) => whnf)
  try (conv in (occs := *) (pPar _) => whnf)
  intro c O
  refine ex_cons ?_
  refine st_assign (by assumption) ?_
  refine ev_meth (by assumption) ?_
  refine ev_loc (by assumption) rfl ?_
  refine ⟨_, h.meth O (mo_row w), ?_⟩
  refine ⟨.ref (by k_is), ?_⟩
  refine ar_cons ?_
  refine ev_loc (by assumption) rfl ?_
  refine ar_nil ?_
  refine (sp_row w h e).use O (by decide) ?_
  rintro _ _ ⟨rfl, rfl⟩
  with_reducible refine next_next ?_
  refine ex_cons ?_
  refine st_if ?_
  refine tst_cmp ?_
  refine ev_attr (by assumption) ?_
  refine ev_loc (by assumption) rfl ?_
  refine ⟨_, ⟨_, _, _, _, rfl, hn.a, hn.d, ao_kind w, rfl, rfl⟩, ?_⟩
  refine ev_str ?_
  with_reducible refine ⟨_, .nes, ?_⟩
  refine ite_isF (by rw [hk]; rfl) ?_
  refine ex_nil ?_
  with_reducible refine next_next ?_
  refine ex_cons ?_
  refine st_return ?_
  refine ev_loc (by assumption) rfl ?_
  with_reducible refine next_ret ?_
  exact ⟨_, Sub.refl, rfl, rfl⟩
theorem sp_set_attribute {w : World} {H : AH} {t : TreeA} {i : Nat} {x : NodeA} {name uri loc value : Str} (h : IsTree H t) (hz : t.ns.length < 200) (e : t.ns[i]? = some x) (hk : x.kind = "element") (ha : x.ats = []) :
    Spec w (.ref 243) 5 H [.ref t.T, nv i, .str name 0, .str uri 0, .str loc 0, .str value 0] (fun r H' => ∃ t', TStep H t H' t' ∧ t'.pns = t.pns.set i { x.pn with ats := [t.ns.length] } ++ [⟨"attribute", name, uri, loc, value, some i, [], []⟩]) := by
  have hn := h.ns x (List.mem_of_getElem? e)
  have hlt : i < t.ns.length := (List.getElem?_eq_some_iff.mp e).1
  refine' Spec.of ?ho ?hcd ?hb ?hnm ?hco ?hgen ?hk ?hcell ?h
  case ho => k_is
  case hcd => k_is
  case hb => ((first | (with_reducible refine all0 ?_) | (with_reducible refine all1 ?_) | (with_reducible refine all2 ?_) | (with_reducible refine all3 ?_) | (with_reducible refine all4 ?_) | (with_reducible refine all5 ?_) | (with_reducible refine all6 ?_) | (with_reducible refine all7 ?_)); intros; exact BindsTo.of_eq rfl)
  case hnm => decide
  case hco => rfl
  case hgen => rfl
  case hk => rfl
  case hcell => decide
  try (conv in (occs := *) (pSub _) => whnf)
  try (conv in (occs := *) (pSco _) => whnf)
  try (conv in (occs := *) (pPar _) => whnf)
  intro c O
  refine ex_cons ?_
  refine st_assign (by assumption) ?_
  refine ev_meth (by assumption) ?_
  refine ev_loc (by assumption) rfl ?_
  refine ⟨_, h.meth O (mo_element_row w), ?_⟩
  refine ⟨.ref (by k_is), ?_⟩
  refine ar_cons ?_
  refine ev_loc (by assumption) rfl ?_
  refine ar_nil ?_
  refine (sp_element_row h e hk).use O (by decide) ?_
  rintro _ H ⟨rfl, rfl⟩
  with_reducible refine next_next ?_
  refine ex_cons ?_
  refine st_for ?_
  refine ev_attr (by assumption) ?_
  refine ev_loc (by assumption) rfl ?_
  refine ⟨_, ⟨_, _, _, _, rfl, hn.a, hn.d, ao_attributes w, rfl, rfl⟩, ?_⟩
  have ht := hn.t
  rw [ha] at ht
  generalize hm : (_ :: _ : AM) = am1
  refine ⟨0, _, _, _, fun _ am H' => am = am1 ∧ H' = H, itb_list (by exact trivial) ht, Sub.refl, ⟨rfl, rfl⟩, ?_, ?_, ?_⟩
  · rintro _ _ _ ⟨rfl, rfl⟩; exact ht
  · intro i _ _ _ _ hi; cases hi
  rintro _ _ ⟨rfl, rfl⟩
  rw [← hm]
  with_reducible refine next_next ?_
  refine ex_cons ?_
  refine st_assign (by assumption) ?_
  refine ev_meth (by assumption) ?_
  refine ev_loc (by assumption) rfl ?_
  refine ⟨_, h.meth O (mo_new_row w), ?_⟩
  refine ⟨.ref (by k_is), ?_⟩
  refine ar_cons ?_
  refine ev_str ?_
  refine ar_cons ?_
  refine ev_loc (by assumption) rfl ?_
  refine ar_cons ?_
  refine ev_loc (by assumption) rfl ?_
  refine ar_cons ?_
  refine ev_loc (by assumption) rfl ?_
  refine ar_cons ?_
  refine ev_loc (by assumption) rfl ?_
  refine ar_cons ?_
  refine ev_loc (by assumption) rfl ?_
  refine ar_nil ?_
  refine (sp_new_row (par := some i) h hz).use O (by decide) ?_
  rintro _ H1 ⟨rfl, t1, S1, e1⟩
  obtain ⟨y, hy, py, pa⟩ := S1.at e1 e
  have h1 := S1.i
  have hn1 := h1.ns y (List.mem_of_getElem? hy)
  have hya : x.a = y.a := by simp [NodeA.addrs] at pa; exact pa.1.symm
  have hyt : y.ats = [] := (congrArg PN.ats py).trans ha
  have ht1 := hn1.t
  rw [hyt] at ht1
  rw [hya]
  with_reducible refine next_next ?_
  refine ex_cons ?_
  refine st_expr ?_
  refine ev_meth (by assumption) ?_
  refine ev_attr (by assumption) ?_
  refine ev_loc (by assumption) rfl ?_
  refine ⟨_, ⟨_, _, _, _, rfl, hn1.a, hn1.d, ao_attributes w, rfl, rfl⟩, ?_⟩
  refine ⟨_, GetM.list ht1 slot_list_append, ?_⟩
  refine ⟨.builtin _, ?_⟩
  refine ar_cons ?_
  refine ev_loc (by assumption) rfl ?_
  refine ar_nil ?_
  refine ci_append ht1 (by simp) ?_
  have l1 : t1.ns.length = t.ns.length + 1 := by rw [← t1.pns_len, e1, List.length_append, t.pns_len]; rfl
  obtain ⟨t2, S2, e2⟩ := h1.setAt (l := [t.ns.length]) (vs := [] ++ [nv t.ns.length]) hy rfl (by simp; omega)
  with_reducible refine next_next ?_
  refine ex_cons ?_
  refine st_return ?_
  refine ev_loc (by assumption) rfl ?_
  with_reducible refine next_ret ?_
  refine ⟨_, Sub.refl, t2, S1.trans S2, ?_⟩
  rw [e2, e1, py, List.set_append_left _ _ (by rw [t.pns_len]; exact hlt)]
theorem sp_list_above {w : World} {H : AH} {t : TreeA} {i j : Nat} {x y : NodeA} (h : IsTree H t) (e : t.ns[i]? = some x) (hk : x.kind = "text") (hp : x.par = some j) (e' : t.ns[j]? = some y) :
    Spec w (.ref 60) 4 H [.ref t.T, nv i] (fun r H' => H' = H ∧ r = .ref y.c) := by
  have hy := h.ns y (List.mem_of_getElem? e')
  refine' Spec.of ?ho ?hcd ?hb ?hnm ?hco ?hgen ?hk ?hcell ?h
  case ho => k_is
  case hcd => k_is
  case hb => ((first | (with_reducible refine all0 ?_) | (with_reducible refine all1 ?_) | (with_reducible refine all2 ?_) | (with_reducible refine all3 ?_) | (with_reducible refine all4 ?_) | (with_reducible refine all5 ?_) | (with_reducible refine all6 ?_) | (with_reducible refine all7 ?_)); intros; exact BindsTo.of_eq rfl)
  case hnm => decide
  case hco => rfl
  case hgen => rfl
  case hk => rfl
  case hcell => decide
  try (conv in (occs := *) (pSub _) => whnf)
  try (conv in (occs := *) (pSco _) => whnf)
  try (conv in (occs := *) (pPar _) => whnf)
  intro c O
  refine ex_cons ?_
  refine st_assign (by assumption) ?_
  refine ev_meth (by assumption) ?_
  refine ev_loc (by assumption) rfl ?_
  refine ⟨_, h.meth O (mo_row w), ?_⟩
  refine ⟨.ref (by k_is), ?_⟩
  refine ar_cons ?_
  refine ev_meth (by assumption) ?_
  refine ev_loc (by assumption) rfl ?_
  refine ⟨_, h.meth O (mo_parent w), ?_⟩
  refine ⟨.ref (by k_is), ?_⟩
  refine ar_cons ?_
  refine ev_loc (by assumption) rfl ?_
  refine ar_nil ?_
  refine (sp_parent w h e).use O (by decide) ?_
  rintro _ H ⟨rfl, rfl⟩
  rw [hp]
  refine ar_nil ?_
  refine (sp_row w h e').use O (by decide) ?_
  rintro _ H ⟨rfl, rfl⟩
  with_reducible refine next_next ?_
  refine ex_cons ?_
  refine st_assign (by assumption) ?_
  refine ev_meth (by assumption) ?_
  refine ev_loc (by assumption) rfl ?_
  refine ⟨_, h.meth O (mo_kind w), ?_⟩
  refine ⟨.ref (by k_is), ?_⟩
  refine ar_cons ?_
  refine ev_loc (by assumption) rfl ?_
  refine ar_nil ?_
  refine (sp_kind w h e).use O (by decide) ?_
  rintro _ H ⟨rfl, rfl⟩
  with_reducible refine next_next ?_
  refine ex_cons ?_
  refine st_if ?_
  refine tst_cmp ?_
  refine ev_loc (by assumption) rfl ?_
  refine ev_str ?_
  with_reducible refine ⟨_, .eqs, ?_⟩
  refine ite_isF (by rw [hk]; rfl) ?_
  refine ex_nil ?_
  with_reducible refine next_next ?_
  refine ex_cons ?_
  refine st_return ?_
  refine ev_ifexp ?_
  refine tst_cmp ?_
  refine ev_loc (by assumption) rfl ?_
  refine ev_str ?_
  with_reducible refine ⟨_, .eqs, ?_⟩
  refine ite_isF (by rw [hk]; rfl) ?_
  refine ev_attr (by assumption) ?_
  refine ev_loc (by assumption) rfl ?_
  refine ⟨_, ⟨_, _, _, _, rfl, hy.a, hy.d, ao_children w, rfl, rfl⟩, ?_⟩
  with_reducible refine next_ret ?_
  exact ⟨_, Sub.refl, rfl, rfl⟩
def delNat (k : Nat) : List Nat → List Nat
  | [] => []
  | x :: r => if x = k then r else x :: delNat k r
theorem del_nv (k : Nat) (l : List Nat) : ivs (delInt (k : Int) (l.map fun (i : Nat) => (i : Int))) = (delNat k l).map nv := by
  induction l with
  | nil => rfl
  | cons x l ih =>
    simp only [List.map_cons, delInt, delNat]
    by_cases q : x = k
    · subst q; simp [ivs]; intro a _; rfl
    · have : ¬ ((x : Int) = (k : Int)) := by omega
      simp only [this, q, if_false]
      show nv x :: ivs _ = nv x :: _
      rw [ih]
theorem delNat_len (k : Nat) (l : List Nat) : (delNat k l).length ≤ l.length := by
  induction l with
  | nil => exact Nat.le_refl _
  | cons x l ih =>
    unfold delNat
    split
    · simp
    · simpa using ih
theorem nv_ivs (l : List Nat) : l.map nv = ivs (l.map fun (i : Nat) => (i : Int)) := by simp [ivs]; intro a _; rfl
theorem sp_remove {w : World} {H : AH} {t : TreeA} {i j : Nat} {x y : NodeA} (h : IsTree H t) (e : t.ns[i]? = some x) (hk : x.kind = "text") (hp : x.par = some j) (e' : t.ns[j]? = some y) (hm : i ∈ y.ch) (hij : i ≠ j) :
    Spec w (.ref 67) 5 H [.ref t.T, nv i] (fun r H' => ∃ t', TStep H t H' t' ∧ t'.pns = (t.pns.set j { y.pn with ch := delNat i y.ch }).set i { x.pn with par := none }) := by
  have hy := h.ns y (List.mem_of_getElem? e')
  have cz := h.csz y (List.mem_of_getElem? e')
  have tz := h.sz
  refine' Spec.of ?ho ?hcd ?hb ?hnm ?hco ?hgen ?hk ?hcell ?h
  case ho => k_is
  case hcd => k_is
  case hb => ((first | (with_reducible refine all0 ?_) | (with_reducible refine all1 ?_) | (with_reducible refine all2 ?_) | (with_reducible refine all3 ?_) | (with_reducible refine all4 ?_) | (with_reducible refine all5 ?_) | (with_reducible refine all6 ?_) | (with_reducible refine all7 ?_)); intros; exact BindsTo.of_eq rfl)
  case hnm => decide
  case hco => rfl
  case hgen => rfl
  case hk => rfl
  case hcell => decide
  try (conv in (occs := *) (pSub _) => whnf)
  try (conv in (occs := *) (pSco _) => whnf)
  try (conv in (occs := *) (pPar _) => whnf)
  intro c O
  refine ex_cons ?_
  refine st_if ?_
  refine tst_cmp ?_
  refine ev_meth (by assumption) ?_
  refine ev_loc (by assumption) rfl ?_
  refine ⟨_, h.meth O (mo_parent w), ?_⟩
  refine ⟨.ref (by k_is), ?_⟩
  refine ar_cons ?_
  refine ev_loc (by assumption) rfl ?_
  refine ar_nil ?_
  refine (sp_parent w h e).use O (by decide) ?_
  rintro _ H ⟨rfl, rfl⟩
  refine ev_none ?_
  with_reducible refine ⟨_, .isn, ?_⟩
  refine ite_isF (by rw [hp]; rfl) ?_
  refine ex_nil ?_
  with_reducible refine next_next ?_
  refine ex_cons ?_
  refine st_expr ?_
  refine ev_meth (by assumption) ?_
  refine ev_call (by assumption) ?_
  (refine' ev_globF (by assumption) ?zq1 ?_; (case zq1 => k_is))
  refine ⟨.ref (by k_is), ?_⟩
  refine ar_cons ?_
  refine ev_loc (by assumption) rfl ?_
  refine ar_cons ?_
  refine ev_loc (by assumption) rfl ?_
  refine ar_nil ?_
  refine (sp_list_above h e hk hp e').use O (by decide) ?_
  rintro _ H ⟨rfl, rfl⟩
  have hc := hy.c
  rw [nv_ivs] at hc
  refine ⟨_, GetM.list hc PySem.F.slot_list_remove PySem.F.type_list_remove, ?_⟩
  refine ⟨.builtin _, ?_⟩
  refine ar_cons ?_
  refine ev_loc (by assumption) rfl ?_
  refine ar_nil ?_
  refine ci_remove hc (by simp; omega) (List.mem_map.mpr ⟨i, hm, rfl⟩) ?_
  obtain ⟨t1, S1, e1⟩ := h.setCh (l := delNat i y.ch) e' (del_nv i y.ch) (Nat.le_trans (delNat_len _ _) cz.1)
  have h1 := S1.i
  have x1 : t1.pns[i]? = some x.pn := by
    rw [e1, List.getElem?_set_ne (Ne.symm hij)]
    simp [TreeA.pns, e]
  obtain ⟨x', ex, px⟩ := TreeA.pns_at x1
  have hx' := h1.ns x' (List.mem_of_getElem? ex)
  rw [← S1.T]
  with_reducible refine next_next ?_
  refine ex_cons ?_
  refine st_setattr (by assumption) ?_
  refine ev_none ?_
  refine ev_meth (by assumption) ?_
  refine ev_loc (by assumption) rfl ?_
  refine ⟨_, h1.meth O (mo_row w), ?_⟩
  refine ⟨.ref (by k_is), ?_⟩
  refine ar_cons ?_
  refine ev_loc (by assumption) rfl ?_
  refine ar_nil ?_
  refine (sp_row w h1 ex).use O (by decide) ?_
  rintro _ H2 ⟨rfl, rfl⟩
  refine ⟨_, _, _, _, rfl, hx'.a, hx'.d, so_parent w, Nat.le_of_ble_eq_true rfl, ?_⟩
  obtain ⟨t2, S2, e2⟩ := h1.setPar ex
  with_reducible refine next_next ?_
  refine ex_nil ?_
  refine ⟨_, Sub.refl, t2, S1.trans S2, ?_⟩
  rw [e2, e1, px]
end Mine
end

section
open PySem PySem.W PySem.Spec PySem.Calls PyProof.Rows
set_option Elab.async false
set_option maxRecDepth 100000
set_option maxHeartbeats 8000000
namespace Mine
/-! the rows of the law -/
structure Row where
  node : Nat
  kind : Str
  up : Option Nat
  uri : Str
  loc : Str
  word : Option Str
  blank : Bool
def nodeOf (R : List Row) (s : Nat) : Nat := match R[s]? with | some r => r.node | none => 0
def isC (r : Row) : Prop := r.kind = "root" ∨ r.kind = "element"
structure Wf (R : List Row) : Prop where
  root : ∃ r : Row, R[0]? = some r ∧ r.kind = "root" ∧ r.up = none
  up : ∀ (s : Nat) (r : Row), R[s]? = some r → s ≠ 0 → (r.kind = "element" ∨ r.kind = "text" ∨ r.kind = "comment") ∧ ∃ (u : Nat) (ru : Row), r.up = some u ∧ u < s ∧ R[u]? = some ru ∧ isC ru ∧ (r.kind ≠ "element" → ru.kind = "element")
  bl : ∀ (s : Nat) (r : Row), R[s]? = some r → r.blank = true → r.kind = "text"
  inj : ∀ (s s' : Nat) (r r' : Row), R[s]? = some r → R[s']? = some r' → r.node = r'.node → s = s'
  sz : R.length ≤ 100
def chosen (R : List Row) (G : Nat → Bool) (u c : Nat) : Bool := match R[c]? with | some r => r.up == some u && !G c | none => false
def dueS (R : List Row) (G : Nat → Bool) (u : Nat) : List Nat := (List.range R.length).filter (chosen R G u)
def due (R : List Row) (G : Nat → Bool) (u : Nat) : List Nat := (dueS R G u).map (nodeOf R)
def WordAt (P : List PN) (p : PN) (word : Option Str) : Prop := match word with
  | none => p.ats = []
  | some v => ∃ (a : Nat) (q : PN), p.ats = [a] ∧ P[a]? = some q ∧ q.name = "xml:space" ∧ q.value = v
structure RowAt (P : List PN) (r : Row) (p : PN) : Prop where
  kind : p.kind = r.kind
  uri : p.uri = r.uri
  loc : p.loc = r.loc
  word : WordAt P p r.word
  text : r.kind = "text" → (Txt.stripChars p.value " \t\r\n" == "") = r.blank
  len : r.kind = "text" → p.value.length ≤ 1000
def parOf (R : List Row) (G : Nat → Bool) (s : Nat) (r : Row) : Option Nat := if G s = true then none else r.up.map (nodeOf R)
structure Doc (P : List PN) (R : List Row) (G : Nat → Bool) : Prop where
  wf : Wf R
  rows : ∀ (s : Nat) (r : Row), R[s]? = some r → ∃ p : PN, P[r.node]? = some p ∧ RowAt P r p ∧ p.par = parOf R G s r ∧ (isC r → p.ch = due R G s)
  gb : ∀ (s : Nat) (r : Row), R[s]? = some r → G s = true → r.blank = true
/-! which xml:space holds -/
def keptF (R : List Row) : Nat → Option Nat → Bool
  | 0, _ => false
  | _ + 1, none => false
  | f + 1, some s => match R[s]? with
    | none => false
    | some r => if r.kind = "element" then (match r.word with | some v => v == "preserve" | none => keptF R f r.up) else false
def kept (R : List Row) (s : Nat) : Bool := keptF R (s + 1) (some s)
theorem keptF_any {R : List Row} (W : Wf R) : ∀ (s f g : Nat), s < f → s < g → keptF R f (some s) = keptF R g (some s) := by
  intro s
  induction s using Nat.strongRecOn with
  | _ s ih =>
    intro f g hf hg
    obtain ⟨f, rfl⟩ : ∃ k, f = k + 1 := ⟨f - 1, by omega⟩
    obtain ⟨g, rfl⟩ : ∃ k, g = k + 1 := ⟨g - 1, by omega⟩
    cases e : R[s]? with
    | none => simp only [keptF, e]
    | some r =>
      simp only [keptF, e]
      split
      · cases r.word with
        | some v => rfl
        | none =>
          by_cases h0 : s = 0
          · subst h0
            obtain ⟨r', e', _, hu⟩ := W.root
            rw [e] at e'; cases e'
            rw [hu]
            cases f <;> cases g <;> rfl
          · obtain ⟨_, u, ru, hu, hlt, _⟩ := W.up s r e h0
            rw [hu]
            exact ih u hlt f g (by omega) (by omega)
      · rfl
/-- one step up -/
theorem kept_step {R : List Row} (W : Wf R) {s : Nat} {r : Row} (e : R[s]? = some r) :
    (r.kind = "element" → ∀ v, r.word = some v → kept R s = (v == "preserve")) ∧ (r.kind = "element" → r.word = none → ∀ u, r.up = some u → u < s → kept R s = kept R u) ∧ (r.kind ≠ "element" → kept R s = false) ∧ (r.kind = "element" → r.word = none → r.up = none → kept R s = false) := by
  refine ⟨fun h v hv => ?_, fun h hv u hu hlt => ?_, fun h => ?_, fun h hv hu => ?_⟩
  · simp only [kept, keptF, e, if_pos h, hv]
  · have : kept R s = keptF R s (some u) := by
      show keptF R (s + 1) (some s) = _
      simp only [keptF, e, if_pos h, hv, hu]
    rw [this]
    exact keptF_any W u s (u + 1) hlt (Nat.lt_succ_self u)
  · simp only [kept, keptF, e, if_neg h]
  · simp only [kept, keptF, e, if_pos h, hv, hu]
    cases s <;> rfl
/-! forms -/
structure Form where
  uri : Option Str
  loc : Option Str
  goes : Bool
def Form.ok (f : Form) : Prop := f.loc ≠ none → f.uri ≠ none
def Form.rank (f : Form) : Int := if f.loc.isSome then 2 else if f.uri.isSome then 1 else 0
def Form.fits (f : Form) (u l : Str) : Bool := if f.loc.isSome then (f.uri == some u && f.loc == some l) else f.uri.isNone || f.uri == some u
def toldF (u l : Str) : Bool × Int → Form → Bool × Int := fun a f => if (f.fits u l && decide (f.rank ≥ a.2)) = true then (f.goes, f.rank) else a
def isStr (fs : List Form) (u l : Str) : Bool := (fs.foldl (toldF u l) (false, -1)).1
def Form.pick (k : Nat) (f : Form) : Bool := match k with
  | 0 => f.loc.isSome
  | 1 => f.loc.isNone && f.uri.isSome
  | _ => f.uri.isNone
def Form.cand (k : Nat) (u l : Str) (f : Form) : Bool := f.pick k && ((f.uri.isNone || f.uri == some u) && (f.loc.isNone || f.loc == some l))
def lastOf (fs : List Form) : Option Bool := fs.getLast?.map (·.goes)
def goesK (fs : List Form) (u l : Str) (k : Nat) : Option Bool := lastOf (fs.filter (Form.cand k u l))
def goes (fs : List Form) (u l : Str) : Bool := match goesK fs u l 0 with
  | some b => b
  | none => match goesK fs u l 1 with
    | some b => b
    | none => match goesK fs u l 2 with
      | some b => b
      | none => false
def goesR (fs : List Form) (u l : Str) : Bool × Int := match goesK fs u l 0 with
  | some b => (b, 2)
  | none => match goesK fs u l 1 with
    | some b => (b, 1)
    | none => match goesK fs u l 2 with
      | some b => (b, 0)
      | none => (false, -1)
theorem lastOf_snoc (fs : List Form) (f : Form) : lastOf (fs ++ [f]) = some f.goes := by simp [lastOf]
theorem goesK_snoc (fs : List Form) (f : Form) (u l : Str) (k : Nat) : goesK (fs ++ [f]) u l k = if f.cand k u l = true then some f.goes else goesK fs u l k := by
  unfold goesK
  rw [List.filter_append]
  by_cases h : f.cand k u l = true
  · rw [if_pos h, List.filter_cons_of_pos h, List.filter_nil, lastOf_snoc]
  · rw [if_neg h, List.filter_cons_of_neg h, List.filter_nil, List.append_nil]
theorem goesR_fst (fs : List Form) (u l : Str) : (goesR fs u l).1 = goes fs u l := by
  unfold goesR goes
  cases goesK fs u l 0 with
  | some b => rfl
  | none =>
    cases goesK fs u l 1 with
    | some b => rfl
    | none => cases goesK fs u l 2 <;> rfl
theorem told_eq (u l : Str) : ∀ fs : List Form, (∀ f ∈ fs, f.ok) → fs.foldl (toldF u l) (false, -1) = goesR fs u l := by
  have key : ∀ n (fs : List Form), fs.length = n → (∀ f ∈ fs, f.ok) → fs.foldl (toldF u l) (false, -1) = goesR fs u l := by
    intro n
    induction n with
    | zero =>
      intro fs h _
      have := List.eq_nil_of_length_eq_zero h
      subst this; rfl
    | succ n ih =>
      intro fs h hok
      rcases List.eq_nil_or_concat fs with rfl | ⟨gs, f, rfl⟩
      · cases h
      rw [List.concat_eq_append] at *
      have hn : gs.length = n := by simpa using h
      rw [List.foldl_append, List.foldl_cons, List.foldl_nil, ih gs hn fun g hg => hok g (List.mem_append_left _ hg)]
      have hf : f.ok := hok f (List.mem_append_right _ (.head _))
      unfold goesR
      rw [goesK_snoc, goesK_snoc, goesK_snoc]
      obtain ⟨fu, fl, fg⟩ := f
      cases fl with
      | some fl =>
        cases fu with
        | none => exact absurd rfl (hf (by simp))
        | some fu =>
          have c0 : (Form.cand 0 u l ⟨some fu, some fl, fg⟩) = (fu == u && fl == l) := by simp [Form.cand, Form.pick]
          have c1 : (Form.cand 1 u l ⟨some fu, some fl, fg⟩) = false := by simp [Form.cand, Form.pick]
          have c2 : (Form.cand 2 u l ⟨some fu, some fl, fg⟩) = false := by simp [Form.cand, Form.pick]
          have fi : (Form.fits ⟨some fu, some fl, fg⟩ u l) = (fu == u && fl == l) := by simp [Form.fits]
          have rk : (Form.rank ⟨some fu, some fl, fg⟩) = 2 := rfl
          rw [c0, c1, c2]
          unfold toldF
          rw [fi, rk]
          cases (fu == u && fl == l) with
          | false => simp
          | true =>
            cases goesK gs u l 0 with
            | some b => simp
            | none => cases goesK gs u l 1 with
              | some b => simp
              | none => cases goesK gs u l 2 <;> simp
      | none =>
        cases fu with
        | some fu =>
          have c0 : (Form.cand 0 u l ⟨some fu, none, fg⟩) = false := by simp [Form.cand, Form.pick]
          have c1 : (Form.cand 1 u l ⟨some fu, none, fg⟩) = (fu == u) := by simp [Form.cand, Form.pick]
          have c2 : (Form.cand 2 u l ⟨some fu, none, fg⟩) = false := by simp [Form.cand, Form.pick]
          have fi : (Form.fits ⟨some fu, none, fg⟩ u l) = (fu == u) := by simp [Form.fits]
          have rk : (Form.rank ⟨some fu, none, fg⟩) = 1 := rfl
          rw [c0, c1, c2]
          unfold toldF
          rw [fi, rk]
          cases (fu == u) with
          | false => simp
          | true =>
            cases goesK gs u l 0 with
            | some b => simp
            | none => cases goesK gs u l 1 with
              | some b => simp
              | none => cases goesK gs u l 2 <;> simp
        | none =>
          have c0 : (Form.cand 0 u l ⟨none, none, fg⟩) = false := by simp [Form.cand, Form.pick]
          have c1 : (Form.cand 1 u l ⟨none, none, fg⟩) = false := by simp [Form.cand, Form.pick]
          have c2 : (Form.cand 2 u l ⟨none, none, fg⟩) = true := by simp [Form.cand, Form.pick]
          have fi : (Form.fits ⟨none, none, fg⟩ u l) = true := by simp [Form.fits]
          have rk : (Form.rank ⟨none, none, fg⟩) = 0 := rfl
          rw [c0, c1, c2]
          unfold toldF
          rw [fi, rk]
          cases goesK gs u l 0 with
          | some b => simp
          | none => cases goesK gs u l 1 with
            | some b => simp
            | none => cases goesK gs u l 2 <;> simp
  exact fun fs h => key _ fs rfl h
theorem isStr_goes {fs : List Form} (h : ∀ f ∈ fs, f.ok) (u l : Str) : isStr fs u l = goes fs u l := by
  rw [isStr, told_eq u l fs h, goesR_fst]
end Mine
end

section
open PySem PySem.W PySem.Spec PySem.Calls PyProof.Rows
set_option Elab.async false
set_option maxRecDepth 100000
set_option maxHeartbeats 8000000
namespace Mine
theorem fillD1 : (PySem.Challenge.rw_on0188_01 = PySem.Challenge.rw_on0188_01) ∧ hK = hK := by
  k_fill
  exact ⟨rfl, rfl⟩
def ov : Option Str → Value
  | none => .none
  | some s => .str s 0
structure StripA where
  a : Addr
  d : Addr
  f : Form
def Form.attrs (f : Form) : List (Str × Value) := [("uri", ov f.uri), ("local", ov f.loc), ("is_stripped", .bool f.goes)]
def StripIs (H : AH) (s : StripA) : Prop := H s.a = some (.inst 119 s.d) ∧ H s.d = some (.attrs s.f.attrs)
theorem as_uri (w : World) : AttrOk w 119 "uri" := by (refine' ⟨?g, ?d, none, ?f, ?n⟩; (case g => k_is); (case d => k_is); (case f => k_is); (case n => k_is))
theorem as_local (w : World) : AttrOk w 119 "local" := by (refine' ⟨?g, ?d, none, ?f, ?n⟩; (case g => k_is); (case d => k_is); (case f => k_is); (case n => k_is))
theorem as_goes (w : World) : AttrOk w 119 "is_stripped" := by (refine' ⟨?g, ?d, none, ?f, ?n⟩; (case g => k_is); (case d => k_is); (case f => k_is); (case n => k_is))
theorem ss_uri (w : World) : SetOk w 119 "uri" := by (refine' ⟨?g, ?d, ?f, ?n⟩; (case g => k_is); (case d => k_is); (case f => k_is); (case n => k_is))
theorem ss_local (w : World) : SetOk w 119 "local" := by (refine' ⟨?g, ?d, ?f, ?n⟩; (case g => k_is); (case d => k_is); (case f => k_is); (case n => k_is))
theorem ss_goes (w : World) : SetOk w 119 "is_stripped" := by (refine' ⟨?g, ?d, ?f, ?n⟩; (case g => k_is); (case d => k_is); (case f => k_is); (case n => k_is))
theorem ms_rank (w : World) : MethOk w 119 "rank" 109 := by (refine' ⟨?g, ?d, ?f⟩; (case g => k_is); (case d => k_is); (case f => k_is))
theorem ms_fits (w : World) : MethOk w 119 "fits" 116 := by (refine' ⟨?g, ?d, ?f⟩; (case g => k_is); (case d => k_is); (case f => k_is))
section
variable {w : World} {n : Nat} {c : Cx} {am : AM} {H : AH}
theorem CmpIs.eqns {j : Str} : CmpIs w c H .Eq .none (.str j 0) false := fun a b s m X P E ea eb F R q => by
  obtain rfl := sv_none ea; obtain ⟨u, rfl⟩ := sv_str eb; exact EqNone.eq_none_str q
theorem sp_strip_init {H : AH} {x dx : Addr} {u l : Option Str} {g : Bool} (e1 : H x = some (.inst 119 dx)) (e2 : H dx = some (.attrs [])) (ne : x ≠ dx) :
    Spec w (.ref 102) 1 H [.ref x, ov u, ov l, .bool g] (fun r H' => r = .none ∧ InitSt H H' x dx 119 (Form.attrs ⟨u, l, g⟩)) := by
  have S : InitSt H H x dx 119 [] := ⟨e1, e2, ne, fun _ _ _ => rfl⟩
  refine' Spec.of ?ho ?hcd ?hb ?hnm ?hco ?hgen ?hk ?hcell ?h
  case ho => k_is
  case hcd => k_is
  case hb => ((first | (with_reducible refine all0 ?_) | (with_reducible refine all1 ?_) | (with_reducible refine all2 ?_) | (with_reducible refine all3 ?_) | (with_reducible refine all4 ?_) | (with_reducible refine all5 ?_) | (with_reducible refine all6 ?_) | (with_reducible refine all7 ?_)); intros; exact BindsTo.of_eq rfl)
  case hnm => decide
  case hco => rfl
  case hgen => rfl
  case hk => rfl
  case hcell => decide
  try (conv in (occs := *) (pSub _) => whnf)
  try (conv in (occs := *) (pSco _) => whnf)
  try (conv in (occs := *) (pPar _) => whnf)
  intro c O
  refine ex_cons ?_
  refine st_setattr (by assumption) ?_
  refine ev_loc (by assumption) rfl ?_
  refine ev_loc (by assumption) rfl ?_
  refine ⟨_, _, _, _, rfl, S.e1, S.e2, ss_uri w, Nat.le_of_ble_eq_true rfl, ?_⟩
  generalize hq : hset _ dx _ = Hn
  replace S := S.set' hq
  clear hq
  with_reducible refine next_next ?_
  refine ex_cons ?_
  refine st_setattr (by assumption) ?_
  refine ev_loc (by assumption) rfl ?_
  refine ev_loc (by assumption) rfl ?_
  refine ⟨_, _, _, _, rfl, S.e1, S.e2, ss_local w, Nat.le_of_ble_eq_true rfl, ?_⟩
  generalize hq : hset _ dx _ = Hn
  replace S := S.set' hq
  clear hq
  with_reducible refine next_next ?_
  refine ex_cons ?_
  refine st_setattr (by assumption) ?_
  refine ev_loc (by assumption) rfl ?_
  refine ev_loc (by assumption) rfl ?_
  refine ⟨_, _, _, _, rfl, S.e1, S.e2, ss_goes w, Nat.le_of_ble_eq_true rfl, ?_⟩
  generalize hq : hset _ dx _ = Hn
  replace S := S.set' hq
  clear hq
  with_reducible refine next_next ?_
  refine ex_nil ?_
  exact ⟨_, Sub.refl, rfl, S⟩
theorem ci_Strip {u l : Option Str} {g : Bool} {Q : Value → AM → AH → Prop} (O : c.Ok w n) (hn : 1 < n)
    (hQ : ∀ (s : StripA) H', s.f = ⟨u, l, g⟩ → StripIs H' s → H s.a = none → H s.d = none → (∀ a, H a ≠ none → H' a = H a) → Q (.ref s.a) am H') :
    CallIs w c (.ref 119) [ov u, ov l, .bool g] am H Q := by
  refine ci_class (need := 1) (fI := 102) (post := fun x H' => ∃ s : StripA, s.a = x ∧ s.f = ⟨u, l, g⟩ ∧ StripIs H' s ∧ H s.a = none ∧ H s.d = none ∧ (∀ a, H a ≠ none → H' a = H a)) O hn (by k_is) (by k_is) (by k_is) (fun x dx h1 h2 h3 h4 => ?_) ?_
  · refine (sp_strip_init (hset_self _ _ _) (by rw [hset_ne (Nat.ne_of_lt h4)]; exact hset_self _ _ _) (Nat.ne_of_gt h4)).mono ?_
    rintro v H' ⟨rfl, S⟩
    refine ⟨rfl, ⟨x, dx, ⟨u, l, g⟩⟩, rfl, rfl, ⟨S.e1, S.e2⟩, h2, h1, fun a ha => ?_⟩
    have k0 : hset (hset H dx (.attrs [])) x (.inst 119 dx) a = H a := by
      rw [hset_ne (ne_of_none h2 ha), hset_ne (ne_of_none h1 ha)]
    rw [S.k a (ne_of_none h1 ha) (by rw [k0]; exact ha), k0]
  · rintro x H' ⟨y, rfl, h1, h2, h3, h4, h5⟩
    exact hQ y H' h1 h2 h3 h4 h5
theorem StripIs.at {s : StripA} {x : Str} {v : Value} (h : StripIs H s) (A : AttrOk w 119 x) (e : s.f.attrs.lookup x = some v) (hv : handedIn v = true) : AttrIs w H (.ref s.a) x v := ⟨_, _, _, _, rfl, h.1, h.2, A, e, hv⟩
theorem ov_handed (o : Option Str) : handedIn (ov o) = true := by cases o <;> rfl
theorem sp_rank {s : StripA} (h : StripIs H s) : Spec w (.ref 109) 2 H [.ref s.a] (fun r H' => H' = H ∧ r = .int s.f.rank 0) := by
  refine' Spec.of ?ho ?hcd ?hb ?hnm ?hco ?hgen ?hk ?hcell ?h
  case ho => k_is
  case hcd => k_is
  case hb => ((first | (with_reducible refine all0 ?_) | (with_reducible refine all1 ?_) | (with_reducible refine all2 ?_) | (with_reducible refine all3 ?_) | (with_reducible refine all4 ?_) | (with_reducible refine all5 ?_) | (with_reducible refine all6 ?_) | (with_reducible refine all7 ?_)); intros; exact BindsTo.of_eq rfl)
  case hnm => decide
  case hco => rfl
  case hgen => rfl
  case hk => rfl
  case hcell => decide
  try (conv in (occs := *) (pSub _) => whnf)
  try (conv in (occs := *) (pSco _) => whnf)
  try (conv in (occs := *) (pPar _) => whnf)
  intro c O
  refine ex_cons ?_
  refine st_return ?_
  refine ev_ifexp ?_
  refine tst_cmp ?_
  refine ev_attr (by assumption) ?_
  refine ev_loc (by assumption) rfl ?_
  refine ⟨_, h.at (as_local w) rfl (ov_handed _), ?_⟩
  refine ev_none ?_
  with_reducible refine ⟨_, .isnt, ?_⟩
  cases hl : s.f.loc with
  | some l =>
    refine ite_isT rfl ?_
    refine ev_int ?_
    with_reducible refine next_ret ?_
    exact ⟨_, Sub.refl, rfl, by simp [retOf, Form.rank, hl]⟩
  | none =>
    refine ite_isF rfl ?_
    refine ev_ifexp ?_
    refine tst_cmp ?_
    refine ev_attr (by assumption) ?_
    refine ev_loc (by assumption) rfl ?_
    refine ⟨_, h.at (as_uri w) rfl (ov_handed _), ?_⟩
    refine ev_none ?_
    with_reducible refine ⟨_, .isnt, ?_⟩
    cases hu : s.f.uri with
    | some l =>
      refine ite_isT rfl ?_
      refine ev_int ?_
      with_reducible refine next_ret ?_
      exact ⟨_, Sub.refl, rfl, by simp [retOf, Form.rank, hl, hu]⟩
    | none =>
      refine ite_isF rfl ?_
      refine ev_int ?_
      with_reducible refine next_ret ?_
      exact ⟨_, Sub.refl, rfl, by simp [retOf, Form.rank, hl, hu]⟩
theorem sp_fits {s : StripA} {u l : Str} (h : StripIs H s) : Spec w (.ref 116) 2 H [.ref s.a, .str u 0, .str l 0] (fun r H' => H' = H ∧ r = .bool (s.f.fits u l)) := by
  refine' Spec.of ?ho ?hcd ?hb ?hnm ?hco ?hgen ?hk ?hcell ?h
  case ho => k_is
  case hcd => k_is
  case hb => ((first | (with_reducible refine all0 ?_) | (with_reducible refine all1 ?_) | (with_reducible refine all2 ?_) | (with_reducible refine all3 ?_) | (with_reducible refine all4 ?_) | (with_reducible refine all5 ?_) | (with_reducible refine all6 ?_) | (with_reducible refine all7 ?_)); intros; exact BindsTo.of_eq rfl)
  case hnm => decide
  case hco => rfl
  case hgen => rfl
  case hk => rfl
  case hcell => decide
  try (conv in (occs := *) (pSub _) => whnf)
  try (conv in (occs := *) (pSco _) => whnf)
  try (conv in (occs := *) (pPar _) => whnf)
  intro c O
  refine ex_cons ?_
  refine st_if ?_
  refine tst_cmp ?_
  refine ev_attr (by assumption) ?_
  refine ev_loc (by assumption) rfl ?_
  refine ⟨_, h.at (as_local w) rfl (ov_handed _), ?_⟩
  refine ev_none ?_
  with_reducible refine ⟨_, .isnt, ?_⟩
  cases hl : s.f.loc with
  | some fl =>
    refine ite_isT rfl ?_
    refine ex_cons ?_
    refine st_return ?_
    refine ev_cmp ?_
    refine ev_tuple ?_
    refine ar_cons ?_
    refine ev_attr (by assumption) ?_
    refine ev_loc (by assumption) rfl ?_
    refine ⟨_, h.at (as_uri w) rfl (ov_handed _), ?_⟩
    refine ar_cons ?_
    refine ev_attr (by assumption) ?_
    refine ev_loc (by assumption) rfl ?_
    refine ⟨_, h.at (as_local w) rfl (ov_handed _), ?_⟩
    refine ar_nil ?_
    refine ⟨by simp, fun a h1 h1' => ?_⟩
    refine ev_tuple ?_
    refine ar_cons ?_
    refine ev_loc (by assumption) rfl ?_
    refine ar_cons ?_
    refine ev_loc (by assumption) rfl ?_
    refine ar_nil ?_
    refine ⟨by simp, fun b h2 h2' => ?_⟩
    have e2 := hset_self (hset H a (.tuple [ov s.f.uri, ov s.f.loc])) b (.tuple [.str u 0, .str l 0])
    have e1 : hset (hset H a (.tuple [ov s.f.uri, ov s.f.loc])) b (.tuple [.str u 0, .str l 0]) a = some (.tuple [ov s.f.uri, ov s.f.loc]) := by
      rw [hset_ne, hset_self]
      intro q; rw [q, ← q, hset_self] at h2; cases h2
    refine ⟨s.f.fits u l, CmpIs.eqt O e1 e2 rfl ?_, ?_⟩
    · rw [hl]
      cases hu : s.f.uri with
      | none => simp [lveq, veq, ov, Form.fits, hl, hu]
      | some fu => simp [lveq, veq, ov, Form.fits, hl, hu]
    with_reducible refine next_ret ?_
    with_reducible refine next_ret ?_
    exact ⟨H, (Sub.new h1).trans (Sub.new h2), rfl, rfl⟩
  | none =>
    refine ite_isF rfl ?_
    refine ex_nil ?_
    with_reducible refine next_next ?_
    refine ex_cons ?_
    refine st_return ?_
    refine ev_boolop_or ?_
    refine ev_cmp ?_
    refine ev_attr (by assumption) ?_
    refine ev_loc (by assumption) rfl ?_
    refine ⟨_, h.at (as_uri w) rfl (ov_handed _), ?_⟩
    refine ev_none ?_
    with_reducible refine ⟨_, .isn, ?_⟩
    refine ⟨_, rfl, ?_⟩
    cases hu : s.f.uri with
    | none =>
      refine ite_isT rfl ?_
      with_reducible refine next_ret ?_
      exact ⟨H, Sub.refl, rfl, by simp [retOf, Form.fits, hl, hu, ov]⟩
    | some fu =>
      refine ite_isF rfl ?_
      refine ev_boolop_one ?_
      refine ev_cmp ?_
      refine ev_attr (by assumption) ?_
      refine ev_loc (by assumption) rfl ?_
      refine ⟨_, h.at (as_uri w) rfl (ov_handed _), ?_⟩
      rw [hu]
      refine ev_loc (by assumption) rfl ?_
      with_reducible refine ⟨_, .eqs, ?_⟩
      with_reducible refine next_ret ?_
      exact ⟨H, Sub.refl, rfl, by simp [retOf, Form.fits, hl, hu]⟩
end
end Mine
end

section
open PySem PySem.W PySem.Spec PySem.Calls PyProof.Rows
set_option Elab.async false
set_option maxRecDepth 100000
set_option maxHeartbeats 8000000
namespace Mine
theorem fillD2 : (PySem.Challenge.rw_on0188_01 = PySem.Challenge.rw_on0188_01) ∧ hK = hK := by
  k_fill
  exact ⟨rfl, rfl⟩
def amStr (l : Addr) (u x : Str) (a : Bool × Int) : AM := [("strips", .ref l), ("uri", .str u 0), ("local", .str x 0), ("told", .bool a.1), ("rank", .int a.2 0)]
def accS (S : List StripA) (u x : Str) (i : Nat) : Bool × Int := (S.take i).foldl (fun a s => toldF u x a s.f) (false, -1)
structure StripsIs (H : AH) (l : Addr) (S : List StripA) : Prop where
  l : H l = some (.list (S.map fun s => .ref s.a))
  s : ∀ s ∈ S, StripIs H s
  z : S.length ≤ 900
theorem foldl_snoc {α β : Type} (f : β → α → β) (b : β) {l : List α} {i : Nat} {x : α} (h : l[i]? = some x) : (l.take (i + 1)).foldl f b = f ((l.take i).foldl f b) x := by
  rw [List.take_succ, h, List.foldl_append]; rfl
theorem take_len {α : Type} (l : List α) : l.take l.length = l := List.take_length
theorem map_at {α β : Type} {f : α → β} {l : List α} {i : Nat} {v : β} (h : (l.map f)[i]? = some v) : ∃ x, l[i]? = some x ∧ f x = v := by simpa using h
section
variable {w : World} {n : Nat} {c : Cx} {am : AM} {H : AH}
theorem itb_listK {target : Expr} {l : Addr} {vs : List Value} {k : Nat} (ht : TgOk target) (e : H l = some (.list vs)) (hk : vs.length = k) : Itb w c target (.ref l) k (fun H => H l = some (.list vs)) (fun i v H H' => vs[i]? = some v ∧ H' = H) H H := hk ▸ itb_list ht e
theorem st_assign_sw2 {a b : Str} {elts : List Expr} {kk : Nat} {tpos pos : Pos} {value : Expr} {Q : Flow → AM → AH → Prop} (O : c.Ok w n)
    (h : Ev w c c.env value am H fun v am H => ∃ (t : Addr) (u v' : Value), v = .ref t ∧ H t = some (.tuple [u, v']) ∧ Q .next ((a, u) :: (b, v') :: am) H)
    (hs : swapsWithSole [.Tuple elts kk tpos] value pos.line c.env = pure false := by rfl) (hw : swappedStores [.Tuple elts kk tpos] value c.env = pure (some [a, b]) := by rfl)
    (hl : c.env.kindOf a = some .local := by rfl) (hl2 : c.env.kindOf b = some .local := by rfl) : St w c c.env (.Assign [.Tuple elts kk tpos] value pos) am H Q :=
  st_assign_sw (names := [a, b]) (Tr.mono h fun v am H ⟨t, u, v', e1, e2, q⟩ => ⟨t, [u, v'], e1, e2, rfl, fun _ e => Tr.mono (as_bind O (x := b) (v := v') (Q := fun am H => Q .next ((a, u) :: am) H) q hl2 _ e) fun _ am H q _ e => as_bind O (x := a) (v := u) (Q := fun am H => Q .next am H) q hl _ e⟩) hs hw
theorem sp_is_stripped {l : Addr} {S : List StripA} {u x : Str} (h : StripsIs H l S) :
    Spec w (.ref 130) 4 H [.ref l, .str u 0, .str x 0] (fun r H' => H' = H ∧ r = .bool (isStr (S.map (·.f)) u x)) := by
  refine' Spec.of ?ho ?hcd ?hb ?hnm ?hco ?hgen ?hk ?hcell ?h
  case ho => k_is
  case hcd => k_is
  case hb => ((first | (with_reducible refine all0 ?_) | (with_reducible refine all1 ?_) | (with_reducible refine all2 ?_) | (with_reducible refine all3 ?_) | (with_reducible refine all4 ?_) | (with_reducible refine all5 ?_) | (with_reducible refine all6 ?_) | (with_reducible refine all7 ?_)); intros; exact BindsTo.of_eq rfl)
  case hnm => decide
  case hco => rfl
  case hgen => rfl
  case hk => rfl
  case hcell => decide
  try (conv in (occs := *) (pSub _) => whnf)
  try (conv in (occs := *) (pSco _) => whnf)
  try (conv in (occs := *) (pPar _) => whnf)
  intro c O
  refine ex_cons ?_
  refine st_assign_tup ?_
  refine ev_tuple ?_
  refine ar_cons ?_
  refine ev_bool ?_
  refine ar_cons ?_
  refine ev_neg ?_
  refine ev_int ?_
  refine ⟨_, rfl, ?_⟩
  refine ar_nil ?_
  refine ⟨by simp, fun a ha _ => ?_⟩
  refine as_tup2 (hset_self _ _ _) (as_name O (as_name O ?_))
  refine next_next ?_
  refine Tr.wk ⟨amStr l u x (false, -1), H, by (unfold amStr; (repeat (first | exact amsub_nil | refine amsub_cons rfl ?_))), Sub.new ha, ?_⟩
  refine ex_cons ?_
  refine st_for ?_
  refine ev_loc (by assumption) rfl ?_
  refine ⟨S.length, _, _, _, fun i am H' => H' = H ∧ am = amStr l u x (accS S u x i), itb_listK (by exact trivial) h.l (by simp), Sub.refl, ⟨rfl, rfl⟩, ?_, ?_, ?_⟩
  · rintro _ _ _ ⟨rfl, rfl⟩; exact h.l
  · rintro i _ _ v H hi ⟨rfl, rfl⟩ ⟨hv, rfl⟩
    obtain ⟨s, hs, rfl⟩ := map_at hv
    have hS := h.s s (List.mem_of_getElem? hs)
    generalize ha : accS S u x i = acc
    have hb : accS S u x (i + 1) = toldF u x acc s.f := by rw [← ha]; exact foldl_snoc (fun a (s : StripA) => toldF u x a s.f) (false, -1) hs
    refine as_name O ?_
    unfold amStr
    refine ex_cons ?_
    refine st_if ?_
    refine tst_and ?_
    refine tst_plain ?_
    refine ev_meth (by assumption) ?_
    refine ev_loc (by assumption) rfl ?_
    refine ⟨_, GetM.inst O hS.1 hS.2 (ms_fits w) rfl, ?_⟩
    refine ⟨.ref (by k_is), ?_⟩
    refine ar_cons ?_
    refine ev_loc (by assumption) rfl ?_
    refine ar_cons ?_
    refine ev_loc (by assumption) rfl ?_
    refine ar_nil ?_
    refine (sp_fits hS).use O (by decide) ?_
    rintro _ H ⟨rfl, rfl⟩
    refine ⟨_, rfl, ?_⟩
    cases hf : s.f.fits u x with
    | false =>
      refine ite_isF rfl ?_
      refine ite_f ?_
      refine ex_nil ?_
      with_reducible refine next_next ?_
      refine ex_nil ?_
      exact ⟨amStr l u x acc, H, by unfold amStr; (repeat (first | exact amsub_nil | refine amsub_cons rfl ?_)), Sub.refl, rfl, by show _ = amStr l u x (accS S u x (i + 1)); rw [hb]; simp [toldF, hf]⟩
    | true =>
      refine ite_isT rfl ?_
      refine tst_and ?_
      refine tst_cmp ?_
      refine ev_meth0 (by assumption) ?_
      refine ev_loc (by assumption) rfl ?_
      refine ⟨_, GetM.inst O hS.1 hS.2 (ms_rank w) rfl, ?_⟩
      refine ⟨.ref (by k_is), ?_⟩
      refine (sp_rank hS).use O (by decide) ?_
      rintro _ H ⟨rfl, rfl⟩
      refine ev_loc (by assumption) rfl ?_
      with_reducible refine ⟨_, .ge, ?_⟩
      refine ite_b (fun hr => ?_) (fun hr => ?_)
      · refine tst_and_nil ?_
        refine ite_t ?_
        refine ex_cons ?_
        refine st_assign_sw2 O (a := "told") (b := "rank") ?_
        refine ev_tuple ?_
        refine ar_cons ?_
        refine ev_attr (by assumption) ?_
        refine ev_loc (by assumption) rfl ?_
        refine ⟨_, hS.at (as_goes w) rfl rfl, ?_⟩
        refine ar_cons ?_
        refine ev_meth0 (by assumption) ?_
        refine ev_loc (by assumption) rfl ?_
        refine ⟨_, GetM.inst O hS.1 hS.2 (ms_rank w) rfl, ?_⟩
        refine ⟨.ref (by k_is), ?_⟩
        refine (sp_rank hS).use O (by decide) ?_
        rintro _ H ⟨rfl, rfl⟩
        refine ar_nil ?_
        refine ⟨by simp, fun b hb' _ => ?_⟩
        refine ⟨b, _, _, rfl, hset_self _ _ _, ?_⟩
        with_reducible refine next_next ?_
        refine ex_nil ?_
        with_reducible refine next_next ?_
        refine ex_nil ?_
        exact ⟨amStr l u x (s.f.goes, s.f.rank), H, by unfold amStr; (repeat (first | exact amsub_nil | refine amsub_cons rfl ?_)), Sub.new hb', rfl, by show _ = amStr l u x (accS S u x (i + 1)); rw [hb]; simp at hr; simp [toldF, hf, hr]⟩
      · refine ite_f ?_
        refine ex_nil ?_
        with_reducible refine next_next ?_
        refine ex_nil ?_
        exact ⟨amStr l u x acc, H, by unfold amStr; (repeat (first | exact amsub_nil | refine amsub_cons rfl ?_)), Sub.refl, rfl, by show _ = amStr l u x (accS S u x (i + 1)); rw [hb]; simp at hr; simp [toldF, hf]; rw [if_neg (by omega)]⟩
  · rintro _ H ⟨rfl, rfl⟩
    unfold amStr
    with_reducible refine next_next ?_
    refine ex_cons ?_
    refine st_return ?_
    refine ev_loc (by assumption) rfl ?_
    with_reducible refine next_ret ?_
    exact ⟨_, Sub.refl, rfl, by rw [accS, take_len]; simp [retOf, isStr, List.foldl_map]⟩
end
end Mine
end

section
open PySem PySem.W PySem.Spec PySem.Calls PyProof.Rows
set_option Elab.async false
set_option maxRecDepth 100000
set_option maxHeartbeats 8000000
namespace Mine
theorem fillD3 : (PySem.Challenge.rw_on0188_01 = PySem.Challenge.rw_on0188_01) ∧ hK = hK := by
  k_fill
  exact ⟨rfl, rfl⟩
def Row.vals (r : Row) : List Value := [nv r.node, .str r.kind 0, oval r.up, .str r.uri 0, .str r.loc 0, ov r.word, .bool r.blank]
structure RowsIs (H : AH) (ra : Addr) (RA : List (Addr × Row)) : Prop where
  l : H ra = some (.list (RA.map fun p => .ref p.1))
  t : ∀ p ∈ RA, H p.1 = some (.tuple p.2.vals)
def rowsOf (RA : List (Addr × Row)) : List Row := RA.map (·.2)
theorem rowsOf_len (RA : List (Addr × Row)) : (rowsOf RA).length = RA.length := by simp [rowsOf]
theorem rowsOf_at {RA : List (Addr × Row)} {s : Nat} {r : Row} (h : (rowsOf RA)[s]? = some r) : ∃ p, RA[s]? = some p ∧ p.2 = r := by simpa [rowsOf] using h
theorem CmpIs.eqns' {w : World} {c : Cx} {H : AH} {j : Str} : CmpIs w c H .Eq .none (.str j 0) false := CmpIs.eqns
section
variable {w : World} {n : Nat} {c : Cx} {am : AM} {H : AH}
theorem RowsIs.row {ra : Addr} {RA : List (Addr × Row)} (h : RowsIs H ra RA) {s : Nat} {r : Row} (e : (rowsOf RA)[s]? = some r) (hz : (rowsOf RA).length ≤ 100) : ∃ a, SubIs H (.ref ra) (nv s) (.ref a) ∧ H a = some (.tuple r.vals) := by
  obtain ⟨p, hp, rfl⟩ := rowsOf_at e
  rw [rowsOf_len] at hz
  exact ⟨p.1, sub_l h.l (by simp [hp]) (by simp; omega), h.t p (List.mem_of_getElem? hp)⟩
def amKept (ra : Addr) (at_ : Value) : AM := [("rows", .ref ra), ("at", at_)]
theorem sp_is_kept {ra : Addr} {RA : List (Addr × Row)} (h : RowsIs H ra RA) (W : Wf (rowsOf RA)) {s : Nat} {r : Row} (e : (rowsOf RA)[s]? = some r) :
    Spec w (.ref 395) 2 H [.ref ra, nv s] (fun v H' => H' = H ∧ v = .bool (kept (rowsOf RA) s)) := by
  refine' Spec.of ?ho ?hcd ?hb ?hnm ?hco ?hgen ?hk ?hcell ?h
  case ho => k_is
  case hcd => k_is
  case hb => ((first | (with_reducible refine all0 ?_) | (with_reducible refine all1 ?_) | (with_reducible refine all2 ?_) | (with_reducible refine all3 ?_) | (with_reducible refine all4 ?_) | (with_reducible refine all5 ?_) | (with_reducible refine all6 ?_) | (with_reducible refine all7 ?_)); intros; exact BindsTo.of_eq rfl)
  case hnm => decide
  case hco => rfl
  case hgen => rfl
  case hk => rfl
  case hcell => decide
  try (conv in (occs := *) (pSub _) => whnf)
  try (conv in (occs := *) (pSco _) => whnf)
  try (conv in (occs := *) (pPar _) => whnf)
  intro c O
  refine Tr.wk ⟨amKept ra (nv s), H, by unfold amKept; (repeat (first | exact amsub_nil | refine amsub_cons rfl ?_)), Sub.refl, ?_⟩
  refine ex_cons ?_
  refine st_while (fun k am H' => H' = H ∧ ((am = amKept ra .none ∧ kept (rowsOf RA) s = false) ∨ ∃ s' r', (rowsOf RA)[s']? = some r' ∧ am = amKept ra (nv s') ∧ kept (rowsOf RA) s = kept (rowsOf RA) s' ∧ k = s' + 1)) (s + 1) ⟨rfl, .inr ⟨s, r, e, rfl, rfl, rfl⟩⟩ ?_
  rintro k _ H ⟨rfl, hJ⟩
  rcases hJ with ⟨rfl, hk⟩ | ⟨s', r', e', rfl, hk, rfl⟩
  · unfold amKept
    refine tst_and ?_
    refine tst_cmp ?_
    refine ev_loc (by assumption) rfl ?_
    refine ev_none ?_
    with_reducible refine ⟨_, .isnt, ?_⟩
    refine ite_isF rfl ?_
    refine ite_f ?_
    with_reducible refine next_next ?_
    refine ex_cons ?_
    refine st_return ?_
    refine ev_bool ?_
    with_reducible refine next_ret ?_
    exact ⟨_, Sub.refl, rfl, by rw [hk]; rfl⟩
  · obtain ⟨a, hs, ht⟩ := h.row e' W.sz
    obtain ⟨k1, k2, k3, k4⟩ := kept_step W e'
    unfold amKept
    refine tst_and ?_
    refine tst_cmp ?_
    refine ev_loc (by assumption) rfl ?_
    refine ev_none ?_
    with_reducible refine ⟨_, .isnt, ?_⟩
    refine ite_isT rfl ?_
    refine tst_and ?_
    refine tst_cmp ?_
    refine ev_sub ?_
    refine ev_sub ?_
    refine ev_loc (by assumption) rfl ?_
    refine ev_loc (by assumption) rfl ?_
    refine ⟨_, hs, ?_⟩
    refine ev_int ?_
    refine ⟨_, sub_t (k := 1) ht rfl (by simp [Row.vals]), ?_⟩
    refine ev_str ?_
    with_reducible refine ⟨_, .eqs, ?_⟩
    by_cases hr : r'.kind = "element"
    · refine ite_isT (by simp [hr]) ?_
      refine tst_and_nil ?_
      refine ite_t ?_
      refine ex_cons ?_
      refine st_if ?_
      refine tst_cmp ?_
      refine ev_sub ?_
      refine ev_sub ?_
      refine ev_loc (by assumption) rfl ?_
      refine ev_loc (by assumption) rfl ?_
      refine ⟨_, hs, ?_⟩
      refine ev_int ?_
      refine ⟨_, sub_t (k := 5) ht rfl (by simp [Row.vals]), ?_⟩
      refine ev_none ?_
      with_reducible refine ⟨_, .isnt, ?_⟩
      cases hw : r'.word with
      | some v =>
        refine ite_isT (by rfl) ?_
        refine ex_cons ?_
        refine st_return ?_
        refine ev_cmp ?_
        refine ev_sub ?_
        refine ev_sub ?_
        refine ev_loc (by assumption) rfl ?_
        refine ev_loc (by assumption) rfl ?_
        refine ⟨_, hs, ?_⟩
        refine ev_int ?_
        refine ⟨_, sub_t (k := 5) ht rfl (by simp [Row.vals]), ?_⟩
        refine ev_str ?_
        rw [hw]
        with_reducible refine ⟨_, .eqs, ?_⟩
        with_reducible refine next_ret ?_
        with_reducible refine next_ret ?_
        exact ⟨_, Sub.refl, rfl, by rw [hk, k1 hr v hw]; rfl⟩
      | none =>
        refine ite_isF (by rfl) ?_
        refine ex_nil ?_
        with_reducible refine next_next ?_
        refine ex_cons ?_
        refine st_assign (by assumption) ?_
        refine ev_sub ?_
        refine ev_sub ?_
        refine ev_loc (by assumption) rfl ?_
        refine ev_loc (by assumption) rfl ?_
        refine ⟨_, hs, ?_⟩
        refine ev_int ?_
        refine ⟨_, sub_t (k := 2) ht rfl (by simp [Row.vals]), ?_⟩
        with_reducible refine next_next ?_
        refine ex_nil ?_
        cases hu : r'.up with
        | none => exact ⟨amKept ra .none, H, by unfold amKept; (repeat (first | exact amsub_nil | refine amsub_cons rfl ?_)), Sub.refl, 0, Nat.succ_pos _, rfl, .inl ⟨rfl, by rw [hk, k4 hr hw hu]⟩⟩
        | some u =>
          have h0 : s' ≠ 0 := fun q => by
            subst q
            obtain ⟨r0, e0, _, hu0⟩ := W.root
            rw [e'] at e0; cases e0; rw [hu] at hu0; cases hu0
          obtain ⟨_, u', ru, hu', hlt, eu, _⟩ := W.up s' r' e' h0
          rw [hu] at hu'; cases hu'
          exact ⟨amKept ra (nv u), H, by unfold amKept; (repeat (first | exact amsub_nil | refine amsub_cons rfl ?_)), Sub.refl, u + 1, Nat.succ_lt_succ hlt, rfl, .inr ⟨u, ru, eu, rfl, by rw [hk, k2 hr hw u hu hlt], rfl⟩⟩
    · refine ite_isF (by simp [hr]) ?_
      refine ite_f ?_
      with_reducible refine next_next ?_
      refine ex_cons ?_
      refine st_return ?_
      refine ev_bool ?_
      with_reducible refine next_ret ?_
      exact ⟨_, Sub.refl, rfl, by rw [hk, k3 hr]; rfl⟩
end
end Mine
end

section
open PySem PySem.W PySem.Spec PySem.Calls PyProof.Rows
set_option Elab.async false
set_option maxRecDepth 100000
set_option maxHeartbeats 8000000
namespace Mine
theorem fillD4 : (PySem.Challenge.rw_on0188_01 = PySem.Challenge.rw_on0188_01) ∧ hK = hK := by
  k_fill
  exact ⟨rfl, rfl⟩
section
variable {w : World} {n : Nat} {c : Cx} {am : AM} {H : AH}
theorem Doc.node {t : TreeA} {R : List Row} {G : Nat → Bool} (D : Doc t.pns R G) {s : Nat} {r : Row} (e : R[s]? = some r) : ∃ x, t.ns[r.node]? = some x ∧ RowAt t.pns r x.pn ∧ x.par = parOf R G s r ∧ (isC r → x.ch = due R G s) := by
  obtain ⟨p, hp, h1, h2, h3⟩ := D.rows s r e
  obtain ⟨x, hx, rfl⟩ := TreeA.pns_at hp
  exact ⟨x, hx, h1, h2, h3⟩
theorem Doc.notG {P : List PN} {R : List Row} {G : Nat → Bool} (D : Doc P R G) {s : Nat} {r : Row} (e : R[s]? = some r) (h : r.kind ≠ "text") : G s = false := by
  cases q : G s with
  | false => rfl
  | true => exact absurd (D.wf.bl s r e (D.gb s r e q)) h
def amKeeps (T : Addr) (v : Value) : AM := [("tree", .ref T), ("here", v)]
theorem nodeOf_at {R : List Row} {s : Nat} {r : Row} (e : R[s]? = some r) : nodeOf R s = r.node := by simp [nodeOf, e]
theorem sp_keeps {t : TreeA} {R : List Row} {G : Nat → Bool} (D : Doc t.pns R G) (h : IsTree H t) {s : Nat} {r : Row} (e : R[s]? = some r) :
    Spec w (.ref 81) 4 H [.ref t.T, nv r.node] (fun v H' => H' = H ∧ v = .bool (kept R s)) := by
  have W := D.wf
  refine' Spec.of ?ho ?hcd ?hb ?hnm ?hco ?hgen ?hk ?hcell ?h
  case ho => k_is
  case hcd => k_is
  case hb => ((first | (with_reducible refine all0 ?_) | (with_reducible refine all1 ?_) | (with_reducible refine all2 ?_) | (with_reducible refine all3 ?_) | (with_reducible refine all4 ?_) | (with_reducible refine all5 ?_) | (with_reducible refine all6 ?_) | (with_reducible refine all7 ?_)); intros; exact BindsTo.of_eq rfl)
  case hnm => decide
  case hco => rfl
  case hgen => rfl
  case hk => rfl
  case hcell => decide
  try (conv in (occs := *) (pSub _) => whnf)
  try (conv in (occs := *) (pSco _) => whnf)
  try (conv in (occs := *) (pPar _) => whnf)
  intro c O
  refine ex_cons ?_
  refine st_assign (by assumption) ?_
  refine ev_loc (by assumption) rfl ?_
  with_reducible refine next_next ?_
  refine ex_cons ?_
  refine Tr.wk ⟨amKeeps t.T (nv r.node), H, by unfold amKeeps; (repeat (first | exact amsub_nil | refine amsub_cons rfl ?_)), Sub.refl, ?_⟩
  refine st_while (fun k am H' => H' = H ∧ ((am = amKeeps t.T .none ∧ kept R s = false) ∨ ∃ s' r', R[s']? = some r' ∧ am = amKeeps t.T (nv r'.node) ∧ kept R s = kept R s' ∧ k = s' + 1)) (s + 1) ⟨rfl, .inr ⟨s, r, e, rfl, rfl, rfl⟩⟩ ?_
  rintro k _ H ⟨rfl, hJ⟩
  rcases hJ with ⟨rfl, hk⟩ | ⟨s', r', e', rfl, hk, rfl⟩
  · unfold amKeeps
    refine tst_and ?_
    refine tst_cmp ?_
    refine ev_loc (by assumption) rfl ?_
    refine ev_none ?_
    with_reducible refine ⟨_, .isnt, ?_⟩
    refine ite_isF rfl ?_
    refine ite_f ?_
    with_reducible refine next_next ?_
    refine ex_cons ?_
    refine st_return ?_
    refine ev_bool ?_
    with_reducible refine next_ret ?_
    exact ⟨_, Sub.refl, rfl, by rw [hk]; rfl⟩
  · obtain ⟨x, ex, rx, px, cx⟩ := D.node e'
    obtain ⟨k1, k2, k3, k4⟩ := kept_step W e'
    unfold amKeeps
    refine tst_and ?_
    refine tst_cmp ?_
    refine ev_loc (by assumption) rfl ?_
    refine ev_none ?_
    with_reducible refine ⟨_, .isnt, ?_⟩
    refine ite_isT rfl ?_
    refine tst_and ?_
    refine tst_cmp ?_
    refine ev_meth (by assumption) ?_
    refine ev_loc (by assumption) rfl ?_
    refine ⟨_, h.meth O (mo_kind w), ?_⟩
    refine ⟨.ref (by k_is), ?_⟩
    refine ar_cons ?_
    refine ev_loc (by assumption) rfl ?_
    refine ar_nil ?_
    refine (sp_kind w h ex).use O (by decide) ?_
    rintro _ H ⟨rfl, rfl⟩
    refine ev_str ?_
    with_reducible refine ⟨_, .eqs, ?_⟩
    by_cases hr : r'.kind = "element"
    · refine ite_isT (by rw [show x.kind = r'.kind from rx.kind, hr]; rfl) ?_
      refine tst_and_nil ?_
      refine ite_t ?_
      refine ex_cons ?_
      refine st_for ?_
      refine ev_meth (by assumption) ?_
      refine ev_loc (by assumption) rfl ?_
      refine ⟨_, h.meth O (mo_attributes w), ?_⟩
      refine ⟨.ref (by k_is), ?_⟩
      refine ar_cons ?_
      refine ev_loc (by assumption) rfl ?_
      refine ar_nil ?_
      refine (sp_attributes w h ex).use O (by decide) ?_
      rintro _ H2 ⟨b, hb, _, rfl, rfl⟩
      have hL := hset_self H b (.list (x.ats.map nv))
      cases hw : r'.word with
      | some v =>
        have wa := rx.word
        rw [hw] at wa
        obtain ⟨a, q, ha, hq, hqn, hqv⟩ := wa
        obtain ⟨z, ez, rfl⟩ := TreeA.pns_at hq
        have hats : x.ats = [a] := ha
        rw [hats] at hL ⊢
        have hT := h.new (o := .list ([a].map nv)) hb
        refine ⟨1, _, _, _, fun i am H' => i = 0 ∧ am = amKeeps t.T (nv r'.node) ∧ H' = hset H b (.list ([a].map nv)), itb_listK (by exact trivial) hL rfl, Sub.refl, ⟨rfl, rfl, rfl⟩, ?_, ?_, ?_⟩
        · rintro _ _ _ ⟨_, _, rfl⟩; exact hL
        · rintro i _ _ v' H3 hi ⟨rfl, rfl, rfl⟩ ⟨hv, rfl⟩
          cases hv
          refine as_name O ?_
          unfold amKeeps
          refine ex_cons ?_
          refine st_if ?_
          refine tst_cmp ?_
          refine ev_meth (by assumption) ?_
          refine ev_loc (by assumption) rfl ?_
          refine ⟨_, hT.meth O (mo_name w), ?_⟩
          refine ⟨.ref (by k_is), ?_⟩
          refine ar_cons ?_
          refine ev_loc (by assumption) rfl ?_
          refine ar_nil ?_
          refine (sp_name w hT ez).use O (by decide) ?_
          rintro _ H3 ⟨rfl, rfl⟩
          refine ev_str ?_
          with_reducible refine ⟨_, .eqs, ?_⟩
          refine ite_isT (by rw [show z.name = "xml:space" from hqn]; rfl) ?_
          refine ex_cons ?_
          refine st_return ?_
          refine ev_cmp ?_
          refine ev_meth (by assumption) ?_
          refine ev_loc (by assumption) rfl ?_
          refine ⟨_, hT.meth O (mo_value w), ?_⟩
          refine ⟨.ref (by k_is), ?_⟩
          refine ar_cons ?_
          refine ev_loc (by assumption) rfl ?_
          refine ar_nil ?_
          refine (sp_value w hT ez).use O (by decide) ?_
          rintro _ H3 ⟨h3, rfl⟩
          refine ev_str ?_
          with_reducible refine ⟨_, .eqs, ?_⟩
          with_reducible refine next_ret ?_
          with_reducible refine next_ret ?_
          rw [h3]
          exact ⟨H, Sub.new hb, rfl, by rw [hk, k1 hr v hw, show z.value = v from hqv]; rfl⟩
        · rintro _ _ ⟨h1, _⟩; cases h1
      | none =>
        have wa := rx.word
        rw [hw] at wa
        have hats : x.ats = [] := wa
        rw [hats] at hL ⊢
        refine ⟨0, _, _, _, fun i am H' => am = amKeeps t.T (nv r'.node) ∧ H' = hset H b (.list (([] : List Nat).map nv)), itb_listK (by exact trivial) hL rfl, Sub.refl, ⟨rfl, rfl⟩, ?_, ?_, ?_⟩
        · rintro _ _ _ ⟨_, rfl⟩; exact hL
        · intro i _ _ _ _ hi; cases hi
        · rintro _ _ ⟨rfl, rfl⟩
          have hT := h.new (o := .list (([] : List Nat).map nv)) hb
          unfold amKeeps
          with_reducible refine next_next ?_
          refine ex_cons ?_
          refine st_assign (by assumption) ?_
          refine ev_meth (by assumption) ?_
          refine ev_loc (by assumption) rfl ?_
          refine ⟨_, hT.meth O (mo_parent w), ?_⟩
          refine ⟨.ref (by k_is), ?_⟩
          refine ar_cons ?_
          refine ev_loc (by assumption) rfl ?_
          refine ar_nil ?_
          refine (sp_parent w hT ex).use O (by decide) ?_
          rintro _ H3 ⟨h3, rfl⟩
          with_reducible refine next_next ?_
          refine ex_nil ?_
          rw [h3, px, parOf, if_neg (by rw [D.notG e' (by rw [hr]; decide)]; decide)]
          cases hu : r'.up with
          | none => exact ⟨amKeeps t.T .none, H, by unfold amKeeps; (repeat (first | exact amsub_nil | refine amsub_cons rfl ?_)), Sub.new hb, 0, Nat.succ_pos _, rfl, .inl ⟨rfl, by rw [hk, k4 hr hw hu]⟩⟩
          | some u =>
            have h0 : s' ≠ 0 := fun q => by
              subst q
              obtain ⟨r0, e0, _, hu0⟩ := W.root
              rw [e'] at e0; cases e0; rw [hu] at hu0; cases hu0
            obtain ⟨_, u', ru, hu', hlt, eu, _⟩ := W.up s' r' e' h0
            rw [hu] at hu'; cases hu'
            have hno : oval (Option.map (nodeOf R) (some u)) = nv ru.node := by simp [oval, nodeOf_at eu]
            rw [hno]
            exact ⟨amKeeps t.T (nv ru.node), H, by unfold amKeeps; (repeat (first | exact amsub_nil | refine amsub_cons rfl ?_)), Sub.new hb, u + 1, Nat.succ_lt_succ hlt, rfl, .inr ⟨u, ru, eu, rfl, by rw [hk, k2 hr hw u hu hlt], rfl⟩⟩
    · refine ite_isF (by rw [show x.kind = r'.kind from rx.kind]; simp [hr]) ?_
      refine ite_f ?_
      with_reducible refine next_next ?_
      refine ex_cons ?_
      refine st_return ?_
      refine ev_bool ?_
      with_reducible refine next_ret ?_
      exact ⟨_, Sub.refl, rfl, by rw [hk, k3 hr]; rfl⟩
end
end Mine
end

section
open PySem PySem.W PySem.Spec PySem.Calls PyProof.Rows
set_option Elab.async false
set_option maxRecDepth 100000
set_option maxHeartbeats 8000000
namespace Mine
theorem fillD5 : (PySem.Challenge.rw_on0188_01 = PySem.Challenge.rw_on0188_01) ∧ hK = hK := by
  k_fill
  exact ⟨rfl, rfl⟩
def Form.vals (f : Form) : List Value := [ov f.uri, ov f.loc, .bool f.goes]
structure FormsIs (H : AH) (l : Addr) (FA : List (Addr × Form)) : Prop where
  l : H l = some (.list (FA.map fun p => .ref p.1))
  t : ∀ p ∈ FA, H p.1 = some (.tuple p.2.vals)
  z : FA.length ≤ 900
def formsOf (FA : List (Addr × Form)) : List Form := FA.map (·.2)
section
variable {w : World} {n : Nat} {c : Cx} {env : Env} {am : AM} {H : AH}
def IsLam (H : AH) (a : Addr) : Prop := ∃ params body scope q c', H a = some (.lam params body scope q c')
theorem HR.fnAt {h₀ h : Heap} {L a : Addr} {X : PX} (R : HR h₀ L h H X) (e : IsLam H a) : FnAt a h := by
  obtain ⟨params, body, scope, q, c', e⟩ := e
  obtain ⟨ob, g, r⟩ := R.get e
  generalize qq : AObj.lam params body scope q c' = z at r
  cases r <;> cases qq
  exact ⟨_, _, _, _, g⟩
theorem ev_callL {func e : Expr} {rest : List Expr} {pos : Pos} {Q : Value → AM → AH → Prop}
    (h : Ev w c env func am H fun f am H => ∃ a, f = .ref a ∧ IsLam H a ∧ Args w c env pos (e :: rest) am H fun vs am H => IsLam H a ∧ CallIs w c f vs am H Q)
    (he : eval (.Call func (e :: rest) [] pos) env = (do callWith pos (← eval func env) [] (backTo pos (starEach (e :: rest) env)) (backToKw pos (keywordEach [] env))) := by rfl)
    (h1 : starEach (e :: rest) env = (false, eval e env) :: starEach rest env := by rfl)
    (h2 : ((backTo pos (starEach rest env)).any fun x => x.fst) = false := by rfl) : Ev w c env (.Call func (e :: rest) [] pos) am H Q :=
  fun s m X P F M R k => Call_ (h s m X _ F M R fun f s1 m1 am1 H1 F1 M1 R1 ⟨a, ef, hl, ha⟩ => by
    obtain rfl := sv_ref ef
    exact callWith_F (R1.fnAt hl) (ha s1 m1 X _ F1 M1 R1 fun vs s2 m2 am2 H2 F2 M2 R2 ⟨hl2, h2⟩ => ⟨R2.fnAt hl2, h2 vs rfl s2 m2 X _ F2 M2 R2 k⟩) h1 h2) he
theorem keepC {H : AH} {a b : Addr} {v : Option Value} {o o' : AObj} (hc : H a = some (.cell v)) (hb : H b = some o) (ho : ∀ v, o ≠ .cell v) : hset H a o' b = some o := by
  rw [hset_ne]; exact hb
  intro q; subst q; rw [hc] at hb; cases hb; exact ho v rfl
theorem TabOk.set {H : AH} {q : Str} {a : Addr} {v : Option Value} {o' : AObj} (h : TabOk q H) (hc : H a = some (.cell v)) : TabOk q (hset H a o') := by
  obtain ⟨l, e, hl⟩ := h
  exact ⟨l, keepC hc e (fun _ q => nomatch q), fun x hx => keepC hc (hl x hx) (fun _ q => nomatch q)⟩
theorem TabOk.new {H : AH} {q : Str} {a : Addr} {o' : AObj} (h : TabOk q H) (ha : H a = none) : TabOk q (hset H a o') := by
  obtain ⟨l, e, hl⟩ := h
  exact ⟨l, by rw [hset_ne (ne_of_none ha (some_ne e))]; exact e, fun x hx => by rw [hset_ne (ne_of_none ha (some_ne (hl x hx)))]; exact hl x hx⟩
abbrev gq : Str := "_law_goes.<locals>.<lambda>"
theorem adr1 (L : Nat) : L + 1 ≠ L + 1 + 1 ∧ L + 1 ≠ L + 1 + 1 + 1 ∧ L + 1 + 1 ≠ L + 1 + 1 + 1 ∧ L + 1 + 1 ≠ L + 1 ∧ L + 1 + 1 + 1 ≠ L + 1 ∧ L + 1 + 1 + 1 ≠ L + 1 + 1 := by omega
theorem adr2 (b L : Nat) (h : b < L) : b ≠ L + 1 ∧ b ≠ L + 1 + 1 ∧ b ≠ L + 1 + 1 + 1 := by omega
theorem adr3 (L : Nat) : L ≤ L + 1 ∧ L ≤ L + 1 + 1 ∧ L ≤ L + 1 + 1 + 1 := by omega
theorem gq_eq : (("_law_goes" : Str) ++ ".<locals>.") ++ "<lambda>" = gq := by decide +kernel
structure GoB (H0 H : AH) (l : Addr) (FA : List (Addr × Form)) (L : Addr) (u x : Str) : Prop where
  f : FormsIs H l FA
  t : TabOk gq H
  cu : H (L + 1) = some (.cell (some (.str u 0)))
  cl : H (L + 1 + 1) = some (.cell (some (.str x 0)))
  cf : ∃ v, H (L + 1 + 1 + 1) = some (.cell v)
  k : ∀ a, a ≠ 385 → H0 a ≠ none → H a = H0 a
  hl : ∀ a, H0 a ≠ none → a < L
theorem FormsIs.frame {H H' : AH} {l : Addr} {FA : List (Addr × Form)} (h : FormsIs H l FA) (hk : ∀ a, H a ≠ none → (∀ v, H a ≠ some (.cell v)) → (∀ v, H a ≠ some (.tab v)) → H' a = H a) : FormsIs H' l FA :=
  ⟨(hk l (some_ne h.l) (fun v e => by rw [h.l] at e; cases e) (fun v e => by rw [h.l] at e; cases e)).trans h.l,
   fun p hp => (hk p.1 (some_ne (h.t p hp)) (fun v e => by rw [h.t p hp] at e; cases e) (fun v e => by rw [h.t p hp] at e; cases e)).trans (h.t p hp), h.z⟩
theorem GoB.new {H0 H : AH} {l : Addr} {FA : List (Addr × Form)} {L : Addr} {u x : Str} (h : GoB H0 H l FA L u x) {a : Addr} {o : AObj} (ha : H a = none) : GoB H0 (hset H a o) l FA L u x where
  f := h.f.frame fun b hb _ _ => hset_ne (ne_of_none ha hb)
  t := h.t.new ha
  cu := by rw [hset_ne (ne_of_none ha (some_ne h.cu))]; exact h.cu
  cl := by rw [hset_ne (ne_of_none ha (some_ne h.cl))]; exact h.cl
  cf := by obtain ⟨v, e⟩ := h.cf; exact ⟨v, by rw [hset_ne (ne_of_none ha (some_ne e))]; exact e⟩
  k := fun b h5 hb => by
    have e := h.k b h5 hb
    rw [hset_ne (ne_of_none ha (by rw [e]; exact hb)), e]
  hl := h.hl
theorem GoB.setf {H0 H : AH} {l : Addr} {FA : List (Addr × Form)} {L : Addr} {u x : Str} (h : GoB H0 H l FA L u x) {v : Option Value} : GoB H0 (hset H (L + 1 + 1 + 1) (.cell v)) l FA L u x := by
  obtain ⟨v0, hc⟩ := h.cf
  exact {
    f := h.f.frame fun b _ hn _ => hset_ne fun q => hn v0 (q ▸ hc)
    t := h.t.set hc
    cu := by rw [hset_ne (adr1 L).2.1]; exact h.cu
    cl := by rw [hset_ne (adr1 L).2.2.1]; exact h.cl
    cf := ⟨v, hset_self _ _ _⟩
    k := fun b h5 hb => by rw [hset_ne (adr2 b L (h.hl b hb)).2.2]; exact h.k b h5 hb
    hl := h.hl }
theorem GoB.lam {H0 H H' : AH} {l : Addr} {FA : List (Addr × Form)} {L : Addr} {u x : Str} (h : GoB H0 H l FA L u x) (ht : TabOk gq H') (hk : ∀ a, a ≠ 385 → H a ≠ none → H' a = H a) : GoB H0 H' l FA L u x := by
  obtain ⟨tl, et, _⟩ := h.t
  have n5 : ∀ {a o}, H a = some o → (∀ v, o ≠ .tab v) → a ≠ 385 := fun e hn q => by subst q; rw [et] at e; cases e; exact hn tl rfl
  have kk : ∀ {a o}, H a = some o → (∀ v, o ≠ .tab v) → H' a = some o := fun e hn => (hk _ (n5 e hn) (some_ne e)).trans e
  obtain ⟨v0, hc⟩ := h.cf
  exact {
    f := h.f.frame fun b hb _ hn => hk b (fun q => hn tl (q ▸ et)) hb
    t := ht
    cu := kk h.cu (fun _ q => nomatch q)
    cl := kk h.cl (fun _ q => nomatch q)
    cf := ⟨v0, kk hc (fun _ q => nomatch q)⟩
    k := fun b h5 hb => by
      have e := h.k b h5 hb
      rw [hk b h5 (by rw [e]; exact hb), e]
    hl := h.hl }
def LamDoes (w : World) (params : Arguments) (body : Expr) (scope : Scope) (k : Nat) : Prop :=
  ∀ (n : Nat) (c : Cx) (am : AM) (H : AH) (f a : Addr) (g : Form) (Q : Value → AM → AH → Prop), c.Ok w n → 1 < n → LamOk H f params body scope gq → H a = some (.tuple g.vals) → Q (.bool (g.pick k)) am H → CallIs w c (.ref f) [.ref a] am H Q
def LamK (w : World) (H : AH) (f : Addr) (k : Nat) : Prop := ∃ params body scope, LamOk H f params body scope gq ∧ LamDoes w params body scope k
theorem LamK.new {H : AH} {f : Addr} {k : Nat} {a : Addr} {o : AObj} (h : LamK w H f k) (ha : H a = none) : LamK w (hset H a o) f k := by
  obtain ⟨p, b, s, ⟨c', e1, e2⟩, d⟩ := h
  exact ⟨p, b, s, ⟨c', by rw [hset_ne (ne_of_none ha (some_ne e1))]; exact e1, by rw [hset_ne (ne_of_none ha (some_ne e2))]; exact e2⟩, d⟩
theorem LamK.set {H : AH} {f : Addr} {k : Nat} {a : Addr} {v : Option Value} {o : AObj} (h : LamK w H f k) (ha : H a = some (.cell v)) : LamK w (hset H a o) f k := by
  obtain ⟨p, b, s, ⟨c', e1, e2⟩, d⟩ := h
  exact ⟨p, b, s, ⟨c', keepC ha e1 (fun _ q => nomatch q), keepC ha e2 (fun _ q => nomatch q)⟩, d⟩
theorem LamK.lam {H H' : AH} {f : Addr} {k : Nat} (h : LamK w H f k) (ht : TabOk gq H) (hk : ∀ a, a ≠ 385 → H a ≠ none → H' a = H a) : LamK w H' f k := by
  obtain ⟨tl, et, _⟩ := ht
  have n5 : ∀ {a o}, H a = some o → (∀ v, o ≠ .tab v) → a ≠ 385 := fun e hn q => by subst q; rw [et] at e; cases e; exact hn tl rfl
  obtain ⟨p, b, s, ⟨c', e1, e2⟩, d⟩ := h
  exact ⟨p, b, s, ⟨c', (hk _ (n5 e1 (fun _ q => nomatch q)) (some_ne e1)).trans e1, (hk _ (n5 e2 (fun _ q => nomatch q)) (some_ne e2)).trans e2⟩, d⟩
theorem LamK.isLam {H : AH} {f : Addr} {k : Nat} (h : LamK w H f k) : IsLam H f := by
  obtain ⟨p, b, s, ⟨c', e1, e2⟩, d⟩ := h
  exact ⟨p, b, s, gq, c', e1⟩
theorem LamK.sub {H H' : AH} {f : Addr} {k : Nat} (h : LamK w H f k) (S : Sub H H') : LamK w H' f k := by
  obtain ⟨p, b, s, ⟨c', e1, e2⟩, d⟩ := h
  exact ⟨p, b, s, ⟨c', S _ _ e1, S _ _ e2⟩, d⟩
def candL (FA : List (Addr × Form)) (k : Nat) (u x : Str) (i : Nat) : List Value := ((FA.take i).filter fun p => p.2.cand k u x).map fun p => .ref p.1
theorem candL_succ {FA : List (Addr × Form)} {k : Nat} {u x : Str} {i : Nat} {p : Addr × Form} (h : FA[i]? = some p) : candL FA k u x (i + 1) = candL FA k u x i ++ (if p.2.cand k u x = true then [Value.ref p.1] else []) := by
  unfold candL
  rw [List.take_succ, h, List.filter_append, List.map_append]
  congr 1
  show List.map _ (List.filter _ [p]) = _
  by_cases q : p.2.cand k u x = true <;> simp [q]
theorem cb0 {elt : Expr} {post : Option Value → AH → Prop} (h : Ev w c env elt am H fun v am' H' => am' = am ∧ post (some v) H') : CBody w c env [] elt am H post := h
theorem cb1 {t elt : Expr} {post : Option Value → AH → Prop} (h : Tst w c env t am H fun b am1 H1 => am1 = am ∧ if b = true then Ev w c env elt am1 H1 (fun v am' H' => am' = am ∧ post (some v) H') else post none H1) : CBody w c env [t] elt am H post := h
theorem linq_ov (a : Option Str) (u : Str) : linq [.none, .str u 0] (ov a) = some (a.isNone || a == some u) := by
  cases a with
  | none => rfl
  | some a =>
    show some (false || (u == a || false)) = some (false || (some a == some u))
    by_cases h : a = u
    · subst h; simp
    · have h' : ¬ u = a := fun q => h q.symm
      have e1 : (u == a) = false := beq_eq_false_iff_ne.mpr h'
      have e2 : (some a == some u) = false := beq_eq_false_iff_ne.mpr (fun q => h (Option.some.inj q))
      rw [e1, e2]; rfl
def amGo (l : Addr) : AM := [("strips", .ref l)]
def lamAt (f0 f1 f2 : Addr) : List Value := [.ref f0, .ref f1, .ref f2]
theorem sp_goes {l : Addr} {FA : List (Addr × Form)} {u x : Str} (hF : FormsIs H l FA) (hT : TabOk gq H) :
    Spec w (.ref 388) 3 H [.ref l, .str u 0, .str x 0] (fun r H' => r = .bool (goes (formsOf FA) u x) ∧ TabOk gq H' ∧ ∀ a, a ≠ 385 → H a ≠ none → H' a = H a) := by
  refine' Spec.ofC ?ho ?hcd ?hb ?hkn ?hnd ?hco ?hgen ?hk ?h
  case ho => k_is
  case hcd => k_is
  case hb => ((first | (with_reducible refine all0 ?_) | (with_reducible refine all1 ?_) | (with_reducible refine all2 ?_) | (with_reducible refine all3 ?_) | (with_reducible refine all4 ?_) | (with_reducible refine all5 ?_) | (with_reducible refine all6 ?_) | (with_reducible refine all7 ?_)); intros; exact BindsTo.of_eq rfl)
  case hkn => rfl
  case hnd => decide
  case hco => rfl
  case hgen => rfl
  case hk => rfl
  try (conv in (occs := *) (pSub _) => whnf)
  try (conv in (occs := *) (pSco _) => whnf)
  try (conv in (occs := *) (pPar _) => whnf)
  intro c hL O
  have hfr : ∀ a, c.L ≤ a → H a = none := fun a ha => by
    cases e : H a with
    | none => rfl
    | some o => exact absurd (Nat.lt_of_lt_of_le (hL a (some_ne e)) ha) (Nat.lt_irrefl _)
  have B : GoB H (hset (hset (hset H (c.L + 1) (.cell (some (.str u 0)))) (c.L + 1 + 1) (.cell (some (.str x 0)))) (c.L + 1 + 1 + 1) (.cell none)) l FA c.L u x := by
    have e1 := hfr (c.L + 1) (adr3 c.L).1
    have e2 : hset H (c.L + 1) (.cell (some (.str u 0))) (c.L + 1 + 1) = none := by rw [hset_ne (adr1 c.L).2.2.2.1]; exact hfr _ (adr3 c.L).2.1
    have e3 : hset (hset H (c.L + 1) (.cell (some (.str u 0)))) (c.L + 1 + 1) (.cell (some (.str x 0))) (c.L + 1 + 1 + 1) = none := by rw [hset_ne (adr1 c.L).2.2.2.2.2, hset_ne (adr1 c.L).2.2.2.2.1]; exact hfr _ (adr3 c.L).2.2
    exact {
      f := ((hF.frame fun b hb _ _ => hset_ne (ne_of_none e1 hb)).frame fun b hb _ _ => hset_ne (ne_of_none e2 hb)).frame fun b hb _ _ => hset_ne (ne_of_none e3 hb)
      t := ((hT.new e1).new e2).new e3
      cu := by rw [hset_ne (adr1 c.L).2.1, hset_ne (adr1 c.L).1, hset_self]
      cl := by rw [hset_ne (adr1 c.L).2.2.1, hset_self]
      cf := ⟨_, hset_self _ _ _⟩
      k := fun b _ hb => by
        obtain ⟨q1, q2, q3⟩ := adr2 b c.L (hL b hb)
        rw [hset_ne q3, hset_ne q2, hset_ne q1]
      hl := hL }
  change Ex w _ _ _ _ (hset (hset (hset H (c.L + 1) (.cell (some (.str u 0)))) (c.L + 1 + 1) (.cell (some (.str x 0)))) (c.L + 1 + 1 + 1) (.cell none)) _
  generalize hset (hset (hset H (c.L + 1) (.cell (some (.str u 0)))) (c.L + 1 + 1) (.cell (some (.str x 0)))) (c.L + 1 + 1 + 1) (.cell none) = H1 at B ⊢
  refine ex_cons ?_
  refine st_for ?_
  refine ev_list ?_
  refine ar_cons ?_
  refine ev_lambda O rfl B.t gq_eq fun f0 H2 t2 n2 k2 l2 => ?_
  replace B := B.lam t2 k2
  have L0 : LamK w H2 f0 0 := ⟨_, _, _, l2, by
    intro n c am H f a g Q O hn hl ha q
    refine ci_lam (x := "row") (need := 0) (post := fun r H' => r = .bool (g.pick 0) ∧ H' = H) O (by omega) hl (fun _ _ _ _ => rfl) rfl rfl rfl rfl (by decide) (fun c ccd O => ?_) ?_
    · refine ev_cmp ?_
      refine ev_sub ?_
      refine ev_loc (by assumption) rfl ?_
      refine ev_int ?_
      refine ⟨_, sub_t (k := 1) ha rfl (by simp [Form.vals]), ?_⟩
      refine ev_none ?_
      with_reducible refine ⟨_, .isnt, ?_⟩
      refine ⟨H, Sub.refl, ?_, rfl⟩
      cases h : g.loc <;> simp [Form.pick, ov, h] <;> rfl
    · rintro _ _ ⟨rfl, rfl⟩; exact q⟩
  clear t2 k2 l2
  refine ar_cons ?_
  refine ev_lambda O rfl B.t gq_eq fun f1 H3 t2 n2 k2 l2 => ?_
  replace L0 := L0.lam B.t k2
  have nf1 : ∀ a, H2 a ≠ none → a ≠ f1 := fun a ha q => ha (q ▸ n2)
  replace B := B.lam t2 k2
  have L1 : LamK w H3 f1 1 := ⟨_, _, _, l2, by
    intro n c am H f a g Q O hn hl ha q
    refine ci_lam (x := "row") (need := 0) (post := fun r H' => r = .bool (g.pick 1) ∧ H' = H) O (by omega) hl (fun _ _ _ _ => rfl) rfl rfl rfl rfl (by decide) (fun c ccd O => ?_) ?_
    · refine ev_boolop_and ?_
      refine ev_cmp ?_
      refine ev_sub ?_
      refine ev_loc (by assumption) rfl ?_
      refine ev_int ?_
      refine ⟨_, sub_t (k := 1) ha rfl (by simp [Form.vals]), ?_⟩
      refine ev_none ?_
      with_reducible refine ⟨_, .isn, ?_⟩
      refine ⟨_, rfl, ?_⟩
      cases h : g.loc with
      | some l =>
        refine ite_isF rfl ?_
        exact ⟨H, Sub.refl, by simp [Form.pick, ov, h] <;> rfl, rfl⟩
      | none =>
        refine ite_isT rfl ?_
        refine ev_boolop_one ?_
        refine ev_cmp ?_
        refine ev_sub ?_
        refine ev_loc (by assumption) rfl ?_
        refine ev_int ?_
        refine ⟨_, sub_t (k := 0) ha rfl (by simp [Form.vals]), ?_⟩
        refine ev_none ?_
        with_reducible refine ⟨_, .isnt, ?_⟩
        refine ⟨H, Sub.refl, ?_, rfl⟩
        cases h2 : g.uri <;> simp [Form.pick, ov, h, h2] <;> rfl
    · rintro _ _ ⟨rfl, rfl⟩; exact q⟩
  clear t2 k2 l2
  refine ar_cons ?_
  refine ev_lambda O rfl B.t gq_eq fun f2 H4 t2 n2 k2 l2 => ?_
  replace L0 := L0.lam B.t k2
  replace L1 := L1.lam B.t k2
  have nf2 : ∀ a, H3 a ≠ none → a ≠ f2 := fun a ha q => ha (q ▸ n2)
  replace B := B.lam t2 k2
  have L2 : LamK w H4 f2 2 := ⟨_, _, _, l2, by
    intro n c am H f a g Q O hn hl ha q
    refine ci_lam (x := "row") (need := 0) (post := fun r H' => r = .bool (g.pick 2) ∧ H' = H) O (by omega) hl (fun _ _ _ _ => rfl) rfl rfl rfl rfl (by decide) (fun c ccd O => ?_) ?_
    · refine ev_cmp ?_
      refine ev_sub ?_
      refine ev_loc (by assumption) rfl ?_
      refine ev_int ?_
      refine ⟨_, sub_t (k := 0) ha rfl (by simp [Form.vals]), ?_⟩
      refine ev_none ?_
      with_reducible refine ⟨_, .isn, ?_⟩
      refine ⟨H, Sub.refl, ?_, rfl⟩
      cases h2 : g.uri <;> simp [Form.pick, ov, h2] <;> rfl
    · rintro _ _ ⟨rfl, rfl⟩; exact q⟩
  clear t2 k2 l2
  refine ar_nil ?_
  refine ⟨by simp, fun fl hfl _ => ?_⟩
  replace B := B.new (o := .list (lamAt f0 f1 f2)) hfl
  replace L0 := L0.new (o := .list (lamAt f0 f1 f2)) hfl
  replace L1 := L1.new (o := .list (lamAt f0 f1 f2)) hfl
  replace L2 := L2.new (o := .list (lamAt f0 f1 f2)) hfl
  have eL : hset H4 fl (.list (lamAt f0 f1 f2)) fl = some (.list (lamAt f0 f1 f2)) := hset_self _ _ _
  change Exists _
  have L : ∀ (k : Nat) (f : Addr), (lamAt f0 f1 f2)[k]? = some (.ref f) → LamK w (hset H4 fl (.list (lamAt f0 f1 f2))) f k := by
    intro k f hk
    match k, hk with
    | 0, hk => cases hk; exact L0
    | 1, hk => cases hk; exact L1
    | 2, hk => cases hk; exact L2
    | k + 3, hk => cases hk
  generalize hq : hset H4 fl (.list (lamAt f0 f1 f2)) = H5 at B L eL
  refine ⟨3, _, _, _, fun i am H' => am = amGo l ∧ GoB H H' l FA c.L u x ∧ H' fl = some (.list (lamAt f0 f1 f2)) ∧ (∀ (k : Nat) (f : Addr), (lamAt f0 f1 f2)[k]? = some (.ref f) → LamK w H' f k) ∧ ∀ k, k < i → goesK (formsOf FA) u x k = none,
    itb_listK (by exact trivial) (vs := lamAt f0 f1 f2) (by exact hq ▸ eL) rfl, Sub.refl, ⟨rfl, by exact hq ▸ B, by exact hq ▸ eL, by exact hq ▸ L, fun k hk => absurd hk (Nat.not_lt_zero k)⟩, ?_, ?_, ?_⟩
  · rintro _ _ _ ⟨_, _, e, _⟩; exact e
  · rintro i _ _ v H6 hi ⟨rfl, B, eL, L, hn⟩ ⟨hv, rfl⟩
    obtain ⟨f, rfl⟩ : ∃ f, v = .ref f := by
      match i, hv with
      | 0, hv => cases hv; exact ⟨_, rfl⟩
      | 1, hv => cases hv; exact ⟨_, rfl⟩
      | 2, hv => cases hv; exact ⟨_, rfl⟩
      | k + 3, hv => cases hv
    obtain ⟨v0, hc⟩ := B.cf
    have Lf := L i f hv
    replace B := B.setf (v := some (.ref f))
    replace eL := keepC (o' := .cell (some (.ref f))) hc eL (fun _ q => nomatch q)
    replace L : ∀ (k : Nat) (f' : Addr), (lamAt f0 f1 f2)[k]? = some (.ref f') → LamK w _ f' k := fun k f' hk => (L k f' hk).set (o := .cell (some (.ref f))) hc
    replace Lf := Lf.set (o := .cell (some (.ref f))) hc
    refine as_cell O (a := c.L + 1 + 1 + 1) rfl hc ?_
    have ef := hset_self H6 (c.L + 1 + 1 + 1) (.cell (some (.ref f)))
    generalize hset H6 (c.L + 1 + 1 + 1) (.cell (some (.ref f))) = H7 at *
    refine ex_cons ?_
    refine st_lc O ?_ rfl rfl
    unfold amGo
    refine ev_loc (by assumption) rfl ?_
    refine ⟨FA.length, _, _, _, fun j ys H' => H' = H7 ∧ ys = candL FA i u x j, itb_listK (by exact trivial) B.f.l (by simp), Nat.le_trans B.f.z (by decide), ⟨rfl, rfl⟩, ?_, ?_, ?_⟩
    · rintro _ _ _ ⟨rfl, _⟩; exact B.f.l
    · rintro j _ _ v' H7 Cc hj ⟨rfl, rfl⟩ ⟨hv', rfl⟩ hCc _
      obtain ⟨p, hp, rfl⟩ := map_at hv'
      have ht := B.f.t p (List.mem_of_getElem? hp)
      refine asc_name (hset_self _ _ _) ?_
      have S8 : Sub H7 (hset (hset H7 Cc (.ns [])) Cc (.ns [("row", .ref p.1)])) := fun b o e => by
        have := ne_of_none hCc (some_ne e)
        rw [hset_ne this, hset_ne this]; exact e
      have eR := hset_self (hset H7 Cc (.ns [])) Cc (.ns [("row", .ref p.1)])
      generalize hset (hset H7 Cc (.ns [])) Cc (.ns [("row", .ref p.1)]) = H8 at S8 eR ⊢
      refine ⟨rfl, ?_⟩
      refine cb1 ?_
      have post : ∀ (b : Bool) (Hx : AH) (vs : List Value), Sub H7 Hx → Hx Cc = some (.ns [("row", .ref p.1)]) → p.2.cand i u x = b → vs = (if b = true then [Value.ref p.1] else []) →
          ∃ fs H3, Hx Cc = some (.ns fs) ∧ Sub H3 Hx ∧ H3 Cc = none ∧ H3 = H7 ∧ candL FA i u x j ++ vs = candL FA i u x (j + 1) := fun b Hx vs h1 h2 h3 h4 =>
        ⟨_, H7, h2, h1, hCc, rfl, by rw [candL_succ hp, h3, h4]⟩
      have hcand : p.2.cand i u x = (p.2.pick i && ((p.2.uri.isNone || p.2.uri == some u) && (p.2.loc.isNone || p.2.loc == some x))) := rfl
      refine tst_and ?_
      refine tst_plain ?_
      refine ev_callL ?_
      refine evc_cell (a := c.L + 1 + 1 + 1) rfl (S8 _ _ ef) ?_
      have L8 := Lf.sub S8
      refine ⟨f, rfl, L8.isLam, ?_⟩
      refine ar_cons ?_
      refine evc_loc eR rfl ?_
      refine ar_nil ?_
      refine ⟨L8.isLam, ?_⟩
      obtain ⟨_, _, _, ol, od⟩ := L8
      refine od _ _ _ _ _ _ p.2 _ O (by decide) ol (S8 _ _ ht) ?_
      refine ⟨_, rfl, ?_⟩
      cases h1 : p.2.pick i with
      | false =>
        refine ite_isF rfl ?_
        exact ⟨rfl, ite_f (post false H8 [] S8 eR (by rw [hcand, h1]; rfl) rfl)⟩
      | true =>
        refine ite_isT rfl ?_
        refine tst_and ?_
        refine tst_cmp ?_
        refine ev_sub ?_
        refine evc_loc eR rfl ?_
        refine ev_int ?_
        refine ⟨_, sub_t (k := 0) (S8 _ _ ht) rfl (by simp [Form.vals]), ?_⟩
        refine ev_list ?_
        refine ar_cons ?_
        refine ev_none ?_
        refine ar_cons ?_
        refine evc_cell (a := c.L + 1) rfl (S8 _ _ B.cu) ?_
        refine ar_nil ?_
        refine ⟨by simp, fun b hb _ => ?_⟩
        have S9 : Sub H7 (hset H8 b (.list [.none, .str u 0])) := S8.trans (Sub.new hb)
        have eR9 : hset H8 b (.list [.none, .str u 0]) Cc = some (.ns [("row", .ref p.1)]) := by rw [hset_ne (ne_of_none hb (some_ne eR))]; exact eR
        have el := hset_self H8 b (.list [.none, .str u 0])
        generalize hset H8 b (.list [.none, .str u 0]) = H9 at S9 eR9 el ⊢
        refine ⟨p.2.uri.isNone || p.2.uri == some u, CmpIs.inl el (linq_ov _ _), ?_⟩
        cases h2 : (p.2.uri.isNone || p.2.uri == some u) with
        | false =>
          refine ite_isF rfl ?_
          exact ⟨rfl, ite_f (post false H9 [] S9 eR9 (by rw [hcand, h2]; simp) rfl)⟩
        | true =>
          refine ite_isT rfl ?_
          refine tst_and ?_
          refine tst_cmp ?_
          refine ev_sub ?_
          refine evc_loc eR9 rfl ?_
          refine ev_int ?_
          refine ⟨_, sub_t (k := 1) (S9 _ _ ht) rfl (by simp [Form.vals]), ?_⟩
          refine ev_list ?_
          refine ar_cons ?_
          refine ev_none ?_
          refine ar_cons ?_
          refine evc_cell (a := c.L + 1 + 1) rfl (S9 _ _ B.cl) ?_
          refine ar_nil ?_
          refine ⟨by simp, fun b3 hb3 _ => ?_⟩
          have S10 : Sub H7 (hset H9 b3 (.list [.none, .str x 0])) := S9.trans (Sub.new hb3)
          have eR10 : hset H9 b3 (.list [.none, .str x 0]) Cc = some (.ns [("row", .ref p.1)]) := by rw [hset_ne (ne_of_none hb3 (some_ne eR9))]; exact eR9
          have el := hset_self H9 b3 (.list [.none, .str x 0])
          generalize hset H9 b3 (.list [.none, .str x 0]) = H10 at S10 eR10 el ⊢
          refine ⟨p.2.loc.isNone || p.2.loc == some x, CmpIs.inl el (linq_ov _ _), ?_⟩
          cases h3 : (p.2.loc.isNone || p.2.loc == some x) with
          | false =>
            refine ite_isF rfl ?_
            exact ⟨rfl, ite_f (post false H10 [] S10 eR10 (by rw [hcand, h2, h3]; simp) rfl)⟩
          | true =>
            refine ite_isT rfl ?_
            refine tst_and_nil ?_
            refine ⟨rfl, ite_t ?_⟩
            refine evc_loc eR10 rfl ?_
            exact ⟨rfl, post true H10 [.ref p.1] S10 eR10 (by rw [hcand, h1, h2, h3]; rfl) rfl⟩
    · rintro _ H7 D ⟨rfl, rfl⟩ hD
      have B7 := B.new (o := .list (candL FA i u x FA.length)) hD
      have eL7 := Sub.new (o := .list (candL FA i u x FA.length)) hD _ _ eL
      have L7 : ∀ (k : Nat) (f' : Addr), (lamAt f0 f1 f2)[k]? = some (.ref f') → LamK w _ f' k := fun k f' hk => (L k f' hk).new (o := .list (candL FA i u x FA.length)) hD
      have ec := hset_self H7 D (.list (candL FA i u x FA.length))
      generalize hset H7 D (.list (candL FA i u x FA.length)) = H8 at B7 eL7 L7 ec ⊢
      have hcl : candL FA i u x FA.length = (FA.filter fun p => p.2.cand i u x).map fun p => .ref p.1 := by rw [candL, take_len]
      have hgk : goesK (formsOf FA) u x i = ((FA.filter fun p => p.2.cand i u x).getLast?).map (·.2.goes) := by
        unfold goesK formsOf lastOf
        rw [List.filter_map, List.getLast?_map, Option.map_map]; rfl
      with_reducible refine next_next ?_
      refine ex_cons ?_
      refine st_if ?_
      refine tst_cmp ?_
      refine ev_loc (by assumption) rfl ?_
      refine ev_list ?_
      refine ar_nil ?_
      refine ⟨by simp, fun b hb _ => ?_⟩
      have ec' := Sub.new (o := .list []) hb _ _ ec
      have eb := hset_self H8 b (.list [])
      rcases List.eq_nil_or_concat (FA.filter fun p => p.2.cand i u x) with hnil | ⟨ps, q, hps⟩
      · rw [hcl, hnil] at ec'
        refine ⟨_, CmpIs.nel O ec' eb (r := true) (.inl rfl), ?_⟩
        refine ite_isF rfl ?_
        refine ex_nil ?_
        with_reducible refine next_next ?_
        refine ex_nil ?_
        refine ⟨amGo l, H8, by unfold amGo; (repeat (first | exact amsub_nil | refine amsub_cons rfl ?_)), Sub.new hb, rfl, B7, eL7, L7, fun k hk => ?_⟩
        rcases Nat.lt_succ_iff_lt_or_eq.mp hk with hk | rfl
        · exact hn k hk
        · rw [hgk, hnil]; rfl
      · rw [List.concat_eq_append] at hps
        rw [hcl, hps, List.map_append] at ec'
        have hq : q ∈ FA := (List.mem_filter.mp (hps ▸ List.mem_append_right ps (.head _))).1
        have hlen : ps.length ≤ 900 := by
          have := congrArg List.length hps
          have h2 := List.length_filter_le (fun p : Addr × Form => p.2.cand i u x) FA
          have h3 := B.f.z
          simp at this
          omega
        refine ⟨_, CmpIs.nel O ec' eb (r := false) (.inr ⟨by simp, rfl⟩), ?_⟩
        refine ite_isT rfl ?_
        refine ex_cons ?_
        refine st_return ?_
        refine ev_sub ?_
        refine ev_sub ?_
        refine ev_loc (by assumption) rfl ?_
        refine ev_neg ?_
        refine ev_int ?_
        refine ⟨_, rfl, ?_⟩
        refine ⟨_, sub_neg1 ec' (by simp; omega), ?_⟩
        refine ev_int ?_
        refine ⟨_, sub_t (k := 2) (Sub.new (o := .list []) hb _ _ (B7.f.t q hq)) rfl (by simp [Form.vals]), ?_⟩
        with_reducible refine next_ret ?_
        with_reducible refine next_ret ?_
        refine ⟨H8, Sub.new hb, ?_, B7.t, B7.k⟩
        have hg : goesK (formsOf FA) u x i = some q.2.goes := by rw [hgk, hps]; simp
        show Value.bool q.2.goes = _
        congr 1
        unfold goes
        match i, hi, hn, hg with
        | 0, _, hn, hg => rw [hg]
        | 1, _, hn, hg => rw [hn 0 (by decide), hg]
        | 2, _, hn, hg => rw [hn 0 (by decide), hn 1 (by decide), hg]
  · rintro _ H6 ⟨rfl, B, eL, L, hn⟩
    unfold amGo
    with_reducible refine next_next ?_
    refine ex_cons ?_
    refine st_return ?_
    refine ev_bool ?_
    with_reducible refine next_ret ?_
    refine ⟨_, Sub.refl, ?_, B.t, B.k⟩
    rw [goes, hn 0 (by decide), hn 1 (by decide), hn 2 (by decide)]
    rfl
end
end Mine
end

section
open PySem PySem.W PySem.Spec PySem.Calls PyProof.Rows
set_option Elab.async false
set_option maxRecDepth 100000
set_option maxHeartbeats 8000000
namespace Mine
theorem fillD6 : (PySem.Challenge.rw_on0188_01 = PySem.Challenge.rw_on0188_01) ∧ hK = hK := by
  k_fill
  exact ⟨rfl, rfl⟩
theorem NodeIs.sub {H H' : AH} {x : NodeA} (h : NodeIs H x) (S : Sub H H') : NodeIs H' x := ⟨S _ _ h.a, S _ _ h.d, S _ _ h.c, S _ _ h.t⟩
theorem IsTree.sub {H H' : AH} {t : TreeA} (h : IsTree H t) (S : Sub H H') : IsTree H' t := ⟨S _ _ h.T, S _ _ h.d, S _ _ h.rl, fun x hx => (h.ns x hx).sub S, h.nd, h.csz, h.sz⟩
theorem RowsIs.sub {H H' : AH} {ra : Addr} {RA : List (Addr × Row)} (h : RowsIs H ra RA) (S : Sub H H') : RowsIs H' ra RA := ⟨S _ _ h.l, fun p hp => S _ _ (h.t p hp)⟩
theorem FormsIs.sub {H H' : AH} {l : Addr} {FA : List (Addr × Form)} (h : FormsIs H l FA) (S : Sub H H') : FormsIs H' l FA := ⟨S _ _ h.l, fun p hp => S _ _ (h.t p hp), h.z⟩
theorem StripsIs.sub {H H' : AH} {l : Addr} {SA : List StripA} (h : StripsIs H l SA) (S : Sub H H') : StripsIs H' l SA := ⟨S _ _ h.l, fun p hp => ⟨S _ _ (h.s p hp).1, S _ _ (h.s p hp).2⟩, h.z⟩
theorem IsTree.not_cell {H : AH} {t : TreeA} (hr : IsTree H t) {b : Addr} {v : Option Value} (hc : H b = some (.cell v)) : b ∉ t.addrs := fun hb => by
  rcases TreeA.mem_addrs.mp hb with rfl | rfl | rfl | ⟨x, hx, ha⟩
  · rw [hr.T] at hc; cases hc
  · rw [hr.d] at hc; cases hc
  · rw [hr.rl] at hc; cases hc
  · have hn := hr.ns x hx
    simp only [NodeA.addrs, List.mem_cons, List.mem_nil_iff, or_false] at ha
    rcases ha with rfl | rfl | rfl | rfl
    · rw [hn.a] at hc; cases hc
    · rw [hn.d] at hc; cases hc
    · rw [hn.c] at hc; cases hc
    · rw [hn.t] at hc; cases hc
structure ChB (H0 H : AH) (t : TreeA) (ra : Addr) (RA : List (Addr × Row)) (ga : Addr) (g : List Nat) (L : Addr) : Prop where
  t : IsTree H t
  r : RowsIs H ra RA
  g : H ga = some (.list (g.map nv))
  cg : H (L + 1) = some (.cell (some (.ref ga)))
  k : Sub H0 H
  hl : ∀ a, H0 a ≠ none → a < L
theorem ChB.sub {H0 H H' : AH} {t : TreeA} {ra ga : Addr} {RA : List (Addr × Row)} {g : List Nat} {L : Addr} (h : ChB H0 H t ra RA ga g L) (S : Sub H H') : ChB H0 H' t ra RA ga g L :=
  ⟨h.t.sub S, h.r.sub S, S _ _ h.g, S _ _ h.cg, h.k.trans S, h.hl⟩
theorem ChB.frame {H0 H H' : AH} {t : TreeA} {ra ga : Addr} {RA : List (Addr × Row)} {g : List Nat} {L a : Addr} {v : Option Value} (h : ChB H0 H t ra RA ga g L) (hc : H a = some (.cell v)) (h1 : a ≠ L + 1) (h2 : L ≤ a) (hk : ∀ b, b ≠ a → H' b = H b) : ChB H0 H' t ra RA ga g L := by
  have kk : ∀ {b o}, H b = some o → (∀ v, o ≠ .cell v) → H' b = some o := fun {b o} e hn => (hk b fun q => by subst q; rw [hc] at e; cases e; exact hn v rfl).trans e
  refine ⟨h.t.frame fun b hb => hk b fun q => h.t.not_cell hc (q ▸ hb), ⟨kk h.r.l (fun _ q => nomatch q), fun p hp => kk (h.r.t p hp) (fun _ q => nomatch q)⟩, kk h.g (fun _ q => nomatch q), (hk _ (Ne.symm h1)).trans h.cg, fun b o e => (hk b fun q => ?_).trans (h.k b o e), h.hl⟩
  have := h.hl b (some_ne e)
  rw [q] at this
  exact absurd (Nat.lt_of_lt_of_le this h2) (Nat.lt_irrefl _)
theorem linq_nv (s : Nat) : ∀ g : List Nat, linq (g.map nv) (nv s) = some (decide (s ∈ g))
  | [] => rfl
  | a :: g => by
    show (match veq (nv a) (nv s), linq (g.map nv) (nv s) with | some p, some q => some (p || q) | _, _ => none) = _
    rw [linq_nv s g]
    show some (((a : Int) == (s : Int)) || decide (s ∈ g)) = _
    congr 1
    rw [Bool.eq_iff_iff]
    simp
    constructor
    · rintro (h | h)
      · exact .inl (by omega)
      · exact .inr h
    · rintro (h | h)
      · exact .inl (by omega)
      · exact .inr h
theorem lveq_nv : ∀ l : List Nat, lveq (l.map nv) (l.map nv) = some true
  | [] => rfl
  | a :: l => by
    show (match veq (nv a) (nv a), lveq (l.map nv) (l.map nv) with | some p, some q => some (p && q) | _, _ => none) = _
    rw [lveq_nv l]
    show some (((a : Int) == (a : Int)) && true) = _
    simp
def dueL (R : List Row) (G : Nat → Bool) (u i : Nat) : List Value := ((List.range i).filter (chosen R G u)).map fun s => nv (nodeOf R s)
theorem dueL_succ (R : List Row) (G : Nat → Bool) (u i : Nat) : dueL R G u (i + 1) = dueL R G u i ++ (if chosen R G u i = true then [nv (nodeOf R i)] else []) := by
  unfold dueL
  rw [List.range_succ, List.filter_append, List.map_append]
  congr 1
  by_cases q : chosen R G u i = true <;> simp [q]
theorem dueL_all (R : List Row) (G : Nat → Bool) (u : Nat) : dueL R G u R.length = (due R G u).map nv := by
  unfold dueL due dueS
  rw [List.map_map]; rfl
def amCh (T ra : Addr) : AM := [("tree", .ref T), ("rows", .ref ra)]
section
variable {w : World} {n : Nat} {c : Cx} {env : Env} {am : AM} {H : AH}
theorem itb_enumK {elts : List Expr} {x1 : Nat} {pos : Pos} {l e it : Addr} {vs : List Value} {k : Nat} (h1 : H e = some (.enum it)) (h2 : H it = some (.liter l)) (hk : vs.length = k) :
    Itb w c (.Tuple elts x1 pos) (.ref e) k (fun H => H l = some (.list vs)) (fun i v H H' => ∃ T x, v = .ref T ∧ vs[i]? = some x ∧ H T = none ∧ (∀ b, H b ≠ none → b < T) ∧ H' = hset H T (.tuple [.int (i : Nat) 0, x])) H (hdel (hdel H it) e) := hk ▸ itb_enum elts x1 pos h1 h2
theorem CmpIs.eqo {o : Option Nat} {i : Nat} : CmpIs w c H .Eq (oval o) (.int (i : Nat) 0) (o == some i) := by
  cases o with
  | none => exact CmpIs.eqni
  | some u =>
    have : ((u : Int) == (i : Int)) = (some u == some i) := by
      rw [Bool.eq_iff_iff]; simp; omega
    rw [← this]
    exact CmpIs.eqi
theorem sub_enum {H : AH} {it en b : Addr} {o o' : AObj} (h1 : H it = none) (h2 : H en = none) : Sub H (hdel (hdel (hset (hset H it o) en o') it) en) := fun a oo e => by
  have n1 := ne_of_none h1 (some_ne e)
  have n2 := ne_of_none h2 (some_ne e)
  rw [hdel_ne n2, hdel_ne n1, hset_ne n2, hset_ne n1]; exact e
theorem sp_children_ok {t : TreeA} {ra ga : Addr} {RA : List (Addr × Row)} {g : List Nat} {G : Nat → Bool} (D : Doc t.pns (rowsOf RA) G) (h : IsTree H t) (hr : RowsIs H ra RA) (hg : H ga = some (.list (g.map nv))) (hG : ∀ s, s < RA.length → G s = decide (s ∈ g)) :
    Spec w (.ref 400) 4 H [.ref t.T, .ref ra, .ref ga] (fun r H' => H' = H ∧ r = .bool true) := by
  have hz : RA.length ≤ 100 := by rw [← rowsOf_len]; exact D.wf.sz
  refine' Spec.ofC ?ho ?hcd ?hb ?hkn ?hnd ?hco ?hgen ?hk ?h
  case ho => k_is
  case hcd => k_is
  case hb => ((first | (with_reducible refine all0 ?_) | (with_reducible refine all1 ?_) | (with_reducible refine all2 ?_) | (with_reducible refine all3 ?_) | (with_reducible refine all4 ?_) | (with_reducible refine all5 ?_) | (with_reducible refine all6 ?_) | (with_reducible refine all7 ?_)); intros; exact BindsTo.of_eq rfl)
  case hkn => rfl
  case hnd => decide
  case hco => rfl
  case hgen => rfl
  case hk => rfl
  try (conv in (occs := *) (pSub _) => whnf)
  try (conv in (occs := *) (pSco _) => whnf)
  try (conv in (occs := *) (pPar _) => whnf)
  intro c hL O
  have hfr : ∀ a, c.L ≤ a → H a = none := fun a ha => by
    cases e : H a with
    | none => rfl
    | some o => exact absurd (Nat.lt_of_lt_of_le (hL a (some_ne e)) ha) (Nat.lt_irrefl _)
  have e1 := hfr (c.L + 1) (adr3 c.L).1
  have e2 : hset H (c.L + 1) (.cell (some (.ref ga))) (c.L + 1 + 1) = none := by rw [hset_ne (adr1 c.L).2.2.2.1]; exact hfr _ (adr3 c.L).2.1
  have B : ChB H (hset (hset H (c.L + 1) (.cell (some (.ref ga)))) (c.L + 1 + 1) (.cell none)) t ra RA ga g c.L := by
    have S := (Sub.new (o := .cell (some (.ref ga))) e1).trans (Sub.new (o := .cell none) e2)
    exact ⟨h.sub S, hr.sub S, S _ _ hg, Sub.new e2 _ _ (hset_self _ _ _), S, hL⟩
  have hat : ∃ v, hset (hset H (c.L + 1) (.cell (some (.ref ga)))) (c.L + 1 + 1) (.cell none) (c.L + 1 + 1) = some (.cell v) := ⟨_, hset_self _ _ _⟩
  change Ex w _ _ _ _ (hset (hset H (c.L + 1) (.cell (some (.ref ga)))) (c.L + 1 + 1) (.cell none)) _
  generalize hset (hset H (c.L + 1) (.cell (some (.ref ga)))) (c.L + 1 + 1) (.cell none) = H1 at B hat ⊢
  refine Tr.wk ⟨amCh t.T ra, H1, by unfold amCh; (repeat (first | exact amsub_nil | refine amsub_cons rfl ?_)), Sub.refl, ?_⟩
  unfold amCh
  refine ex_cons ?_
  refine st_for ?_
  refine ev_call (by assumption) ?_
  (refine' ev_builtT (by assumption) ?zq1 boot_enumerate ?_; (case zq1 => k_is))
  refine ⟨.type _, ?_⟩
  refine ar_cons ?_
  refine ev_loc (by assumption) rfl ?_
  refine ar_nil ?_
  refine ci_enumerate B.r.l fun it en h1 h2 hlt _ => ?_
  have S2 := sub_enum (b := ra) (o := .liter ra) (o' := .enum it) h1 h2
  have he : hset (hset H1 it (.liter ra)) en (.enum it) en = some (.enum it) := hset_self _ _ _
  have hi : hset (hset H1 it (.liter ra)) en (.enum it) it = some (.liter ra) := by rw [hset_ne (Nat.ne_of_lt hlt), hset_self]
  obtain ⟨v0, hat⟩ := hat
  refine ⟨RA.length, _, _, _, fun i am H' => am = amCh t.T ra ∧ ChB H H' t ra RA ga g c.L ∧ ∃ v, H' (c.L + 1 + 1) = some (.cell v), itb_enumK (vs := RA.map fun p => Value.ref p.1) he hi (by simp), (hdel_sub _ _).trans (hdel_sub _ _), ⟨rfl, B.sub S2, _, S2 _ _ hat⟩, ?_, ?_, ?_⟩
  · rintro _ _ _ ⟨_, B, _⟩; exact B.r.l
  · rintro i _ H2 v _ hlt2 ⟨rfl, B, v1, hat⟩ ⟨T, xv, rfl, hx, hT, _, rfl⟩
    obtain ⟨p, hp, rfl⟩ := map_at hx
    have hrow : (rowsOf RA)[i]? = some p.2 := by simp [rowsOf, hp]
    have ht := B.r.t p (List.mem_of_getElem? hp)
    have ST := Sub.new (o := .tuple [.int (i : Nat) 0, .ref p.1]) hT
    have eT := hset_self H2 T (.tuple [.int (i : Nat) 0, .ref p.1])
    have hat2 := ST _ _ hat
    replace B := B.sub ST
    replace ht := ST _ _ ht
    generalize hset H2 T (.tuple [.int (i : Nat) 0, .ref p.1]) = H3 at *
    refine as_tup2 eT (as_cell O (a := c.L + 1 + 1) rfl hat2 (as_name O ?_))
    have ea := hset_self H3 (c.L + 1 + 1) (.cell (some (.int (i : Nat) 0)))
    have kt := keepC (o' := .cell (some (.int (i : Nat) 0))) hat2 ht (fun _ q => nomatch q)
    have B := B.frame (H' := hset H3 (c.L + 1 + 1) (.cell (some (.int (i : Nat) 0)))) hat2 (adr1 c.L).2.2.2.1 (adr3 c.L).2.1 (fun b hb => hset_ne hb)
    generalize hset H3 (c.L + 1 + 1) (.cell (some (.int (i : Nat) 0))) = H4 at *
    unfold amCh
    refine ex_cons ?_
    refine st_if ?_
    refine tst_cmp ?_
    refine ev_sub ?_
    refine ev_loc (by assumption) rfl ?_
    refine ev_int ?_
    refine ⟨_, sub_t (k := 1) kt rfl (by simp [Row.vals]), ?_⟩
    refine ev_list ?_
    refine ar_cons ?_
    refine ev_str ?_
    refine ar_cons ?_
    refine ev_str ?_
    refine ar_nil ?_
    refine ⟨by simp, fun b hb _ => ?_⟩
    have S5 := Sub.new (o := .list [.str "root" 0, .str "element" 0]) hb
    have el := hset_self H4 b (.list [.str "root" 0, .str "element" 0])
    generalize hset H4 b (.list [.str "root" 0, .str "element" 0]) = H5 at S5 el ⊢
    refine ⟨(("root" : Str) == p.2.kind) || ((("element" : Str) == p.2.kind) || false), CmpIs.inl el rfl, ?_⟩
    refine ite_b (fun hk => ?_) (fun hk => ?_)
    · have hC : isC p.2 := by
        simp at hk
        exact hk.imp Eq.symm Eq.symm
      refine ex_cons ?_
      refine st_lc O ?_ rfl rfl
      refine ev_call (by assumption) ?_
      (refine' ev_builtT (by assumption) ?zq1 boot_enumerate ?_; (case zq1 => k_is))
      refine ⟨.type _, ?_⟩
      refine ar_cons ?_
      refine ev_loc (by assumption) rfl ?_
      refine ar_nil ?_
      replace B := B.sub S5
      replace kt := S5 _ _ kt
      replace ea := S5 _ _ ea
      refine ci_enumerate B.r.l fun it en h1 h2 hlt _ => ?_
      have S2 := sub_enum (b := ra) (o := .liter ra) (o' := .enum it) h1 h2
      have he : hset (hset H5 it (.liter ra)) en (.enum it) en = some (.enum it) := hset_self _ _ _
      have hi : hset (hset H5 it (.liter ra)) en (.enum it) it = some (.liter ra) := by rw [hset_ne (Nat.ne_of_lt hlt), hset_self]
      refine ⟨RA.length, _, _, _, fun j ys H' => H' = hdel (hdel (hset (hset H5 it (.liter ra)) en (.enum it)) it) en ∧ ys = dueL (rowsOf RA) G i j, itb_enumK (vs := RA.map fun p => Value.ref p.1) he hi (by simp), by omega, ⟨rfl, rfl⟩, ?_, ?_, ?_⟩
      · rintro _ _ _ ⟨rfl, _⟩; exact S2 _ _ B.r.l
      · replace B := B.sub S2
        replace ea := S2 _ _ ea
        generalize hdel (hdel (hset (hset H5 it (.liter ra)) en (.enum it)) it) en = H6 at B ea ⊢
        rintro j _ H6 v _ Cc hj ⟨rfl, rfl⟩ ⟨T2, xv, rfl, hx, hT2, _, rfl⟩ hCc hCc'
        obtain ⟨q, hq, rfl⟩ := map_at hx
        have hrow2 : (rowsOf RA)[j]? = some q.2 := by simp [rowsOf, hq]
        have ST := Sub.new (o := .tuple [.int (j : Nat) 0, .ref q.1]) hT2
        have eT := hset_self H6 T2 (.tuple [.int (j : Nat) 0, .ref q.1])
        generalize hset H6 T2 (.tuple [.int (j : Nat) 0, .ref q.1]) = H7 at *
        have SC := Sub.new (o := .ns []) hCc'
        refine as_tup2 (SC _ _ eT) (asc_name (hset_self _ _ _) (asc_name (hset_self _ _ _) ?_))
        have S8 : Sub H7 (hset (hset (hset H7 Cc (.ns [])) Cc (.ns [("spot", .int (j : Nat) 0)])) Cc (.ns [("one", .ref q.1), ("spot", .int (j : Nat) 0)])) := fun b o e => by
          have := ne_of_none hCc' (some_ne e)
          rw [hset_ne this, hset_ne this, hset_ne this]; exact e
        have eR := hset_self (hset (hset H7 Cc (.ns [])) Cc (.ns [("spot", .int (j : Nat) 0)])) Cc (.ns [("one", .ref q.1), ("spot", .int (j : Nat) 0)])
        generalize hset (hset (hset H7 Cc (.ns [])) Cc (.ns [("spot", .int (j : Nat) 0)])) Cc (.ns [("one", .ref q.1), ("spot", .int (j : Nat) 0)]) = H8 at S8 eR ⊢
        replace S8 := ST.trans S8
        have B8 := B.sub S8
        have ht8 := B8.r.t q (List.mem_of_getElem? hq)
        refine ⟨rfl, cb1 ?_⟩
        have post : ∀ (b : Bool) (vs : List Value), chosen (rowsOf RA) G i j = b → vs = (if b = true then [nv q.2.node] else []) →
            ∃ fs H3, H8 Cc = some (.ns fs) ∧ Sub H3 H8 ∧ H3 Cc = none ∧ H3 = H6 ∧ dueL (rowsOf RA) G i j ++ vs = dueL (rowsOf RA) G i (j + 1) := fun b vs h3 h4 =>
          ⟨_, H6, eR, S8, hCc, rfl, by rw [dueL_succ, h3, h4, nodeOf_at hrow2]⟩
        have hch : chosen (rowsOf RA) G i j = (q.2.up == some i && !G j) := by simp [chosen, hrow2]
        refine tst_and ?_
        refine tst_cmp ?_
        refine ev_sub ?_
        refine evc_loc eR rfl ?_
        refine ev_int ?_
        refine ⟨_, sub_t (k := 2) ht8 rfl (by simp [Row.vals]), ?_⟩
        refine evc_cell (a := c.L + 1 + 1) rfl (S8 _ _ ea) ?_
        refine ⟨_, CmpIs.eqo, ?_⟩
        cases hb : (q.2.up == some i) with
        | false =>
          refine ite_isF rfl ?_
          exact ⟨rfl, ite_f (post false [] (by rw [hch, hb]; rfl) rfl)⟩
        | true =>
          refine ite_isT rfl ?_
          refine tst_and ?_
          refine tst_cmp ?_
          refine evc_loc eR rfl ?_
          refine evc_cell (a := c.L + 1) rfl B8.cg ?_
          have hin := linq_nv j g
          have hgj := hG j hj
          refine ⟨_, CmpIs.ninl B8.g hin, ?_⟩
          rw [← hgj]
          cases hgg : G j with
          | true =>
            refine ite_isF rfl ?_
            exact ⟨rfl, ite_f (post false [] (by rw [hch, hgg]; simp) rfl)⟩
          | false =>
            refine ite_isT rfl ?_
            refine tst_and_nil ?_
            refine ⟨rfl, ite_t ?_⟩
            refine ev_sub ?_
            refine evc_loc eR rfl ?_
            refine ev_int ?_
            refine ⟨_, sub_t (k := 0) ht8 rfl (by simp [Row.vals]), ?_⟩
            exact ⟨rfl, post true [nv q.2.node] (by rw [hch, hb, hgg]; rfl) rfl⟩
      · replace B := B.sub S2
        replace ea := S2 _ _ ea
        replace kt := S2 _ _ kt
        rintro _ H6 Dd ⟨rfl, rfl⟩ hD
        have hall : dueL (rowsOf RA) G i RA.length = (due (rowsOf RA) G i).map nv := by rw [← rowsOf_len, dueL_all]
        rw [hall]
        have SD := Sub.new (o := .list ((due (rowsOf RA) G i).map nv)) hD
        have eD := hset_self (hdel (hdel (hset (hset H5 it (.liter ra)) en (.enum it)) it) en) Dd (.list ((due (rowsOf RA) G i).map nv))
        generalize hset (hdel (hdel (hset (hset H5 it (.liter ra)) en (.enum it)) it) en) Dd (.list ((due (rowsOf RA) G i).map nv)) = H7 at SD eD ⊢
        replace B := B.sub SD
        replace ea := SD _ _ ea
        replace kt := SD _ _ kt
        obtain ⟨x, ex, rx, px, cx⟩ := D.node hrow
        have hn := B.t.ns x (List.mem_of_getElem? ex)
        with_reducible refine next_next ?_
        refine ex_cons ?_
        refine st_if ?_
        refine tst_cmp ?_
        refine ev_call (by assumption) ?_
        (refine' ev_builtT (by assumption) ?zq1 boot_list ?_; (case zq1 => k_is))
        refine ⟨.type _, ?_⟩
        refine ar_cons ?_
        refine ev_meth (by assumption) ?_
        refine ev_loc (by assumption) rfl ?_
        refine ⟨_, B.t.meth O (mo_children w), ?_⟩
        refine ⟨.ref (by k_is), ?_⟩
        refine ar_cons ?_
        refine ev_sub ?_
        refine ev_loc (by assumption) rfl ?_
        refine ev_int ?_
        refine ⟨_, sub_t (k := 0) kt rfl (by simp [Row.vals]), ?_⟩
        refine ar_nil ?_
        refine (sp_children w B.t ex).use O (by decide) ?_
        rintro _ _ ⟨b2, hb2, _, rfl, rfl⟩
        refine ar_nil ?_
        have csz := B.t.csz x (List.mem_of_getElem? ex)
        have tsz := B.t.sz
        refine ci_list (hset_self _ _ _) (by simp; omega) fun b3 hb3 _ => ?_
        refine ev_loc (by assumption) rfl ?_
        have S9 := (Sub.new (o := .list (x.ch.map nv)) hb2).trans (Sub.new (o := .list (x.ch.map nv)) hb3)
        have e3 := hset_self (hset H7 b2 (.list (x.ch.map nv))) b3 (.list (x.ch.map nv))
        generalize hset (hset H7 b2 (.list (x.ch.map nv))) b3 (.list (x.ch.map nv)) = H9 at S9 e3 ⊢
        replace eD := S9 _ _ eD
        rw [← cx hC] at eD
        refine ⟨_, CmpIs.nel O e3 eD (r := true) (.inl (lveq_nv _)), ?_⟩
        refine ite_isF rfl ?_
        refine ex_nil ?_
        with_reducible refine next_next ?_
        refine ex_nil ?_
        with_reducible refine next_next ?_
        refine ex_nil ?_
        exact ⟨amCh t.T ra, H9, by unfold amCh; (repeat (first | exact amsub_nil | refine amsub_cons rfl ?_)), Sub.refl, rfl, B.sub S9, _, S9 _ _ ea⟩
    · refine ex_nil ?_
      with_reducible refine next_next ?_
      refine ex_nil ?_
      exact ⟨amCh t.T ra, H5, by unfold amCh; (repeat (first | exact amsub_nil | refine amsub_cons rfl ?_)), Sub.refl, rfl, B.sub S5, _, S5 _ _ ea⟩
  · rintro _ H2 ⟨rfl, B, _⟩
    unfold amCh
    with_reducible refine next_next ?_
    refine ex_cons ?_
    refine st_return ?_
    refine ev_bool ?_
    with_reducible refine next_ret ?_
    exact ⟨H, B.k, rfl, rfl⟩
end
end Mine
end

section
open PySem PySem.W PySem.Spec PySem.Calls PyProof.Rows
set_option Elab.async false
set_option maxRecDepth 100000
set_option maxHeartbeats 8000000
namespace Mine
theorem nodup_len : ∀ (n : Nat) (l : List Nat), l.Nodup → (∀ x ∈ l, x < n) → l.length ≤ n := by
  intro n
  induction n with
  | zero =>
    intro l _ h
    cases l with
    | nil => exact Nat.le_refl _
    | cons x l => exact absurd (h x (.head _)) (Nat.not_lt_zero _)
  | succ n ih =>
    intro l nd h
    have h1 := ih (l.erase n) (nd.erase n) (fun x hx => by
      obtain ⟨h2, h3⟩ := nd.mem_erase_iff.mp hx
      have := h x h3; omega)
    have h2 := List.length_erase (a := n) (l := l)
    split at h2 <;> omega
structure Dfs (R : List Row) (G : Nat → Bool) (V L F : List Nat) : Prop where
  nd : (V ++ L).Nodup
  lt : ∀ s ∈ V ++ L, ∃ r, R[s]? = some r ∧ G s = false
  root : 0 ∈ V ++ L
  par : ∀ s ∈ V ++ L, s ≠ 0 → ∃ (r : Row) (u : Nat), R[s]? = some r ∧ r.up = some u ∧ u ∈ V
  cl : ∀ s ∈ V, ∀ x ∈ dueS R G s, x ∈ V ++ L
  fnd : F.Nodup
  fd : ∀ s, s ∈ F ↔ s ∈ V ∧ ∃ r : Row, R[s]? = some r ∧ r.blank = true
theorem mem_dueS {R : List Row} {G : Nat → Bool} {u s : Nat} : s ∈ dueS R G u ↔ ∃ r : Row, R[s]? = some r ∧ r.up = some u ∧ G s = false := by
  unfold dueS chosen
  rw [List.mem_filter, List.mem_range]
  constructor
  · rintro ⟨h1, h2⟩
    cases e : R[s]? with
    | none => rw [e] at h2; cases h2
    | some r => rw [e] at h2; simp at h2; exact ⟨r, rfl, h2.1, h2.2⟩
  · rintro ⟨r, e, h1, h2⟩
    exact ⟨(List.getElem?_eq_some_iff.mp e).1, by rw [e]; simp [h1, h2]⟩
theorem dueS_nodup (R : List Row) (G : Nat → Bool) (u : Nat) : (dueS R G u).Nodup := List.Nodup.sublist List.filter_sublist List.nodup_range
theorem Dfs.start {R : List Row} {G : Nat → Bool} (W : Wf R) (h0 : G 0 = false) : Dfs R G [] [0] [] where
  nd := by simp
  lt := fun s hs => by
    have : s = 0 := by simpa using hs
    subst this
    obtain ⟨r, e, _⟩ := W.root
    exact ⟨r, e, h0⟩
  root := .head _
  par := fun s hs h => absurd (by simpa using hs) h
  cl := fun s hs => nomatch hs
  fnd := by simp
  fd := fun s => ⟨fun h => (nomatch h), fun h => (nomatch h.1)⟩
theorem Dfs.notC {R : List Row} (W : Wf R) (G : Nat → Bool) {s : Nat} {r : Row} (e : R[s]? = some r) (h : ¬ isC r) : dueS R G s = [] := by
  apply List.eq_nil_iff_forall_not_mem.mpr
  intro x hx
  obtain ⟨rx, ex, hu, _⟩ := mem_dueS.mp hx
  have h0 : x ≠ 0 := fun q => by
    subst q
    obtain ⟨r0, e0, _, hu0⟩ := W.root
    rw [ex] at e0; cases e0; rw [hu] at hu0; cases hu0
  obtain ⟨_, u, ru, hu', _, eu, hc, _⟩ := W.up x rx ex h0
  rw [hu] at hu'; cases hu'
  rw [e] at eu; cases eu
  exact h hc
theorem Dfs.pop {R : List Row} {G : Nat → Bool} (W : Wf R) {V L F : List Nat} {s : Nat} {r : Row} (D : Dfs R G V (L ++ [s]) F) (e : R[s]? = some r) :
    Dfs R G (s :: V) (L ++ (dueS R G s).reverse) (if r.blank = true then F ++ [s] else F) := by
  have nd := D.nd
  have hsV : s ∉ V := fun h => by
    rw [← List.append_assoc] at nd
    exact (List.nodup_append.mp nd).2.2 s (List.mem_append_left _ h) s (.head _) rfl
  have hsL : s ∉ L := fun h => by
    rw [← List.append_assoc] at nd
    exact (List.nodup_append.mp nd).2.2 s (List.mem_append_right _ h) s (.head _) rfl
  have nVL : (V ++ L).Nodup := by
    rw [← List.append_assoc] at nd
    exact (List.nodup_append.mp nd).1
  have old : ∀ x, x ∈ V ++ (L ++ [s]) ↔ x = s ∨ x ∈ V ++ L := fun x => by
    simp only [List.mem_append, List.mem_singleton]
    constructor
    · rintro (h | h | h)
      · exact .inr (.inl h)
      · exact .inr (.inr h)
      · exact .inl h
    · rintro (h | h | h)
      · exact .inr (.inr h)
      · exact .inl h
      · exact .inr (.inl h)
  have hmem : ∀ x, x ∈ (s :: V) ++ (L ++ (dueS R G s).reverse) ↔ x = s ∨ x ∈ V ++ L ∨ x ∈ dueS R G s := fun x => by
    simp only [List.mem_append, List.mem_cons, List.mem_reverse]
    constructor
    · rintro ((h | h) | h | h)
      · exact .inl h
      · exact .inr (.inl (.inl h))
      · exact .inr (.inl (.inr h))
      · exact .inr (.inr h)
    · rintro (h | (h | h) | h)
      · exact .inl (.inl h)
      · exact .inl (.inr h)
      · exact .inr (.inl h)
      · exact .inr (.inr h)
  -- a child of s is not there yet
  have new : ∀ x ∈ dueS R G s, x ≠ s ∧ x ∉ V ++ L := by
    intro x hx
    obtain ⟨rx, ex, hu, _⟩ := mem_dueS.mp hx
    have h0 : x ≠ 0 := fun q => by
      subst q
      obtain ⟨r0, e0, _, hu0⟩ := W.root
      rw [ex] at e0; cases e0; rw [hu] at hu0; cases hu0
    obtain ⟨_, u, ru, hu', hlt, _⟩ := W.up x rx ex h0
    rw [hu] at hu'; cases hu'
    refine ⟨fun q => by omega, fun h => ?_⟩
    obtain ⟨r2, u2, e2, hu2, hv⟩ := D.par x ((old x).mpr (.inr h)) h0
    rw [ex] at e2; cases e2
    rw [hu] at hu2; cases hu2
    exact hsV hv
  constructor
  · rw [List.cons_append, ← List.append_assoc]
    refine List.nodup_cons.mpr ⟨fun h => ?_, List.nodup_append.mpr ⟨nVL, (List.reverse_perm _).nodup_iff.mpr (dueS_nodup R G s), fun a ha b hb q => ?_⟩⟩
    · rcases List.mem_append.mp h with h | h
      · rcases List.mem_append.mp h with h | h
        · exact hsV h
        · exact hsL h
      · exact (new s (List.mem_reverse.mp h)).1 rfl
    · subst q; exact (new a (List.mem_reverse.mp hb)).2 ha
  · intro x hx
    rcases (hmem x).mp hx with rfl | h | h
    · exact D.lt x ((old x).mpr (.inl rfl))
    · exact D.lt x ((old x).mpr (.inr h))
    · obtain ⟨rx, ex, _, hg⟩ := mem_dueS.mp h
      exact ⟨rx, ex, hg⟩
  · rcases (old 0).mp D.root with h | h
    · exact (hmem 0).mpr (.inl h)
    · exact (hmem 0).mpr (.inr (.inl h))
  · intro x hx h0
    rcases (hmem x).mp hx with rfl | h | h
    · obtain ⟨r2, u, e2, hu, hv⟩ := D.par x ((old x).mpr (.inl rfl)) h0
      exact ⟨r2, u, e2, hu, .tail _ hv⟩
    · obtain ⟨r2, u, e2, hu, hv⟩ := D.par x ((old x).mpr (.inr h)) h0
      exact ⟨r2, u, e2, hu, .tail _ hv⟩
    · obtain ⟨rx, ex, hu, _⟩ := mem_dueS.mp h
      exact ⟨rx, s, ex, hu, .head _⟩
  · intro x hx y hy
    rcases List.mem_cons.mp hx with rfl | hx
    · exact (hmem y).mpr (.inr (.inr hy))
    · rcases (old y).mp (D.cl x hx y hy) with h | h
      · exact (hmem y).mpr (.inl h)
      · exact (hmem y).mpr (.inr (.inl h))
  · split
    · refine List.nodup_append.mpr ⟨D.fnd, by simp, fun a ha b hb q => ?_⟩
      have : b = s := by simpa using hb
      subst q this
      exact hsV ((D.fd _).mp ha).1
    · exact D.fnd
  · intro x
    by_cases q : x = s
    · subst q
      by_cases hb : r.blank = true
      · rw [if_pos hb]
        exact ⟨fun _ => ⟨.head _, r, e, hb⟩, fun _ => List.mem_append_right _ (.head _)⟩
      · rw [if_neg hb]
        refine ⟨fun h => absurd ((D.fd x).mp h).1 hsV, fun ⟨_, r2, e2, h2⟩ => ?_⟩
        rw [e] at e2; cases e2; exact absurd h2 hb
    · have : x ∈ (if r.blank = true then F ++ [s] else F) ↔ x ∈ F := by
        split
        · simp [q]
        · exact Iff.rfl
      rw [this, D.fd x]
      exact ⟨fun ⟨h1, h2⟩ => ⟨.tail _ h1, h2⟩, fun ⟨h1, h2⟩ => ⟨(List.mem_cons.mp h1).resolve_left q, h2⟩⟩
theorem Dfs.len {R : List Row} {G : Nat → Bool} {V L F : List Nat} (D : Dfs R G V L F) : V.length + L.length ≤ R.length := by
  have := nodup_len R.length (V ++ L) D.nd fun x hx => by
    obtain ⟨r, e, _⟩ := D.lt x hx
    exact (List.getElem?_eq_some_iff.mp e).1
  simpa using this
theorem Dfs.flen {R : List Row} {G : Nat → Bool} {V L F : List Nat} (D : Dfs R G V L F) : F.length ≤ R.length :=
  nodup_len R.length F D.fnd fun x hx => by
    obtain ⟨_, r, e, _⟩ := (D.fd x).mp hx
    exact (List.getElem?_eq_some_iff.mp e).1
theorem Dfs.all {R : List Row} {G : Nat → Bool} (W : Wf R) (hG : ∀ (s : Nat) (r : Row), R[s]? = some r → G s = true → r.blank = true) {V F : List Nat} (D : Dfs R G V [] F) : ∀ s, ∀ r : Row, R[s]? = some r → G s = false → s ∈ V := by
  intro s
  induction s using Nat.strongRecOn with
  | _ s ih =>
    intro r e hg
    by_cases h0 : s = 0
    · subst h0; simpa using D.root
    · obtain ⟨_, u, ru, hu, hlt, eu, hc, _⟩ := W.up s r e h0
      have hgu : G u = false := by
        cases q : G u with
        | false => rfl
        | true =>
          have := W.bl u ru eu (hG u ru eu q)
          rcases hc with h | h <;> rw [h] at this <;> exact absurd this (by decide)
      have := ih u hlt ru eu hgu
      simpa using D.cl u this s (mem_dueS.mpr ⟨r, e, hu, hg⟩)
end Mine
end

section
open PySem PySem.W PySem.Spec PySem.Calls PyProof.Rows
set_option Elab.async false
set_option maxRecDepth 100000
set_option maxHeartbeats 8000000
namespace Mine
theorem fillD8 : (PySem.Challenge.rw_on0188_01 = PySem.Challenge.rw_on0188_01) ∧ hK = hK := by
  k_fill
  exact ⟨rfl, rfl⟩
def nvs (R : List Row) (l : List Nat) : List Value := l.map fun s => nv (nodeOf R s)
def amBt (T f l : Addr) : AM := [("tree", .ref T), ("found", .ref f), ("left", .ref l)]
section
variable {w : World} {n : Nat} {c : Cx} {env : Env} {am : AM} {H : AH}
structure BtB (H0 H : AH) (t : TreeA) (R : List Row) (fo lo : Addr) (L F : List Nat) : Prop where
  t0 : IsTree H0 t
  f : H fo = some (.list (nvs R F))
  l : H lo = some (.list (nvs R L))
  ne : fo ≠ lo
  k : Sub H0 H
  fn : H0 fo = none
  ln : H0 lo = none
theorem BtB.t {H0 H : AH} {t : TreeA} {R : List Row} {fo lo : Addr} {L F : List Nat} (B : BtB H0 H t R fo lo L F) : IsTree H t := B.t0.sub B.k
theorem BtB.sub {H0 H H' : AH} {t : TreeA} {R : List Row} {fo lo : Addr} {L F : List Nat} (B : BtB H0 H t R fo lo L F) (S : Sub H H') : BtB H0 H' t R fo lo L F :=
  ⟨B.t0, S _ _ B.f, S _ _ B.l, B.ne, B.k.trans S, B.fn, B.ln⟩
theorem BtB.setl {H0 H : AH} {t : TreeA} {R : List Row} {fo lo : Addr} {L F L' : List Nat} (B : BtB H0 H t R fo lo L F) : BtB H0 (hset H lo (.list (nvs R L'))) t R fo lo L' F :=
  ⟨B.t0, by rw [hset_ne B.ne]; exact B.f, hset_self _ _ _, B.ne, fun a o e => by rw [hset_ne (ne_of_none B.ln (some_ne e))]; exact B.k a o e, B.fn, B.ln⟩
theorem BtB.setf {H0 H : AH} {t : TreeA} {R : List Row} {fo lo : Addr} {L F F' : List Nat} (B : BtB H0 H t R fo lo L F) : BtB H0 (hset H fo (.list (nvs R F'))) t R fo lo L F' :=
  ⟨B.t0, hset_self _ _ _, by rw [hset_ne (Ne.symm B.ne)]; exact B.l, B.ne, fun a o e => by rw [hset_ne (ne_of_none B.fn (some_ne e))]; exact B.k a o e, B.fn, B.ln⟩
theorem nvs_append (R : List Row) (a b : List Nat) : nvs R (a ++ b) = nvs R a ++ nvs R b := by simp [nvs]
theorem nvs_len (R : List Row) (a : List Nat) : (nvs R a).length = a.length := by simp [nvs]
theorem sp_blank_texts {t : TreeA} {R : List Row} {G : Nat → Bool} (D : Doc t.pns R G) (h : IsTree H t) (h0 : G 0 = false) :
    Spec w (.ref 88) 4 H [.ref t.T, nv (nodeOf R 0)] (fun r H' => ∃ (fo : Addr) (F : List Nat), r = .ref fo ∧ H fo = none ∧ H' fo = some (.list (nvs R F)) ∧ Sub H H' ∧ F.Nodup ∧ ∀ s, s ∈ F ↔ G s = false ∧ ∃ r : Row, R[s]? = some r ∧ r.blank = true) := by
  have W := D.wf
  refine' Spec.of ?ho ?hcd ?hb ?hnm ?hco ?hgen ?hk ?hcell ?h
  case ho => k_is
  case hcd => k_is
  case hb => ((first | (with_reducible refine all0 ?_) | (with_reducible refine all1 ?_) | (with_reducible refine all2 ?_) | (with_reducible refine all3 ?_) | (with_reducible refine all4 ?_) | (with_reducible refine all5 ?_) | (with_reducible refine all6 ?_) | (with_reducible refine all7 ?_)); intros; exact BindsTo.of_eq rfl)
  case hnm => decide
  case hco => rfl
  case hgen => rfl
  case hk => rfl
  case hcell => decide
  try (conv in (occs := *) (pSub _) => whnf)
  try (conv in (occs := *) (pSco _) => whnf)
  try (conv in (occs := *) (pPar _) => whnf)
  intro c O
  refine ex_cons ?_
  refine st_assign_sw2 O (a := "found") (b := "left") ?_
  refine ev_tuple ?_
  refine ar_cons ?_
  refine ev_list ?_
  refine ar_nil ?_
  refine ⟨by simp, fun fo h1 _ => ?_⟩
  refine ar_cons ?_
  refine ev_list ?_
  refine ar_cons ?_
  refine ev_loc (by assumption) rfl ?_
  refine ar_nil ?_
  refine ⟨by simp, fun lo h2 _ => ?_⟩
  refine ar_nil ?_
  refine ⟨by simp, fun ta h3 _ => ?_⟩
  refine ⟨ta, _, _, rfl, hset_self _ _ _, ?_⟩
  have B : BtB H (hset (hset H fo (.list [])) lo (.list [nv (nodeOf R 0)])) t R fo lo [0] [] := by
    have hne : fo ≠ lo := fun q => by rw [q, ← q, hset_self] at h2; cases h2
    refine ⟨h, ?_, hset_self _ _ _, hne, (Sub.new h1).trans (Sub.new h2), h1, ?_⟩
    · rw [hset_ne hne]; exact hset_self _ _ _
    · rw [hset_ne (Ne.symm hne)] at h2; exact h2
  refine next_next ?_
  refine Tr.wk ⟨amBt t.T fo lo, hset (hset H fo (.list [])) lo (.list [nv (nodeOf R 0)]), by unfold amBt; (repeat (first | exact amsub_nil | refine amsub_cons rfl ?_)), Sub.new h3, ?_⟩
  generalize hset (hset H fo (.list [])) lo (.list [nv (nodeOf R 0)]) = H1 at B ⊢
  refine ex_cons ?_
  refine st_while (fun k am H' => am = amBt t.T fo lo ∧ ∃ V L F, BtB H H' t R fo lo L F ∧ Dfs R G V L F ∧ k = R.length - V.length) R.length ⟨rfl, [], [0], [], B, Dfs.start W h0, rfl⟩ ?_
  rintro k _ H2 ⟨rfl, V, L, F, B, DD, rfl⟩
  unfold amBt
  refine tst_cmp ?_
  refine ev_loc (by assumption) rfl ?_
  refine ev_list ?_
  refine ar_nil ?_
  refine ⟨by simp, fun eo he _ => ?_⟩
  have B2 := B.sub (Sub.new (o := .list []) he)
  have eL := hset_self H2 eo (.list [])
  rcases List.eq_nil_or_concat L with rfl | ⟨L, s, rfl⟩
  · refine ⟨_, CmpIs.nel O B2.l eL (r := true) (.inl rfl), ?_⟩
    refine ite_isF rfl ?_
    with_reducible refine next_next ?_
    refine ex_cons ?_
    refine st_return ?_
    refine ev_loc (by assumption) rfl ?_
    with_reducible refine next_ret ?_
    refine ⟨H2, Sub.new he, fo, F, rfl, B.fn, B.f, B.k, DD.fnd, fun s => ?_⟩
    rw [DD.fd s]
    constructor
    · rintro ⟨h1, r, e, hb⟩
      obtain ⟨r2, e2, hg⟩ := DD.lt s (List.mem_append_left _ h1)
      exact ⟨hg, r, e, hb⟩
    · rintro ⟨hg, r, e, hb⟩
      exact ⟨DD.all W D.gb s r e hg, r, e, hb⟩
  rw [List.concat_eq_append] at *
  have hlen := DD.len
  have hz := W.sz
  have hflen := DD.flen
  refine ⟨_, CmpIs.nel O B2.l eL (r := false) (.inr ⟨by simp [nvs], rfl⟩), ?_⟩
  refine ite_isT rfl ?_
  clear eL
  replace B := B2
  clear B2
  generalize hset H2 eo (.list []) = H3 at B ⊢
  obtain ⟨r, er, hgs⟩ := DD.lt s (List.mem_append_right _ (List.mem_append_right _ (.head _)))
  obtain ⟨x, ex, rx, px, cx⟩ := D.node er
  have DP := DD.pop W er
  refine ex_cons ?_
  refine st_assign (by assumption) ?_
  refine ev_meth0 (by assumption) ?_
  refine ev_loc (by assumption) rfl ?_
  refine ⟨_, GetM.list B.l PySem.F.slot_list_pop PySem.F.type_list_pop, ?_⟩
  refine ⟨.builtin _, ?_⟩
  have bl : H3 lo = some (.list (nvs R L ++ [nv r.node])) := by rw [B.l, nvs_append, ← nodeOf_at er]; rfl
  refine ci_pop bl (by rw [nvs_len]; simp at hlen; omega) ?_
  replace B := B.setl (L' := L)
  generalize hset H3 lo (.list (nvs R L)) = H4 at B ⊢
  with_reducible refine next_next ?_
  refine ex_cons ?_
  refine st_if ?_
  refine tst_cmp ?_
  refine ev_meth (by assumption) ?_
  refine ev_loc (by assumption) rfl ?_
  refine ⟨_, B.t.meth O (mo_kind w), ?_⟩
  refine ⟨.ref (by k_is), ?_⟩
  refine ar_cons ?_
  refine ev_loc (by assumption) rfl ?_
  refine ar_nil ?_
  refine (sp_kind w B.t ex).use O (by decide) ?_
  rintro _ H4 ⟨rfl, rfl⟩
  refine ev_str ?_
  with_reducible refine ⟨_, .eqs, ?_⟩
  have hk : x.kind = r.kind := rx.kind
  have hlen2 : V.length + (L.length + 1) ≤ R.length := by simpa using hlen
  have done : ∀ Hx L' F', BtB H Hx t R fo lo L' F' → L' = L ++ (dueS R G s).reverse → F' = (if r.blank = true then F ++ [s] else F) →
      Wk (fun am H' => ∃ k', k' < R.length - V.length ∧ am = amBt t.T fo lo ∧ ∃ V L F, BtB H H' t R fo lo L F ∧ Dfs R G V L F ∧ k' = R.length - V.length) [("node", nv r.node), ("tree", .ref t.T), ("found", .ref fo), ("left", .ref lo)] Hx := by
    rintro Hx L' F' Bx rfl rfl
    exact ⟨amBt t.T fo lo, Hx, by unfold amBt; (repeat (first | exact amsub_nil | refine amsub_cons rfl ?_)), Sub.refl, R.length - (s :: V).length, by simp; omega, rfl, s :: V, _, _, Bx, DP, rfl⟩
  by_cases ht : r.kind = "text"
  · have hnc : ¬ isC r := by rintro (q | q) <;> rw [ht] at q <;> exact absurd q (by decide)
    have hd0 := Dfs.notC W G er hnc
    refine ite_isT (by rw [hk, ht]; rfl) ?_
    refine ex_cons ?_
    refine st_if ?_
    refine tst_plain ?_
    refine ev_call (by assumption) ?_
    (refine' ev_globF (by assumption) ?zq1 ?_; (case zq1 => k_is))
    refine ⟨.ref (by k_is), ?_⟩
    refine ar_cons ?_
    refine ev_meth (by assumption) ?_
    refine ev_loc (by assumption) rfl ?_
    refine ⟨_, B.t.meth O (mo_value w), ?_⟩
    refine ⟨.ref (by k_is), ?_⟩
    refine ar_cons ?_
    refine ev_loc (by assumption) rfl ?_
    refine ar_nil ?_
    refine (sp_value w B.t ex).use O (by decide) ?_
    rintro _ H4 ⟨rfl, rfl⟩
    refine ar_nil ?_
    refine (sp_is_blank w H4 x.value (Nat.le_trans (rx.len ht) (by decide))).use O (by decide) ?_
    rintro _ H4 ⟨rfl, rfl⟩
    refine ⟨_, rfl, ?_⟩
    have hbl : (Txt.stripChars x.value " \t\r\n" == "") = r.blank := rx.text ht
    rw [hbl]
    refine ite_b (fun hb => ?_) (fun hb => ?_)
    · refine ex_cons ?_
      refine st_expr ?_
      refine ev_meth (by assumption) ?_
      refine ev_loc (by assumption) rfl ?_
      refine ⟨_, GetM.list B.f slot_list_append, ?_⟩
      refine ⟨.builtin _, ?_⟩
      refine ar_cons ?_
      refine ev_loc (by assumption) rfl ?_
      refine ar_nil ?_
      refine ci_append B.f (by rw [nvs_len]; omega) ?_
      have e1 : nvs R F ++ [nv r.node] = nvs R (F ++ [s]) := by rw [nvs_append, ← nodeOf_at er]; rfl
      rw [e1]
      with_reducible refine next_next ?_
      refine ex_nil ?_
      with_reducible refine next_next ?_
      refine ex_nil ?_
      with_reducible refine next_next ?_
      refine ex_nil ?_
      exact done _ L (F ++ [s]) B.setf (by rw [hd0]; simp) (by rw [if_pos hb])
    · refine ex_nil ?_
      with_reducible refine next_next ?_
      refine ex_nil ?_
      with_reducible refine next_next ?_
      refine ex_nil ?_
      exact done _ L F B (by rw [hd0]; simp) (by rw [hb]; rfl)
  · refine ite_isF (by rw [hk]; simp [ht]) ?_
    have hnb : r.blank = false := by
      cases q : r.blank with
      | false => rfl
      | true => exact absurd (W.bl s r er q) ht
    refine ex_cons ?_
    refine st_if ?_
    refine tst_cmp ?_
    refine ev_meth (by assumption) ?_
    refine ev_loc (by assumption) rfl ?_
    refine ⟨_, B.t.meth O (mo_kind w), ?_⟩
    refine ⟨.ref (by k_is), ?_⟩
    refine ar_cons ?_
    refine ev_loc (by assumption) rfl ?_
    refine ar_nil ?_
    refine (sp_kind w B.t ex).use O (by decide) ?_
    rintro _ H4 ⟨rfl, rfl⟩
    refine ev_tuple ?_
    refine ar_cons ?_
    refine ev_str ?_
    refine ar_cons ?_
    refine ev_str ?_
    refine ar_nil ?_
    refine ⟨by simp, fun ta h5 _ => ?_⟩
    replace B := B.sub (Sub.new (o := .tuple [.str "root" 0, .str "element" 0]) h5)
    have et := hset_self H4 ta (.tuple [.str "root" 0, .str "element" 0])
    generalize hset H4 ta (.tuple [.str "root" 0, .str "element" 0]) = H5 at B et ⊢
    refine ⟨_, CmpIs.int et rfl, ?_⟩
    refine ite_b (fun hc => ?_) (fun hc => ?_)
    · have hC : isC r := by
        rw [hk] at hc
        simp at hc
        exact hc.imp Eq.symm Eq.symm
      have hch := cx hC
      have csz := B.t.csz x (List.mem_of_getElem? ex)
      have tsz := B.t.sz
      refine ex_cons ?_
      refine st_expr ?_
      refine ev_meth (by assumption) ?_
      refine ev_loc (by assumption) rfl ?_
      refine ⟨_, GetM.list B.l PySem.F.slot_list_extend PySem.F.type_list_extend, ?_⟩
      refine ⟨.builtin _, ?_⟩
      refine ar_cons ?_
      refine ev_rev ?_
      refine ev_meth (by assumption) ?_
      refine ev_loc (by assumption) rfl ?_
      refine ⟨_, B.t.meth O (mo_children w), ?_⟩
      refine ⟨.ref (by k_is), ?_⟩
      refine ar_cons ?_
      refine ev_loc (by assumption) rfl ?_
      refine ar_nil ?_
      refine (sp_children w B.t ex).use O (by decide) ?_
      rintro _ _ ⟨b2, hb2, _, rfl, rfl⟩
      refine ⟨b2, _, rfl, hset_self _ _ _, by simp; omega, fun b3 hb3 _ => ?_⟩
      replace B := B.sub (Sub.new (o := .list (x.ch.map nv)) hb2)
      have n3 : b3 ≠ lo := Ne.symm (ne_of_none hb3 (some_ne B.l))
      replace B := B.sub (Sub.new (o := .list (x.ch.map nv).reverse) hb3)
      have e3 := hset_self (hset H5 b2 (.list (x.ch.map nv))) b3 (.list (x.ch.map nv).reverse)
      generalize hset (hset H5 b2 (.list (x.ch.map nv))) b3 (.list (x.ch.map nv).reverse) = H6 at B e3 ⊢
      refine ar_nil ?_
      refine ci_extend B.l e3 n3 (by rw [nvs_len]; omega) (by simp; omega) ?_
      have e1 : nvs R L ++ (x.ch.map nv).reverse = nvs R (L ++ (dueS R G s).reverse) := by
        rw [nvs_append, show x.ch = due R G s from hch]
        simp [nvs, due]
      rw [e1]
      with_reducible refine next_next ?_
      refine ex_nil ?_
      with_reducible refine next_next ?_
      refine ex_nil ?_
      with_reducible refine next_next ?_
      refine ex_nil ?_
      exact done _ (L ++ (dueS R G s).reverse) F B.setl rfl (by rw [hnb]; rfl)
    · have hnc : ¬ isC r := by
        rw [hk] at hc
        simp at hc
        rintro (q | q)
        · exact hc.1 q.symm
        · exact hc.2 q.symm
      refine ex_nil ?_
      with_reducible refine next_next ?_
      refine ex_nil ?_
      with_reducible refine next_next ?_
      refine ex_nil ?_
      exact done _ L F B (by rw [Dfs.notC W G er hnc]; simp) (by rw [hnb]; rfl)
end
end Mine
end

section
open PySem PySem.W PySem.Spec PySem.Calls PyProof.Rows
set_option Elab.async false
set_option maxRecDepth 100000
set_option maxHeartbeats 8000000
namespace Mine
structure Agree (q q' : PN) : Prop where
  kind : q'.kind = q.kind
  name : q'.name = q.name
  uri : q'.uri = q.uri
  loc : q'.loc = q.loc
  value : q'.value = q.value
  ats : q'.ats = q.ats
theorem Agree.refl (q : PN) : Agree q q := ⟨rfl, rfl, rfl, rfl, rfl, rfl⟩
theorem Agree.trans {a b d : PN} (h : Agree a b) (g : Agree b d) : Agree a d := ⟨g.kind.trans h.kind, g.name.trans h.name, g.uri.trans h.uri, g.loc.trans h.loc, g.value.trans h.value, g.ats.trans h.ats⟩
def PSame (P P' : List PN) : Prop := ∀ (a : Nat) (q : PN), P[a]? = some q → ∃ q', P'[a]? = some q' ∧ Agree q q'
theorem PSame.trans {A B D : List PN} (h : PSame A B) (g : PSame B D) : PSame A D := fun a q e => by
  obtain ⟨q1, e1, a1⟩ := h a q e
  obtain ⟨q2, e2, a2⟩ := g a q1 e1
  exact ⟨q2, e2, a1.trans a2⟩
theorem PSame.set {P : List PN} {j : Nat} {p p' : PN} (e : P[j]? = some p) (h : Agree p p') : PSame P (P.set j p') := fun a q ea => by
  rw [List.getElem?_set]
  by_cases hj : j = a
  · subst hj
    rw [e] at ea; cases ea
    have := (List.getElem?_eq_some_iff.mp e).1
    exact ⟨p', by simp [this], h⟩
  · exact ⟨q, by simp [hj, ea], .refl q⟩
theorem PSame.app {P : List PN} (x : PN) : PSame P (P ++ [x]) := fun a q ea => ⟨q, by rw [List.getElem?_append_left (List.getElem?_eq_some_iff.mp ea).1]; exact ea, .refl q⟩
theorem RowAt.same {P P' : List PN} {r : Row} {p p' : PN} (h : RowAt P r p) (S : PSame P P') (A : Agree p p') : RowAt P' r p' where
  kind := A.kind.trans h.kind
  uri := A.uri.trans h.uri
  loc := A.loc.trans h.loc
  word := by
    have := h.word
    generalize r.word = wd at this ⊢
    cases wd with
    | none => exact A.ats.trans this
    | some v =>
      obtain ⟨a, q, h1, h2, h3, h4⟩ := this
      obtain ⟨q', e', A'⟩ := S a q h2
      exact ⟨a, q', A.ats.trans h1, e', A'.name.trans h3, A'.value.trans h4⟩
  text := fun ht => by rw [A.value]; exact h.text ht
  len := fun ht => by rw [A.value]; exact h.len ht
theorem delNat_map {f : Nat → Nat} {s : Nat} : ∀ {l : List Nat}, l.Nodup → (∀ x ∈ l, f x = f s → x = s) → s ∈ l → delNat (f s) (l.map f) = (l.filter fun x => x != s).map f
  | [], _, _, h => nomatch h
  | a :: l, nd, hi, hm => by
    obtain ⟨n1, n2⟩ := List.nodup_cons.mp nd
    by_cases q : a = s
    · subst q
      have : l.filter (fun x => x != a) = l := List.filter_eq_self.mpr fun x hx => by
        have : x ≠ a := fun q => n1 (q ▸ hx)
        simpa using this
      rw [List.filter_cons_of_neg (by simp), this]
      simp [delNat]
    · have hm' : s ∈ l := (List.mem_cons.mp hm).resolve_left (fun e => q e.symm)
      have hf : ¬ f a = f s := fun e => q (hi a (.head _) e)
      rw [List.filter_cons_of_pos (by simpa using q), List.map_cons, List.map_cons, delNat, if_neg hf, delNat_map n2 (fun x hx => hi x (.tail _ hx)) hm']
theorem due_del {R : List Row} {G : Nat → Bool} (W : Wf R) {s u : Nat} {r : Row} (e : R[s]? = some r) (hu : r.up = some u) (hg : G s = false) : due R (fun x => G x || x == s) u = delNat r.node (due R G u) := by
  have h1 : dueS R (fun x => G x || x == s) u = (dueS R G u).filter fun x => x != s := by
    unfold dueS
    rw [List.filter_filter]
    apply List.filter_congr
    intro x _
    unfold chosen
    cases R[x]? with
    | none => simp
    | some rx =>
      show (rx.up == some u && !(G x || x == s)) = (x != s && (rx.up == some u && !G x))
      by_cases q : x = s
      · subst q; simp
      · have q1 : (x == s) = false := by simpa using q
        have q2 : (x != s) = true := by simpa using q
        rw [q1, q2]; simp
  unfold due
  rw [h1, ← nodeOf_at e]
  refine (delNat_map (dueS_nodup R G u) (fun x hx hxs => ?_) (mem_dueS.mpr ⟨r, e, hu, hg⟩)).symm
  obtain ⟨rx, ex, _, _⟩ := mem_dueS.mp hx
  rw [nodeOf_at ex, nodeOf_at e] at hxs
  exact W.inj x s rx r ex e hxs
theorem due_other {R : List Row} {G : Nat → Bool} {s u x : Nat} {r : Row} (e : R[s]? = some r) (hu : r.up = some u) (hx : x ≠ u) : due R (fun y => G y || y == s) x = due R G x := by
  unfold due dueS
  congr 1
  apply List.filter_congr
  intro y _
  unfold chosen
  by_cases q : y = s
  · subst q
    rw [e]
    have : (some u == some x) = false := by simpa using fun q => hx q.symm
    show (r.up == some x && _) = (r.up == some x && _)
    rw [hu, this]; rfl
  · have q1 : (y == s) = false := by simpa using q
    cases R[y]? with
    | none => rfl
    | some ry => show (ry.up == some x && !(G y || y == s)) = _; rw [q1, Bool.or_false]
theorem Doc.del {P : List PN} {R : List Row} {G : Nat → Bool} (D : Doc P R G) {s u : Nat} {r ru : Row} {p q : PN} (e : R[s]? = some r) (hb : r.blank = true) (hg : G s = false) (hu : r.up = some u) (eu : R[u]? = some ru)
    (hp : P[r.node]? = some p) (hq : P[ru.node]? = some q) : Doc ((P.set ru.node { q with ch := delNat r.node q.ch }).set r.node { p with par := none }) R (fun x => G x || x == s) := by
  have W := D.wf
  have ht := W.bl s r e hb
  have hnc : ¬ isC r := by rintro (q | q) <;> rw [ht] at q <;> exact absurd q (by decide)
  have h0 : s ≠ 0 := fun q => by
    subst q
    obtain ⟨r0, e0, _, hu0⟩ := W.root
    rw [e] at e0; cases e0; rw [hu] at hu0; cases hu0
  obtain ⟨_, u', ru', hu', hlt, eu', hc, _⟩ := W.up s r e h0
  rw [hu] at hu'; cases hu'
  rw [eu] at eu'; cases eu'
  have hne : ru.node ≠ r.node := fun h => by
    have := W.inj u s ru r eu e h
    omega
  have lj := (List.getElem?_eq_some_iff.mp hq).1
  have li := (List.getElem?_eq_some_iff.mp hp).1
  have e2 : (P.set ru.node { q with ch := delNat r.node q.ch })[r.node]? = some p := by rw [List.getElem?_set_ne hne]; exact hp
  have S : PSame P ((P.set ru.node { q with ch := delNat r.node q.ch }).set r.node { p with par := none }) :=
    (PSame.set (p' := { q with ch := delNat r.node q.ch }) hq ⟨rfl, rfl, rfl, rfl, rfl, rfl⟩).trans (PSame.set (p' := { p with par := none }) e2 ⟨rfl, rfl, rfl, rfl, rfl, rfl⟩)
  refine ⟨W, fun x rx ex => ?_, fun x rx ex hx => ?_⟩
  · obtain ⟨px, h1, h2, h3, h4⟩ := D.rows x rx ex
    by_cases hxs : x = s
    · subst hxs
      rw [e] at ex; cases ex
      rw [hp] at h1; cases h1
      refine ⟨{ p with par := none }, by rw [List.getElem?_set_self (by simpa using li)], h2.same S ⟨rfl, rfl, rfl, rfl, rfl, rfl⟩, ?_, fun h => absurd h hnc⟩
      show none = parOf R _ x r
      unfold parOf
      rw [if_pos (by simp)]
    · have hgx : (G x || x == s) = G x := by
        have : (x == s) = false := by simpa using hxs
        rw [this, Bool.or_false]
      have n1 : r.node ≠ rx.node := fun h => hxs (W.inj s x r rx e ex h).symm
      have hpar : ∀ {pp : PN}, pp.par = parOf R G x rx → pp.par = parOf R (fun y => G y || y == s) x rx := fun h => by
        rw [h]; unfold parOf; simp only [hgx]
      by_cases hxu : x = u
      · subst hxu
        rw [eu] at ex; cases ex
        rw [hq] at h1; cases h1
        refine ⟨{ q with ch := delNat r.node q.ch }, by rw [List.getElem?_set_ne n1, List.getElem?_set_self lj], h2.same S ⟨rfl, rfl, rfl, rfl, rfl, rfl⟩, hpar h3, fun h => ?_⟩
        show delNat r.node q.ch = _
        rw [h4 h, due_del W e hu hg]
      · have n2 : ru.node ≠ rx.node := fun h => hxu (W.inj u x ru rx eu ex h).symm
        refine ⟨px, by rw [List.getElem?_set_ne n1, List.getElem?_set_ne n2]; exact h1, h2.same S (.refl px), hpar h3, fun h => ?_⟩
        rw [h4 h, due_other e hu hxu]
  · by_cases hxs : x = s
    · subst hxs; rw [e] at ex; cases ex; exact hb
    · have hx' : (G x || x == s) = true := hx
      have : (x == s) = false := by simpa using hxs
      rw [this, Bool.or_false] at hx'
      exact D.gb x rx ex hx'
theorem Doc.congr {P : List PN} {R : List Row} {G G' : Nat → Bool} (D : Doc P R G) (h : ∀ x, x < R.length → G x = G' x) : Doc P R G' := by
  have hd : ∀ u, due R G u = due R G' u := fun u => by
    unfold due dueS
    congr 1
    apply List.filter_congr
    intro x hx
    unfold chosen
    rw [h x (List.mem_range.mp hx)]
  refine ⟨D.wf, fun x rx ex => ?_, fun x rx ex hx => ?_⟩
  · obtain ⟨px, h1, h2, h3, h4⟩ := D.rows x rx ex
    have hg := h x (List.getElem?_eq_some_iff.mp ex).1
    exact ⟨px, h1, h2, by rw [h3]; unfold parOf; rw [hg], fun hc => by rw [h4 hc, hd]⟩
  · rw [← h x (List.getElem?_eq_some_iff.mp ex).1] at hx
    exact D.gb x rx ex hx
/-- which blank texts go -/
def crit (R : List Row) (fs : List Form) (s : Nat) : Bool := match R[s]? with
  | none => false
  | some r => r.blank && match r.up with
    | none => false
    | some u => match R[u]? with
      | none => false
      | some ru => goes fs ru.uri ru.loc && !kept R u
end Mine
end

section
open PySem PySem.W PySem.Spec PySem.Calls PyProof.Rows
set_option Elab.async false
set_option maxRecDepth 100000
set_option maxHeartbeats 8000000
namespace Mine
theorem fillE0 : (PySem.Challenge.rw_on0188_01 = PySem.Challenge.rw_on0188_01) ∧ hK = hK := by
  k_fill
  exact ⟨rfl, rfl⟩
theorem TStep.ofSub {H H' : AH} {t : TreeA} (h : IsTree H t) (S : Sub H H') : TStep H t H' t := ⟨h.sub S, fun a _ ha => by
  cases e : H a with
  | none => exact absurd e ha
  | some o => exact S a o e, fun _ ha => .inl ha, rfl, fun _ x e => ⟨x, e, rfl⟩⟩
theorem TStep.keep {H H' : AH} {t t' : TreeA} (S : TStep H t H' t') {a : Addr} {o : AObj} (e : H a = some o) (ha : a ∉ t.addrs) : H' a = some o := (S.k a ha (some_ne e)).trans e
structure StripsOff (t : TreeA) (l : Addr) (SA : List StripA) : Prop where
  l : l ∉ t.addrs
  s : ∀ s ∈ SA, s.a ∉ t.addrs ∧ s.d ∉ t.addrs
theorem StripsIs.step {H H' : AH} {t t' : TreeA} {l : Addr} {SA : List StripA} (h : StripsIs H l SA) (f : StripsOff t l SA) (S : TStep H t H' t') : StripsIs H' l SA ∧ StripsOff t' l SA :=
  ⟨⟨S.keep h.l f.l, fun s hs => ⟨S.keep (h.s s hs).1 (f.s s hs).1, S.keep (h.s s hs).2 (f.s s hs).2⟩, h.z⟩, S.off f.l (some_ne h.l), fun s hs => ⟨S.off (f.s s hs).1 (some_ne (h.s s hs).1), S.off (f.s s hs).2 (some_ne (h.s s hs).2)⟩⟩
def Gi (R : List Row) (fs : List Form) (G : Nat → Bool) (F : List Nat) (i : Nat) (s : Nat) : Bool := G s || (decide (s ∈ F.take i) && crit R fs s)
def amSs2 (T : Addr) (r : Value) (l : Addr) : AM := [("tree", .ref T), ("root", r), ("strips", .ref l)]
def amSs (T l : Addr) : AM := [("tree", .ref T), ("strips", .ref l)]
theorem crit_nil (R : List Row) (s : Nat) : crit R [] s = false := by
  unfold crit
  split
  · rfl
  · split
    · simp
    · split
      · simp
      · rename_i ru _
        rw [show goes [] ru.uri ru.loc = false from rfl]; simp
theorem crit_at {R : List Row} {fs : List Form} {s u : Nat} {r ru : Row} (e : R[s]? = some r) (hb : r.blank = true) (hu : r.up = some u) (eu : R[u]? = some ru) : crit R fs s = (goes fs ru.uri ru.loc && !kept R u) := by
  unfold crit
  simp only [e, hb, hu, eu, Bool.true_and]
theorem crit_blank {R : List Row} {fs : List Form} {s : Nat} {r : Row} (e : R[s]? = some r) (hb : r.blank = false) : crit R fs s = false := by
  unfold crit
  simp only [e, hb, Bool.false_and]
section
variable {w : World} {n : Nat} {c : Cx} {env : Env} {am : AM} {H : AH}
theorem sp_strip_source {t : TreeA} {R : List Row} {G : Nat → Bool} {l : Addr} {SA : List StripA} (D : Doc t.pns R G) (h : IsTree H t) (hS : StripsIs H l SA) (hO : StripsOff t l SA) (hok : ∀ s ∈ SA, s.f.ok) :
    Spec w (.ref 137) 6 H [.ref t.T, nv (nodeOf R 0), .ref l] (fun r H' => r = .none ∧ ∃ t', TStep H t H' t' ∧ Doc t'.pns R (fun s => G s || crit R (SA.map (·.f)) s)) := by
  have W := D.wf
  have hz := W.sz
  have h0 : G 0 = false := by
    obtain ⟨r, e, hk, _⟩ := W.root
    exact D.notG e (by rw [hk]; decide)
  refine' Spec.of ?ho ?hcd ?hb ?hnm ?hco ?hgen ?hk ?hcell ?h
  case ho => k_is
  case hcd => k_is
  case hb => ((first | (with_reducible refine all0 ?_) | (with_reducible refine all1 ?_) | (with_reducible refine all2 ?_) | (with_reducible refine all3 ?_) | (with_reducible refine all4 ?_) | (with_reducible refine all5 ?_) | (with_reducible refine all6 ?_) | (with_reducible refine all7 ?_)); intros; exact BindsTo.of_eq rfl)
  case hnm => decide
  case hco => rfl
  case hgen => rfl
  case hk => rfl
  case hcell => decide
  try (conv in (occs := *) (pSub _) => whnf)
  try (conv in (occs := *) (pSco _) => whnf)
  try (conv in (occs := *) (pPar _) => whnf)
  intro c O
  refine ex_cons ?_
  refine st_if ?_
  refine tst_cmp ?_
  refine ev_loc (by assumption) rfl ?_
  refine ev_list ?_
  refine ar_nil ?_
  refine ⟨by simp, fun eo he _ => ?_⟩
  have SE := Sub.new (o := .list []) he
  have eE := hset_self H eo (.list [])
  cases SA with
  | nil =>
    refine ⟨_, CmpIs.eql O (SE _ _ hS.l) eE (r := true) (.inl rfl), ?_⟩
    refine ite_isT rfl ?_
    refine ex_cons ?_
    refine st_return0 ?_
    with_reducible refine next_ret ?_
    with_reducible refine next_ret ?_
    exact ⟨H, SE, rfl, t, TStep.refl h, D.congr fun x _ => by rw [List.map_nil, crit_nil, Bool.or_false]⟩
  | cons s0 SA0 =>
  generalize hSA : s0 :: SA0 = SA at *
  refine ⟨_, CmpIs.eql O (SE _ _ hS.l) eE (r := false) (.inr ⟨by rw [← hSA]; simp, rfl⟩), ?_⟩
  refine ite_isF rfl ?_
  clear eE
  have h1 := h.sub SE
  have S1 := TStep.ofSub h SE
  obtain ⟨hS1, hO1⟩ := hS.step hO S1
  refine ex_nil ?_
  with_reducible refine next_next ?_
  refine ex_cons ?_
  refine Tr.wk ⟨amSs2 t.T (nv (nodeOf R 0)) l, _, by unfold amSs2; (repeat (first | exact amsub_nil | refine amsub_cons rfl ?_)), Sub.refl, ?_⟩
  refine st_for ?_
  unfold amSs2
  refine ev_call (by assumption) ?_
  (refine' ev_globF (by assumption) ?zq1 ?_; (case zq1 => k_is))
  refine ⟨.ref (by k_is), ?_⟩
  refine ar_cons ?_
  refine ev_loc (by assumption) rfl ?_
  refine ar_cons ?_
  refine ev_loc (by assumption) rfl ?_
  refine ar_nil ?_
  refine (sp_blank_texts D h1 h0).use O (by decide) ?_
  rintro _ H1 ⟨fo, F, rfl, hfo, ef, SB, hnd, hF⟩
  have T1 := S1.trans (TStep.ofSub h1 SB)
  have fof : fo ∉ t.addrs := h1.not_none hfo
  have hFl : ∀ s ∈ F, s < R.length := fun s hs => by
    obtain ⟨_, r, e, _⟩ := (hF s).mp hs
    exact (List.getElem?_eq_some_iff.mp e).1
  refine ⟨F.length, _, _, _, fun i am H' => AmSub (amSs t.T l) am ∧ ∃ t', TStep H t H' t' ∧ Doc t'.pns R (Gi R (SA.map (·.f)) G F i) ∧ H' fo = some (.list (nvs R F)) ∧ fo ∉ t'.addrs, itb_listK (by exact trivial) ef (by simp [nvs]), Sub.refl, ?_, ?_, ?_, ?_⟩
  · exact ⟨by unfold amSs; (repeat (first | exact amsub_nil | refine amsub_cons rfl ?_)), t, T1, D.congr fun x _ => by simp [Gi], ef, fof⟩
  · rintro _ _ _ ⟨_, _, _, _, e, _⟩; exact e
  · rintro i am2 _ v H2 hi ⟨ham, t2, T2, D2, e2, f2⟩ ⟨hv, rfl⟩
    obtain ⟨s, hs, rfl⟩ := map_at (f := fun s => nv (nodeOf R s)) hv
    obtain ⟨hgs, r, er, hb⟩ := (hF s).mp (List.mem_of_getElem? hs)
    have hnt : s ∉ F.take i := fun hm => by
      obtain ⟨k, hk, ek⟩ := List.mem_iff_getElem.mp hm
      have hk' : k < i := by simp at hk; omega
      have hkF : F[k]? = some s := by
        rw [← List.getElem?_take_of_lt hk', List.getElem?_eq_getElem hk, ek]
      have := (List.getElem?_inj (by omega) hnd).mp (hkF.trans hs.symm)
      omega
    have hgi : Gi R (SA.map (·.f)) G F i s = false := by simp [Gi, hgs, hnt]
    have ht := W.bl s r er hb
    have hs0 : s ≠ 0 := fun q => by
      subst q
      obtain ⟨r0, e0, hk0, _⟩ := W.root
      rw [er] at e0; cases e0; rw [ht] at hk0; exact absurd hk0 (by decide)
    obtain ⟨_, u, ru, hu, hlt, eu, hc, hel⟩ := W.up s r er hs0
    have hre : ru.kind = "element" := hel (by rw [ht]; decide)
    obtain ⟨x, ex, rx, px, _⟩ := D2.node er
    obtain ⟨y, ey, ry, py, cy⟩ := D2.node eu
    have i2 := T2.i
    obtain ⟨hS2, _⟩ := hS.step hO T2
    have hxp : x.par = some ru.node := by rw [px, parOf, if_neg (by rw [hgi]; decide), hu]; simp [nodeOf_at eu]
    have next : ∀ Hx t3, TStep H t Hx t3 → Doc t3.pns R (Gi R (SA.map (·.f)) G F (i + 1)) → Hx fo = some (.list (nvs R F)) → fo ∉ t3.addrs → ∀ amx, AmSub (amSs t2.T l) amx →
        Wk (fun am H' => AmSub (amSs t.T l) am ∧ ∃ t', TStep H t H' t' ∧ Doc t'.pns R (Gi R (SA.map (·.f)) G F (i + 1)) ∧ H' fo = some (.list (nvs R F)) ∧ fo ∉ t'.addrs) amx Hx := fun Hx t3 h1 h2 h3 h4 amx h5 =>
      ⟨amSs t.T l, Hx, T2.T ▸ h5, Sub.refl, by unfold amSs; (repeat (first | exact amsub_nil | refine amsub_cons rfl ?_)), t3, h1, h2, h3, h4⟩
    have stay : crit R (SA.map (·.f)) s = false → ∀ x, x < R.length → Gi R (SA.map (·.f)) G F i x = Gi R (SA.map (·.f)) G F (i + 1) x := fun hcr x _ => by
      unfold Gi
      rw [List.take_succ, hs]
      by_cases q : x = s
      · subst q; rw [hcr]; simp
      · simp [q]
    refine as_name O ?_
    refine Tr.wk ⟨("node", nv r.node) :: amSs t2.T l, H2, ?_, Sub.refl, ?_⟩
    · rw [T2.T]
      refine amsub_cons (by rw [← nodeOf_at er]; rfl) ?_
      refine amsub_cons ?_ (amsub_cons ?_ amsub_nil)
      · exact ham _ (.head _)
      · exact ham _ (.tail _ (.head _))
    unfold amSs
    refine ex_cons ?_
    refine st_assign (by assumption) ?_
    refine ev_meth (by assumption) ?_
    refine ev_loc (by assumption) rfl ?_
    refine ⟨_, i2.meth O (mo_parent w), ?_⟩
    refine ⟨.ref (by k_is), ?_⟩
    refine ar_cons ?_
    refine ev_loc (by assumption) rfl ?_
    refine ar_nil ?_
    refine (sp_parent w i2 ex).use O (by decide) ?_
    rintro _ H2 ⟨rfl, rfl⟩
    rw [hxp]
    with_reducible refine next_next ?_
    refine ex_cons ?_
    refine st_if ?_
    refine tst_and ?_
    refine tst_cmp ?_
    refine ev_meth (by assumption) ?_
    refine ev_loc (by assumption) rfl ?_
    refine ⟨_, i2.meth O (mo_kind w), ?_⟩
    refine ⟨.ref (by k_is), ?_⟩
    refine ar_cons ?_
    refine ev_loc (by assumption) rfl ?_
    refine ar_nil ?_
    refine (sp_kind w i2 ey).use O (by decide) ?_
    rintro _ H2 ⟨rfl, rfl⟩
    refine ev_str ?_
    with_reducible refine ⟨_, .eqs, ?_⟩
    refine ite_isT (by rw [show y.kind = ru.kind from ry.kind, hre]; rfl) ?_
    refine tst_and ?_
    refine tst_not ?_
    refine tst_plain ?_
    refine ev_call (by assumption) ?_
    (refine' ev_globF (by assumption) ?zq1 ?_; (case zq1 => k_is))
    refine ⟨.ref (by k_is), ?_⟩
    refine ar_cons ?_
    refine ev_loc (by assumption) rfl ?_
    refine ar_cons ?_
    refine ev_loc (by assumption) rfl ?_
    refine ar_nil ?_
    refine (sp_keeps D2 i2 eu).use O (by decide) ?_
    rintro _ H2 ⟨rfl, rfl⟩
    refine ⟨_, rfl, ?_⟩
    have hcrit := crit_at (fs := SA.map (·.f)) er hb hu eu
    cases hkp : kept R u with
    | true =>
      refine ite_isF rfl ?_
      refine ite_f ?_
      refine ex_nil ?_
      with_reducible refine next_next ?_
      refine ex_nil ?_
      refine next _ t2 T2 (D2.congr (stay (by rw [hcrit, hkp]; simp))) e2 f2 _ ?_
      unfold amSs
      (repeat (first | exact amsub_nil | refine amsub_cons rfl ?_))
    | false =>
      refine ite_isT rfl ?_
      refine tst_and_nil ?_
      refine ite_t ?_
      refine ex_cons ?_
      refine st_if ?_
      refine tst_plain ?_
      refine ev_call (by assumption) ?_
      (refine' ev_globF (by assumption) ?zq1 ?_; (case zq1 => k_is))
      refine ⟨.ref (by k_is), ?_⟩
      refine ar_cons ?_
      refine ev_loc (by assumption) rfl ?_
      refine ar_cons ?_
      refine ev_meth (by assumption) ?_
      refine ev_loc (by assumption) rfl ?_
      refine ⟨_, i2.meth O (mo_uri w), ?_⟩
      refine ⟨.ref (by k_is), ?_⟩
      refine ar_cons ?_
      refine ev_loc (by assumption) rfl ?_
      refine ar_nil ?_
      refine (sp_uri w i2 ey).use O (by decide) ?_
      rintro _ H2 ⟨rfl, rfl⟩
      refine ar_cons ?_
      refine ev_meth (by assumption) ?_
      refine ev_loc (by assumption) rfl ?_
      refine ⟨_, i2.meth O (mo_local w), ?_⟩
      refine ⟨.ref (by k_is), ?_⟩
      refine ar_cons ?_
      refine ev_loc (by assumption) rfl ?_
      refine ar_nil ?_
      refine (sp_local w i2 ey).use O (by decide) ?_
      rintro _ H2 ⟨rfl, rfl⟩
      refine ar_nil ?_
      refine (sp_is_stripped hS2).use O (by decide) ?_
      rintro _ H2 ⟨rfl, rfl⟩
      refine ⟨_, rfl, ?_⟩
      have hgo : isStr (SA.map (·.f)) y.uri y.loc = goes (SA.map (·.f)) ru.uri ru.loc := by
        rw [isStr_goes (fun f hf => by obtain ⟨s, hs, rfl⟩ := List.mem_map.mp hf; exact hok s hs), show y.uri = ru.uri from ry.uri, show y.loc = ru.loc from ry.loc]
      rw [hgo]
      cases hg : goes (SA.map (·.f)) ru.uri ru.loc with
      | false =>
        refine ite_isF rfl ?_
        refine ex_nil ?_
        with_reducible refine next_next ?_
        refine ex_nil ?_
        with_reducible refine next_next ?_
        refine ex_nil ?_
        refine next _ t2 T2 (D2.congr (stay (by rw [hcrit, hg]; rfl))) e2 f2 _ ?_
        unfold amSs
        (repeat (first | exact amsub_nil | refine amsub_cons rfl ?_))
      | true =>
        refine ite_isT rfl ?_
        refine ex_cons ?_
        refine st_expr ?_
        refine ev_call (by assumption) ?_
        (refine' ev_globF (by assumption) ?zq1 ?_; (case zq1 => k_is))
        refine ⟨.ref (by k_is), ?_⟩
        refine ar_cons ?_
        refine ev_loc (by assumption) rfl ?_
        refine ar_cons ?_
        refine ev_loc (by assumption) rfl ?_
        refine ar_nil ?_
        have hin : r.node ∈ y.ch := by
          rw [cy hc]
          exact List.mem_map.mpr ⟨s, mem_dueS.mpr ⟨r, er, hu, hgi⟩, nodeOf_at er⟩
        have hnn : r.node ≠ ru.node := fun h => by
          have := W.inj s u r ru er eu h
          omega
        refine (sp_remove i2 ex (rx.kind.trans ht) hxp ey hin hnn).use O (by decide) ?_
        rintro _ H3 ⟨t3, T3, e3⟩
        with_reducible refine next_next ?_
        refine ex_nil ?_
        with_reducible refine next_next ?_
        refine ex_nil ?_
        with_reducible refine next_next ?_
        refine ex_nil ?_
        have P2 : t2.pns[r.node]? = some x.pn := by simp [TreeA.pns, ex]
        have Q2 : t2.pns[ru.node]? = some y.pn := by simp [TreeA.pns, ey]
        have D3 := D2.del er hb hgi hu eu P2 Q2
        have e3' : t3.pns = (t2.pns.set ru.node { y.pn with ch := delNat r.node y.pn.ch }).set r.node { x.pn with par := none } := e3
        rw [← e3'] at D3
        refine next _ t3 (T2.trans T3) (D3.congr fun z hz => ?_) (T3.keep e2 f2) (T3.off f2 (some_ne e2)) _ ?_
        rotate_left
        · unfold amSs
          (repeat (first | exact amsub_nil | refine amsub_cons rfl ?_))
        unfold Gi
        rw [List.take_succ, hs]
        have hcr : crit R (SA.map (·.f)) s = true := by rw [hcrit, hg, hkp]; rfl
        by_cases q : z = s
        · subst q; simp [hcr]
        · have : (z == s) = false := by simpa using q
          simp [q]
  · rintro _ H2 ⟨ham, t2, T2, D2, e2, f2⟩
    with_reducible refine next_next ?_
    refine ex_nil ?_
    refine ⟨H2, Sub.refl, rfl, t2, T2, D2.congr fun x hx => ?_⟩
    unfold Gi
    rw [List.take_length]
    cases hg : G x with
    | true => simp
    | false =>
      have er : R[x]? = some R[x] := List.getElem?_eq_getElem hx
      cases hb : R[x].blank with
      | true =>
        have : x ∈ F := (hF x).mpr ⟨hg, _, er, hb⟩
        simp [this]
      | false => rw [crit_blank er hb]; simp
end
end Mine
end

section
open PySem PySem.W PySem.Spec PySem.Calls PyProof.Rows
set_option Elab.async false
set_option maxRecDepth 100000
set_option maxHeartbeats 8000000
namespace Mine
abbrev noG : Nat → Bool := fun _ => false
theorem app_old {α : Type} {l : List α} {x : α} {i : Nat} (h : i < l.length) : (l ++ [x])[i]? = l[i]? := List.getElem?_append_left h
theorem app_new {α : Type} {l : List α} {x : α} : (l ++ [x])[l.length]? = some x := by simp
theorem app_cases {α : Type} {l : List α} {x y : α} {i : Nat} (h : (l ++ [x])[i]? = some y) : l[i]? = some y ∨ (i = l.length ∧ y = x) := by
  by_cases q : i < l.length
  · rw [app_old q] at h; exact .inl h
  · have h2 := (List.getElem?_eq_some_iff.mp h).1
    have : i = l.length := by simp at h2; omega
    subst this
    rw [app_new] at h; cases h; exact .inr ⟨rfl, rfl⟩
theorem Wf.add {R : List Row} (W : Wf R) {u : Nat} {ru r : Row} (eu : R[u]? = some ru) (hc : isC ru) (hel : r.kind ≠ "element" → ru.kind = "element") (hk : r.kind = "element" ∨ r.kind = "text" ∨ r.kind = "comment") (hu : r.up = some u) (hz : R.length < 100)
    (hn : ∀ (s : Nat) (rs : Row), R[s]? = some rs → rs.node ≠ r.node) (hb : r.blank = true → r.kind = "text") : Wf (R ++ [r]) := by
  have lu := (List.getElem?_eq_some_iff.mp eu).1
  refine ⟨?_, fun s rs es h0 => ?_, fun s rs es h => ?_, fun s s' rs rs' es es' h => ?_, by simp; omega⟩
  · obtain ⟨r0, e0, h1⟩ := W.root
    exact ⟨r0, by rw [app_old (List.getElem?_eq_some_iff.mp e0).1]; exact e0, h1⟩
  · rcases app_cases es with es | ⟨rfl, rfl⟩
    · obtain ⟨h1, v, rv, h2, h3, h4, h5⟩ := W.up s rs es h0
      exact ⟨h1, v, rv, h2, h3, by rw [app_old (List.getElem?_eq_some_iff.mp h4).1]; exact h4, h5⟩
    · exact ⟨hk, u, ru, hu, lu, by rw [app_old lu]; exact eu, hc, hel⟩
  · rcases app_cases es with es | ⟨rfl, rfl⟩
    · exact W.bl s rs es h
    · exact hb h
  · rcases app_cases es with f1 | ⟨f1, f2⟩
    · rcases app_cases es' with g1 | ⟨g1, g2⟩
      · exact W.inj s s' rs rs' f1 g1 h
      · exact absurd (h.trans (by rw [g2])) (hn s rs f1)
    · rcases app_cases es' with g1 | ⟨g1, g2⟩
      · exact absurd (h.symm.trans (by rw [f2])) (hn s' rs' g1)
      · rw [f1, g1]
theorem nodeOf_app {R : List Row} {r : Row} {s : Nat} (h : s < R.length) : nodeOf (R ++ [r]) s = nodeOf R s := by simp only [nodeOf, app_old h]
theorem due_app {R : List Row} {r : Row} {u : Nat} (hu : r.up = some u) (x : Nat) : due (R ++ [r]) noG x = due R noG x ++ (if x = u then [r.node] else []) := by
  have h1 : dueS (R ++ [r]) noG x = dueS R noG x ++ (if x = u then [R.length] else []) := by
    unfold dueS
    rw [List.length_append, List.length_singleton, List.range_succ, List.filter_append]
    congr 1
    · apply List.filter_congr
      intro y hy
      unfold chosen
      rw [app_old (List.mem_range.mp hy)]
    · have : chosen (R ++ [r]) noG x R.length = decide (x = u) := by
        unfold chosen
        rw [app_new]
        show (r.up == some x && !false) = _
        rw [hu]
        by_cases q : x = u
        · subst q; simp
        · have : (some u == some x) = false := beq_eq_false_iff_ne.mpr fun e => q (Option.some.inj e).symm
          rw [this]; simp [q]
      rw [List.filter_cons, this]
      by_cases q : x = u <;> simp [q]
  unfold due
  rw [h1, List.map_append]
  congr 1
  · apply List.map_congr_left
    intro y hy
    obtain ⟨ry, ey, _⟩ := mem_dueS.mp hy
    exact nodeOf_app (List.getElem?_eq_some_iff.mp ey).1
  · by_cases q : x = u <;> simp [q, nodeOf]
theorem Doc.add {P P' : List PN} {R : List Row} (D : Doc P R noG) {u : Nat} {ru r : Row} {q p : PN} (eu : R[u]? = some ru) (hc : isC ru) (hel : r.kind ≠ "element" → ru.kind = "element")
    (hk : r.kind = "element" ∨ r.kind = "text" ∨ r.kind = "comment") (hu : r.up = some u) (hz : R.length < 100) (hn : r.node = P.length) (hb : r.blank = true → r.kind = "text")
    (hq : P[ru.node]? = some q) (S : PSame P P') (h1 : P'[ru.node]? = some { q with ch := q.ch ++ [P.length] }) (h2 : ∀ j, j < P.length → j ≠ ru.node → P'[j]? = P[j]?)
    (h3 : P'[P.length]? = some p) (rp : RowAt P' r p) (pp : p.par = some ru.node) (pc : p.ch = []) : Doc P' (R ++ [r]) noG := by
  have W := D.wf
  have lu := (List.getElem?_eq_some_iff.mp eu).1
  have hlt : ∀ (s : Nat) (rs : Row), R[s]? = some rs → rs.node < P.length := fun s rs es => by
    obtain ⟨p, hp, _⟩ := D.rows s rs es
    exact (List.getElem?_eq_some_iff.mp hp).1
  have W' := W.add eu hc hel hk hu hz (fun s rs es => by have := hlt s rs es; omega) hb
  refine ⟨W', fun s rs es => ?_, fun _ _ _ h => by cases h⟩
  rcases app_cases es with es | ⟨rfl, rfl⟩
  · obtain ⟨ps, e1, e2, e3, e4⟩ := D.rows s rs es
    have ls := (List.getElem?_eq_some_iff.mp es).1
    have hpar : rs.up.map (nodeOf R) = rs.up.map (nodeOf (R ++ [r])) := by
      by_cases h0 : s = 0
      · subst h0
        obtain ⟨r0, e0, _, hu0⟩ := W.root
        rw [es] at e0; cases e0; rw [hu0]; rfl
      · obtain ⟨_, v, rv, hv, hlv, ev, _⟩ := W.up s rs es h0
        rw [hv, Option.map_some, Option.map_some, nodeOf_app (List.getElem?_eq_some_iff.mp ev).1]
    have hp' : ∀ {pp : PN}, pp.par = ps.par → pp.par = parOf (R ++ [r]) noG s rs := fun h => by
      rw [h, e3]; unfold parOf; rw [hpar]
    by_cases hsu : s = u
    · subst hsu
      rw [eu] at es; cases es
      rw [hq] at e1; cases e1
      refine ⟨_, h1, e2.same S ⟨rfl, rfl, rfl, rfl, rfl, rfl⟩, hp' rfl, fun h => ?_⟩
      show q.ch ++ [P.length] = _
      rw [e4 h, due_app hu, if_pos rfl, hn]
    · have hne : rs.node ≠ ru.node := fun h => hsu (W.inj s u rs ru es eu h)
      refine ⟨ps, by rw [h2 _ (hlt s rs es) hne]; exact e1, e2.same S (.refl ps), hp' rfl, fun h => ?_⟩
      rw [e4 h, due_app hu, if_neg hsu, List.append_nil]
  · refine ⟨p, by rw [hn]; exact h3, rp, ?_, fun _ => ?_⟩
    · rw [pp]; unfold parOf; rw [if_neg (fun h => by cases h), hu, Option.map_some, nodeOf_app lu, nodeOf_at eu]
    · rw [pc, due_app hu, if_neg (by omega), List.append_nil]
      unfold due
      have : dueS R noG R.length = [] := by
        apply List.eq_nil_iff_forall_not_mem.mpr
        intro x hx
        obtain ⟨rx, ex, hux, _⟩ := mem_dueS.mp hx
        have lx := (List.getElem?_eq_some_iff.mp ex).1
        by_cases h0 : x = 0
        · subst h0
          obtain ⟨r0, e0, _, hu0⟩ := W.root
          rw [ex] at e0; cases e0; rw [hux] at hu0; cases hu0
        · obtain ⟨_, v, rv, hv, hlv, _⟩ := W.up x rx ex h0
          rw [hux] at hv; cases hv
          omega
      rw [this]; rfl
end Mine
end

section
open PySem PySem.W PySem.Spec PySem.Calls PyProof.Rows
set_option Elab.async false
set_option maxRecDepth 100000
set_option maxHeartbeats 8000000
namespace Mine
structure Added (P P' : List PN) (j : Nat) (q : PN) (r : Row) : Prop where
  S : PSame P P'
  h1 : P'[j]? = some { q with ch := q.ch ++ [P.length] }
  h2 : ∀ k, k < P.length → k ≠ j → P'[k]? = P[k]?
  h3 : ∃ p : PN, P'[P.length]? = some p ∧ RowAt P' r p ∧ p.par = some j ∧ p.ch = []
  len : P'.length ≤ P.length + 2
theorem added_base {P : List PN} {j : Nat} {q p : PN} (hq : P[j]? = some q) : PSame P (P.set j { q with ch := q.ch ++ [P.length] } ++ [p]) ∧ (P.set j { q with ch := q.ch ++ [P.length] } ++ [p])[j]? = some { q with ch := q.ch ++ [P.length] } ∧
    (∀ k, k < P.length → k ≠ j → (P.set j { q with ch := q.ch ++ [P.length] } ++ [p])[k]? = P[k]?) ∧ (P.set j { q with ch := q.ch ++ [P.length] } ++ [p])[P.length]? = some p := by
  have lj := (List.getElem?_eq_some_iff.mp hq).1
  have hl : (P.set j { q with ch := q.ch ++ [P.length] }).length = P.length := List.length_set
  refine ⟨(PSame.set (p' := { q with ch := q.ch ++ [P.length] }) hq ⟨rfl, rfl, rfl, rfl, rfl, rfl⟩).trans (PSame.app p), ?_, fun k hk hne => ?_, ?_⟩
  · rw [app_old (by rw [hl]; exact lj), List.getElem?_set_self lj]
  · rw [app_old (by rw [hl]; exact hk), List.getElem?_set_ne (Ne.symm hne)]
  · have := app_new (l := P.set j { q with ch := q.ch ++ [P.length] }) (x := p)
    rw [hl] at this; exact this
theorem Added.plain {P P' : List PN} {j : Nat} {q p : PN} {r : Row} (hq : P[j]? = some q) (e : P' = P.set j { q with ch := q.ch ++ [P.length] } ++ [p]) (hr : RowAt P' r p) (hp : p.par = some j) (hc : p.ch = []) : Added P P' j q r := by
  obtain ⟨a1, a2, a3, a4⟩ := added_base (p := p) hq
  rw [← e] at a1 a2 a3 a4
  exact ⟨a1, a2, a3, ⟨p, a4, hr, hp, hc⟩, by rw [e]; simp⟩
theorem Added.attr {P P' P'' : List PN} {j u : Nat} {q : PN} {name uri loc v au al : Str} (hq : P[j]? = some q) (e : P' = P.set j { q with ch := q.ch ++ [P.length] } ++ [⟨"element", name, uri, loc, "", some j, [], []⟩])
    (e2 : P'' = P'.set P.length ⟨"element", name, uri, loc, "", some j, [], [P.length + 1]⟩ ++ [⟨"attribute", "xml:space", au, al, v, some P.length, [], []⟩]) :
    Added P P'' j q ⟨P.length, "element", some u, uri, loc, some v, false⟩ := by
  obtain ⟨a1, a2, a3, a4⟩ := added_base (p := ⟨"element", name, uri, loc, "", some j, [], []⟩) hq
  rw [← e] at a1 a2 a3 a4
  have lj := (List.getElem?_eq_some_iff.mp hq).1
  have l1 : P'.length = P.length + 1 := by rw [e]; simp
  have old : ∀ k, k < P.length → P''[k]? = P'[k]? := fun k hk => by
    rw [e2, app_old (by rw [List.length_set]; omega), List.getElem?_set_ne (by omega)]
  have new1 : P''[P.length]? = some ⟨"element", name, uri, loc, "", some j, [], [P.length + 1]⟩ := by
    rw [e2, app_old (by rw [List.length_set]; omega), List.getElem?_set_self (by omega)]
  have new2 : P''[P.length + 1]? = some ⟨"attribute", "xml:space", au, al, v, some P.length, [], []⟩ := by
    have := app_new (l := P'.set P.length ⟨"element", name, uri, loc, "", some j, [], [P.length + 1]⟩) (x := ⟨"attribute", "xml:space", au, al, v, some P.length, [], []⟩)
    rw [List.length_set, l1] at this
    rw [e2]; exact this
  refine ⟨fun a qa ea => ?_, by rw [old j lj]; exact a2, fun k hk hne => by rw [old k hk]; exact a3 k hk hne, ⟨_, new1, ⟨rfl, rfl, rfl, ⟨_, _, rfl, new2, rfl, rfl⟩, fun h => absurd h (by show ¬ (("element" : Str) = "text"); decide), fun h => absurd h (by show ¬ (("element" : Str) = "text"); decide)⟩, rfl, rfl⟩, by rw [e2]; simp; omega⟩
  rw [old a (List.getElem?_eq_some_iff.mp ea).1]
  exact a1 a qa ea
theorem Added.doc {P P' : List PN} {R : List Row} (D : Doc P R noG) {u : Nat} {ru r : Row} {q : PN} (A : Added P P' ru.node q r) (eu : R[u]? = some ru) (hc : isC ru) (hel : r.kind ≠ "element" → ru.kind = "element")
    (hk : r.kind = "element" ∨ r.kind = "text" ∨ r.kind = "comment") (hu : r.up = some u) (hz : R.length < 100) (hn : r.node = P.length) (hb : r.blank = true → r.kind = "text") (hq : P[ru.node]? = some q) : Doc P' (R ++ [r]) noG := by
  obtain ⟨p, h3, rp, pp, pc⟩ := A.h3
  exact D.add eu hc hel hk hu hz hn hb hq A.S A.h1 A.h2 h3 rp pp pc
end Mine
end

section
open PySem PySem.W PySem.Spec PySem.Calls PyProof.Rows
set_option Elab.async false
set_option maxRecDepth 100000
set_option maxHeartbeats 8000000
namespace Mine
theorem fillE2 : (PySem.Challenge.rw_on0188_01 = PySem.Challenge.rw_on0188_01) ∧ hK = hK := by
  k_fill
  exact ⟨rfl, rfl⟩
structure DB (H0 H : AH) (l ra pa : Addr) (t : TreeA) (RA : List (Addr × Row)) (P : List Nat) (i root : Nat) : Prop where
  s : SrcOk H l
  tr : IsTree H t
  r : RowsIs H ra RA
  p : H pa = some (.list (P.map nv))
  ol : l ∉ t.addrs
  or : ra ∉ t.addrs
  op : pa ∉ t.addrs
  n1 : l ≠ ra
  n2 : l ≠ pa
  n3 : ra ≠ pa
  D : Doc t.pns (rowsOf RA) noG
  zt : t.ns.length ≤ 1 + 2 * i
  zr : RA.length = 1 + i
  P0 : ∃ q, P = 0 :: q ∧ (∀ p ∈ q, ∃ r : Row, (rowsOf RA)[p]? = some r ∧ r.kind = "element") ∧ (i ≠ 0 → q ≠ [])
  zp : P.length ≤ 1 + i
  rt : nodeOf (rowsOf RA) 0 = root
  fr : ∀ a, a ≠ l → H0 a ≠ none → H a = H0 a ∧ a ∉ t.addrs ∧ a ≠ ra ∧ a ≠ pa
theorem SrcOk.sub {H H' : AH} {l : Addr} (h : SrcOk H l) (S : Sub H H') : SrcOk H' l := by
  obtain ⟨b, m, e, r⟩ := h; exact ⟨b, m, S _ _ e, r⟩
theorem Sub.live {H H' : AH} (S : Sub H H') {a : Addr} (h : H a ≠ none) : H' a = H a := by
  cases e : H a with
  | none => exact absurd e h
  | some o => exact S a o e
theorem DB.sub {H0 H H' : AH} {l ra pa : Addr} {t : TreeA} {RA : List (Addr × Row)} {P : List Nat} {i root : Nat} (B : DB H0 H l ra pa t RA P i root) (S : Sub H H') : DB H0 H' l ra pa t RA P i root :=
  { B with s := B.s.sub S, tr := B.tr.sub S, r := B.r.sub S, p := S _ _ B.p, fr := fun a ha h0 => ⟨by
      have e := (B.fr a ha h0).1
      rw [S.live (by rw [e]; exact h0), e], (B.fr a ha h0).2⟩ }
theorem DB.src {H0 H : AH} {l ra pa : Addr} {t : TreeA} {RA : List (Addr × Row)} {P : List Nat} {i root : Nat} (B : DB H0 H l ra pa t RA P i root) {o : AObj} (hs : SrcOk (hset H l o) l) : DB H0 (hset H l o) l ra pa t RA P i root :=
  { B with
    s := hs
    tr := B.tr.off B.ol
    r := ⟨by rw [hset_ne (Ne.symm B.n1)]; exact B.r.l, fun p hp => by
      rw [hset_ne]; exact B.r.t p hp
      intro q
      obtain ⟨b, m, e, _⟩ := B.s
      have := B.r.t p hp
      rw [q, e] at this; cases this⟩
    p := by rw [hset_ne (Ne.symm B.n2)]; exact B.p
    fr := fun a ha h0 => ⟨by rw [hset_ne ha]; exact (B.fr a ha h0).1, (B.fr a ha h0).2⟩ }
def amT (T l ra pa : Addr) (root i : Nat) : AM := [("turn", nv i), ("source", .ref l), ("tree", .ref T), ("root", nv root), ("rows", .ref ra), ("parents", .ref pa)]
def amTA (T l ra pa : Addr) (root i u : Nat) : AM := [("at", nv u), ("turn", nv i), ("source", .ref l), ("tree", .ref T), ("root", nv root), ("rows", .ref ra), ("parents", .ref pa)]
def amTW (T l ra pa : Addr) (root i u y : Nat) : AM := [("way", nv y), ("at", nv u), ("turn", nv i), ("source", .ref l), ("tree", .ref T), ("root", nv root), ("rows", .ref ra), ("parents", .ref pa)]
def amE (T l ra pa : Addr) (root v : Nat) (su sl : Str) (wd : Value) (p : Nat) : AM := [("word", wd), ("uri", .str su 0), ("local", .str sl 0), ("parent", nv p), ("at", nv v), ("source", .ref l), ("tree", .ref T), ("root", nv root), ("rows", .ref ra), ("parents", .ref pa)]
def amN (T l ra pa : Addr) (root v : Nat) (su sl : Str) (wd : Value) (k : Nat) : AM := [("node", nv k), ("word", wd), ("uri", .str su 0), ("local", .str sl 0), ("at", nv v), ("source", .ref l), ("tree", .ref T), ("root", nv root), ("rows", .ref ra), ("parents", .ref pa)]
def row0 : Row := ⟨0, "root", none, "", "", none, false⟩
def pn0 : PN := ⟨"root", "", "", "", "", none, [], []⟩
theorem one_at {α : Type} {x y : α} {s : Nat} (h : [x][s]? = some y) : s = 0 ∧ y = x := by
  cases s with
  | zero => cases h; exact ⟨rfl, rfl⟩
  | succ s => cases h
theorem doc0 : Doc [pn0] [row0] noG := by
  refine ⟨⟨⟨row0, rfl, rfl, rfl⟩, fun s r e h0 => absurd (one_at e).1 h0, fun s r e hb => ?_, fun s s' r r' e e' _ => (one_at e).1.trans (one_at e').1.symm, by simp⟩, fun s r e => ?_, fun _ _ _ h => by cases h⟩
  · obtain ⟨rfl, rfl⟩ := one_at e; cases hb
  · obtain ⟨rfl, rfl⟩ := one_at e
    exact ⟨pn0, rfl, ⟨rfl, rfl, rfl, rfl, fun h => absurd h (by decide), fun h => absurd h (by decide)⟩, rfl, fun _ => rfl⟩
def amDoc (T l ra pa : Addr) (root : Nat) : AM := [("source", .ref l), ("tree", .ref T), ("root", nv root), ("rows", .ref ra), ("parents", .ref pa)]
theorem rowsOf_app (RA : List (Addr × Row)) (p : Addr × Row) : rowsOf (RA ++ [p]) = rowsOf RA ++ [p.2] := by simp [rowsOf]
theorem DB.next {H0 H H2 H5 : AH} {l ra pa T : Addr} {t t2 : TreeA} {RA : List (Addr × Row)} {P P' : List Nat} {i root : Nat} {row : Row} (B : DB H0 H l ra pa t RA P i root) (S : TStep H t H2 t2)
    (D : Doc t2.pns (rowsOf RA ++ [row]) noG) (hz : t2.ns.length ≤ t.ns.length + 2)
    (hT : H5 T = some (.tuple row.vals)) (hra : H5 ra = some (.list (RA.map (fun p => Value.ref p.1) ++ [.ref T]))) (hpa : H5 pa = some (.list (P'.map nv)))
    (hk : ∀ a, a ≠ ra → a ≠ pa → H2 a ≠ none → H5 a = H2 a) (hP : P' = P ∨ (P' = P ++ [RA.length] ∧ row.kind = "element")) (h0 : i = 0 → row.kind = "element" ∧ P' = P ++ [RA.length]) :
    DB H0 H5 l ra pa t2 (RA ++ [(T, row)]) P' (i + 1) root := by
  obtain ⟨b, m, es, er⟩ := B.s
  have el2 : H2 l = some (.list [.int b 0, .int m 0]) := S.keep es B.ol
  have hold : ∀ {p : Nat} {r : Row}, (rowsOf RA)[p]? = some r → (rowsOf RA ++ [row])[p]? = some r := fun {p r} h => by rw [app_old (List.getElem?_eq_some_iff.mp h).1]; exact h
  have hlenR : (rowsOf RA).length = RA.length := rowsOf_len RA
  exact {
    s := ⟨b, m, (hk l B.n1 B.n2 (some_ne el2)).trans el2, er⟩
    tr := S.i.frame fun a ha => by
      obtain ⟨o, e, _⟩ := S.i.live a ha
      refine hk a (fun q => ?_) (fun q => ?_) (some_ne e)
      · exact S.off B.or (some_ne B.r.l) (q ▸ ha)
      · exact S.off B.op (some_ne B.p) (q ▸ ha)
    r := ⟨by rw [hra]; simp, fun p hp => by
      rcases List.mem_append.mp hp with hp | hp
      · have e1 := B.r.t p hp
        have e2 := S.keep e1 (B.tr.not_tuple e1)
        rw [hk p.1 (fun q => by rw [q, B.r.l] at e1; cases e1) (fun q => by rw [q, B.p] at e1; cases e1) (some_ne e2)]; exact e2
      · rcases List.mem_singleton.mp hp with rfl; exact hT⟩
    p := hpa
    ol := S.off B.ol (some_ne es)
    or := S.off B.or (some_ne B.r.l)
    op := S.off B.op (some_ne B.p)
    n1 := B.n1
    n2 := B.n2
    n3 := B.n3
    D := by rw [rowsOf_app]; exact D
    zt := by have := B.zt; omega
    zr := by have := B.zr; simp; omega
    P0 := by
      obtain ⟨q, e1, e2, e3⟩ := B.P0
      rw [rowsOf_app]
      rcases hP with rfl | ⟨rfl, hk'⟩
      · refine ⟨q, e1, fun p hp => ?_, fun _ => ?_⟩
        · obtain ⟨r, e, h⟩ := e2 p hp; exact ⟨r, hold e, h⟩
        · by_cases hi : i = 0
          · have h2 := congrArg List.length (h0 hi).2
            simp at h2
          · exact e3 hi
      · refine ⟨q ++ [RA.length], by rw [e1]; rfl, fun p hp => ?_, fun _ h => ?_⟩
        · rcases List.mem_append.mp hp with hp | hp
          · obtain ⟨r, e, h⟩ := e2 p hp; exact ⟨r, hold e, h⟩
          · rcases List.mem_singleton.mp hp with rfl
            refine ⟨row, ?_, hk'⟩
            rw [← hlenR]; exact app_new
        · exact absurd (congrArg List.length h) (by simp)
    zp := by
      have := B.zp
      rcases hP with rfl | ⟨rfl, _⟩
      · omega
      · simp; omega
    rt := by
      rw [rowsOf_app, nodeOf_app (by rw [hlenR, B.zr]; omega)]; exact B.rt
    fr := fun a ha hn => by
      obtain ⟨f1, f2, f3, f4⟩ := B.fr a ha hn
      have hn1 : H a ≠ none := by rw [f1]; exact hn
      have f5 := S.k a f2 hn1
      exact ⟨by rw [hk a f3 f4 (by rw [f5]; exact hn1), f5, f1], S.off f2 hn1, f3, f4⟩ }
section
variable {w : World} {n : Nat} {c : Cx} {env : Env} {am : AM} {H : AH}
theorem take_use {H0 : AH} {l ra pa : Addr} {t : TreeA} {RA : List (Addr × Row)} {P : List Nat} {i root top : Nat} {Q : Value → AM → AH → Prop} (O : c.Ok w n) (hn : 2 ≤ n) (B : DB H0 H l ra pa t RA P i root) (h0 : 0 < top) (h1 : top < 1000)
    (hq : ∀ d H', d < top → DB H0 H' l ra pa t RA P i root → Q (nv d) am H') : CallIs w c (.ref 362) [.ref l, nv top] am H Q := by
  refine (sp_take B.s h0 h1).use O hn ?_
  rintro _ _ ⟨d, hd, rfl, o, rfl, hs⟩
  exact hq d _ hd (B.src hs)
theorem one_use {H0 : AH} {l ra pa a : Addr} {t : TreeA} {RA : List (Addr × Row)} {P : List Nat} {i root : Nat} {vs : List Value} {Q : Value → AM → AH → Prop} (O : c.Ok w n) (hn : 3 ≤ n) (B : DB H0 H l ra pa t RA P i root) (ha : H a = none) (hz : 0 < vs.length ∧ vs.length < 1000)
    (hq : ∀ (d : Nat) v H', vs[d]? = some v → DB H0 H' l ra pa t RA P i root → Q v am H') : CallIs w c (.ref 369) [.ref l, .ref a] am (hset H a (.list vs)) Q := by
  have B2 := B.sub (Sub.new (o := .list vs) ha)
  refine (sp_one B2.s (hset_self _ _ _) (Ne.symm (ne_of_none ha (by obtain ⟨b, m, e, _⟩ := B.s; exact some_ne e))) hz).use O hn ?_
  rintro _ _ ⟨d, v, hv, rfl, o, rfl, hs⟩
  exact hq d _ _ hv (B2.src hs)
theorem sp_document {l : Addr} (hS : SrcOk H l) :
    Spec w (.ref 376) 7 H [.ref l] (fun r H' => ∃ (x : Addr) (t : TreeA) (ra pa : Addr) (RA : List (Addr × Row)) (P : List Nat) (i root : Nat), r = .ref x ∧ H' x = some (.tuple [.ref t.T, nv root, .ref ra]) ∧ DB H H' l ra pa t RA P i root ∧ i ≤ 13) := by
  refine' Spec.of ?ho ?hcd ?hb ?hnm ?hco ?hgen ?hk ?hcell ?h
  case ho => k_is
  case hcd => k_is
  case hb => ((first | (with_reducible refine all0 ?_) | (with_reducible refine all1 ?_) | (with_reducible refine all2 ?_) | (with_reducible refine all3 ?_) | (with_reducible refine all4 ?_) | (with_reducible refine all5 ?_) | (with_reducible refine all6 ?_) | (with_reducible refine all7 ?_)); intros; exact BindsTo.of_eq rfl)
  case hnm => decide
  case hco => rfl
  case hgen => rfl
  case hk => rfl
  case hcell => decide
  try (conv in (occs := *) (pSub _) => whnf)
  try (conv in (occs := *) (pSco _) => whnf)
  try (conv in (occs := *) (pPar _) => whnf)
  intro c O
  refine ex_cons ?_
  refine st_assign (by assumption) ?_
  refine ev_call0 (by assumption) ?_
  (refine' ev_globF (by assumption) ?zq1 ?_; (case zq1 => k_is))
  refine ⟨⟨_, rfl, by k_is⟩, ?_⟩
  refine ci_Tree O (by decide) fun t H1 ht0 h1 hfr hk => ?_
  have T1 : ∀ a ∈ t.addrs, H a = none := hfr
  with_reducible refine next_next ?_
  refine ex_cons ?_
  refine st_assign (by assumption) ?_
  refine ev_meth0 (by assumption) ?_
  refine ev_loc (by assumption) rfl ?_
  refine ⟨_, h1.meth O (mo_new_root w), ?_⟩
  refine ⟨.ref (by k_is), ?_⟩
  refine (sp_new_root h1 (by rw [ht0]; decide)).use O (by decide) ?_
  rintro _ H2 ⟨rfl, t2, S2, e2⟩
  have hlen0 : t.ns.length = 0 := by rw [ht0]; rfl
  rw [hlen0]
  with_reducible refine next_next ?_
  refine ex_cons ?_
  refine st_assign (by assumption) ?_
  refine ev_list ?_
  refine ar_cons ?_
  refine ev_tuple ?_
  refine ar_cons ?_
  refine ev_loc (by assumption) rfl ?_
  refine ar_cons ?_
  refine ev_str ?_
  refine ar_cons ?_
  refine ev_none ?_
  refine ar_cons ?_
  refine ev_str ?_
  refine ar_cons ?_
  refine ev_str ?_
  refine ar_cons ?_
  refine ev_none ?_
  refine ar_cons ?_
  refine ev_bool ?_
  refine ar_nil ?_
  refine ⟨by simp, fun ta hta _ => ?_⟩
  refine ar_nil ?_
  refine ⟨by simp, fun ra hra _ => ?_⟩
  with_reducible refine next_next ?_
  refine ex_cons ?_
  refine st_assign (by assumption) ?_
  refine ev_list ?_
  refine ar_cons ?_
  refine ev_int ?_
  refine ar_nil ?_
  refine ⟨by simp, fun pa hpa _ => ?_⟩
  change hset H2 ta (.tuple row0.vals) ra = none at hra
  change hset (hset H2 ta (.tuple row0.vals)) ra (.list [.ref ta]) pa = none at hpa
  have B : DB H (hset (hset (hset H2 ta (.tuple row0.vals)) ra (.list [.ref ta])) pa (.list [nv 0])) l ra pa t2 [(ta, row0)] [0] 0 0 := by
    have hl1 : H l ≠ none := by obtain ⟨b, m, e, _⟩ := hS; exact some_ne e
    have l1 : l ∉ t.addrs := fun q => hl1 (hfr l q)
    have k2 : ∀ a, H a ≠ none → H2 a = H a ∧ a ∉ t2.addrs := fun a ha => by
      have e1 := hk a ha
      have h1' : H1 a ≠ none := by rw [e1]; exact ha
      have h2' : a ∉ t.addrs := fun q => ha (hfr a q)
      exact ⟨(S2.k a h2' h1').trans e1, S2.off h2' h1'⟩
    have hS2 : SrcOk H2 l := by obtain ⟨b, m, e, r⟩ := hS; exact ⟨b, m, (k2 l hl1).1.trans e, r⟩
    have Sa := Sub.new (o := .tuple row0.vals) hta
    have Sb := Sub.new (o := .list [.ref ta]) hra
    have Sc := Sub.new (o := .list [nv 0]) hpa
    have SS := (Sa.trans Sb).trans Sc
    have hl2 : H2 l ≠ none := by rw [(k2 l hl1).1]; exact hl1
    have lra : l ≠ ra := ne_of_none hra (by rw [Sa.live hl2]; exact hl2)
    have lpa : l ≠ pa := ne_of_none hpa (by rw [(Sa.trans Sb).live hl2]; exact hl2)
    have rpa : ra ≠ pa := ne_of_none hpa (by rw [hset_self]; simp)
    have hp0 : t2.pns = [pn0] := by rw [e2]; simp [TreeA.pns, ht0, pn0]
    exact {
      s := hS2.sub SS
      tr := S2.i.sub SS
      r := ⟨Sc _ _ (hset_self _ _ _), fun p hp => by rcases List.mem_singleton.mp hp with rfl; exact (Sb.trans Sc) _ _ (hset_self _ _ _)⟩
      p := hset_self _ _ _
      ol := (k2 l hl1).2
      or := (S2.i.sub Sa).not_none hra
      op := (S2.i.sub (Sa.trans Sb)).not_none hpa
      n1 := lra
      n2 := lpa
      n3 := rpa
      D := by rw [hp0]; exact doc0
      zt := by rw [← t2.pns_len, hp0]; simp
      zr := rfl
      P0 := ⟨[], rfl, fun _ h => (nomatch h), fun h => absurd rfl h⟩
      zp := by simp
      rt := rfl
      fr := fun a _ h0 => by
        have h2' : H2 a ≠ none := by rw [(k2 a h0).1]; exact h0
        exact ⟨(SS.live h2').trans (k2 a h0).1, (k2 a h0).2, ne_of_none hra (by rw [Sa.live h2']; exact h2'), ne_of_none hpa (by rw [(Sa.trans Sb).live h2']; exact h2')⟩ }
  have hT : t.T = t2.T := S2.T.symm
  rw [hT]
  refine next_next ?_
  refine Tr.wk ⟨amDoc t2.T l ra pa 0, hset (hset (hset H2 ta (.tuple row0.vals)) ra (.list [.ref ta])) pa (.list [nv 0]), by unfold amDoc; (repeat (first | exact amsub_nil | refine amsub_cons rfl ?_)), Sub.refl, ?_⟩
  generalize hset (hset (hset H2 ta (.tuple row0.vals)) ra (.list [.ref ta])) pa (.list [nv 0]) = H3 at B ⊢
  unfold amDoc
  refine ex_cons ?_
  refine st_for ?_
  refine ev_call (by assumption) ?_
  (refine' ev_builtT (by assumption) ?zq1 boot_range ?_; (case zq1 => k_is))
  refine ⟨.type _, ?_⟩
  refine ar_cons ?_
  refine ev_bin ?_
  refine ev_int ?_
  refine ev_call (by assumption) ?_
  (refine' ev_globF (by assumption) ?zq1 ?_; (case zq1 => k_is))
  refine ⟨.ref (by k_is), ?_⟩
  refine ar_cons ?_
  refine ev_loc (by assumption) rfl ?_
  refine ar_cons ?_
  refine ev_int ?_
  refine ar_nil ?_
  refine take_use (top := 10) O (by decide) B (by decide) (by decide) fun d H3 hd B => ?_
  refine ⟨_, .add _ _, ?_⟩
  refine ar_nil ?_
  refine ci_range fun rg hrg _ => ?_
  replace B := B.sub (Sub.new (o := .rng (4 + (d : Int))) hrg)
  have er : hset H3 rg (.rng (4 + (d : Int))) rg = some (.rng ((4 + d : Nat) : Int)) := by rw [hset_self]; simp
  generalize hset H3 rg (.rng (4 + (d : Int))) = H4 at B er ⊢
  refine ⟨4 + d, _, _, _, fun i am H' => AmSub (amDoc t2.T l ra pa 0) am ∧ ∃ t RA P, t.T = t2.T ∧ DB H H' l ra pa t RA P i 0, itb_range (by intro _ _; rfl) (by omega) er, Sub.refl, ⟨by unfold amDoc; (repeat (first | exact amsub_nil | refine amsub_cons rfl ?_)), t2, _, _, rfl, B⟩, ?_, ?_, ?_⟩
  · intros; trivial
  · rintro i am2 _ v H5 hi ⟨ham, t, RA, P, htT, B⟩ ⟨rfl, rfl⟩
    rw [← htT] at ham ⊢
    refine as_name O ?_
    refine Tr.wk ⟨amT t.T l ra pa 0 i, H5, amsub_cons rfl ?_, Sub.refl, ?_⟩
    · unfold amDoc at ham
      refine amsub_cons (ham _ (.head _)) (amsub_cons (ham _ (.tail _ (.head _))) (amsub_cons (ham _ (.tail _ (.tail _ (.head _)))) (amsub_cons (ham _ (.tail _ (.tail _ (.tail _ (.head _))))) (amsub_cons (ham _ (.tail _ (.tail _ (.tail _ (.tail _ (.head _)))))) amsub_nil))))
    obtain ⟨q, hPq, hq, hqne⟩ := B.P0
    have zp := B.zp
    have zr := B.zr
    have zt := B.zt
    refine ex_cons ?_
    refine Tr.mono (Q := fun f am' H' => f = .next ∧ ∃ u : Nat, am' = amTA t.T l ra pa 0 i u ∧ DB H H' l ra pa t RA P i 0 ∧ u ∈ P ∧ (i = 0 → u = 0)) ?_ ?_
    · unfold amT
      refine st_assign (by assumption) ?_
      refine ev_ifexp ?_
      refine tst_cmp ?_
      refine ev_loc (by assumption) rfl ?_
      refine ev_int ?_
      with_reducible refine ⟨_, .gt, ?_⟩
      refine ite_b (fun hb => ?_) (fun hb => ?_)
      · refine ev_sub ?_
        refine ev_loc (by assumption) rfl ?_
        refine ev_call (by assumption) ?_
        (refine' ev_globF (by assumption) ?zq1 ?_; (case zq1 => k_is))
        refine ⟨.ref (by k_is), ?_⟩
        refine ar_cons ?_
        refine ev_loc (by assumption) rfl ?_
        refine ar_cons ?_
        refine ev_call (by assumption) ?_
        (refine' ev_builtF (by assumption) ?zq1 boot_len ?_; (case zq1 => k_is))
        refine ⟨.builtin _, ?_⟩
        refine ar_cons ?_
        refine ev_loc (by assumption) rfl ?_
        refine ar_nil ?_
        refine ci_len B.p (by simp; omega) ?_
        refine ar_nil ?_
        rw [List.length_map]
        refine take_use O (by decide) B (by rw [hPq]; simp) (by omega) fun d2 H6 hd2 B => ?_
        have hd3 : P[d2]? = some P[d2] := List.getElem?_eq_getElem hd2
        refine ⟨_, sub_l B.p (v := nv P[d2]) (by simp [hd3]) (by simp; omega), ?_⟩
        refine ⟨rfl, P[d2], rfl, B, List.getElem_mem hd2, fun h => ?_⟩
        subst h; simp at hb
      · refine ev_int ?_
        exact ⟨rfl, 0, rfl, B, by rw [hPq]; exact .head _, fun _ => rfl⟩
    rintro _ _ H6 ⟨rfl, u, rfl, B, hu, hi0⟩
    refine next_next ?_
    refine ex_cons ?_
    refine Tr.mono (Q := fun f am' H' => f = .next ∧ ∃ y : Nat, am' = amTW t.T l ra pa 0 i u y ∧ DB H H' l ra pa t RA P i 0 ∧ y < 6 ∧ (i = 0 → y = 0)) ?_ ?_
    · unfold amTA
      refine st_assign (by assumption) ?_
      refine ev_ifexp ?_
      refine tst_cmp ?_
      refine ev_loc (by assumption) rfl ?_
      refine ev_int ?_
      with_reducible refine ⟨_, .eqi, ?_⟩
      refine ite_b (fun hb => ?_) (fun hb => ?_)
      · refine ev_int ?_
        exact ⟨rfl, 0, rfl, B, by decide, fun _ => rfl⟩
      · refine ev_call (by assumption) ?_
        (refine' ev_globF (by assumption) ?zq1 ?_; (case zq1 => k_is))
        refine ⟨.ref (by k_is), ?_⟩
        refine ar_cons ?_
        refine ev_loc (by assumption) rfl ?_
        refine ar_cons ?_
        refine ev_int ?_
        refine ar_nil ?_
        refine take_use (top := 6) O (by decide) B (by decide) (by decide) fun d2 H7 hd2 B => ?_
        exact ⟨rfl, d2, rfl, B, hd2, fun h => by subst h; simp at hb⟩
    rintro _ _ H7 ⟨rfl, y, rfl, B, hy, hy0⟩
    refine next_next ?_
    refine ex_cons ?_
    refine Tr.mono (Q := fun f am' H' => f = .next ∧ H' = H7 ∧ ∃ (v : Nat) (rv : Row), AmSub (amTW t.T l ra pa 0 i v y) am' ∧ (rowsOf RA)[v]? = some rv ∧ isC rv ∧ (i ≠ 0 → rv.kind = "element")) ?_ ?_
    · unfold amTW
      have hroot : ∃ r : Row, (rowsOf RA)[0]? = some r ∧ r.kind = "root" := by
        obtain ⟨r, e, h, _⟩ := B.D.wf.root; exact ⟨r, e, h⟩
      refine st_if ?_
      refine tst_and ?_
      refine tst_cmp ?_
      refine ev_loc (by assumption) rfl ?_
      refine ev_int ?_
      with_reducible refine ⟨_, .eqi, ?_⟩
      refine ite_b (fun hb => ?_) (fun hb => ?_)
      · have hu0 : u = 0 := by simp at hb; omega
        refine tst_and ?_
        refine tst_cmp ?_
        refine ev_loc (by assumption) rfl ?_
        refine ev_int ?_
        with_reducible refine ⟨_, .gt, ?_⟩
        refine ite_b (fun hb2 => ?_) (fun hb2 => ?_)
        · have hi1 : i ≠ 0 := by simp at hb2; omega
          rcases List.eq_nil_or_concat q with hn | ⟨q1, z, rfl⟩
          · exact absurd hn (hqne hi1)
          rw [List.concat_eq_append] at *
          obtain ⟨rz, ez, kz⟩ := hq z (List.mem_append_right _ (.head _))
          refine tst_and_nil ?_
          refine ite_t ?_
          refine ex_cons ?_
          refine st_assign (by assumption) ?_
          refine ev_sub ?_
          refine ev_loc (by assumption) rfl ?_
          refine ev_neg ?_
          refine ev_int ?_
          refine ⟨_, rfl, ?_⟩
          have ep : H7 pa = some (.list ((0 :: q1).map nv ++ [nv z])) := by rw [B.p, hPq]; simp
          refine ⟨_, sub_neg1 ep (by rw [hPq] at zp; simp at zp ⊢; omega), ?_⟩
          with_reducible refine next_next ?_
          refine ex_nil ?_
          exact ⟨rfl, rfl, z, rz, by (repeat (first | exact amsub_nil | refine amsub_cons rfl ?_)), ez, .inr kz, fun _ => kz⟩
        · have hi1 : i = 0 := by simp at hb2; omega
          obtain ⟨r, e, h⟩ := hroot
          refine ite_f ?_
          refine ex_nil ?_
          exact ⟨rfl, rfl, 0, r, by rw [← hu0]; (repeat (first | exact amsub_nil | refine amsub_cons rfl ?_)), e, .inl h, fun h => absurd hi1 h⟩
      · have hu0 : u ≠ 0 := by simp at hb; omega
        rw [hPq] at hu
        obtain ⟨r, e, h⟩ := hq u ((List.mem_cons.mp hu).resolve_left hu0)
        refine ite_f ?_
        refine ex_nil ?_
        exact ⟨rfl, rfl, u, r, by (repeat (first | exact amsub_nil | refine amsub_cons rfl ?_)), e, .inr h, fun _ => h⟩
    rintro _ am3 H7 ⟨rfl, rfl, v, rv, ham3, ev, hcv, hev⟩
    clear hi0 hu u
    refine next_next ?_
    refine Tr.wk ⟨amTW t.T l ra pa 0 i v y, _, ham3, Sub.refl, ?_⟩
    unfold amTW
    obtain ⟨x, ex, rx, px, cx⟩ := B.D.node ev
    obtain ⟨av, hsv, htv⟩ := B.r.row ev B.D.wf.sz
    refine ex_cons ?_
    refine st_assign (by assumption) ?_
    refine ev_sub ?_
    refine ev_sub ?_
    refine ev_loc (by assumption) rfl ?_
    refine ev_loc (by assumption) rfl ?_
    refine ⟨_, hsv, ?_⟩
    refine ev_int ?_
    refine ⟨_, sub_t (k := 0) htv rfl (by simp [Row.vals]), ?_⟩
    with_reducible refine next_next ?_
    refine ex_cons ?_
    refine st_if ?_
    refine tst_cmp ?_
    refine ev_loc (by assumption) rfl ?_
    refine ev_int ?_
    with_reducible refine ⟨_, .lt, ?_⟩
    have hzR : (rowsOf RA).length = RA.length := rowsOf_len RA
    have zt200 : t.ns.length < 200 := by omega
    have hkx : x.kind = "root" ∨ x.kind = "element" := by
      rcases hcv with h | h
      · exact .inl ((show x.kind = rv.kind from rx.kind).trans h)
      · exact .inr ((show x.kind = rv.kind from rx.kind).trans h)
    have hqx : t.pns[rv.node]? = some x.pn := by simp [TreeA.pns, ex]
    have lpn := t.pns_len
    have fin : ∀ (Hb H2 H5 : AH) (t2 : TreeA) (T : Addr) (P' : List Nat) (row : Row) (amx : AM), DB H Hb l ra pa t RA P i 0 → TStep Hb t H2 t2 → Added t.pns t2.pns rv.node x.pn row → (row.kind ≠ "element" → rv.kind = "element") → (row.kind = "element" ∨ row.kind = "text" ∨ row.kind = "comment") → row.up = some v → row.node = t.pns.length → (row.blank = true → row.kind = "text") →
        H5 T = some (.tuple row.vals) → H5 ra = some (.list (RA.map (fun p => Value.ref p.1) ++ [.ref T])) → H5 pa = some (.list (P'.map nv)) → (∀ a, a ≠ ra → a ≠ pa → H2 a ≠ none → H5 a = H2 a) → (P' = P ∨ (P' = P ++ [RA.length] ∧ row.kind = "element")) → (i = 0 → row.kind = "element" ∧ P' = P ++ [RA.length]) → AmSub (amDoc t.T l ra pa 0) amx →
        Wk (fun am H' => AmSub (amDoc t.T l ra pa 0) am ∧ ∃ t' RA P, t'.T = t.T ∧ DB H H' l ra pa t' RA P (i + 1) 0) amx H5 := fun Hb H2 H5 t2 T P' row amx B S A h1 h2 h3 h4 h5 h6 h7 h8 h9 h10 h11 h12 =>
      ⟨amDoc t.T l ra pa 0, H5, h12, Sub.refl, by unfold amDoc; (repeat (first | exact amsub_nil | refine amsub_cons rfl ?_)), t2, RA ++ [(T, row)], P', S.T, B.next S (A.doc B.D ev hcv h1 h2 h3 (by omega) h4 h5 hqx) (by have := A.len; rw [t2.pns_len, t.pns_len] at this; exact this) h6 h7 h8 h9 h10 h11⟩
    refine ite_b (fun hb => ?_) (fun hb => ?_)
    · refine ex_cons ?_
      refine st_assign_sw2 O (a := "uri") (b := "local") ?_
      refine ev_tuple ?_
      refine ar_cons ?_
      refine ev_call (by assumption) ?_
      (refine' ev_globF (by assumption) ?zq1 ?_; (case zq1 => k_is))
      refine ⟨.ref (by k_is), ?_⟩
      refine ar_cons ?_
      refine ev_loc (by assumption) rfl ?_
      refine ar_cons ?_
      refine ev_list ?_
      refine ar_cons ?_
      refine ev_str ?_
      refine ar_cons ?_
      refine ev_str ?_
      refine ar_nil ?_
      refine ⟨by simp, fun a1 ha1 _ => ?_⟩
      refine ar_nil ?_
      refine one_use O (by decide) B ha1 (by simp) fun d1 v1 H8 hv1 B => ?_
      obtain ⟨su, rfl, hsu⟩ : ∃ su : Str, v1 = .str su 0 ∧ su.length ≤ 10 := by
        match d1, hv1 with
        | 0, hv1 => cases hv1; exact ⟨_, rfl, by decide⟩
        | 1, hv1 => cases hv1; exact ⟨_, rfl, by decide⟩
        | k + 2, hv1 => cases hv1
      refine ar_cons ?_
      refine ev_call (by assumption) ?_
      (refine' ev_globF (by assumption) ?zq1 ?_; (case zq1 => k_is))
      refine ⟨.ref (by k_is), ?_⟩
      refine ar_cons ?_
      refine ev_loc (by assumption) rfl ?_
      refine ar_cons ?_
      refine ev_list ?_
      refine ar_cons ?_
      refine ev_str ?_
      refine ar_cons ?_
      refine ev_str ?_
      refine ar_nil ?_
      refine ⟨by simp, fun a2 ha2 _ => ?_⟩
      refine ar_nil ?_
      refine one_use O (by decide) B ha2 (by simp) fun d2 v2 H9 hv2 B => ?_
      obtain ⟨sl, rfl, hsl⟩ : ∃ sl : Str, v2 = .str sl 0 ∧ sl.length ≤ 10 := by
        match d2, hv2 with
        | 0, hv2 => cases hv2; exact ⟨_, rfl, by decide⟩
        | 1, hv2 => cases hv2; exact ⟨_, rfl, by decide⟩
        | k + 2, hv2 => cases hv2
      refine ar_nil ?_
      refine ⟨by simp, fun a3 ha3 _ => ?_⟩
      replace B := B.sub (Sub.new (o := .tuple [.str su 0, .str sl 0]) ha3)
      refine ⟨a3, _, _, rfl, hset_self _ _ _, ?_⟩
      generalize hset H9 a3 (.tuple [.str su 0, .str sl 0]) = H10 at B ⊢
      with_reducible refine next_next ?_
      refine ex_cons ?_
      refine st_assign (by assumption) ?_
      refine ev_call (by assumption) ?_
      (refine' ev_globF (by assumption) ?zq1 ?_; (case zq1 => k_is))
      refine ⟨.ref (by k_is), ?_⟩
      refine ar_cons ?_
      refine ev_loc (by assumption) rfl ?_
      refine ar_cons ?_
      refine ev_list ?_
      refine ar_cons ?_
      refine ev_none ?_
      refine ar_cons ?_
      refine ev_none ?_
      refine ar_cons ?_
      refine ev_str ?_
      refine ar_cons ?_
      refine ev_str ?_
      refine ar_nil ?_
      refine ⟨by simp, fun a4 ha4 _ => ?_⟩
      refine ar_nil ?_
      refine one_use O (by decide) B ha4 (by simp) fun d3 v3 H11 hv3 B => ?_
      obtain ⟨wd, rfl⟩ : ∃ wd : Option Str, v3 = ov wd := by
        match d3, hv3 with
        | 0, hv3 => cases hv3; exact ⟨none, rfl⟩
        | 1, hv3 => cases hv3; exact ⟨none, rfl⟩
        | 2, hv3 => cases hv3; exact ⟨some _, rfl⟩
        | 3, hv3 => cases hv3; exact ⟨some _, rfl⟩
        | k + 4, hv3 => cases hv3
      refine next_next ?_
      refine Tr.wk ⟨amE t.T l ra pa 0 v su sl (ov wd) rv.node, H11, by unfold amE; (repeat (first | exact amsub_nil | refine amsub_cons rfl ?_)), Sub.refl, ?_⟩
      refine ex_cons ?_
      refine Tr.mono (Q := fun f am' H' => f = .next ∧ AmSub (amN t.T l ra pa 0 v su sl (ov wd) t.ns.length) am' ∧ ∃ (t2 : TreeA) (nm : Str), TStep H11 t H' t2 ∧ t2.pns = t.pns.set rv.node { x.pn with ch := x.pn.ch ++ [t.ns.length] } ++ [⟨"element", nm, su, sl, "", some rv.node, [], []⟩]) ?_ ?_
      · unfold amE
        refine st_assign (by assumption) ?_
        refine ev_meth (by assumption) ?_
        refine ev_loc (by assumption) rfl ?_
        refine ⟨_, B.tr.meth O (mo_add_element w), ?_⟩
        refine ⟨.ref (by k_is), ?_⟩
        refine ar_cons ?_
        refine ev_loc (by assumption) rfl ?_
        refine ar_cons ?_
        refine ev_bin ?_
        refine ev_ifexp ?_
        refine tst_cmp ?_
        refine ev_loc (by assumption) rfl ?_
        refine ev_str ?_
        with_reducible refine ⟨_, .eqs, ?_⟩
        refine ite_b (fun hp => ?_) (fun hp => ?_)
        · refine ev_str ?_
          refine ev_loc (by assumption) rfl ?_
          refine ⟨_, .cat _ _ (Nat.le_trans (Nat.add_le_add_left hsl 2) (by decide)), ?_⟩
          refine ar_cons ?_
          refine ev_loc (by assumption) rfl ?_
          refine ar_cons ?_
          refine ev_loc (by assumption) rfl ?_
          refine ar_nil ?_
          refine (sp_add_element B.tr zt200 ex hkx).use O (by decide) ?_
          rintro _ H12 ⟨rfl, t3, S3, e3⟩
          exact ⟨rfl, by unfold amN; (repeat (first | exact amsub_nil | refine amsub_cons rfl ?_)), t3, _, S3, e3⟩
        · refine ev_str ?_
          refine ev_loc (by assumption) rfl ?_
          refine ⟨_, .cat _ _ (Nat.le_trans (Nat.add_le_add_left hsl 0) (by decide)), ?_⟩
          refine ar_cons ?_
          refine ev_loc (by assumption) rfl ?_
          refine ar_cons ?_
          refine ev_loc (by assumption) rfl ?_
          refine ar_nil ?_
          refine (sp_add_element B.tr zt200 ex hkx).use O (by decide) ?_
          rintro _ H12 ⟨rfl, t3, S3, e3⟩
          exact ⟨rfl, by unfold amN; (repeat (first | exact amsub_nil | refine amsub_cons rfl ?_)), t3, _, S3, e3⟩
      rintro _ am4 H12 ⟨rfl, ham4, t3, nm, S3, e3⟩
      refine next_next ?_
      refine Tr.wk ⟨amN t.T l ra pa 0 v su sl (ov wd) t.ns.length, H12, ham4, Sub.refl, ?_⟩
      refine ex_cons ?_
      have e3' : t3.pns = t.pns.set rv.node { x.pn with ch := x.pn.ch ++ [t.pns.length] } ++ [⟨"element", nm, su, sl, "", some rv.node, [], []⟩] := by rw [e3, lpn]
      have l3 : t3.ns.length = t.ns.length + 1 := by rw [← t3.pns_len, e3']; simp [lpn]
      refine Tr.mono (Q := fun f am' H' => f = .next ∧ AmSub (amN t.T l ra pa 0 v su sl (ov wd) t.ns.length) am' ∧ ∃ (t4 : TreeA), TStep H11 t H' t4 ∧ Added t.pns t4.pns rv.node x.pn ⟨t.pns.length, "element", some v, su, sl, wd, false⟩) ?_ ?_
      · unfold amN
        have hT3 : t3.T = t.T := S3.T
        rw [← hT3]
        refine st_if ?_
        refine tst_cmp ?_
        refine ev_loc (by assumption) rfl ?_
        refine ev_none ?_
        with_reducible refine ⟨_, .isnt, ?_⟩
        cases wd with
        | none =>
          refine ite_isF rfl ?_
          refine ex_nil ?_
          exact ⟨rfl, by (repeat (first | exact amsub_nil | refine amsub_cons rfl ?_)), t3, S3, Added.plain hqx e3' ⟨rfl, rfl, rfl, rfl, fun h => absurd h (by show ¬ (("element" : Str) = "text"); decide), fun h => absurd h (by show ¬ (("element" : Str) = "text"); decide)⟩ rfl rfl⟩
        | some wv =>
          refine ite_isT rfl ?_
          have en : t3.pns[t.ns.length]? = some ⟨"element", nm, su, sl, "", some rv.node, [], []⟩ := by
            have := (added_base (p := ⟨"element", nm, su, sl, "", some rv.node, [], []⟩) hqx).2.2.2
            rw [← e3', lpn] at this; exact this
          obtain ⟨z, ez, pz⟩ := TreeA.pns_at en
          refine ex_cons ?_
          refine st_expr ?_
          refine ev_meth (by assumption) ?_
          refine ev_loc (by assumption) rfl ?_
          refine ⟨_, S3.i.meth O (mo_set_attribute w), ?_⟩
          refine ⟨.ref (by k_is), ?_⟩
          refine ar_cons ?_
          refine ev_loc (by assumption) rfl ?_
          refine ar_cons ?_
          refine ev_str ?_
          refine ar_cons ?_
          refine ev_str ?_
          refine ar_cons ?_
          refine ev_str ?_
          refine ar_cons ?_
          refine ev_loc (by assumption) rfl ?_
          refine ar_nil ?_
          refine (sp_set_attribute S3.i (by omega) ez (congrArg PN.kind pz) (congrArg PN.ats pz)).use O (by decide) ?_
          rintro _ H13 ⟨t4, S4, e4⟩
          with_reducible refine next_next ?_
          refine ex_nil ?_
          refine ⟨rfl, by (repeat (first | exact amsub_nil | refine amsub_cons rfl ?_)), t4, S3.trans S4, Added.attr hqx e3' (au := "http://www.w3.org/XML/1998/namespace") (al := "space") ?_⟩
          rw [e4, pz, l3, lpn]
      rintro _ am5 H13 ⟨rfl, ham5, t4, S4, A4⟩
      refine next_next ?_
      refine Tr.wk ⟨amN t.T l ra pa 0 v su sl (ov wd) t.ns.length, H13, ham5, Sub.refl, ?_⟩
      unfold amN
      have ep := S4.keep B.p B.op
      have er := S4.keep B.r.l B.or
      refine ex_cons ?_
      refine st_expr ?_
      refine ev_meth (by assumption) ?_
      refine ev_loc (by assumption) rfl ?_
      refine ⟨_, GetM.list ep slot_list_append, ?_⟩
      refine ⟨.builtin _, ?_⟩
      refine ar_cons ?_
      refine ev_call (by assumption) ?_
      (refine' ev_builtF (by assumption) ?zq1 boot_len ?_; (case zq1 => k_is))
      refine ⟨.builtin _, ?_⟩
      refine ar_cons ?_
      refine ev_loc (by assumption) rfl ?_
      refine ar_nil ?_
      refine ci_len er (by simp; omega) ?_
      refine ar_nil ?_
      rw [List.length_map]
      refine ci_append ep (by simp; omega) ?_
      have n3 := B.n3
      have ep2 := hset_self H13 pa (.list (P.map nv ++ [.int (RA.length : Nat) 0]))
      have er2 : hset H13 pa (.list (P.map nv ++ [.int (RA.length : Nat) 0])) ra = some (.list (RA.map fun p => Value.ref p.1)) := by rw [hset_ne n3]; exact er
      with_reducible refine next_next ?_
      refine ex_cons ?_
      refine st_expr ?_
      refine ev_meth (by assumption) ?_
      refine ev_loc (by assumption) rfl ?_
      refine ⟨_, GetM.list er2 slot_list_append, ?_⟩
      refine ⟨.builtin _, ?_⟩
      refine ar_cons ?_
      refine ev_tuple ?_
      refine ar_cons ?_
      refine ev_loc (by assumption) rfl ?_
      refine ar_cons ?_
      refine ev_str ?_
      refine ar_cons ?_
      refine ev_loc (by assumption) rfl ?_
      refine ar_cons ?_
      refine ev_loc (by assumption) rfl ?_
      refine ar_cons ?_
      refine ev_loc (by assumption) rfl ?_
      refine ar_cons ?_
      refine ev_loc (by assumption) rfl ?_
      refine ar_cons ?_
      refine ev_bool ?_
      refine ar_nil ?_
      refine ⟨by simp, fun T hT _ => ?_⟩
      have er3 := Sub.new (o := .tuple [nv t.ns.length, .str "element" 0, nv v, .str su 0, .str sl 0, ov wd, .bool false]) hT _ _ er2
      have ep3 := Sub.new (o := .tuple [nv t.ns.length, .str "element" 0, nv v, .str su 0, .str sl 0, ov wd, .bool false]) hT _ _ ep2
      have eT := hset_self (hset H13 pa (.list (P.map nv ++ [.int (RA.length : Nat) 0]))) T (.tuple [nv t.ns.length, .str "element" 0, nv v, .str su 0, .str sl 0, ov wd, .bool false])
      refine ar_nil ?_
      refine ci_append er3 (by simp; omega) ?_
      have nT1 : T ≠ ra := Ne.symm (ne_of_none hT (some_ne er2))
      have nT2 : T ≠ pa := Ne.symm (ne_of_none hT (some_ne ep2))
      with_reducible refine next_next ?_
      refine ex_nil ?_
      with_reducible refine next_next ?_
      refine ex_nil ?_
      refine fin H11 H13 _ t4 T (P ++ [RA.length]) ⟨t.pns.length, "element", some v, su, sl, wd, false⟩ _ B S4 A4 (fun h => absurd rfl h) (.inl rfl) rfl rfl (fun h => by cases h) ?_ (hset_self _ _ _) ?_ (fun a h1 h2 h3 => ?_) (.inr ⟨rfl, rfl⟩) (fun _ => ⟨rfl, rfl⟩) ?_
      · rw [hset_ne nT1, hset_self, lpn]; rfl
      · rw [hset_ne (Ne.symm n3), ep3]; simp; rfl
      · rw [hset_ne h1, hset_ne, hset_ne h2]
        intro q; subst q
        rw [hset_ne h2] at hT
        exact h3 hT
      · unfold amDoc; (repeat (first | exact amsub_nil | refine amsub_cons rfl ?_))
    · refine ex_cons ?_
      refine st_if ?_
      refine tst_cmp ?_
      refine ev_loc (by assumption) rfl ?_
      refine ev_int ?_
      with_reducible refine ⟨_, .lt, ?_⟩
      refine ite_b (fun hb2 => ?_) (fun hb2 => ?_)
      · have hi1 : i ≠ 0 := fun h => by have := hy0 h; subst this; simp at hb
        have hrv := hev hi1
        refine ex_cons ?_
        refine st_assign (by assumption) ?_
        refine ev_call (by assumption) ?_
        (refine' ev_globF (by assumption) ?zq1 ?_; (case zq1 => k_is))
        refine ⟨.ref (by k_is), ?_⟩
        refine ar_cons ?_
        refine ev_loc (by assumption) rfl ?_
        refine ar_cons ?_
        refine ev_list ?_
        refine ar_cons ?_
        refine ev_str ?_
        refine ar_cons ?_
        refine ev_str ?_
        refine ar_cons ?_
        refine ev_str ?_
        refine ar_cons ?_
        refine ev_str ?_
        refine ar_cons ?_
        refine ev_str ?_
        refine ar_nil ?_
        refine ⟨by simp, fun a1 ha1 _ => ?_⟩
        refine ar_nil ?_
        refine one_use O (by decide) B ha1 (by simp) fun d1 v1 H8 hv1 B => ?_
        obtain ⟨sv, bl, rfl, hlin, htx, hsv⟩ : ∃ (sv : Str) (bl : Bool), v1 = .str sv 0 ∧ linq [.str " " 0, .str "\n\t" 0, .str "" 0] (.str sv 0) = some bl ∧ (Txt.stripChars sv " \t\r\n" == "") = bl ∧ sv.length ≤ 1000 := by
          match d1, hv1 with
          | 0, hv1 => cases hv1; exact ⟨_, true, rfl, by decide +kernel, by decide +kernel, by decide +kernel⟩
          | 1, hv1 => cases hv1; exact ⟨_, true, rfl, by decide +kernel, by decide +kernel, by decide +kernel⟩
          | 2, hv1 => cases hv1; exact ⟨_, false, rfl, by decide +kernel, by decide +kernel, by decide +kernel⟩
          | 3, hv1 => cases hv1; exact ⟨_, true, rfl, by decide +kernel, by decide +kernel, by decide +kernel⟩
          | 4, hv1 => cases hv1; exact ⟨_, false, rfl, by decide +kernel, by decide +kernel, by decide +kernel⟩
          | k + 5, hv1 => cases hv1
        with_reducible refine next_next ?_
        refine ex_cons ?_
        refine st_expr ?_
        refine ev_meth (by assumption) ?_
        refine ev_loc (by assumption) rfl ?_
        refine ⟨_, GetM.list B.r.l slot_list_append, ?_⟩
        refine ⟨.builtin _, ?_⟩
        refine ar_cons ?_
        refine ev_tuple ?_
        refine ar_cons ?_
        refine ev_meth (by assumption) ?_
        refine ev_loc (by assumption) rfl ?_
        refine ⟨_, B.tr.meth O (mo_add_text w), ?_⟩
        refine ⟨.ref (by k_is), ?_⟩
        refine ar_cons ?_
        refine ev_loc (by assumption) rfl ?_
        refine ar_cons ?_
        refine ev_loc (by assumption) rfl ?_
        refine ar_nil ?_
        refine (sp_add_text B.tr zt200 ex hkx).use O (by decide) ?_
        rintro _ H9 ⟨rfl, t3, S3, e3⟩
        have e3' : t3.pns = t.pns.set rv.node { x.pn with ch := x.pn.ch ++ [t.pns.length] } ++ [⟨"text", "", "", "", sv, some rv.node, [], []⟩] := by rw [e3, lpn]
        have A3 : Added t.pns t3.pns rv.node x.pn ⟨t.pns.length, "text", some v, "", "", none, bl⟩ := Added.plain hqx e3' ⟨rfl, rfl, rfl, rfl, fun _ => htx, fun _ => hsv⟩ rfl rfl
        have er := S3.keep B.r.l B.or
        have ep := S3.keep B.p B.op
        refine ar_cons ?_
        refine ev_str ?_
        refine ar_cons ?_
        refine ev_loc (by assumption) rfl ?_
        refine ar_cons ?_
        refine ev_str ?_
        refine ar_cons ?_
        refine ev_str ?_
        refine ar_cons ?_
        refine ev_none ?_
        refine ar_cons ?_
        refine ev_cmp ?_
        refine ev_loc (by assumption) rfl ?_
        refine ev_list ?_
        refine ar_cons ?_
        refine ev_str ?_
        refine ar_cons ?_
        refine ev_str ?_
        refine ar_cons ?_
        refine ev_str ?_
        refine ar_nil ?_
        refine ⟨by simp, fun a2 ha2 _ => ?_⟩
        refine ⟨bl, CmpIs.inl (hset_self _ _ _) hlin, ?_⟩
        have SA2 := Sub.new (o := .list [.str " " 0, .str "\n\t" 0, .str "" 0]) ha2
        replace S3 := S3.trans (TStep.ofSub S3.i SA2)
        replace er := SA2 _ _ er
        replace ep := SA2 _ _ ep
        generalize hset H9 a2 (.list [.str " " 0, .str "\n\t" 0, .str "" 0]) = H10 at S3 er ep ⊢
        refine ar_nil ?_
        refine ⟨by simp, fun T hT _ => ?_⟩
        have er3 := Sub.new (o := .tuple [nv t.ns.length, .str "text" 0, nv v, .str "" 0, .str "" 0, .none, .bool bl]) hT _ _ er
        have ep3 := Sub.new (o := .tuple [nv t.ns.length, .str "text" 0, nv v, .str "" 0, .str "" 0, .none, .bool bl]) hT _ _ ep
        have eT := hset_self H10 T (.tuple [nv t.ns.length, .str "text" 0, nv v, .str "" 0, .str "" 0, .none, .bool bl])
        refine ar_nil ?_
        refine ci_append er3 (by simp; omega) ?_
        have nT1 : T ≠ ra := Ne.symm (ne_of_none hT (some_ne er))
        with_reducible refine next_next ?_
        refine ex_nil ?_
        with_reducible refine next_next ?_
        refine ex_nil ?_
        with_reducible refine next_next ?_
        refine ex_nil ?_
        refine fin H8 H10 _ t3 T P ⟨t.pns.length, "text", some v, "", "", none, bl⟩ _ B S3 A3 (fun _ => hrv) (.inr (.inl rfl)) rfl rfl (fun _ => rfl) ?_ (hset_self _ _ _) ?_ (fun a h1 h2 h3 => ?_) (.inl rfl) (fun h => absurd h hi1) ?_
        · rw [hset_ne nT1, hset_self, lpn]; rfl
        · rw [hset_ne (Ne.symm B.n3)]; exact ep3
        · rw [hset_ne h1, hset_ne (ne_of_none hT h3)]
        · unfold amDoc; (repeat (first | exact amsub_nil | refine amsub_cons rfl ?_))
      · have hi1 : i ≠ 0 := fun h => by have := hy0 h; subst this; simp at hb
        have hrv := hev hi1
        refine ex_cons ?_
        refine st_expr ?_
        refine ev_meth (by assumption) ?_
        refine ev_loc (by assumption) rfl ?_
        refine ⟨_, GetM.list B.r.l slot_list_append, ?_⟩
        refine ⟨.builtin _, ?_⟩
        refine ar_cons ?_
        refine ev_tuple ?_
        refine ar_cons ?_
        refine ev_meth (by assumption) ?_
        refine ev_loc (by assumption) rfl ?_
        refine ⟨_, B.tr.meth O (mo_add_comment w), ?_⟩
        refine ⟨.ref (by k_is), ?_⟩
        refine ar_cons ?_
        refine ev_loc (by assumption) rfl ?_
        refine ar_cons ?_
        refine ev_str ?_
        refine ar_nil ?_
        refine (sp_add_comment B.tr zt200 ex hkx).use O (by decide) ?_
        rintro _ H9 ⟨rfl, t3, S3, e3⟩
        have e3' : t3.pns = t.pns.set rv.node { x.pn with ch := x.pn.ch ++ [t.pns.length] } ++ [⟨"comment", "", "", "", " ", some rv.node, [], []⟩] := by rw [e3, lpn]
        have A3 : Added t.pns t3.pns rv.node x.pn ⟨t.pns.length, "comment", some v, "", "", none, false⟩ := Added.plain hqx e3' ⟨rfl, rfl, rfl, rfl, fun h => absurd h (by show ¬ (("comment" : Str) = "text"); decide), fun h => absurd h (by show ¬ (("comment" : Str) = "text"); decide)⟩ rfl rfl
        have er := S3.keep B.r.l B.or
        have ep := S3.keep B.p B.op
        refine ar_cons ?_
        refine ev_str ?_
        refine ar_cons ?_
        refine ev_loc (by assumption) rfl ?_
        refine ar_cons ?_
        refine ev_str ?_
        refine ar_cons ?_
        refine ev_str ?_
        refine ar_cons ?_
        refine ev_none ?_
        refine ar_cons ?_
        refine ev_bool ?_
        refine ar_nil ?_
        refine ⟨by simp, fun T hT _ => ?_⟩
        have er3 := Sub.new (o := .tuple [nv t.ns.length, .str "comment" 0, nv v, .str "" 0, .str "" 0, .none, .bool false]) hT _ _ er
        have ep3 := Sub.new (o := .tuple [nv t.ns.length, .str "comment" 0, nv v, .str "" 0, .str "" 0, .none, .bool false]) hT _ _ ep
        have eT := hset_self H9 T (.tuple [nv t.ns.length, .str "comment" 0, nv v, .str "" 0, .str "" 0, .none, .bool false])
        refine ar_nil ?_
        refine ci_append er3 (by simp; omega) ?_
        have nT1 : T ≠ ra := Ne.symm (ne_of_none hT (some_ne er))
        with_reducible refine next_next ?_
        refine ex_nil ?_
        with_reducible refine next_next ?_
        refine ex_nil ?_
        with_reducible refine next_next ?_
        refine ex_nil ?_
        refine fin H7 H9 _ t3 T P ⟨t.pns.length, "comment", some v, "", "", none, false⟩ _ B S3 A3 (fun _ => hrv) (.inr (.inr rfl)) rfl rfl (fun h => by cases h) ?_ (hset_self _ _ _) ?_ (fun a h1 h2 h3 => ?_) (.inl rfl) (fun h => absurd h hi1) ?_
        · rw [hset_ne nT1, hset_self, lpn]; rfl
        · rw [hset_ne (Ne.symm B.n3)]; exact ep3
        · rw [hset_ne h1, hset_ne (ne_of_none hT h3)]
        · unfold amDoc; (repeat (first | exact amsub_nil | refine amsub_cons rfl ?_))
  · rintro am2 H5 ⟨ham, t, RA, P, htT, B⟩
    rw [← htT] at ham
    refine next_next ?_
    refine Tr.wk ⟨amDoc t.T l ra pa 0, H5, ham, Sub.refl, ?_⟩
    unfold amDoc
    refine ex_cons ?_
    refine st_return ?_
    refine ev_tuple ?_
    refine ar_cons ?_
    refine ev_loc (by assumption) rfl ?_
    refine ar_cons ?_
    refine ev_loc (by assumption) rfl ?_
    refine ar_cons ?_
    refine ev_loc (by assumption) rfl ?_
    refine ar_nil ?_
    refine ⟨by simp, fun x hx _ => ?_⟩
    with_reducible refine next_ret ?_
    exact ⟨_, Sub.refl, x, t, ra, pa, RA, P, 4 + d, 0, rfl, hset_self _ _ _, B.sub (Sub.new hx), by omega⟩
end
end Mine
end

section
open PySem PySem.W PySem.Spec PySem.Calls PyProof.Rows
set_option Elab.async false
set_option maxRecDepth 100000
set_option maxHeartbeats 8000000
namespace Mine
theorem fillE3 : (PySem.Challenge.rw_on0188_01 = PySem.Challenge.rw_on0188_01) ∧ hK = hK := by
  k_fill
  exact ⟨rfl, rfl⟩
theorem SrcOk.ne_tup {H : AH} {l a : Addr} {vs : List Value} (h : SrcOk H l) (e : H a = some (.tuple vs)) : a ≠ l := fun q => by
  obtain ⟨b, m, e', _⟩ := h
  rw [q, e'] at e; cases e
structure FB (H0 H : AH) (l fl : Addr) (FA : List (Addr × Form)) (i : Nat) : Prop where
  s : SrcOk H l
  f : FormsIs H fl FA
  ok : ∀ p ∈ FA, p.2.ok
  z : FA.length = i
  fn : H0 fl = none
  n : fl ≠ l
  k : ∀ a, a ≠ l → H0 a ≠ none → H a = H0 a
theorem FB.sub {H0 H H' : AH} {l fl : Addr} {FA : List (Addr × Form)} {i : Nat} (B : FB H0 H l fl FA i) (S : Sub H H') : FB H0 H' l fl FA i :=
  { B with s := B.s.sub S, f := B.f.sub S, k := fun a ha h0 => (S.live (by rw [B.k a ha h0]; exact h0)).trans (B.k a ha h0) }
theorem FB.src {H0 H : AH} {l fl : Addr} {FA : List (Addr × Form)} {i : Nat} (B : FB H0 H l fl FA i) {o : AObj} (hs : SrcOk (hset H l o) l) : FB H0 (hset H l o) l fl FA i :=
  { B with
    s := hs
    f := ⟨by rw [hset_ne B.n]; exact B.f.l, fun p hp => (hset_ne (B.s.ne_tup (B.f.t p hp))).trans (B.f.t p hp), B.f.z⟩
    k := fun a ha h0 => by rw [hset_ne ha]; exact B.k a ha h0 }
def amSt (l fl : Addr) : AM := [("source", .ref l), ("found", .ref fl)]
section
variable {w : World} {n : Nat} {c : Cx} {env : Env} {am : AM} {H : AH}
theorem sp_strips {l : Addr} (hS : SrcOk H l) :
    Spec w (.ref 383) 4 H [.ref l] (fun r H' => ∃ (fl : Addr) (FA : List (Addr × Form)) (i : Nat), r = .ref fl ∧ FB H H' l fl FA i ∧ i ≤ 5) := by
  refine' Spec.of ?ho ?hcd ?hb ?hnm ?hco ?hgen ?hk ?hcell ?h
  case ho => k_is
  case hcd => k_is
  case hb => ((first | (with_reducible refine all0 ?_) | (with_reducible refine all1 ?_) | (with_reducible refine all2 ?_) | (with_reducible refine all3 ?_) | (with_reducible refine all4 ?_) | (with_reducible refine all5 ?_) | (with_reducible refine all6 ?_) | (with_reducible refine all7 ?_)); intros; exact BindsTo.of_eq rfl)
  case hnm => decide
  case hco => rfl
  case hgen => rfl
  case hk => rfl
  case hcell => decide
  try (conv in (occs := *) (pSub _) => whnf)
  try (conv in (occs := *) (pSco _) => whnf)
  try (conv in (occs := *) (pPar _) => whnf)
  intro c O
  refine ex_cons ?_
  refine st_assign (by assumption) ?_
  refine ev_list ?_
  refine ar_nil ?_
  refine ⟨by simp, fun fl hfl _ => ?_⟩
  have hl : H l ≠ none := by obtain ⟨b, m, e, _⟩ := hS; exact some_ne e
  have B : FB H (hset H fl (.list [])) l fl [] 0 := ⟨hS.sub (Sub.new hfl), ⟨hset_self _ _ _, fun _ h => (nomatch h), by simp⟩, fun _ h => (nomatch h), rfl, hfl, Ne.symm (ne_of_none hfl hl), fun a _ h0 => hset_ne (ne_of_none hfl h0)⟩
  refine next_next ?_
  refine Tr.wk ⟨amSt l fl, hset H fl (.list []), by unfold amSt; (repeat (first | exact amsub_nil | refine amsub_cons rfl ?_)), Sub.refl, ?_⟩
  generalize hset H fl (.list []) = H1 at B ⊢
  unfold amSt
  refine ex_cons ?_
  refine st_for ?_
  refine ev_call (by assumption) ?_
  (refine' ev_builtT (by assumption) ?zq1 boot_range ?_; (case zq1 => k_is))
  refine ⟨.type _, ?_⟩
  refine ar_cons ?_
  refine ev_call (by assumption) ?_
  (refine' ev_globF (by assumption) ?zq1 ?_; (case zq1 => k_is))
  refine ⟨.ref (by k_is), ?_⟩
  refine ar_cons ?_
  refine ev_loc (by assumption) rfl ?_
  refine ar_cons ?_
  refine ev_int ?_
  refine ar_nil ?_
  refine (sp_take (top := 6) B.s (by decide) (by decide)).use O (by decide) ?_
  rintro _ _ ⟨d, hd, rfl, o, rfl, hs⟩
  replace B := B.src hs
  generalize hset H1 l o = H2 at B ⊢
  refine ar_nil ?_
  refine ci_range fun rg hrg _ => ?_
  replace B := B.sub (Sub.new (o := .rng (d : Int)) hrg)
  have er := hset_self H2 rg (.rng (d : Int))
  generalize hset H2 rg (.rng (d : Int)) = H3 at B er ⊢
  refine ⟨d, _, _, _, fun i am H' => AmSub (amSt l fl) am ∧ ∃ FA, FB H H' l fl FA i, itb_range (by intro _ _; rfl) (by omega) er, Sub.refl, ⟨by unfold amSt; (repeat (first | exact amsub_nil | refine amsub_cons rfl ?_)), _, B⟩, ?_, ?_, ?_⟩
  · intros; trivial
  · rintro i am2 _ v H1 hi ⟨ham, FA, B⟩ ⟨rfl, rfl⟩
    refine as_name O ?_
    refine Tr.wk ⟨amSt l fl, H1, ?_, Sub.refl, ?_⟩
    · unfold amSt at ham ⊢
      refine amsub_cons (ham _ (.head _)) (amsub_cons (ham _ (.tail _ (.head _))) amsub_nil)
    have zf := B.z
    unfold amSt
    refine ex_cons ?_
    refine st_assign_tup ?_
    refine ev_call (by assumption) ?_
    (refine' ev_globF (by assumption) ?zq1 ?_; (case zq1 => k_is))
    refine ⟨.ref (by k_is), ?_⟩
    refine ar_cons ?_
    refine ev_loc (by assumption) rfl ?_
    refine ar_cons ?_
    refine ev_list ?_
    refine ar_cons ?_
    refine ev_tuple ?_
    refine ar_cons ?_
    refine ev_none ?_
    refine ar_cons ?_
    refine ev_none ?_
    refine ar_nil ?_
    refine ⟨by simp, fun a0 h0 _ => ?_⟩
    have S := Sub.new (o := .tuple [.none, .none]) h0
    replace B := B.sub S
    have e0 := hset_self H1 a0 (.tuple [.none, .none])
    generalize hset H1 a0 (.tuple [.none, .none]) = H2 at B e0 ⊢
    clear S
    refine ar_cons ?_
    refine ev_tuple ?_
    refine ar_cons ?_
    refine ev_str ?_
    refine ar_cons ?_
    refine ev_none ?_
    refine ar_nil ?_
    refine ⟨by simp, fun a1 h1 _ => ?_⟩
    have S := Sub.new (o := .tuple [.str "u" 0, .none]) h1
    replace B := B.sub S
    replace e0 := S _ _ e0
    have e1 := hset_self H2 a1 (.tuple [.str "u" 0, .none])
    generalize hset H2 a1 (.tuple [.str "u" 0, .none]) = H3 at B e0 e1 ⊢
    clear S
    refine ar_cons ?_
    refine ev_tuple ?_
    refine ar_cons ?_
    refine ev_str ?_
    refine ar_cons ?_
    refine ev_none ?_
    refine ar_nil ?_
    refine ⟨by simp, fun a2 h2 _ => ?_⟩
    have S := Sub.new (o := .tuple [.str "" 0, .none]) h2
    replace B := B.sub S
    replace e0 := S _ _ e0
    replace e1 := S _ _ e1
    have e2 := hset_self H3 a2 (.tuple [.str "" 0, .none])
    generalize hset H3 a2 (.tuple [.str "" 0, .none]) = H4 at B e0 e1 e2 ⊢
    clear S
    refine ar_cons ?_
    refine ev_tuple ?_
    refine ar_cons ?_
    refine ev_str ?_
    refine ar_cons ?_
    refine ev_str ?_
    refine ar_nil ?_
    refine ⟨by simp, fun a3 h3 _ => ?_⟩
    have S := Sub.new (o := .tuple [.str "u" 0, .str "a" 0]) h3
    replace B := B.sub S
    replace e0 := S _ _ e0
    replace e1 := S _ _ e1
    replace e2 := S _ _ e2
    have e3 := hset_self H4 a3 (.tuple [.str "u" 0, .str "a" 0])
    generalize hset H4 a3 (.tuple [.str "u" 0, .str "a" 0]) = H5 at B e0 e1 e2 e3 ⊢
    clear S
    refine ar_cons ?_
    refine ev_tuple ?_
    refine ar_cons ?_
    refine ev_str ?_
    refine ar_cons ?_
    refine ev_str ?_
    refine ar_nil ?_
    refine ⟨by simp, fun a4 h4 _ => ?_⟩
    have S := Sub.new (o := .tuple [.str "" 0, .str "a" 0]) h4
    replace B := B.sub S
    replace e0 := S _ _ e0
    replace e1 := S _ _ e1
    replace e2 := S _ _ e2
    replace e3 := S _ _ e3
    have e4 := hset_self H5 a4 (.tuple [.str "" 0, .str "a" 0])
    generalize hset H5 a4 (.tuple [.str "" 0, .str "a" 0]) = H6 at B e0 e1 e2 e3 e4 ⊢
    clear S
    refine ar_cons ?_
    refine ev_tuple ?_
    refine ar_cons ?_
    refine ev_str ?_
    refine ar_cons ?_
    refine ev_str ?_
    refine ar_nil ?_
    refine ⟨by simp, fun a5 h5 _ => ?_⟩
    have S := Sub.new (o := .tuple [.str "" 0, .str "b" 0]) h5
    replace B := B.sub S
    replace e0 := S _ _ e0
    replace e1 := S _ _ e1
    replace e2 := S _ _ e2
    replace e3 := S _ _ e3
    replace e4 := S _ _ e4
    have e5 := hset_self H6 a5 (.tuple [.str "" 0, .str "b" 0])
    generalize hset H6 a5 (.tuple [.str "" 0, .str "b" 0]) = H7 at B e0 e1 e2 e3 e4 e5 ⊢
    clear S
    refine ar_cons ?_
    refine ev_tuple ?_
    refine ar_cons ?_
    refine ev_str ?_
    refine ar_cons ?_
    refine ev_str ?_
    refine ar_nil ?_
    refine ⟨by simp, fun a6 h6 _ => ?_⟩
    have S := Sub.new (o := .tuple [.str "u" 0, .str "b" 0]) h6
    replace B := B.sub S
    replace e0 := S _ _ e0
    replace e1 := S _ _ e1
    replace e2 := S _ _ e2
    replace e3 := S _ _ e3
    replace e4 := S _ _ e4
    replace e5 := S _ _ e5
    have e6 := hset_self H7 a6 (.tuple [.str "u" 0, .str "b" 0])
    generalize hset H7 a6 (.tuple [.str "u" 0, .str "b" 0]) = H8 at B e0 e1 e2 e3 e4 e5 e6 ⊢
    clear S
    refine ar_nil ?_
    refine ⟨by simp, fun aL hL _ => ?_⟩
    have eL := Sub.new (o := .list [.ref a0, .ref a1, .ref a2, .ref a3, .ref a4, .ref a5, .ref a6]) hL
    have B2 := B.sub eL
    have ell := hset_self H8 aL (.list [.ref a0, .ref a1, .ref a2, .ref a3, .ref a4, .ref a5, .ref a6])
    refine ar_nil ?_
    refine (sp_one B2.s ell (Ne.symm (ne_of_none hL (by obtain ⟨b, m, e, _⟩ := B.s; exact some_ne e))) (by simp)).use O (by decide) ?_
    rintro v _ ⟨d2, _, hv, rfl, o2, rfl, hs2⟩
    obtain ⟨av, fu, fo, rfl, ev, hok⟩ : ∃ (av : Addr) (fu fo : Option Str), v = .ref av ∧ hset H8 aL (.list [.ref a0, .ref a1, .ref a2, .ref a3, .ref a4, .ref a5, .ref a6]) av = some (.tuple [ov fu, ov fo]) ∧ (fo ≠ none → fu ≠ none) := by
      match d2, hv with
      | 0, hv => cases hv; exact ⟨a0, none, none, rfl, eL _ _ e0, by simp⟩
      | 1, hv => cases hv; exact ⟨a1, (some "u"), none, rfl, eL _ _ e1, by simp⟩
      | 2, hv => cases hv; exact ⟨a2, (some ""), none, rfl, eL _ _ e2, by simp⟩
      | 3, hv => cases hv; exact ⟨a3, (some "u"), (some "a"), rfl, eL _ _ e3, by simp⟩
      | 4, hv => cases hv; exact ⟨a4, (some ""), (some "a"), rfl, eL _ _ e4, by simp⟩
      | 5, hv => cases hv; exact ⟨a5, (some ""), (some "b"), rfl, eL _ _ e5, by simp⟩
      | 6, hv => cases hv; exact ⟨a6, (some "u"), (some "b"), rfl, eL _ _ e6, by simp⟩
      | k + 7, hv => cases hv
    have nl : av ≠ l := fun q => by
      obtain ⟨b, m, e, _⟩ := B2.s
      rw [q, e] at ev; cases ev
    have ev2 : hset (hset H8 aL (.list [.ref a0, .ref a1, .ref a2, .ref a3, .ref a4, .ref a5, .ref a6])) l o2 av = some (.tuple [ov fu, ov fo]) := by rw [hset_ne nl]; exact ev
    replace B := B2.src hs2
    clear B2
    generalize hset (hset H8 aL (.list [.ref a0, .ref a1, .ref a2, .ref a3, .ref a4, .ref a5, .ref a6])) l o2 = G1 at B ev2 ⊢
    refine as_tup2 ev2 (as_name O (as_name O ?_))
    with_reducible refine next_next ?_
    refine ex_cons ?_
    refine st_expr ?_
    refine ev_meth (by assumption) ?_
    refine ev_loc (by assumption) rfl ?_
    refine ⟨_, GetM.list B.f.l slot_list_append, ?_⟩
    refine ⟨.builtin _, ?_⟩
    refine ar_cons ?_
    refine ev_tuple ?_
    refine ar_cons ?_
    refine ev_loc (by assumption) rfl ?_
    refine ar_cons ?_
    refine ev_loc (by assumption) rfl ?_
    refine ar_cons ?_
    refine ev_cmp ?_
    refine ev_call (by assumption) ?_
    (refine' ev_globF (by assumption) ?zq1 ?_; (case zq1 => k_is))
    refine ⟨.ref (by k_is), ?_⟩
    refine ar_cons ?_
    refine ev_loc (by assumption) rfl ?_
    refine ar_cons ?_
    refine ev_int ?_
    refine ar_nil ?_
    refine (sp_take (top := 2) B.s (by decide) (by decide)).use O (by decide) ?_
    rintro _ _ ⟨d3, hd3, rfl, o3, rfl, hs3⟩
    replace B := B.src hs3
    generalize hset G1 l o3 = G2 at B ⊢
    refine ev_int ?_
    with_reducible refine ⟨_, .eqi, ?_⟩
    refine ar_nil ?_
    refine ⟨by simp, fun T hT _ => ?_⟩
    have SS := Sub.new (o := .tuple [ov fu, ov fo, .bool ((d3 : Int) == 0)]) hT
    have eT := hset_self G2 T (.tuple [ov fu, ov fo, .bool ((d3 : Int) == 0)])
    replace B := B.sub SS
    generalize hset G2 T (.tuple [ov fu, ov fo, .bool ((d3 : Int) == 0)]) = G3 at B eT ⊢
    refine ar_nil ?_
    refine ci_append B.f.l (by simp; omega) ?_
    have nT : T ≠ fl := fun q => by have := B.f.l; rw [← q, eT] at this; cases this
    with_reducible refine next_next ?_
    refine ex_nil ?_
    refine ⟨amSt l fl, _, by unfold amSt; (repeat (first | exact amsub_nil | refine amsub_cons rfl ?_)), Sub.refl, by unfold amSt; (repeat (first | exact amsub_nil | refine amsub_cons rfl ?_)), FA ++ [(T, ⟨fu, fo, (d3 : Int) == 0⟩)], ?_⟩
    obtain ⟨b, m, es, hbm⟩ := B.s
    exact {
      s := ⟨b, m, by rw [hset_ne (Ne.symm B.n)]; exact es, hbm⟩
      f := ⟨by rw [hset_self]; simp, fun p hp => by
        rcases List.mem_append.mp hp with hp | hp
        · have e1 := B.f.t p hp
          rw [hset_ne (fun q => by rw [q, B.f.l] at e1; cases e1)]; exact e1
        · rcases List.mem_singleton.mp hp with rfl
          rw [hset_ne nT]; exact eT, by simp; omega⟩
      ok := fun p hp => by
        rcases List.mem_append.mp hp with hp | hp
        · exact B.ok p hp
        · rcases List.mem_singleton.mp hp with rfl; exact hok
      z := by simp; omega
      fn := B.fn
      n := B.n
      k := fun a ha h0 => by
        rw [hset_ne (ne_of_none B.fn h0)]; exact B.k a ha h0 }
  · rintro am2 H5 ⟨ham, FA, B⟩
    refine next_next ?_
    refine Tr.wk ⟨amSt l fl, H5, ham, Sub.refl, ?_⟩
    unfold amSt
    refine ex_cons ?_
    refine st_return ?_
    refine ev_loc (by assumption) rfl ?_
    with_reducible refine next_ret ?_
    exact ⟨_, Sub.refl, fl, FA, d, rfl, B, by omega⟩
end
end Mine
end

section
open PySem PySem.W PySem.Spec PySem.Calls PyProof.Rows
set_option Elab.async false
set_option maxRecDepth 100000
set_option maxHeartbeats 8000000
namespace Mine
def AH0 : AH := fun a => if a = 385 then some (.tab []) else none
theorem tab0 : TabOk gq AH0 := ⟨[], rfl, fun _ h => nomatch h⟩
theorem law_bridge {w : World} {p : Program} {loose : List Str} {mean : ExcName → Option Value} {mg mb : Str → Option Value} {h0 : Heap} {L f sc : Addr} {cd : Value} {vs : List Value} {ns : List Int} {cn : Str} {cs : Scope} {body : List Stmt} {s : Shared} {Q : Flow → Shared → Prop} {E : Value → Shared → Prop}
    (X : (hK w.params).In h0) (T : Top p loose mean mg mb h0) (K : Below callerA h0 [] h0) (F : Fr h0 L s.heap (fun x => List.lookup x [((Str.ofString "script" : Str), Value.ref sc)].reverse)) (hl : h0.IsList sc vs.toArray) (hi : IntsAre vs ns) (C : CodeHd h0 387 385)
    (N : News h0 L s.heap [(385, tabObj #[])]) (hk : cs.kind = .function)
    (hEx : ∀ c : Cx, c.sc = sc → c.ns = ns → (fnCx c cn cs f cd []).Ok w 20 → Ex w (fnCx c cn cs f cd []) (fnCx c cn cs f cd []).env body [("script", .ref sc)] AH0 (fun fl _ H' => retOf fl = .bool true ∧ ∃ l, H' 385 = some (.tab l)))
    (hQ : ∀ fl s' m' news, s'.os = s.os → s'.gens = s.gens → Fr h0 L s'.heap m' → News h0 L s'.heap news → (∃ ps, (385, tabObj ps) ∈ news) → (match fl with | .ret v => v | _ => Value.none) = .bool true → Q fl s') :
    wpAny (model lawProg w) (callerA.deeper (envX cn cs L f cd [])) (execs body (envX cn cs L f cd [])) Q E s := by
  let c0 : Cx := { p := p, loose := loose, mean := mean, mg := mg, mb := mb, dp := (callerA.deeper (envX cn cs L f cd [])).depth, un := (callerA.deeper (envX cn cs L f cd [])).units, gd := (callerA.deeper (envX cn cs L f cd [])).guards, cn := cn, cs := cs, a := f, ccd := cd, cl := [], outer := [], A₀ := callerA, base := h0, h₀ := h0, L := L, sc := sc, ns := ns, sh := s }
  have O : (fnCx c0 cn cs f cd []).Ok w 20 := ⟨(by decide +kernel : callerA.depth + 1 + 20 < recursionLimit), (by decide +kernel : callerA.units + 3 + 100 + 8 * 20 < cLine), K, X, T, hk, C, vs, hl, hi⟩
  have R : HR h0 L s.heap AH0 [] := by
    refine ⟨_, N, fun a o e => ?_, fun _ h => nomatch h⟩
    unfold AH0 at e
    split at e
    · rename_i q; subst q; cases e
      exact ⟨_, .head _, .tab (by exact True.intro) (fun _ => rfl)⟩
    · cases e
  refine wpAny_mono (hEx c0 rfl rfl O s _ [] (fun fl s' => Q fl s') F ⟨fun x v e => ?_, rfl, rfl⟩ R fun fl s' m' am' H' F2 M2 R2 ⟨e, l, el⟩ => ?_) (fun _ _ q => q) fun _ _ y => y.elim
  · rw [List.lookup_cons] at e
    split at e
    · rename_i q; have := eq_of_beq q; subst this; cases e
      exact ⟨.ref sc, by simp, rfl⟩
    · cases e
  · obtain ⟨news, N2, h1, _⟩ := R2
    obtain ⟨ob, hm, ho⟩ := h1 385 _ el
    generalize q : AObj.tab l = z at ho
    cases ho <;> cases q
    refine hQ fl s' m' news M2.2.1 M2.2.2 F2 N2 ⟨_, hm⟩ ?_
    have e2 : retOf (fsv fl) = .bool true := e
    cases fl with
    | ret v => exact sv_bool e2
    | next => cases e2
    | brk => cases e2
    | cont => cases e2
end Mine
end

section
open PySem PySem.W PySem.Spec PySem.Calls PyProof.Rows
set_option Elab.async false
set_option maxRecDepth 100000
set_option maxHeartbeats 8000000
namespace Mine
theorem fillE5 : (PySem.Challenge.rw_on0188_01 = PySem.Challenge.rw_on0188_01) ∧ hK = hK := by
  k_fill
  exact ⟨rfl, rfl⟩
theorem IsTree.kind {H : AH} {t : TreeA} (h : IsTree H t) : ∀ a ∈ t.addrs, (∃ C d, H a = some (.inst C d)) ∨ (∃ fs, H a = some (.attrs fs)) ∨ ∃ vs, H a = some (.list vs) := by
  intro a ha
  rcases TreeA.mem_addrs.mp ha with rfl | rfl | rfl | ⟨x, hx, ha⟩
  · exact .inl ⟨_, _, h.T⟩
  · exact .inr (.inl ⟨_, h.d⟩)
  · exact .inr (.inr ⟨_, h.rl⟩)
  · have hn := h.ns x hx
    simp only [NodeA.addrs, List.mem_cons, List.mem_nil_iff, or_false] at ha
    rcases ha with rfl | rfl | rfl | rfl
    · exact .inl ⟨_, _, hn.a⟩
    · exact .inr (.inl ⟨_, hn.d⟩)
    · exact .inr (.inr ⟨_, hn.c⟩)
    · exact .inr (.inr ⟨_, hn.t⟩)
theorem IsTree.not_other {H : AH} {t : TreeA} (h : IsTree H t) {a : Addr} {o : AObj} (e : H a = some o) (h1 : ∀ C d, o ≠ .inst C d) (h2 : ∀ fs, o ≠ .attrs fs) (h3 : ∀ vs, o ≠ .list vs) : a ∉ t.addrs := fun ha => by
  rcases h.kind a ha with ⟨C, d, e'⟩ | ⟨fs, e'⟩ | ⟨vs, e'⟩ <;> rw [e] at e' <;> cases e'
  · exact h1 _ _ rfl
  · exact h2 _ rfl
  · exact h3 _ rfl
theorem TabOk.frame {H H' : AH} {q : Str} (h : TabOk q H) (hk : ∀ a, H a ≠ none → (∀ vs, H a ≠ some (.list vs)) → (∀ C d, H a ≠ some (.inst C d)) → (∀ fs, H a ≠ some (.attrs fs)) → H' a = H a) : TabOk q H' := by
  obtain ⟨l, e, hl⟩ := h
  refine ⟨l, (hk 385 (some_ne e) (fun _ q => by rw [e] at q; cases q) (fun _ _ q => by rw [e] at q; cases q) (fun _ q => by rw [e] at q; cases q)).trans e, fun x hx => ?_⟩
  have e2 := hl x hx
  exact (hk x.2 (some_ne e2) (fun _ q => by rw [e2] at q; cases q) (fun _ _ q => by rw [e2] at q; cases q) (fun _ q => by rw [e2] at q; cases q)).trans e2
theorem TabOk.sub {H H' : AH} {q : Str} (h : TabOk q H) (S : Sub H H') : TabOk q H' := by
  obtain ⟨l, e, hl⟩ := h; exact ⟨l, S _ _ e, fun x hx => S _ _ (hl x hx)⟩
theorem TabOk.step {H H' : AH} {t t' : TreeA} {q : Str} (h : TabOk q H) (S : TStep H t H' t') (ht : IsTree H t) : TabOk q H' :=
  h.frame fun a ha h1 h2 h3 => S.k a (fun hm => by
    rcases ht.kind a hm with ⟨C, d, e⟩ | ⟨fs, e⟩ | ⟨vs, e⟩
    · exact h2 _ _ e
    · exact h3 _ e
    · exact h1 _ e) ha
structure LS (H : AH) (t : TreeA) (ra : Addr) (RA : List (Addr × Row)) (dl : Addr) (FA : List (Addr × Form)) : Prop where
  tr : IsTree H t
  r : RowsIs H ra RA
  or : ra ∉ t.addrs
  F : FormsIs H dl FA
  od : dl ∉ t.addrs
  tab : TabOk gq H
  ok : ∀ p ∈ FA, p.2.ok
theorem LS.sub {H H' : AH} {t : TreeA} {ra dl : Addr} {RA : List (Addr × Row)} {FA : List (Addr × Form)} (B : LS H t ra RA dl FA) (S : Sub H H') : LS H' t ra RA dl FA :=
  { B with tr := B.tr.sub S, r := B.r.sub S, F := B.F.sub S, tab := B.tab.sub S }
theorem n385 {H : AH} {q : Str} (h : TabOk q H) {a : Addr} {o : AObj} (e : H a = some o) (hn : ∀ l, o ≠ .tab l) : a ≠ 385 := fun q => by
  obtain ⟨l, e', _⟩ := h
  subst q; rw [e'] at e; cases e; exact hn l rfl
theorem keep385 {H H' : AH} {q : Str} (h : TabOk q H) (hk : ∀ a, a ≠ 385 → H a ≠ none → H' a = H a) {a : Addr} {o : AObj} (e : H a = some o) (hn : ∀ l, o ≠ .tab l) : H' a = some o :=
  (hk a (n385 h e hn) (some_ne e)).trans e
theorem LS.goes {H H' : AH} {t : TreeA} {ra dl : Addr} {RA : List (Addr × Row)} {FA : List (Addr × Form)} (B : LS H t ra RA dl FA) (ht : TabOk gq H') (hk : ∀ a, a ≠ 385 → H a ≠ none → H' a = H a) : LS H' t ra RA dl FA :=
  { B with
    tr := B.tr.frame fun a ha => by
      rcases B.tr.kind a ha with ⟨C, d, e⟩ | ⟨fs, e⟩ | ⟨vs, e⟩
      · exact hk a (n385 B.tab e (fun _ q => nomatch q)) (some_ne e)
      · exact hk a (n385 B.tab e (fun _ q => nomatch q)) (some_ne e)
      · exact hk a (n385 B.tab e (fun _ q => nomatch q)) (some_ne e)
    r := ⟨keep385 B.tab hk B.r.l (fun _ q => nomatch q), fun p hp => keep385 B.tab hk (B.r.t p hp) (fun _ q => nomatch q)⟩
    F := ⟨keep385 B.tab hk B.F.l (fun _ q => nomatch q), fun p hp => keep385 B.tab hk (B.F.t p hp) (fun _ q => nomatch q), B.F.z⟩
    tab := ht }
theorem LS.step {H H' : AH} {t t' : TreeA} {ra dl : Addr} {RA : List (Addr × Row)} {FA : List (Addr × Form)} (B : LS H t ra RA dl FA) (S : TStep H t H' t') : LS H' t' ra RA dl FA :=
  { B with
    tr := S.i
    r := ⟨S.keep B.r.l B.or, fun p hp => S.keep (B.r.t p hp) (B.tr.not_tuple (B.r.t p hp))⟩
    or := S.off B.or (some_ne B.r.l)
    F := ⟨S.keep B.F.l B.od, fun p hp => S.keep (B.F.t p hp) (B.tr.not_tuple (B.F.t p hp)), B.F.z⟩
    od := S.off B.od (some_ne B.F.l)
    tab := B.tab.step S B.tr }
theorem LS.src {H : AH} {t : TreeA} {ra dl l : Addr} {RA : List (Addr × Row)} {FA : List (Addr × Form)} {o : AObj} (B : LS H t ra RA dl FA) (hs : SrcOk H l) (ol : l ∉ t.addrs) (n1 : l ≠ ra) (n2 : l ≠ dl) : LS (hset H l o) t ra RA dl FA :=
  { B with
    tr := B.tr.off ol
    r := ⟨(hset_ne (Ne.symm n1)).trans B.r.l, fun p hp => (hset_ne (hs.ne_tup (B.r.t p hp))).trans (B.r.t p hp)⟩
    F := ⟨(hset_ne (Ne.symm n2)).trans B.F.l, fun p hp => (hset_ne (hs.ne_tup (B.F.t p hp))).trans (B.F.t p hp), B.F.z⟩
    tab := B.tab.frame fun a _ h1 _ _ => hset_ne fun q => by
      obtain ⟨b, m, e, _⟩ := hs
      exact h1 _ (q ▸ e) }
theorem subK {H H' : AH} (hk : ∀ a, H a ≠ none → H' a = H a) : Sub H H' := fun a o e => (hk a (some_ne e)).trans e
theorem StripIs.sub {H H' : AH} {s : StripA} (h : StripIs H s) (S : Sub H H') : StripIs H' s := ⟨S _ _ h.1, S _ _ h.2⟩
def amL0 (l T ra : Addr) (root : Nat) : AM := [("source", .ref l), ("tree", .ref T), ("root", nv root), ("rows", .ref ra)]
def amL1 (T ra : Addr) (root : Nat) (dl : Addr) : AM := [("tree", .ref T), ("root", nv root), ("rows", .ref ra), ("drawn", .ref dl)]
def amL2 (T ra : Addr) (root : Nat) (dl sl : Addr) : AM := [("tree", .ref T), ("root", nv root), ("rows", .ref ra), ("drawn", .ref dl), ("strips", .ref sl)]
def amL3 (T ra : Addr) (root : Nat) (dl sl ga : Addr) : AM := [("tree", .ref T), ("root", nv root), ("rows", .ref ra), ("drawn", .ref dl), ("strips", .ref sl), ("gone", .ref ga)]
def amL4 (T ra : Addr) (root : Nat) (dl sl ga pa : Addr) (i : Nat) : AM := [("row", .ref pa), ("at", nv i), ("tree", .ref T), ("root", nv root), ("rows", .ref ra), ("drawn", .ref dl), ("strips", .ref sl), ("gone", .ref ga)]
def goneL (R : List Row) (fs : List Form) (i : Nat) : List Nat := (List.range i).filter (crit R fs)
theorem goneL_succ (R : List Row) (fs : List Form) (i : Nat) : goneL R fs (i + 1) = goneL R fs i ++ (if crit R fs i = true then [i] else []) := by
  unfold goneL
  rw [List.range_succ, List.filter_append]
  congr 1
  by_cases q : crit R fs i = true <;> simp [q]
theorem goneL_mem {R : List Row} {fs : List Form} {n s : Nat} (h : s < n) : decide (s ∈ goneL R fs n) = crit R fs s := by
  unfold goneL
  cases hc : crit R fs s with
  | true => simp [hc, h]
  | false => simp [hc]
theorem StripsIs.goes {H H' : AH} {l : Addr} {SA : List StripA} (h : StripsIs H l SA) (ht : TabOk gq H) (hk : ∀ a, a ≠ 385 → H a ≠ none → H' a = H a) : StripsIs H' l SA :=
  ⟨keep385 ht hk h.l (fun _ q => nomatch q), fun s hs => ⟨keep385 ht hk (h.s s hs).1 (fun _ q => nomatch q), keep385 ht hk (h.s s hs).2 (fun _ q => nomatch q)⟩, h.z⟩
theorem LS.setl {H : AH} {t : TreeA} {ra dl l : Addr} {RA : List (Addr × Row)} {FA : List (Addr × Form)} {o : AObj} {vs : List Value} (B : LS H t ra RA dl FA) (e : H l = some (.list vs)) (ol : l ∉ t.addrs) (n1 : l ≠ ra) (n2 : l ≠ dl) : LS (hset H l o) t ra RA dl FA :=
  { B with
    tr := B.tr.off ol
    r := ⟨(hset_ne (Ne.symm n1)).trans B.r.l, fun p hp => (hset_ne (fun q => by have := B.r.t p hp; rw [q, e] at this; cases this)).trans (B.r.t p hp)⟩
    F := ⟨(hset_ne (Ne.symm n2)).trans B.F.l, fun p hp => (hset_ne (fun q => by have := B.F.t p hp; rw [q, e] at this; cases this)).trans (B.F.t p hp), B.F.z⟩
    tab := B.tab.frame fun a _ h1 _ _ => hset_ne fun q => h1 _ (q ▸ e) }
theorem StripsIs.setl {H : AH} {l sl : Addr} {SA : List StripA} {o : AObj} {vs : List Value} (h : StripsIs H sl SA) (e : H l = some (.list vs)) (n : l ≠ sl) : StripsIs (hset H l o) sl SA :=
  ⟨(hset_ne (Ne.symm n)).trans h.l, fun s hs => ⟨(hset_ne (fun q => by have := (h.s s hs).1; rw [q, e] at this; cases this)).trans (h.s s hs).1, (hset_ne (fun q => by have := (h.s s hs).2; rw [q, e] at this; cases this)).trans (h.s s hs).2⟩, h.z⟩
end Mine
end

open PySem PySem.W PySem.Spec PySem.Calls PyProof.Rows
set_option Elab.async false
set_option maxRecDepth 100000
set_option maxHeartbeats 8000000
namespace Mine
theorem fillF1 : (PySem.Challenge.rw_on0188_01 = PySem.Challenge.rw_on0188_01) ∧ hK = hK := by
  k_fill
  exact ⟨rfl, rfl⟩
theorem h_said : OpenLaw.wellSaid PySem.Challenge.rw_on0188_01 = true := by decide +kernel
theorem law_main : PySem.Challenge.rw_on0188_01.Holds := by
  w_on
  refine holds_law h_said fun said => ?_
  refine holds_open (q := view) (loose := []) (Xt := hXt) (XP := XL view []) (Yf := hHk.obs) (Ya := hHk.val) (YP := (kmHook hK hAs h_as [385]).says) (N := 5288) h_left (Hook.of hHk) (Hook.keeps hHk) (fun s e => xl_of s (Bool.and_eq_true_iff.mp e).1) XL.keeps (by rfl) (by rfl) (by rfl) (fun s e => recFacts_of (Bool.and_eq_true_iff.mp e).2) (by rfl) said (by decide +kernel) ⟨rfl, rfl, rfl, rfl, rfl, by decide +kernel⟩ ?hw ?hc
  case hw => w_witness2
  w_strict (k_go0; (all_goals try k_fold))
  refine law_bridge (by assumption) (by assumption) (by assumption) (by assumption) (by assumption) (by assumption) (by assumption) (by assumption) rfl ?_ ?_
  · dsimp only
    intro c esc ens O
    subst esc ens
    have hz : c.ns.length ≤ 63 := by omega
    refine ex_cons ?_
    refine st_assign (by assumption) ?_
    refine ev_call (by assumption) ?_
    (refine' ev_globF (by assumption) ?zq1 ?_; (case zq1 => k_is))
    refine ⟨.ref (by k_is), ?_⟩
    refine ar_cons ?_
    refine ev_loc (by assumption) rfl ?_
    refine ar_cons ?_
    refine ev_int ?_
    refine ar_nil ?_
    refine (sp_pool hz).use O (by decide) ?_
    rintro _ _ ⟨l, o, rfl, hl, rfl, hS⟩
    have T1 := tab0.new (o' := o) hl
    have hl1 : hset AH0 l o l = some o := hset_self _ _ _
    generalize hset AH0 l o = H1 at hS T1 hl1 ⊢
    refine next_next ?_
    refine ex_cons ?_
    refine st_assign_tup ?_
    refine ev_call (by assumption) ?_
    (refine' ev_globF (by assumption) ?zq1 ?_; (case zq1 => k_is))
    refine ⟨.ref (by k_is), ?_⟩
    refine ar_cons ?_
    refine ev_loc (by assumption) rfl ?_
    refine ar_nil ?_
    refine (sp_document hS).use O (by decide) ?_
    rintro _ H2 ⟨x, t, ra, pa, RA, P, i, root, rfl, ex, B, hi⟩
    have T2 : TabOk gq H2 := T1.frame fun a ha h1 _ _ => (B.fr a (fun q => by
      obtain ⟨b, m, e, _⟩ := hS
      exact h1 _ (q ▸ e)) ha).1
    refine as_tup3 ex (as_name O (as_name O (as_name O ?_)))
    refine next_next ?_
    refine Tr.wk ⟨amL0 l t.T ra root, H2, by unfold amL0; (repeat (first | exact amsub_nil | refine amsub_cons rfl ?_)), Sub.refl, ?_⟩
    unfold amL0
    refine ex_cons ?_
    refine st_assign (by assumption) ?_
    refine ev_call (by assumption) ?_
    (refine' ev_globF (by assumption) ?zq1 ?_; (case zq1 => k_is))
    refine ⟨.ref (by k_is), ?_⟩
    refine ar_cons ?_
    refine ev_loc (by assumption) rfl ?_
    refine ar_nil ?_
    refine (sp_strips B.s).use O (by decide) ?_
    rintro _ H3 ⟨fl, FA, j, rfl, FBs, hj⟩
    obtain ⟨b0, m0, el0, _⟩ := B.s
    have nl : ∀ {a : Addr}, a ∈ t.addrs → a ≠ l := fun ha q => B.ol (q ▸ ha)
    have t3 : IsTree H3 t := B.tr.frame fun a ha => FBs.k a (nl ha) (by obtain ⟨o, e, _⟩ := B.tr.live a ha; exact some_ne e)
    have r3 : RowsIs H3 ra RA := ⟨(FBs.k ra (Ne.symm B.n1) (some_ne B.r.l)).trans B.r.l, fun p hp => (FBs.k p.1 (B.s.ne_tup (B.r.t p hp)) (some_ne (B.r.t p hp))).trans (B.r.t p hp)⟩
    have T3 : TabOk gq H3 := T2.frame fun a ha h1 _ _ => FBs.k a (fun q => h1 _ (q ▸ el0)) ha
    have L3 : LS H3 t ra RA fl FA := ⟨t3, r3, B.or, FBs.f, B.tr.not_none FBs.fn, T3, FBs.ok⟩
    have hS3 := FBs.s
    have hzF : FA.length ≤ 5 := by rw [FBs.z]; exact hj
    have hol := B.ol
    have hlr := B.n1
    have D := B.D
    have hrt := B.rt
    have nfl : fl ≠ l := FBs.n
    clear FBs B
    refine next_next ?_
    refine ex_cons ?_
    refine Tr.mono (Q := fun f am' H' => f = .next ∧ ∃ dl FA', AmSub (amL1 t.T ra root dl) am' ∧ LS H' t ra RA dl FA' ∧ FA'.length ≤ 7) ?_ ?_
    · refine st_if ?_
      refine tst_cmp ?_
      refine ev_call (by assumption) ?_
      (refine' ev_globF (by assumption) ?zq1 ?_; (case zq1 => k_is))
      refine ⟨.ref (by k_is), ?_⟩
      refine ar_cons ?_
      refine ev_loc (by assumption) rfl ?_
      refine ar_cons ?_
      refine ev_int ?_
      refine ar_nil ?_
      refine (sp_take (top := 2) hS3 (by decide) (by decide)).use O (by decide) ?_
      rintro _ _ ⟨d, hd, rfl, o2, rfl, hs⟩
      have L3 := L3.src (o := o2) hS3 hol hlr (Ne.symm nfl)
      generalize hset H3 l o2 = H4 at hs L3 ⊢
      refine ev_int ?_
      with_reducible refine ⟨_, .eqi, ?_⟩
      refine ite_b (fun hb => ?_) (fun hb => ?_)
      · refine ex_cons ?_
        refine st_assign (by assumption) ?_
        refine ev_call (by assumption) ?_
        (refine' ev_globF (by assumption) ?zq1 ?_; (case zq1 => k_is))
        refine ⟨.ref (by k_is), ?_⟩
        refine ar_cons ?_
        refine ev_loc (by assumption) rfl ?_
        refine ar_cons ?_
        refine ev_list ?_
        refine ar_cons ?_
        refine ev_tuple ?_
        refine ar_cons ?_
        refine ev_str ?_
        refine ar_cons ?_
        refine ev_str ?_
        refine ar_nil ?_
        refine ⟨by simp, fun a0 h0 _ => ?_⟩
        have S := Sub.new (o := .tuple [.str "" 0, .str "a" 0]) h0
        replace L3 := L3.sub S
        replace hs := hs.sub S
        have e0 := hset_self H4 a0 (.tuple [.str "" 0, .str "a" 0])
        generalize hset H4 a0 (.tuple [.str "" 0, .str "a" 0]) = H5 at L3 hs e0 ⊢
        clear S
        refine ar_cons ?_
        refine ev_tuple ?_
        refine ar_cons ?_
        refine ev_str ?_
        refine ar_cons ?_
        refine ev_none ?_
        refine ar_nil ?_
        refine ⟨by simp, fun a1 h1 _ => ?_⟩
        have S := Sub.new (o := .tuple [.str "u" 0, .none]) h1
        replace L3 := L3.sub S
        replace hs := hs.sub S
        replace e0 := S _ _ e0
        have e1 := hset_self H5 a1 (.tuple [.str "u" 0, .none])
        generalize hset H5 a1 (.tuple [.str "u" 0, .none]) = H6 at L3 hs e0 e1 ⊢
        clear S
        refine ar_cons ?_
        refine ev_tuple ?_
        refine ar_cons ?_
        refine ev_none ?_
        refine ar_cons ?_
        refine ev_none ?_
        refine ar_nil ?_
        refine ⟨by simp, fun a2 h2 _ => ?_⟩
        have S := Sub.new (o := .tuple [.none, .none]) h2
        replace L3 := L3.sub S
        replace hs := hs.sub S
        replace e0 := S _ _ e0
        replace e1 := S _ _ e1
        have e2 := hset_self H6 a2 (.tuple [.none, .none])
        generalize hset H6 a2 (.tuple [.none, .none]) = H7 at L3 hs e0 e1 e2 ⊢
        clear S
        refine ar_nil ?_
        refine ⟨by simp, fun aL hL _ => ?_⟩
        have eL := Sub.new (o := .list [.ref a0, .ref a1, .ref a2]) hL
        have ell := hset_self H7 aL (.list [.ref a0, .ref a1, .ref a2])
        have nL : aL ≠ l := Ne.symm (ne_of_none hL (by obtain ⟨b, m, e, _⟩ := hs; exact some_ne e))
        replace L3 := L3.sub eL
        replace hs := hs.sub eL
        replace e0 := eL _ _ e0
        replace e1 := eL _ _ e1
        replace e2 := eL _ _ e2
        generalize hset H7 aL (.list [.ref a0, .ref a1, .ref a2]) = H8 at L3 hs e0 e1 e2 ell ⊢
        clear eL
        refine ar_nil ?_
        refine (sp_one hs ell nL (by simp)).use O (by decide) ?_
        rintro v _ ⟨d2, _, hv, rfl, o3, rfl, hs2⟩
        obtain ⟨av, fu, fo, rfl, ev, hok⟩ : ∃ (av : Addr) (fu fo : Option Str), v = .ref av ∧ H8 av = some (.tuple [ov fu, ov fo]) ∧ (fo ≠ none → fu ≠ none) := by
          match d2, hv with
          | 0, hv => cases hv; exact ⟨a0, some "", some "a", rfl, e0, by simp⟩
          | 1, hv => cases hv; exact ⟨a1, some "u", none, rfl, e1, by simp⟩
          | 2, hv => cases hv; exact ⟨a2, none, none, rfl, e2, by simp⟩
          | k + 3, hv => cases hv
        have ev2 : hset H8 l o3 av = some (.tuple [ov fu, ov fo]) := (hset_ne (hs.ne_tup ev)).trans ev
        replace L3 := L3.src (o := o3) hs hol hlr (Ne.symm nfl)
        generalize hset H8 l o3 = H9 at L3 ev2 ⊢
        refine next_next ?_
        refine ex_cons ?_
        refine st_assign O ?_
        refine ev_binG ?_
        refine ev_loc (by assumption) rfl ?_
        refine ev_list ?_
        refine ar_cons ?_
        refine ev_tuple ?_
        refine ar_cons ?_
        refine ev_sub ?_
        refine ev_loc (by assumption) rfl ?_
        refine ev_int ?_
        refine ⟨_, sub_t (k := 0) ev2 rfl (by simp), ?_⟩
        refine ar_cons ?_
        refine ev_sub ?_
        refine ev_loc (by assumption) rfl ?_
        refine ev_int ?_
        refine ⟨_, sub_t (k := 1) ev2 rfl (by simp), ?_⟩
        refine ar_cons ?_
        refine ev_bool ?_
        refine ar_nil ?_
        refine ⟨by simp, fun x1 hx1 _ => ?_⟩
        have S := Sub.new (o := .tuple [ov fu, ov fo, .bool false]) hx1
        replace L3 := L3.sub S
        replace ev2 := S _ _ ev2
        have ex1 := hset_self H9 x1 (.tuple [ov fu, ov fo, .bool false])
        generalize hset H9 x1 (.tuple [ov fu, ov fo, .bool false]) = G1 at L3 ev2 ex1 ⊢
        clear S
        refine ar_cons ?_
        refine ev_tuple ?_
        refine ar_cons ?_
        refine ev_sub ?_
        refine ev_loc (by assumption) rfl ?_
        refine ev_int ?_
        refine ⟨_, sub_t (k := 0) ev2 rfl (by simp), ?_⟩
        refine ar_cons ?_
        refine ev_sub ?_
        refine ev_loc (by assumption) rfl ?_
        refine ev_int ?_
        refine ⟨_, sub_t (k := 1) ev2 rfl (by simp), ?_⟩
        refine ar_cons ?_
        refine ev_bool ?_
        refine ar_nil ?_
        refine ⟨by simp, fun x2 hx2 _ => ?_⟩
        have S := Sub.new (o := .tuple [ov fu, ov fo, .bool true]) hx2
        replace L3 := L3.sub S
        replace ex1 := S _ _ ex1
        have ex2 := hset_self G1 x2 (.tuple [ov fu, ov fo, .bool true])
        generalize hset G1 x2 (.tuple [ov fu, ov fo, .bool true]) = G2 at L3 ex1 ex2 ⊢
        clear S
        refine ar_nil ?_
        refine ⟨by simp, fun x3 hx3 _ => ?_⟩
        have S := Sub.new (o := .list [.ref x1, .ref x2]) hx3
        replace L3 := L3.sub S
        replace ex1 := S _ _ ex1
        replace ex2 := S _ _ ex2
        have ex3 := hset_self G2 x3 (.list [.ref x1, .ref x2])
        generalize hset G2 x3 (.list [.ref x1, .ref x2]) = G3 at L3 ex1 ex2 ex3 ⊢
        clear S
        intro a' b' ea eb
        refine add_lists ea eb L3.F.l ex3 (by simp; omega) (by simp) fun x4 hx4 _ => ?_
        have S := Sub.new (o := .list (FA.map (fun p => Value.ref p.1) ++ [.ref x1, .ref x2])) hx4
        have ex4 := hset_self G3 x4 (.list (FA.map (fun p => Value.ref p.1) ++ [.ref x1, .ref x2]))
        have odn := L3.tr.not_none hx4
        replace L3 := L3.sub S
        replace ex1 := S _ _ ex1
        replace ex2 := S _ _ ex2
        generalize hset G3 x4 (.list (FA.map (fun p => Value.ref p.1) ++ [.ref x1, .ref x2])) = G4 at L3 ex1 ex2 ex4 ⊢
        with_reducible refine next_next ?_
        refine ex_nil ?_
        refine ⟨rfl, x4, FA ++ [(x1, ⟨fu, fo, false⟩), (x2, ⟨fu, fo, true⟩)], by unfold amL1; (repeat (first | exact amsub_nil | refine amsub_cons rfl ?_)), { L3 with F := ⟨by rw [ex4]; simp, fun p hp => ?_, by simp; omega⟩, od := odn, ok := fun p hp => ?_ }, by simp; omega⟩
        · rcases List.mem_append.mp hp with hp | hp
          · exact L3.F.t p hp
          · rcases List.mem_cons.mp hp with rfl | hp
            · exact ex1
            · rcases List.mem_singleton.mp hp with rfl; exact ex2
        · rcases List.mem_append.mp hp with hp | hp
          · exact L3.ok p hp
          · rcases List.mem_cons.mp hp with rfl | hp
            · exact hok
            · rcases List.mem_singleton.mp hp with rfl; exact hok
      · refine ex_nil ?_
        exact ⟨rfl, fl, FA, by unfold amL1; (repeat (first | exact amsub_nil | refine amsub_cons rfl ?_)), L3, by omega⟩
    rintro _ am2 H4 ⟨rfl, dl, FA2, ham, LB, hz7⟩
    refine next_next ?_
    refine Tr.wk ⟨amL1 t.T ra root dl, H4, ham, Sub.refl, ?_⟩
    clear L3 hS3 hS T1 T2 t3 r3 T3
    refine ex_cons ?_
    refine st_lc O ?_ rfl rfl
    unfold amL1
    refine ev_loc (by assumption) rfl ?_
    refine ⟨FA2.length, _, _, H4, fun j ys H' => LS H' t ra RA dl FA2 ∧ ∃ SA : List StripA, SA.map (·.f) = (FA2.take j).map (·.2) ∧ ys = SA.map (fun s => Value.ref s.a) ∧ ∀ s ∈ SA, StripIs H' s ∧ s.a ∉ t.addrs ∧ s.d ∉ t.addrs, itb_listK (by exact trivial) LB.F.l (by simp), by omega, ⟨LB, [], by simp, rfl, fun _ h => (nomatch h)⟩, ?_, ?_, ?_⟩
    · rintro _ _ _ ⟨L, _⟩; exact L.F.l
    · rintro j _ _ v H5 Cc hj ⟨L, SA, hf, rfl, hs⟩ ⟨hv, rfl⟩ hCc hCc'
      obtain ⟨p, hp, rfl⟩ := map_at hv
      have tp : H5 p.1 = some (.tuple [ov p.2.uri, ov p.2.loc, .bool p.2.goes]) := L.F.t p (List.mem_of_getElem? hp)
      have SC := Sub.new (o := .ns []) hCc
      refine as_tup3 (SC _ _ tp) (asc_name (hset_self _ _ _) (asc_name (hset_self _ _ _) (asc_name (hset_self _ _ _) ?_)))
      refine ⟨rfl, cb0 ?_⟩
      have hne : ∀ b, H5 b ≠ none → b ≠ Cc := fun b h => ne_of_none hCc h
      have k8 : ∀ b, b ≠ Cc → hset (hset (hset (hset H5 Cc (.ns [])) Cc (.ns [("uri", ov p.2.uri)])) Cc (.ns [("local", ov p.2.loc), ("uri", ov p.2.uri)])) Cc (.ns [("goes", .bool p.2.goes), ("local", ov p.2.loc), ("uri", ov p.2.uri)]) b = H5 b := fun b h => by
        rw [hset_ne h, hset_ne h, hset_ne h, hset_ne h]
      have eR := hset_self (hset (hset (hset H5 Cc (.ns [])) Cc (.ns [("uri", ov p.2.uri)])) Cc (.ns [("local", ov p.2.loc), ("uri", ov p.2.uri)])) Cc (.ns [("goes", .bool p.2.goes), ("local", ov p.2.loc), ("uri", ov p.2.uri)])
      generalize hset (hset (hset (hset H5 Cc (.ns [])) Cc (.ns [("uri", ov p.2.uri)])) Cc (.ns [("local", ov p.2.loc), ("uri", ov p.2.uri)])) Cc (.ns [("goes", .bool p.2.goes), ("local", ov p.2.loc), ("uri", ov p.2.uri)]) = H8 at k8 eR ⊢
      refine ev_call O ?_
      refine' evc_glob O ?zq1 ?_
      case zq1 => k_is
      refine ⟨.ref (by k_is), ?_⟩
      refine ar_cons ?_
      refine evc_loc eR rfl ?_
      refine ar_cons ?_
      refine evc_loc eR rfl ?_
      refine ar_cons ?_
      refine evc_loc eR rfl ?_
      refine ar_nil ?_
      refine ci_Strip O (by decide) fun s9 H9 f9 i9 na nd k9 => ?_
      have ca : s9.a ≠ Cc := fun q => by rw [q, eR] at na; cases na
      have cd : s9.d ≠ Cc := fun q => by rw [q, eR] at nd; cases nd
      have S3 : Sub H5 (hdel H9 Cc) := fun b o e => by
        have hb := hne b (some_ne e)
        rw [hdel_ne hb, k9 b (by rw [k8 b hb]; exact some_ne e), k8 b hb]; exact e
      have h5 : ∀ a, a ≠ Cc → H8 a = none → a ∉ t.addrs := fun a ha e => L.tr.not_none (by rw [← k8 a ha]; exact e)
      refine ⟨rfl, _, hdel H9 Cc, (k9 Cc (some_ne eR)).trans eR, hdel_sub _ _, hdel_self _ _, L.sub S3, SA ++ [s9], ?_, by simp, fun s hm => ?_⟩
      · rw [List.take_succ, hp]
        simp [hf, f9]
      · rcases List.mem_append.mp hm with hm | hm
        · exact ⟨(hs s hm).1.sub S3, (hs s hm).2⟩
        · rcases List.mem_singleton.mp hm with rfl
          exact ⟨⟨(hdel_ne ca).trans i9.1, (hdel_ne cd).trans i9.2⟩, h5 _ ca na, h5 _ cd nd⟩
    rintro _ H5 sl ⟨L, SA, hf, rfl, hs⟩ hsl
    have S := Sub.new (o := .list (SA.map fun s => Value.ref s.a)) hsl
    have hln := congrArg List.length hf
    have hfs : SA.map (·.f) = formsOf FA2 := by rw [hf, List.take_length]; rfl
    have hSt : StripsIs (hset H5 sl (.list (SA.map fun s => Value.ref s.a))) sl SA := ⟨hset_self _ _ _, fun s h => (hs s h).1.sub S, by simp at hln; omega⟩
    have hOf : StripsOff t sl SA := ⟨L.tr.not_none hsl, fun s h => (hs s h).2⟩
    have hokS : ∀ s ∈ SA, s.f.ok := fun s h => by
      have : s.f ∈ formsOf FA2 := by rw [← hfs]; exact List.mem_map.mpr ⟨s, h, rfl⟩
      obtain ⟨p, hp, e⟩ := List.mem_map.mp this
      rw [← e]; exact L.ok p hp
    replace L := L.sub S
    clear hf hs hsl S hln LB
    generalize hset H5 sl (.list (SA.map fun s => Value.ref s.a)) = H6 at L hSt ⊢
    refine next_next ?_
    refine Tr.wk ⟨amL2 t.T ra root dl sl, H6, by unfold amL2; (repeat (first | exact amsub_nil | refine amsub_cons rfl ?_)), Sub.refl, ?_⟩
    unfold amL2
    have TR := L.tr
    refine ex_cons ?_
    refine st_assign O ?_
    refine ev_list ?_
    refine ar_cons ?_
    refine ev_call (by assumption) ?_
    (refine' ev_globF (by assumption) ?zq1 ?_; (case zq1 => k_is))
    refine ⟨.ref (by k_is), ?_⟩
    refine ar_cons ?_
    refine ev_str ?_
    refine ar_cons ?_
    refine ev_str ?_
    refine ar_cons ?_
    refine ev_bool ?_
    refine ar_nil ?_
    refine ci_Strip (u := some "") (l := some "a") (g := true) O (by decide) fun s1 H7 f1 i1 _ _ k1 => ?_
    replace L := L.sub (subK k1)
    replace hSt := hSt.sub (subK k1)
    refine ar_cons ?_
    refine ev_call (by assumption) ?_
    (refine' ev_globF (by assumption) ?zq1 ?_; (case zq1 => k_is))
    refine ⟨.ref (by k_is), ?_⟩
    refine ar_cons ?_
    refine ev_str ?_
    refine ar_cons ?_
    refine ev_str ?_
    refine ar_cons ?_
    refine ev_bool ?_
    refine ar_nil ?_
    refine ci_Strip (u := some "") (l := some "a") (g := false) O (by decide) fun s2 H8 f2 i2 _ _ k2 => ?_
    replace L := L.sub (subK k2)
    replace hSt := hSt.sub (subK k2)
    replace i1 := i1.sub (subK k2)
    refine ar_nil ?_
    refine ⟨by simp, fun xl hxl _ => ?_⟩
    have S := Sub.new (o := .list [.ref s1.a, .ref s2.a]) hxl
    have hFx : StripsIs (hset H8 xl (.list [.ref s1.a, .ref s2.a])) xl [s1, s2] := ⟨hset_self _ _ _, fun s h => by
      rcases List.mem_cons.mp h with rfl | h
      · exact i1.sub S
      · rcases List.mem_singleton.mp h with rfl; exact i2.sub S, by simp⟩
    replace L := L.sub S
    replace hSt := hSt.sub S
    clear i1 i2 k1 k2 S
    generalize hset H8 xl (.list [.ref s1.a, .ref s2.a]) = H9 at L hSt hFx ⊢
    have q1 : isStr [s1.f, s2.f] "" "a" = false := by rw [f1, f2]; decide +kernel
    have q2 : isStr [s2.f, s1.f] "" "a" = true := by rw [f1, f2]; decide +kernel
    have q3 : isStr [s1.f, s2.f] "u" "a" = false := by rw [f1, f2]; decide +kernel
    refine next_next ?_
    refine ex_cons ?_
    refine st_if ?_
    refine tst_or ?_
    refine tst_plain ?_
    refine ev_call (by assumption) ?_
    (refine' ev_globF (by assumption) ?zq1 ?_; (case zq1 => k_is))
    refine ⟨.ref (by k_is), ?_⟩
    refine ar_cons ?_
    refine ev_loc (by assumption) rfl ?_
    refine ar_cons ?_
    refine ev_str ?_
    refine ar_cons ?_
    refine ev_str ?_
    refine ar_nil ?_
    refine (sp_is_stripped hFx).use O (by decide) ?_
    rintro _ H9 ⟨rfl, rfl⟩
    refine ⟨_, rfl, ?_⟩
    refine ite_isF q1 ?_
    refine tst_or ?_
    refine tst_not ?_
    refine tst_plain ?_
    refine ev_call O ?_
    refine' ev_globF O ?zq1 ?_
    case zq1 => k_is
    refine ⟨.ref (by k_is), ?_⟩
    refine ar_cons ?_
    refine ev_rev ?_
    refine ev_loc O rfl ?_
    refine ⟨xl, _, rfl, hFx.l, by simp, fun rl hrl _ => ?_⟩
    have S := Sub.new (o := .list (([s1, s2].map fun s => Value.ref s.a).reverse)) hrl
    have hRv : StripsIs (hset _ rl (.list (([s1, s2].map fun s => Value.ref s.a).reverse))) rl [s2, s1] := ⟨hset_self _ _ _, fun s h => by
      rcases List.mem_cons.mp h with rfl | h
      · exact (hFx.s _ (.tail _ (.head _))).sub S
      · rcases List.mem_singleton.mp h with rfl; exact (hFx.s _ (.head _)).sub S, by simp⟩
    replace L := L.sub S
    replace hSt := hSt.sub S
    replace hFx := hFx.sub S
    generalize hset _ rl (.list (([s1, s2].map fun s => Value.ref s.a).reverse)) = H10 at L hSt hFx hRv ⊢
    refine ar_cons ?_
    refine ev_str ?_
    refine ar_cons ?_
    refine ev_str ?_
    refine ar_nil ?_
    refine (sp_is_stripped hRv).use O (by decide) ?_
    rintro _ H10 ⟨rfl, rfl⟩
    refine ⟨_, rfl, ?_⟩
    refine ite_isF (by rw [show isStr ([s2, s1].map (·.f)) "" "a" = true from q2]; rfl) ?_
    refine tst_or ?_
    refine tst_plain ?_
    refine ev_call (by assumption) ?_
    (refine' ev_globF (by assumption) ?zq1 ?_; (case zq1 => k_is))
    refine ⟨.ref (by k_is), ?_⟩
    refine ar_cons ?_
    refine ev_loc (by assumption) rfl ?_
    refine ar_cons ?_
    refine ev_str ?_
    refine ar_cons ?_
    refine ev_str ?_
    refine ar_nil ?_
    refine (sp_is_stripped hFx).use O (by decide) ?_
    rintro _ H10 ⟨rfl, rfl⟩
    refine ⟨_, rfl, ?_⟩
    refine ite_isF q3 ?_
    refine tst_or_nil ?_
    refine ite_f ?_
    refine ex_nil ?_
    with_reducible refine next_next ?_
    refine ex_cons ?_
    refine st_assign (by assumption) ?_
    refine ev_list ?_
    refine ar_nil ?_
    refine ⟨by simp, fun ga hga _ => ?_⟩
    have S := Sub.new (o := .list []) hga
    have eg : hset H10 ga (.list []) ga = some (.list ((goneL (rowsOf RA) (formsOf FA2) 0).map nv)) := hset_self _ _ _
    have gof := L.tr.not_none hga
    have gr : ga ≠ ra := Ne.symm (ne_of_none hga (some_ne L.r.l))
    have gd : ga ≠ dl := Ne.symm (ne_of_none hga (some_ne L.F.l))
    have gs : ga ≠ sl := Ne.symm (ne_of_none hga (some_ne hSt.l))
    replace L := L.sub S
    replace hSt := hSt.sub S
    clear hFx hRv q1 q2 q3 f1 f2 S
    generalize hset H10 ga (.list []) = H11 at L hSt eg ⊢
    refine next_next ?_
    refine Tr.wk ⟨amL3 t.T ra root dl sl ga, H11, by unfold amL3; (repeat (first | exact amsub_nil | refine amsub_cons rfl ?_)), Sub.refl, ?_⟩
    have W := D.wf
    have hzR : RA.length ≤ 100 := by rw [← rowsOf_len]; exact W.sz
    unfold amL3
    refine ex_cons ?_
    refine st_for ?_
    refine ev_call (by assumption) ?_
    (refine' ev_builtT (by assumption) ?zq1 boot_enumerate ?_; (case zq1 => k_is))
    refine ⟨.type _, ?_⟩
    refine ar_cons ?_
    refine ev_loc (by assumption) rfl ?_
    refine ar_nil ?_
    refine ci_enumerate L.r.l fun it en h1 h2 hlt _ => ?_
    have S2 := sub_enum (b := ra) (o := .liter ra) (o' := .enum it) h1 h2
    have he : hset (hset H11 it (.liter ra)) en (.enum it) en = some (.enum it) := hset_self _ _ _
    have hi2 : hset (hset H11 it (.liter ra)) en (.enum it) it = some (.liter ra) := by rw [hset_ne (Nat.ne_of_lt hlt), hset_self]
    refine ⟨RA.length, _, _, _, fun i am H' => AmSub (amL3 t.T ra root dl sl ga) am ∧ LS H' t ra RA dl FA2 ∧ StripsIs H' sl SA ∧ H' ga = some (.list ((goneL (rowsOf RA) (formsOf FA2) i).map nv)), itb_enumK (vs := RA.map fun p => Value.ref p.1) he hi2 (by simp), (hdel_sub _ _).trans (hdel_sub _ _), ⟨by unfold amL3; (repeat (first | exact amsub_nil | refine amsub_cons rfl ?_)), L.sub S2, hSt.sub S2, S2 _ _ eg⟩, ?_, ?_, ?_⟩
    · rintro _ _ _ ⟨_, L, _⟩; exact L.r.l
    · clear L hSt eg he hi2 S2
      rintro i am2 H12 v _ hi ⟨ham, L, hSt, eg⟩ ⟨T, xv, rfl, hx, hT, _, rfl⟩
      obtain ⟨p, hp, rfl⟩ := map_at hx
      have hrow : (rowsOf RA)[i]? = some p.2 := by simp [rowsOf, hp]
      have ST := Sub.new (o := .tuple [.int (i : Nat) 0, .ref p.1]) hT
      have eT := hset_self H12 T (.tuple [.int (i : Nat) 0, .ref p.1])
      replace L := L.sub ST
      replace hSt := hSt.sub ST
      replace eg := ST _ _ eg
      generalize hset H12 T (.tuple [.int (i : Nat) 0, .ref p.1]) = H13 at L hSt eg eT ⊢
      have kt := L.r.t p (List.mem_of_getElem? hp)
      refine as_tup2 eT (as_name O (as_name O ?_))
      refine Tr.wk ⟨amL4 t.T ra root dl sl ga p.1 i, H13, ?_, Sub.refl, ?_⟩
      · unfold amL4; unfold amL3 at ham
        exact amsub_cons rfl (amsub_cons rfl (amsub_cons (ham _ (.head _)) (amsub_cons (ham _ (.tail _ (.head _))) (amsub_cons (ham _ (.tail _ (.tail _ (.head _)))) (amsub_cons (ham _ (.tail _ (.tail _ (.tail _ (.head _))))) (amsub_cons (ham _ (.tail _ (.tail _ (.tail _ (.tail _ (.head _)))))) (amsub_cons (ham _ (.tail _ (.tail _ (.tail _ (.tail _ (.tail _ (.head _))))))) amsub_nil)))))))
      clear eT hT ST ham
      unfold amL4
      refine ex_cons ?_
      refine Tr.mono (Q := fun f am' H' => f = .next ∧ am' = amL4 t.T ra root dl sl ga p.1 i ∧ LS H' t ra RA dl FA2 ∧ StripsIs H' sl SA ∧ H' ga = some (.list ((goneL (rowsOf RA) (formsOf FA2) i).map nv))) ?_ ?_
      · refine st_if ?_
        refine tst_and ?_
        refine tst_cmp ?_
        refine ev_sub ?_
        refine ev_loc (by assumption) rfl ?_
        refine ev_int ?_
        refine ⟨_, sub_t (k := 1) kt rfl (by simp [Row.vals]), ?_⟩
        refine ev_str ?_
        with_reducible refine ⟨_, .eqs, ?_⟩
        refine ite_b (fun hk => ?_) (fun hk => ?_)
        · refine tst_and ?_
          refine tst_cmp ?_
          refine ev_call (by assumption) ?_
          (refine' ev_globF (by assumption) ?zq1 ?_; (case zq1 => k_is))
          refine ⟨.ref (by k_is), ?_⟩
          refine ar_cons ?_
          refine ev_loc (by assumption) rfl ?_
          refine ar_cons ?_
          refine ev_sub ?_
          refine ev_loc (by assumption) rfl ?_
          refine ev_int ?_
          refine ⟨_, sub_t (k := 3) kt rfl (by simp [Row.vals]), ?_⟩
          refine ar_cons ?_
          refine ev_sub ?_
          refine ev_loc (by assumption) rfl ?_
          refine ev_int ?_
          refine ⟨_, sub_t (k := 4) kt rfl (by simp [Row.vals]), ?_⟩
          refine ar_nil ?_
          refine (sp_is_stripped hSt).use O (by decide) ?_
          rintro _ H13 ⟨rfl, rfl⟩
          refine ev_call (by assumption) ?_
          (refine' ev_globF (by assumption) ?zq1 ?_; (case zq1 => k_is))
          refine ⟨.ref (by k_is), ?_⟩
          refine ar_cons ?_
          refine ev_loc (by assumption) rfl ?_
          refine ar_cons ?_
          refine ev_sub ?_
          refine ev_loc (by assumption) rfl ?_
          refine ev_int ?_
          refine ⟨_, sub_t (k := 3) kt rfl (by simp [Row.vals]), ?_⟩
          refine ar_cons ?_
          refine ev_sub ?_
          refine ev_loc (by assumption) rfl ?_
          refine ev_int ?_
          refine ⟨_, sub_t (k := 4) kt rfl (by simp [Row.vals]), ?_⟩
          refine ar_nil ?_
          refine (sp_goes L.F L.tab).use O (by decide) ?_
          rintro _ H14 ⟨rfl, ht, hk2⟩
          refine ⟨_, CmpIs.neb, ?_⟩
          have hst : isStr (SA.map (·.f)) p.2.uri p.2.loc = goes (formsOf FA2) p.2.uri p.2.loc := by
            rw [hfs, isStr_goes (fun f hf => by obtain ⟨q, hq, rfl⟩ := List.mem_map.mp hf; exact L.ok q hq)]
          refine ite_isF (by rw [hst]; simp) ?_
          refine ite_f ?_
          refine ex_nil ?_
          exact ⟨rfl, rfl, L.goes ht hk2, hSt.goes L.tab hk2, keep385 L.tab hk2 eg (fun _ q => nomatch q)⟩
        · refine ite_f ?_
          refine ex_nil ?_
          exact ⟨rfl, rfl, L, hSt, eg⟩
      clear L hSt eg kt
      rintro _ _ H14 ⟨rfl, rfl, L, hSt, eg⟩
      have kt := L.r.t p (List.mem_of_getElem? hp)
      refine next_next ?_
      unfold amL4
      refine ex_cons ?_
      refine st_if ?_
      refine tst_plain ?_
      refine ev_sub ?_
      refine ev_loc (by assumption) rfl ?_
      refine ev_int ?_
      refine ⟨_, sub_t (k := 6) kt rfl (by simp [Row.vals]), ?_⟩
      refine ⟨_, rfl, ?_⟩
      have W0 : ∀ r0, (rowsOf RA)[0]? = some r0 → r0.kind = ("root" : Str) := fun r0 e0 => by
        obtain ⟨r1, e1, k1, _⟩ := W.root
        rw [e0] at e1; cases e1; exact k1
      refine ite_b (fun hb => ?_) (fun hb => ?_)
      · have htx := W.bl i p.2 hrow hb
        have hi0 : i ≠ 0 := fun q => by
          subst q
          have := W0 _ hrow
          rw [htx] at this; exact absurd this (by decide)
        obtain ⟨_, u, ru, hu, _, eu, _, _⟩ := W.up i p.2 hrow hi0
        have hcr := crit_at (fs := formsOf FA2) hrow hb hu eu
        obtain ⟨aa, hsa, haa⟩ := L.r.row eu W.sz
        refine ex_cons ?_
        refine st_assign (by assumption) ?_
        refine ev_sub ?_
        refine ev_loc (by assumption) rfl ?_
        refine ev_sub ?_
        refine ev_loc (by assumption) rfl ?_
        refine ev_int ?_
        refine ⟨_, sub_t (k := 2) kt rfl (by simp [Row.vals]), ?_⟩
        rw [show oval p.2.up = nv u by rw [hu]; rfl]
        refine ⟨_, hsa, ?_⟩
        with_reducible refine next_next ?_
        refine ex_cons ?_
        refine st_if ?_
        refine tst_and ?_
        refine tst_plain ?_
        refine ev_call (by assumption) ?_
        (refine' ev_globF (by assumption) ?zq1 ?_; (case zq1 => k_is))
        refine ⟨.ref (by k_is), ?_⟩
        refine ar_cons ?_
        refine ev_loc (by assumption) rfl ?_
        refine ar_cons ?_
        refine ev_sub ?_
        refine ev_loc (by assumption) rfl ?_
        refine ev_int ?_
        refine ⟨_, sub_t (k := 3) haa rfl (by simp [Row.vals]), ?_⟩
        refine ar_cons ?_
        refine ev_sub ?_
        refine ev_loc (by assumption) rfl ?_
        refine ev_int ?_
        refine ⟨_, sub_t (k := 4) haa rfl (by simp [Row.vals]), ?_⟩
        refine ar_nil ?_
        refine (sp_goes L.F L.tab).use O (by decide) ?_
        rintro _ H15 ⟨rfl, ht, hk2⟩
        replace hSt := hSt.goes L.tab hk2
        replace eg := keep385 L.tab hk2 eg (fun _ q => nomatch q)
        replace kt := keep385 L.tab hk2 kt (fun _ q => nomatch q)
        replace L := L.goes ht hk2
        clear hsa haa
        refine ⟨_, rfl, ?_⟩
        have stay : ∀ Hx, LS Hx t ra RA dl FA2 → StripsIs Hx sl SA → Hx ga = some (.list ((goneL (rowsOf RA) (formsOf FA2) i).map nv)) → crit (rowsOf RA) (formsOf FA2) i = false → ∀ amx, AmSub (amL3 t.T ra root dl sl ga) amx →
            Wk (fun am H' => AmSub (amL3 t.T ra root dl sl ga) am ∧ LS H' t ra RA dl FA2 ∧ StripsIs H' sl SA ∧ H' ga = some (.list ((goneL (rowsOf RA) (formsOf FA2) (i + 1)).map nv))) amx Hx := fun Hx a1 a2 a3 a4 amx a5 =>
          ⟨amL3 t.T ra root dl sl ga, Hx, a5, Sub.refl, by unfold amL3; (repeat (first | exact amsub_nil | refine amsub_cons rfl ?_)), a1, a2, by rw [goneL_succ, a4]; simpa using a3⟩
        cases hg : goes (formsOf FA2) ru.uri ru.loc with
        | false =>
          refine ite_isF rfl ?_
          refine ite_f ?_
          refine ex_nil ?_
          with_reducible refine next_next ?_
          refine ex_nil ?_
          with_reducible refine next_next ?_
          refine ex_nil ?_
          refine stay _ L hSt eg (by rw [hcr, hg]; rfl) _ ?_
          unfold amL3
          (repeat (first | exact amsub_nil | refine amsub_cons rfl ?_))
        | true =>
          refine ite_isT rfl ?_
          refine tst_and ?_
          refine tst_not ?_
          refine tst_plain ?_
          refine ev_call (by assumption) ?_
          (refine' ev_globF (by assumption) ?zq1 ?_; (case zq1 => k_is))
          refine ⟨.ref (by k_is), ?_⟩
          refine ar_cons ?_
          refine ev_loc (by assumption) rfl ?_
          refine ar_cons ?_
          refine ev_sub ?_
          refine ev_loc (by assumption) rfl ?_
          refine ev_int ?_
          refine ⟨_, sub_t (k := 2) kt rfl (by simp [Row.vals]), ?_⟩
          rw [show oval p.2.up = nv u by rw [hu]; rfl]
          refine ar_nil ?_
          refine (sp_is_kept L.r W eu).use O (by decide) ?_
          rintro _ H15 ⟨rfl, rfl⟩
          refine ⟨_, rfl, ?_⟩
          cases hkp : kept (rowsOf RA) u with
          | true =>
            refine ite_isF rfl ?_
            refine ite_f ?_
            refine ex_nil ?_
            with_reducible refine next_next ?_
            refine ex_nil ?_
            with_reducible refine next_next ?_
            refine ex_nil ?_
            refine stay _ L hSt eg (by rw [hcr, hkp]; simp) _ ?_
            unfold amL3
            (repeat (first | exact amsub_nil | refine amsub_cons rfl ?_))
          | false =>
            refine ite_isT rfl ?_
            refine tst_and_nil ?_
            refine ite_t ?_
            refine ex_cons ?_
            refine st_expr ?_
            refine ev_meth (by assumption) ?_
            refine ev_loc (by assumption) rfl ?_
            have hc1 : crit (rowsOf RA) (formsOf FA2) i = true := by rw [hcr, hg, hkp]; rfl
            have hlen : (goneL (rowsOf RA) (formsOf FA2) i).length ≤ i := by
              unfold goneL
              exact Nat.le_trans (List.length_filter_le _ _) (by simp)
            refine ⟨_, GetM.list eg slot_list_append, ?_⟩
            refine ⟨.builtin _, ?_⟩
            refine ar_cons ?_
            refine ev_loc (by assumption) rfl ?_
            refine ar_nil ?_
            refine ci_append eg (by simp; omega) ?_
            with_reducible refine next_next ?_
            refine ex_nil ?_
            with_reducible refine next_next ?_
            refine ex_nil ?_
            with_reducible refine next_next ?_
            refine ex_nil ?_
            refine ⟨amL3 t.T ra root dl sl ga, _, by unfold amL3; (repeat (first | exact amsub_nil | refine amsub_cons rfl ?_)), Sub.refl, by unfold amL3; (repeat (first | exact amsub_nil | refine amsub_cons rfl ?_)), ?_⟩
            refine ⟨L.setl eg gof gr gd, hSt.setl eg gs, ?_⟩
            rw [hset_self, goneL_succ, hc1, if_pos rfl, List.map_append]
            rfl
      · refine ex_nil ?_
        with_reducible refine next_next ?_
        refine ex_nil ?_
        refine ⟨amL3 t.T ra root dl sl ga, H14, by unfold amL3; (repeat (first | exact amsub_nil | refine amsub_cons rfl ?_)), Sub.refl, by unfold amL3; (repeat (first | exact amsub_nil | refine amsub_cons rfl ?_)), L, hSt, ?_⟩
        rw [goneL_succ, crit_blank hrow hb]
        simpa using eg
    clear L hSt eg he hi2 S2
    rintro am3 H12 ⟨ham, L, hSt, eg⟩
    refine next_next ?_
    refine Tr.wk ⟨amL3 t.T ra root dl sl ga, H12, ham, Sub.refl, ?_⟩
    unfold amL3
    refine ex_cons ?_
    refine st_expr ?_
    refine ev_call (by assumption) ?_
    (refine' ev_globF (by assumption) ?zq1 ?_; (case zq1 => k_is))
    refine ⟨.ref (by k_is), ?_⟩
    refine ar_cons ?_
    refine ev_loc (by assumption) rfl ?_
    refine ar_cons ?_
    refine ev_loc (by assumption) rfl ?_
    refine ar_cons ?_
    refine ev_list ?_
    refine ar_nil ?_
    refine ⟨by simp, fun e0 h0 _ => ?_⟩
    have S := Sub.new (o := .list []) h0
    have hS0 : StripsIs (hset H12 e0 (.list [])) e0 [] := ⟨hset_self _ _ _, fun _ h => (nomatch h), by simp⟩
    have hO0 : StripsOff t e0 [] := ⟨L.tr.not_none h0, fun _ h => (nomatch h)⟩
    replace L := L.sub S
    replace hSt := hSt.sub S
    replace eg := S _ _ eg
    clear S
    generalize hset H12 e0 (.list []) = H13 at L hSt eg hS0 ⊢
    refine ar_nil ?_
    rw [← hrt]
    refine (sp_strip_source D L.tr hS0 hO0 (fun _ h => (nomatch h))).use O (by decide) ?_
    rintro _ H14 ⟨rfl, t1, T1, D1⟩
    replace D1 := D1.congr (G' := noG) (fun x _ => by rw [List.map_nil, crit_nil]; rfl)
    replace L := L.step T1
    have gof2 := T1.off gof (some_ne eg)
    replace eg := T1.keep eg gof
    obtain ⟨hSt, hOf⟩ := hSt.step hOf T1
    rw [hrt]
    refine next_next ?_
    refine Tr.wk ⟨amL3 t1.T ra root dl sl ga, H14, by rw [T1.T]; unfold amL3; (repeat (first | exact amsub_nil | refine amsub_cons rfl ?_)), Sub.refl, ?_⟩
    clear hS0 hO0 D T1 TR gof ham
    unfold amL3
    refine ex_cons ?_
    refine st_if ?_
    refine tst_not ?_
    refine tst_plain ?_
    refine ev_call (by assumption) ?_
    (refine' ev_globF (by assumption) ?zq1 ?_; (case zq1 => k_is))
    refine ⟨.ref (by k_is), ?_⟩
    refine ar_cons ?_
    refine ev_loc (by assumption) rfl ?_
    refine ar_cons ?_
    refine ev_loc (by assumption) rfl ?_
    refine ar_cons ?_
    refine ev_list ?_
    refine ar_nil ?_
    refine ⟨by simp, fun e1 h1 _ => ?_⟩
    have S := Sub.new (o := .list []) h1
    have ee := hset_self H14 e1 (.list [])
    replace L := L.sub S
    replace hSt := hSt.sub S
    replace eg := S _ _ eg
    clear S
    generalize hset H14 e1 (.list []) = H15 at L hSt eg ee ⊢
    refine ar_nil ?_
    refine (sp_children_ok (g := []) D1 L.tr L.r ee (fun s _ => by simp [noG])).use O (by decide) ?_
    rintro _ H15 ⟨rfl, rfl⟩
    refine ⟨_, rfl, ?_⟩
    refine ite_isF rfl ?_
    refine ex_nil ?_
    with_reducible refine next_next ?_
    refine ex_cons ?_
    refine st_for ?_
    refine ev_call (by assumption) ?_
    (refine' ev_builtT (by assumption) ?zq1 boot_range ?_; (case zq1 => k_is))
    refine ⟨.type _, ?_⟩
    refine ar_cons ?_
    refine ev_int ?_
    refine ar_nil ?_
    refine ci_range fun rg hrg _ => ?_
    have S := Sub.new (o := .rng 2) hrg
    have er := hset_self H15 rg (.rng 2)
    replace L := L.sub S
    replace hSt := hSt.sub S
    replace eg := S _ _ eg
    clear S
    generalize hset H15 rg (.rng 2) = H16 at L hSt eg er ⊢
    refine ⟨2, _, _, _, fun i am H' => ∃ t', AmSub (amL3 t'.T ra root dl sl ga) am ∧ LS H' t' ra RA dl FA2 ∧ StripsIs H' sl SA ∧ StripsOff t' sl SA ∧ H' ga = some (.list ((goneL (rowsOf RA) (formsOf FA2) RA.length).map nv)) ∧ ga ∉ t'.addrs ∧ ∃ G, Doc t'.pns (rowsOf RA) G ∧ ∀ s, G s = true → crit (rowsOf RA) (formsOf FA2) s = true, itb_range (by intro _ _; rfl) (by omega) er, Sub.refl, ⟨t1, by unfold amL3; (repeat (first | exact amsub_nil | refine amsub_cons rfl ?_)), L, hSt, hOf, eg, gof2, _, D1, fun s h => (nomatch h)⟩, ?_, ?_, ?_⟩
    · intros; trivial
    · clear L hSt hOf eg er gof2 D1 ee
      rintro i am2 _ v H17 hi ⟨t2, ham, L, hSt, hOf, eg, gof, G, D, hG⟩ ⟨rfl, rfl⟩
      refine as_name O ?_
      refine Tr.wk ⟨amL3 t2.T ra root dl sl ga, H17, ?_, Sub.refl, ?_⟩
      · unfold amL3 at ham ⊢
        exact amsub_cons (ham _ (.head _)) (amsub_cons (ham _ (.tail _ (.head _))) (amsub_cons (ham _ (.tail _ (.tail _ (.head _)))) (amsub_cons (ham _ (.tail _ (.tail _ (.tail _ (.head _))))) (amsub_cons (ham _ (.tail _ (.tail _ (.tail _ (.tail _ (.head _)))))) (amsub_cons (ham _ (.tail _ (.tail _ (.tail _ (.tail _ (.tail _ (.head _))))))) amsub_nil)))))
      unfold amL3
      refine ex_cons ?_
      refine st_expr ?_
      refine ev_call (by assumption) ?_
      (refine' ev_globF (by assumption) ?zq1 ?_; (case zq1 => k_is))
      refine ⟨.ref (by k_is), ?_⟩
      refine ar_cons ?_
      refine ev_loc (by assumption) rfl ?_
      refine ar_cons ?_
      refine ev_loc (by assumption) rfl ?_
      refine ar_cons ?_
      refine ev_loc (by assumption) rfl ?_
      refine ar_nil ?_
      rw [← hrt]
      refine (sp_strip_source D L.tr hSt hOf hokS).use O (by decide) ?_
      rintro _ H18 ⟨rfl, t3, T3, D3⟩
      rw [hrt]
      replace D3 := D3.congr (G' := crit (rowsOf RA) (formsOf FA2)) (fun x _ => by
        rw [hfs]
        cases hx : G x with
        | true => rw [hG x hx]; rfl
        | false => rfl)
      replace L := L.step T3
      have gof2 := T3.off gof (some_ne eg)
      replace eg := T3.keep eg gof
      obtain ⟨hSt, hOf⟩ := hSt.step hOf T3
      refine next_next ?_
      refine Tr.wk ⟨amL3 t3.T ra root dl sl ga, H18, by rw [T3.T]; unfold amL3; (repeat (first | exact amsub_nil | refine amsub_cons rfl ?_)), Sub.refl, ?_⟩
      unfold amL3
      refine ex_cons ?_
      refine st_if ?_
      refine tst_not ?_
      refine tst_plain ?_
      refine ev_call (by assumption) ?_
      (refine' ev_globF (by assumption) ?zq1 ?_; (case zq1 => k_is))
      refine ⟨.ref (by k_is), ?_⟩
      refine ar_cons ?_
      refine ev_loc (by assumption) rfl ?_
      refine ar_cons ?_
      refine ev_loc (by assumption) rfl ?_
      refine ar_cons ?_
      refine ev_loc (by assumption) rfl ?_
      refine ar_nil ?_
      refine (sp_children_ok D3 L.tr L.r eg (fun s hs => (goneL_mem hs).symm)).use O (by decide) ?_
      rintro _ H18 ⟨rfl, rfl⟩
      refine ⟨_, rfl, ?_⟩
      refine ite_isF rfl ?_
      refine ex_nil ?_
      with_reducible refine next_next ?_
      refine ex_nil ?_
      exact ⟨amL3 t3.T ra root dl sl ga, H18, by unfold amL3; (repeat (first | exact amsub_nil | refine amsub_cons rfl ?_)), Sub.refl, t3, by unfold amL3; (repeat (first | exact amsub_nil | refine amsub_cons rfl ?_)), L, hSt, hOf, eg, gof2, _, D3, fun _ h => h⟩
    · rintro am2 H17 ⟨t2, ham, L, _⟩
      with_reducible refine next_next ?_
      refine ex_cons ?_
      refine st_return ?_
      refine ev_bool ?_
      with_reducible refine next_ret ?_
      obtain ⟨lt, elt, _⟩ := L.tab
      exact ⟨rfl, lt, elt⟩
  · intro fl s' m' news eos egens F2 N2 hm hv
    obtain ⟨ps, hm⟩ := hm
    cases fl with
    | ret v =>
      have hv' : v = .bool true := hv
      subst hv'
      refine And.intro (?_ : GoodW _ _ _ _ _ (Except.ok (Flow.ret (.bool true))) _) ⟨GrownAt.of N2 hm, True.intro⟩
      clear hm hv
      refine goodW_bool F2 (egens.trans (by assumption)) (raisesW_false ?_) ?_ eos
      · wrow_none_raised
      · wrow_post
    | next => cases hv
    | brk => cases hv
    | cont => cases hv
end Mine

theorem PySem.Challenge.cw_on0188_01_holds : PySem.Challenge.rw_on0188_01.Holds := by
  exact Mine.law_main
