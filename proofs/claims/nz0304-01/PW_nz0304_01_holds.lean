import PyProof.Rows.All
import Wide.All
import OpenK.AllK
import Wide.FinOn
import Lean
import PySem.Challenge.RW_nz0304_01
open PySem PySem.W PySem.Calls PyProof.Rows
set_option Elab.async false
set_option maxRecDepth 100000
set_option linter.all false
set_option linter.unusedVariables false
set_option compiler.extract_closed false
set_option genSizeOf false
namespace Mine
section
/-! the statements of the text, by their places; the objects of the top's last heap (written by a program of mine) -/
noncomputable abbrev prg : Program := PySem.Challenge.rw_nz0304_01.row.prog
noncomputable def kidS : Stmt → List Stmt
  | .FunctionDef (body := b) .. => b
  | .ClassDef (body := b) .. => b
  | .For (body := b) .. => b
  | .If (body := b) .. => b
  | _ => []
noncomputable def elseS : Stmt → List Stmt
  | .If (orelse := b) .. => b
  | _ => []
noncomputable def scopeS : Stmt → Scope
  | .FunctionDef (scope := s) .. => s
  | _ => { kind := .module, names := [], isGenerator := false, isCoroutine := false }
noncomputable def argsS : Stmt → Arguments
  | .FunctionDef (args := a) .. => a
  | _ => ⟨[], [], none, [], [], none, []⟩
noncomputable def nthS : List Stmt → Nat → Stmt
  | [], _ => .Pass ⟨0, 0, 0, 0⟩
  | s :: _, 0 => s
  | _ :: r, n + 1 => nthS r n
noncomputable def topS (i : Nat) : Stmt := nthS prg.main.body i
noncomputable def o2 (P : Params) : Obj := ⟨.none, none, (.dict #[⟨(PyData.keyHash P "type.__subclasses__.Exception.0"), (.str "type.__subclasses__.Exception.0" 225), (.int 39 0)⟩, ⟨(PyData.keyHash P "type.__subclasses__.Exception.n"), (.str "type.__subclasses__.Exception.n" 226), (.int 1 0)⟩] 2), #[]⟩
noncomputable def o3 (P : Params) : Obj := ⟨(.type "dict"), none, (.dict #[⟨(PyData.keyHash P "__name__"), (.str "__name__" 165), (.str "law_nz0304_01" 683)⟩, ⟨(PyData.keyHash P "__doc__"), (.str "__doc__" 166), .none⟩, ⟨(PyData.keyHash P "__package__"), (.str "__package__" 167), .none⟩, ⟨(PyData.keyHash P "__loader__"), (.str "__loader__" 168), (.builtin "__main__.__loader__#opaque")⟩, ⟨(PyData.keyHash P "__spec__"), (.str "__spec__" 169), .none⟩, ⟨(PyData.keyHash P "__annotations__"), (.str "__annotations__" 170), (.ref 6)⟩, ⟨(PyData.keyHash P "__builtins__"), (.str "__builtins__" 171), (.ref 4)⟩, ⟨(PyData.keyHash P "__file__"), (.str "__file__" 173), (.str "/claim/cut.py" 172)⟩, ⟨(PyData.keyHash P "__cached__"), (.str "__cached__" 174), .none⟩, ⟨(PyData.keyHash P "PostError"), (.str "PostError" 228), (.ref 39)⟩, ⟨(PyData.keyHash P "NameFault"), (.str "NameFault" 244), (.ref 52)⟩, ⟨(PyData.keyHash P "StoreFault"), (.str "StoreFault" 260), (.ref 64)⟩, ⟨(PyData.keyHash P "SYSTEM"), (.str "SYSTEM" 264), (.str "\\Seen \\Answered \\Flagged \\Deleted \\Draft" 263)⟩, ⟨(PyData.keyHash P "NO_KEYWORD"), (.str "NO_KEYWORD" 266), (.str "(){ %*\"\\]" 265)⟩, ⟨(PyData.keyHash P "MOST_KEYWORD"), (.str "MOST_KEYWORD" 268), (.int 60 267)⟩, ⟨(PyData.keyHash P "system_flags"), (.str "system_flags" 274), (.ref 73)⟩, ⟨(PyData.keyHash P "is_keyword"), (.str "is_keyword" 282), (.ref 80)⟩, ⟨(PyData.keyHash P "flag_name"), (.str "flag_name" 290), (.ref 87)⟩, ⟨(PyData.keyHash P "flag_tuple"), (.str "flag_tuple" 300), (.ref 94)⟩, ⟨(PyData.keyHash P "Letter"), (.str "Letter" 352), (.ref 125)⟩, ⟨(PyData.keyHash P "Box"), (.str "Box" 409), (.ref 163)⟩, ⟨(PyData.keyHash P "place_of"), (.str "place_of" 420), (.ref 174)⟩, ⟨(PyData.keyHash P "raised"), (.str "raised" 427), (.ref 181)⟩, ⟨(PyData.keyHash P "add_letter"), (.str "add_letter" 439), (.ref 188)⟩, ⟨(PyData.keyHash P "expunge"), (.str "expunge" 445), (.ref 193)⟩, ⟨(PyData.keyHash P "copy_letters"), (.str "copy_letters" 451), (.ref 198)⟩, ⟨(PyData.keyHash P "move_letters"), (.str "move_letters" 457), (.ref 203)⟩, ⟨(PyData.keyHash P "upper_text"), (.str "upper_text" 465), (.ref 208)⟩, ⟨(PyData.keyHash P "DELIMITER"), (.str "DELIMITER" 469), (.str "/" 468)⟩, ⟨(PyData.keyHash P "INBOX_names"), (.str "INBOX_names" 471), (.str "INBOX" 470)⟩, ⟨(PyData.keyHash P "WILD_SIGNS"), (.str "WILD_SIGNS" 473), (.str "%*" 472)⟩, ⟨(PyData.keyHash P "is_half"), (.str "is_half" 480), (.ref 215)⟩, ⟨(PyData.keyHash P "first_part"), (.str "first_part" 488), (.ref 222)⟩, ⟨(PyData.keyHash P "normal_name"), (.str "normal_name" 497), (.ref 229)⟩, ⟨(PyData.keyHash P "is_barred_code"), (.str "is_barred_code" 504), (.ref 236)⟩, ⟨(PyData.keyHash P "check_name"), (.str "check_name" 514), (.ref 243)⟩, ⟨(PyData.keyHash P "is_below"), (.str "is_below" 522), (.ref 250)⟩, ⟨(PyData.keyHash P "INBOX_store"), (.str "INBOX_store" 526), (.str "INBOX" 525)⟩, ⟨(PyData.keyHash P "MOST"), (.str "MOST" 528), (.int 4294967295 527)⟩, ⟨(PyData.keyHash P "MOST_MODSEQ"), (.str "MOST_MODSEQ" 530), (.int 9223372036854775807 529)⟩, ⟨(PyData.keyHash P "Store"), (.str "Store" 590), (.ref 293)⟩, ⟨(PyData.keyHash P "settled_name"), (.str "settled_name" 599), (.ref 304)⟩, ⟨(PyData.keyHash P "need_modseqs"), (.str "need_modseqs" 607), (.ref 311)⟩, ⟨(PyData.keyHash P "need_room"), (.str "need_room" 615), (.ref 318)⟩, ⟨(PyData.keyHash P "need_new"), (.str "need_new" 623), (.ref 325)⟩, ⟨(PyData.keyHash P "need_validity"), (.str "need_validity" 631), (.ref 332)⟩, ⟨(PyData.keyHash P "create_box"), (.str "create_box" 641), (.ref 339)⟩, ⟨(PyData.keyHash P "renamed_pairs"), (.str "renamed_pairs" 653), (.ref 346)⟩, ⟨(PyData.keyHash P "rename_box"), (.str "rename_box" 659), (.ref 351)⟩, ⟨(PyData.keyHash P "rename_inbox"), (.str "rename_inbox" 669), (.ref 358)⟩, ⟨(PyData.keyHash P "append_letter"), (.str "append_letter" 682), (.ref 365)⟩, ⟨(PyData.keyHash P "_law_box"), (.str "_law_box" 690), (.ref 370)⟩, ⟨(PyData.keyHash P "_law_draw"), (.str "_law_draw" 700), (.ref 377)⟩, ⟨(PyData.keyHash P "_law_names"), (.str "_law_names" 706), (.ref 384)⟩, ⟨(PyData.keyHash P "_law_normal"), (.str "_law_normal" 713), (.ref 391)⟩, ⟨(PyData.keyHash P "_law_is_name"), (.str "_law_is_name" 720), (.ref 398)⟩, ⟨(PyData.keyHash P "_law_pairs"), (.str "_law_pairs" 726), (.ref 403)⟩, ⟨(PyData.keyHash P "_law_heard"), (.str "_law_heard" 735), (.ref 410)⟩, ⟨(PyData.keyHash P "_law_is_told"), (.str "_law_is_told" 741), (.ref 415)⟩, ⟨(PyData.keyHash P "law"), (.str "law" 747), (.ref 420)⟩] 60), #[]⟩
noncomputable def o11 (P : Params) : Obj := ⟨(.type "tuple"), none, (.seq #[] 0), #[]⟩
noncomputable def o12 (P : Params) : Obj := ⟨.none, none, (.fields #[(.int 2 0), (.int 0 0), (.ref 20), (.int 11 0), (.int 0 0), (.ref 48), (.int 13 0), (.int 0 0), (.ref 60), (.int 19 0), (.int 0 0), (.ref 72), (.int 21 0), (.int 0 0), (.ref 79), (.int 28 0), (.int 0 0), (.ref 86), (.int 35 0), (.int 0 0), (.ref 93), (.int 42 0), (.int 0 0), (.ref 100), (.int 56 0), (.int 0 0), (.ref 135), (.int 77 0), (.int 0 0), (.ref 173), (.int 88 0), (.int 0 0), (.ref 180), (.int 91 0), (.int 0 0), (.ref 187), (.int 97 0), (.int 0 0), (.ref 192), (.int 108 0), (.int 0 0), (.ref 197), (.int 115 0), (.int 0 0), (.ref 202), (.int 120 0), (.int 0 0), (.ref 207), (.int 126 0), (.int 0 0), (.ref 214), (.int 128 0), (.int 0 0), (.ref 221), (.int 133 0), (.int 0 0), (.ref 228), (.int 138 0), (.int 0 0), (.ref 235), (.int 140 0), (.int 0 0), (.ref 242), (.int 155 0), (.int 0 0), (.ref 249), (.int 161 0), (.int 0 0), (.ref 256), (.int 183 0), (.int 0 0), (.ref 303), (.int 190 0), (.int 0 0), (.ref 310), (.int 193 0), (.int 0 0), (.ref 317), (.int 197 0), (.int 0 0), (.ref 324), (.int 200 0), (.int 0 0), (.ref 331), (.int 203 0), (.int 0 0), (.ref 338), (.int 210 0), (.int 0 0), (.ref 345), (.int 218 0), (.int 0 0), (.ref 350), (.int 230 0), (.int 0 0), (.ref 357), (.int 238 0), (.int 0 0), (.ref 364), (.int 244 0), (.int 0 0), (.ref 369), (.int 253 0), (.int 0 0), (.ref 376), (.int 264 0), (.int 0 0), (.ref 383), (.int 266 0), (.int 0 0), (.ref 390), (.int 268 0), (.int 0 0), (.ref 397), (.int 270 0), (.int 0 0), (.ref 402), (.int 277 0), (.int 0 0), (.ref 409), (.int 282 0), (.int 0 0), (.ref 414), (.int 290 0), (.int 0 0), (.ref 419)]), #[]⟩
noncomputable def o13 (P : Params) : Obj := ⟨(.type "code"), none, (.fields #[(.str "<module>" 182), (.str "<module>" 183), (.str "/claim/cut.py" 184), (.int 1 0), (.int 0 0), (.int 0 0), (.int 0 0), (.int 0 0), (.ref 11), (.bool false), (.int 181 0), (.ref 12), .none, .none, .none, .none, (.int 185 0), (.int 1 0), (.str "/claim/cut.py" 186)]), #[]⟩
noncomputable def o14 (P : Params) : Obj := ⟨(.type "frame"), none, .plain, #[(some (.ref 13)), (some (.ref 3)), (some (.ref 3)), none, (some (.str "__main__" 164)), none, (some (.ref 0))]⟩
noncomputable def o15 (P : Params) : Obj := ⟨(.type "tuple"), none, (.seq #[(.type "Exception")] 0), #[]⟩
noncomputable def o16 (P : Params) : Obj := ⟨(.type "builtin_function_or_method"), none, (.fields #[(.builtin "type.__prepare__"), (.type "type")]), #[]⟩
noncomputable def o17 (P : Params) : Obj := ⟨(.type "dict"), none, (.dict #[⟨(PyData.keyHash P "__module__"), (.str "__module__" 196), (.str "postkeep.errors" 187)⟩, ⟨(PyData.keyHash P "__qualname__"), (.str "__qualname__" 198), (.str "PostError" 197)⟩, ⟨(PyData.keyHash P "__firstlineno__"), (.str "__firstlineno__" 200), (.int 2 199)⟩, ⟨(PyData.keyHash P "__init__"), (.str "__init__" 211), (.ref 29)⟩, ⟨(PyData.keyHash P "told"), (.str "told" 218), (.ref 36)⟩, ⟨(PyData.keyHash P "__static_attributes__"), (.str "__static_attributes__" 221), (.ref 37)⟩] 6), #[]⟩
noncomputable def o18 (P : Params) : Obj := ⟨(.type "tuple"), none, (.seq #[] 0), #[]⟩
noncomputable def o19 (P : Params) : Obj := ⟨.none, none, (.fields #[(.int 4 0), (.int 4 0), (.ref 28), (.int 9 0), (.int 4 0), (.ref 35)]), #[]⟩
noncomputable def o20 (P : Params) : Obj := ⟨(.type "code"), none, (.fields #[(.str "PostError" 191), (.str "PostError" 192), (.str "/claim/cut.py" 193), (.int 2 0), (.int 0 0), (.int 0 0), (.int 0 0), (.int 0 0), (.ref 18), (.bool false), (.int 181 0), (.ref 19), .none, .none, .none, .none, (.int 194 0), (.int 2 0), (.str "/claim/cut.py" 195)]), #[]⟩
noncomputable def o21 (P : Params) : Obj := ⟨(.type "frame"), none, .plain, #[(some (.ref 20)), (some (.ref 3)), (some (.ref 17)), none, (some (.str "postkeep.errors" 187)), none, (some (.ref 0))]⟩
noncomputable def o22 (P : Params) : Obj := ⟨(.type "tuple"), none, (.seq #[(.int (-1) 202)] 0), #[]⟩
noncomputable def o23 (P : Params) : Obj := ⟨(.type "tuple"), none, (.seq #[] 0), #[]⟩
noncomputable def o24 (P : Params) : Obj := ⟨.none, none, (.fields #[]), #[]⟩
noncomputable def o25 (P : Params) : Obj := ⟨(.type "tuple"), none, (.seq #[(.str "self" 206), (.str "what" 207), (.str "at" 208)] 0), #[]⟩
noncomputable def o26 (P : Params) : Obj := ⟨(.type "tuple"), none, (.seq #[] 0), #[]⟩
noncomputable def o27 (P : Params) : Obj := ⟨.none, none, (.func ⟨"__init__", "PostError.__init__", (argsS (nthS (kidS (topS 1)) 0)), (.stmts (kidS (nthS (kidS (topS 1)) 0))), (scopeS (nthS (kidS (topS 1)) 0)), 0, [], .none, .none, .none, .none, none, .none, .none, 0⟩), #[]⟩
noncomputable def o28 (P : Params) : Obj := ⟨(.type "code"), none, (.fields #[(.str "__init__" 203), (.str "PostError.__init__" 204), (.str "/claim/cut.py" 205), (.int 4 0), (.int 3 0), (.int 0 0), (.int 0 0), (.int 3 0), (.ref 23), (.bool true), (.int 181 0), (.ref 24), .none, (.ref 25), (.ref 26), (.ref 27), (.int 209 0), (.int 4 0), (.str "/claim/cut.py" 210)]), #[]⟩
noncomputable def o29 (P : Params) : Obj := ⟨(.type "function"), none, (.func ⟨"__init__", "PostError.__init__", (argsS (nthS (kidS (topS 1)) 0)), (.stmts (kidS (nthS (kidS (topS 1)) 0))), (scopeS (nthS (kidS (topS 1)) 0)), 3, [], (.ref 22), .none, .none, (.str "postkeep.errors" 187), none, (.ref 28), .none, 0⟩), #[]⟩
noncomputable def o30 (P : Params) : Obj := ⟨(.type "tuple"), none, (.seq #[] 0), #[]⟩
noncomputable def o31 (P : Params) : Obj := ⟨.none, none, (.fields #[]), #[]⟩
noncomputable def o32 (P : Params) : Obj := ⟨(.type "tuple"), none, (.seq #[(.str "self" 215)] 0), #[]⟩
noncomputable def o33 (P : Params) : Obj := ⟨(.type "tuple"), none, (.seq #[] 0), #[]⟩
noncomputable def o34 (P : Params) : Obj := ⟨.none, none, (.func ⟨"told", "PostError.told", (argsS (nthS (kidS (topS 1)) 1)), (.stmts (kidS (nthS (kidS (topS 1)) 1))), (scopeS (nthS (kidS (topS 1)) 1)), 0, [], .none, .none, .none, .none, none, .none, .none, 0⟩), #[]⟩
noncomputable def o35 (P : Params) : Obj := ⟨(.type "code"), none, (.fields #[(.str "told" 212), (.str "PostError.told" 213), (.str "/claim/cut.py" 214), (.int 9 0), (.int 1 0), (.int 0 0), (.int 0 0), (.int 3 0), (.ref 30), (.bool true), (.int 181 0), (.ref 31), .none, (.ref 32), (.ref 33), (.ref 34), (.int 216 0), (.int 9 0), (.str "/claim/cut.py" 217)]), #[]⟩
noncomputable def o36 (P : Params) : Obj := ⟨(.type "function"), none, (.func ⟨"told", "PostError.told", (argsS (nthS (kidS (topS 1)) 1)), (.stmts (kidS (nthS (kidS (topS 1)) 1))), (scopeS (nthS (kidS (topS 1)) 1)), 3, [], .none, .none, .none, (.str "postkeep.errors" 187), none, (.ref 35), .none, 0⟩), #[]⟩
noncomputable def o37 (P : Params) : Obj := ⟨(.type "tuple"), none, (.seq #[(.str "at" 219), (.str "what" 220)] 0), #[]⟩
noncomputable def o38 (P : Params) : Obj := ⟨(.type "dict"), none, (.dict #[⟨(PyData.keyHash P "__module__"), (.str "__module__" 196), (.str "postkeep.errors" 187)⟩, ⟨(PyData.keyHash P "__firstlineno__"), (.str "__firstlineno__" 200), (.int 2 199)⟩, ⟨(PyData.keyHash P "__init__"), (.str "__init__" 211), (.ref 29)⟩, ⟨(PyData.keyHash P "told"), (.str "told" 218), (.ref 36)⟩, ⟨(PyData.keyHash P "__static_attributes__"), (.str "__static_attributes__" 221), (.ref 37)⟩, ⟨(PyData.keyHash P "__weakref__"), (.str "__weakref__" 223), (.ref 40)⟩, ⟨(PyData.keyHash P "__doc__"), (.str "__doc__" 224), .none⟩] 3), #[]⟩
noncomputable def o39 (P : Params) : Obj := ⟨(.type "type"), none, (.cls ⟨"PostError", [(.type "Exception")], [(.ref 39), (.type "Exception"), (.type "BaseException"), (.type "object")], 38, "PostError", true, [], [(.ref 52), (.ref 64)], false, none, false⟩), #[(some (.ref 15)), none, (some (.str "PostError" 189)), (some (.str "PostError" 197)), (some (.builtin "Exception.__new__")), (some (.bool true))]⟩
noncomputable def o40 (P : Params) : Obj := ⟨(.type "getset_descriptor"), none, (.fields #[(.str "__weakref__" 222), (.ref 39), (.builtin "ExceptionGroup.__weakref__"), .none]), #[]⟩
noncomputable def o41 (P : Params) : Obj := ⟨(.type "super"), none, (.fields #[(.ref 39), (.ref 39), (.ref 39)]), #[]⟩
noncomputable def o42 (P : Params) : Obj := ⟨(.type "builtin_function_or_method"), none, (.fields #[(.builtin "object.__init_subclass__"), (.ref 39)]), #[]⟩
noncomputable def o43 (P : Params) : Obj := ⟨(.type "tuple"), none, (.seq #[(.ref 39)] 0), #[]⟩
noncomputable def o44 (P : Params) : Obj := ⟨(.type "builtin_function_or_method"), none, (.fields #[(.builtin "type.__prepare__"), (.type "type")]), #[]⟩
noncomputable def o45 (P : Params) : Obj := ⟨(.type "dict"), none, (.dict #[⟨(PyData.keyHash P "__module__"), (.str "__module__" 236), (.str "postkeep.errors" 187)⟩, ⟨(PyData.keyHash P "__qualname__"), (.str "__qualname__" 238), (.str "NameFault" 237)⟩, ⟨(PyData.keyHash P "__firstlineno__"), (.str "__firstlineno__" 240), (.int 11 239)⟩, ⟨(PyData.keyHash P "__static_attributes__"), (.str "__static_attributes__" 241), (.ref 50)⟩] 4), #[]⟩
noncomputable def o46 (P : Params) : Obj := ⟨(.type "tuple"), none, (.seq #[] 0), #[]⟩
noncomputable def o47 (P : Params) : Obj := ⟨.none, none, (.fields #[]), #[]⟩
noncomputable def o48 (P : Params) : Obj := ⟨(.type "code"), none, (.fields #[(.str "NameFault" 231), (.str "NameFault" 232), (.str "/claim/cut.py" 233), (.int 11 0), (.int 0 0), (.int 0 0), (.int 0 0), (.int 0 0), (.ref 46), (.bool false), (.int 181 0), (.ref 47), .none, .none, .none, .none, (.int 234 0), (.int 11 0), (.str "/claim/cut.py" 235)]), #[]⟩
noncomputable def o49 (P : Params) : Obj := ⟨(.type "frame"), none, .plain, #[(some (.ref 48)), (some (.ref 3)), (some (.ref 45)), none, (some (.str "postkeep.errors" 187)), none, (some (.ref 0))]⟩
noncomputable def o50 (P : Params) : Obj := ⟨(.type "tuple"), none, (.seq #[] 0), #[]⟩
noncomputable def o51 (P : Params) : Obj := ⟨(.type "dict"), none, (.dict #[⟨(PyData.keyHash P "__module__"), (.str "__module__" 236), (.str "postkeep.errors" 187)⟩, ⟨(PyData.keyHash P "__firstlineno__"), (.str "__firstlineno__" 240), (.int 11 239)⟩, ⟨(PyData.keyHash P "__static_attributes__"), (.str "__static_attributes__" 241), (.ref 50)⟩, ⟨(PyData.keyHash P "__doc__"), (.str "__doc__" 242), .none⟩] 2), #[]⟩
noncomputable def o52 (P : Params) : Obj := ⟨(.type "type"), none, (.cls ⟨"NameFault", [(.ref 39)], [(.ref 52), (.ref 39), (.type "Exception"), (.type "BaseException"), (.type "object")], 51, "NameFault", true, [], [], false, none, false⟩), #[(some (.ref 43)), none, (some (.str "NameFault" 229)), (some (.str "NameFault" 237)), (some (.builtin "Exception.__new__")), (some (.bool true))]⟩
noncomputable def o53 (P : Params) : Obj := ⟨(.type "super"), none, (.fields #[(.ref 52), (.ref 52), (.ref 52)]), #[]⟩
noncomputable def o54 (P : Params) : Obj := ⟨(.type "builtin_function_or_method"), none, (.fields #[(.builtin "object.__init_subclass__"), (.ref 52)]), #[]⟩
noncomputable def o55 (P : Params) : Obj := ⟨(.type "tuple"), none, (.seq #[(.ref 39)] 0), #[]⟩
noncomputable def o56 (P : Params) : Obj := ⟨(.type "builtin_function_or_method"), none, (.fields #[(.builtin "type.__prepare__"), (.type "type")]), #[]⟩
noncomputable def o57 (P : Params) : Obj := ⟨(.type "dict"), none, (.dict #[⟨(PyData.keyHash P "__module__"), (.str "__module__" 252), (.str "postkeep.errors" 187)⟩, ⟨(PyData.keyHash P "__qualname__"), (.str "__qualname__" 254), (.str "StoreFault" 253)⟩, ⟨(PyData.keyHash P "__firstlineno__"), (.str "__firstlineno__" 256), (.int 13 255)⟩, ⟨(PyData.keyHash P "__static_attributes__"), (.str "__static_attributes__" 257), (.ref 62)⟩] 4), #[]⟩
noncomputable def o58 (P : Params) : Obj := ⟨(.type "tuple"), none, (.seq #[] 0), #[]⟩
noncomputable def o59 (P : Params) : Obj := ⟨.none, none, (.fields #[]), #[]⟩
noncomputable def o60 (P : Params) : Obj := ⟨(.type "code"), none, (.fields #[(.str "StoreFault" 247), (.str "StoreFault" 248), (.str "/claim/cut.py" 249), (.int 13 0), (.int 0 0), (.int 0 0), (.int 0 0), (.int 0 0), (.ref 58), (.bool false), (.int 181 0), (.ref 59), .none, .none, .none, .none, (.int 250 0), (.int 13 0), (.str "/claim/cut.py" 251)]), #[]⟩
noncomputable def o61 (P : Params) : Obj := ⟨(.type "frame"), none, .plain, #[(some (.ref 60)), (some (.ref 3)), (some (.ref 57)), none, (some (.str "postkeep.errors" 187)), none, (some (.ref 0))]⟩
noncomputable def o62 (P : Params) : Obj := ⟨(.type "tuple"), none, (.seq #[] 0), #[]⟩
noncomputable def o63 (P : Params) : Obj := ⟨(.type "dict"), none, (.dict #[⟨(PyData.keyHash P "__module__"), (.str "__module__" 252), (.str "postkeep.errors" 187)⟩, ⟨(PyData.keyHash P "__firstlineno__"), (.str "__firstlineno__" 256), (.int 13 255)⟩, ⟨(PyData.keyHash P "__static_attributes__"), (.str "__static_attributes__" 257), (.ref 62)⟩, ⟨(PyData.keyHash P "__doc__"), (.str "__doc__" 258), .none⟩] 2), #[]⟩
noncomputable def o64 (P : Params) : Obj := ⟨(.type "type"), none, (.cls ⟨"StoreFault", [(.ref 39)], [(.ref 64), (.ref 39), (.type "Exception"), (.type "BaseException"), (.type "object")], 63, "StoreFault", true, [], [], false, none, false⟩), #[(some (.ref 55)), none, (some (.str "StoreFault" 245)), (some (.str "StoreFault" 253)), (some (.builtin "Exception.__new__")), (some (.bool true))]⟩
noncomputable def o65 (P : Params) : Obj := ⟨(.type "super"), none, (.fields #[(.ref 64), (.ref 64), (.ref 64)]), #[]⟩
noncomputable def o66 (P : Params) : Obj := ⟨(.type "builtin_function_or_method"), none, (.fields #[(.builtin "object.__init_subclass__"), (.ref 64)]), #[]⟩
noncomputable def o67 (P : Params) : Obj := ⟨(.type "tuple"), none, (.seq #[] 0), #[]⟩
noncomputable def o68 (P : Params) : Obj := ⟨.none, none, (.fields #[]), #[]⟩
noncomputable def o69 (P : Params) : Obj := ⟨(.type "tuple"), none, (.seq #[] 0), #[]⟩
noncomputable def o70 (P : Params) : Obj := ⟨(.type "tuple"), none, (.seq #[] 0), #[]⟩
noncomputable def o71 (P : Params) : Obj := ⟨.none, none, (.func ⟨"system_flags", "system_flags", (argsS (topS 8)), (.stmts (kidS (topS 8))), (scopeS (topS 8)), 0, [], .none, .none, .none, .none, none, .none, .none, 0⟩), #[]⟩
noncomputable def o72 (P : Params) : Obj := ⟨(.type "code"), none, (.fields #[(.str "system_flags" 269), (.str "system_flags" 270), (.str "/claim/cut.py" 271), (.int 19 0), (.int 0 0), (.int 0 0), (.int 0 0), (.int 3 0), (.ref 67), (.bool true), (.int 181 0), (.ref 68), .none, (.ref 69), (.ref 70), (.ref 71), (.int 272 0), (.int 19 0), (.str "/claim/cut.py" 273)]), #[]⟩
noncomputable def o73 (P : Params) : Obj := ⟨(.type "function"), none, (.func ⟨"system_flags", "system_flags", (argsS (topS 8)), (.stmts (kidS (topS 8))), (scopeS (topS 8)), 3, [], .none, .none, .none, (.str "postkeep.boxes" 261), none, (.ref 72), .none, 0⟩), #[]⟩
noncomputable def o74 (P : Params) : Obj := ⟨(.type "tuple"), none, (.seq #[] 0), #[]⟩
noncomputable def o75 (P : Params) : Obj := ⟨.none, none, (.fields #[]), #[]⟩
noncomputable def o76 (P : Params) : Obj := ⟨(.type "tuple"), none, (.seq #[(.str "text" 278), (.str "sign" 279)] 0), #[]⟩
noncomputable def o77 (P : Params) : Obj := ⟨(.type "tuple"), none, (.seq #[] 0), #[]⟩
noncomputable def o78 (P : Params) : Obj := ⟨.none, none, (.func ⟨"is_keyword", "is_keyword", (argsS (topS 9)), (.stmts (kidS (topS 9))), (scopeS (topS 9)), 0, [], .none, .none, .none, .none, none, .none, .none, 0⟩), #[]⟩
noncomputable def o79 (P : Params) : Obj := ⟨(.type "code"), none, (.fields #[(.str "is_keyword" 275), (.str "is_keyword" 276), (.str "/claim/cut.py" 277), (.int 21 0), (.int 1 0), (.int 0 0), (.int 0 0), (.int 3 0), (.ref 74), (.bool true), (.int 181 0), (.ref 75), .none, (.ref 76), (.ref 77), (.ref 78), (.int 280 0), (.int 21 0), (.str "/claim/cut.py" 281)]), #[]⟩
noncomputable def o80 (P : Params) : Obj := ⟨(.type "function"), none, (.func ⟨"is_keyword", "is_keyword", (argsS (topS 9)), (.stmts (kidS (topS 9))), (scopeS (topS 9)), 3, [], .none, .none, .none, (.str "postkeep.boxes" 261), none, (.ref 79), .none, 0⟩), #[]⟩
noncomputable def o81 (P : Params) : Obj := ⟨(.type "tuple"), none, (.seq #[] 0), #[]⟩
noncomputable def o82 (P : Params) : Obj := ⟨.none, none, (.fields #[]), #[]⟩
noncomputable def o83 (P : Params) : Obj := ⟨(.type "tuple"), none, (.seq #[(.str "text" 286), (.str "name" 287)] 0), #[]⟩
noncomputable def o84 (P : Params) : Obj := ⟨(.type "tuple"), none, (.seq #[] 0), #[]⟩
noncomputable def o85 (P : Params) : Obj := ⟨.none, none, (.func ⟨"flag_name", "flag_name", (argsS (topS 10)), (.stmts (kidS (topS 10))), (scopeS (topS 10)), 0, [], .none, .none, .none, .none, none, .none, .none, 0⟩), #[]⟩
noncomputable def o86 (P : Params) : Obj := ⟨(.type "code"), none, (.fields #[(.str "flag_name" 283), (.str "flag_name" 284), (.str "/claim/cut.py" 285), (.int 28 0), (.int 1 0), (.int 0 0), (.int 0 0), (.int 3 0), (.ref 81), (.bool true), (.int 181 0), (.ref 82), .none, (.ref 83), (.ref 84), (.ref 85), (.int 288 0), (.int 28 0), (.str "/claim/cut.py" 289)]), #[]⟩
noncomputable def o87 (P : Params) : Obj := ⟨(.type "function"), none, (.func ⟨"flag_name", "flag_name", (argsS (topS 10)), (.stmts (kidS (topS 10))), (scopeS (topS 10)), 3, [], .none, .none, .none, (.str "postkeep.boxes" 261), none, (.ref 86), .none, 0⟩), #[]⟩
noncomputable def o88 (P : Params) : Obj := ⟨(.type "tuple"), none, (.seq #[] 0), #[]⟩
noncomputable def o89 (P : Params) : Obj := ⟨.none, none, (.fields #[]), #[]⟩
noncomputable def o90 (P : Params) : Obj := ⟨(.type "tuple"), none, (.seq #[(.str "flags" 294), (.str "found" 295), (.str "text" 296), (.str "name" 297)] 0), #[]⟩
noncomputable def o91 (P : Params) : Obj := ⟨(.type "tuple"), none, (.seq #[] 0), #[]⟩
noncomputable def o92 (P : Params) : Obj := ⟨.none, none, (.func ⟨"flag_tuple", "flag_tuple", (argsS (topS 11)), (.stmts (kidS (topS 11))), (scopeS (topS 11)), 0, [], .none, .none, .none, .none, none, .none, .none, 0⟩), #[]⟩
noncomputable def o93 (P : Params) : Obj := ⟨(.type "code"), none, (.fields #[(.str "flag_tuple" 291), (.str "flag_tuple" 292), (.str "/claim/cut.py" 293), (.int 35 0), (.int 1 0), (.int 0 0), (.int 0 0), (.int 3 0), (.ref 88), (.bool true), (.int 181 0), (.ref 89), .none, (.ref 90), (.ref 91), (.ref 92), (.int 298 0), (.int 35 0), (.str "/claim/cut.py" 299)]), #[]⟩
noncomputable def o94 (P : Params) : Obj := ⟨(.type "function"), none, (.func ⟨"flag_tuple", "flag_tuple", (argsS (topS 11)), (.stmts (kidS (topS 11))), (scopeS (topS 11)), 3, [], .none, .none, .none, (.str "postkeep.boxes" 261), none, (.ref 93), .none, 0⟩), #[]⟩
noncomputable def o95 (P : Params) : Obj := ⟨(.type "tuple"), none, (.seq #[] 0), #[]⟩
noncomputable def o96 (P : Params) : Obj := ⟨(.type "builtin_function_or_method"), none, (.fields #[(.builtin "type.__prepare__"), (.type "type")]), #[]⟩
noncomputable def o97 (P : Params) : Obj := ⟨(.type "dict"), none, (.dict #[⟨(PyData.keyHash P "__module__"), (.str "__module__" 308), (.str "postkeep.boxes" 261)⟩, ⟨(PyData.keyHash P "__qualname__"), (.str "__qualname__" 310), (.str "Letter" 309)⟩, ⟨(PyData.keyHash P "__firstlineno__"), (.str "__firstlineno__" 312), (.int 42 311)⟩, ⟨(PyData.keyHash P "__init__"), (.str "__init__" 324), (.ref 108)⟩, ⟨(PyData.keyHash P "has"), (.str "has" 332), (.ref 115)⟩, ⟨(PyData.keyHash P "told"), (.str "told" 339), (.ref 122)⟩, ⟨(PyData.keyHash P "__static_attributes__"), (.str "__static_attributes__" 345), (.ref 123)⟩] 7), #[]⟩
noncomputable def o98 (P : Params) : Obj := ⟨(.type "tuple"), none, (.seq #[] 0), #[]⟩
noncomputable def o99 (P : Params) : Obj := ⟨.none, none, (.fields #[(.int 44 0), (.int 4 0), (.ref 107), (.int 51 0), (.int 4 0), (.ref 114), (.int 54 0), (.int 4 0), (.ref 121)]), #[]⟩
noncomputable def o100 (P : Params) : Obj := ⟨(.type "code"), none, (.fields #[(.str "Letter" 303), (.str "Letter" 304), (.str "/claim/cut.py" 305), (.int 42 0), (.int 0 0), (.int 0 0), (.int 0 0), (.int 0 0), (.ref 98), (.bool false), (.int 181 0), (.ref 99), .none, .none, .none, .none, (.int 306 0), (.int 42 0), (.str "/claim/cut.py" 307)]), #[]⟩
noncomputable def o101 (P : Params) : Obj := ⟨(.type "frame"), none, .plain, #[(some (.ref 100)), (some (.ref 3)), (some (.ref 97)), none, (some (.str "postkeep.boxes" 261)), none, (some (.ref 0))]⟩
noncomputable def o102 (P : Params) : Obj := ⟨(.type "tuple"), none, (.seq #[] 0), #[]⟩
noncomputable def o103 (P : Params) : Obj := ⟨.none, none, (.fields #[]), #[]⟩
noncomputable def o104 (P : Params) : Obj := ⟨(.type "tuple"), none, (.seq #[(.str "self" 316), (.str "uid" 317), (.str "octets" 318), (.str "flags" 319), (.str "instant" 320), (.str "modseq" 321)] 0), #[]⟩
noncomputable def o105 (P : Params) : Obj := ⟨(.type "tuple"), none, (.seq #[] 0), #[]⟩
noncomputable def o106 (P : Params) : Obj := ⟨.none, none, (.func ⟨"__init__", "Letter.__init__", (argsS (nthS (kidS (topS 12)) 0)), (.stmts (kidS (nthS (kidS (topS 12)) 0))), (scopeS (nthS (kidS (topS 12)) 0)), 0, [], .none, .none, .none, .none, none, .none, .none, 0⟩), #[]⟩
noncomputable def o107 (P : Params) : Obj := ⟨(.type "code"), none, (.fields #[(.str "__init__" 313), (.str "Letter.__init__" 314), (.str "/claim/cut.py" 315), (.int 44 0), (.int 6 0), (.int 0 0), (.int 0 0), (.int 3 0), (.ref 102), (.bool true), (.int 181 0), (.ref 103), .none, (.ref 104), (.ref 105), (.ref 106), (.int 322 0), (.int 44 0), (.str "/claim/cut.py" 323)]), #[]⟩
noncomputable def o108 (P : Params) : Obj := ⟨(.type "function"), none, (.func ⟨"__init__", "Letter.__init__", (argsS (nthS (kidS (topS 12)) 0)), (.stmts (kidS (nthS (kidS (topS 12)) 0))), (scopeS (nthS (kidS (topS 12)) 0)), 3, [], .none, .none, .none, (.str "postkeep.boxes" 261), none, (.ref 107), .none, 0⟩), #[]⟩
noncomputable def o109 (P : Params) : Obj := ⟨(.type "tuple"), none, (.seq #[] 0), #[]⟩
noncomputable def o110 (P : Params) : Obj := ⟨.none, none, (.fields #[]), #[]⟩
noncomputable def o111 (P : Params) : Obj := ⟨(.type "tuple"), none, (.seq #[(.str "self" 328), (.str "name" 329)] 0), #[]⟩
noncomputable def o112 (P : Params) : Obj := ⟨(.type "tuple"), none, (.seq #[] 0), #[]⟩
noncomputable def o113 (P : Params) : Obj := ⟨.none, none, (.func ⟨"has", "Letter.has", (argsS (nthS (kidS (topS 12)) 1)), (.stmts (kidS (nthS (kidS (topS 12)) 1))), (scopeS (nthS (kidS (topS 12)) 1)), 0, [], .none, .none, .none, .none, none, .none, .none, 0⟩), #[]⟩
noncomputable def o114 (P : Params) : Obj := ⟨(.type "code"), none, (.fields #[(.str "has" 325), (.str "Letter.has" 326), (.str "/claim/cut.py" 327), (.int 51 0), (.int 2 0), (.int 0 0), (.int 0 0), (.int 3 0), (.ref 109), (.bool true), (.int 181 0), (.ref 110), .none, (.ref 111), (.ref 112), (.ref 113), (.int 330 0), (.int 51 0), (.str "/claim/cut.py" 331)]), #[]⟩
noncomputable def o115 (P : Params) : Obj := ⟨(.type "function"), none, (.func ⟨"has", "Letter.has", (argsS (nthS (kidS (topS 12)) 1)), (.stmts (kidS (nthS (kidS (topS 12)) 1))), (scopeS (nthS (kidS (topS 12)) 1)), 3, [], .none, .none, .none, (.str "postkeep.boxes" 261), none, (.ref 114), .none, 0⟩), #[]⟩
noncomputable def o116 (P : Params) : Obj := ⟨(.type "tuple"), none, (.seq #[] 0), #[]⟩
noncomputable def o117 (P : Params) : Obj := ⟨.none, none, (.fields #[]), #[]⟩
noncomputable def o118 (P : Params) : Obj := ⟨(.type "tuple"), none, (.seq #[(.str "self" 336)] 0), #[]⟩
noncomputable def o119 (P : Params) : Obj := ⟨(.type "tuple"), none, (.seq #[] 0), #[]⟩
noncomputable def o120 (P : Params) : Obj := ⟨.none, none, (.func ⟨"told", "Letter.told", (argsS (nthS (kidS (topS 12)) 2)), (.stmts (kidS (nthS (kidS (topS 12)) 2))), (scopeS (nthS (kidS (topS 12)) 2)), 0, [], .none, .none, .none, .none, none, .none, .none, 0⟩), #[]⟩
noncomputable def o121 (P : Params) : Obj := ⟨(.type "code"), none, (.fields #[(.str "told" 333), (.str "Letter.told" 334), (.str "/claim/cut.py" 335), (.int 54 0), (.int 1 0), (.int 0 0), (.int 0 0), (.int 3 0), (.ref 116), (.bool true), (.int 181 0), (.ref 117), .none, (.ref 118), (.ref 119), (.ref 120), (.int 337 0), (.int 54 0), (.str "/claim/cut.py" 338)]), #[]⟩
noncomputable def o122 (P : Params) : Obj := ⟨(.type "function"), none, (.func ⟨"told", "Letter.told", (argsS (nthS (kidS (topS 12)) 2)), (.stmts (kidS (nthS (kidS (topS 12)) 2))), (scopeS (nthS (kidS (topS 12)) 2)), 3, [], .none, .none, .none, (.str "postkeep.boxes" 261), none, (.ref 121), .none, 0⟩), #[]⟩
noncomputable def o123 (P : Params) : Obj := ⟨(.type "tuple"), none, (.seq #[(.str "flags" 340), (.str "instant" 341), (.str "modseq" 342), (.str "octets" 343), (.str "uid" 344)] 0), #[]⟩
noncomputable def o124 (P : Params) : Obj := ⟨(.type "dict"), none, (.dict #[⟨(PyData.keyHash P "__module__"), (.str "__module__" 308), (.str "postkeep.boxes" 261)⟩, ⟨(PyData.keyHash P "__firstlineno__"), (.str "__firstlineno__" 312), (.int 42 311)⟩, ⟨(PyData.keyHash P "__init__"), (.str "__init__" 324), (.ref 108)⟩, ⟨(PyData.keyHash P "has"), (.str "has" 332), (.ref 115)⟩, ⟨(PyData.keyHash P "told"), (.str "told" 339), (.ref 122)⟩, ⟨(PyData.keyHash P "__static_attributes__"), (.str "__static_attributes__" 345), (.ref 123)⟩, ⟨(PyData.keyHash P "__dict__"), (.str "__dict__" 347), (.ref 126)⟩, ⟨(PyData.keyHash P "__weakref__"), (.str "__weakref__" 349), (.ref 127)⟩, ⟨(PyData.keyHash P "__doc__"), (.str "__doc__" 350), .none⟩] 4), #[]⟩
noncomputable def o125 (P : Params) : Obj := ⟨(.type "type"), none, (.cls ⟨"Letter", [(.type "object")], [(.ref 125), (.type "object")], 124, "Letter", true, [], [], false, none, false⟩), #[none, none, (some (.str "Letter" 301)), (some (.str "Letter" 309)), (some (.builtin "object.__new__")), (some (.bool true))]⟩
noncomputable def o126 (P : Params) : Obj := ⟨(.type "getset_descriptor"), none, (.fields #[(.str "__dict__" 346), (.ref 125), (.builtin "function.__dict__"), (.builtin "function.__dict__#set")]), #[]⟩
noncomputable def o127 (P : Params) : Obj := ⟨(.type "getset_descriptor"), none, (.fields #[(.str "__weakref__" 348), (.ref 125), (.builtin "ExceptionGroup.__weakref__"), .none]), #[]⟩
noncomputable def o128 (P : Params) : Obj := ⟨(.type "super"), none, (.fields #[(.ref 125), (.ref 125), (.ref 125)]), #[]⟩
noncomputable def o129 (P : Params) : Obj := ⟨(.type "builtin_function_or_method"), none, (.fields #[(.builtin "object.__init_subclass__"), (.ref 125)]), #[]⟩
noncomputable def o130 (P : Params) : Obj := ⟨(.type "tuple"), none, (.seq #[] 0), #[]⟩
noncomputable def o131 (P : Params) : Obj := ⟨(.type "builtin_function_or_method"), none, (.fields #[(.builtin "type.__prepare__"), (.type "type")]), #[]⟩
noncomputable def o132 (P : Params) : Obj := ⟨(.type "dict"), none, (.dict #[⟨(PyData.keyHash P "__module__"), (.str "__module__" 360), (.str "postkeep.boxes" 261)⟩, ⟨(PyData.keyHash P "__qualname__"), (.str "__qualname__" 362), (.str "Box" 361)⟩, ⟨(PyData.keyHash P "__firstlineno__"), (.str "__firstlineno__" 364), (.int 56 363)⟩, ⟨(PyData.keyHash P "__init__"), (.str "__init__" 373), (.ref 143)⟩, ⟨(PyData.keyHash P "letter"), (.str "letter" 382), (.ref 150)⟩, ⟨(PyData.keyHash P "uids"), (.str "uids" 388), (.ref 155)⟩, ⟨(PyData.keyHash P "told"), (.str "told" 394), (.ref 160)⟩, ⟨(PyData.keyHash P "__static_attributes__"), (.str "__static_attributes__" 402), (.ref 161)⟩] 8), #[]⟩
noncomputable def o133 (P : Params) : Obj := ⟨(.type "tuple"), none, (.seq #[] 0), #[]⟩
noncomputable def o134 (P : Params) : Obj := ⟨.none, none, (.fields #[(.int 58 0), (.int 4 0), (.ref 142), (.int 67 0), (.int 4 0), (.ref 149), (.int 71 0), (.int 4 0), (.ref 154), (.int 74 0), (.int 4 0), (.ref 159)]), #[]⟩
noncomputable def o135 (P : Params) : Obj := ⟨(.type "code"), none, (.fields #[(.str "Box" 355), (.str "Box" 356), (.str "/claim/cut.py" 357), (.int 56 0), (.int 0 0), (.int 0 0), (.int 0 0), (.int 0 0), (.ref 133), (.bool false), (.int 181 0), (.ref 134), .none, .none, .none, .none, (.int 358 0), (.int 56 0), (.str "/claim/cut.py" 359)]), #[]⟩
noncomputable def o136 (P : Params) : Obj := ⟨(.type "frame"), none, .plain, #[(some (.ref 135)), (some (.ref 3)), (some (.ref 132)), none, (some (.str "postkeep.boxes" 261)), none, (some (.ref 0))]⟩
noncomputable def o137 (P : Params) : Obj := ⟨(.type "tuple"), none, (.seq #[] 0), #[]⟩
noncomputable def o138 (P : Params) : Obj := ⟨.none, none, (.fields #[]), #[]⟩
noncomputable def o139 (P : Params) : Obj := ⟨(.type "tuple"), none, (.seq #[(.str "self" 368), (.str "name" 369), (.str "validity" 370)] 0), #[]⟩
noncomputable def o140 (P : Params) : Obj := ⟨(.type "tuple"), none, (.seq #[] 0), #[]⟩
noncomputable def o141 (P : Params) : Obj := ⟨.none, none, (.func ⟨"__init__", "Box.__init__", (argsS (nthS (kidS (topS 13)) 0)), (.stmts (kidS (nthS (kidS (topS 13)) 0))), (scopeS (nthS (kidS (topS 13)) 0)), 0, [], .none, .none, .none, .none, none, .none, .none, 0⟩), #[]⟩
noncomputable def o142 (P : Params) : Obj := ⟨(.type "code"), none, (.fields #[(.str "__init__" 365), (.str "Box.__init__" 366), (.str "/claim/cut.py" 367), (.int 58 0), (.int 3 0), (.int 0 0), (.int 0 0), (.int 3 0), (.ref 137), (.bool true), (.int 181 0), (.ref 138), .none, (.ref 139), (.ref 140), (.ref 141), (.int 371 0), (.int 58 0), (.str "/claim/cut.py" 372)]), #[]⟩
noncomputable def o143 (P : Params) : Obj := ⟨(.type "function"), none, (.func ⟨"__init__", "Box.__init__", (argsS (nthS (kidS (topS 13)) 0)), (.stmts (kidS (nthS (kidS (topS 13)) 0))), (scopeS (nthS (kidS (topS 13)) 0)), 3, [], .none, .none, .none, (.str "postkeep.boxes" 261), none, (.ref 142), .none, 0⟩), #[]⟩
noncomputable def o144 (P : Params) : Obj := ⟨(.type "tuple"), none, (.seq #[] 0), #[]⟩
noncomputable def o145 (P : Params) : Obj := ⟨.none, none, (.fields #[]), #[]⟩
noncomputable def o146 (P : Params) : Obj := ⟨(.type "tuple"), none, (.seq #[(.str "self" 377), (.str "uid" 378), (.str "at" 379)] 0), #[]⟩
noncomputable def o147 (P : Params) : Obj := ⟨(.type "tuple"), none, (.seq #[] 0), #[]⟩
noncomputable def o148 (P : Params) : Obj := ⟨.none, none, (.func ⟨"letter", "Box.letter", (argsS (nthS (kidS (topS 13)) 1)), (.stmts (kidS (nthS (kidS (topS 13)) 1))), (scopeS (nthS (kidS (topS 13)) 1)), 0, [], .none, .none, .none, .none, none, .none, .none, 0⟩), #[]⟩
noncomputable def o149 (P : Params) : Obj := ⟨(.type "code"), none, (.fields #[(.str "letter" 374), (.str "Box.letter" 375), (.str "/claim/cut.py" 376), (.int 67 0), (.int 2 0), (.int 0 0), (.int 0 0), (.int 3 0), (.ref 144), (.bool true), (.int 181 0), (.ref 145), .none, (.ref 146), (.ref 147), (.ref 148), (.int 380 0), (.int 67 0), (.str "/claim/cut.py" 381)]), #[]⟩
noncomputable def o150 (P : Params) : Obj := ⟨(.type "function"), none, (.func ⟨"letter", "Box.letter", (argsS (nthS (kidS (topS 13)) 1)), (.stmts (kidS (nthS (kidS (topS 13)) 1))), (scopeS (nthS (kidS (topS 13)) 1)), 3, [], .none, .none, .none, (.str "postkeep.boxes" 261), none, (.ref 149), .none, 0⟩), #[]⟩
noncomputable def o151 (P : Params) : Obj := ⟨(.type "tuple"), none, (.seq #[] 0), #[]⟩
noncomputable def o152 (P : Params) : Obj := ⟨.none, none, (.fields #[]), #[]⟩
noncomputable def o153 (P : Params) : Obj := ⟨.none, none, (.func ⟨"uids", "Box.uids", (argsS (nthS (kidS (topS 13)) 2)), (.stmts (kidS (nthS (kidS (topS 13)) 2))), (scopeS (nthS (kidS (topS 13)) 2)), 0, [], .none, .none, .none, .none, none, .none, .none, 0⟩), #[]⟩
noncomputable def o154 (P : Params) : Obj := ⟨(.type "code"), none, (.fields #[(.str "uids" 383), (.str "Box.uids" 384), (.str "/claim/cut.py" 385), (.int 71 0), (.int 1 0), (.int 0 0), (.int 0 0), (.int 3 0), (.ref 151), (.bool true), (.int 181 0), (.ref 152), .none, .none, .none, (.ref 153), (.int 386 0), (.int 71 0), (.str "/claim/cut.py" 387)]), #[]⟩
noncomputable def o155 (P : Params) : Obj := ⟨(.type "function"), none, (.func ⟨"uids", "Box.uids", (argsS (nthS (kidS (topS 13)) 2)), (.stmts (kidS (nthS (kidS (topS 13)) 2))), (scopeS (nthS (kidS (topS 13)) 2)), 3, [], .none, .none, .none, (.str "postkeep.boxes" 261), none, (.ref 154), .none, 0⟩), #[]⟩
noncomputable def o156 (P : Params) : Obj := ⟨(.type "tuple"), none, (.seq #[] 0), #[]⟩
noncomputable def o157 (P : Params) : Obj := ⟨.none, none, (.fields #[]), #[]⟩
noncomputable def o158 (P : Params) : Obj := ⟨.none, none, (.func ⟨"told", "Box.told", (argsS (nthS (kidS (topS 13)) 3)), (.stmts (kidS (nthS (kidS (topS 13)) 3))), (scopeS (nthS (kidS (topS 13)) 3)), 0, [], .none, .none, .none, .none, none, .none, .none, 0⟩), #[]⟩
noncomputable def o159 (P : Params) : Obj := ⟨(.type "code"), none, (.fields #[(.str "told" 389), (.str "Box.told" 390), (.str "/claim/cut.py" 391), (.int 74 0), (.int 1 0), (.int 0 0), (.int 0 0), (.int 3 0), (.ref 156), (.bool true), (.int 181 0), (.ref 157), .none, .none, .none, (.ref 158), (.int 392 0), (.int 74 0), (.str "/claim/cut.py" 393)]), #[]⟩
noncomputable def o160 (P : Params) : Obj := ⟨(.type "function"), none, (.func ⟨"told", "Box.told", (argsS (nthS (kidS (topS 13)) 3)), (.stmts (kidS (nthS (kidS (topS 13)) 3))), (scopeS (nthS (kidS (topS 13)) 3)), 3, [], .none, .none, .none, (.str "postkeep.boxes" 261), none, (.ref 159), .none, 0⟩), #[]⟩
noncomputable def o161 (P : Params) : Obj := ⟨(.type "tuple"), none, (.seq #[(.str "floor" 395), (.str "gone" 396), (.str "letters" 397), (.str "name" 398), (.str "next_uid" 399), (.str "top" 400), (.str "validity" 401)] 0), #[]⟩
noncomputable def o162 (P : Params) : Obj := ⟨(.type "dict"), none, (.dict #[⟨(PyData.keyHash P "__module__"), (.str "__module__" 360), (.str "postkeep.boxes" 261)⟩, ⟨(PyData.keyHash P "__firstlineno__"), (.str "__firstlineno__" 364), (.int 56 363)⟩, ⟨(PyData.keyHash P "__init__"), (.str "__init__" 373), (.ref 143)⟩, ⟨(PyData.keyHash P "letter"), (.str "letter" 382), (.ref 150)⟩, ⟨(PyData.keyHash P "uids"), (.str "uids" 388), (.ref 155)⟩, ⟨(PyData.keyHash P "told"), (.str "told" 394), (.ref 160)⟩, ⟨(PyData.keyHash P "__static_attributes__"), (.str "__static_attributes__" 402), (.ref 161)⟩, ⟨(PyData.keyHash P "__dict__"), (.str "__dict__" 404), (.ref 164)⟩, ⟨(PyData.keyHash P "__weakref__"), (.str "__weakref__" 406), (.ref 165)⟩, ⟨(PyData.keyHash P "__doc__"), (.str "__doc__" 407), .none⟩] 4), #[]⟩
noncomputable def o163 (P : Params) : Obj := ⟨(.type "type"), none, (.cls ⟨"Box", [(.type "object")], [(.ref 163), (.type "object")], 162, "Box", true, [], [], false, none, false⟩), #[none, none, (some (.str "Box" 353)), (some (.str "Box" 361)), (some (.builtin "object.__new__")), (some (.bool true))]⟩
noncomputable def o164 (P : Params) : Obj := ⟨(.type "getset_descriptor"), none, (.fields #[(.str "__dict__" 403), (.ref 163), (.builtin "function.__dict__"), (.builtin "function.__dict__#set")]), #[]⟩
noncomputable def o165 (P : Params) : Obj := ⟨(.type "getset_descriptor"), none, (.fields #[(.str "__weakref__" 405), (.ref 163), (.builtin "ExceptionGroup.__weakref__"), .none]), #[]⟩
noncomputable def o166 (P : Params) : Obj := ⟨(.type "super"), none, (.fields #[(.ref 163), (.ref 163), (.ref 163)]), #[]⟩
noncomputable def o167 (P : Params) : Obj := ⟨(.type "builtin_function_or_method"), none, (.fields #[(.builtin "object.__init_subclass__"), (.ref 163)]), #[]⟩
noncomputable def o168 (P : Params) : Obj := ⟨(.type "tuple"), none, (.seq #[] 0), #[]⟩
noncomputable def o169 (P : Params) : Obj := ⟨.none, none, (.fields #[]), #[]⟩
noncomputable def o170 (P : Params) : Obj := ⟨(.type "tuple"), none, (.seq #[(.str "letters" 413), (.str "uid" 414), (.str "low" 415), (.str "high" 416), (.str "middle" 417)] 0), #[]⟩
noncomputable def o171 (P : Params) : Obj := ⟨(.type "tuple"), none, (.seq #[] 0), #[]⟩
noncomputable def o172 (P : Params) : Obj := ⟨.none, none, (.func ⟨"place_of", "place_of", (argsS (topS 14)), (.stmts (kidS (topS 14))), (scopeS (topS 14)), 0, [], .none, .none, .none, .none, none, .none, .none, 0⟩), #[]⟩
noncomputable def o173 (P : Params) : Obj := ⟨(.type "code"), none, (.fields #[(.str "place_of" 410), (.str "place_of" 411), (.str "/claim/cut.py" 412), (.int 77 0), (.int 2 0), (.int 0 0), (.int 0 0), (.int 3 0), (.ref 168), (.bool true), (.int 181 0), (.ref 169), .none, (.ref 170), (.ref 171), (.ref 172), (.int 418 0), (.int 77 0), (.str "/claim/cut.py" 419)]), #[]⟩
noncomputable def o174 (P : Params) : Obj := ⟨(.type "function"), none, (.func ⟨"place_of", "place_of", (argsS (topS 14)), (.stmts (kidS (topS 14))), (scopeS (topS 14)), 3, [], .none, .none, .none, (.str "postkeep.boxes" 261), none, (.ref 173), .none, 0⟩), #[]⟩
noncomputable def o175 (P : Params) : Obj := ⟨(.type "tuple"), none, (.seq #[] 0), #[]⟩
noncomputable def o176 (P : Params) : Obj := ⟨.none, none, (.fields #[]), #[]⟩
noncomputable def o177 (P : Params) : Obj := ⟨(.type "tuple"), none, (.seq #[(.str "box" 424)] 0), #[]⟩
noncomputable def o178 (P : Params) : Obj := ⟨(.type "tuple"), none, (.seq #[] 0), #[]⟩
noncomputable def o179 (P : Params) : Obj := ⟨.none, none, (.func ⟨"raised", "raised", (argsS (topS 15)), (.stmts (kidS (topS 15))), (scopeS (topS 15)), 0, [], .none, .none, .none, .none, none, .none, .none, 0⟩), #[]⟩
noncomputable def o180 (P : Params) : Obj := ⟨(.type "code"), none, (.fields #[(.str "raised" 421), (.str "raised" 422), (.str "/claim/cut.py" 423), (.int 88 0), (.int 1 0), (.int 0 0), (.int 0 0), (.int 3 0), (.ref 175), (.bool true), (.int 181 0), (.ref 176), .none, (.ref 177), (.ref 178), (.ref 179), (.int 425 0), (.int 88 0), (.str "/claim/cut.py" 426)]), #[]⟩
noncomputable def o181 (P : Params) : Obj := ⟨(.type "function"), none, (.func ⟨"raised", "raised", (argsS (topS 15)), (.stmts (kidS (topS 15))), (scopeS (topS 15)), 3, [], .none, .none, .none, (.str "postkeep.boxes" 261), none, (.ref 180), .none, 0⟩), #[]⟩
noncomputable def o182 (P : Params) : Obj := ⟨(.type "tuple"), none, (.seq #[] 0), #[]⟩
noncomputable def o183 (P : Params) : Obj := ⟨.none, none, (.fields #[]), #[]⟩
noncomputable def o184 (P : Params) : Obj := ⟨(.type "tuple"), none, (.seq #[(.str "box" 431), (.str "octets" 432), (.str "flags" 433), (.str "instant" 434), (.str "names" 435), (.str "letter" 436)] 0), #[]⟩
noncomputable def o185 (P : Params) : Obj := ⟨(.type "tuple"), none, (.seq #[] 0), #[]⟩
noncomputable def o186 (P : Params) : Obj := ⟨.none, none, (.func ⟨"add_letter", "add_letter", (argsS (topS 16)), (.stmts (kidS (topS 16))), (scopeS (topS 16)), 0, [], .none, .none, .none, .none, none, .none, .none, 0⟩), #[]⟩
noncomputable def o187 (P : Params) : Obj := ⟨(.type "code"), none, (.fields #[(.str "add_letter" 428), (.str "add_letter" 429), (.str "/claim/cut.py" 430), (.int 91 0), (.int 4 0), (.int 0 0), (.int 0 0), (.int 3 0), (.ref 182), (.bool true), (.int 181 0), (.ref 183), .none, (.ref 184), (.ref 185), (.ref 186), (.int 437 0), (.int 91 0), (.str "/claim/cut.py" 438)]), #[]⟩
noncomputable def o188 (P : Params) : Obj := ⟨(.type "function"), none, (.func ⟨"add_letter", "add_letter", (argsS (topS 16)), (.stmts (kidS (topS 16))), (scopeS (topS 16)), 3, [], .none, .none, .none, (.str "postkeep.boxes" 261), none, (.ref 187), .none, 0⟩), #[]⟩
noncomputable def o189 (P : Params) : Obj := ⟨(.type "tuple"), none, (.seq #[] 0), #[]⟩
noncomputable def o190 (P : Params) : Obj := ⟨.none, none, (.fields #[]), #[]⟩
noncomputable def o191 (P : Params) : Obj := ⟨.none, none, (.func ⟨"expunge", "expunge", (argsS (topS 17)), (.stmts (kidS (topS 17))), (scopeS (topS 17)), 0, [], .none, .none, .none, .none, none, .none, .none, 0⟩), #[]⟩
noncomputable def o192 (P : Params) : Obj := ⟨(.type "code"), none, (.fields #[(.str "expunge" 440), (.str "expunge" 441), (.str "/claim/cut.py" 442), (.int 97 0), (.int 2 0), (.int 0 0), (.int 0 0), (.int 3 0), (.ref 189), (.bool true), (.int 181 0), (.ref 190), .none, .none, .none, (.ref 191), (.int 443 0), (.int 97 0), (.str "/claim/cut.py" 444)]), #[]⟩
noncomputable def o193 (P : Params) : Obj := ⟨(.type "function"), none, (.func ⟨"expunge", "expunge", (argsS (topS 17)), (.stmts (kidS (topS 17))), (scopeS (topS 17)), 3, [], .none, .none, .none, (.str "postkeep.boxes" 261), none, (.ref 192), .none, 0⟩), #[]⟩
noncomputable def o194 (P : Params) : Obj := ⟨(.type "tuple"), none, (.seq #[] 0), #[]⟩
noncomputable def o195 (P : Params) : Obj := ⟨.none, none, (.fields #[]), #[]⟩
noncomputable def o196 (P : Params) : Obj := ⟨.none, none, (.func ⟨"copy_letters", "copy_letters", (argsS (topS 18)), (.stmts (kidS (topS 18))), (scopeS (topS 18)), 0, [], .none, .none, .none, .none, none, .none, .none, 0⟩), #[]⟩
noncomputable def o197 (P : Params) : Obj := ⟨(.type "code"), none, (.fields #[(.str "copy_letters" 446), (.str "copy_letters" 447), (.str "/claim/cut.py" 448), (.int 108 0), (.int 3 0), (.int 0 0), (.int 0 0), (.int 3 0), (.ref 194), (.bool true), (.int 181 0), (.ref 195), .none, .none, .none, (.ref 196), (.int 449 0), (.int 108 0), (.str "/claim/cut.py" 450)]), #[]⟩
noncomputable def o198 (P : Params) : Obj := ⟨(.type "function"), none, (.func ⟨"copy_letters", "copy_letters", (argsS (topS 18)), (.stmts (kidS (topS 18))), (scopeS (topS 18)), 3, [], .none, .none, .none, (.str "postkeep.boxes" 261), none, (.ref 197), .none, 0⟩), #[]⟩
noncomputable def o199 (P : Params) : Obj := ⟨(.type "tuple"), none, (.seq #[] 0), #[]⟩
noncomputable def o200 (P : Params) : Obj := ⟨.none, none, (.fields #[]), #[]⟩
noncomputable def o201 (P : Params) : Obj := ⟨.none, none, (.func ⟨"move_letters", "move_letters", (argsS (topS 19)), (.stmts (kidS (topS 19))), (scopeS (topS 19)), 0, [], .none, .none, .none, .none, none, .none, .none, 0⟩), #[]⟩
noncomputable def o202 (P : Params) : Obj := ⟨(.type "code"), none, (.fields #[(.str "move_letters" 452), (.str "move_letters" 453), (.str "/claim/cut.py" 454), (.int 115 0), (.int 3 0), (.int 0 0), (.int 0 0), (.int 3 0), (.ref 199), (.bool true), (.int 181 0), (.ref 200), .none, .none, .none, (.ref 201), (.int 455 0), (.int 115 0), (.str "/claim/cut.py" 456)]), #[]⟩
noncomputable def o203 (P : Params) : Obj := ⟨(.type "function"), none, (.func ⟨"move_letters", "move_letters", (argsS (topS 19)), (.stmts (kidS (topS 19))), (scopeS (topS 19)), 3, [], .none, .none, .none, (.str "postkeep.boxes" 261), none, (.ref 202), .none, 0⟩), #[]⟩
noncomputable def o204 (P : Params) : Obj := ⟨(.type "tuple"), none, (.seq #[] 0), #[]⟩
noncomputable def o205 (P : Params) : Obj := ⟨.none, none, (.fields #[]), #[]⟩
noncomputable def o206 (P : Params) : Obj := ⟨.none, none, (.func ⟨"upper_text", "upper_text", (argsS (topS 21)), (.stmts (kidS (topS 21))), (scopeS (topS 21)), 0, [], .none, .none, .none, .none, none, .none, .none, 0⟩), #[]⟩
noncomputable def o207 (P : Params) : Obj := ⟨(.type "code"), none, (.fields #[(.str "upper_text" 460), (.str "upper_text" 461), (.str "/claim/cut.py" 462), (.int 120 0), (.int 1 0), (.int 0 0), (.int 0 0), (.int 3 0), (.ref 204), (.bool true), (.int 181 0), (.ref 205), .none, .none, .none, (.ref 206), (.int 463 0), (.int 120 0), (.str "/claim/cut.py" 464)]), #[]⟩
noncomputable def o208 (P : Params) : Obj := ⟨(.type "function"), none, (.func ⟨"upper_text", "upper_text", (argsS (topS 21)), (.stmts (kidS (topS 21))), (scopeS (topS 21)), 3, [], .none, .none, .none, (.str "postkeep.octets" 458), none, (.ref 207), .none, 0⟩), #[]⟩
noncomputable def o209 (P : Params) : Obj := ⟨(.type "tuple"), none, (.seq #[] 0), #[]⟩
noncomputable def o210 (P : Params) : Obj := ⟨.none, none, (.fields #[]), #[]⟩
noncomputable def o211 (P : Params) : Obj := ⟨(.type "tuple"), none, (.seq #[(.str "code" 477)] 0), #[]⟩
noncomputable def o212 (P : Params) : Obj := ⟨(.type "tuple"), none, (.seq #[] 0), #[]⟩
noncomputable def o213 (P : Params) : Obj := ⟨.none, none, (.func ⟨"is_half", "is_half", (argsS (topS 26)), (.stmts (kidS (topS 26))), (scopeS (topS 26)), 0, [], .none, .none, .none, .none, none, .none, .none, 0⟩), #[]⟩
noncomputable def o214 (P : Params) : Obj := ⟨(.type "code"), none, (.fields #[(.str "is_half" 474), (.str "is_half" 475), (.str "/claim/cut.py" 476), (.int 126 0), (.int 1 0), (.int 0 0), (.int 0 0), (.int 3 0), (.ref 209), (.bool true), (.int 181 0), (.ref 210), .none, (.ref 211), (.ref 212), (.ref 213), (.int 478 0), (.int 126 0), (.str "/claim/cut.py" 479)]), #[]⟩
noncomputable def o215 (P : Params) : Obj := ⟨(.type "function"), none, (.func ⟨"is_half", "is_half", (argsS (topS 26)), (.stmts (kidS (topS 26))), (scopeS (topS 26)), 3, [], .none, .none, .none, (.str "postkeep.names" 466), none, (.ref 214), .none, 0⟩), #[]⟩
noncomputable def o216 (P : Params) : Obj := ⟨(.type "tuple"), none, (.seq #[] 0), #[]⟩
noncomputable def o217 (P : Params) : Obj := ⟨.none, none, (.fields #[]), #[]⟩
noncomputable def o218 (P : Params) : Obj := ⟨(.type "tuple"), none, (.seq #[(.str "text" 484), (.str "end" 485)] 0), #[]⟩
noncomputable def o219 (P : Params) : Obj := ⟨(.type "tuple"), none, (.seq #[] 0), #[]⟩
noncomputable def o220 (P : Params) : Obj := ⟨.none, none, (.func ⟨"first_part", "first_part", (argsS (topS 27)), (.stmts (kidS (topS 27))), (scopeS (topS 27)), 0, [], .none, .none, .none, .none, none, .none, .none, 0⟩), #[]⟩
noncomputable def o221 (P : Params) : Obj := ⟨(.type "code"), none, (.fields #[(.str "first_part" 481), (.str "first_part" 482), (.str "/claim/cut.py" 483), (.int 128 0), (.int 1 0), (.int 0 0), (.int 0 0), (.int 3 0), (.ref 216), (.bool true), (.int 181 0), (.ref 217), .none, (.ref 218), (.ref 219), (.ref 220), (.int 486 0), (.int 128 0), (.str "/claim/cut.py" 487)]), #[]⟩
noncomputable def o222 (P : Params) : Obj := ⟨(.type "function"), none, (.func ⟨"first_part", "first_part", (argsS (topS 27)), (.stmts (kidS (topS 27))), (scopeS (topS 27)), 3, [], .none, .none, .none, (.str "postkeep.names" 466), none, (.ref 221), .none, 0⟩), #[]⟩
noncomputable def o223 (P : Params) : Obj := ⟨(.type "tuple"), none, (.seq #[] 0), #[]⟩
noncomputable def o224 (P : Params) : Obj := ⟨.none, none, (.fields #[]), #[]⟩
noncomputable def o225 (P : Params) : Obj := ⟨(.type "tuple"), none, (.seq #[(.str "text" 492), (.str "head" 493), (.str "rest" 494)] 0), #[]⟩
noncomputable def o226 (P : Params) : Obj := ⟨(.type "tuple"), none, (.seq #[] 0), #[]⟩
noncomputable def o227 (P : Params) : Obj := ⟨.none, none, (.func ⟨"normal_name", "normal_name", (argsS (topS 28)), (.stmts (kidS (topS 28))), (scopeS (topS 28)), 0, [], .none, .none, .none, .none, none, .none, .none, 0⟩), #[]⟩
noncomputable def o228 (P : Params) : Obj := ⟨(.type "code"), none, (.fields #[(.str "normal_name" 489), (.str "normal_name" 490), (.str "/claim/cut.py" 491), (.int 133 0), (.int 1 0), (.int 0 0), (.int 0 0), (.int 3 0), (.ref 223), (.bool true), (.int 181 0), (.ref 224), .none, (.ref 225), (.ref 226), (.ref 227), (.int 495 0), (.int 133 0), (.str "/claim/cut.py" 496)]), #[]⟩
noncomputable def o229 (P : Params) : Obj := ⟨(.type "function"), none, (.func ⟨"normal_name", "normal_name", (argsS (topS 28)), (.stmts (kidS (topS 28))), (scopeS (topS 28)), 3, [], .none, .none, .none, (.str "postkeep.names" 466), none, (.ref 228), .none, 0⟩), #[]⟩
noncomputable def o230 (P : Params) : Obj := ⟨(.type "tuple"), none, (.seq #[] 0), #[]⟩
noncomputable def o231 (P : Params) : Obj := ⟨.none, none, (.fields #[]), #[]⟩
noncomputable def o232 (P : Params) : Obj := ⟨(.type "tuple"), none, (.seq #[(.str "code" 501)] 0), #[]⟩
noncomputable def o233 (P : Params) : Obj := ⟨(.type "tuple"), none, (.seq #[] 0), #[]⟩
noncomputable def o234 (P : Params) : Obj := ⟨.none, none, (.func ⟨"is_barred_code", "is_barred_code", (argsS (topS 29)), (.stmts (kidS (topS 29))), (scopeS (topS 29)), 0, [], .none, .none, .none, .none, none, .none, .none, 0⟩), #[]⟩
noncomputable def o235 (P : Params) : Obj := ⟨(.type "code"), none, (.fields #[(.str "is_barred_code" 498), (.str "is_barred_code" 499), (.str "/claim/cut.py" 500), (.int 138 0), (.int 1 0), (.int 0 0), (.int 0 0), (.int 3 0), (.ref 230), (.bool true), (.int 181 0), (.ref 231), .none, (.ref 232), (.ref 233), (.ref 234), (.int 502 0), (.int 138 0), (.str "/claim/cut.py" 503)]), #[]⟩
noncomputable def o236 (P : Params) : Obj := ⟨(.type "function"), none, (.func ⟨"is_barred_code", "is_barred_code", (argsS (topS 29)), (.stmts (kidS (topS 29))), (scopeS (topS 29)), 3, [], .none, .none, .none, (.str "postkeep.names" 466), none, (.ref 235), .none, 0⟩), #[]⟩
noncomputable def o237 (P : Params) : Obj := ⟨(.type "tuple"), none, (.seq #[] 0), #[]⟩
noncomputable def o238 (P : Params) : Obj := ⟨.none, none, (.fields #[]), #[]⟩
noncomputable def o239 (P : Params) : Obj := ⟨(.type "tuple"), none, (.seq #[(.str "text" 508), (.str "begin" 509), (.str "at" 510), (.str "sign" 511)] 0), #[]⟩
noncomputable def o240 (P : Params) : Obj := ⟨(.type "tuple"), none, (.seq #[] 0), #[]⟩
noncomputable def o241 (P : Params) : Obj := ⟨.none, none, (.func ⟨"check_name", "check_name", (argsS (topS 30)), (.stmts (kidS (topS 30))), (scopeS (topS 30)), 0, [], .none, .none, .none, .none, none, .none, .none, 0⟩), #[]⟩
noncomputable def o242 (P : Params) : Obj := ⟨(.type "code"), none, (.fields #[(.str "check_name" 505), (.str "check_name" 506), (.str "/claim/cut.py" 507), (.int 140 0), (.int 1 0), (.int 0 0), (.int 0 0), (.int 3 0), (.ref 237), (.bool true), (.int 181 0), (.ref 238), .none, (.ref 239), (.ref 240), (.ref 241), (.int 512 0), (.int 140 0), (.str "/claim/cut.py" 513)]), #[]⟩
noncomputable def o243 (P : Params) : Obj := ⟨(.type "function"), none, (.func ⟨"check_name", "check_name", (argsS (topS 30)), (.stmts (kidS (topS 30))), (scopeS (topS 30)), 3, [], .none, .none, .none, (.str "postkeep.names" 466), none, (.ref 242), .none, 0⟩), #[]⟩
noncomputable def o244 (P : Params) : Obj := ⟨(.type "tuple"), none, (.seq #[] 0), #[]⟩
noncomputable def o245 (P : Params) : Obj := ⟨.none, none, (.fields #[]), #[]⟩
noncomputable def o246 (P : Params) : Obj := ⟨(.type "tuple"), none, (.seq #[(.str "name" 518), (.str "parent" 519)] 0), #[]⟩
noncomputable def o247 (P : Params) : Obj := ⟨(.type "tuple"), none, (.seq #[] 0), #[]⟩
noncomputable def o248 (P : Params) : Obj := ⟨.none, none, (.func ⟨"is_below", "is_below", (argsS (topS 31)), (.stmts (kidS (topS 31))), (scopeS (topS 31)), 0, [], .none, .none, .none, .none, none, .none, .none, 0⟩), #[]⟩
noncomputable def o249 (P : Params) : Obj := ⟨(.type "code"), none, (.fields #[(.str "is_below" 515), (.str "is_below" 516), (.str "/claim/cut.py" 517), (.int 155 0), (.int 2 0), (.int 0 0), (.int 0 0), (.int 3 0), (.ref 244), (.bool true), (.int 181 0), (.ref 245), .none, (.ref 246), (.ref 247), (.ref 248), (.int 520 0), (.int 155 0), (.str "/claim/cut.py" 521)]), #[]⟩
noncomputable def o250 (P : Params) : Obj := ⟨(.type "function"), none, (.func ⟨"is_below", "is_below", (argsS (topS 31)), (.stmts (kidS (topS 31))), (scopeS (topS 31)), 3, [], .none, .none, .none, (.str "postkeep.names" 466), none, (.ref 249), .none, 0⟩), #[]⟩
noncomputable def o251 (P : Params) : Obj := ⟨(.type "tuple"), none, (.seq #[] 0), #[]⟩
noncomputable def o252 (P : Params) : Obj := ⟨(.type "builtin_function_or_method"), none, (.fields #[(.builtin "type.__prepare__"), (.type "type")]), #[]⟩
noncomputable def o253 (P : Params) : Obj := ⟨(.type "dict"), none, (.dict #[⟨(PyData.keyHash P "__module__"), (.str "__module__" 538), (.str "postkeep.store" 523)⟩, ⟨(PyData.keyHash P "__qualname__"), (.str "__qualname__" 540), (.str "Store" 539)⟩, ⟨(PyData.keyHash P "__firstlineno__"), (.str "__firstlineno__" 542), (.int 161 541)⟩, ⟨(PyData.keyHash P "__init__"), (.str "__init__" 549), (.ref 264)⟩, ⟨(PyData.keyHash P "has"), (.str "has" 557), (.ref 271)⟩, ⟨(PyData.keyHash P "box"), (.str "box" 566), (.ref 278)⟩, ⟨(PyData.keyHash P "names"), (.str "names" 573), (.ref 285)⟩, ⟨(PyData.keyHash P "told"), (.str "told" 579), (.ref 290)⟩, ⟨(PyData.keyHash P "__static_attributes__"), (.str "__static_attributes__" 583), (.ref 291)⟩] 9), #[]⟩
noncomputable def o254 (P : Params) : Obj := ⟨(.type "tuple"), none, (.seq #[] 0), #[]⟩
noncomputable def o255 (P : Params) : Obj := ⟨.none, none, (.fields #[(.int 163 0), (.int 4 0), (.ref 263), (.int 168 0), (.int 4 0), (.ref 270), (.int 171 0), (.int 4 0), (.ref 277), (.int 177 0), (.int 4 0), (.ref 284), (.int 180 0), (.int 4 0), (.ref 289)]), #[]⟩
noncomputable def o256 (P : Params) : Obj := ⟨(.type "code"), none, (.fields #[(.str "Store" 533), (.str "Store" 534), (.str "/claim/cut.py" 535), (.int 161 0), (.int 0 0), (.int 0 0), (.int 0 0), (.int 0 0), (.ref 254), (.bool false), (.int 181 0), (.ref 255), .none, .none, .none, .none, (.int 536 0), (.int 161 0), (.str "/claim/cut.py" 537)]), #[]⟩
noncomputable def o257 (P : Params) : Obj := ⟨(.type "frame"), none, .plain, #[(some (.ref 256)), (some (.ref 3)), (some (.ref 253)), none, (some (.str "postkeep.store" 523)), none, (some (.ref 0))]⟩
noncomputable def o258 (P : Params) : Obj := ⟨(.type "tuple"), none, (.seq #[] 0), #[]⟩
noncomputable def o259 (P : Params) : Obj := ⟨.none, none, (.fields #[]), #[]⟩
noncomputable def o260 (P : Params) : Obj := ⟨(.type "tuple"), none, (.seq #[(.str "self" 546)] 0), #[]⟩
noncomputable def o261 (P : Params) : Obj := ⟨(.type "tuple"), none, (.seq #[] 0), #[]⟩
noncomputable def o262 (P : Params) : Obj := ⟨.none, none, (.func ⟨"__init__", "Store.__init__", (argsS (nthS (kidS (topS 36)) 0)), (.stmts (kidS (nthS (kidS (topS 36)) 0))), (scopeS (nthS (kidS (topS 36)) 0)), 0, [], .none, .none, .none, .none, none, .none, .none, 0⟩), #[]⟩
noncomputable def o263 (P : Params) : Obj := ⟨(.type "code"), none, (.fields #[(.str "__init__" 543), (.str "Store.__init__" 544), (.str "/claim/cut.py" 545), (.int 163 0), (.int 1 0), (.int 0 0), (.int 0 0), (.int 3 0), (.ref 258), (.bool true), (.int 181 0), (.ref 259), .none, (.ref 260), (.ref 261), (.ref 262), (.int 547 0), (.int 163 0), (.str "/claim/cut.py" 548)]), #[]⟩
noncomputable def o264 (P : Params) : Obj := ⟨(.type "function"), none, (.func ⟨"__init__", "Store.__init__", (argsS (nthS (kidS (topS 36)) 0)), (.stmts (kidS (nthS (kidS (topS 36)) 0))), (scopeS (nthS (kidS (topS 36)) 0)), 3, [], .none, .none, .none, (.str "postkeep.store" 523), none, (.ref 263), .none, 0⟩), #[]⟩
noncomputable def o265 (P : Params) : Obj := ⟨(.type "tuple"), none, (.seq #[] 0), #[]⟩
noncomputable def o266 (P : Params) : Obj := ⟨.none, none, (.fields #[]), #[]⟩
noncomputable def o267 (P : Params) : Obj := ⟨(.type "tuple"), none, (.seq #[(.str "self" 553), (.str "name" 554)] 0), #[]⟩
noncomputable def o268 (P : Params) : Obj := ⟨(.type "tuple"), none, (.seq #[] 0), #[]⟩
noncomputable def o269 (P : Params) : Obj := ⟨.none, none, (.func ⟨"has", "Store.has", (argsS (nthS (kidS (topS 36)) 1)), (.stmts (kidS (nthS (kidS (topS 36)) 1))), (scopeS (nthS (kidS (topS 36)) 1)), 0, [], .none, .none, .none, .none, none, .none, .none, 0⟩), #[]⟩
noncomputable def o270 (P : Params) : Obj := ⟨(.type "code"), none, (.fields #[(.str "has" 550), (.str "Store.has" 551), (.str "/claim/cut.py" 552), (.int 168 0), (.int 2 0), (.int 0 0), (.int 0 0), (.int 3 0), (.ref 265), (.bool true), (.int 181 0), (.ref 266), .none, (.ref 267), (.ref 268), (.ref 269), (.int 555 0), (.int 168 0), (.str "/claim/cut.py" 556)]), #[]⟩
noncomputable def o271 (P : Params) : Obj := ⟨(.type "function"), none, (.func ⟨"has", "Store.has", (argsS (nthS (kidS (topS 36)) 1)), (.stmts (kidS (nthS (kidS (topS 36)) 1))), (scopeS (nthS (kidS (topS 36)) 1)), 3, [], .none, .none, .none, (.str "postkeep.store" 523), none, (.ref 270), .none, 0⟩), #[]⟩
noncomputable def o272 (P : Params) : Obj := ⟨(.type "tuple"), none, (.seq #[] 0), #[]⟩
noncomputable def o273 (P : Params) : Obj := ⟨.none, none, (.fields #[]), #[]⟩
noncomputable def o274 (P : Params) : Obj := ⟨(.type "tuple"), none, (.seq #[(.str "self" 561), (.str "name" 562), (.str "found" 563)] 0), #[]⟩
noncomputable def o275 (P : Params) : Obj := ⟨(.type "tuple"), none, (.seq #[] 0), #[]⟩
noncomputable def o276 (P : Params) : Obj := ⟨.none, none, (.func ⟨"box", "Store.box", (argsS (nthS (kidS (topS 36)) 2)), (.stmts (kidS (nthS (kidS (topS 36)) 2))), (scopeS (nthS (kidS (topS 36)) 2)), 0, [], .none, .none, .none, .none, none, .none, .none, 0⟩), #[]⟩
noncomputable def o277 (P : Params) : Obj := ⟨(.type "code"), none, (.fields #[(.str "box" 558), (.str "Store.box" 559), (.str "/claim/cut.py" 560), (.int 171 0), (.int 2 0), (.int 0 0), (.int 0 0), (.int 3 0), (.ref 272), (.bool true), (.int 181 0), (.ref 273), .none, (.ref 274), (.ref 275), (.ref 276), (.int 564 0), (.int 171 0), (.str "/claim/cut.py" 565)]), #[]⟩
noncomputable def o278 (P : Params) : Obj := ⟨(.type "function"), none, (.func ⟨"box", "Store.box", (argsS (nthS (kidS (topS 36)) 2)), (.stmts (kidS (nthS (kidS (topS 36)) 2))), (scopeS (nthS (kidS (topS 36)) 2)), 3, [], .none, .none, .none, (.str "postkeep.store" 523), none, (.ref 277), .none, 0⟩), #[]⟩
noncomputable def o279 (P : Params) : Obj := ⟨(.type "tuple"), none, (.seq #[] 0), #[]⟩
noncomputable def o280 (P : Params) : Obj := ⟨.none, none, (.fields #[]), #[]⟩
noncomputable def o281 (P : Params) : Obj := ⟨(.type "tuple"), none, (.seq #[(.str "self" 570)] 0), #[]⟩
noncomputable def o282 (P : Params) : Obj := ⟨(.type "tuple"), none, (.seq #[] 0), #[]⟩
noncomputable def o283 (P : Params) : Obj := ⟨.none, none, (.func ⟨"names", "Store.names", (argsS (nthS (kidS (topS 36)) 3)), (.stmts (kidS (nthS (kidS (topS 36)) 3))), (scopeS (nthS (kidS (topS 36)) 3)), 0, [], .none, .none, .none, .none, none, .none, .none, 0⟩), #[]⟩
noncomputable def o284 (P : Params) : Obj := ⟨(.type "code"), none, (.fields #[(.str "names" 567), (.str "Store.names" 568), (.str "/claim/cut.py" 569), (.int 177 0), (.int 1 0), (.int 0 0), (.int 0 0), (.int 3 0), (.ref 279), (.bool true), (.int 181 0), (.ref 280), .none, (.ref 281), (.ref 282), (.ref 283), (.int 571 0), (.int 177 0), (.str "/claim/cut.py" 572)]), #[]⟩
noncomputable def o285 (P : Params) : Obj := ⟨(.type "function"), none, (.func ⟨"names", "Store.names", (argsS (nthS (kidS (topS 36)) 3)), (.stmts (kidS (nthS (kidS (topS 36)) 3))), (scopeS (nthS (kidS (topS 36)) 3)), 3, [], .none, .none, .none, (.str "postkeep.store" 523), none, (.ref 284), .none, 0⟩), #[]⟩
noncomputable def o286 (P : Params) : Obj := ⟨(.type "tuple"), none, (.seq #[] 0), #[]⟩
noncomputable def o287 (P : Params) : Obj := ⟨.none, none, (.fields #[]), #[]⟩
noncomputable def o288 (P : Params) : Obj := ⟨.none, none, (.func ⟨"told", "Store.told", (argsS (nthS (kidS (topS 36)) 4)), (.stmts (kidS (nthS (kidS (topS 36)) 4))), (scopeS (nthS (kidS (topS 36)) 4)), 0, [], .none, .none, .none, .none, none, .none, .none, 0⟩), #[]⟩
noncomputable def o289 (P : Params) : Obj := ⟨(.type "code"), none, (.fields #[(.str "told" 574), (.str "Store.told" 575), (.str "/claim/cut.py" 576), (.int 180 0), (.int 1 0), (.int 0 0), (.int 0 0), (.int 3 0), (.ref 286), (.bool true), (.int 181 0), (.ref 287), .none, .none, .none, (.ref 288), (.int 577 0), (.int 180 0), (.str "/claim/cut.py" 578)]), #[]⟩
noncomputable def o290 (P : Params) : Obj := ⟨(.type "function"), none, (.func ⟨"told", "Store.told", (argsS (nthS (kidS (topS 36)) 4)), (.stmts (kidS (nthS (kidS (topS 36)) 4))), (scopeS (nthS (kidS (topS 36)) 4)), 3, [], .none, .none, .none, (.str "postkeep.store" 523), none, (.ref 289), .none, 0⟩), #[]⟩
noncomputable def o291 (P : Params) : Obj := ⟨(.type "tuple"), none, (.seq #[(.str "boxes" 580), (.str "next_validity" 581), (.str "subscribed" 582)] 0), #[]⟩
noncomputable def o292 (P : Params) : Obj := ⟨(.type "dict"), none, (.dict #[⟨(PyData.keyHash P "__module__"), (.str "__module__" 538), (.str "postkeep.store" 523)⟩, ⟨(PyData.keyHash P "__firstlineno__"), (.str "__firstlineno__" 542), (.int 161 541)⟩, ⟨(PyData.keyHash P "__init__"), (.str "__init__" 549), (.ref 264)⟩, ⟨(PyData.keyHash P "has"), (.str "has" 557), (.ref 271)⟩, ⟨(PyData.keyHash P "box"), (.str "box" 566), (.ref 278)⟩, ⟨(PyData.keyHash P "names"), (.str "names" 573), (.ref 285)⟩, ⟨(PyData.keyHash P "told"), (.str "told" 579), (.ref 290)⟩, ⟨(PyData.keyHash P "__static_attributes__"), (.str "__static_attributes__" 583), (.ref 291)⟩, ⟨(PyData.keyHash P "__dict__"), (.str "__dict__" 585), (.ref 294)⟩, ⟨(PyData.keyHash P "__weakref__"), (.str "__weakref__" 587), (.ref 295)⟩, ⟨(PyData.keyHash P "__doc__"), (.str "__doc__" 588), .none⟩] 4), #[]⟩
noncomputable def o293 (P : Params) : Obj := ⟨(.type "type"), none, (.cls ⟨"Store", [(.type "object")], [(.ref 293), (.type "object")], 292, "Store", true, [], [], false, none, false⟩), #[none, none, (some (.str "Store" 531)), (some (.str "Store" 539)), (some (.builtin "object.__new__")), (some (.bool true))]⟩
noncomputable def o294 (P : Params) : Obj := ⟨(.type "getset_descriptor"), none, (.fields #[(.str "__dict__" 584), (.ref 293), (.builtin "function.__dict__"), (.builtin "function.__dict__#set")]), #[]⟩
noncomputable def o295 (P : Params) : Obj := ⟨(.type "getset_descriptor"), none, (.fields #[(.str "__weakref__" 586), (.ref 293), (.builtin "ExceptionGroup.__weakref__"), .none]), #[]⟩
noncomputable def o296 (P : Params) : Obj := ⟨(.type "super"), none, (.fields #[(.ref 293), (.ref 293), (.ref 293)]), #[]⟩
noncomputable def o297 (P : Params) : Obj := ⟨(.type "builtin_function_or_method"), none, (.fields #[(.builtin "object.__init_subclass__"), (.ref 293)]), #[]⟩
noncomputable def o298 (P : Params) : Obj := ⟨(.type "tuple"), none, (.seq #[] 0), #[]⟩
noncomputable def o299 (P : Params) : Obj := ⟨.none, none, (.fields #[]), #[]⟩
noncomputable def o300 (P : Params) : Obj := ⟨(.type "tuple"), none, (.seq #[(.str "name" 594), (.str "found" 595), (.str "fault" 596)] 0), #[]⟩
noncomputable def o301 (P : Params) : Obj := ⟨(.type "tuple"), none, (.seq #[] 0), #[]⟩
noncomputable def o302 (P : Params) : Obj := ⟨.none, none, (.func ⟨"settled_name", "settled_name", (argsS (topS 37)), (.stmts (kidS (topS 37))), (scopeS (topS 37)), 0, [], .none, .none, .none, .none, none, .none, .none, 0⟩), #[]⟩
noncomputable def o303 (P : Params) : Obj := ⟨(.type "code"), none, (.fields #[(.str "settled_name" 591), (.str "settled_name" 592), (.str "/claim/cut.py" 593), (.int 183 0), (.int 1 0), (.int 0 0), (.int 0 0), (.int 3 0), (.ref 298), (.bool true), (.int 181 0), (.ref 299), .none, (.ref 300), (.ref 301), (.ref 302), (.int 597 0), (.int 183 0), (.str "/claim/cut.py" 598)]), #[]⟩
noncomputable def o304 (P : Params) : Obj := ⟨(.type "function"), none, (.func ⟨"settled_name", "settled_name", (argsS (topS 37)), (.stmts (kidS (topS 37))), (scopeS (topS 37)), 3, [], .none, .none, .none, (.str "postkeep.store" 523), none, (.ref 303), .none, 0⟩), #[]⟩
noncomputable def o305 (P : Params) : Obj := ⟨(.type "tuple"), none, (.seq #[] 0), #[]⟩
noncomputable def o306 (P : Params) : Obj := ⟨.none, none, (.fields #[]), #[]⟩
noncomputable def o307 (P : Params) : Obj := ⟨(.type "tuple"), none, (.seq #[(.str "box" 603), (.str "count" 604)] 0), #[]⟩
noncomputable def o308 (P : Params) : Obj := ⟨(.type "tuple"), none, (.seq #[] 0), #[]⟩
noncomputable def o309 (P : Params) : Obj := ⟨.none, none, (.func ⟨"need_modseqs", "need_modseqs", (argsS (topS 38)), (.stmts (kidS (topS 38))), (scopeS (topS 38)), 0, [], .none, .none, .none, .none, none, .none, .none, 0⟩), #[]⟩
noncomputable def o310 (P : Params) : Obj := ⟨(.type "code"), none, (.fields #[(.str "need_modseqs" 600), (.str "need_modseqs" 601), (.str "/claim/cut.py" 602), (.int 190 0), (.int 2 0), (.int 0 0), (.int 0 0), (.int 3 0), (.ref 305), (.bool true), (.int 181 0), (.ref 306), .none, (.ref 307), (.ref 308), (.ref 309), (.int 605 0), (.int 190 0), (.str "/claim/cut.py" 606)]), #[]⟩
noncomputable def o311 (P : Params) : Obj := ⟨(.type "function"), none, (.func ⟨"need_modseqs", "need_modseqs", (argsS (topS 38)), (.stmts (kidS (topS 38))), (scopeS (topS 38)), 3, [], .none, .none, .none, (.str "postkeep.store" 523), none, (.ref 310), .none, 0⟩), #[]⟩
noncomputable def o312 (P : Params) : Obj := ⟨(.type "tuple"), none, (.seq #[] 0), #[]⟩
noncomputable def o313 (P : Params) : Obj := ⟨.none, none, (.fields #[]), #[]⟩
noncomputable def o314 (P : Params) : Obj := ⟨(.type "tuple"), none, (.seq #[(.str "box" 611), (.str "count" 612)] 0), #[]⟩
noncomputable def o315 (P : Params) : Obj := ⟨(.type "tuple"), none, (.seq #[] 0), #[]⟩
noncomputable def o316 (P : Params) : Obj := ⟨.none, none, (.func ⟨"need_room", "need_room", (argsS (topS 39)), (.stmts (kidS (topS 39))), (scopeS (topS 39)), 0, [], .none, .none, .none, .none, none, .none, .none, 0⟩), #[]⟩
noncomputable def o317 (P : Params) : Obj := ⟨(.type "code"), none, (.fields #[(.str "need_room" 608), (.str "need_room" 609), (.str "/claim/cut.py" 610), (.int 193 0), (.int 2 0), (.int 0 0), (.int 0 0), (.int 3 0), (.ref 312), (.bool true), (.int 181 0), (.ref 313), .none, (.ref 314), (.ref 315), (.ref 316), (.int 613 0), (.int 193 0), (.str "/claim/cut.py" 614)]), #[]⟩
noncomputable def o318 (P : Params) : Obj := ⟨(.type "function"), none, (.func ⟨"need_room", "need_room", (argsS (topS 39)), (.stmts (kidS (topS 39))), (scopeS (topS 39)), 3, [], .none, .none, .none, (.str "postkeep.store" 523), none, (.ref 317), .none, 0⟩), #[]⟩
noncomputable def o319 (P : Params) : Obj := ⟨(.type "tuple"), none, (.seq #[] 0), #[]⟩
noncomputable def o320 (P : Params) : Obj := ⟨.none, none, (.fields #[]), #[]⟩
noncomputable def o321 (P : Params) : Obj := ⟨(.type "tuple"), none, (.seq #[(.str "store" 619), (.str "name" 620)] 0), #[]⟩
noncomputable def o322 (P : Params) : Obj := ⟨(.type "tuple"), none, (.seq #[] 0), #[]⟩
noncomputable def o323 (P : Params) : Obj := ⟨.none, none, (.func ⟨"need_new", "need_new", (argsS (topS 40)), (.stmts (kidS (topS 40))), (scopeS (topS 40)), 0, [], .none, .none, .none, .none, none, .none, .none, 0⟩), #[]⟩
noncomputable def o324 (P : Params) : Obj := ⟨(.type "code"), none, (.fields #[(.str "need_new" 616), (.str "need_new" 617), (.str "/claim/cut.py" 618), (.int 197 0), (.int 2 0), (.int 0 0), (.int 0 0), (.int 3 0), (.ref 319), (.bool true), (.int 181 0), (.ref 320), .none, (.ref 321), (.ref 322), (.ref 323), (.int 621 0), (.int 197 0), (.str "/claim/cut.py" 622)]), #[]⟩
noncomputable def o325 (P : Params) : Obj := ⟨(.type "function"), none, (.func ⟨"need_new", "need_new", (argsS (topS 40)), (.stmts (kidS (topS 40))), (scopeS (topS 40)), 3, [], .none, .none, .none, (.str "postkeep.store" 523), none, (.ref 324), .none, 0⟩), #[]⟩
noncomputable def o326 (P : Params) : Obj := ⟨(.type "tuple"), none, (.seq #[] 0), #[]⟩
noncomputable def o327 (P : Params) : Obj := ⟨.none, none, (.fields #[]), #[]⟩
noncomputable def o328 (P : Params) : Obj := ⟨(.type "tuple"), none, (.seq #[(.str "store" 627), (.str "validity" 628)] 0), #[]⟩
noncomputable def o329 (P : Params) : Obj := ⟨(.type "tuple"), none, (.seq #[] 0), #[]⟩
noncomputable def o330 (P : Params) : Obj := ⟨.none, none, (.func ⟨"need_validity", "need_validity", (argsS (topS 41)), (.stmts (kidS (topS 41))), (scopeS (topS 41)), 0, [], .none, .none, .none, .none, none, .none, .none, 0⟩), #[]⟩
noncomputable def o331 (P : Params) : Obj := ⟨(.type "code"), none, (.fields #[(.str "need_validity" 624), (.str "need_validity" 625), (.str "/claim/cut.py" 626), (.int 200 0), (.int 2 0), (.int 0 0), (.int 0 0), (.int 3 0), (.ref 326), (.bool true), (.int 181 0), (.ref 327), .none, (.ref 328), (.ref 329), (.ref 330), (.int 629 0), (.int 200 0), (.str "/claim/cut.py" 630)]), #[]⟩
noncomputable def o332 (P : Params) : Obj := ⟨(.type "function"), none, (.func ⟨"need_validity", "need_validity", (argsS (topS 41)), (.stmts (kidS (topS 41))), (scopeS (topS 41)), 3, [], .none, .none, .none, (.str "postkeep.store" 523), none, (.ref 331), .none, 0⟩), #[]⟩
noncomputable def o333 (P : Params) : Obj := ⟨(.type "tuple"), none, (.seq #[] 0), #[]⟩
noncomputable def o334 (P : Params) : Obj := ⟨.none, none, (.fields #[]), #[]⟩
noncomputable def o335 (P : Params) : Obj := ⟨(.type "tuple"), none, (.seq #[(.str "store" 635), (.str "name" 636), (.str "validity" 637), (.str "found" 638)] 0), #[]⟩
noncomputable def o336 (P : Params) : Obj := ⟨(.type "tuple"), none, (.seq #[] 0), #[]⟩
noncomputable def o337 (P : Params) : Obj := ⟨.none, none, (.func ⟨"create_box", "create_box", (argsS (topS 42)), (.stmts (kidS (topS 42))), (scopeS (topS 42)), 0, [], .none, .none, .none, .none, none, .none, .none, 0⟩), #[]⟩
noncomputable def o338 (P : Params) : Obj := ⟨(.type "code"), none, (.fields #[(.str "create_box" 632), (.str "create_box" 633), (.str "/claim/cut.py" 634), (.int 203 0), (.int 3 0), (.int 0 0), (.int 0 0), (.int 3 0), (.ref 333), (.bool true), (.int 181 0), (.ref 334), .none, (.ref 335), (.ref 336), (.ref 337), (.int 639 0), (.int 203 0), (.str "/claim/cut.py" 640)]), #[]⟩
noncomputable def o339 (P : Params) : Obj := ⟨(.type "function"), none, (.func ⟨"create_box", "create_box", (argsS (topS 42)), (.stmts (kidS (topS 42))), (scopeS (topS 42)), 3, [], .none, .none, .none, (.str "postkeep.store" 523), none, (.ref 338), .none, 0⟩), #[]⟩
noncomputable def o340 (P : Params) : Obj := ⟨(.type "tuple"), none, (.seq #[] 0), #[]⟩
noncomputable def o341 (P : Params) : Obj := ⟨.none, none, (.fields #[]), #[]⟩
noncomputable def o342 (P : Params) : Obj := ⟨(.type "tuple"), none, (.seq #[(.str "store" 645), (.str "old" 646), (.str "new" 647), (.str "pairs" 648), (.str "name" 649), (.str "goal" 650)] 0), #[]⟩
noncomputable def o343 (P : Params) : Obj := ⟨(.type "tuple"), none, (.seq #[] 0), #[]⟩
noncomputable def o344 (P : Params) : Obj := ⟨.none, none, (.func ⟨"renamed_pairs", "renamed_pairs", (argsS (topS 43)), (.stmts (kidS (topS 43))), (scopeS (topS 43)), 0, [], .none, .none, .none, .none, none, .none, .none, 0⟩), #[]⟩
noncomputable def o345 (P : Params) : Obj := ⟨(.type "code"), none, (.fields #[(.str "renamed_pairs" 642), (.str "renamed_pairs" 643), (.str "/claim/cut.py" 644), (.int 210 0), (.int 3 0), (.int 0 0), (.int 0 0), (.int 3 0), (.ref 340), (.bool true), (.int 181 0), (.ref 341), .none, (.ref 342), (.ref 343), (.ref 344), (.int 651 0), (.int 210 0), (.str "/claim/cut.py" 652)]), #[]⟩
noncomputable def o346 (P : Params) : Obj := ⟨(.type "function"), none, (.func ⟨"renamed_pairs", "renamed_pairs", (argsS (topS 43)), (.stmts (kidS (topS 43))), (scopeS (topS 43)), 3, [], .none, .none, .none, (.str "postkeep.store" 523), none, (.ref 345), .none, 0⟩), #[]⟩
noncomputable def o347 (P : Params) : Obj := ⟨(.type "tuple"), none, (.seq #[] 0), #[]⟩
noncomputable def o348 (P : Params) : Obj := ⟨.none, none, (.fields #[]), #[]⟩
noncomputable def o349 (P : Params) : Obj := ⟨.none, none, (.func ⟨"rename_box", "rename_box", (argsS (topS 44)), (.stmts (kidS (topS 44))), (scopeS (topS 44)), 0, [], .none, .none, .none, .none, none, .none, .none, 0⟩), #[]⟩
noncomputable def o350 (P : Params) : Obj := ⟨(.type "code"), none, (.fields #[(.str "rename_box" 654), (.str "rename_box" 655), (.str "/claim/cut.py" 656), (.int 218 0), (.int 3 0), (.int 0 0), (.int 0 0), (.int 3 0), (.ref 347), (.bool true), (.int 181 0), (.ref 348), .none, .none, .none, (.ref 349), (.int 657 0), (.int 218 0), (.str "/claim/cut.py" 658)]), #[]⟩
noncomputable def o351 (P : Params) : Obj := ⟨(.type "function"), none, (.func ⟨"rename_box", "rename_box", (argsS (topS 44)), (.stmts (kidS (topS 44))), (scopeS (topS 44)), 3, [], .none, .none, .none, (.str "postkeep.store" 523), none, (.ref 350), .none, 0⟩), #[]⟩
noncomputable def o352 (P : Params) : Obj := ⟨(.type "tuple"), none, (.seq #[] 0), #[]⟩
noncomputable def o353 (P : Params) : Obj := ⟨.none, none, (.fields #[]), #[]⟩
noncomputable def o354 (P : Params) : Obj := ⟨(.type "tuple"), none, (.seq #[(.str "store" 663), (.str "inbox" 664), (.str "name" 665), (.str "box" 666)] 0), #[]⟩
noncomputable def o355 (P : Params) : Obj := ⟨(.type "tuple"), none, (.seq #[] 0), #[]⟩
noncomputable def o356 (P : Params) : Obj := ⟨.none, none, (.func ⟨"rename_inbox", "rename_inbox", (argsS (topS 45)), (.stmts (kidS (topS 45))), (scopeS (topS 45)), 0, [], .none, .none, .none, .none, none, .none, .none, 0⟩), #[]⟩
noncomputable def o357 (P : Params) : Obj := ⟨(.type "code"), none, (.fields #[(.str "rename_inbox" 660), (.str "rename_inbox" 661), (.str "/claim/cut.py" 662), (.int 230 0), (.int 3 0), (.int 0 0), (.int 0 0), (.int 3 0), (.ref 352), (.bool true), (.int 181 0), (.ref 353), .none, (.ref 354), (.ref 355), (.ref 356), (.int 667 0), (.int 230 0), (.str "/claim/cut.py" 668)]), #[]⟩
noncomputable def o358 (P : Params) : Obj := ⟨(.type "function"), none, (.func ⟨"rename_inbox", "rename_inbox", (argsS (topS 45)), (.stmts (kidS (topS 45))), (scopeS (topS 45)), 3, [], .none, .none, .none, (.str "postkeep.store" 523), none, (.ref 357), .none, 0⟩), #[]⟩
noncomputable def o359 (P : Params) : Obj := ⟨(.type "tuple"), none, (.seq #[] 0), #[]⟩
noncomputable def o360 (P : Params) : Obj := ⟨.none, none, (.fields #[]), #[]⟩
noncomputable def o361 (P : Params) : Obj := ⟨(.type "tuple"), none, (.seq #[(.str "store" 673), (.str "name" 674), (.str "flags" 675), (.str "instant" 676), (.str "octets" 677), (.str "box" 678), (.str "letter" 679)] 0), #[]⟩
noncomputable def o362 (P : Params) : Obj := ⟨(.type "tuple"), none, (.seq #[] 0), #[]⟩
noncomputable def o363 (P : Params) : Obj := ⟨.none, none, (.func ⟨"append_letter", "append_letter", (argsS (topS 46)), (.stmts (kidS (topS 46))), (scopeS (topS 46)), 0, [], .none, .none, .none, .none, none, .none, .none, 0⟩), #[]⟩
noncomputable def o364 (P : Params) : Obj := ⟨(.type "code"), none, (.fields #[(.str "append_letter" 670), (.str "append_letter" 671), (.str "/claim/cut.py" 672), (.int 238 0), (.int 5 0), (.int 0 0), (.int 0 0), (.int 3 0), (.ref 359), (.bool true), (.int 181 0), (.ref 360), .none, (.ref 361), (.ref 362), (.ref 363), (.int 680 0), (.int 238 0), (.str "/claim/cut.py" 681)]), #[]⟩
noncomputable def o365 (P : Params) : Obj := ⟨(.type "function"), none, (.func ⟨"append_letter", "append_letter", (argsS (topS 46)), (.stmts (kidS (topS 46))), (scopeS (topS 46)), 3, [], .none, .none, .none, (.str "postkeep.store" 523), none, (.ref 364), .none, 0⟩), #[]⟩
noncomputable def o366 (P : Params) : Obj := ⟨(.type "tuple"), none, (.seq #[] 0), #[]⟩
noncomputable def o367 (P : Params) : Obj := ⟨.none, none, (.fields #[]), #[]⟩
noncomputable def o368 (P : Params) : Obj := ⟨.none, none, (.func ⟨"_law_box", "_law_box", (argsS (topS 48)), (.stmts (kidS (topS 48))), (scopeS (topS 48)), 0, [], .none, .none, .none, .none, none, .none, .none, 0⟩), #[]⟩
noncomputable def o369 (P : Params) : Obj := ⟨(.type "code"), none, (.fields #[(.str "_law_box" 685), (.str "_law_box" 686), (.str "/claim/cut.py" 687), (.int 244 0), (.int 1 0), (.int 0 0), (.int 0 0), (.int 3 0), (.ref 366), (.bool true), (.int 181 0), (.ref 367), .none, .none, .none, (.ref 368), (.int 688 0), (.int 244 0), (.str "/claim/cut.py" 689)]), #[]⟩
noncomputable def o370 (P : Params) : Obj := ⟨(.type "function"), none, (.func ⟨"_law_box", "_law_box", (argsS (topS 48)), (.stmts (kidS (topS 48))), (scopeS (topS 48)), 3, [], .none, .none, .none, (.str "law_nz0304_01" 683), none, (.ref 369), .none, 0⟩), #[]⟩
noncomputable def o371 (P : Params) : Obj := ⟨(.type "tuple"), none, (.seq #[] 0), #[]⟩
noncomputable def o372 (P : Params) : Obj := ⟨.none, none, (.fields #[]), #[]⟩
noncomputable def o373 (P : Params) : Obj := ⟨(.type "tuple"), none, (.seq #[(.str "box" 694), (.str "limit" 695), (.str "place" 696), (.str "digit" 697)] 0), #[]⟩
noncomputable def o374 (P : Params) : Obj := ⟨(.type "tuple"), none, (.seq #[] 0), #[]⟩
noncomputable def o375 (P : Params) : Obj := ⟨.none, none, (.func ⟨"_law_draw", "_law_draw", (argsS (topS 49)), (.stmts (kidS (topS 49))), (scopeS (topS 49)), 0, [], .none, .none, .none, .none, none, .none, .none, 0⟩), #[]⟩
noncomputable def o376 (P : Params) : Obj := ⟨(.type "code"), none, (.fields #[(.str "_law_draw" 691), (.str "_law_draw" 692), (.str "/claim/cut.py" 693), (.int 253 0), (.int 2 0), (.int 0 0), (.int 0 0), (.int 3 0), (.ref 371), (.bool true), (.int 181 0), (.ref 372), .none, (.ref 373), (.ref 374), (.ref 375), (.int 698 0), (.int 253 0), (.str "/claim/cut.py" 699)]), #[]⟩
noncomputable def o377 (P : Params) : Obj := ⟨(.type "function"), none, (.func ⟨"_law_draw", "_law_draw", (argsS (topS 49)), (.stmts (kidS (topS 49))), (scopeS (topS 49)), 3, [], .none, .none, .none, (.str "law_nz0304_01" 683), none, (.ref 376), .none, 0⟩), #[]⟩
noncomputable def o378 (P : Params) : Obj := ⟨(.type "tuple"), none, (.seq #[] 0), #[]⟩
noncomputable def o379 (P : Params) : Obj := ⟨.none, none, (.fields #[]), #[]⟩
noncomputable def o380 (P : Params) : Obj := ⟨(.type "tuple"), none, (.seq #[] 0), #[]⟩
noncomputable def o381 (P : Params) : Obj := ⟨(.type "tuple"), none, (.seq #[] 0), #[]⟩
noncomputable def o382 (P : Params) : Obj := ⟨.none, none, (.func ⟨"_law_names", "_law_names", (argsS (topS 50)), (.stmts (kidS (topS 50))), (scopeS (topS 50)), 0, [], .none, .none, .none, .none, none, .none, .none, 0⟩), #[]⟩
noncomputable def o383 (P : Params) : Obj := ⟨(.type "code"), none, (.fields #[(.str "_law_names" 701), (.str "_law_names" 702), (.str "/claim/cut.py" 703), (.int 264 0), (.int 0 0), (.int 0 0), (.int 0 0), (.int 3 0), (.ref 378), (.bool true), (.int 181 0), (.ref 379), .none, (.ref 380), (.ref 381), (.ref 382), (.int 704 0), (.int 264 0), (.str "/claim/cut.py" 705)]), #[]⟩
noncomputable def o384 (P : Params) : Obj := ⟨(.type "function"), none, (.func ⟨"_law_names", "_law_names", (argsS (topS 50)), (.stmts (kidS (topS 50))), (scopeS (topS 50)), 3, [], .none, .none, .none, (.str "law_nz0304_01" 683), none, (.ref 383), .none, 0⟩), #[]⟩
noncomputable def o385 (P : Params) : Obj := ⟨(.type "tuple"), none, (.seq #[] 0), #[]⟩
noncomputable def o386 (P : Params) : Obj := ⟨.none, none, (.fields #[]), #[]⟩
noncomputable def o387 (P : Params) : Obj := ⟨(.type "tuple"), none, (.seq #[(.str "name" 710)] 0), #[]⟩
noncomputable def o388 (P : Params) : Obj := ⟨(.type "tuple"), none, (.seq #[] 0), #[]⟩
noncomputable def o389 (P : Params) : Obj := ⟨.none, none, (.func ⟨"_law_normal", "_law_normal", (argsS (topS 51)), (.stmts (kidS (topS 51))), (scopeS (topS 51)), 0, [], .none, .none, .none, .none, none, .none, .none, 0⟩), #[]⟩
noncomputable def o390 (P : Params) : Obj := ⟨(.type "code"), none, (.fields #[(.str "_law_normal" 707), (.str "_law_normal" 708), (.str "/claim/cut.py" 709), (.int 266 0), (.int 1 0), (.int 0 0), (.int 0 0), (.int 3 0), (.ref 385), (.bool true), (.int 181 0), (.ref 386), .none, (.ref 387), (.ref 388), (.ref 389), (.int 711 0), (.int 266 0), (.str "/claim/cut.py" 712)]), #[]⟩
noncomputable def o391 (P : Params) : Obj := ⟨(.type "function"), none, (.func ⟨"_law_normal", "_law_normal", (argsS (topS 51)), (.stmts (kidS (topS 51))), (scopeS (topS 51)), 3, [], .none, .none, .none, (.str "law_nz0304_01" 683), none, (.ref 390), .none, 0⟩), #[]⟩
noncomputable def o392 (P : Params) : Obj := ⟨(.type "tuple"), none, (.seq #[] 0), #[]⟩
noncomputable def o393 (P : Params) : Obj := ⟨.none, none, (.fields #[]), #[]⟩
noncomputable def o394 (P : Params) : Obj := ⟨(.type "tuple"), none, (.seq #[(.str "name" 717)] 0), #[]⟩
noncomputable def o395 (P : Params) : Obj := ⟨(.type "tuple"), none, (.seq #[] 0), #[]⟩
noncomputable def o396 (P : Params) : Obj := ⟨.none, none, (.func ⟨"_law_is_name", "_law_is_name", (argsS (topS 52)), (.stmts (kidS (topS 52))), (scopeS (topS 52)), 0, [], .none, .none, .none, .none, none, .none, .none, 0⟩), #[]⟩
noncomputable def o397 (P : Params) : Obj := ⟨(.type "code"), none, (.fields #[(.str "_law_is_name" 714), (.str "_law_is_name" 715), (.str "/claim/cut.py" 716), (.int 268 0), (.int 1 0), (.int 0 0), (.int 0 0), (.int 3 0), (.ref 392), (.bool true), (.int 181 0), (.ref 393), .none, (.ref 394), (.ref 395), (.ref 396), (.int 718 0), (.int 268 0), (.str "/claim/cut.py" 719)]), #[]⟩
noncomputable def o398 (P : Params) : Obj := ⟨(.type "function"), none, (.func ⟨"_law_is_name", "_law_is_name", (argsS (topS 52)), (.stmts (kidS (topS 52))), (scopeS (topS 52)), 3, [], .none, .none, .none, (.str "law_nz0304_01" 683), none, (.ref 397), .none, 0⟩), #[]⟩
noncomputable def o399 (P : Params) : Obj := ⟨(.type "tuple"), none, (.seq #[] 0), #[]⟩
noncomputable def o400 (P : Params) : Obj := ⟨.none, none, (.fields #[]), #[]⟩
noncomputable def o401 (P : Params) : Obj := ⟨.none, none, (.func ⟨"_law_pairs", "_law_pairs", (argsS (topS 53)), (.stmts (kidS (topS 53))), (scopeS (topS 53)), 0, [], .none, .none, .none, .none, none, .none, .none, 0⟩), #[]⟩
noncomputable def o402 (P : Params) : Obj := ⟨(.type "code"), none, (.fields #[(.str "_law_pairs" 721), (.str "_law_pairs" 722), (.str "/claim/cut.py" 723), (.int 270 0), (.int 3 0), (.int 0 0), (.int 0 0), (.int 3 0), (.ref 399), (.bool true), (.int 181 0), (.ref 400), .none, .none, .none, (.ref 401), (.int 724 0), (.int 270 0), (.str "/claim/cut.py" 725)]), #[]⟩
noncomputable def o403 (P : Params) : Obj := ⟨(.type "function"), none, (.func ⟨"_law_pairs", "_law_pairs", (argsS (topS 53)), (.stmts (kidS (topS 53))), (scopeS (topS 53)), 3, [], .none, .none, .none, (.str "law_nz0304_01" 683), none, (.ref 402), .none, 0⟩), #[]⟩
noncomputable def o404 (P : Params) : Obj := ⟨(.type "tuple"), none, (.seq #[] 0), #[]⟩
noncomputable def o405 (P : Params) : Obj := ⟨.none, none, (.fields #[]), #[]⟩
noncomputable def o406 (P : Params) : Obj := ⟨(.type "tuple"), none, (.seq #[(.str "store" 730), (.str "old" 731), (.str "new" 732)] 0), #[]⟩
noncomputable def o407 (P : Params) : Obj := ⟨(.type "tuple"), none, (.seq #[] 0), #[]⟩
noncomputable def o408 (P : Params) : Obj := ⟨.none, none, (.func ⟨"_law_heard", "_law_heard", (argsS (topS 54)), (.stmts (kidS (topS 54))), (scopeS (topS 54)), 0, [], .none, .none, .none, .none, none, .none, .none, 0⟩), #[]⟩
noncomputable def o409 (P : Params) : Obj := ⟨(.type "code"), none, (.fields #[(.str "_law_heard" 727), (.str "_law_heard" 728), (.str "/claim/cut.py" 729), (.int 277 0), (.int 3 0), (.int 0 0), (.int 0 0), (.int 3 0), (.ref 404), (.bool true), (.int 181 0), (.ref 405), .none, (.ref 406), (.ref 407), (.ref 408), (.int 733 0), (.int 277 0), (.str "/claim/cut.py" 734)]), #[]⟩
noncomputable def o410 (P : Params) : Obj := ⟨(.type "function"), none, (.func ⟨"_law_heard", "_law_heard", (argsS (topS 54)), (.stmts (kidS (topS 54))), (scopeS (topS 54)), 3, [], .none, .none, .none, (.str "law_nz0304_01" 683), none, (.ref 409), .none, 0⟩), #[]⟩
noncomputable def o411 (P : Params) : Obj := ⟨(.type "tuple"), none, (.seq #[] 0), #[]⟩
noncomputable def o412 (P : Params) : Obj := ⟨.none, none, (.fields #[]), #[]⟩
noncomputable def o413 (P : Params) : Obj := ⟨.none, none, (.func ⟨"_law_is_told", "_law_is_told", (argsS (topS 55)), (.stmts (kidS (topS 55))), (scopeS (topS 55)), 0, [], .none, .none, .none, .none, none, .none, .none, 0⟩), #[]⟩
noncomputable def o414 (P : Params) : Obj := ⟨(.type "code"), none, (.fields #[(.str "_law_is_told" 736), (.str "_law_is_told" 737), (.str "/claim/cut.py" 738), (.int 282 0), (.int 2 0), (.int 0 0), (.int 0 0), (.int 3 0), (.ref 411), (.bool true), (.int 181 0), (.ref 412), .none, .none, .none, (.ref 413), (.int 739 0), (.int 282 0), (.str "/claim/cut.py" 740)]), #[]⟩
noncomputable def o415 (P : Params) : Obj := ⟨(.type "function"), none, (.func ⟨"_law_is_told", "_law_is_told", (argsS (topS 55)), (.stmts (kidS (topS 55))), (scopeS (topS 55)), 3, [], .none, .none, .none, (.str "law_nz0304_01" 683), none, (.ref 414), .none, 0⟩), #[]⟩
noncomputable def o416 (P : Params) : Obj := ⟨(.type "tuple"), none, (.seq #[] 0), #[]⟩
noncomputable def o417 (P : Params) : Obj := ⟨.none, none, (.fields #[]), #[]⟩
noncomputable def o418 (P : Params) : Obj := ⟨.none, none, (.func ⟨"law", "law", (argsS (topS 56)), (.stmts (kidS (topS 56))), (scopeS (topS 56)), 0, [], .none, .none, .none, .none, none, .none, .none, 0⟩), #[]⟩
noncomputable def o419 (P : Params) : Obj := ⟨(.type "code"), none, (.fields #[(.str "law" 742), (.str "law" 743), (.str "/claim/cut.py" 744), (.int 290 0), (.int 1 0), (.int 0 0), (.int 0 0), (.int 3 0), (.ref 416), (.bool true), (.int 181 0), (.ref 417), .none, .none, .none, (.ref 418), (.int 745 0), (.int 290 0), (.str "/claim/cut.py" 746)]), #[]⟩
noncomputable def o420 (P : Params) : Obj := ⟨(.type "function"), none, (.func ⟨"law", "law", (argsS (topS 56)), (.stmts (kidS (topS 56))), (scopeS (topS 56)), 3, [], .none, .none, .none, (.str "law_nz0304_01" 683), none, (.ref 419), .none, 0⟩), #[]⟩
noncomputable def hpEnd (P : Params) : Heap := ⟨⟨[boot_o_0 P, boot_o_1 P, o2 P, o3 P, boot_o_4 P, boot_o_5 P, boot_o_6 P, boot_o_7 P, boot_o_8 P, boot_o_9 P, boot_o_10 P, o11 P, o12 P, o13 P, o14 P, o15 P, o16 P, o17 P, o18 P, o19 P, o20 P, o21 P, o22 P, o23 P, o24 P, o25 P, o26 P, o27 P, o28 P, o29 P, o30 P, o31 P, o32 P, o33 P, o34 P, o35 P, o36 P, o37 P, o38 P, o39 P, o40 P, o41 P, o42 P, o43 P, o44 P, o45 P, o46 P, o47 P, o48 P, o49 P, o50 P, o51 P, o52 P, o53 P, o54 P, o55 P, o56 P, o57 P, o58 P, o59 P, o60 P, o61 P, o62 P, o63 P, o64 P, o65 P, o66 P, o67 P, o68 P, o69 P, o70 P, o71 P, o72 P, o73 P, o74 P, o75 P, o76 P, o77 P, o78 P, o79 P, o80 P, o81 P, o82 P, o83 P, o84 P, o85 P, o86 P, o87 P, o88 P, o89 P, o90 P, o91 P, o92 P, o93 P, o94 P, o95 P, o96 P, o97 P, o98 P, o99 P, o100 P, o101 P, o102 P, o103 P, o104 P, o105 P, o106 P, o107 P, o108 P, o109 P, o110 P, o111 P, o112 P, o113 P, o114 P, o115 P, o116 P, o117 P, o118 P, o119 P, o120 P, o121 P, o122 P, o123 P, o124 P, o125 P, o126 P, o127 P, o128 P, o129 P, o130 P, o131 P, o132 P, o133 P, o134 P, o135 P, o136 P, o137 P, o138 P, o139 P, o140 P, o141 P, o142 P, o143 P, o144 P, o145 P, o146 P, o147 P, o148 P, o149 P, o150 P, o151 P, o152 P, o153 P, o154 P, o155 P, o156 P, o157 P, o158 P, o159 P, o160 P, o161 P, o162 P, o163 P, o164 P, o165 P, o166 P, o167 P, o168 P, o169 P, o170 P, o171 P, o172 P, o173 P, o174 P, o175 P, o176 P, o177 P, o178 P, o179 P, o180 P, o181 P, o182 P, o183 P, o184 P, o185 P, o186 P, o187 P, o188 P, o189 P, o190 P, o191 P, o192 P, o193 P, o194 P, o195 P, o196 P, o197 P, o198 P, o199 P, o200 P, o201 P, o202 P, o203 P, o204 P, o205 P, o206 P, o207 P, o208 P, o209 P, o210 P, o211 P, o212 P, o213 P, o214 P, o215 P, o216 P, o217 P, o218 P, o219 P, o220 P, o221 P, o222 P, o223 P, o224 P, o225 P, o226 P, o227 P, o228 P, o229 P, o230 P, o231 P, o232 P, o233 P, o234 P, o235 P, o236 P, o237 P, o238 P, o239 P, o240 P, o241 P, o242 P, o243 P, o244 P, o245 P, o246 P, o247 P, o248 P, o249 P, o250 P, o251 P, o252 P, o253 P, o254 P, o255 P, o256 P, o257 P, o258 P, o259 P, o260 P, o261 P, o262 P, o263 P, o264 P, o265 P, o266 P, o267 P, o268 P, o269 P, o270 P, o271 P, o272 P, o273 P, o274 P, o275 P, o276 P, o277 P, o278 P, o279 P, o280 P, o281 P, o282 P, o283 P, o284 P, o285 P, o286 P, o287 P, o288 P, o289 P, o290 P, o291 P, o292 P, o293 P, o294 P, o295 P, o296 P, o297 P, o298 P, o299 P, o300 P, o301 P, o302 P, o303 P, o304 P, o305 P, o306 P, o307 P, o308 P, o309 P, o310 P, o311 P, o312 P, o313 P, o314 P, o315 P, o316 P, o317 P, o318 P, o319 P, o320 P, o321 P, o322 P, o323 P, o324 P, o325 P, o326 P, o327 P, o328 P, o329 P, o330 P, o331 P, o332 P, o333 P, o334 P, o335 P, o336 P, o337 P, o338 P, o339 P, o340 P, o341 P, o342 P, o343 P, o344 P, o345 P, o346 P, o347 P, o348 P, o349 P, o350 P, o351 P, o352 P, o353 P, o354 P, o355 P, o356 P, o357 P, o358 P, o359 P, o360 P, o361 P, o362 P, o363 P, o364 P, o365 P, o366 P, o367 P, o368 P, o369 P, o370 P, o371 P, o372 P, o373 P, o374 P, o375 P, o376 P, o377 P, o378 P, o379 P, o380 P, o381 P, o382 P, o383 P, o384 P, o385 P, o386 P, o387 P, o388 P, o389 P, o390 P, o391 P, o392 P, o393 P, o394 P, o395 P, o396 P, o397 P, o398 P, o399 P, o400 P, o401 P, o402 P, o403 P, o404 P, o405 P, o406 P, o407 P, o408 P, o409 P, o410 P, o411 P, o412 P, o413 P, o414 P, o415 P, o416 P, o417 P, o418 P, o419 P, o420 P]⟩, ⟨[], [], [], 0, [], [], false, #[], [], 0, false, false, false, 0, [2000, 10, 10], false, 0, true, [], [], 0, false⟩⟩
noncomputable def K39 : Params → Frag := fun P => (nat_lit 2, o2 P) :: (nat_lit 3, o3 P) :: (nat_lit 15, o15 P) :: (nat_lit 22, o22 P) :: (nat_lit 23, o23 P) :: (nat_lit 25, o25 P) :: (nat_lit 26, o26 P) :: (nat_lit 28, o28 P) :: (nat_lit 29, o29 P) :: (nat_lit 30, o30 P) :: (nat_lit 32, o32 P) :: (nat_lit 33, o33 P) :: (nat_lit 35, o35 P) :: (nat_lit 36, o36 P) :: (nat_lit 37, o37 P) :: (nat_lit 38, o38 P) :: (nat_lit 39, o39 P) :: (nat_lit 40, o40 P) :: (nat_lit 43, o43 P) :: (nat_lit 50, o50 P) :: (nat_lit 51, o51 P) :: (nat_lit 52, o52 P) :: (nat_lit 55, o55 P) :: (nat_lit 62, o62 P) :: (nat_lit 63, o63 P) :: (nat_lit 64, o64 P) :: (nat_lit 67, o67 P) :: (nat_lit 69, o69 P) :: (nat_lit 70, o70 P) :: (nat_lit 72, o72 P) :: (nat_lit 73, o73 P) :: (nat_lit 74, o74 P) :: (nat_lit 76, o76 P) :: (nat_lit 77, o77 P) :: (nat_lit 79, o79 P) :: (nat_lit 80, o80 P) :: (nat_lit 81, o81 P) :: (nat_lit 83, o83 P) :: (nat_lit 84, o84 P) :: (nat_lit 86, o86 P) :: (nat_lit 87, o87 P) :: (nat_lit 88, o88 P) :: (nat_lit 90, o90 P) :: (nat_lit 91, o91 P) :: (nat_lit 93, o93 P) :: (nat_lit 94, o94 P) :: (nat_lit 102, o102 P) :: (nat_lit 104, o104 P) :: (nat_lit 105, o105 P) :: (nat_lit 107, o107 P) :: (nat_lit 108, o108 P) :: (nat_lit 109, o109 P) :: (nat_lit 111, o111 P) :: (nat_lit 112, o112 P) :: (nat_lit 114, o114 P) :: (nat_lit 115, o115 P) :: (nat_lit 116, o116 P) :: (nat_lit 118, o118 P) :: (nat_lit 119, o119 P) :: (nat_lit 121, o121 P) :: (nat_lit 122, o122 P) :: (nat_lit 123, o123 P) :: (nat_lit 124, o124 P) :: (nat_lit 125, o125 P) :: (nat_lit 126, o126 P) :: (nat_lit 127, o127 P) :: (nat_lit 137, o137 P) :: (nat_lit 139, o139 P) :: (nat_lit 140, o140 P) :: (nat_lit 142, o142 P) :: (nat_lit 143, o143 P) :: (nat_lit 144, o144 P) :: (nat_lit 146, o146 P) :: (nat_lit 147, o147 P) :: (nat_lit 149, o149 P) :: (nat_lit 150, o150 P) :: (nat_lit 151, o151 P) :: (nat_lit 154, o154 P) :: (nat_lit 155, o155 P) :: (nat_lit 156, o156 P) :: (nat_lit 159, o159 P) :: (nat_lit 160, o160 P) :: (nat_lit 161, o161 P) :: (nat_lit 162, o162 P) :: (nat_lit 163, o163 P) :: (nat_lit 164, o164 P) :: (nat_lit 165, o165 P) :: (nat_lit 168, o168 P) :: (nat_lit 170, o170 P) :: (nat_lit 171, o171 P) :: (nat_lit 173, o173 P) :: (nat_lit 174, o174 P) :: (nat_lit 175, o175 P) :: (nat_lit 177, o177 P) :: (nat_lit 178, o178 P) :: (nat_lit 180, o180 P) :: (nat_lit 181, o181 P) :: (nat_lit 182, o182 P) :: (nat_lit 184, o184 P) :: (nat_lit 185, o185 P) :: (nat_lit 187, o187 P) :: (nat_lit 188, o188 P) :: (nat_lit 189, o189 P) :: (nat_lit 192, o192 P) :: (nat_lit 193, o193 P) :: (nat_lit 194, o194 P) :: (nat_lit 197, o197 P) :: (nat_lit 198, o198 P) :: (nat_lit 199, o199 P) :: (nat_lit 202, o202 P) :: (nat_lit 203, o203 P) :: (nat_lit 204, o204 P) :: (nat_lit 207, o207 P) :: (nat_lit 208, o208 P) :: (nat_lit 209, o209 P) :: (nat_lit 211, o211 P) :: (nat_lit 212, o212 P) :: (nat_lit 214, o214 P) :: (nat_lit 215, o215 P) :: (nat_lit 216, o216 P) :: (nat_lit 218, o218 P) :: (nat_lit 219, o219 P) :: (nat_lit 221, o221 P) :: (nat_lit 222, o222 P) :: (nat_lit 223, o223 P) :: (nat_lit 225, o225 P) :: (nat_lit 226, o226 P) :: (nat_lit 228, o228 P) :: (nat_lit 229, o229 P) :: (nat_lit 230, o230 P) :: (nat_lit 232, o232 P) :: (nat_lit 233, o233 P) :: (nat_lit 235, o235 P) :: (nat_lit 236, o236 P) :: (nat_lit 237, o237 P) :: (nat_lit 239, o239 P) :: (nat_lit 240, o240 P) :: (nat_lit 242, o242 P) :: (nat_lit 243, o243 P) :: (nat_lit 244, o244 P) :: (nat_lit 246, o246 P) :: (nat_lit 247, o247 P) :: (nat_lit 249, o249 P) :: (nat_lit 250, o250 P) :: (nat_lit 258, o258 P) :: (nat_lit 260, o260 P) :: (nat_lit 261, o261 P) :: (nat_lit 263, o263 P) :: (nat_lit 264, o264 P) :: (nat_lit 265, o265 P) :: (nat_lit 267, o267 P) :: (nat_lit 268, o268 P) :: (nat_lit 270, o270 P) :: (nat_lit 271, o271 P) :: (nat_lit 272, o272 P) :: (nat_lit 274, o274 P) :: (nat_lit 275, o275 P) :: (nat_lit 277, o277 P) :: (nat_lit 278, o278 P) :: (nat_lit 279, o279 P) :: (nat_lit 281, o281 P) :: (nat_lit 282, o282 P) :: (nat_lit 284, o284 P) :: (nat_lit 285, o285 P) :: (nat_lit 286, o286 P) :: (nat_lit 289, o289 P) :: (nat_lit 290, o290 P) :: (nat_lit 291, o291 P) :: (nat_lit 292, o292 P) :: (nat_lit 293, o293 P) :: (nat_lit 294, o294 P) :: (nat_lit 295, o295 P) :: (nat_lit 298, o298 P) :: (nat_lit 300, o300 P) :: (nat_lit 301, o301 P) :: (nat_lit 303, o303 P) :: (nat_lit 304, o304 P) :: (nat_lit 305, o305 P) :: (nat_lit 307, o307 P) :: (nat_lit 308, o308 P) :: (nat_lit 310, o310 P) :: (nat_lit 311, o311 P) :: (nat_lit 312, o312 P) :: (nat_lit 314, o314 P) :: (nat_lit 315, o315 P) :: (nat_lit 317, o317 P) :: (nat_lit 318, o318 P) :: (nat_lit 319, o319 P) :: (nat_lit 321, o321 P) :: (nat_lit 322, o322 P) :: (nat_lit 324, o324 P) :: (nat_lit 325, o325 P) :: (nat_lit 326, o326 P) :: (nat_lit 328, o328 P) :: (nat_lit 329, o329 P) :: (nat_lit 331, o331 P) :: (nat_lit 332, o332 P) :: (nat_lit 333, o333 P) :: (nat_lit 335, o335 P) :: (nat_lit 336, o336 P) :: (nat_lit 338, o338 P) :: (nat_lit 339, o339 P) :: (nat_lit 340, o340 P) :: (nat_lit 342, o342 P) :: (nat_lit 343, o343 P) :: (nat_lit 345, o345 P) :: (nat_lit 346, o346 P) :: (nat_lit 347, o347 P) :: (nat_lit 350, o350 P) :: (nat_lit 351, o351 P) :: (nat_lit 352, o352 P) :: (nat_lit 354, o354 P) :: (nat_lit 355, o355 P) :: (nat_lit 357, o357 P) :: (nat_lit 358, o358 P) :: (nat_lit 359, o359 P) :: (nat_lit 361, o361 P) :: (nat_lit 362, o362 P) :: (nat_lit 364, o364 P) :: (nat_lit 365, o365 P) :: (nat_lit 366, o366 P) :: (nat_lit 369, o369 P) :: (nat_lit 370, o370 P) :: (nat_lit 371, o371 P) :: (nat_lit 373, o373 P) :: (nat_lit 374, o374 P) :: (nat_lit 376, o376 P) :: (nat_lit 377, o377 P) :: (nat_lit 378, o378 P) :: (nat_lit 380, o380 P) :: (nat_lit 381, o381 P) :: (nat_lit 383, o383 P) :: (nat_lit 384, o384 P) :: (nat_lit 385, o385 P) :: (nat_lit 387, o387 P) :: (nat_lit 388, o388 P) :: (nat_lit 390, o390 P) :: (nat_lit 391, o391 P) :: (nat_lit 392, o392 P) :: (nat_lit 394, o394 P) :: (nat_lit 395, o395 P) :: (nat_lit 397, o397 P) :: (nat_lit 398, o398 P) :: (nat_lit 399, o399 P) :: (nat_lit 402, o402 P) :: (nat_lit 403, o403 P) :: (nat_lit 404, o404 P) :: (nat_lit 406, o406 P) :: (nat_lit 407, o407 P) :: (nat_lit 409, o409 P) :: (nat_lit 410, o410 P) :: (nat_lit 411, o411 P) :: (nat_lit 414, o414 P) :: (nat_lit 415, o415 P) :: (nat_lit 416, o416 P) :: (nat_lit 419, o419 P) :: (nat_lit 420, o420 P) :: []
noncomputable def k39 : List Nat := [nat_lit 2, nat_lit 3, nat_lit 15, nat_lit 22, nat_lit 23, nat_lit 25, nat_lit 26, nat_lit 28, nat_lit 29, nat_lit 30, nat_lit 32, nat_lit 33, nat_lit 35, nat_lit 36, nat_lit 37, nat_lit 38, nat_lit 39, nat_lit 40, nat_lit 43, nat_lit 50, nat_lit 51, nat_lit 52, nat_lit 55, nat_lit 62, nat_lit 63, nat_lit 64, nat_lit 67, nat_lit 69, nat_lit 70, nat_lit 72, nat_lit 73, nat_lit 74, nat_lit 76, nat_lit 77, nat_lit 79, nat_lit 80, nat_lit 81, nat_lit 83, nat_lit 84, nat_lit 86, nat_lit 87, nat_lit 88, nat_lit 90, nat_lit 91, nat_lit 93, nat_lit 94, nat_lit 102, nat_lit 104, nat_lit 105, nat_lit 107, nat_lit 108, nat_lit 109, nat_lit 111, nat_lit 112, nat_lit 114, nat_lit 115, nat_lit 116, nat_lit 118, nat_lit 119, nat_lit 121, nat_lit 122, nat_lit 123, nat_lit 124, nat_lit 125, nat_lit 126, nat_lit 127, nat_lit 137, nat_lit 139, nat_lit 140, nat_lit 142, nat_lit 143, nat_lit 144, nat_lit 146, nat_lit 147, nat_lit 149, nat_lit 150, nat_lit 151, nat_lit 154, nat_lit 155, nat_lit 156, nat_lit 159, nat_lit 160, nat_lit 161, nat_lit 162, nat_lit 163, nat_lit 164, nat_lit 165, nat_lit 168, nat_lit 170, nat_lit 171, nat_lit 173, nat_lit 174, nat_lit 175, nat_lit 177, nat_lit 178, nat_lit 180, nat_lit 181, nat_lit 182, nat_lit 184, nat_lit 185, nat_lit 187, nat_lit 188, nat_lit 189, nat_lit 192, nat_lit 193, nat_lit 194, nat_lit 197, nat_lit 198, nat_lit 199, nat_lit 202, nat_lit 203, nat_lit 204, nat_lit 207, nat_lit 208, nat_lit 209, nat_lit 211, nat_lit 212, nat_lit 214, nat_lit 215, nat_lit 216, nat_lit 218, nat_lit 219, nat_lit 221, nat_lit 222, nat_lit 223, nat_lit 225, nat_lit 226, nat_lit 228, nat_lit 229, nat_lit 230, nat_lit 232, nat_lit 233, nat_lit 235, nat_lit 236, nat_lit 237, nat_lit 239, nat_lit 240, nat_lit 242, nat_lit 243, nat_lit 244, nat_lit 246, nat_lit 247, nat_lit 249, nat_lit 250, nat_lit 258, nat_lit 260, nat_lit 261, nat_lit 263, nat_lit 264, nat_lit 265, nat_lit 267, nat_lit 268, nat_lit 270, nat_lit 271, nat_lit 272, nat_lit 274, nat_lit 275, nat_lit 277, nat_lit 278, nat_lit 279, nat_lit 281, nat_lit 282, nat_lit 284, nat_lit 285, nat_lit 286, nat_lit 289, nat_lit 290, nat_lit 291, nat_lit 292, nat_lit 293, nat_lit 294, nat_lit 295, nat_lit 298, nat_lit 300, nat_lit 301, nat_lit 303, nat_lit 304, nat_lit 305, nat_lit 307, nat_lit 308, nat_lit 310, nat_lit 311, nat_lit 312, nat_lit 314, nat_lit 315, nat_lit 317, nat_lit 318, nat_lit 319, nat_lit 321, nat_lit 322, nat_lit 324, nat_lit 325, nat_lit 326, nat_lit 328, nat_lit 329, nat_lit 331, nat_lit 332, nat_lit 333, nat_lit 335, nat_lit 336, nat_lit 338, nat_lit 339, nat_lit 340, nat_lit 342, nat_lit 343, nat_lit 345, nat_lit 346, nat_lit 347, nat_lit 350, nat_lit 351, nat_lit 352, nat_lit 354, nat_lit 355, nat_lit 357, nat_lit 358, nat_lit 359, nat_lit 361, nat_lit 362, nat_lit 364, nat_lit 365, nat_lit 366, nat_lit 369, nat_lit 370, nat_lit 371, nat_lit 373, nat_lit 374, nat_lit 376, nat_lit 377, nat_lit 378, nat_lit 380, nat_lit 381, nat_lit 383, nat_lit 384, nat_lit 385, nat_lit 387, nat_lit 388, nat_lit 390, nat_lit 391, nat_lit 392, nat_lit 394, nat_lit 395, nat_lit 397, nat_lit 398, nat_lit 399, nat_lit 402, nat_lit 403, nat_lit 404, nat_lit 406, nat_lit 407, nat_lit 409, nat_lit 410, nat_lit 411, nat_lit 414, nat_lit 415, nat_lit 416, nat_lit 419, nat_lit 420]
noncomputable def viewP : Program := { prg with main := { prg.main with body := [topS 1, topS 2, topS 3, topS 5, topS 6, topS 7, topS 8, topS 9, topS 10, topS 11, topS 12, topS 13, topS 14, topS 15, topS 16, topS 17, topS 18, topS 19, topS 21, topS 23, topS 24, topS 25, topS 26, topS 27, topS 28, topS 29, topS 30, topS 31, topS 33, topS 34, topS 35, topS 36, topS 37, topS 38, topS 39, topS 40, topS 41, topS 42, topS 43, topS 44, topS 45, topS 46, topS 48, topS 49, topS 50, topS 51, topS 52, topS 53, topS 54, topS 55, topS 56] } }

end
section
/-! the head: the text's top is run by the kernel -/
noncomputable abbrev prgW : Program := PySem.Challenge.rw_nz0304_01.row.toRowW.1
set_option maxHeartbeats 0 in
theorem run_top (w : World) : (fun os : OsState => topRun treeTable prgW w 11 (some (.ref 6)) 2877 ⟨boot_heap w.params, ⟨[]⟩, boot_drawn, boot_toks, os⟩ (topStub prgW)) = fun os => some ⟨hpEnd w.params, ⟨[]⟩, {}, 748, os⟩ := by
  rewrite [PySem.W.Fast.te14082659384304107361, PySem.W.Fast.te14364793385576792824]
  kernel_rfl
theorem size_top (w : World) : ((boot_heap w.params).isNs mainGlobals && (⟨[]⟩ : Array GenState).size == 0, (boot_heap w.params).objs.size, (boot_heap w.params).nsMap mainGlobals "__annotations__") = (true, 11, some (.ref 6)) := by kernel_rfl
noncomputable abbrev hookK : Hook := kHook K39 k39 (fun _ => by kernel_rfl)
noncomputable abbrev xtP : Shared → Bool := fun s => xlAt viewP [] s && recOk (RowW.records PySem.Challenge.rw_nz0304_01.row.toRowW) s
theorem open_top' : ∀ w : World, (fencedOpening treeTable prgW w 5828).map (fun s => (s.heap, s.gens, s.drawn, s.toks)) = some (boot_heap w.params, Array.mk [], boot_drawn, boot_toks) :=
  boot_open (by kernel_rfl) (by decide) (fun s => by kernel_rfl)
set_option maxHeartbeats 0 in
theorem looks_top (w : World) : (fun os : OsState => ((staticsOk (importedModules prgW.main.body) (boot_heap w.params) (hpEnd w.params) && namesBound prgW (hpEnd w.params) && gensDone ⟨hpEnd w.params, ⟨[]⟩, {}, 748, os⟩ && laidKept (boot_heap w.params) (hpEnd w.params)),
    openSeen viewP ["PostError"] (importedModules prgW.main.body) xtP true ⟨hpEnd w.params, ⟨[]⟩, {}, 748, os⟩, hookK.obs ⟨hpEnd w.params, ⟨[]⟩, {}, 748, os⟩)) = fun _ => (true, openGood viewP ["PostError"], hookK.val w) := by
  rewrite [PySem.W.Fast.te4187177175401517315]
  kernel_rfl
theorem left_top : LeftO prgW viewP ["PostError"] xtP hookK.obs hookK.val 5828 :=
  LeftO.of_pieces (M := 2877) open_top' size_top (fun w os => congrFun (run_top w) os) (by decide) looks_top
theorem said_ok : PySem.Challenge.rw_nz0304_01.wellSaid = true := by kernel_rfl

end
theorem kfill : PySem.Challenge.rw_nz0304_01 = PySem.Challenge.rw_nz0304_01 ∧ K39 = K39 := by k_fill; exact ⟨rfl, rfl⟩
section


/-- what stands at the law's call: the text's own objects, the globals, the builtins -/
structure Wd where
  w : World
  H0 : Heap
  mg : Str → Option Value
  mb : Str → Option Value
  p : Program
  loose : List Str
  X : (K39 w.params).In H0
  T : TopRead p loose mg mb H0

theorem ltNe {a b : Nat} (h : a < b) : a ≠ b := Nat.ne_of_lt h
theorem gtNe {a b : Nat} (h : b < a) : a ≠ b := Nat.ne_of_gt h
noncomputable def Sub (h h' : Heap) : Prop := ∀ b o, h.get? b = some o → h'.get? b = some o
theorem Sub.refl (h : Heap) : Sub h h := fun _ _ e => e
theorem Sub.trans {a b c : Heap} (x : Sub a b) (y : Sub b c) : Sub a c := fun _ _ e => y _ _ (x _ _ e)

theorem Wd.X' (W : Wd) {h : Heap} (S : Sub W.H0 h) : (K39 W.w.params).In h := W.X.keeps S
theorem Wd.T' (W : Wd) {h : Heap} (S : Sub W.H0 h) : TopRead W.p W.loose W.mg W.mb h := W.T.keeps S

structure Rm (n : Nat) (A : Around) : Prop where
  depth : A.depth + n < recursionLimit
  units : A.units + 8 * n < cLine

theorem Rm.deeper {n : Nat} {A : Around} {env : Env} (r : Rm (n+1) A) : Rm n (A.deeper env) :=
  ⟨by have := r.depth; show A.depth + 1 + n < _; omega, by have := r.units; show A.units + 3 + 8 * n < _; omega⟩
theorem Rm.room {n : Nat} {A : Around} (r : Rm n A) : A.depth < recursionLimit := by have := r.depth; omega
theorem Rm.cu {n : Nat} {A : Around} (r : Rm n A) : A.units < cLine := by have := r.units; omega

noncomputable abbrev Ar (dp : Nat) (fr : Option (List Env)) (gd : Option (List Code)) (un : Nat) : Around := { handled := none, depth := dp, frames := fr, guards := gd, units := un }
theorem rmUp {n m dp un dp' un' : Nat} {fr fr' : Option (List Env)} {gd gd' : Option (List Code)} (r : Rm m (Ar dp fr gd un)) (h1 : dp' + n ≤ dp + m) (h2 : un' + 8 * n ≤ un + 8 * m) : Rm n (Ar dp' fr' gd' un') :=
  ⟨Nat.lt_of_le_of_lt h1 r.depth, Nat.lt_of_le_of_lt h2 r.units⟩
theorem rmUp0 {n m : Nat} {A : Around} (r : Rm m A := by assumption) (h : Nat.ble n m = true := by rfl) : Rm n A :=
  have h := Nat.le_of_ble_eq_true h
  ⟨Nat.lt_of_le_of_lt (Nat.add_le_add_left h _) r.depth, Nat.lt_of_le_of_lt (Nat.add_le_add_left (Nat.mul_le_mul_left 8 h) _) r.units⟩
theorem rmUp1 {n m : Nat} {A : Around} {env : Env} (r : Rm m A := by assumption) (h : Nat.ble (n + 1) m = true := by rfl) : Rm n (A.deeper env) := Rm.deeper (rmUp0 r h)
theorem ltT {a b c : Nat} (h : a < b := by assumption) (k : Nat.ble b c = true := by rfl) : a ≤ c := Nat.le_trans (Nat.le_of_lt h) (Nat.le_of_ble_eq_true k)
theorem leT {a b c : Nat} (h : a ≤ b := by assumption) (k : Nat.ble b c = true := by rfl) : a ≤ c := Nat.le_trans h (Nat.le_of_ble_eq_true k)
theorem rmUp2 {n m dp un : Nat} {fr fr' : Option (List Env)} {gd gd' : Option (List Code)} (r : Rm m (Ar dp fr gd un) := by assumption) (h : Nat.ble (n + 1) m = true := by rfl) : Rm n (Ar (dp + 1) fr' gd' (un + 3)) :=
  rmUp r (by have := Nat.le_of_ble_eq_true h; omega) (by have := Nat.le_of_ble_eq_true h; omega)
theorem allCons {α : Type} {P : α → Prop} {x : α} {l : List α} (a : P x) (b : ∀ p ∈ l, P p) : ∀ p ∈ x :: l, P p := fun p hp => by
  rcases List.mem_cons.mp hp with rfl | hp
  · exact a
  · exact b p hp
theorem allNil {α : Type} {P : α → Prop} : ∀ p ∈ ([] : List α), P p := fun _ h => by cases h
theorem allOne {α : Type} {P : α → Prop} {x : α} (a : P x) : ∀ p ∈ [x], P p := allCons a allNil
/-- a def of the text stands at f; its body and its names are those of the text, written out -/
noncomputable def FnAt (w : World) (f : Addr) (name qual : Str) (params : Arguments) (body : List Stmt) (scope : Scope) (dV kV doc pm : Value) (an : Option Addr) (cdv ct oc : Value) (od : Option Addr) (osl : Array (Option Value)) : Prop :=
  ∃ b0 s0, (K39 w.params).lookup f = some ⟨oc, od, .func (fnOf name qual params b0 s0 dV kV doc pm an cdv ct), osl⟩ ∧ b0 = body ∧ s0 = scope
theorem FnAt.intro {w : World} {f : Addr} {name qual : Str} {params : Arguments} {body b0 : List Stmt} {scope s0 : Scope} {dV kV doc pm : Value} {an : Option Addr} {cdv ct oc : Value} {od : Option Addr} {osl : Array (Option Value)}
    (h : (K39 w.params).lookup f = some ⟨oc, od, .func (fnOf name qual params b0 s0 dV kV doc pm an cdv ct), osl⟩) (hb : b0 = body) (hs : s0 = scope) : FnAt w f name qual params body scope dV kV doc pm an cdv ct oc od osl := ⟨_, _, h, hb, hs⟩
theorem FnAt.look {w : World} {f : Addr} {name qual : Str} {params : Arguments} {body : List Stmt} {scope : Scope} {dV kV doc pm : Value} {an : Option Addr} {cdv ct oc : Value} {od : Option Addr} {osl : Array (Option Value)} (x : FnAt w f name qual params body scope dV kV doc pm an cdv ct oc od osl) :
    (K39 w.params).lookup f = some ⟨oc, od, .func (fnOf name qual params body scope dV kV doc pm an cdv ct), osl⟩ := by
  obtain ⟨_, _, h, rfl, rfl⟩ := x; exact h
section
variable {w : World} {A : Around} {R : Result → Shared → Prop} {h : Heap} {g : Array GenState} {d : Drawn} {t : Nat} {o : OsState}

/-- a call of a def of the text without cells -/
theorem codeDef (W : Wd) {n : Nat} {name qual : Str} {params : Arguments} {body : List Stmt} {scope : Scope} {dV kV doc pm cdv ct oc : Value} {an od : Option Addr} {osl : Array (Option Value)} {f : Addr} {args : List Value} (binds : List (Str × Value))
    (S : Sub W.H0 h) (r : Rm n A)
    (body_ : ∀ (L : Addr) (h₁ : Heap), Fr h L h₁ (fun y => binds.reverse.lookup y) → News h L h₁ [] → ∀ t',
      wpAny (model prg W.w) (A.deeper (envOf qual scope L f cdv)) (execs body (envOf qual scope L f cdv))
        (fun fl s' => R (.ok (.ret (match fl with | .ret v => v | _ => .none))) s')
        (fun e s' => wpAny (model prg W.w) (A.deeper (envOf qual scope L f cdv)) (leaving (envOf qual scope L f cdv) e) (fun _ s'' => R (.error e) s'') (fun e' s'' => R (.error e') s'') s')
        ⟨h₁, g, d, t', o⟩)
    (ho : FnAt W.w f name qual params body scope dV kV doc pm an cdv ct oc od osl := by walk_at "hoK") (hcd : codeIn (K39 W.w.params) cdv qual = true := by k_is)
    (hbind : BindsTo ⟨h, g, d, t, o⟩ (fnOf name qual params body scope dV kV doc pm an cdv ct) ⟨args, []⟩ binds := by exact BindsTo.of_eq rfl) (hloc : (binds.all fun x => decide (scope.names.lookup x.1 = some .local)) = true := by rfl)
    (hcell : (scope.names.all fun x => x.2 != .cell) = true := by rfl) (hco : scope.isCoroutine = false := by rfl) (hgen : scope.isGenerator = false := by rfl) (hk : scope.kind = .function := by rfl) :
    codeAny (model prg W.w) A (.call (.ref f) ⟨args, []⟩) R ⟨h, g, d, t, o⟩ := by
  refine codeAny_call_def (fd := fnOf name qual params body scope dV kV doc pm an cdv ct) (body := body) (binds := binds) r.room (S _ _ (W.X _ _ ho.look)) rfl (W.T.nolimit.keeps S) (codeRec_of (W.X.keeps S) hcd) rfl hbind
    (fun x hx => by have := List.all_eq_true.mp hcell x hx; simpa using this) (locs hloc) (fun h₁ hns hk₁ => ?_) hco hgen hk
  exact body_ _ h₁ ⟨hns, hk₁, Nat.le_refl _⟩ News.nil _
theorem callDef (W : Wd) {n : Nat} {name qual : Str} {params : Arguments} {body : List Stmt} {scope : Scope} {dV kV doc pm cdv ct oc : Value} {an od : Option Addr} {osl : Array (Option Value)} {f : Addr} {args : List Value} (binds : List (Str × Value))
    {Q E : Value → Shared → Prop}
    (S : Sub W.H0 h) (r : Rm n A)
    (body_ : ∀ (L : Addr) (h₁ : Heap), Fr h L h₁ (fun y => binds.reverse.lookup y) → News h L h₁ [] → ∀ t',
      wpAny (model prg W.w) (A.deeper (envOf qual scope L f cdv)) (execs body (envOf qual scope L f cdv))
        (fun fl s' => Q (match fl with | .ret v => v | _ => .none) s')
        (fun e s' => wpAny (model prg W.w) (A.deeper (envOf qual scope L f cdv)) (leaving (envOf qual scope L f cdv) e) (fun _ s'' => E e s'') (fun e' s'' => E e' s'') s')
        ⟨h₁, g, d, t', o⟩)
    (ho : FnAt W.w f name qual params body scope dV kV doc pm an cdv ct oc od osl := by walk_at "hoK") (hcd : codeIn (K39 W.w.params) cdv qual = true := by k_is)
    (hbind : BindsTo ⟨h, g, d, t, o⟩ (fnOf name qual params body scope dV kV doc pm an cdv ct) ⟨args, []⟩ binds := by exact BindsTo.of_eq rfl) (hloc : (binds.all fun x => decide (scope.names.lookup x.1 = some .local)) = true := by rfl)
    (hcell : (scope.names.all fun x => x.2 != .cell) = true := by rfl) (hco : scope.isCoroutine = false := by rfl) (hgen : scope.isGenerator = false := by rfl) (hk : scope.kind = .function := by rfl) :
    wpAny (model prg W.w) A (call (.ref f) args) Q E ⟨h, g, d, t, o⟩ :=
  wpAny_call (codeDef W binds S r body_ ho hcd hbind hloc hcell hco hgen hk)
end
theorem Rm.mono {n m : Nat} {A : Around} (hnm : n ≤ m) (r : Rm m A) : Rm n A := ⟨by have := r.depth; omega, by have := r.units; omega⟩
section
variable {h₀ h h' : Heap} {L : Addr} {m : Str → Option Value} {news : List (Addr × Obj)}
theorem frSub (hs : Sub h h') (F : Fr h₀ L h m) : Fr h₀ L h' m := ⟨F.ns.keeps hs, fun b o e => hs _ _ (F.keep b o e), F.above⟩
theorem newsSub (hs : Sub h h') (N : News h₀ L h news) : News h₀ L h' news := fun p hp => ⟨hs _ _ (N p hp).1, (N p hp).2⟩
theorem frS (hs : Sub h h' := by assumption) (F : Fr h₀ L h m := by assumption) : Fr h₀ L h' m := frSub hs F
theorem newsS (hs : Sub h h' := by assumption) (N : News h₀ L h news := by assumption) : News h₀ L h' news := newsSub hs N
theorem subF {H : Heap} (F : Fr h₀ L h m) (S : Sub H h₀) : Sub H h := S.trans F.keep
theorem retS {Q : Value → Shared → Prop} {x y : Str} {u : Tok} {s : Shared} (k : ∀ u, Q (.str y u) s) (e : x = y) : Q (.str x u) s := e ▸ k u
theorem retB {Q : Value → Shared → Prop} {x y : Bool} {s : Shared} (k : Q (.bool y) s) (e : x = y) : Q (.bool x) s := e ▸ k
theorem retI {Q : Value → Shared → Prop} {x y : Int} {u : Tok} {s : Shared} (k : ∀ u, Q (.int y u) s) (e : x = y) : Q (.int x u) s := e ▸ k u
theorem retv {Q : Value → Shared → Prop} {v v' : Value} {s : Shared} (k : Q v' s) (e : v = v') : Q v s := e ▸ k
end
section
variable {M : Model} {A : Around} {E : Value → Shared → Prop} {h : Heap} {g : Array GenState} {d : Drawn} {t : Nat} {o : OsState} {Q : Value → Shared → Prop} {env : Env}
theorem cInt {i : Int} {k : Nat} {pos : Pos} (h1 : ∀ t' u, Q (.int i u) ⟨h, g, d, t', o⟩) : wpAny M A (eval (.Constant (.int i) k pos) env) Q E ⟨h, g, d, t, o⟩ := wpAny_Constant_int (h1 _ _)
theorem cStr {i : Str} {k : Nat} {pos : Pos} (h1 : ∀ t' u, Q (.str i u) ⟨h, g, d, t', o⟩) : wpAny M A (eval (.Constant (.str i) k pos) env) Q E ⟨h, g, d, t, o⟩ := Constant_str (h1 _ _)
end
end
local macro_rules | `(tactic| walk_at "nt") => `(tactic| (have F' := frS; have N' := newsS))
local macro_rules | `(tactic| size_fits) => `(tactic| first | exact leT | exact ltT)
local macro_rules | `(tactic| walk_at "s") => `(tactic| exact subF (by assumption) (by assumption))
local macro_rules | `(tactic| walk_at "om") => `(tactic| first | exact leT | exact ltT | omega)
local macro_rules | `(tactic| walk_at "ao") => `(tactic| first | assumption | walk_at "om")
local macro_rules | `(tactic| walk_at "hoK") => `(tactic| (refine' FnAt.intro ?hoa ?hob ?hoc; (case hoa => k_is); (case hob => ((conv => lhs; whnf); try exact rfl)); (case hoc => ((conv => lhs; whnf); try exact rfl))))
local macro_rules | `(tactic| walk_at "room") => `(tactic| first | exact rmUp1 | exact rmUp2 | exact rmUp0 | (refine rmUp (by assumption) ?_ ?_ <;> (try dsimp only [Ar]) <;> omega))
local macro_rules | `(tactic| walk_at "eval Constant int") => `(tactic| (refine cInt ?_; intro _ _))
local macro_rules | `(tactic| walk_at "eval Constant str") => `(tactic| (refine cStr ?_; intro _ _))
section

/-- q is new, and this object stands there -/
structure New (h h' : Heap) (q : Addr) (ob : Obj) : Prop where
  none_ : h.get? q = none
  get : h'.get? q = some ob
noncomputable abbrev tupO (vs : List Value) : Obj := { cls := .type "tuple", data := .seq vs.toArray }
section
variable {h₀ h h' : Heap} {L q : Addr} {m : Str → Option Value} {news : List (Addr × Obj)} {ob : Obj}
theorem newsNew (F : Fr h₀ L h m) (hs : Sub h h') (N : News h₀ L h news) (n : New h h' q ob) : News h₀ L h' ((q, ob) :: news) := fun p hp => by
  rcases List.mem_cons.mp hp with rfl | hp
  · refine ⟨n.get, fun e => ?_, ?_⟩
    · obtain ⟨o, _, _, ho, _⟩ := F.ns
      have e' : q = L := e
      have := n.none_; rw [e', ho] at this; cases this
    · cases hq : h₀.get? q with
      | none => rfl
      | some o => have := F.keep _ _ hq; rw [n.none_] at this; cases this
  · exact newsSub hs N p hp
theorem newsN (n : New h h' q ob := by assumption) (hs : Sub h h' := by assumption) (F : Fr h₀ L h m := by assumption) (N : News h₀ L h news := by assumption) : News h₀ L h' ((q, ob) :: news) := newsNew F hs N n
theorem newOf (N : News h₀ L h news) (hm : (q, ob) ∈ news) : New h₀ h q ob := ⟨(N _ hm).2.2, (N _ hm).1⟩
end
section
/-- what is wanted behind a step, as a name: the walk's goals stay small -/
theorem wp_abs {M : Model} {A : Around} {α : Type} {x : Sem α} {Q : α → Shared → Prop} {E : Value → Shared → Prop} {s : Shared} (h : ∀ (Q1 : α → Shared → Prop) (_ : ∀ v s', Q v s' → Q1 v s') (E1 : Value → Shared → Prop) (_ : ∀ e s', E e s' → E1 e s'), wpAny M A x Q1 E1 s) : wpAny M A x Q E s :=
  h Q (fun _ _ z => z) E (fun _ _ z => z)
/-- a goal as a name, while facts are taken apart -/
theorem gAbs {P : Prop} (h : ∀ G : Prop, (P → G) → G) : P := h P id
theorem wp_absQ {M : Model} {A : Around} {α : Type} {x : Sem α} {Q : α → Shared → Prop} {E : Value → Shared → Prop} {s : Shared} (h : ∀ (Q1 : α → Shared → Prop) (_ : ∀ v s', Q v s' → Q1 v s') (E1 : Value → Shared → Prop), wpAny M A x Q1 E1 s) : wpAny M A x Q E s :=
  h Q (fun _ _ z => z) E
theorem wp_absO {M : Model} {A : Around} {α : Type} {x : Sem α} {Q : α → Shared → Prop} {E : Value → Shared → Prop} {s : Shared} (h : ∀ (Q1 : α → Shared → Prop) (_ : ∀ v s', Q v s' → Q1 v s'), wpAny M A x Q1 E s) : wpAny M A x Q E s := h Q (fun _ _ z => z)
theorem turn_absB {M : Model} {A : Around} {x : Sem Unit} {b : Sem Flow} {Q : Flow → Shared → Prop} {E : Value → Shared → Prop} {s : Shared} (h : ∀ (Q1 : Flow → Shared → Prop) (_ : ∀ v s', Q v s' → Q1 v s') (E1 : Value → Shared → Prop) (_ : ∀ e s', E e s' → E1 e s'), wpAny M A x (fun _ s₂ => wpAny M A b Q1 E1 s₂) E1 s) : wpAny M A x (fun _ s₂ => wpAny M A b Q E s₂) E s :=
  h Q (fun _ _ z => z) E (fun _ _ z => z)
theorem turn_abs {M : Model} {A : Around} {x : Sem Unit} {b : Sem Flow} {Q : Flow → Shared → Prop} {E : Value → Shared → Prop} {s : Shared} (h : ∀ (Q1 : Flow → Shared → Prop) (_ : ∀ v s', Q v s' → Q1 v s') (E1 : Value → Shared → Prop), wpAny M A x (fun _ s₂ => wpAny M A b Q1 E1 s₂) E1 s) : wpAny M A x (fun _ s₂ => wpAny M A b Q E s₂) E s :=
  h Q (fun _ _ z => z) E
end

end
section
/-! A comprehension by an invariant: elements may make things and turn things -/
section
variable {prog : Program} {w : World} {A : Around} {E : Value → Shared → Prop} {env : Env} {g : Array GenState} {d : Drawn} {t : Nat} {o : OsState} {h : Heap}

noncomputable abbrev testsOf (ifs : List Expr) (cenv : Env) : Sem Bool := forIn ifs true fun c r => if r = true then do let ok ← isTrue c cenv (eval c cenv); pure (ForInStep.yield ok) else pure (ForInStep.yield r)

noncomputable def isTup (o : Obj) : Prop := o.cls = .type "tuple" ∧ ∃ vs n, o.data = .seq vs n
theorem cell_lookup {names : List (Str × NameKind)} (h : (names.all fun x => x.2 != .cell) = true) : ∀ y ∈ names, y.2 ≠ .cell := fun y hy => by simpa using List.all_eq_true.mp h y hy
theorem free_lookup {names : List (Str × NameKind)} (h : (names.all fun x => x.2 != .free) = true) : ∀ y ∈ names, y.2 ≠ .free := fun y hy => by simpa using List.all_eq_true.mp h y hy
theorem local_lookup {names : List (Str × NameKind)} (h : (names.all fun y => y.2 != .local || decide (names.lookup y.1 = some .local)) = true) : ∀ y ∈ names, y.2 = .local → names.lookup y.1 = some .local := fun y hy e => by
  have := List.all_eq_true.mp h y hy
  simpa [e] using this
theorem tupNotNs {hh : Heap} {C : Addr} {mm : Str → Option Value} {b : Addr} {ob : Obj} (n : hh.Ns C mm) (q : hh.get? b = some ob) (z : isTup ob) : b ≠ C := fun e => by
  obtain ⟨oc, _, _, hc, hd, _⟩ := n
  rw [e, hc] at q; cases q
  obtain ⟨_, _, _, z⟩ := z
  rw [hd] at z; cases z
/-- what a comprehension over I's walk asks: J, over the frame's and the list's place, the turn's number, the items so far, the heap -/
structure CompInv (prog : Program) (w : World) (A : Around) (env : Env) (scope : Scope) (cl : List (Str × Addr)) (x : Str) (ifs : List Expr) (elt : Expr) (g : Array GenState) (d : Drawn) (o : OsState)
    (fp wr : List Addr) (n : Nat) (P : Nat → Value → Prop) (h : Heap) (KP : Obj → Prop) (J : Addr → Addr → Nat → List Value → Heap → Prop) : Prop where
  start : ∀ C D h', h.objs.size ≤ C → h.objs.size ≤ D → Sub h h' → J C D 0 [] h'
  stable : ∀ C D i ys h₁ h', h.objs.size ≤ C → h.objs.size ≤ D → J C D i ys h₁ → (∀ b ob, h₁.get? b = some ob → (b ≠ C ∧ b ≠ D ∧ b ∉ wr) ∨ KP ob → h'.get? b = some ob) → J C D i ys h'
  turn : ∀ C D i v ys h₁ t₁ m E', h.objs.size ≤ C → h.objs.size ≤ D → C ≠ D → i < n → P i v → ys.length ≤ i → J C D i ys h₁ → h₁.Ns C m → m x = some v →
    wpAny (model prog w) A (testsOf ifs (compEnvC scope cl C env)) (fun ok s₃ => if ok = true then wpAny (model prog w) A (eval elt (compEnvC scope cl C env)) (fun y s₄ => ∃ h₄ t₄, s₄ = ⟨h₄, g, d, t₄, o⟩ ∧
        J C D (i + 1) (ys ++ [y]) h₄ ∧ ∀ b ob, (b ∈ fp ∨ b = C ∨ b = D) → h₁.get? b = some ob → h₄.get? b = some ob) E' s₃
      else ∃ h₄ t₄, s₃ = ⟨h₄, g, d, t₄, o⟩ ∧ J C D (i + 1) ys h₄ ∧ ∀ b ob, (b ∈ fp ∨ b = C ∨ b = D) → h₁.get? b = some ob → h₄.get? b = some ob) E' ⟨h₁, g, d, t₁, o⟩

end
/-! the comprehension again, with a looser end of a turn: its frame need not stay object for object -/
inductive CompEnd (g : Array GenState) (d : Drawn) (o : OsState) (fp : List Addr) (C D : Addr) (J : Heap → Prop) (h₁ : Heap) (s' : Shared) : Prop
  | mk (h₄ : Heap) (t₄ : Nat) (e : s' = ⟨h₄, g, d, t₄, o⟩) (j : J h₄) (n : ∃ m', h₄.Ns C m') (k : ∀ b ob, (b ∈ fp ∨ b = D) → h₁.get? b = some ob → h₄.get? b = some ob)
theorem CompEnd.intro {g : Array GenState} {d : Drawn} {o : OsState} {fp : List Addr} {C D : Addr} {J : Heap → Prop} {h₁ h₄ : Heap} {t₄ : Nat} {m' : Str → Option Value} (j : J h₄) (n : h₄.Ns C m') (k : ∀ b ob, (b ∈ fp ∨ b = D) → h₁.get? b = some ob → h₄.get? b = some ob) : CompEnd g d o fp C D J h₁ ⟨h₄, g, d, t₄, o⟩ := ⟨h₄, t₄, rfl, j, ⟨m', n⟩, k⟩
section
variable {prog : Program} {w : World} {A : Around} {E : Value → Shared → Prop} {env : Env} {g : Array GenState} {d : Drawn} {t : Nat} {o : OsState} {h : Heap}
/-- what a comprehension over I's walk asks: J, over the frame's and the list's place, the turn's number, the items so far, the heap -/
structure CompInvN (prog : Program) (w : World) (A : Around) (env : Env) (scope : Scope) (cl : List (Str × Addr)) (x : Str) (ifs : List Expr) (elt : Expr) (g : Array GenState) (d : Drawn) (o : OsState)
    (fp wr : List Addr) (n : Nat) (P : Nat → Value → Prop) (h : Heap) (KP : Obj → Prop) (J : Addr → Addr → Nat → List Value → Heap → Prop) : Prop where
  start : ∀ C D h', h.objs.size ≤ C → h.objs.size ≤ D → Sub h h' → J C D 0 [] h'
  stable : ∀ C D i ys h₁ h', h.objs.size ≤ C → h.objs.size ≤ D → J C D i ys h₁ → (∀ b ob, h₁.get? b = some ob → (b ≠ C ∧ b ≠ D ∧ b ∉ wr) ∨ KP ob → h'.get? b = some ob) → J C D i ys h'
  turn : ∀ C D i v ys h₁ t₁ m E', h.objs.size ≤ C → h.objs.size ≤ D → C ≠ D → i < n → P i v → ys.length ≤ i → J C D i ys h₁ → h₁.Ns C m → m x = some v →
    wpAny (model prog w) A (testsOf ifs (compEnvC scope cl C env)) (fun ok s₃ => if ok = true then wpAny (model prog w) A (eval elt (compEnvC scope cl C env)) (fun y s₄ => CompEnd g d o fp C D (J C D (i + 1) (ys ++ [y])) h₁ s₄) E' s₃
      else CompEnd g d o fp C D (J C D (i + 1) ys) h₁ s₃) E' ⟨h₁, g, d, t₁, o⟩

/-- between two turns of a comprehension -/
inductive CompMid (g : Array GenState) (d : Drawn) (o : OsState) (D C : Addr) (n : Nat) (St : Nat → Heap → Prop) (J : Addr → Addr → Nat → List Value → Heap → Prop) (k : Nat) (s' : Shared) : Prop
  | mk (h' : Heap) (t' : Nat) (m' : Str → Option Value) (ys : List Value) (i : Nat) (e : s' = ⟨h', g, d, t', o⟩) (st : St i h') (li : h'.IsList D ys.toArray) (ni : h'.Ns C m') (hys : ys.length ≤ i) (hi : i ≤ n) (hk : k = n + 1 - i) (hJ : J C D i ys h')
theorem comp_coreN {elt iter : Expr} {x : Str} {px : Pos} {ifs : List Expr} {scope : Scope} {cl : List (Str × Addr)} {pos : Pos} {I : Addr} {fp wr : List Addr} {n : Nat} {P : Nat → Value → Prop}
    {St : Nat → Heap → Prop} {J : Addr → Addr → Nat → List Value → Heap → Prop} (W : Walks prog w A I fp wr n P St) {RR : Value → Addr → Result → Shared → Prop}
    (hcell : ∀ y ∈ scope.names, y.2 ≠ .cell) (hkind : scope.kind = .function) (hx : scope.names.lookup x = some .local) (hst : St 0 h) (hfp : ∀ b ∈ fp, b < h.objs.size)
    {KP : Obj → Prop} (hJ : CompInvN prog w A env scope cl x ifs elt g d o fp wr n P h KP J) (hkp : ∀ ob, KP ob → isTup ob) (hwk : ∀ i h, St i h → ∀ b ∈ wr, ∀ ob, h.get? b = some ob → ¬ KP ob)
    (hRR : ∀ D C h' t' m' ys, h.objs.size ≤ C → h.objs.size ≤ D → D ≠ C → h'.Ns C m' → h'.IsList D ys.toArray → ys.length ≤ n → J C D n ys h' → RR (.ref D) C (.ok .next) ⟨h', g, d, t', o⟩)
    (hsz : n ≤ sizeLine) :
    wpAny (model prog w) A (newList []) (fun acc s₃ => wpAny (model prog w) A (newFunctionEnv scope env.globals cl [] env.qual none .none (some env)) (fun cenv s₄ =>
      codeAny (model prog w) A (.compStart (.ListComp elt [⟨.Name x px, iter, ifs, 0⟩] scope pos) 0 (.ref I) acc { cenv with scope := relabel scope env }) (RR acc cenv.locals) s₄) E s₃) E ⟨h, g, d, t, o⟩ := by
  refine wpAny_newObj_type (wpAny_newFunctionEnv hcell (by intro y hy; simp at hy) (fun h₁ hns₁ hsb₁ => ?_) hkind)
  dsimp only at hns₁ hsb₁ ⊢
  generalize hH2 : h.push { cls := .type "list", dict := none, data := .seq ([] : List Value).toArray } = H2 at hns₁ hsb₁ ⊢
  have hC : H2.objs.size = h.objs.size + 1 := by rw [← hH2, Heap.size_push]
  have hDC : h.objs.size ≠ H2.objs.size := by rw [hC]; exact Nat.ne_of_lt (Nat.lt_succ_self _)
  have hCle : h.objs.size ≤ H2.objs.size := by rw [hC]; exact Nat.le_succ _
  have below : ∀ b, b < h.objs.size → b ≠ H2.objs.size ∧ b ≠ h.objs.size := fun b hb => ⟨by rw [hC]; exact Nat.ne_of_lt (Nat.lt_succ_of_lt hb), Nat.ne_of_lt hb⟩
  have hDf : h.objs.size ∉ fp := fun hm => Nat.lt_irrefl _ (hfp _ hm)
  have hCf : H2.objs.size ∉ fp := fun hm => by have := hfp _ hm; rw [hC] at this; exact Nat.lt_irrefl _ (Nat.lt_of_succ_lt this)
  have hDw : h.objs.size ∉ wr := fun hm => hDf (W.sub _ hm)
  have hCw : H2.objs.size ∉ wr := fun hm => hCf (W.sub _ hm)
  have old : Sub h h₁ := fun b ob e => hsb₁.extBut b ob (below b (Heap.lt_size e)).1 (Heap.get?_push_of_some _ (hH2 ▸ Heap.get?_push_of_some _ e))
  have hacc : h₁.IsList h.objs.size #[] := ⟨_, hsb₁.extBut _ _ hDC (Heap.get?_push_of_some _ (hH2 ▸ Heap.get?_push_size _ rfl)), rfl, 0, rfl⟩
  have tupD : ∀ {hh : Heap} {D : Addr} {vs : Array Value} {b : Addr} {ob : Obj}, hh.IsList D vs → hh.get? b = some ob → isTup ob → b ≠ D := fun n q z e => by
    obtain ⟨oc, hc, hd, _⟩ := n
    rw [e, hc] at q; cases q
    have z1 := z.1
    rw [hd] at z1; injection z1 with z1; exact absurd z1 (by decide)
  have hst₁ : St 0 h₁ := W.frame _ _ _ hst fun b _ ob e => old b ob e
  have hxl : (compEnvC scope cl H2.objs.size env).kindOf x = some .local := lookup_relabel_local hx
  have hpl : ((compEnvC scope cl H2.objs.size env).scope.kind == .class || ((compEnvC scope cl H2.objs.size env).scope.kind == .module && (compEnvC scope cl H2.objs.size env).locals != (compEnvC scope cl H2.objs.size env).globals)) = false := by simp [compEnvC, relabel, hkind]
  have loop : ∀ s₃ : Shared, s₃ = ⟨h₁, g, d, t + ([] : List (Str × Value)).length, o⟩ →
      codeAny (model prog w) A (.compLoop (.ListComp elt [⟨.Name x px, iter, ifs, 0⟩] scope pos) 0 (.ref I) (.ref h.objs.size) (compEnvC scope cl H2.objs.size env))
        (RR (.ref h.objs.size) H2.objs.size) s₃ := by
    rintro s₃ rfl
    refine codeAny_compLoop_tests (CompMid g d o h.objs.size H2.objs.size n St J) ?_ (n + 1)
      ⟨h₁, _, _, [], 0, rfl, hst₁, hacc, hns₁, Nat.le_refl _, Nat.zero_le _, rfl, hJ.start _ _ _ hCle (Nat.le_refl _) old⟩
    rintro k s' ⟨h', t', m', ys, i, rfl, hsti, hli, hni, hys, hi, rfl, hJi⟩
    by_cases hlt : i < n
    · refine W.item i _ _ _ hlt hsti fun v h₂ t₂ hPv hst₂ hk₂ => ?_
      have hJ₂ : J H2.objs.size h.objs.size i ys h₂ := hJ.stable _ _ _ _ _ _ hCle (Nat.le_refl _) hJi fun b ob e hb => hk₂ b ob (hb.elim (fun z => z.2.2) fun z hm => hwk _ _ hsti b hm ob e z) e
      refine wpAny_assign_Name (wpAny_storeName_local hxl (m := m') (hni.at' fun ob e => hk₂ _ ob hCw e) (fun h₃ hn₃ hs₃ => ?_) hpl)
      have hJ₃ : J H2.objs.size h.objs.size i ys h₃ := hJ.stable _ _ _ _ _ _ hCle (Nat.le_refl _) hJ₂ fun b ob e hb => hs₃.extBut b ob (hb.elim (fun z => z.1) fun z => tupNotNs (hni.at' fun ob e => hk₂ _ ob hCw e) e (hkp _ z)) e
      have hl₃ : h₃.IsList h.objs.size ys.toArray := (hli.at fun ob e => hk₂ _ ob hDw e).extBut hs₃.extBut hDC
      have hst₃ : St (i + 1) h₃ := W.frame _ _ _ hst₂ fun b hb ob e => hs₃.extBut b ob (fun (q : b = H2.objs.size) => hCf (q ▸ hb)) e
      refine wpAny_mono (hJ.turn _ _ i v ys h₃ _ _ _ hCle (Nat.le_refl _) (Ne.symm hDC) hlt hPv hys hJ₃ hn₃ (by simp)) (fun ok s₄ h₄ => ?_) fun _ _ e => e
      cases ok with
      | false =>
        simp only [Bool.false_eq_true, if_false] at h₄ ⊢
        obtain ⟨h₄, t₄, rfl, hJ₄, ⟨m₄, hn₄⟩, hk₄⟩ := h₄
        exact ⟨n + 1 - (i + 1), Nat.sub_lt_sub_left (Nat.lt_succ_of_lt hlt) (Nat.lt_succ_self i), h₄, t₄, _, ys, i + 1, rfl, W.frame _ _ _ hst₃ fun b hb ob e => hk₄ b ob (.inl hb) e, hl₃.at fun ob e => hk₄ _ ob (.inr rfl) e, hn₄, by omega, hlt, rfl, hJ₄⟩
      | true =>
        simp only [if_true] at h₄ ⊢
        refine wpAny_mono h₄ (fun y s₅ h₅ => ?_) fun _ _ e => e
        obtain ⟨h₄, t₄, rfl, hJ₄, ⟨m₄, hn₄⟩, hk₄⟩ := h₅
        have hl₄ : h₄.IsList h.objs.size ys.toArray := hl₃.at fun ob e => hk₄ _ ob (.inr rfl) e
        refine wpAny_list_append hl₄ (fun h₅ hl₅ hs₅ => ?_) (by rw [List.size_toArray]; omega)
        refine ⟨n + 1 - (i + 1), Nat.sub_lt_sub_left (Nat.lt_succ_of_lt hlt) (Nat.lt_succ_self i), h₅, t₄, _, ys ++ [y], i + 1, rfl, ?_, by simpa using hl₅, hn₄.sameBut hs₅ (Ne.symm hDC), by simp; omega, hlt, rfl, ?_⟩
        · exact W.frame _ _ _ hst₃ fun b hb ob e => hs₅.extBut b ob (fun q => hDf (q ▸ hb)) (hk₄ b ob (.inl hb) e)
        · exact hJ.stable _ _ _ _ _ _ hCle (Nat.le_refl _) hJ₄ fun b ob e hb => hs₅.extBut b ob (hb.elim (fun z => z.2.1) fun z => tupD hl₄ e (hkp _ z)) e
    · have hin : i = n := Nat.le_antisymm hi (Nat.le_of_not_lt hlt)
      subst hin
      refine W.done _ _ _ hsti fun h₂ t₂ hk₂ => ?_
      exact hRR _ _ h₂ t₂ m' ys hCle (Nat.le_refl _) hDC (hni.at' fun ob e => hk₂ _ ob hCw e) (hli.at fun ob e => hk₂ _ ob hDw e) hys
        (hJ.stable _ _ _ _ _ _ hCle (Nat.le_refl _) hJi fun b ob e hb => hk₂ b ob (hb.elim (fun z => z.2.2) fun z hm => hwk _ _ hsti b hm ob e z) e)
  exact codeAny_compStart_list (loop _ rfl) (W.self 0 _ _ _ hst₁ (loop _ rfl))
end
section
variable {prog : Program} {w : World} {A : Around} {E : Value → Shared → Prop} {env : Env}
/-- what comes behind a comprehension's iterator -/
inductive CompAt (prog : Program) (w : World) (A : Around) (env : Env) (scope : Scope) (cl : List (Str × Addr)) (x : Str) (ifs : List Expr) (elt : Expr) (Q : Value → Shared → Prop) (it : Value) (s₂ : Shared) : Prop
  | mk (I : Addr) (fp wr : List Addr) (n : Nat) (P : Nat → Value → Prop) (St : Nat → Heap → Prop) (h : Heap) (g : Array GenState) (d : Drawn) (t : Nat) (o : OsState) (e1 : it = .ref I) (e2 : s₂ = ⟨h, g, d, t, o⟩) (W : Walks prog w A I fp wr n P St) (hsz : n ≤ sizeLine) (hst : St 0 h) (hfp : ∀ b ∈ fp, b < h.objs.size)
      (KP : Obj → Prop) (hkp : ∀ ob, KP ob → isTup ob) (hwk : ∀ i h, St i h → ∀ b ∈ wr, ∀ ob, h.get? b = some ob → ¬ KP ob) (J : Addr → Addr → Nat → List Value → Heap → Prop) (hJ : CompInvN prog w A env scope cl x ifs elt g d o fp wr n P h KP J)
      (hQ : ∀ C D ys h' t', h.objs.size ≤ C → h.objs.size ≤ D → h'.IsList D ys.toArray → ys.length ≤ n → J C D n ys h' → Q (.ref D) ⟨h', g, d, t', o⟩)
inductive CompAtA (prog : Program) (w : World) (A : Around) (env : Env) (scope : Scope) (cl : List (Str × Addr)) (x y : Str) (ifs : List Expr) (elt : Expr) (Q : Flow → Shared → Prop) (it : Value) (s₂ : Shared) : Prop
  | mk (I : Addr) (fp wr : List Addr) (n : Nat) (P : Nat → Value → Prop) (St : Nat → Heap → Prop) (h : Heap) (g : Array GenState) (d : Drawn) (t : Nat) (o : OsState) (m : Str → Option Value) (e1 : it = .ref I) (e2 : s₂ = ⟨h, g, d, t, o⟩) (W : Walks prog w A I fp wr n P St) (hsz : n ≤ sizeLine) (hst : St 0 h) (hfp : ∀ b ∈ fp, b < h.objs.size)
      (hLlt : env.locals < h.objs.size) (KP : Obj → Prop) (hkp : ∀ ob, KP ob → isTup ob) (hwk : ∀ i h, St i h → ∀ b ∈ wr, ∀ ob, h.get? b = some ob → ¬ KP ob) (J : Addr → Addr → Nat → List Value → Heap → Prop) (hJ : CompInvN prog w A env scope cl x ifs elt g d o fp wr n P h KP J)
      (hJn : ∀ C D i ys h₁, J C D i ys h₁ → h₁.Ns env.locals m)
      (hQ : ∀ C D ys h₁ h' t', h.objs.size ≤ C → h.objs.size ≤ D → h'.IsList D ys.toArray → ys.length ≤ n → J C D n ys h₁ → h'.Ns env.locals (fun z => if z = y then some (.ref D) else m z) → (∀ b, b ≠ C → b ≠ env.locals → h'.get? b = h₁.get? b) → Q .next ⟨h', g, d, t', o⟩)
/-- the comprehension's value -/
theorem comp_eval {s : Shared} {elt iter : Expr} {x : Str} {px : Pos} {ifs : List Expr} {scope : Scope} {cl : List (Str × Addr)} {pos : Pos} {Q : Value → Shared → Prop}
    (k : wpAny (model prog w) A (eval iter env) (fun xv s₁ => wpAny (model prog w) A (pyIter xv) (CompAt prog w A env scope cl x ifs elt Q) E s₁) E s)
    (hclos : closureFor scope env = pure cl := by with_unfolding_all rfl) (hcell : (scope.names.all fun x => x.2 != .cell) = true := by rfl) (hkind : scope.kind = .function := by rfl)
    (hnames : (scope.names.all fun y => y.2 != .local || decide (scope.names.lookup y.1 = some .local)) = true := by rfl) (hx : scope.names.lookup x = some .local := by rfl)
    (hs : ∀ x, foldedSetIterable iter env x = pure x := by intro _; rfl) :
    wpAny (model prog w) A (eval (.ListComp elt [⟨.Name x px, iter, ifs, 0⟩] scope pos) env) Q E s := by
  rw [eval_ListComp]
  refine wpAny_comprehension_free (use := none) rfl hs hclos hkind (local_lookup hnames) (wpAny_mono k (fun xv s₁ h₁ => wpAny_mono h₁ (fun it s₂ h₂ => ?_) fun _ _ e => e) fun _ _ e => e)
  refine gAbs fun G hG => ?_
  obtain ⟨I, fp, wr, n, P, St, h, g, d, t, o, rfl, rfl, W, hsz, hst, hfp, KP, hkp, hwk, J, hJ, hQ⟩ := h₂
  refine hG (comp_coreN (RR := fun acc C => compPost (model prog w) A E none Q acc C) W (cell_lookup hcell) hkind hx hst hfp hJ hkp hwk ?_ hsz)
  intro D C h' t' m' ys hC hD hDC hn hl hlen hJn
  exact ⟨m', hn, fun h'' hs'' => hQ C D ys h'' t' hC hD (hl.extBut hs''.extBut hDC) hlen (hJ.stable _ _ _ _ _ _ hC hD hJn fun b ob e hb => hs''.extBut b ob (hb.elim (fun z => z.1) fun z => tupNotNs hn e (hkp _ z)) e)⟩

/-- a name's store of a comprehension -/
theorem comp_assign {s : Shared} {elt iter : Expr} {x y : Str} {px py : Pos} {ifs : List Expr} {scope : Scope} {cl : List (Str × Addr)} {pos spos : Pos} {Q : Flow → Shared → Prop}
    (k : wpAny (model prog w) A (eval iter env) (fun xv s₁ => wpAny (model prog w) A (pyIter xv) (CompAtA prog w A env scope cl x y ifs elt Q) E s₁) E s)
    (hsw : swapsWith (.ListComp elt [⟨.Name x px, iter, ifs, 0⟩] scope pos) (some (.Name y py)) spos.line env = pure true := by with_unfolding_all rfl)
    (hclos : closureFor scope env = pure cl := by with_unfolding_all rfl) (hcell : (scope.names.all fun x => x.2 != .cell) = true := by rfl) (hkind : scope.kind = .function := by rfl)
    (hnames : (scope.names.all fun y => y.2 != .local || decide (scope.names.lookup y.1 = some .local)) = true := by rfl) (hx : scope.names.lookup x = some .local := by rfl)
    (hy : env.kindOf y = some .local := by rfl) (hp : (env.scope.kind == .class || (env.scope.kind == .module && env.locals != env.globals)) = false := by rfl)
    (hs : ∀ x, foldedSetIterable iter env x = pure x := by intro _; rfl) :
    wpAny (model prog w) A (exec (.Assign [.Name y py] (.ListComp elt [⟨.Name x px, iter, ifs, 0⟩] scope pos) spos) env) Q E s := by
  rw [exec_Assign_Name_used _ _ _ _ hsw]
  refine wpAny_bind (wpAny_standAt (wpAny_bind ?_))
  show wpAny _ A (do let _ ← comprehension (.ListComp elt [⟨.Name x px, iter, ifs, 0⟩] scope pos) scope env _ (newList []) false (eval iter env) (some (assign (.Name y py) env))) _ _ s
  refine wpAny_bind (wpAny_mono (wpAny_comprehension_free (use := some (assign (.Name y py) env)) (Q := fun _ s' => Q .next s') rfl hs hclos hkind (local_lookup hnames)
    (wpAny_mono k (fun xv s₁ h₁ => wpAny_mono h₁ (fun it s₂ h₂ => ?_) fun _ _ e => e) fun _ _ e => e)) (fun _ s' hq => wpAny_pure (wpAny_pure hq)) fun _ _ e => e)
  refine gAbs fun G hG => ?_
  obtain ⟨I, fp, wr, n, P, St, h, g, d, t, o, m, rfl, rfl, W, hsz, hst, hfp, hLlt, KP, hkp, hwk, J, hJ, hJn, hQ⟩ := h₂
  refine hG (comp_coreN (RR := fun acc C => compPost (model prog w) A E (some (assign (.Name y py) env)) (fun _ s' => Q .next s') acc C) W (cell_lookup hcell) hkind hx hst hfp hJ hkp hwk ?_ hsz)
  intro D C h' t' m' ys hC hD hDC hn hl hlen hJe
  have hLC : env.locals ≠ C := Nat.ne_of_lt (Nat.lt_of_lt_of_le hLlt hC)
  have hLD : env.locals ≠ D := Nat.ne_of_lt (Nat.lt_of_lt_of_le hLlt hD)
  show wpAny _ A (assign (.Name y py) env (.ref D)) _ _ _
  refine wpAny_assign_Name (wpAny_storeName_local hy (hJn _ _ _ _ _ hJe) (fun h₂ hn₂ hs₂ => ?_) hp)
  refine ⟨m', hn.sameBut hs₂ (Ne.symm hLC), fun h₃ hs₃ => ?_⟩
  exact hQ C D ys h' h₃ _ hC hD ((hl.extBut hs₂.extBut (Ne.symm hLD)).extBut hs₃.extBut hDC) hlen hJe (hn₂.sameBut hs₃ hLC) fun b b1 b2 => (hs₃.2 b b1).trans (hs₂.2 b b2)
theorem CompInv.toN {g : Array GenState} {d : Drawn} {o : OsState} {h : Heap} {scope : Scope} {cl : List (Str × Addr)} {x : Str} {ifs : List Expr} {elt : Expr} {fp wr : List Addr} {n : Nat} {P : Nat → Value → Prop} {KP : Obj → Prop} {J : Addr → Addr → Nat → List Value → Heap → Prop}
    (hJ : CompInv prog w A env scope cl x ifs elt g d o fp wr n P h KP J) : CompInvN prog w A env scope cl x ifs elt g d o fp wr n P h KP J :=
  ⟨hJ.start, hJ.stable, fun C D i v ys h₁ t₁ m E' hC hD hCD hi hP hys hJi hn hm => by
    have fin : ∀ {ys' : List Value} {s' : Shared}, (∃ h₄ t₄, s' = ⟨h₄, g, d, t₄, o⟩ ∧ J C D (i + 1) ys' h₄ ∧ ∀ b ob, (b ∈ fp ∨ b = C ∨ b = D) → h₁.get? b = some ob → h₄.get? b = some ob) → CompEnd g d o fp C D (J C D (i + 1) ys') h₁ s' := by
      rintro ys' s' ⟨h₄, t₄, rfl, j, k⟩
      exact ⟨h₄, t₄, rfl, j, ⟨m, hn.at' fun ob e => k _ ob (.inr (.inl rfl)) e⟩, fun b ob hb e => k b ob (hb.elim .inl fun z => .inr (.inr z)) e⟩
    refine wpAny_mono (hJ.turn C D i v ys h₁ t₁ m E' hC hD hCD hi hP hys hJi hn hm) (fun ok s₃ h₃ => ?_) fun _ _ e => e
    cases ok with
    | false =>
      simp only [Bool.false_eq_true, if_false] at h₃ ⊢
      exact fin h₃
    | true =>
      simp only [if_true] at h₃ ⊢
      exact wpAny_mono h₃ (fun y s₄ h₄ => fin h₄) fun _ _ e => e⟩
end
section
variable {M : Model} {A : Around} {E : Value → Shared → Prop} {s : Shared} {h₀ : Heap} {L : Addr} {m : Str → Option Value} {env : Env} {x : Str} {pos : Pos} {v : Value} {Q : Value → Shared → Prop}
theorem atComp {e : Expr} {sc : Scope} {cl : List (Str × Addr)} {L : Addr} (k : wpAny M A (eval e (compEnvC sc cl L env)) Q E s) : wpAny M A (eval e (compEnvC sc cl L env)) Q E s := k
theorem atCompN (n : String) {sc : Scope} {cl : List (Str × Addr)} {L : Addr} (k : wpAny M A (eval (.Name (Str.ofString n) pos) (compEnvC sc cl L env)) Q E s) : wpAny M A (eval (.Name (Str.ofString n) pos) (compEnvC sc cl L env)) Q E s := k
theorem atRef (n : Nat) {as : List Value} (k : wpAny M A (call (.ref n) as) Q E s) : wpAny M A (call (.ref n) as) Q E s := k
theorem nmL (k : Q v s) (F : Fr h₀ L s.heap m := by assumption) (hL : env.locals = L := by rfl) (hk : env.scope.kind = .function := by rfl) (hx : env.kindOf x = some .local := by rfl) (hv : m x = some v := by assumption)
    (hd : (x == ("__debug__" : Str)) = false := by decide) :
    wpAny M A (eval (.Name x pos) env) Q E s := by subst hL; exact wpAny_Name (wpAny_loadName_local hk hx F.ns hv k) hd
theorem nmC {c : Addr} (k : Q v s) (hc : env.cells.lookup x = some c := by rfl) (hk : env.scope.kind = .function := by rfl) (hx : env.kindOf x = some .cell := by rfl) (hv : s.heap.IsCell c (some v) := by assumption) (hd : (x == ("__debug__" : Str)) = false := by decide) :
    wpAny M A (eval (.Name x pos) env) Q E s := wpAny_Name (wpAny_loadName_cell hk hx hc hv k) hd
theorem nmK (W : Wd) (k : Q v s) (F : Fr h₀ L s.heap m := by assumption) (S : Sub W.H0 h₀ := by assumption)
    (hk : env.scope.kind = .function := by rfl) (hx : env.kindOf x = some .globalImplicit := by rfl) (hg : env.globals = mainGlobals := by rfl) (e : nsIn (K39 W.w.params) mainGlobals x = some (some v) := by k_is) (hd : (x == ("__debug__" : Str)) = false := by decide) :
    wpAny M A (eval (.Name x pos) env) Q E s :=
  Name_function_global hk hx (loadGlobal_global (hg ▸ W.T.g.keeps (S.trans F.keep)) (mg_of W.X W.T.g e) k) hd
theorem nmB (W : Wd) (k : Q v s) (F : Fr h₀ L s.heap m := by assumption) (S : Sub W.H0 h₀ := by assumption)
    (hk : env.scope.kind = .function := by rfl) (hx : env.kindOf x = some .globalImplicit := by rfl) (hg : env.globals = mainGlobals := by rfl) (hb : env.builtins = builtinsNs := by rfl) (e : nsIn (K39 W.w.params) mainGlobals x = some none := by k_is) (hv : bootBuiltins x = some v := by boot_fast) (hn : x ≠ "__name__" := by decide)
    (hd : (x == ("__debug__" : Str)) = false := by decide) :
    wpAny M A (eval (.Name x pos) env) Q E s :=
  Name_function_global hk hx (loadGlobal_builtin (hg ▸ W.T.g.keeps (S.trans F.keep)) (mg_none_of W.X W.T.g e) (hb ▸ W.T.b.keeps (S.trans F.keep)) ((W.T.builtins x hn).trans hv) k) hd
end
section
variable {M : Model} {A : Around} {E : Value → Shared → Prop} {s : Shared} {env : Env} {Q : Bool → Shared → Prop}
theorem tests0 (k : Q true s) : wpAny M A (testsOf [] env) Q E s := wpAny_pure k
theorem tests1 {c : Expr} (k : wpAny M A (isTrue c env (eval c env)) Q E s) : wpAny M A (testsOf [c] env) Q E s := by
  unfold testsOf
  rw [List.forIn_cons]
  simp only [if_true, bind_assoc, pure_bind, List.forIn_nil]
  exact wpAny_bind (wpAny_mono k (fun b s' h => wpAny_pure h) fun _ _ e => e)
end
theorem subStable {h₁ h₂ h' : Heap} {ob : Obj} {C D : Addr} (hs : Sub h₁ h₂) (hC : (h₁.push ob).objs.size ≤ C) (hD : (h₁.push ob).objs.size ≤ D)
    {KP : Obj → Prop} (hk : ∀ b o, h₂.get? b = some o → (b ≠ C ∧ b ≠ D ∧ b ∉ [h₁.objs.size]) ∨ KP o → h'.get? b = some o) : Sub h₁ h' := fun b o e => by
  have lt := ltN (Heap.lt_size e)
  rw [Heap.size_push] at hC hD
  have hC := hC; have hD := hD
  refine hk b o (hs b o e) (.inl ⟨ltNe (Nat.lt_of_lt_of_le (Nat.lt_succ_of_lt lt) hC), ltNe (Nat.lt_of_lt_of_le (Nat.lt_succ_of_lt lt) hD), fun hm => ?_⟩)
  rw [List.mem_singleton.mp hm] at lt; exact Nat.lt_irrefl _ lt
theorem subPush {h₁ h' : Heap} {ob : Obj} (hs : Sub (h₁.push ob) h') : Sub h₁ h' := fun _ _ e => hs _ _ (Heap.get?_push_of_some _ e)
theorem fpPush {h₁ : Heap} {ob : Obj} : ∀ b ∈ [h₁.objs.size], b < (h₁.push ob).objs.size := fun b hb => by
  rw [List.mem_singleton.mp hb, Heap.size_push]; exact Nat.lt_succ_self _
theorem frComp {h₁ h₂ : Heap} {ob : Obj} {C : Addr} {m : Str → Option Value} (hn : h₂.Ns C m) (hs : Sub h₁ h₂) (hC : (h₁.push ob).objs.size ≤ C) : Fr h₁ C h₂ m :=
  ⟨hn, hs, by rw [Heap.size_push] at hC; exact Nat.le_of_succ_le hC⟩
end
local macro_rules | `(tactic| walk_at "nn") => `(tactic| (have F' := frS; have N' := newsN))
local macro_rules | `(tactic| walk_at "nmL") => `(tactic| (refine' nmL ?_; k_whole))
local macro_rules | `(tactic| walk_at "nmB") => `(tactic| (refine' nmB _ ?_; k_whole))
local macro_rules | `(tactic| walk_at "eval Name") => `(tactic| ((with_reducible refine' atComp ?_); first
  | (refine' nmL ?_ (hv := by rfl); k_whole)
  | (refine' nmK _ ?_; k_whole)
  | walk_at "nmB"
  | (refine' nmC ?_; k_whole)))
local macro_rules | `(tactic| walk_at "eval ListComp") => `(tactic| k_dflt refine' comp_eval ?_)
local macro_rules | `(tactic| walk_at "exec Assign cons ListComp") => `(tactic| k_dflt refine' comp_assign ?_)
section

end
section
section
variable {dp un : Nat} {fr : Option (List Env)} {gd : Option (List Code)} {h : Heap} {g : Array GenState} {d : Drawn} {t : Nat} {o : OsState} {Q E : Value → Shared → Prop}
set_option maxHeartbeats 1000000 in
theorem is_half_c (W : Wd) {c : Int} {u : Tok} (S : Sub W.H0 h) (r : Rm 1 (Ar dp fr gd un))
    (k : ∀ h' t', Tok → Sub h h' → Q (.bool (decide (55296 ≤ c) && decide (c ≤ 57343))) ⟨h', g, d, t', o⟩) :
    wpAny (model prg W.w) (Ar dp fr gd un) (call (.ref 215) [.int c u]) Q E ⟨h, g, d, t, o⟩ := by
  refine' callDef W [("code", .int c u)] S r ?_
  intro L h₁ F N t₁
  refine wp_absQ fun Q1 hQ1 E1 => ?_
  have X := W.X' S
  have T := W.T' S
  k_steps
  all_goals (try (with_reducible refine hQ1 _ _ ?_))
  all_goals (refine retv (k _ _ 0 (Fr.keep (by assumption))) ?_; simp [*])
end
end
local macro_rules | `(tactic| walk_at "call ref") => `(tactic| ((with_reducible refine' atRef 215 ?_); (refine is_half_c _ (by walk_at "s") (by walk_at "room") ?_); intro h' t' u hs; walk_at "nt"))
section
section
variable {dp un : Nat} {fr : Option (List Env)} {gd : Option (List Code)} {h : Heap} {g : Array GenState} {d : Drawn} {t : Nat} {o : OsState} {Q E : Value → Shared → Prop}
noncomputable def barred (c : Int) : Bool := decide (c < 32) || (decide (127 ≤ c) && decide (c ≤ 159)) || c == 8232 || c == 8233 || (decide (55296 ≤ c) && decide (c ≤ 57343))
set_option maxHeartbeats 1000000 in
theorem is_barred_code_c (W : Wd) {c : Int} {u : Tok} (S : Sub W.H0 h) (r : Rm 2 (Ar dp fr gd un))
    (k : ∀ h' t', Tok → Sub h h' → Q (.bool (barred c)) ⟨h', g, d, t', o⟩) :
    wpAny (model prg W.w) (Ar dp fr gd un) (call (.ref 236) [.int c u]) Q E ⟨h, g, d, t, o⟩ := by
  refine' callDef W [("code", .int c u)] S r ?_
  intro L h₁ F N t₁
  refine wp_absQ fun Q1 hQ1 E1 => ?_
  have X := W.X' S
  have T := W.T' S
  k_steps
  all_goals (try (with_reducible refine hQ1 _ _ ?_))
  all_goals (refine retv (k _ _ 0 (Fr.keep (by assumption))) ?_; simp [barred, *])
end
end
local macro_rules | `(tactic| walk_at "call ref") => `(tactic| ((with_reducible refine' atRef 236 ?_); (refine is_barred_code_c _ (by walk_at "s") (by walk_at "room") ?_); intro h' t' u hs; walk_at "nt"))
section
section
variable {dp un : Nat} {fr : Option (List Env)} {gd : Option (List Code)} {h : Heap} {g : Array GenState} {d : Drawn} {t : Nat} {o : OsState} {Q E : Value → Shared → Prop}
noncomputable def headOf (x : Str) : Str := if Txt.find x "/" < 0 then x else Txt.slice x none (some (Txt.find x "/"))
noncomputable def restOf (x : Str) : Str := if Txt.find x "/" < 0 then "" else Txt.slice x (some (Txt.find x "/")) none
theorem headLe {x : Str} {n : Nat} (hx : x.length ≤ n) : (headOf x).length ≤ n := by
  unfold headOf; split
  · exact hx
  · exact Nat.le_trans (Txt.slice_le _ _ _) hx
theorem restLe {x : Str} {n : Nat} (hx : x.length ≤ n) : (restOf x).length ≤ n := by
  unfold restOf; split
  · exact Nat.zero_le _
  · exact Nat.le_trans (Txt.slice_le _ _ _) hx
set_option maxHeartbeats 1000000 in
theorem first_part_c (W : Wd) {x : Str} {u : Tok} (S : Sub W.H0 h) (r : Rm 1 (Ar dp fr gd un)) (hx : x.length ≤ 1000000)
    (k : ∀ h' t' q ua ub, Sub h h' → New h h' q (tupO [.str (headOf x) ua, .str (restOf x) ub]) → Q (.ref q) ⟨h', g, d, t', o⟩) :
    wpAny (model prg W.w) (Ar dp fr gd un) (call (.ref 222) [.str x u]) Q E ⟨h, g, d, t, o⟩ := by
  refine' callDef W [("text", .str x u)] S r ?_
  intro L h₁ F N t₁
  refine wp_absQ fun Q1 hQ1 E1 => ?_
  have X := W.X' S
  have T := W.T' S
  k_steps
  all_goals (try (with_reducible refine hQ1 _ _ ?_))
  all_goals exact k _ _ _ _ _ (Fr.keep (by assumption)) (by simp only [headOf, restOf, *, if_true, if_false]; exact newOf (by assumption) (.head _))
end
end
local macro_rules | `(tactic| walk_at "call ref") => `(tactic| ((with_reducible refine' atRef 222 ?_); (refine first_part_c _ (by walk_at "s") (by walk_at "room") (by assumption) ?_); intro h' t' q ua ub hs hn; walk_at "nn"))
section
section
variable {dp un : Nat} {fr : Option (List Env)} {gd : Option (List Code)} {h : Heap} {g : Array GenState} {d : Drawn} {t : Nat} {o : OsState} {Q E : Value → Shared → Prop}
noncomputable def up1 (n : Nat) : Nat := if 97 ≤ n ∧ n ≤ 122 then n - 32 else n
noncomputable def upT (x : Str) : Str := ⟨x.cps.map up1⟩
theorem strsAre_snoc {ys : List Value} {ss : List Str} (h : StrsAre ys ss) (x : Str) (t : Tok) : StrsAre (ys ++ [.str x t]) (ss ++ [x]) := by
  induction h with
  | nil => exact .cons x t .nil
  | cons y t' _ ih => exact .cons y t' ih
theorem one_lt {a b : Nat} : ([a] < [b]) ↔ a < b := by
  constructor
  · intro h; cases h with
    | rel h => exact h
    | cons h => exact absurd h (by simp)
  · exact fun h => .rel h
theorem sum_ones : ∀ l : List Nat, (l.map fun _ => 1).sum = l.length
  | [] => rfl
  | _ :: l => by rw [List.map_cons, List.sum_cons, sum_ones l, List.length_cons]; omega
theorem join_ones (l : List Nat) : Txt.join "" (l.map fun c => (⟨#[c]⟩ : Str)) = ⟨l.toArray⟩ := by
  show Builtin.Str.glued _ _ = _
  rw [StrLaws.glued_eq_join]
  have app : ∀ (a : Nat) (m : List Nat), (⟨#[a]⟩ : Str) ++ (Str.ofString "") ++ (⟨m.toArray⟩ : Str) = ⟨(a :: m).toArray⟩ := fun a m => by
    show Str.append (Str.append _ _) _ = _
    exact congrArg Str.mk (by show (#[a] ++ (Str.ofString "").cps) ++ m.toArray = _; rw [show (Str.ofString "").cps = #[] from rfl]; simp)
  induction l with
  | nil => rfl
  | cons a l ih =>
    cases l with
    | nil => rfl
    | cons b l =>
      rw [List.map_cons, List.map_cons, Str.join]
      · rw [← List.map_cons (f := fun c => (⟨#[c]⟩ : Str)), ih]
        exact app a (b :: l)
      · intro h; cases h
theorem up1_a {c : Nat} (h1 : ¬ (⟨#[c]⟩ : Str).cps.toList < (Str.ofString "a").cps.toList) : 97 ≤ c := by
  rw [show (Str.ofString "a").cps.toList = [97] from by decide] at h1
  have := mt one_lt.mpr h1; omega
theorem up1_z {c : Nat} (h1 : ¬ (Str.ofString "z").cps.toList < (⟨#[c]⟩ : Str).cps.toList) : c ≤ 122 := by
  rw [show (Str.ofString "z").cps.toList = [122] from by decide] at h1
  have := mt one_lt.mpr h1; omega
theorem up1_na {c : Nat} (h1 : (⟨#[c]⟩ : Str).cps.toList < (Str.ofString "a").cps.toList) : up1 c = c := by
  rw [show (Str.ofString "a").cps.toList = [97] from by decide] at h1
  have := one_lt.mp h1; unfold up1; rw [if_neg (by omega)]
theorem up1_nz {c : Nat} (h1 : (Str.ofString "z").cps.toList < (⟨#[c]⟩ : Str).cps.toList) : up1 c = c := by
  rw [show (Str.ofString "z").cps.toList = [122] from by decide] at h1
  have := one_lt.mp h1; unfold up1; rw [if_neg (by omega)]
theorem up1_in {c : Nat} (h1 : 97 ≤ c) (h2 : c ≤ 122) : ((c : Int) - 32).toNat = up1 c := by unfold up1; rw [if_pos ⟨h1, h2⟩]; exact Int.toNat_sub c 32
theorem take_snoc {x : Str} {i c : Nat} (hc : x.cps[i]? = some c) : x.cps.toList.take (i + 1) = x.cps.toList.take i ++ [c] := by
  rw [List.take_add_one]; simp [hc]
set_option maxHeartbeats 1000000 in
theorem upper_text_c (W : Wd) {x : Str} {u : Tok} (S : Sub W.H0 h) (r : Rm 1 (Ar dp fr gd un)) (hx : x.length ≤ 1000000)
    (k : ∀ h' t' u, Sub h h' → Q (.str (upT x) u) ⟨h', g, d, t', o⟩) :
    wpAny (model prg W.w) (Ar dp fr gd un) (call (.ref 208) [.str x u]) Q E ⟨h, g, d, t, o⟩ := by
  refine' callDef W [("text", .str x u)] S r ?_
  intro L h₁ F N t₁
  refine wp_absQ fun Q1 hQ1 E1 => ?_
  have X := W.X' S
  have T := W.T' S
  k_steps
  all_goals (try (with_reducible refine hQ1 _ _ ?_))
  refine wpAny_pyIter_str fun ob St hW hst => ⟨_, _, _, _, _, St, _, _, _, _, _, rfl, rfl, hW _ rfl, Nat.le_trans hx (by decide), hst, fpPush, fun _ => False, fun _ z => z.elim, fun _ _ _ _ _ _ _ z => z, fun C D i ys h' => Sub h₁ h' ∧ StrsAre ys ((x.cps.toList.take i).map fun c => (⟨#[up1 c]⟩ : Str)), CompInv.toN ⟨?_, ?_, ?_⟩, ?_⟩
  · exact fun C D h' _ _ hs => ⟨subPush hs, by simpa using StrsAre.nil⟩
  · exact fun C D i ys h₂ h' hC hD hJ hk => ⟨subStable hJ.1 hC hD hk, hJ.2⟩
  · rintro C D i v ys h₂ t₂ m E' hC hD hCD hi ⟨c, uc, hc, rfl⟩ hys ⟨hs, hst⟩ hn hm
    refine tests0 ?_
    rw [if_pos rfl]
    have F' := frComp hn hs hC
    have N' : News h₁ C h₂ [] := News.nil
    have S' := subF F S
    have X' := W.X' S'
    have T' := W.T' S'
    k_steps
    all_goals (try (with_reducible refine hQ1 _ _ ?_))
    · exact hs
    · rw [take_snoc hc, List.map_append, List.map_singleton, up1_na (by assumption)]; exact strsAre_snoc hst _ _
    · exact hs
    · rw [take_snoc hc, List.map_append, List.map_singleton, up1_nz (by assumption)]; exact strsAre_snoc hst _ _
    · have h97 := up1_a (c := c) (by assumption)
      have h122 := up1_z (c := c) (by assumption)
      k_steps
      all_goals (try (with_reducible refine hQ1 _ _ ?_))
      · exact hs
      · rw [take_snoc hc, List.map_append, List.map_singleton, ← up1_in h97 h122]; exact strsAre_snoc hst _ _
  · intro C D ys h' t' hC hD hl hys hJ
    have F' := frSub hJ.1 F
    have N' := newsSub hJ.1 N
    have e : x.cps.toList.take x.cps.size = x.cps.toList := List.take_of_length_le (Nat.le_of_eq (by rw [Array.length_toList]))
    have hJ2 := hJ.2
    rw [e] at hJ2
    have hb : (((x.cps.toList.map fun c => (⟨#[up1 c]⟩ : Str)).map (·.length)).sum + (x.cps.toList.map fun c => (⟨#[up1 c]⟩ : Str)).length * (Str.ofString "").length ≤ 16777216) := by
      have e1 : ((x.cps.toList.map fun c => (⟨#[up1 c]⟩ : Str)).map (·.length)).sum = x.cps.size := by
        rw [List.map_map, show ((fun x : Str => x.length) ∘ fun c => (⟨#[up1 c]⟩ : Str)) = fun _ => 1 from rfl, sum_ones, Array.length_toList]
      rw [e1, show (Str.ofString "").length = 0 from rfl]
      have : x.cps.size ≤ 1000000 := hx
      omega
    k_steps
    all_goals (try (with_reducible refine hQ1 _ _ ?_))
    refine join_list (by assumption) hJ2 hb fun t' k' => ?_
    k_steps
    all_goals (try (with_reducible refine hQ1 _ _ ?_))
    dsimp only
    try (with_reducible refine hQ1 _ _ ?_)
    exact retS (fun u => k _ _ u (Fr.keep (by assumption))) (by
      rw [show (x.cps.toList.map fun c => (⟨#[up1 c]⟩ : Str)) = (x.cps.toList.map up1).map (fun c => (⟨#[c]⟩ : Str)) from by rw [List.map_map]; rfl, join_ones]
      exact congrArg Str.mk (by rw [← Array.toList_map, Array.toArray_toList]))
end
end
local macro_rules | `(tactic| walk_at "call ref") => `(tactic| ((with_reducible refine' atRef 208 ?_); (refine upper_text_c _ (by walk_at "s") (by walk_at "room") (headLe (by assumption)) ?_); intro h' t' u hs; walk_at "nt"))
section
section
variable {dp un : Nat} {fr : Option (List Env)} {gd : Option (List Code)} {h : Heap} {g : Array GenState} {d : Drawn} {t : Nat} {o : OsState} {Q E : Value → Shared → Prop}
noncomputable def normalN (x : Str) : Str := if upT (headOf x) == "INBOX" then "INBOX" ++ restOf x else x
set_option maxHeartbeats 1000000 in
theorem normal_name_c (W : Wd) {x : Str} {u : Tok} (S : Sub W.H0 h) (r : Rm 2 (Ar dp fr gd un)) (hx : x.length ≤ 1000000)
    (k : ∀ h' t' u, Sub h h' → Q (.str (normalN x) u) ⟨h', g, d, t', o⟩) :
    wpAny (model prg W.w) (Ar dp fr gd un) (call (.ref 229) [.str x u]) Q E ⟨h, g, d, t, o⟩ := by
  refine' callDef W [("text", .str x u)] S r ?_
  intro L h₁ F N t₁
  refine wp_absQ fun Q1 hQ1 E1 => ?_
  have X := W.X' S
  have T := W.T' S
  have hr := restLe hx
  k_steps
  all_goals (try (with_reducible refine hQ1 _ _ ?_))
  all_goals (try dsimp only)
  · try (with_reducible refine hQ1 _ _ ?_)
    exact retS (fun u => k _ _ u (Fr.keep (by assumption))) (by rw [normalN, if_pos (by assumption)])
  · exact retS (fun u => k _ _ u (Fr.keep (by assumption))) (by rw [normalN, if_neg (by simp [*])])
end
end
local macro_rules | `(tactic| walk_at "call ref") => `(tactic| ((with_reducible refine' atRef 229 ?_); (refine normal_name_c _ (by walk_at "s") (by walk_at "room") (by walk_at "ao") ?_); intro h' t' u hs; walk_at "nt"))
section
section
variable {dp un : Nat} {fr : Option (List Env)} {gd : Option (List Code)} {h : Heap} {g : Array GenState} {d : Drawn} {t : Nat} {o : OsState} {Q E : Value → Shared → Prop}
set_option maxHeartbeats 1000000 in
theorem is_below_c (W : Wd) {x y : Str} {u u' : Tok} (S : Sub W.H0 h) (r : Rm 1 (Ar dp fr gd un)) (hx : y.length ≤ 1000000)
    (k : ∀ h' t', Tok → Sub h h' → Q (.bool (Txt.startswith x (y ++ "/"))) ⟨h', g, d, t', o⟩) :
    wpAny (model prg W.w) (Ar dp fr gd un) (call (.ref 250) [.str x u, .str y u']) Q E ⟨h, g, d, t, o⟩ := by
  refine' callDef W [("name", .str x u), ("parent", .str y u')] S r ?_
  intro L h₁ F N t₁
  refine wp_absQ fun Q1 hQ1 E1 => ?_
  have X := W.X' S
  have T := W.T' S
  k_steps
  all_goals (try (with_reducible refine hQ1 _ _ ?_))
  all_goals exact k _ _ 0 (Fr.keep (by assumption))
end
end
local macro_rules | `(tactic| walk_at "call ref") => `(tactic| ((with_reducible refine' atRef 250 ?_); (refine is_below_c _ (by walk_at "s") (by walk_at "room") (by walk_at "ao") ?_); intro h' t' u hs; walk_at "nt"))
section
section
variable {dp un : Nat} {fr : Option (List Env)} {gd : Option (List Code)} {h : Heap} {g : Array GenState} {d : Drawn} {t : Nat} {o : OsState} {Q E : Value → Shared → Prop}
noncomputable def lawNormal (x : Str) : Str := if Txt.lower (Txt.slice x none (some 5)) == "inbox" && ([Str.ofString "", Str.ofString "/"].any fun y => y == Txt.slice x (some 5) (some 6)) then "INBOX" ++ Txt.slice x (some 5) none else x
set_option maxHeartbeats 1000000 in
theorem law_normal_c (W : Wd) {x : Str} {u : Tok} (S : Sub W.H0 h) (r : Rm 1 (Ar dp fr gd un)) (hx : x.length ≤ 1000000)
    (k : ∀ h' t' u, Sub h h' → Q (.str (lawNormal x) u) ⟨h', g, d, t', o⟩) :
    wpAny (model prg W.w) (Ar dp fr gd un) (call (.ref 391) [.str x u]) Q E ⟨h, g, d, t, o⟩ := by
  refine' callDef W [("name", .str x u)] S r ?_
  intro L h₁ F N t₁
  refine wp_absQ fun Q1 hQ1 E1 => ?_
  have X := W.X' S
  have T := W.T' S
  k_steps
  all_goals (try (with_reducible refine hQ1 _ _ ?_))
  all_goals (try dsimp only)
  all_goals exact retS (fun u => k _ _ u (Fr.keep (by assumption))) (by simp [lawNormal, *])
end
end
local macro_rules | `(tactic| walk_at "call ref") => `(tactic| ((with_reducible refine' atRef 391 ?_); (refine law_normal_c _ (by walk_at "s") (by walk_at "room") (by walk_at "ao") ?_); intro h' t' u hs; walk_at "nt"))
section
section
variable {dp un : Nat} {fr : Option (List Env)} {gd : Option (List Code)} {h : Heap} {g : Array GenState} {d : Drawn} {t : Nat} {o : OsState} {Q E : Value → Shared → Prop}
noncomputable def lawIsName (x : Str) : Bool := !((Txt.split x "/").any fun y => y == Str.ofString "") && !(!(Builtin.Str.occurrences x "*" 0 x.length 1).isEmpty)
set_option maxHeartbeats 1000000 in
theorem law_is_name_c (W : Wd) {x : Str} {u : Tok} (S : Sub W.H0 h) (r : Rm 1 (Ar dp fr gd un)) (hx : x.length ≤ 1000000)
    (k : ∀ h' t', Tok → Sub h h' → Q (.bool (lawIsName x)) ⟨h', g, d, t', o⟩) :
    wpAny (model prg W.w) (Ar dp fr gd un) (call (.ref 398) [.str x u]) Q E ⟨h, g, d, t, o⟩ := by
  refine' callDef W [("name", .str x u)] S r ?_
  intro L h₁ F N t₁
  refine wp_absQ fun Q1 hQ1 E1 => ?_
  have X := W.X' S
  have T := W.T' S
  k_steps
  all_goals (try (with_reducible refine hQ1 _ _ ?_))
  all_goals (try dsimp only)
  all_goals (rename List.map _ _ = Txt.split _ _ => e)
  all_goals (rename List.any _ _ = _ => e2)
  · try (with_reducible refine hQ1 _ _ ?_)
    exact retB (k _ _ 0 (Fr.keep (by assumption))) (by unfold lawIsName; rw [← e, e2]; simp only [Bool.not_true, Bool.not_false, Bool.true_and, Bool.false_and])
  · exact retB (k _ _ 0 (Fr.keep (by assumption))) (by unfold lawIsName; rw [← e, e2]; simp only [Bool.not_true, Bool.not_false, Bool.true_and, Bool.false_and])
end
end
local macro_rules | `(tactic| walk_at "call ref") => `(tactic| ((with_reducible refine' atRef 398 ?_); (refine law_is_name_c _ (by walk_at "s") (by walk_at "room") (by walk_at "ao") ?_); intro h' t' u hs; walk_at "nt"))
section
section
variable {dp un : Nat} {fr : Option (List Env)} {gd : Option (List Code)} {h : Heap} {g : Array GenState} {d : Drawn} {t : Nat} {o : OsState} {Q E : Value → Shared → Prop}
end

end
section
noncomputable def excTail : List Value := [.ref 39, .type "Exception", .type "BaseException", .type "object"]
/-- what the text's objects say of an exception class of the text, PostError's heir -/
noncomputable def excIn (K : Frag) (C : Addr) : Bool := match K.lookup C with
  | some ⟨_, _, .cls cd, sl⟩ => !cd.abstract && !cd.hasDel && cd.hasDict && (sl.toList[4]?).join == some (.builtin "Exception.__new__") && cd.mro == .ref C :: excTail &&
      specialIn K (.ref C) "__call__" == some (some (.builtin "type.__call__")) && instIn K (.ref C) (.type "type") == some true &&
      findIn K (.ref C) "__setattr__" == some (some (.builtin "object.__setattr__")) && findIn K (.ref C) "__init__" == some (some (.ref 29)) &&
      findIn K (.ref C) "__getattribute__" == some (some (.builtin "BaseException.__getattribute__")) && findIn K (.ref C) "__getattr__" == some none &&
      takerIn K C "what" == some none && takerIn K C "at" == some none && typeIn K (.ref C) == some (.type "type")
  | _ => false
theorem exc52 (W : Wd) : excIn (K39 W.w.params) 52 = true := by kernel_rfl
theorem exc64 (W : Wd) : excIn (K39 W.w.params) 64 = true := by kernel_rfl
structure Xk (M : Model) (h : Heap) (C : Addr) : Prop where
  obj : ∃ oc od cd sl, h.get? C = some ⟨oc, od, .cls cd, sl⟩ ∧ cd.abstract = false ∧ cd.hasDel = false ∧ cd.hasDict = true ∧ cd.mro = .ref C :: excTail
  made : Looks M h (Bind.madeBy (.ref C)) (some "Exception.__new__")
  base : Looks M h (Bind.staticBase (.ref C)) (.ref C)
  sub : ∀ b, Looks M h (isSubtype (.ref C) b) ((Value.ref C :: excTail).contains b)
  mro : Looks M h (mroOf (.ref C)) (.ref C :: excTail)
  cls : Looks M h (classData C >>= fun cd => pure cd.hasDict) true
  call : Looks M h (specialOf (.ref C) "__call__") (some (.builtin "type.__call__"))
  typ : Looks M h (isInstance (.ref C) (.type "type")) true
  setattr : Looks M h (typeLookup (.ref C) "__setattr__") (some (.builtin "object.__setattr__"))
  init : Looks M h (typeLookup (.ref C) "__init__") (some (.ref 29))
  getattribute : Looks M h (typeLookup (.ref C) "__getattribute__") (some (.builtin "BaseException.__getattribute__"))
  getattr : Looks M h (typeLookup (.ref C) "__getattr__") none
  tt : Looks M h (typeOf (.ref C)) (.type "type")
theorem xk_of {K : Frag} {M : Model} {h : Heap} (X : K.In h) {C : Addr} (e : excIn K C = true) : Xk M h C := by
  unfold excIn at e
  split at e
  · rename_i oc od cd sl ho
    simp only [Bool.and_eq_true, Bool.not_eq_true', beq_iff_eq] at e
    obtain ⟨⟨⟨⟨⟨⟨⟨⟨⟨⟨⟨⟨⟨e1, e2⟩, e3⟩, e4⟩, e5⟩, e6⟩, e7⟩, e8⟩, e9⟩, e10⟩, e11⟩, e12⟩, e13⟩, e14⟩ := e
    have hc : clsIn K C = some cd := by unfold clsIn; rw [ho]
    have hm : Looks M h (mroOf (.ref C)) (.ref C :: excTail) := e5 ▸ (looks_clsIn X hc).andThen .now
    have made : Looks M h (Bind.madeBy (.ref C)) (some "Exception.__new__") := by
      intro A Q E s k q
      unfold Bind.madeBy
      refine wpAny_bind (hm A _ E s k ?_)
      rw [List.forIn_cons]
      refine wpAny_bind (wpAny_bind (wpAny_bind (wpAny_bind (wpAny_loadPart (k _ _ (X _ _ ho)) (wpAny_pure ?_)))))
      dsimp only
      rw [← Array.getElem?_toList, e4]
      exact wpAny_pure (wpAny_pure (wpAny_pure q))
    refine ⟨⟨oc, od, cd, sl, X _ _ ho, e1, e2, e3, e5⟩, made, ?_, fun b => looks_mroIn X ?_, hm, ?_, looks_specialIn X e6, looks_instIn X e7, looks_findIn X e8, looks_findIn X e9, looks_findIn X e10, looks_findIn X e11, looks_typeIn X e14⟩
    · intro A Q E s k q
      unfold Bind.staticBase
      refine wpAny_bind (hm A _ E s k ?_)
      rw [List.forIn_cons]
      exact wpAny_bind (wpAny_bind (wpAny_bind (made A _ E s k (wpAny_pure (wpAny_pure (wpAny_pure q))))))
    · unfold mroIn; rw [hc, Option.bind_some, e5]; rfl
    · exact (looks_clsIn X hc).andThen (e3 ▸ .now)
  · cases e
theorem taker_what {K : Frag} {C : Addr} (e : excIn K C = true) : takerIn K C "what" = some none := by
  unfold excIn at e
  split at e
  · simp only [Bool.and_eq_true, beq_iff_eq] at e; exact e.1.1.2
  · cases e
theorem taker_at {K : Frag} {C : Addr} (e : excIn K C = true) : takerIn K C "at" = some none := by
  unfold excIn at e
  split at e
  · simp only [Bool.and_eq_true, beq_iff_eq] at e; exact e.1.2
  · cases e

noncomputable abbrev bexc (C : Addr) (dd : Option Addr) (vs : Array Value) : Obj := { cls := .ref C, dict := dd, data := .fields vs }
noncomputable abbrev dict1 (H : Int) (x : Str) (u : Tok) (v : Value) : Obj := { cls := .type "dict", data := .dict #[⟨H, .str x u, v⟩] }
section
open Builtin Builtin.ObjectAttr
variable {prog : Program} {w : World} {A : Around} {K : Frag} {C x : Addr} {s : Shared} {R : Result → Shared → Prop} {E : Value → Shared → Prop}
/-- an attribute is laid on an exception of the text's own class: down to the own dict -/
theorem setx_open {dd : Option Addr} {vs : Array Value} {name : Str} {v : Value} {Q : Unit → Shared → Prop} (X : K.In s.heap) (e : excIn K C = true) (hx : s.heap.get? x = some (bexc C dd vs)) (ht : takerIn K C name = some none)
    (h : ∀ tk b, wpAny (model prog w) A.in1 (storeInOwnDict (.ref x) (.ref C) (.str name tk) name v b)
      (fun fin s' => match fin with | .done (.ret _) => Q () s' | _ => False) (fun e s' => E e s') { s with toks := s.toks + 1 }) :
    wpAny (model prog w) A (setAttr (.ref x) name v) Q E s := by
  have Y := xk_of (M := model prog w) X e
  have SF := PySem.F.store_object
  obtain ⟨hh, g, d, t, os⟩ := s
  have T : Looks (model prog w) hh (typeOf (.ref x)) (.ref C) := (Looks.ld hx).andThen .now
  refine wpAny_bind (wpAny_mkText (wpAny_bind (wpAny_bind (wpAny_bind (T.at (Y.setattr.at (wpAny_holding ?_)))))))
  rw [SF.slot.bind]
  refine wpAny_bind (wpAny_pure (wpAny_bind (wpAny_call ?_)))
  have sub : Looks (model prog w) hh (isInstance (.ref x) (.type "object")) true := T.andThen (Y.sub _)
  refine codeAny_call_builtin SF.slot.plain SF.entry (@check_slot (model prog w) _ _ ⟨hh, g, d, t + 1, os⟩ "object.__setattr__" "object" "__setattr__" (.ref x) [.str name t, v] [] _ SF.kind SF.split sub (SF.args (.ref x) (.str name t) v) ?_)
  obtain ⟨attr, ha, hr⟩ := Option.bind_eq_some_iff.mp ht
  have L3 : Looks (model prog w) hh (storeTaker? attr) none := by
    cases attr with
    | none => exact .now
    | some a =>
      obtain ⟨b, hb, hb2⟩ := Option.map_eq_some_iff.mp hr
      refine (looks_takesIn X hb).andThen ?_
      cases b <;> first | exact .now | cases hb2
  show wpAny _ _ (Builtin.«object.__setattr__» ⟨[.ref x, .str name t, v], []⟩) _ _ _
  rw [osa_eq, refuse_eq]
  refine wpAny_bind (wpAny_bind (T.at (wpAny_bind (Y.mro.at ?_))))
  unfold excTail
  rw [refuseLoop_ref, refuseLoop_ref, PySem.F.store_Exception.passes]
  refine wpAny_pure (wpAny_bind (T.at (wpAny_bind ((looks_findIn X ha).at (wpAny_bind (L3.at ?_))))))
  refine wpAny_mono (h t attr.isSome) (fun fin s' z => ?_) fun _ _ z => z
  rcases fin with (_ | _ | _ | _) | _ <;> first | exact z.elim | exact wpAny_pure (wpAny_pure z)
theorem store_dict {M : Model} {D : Addr} {od : Obj} {name : Str} {tk : Tok} {v : Value} {Q : Fin → Shared → Prop} (hD : s.heap.get? D = some od) (hl : (lookIn name od).isSome = true)
    (hf : ∀ H u, (Obj.putName name H (.str name u) v od).isFreed = false) (hp : ∀ H u, (Obj.putName name H (.str name u) v od).data.pastItsLine = none)
    (h : ∀ H u t', Q (.done (.ret .none)) ⟨s.heap.update D (Obj.putName name H (.str name u) v), s.gens, s.drawn, t', s.os⟩) :
    wpAny M A (storeInDict D (.str name tk) name v) Q E s := by
  obtain ⟨hh, g, d, t, os⟩ := s
  unfold storeInDict newKeyGuard nsSet
  refine wpAny_bind (wpAny_pure (wpAny_bind (wpAny_bind (wpAny_bind (wpAny_askSetting (wpAny_pure (wpAny_bind (wpAny_mkText (wpAny_bind (wpAny_loadPart hD ?_))))))))))
  unfold lookIn at hl
  split at hl
  · rename_i es₀ n₀ q
    rw [q]
    dsimp only
    have c : (!es₀.any (·.key.isStr name) && es₀.any (·.refKey)) = false := by
      rw [← Array.any_toList, ← Array.any_toList]
      split at hl
      · rename_i en he
        rw [List.any_eq_true.mpr ⟨en, List.mem_of_find?_eq_some he, List.find?_some he⟩]; rfl
      · split at hl
        · cases hl
        · rename_i z; rw [Bool.not_eq_true] at z; rw [z, Bool.and_false]
    rw [aRefKeyMayBeTheName_at, c]
    refine wpAny_updatePart hD ?_
    refine wpAny_bind (wpAny_lookBehind (Heap.get?_update_self _ hD (hf _ _)) (hp _ _) ?_)
    exact wpAny_pure (h _ _ _)
  · cases hl
noncomputable abbrev putO (name : Str) (H : Int) (u : Tok) (v : Value) (o : Obj) : Obj := Obj.putName name H (.str name u) v o
/-- the first attribute: the dict is made -/
theorem setx0 {vs : Array Value} {name : Str} {v : Value} {Q : Unit → Shared → Prop} (X : K.In s.heap) (e : excIn K C = true) (hx : s.heap.get? x = some (bexc C none vs)) (ht : takerIn K C name = some none)
    (hl : (lookIn name emptyDict).isSome = true := by rfl) (hf : ∀ H u, (putO name H u v emptyDict).isFreed = false := by intro _ _; rfl) (hp : ∀ H u, (putO name H u v emptyDict).data.pastItsLine = none := by intro _ _; rfl)
    (h : ∀ H u h' t', h'.get? x = some (bexc C (some s.heap.objs.size) vs) → h'.get? s.heap.objs.size = some (putO name H u v emptyDict) → (∀ b o, b ≠ x → s.heap.get? b = some o → h'.get? b = some o) → Q () ⟨h', s.gens, s.drawn, t', s.os⟩) :
    wpAny (model prog w) A (setAttr (.ref x) name v) Q E s := by
  refine setx_open X e hx ht fun tk b => ?_
  have Y := xk_of (M := model prog w) X e
  obtain ⟨hh, g, d, t, os⟩ := s
  obtain ⟨oc, od, cd, sl, hC, -, -, hd, -⟩ := Y.obj
  have LC : Looks (model prog w) hh (classData C) cd := (Looks.ld (part := none) hC).andThen .now
  have hx₁ : (hh.push emptyDict).get? x = some (bexc C none vs) := Heap.get?_push_of_some _ hx
  have hxs : x ≠ hh.objs.size := Nat.ne_of_lt (Heap.lt_size hx)
  refine wpAny_bind (wpAny_pure (wpAny_bind (wpAny_bind (wpAny_loadPart hx (wpAny_bind (LC.at ?_))))))
  rw [hd]
  refine wpAny_bind (wpAny_alloc' ?_)
  refine wpAny_bind (wpAny_update' hx₁ ?_)
  refine wpAny_pure ?_
  have hD : ((hh.push emptyDict).update x fun o => { o with dict := some hh.objs.size }).get? hh.objs.size = some emptyDict := (Heap.get?_update_ne _ _ _ _ hxs.symm).trans (Heap.get?_push_at rfl rfl)
  show wpAny _ _ (storeInDict _ (.str name tk) name v) _ _ _
  refine store_dict (s := ⟨_, g, d, _, os⟩) hD hl hf hp ?_
  intro H u t'
  refine h H u _ t' ?_ (Heap.get?_update_self _ hD (hf H u)) fun b o hb hbo => ?_
  · exact (Heap.get?_update_ne _ _ _ _ hxs).trans (Heap.get?_update_self _ hx₁ rfl)
  · exact (Heap.get?_update_ne _ _ _ _ (Nat.ne_of_lt (Heap.lt_size hbo))).trans ((Heap.get?_update_ne _ _ _ _ hb).trans (Heap.get?_push_of_some _ hbo))
/-- one more attribute -/
theorem setx1 {vs : Array Value} {name : Str} {v : Value} {D : Addr} {od : Obj} {Q : Unit → Shared → Prop} (X : K.In s.heap) (e : excIn K C = true) (hx : s.heap.get? x = some (bexc C (some D) vs)) (hD : s.heap.get? D = some od) (hne : D ≠ x) (ht : takerIn K C name = some none)
    (hl : (lookIn name od).isSome = true) (hf : ∀ H u, (putO name H u v od).isFreed = false) (hp : ∀ H u, (putO name H u v od).data.pastItsLine = none)
    (h : ∀ H u h' t', h'.get? x = some (bexc C (some D) vs) → h'.get? D = some (putO name H u v od) → (∀ b o, b ≠ D → s.heap.get? b = some o → h'.get? b = some o) → Q () ⟨h', s.gens, s.drawn, t', s.os⟩) :
    wpAny (model prog w) A (setAttr (.ref x) name v) Q E s := by
  refine setx_open X e hx ht fun tk b => ?_
  have Y := xk_of (M := model prog w) X e
  obtain ⟨hh, g, d, t, os⟩ := s
  obtain ⟨oc, odc, cd, sl, hC, -, -, hd, -⟩ := Y.obj
  have LC : Looks (model prog w) hh (classData C) cd := (Looks.ld (part := none) hC).andThen .now
  refine wpAny_bind (wpAny_pure (wpAny_bind (wpAny_bind (wpAny_loadPart hx (wpAny_bind (LC.at ?_))))))
  rw [hd]
  refine wpAny_pure ?_
  show wpAny _ _ (storeInDict _ (.str name tk) name v) _ _ _
  refine store_dict (s := ⟨_, g, d, _, os⟩) hD hl hf hp ?_
  intro H u t'
  exact h H u _ t' ((Heap.get?_update_ne _ _ _ _ hne.symm).trans hx) (Heap.get?_update_self _ hD (hf H u)) fun b o hb hbo => (Heap.get?_update_ne _ _ _ _ hb).trans hbo
end
section
open Builtin Builtin.ObjectAttr
variable {prog : Program} {w : World} {A : Around} {K : Frag} {C x : Addr} {R : Result → Shared → Prop} {h : Heap} {g : Array GenState} {d : Drawn} {t : Nat} {os : OsState}
theorem new_x {rest : List Value} (Y : Xk (model prog w) h C) (hrest : rest.length ≤ sizeLine)
    (hq : R (.ok (.ret (.ref (h.objs.size + 1)))) ⟨(h.push (tupO rest)).push (bexc C none #[.ref h.objs.size, .none, .none, .none, .bool false, .none]), g, d, t, os⟩) :
    codeAny (model prog w) A (.call (.builtin "Exception.__new__") ⟨.ref C :: rest, []⟩) R ⟨h, g, d, t, os⟩ := by
  have F := PySem.F.excBase_Exception
  obtain ⟨⟨oc, od, cd, sl, hC, e1, e2, e3, e4⟩, made, base, sub, mro, cls, call, typ, -⟩ := Y
  have s1 : Looks (model prog w) h (isSubtype (.ref C) (.type "Exception")) true := sub _
  have s2 : Looks (model prog w) h (isSubtype (.ref C) (.type "AttributeError")) false := sub _
  have s3 : Looks (model prog w) h (isSubtype (.ref C) (.type "NameError")) false := sub _
  refine codeAny_call_builtin_code (Code.quiet_builtin _ F.quiet) ?_
  have here : Looks (model prog w) h (Bind.madeHere "Exception.__new__" (.ref C)) () := base.andThen (made.andThen (Looks.of_pure (by simp only [Option.map_some, bne_self_eq_false, Bool.false_eq_true, if_false])))
  have here2 : Looks (model prog w) h (Bind.madeHere "BaseException.__new__" (.ref C)) () := base.andThen (made.andThen (Looks.of_pure (by simp only [Option.map_some, F.canon, bne_self_eq_false, Bool.false_eq_true, if_false])))
  simp only [checkBuiltinCall, F.newKind, F.newSplit, F.newRow]
  have hends := F.ends
  have hstar := F.noStar
  repeat (first | simp only [bne_self_eq_false, Bool.false_eq_true, if_false] | lk)
  refine codeAny_builtinAt F.entry ?_
  unfold Builtin.«BaseException.__new__»
  refine PySem.wpAt_bind ?_
  show PySem.wpAt _ _ _ (stack >>= _) _ _ _
  refine PySem.wpAt_bind (PySem.wpAt_stack fun p below => PySem.wpAt_of_wpAny ?_)
  wp_walk
  refine PySem.wpAt_of_wpAny ?_
  rw [F.owner]
  repeat (first | simp only [bne_self_eq_false, Bool.false_eq_true, if_false] | lk)
  rw [if_neg (show ¬ rest.toArray.size > sizeLine from by rw [List.size_toArray]; exact Nat.not_lt.mpr hrest)]
  wp_walk
  rw [Heap.size_push]
  exact hq

theorem make_x {rest : List Value} {fI : Addr} (Y : Xk (model prog w) h C) (hrest : rest.length ≤ sizeLine) (hi : Looks (model prog w) h (typeLookup (.ref C) "__init__") (some (.ref fI)))
    (hb : ∀ self, Looks (model prog w) h (bindSpecial (.ref fI) self) (.ref fI, [self]))
    (hq : codeAny (model prog w) (A.under (.builtin "type.__call__" ⟨.ref C :: rest, []⟩)) (.call (.ref fI) ⟨.ref (h.objs.size + 1) :: rest, []⟩) (InitBack (h.objs.size + 1) R)
      ⟨(h.push (tupO rest)).push (bexc C none #[.ref h.objs.size, .none, .none, .none, .bool false, .none]), g, d, t, os⟩) :
    codeAny (model prog w) A (.call (.ref C) ⟨rest, []⟩) R ⟨h, g, d, t, os⟩ := by
  have Y' := Y
  obtain ⟨⟨oc, od, cd, sl, hC, e1, e2, e3, e4⟩, made, base, sub, mro, cls, call, typ, -⟩ := Y
  refine codeAny_of_tree ?_
  show wpAny _ _ (callAny (.ref C) _) _ _ _
  refine nd_load hC ?_
  show wpAny _ _ (callAny.viaDunder (.ref C) _) _ _ _
  unfold callAny.viaDunder
  refine wpAny_bind (call.at ?_)
  dsimp only
  rw [tc_bind]
  refine wpAny_bind (wpAny_pure (wpAny_bind (wpAny_pure ?_)))
  refine wpAny_pure (a := Fin.again (.call (.builtin "type.__call__") ⟨.ref C :: rest, []⟩)) (And.intro rfl ?_)
  refine codeAny_call_builtin_at (Code.quiet_builtin _ (by decide +kernel)) entry_typeCall (check_slot tc_kind tc_split typ (tc_args _ _ _) ?_)
  unfold Builtin.«type.__call__»
  have e5 : (Value.ref C :: excTail).isEmpty = false := rfl
  repeat (first | simp only [e5, Bool.false_eq_true, if_false] | with_reducible refine wpAny_call ?_ | lk)
  refine new_x Y' hrest ?_
  have k : ∀ b o, h.get? b = some o → ((h.push (tupO rest)).push (bexc C none #[.ref h.objs.size, .none, .none, .none, .bool false, .none])).get? b = some o := fun b o e => Heap.get?_push_of_some _ (Heap.get?_push_of_some _ e)
  have hx : ((h.push (tupO rest)).push (bexc C none #[.ref h.objs.size, .none, .none, .none, .bool false, .none])).get? (h.objs.size + 1) = some (bexc C none #[.ref h.objs.size, .none, .none, .none, .bool false, .none]) := by heap_get
  have t1 : Looks (model prog w) ((h.push (tupO rest)).push (bexc C none #[.ref h.objs.size, .none, .none, .none, .bool false, .none])) (typeOf (.ref (h.objs.size + 1))) (.ref C) := (Looks.ld hx).andThen .now
  have s1 : Looks (model prog w) ((h.push (tupO rest)).push (bexc C none #[.ref h.objs.size, .none, .none, .none, .bool false, .none])) (isSubtype (.ref C) (.ref C)) true := by
    have := (sub (.ref C)).keeps k
    rw [show (Value.ref C :: excTail).contains (.ref C) = true from by simp] at this
    exact this
  have i1 := hi.keeps k
  have b1 := (hb (.ref (h.objs.size + 1))).keeps k
  unfold isInstance callSpecial? specialOf
  repeat (first | with_reducible refine wpAny_call ?_ | lk)
  refine codeAny_mono hq fun r s' z => ?_
  rcases r with e | (v | _ | _ | _) <;> first | exact z | exact z.elim | skip
  obtain ⟨rfl, z⟩ := z
  exact wpAny_pure (wpAny_pure z)
end

end
section
section
variable {prog : Program} {w : World} {A : Around} {C e t00 : Addr} {E : Value → Shared → Prop} {h : Heap} {g : Array GenState} {d : Drawn} {t : Nat} {os : OsState}
theorem exc_init {v : Value} {Q : Value → Shared → Prop} (Y : Xk (model prog w) h C) (he : h.get? e = some (bexc C none #[.ref t00, .none, .none, .none, .bool false, .none]))
    (hq : ∀ t0 h', h'.get? e = some (bexc C none #[.ref t0, .none, .none, .none, .bool false, .none]) → (∀ b o, b ≠ e → h.get? b = some o → h'.get? b = some o) → Q .none ⟨h', g, d, t, os⟩) :
    wpAny (model prog w) A (call (.builtin "Exception.__init__") [.ref e, v]) Q E ⟨h, g, d, t, os⟩ := by
  have F := PySem.F.excBase_Exception
  have T : Looks (model prog w) h (typeOf (.ref e)) (.ref C) := (Looks.ld he).andThen .now
  have sub : Looks (model prog w) h (isInstance (.ref e) (.type "Exception")) true := T.andThen (Y.sub _)
  refine wpAny_call (codeAny_call_builtin F.init.plain F.initEntry ?_)
  have hshort := F.noStar
  simp only [checkBuiltinCall, F.initKind, F.initSplit, F.initRow]
  obtain ⟨⟨oc, od, cd, sl, hC, -⟩, -⟩ := Y
  repeat (first | (with_reducible refine wpAny_loadPart_at he ?_) | with_reducible refine wpAny_loadPart_at hC ?_ | with_reducible refine Looks.at (by assumption) ?_ | wp_step)
  have he₁ := Heap.get?_push_of_some (tupO [v]) he
  refine hq h.objs.size _ ((Heap.get?_update_self _ he₁ rfl).trans rfl) fun b o hb hbo => ?_
  exact (Heap.get?_update_ne _ _ _ _ hb).trans (Heap.get?_push_of_some _ hbo)
end
section
variable {hd' : Option Value} {dp un : Nat} {fr : Option (List Env)} {gd : Option (List Code)} {h : Heap} {g : Array GenState} {d : Drawn} {t : Nat} {o : OsState} {Q E : Value → Shared → Prop}
noncomputable abbrev ArH (hn : Option Value) (dp : Nat) (fr : Option (List Env)) (gd : Option (List Code)) (un : Nat) : Around := { handled := hn, depth := dp, frames := fr, guards := gd, units := un }
/-- an exception's own dict: what it says -/
inductive XD (h : Heap) (D : Addr) (x : Str) (u : Tok) (av : Value) : Prop
  | mk (od : Obj) (e : h.get? D = some od) (nf : ∀ vs, od.data ≠ .fields vs) (nc : ∀ cd, od.data ≠ .cls cd) (l1 : lookIn "what" od = some (some (.str x u))) (l2 : lookIn "at" od = some (some av))
set_option maxHeartbeats 1000000 in
theorem init_c (W : Wd) {A : Around} {R : Result → Shared → Prop} {C e : Addr} {t00 : Addr} {x : Str} {u : Tok} {av : Value} {args : List Value} (S : Sub W.H0 (hideAll h [e])) (r : Rm 1 A) (hC : excIn (K39 W.w.params) C = true)
    (he : h.get? e = some (bexc C none #[.ref t00, .none, .none, .none, .bool false, .none]))
    (ha : args = [.ref e, .str x u, av] ∨ (args = [.ref e, .str x u] ∧ ∃ c dd n sl, (K39 W.w.params).lookup 22 = some ⟨c, dd, .seq #[av] n, sl⟩))
    (k : ∀ h' t' D t0, Sub (hideAll h [e]) h' → h.get? D = none → D ≠ e → h'.get? e = some (bexc C (some D) #[.ref t0, .none, .none, .none, .bool false, .none]) → XD h' D x u av → R (.ok (.ret .none)) ⟨h', g, d, t', o⟩) :
    codeAny (model prg W.w) A (.call (.ref 29) ⟨args, []⟩) R ⟨h, g, d, t, o⟩ := by
  have S0 : Sub W.H0 h := fun b o q => of_hideAll _ (S b o q)
  refine' codeDef W [("self", .ref e), ("what", .str x u), ("at", av)] S0 r ?_ (hbind := ?hb)
  case hb =>
    rcases ha with rfl | ⟨rfl, c, dd, n, sl, h22⟩
    · refine binds_K (T := 22) (W.X' S0) rfl (by k_is) rfl rfl rfl
    · refine binds_K (T := 22) (W.X' S0) rfl h22 rfl rfl rfl
  intro L h₁ F0 N0 t₁
  refine wp_absQ fun Q1 hQ1 E1 => ?_
  have F : Fr (hideAll h [e]) L h₁ _ := ⟨F0.ns, fun b o q => F0.keep b o (of_hideAll _ q), by rw [hideAll_size]; exact F0.above⟩
  have N : News (hideAll h [e]) L h₁ [(e, bexc C none #[.ref t00, .none, .none, .none, .bool false, .none])] := (allOne (⟨F0.keep _ _ he, ltNe (Nat.lt_of_lt_of_le (Heap.lt_size he) F0.above), hideAll_none _ (.head _)⟩))
  clear F0 N0
  have X := W.X' S
  have T := W.T' S
  k_steps
  all_goals (try (with_reducible refine hQ1 _ _ ?_))
  refine' method_type (v := .builtin "Exception.__init__") ?F ?X ?m (by decide +kernel) ?e ?hi ?_
  case F => assumption
  case X => assumption
  case m => kernel_rfl
  case e => k_dflt k_is
  case hi => rfl
  k_steps
  all_goals (try (with_reducible refine hQ1 _ _ ?_))
  refine exc_init (xk_of (W.X' (S.trans F.keep)) hC) (N _ (.head _)).1 ?_
  intro t0 h₂ he₂ hk₂
  have F₂ : Fr (hideAll h [e]) L h₂ _ := ⟨F.ns.at' fun ob q => hk₂ _ ob (fun z => (N _ (.head _)).2.1 z.symm) q, fun b ob q => hk₂ b ob (fun z => by rw [z, (N _ (.head _)).2.2] at q; cases q) (F.keep b ob q), F.above⟩
  have N₂ : News (hideAll h [e]) L h₂ [(e, bexc C none #[.ref t0, .none, .none, .none, .bool false, .none])] := (allOne (⟨he₂, (N _ (.head _)).2⟩))
  clear F N
  k_steps
  all_goals (try (with_reducible refine hQ1 _ _ ?_))
  refine setx0 (W.X' (S.trans F₂.keep)) hC (N₂ _ (.head _)).1 (taker_what hC) (h := ?_)
  intro H1 u1 h₃ t₃ he₃ hD₃ hk₃
  have F₃ : Fr (hideAll h [e]) L h₃ _ := ⟨F₂.ns.at' fun ob q => hk₃ _ ob (fun z => (N₂ _ (.head _)).2.1 z.symm) q, fun b ob q => hk₃ b ob (fun z => by rw [z, (N₂ _ (.head _)).2.2] at q; cases q) (F₂.keep b ob q), F₂.above⟩
  have hDe : h₂.objs.size ≠ e := gtNe (Heap.lt_size he₂)
  have hDL : h₂.objs.size ≠ L := gtNe F₂.ns.lt
  have hD0 : (hideAll h [e]).get? h₂.objs.size = none := by
    cases q : (hideAll h [e]).get? h₂.objs.size with
    | none => rfl
    | some ob => exact absurd (Heap.lt_size (F₂.keep _ _ q)) (Nat.lt_irrefl _)
  have N₃ : News (hideAll h [e]) L h₃ [(e, bexc C (some h₂.objs.size) #[.ref t0, .none, .none, .none, .bool false, .none]), (h₂.objs.size, putO "what" H1 u1 (.str x u) emptyDict)] := (allCons (⟨he₃, (N₂ _ (.head _)).2⟩) (allCons (⟨hD₃, hDL, hD0⟩) allNil))
  generalize h₂.objs.size = D at *
  clear F₂ N₂
  dsimp only
  k_steps
  all_goals (try (with_reducible refine hQ1 _ _ ?_))
  refine setx1 (W.X' (S.trans F₃.keep)) hC (N₃ _ (.head _)).1 (N₃ _ (.tail _ (.head _))).1 hDe (taker_at hC) (by rfl) (by intro _ _; rfl) (by intro _ _; rfl) ?_
  intro H2 u2 h₄ t₄ he₄ hD₄ hk₄
  have F₄ : Fr (hideAll h [e]) L h₄ _ := ⟨F₃.ns.at' fun ob q => hk₄ _ ob hDL.symm q, fun b ob q => hk₄ b ob (fun z => by rw [z, hD0] at q; cases q) (F₃.keep b ob q), F₃.above⟩
  have N₄ : News (hideAll h [e]) L h₄ [(e, bexc C (some D) #[.ref t0, .none, .none, .none, .bool false, .none]), (D, putO "at" H2 u2 av (putO "what" H1 u1 (.str x u) emptyDict))] := (allCons (⟨he₄, (N₃ _ (.head _)).2⟩) (allCons (⟨hD₄, hDL, hD0⟩) allNil))
  clear F₃ N₃
  dsimp only
  k_steps
  all_goals (try (with_reducible refine hQ1 _ _ ?_))
  refine k _ _ D t0 F₄.keep ?_ hDe (N₄ _ (.head _)).1 ⟨_, (N₄ _ (.tail _ (.head _))).1, (by intro vs q; cases q), (by intro vs q; cases q), by rfl, by rfl⟩
  cases q : h.get? D with
  | none => rfl
  | some ob => rw [hideAll_get _ q (by simpa using hDe)] at hD0; cases hD0
structure Mx (h h' : Heap) (C e D : Addr) (x : Str) (u : Tok) (av : Value) : Prop where
  keep : Sub h h'
  enew : h.get? e = none
  dnew : h.get? D = none
  ne : D ≠ e
  at_ : ∃ t0, h'.get? e = some (bexc C (some D) #[.ref t0, .none, .none, .none, .bool false, .none])
  dict : XD h' D x u av
theorem Rm.under1 {n : Nat} {A : Around} {C : Addr} {vals : List Value} (r : Rm (n+1) A) : Rm n (A.under (.builtin "type.__call__" ⟨.ref C :: vals, []⟩)) :=
  ⟨by have := r.depth; rw [depth_under_kw]; omega, by
    have e : Code.cUnits (.builtin "type.__call__" ⟨.ref C :: vals, []⟩) = 1 := by kernel_rfl
    have := r.units; show A.units + Code.cUnits _ + 8 * n < _; rw [e]; omega⟩
theorem exc_c (W : Wd) {C : Addr} {x : Str} {u : Tok} {av : Value} {rest : List Value} (S : Sub W.H0 h) (r : Rm 3 (ArH hd' dp fr gd un)) (hC : excIn (K39 W.w.params) C = true)
    (ha : rest = [.str x u, av] ∨ (rest = [.str x u] ∧ ∃ c dd n sl, (K39 W.w.params).lookup 22 = some ⟨c, dd, .seq #[av] n, sl⟩))
    (k : ∀ h' t' e D, Mx h h' C e D x u av → Q (.ref e) ⟨h', g, d, t', o⟩) :
    wpAny (model prg W.w) (ArH hd' dp fr gd un) (call (.ref C) rest) Q E ⟨h, g, d, t, o⟩ := by
  have X := W.X' S
  have Y := xk_of (M := model prg W.w) X hC
  have hr : rest.length ≤ sizeLine := by rcases ha with rfl | ⟨rfl, _⟩ <;> (rw [sizeLine_eq]; simp)
  refine wpAny_call (make_x Y hr Y.init (fun self => bind_fn X self (by k_is)) ?_)
  have hx : ((h.push (tupO rest)).push (bexc C none #[.ref h.objs.size, .none, .none, .none, .bool false, .none])).get? (h.objs.size + 1) = some (bexc C none #[.ref h.objs.size, .none, .none, .none, .bool false, .none]) := by heap_get
  have hen : h.get? (h.objs.size + 1) = none := Heap.get?_none_of_le (Nat.le_succ _)
  generalize h.objs.size + 1 = e at *
  have S2 : Sub h (hideAll ((h.push (tupO rest)).push (bexc C none #[.ref h.objs.size, .none, .none, .none, .bool false, .none])) [e]) := fun b ob q => hideAll_get _ (Heap.get?_push_of_some _ (Heap.get?_push_of_some _ q)) fun hm => by
    rw [List.mem_singleton.mp hm, hen] at q; cases q
  have k2 : ∀ b, ((h.push (tupO rest)).push (bexc C none #[.ref h.objs.size, .none, .none, .none, .bool false, .none])).get? b = none → h.get? b = none := fun b q => by
    cases z : h.get? b with
    | none => rfl
    | some ob => rw [Heap.get?_push_of_some _ (Heap.get?_push_of_some _ z)] at q; cases q
  refine init_c W (C := C) (x := x) (u := u) (av := av) (S.trans S2) (Rm.under1 (Rm.mono (by decide) r)) hC hx ?_ ?_
  · rcases ha with rfl | ⟨rfl, z⟩
    · exact .inl rfl
    · exact .inr ⟨rfl, z⟩
  · intro h' t' D t0 s1 s2 s3 s4 s5
    exact ⟨rfl, k h' t' e D ⟨S2.trans s1, hen, k2 _ s2, s3, ⟨t0, s4⟩, s5⟩⟩
end

end
section
noncomputable def TbOk (h base : Heap) (e : Addr) (fl : Option Value) (vs : Array Value) : Prop := match fl with
  | none => vs[1]? = some .none
  | some v => ∃ T oT ts, vs[1]? = some (.ref T) ∧ base.get? T = none ∧ T ≠ e ∧ h.get? T = some oT ∧ oT.data = .fields ts ∧ ts[3]? = some v
/-- an exception of the text's own class in flight (or held): its dict and its context are told too -/
structure Xc (base : Heap) (l : List Env) (e C : Addr) (dd : Option Addr) (cx : Value) (fl : Option Value) (h : Heap) : Prop where
  stays : base.StaysIn h
  new : base.get? e = none
  frames : h.FunFrames base l
  there : ∃ oe vs, h.get? e = some oe ∧ (oe.cls = .ref C ∧ oe.dict = dd ∧ vs[2]? = some cx) ∧ oe.data = .fields vs ∧ TbOk h base e fl vs
theorem Xc.obj {base : Heap} {l : List Env} {e C : Addr} {dd : Option Addr} {cx : Value} {fl : Option Value} {h : Heap} (x : Xc base l e C dd cx fl h) : ∃ oe vs, h.get? e = some oe ∧ oe.cls = .ref C ∧ oe.dict = dd ∧ oe.data = .fields vs ∧ vs[2]? = some cx :=
  let ⟨oe, vs, h1, ⟨h2, h3, h4⟩, h5, _⟩ := x.there; ⟨oe, vs, h1, h2, h3, h5, h4⟩
theorem dict_mapF (f : Array Value → Array Value) (o : Obj) : (Obj.mapFields f o).dict = o.dict := by obtain ⟨c, d, dt, sl⟩ := o; cases dt <;> rfl
section
variable {M : Model} {A : Around} {E : Value → Shared → Prop} {s : Shared} {base : Heap} {env : Env} {outer : List Env} {L e C : Addr} {dd : Option Addr} {cx : Value} {fl : Option Value}
theorem entry_x {oe : Obj} {vs : Array Value} {head : Value} {hadNext : Bool} {Q : Unit → Shared → Prop}
    (hfr : A.frames = some (env :: outer)) (hl : s.heap.FunFrames base (env :: outer)) (hf : env.frame = some L)
    (he : s.heap.get? e = some oe) (hkb : base.StaysIn s.heap) (hen : base.get? e = none) (hd : oe.data = .fields vs) (hsz : 1 < vs.size) (h2 : vs[2]? = some cx) (hc : oe.cls = .ref C) (hdd : oe.dict = dd)
    (h : ∀ h', Xc base (env :: outer) e C dd cx (some (rawInt L)) h' → s.heap.UpToSlots h' → Q () { s with heap := h' }) :
    wpAny M A (do let a ← frameOf env; let pl ← entryPlaceOf L hadNext; let b ← EntryCells.newEntry head a .none (rawInt L) .none pl; setField (.ref e) 1 b) Q E s := by
  have hene : e ∉ (env :: outer).filterMap (·.frame) := fun hm => by
    obtain ⟨_, o, ho, hnf⟩ := hl.mem hm
    rw [he] at ho; injection ho with ho; subst ho; exact hnf vs hd
  refine wpAny_bind (wpAny_frameOf_fun hfr hl hf fun h₁ hs₁ => ?_)
  refine wpAny_bind (wpAny_entryPlaceOf fun pl hpl => ?_)
  unfold EntryCells.newEntry newFields
  refine wpAny_bind (wpAny_newObj_type ?_ (hpl.sizeOk5 _ _ _ _ _))
  have he₁ : h₁.get? e = some oe := (hs₁.2.1 e hene).trans he
  have kb₁ : base.StaysIn h₁ := fun b o hbo => (hs₁.2.1 b fun hm => by rw [(hl.mem hm).1] at hbo; cases hbo).trans (hkb b o hbo)
  generalize hT : ({ cls := .type "traceback", dict := none, data := .fields ([head, .ref L, .none, rawInt L, .none] ++ (if pl.isEmpty then List.replicate 6 Value.none else pl)).toArray } : Obj) = oT
  have hdT : ∃ ts, oT.data = .fields ts ∧ ts[3]? = some (rawInt L) := ⟨_, by rw [← hT], by simp⟩
  have hfT : oT.isFreed = false := by rw [← hT]; rfl
  have he₂ := Heap.get?_push_of_some (h := h₁) oT he₁
  refine wpAny_setField he₂ hd hsz ?_
  have hTe : h₁.objs.size ≠ e := Nat.ne_of_gt (Heap.lt_size he₁)
  have hd₃ := Obj.data_mapFields hd (·.setIfInBounds 1 (Value.ref h₁.objs.size))
  have he₃ := Heap.get?_update_self (Obj.mapFields (·.setIfInBounds 1 (Value.ref h₁.objs.size))) he₂ (Obj.isFreed_of_fields hd₃)
  have hT₃ := (Heap.get?_update_other (h₁.push oT) (Obj.mapFields (·.setIfInBounds 1 (Value.ref h₁.objs.size))) (Ne.symm hTe)).trans (Heap.get?_push_size h₁ hfT)
  have keep : ∀ b o, b ≠ e → h₁.get? b = some o → ((h₁.push oT).update e (Obj.mapFields (·.setIfInBounds 1 (Value.ref h₁.objs.size)))).get? b = some o := fun b o hbe hb => by
    rw [Heap.get?_update_other _ _ (Ne.symm hbe)]
    exact Heap.get?_push_of_some _ hb
  have noRecord : ∀ b o, s.heap.get? b = some o → (∀ vs, o.data ≠ .fields vs) → b ≠ e := fun b o hb hnf q => by
    rw [q, he] at hb; injection hb with hb; subst hb; exact hnf vs hd
  obtain ⟨ts, hd1, hd2⟩ := hdT
  refine h _ ⟨fun b o hbo => keep b o (fun q => by rw [q, hen] at hbo; cases hbo) (kb₁ b o hbo), hen, hl.of_keeps fun b o hb hnf => ?_, ?_⟩ fun b o hb hnf => ?_
  · obtain ⟨sl, hs⟩ := hs₁.2.2 b o hb
    exact ⟨_, keep b _ (noRecord b o hb hnf) hs, rfl⟩
  · exact ⟨_, _, he₃, ⟨(Obj.cls_mapFields _ _).trans hc, (dict_mapF _ _).trans hdd, by rw [Array.getElem?_setIfInBounds_ne (by decide)]; exact h2⟩, hd₃, h₁.objs.size, _, _, by simp [hsz], kb₁.fresh, hTe, hT₃, hd1, hd2⟩
  · obtain ⟨sl, hs⟩ := hs₁.2.2 b o hb
    exact ⟨sl, keep b _ (noRecord b o hb hnf) hs⟩

/-- the frame notes an exception that comes to it -/
theorem note_x {Q : Unit → Shared → Prop} (hfr : A.frames = some (env :: outer)) (hf : env.frame = some L) (x : Xc base (env :: outer) e C dd cx fl s.heap) (hfl : fl = none ∨ fl = some .none)
    (h : ∀ h', Xc base (env :: outer) e C dd cx (some (rawInt L)) h' → s.heap.UpToSlots h' → Q () { s with heap := h' }) : wpAny M A (noteFrame (.ref e) env) Q E s := by
  obtain ⟨hkb, hen, hl, oe, vs, he, ⟨hc, hdd, h2⟩, hd, tb⟩ := x
  unfold noteFrame
  simp only [hf]
  rcases hfl with rfl | rfl
  · have h1 : vs[1]? = some .none := tb
    refine wpAny_bind (wpAny_field he hd h1 ?_)
    rw [if_neg (by decide)]
    exact entry_x hfr hl hf he hkb hen hd (Array.getElem?_eq_some_iff.mp h1).1 h2 hc hdd h
  · obtain ⟨T, oT, ts, h1, hnT, hTe, hT, hdT, h3⟩ := tb
    refine wpAny_bind (wpAny_field he hd h1 ?_)
    rw [if_pos (show (Value.ref T != Value.none) = true from by simp)]
    refine wpAny_bind (wpAny_field hT hdT h3 ?_)
    rw [if_neg (show ¬ ((Value.none == rawInt L) = true) from by simp [rawInt])]
    refine wpAny_bind (wpAny_setField hT hdT (Array.getElem?_eq_some_iff.mp h3).1 ?_)
    have other : ∀ b, b ≠ T → (s.heap.update T (Obj.mapFields (·.setIfInBounds 3 Value.none))).get? b = s.heap.get? b := fun b hb => Heap.get?_update_other _ _ (Ne.symm hb)
    have noRecord : ∀ b o, s.heap.get? b = some o → (∀ vs, o.data ≠ .fields vs) → b ≠ T := fun b o hb hnf q => by
      rw [q, hT] at hb; injection hb with hb; subst hb; exact hnf ts hdT
    refine entry_x hfr (hl.of_keeps fun b o hb hnf => ⟨o, (other b (noRecord b o hb hnf)).trans hb, rfl⟩) hf ((other e (Ne.symm hTe)).trans he)
      (fun b o hbo => (other b fun q => by rw [q, hnT] at hbo; cases hbo).trans (hkb b o hbo)) hen hd (Array.getElem?_eq_some_iff.mp h1).1 h2 hc hdd
      fun h' x1 x4 => h h' x1 fun b o hb hnf => x4 b o ((other b (noRecord b o hb hnf)).trans hb) hnf

theorem Xc.noted {Q : Unit → Shared → Prop} (hf : env.frame = some L) (x : Xc base (env :: outer) e C dd cx (some (rawInt L)) s.heap) (h : Q () s) : wpAny M A (noteFrame (.ref e) env) Q E s := by
  obtain ⟨hkb, hen, hl, oe, vs, he, ⟨hc, hdd, h2⟩, hd, T, oT, ts, h1, hnT, hTe, hT, hdT, h3⟩ := x
  unfold noteFrame
  simp only [hf]
  refine wpAny_bind (wpAny_field he hd h1 ?_)
  rw [if_pos (show (Value.ref T != Value.none) = true from by simp)]
  refine wpAny_bind (wpAny_field hT hdT h3 ?_)
  rw [if_pos (show (rawInt L == rawInt L) = true from by simp)]
  exact wpAny_pure h

theorem flight_x {l : List Env} {v : Value} {fr : Option Addr} {Q : Unit → Shared → Prop} (x : Xc base l e C dd cx (some v) s.heap)
    (h : ∀ h', Xc base l e C dd cx (some (fr.elim .none fun f => rawInt f)) h' → s.heap.UpToSlots h' → Q () { s with heap := h' }) : wpAny M A (setFlight (.ref e) fr) Q E s := by
  obtain ⟨hkb, hen, hl, oe, vs, he, hcd, hd, T, oT, ts, h1, hnT, hTe, hT, hdT, h3⟩ := x
  have hsz3 : 3 < ts.size := (Array.getElem?_eq_some_iff.mp h3).1
  have other : ∀ b, b ≠ T → (s.heap.update T (Obj.mapFields (·.setIfInBounds 3 (fr.elim Value.none fun f => rawInt f)))).get? b = s.heap.get? b :=
    fun b hb => Heap.get?_update_other _ _ (Ne.symm hb)
  have noRecord : ∀ b o, s.heap.get? b = some o → (∀ vs, o.data ≠ .fields vs) → b ≠ T := fun b o hb hnf q => by
    rw [q, hT] at hb; injection hb with hb; subst hb; exact hnf ts hdT
  unfold setFlight
  refine wpAny_bind (wpAny_field he hd h1 ?_)
  rw [if_pos (show (Value.ref T != Value.none) = true from by simp)]
  refine wpAny_setField hT hdT hsz3 (h _ ⟨fun b o hbo => (other b fun q => by rw [q, hnT] at hbo; cases hbo).trans (hkb b o hbo), hen,
    hl.of_keeps fun b o hb hnf => ⟨o, (other b (noRecord b o hb hnf)).trans hb, rfl⟩, ?_⟩ fun b o hb hnf => ⟨o.slots, (other b (noRecord b o hb hnf)).trans hb⟩)
  exact ⟨oe, vs, (other e (Ne.symm hTe)).trans he, hcd, hd, T, _, _, h1, hnT, hTe, Heap.get?_update_self _ hT (Obj.isFreed_of_fields (Obj.data_mapFields hdT _)), Obj.data_mapFields hdT _, by simp [hsz3]⟩
theorem flight0_x {l : List Env} {fr : Option Addr} {Q : Unit → Shared → Prop} (x : Xc base l e C dd cx none s.heap) (h : Q () s) : wpAny M A (setFlight (.ref e) fr) Q E s := by
  obtain ⟨hkb, hen, hl, oe, vs, he, hcd, hd, h1⟩ := x
  unfold setFlight
  refine wpAny_bind (wpAny_field he hd h1 ?_)
  rw [if_neg (by decide)]
  exact wpAny_pure h
theorem leave_x {Q : Unit → Shared → Prop} (hfr : A.frames = some (env :: outer)) (hf : env.frame = some L) (x : Xc base (env :: outer) e C dd cx fl s.heap) (hfl : fl = none ∨ fl = some .none)
    (h : ∀ h', Xc base outer e C dd cx (some .none) h' → s.heap.UpToSlots h' → Q () { s with heap := h' }) : wpAny M A (leaving env (.ref e)) Q E s := by
  unfold leaving
  refine wpAny_bind (note_x hfr hf x hfl fun h₁ x₁ u₁ => ?_)
  exact flight_x (s := { s with heap := h₁ }) x₁ fun h₂ x₂ u₂ => h h₂ ⟨x₂.stays, x₂.new, x₂.frames.2.2, x₂.there⟩ (u₁.trans u₂)
theorem leaveHeld_x {Q : Unit → Shared → Prop} (hf : env.frame = some L) (x : Xc base (env :: outer) e C dd cx (some (rawInt L)) s.heap)
    (h : ∀ h', Xc base outer e C dd cx (some .none) h' → s.heap.UpToSlots h' → Q () { s with heap := h' }) : wpAny M A (leaving env (.ref e)) Q E s := by
  unfold leaving
  refine wpAny_bind (x.noted hf ?_)
  exact flight_x x fun h₂ x₂ u₂ => h h₂ ⟨x₂.stays, x₂.new, x₂.frames.2.2, x₂.there⟩ u₂
theorem pass_x {α : Type} {l : List Env} {v : Value} {what : String} {Q : α → Shared → Prop} (x : Xc base l e C dd cx (some v) s.heap) (hf : env.frame = some L)
    (h : ∀ h', Xc base l e C dd cx (some (rawInt L)) h' → s.heap.UpToSlots h' → E (.ref e) { s with heap := h' }) : wpAny M A (PySem.passOn what (.ref e) env : Sem α) Q E s := by
  have x' := x
  obtain ⟨hkb, hen, hl, oe, vs, he, hcd, hd, T, oT, ts, h1, hnT, hTe, hT, hdT, h3⟩ := x
  unfold PySem.passOn
  refine wpAny_bind (wpAny_field he hd h1 ?_)
  rw [if_neg (show ¬ ((Value.ref T == Value.none) = true) from by simp), hf]
  refine wpAny_bind ?_
  first
    | exact wpAny_pure (wpAny_bind (flight_x x' fun h' a b => wpAny_throw (h h' a b)))
    | exact (flight_x x' fun h' a b => wpAny_throw (h h' a b))
theorem back_x {l : List Env} {v : Value} (x : Xc base l e C dd cx (some v) s.heap) (hf : env.frame = some L)
    (h : ∀ h', Xc base l e C dd cx (some (rawInt L)) h' → s.heap.UpToSlots h' → E (.ref e) { s with heap := h' }) : cameBackBy M A env E (.ref e) s := by
  have x' := x
  obtain ⟨hkb, hen, hl, oe, vs, he, hcd, hd, T, oT, ts, h1, hnT, hTe, hT, hdT, h3⟩ := x
  unfold cameBackBy
  refine wpAny_bind (wpAny_field he hd h1 ?_)
  rw [if_neg (show ¬ ((Value.ref T == Value.none) = true) from by simp), hf]
  first
    | exact wpAny_bind (wpAny_pure (flight_x x' fun h' a b => h h' a b))
    | exact (flight_x x' fun h' a b => h h' a b)
end

end
section
section
variable {prog : Program} {w : World} {A : Around} {E : Value → Shared → Prop} {env : Env} {h : Heap} {g : Array GenState} {d : Drawn} {t : Nat} {os : OsState} {e C D : Addr}
noncomputable abbrev rawX (C D t0 : Addr) : Obj := bexc C (some D) #[.ref t0, .none, .none, .none, .bool false, .none]
theorem raise_core {pos : Pos} {xe : Expr} {s : Shared} {Q : Flow → Shared → Prop}
    (k : wpAny (model prog w) A (eval xe env) (fun v s₁ => ∃ e C D t0, v = .ref e ∧ s₁.heap.get? e = some (rawX C D t0) ∧ Xk (model prog w) s₁.heap C ∧ wpAny (model prog w) A (raiseNew (.ref e) : Sem Flow) Q E s₁) E s) :
    wpAny (model prog w) A (exec (.Raise (some xe) none pos) env) Q E s := by
  rw [arm_exec_Raise]
  refine wpAny_bind (wpAny_standAt ?_)
  unfold raiseStmt
  refine wpAny_bind (wpAny_bind (wpAny_mono k (fun v s₁ h₁ => wpAny_bind (wpAny_standAt (wpAny_pure ?_))) fun _ _ x => x))
  obtain ⟨e, C, D, t0, rfl, he, Y, hE⟩ := h₁
  obtain ⟨hp, g, d, tk, os⟩ := s₁
  obtain ⟨⟨oc, od, cd, sl, hC, -⟩, made, base, sub, mro, cls, call, typ, -, -, -, -, tt⟩ := Y
  have T : Looks (model prog w) hp (typeOf (.ref e)) (.ref C) := (Looks.ld he).andThen .now
  have s1 : Looks (model prog w) hp (isSubtype (.ref C) (.type "BaseException")) true := sub _
  repeat (first | (with_reducible refine wpAny_loadPart_at he ?_) | with_reducible refine Looks.at (by assumption) ?_ | wp_step)
  exact hE
theorem entry_unchain : entryFor table "proto.unchain" = some Builtin.«proto.unchain» := entryFor_of_tree (by kernel_rfl)
theorem raiseNew_held {α : Type} {e1 t0 : Addr} {o1 : Obj} {vs1 : Array Value} {Q : α → Shared → Prop} (hh : A.handled = some (.ref e1)) (hne : e ≠ e1) (he : h.get? e = some (rawX C D t0)) (he1 : h.get? e1 = some o1) (hd1 : o1.data = .fields vs1) (hv1 : vs1[2]? = some .none)
    (k : ∀ h', h'.get? e = some (bexc C (some D) #[.ref t0, .none, .ref e1, .none, .bool false, .none]) → (∀ b o, b ≠ e → h.get? b = some o → h'.get? b = some o) → E (.ref e) ⟨h', g, d, t, os⟩) :
    wpAny (model prog w) A (raiseNew (.ref e) : Sem α) Q E ⟨h, g, d, t, os⟩ := by
  unfold raiseNew
  refine wpAny_bind (wpAny_handled ?_)
  rw [hh]
  dsimp only
  have hb : (Value.ref e1 != Value.ref e) = true := by simp; exact fun q => hne q.symm
  rw [if_pos hb]
  refine wpAny_bind (wpAny_holding (wpAny_runValue (codeAny_builtin entry_unchain ?_)))
  unfold Builtin.«proto.unchain»
  refine wpAny_bind (wpAny_field he1 hd1 hv1 ?_)
  refine wpAny_pure ?_
  refine wpAny_bind ?_
  simp only [PySem.updateField]
  refine wpAny_bind (wpAny_load he ?_)
  refine wpAny_update he ?_
  exact wpAny_throw (k _ (Heap.get?_update_self _ he rfl) fun b o hb hbo => (Heap.get?_update_ne _ _ _ _ hb).trans hbo)
end

end
section
/-- an object that is a dict of attributes -/
inductive OdIs (o : Obj) (m : Str → Option Value) : Prop
  | mk (es : Array DictEntry) (ep : Nat) (hd : o.data = .dict es ep) (hk : StrKeys es) (hu : UniqKeys es) (hf : ∀ name, nsFind es name = m name)
theorem OdIs.look {o : Obj} {m : Str → Option Value} (x : OdIs o m) (name : Str) : lookIn name o = some (m name) := by
  obtain ⟨es, ep, hd, hk, -, hf⟩ := x
  have e : es.toList.any (·.refKey) = false := by
    rw [Array.any_toList, Array.any_eq_false']
    intro e he
    obtain ⟨n, t, h⟩ := hk e he
    simp [DictEntry.refKey, h]
  have f := hf name
  unfold nsFind findBy at f
  rw [← Array.find?_toList] at f
  unfold lookIn
  rw [hd]
  dsimp only
  cases q : es.toList.find? (fun e => e.key.isStr name) with
  | some en => rw [q] at f; simp at f; simp [f]
  | none => rw [q] at f; simp at f; simp [← f, e]
theorem OdIs.ns1 {h : Heap} {D : Addr} {o : Obj} {m : Str → Option Value} (x : OdIs o m) (hD : h.get? D = some o) : h.Ns1 D m := let ⟨es, ep, a, b, c, d⟩ := x; ⟨o, es, ep, hD, a, b, c, d⟩
theorem OdIs.of {h : Heap} {D : Addr} {m : Str → Option Value} (x : h.Ns1 D m) : ∃ o, h.get? D = some o ∧ OdIs o m := let ⟨o, es, ep, hD, a, b, c, d⟩ := x; ⟨o, hD, es, ep, a, b, c, d⟩
theorem wOut {m : Str → Option Value} {ns : List Str} {name : Str} (w : Within m ns) (h : name ∉ ns) : m name = none := by
  cases q : m name with
  | none => rfl
  | some v => exact absurd (w name (by rw [q]; simp)) h
theorem wPut {m : Str → Option Value} {ns : List Str} {name : Str} {v : Value} (w : Within m ns) (h : name ∈ ns) : Within (fun y => if y = name then some v else m y) ns := fun y hy => by
  by_cases e : y = name
  · exact e ▸ h
  · exact w y (by simpa only [if_neg e] using hy)
section
open Builtin Builtin.ObjectAttr
variable {prog : Program} {w : World} {A : Around} {E : Value → Shared → Prop} {s : Shared} {K : Frag} {x C D L : Addr} {h₀ : Heap} {m mo : Str → Option Value} {od : Obj} {name : Str} {v : Value}
theorem instAt_of {h : Heap} (hx : h.get? x = some (instObj C D)) (hD : h.get? D = some od) : InstAt h x (instObj C D) C (some od) := ⟨hx, rfl, rfl, hD⟩
theorem get_inst0 {expr : Bool} {Q : Value → Shared → Prop} (X : K.In s.heap) (hx : s.heap.get? x = some (instObj C D)) (hD : s.heap.get? D = some od) (ho : OdIs od mo) (hv : mo name = some v)
    (hg : plainGet K C name = true) (hh : hasDictIn K C = true) (ha : findIn K (.ref C) name = some none) (hi : handedIn v = true) (h : Q v { s with toks := s.toks + 1 }) :
    wpAny (model prog w) A (getAttr (.ref x) name expr) Q E s :=
  get_value X (instAt_of hx hD) (plainGet_of hg).1 (findObj_own hh ha (by rfl) (by rw [ho.look, hv])) hi h
theorem get_inst {h : Heap} {g : Array GenState} {d : Drawn} {t : Nat} {o : OsState} {expr : Bool} {Q : Value → Shared → Prop} (k : ∀ t', Q v ⟨h, g, d, t', o⟩) (X : K.In h := by walk_at "o_in") (hx : h.get? x = some (instObj C D) := by walk_at "o_get") (hD : h.get? D = some od := by walk_at "o_get") (ho : OdIs od mo := by assumption) (hv : mo name = some v := by assumption)
    (hg : plainGet K C name = true := by k_is) (hh : hasDictIn K C = true := by k_is) (ha : findIn K (.ref C) name = some none := by k_is) (hi : handedIn v = true := by rfl) :
    wpAny (model prog w) A (getAttr (.ref x) name expr) Q E ⟨h, g, d, t, o⟩ := get_inst0 (s := ⟨h, g, d, t, o⟩) X hx hD ho hv hg hh ha hi (k _)
theorem meth_inst {ns : List Str} {f : Addr} {pl : Sem Bool} {Q : Value × List Value → Shared → Prop} (h : Q (.ref f, [.ref x]) s) (X : K.In s.heap := by walk_at "o_in") (hx : s.heap.get? x = some (instObj C D) := by walk_at "o_get") (hD : s.heap.get? D = some od := by walk_at "o_get") (ho : OdIs od mo := by assumption) (hw : Within mo ns := by assumption) (hn : name ∉ ns := by decide)
    (hg : plainGet K C name = true := by k_is) (hf : findIn K (.ref C) name = some (some (.ref f)) := by k_is) (ht : isFn K (.ref f) = true := by k_is) : wpAny (model prog w) A (getMethod (.ref x) name pl) Q E s :=
  method_fn X (instAt_of hx hD) (plainGet_of hg).1 (plainGet_of hg).2 hf (beq_iff_eq.mp ht) (by show (lookIn name od).map _ = _; rw [ho.look, wOut hw hn]; rfl) h
theorem set_inst {ns : List Str} {Q : Unit → Shared → Prop} (X : K.In s.heap) (hx : s.heap.get? x = some (instObj C D)) (hD : s.heap.get? D = some od) (ho : OdIs od mo) (hw : Within mo ns) (hn : name ∈ ns) (hz : ns.length ≤ 900)
    (hs : findIn K (.ref C) "__setattr__" = some (some (.builtin "object.__setattr__"))) (hp : plainOver K C = true) (ht : takerIn K C name = some none) (hh : hasDictIn K C = true)
    (h : ∀ h' od' t', h'.get? D = some od' → OdIs od' (fun y => if y = name then some v else mo y) → (∀ b, b ≠ D → h'.get? b = s.heap.get? b) → Q () ⟨h', s.gens, s.drawn, t', s.os⟩) :
    wpAny (model prog w) A (setAttr (.ref x) name v) Q E s := by
  obtain ⟨hh', gg, dd, tt, oo⟩ := s
  have I := instAt_of hx hD
  refine set_plain X I hs (osa_open (s := ⟨hh', gg, dd, tt + 1, oo⟩) X I hp ht fun b => ?_)
  obtain ⟨cd, hc, hd'⟩ := any_some hh
  refine wpAny_bind (wpAny_pure (wpAny_bind (wpAny_bind (wpAny_loadPart hx (wpAny_bind ((looks_clsIn X hc).at ?_))))))
  rw [hd']
  refine wpAny_pure (a := some D) (wpAny_bind (wpAny_pure (wpAny_bind (wpAny_nsSet1 (s := ⟨hh', gg, dd, tt + 1, oo⟩) (ho.ns1 hD) fun h' hn' hs' => ?_))))
  obtain ⟨oD, esD, epD, hoD, hdD, hcD⟩ := hn'.count (wPut hw hn)
  refine wpAny_bind (wpAny_lookBehind hoD (by rw [hdD]; exact pastItsLine_dict (Nat.le_trans hcD (by rw [sizeLine_eq]; omega))) ?_)
  obtain ⟨od', e1, e2⟩ := OdIs.of hn'
  exact wpAny_pure (h h' od' _ e1 e2 hs'.2)
end

end
section
noncomputable abbrev Led := List (Addr × Obj)
noncomputable def At (h : Heap) (N : Led) : Prop := ∀ p ∈ N, h.get? p.1 = some p.2
theorem At.keeps {h h' : Heap} {N : Led} (a : At h N) (s : Sub h h') : At h' N := fun p hp => s _ _ (a p hp)
noncomputable def listO (o : Obj) (vs : List Value) : Prop := ∃ n, o = PySem.W.listOf vs.toArray n
theorem listO.isList {h : Heap} {a : Addr} {o : Obj} {vs : List Value} (x : listO o vs) (e : h.get? a = some o) : h.IsList a vs.toArray := by obtain ⟨n, rfl⟩ := x; exact ⟨_, e, rfl, n, rfl⟩
structure LetR where
  a : Addr
  D : Addr
  fl : Addr
  od : Obj
  of_ : Obj
  uid : Int
  oct : Array UInt8
  ins : Int
  mod : Int
structure BoxR where
  b : Addr
  D : Addr
  l : Addr
  gA : Addr
  od : Obj
  ol : Obj
  og : Obj
  name : Str
  val : Int
  next : Int
  top : Int
  lets : List LetR
structure StR where
  st : Addr
  dS : Addr
  dB : Addr
  lS : Addr
  od : Obj
  oB : Obj
  oS : Obj
  nv : Int
  boxes : List BoxR
noncomputable def letLed (R : LetR) : Led := [(R.a, instObj 125 R.D), (R.D, R.od), (R.fl, R.of_)]
noncomputable def boxLed (R : BoxR) : Led := [(R.b, instObj 163 R.D), (R.D, R.od), (R.l, R.ol), (R.gA, R.og)] ++ R.lets.flatMap letLed
noncomputable def stLed (R : StR) : Led := [(R.st, instObj 293 R.dS), (R.dS, R.od), (R.dB, R.oB), (R.lS, R.oS)]
noncomputable def led (R : StR) : Led := stLed R ++ R.boxes.flatMap boxLed
noncomputable def letNs : List Str := ["uid", "octets", "flags", "instant", "modseq"]
noncomputable def boxNs : List Str := ["name", "validity", "next_uid", "top", "floor", "letters", "gone"]
noncomputable def stNs : List Str := ["boxes", "subscribed", "next_validity"]
inductive LetM (R : LetR) : Prop
  | mk (m : Str → Option Value) (ho : OdIs R.od m) (hw : Within m letNs) (m1 : ∃ u, m "uid" = some (.int R.uid u)) (m2 : ∃ u, m "octets" = some (.bytes R.oct u)) (m3 : m "flags" = some (.ref R.fl)) (m4 : ∃ u, m "instant" = some (.int R.ins u)) (m5 : ∃ u, m "modseq" = some (.int R.mod u))
structure LetOk (R : LetR) : Prop where
  m : LetM R
  fl : R.of_ = tupO []
inductive BoxM (R : BoxR) : Prop
  | mk (m : Str → Option Value) (ho : OdIs R.od m) (hw : Within m boxNs) (m1 : ∃ u, m "name" = some (.str R.name u)) (m2 : ∃ u, m "validity" = some (.int R.val u)) (m3 : ∃ u, m "next_uid" = some (.int R.next u)) (m4 : ∃ u, m "top" = some (.int R.top u)) (m5 : ∃ u, m "floor" = some (.int 0 u))
    (m6 : m "letters" = some (.ref R.l)) (m7 : m "gone" = some (.ref R.gA))
structure BoxOk (R : BoxR) : Prop where
  m : BoxM R
  l : listO R.ol (R.lets.map fun x => .ref x.a)
  g : listO R.og []
  lets : ∀ x ∈ R.lets, LetOk x
  few : R.lets.length ≤ 10
  next : R.next ≤ 1000
  top : R.top ≤ 1000
  short : R.name.length ≤ 100000
inductive StM (od : Obj) (dB lS : Addr) (nv : Int) : Prop
  | mk (m : Str → Option Value) (ho : OdIs od m) (hw : Within m stNs) (m1 : m "boxes" = some (.ref dB)) (m2 : m "subscribed" = some (.ref lS)) (u : Tok) (m3 : m "next_validity" = some (.int nv u))
structure At3 (h : Heap) (p q r : Addr) (A B C : Obj) : Prop where
  a : h.get? p = some A
  b : h.get? q = some B
  c : h.get? r = some C
structure At4 (h : Heap) (p q r s : Addr) (A B C D : Obj) : Prop where
  a : h.get? p = some A
  b : h.get? q = some B
  c : h.get? r = some C
  d : h.get? s = some D
structure StOk (W : Wd) (R : StR) : Prop where
  m : StM R.od R.dB R.lS R.nv
  b : R.oB.IsDictOf (strKind prg W.w) (R.boxes.map fun b => (b.name, .ref b.b))
  s : listO R.oS []
  boxes : ∀ b ∈ R.boxes, BoxOk b
  nodup : ((led R).map (·.1)).Nodup
  lo : (R.dB == sysModules) = false
  few : R.boxes.length ≤ 60
noncomputable def namesOf (R : StR) : List Str := R.boxes.map (·.name)
theorem mem_st {R : StR} {p : Addr × Obj} (h : p ∈ stLed R) : p ∈ led R := List.mem_append_left _ h
theorem mem_box {R : StR} {b : BoxR} {p : Addr × Obj} (hb : b ∈ R.boxes) (h : p ∈ boxLed b) : p ∈ led R := List.mem_append_right _ (List.mem_flatMap.mpr ⟨b, hb, h⟩)
theorem mem_let {b : BoxR} {x : LetR} {p : Addr × Obj} (hx : x ∈ b.lets) (h : p ∈ letLed x) : p ∈ boxLed b := List.mem_append_right _ (List.mem_flatMap.mpr ⟨x, hx, h⟩)
theorem at_st {h : Heap} {R : StR} (a : At h (led R)) : At4 h R.st R.dS R.dB R.lS (instObj 293 R.dS) R.od R.oB R.oS :=
  ⟨a _ (mem_st (.head _)), a _ (mem_st (.tail _ (.head _))), a _ (mem_st (.tail _ (.tail _ (.head _)))), a _ (mem_st (.tail _ (.tail _ (.tail _ (.head _)))))⟩
theorem at_box {h : Heap} {R : StR} {b : BoxR} (a : At h (led R)) (hb : b ∈ R.boxes) : At4 h b.b b.D b.l b.gA (instObj 163 b.D) b.od b.ol b.og :=
  ⟨a _ (mem_box hb (.head _)), a _ (mem_box hb (.tail _ (.head _))), a _ (mem_box hb (.tail _ (.tail _ (.head _)))), a _ (mem_box hb (.tail _ (.tail _ (.tail _ (.head _)))))⟩
theorem at_let {h : Heap} {R : StR} {b : BoxR} {x : LetR} (a : At h (led R)) (hb : b ∈ R.boxes) (hx : x ∈ b.lets) : At3 h x.a x.D x.fl (instObj 125 x.D) x.od x.of_ :=
  ⟨a _ (mem_box hb (mem_let hx (.head _))), a _ (mem_box hb (mem_let hx (.tail _ (.head _)))), a _ (mem_box hb (mem_let hx (.tail _ (.tail _ (.head _)))))⟩
theorem vals_key {W : Wd} {R : StR} (x : Str) : (valueAt (R.boxes.map fun b => (b.name, Value.ref b.b)) x) = (R.boxes.find? fun b => b.name = x).map fun b => .ref b.b := by
  unfold valueAt
  rw [List.find?_map, Option.map_map]
  rfl
theorem has_key {R : StR} (x : Str) : ((R.boxes.find? fun b => b.name = x).map fun b => Value.ref b.b).isSome = decide (x ∈ namesOf R) := by
  rw [Option.isSome_map, Bool.eq_iff_iff, List.find?_isSome, decide_eq_true_iff]
  unfold namesOf
  rw [List.mem_map]
  exact ⟨fun ⟨b, hb, e⟩ => ⟨b, hb, by simpa using e⟩, fun ⟨b, hb, e⟩ => ⟨b, hb, by simpa using e⟩⟩
section
variable {w : World} {A : Around} {E : Value → Shared → Prop} {h : Heap} {g : Array GenState} {d : Drawn} {t : Nat} {o : OsState}
theorem in_boxes {W : Wd} {R : StR} {x : Str} {u : Tok} {Q : Value → Shared → Prop} (k : ∀ t', Q (.bool (decide (x ∈ namesOf R))) ⟨h, g, d, t', o⟩) (hR : StOk W R := by assumption) (hD : h.get? R.dB = some R.oB := by walk_at "o_get") :
    wpAny (model prg W.w) A (compareOp .In (.str x u) (.ref R.dB)) Q E ⟨h, g, d, t, o⟩ := by
  have hd : h.DictOf (strKind prg W.w) R.dB (R.boxes.map fun b => (b.name, Value.ref b.b)) := Heap.dictOf_iff.mpr ⟨_, hD, hR.b⟩
  exact wpAny_in_of (strKind_is _ _ _ _) hR.lo hd.mapOf (by rw [vals_key (W := W), has_key]; exact k _)
theorem notin_boxes {W : Wd} {R : StR} {x : Str} {u : Tok} {Q : Value → Shared → Prop} (k : ∀ t', Q (.bool (!decide (x ∈ namesOf R))) ⟨h, g, d, t', o⟩) (hR : StOk W R := by assumption) (hD : h.get? R.dB = some R.oB := by walk_at "o_get") :
    wpAny (model prg W.w) A (compareOp .NotIn (.str x u) (.ref R.dB)) Q E ⟨h, g, d, t, o⟩ := by
  have hd : h.DictOf (strKind prg W.w) R.dB (R.boxes.map fun b => (b.name, Value.ref b.b)) := Heap.dictOf_iff.mpr ⟨_, hD, hR.b⟩
  exact wpAny_notIn_of (strKind_is _ _ _ _) hR.lo hd.mapOf (by rw [vals_key (W := W), has_key]; exact k _)
theorem sub_dict {w : World} {kvs : List (Str × Value)} {value slice : Expr} {x : Str} {u : Tok} {dA : Addr} {v : Value} {Q : Value → Shared → Prop} (hd : h.DictOf (strKind prg w) dA kvs) (hv : valueAt kvs x = some v) (k : ∀ t', Q v ⟨h, g, d, t', o⟩)
    (hs : subscripted slice false (.ref dA) (.str x u) = operate [.ref dA, .str x u] (getItem (.ref dA) (.str x u))) (hg : ∀ r, letTemporaryGo value (.ref dA) r = pure ()) :
    wpAny (model prg w) A (subscriptTail value slice (.ref dA) (.str x u)) Q E ⟨h, g, d, t, o⟩ :=
  subscriptTail_builtin (s := ⟨h, g, d, t, o⟩) (T := "dict") hd.typeIs slot_dict_getitem.lookup (wpAny_getItem_of (strKind_is _ _ _ _) hd.mapOf hv (k _)) hs hg
theorem box_val {W : Wd} {R : StR} {b : BoxR} (hR : StOk W R) (hb : b ∈ R.boxes) : valueAt (R.boxes.map fun b => (b.name, Value.ref b.b)) b.name = some (.ref b.b) := by
  obtain ⟨i, hi⟩ := List.getElem?_of_mem hb
  obtain ⟨_, _, _, _, _, _, hn⟩ := hR.b
  exact valueAt_of_get hn (i := i) (by rw [List.getElem?_map, hi]; rfl)
theorem sub_boxes {W : Wd} {R : StR} {value slice : Expr} {x : Str} {u : Tok} {Q : Value → Shared → Prop} (k : ∀ t', ∀ b ∈ R.boxes, b.name = x → Q (.ref b.b) ⟨h, g, d, t', o⟩) (hR : StOk W R := by assumption) (hD : h.get? R.dB = some R.oB := by walk_at "o_get") (hm : x ∈ namesOf R := by assumption)
    (hs : subscripted slice false (.ref R.dB) (.str x u) = operate [.ref R.dB, .str x u] (getItem (.ref R.dB) (.str x u)) := by with_unfolding_all rfl) (hg : ∀ r, letTemporaryGo value (.ref R.dB) r = pure () := by intro _; with_unfolding_all rfl) :
    wpAny (model prg W.w) A (subscriptTail value slice (.ref R.dB) (.str x u)) Q E ⟨h, g, d, t, o⟩ := by
  obtain ⟨b, hb, rfl⟩ := List.mem_map.mp hm
  exact sub_dict (Heap.dictOf_iff.mpr ⟨_, hD, hR.b⟩) (box_val hR hb) (fun t' => k t' b hb rfl) hs hg
theorem item_boxes {W : Wd} {R : StR} {b : BoxR} {u : Tok} {Q : Value → Shared → Prop} (hR : StOk W R) (hD : h.get? R.dB = some R.oB) (hb : b ∈ R.boxes) (k : ∀ t', Q (.ref b.b) ⟨h, g, d, t', o⟩) :
    wpAny (model prg W.w) A (getItem (.ref R.dB) (.str b.name u)) Q E ⟨h, g, d, t, o⟩ := by
  have hd : h.DictOf (strKind prg W.w) R.dB (R.boxes.map fun b => (b.name, Value.ref b.b)) := Heap.dictOf_iff.mpr ⟨_, hD, hR.b⟩
  obtain ⟨i, hi⟩ := List.getElem?_of_mem hb
  obtain ⟨_, _, _, _, _, _, hn⟩ := hR.b
  exact wpAny_getItem_of (strKind_is _ _ _ _) hd.mapOf (valueAt_of_get hn (i := i) (by rw [List.getElem?_map, hi]; rfl)) (k _)
end
/-- what a raised StoreFault needs of the callers, and what is told of it -/
inductive Raises (W : Wd) (A : Around) (h : Heap) (E : Value → Shared → Prop) (g : Array GenState) (d : Drawn) (o : OsState) : Prop
  | mk (base : Heap) (outer : List Env) (K : Below A base outer h) (ks : base.objs.size ≤ h.objs.size ∧ Sub W.H0 base) (k : ∀ h' e D cx t', Xc base outer e 64 (some D) cx (some .none) h' → h.UpToSlots h' → E (.ref e) ⟨h', g, d, t', o⟩)
noncomputable def Rz (M : Model) (A : Around) (Q : Flow → Shared → Prop) (E : Value → Shared → Prop) (v : Value) (s₁ : Shared) : Prop :=
  ∃ e C D t0, v = .ref e ∧ s₁.heap.get? e = some (rawX C D t0) ∧ Xk M s₁.heap C ∧ wpAny M A (raiseNew (.ref e) : Sem Flow) Q E s₁
section
variable {A : Around} {E E' : Value → Shared → Prop} {h h₁ h₂ : Heap} {g : Array GenState} {d : Drawn} {t : Nat} {o : OsState} {L a : Addr} {m : Str → Option Value} {name : Str} {scope : Scope} {cd : Value}
theorem raise_z {w : World} {env : Env} {pos : Pos} {xe : Expr} {s : Shared} {Q : Flow → Shared → Prop} (k : wpAny (model prg w) A (eval xe env) (Rz (model prg w) A Q E) E s) :
    wpAny (model prg w) A (exec (.Raise (some xe) none pos) env) Q E s := raise_core k
theorem Raises.to {W : Wd} (R : Raises W A h E g d o) (x : ∀ e s', E e s' → E' e s') : Raises W A h E' g d o := by
  obtain ⟨base, outer, K, ks, k⟩ := R
  exact ⟨base, outer, K, ks, fun h' e D cx t' y u => x _ _ (k h' e D cx t' y u)⟩
theorem Raises.push {W : Wd} {M : Model} (R : Raises W A h E g d o) (F : Fr h L h₁ m) (hk : scope.kind = .function := by rfl) :
    Raises W (A.deeper (envOf name scope L a cd)) h₁ (fun e s' => wpAny M (A.deeper (envOf name scope L a cd)) (leaving (envOf name scope L a cd) e) (fun _ s'' => E e s'') E' s') g d o := by
  obtain ⟨base, outer, K, ⟨kz, ks⟩, k⟩ := R
  refine ⟨base, envOf name scope L a cd :: outer, K.push F hk, ⟨Nat.le_trans kz (Nat.le_trans F.above (Nat.le_of_lt F.ns.lt)), ks⟩, fun h' e D cx t' x u => ?_⟩
  exact leave_x (s := ⟨h', g, d, t', o⟩) (Around.frames_deeper K.stack) rfl x (.inr rfl) fun h₂ x₂ u₂ => k h₂ e D cx t' x₂ (((Heap.UpToSlots.of_keeps F.keep).trans u).trans u₂)
theorem Rz.toE {M : Model} {A : Around} {Q : Flow → Shared → Prop} {E E' : Value → Shared → Prop} {v : Value} {s : Shared} (r : Rz M A Q E v s) (x : ∀ e s, E e s → E' e s) : Rz M A Q E' v s :=
  let ⟨e, C, D, t0, e1, e2, y, k⟩ := r; ⟨e, C, D, t0, e1, e2, y, wpAny_mono k (fun _ _ z => z) x⟩
theorem mx_xc {base : Heap} {outer : List Env} {C e D : Addr} {x : Str} {u : Tok} {av : Value} (K : Below A base outer h) (F : Fr h L h₁ m) (mx : Mx h₁ h₂ C e D x u av) (hk : scope.kind = .function) :
    Xc base (envOf name scope L a cd :: outer) e C (some D) .none none h₂ := by
  have K' := K.push (name := name) (a := a) (cd := cd) F hk
  obtain ⟨t0, he⟩ := mx.at_
  refine ⟨fun b ob q => mx.keep _ _ (K'.stays b ob q), ?_, K'.frames.of_keeps fun b ob q _ => ⟨ob, mx.keep _ _ q, rfl⟩, _, _, he, ⟨rfl, rfl, rfl⟩, rfl, rfl⟩
  cases q : base.get? e with
  | none => rfl
  | some ob => have := K'.stays _ _ q; rw [mx.enew] at this; cases this
theorem rz_leave0 {W : Wd} {w : World} {e D : Addr} {x : Str} {u : Tok} {av : Value} {Q : Flow → Shared → Prop} (R : Raises W A h E g d o) (F : Fr h L h₁ m) (mx : Mx h₁ h₂ 64 e D x u av) (Y : Xk (model prg w) h₂ 64) (hh : A.handled = none) (hk : scope.kind = .function := by rfl) :
    Rz (model prg w) (A.deeper (envOf name scope L a cd)) Q (fun e s' => wpAny (model prg w) (A.deeper (envOf name scope L a cd)) (leaving (envOf name scope L a cd) e) (fun _ s'' => E e s'') E' s') (.ref e) ⟨h₂, g, d, t, o⟩ := by
  obtain ⟨base, outer, K, -, k⟩ := R
  obtain ⟨t0, he⟩ := mx.at_
  refine ⟨e, 64, D, t0, rfl, he, Y, wpAny_raiseNew_none hh ?_⟩
  exact leave_x (s := ⟨h₂, g, d, t, o⟩) (Around.frames_deeper K.stack) rfl (mx_xc K F mx hk) (.inl rfl) fun h₃ x₃ u₃ => k h₃ e D .none t x₃ (((Heap.UpToSlots.of_keeps F.keep).trans (Heap.UpToSlots.of_keeps mx.keep)).trans u₃)
end
theorem rz_leave (W : Wd) {A : Around} {E E' : Value → Shared → Prop} {h h₁ h₂ : Heap} {g : Array GenState} {d : Drawn} {t : Nat} {o : OsState} {L a : Addr} {m : Str → Option Value} {name : Str} {scope : Scope} {cd : Value} {e D : Addr} {x : Str} {u : Tok} {av : Value} {Q : Flow → Shared → Prop}
    (R : Raises W A h E g d o) (mx : Mx h₁ h₂ 64 e D x u av := by assumption) (F : Fr h L h₁ m := by assumption) (S : Sub W.H0 h := by assumption) (hh : A.handled = none := by rfl) (hk : scope.kind = .function := by rfl) :
    Rz (model prg W.w) (A.deeper (envOf name scope L a cd)) Q (fun e s' => wpAny (model prg W.w) (A.deeper (envOf name scope L a cd)) (leaving (envOf name scope L a cd) e) (fun _ s'' => E e s'') E' s') (.ref e) ⟨h₂, g, d, t, o⟩ :=
  rz_leave0 R F mx (xk_of (W.X' ((subF F S).trans mx.keep)) (exc64 _)) hh hk
theorem tupleL {prog : Program} {w : World} {A : Around} {E : Value → Shared → Prop} {s : Shared} {h₀ : Heap} {L l : Addr} {m : Str → Option Value} {news : Led} {ob : Obj} {vs : List Value} {Q : Value → Shared → Prop}
    (hQ : ∀ (D : Addr) h', Fr h₀ L h' m → News h₀ L h' ((D, { cls := .type "tuple", data := .seq vs.toArray }) :: news) → (∀ b o, s.heap.get? b = some o → h'.get? b = some o) → Q (.ref D) { s with heap := h' })
    (F : Fr h₀ L s.heap m := by assumption) (N : News h₀ L s.heap news := by assumption) (e : s.heap.get? l = some ob := by walk_at "o_get") (x : listO ob vs := by assumption) (hsz : vs.length ≤ sizeLine := by first | size_fits | (rw [sizeLine_eq]; simp)) : wpAny (model prog w) A (call (.type "tuple") [.ref l]) Q E s :=
  tuple_ofL F N (x.isList e) hQ hsz
end
local macro_rules | `(tactic| walk_at "at") => `(tactic| exact At.keeps (by assumption) (Fr.keep (by assumption)))
local macro_rules | `(tactic| walk_at "raised") => `(tactic| (refine' rz_leave _ ?rR))
local macro_rules | `(tactic| walk_at "o_get") => `(tactic| first
  | (refine' Fr.keep ?oF _ _ ?oE; (case oF => assumption); (case oE => assumption))
  | (refine' News.get ?oN ?oM; (case oN => assumption); (case oM => k_mem))
  | assumption)
local macro_rules | `(tactic| walk_at "o_in") => `(tactic| first
  | exact Frag.In.keeps (by assumption) (Fr.keep (by assumption))
  | assumption)
local macro_rules | `(tactic| walk_at "getAttr ref") => `(tactic| k_dflt (refine' get_inst ?_; k_whole; intro _))
local macro_rules | `(tactic| walk_at "getMethod ref") => `(tactic| k_dflt (refine' meth_inst ?_; k_whole))
local macro_rules | `(tactic| walk_at "compareOp In str ref") => `(tactic| k_dflt (refine' in_boxes ?_; k_whole; intro _))
local macro_rules | `(tactic| walk_at "compareOp NotIn str ref") => `(tactic| k_dflt (refine' notin_boxes ?_; k_whole; intro _))
local macro_rules | `(tactic| walk_at "subscriptTail") => `(tactic| k_dflt (refine' sub_boxes ?_; k_whole; intro _ b hb hbn))
local macro_rules | `(tactic| walk_at "call type:tuple") => `(tactic| (k_dflt (refine' tupleL ?_; k_whole); intro D h' F' N' hs))
local macro_rules | `(tactic| walk_at "exec Raise some none") => `(tactic| k_dflt (refine' raise_z ?_))
local macro_rules | `(tactic| walk_at "call ref") => `(tactic| ((with_reducible refine' atRef 64 ?_); (refine exc_c _ (C := 64) (by walk_at "s") (by walk_at "room") (exc64 _) (by first | exact .inl rfl | exact .inr ⟨rfl, _, _, _, _, by k_is⟩) ?_); intro h' t' e' D' mx'))
section
section
variable {dp un : Nat} {fr : Option (List Env)} {gd : Option (List Code)} {h : Heap} {g : Array GenState} {d : Drawn} {t : Nat} {o : OsState} {Q E : Value → Shared → Prop}
set_option maxHeartbeats 1000000 in
theorem need_new_c (W : Wd) {R : StR} {x : Str} {u : Tok} (S : Sub W.H0 h) (r : Rm 5 (Ar dp fr gd un)) (hR : StOk W R) (hA : At h (led R))
    (k : x ∉ namesOf R → ∀ h' t', Sub h h' → Q .none ⟨h', g, d, t', o⟩) (kE : x ∈ namesOf R → Raises W (Ar dp fr gd un) h E g d o) :
    wpAny (model prg W.w) (Ar dp fr gd un) (call (.ref 325) [.ref R.st, .str x u]) Q E ⟨h, g, d, t, o⟩ := by
  obtain ⟨mS, ho, hw, m1, m2, u3, m3⟩ := hR.m
  obtain ⟨a1, a2, a3, a4⟩ := at_st hA
  refine' callDef W [("store", .ref R.st), ("name", .str x u)] S r ?_
  intro L h₁ F N t₁
  have X := W.X' S
  have T := W.T' S
  k_steps
  · walk_at "raised"
    exact kE (by assumption)
  · exact k (by assumption) _ _ F.keep
end
end
local macro_rules | `(tactic| walk_at "call ref") => `(tactic| ((with_reducible refine' atRef 325 ?_); (refine need_new_c _ (by walk_at "s") (by walk_at "room") (by assumption) (by walk_at "at") (fun hx => ?_) (fun hx => by first | exact Raises.push (by assumption) (by assumption) | (exfalso; exact absurd hx (by assumption)))); intro h' t' hs; walk_at "nt"))
section

end
section
section
variable {dp un : Nat} {fr : Option (List Env)} {gd : Option (List Code)} {h : Heap} {g : Array GenState} {d : Drawn} {t : Nat} {o : OsState} {Q E : Value → Shared → Prop}
set_option maxHeartbeats 1000000 in
theorem need_validity_c (W : Wd) {R : StR} {x : Int} {u : Tok} (S : Sub W.H0 h) (r : Rm 1 (Ar dp fr gd un)) (hR : StOk W R) (hA : At h (led R)) (h1 : R.nv ≤ x) (h2 : x < 4294967295)
    (k : ∀ h' t', Sub h h' → Q .none ⟨h', g, d, t', o⟩) :
    wpAny (model prg W.w) (Ar dp fr gd un) (call (.ref 332) [.ref R.st, .int x u]) Q E ⟨h, g, d, t, o⟩ := by
  obtain ⟨mS, ho, hw, m1, m2, u3, m3⟩ := hR.m
  obtain ⟨a1, a2, a3, a4⟩ := at_st hA
  refine' callDef W [("store", .ref R.st), ("validity", .int x u)] S r ?_
  intro L h₁ F N t₁
  refine wp_absQ fun Q1 hQ1 E1 => ?_
  have X := W.X' S
  have T := W.T' S
  k_steps
  all_goals (try (with_reducible refine hQ1 _ _ ?_))
  exact k _ _ F.keep
set_option maxHeartbeats 1000000 in
theorem box_c (W : Wd) {R : StR} {x : Str} {u : Tok} (S : Sub W.H0 h) (r : Rm 5 (Ar dp fr gd un)) (hR : StOk W R) (hA : At h (led R)) (hx : x.length ≤ 1000000)
    (k : ∀ b ∈ R.boxes, b.name = normalN x → ∀ h' t', Sub h h' → Q (.ref b.b) ⟨h', g, d, t', o⟩) (kE : normalN x ∉ namesOf R → Raises W (Ar dp fr gd un) h E g d o) :
    wpAny (model prg W.w) (Ar dp fr gd un) (call (.ref 278) [.ref R.st, .str x u]) Q E ⟨h, g, d, t, o⟩ := by
  obtain ⟨mS, ho, hw, m1, m2, u3, m3⟩ := hR.m
  obtain ⟨a1, a2, a3, a4⟩ := at_st hA
  refine' callDef W [("self", .ref R.st), ("name", .str x u)] S r ?_
  intro L h₁ F N t₁
  have X := W.X' S
  have T := W.T' S
  k_steps
  · dsimp only
    exact k _ (by assumption) (by assumption) _ _ (Fr.keep (by assumption))
  · walk_at "raised"
    exact kE (by assumption)
end
end
local macro_rules | `(tactic| walk_at "call ref") => `(tactic| ((with_reducible refine' atRef 332 ?_); (refine need_validity_c _ (by walk_at "s") (by walk_at "room") (by assumption) (by walk_at "at") (by walk_at "om") (by walk_at "om") ?_); intro h' t' hs; walk_at "nt"))
local macro_rules | `(tactic| walk_at "call ref") => `(tactic| ((with_reducible refine' atRef 278 ?_); (refine box_c _ (by walk_at "s") (by walk_at "room") (by assumption) (by walk_at "at") (by walk_at "ao") ?_ (fun hx => by first | exact Raises.push (by assumption) (by assumption) | (exfalso; exact absurd (by assumption) hx))); intro b hb hbn h' t' hs; walk_at "nt"))
section
section
variable {dp un : Nat} {fr : Option (List Env)} {gd : Option (List Code)} {h : Heap} {g : Array GenState} {d : Drawn} {t : Nat} {o : OsState} {Q E : Value → Shared → Prop}
set_option maxHeartbeats 1000000 in
theorem need_modseqs_c (W : Wd) {R : StR} {b : BoxR} {x : Int} {u : Tok} (S : Sub W.H0 h) (r : Rm 1 (Ar dp fr gd un)) (hR : StOk W R) (hA : At h (led R)) (hb : b ∈ R.boxes) (h1 : x ≤ 1000)
    (k : ∀ h' t', Sub h h' → Q .none ⟨h', g, d, t', o⟩) :
    wpAny (model prg W.w) (Ar dp fr gd un) (call (.ref 311) [.ref b.b, .int x u]) Q E ⟨h, g, d, t, o⟩ := by
  obtain ⟨m, ho, hw, ⟨u1, m1⟩, ⟨u2, m2⟩, ⟨u3, m3⟩, ⟨u4, m4⟩, ⟨u5, m5⟩, m6, m7⟩ := (hR.boxes b hb).m
  obtain ⟨a1, a2, a3, a4⟩ := at_box hA hb
  have htop := (hR.boxes b hb).top
  refine' callDef W [("box", .ref b.b), ("count", .int x u)] S r ?_
  intro L h₁ F N t₁
  refine wp_absQ fun Q1 hQ1 E1 => ?_
  have X := W.X' S
  have T := W.T' S
  k_steps
  all_goals (try (with_reducible refine hQ1 _ _ ?_))
  exact k _ _ F.keep
end
end
local macro_rules | `(tactic| walk_at "call ref") => `(tactic| ((with_reducible refine' atRef 311 ?_); (refine need_modseqs_c _ (by walk_at "s") (by walk_at "room") (by assumption) (by walk_at "at") (by assumption) (by walk_at "om") ?_); intro h' t' hs; walk_at "nt"))
section
section
variable {dp un : Nat} {fr : Option (List Env)} {gd : Option (List Code)} {h : Heap} {g : Array GenState} {d : Drawn} {t : Nat} {o : OsState} {Q E : Value → Shared → Prop}
set_option maxHeartbeats 1000000 in
theorem need_room_c (W : Wd) {R : StR} {b : BoxR} {x : Int} {u : Tok} (S : Sub W.H0 h) (r : Rm 2 (Ar dp fr gd un)) (hR : StOk W R) (hA : At h (led R)) (hb : b ∈ R.boxes) (h1 : x ≤ 100)
    (k : ∀ h' t', Sub h h' → Q .none ⟨h', g, d, t', o⟩) :
    wpAny (model prg W.w) (Ar dp fr gd un) (call (.ref 318) [.ref b.b, .int x u]) Q E ⟨h, g, d, t, o⟩ := by
  obtain ⟨m, ho, hw, ⟨u1, m1⟩, ⟨u2, m2⟩, ⟨u3, m3⟩, ⟨u4, m4⟩, ⟨u5, m5⟩, m6, m7⟩ := (hR.boxes b hb).m
  obtain ⟨a1, a2, a3, a4⟩ := at_box hA hb
  have htop := (hR.boxes b hb).next
  refine' callDef W [("box", .ref b.b), ("count", .int x u)] S r ?_
  intro L h₁ F N t₁
  refine wp_absQ fun Q1 hQ1 E1 => ?_
  have X := W.X' S
  have T := W.T' S
  k_steps
  all_goals (try (with_reducible refine hQ1 _ _ ?_))
  exact k _ _ (Fr.keep (by assumption))
end
end
local macro_rules | `(tactic| walk_at "call ref") => `(tactic| ((with_reducible refine' atRef 318 ?_); (refine need_room_c _ (by walk_at "s") (by walk_at "room") (by assumption) (by walk_at "at") (by assumption) (by walk_at "om") ?_); intro h' t' hs; walk_at "nt"))
section
section
variable {dp un : Nat} {fr : Option (List Env)} {gd : Option (List Code)} {h : Heap} {g : Array GenState} {d : Drawn} {t : Nat} {o : OsState} {Q E : Value → Shared → Prop}
end

end
section
/-! A for loop by an invariant over the frame's names and the heap -/
inductive TurnEnd (g : Array GenState) (d : Drawn) (o : OsState) (L : Addr) (i : Nat) (J : Nat → (Str → Option Value) → Heap → Prop) (St : Nat → Heap → Prop) (s' : Shared) : Prop
  | mk (h' : Heap) (t' : Nat) (m' : Str → Option Value) (e : s' = ⟨h', g, d, t', o⟩) (n : h'.Ns L m') (j : J (i + 1) m' h') (st : St (i + 1) h')
theorem TurnEnd.intro {g : Array GenState} {d : Drawn} {o : OsState} {L : Addr} {i : Nat} {J : Nat → (Str → Option Value) → Heap → Prop} {St : Nat → Heap → Prop} {h' : Heap} {t' : Nat} {m' : Str → Option Value} (n : h'.Ns L m') (j : J (i + 1) m' h') (s : St (i + 1) h') : TurnEnd g d o L i J St ⟨h', g, d, t', o⟩ := ⟨h', t', m', rfl, n, j, s⟩
theorem nsEq {h : Heap} {L : Addr} {m m' : Str → Option Value} (n : h.Ns L m) (e : ∀ y, m y = m' y) : h.Ns L m' := (funext e : m = m') ▸ n
theorem canon1 {m : Str → Option Value} {x a : Str} {v va : Option Value} (ha : m a = va) (y : Str) : (if y = x then v else m y) = (if y = x then v else if y = a then va else m y) := by
  by_cases h1 : y = x
  · simp [h1]
  · by_cases h2 : y = a
    · subst h2; simp [h1, ha]
    · simp [h1, h2]
theorem canon02 {m : Str → Option Value} {a b : Str} {va vb : Option Value} (ha : m a = va) (hb : m b = vb) (y : Str) : m y = (if y = a then va else if y = b then vb else m y) := by
  by_cases h2 : y = a
  · subst h2; simp [ha]
  · by_cases h3 : y = b
    · subst h3; simp [h2, hb]
    · simp [h2, h3]
theorem canon2 {m : Str → Option Value} {x a b : Str} {v va vb : Option Value} (ha : m a = va) (hb : m b = vb) (y : Str) : (if y = x then v else m y) = (if y = x then v else if y = a then va else if y = b then vb else m y) := by
  by_cases h1 : y = x
  · simp [h1]
  · by_cases h2 : y = a
    · subst h2; simp [h1, ha]
    · by_cases h3 : y = b
      · subst h3; simp [h1, h2, hb]
      · simp [h1, h2, h3]
theorem canon3 {m : Str → Option Value} {x a b c : Str} {v va vb vc : Option Value} (ha : m a = va) (hb : m b = vb) (hc : m c = vc) (y : Str) : (if y = x then v else m y) = (if y = x then v else if y = a then va else if y = b then vb else if y = c then vc else m y) := by
  by_cases h1 : y = x
  · simp [h1]
  · by_cases h2 : y = a
    · subst h2; simp [h1, ha]
    · by_cases h3 : y = b
      · subst h3; simp [h1, h2, hb]
      · by_cases h4 : y = c
        · subst h4; simp [h1, h2, h3, hc]
        · simp [h1, h2, h3, h4]
structure ForInv (prog : Program) (w : World) (A : Around) (env : Env) (target : Expr) (body : List Stmt) (Q : Flow → Shared → Prop) (E : Value → Shared → Prop) (I : Addr) (g : Array GenState) (d : Drawn) (o : OsState)
    (fp wr : List Addr) (n : Nat) (P : Nat → Value → Prop) (St : Nat → Heap → Prop) (J : Nat → (Str → Option Value) → Heap → Prop) : Prop where
  stable : ∀ i m h₁ h', J i m h₁ → (∀ b ob, b ≠ env.locals → b ∉ wr → h₁.get? b = some ob → h'.get? b = some ob) → J i m h'
  turn : ∀ i v m h₁ t₁, i < n → P i v → St (i + 1) h₁ → J i m h₁ → h₁.Ns env.locals m →
    wpAny (model prog w) A (letOwnedTupleGo target (.ref I) v) (fun _ s₁ => wpAny (model prog w) A (assign target env v) (fun _ s₂ => wpAny (model prog w) A (execs body env) (fun f s' => match f with
      | .ret v => Q (.ret v) s'
      | .brk => Q .next s'
      | _ => TurnEnd g d o env.locals i J St s')
      (notedBy (model prog w) A env (cameBackBy (model prog w) A env E)) s₂) (notedBy (model prog w) A env (cameBackBy (model prog w) A env E)) s₁) (notedBy (model prog w) A env (cameBackBy (model prog w) A env E)) ⟨h₁, g, d, t₁, o⟩
  done : ∀ m h' t', J n m h' → h'.Ns env.locals m → Q .next ⟨h', g, d, t', o⟩
inductive ForAt (prog : Program) (w : World) (A : Around) (env : Env) (target : Expr) (body : List Stmt) (Q : Flow → Shared → Prop) (E : Value → Shared → Prop) (it : Value) (s₂ : Shared) : Prop
  | mk (I : Addr) (fp wr : List Addr) (n : Nat) (P : Nat → Value → Prop) (St : Nat → Heap → Prop) (h : Heap) (g : Array GenState) (d : Drawn) (t : Nat) (o : OsState) (m : Str → Option Value) (J : Nat → (Str → Option Value) → Heap → Prop) (e1 : it = .ref I) (e2 : s₂ = ⟨h, g, d, t, o⟩)
      (W : Walks prog w A I fp wr n P St) (hLw : env.locals ∉ wr) (hst : St 0 h) (hns : h.Ns env.locals m) (h0 : J 0 m h) (F : ForInv prog w A env target body Q E I g d o fp wr n P St J)
/-- between two turns of a for loop -/
inductive LoopMid (g : Array GenState) (d : Drawn) (o : OsState) (L : Addr) (n : Nat) (J : Nat → (Str → Option Value) → Heap → Prop) (St : Nat → Heap → Prop) (k : Nat) (s' : Shared) : Prop
  | mk (h' : Heap) (t' : Nat) (m' : Str → Option Value) (i : Nat) (e : s' = ⟨h', g, d, t', o⟩) (st : St i h') (ns : h'.Ns L m') (j : J i m' h') (hi : i ≤ n) (hk : k = n + 1 - i)
theorem LoopMid.next {g : Array GenState} {d : Drawn} {o : OsState} {L : Addr} {n : Nat} {J : Nat → (Str → Option Value) → Heap → Prop} {St : Nat → Heap → Prop} {i : Nat} {s' : Shared} (z : TurnEnd g d o L i J St s') (hi : i < n) : ∃ k, k < n + 1 - i ∧ LoopMid g d o L n J St k s' := by
  obtain ⟨h₅, t₅, m₅, rfl, a, b, c⟩ := z
  exact ⟨n + 1 - (i + 1), Nat.sub_lt_sub_left (Nat.lt_succ_of_lt hi) (Nat.lt_succ_self i), h₅, t₅, m₅, i + 1, rfl, c, a, b, hi, rfl⟩
section
variable {prog : Program} {w : World} {A : Around} {E : Value → Shared → Prop} {env : Env} {s : Shared}
theorem for_heap {target iter : Expr} {pos : Pos} {body : List Stmt} {Q : Flow → Shared → Prop}
    (k : wpAny (model prog w) A (eval iter env) (fun xv s₁ => wpAny (model prog w) A (pyIter xv) (ForAt prog w A env target body Q E) E s₁) E s)
    (hs : ∀ x, foldedSetIterable iter env x = pure x := by intro _; rfl) :
    wpAny (model prog w) A (exec (.For target iter body [] pos) env) Q E s := by
  refine wpAny_For (wpAny_mono k (fun xv s₁ h₁ => wpAny_mono h₁ (fun it s₂ h₂ => ?_) fun _ _ e => e) fun _ _ e => e) hs
  obtain ⟨I, fp, wr, n, P, St, h, g, d, t, o, m, J, rfl, rfl, W, hLw, hst, hns, h0, F⟩ := h₂
  refine codeAny_forLoop_any (LoopMid g d o env.locals n J St) ?_ (n + 1) ⟨h, t, m, 0, rfl, hst, hns, h0, Nat.zero_le _, rfl⟩
  rintro k s' ⟨h', t', m', i, rfl, hst', hn', hJ, hi, rfl⟩
  by_cases hlt : i < n
  · refine W.item i _ _ _ hlt hst' fun v h₁ t₁ hP hst₁ hk₁ => ?_
    refine wpAny_mono (F.turn i v m' h₁ t₁ hlt hP hst₁ (F.stable _ _ _ _ hJ fun b ob _ hb e => hk₁ b ob hb e) (hn'.at' fun ob e => hk₁ _ ob hLw e)) (fun _ s₁ h₂ => wpAny_mono h₂ (fun _ s₂ h₃ => wpAny_mono h₃ (fun f s₃ h₄ => ?_) fun _ _ e => e) fun _ _ e => e) fun _ _ e => e
    cases f with
    | ret v => exact h₄
    | brk => exact h₄
    | next => exact LoopMid.next h₄ hlt
    | cont => exact LoopMid.next h₄ hlt
  · obtain rfl : i = n := Nat.le_antisymm hi (Nat.le_of_not_lt hlt)
    refine W.done _ _ _ hst' fun h₁ t₁ hk₁ => wpAny_execs_nil ?_
    exact F.done m' h₁ t₁ (F.stable _ _ _ _ hJ fun b ob _ hb e => hk₁ b ob hb e) (hn'.at' fun ob e => hk₁ _ ob hLw e)
/-- the turn of a loop over a name -/
theorem turn_name {x : Str} {px : Pos} {I : Addr} {v : Value} {R : Unit → Shared → Prop} {h₁ : Heap} {g : Array GenState} {d : Drawn} {t₁ : Nat} {o : OsState} {m : Str → Option Value} (hx : env.kindOf x = some .local)
    (hp : (env.scope.kind == .class || (env.scope.kind == .module && env.locals != env.globals)) = false) (hn : h₁.Ns env.locals m)
    (k : ∀ h₂ t₂, h₂.Ns env.locals (fun y => if y = x then some v else m y) → Heap.SameBut env.locals h₁ h₂ → R () ⟨h₂, g, d, t₂, o⟩) :
    wpAny (model prog w) A (letOwnedTupleGo (.Name x px) (.ref I) v) (fun _ s₁ => wpAny (model prog w) A (assign (.Name x px) env v) R E s₁) E ⟨h₁, g, d, t₁, o⟩ :=
  wpAny_pure (wpAny_assign_Name (wpAny_storeName_local hx hn (fun h₂ hn₂ hs₂ => k h₂ _ hn₂ hs₂) hp))
end
section
variable {prog : Program} {w : World} {A : Around} {E : Value → Shared → Prop} {h : Heap} {g : Array GenState} {d : Drawn} {tk : Nat} {o : OsState}
theorem iter_range {r : Addr} {n : Nat} {b : Int} {t u v : Tok} {Q : Value → Shared → Prop} (hr : IsRange h r 0 b 1 t u v) (hb : b = n) (hn : n ≤ 1000000000) (hh : A.handled = none)
    (k : ∀ I h', h.objs.size ≤ I → h.get? I = none → Sub h h' → (∃ ob, h'.get? I = some ob) → Walks prog w A I [I] [I] n (fun i v => ∃ t, v = .int i t) (fun i h => IsRangeIter h I (0 + (i : Nat) * 1) ((n : Int) - (i : Nat)) 1) → IsRangeIter h' I (0 + (0 : Nat) * 1) ((n : Int) - (0 : Nat)) 1 → Q (.ref I) ⟨h', g, d, tk, o⟩) :
    wpAny (model prog w) A (pyIter (.ref r)) Q E ⟨h, g, d, tk, o⟩ := by
  subst hb
  have e1 : Builtin.Range.rangeSize 0 (n : Int) 1 = n := by
    unfold Builtin.Range.rangeSize
    simp
    try omega
  have e2 : Builtin.Range.small 0 (n : Int) 1 = true := by
    unfold Builtin.Range.small
    rw [e1]
    unfold Builtin.Range.rangeFitsLong
    simp
    omega
  refine wpAny_pyIter_range (s := ⟨h, g, d, tk, o⟩) hr e2 ?_
  have W := Walks.range (prog := prog) (w := w) hh h.objs.size 0 1 n
  have e3 : (fun (i : Nat) (v : Value) => ∃ t, v = .int (0 + (i : Int) * 1) t) = fun (i : Nat) (v : Value) => ∃ t, v = .int (i : Int) t := by funext i v; rw [show (0 + (i : Int) * 1) = i from by omega]
  rw [e3] at W
  refine k _ _ (Nat.le_refl _) (Heap.get?_none_of_le (Nat.le_refl _)) (fun b o e => Heap.get?_push_of_some _ e) ⟨_, Heap.get?_push_size _ rfl⟩ W ?_
  refine (Heap.get?_push_size _ rfl).trans ?_
  rw [e1]
  simp
end
section
variable {prog : Program} {w : World} {A : Around} {E : Value → Shared → Prop} {h : Heap} {g : Array GenState} {d : Drawn} {tk : Nat} {o : OsState}
theorem iter_list {l : Addr} {vs : List Value} {Q : Value → Shared → Prop} (hl : h.IsList l vs.toArray) (hh : A.handled = none)
    (k : ∀ I h', h.objs.size ≤ I → h.get? I = none → Sub h h' → (∀ b ∈ [I, l], b < h'.objs.size) → Walks prog w A I [I, l] [I] vs.length (fun i v => vs[i]? = some v) (fun i h => h.IsListIter I l i ∧ h.IsList l vs.toArray) → (h'.IsListIter I l 0 ∧ h'.IsList l vs.toArray) → Q (.ref I) ⟨h', g, d, tk, o⟩) :
    wpAny (model prog w) A (pyIter (.ref l)) Q E ⟨h, g, d, tk, o⟩ := by
  obtain ⟨ol, hol, hor⟩ := id hl
  have hlt := Heap.lt_size hol
  refine wpAny_pyIter_list (s := ⟨h, g, d, tk, o⟩) hl ?_
  have W := Walks.list (prog := prog) (w := w) hh h.objs.size l (Nat.ne_of_lt hlt) vs.toArray
  rw [List.size_toArray] at W
  have e : (fun (i : Nat) (v : Value) => vs.toArray[i]? = some v) = fun i v => vs[i]? = some v := by funext i v; simp
  rw [e] at W
  refine k _ _ (Nat.le_refl _) (Heap.get?_none_of_le (Nat.le_refl _)) (fun b o e => Heap.get?_push_of_some _ e) (fun b hb => ?_) W ⟨⟨_, Heap.get?_push_size _ rfl, rfl, rfl⟩, ol, Heap.get?_push_of_some _ hol, hor⟩
  rw [Heap.size_push]
  rcases List.mem_cons.mp hb with rfl | hb
  · exact Nat.lt_succ_self _
  · rw [List.mem_singleton.mp hb]; exact Nat.lt_succ_of_lt hlt
end
theorem compStable {h h₁ h' : Heap} {C D I : Addr} (hs : Sub h h₁) (hC : h.objs.size ≤ C) (hD : h.objs.size ≤ D) (hI : h.get? I = none)
    {KP : Obj → Prop} (hk : ∀ b o, h₁.get? b = some o → (b ≠ C ∧ b ≠ D ∧ b ∉ [I]) ∨ KP o → h'.get? b = some o) : Sub h h' := fun b o e => by
  have lt := Heap.lt_size e
  exact hk b o (hs b o e) (.inl ⟨ltNe (Nat.lt_of_lt_of_le lt hC), ltNe (Nat.lt_of_lt_of_le lt hD), fun hm => by rw [List.mem_singleton.mp hm, hI] at e; cases e⟩)
theorem subLe {h h' : Heap} (hs : Sub h h') {I : Addr} (hI : h.objs.size ≤ I) (hl : I < h'.objs.size) : h.objs.size ≤ h'.objs.size := Nat.le_trans hI (Nat.le_of_lt hl)

end
section
noncomputable def wild (y : Str) : Bool := !(Builtin.Str.occurrences "%*" y 0 (Str.ofString "%*").length 1).isEmpty
noncomputable def ckTo (x : Str) : Nat → Option Nat
  | 0 => some 0
  | i + 1 => (ckTo x i).bind fun b => if Txt.item x i == "/" then (if i = b then none else some (i + 1)) else if wild (Txt.item x i) then none else if barred ((Txt.item x i).cps.getD 0 0) then none else some b
theorem ck_none {x : Str} {i : Nat} (h : ckTo x i = none) : ∀ j, ckTo x (i + j) = none
  | 0 => h
  | j + 1 => by show (ckTo x (i + j)).bind _ = none; rw [ck_none h j]; rfl
noncomputable def checkOk (x : Str) : Bool := (ckTo x x.length).any fun b => b != x.length
theorem ck_bad {x : Str} {i : Nat} (hi : i < x.length) (h : ckTo x (i + 1) = none) : checkOk x = false := by
  have := ck_none h (x.length - (i + 1))
  rw [show i + 1 + (x.length - (i + 1)) = x.length from by omega] at this
  unfold checkOk; rw [this]; rfl
end
local macro_rules | `(tactic| walk_at "exec For Name Call cons nil") => `(tactic| k_dflt (refine' for_heap ?_))
section
theorem XD.slots {h h' : Heap} {D : Addr} {x : Str} {u : Tok} {av : Value} (X : XD h D x u av) (k : h.UpToSlots h') : XD h' D x u av := by
  obtain ⟨od, h1, h2, h3, h4, h5⟩ := X
  obtain ⟨sl, e⟩ := k D od h1 h2
  exact ⟨_, e, h2, h3, h4, h5⟩
theorem noneSub {h h' : Heap} {D : Addr} (s : Sub h h') (e : h'.get? D = none) : h.get? D = none := by
  cases q : h.get? D with
  | none => rfl
  | some ob => rw [s _ _ q] at e; cases e
/-- what a raised NameFault needs of the callers -/
inductive RaisesN (A : Around) (h : Heap) (E : Value → Shared → Prop) (g : Array GenState) (d : Drawn) (o : OsState) : Prop
  | mk (base : Heap) (outer : List Env) (K : Below A base outer h) (k : ∀ h' e D t' x u i v, h.get? D = none → Xc base outer e 52 (some D) .none (some .none) h' → XD h' D x u (.int i v) → h.UpToSlots h' → E (.ref e) ⟨h', g, d, t', o⟩)
section
variable (W : Wd) {A : Around} {E E' : Value → Shared → Prop} {h h₁ h₂ : Heap} {g : Array GenState} {d : Drawn} {t : Nat} {o : OsState} {L a : Addr} {m : Str → Option Value} {name : Str} {scope : Scope} {cd : Value} {e D : Addr} {x : Str} {u v : Tok} {i : Int} {Q : Flow → Shared → Prop}
theorem rzn_leave (S : Sub W.H0 h) (mx : Mx h₁ h₂ 52 e D x u (.int i v)) (F : Fr h L h₁ m) (R : RaisesN A h E g d o) (hh : A.handled = none) (hk : scope.kind = .function) :
    Rz (model prg W.w) (A.deeper (envOf name scope L a cd)) Q (fun e s' => wpAny (model prg W.w) (A.deeper (envOf name scope L a cd)) (leaving (envOf name scope L a cd) e) (fun _ s'' => E e s'') E' s') (.ref e) ⟨h₂, g, d, t, o⟩ := by
  obtain ⟨base, outer, K, k⟩ := R
  obtain ⟨t0, he⟩ := mx.at_
  refine ⟨e, 52, D, t0, rfl, he, xk_of (W.X' ((subF F S).trans mx.keep)) (exc52 _), wpAny_raiseNew_none hh ?_⟩
  exact leave_x (s := ⟨h₂, g, d, t, o⟩) (Around.frames_deeper K.stack) rfl (mx_xc K F mx hk) (.inl rfl) fun h₃ x₃ u₃ => k h₃ e D t _ _ _ _ (noneSub F.keep mx.dnew) x₃ (mx.dict.slots u₃) (((Heap.UpToSlots.of_keeps F.keep).trans (Heap.UpToSlots.of_keeps mx.keep)).trans u₃)
theorem rzn_loop (S : Sub W.H0 h) (mx : Mx h₁ h₂ 52 e D x u (.int i v)) (F : Fr h L h₁ m) (R : RaisesN A h E g d o) (hh : A.handled = none) (hk : scope.kind = .function) :
    Rz (model prg W.w) (A.deeper (envOf name scope L a cd)) Q (notedBy (model prg W.w) (A.deeper (envOf name scope L a cd)) (envOf name scope L a cd) (cameBackBy (model prg W.w) (A.deeper (envOf name scope L a cd)) (envOf name scope L a cd) (fun e s' => wpAny (model prg W.w) (A.deeper (envOf name scope L a cd)) (leaving (envOf name scope L a cd) e) (fun _ s'' => E e s'') E' s'))) (.ref e) ⟨h₂, g, d, t, o⟩ := by
  obtain ⟨base, outer, K, k⟩ := R
  obtain ⟨t0, he⟩ := mx.at_
  refine ⟨e, 52, D, t0, rfl, he, xk_of (W.X' ((subF F S).trans mx.keep)) (exc52 _), wpAny_raiseNew_none hh ?_⟩
  refine note_x (s := ⟨h₂, g, d, t, o⟩) (Around.frames_deeper K.stack) rfl (mx_xc K F mx hk) (.inl rfl) fun h₃ x₃ u₃ => ?_
  refine back_x (s := ⟨h₃, g, d, t, o⟩) x₃ rfl fun h₄ x₄ u₄ => ?_
  exact leaveHeld_x (s := ⟨h₄, g, d, t, o⟩) rfl x₄ fun h₅ x₅ u₅ => k h₅ e D t _ _ _ _ (noneSub F.keep mx.dnew) x₅ (((mx.dict.slots u₃).slots u₄).slots u₅) (((((Heap.UpToSlots.of_keeps F.keep).trans (Heap.UpToSlots.of_keeps mx.keep)).trans u₃).trans u₄).trans u₅)
end
end
local macro_rules | `(tactic| walk_at "call ref") => `(tactic| ((with_reducible refine' atRef 52 ?_); (refine exc_c _ (C := 52) (by walk_at "s") (by walk_at "room") (exc52 _) (.inl rfl) ?_); intro h' t' e' D' mx'))
section
section
variable {dp un : Nat} {fr : Option (List Env)} {gd : Option (List Code)} {h : Heap} {g : Array GenState} {d : Drawn} {t : Nat} {o : OsState} {Q E : Value → Shared → Prop}
set_option maxHeartbeats 1000000 in
theorem check_name_c (W : Wd) {x : Str} {u : Tok} (S : Sub W.H0 h) (r : Rm 5 (Ar dp fr gd un)) (hx : x.length ≤ 1000000)
    (k : checkOk x = true → ∀ h' t' u, Sub h h' → Q (.str x u) ⟨h', g, d, t', o⟩) (kE : checkOk x = false → RaisesN (Ar dp fr gd un) h E g d o) :
    wpAny (model prg W.w) (Ar dp fr gd un) (call (.ref 243) [.str x u]) Q E ⟨h, g, d, t, o⟩ := by
  refine' callDef W [("text", .str x u)] S r ?_
  intro L h₁ F N t₁
  refine wp_absO fun Q1 hQ1 => ?_
  have X := W.X' S
  have T := W.T' S
  k_steps
  refine iter_range (by assumption) rfl (Nat.le_trans hx (by decide)) rfl ?_
  intro I h₂ hI1 hI2 hI3 hI4 hW hst
  rename Fr _ _ _ _ => F₁
  have hIL : I ≠ L := fun q => by
    obtain ⟨ob, _, _, ho, _⟩ := F₁.ns
    rw [q, ho] at hI2; cases hI2
  have F₂ := frSub hI3 F₁
  have hI0 : h.get? I = none := by
    cases q : h.get? I with
    | none => rfl
    | some ob => rw [F₁.keep _ _ q] at hI2; cases hI2
  refine ⟨I, [I], [I], x.length, _, _, h₂, g, d, _, o, _, fun i m h' => Sub h h' ∧ m "text" = some (.str x u) ∧ ∃ b ub, ckTo x i = some b ∧ m "begin" = some (.int b ub), rfl, rfl, hW, ?_, hst, F₂.ns, ⟨F₂.keep, rfl, 0, _, rfl, rfl⟩, ?_, ?_, ?_⟩
  · exact fun q => hIL (List.mem_singleton.mp q).symm
  · rintro i m h₃ h' ⟨a, b⟩ hk
    refine ⟨fun b ob e => hk b ob (ltNe (Nat.lt_of_lt_of_le (Heap.lt_size e) F₁.above)) (fun q => ?_) (a b ob e), b⟩
    rw [List.mem_singleton.mp q, hI0] at e; cases e
  · rintro i v m h₃ t₃ hi ⟨ti, rfl⟩ hst3 ⟨hs3, hm1, b, ub, hck, hm2⟩ hns
    refine turn_name rfl rfl hns fun h₄ t₄ hn₄ hs₄ => ?_
    refine wp_abs fun Q2 hQ2 E2 hE2 => ?_
    have F₄ : Fr h L h₄ (fun y => if y = "at" then some (.int i ti) else if y = "text" then some (.str x u) else if y = "begin" then some (.int b ub) else m y) := by
      refine ⟨nsEq hn₄ fun y => ?_, fun b ob e => (hs₄.2 b (ltNe (Nat.lt_of_lt_of_le (Heap.lt_size e) F₁.above))).trans (hs3 b ob e), F₁.above⟩
      exact canon2 hm1 hm2 y
    have N₄ : News h L h₄ [(I, _)] := (allOne (⟨(hs₄.2 I hIL).trans hst3, hIL, hI0⟩))
    have X₄ := W.X' S
    have hLe := F₁.above
    clear F₁ F₂
    k_steps
    · refine Rz.toE (rzn_loop W S (by assumption) (by assumption) (kE (ck_bad hi ?_)) rfl rfl) hE2
      rename (i : Int) = (b : Int) => hib
      rename (_ == _) = true => hs
      obtain rfl : i = b := by omega
      simp only [ckTo, hck, Option.bind_some, hs, if_true]
    · rename (i : Int) ≠ (b : Int) => hib
      rename (_ == _) = true => hs
      have : i ≠ b := by omega
      refine hQ2 _ _ ?_
      refine TurnEnd.intro (Fr.ns (by assumption)) ⟨Fr.keep (by assumption), by rfl, i + 1, _, ?_, by rfl⟩ (News.get (by assumption) (.head _))
      simp only [ckTo, hck, Option.bind_some, hs, if_true, if_neg this]
    · refine Rz.toE (rzn_loop W S (by assumption) (by assumption) (kE (ck_bad hi ?_)) rfl rfl) hE2
      rename (_ == _) = false => hs
      rename List.isEmpty _ = _ => he
      rename barred _ = _ => hb
      simp only [ckTo, hck, Option.bind_some, hs, wild, he, hb, Bool.not_true, Bool.false_eq_true, if_false, if_true]
    · rename (_ == _) = false => hs
      rename List.isEmpty _ = _ => he
      rename barred _ = _ => hb
      refine hQ2 _ _ ?_
      refine TurnEnd.intro (Fr.ns (by assumption)) ⟨Fr.keep (by assumption), by rfl, b, _, ?_, by rfl⟩ (News.get (by assumption) (.head _))
      simp only [ckTo, hck, Option.bind_some, hs, wild, he, hb, Bool.not_true, Bool.false_eq_true, if_false, if_true]
    · refine Rz.toE (rzn_loop W S (by assumption) (by assumption) (kE (ck_bad hi ?_)) rfl rfl) hE2
      rename (_ == _) = false => hs
      rename List.isEmpty _ = _ => he
      simp only [ckTo, hck, Option.bind_some, hs, wild, he, Bool.not_false, Bool.false_eq_true, if_false, if_true]
  · rintro m h₃ t₃ ⟨hs3, hm1, b, ub, hck, hm2⟩ hns
    have F₃ : Fr h L h₃ (fun y => if y = "text" then some (.str x u) else if y = "begin" then some (.int b ub) else m y) := ⟨nsEq hns (canon02 hm1 hm2), hs3, F₁.above⟩
    have N₃ : News h L h₃ [] := News.nil
    clear F₁ F₂
    dsimp only
    k_steps
    all_goals (try dsimp only)
    · refine rzn_leave W S (by assumption) (by assumption) (kE ?_) rfl rfl
      rename (b : Int) = _ => hib
      obtain rfl : b = x.length := by omega
      unfold checkOk
      simp [hck]
    · rename (b : Int) ≠ _ => hib
      have : b ≠ x.length := by omega
      refine hQ1 _ _ ?_
      exact k (by unfold checkOk; simp [hck, this]) _ _ _ (Fr.keep (by assumption))
end
end
local macro_rules | `(tactic| walk_at "call ref") => `(tactic| ((with_reducible refine' atRef 243 ?_); (refine check_name_c _ (by walk_at "s") (by walk_at "room") (by walk_at "ao") (fun hx => ?_) (fun hx => ?_)); (first | (intro h' t' u' hs; walk_at "nt") | skip)))
section

end
section
theorem funFr {h h' base : Heap} (k : ∀ b o, h.get? b = some o → (∀ vs, o.data ≠ .fields vs) → ∃ o', h'.get? b = some o' ∧ ∀ vs, o'.data ≠ .fields vs) : ∀ {l : List Env}, h.FunFrames base l → h'.FunFrames base l
  | [], _ => trivial
  | _ :: _, ⟨hk, ⟨L, o, hf, hn, ho, hd⟩, hr⟩ => let ⟨o', ho', hd'⟩ := k L o ho hd; ⟨hk, ⟨L, o', hf, hn, ho', hd'⟩, funFr k hr⟩
theorem ns_notF {h : Heap} {L : Addr} {m : Str → Option Value} (n : h.Ns L m) : ∃ o, h.get? L = some o ∧ ∀ vs, o.data ≠ .fields vs := by
  obtain ⟨o, es, ep, ho, hd, _⟩ := n
  exact ⟨o, ho, fun vs q => by rw [hd] at q; cases q⟩
theorem Xc.set {base h h' : Heap} {l : List Env} {e C L : Addr} {dd : Option Addr} {cx : Value} {fl : Option Value} {m m' : Str → Option Value} (x : Xc base l e C dd cx fl h) (hn : h.Ns L m) (hn' : h'.Ns L m') (hs : ∀ b, b ≠ L → h'.get? b = h.get? b) (hb : base.get? L = none) : Xc base l e C dd cx fl h' := by
  obtain ⟨oL, hL, hnf⟩ := ns_notF hn
  obtain ⟨oL', hL', hnf'⟩ := ns_notF hn'
  have rec' : ∀ b ob vs, h.get? b = some ob → ob.data = .fields vs → b ≠ L := fun b ob vs q1 q2 q => by rw [q, hL] at q1; cases q1; exact hnf vs q2
  obtain ⟨f1, f2, f3, oe, vs, he, hcd, hd, tb⟩ := x
  refine ⟨fun b ob q => (hs b fun z => by rw [z, hb] at q; cases q).trans (f1 b ob q), f2, funFr (fun b ob q hq => ?_) f3, oe, vs, (hs e (rec' _ _ _ he hd)).trans he, hcd, hd, ?_⟩
  · by_cases z : b = L
    · subst z; exact ⟨_, hL', hnf'⟩
    · exact ⟨ob, (hs b z).trans q, hq⟩
  · cases fl with
    | none => exact tb
    | some v =>
      obtain ⟨T, oT, ts, h1, h2, h3, h4, h5, h6⟩ := tb
      exact ⟨T, oT, ts, h1, h2, h3, (hs T (rec' _ _ _ h4 h5)).trans h4, h5, h6⟩
section
variable {prog : Program} {w : World} {A : Around} {E : Value → Shared → Prop} {s : Shared} {env : Env} {h : Heap} {g : Array GenState} {d : Drawn} {t : Nat} {o : OsState} {e C D : Addr}
theorem matches_x {oe : Obj} {Q : Bool → Shared → Prop} (Y : Xk (model prog w) h C) (he : h.get? e = some oe) (hc : oe.cls = .ref C) (q : Q true ⟨h, g, d, t, o⟩) : wpAny (model prog w) A (excMatches (.ref e) (.ref C)) Q E ⟨h, g, d, t, o⟩ := by
  obtain ⟨⟨oc, od, cd, sl, hC, -⟩, made, base, sub, mro, cls, call, typ, -, -, -, -, tt⟩ := Y
  have s1 : Looks (model prog w) h (isSubtype (.ref C) (.type "BaseException")) true := sub _
  have s2 : Looks (model prog w) h (isSubtype (.ref C) (.ref C)) true := by
    have := sub (.ref C)
    rw [show (Value.ref C :: excTail).contains (.ref C) = true from by simp] at this
    exact this
  have f := tc_notTuple
  have T : Looks (model prog w) h (typeOf (.ref e)) (.ref C) := hc ▸ (Looks.ld he).andThen .now
  unfold excMatches
  repeat (first | (with_reducible refine wpAny_loadPart_at hC ?_) | with_reducible refine Looks.at (by assumption) ?_ | wp_step)
  exact q
inductive Caught (M : Model) (C e : Addr) (g : Array GenState) (d : Drawn) (o : OsState) (K : Heap → Nat → Prop) (c : Value) (s₁ : Shared) : Prop
  | mk (oe : Obj) (h₁ : Heap) (t₁ : Nat) (e1 : s₁ = ⟨h₁, g, d, t₁, o⟩) (e2 : c = .ref C) (Y : Xk M h₁ C) (he : h₁.get? e = some oe) (hc : oe.cls = .ref C) (k : K h₁ t₁)
theorem handle_x {n : Str} {te : Expr} {b₀ : Stmt} {suite : List Stmt} {pos : Pos} {rest : List ExceptHandler} {Q : Flow → Shared → Prop}
    (k : wpAny (model prog w) (A.mark (some (.ref e))) (eval te env) (Caught (model prog w) C e g d o fun h₁ t₁ =>
      wpAny (model prog w) (A.mark (some (.ref e))) (setFlight (.ref e) none) (fun _ s₂ =>
          wpAny (model prog w) (A.mark (some (.ref e))) (storeName env n (.ref e)) (fun _ s₃ =>
            wpAny (model prog w) (A.mark (some (.ref e))) (execs (b₀ :: suite) env)
              (fun f s₄ => wpAny (model prog w) A (do bindName env n .none; unbindBehindTheSuite env n pos) (fun _ s₅ => Q f s₅) E s₄)
              (AsSuiteRaised (model prog w) (A.mark (some (.ref e))) env n pos (notedBy (model prog w) (A.mark (some (.ref e))) env (cameBackBy (model prog w) A env E))) s₃) (notedBy (model prog w) (A.mark (some (.ref e))) env (cameBackBy (model prog w) A env E)) s₂) (notedBy (model prog w) (A.mark (some (.ref e))) env (cameBackBy (model prog w) A env E)) ⟨h₁, g, d, t₁, o⟩) (notedBy (model prog w) (A.mark (some (.ref e))) env (cameBackBy (model prog w) A env E)) s) :
    wpAny (model prog w) A (handleBy (.ref e) env (.ExceptHandler (some te) (some n) (b₀ :: suite) pos :: rest)) Q E s := by
  refine wpAny_handleBy_cons (codeAny_handlers_test (wpAny_mono k (fun c s₁ h₁ => ?_) fun _ _ y => y)) (by intro q; cases q)
  obtain ⟨oe, h₁, t₁, rfl, rfl, Y, he, hc, hk⟩ := h₁
  exact matches_x Y he hc (codeAny_handlers_suite_as hk)
theorem handle0_x {te : Expr} {b₀ : Stmt} {suite : List Stmt} {pos : Pos} {rest : List ExceptHandler} {Q : Flow → Shared → Prop}
    (k : wpAny (model prog w) (A.mark (some (.ref e))) (eval te env) (Caught (model prog w) C e g d o fun h₁ t₁ =>
      wpAny (model prog w) (A.mark (some (.ref e))) (setFlight (.ref e) none) (fun _ s₂ =>
            wpAny (model prog w) (A.mark (some (.ref e))) (execs (b₀ :: suite) env) Q (notedBy (model prog w) (A.mark (some (.ref e))) env (cameBackBy (model prog w) A env E)) s₂) (notedBy (model prog w) (A.mark (some (.ref e))) env (cameBackBy (model prog w) A env E)) ⟨h₁, g, d, t₁, o⟩) (notedBy (model prog w) (A.mark (some (.ref e))) env (cameBackBy (model prog w) A env E)) s) :
    wpAny (model prog w) A (handleBy (.ref e) env (.ExceptHandler (some te) none (b₀ :: suite) pos :: rest)) Q E s := by
  refine wpAny_handleBy_cons (codeAny_handlers_test (wpAny_mono k (fun c s₁ h₁ => ?_) fun _ _ y => y)) (by intro q; cases q)
  obtain ⟨oe, h₁, t₁, rfl, rfl, Y, he, hc, hk⟩ := h₁
  exact matches_x Y he hc (codeAny_handlers_suite hk)
end

end
section
section
open Builtin Builtin.ObjectAttr
variable {prog : Program} {w : World} {A : Around} {E : Value → Shared → Prop} {K : Frag} {h : Heap} {g : Array GenState} {d : Drawn} {t : Nat} {o : OsState} {x C D : Addr} {oe od : Obj} {name : Str} {v : Value}
set_option maxHeartbeats 400000 in
theorem get_exc {expr : Bool} {Q : Value → Shared → Prop} (k : ∀ t', Q v ⟨h, g, d, t', o⟩) (e : excIn K C = true) (X : K.In h := by walk_at "o_in") (I : InstAt h x oe C (some od) := by assumption) (hl : lookIn name od = some (some v) := by assumption) (hh : hasDictIn K C = true := by k_is) (ha : findIn K (.ref C) name = some none := by k_is) (hi : handedIn v = true := by rfl) : wpAny (model prog w) A (getAttr (.ref x) name expr) Q E ⟨h, g, d, t, o⟩ := by
  have FB := PySem.F.attrBase_Exception
  have Y := xk_of (M := model prog w) X e
  have L0 := I.type (M := model prog w)
  have L1 := Y.getattribute
  have L2 := Y.getattr
  have L3 := looks_find (M := model prog w) X I (findObj_own hh ha (by rfl) hl)
  have S1 : Looks (model prog w) h (isInstance (.ref x) (.type "BaseException")) true := L0.andThen (Y.sub _)
  have hx0 : (expr && onTheHeap (Value.builtin "BaseException.__getattribute__")) = false := by cases expr <;> rfl
  have hx2 : (Value.builtin "BaseException.__getattribute__" == Value.builtin "object.__getattribute__") = false := by decide +kernel
  have hx1 : (onTheHeap (Value.ref C) && Value.builtin "BaseException.__getattribute__" == Value.builtin "object.__getattribute__") = false := by rw [hx2]; rfl
  have f3 := FB.ga.bind (.ref x)
  unfold getAttr getAttrBy
  refine wpAny_bind (wpAny_mkText (wpAny_holding (wpAny_bind (L0.at (wpAny_bind (L1.at ?_))))))
  repeat (any_goals (first | assumption | with_reducible refine Looks.at (by assumption) ?_ | wp_step))
  have hk : builtinKind "BaseException.__getattribute__" = some .slot := by decide +kernel
  have hsplit : splitId "BaseException.__getattribute__" = some ("BaseException", "__getattribute__") := by decide +kernel
  show codeAny _ _ (.call (.builtin "BaseException.__getattribute__") ⟨[.ref x, .str name t], []⟩) _ ⟨h, g, d, t + 1, o⟩
  refine codeAny_call_builtin FB.ga.plain PySem.F.entry_bexc_ga (@check_slot (model prog w) _ _ ⟨h, g, d, t + 1, o⟩ "BaseException.__getattribute__" "BaseException" "__getattribute__" (.ref x) [.str name t] [] _ hk hsplit S1 (PySem.F.args_bexc_ga (.ref x) (.str name t)) ?_)
  show wpAny _ _ (Builtin.«object.__getattribute__» ⟨[.ref x, .str name t], []⟩) _ _ _
  unfold Builtin.«object.__getattribute__»
  refine wpAny_bind (wpAny_of_eq (a := (Value.ref x, [Value.str name t])) (by rfl) ?_)
  refine wpAny_bind (wpAny_of_eq (a := name) (by rfl) ?_)
  refine wpAny_bind (L0.at (wpAny_bind (L3.at (wpAny_pure ?_))))
  show wpAny _ _ (handedOut v) _ _ _
  rw [handedOut_of hi]
  exact wpAny_pure (k _)
end

end
section
theorem normal_len (x : Str) : (normalN x).length ≤ x.length + 5 := by
  unfold normalN
  split
  · have h1 := restLe (x := x) (Nat.le_refl _)
    have h2 : (Str.ofString "INBOX").length = 5 := by decide
    rw [strLen_append, h2]; omega
  · omega
theorem upSame {h a c : Heap} {L : Addr} (u : h.UpToSlots a) (hs : ∀ b ob, b ≠ L → a.get? b = some ob → c.get? b = some ob) (hL : h.get? L = none) : h.UpToSlots c := fun b ob q hn => by
  obtain ⟨sl, e⟩ := u b ob q hn
  exact ⟨sl, hs b _ (fun z => by rw [z, hL] at q; cases q) e⟩
theorem get_none {h : Heap} {L : Addr} (hL : h.objs.size ≤ L) : h.get? L = none := Heap.get?_none_of_le hL
theorem Xc.next {base h₇ h₈ h₉ : Heap} {l : List Env} {e C e2 D2 t0 c0 : Addr} {dd : Option Addr} {cx : Value} {fl : Option Value} {x : Str} {u : Tok} {av : Value} (x₇ : Xc base l e C dd cx fl h₇) (mx : Mx h₇ h₈ 64 e2 D2 x u av)
    (he9 : h₉.get? e2 = some (bexc 64 (some D2) #[.ref t0, .none, .ref c0, .none, .bool false, .none])) (hk9 : ∀ b o, b ≠ e2 → h₈.get? b = some o → h₉.get? b = some o) : Xc base l e2 64 (some D2) (.ref c0) none h₉ := by
  have he2b : base.get? e2 = none := noneSub x₇.stays mx.enew
  refine ⟨fun b ob q => hk9 b ob (fun z => by rw [z, he2b] at q; cases q) (mx.keep _ _ (x₇.stays b ob q)), he2b, ?_, _, _, he9, ⟨rfl, rfl, rfl⟩, rfl, rfl⟩
  exact x₇.frames.of_keeps fun b ob q _ => ⟨ob, hk9 b ob (fun z => by rw [z, mx.enew] at q; cases q) (mx.keep _ _ q), rfl⟩
end
local macro_rules | `(tactic| walk_at "getAttr ref") => `(tactic| k_dflt (refine' get_exc ?_ (exc52 _); k_whole; intro _))
section
section
variable {dp un : Nat} {fr : Option (List Env)} {gd : Option (List Code)} {h : Heap} {g : Array GenState} {d : Drawn} {t : Nat} {o : OsState} {Q E : Value → Shared → Prop}
set_option maxHeartbeats 1000000 in
theorem settled_name_c (W : Wd) {x : Str} {u : Tok} (S : Sub W.H0 h) (r : Rm 7 (Ar dp fr gd un)) (hx : x.length ≤ 900000)
    (k : checkOk (normalN x) = true → ∀ h' t' u, Sub h h' → Q (.str (normalN x) u) ⟨h', g, d, t', o⟩) (kE : checkOk (normalN x) = false → Raises W (Ar dp fr gd un) h E g d o) :
    wpAny (model prg W.w) (Ar dp fr gd un) (call (.ref 304) [.str x u]) Q E ⟨h, g, d, t, o⟩ := by
  have hn := normal_len x
  refine' callDef W [("name", .str x u)] S r ?_
  intro L h₁ F N t₁
  refine wp_absO fun Q1 hQ1 => ?_
  have X := W.X' S
  have T := W.T' S
  k_steps
  · refine hQ1 _ _ ?_
    dsimp only
    exact k (by assumption) _ _ _ (Fr.keep (by assumption))
  have KE := kE (by assumption)
  refine gAbs fun G hG => ?_
  obtain ⟨base, outer, K, ⟨kz, ks⟩, kk⟩ := KE
  refine hG ?_
  clear G hG
  rename Fr _ _ _ _ => F₂
  refine ⟨base, _ :: outer, K.push F₂, fun h₃ e D t₃ wx wu wi wv hDn x₃ d₃ u₃ => ?_⟩
  refine note_x (s := ⟨h₃, g, d, t₃, o⟩) (Around.frames_deeper K.stack) rfl x₃ (.inr rfl) fun h₄ x₄ u₄ => ?_
  refine flight_x (s := ⟨h₄, g, d, t₃, o⟩) x₄ fun h₅ x₅ u₅ => ?_
  have F₅ : Fr base L h₅ _ := ⟨(((Heap.UpToSlots.of_keeps (fun _ _ q => q)).trans u₃).trans (u₄.trans u₅)).ns F₂.ns, x₅.stays, Nat.le_trans kz F₂.above⟩
  refine handle_x (C := 52) (g := g) (d := d) (o := o) ?_
  refine nmK W ?_ F₅ ks
  refine gAbs fun G hG => ?_
  obtain ⟨oe, vs, he, hec, hed, hef, hev⟩ := x₅.obj
  refine hG ?_
  clear G hG
  refine ⟨oe, h₅, t₃, rfl, rfl, xk_of (W.X' (Sub.trans ks x₅.stays)) (exc52 W), he, hec, ?_⟩
  refine flight_x (s := ⟨h₅, g, d, t₃, o⟩) x₅ fun h₆ x₆ u₆ => ?_
  refine wpAny_storeName_local rfl (u₆.ns F₅.ns) (fun h₇ hn₇ hs₇ => ?_) rfl
  refine gAbs fun G hG => ?_
  have hL0 : h.get? L = none := get_none F₂.above
  have hLb : base.get? L = none := get_none (Nat.le_trans kz F₂.above)
  have x₇ := x₆.set (u₆.ns F₅.ns) hn₇ hs₇.2 hLb
  have d₆ := ((d₃.slots u₄).slots u₅).slots u₆
  obtain ⟨od, hD, hD1, hD2, hD3, hD4⟩ := d₆
  obtain ⟨oe, vs, he, hec, hed, hef, hev⟩ := x₇.obj
  have hDL : D ≠ L := fun z => by obtain ⟨ob, hx1, _⟩ := ns_notF F₂.ns; rw [z, hx1] at hDn; cases hDn
  have hD₇ : h₇.get? D = some od := (hs₇.2 D hDL).trans hD
  have F₇ : Fr base L h₇ _ := ⟨hn₇, x₇.stays, Nat.le_trans kz F₂.above⟩
  have N₇ : News base L h₇ [] := News.nil
  have I₇ : InstAt h₇ e oe 52 (some od) := ⟨he, hec, by unfold notCls; rw [hef], by rw [hed]; exact hD₇⟩
  have X₇ := W.X' ks
  have T₇ := W.T' ks
  have U₇ : h.UpToSlots h₇ := upSame ((((((Heap.UpToSlots.of_keeps F₂.keep).trans u₃).trans u₄).trans u₅).trans u₆)) (fun b ob hb q => (hs₇.2 b hb).trans q) hL0
  clear F₂ F₅ X T
  have hLe := F₇.above
  refine hG ?_
  clear G hG
  k_steps
  refine exc_c W (C := 64) (hd' := some (.ref e)) (Sub.trans ks F₇.keep) ⟨by have := r.depth; show dp + 1 + 3 < _; simp only [] at this; omega, by have := r.units; show un + 3 + 8 * 3 < _; simp only [] at this; omega⟩ (exc64 W) (.inl rfl) ?_
  intro h₈ t₈ e2 D2 mx
  refine gAbs fun G hG => ?_
  obtain ⟨t0, he2⟩ := mx.at_
  refine hG ?_
  clear G hG
  have hne : e2 ≠ e := fun z => by rw [← z, mx.enew] at he; cases he
  refine ⟨e2, 64, D2, t0, rfl, he2, xk_of (W.X' ((Sub.trans ks F₇.keep).trans mx.keep)) (exc64 W), ?_⟩
  refine raiseNew_held rfl hne he2 (mx.keep _ _ he) hef hev fun h₉ he9 hk9 => ?_
  have x₉ := x₇.next mx he9 hk9
  have U₉ : h.UpToSlots h₉ := fun b ob q hn => by
    obtain ⟨sl, q7⟩ := U₇ b ob q hn
    exact ⟨sl, hk9 b _ (fun z => by rw [z, mx.enew] at q7; cases q7) (mx.keep _ _ q7)⟩
  have n₉ := hn₇.at' (h' := h₉) fun ob q => hk9 L ob (fun z => by have q' : h₇.get? L = some ob := q; rw [z, mx.enew] at q'; cases q') (mx.keep _ _ q)
  refine note_x (s := ⟨h₉, g, d, t₈, o⟩) (Around.frames_deeper K.stack) rfl x₉ (.inl rfl) fun ha xa ua => ?_
  refine wpAny_nameGoes (s := ⟨ha, g, d, t₈, o⟩) rfl (ua.ns n₉) rfl fun hb mb hnb hsb => ?_
  have xb := xa.set (ua.ns n₉) hnb hsb.2 hLb
  have Ub : h.UpToSlots hb := upSame (U₉.trans ua) (fun b ob hbL q => (hsb.2 b hbL).trans q) hL0
  refine pass_x (s := ⟨hb, g, d, t₈ + 1, o⟩) xb rfl fun hc xc uc => ?_
  refine xc.noted (s := ⟨hc, g, d, t₈ + 1, o⟩) rfl ?_
  refine back_x (s := ⟨hc, g, d, t₈ + 1, o⟩) xc rfl fun hd' xd ud => ?_
  exact leaveHeld_x (s := ⟨hd', g, d, t₈ + 1, o⟩) rfl xd fun he' xe ue => kk he' e2 D2 (.ref e) _ xe (((Ub.trans uc).trans ud).trans ue)
end
end
local macro_rules | `(tactic| walk_at "call ref") => `(tactic| ((with_reducible refine' atRef 304 ?_); (refine settled_name_c _ (by walk_at "s") (by walk_at "room") (by walk_at "ao") (fun hx => ?_) (fun hx => by first | exact Raises.push (by assumption) (by assumption) | (exfalso; exact absurd hx (by simp [*])))); intro h' t' u' hs; walk_at "nt"))
section

end
section
theorem strs_of {prog : Program} {w : World} : ∀ {vs : List Value} {kvs : List (Str × Value)}, vs.length = kvs.length → (∀ (j : Nat) (v : Value), vs[j]? = some v → ∃ k x, kvs[j]? = some (k, x) ∧ (PySem.strKind prog w).is k v = true) → StrsAre vs (kvs.map (·.1))
  | [], [], _, _ => .nil
  | v :: vs, (k, x) :: kvs, hl, h => by
    obtain ⟨k', x', e, hk⟩ := h 0 v rfl
    cases e
    have hv : ∃ t, v = .str k t := by cases v <;> simp [PySem.strKind, Value.isStrOf] at hk; exact ⟨_, by rw [hk]⟩
    obtain ⟨t, rfl⟩ := hv
    exact .cons k t (strs_of (by simpa using hl) fun j u hj => h (j + 1) u (by simpa using hj))
  | [], _ :: _, hl, _ => by cases hl
  | _ :: _, [], hl, _ => by cases hl
section
variable {dp un : Nat} {fr : Option (List Env)} {gd : Option (List Code)} {h : Heap} {g : Array GenState} {d : Drawn} {t : Nat} {o : OsState} {Q E : Value → Shared → Prop}
set_option maxHeartbeats 1000000 in
theorem names_c (W : Wd) {R : StR} (S : Sub W.H0 h) (r : Rm 3 (Ar dp fr gd un)) (hR : StOk W R) (hA : At h (led R))
    (k : ∀ h' t' q vs ss e, Sub h h' → New h h' q (seqObj "list" vs.toArray e) → StrsAre vs ss → ss.Perm (namesOf R) → sortedS ss = true → Q (.ref q) ⟨h', g, d, t', o⟩) :
    wpAny (model prg W.w) (Ar dp fr gd un) (call (.ref 285) [.ref R.st]) Q E ⟨h, g, d, t, o⟩ := by
  obtain ⟨mS, ho, hw, m1, m2, u3, m3⟩ := hR.m
  obtain ⟨a1, a2, a3, a4⟩ := at_st hA
  refine' callDef W [("self", .ref R.st)] S r ?_
  intro L h₁ F N t₁
  refine wp_absQ fun Q1 hQ1 E1 => ?_
  have X := W.X' S
  have T := W.T' S
  k_steps
  all_goals (try (with_reducible refine hQ1 _ _ ?_))
  have hd : h₁.DictOf (PySem.strKind prg W.w) R.dB (R.boxes.map fun b => (b.name, Value.ref b.b)) := Heap.dictOf_iff.mpr ⟨_, F.keep _ _ a3, hR.b⟩
  obtain ⟨ep, hat⟩ := hd.dictAt
  have hlen := hR.few
  refine kdl_N (kdl_dict (knd := PySem.strKind prg W.w) (ep := ep) hR.lo) rfl F N hat (by rw [List.length_map, sizeLine_eq]; omega) ?_
  intro D c h₂ t₂ vs F₂ N₂ l1 hl hv
  have hS := strs_of hl hv
  rw [List.map_map] at hS
  k_steps
  all_goals (try (with_reducible refine hQ1 _ _ ?_))
  refine sorted_N_str F₂ N₂ (News.isList N₂ (.head _)) hS (by rw [hl, List.length_map]; omega) ?_
  intro h₃ vs' ss' e F₃ N₃ a b c'
  try (with_reducible refine hQ1 _ _ ?_)
  exact k _ _ _ vs' ss' e F₃.keep (newOf N₃ (.head _)) a b c'
end
end
local macro_rules | `(tactic| walk_at "call ref") => `(tactic| ((with_reducible refine' atRef 285 ?_); (refine names_c _ (by walk_at "s") (by walk_at "room") (by assumption) (by walk_at "at") ?_); intro h' t' q vs ss e hs hn hS hp hso; walk_at "nn"))
section
section
variable {dp un : Nat} {fr : Option (List Env)} {gd : Option (List Code)} {h : Heap} {g : Array GenState} {d : Drawn} {t : Nat} {o : OsState} {Q E : Value → Shared → Prop}
end

end
section
/-! what is told, as plain data; equal data compare equal -/
inductive Told where
  | int (i : Int)
  | str (x : Str)
  | bytes (b : Array UInt8)
  | tup (l : List Told)
  | lst (l : List Told)
mutual
noncomputable def Tv (h : Heap) : Told → Value → Prop
  | .int i, v => ∃ u, v = .int i u
  | .str x, v => ∃ u, v = .str x u
  | .bytes b, v => ∃ u, v = .bytes b u
  | .tup l, v => ∃ a vs, v = .ref a ∧ h.IsTuple a vs.toArray ∧ TvL h l vs
  | .lst l, v => ∃ a vs, v = .ref a ∧ h.IsList a vs.toArray ∧ TvL h l vs
noncomputable def TvL (h : Heap) : List Told → List Value → Prop
  | [], vs => vs = []
  | t :: ts, vs => ∃ v vs', vs = v :: vs' ∧ Tv h t v ∧ TvL h ts vs'
end
mutual
noncomputable def Told.deep : Told → Nat
  | .int _ | .str _ | .bytes _ => 0
  | .tup l => deepL l + 1
  | .lst l => deepL l + 1
noncomputable def deepL : List Told → Nat
  | [] => 0
  | t :: ts => max (Told.deep t) (deepL ts)
end
mutual
theorem Tv.keeps {h h' : Heap} (s : Sub h h') : ∀ {t : Told} {v : Value}, Tv h t v → Tv h' t v
  | .int _, _, x => by simpa [Tv] using x
  | .str _, _, x => by simpa [Tv] using x
  | .bytes _, _, x => by simpa [Tv] using x
  | .tup l, v, x => by
    simp only [Tv] at x ⊢
    obtain ⟨a, vs, rfl, ⟨o, ho, r⟩, hl⟩ := x
    exact ⟨a, vs, rfl, ⟨o, s _ _ ho, r⟩, TvL.keeps s hl⟩
  | .lst l, v, x => by
    simp only [Tv] at x ⊢
    obtain ⟨a, vs, rfl, ⟨o, ho, r⟩, hl⟩ := x
    exact ⟨a, vs, rfl, ⟨o, s _ _ ho, r⟩, TvL.keeps s hl⟩
theorem TvL.keeps {h h' : Heap} (s : Sub h h') : ∀ {l : List Told} {vs : List Value}, TvL h l vs → TvL h' l vs
  | [], _, x => by simpa [TvL] using x
  | t :: ts, _, x => by
    simp only [TvL] at x ⊢
    obtain ⟨v, vs', rfl, h1, h2⟩ := x
    exact ⟨v, vs', rfl, Tv.keeps s h1, TvL.keeps s h2⟩
end
theorem TvL.length {h : Heap} : ∀ {l : List Told} {vs : List Value}, TvL h l vs → vs.length = l.length
  | [], _, x => by simp only [TvL] at x; subst x; rfl
  | t :: ts, _, x => by
    simp only [TvL] at x
    obtain ⟨v, vs', rfl, h1, h2⟩ := x
    simp [TvL.length h2]
theorem order_self : ∀ l : List UInt8, Builtin.Bytes.order l l = .eq
  | [] => rfl
  | x :: xs => by
    unfold Builtin.Bytes.order
    rw [if_neg (by exact UInt8.lt_irrefl x), if_neg (by exact UInt8.lt_irrefl x)]
    exact order_self xs
theorem slot_bytes_eq : Slot "bytes" (cmpInfo .Eq).2.1 "bytes.__eq__" :=
  .of (owner := "bytes") (n := "__eq__") (by rw [typeLookup_type, builtinLookup_eq_fast]; kernel_rfl) (by decide +kernel) (by decide +kernel) (by decide +kernel)
    (by first | exact .inl (by decide +kernel) | exact .inr (by decide +kernel)) (by rw [isSubtype_type]; kernel_rfl)
theorem entry_bytes_eq : entryFor table "bytes.__eq__" = some Builtin.«bytes.__eq__» := entryFor_of_tree (by kernel_rfl)
theorem args_bytes_eq (a b : Value) : argsOk "bytes.__eq__" ⟨[a, b], []⟩ := by unfold argsOk; kernel_rfl
theorem gives_bytes_eq (b : Array UInt8) (t u : Tok) : Gives (Builtin.«bytes.__eq__» ⟨[.bytes b t, .bytes b u], []⟩) (.val (.bool true)) := by
  refine .of_wp fun M A E s Q hq => ?_
  unfold Builtin.«bytes.__eq__»
  refine wpAny_bind (wpAny_of_eq (a := (Value.bytes b t, [Value.bytes b u])) (by rfl) ?_)
  have e : isInstance (.bytes b u) (.type "bytes") = pure true := by unfold isInstance; kernel_rfl
  refine wpAny_bind (wpAny_of_eq e ?_)
  refine wpAny_bind (wpAny_of_eq (a := b) (by rfl) ?_)
  refine wpAny_bind (wpAny_of_eq (a := b) (by rfl) ?_)
  refine wpAny_pure ⟨_, rfl, ?_⟩
  unfold Builtin.Bytes.holds
  rw [order_self]
  exact hq
open SeqAt in
theorem eq_bytes {A : Around} {s : Shared} (b : Array UInt8) (t u : Tok) : EqAt A s (.bytes b t) (.bytes b u) true := fun prog w E Q h => by
  unfold eqBool
  refine wpAny_holding ?_
  refine wpAny_ite_split (fun hab => ?_) (fun _ => ?_)
  · exact wpAny_bind (wpAny_rule (wpAny_pure h))
  · exact wpAny_bind (richCompare_gives (op := .Eq) (T := "bytes") (typeIs_bytes s b t) (typeIs_bytes s b u) slot_bytes_eq entry_bytes_eq (args_bytes_eq _ _) (gives_bytes_eq b t u) (fun x => nomatch x) (wpAny_truthy_bool h))
theorem all_true (n : Nat) : ((List.range n).all fun _ => true) = true := by simp
open SeqAt in
mutual
theorem tv_eq {s : Shared} : ∀ {t : Told} {A : Around} {v v' : Value}, Tv s.heap t v → Tv s.heap t v' → A.units + t.deep < cLine → EqAt A s v v' true
  | .int i, _, _, _, x, y, _ => by
    simp only [Tv] at x y
    obtain ⟨u, rfl⟩ := x
    obtain ⟨u', rfl⟩ := y
    have := EqAt.int_int (A := ‹_›) (s := s) i u i u'
    rwa [beq_self_eq_true] at this
  | .str i, _, _, _, x, y, _ => by
    simp only [Tv] at x y
    obtain ⟨u, rfl⟩ := x
    obtain ⟨u', rfl⟩ := y
    have := EqAt.str_str (A := ‹_›) (s := s) i u i u'
    rwa [beq_self_eq_true] at this
  | .bytes i, _, _, _, x, y, _ => by
    simp only [Tv] at x y
    obtain ⟨u, rfl⟩ := x
    obtain ⟨u', rfl⟩ := y
    exact eq_bytes i u u'
  | .tup l, A, _, _, x, y, hu => by
    simp only [Tv] at x y
    obtain ⟨a, vs, rfl, ha, hl⟩ := x
    obtain ⟨b, vs', rfl, hb, hl'⟩ := y
    by_cases hab : a = b
    · subst hab; exact EqAt.same _
    · have n1 := hl.length
      have n2 := hl'.length
      have hd : Told.deep (.tup l) = deepL l + 1 := by simp [Told.deep]
      have hi : A.in1.units = A.units + 1 := rfl
      have := RcAt.tuples (A := A) (e := fun _ => true) ha hb (by omega) (fun j h1 h2 => tvl_eq hl hl' (by omega) j _ _ (by simp at h1; simp [h1]) (by simp at h2; simp [h2]))
      rw [all_true, List.size_toArray, List.size_toArray, n1, n2] at this
      exact EqAt.of_refs hab (by simpa using this)
  | .lst l, A, _, _, x, y, hu => by
    simp only [Tv] at x y
    obtain ⟨a, vs, rfl, ha, hl⟩ := x
    obtain ⟨b, vs', rfl, hb, hl'⟩ := y
    by_cases hab : a = b
    · subst hab; exact EqAt.same _
    · have n1 := hl.length
      have n2 := hl'.length
      have hd : Told.deep (.lst l) = deepL l + 1 := by simp [Told.deep]
      have hi : A.in1.units = A.units + 1 := rfl
      have := RcAt.lists (A := A) (e := fun _ => true) ha hb (by simp [n1, n2]) (by omega) (fun j h1 h2 => tvl_eq hl hl' (by omega) j _ _ (by simp at h1; simp [h1]) (by simp at h2; simp [h2]))
      rw [all_true] at this
      exact EqAt.of_refs hab this
theorem tvl_eq {s : Shared} : ∀ {l : List Told} {A : Around} {vs vs' : List Value}, TvL s.heap l vs → TvL s.heap l vs' → A.units + deepL l < cLine → ∀ (j : Nat) (v v' : Value), vs[j]? = some v → vs'[j]? = some v' → EqAt A s v v' true
  | [], _, _, _, x, _, _, j, v, v', h1, _ => by simp only [TvL] at x; subst x; simp at h1
  | t :: ts, A, _, _, x, y, hu, j, v, v', h1, h2 => by
    simp only [TvL] at x y
    obtain ⟨w1, ws1, rfl, a1, a2⟩ := x
    obtain ⟨w2, ws2, rfl, b1, b2⟩ := y
    have hd : deepL (t :: ts) = max t.deep (deepL ts) := by simp [deepL]
    cases j with
    | zero =>
      simp at h1 h2; subst h1; subst h2
      exact tv_eq a1 b1 (by omega)
    | succ j => exact tvl_eq a2 b2 (by omega) j v v' (by simpa using h1) (by simpa using h2)
end
open SeqAt in
theorem ne_tup {prog : Program} {w : World} {A : Around} {E : Value → Shared → Prop} {s : Shared} {l : List Told} {v v' : Value} {Q : Value → Shared → Prop} (x : Tv s.heap (.tup l) v) (y : Tv s.heap (.tup l) v') (hu : A.units + deepL l + 1 < cLine) (h : Q (.bool false) s) :
    wpAny (model prog w) A (compareOp .NotEq v v') Q E s := by
  simp only [Tv] at x y
  obtain ⟨a, vs, rfl, ha, hl⟩ := x
  obtain ⟨b, vs', rfl, hb, hl'⟩ := y
  have n1 := hl.length
  have n2 := hl'.length
  have hi : A.in1.units = A.units + 1 := rfl
  have := RcNeAt.tuples (A := A) (e := fun _ => true) ha hb (by omega) (fun j h1 h2 => tvl_eq hl hl' (by omega) j _ _ (by simp at h1; simp [h1]) (by simp at h2; simp [h2]))
  rw [all_true, List.size_toArray, List.size_toArray, n1, n2] at this
  exact this prog w E Q (by simpa using h)
open SeqAt in
theorem ne_lst {prog : Program} {w : World} {A : Around} {E : Value → Shared → Prop} {s : Shared} {l : List Told} {v v' : Value} {Q : Value → Shared → Prop} (x : Tv s.heap (.lst l) v) (y : Tv s.heap (.lst l) v') (hu : A.units + deepL l + 1 < cLine) (h : Q (.bool false) s) :
    wpAny (model prog w) A (compareOp .NotEq v v') Q E s := by
  simp only [Tv] at x y
  obtain ⟨a, vs, rfl, ha, hl⟩ := x
  obtain ⟨b, vs', rfl, hb, hl'⟩ := y
  have n1 := hl.length
  have n2 := hl'.length
  have hi : A.in1.units = A.units + 1 := rfl
  have := RcNeAt.lists (A := A) (e := fun _ => true) ha hb (by simp [n1, n2]) (by omega) (fun j h1 h2 => tvl_eq hl hl' (by omega) j _ _ (by simp at h1; simp [h1]) (by simp at h2; simp [h2]))
  rw [all_true] at this
  exact this prog w E Q h
theorem ne_none {prog : Program} {w : World} {A : Around} {E : Value → Shared → Prop} {s : Shared} {Q : Value → Shared → Prop} (h : Q (.bool false) s) : wpAny (model prog w) A (compareOp .NotEq .none .none) Q E s :=
  SeqAt.RcNeAt.none_none prog w E Q h
mutual
noncomputable def Told.noLst : Told → Bool
  | .int _ | .str _ | .bytes _ => true
  | .tup l => noLstL l
  | .lst _ => false
noncomputable def noLstL : List Told → Bool
  | [] => true
  | t :: ts => Told.noLst t && noLstL ts
end
mutual
theorem Tv.tups {h h' : Heap} (s : ∀ b ob, h.get? b = some ob → isTup ob → h'.get? b = some ob) : ∀ {t : Told} {v : Value}, t.noLst = true → Tv h t v → Tv h' t v
  | .int _, _, _, x => by simpa [Tv] using x
  | .str _, _, _, x => by simpa [Tv] using x
  | .bytes _, _, _, x => by simpa [Tv] using x
  | .tup l, v, hn, x => by
    simp only [Tv] at x ⊢
    obtain ⟨a, vs, rfl, ⟨o, ho, r⟩, hl⟩ := x
    exact ⟨a, vs, rfl, ⟨o, s _ _ ho ⟨r.1, _, r.2⟩, r⟩, TvL.tups s (by simpa [Told.noLst] using hn) hl⟩
  | .lst l, v, hn, x => by simp [Told.noLst] at hn
theorem TvL.tups {h h' : Heap} (s : ∀ b ob, h.get? b = some ob → isTup ob → h'.get? b = some ob) : ∀ {l : List Told} {vs : List Value}, noLstL l = true → TvL h l vs → TvL h' l vs
  | [], _, _, x => by simpa [TvL] using x
  | t :: ts, _, hn, x => by
    simp only [TvL] at x ⊢
    obtain ⟨v, vs', rfl, h1, h2⟩ := x
    simp only [noLstL, Bool.and_eq_true] at hn
    exact ⟨v, vs', rfl, Tv.tups s hn.1 h1, TvL.tups s hn.2 h2⟩
end
theorem noLst_all : ∀ {l : List Told}, (∀ t ∈ l, t.noLst = true) → noLstL l = true
  | [], _ => rfl
  | t :: ts, h => by simp only [noLstL, Bool.and_eq_true]; exact ⟨h t (.head _), noLst_all fun x hx => h x (.tail _ hx)⟩
theorem iter_notTup {h : Heap} {I l : Addr} {i : Nat} {vs : Array Value} (st : h.IsListIter I l i ∧ h.IsList l vs) {b : Addr} (hb : b ∈ [I]) {ob : Obj} (e : h.get? b = some ob) : ¬ isTup ob := fun z => by
  obtain ⟨⟨o, ho, hc, _⟩, _⟩ := st
  rw [List.mem_singleton.mp hb, ho] at e
  cases e
  have z1 := z.1
  rw [hc] at z1
  injection z1 with z1
  exact absurd z1 (by decide)
mutual
theorem tv_led {h₀ h' : Heap} (s : Sub h₀ h') : ∀ {t : Told} {v : Value}, t.noLst = true → Tv h' t v → ∃ N : List (Addr × Obj), (∀ p ∈ N, h'.get? p.1 = some p.2 ∧ isTup p.2 ∧ h₀.get? p.1 = none) ∧ ∀ h'', Sub h₀ h'' → (∀ p ∈ N, h''.get? p.1 = some p.2) → Tv h'' t v
  | .int _, _, _, x => ⟨[], by simp, fun _ _ _ => by simpa [Tv] using x⟩
  | .str _, _, _, x => ⟨[], by simp, fun _ _ _ => by simpa [Tv] using x⟩
  | .bytes _, _, _, x => ⟨[], by simp, fun _ _ _ => by simpa [Tv] using x⟩
  | .tup l, v, hn, x => by
    simp only [Tv] at x
    obtain ⟨a, vs, rfl, ⟨o, ho, r⟩, hl⟩ := x
    obtain ⟨N, n1, n2⟩ := tvl_led s (by simpa [Told.noLst] using hn) hl
    cases q : h₀.get? a with
    | some o₀ =>
      obtain rfl : o₀ = o := by have := s _ _ q; rw [ho] at this; exact (Option.some.inj this).symm
      exact ⟨N, n1, fun h'' k1 k2 => by simp only [Tv]; exact ⟨a, vs, rfl, ⟨_, k1 _ _ q, r⟩, n2 h'' k1 k2⟩⟩
    | none =>
      refine ⟨(a, o) :: N, fun p hp => ?_, fun h'' k1 k2 => by simp only [Tv]; exact ⟨a, vs, rfl, ⟨_, k2 _ (.head _), r⟩, n2 h'' k1 fun p hp => k2 p (.tail _ hp)⟩⟩
      rcases List.mem_cons.mp hp with rfl | hp
      · exact ⟨ho, ⟨r.1, _, r.2⟩, q⟩
      · exact n1 p hp
  | .lst l, v, hn, x => by simp [Told.noLst] at hn
theorem tvl_led {h₀ h' : Heap} (s : Sub h₀ h') : ∀ {l : List Told} {vs : List Value}, noLstL l = true → TvL h' l vs → ∃ N : List (Addr × Obj), (∀ p ∈ N, h'.get? p.1 = some p.2 ∧ isTup p.2 ∧ h₀.get? p.1 = none) ∧ ∀ h'', Sub h₀ h'' → (∀ p ∈ N, h''.get? p.1 = some p.2) → TvL h'' l vs
  | [], _, _, x => ⟨[], by simp, fun _ _ _ => by simpa [TvL] using x⟩
  | t :: ts, _, hn, x => by
    simp only [TvL] at x
    obtain ⟨v, vs', rfl, h1, h2⟩ := x
    simp only [noLstL, Bool.and_eq_true] at hn
    obtain ⟨N1, a1, a2⟩ := tv_led s hn.1 h1
    obtain ⟨N2, b1, b2⟩ := tvl_led s hn.2 h2
    refine ⟨N1 ++ N2, fun p hp => (List.mem_append.mp hp).elim (a1 p) (b1 p), fun h'' k1 k2 => ?_⟩
    simp only [TvL]
    exact ⟨v, vs', rfl, a2 h'' k1 fun p hp => k2 p (List.mem_append_left _ hp), b2 h'' k1 fun p hp => k2 p (List.mem_append_right _ hp)⟩
end
theorem led_news {h₀ h' : Heap} {L : Addr} {m : Str → Option Value} {N : List (Addr × Obj)} (F : Fr h₀ L h' m) (n : ∀ p ∈ N, h'.get? p.1 = some p.2 ∧ isTup p.2 ∧ h₀.get? p.1 = none) : News h₀ L h' N := fun p hp => by
  obtain ⟨a, b, c⟩ := n p hp
  refine ⟨a, fun q => ?_, c⟩
  obtain ⟨oL, _, _, ho, hd, _⟩ := F.ns
  rw [q, ho] at a
  obtain ⟨_, _, _, z⟩ := b
  cases a
  rw [hd] at z; cases z

end
section
noncomputable def toldLet (x : LetR) : Told := .tup [.int x.uid, .bytes x.oct, .tup [], .int x.ins, .int x.mod]
noncomputable def toldBox (b : BoxR) : Told := .tup [.str b.name, .int b.val, .int b.next, .int b.top, .int 0, .tup (b.lets.map toldLet), .tup []]
theorem told_tup {h : Heap} {q : Addr} {l : List Told} {vs : List Value} {n : Nat} {dd : Option Addr} {sl : Array (Option Value)} (e : h.get? q = some ⟨.type "tuple", dd, .seq vs.toArray n, sl⟩) (x : TvL h l vs) : Tv h (.tup l) (.ref q) := by
  simp only [Tv]
  exact ⟨q, vs, rfl, ⟨_, e, rfl, n, rfl⟩, x⟩
theorem tvl_nil {h : Heap} : TvL h [] [] := by simp [TvL]
theorem tvl_cons {h : Heap} {t : Told} {v : Value} {ts : List Told} {vs : List Value} (a : Tv h t v) (b : TvL h ts vs) : TvL h (t :: ts) (v :: vs) := by simp only [TvL]; exact ⟨v, vs, rfl, a, b⟩
theorem tvl_snoc {h : Heap} : ∀ {ts : List Told} {vs : List Value} {t : Told} {v : Value}, TvL h ts vs → Tv h t v → TvL h (ts ++ [t]) (vs ++ [v])
  | [], vs, t, v, a, b => by simp only [TvL] at a; subst a; exact tvl_cons b tvl_nil
  | t' :: ts, vs, t, v, a, b => by
    simp only [TvL] at a
    obtain ⟨v', vs', rfl, a1, a2⟩ := a
    exact tvl_cons a1 (tvl_snoc a2 b)
theorem tv_int {h : Heap} (i : Int) (u : Tok) : Tv h (.int i) (.int i u) := by simp only [Tv]; exact ⟨u, rfl⟩
theorem tv_str {h : Heap} (i : Str) (u : Tok) : Tv h (.str i) (.str i u) := by simp only [Tv]; exact ⟨u, rfl⟩
theorem tv_bytes {h : Heap} (i : Array UInt8) (u : Tok) : Tv h (.bytes i) (.bytes i u) := by simp only [Tv]; exact ⟨u, rfl⟩
theorem noLst_let (x : LetR) : (toldLet x).noLst = true := rfl
theorem noLst_lets (l : List LetR) : noLstL (l.map toldLet) = true := noLst_all fun t ht => by obtain ⟨x, _, rfl⟩ := List.mem_map.mp ht; rfl
theorem noLst_box (b : BoxR) : (toldBox b).noLst = true := by
  have := noLst_lets b.lets
  simp [toldBox, Told.noLst, noLstL, this]
theorem map_get {α : Type} {l : List α} {f : α → Value} {i : Nat} {v : Value} (h : (l.map f)[i]? = some v) : ∃ x, x ∈ l ∧ l[i]? = some x ∧ v = f x := by
  rw [List.getElem?_map, Option.map_eq_some_iff] at h
  obtain ⟨x, hx, rfl⟩ := h
  exact ⟨x, List.mem_of_getElem? hx, hx, rfl⟩
theorem take_map {α β : Type} {l : List α} {f : α → β} {i : Nat} {x : α} (h : l[i]? = some x) : (l.take (i + 1)).map f = (l.take i).map f ++ [f x] := by
  rw [List.take_add_one, h]; simp
section
variable {dp un : Nat} {fr : Option (List Env)} {gd : Option (List Code)} {h : Heap} {g : Array GenState} {d : Drawn} {t : Nat} {o : OsState} {Q E : Value → Shared → Prop}
set_option maxHeartbeats 1000000 in
theorem letter_told_c (W : Wd) {R : StR} {b : BoxR} {x : LetR} (S : Sub W.H0 h) (r : Rm 2 (Ar dp fr gd un)) (hR : StOk W R) (hA : At h (led R)) (hb : b ∈ R.boxes) (hx : x ∈ b.lets)
    (k : ∀ h' t' v, Sub h h' → Tv h' (toldLet x) v → Q v ⟨h', g, d, t', o⟩) :
    wpAny (model prg W.w) (Ar dp fr gd un) (call (.ref 122) [.ref x.a]) Q E ⟨h, g, d, t, o⟩ := by
  obtain ⟨⟨m, ho, hw, ⟨u1, m1⟩, ⟨u2, m2⟩, m3, ⟨u4, m4⟩, ⟨u5, m5⟩⟩, hfl⟩ := (hR.boxes b hb).lets x hx
  obtain ⟨a1, a2, a3⟩ := at_let hA hb hx
  refine' callDef W [("self", .ref x.a)] S r ?_
  intro L h₁ F N t₁
  refine wp_absQ fun Q1 hQ1 E1 => ?_
  have X := W.X' S
  have T := W.T' S
  k_steps
  all_goals (try (with_reducible refine hQ1 _ _ ?_))
  rename Fr _ _ _ _ => F₂
  try (with_reducible refine hQ1 _ _ ?_)
  refine k _ _ _ F₂.keep (told_tup (News.get (by assumption) (.head _)) ?_)
  exact tvl_cons (tv_int _ _) (tvl_cons (tv_bytes _ _) (tvl_cons (told_tup (vs := []) ((F₂.keep _ _ a3).trans (by rw [hfl])) tvl_nil) (tvl_cons (tv_int _ _) (tvl_cons (tv_int _ _) tvl_nil))))
end
end
local macro_rules | `(tactic| walk_at "call ref") => `(tactic| ((with_reducible refine' atRef 122 ?_); (refine letter_told_c _ (by walk_at "s") (by walk_at "room") (by assumption) (by walk_at "at") (by assumption) (by assumption) ?_); intro h' t' v hs hv; walk_at "nt"))
section
section
variable {dp un : Nat} {fr : Option (List Env)} {gd : Option (List Code)} {h : Heap} {g : Array GenState} {d : Drawn} {t : Nat} {o : OsState} {Q E : Value → Shared → Prop}
set_option maxHeartbeats 1000000 in
theorem box_told_c (W : Wd) {R : StR} {b : BoxR} (S : Sub W.H0 h) (r : Rm 4 (Ar dp fr gd un)) (hR : StOk W R) (hA : At h (led R)) (hb : b ∈ R.boxes)
    (k : ∀ h' t' v, Sub h h' → Tv h' (toldBox b) v → Q v ⟨h', g, d, t', o⟩) :
    wpAny (model prg W.w) (Ar dp fr gd un) (call (.ref 160) [.ref b.b]) Q E ⟨h, g, d, t, o⟩ := by
  obtain ⟨m, ho, hw, ⟨u1, m1⟩, ⟨u2, m2⟩, ⟨u3, m3⟩, ⟨u4, m4⟩, ⟨u5, m5⟩, m6, m7⟩ := (hR.boxes b hb).m
  obtain ⟨a1, a2, a3, a4⟩ := at_box hA hb
  refine' callDef W [("self", .ref b.b)] S r ?_
  intro L h₁ F N t₁
  refine wp_absQ fun Q1 hQ1 E1 => ?_
  have X := W.X' S
  have T := W.T' S
  k_steps
  all_goals (try (with_reducible refine hQ1 _ _ ?_))
  refine iter_list ((hR.boxes b hb).l.isList (F.keep _ _ a3)) rfl ?_
  intro I h₂ hI1 hI2 hs2 hfp hW hst
  have hlen : (b.lets.map fun x => Value.ref x.a).length ≤ sizeLine := by have := (hR.boxes b hb).few; rw [List.length_map, sizeLine_eq]; omega
  have hle := subLe hs2 hI1 (hfp I (.head _))
  have hI3 := noneSub F.keep hI2
  have hle1 : h.objs.size ≤ h₁.objs.size := Nat.le_trans F.above (Nat.le_of_lt F.ns.lt)
  refine ⟨I, _, _, _, _, _, h₂, _, _, _, _, rfl, rfl, hW, hlen, hst, hfp, isTup, fun _ z => z, fun _ _ st _ hb _ e => iter_notTup st hb e, fun C D i ys h' => Sub h₁ h' ∧ TvL h' ((b.lets.take i).map toldLet) ys, CompInv.toN ⟨?_, ?_, ?_⟩, ?_⟩
  · exact fun C D h' _ _ hs => ⟨Sub.trans hs2 hs, by simpa using tvl_nil⟩
  · intro C D i ys h₃ h' hC hD hJ hk
    exact ⟨compStable hJ.1 (Nat.le_trans hle hC) (Nat.le_trans hle hD) hI2 hk, TvL.tups (fun b ob e z => hk b ob e (.inr z)) (noLst_lets _) hJ.2⟩
  · rintro C D i v ys h₃ t₃ m E' hC hD hCD hi hv hys ⟨hs3, htv⟩ hn hm
    refine tests0 ?_
    rw [if_pos rfl]
    obtain ⟨x, hx, hxi, rfl⟩ := map_get hv
    obtain ⟨⟨mL, hoL, hwL, -⟩, -⟩ := (hR.boxes b hb).lets x hx
    obtain ⟨b1, b2, b3⟩ := at_let hA hb hx
    have F' : Fr h C h₃ m := ⟨hn, Sub.trans F.keep hs3, Nat.le_trans hle1 (Nat.le_trans hle hC)⟩
    have N' : News h C h₃ [] := News.nil
    clear F N
    k_steps
    all_goals (try (with_reducible refine hQ1 _ _ ?_))
    · exact Sub.trans hs3 (by assumption)
    · rw [take_map hxi]; exact tvl_snoc (TvL.keeps (by assumption) htv) (by assumption)
    · rename Sub h₃ _ => hz
      exact hz _ _ (by assumption)
  · intro C D ys h' t' hC hD hl hys hJ
    have F' : Fr h L h' _ := frSub hJ.1 F
    obtain ⟨hJ1, hJ2⟩ := hJ
    rw [List.take_of_length_le (by rw [List.length_map]; exact Nat.le_refl _)] at hJ2
    obtain ⟨NT, n1, n2⟩ := tvl_led F'.keep (noLst_lets _) hJ2
    have N' : News h L h' NT := led_news F' n1
    clear F N
    have hg := (hR.boxes b hb).g
    k_steps
    all_goals (try (with_reducible refine hQ1 _ _ ?_))
    rename Fr _ _ _ _ => Fz
    rename News _ _ _ _ => Nz
    have hz := n2 _ Fz.keep (fun p hp => (Nz p (by simp [hp])).1)
    try (with_reducible refine hQ1 _ _ ?_)
    refine k _ _ _ Fz.keep (told_tup (Nz.get (.head _)) ?_)
    exact tvl_cons (tv_str _ _) (tvl_cons (tv_int _ _) (tvl_cons (tv_int _ _) (tvl_cons (tv_int _ _) (tvl_cons (tv_int _ _) (tvl_cons (told_tup (Nz.get (.tail _ (.tail _ (.head _)))) hz) (tvl_cons (told_tup (vs := []) (Nz.get (.tail _ (.head _))) tvl_nil) tvl_nil))))))
end
end
local macro_rules | `(tactic| walk_at "call ref") => `(tactic| ((with_reducible refine' atRef 160 ?_); (refine box_told_c _ (by walk_at "s") (by walk_at "room") (by assumption) (by walk_at "at") (by assumption) ?_); intro h' t' v hs hv; walk_at "nt"))
section
section
variable {dp un : Nat} {fr : Option (List Env)} {gd : Option (List Code)} {h : Heap} {g : Array GenState} {d : Drawn} {t : Nat} {o : OsState} {Q E : Value → Shared → Prop}
end

end
section
section
variable {w : World} {A : Around} {R : Result → Shared → Prop} {h : Heap} {g : Array GenState} {d : Drawn} {t : Nat} {o : OsState}
/-- a call of a def of the text with cells -/
theorem codeDefC (W : Wd) {n : Nat} {name qual : Str} {params : Arguments} {body : List Stmt} {scope : Scope} {dV kV doc pm cdv ct oc : Value} {an od : Option Addr} {osl : Array (Option Value)} {f : Addr} {args : List Value} (binds : List (Str × Value))
    (S : Sub W.H0 h) (r : Rm n A)
    (body_ : ∀ (L : Addr) (h₁ : Heap) cells, Fr h L h₁ (bindL (envOfC qual scope L f cdv).kindOf binds fun _ => none) → News h L h₁ cells → CellsAre (bindC (envOfC qual scope L f cdv).kindOf binds fun _ => none) (cellsFrom (L + 1) scope.names []) cells → ∀ t',
      wpAny (model prg W.w) (A.deeper (envOfC qual scope L f cdv)) (execs body (envOfC qual scope L f cdv))
        (fun fl s' => R (.ok (.ret (match fl with | .ret v => v | _ => .none))) s')
        (fun e s' => wpAny (model prg W.w) (A.deeper (envOfC qual scope L f cdv)) (leaving (envOfC qual scope L f cdv) e) (fun _ s'' => R (.error e) s'') (fun e' s'' => R (.error e') s'') s')
        ⟨h₁, g, d, t', o⟩)
    (ho : FnAt W.w f name qual params body scope dV kV doc pm an cdv ct oc od osl := by walk_at "hoK") (hcd : codeIn (K39 W.w.params) cdv qual = true := by k_is)
    (hbind : BindsTo ⟨h, g, d, t, o⟩ (fnOf name qual params body scope dV kV doc pm an cdv ct) ⟨args, []⟩ binds := by exact BindsTo.of_eq rfl) (hkind : (binds.all fun y => scope.names.lookup y.1 == some .local || scope.names.lookup y.1 == some .cell) = true := by rfl)
    (hnd : ((cellsFrom 0 scope.names []).map (·.1)).Nodup := by exact of_decide_eq_true (by rfl)) (hco : scope.isCoroutine = false := by rfl) (hgen : scope.isGenerator = false := by rfl) (hk : scope.kind = .function := by rfl) :
    codeAny (model prg W.w) A (.call (.ref f) ⟨args, []⟩) R ⟨h, g, d, t, o⟩ := by
  refine codeAny_call_function (fd := fnOf name qual params body scope dV kV doc pm an cdv ct) r.room (S _ _ (W.X _ _ ho.look)) rfl hco hgen rfl (codeRec_of (W.X.keeps S) hcd) (hbind _ _ _ _ ?_)
  refine wpAny_newFunctionEnv_cells hk (kindsX hkind _) fun env' he s' x => ?_
  subst he
  refine ⟨(W.T.nolimit.keeps S).keeps x.toInCall.keep, codeAny_func ?_⟩
  obtain ⟨h₁, tk, rfl, _⟩ := x.done
  obtain ⟨cells, NC, Y⟩ := Cl.news (h₀ := h) (Nat.le_refl _) fun n c hm => ⟨x.cell n c (lookup_of_mem_nodup (cellsFrom_names scope.names 0 (h.objs.size + 1) [] [] rfl ▸ hnd) hm), x.above n c hm⟩
  exact body_ h.objs.size h₁ cells ⟨x.toInCall.ns, x.toInCall.keep, Nat.le_refl _⟩ NC Y tk
theorem callDefC (W : Wd) {n : Nat} {name qual : Str} {params : Arguments} {body : List Stmt} {scope : Scope} {dV kV doc pm cdv ct oc : Value} {an od : Option Addr} {osl : Array (Option Value)} {f : Addr} {args : List Value} (binds : List (Str × Value))
    {Q E : Value → Shared → Prop}
    (S : Sub W.H0 h) (r : Rm n A)
    (body_ : ∀ (L : Addr) (h₁ : Heap) cells, Fr h L h₁ (bindL (envOfC qual scope L f cdv).kindOf binds fun _ => none) → News h L h₁ cells → CellsAre (bindC (envOfC qual scope L f cdv).kindOf binds fun _ => none) (cellsFrom (L + 1) scope.names []) cells → ∀ t',
      wpAny (model prg W.w) (A.deeper (envOfC qual scope L f cdv)) (execs body (envOfC qual scope L f cdv))
        (fun fl s' => Q (match fl with | .ret v => v | _ => .none) s')
        (fun e s' => wpAny (model prg W.w) (A.deeper (envOfC qual scope L f cdv)) (leaving (envOfC qual scope L f cdv) e) (fun _ s'' => E e s'') (fun e' s'' => E e' s'') s')
        ⟨h₁, g, d, t', o⟩)
    (ho : FnAt W.w f name qual params body scope dV kV doc pm an cdv ct oc od osl := by walk_at "hoK") (hcd : codeIn (K39 W.w.params) cdv qual = true := by k_is)
    (hbind : BindsTo ⟨h, g, d, t, o⟩ (fnOf name qual params body scope dV kV doc pm an cdv ct) ⟨args, []⟩ binds := by exact BindsTo.of_eq rfl) (hkind : (binds.all fun y => scope.names.lookup y.1 == some .local || scope.names.lookup y.1 == some .cell) = true := by rfl)
    (hnd : ((cellsFrom 0 scope.names []).map (·.1)).Nodup := by exact of_decide_eq_true (by rfl)) (hco : scope.isCoroutine = false := by rfl) (hgen : scope.isGenerator = false := by rfl) (hk : scope.kind = .function := by rfl) :
    wpAny (model prg W.w) A (call (.ref f) args) Q E ⟨h, g, d, t, o⟩ :=
  wpAny_call (codeDefC W binds S r body_ ho hcd hbind hkind hnd hco hgen hk)
end
section
variable {M : Model} {A : Around} {E : Value → Shared → Prop} {s : Shared} {h₀ : Heap} {L : Addr} {env : Env} {x : Str} {pos : Pos} {v : Value} {Q : Value → Shared → Prop}
theorem nmCN {c : Addr} {ob : Obj} {news : List (Addr × Obj)} (k : Q v s) (N : News h₀ L s.heap news := by assumption) (hc : env.cells.lookup x = some c := by rfl)
    (hk : env.scope.kind = .function := by rfl) (hx : env.kindOf x = some .cell := by rfl) (hm : (c, ob) ∈ news := by k_mem) (hv : ob.data = .cell (some v) := by assumption) (hd : (x == ("__debug__" : Str)) = false := by decide) :
    wpAny M A (eval (.Name x pos) env) Q E s := wpAny_Name (wpAny_loadName_cell hk hx hc ⟨ob, N.get hm, hv⟩ k) hd
end
end
local macro_rules | `(tactic| walk_at "nmCN") => `(tactic| (refine' nmCN ?_; k_whole))
local macro_rules | `(tactic| walk_at "eval Name") => `(tactic| ((with_reducible refine' atComp ?_); walk_at "nmCN"))
section
noncomputable def toldNm (R : StR) (n : Str) : Told := ((R.boxes.find? fun b => b.name = n).map toldBox).getD (.tup [])
noncomputable def toldSt (R : StR) (ss : List Str) : Told := .tup [.int R.nv, .tup [], .tup (ss.map (toldNm R))]
theorem StOk.names {W : Wd} {R : StR} (h : StOk W R) : (namesOf R).Nodup := by
  obtain ⟨_, _, _, _, _, _, hn⟩ := h.b
  rw [List.map_map] at hn
  exact hn
theorem find_box {R : StR} {W : Wd} (hR : StOk W R) {b : BoxR} (hb : b ∈ R.boxes) : (R.boxes.find? fun c => c.name = b.name) = some b := by
  have hn := hR.names
  unfold namesOf at hn
  generalize R.boxes = bs at *
  clear hR
  induction bs with
  | nil => cases hb
  | cons c l ih =>
    rw [List.map_cons, List.nodup_cons] at hn
    rcases List.mem_cons.mp hb with rfl | hb
    · simp
    · rw [List.find?_cons_of_neg (by
        have : c.name ≠ b.name := fun e => hn.1 (e ▸ List.mem_map_of_mem hb)
        simpa using this)]
      exact ih hb hn.2
theorem toldNm_of {R : StR} {W : Wd} (hR : StOk W R) {b : BoxR} (hb : b ∈ R.boxes) : toldNm R b.name = toldBox b := by
  unfold toldNm; rw [find_box hR hb]; rfl
theorem noLst_nm (R : StR) (n : Str) : (toldNm R n).noLst = true := by
  unfold toldNm
  cases R.boxes.find? fun b => b.name = n with
  | none => rfl
  | some b => exact noLst_box b
theorem noLst_nms (R : StR) (ss : List Str) : noLstL (ss.map (toldNm R)) = true := noLst_all fun t ht => by obtain ⟨x, _, rfl⟩ := List.mem_map.mp ht; exact noLst_nm R x
section
variable {dp un : Nat} {fr : Option (List Env)} {gd : Option (List Code)} {h : Heap} {g : Array GenState} {d : Drawn} {t : Nat} {o : OsState} {Q E : Value → Shared → Prop}
set_option maxHeartbeats 1000000 in
theorem store_told_c (W : Wd) {R : StR} (S : Sub W.H0 h) (r : Rm 6 (Ar dp fr gd un)) (hR : StOk W R) (hA : At h (led R))
    (k : ∀ h' t' v ss, Sub h h' → ss.Perm (namesOf R) → sortedS ss = true → Tv h' (toldSt R ss) v → Q v ⟨h', g, d, t', o⟩) :
    wpAny (model prg W.w) (Ar dp fr gd un) (call (.ref 290) [.ref R.st]) Q E ⟨h, g, d, t, o⟩ := by
  obtain ⟨mS, ho, hw, m1, m2, u3, m3⟩ := hR.m
  obtain ⟨a1, a2, a3, a4⟩ := at_st hA
  refine' callDefC W [("self", .ref R.st)] S r ?_
  intro L h₁ cells F N Y t₁
  refine wp_absQ fun Q1 hQ1 E1 => ?_
  have X := W.X' S
  have T := W.T' S
  obtain ⟨oc, rfl, hoc⟩ := Y.one
  clear Y
  k_steps
  all_goals (try (with_reducible refine hQ1 _ _ ?_))
  rename_i h₂ t₂ q vs ss e2 hs2 hn2 hS hp hso F₂ N₂
  have hlss : ss.length = R.boxes.length := by rw [hp.length_eq]; exact List.length_map ..
  have hlvs : vs.length = ss.length := hS.length
  refine iter_list (News.isList N₂ (.head _)) rfl ?_
  intro I h₃ hI1 hI2 hs3 hfp hW hst
  have hlen : vs.length ≤ sizeLine := by have := hR.few; rw [hlvs, hlss, sizeLine_eq]; omega
  have hle := subLe hs3 hI1 (hfp I (.head _))
  refine ⟨I, _, _, _, _, _, h₃, _, _, _, _, rfl, rfl, hW, hlen, hst, hfp, isTup, fun _ z => z, fun _ _ st _ hb _ e => iter_notTup st hb e, fun C D i ys h' => Sub h₂ h' ∧ TvL h' ((ss.take i).map (toldNm R)) ys, CompInv.toN ⟨?_, ?_, ?_⟩, ?_⟩
  · exact fun C D h' _ _ hs => ⟨Sub.trans hs3 hs, by simpa using tvl_nil⟩
  · intro C D i ys h₃ h' hC hD hJ hk
    exact ⟨compStable hJ.1 (Nat.le_trans hle hC) (Nat.le_trans hle hD) hI2 hk, TvL.tups (fun b ob e z => hk b ob e (.inr z)) (noLst_nms _ _) hJ.2⟩
  · rintro C D i v ys h₃ t₃ m E' hC hD hCD hi hv hys ⟨hs3, htv⟩ hn hm
    refine tests0 ?_
    rw [if_pos rfl]
    obtain ⟨x, ux, rfl, hx⟩ := hS.item i v hv
    have hmem : x ∈ namesOf R := hp.mem_iff.mp (List.mem_of_getElem? hx)
    have F' : Fr h C h₃ m := ⟨hn, Sub.trans F₂.keep hs3, Nat.le_trans (Nat.le_trans F₂.above (Nat.le_of_lt F₂.ns.lt)) (Nat.le_trans hle hC)⟩
    have N' : News h C h₃ [(L + 1, oc)] := fun p hp => by
      rw [List.mem_singleton.mp hp]
      have q1 := N₂ (L + 1, oc) (.tail _ (.head _))
      exact ⟨hs3 _ _ q1.1, ltNe (Nat.lt_of_lt_of_le (Heap.lt_size q1.1) (Nat.le_trans hle hC)), q1.2.2⟩
    clear F N F₂ N₂
    k_steps
    all_goals (try (with_reducible refine hQ1 _ _ ?_))
    rename_i b hb hbn
    obtain ⟨mb, hob, hwb, -⟩ := (hR.boxes b hb).m
    obtain ⟨b1, b2, b3, b4⟩ := at_box hA hb
    k_steps
    all_goals (try (with_reducible refine hQ1 _ _ ?_))
    · exact Sub.trans hs3 (by assumption)
    · rw [take_map hx, ← hbn, toldNm_of hR hb]; exact tvl_snoc (TvL.keeps (by assumption) htv) (by assumption)
    · rename Sub h₃ _ => hz
      exact hz _ _ (by assumption)
  · intro C D ys h' t' hC hD hl hys hJ
    have F' : Fr h L h' _ := frSub hJ.1 F₂
    obtain ⟨hJ1, hJ2⟩ := hJ
    rw [List.take_of_length_le (by rw [hlvs]; exact Nat.le_refl _)] at hJ2
    obtain ⟨NT, n1, n2⟩ := tvl_led F'.keep (noLst_nms _ _) hJ2
    have N' : News h L h' ((L + 1, oc) :: NT) := (allCons (newsSub hJ1 N₂ _ (.tail _ (.head _))) (fun p hp => led_news F' n1 p hp))
    clear F N F₂ N₂
    have hg := hR.s
    k_steps
    all_goals (try (with_reducible refine hQ1 _ _ ?_))
    rename Fr _ _ _ _ => Fz
    rename News _ _ _ _ => Nz
    have hz := n2 _ Fz.keep (fun p hp => (Nz p (by simp [hp])).1)
    try (with_reducible refine hQ1 _ _ ?_)
    refine k _ _ _ ss Fz.keep hp hso (told_tup (Nz.get (.head _)) ?_)
    exact tvl_cons (tv_int _ _) (tvl_cons (told_tup (vs := []) (Nz.get (.tail _ (.head _))) tvl_nil) (tvl_cons (told_tup (Nz.get (.tail _ (.tail _ (.head _)))) hz) tvl_nil))
end
end
local macro_rules | `(tactic| walk_at "call ref") => `(tactic| ((with_reducible refine' atRef 290 ?_); (refine store_told_c _ (by walk_at "s") (by walk_at "room") (by assumption) (by walk_at "at") ?_); intro h' t' v ss hs hp hso hv; walk_at "nt"))
section

end
section
theorem odEmpty : OdIs emptyDict (fun _ => none) := ⟨#[], 0, rfl, (by intro e he; exact absurd he (by simp)), (by unfold UniqKeys; exact List.Pairwise.nil), fun _ => rfl⟩
theorem wNil {ns : List Str} : Within (fun _ => none) ns := fun _ h => absurd rfl h
section
open Builtin Builtin.ObjectAttr
variable {prog : Program} {w : World} {A : Around} {E : Value → Shared → Prop} {h : Heap} {gg : Array GenState} {dd : Drawn} {t : Nat} {oo : OsState} {K : Frag} {x C D L : Addr} {h₀ : Heap} {m mo : Str → Option Value} {od : Obj} {name : Str} {v : Value} {news : List (Addr × Obj)} {g : Obj → List (Addr × Obj)}
theorem set_instN {ns : List Str} {Q : Unit → Shared → Prop} (k : ∀ h' od' t', Fr h₀ L h' m → News h₀ L h' (g od') → OdIs od' (fun y => if y = name then some v else mo y) → Within (fun y => if y = name then some v else mo y) ns → Heap.SameBut D h h' → Q () ⟨h', gg, dd, t', oo⟩)
    (ho : OdIs od mo := by assumption) (hw : Within mo ns := by assumption) (X : K.In h := by walk_at "o_in") (F : Fr h₀ L h m := by assumption) (N : News h₀ L h news := by assumption) (hx : h.get? x = some (instObj C D) := by walk_at "o_get") (U : UpdF D od news g := by k_updF) (hn : name ∈ ns := by decide) (hz : ns.length ≤ 900 := by decide)
    (hs : findIn K (.ref C) "__setattr__" = some (some (.builtin "object.__setattr__")) := by k_is) (hp : plainOver K C = true := by k_is) (ht : takerIn K C name = some none := by k_is) (hh : hasDictIn K C = true := by k_is) :
    wpAny (model prog w) A (setAttr (.ref x) name v) Q E ⟨h, gg, dd, t, oo⟩ := by
  obtain ⟨pre, post, rfl, hg, a, b⟩ := U.split
  have hm := N (D, od) (List.mem_append_right _ (.head _))
  have I : InstAt (⟨h, gg, dd, t, oo⟩ : Shared).heap x (instObj C D) C (some od) := instAt_of hx hm.1
  refine set_plain X I hs (osa_open (s := ⟨h, gg, dd, t + 1, oo⟩) X I hp ht fun b' => ?_)
  obtain ⟨cd, hc, hd'⟩ := any_some hh
  refine wpAny_bind (wpAny_pure (wpAny_bind (wpAny_bind (wpAny_loadPart hx (wpAny_bind ((looks_clsIn X hc).at ?_))))))
  rw [hd']
  refine wpAny_pure (a := some D) (wpAny_bind (wpAny_pure (wpAny_bind (wpAny_nsSet1 (s := ⟨h, gg, dd, t + 1, oo⟩) (ho.ns1 hm.1) fun h' hn' hs' => ?_))))
  obtain ⟨oD, esD, epD, hoD, hdD, hcD⟩ := hn'.count (wPut hw hn)
  refine wpAny_bind (wpAny_lookBehind hoD (by rw [hdD]; exact pastItsLine_dict (Nat.le_trans hcD (by rw [sizeLine_eq]; omega))) ?_)
  obtain ⟨od', e1, e2⟩ := OdIs.of hn'
  exact wpAny_pure (k h' od' _ (F.change hs' hm.2.1 hm.2.2) (hg od' ▸ N.setIn a b hs' e1) e2 (wPut hw hn) hs')
end
end
local macro_rules | `(tactic| walk_at "setAttr ref") => `(tactic| (k_dflt (refine' set_instN ?_; k_whole); intro h' od' t' F' N' ho' hw' hs'; (try dsimp only at N')))
section
section
variable {dp un : Nat} {fr : Option (List Env)} {gd : Option (List Code)} {h : Heap} {g : Array GenState} {d : Drawn} {t : Nat} {o : OsState} {Q E : Value → Shared → Prop}
/-- what is new, and its addresses apart -/
structure Fresh (h h' : Heap) (N : Led) : Prop where
  keep : Sub h h'
  at_ : At h' N
  new : ∀ p ∈ N, h.get? p.1 = none
  nodup : (N.map (·.1)).Nodup
set_option maxHeartbeats 1000000 in
theorem make_box_c (W : Wd) {A : Around} {x : Str} {u u' : Tok} {v : Int} (S : Sub W.H0 h) (r : Rm 2 (Ar dp fr gd un)) (hx : x.length ≤ 100000)
    (k : ∀ h' t' b, Fresh h h' (boxLed b) → BoxOk b → b.name = x → b.val = v → b.next = 1 → b.top = 1 → b.lets = [] → Q (.ref b.b) ⟨h', g, d, t', o⟩) :
    wpAny (model prg W.w) (Ar dp fr gd un) (call (.ref 163) [.str x u, .int v u']) Q E ⟨h, g, d, t, o⟩ := by
  have X := W.X' S
  refine wpAny_call (make_core (init := .ref 143) (makes_of X (by k_is)) (looks_findIn X (by k_is)) (fun self => bind_fn X self (by k_is)) (.inl rfl) ?_)
  have hx0 : ((h.push emptyDict).push (instObj 163 h.objs.size)).get? (h.objs.size + 1) = some (instObj 163 h.objs.size) := by heap_get
  have hd0 : ((h.push emptyDict).push (instObj 163 h.objs.size)).get? h.objs.size = some emptyDict := by heap_get
  have hen : h.get? (h.objs.size + 1) = none := Heap.get?_none_of_le (Nat.le_succ _)
  have hdn : h.get? h.objs.size = none := Heap.get?_none_of_le (Nat.le_refl _)
  have hne : h.objs.size ≠ h.objs.size + 1 := Nat.ne_of_lt (Nat.lt_succ_self _)
  have kS : Sub h ((h.push emptyDict).push (instObj 163 h.objs.size)) := fun b ob q => Heap.get?_push_of_some _ (Heap.get?_push_of_some _ q)
  generalize (h.push emptyDict).push (instObj 163 h.objs.size) = h2 at *
  generalize h.objs.size + 1 = e at *
  generalize h.objs.size = D at *
  have S2 : Sub h (hideAll h2 [D]) := fun b ob q => hideAll_get _ (kS _ _ q) fun hm => by rw [List.mem_singleton.mp hm, hdn] at q; cases q
  refine' codeDef W (n := 1) [("self", .ref e), ("name", .str x u), ("validity", .int v u')] (S.trans kS) (Rm.mono (by decide) (Rm.under1 r)) ?_
  intro L h₁ F0 N0 t₁
  refine wp_absQ fun Q1 hQ1 E1 => ?_
  have F : Fr (hideAll h2 [D]) L h₁ _ := ⟨F0.ns, fun b o q => F0.keep b o (of_hideAll _ q), by rw [hideAll_size]; exact F0.above⟩
  have N : News (hideAll h2 [D]) L h₁ [(D, emptyDict)] := (allOne (⟨F0.keep _ _ hd0, ltNe (Nat.lt_of_lt_of_le (Heap.lt_size hd0) F0.above), hideAll_none _ (.head _)⟩))
  have a1 : (hideAll h2 [D]).get? e = some (instObj 163 D) := hideAll_get _ hx0 (by simpa using hne.symm)
  have ho := odEmpty
  have hw : Within (fun _ => none) boxNs := wNil
  clear F0 N0
  have X := W.X' (S.trans S2)
  have T := W.T' (S.trans S2)
  k_steps
  all_goals (try (with_reducible refine hQ1 _ _ ?_))
  rename_i l _ _ _ _ _ _ _ _ l2 _ _ _ _ _ od _ F3 N3 ho3 hw3 _
  have ge := F3.keep _ _ a1
  have nl : ∀ p ∈ [(l2, listOf #[] 0), (l, listOf #[] 0)], p.1 ≠ e ∧ h.get? p.1 = none := fun p hp => by
    have q := N3 p (by rcases List.mem_cons.mp hp with rfl | hp; exact .head _; rw [List.mem_singleton.mp hp]; exact .tail _ (.head _))
    exact ⟨fun z => by (rw [z] at q; rw [q.2.2] at a1; cases a1), noneSub S2 q.2.2⟩
  refine ⟨rfl, k _ _ ⟨e, D, l, l2, od, listOf #[] 0, listOf #[] 0, x, v, 1, 1, []⟩ ⟨S2.trans F3.keep, ?_, ?_, ?_⟩ ?_ rfl rfl rfl rfl rfl⟩
  · intro p hp
    simp only [boxLed, List.flatMap_nil, List.append_nil, List.mem_cons, List.not_mem_nil, or_false] at hp
    rcases hp with rfl | rfl | rfl | rfl
    · exact ge
    · exact (N3 _ (.tail _ (.tail _ (.head _)))).1
    · exact (N3 _ (.tail _ (.head _))).1
    · exact (N3 _ (.head _)).1
  · intro p hp
    simp only [boxLed, List.flatMap_nil, List.append_nil, List.mem_cons, List.not_mem_nil, or_false] at hp
    rcases hp with rfl | rfl | rfl | rfl
    · exact hen
    · exact hdn
    · exact (nl _ (.tail _ (.head _))).2
    · exact (nl _ (.head _)).2
  · have n1 := (nl _ (.tail _ (.head _))).1
    have n2 := (nl _ (.head _)).1
    have n3 : D < l := by assumption
    have n4 : l < l2 ∧ D < l2 := by assumption
    simp only [boxLed, List.flatMap_nil, List.append_nil, List.map_cons, List.map_nil, List.nodup_cons, List.mem_cons, List.not_mem_nil, or_false, not_or, not_false_iff, List.nodup_nil, and_true]
    exact ⟨⟨hne.symm, n1.symm, n2.symm⟩, ⟨ltNe n3, ltNe n4.2⟩, ltNe n4.1⟩
  · exact ⟨⟨_, ho3, hw3, ⟨_, rfl⟩, ⟨_, rfl⟩, ⟨_, rfl⟩, ⟨_, rfl⟩, ⟨_, rfl⟩, rfl, rfl⟩, ⟨0, rfl⟩, ⟨0, rfl⟩, (by intro x hx; cases hx), Nat.zero_le _, by show (1 : Int) ≤ 1000; decide, by show (1 : Int) ≤ 1000; decide, hx⟩
end

end
section
theorem frBut {h₀ h h' : Heap} {L D : Addr} {m : Str → Option Value} (F : Fr h₀ L h m) (k : ∀ x o, x ≠ D → h.get? x = some o → h'.get? x = some o) (hL : D ≠ L) (h0 : h₀.get? D = none) : Fr h₀ L h' m :=
  ⟨F.ns.at' fun ob q => k _ ob hL.symm q, fun b ob q => k b ob (fun z => by rw [z, h0] at q; cases q) (F.keep b ob q), F.above⟩
theorem newsBut {h₀ h h' : Heap} {L D : Addr} {od od' : Obj} {news : Led} {g : Obj → Led} (N : News h₀ L h news) (U : UpdF D od news g) (k : ∀ x o, x ≠ D → h.get? x = some o → h'.get? x = some o) (e : h'.get? D = some od') : News h₀ L h' (g od') := by
  obtain ⟨pre, post, rfl, hg, a, b⟩ := U.split
  have hm := N (D, od) (List.mem_append_right _ (.head _))
  rw [hg]
  intro p hp
  rcases List.mem_append.mp hp with hp | hp
  · have := N p (List.mem_append_left _ hp); exact ⟨k _ _ (a p hp) this.1, this.2⟩
  · rcases List.mem_cons.mp hp with rfl | hp
    · exact ⟨e, hm.2⟩
    · have := N p (List.mem_append_right _ (.tail _ hp)); exact ⟨k _ _ (b p hp) this.1, this.2⟩
/-- a frame whose base forgets what will be turned -/
theorem rebase {h h₁ : Heap} {L : Addr} {m : Str → Option Value} (F : Fr h L h₁ m) (fp : List Addr) : Fr (hideAll h fp) L h₁ m := ⟨F.ns, fun b o q => F.keep b o (of_hideAll _ q), by rw [hideAll_size]; exact F.above⟩
theorem newsOld {h h₁ : Heap} {L : Addr} {m : Str → Option Value} (F : Fr h L h₁ m) {fp : List Addr} {N : Led} (a : ∀ p ∈ N, h.get? p.1 = some p.2 ∧ p.1 ∈ fp) : News (hideAll h fp) L h₁ N := fun p hp =>
  ⟨F.keep _ _ (a p hp).1, ltNe (Nat.lt_of_lt_of_le (Heap.lt_size (a p hp).1) F.above), hideAll_none _ (a p hp).2⟩
theorem newsHid {h h₁ : Heap} {L : Addr} {fp : List Addr} {N : Led} (n : News h L h₁ N) : News (hideAll h fp) L h₁ N := fun p hp =>
  ⟨(n p hp).1, (n p hp).2.1, by
    cases q : (hideAll h fp).get? p.1 with
    | none => rfl
    | some o => have := of_hideAll _ q; rw [(n p hp).2.2] at this; cases this⟩
section
variable {prog : Program} {w : World} {A : Around} {E : Value → Shared → Prop} {h : Heap} {g : Array GenState} {d : Drawn} {tk : Nat} {o : OsState}
theorem iter_tup {l : Addr} {vs : List Value} {Q : Value → Shared → Prop} (hl : h.IsTuple l vs.toArray) (hh : A.handled = none)
    (k : ∀ I h', h.objs.size ≤ I → h.get? I = none → Sub h h' → (∀ b ∈ [I, l], b < h'.objs.size) → Walks prog w A I [I, l] [I] vs.length (fun i v => vs[i]? = some v) (fun i h => h.IsTupleIter I l i ∧ h.IsTuple l vs.toArray) → (h'.IsTupleIter I l 0 ∧ h'.IsTuple l vs.toArray) → Q (.ref I) ⟨h', g, d, tk, o⟩) :
    wpAny (model prog w) A (pyIter (.ref l)) Q E ⟨h, g, d, tk, o⟩ := by
  obtain ⟨ol, hol, hor⟩ := id hl
  have hlt := Heap.lt_size hol
  refine wpAny_pyIter_tuple (s := ⟨h, g, d, tk, o⟩) hl ?_
  have W := Walks.tuple (prog := prog) (w := w) hh h.objs.size l (Nat.ne_of_lt hlt) vs.toArray
  rw [List.size_toArray] at W
  have e : (fun (i : Nat) (v : Value) => vs.toArray[i]? = some v) = fun i v => vs[i]? = some v := by funext i v; simp
  rw [e] at W
  refine k _ _ (Nat.le_refl _) (Heap.get?_none_of_le (Nat.le_refl _)) (fun b o e => Heap.get?_push_of_some _ e) (fun b hb => ?_) W ⟨⟨_, Heap.get?_push_size _ rfl, rfl, rfl⟩, ol, Heap.get?_push_of_some _ hol, hor⟩
  rw [Heap.size_push]
  rcases List.mem_cons.mp hb with rfl | hb
  · exact Nat.lt_succ_self _
  · rw [List.mem_singleton.mp hb]; exact Nat.lt_succ_of_lt hlt
end
section
variable {prog : Program} {w : World} {A : Around} {E : Value → Shared → Prop} {env : Env} {h : Heap} {g : Array GenState} {d : Drawn} {tk : Nat} {o : OsState}
/-- a loop over nothing -/
theorem for_empty {target : Expr} {body : List Stmt} {Q : Flow → Shared → Prop} {I : Addr} {fp wr : List Addr} {n : Nat} {P : Nat → Value → Prop} {St : Nat → Heap → Prop} {m : Str → Option Value} (W : Walks prog w A I fp wr n P St) (hn0 : n = 0) (hL : env.locals ∉ wr) (hst : St 0 h) (hn : h.Ns env.locals m)
    (k : ∀ h' t', h'.Ns env.locals m → (∀ b ob, b ≠ env.locals → b ∉ wr → h.get? b = some ob → h'.get? b = some ob) → Q .next ⟨h', g, d, t', o⟩) : ForAt prog w A env target body Q E (.ref I) ⟨h, g, d, tk, o⟩ := by
  subst hn0
  refine ⟨I, fp, wr, 0, P, St, h, g, d, tk, o, m, fun _ m' h' => m' = m ∧ ∀ b ob, b ≠ env.locals → b ∉ wr → h.get? b = some ob → h'.get? b = some ob, rfl, rfl, W, hL, hst, hn, ⟨rfl, fun _ _ _ _ q => q⟩, ⟨?_, ?_, ?_⟩⟩
  · exact fun i m' h₁ h' hJ hk => ⟨hJ.1, fun b ob h1 h2 q => hk b ob h1 h2 (hJ.2 b ob h1 h2 q)⟩
  · intro i v m' h₁ t₁ hi; exact absurd hi (Nat.not_lt_zero _)
  · rintro m' h' t' ⟨rfl, hk⟩ hn'; exact k h' t' hn' hk
end
section
variable {h h₂ h₃ h' : Heap} {L I : Addr} {m : Str → Option Value} {news : Led}
theorem offL (F : Fr h L h₂ m) (hI : h₂.get? I = none) : L ∉ [I] := fun q => by
  obtain ⟨ob, _, _, ho, _⟩ := F.ns
  rw [List.mem_singleton.mp q] at ho; rw [ho] at hI; cases hI
theorem frEmpty (F : Fr h L h₂ m) (hs : Sub h₂ h₃) (hI : h₂.get? I = none) (hn : h'.Ns L m) (k : ∀ b ob, b ≠ L → b ∉ [I] → h₃.get? b = some ob → h'.get? b = some ob) : Fr h L h' m :=
  ⟨hn, fun b ob q => k b ob (ltNe (Nat.lt_of_lt_of_le (Heap.lt_size q) F.above)) (fun z => by rw [List.mem_singleton.mp z] at q; rw [F.keep _ _ q] at hI; cases hI) (hs _ _ (F.keep _ _ q)), F.above⟩
theorem newsEmpty (N : News h L h₂ news) (hs : Sub h₂ h₃) (hI : h₂.get? I = none) (k : ∀ b ob, b ≠ L → b ∉ [I] → h₃.get? b = some ob → h'.get? b = some ob) : News h L h' news := fun p hp =>
  ⟨k _ _ (N p hp).2.1 (fun z => by have := (N p hp).1; rw [List.mem_singleton.mp z, hI] at this; cases this) (hs _ _ (N p hp).1), (N p hp).2⟩
end
end
local macro_rules | `(tactic| walk_at "od_look") => `(tactic| first
  | assumption
  | exact if_pos rfl
  | (refine (if_neg (by decide)).trans ?_; walk_at "od_look"))
local macro_rules | `(tactic| walk_at "getAttr ref") => `(tactic| k_dflt (refine' get_inst ?_ (hv := by walk_at "od_look"); k_whole; intro _))
section
section
variable {dp un : Nat} {fr : Option (List Env)} {gd : Option (List Code)} {h : Heap} {g : Array GenState} {d : Drawn} {t : Nat} {o : OsState} {Q E : Value → Shared → Prop}
set_option maxHeartbeats 1000000 in
theorem flag_tuple_c (W : Wd) {fl : Addr} (S : Sub W.H0 h) (r : Rm 2 (Ar dp fr gd un)) (hfl : h.get? fl = some (tupO []))
    (k : ∀ h' t' q, Sub h h' → New h h' q (tupO []) → Q (.ref q) ⟨h', g, d, t', o⟩) :
    wpAny (model prg W.w) (Ar dp fr gd un) (call (.ref 94) [.ref fl]) Q E ⟨h, g, d, t, o⟩ := by
  refine' callDef W [("flags", .ref fl)] S r ?_
  intro L h₁ F N t₁
  refine wp_absQ fun Q1 hQ1 E1 => ?_
  have X := W.X' S
  have T := W.T' S
  k_steps
  all_goals (try (with_reducible refine hQ1 _ _ ?_))
  refine for_heap ?_
  k_steps
  all_goals (try (with_reducible refine hQ1 _ _ ?_))
  rename Fr _ _ _ _ => F1
  rename News _ _ _ _ => N1
  refine iter_tup (vs := []) ⟨_, F1.keep _ _ hfl, rfl, 0, rfl⟩ rfl ?_
  intro I h₂ hI1 hI2 hs2 hfp hW hst
  refine for_empty hW rfl (offL F1 hI2) hst (F1.ns.keeps hs2) fun h₃ t₃ hn₃ hk₃ => ?_
  have F3 := frEmpty F1 hs2 hI2 hn₃ hk₃
  have N3 := newsEmpty N1 hs2 hI2 hk₃
  clear F1 N1
  dsimp only
  k_steps
  all_goals (try (with_reducible refine hQ1 _ _ ?_))
  rename_i v n _ _ _ _ iv el _ _ _ _ _ _ _ F4 N4 _
  have hv : v = [] := List.eq_nil_of_length_eq_zero (by rw [iv.length]; exact el)
  subst hv
  try (with_reducible refine hQ1 _ _ ?_)
  exact k _ _ _ F4.keep (newOf N4 (.head _))
end
end
local macro_rules | `(tactic| walk_at "call ref") => `(tactic| ((with_reducible refine' atRef 94 ?_); (refine flag_tuple_c _ (by walk_at "s") (by walk_at "room") (by walk_at "o_get") ?_); intro h' t' q hs hn; walk_at "nn"))
section
section
variable {dp un : Nat} {fr : Option (List Env)} {gd : Option (List Code)} {h : Heap} {g : Array GenState} {d : Drawn} {t : Nat} {o : OsState} {Q E : Value → Shared → Prop}
set_option maxHeartbeats 1000000 in
theorem raised_c (W : Wd) {b D : Addr} {od : Obj} {m : Str → Option Value} {n : Int} {u : Tok} (S : Sub W.H0 (hideAll h [D])) (r : Rm 1 (Ar dp fr gd un)) (hb : h.get? b = some (instObj 163 D)) (hne : b ≠ D) (hD : h.get? D = some od) (ho : OdIs od m) (hw : Within m boxNs) (hm : m "top" = some (.int n u))
    (k : ∀ h' t' od' u, h'.get? D = some od' → OdIs od' (fun y => if y = "top" then some (.int (n + 1) u) else m y) → Within (fun y => if y = "top" then some (.int (n + 1) u) else m y) boxNs → (∀ x ob, x ≠ D → h.get? x = some ob → h'.get? x = some ob) → Q (.int (n + 1) u) ⟨h', g, d, t', o⟩) :
    wpAny (model prg W.w) (Ar dp fr gd un) (call (.ref 181) [.ref b]) Q E ⟨h, g, d, t, o⟩ := by
  refine' callDef W [("box", .ref b)] (fun b o q => of_hideAll _ (S b o q)) r ?_
  intro L h₁ F0 N0 t₁
  refine wp_absQ fun Q1 hQ1 E1 => ?_
  have F := rebase F0 [D]
  have N := newsOld F0 (fp := [D]) (N := [(D, od)]) ((allOne (⟨hD, .head _⟩)))
  have a1 : (hideAll h [D]).get? b = some (instObj 163 D) := hideAll_get _ hb (by simpa using hne)
  clear F0 N0
  have X := W.X' S
  have T := W.T' S
  k_steps
  all_goals (try (with_reducible refine hQ1 _ _ ?_))
  rename Fr _ _ _ _ => F1
  rename News _ _ _ _ => N1
  dsimp only
  try (with_reducible refine hQ1 _ _ ?_)
  refine k _ _ _ _ (N1 _ (.head _)).1 (by assumption) (by assumption) fun x ob hx q => F1.keep _ _ (hideAll_get _ q (by simpa using hx))
set_option maxHeartbeats 1000000 in
theorem make_letter_c (W : Wd) {uid ins mod : Int} {oct : Array UInt8} {u1 u2 u3 u4 : Tok} {fl : Addr} (S : Sub W.H0 h) (r : Rm 2 (Ar dp fr gd un)) (hfl : h.get? fl = some (tupO []))
    (k : ∀ h' t' a D od, Sub h h' → h.get? a = none → h.get? D = none → a ≠ D → h'.get? a = some (instObj 125 D) → h'.get? D = some od → LetOk ⟨a, D, fl, od, tupO [], uid, oct, ins, mod⟩ → Q (.ref a) ⟨h', g, d, t', o⟩) :
    wpAny (model prg W.w) (Ar dp fr gd un) (call (.ref 125) [.int uid u1, .bytes oct u2, .ref fl, .int ins u3, .int mod u4]) Q E ⟨h, g, d, t, o⟩ := by
  have X := W.X' S
  refine wpAny_call (make_core (init := .ref 108) (makes_of X (by k_is)) (looks_findIn X (by k_is)) (fun self => bind_fn X self (by k_is)) (.inl rfl) ?_)
  have hx0 : ((h.push emptyDict).push (instObj 125 h.objs.size)).get? (h.objs.size + 1) = some (instObj 125 h.objs.size) := by heap_get
  have hd0 : ((h.push emptyDict).push (instObj 125 h.objs.size)).get? h.objs.size = some emptyDict := by heap_get
  have hen : h.get? (h.objs.size + 1) = none := Heap.get?_none_of_le (Nat.le_succ _)
  have hdn : h.get? h.objs.size = none := Heap.get?_none_of_le (Nat.le_refl _)
  have hne : h.objs.size ≠ h.objs.size + 1 := Nat.ne_of_lt (Nat.lt_succ_self _)
  have kS : Sub h ((h.push emptyDict).push (instObj 125 h.objs.size)) := fun b ob q => Heap.get?_push_of_some _ (Heap.get?_push_of_some _ q)
  generalize (h.push emptyDict).push (instObj 125 h.objs.size) = h2 at *
  generalize h.objs.size + 1 = e at *
  generalize h.objs.size = D at *
  have S2 : Sub h (hideAll h2 [D]) := fun b ob q => hideAll_get _ (kS _ _ q) fun hm => by rw [List.mem_singleton.mp hm, hdn] at q; cases q
  refine' codeDef W (n := 1) [("self", .ref e), ("uid", .int uid u1), ("octets", .bytes oct u2), ("flags", .ref fl), ("instant", .int ins u3), ("modseq", .int mod u4)] (S.trans kS) (Rm.mono (by decide) (Rm.under1 r)) ?_
  intro L h₁ F0 N0 t₁
  refine wp_absQ fun Q1 hQ1 E1 => ?_
  have F := rebase F0 [D]
  have N := newsOld F0 (fp := [D]) (N := [(D, emptyDict)]) ((allOne (⟨hd0, .head _⟩)))
  have a1 : (hideAll h2 [D]).get? e = some (instObj 125 D) := hideAll_get _ hx0 (by simpa using hne.symm)
  have a2 : (hideAll h2 [D]).get? fl = some (tupO []) := S2 _ _ hfl
  have ho := odEmpty
  have hw : Within (fun _ => none) letNs := wNil
  clear F0 N0
  have X := W.X' (S.trans S2)
  have T := W.T' (S.trans S2)
  k_steps
  all_goals (try (with_reducible refine hQ1 _ _ ?_))
  rename Fr _ _ _ _ => F1
  refine call_tuple_same ⟨_, F1.keep _ _ a2, rfl, 0, rfl⟩ ?_
  k_steps
  all_goals (try (with_reducible refine hQ1 _ _ ?_))
  rename_i od _ F3 N3 ho3 hw3 _
  have ge := F3.keep _ _ a1
  exact ⟨rfl, k _ _ e D od (S2.trans F3.keep) hen hdn hne.symm ge (N3 _ (.head _)).1 ⟨⟨_, ho3, hw3, ⟨_, rfl⟩, ⟨_, rfl⟩, rfl, ⟨_, rfl⟩, ⟨_, rfl⟩⟩, rfl⟩⟩
end

end
section
theorem hide_mono {h : Heap} {l1 l2 : List Addr} (hs : ∀ a ∈ l1, a ∈ l2) : Sub (hideAll h l2) (hideAll h l1) := fun b o q => hideAll_get _ (of_hideAll _ q) fun hm => by rw [hideAll_none _ (hs b hm)] at q; cases q
theorem hide_sub {h : Heap} {l : List Addr} : Sub (hideAll h l) h := fun _ _ q => of_hideAll _ q
theorem subHid {h h' : Heap} {L D : Addr} {fp : List Addr} {m : Str → Option Value} (F : Fr (hideAll h fp) L h' m) (hd : D ∈ fp) : Sub (hideAll h fp) (hideAll h' [D]) := fun b o q => hideAll_get _ (F.keep b o q) fun hm => by
  rw [List.mem_singleton.mp hm, hideAll_none _ hd] at q; cases q
theorem newNe {h h' : Heap} {q D : Addr} {ob od : Obj} (n : New h h' q ob) (e : h.get? D = some od) : q ≠ D := fun z => by have := n.none_; rw [z, e] at this; cases this
theorem newsTwo {h₀ h h' : Heap} {L a D : Addr} {m : Str → Option Value} {news : Led} {oa od : Obj} (F : Fr h₀ L h m) (hs : Sub h h') (N : News h₀ L h news) (n1 : New h h' a oa) (n2 : New h h' D od) : News h₀ L h' ((a, oa) :: (D, od) :: news) := (allCons (newsNew F hs N n1 _ (.head _)) (fun p hp => newsNew F hs N n2 p hp))
theorem goneNe {h : Heap} {a D : Addr} {od : Obj} (ha : h.get? a = none) (e : h.get? D = some od) : a ≠ D := fun z => by rw [z, e] at ha; cases ha
noncomputable abbrev adrs (N : Led) : List Addr := N.map (·.1)
section
variable {dp un : Nat} {fr : Option (List Env)} {gd : Option (List Code)} {h : Heap} {g : Array GenState} {d : Drawn} {t : Nat} {o : OsState} {Q E : Value → Shared → Prop}
set_option maxHeartbeats 1000000 in
theorem add_letter_c (W : Wd) {B : BoxR} {fl0 : Addr} {oct : Array UInt8} {ins : Int} {u1 u2 : Tok} (S : Sub W.H0 (hideAll h [B.D, B.l])) (r : Rm 4 (Ar dp fr gd un)) (hB : BoxOk B) (hA : At h (boxLed B)) (hnd : (adrs (boxLed B)).Nodup)
    (hfl : (hideAll h [B.D, B.l]).get? fl0 = some (tupO [])) (few : B.lets.length < 10) (hnx : B.next < 1000) (htp : B.top < 1000)
    (k : ∀ h' t' od' n' x, At h' (boxLed { B with od := od', ol := PySem.W.listOf ((B.lets ++ [x]).map fun x => .ref x.a).toArray n', next := B.next + 1, top := B.top + 1, lets := B.lets ++ [x] }) →
      BoxOk { B with od := od', ol := PySem.W.listOf ((B.lets ++ [x]).map fun x => .ref x.a).toArray n', next := B.next + 1, top := B.top + 1, lets := B.lets ++ [x] } →
      x.uid = B.next → x.oct = oct → x.ins = ins → x.mod = B.top + 1 → (∀ p ∈ letLed x, h.get? p.1 = none) → (adrs (letLed x)).Nodup →
      Sub (hideAll h [B.D, B.l]) h' → Q (.ref x.a) ⟨h', g, d, t', o⟩) :
    wpAny (model prg W.w) (Ar dp fr gd un) (call (.ref 188) [.ref B.b, .bytes oct u1, .ref fl0, .int ins u2]) Q E ⟨h, g, d, t, o⟩ := by
  obtain ⟨m, ho, hw, ⟨ub1, m1⟩, ⟨ub2, m2⟩, ⟨ub3, m3⟩, ⟨ub4, m4⟩, ⟨ub5, m5⟩, m6, m7⟩ := hB.m
  obtain ⟨n0, hl0⟩ := hB.l
  have a1 := hA _ (.head _)
  have a2 := hA _ (.tail _ (.head _))
  have a3 := hA _ (.tail _ (.tail _ (.head _)))
  dsimp only at a1 a2 a3
  rw [hl0] at a3
  have hnd' := hnd
  simp only [adrs, boxLed, List.map_cons, List.cons_append, List.nil_append, List.nodup_cons, List.mem_cons, not_or] at hnd'
  obtain ⟨⟨bD, bl, bg, -⟩, ⟨Dl, Dg, -⟩, ⟨lg, -⟩, -⟩ := hnd'
  have hDl := neN Dl
  refine' callDef W [("box", .ref B.b), ("octets", .bytes oct u1), ("flags", .ref fl0), ("instant", .int ins u2)] (S.trans hide_sub) r ?_
  intro L h₁ F0 N0 t₁
  refine wp_absQ fun Q1 hQ1 E1 => ?_
  have F := rebase F0 [B.D, B.l]
  have N := newsOld F0 (fp := [B.D, B.l]) (N := [(B.D, B.od), (B.l, PySem.W.listOf (B.lets.map fun x => Value.ref x.a).toArray n0)]) (allCons ⟨a2, .head _⟩ (allCons ⟨a3, .tail _ (.head _)⟩ allNil))
  have b1 : (hideAll h [B.D, B.l]).get? B.b = some (instObj 163 B.D) := hideAll_get _ a1 (by simpa using ⟨bD, bl⟩)
  have nD := (N _ (.head _)).1
  have nl := (N _ (.tail _ (.head _))).1
  dsimp only at nD nl
  clear F0 N0
  have X := W.X' S
  have T := W.T' S
  k_steps
  all_goals (try (with_reducible refine hQ1 _ _ ?_))
  rename_i h2 _ q hs2 hn2 h3 F2 N2 t2
  have qD := newNe hn2 nD
  have ql := newNe hn2 nl
  refine raised_c W (b := B.b) (D := B.D) (od := B.od) (S.trans (subHid F2 (.head _))) (by walk_at "room") (F2.keep _ _ b1) bD (N2 _ (.tail _ (.head _))).1 ho hw m4 ?_
  intro h4 t4 od4 u4 e4 ho4 hw4 hk4
  have F4 := frBut F2 hk4 (N2 _ (.tail _ (.head _))).2.1 (N2 _ (.tail _ (.head _))).2.2
  have N4 := newsBut N2 (UpdF.tail qD (UpdF.head (by simpa using hDl.symm))) hk4 e4
  clear F2 N2
  k_steps
  all_goals (try (with_reducible refine hQ1 _ _ ?_))
  refine make_letter_c W (S.trans F4.keep) (by walk_at "room") (N4 _ (.head _)).1 ?_
  intro h5 t5 a D5 od5 hs5 ha hD5 hne5 e1 e2 ok5
  have F5 := frSub hs5 F4
  have N5 := newsTwo F4 hs5 N4 ⟨ha, e1⟩ ⟨hD5, e2⟩
  have x1 := goneNe ha e4
  have x2 := goneNe hD5 e4
  have x3 := goneNe ha (N4 _ (.tail _ (.tail _ (.head _)))).1
  have x4 := goneNe hD5 (N4 _ (.tail _ (.tail _ (.head _)))).1
  have x5 := goneNe ha (N4 _ (.head _)).1
  have x6 := goneNe hD5 (N4 _ (.head _)).1
  dsimp only at x3 x4 x5 x6
  clear F4 N4
  k_steps
  all_goals (try (with_reducible refine hQ1 _ _ ?_))
  rename_i od9 _ ho9 hw9 _ _ h9 F9 N9
  dsimp only
  have kp : ∀ p ∈ boxLed B, p.1 ≠ B.D → p.1 ≠ B.l → h9.get? p.1 = some p.2 := fun p hp q1 q2 => F9.keep _ _ (hideAll_get _ (hA p hp) (by simpa using ⟨q1, q2⟩))
  have hnd'' := hnd
  simp only [adrs, boxLed, List.map_append, List.nodup_append] at hnd''
  have nx : ∀ p ∈ [(a, instObj 125 D5), (D5, od5), (q, tupO [])], h.get? p.1 = none := fun p hp => by
    have q1 := N9 p (by
      rcases List.mem_cons.mp hp with rfl | hp
      · exact .head _
      rcases List.mem_cons.mp hp with rfl | hp
      · exact .tail _ (.head _)
      rw [List.mem_singleton.mp hp]; exact .tail _ (.tail _ (.head _)))
    have q2 : p.1 ≠ B.D ∧ p.1 ≠ B.l := by
      rcases List.mem_cons.mp hp with rfl | hp
      · exact ⟨x1, x3⟩
      rcases List.mem_cons.mp hp with rfl | hp
      · exact ⟨x2, x4⟩
      rw [List.mem_singleton.mp hp]; exact ⟨qD, ql⟩
    cases z : h.get? p.1 with
    | none => rfl
    | some ob => have := hideAll_get [B.D, B.l] z (by simpa using q2); rw [q1.2.2] at this; cases this
  try (with_reducible refine hQ1 _ _ ?_)
  refine k h9 _ od9 (n0 + 1) ⟨a, D5, q, od5, tupO [], B.next, oct, ins, B.top + 1⟩ ?_ ?_ rfl rfl rfl rfl nx ?_ F9.keep
  · intro p hp
    simp only [boxLed, List.flatMap_append, List.flatMap_cons, List.flatMap_nil, List.append_nil, List.map_append, List.map_cons, List.map_nil] at hp
    rcases List.mem_append.mp hp with hp | hp
    · simp only [List.mem_cons, List.not_mem_nil, or_false] at hp
      rcases hp with rfl | rfl | rfl | rfl
      · exact F9.keep _ _ b1
      · exact (N9 _ (.tail _ (.tail _ (.tail _ (.head _))))).1
      · rw [(N9 _ (.tail _ (.tail _ (.tail _ (.tail _ (.head _)))))).1]; simp
      · exact kp (B.gA, B.og) (.tail _ (.tail _ (.tail _ (.head _)))) (fun z => Dg z.symm) (fun z => lg z.symm)
    · rcases List.mem_append.mp hp with hp | hp
      · have hm := List.mem_map_of_mem (f := Prod.fst) hp
        exact kp p (List.mem_append_right _ hp) (fun z => hnd''.2.2 _ (by simp) _ hm z.symm) (fun z => hnd''.2.2 _ (by simp) _ hm z.symm)
      · simp only [letLed, List.mem_cons, List.not_mem_nil, or_false] at hp
        rcases hp with rfl | rfl | rfl
        · exact (N9 _ (.head _)).1
        · exact (N9 _ (.tail _ (.head _))).1
        · exact (N9 _ (.tail _ (.tail _ (.head _)))).1
  · refine ⟨⟨_, ho9, hw9, ⟨_, by walk_at "od_look"⟩, ⟨_, by walk_at "od_look"⟩, ⟨_, by walk_at "od_look"⟩, ⟨_, by walk_at "od_look"⟩, ⟨_, by walk_at "od_look"⟩, by walk_at "od_look", by walk_at "od_look"⟩, ⟨_, rfl⟩, hB.g, ?_, ?_, ?_, ?_, hB.short⟩
    · intro x hx
      rcases List.mem_append.mp hx with hx | hx
      · exact hB.lets x hx
      · rw [List.mem_singleton.mp hx]; exact ok5
    · show (B.lets ++ [_]).length ≤ 10
      rw [List.length_append, List.length_singleton]; omega
    · show B.next + 1 ≤ 1000
      omega
    · show B.top + 1 ≤ 1000
      omega
  · simp only [adrs, letLed, List.map_cons, List.map_nil, List.nodup_cons, List.mem_cons, List.not_mem_nil, or_false, not_or, not_false_iff, List.nodup_nil, and_true]
    exact ⟨⟨hne5, x5⟩, x6⟩
end

end
section
/-- what is told of a letter, of a box: plain data -/
structure PL where
  uid : Int
  oct : Array UInt8
  ins : Int
  mod : Int
structure PB where
  name : Str
  val : Int
  next : Int
  top : Int
  lets : List PL
noncomputable def pl (x : LetR) : PL := ⟨x.uid, x.oct, x.ins, x.mod⟩
noncomputable def pb (b : BoxR) : PB := ⟨b.name, b.val, b.next, b.top, b.lets.map pl⟩
noncomputable abbrev pbs (R : StR) : List PB := R.boxes.map pb
structure Turn (h h' : Heap) (R R' : StR) : Prop where
  keep : Sub (hideAll h (adrs (led R))) h'
  at_ : At h' (led R')
  new : ∀ p ∈ led R', p.1 ∈ adrs (led R) ∨ h.get? p.1 = none
  st : R'.st = R.st
theorem hide_to {h h2 : Heap} {A l : List Addr} (hs : Sub h h2) (hl : ∀ a ∈ l, a ∈ A) : Sub (hideAll h A) (hideAll h2 l) := fun b o q => hideAll_get _ (hs _ _ (of_hideAll _ q)) fun hm => by rw [hideAll_none _ (hl b hm)] at q; cases q
theorem Turn.trans {h h1 h2 : Heap} {R R1 R2 : StR} (hA : At h (led R)) (a : Turn h h1 R R1) (b : Turn h1 h2 R1 R2) : Turn h h2 R R2 := by
  refine ⟨fun x o q => b.keep _ _ (hideAll_get _ (a.keep _ _ q) fun hm => ?_), b.at_, fun p hp => ?_, b.st.trans a.st⟩
  · obtain ⟨p, hp, rfl⟩ := List.mem_map.mp hm
    rcases a.new p hp with z | z
    · rw [hideAll_none _ z] at q; cases q
    · have := of_hideAll _ q; rw [z] at this; cases this
  · rcases b.new p hp with z | z
    · obtain ⟨p', hp', e⟩ := List.mem_map.mp z
      rw [← e]; exact a.new p' hp'
    · by_cases hm : p.1 ∈ adrs (led R)
      · exact .inl hm
      · refine .inr ?_
        cases q : h.get? p.1 with
        | none => rfl
        | some o => have := a.keep _ _ (hideAll_get _ q hm); rw [z] at this; cases this
/-- nothing turned but what is dropped -/
theorem Turn.same {h h' : Heap} {R : StR} (hA : At h (led R)) (s : Sub h h') : Turn h h' R R := ⟨fun _ _ q => s _ _ (of_hideAll _ q), hA.keeps s, fun _ hp => .inl (List.mem_map_of_mem hp), rfl⟩
theorem Turn.after {h h1 h2 : Heap} {R R' : StR} (a : Turn h h1 R R') (s : Sub h1 h2) : Turn h h2 R R' := ⟨a.keep.trans s, a.at_.keeps s, a.new, a.st⟩
theorem Turn.before {h h1 h2 : Heap} {R R' : StR} (hA : At h (led R)) (s : Sub h h1) (a : Turn h1 h2 R R') : Turn h h2 R R' := Turn.trans hA (Turn.same hA s) a
noncomputable def addPL (oct : Array UInt8) (ins : Int) (b : PB) : PB := { b with next := b.next + 1, top := b.top + 1, lets := b.lets ++ [⟨b.next, oct, ins, b.top + 1⟩] }
theorem nodup_mid {A B X C : List Addr} (h : (A ++ (B ++ C)).Nodup) (hX : X.Nodup) (hd : ∀ a ∈ X, a ∉ A ++ (B ++ C)) : (A ++ ((B ++ X) ++ C)).Nodup := by
  have p : (A ++ ((B ++ X) ++ C)).Perm ((A ++ (B ++ C)) ++ X) := by
    rw [List.append_assoc, List.append_assoc]
    refine List.Perm.append_left A ?_
    rw [List.append_assoc]
    exact List.Perm.append_left B List.perm_append_comm
  refine p.nodup_iff.mpr (List.nodup_append.mpr ⟨h, hX, fun a ha b hb e => hd b hb (e ▸ ha)⟩)
theorem pbs_mid {pre post : List BoxR} {b b' : BoxR} {f : PB → PB} {n : Str} (hb : b.name = n) (nb : ∀ c ∈ pre ++ post, c.name ≠ b.name) (e : pb b' = f (pb b)) : (pre ++ b' :: post).map pb = ((pre ++ b :: post).map pb).map fun c => if c.name = n then f c else c := by
  subst hb
  rw [List.map_append, List.map_cons, List.map_append, List.map_cons, List.map_append, List.map_cons, List.map_map, List.map_map]
  have e1 : pre.map pb = pre.map ((fun c => if c.name = b.name then f c else c) ∘ pb) := List.map_congr_left fun c hc => by
    show _ = if c.name = b.name then _ else _
    rw [if_neg (nb c (List.mem_append_left _ hc))]
  have e2 : post.map pb = post.map ((fun c => if c.name = b.name then f c else c) ∘ pb) := List.map_congr_left fun c hc => by
    show _ = if c.name = b.name then _ else _
    rw [if_neg (nb c (List.mem_append_right _ hc))]
  have e3 : (if (pb b).name = b.name then f (pb b) else pb b) = f (pb b) := if_pos rfl
  rw [← e1, ← e2, e3, e]
section
variable {dp un : Nat} {fr : Option (List Env)} {gd : Option (List Code)} {h : Heap} {g : Array GenState} {d : Drawn} {t : Nat} {o : OsState} {Q E : Value → Shared → Prop}
set_option maxHeartbeats 1000000 in
theorem append_letter_c (W : Wd) {R : StR} {x : Str} {fl0 : Addr} {oct : Array UInt8} {ins : Int} {u0 u1 u2 : Tok} (S : Sub W.H0 (hideAll h (adrs (led R)))) (r : Rm 6 (Ar dp fr gd un)) (hR : StOk W R) (hA : At h (led R)) (hx : x.length ≤ 1000000) (hmem : normalN x ∈ namesOf R)
    (hfl : (hideAll h (adrs (led R))).get? fl0 = some (tupO [])) (hfew : ∀ b ∈ R.boxes, b.lets.length < 10 ∧ b.next < 1000 ∧ b.top < 1000)
    (k : ∀ h' t' R' v, Turn h h' R R' → StOk W R' → R'.nv = R.nv → pbs R' = (pbs R).map (fun b => if b.name = normalN x then addPL oct ins b else b) → Q v ⟨h', g, d, t', o⟩) :
    wpAny (model prg W.w) (Ar dp fr gd un) (call (.ref 365) [.ref R.st, .str x u0, .ref fl0, .int ins u1, .bytes oct u2]) Q E ⟨h, g, d, t, o⟩ := by
  have S0 := S.trans hide_sub
  obtain ⟨mS, ho, hw, m1, m2, u3, m3⟩ := hR.m
  obtain ⟨a1, a2, a3, a4⟩ := at_st hA
  refine' callDef W [("store", .ref R.st), ("name", .str x u0), ("flags", .ref fl0), ("instant", .int ins u1), ("octets", .bytes oct u2)] S0 r ?_
  intro L h₁ F N t₁
  refine wp_absQ fun Q1 hQ1 E1 => ?_
  have X := W.X' S0
  have T := W.T' S0
  k_steps
  all_goals (try (with_reducible refine hQ1 _ _ ?_))
  rename BoxR => b
  rename b ∈ R.boxes => hb
  rename b.name = normalN x => hbn
  rename Fr _ _ _ _ => F1
  rename News _ _ _ _ => N1
  clear ho hw m1 m2 m3 N1
  refine gAbs fun G hG => ?_
  have hB := hR.boxes b hb
  obtain ⟨b1, b2, b3, b4⟩ := at_box hA hb
  obtain ⟨f1, f2, f3⟩ := hfew b hb
  have hin : ∀ a ∈ [b.D, b.l], a ∈ adrs (led R) := (allCons (List.mem_map.mpr ⟨(b.D, b.od), mem_box hb (.tail _ (.head _)), rfl⟩) (allCons (List.mem_map.mpr ⟨(b.l, b.ol), mem_box hb (.tail _ (.tail _ (.head _))), rfl⟩) allNil))
  obtain ⟨pre, post, hsp⟩ := List.append_of_mem hb
  have hnd : ((adrs (stLed R) ++ adrs (pre.flatMap boxLed)) ++ (adrs (boxLed b) ++ adrs (post.flatMap boxLed))).Nodup := by
    have := hR.nodup
    rw [led, hsp] at this
    simpa only [List.flatMap_append, List.flatMap_cons, List.map_append, List.append_assoc] using this
  have hndb : (adrs (boxLed b)).Nodup := (List.nodup_append.mp (List.nodup_append.mp hnd).2.1).1
  refine hG ?_
  clear G hG
  refine add_letter_c W (S.trans (hide_to F1.keep hin)) (by walk_at "room") hB (fun p hp => F1.keep _ _ (hA p (mem_box hb hp))) hndb (hide_to F1.keep hin _ _ hfl) f1 f2 f3 ?_
  intro h' t' od' n' y hA' hB' y1 y2 y3 y4 y5 y6 s'
  refine gAbs fun G hG => ?_
  have F2 : Fr (hideAll h [b.D, b.l]) L h' _ := ⟨F1.ns.at' fun ob q => s' _ _ (hideAll_get _ q (by
      obtain ⟨z1, z2⟩ : L ≠ b.D ∧ L ≠ b.l := ⟨gtNe (Nat.lt_of_lt_of_le (Heap.lt_size b2) F1.above), gtNe (Nat.lt_of_lt_of_le (Heap.lt_size b3) F1.above)⟩
      simpa using ⟨z1, z2⟩)), (hide_to F1.keep fun _ x => x).trans s', by rw [hideAll_size]; exact F1.above⟩
  have nDb : b.b ≠ b.D ∧ b.b ≠ b.l := by
    simp only [boxLed, adrs, List.map_append, List.map_cons, List.cons_append, List.nodup_cons, List.mem_cons, not_or] at hndb
    exact ⟨hndb.1.1, hndb.1.2.1⟩
  have c1 : (hideAll h [b.D, b.l]).get? b.b = some (instObj 163 b.D) := hideAll_get _ b1 (by simpa using nDb)
  obtain ⟨m, ho, hw, -, ⟨ub2, m2⟩, -⟩ := hB'.m
  dsimp only at ho m2
  have hy : LetOk y := hB'.lets y (List.mem_append_right _ (.head _))
  obtain ⟨my, hoy, hwy, ⟨uy1, my1⟩, -⟩ := hy.m
  have hyl : ∀ p ∈ letLed y, h'.get? p.1 = some p.2 := fun p hp => hA' p (List.mem_append_right _ (List.mem_flatMap.mpr ⟨y, List.mem_append_right _ (.head _), hp⟩))
  have hn0 : ∀ a, h.get? a = none → (hideAll h [b.D, b.l]).get? a = none := fun a q => by
    cases z : (hideAll h [b.D, b.l]).get? a with
    | none => rfl
    | some ob => have := of_hideAll _ z; rw [q] at this; cases this
  have hyn : ∀ p ∈ letLed y, p.1 ≠ L := fun p hp z => by
    have := y5 p hp
    obtain ⟨oL, _, _, ho1, _⟩ := F1.ns
    rw [z, ho1] at this; cases this
  have N2 : News (hideAll h [b.D, b.l]) L h' [(b.D, od'), (b.l, PySem.W.listOf ((b.lets ++ [y]).map fun x => .ref x.a).toArray n'), (y.a, instObj 125 y.D), (y.D, y.od), (y.fl, y.of_)] := fun p hp => by
    rcases List.mem_cons.mp hp with rfl | hp
    · exact ⟨hA' _ (.tail _ (.head _)), ltNe (Nat.lt_of_lt_of_le (Heap.lt_size b2) F1.above), hideAll_none _ (.head _)⟩
    rcases List.mem_cons.mp hp with rfl | hp
    · exact ⟨hA' _ (.tail _ (.tail _ (.head _))), ltNe (Nat.lt_of_lt_of_le (Heap.lt_size b3) F1.above), hideAll_none _ (.tail _ (.head _))⟩
    exact ⟨hyl p hp, hyn p hp, hn0 _ (noneSub F1.keep (y5 p hp))⟩
  have X2 := W.X' (S.trans (hide_to (fun _ _ q => q) hin))
  have hk1 := F1.keep
  have hyg : ∀ p ∈ letLed y, h.get? p.1 = none := fun p hp => noneSub hk1 (y5 p hp)
  clear F1 X
  refine hG ?_
  clear G hG
  k_steps
  all_goals (try (with_reducible refine hQ1 _ _ ?_))
  rename Fr _ _ _ _ => F3
  rename News _ _ _ _ => N3
  dsimp only
  have hA3 : ∀ p ∈ led R, p.1 ≠ b.D → p.1 ≠ b.l → _ := fun p hp q1 q2 => F3.keep _ _ (hideAll_get _ (hA p hp) (by simpa using ⟨q1, q2⟩))
  have inB : ∀ {a : Addr}, a ∈ [b.D, b.l] → a ∈ adrs (boxLed b) ++ adrs (post.flatMap boxLed) := fun ha => List.mem_append_left _ (by
    rcases List.mem_cons.mp ha with rfl | ha
    · exact .tail _ (.head _)
    · rw [List.mem_singleton.mp ha]; exact .tail _ (.tail _ (.head _)))
  have hledR : led R = (stLed R ++ pre.flatMap boxLed) ++ (boxLed b ++ post.flatMap boxLed) := by
    rw [led, hsp]; simp only [List.flatMap_append, List.flatMap_cons, List.append_assoc]
  have offA : ∀ p ∈ stLed R ++ pre.flatMap boxLed, p.1 ≠ b.D ∧ p.1 ≠ b.l := fun p hp => by
    have hm : p.1 ∈ adrs (stLed R) ++ adrs (pre.flatMap boxLed) := by rw [← List.map_append]; exact List.mem_map_of_mem hp
    exact ⟨(List.nodup_append.mp hnd).2.2 _ hm _ (inB (.head _)), (List.nodup_append.mp hnd).2.2 _ hm _ (inB (.tail _ (.head _)))⟩
  have offC : ∀ p ∈ post.flatMap boxLed, p.1 ≠ b.D ∧ p.1 ≠ b.l := fun p hp => by
    have hm : p.1 ∈ adrs (post.flatMap boxLed) := List.mem_map_of_mem hp
    have z := (List.nodup_append.mp (List.nodup_append.mp hnd).2.1).2.2
    exact ⟨(z _ (.tail _ (.head _)) _ hm).symm, (z _ (.tail _ (.tail _ (.head _))) _ hm).symm⟩
  have offL : ∀ p ∈ b.lets.flatMap letLed, p.1 ≠ b.D ∧ p.1 ≠ b.l := fun p hp => by
    have hm : p.1 ∈ adrs (b.lets.flatMap letLed) := List.mem_map_of_mem hp
    have z : (adrs [(b.b, instObj 163 b.D), (b.D, b.od), (b.l, b.ol), (b.gA, b.og)] ++ adrs (b.lets.flatMap letLed)).Nodup := by rw [← List.map_append]; exact hndb
    have z := (List.nodup_append.mp z).2.2
    exact ⟨(z _ (.tail _ (.head _)) _ hm).symm, (z _ (.tail _ (.tail _ (.head _))) _ hm).symm⟩
  have hg : b.gA ≠ b.D ∧ b.gA ≠ b.l := by
    have z := hndb
    simp only [boxLed, adrs, List.map_append, List.map_cons, List.cons_append, List.nodup_cons, List.mem_cons, not_or] at z
    exact ⟨fun e => z.2.1.2.1 e.symm, fun e => z.2.2.1.1 e.symm⟩
  have inR : ∀ p ∈ boxLed b, p ∈ led R := fun p hp => mem_box hb hp
  have nb : ∀ c ∈ pre ++ post, c.name ≠ b.name := by
    have z := hR.names
    rw [namesOf, hsp, List.map_append, List.map_cons] at z
    intro c hc e
    rcases List.mem_append.mp hc with hc | hc
    · exact (List.nodup_append.mp z).2.2 _ (List.mem_map_of_mem hc) _ (.head _) e
    · exact (List.nodup_cons.mp (List.nodup_append.mp z).2.1).1 (e ▸ List.mem_map_of_mem hc)
  try (with_reducible refine hQ1 _ _ ?_)
  refine k _ _ { R with boxes := pre ++ { b with od := od', ol := PySem.W.listOf ((b.lets ++ [y]).map fun x => .ref x.a).toArray n', next := b.next + 1, top := b.top + 1, lets := b.lets ++ [y] } :: post } _ ⟨(hide_mono hin).trans F3.keep, ?_, ?_, rfl⟩ ⟨hR.m, ?_, hR.s, ?_, ?_, hR.lo, ?_⟩ rfl ?_
  · intro p hp
    simp only [led, stLed, List.flatMap_append, List.flatMap_cons, ← List.append_assoc] at hp
    rcases List.mem_append.mp hp with hp | hp
    · rcases List.mem_append.mp hp with hp | hp
      · have z := offA p hp
        exact hA3 p (by rw [hledR]; exact List.mem_append_left _ hp) z.1 z.2
      · simp only [boxLed, List.flatMap_append, List.flatMap_cons, List.flatMap_nil, List.append_nil] at hp
        rcases List.mem_append.mp hp with hp | hp
        · simp only [List.mem_cons, List.not_mem_nil, or_false] at hp
          rcases hp with rfl | rfl | rfl | rfl
          · exact F3.keep _ _ c1
          · exact (N3 _ (.tail _ (.head _))).1
          · exact (N3 _ (.tail _ (.tail _ (.head _)))).1
          · exact hA3 (b.gA, b.og) (inR _ (.tail _ (.tail _ (.tail _ (.head _))))) hg.1 hg.2
        · rcases List.mem_append.mp hp with hp | hp
          · have z := offL p hp
            exact hA3 p (inR _ (List.mem_append_right _ hp)) z.1 z.2
          · exact (N3 p (.tail _ (.tail _ (.tail _ hp)))).1
    · have z := offC p hp
      exact hA3 p (by rw [hledR]; exact List.mem_append_right _ (List.mem_append_right _ hp)) z.1 z.2
  · intro p hp
    have mm : ∀ p ∈ led R, p.1 ∈ adrs (led R) := fun p hp => List.mem_map_of_mem hp
    simp only [led, stLed, List.flatMap_append, List.flatMap_cons, ← List.append_assoc] at hp
    rcases List.mem_append.mp hp with hp | hp
    · rcases List.mem_append.mp hp with hp | hp
      · exact .inl (mm p (by rw [hledR]; exact List.mem_append_left _ hp))
      · simp only [boxLed, List.flatMap_append, List.flatMap_cons, List.flatMap_nil, List.append_nil] at hp
        rcases List.mem_append.mp hp with hp | hp
        · simp only [List.mem_cons, List.not_mem_nil, or_false] at hp
          rcases hp with rfl | rfl | rfl | rfl
          · exact .inl (mm _ (inR _ (.head _)))
          · exact .inl (mm (b.D, b.od) (inR _ (.tail _ (.head _))))
          · exact .inl (mm (b.l, b.ol) (inR _ (.tail _ (.tail _ (.head _)))))
          · exact .inl (mm _ (inR _ (.tail _ (.tail _ (.tail _ (.head _))))))
        · rcases List.mem_append.mp hp with hp | hp
          · exact .inl (mm _ (inR _ (List.mem_append_right _ hp)))
          · exact .inr (hyg p hp)
    · exact .inl (mm p (by rw [hledR]; exact List.mem_append_right _ (List.mem_append_right _ hp)))
  · have z := hR.b
    rw [hsp] at z
    simpa only [List.map_append, List.map_cons] using z
  · intro c hc
    rcases List.mem_append.mp hc with hc | hc
    · exact hR.boxes c (by rw [hsp]; exact List.mem_append_left _ hc)
    · rcases List.mem_cons.mp hc with rfl | hc
      · exact hB'
      · exact hR.boxes c (by rw [hsp]; exact List.mem_append_right _ (.tail _ hc))
  · have z := nodup_mid (X := adrs (letLed y)) hnd y6 fun a ha hm => by
      obtain ⟨p, hp, rfl⟩ := List.mem_map.mp ha
      have : p.1 ∈ adrs (led R) := by rw [hledR]; simpa only [adrs, List.map_append] using hm
      obtain ⟨p', hp', e⟩ := List.mem_map.mp this
      have q1 := hA p' hp'
      rw [e, hyg p hp] at q1; cases q1
    simpa only [adrs, led, stLed, boxLed, List.flatMap_append, List.flatMap_cons, List.flatMap_nil, List.append_nil, List.map_append, List.append_assoc, List.map_cons, List.map_nil, List.cons_append, List.nil_append] using z
  · have z := hR.few
    rw [hsp] at z
    simpa only [List.length_append, List.length_cons] using z
  · rw [pbs, pbs, hsp]
    exact pbs_mid hbn nb (by simp only [pb, addPL, List.map_append, List.map_cons, List.map_nil, pl, y1, y2, y3, y4])
end

end
section
theorem stored_new {kvs : List (Str × Value)} {k : Str} {v : Value} (h : k ∉ kvs.map (·.1)) : stored kvs k v = kvs ++ [(k, v)] := by
  unfold stored
  rw [if_neg]
  intro hc
  obtain ⟨x, hx, e⟩ := List.any_eq_true.mp hc
  exact h (List.mem_map.mpr ⟨x, hx, by simpa using e⟩)
theorem bx_keys (R : StR) : (R.boxes.map fun b => (b.name, Value.ref b.b)).map (·.1) = namesOf R := by rw [List.map_map]; rfl
theorem ok_addBox {W : Wd} {R : StR} {b : BoxR} {od' oB' : Obj} {n : Int} {m : Str → Option Value} (hR : StOk W R) (hb : BoxOk b) (hnew : b.name ∉ namesOf R) (few : R.boxes.length < 60) (off : ∀ p ∈ boxLed b, p.1 ∉ adrs (led R)) (hnd : (adrs (boxLed b)).Nodup)
    (ho : OdIs od' m) (hw : Within m stNs) (m1 : m "boxes" = some (.ref R.dB)) (m2 : m "subscribed" = some (.ref R.lS)) (m3 : ∃ u, m "next_validity" = some (.int n u))
    (hB : oB'.IsDictOf (strKind prg W.w) (stored (R.boxes.map fun b => (b.name, Value.ref b.b)) b.name (.ref b.b))) : StOk W { R with od := od', oB := oB', nv := n, boxes := R.boxes ++ [b] } := by
  refine ⟨(let ⟨u, e⟩ := m3; ⟨m, ho, hw, m1, m2, u, e⟩), ?_, hR.s, fun c hc => ?_, ?_, hR.lo, ?_⟩
  · rw [stored_new (by rw [bx_keys]; exact hnew)] at hB
    simpa only [List.map_append, List.map_cons, List.map_nil] using hB
  · rcases List.mem_append.mp hc with hc | hc
    · exact hR.boxes c hc
    · rw [List.mem_singleton.mp hc]; exact hb
  · have e : adrs (led { R with od := od', oB := oB', nv := n, boxes := R.boxes ++ [b] }) = adrs (led R) ++ adrs (boxLed b) := by
      simp only [adrs, led, stLed, List.flatMap_append, List.flatMap_cons, List.flatMap_nil, List.append_nil, List.map_append, List.map_cons, List.map_nil, List.append_assoc]
    show (adrs (led _)).Nodup
    rw [e]
    exact List.nodup_append.mpr ⟨hR.nodup, hnd, fun x hx y hy q => by
      obtain ⟨p, hp, rfl⟩ := List.mem_map.mp hy
      exact off p hp (q ▸ hx)⟩
  · show (R.boxes ++ [b]).length ≤ 60
    rw [List.length_append, List.length_singleton]; omega
theorem turn_addBox {h h' : Heap} {R : StR} {b : BoxR} {od' oB' : Obj} {n : Int} (hA : At h (led R)) (hnd : ((led R).map (·.1)).Nodup) (k : Sub (hideAll h [R.dB, R.dS]) h') (e1 : h'.get? R.dB = some oB') (e2 : h'.get? R.dS = some od') (hb : At h' (boxLed b)) (new : ∀ p ∈ boxLed b, h.get? p.1 = none) :
    Turn h h' R { R with od := od', oB := oB', nv := n, boxes := R.boxes ++ [b] } := by
  have hnd' := hnd
  simp only [led, stLed, List.map_append, List.map_cons, List.cons_append, List.nil_append, List.nodup_cons, List.mem_cons, not_or] at hnd'
  obtain ⟨⟨z1, z2, z3, z4⟩, ⟨z5, z6, z7⟩, ⟨z8, z9⟩, -⟩ := hnd'
  have hin : ∀ a ∈ [R.dB, R.dS], a ∈ adrs (led R) := (allCons (.tail _ (.tail _ (.head _))) (allCons (.tail _ (.head _)) allNil))
  refine ⟨(hide_mono hin).trans k, fun p hp => ?_, fun p hp => ?_, rfl⟩
  · simp only [led, stLed, List.flatMap_append, List.flatMap_cons, List.flatMap_nil, List.append_nil] at hp
    rcases List.mem_append.mp hp with hp | hp
    · simp only [List.mem_cons, List.not_mem_nil, or_false] at hp
      rcases hp with rfl | rfl | rfl | rfl
      · exact k _ _ (hideAll_get _ (hA _ (.head _)) (by simpa using ⟨z2, z1⟩))
      · exact e2
      · exact e1
      · exact k _ _ (hideAll_get _ (hA _ (.tail _ (.tail _ (.tail _ (.head _))))) (by simpa using ⟨fun e => z8 e.symm, fun e => z6 e.symm⟩))
    · rcases List.mem_append.mp hp with hp | hp
      · have hm : p.1 ∈ (R.boxes.flatMap boxLed).map (·.1) := List.mem_map_of_mem hp
        exact k _ _ (hideAll_get _ (hA p (List.mem_append_right _ hp)) (by simpa using ⟨fun e => z9 (e ▸ hm), fun e => z7 (e ▸ hm)⟩))
      · exact hb p hp
  · have mm : ∀ p ∈ led R, p.1 ∈ adrs (led R) := fun p hp => List.mem_map_of_mem hp
    simp only [led, stLed, List.flatMap_append, List.flatMap_cons, List.flatMap_nil, List.append_nil] at hp
    rcases List.mem_append.mp hp with hp | hp
    · simp only [List.mem_cons, List.not_mem_nil, or_false] at hp
      rcases hp with rfl | rfl | rfl | rfl
      · exact .inl (mm (R.st, instObj 293 R.dS) (.head _))
      · exact .inl (mm (R.dS, R.od) (.tail _ (.head _)))
      · exact .inl (mm (R.dB, R.oB) (.tail _ (.tail _ (.head _))))
      · exact .inl (mm (R.lS, R.oS) (.tail _ (.tail _ (.tail _ (.head _)))))
    · rcases List.mem_append.mp hp with hp | hp
      · exact .inl (mm p (List.mem_append_right _ hp))
      · exact .inr (new p hp)
theorem putStr {w : World} {A : Around} {E : Value → Shared → Prop} {s : Shared} {h₀ : Heap} {L a : Addr} {m : Str → Option Value} {news : Led} {ob : Obj} {gg : Obj → Led} {kvs : List (Str × Value)} {x : Str} {u : Tok} {v : Value} {Q : Unit → Shared → Prop}
    (h : ∀ h' o', Fr h₀ L h' m → News h₀ L h' (gg o') → o'.IsDictOf (PySem.strKind prg w) (stored kvs x v) → Q () { s with heap := h', toks := s.toks + 1 })
    (F : Fr h₀ L s.heap m := by assumption) (N : News h₀ L s.heap news := by assumption) (U : UpdF a ob news gg := by k_updF) (hd : ob.IsDictOf (PySem.strKind prg w) kvs := by assumption) (hz : kvs.length ≤ sizeLine := by first | size_fits | (rw [sizeLine_eq]; (try simp only [List.length_map]); omega)) :
    wpAny (model prg w) A (setItem (.ref a) (.str x u) v) Q E s := kda_set (knd := PySem.strKind prg w) F N U hd (strKind_is _ _ _ _) hz h
end
local macro_rules | `(tactic| walk_at "setItem ref str") => `(tactic| (k_dflt (refine' putStr ?_; k_whole); intro h' oB' F' N' hd'; (try dsimp only at N')))
section
section
variable {dp un : Nat} {fr : Option (List Env)} {gd : Option (List Code)} {h : Heap} {g : Array GenState} {d : Drawn} {t : Nat} {o : OsState} {Q E : Value → Shared → Prop}
set_option maxHeartbeats 1000000 in
theorem create_box_c (W : Wd) {R : StR} {x : Str} {v : Int} {u0 u1 : Tok} (S : Sub W.H0 (hideAll h (adrs (led R)))) (r : Rm 8 (Ar dp fr gd un)) (hR : StOk W R) (hA : At h (led R)) (hx : x.length ≤ 90000) (hck : checkOk (normalN x) = true) (hnew : normalN x ∉ namesOf R)
    (hv : v = R.nv) (hnv : R.nv < 1000000) (few : R.boxes.length < 60)
    (k : ∀ h' t' R' u, Turn h h' R R' → StOk W R' → R'.nv = R.nv + 1 → pbs R' = pbs R ++ [⟨normalN x, R.nv, 1, 1, []⟩] → Q (.int R.nv u) ⟨h', g, d, t', o⟩) :
    wpAny (model prg W.w) (Ar dp fr gd un) (call (.ref 339) [.ref R.st, .str x u0, .int v u1]) Q E ⟨h, g, d, t, o⟩ := by
  subst hv
  have S0 := S.trans hide_sub
  have hnl := normal_len x
  obtain ⟨mS, ho, hw, m1, m2, u3, m3⟩ := hR.m
  obtain ⟨a1, a2, a3, a4⟩ := at_st hA
  refine' callDef W [("store", .ref R.st), ("name", .str x u0), ("validity", .int R.nv u1)] S0 r ?_
  intro L h₁ F N t₁
  refine wp_absQ fun Q1 hQ1 E1 => ?_
  have X := W.X' S0
  have T := W.T' S0
  have hv' : R.nv ≤ R.nv := Int.le_refl _
  k_steps
  all_goals (try (with_reducible refine hQ1 _ _ ?_))
  rename Fr _ _ _ _ => F1
  refine make_box_c W (A := Ar dp fr gd un) (subF F1 S0) (by walk_at "room") (by walk_at "om") ?_
  intro h2 t2 b fb okb e1 e2 e3 e4 e5
  have hbl : boxLed b = [(b.b, instObj 163 b.D), (b.D, b.od), (b.l, b.ol), (b.gA, b.og)] := by rw [boxLed, e5]; rfl
  have hb0 : ∀ p ∈ boxLed b, h.get? p.1 = none := fun p hp => noneSub F1.keep (fb.new p hp)
  have nR : ∀ p ∈ led R, ∀ q ∈ boxLed b, q.1 ≠ p.1 := fun p hp q hq e => by
    have := hA p hp
    rw [← e, hb0 q hq] at this; cases this
  have n1 := fun p hp => nR (R.dB, R.oB) (mem_st (.tail _ (.tail _ (.head _)))) p hp
  have n2 := fun p hp => nR (R.dS, R.od) (mem_st (.tail _ (.head _))) p hp
  have n3 : R.dS ≠ R.dB := by
    have z := hR.nodup
    simp only [led, stLed, List.map_cons, List.cons_append, List.nil_append, List.nodup_cons, List.mem_cons, not_or] at z
    exact z.2.1.1
  have n4 := neN n3.symm
  rw [hbl] at n1 n2
  simp only [List.forall_mem_cons] at n1 n2
  obtain ⟨i1, i2, i3, i4, -⟩ := n1
  obtain ⟨j1, j2, j3, j4, -⟩ := n2
  have F2 := rebase (frSub fb.keep F1) [R.dB, R.dS]
  have N2 : News (hideAll h [R.dB, R.dS]) L h2 [(R.dB, R.oB), (R.dS, R.od), (b.b, instObj 163 b.D), (b.D, b.od), (b.l, b.ol), (b.gA, b.og)] := fun p hp => by
    rcases List.mem_cons.mp hp with rfl | hp
    · exact ⟨fb.keep _ _ (F1.keep _ _ a3), ltNe (Nat.lt_of_lt_of_le (Heap.lt_size a3) F1.above), hideAll_none _ (.head _)⟩
    rcases List.mem_cons.mp hp with rfl | hp
    · exact ⟨fb.keep _ _ (F1.keep _ _ a2), ltNe (Nat.lt_of_lt_of_le (Heap.lt_size a2) F1.above), hideAll_none _ (.tail _ (.head _))⟩
    rw [← hbl] at hp
    refine ⟨fb.at_ p hp, fun z => ?_, ?_⟩
    · have := fb.new p hp
      obtain ⟨oL, _, _, ho1, _⟩ := F1.ns
      rw [z, ho1] at this; cases this
    · cases q : (hideAll h [R.dB, R.dS]).get? p.1 with
      | none => rfl
      | some ob => have := of_hideAll _ q; rw [hb0 p hp] at this; cases this
  have X2 : (K39 W.w.params).In (hideAll h [R.dB, R.dS]) := W.X' (S.trans (hide_mono (allCons (.tail _ (.tail _ (.head _))) (allCons (.tail _ (.head _)) allNil))))
  have a1' : (hideAll h [R.dB, R.dS]).get? R.st = some (instObj 293 R.dS) := hideAll_get _ a1 (by
    have z := hR.nodup
    simp only [led, stLed, List.map_cons, List.cons_append, List.nil_append, List.nodup_cons, List.mem_cons, not_or] at z
    simpa using ⟨z.1.2.1, z.1.1⟩)
  have hRb := hR.b
  have hfs := fb.keep
  have hk1 := F1.keep
  clear F1 X
  k_steps
  all_goals (try (with_reducible refine hQ1 _ _ ?_))
  rename_i F9 N9 ho9 hw9 _
  dsimp only
  have hb9 : At _ (boxLed b) := fun p hp => (N9 p (by rw [hbl] at hp; exact .tail _ (.tail _ hp))).1
  try (with_reducible refine hQ1 _ _ ?_)
  refine k _ _ _ _ (turn_addBox hA hR.nodup F9.keep (N9 _ (.head _)).1 (N9 _ (.tail _ (.head _))).1 hb9 hb0) (ok_addBox hR okb (by rw [e1]; exact hnew) few (fun p hp hm => ?_) fb.nodup ho9 hw9 (by walk_at "od_look") (by walk_at "od_look") ⟨_, by walk_at "od_look"⟩ (by rw [e1]; assumption)) rfl ?_
  · obtain ⟨q, hq, e⟩ := List.mem_map.mp hm
    exact nR q hq p hp e.symm
  · show (R.boxes ++ [b]).map pb = _
    rw [List.map_append, List.map_cons, List.map_nil, pb, e1, e2, e3, e4, e5]; rfl
end

end
section
section
variable {prog : Program} {w : World} {A : Around} {env : Env} {g : Array GenState} {d : Drawn} {t : Nat} {o : OsState} {h₁ h : Heap}
/-- a comprehension over nothing -/
theorem comp_none {scope : Scope} {cl : List (Str × Addr)} {x : Str} {ifs : List Expr} {elt : Expr} {I : Addr} {fp wr : List Addr} {n : Nat} {P : Nat → Value → Prop} {St : Nat → Heap → Prop} {Q : Value → Shared → Prop} (W : Walks prog w A I fp wr n P St) (hn0 : n = 0) (hst : St 0 h) (hfp : ∀ b ∈ fp, b < h.objs.size)
    (hs : Sub h₁ h) (hle : h₁.objs.size ≤ h.objs.size) (hwr : wr = [I]) (hI : h₁.get? I = none)
    (k : ∀ D h' t', Sub h₁ h' → h'.IsList D #[] → h₁.get? D = none → Q (.ref D) ⟨h', g, d, t', o⟩) :
    CompAt prog w A env scope cl x ifs elt Q (.ref I) ⟨h, g, d, t, o⟩ := by
  subst hn0
  subst hwr
  refine ⟨I, fp, [I], 0, P, St, h, g, d, t, o, rfl, rfl, W, Nat.zero_le _, hst, hfp, fun _ => False, fun _ z => z.elim, fun _ _ _ _ _ _ _ z => z, fun C D i ys h' => Sub h₁ h', CompInv.toN ⟨?_, ?_, ?_⟩, ?_⟩
  · exact fun C D h' _ _ hs' => hs.trans hs'
  · exact fun C D i ys h₂ h' hC hD hJ hk => compStable hJ (Nat.le_trans hle hC) (Nat.le_trans hle hD) hI hk
  · intro C D i v ys h₂ t₂ m E' hC hD hCD hi; exact absurd hi (Nat.not_lt_zero _)
  · intro C D ys h' t' hC hD hl hys hJ
    have : ys = [] := List.eq_nil_of_length_eq_zero (Nat.le_zero.mp hys)
    subst this
    exact k D h' t' hJ hl (Heap.get?_none_of_le (Nat.le_trans hle hD))
theorem comp_noneA {scope : Scope} {cl : List (Str × Addr)} {x y : Str} {ifs : List Expr} {elt : Expr} {I : Addr} {fp wr : List Addr} {n : Nat} {P : Nat → Value → Prop} {St : Nat → Heap → Prop} {Q : Flow → Shared → Prop} {m : Str → Option Value} {h₀ : Heap} (W : Walks prog w A I fp wr n P St) (hn0 : n = 0) (hst : St 0 h) (hfp : ∀ b ∈ fp, b < h.objs.size)
    (F : Fr h₀ env.locals h₁ m) (hs : Sub h₁ h) (hle : h₁.objs.size ≤ h.objs.size) (hwr : wr = [I]) (hI : h₁.get? I = none)
    (k : ∀ D h' t', (∀ b ob, b ≠ env.locals → h₁.get? b = some ob → h'.get? b = some ob) → h'.IsList D #[] → h₁.get? D = none → h'.Ns env.locals (fun z => if z = y then some (.ref D) else m z) → Q .next ⟨h', g, d, t', o⟩) :
    CompAtA prog w A env scope cl x y ifs elt Q (.ref I) ⟨h, g, d, t, o⟩ := by
  subst hn0
  subst hwr
  have hLs : env.locals < h.objs.size := Nat.lt_of_lt_of_le F.ns.lt hle
  refine ⟨I, fp, [I], 0, P, St, h, g, d, t, o, m, rfl, rfl, W, Nat.zero_le _, hst, hfp, hLs, fun _ => False, fun _ z => z.elim, fun _ _ _ _ _ _ _ z => z, fun C D i ys h' => Sub h₁ h' ∧ h.objs.size ≤ C ∧ h.objs.size ≤ D, CompInv.toN ⟨?_, ?_, ?_⟩, ?_, ?_⟩
  · exact fun C D h' hC hD hs' => ⟨hs.trans hs', hC, hD⟩
  · exact fun C D i ys h₂ h' hC hD hJ hk => ⟨compStable hJ.1 (Nat.le_trans hle hC) (Nat.le_trans hle hD) hI hk, hC, hD⟩
  · intro C D i v ys h₂ t₂ m E' hC hD hCD hi; exact absurd hi (Nat.not_lt_zero _)
  · exact fun C D i ys h₂ hJ => F.ns.keeps hJ.1
  · intro C D ys h₂ h' t' hC hD hl hys hJ hn hk
    have : ys = [] := List.eq_nil_of_length_eq_zero (Nat.le_zero.mp hys)
    subst this
    exact k D h' t' (fun b ob hb q => (hk b (ltNe (Nat.lt_of_lt_of_le (Heap.lt_size q) (Nat.le_trans hle hC))) hb).trans (hJ.1 b ob q)) hl (Heap.get?_none_of_le (Nat.le_trans hle hD)) hn
end
end
local macro_rules | `(tactic| walk_at "exec For Name ListComp cons nil") => `(tactic| k_dflt (refine' for_heap ?_))
section
/-- a new list of which all is known but its object's word -/
theorem newsList {h₀ h₁ h' : Heap} {L D : Addr} {m : Str → Option Value} {news : Led} {vs : Array Value} (F : Fr h₀ L h₁ m) (N : News h₀ L h₁ news) (hs : Sub h₁ h') (hl : h'.IsList D vs) (hD : h₁.get? D = none) : ∃ od, (∃ n, od.cls = .type "list" ∧ od.data = .seq vs n) ∧ News h₀ L h' ((D, od) :: news) := by
  obtain ⟨od, h1, h2, n, h3⟩ := hl
  exact ⟨od, ⟨n, h2, h3⟩, newsNew F hs N ⟨hD, h1⟩⟩
open SeqAt in
theorem eq_lst {prog : Program} {w : World} {A : Around} {E : Value → Shared → Prop} {s : Shared} {l : List Told} {v v' : Value} {Q : Value → Shared → Prop} (x : Tv s.heap (.lst l) v) (y : Tv s.heap (.lst l) v') (hu : A.units + deepL l + 1 < cLine) (h : Q (.bool true) s) :
    wpAny (model prog w) A (compareOp .Eq v v') Q E s := by
  simp only [Tv] at x y
  obtain ⟨a, vs, rfl, ha, hl⟩ := x
  obtain ⟨b, vs', rfl, hb, hl'⟩ := y
  have n1 := hl.length
  have n2 := hl'.length
  have hi : A.in1.units = A.units + 1 := rfl
  have := RcAt.lists (A := A) (e := fun _ => true) ha hb (by simp [n1, n2]) (by omega) (fun j h1 h2 => tvl_eq hl hl' (by omega) j _ _ (by simp at h1; simp [h1]) (by simp at h2; simp [h2]))
  rw [all_true] at this
  exact cmp_ofEq (this prog w E Q h)
section
variable {dp un : Nat} {fr : Option (List Env)} {gd : Option (List Code)} {h : Heap} {g : Array GenState} {d : Drawn} {t : Nat} {o : OsState} {Q E : Value → Shared → Prop}
set_option maxHeartbeats 1000000 in
theorem uids_c (W : Wd) {B : BoxR} (S : Sub W.H0 h) (r : Rm 2 (Ar dp fr gd un)) (hB : BoxOk B) (hA : At h (boxLed B)) (he : B.lets = [])
    (k : ∀ h' t' q, Sub h h' → h.get? q = none → h'.IsList q #[] → Q (.ref q) ⟨h', g, d, t', o⟩) :
    wpAny (model prg W.w) (Ar dp fr gd un) (call (.ref 155) [.ref B.b]) Q E ⟨h, g, d, t, o⟩ := by
  obtain ⟨m, ho, hw, ⟨u1, m1⟩, ⟨u2, m2⟩, ⟨u3, m3⟩, ⟨u4, m4⟩, ⟨u5, m5⟩, m6, m7⟩ := hB.m
  have a1 := hA _ (.head _)
  have a2 := hA _ (.tail _ (.head _))
  have a3 := hA _ (.tail _ (.tail _ (.head _)))
  have hl := hB.l
  rw [he] at hl
  refine' callDef W [("self", .ref B.b)] S r ?_
  intro L h₁ F N t₁
  refine wp_absQ fun Q1 hQ1 E1 => ?_
  have X := W.X' S
  have T := W.T' S
  k_steps
  all_goals (try (with_reducible refine hQ1 _ _ ?_))
  rename Fr _ _ _ _ => F1
  refine iter_list (hl.isList (F1.keep _ _ a3)) rfl ?_
  intro I h₂ hI1 hI2 hs2 hfp hW hst
  refine comp_none hW rfl hst hfp hs2 (subLe hs2 hI1 (hfp I (.head _))) rfl hI2 ?_
  intro D h' t' hs hD hn
  try (with_reducible refine hQ1 _ _ ?_)
  exact k _ _ _ (Sub.trans F1.keep hs) (noneSub F1.keep hn) hD
end
end
local macro_rules | `(tactic| walk_at "call ref") => `(tactic| ((with_reducible refine' atRef 155 ?_); (refine uids_c _ (by walk_at "s") (by walk_at "room") (by assumption) (by walk_at "at") (by assumption) ?_); intro h' t' q hs hn hl; have F' := frSub hs (by assumption); have hN' := newsList (by assumption) (by assumption) hs hl hn; obtain ⟨od', hod', N'⟩ := hN'))
section
section
variable {dp un : Nat} {fr : Option (List Env)} {gd : Option (List Code)} {h : Heap} {g : Array GenState} {d : Drawn} {t : Nat} {o : OsState} {Q E : Value → Shared → Prop}
set_option maxHeartbeats 1000000 in
theorem copy_letters_c (W : Wd) {b q0 q1 : Addr} (S : Sub W.H0 h) (r : Rm 2 (Ar dp fr gd un)) (hq : h.IsList q0 #[])
    (k : ∀ h' t' q, Sub h h' → New h h' q (PySem.W.listOf #[] 0) → Q (.ref q) ⟨h', g, d, t', o⟩) :
    wpAny (model prg W.w) (Ar dp fr gd un) (call (.ref 198) [.ref b, .ref q0, .ref q1]) Q E ⟨h, g, d, t, o⟩ := by
  refine' callDefC W [("box", .ref b), ("uids", .ref q0), ("goal", .ref q1)] S r ?_
  intro L h₁ cells F N Y t₁
  refine wp_absQ fun Q1 hQ1 E1 => ?_
  have X := W.X' S
  have T := W.T' S
  obtain ⟨oc, rfl, hoc⟩ := Y.one
  clear Y
  k_steps
  all_goals (try (with_reducible refine hQ1 _ _ ?_))
  rename_i v n c h3 F3 N3 iv el _ _ _ _ _
  have hv : v = [] := List.eq_nil_of_length_eq_zero (by rw [iv.length]; exact el)
  subst hv
  refine iter_list (News.isList N3 (.head _)) rfl ?_
  intro I h₂ hI1 hI2 hs2 hfp hW hst
  dsimp only
  refine comp_none hW rfl hst hfp hs2 (subLe hs2 hI1 (hfp I (.head _))) rfl hI2 ?_
  intro D4 h4 t4 hs4 hD4 hn4
  have F4 := frSub hs4 F3
  have N4 := newsSub hs4 N3
  refine iter_list hD4 rfl ?_
  intro I5 h5 hI51 hI52 hs5 hfp5 hW5 hst5
  refine for_empty hW5 rfl (offL F4 hI52) hst5 (F4.ns.keeps hs5) fun h6 t6 hn6 hk6 => ?_
  have F6 := frEmpty F4 hs5 hI52 hn6 hk6
  have N6 := newsEmpty N4 hs5 hI52 hk6
  clear F3 F4 N3 N4
  dsimp only
  k_steps
  all_goals (try (with_reducible refine hQ1 _ _ ?_))
  dsimp only
  try (with_reducible refine hQ1 _ _ ?_)
  exact k _ _ _ F6.keep (newOf N6 (.tail _ (.head _)))
end
end
local macro_rules | `(tactic| walk_at "call ref") => `(tactic| ((with_reducible refine' atRef 198 ?_); (refine copy_letters_c _ (by walk_at "s") (by walk_at "room") (by assumption) ?_); intro h' t' q hs hn; walk_at "nn"))
section
section
variable {dp un : Nat} {fr : Option (List Env)} {gd : Option (List Code)} {h : Heap} {g : Array GenState} {d : Drawn} {t : Nat} {o : OsState} {Q E : Value → Shared → Prop}
set_option maxHeartbeats 1000000 in
theorem expunge_c (W : Wd) {B : BoxR} {q0 : Addr} (S : Sub W.H0 h) (r : Rm 4 (Ar dp fr gd un)) (hB : BoxOk B) (hA : At h (boxLed B)) (he : B.lets = []) (hq : h.IsList q0 #[])
    (k : ∀ h' t' q, Sub h h' → New h h' q (PySem.W.listOf #[] 0) → Q (.ref q) ⟨h', g, d, t', o⟩) :
    wpAny (model prg W.w) (Ar dp fr gd un) (call (.ref 193) [.ref B.b, .ref q0]) Q E ⟨h, g, d, t, o⟩ := by
  obtain ⟨m, ho, hw, -⟩ := hB.m
  have a1 := hA _ (.head _)
  have a2 := hA _ (.tail _ (.head _))
  refine' callDefC W [("box", .ref B.b), ("uids", .ref q0)] S r ?_
  intro L h₁ cells F N Y t₁
  refine wp_absQ fun Q1 hQ1 E1 => ?_
  have X := W.X' S
  have T := W.T' S
  obtain ⟨oc, oc2, rfl, hoc, hoc2⟩ := Y.two
  clear Y
  k_steps
  all_goals (try (with_reducible refine hQ1 _ _ ?_))
  refine for_heap ?_
  k_steps
  all_goals (try (with_reducible refine hQ1 _ _ ?_))
  rename Fr _ _ _ _ => F1
  rename News _ _ _ _ => N1
  obtain ⟨oq, hoq, hoq2⟩ := hq
  refine iter_list (vs := []) ⟨oq, F1.keep _ _ hoq, hoq2⟩ rfl ?_
  intro I5 h5 hI51 hI52 hs5 hfp5 hW5 hst5
  refine for_empty hW5 rfl (offL F1 hI52) hst5 (F1.ns.keeps hs5) fun h6 t6 hn6 hk6 => ?_
  have F6 := frEmpty F1 hs5 hI52 hn6 hk6
  have N6 := newsEmpty N1 hs5 hI52 hk6
  clear F1 N1
  dsimp only
  k_steps
  all_goals (try (with_reducible refine hQ1 _ _ ?_))
  rename_i h7 t7 q7 hs7 hn7 hl7 F7 od7 _ N7
  refine iter_list (vs := []) hl7 rfl ?_
  intro I8 h8 hI81 hI82 hs8 hfp8 hW8 hst8
  refine comp_noneA hW8 rfl hst8 hfp8 F7 hs8 (subLe hs8 hI81 (hfp8 I8 (.head _))) rfl hI82 ?_
  intro D9 h9 t9 hk9 hD9 hn9 hns9
  have F9 : Fr h L h9 _ := ⟨hns9, fun b ob q => hk9 b ob (ltNe (Nat.lt_of_lt_of_le (Heap.lt_size q) F7.above)) (F7.keep _ _ q), F7.above⟩
  have N9 : News h L h9 _ := fun p hp => ⟨hk9 _ _ (N7 p hp).2.1 (N7 p hp).1, (N7 p hp).2⟩
  obtain ⟨od9, hd91, hd92⟩ := hD9
  have N9' : News h L h9 ((D9, od9) :: _) := fun p hp => by
    rcases List.mem_cons.mp hp with rfl | hp
    · refine ⟨hd91, fun z => ?_, noneSub F7.keep hn9⟩
      obtain ⟨ob, hx1, _⟩ := ns_notF F7.ns
      have z' : D9 = L := z
      rw [z', hx1] at hn9; cases hn9
    · exact N9 p hp
  clear F6 F7 N6 N7 N9
  dsimp only
  k_steps
  all_goals (try (with_reducible refine hQ1 _ _ ?_))
  rename Fr _ _ _ _ => Fa
  rename News _ _ _ _ => Na
  refine eq_lst (l := []) (by simp only [Tv]; exact ⟨D9, [], rfl, ⟨od9, (Na _ (.tail _ (.head _))).1, hd92⟩, tvl_nil⟩) (by simp only [Tv]; exact ⟨_, [], rfl, ⟨_, (Na _ (.head _)).1, rfl, 0, rfl⟩, tvl_nil⟩) (by have := r.units; simp only [deepL]; show un + 3 + 0 + 1 < cLine; simp only [] at this; omega) ?_
  k_steps
  all_goals (try (with_reducible refine hQ1 _ _ ?_))
  rename Fr _ _ _ _ => Fb
  rename News _ _ _ _ => Nb
  dsimp only
  try (with_reducible refine hQ1 _ _ ?_)
  exact k _ _ _ Fb.keep (newOf Nb (.head _))
end
end
local macro_rules | `(tactic| walk_at "call ref") => `(tactic| ((with_reducible refine' atRef 193 ?_); (refine expunge_c _ (by walk_at "s") (by walk_at "room") (by assumption) (by walk_at "at") (by assumption) (by assumption) ?_); intro h' t' q hs hn; walk_at "nn"))
section
section
variable {dp un : Nat} {fr : Option (List Env)} {gd : Option (List Code)} {h : Heap} {g : Array GenState} {d : Drawn} {t : Nat} {o : OsState} {Q E : Value → Shared → Prop}
set_option maxHeartbeats 1000000 in
theorem move_letters_c (W : Wd) {B : BoxR} {q0 b1 : Addr} (S : Sub W.H0 h) (r : Rm 6 (Ar dp fr gd un)) (hB : BoxOk B) (hA : At h (boxLed B)) (he : B.lets = []) (hq : h.IsList q0 #[])
    (k : ∀ h' t' q, Sub h h' → Q (.ref q) ⟨h', g, d, t', o⟩) :
    wpAny (model prg W.w) (Ar dp fr gd un) (call (.ref 203) [.ref B.b, .ref q0, .ref b1]) Q E ⟨h, g, d, t, o⟩ := by
  refine' callDef W [("box", .ref B.b), ("uids", .ref q0), ("goal", .ref b1)] S r ?_
  intro L h₁ F N t₁
  refine wp_absQ fun Q1 hQ1 E1 => ?_
  have X := W.X' S
  have T := W.T' S
  k_steps
  all_goals (try (with_reducible refine hQ1 _ _ ?_))
  obtain ⟨oq, hoq, hoq2⟩ := hq
  refine copy_letters_c W (subF F S) (by walk_at "room") ⟨oq, F.keep _ _ hoq, hoq2⟩ ?_
  intro h2 t2 q2 hs2 hn2
  have F2 := frSub hs2 F
  have N2 := newsNew F hs2 N hn2
  clear F N
  k_steps
  all_goals (try (with_reducible refine hQ1 _ _ ?_))
  rename Fr _ _ _ _ => F3
  rename News _ _ _ _ => N3
  refine iter_list (News.isList N3 (.head _)) rfl ?_
  intro I h₂ hI1 hI2 hs2 hfp hW hst
  dsimp only
  refine comp_none hW rfl hst hfp hs2 (subLe hs2 hI1 (hfp I (.head _))) rfl hI2 ?_
  intro D4 h4 t4 hs4 hD4 hn4
  have F4 := frSub hs4 F3
  have N4 := newsSub hs4 N3
  clear F3 N3
  k_steps
  all_goals (try (with_reducible refine hQ1 _ _ ?_))
  rename Fr _ _ _ _ => Fb
  dsimp only
  try (with_reducible refine hQ1 _ _ ?_)
  exact k _ _ _ Fb.keep
end
end
local macro_rules | `(tactic| walk_at "call ref") => `(tactic| ((with_reducible refine' atRef 203 ?_); (refine move_letters_c _ (by walk_at "s") (by walk_at "room") (by assumption) (by walk_at "at") (by assumption) (by assumption) ?_); intro h' t' q hs; walk_at "nt"))
section
section
variable {dp un : Nat} {fr : Option (List Env)} {gd : Option (List Code)} {h : Heap} {g : Array GenState} {d : Drawn} {t : Nat} {o : OsState} {Q E : Value → Shared → Prop}
theorem addPrep (W : Wd) {R : StR} {b : BoxR} {h1 h2 : Heap} {L : Addr} {m : Str → Option Value} (S : Sub W.H0 (hideAll h (adrs (led R)))) (hR : StOk W R) (hA : At h (led R)) (F1 : Fr h L h1 m) (fb : Fresh h1 h2 (boxLed b)) (e5 : b.lets = []) :
    Fr (hideAll h [R.dB, R.dS]) L h2 m ∧ News (hideAll h [R.dB, R.dS]) L h2 [(R.dB, R.oB), (R.dS, R.od), (b.b, instObj 163 b.D), (b.D, b.od), (b.l, b.ol), (b.gA, b.og)] ∧ (∀ p ∈ boxLed b, h.get? p.1 = none) ∧ Sub W.H0 (hideAll h [R.dB, R.dS]) ∧ (hideAll h [R.dB, R.dS]).get? R.st = some (instObj 293 R.dS) ∧
      (R.dS ≠ R.dB) ∧ (R.dB ≠ R.dS) ∧ (b.b ≠ R.dB ∧ b.D ≠ R.dB ∧ b.l ≠ R.dB ∧ b.gA ≠ R.dB) ∧ (b.b ≠ R.dS ∧ b.D ≠ R.dS ∧ b.l ≠ R.dS ∧ b.gA ≠ R.dS) ∧ boxLed b = [(b.b, instObj 163 b.D), (b.D, b.od), (b.l, b.ol), (b.gA, b.og)] ∧ (∀ p ∈ boxLed b, p.1 ∉ adrs (led R)) ∧
      ∀ B ∈ R.boxes, At (hideAll h [R.dB, R.dS]) (boxLed B) := by
  obtain ⟨a1, a2, a3, a4⟩ := at_st hA
  have hbl : boxLed b = [(b.b, instObj 163 b.D), (b.D, b.od), (b.l, b.ol), (b.gA, b.og)] := by rw [boxLed, e5]; rfl
  have hb0 : ∀ p ∈ boxLed b, h.get? p.1 = none := fun p hp => noneSub F1.keep (fb.new p hp)
  have nR : ∀ p ∈ led R, ∀ q ∈ boxLed b, q.1 ≠ p.1 := fun p hp q hq e => by
    have := hA p hp
    rw [← e, hb0 q hq] at this; cases this
  have n1 := fun p hp => nR (R.dB, R.oB) (mem_st (.tail _ (.tail _ (.head _)))) p hp
  have n2 := fun p hp => nR (R.dS, R.od) (mem_st (.tail _ (.head _))) p hp
  have z := hR.nodup
  simp only [led, stLed, List.map_cons, List.cons_append, List.nil_append, List.nodup_cons, List.mem_cons, not_or] at z
  have n3 : R.dS ≠ R.dB := z.2.1.1
  rw [hbl] at n1 n2
  simp only [List.forall_mem_cons] at n1 n2
  obtain ⟨i1, i2, i3, i4, -⟩ := n1
  obtain ⟨j1, j2, j3, j4, -⟩ := n2
  have F2 := rebase (frSub fb.keep F1) [R.dB, R.dS]
  refine ⟨F2, fun p hp => ?_, hb0, S.trans (hide_mono fun a ha => ?_), hideAll_get _ a1 (by simpa using ⟨z.1.2.1, z.1.1⟩), n3, n3.symm, ⟨i1, i2, i3, i4⟩, ⟨j1, j2, j3, j4⟩, hbl, fun p hp hm => ?_, fun B hB p hp => hideAll_get _ (hA p (mem_box hB hp)) ?_⟩
  · rcases List.mem_cons.mp hp with rfl | hp
    · exact ⟨fb.keep _ _ (F1.keep _ _ a3), ltNe (Nat.lt_of_lt_of_le (Heap.lt_size a3) F1.above), hideAll_none _ (.head _)⟩
    rcases List.mem_cons.mp hp with rfl | hp
    · exact ⟨fb.keep _ _ (F1.keep _ _ a2), ltNe (Nat.lt_of_lt_of_le (Heap.lt_size a2) F1.above), hideAll_none _ (.tail _ (.head _))⟩
    rw [← hbl] at hp
    refine ⟨fb.at_ p hp, fun z => ?_, ?_⟩
    · have := fb.new p hp
      obtain ⟨oL, _, _, ho1, _⟩ := F1.ns
      rw [z, ho1] at this; cases this
    · cases q : (hideAll h [R.dB, R.dS]).get? p.1 with
      | none => rfl
      | some ob => have := of_hideAll _ q; rw [hb0 p hp] at this; cases this
  · rcases List.mem_cons.mp ha with rfl | ha
    · exact .tail _ (.tail _ (.head _))
    · rw [List.mem_singleton.mp ha]; exact .tail _ (.head _)
  · obtain ⟨q, hq, e⟩ := List.mem_map.mp hm
    exact nR q hq p hp e.symm
  · have hm : p.1 ∈ (R.boxes.flatMap boxLed).map (·.1) := List.mem_map_of_mem (List.mem_flatMap.mpr ⟨B, hB, hp⟩)
    have z2 : ¬ R.dS ∈ (R.boxes.flatMap boxLed).map (·.1) := z.2.1.2.2
    have z3 : ¬ R.dB ∈ (R.boxes.flatMap boxLed).map (·.1) := z.2.2.1.2
    simpa using ⟨fun e => z3 (e ▸ hm), fun e => z2 (e ▸ hm)⟩
set_option maxHeartbeats 1000000 in
theorem rename_inbox_c (W : Wd) {R : StR} {B : BoxR} {x : Str} {u0 : Tok} (S : Sub W.H0 (hideAll h (adrs (led R)))) (r : Rm 8 (Ar dp fr gd un)) (hR : StOk W R) (hA : At h (led R)) (hB : B ∈ R.boxes) (he : B.lets = []) (hx : x.length ≤ 90000) (hnew : x ∉ namesOf R)
    (hnv : R.nv < 1000000) (few : R.boxes.length < 60)
    (k : ∀ h' t' R' v, Turn h h' R R' → StOk W R' → R'.nv = R.nv + 1 → pbs R' = pbs R ++ [⟨x, R.nv, 1, 1, []⟩] → Tv h' (.lst [.tup [.str "INBOX", .str x]]) v → Q v ⟨h', g, d, t', o⟩) :
    wpAny (model prg W.w) (Ar dp fr gd un) (call (.ref 358) [.ref R.st, .ref B.b, .str x u0]) Q E ⟨h, g, d, t, o⟩ := by
  have S0 := S.trans hide_sub
  obtain ⟨mS, ho, hw, m1, m2, u3, m3⟩ := hR.m
  obtain ⟨a1, a2, a3, a4⟩ := at_st hA
  have h1000 : (1 : Int) ≤ 1000 := by decide
  refine' callDef W [("store", .ref R.st), ("inbox", .ref B.b), ("name", .str x u0)] S0 r ?_
  intro L h₁ F N t₁
  refine wp_absQ fun Q1 hQ1 E1 => ?_
  have X := W.X' S0
  have T := W.T' S0
  have hv' : R.nv ≤ R.nv := Int.le_refl _
  k_steps
  all_goals (try (with_reducible refine hQ1 _ _ ?_))
  rename Fr _ _ _ _ => F1
  refine make_box_c W (A := Ar dp fr gd un) (subF F1 S0) (by walk_at "room") (by walk_at "om") ?_
  intro h2 t2 b fb okb e1 e2 e3 e4 e5
  obtain ⟨F2, N2, hb0, S2, a1', n3, n4, ⟨i1, i2, i3, i4⟩, ⟨j1, j2, j3, j4⟩, hbl, off, hAB⟩ := addPrep W S hR hA F1 fb e5
  have hRb := hR.b
  have hfs := fb.keep
  have hk1 := F1.keep
  have X2 := W.X' S2
  have hBok := hR.boxes B hB
  have hABb := hAB B hB
  clear F1 X S0
  k_steps
  all_goals (try (with_reducible refine hQ1 _ _ ?_))
  rename_i oB9 _ _ hd9 _ _ _ _ od9 _ F9 N9 ho9 hw9 _
  have T2 := W.T' S2
  obtain ⟨mB, hoB, hwB, -⟩ := hBok.m
  have c1 := hABb _ (.head _)
  have c2 := hABb _ (.tail _ (.head _))
  clear ho hw
  k_steps
  all_goals (try (with_reducible refine hQ1 _ _ ?_))
  rename Fr _ _ _ _ => Fz
  rename News _ _ _ _ => Nz
  have hb9 : At _ (boxLed b) := fun p hp => (Nz p (by rw [hbl] at hp; exact .tail _ (.tail _ (.tail _ (.tail _ (.tail _ hp)))))).1
  try (with_reducible refine hQ1 _ _ ?_)
  refine k _ _ _ _ (turn_addBox hA hR.nodup Fz.keep (Nz _ (.tail _ (.tail _ (.tail _ (.head _))))).1 (Nz _ (.tail _ (.tail _ (.tail _ (.tail _ (.head _)))))).1 hb9 hb0) (ok_addBox hR okb (by rw [e1]; exact hnew) few off fb.nodup ho9 hw9 (by walk_at "od_look") (by walk_at "od_look") ⟨_, by walk_at "od_look"⟩ (by rw [e1]; assumption)) rfl ?_ ?_
  · show (R.boxes ++ [b]).map pb = _
    rw [List.map_append, List.map_cons, List.map_nil, pb, e1, e2, e3, e4, e5]; rfl
  · simp only [Tv]
    refine ⟨_, [_], rfl, ⟨_, (Nz _ (.head _)).1, rfl, 0, rfl⟩, tvl_cons (told_tup (Nz _ (.tail _ (.head _))).1 (tvl_cons (tv_str _ _) (tvl_cons (tv_str _ _) tvl_nil))) tvl_nil⟩
end

end
section
end
local macro_rules | `(tactic| k_upd) => `(tactic| (refine' Upd.head ?a; (case a => assumption)))
local macro_rules | `(tactic| k_updF) => `(tactic| (refine' UpdF.head ?a; (case a => assumption)))
section
/-! A for loop over anything, by an invariant over the frame's names and the heap -/
structure TurnInv (prog : Program) (w : World) (A : Around) (env : Env) (target : Expr) (body : List Stmt) (Q : Flow → Shared → Prop) (E : Value → Shared → Prop) (g : Array GenState) (d : Drawn) (o : OsState)
    (wr : List Addr) (n : Nat) (P : Nat → Value → Heap → Prop) (St : Nat → Heap → Prop) (J : Nat → (Str → Option Value) → Heap → Prop) : Prop where
  stable : ∀ i m h₁ h', J i m h₁ → (∀ b ob, b ≠ env.locals → b ∉ wr → h₁.get? b = some ob → h'.get? b = some ob) → J i m h'
  turn : ∀ i v m h₁ t₁, i < n → P i v h₁ → St (i + 1) h₁ → J i m h₁ → h₁.Ns env.locals m →
    wpAny (model prog w) A (assign target env v) (fun _ s₂ => wpAny (model prog w) A (execs body env) (fun f s' => match f with
      | .ret v => Q (.ret v) s'
      | .brk => Q .next s'
      | _ => TurnEnd g d o env.locals i J St s')
      (notedBy (model prog w) A env (cameBackBy (model prog w) A env E)) s₂) (notedBy (model prog w) A env (cameBackBy (model prog w) A env E)) ⟨h₁, g, d, t₁, o⟩
  done : ∀ m h' t', J n m h' → h'.Ns env.locals m → Q .next ⟨h', g, d, t', o⟩
inductive LoopAt (prog : Program) (w : World) (A : Around) (env : Env) (target : Expr) (body : List Stmt) (Q : Flow → Shared → Prop) (E : Value → Shared → Prop) (it : Value) (s₂ : Shared) : Prop
  | mk (I : Addr) (fp wr : List Addr) (n : Nat) (P Md : Nat → Value → Heap → Prop) (St : Nat → Heap → Prop) (h : Heap) (g : Array GenState) (d : Drawn) (t : Nat) (o : OsState) (m : Str → Option Value) (J : Nat → (Str → Option Value) → Heap → Prop) (e1 : it = .ref I) (e2 : s₂ = ⟨h, g, d, t, o⟩)
      (W : KTurns prog w A target I fp wr n P Md St) (hLw : env.locals ∉ wr) (hst : St 0 h) (hns : h.Ns env.locals m) (h0 : J 0 m h) (F : TurnInv prog w A env target body Q E g d o wr n P St J)
theorem for_turns {prog : Program} {w : World} {A : Around} {E : Value → Shared → Prop} {env : Env} {s : Shared} {target iter : Expr} {pos : Pos} {body : List Stmt} {Q : Flow → Shared → Prop}
    (k : wpAny (model prog w) A (eval iter env) (fun xv s₁ => wpAny (model prog w) A (pyIter xv) (LoopAt prog w A env target body Q E) E s₁) E s)
    (hs : ∀ x, foldedSetIterable iter env x = pure x := by intro _; rfl) :
    wpAny (model prog w) A (exec (.For target iter body [] pos) env) Q E s := by
  refine wpAny_For (wpAny_mono k (fun xv s₁ h₁ => wpAny_mono h₁ (fun it s₂ h₂ => ?_) fun _ _ e => e) fun _ _ e => e) hs
  obtain ⟨I, fp, wr, n, P, Md, St, h, g, d, t, o, m, J, rfl, rfl, W, hLw, hst, hns, h0, F⟩ := h₂
  refine codeAny_forLoop_any (LoopMid g d o env.locals n J St) ?_ (n + 1) ⟨h, t, m, 0, rfl, hst, hns, h0, Nat.zero_le _, rfl⟩
  rintro k s' ⟨h', t', m', i, rfl, hst', hn', hJ, hi, rfl⟩
  by_cases hlt : i < n
  · refine W.item i _ _ _ hlt hst' fun v h₁ t₁ hMd hk₁ => ?_
    refine W.go i v _ _ _ hMd fun h₂ hP hst₂ hk₂ => ?_
    refine wpAny_mono (F.turn i v m' h₂ t₁ hlt hP hst₂ (F.stable _ _ _ _ hJ fun b ob _ hb e => hk₂ b ob hb (hk₁ b ob hb e)) (hn'.at' fun ob e => hk₂ _ ob hLw (hk₁ _ ob hLw e))) (fun _ s₁ h₂' => wpAny_mono h₂' (fun f s₃ h₄ => ?_) fun _ _ e => e) fun _ _ e => e
    cases f with
    | ret v => exact h₄
    | brk => exact h₄
    | next => exact LoopMid.next h₄ hlt
    | cont => exact LoopMid.next h₄ hlt
  · obtain rfl : i = n := Nat.le_antisymm hi (Nat.le_of_not_lt hlt)
    refine W.done _ _ _ hst' fun h₁ t₁ hk₁ => wpAny_execs_nil ?_
    exact F.done m' h₁ t₁ (F.stable _ _ _ _ hJ fun b ob _ hb e => hk₁ b ob hb e) (hn'.at' fun ob e => hk₁ _ ob hLw e)
noncomputable abbrev locs (l : List (Str × Value)) (y : Str) : Option Value := List.lookup y l.reverse
end
local macro_rules | `(tactic| walk_at "exec For Tuple Name cons nil") => `(tactic| k_dflt (refine' for_turns ?_))
local macro_rules | `(tactic| walk_at "exec For Tuple Call cons nil") => `(tactic| k_dflt (refine' for_turns ?_))
section
section
variable {A : Around} {E E' : Value → Shared → Prop} {h h₁ : Heap} {g : Array GenState} {d : Drawn} {o : OsState} {L a : Addr} {m : Str → Option Value} {name : Str} {scope : Scope} {cd : Value}
theorem Raises.pushLoop {W : Wd} {M : Model} (R : Raises W A h E g d o) (F : Fr h L h₁ m) (hk : scope.kind = .function := by rfl) :
    Raises W (A.deeper (envOf name scope L a cd)) h₁ (notedBy M (A.deeper (envOf name scope L a cd)) (envOf name scope L a cd) (cameBackBy M (A.deeper (envOf name scope L a cd)) (envOf name scope L a cd) (fun e s' => wpAny M (A.deeper (envOf name scope L a cd)) (leaving (envOf name scope L a cd) e) (fun _ s'' => E e s'') E' s'))) g d o := by
  obtain ⟨base, outer, K, ⟨kz, ks⟩, k⟩ := R
  refine ⟨base, envOf name scope L a cd :: outer, K.push F hk, ⟨Nat.le_trans kz (Nat.le_trans F.above (Nat.le_of_lt F.ns.lt)), ks⟩, fun h' e D cx t' x u => ?_⟩
  refine note_x (s := ⟨h', g, d, t', o⟩) (Around.frames_deeper K.stack) rfl x (.inr rfl) fun h₃ x₃ u₃ => ?_
  refine back_x (s := ⟨h₃, g, d, t', o⟩) x₃ rfl fun h₄ x₄ u₄ => ?_
  exact leaveHeld_x (s := ⟨h₄, g, d, t', o⟩) rfl x₄ fun h₅ x₅ u₅ => k h₅ e D cx t' x₅ (((((Heap.UpToSlots.of_keeps F.keep).trans u).trans u₃).trans u₄).trans u₅)
end
noncomputable def toldP (p : Str × Str) : Told := .tup [.str p.1, .str p.2]
theorem tvl_ps {h : Heap} : ∀ {l : List (Str × Str)} {ys : List Value}, TvL h (l.map toldP) ys → ∀ {i : Nat} {v : Value}, ys[i]? = some v → ∃ p T u1 u2, l[i]? = some p ∧ v = .ref T ∧ h.IsTuple T #[.str p.1 u1, .str p.2 u2]
  | [], ys, x, i, v, e => by rw [List.map_nil, TvL] at x; subst x; cases e
  | p :: l, ys, x, i, v, e => by
    rw [List.map_cons, TvL] at x
    obtain ⟨v0, ys', rfl, x1, x2⟩ := x
    cases i with
    | zero =>
      simp only [List.getElem?_cons_zero, Option.some.injEq] at e
      subst e
      simp only [toldP, Tv, TvL] at x1
      obtain ⟨T, vs, rfl, hT, v1, vs1, rfl, ⟨u1, rfl⟩, v2, vs2, rfl, ⟨u2, rfl⟩, rfl⟩ := x1
      exact ⟨p, T, u1, u2, rfl, rfl, hT⟩
    | succ i => exact tvl_ps x2 (by simpa using e)
noncomputable def goalOf (old new n : Str) : Str := new ++ Txt.slice n (some old.length) none
noncomputable def hitP (old n : Str) : Bool := n == old || Txt.startswith n (old ++ "/")
noncomputable def psOf (old new : Str) (ss : List Str) : List (Str × Str) := (ss.filter (hitP old)).map fun n => (n, goalOf old new n)
noncomputable abbrev pairM (l0 st : Addr) (old new : Str) (u0 u1 : Tok) (y : Str) : Option Value := if y = "pairs" then some (.ref l0) else locs [("store", .ref st), ("old", .str old u0), ("new", .str new u1)] y
/-- the first loop of renamed_pairs: what is told of its list -/
inductive PairJ (h : Heap) (L I l0 st : Addr) (old new : Str) (u0 u1 : Tok) (ss : List Str) (i : Nat) (m : Str → Option Value) (h' : Heap) : Prop
  | mk (b1 : ∀ y : Str, y ≠ "name" → m y = pairM l0 st old new u0 u1 y) (b2 : Sub h h') (NT : Led) (ys : List Value) (n : Nat) (b3 : News h L h' ((l0, PySem.W.listOf ys.toArray n) :: NT)) (b4 : ys.length ≤ i) (b5 : ∀ p ∈ NT, p.1 ≠ I ∧ p.1 ≠ l0) (b6 : ∀ h'', At h'' NT → TvL h'' ((psOf old new (ss.take i)).map toldP) ys)
theorem noLst_ps (l : List (Str × Str)) : noLstL (l.map toldP) = true := noLst_all fun t ht => by obtain ⟨x, _, rfl⟩ := List.mem_map.mp ht; rfl
theorem psOf_take {old new : Str} {ss : List Str} {i : Nat} {x : Str} (h : ss[i]? = some x) : psOf old new (ss.take (i + 1)) = psOf old new (ss.take i) ++ (if hitP old x then [(x, goalOf old new x)] else []) := by
  unfold psOf
  rw [List.take_add_one, h, Option.toList_some, List.filter_append, List.map_append]
  congr 1
  by_cases hh : hitP old x = true
  · rw [List.filter_cons_of_pos hh, if_pos hh]; rfl
  · rw [List.filter_cons_of_neg (by simpa using hh), if_neg hh]; rfl
local macro_rules | `(tactic| walk_at "call ref") => `(tactic| ((with_reducible refine' atRef 304 ?_); (refine settled_name_c _ (by walk_at "s") (by walk_at "room") (by assumption) (fun hx => ?_) (fun hx => absurd (hx.symm.trans (show _ = true by assumption)) Bool.false_ne_true)); intro h' t' u' hs; walk_at "nt"))
section
variable {dp un : Nat} {fr : Option (List Env)} {gd : Option (List Code)} {h : Heap} {g : Array GenState} {d : Drawn} {t : Nat} {o : OsState} {Q E : Value → Shared → Prop}
set_option maxHeartbeats 1000000 in
theorem renamed_pairs_c (W : Wd) {R : StR} {old new : Str} {u0 u1 : Tok} (S : Sub W.H0 h) (r : Rm 8 (Ar dp fr gd un)) (hR : StOk W R) (hA : At h (led R)) (hol : old.length ≤ 100000) (hnl : new.length ≤ 100000)
    (hgood : ∀ n ∈ namesOf R, hitP old n = true → checkOk (normalN (goalOf old new n)) = true ∧ normalN (goalOf old new n) = goalOf old new n)
    (k : ∀ ss, ss.Perm (namesOf R) → sortedS ss = true → (∀ p ∈ psOf old new ss, p.2 ∉ namesOf R) → ∀ h' t' l0 n ys NT, Sub h h' → (∀ p ∈ (l0, PySem.W.listOf (ys : List Value).toArray n) :: NT, h'.get? p.1 = some p.2 ∧ h.get? p.1 = none) → (∀ h'', At h'' NT → TvL h'' ((psOf old new ss).map toldP) ys) → Q (.ref l0) ⟨h', g, d, t', o⟩)
    (kE : ∀ ss, ss.Perm (namesOf R) → sortedS ss = true → (∃ p ∈ psOf old new ss, p.2 ∈ namesOf R) → Raises W (Ar dp fr gd un) h E g d o) :
    wpAny (model prg W.w) (Ar dp fr gd un) (call (.ref 346) [.ref R.st, .str old u0, .str new u1]) Q E ⟨h, g, d, t, o⟩ := by
  obtain ⟨mS, ho, hw, m1, m2, u3, m3⟩ := hR.m
  obtain ⟨a1, a2, a3, a4⟩ := at_st hA
  refine' callDef W [("store", .ref R.st), ("old", .str old u0), ("new", .str new u1)] S r ?_
  intro L h₁ F N t₁
  refine wp_absO fun Q1 hQ1 => ?_
  have X := W.X' S
  have T := W.T' S
  k_steps
  rename_i l0 _ _ _ _ N1 h2 _ q vs ss e2 hs2 hn2 hS hp hso F2 N2
  have hlss : ss.length = R.boxes.length := by rw [hp.length_eq]; exact List.length_map ..
  have hlvs : vs.length = ss.length := hS.length
  have hql : q ≠ l0 := newNe hn2 (N1 _ (.head _)).1
  refine iter_list (News.isList N2 (.head _)) rfl ?_
  intro I h3 hI1 hI2 hs3 hfp hW hst
  have F3 := frSub hs3 F2
  have N3 := newsSub hs3 N2
  have hIl : I ≠ l0 := goneNe hI2 (N2 _ (.tail _ (.head _))).1
  have hIL := offL F2 hI2
  have hI0 := noneSub F2.keep hI2
  refine ⟨I, _, _, _, _, _, h3, g, d, _, o, _, PairJ h L I l0 R.st old new u0 u1 ss, rfl, rfl, hW, hIL, hst, F3.ns, ⟨fun _ _ => rfl, F3.keep, [], [], 0, ?_, Nat.zero_le _, (by intro p hp; cases hp), ?_⟩, ⟨?_, ?_, ?_⟩⟩
  · exact fun p hp => N3 p (.tail _ hp)
  · intro h'' _; exact tvl_nil
  · intro i m h₁' h' hJ hk
    refine gAbs fun G hG => ?_
    obtain ⟨b1, b2, NT, ys, n, b3, b4, b5, b6⟩ := hJ
    refine hG ?_
    clear G hG
    refine ⟨b1, fun b ob e => hk b ob (ltNe (Nat.lt_of_lt_of_le (Heap.lt_size e) F2.above)) (fun z => ?_) (b2 b ob e), NT, ys, n, fun p hp => ⟨hk _ _ (b3 p hp).2.1 (fun z => ?_) (b3 p hp).1, (b3 p hp).2⟩, b4, b5, b6⟩
    · rw [List.mem_singleton.mp z, hI0] at e; cases e
    · rcases List.mem_cons.mp hp with rfl | hp
      · exact hIl (List.mem_singleton.mp z).symm
      · exact (b5 p hp).1 (List.mem_singleton.mp z)
  · intro i v m h4 t4 hi hv hst4 hJ hns
    refine gAbs fun G hG => ?_
    obtain ⟨b1, b2, NT, ys, n, b3, b4, b5, b6⟩ := hJ
    obtain ⟨x, ux, rfl, hx⟩ := hS.item i v hv
    refine hG ?_
    clear G hG
    have hmem : x ∈ namesOf R := hp.mem_iff.mp (List.mem_of_getElem? hx)
    refine turn_name rfl rfl hns fun h5 t5 hn5 hs5 => ?_
    have F5 : Fr h L h5 (fun y : Str => if y = "name" then some (.str x ux) else if y = "pairs" then some (.ref l0) else locs [("store", Value.ref R.st), ("old", Value.str old u0), ("new", Value.str new u1)] y) := by
      refine ⟨nsEq hn5 fun y => ?_, fun b ob e => (hs5.2 b (ltNe (Nat.lt_of_lt_of_le (Heap.lt_size e) F2.above))).trans (b2 b ob e), F2.above⟩
      by_cases hy : y = "name"
      · simp only [hy, if_true]
      · simp only [if_neg hy]; exact b1 y hy
    refine gAbs fun G hG => ?_
    obtain ⟨⟨oI, hoI, hoI2⟩, oq, hoq, hoq2⟩ := hst4
    have hsI := hs5.2 I (fun z => hIL (List.mem_singleton.mpr z.symm))
    have N5 : News h L h5 ((l0, PySem.W.listOf ys.toArray n) :: (I, oI) :: (q, oq) :: NT) := fun p hp => by
      rcases List.mem_cons.mp hp with rfl | hp
      · exact b3.set hs5 _ (.head _)
      rcases List.mem_cons.mp hp with rfl | hp
      · exact ⟨hsI.trans hoI, fun z => hIL (List.mem_singleton.mpr z.symm), hI0⟩
      rcases List.mem_cons.mp hp with rfl | hp
      · have z := N2 _ (.head _)
        exact ⟨(hs5.2 q z.2.1).trans hoq, z.2⟩
      · exact b3.set hs5 _ (.tail _ hp)
    have hrest : ∀ p ∈ (I, oI) :: (q, oq) :: NT, p.1 ≠ l0 := (allCons (hIl) (allCons (hql) (fun p hp => (b5 p hp).2)))
    have hys : ys.toArray.size ≤ 100 := by have := hR.few; rw [List.size_toArray]; omega
    have hxl : x.length ≤ 100000 := by
      obtain ⟨b, hb, rfl⟩ := List.mem_map.mp hmem
      exact (hR.boxes b hb).short
    have hsl : (Txt.slice x (some (old.length : Int)) none).length ≤ 100000 := Nat.le_trans (Txt.slice_le _ _ _) hxl
    have hgl : (goalOf old new x).length ≤ 900000 := by unfold goalOf; rw [strLen_append]; omega
    have hend : ∀ h6 m6 t6, Fr h L h6 m6 → (∀ y : Str, y ≠ "name" → m6 y = pairM l0 R.st old new u0 u1 y) → hitP old x = false →
        News h L h6 ((l0, PySem.W.listOf ys.toArray n) :: (I, oI) :: (q, oq) :: NT) → TurnEnd g d o L i (PairJ h L I l0 R.st old new u0 u1 ss) (fun i h => h.IsListIter I q i ∧ h.IsList q vs.toArray) ⟨h6, g, d, t6, o⟩ := fun h6 m6 t6 F6 hm6 hh N6 => by
      refine TurnEnd.intro F6.ns ⟨hm6, F6.keep, NT, ys, n, fun p hp => N6 p ?_, by omega, b5, ?_⟩ ⟨⟨oI, (N6 _ (.tail _ (.head _))).1, hoI2⟩, oq, (N6 _ (.tail _ (.tail _ (.head _)))).1, hoq2⟩
      · rcases List.mem_cons.mp hp with rfl | hp
        · exact .head _
        · exact .tail _ (.tail _ (.tail _ hp))
      · rw [psOf_take hx, hh]
        simpa using b6
    have hck : hitP old x = true → checkOk (normalN (new ++ Txt.slice x (some (old.length : Int)) none)) = true := fun hh => (hgood x hmem hh).1
    have hnm : hitP old x = true → normalN (new ++ Txt.slice x (some (old.length : Int)) none) = goalOf old new x := fun hh => (hgood x hmem hh).2
    have hgl2 : (new ++ Txt.slice x (some (old.length : Int)) none).length ≤ 900000 := hgl
    clear F3 N3 F2 N2 N1
    have hadd : ∀ h6 m6 t6 D u1' u2', Fr h L h6 m6 → (∀ y : Str, y ≠ "name" → m6 y = pairM l0 R.st old new u0 u1 y) → hitP old x = true → D ≠ I → D ≠ l0 →
        News h L h6 ((D, tupO [.str x u1', .str (goalOf old new x) u2']) :: (l0, PySem.W.listOf (ys.toArray.push (.ref D)) (n + 1)) :: (I, oI) :: (q, oq) :: NT) → TurnEnd g d o L i (PairJ h L I l0 R.st old new u0 u1 ss) (fun i h => h.IsListIter I q i ∧ h.IsList q vs.toArray) ⟨h6, g, d, t6, o⟩ := fun h6 m6 t6 D u1' u2' F6 hm6 hh d1 d2 N6 => by
      refine TurnEnd.intro F6.ns ⟨hm6, F6.keep, (D, tupO [.str x u1', .str (goalOf old new x) u2']) :: NT, ys ++ [.ref D], n + 1, fun p hp => ?_, by rw [List.length_append, List.length_singleton]; omega, fun p hp => ?_, fun h'' k2 => ?_⟩ ⟨⟨oI, (N6 _ (.tail _ (.tail _ (.head _)))).1, hoI2⟩, oq, (N6 _ (.tail _ (.tail _ (.tail _ (.head _))))).1, hoq2⟩
      · rcases List.mem_cons.mp hp with rfl | hp
        · have := N6 _ (.tail _ (.head _))
          simpa using this
        rcases List.mem_cons.mp hp with rfl | hp
        · exact N6 _ (.head _)
        · exact N6 p (.tail _ (.tail _ (.tail _ (.tail _ hp))))
      · rcases List.mem_cons.mp hp with rfl | hp
        · exact ⟨d1, d2⟩
        · exact b5 p hp
      · rw [psOf_take hx, if_pos hh, List.map_append]
        exact tvl_snoc (b6 h'' fun p hp => k2 p (.tail _ hp)) (told_tup (k2 _ (.head _)) (tvl_cons (tv_str _ _) (tvl_cons (tv_str _ _) tvl_nil)))
    have hyes : hitP old x = true → checkOk (normalN (new ++ Txt.slice x (some (old.length : Int)) none)) = true ∧ normalN (new ++ Txt.slice x (some (old.length : Int)) none) = goalOf old new x := fun hh => ⟨hck hh, hnm hh⟩
    clear hck hnm
    refine hG ?_
    clear G hG
    refine wp_absQ fun Q2 hQ2 E2 => ?_
    cases e1 : x == old with
    | true =>
      have hh : hitP old x = true := by simp [hitP, e1]
      obtain ⟨hck, hnm⟩ := hyes hh
      k_steps
      rename Fr _ _ _ _ => F9
      rename News _ _ _ _ => N9
      rw [hnm] at N9
      rename l0 < _ ∧ I < _ ∧ _ => hlt
      refine hQ2 _ _ ?_
      exact hadd _ _ _ _ _ _ F9 (fun y hy => if_neg hy) hh (gtNe hlt.2.1) (gtNe hlt.1) N9
    | false =>
      cases e2 : Txt.startswith x (old ++ "/") with
      | true =>
        have hh : hitP old x = true := by simp [hitP, e1, e2]
        obtain ⟨hck, hnm⟩ := hyes hh
        k_steps
        rename Fr _ _ _ _ => F9
        rename News _ _ _ _ => N9
        rw [hnm] at N9
        rename l0 < _ ∧ I < _ ∧ _ => hlt
        refine hQ2 _ _ ?_
        exact hadd _ _ _ _ _ _ F9 (fun y hy => if_neg hy) hh (gtNe hlt.2.1) (gtNe hlt.1) N9
      | false =>
        have hh : hitP old x = false := by simp [hitP, e1, e2]
        clear hyes
        k_steps
        rename Fr _ _ _ _ => F9
        rename News _ _ _ _ => N9
        refine hQ2 _ _ ?_
        exact hend _ _ _ F9 (fun y hy => if_neg hy) hh N9
  · intro m h4 t4 hJ hns
    refine gAbs fun G hG => ?_
    obtain ⟨b1, b2, NT, ys, n, b3, b4, b5, b6⟩ := hJ
    refine hG ?_
    clear G hG
    have hsl : vs.length = ss.length := hlvs
    rw [List.take_of_length_le (Nat.le_of_eq hsl.symm)] at b6
    have hpsl : (psOf old new ss).length ≤ 60 := by
      unfold psOf
      rw [List.length_map]
      exact Nat.le_trans (List.length_filter_le _ _) (by rw [hlss]; exact hR.few)
    have F4 : Fr h L h4 (fun y : Str => if y = "name" then m "name" else pairM l0 R.st old new u0 u1 y) := ⟨nsEq hns fun y => by
      by_cases hy : y = "name"
      · simp only [hy, if_true]
      · simp only [if_neg hy]; exact b1 y hy, b2, F2.above⟩
    have hl0 : h4.IsList l0 ys.toArray := ⟨_, (b3 _ (.head _)).1, rfl, n, rfl⟩
    clear F2 N2 F3 N3 N1
    have N4 : News h L h4 [] := News.nil
    dsimp only
    k_steps
    refine iter_list hl0 rfl ?_
    intro J h5 hJ1 hJ2 hs5 hfpJ hWJ hstJ
    have hJL := offL F4 hJ2
    have hJ0 := noneSub F4.keep hJ2
    have hJN : ∀ p ∈ (l0, PySem.W.listOf ys.toArray n) :: NT, p.1 ≠ J := fun p hp z => by
      have q := (b3 p hp).1
      rw [z, hJ2] at q; cases q
    refine ⟨J, _, _, _, _, _, _, h5, g, d, _, o, _, fun i m h' => (∀ y : Str, y ≠ "name" → y ≠ "goal" → m y = pairM l0 R.st old new u0 u1 y) ∧ Sub h h' ∧ At h' ((l0, PySem.W.listOf ys.toArray n) :: NT) ∧ ∀ p ∈ (psOf old new ss).take i, p.2 ∉ namesOf R, rfl, rfl,
      KTurns.ofWalks hWJ (fun i v s Q E st q => letGo_listiter st.1 q), hJL, hstJ, F4.ns.keeps hs5, ⟨fun y hy _ => if_neg hy, Sub.trans F4.keep hs5, fun p hp => hs5 _ _ (b3 p hp).1, by intro p hp; cases hp⟩, ⟨?_, ?_, ?_⟩⟩
    · rintro i m h₁' h' ⟨c1, c2, c3, c4⟩ hk
      refine ⟨c1, fun b ob e => hk b ob (ltNe (Nat.lt_of_lt_of_le (Heap.lt_size e) F4.above)) (fun z => ?_) (c2 b ob e), fun p hp => hk _ _ (b3 p hp).2.1 (fun z => hJN p hp (List.mem_singleton.mp z)) (c3 p hp), c4⟩
      rw [List.mem_singleton.mp z, hJ0] at e; cases e
    · intro i v m h6 t6 hi hv hst6 hJ hns6
      refine gAbs fun G hG => ?_
      obtain ⟨c1, c2, c3, c4⟩ := hJ
      obtain ⟨p, T9, ua, ub, hp9, rfl, hT9⟩ := tvl_ps (b6 h6 fun p hp => c3 p (.tail _ hp)) hv
      have F6 : Fr h L h6 (fun y : Str => if y = "name" then m "name" else if y = "goal" then m "goal" else pairM l0 R.st old new u0 u1 y) := ⟨nsEq hns6 fun y => by
        by_cases hy : y = "name"
        · simp only [hy, if_true]
        · by_cases hy2 : y = "goal"
          · subst hy2; rw [if_neg (by decide), if_pos rfl]
          · simp only [if_neg hy, if_neg hy2]; exact c1 y hy hy2, c2, F4.above⟩
      obtain ⟨⟨oI, hoI, hoI2⟩, ol, hol, hol2⟩ := hst6
      have N6 : News h L h6 ((J, oI) :: (l0, PySem.W.listOf ys.toArray n) :: NT) := (allCons (⟨hoI, fun z => hJL (List.mem_singleton.mpr z.symm), hJ0⟩) (fun p hp => ⟨c3 p hp, (b3 p hp).2⟩))
      have hT9' : IsTup h6 T9 #[.str p.1 ua, .str p.2 ub] := hT9
      clear F4 N4 b3 c3
      refine hG ?_
      clear G hG
      refine turn_absB fun Q2 hQ2 E2 hE2 => ?_
      k_steps
      rename Fr _ _ _ _ => F8
      rename News _ _ _ _ => N8
      refine need_new_c W (subF F8 S) (by walk_at "room") hR (hA.keeps F8.keep) (fun hx => ?_) (fun hx => (Raises.pushLoop (kE ss hp hso ⟨p, List.mem_of_getElem? hp9, hx⟩) F8).to hE2)
      intro h9 t9 hs9
      have F9 := frSub hs9 F8
      have N9 := newsSub hs9 N8
      clear F8 N8
      k_steps
      refine hQ2 _ _ ?_
      refine TurnEnd.intro F9.ns ⟨fun y y1 y2 => (if_neg y2).trans ((if_neg y1).trans ((if_neg y1).trans (if_neg y2))), F9.keep, fun p hp => (N9 p (.tail _ hp)).1, fun p' hp' => ?_⟩ ⟨⟨oI, (N9 _ (.head _)).1, hoI2⟩, _, (N9 _ (.tail _ (.head _))).1, rfl, n, rfl⟩
      rw [List.take_add_one, hp9] at hp'
      rcases List.mem_append.mp hp' with hp' | hp'
      · exact c4 p' hp'
      · rw [Option.toList_some, List.mem_singleton] at hp'
        rw [hp']; exact hx
    · rintro m h6 t6 ⟨c1, c2, c3, c4⟩ hns6
      have F7 : Fr h L h6 (fun y : Str => if y = "name" then m "name" else if y = "goal" then m "goal" else pairM l0 R.st old new u0 u1 y) := ⟨nsEq hns6 fun y => by
        by_cases hy : y = "name"
        · simp only [hy, if_true]
        · by_cases hy2 : y = "goal"
          · subst hy2; rw [if_neg (by decide), if_pos rfl]
          · simp only [if_neg hy, if_neg hy2]; exact c1 y hy hy2, c2, F4.above⟩
      have hyl : ys.length = (psOf old new ss).length := by have := (b6 h6 fun p hp => c3 p (.tail _ hp)).length; rwa [List.length_map] at this
      rw [hyl, List.take_of_length_le (Nat.le_refl _)] at c4
      clear F4 N4
      have N7 : News h L h6 [] := News.nil
      dsimp only
      k_steps
      refine hQ1 _ _ ?_
      dsimp only
      exact k ss hp hso c4 _ _ l0 n ys NT F7.keep (fun p hp => ⟨c3 p hp, (b3 p hp).2.2⟩) b6
end

end
section
noncomputable def boxAt (R : StR) (n : Str) : BoxR := (R.boxes.find? fun b => b.name = n).getD ⟨0, 0, 0, 0, emptyDict, emptyDict, emptyDict, "", 0, 0, 0, []⟩
theorem boxAt_of {W : Wd} {R : StR} (hR : StOk W R) {b : BoxR} (hb : b ∈ R.boxes) : boxAt R b.name = b := by unfold boxAt; rw [find_box hR hb]; rfl
theorem boxAt_mem {W : Wd} {R : StR} (hR : StOk W R) {n : Str} (h : n ∈ namesOf R) : boxAt R n ∈ R.boxes ∧ (boxAt R n).name = n := by
  obtain ⟨b, hb, rfl⟩ := List.mem_map.mp h
  rw [boxAt_of hR hb]; exact ⟨hb, rfl⟩
noncomputable def hitsOf (old : Str) (ss : List Str) : List Str := ss.filter (hitP old)
noncomputable def mvOf (R : StR) (old : Str) (ss : List Str) : List BoxR := (hitsOf old ss).map (boxAt R)
noncomputable def restB (R : StR) (old : Str) : List BoxR := R.boxes.filter fun b => !hitP old b.name
theorem mv_perm {W : Wd} {R : StR} (hR : StOk W R) {old : Str} {ss : List Str} (hp : ss.Perm (namesOf R)) : (restB R old ++ mvOf R old ss).Perm R.boxes := by
  have e : ((namesOf R).filter (hitP old)).map (boxAt R) = R.boxes.filter fun b => hitP old b.name := by
    unfold namesOf
    rw [List.filter_map, List.map_map]
    conv => rhs; rw [← List.map_id (List.filter _ _)]
    refine List.map_congr_left fun b hb => ?_
    exact boxAt_of hR (List.mem_filter.mp hb).1
  have h1 : (mvOf R old ss).Perm (R.boxes.filter fun b => hitP old b.name) := e ▸ (hp.filter _).map _
  exact (List.Perm.append_left _ h1).trans (List.perm_append_comm.trans (List.filter_append_perm (fun b : BoxR => hitP old b.name) R.boxes))
theorem mv_mem {W : Wd} {R : StR} (hR : StOk W R) {old : Str} {ss : List Str} (hp : ss.Perm (namesOf R)) {b : BoxR} (h : b ∈ mvOf R old ss) : b ∈ R.boxes ∧ hitP old b.name = true := by
  obtain ⟨n, hn, rfl⟩ := List.mem_map.mp h
  obtain ⟨h1, h2⟩ := List.mem_filter.mp hn
  obtain ⟨h3, h4⟩ := boxAt_mem hR (hp.mem_iff.mp h1)
  exact ⟨h3, by rw [h4]; exact h2⟩
theorem mv_get {W : Wd} {R : StR} (hR : StOk W R) {old : Str} {ss : List Str} (hp : ss.Perm (namesOf R)) {i : Nat} {x : Str} (h : (hitsOf old ss)[i]? = some x) : (mvOf R old ss)[i]? = some (boxAt R x) ∧ boxAt R x ∈ R.boxes ∧ (boxAt R x).name = x ∧ hitP old x = true := by
  have hm := List.mem_of_getElem? h
  obtain ⟨h1, h2⟩ := List.mem_filter.mp hm
  obtain ⟨h3, h4⟩ := boxAt_mem hR (hp.mem_iff.mp h1)
  exact ⟨by unfold mvOf; rw [List.getElem?_map, h]; rfl, h3, h4, h2⟩
noncomputable abbrev kvsOf (bs : List BoxR) : List (Str × Value) := bs.map fun b => (b.name, .ref b.b)
/-- the pairs behind the first pops -/
noncomputable def popped (R : StR) (xs : List Str) : List (Str × Value) := (kvsOf R.boxes).filter fun kv => decide (kv.1 ∉ xs)
theorem popped_snoc (R : StR) (xs : List Str) (x : Str) : without (popped R xs) x = popped R (xs ++ [x]) := by
  unfold without popped
  rw [List.filter_filter]
  refine List.filter_congr fun kv _ => ?_
  by_cases h1 : kv.1 ∈ xs <;> by_cases h2 : kv.1 = x <;> simp [h1, h2]
theorem popped_all {R : StR} {old : Str} {ss : List Str} (hp : ss.Perm (namesOf R)) : popped R (hitsOf old ss) = kvsOf (restB R old) := by
  unfold popped restB kvsOf
  rw [List.filter_map]
  congr 1
  refine List.filter_congr fun b hb => ?_
  have : b.name ∈ hitsOf old ss ↔ hitP old b.name = true := by
    unfold hitsOf
    rw [List.mem_filter]
    exact ⟨fun h => h.2, fun h => ⟨hp.mem_iff.mpr (List.mem_map_of_mem hb), h⟩⟩
  simp only [Function.comp]
  by_cases h : hitP old b.name = true
  · rw [decide_eq_false (by simpa using this.mpr h), h]; rfl
  · have h' : b.name ∉ hitsOf old ss := fun z => h (this.mp z)
    simp [h', h]
theorem popped_val {W : Wd} {R : StR} (hR : StOk W R) {xs : List Str} {x : Str} (hm : x ∈ namesOf R) (hx : x ∉ xs) : valueAt (popped R xs) x = some (.ref (boxAt R x).b) := by
  obtain ⟨h1, h2⟩ := boxAt_mem hR hm
  have h3 : (x, Value.ref (boxAt R x).b) ∈ popped R xs := List.mem_filter.mpr ⟨List.mem_map.mpr ⟨_, h1, by rw [h2]⟩, decide_eq_true hx⟩
  obtain ⟨i, hi⟩ := List.getElem?_of_mem h3
  refine valueAt_of_get ?_ hi
  have : ((kvsOf R.boxes).map (·.1)).Nodup := by rw [show (kvsOf R.boxes).map (·.1) = namesOf R from bx_keys R]; exact hR.names
  exact this.sublist (List.Sublist.map _ List.filter_sublist)
theorem hits_nodup {W : Wd} {R : StR} (hR : StOk W R) {old : Str} {ss : List Str} (hp : ss.Perm (namesOf R)) : (hitsOf old ss).Nodup := (hp.nodup_iff.mpr hR.names).sublist List.filter_sublist
theorem nodup_off {α : Type} {l : List α} (h : l.Nodup) {i : Nat} {x : α} (hx : l[i]? = some x) : x ∉ l.take i := fun hm => by
  obtain ⟨j, hj⟩ := List.getElem?_of_mem hm
  have hji : j < i := by
    by_cases z : j < i
    · exact z
    · rw [List.getElem?_eq_none (by rw [List.length_take]; omega)] at hj; cases hj
  rw [List.getElem?_take_of_lt hji] at hj
  obtain ⟨l1, e1⟩ := List.getElem?_eq_some_iff.mp hx
  obtain ⟨l2, e2⟩ := List.getElem?_eq_some_iff.mp hj
  have := (List.getElem_inj h).mp (e2.trans e1.symm)
  omega
/-- a box renamed -/
noncomputable def Ren (b : BoxR) (n : Str) (b' : BoxR) : Prop := b' = { b with od := b'.od, name := n } ∧ BoxOk b'
/-- the first turns of the second loop -/
noncomputable def DoneJ (mv : List BoxR) (gs : List Str) (i : Nat) (dn : List BoxR) : Prop := dn.length = i ∧ ∀ (j : Nat) (b' : BoxR), dn[j]? = some b' → ∃ b n, mv[j]? = some b ∧ gs[j]? = some n ∧ Ren b n b'
theorem DoneJ.snoc {mv : List BoxR} {gs : List Str} {i : Nat} {dn : List BoxR} {b b' : BoxR} {n : Str} (h : DoneJ mv gs i dn) (h1 : mv[i]? = some b) (h2 : gs[i]? = some n) (h3 : Ren b n b') : DoneJ mv gs (i + 1) (dn ++ [b']) := by
  obtain ⟨hl, hj⟩ := h
  refine ⟨by rw [List.length_append, hl]; rfl, fun j c hc => ?_⟩
  by_cases z : j < dn.length
  · rw [List.getElem?_append_left z] at hc; exact hj j c hc
  · rw [List.getElem?_append_right (by omega)] at hc
    have : j - dn.length = 0 := by
      by_cases q : j - dn.length = 0
      · exact q
      · rw [List.getElem?_eq_none (by rw [List.length_singleton]; omega)] at hc; cases hc
    have hji : j = i := by omega
    subst hji
    rw [this] at hc
    simp only [List.getElem?_cons_zero, Option.some.injEq] at hc
    subst hc
    exact ⟨b, n, h1, h2, h3⟩
theorem DoneJ.map {β : Type} {mv : List BoxR} {gs : List Str} {dn : List BoxR} (h : DoneJ mv gs mv.length dn) (f : BoxR → β) (hf : ∀ b n b', Ren b n b' → f b' = f b) : dn.map f = mv.map f := by
  obtain ⟨hl, hj⟩ := h
  refine List.ext_getElem? fun j => ?_
  rw [List.getElem?_map, List.getElem?_map]
  cases e : dn[j]? with
  | none => rw [List.getElem?_eq_none_iff] at e; rw [List.getElem?_eq_none_iff.mpr (by omega)]
  | some b' =>
    obtain ⟨b, n, e1, -, r⟩ := hj j b' e
    rw [e1]; exact congrArg some (hf b n b' r)
theorem DoneJ.mem {mv : List BoxR} {gs : List Str} {i : Nat} {dn : List BoxR} (h : DoneJ mv gs i dn) {b' : BoxR} (hb : b' ∈ dn) : ∃ b n, b ∈ mv ∧ n ∈ gs ∧ Ren b n b' := by
  obtain ⟨j, hj⟩ := List.getElem?_of_mem hb
  obtain ⟨b, n, e1, e2, r⟩ := h.2 j b' hj
  exact ⟨b, n, List.mem_of_getElem? e1, List.mem_of_getElem? e2, r⟩
theorem Ren.adrs {b b' : BoxR} {n : Str} (r : Ren b n b') : adrs (boxLed b') = adrs (boxLed b) := by rw [r.1]; rfl
theorem boxes_apart : ∀ {bs : List BoxR}, (adrs (bs.flatMap boxLed)).Nodup → ∀ b1 ∈ bs, ∀ b2 ∈ bs, ∀ a, a ∈ adrs (boxLed b1) → a ∈ adrs (boxLed b2) → b1 = b2
  | [], _, b1, h1, _, _, _, _, _ => by cases h1
  | c :: l, hn, b1, h1, b2, h2, a, ha, hb => by
    rw [List.flatMap_cons, adrs, List.map_append] at hn
    obtain ⟨n1, n2, n3⟩ := List.nodup_append.mp hn
    have inl : ∀ b ∈ l, ∀ a, a ∈ adrs (boxLed b) → a ∈ adrs (l.flatMap boxLed) := fun b hb a ha => by
      obtain ⟨p, hp, rfl⟩ := List.mem_map.mp ha
      exact List.mem_map_of_mem (List.mem_flatMap.mpr ⟨b, hb, hp⟩)
    rcases List.mem_cons.mp h1 with e1 | k1
    · rcases List.mem_cons.mp h2 with e2 | k2
      · exact e1.trans e2.symm
      · exact absurd rfl (n3 a (e1 ▸ ha) a (inl b2 k2 a hb))
    · rcases List.mem_cons.mp h2 with e2 | k2
      · exact absurd rfl (n3 a (e2 ▸ hb) a (inl b1 k1 a ha))
      · exact boxes_apart n2 b1 k1 b2 k2 a ha hb
theorem st_off {W : Wd} {R : StR} (hR : StOk W R) : ∀ p ∈ stLed R, ∀ b ∈ R.boxes, p.1 ∉ adrs (boxLed b) := fun p hp b hb hm => by
  have z := hR.nodup
  rw [led, List.map_append] at z
  obtain ⟨q, hq, e⟩ := List.mem_map.mp hm
  exact (List.nodup_append.mp z).2.2 p.1 (List.mem_map_of_mem hp) q.1 (List.mem_map_of_mem (List.mem_flatMap.mpr ⟨b, hb, hq⟩)) e.symm
theorem bx_nodup {W : Wd} {R : StR} (hR : StOk W R) : (adrs (R.boxes.flatMap boxLed)).Nodup := by
  have z := hR.nodup
  rw [led, List.map_append] at z
  exact (List.nodup_append.mp z).2.1
theorem in_bx {b : BoxR} : b.D ∈ adrs (boxLed b) := .tail _ (.head _)
theorem mem_adrs {N : Led} {p : Addr × Obj} (h : p ∈ N) : p.1 ∈ adrs N := List.mem_map_of_mem h
theorem bx_one {W : Wd} {R : StR} (hR : StOk W R) {b : BoxR} (hb : b ∈ R.boxes) : (adrs (boxLed b)).Nodup := by
  have : ∀ {bs : List BoxR}, (adrs (bs.flatMap boxLed)).Nodup → b ∈ bs → (adrs (boxLed b)).Nodup := by
    intro bs
    induction bs with
    | nil => intro _ h; cases h
    | cons c l ih =>
      intro hn h
      rw [List.flatMap_cons, adrs, List.map_append] at hn
      rcases List.mem_cons.mp h with rfl | h
      · exact (List.nodup_append.mp hn).1
      · exact ih (List.nodup_append.mp hn).2.1 h
  exact this (bx_nodup hR) hb
/-- a box's entries but its dict's -/
theorem bx_rest {b : BoxR} (hn : (adrs (boxLed b)).Nodup) : ∀ p ∈ boxLed b, p.1 ≠ b.D ∨ p = (b.D, b.od) := fun p hp => by
  rcases List.mem_cons.mp hp with rfl | hp
  · simp only [boxLed, adrs, List.map_cons, List.cons_append, List.nodup_cons, List.mem_cons, not_or] at hn
    exact .inl hn.1.1
  rcases List.mem_cons.mp hp with rfl | hp
  · exact .inr rfl
  · refine .inl fun e => ?_
    have : p.1 ∈ (([(b.l, b.ol), (b.gA, b.og)] ++ b.lets.flatMap letLed).map (·.1)) := List.mem_map_of_mem hp
    simp only [boxLed, adrs, List.map_cons, List.cons_append, List.nodup_cons] at hn
    rw [e] at this
    exact hn.2.1 this
theorem ok_move {W : Wd} {R : StR} {old : Str} {ss gs : List Str} {dn : List BoxR} {oB' : Obj} (hR : StOk W R) (hp : ss.Perm (namesOf R)) (hd : DoneJ (mvOf R old ss) gs (mvOf R old ss).length dn)
    (hB : oB'.IsDictOf (strKind prg W.w) (kvsOf (restB R old ++ dn))) : StOk W { R with oB := oB', boxes := restB R old ++ dn } := by
  refine ⟨hR.m, hB, hR.s, fun c hc => ?_, ?_, hR.lo, ?_⟩
  · rcases List.mem_append.mp hc with hc | hc
    · exact hR.boxes c (List.mem_filter.mp hc).1
    · obtain ⟨b, n, -, -, r⟩ := hd.mem hc
      exact r.2
  · have e : dn.map (fun b => adrs (boxLed b)) = (mvOf R old ss).map (fun b => adrs (boxLed b)) := hd.map _ fun b n b' r => r.adrs
    have f : ∀ l : List BoxR, adrs (l.flatMap boxLed) = (l.map fun b => adrs (boxLed b)).flatten := fun l => by
      induction l with
      | nil => rfl
      | cons c l ih => rw [List.flatMap_cons, adrs, List.map_append, List.map_cons, List.flatten_cons, ← ih]
    have z : (adrs (stLed R) ++ adrs (R.boxes.flatMap boxLed)).Nodup := by rw [← List.map_append]; exact hR.nodup
    show (adrs (stLed { R with oB := oB', boxes := restB R old ++ dn } ++ (restB R old ++ dn).flatMap boxLed)).Nodup
    rw [adrs, List.map_append]
    show (adrs (stLed R) ++ adrs ((restB R old ++ dn).flatMap boxLed)).Nodup
    have pm : (adrs ((restB R old ++ dn).flatMap boxLed)).Perm (adrs (R.boxes.flatMap boxLed)) := by
      have e2 : adrs ((restB R old ++ dn).flatMap boxLed) = adrs ((restB R old ++ mvOf R old ss).flatMap boxLed) := by rw [f, f, List.map_append, List.map_append, e]
      rw [e2]
      exact ((mv_perm hR hp).flatMap_right boxLed).map _
    exact (List.Perm.append_left _ pm).nodup_iff.mpr z
  · have l1 : dn.length = (mvOf R old ss).length := hd.1
    have l2 := (mv_perm hR (old := old) hp).length_eq
    show (restB R old ++ dn).length ≤ 60
    rw [List.length_append] at l2 ⊢
    rw [l1, l2]; exact hR.few
theorem turn_move {W : Wd} {h h' : Heap} {R : StR} {old : Str} {ss gs : List Str} {dn : List BoxR} {oB' : Obj} (hR : StOk W R) (hA : At h (led R)) (hp : ss.Perm (namesOf R)) (hd : DoneJ (mvOf R old ss) gs (mvOf R old ss).length dn)
    (k : Sub (hideAll h (R.dB :: (mvOf R old ss).map (·.D))) h') (eB : h'.get? R.dB = some oB') (eD : ∀ b ∈ dn, h'.get? b.D = some b.od) : Turn h h' R { R with oB := oB', boxes := restB R old ++ dn } := by
  have stD : ∀ p ∈ stLed R, p.1 ∉ (mvOf R old ss).map (·.D) := fun p hp' hm => by
    obtain ⟨b, hb, e⟩ := List.mem_map.mp hm
    exact st_off hR p hp' b (mv_mem hR hp hb).1 (e ▸ in_bx)
  have zst : (adrs (stLed R)).Nodup := by
    have z := hR.nodup
    rw [led, List.map_append] at z
    exact (List.nodup_append.mp z).1
  have kp : ∀ p ∈ led R, p.1 ≠ R.dB → p.1 ∉ (mvOf R old ss).map (·.D) → h'.get? p.1 = some p.2 := fun p hp' h1 h2 => k _ _ (hideAll_get _ (hA p hp') (by rw [List.mem_cons, not_or]; exact ⟨h1, h2⟩))
  have bxB : ∀ b ∈ R.boxes, ∀ p ∈ boxLed b, p.1 ≠ R.dB := fun b hb p hp' e => st_off hR (R.dB, R.oB) (.tail _ (.tail _ (.head _))) b hb (show R.dB ∈ _ by rw [← e]; exact mem_adrs hp')
  simp only [stLed, adrs, List.map_cons, List.map_nil, List.nodup_cons, List.mem_cons, List.not_mem_nil, or_false, not_or] at zst
  refine ⟨(hide_mono fun a ha => ?_).trans k, fun p hp' => ?_, fun p hp' => .inl ?_, rfl⟩
  · rcases List.mem_cons.mp ha with rfl | ha
    · exact .tail _ (.tail _ (.head _))
    · obtain ⟨b, hb, rfl⟩ := List.mem_map.mp ha
      exact mem_adrs (mem_box (mv_mem hR hp hb).1 (.tail _ (.head _)))
  · rcases List.mem_append.mp hp' with hp' | hp'
    · simp only [stLed, List.mem_cons, List.not_mem_nil, or_false] at hp'
      rcases hp' with rfl | rfl | rfl | rfl
      · exact kp (R.st, instObj 293 R.dS) (mem_st (.head _)) zst.1.2.1 (stD _ (.head _))
      · exact kp (R.dS, R.od) (mem_st (.tail _ (.head _))) zst.2.1.1 (stD _ (.tail _ (.head _)))
      · exact eB
      · exact kp (R.lS, R.oS) (mem_st (.tail _ (.tail _ (.tail _ (.head _))))) (fun e => zst.2.2.1 e.symm) (stD _ (.tail _ (.tail _ (.tail _ (.head _)))))
    · obtain ⟨c, hc, hp'⟩ := List.mem_flatMap.mp hp'
      rcases List.mem_append.mp hc with hc | hc
      · have hcR := (List.mem_filter.mp hc).1
        refine kp p (mem_box hcR hp') (bxB c hcR p hp') fun hm => ?_
        obtain ⟨b, hb, e⟩ := List.mem_map.mp hm
        obtain ⟨hbR, hh⟩ := mv_mem hR hp hb
        have : c = b := boxes_apart (bx_nodup hR) c hcR b hbR p.1 (mem_adrs hp') (e ▸ in_bx)
        subst this
        have := (List.mem_filter.mp hc).2
        rw [hh] at this; cases this
      · obtain ⟨b, n, hb, -, r⟩ := hd.mem hc
        obtain ⟨hbR, hh⟩ := mv_mem hR hp hb
        have hD : c.D = b.D := by rw [r.1]
        by_cases z : p = (c.D, c.od)
        · subst z; exact eD c hc
        · have hp2 : p ∈ boxLed b ∧ p.1 ≠ b.D := by
            have hp3 := hp'
            rw [r.1] at hp3
            rcases List.mem_cons.mp hp3 with rfl | hp3
            · refine ⟨.head _, ?_⟩
              rcases bx_rest (bx_one hR hbR) _ (.head _) with q | q
              · exact q
              · have := hR.boxes b hbR
                obtain ⟨m, ho, -⟩ := this.m
                injection q with q1 q2
                obtain ⟨es, ep, hd', -⟩ := ho
                rw [← q2] at hd'; cases hd'
            rcases List.mem_cons.mp hp3 with rfl | hp3
            · exact absurd (by rw [hD]) z
            · have hm : p ∈ boxLed b := .tail _ (.tail _ hp3)
              refine ⟨hm, fun e => ?_⟩
              have hn := bx_one hR hbR
              have : p.1 ∈ (([(b.l, b.ol), (b.gA, b.og)] ++ b.lets.flatMap letLed).map (·.1)) := List.mem_map_of_mem hp3
              simp only [boxLed, adrs, List.map_cons, List.cons_append, List.nodup_cons] at hn
              rw [e] at this
              exact hn.2.1 this
          refine kp p (mem_box hbR hp2.1) (bxB b hbR p hp2.1) fun hm => ?_
          obtain ⟨b2, hb2, e⟩ := List.mem_map.mp hm
          have : b = b2 := boxes_apart (bx_nodup hR) b hbR b2 (mv_mem hR hp hb2).1 p.1 (mem_adrs hp2.1) (e ▸ in_bx)
          subst this
          exact hp2.2 e.symm
  · rcases List.mem_append.mp hp' with hp' | hp'
    · simp only [stLed, List.mem_cons, List.not_mem_nil, or_false] at hp'
      rcases hp' with rfl | rfl | rfl | rfl
      · exact mem_adrs (mem_st (.head _) : (R.st, instObj 293 R.dS) ∈ led R)
      · exact mem_adrs (mem_st (.tail _ (.head _)) : (R.dS, R.od) ∈ led R)
      · show R.dB ∈ adrs (led R)
        exact mem_adrs (mem_st (.tail _ (.tail _ (.head _))) : (R.dB, R.oB) ∈ led R)
      · exact mem_adrs (mem_st (.tail _ (.tail _ (.tail _ (.head _)))) : (R.lS, R.oS) ∈ led R)
    · obtain ⟨c, hc, hp'⟩ := List.mem_flatMap.mp hp'
      have inR : ∀ b ∈ R.boxes, ∀ a, a ∈ adrs (boxLed b) → a ∈ adrs (led R) := fun b hb a ha => by
        obtain ⟨q, hq, rfl⟩ := List.mem_map.mp ha
        exact mem_adrs (mem_box hb hq)
      rcases List.mem_append.mp hc with hc | hc
      · exact inR c (List.mem_filter.mp hc).1 _ (mem_adrs hp')
      · obtain ⟨b, n, hb, -, r⟩ := hd.mem hc
        exact inR b (mv_mem hR hp hb).1 _ (r.adrs ▸ mem_adrs hp')

end
section
section
variable {prog : Program} {w : World} {K : Type} [DecidableEq K] {knd : KeyKind prog w K} {A : Around} {E : Value → Shared → Prop} {h : Heap} {g : Array GenState} {dd : Drawn} {t : Nat} {o : OsState} {d : Addr} {kvs : List (K × Value)} {k : K} {key v : Value}
theorem pop_raw {Q : Value → Shared → Prop} (hD : h.DictOf knd d kvs) (hkey : knd.is k key = true) (hpart : (keyPart key).isSome = true) (hl : valueAt kvs k = some v) (hsz : kvs.length ≤ sizeLine)
    (kk : ∀ h' t', h'.DictOf knd d (without kvs k) → Heap.SameBut d h h' → Q v ⟨h', g, dd, t', o⟩) : wpAny (model prog w) A (call (.builtin "dict.pop") [.ref d, key]) Q E ⟨h, g, dd, t, o⟩ :=
  call_meetsIn (s := ⟨h, g, dd, t, o⟩) PySem.F.slot_dict_pop hD.typeIs PySem.F.entry_dict_pop (PySem.F.args_dict_pop_2 _ _) (meets_dict_pop_there knd d hkey [] (.inl rfl) hpart) ⟨kvs, v, hD, hsz, hl, fun h' hmm hs => kk h' _ hmm hs⟩
end
section
variable {prog : Program} {w : World} {A : Around} {E : Value → Shared → Prop} {h : Heap} {g : Array GenState} {d : Drawn} {t : Nat} {o : OsState}
theorem zipK {xs ys : List Value} {elts : List Expr} {ek : Nat} {pos : Pos} {I : Addr} {fp wr : List Addr} {Md : Nat → Value → Heap → Prop} {St : Nat → Heap → Prop}
    (W : KTurns prog w A (.Tuple elts ek pos) I fp wr (min xs.toArray.size ys.toArray.size) (fun i v h => ∃ T vals, v = .ref T ∧ (∃ x y, xs.toArray[i]? = some x ∧ ys.toArray[i]? = some y ∧ vals = #[x, y]) ∧ h.IsTuple T vals) Md St) (hlen : xs.length = ys.length) :
    KTurns prog w A (.Tuple elts ek pos) I fp wr xs.length (fun i v h => ∃ T x y, v = .ref T ∧ xs[i]? = some x ∧ ys[i]? = some y ∧ h.IsTuple T #[x, y]) Md St := by
  have en : min xs.toArray.size ys.toArray.size = xs.length := by rw [List.size_toArray, List.size_toArray, hlen, Nat.min_self]
  rw [en] at W
  exact ⟨W.sub, W.frame, W.item, fun i v s Q E hm hQ => W.go i v s Q E hm fun h' hP st hk => hQ h' (by
      obtain ⟨T, vals, rfl, ⟨x, y, hx, hy, rfl⟩, hT⟩ := hP
      exact ⟨T, x, y, rfl, by simpa using hx, by simpa using hy, hT⟩) st hk, W.done⟩
theorem iter_zip {l1 l2 : Addr} {xs ys : List Value} {Q : Value → Shared → Prop} (hl1 : h.IsList l1 xs.toArray) (hl2 : h.IsList l2 ys.toArray) (hlen : xs.length = ys.length) (hh : A.handled = none)
    (k : ∀ z fp wr St Md h', (∀ b ∈ wr, h.objs.size ≤ b) → (∀ b ∈ fp, b ∉ wr → h.objs.size ≤ b ∨ b = l1 ∨ b = l2) → (∀ b ∈ fp, b < h'.objs.size) → h.objs.size ≤ h'.objs.size → Sub h h' →
      (∀ elts ek pos, KTurns prog w A (.Tuple elts ek pos) z fp wr xs.length (fun i v h => ∃ T x y, v = .ref T ∧ xs[i]? = some x ∧ ys[i]? = some y ∧ h.IsTuple T #[x, y]) Md St) → St 0 h' → Q (.ref z) ⟨h', g, d, t, o⟩) :
    wpAny (model prog w) A (call (.type "zip") [.ref l1, .ref l2]) (fun xv s₁ => wpAny (model prog w) A (pyIter xv) Q E s₁) E ⟨h, g, d, t, o⟩ := by
  have hlt1 : l1 < h.objs.size := by obtain ⟨ob, h1, _⟩ := hl1; exact Heap.lt_size h1
  have hlt2 : l2 < h.objs.size := by obtain ⟨ob, h1, _⟩ := hl2; exact Heap.lt_size h1
  have D : ZipApart (h.objs.size + 4) (h.objs.size + 2) (h.objs.size + 3) h.objs.size (h.objs.size + 1) l1 l2 := ktu_apart _ _ _ hlt1 hlt2
  refine call_zip_2 (s := ⟨h, g, d, t, o⟩) hl1 hl2 fun h' hz hTI hTO hi1 hi2 hsz hk => ?_
  refine wpAny_pyIter_zip hz ?_
  have W' := fun (elts : List Expr) (ek : Nat) (pos : Pos) => zipK (elts := elts) (ek := ek) (pos := pos) (KTurns.ofWalksU (elts := elts) (k := ek) (pos := pos) (WalksT.zip2 (prog := prog) (w := w) (A := A) hh _ _ _ _ _ _ _ D xs.toArray ys.toArray).toU) hlen
  have hsz' : h'.objs.size = h.objs.size + 5 := hsz
  refine k _ _ _ _ _ h' ?_ ?_ ?_ (by omega) hk W' ⟨hz, hTI, ⟨_, _, hTO⟩, hi1, hi2, hl1.at fun o e => hk l1 o e, hl2.at fun o e => hk l2 o e⟩
  · intro b hb
    have hb' : b = h.objs.size + 4 ∨ b = h.objs.size + 3 ∨ b = h.objs.size ∨ b = h.objs.size + 1 := by simpa using hb
    show (h.objs.size : Nat) ≤ b
    rcases hb' with rfl | rfl | rfl | rfl <;> omega
  · intro b hb _
    have hb' : b = h.objs.size + 4 ∨ b = h.objs.size + 2 ∨ b = h.objs.size + 3 ∨ b = h.objs.size ∨ b = h.objs.size + 1 ∨ b = l1 ∨ b = l2 := by simpa using hb
    rcases hb' with rfl | rfl | rfl | rfl | rfl | rfl | rfl
    · exact .inl (Nat.le_add_right _ _)
    · exact .inl (Nat.le_add_right _ _)
    · exact .inl (Nat.le_add_right _ _)
    · exact .inl (Nat.le_refl _)
    · exact .inl (Nat.le_add_right _ _)
    · exact .inr (.inl rfl)
    · exact .inr (.inr rfl)
  · intro b hb
    have hb' : b = h.objs.size + 4 ∨ b = h.objs.size + 2 ∨ b = h.objs.size + 3 ∨ b = h.objs.size ∨ b = h.objs.size + 1 ∨ b = l1 ∨ b = l2 := by simpa using hb
    refine Nat.lt_of_lt_of_eq ?_ hsz'.symm
    rcases hb' with rfl | rfl | rfl | rfl | rfl | rfl | rfl
    · exact Nat.add_lt_add_left (by decide) _
    · exact Nat.add_lt_add_left (by decide) _
    · exact Nat.add_lt_add_left (by decide) _
    · exact Nat.lt_add_of_pos_right (by decide)
    · exact Nat.add_lt_add_left (by decide) _
    · exact Nat.lt_of_lt_of_le hlt1 (Nat.le_add_right _ _)
    · exact Nat.lt_of_lt_of_le hlt2 (Nat.le_add_right _ _)
end
section
variable {M : Model} {A : Around} {E : Value → Shared → Prop} {s : Shared} {h₀ : Heap} {L : Addr} {m : Str → Option Value} {env : Env} {x : Str} {pos : Pos} {v : Value} {Q : Value → Shared → Prop}
theorem nmCF {c : Addr} (k : Q v s) (F : Fr h₀ L s.heap m := by assumption) (hc : env.cells.lookup x = some c := by rfl) (hk : env.scope.kind = .function := by rfl) (hx : env.kindOf x = some .cell := by rfl) (hv : h₀.IsCell c (some v) := by assumption) (hd : (x == ("__debug__" : Str)) = false := by decide) :
    wpAny M A (eval (.Name x pos) env) Q E s := wpAny_Name (wpAny_loadName_cell hk hx hc (by obtain ⟨ob, h1, h2⟩ := hv; exact ⟨ob, F.keep _ _ h1, h2⟩) k) hd
end
theorem atMeth (n : String) {M : Model} {A : Around} {E : Value → Shared → Prop} {s : Shared} {d : Addr} {pl : Sem Bool} {Q : Value × List Value → Shared → Prop} (k : wpAny M A (getMethod (.ref d) (PySem.Str.ofString n) pl) Q E s) : wpAny M A (getMethod (.ref d) (PySem.Str.ofString n) pl) Q E s := k
theorem pop_meth {w : World} {A : Around} {E : Value → Shared → Prop} {s : Shared} {h₀ : Heap} {L d : Addr} {o : Obj} {news : Led} {kvs : List (Str × Value)} {pl : Sem Bool} {Q : Value × List Value → Shared → Prop} (k : Q (.builtin "dict.pop", [.ref d]) s)
    (N : News h₀ L s.heap news := by assumption) (hp : (d, o) ∈ news := by k_mem) (hd : o.IsDictOf (PySem.strKind prg w) kvs := by assumption) : wpAny (model prg w) A (getMethod (.ref d) "pop" pl) Q E s :=
  kob_method (knd := PySem.strKind _ _) PySem.F.slot_dict_pop PySem.F.type_dict_pop N hp hd k
theorem isTup_news {h₀ h : Heap} {L T : Addr} {oT : Obj} {news : Led} {vs : Array Value} {n : Nat} (N : News h₀ L h news := by assumption) (hm : (T, oT) ∈ news := by k_mem) (hc : oT.cls = .type "tuple" := by assumption) (hd : oT.data = .seq vs n := by assumption) : IsTup h T vs := ⟨oT, (N _ hm).1, hc, n, hd⟩
section
variable {prog : Program} {w : World} {A : Around} {E : Value → Shared → Prop} {s : Shared} {value slice : Expr} {t : Addr} {x y : Value} {u : Tok} {Q : Value → Shared → Prop}
theorem atSub (i : Int) {M : Model} (k : wpAny M A (subscriptTail value slice (.ref t) (.int i u)) Q E s) : wpAny M A (subscriptTail value slice (.ref t) (.int i u)) Q E s := k
theorem item_pair0 (ht : IsTup s.heap t #[x, y] := by with_reducible assumption) (h : Q x s) (hs : subscripted slice false (.ref t) (.int 0 u) = operate [.ref t, .int 0 u] (getItem (.ref t) (.int 0 u)) := by with_unfolding_all rfl) : wpAny (model prog w) A (subscriptTail value slice (.ref t) (.int 0 u)) Q E s :=
  item_tupleT (l := [x, y]) (j := 0) ht (by decide) (by decide) (by simp only [List.length_cons, List.length_nil]; decide) rfl h hs
theorem item_pair1 (ht : IsTup s.heap t #[x, y] := by with_reducible assumption) (h : Q y s) (hs : subscripted slice false (.ref t) (.int 1 u) = operate [.ref t, .int 1 u] (getItem (.ref t) (.int 1 u)) := by with_unfolding_all rfl) : wpAny (model prog w) A (subscriptTail value slice (.ref t) (.int 1 u)) Q E s :=
  item_tupleT (l := [x, y]) (j := 1) ht (by decide) (by decide) (by simp only [List.length_cons, List.length_nil]; decide) rfl h hs
end
end
local macro_rules | `(tactic| walk_at "o_get") => `(tactic| first
  | (refine' Fr.keep ?oF _ _ ?oE; (case oF => assumption); (case oE => with_reducible assumption))
  | (refine' News.get ?oN ?oM; (case oN => assumption); (case oM => with_reducible k_mem))
  | with_reducible assumption)
local macro_rules | `(tactic| walk_at "getMethod ref") => `(tactic| ((with_reducible refine' atMeth "pop" ?_); k_dflt (refine' pop_meth ?_; k_whole)))
local macro_rules | `(tactic| walk_at "subscriptTail Name Constant ref int") => `(tactic| first
  | ((with_reducible refine' atSub 0 ?_); refine' item_pair0 (h := ?_); k_whole)
  | ((with_reducible refine' atSub 1 ?_); (first | refine' item_pair1 (h := ?_) | refine' item_pair1 isTup_news ?_); k_whole))
local macro_rules | `(tactic| walk_at "eval Name") => `(tactic| ((with_reducible refine' atCompN "store" ?_); k_dflt (refine' nmCF ?_; k_whole)))
local macro_rules | `(tactic| walk_at "eval Name") => `(tactic| ((with_reducible refine' atCompN "pair" ?_); k_dflt (walk_at "nmL")))
section
section
variable {A : Around} {E E' : Value → Shared → Prop} {h h₁ : Heap} {g : Array GenState} {d : Drawn} {o : OsState} {L : Addr} {m : Str → Option Value} {env : Env}
theorem Raises.pushG {W : Wd} {M : Model} (R : Raises W A h E g d o) (F : Fr h L h₁ m) (hf : env.frame = some L) (hk : env.scope.kind = .function) :
    Raises W (A.deeper env) h₁ (fun e s' => wpAny M (A.deeper env) (leaving env e) (fun _ s'' => E e s'') E' s') g d o := by
  obtain ⟨base, outer, K, ⟨kz, ks⟩, k⟩ := R
  refine ⟨base, env :: outer, pushX K F hf hk, ⟨Nat.le_trans kz (Nat.le_trans F.above (Nat.le_of_lt F.ns.lt)), ks⟩, fun h' e D cx t' x u => ?_⟩
  exact leave_x (s := ⟨h', g, d, t', o⟩) (Around.frames_deeper K.stack) hf x (.inr rfl) fun h₂ x₂ u₂ => k h₂ e D cx t' x₂ (((Heap.UpToSlots.of_keeps F.keep).trans u).trans u₂)
end
section
variable {prog : Program} {w : World} {A : Around} {env : Env} {g : Array GenState} {d : Drawn} {t : Nat} {o : OsState} {h₁ h : Heap}
theorem comp_inA {scope : Scope} {cl : List (Str × Addr)} {x y : Str} {ifs : List Expr} {elt : Expr} {I : Addr} {fp wr : List Addr} {n : Nat} {P : Nat → Value → Prop} {St : Nat → Heap → Prop} {Q : Flow → Shared → Prop} {m : Str → Option Value} {h₀ : Heap} (F : Fr h₀ env.locals h₁ m) (W : Walks prog w A I fp wr n P St) (hsz : n ≤ sizeLine) (hst : St 0 h) (hfp : ∀ b ∈ fp, b < h.objs.size)
    (hle : h₁.objs.size ≤ h.objs.size) (J : Addr → Addr → Nat → List Value → Heap → Prop) (hJ : CompInv prog w A env scope cl x ifs elt g d o fp wr n P h (fun _ => False) J) (hJn : ∀ C D i ys h₂, J C D i ys h₂ → h₂.Ns env.locals m)
    (hQ : ∀ C D ys h₂ h' t', h.objs.size ≤ C → h.objs.size ≤ D → h'.IsList D ys.toArray → ys.length ≤ n → J C D n ys h₂ → h'.Ns env.locals (fun z => if z = y then some (.ref D) else m z) → (∀ b, b ≠ C → b ≠ env.locals → h'.get? b = h₂.get? b) → Q .next ⟨h', g, d, t', o⟩) :
    CompAtA prog w A env scope cl x y ifs elt Q (.ref I) ⟨h, g, d, t, o⟩ :=
  ⟨I, fp, wr, n, P, St, h, g, d, t, o, m, rfl, rfl, W, hsz, hst, hfp, Nat.lt_of_lt_of_le F.ns.lt hle, fun _ => False, fun _ z => z.elim, fun _ _ _ _ _ _ _ z => z, J, hJ.toN, hJn, hQ⟩
end
section
variable {prog : Program} {w : World} {A : Around} {E : Value → Shared → Prop} {env : Env} {g : Array GenState} {d : Drawn} {t : Nat} {o : OsState} {h : Heap}
noncomputable abbrev OffJ (ns : List Str) (m : Str → Option Value) (J : Nat → Heap → Prop) (i : Nat) (m' : Str → Option Value) (h' : Heap) : Prop := (∀ y, y ∉ ns → m' y = m y) ∧ J i h'
theorem loop_in {target : Expr} {body : List Stmt} {Q : Flow → Shared → Prop} (ns : List Str) {m : Str → Option Value} {h₀ : Heap} {I : Addr} {fp wr : List Addr} {n : Nat} {P Md : Nat → Value → Heap → Prop} {St : Nat → Heap → Prop} (F : Fr h₀ env.locals h m) (W : KTurns prog w A target I fp wr n P Md St) (hL : env.locals ∉ wr) (hst : St 0 h) (J : Nat → Heap → Prop) (hJ0 : J 0 h)
    (stable : ∀ i h₁ h', J i h₁ → (∀ b ob, b ≠ env.locals → b ∉ wr → h₁.get? b = some ob → h'.get? b = some ob) → J i h')
    (turn : ∀ i v m' h₁ t₁, i < n → P i v h₁ → St (i + 1) h₁ → J i h₁ → (∀ y, y ∉ ns → m' y = m y) → h₁.Ns env.locals m' →
      wpAny (model prog w) A (assign target env v) (fun _ s₂ => wpAny (model prog w) A (execs body env) (fun f s' => match f with
        | .ret v => Q (.ret v) s'
        | .brk => Q .next s'
        | _ => TurnEnd g d o env.locals i (OffJ ns m J) St s')
        (notedBy (model prog w) A env (cameBackBy (model prog w) A env E)) s₂) (notedBy (model prog w) A env (cameBackBy (model prog w) A env E)) ⟨h₁, g, d, t₁, o⟩)
    (done : ∀ m' h' t', (∀ y, y ∉ ns → m' y = m y) → J n h' → h'.Ns env.locals m' → Q .next ⟨h', g, d, t', o⟩) : LoopAt prog w A env target body Q E (.ref I) ⟨h, g, d, t, o⟩ :=
  ⟨I, fp, wr, n, P, Md, St, h, g, d, t, o, m, OffJ ns m J, rfl, rfl, W, hL, hst, F.ns, ⟨fun _ _ => rfl, hJ0⟩, ⟨fun i m' h₁ h' hJ hk => ⟨hJ.1, stable i h₁ h' hJ.2 hk⟩, fun i v m' h₁ t₁ hi hP hs hJ hn => turn i v m' h₁ t₁ hi hP hs hJ.2 hJ.1 hn, fun m' h' t' hJ hn => done m' h' t' hJ.1 hJ.2 hn⟩⟩
end
theorem frOff2 {h₀ h₀' h h₁ : Heap} {L : Addr} {m m' : Str → Option Value} {a b : Str} (F : Fr h₀ L h m) (hn : h₁.Ns L m') (hm : ∀ y, y ∉ [a, b] → m' y = m y) (hs : Sub h₀' h₁) (hz : h₀'.objs.size ≤ L) : Fr h₀' L h₁ (fun y => if y = a then m' a else if y = b then m' b else m y) :=
  ⟨nsEq hn fun y => by
    by_cases h1 : y = a
    · subst h1; rw [if_pos rfl]
    · by_cases h2 : y = b
      · subst h2; rw [if_neg h1, if_pos rfl]
      · rw [if_neg h1, if_neg h2]; exact hm y (by simp [h1, h2]), hs, hz⟩
theorem tvl_in {h : Heap} {NT : Led} {l : List (Str × Str)} {ys : List Value} (hT : ∀ h'', At h'' NT → TvL h'' (l.map toldP) ys) (hA : At h NT) {i : Nat} {v : Value} (hv : ys[i]? = some v) :
    ∃ p T u1 u2 oT n, l[i]? = some p ∧ v = .ref T ∧ (T, oT) ∈ NT ∧ oT.cls = .type "tuple" ∧ oT.data = .seq #[.str p.1 u1, .str p.2 u2] n := by
  have ha : At (hideAll h ((List.range h.objs.size).filter fun b => decide (b ∉ adrs NT))) NT := fun p hp => hideAll_get _ (hA p hp) fun hm => by
    have := (List.mem_filter.mp hm).2
    simp only [decide_eq_true_eq] at this
    exact this (mem_adrs hp)
  obtain ⟨p, T, u1, u2, e1, e2, oT, hoT, hc, n, hd⟩ := tvl_ps (hT _ ha) hv
  have hin : T ∈ adrs NT := by
    by_cases z : T ∈ adrs NT
    · exact z
    · rw [hideAll_none _ (List.mem_filter.mpr ⟨List.mem_range.mpr (Heap.lt_size (of_hideAll _ hoT)), decide_eq_true z⟩)] at hoT; cases hoT
  obtain ⟨q, hq, rfl⟩ := List.mem_map.mp hin
  have := ha q hq
  rw [hoT] at this
  obtain rfl := Option.some.inj this
  exact ⟨p, q.1, u1, u2, q.2, n, e1, e2, hq, hc, hd⟩
noncomputable def fpLed (h : Heap) (fp : List Addr) : Led := fp.filterMap fun b => (h.get? b).map fun o => (b, o)
theorem fpLed_at {h : Heap} {fp : List Addr} : At h (fpLed h fp) := fun p hp => by
  obtain ⟨b, hb, e⟩ := List.mem_filterMap.mp hp
  obtain ⟨o, ho, rfl⟩ := Option.map_eq_some_iff.mp e
  exact ho
theorem fpLed_mem {h : Heap} {fp : List Addr} : ∀ p ∈ fpLed h fp, p.1 ∈ fp := fun p hp => by
  obtain ⟨b, hb, e⟩ := List.mem_filterMap.mp hp
  obtain ⟨o, ho, rfl⟩ := Option.map_eq_some_iff.mp e
  exact hb
theorem fpLed_in {h : Heap} {fp : List Addr} {b : Addr} {o : Obj} (hb : b ∈ fp) (e : h.get? b = some o) : (b, o) ∈ fpLed h fp := List.mem_filterMap.mpr ⟨b, hb, by rw [e]; rfl⟩
theorem popped_nil (R : StR) : popped R [] = kvsOf R.boxes := by unfold popped; exact List.filter_eq_self.mpr fun _ _ => by simp
theorem ps_get {old new : Str} {ss : List Str} {i : Nat} {p : Str × Str} (h : (psOf old new ss)[i]? = some p) : ∃ x, (hitsOf old ss)[i]? = some x ∧ p = (x, goalOf old new x) := by
  unfold psOf at h
  rw [List.getElem?_map, Option.map_eq_some_iff] at h
  obtain ⟨x, hx, rfl⟩ := h
  exact ⟨x, hx, rfl⟩
/-- what became of the boxes -/
noncomputable def pbAt (bs : List PB) (x : Str) : PB := (bs.find? fun b => b.name = x).getD ⟨"", 0, 0, 0, []⟩
noncomputable def moveP (bs : List PB) (old new : Str) (ss : List Str) : List PB := bs.filter (fun b => !hitP old b.name) ++ (hitsOf old ss).map fun x => { pbAt bs x with name := goalOf old new x }
/-- while boxes are taken out -/
inductive PopJ (W : Wd) (h8 : Heap) (dB : Addr) (n : Nat) (kv : Nat → List (Str × Value)) (mv : List BoxR) (C D : Addr) (i : Nat) (ys : List Value) (h' : Heap) : Prop
  | mk (k0 : n ≤ C ∧ n ≤ D) (k1 : ∀ b ob, b ≠ dB → h8.get? b = some ob → h'.get? b = some ob) (e : ∃ oB, h'.get? dB = some oB ∧ oB.IsDictOf (strKind prg W.w) (kv i)) (y : ys = (mv.take i).map fun b => Value.ref b.b)
/-- while they are put back -/
inductive ZipJ (W : Wd) (B : Heap) (K : Led) (mv : List BoxR) (gs : List Str) (rest : List BoxR) (dB : Addr) (i : Nat) (h' : Heap) : Prop
  | mk (q1 : Sub B h') (q2 : At h' K) (dn : List BoxR) (oB' : Obj) (dj : DoneJ mv gs i dn) (eB : h'.get? dB = some oB') (dd : oB'.IsDictOf (strKind prg W.w) (kvsOf (rest ++ dn))) (e1 : ∀ b ∈ dn, h'.get? b.D = some b.od) (e2 : ∀ b ∈ mv.drop i, h'.get? b.D = some b.od)
section
variable {dp un : Nat} {fr : Option (List Env)} {gd : Option (List Code)} {h : Heap} {g : Array GenState} {d : Drawn} {t : Nat} {o : OsState} {Q E : Value → Shared → Prop}
theorem pbAt_of {W : Wd} {R : StR} (hR : StOk W R) {x : Str} (hx : x ∈ namesOf R) : pbAt (pbs R) x = pb (boxAt R x) := by
  obtain ⟨b, hb, rfl⟩ := List.mem_map.mp hx
  rw [boxAt_of hR hb]
  unfold pbAt pbs
  rw [List.find?_map]
  have := find_box hR hb
  show (Option.map pb (R.boxes.find? fun c => c.name = b.name)).getD _ = _
  rw [this]; rfl
theorem pbs_move {W : Wd} {R : StR} {old new : Str} {ss : List Str} {dn : List BoxR} (hR : StOk W R) (hp : ss.Perm (namesOf R)) (hd : DoneJ (mvOf R old ss) ((hitsOf old ss).map (goalOf old new)) (mvOf R old ss).length dn) : (restB R old ++ dn).map pb = moveP (pbs R) old new ss := by
  unfold moveP
  rw [List.map_append]
  congr 1
  · unfold restB pbs
    rw [List.filter_map]; rfl
  · refine List.ext_getElem? fun j => ?_
    rw [List.getElem?_map, List.getElem?_map]
    have hl : (mvOf R old ss).length = (hitsOf old ss).length := by unfold mvOf; rw [List.length_map]
    cases e : dn[j]? with
    | none =>
      rw [List.getElem?_eq_none_iff] at e
      rw [List.getElem?_eq_none_iff.mpr (by rw [← hl, ← hd.1]; exact e)]; rfl
    | some b' =>
      obtain ⟨b, n, e1, e2, r⟩ := hd.2 j b' e
      have hj : j < (hitsOf old ss).length := by rw [← hl]; exact (List.getElem?_eq_some_iff.mp e1).1
      obtain ⟨x, hx⟩ : ∃ x, (hitsOf old ss)[j]? = some x := ⟨_, List.getElem?_eq_getElem hj⟩
      obtain ⟨g1, g2, g3, g4⟩ := mv_get hR hp hx
      rw [g1] at e1
      obtain rfl := Option.some.inj e1
      rw [List.getElem?_map, hx] at e2
      obtain rfl := Option.some.inj e2
      rw [hx]
      show some (pb b') = some { pbAt (pbs R) x with name := goalOf old new x }
      rw [pbAt_of hR (g3 ▸ List.mem_map_of_mem g2), r.1]; rfl
theorem tup_led {W : Wd} {R : StR} (hR : StOk W R) {p : Addr × Obj} (hp : p ∈ led R) (ht : isTup p.2) : ∃ b ∈ R.boxes, ∃ x ∈ b.lets, p = (x.fl, x.of_) := by
  obtain ⟨tc, tvs, tn, td⟩ := ht
  have noOd : ∀ {o : Obj} {m : Str → Option Value}, OdIs o m → o.data = .seq tvs tn → False := fun x e => by
    obtain ⟨es, ep, hd, -⟩ := x
    rw [hd] at e; cases e
  have noL : ∀ {o : Obj} {vs : List Value}, listO o vs → o.cls = .type "tuple" → False := fun x e => by
    obtain ⟨n, rfl⟩ := x
    injection e with e
    exact absurd e (by decide)
  have noI : ∀ {C D : Addr}, (instObj C D).data = .seq tvs tn → False := fun e => by cases e
  rcases List.mem_append.mp hp with hp | hp
  · simp only [stLed, List.mem_cons, List.not_mem_nil, or_false] at hp
    rcases hp with rfl | rfl | rfl | rfl
    · exact (noI td).elim
    · obtain ⟨m, x, -⟩ := hR.m; exact (noOd x td).elim
    · obtain ⟨es, ep, -, hd, -⟩ := hR.b
      rw [hd] at td; cases td
    · exact (noL hR.s tc).elim
  · obtain ⟨b, hb, hp⟩ := List.mem_flatMap.mp hp
    have hB := hR.boxes b hb
    rcases List.mem_append.mp hp with hp | hp
    · simp only [List.mem_cons, List.not_mem_nil, or_false] at hp
      rcases hp with rfl | rfl | rfl | rfl
      · exact (noI td).elim
      · obtain ⟨m, x, -⟩ := hB.m; exact (noOd x td).elim
      · exact (noL hB.l tc).elim
      · exact (noL hB.g tc).elim
    · obtain ⟨x, hx, hp⟩ := List.mem_flatMap.mp hp
      have hX := hB.lets x hx
      simp only [letLed, List.mem_cons, List.not_mem_nil, or_false] at hp
      rcases hp with rfl | rfl | rfl
      · exact (noI td).elim
      · obtain ⟨m, y, -⟩ := hX.m; exact (noOd y td).elim
      · exact ⟨b, hb, x, hx, rfl⟩
theorem tup_move {W : Wd} {R : StR} {old : Str} {ss gs : List Str} {dn : List BoxR} {oB' : Obj} (hR : StOk W R) (hp : ss.Perm (namesOf R)) (hd : DoneJ (mvOf R old ss) gs (mvOf R old ss).length dn) {b : BoxR} (hb : b ∈ R.boxes) {x : LetR} (hx : x ∈ b.lets) :
    (x.fl, x.of_) ∈ led { R with oB := oB', boxes := restB R old ++ dn } := by
  rcases List.mem_append.mp ((mv_perm hR (old := old) hp).mem_iff.mpr hb) with hm | hm
  · exact mem_box (R := { R with oB := oB', boxes := restB R old ++ dn }) (List.mem_append_left _ hm) (mem_let hx (.tail _ (.tail _ (.head _))))
  · obtain ⟨j, hj⟩ := List.getElem?_of_mem hm
    have hjl : j < dn.length := by rw [hd.1]; exact (List.getElem?_eq_some_iff.mp hj).1
    have hj' : dn[j]? = some dn[j] := List.getElem?_eq_getElem hjl
    obtain ⟨b0, n, e1, e2, r⟩ := hd.2 j _ hj'
    rw [hj] at e1
    obtain rfl := Option.some.inj e1
    have el : dn[j].lets = b.lets := by rw [r.1]
    exact mem_box (R := { R with oB := oB', boxes := restB R old ++ dn }) (List.mem_append_right _ (List.mem_of_getElem? hj')) (mem_let (by rw [el]; exact hx) (.tail _ (.tail _ (.head _))))
set_option maxHeartbeats 1000000 in
theorem rename_box_c (W : Wd) {R : StR} {old new : Str} {u0 u1 : Tok} (S : Sub W.H0 (hideAll h (adrs (led R)))) (r : Rm 10 (Ar dp fr gd un)) (hR : StOk W R) (hA : At h (led R)) (hol : old.length ≤ 50000) (hnl : new.length ≤ 50000)
    (hgood : checkOk (normalN new) = true → ∀ n ∈ namesOf R, hitP (normalN old) n = true → checkOk (normalN (goalOf (normalN old) (normalN new) n)) = true ∧ normalN (goalOf (normalN old) (normalN new) n) = goalOf (normalN old) (normalN new) n)
    (hinj : ∀ a ∈ namesOf R, ∀ b ∈ namesOf R, hitP (normalN old) a = true → hitP (normalN old) b = true → goalOf (normalN old) (normalN new) a = goalOf (normalN old) (normalN new) b → a = b)
    (hshort : ∀ n ∈ namesOf R, hitP (normalN old) n = true → (goalOf (normalN old) (normalN new) n).length ≤ 100000)
    (hinb : ∀ b ∈ R.boxes, b.name = "INBOX" → b.lets = []) (hnv : R.nv < 1000000) (few : R.boxes.length < 60)
    (kI : normalN old = "INBOX" → checkOk (normalN new) = true → normalN new ∉ namesOf R → ∀ h' t' R' v, Turn h h' R R' → StOk W R' → R'.nv = R.nv + 1 → pbs R' = pbs R ++ [⟨normalN new, R.nv, 1, 1, []⟩] → Tv h' (.lst [.tup [.str "INBOX", .str (normalN new)]]) v → Q v ⟨h', g, d, t', o⟩)
    (kM : normalN old ∈ namesOf R → normalN old ≠ "INBOX" → checkOk (normalN new) = true → normalN new ∉ namesOf R → ∀ ss, ss.Perm (namesOf R) → sortedS ss = true → (∀ p ∈ psOf (normalN old) (normalN new) ss, p.2 ∉ namesOf R) →
      ∀ h' t' R' v, Turn h h' R R' → StOk W R' → R'.nv = R.nv → pbs R' = moveP (pbs R) (normalN old) (normalN new) ss → (∀ b ob, h.get? b = some ob → isTup ob → h'.get? b = some ob) → Tv h' (.lst ((psOf (normalN old) (normalN new) ss).map toldP)) v → Q v ⟨h', g, d, t', o⟩)
    (kE : (normalN old ∉ namesOf R ∨ checkOk (normalN new) = false ∨ normalN new ∈ namesOf R ∨ (normalN old ≠ "INBOX" ∧ ∃ ss, ss.Perm (namesOf R) ∧ sortedS ss = true ∧ ∃ p ∈ psOf (normalN old) (normalN new) ss, p.2 ∈ namesOf R)) → Raises W (Ar dp fr gd un) h E g d o) :
    wpAny (model prg W.w) (Ar dp fr gd un) (call (.ref 351) [.ref R.st, .str old u0, .str new u1]) Q E ⟨h, g, d, t, o⟩ := by
  have S0 := S.trans hide_sub
  have hnlo := normal_len old
  have hnln := normal_len new
  obtain ⟨mS, ho, hw, m1, m2, u3, m3⟩ := hR.m
  obtain ⟨a1, a2, a3, a4⟩ := at_st hA
  refine' callDefC W [("store", .ref R.st), ("old", .str old u0), ("new", .str new u1)] S0 r ?_
  intro L h₁ cells F N Y t₁
  refine wp_abs fun Q1 hQ1 E1 hE1 => ?_
  have X := W.X' S0
  have T := W.T' S0
  obtain ⟨oc, rfl, hoc⟩ := Y.one
  clear Y
  k_steps
  refine box_c W (subF F S0) (by walk_at "room") hR (hA.keeps F.keep) (by walk_at "om") ?_ (fun hx => (Raises.pushG (kE (.inl hx)) F rfl rfl).to hE1)
  intro b hb hbn h2 t2 hs2
  have F2 := frSub hs2 F
  have N2 := newsSub hs2 N
  have hon : normalN old ∈ namesOf R := hbn ▸ List.mem_map_of_mem hb
  clear F N
  k_steps
  rename Fr _ _ _ _ => F3
  rename News _ _ _ _ => N3
  refine settled_name_c W (subF F3 S0) (by walk_at "room") (by walk_at "om") (fun hck => ?_) (fun hx => (Raises.pushG (kE (.inr (.inl hx))) F3 rfl rfl).to hE1)
  intro h4 t4 u4 hs4
  have F4 := frSub hs4 F3
  have N4 := newsSub hs4 N3
  clear F3 N3
  k_steps
  rename Fr _ _ _ _ => F5
  rename News _ _ _ _ => N5
  refine need_new_c W (subF F5 S0) (by walk_at "room") hR (hA.keeps F5.keep) (fun hnew => ?_) (fun hx => (Raises.pushG (kE (.inr (.inr (.inl hx)))) F5 rfl rfl).to hE1)
  intro h6 t6 hs6
  have F6 := frSub hs6 F5
  have N6 := newsSub hs6 N5
  clear F5 N5
  clear ho hw m1 m2 m3
  obtain ⟨mb, ho, hw, ⟨ub1, m1⟩, -⟩ := (hR.boxes b hb).m
  obtain ⟨b1, b2, b3, b4⟩ := at_box hA hb
  rw [hbn] at m1
  k_steps
  · have eI : normalN old = "INBOX" := by
      rename (_ == _) = true => hq
      exact eq_of_beq hq
    refine rename_inbox_c W (S.trans (hide_to F6.keep fun _ x => x)) (by walk_at "room") hR (hA.keeps F6.keep) hb (hinb b hb (hbn.trans eI)) (by walk_at "om") hnew hnv few ?_
    intro h' t' R' v tn ok e1 e2 tv
    exact hQ1 _ _ (kI eI hck hnew h' t' R' v (tn.before hA F6.keep) ok e1 e2 tv)
  have eI : normalN old ≠ "INBOX" := by
    rename (_ == _) = false => hq
    exact fun z => by rw [z] at hq; exact absurd hq (by decide)
  refine renamed_pairs_c W (subF F6 S0) (by walk_at "room") hR (hA.keeps F6.keep) (by walk_at "om") (by walk_at "om") (hgood hck) ?_ (fun ss q1 q2 q3 => (Raises.pushG (kE (.inr (.inr (.inr ⟨eI, ss, q1, q2, q3⟩)))) F6 rfl rfl).to hE1)
  intro ss hp hso hfree h7 t7 l0 n0 ys0 NT hs7 hNT hys0
  have kM' := kM hon eI hck hnew ss hp hso hfree
  have F7 := frSub hs7 F6
  have N7 : News h L h7 ((L + 1, oc) :: (l0, PySem.W.listOf ys0.toArray n0) :: NT) := (allCons (newsSub hs7 N6 _ (.head _)) (fun p hp => by
      refine ⟨(hNT p hp).1, fun z => ?_, noneSub F6.keep (hNT p hp).2⟩
      obtain ⟨oL, hL1, _⟩ := ns_notF F6.ns
      have := (hNT p hp).2
      have z' : p.1 = L := z
      rw [z', hL1] at this; cases this))
  have hfr : ∀ p ∈ (l0, PySem.W.listOf ys0.toArray n0) :: NT, ∀ q ∈ led R, p.1 ≠ q.1 := fun p hp q hq => goneNe (hNT p hp).2 (F6.keep _ _ (hA q hq))
  clear F6 N6 kI kM kE ho hw m1
  generalize hold' : normalN old = od0 at *
  generalize hnew' : normalN new = nw0 at *
  obtain ⟨mS, ho, hw, m1, m2, u3', m3⟩ := hR.m
  k_steps
  rename Fr _ _ _ _ => F8
  rename News _ _ _ _ => N8
  rename_i h8
  have zst : (adrs (stLed R)).Nodup := by
    have z := hR.nodup
    rw [led, List.map_append] at z
    exact (List.nodup_append.mp z).1
  simp only [stLed, adrs, List.map_cons, List.map_nil, List.nodup_cons, List.mem_cons, List.not_mem_nil, or_false, not_or] at zst
  have hdB8 := F8.keep _ _ a3
  have hdBlt := Heap.lt_size hdB8
  have hLdB : L ≠ R.dB := gtNe (Nat.lt_of_lt_of_le (Heap.lt_size a3) F8.above)
  have hcdB : L + 1 ≠ R.dB := goneNe (N8 _ (.head _)).2.2 a3
  have hNTdB : ∀ p ∈ (l0, PySem.W.listOf ys0.toArray n0) :: NT, p.1 ≠ R.dB := fun p hp => hfr p hp (R.dB, R.oB) (mem_st (.tail _ (.tail _ (.head _))))
  have hmvl : (mvOf R od0 ss).length = (psOf od0 nw0 ss).length := by unfold mvOf psOf hitsOf; rw [List.length_map, List.length_map]
  have hysl : ys0.length = (psOf od0 nw0 ss).length := by have := (hys0 h7 fun p hp => (hNT p (.tail _ hp)).1).length; rwa [List.length_map] at this
  have hmv60 : (mvOf R od0 ss).length ≤ 60 := by
    have := (mv_perm hR (old := od0) hp).length_eq
    rw [List.length_append] at this
    omega
  refine iter_list (News.isList N8 (.tail _ (.head _))) rfl ?_
  intro I h9 hI1 hI2 hs9 hfp hW hst
  have hle := subLe hs9 hI1 (hfp I (.head _))
  refine comp_inA F8 hW (by rw [sizeLine_eq]; omega) hst hfp hle (PopJ W h8 R.dB h9.objs.size (fun i => popped R ((hitsOf od0 ss).take i)) (mvOf R od0 ss)) ⟨?_, ?_, ?_⟩ ?_ ?_
  · exact fun C D h' hC hD hs' => ⟨⟨hC, hD⟩, fun b ob _ q => hs' _ _ (hs9 _ _ q), ⟨R.oB, hs' _ _ (hs9 _ _ hdB8), by rw [List.take_zero, popped_nil]; exact hR.b⟩, rfl⟩
  · intro C D i ys h₁' h' hC hD hJ hk
    refine gAbs fun G hG => ?_
    obtain ⟨k0, k1, ⟨oB, eB, dB⟩, ysE⟩ := hJ
    refine hG ?_
    have old8 : ∀ b ob, h8.get? b = some ob → b ≠ C ∧ b ≠ D ∧ b ∉ [I] := fun b ob q =>
      ⟨ltNe (Nat.lt_of_lt_of_le (Heap.lt_size q) (Nat.le_trans hle hC)), ltNe (Nat.lt_of_lt_of_le (Heap.lt_size q) (Nat.le_trans hle hD)), fun z => by rw [List.mem_singleton.mp z, hI2] at q; cases q⟩
    exact ⟨k0, fun b ob hb q => hk b ob (k1 b ob hb q) (.inl (old8 b ob q)), ⟨oB, hk _ _ eB (.inl (old8 _ _ hdB8)), dB⟩, ysE⟩
  · intro C D i v ys h₁' t₁' m E' hC hD hCD hi hv hys hJ hn hm
    refine tests0 ?_
    rw [if_pos rfl]
    refine wp_absQ fun Q2 hQ2 E2 => ?_
    refine gAbs fun G hG => ?_
    obtain ⟨k0, k1, ⟨oB, eB, dB⟩, ysE⟩ := hJ
    obtain ⟨p, T9, ua, ub, hp9, rfl, hT9⟩ := tvl_ps (hys0 h₁' fun p hp => k1 _ _ (hNTdB p (.tail _ hp)) (N8 p (.tail _ (.tail _ hp))).1) hv
    obtain ⟨x, hx, rfl⟩ := ps_get hp9
    obtain ⟨g1, g2, g3, g4⟩ := mv_get hR hp hx
    have hxm : x ∈ namesOf R := g3 ▸ List.mem_map_of_mem g2
    have F9 : Fr (hideAll h8 [R.dB]) C h₁' m := ⟨hn, fun b ob q => k1 b ob (fun z => by rw [z, hideAll_none _ (.head _)] at q; cases q) (of_hideAll _ q), by rw [hideAll_size]; exact Nat.le_trans hle hC⟩
    have N9 : News (hideAll h8 [R.dB]) C h₁' [(R.dB, oB)] := (allOne (⟨eB, ltNe (Nat.lt_of_lt_of_le hdBlt (Nat.le_trans hle hC)), hideAll_none _ (.head _)⟩))
    have c1 : (hideAll h8 [R.dB]).get? R.st = some (instObj 293 R.dS) := hideAll_get _ (F8.keep _ _ a1) (by simpa using zst.1.2.1)
    have c2 : (hideAll h8 [R.dB]).get? R.dS = some R.od := hideAll_get _ (F8.keep _ _ a2) (by simpa using zst.2.1.1)
    have c3 : (hideAll h8 [R.dB]).IsCell (L + 1) (some (.ref R.st)) := ⟨oc, hideAll_get _ (N8 _ (.head _)).1 (by simpa using hcdB), hoc⟩
    have hT9' : IsTup h₁' T9 #[.str x ua, .str (goalOf od0 nw0 x) ub] := hT9
    have X9 := W.X' (S.trans (hide_to F8.keep (l := [R.dB]) (allOne (.tail _ (.tail _ (.head _))))))
    refine hG ?_
    k_steps
    have hpsz : (popped R ((hitsOf od0 ss).take i)).length ≤ sizeLine := by
      rw [sizeLine_eq]
      have : (popped R ((hitsOf od0 ss).take i)).length ≤ R.boxes.length := by
        unfold popped kvsOf
        exact Nat.le_trans (List.length_filter_le _ _) (by rw [List.length_map]; exact Nat.le_refl _)
      omega
    refine pop_raw (knd := strKind prg W.w) (d := R.dB) (Heap.dictOf_iff.mpr ⟨oB, eB, dB⟩) (strKind_is _ _ _ _) (by rfl) (popped_val hR hxm (nodup_off (hits_nodup hR hp) hx)) hpsz ?_
    intro h₄ t₄ hD₄ hs₄
    obtain ⟨o₄, e₄, d₄⟩ := Heap.dictOf_iff.mp hD₄
    refine hQ2 _ _ ⟨h₄, t₄, rfl, ⟨k0, fun b ob hb q => (hs₄.2 b hb).trans (k1 b ob hb q), ⟨o₄, e₄, ?_⟩, ?_⟩, fun b ob hb q => (hs₄.2 b ?_).trans q⟩
    · rw [List.take_add_one, hx, Option.toList_some, ← popped_snoc]; exact d₄
    · rw [List.take_add_one, g1, Option.toList_some, List.map_append, ysE]; rfl
    · rcases hb with hb | rfl | rfl
      · rcases List.mem_cons.mp hb with rfl | hb
        · exact goneNe hI2 hdB8
        · rw [List.mem_singleton.mp hb]; exact hNTdB _ (.head _)
      · exact gtNe (Nat.lt_of_lt_of_le hdBlt (Nat.le_trans hle hC))
      · exact gtNe (Nat.lt_of_lt_of_le hdBlt (Nat.le_trans hle hD))
  · rintro C D i ys h₂ ⟨k0, k1, -, -⟩
    exact F8.ns.at' fun ob q => k1 _ ob hLdB q
  · intro C D ys h₂ h10 t10 hC hD hl10 hys10 hJ hn10 hk10
    refine gAbs fun G hG => ?_
    obtain ⟨k0, k1, ⟨oB, eB, dB⟩, ysE⟩ := hJ
    have hysl2 : ys0.length = (hitsOf od0 ss).length := by rw [hysl]; unfold psOf hitsOf; rw [List.length_map]
    have hmvl2 : (mvOf R od0 ss).length = ys0.length := by rw [hysl]; exact hmvl
    rw [hysl2, List.take_of_length_le (Nat.le_refl _), popped_all hp] at dB
    rw [List.take_of_length_le (Nat.le_of_eq hmvl2)] at ysE
    have k10 : ∀ b ob, b ≠ R.dB → b ≠ L → h8.get? b = some ob → h10.get? b = some ob := fun b ob hb hb2 q => (hk10 b (ltNe (Nat.lt_of_lt_of_le (Heap.lt_size q) (Nat.le_trans hle hC))) hb2).trans (k1 b ob hb q)
    have eB10 : h10.get? R.dB = some oB := (hk10 _ (ltNe (Nat.lt_of_lt_of_le hdBlt (Nat.le_trans hle hC))) hLdB.symm).trans eB
    have F10 : Fr (hideAll h [R.dB]) L h10 _ := ⟨hn10, fun b ob q => k10 b ob (fun z => by rw [z, hideAll_none _ (.head _)] at q; cases q) (ltNe (Nat.lt_of_lt_of_le (Heap.lt_size (of_hideAll _ q)) F8.above)) (F8.keep _ _ (of_hideAll _ q)), by rw [hideAll_size]; exact F8.above⟩
    have hfpin : ∀ a ∈ R.dB :: (mvOf R od0 ss).map (·.D), a ∈ adrs (led R) := (allCons (.tail _ (.tail _ (.head _))) (fun a ha => by
        obtain ⟨b, hb, rfl⟩ := List.mem_map.mp ha
        exact mem_adrs (mem_box (mv_mem hR hp hb).1 (.tail _ (.head _)))))
    have SB := S.trans (hide_mono hfpin)
    have FB : Fr (hideAll h (R.dB :: (mvOf R od0 ss).map (·.D))) L h10 _ := ⟨F10.ns, fun b ob q => F10.keep b ob (hide_mono ((allOne (.head _))) b ob q), by rw [hideAll_size]; exact F8.above⟩
    have XB := W.X' SB
    have TB := W.T' SB
    have hNdB : ∀ p ∈ (L + 1, oc) :: (l0, PySem.W.listOf ys0.toArray n0) :: NT, p.1 ≠ R.dB := (allCons (hcdB) (fun p hp => hNTdB p hp))
    have hAt10 : At h10 ((L + 1, oc) :: (l0, PySem.W.listOf ys0.toArray n0) :: NT) := fun p hp => k10 _ _ (hNdB p hp) (N8 p hp).2.1 (N8 p hp).1
    have hD10 : ∀ b ∈ mvOf R od0 ss, h10.get? b.D = some b.od := fun b hb => by
      have q := at_box hA (mv_mem hR hp hb).1
      exact k10 _ _ (fun z => st_off hR (R.dB, R.oB) (.tail _ (.tail _ (.head _))) b (mv_mem hR hp hb).1 (z ▸ in_bx)) (ltNe (Nat.lt_of_lt_of_le (Heap.lt_size q.b) F8.above)) (F8.keep _ _ q.b)
    have NB : News (hideAll h (R.dB :: (mvOf R od0 ss).map (·.D))) L h10 [] := News.nil
    have hN8 : ∀ p ∈ (L + 1, oc) :: (l0, PySem.W.listOf ys0.toArray n0) :: NT, p.1 ≠ L ∧ h.get? p.1 = none := fun p hp => (N8 p hp).2
    have hF8a := F8.above
    have hLlt8 := F8.ns.lt
    clear F8 N8 F10 X T
    refine hG ?_
    clear G hG
    dsimp only
    k_steps
    have hylen : ys.length = ys0.length := by rw [ysE, List.length_map]; exact hmvl2
    refine iter_zip hl10 ⟨_, hAt10 _ (.tail _ (.head _)), rfl, n0, rfl⟩ hylen rfl ?_
    intro z fp wr St Md h12 w1 w2 w3 hle12 hs12 KT hst12
    have F12 := frSub hs12 FB
    have hLlt := FB.ns.lt
    have hLwr : L ∉ wr := fun hz => Nat.lt_irrefl _ (Nat.lt_of_lt_of_le hLlt (w1 L hz))
    have hgs : ∀ (i : Nat) (x : Str), (hitsOf od0 ss)[i]? = some x → ((hitsOf od0 ss).map (goalOf od0 nw0))[i]? = some (goalOf od0 nw0 x) := fun i x e => by rw [List.getElem?_map, e]; rfl
    have hDlt : ∀ b ∈ mvOf R od0 ss, b.D < h.objs.size := fun b hb => Heap.lt_size (at_box hA (mv_mem hR hp hb).1).b
    have stay : ∀ (b : Addr) (o10 : Obj), h10.get? b = some o10 → b ≠ L → ∀ h₁ h' : Heap, (∀ (b : Addr) (ob : Obj), b ≠ L → b ∉ wr → h₁.get? b = some ob → h'.get? b = some ob) → ∀ ob, h₁.get? b = some ob → h'.get? b = some ob := fun b o10 e hb h₁ h' hk ob q => hk b ob hb (fun z => absurd (Heap.lt_size e) (Nat.not_lt.mpr (w1 b z))) q
    refine loop_in ["one", "pair"] F12 (KT _ _ _) hLwr hst12 (ZipJ W (hideAll h (R.dB :: (mvOf R od0 ss).map (·.D))) ((L + 1, oc) :: (l0, PySem.W.listOf ys0.toArray n0) :: NT) (mvOf R od0 ss) ((hitsOf od0 ss).map (goalOf od0 nw0)) (restB R od0) R.dB) ?_ ?_ ?_ ?_
    · exact ⟨F12.keep, fun p hp => hs12 _ _ (hAt10 p hp), [], oB, ⟨rfl, fun j b' e => by cases e⟩, hs12 _ _ eB10, by rw [List.append_nil]; exact dB, (by intro b hb; cases hb), fun b hb => hs12 _ _ (hD10 b (List.mem_of_mem_drop hb))⟩
    · intro i h₁' h' hJ hk
      refine gAbs fun G hG => ?_
      obtain ⟨q1, q2, dn, oB', dj, eB', dB', eD1, eD2⟩ := hJ
      refine hG ?_
      refine ⟨fun b ob e => stay b ob (FB.keep b ob e) (ltNe (Nat.lt_of_lt_of_le (Heap.lt_size (of_hideAll _ e)) hF8a)) h₁' h' hk ob (q1 b ob e), fun p hp => stay _ _ (hAt10 p hp) (hN8 p hp).1 h₁' h' hk _ (q2 p hp), dn, oB', dj, stay _ _ eB10 hLdB.symm h₁' h' hk _ eB', dB', fun b hb => ?_, fun b hb => ?_⟩
      · obtain ⟨b0, n, hb0, -, r⟩ := dj.mem hb
        have e : b.D = b0.D := by rw [r.1]
        have := eD1 b hb
        rw [e] at this ⊢
        exact stay _ _ (hD10 b0 hb0) (ltNe (Nat.lt_of_lt_of_le (hDlt b0 hb0) hF8a)) h₁' h' hk _ this
      · have hb0 := List.mem_of_mem_drop hb
        exact stay _ _ (hD10 b hb0) (ltNe (Nat.lt_of_lt_of_le (hDlt b hb0) hF8a)) h₁' h' hk _ (eD2 b hb)
    · intro i v m' h13 t13 hi hv13 hst13 hJ hm' hn13
      refine turn_abs fun Q3 hQ3 E3 => ?_
      refine gAbs fun G hG => ?_
      obtain ⟨T9, vx, vy, rfl, hvx, hvy, hT9⟩ := hv13
      obtain ⟨q1, q2, dn, oB', dj, eB', dB', eD1, eD2⟩ := hJ
      obtain ⟨p, T8, ua, ub, oT8, n8, hp9, rfl, hT8, hc8, hd8⟩ := tvl_in hys0 (fun p hp => q2 p (.tail _ (.tail _ hp))) hvy
      obtain ⟨x, hx, rfl⟩ := ps_get hp9
      obtain ⟨g1, g2, g3, g4⟩ := mv_get hR hp hx
      have hxm : x ∈ namesOf R := g3 ▸ List.mem_map_of_mem g2
      have hvx' : vx = .ref (boxAt R x).b := by
        rw [ysE, List.getElem?_map, g1] at hvx
        exact (Option.some.inj hvx).symm
      subst hvx'
      generalize hbx : boxAt R x = bx at *
      have hbmv : bx ∈ mvOf R od0 ss := List.mem_of_getElem? g1
      have hDx : h13.get? bx.D = some bx.od := eD2 bx (by rw [List.mem_iff_getElem?]; exact ⟨0, by rw [List.getElem?_drop]; exact g1⟩)
      dsimp only at hd8
      have hbxR := at_box hA g2
      have hgoal : goalOf od0 nw0 x ∉ namesOf R := hfree _ (List.mem_of_getElem? hp9)
      have mvnd : (mvOf R od0 ss).Nodup := by
        have e : (mvOf R od0 ss).map (·.name) = hitsOf od0 ss := by
          unfold mvOf
          rw [List.map_map]
          conv => rhs; rw [← List.map_id (hitsOf od0 ss)]
          refine List.map_congr_left fun n hn => ?_
          exact (boxAt_mem hR (hp.mem_iff.mp (List.mem_filter.mp hn).1)).2
        have q : ((mvOf R od0 ss).map (·.name)).Nodup := e ▸ hits_nodup hR hp
        exact List.Pairwise.of_map (fun b : BoxR => b.name) (fun a b hne he => hne (he ▸ rfl)) q
      have dnD : ∀ b ∈ dn, ∃ j b0, j < i ∧ (mvOf R od0 ss)[j]? = some b0 ∧ b.D = b0.D ∧ ((hitsOf od0 ss).map (goalOf od0 nw0))[j]? = some b.name := fun b hb => by
        obtain ⟨j, hj⟩ := List.getElem?_of_mem hb
        obtain ⟨b0, n, e1, e2, r⟩ := dj.2 j b hj
        exact ⟨j, b0, dj.1 ▸ (List.getElem?_eq_some_iff.mp hj).1, e1, by rw [r.1], by rw [r.1]; exact e2⟩
      have mvD : ∀ b0 ∈ mvOf R od0 ss, b0.D = bx.D → b0 = bx := fun b0 hb0 e => boxes_apart (bx_nodup hR) b0 (mv_mem hR hp hb0).1 bx g2 b0.D in_bx (e ▸ in_bx)
      have mvdB : ∀ b0 ∈ mvOf R od0 ss, b0.D ≠ R.dB := fun b0 hb0 e => st_off hR (R.dB, R.oB) (.tail _ (.tail _ (.head _))) b0 (mv_mem hR hp hb0).1 (show R.dB ∈ _ from e ▸ in_bx)
      have fpc : ∀ a ∈ fp, h10.objs.size ≤ a ∨ a = D ∨ a = l0 := fun a ha => by
        by_cases hz : a ∈ wr
        · exact .inl (w1 a hz)
        · exact w2 a ha hz
      have hDL : L < D := Nat.lt_of_lt_of_le hLlt8 (Nat.le_trans hle hD)
      have big : ∀ a, L < a → (hideAll h (R.dB :: (mvOf R od0 ss).map (·.D))).get? a = none := fun a ha => Heap.get?_none_of_le (by rw [hideAll_size]; exact Nat.le_trans hF8a (Nat.le_of_lt ha))
      have hnn : ∀ p ∈ (L + 1, oc) :: (l0, PySem.W.listOf ys0.toArray n0) :: NT, (hideAll h (R.dB :: (mvOf R od0 ss).map (·.D))).get? p.1 = none := fun p hp => by
        cases q : (hideAll h (R.dB :: (mvOf R od0 ss).map (·.D))).get? p.1 with
        | none => rfl
        | some ob => have := of_hideAll _ q; rw [(hN8 p hp).2] at this; cases this
      obtain ⟨KK, hKK⟩ : ∃ KK : Led, KK = ((l0, PySem.W.listOf ys0.toArray n0) :: NT) ++ (fpLed h13 fp ++ (dn.map (fun b => (b.D, b.od)) ++ ((mvOf R od0 ss).drop (i + 1)).map fun b => (b.D, b.od))) := ⟨_, rfl⟩
      have kkCases : ∀ p ∈ KK, (p ∈ (L + 1, oc) :: (l0, PySem.W.listOf ys0.toArray n0) :: NT) ∨ (p ∈ fpLed h13 fp) ∨ (∃ b ∈ dn, p = (b.D, b.od)) ∨ (∃ b ∈ (mvOf R od0 ss).drop (i + 1), p = (b.D, b.od)) := fun p hp => by
        rw [hKK] at hp
        rcases List.mem_append.mp hp with hp | hp
        · exact .inl (.tail _ hp)
        rcases List.mem_append.mp hp with hp | hp
        · exact .inr (.inl hp)
        rcases List.mem_append.mp hp with hp | hp
        · obtain ⟨b, hb, rfl⟩ := List.mem_map.mp hp; exact .inr (.inr (.inl ⟨b, hb, rfl⟩))
        · obtain ⟨b, hb, rfl⟩ := List.mem_map.mp hp; exact .inr (.inr (.inr ⟨b, hb, rfl⟩))
      have dropI : ∀ b ∈ (mvOf R od0 ss).drop (i + 1), b ∈ mvOf R od0 ss ∧ b ∈ (mvOf R od0 ss).drop i ∧ b ≠ bx := fun b hb => by
        refine ⟨List.mem_of_mem_drop hb, by rw [← List.drop_drop] at hb; exact List.mem_of_mem_drop hb, fun e => ?_⟩
        obtain ⟨j, hj⟩ := List.getElem?_of_mem hb
        rw [List.getElem?_drop, e] at hj
        obtain ⟨x1, y1⟩ := List.getElem?_eq_some_iff.mp hj
        obtain ⟨x2, y2⟩ := List.getElem?_eq_some_iff.mp g1
        have := (List.getElem_inj mvnd).mp (y1.trans y2.symm)
        omega
      have kkOff : ∀ p ∈ KK, p.1 ≠ L ∧ (hideAll h (R.dB :: (mvOf R od0 ss).map (·.D))).get? p.1 = none ∧ p.1 ≠ R.dB ∧ p.1 ≠ bx.D ∧ h13.get? p.1 = some p.2 := fun p hp' => by
        rcases kkCases p hp' with c | c | ⟨b, hb, rfl⟩ | ⟨b, hb, rfl⟩
        · exact ⟨(hN8 p c).1, hnn p c, hNdB p c, goneNe (hN8 p c).2 hbxR.b, q2 p c⟩
        · have hat := fpLed_at p c
          rcases fpc p.1 (fpLed_mem p c) with z | z | z
          · have hlt : L < p.1 := Nat.lt_of_lt_of_le hLlt z
            exact ⟨gtNe hlt, big _ hlt, gtNe (Nat.lt_of_lt_of_le (Heap.lt_size eB10) z), gtNe (Nat.lt_trans (Nat.lt_of_lt_of_le (Heap.lt_size hbxR.b) hF8a) hlt), hat⟩
          · rw [z] at hat ⊢
            exact ⟨gtNe hDL, big _ hDL, gtNe (Nat.lt_of_lt_of_le hdBlt (Nat.le_trans hle hD)), gtNe (Nat.lt_trans (Nat.lt_of_lt_of_le (Heap.lt_size hbxR.b) hF8a) hDL), hat⟩
          · have c2 := hN8 (l0, PySem.W.listOf ys0.toArray n0) (.tail _ (.head _))
            rw [z] at hat ⊢
            exact ⟨c2.1, hnn _ (.tail _ (.head _)), hNdB _ (.tail _ (.head _)), goneNe c2.2 hbxR.b, hat⟩
        · obtain ⟨j, b0, hji, e1, e2, -⟩ := dnD b hb
          have hb0 := List.mem_of_getElem? e1
          refine ⟨?_, hideAll_none _ (.tail _ (by rw [show (b.D, b.od).1 = b0.D from e2]; exact List.mem_map_of_mem hb0)), by rw [show (b.D, b.od).1 = b0.D from e2]; exact mvdB b0 hb0, fun z => ?_, eD1 b hb⟩
          · rw [show (b.D, b.od).1 = b0.D from e2]; exact ltNe (Nat.lt_of_lt_of_le (hDlt b0 hb0) hF8a)
          · have : b0 = bx := mvD b0 hb0 (e2.symm.trans z)
            rw [this] at e1
            obtain ⟨x1, y1⟩ := List.getElem?_eq_some_iff.mp e1
            obtain ⟨x2, y2⟩ := List.getElem?_eq_some_iff.mp g1
            have := (List.getElem_inj mvnd).mp (y1.trans y2.symm)
            omega
        · obtain ⟨d1, d2, d3⟩ := dropI b hb
          exact ⟨ltNe (Nat.lt_of_lt_of_le (hDlt b d1) hF8a), hideAll_none _ (.tail _ (List.mem_map_of_mem (f := fun b : BoxR => b.D) d1)), mvdB b d1, fun z => d3 (mvD b d1 z), eD2 b d2⟩
      have hbxdB := neN (mvdB bx hbmv)
      have N13 : News (hideAll h (R.dB :: (mvOf R od0 ss).map (·.D))) L h13 ((bx.D, bx.od) :: (R.dB, oB') :: (L + 1, oc) :: (T8, oT8) :: KK) := (allCons (⟨hDx, ltNe (Nat.lt_of_lt_of_le (hDlt bx hbmv) hF8a), hideAll_none _ (.tail _ (List.mem_map_of_mem (f := fun b : BoxR => b.D) hbmv))⟩) (allCons (⟨eB', hLdB.symm, hideAll_none _ (.head _)⟩) (allCons (⟨q2 _ (.head _), (hN8 _ (.head _)).1, hnn _ (.head _)⟩) (allCons (⟨q2 _ (.tail _ (.tail _ hT8)), (hN8 _ (.tail _ (.tail _ hT8))).1, hnn _ (.tail _ (.tail _ hT8))⟩) (fun p hp => by
          have c := kkOff p hp; exact ⟨c.2.2.2.2, c.1, c.2.1⟩)))))
      have hU2 : ∀ p ∈ (L + 1, oc) :: (T8, oT8) :: KK, p.1 ≠ R.dB := (allCons (hcdB) (allCons (hNdB _ (.tail _ (.tail _ hT8))) (fun p hp => (kkOff p hp).2.2.1)))
      have hU1 : ∀ p ∈ (R.dB, oB') :: (L + 1, oc) :: (T8, oT8) :: KK, p.1 ≠ bx.D := (allCons (hbxdB.symm) (allCons (goneNe (hN8 _ (.head _)).2 hbxR.b) (allCons (goneNe (hN8 _ (.tail _ (.tail _ hT8))).2 hbxR.b) (fun p hp => (kkOff p hp).2.2.2.1))))
      have F13 := frOff2 (h₀' := hideAll h (R.dB :: (mvOf R od0 ss).map (·.D))) F12 hn13 hm' q1 F12.above
      have offBH : ∀ p ∈ led R, p.1 ≠ R.dB → (∀ b0 ∈ mvOf R od0 ss, p.1 ≠ b0.D) → (hideAll h (R.dB :: (mvOf R od0 ss).map (·.D))).get? p.1 = some p.2 := fun p hp' z1 z2 => hideAll_get _ (hA p hp') (by
        rw [List.mem_cons, not_or]
        exact ⟨z1, fun hm => by obtain ⟨b0, hb0, e⟩ := List.mem_map.mp hm; exact z2 b0 hb0 e.symm⟩)
      have stOff : ∀ p ∈ stLed R, ∀ b0 ∈ mvOf R od0 ss, p.1 ≠ b0.D := fun p hp' b0 hb0 e => st_off hR p hp' b0 (mv_mem hR hp hb0).1 (e ▸ in_bx)
      have c1 : (hideAll h (R.dB :: (mvOf R od0 ss).map (·.D))).get? R.st = some (instObj 293 R.dS) := offBH (R.st, instObj 293 R.dS) (mem_st (.head _)) zst.1.2.1 (stOff _ (.head _))
      have c2 : (hideAll h (R.dB :: (mvOf R od0 ss).map (·.D))).get? R.dS = some R.od := offBH (R.dS, R.od) (mem_st (.tail _ (.head _))) zst.2.1.1 (stOff _ (.tail _ (.head _)))
      have c3 : (hideAll h (R.dB :: (mvOf R od0 ss).map (·.D))).get? bx.b = some (instObj 163 bx.D) := offBH (bx.b, instObj 163 bx.D) (mem_box g2 (.head _)) (fun e => st_off hR (R.dB, R.oB) (.tail _ (.tail _ (.head _))) bx g2 (show R.dB ∈ _ from e ▸ (.head _ : bx.b ∈ adrs (boxLed bx)))) fun b0 hb0 e => by
        have : bx = b0 := boxes_apart (bx_nodup hR) bx g2 b0 (mv_mem hR hp hb0).1 bx.b (.head _) (by rw [show bx.b = b0.D from e]; exact in_bx)
        subst this
        have hn := bx_one hR g2
        simp only [boxLed, adrs, List.map_cons, List.cons_append, List.nodup_cons, List.mem_cons, not_or] at hn
        exact hn.1.1 e
      have hT9' : IsTup h13 T9 #[.ref bx.b, .ref T8] := hT9
      have hlen13 : (kvsOf (restB R od0 ++ dn)).length ≤ 60 := by
        have l1 := (mv_perm hR (old := od0) hp).length_eq
        have l2 := hR.few
        rw [List.length_append] at l1
        rw [List.length_map, List.length_append, dj.1]
        omega
      have hrest60 : (restB R od0 ++ dn).length ≤ 60 := by rw [List.length_map] at hlen13; exact hlen13
      obtain ⟨mx, hox, hwx, ⟨ux1, mx1⟩, ⟨ux2, mx2⟩, ⟨ux3, mx3⟩, ⟨ux4, mx4⟩, ⟨ux5, mx5⟩, mx6, mx7⟩ := (hR.boxes bx g2).m
      clear F12 FB NB
      refine hG ?_
      clear G hG
      k_steps
      rename Fr _ _ _ _ => F9
      rename News _ _ _ _ => N9
      rename OdIs _ _ => ho9
      rename PySem.Within _ _ => hw9
      rename Obj.IsDictOf _ _ _ => hd9
      rename_i od9 _ _ _ _ _ _ _ h14 oB9
      have hbx' : BoxOk { bx with od := od9, name := goalOf od0 nw0 x } :=
        ⟨⟨_, ho9, hw9, ⟨_, by walk_at "od_look"⟩, ⟨_, by walk_at "od_look"⟩, ⟨_, by walk_at "od_look"⟩, ⟨_, by walk_at "od_look"⟩, ⟨_, by walk_at "od_look"⟩, by walk_at "od_look", by walk_at "od_look"⟩, (hR.boxes bx g2).l, (hR.boxes bx g2).g, (hR.boxes bx g2).lets, (hR.boxes bx g2).few, (hR.boxes bx g2).next, (hR.boxes bx g2).top, hshort x hxm g4⟩
      have inKK : ∀ p ∈ KK, h14.get? p.1 = some p.2 := fun p hp => (N9 p (.tail _ (.tail _ (.tail _ (.tail _ hp))))).1
      have kA : ∀ p ∈ (l0, PySem.W.listOf ys0.toArray n0) :: NT, p ∈ KK := fun p hp => by rw [hKK]; exact List.mem_append_left _ hp
      have kB : ∀ p ∈ fpLed h13 fp, p ∈ KK := fun p hp => by rw [hKK]; exact List.mem_append_right _ (List.mem_append_left _ hp)
      have kC : ∀ b ∈ dn, (b.D, b.od) ∈ KK := fun b hb => by rw [hKK]; exact List.mem_append_right _ (List.mem_append_right _ (List.mem_append_left _ (List.mem_map.mpr ⟨b, hb, rfl⟩)))
      have kD : ∀ b ∈ (mvOf R od0 ss).drop (i + 1), (b.D, b.od) ∈ KK := fun b hb => by rw [hKK]; exact List.mem_append_right _ (List.mem_append_right _ (List.mem_append_right _ (List.mem_map.mpr ⟨b, hb, rfl⟩)))
      have hkey : goalOf od0 nw0 x ∉ (kvsOf (restB R od0 ++ dn)).map (·.1) := fun hm => by
        rw [kvsOf, List.map_map] at hm
        obtain ⟨b, hb, e⟩ := List.mem_map.mp hm
        have e' : b.name = goalOf od0 nw0 x := e
        rcases List.mem_append.mp hb with hb | hb
        · exact hgoal (e' ▸ List.mem_map_of_mem (List.mem_filter.mp hb).1)
        · obtain ⟨j, b0, hji, e1, -, e3⟩ := dnD b hb
          rw [List.getElem?_map, Option.map_eq_some_iff] at e3
          obtain ⟨x2, hx2, e4⟩ := e3
          obtain ⟨f1, f2, f3, f4⟩ := mv_get hR hp hx2
          have hx2m : x2 ∈ namesOf R := f3 ▸ List.mem_map_of_mem f2
          have := hinj x2 hx2m x hxm f4 g4 (e4.trans e')
          subst this
          obtain ⟨x1, y1⟩ := List.getElem?_eq_some_iff.mp hx2
          obtain ⟨x3, y3⟩ := List.getElem?_eq_some_iff.mp hx
          have := (List.getElem_inj (hits_nodup hR hp)).mp (y1.trans y3.symm)
          omega
      rw [stored_new hkey] at hd9
      refine hQ3 _ _ ?_
      refine TurnEnd.intro F9.ns ⟨fun y hy => ?_, F9.keep, fun p hp => ?_, dn ++ [{ bx with od := od9, name := goalOf od0 nw0 x }], oB9, dj.snoc g1 (hgs i x hx) ⟨rfl, hbx'⟩, (N9 _ (.tail _ (.head _))).1, ?_, fun b hb => ?_, fun b hb => inKK _ (kD b hb)⟩ ((KT [] 0 ⟨0, 0, 0, 0⟩).frame (i + 1) h13 _ hst13 fun a ha ob e => inKK (a, ob) (kB _ (fpLed_in ha e)))
      · simp only [List.mem_cons, List.not_mem_nil, or_false, not_or] at hy
        exact (if_neg hy.2).trans ((if_neg hy.1).trans ((if_neg hy.1).trans (if_neg hy.2)))
      · rcases List.mem_cons.mp hp with rfl | hp
        · exact (N9 _ (.tail _ (.tail _ (.head _)))).1
        · exact inKK p (kA p hp)
      · rw [← List.append_assoc, kvsOf, List.map_append]; exact hd9
      · rcases List.mem_append.mp hb with hb | hb
        · exact inKK _ (kC b hb)
        · rw [List.mem_singleton.mp hb]; exact (N9 _ (.head _)).1
    · intro m' h13 t13 hm' hJ hn13
      refine gAbs fun G hG => ?_
      obtain ⟨q1, q2, dn, oB', dj, eB', dB', eD1, -⟩ := hJ
      refine hG ?_
      clear G hG
      have F13 := frOff2 (h₀' := hideAll h (R.dB :: (mvOf R od0 ss).map (·.D))) F12 hn13 hm' q1 F12.above
      have N13 : News (hideAll h (R.dB :: (mvOf R od0 ss).map (·.D))) L h13 [] := News.nil
      have dj' : DoneJ (mvOf R od0 ss) ((hitsOf od0 ss).map (goalOf od0 nw0)) (mvOf R od0 ss).length dn := by rw [hmvl2, ← hylen]; exact dj
      clear F12 FB NB
      dsimp only
      k_steps
      refine hQ1 _ _ ?_
      dsimp only
      have tnM := turn_move hR hA hp dj' q1 eB' eD1
      refine kM' _ _ { R with oB := oB', boxes := restB R od0 ++ dn } _ tnM (ok_move hR hp dj' dB') rfl (pbs_move hR hp dj') (fun b ob e ht => ?_) ?_
      · by_cases hm : b ∈ adrs (led R)
        · obtain ⟨p, hpm, rfl⟩ := List.mem_map.mp hm
          have e1 := hA p hpm
          rw [e] at e1
          obtain rfl := Option.some.inj e1
          obtain ⟨c, hc, x, hx, ep⟩ := tup_led hR hpm ht
          have := tnM.at_ _ (tup_move (oB' := oB') hR hp dj' hc hx)
          rw [ep]; exact this
        · exact tnM.keep _ _ (hideAll_get _ e hm)
      · simp only [Tv]
        exact ⟨l0, ys0, rfl, ⟨_, q2 _ (.tail _ (.head _)), rfl, n0, rfl⟩, hys0 h13 fun p hp => q2 p (.tail _ (.tail _ hp))⟩
end

end
section
noncomputable def lawNamesL : List Str := ["a", "a/b", "a/b/c", "ab", "b", "INBOX/x", "inbox/x/y", "b/a", "INBOX", "a//c", "b/", "c*"]
theorem allLt_mem {d : Addr} : ∀ {l : Led}, AllLt d l → ∀ p ∈ l, p.1 < d
  | [], _, p, hp => by cases hp
  | q :: l, ⟨h1, h2⟩, p, hp => by
    rcases List.mem_cons.mp hp with rfl | hp
    · exact h1
    · exact allLt_mem h2 p hp
section
variable {dp un : Nat} {fr : Option (List Env)} {gd : Option (List Code)} {h : Heap} {g : Array GenState} {d : Drawn} {t : Nat} {o : OsState} {Q E : Value → Shared → Prop}
set_option maxHeartbeats 1000000 in
theorem law_names_c (W : Wd) (S : Sub W.H0 h) (r : Rm 2 (Ar dp fr gd un))
    (k : ∀ h' t' q vs n, Sub h h' → New h h' q (PySem.W.listOf (vs : List Value).toArray n) → StrsAre vs lawNamesL → Q (.ref q) ⟨h', g, d, t', o⟩) :
    wpAny (model prg W.w) (Ar dp fr gd un) (call (.ref 384) []) Q E ⟨h, g, d, t, o⟩ := by
  refine' callDef W [] S r ?_
  intro L h₁ F N t₁
  have X := W.X' S
  have T := W.T' S
  k_steps
  rename Fr _ _ _ _ => F1
  rename News _ _ _ _ => N1
  refine k _ _ _ _ _ F1.keep (newOf N1 (.head _)) ?_
  repeat (first | exact .nil | refine .cons _ _ ?_)
set_option maxHeartbeats 1000000 in
theorem make_store_c (W : Wd) (S : Sub W.H0 h) (r : Rm 5 (Ar dp fr gd un))
    (k : ∀ h' t' R, Sub h h' → At h' (led R) → (∀ p ∈ led R, h.get? p.1 = none) → StOk W R → R.nv = 2 → pbs R = [⟨"INBOX", 1, 1, 1, []⟩] → Q (.ref R.st) ⟨h', g, d, t', o⟩) :
    wpAny (model prg W.w) (Ar dp fr gd un) (call (.ref 293) []) Q E ⟨h, g, d, t, o⟩ := by
  have X := W.X' S
  refine wpAny_call (make_core (init := .ref 264) (makes_of X (by k_is)) (looks_findIn X (by k_is)) (fun self => bind_fn X self (by k_is)) (.inl rfl) ?_)
  have hx0 : ((h.push emptyDict).push (instObj 293 h.objs.size)).get? (h.objs.size + 1) = some (instObj 293 h.objs.size) := by heap_get
  have hd0 : ((h.push emptyDict).push (instObj 293 h.objs.size)).get? h.objs.size = some emptyDict := by heap_get
  have hen : h.get? (h.objs.size + 1) = none := Heap.get?_none_of_le (Nat.le_succ _)
  have hdn : h.get? h.objs.size = none := Heap.get?_none_of_le (Nat.le_refl _)
  have hne : h.objs.size ≠ h.objs.size + 1 := Nat.ne_of_lt (Nat.lt_succ_self _)
  have kS : Sub h ((h.push emptyDict).push (instObj 293 h.objs.size)) := fun b ob q => Heap.get?_push_of_some _ (Heap.get?_push_of_some _ q)
  generalize (h.push emptyDict).push (instObj 293 h.objs.size) = h2 at *
  generalize h.objs.size + 1 = e at *
  generalize h.objs.size = D at *
  have S2 : Sub h (hideAll h2 [D]) := fun b ob q => hideAll_get _ (kS _ _ q) fun hm => by rw [List.mem_singleton.mp hm, hdn] at q; cases q
  refine' codeDef W (n := 4) [("self", .ref e)] (S.trans kS) (Rm.under1 r) ?_
  intro L h₁ F0 N0 t₁
  have F := rebase F0 [D]
  have N := newsOld F0 (fp := [D]) (N := [(D, emptyDict)]) ((allOne (⟨hd0, .head _⟩)))
  have a1 : (hideAll h2 [D]).get? e = some (instObj 293 D) := hideAll_get _ hx0 (by simpa using hne.symm)
  have ho := odEmpty
  have hw : PySem.Within (fun _ => none) stNs := wNil
  clear F0 N0
  have X := W.X' (S.trans S2)
  have T := W.T' (S.trans S2)
  k_steps
  refine Dict_made (knd := PySem.strKind prg W.w) F rfl rfl (by decide) (by decide) (fun F1 => ?_)
  have N1 : News (hideAll h2 [D]) L (h₁.push { cls := .type "dict", data := .dict #[] }) ((h₁.objs.size, { cls := .type "dict", data := .dict #[] }) :: [(D, emptyDict)]) := N.push F _
  have hdD : h₁.objs.size ≠ D := gtNe (Heap.lt_size (N _ (.head _)).1)
  have hlo : (h₁.objs.size == sysModules) = false := F.notModules (modules_low (W.T.nolimit.keeps (S.trans S2)))
  have hFk := F.keep
  have hdA0 : (hideAll h2 [D]).get? h₁.objs.size = none := (N1 _ (.head _)).2.2
  clear F N
  k_steps
  have r4 : Rm 4 ((Ar dp fr gd un).under (.builtin "type.__call__" ⟨[.ref 293], []⟩)) := Rm.under1 r
  refine make_box_c W (A := Ar dp fr gd un) (subF F1 (S.trans S2)) (Rm.mono (by decide) (Rm.deeper r4)) (by decide) ?_
  intro h5 t5 b fb okb e1 e2 e3 e4 e5
  have hbl : boxLed b = [(b.b, instObj 163 b.D), (b.D, b.od), (b.l, b.ol), (b.gA, b.og)] := by rw [boxLed, e5]; rfl
  have F5 := frSub fb.keep F1
  have hdict : h5.DictOf (PySem.strKind prg W.w) h₁.objs.size [] := (Heap.DictOf.new h₁).keep fb.keep
  have hbn : ∀ p ∈ boxLed b, p.1 ≠ h₁.objs.size ∧ p.1 ≠ D := fun p hp => ⟨goneNe (fb.new p hp) (N1 _ (.head _)).1, goneNe (fb.new p hp) (N1 _ (.tail _ (.head _))).1⟩
  have N5 : News (hideAll h2 [D]) L h5 ((h₁.objs.size, { cls := .type "dict", data := .dict #[] }) :: (D, emptyDict) :: boxLed b) := (allCons (newsSub fb.keep N1 _ (.head _)) (allCons (newsSub fb.keep N1 _ (.tail _ (.head _))) (fun p hp => newsNew F1 fb.keep N1 ⟨fb.new p hp, fb.at_ p hp⟩ _ (.head _))))
  clear F1 N1
  refine wpAny_pure ?_
  refine ⟨[("INBOX", .ref b.b)], ?_, hdict, fun h6 hd6 hs6 => ?_⟩
  · exact ⟨strKind_is _ _ _ _, rfl, trivial⟩
  have hd6' : h6.DictOf (PySem.strKind prg W.w) h₁.objs.size [("INBOX", .ref b.b)] := hd6
  obtain ⟨oB, eB, dB⟩ := Heap.dictOf_iff.mp hd6'
  have hs6k : ∀ x o, x ≠ h₁.objs.size → h5.get? x = some o → h6.get? x = some o := fun x o hx q => (hs6.2 x hx).trans q
  have F6 := frBut F5 hs6k (N5 _ (.head _)).2.1 (N5 _ (.head _)).2.2
  have N6 := newsBut N5 (UpdF.head (allCons (hdD.symm) (fun p hp => (hbn p hp).1))) hs6k eB
  have hDlb : ∀ p ∈ boxLed b, p.1 ≠ D := fun p hp => (hbn p hp).2
  clear F5 N5
  generalize h₁.objs.size = dA at *
  k_steps
  rename Fr _ _ _ _ => F9
  rename News _ _ _ _ => N9
  rename OdIs _ _ => ho9
  rename PySem.Within _ _ => hw9
  rename dA < _ ∧ _ => hlt
  rename_i l _ _ _ _ _ _ _ _ _ _ _ _ _ h9 od9 _ _
  have lb := allLt_mem hlt.2.2
  have ge := F9.keep _ _ a1
  have nl : ∀ p ∈ (l, PySem.W.listOf #[] 0) :: (dA, oB) :: (D, od9) :: boxLed b, p.1 ≠ e := fun p hp z => by
    have q := (N9 p hp).2.2
    rw [z, a1] at q; cases q
  refine ⟨rfl, k h9 _ ⟨e, D, dA, l, od9, oB, PySem.W.listOf #[] 0, 2, [b]⟩ (S2.trans F9.keep) (fun p hp => ?_) (fun p hp => ?_) ⟨⟨_, ho9, hw9, by walk_at "od_look", by walk_at "od_look", _, by walk_at "od_look"⟩, ?_, ⟨0, rfl⟩, ?_, ?_, hlo, by show 1 ≤ 60; decide⟩ rfl ?_⟩
  · simp only [led, stLed, List.flatMap_cons, List.flatMap_nil, List.append_nil] at hp
    rcases List.mem_append.mp hp with hp | hp
    · simp only [List.mem_cons, List.not_mem_nil, or_false] at hp
      rcases hp with rfl | rfl | rfl | rfl
      · exact ge
      · exact (N9 _ (.tail _ (.tail _ (.head _)))).1
      · exact (N9 _ (.tail _ (.head _))).1
      · exact (N9 _ (.head _)).1
    · exact (N9 p (.tail _ (.tail _ (.tail _ hp)))).1
  · simp only [led, stLed, List.flatMap_cons, List.flatMap_nil, List.append_nil] at hp
    rcases List.mem_append.mp hp with hp | hp
    · simp only [List.mem_cons, List.not_mem_nil, or_false] at hp
      rcases hp with rfl | rfl | rfl | rfl
      · exact hen
      · exact hdn
      · exact noneSub S2 (N9 _ (.tail _ (.head _))).2.2
      · exact noneSub S2 (N9 _ (.head _)).2.2
    · exact noneSub S2 (N9 p (.tail _ (.tail _ (.tail _ hp)))).2.2
  · show oB.IsDictOf _ [(b.name, Value.ref b.b)]
    rw [e1]; exact dB
  · intro c hc
    rw [List.mem_singleton.mp hc]; exact okb
  · show (adrs (led _)).Nodup
    simp only [adrs, led, stLed, List.flatMap_cons, List.flatMap_nil, List.append_nil, List.map_append, List.map_cons, List.map_nil, List.cons_append, List.nil_append, List.nodup_cons, List.mem_cons, not_or]
    refine ⟨⟨hne.symm, (nl _ (.tail _ (.head _))).symm, (nl _ (.head _)).symm, fun hm => ?_⟩, ⟨hdD.symm, ltNe hlt.2.1, fun hm => ?_⟩, ⟨ltNe hlt.1, fun hm => ?_⟩, fun hm => ?_, fb.nodup⟩
    · obtain ⟨p, hp, z⟩ := List.mem_map.mp hm
      exact nl p (.tail _ (.tail _ (.tail _ hp))) z
    · obtain ⟨p, hp, z⟩ := List.mem_map.mp hm
      exact hDlb p hp z
    · obtain ⟨p, hp, z⟩ := List.mem_map.mp hm
      exact (hbn p hp).1 z
    · obtain ⟨p, hp, z⟩ := List.mem_map.mp hm
      exact ltNe (lb p hp) z
  · show [b].map pb = _
    rw [List.map_cons, List.map_nil, pb, e1, e2, e3, e4, e5]; rfl
end

end
section
noncomputable abbrev drO (ce : Addr) (gr st pl : Int) (ug us up : Tok) (n : Nat) : Obj := PySem.W.listOf #[.ref ce, .int gr ug, .int st us, .int pl up] n
section
variable {dp un : Nat} {fr : Option (List Env)} {gd : Option (List Code)} {h : Heap} {g : Array GenState} {d : Drawn} {t : Nat} {o : OsState} {Q E : Value → Shared → Prop}
set_option maxHeartbeats 1000000 in
theorem law_draw_c (W : Wd) {bx ce : Addr} {gr st pl lim : Int} {ug us up ul : Tok} {n : Nat} {vs : List Value} {ns : List Int} (S : Sub W.H0 (hideAll h [bx])) (r : Rm 1 (Ar dp fr gd un))
    (hbx : h.get? bx = some (drO ce gr st pl ug us up n)) (hce : (hideAll h [bx]).IsList ce vs.toArray) (hns : IntsAre vs ns) (hvl : vs.length ≤ 63)
    (hgr : 0 ≤ gr) (hst : 0 ≤ st) (hst2 : st < 2147483647) (hpl : 0 ≤ pl) (hpl2 : pl ≤ 1000) (hl1 : 1 ≤ lim) (hl2 : lim ≤ 12)
    (k : ∀ h' t' i gr' st' ug' us' up' n' u, Sub (hideAll h [bx]) h' → h'.get? bx = some (drO ce gr' st' (pl + 1) ug' us' up' n') → 0 ≤ gr' → 0 ≤ st' → st' < 2147483647 → 0 ≤ i → i < lim → Q (.int i u) ⟨h', g, d, t', o⟩) :
    wpAny (model prg W.w) (Ar dp fr gd un) (call (.ref 377) [.ref bx, .int lim ul]) Q E ⟨h, g, d, t, o⟩ := by
  refine' callDef W [("box", .ref bx), ("limit", .int lim ul)] (S.trans hide_sub) r ?_
  intro L h₁ F0 N0 t₁
  refine wp_absQ fun Q1 hQ1 E1 => ?_
  have F := rebase F0 [bx]
  have N := newsOld F0 (fp := [bx]) (N := [(bx, drO ce gr st pl ug us up n)]) ((allOne (⟨hbx, .head _⟩)))
  clear F0 N0
  have X := W.X' S
  have T := W.T' S
  k_steps
  all_goals (try (with_reducible refine hQ1 _ _ ?_))
  · rename Fr _ _ _ _ => F9
    rename News _ _ _ _ => N9
    dsimp only
    try (with_reducible refine hQ1 _ _ ?_)
    exact k _ _ _ _ _ _ _ _ _ _ F9.keep (N9 _ (.head _)).1 (Int.fdiv_nonneg hgr (by omega)) hst hst2 (Int.fmod_nonneg_of_pos _ (by omega)) (Int.fmod_lt_of_pos _ (by omega))
  obtain ⟨oce, hoce, hoce2⟩ := hce
  rename Fr _ _ _ _ => F9
  rename News _ _ _ _ => N9
  have s1 : 0 ≤ (st * 16807 + pl * pl + 29).fmod 2147483647 := Int.fmod_nonneg_of_pos _ (by decide)
  have s2 : (st * 16807 + pl * pl + 29).fmod 2147483647 < 2147483647 := Int.fmod_lt_of_pos _ (by decide)
  generalize (st * 16807 + pl * pl + 29).fmod 2147483647 = st9 at *
  refine call_len_list (items := vs.toArray) ⟨oce, F9.keep _ _ hoce, hoce2⟩ ?_ ?_
  · rw [List.size_toArray]; omega
  rw [List.size_toArray]
  have hvl' : (vs.length : Int) ≤ 63 := by omega
  have hq1 : 0 ≤ st9.fdiv 3 := Int.fdiv_nonneg s1 (by decide)
  have hq2 : st9.fdiv 3 ≤ 2147483647 := by
    have := Int.fdiv_eq_ediv_of_nonneg st9 (b := 3) (by decide)
    rw [this]; omega
  k_steps
  all_goals (try (with_reducible refine hQ1 _ _ ?_))
  · rename Fr _ _ _ _ => F10
    rename News _ _ _ _ => N10
    have hlt : pl < (vs.length : Int) := by assumption
    obtain ⟨x, hx⟩ : ∃ x, vs[pl.toNat]? = some x := ⟨_, List.getElem?_eq_getElem (by omega)⟩
    obtain ⟨ci, ct, rfl, -⟩ := hns.at _ _ hx
    refine item_listL (l := vs) ⟨oce, F10.keep _ _ hoce, hoce2⟩ hpl (by omega) hx ?_
    k_steps
    all_goals (try (with_reducible refine hQ1 _ _ ?_))
    rename Fr _ _ _ _ => F11
    rename News _ _ _ _ => N11
    dsimp only
    try (with_reducible refine hQ1 _ _ ?_)
    exact k _ _ _ _ _ _ _ _ _ _ F11.keep (N11 _ (.head _)).1 hgr s1 s2 (Int.fmod_nonneg_of_pos _ (by omega)) (Int.fmod_lt_of_pos _ (by omega))
  · rename Fr _ _ _ _ => F11
    rename News _ _ _ _ => N11
    dsimp only
    try (with_reducible refine hQ1 _ _ ?_)
    exact k _ _ _ _ _ _ _ _ _ _ F11.keep (N11 _ (.head _)).1 hgr s1 s2 (Int.fmod_nonneg_of_pos _ (by omega)) (Int.fmod_lt_of_pos _ (by omega))
end

end
section
/-- a frame's place is hidden: what stands below it stays -/
theorem below_own {A : Around} {h₀ h : Heap} {L : Addr} {m : Str → Option Value} {env : Env} (F : Fr h₀ L h m) (hs : A.frames = some [env]) (hf : env.frame = some L) (hk : env.scope.kind ≠ .module) : Below A (hideAll h [L]) [env] h :=
  ⟨hs, hide_sub, .cons hk hf F.ns (hideAll_none _ (.head _)) trivial⟩
section
variable {dp un : Nat} {fr : Option (List Env)} {gd : Option (List Code)} {h : Heap} {g : Array GenState} {d : Drawn} {t : Nat} {o : OsState} {Q E : Value → Shared → Prop}
set_option maxHeartbeats 1000000 in
theorem law_heard_c (W : Wd) {R : StR} {old new : Str} {u0 u1 : Tok} {base : Heap} {outer : List Env} (S : Sub W.H0 (hideAll h (adrs (led R)))) (r : Rm 12 (Ar dp fr gd un)) (hR : StOk W R) (hA : At h (led R)) (hol : old.length ≤ 50000) (hnl : new.length ≤ 50000)
    (K : Below (Ar dp fr gd un) base outer h) (kz : base.objs.size ≤ h.objs.size) (ks : Sub W.H0 base)
    (hgood : checkOk (normalN new) = true → ∀ n ∈ namesOf R, hitP (normalN old) n = true → checkOk (normalN (goalOf (normalN old) (normalN new) n)) = true ∧ normalN (goalOf (normalN old) (normalN new) n) = goalOf (normalN old) (normalN new) n)
    (hinj : ∀ a ∈ namesOf R, ∀ b ∈ namesOf R, hitP (normalN old) a = true → hitP (normalN old) b = true → goalOf (normalN old) (normalN new) a = goalOf (normalN old) (normalN new) b → a = b)
    (hshort : ∀ n ∈ namesOf R, hitP (normalN old) n = true → (goalOf (normalN old) (normalN new) n).length ≤ 100000)
    (hinb : ∀ b ∈ R.boxes, b.name = "INBOX" → b.lets = []) (hnv : R.nv < 1000000) (few : R.boxes.length < 60)
    (kI : normalN old = "INBOX" → checkOk (normalN new) = true → normalN new ∉ namesOf R → ∀ h' t' R' v, Turn h h' R R' → StOk W R' → R'.nv = R.nv + 1 → pbs R' = pbs R ++ [⟨normalN new, R.nv, 1, 1, []⟩] → Tv h' (.lst [.tup [.str "INBOX", .str (normalN new)]]) v → Q v ⟨h', g, d, t', o⟩)
    (kM : normalN old ∈ namesOf R → normalN old ≠ "INBOX" → checkOk (normalN new) = true → normalN new ∉ namesOf R → ∀ ss, ss.Perm (namesOf R) → sortedS ss = true → (∀ p ∈ psOf (normalN old) (normalN new) ss, p.2 ∉ namesOf R) →
      ∀ h' t' R' v, Turn h h' R R' → StOk W R' → R'.nv = R.nv → pbs R' = moveP (pbs R) (normalN old) (normalN new) ss → (∀ b ob, h.get? b = some ob → isTup ob → h'.get? b = some ob) → Tv h' (.lst ((psOf (normalN old) (normalN new) ss).map toldP)) v → Q v ⟨h', g, d, t', o⟩)
    (kE : (normalN old ∉ namesOf R ∨ checkOk (normalN new) = false ∨ normalN new ∈ namesOf R ∨ (normalN old ≠ "INBOX" ∧ ∃ ss, ss.Perm (namesOf R) ∧ sortedS ss = true ∧ ∃ p ∈ psOf (normalN old) (normalN new) ss, p.2 ∈ namesOf R)) →
      ∀ h' t', Sub base h' → h.UpToSlots h' → Q .none ⟨h', g, d, t', o⟩) :
    wpAny (model prg W.w) (Ar dp fr gd un) (call (.ref 410) [.ref R.st, .str old u0, .str new u1]) Q E ⟨h, g, d, t, o⟩ := by
  have S0 := S.trans hide_sub
  refine' callDef W [("store", .ref R.st), ("old", .str old u0), ("new", .str new u1)] S0 r ?_
  intro L h₁ F N t₁
  have X := W.X' S0
  have T := W.T' S0
  k_steps
  refine rename_box_c W (S.trans (hide_to F.keep fun _ x => x)) (by walk_at "room") hR (hA.keeps F.keep) hol hnl hgood hinj hshort hinb hnv few (fun q1 q2 q3 h' t' R' v tn ok e1 e2 tv => kI q1 q2 q3 h' t' R' v (tn.before hA F.keep) ok e1 e2 tv)
    (fun q1 q2 q3 q4 ss q5 q6 q7 h' t' R' v tn ok e1 e2 tk tv => kM q1 q2 q3 q4 ss q5 q6 q7 h' t' R' v (tn.before hA F.keep) ok e1 e2 (fun b ob e ht => tk b ob (F.keep _ _ e) ht) tv) (fun hx => ?_)
  refine ⟨base, _ :: outer, K.push F, ⟨Nat.le_trans kz (Nat.le_trans F.above (Nat.le_of_lt F.ns.lt)), ks⟩, fun h₃ e D cx t₃ x₃ u₃ => ?_⟩
  refine note_x (s := ⟨h₃, g, d, t₃, o⟩) (Around.frames_deeper K.stack) rfl x₃ (.inr rfl) fun h₄ x₄ u₄ => ?_
  refine flight_x (s := ⟨h₄, g, d, t₃, o⟩) x₄ fun h₅ x₅ u₅ => ?_
  have F₅ : Fr base L h₅ _ := ⟨(u₃.trans (u₄.trans u₅)).ns F.ns, x₅.stays, Nat.le_trans kz F.above⟩
  refine handle0_x (C := 64) (g := g) (d := d) (o := o) ?_
  refine nmK W ?_ F₅ ks
  refine gAbs fun G hG => ?_
  obtain ⟨oe, vs, he, hec, hed, hef, hev⟩ := x₅.obj
  refine hG ?_
  clear G hG
  refine ⟨oe, h₅, t₃, rfl, rfl, xk_of (W.X' (Sub.trans ks x₅.stays)) (exc64 W), he, hec, ?_⟩
  refine flight_x (s := ⟨h₅, g, d, t₃, o⟩) x₅ fun h₆ x₆ u₆ => ?_
  have F₆ : Fr base L h₆ _ := ⟨u₆.ns F₅.ns, x₆.stays, Nat.le_trans kz F.above⟩
  have N₆ : News base L h₆ [] := News.nil
  have U₆ : h.UpToSlots h₆ := ((((Heap.UpToSlots.of_keeps F.keep).trans u₃).trans u₄).trans u₅).trans u₆
  have X₆ := W.X' ks
  have T₆ := W.T' ks
  clear F F₅ N X T
  k_steps
  dsimp only
  exact kE hx h₆ _ x₆.stays U₆
end

end
section
local macro_rules | `(tactic| walk_at "eval Name") => `(tactic| ((with_reducible refine' atCompN "cell" ?_); k_dflt (walk_at "nmL")))
local macro_rules | `(tactic| walk_at "eval Name") => `(tactic| ((with_reducible refine' atCompN "int" ?_); k_dflt (walk_at "nmB")))
section
variable {prog : Program} {w : World} {A : Around} {E : Value → Shared → Prop} {env : Env} {g : Array GenState} {d : Drawn} {t : Nat} {o : OsState} {h : Heap}
/-- a loop whose invariant speaks of the turned names too -/
theorem loop_inM {target : Expr} {body : List Stmt} {Q : Flow → Shared → Prop} (ns : List Str) {m : Str → Option Value} {h₀ : Heap} {I : Addr} {fp wr : List Addr} {n : Nat} {P Md : Nat → Value → Heap → Prop} {St : Nat → Heap → Prop} (F : Fr h₀ env.locals h m) (W : KTurns prog w A target I fp wr n P Md St) (hL : env.locals ∉ wr) (hst : St 0 h) (J : Nat → (Str → Option Value) → Heap → Prop) (hJ0 : J 0 m h)
    (stable : ∀ i m' h₁ h', J i m' h₁ → (∀ b ob, b ≠ env.locals → b ∉ wr → h₁.get? b = some ob → h'.get? b = some ob) → J i m' h')
    (turn : ∀ i v m' h₁ t₁, i < n → P i v h₁ → St (i + 1) h₁ → J i m' h₁ → (∀ y, y ∉ ns → m' y = m y) → h₁.Ns env.locals m' →
      wpAny (model prog w) A (assign target env v) (fun _ s₂ => wpAny (model prog w) A (execs body env) (fun f s' => match f with
        | .ret v => Q (.ret v) s'
        | .brk => Q .next s'
        | _ => TurnEnd g d o env.locals i (fun i m' h' => (∀ y, y ∉ ns → m' y = m y) ∧ J i m' h') St s')
        (notedBy (model prog w) A env (cameBackBy (model prog w) A env E)) s₂) (notedBy (model prog w) A env (cameBackBy (model prog w) A env E)) ⟨h₁, g, d, t₁, o⟩)
    (done : ∀ m' h' t', (∀ y, y ∉ ns → m' y = m y) → J n m' h' → h'.Ns env.locals m' → Q .next ⟨h', g, d, t', o⟩) : LoopAt prog w A env target body Q E (.ref I) ⟨h, g, d, t, o⟩ :=
  ⟨I, fp, wr, n, P, Md, St, h, g, d, t, o, m, fun i m' h' => (∀ y, y ∉ ns → m' y = m y) ∧ J i m' h', rfl, rfl, W, hL, hst, F.ns, ⟨fun _ _ => rfl, hJ0⟩, ⟨fun i m' h₁ h' hJ hk => ⟨hJ.1, stable i m' h₁ h' hJ.2 hk⟩, fun i v m' h₁ t₁ hi hP hs hJ hn => turn i v m' h₁ t₁ hi hP hs hJ.2 hJ.1 hn, fun m' h' t' hJ hn => done m' h' t' hJ.1 hJ.2 hn⟩⟩
end
theorem intsAre_snoc {ys : List Value} {ks : List Int} (h : IntsAre ys ks) (x : Int) (t : Tok) : IntsAre (ys ++ [.int x t]) (ks ++ [x]) := by
  induction h with
  | nil => exact .cons x t .nil
  | cons y t' _ ih => exact .cons y t' ih
end
local macro_rules | `(tactic| walk_at "exec For Name Name cons nil") => `(tactic| k_dflt (refine' for_turns ?_))
section
local macro_rules | `(tactic| walk_at "eval Name") => `(tactic| ((with_reducible refine' atCompN "cell" ?_); k_dflt (walk_at "nmL")))
local macro_rules | `(tactic| walk_at "eval Name") => `(tactic| ((with_reducible refine' atCompN "int" ?_); k_dflt (walk_at "nmB")))
/-- a goal that the walk leaves alone -/
noncomputable def Held (P : Prop) : Prop := P
theorem Held.of {P : Prop} (h : Held P) : P := h
theorem Held.off {P : Prop} (h : P) : Held P := h
inductive StopTok : Nat → Prop
  | mk (n : Nat) : StopTok n
/-- between the law's great number and its loop -/
inductive BoxMid (h : Heap) (L D : Addr) (oD : Obj) (g : Array GenState) (d : Drawn) (o : OsState) (s : Shared) : Prop
  | mk (hA : Heap) (tA : Nat) (gv : Int) (gu : Tok) (mA : Str → Option Value) (e : s = ⟨hA, g, d, tA, o⟩) (F : Fr h L hA (fun y => if y = "great" then some (.int gv gu) else if y = "cells" then some (.ref D) else mA y)) (N : News h L hA [(D, oD)]) (p : 0 ≤ gv)
theorem over2 {m : Str → Option Value} {x c : Str} {v w z : Option Value} (y : Str) : (if y = x then v else if y = x then w else if y = c then z else m y) = (if y = x then v else if y = c then z else m y) := by
  by_cases h : y = x
  · rw [if_pos h, if_pos h]
  · rw [if_neg h, if_neg h, if_neg h]
local macro_rules | `(tactic| walk_at "exec If") => `(tactic| ((rename StopTok 7 => hst; clear hst); refine' Held.of ?_))
section
variable {dp un : Nat} {fr : Option (List Env)} {gd : Option (List Code)} {h : Heap} {g : Array GenState} {d : Drawn} {t : Nat} {o : OsState} {Q E : Value → Shared → Prop}
set_option maxHeartbeats 1000000 in
theorem law_box_c (W : Wd) {sc : Addr} {vs : List Value} {ns : List Int} (S : Sub W.H0 h) (r : Rm 1 (Ar dp fr gd un)) (hsc : h.IsList sc vs.toArray) (hns : IntsAre vs ns) (hvl : vs.length ≤ 63)
    (k : ∀ h' t' bx ce gr st ug us up n vs' ns', Sub h h' → h.get? bx = none → h.get? ce = none → bx ≠ ce → h'.get? bx = some (drO ce gr st 0 ug us up n) → h'.IsList ce vs'.toArray → IntsAre vs' ns' → vs'.length ≤ 63 → 0 ≤ gr → 0 ≤ st → st < 2147483647 → Q (.ref bx) ⟨h', g, d, t', o⟩) :
    wpAny (model prg W.w) (Ar dp fr gd un) (call (.ref 370) [.ref sc]) Q E ⟨h, g, d, t, o⟩ := by
  refine' callDef W [("script", .ref sc)] S r ?_
  intro L h₁ F N t₁
  refine wp_absQ fun Q1 hQ1 E1 => ?_
  have X := W.X' S
  have T := W.T' S
  k_steps
  all_goals (try (with_reducible refine hQ1 _ _ ?_))
  rename Fr _ _ _ _ => F8
  rename News _ _ _ _ => N8
  rename IntsAre _ (List.take 48 ns) => hI8
  rename_i D0 ws h8 _ _ _
  have hwl : ws.length ≤ 63 := by
    have e1 := hI8.length
    have e2 := hns.length
    rw [List.length_take] at e1
    omega
  refine iter_list (News.isList N8 (.head _)) rfl ?_
  intro I h9 hI1 hI2 hs9 hfp hW hst
  have hle := subLe hs9 hI1 (hfp I (.head _))
  refine comp_inA F8 hW (by rw [sizeLine_eq]; omega) hst hfp hle (fun C D i ys h' => Sub h8 h' ∧ IntsAre ys ((List.take 48 ns).take i)) ⟨?_, ?_, ?_⟩ ?_ ?_
  · exact fun C D h' _ _ hs' => ⟨hs9.trans hs', .nil⟩
  · exact fun C D i ys h₁' h' hC hD hJ hk => ⟨compStable hJ.1 (Nat.le_trans hle hC) (Nat.le_trans hle hD) hI2 hk, hJ.2⟩
  · rintro C D i v ys h₁' t₁' m E' hC hD hCD hi hv hys ⟨k1, hks⟩ hn hm
    refine tests0 ?_
    rw [if_pos rfl]
    obtain ⟨ci, ct, rfl, hci⟩ := hI8.at _ _ hv
    have F9 : Fr h8 C h₁' m := ⟨hn, k1, Nat.le_trans hle hC⟩
    have N9 : News h8 C h₁' [] := News.nil
    have S9 := subF F8 S
    have X9 := W.X' S9
    have T9 := W.T' S9
    k_steps
    all_goals (try (with_reducible refine hQ1 _ _ ?_))
    · exact k1
    · rw [List.take_add_one, hci]; exact intsAre_snoc hks _ _
  · exact fun C D i ys h₂ hJ => F8.ns.keeps hJ.1
  · rintro C D ys h₂ h10 t10 hC hD hl10 hys10 ⟨k1, hks⟩ hn10 hk10
    have F10 : Fr h L h10 _ := ⟨hn10, fun b ob q => (hk10 b (ltNe (Nat.lt_of_lt_of_le (Heap.lt_size (F8.keep _ _ q)) (Nat.le_trans hle hC))) (ltNe (Nat.lt_of_lt_of_le (Heap.lt_size q) F8.above))).trans (k1 _ _ (F8.keep _ _ q)), F8.above⟩
    obtain ⟨oD, hoD, hoD2⟩ := hl10
    have hDL : L < D := Nat.lt_of_lt_of_le F8.ns.lt (Nat.le_trans hle hD)
    have N10 : News h L h10 [(D, oD)] := (allOne (⟨hoD, gtNe hDL, Heap.get?_none_of_le (Nat.le_trans F8.above (Nat.le_of_lt hDL))⟩))
    clear F8 N8
    dsimp only
    have stp : StopTok 7 := .mk _
    k_steps
    all_goals (try (with_reducible refine hQ1 _ _ ?_))
    refine Held.off ?_
    have hysl : ys.length ≤ 63 := Nat.le_trans hys10 hwl
    refine wpAny_mono (Q := fun f s' => f = Flow.next ∧ BoxMid h L D oD g d o s') ?_ (fun f s' hm => ?_) (fun _ _ e => e)
    · refine wp_absQ fun Q2 hQ2 E2 => ?_
      k_steps
      rename Fr _ _ _ _ => F11
      rename News _ _ _ _ => N11
      refine wpAny_truthy_list (items := ys.toArray) ⟨oD, (N11 _ (.head _)).1, hoD2⟩ (by rw [List.size_toArray]; omega) ?_
      cases hb : (!ys.toArray.isEmpty) with
      | false =>
        rw [if_neg Bool.false_ne_true]
        k_steps
        refine hQ2 _ _ ⟨rfl, _, _, 0, _, _, rfl, by assumption, by assumption, by decide⟩
      | true =>
        rw [if_pos rfl]
        obtain ⟨v0, hv0⟩ : ∃ v0, ys[0]? = some v0 := by
          cases ys with
          | nil => simp at hb
          | cons y l => exact ⟨y, rfl⟩
        have hys0 : (0 : Int) < (ys.length : Int) := by
          cases ys with
          | nil => simp at hb
          | cons y l => rw [List.length_cons]; omega
        obtain ⟨c0, t0, rfl, -⟩ := hks.at 0 _ hv0
        k_steps
        rename News _ _ _ _ => N12
        refine item_listL (l := ys) ⟨oD, (N12 _ (.head _)).1, hoD2⟩ (by decide) (by decide) hv0 ?_
        k_steps
        · rename News _ _ _ _ => N13
          refine item_listL (l := ys) ⟨oD, (N13 _ (.head _)).1, hoD2⟩ (by decide) (by decide) hv0 ?_
          k_steps
          rename Fr _ _ _ _ => FA
          refine hQ2 _ _ ⟨rfl, _, _, _, _, _, rfl, ⟨nsEq FA.ns over2, FA.keep, FA.above⟩, by assumption, Int.fmod_nonneg_of_pos _ (Int.pow_pos (by decide))⟩
        · refine hQ2 _ _ ⟨rfl, _, _, 0, _, _, rfl, by assumption, by assumption, by decide⟩
    · rename Fr _ _ _ _ => F10
      rename News _ _ _ _ => N10
      clear N10 F10
      obtain ⟨rfl, hA, tA, gv, gu, mA, rfl, F10, N10, gp⟩ := hm
      dsimp only
      k_steps
      all_goals (try (with_reducible refine hQ1 _ _ ?_))
      rename Fr _ _ _ _ => FA
      rename News _ _ _ _ => NA
      have hDA := NA (D, oD) (.head _)
      refine iter_list (vs := ys) ⟨oD, hDA.1, hoD2⟩ rfl ?_
      intro J h5 hJ1 hJ2 hs5 hfp5 hW5 hst5
      have hJD : J ≠ D := goneNe hJ2 hDA.1
      have hJ0 := noneSub FA.keep hJ2
      have hJL : J ≠ L := fun z => offL FA hJ2 (List.mem_singleton.mpr z.symm)
      refine loop_inM ["cell", "state"] (frSub hs5 FA) (KTurns.ofWalks hW5 fun i v s Q E st q => letGo_listiter st.1 q) (offL FA hJ2) hst5 (fun i m' h' => Sub h h' ∧ h'.get? D = some oD ∧ ∃ (st : Int) (u : Tok), m' "state" = some (.int st u) ∧ 0 ≤ st ∧ st < 2147483647) ⟨Sub.trans FA.keep hs5, hs5 _ _ hDA.1, 1, _, rfl, by decide, by decide⟩ ?_ ?_ ?_
      · rintro i m' h₁' h' ⟨q1, q2, q3⟩ hk
        exact ⟨fun b ob q => hk b ob (ltNe (Nat.lt_of_lt_of_le (Heap.lt_size q) FA.above)) (fun z => by rw [List.mem_singleton.mp z, hJ0] at q; cases q) (q1 b ob q), hk _ _ (gtNe hDL) (fun z => hJD (List.mem_singleton.mp z).symm) q2, q3⟩
      · rintro i v m' h6 t6 hi hv hst6 ⟨q1, q2, st, us, e1, e2, e3⟩ hm' hn6
        refine turn_abs fun Q2 hQ2 E2 => ?_
        obtain ⟨ci, ct, rfl, -⟩ := hks.at _ _ hv
        obtain ⟨⟨oJ, hoJ, hoJ2⟩, -⟩ := hst6
        have F13 := frOff2 (a := "cell") (b := "state") FA hn6 hm' q1 FA.above
        rw [e1] at F13
        have N13 : News h L h6 [(D, oD), (J, oJ)] := (allCons (⟨q2, hDA.2⟩) (allCons (⟨hoJ, hJL, hJ0⟩) allNil))
        clear FA NA
        k_steps
        all_goals (try (with_reducible refine hQ1 _ _ ?_))
        rename Fr _ _ _ _ => F14
        rename News _ _ _ _ => N14
        refine hQ2 _ _ ?_
        refine TurnEnd.intro F14.ns ⟨fun y hy => ?_, F14.keep, (N14 _ (.head _)).1, _, _, rfl, Int.fmod_nonneg_of_pos _ (by decide), Int.fmod_lt_of_pos _ (by decide)⟩ ⟨⟨oJ, (N14 _ (.tail _ (.head _))).1, hoJ2⟩, oD, (N14 _ (.head _)).1, hoD2⟩
        simp only [List.mem_cons, List.not_mem_nil, or_false, not_or] at hy
        simp only [if_neg hy.1, if_neg hy.2]
      · rintro m' h6 t6 hm' ⟨q1, q2, st, us, e1, e2, e3⟩ hn6
        have F13 := frOff2 (a := "cell") (b := "state") FA hn6 hm' q1 FA.above
        rw [e1] at F13
        have N13 : News h L h6 [(D, oD)] := (allOne (⟨q2, hDA.2⟩))
        clear FA NA
        dsimp only
        k_steps
        all_goals (try (with_reducible refine hQ1 _ _ ?_))
        rename Fr _ _ _ _ => F14
        rename News _ _ _ _ => N14
        rename D < _ => hlt
        dsimp only
        try (with_reducible refine hQ1 _ _ ?_)
        exact k _ _ _ D _ st _ _ _ _ ys _ F14.keep (N14 _ (.head _)).2.2 (N14 _ (.tail _ (.head _))).2.2 (gtNe hlt) (N14 _ (.head _)).1 ⟨oD, (N14 _ (.tail _ (.head _))).1, hoD2⟩ hks hysl gp e2 e3
end

end
section
/-! The plain law of the names -/
theorem slice_to {x : Str} {n : Nat} : Txt.slice x none (some (n : Int)) = ⟨(x.cps.toList.take n).toArray⟩ := by
  have hsz : x.length = x.cps.toList.length := by simp [Str.length]
  by_cases h : n ≤ x.length
  · have e := StrLaws.sliceText_to (x := x) (j := (n : Int)) ⟨Int.natCast_nonneg _, Int.ofNat_le.mpr h⟩
    refine Eq.trans e ?_
    rw [List.drop_zero]
    congr 2
  · have hm : Builtin.Str.strSliceIndices none (some (n : Int)) 1 x.length = Builtin.Str.strSliceIndices none (some (x.length : Int)) 1 x.length := by
      have a : ¬ ((n : Int) < 0) := Int.not_lt.mpr (Int.natCast_nonneg _)
      have b : ¬ ((x.length : Int) < 0) := Int.not_lt.mpr (Int.natCast_nonneg _)
      have c : max (0 : Int) (min (n : Int) (x.length : Int)) = max (0 : Int) (min (x.length : Int) (x.length : Int)) := by rw [Int.min_eq_right (Int.ofNat_le.mpr (Nat.le_of_not_le h)), Int.min_self]
      simp only [Builtin.Str.strSliceIndices, a, b, if_false, c, show ((1 : Int) > 0) = True from by simp, if_true]
    have e : Txt.slice x none (some (n : Int)) = Txt.slice x none (some (x.length : Int)) := by unfold Txt.slice; rw [hm]
    rw [e]
    have e := StrLaws.sliceText_to (x := x) (j := (x.length : Int)) ⟨Int.natCast_nonneg _, Int.le_refl _⟩
    refine Eq.trans e ?_
    rw [List.drop_zero, List.take_of_length_le (by omega), List.take_of_length_le (by omega)]
theorem slice_from {x : Str} {n : Nat} (h : n ≤ x.length) : Txt.slice x (some (n : Int)) none = ⟨(x.cps.toList.drop n).toArray⟩ := by
  have hsz : x.length = x.cps.toList.length := by simp [Str.length]
  have e := StrLaws.sliceText_from (x := x) (i := (n : Int)) ⟨Int.natCast_nonneg _, Int.ofNat_le.mpr h⟩
  refine Eq.trans e ?_
  rw [List.take_of_length_le (by rw [List.length_drop, Int.toNat_natCast, Int.toNat_sub]; exact Nat.le_refl _)]
  congr 2
theorem strL {a b : Str} : a = b ↔ a.cps.toList = b.cps.toList := ⟨fun h => h ▸ rfl, fun h => Str.ext' (Array.toList_inj.mp h)⟩
theorem strBeq (a b : Str) : (a == b) = decide (a = b) := by
  by_cases h : a = b <;> simp [h]
theorem cpsApp (a b : Str) : (a ++ b).cps.toList = a.cps.toList ++ b.cps.toList := by rw [Str.cps_append, Array.toList_append]
theorem slash : ("/" : Str).cps.toList = [47] := by decide
theorem lenL (x : Str) : x.length = x.cps.toList.length := by simp [Str.length]
/-- the names that a rename meets -/
theorem starts_iff {x y : Str} : Txt.startswith x y = true ↔ ∃ t, x.cps.toList = y.cps.toList ++ t := by
  unfold Txt.startswith
  rw [StrLaws.subAt_eq, List.drop_zero, Bool.and_eq_true, decide_eq_true_eq, beq_iff_eq]
  constructor
  · rintro ⟨-, h⟩
    exact ⟨x.cps.toList.drop y.length, by rw [← h, List.take_append_drop]⟩
  · rintro ⟨t, h⟩
    have h1 := lenL x
    have h2 := lenL y
    rw [h, List.length_append] at h1
    refine ⟨by omega, ?_⟩
    rw [h, h2, List.take_left]
theorem hit_iff {old n : Str} : hitP old n = true ↔ ∃ t : List Nat, n.cps.toList = old.cps.toList ++ t ∧ (t = [] ∨ ∃ r, t = 47 :: r) := by
  unfold hitP
  rw [Bool.or_eq_true, beq_iff_eq, starts_iff, cpsApp, slash]
  constructor
  · rintro (rfl | ⟨t, h⟩)
    · exact ⟨[], by simp, .inl rfl⟩
    · exact ⟨47 :: t, by rw [h]; simp, .inr ⟨t, rfl⟩⟩
  · rintro ⟨t, h, rfl | ⟨r, rfl⟩⟩
    · exact .inl (strL.mpr (by simpa using h))
    · exact .inr ⟨r, by rw [h]; simp⟩
theorem goal_of {old new n : Str} {t : List Nat} (h : n.cps.toList = old.cps.toList ++ t) : (goalOf old new n).cps.toList = new.cps.toList ++ t := by
  unfold goalOf
  have h1 := lenL n
  have h2 := lenL old
  rw [h, List.length_append] at h1
  rw [slice_from (by omega), cpsApp]
  congr 1
  show (List.toArray _).toList = t
  rw [List.toList_toArray, h, h2, List.drop_left]
theorem goal_inj {old new a b : Str} (ha : hitP old a = true) (hb : hitP old b = true) (h : goalOf old new a = goalOf old new b) : a = b := by
  obtain ⟨t, e1, -⟩ := hit_iff.mp ha
  obtain ⟨t', e2, -⟩ := hit_iff.mp hb
  have := strL.mp h
  rw [goal_of e1, goal_of e2] at this
  have := List.append_cancel_left this
  exact strL.mpr (by rw [e1, e2, this])
theorem goal_hit {old new n : Str} (h : hitP old n = true) : hitP new (goalOf old new n) = true := by
  obtain ⟨t, e, q⟩ := hit_iff.mp h
  exact hit_iff.mpr ⟨t, goal_of e, q⟩
theorem goal_back {old new n : Str} (h : hitP old n = true) : goalOf new old (goalOf old new n) = n := by
  obtain ⟨t, e, q⟩ := hit_iff.mp h
  exact strL.mpr (by rw [goal_of (goal_of e), e])
theorem goal_len {old new n : Str} (h : hitP old n = true) : (goalOf old new n).length ≤ new.length + n.length := by
  obtain ⟨t, e, -⟩ := hit_iff.mp h
  rw [lenL, lenL, lenL, goal_of e, e]
  simp only [List.length_append]; omega
theorem goal_old {old new : Str} : goalOf old new old = new := strL.mpr (by rw [goal_of (t := []) (by simp)]; simp)
theorem hit_old (old : Str) : hitP old old = true := hit_iff.mpr ⟨[], by simp, .inl rfl⟩
/-- the law's own test of a name: the same -/
theorem law_hit {old n : Str} : (n == old || Txt.slice n none (some ((old.length + 1 : Nat) : Int)) == old ++ "/") = hitP old n := by
  unfold hitP
  congr 1
  rw [Bool.eq_iff_iff, beq_iff_eq, starts_iff, slice_to, strL]
  show (List.toArray _).toList = _ ↔ _
  rw [List.toList_toArray, cpsApp, slash]
  have h2 := lenL old
  constructor
  · intro h
    exact ⟨n.cps.toList.drop (old.length + 1), by rw [← h, List.take_append_drop]⟩
  · rintro ⟨t, h⟩
    rw [h, show old.length + 1 = (old.cps.toList ++ [47]).length from by simp [h2], List.take_left]
/-! which names are good -/
noncomputable def okc (c : Nat) : Bool := !wild ⟨#[c]⟩ && !barred (c : Int)
noncomputable def okL : Bool → List Nat → Bool
  | f, [] => !f
  | f, c :: r => if c = 47 then !f && okL true r else okc c && okL false r
theorem okL_app : ∀ (a t : List Nat) (f : Bool), okL f (a ++ 47 :: t) = (okL f a && okL true t)
  | [], t, f => by simp [okL]
  | c :: a, t, f => by
    rw [List.cons_append, okL, okL]
    split
    · rw [okL_app a t true, Bool.and_assoc]
    · rw [okL_app a t false, Bool.and_assoc]
theorem item_at {x : Str} {i : Nat} {c : Nat} (h : x.cps.toList[i]? = some c) : Txt.item x (i : Int) = ⟨#[c]⟩ := by
  unfold Txt.item Txt.charAt
  have hl := (List.getElem?_eq_some_iff.mp h).1
  rw [StrLaws.at_nonneg (n := c) (by omega) (by simpa using h)]
  rfl
theorem ck_le {x : Str} : ∀ {i b : Nat}, ckTo x i = some b → b ≤ i
  | 0, b, h => by simp only [ckTo, Option.some.injEq] at h; omega
  | i + 1, b, h => by
    simp only [ckTo] at h
    obtain ⟨b0, h0, h⟩ := Option.bind_eq_some_iff.mp h
    have := ck_le h0
    split at h
    · split at h
      · cases h
      · simp only [Option.some.injEq] at h; omega
    · split at h
      · cases h
      · split at h
        · cases h
        · simp only [Option.some.injEq] at h; omega
theorem ck_ok {x : Str} : ∀ (i : Nat), i ≤ x.length → okL true x.cps.toList = (match ckTo x i with | none => false | some b => okL (decide (b = i)) (x.cps.toList.drop i))
  | 0, _ => by simp [ckTo]
  | i + 1, hi => by
    rw [ck_ok i (by omega)]
    have hl : i < x.cps.toList.length := by rw [← lenL]; omega
    have hc : x.cps.toList[i]? = some x.cps.toList[i] := List.getElem?_eq_getElem hl
    generalize x.cps.toList[i] = c at hc
    have hd : x.cps.toList.drop i = c :: x.cps.toList.drop (i + 1) := by
      rw [List.drop_eq_getElem_cons hl]
      congr 1
      rw [List.getElem?_eq_getElem hl] at hc
      exact Option.some.inj hc
    cases hk : ckTo x i with
    | none => simp [ckTo, hk]
    | some b =>
      have hb := ck_le hk
      have e0 : (⟨#[c]⟩ : Str).cps.getD 0 0 = c := rfl
      have e1 : ((⟨#[c]⟩ : Str) == "/") = decide (c = 47) := by
        rw [strBeq]
        congr 1
        rw [strL, slash]; simp
      simp only [ckTo, hk, Option.bind_some, item_at hc, e0, e1]
      rw [hd, okL]
      by_cases h47 : c = 47
      · rw [if_pos h47, decide_eq_true h47, if_pos rfl]
        by_cases hib : i = b
        · rw [if_pos hib]; simp [hib]
        · rw [if_neg hib]; simp [Ne.symm hib]
      · rw [if_neg h47, decide_eq_false h47, if_neg Bool.false_ne_true]
        unfold okc
        by_cases hw : wild ⟨#[c]⟩ = true
        · rw [if_pos hw]; simp [hw]
        · rw [if_neg hw]
          by_cases hr : barred (c : Int) = true
          · rw [if_pos hr]; simp [hr]
          · rw [if_neg hr]
            have : ¬ b = i + 1 := by omega
            simp [hw, hr, this]
theorem ck_okL (x : Str) : checkOk x = okL true x.cps.toList := by
  rw [ck_ok x.length (Nat.le_refl _)]
  unfold checkOk
  cases ckTo x x.length with
  | none => rfl
  | some b =>
    have : x.cps.toList.drop x.length = [] := List.drop_eq_nil_of_le (by rw [lenL]; exact Nat.le_refl _)
    simp only [Option.any_some, this, okL]
    by_cases h : b = x.length <;> simp [h]
/-! names in their normal form -/
theorem at_one {x : Str} {i : Nat} : StrLaws.At x "/" x.length i ↔ x.cps.toList[i]? = some 47 := StrLaws.subAt_one x 47 i
theorem head_of {x : Str} : (headOf x).cps.toList = x.cps.toList.takeWhile (· != 47) ∧ (restOf x).cps.toList = x.cps.toList.dropWhile (· != 47) := by
  have split : ∀ (l : List Nat) (i : Nat), l[i]? = some 47 → (∀ k, k < i → l[k]? ≠ some 47) → l.takeWhile (· != 47) = l.take i ∧ l.dropWhile (· != 47) = l.drop i := by
    intro l
    induction l with
    | nil => intro i h; cases h
    | cons c l ih =>
      intro i h hn
      cases i with
      | zero =>
        simp only [List.getElem?_cons_zero, Option.some.injEq] at h
        subst h
        simp
      | succ i =>
        have hc : c ≠ 47 := fun z => hn 0 (Nat.succ_pos _) (by rw [z]; rfl)
        obtain ⟨e1, e2⟩ := ih i (by simpa using h) fun k hk => by have := hn (k + 1) (by omega); simpa using this
        simp [List.takeWhile_cons, List.dropWhile_cons, hc, e1, e2]
  unfold headOf restOf
  rcases find_whole x "/" with ⟨e, hn⟩ | ⟨i, e, hi, hn⟩
  · rw [e, if_pos (by decide), if_pos (by decide)]
    have hf : ∀ c ∈ x.cps.toList, (c != 47) = true := fun c hc => by
      obtain ⟨i, hi⟩ := List.getElem?_of_mem hc
      by_cases z : c = 47
      · subst z; exact absurd (at_one.mpr hi) (hn i)
      · simpa using z
    have ht := List.takeWhile_append_dropWhile (p := (· != 47)) (l := x.cps.toList)
    have hd : ∀ l : List Nat, (∀ c ∈ l, (c != 47) = true) → l.takeWhile (· != 47) = l ∧ l.dropWhile (· != 47) = [] := by
      intro l
      induction l with
      | nil => intro _; exact ⟨rfl, rfl⟩
      | cons c l ih =>
        intro h
        obtain ⟨a, b⟩ := ih fun y hy => h y (.tail _ hy)
        have hc := h c (.head _)
        exact ⟨by rw [List.takeWhile_cons, if_pos hc, a], by rw [List.dropWhile_cons, if_pos hc, b]⟩
    obtain ⟨a, b⟩ := hd _ hf
    exact ⟨a.symm, b.symm⟩
  · have h0 : ¬ ((i : Int) < 0) := by omega
    have h1 := at_one.mp hi
    have hl := (List.getElem?_eq_some_iff.mp h1).1
    obtain ⟨e1, e2⟩ := split _ i h1 fun k hk z => hn k hk (at_one.mpr z)
    rw [e, if_neg h0, if_neg h0, slice_to, slice_from (by rw [lenL]; omega), e1, e2]
    exact ⟨rfl, rfl⟩
theorem tw_app {a t : List Nat} : (a ++ 47 :: t).takeWhile (· != 47) = a.takeWhile (· != 47) := by
  induction a with
  | nil => simp
  | cons c a ih =>
    rw [List.cons_append, List.takeWhile_cons, List.takeWhile_cons, ih]
theorem dw_app {a t : List Nat} : (a ++ 47 :: t).dropWhile (· != 47) = a.dropWhile (· != 47) ++ 47 :: t := by
  induction a with
  | nil => simp
  | cons c a ih =>
    rw [List.cons_append, List.dropWhile_cons, List.dropWhile_cons, ih]
    split <;> simp
theorem nm_inbox {x : Str} (h : (upT (headOf x) == "INBOX") = true) (e : normalN x = x) : headOf x = "INBOX" := by
  unfold normalN at e
  rw [if_pos h] at e
  have e1 := strL.mp e
  rw [cpsApp, head_of.2] at e1
  have e2 := List.takeWhile_append_dropWhile (p := (· != 47)) (l := x.cps.toList)
  have : ("INBOX" : Str).cps.toList ++ x.cps.toList.dropWhile (· != 47) = x.cps.toList.takeWhile (· != 47) ++ x.cps.toList.dropWhile (· != 47) := e1.trans e2.symm
  exact strL.mpr ((head_of.1).trans (List.append_cancel_right this).symm)
theorem nm_goal {x y : Str} {t : List Nat} (hy : y.cps.toList = x.cps.toList ++ 47 :: t) (e : normalN x = x) : normalN y = y := by
  have hh : headOf y = headOf x := strL.mpr (by rw [head_of.1, head_of.1, hy, tw_app])
  unfold normalN
  by_cases h : (upT (headOf x) == "INBOX") = true
  · rw [hh, if_pos h]
    refine strL.mpr ?_
    rw [cpsApp, head_of.2, ← nm_inbox h e, head_of.1, hy, dw_app, ← List.append_assoc, List.takeWhile_append_dropWhile]
  · rw [hh, if_neg h]
/-- a name that stands in a store -/
noncomputable def goodN (x : Str) : Prop := checkOk x = true ∧ normalN x = x
theorem good_goal {old new n : Str} (hn : goodN n) (hw : goodN new) (hh : hitP old n = true) : goodN (goalOf old new n) := by
  obtain ⟨t, e, rfl | ⟨r, rfl⟩⟩ := hit_iff.mp hh
  · have : goalOf old new n = new := strL.mpr (by rw [goal_of e]; simp)
    rw [this]; exact hw
  · refine ⟨?_, nm_goal (goal_of e) hw.2⟩
    have h1 := hn.1
    have h2 := hw.1
    rw [ck_okL] at h1 h2 ⊢
    rw [e, okL_app, Bool.and_eq_true] at h1
    rw [goal_of e, okL_app, h1.2, h2]; rfl

end
section
section
variable {prog : Program} {w : World} {A : Around} {E : Value → Shared → Prop} {env : Env} {h h₁ : Heap} {g : Array GenState} {d : Drawn} {t : Nat} {o : OsState}
/-- a comprehension into a name, over a list; things that are told in tuples stay -/
theorem comp_inT {scope : Scope} {cl : List (Str × Addr)} {x y : Str} {ifs : List Expr} {elt : Expr} {I l : Addr} {vs : Array Value} {n : Nat} {P : Nat → Value → Prop} {Q : Flow → Shared → Prop} {m : Str → Option Value} {h₀ : Heap} (F : Fr h₀ env.locals h₁ m) (W : Walks prog w A I [I, l] [I] n P (fun i h => h.IsListIter I l i ∧ h.IsList l vs)) (hsz : n ≤ sizeLine) (hst : h.IsListIter I l 0 ∧ h.IsList l vs) (hfp : ∀ b ∈ [I, l], b < h.objs.size)
    (hle : h₁.objs.size ≤ h.objs.size) (J : Addr → Addr → Nat → List Value → Heap → Prop) (hJ : CompInvN prog w A env scope cl x ifs elt g d o [I, l] [I] n P h isTup J) (hJn : ∀ C D i ys h₂, J C D i ys h₂ → h₂.Ns env.locals m)
    (hQ : ∀ C D ys h₂ h' t', h.objs.size ≤ C → h.objs.size ≤ D → h'.IsList D ys.toArray → ys.length ≤ n → J C D n ys h₂ → h'.Ns env.locals (fun z => if z = y then some (.ref D) else m z) → (∀ b, b ≠ C → b ≠ env.locals → h'.get? b = h₂.get? b) → Q .next ⟨h', g, d, t', o⟩) :
    CompAtA prog w A env scope cl x y ifs elt Q (.ref I) ⟨h, g, d, t, o⟩ :=
  ⟨I, [I, l], [I], n, P, _, h, g, d, t, o, m, rfl, rfl, W, hsz, hst, hfp, Nat.lt_of_lt_of_le F.ns.lt hle, isTup, fun _ z => z, fun _ _ st _ hb _ e => iter_notTup st hb e, J, hJ, hJn, hQ⟩
theorem comp_inE {scope : Scope} {cl : List (Str × Addr)} {x : Str} {ifs : List Expr} {elt : Expr} {I l : Addr} {vs : Array Value} {n : Nat} {P : Nat → Value → Prop} {Q : Value → Shared → Prop} (W : Walks prog w A I [I, l] [I] n P (fun i h => h.IsListIter I l i ∧ h.IsList l vs)) (hsz : n ≤ sizeLine) (hst : h.IsListIter I l 0 ∧ h.IsList l vs) (hfp : ∀ b ∈ [I, l], b < h.objs.size)
    (J : Addr → Addr → Nat → List Value → Heap → Prop) (hJ : CompInvN prog w A env scope cl x ifs elt g d o [I, l] [I] n P h isTup J)
    (hQ : ∀ C D ys h' t', h.objs.size ≤ C → h.objs.size ≤ D → h'.IsList D ys.toArray → ys.length ≤ n → J C D n ys h' → Q (.ref D) ⟨h', g, d, t', o⟩) :
    CompAt prog w A env scope cl x ifs elt Q (.ref I) ⟨h, g, d, t, o⟩ :=
  ⟨I, [I, l], [I], n, P, _, h, g, d, t, o, rfl, rfl, W, hsz, hst, hfp, isTup, fun _ z => z, fun _ _ st _ hb _ e => iter_notTup st hb e, J, hJ, hQ⟩
end

end
section
section
variable {prog : Program} {w : World} {A : Around} {E : Value → Shared → Prop} {s : Shared} {h₀ : Heap} {L d : Addr} {m : Str → Option Value} {news : List (Addr × Obj)} {Q : Value → Shared → Prop}
theorem sortedHeap_at {h : Heap} {D : Addr} {vs : List Value} {n : Nat} (out : Array Value) (e : h.get? D = some (seqObj "list" vs.toArray n)) : ∃ n', (sortedHeap h D vs out).get? D = some (seqObj "list" out n') := by
  obtain ⟨e1, h1⟩ : ∃ e1, (h.update D (Obj.mapSeq fun _ => #[])).get? D = some (seqObj "list" #[] e1) := ⟨_, get?_update_seq e (fun _ => #[])⟩
  exact ⟨_, get?_update_seq (Heap.get?_push_of_some _ (Heap.get?_push_of_some _ h1)) fun _ => out⟩
theorem sortedHeap_old {h : Heap} {D : Addr} {vs : List Value} {out : Array Value} (x : Addr) (o : Obj) (hx : x ≠ D) (q : h.get? x = some o) : (sortedHeap h D vs out).get? x = some o := by
  unfold sortedHeap
  rw [Heap.get?_update_ne _ _ _ _ hx]
  exact Heap.get?_push_of_some _ (Heap.get?_push_of_some _ (by rw [Heap.get?_update_ne _ _ _ _ hx]; exact q))
/-- sorted(d) of a dict with text keys -/
theorem sorted_dict {kvs : List (Str × Value)} (hd : s.heap.DictOf (PySem.strKind prog w) d kvs) (lo : (d == sysModules) = false) (hh : A.handled = none) (F : Fr h₀ L s.heap m) (N : News h₀ L s.heap news) (h60 : kvs.length < 64)
    (k : ∀ D h' t' vs ss e, Fr h₀ L h' m → News h₀ L h' ((D, seqObj "list" (vs : List Value).toArray e) :: news) → StrsAre vs ss → ss.Perm (kvs.map (·.1)) → sortedS ss = true → Q (.ref D) { s with heap := h', toks := t' }) :
    wpAny (model prog w) A (call (.builtin "sorted") [.ref d]) Q E s := by
  obtain ⟨ep, hat⟩ := hd.dictAt
  refine kdu_sorted (kdl_dict (knd := PySem.strKind prog w) (ep := ep) lo) hh F N hat (by rw [sizeLine_eq]; omega) fun D h' tk vs F' N' l1 hl hv => ?_
  have hS := strs_of hl hv
  have hD := N' _ (.head _)
  refine wpAny_call_entry slot_list_sort ⟨_, hD.1, rfl⟩ entry_list_sort (list_sort_treeK strKind_oneLt hD.1 hS.keysOf (fun v₁ v₂ rest e => keyKind_strs (by rw [← e]; exact hS)) (by omega) fun st' hp hs => ⟨.none, rfl, ?_⟩) (args_list_sort _)
  obtain ⟨ss', a1, a2, a3⟩ := sorted_out_str hS hp hs
  obtain ⟨n', e'⟩ := sortedHeap_at ((arrOf st').map (·.2)) hD.1
  refine k D _ _ ((arrOf st').map (·.2)).toList ss' n' (frBut F' (fun x o hx q => sortedHeap_old x o hx q) hD.2.1 hD.2.2) ?_ a1 a2 a3
  exact newsBut N' (UpdF.head fun p hp => ltNe (l1 p hp)) (fun x o hx q => sortedHeap_old x o hx q) e'
end
section
variable {prog : Program} {w : World} {A : Around} {E : Value → Shared → Prop} {s : Shared} {h₀ : Heap} {L d : Addr} {m : Str → Option Value} {news : List (Addr × Obj)} {Q : Value → Shared → Prop}
theorem sorted_dict2 {kvs : List (Str × Value)} {oA : Obj} (k : ∀ D h' t' vs ss e, Fr h₀ L h' m → News h₀ L h' ((D, seqObj "list" (vs : List Value).toArray e) :: news) → StrsAre vs ss → ss.Perm (kvs.map (·.1)) → sortedS ss = true → Q (.ref D) { s with heap := h', toks := t' })
    (F : Fr h₀ L s.heap m := by assumption) (N : News h₀ L s.heap news := by assumption) (hO : s.heap.get? d = some oA := by walk_at "o_get") (hd : oA.IsDictOf (PySem.strKind prog w) kvs := by with_reducible assumption) (lo : (d == sysModules) = false := by with_reducible assumption) (h60 : kvs.length < 64 := by walk_at "om") (hh : A.handled = none := by rfl) :
    wpAny (model prog w) A (call (.builtin "sorted") [.ref d]) Q E s := sorted_dict (Heap.dictOf_iff.mpr ⟨_, hO, hd⟩) lo hh F N h60 k
theorem atBi {M : Model} {b : String} {d : Addr} (k : wpAny M A (call (.builtin b) [.ref d]) Q E s) : wpAny M A (call (.builtin b) [.ref d]) Q E s := k
end
end
local macro_rules | `(tactic| walk_at "call builtin:sorted") => `(tactic| ((with_reducible refine' atBi ?_); k_dflt (refine' sorted_dict2 ?_; intro D h' t' vs ss e F' N' hS hp hso)))
section
section
variable {w : World} {A : Around} {E : Value → Shared → Prop} {h : Heap} {g : Array GenState} {d : Drawn} {t : Nat} {o : OsState}
theorem has_kv (kvs : List (Str × Value)) (x : Str) : (valueAt kvs x).isSome = decide (x ∈ kvs.map (·.1)) := by
  unfold valueAt
  rw [Option.isSome_map, Bool.eq_iff_iff, List.find?_isSome, decide_eq_true_iff, List.mem_map]
  exact ⟨fun ⟨b, hb, e⟩ => ⟨b, hb, by simpa using e⟩, fun ⟨b, hb, e⟩ => ⟨b, hb, by simpa using e⟩⟩
theorem in_kvs {kvs : List (Str × Value)} {dA : Addr} {oA : Obj} {x : Str} {u : Tok} {Q : Value → Shared → Prop} (k : ∀ t', Q (.bool (decide (x ∈ kvs.map (·.1)))) ⟨h, g, d, t', o⟩) (lo : (dA == sysModules) = false := by with_reducible assumption) (hO : h.get? dA = some oA := by walk_at "o_get") (hd : oA.IsDictOf (PySem.strKind prg w) kvs := by with_reducible assumption) :
    wpAny (model prg w) A (compareOp .In (.str x u) (.ref dA)) Q E ⟨h, g, d, t, o⟩ := by
  have hm : h.DictOf (PySem.strKind prg w) dA kvs := Heap.dictOf_iff.mpr ⟨_, hO, hd⟩
  exact wpAny_in_of (strKind_is _ _ _ _) lo hm.mapOf (by rw [has_kv]; exact k _)
theorem notin_kvs {kvs : List (Str × Value)} {dA : Addr} {oA : Obj} {x : Str} {u : Tok} {Q : Value → Shared → Prop} (k : ∀ t', Q (.bool (!decide (x ∈ kvs.map (·.1)))) ⟨h, g, d, t', o⟩) (lo : (dA == sysModules) = false := by with_reducible assumption) (hO : h.get? dA = some oA := by walk_at "o_get") (hd : oA.IsDictOf (PySem.strKind prg w) kvs := by with_reducible assumption) :
    wpAny (model prg w) A (compareOp .NotIn (.str x u) (.ref dA)) Q E ⟨h, g, d, t, o⟩ := by
  have hm : h.DictOf (PySem.strKind prg w) dA kvs := Heap.dictOf_iff.mpr ⟨_, hO, hd⟩
  exact wpAny_notIn_of (strKind_is _ _ _ _) lo hm.mapOf (by rw [has_kv]; exact k _)
end
end
local macro_rules | `(tactic| walk_at "compareOp In str ref") => `(tactic| k_dflt (refine' in_kvs ?_; k_whole; intro _))
local macro_rules | `(tactic| walk_at "compareOp NotIn str ref") => `(tactic| k_dflt (refine' notin_kvs ?_; k_whole; intro _))
section
section
variable {prog : Program} {w : World} {A : Around} {E : Value → Shared → Prop} {env : Env} {h h₁ : Heap} {g : Array GenState} {d : Drawn} {t : Nat} {o : OsState}
theorem any_bools {D : Addr} {bs : List Bool} {Q : Value → Shared → Prop} (hD : h.IsList D (bs.map Value.bool).toArray) (hh : A.handled = none) (k : ∀ h' t', Sub h h' → Q (.bool (bs.any id)) ⟨h', g, d, t', o⟩) :
    wpAny (model prog w) A (call (.builtin "any") [.ref D]) Q E ⟨h, g, d, t, o⟩ := by
  refine call_any_walk ?_
  refine iter_list hD hh ?_
  intro I h' hI1 hI2 hs hfp hW hst
  refine ⟨I, _, _, _, _, _, fun i => bs.getD i false, rfl, hW, hst, ?_, fun h'' tk hk => ?_⟩
  · intro i v s Q E hP hQ
    rw [List.getElem?_map, Option.map_eq_some_iff] at hP
    obtain ⟨b, hb, rfl⟩ := hP
    refine wpAny_truthy_bool ?_
    have : bs.getD i false = b := by rw [List.getD_eq_getElem?_getD, hb]; rfl
    rw [← this]; exact hQ
  · have e : (List.range (bs.map Value.bool).length).any (fun i => bs.getD i false) = bs.any id := by
      rw [Bool.eq_iff_iff, List.any_eq_true, List.any_eq_true]
      constructor
      · rintro ⟨i, hi, hb⟩
        rw [List.mem_range, List.length_map] at hi
        rw [List.getD_eq_getElem?_getD, List.getElem?_eq_getElem hi] at hb
        exact ⟨_, List.getElem_mem hi, hb⟩
      · rintro ⟨b, hb, hb2⟩
        obtain ⟨i, hi⟩ := List.getElem?_of_mem hb
        refine ⟨i, ?_, ?_⟩
        · rw [List.mem_range, List.length_map]; exact (List.getElem?_eq_some_iff.mp hi).1
        · rw [List.getD_eq_getElem?_getD, hi]; exact hb2
    rw [e]
    exact k h'' tk fun b ob q => hk b ob (fun z => by rw [List.mem_singleton.mp z, hI2] at q; cases q) (hs _ _ q)
end
theorem psOf_snoc {old new : Str} {ss : List Str} {i : Nat} {x : Str} (h : ss[i]? = some x) : psOf old new (ss.take (i + 1)) = psOf old new (ss.take i) ++ (if hitP old x then [(x, goalOf old new x)] else []) := psOf_take h
end
local macro_rules | `(tactic| walk_at "eval Name") => `(tactic| ((with_reducible refine' atCompN "name" ?_); k_dflt (walk_at "nmL")))
local macro_rules | `(tactic| walk_at "eval Name") => `(tactic| ((with_reducible refine' atCompN "len" ?_); k_dflt (walk_at "nmB")))
local macro_rules | `(tactic| walk_at "eval Name") => `(tactic| ((with_reducible refine' atCompN "old" ?_); k_dflt (walk_at "nmCN")))
local macro_rules | `(tactic| walk_at "eval Name") => `(tactic| ((with_reducible refine' atCompN "new" ?_); k_dflt (walk_at "nmCN")))
local macro_rules | `(tactic| walk_at "eval Name") => `(tactic| ((with_reducible refine' atCompN "own" ?_); k_dflt (walk_at "nmCN")))
section
/-- told by new things alone -/
noncomputable def NewTv (h h' : Heap) (t : Told) (v : Value) : Prop := ∃ N : Led, (∀ p ∈ N, h'.get? p.1 = some p.2 ∧ h.get? p.1 = none) ∧ ∀ h'', At h'' N → Tv h'' t v
theorem newTv2 {h h' : Heap} {L : Addr} {a b : Addr × Obj} {rest : Led} {t : Told} {v : Value} (N : News h L h' (a :: b :: rest)) (k : ∀ h'', At h'' [a, b] → Tv h'' t v) : NewTv h h' t v :=
  ⟨[a, b], allCons ⟨(N _ (.head _)).1, (N _ (.head _)).2.2⟩ (allCons ⟨(N _ (.tail _ (.head _))).1, (N _ (.tail _ (.head _))).2.2⟩ allNil), k⟩
noncomputable def PsJ (h : Heap) (K8 : Led) (L : Addr) (old new : Str) (ss : List Str) (C : Addr) (i : Nat) (ys : List Value) (h' : Heap) : Prop :=
  Sub h h' ∧ At h' K8 ∧ ∃ NT : Led, (∀ p ∈ NT, h'.get? p.1 = some p.2 ∧ isTup p.2 ∧ p.1 ≠ C ∧ p.1 ≠ L ∧ h.get? p.1 = none) ∧ ∀ h'', At h'' NT → TvL h'' ((psOf old new (ss.take i)).map toldP) ys
noncomputable def AnyJ (h8 : Heap) (l : List (Str × Str)) (keys : List Str) (i : Nat) (ys : List Value) (h' : Heap) : Prop :=
  Sub h8 h' ∧ ys = (l.take i).map fun p => Value.bool (decide (p.2 ∈ keys))
section
variable {dp un : Nat} {fr : Option (List Env)} {gd : Option (List Code)} {h : Heap} {g : Array GenState} {d : Drawn} {t : Nat} {o : OsState} {Q E : Value → Shared → Prop}
set_option maxHeartbeats 1000000 in
theorem law_pairs_c (W : Wd) {dO : Addr} {oO : Obj} {kvs : List (Str × Value)} {old new : Str} {u0 u1 : Tok} (S : Sub W.H0 h) (r : Rm 3 (Ar dp fr gd un)) (hO : h.get? dO = some oO) (hd : oO.IsDictOf (PySem.strKind prg W.w) kvs) (lo : (dO == sysModules) = false) (h60 : kvs.length < 60) (hol : old.length ≤ 1000) (hnl : new.length ≤ 1000) (hkl : ∀ n ∈ kvs.map (·.1), n.length ≤ 1000)
    (kN : (old ∉ kvs.map (·.1) ∨ new ∈ kvs.map (·.1) ∨ lawIsName new = false ∨ (old ≠ "INBOX" ∧ ∃ ss : List Str, ss.Perm (kvs.map (·.1)) ∧ sortedS ss = true ∧ ∃ p ∈ psOf old new ss, p.2 ∈ kvs.map (·.1))) → ∀ h' t', Sub h h' → Q .none ⟨h', g, d, t', o⟩)
    (kI : old = "INBOX" → old ∈ kvs.map (·.1) → new ∉ kvs.map (·.1) → lawIsName new = true → ∀ h' t' v, Sub h h' → NewTv h h' (.lst [.tup [.str "INBOX", .str new]]) v → Q v ⟨h', g, d, t', o⟩)
    (kP : old ≠ "INBOX" → old ∈ kvs.map (·.1) → new ∉ kvs.map (·.1) → lawIsName new = true → ∀ ss : List Str, ss.Perm (kvs.map (·.1)) → sortedS ss = true → (∀ p ∈ psOf old new ss, p.2 ∉ kvs.map (·.1)) → ∀ h' t' v, Sub h h' → NewTv h h' (.lst ((psOf old new ss).map toldP)) v → Q v ⟨h', g, d, t', o⟩) :
    wpAny (model prg W.w) (Ar dp fr gd un) (call (.ref 403) [.ref dO, .str old u0, .str new u1]) Q E ⟨h, g, d, t, o⟩ := by
  refine' callDefC W [("own", .ref dO), ("old", .str old u0), ("new", .str new u1)] S r ?_
  intro L h₁ cells F N Y t₁
  refine wp_absQ fun Q1 hQ1 E1 => ?_
  have X := W.X' S
  have T := W.T' S
  obtain ⟨oc1, oc2, oc3, rfl, hoc1, hoc2, hoc3⟩ := Y.three
  clear Y
  have hoc1 : oc1.data = .cell (some (.str new u1)) := hoc1
  have hoc2 : oc2.data = .cell (some (.str old u0)) := hoc2
  have hoc3 : oc3.data = .cell (some (.ref dO)) := hoc3
  k_steps
  all_goals (try (with_reducible refine hQ1 _ _ ?_))
  · dsimp only; exact kN (.inr (.inl (by assumption))) _ _ (Fr.keep (by assumption))
  · rename Fr _ _ _ _ => F9
    rename News _ _ _ _ => N9
    refine kI (by simpa using ‹(old == Str.ofString "INBOX") = true›) (by assumption) (by assumption) (by assumption) _ _ _ F9.keep (newTv2 N9 fun h'' ha => ?_)
    simp only [Tv]
    exact ⟨_, [_], rfl, ⟨_, ha _ (.head _), rfl, 0, rfl⟩, tvl_cons (told_tup (vs := [_, _]) (ha _ (.tail _ (.head _))) (tvl_cons (tv_str _ _) (tvl_cons (tv_str _ _) tvl_nil))) tvl_nil⟩
  · rename Fr _ _ _ _ => F8
    rename News _ _ _ _ => N8
    rename_i h7 _ _ _ _ hnm _ _ hne D0 h8 _ vs ss e8 hS8 hp8 hso8
    have hno : old ≠ "INBOX" := fun z => by rw [z] at hne; simp at hne
    have hlv : vs.length < 60 := by
      have e1 := hS8.length
      have e2 := hp8.length_eq
      rw [List.length_map] at e2
      omega
    refine iter_list (News.isList N8 (.head _)) rfl ?_
    intro I h9 hI1 hI2 hs9 hfp hW hst
    have hle := subLe hs9 hI1 (hfp I (.head _))
    obtain ⟨oL, hoL⟩ : ∃ oL, h8.get? L = some oL := by obtain ⟨oL, _, _, z, _⟩ := F8.ns; exact ⟨oL, z⟩
    obtain ⟨K8, hK8⟩ : ∃ K8 : Led, K8 = [(L, oL), (L + 1 + 1 + 1, oc1), (L + 1 + 1, oc2), (L + 1, oc3), (D0, seqObj "list" vs.toArray e8)] := ⟨_, rfl⟩
    have hA8 : At h8 K8 := fun p hp => by
      rw [hK8] at hp
      rcases List.mem_cons.mp hp with rfl | hp
      · exact hoL
      rcases List.mem_cons.mp hp with rfl | hp
      · exact (N8 _ (.tail _ (.head _))).1
      rcases List.mem_cons.mp hp with rfl | hp
      · exact (N8 _ (.tail _ (.tail _ (.head _)))).1
      rcases List.mem_cons.mp hp with rfl | hp
      · exact (N8 _ (.tail _ (.tail _ (.tail _ (.head _))))).1
      · rw [List.mem_singleton.mp hp]; exact (N8 _ (.head _)).1
    have hK80 : ∀ p ∈ K8, h.get? p.1 = none := fun p hp => by
      rw [hK8] at hp
      rcases List.mem_cons.mp hp with rfl | hp
      · exact Heap.get?_none_of_le F8.above
      rcases List.mem_cons.mp hp with rfl | hp
      · exact (N8 _ (.tail _ (.head _))).2.2
      rcases List.mem_cons.mp hp with rfl | hp
      · exact (N8 _ (.tail _ (.tail _ (.head _)))).2.2
      rcases List.mem_cons.mp hp with rfl | hp
      · exact (N8 _ (.tail _ (.tail _ (.tail _ (.head _))))).2.2
      · rw [List.mem_singleton.mp hp]; exact (N8 _ (.head _)).2.2
    have hsz : h.objs.size ≤ h8.objs.size := Nat.le_trans F8.above (Nat.le_of_lt F8.ns.lt)
    have far : ∀ b ob C D, h8.get? b = some ob → h9.objs.size ≤ C → h9.objs.size ≤ D → b ≠ C ∧ b ≠ D ∧ b ∉ [I] := fun b ob C D q hC hD =>
      ⟨ltNe (Nat.lt_of_lt_of_le (Heap.lt_size q) (Nat.le_trans hle hC)), ltNe (Nat.lt_of_lt_of_le (Heap.lt_size q) (Nat.le_trans hle hD)), fun z => by rw [List.mem_singleton.mp z, hI2] at q; cases q⟩
    refine comp_inT F8 hW (by rw [sizeLine_eq]; omega) hst hfp hle (fun C D i ys h' => PsJ h K8 L old new ss C i ys h') ⟨?_, ?_, ?_⟩ ?_ ?_
    · exact fun C D h' _ _ hs' => ⟨Sub.trans F8.keep (hs9.trans hs'), (hA8.keeps hs9).keeps hs', [], (by intro p hp; cases hp), fun h'' _ => by rw [List.take_zero]; exact tvl_nil⟩
    · rintro C D i ys h₁' h' hC hD ⟨q1, q2, NT, n1, n2⟩ hk
      exact ⟨fun b ob e => hk b ob (q1 b ob e) (.inl (far b ob C D (F8.keep _ _ e) hC hD)), fun p hp => hk _ _ (q2 p hp) (.inl (far p.1 p.2 C D (hA8 p hp) hC hD)), NT, fun p hp => ⟨hk _ _ (n1 p hp).1 (.inr (n1 p hp).2.1), (n1 p hp).2⟩, n2⟩
    · rintro C D i v ys h₁' t₁' m E' hC hD hCD hi hv hys ⟨k1, k2, NT, n1, n2⟩ hn hm
      refine tests1 ?_
      obtain ⟨x, ux, rfl, hx⟩ := hS8.item i v hv
      have hxm : x ∈ kvs.map (·.1) := hp8.mem_iff.mp (List.mem_of_getElem? hx)
      have hxl := hkl x hxm
      have F9 : Fr h C h₁' m := ⟨hn, k1, Nat.le_trans hsz (Nat.le_trans hle hC)⟩
      have hfL : ∀ p ∈ fpLed h₁' [D, I], h₁'.get? p.1 = some p.2 ∧ p.1 ≠ C ∧ h.get? p.1 = none := fun p hp => by
        refine ⟨fpLed_at p hp, ?_⟩
        have hz := fpLed_mem p hp
        rcases List.mem_cons.mp hz with z | hz
        · rw [z]; exact ⟨hCD.symm, Heap.get?_none_of_le (Nat.le_trans hsz (Nat.le_trans hle hD))⟩
        · rw [List.mem_singleton.mp hz]; exact ⟨ltNe (Nat.lt_of_lt_of_le (hfp I (.head _)) hC), noneSub F8.keep hI2⟩
      have hK9 : ∀ p ∈ K8, h₁'.get? p.1 = some p.2 ∧ p.1 ≠ C ∧ h.get? p.1 = none := fun p hp => ⟨k2 p hp, (far p.1 p.2 C D (hA8 p hp) hC hD).1, hK80 p hp⟩
      obtain ⟨KK, hKK⟩ : ∃ KK : Led, KK = fpLed h₁' [D, I] ++ (K8 ++ NT) := ⟨_, rfl⟩
      have N9 : News h C h₁' ((L + 1 + 1 + 1, oc1) :: (L + 1 + 1, oc2) :: (L + 1, oc3) :: KK) := fun p hp => by
        rcases List.mem_append.mp (show p ∈ [(L + 1 + 1 + 1, oc1), (L + 1 + 1, oc2), (L + 1, oc3)] ++ KK from hp) with hp | hp
        · exact hK9 p (by rw [hK8]; exact .tail _ (List.mem_append_left [(D0, seqObj "list" vs.toArray e8)] hp))
        rw [hKK] at hp
        rcases List.mem_append.mp hp with hp | hp
        · exact hfL p hp
        rcases List.mem_append.mp hp with hp | hp
        · exact hK9 p hp
        · exact ⟨(n1 p hp).1, (n1 p hp).2.2.1, (n1 p hp).2.2.2.2⟩
      have hkeep : ∀ h4, (∀ p ∈ KK, h4.get? p.1 = some p.2) → (At h4 K8 ∧ At h4 NT) ∧ ∀ b ob, (b ∈ [I, D0] ∨ b = D) → h₁'.get? b = some ob → h4.get? b = some ob := fun h4 hK => by
        refine ⟨⟨fun p hp => hK p (by rw [hKK]; exact List.mem_append_right _ (List.mem_append_left _ hp)), fun p hp => hK p (by rw [hKK]; exact List.mem_append_right _ (List.mem_append_right _ hp))⟩, fun b ob hb q => ?_⟩
        have hin : b ∈ [D, I] → h4.get? b = some ob := fun z => hK (b, ob) (by rw [hKK]; exact List.mem_append_left _ (fpLed_in z q))
        rcases hb with hb | hb
        · rcases List.mem_cons.mp hb with z | z
          · exact hin (by rw [z]; exact .tail _ (.head _))
          · have z := List.mem_singleton.mp z
            rw [z] at q ⊢
            have hz : (D0, seqObj "list" vs.toArray e8) ∈ K8 := by rw [hK8]; exact .tail _ (.tail _ (.tail _ (.tail _ (.head _))))
            have e1 := k2 _ hz
            rw [q] at e1
            have e1 := Option.some.inj e1
            subst e1
            exact hK _ (by rw [hKK]; exact List.mem_append_right _ (List.mem_append_left _ hz))
        · exact hin (by rw [hb]; exact .head _)
      have hno' : ∀ h4 m4 t4, hitP old x = false → Fr h C h4 m4 → News h C h4 ((L + 1 + 1 + 1, oc1) :: (L + 1 + 1, oc2) :: (L + 1, oc3) :: KK) → CompEnd g d o [I, D0] C D (fun h' => PsJ h K8 L old new ss C (i + 1) ys h') h₁' ⟨h4, g, d, t4, o⟩ := fun h4 m4 t4 hh F4 N4 => by
        obtain ⟨⟨a1, a2⟩, a3⟩ := hkeep h4 fun p hp => (N4 p (.tail _ (.tail _ (.tail _ hp)))).1
        exact CompEnd.intro ⟨F4.keep, a1, NT, fun p hp => ⟨a2 p hp, (n1 p hp).2⟩, fun h'' ha => by
          rw [psOf_take hx, hh, if_neg Bool.false_ne_true, List.append_nil]
          exact n2 h'' ha⟩ F4.ns a3
      have hadd : ∀ h4 m4 t4 T u1' u2', hitP old x = true → L + 1 < T → Fr h C h4 m4 → News h C h4 ((T, tupO [.str x u1', .str (new ++ Txt.slice x (some (old.length : Int)) none) u2']) :: (L + 1 + 1 + 1, oc1) :: (L + 1 + 1, oc2) :: (L + 1, oc3) :: KK) → CompEnd g d o [I, D0] C D (fun h' => PsJ h K8 L old new ss C (i + 1) (ys ++ [.ref T]) h') h₁' ⟨h4, g, d, t4, o⟩ := fun h4 m4 t4 T u1' u2' hh hLT F4 N4 => by
        obtain ⟨⟨a1, a2⟩, a3⟩ := hkeep h4 fun p hp => (N4 p (.tail _ (.tail _ (.tail _ (.tail _ hp))))).1
        have hT := N4 _ (.head _)
        exact CompEnd.intro ⟨F4.keep, a1, (T, tupO [.str x u1', .str (new ++ Txt.slice x (some (old.length : Int)) none) u2']) :: NT, fun p hp => by
          rcases List.mem_cons.mp hp with rfl | hp
          · exact ⟨hT.1, ⟨rfl, _, _, rfl⟩, hT.2.1, gtNe (Nat.lt_trans (Nat.lt_succ_self L) hLT), hT.2.2⟩
          · exact ⟨a2 p hp, (n1 p hp).2⟩, fun h'' ha => by
          rw [psOf_take hx, if_pos hh, List.map_append]
          exact tvl_snoc (n2 h'' fun p hp => ha p (.tail _ hp)) (told_tup (vs := [_, _]) (ha _ (.head _)) (tvl_cons (tv_str _ _) (tvl_cons (tv_str _ _) tvl_nil)))⟩ F4.ns a3
      have hit := law_hit (old := old) (n := x)
      rw [show ((old.length + 1 : Nat) : Int) = (old.length : Int) + 1 from rfl] at hit
      have X9 := W.X' S
      have T9 := W.T' S
      clear F N F8 N8
      k_steps
      all_goals (try (with_reducible refine hQ1 _ _ ?_))
      · rename Fr _ _ _ _ => F4
        rename News _ _ _ _ => N4
        rename _ ∧ _ ∧ _ ∧ AllLt _ _ => hlt
        exact hadd _ _ _ _ _ _ (by rw [← hit, ‹(x == old) = true›]; rfl) hlt.2.2.1 F4 N4
      · rename Fr _ _ _ _ => F4
        rename News _ _ _ _ => N4
        rename _ ∧ _ ∧ _ ∧ AllLt _ _ => hlt
        exact hadd _ _ _ _ _ _ (by rw [← hit, ‹(x == old) = false›, Bool.false_or]; assumption) hlt.2.2.1 F4 N4
      · exact hno' _ _ _ (by rw [← hit, ‹(x == old) = false›, Bool.false_or]; assumption) (by assumption) (by assumption)
    · exact fun C D i ys h₂ hJ => F8.ns.at' fun ob e => hJ.2.1 (L, ob) (by rw [hK8]; rw [hoL] at e; cases e; exact .head _)
    · rintro C D ys h₂ h10 t10 hC hD hl10 hys10 ⟨k1, k2, NT, n1, n2⟩ hn10 hk10
      obtain ⟨oD, hoD, hoD2⟩ := hl10
      have hLC : L ≠ C := (far L oL C D hoL hC hD).1
      have F10 : Fr h L h10 _ := ⟨hn10, fun b ob e => (hk10 b (far b ob C D (F8.keep _ _ e) hC hD).1 (ltNe (Nat.lt_of_lt_of_le (Heap.lt_size e) F8.above))).trans (k1 b ob e), F8.above⟩
      have hLD : L < D := Nat.lt_of_lt_of_le F8.ns.lt (Nat.le_trans hle hD)
      have N10 : News h L h10 ((D, oD) :: (L + 1 + 1 + 1, oc1) :: (L + 1 + 1, oc2) :: (L + 1, oc3) :: NT) := fun p hp => by
        rcases List.mem_cons.mp hp with rfl | hp
        · exact ⟨hoD, gtNe hLD, Heap.get?_none_of_le (Nat.le_trans hsz (Nat.le_trans hle hD))⟩
        rcases List.mem_append.mp (show p ∈ [(L + 1 + 1 + 1, oc1), (L + 1 + 1, oc2), (L + 1, oc3)] ++ NT from hp) with hp | hp
        · have hz : p ∈ K8 := by rw [hK8]; exact .tail _ (List.mem_append_left [(D0, seqObj "list" vs.toArray e8)] hp)
          have q := N8 p (.tail _ hp)
          exact ⟨(hk10 _ (far p.1 p.2 C D q.1 hC hD).1 q.2.1).trans (k2 p hz), q.2⟩
        · have q := n1 p hp
          exact ⟨(hk10 _ q.2.2.1 q.2.2.2.1).trans q.1, q.2.2.2.1, q.2.2.2.2⟩
      have hsl : vs.length = ss.length := hS8.length
      rw [hsl, List.take_length] at n2
      clear F N F8 N8
      dsimp only
      k_steps
      all_goals (try (with_reducible refine hQ1 _ _ ?_))
      rename Fr _ _ _ _ => F11
      rename News _ _ _ _ => N11
      have hAN : At h10 NT := fun p hp => (N11 p (.tail _ (.tail _ (.tail _ (.tail _ hp))))).1
      have hpn : (psOf old new ss).length ≤ vs.length := by
        unfold psOf
        rw [List.length_map, hsl]
        exact List.length_filter_le _ _
      have hyl : ys.length = (psOf old new ss).length := by
        have := (n2 h10 hAN).length
        rwa [List.length_map] at this
      refine iter_list (vs := ys) ⟨oD, (N11 _ (.head _)).1, hoD2⟩ rfl ?_
      intro I2 h12 hI21 hI22 hs12 hfp12 hW12 hst12
      have hle12 := subLe hs12 hI21 (hfp12 I2 (.head _))
      refine comp_inE hW12 (by rw [sizeLine_eq]; omega) hst12 hfp12 (fun C D i bs h' => AnyJ h10 (psOf old new ss) (kvs.map (·.1)) i bs h') ⟨?_, ?_, ?_⟩ ?_
      · exact fun C D h' _ _ hs' => ⟨hs12.trans hs', by rw [List.take_zero]; rfl⟩
      · exact fun C D i bs h₁' h' hC hD hJ hk => ⟨compStable hJ.1 (Nat.le_trans hle12 hC) (Nat.le_trans hle12 hD) hI22 hk, hJ.2⟩
      · rintro C2 D2 i v bs h₁' t₁' m E' hC2 hD2 hCD2 hi hv hbs ⟨k1', hb2⟩ hn hm
        refine tests0 ?_
        rw [if_pos rfl]
        obtain ⟨p, T9, ua, ub, hp9, rfl, hT9⟩ := tvl_ps (n2 h₁' fun p hp => k1' _ _ (hAN p hp)) hv
        have hT9' : IsTup h₁' T9 #[.str p.1 ua, .str p.2 ub] := hT9
        have F14 : Fr h C2 h₁' m := ⟨hn, Sub.trans F11.keep k1', Nat.le_trans (Nat.le_trans F11.above (Nat.le_of_lt F11.ns.lt)) (Nat.le_trans hle12 hC2)⟩
        have N14 : News h C2 h₁' [(L + 1, oc3)] := fun q hq => by
          rw [List.mem_singleton.mp hq]
          have z := N11 (L + 1, oc3) (.tail _ (.tail _ (.tail _ (.head _))))
          exact ⟨k1' _ _ z.1, ltNe (Nat.lt_of_lt_of_le (Heap.lt_size z.1) (Nat.le_trans hle12 hC2)), z.2.2⟩
        clear F11 N11
        k_steps
        all_goals (try (with_reducible refine hQ1 _ _ ?_))
        refine CompEnd.intro ⟨k1', ?_⟩ hn fun _ _ _ q => q
        rw [hb2, List.take_add_one, hp9, List.map_append]; rfl
      · rintro C2 D2 bs h13 t13 hC2 hD2 hl13 hbl ⟨k1', hb2⟩
        have F13 := frSub k1' F11
        have N13 := newsSub k1' N11
        rw [hyl, List.take_length] at hb2
        clear F11 N11
        k_steps
        all_goals (try (with_reducible refine hQ1 _ _ ?_))
        refine any_bools (bs := (psOf old new ss).map fun p => decide (p.2 ∈ kvs.map (·.1))) (by rw [List.map_map]; exact hb2 ▸ hl13) rfl ?_
        intro h14 t14 hs14
        have F15 := frSub hs14 F13
        have N15 := newsSub hs14 N13
        clear F13 N13
        k_steps
        all_goals (try (with_reducible refine hQ1 _ _ ?_))
        · obtain ⟨b, hb, hb2'⟩ := List.any_eq_true.mp (show ((psOf old new ss).map fun p => decide (p.2 ∈ kvs.map (·.1))).any id = true by assumption)
          obtain ⟨p, hp, rfl⟩ := List.mem_map.mp hb
          exact kN (.inr (.inr (.inr ⟨hno, ss, hp8, hso8, p, hp, of_decide_eq_true hb2'⟩))) _ _ F15.keep
        · have hany : ((psOf old new ss).map fun p => decide (p.2 ∈ kvs.map (·.1))).any id = false := by assumption
          refine kP hno (by assumption) (by assumption) (by assumption) ss hp8 hso8 (fun p hp hm => ?_) _ _ _ F15.keep ⟨(D, oD) :: NT, fun p hp => ?_, fun h'' ha => ?_⟩
          · have := List.any_eq_false.mp hany _ (List.mem_map_of_mem hp)
            exact this (decide_eq_true hm)
          · rcases List.mem_cons.mp hp with rfl | hp
            · exact ⟨(N15 _ (.head _)).1, (N15 _ (.head _)).2.2⟩
            · have q := N15 p (.tail _ (.tail _ (.tail _ (.tail _ hp))))
              exact ⟨q.1, q.2.2⟩
          · simp only [Tv]
            exact ⟨D, ys, rfl, ⟨oD, ha _ (.head _), hoD2⟩, n2 h'' fun p hp => ha p (.tail _ hp)⟩
  · dsimp only; exact kN (.inr (.inr (.inl (by assumption)))) _ _ (Fr.keep (by assumption))
  · dsimp only; exact kN (.inl (by assumption)) _ _ (Fr.keep (by assumption))
end

end
section
/-! two sorted rows of the same names are one -/
theorem ltCps_iff (a b : List Nat) : Spec.ltCps a b = true ↔ a < b := by rw [ltCps_eq, decide_eq_true_eq]
theorem rising_le : ∀ {ss : List Str} {p : Str}, risingS p ss = true → ∀ y ∈ ss, ¬ y.cps.toList < p.cps.toList
  | [], _, _, y, hy => by cases hy
  | x :: r, p, h, y, hy => by
    simp only [risingS, Bool.and_eq_true, Bool.not_eq_true'] at h
    have h1 : ¬ x.cps.toList < p.cps.toList := fun z => Bool.noConfusion (h.1.symm.trans ((ltCps_iff _ _).mpr z))
    rcases List.mem_cons.mp hy with rfl | hy
    · exact h1
    · exact List.not_lt.mpr (List.le_trans (List.not_lt.mp h1) (List.not_lt.mp (rising_le h.2 y hy)))
theorem sorted_uniq : ∀ {a b : List Str}, a.Perm b → sortedS a = true → sortedS b = true → a = b
  | [], _, p, _, _ => p.nil_eq
  | x :: r, b, p, ha, hb => by
    cases b with
    | nil => exact absurd p.length_eq (by simp)
    | cons y t =>
      have hx : x ∈ y :: t := p.mem_iff.mp (.head _)
      have hy : y ∈ x :: r := p.mem_iff.mpr (.head _)
      have tl : ∀ {x : Str} {r : List Str}, risingS x r = true → sortedS r = true := fun {x r} h => by
        cases r with
        | nil => rfl
        | cons z r => simp only [risingS, Bool.and_eq_true] at h; exact h.2
      have e : x = y := by
        rcases List.mem_cons.mp hx with h | h
        · exact h
        · rcases List.mem_cons.mp hy with h' | h'
          · exact h'.symm
          · have a1 := rising_le ha y h'
            have a2 := rising_le hb x h
            exact strL.mpr (List.le_antisymm (List.not_lt.mp a1) (List.not_lt.mp a2))
      subst e
      rw [sorted_uniq (List.Perm.cons_inv p) (tl ha) (tl hb)]
theorem sorted_hd {x : Str} {r : List Str} (h : sortedS (x :: r) = true) : ∀ y ∈ r, ¬ y.cps.toList < x.cps.toList := rising_le h
/-- the renamed box's own name is the first of its pairs -/
theorem hits_head {ss : List Str} {old : Str} (hs : sortedS ss = true) (hm : old ∈ ss) : ∃ r, ss.filter (hitP old) = old :: r := by
  induction ss with
  | nil => cases hm
  | cons x r ih =>
    by_cases hx : x = old
    · subst hx; exact ⟨_, by rw [List.filter_cons_of_pos (hit_old x)]⟩
    · have hr : old ∈ r := (List.mem_cons.mp hm).resolve_left (fun z => hx z.symm)
      have tl : sortedS r = true := by
        cases r with
        | nil => rfl
        | cons z r => simp only [sortedS, risingS, Bool.and_eq_true] at hs; exact hs.2
      have hn : hitP old x = false := by
        cases hh : hitP old x with
        | false => rfl
        | true =>
          obtain ⟨t, e, -⟩ := hit_iff.mp hh
          have h1 := sorted_hd hs old hr
          have h2 : ¬ x.cps.toList < old.cps.toList := by
            rw [e]
            exact List.not_lt.mpr (List.IsPrefix.le (List.prefix_append _ _))
          exact absurd (strL.mpr (List.le_antisymm (List.not_lt.mp h1) (List.not_lt.mp h2))).symm (fun z => hx z.symm)
      rw [List.filter_cons_of_neg (by simp [hn])]
      exact ih tl hr
section
variable {prog : Program} {w : World} {A : Around} {E : Value → Shared → Prop} {h : Heap} {g : Array GenState} {d : Drawn} {t : Nat} {o : OsState}
theorem iter_dict {dA : Addr} {oA : Obj} {kvs : List (Str × Value)} {Q : Value → Shared → Prop} (lo : (dA == sysModules) = false) (hO : h.get? dA = some oA) (hd : oA.IsDictOf (PySem.strKind prog w) kvs) (hh : A.handled = none)
    (k : ∀ I h' ep, h.objs.size ≤ I → h.get? I = none → Sub h h' → (∀ b ∈ [I, dA], b < h'.objs.size) → Walks prog w A I [I, dA] [I] kvs.length (fun i v => ∃ k x, kvs[i]? = some (k, x) ∧ (PySem.strKind prog w).is k v = true) (fun i h => h.IsKeyIter I dA i kvs.length ep ∧ h.DictAt (PySem.strKind prog w) dA kvs ep) → (h'.IsKeyIter I dA 0 kvs.length ep ∧ h'.DictAt (PySem.strKind prog w) dA kvs ep) → Q (.ref I) ⟨h', g, d, t, o⟩) :
    wpAny (model prog w) A (pyIter (.ref dA)) Q E ⟨h, g, d, t, o⟩ := by
  have hm : h.DictOf (PySem.strKind prog w) dA kvs := Heap.dictOf_iff.mpr ⟨_, hO, hd⟩
  obtain ⟨ep, hat⟩ := hm.dictAt
  have hlt := Heap.lt_size hO
  refine wpAny_pyIter_dict (s := ⟨h, g, d, t, o⟩) lo hat ?_
  refine k h.objs.size _ ep (Nat.le_refl _) (Heap.get?_none_of_le (Nat.le_refl _)) (fun b ob e => Heap.get?_push_of_some _ e) (fun b hb => ?_) (Walks.dictKeys (knd := PySem.strKind prog w) hh h.objs.size dA (Nat.ne_of_lt hlt) kvs ep) ⟨⟨_, Heap.get?_push_size _ rfl, rfl, rfl⟩, hat.push _⟩
  rw [Heap.size_push]
  rcases List.mem_cons.mp hb with e | hb
  · rw [e]; exact Nat.lt_succ_self _
  · rw [List.mem_singleton.mp hb]; exact Nat.lt_succ_of_lt hlt
theorem sub_kvs {kvs : List (Str × Value)} {value slice : Expr} {x : Str} {u : Tok} {dA : Addr} {oA : Obj} {v : Value} {Q : Value → Shared → Prop} (k : ∀ t', Q v ⟨h, g, d, t', o⟩) (hO : h.get? dA = some oA := by walk_at "o_get") (hd : oA.IsDictOf (PySem.strKind prg w) kvs := by with_reducible assumption) (hv : valueAt kvs x = some v := by with_reducible assumption)
    (hs : subscripted slice false (.ref dA) (.str x u) = operate [.ref dA, .str x u] (getItem (.ref dA) (.str x u)) := by with_unfolding_all rfl) (hg : ∀ r, letTemporaryGo value (.ref dA) r = pure () := by intro _; with_unfolding_all rfl) :
    wpAny (model prg w) A (subscriptTail value slice (.ref dA) (.str x u)) Q E ⟨h, g, d, t, o⟩ := sub_dict (Heap.dictOf_iff.mpr ⟨_, hO, hd⟩) hv k hs hg
end
theorem str_is {prog : Program} {w : World} {k : Str} {v : Value} (h : (PySem.strKind prog w).is k v = true) : ∃ t, v = .str k t := by
  cases v <;> simp [PySem.strKind, Value.isStrOf] at h; exact ⟨_, by rw [h]⟩
theorem tv_strs {h : Heap} : ∀ {vs : List Value} {ss : List Str}, StrsAre vs ss → TvL h (ss.map .str) vs
  | _, _, .nil => by simp [TvL]
  | _, _, .cons x t r => tvl_cons (tv_str _ _) (tv_strs r)
/-- what the law's own dict holds of a box -/
noncomputable def ownT (b : PB) : Told := .tup [.int b.val, .lst (b.lets.map fun x => .bytes x.oct)]
theorem tvb_any {h h' : Heap} : ∀ {l : List PL} {ys : List Value}, TvL h (l.map fun x => Told.bytes x.oct) ys → TvL h' (l.map fun x => Told.bytes x.oct) ys
  | [], _, x => by simpa [TvL] using x
  | y :: l, _, x => by
    rw [List.map_cons, TvL] at x ⊢
    obtain ⟨v, vs, rfl, x1, x2⟩ := x
    exact ⟨v, vs, rfl, by simpa [Tv] using x1, tvb_any x2⟩
theorem own_tv {h : Heap} {b : PB} {v : Value} (x : Tv h (ownT b) v) : ∃ T u l ys, v = .ref T ∧ IsTup h T #[.int b.val u, .ref l] ∧ h.IsList l (ys : List Value).toArray ∧ TvL h (b.lets.map fun x => .bytes x.oct) ys := by
  simp only [ownT, Tv, TvL] at x
  obtain ⟨T, vs, rfl, hT, v1, vs1, rfl, ⟨u, rfl⟩, v2, vs2, rfl, ⟨l, ys, rfl, hl, hy⟩, rfl⟩ := x
  exact ⟨T, u, l, ys, rfl, hT, hl, hy⟩
/-- the law's own dict tells of the store's boxes -/
noncomputable def OwnOk (h : Heap) (kvs : List (Str × Value)) (bs : List PB) : Prop :=
  (kvs.map (·.1)).Perm (bs.map (·.name)) ∧ ∀ kv ∈ kvs, ∃ b ∈ bs, b.name = kv.1 ∧ Tv h (ownT b) kv.2
section
variable {M : Model} {A : Around} {E : Value → Shared → Prop} {s : Shared} {h₀ : Heap} {L t : Addr} {m : Str → Option Value} {x y : Value} {value slice : Expr} {u : Tok} {Q : Value → Shared → Prop} {prog : Program} {w : World}
theorem item_base0 (h : Q x s) (F : Fr h₀ L s.heap m := by assumption) (ht : IsTup h₀ t #[x, y] := by assumption) (hs : subscripted slice false (.ref t) (.int 0 u) = operate [.ref t, .int 0 u] (getItem (.ref t) (.int 0 u)) := by with_unfolding_all rfl) : wpAny (model prog w) A (subscriptTail value slice (.ref t) (.int 0 u)) Q E s :=
  item_pair0 (by obtain ⟨ob, e, r⟩ := ht; exact ⟨ob, F.keep _ _ e, r⟩) h hs
theorem item_base1 (h : Q y s) (F : Fr h₀ L s.heap m := by assumption) (ht : IsTup h₀ t #[x, y] := by assumption) (hs : subscripted slice false (.ref t) (.int 1 u) = operate [.ref t, .int 1 u] (getItem (.ref t) (.int 1 u)) := by with_unfolding_all rfl) : wpAny (model prog w) A (subscriptTail value slice (.ref t) (.int 1 u)) Q E s :=
  item_pair1 (by obtain ⟨ob, e, r⟩ := ht; exact ⟨ob, F.keep _ _ e, r⟩) h hs
end
end
local macro_rules | `(tactic| walk_at "subscriptTail") => `(tactic| k_dflt (refine' sub_kvs ?_; k_whole; intro _))
local macro_rules | `(tactic| walk_at "subscriptTail") => `(tactic| first
  | ((with_reducible refine' atSub 0 ?_); refine' item_base0 ?_; k_whole)
  | ((with_reducible refine' atSub 1 ?_); refine' item_base1 ?_; k_whole))
section
theorem deep_strs (ss : List Str) : deepL (ss.map Told.str) = 0 := by
  induction ss with
  | nil => rfl
  | cons x r ih => rw [List.map_cons, deepL, ih]; rfl
theorem deep_bytes (ss : List PL) : deepL (ss.map fun x => Told.bytes x.oct) = 0 := by
  induction ss with
  | nil => rfl
  | cons x r ih => rw [List.map_cons, deepL, ih]; rfl
section
variable {prog : Program} {w : World} {A : Around} {E : Value → Shared → Prop} {s : Shared} {h₀ : Heap} {L D1 D2 : Addr} {news : Led} {vs1 vs2 : List Value} {ss1 ss2 k1 k2 : List Str} {e1 e2 : Nat} {Q : Value → Shared → Prop}
theorem ne_sorted (N : News h₀ L s.heap news) (m1 : (D1, seqObj "list" vs1.toArray e1) ∈ news) (m2 : (D2, seqObj "list" vs2.toArray e2) ∈ news) (S1 : StrsAre vs1 ss1) (S2 : StrsAre vs2 ss2) (p1 : ss1.Perm k1) (p2 : ss2.Perm k2) (pk : k2.Perm k1) (o1 : sortedS ss1 = true) (o2 : sortedS ss2 = true)
    (hu : A.units + 1 < cLine) (h : Q (.bool false) s) : wpAny (model prog w) A (compareOp .NotEq (.ref D1) (.ref D2)) Q E s := by
  have e : ss2 = ss1 := sorted_uniq (p2.trans (pk.trans p1.symm)) o2 o1
  subst e
  refine ne_lst (l := ss2.map Told.str) ?_ ?_ (by rw [deep_strs]; exact hu) h
  · simp only [Tv]
    exact ⟨D1, vs1, rfl, ⟨_, (N _ m1).1, rfl, _, rfl⟩, tv_strs S1⟩
  · simp only [Tv]
    exact ⟨D2, vs2, rfl, ⟨_, (N _ m2).1, rfl, _, rfl⟩, tv_strs S2⟩
end
local macro_rules | `(tactic| walk_at "compareOp NotEq ref ref") => `(tactic| (refine' Held.of ?_))
local macro_rules | `(tactic| walk_at "units") => `(tactic| (have := Rm.units (by assumption); dsimp only [Ar, Around.deeper] at this ⊢; omega))
section
variable {dp un : Nat} {fr : Option (List Env)} {gd : Option (List Code)} {h : Heap} {g : Array GenState} {d : Drawn} {t : Nat} {o : OsState} {Q E : Value → Shared → Prop}
set_option maxHeartbeats 1000000 in
theorem law_is_told_c (W : Wd) {R : StR} {dO : Addr} {oO : Obj} {kvs : List (Str × Value)} (S : Sub W.H0 h) (r : Rm 7 (Ar dp fr gd un)) (hR : StOk W R) (hA : At h (led R)) (hO : h.get? dO = some oO) (hd : oO.IsDictOf (PySem.strKind prg W.w) kvs) (lo : (dO == sysModules) = false) (h60 : kvs.length < 60)
    (own : OwnOk h kvs (pbs R)) (nms : ∀ n ∈ namesOf R, normalN n = n)
    (k : ∀ h' t', Sub h h' → Q (.bool true) ⟨h', g, d, t', o⟩) :
    wpAny (model prg W.w) (Ar dp fr gd un) (call (.ref 415) [.ref R.st, .ref dO]) Q E ⟨h, g, d, t, o⟩ := by
  obtain ⟨mS, ho, hw, m1, m2, u3, m3⟩ := hR.m
  obtain ⟨a1, a2, a3, a4⟩ := at_st hA
  have hke : (kvs.map (·.1)).Perm (namesOf R) := by
    have := own.1
    rwa [List.map_map] at this
  refine' callDef W [("store", .ref R.st), ("own", .ref dO)] S r ?_
  intro L h₁ F N t₁
  refine wp_absQ fun Q1 hQ1 E1 => ?_
  have X := W.X' S
  have T := W.T' S
  k_steps
  all_goals (try (with_reducible refine hQ1 _ _ ?_))
  refine Held.off ?_
  rename News _ _ _ _ => N2
  rename_i h2 _ q1 vs1 ss1 e1 _ _ hS1 hp1 hso1 _ _ D2 h3 _ vs2 ss2 e2 F3 hS2 hp2 hso2
  refine ne_sorted (vs1 := vs1) (e1 := e1) (vs2 := vs2) (e2 := e2) N2 (.tail _ (.head _)) (.head _) hS1 hS2 hp1 hp2 hke hso1 hso2 (by walk_at "units") ?_
  clear hS2 hp2 hso2 hS1 hp1 hso1
  k_steps
  all_goals (try (with_reducible refine hQ1 _ _ ?_))
  rename Fr _ _ _ _ => F4
  have hnd : (kvs.map (·.1)).Nodup := hke.nodup_iff.mpr hR.names
  refine' iter_dict lo ?oa hd ?ob ?_
  case oa => exact F4.keep _ _ hO
  case ob => rfl
  intro I h5 ep hI1 hI2 hs5 hfp hW hst
  have hI0 := noneSub F4.keep hI2
  have hIL : I ≠ L := fun z => offL F4 hI2 (List.mem_singleton.mpr z.symm)
  refine loop_inM ["name", "found"] (frSub hs5 F4) (KTurns.ofWalks hW fun i v s Q E st q => letGo_keyiter st.1 q) (offL F4 hI2) hst (fun i m' h' => Sub h h') (Sub.trans F4.keep hs5) ?_ ?_ ?_
  · rintro i m' h₁' h' q1 hk
    exact fun b ob q => hk b ob (ltNe (Nat.lt_of_lt_of_le (Heap.lt_size q) F4.above)) (fun z => by rw [List.mem_singleton.mp z, hI0] at q; cases q) (q1 b ob q)
  · rintro i v m' h6 t6 hi ⟨x, vx, hx, hxk⟩ hst6 q1 hm' hn6
    refine turn_abs fun Q2 hQ2 E2 => ?_
    obtain ⟨ux, rfl⟩ := str_is hxk
    obtain ⟨b0, hb0, hbn0, htv⟩ := own.2 _ (List.mem_of_getElem? hx)
    dsimp only at hbn0 htv
    obtain ⟨T9, u9, l9, ys9, rfl, hT9, hl9, hy9⟩ := own_tv htv
    have hval : valueAt kvs x = some (.ref T9) := valueAt_of_get hnd hx
    have hxm : x ∈ namesOf R := hke.mem_iff.mp (List.mem_map.mpr ⟨_, List.mem_of_getElem? hx, rfl⟩)
    have hnx := nms x hxm
    have hxm' : normalN x ∈ namesOf R := hnx.symm ▸ hxm
    obtain ⟨b1, hb1, rfl⟩ := List.mem_map.mp hb0
    have hxl : x.length ≤ 100000 := by rw [← hbn0]; exact (hR.boxes b1 hb1).short
    obtain ⟨⟨oI, hoI, hoI2⟩, hat⟩ := hst6
    have F13 := frOff2 (a := "name") (b := "found") F4 hn6 hm' q1 F4.above
    have N13 : News h L h6 [(I, oI)] := (allOne (⟨hoI, hIL, hI0⟩))
    clear F F4 N
    k_steps
    all_goals (try (with_reducible refine hQ1 _ _ ?_))
    rename BoxR => b
    rename b ∈ R.boxes => hb
    rename b.name = normalN x => hbn
    have hbx : b1.name = x := hbn0
    have hbe : b1 = b := by
      have e1 := boxAt_of hR hb1
      have e2 := boxAt_of hR hb
      rw [show b.name = b1.name from hbn.trans (hnx.trans hbx.symm)] at e2
      exact e1.symm.trans e2
    subst hbe
    obtain ⟨mB, ho9, hw9, ⟨ub1, mb1⟩, ⟨ub2, mb2⟩, ⟨ub3, mb3⟩, ⟨ub4, mb4⟩, ⟨ub5, mb5⟩, mb6, mb7⟩ := (hR.boxes b1 hb).m
    obtain ⟨c1, c2, c3, c4⟩ := at_box hA hb
    rw [hbx] at mb1
    k_steps
    all_goals (try (with_reducible refine hQ1 _ _ ?_))
    · exfalso
      rename (x != x) = true => hz
      simp at hz
    · exfalso
      rename b1.val ≠ _ => hz
      exact hz rfl
    rename Fr _ _ _ _ => F7
    rename News _ _ _ _ => N7
    have hlist := (hR.boxes b1 hb).l.isList (F7.keep _ _ c3)
    have hll : (b1.lets.map fun x => Value.ref x.a).length ≤ sizeLine := by have := (hR.boxes b1 hb).few; rw [List.length_map, sizeLine_eq]; omega
    rename_i h7 _ _ _ _ _ _ _ _
    refine iter_list hlist rfl ?_
    intro I2 h9 hI21 hI22 hs9 hfp9 hW9 hst9
    have hle := subLe hs9 hI21 (hfp9 I2 (.head _))
    refine comp_inE hW9 hll hst9 hfp9 (fun C D i ys h' => Sub h7 h' ∧ TvL h7 ((b1.lets.take i).map fun x => .bytes x.oct) ys) ⟨?_, ?_, ?_⟩ ?_
    · exact fun C D h' _ _ hs' => ⟨hs9.trans hs', by rw [List.take_zero]; exact tvl_nil⟩
    · exact fun C D i ys h₁' h' hC hD hJ hk => ⟨compStable hJ.1 (Nat.le_trans hle hC) (Nat.le_trans hle hD) hI22 hk, hJ.2⟩
    · rintro C D i v ys h₁' t₁' m E' hC hD hCD hi hv hys ⟨k1, k2⟩ hn hm
      refine tests0 ?_
      rw [if_pos rfl]
      obtain ⟨y, hy, hyi, rfl⟩ := map_get hv
      obtain ⟨⟨mL, hoL, hwL, -, ⟨uo, mo⟩, -⟩, -⟩ := (hR.boxes b1 hb).lets y hy
      obtain ⟨b1', b2', b3'⟩ := at_let hA hb hy
      have F9 : Fr h C h₁' m := ⟨hn, Sub.trans F7.keep k1, Nat.le_trans (Nat.le_trans F7.above (Nat.le_of_lt F7.ns.lt)) (Nat.le_trans hle hC)⟩
      have N9 : News h C h₁' [] := News.nil
      clear F7 N7
      k_steps
      all_goals (try (with_reducible refine hQ1 _ _ ?_))
      refine CompEnd.intro ⟨k1, ?_⟩ hn fun _ _ _ q => q
      rw [take_map hyi]
      exact tvl_snoc k2 (tv_bytes _ _)
    · rintro C D ys h10 t10 hC hD hl10 hys10 ⟨k1, k2⟩
      rw [List.length_map, List.take_length] at k2
      obtain ⟨oD, hoD, hoD2⟩ := hl10
      have hDL : L < D := Nat.lt_of_lt_of_le F7.ns.lt (Nat.le_trans hle hD)
      have F11 := frSub k1 F7
      have N11 : News h L h10 [(D, oD), (I, oI)] := (allCons (⟨hoD, gtNe hDL, Heap.get?_none_of_le (Nat.le_trans F7.above (Nat.le_of_lt hDL))⟩) (fun p hp => newsSub k1 N7 p hp))
      clear F7 N7
      k_steps
      all_goals (try (with_reducible refine hQ1 _ _ ?_))
      refine Held.off ?_
      have eb : (b1.lets.map fun x => Told.bytes x.oct) = (pb b1).lets.map fun x => Told.bytes x.oct := by
        show _ = (b1.lets.map pl).map _
        rw [List.map_map]; rfl
      rw [eb] at k2
      refine ne_lst (l := (pb b1).lets.map fun x => Told.bytes x.oct) ?_ ?_ (by rw [deep_bytes]; walk_at "units") ?_
      · simp only [Tv]
        exact ⟨D, ys, rfl, ⟨oD, (N11 _ (.head _)).1, hoD2⟩, tvb_any k2⟩
      · simp only [Tv]
        obtain ⟨ol9, e9, r9⟩ := hl9
        exact ⟨l9, ys9, rfl, ⟨ol9, F11.keep _ _ e9, r9⟩, tvb_any hy9⟩
      k_steps
      all_goals (try (with_reducible refine hQ1 _ _ ?_))
      refine hQ2 _ _ ?_
      refine TurnEnd.intro F11.ns ⟨fun y hy => ?_, F11.keep⟩ ⟨⟨oI, (N11 _ (.tail _ (.head _))).1, hoI2⟩, hat.at' fun ob e => ?_⟩
      · simp only [List.mem_cons, List.not_mem_nil, or_false, not_or] at hy
        simp only [if_neg hy.1, if_neg hy.2]
      · have e1 := q1 _ _ hO
        rw [e] at e1
        rw [Option.some.inj e1]
        exact F11.keep _ _ hO
  · rintro m' h6 t6 hm' q1 hn6
    have F13 := frOff2 (a := "name") (b := "found") F4 hn6 hm' q1 F4.above
    have N13 : News h L h6 [] := News.nil
    clear F F4 N
    dsimp only
    k_steps
    all_goals (try (with_reducible refine hQ1 _ _ ?_))
    dsimp only
    try (with_reducible refine hQ1 _ _ ?_)
    exact k _ _ F13.keep
end

end
section
/-! The plain law of a rename: what became of the boxes -/
noncomputable def nmP (old new n : Str) : Str := if hitP old n then goalOf old new n else n
noncomputable def mvB (old new : Str) (b : PB) : PB := { b with name := nmP old new b.name }
theorem mvB_hit {old new : Str} {b : PB} (h : hitP old b.name = true) : mvB old new b = { b with name := goalOf old new b.name } := by unfold mvB nmP; rw [if_pos h]
theorem mvB_off {old new : Str} {b : PB} (h : hitP old b.name = false) : mvB old new b = b := by unfold mvB nmP; rw [h, if_neg Bool.false_ne_true]
theorem pbAt_self {bs : List PB} (hn : (bs.map (·.name)).Nodup) {b : PB} (hb : b ∈ bs) : pbAt bs b.name = b := by
  unfold pbAt
  induction bs with
  | nil => cases hb
  | cons c l ih =>
    rw [List.map_cons, List.nodup_cons] at hn
    rcases List.mem_cons.mp hb with rfl | hb
    · simp
    · rw [List.find?_cons_of_neg (by
        have : c.name ≠ b.name := fun e => hn.1 (e ▸ List.mem_map_of_mem hb)
        simpa using this)]
      exact ih hn.2 hb
theorem moveP_perm {bs : List PB} (hn : (bs.map (·.name)).Nodup) {old new : Str} {ss : List Str} (hp : ss.Perm (bs.map (·.name))) : (moveP bs old new ss).Perm (bs.map (mvB old new)) := by
  unfold moveP hitsOf
  have h1 : (ss.filter (hitP old)).Perm ((bs.filter fun b => hitP old b.name).map (·.name)) := by
    have := hp.filter (hitP old)
    rwa [List.filter_map] at this
  have h2 : ((bs.filter fun b => hitP old b.name).map (·.name)).map (fun x => { pbAt bs x with name := goalOf old new x }) = (bs.filter fun b => hitP old b.name).map (mvB old new) := by
    rw [List.map_map]
    refine List.map_congr_left fun b hb => ?_
    obtain ⟨b1, b2⟩ := List.mem_filter.mp hb
    show { pbAt bs b.name with name := goalOf old new b.name } = _
    rw [pbAt_self hn b1, mvB_hit b2]
  have h3 : bs.filter (fun b => !hitP old b.name) = (bs.filter fun b => !hitP old b.name).map (mvB old new) := by
    conv => lhs; rw [← List.map_id (bs.filter _)]
    refine List.map_congr_left fun b hb => ?_
    have := (List.mem_filter.mp hb).2
    rw [mvB_off (by simpa using this)]; rfl
  refine (List.Perm.append (List.Perm.of_eq h3) ((h1.map _).trans (List.Perm.of_eq h2))).trans ?_
  rw [← List.map_append]
  exact (List.perm_append_comm.trans (List.filter_append_perm (fun b : PB => hitP old b.name) bs)).map _
structure Bs (bs : List PB) (B : Nat) : Prop where
  nd : (bs.map (·.name)).Nodup
  good : ∀ b ∈ bs, goodN b.name
  len : ∀ b ∈ bs, b.name.length ≤ B
  inb : ∃ b ∈ bs, b.name = "INBOX" ∧ b.val = 1 ∧ b.lets = []
theorem Bs.mono {bs : List PB} {B B' : Nat} (h : Bs bs B) (hb : B ≤ B') : Bs bs B' := ⟨h.nd, h.good, fun b hm => Nat.le_trans (h.len b hm) hb, h.inb⟩
theorem Bs.perm {bs bs' : List PB} {B : Nat} (h : Bs bs B) (p : bs'.Perm bs) : Bs bs' B :=
  ⟨(p.map _).nodup_iff.mpr h.nd, fun b hm => h.good b (p.mem_iff.mp hm), fun b hm => h.len b (p.mem_iff.mp hm), let ⟨b, hb, r⟩ := h.inb; ⟨b, p.mem_iff.mpr hb, r⟩⟩
theorem Bs.add {bs : List PB} {B : Nat} (h : Bs bs B) {n : Str} {v : Int} (hn : n ∉ bs.map (·.name)) (hg : goodN n) (hl : n.length ≤ B) : Bs (bs ++ [⟨n, v, 1, 1, []⟩]) B := by
  refine ⟨?_, fun b hb => ?_, fun b hb => ?_, let ⟨b, hb, r⟩ := h.inb; ⟨b, List.mem_append_left _ hb, r⟩⟩
  · rw [List.map_append]
    refine List.nodup_append.mpr ⟨h.nd, by simp, fun a ha b hb e => ?_⟩
    rw [List.map_cons, List.map_nil, List.mem_singleton] at hb
    exact hn (by rw [e, hb] at ha; exact ha)
  · rcases List.mem_append.mp hb with hb | hb
    · exact h.good b hb
    · rw [List.mem_singleton.mp hb]; exact hg
  · rcases List.mem_append.mp hb with hb | hb
    · exact h.len b hb
    · rw [List.mem_singleton.mp hb]; exact hl
theorem inbox_hit {old : Str} (h : hitP old "INBOX" = true) : old = "INBOX" := by
  obtain ⟨t, e, rfl | ⟨r, rfl⟩⟩ := hit_iff.mp h
  · exact (strL.mpr (by simpa using e)).symm
  · have : (47 : Nat) ∈ ("INBOX" : Str).cps.toList := by rw [e]; simp
    exact absurd this (by decide)
theorem nm_inj {ns : List Str} {old new : Str} (hfree : ∀ n ∈ ns, hitP old n = true → goalOf old new n ∉ ns) : ∀ a ∈ ns, ∀ b ∈ ns, nmP old new a = nmP old new b → a = b := by
  intro a ha b hb e
  unfold nmP at e
  cases h1 : hitP old a with
  | true =>
    cases h2 : hitP old b with
    | true => rw [h1, h2, if_pos rfl, if_pos rfl] at e; exact goal_inj h1 h2 e
    | false => rw [h1, h2, if_pos rfl, if_neg Bool.false_ne_true] at e; exact absurd hb (e ▸ hfree a ha h1)
  | false =>
    cases h2 : hitP old b with
    | true => rw [h1, h2, if_neg Bool.false_ne_true, if_pos rfl] at e; exact absurd ha (e ▸ hfree b hb h2)
    | false => rw [h1, h2, if_neg Bool.false_ne_true, if_neg Bool.false_ne_true] at e; exact e
theorem nodup_map_in {α β : Type} {f : α → β} : ∀ {l : List α}, l.Nodup → (∀ a ∈ l, ∀ b ∈ l, f a = f b → a = b) → (l.map f).Nodup
  | [], _, _ => .nil
  | x :: l, hn, hi => by
    rw [List.nodup_cons] at hn
    rw [List.map_cons, List.nodup_cons]
    refine ⟨fun hm => ?_, nodup_map_in hn.2 fun a ha b hb => hi a (.tail _ ha) b (.tail _ hb)⟩
    obtain ⟨y, hy, e⟩ := List.mem_map.mp hm
    exact hn.1 (hi y (.tail _ hy) x (.head _) e ▸ hy)
theorem mv_names (old new : Str) (bs : List PB) : (bs.map (mvB old new)).map (·.name) = (bs.map (·.name)).map (nmP old new) := by rw [List.map_map, List.map_map]; rfl
theorem Bs.move {bs : List PB} {B C : Nat} (h : Bs bs B) {old new : Str} (hg : goodN new) (hl : new.length ≤ C) (ho : old ≠ "INBOX") (hfree : ∀ n ∈ bs.map (·.name), hitP old n = true → goalOf old new n ∉ bs.map (·.name)) : Bs (bs.map (mvB old new)) (B + C) := by
  refine ⟨?_, fun b hb => ?_, fun b hb => ?_, ?_⟩
  · rw [mv_names]; exact nodup_map_in h.nd (nm_inj hfree)
  · obtain ⟨c, hc, rfl⟩ := List.mem_map.mp hb
    cases hh : hitP old c.name with
    | true => rw [mvB_hit hh]; exact good_goal (h.good c hc) hg hh
    | false => rw [mvB_off hh]; exact h.good c hc
  · obtain ⟨c, hc, rfl⟩ := List.mem_map.mp hb
    have := h.len c hc
    cases hh : hitP old c.name with
    | true => rw [mvB_hit hh]; have := goal_len (new := new) hh; show (goalOf old new c.name).length ≤ _; omega
    | false => rw [mvB_off hh]; omega
  · obtain ⟨b, hb, e1, e2⟩ := h.inb
    refine ⟨mvB old new b, List.mem_map_of_mem hb, ?_⟩
    have hh : hitP old b.name = false := by
      cases hh : hitP old b.name with
      | false => rfl
      | true => rw [e1] at hh; exact absurd (inbox_hit hh) ho
    rw [mvB_off hh]; exact ⟨e1, e2⟩
/-- the rename back -/
theorem mv_back {bs : List PB} {old new : Str} (hf : ∀ b ∈ bs, hitP new b.name = false) : (bs.map (mvB old new)).map (mvB new old) = bs := by
  rw [List.map_map]
  conv => rhs; rw [← List.map_id bs]
  refine List.map_congr_left fun b hb => ?_
  show mvB new old (mvB old new b) = b
  cases hh : hitP old b.name with
  | true =>
    rw [mvB_hit hh]
    have h2 : hitP new (goalOf old new b.name) = true := goal_hit hh
    rw [mvB_hit (b := { b with name := goalOf old new b.name }) h2]
    show { b with name := goalOf new old (goalOf old new b.name) } = b
    rw [goal_back hh]
  | false => rw [mvB_off hh, mvB_off (hf b hb)]
/-- what stands in the way of the rename back: nothing -/
theorem back_free {bs : List PB} {old new : Str} (hf : ∀ b ∈ bs, hitP new b.name = false) {n : Str} (hn : n ∈ (bs.map (mvB old new)).map (·.name)) (hh : hitP new n = true) : ∃ b ∈ bs, hitP old b.name = true ∧ n = goalOf old new b.name ∧ goalOf new old n = b.name := by
  obtain ⟨c, hc, rfl⟩ := List.mem_map.mp hn
  obtain ⟨b, hb, rfl⟩ := List.mem_map.mp hc
  cases h1 : hitP old b.name with
  | true =>
    refine ⟨b, hb, h1, by rw [mvB_hit h1], ?_⟩
    rw [mvB_hit h1]; exact goal_back h1
  | false =>
    rw [mvB_off h1, hf b hb] at hh
    exact absurd hh Bool.false_ne_true
theorem back_off {bs : List PB} {old new : Str} (hf : ∀ b ∈ bs, hitP new b.name = false) {b : PB} (hb : b ∈ bs) (hh : hitP old b.name = true) : b.name ∉ (bs.map (mvB old new)).map (·.name) := fun hm => by
  obtain ⟨c, hc, e⟩ := List.mem_map.mp hm
  obtain ⟨b', hb', rfl⟩ := List.mem_map.mp hc
  cases h1 : hitP old b'.name with
  | true =>
    rw [mvB_hit h1] at e
    have h2 : hitP new (goalOf old new b'.name) = true := goal_hit h1
    have e' : goalOf old new b'.name = b.name := e
    rw [e', hf b hb] at h2
    exact Bool.false_ne_true h2
  | false =>
    rw [mvB_off h1] at e
    rw [e, hh] at h1
    exact Bool.noConfusion h1
/-! what the store tells depends on its boxes' plain data alone -/
noncomputable def toldPL (x : PL) : Told := .tup [.int x.uid, .bytes x.oct, .tup [], .int x.ins, .int x.mod]
noncomputable def toldPB (b : PB) : Told := .tup [.str b.name, .int b.val, .int b.next, .int b.top, .int 0, .tup (b.lets.map toldPL), .tup []]
theorem told_pb (b : BoxR) : toldBox b = toldPB (pb b) := by
  unfold toldBox toldPB pb
  rw [List.map_map]; rfl
theorem names_pbs (R : StR) : (pbs R).map (·.name) = namesOf R := by rw [List.map_map]; rfl
theorem told_same {W : Wd} {R R' : StR} (hR : StOk W R) (hR' : StOk W R') (e : R'.nv = R.nv) (p : (pbs R').Perm (pbs R)) {ss ss' : List Str} (q : ss.Perm (namesOf R)) (q' : ss'.Perm (namesOf R')) (o : sortedS ss = true) (o' : sortedS ss' = true) : toldSt R' ss' = toldSt R ss := by
  have pn : (namesOf R').Perm (namesOf R) := by rw [← names_pbs, ← names_pbs]; exact p.map _
  have es : ss' = ss := sorted_uniq (q'.trans (pn.trans q.symm)) o' o
  subst es
  unfold toldSt
  rw [e]
  have : ss'.map (toldNm R') = ss'.map (toldNm R) := by
    refine List.map_congr_left fun n hn => ?_
    obtain ⟨b', hb', rfl⟩ := List.mem_map.mp (q'.mem_iff.mp hn)
    obtain ⟨b, hb, eb⟩ := List.mem_map.mp (p.mem_iff.mp (List.mem_map_of_mem (f := pb) hb'))
    rw [toldNm_of hR' hb', told_pb, ← eb]
    have en : b'.name = b.name := by have := congrArg PB.name eb; exact this.symm
    rw [en, toldNm_of hR hb, told_pb]
  rw [this]
theorem ps_mem {old new : Str} {ss ns : List Str} (hp : ss.Perm ns) {p : Str × Str} : p ∈ psOf old new ss ↔ ∃ n ∈ ns, hitP old n = true ∧ p = (n, goalOf old new n) := by
  unfold psOf
  rw [List.mem_map]
  constructor
  · rintro ⟨n, hn, rfl⟩
    obtain ⟨h1, h2⟩ := List.mem_filter.mp hn
    exact ⟨n, hp.mem_iff.mp h1, h2, rfl⟩
  · rintro ⟨n, hn, hh, rfl⟩
    exact ⟨n, List.mem_filter.mpr ⟨hp.mem_iff.mpr hn, hh⟩, rfl⟩
/-! the law's own dict -/
theorem OwnOk.keeps {h h' : Heap} {kvs : List (Str × Value)} {bs : List PB} (o : OwnOk h kvs bs) (s : Sub h h') : OwnOk h' kvs bs :=
  ⟨o.1, fun kv hm => let ⟨b, hb, e, t⟩ := o.2 kv hm; ⟨b, hb, e, t.keeps s⟩⟩
theorem OwnOk.perm {h : Heap} {kvs : List (Str × Value)} {bs bs' : List PB} (o : OwnOk h kvs bs) (p : bs.Perm bs') : OwnOk h kvs bs' :=
  ⟨o.1.trans (p.map _), fun kv hm => let ⟨b, hb, e, t⟩ := o.2 kv hm; ⟨b, p.mem_iff.mp hb, e, t⟩⟩
theorem OwnOk.add {h : Heap} {kvs : List (Str × Value)} {bs : List PB} (o : OwnOk h kvs bs) {b : PB} {v : Value} (t : Tv h (ownT b) v) : OwnOk h (kvs ++ [(b.name, v)]) (bs ++ [b]) := by
  refine ⟨?_, fun kv hm => ?_⟩
  · rw [List.map_append, List.map_append]
    exact List.Perm.append_right _ o.1
  · rcases List.mem_append.mp hm with hm | hm
    · obtain ⟨c, hc, r⟩ := o.2 kv hm
      exact ⟨c, List.mem_append_left _ hc, r⟩
    · rw [List.mem_singleton.mp hm]
      exact ⟨b, List.mem_append_right _ (.head _), rfl, t⟩
noncomputable def ownRest (kvs : List (Str × Value)) (old : Str) : List (Str × Value) := kvs.filter fun kv => !hitP old kv.1
noncomputable def ownVal (kvs : List (Str × Value)) (x : Str) : Value := (valueAt kvs x).getD .none
noncomputable def ownMove (kvs : List (Str × Value)) (old new : Str) (ss : List Str) : List (Str × Value) := ownRest kvs old ++ (hitsOf old ss).map fun x => (goalOf old new x, ownVal kvs x)
theorem ownVal_of {kvs : List (Str × Value)} (hn : (kvs.map (·.1)).Nodup) {x : Str} {v : Value} (h : (x, v) ∈ kvs) : valueAt kvs x = some v ∧ ownVal kvs x = v := by
  obtain ⟨i, hi⟩ := List.getElem?_of_mem h
  have := valueAt_of_get hn hi
  exact ⟨this, by unfold ownVal; rw [this]; rfl⟩
theorem OwnOk.move {h : Heap} {kvs : List (Str × Value)} {bs : List PB} (o : OwnOk h kvs bs) (hn : (bs.map (·.name)).Nodup) {old new : Str} {ss : List Str} (hp : ss.Perm (bs.map (·.name))) : OwnOk h (ownMove kvs old new ss) (bs.map (mvB old new)) := by
  have hnk : (kvs.map (·.1)).Nodup := o.1.nodup_iff.mpr hn
  refine ⟨?_, fun kv hm => ?_⟩
  · unfold ownMove ownRest hitsOf
    rw [mv_names, List.map_append, List.map_map]
    have h1 : (kvs.filter fun kv => !hitP old kv.1).map (·.1) = (kvs.map (·.1)).filter fun n => !hitP old n := by rw [List.filter_map]; rfl
    have h2 : (((kvs.map (·.1)).filter fun n => !hitP old n)).Perm (((bs.map (·.name)).filter fun n => !hitP old n).map (nmP old new)) := by
      refine (o.1.filter _).trans (List.Perm.of_eq ?_)
      conv => lhs; rw [← List.map_id (List.filter _ _)]
      refine List.map_congr_left fun n hn => ?_
      have := (List.mem_filter.mp hn).2
      unfold nmP
      rw [if_neg (by simpa using this)]; rfl
    have h3 : ((ss.filter (hitP old)).map ((·.1) ∘ fun x => (goalOf old new x, ownVal kvs x))).Perm (((bs.map (·.name)).filter (hitP old)).map (nmP old new)) := by
      refine ((hp.filter _).map _).trans (List.Perm.of_eq ?_)
      refine List.map_congr_left fun n hn => ?_
      have := (List.mem_filter.mp hn).2
      unfold nmP
      rw [if_pos this]; rfl
    rw [h1]
    refine (List.Perm.append h2 h3).trans ?_
    rw [← List.map_append]
    exact (List.perm_append_comm.trans (List.filter_append_perm (hitP old) _)).map _
  · rcases List.mem_append.mp hm with hm | hm
    · obtain ⟨h1, h2⟩ := List.mem_filter.mp hm
      obtain ⟨b, hb, e, t⟩ := o.2 kv h1
      have hh : hitP old b.name = false := by rw [e]; simpa using h2
      exact ⟨b, List.mem_map.mpr ⟨b, hb, mvB_off hh⟩, e, t⟩
    · obtain ⟨x, hx, rfl⟩ := List.mem_map.mp hm
      obtain ⟨h1, h2⟩ := List.mem_filter.mp hx
      have hxk : x ∈ kvs.map (·.1) := o.1.mem_iff.mpr (hp.mem_iff.mp h1)
      obtain ⟨⟨k, v⟩, hkv, rfl⟩ := List.mem_map.mp hxk
      obtain ⟨b, hb, e, t⟩ := o.2 _ hkv
      dsimp only at e t h2 ⊢
      refine ⟨mvB old new b, List.mem_map_of_mem hb, ?_, ?_⟩
      · rw [mvB_hit (by rw [e]; exact h2), e]
      · rw [(ownVal_of hnk hkv).2, mvB_hit (by rw [e]; exact h2)]; exact t
/-! the twelve names -/
theorem nm_all : lawNamesL.all (fun x => lawNormal x == normalN x && (lawIsName (normalN x) == checkOk (normalN x)) && decide ((normalN x).length ≤ 9) && (normalN (normalN x) == normalN x) && decide (x.length ≤ 9)) = true := by decide +kernel
theorem nm_first : (lawNamesL.take 8).all (fun x => checkOk (normalN x) && (normalN x != "INBOX")) = true := by decide +kernel
theorem good_inbox : goodN "INBOX" := by unfold goodN; decide +kernel
theorem nm_law {x : Str} (h : x ∈ lawNamesL) : lawNormal x = normalN x ∧ lawIsName (normalN x) = checkOk (normalN x) ∧ (normalN x).length ≤ 9 ∧ normalN (normalN x) = normalN x ∧ x.length ≤ 9 := by
  have := List.all_eq_true.mp nm_all x h
  simp only [Bool.and_eq_true, beq_iff_eq, decide_eq_true_eq] at this
  exact ⟨this.1.1.1.1, this.1.1.1.2, this.1.1.2, this.1.2, this.2⟩
theorem nm_good {x : Str} (h : x ∈ lawNamesL.take 8) : goodN (normalN x) ∧ normalN x ≠ "INBOX" := by
  have := List.all_eq_true.mp nm_first x h
  simp only [Bool.and_eq_true, bne_iff_ne] at this
  exact ⟨⟨this.1, (nm_law (List.mem_of_mem_take h)).2.2.2.1⟩, this.2⟩

end
section
/-! What stands while the law runs -/
noncomputable def full (h hh : Heap) (sk : List Addr) : Led := (List.range hh.objs.size).filterMap fun a => if a ∈ sk ∨ (h.get? a).isSome = true then none else (hh.get? a).map fun o => (a, o)
theorem full_mem {h hh : Heap} {sk : List Addr} {p : Addr × Obj} : p ∈ full h hh sk ↔ hh.get? p.1 = some p.2 ∧ p.1 ∉ sk ∧ h.get? p.1 = none := by
  unfold full
  rw [List.mem_filterMap]
  constructor
  · rintro ⟨a, -, e⟩
    split at e
    · cases e
    · rename_i hn
      rw [not_or] at hn
      obtain ⟨o, ho, rfl⟩ := Option.map_eq_some_iff.mp e
      exact ⟨ho, hn.1, by simpa using hn.2⟩
  · rintro ⟨h1, h2, h3⟩
    refine ⟨p.1, List.mem_range.mpr (Heap.lt_size h1), ?_⟩
    rw [if_neg (by rw [not_or]; exact ⟨h2, by rw [h3]; simp⟩), h1]; rfl
theorem full_news {h hh : Heap} {L : Addr} {sk : List Addr} (hL : L ∈ sk) : News h L hh (full h hh sk) := fun p hp => by
  obtain ⟨h1, h2, h3⟩ := full_mem.mp hp
  exact ⟨h1, fun z => h2 (z ▸ hL), h3⟩
theorem full_keep {h hh h' : Heap} {sk : List Addr} (s : Sub h hh) (s' : Sub h h') (k : ∀ p ∈ full h hh sk, h'.get? p.1 = some p.2) : ∀ b ob, b ∉ sk → hh.get? b = some ob → h'.get? b = some ob := fun b ob hb q => by
  cases e : h.get? b with
  | none => exact k (b, ob) (full_mem.mpr ⟨q, hb, e⟩)
  | some o' =>
    have := s _ _ e
    rw [q] at this
    rw [Option.some.inj this]
    exact s' _ _ e
noncomputable def zone (L bx dO : Addr) (X : List Addr) (R : StR) : List Addr := L :: bx :: dO :: (X ++ adrs (led R))
/-- the box of draws -/
inductive Drw (ce bx : Addr) (pl : Int) (hh : Heap) : Prop
  | mk (gr st : Int) (ug us up : Tok) (n : Nat) (e : hh.get? bx = some (drO ce gr st pl ug us up n)) (a : 0 ≤ gr) (b : 0 ≤ st) (c : st < 2147483647)
theorem Drw.at {ce bx : Addr} {pl : Int} {hh h' : Heap} (x : Drw ce bx pl hh) (k : ∀ ob, hh.get? bx = some ob → h'.get? bx = some ob) : Drw ce bx pl h' := by
  obtain ⟨gr, st, ug, us, up, n, e, a, b, c⟩ := x
  exact ⟨gr, st, ug, us, up, n, k _ e, a, b, c⟩
theorem Drw.some {ce bx : Addr} {pl : Int} {hh : Heap} (x : Drw ce bx pl hh) : ∃ ob, hh.get? bx = some ob := by
  obtain ⟨gr, st, ug, us, up, n, e, a, b, c⟩ := x
  exact ⟨_, e⟩
theorem isL {h h' : Heap} {a : Addr} {v : Array Value} (x : h.IsList a v) (s : Sub h h') : h'.IsList a v := let ⟨ob, q, r⟩ := x; ⟨ob, s _ _ q, r⟩
structure LS (W : Wd) (h : Heap) (L bx ce dO nm c1 : Addr) (X : List Addr) (vs nvs : List Value) (R : StR) (kvs : List (Str × Value)) (bs : List PB) (pl : Int) (hh : Heap) : Prop where
  keep : Sub h hh
  ok : StOk W R
  at_ : At hh (led R)
  new : ∀ a ∈ L :: bx :: dO :: c1 :: X, h.get? a = none
  newR : ∀ a ∈ adrs (led R), h.get? a = none
  offR : ∀ a ∈ L :: bx :: dO :: c1 :: X, a ∉ adrs (led R)
  apart : [L, bx, dO, c1].Nodup
  offX : ∀ a ∈ X, a ≠ bx ∧ a ≠ dO ∧ a ≠ c1
  box : Drw ce bx pl hh
  cells : (hideAll hh (zone L bx dO X R)).IsList ce vs.toArray
  nms : (hideAll hh (zone L bx dO X R)).IsList nm nvs.toArray
  dict : ∃ oO, hh.get? dO = some oO ∧ oO.IsDictOf (PySem.strKind prg W.w) kvs
  own : OwnOk (hideAll hh (zone L bx dO X R)) kvs bs
  lo : (dO == sysModules) = false
  cell : ∃ o, hh.get? c1 = some o ∧ o.data = .cell (some (.ref dO))
section
variable {W : Wd} {h hh h' : Heap} {L bx ce dO nm c1 : Addr} {X : List Addr} {vs nvs : List Value} {R R' : StR} {kvs kvs' : List (Str × Value)} {bs bs2 : List PB} {pl : Int}
theorem in_zone {b : Addr} : b ∈ zone L bx dO X R ↔ b = L ∨ b = bx ∨ b = dO ∨ b ∈ X ∨ b ∈ adrs (led R) := by
  simp only [zone, List.mem_cons, List.mem_append]
theorem im_sub (hk : ∀ b ob, b ∉ zone L bx dO X R → hh.get? b = some ob → h'.get? b = some ob) (new : ∀ a ∈ adrs (led R'), a ∈ adrs (led R) ∨ hh.get? a = none) :
    Sub (hideAll hh (zone L bx dO X R)) (hideAll h' (zone L bx dO X R')) := fun b ob q => by
  have hb : b ∉ zone L bx dO X R := fun hm => by rw [hideAll_none _ hm] at q; cases q
  refine hideAll_get _ (hk b ob hb (of_hideAll _ q)) fun hm => ?_
  rw [in_zone] at hb hm
  rcases hm with z | z | z | z | z
  · exact hb (.inl z)
  · exact hb (.inr (.inl z))
  · exact hb (.inr (.inr (.inl z)))
  · exact hb (.inr (.inr (.inr (.inl z))))
  · rcases new b z with z | z
    · exact hb (.inr (.inr (.inr (.inr z))))
    · rw [of_hideAll _ q] at z; cases z
theorem LS.inIm (S : LS W h L bx ce dO nm c1 X vs nvs R kvs bs pl hh) : Sub h (hideAll hh (zone L bx dO X R)) := fun b ob q => hideAll_get _ (S.keep _ _ q) fun hm => by
  rw [in_zone] at hm
  rcases hm with z | z | z | z | z
  · rw [z, S.new _ (.head _)] at q; cases q
  · rw [z, S.new _ (.tail _ (.head _))] at q; cases q
  · rw [z, S.new _ (.tail _ (.tail _ (.head _)))] at q; cases q
  · rw [S.new _ (.tail _ (.tail _ (.tail _ (.tail _ z))))] at q; cases q
  · rw [S.newR _ z] at q; cases q
theorem LS.ne (S : LS W h L bx ce dO nm c1 X vs nvs R kvs bs pl hh) : (L ≠ bx ∧ L ≠ dO ∧ L ≠ c1) ∧ (bx ≠ dO ∧ bx ≠ c1) ∧ dO ≠ c1 := by
  have := S.apart
  simp only [List.nodup_cons, List.mem_cons, List.not_mem_nil, or_false, not_or] at this
  exact ⟨this.1, this.2.1, this.2.2.1⟩
theorem LS.bx0 (S : LS W h L bx ce dO nm c1 X vs nvs R kvs bs pl hh) : bx ∉ X ∧ dO ∉ X ∧ c1 ∉ X := ⟨fun z => (S.offX _ z).1 rfl, fun z => (S.offX _ z).2.1 rfl, fun z => (S.offX _ z).2.2 rfl⟩
/-- a step that turns the store -/
theorem LS.step (S : LS W h L bx ce dO nm c1 X vs nvs R kvs bs pl hh) (hk : ∀ b ob, b ∉ adrs (led R) → hh.get? b = some ob → h'.get? b = some ob)
    (at' : At h' (led R')) (ok' : StOk W R') (new : ∀ a ∈ adrs (led R'), a ∈ adrs (led R) ∨ hh.get? a = none) (hX : ∀ a ∈ L :: X, ∃ ob, hh.get? a = some ob) : LS W h L bx ce dO nm c1 X vs nvs R' kvs bs pl h' := by
  have im := im_sub (L := L) (bx := bx) (dO := dO) (X := X) (R' := R') (fun b ob hb q => hk b ob (fun z => hb (in_zone.mpr (.inr (.inr (.inr (.inr z)))))) q) new
  obtain ⟨oB, e⟩ := S.box.some
  obtain ⟨oO, eO, dO'⟩ := S.dict
  obtain ⟨o1, e1, d1⟩ := S.cell
  have nn : ∀ a ob, hh.get? a = some ob → a ∉ adrs (led R) → a ∉ adrs (led R') := fun a ob q hn hm => by
    rcases new a hm with z | z
    · exact hn z
    · rw [q] at z; cases z
  refine ⟨fun b ob q => hk b ob (fun z => by rw [S.newR b z] at q; cases q) (S.keep _ _ q), ok', at', S.new, fun a ha => ?_, fun a ha => ?_, S.apart, S.offX, S.box.at fun _ => hk _ _ (S.offR _ (.tail _ (.head _))), ?_, ?_, ⟨oO, hk _ _ (S.offR _ (.tail _ (.tail _ (.head _)))) eO, dO'⟩, S.own.keeps im, S.lo, ⟨o1, hk _ _ (S.offR _ (.tail _ (.tail _ (.tail _ (.head _))))) e1, d1⟩⟩
  · rcases new a ha with z | z
    · exact S.newR a z
    · exact noneSub S.keep z
  · have ho := S.offR a ha
    rcases List.mem_cons.mp ha with rfl | ha
    · obtain ⟨ob, q⟩ := hX _ (.head _); exact nn _ _ q ho
    rcases List.mem_cons.mp ha with rfl | ha
    · exact nn _ _ e ho
    rcases List.mem_cons.mp ha with rfl | ha
    · exact nn _ _ eO ho
    rcases List.mem_cons.mp ha with rfl | ha
    · exact nn _ _ e1 ho
    · obtain ⟨ob, q⟩ := hX _ (.tail _ ha); exact nn _ _ q ho
  · exact isL S.cells im
  · exact isL S.nms im
/-- the law's own dict is turned, or nothing -/
theorem LS.dic (S : LS W h L bx ce dO nm c1 X vs nvs R kvs bs pl hh) (hk : ∀ b ob, b ≠ L → b ∉ X → b ≠ dO → hh.get? b = some ob → h'.get? b = some ob) (hd : ∃ oO, h'.get? dO = some oO ∧ oO.IsDictOf (PySem.strKind prg W.w) kvs')
    (own : Sub (hideAll hh (zone L bx dO X R)) (hideAll h' (zone L bx dO X R)) → OwnOk (hideAll h' (zone L bx dO X R)) kvs' bs2) : LS W h L bx ce dO nm c1 X vs nvs R kvs' bs2 pl h' := by
  have im := im_sub (L := L) (bx := bx) (dO := dO) (X := X) (R := R) (R' := R) (hh := hh) (h' := h') (fun b ob hb q => hk b ob (fun z => hb (in_zone.mpr (.inl z))) (fun z => hb (in_zone.mpr (.inr (.inr (.inr (.inl z)))))) (fun z => hb (in_zone.mpr (.inr (.inr (.inl z))))) q) fun a ha => .inl ha
  obtain ⟨o1, e1, d1⟩ := S.cell
  obtain ⟨⟨n1, n2, n3⟩, ⟨n5, n6⟩, n8⟩ := S.ne
  obtain ⟨x1, x2, x3⟩ := S.bx0
  have nX : ∀ b, b ∈ X → h.get? b = none := fun b hb => S.new _ (.tail _ (.tail _ (.tail _ (.tail _ hb))))
  have rX : ∀ b ∈ X, b ∉ adrs (led R) := fun b hb => S.offR _ (.tail _ (.tail _ (.tail _ (.tail _ hb))))
  refine ⟨fun b ob q => hk b ob (fun z => by rw [z, S.new _ (.head _)] at q; cases q) (fun z => by rw [nX b z] at q; cases q) (fun z => by rw [z, S.new _ (.tail _ (.tail _ (.head _)))] at q; cases q) (S.keep _ _ q), S.ok, fun p hp => hk _ _ (fun z => S.offR L (.head _) (z ▸ List.mem_map_of_mem hp)) (fun z => rX _ z (List.mem_map_of_mem hp)) (fun z => S.offR dO (.tail _ (.tail _ (.head _))) (z ▸ List.mem_map_of_mem hp)) (S.at_ p hp), S.new, S.newR, S.offR, S.apart, S.offX, S.box.at fun _ => hk _ _ n1.symm x1 n5, ?_, ?_, hd, own im, S.lo, ⟨o1, hk _ _ n3.symm x3 n8.symm e1, d1⟩⟩
  · exact isL S.cells im
  · exact isL S.nms im
/-- a step of the law's own names -/
theorem LS.same (S : LS W h L bx ce dO nm c1 X vs nvs R kvs bs pl hh) (hk : ∀ b ob, b ≠ L → b ∉ X → hh.get? b = some ob → h'.get? b = some ob) : LS W h L bx ce dO nm c1 X vs nvs R kvs bs pl h' :=
  S.dic (fun b ob h1 h2 _ q => hk b ob h1 h2 q) (let ⟨oO, eO, dd⟩ := S.dict; ⟨oO, hk _ _ S.ne.1.2.1.symm S.bx0.2.1 eO, dd⟩) fun im => S.own.keeps im
/-- a draw -/
theorem LS.draw {pl' : Int} (S : LS W h L bx ce dO nm c1 X vs nvs R kvs bs pl hh) (hk : ∀ b ob, b ≠ bx → hh.get? b = some ob → h'.get? b = some ob) (hb : Drw ce bx pl' h') : LS W h L bx ce dO nm c1 X vs nvs R kvs bs pl' h' := by
  have im := im_sub (L := L) (bx := bx) (dO := dO) (X := X) (R := R) (R' := R) (hh := hh) (h' := h') (fun b ob hb q => hk b ob (fun z => hb (in_zone.mpr (.inr (.inl z)))) q) fun a ha => .inl ha
  obtain ⟨oO, eO, dO'⟩ := S.dict
  obtain ⟨o1, e1, d1⟩ := S.cell
  obtain ⟨⟨n1, n2, n3⟩, ⟨n5, n6⟩, n8⟩ := S.ne
  refine ⟨fun b ob q => hk b ob (fun z => by rw [z, S.new _ (.tail _ (.head _))] at q; cases q) (S.keep _ _ q), S.ok, fun p hp => hk _ _ (fun z => S.offR bx (.tail _ (.head _)) (z ▸ List.mem_map_of_mem hp)) (S.at_ p hp), S.new, S.newR, S.offR, S.apart, S.offX, hb, ?_, ?_, ⟨oO, hk _ _ n5.symm eO, dO'⟩, S.own.keeps im, S.lo, ⟨o1, hk _ _ n6.symm e1, d1⟩⟩
  · exact isL S.cells im
  · exact isL S.nms im
theorem LS.reb (S : LS W h L bx ce dO nm c1 X vs nvs R kvs bs pl hh) (p : bs.Perm bs2) : LS W h L bx ce dO nm c1 X vs nvs R kvs bs2 pl hh :=
  ⟨S.keep, S.ok, S.at_, S.new, S.newR, S.offR, S.apart, S.offX, S.box, S.cells, S.nms, S.dict, S.own.perm p, S.lo, S.cell⟩
theorem memMid {a b c d x I : Addr} {X : List Addr} (h : x ∈ a :: b :: c :: d :: I :: X) : x ∈ a :: b :: c :: d :: X ∨ x = I := by
  simp only [List.mem_cons] at h ⊢
  rcases h with z | z | z | z | z | z
  · exact .inl (.inl z)
  · exact .inl (.inr (.inl z))
  · exact .inl (.inr (.inr (.inl z)))
  · exact .inl (.inr (.inr (.inr (.inl z))))
  · exact .inr z
  · exact .inl (.inr (.inr (.inr (.inr z))))
/-- one more place that may turn: a new one -/
theorem LS.more (S : LS W h L bx ce dO nm c1 X vs nvs R kvs bs pl hh) {I : Addr} (hI : hh.get? I = none) (s : Sub hh h') : LS W h L bx ce dO nm c1 (I :: X) vs nvs R kvs bs pl h' := by
  obtain ⟨oB, e⟩ := S.box.some
  obtain ⟨oO, eO, dO'⟩ := S.dict
  obtain ⟨o1, e1, d1⟩ := S.cell
  have im : Sub (hideAll hh (zone L bx dO X R)) (hideAll h' (zone L bx dO (I :: X) R)) := fun b ob q => by
    have hb : b ∉ zone L bx dO X R := fun hm => by rw [hideAll_none _ hm] at q; cases q
    refine hideAll_get _ (s _ _ (of_hideAll _ q)) fun hm => ?_
    rw [in_zone] at hb hm
    rcases hm with z | z | z | z | z
    · exact hb (.inl z)
    · exact hb (.inr (.inl z))
    · exact hb (.inr (.inr (.inl z)))
    · rcases List.mem_cons.mp z with z | z
      · rw [z] at q; rw [of_hideAll _ q] at hI; cases hI
      · exact hb (.inr (.inr (.inr (.inl z))))
    · exact hb (.inr (.inr (.inr (.inr z))))
  refine ⟨S.keep.trans s, S.ok, S.at_.keeps s, fun a ha => ?_, S.newR, fun a ha => ?_, S.apart, fun a ha => ?_, S.box.at fun _ => s _ _, ?_, ?_, ⟨oO, s _ _ eO, dO'⟩, S.own.keeps im, S.lo, ⟨o1, s _ _ e1, d1⟩⟩
  · rcases memMid ha with z | z
    · exact S.new _ z
    · rw [z]; exact noneSub S.keep hI
  · rcases memMid ha with z | z
    · exact S.offR _ z
    · intro hm
      obtain ⟨p, hp, q⟩ := List.mem_map.mp hm
      have := S.at_ p hp
      rw [Eq.trans q z, hI] at this; cases this
  · rcases List.mem_cons.mp ha with z | z
    · rw [z]
      exact ⟨fun q => by (rw [q, e] at hI; cases hI), fun q => by (rw [q, eO] at hI; cases hI), fun q => by (rw [q, e1] at hI; cases hI)⟩
    · exact S.offX a z
  · exact isL S.cells im
  · exact isL S.nms im
theorem LS.less (S : LS W h L bx ce dO nm c1 X vs nvs R kvs bs pl hh) {Y : List Addr} (hY : ∀ a ∈ Y, a ∈ X) : LS W h L bx ce dO nm c1 Y vs nvs R kvs bs pl hh := by
  have im : Sub (hideAll hh (zone L bx dO X R)) (hideAll hh (zone L bx dO Y R)) := fun b ob q => by
    have hb : b ∉ zone L bx dO X R := fun hm => by rw [hideAll_none _ hm] at q; cases q
    refine hideAll_get _ (of_hideAll _ q) fun hm => hb ?_
    rw [in_zone] at hm ⊢
    rcases hm with z | z | z | z | z
    · exact .inl z
    · exact .inr (.inl z)
    · exact .inr (.inr (.inl z))
    · exact .inr (.inr (.inr (.inl (hY _ z))))
    · exact .inr (.inr (.inr (.inr z)))
  have sub : ∀ a ∈ L :: bx :: dO :: c1 :: Y, a ∈ L :: bx :: dO :: c1 :: X := fun a ha => by
    simp only [List.mem_cons] at ha ⊢
    rcases ha with z | z | z | z | z
    · exact .inl z
    · exact .inr (.inl z)
    · exact .inr (.inr (.inl z))
    · exact .inr (.inr (.inr (.inl z)))
    · exact .inr (.inr (.inr (.inr (hY _ z))))
  refine ⟨S.keep, S.ok, S.at_, fun a ha => S.new a (sub a ha), S.newR, fun a ha => S.offR a (sub a ha), S.apart, fun a ha => S.offX a (hY a ha), S.box, ?_, ?_, S.dict, S.own.keeps im, S.lo, S.cell⟩
  · exact isL S.cells im
  · exact isL S.nms im
end
/-- a frame over a call that keeps all but what is hidden -/
theorem frHid {h hh h' : Heap} {L : Addr} {m : Str → Option Value} {fp : List Addr} (F : Fr h L hh m) (s : ∀ b ob, b ∉ fp → hh.get? b = some ob → h'.get? b = some ob) (hL : L ∉ fp) (h0 : ∀ a ∈ fp, h.get? a = none) : Fr h L h' m :=
  ⟨F.ns.at' fun ob q => s _ _ hL q, fun b ob q => s _ _ (fun z => by rw [h0 b z] at q; cases q) (F.keep _ _ q), F.above⟩
theorem hid_keep {hh h' : Heap} {fp : List Addr} (s : Sub (hideAll hh fp) h') : ∀ b ob, b ∉ fp → hh.get? b = some ob → h'.get? b = some ob := fun b ob hb q => s _ _ (hideAll_get _ q hb)
section
variable {dp un : Nat} {fr : Option (List Env)} {gd : Option (List Code)} {h hh : Heap} {g : Array GenState} {d : Drawn} {t : Nat} {o : OsState} {Q E : Value → Shared → Prop}
variable {W : Wd} {L bx ce dO nm c1 : Addr} {X : List Addr} {vs nvs : List Value} {ns : List Int} {R : StR} {kvs : List (Str × Value)} {bs : List PB} {pl : Int} {m : Str → Option Value}
theorem draw_w (T : LS W h L bx ce dO nm c1 X vs nvs R kvs bs pl hh) (F : Fr h L hh m) (S : Sub W.H0 h) (r : Rm 1 (Ar dp fr gd un)) (hns : IntsAre vs ns) (hvl : vs.length ≤ 63) {lim : Int} {ul : Tok} (hpl : 0 ≤ pl) (hpl2 : pl ≤ 1000) (hl1 : 1 ≤ lim) (hl2 : lim ≤ 12)
    (k : ∀ h' t' i u, LS W h L bx ce dO nm c1 X vs nvs R kvs bs (pl + 1) h' → Fr h L h' m → (∀ b ob, b ≠ bx → hh.get? b = some ob → h'.get? b = some ob) → 0 ≤ i → i < lim → Q (.int i u) ⟨h', g, d, t', o⟩) :
    wpAny (model prg W.w) (Ar dp fr gd un) (call (.ref 377) [.ref bx, .int lim ul]) Q E ⟨hh, g, d, t, o⟩ := by
  obtain ⟨gr, st, ug, us, up, n, e, g1, g2, g3⟩ := T.box
  have hb0 := T.new bx (.tail _ (.head _))
  have S1 : Sub h (hideAll hh [bx]) := fun b ob q => hideAll_get _ (T.keep _ _ q) fun z => by rw [List.mem_singleton.mp z, hb0] at q; cases q
  refine law_draw_c W (S.trans S1) r e ?_ hns hvl g1 g2 g3 hpl hpl2 hl1 hl2 ?_
  · obtain ⟨ob, q, z⟩ := T.cells
    refine ⟨ob, hideAll_get _ (of_hideAll _ q) fun z => ?_, z⟩
    rw [hideAll_none _ (show ce ∈ zone L bx dO X R by rw [List.mem_singleton.mp z]; exact .tail _ (.head _))] at q
    cases q
  · intro h' t' i gr' st' ug' us' up' n' u s' e' q1 q2 q3 q4 q5
    have hk : ∀ b ob, b ≠ bx → hh.get? b = some ob → h'.get? b = some ob := fun b ob hb q => hid_keep s' b ob (by simpa using hb) q
    exact k h' t' i u (T.draw hk ⟨gr', st', ug', us', up', n', e', q1, q2, q3⟩) (frHid F (hid_keep s') (by simpa using T.ne.1.1) (allOne (hb0))) hk q4 q5
theorem LS.hidR (T : LS W h L bx ce dO nm c1 X vs nvs R kvs bs pl hh) : Sub h (hideAll hh (adrs (led R))) := fun b ob q => hideAll_get _ (T.keep _ _ q) fun z => by rw [T.newR b z] at q; cases q
theorem LS.turn {R' : StR} {h' : Heap} (T : LS W h L bx ce dO nm c1 X vs nvs R kvs bs pl hh) (F : Fr h L hh m) (hX : ∀ a ∈ X, ∃ ob, hh.get? a = some ob) (tn : Turn hh h' R R') (ok' : StOk W R') : LS W h L bx ce dO nm c1 X vs nvs R' kvs bs pl h' ∧ Fr h L h' m := by
  refine ⟨T.step (hid_keep tn.keep) tn.at_ ok' (fun a ha => ?_) (fun a ha => ?_), frHid F (hid_keep tn.keep) (T.offR L (.head _)) T.newR⟩
  · obtain ⟨p, hp, rfl⟩ := List.mem_map.mp ha
    exact tn.new p hp
  · rcases List.mem_cons.mp ha with rfl | ha
    · obtain ⟨oL, _, _, z, _⟩ := F.ns; exact ⟨oL, z⟩
    · exact hX a ha
end
section
variable {W : Wd} {h hh h' : Heap} {L bx ce dO nm c1 : Addr} {X : List Addr} {vs nvs : List Value} {R R' : StR} {kvs kvs' : List (Str × Value)} {bs bs2 : List PB} {pl : Int} {m : Str → Option Value}
theorem LS.after (T : LS W h L bx ce dO nm c1 X vs nvs R kvs bs pl hh) (F' : Fr h L h' m) (hK : ∀ p ∈ full h hh [L], h'.get? p.1 = some p.2) : (∀ b ob, b ≠ L → hh.get? b = some ob → h'.get? b = some ob) ∧ LS W h L bx ce dO nm c1 X vs nvs R kvs bs pl h' := by
  have k := full_keep T.keep F'.keep hK
  exact ⟨fun b ob h1 q => k b ob (by simpa using h1) q, T.same fun b ob h1 _ q => k b ob (by simpa using h1) q⟩
theorem LS.mkN (T : LS W h L bx ce dO nm c1 X vs nvs R kvs bs pl hh) {l : Led} {sk : List Addr} (hL : L ∈ sk) (hl : ∀ p ∈ l, hh.get? p.1 = some p.2 ∧ p.1 ≠ L ∧ h.get? p.1 = none) : News h L hh (l ++ full h hh sk) := fun p hp => by
  rcases List.mem_append.mp hp with hp | hp
  · exact hl p hp
  · exact full_news hL p hp
/-- some places, written out -/
inductive Ent (prog : Program) (w : World) (h hh : Heap) (L dO c1 : Addr) (R : StR) (kvs : List (Str × Value)) : Prop
  | mk (o1 oO : Obj) (E1 : hh.get? c1 = some o1 ∧ c1 ≠ L ∧ h.get? c1 = none) (D1 : o1.data = .cell (some (.ref dO))) (E2 : hh.get? dO = some oO ∧ dO ≠ L ∧ h.get? dO = none) (D2 : oO.IsDictOf (PySem.strKind prog w) kvs)
    (E3 : hh.get? R.st = some (instObj 293 R.dS) ∧ R.st ≠ L ∧ h.get? R.st = none) (E4 : hh.get? R.dS = some R.od ∧ R.dS ≠ L ∧ h.get? R.dS = none)
theorem LS.ent (T : LS W h L bx ce dO nm c1 X vs nvs R kvs bs pl hh) : Ent prg W.w h hh L dO c1 R kvs := by
  obtain ⟨oO, eO, dO'⟩ := T.dict
  obtain ⟨o1, e1, d1⟩ := T.cell
  obtain ⟨s1, s2, s3, s4⟩ := at_st T.at_
  have z1 : R.st ∈ adrs (led R) := List.mem_map.mpr ⟨(R.st, instObj 293 R.dS), mem_st (.head _), rfl⟩
  have z2 : R.dS ∈ adrs (led R) := List.mem_map.mpr ⟨(R.dS, R.od), mem_st (.tail _ (.head _)), rfl⟩
  exact ⟨o1, oO, ⟨e1, T.ne.1.2.2.symm, T.new _ (.tail _ (.tail _ (.tail _ (.head _))))⟩, d1, ⟨eO, T.ne.1.2.1.symm, T.new _ (.tail _ (.tail _ (.head _)))⟩, dO', ⟨s1, fun z => T.offR L (.head _) (z ▸ z1), T.newR _ z1⟩, ⟨s2, fun z => T.offR L (.head _) (z ▸ z2), T.newR _ z2⟩⟩
end
/-- the first loop's store -/
structure PhA (st : Addr) (i k : Nat) (R : StR) : Prop where
  st : R.st = st
  bs : Bs (pbs R) 9
  each : ∀ b ∈ pbs R, b.lets.length ≤ i ∧ b.next ≤ (i : Int) + 1 ∧ b.top ≤ (i : Int) + 1
  len : (pbs R).length ≤ k + 1
  two : 2 ≤ R.nv
  nv : R.nv ≤ 2 + (k : Int)
theorem PhA.mono {st : Addr} {i k i' k' : Nat} {R : StR} (p : PhA st i k R) (hi : i ≤ i') (hk : k ≤ k') : PhA st i' k' R := by
  obtain ⟨p1, p2, p3, p4, p5, p6⟩ := p
  refine ⟨p1, p2, fun b hb => ?_, by omega, p5, by omega⟩
  obtain ⟨q1, q2, q3⟩ := p3 b hb
  exact ⟨by omega, by omega, by omega⟩
theorem PhA.create {st : Addr} {i k : Nat} {R R' : StR} {n : Str} (p : PhA st i k R) (hs : R'.st = R.st) (hn : R'.nv = R.nv + 1) (e : pbs R' = pbs R ++ [⟨n, R.nv, 1, 1, []⟩]) (hg : goodN n) (hl : n.length ≤ 9) (hnew : n ∉ namesOf R) : PhA st i (k + 1) R' := by
  obtain ⟨p1, p2, p3, p4, p5, p6⟩ := p
  refine ⟨hs.trans p1, e ▸ p2.add (by rw [names_pbs]; exact hnew) hg hl, fun b hb => ?_, by rw [e, List.length_append, List.length_singleton]; omega, by omega, by omega⟩
  rw [e] at hb
  rcases List.mem_append.mp hb with hb | hb
  · exact p3 b hb
  · rw [List.mem_singleton.mp hb]
    exact ⟨Nat.zero_le _, by show (1 : Int) ≤ _; omega, by show (1 : Int) ≤ _; omega⟩
noncomputable def appB (n : Str) (oct : Array UInt8) (ins : Int) (b : PB) : PB := if b.name = n then addPL oct ins b else b
theorem appB_name (n : Str) (oct : Array UInt8) (ins : Int) (b : PB) : (appB n oct ins b).name = b.name := by unfold appB; split <;> rfl
theorem PhA.app {st : Addr} {i k : Nat} {R R' : StR} {n : Str} {oct : Array UInt8} {ins : Int} (p : PhA st i k R) (hs : R'.st = R.st) (hn : R'.nv = R.nv) (e : pbs R' = (pbs R).map (appB n oct ins)) (hi : n ≠ "INBOX") : PhA st (i + 1) k R' := by
  obtain ⟨p1, p2, p3, p4, p5, p6⟩ := p
  have en : (pbs R').map (·.name) = (pbs R).map (·.name) := by rw [e, List.map_map]; exact List.map_congr_left fun b _ => appB_name n oct ins b
  refine ⟨hs.trans p1, ⟨en ▸ p2.nd, fun b hb => ?_, fun b hb => ?_, ?_⟩, fun b hb => ?_, by rw [e, List.length_map]; exact p4, by omega, by omega⟩
  · rw [e] at hb
    obtain ⟨c, hc, rfl⟩ := List.mem_map.mp hb
    rw [appB_name]; exact p2.good c hc
  · rw [e] at hb
    obtain ⟨c, hc, rfl⟩ := List.mem_map.mp hb
    rw [appB_name]; exact p2.len c hc
  · obtain ⟨b, hb, e1, e2⟩ := p2.inb
    refine ⟨b, ?_, e1, e2⟩
    rw [e]
    refine List.mem_map.mpr ⟨b, hb, ?_⟩
    unfold appB
    rw [if_neg (by rw [e1]; exact fun z => hi z.symm)]
  · rw [e] at hb
    obtain ⟨c, hc, rfl⟩ := List.mem_map.mp hb
    obtain ⟨q1, q2, q3⟩ := p3 c hc
    unfold appB
    split
    · refine ⟨?_, ?_, ?_⟩
      · show (c.lets ++ _).length ≤ _
        rw [List.length_append, List.length_singleton]; omega
      · show c.next + 1 ≤ _; omega
      · show c.top + 1 ≤ _; omega
    · exact ⟨by omega, by omega, by omega⟩
/-- the law's own dict takes a letter -/
theorem OwnOk.app {h : Heap} {kvs : List (Str × Value)} {bs : List PB} (o : OwnOk h kvs bs) {n : Str} {oct : Array UInt8} {ins : Int} {v : Value} (t : ∀ b ∈ bs, b.name = n → Tv h (ownT (addPL oct ins b)) v) : OwnOk h (kvs.map fun kv => if kv.1 = n then (n, v) else kv) (bs.map (appB n oct ins)) := by
  refine ⟨?_, fun kv hm => ?_⟩
  · rw [List.map_map, List.map_map]
    have e1 : kvs.map ((·.1) ∘ fun kv => if kv.1 = n then (n, v) else kv) = kvs.map (·.1) := List.map_congr_left fun kv _ => by
      show (if kv.1 = n then (n, v) else kv).1 = kv.1
      split
      · rename_i hz; exact hz.symm
      · rfl
    have e2 : bs.map ((·.name) ∘ appB n oct ins) = bs.map (·.name) := List.map_congr_left fun b _ => appB_name n oct ins b
    rw [e1, e2]; exact o.1
  · obtain ⟨c, hc, rfl⟩ := List.mem_map.mp hm
    obtain ⟨b, hb, e, tv⟩ := o.2 c hc
    refine ⟨appB n oct ins b, List.mem_map_of_mem hb, ?_, ?_⟩
    · rw [appB_name]
      split
      · rename_i hz; rw [e, hz]
      · exact e
    · by_cases hz : c.1 = n
      · rw [if_pos hz]
        unfold appB
        rw [if_pos (e.trans hz)]
        exact t b hb (e.trans hz)
      · rw [if_neg hz]
        unfold appB
        rw [if_neg (fun q => hz (e.symm.trans q))]
        exact tv
theorem LS.off_zone {W : Wd} {h hh : Heap} {L bx ce dO nm c1 : Addr} {X : List Addr} {vs nvs : List Value} {R : StR} {kvs : List (Str × Value)} {bs : List PB} {pl : Int} (T : LS W h L bx ce dO nm c1 X vs nvs R kvs bs pl hh) (hX : ∀ a ∈ X, ∃ ob, hh.get? a = some ob) {sk : List Addr} {q : Addr} (hL : L ∈ sk) (lt : ∀ p ∈ full h hh sk, p.1 < q) (hq : ∀ a ∈ sk, q ≠ a) : q ∉ zone L bx dO X R := fun hm => by
  have key : ∀ a ob, hh.get? a = some ob → h.get? a = none → q ≠ a := fun a ob e1 e2 z => by
    by_cases hs : a ∈ sk
    · exact hq a hs z
    · exact gtNe (lt (a, ob) (full_mem.mpr ⟨e1, hs, e2⟩)) z
  rw [in_zone] at hm
  obtain ⟨oB, e⟩ := T.box.some
  obtain ⟨oO, eO, -⟩ := T.dict
  rcases hm with z | z | z | z | z
  · exact hq L hL z
  · exact key bx _ e (T.new _ (.tail _ (.head _))) z
  · exact key dO _ eO (T.new _ (.tail _ (.tail _ (.head _)))) z
  · obtain ⟨ob, e1⟩ := hX q z
    exact key q ob e1 (T.new _ (.tail _ (.tail _ (.tail _ (.tail _ z))))) rfl
  · obtain ⟨p, hp, e1⟩ := List.mem_map.mp z
    have e1 : p.1 = q := e1
    exact key q p.2 (e1 ▸ T.at_ p hp) (T.newR q z) rfl
theorem stored_old {kvs : List (Str × Value)} {k : Str} {v : Value} (h : k ∈ kvs.map (·.1)) : stored kvs k v = kvs.map fun kv => if kv.1 = k then (k, v) else kv := by
  unfold stored
  obtain ⟨x, hx, e⟩ := List.mem_map.mp h
  rw [if_pos (List.any_eq_true.mpr ⟨x, hx, by simpa using e⟩)]
  refine List.map_congr_left fun kv _ => ?_
  split
  · rename_i hz; rw [hz]
  · rfl
theorem pb_uniq {bs : List PB} (hn : (bs.map (·.name)).Nodup) {a b : PB} (ha : a ∈ bs) (hb : b ∈ bs) (e : a.name = b.name) : a = b := by rw [← pbAt_self hn ha, ← pbAt_self hn hb, e]

end
section
/-- the second loop's store -/
structure PhB (st : Addr) (i : Nat) (R : StR) : Prop where
  st : R.st = st
  bs : Bs (pbs R) (20 + 20 * i)
  len : (pbs R).length ≤ 8 + i
  two : 2 ≤ R.nv
  nv : R.nv ≤ 9 + (i : Int)
theorem PhA.toB {st : Addr} {k : Nat} {R : StR} (p : PhA st k k R) (hk : k ≤ 6) : PhB st 0 R := by
  obtain ⟨p1, p2, -, p4, p5, p6⟩ := p
  exact ⟨p1, p2.mono (by omega), by omega, p5, by omega⟩
theorem PhB.next {st : Addr} {i : Nat} {R : StR} (p : PhB st i R) : PhB st (i + 1) R := by
  obtain ⟨p1, p2, p3, p4, p5⟩ := p
  exact ⟨p1, p2.mono (by omega), by omega, p4, by push_cast; omega⟩
theorem lets_nil {R : StR} {B : Nat} (b : Bs (pbs R) B) : ∀ c ∈ R.boxes, c.name = "INBOX" → c.lets = [] := fun c hc e => by
  obtain ⟨x, hx, e1, -, e3⟩ := b.inb
  have := pb_uniq b.nd (List.mem_map_of_mem (f := pb) hc) hx (e.trans e1.symm)
  rw [← this] at e3
  exact List.map_eq_nil_iff.mp e3
theorem heard_hyps {R : StR} {B : Nat} (b : Bs (pbs R) B) (hB : B ≤ 200) {o' n' : Str} (hn : normalN n' = n') (hl : n'.length ≤ 200) :
    (checkOk n' = true → ∀ n ∈ namesOf R, hitP o' n = true → checkOk (normalN (goalOf o' n' n)) = true ∧ normalN (goalOf o' n' n) = goalOf o' n' n) ∧
    (∀ a ∈ namesOf R, ∀ b ∈ namesOf R, hitP o' a = true → hitP o' b = true → goalOf o' n' a = goalOf o' n' b → a = b) ∧
    (∀ n ∈ namesOf R, hitP o' n = true → (goalOf o' n' n).length ≤ 100000) := by
  refine ⟨fun hc n hm hh => ?_, fun a _ b _ h1 h2 e => goal_inj h1 h2 e, fun n hm hh => ?_⟩
  · rw [← names_pbs] at hm
    obtain ⟨c, hcm, rfl⟩ := List.mem_map.mp hm
    obtain ⟨g1, g2⟩ := good_goal (b.good c hcm) ⟨hc, hn⟩ hh
    exact ⟨by rw [g2]; exact g1, g2⟩
  · rw [← names_pbs] at hm
    obtain ⟨c, hcm, rfl⟩ := List.mem_map.mp hm
    have h1 := goal_len (new := n') hh
    have h2 := b.len c hcm
    omega
/-- tuples stay -/
noncomputable def TK (h h' : Heap) : Prop := ∀ b ob, h.get? b = some ob → isTup ob → h'.get? b = some ob
theorem TK.trans {a b c : Heap} (x : TK a b) (y : TK b c) : TK a c := fun p ob e t => y p ob (x p ob e t) t
theorem tk_sub {h h' : Heap} (s : Sub h h') : TK h h' := fun b ob e _ => s b ob e
theorem tk_but {h₀ h h' : Heap} {L : Addr} {m : Str → Option Value} (F : Fr h₀ L h m) (k : ∀ b ob, b ≠ L → h.get? b = some ob → h'.get? b = some ob) : TK h h' := fun b ob e t => by
  refine k b ob (fun z => ?_) e
  obtain ⟨oL, _, _, q, qd, _⟩ := F.ns
  rw [z, q] at e
  obtain ⟨_, _, _, td⟩ := t
  rw [← Option.some.inj e, qd] at td
  cases td
theorem told_noLst (R : StR) (ss : List Str) : (toldSt R ss).noLst = true := by simp [toldSt, Told.noLst, noLstL, noLst_nms]
theorem Tv.tk {h h' : Heap} {t : Told} {v : Value} (x : Tv h t v) (hn : t.noLst = true) (k : TK h h') : Tv h' t v := Tv.tups k hn x
section
variable {dp un : Nat} {env : Env} {gd : Option (List Code)} {h hh : Heap} {g : Array GenState} {d : Drawn} {t : Nat} {o : OsState} {Q E : Value → Shared → Prop}
variable {W : Wd} {L bx ce dO nm c1 : Addr} {X : List Addr} {vs nvs : List Value} {ns : List Int} {R : StR} {kvs : List (Str × Value)} {bs : List PB} {pl : Int} {m : Str → Option Value}
theorem heard_w (T : LS W h L bx ce dO nm c1 X vs nvs R kvs bs pl hh) (F : Fr h L hh m) (S : Sub W.H0 h) (r : Rm 12 (Ar dp (some [env]) gd un)) (hf : env.frame = some L) (hk : env.scope.kind ≠ .module) (hX : ∀ a ∈ X, ∃ ob, hh.get? a = some ob)
    {B : Nat} (b : Bs (pbs R) B) (hB : B ≤ 200) (few : (pbs R).length < 60) (nv : R.nv < 1000000) {old new o' n' : Str} {u0 u1 : Tok} (ho : normalN old = o') (hn : normalN new = n') (hn2 : normalN n' = n') (hol : old.length ≤ 50000) (hnl : new.length ≤ 50000) (hl : n'.length ≤ 200)
    (kI : o' = "INBOX" → checkOk n' = true → n' ∉ namesOf R → ∀ h' t' R' v, LS W h L bx ce dO nm c1 X vs nvs R' kvs bs pl h' → Fr h L h' m → (∀ b ob, b ∉ adrs (led R) → hh.get? b = some ob → h'.get? b = some ob) → R'.st = R.st → R'.nv = R.nv + 1 → pbs R' = pbs R ++ [⟨n', R.nv, 1, 1, []⟩] → Tv h' (.lst [.tup [.str "INBOX", .str n']]) v → Q v ⟨h', g, d, t', o⟩)
    (kM : o' ∈ namesOf R → o' ≠ "INBOX" → checkOk n' = true → n' ∉ namesOf R → ∀ ss, ss.Perm (namesOf R) → sortedS ss = true → (∀ p ∈ psOf o' n' ss, p.2 ∉ namesOf R) →
      ∀ h' t' R' v, LS W h L bx ce dO nm c1 X vs nvs R' kvs bs pl h' → Fr h L h' m → (∀ b ob, b ∉ adrs (led R) → hh.get? b = some ob → h'.get? b = some ob) → TK hh h' → R'.st = R.st → R'.nv = R.nv → (pbs R').Perm ((pbs R).map (mvB o' n')) → Tv h' (.lst ((psOf o' n' ss).map toldP)) v → Q v ⟨h', g, d, t', o⟩)
    (kE : (o' ∉ namesOf R ∨ checkOk n' = false ∨ n' ∈ namesOf R ∨ (o' ≠ "INBOX" ∧ ∃ ss, ss.Perm (namesOf R) ∧ sortedS ss = true ∧ ∃ p ∈ psOf o' n' ss, p.2 ∈ namesOf R)) →
      ∀ h' t', (∀ b ob, b ≠ L → hh.get? b = some ob → h'.get? b = some ob) → Fr h L h' m → Q .none ⟨h', g, d, t', o⟩) :
    wpAny (model prg W.w) (Ar dp (some [env]) gd un) (call (.ref 410) [.ref R.st, .str old u0, .str new u1]) Q E ⟨hh, g, d, t, o⟩ := by
  subst ho
  subst hn
  obtain ⟨y1, y2, y3⟩ := heard_hyps b hB (o' := normalN old) hn2 hl
  have hL0 := T.new L (.head _)
  have hbl : R.boxes.length = (pbs R).length := (List.length_map ..).symm
  have ks : Sub W.H0 (hideAll hh [L]) := fun b ob q => hideAll_get _ (T.keep _ _ (S _ _ q)) fun z => by
    rw [List.mem_singleton.mp z] at q
    have := S _ _ q
    rw [hL0] at this; cases this
  refine law_heard_c W (S.trans T.hidR) r T.ok T.at_ hol hnl (below_own F rfl hf hk) (by rw [hideAll_size]; exact Nat.le_refl _) ks y1 y2 y3 (lets_nil b) nv (by omega) ?_ ?_ ?_
  · intro q1 q2 q3 h' t' R' v tn ok' e1 e2 tv
    obtain ⟨T', F'⟩ := T.turn F hX tn ok'
    exact kI q1 q2 q3 h' t' R' v T' F' (hid_keep tn.keep) tn.st e1 e2 tv
  · intro q1 q2 q3 q4 ss q5 q6 q7 h' t' R' v tn ok' e1 e2 tk tv
    obtain ⟨T', F'⟩ := T.turn F hX tn ok'
    refine kM q1 q2 q3 q4 ss q5 q6 q7 h' t' R' v T' F' (hid_keep tn.keep) tk tn.st e1 ?_ tv
    rw [e2]
    exact moveP_perm b.nd (by rw [names_pbs]; exact q5)
  · intro q h' t' s' u'
    have k' : ∀ b ob, b ≠ L → hh.get? b = some ob → h'.get? b = some ob := fun b ob hb q => s' b ob (hideAll_get _ q (by simpa using hb))
    exact kE q h' t' k' ⟨u'.ns F.ns, fun b ob e => k' b ob (fun z => by rw [z, hL0] at e; cases e) (F.keep _ _ e), F.above⟩
end
/-- the law's word for a refusal, and the store's: one -/
noncomputable def Refused (keys : List Str) (o' n' : Str) (ok : Bool) : Prop := o' ∉ keys ∨ n' ∈ keys ∨ ok = false ∨ (o' ≠ "INBOX" ∧ ∃ ss : List Str, ss.Perm keys ∧ sortedS ss = true ∧ ∃ p ∈ psOf o' n' ss, p.2 ∈ keys)
theorem refused_I {keys ns : List Str} {o' n' : Str} {ok : Bool} (hk : ∀ n, n ∈ keys ↔ n ∈ ns) (hi : ("INBOX" : Str) ∈ ns) (h : Refused keys o' n' ok) (q1 : o' = "INBOX") (q2 : ok = true) (q3 : n' ∉ ns) : False := by
  rcases h with h | h | h | h
  · exact h ((hk _).mpr (q1 ▸ hi))
  · exact q3 ((hk _).mp h)
  · rw [q2] at h; cases h
  · exact h.1 q1
theorem refused_M {keys ns : List Str} {o' n' : Str} {ok : Bool} (hk : ∀ n, n ∈ keys ↔ n ∈ ns) (h : Refused keys o' n' ok) (q1 : o' ∈ ns) (q2 : ok = true) (q3 : n' ∉ ns) {ss : List Str} (p : ss.Perm ns) (q4 : ∀ p ∈ psOf o' n' ss, p.2 ∉ ns) : False := by
  rcases h with h | h | h | ⟨-, ss', p', -, x, hx, hx2⟩
  · exact h ((hk _).mpr q1)
  · exact q3 ((hk _).mp h)
  · rw [q2] at h; cases h
  · obtain ⟨n, hn, hh, rfl⟩ := (ps_mem p').mp hx
    exact q4 _ ((ps_mem p).mpr ⟨n, (hk _).mp hn, hh, rfl⟩) ((hk _).mp hx2)
theorem refused_none {ns : List Str} {o' n' : Str} (h : o' ∉ ns ∨ checkOk n' = false ∨ n' ∈ ns ∨ (o' ≠ "INBOX" ∧ ∃ ss : List Str, ss.Perm ns ∧ sortedS ss = true ∧ ∃ p ∈ psOf o' n' ss, p.2 ∈ ns)) (q1 : o' ∈ ns) (q2 : checkOk n' = true) (q3 : n' ∉ ns) (q4 : o' ≠ "INBOX" → ∀ n ∈ ns, hitP o' n = true → goalOf o' n' n ∉ ns) : False := by
  rcases h with h | h | h | ⟨hi, ss', p', -, x, hx, hx2⟩
  · exact h q1
  · rw [q2] at h; cases h
  · exact q3 h
  · obtain ⟨n, hn, hh, rfl⟩ := (ps_mem p').mp hx
    exact q4 hi n hn hh hx2
theorem tv_hid {h hh : Heap} {L : Addr} {m : Str → Option Value} {t : Told} {v : Value} (F : Fr h L hh m) (hn : t.noLst = true) (x : Tv hh t v) : Tv (hideAll hh [L]) t v := x.tk hn fun b ob e ht => hideAll_get _ e fun z => by
  obtain ⟨oL, _, _, q, qd, _⟩ := F.ns
  rw [List.mem_singleton.mp z, q] at e
  obtain ⟨_, _, _, td⟩ := ht
  rw [← Option.some.inj e, qd] at td
  cases td
theorem hid_sub {hh h' : Heap} {L : Addr} (k : ∀ b ob, b ≠ L → hh.get? b = some ob → h'.get? b = some ob) : Sub (hideAll hh [L]) h' := fun b ob q => k b ob (fun z => by rw [hideAll_none _ (by rw [z]; exact .head _)] at q; cases q) (of_hideAll _ q)
theorem tv_hid2 {h hh : Heap} {L c : Addr} {m : Str → Option Value} {t : Told} {v : Value} {oc : Obj} {vc : Option Value} (F : Fr h L hh m) (e : hh.get? c = some oc) (hd : oc.data = .cell vc) (hn : t.noLst = true) (x : Tv hh t v) : Tv (hideAll hh [L, c]) t v := x.tk hn fun b ob e1 ht => hideAll_get _ e1 fun z => by
  obtain ⟨_, _, _, td⟩ := ht
  rcases List.mem_cons.mp z with z | z
  · obtain ⟨oL, _, _, q, qd, _⟩ := F.ns
    rw [z, q] at e1
    rw [← Option.some.inj e1, qd] at td
    cases td
  · rw [List.mem_singleton.mp z, e] at e1
    rw [← Option.some.inj e1, hd] at td
    cases td
theorem hid_sub2 {hh h' : Heap} {l : List Addr} (k : ∀ b ob, b ∉ l → hh.get? b = some ob → h'.get? b = some ob) : Sub (hideAll hh l) h' := fun b ob q => k b ob (fun z => by rw [hideAll_none _ z] at q; cases q) (of_hideAll _ q)
theorem deepL_le {n : Nat} : ∀ {l : List Told}, (∀ t ∈ l, t.deep ≤ n) → deepL l ≤ n
  | [], _ => Nat.zero_le _
  | t :: l, h => by
    rw [deepL]
    exact Nat.max_le.mpr ⟨h t (.head _), deepL_le fun x hx => h x (.tail _ hx)⟩
theorem deep_let (x : LetR) : (toldLet x).deep ≤ 2 := by simp [toldLet, Told.deep, deepL]
theorem dc {t : Told} {ts : List Told} {n : Nat} (a : t.deep ≤ n) (b : deepL ts ≤ n) : deepL (t :: ts) ≤ n := by
  rw [deepL]; exact Nat.max_le.mpr ⟨a, b⟩
theorem dt {l : List Told} {n : Nat} (h : deepL l ≤ n) : (Told.tup l).deep ≤ n + 1 := by
  rw [Told.deep]; exact Nat.succ_le_succ h
theorem deep_box (b : BoxR) : (toldBox b).deep ≤ 4 := by
  have h : deepL (b.lets.map toldLet) ≤ 2 := deepL_le fun t ht => by obtain ⟨x, _, rfl⟩ := List.mem_map.mp ht; exact deep_let x
  exact dt (dc (Nat.zero_le _) (dc (Nat.zero_le _) (dc (Nat.zero_le _) (dc (Nat.zero_le _) (dc (Nat.zero_le _) (dc (dt h) (dc (dt (Nat.zero_le _)) (Nat.zero_le _))))))))
theorem deep_nm (R : StR) (n : Str) : (toldNm R n).deep ≤ 4 := by
  unfold toldNm
  cases R.boxes.find? fun b => b.name = n with
  | none => simp [Told.deep, deepL]
  | some b => exact deep_box b
theorem deep_st (R : StR) (ss : List Str) : deepL [.int R.nv, .tup [], .tup (ss.map (toldNm R))] ≤ 5 := by
  have h : deepL (ss.map (toldNm R)) ≤ 4 := deepL_le fun t ht => by obtain ⟨x, _, rfl⟩ := List.mem_map.mp ht; exact deep_nm R x
  exact dc (Nat.zero_le _) (dc (dt (Nat.zero_le _)) (dc (dt h) (Nat.zero_le _)))
section
variable {prog : Program} {w : World} {A : Around} {E : Value → Shared → Prop} {s : Shared} {value slice : Expr} {t : Addr} {x : Value} {l : List Value} {u : Tok} {Q : Value → Shared → Prop}
theorem item_tupX0 (ht : IsTup s.heap t (x :: l).toArray := by with_reducible assumption) (h : Q x s) (hs : subscripted slice false (.ref t) (.int 0 u) = operate [.ref t, .int 0 u] (getItem (.ref t) (.int 0 u)) := by with_unfolding_all rfl) : wpAny (model prog w) A (subscriptTail value slice (.ref t) (.int 0 u)) Q E s :=
  item_tupleT (l := x :: l) (j := 0) ht (by decide) (by decide) (by
    unfold seqIndex?
    simp) rfl h hs
theorem item_lstX0 (ht : s.heap.IsList t (x :: l).toArray := by with_reducible assumption) (h : Q x s) (hs : subscripted slice false (.ref t) (.int 0 u) = operate [.ref t, .int 0 u] (getItem (.ref t) (.int 0 u)) := by with_unfolding_all rfl) (hg : ∀ r, letTemporaryGo value (.ref t) r = pure () := by intro _; with_unfolding_all rfl) : wpAny (model prog w) A (subscriptTail value slice (.ref t) (.int 0 u)) Q E s :=
  item_listL (l := x :: l) ht (by decide) (by decide) rfl h hs hg
end
theorem OwnOk.put {h : Heap} {kvs : List (Str × Value)} {bs : List PB} (o : OwnOk h kvs bs) {n : Str} {v : Value} (t : ∀ b ∈ bs, b.name = n → Tv h (ownT b) v) : OwnOk h (kvs.map fun kv => if kv.1 = n then (n, v) else kv) bs := by
  refine ⟨?_, fun kv hm => ?_⟩
  · rw [List.map_map]
    have e1 : kvs.map ((·.1) ∘ fun kv => if kv.1 = n then (n, v) else kv) = kvs.map (·.1) := List.map_congr_left fun kv _ => by
      show (if kv.1 = n then (n, v) else kv).1 = kv.1
      split
      · rename_i hz; exact hz.symm
      · rfl
    rw [e1]; exact o.1
  · obtain ⟨c, hc, rfl⟩ := List.mem_map.mp hm
    obtain ⟨b, hb, e, tv⟩ := o.2 c hc
    refine ⟨b, hb, ?_, ?_⟩
    · split
      · rename_i hz; rw [e, hz]
      · exact e
    · by_cases hz : c.1 = n
      · rw [if_pos hz]; exact t b hb (e.trans hz)
      · rw [if_neg hz]; exact tv
theorem seq_off {W : Wd} {h hh : Heap} {L dO a : Addr} {m : Str → Option Value} {oO ob : Obj} {kvs : List (Str × Value)} {vs : Array Value} {n : Nat} (F : Fr h L hh m) (e : hh.get? dO = some oO) (D : oO.IsDictOf (PySem.strKind prg W.w) kvs) (ea : hh.get? a = some ob) (ed : ob.data = .seq vs n) : a ∉ [L, dO] := fun hm => by
  rcases List.mem_cons.mp hm with z | hm
  · obtain ⟨oL, _, _, q, qd, _⟩ := F.ns
    rw [z, q] at ea
    rw [← Option.some.inj ea, qd] at ed
    cases ed
  · rw [List.mem_singleton.mp hm, e] at ea
    obtain ⟨es, ep, -, hd, -⟩ := D
    rw [← Option.some.inj ea, hd] at ed
    cases ed
section
variable {prog : Program} {w : World} {A : Around} {env : Env} {h : Heap} {g : Array GenState} {d : Drawn} {t : Nat} {o : OsState}
theorem comp_inG {scope : Scope} {cl : List (Str × Addr)} {x : Str} {ifs : List Expr} {elt : Expr} {I : Addr} {fp wr : List Addr} {n : Nat} {P : Nat → Value → Prop} {St : Nat → Heap → Prop} {Q : Value → Shared → Prop} (W : Walks prog w A I fp wr n P St) (hsz : n ≤ sizeLine) (hst : St 0 h) (hfp : ∀ b ∈ fp, b < h.objs.size)
    (J : Addr → Addr → Nat → List Value → Heap → Prop) (hJ : CompInvN prog w A env scope cl x ifs elt g d o fp wr n P h (fun _ => False) J)
    (hQ : ∀ C D ys h' t', h.objs.size ≤ C → h.objs.size ≤ D → h'.IsList D ys.toArray → ys.length ≤ n → J C D n ys h' → Q (.ref D) ⟨h', g, d, t', o⟩) :
    CompAt prog w A env scope cl x ifs elt Q (.ref I) ⟨h, g, d, t, o⟩ :=
  ⟨I, fp, wr, n, P, St, h, g, d, t, o, rfl, rfl, W, hsz, hst, hfp, fun _ => False, fun _ z => z.elim, fun _ _ _ _ _ _ _ z => z, J, hJ, hQ⟩
end
noncomputable def below1 (n x : Str) : Bool := Txt.slice x none (some ((n.length : Int) + 1)) == n ++ "/"
/-- is_free's row so far -/
noncomputable def FreeJ (h45 : Heap) (n : Str) (ks : List Str) (i : Nat) (ys : List Value) (h' : Heap) : Prop := Sub h45 h' ∧ (ys = [] ↔ ∀ k ∈ ks.take i, below1 n k = false)
open SeqAt in
theorem eq_free {prog : Program} {w : World} {A : Around} {E : Value → Shared → Prop} {s : Shared} {D e : Addr} {ys : List Value} {Q : Value → Shared → Prop} (hl : s.heap.IsList D ys.toArray) (he : s.heap.IsList e #[]) (hu : A.units + 1 < cLine) (h : Q (.bool (decide (ys = []))) s) :
    wpAny (model prog w) A (compareOp .Eq (.ref D) (.ref e)) Q E s := by
  cases ys with
  | nil => exact eq_lst (l := []) (by simp only [Tv]; exact ⟨D, [], rfl, hl, tvl_nil⟩) (by simp only [Tv]; exact ⟨e, [], rfl, he, tvl_nil⟩) (by simp only [deepL]; exact hu) (by simpa using h)
  | cons y ys =>
    have := RcAt.lists_lengths (A := A) hl he (by simp) (by omega)
    exact cmp_ofEq (this prog w E Q (by simpa using h))

end
section
section
variable {M : Model} {A : Around} {E : Value → Shared → Prop} {s : Shared} {env : Env}
theorem heldCall {a : Addr} {as : List Value} {Q : Value → Shared → Prop} (k : Held (wpAny M A (call (.ref a) as) Q E s)) : wpAny M A (call (.ref a) as) Q E s := k
theorem heldSub {v sl : Expr} {a : Addr} {i : Int} {u : Tok} {Q : Value → Shared → Prop} (k : Held (wpAny M A (subscriptTail v sl (.ref a) (.int i u)) Q E s)) : wpAny M A (subscriptTail v sl (.ref a) (.int i u)) Q E s := k
variable {Q : Flow → Shared → Prop}
theorem heldPut {a v : Expr} {c : Const} {x : Nat} {p p1 p2 : Pos} (k : Held (wpAny M A (exec (.Assign [.Subscript a (.Constant c x p) p1] v p2) env) Q E s)) : wpAny M A (exec (.Assign [.Subscript a (.Constant c x p) p1] v p2) env) Q E s := k
theorem heldIfS {a b : Expr} {p p1 p2 : Pos} {ops : List CmpOp} {rs : List Expr} {b1 b2 : List Stmt} (k : Held (wpAny M A (exec (.If (.Compare (.Subscript a b p) ops rs p1) b1 b2 p2) env) Q E s)) : wpAny M A (exec (.If (.Compare (.Subscript a b p) ops rs p1) b1 b2 p2) env) Q E s := k
theorem heldIfN {p p1 p2 : Pos} {ops : List CmpOp} {rs : List Expr} {b1 b2 : List Stmt} (k : Held (wpAny M A (exec (.If (.Compare (.Name (Str.ofString "name") p) ops rs p1) b1 b2 p2) env) Q E s)) : wpAny M A (exec (.If (.Compare (.Name (Str.ofString "name") p) ops rs p1) b1 b2 p2) env) Q E s := k
theorem heldAsg {n : Str} {v : Expr} {p p1 : Pos} (k : Held (wpAny M A (exec (.Assign [.Name n p] v p1) env) Q E s)) : wpAny M A (exec (.Assign [.Name n p] v p1) env) Q E s := k
theorem heldIfB {op : BoolOp} {vs : List Expr} {p p1 : Pos} {b1 b2 : List Stmt} (k : Held (wpAny M A (exec (.If (.BoolOp op vs p) b1 b2 p1) env) Q E s)) : wpAny M A (exec (.If (.BoolOp op vs p) b1 b2 p1) env) Q E s := k
end
end
local macro_rules | `(tactic| k_in) => `(tactic| exact Frag.In.keeps (by with_reducible assumption) (Fr.keep (by with_reducible assumption)))
local macro_rules | `(tactic| walk_at "o_get") => `(tactic| (refine' News.get ?oN ?oM; (case oN => assumption); (case oM => with_reducible k_mem)))
local macro_rules | `(tactic| walk_at "compareOp NotEq ref ref") => `(tactic| (refine' Held.of ?_))
local macro_rules | `(tactic| walk_at "call ref") => `(tactic| with_reducible refine' heldCall ?_)
local macro_rules | `(tactic| walk_at "subscriptTail") => `(tactic| first
  | ((with_reducible refine' atSub 0 ?_); (first | refine' item_pair0 (h := ?_) | refine' item_tupX0 (h := ?_) | refine' item_lstX0 (h := ?_)); k_whole)
  | ((with_reducible refine' atSub 1 ?_); refine' item_pair1 (h := ?_); k_whole))
local macro_rules | `(tactic| walk_at "subscriptTail") => `(tactic| ((have z5 : StopTok 5 := by assumption); clear z5; with_reducible refine' heldSub ?_))
local macro_rules | `(tactic| walk_at "eval Name") => `(tactic| ((with_reducible refine' atCompN "pairs" ?_); k_dflt (walk_at "nmCN")))
local macro_rules | `(tactic| walk_at "binaryOp Add ref ref") => `(tactic| (refine' Held.of ?_))
local macro_rules | `(tactic| walk_at "exec Assign") => `(tactic| ((rename StopTok 4 => hst; clear hst); with_reducible refine' heldPut ?_))
local macro_rules | `(tactic| walk_at "exec Assign cons Tuple") => `(tactic| ((rename StopTok 4 => hst; clear hst); with_reducible refine' heldPut ?_))
local macro_rules | `(tactic| walk_at "exec If") => `(tactic| ((rename StopTok 2 => hst; clear hst); with_reducible refine' heldIfS ?_))
local macro_rules | `(tactic| walk_at "exec If") => `(tactic| ((rename StopTok 1 => hst; clear hst); with_reducible refine' heldIfN ?_))
local macro_rules | `(tactic| walk_at "eval Name") => `(tactic| ((with_reducible refine' atCompN "own" ?_); k_dflt (walk_at "nmCN")))
section

end
section
/-! the statements of the law's move, taken out of the text -/
noncomputable def lawSt : Stmt := topS 56
noncomputable def lawScope : Scope := scopeS lawSt
noncomputable def moveIf : Stmt := nthS (kidS (nthS (kidS lawSt) 5)) 6
noncomputable def popSt : Stmt := nthS (elseS moveIf) 1
noncomputable def putSt : Stmt := nthS (elseS moveIf) 2
noncomputable def backSt : Stmt := nthS (elseS moveIf) 3
/-! the law's own dict while names are taken out -/
noncomputable def poppedK (kvs : List (Str × Value)) (xs : List Str) : List (Str × Value) := kvs.filter fun kv => decide (kv.1 ∉ xs)
theorem poppedK_nil (kvs : List (Str × Value)) : poppedK kvs [] = kvs := by unfold poppedK; exact List.filter_eq_self.mpr fun _ _ => by simp
theorem poppedK_snoc (kvs : List (Str × Value)) (xs : List Str) (x : Str) : without (poppedK kvs xs) x = poppedK kvs (xs ++ [x]) := by
  unfold without poppedK
  rw [List.filter_filter]
  refine List.filter_congr fun kv _ => ?_
  by_cases h1 : kv.1 ∈ xs <;> by_cases h2 : kv.1 = x <;> simp [h1, h2]
theorem poppedK_all {kvs : List (Str × Value)} {old : Str} {ss : List Str} (hp : ss.Perm (kvs.map (·.1))) : poppedK kvs (hitsOf old ss) = ownRest kvs old := by
  unfold poppedK ownRest
  refine List.filter_congr fun kv hk => ?_
  have : kv.1 ∈ hitsOf old ss ↔ hitP old kv.1 = true := by
    unfold hitsOf
    rw [List.mem_filter]
    exact ⟨fun h => h.2, fun h => ⟨hp.mem_iff.mpr (List.mem_map_of_mem hk), h⟩⟩
  by_cases h : hitP old kv.1 = true
  · rw [decide_eq_false (by simpa using this.mpr h), h]; rfl
  · have h' : kv.1 ∉ hitsOf old ss := fun z => h (this.mp z)
    simp [h', h]
theorem poppedK_val {kvs : List (Str × Value)} (hn : (kvs.map (·.1)).Nodup) {xs : List Str} {x : Str} (hm : x ∈ kvs.map (·.1)) (hx : x ∉ xs) : valueAt (poppedK kvs xs) x = some (ownVal kvs x) := by
  obtain ⟨⟨k, v⟩, hkv, rfl⟩ := List.mem_map.mp hm
  rw [(ownVal_of hn hkv).2]
  have h3 : (k, v) ∈ poppedK kvs xs := List.mem_filter.mpr ⟨hkv, decide_eq_true hx⟩
  obtain ⟨i, hi⟩ := List.getElem?_of_mem h3
  exact valueAt_of_get (hn.sublist (List.Sublist.map _ List.filter_sublist)) hi
/-- a dict is no tuple -/
theorem tk_dict {W : Wd} {h h' : Heap} {dO : Addr} {oO : Obj} {kvs : List (Str × Value)} (e : h.get? dO = some oO) (D : oO.IsDictOf (PySem.strKind prg W.w) kvs) (k : ∀ b ob, b ≠ dO → h.get? b = some ob → h'.get? b = some ob) : TK h h' := fun b ob q t => by
  refine k b ob (fun z => ?_) q
  rw [z, e] at q
  obtain ⟨es, ep, -, hd, -⟩ := D
  obtain ⟨_, _, _, td⟩ := t
  rw [← Option.some.inj q, hd] at td
  cases td
theorem own_val_mem {kvs : List (Str × Value)} {old new : Str} {xs : List Str} (hx : ∀ x ∈ xs, hitP old x = true) : ∀ kv ∈ ownRest kvs old ++ xs.map (fun x => (goalOf old new x, ownVal kvs x)), (kv ∈ kvs ∧ hitP old kv.1 = false) ∨ ∃ x ∈ xs, kv.1 = goalOf old new x := fun kv hm => by
  rcases List.mem_append.mp hm with hm | hm
  · obtain ⟨h1, h2⟩ := List.mem_filter.mp hm
    exact .inl ⟨h1, by simpa using h2⟩
  · obtain ⟨x, hx, rfl⟩ := List.mem_map.mp hm
    exact .inr ⟨x, hx, rfl⟩
section
variable {dp un : Nat} {fr : Option (List Env)} {gd : Option (List Code)} {h hh : Heap} {g : Array GenState} {d : Drawn} {t : Nat} {o : OsState} {E : Value → Shared → Prop} {Q : Flow → Shared → Prop}
set_option maxHeartbeats 1000000 in
theorem pops_w (W : Wd) {L dO lp : Addr} {cd : Value} {m : Str → Option Value} {o1 oc oO : Obj} {kvs : List (Str × Value)} {ys : List Value} {o' n' : Str} {ss : List Str} (S : Sub W.H0 h) (F : Fr h L hh m)
    (e1 : hh.get? (L + 1) = some o1 ∧ L + 1 ≠ L ∧ h.get? (L + 1) = none) (d1 : o1.data = .cell (some (.ref dO)))
    (e2 : hh.get? (L + 1 + 1) = some oc ∧ L + 1 + 1 ≠ L ∧ h.get? (L + 1 + 1) = none) (d2 : oc.data = .cell (some (.ref lp)))
    (e3 : hh.get? dO = some oO ∧ dO ≠ L ∧ h.get? dO = none) (d3 : oO.IsDictOf (PySem.strKind prg W.w) kvs)
    (n13 : L + 1 ≠ dO) (hlp : hh.IsList lp ys.toArray) (tvl : TvL hh ((psOf o' n' ss).map toldP) ys) (hp : ss.Perm (kvs.map (·.1))) (nd : (kvs.map (·.1)).Nodup) (few : kvs.length ≤ 60)
    (k : ∀ h' t' D, (∀ b ob, b ≠ L → b ≠ dO → hh.get? b = some ob → h'.get? b = some ob) → (∃ oO', h'.get? dO = some oO' ∧ oO'.IsDictOf (PySem.strKind prg W.w) (ownRest kvs o')) → h'.IsList D ((hitsOf o' ss).map (ownVal kvs)).toArray → hh.objs.size ≤ D →
      Fr h L h' (fun y => if y = "moved" then some (.ref D) else m y) → Q .next ⟨h', g, d, t', o⟩) :
    wpAny (model prg W.w) ((Ar dp fr gd un).deeper (envOfC "law" lawScope L 420 cd)) (exec popSt (envOfC "law" lawScope L 420 cd)) Q E ⟨hh, g, d, t, o⟩ := by
  obtain ⟨st, hst⟩ : ∃ st, st = popSt := ⟨_, rfl⟩
  obtain ⟨sc, hsc⟩ : ∃ sc, sc = lawScope := ⟨_, rfl⟩
  rw [← hst, ← hsc]
  conv at hst => rhs; whnf
  conv at hsc => rhs; whnf
  subst hst
  subst hsc
  have X := W.X' S
  have T := W.T' S
  have N : News h L hh [(L + 1, o1), (L + 1 + 1, oc)] := (allCons (e1) (allCons (e2) allNil))
  k_steps
  have hysl : ys.length = (psOf o' n' ss).length := by have := tvl.length; rwa [List.length_map] at this
  have hdlt := Heap.lt_size e3.1
  have hhits : (hitsOf o' ss).length ≤ 60 := by
    have h1 := hp.length_eq
    rw [List.length_map] at h1
    have h2 : (hitsOf o' ss).length ≤ ss.length := List.length_filter_le _ _
    omega
  have hpl : (psOf o' n' ss).length = (hitsOf o' ss).length := by unfold psOf hitsOf; rw [List.length_map]
  refine iter_list hlp rfl ?_
  intro I h9 hI1 hI2 hs9 hfp hW hst
  have hle := subLe hs9 hI1 (hfp I (.head _))
  refine comp_inT F hW (by rw [sizeLine_eq]; omega) hst hfp hle (fun C D i ys' h' => (h9.objs.size ≤ C ∧ h9.objs.size ≤ D) ∧ (∀ b ob, b ≠ dO → hh.get? b = some ob → h'.get? b = some ob) ∧ (∃ oB, h'.get? dO = some oB ∧ oB.IsDictOf (PySem.strKind prg W.w) (poppedK kvs ((hitsOf o' ss).take i))) ∧ ys' = ((hitsOf o' ss).take i).map (ownVal kvs)) ⟨?_, ?_, ?_⟩ ?_ ?_
  · exact fun C D h' hC hD hs' => ⟨⟨hC, hD⟩, fun b ob _ q => hs' _ _ (hs9 _ _ q), ⟨oO, hs' _ _ (hs9 _ _ e3.1), by rw [List.take_zero, poppedK_nil]; exact d3⟩, by simp⟩
  · rintro C D i ys' h₁' h' hC hD ⟨k0, k1, ⟨oB, eB, dB⟩, ysE⟩ hk
    have old8 : ∀ b ob, hh.get? b = some ob → b ≠ C ∧ b ≠ D ∧ b ∉ [I] := fun b ob q =>
      ⟨ltNe (Nat.lt_of_lt_of_le (Heap.lt_size q) (Nat.le_trans hle hC)), ltNe (Nat.lt_of_lt_of_le (Heap.lt_size q) (Nat.le_trans hle hD)), fun z => by rw [List.mem_singleton.mp z, hI2] at q; cases q⟩
    exact ⟨k0, fun b ob hb q => hk b ob (k1 b ob hb q) (.inl (old8 b ob q)), ⟨oB, hk _ _ eB (.inl (old8 _ _ e3.1)), dB⟩, ysE⟩
  · rintro C D i v ys' h₁' t₁' m' E' hC hD hCD hi hv hys ⟨k0, k1, ⟨oB, eB, dB⟩, ysE⟩ hn hm
    refine tests0 ?_
    rw [if_pos rfl]
    obtain ⟨p, T9, ua, ub, hp9, rfl, hT9⟩ := tvl_ps (TvL.tups (tk_dict (W := W) e3.1 d3 k1) (noLst_ps _) tvl) hv
    obtain ⟨x, hx, rfl⟩ := ps_get hp9
    have hxs : x ∈ kvs.map (·.1) := hp.mem_iff.mp (List.mem_filter.mp (List.mem_of_getElem? hx)).1
    have hnd : (hitsOf o' ss).Nodup := (hp.nodup_iff.mpr nd).sublist List.filter_sublist
    have hhC : hh.objs.size ≤ C := Nat.le_trans hle hC
    have F9 : Fr h C h₁' m' := ⟨hn, fun b ob q => k1 b ob (fun z => by rw [z, e3.2.2] at q; cases q) (F.keep _ _ q), Nat.le_trans F.above (Nat.le_of_lt (Nat.lt_of_lt_of_le F.ns.lt hhC))⟩
    have N9 : News h C h₁' [(dO, oB), (L + 1, o1)] := (allCons (⟨eB, ltNe (Nat.lt_of_lt_of_le hdlt hhC), e3.2.2⟩) (fun p hp => by
        rw [List.mem_singleton.mp hp]
        exact ⟨k1 _ _ n13 e1.1, ltNe (Nat.lt_of_lt_of_le (Heap.lt_size e1.1) hhC), e1.2.2⟩))
    have hT9' : IsTup h₁' T9 #[.str x ua, .str (goalOf o' n' x) ub] := hT9
    clear N
    k_steps
    have hpsz : (poppedK kvs ((hitsOf o' ss).take i)).length ≤ sizeLine := by
      rw [sizeLine_eq]
      have : (poppedK kvs ((hitsOf o' ss).take i)).length ≤ kvs.length := List.length_filter_le _ _
      omega
    refine pop_raw (knd := PySem.strKind prg W.w) (d := dO) (Heap.dictOf_iff.mpr ⟨oB, eB, dB⟩) (strKind_is _ _ _ _) (by rfl) (poppedK_val nd hxs (nodup_off hnd hx)) hpsz ?_
    intro h₄ t₄ hD₄ hs₄
    obtain ⟨o₄, e₄, d₄⟩ := Heap.dictOf_iff.mp hD₄
    refine CompEnd.intro ⟨k0, fun b ob hb q => (hs₄.2 b hb).trans (k1 b ob hb q), ⟨o₄, e₄, ?_⟩, ?_⟩ (hn.sameBut hs₄ (gtNe (Nat.lt_of_lt_of_le hdlt hhC))) fun b ob hb q => (hs₄.2 b ?_).trans q
    · rw [List.take_add_one, hx, Option.toList_some, ← poppedK_snoc]; exact d₄
    · rw [List.take_add_one, hx, Option.toList_some, List.map_append, ysE]; rfl
    · rcases hb with hb | rfl
      · rcases List.mem_cons.mp hb with rfl | hb
        · exact goneNe hI2 e3.1
        · rw [List.mem_singleton.mp hb]
          intro z
          obtain ⟨ol, el, ec, n, ed⟩ := hlp
          rw [z, e3.1] at el
          obtain ⟨es, ep, -, hd, -⟩ := d3
          rw [← Option.some.inj el, hd] at ed
          cases ed
      · exact gtNe (Nat.lt_of_lt_of_le hdlt (Nat.le_trans hle hD))
  · rintro C D i ys' h₂ ⟨k0, k1, -, -⟩
    exact F.ns.at' fun ob q => k1 _ ob e3.2.1.symm q
  · rintro C D ys' h₂ h10 t10 hC hD hl10 hys10 ⟨k0, k1, ⟨oB, eB, dB⟩, ysE⟩ hn10 hk10
    rw [hysl, hpl, List.take_length] at ysE dB
    rw [poppedK_all hp] at dB
    rw [ysE] at hl10
    have kk : ∀ b ob, b ≠ L → b ≠ dO → hh.get? b = some ob → h10.get? b = some ob := fun b ob h1 h2 q => (hk10 b (ltNe (Nat.lt_of_lt_of_le (Heap.lt_size q) (Nat.le_trans hle hC))) h1).trans (k1 b ob h2 q)
    exact k h10 t10 D kk ⟨oB, (hk10 _ (ltNe (Nat.lt_of_lt_of_le hdlt (Nat.le_trans hle hC))) e3.2.1).trans eB, dB⟩ hl10 (Nat.le_trans hle hD) ⟨hn10, fun b ob q => kk b ob (fun z => by
      obtain ⟨oL, _, _, e, _⟩ := F.ns
      have := Heap.lt_size q
      rw [z] at this
      exact absurd F.above (Nat.not_le.mpr this)) (fun z => by rw [z, e3.2.2] at q; cases q) (F.keep _ _ q), F.above⟩
end
section
variable {dp un : Nat} {fr : Option (List Env)} {gd : Option (List Code)} {h hh : Heap} {g : Array GenState} {d : Drawn} {t : Nat} {o : OsState} {E : Value → Shared → Prop} {Q : Flow → Shared → Prop}
set_option maxHeartbeats 1000000 in
theorem puts_w (W : Wd) {L dO lp D : Addr} {cd : Value} {m : Str → Option Value} {o1 oc oO : Obj} {kvs : List (Str × Value)} {ys : List Value} {o' n' : Str} {ss : List Str} (S : Sub W.H0 h) (F : Fr h L hh (fun y => if y = "moved" then some (.ref D) else m y))
    (e1 : hh.get? (L + 1) = some o1 ∧ L + 1 ≠ L ∧ h.get? (L + 1) = none) (d1 : o1.data = .cell (some (.ref dO)))
    (e2 : hh.get? (L + 1 + 1) = some oc ∧ L + 1 + 1 ≠ L ∧ h.get? (L + 1 + 1) = none) (d2 : oc.data = .cell (some (.ref lp)))
    (e3 : hh.get? dO = some oO ∧ dO ≠ L ∧ h.get? dO = none) (d3 : oO.IsDictOf (PySem.strKind prg W.w) (ownRest kvs o'))
    (n13 : L + 1 ≠ dO) (n23 : L + 1 + 1 ≠ dO) (hlp : hh.IsList lp ys.toArray) (tvl : TvL hh ((psOf o' n' ss).map toldP) ys) (hD : hh.IsList D ((hitsOf o' ss).map (ownVal kvs)).toArray) (few : kvs.length ≤ 60) (hsl : (hitsOf o' ss).length ≤ 60)
    (free : ∀ x ∈ hitsOf o' ss, goalOf o' n' x ∉ kvs.map (·.1)) (nds : (hitsOf o' ss).Nodup)
    (k : ∀ h' t' m', (∀ b ob, b ≠ L → b ≠ dO → hh.get? b = some ob → h'.get? b = some ob) → (∃ oO', h'.get? dO = some oO' ∧ oO'.IsDictOf (PySem.strKind prg W.w) (ownMove kvs o' n' ss)) → Fr h L h' m' → (∀ y : Str, y ≠ "spot" → m' y = (if y = "moved" then some (.ref D) else m y)) → Q .next ⟨h', g, d, t', o⟩) :
    wpAny (model prg W.w) ((Ar dp fr gd un).deeper (envOfC "law" lawScope L 420 cd)) (exec putSt (envOfC "law" lawScope L 420 cd)) Q E ⟨hh, g, d, t, o⟩ := by
  obtain ⟨st, hst⟩ : ∃ st, st = putSt := ⟨_, rfl⟩
  obtain ⟨sc, hsc⟩ : ∃ sc, sc = lawScope := ⟨_, rfl⟩
  rw [← hst, ← hsc]
  conv at hst => rhs; whnf
  conv at hsc => rhs; whnf
  subst hst
  subst hsc
  have X := W.X' S
  have T := W.T' S
  have hyl : ys.length = (hitsOf o' ss).length := by have := tvl.length; rw [List.length_map] at this; rw [this]; unfold psOf hitsOf; rw [List.length_map]
  obtain ⟨K0, hK0⟩ : ∃ K, K = full h hh [L] := ⟨_, rfl⟩
  have N : News h L hh ((L + 1, o1) :: (L + 1 + 1, oc) :: K0) := (allCons (e1) (allCons (e2) (fun p hp => by
      rw [hK0] at hp; exact full_news (.head _) p hp)))
  have Fk := F.keep
  have Fa := F.above
  have offs : ∀ b ob vs n, hh.get? b = some ob → ob.data = .seq vs n → b ≠ L ∧ b ≠ dO := fun b ob vs n q e =>
    have z0 := seq_off (W := W) F e3.1 d3 q e
    ⟨fun z => z0 (by rw [z]; exact .head _), fun z => z0 (by rw [z]; exact .tail _ (.head _))⟩
  k_steps
  refine call_len_list (items := ys.toArray) hlp (by rw [List.size_toArray]; omega) ?_
  dsimp only
  rw [List.size_toArray]
  k_steps
  rename IsRange _ _ _ _ _ _ _ _ => hr
  rename Fr _ _ _ _ => F3
  rename News _ _ _ _ => N3
  rename_i h3 _ _ _ _ k3
  have k3' : Sub hh h3 := k3
  refine iter_range hr (n := ys.length) rfl (by omega) rfl ?_
  intro I h5 hI1 hI2 hs5 hex hW hst
  have F5 := frSub hs5 F3
  have hIL : L ∉ [I] := offL F3 hI2
  have s5 : Sub hh h5 := k3'.trans hs5
  have hI0 : ∀ b ob, hh.get? b = some ob → b ∉ [I] := fun b ob q z => by
    have := k3' _ _ q
    rw [List.mem_singleton.mp z, hI2] at this; cases this
  refine ⟨I, _, _, _, _, _, h5, g, d, _, o, _, fun i m' h' => (∀ y : Str, y ≠ "spot" → m' y = (if y = "moved" then some (.ref D) else m y)) ∧ (∀ b ob, b ≠ L → b ≠ dO → hh.get? b = some ob → h'.get? b = some ob) ∧ ∃ oB, h'.get? dO = some oB ∧ oB.IsDictOf (PySem.strKind prg W.w) (ownRest kvs o' ++ ((hitsOf o' ss).take i).map fun x => (goalOf o' n' x, ownVal kvs x)), rfl, rfl, hW, hIL, hst, F5.ns, ⟨fun y _ => rfl, fun b ob _ _ q => s5 _ _ q, oO, s5 _ _ e3.1, ?_⟩, ⟨?_, ?_, ?_⟩⟩
  · rw [List.take_zero, List.map_nil, List.append_nil]; exact d3
  · rintro i m1 h6 h7 ⟨a1, a2, oB, a3, a4⟩ hk
    exact ⟨a1, fun b ob b1 b2 q => hk b ob b1 (hI0 b ob q) (a2 b ob b1 b2 q), oB, hk _ _ e3.2.1 (hI0 _ _ e3.1) a3, a4⟩
  · rintro i v m1 h6 t6 hi ⟨ui, rfl⟩ hst6 ⟨a1, a2, oB, a3, a4⟩ hn6
    refine turn_name rfl rfl hn6 fun h7 t7 hn7 hs7 => ?_
    refine wp_absQ fun Q2 hQ2 E2 => ?_
    have k7 : ∀ b ob, b ≠ L → h6.get? b = some ob → h7.get? b = some ob := fun b ob hb q => (hs7.2 b hb).trans q
    have k67 : ∀ b ob, b ≠ L → b ≠ dO → hh.get? b = some ob → h7.get? b = some ob := fun b ob b1 b2 q => k7 _ _ b1 (a2 b ob b1 b2 q)
    have hLlt : ∀ b ob, h.get? b = some ob → b ≠ L := fun b ob q => ltNe (Nat.lt_of_lt_of_le (Heap.lt_size q) Fa)
    have hdN : ∀ b ob, h.get? b = some ob → b ≠ dO := fun b ob q z => by rw [z, e3.2.2] at q; cases q
    have kp7 : Sub h h7 := fun b ob q => k67 b ob (hLlt b ob q) (hdN b ob q) (Fk _ _ q)
    have F7 : Fr h L h7 (fun y : Str => if y = "spot" then some (Value.int (i : Int) ui) else if y = "moved" then some (.ref D) else m y) := by
      refine ⟨nsEq hn7 fun y => ?_, kp7, Fa⟩
      by_cases z : y = "spot"
      · rw [if_pos z, if_pos z]
      · rw [if_neg z, if_neg z]; exact a1 y z
    obtain ⟨oI, eI6, hI6⟩ : ∃ oI, h6.get? I = some oI ∧ ∀ hx : Heap, hx.get? I = some oI → IsRangeIter hx I (0 + ((i + 1 : Nat) : Int) * 1) ((ys.length : Int) - ((i + 1 : Nat) : Int)) 1 := ⟨_, hst6, fun hx q => q⟩
    have nIL : I ≠ L := fun z => hIL (List.mem_singleton.mpr z.symm)
    have eI7 := k7 _ _ nIL eI6
    have eB7 := k7 _ _ e3.2.1 a3
    obtain ⟨K7, hK7⟩ : ∃ K, K = full h h7 [L, dO] := ⟨_, rfl⟩
    have N7 : News h L h7 ((dO, oB) :: (L + 1, o1) :: (L + 1 + 1, oc) :: K7) := (allCons (⟨eB7, e3.2⟩) (allCons (⟨k67 _ _ e1.2.1 n13 e1.1, e1.2⟩) (allCons (⟨k67 _ _ e2.2.1 n23 e2.1, e2.2⟩) (fun p hp => by
        rw [hK7] at hp; exact full_news (.head _) p hp))))
    have hU7 : ∀ p ∈ (L + 1, o1) :: (L + 1 + 1, oc) :: K7, p.1 ≠ dO := (allCons (n13) (allCons (n23) (fun p hp => by
        rw [hK7] at hp; exact fun z => (full_mem.mp hp).2.1 (by rw [z]; exact .tail _ (.head _)))))
    obtain ⟨x, hx⟩ : ∃ x, (hitsOf o' ss)[i]? = some x := ⟨_, List.getElem?_eq_getElem (by omega)⟩
    obtain ⟨v0, hv0⟩ : ∃ v, ys[i]? = some v := ⟨_, List.getElem?_eq_getElem hi⟩
    obtain ⟨p, T9, ua, ub, hp9, rfl, hT9⟩ := tvl_ps tvl hv0
    obtain ⟨x', hx', rfl⟩ := ps_get hp9
    have exx : x' = x := by rw [hx] at hx'; exact (Option.some.inj hx').symm
    subst exx
    obtain ⟨olp, elp, clp, nlp, dlp⟩ := id hlp
    obtain ⟨oD, eD, cD, nD, dD⟩ := id hD
    obtain ⟨oT, eT, cT, nT, dT⟩ := id hT9
    have elp7 := k67 _ _ (offs _ _ _ _ elp dlp).1 (offs _ _ _ _ elp dlp).2 elp
    have eD7 := k67 _ _ (offs _ _ _ _ eD dD).1 (offs _ _ _ _ eD dD).2 eD
    have eT7 := k67 _ _ (offs _ _ _ _ eT dT).1 (offs _ _ _ _ eT dT).2 eT
    clear F3 N3 F5
    have st5 : StopTok 5 := .mk _
    k_steps
    refine Held.off ?_
    refine item_listL (l := (hitsOf o' ss).map (ownVal kvs)) (x := ownVal kvs x') ⟨oD, eD7, cD, nD, dD⟩ (by omega) (by omega) (by rw [Int.toNat_natCast, List.getElem?_map, hx]; rfl) ?_
    k_steps
    refine Held.off ?_
    refine item_listL (l := ys) (x := .ref T9) ⟨olp, elp7, clp, nlp, dlp⟩ (by omega) (by omega) (by rw [Int.toNat_natCast]; exact hv0) ?_
    k_steps
    refine Held.off ?_
    refine item_pair1 (x := .str x' ua) (y := .str (goalOf o' n' x') ub) ⟨oT, eT7, cT, nT, dT⟩ ?_ (by with_unfolding_all rfl)
    have hlen7 : (ownRest kvs o' ++ ((hitsOf o' ss).take i).map fun x => (goalOf o' n' x, ownVal kvs x)).length ≤ 120 := by
      rw [List.length_append, List.length_map, List.length_take]
      have : (ownRest kvs o').length ≤ kvs.length := List.length_filter_le _ _
      omega
    have hxm := List.mem_of_getElem? hx
    have hnew : goalOf o' n' x' ∉ (ownRest kvs o' ++ ((hitsOf o' ss).take i).map fun x => (goalOf o' n' x, ownVal kvs x)).map (·.1) := fun hm => by
      obtain ⟨kv, hkv, e⟩ := List.mem_map.mp hm
      rcases own_val_mem (fun x hx => (List.mem_filter.mp (List.mem_of_mem_take hx)).2) kv hkv with ⟨q, -⟩ | ⟨x, hxt, q⟩
      · exact free x' hxm (e ▸ List.mem_map_of_mem q)
      · have e2 : goalOf o' n' x = goalOf o' n' x' := q.symm.trans e
        have := goal_inj (List.mem_filter.mp (List.mem_of_mem_take hxt)).2 (List.mem_filter.mp hxm).2 e2
        subst this
        exact nodup_off nds hx hxt
    clear elp7 eD7 eT7 elp eD eT
    k_steps
    refine hQ2 _ _ ?_
    rename Fr _ _ _ _ => F8
    rename News _ _ _ _ => N8
    rename Obj.IsDictOf _ _ _ => d8
    rename_i h8 oB8
    dsimp only
    have kk8 := full_keep kp7 F8.keep (sk := [L, dO]) (fun p hp => (N8 p (.tail _ (.tail _ (.tail _ (by rw [hK7]; exact hp))))).1)
    rw [stored_new hnew] at d8
    have nId : I ≠ dO := fun z => hI0 _ _ e3.1 (by rw [z]; exact .head _)
    refine TurnEnd.intro F8.ns ⟨fun y hy => ?_, fun b ob b1 b2 q => kk8 b ob (by simp [b1, b2]) (k67 b ob b1 b2 q), oB8, (N8 _ (.head _)).1, ?_⟩ (hI6 _ (kk8 _ _ (by simp [nIL, nId]) eI7))
    · exact if_neg hy
    · rw [List.take_add_one, hx, Option.toList_some, List.map_append, ← List.append_assoc]; exact d8
  · rintro m1 h6 t6 ⟨a1, a2, oB, a3, a4⟩ hn6
    rw [hyl, List.take_length] at a4
    have hLlt : ∀ b ob, h.get? b = some ob → b ≠ L := fun b ob q => ltNe (Nat.lt_of_lt_of_le (Heap.lt_size q) Fa)
    have hdN : ∀ b ob, h.get? b = some ob → b ≠ dO := fun b ob q z => by rw [z, e3.2.2] at q; cases q
    exact k h6 t6 m1 a2 ⟨oB, a3, a4⟩ ⟨hn6, fun b ob q => a2 b ob (hLlt b ob q) (hdN b ob q) (Fk _ _ q), Fa⟩ a1
end

end
section
noncomputable def freeSt : Stmt := nthS (elseS moveIf) 0
section
variable {dp un : Nat} {fr : Option (List Env)} {gd : Option (List Code)} {h hh : Heap} {g : Array GenState} {d : Drawn} {t : Nat} {o : OsState} {E : Value → Shared → Prop} {Q : Flow → Shared → Prop}
set_option maxHeartbeats 1000000 in
theorem free_w (W : Wd) {L dO lp T0 : Addr} {cd : Value} {m : Str → Option Value} {o1 oc oO : Obj} {kvs : List (Str × Value)} {yr : List Value} {o' n' : Str} {u1 u2 : Tok} (S : Sub W.H0 h) (hu : un + 8 * 2 < cLine) (F : Fr h L hh m)
    (e1 : hh.get? (L + 1) = some o1 ∧ L + 1 ≠ L ∧ h.get? (L + 1) = none) (d1 : o1.data = .cell (some (.ref dO)))
    (e2 : hh.get? (L + 1 + 1) = some oc ∧ L + 1 + 1 ≠ L ∧ h.get? (L + 1 + 1) = none) (d2 : oc.data = .cell (some (.ref lp)))
    (e3 : hh.get? dO = some oO ∧ dO ≠ L ∧ h.get? dO = none) (d3 : oO.IsDictOf (PySem.strKind prg W.w) kvs) (lo : (dO == sysModules) = false)
    (hlp : hh.IsList lp (Value.ref T0 :: yr).toArray) (hT0 : IsTup hh T0 #[.str o' u1, .str n' u2]) (few : kvs.length ≤ 60) (short : ∀ x ∈ kvs.map (·.1), x.length ≤ 1000) (hnl : n'.length ≤ 1000)
    (k : ∀ h' t' fb, (∀ b ob, b ≠ L → hh.get? b = some ob → h'.get? b = some ob) → (fb = true ↔ ∀ x ∈ kvs.map (·.1), below1 n' x = false) → Fr h L h' (fun y => if y = "is_free" then some (.bool fb) else m y) → Q .next ⟨h', g, d, t', o⟩) :
    wpAny (model prg W.w) ((Ar dp fr gd un).deeper (envOfC "law" lawScope L 420 cd)) (exec freeSt (envOfC "law" lawScope L 420 cd)) Q E ⟨hh, g, d, t, o⟩ := by
  obtain ⟨st, hst⟩ : ∃ st, st = freeSt := ⟨_, rfl⟩
  obtain ⟨sc, hsc⟩ : ∃ sc, sc = lawScope := ⟨_, rfl⟩
  rw [← hst, ← hsc]
  conv at hst => rhs; whnf
  conv at hsc => rhs; whnf
  subst hst
  subst hsc
  have X := W.X' S
  have T := W.T' S
  have Fk := F.keep
  have Fa := F.above
  have Flt := F.ns.lt
  have offs : ∀ b ob vs n, hh.get? b = some ob → ob.data = .seq vs n → b ∉ [L, dO] := fun b ob vs n q e => seq_off (W := W) F e3.1 d3 q e
  have st5 : StopTok 5 := .mk _
  have N : News h L hh [(L + 1, o1), (L + 1 + 1, oc)] := (allCons (e1) (allCons (e2) allNil))
  k_steps
  rename Fr _ _ _ _ => F47
  rename News _ _ _ _ => N47
  obtain ⟨olp, elp, rlp⟩ := id hlp
  obtain ⟨oT0, eT0, rT0⟩ := id hT0
  refine iter_dict lo e3.1 d3 rfl ?_
  intro I2 h48 ep hI1 hI2 hs48 hfp48 hW48 hst48
  have hle48 := subLe hs48 hI1 (hfp48 I2 (.head _))
  refine comp_inG hW48 (by rw [sizeLine_eq]; omega) hst48 hfp48 (fun C D i ys h' => FreeJ hh n' (kvs.map (·.1)) i ys h') ⟨?_, ?_, ?_⟩ ?_
  · exact fun C D h' _ _ hs' => ⟨hs48.trans hs', by simp⟩
  · rintro C D i ys h₁' h' hC hD ⟨q1, q2⟩ hk
    exact ⟨compStable q1 (Nat.le_trans hle48 hC) (Nat.le_trans hle48 hD) hI2 hk, q2⟩
  · rintro C D i2 v ys h₁' t₁' mC E' hC hD hCD hi2 ⟨x, vx, hx, hxk⟩ hys ⟨k1, kf⟩ hnC hmC
    refine tests1 ?_
    obtain ⟨ux, rfl⟩ := str_is hxk
    have hsz48 : h.objs.size ≤ hh.objs.size := Nat.le_trans Fa (Nat.le_of_lt Flt)
    have hxl : x.length ≤ 1000 := short x (List.mem_map.mpr ⟨_, List.mem_of_getElem? hx, rfl⟩)
    have F9 : Fr h C h₁' mC := ⟨hnC, Sub.trans Fk k1, Nat.le_trans hsz48 (Nat.le_trans hle48 hC)⟩
    have far : ∀ b ob, hh.get? b = some ob → b ≠ C := fun b ob q => ltNe (Nat.lt_of_lt_of_le (Heap.lt_size q) (Nat.le_trans hle48 hC))
    obtain ⟨KK, hKK⟩ : ∃ KK : Led, KK = fpLed h₁' [D, I2] ++ full h hh [] := ⟨_, rfl⟩
    have N9 : News h C h₁' ((L + 1 + 1, oc) :: KK) := fun p hp => by
      rcases List.mem_cons.mp hp with rfl | hp
      · exact ⟨k1 _ _ e2.1, far _ _ e2.1, e2.2.2⟩
      rw [hKK] at hp
      rcases List.mem_append.mp hp with hp | hp
      · refine ⟨fpLed_at p hp, ?_⟩
        have hz := fpLed_mem p hp
        rcases List.mem_cons.mp hz with z | hz
        · rw [z]; exact ⟨hCD.symm, Heap.get?_none_of_le (Nat.le_trans hsz48 (Nat.le_trans hle48 hD))⟩
        · rw [List.mem_singleton.mp hz]; exact ⟨ltNe (Nat.lt_of_lt_of_le (hfp48 I2 (.head _)) hC), noneSub Fk hI2⟩
      · obtain ⟨w1, -, w3⟩ := full_mem.mp hp
        exact ⟨k1 _ _ w1, far _ _ w1, w3⟩
    have hend : ∀ h4 m4, Fr h C h4 m4 → News h C h4 ((L + 1 + 1, oc) :: KK) → Sub hh h4 ∧ ∀ b ob, (b ∈ [I2, dO] ∨ b = D) → h₁'.get? b = some ob → h4.get? b = some ob := fun h4 m4 F4 N4 => by
      have hK : ∀ p ∈ KK, h4.get? p.1 = some p.2 := fun p hp => (N4 p (.tail _ hp)).1
      have kk := full_keep Fk F4.keep (sk := []) (fun p hp => hK p (by rw [hKK]; exact List.mem_append_right _ hp))
      have sub4 : Sub hh h4 := fun b ob q => kk b ob (by simp) q
      refine ⟨sub4, fun b ob hb q => ?_⟩
      have hin : b ∈ [D, I2] → h4.get? b = some ob := fun z => hK (b, ob) (by rw [hKK]; exact List.mem_append_left _ (fpLed_in z q))
      rcases hb with hb | hb
      · rcases List.mem_cons.mp hb with z | z
        · exact hin (by rw [z]; exact .tail _ (.head _))
        · have z := List.mem_singleton.mp z
          rw [z] at q ⊢
          have e1 := k1 _ _ e3.1
          rw [q] at e1
          rw [Option.some.inj e1]
          exact sub4 _ _ e3.1
      · exact hin (by rw [hb]; exact .head _)
    clear F47 N47 far
    k_steps
    refine Held.off ?_
    refine item_lstX0 ⟨olp, k1 _ _ elp, rlp⟩ ?_
    k_steps
    refine Held.off ?_
    refine item_pair1 (x := .str o' u1) ⟨oT0, k1 _ _ eT0, rT0⟩ ?_ (by with_unfolding_all rfl)
    k_steps
    refine Held.off ?_
    rename Fr _ _ _ _ => F10
    rename News _ _ _ _ => N10
    have sub10 := (hend _ _ F10 N10).1
    refine item_lstX0 ⟨olp, sub10 _ _ elp, rlp⟩ ?_
    k_steps
    refine Held.off ?_
    refine item_pair1 (x := .str o' u1) ⟨oT0, sub10 _ _ eT0, rT0⟩ ?_ (by with_unfolding_all rfl)
    have hxi : (kvs.map (·.1))[i2]? = some x := by rw [List.getElem?_map, hx]; rfl
    k_steps
    · rename Fr _ _ _ _ => F11
      rename News _ _ _ _ => N11
      obtain ⟨s4, k4⟩ := hend _ _ F11 N11
      refine CompEnd.intro ⟨s4, ?_⟩ F11.ns k4
      have hb : below1 n' x = true := by unfold below1; assumption
      rw [List.take_add_one, hxi]
      constructor
      · intro z; simp at z
      · intro z
        have := z x (by simp)
        rw [hb] at this; cases this
    · rename Fr _ _ _ _ => F11
      rename News _ _ _ _ => N11
      obtain ⟨s4, k4⟩ := hend _ _ F11 N11
      refine CompEnd.intro ⟨s4, ?_⟩ F11.ns k4
      have hb : below1 n' x = false := by unfold below1; assumption
      rw [List.take_add_one, hxi]
      constructor
      · intro z k hk
        rcases List.mem_append.mp hk with hk | hk
        · exact kf.mp z k hk
        · simp only [Option.toList_some, List.mem_singleton] at hk
          rw [hk]; exact hb
      · exact fun z => kf.mpr fun k hk => z k (List.mem_append_left _ hk)
  · rintro C D ys h49 t49 hC hD hl49 hys49 ⟨k49, kf49⟩
    rw [← List.length_map (f := fun kv : Str × Value => kv.1), List.take_length] at kf49
    have F49 := frSub k49 F47
    obtain ⟨oD, hoD, hoD2⟩ := hl49
    clear F47 N47
    obtain ⟨K49, hK49⟩ : ∃ K, K = full h h49 [L] := ⟨_, rfl⟩
    have N49 : News h L h49 K49 := fun p hp => by rw [hK49] at hp; exact full_news (.head _) p hp
    have offD : D ≠ L := gtNe (Nat.lt_of_lt_of_le Flt (Nat.le_trans hle48 hD))
    k_steps
    rename Fr _ _ _ _ => F50
    rename News _ _ _ _ => N50
    rename_i le h50 _
    have kk50 := full_keep (Sub.trans Fk k49) F50.keep (sk := [L]) (fun p hp => (N50 p (.tail _ (by rw [hK49]; exact hp))).1)
    have e50 := kk50 _ _ (by simpa using offD) hoD
    refine eq_free (ys := ys) ⟨oD, e50, hoD2⟩ ⟨_, (N50 _ (.head _)).1, rfl, 0, rfl⟩ (by show un + 3 + 1 < cLine; omega) ?_
    obtain ⟨fb, hfb⟩ : ∃ fb, fb = decide (ys = []) := ⟨_, rfl⟩
    rw [← hfb]
    clear e50 hoD hoD2
    k_steps
    rename Fr _ _ _ _ => F51
    rename News _ _ _ _ => N51
    have kk51 := full_keep (Sub.trans Fk k49) F51.keep (sk := [L]) (fun p hp => (N51 p (.tail _ (by rw [hK49]; exact hp))).1)
    exact k _ _ fb (fun b ob b1 q => kk51 b ob (by simpa using b1) (k49 _ _ q)) (by rw [hfb, decide_eq_true_iff]; exact kf49) F51
end

end
section
section
variable {dp un : Nat} {fr : Option (List Env)} {gd : Option (List Code)} {h hh : Heap} {g : Array GenState} {d : Drawn} {t : Nat} {o : OsState} {Q E : Value → Shared → Prop}
variable {W : Wd} {L bx ce dO nm c1 : Addr} {X : List Addr} {vs nvs : List Value} {R : StR} {kvs : List (Str × Value)} {bs : List PB} {pl : Int} {m : Str → Option Value}
theorem rename_w (T : LS W h L bx ce dO nm c1 X vs nvs R kvs bs pl hh) (F : Fr h L hh m) (S : Sub W.H0 h) (r : Rm 10 (Ar dp fr gd un)) (hX : ∀ a ∈ X, ∃ ob, hh.get? a = some ob)
    {B : Nat} (b : Bs (pbs R) B) (hB : B ≤ 200) (few : (pbs R).length < 60) (nv : R.nv < 1000000) {old new o' n' : Str} {u0 u1 : Tok} (ho : normalN old = o') (hn : normalN new = n') (hn2 : normalN n' = n') (hol : old.length ≤ 50000) (hnl : new.length ≤ 50000) (hl : n'.length ≤ 200)
    (q1 : o' ∈ namesOf R) (q0 : o' ≠ "INBOX") (q2 : checkOk n' = true) (q3 : n' ∉ namesOf R) (q4 : ∀ n ∈ namesOf R, hitP o' n = true → goalOf o' n' n ∉ namesOf R)
    (k : ∀ h' t' R' v, LS W h L bx ce dO nm c1 X vs nvs R' kvs bs pl h' → Fr h L h' m → (∀ b ob, b ∉ adrs (led R) → hh.get? b = some ob → h'.get? b = some ob) → R'.st = R.st → R'.nv = R.nv → (pbs R').Perm ((pbs R).map (mvB o' n')) → Q v ⟨h', g, d, t', o⟩) :
    wpAny (model prg W.w) (Ar dp fr gd un) (call (.ref 351) [.ref R.st, .str old u0, .str new u1]) Q E ⟨hh, g, d, t, o⟩ := by
  subst ho
  subst hn
  obtain ⟨y1, y2, y3⟩ := heard_hyps b hB (o' := normalN old) hn2 hl
  have hbl : R.boxes.length = (pbs R).length := (List.length_map ..).symm
  refine rename_box_c W (S.trans T.hidR) r T.ok T.at_ hol hnl y1 y2 y3 (lets_nil b) nv (by omega) ?_ ?_ ?_
  · intro z; exact absurd z q0
  · intro _ _ _ _ ss q5 q6 q7 h' t' R' v tn ok' e1 e2 tk tv
    obtain ⟨T', F'⟩ := T.turn F hX tn ok'
    refine k h' t' R' v T' F' (hid_keep tn.keep) tn.st e1 ?_
    rw [e2]
    exact moveP_perm b.nd (by rw [names_pbs]; exact q5)
  · intro q
    exact (refused_none q q1 q2 q3 fun _ => q4).elim
end
/-- the rename back: nothing stands in its way -/
theorem back_ok {bs : List PB} {o' n' : Str} {ns : List Str} (hns : ns.Perm ((bs.map (mvB o' n')).map (·.name))) (ho : o' ∈ bs.map (·.name)) (hf : ∀ b ∈ bs, hitP n' b.name = false) : n' ∈ ns ∧ o' ∉ ns ∧ ∀ n ∈ ns, hitP n' n = true → goalOf n' o' n ∉ ns := by
  obtain ⟨b, hb, rfl⟩ := List.mem_map.mp ho
  have hh := hit_old b.name
  refine ⟨hns.mem_iff.mpr ?_, fun z => back_off hf hb hh (hns.mem_iff.mp z), fun n hn h1 z => ?_⟩
  · refine List.mem_map.mpr ⟨_, List.mem_map_of_mem hb, ?_⟩
    rw [mvB_hit hh]
    exact goal_old
  · obtain ⟨c, hc, c1, c2, c3⟩ := back_free hf (hns.mem_iff.mp hn) h1
    rw [c3] at z
    exact back_off hf hc c1 (hns.mem_iff.mp z)
section
variable {dp un : Nat} {gd : Option (List Code)} {h hh : Heap} {g : Array GenState} {d : Drawn} {t : Nat} {o : OsState} {E : Value → Shared → Prop} {Q : Flow → Shared → Prop}
set_option maxHeartbeats 4000000 in
theorem back_w (W : Wd) {L bx ce dO nm lp T0 : Addr} {cd vb : Value} {X : List Addr} {vs nvs yr : List Value} {R1 R2 : StR} {kvs : List (Str × Value)} {pl : Int} {m : Str → Option Value} {oc : Obj} {old new o' n' : Str} {uo un' u1 u2 : Tok} {i : Nat} {ui : Tok} {fb : Bool} {ss0 : List Str} {B : Nat}
    (S : Sub W.H0 h) (r : Rm 15 (Ar dp (some []) gd un)) (T : LS W h L bx ce dO nm (L + 1) X vs nvs R2 kvs (pbs R2) pl hh)
    (F : Fr h L hh (fun y => if y = "is_free" then some (.bool fb) else if y = "turn" then some (.int (i : Int) ui) else if y = "store" then some (.ref R2.st) else if y = "before" then some vb else if y = "old" then some (.str old uo) else if y = "new" then some (.str new un') else m y))
    (hi : i < 4) (hLX : L ∉ X) (hX : ∀ a ∈ X, ∃ ob, hh.get? a = some ob) (hcX : L + 1 + 1 ∈ X) (ec : hh.get? (L + 1 + 1) = some oc) (dc : oc.data = .cell (some (.ref lp)))
    (hl : hh.IsList lp (Value.ref T0 :: yr).toArray) (hT0 : IsTup hh T0 #[.str o' u1, .str n' u2])
    (b1 : Bs (pbs R1) B) (hB : B ≤ 100) (ok1 : StOk W R1) (nv1 : R1.nv < 1000) (few : (pbs R1).length < 60) (p2 : (pbs R2).Perm ((pbs R1).map (mvB o' n'))) (nv2 : R2.nv = R1.nv)
    (ho : normalN old = o') (hn : normalN new = n') (hol : old.length ≤ 9) (hnl : new.length ≤ 9) (ho2 : o'.length ≤ 9) (hn2 : n'.length ≤ 9) (hoo : normalN o' = o') (hnn : normalN n' = n')
    (q1 : o' ∈ namesOf R1) (q0 : o' ≠ "INBOX") (q2 : checkOk n' = true) (q2' : checkOk o' = true) (q3 : n' ∉ namesOf R1) (q4 : ∀ n ∈ namesOf R1, hitP o' n = true → goalOf o' n' n ∉ namesOf R1)
    (tvb : Tv hh (toldSt R1 ss0) vb) (hp0 : ss0.Perm (namesOf R1)) (hso0 : sortedS ss0 = true) (hfr : fb = true → ∀ b ∈ pbs R1, hitP n' b.name = false)
    (k : ∀ h' t' R5, LS W h L bx ce dO nm (L + 1) X vs nvs R5 kvs (pbs R5) pl h' → Fr h L h' (fun y => if y = "is_free" then some (.bool fb) else if y = "turn" then some (.int (i : Int) ui) else if y = "store" then some (.ref R2.st) else if y = "before" then some vb else if y = "old" then some (.str old uo) else if y = "new" then some (.str new un') else m y) →
      (∀ a ∈ X, ∀ ob, hh.get? a = some ob → h'.get? a = some ob) → R5.st = R2.st → R5.nv = R2.nv → (pbs R5).Perm (pbs R2) → Q .next ⟨h', g, d, t', o⟩) :
    wpAny (model prg W.w) ((Ar dp (some []) gd un).deeper (envOfC "law" lawScope L 420 cd)) (exec backSt (envOfC "law" lawScope L 420 cd)) Q E ⟨hh, g, d, t, o⟩ := by
  obtain ⟨st, hst⟩ : ∃ st, st = backSt := ⟨_, rfl⟩
  obtain ⟨sc, hsc⟩ : ∃ sc, sc = lawScope := ⟨_, rfl⟩
  rw [← hst, ← hsc]
  conv at hst => rhs; whnf
  conv at hsc => rhs; whnf
  subst hst
  subst hsc
  have XX := W.X' S
  have TT := W.T' S
  obtain ⟨K0, hK0⟩ : ∃ K, K = full h hh [L] := ⟨_, rfl⟩
  have N : News h L hh ((L + 1 + 1, oc) :: K0) := by
    rw [hK0]
    refine T.mkN (l := [(L + 1 + 1, oc)]) (.head _) (allOne (⟨ec, gtNe (Nat.lt_succ_of_lt (Nat.lt_succ_self L)), T.new _ (.tail _ (.tail _ (.tail _ (.tail _ hcX))))⟩))
  have st5 : StopTok 5 := .mk _
  k_steps
  rotate_left
  · exact k _ _ R2 T (by assumption) (fun _ _ _ q => q) rfl rfl (List.Perm.refl _)
  · exact k _ _ R2 T (by assumption) (fun _ _ _ q => q) rfl rfl (List.Perm.refl _)
  refine Held.off ?_
  refine item_lstX0 hl ?_
  k_steps
  refine Held.off ?_
  refine item_pair1 hT0 ?_ (by with_unfolding_all rfl)
  k_steps
  refine Held.off ?_
  refine item_lstX0 hl ?_
  k_steps
  refine Held.off ?_
  refine item_pair0 hT0 ?_ (by with_unfolding_all rfl)
  k_steps
  refine Held.off ?_
  rename Fr _ _ _ _ => F1
  rename fb = true => hfb
  have hf := hfr hfb
  obtain ⟨y1, y2, y3⟩ := back_ok (ns := namesOf R2) (by rw [← names_pbs]; exact p2.map _) (by rw [names_pbs]; exact q1) hf
  have hnI : n' ≠ "INBOX" := fun z => by
    obtain ⟨bI, hbI, e, -⟩ := b1.inb
    have := hf bI hbI
    rw [e, ← z, hit_old] at this; cases this
  have bs2 : Bs (pbs R2) (B + 9) := (b1.move (hg := ⟨q2, hnn⟩) (hl := hn2) q0 (by rw [names_pbs]; exact q4)).perm p2
  have len2 : (pbs R2).length = (pbs R1).length := by rw [p2.length_eq, List.length_map]
  refine heard_w T F1 S (by walk_at "room") rfl (show ScopeKind.function ≠ ScopeKind.module by decide) hX bs2 (by omega) (by omega) (by omega) hnn hoo hoo (by omega) (by omega) (by omega) ?_ ?_ ?_
  · intro z; exact absurd z hnI
  rotate_left
  · intro z; exact (refused_none z y1 q2' y2 fun _ => y3).elim
  intro _ _ _ _ ss' q5 q6 _ h2 t2 R3 v2 T2 F2 k2 tk2 es2 en2 ep2 tv2
  have ec2 := k2 _ _ (T.offR _ (.tail _ (.tail _ (.tail _ (.tail _ hcX))))) ec
  have kX2 : ∀ a ∈ X, ∀ ob, hh.get? a = some ob → h2.get? a = some ob := fun a ha ob q => k2 _ _ (T.offR _ (.tail _ (.tail _ (.tail _ (.tail _ ha))))) q
  have tvb2 := tvb.tk (told_noLst _ _) tk2
  simp only [Tv] at tv2
  obtain ⟨lq, yq, rfl, -, -⟩ := tv2
  have p3 : (pbs R3).Perm (pbs R1) := by
    have := ep2.trans (p2.map (mvB n' o'))
    rwa [mv_back hf] at this
  obtain ⟨o1, oO, E1, D1, E2, D2, E3, E4⟩ := T2.ent
  obtain ⟨K2, hK2⟩ : ∃ K, K = full h h2 [L] := ⟨_, rfl⟩
  have N2 : News h L h2 ((R3.st, instObj 293 R3.dS) :: (R3.dS, R3.od) :: K2) := by
    rw [hK2]
    refine T2.mkN (l := [(R3.st, instObj 293 R3.dS), (R3.dS, R3.od)]) (.head _) (allCons (E3) (allCons (E4) allNil))
  obtain ⟨mS, hoS, hwS, mS1, mS2, uS3, mS3⟩ := T2.ok.m
  rw [← es2] at F2
  have tkF : ∀ h', (∀ b ob, b ≠ L → h2.get? b = some ob → h'.get? b = some ob) → TK h2 h' := fun h' k => tk_but F2 k
  clear F1 N E1 D1 E2 D2 E3 E4
  k_steps
  refine Held.off ?_
  rename Fr _ _ _ _ => F3
  rename News _ _ _ _ => N3
  obtain ⟨k3, T3⟩ := T2.after F3 (fun p hp => (N3 p (.tail _ (.tail _ (by rw [hK2]; exact hp)))).1)
  refine store_told_c W (S.trans T3.keep) (by walk_at "room") T3.ok T3.at_ ?_
  intro h4 t4 v4 ss1 s4 p4 o4 tv4
  have F4 := frSub s4 F3
  have T4 := T3.same fun b ob _ _ q => s4 b ob q
  have tvb4 : Tv h4 (toldSt R1 ss0) vb := ((tvb2.tk (told_noLst _ _) (tkF _ k3)).keeps s4)
  have es : toldSt R3 ss1 = toldSt R1 ss0 := told_same ok1 T2.ok (en2.trans nv2) p3 hp0 p4 hso0 o4
  rw [es] at tv4
  have kX4 : ∀ a ∈ X, ∀ ob, hh.get? a = some ob → h4.get? a = some ob := fun a ha ob q => s4 _ _ (k3 _ _ (fun z => hLX (z ▸ ha)) (kX2 a ha ob q))
  have N4 : News h L h4 [] := News.nil
  clear N3 F3 T3 T2 hK2 hoS hwS mS1 mS2 mS3 tvb2 tkF k3
  k_steps
  refine ne_tup (l := [.int R1.nv, .tup [], .tup (ss0.map (toldNm R1))]) tv4 tvb4 (by have h1 := deep_st R1 ss0; have h2 : un + 8 * 15 < cLine := r.units; show un + 3 + deepL [.int R1.nv, .tup [], .tup (ss0.map (toldNm R1))] + 1 < cLine; omega) ?_
  k_steps
  refine Held.off ?_
  rename Fr _ _ _ _ => F5
  have nsP : (namesOf R3).Perm (namesOf R1) := by rw [← names_pbs, ← names_pbs]; exact p3.map _
  have len3 : (pbs R3).length = (pbs R1).length := p3.length_eq
  refine rename_w T4 F5 S (by walk_at "room") (fun a ha => let ⟨ob, q⟩ := hX a ha; ⟨ob, kX4 a ha ob q⟩) (b1.perm p3) (by omega) (by omega) (by omega) ho hn hnn (by omega) (by omega) (by omega) (nsP.mem_iff.mpr q1) q0 q2 (fun z => q3 (nsP.mem_iff.mp z)) (fun n hn hh z => q4 n (nsP.mem_iff.mp hn) hh (nsP.mem_iff.mp z)) ?_
  intro h6 t6 R4 v6 T6 F6 k6 es6 en6 ep6
  have pf : (pbs R4).Perm (pbs R2) := ep6.trans ((p3.map _).trans p2.symm)
  have kX6 : ∀ a ∈ X, ∀ ob, hh.get? a = some ob → h6.get? a = some ob := fun a ha ob q => k6 _ _ (T4.offR _ (.tail _ (.tail _ (.tail _ (.tail _ ha))))) (kX4 a ha ob q)
  clear N4 F5
  have N6 : News h L h6 [] := News.nil
  k_steps
  rw [es2] at F6
  exact k _ _ R4 (T6.reb pf.symm) F6 kX6 (es6.trans es2) (en6.trans en2) pf
end

end
section
theorem free_hit {n x : Str} (h : below1 n x = false) (hx : x ≠ n) : hitP n x = false := by
  rw [← law_hit]
  unfold below1 at h
  rw [show ((n.length + 1 : Nat) : Int) = (n.length : Int) + 1 from by push_cast; rfl, h, Bool.or_false]
  exact beq_eq_false_iff_ne.mpr hx
local macro_rules | `(tactic| walk_at "exec Assign") => `(tactic| ((have z6 : StopTok 6 := by assumption); clear z6; with_reducible refine' heldAsg ?_))
local macro_rules | `(tactic| walk_at "exec Assign cons ListComp") => `(tactic| ((have z6 : StopTok 6 := by assumption); clear z6; refine' Held.of ?_))
local macro_rules | `(tactic| walk_at "exec For Name Call cons nil") => `(tactic| ((have z6 : StopTok 6 := by assumption); clear z6; refine' Held.of ?_))
local macro_rules | `(tactic| walk_at "exec If") => `(tactic| ((have z6 : StopTok 6 := by assumption); clear z6; with_reducible refine' heldIfB ?_))
section
variable {dp un : Nat} {gd : Option (List Code)} {h hh : Heap} {g : Array GenState} {d : Drawn} {t : Nat} {o : OsState} {E : Value → Shared → Prop} {Q : Flow → Shared → Prop}
set_option maxHeartbeats 4000000 in
theorem move_w (W : Wd) {L bx ce dO nm lp T0 : Addr} {cd vb : Value} {X : List Addr} {vs nvs yr : List Value} {R1 R2 : StR} {kvs : List (Str × Value)} {pl : Int} {m : Str → Option Value} {oc : Obj} {old new o' n' : Str} {uo un' u1 u2 : Tok} {i : Nat} {ui : Tok} {ss0 ss : List Str} {B : Nat}
    (S : Sub W.H0 h) (r : Rm 15 (Ar dp (some []) gd un)) (T : LS W h L bx ce dO nm (L + 1) X vs nvs R2 kvs (pbs R1) pl hh)
    (F : Fr h L hh (fun y => if y = "turn" then some (.int (i : Int) ui) else if y = "store" then some (.ref R2.st) else if y = "before" then some vb else if y = "old" then some (.str old uo) else if y = "new" then some (.str new un') else m y))
    (hi : i < 4) (hLX : L ∉ X) (hX : ∀ a ∈ X, ∃ ob, hh.get? a = some ob) (hcX : L + 1 + 1 ∈ X) (ec : hh.get? (L + 1 + 1) = some oc) (dc : oc.data = .cell (some (.ref lp)))
    (hl : hh.IsList lp (Value.ref T0 :: yr).toArray) (hT0 : IsTup hh T0 #[.str o' u1, .str n' u2]) (tvl : TvL hh ((psOf o' n' ss).map toldP) (Value.ref T0 :: yr)) (hp : ss.Perm (namesOf R1))
    (b1 : Bs (pbs R1) B) (hB : B ≤ 100) (ok1 : StOk W R1) (nv1 : R1.nv < 1000) (few : (pbs R1).length ≤ 50) (p2 : (pbs R2).Perm ((pbs R1).map (mvB o' n'))) (nv2 : R2.nv = R1.nv)
    (ho : normalN old = o') (hn : normalN new = n') (hol : old.length ≤ 9) (hnl : new.length ≤ 9) (ho2 : o'.length ≤ 9) (hn2 : n'.length ≤ 9) (hoo : normalN o' = o') (hnn : normalN n' = n')
    (q1 : o' ∈ namesOf R1) (q0 : o' ≠ "INBOX") (q2 : checkOk n' = true) (q3 : n' ∉ namesOf R1) (q4 : ∀ n ∈ namesOf R1, hitP o' n = true → goalOf o' n' n ∉ namesOf R1)
    (tvb : Tv hh (toldSt R1 ss0) vb) (hp0 : ss0.Perm (namesOf R1)) (hso0 : sortedS ss0 = true)
    (k : ∀ h' t' m' R5 kvs5, LS W h L bx ce dO nm (L + 1) X vs nvs R5 kvs5 (pbs R5) pl h' → Fr h L h' m' →
      (∀ y : Str, y ≠ "is_free" → y ≠ "moved" → y ≠ "spot" → m' y = (if y = "turn" then some (.int (i : Int) ui) else if y = "store" then some (.ref R2.st) else if y = "before" then some vb else if y = "old" then some (.str old uo) else if y = "new" then some (.str new un') else m y)) →
      (∀ a ∈ X, ∀ ob, hh.get? a = some ob → h'.get? a = some ob) → R5.st = R2.st → R5.nv = R2.nv → (pbs R5).Perm (pbs R2) → Q .next ⟨h', g, d, t', o⟩) :
    wpAny (model prg W.w) ((Ar dp (some []) gd un).deeper (envOfC "law" lawScope L 420 cd)) (exec moveIf (envOfC "law" lawScope L 420 cd)) Q E ⟨hh, g, d, t, o⟩ := by
  obtain ⟨st, hst⟩ : ∃ st, st = moveIf := ⟨_, rfl⟩
  obtain ⟨sc, hsc⟩ : ∃ sc, sc = lawScope := ⟨_, rfl⟩
  rw [← hst, ← hsc]
  conv at hst => rhs; whnf
  conv at hsc => rhs; whnf
  subst hst
  subst hsc
  have XX := W.X' S
  have TT := W.T' S
  obtain ⟨o1, oO, E1, D1, E2, D2, -, -⟩ := T.ent
  have Ec : hh.get? (L + 1 + 1) = some oc ∧ L + 1 + 1 ≠ L ∧ h.get? (L + 1 + 1) = none := ⟨ec, gtNe (Nat.lt_succ_of_lt (Nat.lt_succ_self L)), T.new _ (.tail _ (.tail _ (.tail _ (.tail _ hcX))))⟩
  have N : News h L hh [(L + 1 + 1, oc)] := (allOne (Ec))
  have st5 : StopTok 5 := .mk _
  have st6 : StopTok 6 := .mk _
  have hu : un + 8 * 15 < cLine := r.units
  k_steps
  refine Held.off ?_
  refine item_lstX0 hl ?_
  k_steps
  refine Held.off ?_
  refine item_pair0 hT0 ?_ (by with_unfolding_all rfl)
  k_steps
  · exfalso
    rename (o' == Str.ofString "INBOX") = true => hz
    exact q0 (eq_of_beq hz)
  refine Held.off ?_
  rename Fr _ _ _ _ => F1
  have hkp : (kvs.map (·.1)).Perm (namesOf R1) := by have := T.own.1; rwa [names_pbs] at this
  have nd : (kvs.map (·.1)).Nodup := hkp.nodup_iff.mpr ok1.names
  have hsk : ss.Perm (kvs.map (·.1)) := hp.trans hkp.symm
  have kl : kvs.length ≤ 50 := by
    have e1 := T.own.1.length_eq
    rw [List.length_map, List.length_map] at e1
    omega
  have short : ∀ x ∈ kvs.map (·.1), x.length ≤ 1000 := fun x hx => by
    have hxm : x ∈ namesOf R1 := hkp.mem_iff.mp hx
    rw [← names_pbs] at hxm
    obtain ⟨b, hb, rfl⟩ := List.mem_map.mp hxm
    have := b1.len b hb
    omega
  have x13 : L + 1 ≠ dO := T.ne.2.2.symm
  have x23 : L + 1 + 1 ≠ dO := (T.offX _ hcX).2.1
  obtain ⟨olp, elp, clp, nlp, dlp⟩ := id hl
  obtain ⟨oT0, eT0, cT0, nT0, dT0⟩ := id hT0
  have offs : ∀ b ob vs n, hh.get? b = some ob → ob.data = .seq vs n → b ≠ L ∧ b ≠ dO := fun b ob vs n q e =>
    have z0 := seq_off (W := W) F1 E2.1 D2 q e
    ⟨fun z => z0 (by rw [z]; exact .head _), fun z => z0 (by rw [z]; exact .tail _ (.head _))⟩
  have tkF : ∀ h', (∀ b ob, b ≠ L → b ≠ dO → hh.get? b = some ob → h'.get? b = some ob) → TK hh h' := fun h' k b ob e ht => by
    obtain ⟨_, vs, n, ed⟩ := ht
    obtain ⟨z1, z2⟩ := offs b ob vs n e ed
    exact k b ob z1 z2 e
  refine free_w W S (by omega) F1 E1 D1 Ec dc E2 D2 T.lo hl hT0 (by omega) short (by omega) ?_
  intro h2 t2 fb k2 hfb F2
  have N2 : News h L h2 [] := News.nil
  clear F1 N
  k_steps
  refine Held.off ?_
  refine pops_w (n' := n') (ys := Value.ref T0 :: yr) W S F2 ⟨k2 _ _ E1.2.1 E1.1, E1.2⟩ D1 ⟨k2 _ _ Ec.2.1 Ec.1, Ec.2⟩ dc ⟨k2 _ _ E2.2.1 E2.1, E2.2⟩ D2 x13 ⟨olp, k2 _ _ (offs _ _ _ _ elp dlp).1 elp, clp, nlp, dlp⟩ (TvL.tups (tkF h2 fun b ob z1 _ q => k2 b ob z1 q) (noLst_ps _) tvl) hsk nd (by omega) ?_
  intro h3 t3 D k3 hd3 hD hDs F3
  have k23 : ∀ b ob, b ≠ L → b ≠ dO → hh.get? b = some ob → h3.get? b = some ob := fun b ob z1 z2 q => k3 b ob z1 z2 (k2 b ob z1 q)
  obtain ⟨oO3, E3, D3⟩ := hd3
  have N3 : News h L h3 [] := News.nil
  clear F2 N2
  k_steps
  refine Held.off ?_
  have hhits : (hitsOf o' ss).length ≤ 60 := by
    have h1 := hsk.length_eq
    rw [List.length_map] at h1
    have h2 : (hitsOf o' ss).length ≤ ss.length := List.length_filter_le _ _
    omega
  have nds : (hitsOf o' ss).Nodup := (hsk.nodup_iff.mpr nd).sublist List.filter_sublist
  refine puts_w (n' := n') (ys := Value.ref T0 :: yr) (kvs := kvs) W S F3 ⟨k23 _ _ E1.2.1 x13 E1.1, E1.2⟩ D1 ⟨k23 _ _ Ec.2.1 x23 Ec.1, Ec.2⟩ dc ⟨E3, E2.2⟩ D3 x13 x23 ⟨olp, k23 _ _ (offs _ _ _ _ elp dlp).1 (offs _ _ _ _ elp dlp).2 elp, clp, nlp, dlp⟩ (TvL.tups (tkF h3 k23) (noLst_ps _) tvl) hD (by omega) hhits (fun x hx z => ?_) nds ?_
  · obtain ⟨z1, z2⟩ := List.mem_filter.mp hx
    exact q4 x (hp.mem_iff.mp z1) z2 (hkp.mem_iff.mp z)
  intro h4 t4 m4 k4 hd4 F4 hm4
  obtain ⟨oO4, E4, D4⟩ := hd4
  have k24 : ∀ b ob, b ≠ L → b ≠ dO → hh.get? b = some ob → h4.get? b = some ob := fun b ob z1 z2 q => k4 b ob z1 z2 (k23 b ob z1 z2 q)
  have T4 := (T.dic (fun b ob z1 _ z3 q => k24 b ob z1 z3 q) ⟨oO4, E4, D4⟩ (bs2 := (pbs R1).map (mvB o' n')) fun im => (T.own.keeps im).move b1.nd (by rw [names_pbs]; exact hp)).reb p2.symm
  have kX4 : ∀ a ∈ X, ∀ ob, hh.get? a = some ob → h4.get? a = some ob := fun a ha ob q => k24 a ob (fun z => hLX (z ▸ ha)) (T.offX a ha).2.1 q
  have F4' : Fr h L h4 (fun y => if y = "is_free" then some (.bool fb) else if y = "turn" then some (.int (i : Int) ui) else if y = "store" then some (.ref R2.st) else if y = "before" then some vb else if y = "old" then some (.str old uo) else if y = "new" then some (.str new un') else m4 y) := by
    refine ⟨nsEq F4.ns fun y => ?_, F4.keep, F4.above⟩
    by_cases z1 : y = "is_free"
    · subst z1; exact hm4 "is_free" (by decide)
    by_cases z2 : y = "turn"
    · subst z2; exact hm4 "turn" (by decide)
    by_cases z3 : y = "store"
    · subst z3; exact hm4 "store" (by decide)
    by_cases z4 : y = "before"
    · subst z4; exact hm4 "before" (by decide)
    by_cases z5 : y = "old"
    · subst z5; exact hm4 "old" (by decide)
    by_cases z6 : y = "new"
    · subst z6; exact hm4 "new" (by decide)
    simp only [if_neg z1, if_neg z2, if_neg z3, if_neg z4, if_neg z5, if_neg z6]
  obtain ⟨c, hc, ecn⟩ : ∃ c ∈ pbs R1, c.name = o' := by
    have := q1
    rw [← names_pbs] at this
    exact List.mem_map.mp this
  have go' := b1.good c hc
  rw [ecn] at go'
  have N4 : News h L h4 [] := News.nil
  clear F3 N3 F4
  k_steps
  refine Held.off ?_
  refine back_w W S r T4 F4' hi hLX (fun a ha => let ⟨ob, q⟩ := hX a ha; ⟨ob, kX4 a ha ob q⟩) hcX (kX4 _ hcX _ ec) dc ⟨olp, k24 _ _ (offs _ _ _ _ elp dlp).1 (offs _ _ _ _ elp dlp).2 elp, clp, nlp, dlp⟩ ⟨oT0, k24 _ _ (offs _ _ _ _ eT0 dT0).1 (offs _ _ _ _ eT0 dT0).2 eT0, cT0, nT0, dT0⟩ b1 hB ok1 nv1 (by omega) p2 nv2 ho hn hol hnl ho2 hn2 hoo hnn q1 q0 q2 go'.1 q3 q4 (tvb.tk (told_noLst _ _) (tkF h4 k24)) hp0 hso0 (fun hf b hb => ?_) ?_
  · have hbn : b.name ∈ namesOf R1 := by rw [← names_pbs]; exact List.mem_map_of_mem hb
    exact free_hit (hfb.mp hf _ (hkp.mem_iff.mpr hbn)) fun z => q3 (z ▸ hbn)
  intro h5 t5 R5 T5 F5 kX5 es5 en5 p5
  k_steps
  refine k _ _ _ R5 _ T5 F5 (fun y y1 y2 y3 => ?_) (fun a ha ob q => kX5 a ha ob (kX4 a ha ob q)) es5 en5 p5
  have hy := hm4 y y3
  rw [if_neg y2, if_neg y1] at hy
  show (if y = "is_free" then _ else _) = _
  rw [if_neg y1, hy]
  by_cases z2 : y = "turn"
  · rw [if_pos z2, if_pos z2]
  by_cases z3 : y = "store"
  · simp only [if_neg z2, if_pos z3]
  by_cases z4 : y = "before"
  · simp only [if_neg z2, if_neg z3, if_pos z4]
  by_cases z5 : y = "old"
  · simp only [if_neg z2, if_neg z3, if_neg z4, if_pos z5]
  by_cases z6 : y = "new"
  · simp only [if_neg z2, if_neg z3, if_neg z4, if_neg z5, if_pos z6]
  simp only [if_neg z2, if_neg z3, if_neg z4, if_neg z5, if_neg z6]
end
theorem fr_known {h hh : Heap} {L : Addr} {m : Str → Option Value} {v1 st v3 v4 v5} (F : Fr h L hh m) (e1 : m "turn" = some v1) (e2 : m "store" = some (Value.ref st)) (e3 : m "before" = some v3) (e4 : m "old" = some v4) (e5 : m "new" = some v5) :
    Fr h L hh (fun y => if y = "turn" then some v1 else if y = "store" then some (.ref st) else if y = "before" then some v3 else if y = "old" then some v4 else if y = "new" then some v5 else m y) :=
  ⟨nsEq F.ns fun y => by
    by_cases z2 : y = "turn"
    · rw [if_pos z2, z2]; exact e1
    by_cases z3 : y = "store"
    · rw [if_neg z2, if_pos z3, z3]; exact e2
    by_cases z4 : y = "before"
    · rw [if_neg z2, if_neg z3, if_pos z4, z4]; exact e3
    by_cases z5 : y = "old"
    · rw [if_neg z2, if_neg z3, if_neg z4, if_pos z5, z5]; exact e4
    by_cases z6 : y = "new"
    · rw [if_neg z2, if_neg z3, if_neg z4, if_neg z5, if_pos z6, z6]; exact e5
    rw [if_neg z2, if_neg z3, if_neg z4, if_neg z5, if_neg z6], F.keep, F.above⟩

end
section
noncomputable abbrev lawM (sc bx st nm : Addr) (y : Str) : Option Value := if y = "names" then some (Value.ref nm) else if y = "store" then some (Value.ref st) else if y = "box" then some (Value.ref bx) else if y = "script" then some (Value.ref sc) else none
inductive Ph1 (W : Wd) (h : Heap) (L bx ce dO nm : Addr) (X : List Addr) (vs nvs : List Value) (st : Addr) (oc1 : Obj) (i : Nat) (h' : Heap) : Prop
  | mk (R : StR) (kvs : List (Str × Value)) (pl : Int) (S : LS W h L bx ce dO nm (L + 1) X vs nvs R kvs (pbs R) pl h') (a : 0 ≤ pl) (b : pl ≤ 1 + 2 * (i : Int)) (p : PhA st i i R) (e : h'.get? (L + 1 + 1) = some oc1)
inductive Mid1 (W : Wd) (h : Heap) (L bx ce dO nm : Addr) (X : List Addr) (vs nvs : List Value) (st : Addr) (oc1 : Obj) (I : Addr) (oI : Obj) (i : Nat) (pl : Int) (nx : Str) (m : Str → Option Value) (g : Array GenState) (d : Drawn) (o : OsState) (s : Shared) : Prop
  | mk (R : StR) (kvs : List (Str × Value)) (h' : Heap) (t' : Nat) (e : s = ⟨h', g, d, t', o⟩) (S : LS W h L bx ce dO nm (L + 1) X vs nvs R kvs (pbs R) pl h') (F : Fr h L h' m) (p : PhA st i (i + 1) R) (e1 : h'.get? (L + 1 + 1) = some oc1) (e2 : h'.get? I = some oI) (n : nx ∈ kvs.map (·.1))
noncomputable abbrev pickM (ns : List Str) (m1 base : Str → Option Value) (y : Str) : Option Value := ns.foldr (fun a (r : Option Value) => if y = a then m1 a else r) (base y)
theorem pick_eq {m1 base : Str → Option Value} : ∀ {ns : List Str}, (∀ y, y ∉ ns → m1 y = base y) → ∀ y, m1 y = pickM ns m1 base y
  | [], h, y => h y (by simp)
  | a :: ns, h, y => by
    show m1 y = if y = a then m1 a else pickM ns m1 base y
    by_cases e : y = a
    · rw [if_pos e, e]
    · rw [if_neg e]
      by_cases hm : y ∈ ns
      · clear h
        induction ns with
        | nil => cases hm
        | cons b ns ih =>
          show m1 y = if y = b then m1 b else pickM ns m1 base y
          by_cases e2 : y = b
          · rw [if_pos e2, e2]
          · rw [if_neg e2]
            exact ih ((List.mem_cons.mp hm).resolve_left e2)
      · have : ∀ ns : List Str, y ∉ ns → pickM ns m1 base y = base y := by
          intro ns
          induction ns with
          | nil => intro _; rfl
          | cons b ns ih =>
            intro hn
            rw [List.mem_cons, not_or] at hn
            show (if y = b then m1 b else pickM ns m1 base y) = _
            rw [if_neg hn.1]; exact ih hn.2
        rw [this ns hm]
        exact h y (by simp [e, hm])
inductive Ph2 (W : Wd) (h : Heap) (L bx ce dO nm : Addr) (X : List Addr) (vs nvs : List Value) (st : Addr) (i : Nat) (h' : Heap) : Prop
  | mk (R : StR) (kvs : List (Str × Value)) (pl : Int) (S : LS W h L bx ce dO nm (L + 1) X vs nvs R kvs (pbs R) pl h') (a : 0 ≤ pl) (b : pl ≤ 20 + 2 * (i : Int)) (p : PhB st i R) (oc : Obj) (v : Option Value) (e : h'.get? (L + 1 + 1) = some oc) (f : oc.data = .cell v)
noncomputable abbrev turned2 : List Str := ["turn", "has_letter", "name", "old", "new", "before", "is_free", "moved", "spot"]
/-- what stands when the law asks whether all is told -/
inductive Mid2 (W : Wd) (h : Heap) (L bx ce dO nm : Addr) (X : List Addr) (vs nvs : List Value) (sc st : Addr) (J : Addr) (oJ : Obj) (i : Nat) (pl : Int) (g : Array GenState) (d : Drawn) (o : OsState) (s : Shared) : Prop
  | mk (R : StR) (kvs : List (Str × Value)) (h' : Heap) (t' : Nat) (m' : Str → Option Value) (e : s = ⟨h', g, d, t', o⟩) (S : LS W h L bx ce dO nm (L + 1) X vs nvs R kvs (pbs R) pl h') (F : Fr h L h' m') (m : ∀ y : Str, y ∉ turned2 → m' y = lawM sc bx st nm y) (p : PhB st (i + 1) R) (e1 : h'.get? J = some oJ) (oc : Obj) (v : Option Value) (e2 : h'.get? (L + 1 + 1) = some oc) (f : oc.data = .cell v)
/-- the way that the pairs tell of -/
inductive PairsAre (keys : List Str) (o' n' : Str) : List Told → Prop
  | I (e : o' = "INBOX") : PairsAre keys o' n' [.tup [.str "INBOX", .str n']]
  | P (ss : List Str) (e : o' ≠ "INBOX") (p : ss.Perm keys) (s : sortedS ss = true) (f : ∀ p ∈ psOf o' n' ss, p.2 ∉ keys) : PairsAre keys o' n' ((psOf o' n' ss).map toldP)
theorem PairsAre.flat {keys : List Str} {o' n' : Str} {tl : List Told} (x : PairsAre keys o' n' tl) : deepL tl ≤ 1 := by
  cases x with
  | I e => exact deepL_le (allOne (Nat.le_refl 1))
  | P ss e p s f => exact deepL_le fun t ht => by obtain ⟨x, _, rfl⟩ := List.mem_map.mp ht; exact Nat.le_refl 1
/-- what was heard, by the way -/
inductive HeardAs (R1 R2 : StR) (o' n' : Str) (hh h' : Heap) : List Told → Prop
  | I (e : o' = "INBOX") (nv : R2.nv = R1.nv + 1) (ep : pbs R2 = pbs R1 ++ [⟨n', R1.nv, 1, 1, []⟩]) : HeardAs R1 R2 o' n' hh h' [.tup [.str "INBOX", .str n']]
  | P (ss : List Str) (e : o' ≠ "INBOX") (p : ss.Perm (namesOf R1)) (s : sortedS ss = true) (f : ∀ p ∈ psOf o' n' ss, p.2 ∉ namesOf R1) (tk : TK hh h') (nv : R2.nv = R1.nv) (ep : (pbs R2).Perm ((pbs R1).map (mvB o' n'))) : HeardAs R1 R2 o' n' hh h' ((psOf o' n' ss).map toldP)
section
variable {dp un : Nat} {fr : Option (List Env)} {env : Env} {gd : Option (List Code)} {h hh : Heap} {g : Array GenState} {d : Drawn} {t : Nat} {o : OsState} {Q E : Value → Shared → Prop}
theorem law_pairs_w (W : Wd) {dO : Addr} {oO : Obj} {kvs : List (Str × Value)} {old new : Str} {u0 u1 : Tok} (S : Sub W.H0 h) (r : Rm 3 (Ar dp fr gd un)) (hO : h.get? dO = some oO) (hd : oO.IsDictOf (PySem.strKind prg W.w) kvs) (lo : (dO == sysModules) = false) (h60 : kvs.length < 60) (hol : old.length ≤ 1000) (hnl : new.length ≤ 1000) (hkl : ∀ n ∈ kvs.map (·.1), n.length ≤ 1000)
    (kN : Refused (kvs.map (·.1)) old new (lawIsName new) → ∀ h' t', Sub h h' → Q .none ⟨h', g, d, t', o⟩)
    (k : ∀ tl, PairsAre (kvs.map (·.1)) old new tl → old ∈ kvs.map (·.1) → new ∉ kvs.map (·.1) → lawIsName new = true → ∀ h' t' v, Sub h h' → NewTv h h' (.lst tl) v → Q v ⟨h', g, d, t', o⟩) :
    wpAny (model prg W.w) (Ar dp fr gd un) (call (.ref 403) [.ref dO, .str old u0, .str new u1]) Q E ⟨h, g, d, t, o⟩ :=
  law_pairs_c W S r hO hd lo h60 hol hnl hkl kN (fun e => k _ (.I e)) fun e q1 q2 q3 ss p s f => k _ (.P ss e p s f) q1 q2 q3
theorem heard2_w {W : Wd} {L bx ce dO nm c1 : Addr} {X : List Addr} {vs nvs : List Value} {R : StR} {kvs : List (Str × Value)} {bs : List PB} {pl : Int} {m : Str → Option Value} (T : LS W h L bx ce dO nm c1 X vs nvs R kvs bs pl hh) (F : Fr h L hh m) (S : Sub W.H0 h) (r : Rm 12 (Ar dp (some [env]) gd un)) (hf : env.frame = some L) (hk : env.scope.kind ≠ .module) (hX : ∀ a ∈ X, ∃ ob, hh.get? a = some ob)
    {B : Nat} (b : Bs (pbs R) B) (hB : B ≤ 200) (few : (pbs R).length < 60) (nv : R.nv < 1000000) {old new o' n' : Str} {u0 u1 : Tok} (ho : normalN old = o') (hn : normalN new = n') (hn2 : normalN n' = n') (hol : old.length ≤ 50000) (hnl : new.length ≤ 50000) (hl : n'.length ≤ 200)
    {keys : List Str} {tl : List Told} (hp : keys.Perm (namesOf R)) (A : PairsAre keys o' n' tl) (q1 : o' ∈ namesOf R) (q2 : checkOk n' = true) (q3 : n' ∉ namesOf R)
    (k : ∀ h' t' R' v, LS W h L bx ce dO nm c1 X vs nvs R' kvs bs pl h' → Fr h L h' m → (∀ b ob, b ∉ adrs (led R) → hh.get? b = some ob → h'.get? b = some ob) → R'.st = R.st → HeardAs R R' o' n' hh h' tl → Tv h' (.lst tl) v → Q v ⟨h', g, d, t', o⟩) :
    wpAny (model prg W.w) (Ar dp (some [env]) gd un) (call (.ref 410) [.ref R.st, .str old u0, .str new u1]) Q E ⟨hh, g, d, t, o⟩ := by
  refine heard_w T F S r hf hk hX b hB few nv ho hn hn2 hol hnl hl (fun e _ _ h' t' R' v T' F' k' e1 e2 e3 tv => ?_) (fun _ e _ _ ss p s f h' t' R' v T' F' k' tk e1 e2 e3 tv => ?_) fun q => (refused_none q q1 q2 q3 fun ne n hn' hh' z => ?_).elim
  · cases A with
    | I _ => exact k h' t' R' v T' F' k' e1 (.I e e2 e3) tv
    | P _ ne => exact absurd e ne
  · cases A with
    | I e' => exact absurd e' e
    | P ss' _ p' s' _ =>
      obtain rfl : ss = ss' := sorted_uniq (p.trans (p'.trans hp).symm) s s'
      exact k h' t' R' v T' F' k' e1 (.P ss e p s f tk e2 e3) tv
  · cases A with
    | I e' => exact ne e'
    | P ss' _ p' _ f' => exact f' (n, goalOf o' n' n) ((ps_mem p').mpr ⟨n, hp.mem_iff.mpr hn', hh', rfl⟩) (hp.mem_iff.mpr z)
end
section
variable {dp un : Nat} {gd : Option (List Code)} {h : Heap} {g : Array GenState} {d : Drawn} {t : Nat} {o : OsState} {Q E : Value → Shared → Prop}
set_option maxHeartbeats 8000000 in
theorem law_c (W : Wd) {sc : Addr} {vs : List Value} {ns : List Int} (S : Sub W.H0 h) (r : Rm 15 (Ar dp (some []) gd un)) (hsc : h.IsList sc vs.toArray) (hns : IntsAre vs ns) (hvl : vs.length ≤ 63)
    (k : ∀ h' t', Sub h h' → Q (.bool true) ⟨h', g, d, t', o⟩) :
    wpAny (model prg W.w) (Ar dp (some []) gd un) (call (.ref 420) [.ref sc]) Q E ⟨h, g, d, t, o⟩ := by
  refine' callDefC W [("script", .ref sc)] S r ?_
  intro L h₁ cells F N Y t₁
  refine wp_absQ fun Q1 hQ1 E1 => ?_
  have X := W.X' S
  have T := W.T' S
  obtain ⟨oc1, oc2, rfl, hoc1, hoc2⟩ := Y.two
  clear Y
  k_steps
  all_goals (try (with_reducible refine hQ1 _ _ ?_))
  refine Held.off ?_
  refine gAbs fun G hG => ?_
  obtain ⟨osc, hosc, hosc2⟩ := hsc
  refine hG ?_
  refine law_box_c W (subF F S) (by walk_at "room") ⟨osc, F.keep _ _ hosc, hosc2⟩ hns hvl ?_
  intro h2 t2 bx ce gr st ug us up nb vs' ns' hs2 n2 n3 n4 e2 l2 i2 v2 g2 g3 g4
  refine gAbs fun G hG => ?_
  obtain ⟨oce, hoce, hoce2⟩ := l2
  have F2 := frSub hs2 F
  have N2' := newsNew F hs2 N ⟨n2, e2⟩
  have N2 : News h L h2 ((ce, oce) :: (bx, drO ce gr st 0 ug us up nb) :: [(L + 1 + 1, oc1), (L + 1, oc2)]) := (allCons (newsNew F hs2 N ⟨n3, hoce⟩ _ (.head _)) (fun p hp => N2' p hp))
  have hcell : ∀ p ∈ [(L + 1 + 1, oc1), (L + 1, oc2)], ce ≠ p.1 ∧ bx ≠ p.1 := fun p hp => ⟨goneNe n3 (N p hp).1, goneNe n2 (N p hp).1⟩
  clear F N N2'
  refine hG ?_
  k_steps
  all_goals (try (with_reducible refine hQ1 _ _ ?_))
  refine Held.off ?_
  refine gAbs fun G hG => ?_
  rename Fr _ _ _ _ => F3
  rename News _ _ _ _ => N3
  refine hG ?_
  refine make_store_c W (subF F3 S) (by walk_at "room") ?_
  intro h4 t4 R hs4 hA4 hn4 hR hnv hpb
  have F4 := frSub hs4 F3
  have hLs : ∀ p ∈ led R, p.1 ≠ L := fun p hp z => by
    obtain ⟨oL, _, _, q, _⟩ := F3.ns
    have := hn4 p hp
    rw [z, q] at this; cases this
  have N4 : News h L h4 ((ce, oce) :: (bx, drO ce gr st 0 ug us up nb) :: (L + 1 + 1, oc1) :: (L + 1, oc2) :: led R) := fun p hp => by
    rcases List.mem_append.mp (show p ∈ [(ce, oce), (bx, drO ce gr st 0 ug us up nb), (L + 1 + 1, oc1), (L + 1, oc2)] ++ led R from hp) with hp | hp
    · exact newsSub hs4 N3 p hp
    · exact ⟨hA4 p hp, hLs p hp, noneSub F3.keep (hn4 p hp)⟩
  have hRn : ∀ p ∈ [(ce, oce), (bx, drO ce gr st 0 ug us up nb), (L + 1 + 1, oc1), (L + 1, oc2)], p.1 ∉ adrs (led R) := fun p hp hm => by
    obtain ⟨q, hq, e⟩ := List.mem_map.mp hm
    have h1 := hn4 q hq
    have h2 := (N3 p hp).1
    have e' : q.1 = p.1 := e
    rw [e', h2] at h1; cases h1
  clear F3 N3
  k_steps
  all_goals (try (with_reducible refine hQ1 _ _ ?_))
  rename Fr _ _ _ _ => F5
  rename News _ _ _ _ => N5
  rename_i h5 F5o _ u9 _ u10
  have hD0 : Obj.IsDictOf (PySem.strKind prg W.w) ({ cls := .type "dict", data := .dict #[] } : Obj) [] := by
    obtain ⟨oD, eD, dD⟩ := Heap.dictOf_iff.mp (Heap.DictOf.new (knd := PySem.strKind prg W.w) h5)
    rw [Heap.get?_push_size _ rfl] at eD
    rw [Option.some.inj eD]; exact dD
  have N6 := N5.push F5o { cls := .type "dict", data := .dict #[] }
  have hlo : (h5.objs.size == sysModules) = false := F5o.notModules (modules_low (W.T.nolimit.keeps S))
  have hne5 : ∀ p ∈ (ce, oce) :: (bx, drO ce gr st 0 ug us up nb) :: (L + 1 + 1, oc1) :: (L + 1, oc2) :: led R, p.1 ≠ h5.objs.size := fun p hp => ltNe (Heap.lt_size (N5 p hp).1)
  clear N5 F5o
  generalize h5.objs.size = dO at *
  k_steps
  all_goals (try (with_reducible refine hQ1 _ _ ?_))
  rotate_right
  · rename Fr _ _ _ _ => F7
    rename News _ _ _ _ => N7
    rename_i _ _ _ D7 _ _
    exact [("INBOX", .ref D7)]
  · exact ⟨strKind_is _ _ _ _, rfl, trivial⟩
  · rename News _ _ _ _ => N7
    exact Heap.dictOf_iff.mpr ⟨_, (N7 _ (.tail _ (.tail _ (.head _)))).1, hD0⟩
  rename Fr _ _ _ _ => F7
  rename News _ _ _ _ => N7
  rename_i l7 _ _ T7 h7 hlt7 h8 hd8 hs8
  have hd8' : h8.DictOf (PySem.strKind prg W.w) dO [("INBOX", .ref T7)] := hd8
  obtain ⟨oO, eO, dO8⟩ := Heap.dictOf_iff.mp hd8'
  have k8 : ∀ b ob, b ≠ dO → h7.get? b = some ob → h8.get? b = some ob := fun b ob hb q => (hs8.2 b hb).trans q
  have F8 := frBut F7 k8 (N7 _ (.tail _ (.tail _ (.head _)))).2.1 (N7 _ (.tail _ (.tail _ (.head _)))).2.2
  have g0 := N7 _ (.head _)
  have g1 := N7 _ (.tail _ (.head _))
  have gO := N7 _ (.tail _ (.tail _ (.head _)))
  have N8 : News h L h8 ((L + 1, oc2) :: (L + 1 + 1, oc1) :: (dO, oO) :: (ce, oce) :: (bx, drO ce gr st 0 ug us up nb) :: (T7, tupO [Value.int 1 u10, Value.ref l7]) :: (l7, PySem.W.listOf #[] 0) :: led R) := fun p hp => by
    have inn : ∀ p ∈ (ce, oce) :: (bx, drO ce gr st 0 ug us up nb) :: (L + 1 + 1, oc1) :: (L + 1, oc2) :: led R, h8.get? p.1 = some p.2 ∧ p.1 ≠ L ∧ h.get? p.1 = none := fun p hp => by
      have q := N7 p (.tail _ (.tail _ (.tail _ hp)))
      exact ⟨k8 _ _ (hne5 p hp) q.1, q.2⟩
    rcases List.mem_cons.mp hp with rfl | hp
    · exact inn _ (.tail _ (.tail _ (.tail _ (.head _))))
    rcases List.mem_cons.mp hp with rfl | hp
    · exact inn _ (.tail _ (.tail _ (.head _)))
    rcases List.mem_cons.mp hp with rfl | hp
    · exact ⟨eO, gO.2⟩
    rcases List.mem_cons.mp hp with rfl | hp
    · exact inn _ (.head _)
    rcases List.mem_cons.mp hp with rfl | hp
    · exact inn _ (.tail _ (.head _))
    rcases List.mem_cons.mp hp with rfl | hp
    · exact ⟨k8 _ _ (gtNe hlt7.2.1) g0.1, g0.2⟩
    rcases List.mem_cons.mp hp with rfl | hp
    · exact ⟨k8 _ _ (gtNe (by rename dO < l7 ∧ _ => z; exact z.1)) g1.1, g1.2⟩
    · exact inn p (.tail _ (.tail _ (.tail _ (.tail _ hp))))
  rename dO < l7 ∧ _ => hltl
  have hU1 : ∀ p ∈ (L + 1 + 1, oc1) :: (dO, oO) :: (ce, oce) :: (bx, drO ce gr st 0 ug us up nb) :: (T7, tupO [Value.int 1 u10, Value.ref l7]) :: (l7, PySem.W.listOf #[] 0) :: led R, p.1 ≠ L + 1 := (allCons (gtNe (Nat.lt_succ_self (L + 1))) (allCons ((hne5 (L + 1, oc2) (.tail _ (.tail _ (.tail _ (.head _))))).symm) (allCons ((hcell (L + 1, oc2) (.tail _ (.head _))).1) (allCons ((hcell (L + 1, oc2) (.tail _ (.head _))).2) (allCons (gtNe hlt7.2.2.2.2.2.1) (allCons (gtNe hltl.2.2.2.2.1) (fun p hp => fun z => hRn (L + 1, oc2) (.tail _ (.tail _ (.tail _ (.head _)))) (List.mem_map.mpr ⟨p, hp, z⟩))))))))
  clear F7 N7 g0 g1 gO k8 hs8 hd8 hd8'
  change wpAny _ _ (storeName _ _ _) _ _ _
  k_steps
  all_goals (try (with_reducible refine hQ1 _ _ ?_))
  refine Held.off ?_
  refine gAbs fun G hG => ?_
  rename Fr _ _ _ _ => F9
  rename News _ _ _ _ => N9
  rename _ = Data.cell (some (Value.ref dO)) => hoc9
  rename_i h9 o9
  refine hG ?_
  refine law_names_c W (subF F9 S) (by walk_at "room") ?_
  intro h10 t10 nm nvs nn hs10 hn10 hnms
  have F10 := frSub hs10 F9
  have N10 := newsNew F9 hs10 N9 hn10
  have hnm9 : ∀ p ∈ (L + 1, o9) :: (L + 1 + 1, oc1) :: (dO, oO) :: (ce, oce) :: (bx, drO ce gr st 0 ug us up nb) :: (T7, tupO [Value.int 1 u10, Value.ref l7]) :: (l7, PySem.W.listOf #[] 0) :: led R, nm ≠ p.1 := fun p hp => goneNe hn10.1 (N9 p hp).1
  clear F9 N9
  k_steps
  all_goals (try (with_reducible refine hQ1 _ _ ?_))
  refine Held.off ?_
  refine gAbs fun G hG => ?_
  rename Fr _ _ _ _ => F11
  rename News _ _ _ _ => N11
  rename_i h11 t11 u11
  have e_nm := N11 _ (.head _)
  have e_c1 := N11 _ (.tail _ (.head _))
  have e_c2 := N11 _ (.tail _ (.tail _ (.head _)))
  have e_dO := N11 _ (.tail _ (.tail _ (.tail _ (.head _))))
  have e_ce := N11 _ (.tail _ (.tail _ (.tail _ (.tail _ (.head _)))))
  have e_bx := N11 _ (.tail _ (.tail _ (.tail _ (.tail _ (.tail _ (.head _))))))
  have e_T7 := N11 _ (.tail _ (.tail _ (.tail _ (.tail _ (.tail _ (.tail _ (.head _)))))))
  have e_l7 := N11 _ (.tail _ (.tail _ (.tail _ (.tail _ (.tail _ (.tail _ (.tail _ (.head _))))))))
  have e_R : ∀ p ∈ led R, h11.get? p.1 = some p.2 ∧ p.1 ≠ L ∧ h.get? p.1 = none := fun p hp => N11 p (.tail _ (.tail _ (.tail _ (.tail _ (.tail _ (.tail _ (.tail _ (.tail _ hp))))))))
  have lT := allLt_mem hlt7.2.2.2.2.2.2
  have ll := allLt_mem hltl.2.2.2.2.2
  have offl : ∀ a ∈ [L, bx, dO, L + 1, L + 1 + 1, ce, nm, T7, l7], a ∉ adrs (led R) := fun a ha hm => by
    obtain ⟨p, hp, e⟩ := List.mem_map.mp hm
    have e : p.1 = a := e
    simp only [List.mem_cons, List.not_mem_nil, or_false] at ha
    rcases ha with z | z | z | z | z | z | z | z | z <;> rw [z] at e
    · exact (e_R p hp).2.1 e
    · exact hRn (bx, drO ce gr st 0 ug us up nb) (.tail _ (.head _)) (List.mem_map.mpr ⟨p, hp, e⟩)
    · exact hne5 p (.tail _ (.tail _ (.tail _ (.tail _ hp)))) e
    · exact hRn (L + 1, oc2) (.tail _ (.tail _ (.tail _ (.head _)))) (List.mem_map.mpr ⟨p, hp, e⟩)
    · exact hRn (L + 1 + 1, oc1) (.tail _ (.tail _ (.head _))) (List.mem_map.mpr ⟨p, hp, e⟩)
    · exact hRn (ce, oce) (.head _) (List.mem_map.mpr ⟨p, hp, e⟩)
    · exact hnm9 p (.tail _ (.tail _ (.tail _ (.tail _ (.tail _ (.tail _ (.tail _ hp))))))) e.symm
    · exact ltNe (lT p hp) e
    · exact ltNe (ll p hp) e
  have hc1 := hcell (L + 1, oc2) (.tail _ (.head _))
  have hc2 := hcell (L + 1 + 1, oc1) (.head _)
  have d1 := hne5 (ce, oce) (.head _)
  have d2 := hne5 (bx, drO ce gr st 0 ug us up nb) (.tail _ (.head _))
  have d3 := hne5 (L + 1 + 1, oc1) (.tail _ (.tail _ (.head _)))
  have d4 := hne5 (L + 1, oc2) (.tail _ (.tail _ (.tail _ (.head _))))
  have imm : ∀ a ob, a ∈ [ce, nm, T7, l7] → h11.get? a = some ob → (hideAll h11 (zone L bx dO [L + 1 + 1] R)).get? a = some ob := fun a ob ha q => hideAll_get _ q fun hm => by
    rw [in_zone] at hm
    have ho := offl a (by simp only [List.mem_cons, List.not_mem_nil, or_false] at ha ⊢; rcases ha with z | z | z | z <;> simp [z])
    have hx : a ≠ L ∧ a ≠ bx ∧ a ≠ dO ∧ a ≠ L + 1 + 1 := by
      simp only [List.mem_cons, List.not_mem_nil, or_false] at ha
      rcases ha with z | z | z | z <;> rw [z]
      · exact ⟨e_ce.2.1, n4.symm, d1, hc2.1⟩
      · exact ⟨e_nm.2.1, hnm9 (bx, _) (.tail _ (.tail _ (.tail _ (.tail _ (.head _))))), hnm9 (dO, oO) (.tail _ (.tail _ (.head _))), hnm9 (L + 1 + 1, oc1) (.tail _ (.head _))⟩
      · exact ⟨e_T7.2.1, gtNe hlt7.2.2.2.1, gtNe hlt7.2.1, gtNe hlt7.2.2.2.2.1⟩
      · exact ⟨e_l7.2.1, gtNe hltl.2.2.1, gtNe hltl.1, gtNe hltl.2.2.2.1⟩
    rcases hm with z | z | z | z | z
    · exact hx.1 z
    · exact hx.2.1 z
    · exact hx.2.2.1 z
    · exact hx.2.2.2 (List.mem_singleton.mp z)
    · exact ho z
  have TL : LS W h L bx ce dO nm (L + 1) [L + 1 + 1] vs' nvs R [("INBOX", .ref T7)] (pbs R) 0 h11 := by
    refine ⟨F11.keep, hR, fun p hp => (e_R p hp).1, fun a ha => ?_, fun a ha => ?_, fun a ha => ?_, ?_, fun a ha => ?_, ⟨gr, st, ug, us, up, nb, e_bx.1, g2, g3, g4⟩, ⟨oce, imm _ _ (.head _) e_ce.1, hoce2⟩, ⟨_, imm _ _ (.tail _ (.head _)) e_nm.1, rfl, nn, rfl⟩, ⟨oO, e_dO.1, dO8⟩, ⟨?_, fun kv hkv => ?_⟩, hlo, ⟨o9, e_c1.1, hoc9⟩⟩
    · simp only [List.mem_cons, List.not_mem_nil, or_false] at ha
      rcases ha with z | z | z | z | z <;> rw [z]
      · exact Heap.get?_none_of_le F11.above
      · exact e_bx.2.2
      · exact e_dO.2.2
      · exact e_c1.2.2
      · exact e_c2.2.2
    · obtain ⟨p, hp, rfl⟩ := List.mem_map.mp ha
      exact (e_R p hp).2.2
    · exact offl a (by simp only [List.mem_cons, List.not_mem_nil, or_false] at ha ⊢; rcases ha with z | z | z | z | z <;> simp [z])
    · simp only [List.nodup_cons, List.mem_cons, List.not_mem_nil, or_false, not_or, not_false_iff, List.nodup_nil, and_true]
      exact ⟨⟨e_bx.2.1.symm, e_dO.2.1.symm, e_c1.2.1.symm⟩, ⟨d2, hc1.2⟩, d4.symm⟩
    · rw [List.mem_singleton.mp ha]
      exact ⟨hc2.2.symm, d3, gtNe (Nat.lt_succ_self (L + 1))⟩
    · rw [hpb]; exact .refl _
    · rw [List.mem_singleton.mp hkv, hpb]
      refine ⟨_, .head _, rfl, ?_⟩
      simp only [ownT, List.map_nil, Tv]
      exact ⟨T7, [_, _], rfl, ⟨_, imm _ _ (.tail _ (.tail _ (.head _))) e_T7.1, rfl, 0, rfl⟩, tvl_cons (tv_int _ _) (tvl_cons (by simp only [Tv]; exact ⟨l7, [], rfl, ⟨_, imm _ _ (.tail _ (.tail _ (.tail _ (.head _)))) e_l7.1, rfl, 0, rfl⟩, tvl_nil⟩) tvl_nil)⟩
  clear imm d1 d2 d3 d4 hc1 hc2 offl lT ll e_R e_l7 e_T7 e_bx e_ce e_dO e_nm hnm9 hU1 hlt7 hltl hne5 hcell hRn hLs dO8 hD0 hoc9 hA4 hn4 N11 eO g2 g3 g4 e2 hn10 hoce hoce2
  refine hG ?_
  refine draw_w TL F11 S (by walk_at "room") i2 v2 (by decide) (by decide) (by decide) (by decide) ?_
  intro h12 t12 n1 u12 T12 F12 k12 hn1 hn12
  have e_c2' : h12.get? (L + 1 + 1) = some oc1 := k12 _ _ (TL.offX (L + 1 + 1) (.head _)).1 e_c2.1
  have N12 : News h L h12 ((L + 1 + 1, oc1) :: full h h12 [L]) := T12.mkN (l := [(L + 1 + 1, oc1)]) (.head _) (allOne (⟨e_c2', e_c2.2⟩))
  generalize hK12 : full h h12 [L] = K12 at N12
  clear F11 TL k12
  k_steps
  all_goals (try (with_reducible refine hQ1 _ _ ?_))
  rename IsRange _ _ _ _ _ _ _ _ => hr
  rename Fr _ _ _ _ => F13
  rename News _ _ _ _ => N13
  rename_i h13 _ _ _ _ k13
  have k13' : Sub h12 h13 := k13
  have T13 := T12.same fun b ob _ _ q => k13 b ob q
  clear T12
  refine iter_range hr (n := n1.toNat) (by omega) (by omega) rfl ?_
  intro I h14 hI1 hI2 hs14 hex14 hW hst
  have F14 := frSub hs14 F13
  have T14 := T13.more hI2 hs14
  have hI0 := noneSub F13.keep hI2
  have hIL : L ∉ [I] := offL F13 hI2
  have e_c2h : h14.get? (L + 1 + 1) = some oc1 := hs14 _ _ (N13 _ (.head _)).1
  refine ⟨I, _, _, _, _, _, h14, g, d, _, o, _, fun i m' h' => (∀ y : Str, y ∉ (["turn", "has_letter", "name"] : List Str) → m' y = lawM sc bx R.st nm y) ∧ Ph1 W h L bx ce dO nm [I, L + 1 + 1] vs' nvs R.st oc1 i h', rfl, rfl, hW, hIL, hst, F14.ns, ⟨?_, ?_⟩, ⟨?_, ?_, ?_⟩⟩
  · intro y hy
    rfl
  · exact ⟨R, _, _, T14, by omega, by omega, ⟨rfl, ⟨by rw [hpb]; simp, fun b hb => by rw [hpb] at hb; rw [List.mem_singleton.mp hb]; exact good_inbox, fun b hb => by rw [hpb] at hb; rw [List.mem_singleton.mp hb]; exact by decide, ⟨_, by rw [hpb]; exact .head _, rfl, rfl, rfl⟩⟩, fun b hb => by rw [hpb] at hb; rw [List.mem_singleton.mp hb]; exact ⟨Nat.zero_le _, by decide, by decide⟩, by rw [hpb]; exact Nat.le_refl _, by omega, by omega⟩, e_c2h⟩
  · rintro i m1 h15 h16 ⟨a1, R1, kvs1, pl1, a2, a3, a4, a5, a6⟩ hk
    exact ⟨a1, R1, kvs1, pl1, a2.same fun b ob hb hx q => hk b ob hb (fun z => hx (by rw [List.mem_singleton.mp z]; exact .head _)) q, a3, a4, a5, hk _ _ (gtNe (Nat.lt_succ_of_lt (Nat.lt_succ_self L))) (fun z => by rw [List.mem_singleton.mp z] at e_c2h; exact absurd (hs14 _ _ (N13 _ (.head _)).1) (fun _ => by have := (N13 _ (.head _)).1; rw [← List.mem_singleton.mp z] at hI2; rw [hI2] at this; cases this)) a6⟩
  · rintro i v m1 h15 t15 hi ⟨ui, rfl⟩ hst15 ⟨hm1, R1, kvs1, pl1, T15, p1, p2, ph1, e_c2i⟩ hn15
    --A{
    refine turn_name rfl rfl hn15 fun h16 t16 hn16 hs16 => ?_
    refine wp_absQ fun Q2 hQ2 E2 => ?_
    obtain ⟨oI, eI15, hI15⟩ : ∃ oI, h15.get? I = some oI ∧ ∀ hx : Heap, hx.get? I = some oI → IsRangeIter hx I (0 + ((i + 1 : Nat) : Int) * 1) ((n1.toNat : Int) - ((i + 1 : Nat) : Int)) 1 := ⟨_, hst15, fun hx q => q⟩
    have k16 : ∀ b ob, b ≠ L → h15.get? b = some ob → h16.get? b = some ob := fun b ob hb q => (hs16.2 b hb).trans q
    have T16 := T15.same fun b ob hb _ q => k16 b ob hb q
    have nIL : I ≠ L := fun z => hIL (List.mem_singleton.mpr z.symm)
    have e_I := k16 _ _ nIL eI15
    have e_c2 := k16 _ _ e_c2.2.1 e_c2i
    have est : R1.st = R.st := ph1.1
    have hi6 : i < 6 := by omega
    have F16 : Fr h L h16 (fun y : Str => if y = "turn" then some (Value.int (i : Int) ui) else if y = "has_letter" then m1 "has_letter" else if y = "name" then m1 "name" else lawM sc bx R1.st nm y) := by
      refine ⟨nsEq hn16 fun y => ?_, T16.keep, F14.above⟩
      by_cases h1 : y = "turn"
      · rw [if_pos h1, if_pos h1]
      · rw [if_neg h1, if_neg h1]
        by_cases h2 : y = "has_letter"
        · rw [if_pos h2, h2]
        · rw [if_neg h2]
          by_cases h3 : y = "name"
          · rw [if_pos h3, h3]
          · rw [if_neg h3, est]
            exact hm1 y (by simp [h1, h2, h3])
    have N16 : News h L h16 [] := News.nil
    clear F14
    k_steps
    all_goals (try (with_reducible refine hQ2 _ _ ?_))
    refine Held.off ?_
    refine draw_w T16 F16 S (by walk_at "room") i2 v2 (by omega) (by omega) (by decide) (by decide) ?_
    intro h17 t17 x17 u17 T17 F17 k17 a17 b17
    refine gAbs fun G hG => ?_
    have ob1 : ∀ a, a ∈ [I, L + 1 + 1] → a ≠ bx := fun a ha => (T16.offX a ha).1
    have e_I := k17 _ _ (ob1 _ (.head _)) e_I
    have e_c2 := k17 _ _ (ob1 _ (.tail _ (.head _))) e_c2
    have N17 : News h L h17 (full h h17 [L]) := T17.mkN (l := []) (.head _) fun p hp => by cases hp
    obtain ⟨K17, hK17⟩ : ∃ K, K = full h h17 [L] := ⟨_, rfl⟩
    rw [← hK17] at N17
    clear F16 N16 T16
    refine hG ?_
    k_steps
    all_goals (try (with_reducible refine hQ2 _ _ ?_))
    refine Held.off ?_
    refine gAbs fun G hG => ?_
    rename Fr _ _ _ _ => F18
    rename News _ _ _ _ => N18
    obtain ⟨k18, T18⟩ := T17.after F18 (fun p hp => (N18 p (by rw [hK17]; exact hp)).1)
    have nc2L : L + 1 + 1 ≠ L := gtNe (Nat.lt_succ_of_lt (Nat.lt_succ_self L))
    have e_I := k18 _ _ nIL e_I
    have e_c2 := k18 _ _ nc2L e_c2
    clear T17 N18 hK17 k18 k17
    refine hG ?_
    refine draw_w T18 F18 S (by walk_at "room") i2 v2 (by omega) (by omega) (by decide) (by decide) ?_
    intro h19 t19 x19 u19 T19 F19 k19 a19 b19
    refine gAbs fun G hG => ?_
    have e_I := k19 _ _ (ob1 _ (.head _)) e_I
    have e_c2 := k19 _ _ (ob1 _ (.tail _ (.head _))) e_c2
    clear T18 F18 k19
    have hlen12 : nvs.length = 12 := hnms.length
    obtain ⟨vx, hvx⟩ : ∃ v, nvs[x19.toNat]? = some v := ⟨_, List.getElem?_eq_getElem (by omega)⟩
    obtain ⟨nx, unx, rfl, hnx⟩ := hnms.item _ _ hvx
    have hnx8 : nx ∈ lawNamesL.take 8 := by
      rw [List.mem_iff_getElem?]
      exact ⟨x19.toNat, by rw [List.getElem?_take_of_lt (by omega)]; exact hnx⟩
    obtain ⟨l1, l2, l3, l4, l5⟩ := nm_law (List.mem_of_mem_take hnx8)
    obtain ⟨g8, i8⟩ := nm_good hnx8
    obtain ⟨onm, enm, rnm⟩ := T19.nms
    refine hG ?_
    refine item_listL (l := nvs) ⟨onm, of_hideAll _ enm, rnm⟩ a19 (by omega) hvx ?_
    obtain ⟨o1, oO, E1, D1, E2, D2, E3, E4⟩ := T19.ent
    have lo := T19.lo
    obtain ⟨K19, hK19⟩ : ∃ K, K = full h h19 [L] := ⟨_, rfl⟩
    have N19 : News h L h19 ((L + 1, o1) :: (dO, oO) :: (R1.st, instObj 293 R1.dS) :: (R1.dS, R1.od) :: K19) := by
      rw [hK19]
      refine T19.mkN (l := [(L + 1, o1), (dO, oO), (R1.st, instObj 293 R1.dS), (R1.dS, R1.od)]) (.head _) (allCons (E1) (allCons (E2) (allCons (E3) (allCons (E4) allNil))))
    have stp : StopTok 1 := .mk _
    k_steps
    all_goals (try (with_reducible refine hQ2 _ _ ?_))
    refine Held.off ?_
    refine gAbs fun G hG => ?_
    rename Fr _ _ _ _ => F19
    rename News _ _ _ _ => N19
    refine hG ?_
    refine law_normal_c W (subF F19 S) (by walk_at "room") (by omega) ?_
    intro h19' t19' u19' hs19'
    have F19 := frSub hs19' F19
    have N19 := newsSub hs19' N19
    k_steps
    all_goals (try (with_reducible refine hQ2 _ _ ?_))
    refine Held.off ?_
    refine gAbs fun G hG => ?_
    rename Fr _ _ _ _ => F20
    rename News _ _ _ _ => N20
    obtain ⟨k20, T20⟩ := T19.after F20 (fun p hp => (N20 p (.tail _ (.tail _ (.tail _ (.tail _ (by rw [hK19]; exact hp)))))).1)
    have e_I := k20 _ _ nIL e_I
    have e_c2 := k20 _ _ nc2L e_c2
    have g8' : goodN (lawNormal nx) := by rw [l1]; exact g8
    have i8' : lawNormal nx ≠ "INBOX" := by rw [l1]; exact i8
    have l8 : (lawNormal nx).length ≤ 9 := by rw [l1]; exact l3
    clear l1 l2 l3 l4 l5 g8 i8 hnx hnx8 hvx T19 hK19 E1 E3 E4 enm rnm k20
    rename_i h20
    generalize lawNormal nx = n8 at *
    have hX20 : ∀ a ∈ [I, L + 1 + 1], ∃ ob, h20.get? a = some ob := (allCons (⟨_, e_I⟩) (allCons (⟨_, e_c2⟩) allNil))
    have hkl20 : kvs1.length ≤ 20 := by
      have e1 := T20.own.1.length_eq
      rw [List.length_map, List.length_map] at e1
      have e2 := ph1.4
      omega
    have hkey20 : ∀ n, n ∈ kvs1.map (·.1) ↔ n ∈ namesOf R1 := fun n => by rw [T20.own.1.mem_iff, names_pbs]
    refine hG ?_
    refine wpAny_mono (Q := fun f s' => f = Flow.next ∧ Mid1 W h L bx ce dO nm [I, L + 1 + 1] vs' nvs R.st oc1 I oI i (pl1 + 1 + 1) n8 (fun y : Str => if y = "name" then some (Value.str n8 u19') else if y = "has_letter" then some (Value.bool (x17 == 1)) else if y = "turn" then some (Value.int (i : Int) ui) else if y = "has_letter" then m1 "has_letter" else if y = "name" then m1 "name" else lawM sc bx R1.st nm y) g d o s') ?_ (fun f s' hm => ?_) (fun _ _ e => e)
    · obtain ⟨mS, hoS, hwS, mS1, mS2, uS3, mS3⟩ := T20.ok.m
      refine wp_absQ fun Q3 hQ3 E3 => ?_
      k_steps
      all_goals (try (with_reducible refine hQ3 _ _ ?_))
      · refine ⟨rfl, R1, kvs1, h20, _, rfl, T20, F20, ph1.mono (Nat.le_refl _) (Nat.le_succ _), e_c2, e_I, by assumption⟩
      · refine Held.off ?_
        have hnew : n8 ∉ namesOf R1 := fun z => absurd ((hkey20 n8).mpr z) (by assumption)
        have hnn : normalN n8 = n8 := g8'.2
        obtain ⟨q1, q2, q3, q4, q5, q6⟩ := ph1
        have hbl : R1.boxes.length = (pbs R1).length := (List.length_map ..).symm
        refine create_box_c W (S.trans T20.hidR) (by walk_at "room") T20.ok T20.at_ (by omega) (by rw [hnn]; exact g8'.1) (by rw [hnn]; exact hnew) rfl (by omega) (by omega) ?_
        intro h21 t21 R2 u21 tn ok2 e21 e22
        refine gAbs fun G hG => ?_
        rw [hnn] at e22
        obtain ⟨T21, F21⟩ := T20.turn F20 hX20 tn ok2
        have e_I := hid_keep tn.keep _ _ (T20.offR I (.tail _ (.tail _ (.tail _ (.tail _ (.head _)))))) e_I
        have e_c2 := hid_keep tn.keep _ _ (T20.offR (L + 1 + 1) (.tail _ (.tail _ (.tail _ (.tail _ (.tail _ (.head _))))))) e_c2
        have hX21 : ∀ a ∈ [I, L + 1 + 1], ∃ ob, h21.get? a = some ob := (allCons (⟨_, e_I⟩) (allCons (⟨_, e_c2⟩) allNil))
        have ph2 := PhA.create ⟨q1, q2, q3, q4, q5, q6⟩ tn.st e21 e22 g8' l8 hnew
        clear N20 E2 D2 D1 hoS hwS mS1 mS2 mS3
        obtain ⟨o1, oO, E1, D1, E2, D2, E3, E4⟩ := T21.ent
        obtain ⟨K21, hK21⟩ : ∃ K, K = full h h21 [L, dO] := ⟨_, rfl⟩
        have N21 : News h L h21 ((dO, oO) :: (L + 1, o1) :: K21) := by
          rw [hK21]
          refine T21.mkN (l := [(dO, oO), (L + 1, o1)]) (.head _) (allCons (E2) (allCons (E1) allNil))
        have hU21 : ∀ p ∈ (L + 1, o1) :: K21, p.1 ≠ dO := (allCons (T21.ne.2.2.symm) (fun p hp => by
            rw [hK21] at hp
            exact fun z => (full_mem.mp hp).2.1 (by rw [z]; exact .tail _ (.head _))))
        clear F20 E1 E3 E4
        refine hG ?_
        k_steps
        all_goals (try (with_reducible refine hQ3 _ _ ?_))
        rename Fr _ _ _ _ => F22
        rename News _ _ _ _ => N22
        rename Obj.IsDictOf _ _ _ => d22
        rename_i ln _ hl1 Tn _ _ _ hl2 h22 oB
        rw [stored_new (by assumption)] at d22
        have kk := full_keep T21.keep F22.keep (sk := [L, dO]) (fun p hp => (N22 p (.tail _ (.tail _ (.tail _ (.tail _ (by rw [hK21]; exact hp)))))).1)
        have zT : ∀ q : Addr, (∀ p ∈ K21, p.1 < q) → q ≠ L → q ≠ dO → q ∉ zone L bx dO [I, L + 1 + 1] R2 := fun q lt a b => T21.off_zone hX21 (sk := [L, dO]) (.head _) (by rw [← hK21]; exact lt) (fun x hx => by
          rcases List.mem_cons.mp hx with z | hx
          · rw [z]; exact a
          · rw [List.mem_singleton.mp hx]; exact b)
        have m1' := N22 _ (.head _)
        have m2' := N22 _ (.tail _ (.head _))
        have T22 : LS W h L bx ce dO nm (L + 1) [I, L + 1 + 1] vs' nvs R2 (kvs1 ++ [(n8, .ref Tn)]) (pbs R2) (pl1 + 1 + 1) h22 := T21.dic (fun b ob h1 _ h3 q => kk b ob (by simp [h1, h3]) q) ⟨oB, (N22 _ (.tail _ (.tail _ (.head _)))).1, d22⟩ (fun im => by
          rw [e22]
          refine (T21.own.keeps im).add (b := ⟨n8, R1.nv, 1, 1, []⟩) (v := .ref Tn) ?_
          simp only [ownT, List.map_nil, Tv]
          exact ⟨Tn, [_, _], rfl, ⟨_, hideAll_get _ m1'.1 (zT Tn (allLt_mem hl2.2.2.2) m1'.2.1 (gtNe hl2.2.1)), rfl, 0, rfl⟩, tvl_cons (tv_int _ _) (tvl_cons (by simp only [Tv]; exact ⟨ln, [], rfl, ⟨_, hideAll_get _ m2'.1 (zT ln (allLt_mem hl1.2.2) m2'.2.1 (gtNe hl1.1)), rfl, 0, rfl⟩, tvl_nil⟩) tvl_nil)⟩)
        exact ⟨rfl, R2, _, h22, _, rfl, T22, F22, ph2, kk _ _ (by simp [nc2L, (T21.offX (L + 1 + 1) (.tail _ (.head _))).2.1]) e_c2, kk _ _ (by simp [nIL, (T21.offX I (.head _)).2.1]) e_I, by simp⟩
    · obtain ⟨rfl, R2, kvs2, h23, t23, rfl, T23, F23, ph2, e_c2, e_I, hmem⟩ := hm
      dsimp only
      have e_st : R1.st = R2.st := est.trans ph2.1.symm
      rw [e_st] at F23
      clear N20 E2 D2 D1 T20 F20
      obtain ⟨o1, oO, E1, D1, E2, D2, E3, E4⟩ := T23.ent
      obtain ⟨K23, hK23⟩ : ∃ K, K = full h h23 [L] := ⟨_, rfl⟩
      have N23 : News h L h23 ((L + 1, o1) :: (dO, oO) :: K23) := by
        rw [hK23]
        refine T23.mkN (l := [(L + 1, o1), (dO, oO)]) (.head _) (allCons (E1) (allCons (E2) allNil))
      k_steps
      all_goals (try (with_reducible refine hQ2 _ _ ?_))
      · refine Held.off ?_
        rename Fr _ _ _ _ => F24
        rename News _ _ _ _ => N24
        rename_i D9 _ la9 l9 _ lb9 h24 tb9 _ hb9 hB9
        obtain ⟨k24, T24⟩ := T23.after F24 (fun p hp => (N24 p (.tail _ (.tail _ (.tail _ (.tail _ (by rw [hK23]; exact hp)))))).1)
        have hX23 : ∀ a ∈ [I, L + 1 + 1], ∃ ob, h23.get? a = some ob := (allCons (⟨_, e_I⟩) (allCons (⟨_, e_c2⟩) allNil))
        have m9 := N24 _ (.tail _ (.head _))
        have zD9 := T23.off_zone hX23 (sk := [L]) (.head _) (by rw [← hK23]; exact allLt_mem la9.2.2) ((allOne (m9.2.1)))
        have hD9 : (hideAll h24 (adrs (led R2))).get? D9 = some (tupO []) := hideAll_get _ m9.1 fun z => zD9 (in_zone.mpr (.inr (.inr (.inr (.inr z)))))
        have e_I := k24 _ _ nIL e_I
        have e_c2 := k24 _ _ nc2L e_c2
        have hX24 : ∀ a ∈ [I, L + 1 + 1], ∃ ob, h24.get? a = some ob := (allCons (⟨_, e_I⟩) (allCons (⟨_, e_c2⟩) allNil))
        have hnn : normalN n8 = n8 := g8'.2
        have hmR : normalN n8 ∈ namesOf R2 := by rw [hnn, ← names_pbs]; exact T23.own.1.mem_iff.mp hmem
        refine append_letter_c W (S.trans T24.hidR) (by walk_at "room") T24.ok T24.at_ (by omega) hmR hD9 (fun b hb => ?_) ?_
        · obtain ⟨z1, z2, z3⟩ := ph2.3 (pb b) (List.mem_map_of_mem hb)
          have z1' : (b.lets.map pl).length ≤ i := z1
          have z2' : b.next ≤ (i : Int) + 1 := z2
          have z3' : b.top ≤ (i : Int) + 1 := z3
          rw [List.length_map] at z1'
          exact ⟨by omega, by omega, by omega⟩
        intro h25 t25 R3 v25 tn ok3 e31 e32
        refine gAbs fun G hG => ?_
        rw [hnn] at e32
        obtain ⟨T25, F25⟩ := T24.turn F24 hX24 tn ok3
        have e_I := hid_keep tn.keep _ _ (T24.offR I (.tail _ (.tail _ (.tail _ (.tail _ (.head _)))))) e_I
        have e_c2 := hid_keep tn.keep _ _ (T24.offR (L + 1 + 1) (.tail _ (.tail _ (.tail _ (.tail _ (.tail _ (.head _))))))) e_c2
        have hX25 : ∀ a ∈ [I, L + 1 + 1], ∃ ob, h25.get? a = some ob := (allCons (⟨_, e_I⟩) (allCons (⟨_, e_c2⟩) allNil))
        have ph3 := ph2.app tn.st e31 e32 i8'
        obtain ⟨⟨n8', vT⟩, hkv, en8⟩ := List.mem_map.mp hmem
        have en8 : n8' = n8 := en8
        subst en8
        obtain ⟨b0, hb0, en0, tv0⟩ := T25.own.2 _ hkv
        dsimp only at en0 tv0
        obtain ⟨T9, u9v, ly, ys, rfl, hT9, hly, hys⟩ := own_tv tv0
        have hnd2 : (kvs2.map (·.1)).Nodup := T25.own.1.nodup_iff.mpr ph2.2.nd
        have hval : valueAt kvs2 n8' = some (.ref T9) := (ownVal_of hnd2 hkv).1
        have hT9' : IsTup h25 T9 #[.int b0.val u9v, .ref ly] := by obtain ⟨ob, e, r⟩ := hT9; exact ⟨ob, of_hideAll _ e, r⟩
        clear N24 E1 D1 E2 D2 E3 E4 F24 hD9 zD9 m9 hb9 hB9 la9 lb9
        obtain ⟨o1, oO, E1, D1, E2, D2, E3, E4⟩ := T25.ent
        have lo := T25.lo
        obtain ⟨K25, hK25⟩ : ∃ K, K = full h h25 [L, dO] := ⟨_, rfl⟩
        have N25 : News h L h25 ((dO, oO) :: (L + 1, o1) :: K25) := by
          rw [hK25]
          refine T25.mkN (l := [(dO, oO), (L + 1, o1)]) (.head _) (allCons (E2) (allCons (E1) allNil))
        have hU25 : ∀ p ∈ (L + 1, o1) :: K25, p.1 ≠ dO := (allCons (T25.ne.2.2.symm) (fun p hp => by
            rw [hK25] at hp
            exact fun z => (full_mem.mp hp).2.1 (by rw [z]; exact .tail _ (.head _))))
        clear E1 E3 E4
        refine hG ?_
        k_steps
        all_goals (try (with_reducible refine hQ2 _ _ ?_))
        refine Held.off ?_
        refine gAbs fun G hG => ?_
        rename Fr _ _ _ _ => F26
        rename News _ _ _ _ => N26
        rename_i li _ lai _ tb _ hb9 hB9 lb h26 lab
        have kk26 := full_keep T25.keep F26.keep (sk := [L, dO]) (fun p hp => (N26 p (.tail _ (.tail _ (.tail _ (.tail _ (by rw [hK25]; exact hp)))))).1)
        obtain ⟨oly, ely, rly⟩ := hly
        have hlyz : ly ∉ zone L bx dO [I, L + 1 + 1] R3 := fun hm => by rw [hideAll_none _ hm] at ely; cases ely
        have ely26 := kk26 ly oly (fun hm => hlyz (in_zone.mpr (by
          rcases List.mem_cons.mp hm with z | hm
          · exact .inl z
          · exact .inr (.inr (.inl (List.mem_singleton.mp hm)))))) (of_hideAll _ ely)
        have hyl : ys.length ≤ 10 := by
          have e1 := hys.length
          rw [List.length_map] at e1
          have e2 := (ph2.3 b0 hb0).1
          omega
        refine hG ?_
        refine add_lists (vs := ys) (ws := [.bytes #[((i : Int)).toNat.toUInt8] tb]) F26 N26 ⟨oly, ely26, rly⟩ ⟨_, (N26 _ (.head _)).1, rfl, 0, rfl⟩ ?_ (by rw [sizeLine_eq]; simp only [List.length_cons, List.length_nil]; omega)
        intro h27 F27 N27
        have lq : ∀ p ∈ K25, p.1 < h26.objs.size := fun p hp => Heap.lt_size (N26 p (.tail _ (.tail _ (.tail _ (.tail _ hp))))).1
        have lqd : dO < h26.objs.size := Heap.lt_size (N26 _ (.tail _ (.tail _ (.head _)))).1
        have kk27 := full_keep T25.keep F27.keep (sk := [L, dO]) (fun p hp => (N27 p (.tail _ (.tail _ (.tail _ (.tail _ (.tail _ (by rw [hK25]; exact hp))))))).1)
        dsimp only at N27 F27
        generalize h26.objs.size = q at *
        have N28 : News h L h27 ((dO, oO) :: (L + 1, o1) :: (q, { cls := .type "list", data := .seq (ys ++ [Value.bytes #[((i : Int)).toNat.toUInt8] tb]).toArray }) :: K25) := (allCons (N27 _ (.tail _ (.tail _ (.tail _ (.head _))))) (allCons (N27 _ (.tail _ (.tail _ (.tail _ (.tail _ (.head _)))))) (allCons (N27 _ (.head _)) (fun p hp => N27 _ (.tail _ (.tail _ (.tail _ (.tail _ (.tail _ hp)))))))))
        have hU27 : ∀ p ∈ (L + 1, o1) :: (q, ({ cls := .type "list", data := .seq (ys ++ [Value.bytes #[((i : Int)).toNat.toUInt8] tb]).toArray } : Obj)) :: K25, p.1 ≠ dO := (allCons (hU25 _ (.head _)) (allCons (gtNe lqd) (fun p hp => hU25 _ (.tail _ hp))))
        have hkl2 : kvs2.length ≤ 20 := by
          have e1 := T25.own.1.length_eq
          rw [List.length_map, List.length_map] at e1
          have e2 := ph2.4
          omega
        clear N26 N27 F26 kk26 lai lab hb9 hB9 hU25
        k_steps
        all_goals (try (with_reducible refine hQ2 _ _ ?_))
        rename Fr _ _ _ _ => F29
        rename News _ _ _ _ => N29
        rename Obj.IsDictOf _ _ _ => d29
        rename_i Tn _ _ _ hlT h30 oB
        dsimp only
        rw [stored_old hmem] at d29
        have kk29 := full_keep T25.keep F29.keep (sk := [L, dO]) (fun p hp => (N29 p (.tail _ (.tail _ (.tail _ (.tail _ (by rw [hK25]; exact hp)))))).1)
        have zT : ∀ q : Addr, (∀ p ∈ K25, p.1 < q) → q ≠ L → q ≠ dO → q ∉ zone L bx dO [I, L + 1 + 1] R3 := fun q lt a b => T25.off_zone hX25 (sk := [L, dO]) (.head _) (by rw [← hK25]; exact lt) (fun x hx => by
          rcases List.mem_cons.mp hx with z | hx
          · rw [z]; exact a
          · rw [List.mem_singleton.mp hx]; exact b)
        have m1' := N29 _ (.head _)
        have m2' := N29 _ (.tail _ (.tail _ (.tail _ (.head _))))
        have T29 := T25.dic (fun b ob h1 _ h3 q => kk29 b ob (by simp [h1, h3]) q) ⟨oB, (N29 _ (.tail _ (.head _))).1, d29⟩ (bs2 := (pbs R2).map (appB n8' #[((i : Int)).toNat.toUInt8] i)) (fun im => by
          refine (T25.own.keeps im).app (fun b hb eb => ?_)
          have : b = b0 := pb_uniq ph2.2.nd hb hb0 (eb.trans en0.symm)
          subst this
          simp only [ownT, addPL, List.map_append, List.map_cons, List.map_nil, Tv]
          exact ⟨Tn, [_, _], rfl, ⟨_, hideAll_get _ m1'.1 (zT Tn (allLt_mem hlT.2.2.2) m1'.2.1 (gtNe hlT.1)), rfl, 0, rfl⟩, tvl_cons (tv_int _ _) (tvl_cons (by simp only [Tv]; exact ⟨q, _, rfl, ⟨_, hideAll_get _ m2'.1 (zT q lq m2'.2.1 (gtNe lqd)), rfl, 0, rfl⟩, tvl_snoc (hys.keeps im) (tv_bytes _ _)⟩) tvl_nil)⟩)
        rw [show (pbs R2).map (appB n8' #[((i : Int)).toNat.toUInt8] i) = pbs R3 from e32.symm] at T29
        refine TurnEnd.intro F29.ns ⟨fun y hy => ?_, R3, _, _, T29, by omega, by push_cast; omega, ph3, kk29 _ _ (by simp [nc2L, (T25.offX (L + 1 + 1) (.tail _ (.head _))).2.1]) e_c2⟩ (hI15 _ (kk29 _ _ (by simp [nIL, (T25.offX I (.head _)).2.1]) e_I))
        simp only [List.mem_cons, List.not_mem_nil, or_false, not_or] at hy
        simp only [if_neg hy.1, if_neg hy.2.1, if_neg hy.2.2, ph2.1]
      · dsimp only
        refine TurnEnd.intro F23.ns ⟨fun y hy => ?_, R2, kvs2, _, T23, by omega, by push_cast; omega, ph2.mono (Nat.le_succ _) (Nat.le_refl _), e_c2⟩ (hI15 _ e_I)
        simp only [List.mem_cons, List.not_mem_nil, or_false, not_or] at hy
        simp only [if_neg hy.1, if_neg hy.2.1, if_neg hy.2.2, ph2.1]
    --A}
  · rintro m2 h31 t31 ⟨hm2, R2, kvs2, pl2, T31, p1, p2, phA, e_c2x⟩ hn31
    have ph0 := phA.toB (by omega)
    have est2 : R2.st = R.st := phA.1
    have hab : h.objs.size ≤ L := F14.above
    have F31 : Fr h L h31 (fun y : Str => if y = "turn" then m2 "turn" else if y = "has_letter" then m2 "has_letter" else if y = "name" then m2 "name" else lawM sc bx R.st nm y) :=
      ⟨nsEq hn31 (pick_eq (ns := ["turn", "has_letter", "name"]) hm2), T31.keep, hab⟩
    have T31 := T31.less (Y := [L + 1 + 1]) (fun a ha => .tail _ ha)
    have N31 : News h L h31 [] := News.nil
    have n2L : L + 1 + 1 ≠ L := gtNe (Nat.lt_succ_of_lt (Nat.lt_succ_self L))
    clear F14 F13 N13 T14 T13 k13 k13' hr hW hst e_c2h hs14 hex14 hI1 hI2 hI0
    dsimp only
    k_steps
    all_goals (try (with_reducible refine hQ1 _ _ ?_))
    refine Held.off ?_
    refine draw_w T31 F31 S (by walk_at "room") i2 v2 (by omega) (by omega) (by decide) (by decide) ?_
    intro h32 t32 n2 u32 T32 F32 k32 a32 b32
    have e_c2 := k32 _ _ (T31.offX (L + 1 + 1) (.head _)).1 e_c2x
    have N32 : News h L h32 ((L + 1 + 1, oc1) :: full h h32 [L]) := T32.mkN (l := [(L + 1 + 1, oc1)]) (.head _) (allOne (⟨e_c2, n2L, T32.new _ (.tail _ (.tail _ (.tail _ (.tail _ (.head _)))))⟩))
    generalize hK32 : full h h32 [L] = K32 at N32
    clear F31 N31 T31 k32
    k_steps
    all_goals (try (with_reducible refine hQ1 _ _ ?_))
    rename IsRange _ _ _ _ _ _ _ _ => hr
    rename Fr _ _ _ _ => F33
    rename News _ _ _ _ => N33
    rename_i h33 _ _ _ _ k33
    have T33 := T32.same fun b ob _ _ q => k33 b ob q
    clear T32
    refine iter_range hr (n := (1 + n2).toNat) (by omega) (by omega) rfl ?_
    intro J h34 hJ1 hJ2 hs34 hex34 hW2 hst2
    have F34 := frSub hs34 F33
    have T34 := T33.more hJ2 hs34
    have hJL : L ∉ [J] := offL F33 hJ2
    have nJ : L + 1 + 1 ≠ J := fun z => by have q := (N33 _ (.head _)).1; dsimp only at q; rw [z, hJ2] at q; cases q
    have e_c2 := hs34 _ _ (N33 _ (.head _)).1
    refine ⟨J, _, _, _, _, _, h34, g, d, _, o, _, fun i m' h' => (∀ y : Str, y ∉ turned2 → m' y = lawM sc bx R.st nm y) ∧ Ph2 W h L bx ce dO nm [J, L + 1 + 1] vs' nvs R.st i h', rfl, rfl, hW2, hJL, hst2, F34.ns, ⟨?_, ?_⟩, ⟨?_, ?_, ?_⟩⟩
    · intro y hy
      simp only [List.mem_cons, List.not_mem_nil, or_false, not_or] at hy
      simp only [if_neg hy.1, if_neg hy.2.1, if_neg hy.2.2.1]
    · exact ⟨R2, _, _, T34, by omega, by omega, ph0, oc1, _, e_c2, hoc1⟩
    · rintro i m1 h15 h16 ⟨a1, R1, kvs1, pl1, a2, a3, a4, a5, oc, vc, a6, a7⟩ hk
      exact ⟨a1, R1, kvs1, pl1, a2.same fun b ob hb hx q => hk b ob hb (fun z => hx (by rw [List.mem_singleton.mp z]; exact .head _)) q, a3, a4, a5, oc, vc, hk _ _ n2L (fun z => nJ (List.mem_singleton.mp z)) a6, a7⟩
    · rintro i v m1 h35 t35 hi ⟨ui, rfl⟩ hst35 ⟨hm1, R1, kvs1, pl1, T35, p1, p2, ph1, oc, vc, e_oc, d_oc⟩ hn35
      refine turn_name rfl rfl hn35 fun h36 t36 hn36 hs36 => ?_
      refine wp_absQ fun Q2 hQ2 E2 => ?_
      obtain ⟨oJ, eJ35, hJ35⟩ : ∃ oI, h35.get? J = some oI ∧ ∀ hx : Heap, hx.get? J = some oI → IsRangeIter hx J (0 + ((i + 1 : Nat) : Int) * 1) (((1 + n2).toNat : Int) - ((i + 1 : Nat) : Int)) 1 := ⟨_, hst35, fun hx q => q⟩
      have k36 : ∀ b ob, b ≠ L → h35.get? b = some ob → h36.get? b = some ob := fun b ob hb q => (hs36.2 b hb).trans q
      have T36 := T35.same fun b ob hb _ q => k36 b ob hb q
      have nJL : J ≠ L := fun z => hJL (List.mem_singleton.mpr z.symm)
      have e_J := k36 _ _ nJL eJ35
      have e_oc := k36 _ _ n2L e_oc
      have est : R1.st = R.st := ph1.1
      have hi4 : i < 4 := by omega
      obtain ⟨-, phb, phl, phn1, phn2⟩ := id ph1
      have F36 : Fr h L h36 (fun y : Str => if y = "turn" then some (Value.int (i : Int) ui) else if y = "names" then some (Value.ref nm) else if y = "store" then some (Value.ref R1.st) else if y = "box" then some (Value.ref bx) else m1 y) := by
        refine ⟨nsEq hn36 fun y => ?_, T36.keep, hab⟩
        by_cases e1 : y = "names"
        · subst e1; exact hm1 "names" (by decide)
        by_cases e2 : y = "store"
        · subst e2; rw [est]; exact hm1 "store" (by decide)
        by_cases e3 : y = "box"
        · subst e3; exact hm1 "box" (by decide)
        simp only [if_neg e1, if_neg e2, if_neg e3]
      have back : ∀ y : Str, y ∉ turned2 → (if y = "names" then some (Value.ref nm) else if y = "store" then some (Value.ref R1.st) else if y = "box" then some (Value.ref bx) else m1 y) = lawM sc bx R.st nm y := fun y hy => by
        by_cases e1 : y = "names"
        · subst e1; rfl
        by_cases e2 : y = "store"
        · subst e2; rw [est]; rfl
        by_cases e3 : y = "box"
        · subst e3; rfl
        rw [if_neg e1, if_neg e2, if_neg e3]
        exact hm1 y hy
      have hofZ : ∀ a, a ∈ [J, L + 1 + 1] → a ≠ bx := fun a ha => (T36.offX a ha).1
      have hlen12 : nvs.length = 12 := hnms.length
      have N36 : News h L h36 [] := News.nil
      clear F33 F34 N33 hn35 hn36 hs36
      have X := W.X' S
      have T := W.T' S
      have S := S
      k_steps
      all_goals (try (with_reducible refine hQ2 _ _ ?_))
      refine Held.off ?_
      refine draw_w T36 F36 S (by walk_at "room") i2 v2 (by omega) (by omega) (by decide) (by decide) ?_
      intro h37 t37 x37 u37 T37 F37 k37 a37 b37
      refine gAbs fun G hG => ?_
      have e_J := k37 _ _ (hofZ _ (.head _)) e_J
      have e_oc := k37 _ _ (hofZ _ (.tail _ (.head _))) e_oc
      clear T36 F36 N36
      obtain ⟨vo, hvo⟩ : ∃ v, nvs[x37.toNat]? = some v := ⟨_, List.getElem?_eq_getElem (by omega)⟩
      obtain ⟨old, uo, rfl, ho37⟩ := hnms.item _ _ hvo
      obtain ⟨lo1, lo2, lo3, lo4, lo5⟩ := nm_law (List.mem_of_getElem? ho37)
      obtain ⟨onm, enm, rnm⟩ := T37.nms
      refine hG ?_
      refine item_listL (l := nvs) ⟨onm, of_hideAll _ enm, rnm⟩ a37 (by omega) hvo ?_
      have N37 : News h L h37 (full h h37 [L]) := T37.mkN (l := []) (.head _) fun p hp => by cases hp
      obtain ⟨K37, hK37⟩ : ∃ K, K = full h h37 [L] := ⟨_, rfl⟩
      rw [← hK37] at N37
      have X := W.X' S
      have T := W.T' S
      have S := S
      k_steps
      all_goals (try (with_reducible refine hQ2 _ _ ?_))
      refine Held.off ?_
      refine gAbs fun G hG => ?_
      rename Fr _ _ _ _ => F38
      rename News _ _ _ _ => N38
      obtain ⟨k38, T38⟩ := T37.after F38 (fun p hp => (N38 p (by rw [hK37]; exact hp)).1)
      have e_J := k38 _ _ nJL e_J
      have e_oc := k38 _ _ n2L e_oc
      clear T37 N38 hK37 k38 k37 enm rnm
      refine hG ?_
      refine draw_w T38 F38 S (by walk_at "room") i2 v2 (by omega) (by omega) (by decide) (by decide) ?_
      intro h39 t39 x39 u39 T39 F39 k39 a39 b39
      refine gAbs fun G hG => ?_
      have e_J := k39 _ _ (hofZ _ (.head _)) e_J
      have e_oc := k39 _ _ (hofZ _ (.tail _ (.head _))) e_oc
      clear T38 F38 k39
      obtain ⟨vn, hvn⟩ : ∃ v, nvs[x39.toNat]? = some v := ⟨_, List.getElem?_eq_getElem (by omega)⟩
      obtain ⟨new, un', rfl, hn39⟩ := hnms.item _ _ hvn
      obtain ⟨ln1, ln2, ln3, ln4, ln5⟩ := nm_law (List.mem_of_getElem? hn39)
      obtain ⟨onm, enm, rnm⟩ := T39.nms
      refine hG ?_
      refine item_listL (l := nvs) ⟨onm, of_hideAll _ enm, rnm⟩ a39 (by omega) hvn ?_
      obtain ⟨o1, oO, E1, D1, E2, D2, E3, E4⟩ := T39.ent
      obtain ⟨K39, hK39⟩ : ∃ K, K = full h h39 [L] := ⟨_, rfl⟩
      have N39 : News h L h39 ((R1.st, instObj 293 R1.dS) :: (R1.dS, R1.od) :: K39) := by
        rw [hK39]
        refine T39.mkN (l := [(R1.st, instObj 293 R1.dS), (R1.dS, R1.od)]) (.head _) (allCons (E3) (allCons (E4) allNil))
      obtain ⟨mS, hoS, hwS, mS1, mS2, uS3, mS3⟩ := T39.ok.m
      have X := W.X' S
      have T := W.T' S
      have S := S
      k_steps
      all_goals (try (with_reducible refine hQ2 _ _ ?_))
      refine Held.off ?_
      refine gAbs fun G hG => ?_
      rename Fr _ _ _ _ => F40
      rename News _ _ _ _ => N40
      obtain ⟨k40, T40⟩ := T39.after F40 (fun p hp => (N40 p (.tail _ (.tail _ (by rw [hK39]; exact hp)))).1)
      have e_J := k40 _ _ nJL e_J
      have e_oc := k40 _ _ n2L e_oc
      clear T39 N40 hK39 k40 E1 D1 E2 D2 E3 E4 enm rnm hoS hwS mS1 mS2 mS3
      refine hG ?_
      refine store_told_c W (S.trans T40.keep) (by walk_at "room") T40.ok T40.at_ ?_
      intro h41 t41 vb ss0 hs41 hp0 hso0 tvb
      refine gAbs fun G hG => ?_
      have F41 := frSub hs41 F40
      have tvb := tv_hid F41 (told_noLst _ _) tvb
      have T41 := T40.same fun b ob _ _ q => hs41 b ob q
      have e_J := hs41 _ _ e_J
      have e_oc := hs41 _ _ e_oc
      obtain ⟨o1, oO, E1, D1, E2, D2, E3, E4⟩ := T41.ent
      obtain ⟨K41, hK41⟩ : ∃ K, K = full h h41 [L] := ⟨_, rfl⟩
      have N41 : News h L h41 ((L + 1, o1) :: (dO, oO) :: K41) := by
        rw [hK41]
        refine T41.mkN (l := [(L + 1, o1), (dO, oO)]) (.head _) (allCons (E1) (allCons (E2) allNil))
      clear T40 F40 hs41
      have X := W.X' S
      have T := W.T' S
      have S := S
      refine hG ?_
      k_steps
      all_goals (try (with_reducible refine hQ2 _ _ ?_))
      refine Held.off ?_
      refine gAbs fun G hG => ?_
      rename Fr _ _ _ _ => F41
      rename News _ _ _ _ => N41
      refine hG ?_
      refine law_normal_c W (subF F41 S) (by walk_at "room") (by omega) ?_
      intro h41b t41b u41b hs41b
      have F41 := frSub hs41b F41
      have N41 := newsSub hs41b N41
      k_steps
      all_goals (try (with_reducible refine hQ2 _ _ ?_))
      refine Held.off ?_
      refine gAbs fun G hG => ?_
      rename Fr _ _ _ _ => F41
      rename News _ _ _ _ => N41
      refine hG ?_
      refine law_normal_c W (subF F41 S) (by walk_at "room") (by omega) ?_
      intro h41c t41c u41c hs41c
      have F41 := frSub hs41c F41
      have N41 := newsSub hs41c N41
      k_steps
      all_goals (try (with_reducible refine hQ2 _ _ ?_))
      refine Held.off ?_
      refine gAbs fun G hG => ?_
      rename Fr _ _ _ _ => F42
      rename News _ _ _ _ => N42
      obtain ⟨k42, T42⟩ := T41.after F42 (fun p hp => (N42 p (.tail _ (.tail _ (by rw [hK41]; exact hp)))).1)
      have e_J := k42 _ _ nJL e_J
      have e_oc := k42 _ _ n2L e_oc
      clear N42 E1 D1 E2 D2 E3 E4
      have ho' : normalN old = lawNormal old := lo1.symm
      have hn' : normalN new = lawNormal new := ln1.symm
      have hn2 : normalN (lawNormal new) = lawNormal new := by rw [← hn']; exact ln4
      have hol : (lawNormal old).length ≤ 9 := by rw [← ho']; exact lo3
      have hnl : (lawNormal new).length ≤ 9 := by rw [← hn']; exact ln3
      have hok : lawIsName (lawNormal new) = checkOk (lawNormal new) := by rw [← hn']; exact ln2
      have hkey : ∀ n, n ∈ kvs1.map (·.1) ↔ n ∈ namesOf R1 := fun n => by rw [T42.own.1.mem_iff, names_pbs]
      have hkl : kvs1.length < 60 := by
        have e1 := T42.own.1.length_eq
        rw [List.length_map, List.length_map] at e1
        omega
      have hinb : ("INBOX" : Str) ∈ namesOf R1 := by
        obtain ⟨b, hb, e, -⟩ := phb.inb
        rw [← names_pbs, ← e]; exact List.mem_map_of_mem hb
      generalize lawNormal old = o' at *
      generalize lawNormal new = n' at *
      obtain ⟨oO, eO, dd⟩ := T42.dict
      refine hG ?_
      refine law_pairs_w W (S.trans T42.keep) (by walk_at "room") eO dd T42.lo hkl (by omega) (by omega) (fun n hn => ?_) (fun hD => ?_) ?_
      · rw [hkey, ← names_pbs] at hn
        obtain ⟨b, hb, rfl⟩ := List.mem_map.mp hn
        have := phb.len b hb
        omega
      · skip
        --B{
        have hD : Refused (kvs1.map (·.1)) o' n' (checkOk n') := by rw [← hok]; exact hD
        intro h43 t43 s43
        refine gAbs fun G hG => ?_
        have F43 := frSub s43 F42
        have T43 := T42.same fun b ob _ _ q => s43 b ob q
        have e_J := s43 _ _ e_J
        have e_oc := s43 _ _ e_oc
        have tvb := (tvb.keeps (hid_sub k42)).keeps s43
        obtain ⟨o1, oO, E1, D1, E2, D2, E3, E4⟩ := T43.ent
        obtain ⟨K43, hK43⟩ : ∃ K, K = full h h43 [L, L + 1 + 1] := ⟨_, rfl⟩
        have x2 := T43.offX (L + 1 + 1) (.tail _ (.head _))
        have z2 := T43.new (L + 1 + 1) (.tail _ (.tail _ (.tail _ (.tail _ (.tail _ (.head _))))))
        have r2 : L + 1 + 1 ∉ adrs (led R1) := T43.offR (L + 1 + 1) (.tail _ (.tail _ (.tail _ (.tail _ (.tail _ (.head _))))))
        have N43 : News h L h43 ((L + 1 + 1, oc) :: (R1.st, instObj 293 R1.dS) :: (R1.dS, R1.od) :: K43) := by
          rw [hK43]
          refine T43.mkN (l := [(L + 1 + 1, oc), (R1.st, instObj 293 R1.dS), (R1.dS, R1.od)]) (.head _) (allCons (⟨e_oc, n2L, z2⟩) (allCons (E3) (allCons (E4) allNil)))
        have hU43 : ∀ p ∈ (R1.st, instObj 293 R1.dS) :: (R1.dS, R1.od) :: K43, p.1 ≠ L + 1 + 1 := (allCons (fun z => r2 (List.mem_map.mpr ⟨(R1.st, instObj 293 R1.dS), mem_st (.head _), z⟩)) (allCons (fun z => r2 (List.mem_map.mpr ⟨(R1.dS, R1.od), mem_st (.tail _ (.head _)), z⟩)) (fun p hp => by
            rw [hK43] at hp
            exact fun z => (full_mem.mp hp).2.1 (by rw [z]; exact .tail _ (.head _)))))
        clear E1 D1 E2 D2 E3 E4
        have tvb := tv_hid2 F43 e_oc d_oc (told_noLst _ _) tvb
        refine hG ?_
        k_steps
        all_goals (try (with_reducible refine hQ2 _ _ ?_))
        refine Held.off ?_
        refine gAbs fun G hG => ?_
        rename Fr _ _ _ _ => F44
        rename News _ _ _ _ => N44
        rename _ = Data.cell (some Value.none) => dc2
        rename_i h44 oc2
        have kk := full_keep T43.keep F44.keep (sk := [L, L + 1 + 1]) (fun p hp => (N44 p (.tail _ (.tail _ (.tail _ (by rw [hK43]; exact hp))))).1)
        have T44 := T43.same fun b ob h1 h2 q => kk b ob (by simp only [List.mem_cons, List.not_mem_nil, or_false, not_or]; exact ⟨h1, fun z => h2 (by rw [z]; exact .tail _ (.head _))⟩) q
        have e_J := kk _ _ (by simp only [List.mem_cons, List.not_mem_nil, or_false, not_or]; exact ⟨nJL, nJ.symm⟩) e_J
        have e_c := (N44 _ (.head _)).1
        have tvb := tvb.keeps (hid_sub2 kk)
        have hX44 : ∀ a ∈ [J, L + 1 + 1], ∃ ob, h44.get? a = some ob := (allCons (⟨_, e_J⟩) (allCons (⟨_, e_c⟩) allNil))
        have tvb := tv_hid F44 (told_noLst _ _) tvb
        refine hG ?_
        refine heard_w T44 F44 S (by walk_at "room") rfl (show ScopeKind.function ≠ ScopeKind.module by decide) hX44 phb (by omega) (by omega) (by omega) ho' hn' hn2 (by omega) (by omega) (by omega) ?_ ?_ ?_
        · intro q1 q2 q3; exact (refused_I hkey hinb hD q1 q2 q3).elim
        · intro q1 q2 q3 q4 ss q5 q6 q7; exact (refused_M hkey hD q1 q3 q4 q5 q7).elim
        intro _ h45 t45 k45 F45
        refine gAbs fun G hG => ?_
        have e_J := k45 _ _ nJL e_J
        have e_c := k45 _ _ n2L e_c
        have T45 := T44.same fun b ob hb _ q => k45 b ob hb q
        have tvb := tvb.keeps (hid_sub k45)
        clear hU43 kk N44 T43 T44 hK43 F44 k45 k42 s43
        obtain ⟨o1, oO, E1, D1, E2, D2, E3, E4⟩ := T45.ent
        obtain ⟨K45, hK45⟩ : ∃ K, K = full h h45 [L] := ⟨_, rfl⟩
        have N45 : News h L h45 ((L + 1 + 1, oc2) :: (R1.st, instObj 293 R1.dS) :: (R1.dS, R1.od) :: K45) := by
          rw [hK45]
          refine T45.mkN (l := [(L + 1 + 1, oc2), (R1.st, instObj 293 R1.dS), (R1.dS, R1.od)]) (.head _) (allCons (⟨e_c, n2L, z2⟩) (allCons (E3) (allCons (E4) allNil)))
        obtain ⟨mS, hoS, hwS, mS1, mS2, uS3, mS3⟩ := T45.ok.m
        refine hG ?_
        k_steps
        all_goals (try (with_reducible refine hQ2 _ _ ?_))
        refine Held.off ?_
        refine gAbs fun G hG => ?_
        rename Fr _ _ _ _ => F46
        rename News _ _ _ _ => N46
        refine hG ?_
        refine store_told_c W (S.trans T45.keep) (by walk_at "room") T45.ok T45.at_ ?_
        intro h46 t46 v46 ss1 s46 p46 o46 tv46
        refine gAbs fun G hG => ?_
        have F46 := frSub s46 F46
        have N46 := newsSub s46 N46
        have e_J := s46 _ _ e_J
        have e_c := s46 _ _ e_c
        have T46 := T45.same fun b ob _ _ q => s46 b ob q
        have tvb := tvb.keeps s46
        have ess : ss1 = ss0 := sorted_uniq (p46.trans hp0.symm) o46 hso0
        subst ess
        clear T45 hK45 E1 D1 E2 D2 E3 E4 hoS hwS mS1 mS2 mS3
        refine hG ?_
        k_steps
        all_goals (try (with_reducible refine hQ2 _ _ ?_))
        refine ne_tup (l := [.int R1.nv, .tup [], .tup (ss1.map (toldNm R1))]) tv46 tvb (by have h1 := deep_st R1 ss1; have h2 : un + 8 * 15 < cLine := r.units; show un + 3 + deepL [.int R1.nv, .tup [], .tup (ss1.map (toldNm R1))] + 1 < cLine; omega) ?_
        k_steps
        all_goals (try (with_reducible refine hQ2 _ _ ?_))
        dsimp only
        rename Fr _ _ _ _ => F47
        refine TurnEnd.intro F47.ns ⟨fun y hy => ?_, R1, kvs1, _, T46, by omega, by push_cast; omega, ph1.next, oc2, _, e_c, dc2⟩ (hJ35 _ e_J)
        have hb := back y hy
        simp only [List.mem_cons, List.not_mem_nil, or_false, not_or] at hy
        obtain ⟨y1, y2, y3, y4, y5, y6, -⟩ := hy
        simp only [if_neg y6, if_neg y5, if_neg y4, if_neg y1]
        exact hb
        --B}
      · intro tl PA qm qn qk h43 t43 v43 s43 ⟨PN, pn1, pn2⟩
        have F43 := frSub s43 F42
        have T43 := T42.same fun b ob _ _ q => s43 b ob q
        have hck : checkOk n' = true := by rw [← hok]; exact qk
        have hnew : n' ∉ namesOf R1 := fun z => qn ((hkey _).mpr z)
        have hoR : o' ∈ namesOf R1 := (hkey _).mp qm
        have pnL : ∀ p ∈ PN, p.1 ≠ L ∧ p.1 ≠ L + 1 + 1 ∧ p.1 ∉ adrs (led R1) := fun p hp => by
          have q := (pn1 p hp).2
          refine ⟨fun z => ?_, fun z => ?_, fun z => ?_⟩
          · obtain ⟨oL, _, _, e, _⟩ := F42.ns
            rw [z, e] at q; cases q
          · rw [z, e_oc] at q; cases q
          · obtain ⟨r, hr, e⟩ := List.mem_map.mp z
            have e' : r.1 = p.1 := e
            have := T42.at_ r hr
            rw [e', q] at this; cases this
        have e_J := s43 _ _ e_J
        have e_oc := s43 _ _ e_oc
        have tvb := (tvb.keeps (hid_sub k42)).keeps s43
        have pnA : At h43 PN := fun p hp => (pn1 p hp).1
        have tvp := pn2 h43 pnA
        simp only [Tv] at tvp
        obtain ⟨lp, ysp, rfl, -, -⟩ := tvp
        obtain ⟨o1, oO, E1, D1, E2, D2, E3, E4⟩ := T43.ent
        obtain ⟨K43, hK43⟩ : ∃ K, K = full h h43 [L, L + 1 + 1] := ⟨_, rfl⟩
        have x2 := T43.offX (L + 1 + 1) (.tail _ (.head _))
        have z2 := T43.new (L + 1 + 1) (.tail _ (.tail _ (.tail _ (.tail _ (.tail _ (.head _))))))
        have N43 : News h L h43 ((L + 1 + 1, oc) :: K43) := by
          rw [hK43]
          refine T43.mkN (l := [(L + 1 + 1, oc)]) (.head _) (allOne (⟨e_oc, n2L, z2⟩))
        have hU43 : ∀ p ∈ K43, p.1 ≠ L + 1 + 1 := fun p hp => by
          rw [hK43] at hp
          exact fun z => (full_mem.mp hp).2.1 (by rw [z]; exact .tail _ (.head _))
        clear E1 D1 E2 D2 E3 E4
        have tvb := tv_hid2 F43 e_oc d_oc (told_noLst _ _) tvb
        k_steps
        all_goals (try (with_reducible refine hQ2 _ _ ?_))
        refine Held.off ?_
        refine gAbs fun G hG => ?_
        rename Fr _ _ _ _ => F44
        rename News _ _ _ _ => N44
        rename _ = Data.cell (some (Value.ref lp)) => dc2
        rename_i h44 oc2
        have kk := full_keep T43.keep F44.keep (sk := [L, L + 1 + 1]) (fun p hp => (N44 p (.tail _ (by rw [hK43]; exact hp))).1)
        have T44 := T43.same fun b ob h1 h2 q => kk b ob (by simp only [List.mem_cons, List.not_mem_nil, or_false, not_or]; exact ⟨h1, fun z => h2 (by rw [z]; exact .tail _ (.head _))⟩) q
        have e_J := kk _ _ (by simp only [List.mem_cons, List.not_mem_nil, or_false, not_or]; exact ⟨nJL, nJ.symm⟩) e_J
        have e_c := (N44 _ (.head _)).1
        have tvb := tvb.keeps (hid_sub2 kk)
        have pnA : At h44 PN := fun p hp => kk _ _ (by simp only [List.mem_cons, List.not_mem_nil, or_false, not_or]; exact ⟨(pnL p hp).1, (pnL p hp).2.1⟩) (pnA p hp)
        have hX44 : ∀ a ∈ [J, L + 1 + 1], ∃ ob, h44.get? a = some ob := (allCons (⟨_, e_J⟩) (allCons (⟨_, e_c⟩) allNil))
        have ok1 := T44.ok
        have T44x := T44.at_
        refine hG ?_
        refine heard2_w T44 F44 S (by walk_at "room") rfl (show ScopeKind.function ≠ ScopeKind.module by decide) hX44 phb (by omega) (by omega) (by omega) ho' hn' hn2 (by omega) (by omega) (by omega) (by have := T42.own.1; rw [names_pbs] at this; exact this) PA hoR hck hnew ?_
        intro h45 t45 R2 v45 T45 F45 k45 es45 HA tv45
        refine gAbs fun G hG => ?_
        have e_J := k45 _ _ (T44.offR J (.tail _ (.tail _ (.tail _ (.tail _ (.head _)))))) e_J
        have e_c := k45 _ _ (T44.offR (L + 1 + 1) (.tail _ (.tail _ (.tail _ (.tail _ (.tail _ (.head _))))))) e_c
        have pnA : At h45 PN := fun p hp => k45 _ _ (pnL p hp).2.2 (pnA p hp)
        have N45 : News h L h45 [(L + 1 + 1, oc2)] := (allOne (⟨e_c, n2L, z2⟩))
        have tvp := pn2 h45 pnA
        have hX45 : ∀ a ∈ [J, L + 1 + 1], ∃ ob, h45.get? a = some ob := (allCons (⟨_, e_J⟩) (allCons (⟨_, e_c⟩) allNil))
        clear hU43 kk N44 T43 T44 hK43 F44 k42 s43 pnL pn1 pn2 pnA
        have stp : StopTok 2 := .mk _
        refine hG ?_
        k_steps
        all_goals (try (with_reducible refine hQ2 _ _ ?_))
        refine ne_lst (l := tl) tv45 tvp (by
          have h2 : un + 8 * 15 < cLine := r.units
          have h1 := PA.flat
          show un + 3 + deepL tl + 1 < cLine
          omega) ?_
        clear tv45 PA
        k_steps
        all_goals (try (with_reducible refine hQ2 _ _ ?_))
        refine Held.off ?_
        refine wpAny_mono (Q := fun f s' => f = Flow.next ∧ Mid2 W h L bx ce dO nm [J, L + 1 + 1] vs' nvs sc R.st J oJ i (pl1 + 1 + 1) g d o s') ?_ (fun f s' hm => ?_) (fun _ _ e => e)
        · refine wp_absQ fun Q3 hQ3 E3 => ?_
          cases HA with
          | I qO en45 ep45 =>
            simp only [Tv, TvL] at tvp
            obtain ⟨_, _, e1, hl45, _, _, rfl, ⟨T0, _, rfl, hT0, _, _, rfl, ⟨u1, rfl⟩, _, _, rfl, ⟨u2, rfl⟩, rfl⟩, rfl⟩ := tvp
            injection e1 with e1
            subst e1
            simp only [toldSt, Tv, TvL] at tvb
            obtain ⟨TB, _, rfl, hTB, _, wB, rfl, ⟨uB, rfl⟩, -⟩ := tvb
            have hTB45 : IsTup h45 TB (Value.int R1.nv uB :: wB).toArray := by
              obtain ⟨ob, e, ec, nB, ed⟩ := hTB
              refine ⟨ob, k45 _ _ (fun hm => ?_) e, ec, nB, ed⟩
              obtain ⟨p, hp, ep⟩ := List.mem_map.mp hm
              have ep : p.1 = TB := ep
              have e2 := T44x p hp
              rw [ep, e] at e2
              obtain ⟨b, hb, x, hx, epx⟩ := tup_led ok1 hp (by rw [← Option.some.inj e2]; exact ⟨ec, _, nB, ed⟩)
              have e3 : p.2 = tupO [] := by rw [epx]; exact ((ok1.boxes b hb).lets x hx).fl
              rw [Option.some.inj e2, e3] at ed
              simp only [Data.seq.injEq] at ed
              have := congrArg Array.size ed.1
              simp at this
            have hT0' : IsTup h45 T0 #[.str "INBOX" u1, .str n' u2] := hT0
            obtain ⟨⟨kI, vI⟩, hkI, ekI⟩ := List.mem_map.mp ((hkey "INBOX").mpr hinb)
            have ekI : kI = "INBOX" := ekI
            subst ekI
            obtain ⟨b0, hb0, en0, tv0⟩ := T45.own.2 _ hkI
            dsimp only at en0 tv0
            obtain ⟨bI, hbI, ebI, ebv, ebl⟩ := phb.inb
            have eb0 : b0 = bI := pb_uniq phb.nd hb0 hbI (en0.trans ebI.symm)
            subst eb0
            obtain ⟨Ti, uTi, li, ysI, rfl, hTi, hli, hysI⟩ := own_tv tv0
            rw [ebl, List.map_nil, TvL] at hysI
            subst hysI
            have hTi45 : IsTup h45 Ti #[.int b0.val uTi, .ref li] := by obtain ⟨ob, e, r⟩ := hTi; exact ⟨ob, of_hideAll _ e, r⟩
            have hvalI : valueAt kvs1 "INBOX" = some (.ref Ti) := (ownVal_of (T45.own.1.nodup_iff.mpr phb.nd) hkI).1
            obtain ⟨o1, oO, E1, D1, E2, D2, E3, E4⟩ := T45.ent
            have lo45 := T45.lo
            obtain ⟨K45, hK45⟩ : ∃ K, K = full h h45 [L, dO] := ⟨_, rfl⟩
            have N46 : News h L h45 ((dO, oO) :: (L + 1, o1) :: (L + 1 + 1, oc2) :: K45) := by
              rw [hK45]
              refine T45.mkN (l := [(dO, oO), (L + 1, o1), (L + 1 + 1, oc2)]) (.head _) (allCons (E2) (allCons (E1) (allCons (⟨e_c, n2L, z2⟩) allNil)))
            have hU46 : ∀ p ∈ (L + 1, o1) :: (L + 1 + 1, oc2) :: K45, p.1 ≠ dO := (allCons (T45.ne.2.2.symm) (allCons (x2.2.1) (fun p hp => by
                rw [hK45] at hp
                exact fun z => (full_mem.mp hp).2.1 (by rw [z]; exact .tail _ (.head _)))))
            have hnk : n' ∉ kvs1.map (·.1) := qn
            have hlp2 : ∃ ob, h45.get? lp = some ob ∧ (ob.cls = .type "list" ∧ ∃ n, ob.data = .seq (Value.ref T0 :: []).toArray n) ∧ lp ∉ [L, dO] := by
              obtain ⟨ob, e, ec, n, ed⟩ := hl45
              exact ⟨ob, e, ⟨ec, n, ed⟩, seq_off F45 E2.1 D2 e ed⟩
            have hT02 : ∃ ob, h45.get? T0 = some ob ∧ (ob.cls = .type "tuple" ∧ ∃ n, ob.data = .seq #[.str "INBOX" u1, .str n' u2] n) ∧ T0 ∉ [L, dO] := by
              obtain ⟨ob, e, ec, n, ed⟩ := hT0'
              exact ⟨ob, e, ⟨ec, n, ed⟩, seq_off F45 E2.1 D2 e ed⟩
            clear E1 E3 E4 hTB hT0 e_oc
            have stp : StopTok 4 := .mk _
            have st5 : StopTok 5 := .mk _
            k_steps
            all_goals (try (with_reducible refine hQ3 _ _ ?_))
            refine Held.off ?_
            refine item_lstX0 hl45 ?_
            k_steps
            all_goals (try (with_reducible refine hQ3 _ _ ?_))
            refine Held.off ?_
            refine item_pair0 hT0' ?_ (by with_unfolding_all rfl)
            k_steps
            all_goals (try (with_reducible refine hQ3 _ _ ?_))
            refine Held.off ?_
            refine item_tupX0 hTB45 ?_ (by with_unfolding_all rfl)
            k_steps
            all_goals (try (with_reducible refine hQ3 _ _ ?_))
            refine Held.off ?_
            refine item_pair1 hTi45 ?_ (by with_unfolding_all rfl)
            k_steps
            all_goals (try (with_reducible refine hQ3 _ _ ?_))
            refine Held.off ?_
            refine gAbs fun G hG => ?_
            rename Fr _ _ _ _ => F46
            rename News _ _ _ _ => N46
            rename_i Ta h46 hlA _ _
            have kk46 := full_keep T45.keep F46.keep (sk := [L, dO]) (fun p hp => (N46 p (.tail _ (.tail _ (.tail _ (.tail _ (by rw [hK45]; exact hp)))))).1)
            obtain ⟨olp, elp, rlp, zlp⟩ := hlp2
            obtain ⟨oT0, eT0, rT0, zT0⟩ := hT02
            refine hG ?_
            refine item_lstX0 ⟨olp, kk46 _ _ zlp elp, rlp⟩ ?_
            k_steps
            all_goals (try (with_reducible refine hQ3 _ _ ?_))
            refine Held.off ?_
            refine item_pair1 (x := .str "INBOX" u1) ⟨oT0, kk46 _ _ zT0 eT0, rT0⟩ ?_ (by with_unfolding_all rfl)
            clear kk46
            k_steps
            all_goals (try (with_reducible refine hQ3 _ _ ?_))
            refine Held.off ?_
            refine gAbs fun G hG => ?_
            rename Obj.IsDictOf _ _ _ => d47
            rw [stored_new hnk] at d47
            have hl47 : (kvs1 ++ [(n', Value.ref Ta)]).length ≤ 61 := by rw [List.length_append, List.length_singleton]; omega
            refine hG ?_
            k_steps
            all_goals (try (with_reducible refine hQ3 _ _ ?_))
            rename Fr _ _ _ _ => F48
            rename News _ _ _ _ => N48
            rename Obj.IsDictOf _ _ _ => d48
            rename_i lb _ hlb Tb _ _ _ hTbl _ _ h48 oB8
            rw [stored_old (List.mem_map.mpr ⟨_, List.mem_append_left _ hkI, rfl⟩)] at d48
            have kk48 := full_keep T45.keep F48.keep (sk := [L, dO]) (fun p hp => (N48 p (.tail _ (.tail _ (.tail _ (.tail _ (.tail _ (.tail _ (by rw [hK45]; exact hp)))))))).1)
            have zT : ∀ q : Addr, (∀ p ∈ K45, p.1 < q) → q ≠ L → q ≠ dO → q ∉ zone L bx dO [J, L + 1 + 1] R2 := fun q lt a b => T45.off_zone hX45 (sk := [L, dO]) (.head _) (by rw [← hK45]; exact lt) (fun x hx => by
              rcases List.mem_cons.mp hx with z | hx
              · rw [z]; exact a
              · rw [List.mem_singleton.mp hx]; exact b)
            have w1 := N48 _ (.head _)
            have w2 := N48 _ (.tail _ (.head _))
            have w3 := N48 _ (.tail _ (.tail _ (.head _)))
            have bsN := phb.add (n := n') (v := R1.nv) (by rw [names_pbs]; exact hnew) ⟨hck, hn2⟩ (by omega)
            rw [← ep45] at bsN
            have T48 := T45.dic (fun b ob h1 _ h3 q => kk48 b ob (by simp [h1, h3]) q) ⟨oB8, (N48 _ (.tail _ (.tail _ (.tail _ (.head _))))).1, d48⟩ (bs2 := pbs R2) (fun im => by
              have oa := (T45.own.keeps im).add (b := ⟨n', R1.nv, 1, 1, []⟩) (v := .ref Ta) (by
                simp only [ownT, List.map_nil, Tv]
                obtain ⟨oli, eli, rli⟩ := hli
                exact ⟨Ta, [_, _], rfl, ⟨_, hideAll_get _ w3.1 (zT Ta (allLt_mem hlA.2.2.2) w3.2.1 (gtNe hlA.1)), rfl, 0, rfl⟩, tvl_cons (tv_int _ _) (tvl_cons (by simp only [Tv]; exact ⟨li, [], rfl, ⟨oli, im _ _ eli, rli⟩, tvl_nil⟩) tvl_nil)⟩)
              rw [← ep45] at oa
              refine oa.put (n := "INBOX") (v := .ref Tb) (fun b hb eb => ?_)
              obtain ⟨bJ, hbJ, eJ1, eJ2, eJ3⟩ := bsN.inb
              have : b = bJ := pb_uniq bsN.nd hb hbJ (eb.trans eJ1.symm)
              subst this
              simp only [ownT, eJ2, eJ3, List.map_nil, Tv]
              exact ⟨Tb, [_, _], rfl, ⟨_, hideAll_get _ w1.1 (zT Tb (allLt_mem hTbl.2.2.2.2.2) w1.2.1 (gtNe hTbl.2.2.1)), rfl, 0, rfl⟩, tvl_cons (tv_int _ _) (tvl_cons (by simp only [Tv]; exact ⟨lb, [], rfl, ⟨_, hideAll_get _ w2.1 (zT lb (allLt_mem hlb.2.2.2.2) w2.2.1 (gtNe hlb.2.1)), rfl, 0, rfl⟩, tvl_nil⟩) tvl_nil)⟩)
            refine ⟨rfl, R2, _, h48, _, _, rfl, T48, F48, fun y hy => ?_, ⟨es45.trans est, bsN.mono (by omega), by rw [ep45, List.length_append, List.length_singleton]; omega, by omega, by push_cast; omega⟩, kk48 _ _ (by simp [nJL, (T45.offX J (.head _)).2.1]) e_J, oc2, _, kk48 _ _ (by simp [n2L, x2.2.1]) e_c, dc2⟩
            have hb := back y hy
            simp only [List.mem_cons, List.not_mem_nil, or_false, not_or] at hy
            obtain ⟨y1, y2, y3, y4, y5, y6, -⟩ := hy
            simp only [if_neg y6, if_neg y5, if_neg y4, if_neg y1]
            exact hb
          | P ss' qO q5 qs q7 tk45 en45 ep45 =>
            have tvb := tvb.tk (told_noLst _ _) tk45
            have hfree : ∀ n ∈ namesOf R1, hitP o' n = true → goalOf o' n' n ∉ namesOf R1 := fun n hn hh => q7 (n, goalOf o' n' n) ((ps_mem q5).mpr ⟨n, hn, hh, rfl⟩)
            refine gAbs fun G hG => ?_
            obtain ⟨rr, hrr⟩ := hits_head qs (q5.mem_iff.mpr hoR)
            have hps : psOf o' n' ss' = (o', n') :: rr.map fun n => (n, goalOf o' n' n) := by
              unfold psOf
              rw [hrr, List.map_cons, goal_old]
            simp only [Tv] at tvp
            obtain ⟨lp2, ysq, e1, hl45, tvl⟩ := tvp
            injection e1 with e1
            subst e1
            have tvl2 := tvl
            rw [hps, List.map_cons] at tvl2
            simp only [Tv, TvL, toldP] at tvl2
            obtain ⟨_, ysr, rfl, ⟨T0, _, rfl, hT0, _, _, rfl, ⟨u1, rfl⟩, _, _, rfl, ⟨u2, rfl⟩, rfl⟩, hysr⟩ := tvl2
            have hT0' : IsTup h45 T0 #[.str o' u1, .str n' u2] := hT0
            rename Fr _ _ _ _ => F46
            have F46' := fr_known (st := R2.st) F46 rfl (by rw [es45]; rfl) rfl rfl rfl
            refine hG ?_
            have hLX : L ∉ [J, L + 1 + 1] := fun z => by
              rcases List.mem_cons.mp z with z | z
              · exact nJL z.symm
              · exact n2L (List.mem_singleton.mp z).symm
            refine move_w W S r T45 F46' hi4 hLX hX45 (.tail _ (.head _)) e_c dc2 hl45 hT0' tvl q5 phb (by omega) ok1 (by omega) (by omega) ep45 en45 ho' hn' lo5 ln5 hol hnl (by rw [← ho']; exact lo4) hn2 hoR qO hck hnew hfree tvb hp0 hso0 ?_
            intro h6 t6 m6 R6 kvs6 T6 F6 hm6 kX6 es6 en6 p6
            have bsM := (phb.move (hg := ⟨hck, hn2⟩) (hl := hnl) qO (by rw [names_pbs]; exact hfree)).perm (p6.trans ep45)
            have l6 : (pbs R6).length = (pbs R1).length := by rw [(p6.trans ep45).length_eq, List.length_map]
            refine hQ3 _ _ ⟨rfl, R6, kvs6, h6, t6, m6, rfl, T6, F6, fun y hy => ?_, ⟨es6.trans (es45.trans est), bsM.mono (by omega), by omega, by omega, by push_cast; omega⟩, kX6 J (.head _) _ e_J, oc2, _, kX6 _ (.tail _ (.head _)) _ e_c, dc2⟩
            have hb := back y hy
            simp only [List.mem_cons, List.not_mem_nil, or_false, not_or] at hy
            obtain ⟨y1, y2, y3, y4, y5, y6, y7, y8, y9⟩ := hy
            rw [hm6 y y7 y8 y9]
            by_cases z3 : y = "store"
            · subst z3; rw [if_neg y1, if_pos rfl, es45, est]; rfl
            · rw [if_neg y1, if_neg z3, if_neg y6, if_neg y4, if_neg y5]
              simp only [if_neg y6, if_neg y5, if_neg y4, if_neg y1]
              exact hb
        · obtain ⟨rfl, R5, kvs5, h50, t50, m5, rfl, T50, F50, hm5, ph5, e_J5, oc5, v5, e_c5, d_c5⟩ := hm
          dsimp only
          have e5 : m5 "store" = some (Value.ref R5.st) := by rw [ph5.1]; exact hm5 "store" (by decide)
          have F50 : Fr h L h50 (fun y : Str => if y = "store" then some (Value.ref R5.st) else m5 y) := ⟨nsEq F50.ns fun y => by
            by_cases e : y = "store"
            · rw [if_pos e, e]; exact e5
            · rw [if_neg e], F50.keep, F50.above⟩
          obtain ⟨o1, oO, E1, D1, E2, D2, E3, E4⟩ := T50.ent
          obtain ⟨K50, hK50⟩ : ∃ K, K = full h h50 [L] := ⟨_, rfl⟩
          have N50 : News h L h50 ((L + 1, o1) :: K50) := by
            rw [hK50]
            refine T50.mkN (l := [(L + 1, o1)]) (.head _) (allOne (E1))
          clear E1 E3 E4
          k_steps
          all_goals (try (with_reducible refine hQ2 _ _ ?_))
          refine Held.off ?_
          refine gAbs fun G hG => ?_
          rename Fr _ _ _ _ => F51
          rename News _ _ _ _ => N51
          obtain ⟨oO5, eO5, dd5⟩ := T50.dict
          have hkl5 : kvs5.length < 60 := by
            have e1 := T50.own.1.length_eq
            rw [List.length_map, List.length_map] at e1
            have := ph5.3
            omega
          refine hG ?_
          refine law_is_told_c W (S.trans T50.keep) (by walk_at "room") T50.ok T50.at_ eO5 dd5 T50.lo hkl5 ⟨T50.own.1, fun kv hm => let ⟨b, hb, e, tv⟩ := T50.own.2 kv hm; ⟨b, hb, e, tv.keeps fun b ob q => of_hideAll _ q⟩⟩ (fun n hn => ?_) ?_
          · rw [← names_pbs] at hn
            obtain ⟨b, hb, rfl⟩ := List.mem_map.mp hn
            exact (ph5.2.good b hb).2
          intro h52 t52 s52
          have F52 := frSub s52 F51
          have N52 := newsSub s52 N51
          have T52 := T50.same fun b ob _ _ q => s52 b ob q
          have e_J := s52 _ _ e_J5
          have e_c := s52 _ _ e_c5
          clear T50 F51 N51 hK50
          k_steps
          all_goals (try (with_reducible refine hQ2 _ _ ?_))
          dsimp only
          rename Fr _ _ _ _ => F53
          refine TurnEnd.intro F53.ns ⟨fun y hy => ?_, R5, kvs5, _, T52, by omega, by push_cast; omega, ph5, oc5, _, e_c, d_c5⟩ (hJ35 _ e_J)
          show (if y = "store" then some (Value.ref R5.st) else m5 y) = _
          by_cases e : y = "store"
          · rw [if_pos e, e, ph5.1]; rfl
          · rw [if_neg e]; exact hm5 y hy
    · rintro m' h' t' ⟨-, R5, kvs5, pl5, T5, -⟩ hn'
      have F5 : Fr h L h' m' := ⟨hn', T5.keep, hab⟩
      have N5 : News h L h' [] := News.nil
      clear F34 F33 N33
      dsimp only
      k_steps
      all_goals (try (with_reducible refine hQ1 _ _ ?_))
      dsimp only
      exact k _ _ (Fr.keep (by assumption))
end

end
end Mine
set_option maxHeartbeats 8000000 in
theorem PySem.Challenge.cw_nz0304_01_holds : PySem.Challenge.rw_nz0304_01.Holds := by
  w_on
  refine holds_law Mine.said_ok fun said => ?_
  refine holds_open (q := Mine.viewP) (loose := ["PostError"]) (Xt := Mine.xtP) (XP := XL Mine.viewP []) (Yf := Hook.obs Mine.hookK) (Ya := Hook.val Mine.hookK) (YP := Hook.says Mine.hookK) (N := 5828) Mine.left_top (Hook.of Mine.hookK) (Hook.keeps Mine.hookK) (fun s e => xl_of s (Bool.and_eq_true_iff.mp e).1) XL.keeps (by rfl) (by rfl) (by rfl) (fun s e => recFacts_of (Bool.and_eq_true_iff.mp e).2) (by rfl) (by first | assumption | decide +kernel) (by decide +kernel) ⟨rfl, rfl, rfl, rfl, rfl, by decide +kernel⟩ ?hw ?hc
  case hw => w_witness2
  intro w s₀ s₁ mg mb G Y fa o pm cd doc dV kV ho hd1 hcd hD hmg hg args vals as hpre hlay hrd hwl hlo
  have KX : (Mine.K39 w.params).In s₁.heap := kIn_of Y
  refine Ground.open G ?_
  intro T B D TE TW
  wrow_args hpre hlay hrd hwl hlo
  rename Heap.IsList _ _ _ => hL
  rename IntsAre _ _ => hI
  rename ¬ _ < _ => hlen
  have TR := topRead_of T
  clear hcd hD hd1 G Y D TE TW B
  have e1 : mg (Str.ofString "law") = some (Value.ref 420) := mg_of KX TR.g (by kernel_rfl)
  rw [e1] at hmg
  have hfa : fa = 420 := by simpa using hmg.symm
  subst hfa
  have hl63 := hI.length
  obtain ⟨hp, gs, dr, tk, os⟩ := s₁
  refine Mine.law_c ⟨w, hp, mg, mb, _, _, KX, TR⟩ (Mine.Sub.refl _) ⟨by decide, by decide⟩ hL hI (by omega) ?_
  intro h' t' hsub
  refine GoodW.toG ⟨.inl ⟨_, .bool true, [], rfl, fun _ => rfl, .bool true, ?_, fun _ => ⟨.nil, fun a z => by cases z⟩⟩, hsub, rfl, hg⟩
  refine postW_of (X := true) (by rfl) ?_ rfl
  show WTm.value _ (WTm.eq .res (.lit (.bool true))) _ = _
  simp [WTm.value]
  decide +kernel
