import PyProof.Rows.All
import Wide.All
import OpenK.AllK
import Wide.FinOn
import Lean
import PySem.Challenge.RW_xw0306_01
set_option Elab.async false
namespace Mine
section
open PySem PySem.W PyProof.Rows
set_option maxRecDepth 100000
set_option maxHeartbeats 0
set_option linter.unusedVariables false
abbrev PB : List Stmt := PySem.Challenge.pw_xw0306_01.main.body
def nthS : Nat → List Stmt → Stmt
  | 0, s :: _ => s
  | n + 1, _ :: l => nthS n l
  | _, [] => .Pass ⟨0, 0, 0, 0⟩
def inCls (j : Nat) : Stmt → Stmt
  | .ClassDef _ _ _ b .. => nthS j b
  | s => s
noncomputable abbrev mk (s : Stmt) (f : Str → Arguments → List Stmt → Scope → Obj) (n : Str) (a : Arguments) (b : List Stmt) (d : List PySem.Expr) (r : Option PySem.Expr) (t : List TypeParam) (sc : Scope) (ts : Option Scope) (bd : Str) (ps : Pos) (_ : s = .FunctionDef n a b d r t sc ts bd ps) : Obj := f n a b sc
noncomputable def ob2 (P : Params) : Obj := ⟨.none, none, (.dict #[⟨(PyData.keyHash P (.ofString "type.__subclasses__.Exception.0")), (.str (.ofString "type.__subclasses__.Exception.0") 219), (.int 34 0)⟩, ⟨(PyData.keyHash P (.ofString "type.__subclasses__.Exception.n")), (.str (.ofString "type.__subclasses__.Exception.n") 220), (.int 1 0)⟩] 2), #[]⟩
noncomputable def ob3 (P : Params) : Obj := ⟨(.type "dict"), none, (.dict #[⟨(PyData.keyHash P (.ofString "__name__")), (.str (.ofString "__name__") 165), (.str (.ofString "law_xw0306_01") 781)⟩, ⟨(PyData.keyHash P (.ofString "__doc__")), (.str (.ofString "__doc__") 166), .none⟩, ⟨(PyData.keyHash P (.ofString "__package__")), (.str (.ofString "__package__") 167), .none⟩, ⟨(PyData.keyHash P (.ofString "__loader__")), (.str (.ofString "__loader__") 168), (.builtin "__main__.__loader__#opaque")⟩, ⟨(PyData.keyHash P (.ofString "__spec__")), (.str (.ofString "__spec__") 169), .none⟩, ⟨(PyData.keyHash P (.ofString "__annotations__")), (.str (.ofString "__annotations__") 170), (.ref 6)⟩, ⟨(PyData.keyHash P (.ofString "__builtins__")), (.str (.ofString "__builtins__") 171), (.ref 4)⟩, ⟨(PyData.keyHash P (.ofString "__file__")), (.str (.ofString "__file__") 173), (.str (.ofString "/claim/cut.py") 172)⟩, ⟨(PyData.keyHash P (.ofString "__cached__")), (.str (.ofString "__cached__") 174), .none⟩, ⟨(PyData.keyHash P (.ofString "SnobolError")), (.str (.ofString "SnobolError") 222), (.ref 34)⟩, ⟨(PyData.keyHash P (.ofString "Failure")), (.str (.ofString "Failure") 242), (.ref 47)⟩, ⟨(PyData.keyHash P (.ofString "Pattern")), (.str (.ofString "Pattern") 271), (.ref 68)⟩, ⟨(PyData.keyHash P (.ofString "Delayed")), (.str (.ofString "Delayed") 300), (.ref 89)⟩, ⟨(PyData.keyHash P (.ofString "NameRef")), (.str (.ofString "NameRef") 333), (.ref 110)⟩, ⟨(PyData.keyHash P (.ofString "is_fail")), (.str (.ofString "is_fail") 340), (.ref 121)⟩, ⟨(PyData.keyHash P (.ofString "fits")), (.str (.ofString "fits") 348), (.ref 128)⟩, ⟨(PyData.keyHash P (.ofString "whole_of_text")), (.str (.ofString "whole_of_text") 359), (.ref 135)⟩, ⟨(PyData.keyHash P (.ofString "text_of_whole")), (.str (.ofString "text_of_whole") 368), (.ref 142)⟩, ⟨(PyData.keyHash P (.ofString "to_whole")), (.str (.ofString "to_whole") 376), (.ref 149)⟩, ⟨(PyData.keyHash P (.ofString "to_text")), (.str (.ofString "to_text") 383), (.ref 156)⟩, ⟨(PyData.keyHash P (.ofString "need_text")), (.str (.ofString "need_text") 391), (.ref 163)⟩, ⟨(PyData.keyHash P (.ofString "COUNTED")), (.str (.ofString "COUNTED") 399), (.ref 164)⟩, ⟨(PyData.keyHash P (.ofString "SIGNED")), (.str (.ofString "SIGNED") 404), (.ref 165)⟩, ⟨(PyData.keyHash P (.ofString "WIDTH_OF_COUNT")), (.str (.ofString "WIDTH_OF_COUNT") 406), (.int 64 405)⟩, ⟨(PyData.keyHash P (.ofString "plain_count")), (.str (.ofString "plain_count") 416), (.ref 173)⟩, ⟨(PyData.keyHash P (.ofString "plain_signs")), (.str (.ofString "plain_signs") 425), (.ref 180)⟩, ⟨(PyData.keyHash P (.ofString "pattern_of")), (.str (.ofString "pattern_of") 433), (.ref 187)⟩, ⟨(PyData.keyHash P (.ofString "is_delayed")), (.str (.ofString "is_delayed") 440), (.ref 194)⟩, ⟨(PyData.keyHash P (.ofString "settled")), (.str (.ofString "settled") 449), (.ref 201)⟩, ⟨(PyData.keyHash P (.ofString "OPENING")), (.str (.ofString "OPENING") 453), (.str (.ofString "(") 452)⟩, ⟨(PyData.keyHash P (.ofString "CLOSING")), (.str (.ofString "CLOSING") 455), (.str (.ofString ")") 454)⟩, ⟨(PyData.keyHash P (.ofString "chars_end")), (.str (.ofString "chars_end") 465), (.ref 208)⟩, ⟨(PyData.keyHash P (.ofString "len_end")), (.str (.ofString "len_end") 474), (.ref 215)⟩, ⟨(PyData.keyHash P (.ofString "pos_end")), (.str (.ofString "pos_end") 482), (.ref 222)⟩, ⟨(PyData.keyHash P (.ofString "rpos_end")), (.str (.ofString "rpos_end") 491), (.ref 229)⟩, ⟨(PyData.keyHash P (.ofString "tab_end")), (.str (.ofString "tab_end") 500), (.ref 236)⟩, ⟨(PyData.keyHash P (.ofString "rtab_end")), (.str (.ofString "rtab_end") 510), (.ref 243)⟩, ⟨(PyData.keyHash P (.ofString "rem_end")), (.str (.ofString "rem_end") 517), (.ref 250)⟩, ⟨(PyData.keyHash P (.ofString "any_at")), (.str (.ofString "any_at") 526), (.ref 257)⟩, ⟨(PyData.keyHash P (.ofString "notany_at")), (.str (.ofString "notany_at") 535), (.ref 264)⟩, ⟨(PyData.keyHash P (.ofString "run_end")), (.str (.ofString "run_end") 545), (.ref 271)⟩, ⟨(PyData.keyHash P (.ofString "span_end")), (.str (.ofString "span_end") 555), (.ref 278)⟩, ⟨(PyData.keyHash P (.ofString "break_end")), (.str (.ofString "break_end") 565), (.ref 285)⟩, ⟨(PyData.keyHash P (.ofString "bal_end")), (.str (.ofString "bal_end") 574), (.ref 292)⟩, ⟨(PyData.keyHash P (.ofString "bal_ends")), (.str (.ofString "bal_ends") 584), (.ref 299)⟩, ⟨(PyData.keyHash P (.ofString "one_end")), (.str (.ofString "one_end") 594), (.ref 306)⟩, ⟨(PyData.keyHash P (.ofString "plain_end")), (.str (.ofString "plain_end") 603), (.ref 313)⟩, ⟨(PyData.keyHash P (.ofString "LOST")), (.str (.ofString "LOST") 607), (.str (.ofString "lost") 606)⟩, ⟨(PyData.keyHash P (.ofString "match_plain")), (.str (.ofString "match_plain") 619), (.ref 320)⟩, ⟨(PyData.keyHash P (.ofString "match_at")), (.str (.ofString "match_at") 630), (.ref 327)⟩, ⟨(PyData.keyHash P (.ofString "tried")), (.str (.ofString "tried") 645), (.ref 334)⟩, ⟨(PyData.keyHash P (.ofString "advanced")), (.str (.ofString "advanced") 661), (.ref 341)⟩, ⟨(PyData.keyHash P (.ofString "led_in")), (.str (.ofString "led_in") 673), (.ref 348)⟩, ⟨(PyData.keyHash P (.ofString "led_out")), (.str (.ofString "led_out") 689), (.ref 355)⟩, ⟨(PyData.keyHash P (.ofString "steered")), (.str (.ofString "steered") 701), (.ref 362)⟩, ⟨(PyData.keyHash P (.ofString "taken")), (.str (.ofString "taken") 718), (.ref 369)⟩, ⟨(PyData.keyHash P (.ofString "PlainHost")), (.str (.ofString "PlainHost") 780), (.ref 407)⟩, ⟨(PyData.keyHash P (.ofString "_law_said")), (.str (.ofString "_law_said") 792), (.ref 418)⟩, ⟨(PyData.keyHash P (.ofString "law")), (.str (.ofString "law") 798), (.ref 423)⟩] 59), #[]⟩
noncomputable def ob11 (P : Params) : Obj := ⟨(.type "tuple"), none, (.seq #[] 0), #[]⟩
noncomputable def ob12 (P : Params) : Obj := ⟨.none, none, (.fields #[(.int 2 0), (.int 0 0), (.ref 21), (.int 8 0), (.int 0 0), (.ref 43), (.int 10 0), (.int 0 0), (.ref 57), (.int 14 0), (.int 0 0), (.ref 78), (.int 18 0), (.int 0 0), (.ref 99), (.int 24 0), (.int 0 0), (.ref 120), (.int 26 0), (.int 0 0), (.ref 127), (.int 28 0), (.int 0 0), (.ref 134), (.int 41 0), (.int 0 0), (.ref 141), (.int 47 0), (.int 0 0), (.ref 148), (.int 51 0), (.int 0 0), (.ref 155), (.int 55 0), (.int 0 0), (.ref 162), (.int 64 0), (.int 0 0), (.ref 172), (.int 71 0), (.int 0 0), (.ref 179), (.int 76 0), (.int 0 0), (.ref 186), (.int 85 0), (.int 0 0), (.ref 193), (.int 87 0), (.int 0 0), (.ref 200), (.int 99 0), (.int 0 0), (.ref 207), (.int 102 0), (.int 0 0), (.ref 214), (.int 104 0), (.int 0 0), (.ref 221), (.int 106 0), (.int 0 0), (.ref 228), (.int 108 0), (.int 0 0), (.ref 235), (.int 110 0), (.int 0 0), (.ref 242), (.int 113 0), (.int 0 0), (.ref 249), (.int 115 0), (.int 0 0), (.ref 256), (.int 117 0), (.int 0 0), (.ref 263), (.int 119 0), (.int 0 0), (.ref 270), (.int 123 0), (.int 0 0), (.ref 277), (.int 126 0), (.int 0 0), (.ref 284), (.int 129 0), (.int 0 0), (.ref 291), (.int 142 0), (.int 0 0), (.ref 298), (.int 148 0), (.int 0 0), (.ref 305), (.int 168 0), (.int 0 0), (.ref 312), (.int 172 0), (.int 0 0), (.ref 319), (.int 178 0), (.int 0 0), (.ref 326), (.int 181 0), (.int 0 0), (.ref 333), (.int 199 0), (.int 0 0), (.ref 340), (.int 214 0), (.int 0 0), (.ref 347), (.int 225 0), (.int 0 0), (.ref 354), (.int 232 0), (.int 0 0), (.ref 361), (.int 240 0), (.int 0 0), (.ref 368), (.int 257 0), (.int 0 0), (.ref 375), (.int 284 0), (.int 0 0), (.ref 417), (.int 292 0), (.int 0 0), (.ref 422)]), #[]⟩
noncomputable def ob13 (P : Params) : Obj := ⟨(.type "code"), none, (.fields #[(.str (.ofString "<module>") 182), (.str (.ofString "<module>") 183), (.str (.ofString "/claim/cut.py") 184), (.int 1 0), (.int 0 0), (.int 0 0), (.int 0 0), (.int 0 0), (.ref 11), (.bool false), (.int 181 0), (.ref 12), .none, .none, .none, .none, (.int 185 0), (.int 1 0), (.str (.ofString "/claim/cut.py") 186)]), #[]⟩
noncomputable def ob14 (P : Params) : Obj := ⟨(.type "frame"), none, .plain, #[(some (.ref 13)), (some (.ref 3)), (some (.ref 3)), none, (some (.str (.ofString "__main__") 164)), none, (some (.ref 0))]⟩
noncomputable def ob15 (P : Params) : Obj := ⟨(.type "tuple"), none, (.seq #[(.type "Exception")] 0), #[]⟩
noncomputable def ob16 (P : Params) : Obj := ⟨(.type "builtin_function_or_method"), none, (.fields #[(.builtin "type.__prepare__"), (.type "type")]), #[]⟩
noncomputable def ob17 (P : Params) : Obj := ⟨(.type "dict"), none, (.dict #[⟨(PyData.keyHash P (.ofString "__module__")), (.str (.ofString "__module__") 196), (.str (.ofString "snobol.values") 187)⟩, ⟨(PyData.keyHash P (.ofString "__qualname__")), (.str (.ofString "__qualname__") 198), (.str (.ofString "SnobolError") 197)⟩, ⟨(PyData.keyHash P (.ofString "__firstlineno__")), (.str (.ofString "__firstlineno__") 200), (.int 2 199)⟩, ⟨(PyData.keyHash P (.ofString "__init__")), (.str (.ofString "__init__") 211), (.ref 31)⟩, ⟨(PyData.keyHash P (.ofString "__static_attributes__")), (.str (.ofString "__static_attributes__") 214), (.ref 32)⟩, ⟨(PyData.keyHash P (.ofString "__classcell__")), (.str (.ofString "__classcell__") 215), (.ref 18)⟩] 6), #[]⟩
noncomputable def ob18 (P : Params) : Obj := ⟨(.type "cell"), none, (.cell (some (.ref 34))), #[]⟩
noncomputable def ob19 (P : Params) : Obj := ⟨(.type "tuple"), none, (.seq #[] 0), #[]⟩
noncomputable def ob20 (P : Params) : Obj := ⟨.none, none, (.fields #[(.int 4 0), (.int 4 0), (.ref 30)]), #[]⟩
noncomputable def ob21 (P : Params) : Obj := ⟨(.type "code"), none, (.fields #[(.str (.ofString "SnobolError") 191), (.str (.ofString "SnobolError") 192), (.str (.ofString "/claim/cut.py") 193), (.int 2 0), (.int 0 0), (.int 0 0), (.int 0 0), (.int 0 0), (.ref 19), (.bool false), (.int 181 0), (.ref 20), .none, .none, .none, .none, (.int 194 0), (.int 2 0), (.str (.ofString "/claim/cut.py") 195)]), #[]⟩
noncomputable def ob22 (P : Params) : Obj := ⟨(.type "frame"), none, .plain, #[(some (.ref 21)), (some (.ref 3)), (some (.ref 17)), none, (some (.str (.ofString "snobol.values") 187)), none, (some (.ref 0))]⟩
noncomputable def ob23 (P : Params) : Obj := ⟨(.type "tuple"), none, (.seq #[(.str (.ofString "") 201)] 0), #[]⟩
noncomputable def ob24 (P : Params) : Obj := ⟨(.type "tuple"), none, (.seq #[(.ref 18)] 0), #[]⟩
noncomputable def ob25 (P : Params) : Obj := ⟨(.type "tuple"), none, (.seq #[(.str (.ofString "__class__") 205)] 0), #[]⟩
noncomputable def ob26 (P : Params) : Obj := ⟨.none, none, (.fields #[]), #[]⟩
noncomputable def ob27 (P : Params) : Obj := ⟨(.type "tuple"), none, (.seq #[(.str (.ofString "self") 206), (.str (.ofString "number") 207), (.str (.ofString "told") 208)] 0), #[]⟩
noncomputable def ob28 (P : Params) : Obj := ⟨(.type "tuple"), none, (.seq #[] 0), #[]⟩
noncomputable def ob29 (P : Params) : Obj := mk (inCls 0 (nthS 1 PB)) (fun n a b s => ⟨.none, none, .func ⟨n, (.ofString "SnobolError.__init__"), a, .stmts b, s, 0, [], .none, .none, .none, .none, none, .none, .none, 0⟩, #[]⟩) _ _ _ _ _ _ _ _ _ _ rfl
noncomputable def ob30 (P : Params) : Obj := ⟨(.type "code"), none, (.fields #[(.str (.ofString "__init__") 202), (.str (.ofString "SnobolError.__init__") 203), (.str (.ofString "/claim/cut.py") 204), (.int 4 0), (.int 3 0), (.int 0 0), (.int 0 0), (.int 3 0), (.ref 25), (.bool true), (.int 181 0), (.ref 26), .none, (.ref 27), (.ref 28), (.ref 29), (.int 209 0), (.int 4 0), (.str (.ofString "/claim/cut.py") 210)]), #[]⟩
noncomputable def ob31 (P : Params) : Obj := mk (inCls 0 (nthS 1 PB)) (fun n a b s => ⟨(.type "function"), none, .func ⟨n, (.ofString "SnobolError.__init__"), a, .stmts b, s, 3, [((.ofString "__class__"), 18)], (.ref 23), .none, .none, (.str (.ofString "snobol.values") 187), none, (.ref 30), (.ref 24), 0⟩, #[]⟩) _ _ _ _ _ _ _ _ _ _ rfl
noncomputable def ob32 (P : Params) : Obj := ⟨(.type "tuple"), none, (.seq #[(.str (.ofString "number") 212), (.str (.ofString "told") 213)] 0), #[]⟩
noncomputable def ob33 (P : Params) : Obj := ⟨(.type "dict"), none, (.dict #[⟨(PyData.keyHash P (.ofString "__module__")), (.str (.ofString "__module__") 196), (.str (.ofString "snobol.values") 187)⟩, ⟨(PyData.keyHash P (.ofString "__firstlineno__")), (.str (.ofString "__firstlineno__") 200), (.int 2 199)⟩, ⟨(PyData.keyHash P (.ofString "__init__")), (.str (.ofString "__init__") 211), (.ref 31)⟩, ⟨(PyData.keyHash P (.ofString "__static_attributes__")), (.str (.ofString "__static_attributes__") 214), (.ref 32)⟩, ⟨(PyData.keyHash P (.ofString "__weakref__")), (.str (.ofString "__weakref__") 217), (.ref 35)⟩, ⟨(PyData.keyHash P (.ofString "__doc__")), (.str (.ofString "__doc__") 218), .none⟩] 4), #[]⟩
noncomputable def ob34 (P : Params) : Obj := ⟨(.type "type"), none, (.cls ⟨(.ofString "SnobolError"), [(.type "Exception")], [(.ref 34), (.type "Exception"), (.type "BaseException"), (.type "object")], 33, (.ofString "SnobolError"), true, [], [], false, none, false⟩), #[(some (.ref 15)), none, (some (.str (.ofString "SnobolError") 189)), (some (.str (.ofString "SnobolError") 197)), (some (.builtin "Exception.__new__")), (some (.bool true))]⟩
noncomputable def ob35 (P : Params) : Obj := ⟨(.type "getset_descriptor"), none, (.fields #[(.str (.ofString "__weakref__") 216), (.ref 34), (.builtin "ExceptionGroup.__weakref__"), .none]), #[]⟩
noncomputable def ob36 (P : Params) : Obj := ⟨(.type "super"), none, (.fields #[(.ref 34), (.ref 34), (.ref 34)]), #[]⟩
noncomputable def ob37 (P : Params) : Obj := ⟨(.type "builtin_function_or_method"), none, (.fields #[(.builtin "object.__init_subclass__"), (.ref 34)]), #[]⟩
noncomputable def ob38 (P : Params) : Obj := ⟨(.type "tuple"), none, (.seq #[] 0), #[]⟩
noncomputable def ob39 (P : Params) : Obj := ⟨(.type "builtin_function_or_method"), none, (.fields #[(.builtin "type.__prepare__"), (.type "type")]), #[]⟩
noncomputable def ob40 (P : Params) : Obj := ⟨(.type "dict"), none, (.dict #[⟨(PyData.keyHash P (.ofString "__module__")), (.str (.ofString "__module__") 230), (.str (.ofString "snobol.values") 187)⟩, ⟨(PyData.keyHash P (.ofString "__qualname__")), (.str (.ofString "__qualname__") 232), (.str (.ofString "Failure") 231)⟩, ⟨(PyData.keyHash P (.ofString "__firstlineno__")), (.str (.ofString "__firstlineno__") 234), (.int 8 233)⟩, ⟨(PyData.keyHash P (.ofString "__static_attributes__")), (.str (.ofString "__static_attributes__") 235), (.ref 45)⟩] 4), #[]⟩
noncomputable def ob41 (P : Params) : Obj := ⟨(.type "tuple"), none, (.seq #[] 0), #[]⟩
noncomputable def ob42 (P : Params) : Obj := ⟨.none, none, (.fields #[]), #[]⟩
noncomputable def ob43 (P : Params) : Obj := ⟨(.type "code"), none, (.fields #[(.str (.ofString "Failure") 225), (.str (.ofString "Failure") 226), (.str (.ofString "/claim/cut.py") 227), (.int 8 0), (.int 0 0), (.int 0 0), (.int 0 0), (.int 0 0), (.ref 41), (.bool false), (.int 181 0), (.ref 42), .none, .none, .none, .none, (.int 228 0), (.int 8 0), (.str (.ofString "/claim/cut.py") 229)]), #[]⟩
noncomputable def ob44 (P : Params) : Obj := ⟨(.type "frame"), none, .plain, #[(some (.ref 43)), (some (.ref 3)), (some (.ref 40)), none, (some (.str (.ofString "snobol.values") 187)), none, (some (.ref 0))]⟩
noncomputable def ob45 (P : Params) : Obj := ⟨(.type "tuple"), none, (.seq #[] 0), #[]⟩
noncomputable def ob46 (P : Params) : Obj := ⟨(.type "dict"), none, (.dict #[⟨(PyData.keyHash P (.ofString "__module__")), (.str (.ofString "__module__") 230), (.str (.ofString "snobol.values") 187)⟩, ⟨(PyData.keyHash P (.ofString "__firstlineno__")), (.str (.ofString "__firstlineno__") 234), (.int 8 233)⟩, ⟨(PyData.keyHash P (.ofString "__static_attributes__")), (.str (.ofString "__static_attributes__") 235), (.ref 45)⟩, ⟨(PyData.keyHash P (.ofString "__dict__")), (.str (.ofString "__dict__") 237), (.ref 48)⟩, ⟨(PyData.keyHash P (.ofString "__weakref__")), (.str (.ofString "__weakref__") 239), (.ref 49)⟩, ⟨(PyData.keyHash P (.ofString "__doc__")), (.str (.ofString "__doc__") 240), .none⟩] 4), #[]⟩
noncomputable def ob47 (P : Params) : Obj := ⟨(.type "type"), none, (.cls ⟨(.ofString "Failure"), [(.type "object")], [(.ref 47), (.type "object")], 46, (.ofString "Failure"), true, [], [], false, none, false⟩), #[none, none, (some (.str (.ofString "Failure") 223)), (some (.str (.ofString "Failure") 231)), (some (.builtin "object.__new__")), (some (.bool true))]⟩
noncomputable def ob48 (P : Params) : Obj := ⟨(.type "getset_descriptor"), none, (.fields #[(.str (.ofString "__dict__") 236), (.ref 47), (.builtin "function.__dict__"), (.builtin "function.__dict__#set")]), #[]⟩
noncomputable def ob49 (P : Params) : Obj := ⟨(.type "getset_descriptor"), none, (.fields #[(.str (.ofString "__weakref__") 238), (.ref 47), (.builtin "ExceptionGroup.__weakref__"), .none]), #[]⟩
noncomputable def ob50 (P : Params) : Obj := ⟨(.type "super"), none, (.fields #[(.ref 47), (.ref 47), (.ref 47)]), #[]⟩
noncomputable def ob51 (P : Params) : Obj := ⟨(.type "builtin_function_or_method"), none, (.fields #[(.builtin "object.__init_subclass__"), (.ref 47)]), #[]⟩
noncomputable def ob52 (P : Params) : Obj := ⟨(.type "tuple"), none, (.seq #[] 0), #[]⟩
noncomputable def ob53 (P : Params) : Obj := ⟨(.type "builtin_function_or_method"), none, (.fields #[(.builtin "type.__prepare__"), (.type "type")]), #[]⟩
noncomputable def ob54 (P : Params) : Obj := ⟨(.type "dict"), none, (.dict #[⟨(PyData.keyHash P (.ofString "__module__")), (.str (.ofString "__module__") 250), (.str (.ofString "snobol.values") 187)⟩, ⟨(PyData.keyHash P (.ofString "__qualname__")), (.str (.ofString "__qualname__") 252), (.str (.ofString "Pattern") 251)⟩, ⟨(PyData.keyHash P (.ofString "__firstlineno__")), (.str (.ofString "__firstlineno__") 254), (.int 10 253)⟩, ⟨(PyData.keyHash P (.ofString "__init__")), (.str (.ofString "__init__") 262), (.ref 65)⟩, ⟨(PyData.keyHash P (.ofString "__static_attributes__")), (.str (.ofString "__static_attributes__") 264), (.ref 66)⟩] 5), #[]⟩
noncomputable def ob55 (P : Params) : Obj := ⟨(.type "tuple"), none, (.seq #[] 0), #[]⟩
noncomputable def ob56 (P : Params) : Obj := ⟨.none, none, (.fields #[(.int 12 0), (.int 4 0), (.ref 64)]), #[]⟩
noncomputable def ob57 (P : Params) : Obj := ⟨(.type "code"), none, (.fields #[(.str (.ofString "Pattern") 245), (.str (.ofString "Pattern") 246), (.str (.ofString "/claim/cut.py") 247), (.int 10 0), (.int 0 0), (.int 0 0), (.int 0 0), (.int 0 0), (.ref 55), (.bool false), (.int 181 0), (.ref 56), .none, .none, .none, .none, (.int 248 0), (.int 10 0), (.str (.ofString "/claim/cut.py") 249)]), #[]⟩
noncomputable def ob58 (P : Params) : Obj := ⟨(.type "frame"), none, .plain, #[(some (.ref 57)), (some (.ref 3)), (some (.ref 54)), none, (some (.str (.ofString "snobol.values") 187)), none, (some (.ref 0))]⟩
noncomputable def ob59 (P : Params) : Obj := ⟨(.type "tuple"), none, (.seq #[] 0), #[]⟩
noncomputable def ob60 (P : Params) : Obj := ⟨.none, none, (.fields #[]), #[]⟩
noncomputable def ob61 (P : Params) : Obj := ⟨(.type "tuple"), none, (.seq #[(.str (.ofString "self") 258), (.str (.ofString "node") 259)] 0), #[]⟩
noncomputable def ob62 (P : Params) : Obj := ⟨(.type "tuple"), none, (.seq #[] 0), #[]⟩
noncomputable def ob63 (P : Params) : Obj := mk (inCls 0 (nthS 3 PB)) (fun n a b s => ⟨.none, none, .func ⟨n, (.ofString "Pattern.__init__"), a, .stmts b, s, 0, [], .none, .none, .none, .none, none, .none, .none, 0⟩, #[]⟩) _ _ _ _ _ _ _ _ _ _ rfl
noncomputable def ob64 (P : Params) : Obj := ⟨(.type "code"), none, (.fields #[(.str (.ofString "__init__") 255), (.str (.ofString "Pattern.__init__") 256), (.str (.ofString "/claim/cut.py") 257), (.int 12 0), (.int 2 0), (.int 0 0), (.int 0 0), (.int 3 0), (.ref 59), (.bool true), (.int 181 0), (.ref 60), .none, (.ref 61), (.ref 62), (.ref 63), (.int 260 0), (.int 12 0), (.str (.ofString "/claim/cut.py") 261)]), #[]⟩
noncomputable def ob65 (P : Params) : Obj := mk (inCls 0 (nthS 3 PB)) (fun n a b s => ⟨(.type "function"), none, .func ⟨n, (.ofString "Pattern.__init__"), a, .stmts b, s, 3, [], .none, .none, .none, (.str (.ofString "snobol.values") 187), none, (.ref 64), .none, 0⟩, #[]⟩) _ _ _ _ _ _ _ _ _ _ rfl
noncomputable def ob66 (P : Params) : Obj := ⟨(.type "tuple"), none, (.seq #[(.str (.ofString "node") 263)] 0), #[]⟩
noncomputable def ob67 (P : Params) : Obj := ⟨(.type "dict"), none, (.dict #[⟨(PyData.keyHash P (.ofString "__module__")), (.str (.ofString "__module__") 250), (.str (.ofString "snobol.values") 187)⟩, ⟨(PyData.keyHash P (.ofString "__firstlineno__")), (.str (.ofString "__firstlineno__") 254), (.int 10 253)⟩, ⟨(PyData.keyHash P (.ofString "__init__")), (.str (.ofString "__init__") 262), (.ref 65)⟩, ⟨(PyData.keyHash P (.ofString "__static_attributes__")), (.str (.ofString "__static_attributes__") 264), (.ref 66)⟩, ⟨(PyData.keyHash P (.ofString "__dict__")), (.str (.ofString "__dict__") 266), (.ref 69)⟩, ⟨(PyData.keyHash P (.ofString "__weakref__")), (.str (.ofString "__weakref__") 268), (.ref 70)⟩, ⟨(PyData.keyHash P (.ofString "__doc__")), (.str (.ofString "__doc__") 269), .none⟩] 4), #[]⟩
noncomputable def ob68 (P : Params) : Obj := ⟨(.type "type"), none, (.cls ⟨(.ofString "Pattern"), [(.type "object")], [(.ref 68), (.type "object")], 67, (.ofString "Pattern"), true, [], [], false, none, false⟩), #[none, none, (some (.str (.ofString "Pattern") 243)), (some (.str (.ofString "Pattern") 251)), (some (.builtin "object.__new__")), (some (.bool true))]⟩
noncomputable def ob69 (P : Params) : Obj := ⟨(.type "getset_descriptor"), none, (.fields #[(.str (.ofString "__dict__") 265), (.ref 68), (.builtin "function.__dict__"), (.builtin "function.__dict__#set")]), #[]⟩
noncomputable def ob70 (P : Params) : Obj := ⟨(.type "getset_descriptor"), none, (.fields #[(.str (.ofString "__weakref__") 267), (.ref 68), (.builtin "ExceptionGroup.__weakref__"), .none]), #[]⟩
noncomputable def ob71 (P : Params) : Obj := ⟨(.type "super"), none, (.fields #[(.ref 68), (.ref 68), (.ref 68)]), #[]⟩
noncomputable def ob72 (P : Params) : Obj := ⟨(.type "builtin_function_or_method"), none, (.fields #[(.builtin "object.__init_subclass__"), (.ref 68)]), #[]⟩
noncomputable def ob73 (P : Params) : Obj := ⟨(.type "tuple"), none, (.seq #[] 0), #[]⟩
noncomputable def ob74 (P : Params) : Obj := ⟨(.type "builtin_function_or_method"), none, (.fields #[(.builtin "type.__prepare__"), (.type "type")]), #[]⟩
noncomputable def ob75 (P : Params) : Obj := ⟨(.type "dict"), none, (.dict #[⟨(PyData.keyHash P (.ofString "__module__")), (.str (.ofString "__module__") 279), (.str (.ofString "snobol.values") 187)⟩, ⟨(PyData.keyHash P (.ofString "__qualname__")), (.str (.ofString "__qualname__") 281), (.str (.ofString "Delayed") 280)⟩, ⟨(PyData.keyHash P (.ofString "__firstlineno__")), (.str (.ofString "__firstlineno__") 283), (.int 14 282)⟩, ⟨(PyData.keyHash P (.ofString "__init__")), (.str (.ofString "__init__") 291), (.ref 86)⟩, ⟨(PyData.keyHash P (.ofString "__static_attributes__")), (.str (.ofString "__static_attributes__") 293), (.ref 87)⟩] 5), #[]⟩
noncomputable def ob76 (P : Params) : Obj := ⟨(.type "tuple"), none, (.seq #[] 0), #[]⟩
noncomputable def ob77 (P : Params) : Obj := ⟨.none, none, (.fields #[(.int 16 0), (.int 4 0), (.ref 85)]), #[]⟩
noncomputable def ob78 (P : Params) : Obj := ⟨(.type "code"), none, (.fields #[(.str (.ofString "Delayed") 274), (.str (.ofString "Delayed") 275), (.str (.ofString "/claim/cut.py") 276), (.int 14 0), (.int 0 0), (.int 0 0), (.int 0 0), (.int 0 0), (.ref 76), (.bool false), (.int 181 0), (.ref 77), .none, .none, .none, .none, (.int 277 0), (.int 14 0), (.str (.ofString "/claim/cut.py") 278)]), #[]⟩
noncomputable def ob79 (P : Params) : Obj := ⟨(.type "frame"), none, .plain, #[(some (.ref 78)), (some (.ref 3)), (some (.ref 75)), none, (some (.str (.ofString "snobol.values") 187)), none, (some (.ref 0))]⟩
noncomputable def ob80 (P : Params) : Obj := ⟨(.type "tuple"), none, (.seq #[] 0), #[]⟩
noncomputable def ob81 (P : Params) : Obj := ⟨.none, none, (.fields #[]), #[]⟩
noncomputable def ob82 (P : Params) : Obj := ⟨(.type "tuple"), none, (.seq #[(.str (.ofString "self") 287), (.str (.ofString "tree") 288)] 0), #[]⟩
noncomputable def ob83 (P : Params) : Obj := ⟨(.type "tuple"), none, (.seq #[] 0), #[]⟩
noncomputable def ob84 (P : Params) : Obj := mk (inCls 0 (nthS 4 PB)) (fun n a b s => ⟨.none, none, .func ⟨n, (.ofString "Delayed.__init__"), a, .stmts b, s, 0, [], .none, .none, .none, .none, none, .none, .none, 0⟩, #[]⟩) _ _ _ _ _ _ _ _ _ _ rfl
noncomputable def ob85 (P : Params) : Obj := ⟨(.type "code"), none, (.fields #[(.str (.ofString "__init__") 284), (.str (.ofString "Delayed.__init__") 285), (.str (.ofString "/claim/cut.py") 286), (.int 16 0), (.int 2 0), (.int 0 0), (.int 0 0), (.int 3 0), (.ref 80), (.bool true), (.int 181 0), (.ref 81), .none, (.ref 82), (.ref 83), (.ref 84), (.int 289 0), (.int 16 0), (.str (.ofString "/claim/cut.py") 290)]), #[]⟩
noncomputable def ob86 (P : Params) : Obj := mk (inCls 0 (nthS 4 PB)) (fun n a b s => ⟨(.type "function"), none, .func ⟨n, (.ofString "Delayed.__init__"), a, .stmts b, s, 3, [], .none, .none, .none, (.str (.ofString "snobol.values") 187), none, (.ref 85), .none, 0⟩, #[]⟩) _ _ _ _ _ _ _ _ _ _ rfl
noncomputable def ob87 (P : Params) : Obj := ⟨(.type "tuple"), none, (.seq #[(.str (.ofString "tree") 292)] 0), #[]⟩
noncomputable def ob88 (P : Params) : Obj := ⟨(.type "dict"), none, (.dict #[⟨(PyData.keyHash P (.ofString "__module__")), (.str (.ofString "__module__") 279), (.str (.ofString "snobol.values") 187)⟩, ⟨(PyData.keyHash P (.ofString "__firstlineno__")), (.str (.ofString "__firstlineno__") 283), (.int 14 282)⟩, ⟨(PyData.keyHash P (.ofString "__init__")), (.str (.ofString "__init__") 291), (.ref 86)⟩, ⟨(PyData.keyHash P (.ofString "__static_attributes__")), (.str (.ofString "__static_attributes__") 293), (.ref 87)⟩, ⟨(PyData.keyHash P (.ofString "__dict__")), (.str (.ofString "__dict__") 295), (.ref 90)⟩, ⟨(PyData.keyHash P (.ofString "__weakref__")), (.str (.ofString "__weakref__") 297), (.ref 91)⟩, ⟨(PyData.keyHash P (.ofString "__doc__")), (.str (.ofString "__doc__") 298), .none⟩] 4), #[]⟩
noncomputable def ob89 (P : Params) : Obj := ⟨(.type "type"), none, (.cls ⟨(.ofString "Delayed"), [(.type "object")], [(.ref 89), (.type "object")], 88, (.ofString "Delayed"), true, [], [], false, none, false⟩), #[none, none, (some (.str (.ofString "Delayed") 272)), (some (.str (.ofString "Delayed") 280)), (some (.builtin "object.__new__")), (some (.bool true))]⟩
noncomputable def ob90 (P : Params) : Obj := ⟨(.type "getset_descriptor"), none, (.fields #[(.str (.ofString "__dict__") 294), (.ref 89), (.builtin "function.__dict__"), (.builtin "function.__dict__#set")]), #[]⟩
noncomputable def ob91 (P : Params) : Obj := ⟨(.type "getset_descriptor"), none, (.fields #[(.str (.ofString "__weakref__") 296), (.ref 89), (.builtin "ExceptionGroup.__weakref__"), .none]), #[]⟩
noncomputable def ob92 (P : Params) : Obj := ⟨(.type "super"), none, (.fields #[(.ref 89), (.ref 89), (.ref 89)]), #[]⟩
noncomputable def ob93 (P : Params) : Obj := ⟨(.type "builtin_function_or_method"), none, (.fields #[(.builtin "object.__init_subclass__"), (.ref 89)]), #[]⟩
noncomputable def ob94 (P : Params) : Obj := ⟨(.type "tuple"), none, (.seq #[] 0), #[]⟩
noncomputable def ob95 (P : Params) : Obj := ⟨(.type "builtin_function_or_method"), none, (.fields #[(.builtin "type.__prepare__"), (.type "type")]), #[]⟩
noncomputable def ob96 (P : Params) : Obj := ⟨(.type "dict"), none, (.dict #[⟨(PyData.keyHash P (.ofString "__module__")), (.str (.ofString "__module__") 308), (.str (.ofString "snobol.values") 187)⟩, ⟨(PyData.keyHash P (.ofString "__qualname__")), (.str (.ofString "__qualname__") 310), (.str (.ofString "NameRef") 309)⟩, ⟨(PyData.keyHash P (.ofString "__firstlineno__")), (.str (.ofString "__firstlineno__") 312), (.int 18 311)⟩, ⟨(PyData.keyHash P (.ofString "__init__")), (.str (.ofString "__init__") 322), (.ref 107)⟩, ⟨(PyData.keyHash P (.ofString "__static_attributes__")), (.str (.ofString "__static_attributes__") 326), (.ref 108)⟩] 5), #[]⟩
noncomputable def ob97 (P : Params) : Obj := ⟨(.type "tuple"), none, (.seq #[] 0), #[]⟩
noncomputable def ob98 (P : Params) : Obj := ⟨.none, none, (.fields #[(.int 20 0), (.int 4 0), (.ref 106)]), #[]⟩
noncomputable def ob99 (P : Params) : Obj := ⟨(.type "code"), none, (.fields #[(.str (.ofString "NameRef") 303), (.str (.ofString "NameRef") 304), (.str (.ofString "/claim/cut.py") 305), (.int 18 0), (.int 0 0), (.int 0 0), (.int 0 0), (.int 0 0), (.ref 97), (.bool false), (.int 181 0), (.ref 98), .none, .none, .none, .none, (.int 306 0), (.int 18 0), (.str (.ofString "/claim/cut.py") 307)]), #[]⟩
noncomputable def ob100 (P : Params) : Obj := ⟨(.type "frame"), none, .plain, #[(some (.ref 99)), (some (.ref 3)), (some (.ref 96)), none, (some (.str (.ofString "snobol.values") 187)), none, (some (.ref 0))]⟩
noncomputable def ob101 (P : Params) : Obj := ⟨(.type "tuple"), none, (.seq #[] 0), #[]⟩
noncomputable def ob102 (P : Params) : Obj := ⟨.none, none, (.fields #[]), #[]⟩
noncomputable def ob103 (P : Params) : Obj := ⟨(.type "tuple"), none, (.seq #[(.str (.ofString "self") 316), (.str (.ofString "kind") 317), (.str (.ofString "owner") 318), (.str (.ofString "key") 319)] 0), #[]⟩
noncomputable def ob104 (P : Params) : Obj := ⟨(.type "tuple"), none, (.seq #[] 0), #[]⟩
noncomputable def ob105 (P : Params) : Obj := mk (inCls 0 (nthS 5 PB)) (fun n a b s => ⟨.none, none, .func ⟨n, (.ofString "NameRef.__init__"), a, .stmts b, s, 0, [], .none, .none, .none, .none, none, .none, .none, 0⟩, #[]⟩) _ _ _ _ _ _ _ _ _ _ rfl
noncomputable def ob106 (P : Params) : Obj := ⟨(.type "code"), none, (.fields #[(.str (.ofString "__init__") 313), (.str (.ofString "NameRef.__init__") 314), (.str (.ofString "/claim/cut.py") 315), (.int 20 0), (.int 4 0), (.int 0 0), (.int 0 0), (.int 3 0), (.ref 101), (.bool true), (.int 181 0), (.ref 102), .none, (.ref 103), (.ref 104), (.ref 105), (.int 320 0), (.int 20 0), (.str (.ofString "/claim/cut.py") 321)]), #[]⟩
noncomputable def ob107 (P : Params) : Obj := mk (inCls 0 (nthS 5 PB)) (fun n a b s => ⟨(.type "function"), none, .func ⟨n, (.ofString "NameRef.__init__"), a, .stmts b, s, 3, [], .none, .none, .none, (.str (.ofString "snobol.values") 187), none, (.ref 106), .none, 0⟩, #[]⟩) _ _ _ _ _ _ _ _ _ _ rfl
noncomputable def ob108 (P : Params) : Obj := ⟨(.type "tuple"), none, (.seq #[(.str (.ofString "key") 323), (.str (.ofString "kind") 324), (.str (.ofString "owner") 325)] 0), #[]⟩
noncomputable def ob109 (P : Params) : Obj := ⟨(.type "dict"), none, (.dict #[⟨(PyData.keyHash P (.ofString "__module__")), (.str (.ofString "__module__") 308), (.str (.ofString "snobol.values") 187)⟩, ⟨(PyData.keyHash P (.ofString "__firstlineno__")), (.str (.ofString "__firstlineno__") 312), (.int 18 311)⟩, ⟨(PyData.keyHash P (.ofString "__init__")), (.str (.ofString "__init__") 322), (.ref 107)⟩, ⟨(PyData.keyHash P (.ofString "__static_attributes__")), (.str (.ofString "__static_attributes__") 326), (.ref 108)⟩, ⟨(PyData.keyHash P (.ofString "__dict__")), (.str (.ofString "__dict__") 328), (.ref 111)⟩, ⟨(PyData.keyHash P (.ofString "__weakref__")), (.str (.ofString "__weakref__") 330), (.ref 112)⟩, ⟨(PyData.keyHash P (.ofString "__doc__")), (.str (.ofString "__doc__") 331), .none⟩] 4), #[]⟩
noncomputable def ob110 (P : Params) : Obj := ⟨(.type "type"), none, (.cls ⟨(.ofString "NameRef"), [(.type "object")], [(.ref 110), (.type "object")], 109, (.ofString "NameRef"), true, [], [], false, none, false⟩), #[none, none, (some (.str (.ofString "NameRef") 301)), (some (.str (.ofString "NameRef") 309)), (some (.builtin "object.__new__")), (some (.bool true))]⟩
noncomputable def ob111 (P : Params) : Obj := ⟨(.type "getset_descriptor"), none, (.fields #[(.str (.ofString "__dict__") 327), (.ref 110), (.builtin "function.__dict__"), (.builtin "function.__dict__#set")]), #[]⟩
noncomputable def ob112 (P : Params) : Obj := ⟨(.type "getset_descriptor"), none, (.fields #[(.str (.ofString "__weakref__") 329), (.ref 110), (.builtin "ExceptionGroup.__weakref__"), .none]), #[]⟩
noncomputable def ob113 (P : Params) : Obj := ⟨(.type "super"), none, (.fields #[(.ref 110), (.ref 110), (.ref 110)]), #[]⟩
noncomputable def ob114 (P : Params) : Obj := ⟨(.type "builtin_function_or_method"), none, (.fields #[(.builtin "object.__init_subclass__"), (.ref 110)]), #[]⟩
noncomputable def ob115 (P : Params) : Obj := ⟨(.type "tuple"), none, (.seq #[] 0), #[]⟩
noncomputable def ob116 (P : Params) : Obj := ⟨.none, none, (.fields #[]), #[]⟩
noncomputable def ob117 (P : Params) : Obj := ⟨(.type "tuple"), none, (.seq #[(.str (.ofString "value") 337)] 0), #[]⟩
noncomputable def ob118 (P : Params) : Obj := ⟨(.type "tuple"), none, (.seq #[] 0), #[]⟩
noncomputable def ob119 (P : Params) : Obj := mk (nthS 6 PB) (fun n a b s => ⟨.none, none, .func ⟨n, (.ofString "is_fail"), a, .stmts b, s, 0, [], .none, .none, .none, .none, none, .none, .none, 0⟩, #[]⟩) _ _ _ _ _ _ _ _ _ _ rfl
noncomputable def ob120 (P : Params) : Obj := ⟨(.type "code"), none, (.fields #[(.str (.ofString "is_fail") 334), (.str (.ofString "is_fail") 335), (.str (.ofString "/claim/cut.py") 336), (.int 24 0), (.int 1 0), (.int 0 0), (.int 0 0), (.int 3 0), (.ref 115), (.bool true), (.int 181 0), (.ref 116), .none, (.ref 117), (.ref 118), (.ref 119), (.int 338 0), (.int 24 0), (.str (.ofString "/claim/cut.py") 339)]), #[]⟩
noncomputable def ob121 (P : Params) : Obj := mk (nthS 6 PB) (fun n a b s => ⟨(.type "function"), none, .func ⟨n, (.ofString "is_fail"), a, .stmts b, s, 3, [], .none, .none, .none, (.str (.ofString "snobol.values") 187), none, (.ref 120), .none, 0⟩, #[]⟩) _ _ _ _ _ _ _ _ _ _ rfl
noncomputable def ob122 (P : Params) : Obj := ⟨(.type "tuple"), none, (.seq #[] 0), #[]⟩
noncomputable def ob123 (P : Params) : Obj := ⟨.none, none, (.fields #[]), #[]⟩
noncomputable def ob124 (P : Params) : Obj := ⟨(.type "tuple"), none, (.seq #[(.str (.ofString "number") 344), (.str (.ofString "width") 345)] 0), #[]⟩
noncomputable def ob125 (P : Params) : Obj := ⟨(.type "tuple"), none, (.seq #[] 0), #[]⟩
noncomputable def ob126 (P : Params) : Obj := mk (nthS 7 PB) (fun n a b s => ⟨.none, none, .func ⟨n, (.ofString "fits"), a, .stmts b, s, 0, [], .none, .none, .none, .none, none, .none, .none, 0⟩, #[]⟩) _ _ _ _ _ _ _ _ _ _ rfl
noncomputable def ob127 (P : Params) : Obj := ⟨(.type "code"), none, (.fields #[(.str (.ofString "fits") 341), (.str (.ofString "fits") 342), (.str (.ofString "/claim/cut.py") 343), (.int 26 0), (.int 2 0), (.int 0 0), (.int 0 0), (.int 3 0), (.ref 122), (.bool true), (.int 181 0), (.ref 123), .none, (.ref 124), (.ref 125), (.ref 126), (.int 346 0), (.int 26 0), (.str (.ofString "/claim/cut.py") 347)]), #[]⟩
noncomputable def ob128 (P : Params) : Obj := mk (nthS 7 PB) (fun n a b s => ⟨(.type "function"), none, .func ⟨n, (.ofString "fits"), a, .stmts b, s, 3, [], .none, .none, .none, (.str (.ofString "snobol.values") 187), none, (.ref 127), .none, 0⟩, #[]⟩) _ _ _ _ _ _ _ _ _ _ rfl
noncomputable def ob129 (P : Params) : Obj := ⟨(.type "tuple"), none, (.seq #[] 0), #[]⟩
noncomputable def ob130 (P : Params) : Obj := ⟨.none, none, (.fields #[]), #[]⟩
noncomputable def ob131 (P : Params) : Obj := ⟨(.type "tuple"), none, (.seq #[(.str (.ofString "text") 352), (.str (.ofString "width") 353), (.str (.ofString "digits") 354), (.str (.ofString "number") 355), (.str (.ofString "sign") 356)] 0), #[]⟩
noncomputable def ob132 (P : Params) : Obj := ⟨(.type "tuple"), none, (.seq #[] 0), #[]⟩
noncomputable def ob133 (P : Params) : Obj := mk (nthS 8 PB) (fun n a b s => ⟨.none, none, .func ⟨n, (.ofString "whole_of_text"), a, .stmts b, s, 0, [], .none, .none, .none, .none, none, .none, .none, 0⟩, #[]⟩) _ _ _ _ _ _ _ _ _ _ rfl
noncomputable def ob134 (P : Params) : Obj := ⟨(.type "code"), none, (.fields #[(.str (.ofString "whole_of_text") 349), (.str (.ofString "whole_of_text") 350), (.str (.ofString "/claim/cut.py") 351), (.int 28 0), (.int 2 0), (.int 0 0), (.int 0 0), (.int 3 0), (.ref 129), (.bool true), (.int 181 0), (.ref 130), .none, (.ref 131), (.ref 132), (.ref 133), (.int 357 0), (.int 28 0), (.str (.ofString "/claim/cut.py") 358)]), #[]⟩
noncomputable def ob135 (P : Params) : Obj := mk (nthS 8 PB) (fun n a b s => ⟨(.type "function"), none, .func ⟨n, (.ofString "whole_of_text"), a, .stmts b, s, 3, [], .none, .none, .none, (.str (.ofString "snobol.values") 187), none, (.ref 134), .none, 0⟩, #[]⟩) _ _ _ _ _ _ _ _ _ _ rfl
noncomputable def ob136 (P : Params) : Obj := ⟨(.type "tuple"), none, (.seq #[] 0), #[]⟩
noncomputable def ob137 (P : Params) : Obj := ⟨.none, none, (.fields #[]), #[]⟩
noncomputable def ob138 (P : Params) : Obj := ⟨(.type "tuple"), none, (.seq #[(.str (.ofString "number") 363), (.str (.ofString "left") 364), (.str (.ofString "found") 365)] 0), #[]⟩
noncomputable def ob139 (P : Params) : Obj := ⟨(.type "tuple"), none, (.seq #[] 0), #[]⟩
noncomputable def ob140 (P : Params) : Obj := mk (nthS 9 PB) (fun n a b s => ⟨.none, none, .func ⟨n, (.ofString "text_of_whole"), a, .stmts b, s, 0, [], .none, .none, .none, .none, none, .none, .none, 0⟩, #[]⟩) _ _ _ _ _ _ _ _ _ _ rfl
noncomputable def ob141 (P : Params) : Obj := ⟨(.type "code"), none, (.fields #[(.str (.ofString "text_of_whole") 360), (.str (.ofString "text_of_whole") 361), (.str (.ofString "/claim/cut.py") 362), (.int 41 0), (.int 1 0), (.int 0 0), (.int 0 0), (.int 3 0), (.ref 136), (.bool true), (.int 181 0), (.ref 137), .none, (.ref 138), (.ref 139), (.ref 140), (.int 366 0), (.int 41 0), (.str (.ofString "/claim/cut.py") 367)]), #[]⟩
noncomputable def ob142 (P : Params) : Obj := mk (nthS 9 PB) (fun n a b s => ⟨(.type "function"), none, .func ⟨n, (.ofString "text_of_whole"), a, .stmts b, s, 3, [], .none, .none, .none, (.str (.ofString "snobol.values") 187), none, (.ref 141), .none, 0⟩, #[]⟩) _ _ _ _ _ _ _ _ _ _ rfl
noncomputable def ob143 (P : Params) : Obj := ⟨(.type "tuple"), none, (.seq #[] 0), #[]⟩
noncomputable def ob144 (P : Params) : Obj := ⟨.none, none, (.fields #[]), #[]⟩
noncomputable def ob145 (P : Params) : Obj := ⟨(.type "tuple"), none, (.seq #[(.str (.ofString "value") 372), (.str (.ofString "width") 373)] 0), #[]⟩
noncomputable def ob146 (P : Params) : Obj := ⟨(.type "tuple"), none, (.seq #[] 0), #[]⟩
noncomputable def ob147 (P : Params) : Obj := mk (nthS 10 PB) (fun n a b s => ⟨.none, none, .func ⟨n, (.ofString "to_whole"), a, .stmts b, s, 0, [], .none, .none, .none, .none, none, .none, .none, 0⟩, #[]⟩) _ _ _ _ _ _ _ _ _ _ rfl
noncomputable def ob148 (P : Params) : Obj := ⟨(.type "code"), none, (.fields #[(.str (.ofString "to_whole") 369), (.str (.ofString "to_whole") 370), (.str (.ofString "/claim/cut.py") 371), (.int 47 0), (.int 2 0), (.int 0 0), (.int 0 0), (.int 3 0), (.ref 143), (.bool true), (.int 181 0), (.ref 144), .none, (.ref 145), (.ref 146), (.ref 147), (.int 374 0), (.int 47 0), (.str (.ofString "/claim/cut.py") 375)]), #[]⟩
noncomputable def ob149 (P : Params) : Obj := mk (nthS 10 PB) (fun n a b s => ⟨(.type "function"), none, .func ⟨n, (.ofString "to_whole"), a, .stmts b, s, 3, [], .none, .none, .none, (.str (.ofString "snobol.values") 187), none, (.ref 148), .none, 0⟩, #[]⟩) _ _ _ _ _ _ _ _ _ _ rfl
noncomputable def ob150 (P : Params) : Obj := ⟨(.type "tuple"), none, (.seq #[] 0), #[]⟩
noncomputable def ob151 (P : Params) : Obj := ⟨.none, none, (.fields #[]), #[]⟩
noncomputable def ob152 (P : Params) : Obj := ⟨(.type "tuple"), none, (.seq #[(.str (.ofString "value") 380)] 0), #[]⟩
noncomputable def ob153 (P : Params) : Obj := ⟨(.type "tuple"), none, (.seq #[] 0), #[]⟩
noncomputable def ob154 (P : Params) : Obj := mk (nthS 11 PB) (fun n a b s => ⟨.none, none, .func ⟨n, (.ofString "to_text"), a, .stmts b, s, 0, [], .none, .none, .none, .none, none, .none, .none, 0⟩, #[]⟩) _ _ _ _ _ _ _ _ _ _ rfl
noncomputable def ob155 (P : Params) : Obj := ⟨(.type "code"), none, (.fields #[(.str (.ofString "to_text") 377), (.str (.ofString "to_text") 378), (.str (.ofString "/claim/cut.py") 379), (.int 51 0), (.int 1 0), (.int 0 0), (.int 0 0), (.int 3 0), (.ref 150), (.bool true), (.int 181 0), (.ref 151), .none, (.ref 152), (.ref 153), (.ref 154), (.int 381 0), (.int 51 0), (.str (.ofString "/claim/cut.py") 382)]), #[]⟩
noncomputable def ob156 (P : Params) : Obj := mk (nthS 11 PB) (fun n a b s => ⟨(.type "function"), none, .func ⟨n, (.ofString "to_text"), a, .stmts b, s, 3, [], .none, .none, .none, (.str (.ofString "snobol.values") 187), none, (.ref 155), .none, 0⟩, #[]⟩) _ _ _ _ _ _ _ _ _ _ rfl
noncomputable def ob157 (P : Params) : Obj := ⟨(.type "tuple"), none, (.seq #[] 0), #[]⟩
noncomputable def ob158 (P : Params) : Obj := ⟨.none, none, (.fields #[]), #[]⟩
noncomputable def ob159 (P : Params) : Obj := ⟨(.type "tuple"), none, (.seq #[(.str (.ofString "value") 387), (.str (.ofString "text") 388)] 0), #[]⟩
noncomputable def ob160 (P : Params) : Obj := ⟨(.type "tuple"), none, (.seq #[] 0), #[]⟩
noncomputable def ob161 (P : Params) : Obj := mk (nthS 12 PB) (fun n a b s => ⟨.none, none, .func ⟨n, (.ofString "need_text"), a, .stmts b, s, 0, [], .none, .none, .none, .none, none, .none, .none, 0⟩, #[]⟩) _ _ _ _ _ _ _ _ _ _ rfl
noncomputable def ob162 (P : Params) : Obj := ⟨(.type "code"), none, (.fields #[(.str (.ofString "need_text") 384), (.str (.ofString "need_text") 385), (.str (.ofString "/claim/cut.py") 386), (.int 55 0), (.int 1 0), (.int 0 0), (.int 0 0), (.int 3 0), (.ref 157), (.bool true), (.int 181 0), (.ref 158), .none, (.ref 159), (.ref 160), (.ref 161), (.int 389 0), (.int 55 0), (.str (.ofString "/claim/cut.py") 390)]), #[]⟩
noncomputable def ob163 (P : Params) : Obj := mk (nthS 12 PB) (fun n a b s => ⟨(.type "function"), none, .func ⟨n, (.ofString "need_text"), a, .stmts b, s, 3, [], .none, .none, .none, (.str (.ofString "snobol.values") 187), none, (.ref 162), .none, 0⟩, #[]⟩) _ _ _ _ _ _ _ _ _ _ rfl
noncomputable def ob164 (P : Params) : Obj := ⟨(.type "tuple"), none, (.seq #[(.str (.ofString "len") 394), (.str (.ofString "pos") 395), (.str (.ofString "rpos") 396), (.str (.ofString "tab") 397), (.str (.ofString "rtab") 398)] 0), #[]⟩
noncomputable def ob165 (P : Params) : Obj := ⟨(.type "tuple"), none, (.seq #[(.str (.ofString "any") 400), (.str (.ofString "notany") 401), (.str (.ofString "span") 402), (.str (.ofString "break") 403)] 0), #[]⟩
noncomputable def ob166 (P : Params) : Obj := ⟨(.type "tuple"), none, (.seq #[(.int 64 405)] 0), #[]⟩
noncomputable def ob167 (P : Params) : Obj := ⟨(.type "tuple"), none, (.seq #[] 0), #[]⟩
noncomputable def ob168 (P : Params) : Obj := ⟨.none, none, (.fields #[]), #[]⟩
noncomputable def ob169 (P : Params) : Obj := ⟨(.type "tuple"), none, (.seq #[(.str (.ofString "value") 410), (.str (.ofString "kind") 411), (.str (.ofString "width") 412), (.str (.ofString "count") 413)] 0), #[]⟩
noncomputable def ob170 (P : Params) : Obj := ⟨(.type "tuple"), none, (.seq #[] 0), #[]⟩
noncomputable def ob171 (P : Params) : Obj := mk (nthS 17 PB) (fun n a b s => ⟨.none, none, .func ⟨n, (.ofString "plain_count"), a, .stmts b, s, 0, [], .none, .none, .none, .none, none, .none, .none, 0⟩, #[]⟩) _ _ _ _ _ _ _ _ _ _ rfl
noncomputable def ob172 (P : Params) : Obj := ⟨(.type "code"), none, (.fields #[(.str (.ofString "plain_count") 407), (.str (.ofString "plain_count") 408), (.str (.ofString "/claim/cut.py") 409), (.int 64 0), (.int 3 0), (.int 0 0), (.int 0 0), (.int 3 0), (.ref 167), (.bool true), (.int 181 0), (.ref 168), .none, (.ref 169), (.ref 170), (.ref 171), (.int 414 0), (.int 64 0), (.str (.ofString "/claim/cut.py") 415)]), #[]⟩
noncomputable def ob173 (P : Params) : Obj := mk (nthS 17 PB) (fun n a b s => ⟨(.type "function"), none, .func ⟨n, (.ofString "plain_count"), a, .stmts b, s, 3, [], (.ref 166), .none, .none, (.str (.ofString "snobol.nodes") 392), none, (.ref 172), .none, 0⟩, #[]⟩) _ _ _ _ _ _ _ _ _ _ rfl
noncomputable def ob174 (P : Params) : Obj := ⟨(.type "tuple"), none, (.seq #[] 0), #[]⟩
noncomputable def ob175 (P : Params) : Obj := ⟨.none, none, (.fields #[]), #[]⟩
noncomputable def ob176 (P : Params) : Obj := ⟨(.type "tuple"), none, (.seq #[(.str (.ofString "value") 420), (.str (.ofString "kind") 421), (.str (.ofString "text") 422)] 0), #[]⟩
noncomputable def ob177 (P : Params) : Obj := ⟨(.type "tuple"), none, (.seq #[] 0), #[]⟩
noncomputable def ob178 (P : Params) : Obj := mk (nthS 18 PB) (fun n a b s => ⟨.none, none, .func ⟨n, (.ofString "plain_signs"), a, .stmts b, s, 0, [], .none, .none, .none, .none, none, .none, .none, 0⟩, #[]⟩) _ _ _ _ _ _ _ _ _ _ rfl
noncomputable def ob179 (P : Params) : Obj := ⟨(.type "code"), none, (.fields #[(.str (.ofString "plain_signs") 417), (.str (.ofString "plain_signs") 418), (.str (.ofString "/claim/cut.py") 419), (.int 71 0), (.int 2 0), (.int 0 0), (.int 0 0), (.int 3 0), (.ref 174), (.bool true), (.int 181 0), (.ref 175), .none, (.ref 176), (.ref 177), (.ref 178), (.int 423 0), (.int 71 0), (.str (.ofString "/claim/cut.py") 424)]), #[]⟩
noncomputable def ob180 (P : Params) : Obj := mk (nthS 18 PB) (fun n a b s => ⟨(.type "function"), none, .func ⟨n, (.ofString "plain_signs"), a, .stmts b, s, 3, [], .none, .none, .none, (.str (.ofString "snobol.nodes") 392), none, (.ref 179), .none, 0⟩, #[]⟩) _ _ _ _ _ _ _ _ _ _ rfl
noncomputable def ob181 (P : Params) : Obj := ⟨(.type "tuple"), none, (.seq #[] 0), #[]⟩
noncomputable def ob182 (P : Params) : Obj := ⟨.none, none, (.fields #[]), #[]⟩
noncomputable def ob183 (P : Params) : Obj := ⟨(.type "tuple"), none, (.seq #[(.str (.ofString "value") 429), (.str (.ofString "text") 430)] 0), #[]⟩
noncomputable def ob184 (P : Params) : Obj := ⟨(.type "tuple"), none, (.seq #[] 0), #[]⟩
noncomputable def ob185 (P : Params) : Obj := mk (nthS 19 PB) (fun n a b s => ⟨.none, none, .func ⟨n, (.ofString "pattern_of"), a, .stmts b, s, 0, [], .none, .none, .none, .none, none, .none, .none, 0⟩, #[]⟩) _ _ _ _ _ _ _ _ _ _ rfl
noncomputable def ob186 (P : Params) : Obj := ⟨(.type "code"), none, (.fields #[(.str (.ofString "pattern_of") 426), (.str (.ofString "pattern_of") 427), (.str (.ofString "/claim/cut.py") 428), (.int 76 0), (.int 1 0), (.int 0 0), (.int 0 0), (.int 3 0), (.ref 181), (.bool true), (.int 181 0), (.ref 182), .none, (.ref 183), (.ref 184), (.ref 185), (.int 431 0), (.int 76 0), (.str (.ofString "/claim/cut.py") 432)]), #[]⟩
noncomputable def ob187 (P : Params) : Obj := mk (nthS 19 PB) (fun n a b s => ⟨(.type "function"), none, .func ⟨n, (.ofString "pattern_of"), a, .stmts b, s, 3, [], .none, .none, .none, (.str (.ofString "snobol.nodes") 392), none, (.ref 186), .none, 0⟩, #[]⟩) _ _ _ _ _ _ _ _ _ _ rfl
noncomputable def ob188 (P : Params) : Obj := ⟨(.type "tuple"), none, (.seq #[] 0), #[]⟩
noncomputable def ob189 (P : Params) : Obj := ⟨.none, none, (.fields #[]), #[]⟩
noncomputable def ob190 (P : Params) : Obj := ⟨(.type "tuple"), none, (.seq #[(.str (.ofString "told") 437)] 0), #[]⟩
noncomputable def ob191 (P : Params) : Obj := ⟨(.type "tuple"), none, (.seq #[] 0), #[]⟩
noncomputable def ob192 (P : Params) : Obj := mk (nthS 20 PB) (fun n a b s => ⟨.none, none, .func ⟨n, (.ofString "is_delayed"), a, .stmts b, s, 0, [], .none, .none, .none, .none, none, .none, .none, 0⟩, #[]⟩) _ _ _ _ _ _ _ _ _ _ rfl
noncomputable def ob193 (P : Params) : Obj := ⟨(.type "code"), none, (.fields #[(.str (.ofString "is_delayed") 434), (.str (.ofString "is_delayed") 435), (.str (.ofString "/claim/cut.py") 436), (.int 85 0), (.int 1 0), (.int 0 0), (.int 0 0), (.int 3 0), (.ref 188), (.bool true), (.int 181 0), (.ref 189), .none, (.ref 190), (.ref 191), (.ref 192), (.int 438 0), (.int 85 0), (.str (.ofString "/claim/cut.py") 439)]), #[]⟩
noncomputable def ob194 (P : Params) : Obj := mk (nthS 20 PB) (fun n a b s => ⟨(.type "function"), none, .func ⟨n, (.ofString "is_delayed"), a, .stmts b, s, 3, [], .none, .none, .none, (.str (.ofString "snobol.nodes") 392), none, (.ref 193), .none, 0⟩, #[]⟩) _ _ _ _ _ _ _ _ _ _ rfl
noncomputable def ob195 (P : Params) : Obj := ⟨(.type "tuple"), none, (.seq #[] 0), #[]⟩
noncomputable def ob196 (P : Params) : Obj := ⟨.none, none, (.fields #[]), #[]⟩
noncomputable def ob197 (P : Params) : Obj := ⟨(.type "tuple"), none, (.seq #[(.str (.ofString "node") 444), (.str (.ofString "host") 445), (.str (.ofString "value") 446)] 0), #[]⟩
noncomputable def ob198 (P : Params) : Obj := ⟨(.type "tuple"), none, (.seq #[] 0), #[]⟩
noncomputable def ob199 (P : Params) : Obj := mk (nthS 21 PB) (fun n a b s => ⟨.none, none, .func ⟨n, (.ofString "settled"), a, .stmts b, s, 0, [], .none, .none, .none, .none, none, .none, .none, 0⟩, #[]⟩) _ _ _ _ _ _ _ _ _ _ rfl
noncomputable def ob200 (P : Params) : Obj := ⟨(.type "code"), none, (.fields #[(.str (.ofString "settled") 441), (.str (.ofString "settled") 442), (.str (.ofString "/claim/cut.py") 443), (.int 87 0), (.int 2 0), (.int 0 0), (.int 0 0), (.int 3 0), (.ref 195), (.bool true), (.int 181 0), (.ref 196), .none, (.ref 197), (.ref 198), (.ref 199), (.int 447 0), (.int 87 0), (.str (.ofString "/claim/cut.py") 448)]), #[]⟩
noncomputable def ob201 (P : Params) : Obj := mk (nthS 21 PB) (fun n a b s => ⟨(.type "function"), none, .func ⟨n, (.ofString "settled"), a, .stmts b, s, 3, [], .none, .none, .none, (.str (.ofString "snobol.nodes") 392), none, (.ref 200), .none, 0⟩, #[]⟩) _ _ _ _ _ _ _ _ _ _ rfl
noncomputable def ob202 (P : Params) : Obj := ⟨(.type "tuple"), none, (.seq #[] 0), #[]⟩
noncomputable def ob203 (P : Params) : Obj := ⟨.none, none, (.fields #[]), #[]⟩
noncomputable def ob204 (P : Params) : Obj := ⟨(.type "tuple"), none, (.seq #[(.str (.ofString "subject") 459), (.str (.ofString "at") 460), (.str (.ofString "text") 461), (.str (.ofString "end") 462)] 0), #[]⟩
noncomputable def ob205 (P : Params) : Obj := ⟨(.type "tuple"), none, (.seq #[] 0), #[]⟩
noncomputable def ob206 (P : Params) : Obj := mk (nthS 25 PB) (fun n a b s => ⟨.none, none, .func ⟨n, (.ofString "chars_end"), a, .stmts b, s, 0, [], .none, .none, .none, .none, none, .none, .none, 0⟩, #[]⟩) _ _ _ _ _ _ _ _ _ _ rfl
noncomputable def ob207 (P : Params) : Obj := ⟨(.type "code"), none, (.fields #[(.str (.ofString "chars_end") 456), (.str (.ofString "chars_end") 457), (.str (.ofString "/claim/cut.py") 458), (.int 99 0), (.int 3 0), (.int 0 0), (.int 0 0), (.int 3 0), (.ref 202), (.bool true), (.int 181 0), (.ref 203), .none, (.ref 204), (.ref 205), (.ref 206), (.int 463 0), (.int 99 0), (.str (.ofString "/claim/cut.py") 464)]), #[]⟩
noncomputable def ob208 (P : Params) : Obj := mk (nthS 25 PB) (fun n a b s => ⟨(.type "function"), none, .func ⟨n, (.ofString "chars_end"), a, .stmts b, s, 3, [], .none, .none, .none, (.str (.ofString "snobol.primitives") 450), none, (.ref 207), .none, 0⟩, #[]⟩) _ _ _ _ _ _ _ _ _ _ rfl
noncomputable def ob209 (P : Params) : Obj := ⟨(.type "tuple"), none, (.seq #[] 0), #[]⟩
noncomputable def ob210 (P : Params) : Obj := ⟨.none, none, (.fields #[]), #[]⟩
noncomputable def ob211 (P : Params) : Obj := ⟨(.type "tuple"), none, (.seq #[(.str (.ofString "subject") 469), (.str (.ofString "at") 470), (.str (.ofString "many") 471)] 0), #[]⟩
noncomputable def ob212 (P : Params) : Obj := ⟨(.type "tuple"), none, (.seq #[] 0), #[]⟩
noncomputable def ob213 (P : Params) : Obj := mk (nthS 26 PB) (fun n a b s => ⟨.none, none, .func ⟨n, (.ofString "len_end"), a, .stmts b, s, 0, [], .none, .none, .none, .none, none, .none, .none, 0⟩, #[]⟩) _ _ _ _ _ _ _ _ _ _ rfl
noncomputable def ob214 (P : Params) : Obj := ⟨(.type "code"), none, (.fields #[(.str (.ofString "len_end") 466), (.str (.ofString "len_end") 467), (.str (.ofString "/claim/cut.py") 468), (.int 102 0), (.int 3 0), (.int 0 0), (.int 0 0), (.int 3 0), (.ref 209), (.bool true), (.int 181 0), (.ref 210), .none, (.ref 211), (.ref 212), (.ref 213), (.int 472 0), (.int 102 0), (.str (.ofString "/claim/cut.py") 473)]), #[]⟩
noncomputable def ob215 (P : Params) : Obj := mk (nthS 26 PB) (fun n a b s => ⟨(.type "function"), none, .func ⟨n, (.ofString "len_end"), a, .stmts b, s, 3, [], .none, .none, .none, (.str (.ofString "snobol.primitives") 450), none, (.ref 214), .none, 0⟩, #[]⟩) _ _ _ _ _ _ _ _ _ _ rfl
noncomputable def ob216 (P : Params) : Obj := ⟨(.type "tuple"), none, (.seq #[] 0), #[]⟩
noncomputable def ob217 (P : Params) : Obj := ⟨.none, none, (.fields #[]), #[]⟩
noncomputable def ob218 (P : Params) : Obj := ⟨(.type "tuple"), none, (.seq #[(.str (.ofString "at") 478), (.str (.ofString "place") 479)] 0), #[]⟩
noncomputable def ob219 (P : Params) : Obj := ⟨(.type "tuple"), none, (.seq #[] 0), #[]⟩
noncomputable def ob220 (P : Params) : Obj := mk (nthS 27 PB) (fun n a b s => ⟨.none, none, .func ⟨n, (.ofString "pos_end"), a, .stmts b, s, 0, [], .none, .none, .none, .none, none, .none, .none, 0⟩, #[]⟩) _ _ _ _ _ _ _ _ _ _ rfl
noncomputable def ob221 (P : Params) : Obj := ⟨(.type "code"), none, (.fields #[(.str (.ofString "pos_end") 475), (.str (.ofString "pos_end") 476), (.str (.ofString "/claim/cut.py") 477), (.int 104 0), (.int 2 0), (.int 0 0), (.int 0 0), (.int 3 0), (.ref 216), (.bool true), (.int 181 0), (.ref 217), .none, (.ref 218), (.ref 219), (.ref 220), (.int 480 0), (.int 104 0), (.str (.ofString "/claim/cut.py") 481)]), #[]⟩
noncomputable def ob222 (P : Params) : Obj := mk (nthS 27 PB) (fun n a b s => ⟨(.type "function"), none, .func ⟨n, (.ofString "pos_end"), a, .stmts b, s, 3, [], .none, .none, .none, (.str (.ofString "snobol.primitives") 450), none, (.ref 221), .none, 0⟩, #[]⟩) _ _ _ _ _ _ _ _ _ _ rfl
noncomputable def ob223 (P : Params) : Obj := ⟨(.type "tuple"), none, (.seq #[] 0), #[]⟩
noncomputable def ob224 (P : Params) : Obj := ⟨.none, none, (.fields #[]), #[]⟩
noncomputable def ob225 (P : Params) : Obj := ⟨(.type "tuple"), none, (.seq #[(.str (.ofString "subject") 486), (.str (.ofString "at") 487), (.str (.ofString "place") 488)] 0), #[]⟩
noncomputable def ob226 (P : Params) : Obj := ⟨(.type "tuple"), none, (.seq #[] 0), #[]⟩
noncomputable def ob227 (P : Params) : Obj := mk (nthS 28 PB) (fun n a b s => ⟨.none, none, .func ⟨n, (.ofString "rpos_end"), a, .stmts b, s, 0, [], .none, .none, .none, .none, none, .none, .none, 0⟩, #[]⟩) _ _ _ _ _ _ _ _ _ _ rfl
noncomputable def ob228 (P : Params) : Obj := ⟨(.type "code"), none, (.fields #[(.str (.ofString "rpos_end") 483), (.str (.ofString "rpos_end") 484), (.str (.ofString "/claim/cut.py") 485), (.int 106 0), (.int 3 0), (.int 0 0), (.int 0 0), (.int 3 0), (.ref 223), (.bool true), (.int 181 0), (.ref 224), .none, (.ref 225), (.ref 226), (.ref 227), (.int 489 0), (.int 106 0), (.str (.ofString "/claim/cut.py") 490)]), #[]⟩
noncomputable def ob229 (P : Params) : Obj := mk (nthS 28 PB) (fun n a b s => ⟨(.type "function"), none, .func ⟨n, (.ofString "rpos_end"), a, .stmts b, s, 3, [], .none, .none, .none, (.str (.ofString "snobol.primitives") 450), none, (.ref 228), .none, 0⟩, #[]⟩) _ _ _ _ _ _ _ _ _ _ rfl
noncomputable def ob230 (P : Params) : Obj := ⟨(.type "tuple"), none, (.seq #[] 0), #[]⟩
noncomputable def ob231 (P : Params) : Obj := ⟨.none, none, (.fields #[]), #[]⟩
noncomputable def ob232 (P : Params) : Obj := ⟨(.type "tuple"), none, (.seq #[(.str (.ofString "subject") 495), (.str (.ofString "at") 496), (.str (.ofString "place") 497)] 0), #[]⟩
noncomputable def ob233 (P : Params) : Obj := ⟨(.type "tuple"), none, (.seq #[] 0), #[]⟩
noncomputable def ob234 (P : Params) : Obj := mk (nthS 29 PB) (fun n a b s => ⟨.none, none, .func ⟨n, (.ofString "tab_end"), a, .stmts b, s, 0, [], .none, .none, .none, .none, none, .none, .none, 0⟩, #[]⟩) _ _ _ _ _ _ _ _ _ _ rfl
noncomputable def ob235 (P : Params) : Obj := ⟨(.type "code"), none, (.fields #[(.str (.ofString "tab_end") 492), (.str (.ofString "tab_end") 493), (.str (.ofString "/claim/cut.py") 494), (.int 108 0), (.int 3 0), (.int 0 0), (.int 0 0), (.int 3 0), (.ref 230), (.bool true), (.int 181 0), (.ref 231), .none, (.ref 232), (.ref 233), (.ref 234), (.int 498 0), (.int 108 0), (.str (.ofString "/claim/cut.py") 499)]), #[]⟩
noncomputable def ob236 (P : Params) : Obj := mk (nthS 29 PB) (fun n a b s => ⟨(.type "function"), none, .func ⟨n, (.ofString "tab_end"), a, .stmts b, s, 3, [], .none, .none, .none, (.str (.ofString "snobol.primitives") 450), none, (.ref 235), .none, 0⟩, #[]⟩) _ _ _ _ _ _ _ _ _ _ rfl
noncomputable def ob237 (P : Params) : Obj := ⟨(.type "tuple"), none, (.seq #[] 0), #[]⟩
noncomputable def ob238 (P : Params) : Obj := ⟨.none, none, (.fields #[]), #[]⟩
noncomputable def ob239 (P : Params) : Obj := ⟨(.type "tuple"), none, (.seq #[(.str (.ofString "subject") 504), (.str (.ofString "at") 505), (.str (.ofString "place") 506), (.str (.ofString "goal") 507)] 0), #[]⟩
noncomputable def ob240 (P : Params) : Obj := ⟨(.type "tuple"), none, (.seq #[] 0), #[]⟩
noncomputable def ob241 (P : Params) : Obj := mk (nthS 30 PB) (fun n a b s => ⟨.none, none, .func ⟨n, (.ofString "rtab_end"), a, .stmts b, s, 0, [], .none, .none, .none, .none, none, .none, .none, 0⟩, #[]⟩) _ _ _ _ _ _ _ _ _ _ rfl
noncomputable def ob242 (P : Params) : Obj := ⟨(.type "code"), none, (.fields #[(.str (.ofString "rtab_end") 501), (.str (.ofString "rtab_end") 502), (.str (.ofString "/claim/cut.py") 503), (.int 110 0), (.int 3 0), (.int 0 0), (.int 0 0), (.int 3 0), (.ref 237), (.bool true), (.int 181 0), (.ref 238), .none, (.ref 239), (.ref 240), (.ref 241), (.int 508 0), (.int 110 0), (.str (.ofString "/claim/cut.py") 509)]), #[]⟩
noncomputable def ob243 (P : Params) : Obj := mk (nthS 30 PB) (fun n a b s => ⟨(.type "function"), none, .func ⟨n, (.ofString "rtab_end"), a, .stmts b, s, 3, [], .none, .none, .none, (.str (.ofString "snobol.primitives") 450), none, (.ref 242), .none, 0⟩, #[]⟩) _ _ _ _ _ _ _ _ _ _ rfl
noncomputable def ob244 (P : Params) : Obj := ⟨(.type "tuple"), none, (.seq #[] 0), #[]⟩
noncomputable def ob245 (P : Params) : Obj := ⟨.none, none, (.fields #[]), #[]⟩
noncomputable def ob246 (P : Params) : Obj := ⟨(.type "tuple"), none, (.seq #[(.str (.ofString "subject") 514)] 0), #[]⟩
noncomputable def ob247 (P : Params) : Obj := ⟨(.type "tuple"), none, (.seq #[] 0), #[]⟩
noncomputable def ob248 (P : Params) : Obj := mk (nthS 31 PB) (fun n a b s => ⟨.none, none, .func ⟨n, (.ofString "rem_end"), a, .stmts b, s, 0, [], .none, .none, .none, .none, none, .none, .none, 0⟩, #[]⟩) _ _ _ _ _ _ _ _ _ _ rfl
noncomputable def ob249 (P : Params) : Obj := ⟨(.type "code"), none, (.fields #[(.str (.ofString "rem_end") 511), (.str (.ofString "rem_end") 512), (.str (.ofString "/claim/cut.py") 513), (.int 113 0), (.int 1 0), (.int 0 0), (.int 0 0), (.int 3 0), (.ref 244), (.bool true), (.int 181 0), (.ref 245), .none, (.ref 246), (.ref 247), (.ref 248), (.int 515 0), (.int 113 0), (.str (.ofString "/claim/cut.py") 516)]), #[]⟩
noncomputable def ob250 (P : Params) : Obj := mk (nthS 31 PB) (fun n a b s => ⟨(.type "function"), none, .func ⟨n, (.ofString "rem_end"), a, .stmts b, s, 3, [], .none, .none, .none, (.str (.ofString "snobol.primitives") 450), none, (.ref 249), .none, 0⟩, #[]⟩) _ _ _ _ _ _ _ _ _ _ rfl
noncomputable def ob251 (P : Params) : Obj := ⟨(.type "tuple"), none, (.seq #[] 0), #[]⟩
noncomputable def ob252 (P : Params) : Obj := ⟨.none, none, (.fields #[]), #[]⟩
noncomputable def ob253 (P : Params) : Obj := ⟨(.type "tuple"), none, (.seq #[(.str (.ofString "subject") 521), (.str (.ofString "at") 522), (.str (.ofString "signs") 523)] 0), #[]⟩
noncomputable def ob254 (P : Params) : Obj := ⟨(.type "tuple"), none, (.seq #[] 0), #[]⟩
noncomputable def ob255 (P : Params) : Obj := mk (nthS 32 PB) (fun n a b s => ⟨.none, none, .func ⟨n, (.ofString "any_at"), a, .stmts b, s, 0, [], .none, .none, .none, .none, none, .none, .none, 0⟩, #[]⟩) _ _ _ _ _ _ _ _ _ _ rfl
noncomputable def ob256 (P : Params) : Obj := ⟨(.type "code"), none, (.fields #[(.str (.ofString "any_at") 518), (.str (.ofString "any_at") 519), (.str (.ofString "/claim/cut.py") 520), (.int 115 0), (.int 3 0), (.int 0 0), (.int 0 0), (.int 3 0), (.ref 251), (.bool true), (.int 181 0), (.ref 252), .none, (.ref 253), (.ref 254), (.ref 255), (.int 524 0), (.int 115 0), (.str (.ofString "/claim/cut.py") 525)]), #[]⟩
noncomputable def ob257 (P : Params) : Obj := mk (nthS 32 PB) (fun n a b s => ⟨(.type "function"), none, .func ⟨n, (.ofString "any_at"), a, .stmts b, s, 3, [], .none, .none, .none, (.str (.ofString "snobol.primitives") 450), none, (.ref 256), .none, 0⟩, #[]⟩) _ _ _ _ _ _ _ _ _ _ rfl
noncomputable def ob258 (P : Params) : Obj := ⟨(.type "tuple"), none, (.seq #[] 0), #[]⟩
noncomputable def ob259 (P : Params) : Obj := ⟨.none, none, (.fields #[]), #[]⟩
noncomputable def ob260 (P : Params) : Obj := ⟨(.type "tuple"), none, (.seq #[(.str (.ofString "subject") 530), (.str (.ofString "at") 531), (.str (.ofString "signs") 532)] 0), #[]⟩
noncomputable def ob261 (P : Params) : Obj := ⟨(.type "tuple"), none, (.seq #[] 0), #[]⟩
noncomputable def ob262 (P : Params) : Obj := mk (nthS 33 PB) (fun n a b s => ⟨.none, none, .func ⟨n, (.ofString "notany_at"), a, .stmts b, s, 0, [], .none, .none, .none, .none, none, .none, .none, 0⟩, #[]⟩) _ _ _ _ _ _ _ _ _ _ rfl
noncomputable def ob263 (P : Params) : Obj := ⟨(.type "code"), none, (.fields #[(.str (.ofString "notany_at") 527), (.str (.ofString "notany_at") 528), (.str (.ofString "/claim/cut.py") 529), (.int 117 0), (.int 3 0), (.int 0 0), (.int 0 0), (.int 3 0), (.ref 258), (.bool true), (.int 181 0), (.ref 259), .none, (.ref 260), (.ref 261), (.ref 262), (.int 533 0), (.int 117 0), (.str (.ofString "/claim/cut.py") 534)]), #[]⟩
noncomputable def ob264 (P : Params) : Obj := mk (nthS 33 PB) (fun n a b s => ⟨(.type "function"), none, .func ⟨n, (.ofString "notany_at"), a, .stmts b, s, 3, [], .none, .none, .none, (.str (.ofString "snobol.primitives") 450), none, (.ref 263), .none, 0⟩, #[]⟩) _ _ _ _ _ _ _ _ _ _ rfl
noncomputable def ob265 (P : Params) : Obj := ⟨(.type "tuple"), none, (.seq #[] 0), #[]⟩
noncomputable def ob266 (P : Params) : Obj := ⟨.none, none, (.fields #[]), #[]⟩
noncomputable def ob267 (P : Params) : Obj := ⟨(.type "tuple"), none, (.seq #[(.str (.ofString "subject") 539), (.str (.ofString "at") 540), (.str (.ofString "signs") 541), (.str (.ofString "is_in") 542)] 0), #[]⟩
noncomputable def ob268 (P : Params) : Obj := ⟨(.type "tuple"), none, (.seq #[] 0), #[]⟩
noncomputable def ob269 (P : Params) : Obj := mk (nthS 34 PB) (fun n a b s => ⟨.none, none, .func ⟨n, (.ofString "run_end"), a, .stmts b, s, 0, [], .none, .none, .none, .none, none, .none, .none, 0⟩, #[]⟩) _ _ _ _ _ _ _ _ _ _ rfl
noncomputable def ob270 (P : Params) : Obj := ⟨(.type "code"), none, (.fields #[(.str (.ofString "run_end") 536), (.str (.ofString "run_end") 537), (.str (.ofString "/claim/cut.py") 538), (.int 119 0), (.int 4 0), (.int 0 0), (.int 0 0), (.int 3 0), (.ref 265), (.bool true), (.int 181 0), (.ref 266), .none, (.ref 267), (.ref 268), (.ref 269), (.int 543 0), (.int 119 0), (.str (.ofString "/claim/cut.py") 544)]), #[]⟩
noncomputable def ob271 (P : Params) : Obj := mk (nthS 34 PB) (fun n a b s => ⟨(.type "function"), none, .func ⟨n, (.ofString "run_end"), a, .stmts b, s, 3, [], .none, .none, .none, (.str (.ofString "snobol.primitives") 450), none, (.ref 270), .none, 0⟩, #[]⟩) _ _ _ _ _ _ _ _ _ _ rfl
noncomputable def ob272 (P : Params) : Obj := ⟨(.type "tuple"), none, (.seq #[] 0), #[]⟩
noncomputable def ob273 (P : Params) : Obj := ⟨.none, none, (.fields #[]), #[]⟩
noncomputable def ob274 (P : Params) : Obj := ⟨(.type "tuple"), none, (.seq #[(.str (.ofString "subject") 549), (.str (.ofString "at") 550), (.str (.ofString "signs") 551), (.str (.ofString "end") 552)] 0), #[]⟩
noncomputable def ob275 (P : Params) : Obj := ⟨(.type "tuple"), none, (.seq #[] 0), #[]⟩
noncomputable def ob276 (P : Params) : Obj := mk (nthS 35 PB) (fun n a b s => ⟨.none, none, .func ⟨n, (.ofString "span_end"), a, .stmts b, s, 0, [], .none, .none, .none, .none, none, .none, .none, 0⟩, #[]⟩) _ _ _ _ _ _ _ _ _ _ rfl
noncomputable def ob277 (P : Params) : Obj := ⟨(.type "code"), none, (.fields #[(.str (.ofString "span_end") 546), (.str (.ofString "span_end") 547), (.str (.ofString "/claim/cut.py") 548), (.int 123 0), (.int 3 0), (.int 0 0), (.int 0 0), (.int 3 0), (.ref 272), (.bool true), (.int 181 0), (.ref 273), .none, (.ref 274), (.ref 275), (.ref 276), (.int 553 0), (.int 123 0), (.str (.ofString "/claim/cut.py") 554)]), #[]⟩
noncomputable def ob278 (P : Params) : Obj := mk (nthS 35 PB) (fun n a b s => ⟨(.type "function"), none, .func ⟨n, (.ofString "span_end"), a, .stmts b, s, 3, [], .none, .none, .none, (.str (.ofString "snobol.primitives") 450), none, (.ref 277), .none, 0⟩, #[]⟩) _ _ _ _ _ _ _ _ _ _ rfl
noncomputable def ob279 (P : Params) : Obj := ⟨(.type "tuple"), none, (.seq #[] 0), #[]⟩
noncomputable def ob280 (P : Params) : Obj := ⟨.none, none, (.fields #[]), #[]⟩
noncomputable def ob281 (P : Params) : Obj := ⟨(.type "tuple"), none, (.seq #[(.str (.ofString "subject") 559), (.str (.ofString "at") 560), (.str (.ofString "signs") 561), (.str (.ofString "end") 562)] 0), #[]⟩
noncomputable def ob282 (P : Params) : Obj := ⟨(.type "tuple"), none, (.seq #[] 0), #[]⟩
noncomputable def ob283 (P : Params) : Obj := mk (nthS 36 PB) (fun n a b s => ⟨.none, none, .func ⟨n, (.ofString "break_end"), a, .stmts b, s, 0, [], .none, .none, .none, .none, none, .none, .none, 0⟩, #[]⟩) _ _ _ _ _ _ _ _ _ _ rfl
noncomputable def ob284 (P : Params) : Obj := ⟨(.type "code"), none, (.fields #[(.str (.ofString "break_end") 556), (.str (.ofString "break_end") 557), (.str (.ofString "/claim/cut.py") 558), (.int 126 0), (.int 3 0), (.int 0 0), (.int 0 0), (.int 3 0), (.ref 279), (.bool true), (.int 181 0), (.ref 280), .none, (.ref 281), (.ref 282), (.ref 283), (.int 563 0), (.int 126 0), (.str (.ofString "/claim/cut.py") 564)]), #[]⟩
noncomputable def ob285 (P : Params) : Obj := mk (nthS 36 PB) (fun n a b s => ⟨(.type "function"), none, .func ⟨n, (.ofString "break_end"), a, .stmts b, s, 3, [], .none, .none, .none, (.str (.ofString "snobol.primitives") 450), none, (.ref 284), .none, 0⟩, #[]⟩) _ _ _ _ _ _ _ _ _ _ rfl
noncomputable def ob286 (P : Params) : Obj := ⟨(.type "tuple"), none, (.seq #[] 0), #[]⟩
noncomputable def ob287 (P : Params) : Obj := ⟨.none, none, (.fields #[]), #[]⟩
noncomputable def ob288 (P : Params) : Obj := ⟨(.type "tuple"), none, (.seq #[(.str (.ofString "subject") 569), (.str (.ofString "at") 570), (.str (.ofString "level") 571)] 0), #[]⟩
noncomputable def ob289 (P : Params) : Obj := ⟨(.type "tuple"), none, (.seq #[] 0), #[]⟩
noncomputable def ob290 (P : Params) : Obj := mk (nthS 37 PB) (fun n a b s => ⟨.none, none, .func ⟨n, (.ofString "bal_end"), a, .stmts b, s, 0, [], .none, .none, .none, .none, none, .none, .none, 0⟩, #[]⟩) _ _ _ _ _ _ _ _ _ _ rfl
noncomputable def ob291 (P : Params) : Obj := ⟨(.type "code"), none, (.fields #[(.str (.ofString "bal_end") 566), (.str (.ofString "bal_end") 567), (.str (.ofString "/claim/cut.py") 568), (.int 129 0), (.int 2 0), (.int 0 0), (.int 0 0), (.int 3 0), (.ref 286), (.bool true), (.int 181 0), (.ref 287), .none, (.ref 288), (.ref 289), (.ref 290), (.int 572 0), (.int 129 0), (.str (.ofString "/claim/cut.py") 573)]), #[]⟩
noncomputable def ob292 (P : Params) : Obj := mk (nthS 37 PB) (fun n a b s => ⟨(.type "function"), none, .func ⟨n, (.ofString "bal_end"), a, .stmts b, s, 3, [], .none, .none, .none, (.str (.ofString "snobol.primitives") 450), none, (.ref 291), .none, 0⟩, #[]⟩) _ _ _ _ _ _ _ _ _ _ rfl
noncomputable def ob293 (P : Params) : Obj := ⟨(.type "tuple"), none, (.seq #[] 0), #[]⟩
noncomputable def ob294 (P : Params) : Obj := ⟨.none, none, (.fields #[]), #[]⟩
noncomputable def ob295 (P : Params) : Obj := ⟨(.type "tuple"), none, (.seq #[(.str (.ofString "subject") 578), (.str (.ofString "at") 579), (.str (.ofString "found") 580), (.str (.ofString "end") 581)] 0), #[]⟩
noncomputable def ob296 (P : Params) : Obj := ⟨(.type "tuple"), none, (.seq #[] 0), #[]⟩
noncomputable def ob297 (P : Params) : Obj := mk (nthS 38 PB) (fun n a b s => ⟨.none, none, .func ⟨n, (.ofString "bal_ends"), a, .stmts b, s, 0, [], .none, .none, .none, .none, none, .none, .none, 0⟩, #[]⟩) _ _ _ _ _ _ _ _ _ _ rfl
noncomputable def ob298 (P : Params) : Obj := ⟨(.type "code"), none, (.fields #[(.str (.ofString "bal_ends") 575), (.str (.ofString "bal_ends") 576), (.str (.ofString "/claim/cut.py") 577), (.int 142 0), (.int 2 0), (.int 0 0), (.int 0 0), (.int 3 0), (.ref 293), (.bool true), (.int 181 0), (.ref 294), .none, (.ref 295), (.ref 296), (.ref 297), (.int 582 0), (.int 142 0), (.str (.ofString "/claim/cut.py") 583)]), #[]⟩
noncomputable def ob299 (P : Params) : Obj := mk (nthS 38 PB) (fun n a b s => ⟨(.type "function"), none, .func ⟨n, (.ofString "bal_ends"), a, .stmts b, s, 3, [], .none, .none, .none, (.str (.ofString "snobol.primitives") 450), none, (.ref 298), .none, 0⟩, #[]⟩) _ _ _ _ _ _ _ _ _ _ rfl
noncomputable def ob300 (P : Params) : Obj := ⟨(.type "tuple"), none, (.seq #[] 0), #[]⟩
noncomputable def ob301 (P : Params) : Obj := ⟨.none, none, (.fields #[]), #[]⟩
noncomputable def ob302 (P : Params) : Obj := ⟨(.type "tuple"), none, (.seq #[(.str (.ofString "kind") 588), (.str (.ofString "subject") 589), (.str (.ofString "at") 590), (.str (.ofString "told") 591)] 0), #[]⟩
noncomputable def ob303 (P : Params) : Obj := ⟨(.type "tuple"), none, (.seq #[] 0), #[]⟩
noncomputable def ob304 (P : Params) : Obj := mk (nthS 39 PB) (fun n a b s => ⟨.none, none, .func ⟨n, (.ofString "one_end"), a, .stmts b, s, 0, [], .none, .none, .none, .none, none, .none, .none, 0⟩, #[]⟩) _ _ _ _ _ _ _ _ _ _ rfl
noncomputable def ob305 (P : Params) : Obj := ⟨(.type "code"), none, (.fields #[(.str (.ofString "one_end") 585), (.str (.ofString "one_end") 586), (.str (.ofString "/claim/cut.py") 587), (.int 148 0), (.int 4 0), (.int 0 0), (.int 0 0), (.int 3 0), (.ref 300), (.bool true), (.int 181 0), (.ref 301), .none, (.ref 302), (.ref 303), (.ref 304), (.int 592 0), (.int 148 0), (.str (.ofString "/claim/cut.py") 593)]), #[]⟩
noncomputable def ob306 (P : Params) : Obj := mk (nthS 39 PB) (fun n a b s => ⟨(.type "function"), none, .func ⟨n, (.ofString "one_end"), a, .stmts b, s, 3, [], .none, .none, .none, (.str (.ofString "snobol.primitives") 450), none, (.ref 305), .none, 0⟩, #[]⟩) _ _ _ _ _ _ _ _ _ _ rfl
noncomputable def ob307 (P : Params) : Obj := ⟨(.type "tuple"), none, (.seq #[] 0), #[]⟩
noncomputable def ob308 (P : Params) : Obj := ⟨.none, none, (.fields #[]), #[]⟩
noncomputable def ob309 (P : Params) : Obj := ⟨(.type "tuple"), none, (.seq #[(.str (.ofString "node") 598), (.str (.ofString "subject") 599), (.str (.ofString "at") 600)] 0), #[]⟩
noncomputable def ob310 (P : Params) : Obj := ⟨(.type "tuple"), none, (.seq #[] 0), #[]⟩
noncomputable def ob311 (P : Params) : Obj := mk (nthS 40 PB) (fun n a b s => ⟨.none, none, .func ⟨n, (.ofString "plain_end"), a, .stmts b, s, 0, [], .none, .none, .none, .none, none, .none, .none, 0⟩, #[]⟩) _ _ _ _ _ _ _ _ _ _ rfl
noncomputable def ob312 (P : Params) : Obj := ⟨(.type "code"), none, (.fields #[(.str (.ofString "plain_end") 595), (.str (.ofString "plain_end") 596), (.str (.ofString "/claim/cut.py") 597), (.int 168 0), (.int 3 0), (.int 0 0), (.int 0 0), (.int 3 0), (.ref 307), (.bool true), (.int 181 0), (.ref 308), .none, (.ref 309), (.ref 310), (.ref 311), (.int 601 0), (.int 168 0), (.str (.ofString "/claim/cut.py") 602)]), #[]⟩
noncomputable def ob313 (P : Params) : Obj := mk (nthS 40 PB) (fun n a b s => ⟨(.type "function"), none, .func ⟨n, (.ofString "plain_end"), a, .stmts b, s, 3, [], .none, .none, .none, (.str (.ofString "snobol.primitives") 450), none, (.ref 312), .none, 0⟩, #[]⟩) _ _ _ _ _ _ _ _ _ _ rfl
noncomputable def ob314 (P : Params) : Obj := ⟨(.type "tuple"), none, (.seq #[] 0), #[]⟩
noncomputable def ob315 (P : Params) : Obj := ⟨.none, none, (.fields #[]), #[]⟩
noncomputable def ob316 (P : Params) : Obj := ⟨(.type "tuple"), none, (.seq #[(.str (.ofString "node") 611), (.str (.ofString "subject") 612), (.str (.ofString "is_anchored") 613), (.str (.ofString "host") 614), (.str (.ofString "begin") 615), (.str (.ofString "found") 616)] 0), #[]⟩
noncomputable def ob317 (P : Params) : Obj := ⟨(.type "tuple"), none, (.seq #[] 0), #[]⟩
noncomputable def ob318 (P : Params) : Obj := mk (nthS 43 PB) (fun n a b s => ⟨.none, none, .func ⟨n, (.ofString "match_plain"), a, .stmts b, s, 0, [], .none, .none, .none, .none, none, .none, .none, 0⟩, #[]⟩) _ _ _ _ _ _ _ _ _ _ rfl
noncomputable def ob319 (P : Params) : Obj := ⟨(.type "code"), none, (.fields #[(.str (.ofString "match_plain") 608), (.str (.ofString "match_plain") 609), (.str (.ofString "/claim/cut.py") 610), (.int 172 0), (.int 4 0), (.int 0 0), (.int 0 0), (.int 3 0), (.ref 314), (.bool true), (.int 181 0), (.ref 315), .none, (.ref 316), (.ref 317), (.ref 318), (.int 617 0), (.int 172 0), (.str (.ofString "/claim/cut.py") 618)]), #[]⟩
noncomputable def ob320 (P : Params) : Obj := mk (nthS 43 PB) (fun n a b s => ⟨(.type "function"), none, .func ⟨n, (.ofString "match_plain"), a, .stmts b, s, 3, [], .none, .none, .none, (.str (.ofString "snobol.trial") 604), none, (.ref 319), .none, 0⟩, #[]⟩) _ _ _ _ _ _ _ _ _ _ rfl
noncomputable def ob321 (P : Params) : Obj := ⟨(.type "tuple"), none, (.seq #[] 0), #[]⟩
noncomputable def ob322 (P : Params) : Obj := ⟨.none, none, (.fields #[]), #[]⟩
noncomputable def ob323 (P : Params) : Obj := ⟨(.type "tuple"), none, (.seq #[(.str (.ofString "node") 623), (.str (.ofString "subject") 624), (.str (.ofString "begin") 625), (.str (.ofString "host") 626), (.str (.ofString "found") 627)] 0), #[]⟩
noncomputable def ob324 (P : Params) : Obj := ⟨(.type "tuple"), none, (.seq #[] 0), #[]⟩
noncomputable def ob325 (P : Params) : Obj := mk (nthS 44 PB) (fun n a b s => ⟨.none, none, .func ⟨n, (.ofString "match_at"), a, .stmts b, s, 0, [], .none, .none, .none, .none, none, .none, .none, 0⟩, #[]⟩) _ _ _ _ _ _ _ _ _ _ rfl
noncomputable def ob326 (P : Params) : Obj := ⟨(.type "code"), none, (.fields #[(.str (.ofString "match_at") 620), (.str (.ofString "match_at") 621), (.str (.ofString "/claim/cut.py") 622), (.int 178 0), (.int 4 0), (.int 0 0), (.int 0 0), (.int 3 0), (.ref 321), (.bool true), (.int 181 0), (.ref 322), .none, (.ref 323), (.ref 324), (.ref 325), (.int 628 0), (.int 178 0), (.str (.ofString "/claim/cut.py") 629)]), #[]⟩
noncomputable def ob327 (P : Params) : Obj := mk (nthS 44 PB) (fun n a b s => ⟨(.type "function"), none, .func ⟨n, (.ofString "match_at"), a, .stmts b, s, 3, [], .none, .none, .none, (.str (.ofString "snobol.trial") 604), none, (.ref 326), .none, 0⟩, #[]⟩) _ _ _ _ _ _ _ _ _ _ rfl
noncomputable def ob328 (P : Params) : Obj := ⟨(.type "tuple"), none, (.seq #[] 0), #[]⟩
noncomputable def ob329 (P : Params) : Obj := ⟨.none, none, (.fields #[]), #[]⟩
noncomputable def ob330 (P : Params) : Obj := ⟨(.type "tuple"), none, (.seq #[(.str (.ofString "node") 634), (.str (.ofString "subject") 635), (.str (.ofString "begin") 636), (.str (.ofString "host") 637), (.str (.ofString "pile") 638), (.str (.ofString "way") 639), (.str (.ofString "chain") 640), (.str (.ofString "at") 641), (.str (.ofString "named") 642)] 0), #[]⟩
noncomputable def ob331 (P : Params) : Obj := ⟨(.type "tuple"), none, (.seq #[] 0), #[]⟩
noncomputable def ob332 (P : Params) : Obj := mk (nthS 45 PB) (fun n a b s => ⟨.none, none, .func ⟨n, (.ofString "tried"), a, .stmts b, s, 0, [], .none, .none, .none, .none, none, .none, .none, 0⟩, #[]⟩) _ _ _ _ _ _ _ _ _ _ rfl
noncomputable def ob333 (P : Params) : Obj := ⟨(.type "code"), none, (.fields #[(.str (.ofString "tried") 631), (.str (.ofString "tried") 632), (.str (.ofString "/claim/cut.py") 633), (.int 181 0), (.int 4 0), (.int 0 0), (.int 0 0), (.int 3 0), (.ref 328), (.bool true), (.int 181 0), (.ref 329), .none, (.ref 330), (.ref 331), (.ref 332), (.int 643 0), (.int 181 0), (.str (.ofString "/claim/cut.py") 644)]), #[]⟩
noncomputable def ob334 (P : Params) : Obj := mk (nthS 45 PB) (fun n a b s => ⟨(.type "function"), none, .func ⟨n, (.ofString "tried"), a, .stmts b, s, 3, [], .none, .none, .none, (.str (.ofString "snobol.trial") 604), none, (.ref 333), .none, 0⟩, #[]⟩) _ _ _ _ _ _ _ _ _ _ rfl
noncomputable def ob335 (P : Params) : Obj := ⟨(.type "tuple"), none, (.seq #[] 0), #[]⟩
noncomputable def ob336 (P : Params) : Obj := ⟨.none, none, (.fields #[]), #[]⟩
noncomputable def ob337 (P : Params) : Obj := ⟨(.type "tuple"), none, (.seq #[(.str (.ofString "chain") 649), (.str (.ofString "at") 650), (.str (.ofString "named") 651), (.str (.ofString "subject") 652), (.str (.ofString "pile") 653), (.str (.ofString "host") 654), (.str (.ofString "here") 655), (.str (.ofString "rest") 656), (.str (.ofString "kind") 657), (.str (.ofString "value") 658)] 0), #[]⟩
noncomputable def ob338 (P : Params) : Obj := ⟨(.type "tuple"), none, (.seq #[] 0), #[]⟩
noncomputable def ob339 (P : Params) : Obj := mk (nthS 46 PB) (fun n a b s => ⟨.none, none, .func ⟨n, (.ofString "advanced"), a, .stmts b, s, 0, [], .none, .none, .none, .none, none, .none, .none, 0⟩, #[]⟩) _ _ _ _ _ _ _ _ _ _ rfl
noncomputable def ob340 (P : Params) : Obj := ⟨(.type "code"), none, (.fields #[(.str (.ofString "advanced") 646), (.str (.ofString "advanced") 647), (.str (.ofString "/claim/cut.py") 648), (.int 199 0), (.int 6 0), (.int 0 0), (.int 0 0), (.int 3 0), (.ref 335), (.bool true), (.int 181 0), (.ref 336), .none, (.ref 337), (.ref 338), (.ref 339), (.int 659 0), (.int 199 0), (.str (.ofString "/claim/cut.py") 660)]), #[]⟩
noncomputable def ob341 (P : Params) : Obj := mk (nthS 46 PB) (fun n a b s => ⟨(.type "function"), none, .func ⟨n, (.ofString "advanced"), a, .stmts b, s, 3, [], .none, .none, .none, (.str (.ofString "snobol.trial") 604), none, (.ref 340), .none, 0⟩, #[]⟩) _ _ _ _ _ _ _ _ _ _ rfl
noncomputable def ob342 (P : Params) : Obj := ⟨(.type "tuple"), none, (.seq #[] 0), #[]⟩
noncomputable def ob343 (P : Params) : Obj := ⟨.none, none, (.fields #[]), #[]⟩
noncomputable def ob344 (P : Params) : Obj := ⟨(.type "tuple"), none, (.seq #[(.str (.ofString "here") 665), (.str (.ofString "rest") 666), (.str (.ofString "at") 667), (.str (.ofString "named") 668), (.str (.ofString "pile") 669), (.str (.ofString "kind") 670)] 0), #[]⟩
noncomputable def ob345 (P : Params) : Obj := ⟨(.type "tuple"), none, (.seq #[] 0), #[]⟩
noncomputable def ob346 (P : Params) : Obj := mk (nthS 47 PB) (fun n a b s => ⟨.none, none, .func ⟨n, (.ofString "led_in"), a, .stmts b, s, 0, [], .none, .none, .none, .none, none, .none, .none, 0⟩, #[]⟩) _ _ _ _ _ _ _ _ _ _ rfl
noncomputable def ob347 (P : Params) : Obj := ⟨(.type "code"), none, (.fields #[(.str (.ofString "led_in") 662), (.str (.ofString "led_in") 663), (.str (.ofString "/claim/cut.py") 664), (.int 214 0), (.int 5 0), (.int 0 0), (.int 0 0), (.int 3 0), (.ref 342), (.bool true), (.int 181 0), (.ref 343), .none, (.ref 344), (.ref 345), (.ref 346), (.int 671 0), (.int 214 0), (.str (.ofString "/claim/cut.py") 672)]), #[]⟩
noncomputable def ob348 (P : Params) : Obj := mk (nthS 47 PB) (fun n a b s => ⟨(.type "function"), none, .func ⟨n, (.ofString "led_in"), a, .stmts b, s, 3, [], .none, .none, .none, (.str (.ofString "snobol.trial") 604), none, (.ref 347), .none, 0⟩, #[]⟩) _ _ _ _ _ _ _ _ _ _ rfl
noncomputable def ob349 (P : Params) : Obj := ⟨(.type "tuple"), none, (.seq #[] 0), #[]⟩
noncomputable def ob350 (P : Params) : Obj := ⟨.none, none, (.fields #[]), #[]⟩
noncomputable def ob351 (P : Params) : Obj := ⟨(.type "tuple"), none, (.seq #[(.str (.ofString "here") 677), (.str (.ofString "rest") 678), (.str (.ofString "at") 679), (.str (.ofString "named") 680), (.str (.ofString "subject") 681), (.str (.ofString "pile") 682), (.str (.ofString "host") 683), (.str (.ofString "kind") 684), (.str (.ofString "told") 685), (.str (.ofString "begin") 686)] 0), #[]⟩
noncomputable def ob352 (P : Params) : Obj := ⟨(.type "tuple"), none, (.seq #[] 0), #[]⟩
noncomputable def ob353 (P : Params) : Obj := mk (nthS 48 PB) (fun n a b s => ⟨.none, none, .func ⟨n, (.ofString "led_out"), a, .stmts b, s, 0, [], .none, .none, .none, .none, none, .none, .none, 0⟩, #[]⟩) _ _ _ _ _ _ _ _ _ _ rfl
noncomputable def ob354 (P : Params) : Obj := ⟨(.type "code"), none, (.fields #[(.str (.ofString "led_out") 674), (.str (.ofString "led_out") 675), (.str (.ofString "/claim/cut.py") 676), (.int 225 0), (.int 7 0), (.int 0 0), (.int 0 0), (.int 3 0), (.ref 349), (.bool true), (.int 181 0), (.ref 350), .none, (.ref 351), (.ref 352), (.ref 353), (.int 687 0), (.int 225 0), (.str (.ofString "/claim/cut.py") 688)]), #[]⟩
noncomputable def ob355 (P : Params) : Obj := mk (nthS 48 PB) (fun n a b s => ⟨(.type "function"), none, .func ⟨n, (.ofString "led_out"), a, .stmts b, s, 3, [], .none, .none, .none, (.str (.ofString "snobol.trial") 604), none, (.ref 354), .none, 0⟩, #[]⟩) _ _ _ _ _ _ _ _ _ _ rfl
noncomputable def ob356 (P : Params) : Obj := ⟨(.type "tuple"), none, (.seq #[] 0), #[]⟩
noncomputable def ob357 (P : Params) : Obj := ⟨.none, none, (.fields #[]), #[]⟩
noncomputable def ob358 (P : Params) : Obj := ⟨(.type "tuple"), none, (.seq #[(.str (.ofString "chain") 693), (.str (.ofString "at") 694), (.str (.ofString "named") 695), (.str (.ofString "pile") 696), (.str (.ofString "kind") 697), (.str (.ofString "rest") 698)] 0), #[]⟩
noncomputable def ob359 (P : Params) : Obj := ⟨(.type "tuple"), none, (.seq #[] 0), #[]⟩
noncomputable def ob360 (P : Params) : Obj := mk (nthS 49 PB) (fun n a b s => ⟨.none, none, .func ⟨n, (.ofString "steered"), a, .stmts b, s, 0, [], .none, .none, .none, .none, none, .none, .none, 0⟩, #[]⟩) _ _ _ _ _ _ _ _ _ _ rfl
noncomputable def ob361 (P : Params) : Obj := ⟨(.type "code"), none, (.fields #[(.str (.ofString "steered") 690), (.str (.ofString "steered") 691), (.str (.ofString "/claim/cut.py") 692), (.int 232 0), (.int 4 0), (.int 0 0), (.int 0 0), (.int 3 0), (.ref 356), (.bool true), (.int 181 0), (.ref 357), .none, (.ref 358), (.ref 359), (.ref 360), (.int 699 0), (.int 232 0), (.str (.ofString "/claim/cut.py") 700)]), #[]⟩
noncomputable def ob362 (P : Params) : Obj := mk (nthS 49 PB) (fun n a b s => ⟨(.type "function"), none, .func ⟨n, (.ofString "steered"), a, .stmts b, s, 3, [], .none, .none, .none, (.str (.ofString "snobol.trial") 604), none, (.ref 361), .none, 0⟩, #[]⟩) _ _ _ _ _ _ _ _ _ _ rfl
noncomputable def ob363 (P : Params) : Obj := ⟨(.type "tuple"), none, (.seq #[] 0), #[]⟩
noncomputable def ob364 (P : Params) : Obj := ⟨.none, none, (.fields #[]), #[]⟩
noncomputable def ob365 (P : Params) : Obj := ⟨(.type "tuple"), none, (.seq #[(.str (.ofString "here") 705), (.str (.ofString "rest") 706), (.str (.ofString "at") 707), (.str (.ofString "named") 708), (.str (.ofString "subject") 709), (.str (.ofString "pile") 710), (.str (.ofString "host") 711), (.str (.ofString "kind") 712), (.str (.ofString "ends") 713), (.str (.ofString "end") 714), (.str (.ofString "plain") 715)] 0), #[]⟩
noncomputable def ob366 (P : Params) : Obj := ⟨(.type "tuple"), none, (.seq #[] 0), #[]⟩
noncomputable def ob367 (P : Params) : Obj := mk (nthS 50 PB) (fun n a b s => ⟨.none, none, .func ⟨n, (.ofString "taken"), a, .stmts b, s, 0, [], .none, .none, .none, .none, none, .none, .none, 0⟩, #[]⟩) _ _ _ _ _ _ _ _ _ _ rfl
noncomputable def ob368 (P : Params) : Obj := ⟨(.type "code"), none, (.fields #[(.str (.ofString "taken") 702), (.str (.ofString "taken") 703), (.str (.ofString "/claim/cut.py") 704), (.int 240 0), (.int 7 0), (.int 0 0), (.int 0 0), (.int 3 0), (.ref 363), (.bool true), (.int 181 0), (.ref 364), .none, (.ref 365), (.ref 366), (.ref 367), (.int 716 0), (.int 240 0), (.str (.ofString "/claim/cut.py") 717)]), #[]⟩
noncomputable def ob369 (P : Params) : Obj := mk (nthS 50 PB) (fun n a b s => ⟨(.type "function"), none, .func ⟨n, (.ofString "taken"), a, .stmts b, s, 3, [], .none, .none, .none, (.str (.ofString "snobol.trial") 604), none, (.ref 368), .none, 0⟩, #[]⟩) _ _ _ _ _ _ _ _ _ _ rfl
noncomputable def ob370 (P : Params) : Obj := ⟨(.type "tuple"), none, (.seq #[] 0), #[]⟩
noncomputable def ob371 (P : Params) : Obj := ⟨(.type "builtin_function_or_method"), none, (.fields #[(.builtin "type.__prepare__"), (.type "type")]), #[]⟩
noncomputable def ob372 (P : Params) : Obj := ⟨(.type "dict"), none, (.dict #[⟨(PyData.keyHash P (.ofString "__module__")), (.str (.ofString "__module__") 728), (.str (.ofString "snobol.hosts") 719)⟩, ⟨(PyData.keyHash P (.ofString "__qualname__")), (.str (.ofString "__qualname__") 730), (.str (.ofString "PlainHost") 729)⟩, ⟨(PyData.keyHash P (.ofString "__firstlineno__")), (.str (.ofString "__firstlineno__") 732), (.int 257 731)⟩, ⟨(PyData.keyHash P (.ofString "__init__")), (.str (.ofString "__init__") 742), (.ref 383)⟩, ⟨(PyData.keyHash P (.ofString "value_of")), (.str (.ofString "value_of") 750), (.ref 390)⟩, ⟨(PyData.keyHash P (.ofString "assign")), (.str (.ofString "assign") 759), (.ref 397)⟩, ⟨(PyData.keyHash P (.ofString "step")), (.str (.ofString "step") 766), (.ref 404)⟩, ⟨(PyData.keyHash P (.ofString "__static_attributes__")), (.str (.ofString "__static_attributes__") 773), (.ref 405)⟩] 8), #[]⟩
noncomputable def ob373 (P : Params) : Obj := ⟨(.type "tuple"), none, (.seq #[] 0), #[]⟩
noncomputable def ob374 (P : Params) : Obj := ⟨.none, none, (.fields #[(.int 259 0), (.int 4 0), (.ref 382), (.int 267 0), (.int 4 0), (.ref 389), (.int 272 0), (.int 4 0), (.ref 396), (.int 279 0), (.int 4 0), (.ref 403)]), #[]⟩
noncomputable def ob375 (P : Params) : Obj := ⟨(.type "code"), none, (.fields #[(.str (.ofString "PlainHost") 723), (.str (.ofString "PlainHost") 724), (.str (.ofString "/claim/cut.py") 725), (.int 257 0), (.int 0 0), (.int 0 0), (.int 0 0), (.int 0 0), (.ref 373), (.bool false), (.int 181 0), (.ref 374), .none, .none, .none, .none, (.int 726 0), (.int 257 0), (.str (.ofString "/claim/cut.py") 727)]), #[]⟩
noncomputable def ob376 (P : Params) : Obj := ⟨(.type "frame"), none, .plain, #[(some (.ref 375)), (some (.ref 3)), (some (.ref 372)), none, (some (.str (.ofString "snobol.hosts") 719)), none, (some (.ref 0))]⟩
noncomputable def ob377 (P : Params) : Obj := ⟨(.type "tuple"), none, (.seq #[] 0), #[]⟩
noncomputable def ob378 (P : Params) : Obj := ⟨.none, none, (.fields #[]), #[]⟩
noncomputable def ob379 (P : Params) : Obj := ⟨(.type "tuple"), none, (.seq #[(.str (.ofString "self") 736), (.str (.ofString "values") 737), (.str (.ofString "limit") 738), (.str (.ofString "refused") 739)] 0), #[]⟩
noncomputable def ob380 (P : Params) : Obj := ⟨(.type "tuple"), none, (.seq #[] 0), #[]⟩
noncomputable def ob381 (P : Params) : Obj := mk (inCls 0 (nthS 52 PB)) (fun n a b s => ⟨.none, none, .func ⟨n, (.ofString "PlainHost.__init__"), a, .stmts b, s, 0, [], .none, .none, .none, .none, none, .none, .none, 0⟩, #[]⟩) _ _ _ _ _ _ _ _ _ _ rfl
noncomputable def ob382 (P : Params) : Obj := ⟨(.type "code"), none, (.fields #[(.str (.ofString "__init__") 733), (.str (.ofString "PlainHost.__init__") 734), (.str (.ofString "/claim/cut.py") 735), (.int 259 0), (.int 4 0), (.int 0 0), (.int 0 0), (.int 3 0), (.ref 377), (.bool true), (.int 181 0), (.ref 378), .none, (.ref 379), (.ref 380), (.ref 381), (.int 740 0), (.int 259 0), (.str (.ofString "/claim/cut.py") 741)]), #[]⟩
noncomputable def ob383 (P : Params) : Obj := mk (inCls 0 (nthS 52 PB)) (fun n a b s => ⟨(.type "function"), none, .func ⟨n, (.ofString "PlainHost.__init__"), a, .stmts b, s, 3, [], .none, .none, .none, (.str (.ofString "snobol.hosts") 719), none, (.ref 382), .none, 0⟩, #[]⟩) _ _ _ _ _ _ _ _ _ _ rfl
noncomputable def ob384 (P : Params) : Obj := ⟨(.type "tuple"), none, (.seq #[] 0), #[]⟩
noncomputable def ob385 (P : Params) : Obj := ⟨.none, none, (.fields #[]), #[]⟩
noncomputable def ob386 (P : Params) : Obj := ⟨(.type "tuple"), none, (.seq #[(.str (.ofString "self") 746), (.str (.ofString "tree") 747)] 0), #[]⟩
noncomputable def ob387 (P : Params) : Obj := ⟨(.type "tuple"), none, (.seq #[] 0), #[]⟩
noncomputable def ob388 (P : Params) : Obj := mk (inCls 1 (nthS 52 PB)) (fun n a b s => ⟨.none, none, .func ⟨n, (.ofString "PlainHost.value_of"), a, .stmts b, s, 0, [], .none, .none, .none, .none, none, .none, .none, 0⟩, #[]⟩) _ _ _ _ _ _ _ _ _ _ rfl
noncomputable def ob389 (P : Params) : Obj := ⟨(.type "code"), none, (.fields #[(.str (.ofString "value_of") 743), (.str (.ofString "PlainHost.value_of") 744), (.str (.ofString "/claim/cut.py") 745), (.int 267 0), (.int 2 0), (.int 0 0), (.int 0 0), (.int 3 0), (.ref 384), (.bool true), (.int 181 0), (.ref 385), .none, (.ref 386), (.ref 387), (.ref 388), (.int 748 0), (.int 267 0), (.str (.ofString "/claim/cut.py") 749)]), #[]⟩
noncomputable def ob390 (P : Params) : Obj := mk (inCls 1 (nthS 52 PB)) (fun n a b s => ⟨(.type "function"), none, .func ⟨n, (.ofString "PlainHost.value_of"), a, .stmts b, s, 3, [], .none, .none, .none, (.str (.ofString "snobol.hosts") 719), none, (.ref 389), .none, 0⟩, #[]⟩) _ _ _ _ _ _ _ _ _ _ rfl
noncomputable def ob391 (P : Params) : Obj := ⟨(.type "tuple"), none, (.seq #[] 0), #[]⟩
noncomputable def ob392 (P : Params) : Obj := ⟨.none, none, (.fields #[]), #[]⟩
noncomputable def ob393 (P : Params) : Obj := ⟨(.type "tuple"), none, (.seq #[(.str (.ofString "self") 754), (.str (.ofString "ref") 755), (.str (.ofString "value") 756)] 0), #[]⟩
noncomputable def ob394 (P : Params) : Obj := ⟨(.type "tuple"), none, (.seq #[] 0), #[]⟩
noncomputable def ob395 (P : Params) : Obj := mk (inCls 2 (nthS 52 PB)) (fun n a b s => ⟨.none, none, .func ⟨n, (.ofString "PlainHost.assign"), a, .stmts b, s, 0, [], .none, .none, .none, .none, none, .none, .none, 0⟩, #[]⟩) _ _ _ _ _ _ _ _ _ _ rfl
noncomputable def ob396 (P : Params) : Obj := ⟨(.type "code"), none, (.fields #[(.str (.ofString "assign") 751), (.str (.ofString "PlainHost.assign") 752), (.str (.ofString "/claim/cut.py") 753), (.int 272 0), (.int 3 0), (.int 0 0), (.int 0 0), (.int 3 0), (.ref 391), (.bool true), (.int 181 0), (.ref 392), .none, (.ref 393), (.ref 394), (.ref 395), (.int 757 0), (.int 272 0), (.str (.ofString "/claim/cut.py") 758)]), #[]⟩
noncomputable def ob397 (P : Params) : Obj := mk (inCls 2 (nthS 52 PB)) (fun n a b s => ⟨(.type "function"), none, .func ⟨n, (.ofString "PlainHost.assign"), a, .stmts b, s, 3, [], .none, .none, .none, (.str (.ofString "snobol.hosts") 719), none, (.ref 396), .none, 0⟩, #[]⟩) _ _ _ _ _ _ _ _ _ _ rfl
noncomputable def ob398 (P : Params) : Obj := ⟨(.type "tuple"), none, (.seq #[] 0), #[]⟩
noncomputable def ob399 (P : Params) : Obj := ⟨.none, none, (.fields #[]), #[]⟩
noncomputable def ob400 (P : Params) : Obj := ⟨(.type "tuple"), none, (.seq #[(.str (.ofString "self") 763)] 0), #[]⟩
noncomputable def ob401 (P : Params) : Obj := ⟨(.type "tuple"), none, (.seq #[] 0), #[]⟩
noncomputable def ob402 (P : Params) : Obj := mk (inCls 3 (nthS 52 PB)) (fun n a b s => ⟨.none, none, .func ⟨n, (.ofString "PlainHost.step"), a, .stmts b, s, 0, [], .none, .none, .none, .none, none, .none, .none, 0⟩, #[]⟩) _ _ _ _ _ _ _ _ _ _ rfl
noncomputable def ob403 (P : Params) : Obj := ⟨(.type "code"), none, (.fields #[(.str (.ofString "step") 760), (.str (.ofString "PlainHost.step") 761), (.str (.ofString "/claim/cut.py") 762), (.int 279 0), (.int 1 0), (.int 0 0), (.int 0 0), (.int 3 0), (.ref 398), (.bool true), (.int 181 0), (.ref 399), .none, (.ref 400), (.ref 401), (.ref 402), (.int 764 0), (.int 279 0), (.str (.ofString "/claim/cut.py") 765)]), #[]⟩
noncomputable def ob404 (P : Params) : Obj := mk (inCls 3 (nthS 52 PB)) (fun n a b s => ⟨(.type "function"), none, .func ⟨n, (.ofString "PlainHost.step"), a, .stmts b, s, 3, [], .none, .none, .none, (.str (.ofString "snobol.hosts") 719), none, (.ref 403), .none, 0⟩, #[]⟩) _ _ _ _ _ _ _ _ _ _ rfl
noncomputable def ob405 (P : Params) : Obj := ⟨(.type "tuple"), none, (.seq #[(.str (.ofString "limit") 767), (.str (.ofString "log") 768), (.str (.ofString "refused") 769), (.str (.ofString "steps") 770), (.str (.ofString "values") 771), (.str (.ofString "width") 772)] 0), #[]⟩
noncomputable def ob406 (P : Params) : Obj := ⟨(.type "dict"), none, (.dict #[⟨(PyData.keyHash P (.ofString "__module__")), (.str (.ofString "__module__") 728), (.str (.ofString "snobol.hosts") 719)⟩, ⟨(PyData.keyHash P (.ofString "__firstlineno__")), (.str (.ofString "__firstlineno__") 732), (.int 257 731)⟩, ⟨(PyData.keyHash P (.ofString "__init__")), (.str (.ofString "__init__") 742), (.ref 383)⟩, ⟨(PyData.keyHash P (.ofString "value_of")), (.str (.ofString "value_of") 750), (.ref 390)⟩, ⟨(PyData.keyHash P (.ofString "assign")), (.str (.ofString "assign") 759), (.ref 397)⟩, ⟨(PyData.keyHash P (.ofString "step")), (.str (.ofString "step") 766), (.ref 404)⟩, ⟨(PyData.keyHash P (.ofString "__static_attributes__")), (.str (.ofString "__static_attributes__") 773), (.ref 405)⟩, ⟨(PyData.keyHash P (.ofString "__dict__")), (.str (.ofString "__dict__") 775), (.ref 408)⟩, ⟨(PyData.keyHash P (.ofString "__weakref__")), (.str (.ofString "__weakref__") 777), (.ref 409)⟩, ⟨(PyData.keyHash P (.ofString "__doc__")), (.str (.ofString "__doc__") 778), .none⟩] 4), #[]⟩
noncomputable def ob407 (P : Params) : Obj := ⟨(.type "type"), none, (.cls ⟨(.ofString "PlainHost"), [(.type "object")], [(.ref 407), (.type "object")], 406, (.ofString "PlainHost"), true, [], [], false, none, false⟩), #[none, none, (some (.str (.ofString "PlainHost") 721)), (some (.str (.ofString "PlainHost") 729)), (some (.builtin "object.__new__")), (some (.bool true))]⟩
noncomputable def ob408 (P : Params) : Obj := ⟨(.type "getset_descriptor"), none, (.fields #[(.str (.ofString "__dict__") 774), (.ref 407), (.builtin "function.__dict__"), (.builtin "function.__dict__#set")]), #[]⟩
noncomputable def ob409 (P : Params) : Obj := ⟨(.type "getset_descriptor"), none, (.fields #[(.str (.ofString "__weakref__") 776), (.ref 407), (.builtin "ExceptionGroup.__weakref__"), .none]), #[]⟩
noncomputable def ob410 (P : Params) : Obj := ⟨(.type "super"), none, (.fields #[(.ref 407), (.ref 407), (.ref 407)]), #[]⟩
noncomputable def ob411 (P : Params) : Obj := ⟨(.type "builtin_function_or_method"), none, (.fields #[(.builtin "object.__init_subclass__"), (.ref 407)]), #[]⟩
noncomputable def ob412 (P : Params) : Obj := ⟨(.type "tuple"), none, (.seq #[] 0), #[]⟩
noncomputable def ob413 (P : Params) : Obj := ⟨.none, none, (.fields #[]), #[]⟩
noncomputable def ob414 (P : Params) : Obj := ⟨(.type "tuple"), none, (.seq #[(.str (.ofString "node") 786), (.str (.ofString "row") 787), (.str (.ofString "said") 788), (.str (.ofString "host") 789)] 0), #[]⟩
noncomputable def ob415 (P : Params) : Obj := ⟨(.type "tuple"), none, (.seq #[] 0), #[]⟩
noncomputable def ob416 (P : Params) : Obj := mk (nthS 54 PB) (fun n a b s => ⟨.none, none, .func ⟨n, (.ofString "_law_said"), a, .stmts b, s, 0, [], .none, .none, .none, .none, none, .none, .none, 0⟩, #[]⟩) _ _ _ _ _ _ _ _ _ _ rfl
noncomputable def ob417 (P : Params) : Obj := ⟨(.type "code"), none, (.fields #[(.str (.ofString "_law_said") 783), (.str (.ofString "_law_said") 784), (.str (.ofString "/claim/cut.py") 785), (.int 284 0), (.int 2 0), (.int 0 0), (.int 0 0), (.int 3 0), (.ref 412), (.bool true), (.int 181 0), (.ref 413), .none, (.ref 414), (.ref 415), (.ref 416), (.int 790 0), (.int 284 0), (.str (.ofString "/claim/cut.py") 791)]), #[]⟩
noncomputable def ob418 (P : Params) : Obj := mk (nthS 54 PB) (fun n a b s => ⟨(.type "function"), none, .func ⟨n, (.ofString "_law_said"), a, .stmts b, s, 3, [], .none, .none, .none, (.str (.ofString "law_xw0306_01") 781), none, (.ref 417), .none, 0⟩, #[]⟩) _ _ _ _ _ _ _ _ _ _ rfl
noncomputable def ob419 (P : Params) : Obj := ⟨(.type "tuple"), none, (.seq #[] 0), #[]⟩
noncomputable def ob420 (P : Params) : Obj := ⟨.none, none, (.fields #[]), #[]⟩
noncomputable def ob421 (P : Params) : Obj := mk (nthS 55 PB) (fun n a b s => ⟨.none, none, .func ⟨n, (.ofString "law"), a, .stmts b, s, 0, [], .none, .none, .none, .none, none, .none, .none, 0⟩, #[]⟩) _ _ _ _ _ _ _ _ _ _ rfl
noncomputable def ob422 (P : Params) : Obj := ⟨(.type "code"), none, (.fields #[(.str (.ofString "law") 793), (.str (.ofString "law") 794), (.str (.ofString "/claim/cut.py") 795), (.int 292 0), (.int 1 0), (.int 0 0), (.int 0 0), (.int 3 0), (.ref 419), (.bool true), (.int 181 0), (.ref 420), .none, .none, .none, (.ref 421), (.int 796 0), (.int 292 0), (.str (.ofString "/claim/cut.py") 797)]), #[]⟩
noncomputable def ob423 (P : Params) : Obj := mk (nthS 55 PB) (fun n a b s => ⟨(.type "function"), none, .func ⟨n, (.ofString "law"), a, .stmts b, s, 3, [], .none, .none, .none, (.str (.ofString "law_xw0306_01") 781), none, (.ref 422), .none, 0⟩, #[]⟩) _ _ _ _ _ _ _ _ _ _ rfl
noncomputable def oa12 (P : Params) : Obj := ⟨.none, none, (.fields #[]), #[]⟩
noncomputable def T0 (P : Params) : BT := (.node (boot_o_0 P) (.node (boot_o_1 P) (.node (boot_o_3 P) (.node (boot_o_7 P) .nil .nil) (.node (ob11 P) .nil .nil)) (.node (boot_o_5 P) (.node (boot_o_9 P) .nil .nil) (.node (ob13 P) .nil .nil))) (.node (boot_o_2 P) (.node (boot_o_4 P) (.node (boot_o_8 P) .nil .nil) (.node (oa12 P) .nil .nil)) (.node (boot_o_6 P) (.node (boot_o_10 P) .nil .nil) (.node (ob14 P) .nil .nil))))
noncomputable def T1 (P : Params) : BT := (.node (boot_o_0 P) (.node (boot_o_1 P) (.node (ob3 P) (.node (boot_o_7 P) (.node (ob15 P) (.node (ob31 P) (.node (ob63 P) (.node (ob127 P) (.node (ob255 P) .nil .nil) (.node (ob383 P) .nil .nil)) (.node (ob191 P) (.node (ob319 P) .nil .nil) .nil)) (.node (ob95 P) (.node (ob159 P) (.node (ob287 P) .nil .nil) (.node (ob415 P) .nil .nil)) (.node (ob223 P) (.node (ob351 P) .nil .nil) .nil))) (.node (ob47 P) (.node (ob79 P) (.node (ob143 P) (.node (ob271 P) .nil .nil) (.node (ob399 P) .nil .nil)) (.node (ob207 P) (.node (ob335 P) .nil .nil) .nil)) (.node (ob111 P) (.node (ob175 P) (.node (ob303 P) .nil .nil) .nil) (.node (ob239 P) (.node (ob367 P) .nil .nil) .nil)))) (.node (ob23 P) (.node (ob39 P) (.node (ob71 P) (.node (ob135 P) (.node (ob263 P) .nil .nil) (.node (ob391 P) .nil .nil)) (.node (ob199 P) (.node (ob327 P) .nil .nil) .nil)) (.node (ob103 P) (.node (ob167 P) (.node (ob295 P) .nil .nil) (.node (ob423 P) .nil .nil)) (.node (ob231 P) (.node (ob359 P) .nil .nil) .nil))) (.node (ob55 P) (.node (ob87 P) (.node (ob151 P) (.node (ob279 P) .nil .nil) (.node (ob407 P) .nil .nil)) (.node (ob215 P) (.node (ob343 P) .nil .nil) .nil)) (.node (ob119 P) (.node (ob183 P) (.node (ob311 P) .nil .nil) .nil) (.node (ob247 P) (.node (ob375 P) .nil .nil) .nil))))) (.node (ob11 P) (.node (ob19 P) (.node (ob35 P) (.node (ob67 P) (.node (ob131 P) (.node (ob259 P) .nil .nil) (.node (ob387 P) .nil .nil)) (.node (ob195 P) (.node (ob323 P) .nil .nil) .nil)) (.node (ob99 P) (.node (ob163 P) (.node (ob291 P) .nil .nil) (.node (ob419 P) .nil .nil)) (.node (ob227 P) (.node (ob355 P) .nil .nil) .nil))) (.node (ob51 P) (.node (ob83 P) (.node (ob147 P) (.node (ob275 P) .nil .nil) (.node (ob403 P) .nil .nil)) (.node (ob211 P) (.node (ob339 P) .nil .nil) .nil)) (.node (ob115 P) (.node (ob179 P) (.node (ob307 P) .nil .nil) .nil) (.node (ob243 P) (.node (ob371 P) .nil .nil) .nil)))) (.node (ob27 P) (.node (ob43 P) (.node (ob75 P) (.node (ob139 P) (.node (ob267 P) .nil .nil) (.node (ob395 P) .nil .nil)) (.node (ob203 P) (.node (ob331 P) .nil .nil) .nil)) (.node (ob107 P) (.node (ob171 P) (.node (ob299 P) .nil .nil) .nil) (.node (ob235 P) (.node (ob363 P) .nil .nil) .nil))) (.node (ob59 P) (.node (ob91 P) (.node (ob155 P) (.node (ob283 P) .nil .nil) (.node (ob411 P) .nil .nil)) (.node (ob219 P) (.node (ob347 P) .nil .nil) .nil)) (.node (ob123 P) (.node (ob187 P) (.node (ob315 P) .nil .nil) .nil) (.node (ob251 P) (.node (ob379 P) .nil .nil) .nil)))))) (.node (boot_o_5 P) (.node (boot_o_9 P) (.node (ob17 P) (.node (ob33 P) (.node (ob65 P) (.node (ob129 P) (.node (ob257 P) .nil .nil) (.node (ob385 P) .nil .nil)) (.node (ob193 P) (.node (ob321 P) .nil .nil) .nil)) (.node (ob97 P) (.node (ob161 P) (.node (ob289 P) .nil .nil) (.node (ob417 P) .nil .nil)) (.node (ob225 P) (.node (ob353 P) .nil .nil) .nil))) (.node (ob49 P) (.node (ob81 P) (.node (ob145 P) (.node (ob273 P) .nil .nil) (.node (ob401 P) .nil .nil)) (.node (ob209 P) (.node (ob337 P) .nil .nil) .nil)) (.node (ob113 P) (.node (ob177 P) (.node (ob305 P) .nil .nil) .nil) (.node (ob241 P) (.node (ob369 P) .nil .nil) .nil)))) (.node (ob25 P) (.node (ob41 P) (.node (ob73 P) (.node (ob137 P) (.node (ob265 P) .nil .nil) (.node (ob393 P) .nil .nil)) (.node (ob201 P) (.node (ob329 P) .nil .nil) .nil)) (.node (ob105 P) (.node (ob169 P) (.node (ob297 P) .nil .nil) .nil) (.node (ob233 P) (.node (ob361 P) .nil .nil) .nil))) (.node (ob57 P) (.node (ob89 P) (.node (ob153 P) (.node (ob281 P) .nil .nil) (.node (ob409 P) .nil .nil)) (.node (ob217 P) (.node (ob345 P) .nil .nil) .nil)) (.node (ob121 P) (.node (ob185 P) (.node (ob313 P) .nil .nil) .nil) (.node (ob249 P) (.node (ob377 P) .nil .nil) .nil))))) (.node (ob13 P) (.node (ob21 P) (.node (ob37 P) (.node (ob69 P) (.node (ob133 P) (.node (ob261 P) .nil .nil) (.node (ob389 P) .nil .nil)) (.node (ob197 P) (.node (ob325 P) .nil .nil) .nil)) (.node (ob101 P) (.node (ob165 P) (.node (ob293 P) .nil .nil) (.node (ob421 P) .nil .nil)) (.node (ob229 P) (.node (ob357 P) .nil .nil) .nil))) (.node (ob53 P) (.node (ob85 P) (.node (ob149 P) (.node (ob277 P) .nil .nil) (.node (ob405 P) .nil .nil)) (.node (ob213 P) (.node (ob341 P) .nil .nil) .nil)) (.node (ob117 P) (.node (ob181 P) (.node (ob309 P) .nil .nil) .nil) (.node (ob245 P) (.node (ob373 P) .nil .nil) .nil)))) (.node (ob29 P) (.node (ob45 P) (.node (ob77 P) (.node (ob141 P) (.node (ob269 P) .nil .nil) (.node (ob397 P) .nil .nil)) (.node (ob205 P) (.node (ob333 P) .nil .nil) .nil)) (.node (ob109 P) (.node (ob173 P) (.node (ob301 P) .nil .nil) .nil) (.node (ob237 P) (.node (ob365 P) .nil .nil) .nil))) (.node (ob61 P) (.node (ob93 P) (.node (ob157 P) (.node (ob285 P) .nil .nil) (.node (ob413 P) .nil .nil)) (.node (ob221 P) (.node (ob349 P) .nil .nil) .nil)) (.node (ob125 P) (.node (ob189 P) (.node (ob317 P) .nil .nil) .nil) (.node (ob253 P) (.node (ob381 P) .nil .nil) .nil))))))) (.node (ob2 P) (.node (boot_o_4 P) (.node (boot_o_8 P) (.node (ob16 P) (.node (ob32 P) (.node (ob64 P) (.node (ob128 P) (.node (ob256 P) .nil .nil) (.node (ob384 P) .nil .nil)) (.node (ob192 P) (.node (ob320 P) .nil .nil) .nil)) (.node (ob96 P) (.node (ob160 P) (.node (ob288 P) .nil .nil) (.node (ob416 P) .nil .nil)) (.node (ob224 P) (.node (ob352 P) .nil .nil) .nil))) (.node (ob48 P) (.node (ob80 P) (.node (ob144 P) (.node (ob272 P) .nil .nil) (.node (ob400 P) .nil .nil)) (.node (ob208 P) (.node (ob336 P) .nil .nil) .nil)) (.node (ob112 P) (.node (ob176 P) (.node (ob304 P) .nil .nil) .nil) (.node (ob240 P) (.node (ob368 P) .nil .nil) .nil)))) (.node (ob24 P) (.node (ob40 P) (.node (ob72 P) (.node (ob136 P) (.node (ob264 P) .nil .nil) (.node (ob392 P) .nil .nil)) (.node (ob200 P) (.node (ob328 P) .nil .nil) .nil)) (.node (ob104 P) (.node (ob168 P) (.node (ob296 P) .nil .nil) .nil) (.node (ob232 P) (.node (ob360 P) .nil .nil) .nil))) (.node (ob56 P) (.node (ob88 P) (.node (ob152 P) (.node (ob280 P) .nil .nil) (.node (ob408 P) .nil .nil)) (.node (ob216 P) (.node (ob344 P) .nil .nil) .nil)) (.node (ob120 P) (.node (ob184 P) (.node (ob312 P) .nil .nil) .nil) (.node (ob248 P) (.node (ob376 P) .nil .nil) .nil))))) (.node (ob12 P) (.node (ob20 P) (.node (ob36 P) (.node (ob68 P) (.node (ob132 P) (.node (ob260 P) .nil .nil) (.node (ob388 P) .nil .nil)) (.node (ob196 P) (.node (ob324 P) .nil .nil) .nil)) (.node (ob100 P) (.node (ob164 P) (.node (ob292 P) .nil .nil) (.node (ob420 P) .nil .nil)) (.node (ob228 P) (.node (ob356 P) .nil .nil) .nil))) (.node (ob52 P) (.node (ob84 P) (.node (ob148 P) (.node (ob276 P) .nil .nil) (.node (ob404 P) .nil .nil)) (.node (ob212 P) (.node (ob340 P) .nil .nil) .nil)) (.node (ob116 P) (.node (ob180 P) (.node (ob308 P) .nil .nil) .nil) (.node (ob244 P) (.node (ob372 P) .nil .nil) .nil)))) (.node (ob28 P) (.node (ob44 P) (.node (ob76 P) (.node (ob140 P) (.node (ob268 P) .nil .nil) (.node (ob396 P) .nil .nil)) (.node (ob204 P) (.node (ob332 P) .nil .nil) .nil)) (.node (ob108 P) (.node (ob172 P) (.node (ob300 P) .nil .nil) .nil) (.node (ob236 P) (.node (ob364 P) .nil .nil) .nil))) (.node (ob60 P) (.node (ob92 P) (.node (ob156 P) (.node (ob284 P) .nil .nil) (.node (ob412 P) .nil .nil)) (.node (ob220 P) (.node (ob348 P) .nil .nil) .nil)) (.node (ob124 P) (.node (ob188 P) (.node (ob316 P) .nil .nil) .nil) (.node (ob252 P) (.node (ob380 P) .nil .nil) .nil)))))) (.node (boot_o_6 P) (.node (boot_o_10 P) (.node (ob18 P) (.node (ob34 P) (.node (ob66 P) (.node (ob130 P) (.node (ob258 P) .nil .nil) (.node (ob386 P) .nil .nil)) (.node (ob194 P) (.node (ob322 P) .nil .nil) .nil)) (.node (ob98 P) (.node (ob162 P) (.node (ob290 P) .nil .nil) (.node (ob418 P) .nil .nil)) (.node (ob226 P) (.node (ob354 P) .nil .nil) .nil))) (.node (ob50 P) (.node (ob82 P) (.node (ob146 P) (.node (ob274 P) .nil .nil) (.node (ob402 P) .nil .nil)) (.node (ob210 P) (.node (ob338 P) .nil .nil) .nil)) (.node (ob114 P) (.node (ob178 P) (.node (ob306 P) .nil .nil) .nil) (.node (ob242 P) (.node (ob370 P) .nil .nil) .nil)))) (.node (ob26 P) (.node (ob42 P) (.node (ob74 P) (.node (ob138 P) (.node (ob266 P) .nil .nil) (.node (ob394 P) .nil .nil)) (.node (ob202 P) (.node (ob330 P) .nil .nil) .nil)) (.node (ob106 P) (.node (ob170 P) (.node (ob298 P) .nil .nil) .nil) (.node (ob234 P) (.node (ob362 P) .nil .nil) .nil))) (.node (ob58 P) (.node (ob90 P) (.node (ob154 P) (.node (ob282 P) .nil .nil) (.node (ob410 P) .nil .nil)) (.node (ob218 P) (.node (ob346 P) .nil .nil) .nil)) (.node (ob122 P) (.node (ob186 P) (.node (ob314 P) .nil .nil) .nil) (.node (ob250 P) (.node (ob378 P) .nil .nil) .nil))))) (.node (ob14 P) (.node (ob22 P) (.node (ob38 P) (.node (ob70 P) (.node (ob134 P) (.node (ob262 P) .nil .nil) (.node (ob390 P) .nil .nil)) (.node (ob198 P) (.node (ob326 P) .nil .nil) .nil)) (.node (ob102 P) (.node (ob166 P) (.node (ob294 P) .nil .nil) (.node (ob422 P) .nil .nil)) (.node (ob230 P) (.node (ob358 P) .nil .nil) .nil))) (.node (ob54 P) (.node (ob86 P) (.node (ob150 P) (.node (ob278 P) .nil .nil) (.node (ob406 P) .nil .nil)) (.node (ob214 P) (.node (ob342 P) .nil .nil) .nil)) (.node (ob118 P) (.node (ob182 P) (.node (ob310 P) .nil .nil) .nil) (.node (ob246 P) (.node (ob374 P) .nil .nil) .nil)))) (.node (ob30 P) (.node (ob46 P) (.node (ob78 P) (.node (ob142 P) (.node (ob270 P) .nil .nil) (.node (ob398 P) .nil .nil)) (.node (ob206 P) (.node (ob334 P) .nil .nil) .nil)) (.node (ob110 P) (.node (ob174 P) (.node (ob302 P) .nil .nil) .nil) (.node (ob238 P) (.node (ob366 P) .nil .nil) .nil))) (.node (ob62 P) (.node (ob94 P) (.node (ob158 P) (.node (ob286 P) .nil .nil) (.node (ob414 P) .nil .nil)) (.node (ob222 P) (.node (ob350 P) .nil .nil) .nil)) (.node (ob126 P) (.node (ob190 P) (.node (ob318 P) .nil .nil) .nil) (.node (ob254 P) (.node (ob382 P) .nil .nil) .nil))))))))
noncomputable def H0 (P : Params) : Heap := ⟨⟨[(boot_o_0 P), (boot_o_1 P), (boot_o_2 P), (boot_o_3 P), (boot_o_4 P), (boot_o_5 P), (boot_o_6 P), (boot_o_7 P), (boot_o_8 P), (boot_o_9 P), (boot_o_10 P), (ob11 P), (oa12 P), (ob13 P), (ob14 P)]⟩, ⟨[], [], [], 0, [], [], false, #[], [], 0, false, false, false, 0, [2000, 10, 10], false, 0, true, [], [], 0, false⟩⟩
noncomputable def H1 (P : Params) : Heap := ⟨⟨[(boot_o_0 P), (boot_o_1 P), (ob2 P), (ob3 P), (boot_o_4 P), (boot_o_5 P), (boot_o_6 P), (boot_o_7 P), (boot_o_8 P), (boot_o_9 P), (boot_o_10 P), (ob11 P), (ob12 P), (ob13 P), (ob14 P), (ob15 P), (ob16 P), (ob17 P), (ob18 P), (ob19 P), (ob20 P), (ob21 P), (ob22 P), (ob23 P), (ob24 P), (ob25 P), (ob26 P), (ob27 P), (ob28 P), (ob29 P), (ob30 P), (ob31 P), (ob32 P), (ob33 P), (ob34 P), (ob35 P), (ob36 P), (ob37 P), (ob38 P), (ob39 P), (ob40 P), (ob41 P), (ob42 P), (ob43 P), (ob44 P), (ob45 P), (ob46 P), (ob47 P), (ob48 P), (ob49 P), (ob50 P), (ob51 P), (ob52 P), (ob53 P), (ob54 P), (ob55 P), (ob56 P), (ob57 P), (ob58 P), (ob59 P), (ob60 P), (ob61 P), (ob62 P), (ob63 P), (ob64 P), (ob65 P), (ob66 P), (ob67 P), (ob68 P), (ob69 P), (ob70 P), (ob71 P), (ob72 P), (ob73 P), (ob74 P), (ob75 P), (ob76 P), (ob77 P), (ob78 P), (ob79 P), (ob80 P), (ob81 P), (ob82 P), (ob83 P), (ob84 P), (ob85 P), (ob86 P), (ob87 P), (ob88 P), (ob89 P), (ob90 P), (ob91 P), (ob92 P), (ob93 P), (ob94 P), (ob95 P), (ob96 P), (ob97 P), (ob98 P), (ob99 P), (ob100 P), (ob101 P), (ob102 P), (ob103 P), (ob104 P), (ob105 P), (ob106 P), (ob107 P), (ob108 P), (ob109 P), (ob110 P), (ob111 P), (ob112 P), (ob113 P), (ob114 P), (ob115 P), (ob116 P), (ob117 P), (ob118 P), (ob119 P), (ob120 P), (ob121 P), (ob122 P), (ob123 P), (ob124 P), (ob125 P), (ob126 P), (ob127 P), (ob128 P), (ob129 P), (ob130 P), (ob131 P), (ob132 P), (ob133 P), (ob134 P), (ob135 P), (ob136 P), (ob137 P), (ob138 P), (ob139 P), (ob140 P), (ob141 P), (ob142 P), (ob143 P), (ob144 P), (ob145 P), (ob146 P), (ob147 P), (ob148 P), (ob149 P), (ob150 P), (ob151 P), (ob152 P), (ob153 P), (ob154 P), (ob155 P), (ob156 P), (ob157 P), (ob158 P), (ob159 P), (ob160 P), (ob161 P), (ob162 P), (ob163 P), (ob164 P), (ob165 P), (ob166 P), (ob167 P), (ob168 P), (ob169 P), (ob170 P), (ob171 P), (ob172 P), (ob173 P), (ob174 P), (ob175 P), (ob176 P), (ob177 P), (ob178 P), (ob179 P), (ob180 P), (ob181 P), (ob182 P), (ob183 P), (ob184 P), (ob185 P), (ob186 P), (ob187 P), (ob188 P), (ob189 P), (ob190 P), (ob191 P), (ob192 P), (ob193 P), (ob194 P), (ob195 P), (ob196 P), (ob197 P), (ob198 P), (ob199 P), (ob200 P), (ob201 P), (ob202 P), (ob203 P), (ob204 P), (ob205 P), (ob206 P), (ob207 P), (ob208 P), (ob209 P), (ob210 P), (ob211 P), (ob212 P), (ob213 P), (ob214 P), (ob215 P), (ob216 P), (ob217 P), (ob218 P), (ob219 P), (ob220 P), (ob221 P), (ob222 P), (ob223 P), (ob224 P), (ob225 P), (ob226 P), (ob227 P), (ob228 P), (ob229 P), (ob230 P), (ob231 P), (ob232 P), (ob233 P), (ob234 P), (ob235 P), (ob236 P), (ob237 P), (ob238 P), (ob239 P), (ob240 P), (ob241 P), (ob242 P), (ob243 P), (ob244 P), (ob245 P), (ob246 P), (ob247 P), (ob248 P), (ob249 P), (ob250 P), (ob251 P), (ob252 P), (ob253 P), (ob254 P), (ob255 P), (ob256 P), (ob257 P), (ob258 P), (ob259 P), (ob260 P), (ob261 P), (ob262 P), (ob263 P), (ob264 P), (ob265 P), (ob266 P), (ob267 P), (ob268 P), (ob269 P), (ob270 P), (ob271 P), (ob272 P), (ob273 P), (ob274 P), (ob275 P), (ob276 P), (ob277 P), (ob278 P), (ob279 P), (ob280 P), (ob281 P), (ob282 P), (ob283 P), (ob284 P), (ob285 P), (ob286 P), (ob287 P), (ob288 P), (ob289 P), (ob290 P), (ob291 P), (ob292 P), (ob293 P), (ob294 P), (ob295 P), (ob296 P), (ob297 P), (ob298 P), (ob299 P), (ob300 P), (ob301 P), (ob302 P), (ob303 P), (ob304 P), (ob305 P), (ob306 P), (ob307 P), (ob308 P), (ob309 P), (ob310 P), (ob311 P), (ob312 P), (ob313 P), (ob314 P), (ob315 P), (ob316 P), (ob317 P), (ob318 P), (ob319 P), (ob320 P), (ob321 P), (ob322 P), (ob323 P), (ob324 P), (ob325 P), (ob326 P), (ob327 P), (ob328 P), (ob329 P), (ob330 P), (ob331 P), (ob332 P), (ob333 P), (ob334 P), (ob335 P), (ob336 P), (ob337 P), (ob338 P), (ob339 P), (ob340 P), (ob341 P), (ob342 P), (ob343 P), (ob344 P), (ob345 P), (ob346 P), (ob347 P), (ob348 P), (ob349 P), (ob350 P), (ob351 P), (ob352 P), (ob353 P), (ob354 P), (ob355 P), (ob356 P), (ob357 P), (ob358 P), (ob359 P), (ob360 P), (ob361 P), (ob362 P), (ob363 P), (ob364 P), (ob365 P), (ob366 P), (ob367 P), (ob368 P), (ob369 P), (ob370 P), (ob371 P), (ob372 P), (ob373 P), (ob374 P), (ob375 P), (ob376 P), (ob377 P), (ob378 P), (ob379 P), (ob380 P), (ob381 P), (ob382 P), (ob383 P), (ob384 P), (ob385 P), (ob386 P), (ob387 P), (ob388 P), (ob389 P), (ob390 P), (ob391 P), (ob392 P), (ob393 P), (ob394 P), (ob395 P), (ob396 P), (ob397 P), (ob398 P), (ob399 P), (ob400 P), (ob401 P), (ob402 P), (ob403 P), (ob404 P), (ob405 P), (ob406 P), (ob407 P), (ob408 P), (ob409 P), (ob410 P), (ob411 P), (ob412 P), (ob413 P), (ob414 P), (ob415 P), (ob416 P), (ob417 P), (ob418 P), (ob419 P), (ob420 P), (ob421 P), (ob422 P), (ob423 P)]⟩, ⟨[], [], [], 0, [], [], false, #[], [], 0, false, false, false, 0, [2000, 10, 10], false, 0, true, [], [], 0, false⟩⟩
noncomputable def K : Params → Frag := fun P => (nat_lit 2, ob2 P) :: (nat_lit 3, ob3 P) :: (nat_lit 15, ob15 P) :: (nat_lit 18, ob18 P) :: (nat_lit 23, ob23 P) :: (nat_lit 24, ob24 P) :: (nat_lit 25, ob25 P) :: (nat_lit 27, ob27 P) :: (nat_lit 28, ob28 P) :: (nat_lit 30, ob30 P) :: (nat_lit 31, ob31 P) :: (nat_lit 32, ob32 P) :: (nat_lit 33, ob33 P) :: (nat_lit 34, ob34 P) :: (nat_lit 35, ob35 P) :: (nat_lit 45, ob45 P) :: (nat_lit 46, ob46 P) :: (nat_lit 47, ob47 P) :: (nat_lit 48, ob48 P) :: (nat_lit 49, ob49 P) :: (nat_lit 59, ob59 P) :: (nat_lit 61, ob61 P) :: (nat_lit 62, ob62 P) :: (nat_lit 64, ob64 P) :: (nat_lit 65, ob65 P) :: (nat_lit 66, ob66 P) :: (nat_lit 67, ob67 P) :: (nat_lit 68, ob68 P) :: (nat_lit 69, ob69 P) :: (nat_lit 70, ob70 P) :: (nat_lit 80, ob80 P) :: (nat_lit 82, ob82 P) :: (nat_lit 83, ob83 P) :: (nat_lit 85, ob85 P) :: (nat_lit 86, ob86 P) :: (nat_lit 87, ob87 P) :: (nat_lit 88, ob88 P) :: (nat_lit 89, ob89 P) :: (nat_lit 90, ob90 P) :: (nat_lit 91, ob91 P) :: (nat_lit 101, ob101 P) :: (nat_lit 103, ob103 P) :: (nat_lit 104, ob104 P) :: (nat_lit 106, ob106 P) :: (nat_lit 107, ob107 P) :: (nat_lit 108, ob108 P) :: (nat_lit 109, ob109 P) :: (nat_lit 110, ob110 P) :: (nat_lit 111, ob111 P) :: (nat_lit 112, ob112 P) :: (nat_lit 115, ob115 P) :: (nat_lit 117, ob117 P) :: (nat_lit 118, ob118 P) :: (nat_lit 120, ob120 P) :: (nat_lit 121, ob121 P) :: (nat_lit 122, ob122 P) :: (nat_lit 124, ob124 P) :: (nat_lit 125, ob125 P) :: (nat_lit 127, ob127 P) :: (nat_lit 128, ob128 P) :: (nat_lit 129, ob129 P) :: (nat_lit 131, ob131 P) :: (nat_lit 132, ob132 P) :: (nat_lit 134, ob134 P) :: (nat_lit 135, ob135 P) :: (nat_lit 136, ob136 P) :: (nat_lit 138, ob138 P) :: (nat_lit 139, ob139 P) :: (nat_lit 141, ob141 P) :: (nat_lit 142, ob142 P) :: (nat_lit 143, ob143 P) :: (nat_lit 145, ob145 P) :: (nat_lit 146, ob146 P) :: (nat_lit 148, ob148 P) :: (nat_lit 149, ob149 P) :: (nat_lit 150, ob150 P) :: (nat_lit 152, ob152 P) :: (nat_lit 153, ob153 P) :: (nat_lit 155, ob155 P) :: (nat_lit 156, ob156 P) :: (nat_lit 157, ob157 P) :: (nat_lit 159, ob159 P) :: (nat_lit 160, ob160 P) :: (nat_lit 162, ob162 P) :: (nat_lit 163, ob163 P) :: (nat_lit 164, ob164 P) :: (nat_lit 165, ob165 P) :: (nat_lit 166, ob166 P) :: (nat_lit 167, ob167 P) :: (nat_lit 169, ob169 P) :: (nat_lit 170, ob170 P) :: (nat_lit 172, ob172 P) :: (nat_lit 173, ob173 P) :: (nat_lit 174, ob174 P) :: (nat_lit 176, ob176 P) :: (nat_lit 177, ob177 P) :: (nat_lit 179, ob179 P) :: (nat_lit 180, ob180 P) :: (nat_lit 181, ob181 P) :: (nat_lit 183, ob183 P) :: (nat_lit 184, ob184 P) :: (nat_lit 186, ob186 P) :: (nat_lit 187, ob187 P) :: (nat_lit 188, ob188 P) :: (nat_lit 190, ob190 P) :: (nat_lit 191, ob191 P) :: (nat_lit 193, ob193 P) :: (nat_lit 194, ob194 P) :: (nat_lit 195, ob195 P) :: (nat_lit 197, ob197 P) :: (nat_lit 198, ob198 P) :: (nat_lit 200, ob200 P) :: (nat_lit 201, ob201 P) :: (nat_lit 202, ob202 P) :: (nat_lit 204, ob204 P) :: (nat_lit 205, ob205 P) :: (nat_lit 207, ob207 P) :: (nat_lit 208, ob208 P) :: (nat_lit 209, ob209 P) :: (nat_lit 211, ob211 P) :: (nat_lit 212, ob212 P) :: (nat_lit 214, ob214 P) :: (nat_lit 215, ob215 P) :: (nat_lit 216, ob216 P) :: (nat_lit 218, ob218 P) :: (nat_lit 219, ob219 P) :: (nat_lit 221, ob221 P) :: (nat_lit 222, ob222 P) :: (nat_lit 223, ob223 P) :: (nat_lit 225, ob225 P) :: (nat_lit 226, ob226 P) :: (nat_lit 228, ob228 P) :: (nat_lit 229, ob229 P) :: (nat_lit 230, ob230 P) :: (nat_lit 232, ob232 P) :: (nat_lit 233, ob233 P) :: (nat_lit 235, ob235 P) :: (nat_lit 236, ob236 P) :: (nat_lit 237, ob237 P) :: (nat_lit 239, ob239 P) :: (nat_lit 240, ob240 P) :: (nat_lit 242, ob242 P) :: (nat_lit 243, ob243 P) :: (nat_lit 244, ob244 P) :: (nat_lit 246, ob246 P) :: (nat_lit 247, ob247 P) :: (nat_lit 249, ob249 P) :: (nat_lit 250, ob250 P) :: (nat_lit 251, ob251 P) :: (nat_lit 253, ob253 P) :: (nat_lit 254, ob254 P) :: (nat_lit 256, ob256 P) :: (nat_lit 257, ob257 P) :: (nat_lit 258, ob258 P) :: (nat_lit 260, ob260 P) :: (nat_lit 261, ob261 P) :: (nat_lit 263, ob263 P) :: (nat_lit 264, ob264 P) :: (nat_lit 265, ob265 P) :: (nat_lit 267, ob267 P) :: (nat_lit 268, ob268 P) :: (nat_lit 270, ob270 P) :: (nat_lit 271, ob271 P) :: (nat_lit 272, ob272 P) :: (nat_lit 274, ob274 P) :: (nat_lit 275, ob275 P) :: (nat_lit 277, ob277 P) :: (nat_lit 278, ob278 P) :: (nat_lit 279, ob279 P) :: (nat_lit 281, ob281 P) :: (nat_lit 282, ob282 P) :: (nat_lit 284, ob284 P) :: (nat_lit 285, ob285 P) :: (nat_lit 286, ob286 P) :: (nat_lit 288, ob288 P) :: (nat_lit 289, ob289 P) :: (nat_lit 291, ob291 P) :: (nat_lit 292, ob292 P) :: (nat_lit 293, ob293 P) :: (nat_lit 295, ob295 P) :: (nat_lit 296, ob296 P) :: (nat_lit 298, ob298 P) :: (nat_lit 299, ob299 P) :: (nat_lit 300, ob300 P) :: (nat_lit 302, ob302 P) :: (nat_lit 303, ob303 P) :: (nat_lit 305, ob305 P) :: (nat_lit 306, ob306 P) :: (nat_lit 307, ob307 P) :: (nat_lit 309, ob309 P) :: (nat_lit 310, ob310 P) :: (nat_lit 312, ob312 P) :: (nat_lit 313, ob313 P) :: (nat_lit 314, ob314 P) :: (nat_lit 316, ob316 P) :: (nat_lit 317, ob317 P) :: (nat_lit 319, ob319 P) :: (nat_lit 320, ob320 P) :: (nat_lit 321, ob321 P) :: (nat_lit 323, ob323 P) :: (nat_lit 324, ob324 P) :: (nat_lit 326, ob326 P) :: (nat_lit 327, ob327 P) :: (nat_lit 328, ob328 P) :: (nat_lit 330, ob330 P) :: (nat_lit 331, ob331 P) :: (nat_lit 333, ob333 P) :: (nat_lit 334, ob334 P) :: (nat_lit 335, ob335 P) :: (nat_lit 337, ob337 P) :: (nat_lit 338, ob338 P) :: (nat_lit 340, ob340 P) :: (nat_lit 341, ob341 P) :: (nat_lit 342, ob342 P) :: (nat_lit 344, ob344 P) :: (nat_lit 345, ob345 P) :: (nat_lit 347, ob347 P) :: (nat_lit 348, ob348 P) :: (nat_lit 349, ob349 P) :: (nat_lit 351, ob351 P) :: (nat_lit 352, ob352 P) :: (nat_lit 354, ob354 P) :: (nat_lit 355, ob355 P) :: (nat_lit 356, ob356 P) :: (nat_lit 358, ob358 P) :: (nat_lit 359, ob359 P) :: (nat_lit 361, ob361 P) :: (nat_lit 362, ob362 P) :: (nat_lit 363, ob363 P) :: (nat_lit 365, ob365 P) :: (nat_lit 366, ob366 P) :: (nat_lit 368, ob368 P) :: (nat_lit 369, ob369 P) :: (nat_lit 377, ob377 P) :: (nat_lit 379, ob379 P) :: (nat_lit 380, ob380 P) :: (nat_lit 382, ob382 P) :: (nat_lit 383, ob383 P) :: (nat_lit 384, ob384 P) :: (nat_lit 386, ob386 P) :: (nat_lit 387, ob387 P) :: (nat_lit 389, ob389 P) :: (nat_lit 390, ob390 P) :: (nat_lit 391, ob391 P) :: (nat_lit 393, ob393 P) :: (nat_lit 394, ob394 P) :: (nat_lit 396, ob396 P) :: (nat_lit 397, ob397 P) :: (nat_lit 398, ob398 P) :: (nat_lit 400, ob400 P) :: (nat_lit 401, ob401 P) :: (nat_lit 403, ob403 P) :: (nat_lit 404, ob404 P) :: (nat_lit 405, ob405 P) :: (nat_lit 406, ob406 P) :: (nat_lit 407, ob407 P) :: (nat_lit 408, ob408 P) :: (nat_lit 409, ob409 P) :: (nat_lit 412, ob412 P) :: (nat_lit 414, ob414 P) :: (nat_lit 415, ob415 P) :: (nat_lit 417, ob417 P) :: (nat_lit 418, ob418 P) :: (nat_lit 419, ob419 P) :: (nat_lit 422, ob422 P) :: (nat_lit 423, ob423 P) :: []
noncomputable def KA : List Nat := [2, 3, 15, 18, 23, 24, 25, 27, 28, 30, 31, 32, 33, 34, 35, 45, 46, 47, 48, 49, 59, 61, 62, 64, 65, 66, 67, 68, 69, 70, 80, 82, 83, 85, 86, 87, 88, 89, 90, 91, 101, 103, 104, 106, 107, 108, 109, 110, 111, 112, 115, 117, 118, 120, 121, 122, 124, 125, 127, 128, 129, 131, 132, 134, 135, 136, 138, 139, 141, 142, 143, 145, 146, 148, 149, 150, 152, 153, 155, 156, 157, 159, 160, 162, 163, 164, 165, 166, 167, 169, 170, 172, 173, 174, 176, 177, 179, 180, 181, 183, 184, 186, 187, 188, 190, 191, 193, 194, 195, 197, 198, 200, 201, 202, 204, 205, 207, 208, 209, 211, 212, 214, 215, 216, 218, 219, 221, 222, 223, 225, 226, 228, 229, 230, 232, 233, 235, 236, 237, 239, 240, 242, 243, 244, 246, 247, 249, 250, 251, 253, 254, 256, 257, 258, 260, 261, 263, 264, 265, 267, 268, 270, 271, 272, 274, 275, 277, 278, 279, 281, 282, 284, 285, 286, 288, 289, 291, 292, 293, 295, 296, 298, 299, 300, 302, 303, 305, 306, 307, 309, 310, 312, 313, 314, 316, 317, 319, 320, 321, 323, 324, 326, 327, 328, 330, 331, 333, 334, 335, 337, 338, 340, 341, 342, 344, 345, 347, 348, 349, 351, 352, 354, 355, 356, 358, 359, 361, 362, 363, 365, 366, 368, 369, 377, 379, 380, 382, 383, 384, 386, 387, 389, 390, 391, 393, 394, 396, 397, 398, 400, 401, 403, 404, 405, 406, 407, 408, 409, 412, 414, 415, 417, 418, 419, 422, 423]

noncomputable def LO : List Str := [.ofString "SnobolError", .ofString "Failure", .ofString "Pattern", .ofString "Delayed", .ofString "NameRef", .ofString "is_fail", .ofString "fits", .ofString "whole_of_text", .ofString "text_of_whole", .ofString "to_whole", .ofString "to_text", .ofString "need_text", .ofString "COUNTED", .ofString "SIGNED", .ofString "WIDTH_OF_COUNT", .ofString "plain_count", .ofString "plain_signs", .ofString "pattern_of", .ofString "is_delayed", .ofString "settled", .ofString "OPENING", .ofString "CLOSING", .ofString "chars_end", .ofString "len_end", .ofString "pos_end", .ofString "rpos_end", .ofString "tab_end", .ofString "rtab_end", .ofString "rem_end", .ofString "any_at", .ofString "notany_at", .ofString "run_end", .ofString "span_end", .ofString "break_end", .ofString "bal_end", .ofString "bal_ends", .ofString "one_end", .ofString "plain_end", .ofString "LOST", .ofString "match_plain", .ofString "match_at", .ofString "tried", .ofString "advanced", .ofString "led_in", .ofString "led_out", .ofString "steered", .ofString "taken", .ofString "PlainHost", .ofString "_law_said"]
abbrev PW : Program := PySem.Challenge.pw_xw0306_01
abbrev RW : OpenLaw := PySem.Challenge.rw_xw0306_01
noncomputable def V : Program := { PW with main := { PW.main with body := [nthS 55 PB] } }
noncomputable def EV : Env := { scope := PW.main.scope, locals := mainNs, globals := mainNs, cells := [], code := .ref 13, frame := some 14 }
noncomputable abbrev BE : List Stmt := behindTheImports PW
noncomputable abbrev CE : Code := .body BE EV
abbrev AN : Option Value := some (.ref 6)
abbrev P0 : Pos := ⟨0, 0, 0, 0⟩
abbrev P1 : Pos := ⟨292, 0, 316, 15⟩
abbrev BB : List Frame := [topFrame P0]
abbrev NL : Life := {}
noncomputable abbrev S0 (w : World) (os : OsState) : Shared := ⟨boot_heap w.params, ⟨[]⟩, boot_drawn, boot_toks, os⟩
noncomputable abbrev SA (w : World) (os : OsState) : Shared := ⟨H0 w.params, ⟨[]⟩, {}, 187, os⟩
noncomputable abbrev ST0 (w : World) (os : OsState) : SharedT := ⟨T0 w.params, 15, {}, ⟨[]⟩, {}, 187, os⟩
noncomputable abbrev ST1 (w : World) (os : OsState) : SharedT := ⟨T1 w.params, 424, {}, ⟨[]⟩, {}, 799, os⟩
noncomputable abbrev SF (w : World) (os : OsState) : Shared := ⟨H1 w.params, ⟨[]⟩, {}, 799, os⟩
theorem pre (w : World) : (fun os => topGo treeTable PW w 11 AN 12 (S0 w os) (topStub PW)) = fun os => some (SA w os, (⟨denote treeTable CE, CE, P0, BB⟩ : Thread)) := by
  rw [PySem.W.Fast.te15667345088766844465, PySem.W.Fast.te14364793385576792824, PySem.W.Fast.te11892475500146522536]
  kernel_rfl
theorem blk (w : World) : (fun os => segRun treeTable PW w 11 AN 1 1 (SA w os) (blockOf BE EV CE P0 BB)) = fun os => some (Flow.next, (ST0 w os).abs, CE, P0) := by
  rw [PySem.W.Fast.te14374325043358763698, PySem.W.Fast.te14364793385576792824]
  kernel_rfl
theorem all (w : World) : (fun os => segRunT treeTable PW w 11 AN 1 2766 (ST0 w os) (piecesOf BE EV CE P0 BB)) = fun os => some (Flow.next, ST1 w os, CE, P1) := by
  rw [PySem.W.Fast.te10110043849684766642, PySem.W.Fast.te14364793385576792824]
  kernel_rfl
theorem fin (w : World) : (fun os => topRun treeTable PW w 11 AN 2 (ST1 w os).abs ⟨doneF Flow.next, CE, P1, BB⟩) = fun os => some (SF w os) := by
  rw [PySem.W.Fast.te14082659384304107361, PySem.W.Fast.te14364793385576792824]
  kernel_rfl
theorem run (w : World) (os : OsState) : topRun treeTable PW w 11 AN (Nat.add 12 (Nat.add 1 (Nat.add 2766 2))) (S0 w os) (topStub PW) = some (SF w os) := by
  refine go_top (congrFun (pre w) os) (piece_block (congrFun (blk w) os) ?_)
  have h := piece_app (rest := []) (segRun_of (congrFun (all w) os)) (congrFun (fin w) os)
  rw [List.append_nil] at h
  exact h
theorem siz (w : World) : ((boot_heap w.params).isNs mainGlobals && (⟨[]⟩ : Array GenState).size == 0, (boot_heap w.params).objs.size, (boot_heap w.params).nsMap mainGlobals "__annotations__") = (true, 11, AN) := by
  rw [PySem.W.Fast.te8920871248978507458]
  kernel_rfl
noncomputable abbrev IM : List Str := importedModules PW.main.body
theorem lk0 (w : World) : (fun os => (staticsOk IM (boot_heap w.params) (H1 w.params) && namesBound PW (H1 w.params) && gensDone (SF w os) && laidKept (boot_heap w.params) (H1 w.params))) = fun _ => true := by
  unfold IM
  rw [PySem.W.Fast.te5923862056798008813]
  kernel_rfl
theorem lk1 (w : World) : (fun os => seen ((recsOf V).map (·.name)) (ownsOf V) [] (SF w os)) = fun _ => expectedOf V := by
  rw [PySem.W.Fast.te5160383126252970620, PySem.W.Fast.te3399658132070893891, PySem.W.Fast.te5991557255702980513]
  kernel_rfl
theorem lk2 (w : World) : (fun os => (SF w os).heap.bltView) = fun _ => bltViewBooted := by
  kernel_rfl
noncomputable abbrev XT : Shared → Bool := fun s => xlAt V [] s && recOk (RowW.records RW.row.toRowW) s
theorem lk3a (w : World) : (fun os => (SF w os).heap.keysOk (looseW V LO) ((recsOf V).map (·.name)) ((litsOf V).map (·.1)) ((clssOf V (looseW V LO)).map (·.name))) = fun _ => true := by
  rw [PySem.W.Fast.te10880121769531294198, PySem.W.Fast.te821141287760084731, PySem.W.Fast.te3399658132070893891, PySem.W.Fast.te7409074990110511671, PySem.W.Fast.te13664370479719496447]
  kernel_rfl
theorem lk3b (w : World) : (fun os => (SF w os).heap.accountedOkI IM) = fun _ => true := by
  unfold IM
  rw [PySem.W.Fast.te14722251495701143533, PySem.W.Fast.te5923862056798008813]
  kernel_rfl
theorem lk3c (w : World) : (fun os => (SF w os).heap.isNs mainGlobals && (SF w os).heap.isNs builtinsNs) = fun _ => true := by
  kernel_rfl
theorem lk3d (w : World) : (fun os => tablesOk V (SF w os).heap) = fun _ => true := by
  rw [PySem.W.Fast.te10994771534591457954]
  kernel_rfl
theorem lk3e (w : World) : (fun os => XT (SF w os)) = fun _ => true := by
  kernel_rfl
theorem lk4 (w : World) : (fun os => tabsOk V (SF w os)) = fun _ => true := by
  rw [PySem.W.Fast.te479339242167458305]
  kernel_rfl
theorem lk5 (w : World) : (fun os => pinSeenD V (drecsOf V) (SF w os)) = fun _ => pinGoodD (drecsOf V) := by
  rw [PySem.W.Fast.te16090120013241838585, PySem.W.Fast.te3247288618530077131]
  kernel_rfl
theorem lk6 (w : World) : (fun os => plainSeenE V (looseW V LO) (SF w os)) = fun _ => plainGoodE V (looseW V LO) := by
  rw [PySem.W.Fast.te2386780881361962483, PySem.W.Fast.te821141287760084731]
  kernel_rfl
theorem lk7 (w : World) : (fun os => plainSeenD V LO (SF w os)) = fun _ => plainGoodD V LO := by
  rw [PySem.W.Fast.te11698064438423848299]
  kernel_rfl
theorem lk8 (w : World) : (fun os => wideSeen V (SF w os)) = fun _ => wideGood V := by
  rw [PySem.W.Fast.te7317090234206586261]
  kernel_rfl
theorem lk9 (w : World) : (fun os => clsSeenW V LO (SF w os)) = fun _ => clsGoodW V LO := by
  rw [PySem.W.Fast.te7369524293546568484]
  kernel_rfl
theorem lkK (w : World) : (fun os => KA.map (SF w os).heap.get?) = fun _ => (K w.params).map fun p => some p.2 := by
  kernel_rfl
theorem kas (P : Params) : KA = (K P).map (·.1) := by kernel_rfl
noncomputable abbrev HK : Hook := kHook K KA kas
theorem lk3 (w : World) (os : OsState) : ((SF w os).heap.keysOk (looseW V LO) ((recsOf V).map (·.name)) ((litsOf V).map (·.1)) ((clssOf V (looseW V LO)).map (·.name)) && (SF w os).heap.accountedOkI IM && (SF w os).heap.isNs mainGlobals && (SF w os).heap.isNs builtinsNs && tablesOk V (SF w os).heap && XT (SF w os) &&
    (if true = true then (SF w os).gens.size == 0 else !leftWithCleanup (SF w os).gens)) = true := by
  have c := congrFun (lk3c w) os
  have c' := Bool.and_eq_true_iff.mp c
  exact look_both (look_both (look_both (look_both (look_both (look_both (congrFun (lk3a w) os) (congrFun (lk3b w) os)) c'.1) c'.2) (congrFun (lk3d w) os)) (congrFun (lk3e w) os)) rfl
theorem lks (w : World) (os : OsState) : openSeen V LO IM XT true (SF w os) = openGood V LO :=
  looks_pair (congrFun (lk1 w) os) (looks_pair (congrFun (lk2 w) os) (looks_pair (lk3 w os) (looks_pair (congrFun (lk4 w) os) (looks_pair (congrFun (lk5 w) os) (looks_pair (congrFun (lk6 w) os) (looks_pair (congrFun (lk7 w) os) (looks_pair (congrFun (lk8 w) os) (congrFun (lk9 w) os))))))))
theorem opn : opening PW = plainProg PW.main.scope.names := by kernel_rfl
theorem fen (s : Shared) : fenceModules? PW s = some s := by kernel_rfl
theorem left : LeftO RW.row.prog V LO XT HK.obs HK.val 5656 :=
  LeftO.of_pieces (p := PW) (boot_open (N := 5656) opn (by decide) fen) siz run (by decide) fun w => funext fun os => looks_pair (congrFun (lk0 w) os) (looks_pair (lks w os) (congrFun (lkK w) os))
end
section
open PySem PySem.Spec PySem.Calls PySem.W PyProof.Rows
set_option maxRecDepth 100000
abbrev PR : Program := PySem.Challenge.rw_xw0306_01.row.toRowW.prog
/-- a text by its signs' numbers -/
def St (l : List Nat) : Str := ⟨l.toArray⟩
theorem St_len (l : List Nat) : (St l).length = l.length := by simp [St, Str.length]
theorem St_cps (l : List Nat) : (St l).cps.toList = l := by simp [St]
section
variable {prog : Program} {w : World} {A : Around} {E : Value → Shared → Prop} {s : Shared} {value slice : PySem.Expr} {l l' : List Nat} {t u : Tok} {i : Int} {a b c : Nat} {Q : Value → Shared → Prop} {h₀ : Heap} {L : Addr} {m : Str → Option Value} {news : List (Addr × Obj)}
theorem item_St (hi : 0 ≤ i) (hc : l[i.toNat]? = some c) : Txt.item (St l) i = St [c] := by
  obtain ⟨h1, h2⟩ := List.getElem?_eq_some_iff.mp hc
  unfold Txt.item Txt.charAt seqIndex?
  simp only [St_len]
  have e1 : ¬ i < 0 := by omega
  simp only [if_neg e1]
  have e2 : (decide (0 ≤ i) && decide (i < (l.length : Int))) = true := by
    simp only [Bool.and_eq_true, decide_eq_true_eq]; omega
  rw [if_pos e2]
  simp only [Option.bind_some, St]
  rw [show (l.toArray[i.toNat]?) = some c by simpa using hc]
  rfl
theorem r_item (hi : 0 ≤ i) (hc : l[i.toNat]? = some c) (hn : l.length ≤ 100000) (h : Q (.str (St [c]) s.toks) { s with toks := s.toks + 1 })
    (hs : subscripted slice false (.str (St l) t) (.int i u) = operate [.str (St l) t, .int i u] (getItem (.str (St l) t) (.int i u)) := by with_unfolding_all rfl)
    (ht : ∀ r, letTemporaryGo value (.str (St l) t) r = pure () := by intro _; with_unfolding_all rfl) :
    wpAny (model prog w) A (subscriptTail value slice (.str (St l) t) (.int i u)) Q E s := by
  obtain ⟨h1, h2⟩ := List.getElem?_eq_some_iff.mp hc
  refine item_str (fitsSsize_of (N := 9223372036854775808) (by omega) (by omega) (Int.le_refl _)) (by rw [St_len]; omega) (by rw [St_len]; omega) (fun _ => ?_) hs ht
  rw [item_St hi hc]
  exact h
theorem r_len (hn : l.length ≤ 100000) (h : Q (.int l.length (s.toks + 1)) { s with toks := s.toks + 1 + 1 }) : wpAny (model prog w) A (call (.builtin "len") [.str (St l) t]) Q E s := by
  refine P.len_str (by rw [St_len]; omega) ?_
  rw [St_len]
  exact h
theorem r_in_yes (e : a = b) (h : Q (.bool true) s) : wpAny (model prog w) A (compareOp .In (.str (St [a]) u) (.str (St [b]) t)) Q E s := by
  refine P.in_str ?_
  show Q (.bool (!(Builtin.Str.occurrences (St [b]) (⟨#[a]⟩ : Str) 0 (St [b]).length 1).isEmpty)) s
  rw [StrLaws.found_one, St_cps, show decide (a ∈ [b]) = true by simp [e]]
  exact h
theorem r_in_no (e : a ≠ b) (h : Q (.bool false) s) : wpAny (model prog w) A (compareOp .In (.str (St [a]) u) (.str (St [b]) t)) Q E s := by
  refine P.in_str ?_
  show Q (.bool (!(Builtin.Str.occurrences (St [b]) (⟨#[a]⟩ : Str) 0 (St [b]).length 1).isEmpty)) s
  rw [StrLaws.found_one, St_cps, show decide (a ∈ [b]) = false by simp [e]]
  exact h
theorem r_eq {x y : Str} (v : Bool) (e : (x.cps.toList == y.cps.toList) = v) (h : Q (.bool v) s) : wpAny (model prog w) A (compareOp .Eq (.str x t) (.str y u)) Q E s := by
  subst e
  exact P.eq_str h
theorem r_ne {x y : Str} (v : Bool) (e : (x.cps.toList != y.cps.toList) = v) (h : Q (.bool v) s) : wpAny (model prog w) A (compareOp .NotEq (.str x t) (.str y u)) Q E s := by
  subst e
  exact P.ne_str h
theorem r_tup_str {d : Addr} {its : Array Value} {n : Nat} {y : Str} (N : News h₀ L s.heap news) (hm : (d, ({ cls := .type "tuple", data := .seq its n } : Obj)) ∈ news) (hu : A.units < cLine) (h : Q (.bool false) s) :
    wpAny (model prog w) A (compareOp .Eq (.ref d) (.str y u)) Q E s :=
  PySem.SeqAt.RcAt.tuple_str y u ⟨_, (N _ hm).1, rfl, _, rfl⟩ hu prog w E Q h
end
theorem whl_yes {b : Bool} {T F : Prop} (h : b = true) (t : T) : WhlIf b T F := WhlIf.yes h t
end
section
open PySem PySem.Spec PySem.Calls PySem.W PyProof.Rows
set_option maxRecDepth 100000
abbrev Led : Type := List (Addr × Obj)
/-- a call of the text's def at `f` with `vs`, upon the ledger `news`: what it hands back and the ledger behind it -/
def Cl (w : World) (p : Program) (loose : List Str) (mean : ExcName → Option Value) (mg mb : Str → Option Value) (d : Nat) (f : Addr) (vs : List Value) (news : Led) (post : Value → Led → Prop) : Prop :=
  ∀ (dp un : Nat) (gd : Option (List Code)) (cn : Str) (cs : Scope) (a : Addr) (ccd : Value) (cl : List (Str × Addr)) (outer : List Env) (A₀ : Around) (base h₀ : Heap) (L : Addr) (m : Str → Option Value) (s : Shared) (Q E : Value → Shared → Prop),
    Below A₀ base outer h₀ → Fr h₀ L s.heap m → (K w.params).In h₀ → News h₀ L s.heap news → Top p loose mean mg mb h₀ → cs.kind = .function → dp + d < recursionLimit → un + 8 * d < cLine →
    (∀ v news' h' tk', post v news' → Fr h₀ L h' m → News h₀ L h' news' → Q v { s with heap := h', toks := tk' }) →
    wpAny (model PySem.Challenge.rw_xw0306_01.row.toRowW.prog w) (ktrTop dp un gd cn cs L a ccd cl outer) (call (.ref f) vs) Q E s
abbrev tup (vs : List Value) : Obj := { cls := .type "tuple", data := .seq vs.toArray }
def UpdA (d : Addr) (o : Obj) (f : Tok → Obj) (news : Led) (nf : Tok → Led) : Prop := ∀ t, Upd d o (f t) news (nf t)
theorem UpdA.at {d : Addr} {o o' : Obj} {f : Tok → Obj} {news : Led} {nf : Tok → Led} (h : UpdA d o f news nf) (t : Tok) (e : f t = o') : Upd d o o' news (nf t) := e ▸ h t
theorem News.sub {h₀ h : Heap} {L : Addr} {l l' : Led} (N : News h₀ L h l) (hs : ∀ p ∈ l', p ∈ l) : News h₀ L h l' := fun p hp => N p (hs p hp)
theorem in_cons {x : Addr × Obj} {l l' : Led} (h : x ∈ l') (r : ∀ p ∈ l, p ∈ l') : ∀ p ∈ x :: l, p ∈ l' := List.forall_mem_cons.mpr ⟨h, r⟩
theorem in_refl {l : Led} : ∀ p ∈ l, p ∈ l := fun _ h => h
theorem in_skip {x : Addr × Obj} {l l' : Led} (r : ∀ p ∈ l, p ∈ l') : ∀ p ∈ l, p ∈ x :: l' := fun p h => .tail _ (r p h)
section
variable {prog : Program} {w : World} {A : Around} {E : Value → Shared → Prop} {s : Shared} {Q : Value → Shared → Prop} {h₀ : Heap} {L : Addr} {m : Str → Option Value}
theorem eqAt_strs {items : List (Str × Tok)} {x : Str} {u : Tok} : ∀ y, y ∈ (items.map fun p => Value.str p.1 p.2).toArray → PySem.SeqAt.EqAt A.in1 s y (.str x u) (match y with | .str a _ => a == x | _ => false) := by
  intro y hy
  simp only [List.mem_toArray, List.mem_map] at hy
  obtain ⟨q, _, rfl⟩ := hy
  exact PySem.SeqAt.EqAt.str_str _ _ _ _
theorem any_strs (items : List (Str × Tok)) (x : Str) : (items.map fun p => Value.str p.1 p.2).toArray.any (fun y => match y with | .str a _ => a == x | _ => false) = items.any (fun p => p.1 == x) := by
  simp [List.any_map, Function.comp_def]
theorem r_notin_strs {a : Addr} {items : List (Str × Tok)} {x : Str} {u : Tok} (hl : s.heap.IsTuple a (items.map fun p => Value.str p.1 p.2).toArray) (v : Bool) (e : (!(items.any fun p => p.1 == x)) = v) (h : Q (.bool v) s) :
    wpAny (model prog w) A (compareOp .NotIn (.str x u) (.ref a)) Q E s := by
  refine PySem.SeqAt.notIn_tupleAt _ hl eqAt_strs ?_
  rw [any_strs, e]
  exact h
theorem r_notin_164 {x : Str} {u : Tok} (F : Fr h₀ L s.heap m) (X : (K w.params).In h₀) (v : Bool) (e : (!([(.ofString "len", 394), (.ofString "pos", 395), (.ofString "rpos", 396), (.ofString "tab", 397), (.ofString "rtab", 398)] : List (Str × Tok)).any fun p => p.1 == x) = v) (h : Q (.bool v) s) :
    wpAny (model prog w) A (compareOp .NotIn (.str x u) (.ref 164)) Q E s :=
  r_notin_strs ⟨_, F.keep _ _ (X 164 (ob164 w.params) (by kernel_rfl)), rfl, _, rfl⟩ v e h
theorem r_notin_165 {x : Str} {u : Tok} (F : Fr h₀ L s.heap m) (X : (K w.params).In h₀) (v : Bool) (e : (!([(.ofString "any", 400), (.ofString "notany", 401), (.ofString "span", 402), (.ofString "break", 403)] : List (Str × Tok)).any fun p => p.1 == x) = v) (h : Q (.bool v) s) :
    wpAny (model prog w) A (compareOp .NotIn (.str x u) (.ref 165)) Q E s :=
  r_notin_strs ⟨_, F.keep _ _ (X 165 (ob165 w.params) (by kernel_rfl)), rfl, _, rfl⟩ v e h
theorem r_in_strs {a : Addr} {items : List (Str × Tok)} {x : Str} {u : Tok} (hl : s.heap.IsTuple a (items.map fun p => Value.str p.1 p.2).toArray) (v : Bool) (e : (items.any fun p => p.1 == x) = v) (h : Q (.bool v) s) :
    wpAny (model prog w) A (compareOp .In (.str x u) (.ref a)) Q E s := by
  refine PySem.SeqAt.in_tupleAt _ hl eqAt_strs ?_
  rw [any_strs, e]
  exact h
theorem r_in_164 {x : Str} {u : Tok} (F : Fr h₀ L s.heap m) (X : (K w.params).In h₀) (v : Bool) (e : (([(.ofString "len", 394), (.ofString "pos", 395), (.ofString "rpos", 396), (.ofString "tab", 397), (.ofString "rtab", 398)] : List (Str × Tok)).any fun p => p.1 == x) = v) (h : Q (.bool v) s) :
    wpAny (model prog w) A (compareOp .In (.str x u) (.ref 164)) Q E s :=
  r_in_strs ⟨_, F.keep _ _ (X 164 (ob164 w.params) (by kernel_rfl)), rfl, _, rfl⟩ v e h
end
/-- the host's own dict -/
abbrev HD (w : World) (hv rl lg : Addr) (n : Int) (v0 v1 v2 v3 v4 v5 v6 v7 v8 : Tok) : Obj := dictOf [⟨PyData.keyHash w.params (.ofString "values"), .str (.ofString "values") v0, .ref hv⟩, ⟨PyData.keyHash w.params (.ofString "limit"), .str (.ofString "limit") v1, .int 9999 v2⟩, ⟨PyData.keyHash w.params (.ofString "refused"), .str (.ofString "refused") v3, .ref rl⟩, ⟨PyData.keyHash w.params (.ofString "width"), .str (.ofString "width") v4, .int 64 v5⟩, ⟨PyData.keyHash w.params (.ofString "steps"), .str (.ofString "steps") v6, .int n v7⟩, ⟨PyData.keyHash w.params (.ofString "log"), .str (.ofString "log") v8, .ref lg⟩] 6
def Ord : List Nat → Prop
  | a :: b :: r => a < b ∧ Ord (b :: r)
  | _ => True
end
section
open PySem PySem.Spec PySem.Calls PySem.W PyProof.Rows
set_option maxRecDepth 100000
theorem map_range_get (l : List Nat) (a : Nat) : ∀ n, a + n ≤ l.length → ((List.range n).map (fun k => a + k)).filterMap (fun i => l[i]?) = (l.drop a).take n
  | 0, _ => by simp
  | n + 1, h => by
    have hh : a + n < l.length := by omega
    rw [List.range_succ, List.map_append, List.filterMap_append, map_range_get l a n (by omega)]
    simp only [List.map_cons, List.map_nil, List.filterMap_cons, List.filterMap_nil]
    rw [List.getElem?_eq_getElem hh]
    rw [List.take_succ]
    rw [List.getElem?_drop, List.getElem?_eq_getElem hh]
    rfl
theorem slice_St {l : List Nat} {i j : Int} {a b : Nat} (hi : i = a) (hj : j = b) (hab : a ≤ b) (hb : b ≤ l.length) : Txt.slice (St l) (some i) (some j) = St ((l.drop a).take (b - a)) := by
  subst hi hj
  have e : PySem.Builtin.Str.strSliceIndices (some (a : Int)) (some (b : Int)) 1 (St l).length = (List.range (b - a)).map fun k => a + k := by
    rw [St_len]
    exact PySem.StrLaws.strSliceIndices_plain hab hb
  unfold Txt.slice
  rw [e]
  split
  · rename_i h
    simp only [List.length_map, List.length_range, St_len, Bool.and_eq_true, beq_iff_eq] at h
    have h2 := h.2
    have e1 : a = 0 := by omega
    have e2 : b = l.length := by omega
    subst e1 e2
    simp
  · show (⟨_⟩ : Str) = ⟨_⟩
    congr 2
    rw [show (fun x => (St l).cps[x]?) = fun i => l[i]? by funext x; simp [St]]
    exact map_range_get l a (b - a) (by omega)
theorem slice_nil {l : List Nat} {i j : Int} (h0 : 0 ≤ i) (e : j = i) (h1 : i ≤ l.length) : Txt.slice (St l) (some i) (some j) = St [] := by
  subst e
  rw [slice_St (a := j.toNat) (b := j.toNat) (by omega) (by omega) (Nat.le_refl _) (by omega)]
  simp
section
variable {prog : Program} {w : World} {A : Around} {E : Value → Shared → Prop} {s : Shared} {Q : Value → Shared → Prop} {h₀ : Heap} {L : Addr} {m : Str → Option Value} {news : Led} {value slice : PySem.Expr} {t : Tok}
theorem ofString_nil : (Str.ofString "").cps.toList = [] := by decide +kernel
theorem r_eq_empty {l : List Nat} {u : Tok} (v : Bool) (e : l.isEmpty = v) (h : Q (.bool v) s) : wpAny (model prog w) A (compareOp .Eq (.str (St l) t) (.str (.ofString "") u)) Q E s := by
  refine r_eq v ?_ h
  rw [St_cps, ofString_nil, ← e]
  cases l <;> rfl
theorem r_in_nil {a : Addr} {n : Nat} {x : Value} (N : News h₀ L s.heap news) (hm : (a, listOf #[] n) ∈ news) (h : Q (.bool false) s) : wpAny (model prog w) A (compareOp .In x (.ref a)) Q E s :=
  PySem.SeqAt.in_listAt (items := #[]) (fun _ => false) ⟨_, (N _ hm).1, rfl, _, rfl⟩ (fun y (hy : y ∈ (#[] : Array Value)) => absurd hy (by simp)) (by simpa using h)
theorem r_slice_ss {l y : List Nat} {i j : Int} {ui uj : Tok} (hF : Fr h₀ L s.heap m) (hN : News h₀ L s.heap news) (e : Txt.slice (St l) (some i) (some j) = St y) (hl : l.length ≤ 1000) (h : ∀ h' t' k, Fr h₀ L h' m → News h₀ L h' news → Q (.str (St y) t') { s with heap := h', toks := k })
    (hs : subscripted slice false (.str (St l) t) (.ref s.heap.objs.size) = operate [.ref s.heap.objs.size, .str (St l) t] (getItem (.str (St l) t) (.ref s.heap.objs.size)) := by with_unfolding_all rfl)
    (ht : ∀ r, letTemporaryGo value (.str (St l) t) r = pure () := by intro _; with_unfolding_all rfl) :
    wpAny (model prog w) A (subscriptTail value slice (.str (St l) t) (.ref s.heap.objs.size)) Q E { s with heap := s.heap.push { cls := .type "slice", data := .fields #[.int i ui, .int j uj, .none] } } :=
  slice_strN_ss hF hN (fun h' t' k a b => by rw [e]; exact h h' t' k a b) hs ht (by rw [St_len]; exact Nat.le_trans hl (by rw [show sizeLine = 16777216 from rfl]; omega))
end
theorem newsLt {h₀ h : Heap} {L : Addr} {l news : Led} (N : News h₀ L h l) (hs : ∀ p ∈ news, p ∈ l) : AllLt h.objs.size news := allLt_of fun p hp => Heap.lt_size (N p (hs p hp)).1
theorem Cl.use {w : World} {p : Program} {loose : List Str} {mean : ExcName → Option Value} {mg mb : Str → Option Value} {d : Nat} {f : Addr} {vs : List Value} {news : Led} {post : Value → Led → Prop} (C : Cl w p loose mean mg mb d f vs news post)
    {dp un : Nat} {gd : Option (List Code)} {cn : Str} {cs : Scope} {a : Addr} {ccd : Value} {cl : List (Str × Addr)} {outer : List Env} {A₀ : Around} {base h₀ : Heap} {L : Addr} {m : Str → Option Value} {s : Shared} {Q E : Value → Shared → Prop}
    (B : Below A₀ base outer h₀) (F : Fr h₀ L s.heap m) (X : (K w.params).In h₀) (N : News h₀ L s.heap news) (T : Top p loose mean mg mb h₀) (hk : cs.kind = .function) (hd : dp + d < recursionLimit) (hu : un + 8 * d < cLine)
    (h : ∀ v news' h' tk', post v news' → Fr h₀ L h' m → News h₀ L h' news' → Q v { s with heap := h', toks := tk' }) :
    wpAny (model PySem.Challenge.rw_xw0306_01.row.toRowW.prog w) (ktrTop dp un gd cn cs L a ccd cl outer) (call (.ref f) vs) Q E s :=
  C dp un gd cn cs a ccd cl outer A₀ base h₀ L m s Q E B F X N T hk hd hu h
/-- run_end from place 1 over the sign c comes to k -/
def RunC (w : World) (p : Program) (loose : List Str) (mean : ExcName → Option Value) (mg mb : Str → Option Value) (l : List Nat) (c : Nat) (k : Int) : Prop :=
  ∀ (news : Led) (t1 t2 t3 : Tok), Cl w p loose mean mg mb 3 271 [.str (St l) t1, .int 1 t2, .str (St [c]) t3, .bool true] news (fun v news' => ∃ te, v = .int k te ∧ news' = news)
theorem RunC.use {w : World} {p : Program} {loose : List Str} {mean : ExcName → Option Value} {mg mb : Str → Option Value} {l : List Nat} {c : Nat} {k : Int} (C : RunC w p loose mean mg mb l c k) {news : Led} {t1 t2 t3 : Tok}
    {dp un : Nat} {gd : Option (List Code)} {cn : Str} {cs : Scope} {a : Addr} {ccd : Value} {cl : List (Str × Addr)} {outer : List Env} {A₀ : Around} {base h₀ : Heap} {L : Addr} {m : Str → Option Value} {s : Shared} {Q E : Value → Shared → Prop}
    (B : Below A₀ base outer h₀) (F : Fr h₀ L s.heap m) (X : (K w.params).In h₀) (N : News h₀ L s.heap news) (T : Top p loose mean mg mb h₀) (hk : cs.kind = .function) (hd : dp + 3 < recursionLimit) (hu : un + 8 * 3 < cLine)
    (h : ∀ te h' tk', Fr h₀ L h' m → News h₀ L h' news → Q (.int k te) { s with heap := h', toks := tk' }) :
    wpAny (model PySem.Challenge.rw_xw0306_01.row.toRowW.prog w) (ktrTop dp un gd cn cs L a ccd cl outer) (call (.ref 271) [.str (St l) t1, .int 1 t2, .str (St [c]) t3, .bool true]) Q E s :=
  (C news t1 t2 t3).use B F X N T hk hd hu fun v news' h' tk' hp F' N' => by
    obtain ⟨te, rfl, rfl⟩ := hp
    exact h te h' tk' F' N'
end
open PySem PySem.Spec PySem.Calls PySem.W PyProof.Rows
local macro_rules | `(tactic| walk_at "mine 0") => `(tactic| (k_here; (with_reducible show wpAny _ _ (compareOp _ (Value.str (St _) _) (Value.str _ _)) _ _ _); first | refine r_eq true (by first | rfl | decide +kernel | (simp [St])) ?_ | refine r_eq false (by first | rfl | decide +kernel | (simp [St])) ?_))
local macro_rules | `(tactic| walk_at "mine 1") => `(tactic| (k_here; (with_reducible show wpAny _ _ (subscriptTail _ (Expr.Slice (some _) (some _) none _) (Value.str (St _) _) (Value.ref _)) _ _ _); k_dflt (refine' r_slice_ss (s := ⟨_, _, _, _, _⟩) ?F ?N ?e (by omega) ?_; (case F => k_asm); (case N => k_asm); (case e => first | assumption | exact slice_nil (by omega) (by omega) (by omega)); intro h' t' k' F' N')))
local macro_rules | `(tactic| walk_at "mine 2") => `(tactic| (k_here; (with_reducible show wpAny _ _ (call (Value.builtin "len") [Value.str (St _) _]) _ _ _); (refine r_len (by first | omega | (simp only [List.length_cons]; omega)) ?_); (try simp only [List.length_cons])))
local macro_rules | `(tactic| walk_at "mine 3") => `(tactic| (k_here; k_dflt (first | (refine' r_notin_164 ?F ?X true ?e ?_; (case F => k_asm); (case X => k_asm); (case e => decide +kernel)) | (refine' r_notin_164 ?F ?X false ?e ?_; (case F => k_asm); (case X => k_asm); (case e => decide +kernel)) | (refine' r_notin_165 ?F ?X true ?e ?_; (case F => k_asm); (case X => k_asm); (case e => decide +kernel)) | (refine' r_notin_165 ?F ?X false ?e ?_; (case F => k_asm); (case X => k_asm); (case e => decide +kernel)))))
local macro_rules | `(tactic| walk_at "mine 4") => `(tactic| (k_here; k_dflt (refine' r_tup_str ?N ?m ?u ?_; (case N => k_asm); (case m => k_mem); (case u => (simp only [Around.deeper_units, units_in1, units_deeper, Around.mark_units]; (try dsimp only [ktrTop]); omega)); k_whole)))
local macro_rules | `(tactic| walk_at "mine 5") => `(tactic| (k_here; k_dflt (first | (refine' call_meth ?k1 ?k2 ?_; (case k1 => k_asm); (case k2 => k_mem); k_whole; (refine' code_def ?k1 ?k2 ?k3 ?k4 ?k5 ?kA ?kF ?kK ?k6 ?k7 ?k8 ?k9 ?kB ?_ ?c2 ?c3 ?c4 ?c5; (case kA => exact rfl); (case kF => exact rfl); (case kK => first | exact rfl | assumption); (case k1 => k_asm); (case k2 => k_asm); (case k3 => k_asm); (case k4 => k_asm); (case k5 => k_asm); (case k6 => k_is); (case k7 => k_is); (case k8 => (simp only [depth_under_make, depth_under_kw, depth_in1, depth_deeper, depth_caller]; (try dsimp only [ktrTop]); omega)); (case k9 => exact BindsTo.of_eq rfl); (case c5 => decide); (case kB => exact locs rfl); (case c2 => exact rfl); (case c3 => exact rfl); (case c4 => exact rfl); k_whole; intro g' L' h' FG' F' N' B' X' T'; (try dsimp only); (try k_fold))) | (refine wpAny_call ?_; (refine' code_def ?k1 ?k2 ?k3 ?k4 ?k5 ?kA ?kF ?kK ?k6 ?k7 ?k8 ?k9 ?kB ?_ ?c2 ?c3 ?c4 ?c5; (case kA => exact rfl); (case kF => exact rfl); (case kK => first | exact rfl | assumption); (case k1 => k_asm); (case k2 => k_asm); (case k3 => k_asm); (case k4 => k_asm); (case k5 => k_asm); (case k6 => k_is); (case k7 => k_is); (case k8 => (simp only [depth_under_make, depth_under_kw, depth_in1, depth_deeper, depth_caller]; (try dsimp only [ktrTop]); omega)); (case k9 => exact BindsTo.of_eq rfl); (case c5 => decide); (case kB => exact locs rfl); (case c2 => exact rfl); (case c3 => exact rfl); (case c4 => exact rfl); k_whole; intro g' L' h' FG' F' N' B' X' T'; (try dsimp only); (try k_fold))))))
section
open PySem PySem.Spec PySem.Calls PySem.W PyProof.Rows
set_option maxRecDepth 100000
local macro_rules | `(tactic| walk_at "call ref") => `(tactic| walk_at "mine 5")
local macro_rules | `(tactic| walk_at "compareOp Eq ref str") => `(tactic| walk_at "mine 4")
local macro_rules | `(tactic| k_upd) => `(tactic| (refine' UpdA.at ?h ?t ?e; (case h => assumption); (case e => exact rfl)))
local macro_rules | `(tactic| k_mem) => `(tactic| assumption)
local macro_rules | `(tactic| k_all) => `(tactic| assumption)
local macro_rules | `(tactic| walk_at "compareOp NotIn str ref") => `(tactic| walk_at "mine 3")
local macro_rules | `(tactic| walk_at "call builtin:len") => `(tactic| walk_at "mine 2")
local macro_rules | `(tactic| walk_at "subscriptTail") => `(tactic| walk_at "mine 1")
local macro_rules | `(tactic| walk_at "compareOp Eq str str") => `(tactic| walk_at "mine 0")
section
variable {w : World} {p : Program} {loose : List Str} {mean : ExcName → Option Value} {mg mb : Str → Option Value}
set_option maxHeartbeats 8000000 in
theorem ct_step (news : Led) (hx hd hv rl lg : Addr) (n : Int) (hn : 0 ≤ n) (hn' : n < 5000) (v0 v1 v2 v3 v4 v5 v6 v7 v8 : Tok)
    (h1 : (hx, instObj 407 hd) ∈ news) (hne : ∀ q ∈ news, q.1 ≠ hd) :
    Cl w p loose mean mg mb 4 404 [.ref hx] ((hd, HD w hv rl lg n v0 v1 v2 v3 v4 v5 v6 v7 v8) :: news)
      (fun v news' => ∃ te, v = .none ∧ news' = (hd, HD w hv rl lg (n + 1) v0 v1 v2 v3 v4 v5 v6 te v8) :: news) := by
  unfold Cl; k_fill
  intro dp un gd cn cs a ccd cl outer A₀ base h₀ L m s Q E B F X N T hk hdp hun ret
  refine wpAny_call ?_
  k_dflt ktr_enter
  k_steps
  refine' ret _ _ _ _ ⟨_, rfl, rfl⟩ (by assumption) (by assumption)
end
end
section
open PySem PySem.Spec PySem.Calls PySem.W PyProof.Rows
set_option maxRecDepth 100000
abbrev PG : Program := PySem.Challenge.rw_xw0306_01.row.toRowW.prog
def whBody : Stmt → List Stmt
  | .While _ b _ _ => b
  | _ => []
section
variable {w : World} {p : Program} {loose : List Str} {mean : ExcName → Option Value} {mg mb : Str → Option Value} {d : Nat} {f : Addr} {vs : List Value} {news news2 : Led} {post post2 : Value → Led → Prop}
theorem Cl.sub (C : Cl w p loose mean mg mb d f vs news2 post) (hs : ∀ q ∈ news2, q ∈ news) : Cl w p loose mean mg mb d f vs news post :=
  fun dp un gd cn cs a ccd cl outer A₀ base h₀ L m s Q E B F X N T hk hd hu h => C dp un gd cn cs a ccd cl outer A₀ base h₀ L m s Q E B F X (cb_drop N hs) T hk hd hu h
theorem Cl.mono (C : Cl w p loose mean mg mb d f vs news post) (hp : ∀ v l, post v l → post2 v l) : Cl w p loose mean mg mb d f vs news post2 :=
  fun dp un gd cn cs a ccd cl outer A₀ base h₀ L m s Q E B F X N T hk hd hu h => C dp un gd cn cs a ccd cl outer A₀ base h₀ L m s Q E B F X N T hk hd hu fun v l h' tk' q => h v l h' tk' (hp v l q)
theorem Cl.deep (C : Cl w p loose mean mg mb d f vs news post) {d2 : Nat} (hd2 : d ≤ d2) : Cl w p loose mean mg mb d2 f vs news post :=
  fun dp un gd cn cs a ccd cl outer A₀ base h₀ L m s Q E B F X N T hk hd hu h => C dp un gd cn cs a ccd cl outer A₀ base h₀ L m s Q E B F X N T hk (by omega) (by omega) h
/-- a way handed back: a tuple of the next chain, the place, what is named -/
def WayP (P : Led → Value → Int → Tok → Addr → Prop) : Value → Led → Prop := fun v l => ∃ wt c' i' ti' nm', v = .ref wt ∧ (wt, tup [c', .int i' ti', .ref nm']) ∈ l ∧ P l c' i' ti' nm'
/-- what one turn asks of `advanced` -/
def Adv (w : World) (p : Program) (loose : List Str) (mean : ExcName → Option Value) (mg mb : Str → Option Value) (vs : List Value) (nf : Tok → Led) (P : Tok → Led → Value → Int → Tok → Addr → Prop) : Prop :=
  ∀ te, Cl w p loose mean mg mb 10 341 vs (nf te) (WayP (P te))
section
variable {dp un : Nat} {gd : Option (List Code)} {cn : Str} {cs : Scope} {a : Addr} {ccd : Value} {cl : List (Str × Addr)} {outer : List Env} {A₀ : Around} {base h₀ : Heap} {L : Addr} {m : Str → Option Value} {s : Shared} {Q E : Value → Shared → Prop}
theorem Adv.use {nf : Tok → Led} {P : Tok → Led → Value → Int → Tok → Addr → Prop} (C : Adv w p loose mean mg mb vs nf P) {te : Tok}
    (B : Below A₀ base outer h₀) (F : Fr h₀ L s.heap m) (X : (K w.params).In h₀) (N : News h₀ L s.heap (nf te)) (T : Top p loose mean mg mb h₀) (hk : cs.kind = .function) (hd : dp + 10 < recursionLimit) (hu : un + 8 * 10 < cLine)
    (h : ∀ wt c' i' ti' nm' l h' tk', (wt, tup [c', .int i' ti', .ref nm']) ∈ l → P te l c' i' ti' nm' → Fr h₀ L h' m → News h₀ L h' l → Q (.ref wt) { s with heap := h', toks := tk' }) :
    wpAny (model PG w) (ktrTop dp un gd cn cs L a ccd cl outer) (call (.ref 341) vs) Q E s :=
  (C te).use B F X N T hk hd hu fun v l h' tk' hp F' N' => by
    obtain ⟨wt, c', i', ti', nm', rfl, h1, h2⟩ := hp
    exact h wt c' i' ti' nm' l h' tk' h1 h2 F' N'
theorem AdvN.use {nf : Tok → Led} {P : Tok → Led → Prop} (C : ∀ te, Cl w p loose mean mg mb 10 341 vs (nf te) (fun v l => v = .none ∧ P te l)) {te : Tok}
    (B : Below A₀ base outer h₀) (F : Fr h₀ L s.heap m) (X : (K w.params).In h₀) (N : News h₀ L s.heap (nf te)) (T : Top p loose mean mg mb h₀) (hk : cs.kind = .function) (hd : dp + 10 < recursionLimit) (hu : un + 8 * 10 < cLine)
    (h : ∀ l h' tk', P te l → Fr h₀ L h' m → News h₀ L h' l → Q .none { s with heap := h', toks := tk' }) :
    wpAny (model PG w) (ktrTop dp un gd cn cs L a ccd cl outer) (call (.ref 341) vs) Q E s :=
  (C te).use B F X N T hk hd hu fun v l h' tk' hp F' N' => by
    obtain ⟨rfl, h2⟩ := hp
    exact h l h' tk' h2 F' N'
theorem step_use {hx hd hv rl lg : Addr} {n : Int} (hn : 0 ≤ n) (hn' : n < 5000) {v0 v1 v2 v3 v4 v5 v6 v7 v8 : Tok} (h1 : (hx, instObj 407 hd) ∈ news) (hne : ∀ q ∈ news, q.1 ≠ hd)
    (B : Below A₀ base outer h₀) (F : Fr h₀ L s.heap m) (X : (K w.params).In h₀) (N : News h₀ L s.heap ((hd, HD w hv rl lg n v0 v1 v2 v3 v4 v5 v6 v7 v8) :: news)) (T : Top p loose mean mg mb h₀) (hk : cs.kind = .function) (hd' : dp + 10 < recursionLimit) (hu : un + 8 * 10 < cLine)
    (h : ∀ te h' tk', Fr h₀ L h' m → News h₀ L h' ((hd, HD w hv rl lg (n + 1) v0 v1 v2 v3 v4 v5 v6 te v8) :: news) → Q .none { s with heap := h', toks := tk' }) :
    wpAny (model PG w) (ktrTop dp un gd cn cs L a ccd cl outer) (call (.ref 404) [.ref hx]) Q E s :=
  (ct_step news hx hd hv rl lg n hn hn' v0 v1 v2 v3 v4 v5 v6 v7 v8 h1 hne).use B F X N T hk (by omega) (by omega) fun v l h' tk' hp F' N' => by
    obtain ⟨te, rfl, rfl⟩ := hp
    exact h te h' tk' F' N'
end
end
theorem ne_cons {b : Nat} {o : Obj} {l : Led} {c : Nat} (h : b ≠ c) (r : ∀ q ∈ l, q.1 ≠ c) : ∀ q ∈ (b, o) :: l, q.1 ≠ c := List.forall_mem_cons.mpr ⟨h, r⟩
theorem allLt_ne {l : Led} {b c : Nat} (h : AllLt b l) (hb : b ≤ c) : ∀ q ∈ l, q.1 ≠ c := by
  induction l with
  | nil => intro q hq; cases hq
  | cons x r ih =>
    intro q hq
    obtain ⟨h1, h2⟩ := h
    rcases List.mem_cons.mp hq with rfl | hq
    · exact Nat.ne_of_lt (Nat.lt_of_lt_of_le h1 hb)
    · exact ih h2 q hq
end
open PySem PySem.Spec PySem.Calls PySem.W PyProof.Rows
local macro_rules | `(tactic| walk_at "mine 6") => `(tactic| (k_here; k_dflt (refine' nameX_L ?F ?v ?_ ?a ?b; (case F => k_asm); (case a => rfl); (case b => rfl); (case v => first | assumption | rfl); k_whole)))
section
open PySem PySem.Spec PySem.Calls PySem.W PyProof.Rows
set_option maxRecDepth 100000
local macro_rules | `(tactic| k_mem) => `(tactic| assumption)
local macro_rules | `(tactic| walk_at "compareOp Eq ref str") => `(tactic| walk_at "mine 4")
local macro_rules | `(tactic| walk_at "call ref") => `(tactic| (k_here; k_dflt (first
  | (refine' step_use ?n ?n' ?h ?ne ?B ?F ?X ?N ?T ?k ?d ?u ?_; (case B => k_asm); (case F => k_asm); (case X => k_asm); (case N => k_asm); (case n => assumption); (case n' => assumption); (case h => assumption); (case ne => assumption); (case T => k_asm); (case k => first | exact rfl | assumption); (case d => (try dsimp only [ktrTop]); omega); (case u => (try dsimp only [ktrTop]); omega); intro te9 h9 tk9 F9 N9; (try dsimp only))
  | (refine' Adv.use ?C ?B ?F ?X ?N ?T ?k ?d ?u ?_; (case C => assumption); (case B => k_asm); (case F => k_asm); (case X => k_asm); (case N => k_asm); (case T => k_asm); (case k => first | exact rfl | assumption); (case d => (try dsimp only [ktrTop]); omega); (case u => (try dsimp only [ktrTop]); omega); intro wt9 c9 i9 ti9 nm9 l9 h9 tk9 hw9 hP9 F9 N9; (try dsimp only)))))
local macro_rules | `(tactic| walk_at "eval Name") => `(tactic| walk_at "mine 6")
/-- what stands behind a turn -/
def Nx (w : World) (dp un : Nat) (gd : Option (List Code)) (sc : Scope) (L' : Addr) (outer : List Env) (g : Heap) (E : Value → Shared → Prop) (test : PySem.Expr) (body orl : List Stmt) (Q : Flow → Shared → Prop) (k : Nat) (s : Shared) (sub : Str) (ts : Tok) (pl hx : Addr) (P : Tok → Led → Value → Int → Tok → Addr → Prop) : Prop :=
  ∀ te c' i' ti' nm' l h' tk' m', P te l c' i' ti' nm' → m' (.ofString "chain") = some c' → m' (.ofString "at") = some (.int i' ti') → m' (.ofString "named") = some (.ref nm') → m' (.ofString "subject") = some (.str sub ts) → m' (.ofString "pile") = some (.ref pl) → m' (.ofString "host") = some (.ref hx) →
      Fr g L' h' m' → News g L' h' l → WhlRest PG w (ktrTop dp un gd (.ofString "tried") sc L' 334 (.ref 333) [] outer) E (envX (.ofString "tried") sc L' 334 (.ref 333) []) test body orl Q k { s with heap := h', toks := tk' }
theorem Nx.go {w : World} {dp un : Nat} {gd : Option (List Code)} {sc : Scope} {L' : Addr} {outer : List Env} {g : Heap} {E : Value → Shared → Prop} {test : PySem.Expr} {body orl : List Stmt} {Q : Flow → Shared → Prop} {k : Nat} {s : Shared} {sub : Str} {ts : Tok} {pl hx : Addr} {P : Tok → Led → Value → Int → Tok → Addr → Prop}
    (h : Nx w dp un gd sc L' outer g E test body orl Q k s sub ts pl hx P) {te : Tok} {c' : Value} {i' : Int} {ti' : Tok} {nm' : Addr} {l : Led} {h' : Heap} {tk' : Nat} {m' : Str → Option Value} (hP : P te l c' i' ti' nm') (F : Fr g L' h' m') (N : News g L' h' l) (m1 : m' (.ofString "chain") = some c') (m2 : m' (.ofString "at") = some (.int i' ti')) (m3 : m' (.ofString "named") = some (.ref nm')) (m4 : m' (.ofString "subject") = some (.str sub ts)) (m5 : m' (.ofString "pile") = some (.ref pl)) (m6 : m' (.ofString "host") = some (.ref hx)) :
    WhlRest PG w (ktrTop dp un gd (.ofString "tried") sc L' 334 (.ref 333) [] outer) E (envX (.ofString "tried") sc L' 334 (.ref 333) []) test body orl Q k { s with heap := h', toks := tk' } := h te c' i' ti' nm' l h' tk' m' hP m1 m2 m3 m4 m5 m6 F N
local macro_rules | `(tactic| walk_at "WhlRest") => `(tactic| (k_dflt (refine' Nx.go ?h ?P ?F ?N ?m1 ?m2 ?m3 ?m4 ?m5 ?m6; (case h => assumption); (case F => k_asm); (case N => k_asm); (case P => assumption); (case m1 => rfl); (case m2 => rfl); (case m3 => rfl); (case m4 => assumption); (case m5 => assumption); (case m6 => assumption))))
section
variable {w : World} {p : Program} {loose : List Str} {mean : ExcName → Option Value} {mg mb : Str → Option Value}
set_option maxHeartbeats 8000000 in
theorem turn {fn : Str} {fa : Arguments} {fb : List Stmt} {fd : List PySem.Expr} {fr : Option PySem.Expr} {ft : List TypeParam} {sc : Scope} {fts : Option Scope} {fbd : Str} {fps : Pos} {test : PySem.Expr} {body orl : List Stmt} {pos : Pos}
    (hf : nthS 45 PB = .FunctionDef fn fa fb fd fr ft sc fts fbd fps) (hw : nthS 3 (whBody (nthS 1 fb)) = .While test body orl pos)
    {dp un : Nat} {gd : Option (List Code)} {outer : List Env} {A₀ : Around} {base g : Heap} {L' : Addr} {m : Str → Option Value} {s : Shared} {Q : Flow → Shared → Prop} {E : Value → Shared → Prop} {k : Nat}
    {news : Led} {hx hd hv rl lg : Addr} {n : Int} (hn : 0 ≤ n) (hn' : n < 5000) {v0 v1 v2 v3 v4 v5 v6 v7 v8 : Tok} (hh : (hx, instObj 407 hd) ∈ news) (hne : ∀ q ∈ news, q.1 ≠ hd)
    {ch nm pl : Addr} {i : Int} {ti ts : Tok} {sub : Str} {P : Tok → Led → Value → Int → Tok → Addr → Prop}
    (hE : PassesOwn (model PG w) (ktrTop dp un gd (.ofString "tried") sc L' 334 (.ref 333) [] outer) (envX (.ofString "tried") sc L' 334 (.ref 333) []) E)
    (B : Below A₀ base outer g) (F : Fr g L' s.heap m) (X : (K w.params).In g) (N : News g L' s.heap ((hd, HD w hv rl lg n v0 v1 v2 v3 v4 v5 v6 v7 v8) :: news)) (T : Top p loose mean mg mb g) (hdp : dp + 10 < recursionLimit) (hun : un + 8 * 10 < cLine)
    (m1 : m (.ofString "chain") = some (.ref ch)) (m2 : m (.ofString "at") = some (.int i ti)) (m3 : m (.ofString "named") = some (.ref nm)) (m4 : m (.ofString "subject") = some (.str sub ts)) (m5 : m (.ofString "pile") = some (.ref pl)) (m6 : m (.ofString "host") = some (.ref hx))
    (adv : Adv w p loose mean mg mb [.ref ch, .int i ti, .ref nm, .str sub ts, .ref pl, .ref hx] (fun te => (hd, HD w hv rl lg (n + 1) v0 v1 v2 v3 v4 v5 v6 te v8) :: news) P)
    (next : Nx w dp un gd sc L' outer g E test body orl Q k s sub ts pl hx P) :
    WhlRest PG w (ktrTop dp un gd (.ofString "tried") sc L' 334 (.ref 333) [] outer) E (envX (.ofString "tried") sc L' 334 (.ref 333) []) test body orl Q (k + 1) s := by
  revert X; unfold PG; k_fill; intro X
  injection hf with f1 f2 f3 f4 f5 f6 f7 f8 f9 f10
  subst f1 f2 f3 f4 f5 f6 f7 f8 f9 f10
  injection hw with w1 w2 w3 w4
  subst w1 w2 w3 w4
  refine whl_turn hE ?_
  k_steps
end
end
section
open PySem PySem.Spec PySem.Calls PySem.W PyProof.Rows
set_option maxRecDepth 100000
local macro_rules | `(tactic| k_mem) => `(tactic| assumption)
local macro_rules | `(tactic| walk_at "compareOp Eq ref str") => `(tactic| walk_at "mine 4")
local macro_rules | `(tactic| walk_at "call ref") => `(tactic| (k_here; k_dflt (first
  | (refine' step_use ?n ?n' ?h ?ne ?B ?F ?X ?N ?T ?k ?d ?u ?_; (case B => k_asm); (case F => k_asm); (case X => k_asm); (case N => k_asm); (case n => assumption); (case n' => assumption); (case h => assumption); (case ne => assumption); (case T => k_asm); (case k => first | exact rfl | assumption); (case d => (try dsimp only [ktrTop]); omega); (case u => (try dsimp only [ktrTop]); omega); intro te9 h9 tk9 F9 N9; (try dsimp only))
  | (refine' AdvN.use ?C ?B ?F ?X ?N ?T ?k ?d ?u ?_; (case C => assumption); (case B => k_asm); (case F => k_asm); (case X => k_asm); (case N => k_asm); (case T => k_asm); (case k => first | exact rfl | assumption); (case d => (try dsimp only [ktrTop]); omega); (case u => (try dsimp only [ktrTop]); omega); intro l9 h9 tk9 hP9 F9 N9; (try dsimp only)))))
local macro_rules | `(tactic| walk_at "eval Name") => `(tactic| walk_at "mine 6")
section
variable {w : World} {p : Program} {loose : List Str} {mean : ExcName → Option Value} {mg mb : Str → Option Value}
set_option maxHeartbeats 8000000 in
theorem turnN {fn : Str} {fa : Arguments} {fb : List Stmt} {fd : List PySem.Expr} {fr : Option PySem.Expr} {ft : List TypeParam} {sc : Scope} {fts : Option Scope} {fbd : Str} {fps : Pos} {test : PySem.Expr} {body orl : List Stmt} {pos : Pos}
    (hf : nthS 45 PB = .FunctionDef fn fa fb fd fr ft sc fts fbd fps) (hw : nthS 3 (whBody (nthS 1 fb)) = .While test body orl pos)
    {dp un : Nat} {gd : Option (List Code)} {outer : List Env} {A₀ : Around} {base g : Heap} {L' : Addr} {m : Str → Option Value} {s : Shared} {Q : Flow → Shared → Prop} {E : Value → Shared → Prop} {k : Nat}
    {news : Led} {hx hd hv rl lg : Addr} {n : Int} (hn : 0 ≤ n) (hn' : n < 5000) {v0 v1 v2 v3 v4 v5 v6 v7 v8 : Tok} (hh : (hx, instObj 407 hd) ∈ news) (hne : ∀ q ∈ news, q.1 ≠ hd)
    {ch nm pl : Addr} {i : Int} {ti ts : Tok} {sub : Str} {P : Tok → Led → Prop}
    (hE : PassesOwn (model PG w) (ktrTop dp un gd (.ofString "tried") sc L' 334 (.ref 333) [] outer) (envX (.ofString "tried") sc L' 334 (.ref 333) []) E)
    (B : Below A₀ base outer g) (F : Fr g L' s.heap m) (X : (K w.params).In g) (N : News g L' s.heap ((hd, HD w hv rl lg n v0 v1 v2 v3 v4 v5 v6 v7 v8) :: news)) (T : Top p loose mean mg mb g) (hdp : dp + 10 < recursionLimit) (hun : un + 8 * 10 < cLine)
    (m1 : m (.ofString "chain") = some (.ref ch)) (m2 : m (.ofString "at") = some (.int i ti)) (m3 : m (.ofString "named") = some (.ref nm)) (m4 : m (.ofString "subject") = some (.str sub ts)) (m5 : m (.ofString "pile") = some (.ref pl)) (m6 : m (.ofString "host") = some (.ref hx))
    (adv : ∀ te, Cl w p loose mean mg mb 10 341 [.ref ch, .int i ti, .ref nm, .str sub ts, .ref pl, .ref hx] ((hd, HD w hv rl lg (n + 1) v0 v1 v2 v3 v4 v5 v6 te v8) :: news) (fun v l => v = .none ∧ P te l))
    (next : ∀ te l h' tk' m', P te l → m' (.ofString "chain") = some (.ref ch) → m' (.ofString "at") = some (.int i ti) → m' (.ofString "named") = some (.ref nm) → m' (.ofString "subject") = some (.str sub ts) → m' (.ofString "pile") = some (.ref pl) → m' (.ofString "host") = some (.ref hx) →
      Fr g L' h' m' → News g L' h' l → Q .next { s with heap := h', toks := tk' }) :
    WhlRest PG w (ktrTop dp un gd (.ofString "tried") sc L' 334 (.ref 333) [] outer) E (envX (.ofString "tried") sc L' 334 (.ref 333) []) test body orl Q (k + 1) s := by
  revert X; unfold PG; k_fill; intro X
  injection hf with f1 f2 f3 f4 f5 f6 f7 f8 f9 f10
  subst f1 f2 f3 f4 f5 f6 f7 f8 f9 f10
  injection hw with w1 w2 w3 w4
  subst w1 w2 w3 w4
  refine whl_turn hE ?_
  k_steps
  refine' next _ _ _ _ _ ?zP ?z1 ?z2 ?z3 ?z4 ?z5 ?z6 ?zF ?zN
  case zF => assumption
  case zN => assumption
  case zP => assumption
  case z1 => exact m1
  case z2 => exact m2
  case z3 => exact m3
  case z4 => exact m4
  case z5 => exact m5
  case z6 => exact m6
end
end
open PySem PySem.Spec PySem.Calls PySem.W PyProof.Rows
local macro_rules | `(tactic| walk_at "mine 7") => `(tactic| (k_here; (with_reducible show wpAny _ _ (subscriptTail _ _ (Value.ref _) (Value.int _ _)) _ _ _); k_dflt (refine' item_tupleT ?t ?a ?b ?c ?d ?_; (case t => exact News.isTup (by k_asm) (by k_mem)); (case a => decide); (case b => decide); (case c => rfl); (case d => rfl); k_whole)))
section
open PySem PySem.Spec PySem.Calls PySem.W PyProof.Rows
set_option maxRecDepth 100000
local macro_rules | `(tactic| walk_at "subscriptTail Name Constant ref int") => `(tactic| walk_at "mine 7")
local macro_rules | `(tactic| walk_at "call ref") => `(tactic| walk_at "mine 5")
local macro_rules | `(tactic| walk_at "compareOp Eq ref str") => `(tactic| walk_at "mine 4")
local macro_rules | `(tactic| k_upd) => `(tactic| (refine' UpdA.at ?h ?t ?e; (case h => assumption); (case e => exact rfl)))
local macro_rules | `(tactic| k_mem) => `(tactic| assumption)
section
variable {w : World} {p : Program} {loose : List Str} {mean : ExcName → Option Value} {mg mb : Str → Option Value}
set_option maxHeartbeats 4000000 in
theorem ct_cat (news : Led) (ch here n1 n2 : Addr) (u : Tok) (rest : Value) (i : Int) (ti : Tok) (nm : Addr) (sub : Str) (ts : Tok) (pl hx : Addr)
    (h1 : (ch, tup [.ref here, rest]) ∈ news) (h2 : (here, tup [.str (.ofString "cat") u, .ref n1, .ref n2]) ∈ news) :
    Cl w p loose mean mg mb 4 341 [.ref ch, .int i ti, .ref nm, .str sub ts, .ref pl, .ref hx] news
      (fun v news' => ∃ p1 c1 w1, v = .ref w1 ∧ news' = (w1, tup [.ref c1, .int i ti, .ref nm]) :: (c1, tup [.ref n1, .ref p1]) :: (p1, tup [.ref n2, rest]) :: news ∧ AllLt p1 news ∧ Ord [p1, c1, w1]) := by
  unfold Cl; k_fill
  intro dp un gd cn cs a ccd cl outer A₀ base h₀ L m s Q E B F X N T hk hdp hun ret
  refine wpAny_call ?_
  k_dflt ktr_enter
  k_steps
  refine' ret _ _ _ _ ⟨_, _, _, rfl, rfl, ?e1, ?e2⟩ (by assumption) (cb_drop (by assumption) ?e4)
  case e4 => (repeat refine in_cons (by k_mem) ?_); repeat (first | exact in_refl | refine in_skip ?_)
  case e1 => first | assumption | exact (by assumption : _ ∧ AllLt _ _).2 | exact (by assumption : _ ∧ _ ∧ AllLt _ _).2.2
  case e2 => (simp only [Ord, and_true]; omega)
end
end
section
open PySem PySem.Spec PySem.Calls PySem.W PyProof.Rows
set_option maxRecDepth 100000
local macro_rules | `(tactic| walk_at "subscriptTail Name Constant ref int") => `(tactic| walk_at "mine 7")
local macro_rules | `(tactic| walk_at "call ref") => `(tactic| walk_at "mine 5")
local macro_rules | `(tactic| walk_at "compareOp Eq ref str") => `(tactic| walk_at "mine 4")
local macro_rules | `(tactic| k_upd) => `(tactic| (refine' UpdA.at ?h ?t ?e; (case h => assumption); (case e => exact rfl)))
local macro_rules | `(tactic| k_mem) => `(tactic| assumption)
local macro_rules | `(tactic| k_all) => `(tactic| assumption)
local macro_rules | `(tactic| walk_at "compareOp NotIn str ref") => `(tactic| walk_at "mine 3")
local macro_rules | `(tactic| walk_at "call builtin:len") => `(tactic| walk_at "mine 2")
local macro_rules | `(tactic| walk_at "subscriptTail") => `(tactic| walk_at "mine 1")
local macro_rules | `(tactic| walk_at "compareOp Eq str str") => `(tactic| walk_at "mine 0")
section
variable {w : World} {p : Program} {loose : List Str} {mean : ExcName → Option Value} {mg mb : Str → Option Value}
set_option maxHeartbeats 8000000 in
theorem ct_now (news : Led) (ch here n1 ix : Addr) (u : Tok) (rest : Value) (i : Int) (ti : Tok) (nm : Addr) (sub : Str) (ts : Tok) (pl hx : Addr)
    (h1 : (ch, tup [.ref here, rest]) ∈ news) (h2 : (here, tup [.str (.ofString "now") u, .ref n1, .ref ix]) ∈ news) :
    Cl w p loose mean mg mb 4 341 [.ref ch, .int i ti, .ref nm, .str sub ts, .ref pl, .ref hx] news
      (fun v news' => ∃ e1 q1 c1 w1 te, v = .ref w1 ∧ news' = (w1, tup [.ref c1, .int i ti, .ref nm]) :: (c1, tup [.ref n1, .ref q1]) :: (q1, tup [.ref e1, rest]) :: (e1, tup [.str (.ofString "end now") te, .ref ix, .int i ti]) :: news ∧ AllLt e1 news ∧ Ord [e1, q1, c1, w1]) := by
  unfold Cl; k_fill
  intro dp un gd cn cs a ccd cl outer A₀ base h₀ L m s Q E B F X N T hk hdp hun ret
  refine wpAny_call ?_
  k_dflt ktr_enter
  k_steps
  refine' ret _ _ _ _ ⟨_, _, _, _, _, rfl, rfl, ?e1, ?e2⟩ (by assumption) (cb_drop (by assumption) ?e4)
  case e4 => (repeat refine in_cons (by k_mem) ?_); repeat (first | exact in_refl | refine in_skip ?_)
  case e1 => first | assumption | exact (by assumption : _ ∧ AllLt _ _).2 | exact (by assumption : _ ∧ _ ∧ AllLt _ _).2.2 | exact (by assumption : _ ∧ _ ∧ _ ∧ AllLt _ _).2.2.2 | exact (by assumption : _ ∧ _ ∧ _ ∧ _ ∧ AllLt _ _).2.2.2.2 | exact (by assumption : _ ∧ _ ∧ _ ∧ _ ∧ _ ∧ AllLt _ _).2.2.2.2.2 | exact (by assumption : _ ∧ _ ∧ _ ∧ _ ∧ _ ∧ _ ∧ AllLt _ _).2.2.2.2.2.2
  case e2 => (simp only [Ord, and_true]; omega)
end
end
section
local macro_rules | `(tactic| walk_at "no such key 0") => `(tactic| skip)
open PySem PySem.Spec PySem.Calls PySem.W PyProof.Rows
set_option maxRecDepth 100000
local macro_rules | `(tactic| walk_at "subscriptTail Name Constant ref int") => `(tactic| walk_at "mine 7")
local macro_rules | `(tactic| walk_at "call ref") => `(tactic| walk_at "mine 5")
local macro_rules | `(tactic| walk_at "compareOp Eq ref str") => `(tactic| walk_at "mine 4")
local macro_rules | `(tactic| k_upd) => `(tactic| (refine' UpdA.at ?h ?t ?e; (case h => assumption); (case e => exact rfl)))
local macro_rules | `(tactic| k_mem) => `(tactic| assumption)
local macro_rules | `(tactic| k_all) => `(tactic| assumption)
local macro_rules | `(tactic| walk_at "compareOp NotIn str ref") => `(tactic| walk_at "mine 3")
local macro_rules | `(tactic| walk_at "call builtin:len") => `(tactic| walk_at "mine 2")
local macro_rules | `(tactic| walk_at "subscriptTail") => `(tactic| walk_at "mine 1")
local macro_rules | `(tactic| walk_at "compareOp Eq str str") => `(tactic| walk_at "mine 0")
section
variable {w : World} {p : Program} {loose : List Str} {mean : ExcName → Option Value} {mg mb : Str → Option Value}
set_option maxHeartbeats 8000000 in
theorem ct_alt (news : Led) (ch here n1 n2 : Addr) (u : Tok) (rest : Value) (i : Int) (ti : Tok) (nm : Addr) (sub : Str) (ts : Tok) (pl hx : Addr) (n : Nat)
    (h1 : (ch, tup [.ref here, rest]) ∈ news) (h2 : (here, tup [.str (.ofString "alt") u, .ref n1, .ref n2]) ∈ news) (hne : ∀ q ∈ news, q.1 ≠ pl) :
    Cl w p loose mean mg mb 4 341 [.ref ch, .int i ti, .ref nm, .str sub ts, .ref pl, .ref hx] ((pl, listOf #[] n) :: news)
      (fun v news' => ∃ b1 bw c1 w1, v = .ref w1 ∧ news' = (w1, tup [.ref c1, .int i ti, .ref nm]) :: (c1, tup [.ref n1, rest]) :: (pl, listOf #[.ref bw] (n + 1)) :: (bw, tup [.ref b1, .int i ti, .ref nm]) :: (b1, tup [.ref n2, rest]) :: news ∧ AllLt b1 news ∧ Ord [pl, b1, bw, c1, w1]) := by
  unfold Cl; k_fill
  intro dp un gd cn cs a ccd cl outer A₀ base h₀ L m s Q E B F X N T hk hdp hun ret
  refine wpAny_call ?_
  k_dflt ktr_enter
  k_steps
  refine' ret _ _ _ _ ⟨_, _, _, _, rfl, rfl, ?e1, ?e2⟩ (by assumption) (cb_drop (by assumption) ?e4)
  case e4 => (repeat refine in_cons (by k_mem) ?_); repeat (first | exact in_refl | refine in_skip ?_)
  case e1 => first | assumption | exact (by assumption : _ ∧ AllLt _ _).2 | exact (by assumption : _ ∧ _ ∧ AllLt _ _).2.2 | exact (by assumption : _ ∧ _ ∧ _ ∧ AllLt _ _).2.2.2 | exact (by assumption : _ ∧ _ ∧ _ ∧ _ ∧ AllLt _ _).2.2.2.2 | exact (by assumption : _ ∧ _ ∧ _ ∧ _ ∧ _ ∧ AllLt _ _).2.2.2.2.2 | exact (by assumption : _ ∧ _ ∧ _ ∧ _ ∧ _ ∧ _ ∧ AllLt _ _).2.2.2.2.2.2
  case e2 => (simp only [Ord, and_true]; omega)
end
end
section
open PySem PySem.Spec PySem.Calls PySem.W PyProof.Rows
set_option maxRecDepth 100000
local macro_rules | `(tactic| walk_at "subscriptTail Name Constant ref int") => `(tactic| walk_at "mine 7")
local macro_rules | `(tactic| walk_at "call ref") => `(tactic| walk_at "mine 5")
local macro_rules | `(tactic| walk_at "compareOp Eq ref str") => `(tactic| walk_at "mine 4")
local macro_rules | `(tactic| k_upd) => `(tactic| (refine' UpdA.at ?h ?t ?e; (case h => assumption); (case e => exact rfl)))
local macro_rules | `(tactic| k_mem) => `(tactic| assumption)
local macro_rules | `(tactic| k_all) => `(tactic| assumption)
local macro_rules | `(tactic| walk_at "compareOp NotIn str ref") => `(tactic| walk_at "mine 3")
local macro_rules | `(tactic| walk_at "call builtin:len") => `(tactic| walk_at "mine 2")
local macro_rules | `(tactic| walk_at "subscriptTail") => `(tactic| walk_at "mine 1")
local macro_rules | `(tactic| walk_at "compareOp Eq str str") => `(tactic| walk_at "mine 0")
section
variable {w : World} {p : Program} {loose : List Str} {mean : ExcName → Option Value} {mg mb : Str → Option Value}
set_option maxHeartbeats 8000000 in
theorem ct_len (news : Led) (ch here : Addr) (u v : Tok) (rest : Value) (ti : Tok) (nm : Addr) (l : List Nat) (hl : 1 ≤ l.length) (hl' : l.length ≤ 1000) (ts : Tok) (pl hx : Addr)
    (h1 : (ch, tup [.ref here, rest]) ∈ news) (h2 : (here, tup [.str (.ofString "len") u, .int 1 v]) ∈ news) :
    Cl w p loose mean mg mb 10 341 [.ref ch, .int 0 ti, .ref nm, .str (St l) ts, .ref pl, .ref hx] news
      (fun v news' => ∃ w1 te, v = .ref w1 ∧ news' = (w1, tup [rest, .int 1 te, .ref nm]) :: news ∧ AllLt w1 news) := by
  unfold Cl; k_fill
  intro dp un gd cn cs a ccd cl outer A₀ base h₀ L m s Q E B F X N T hk hdp hun ret
  refine wpAny_call ?_
  k_dflt ktr_enter
  k_steps
  refine' ret _ _ _ _ ⟨_, _, rfl, rfl, ?e1⟩ (by assumption) (cb_drop (by assumption) ?e4)
  case e4 => (repeat refine in_cons (by k_mem) ?_); repeat (first | exact in_refl | refine in_skip ?_)
  case e1 => first | assumption | exact (by assumption : _ ∧ AllLt _ _).2 | exact (by assumption : _ ∧ _ ∧ AllLt _ _).2.2 | exact (by assumption : _ ∧ _ ∧ _ ∧ AllLt _ _).2.2.2 | exact (by assumption : _ ∧ _ ∧ _ ∧ _ ∧ AllLt _ _).2.2.2.2 | exact (by assumption : _ ∧ _ ∧ _ ∧ _ ∧ _ ∧ AllLt _ _).2.2.2.2.2 | exact (by assumption : _ ∧ _ ∧ _ ∧ _ ∧ _ ∧ _ ∧ AllLt _ _).2.2.2.2.2.2
end
end
section
local macro_rules | `(tactic| walk_at "no such key 0") => `(tactic| skip)
open PySem PySem.Spec PySem.Calls PySem.W PyProof.Rows
set_option maxRecDepth 100000
local macro_rules | `(tactic| walk_at "subscriptTail Name Constant ref int") => `(tactic| walk_at "mine 7")
local macro_rules | `(tactic| walk_at "call ref") => `(tactic| walk_at "mine 5")
local macro_rules | `(tactic| walk_at "compareOp Eq ref str") => `(tactic| walk_at "mine 4")
local macro_rules | `(tactic| k_upd) => `(tactic| (refine' UpdA.at ?h ?t ?e; (case h => assumption); (case e => exact rfl)))
local macro_rules | `(tactic| k_mem) => `(tactic| assumption)
local macro_rules | `(tactic| k_all) => `(tactic| assumption)
local macro_rules | `(tactic| walk_at "compareOp NotIn str ref") => `(tactic| walk_at "mine 3")
local macro_rules | `(tactic| walk_at "call builtin:len") => `(tactic| walk_at "mine 2")
local macro_rules | `(tactic| walk_at "subscriptTail") => `(tactic| walk_at "mine 1")
local macro_rules | `(tactic| walk_at "compareOp Eq str str") => `(tactic| walk_at "mine 0")
section
variable {w : World} {p : Program} {loose : List Str} {mean : ExcName → Option Value} {mg mb : Str → Option Value}
set_option maxHeartbeats 8000000 in
theorem ct_rem (news : Led) (ch here : Addr) (u : Tok) (rest : Value) (i : Int) (ti : Tok) (nm : Addr) (l : List Nat) (hl : 1 ≤ l.length) (hl' : l.length ≤ 1000) (ts : Tok) (pl hx : Addr)
    (h1 : (ch, tup [.ref here, rest]) ∈ news) (h2 : (here, tup [.str (.ofString "rem") u]) ∈ news) :
    Cl w p loose mean mg mb 10 341 [.ref ch, .int i ti, .ref nm, .str (St l) ts, .ref pl, .ref hx] news
      (fun v news' => ∃ w1 te, v = .ref w1 ∧ news' = (w1, tup [rest, .int l.length te, .ref nm]) :: news ∧ AllLt w1 news) := by
  unfold Cl; k_fill
  intro dp un gd cn cs a ccd cl outer A₀ base h₀ L m s Q E B F X N T hk hdp hun ret
  refine wpAny_call ?_
  k_dflt ktr_enter
  k_steps
  refine' ret _ _ _ _ ⟨_, _, rfl, rfl, ?e1⟩ (by assumption) (cb_drop (by assumption) ?e4)
  case e4 => (repeat refine in_cons (by k_mem) ?_); repeat (first | exact in_refl | refine in_skip ?_)
  case e1 => first | assumption | exact (by assumption : _ ∧ AllLt _ _).2 | exact (by assumption : _ ∧ _ ∧ AllLt _ _).2.2 | exact (by assumption : _ ∧ _ ∧ _ ∧ AllLt _ _).2.2.2 | exact (by assumption : _ ∧ _ ∧ _ ∧ _ ∧ AllLt _ _).2.2.2.2 | exact (by assumption : _ ∧ _ ∧ _ ∧ _ ∧ _ ∧ AllLt _ _).2.2.2.2.2 | exact (by assumption : _ ∧ _ ∧ _ ∧ _ ∧ _ ∧ _ ∧ AllLt _ _).2.2.2.2.2.2
end
end
section
open PySem PySem.Spec PySem.Calls PySem.W PyProof.Rows
set_option maxRecDepth 100000
local macro_rules | `(tactic| walk_at "subscriptTail Name Constant ref int") => `(tactic| walk_at "mine 7")
local macro_rules | `(tactic| walk_at "call ref") => `(tactic| walk_at "mine 5")
local macro_rules | `(tactic| walk_at "compareOp Eq ref str") => `(tactic| walk_at "mine 4")
local macro_rules | `(tactic| k_upd) => `(tactic| (refine' UpdA.at ?h ?t ?e; (case h => assumption); (case e => exact rfl)))
local macro_rules | `(tactic| k_mem) => `(tactic| assumption)
local macro_rules | `(tactic| k_all) => `(tactic| assumption)
local macro_rules | `(tactic| walk_at "compareOp NotIn str ref") => `(tactic| walk_at "mine 3")
local macro_rules | `(tactic| walk_at "call builtin:len") => `(tactic| walk_at "mine 2")
local macro_rules | `(tactic| walk_at "subscriptTail") => `(tactic| walk_at "mine 1")
local macro_rules | `(tactic| walk_at "compareOp Eq str str") => `(tactic| walk_at "mine 0")
section
variable {w : World} {p : Program} {loose : List Str} {mean : ExcName → Option Value} {mg mb : Str → Option Value}
set_option maxHeartbeats 8000000 in
theorem ct_chars (news : Led) (ch here : Addr) (u v : Tok) (rest : Value) (ti : Tok) (nm : Addr) (l : List Nat) (hl : 1 ≤ l.length) (hl' : l.length ≤ 1000) (ts : Tok) (pl hx : Addr)
    (h1 : (ch, tup [.ref here, rest]) ∈ news) (h2 : (here, tup [.str (.ofString "chars") u, .str (.ofString "") v]) ∈ news) :
    Cl w p loose mean mg mb 10 341 [.ref ch, .int 1 ti, .ref nm, .str (St l) ts, .ref pl, .ref hx] news
      (fun v news' => ∃ w1 te, v = .ref w1 ∧ news' = (w1, tup [rest, .int 1 te, .ref nm]) :: news ∧ AllLt w1 news) := by
  unfold Cl; k_fill
  intro dp un gd cn cs a ccd cl outer A₀ base h₀ L m s Q E B F X N T hk hdp hun ret
  refine wpAny_call ?_
  k_dflt ktr_enter
  k_steps
  refine' ret _ _ _ _ ⟨_, _, rfl, rfl, ?e1⟩ (by assumption) (cb_drop (by assumption) ?e4)
  case e4 => (repeat refine in_cons (by k_mem) ?_); repeat (first | exact in_refl | refine in_skip ?_)
  case e1 => first | assumption | exact (by assumption : _ ∧ AllLt _ _).2 | exact (by assumption : _ ∧ _ ∧ AllLt _ _).2.2 | exact (by assumption : _ ∧ _ ∧ _ ∧ AllLt _ _).2.2.2 | exact (by assumption : _ ∧ _ ∧ _ ∧ _ ∧ AllLt _ _).2.2.2.2 | exact (by assumption : _ ∧ _ ∧ _ ∧ _ ∧ _ ∧ AllLt _ _).2.2.2.2.2 | exact (by assumption : _ ∧ _ ∧ _ ∧ _ ∧ _ ∧ _ ∧ AllLt _ _).2.2.2.2.2.2
end
end
open PySem PySem.Spec PySem.Calls PySem.W PyProof.Rows
local macro_rules | `(tactic| walk_at "mine 8") => `(tactic| (k_here; k_dflt (refine' setItem_K PyProof.V.same_str (strKind_is _ _ _ _) ?v ?F ?N ?U ?d ?f ?_ ?z; (case F => k_asm); (case N => k_asm); (case U => k_updF); (case d => k_asm); (case f => k_asm); (case z => assumption); (case v => k_flat)); intro h' o' F' N' hd' hf'; (try dsimp only at N')))
local macro_rules | `(tactic| walk_at "mine 9") => `(tactic| (k_here; k_dflt (first | (refine' r_in_164 ?F ?X true ?e ?_; (case F => k_asm); (case X => k_asm); (case e => decide +kernel)) | (refine' r_in_164 ?F ?X false ?e ?_; (case F => k_asm); (case X => k_asm); (case e => decide +kernel)) | (refine' r_in_nil ?N ?m ?_; (case N => k_asm); (case m => k_mem); k_whole))))
section
open PySem PySem.Spec PySem.Calls PySem.W PyProof.Rows
set_option maxRecDepth 100000
local macro_rules | `(tactic| walk_at "subscriptTail Name Constant ref int") => `(tactic| walk_at "mine 7")
local macro_rules | `(tactic| walk_at "call ref") => `(tactic| walk_at "mine 5")
local macro_rules | `(tactic| walk_at "compareOp Eq ref str") => `(tactic| walk_at "mine 4")
local macro_rules | `(tactic| k_upd) => `(tactic| (refine' UpdA.at ?h ?t ?e; (case h => assumption); (case e => exact rfl)))
local macro_rules | `(tactic| k_mem) => `(tactic| assumption)
local macro_rules | `(tactic| k_all) => `(tactic| assumption)
local macro_rules | `(tactic| walk_at "compareOp NotIn str ref") => `(tactic| walk_at "mine 3")
local macro_rules | `(tactic| walk_at "call builtin:len") => `(tactic| walk_at "mine 2")
local macro_rules | `(tactic| walk_at "subscriptTail") => `(tactic| walk_at "mine 1")
local macro_rules | `(tactic| walk_at "compareOp Eq str str") => `(tactic| walk_at "mine 0")
local macro_rules | `(tactic| walk_at "compareOp In str ref") => `(tactic| walk_at "mine 9")
local macro_rules | `(tactic| walk_at "setItem ref str") => `(tactic| walk_at "mine 8")
section
variable {w : World} {p : Program} {loose : List Str} {mean : ExcName → Option Value} {mg mb : Str → Option Value}
set_option maxHeartbeats 8000000 in
theorem ct_end (news : Led) (ch e1 ix dx : Addr) (u u1 u2 u3 u4 u5 : Tok) (key : Str) (rest : Value) (i j : Int) (ti tj : Tok) (nm : Addr) (l y : List Nat) (hl' : l.length ≤ 1000) (ts : Tok) (pl hx hd hv rl lg : Addr) (n : Int) (v0 v1 v2 v3 v4 v5 v6 v7 v8 : Tok)
    (its : Array Value) (k : Nat) (o : Obj) (kvs : List (Str × Value)) (D : List (PyData × PyData)) (hits : its.size ≤ sizeLine)
    (hsl : Txt.slice (St l) (some j) (some i) = St y)
    (h1 : (ch, tup [.ref e1, rest]) ∈ news) (h2 : (e1, tup [.str (.ofString "end now") u, .ref ix, .int j tj]) ∈ news)
    (h3 : (ix, instObj 110 dx) ∈ news) (h4 : (dx, dictOf [⟨PyData.keyHash w.params (.ofString "kind"), .str (.ofString "kind") u1, .str (.ofString "var") u2⟩, ⟨PyData.keyHash w.params (.ofString "owner"), .str (.ofString "owner") u3, .none⟩, ⟨PyData.keyHash w.params (.ofString "key"), .str (.ofString "key") u4, .str key u5⟩] 3) ∈ news)
    (h5 : (hx, instObj 407 hd) ∈ news) (h6 : (hd, HD w hv rl lg n v0 v1 v2 v3 v4 v5 v6 v7 v8) ∈ news) (h7 : (rl, listOf #[] 0) ∈ news)
    (lo : (hv == sysModules) = false) (hkv : o.IsDictOf (_root_.PySem.strKind PySem.Challenge.rw_xw0306_01.row.toRowW.prog w) kvs) (hfl : PyProof.V.FlatPairs PyData.str kvs D) (hD : D.length ≤ sizeLine)
    (hne : ∀ q ∈ news, q.1 ≠ hv) (hne' : ∀ q ∈ news, q.1 ≠ lg) (hlv : Ord [lg, hv] ∨ Ord [hv, lg]) :
    Cl w p loose mean mg mb 6 341 [.ref ch, .int i ti, .ref nm, .str (St l) ts, .ref pl, .ref hx] ((hv, o) :: (lg, listOf its k) :: news)
      (fun v news' => ∃ o' lt w1 kvs', v = .ref w1 ∧ news' = (w1, tup [rest, .int i ti, .ref nm]) :: (hv, o') :: (lg, listOf (its.push (.ref lt)) (k + 1)) :: news ∧ o'.IsDictOf (_root_.PySem.strKind PySem.Challenge.rw_xw0306_01.row.toRowW.prog w) kvs' ∧ PyProof.V.FlatPairs PyData.str kvs' (PyProof.V.putD (PyData.str key) (PyData.str (St y)) D) ∧ AllLt w1 news ∧ Ord [hv, w1] ∧ Ord [lg, w1]) := by
  simp only [Ord, and_true] at hlv; have hlv2 := neN (a := lg) (b := hv) (by omega)
  unfold Cl; k_fill
  intro dp un gd cn cs a ccd cl outer A₀ base h₀ L m s Q E B F X N T hk hdp hun ret
  refine wpAny_call ?_
  k_dflt ktr_enter
  k_steps
  refine' ret _ _ _ _ ⟨_, _, _, _, rfl, rfl, ?zd, ?zf, ?e1, ?e2, ?e3⟩ (by assumption) (cb_drop (by assumption) ?e4)
  case e4 => (repeat refine in_cons (by k_mem) ?_); repeat (first | exact in_refl | refine in_skip ?_)
  case zd => assumption
  case zf => assumption
  case e1 => first | assumption | exact (by assumption : _ ∧ AllLt _ _).2 | exact (by assumption : _ ∧ _ ∧ AllLt _ _).2.2 | exact (by assumption : _ ∧ _ ∧ _ ∧ AllLt _ _).2.2.2 | exact (by assumption : _ ∧ _ ∧ _ ∧ _ ∧ AllLt _ _).2.2.2.2 | exact (by assumption : _ ∧ _ ∧ _ ∧ _ ∧ _ ∧ AllLt _ _).2.2.2.2.2 | exact (by assumption : _ ∧ _ ∧ _ ∧ _ ∧ _ ∧ _ ∧ AllLt _ _).2.2.2.2.2.2
  case e2 => (simp only [Ord, and_true]; omega)
  case e3 => (simp only [Ord, and_true]; omega)
end
end
section
open PySem PySem.Spec PySem.Calls PySem.W PyProof.Rows
set_option maxRecDepth 100000
local macro_rules | `(tactic| walk_at "subscriptTail Name Constant ref int") => `(tactic| walk_at "mine 7")
local macro_rules | `(tactic| walk_at "call ref") => `(tactic| walk_at "mine 5")
local macro_rules | `(tactic| walk_at "compareOp Eq ref str") => `(tactic| walk_at "mine 4")
local macro_rules | `(tactic| k_upd) => `(tactic| (refine' UpdA.at ?h ?t ?e; (case h => assumption); (case e => exact rfl)))
local macro_rules | `(tactic| k_mem) => `(tactic| assumption)
local macro_rules | `(tactic| k_all) => `(tactic| assumption)
local macro_rules | `(tactic| walk_at "compareOp NotIn str ref") => `(tactic| walk_at "mine 3")
local macro_rules | `(tactic| walk_at "call builtin:len") => `(tactic| walk_at "mine 2")
local macro_rules | `(tactic| walk_at "subscriptTail") => `(tactic| walk_at "mine 1")
local macro_rules | `(tactic| walk_at "compareOp Eq str str") => `(tactic| walk_at "mine 0")
local macro_rules | `(tactic| walk_at "compareOp In str ref") => `(tactic| walk_at "mine 9")
local macro_rules | `(tactic| walk_at "setItem ref str") => `(tactic| walk_at "mine 8")
local macro_rules | `(tactic| walk_at "call ref") => `(tactic| (k_here; k_dflt (refine' RunC.use ?C ?B ?F ?X ?N ?T ?k ?d ?u ?_; (case C => assumption); (case B => k_asm); (case F => k_asm); (case X => k_asm); (case N => k_asm); (case T => k_asm); (case k => first | exact rfl | assumption); (case d => (simp only [depth_under_make, depth_under_kw, depth_in1, depth_deeper, depth_caller]; (try dsimp only [ktrTop]); omega)); (case u => (simp only [Around.deeper_units, units_in1, units_deeper, Around.mark_units]; (try dsimp only [ktrTop]); omega)); intro te9 h9 tk9 F9 N9; (try dsimp only))))
local macro_rules | `(tactic| walk_at "compareOp Eq str str") => `(tactic| (k_here; (with_reducible show wpAny _ _ (compareOp _ (Value.str (St _) _) (Value.str (PySem.Str.ofString "") _)) _ _ _); first | refine r_eq_empty false rfl ?_ | refine r_eq_empty true rfl ?_))
section
variable {w : World} {p : Program} {loose : List Str} {mean : ExcName → Option Value} {mg mb : Str → Option Value}
set_option maxHeartbeats 8000000 in
theorem ct_span (news : Led) (ch here n1 n2 : Addr) (u u1 u2 u3 : Tok) (rest : Value) (ti : Tok) (nm : Addr) (l : List Nat) (c : Nat) (k : Int) (hrun : RunC w p loose mean mg mb l c k) (hl' : l.length ≤ 1000) (ts : Tok) (pl hx hd hv rl lg : Addr) (n : Int) (v0 v1 v2 v3 v4 v5 v6 v7 v8 : Tok)
    (o : Obj) (kvs : List (Str × Value)) (lo : (hv == sysModules) = false) (hkv : o.IsDictOf (_root_.PySem.strKind PySem.Challenge.rw_xw0306_01.row.toRowW.prog w) kvs) (hfl : PyProof.V.FlatPairs PyData.str kvs [(PyData.str (.ofString "X"), PyData.str (St [c]))])
    (h1 : (ch, tup [.ref here, rest]) ∈ news) (h2 : (here, tup [.str (.ofString "span") u, .ref n1]) ∈ news) (h3 : (n1, tup [.str (.ofString "delay") u1, .ref n2]) ∈ news) (h4 : (n2, tup [.str (.ofString "name") u2, .str (.ofString "X") u3]) ∈ news)
    (h5 : (hx, instObj 407 hd) ∈ news) (h6 : (hd, HD w hv rl lg n v0 v1 v2 v3 v4 v5 v6 v7 v8) ∈ news) (h7 : (hv, o) ∈ news) :
    Cl w p loose mean mg mb 10 341 [.ref ch, .int 1 ti, .ref nm, .str (St l) ts, .ref pl, .ref hx] news
      (fun v news' => (¬ 1 < k ∧ v = .none ∧ news' = news) ∨ (1 < k ∧ ∃ w1 te, v = .ref w1 ∧ news' = (w1, tup [rest, .int k te, .ref nm]) :: news ∧ AllLt w1 news)) := by
  unfold Cl; k_fill
  intro dp un gd cn cs a ccd cl outer A₀ base h₀ L m s Q E B F X N T hk hdp hun ret
  refine wpAny_call ?_
  k_dflt ktr_enter
  k_steps
  · refine' ret _ _ _ _ (.inr ⟨by omega, _, _, rfl, rfl, ?e1⟩) (by assumption) (cb_drop (by assumption) ?e4)
    case e4 => (repeat refine in_cons (by k_mem) ?_); repeat (first | exact in_refl | refine in_skip ?_)
    case e1 => first | (refine' newsLt ?zN ?zS; (case zN => assumption); (case zS => repeat (first | exact in_refl | refine in_skip ?_))) | assumption | exact (by assumption : _ ∧ AllLt _ _).2 | exact (by assumption : _ ∧ _ ∧ AllLt _ _).2.2
  · refine' ret _ _ _ _ (.inl ⟨by omega, rfl, rfl⟩) (by assumption) (cb_drop (by assumption) ?e4)
    repeat (first | exact in_refl | refine in_skip ?_)
end
end
section
open PySem PySem.Spec PySem.Calls PySem.W PyProof.Rows
set_option maxRecDepth 100000
local macro_rules | `(tactic| walk_at "subscriptTail Name Name str int") => `(tactic| (k_here; (with_reducible show wpAny _ _ (subscriptTail _ _ (Value.str (St _) _) (Value.int _ _)) _ _ _); (refine r_item (by decide) rfl (by simp only [List.length_cons, List.length_nil]; omega) ?_)))
local macro_rules | `(tactic| walk_at "compareOp In str str") => `(tactic| (k_here; (with_reducible show wpAny _ _ (compareOp _ (Value.str (St _) _) (Value.str (St _) _)) _ _ _); first | refine r_in_yes rfl ?_ | refine r_in_no (by assumption) ?_))
local macro_rules | `(tactic| walk_at "exec While BoolOp") => `(tactic| (k_here; k_dflt (refine whl_start 9 ?_)))
local macro_rules | `(tactic| walk_at "call builtin:len") => `(tactic| (k_here; (with_reducible show wpAny _ _ (call (Value.builtin "len") [Value.str (St _) _]) _ _ _); (refine r_len (by simp only [List.length_cons, List.length_nil]; omega) ?_); (try simp only [List.length_cons, List.length_nil])))
section
variable {w : World} {p : Program} {loose : List Str} {mean : ExcName → Option Value} {mg mb : Str → Option Value}
set_option maxHeartbeats 4000000 in
theorem run_1a (c : Nat) : RunC w p loose mean mg mb (c :: []) c 1 := by
  unfold RunC Cl; k_fill
  intro news t1 t2 t3 dp un gd cn cs a ccd cl outer A₀ base h₀ L m s Q E B F X N T hk hdp hun ret
  refine wpAny_call ?_
  k_dflt ktr_enter
  k_steps
  exact ret _ _ _ _ ⟨_, rfl, rfl⟩ (by assumption) (by assumption)
set_option maxHeartbeats 4000000 in
theorem run_1b (c d : Nat) (r : List Nat) (hd : d ≠ c) (hr : r.length ≤ 1000) : RunC w p loose mean mg mb (c :: d :: r) c 1 := by
  unfold RunC Cl; k_fill
  intro news t1 t2 t3 dp un gd cn cs a ccd cl outer A₀ base h₀ L m s Q E B F X N T hk hdp hun ret
  refine wpAny_call ?_
  k_dflt ktr_enter
  k_steps
  exact ret _ _ _ _ ⟨_, rfl, rfl⟩ (by assumption) (by assumption)
set_option maxHeartbeats 4000000 in
theorem run_2a (c : Nat) : RunC w p loose mean mg mb (c :: c :: []) c 2 := by
  unfold RunC Cl; k_fill
  intro news t1 t2 t3 dp un gd cn cs a ccd cl outer A₀ base h₀ L m s Q E B F X N T hk hdp hun ret
  refine wpAny_call ?_
  k_dflt ktr_enter
  k_steps
  exact ret _ _ _ _ ⟨_, rfl, rfl⟩ (by assumption) (by assumption)
set_option maxHeartbeats 4000000 in
theorem run_2b (c d : Nat) (r : List Nat) (hd : d ≠ c) (hr : r.length ≤ 1000) : RunC w p loose mean mg mb (c :: c :: d :: r) c 2 := by
  unfold RunC Cl; k_fill
  intro news t1 t2 t3 dp un gd cn cs a ccd cl outer A₀ base h₀ L m s Q E B F X N T hk hdp hun ret
  refine wpAny_call ?_
  k_dflt ktr_enter
  k_steps
  exact ret _ _ _ _ ⟨_, rfl, rfl⟩ (by assumption) (by assumption)
set_option maxHeartbeats 4000000 in
theorem run_3a (c : Nat) : RunC w p loose mean mg mb (c :: c :: c :: []) c 3 := by
  unfold RunC Cl; k_fill
  intro news t1 t2 t3 dp un gd cn cs a ccd cl outer A₀ base h₀ L m s Q E B F X N T hk hdp hun ret
  refine wpAny_call ?_
  k_dflt ktr_enter
  k_steps
  exact ret _ _ _ _ ⟨_, rfl, rfl⟩ (by assumption) (by assumption)
set_option maxHeartbeats 4000000 in
theorem run_3b (c d : Nat) (r : List Nat) (hd : d ≠ c) (hr : r.length ≤ 1000) : RunC w p loose mean mg mb (c :: c :: c :: d :: r) c 3 := by
  unfold RunC Cl; k_fill
  intro news t1 t2 t3 dp un gd cn cs a ccd cl outer A₀ base h₀ L m s Q E B F X N T hk hdp hun ret
  refine wpAny_call ?_
  k_dflt ktr_enter
  k_steps
  exact ret _ _ _ _ ⟨_, rfl, rfl⟩ (by assumption) (by assumption)
end
end
section
open PySem PySem.Spec PySem.Calls PySem.W PyProof.Rows
set_option maxRecDepth 100000
/-- the place within `tried`: its frame, what lies below, its text -/
structure TE (w : World) (p : Program) (loose : List Str) (mean : ExcName → Option Value) (mg mb : Str → Option Value) where
  dp : Nat
  un : Nat
  gd : Option (List Code)
  outer : List Env
  A₀ : Around
  base : Heap
  g : Heap
  L' : Addr
  E : Value → Shared → Prop
  Q : Flow → Shared → Prop
  fn : Str
  fa : Arguments
  fb : List Stmt
  fd : List PySem.Expr
  fr : Option PySem.Expr
  ft : List TypeParam
  sc : Scope
  fts : Option Scope
  fbd : Str
  fps : Pos
  test : PySem.Expr
  body : List Stmt
  orl : List Stmt
  pos : Pos
  hf : nthS 45 PB = .FunctionDef fn fa fb fd fr ft sc fts fbd fps
  hw : nthS 3 (whBody (nthS 1 fb)) = .While test body orl pos
  hE : PassesOwn (model PG w) (ktrTop dp un gd (.ofString "tried") sc L' 334 (.ref 333) [] outer) (envX (.ofString "tried") sc L' 334 (.ref 333) []) E
  B : Below A₀ base outer g
  X : (K w.params).In g
  T : Top p loose mean mg mb g
  hdp : dp + 10 < recursionLimit
  hun : un + 8 * 10 < cLine
/-- the host of one match -/
structure Host where
  hx : Addr
  hd : Addr
  hv : Addr
  rl : Addr
  lg : Addr
  v0 : Tok
  v1 : Tok
  v2 : Tok
  v3 : Tok
  v4 : Tok
  v5 : Tok
  v6 : Tok
  v8 : Tok
abbrev Host.D (w : World) (H : Host) (n : Int) (v7 : Tok) : Obj := HD w H.hv H.rl H.lg n H.v0 H.v1 H.v2 H.v3 H.v4 H.v5 H.v6 v7 H.v8
section
variable {w : World} {p : Program} {loose : List Str} {mean : ExcName → Option Value} {mg mb : Str → Option Value}
def TE.Rest (c : TE w p loose mean mg mb) (k : Nat) (s : Shared) : Prop :=
  WhlRest PG w (ktrTop c.dp c.un c.gd (.ofString "tried") c.sc c.L' 334 (.ref 333) [] c.outer) c.E (envX (.ofString "tried") c.sc c.L' 334 (.ref 333) []) c.test c.body c.orl c.Q k s
/-- the state at the loop's head -/
def TE.At (c : TE w p loose mean mg mb) (H : Host) (l : List Nat) (ts : Tok) (pl : Addr) (n : Int) (rest : Led) (ch : Value) (i : Int) (nm : Addr) (h : Heap) : Prop :=
  ∃ m v7 ti, Fr c.g c.L' h m ∧ News c.g c.L' h ((H.hd, H.D w n v7) :: rest) ∧ m (.ofString "chain") = some ch ∧ m (.ofString "at") = some (.int i ti) ∧ m (.ofString "named") = some (.ref nm) ∧ m (.ofString "subject") = some (.str (St l) ts) ∧ m (.ofString "pile") = some (.ref pl) ∧ m (.ofString "host") = some (.ref H.hx)
theorem TE.turn (c : TE w p loose mean mg mb) {H : Host} {l : List Nat} {ts : Tok} {pl : Addr} {n : Int} {rest : Led} {ch : Addr} {i : Int} {nm : Addr} {s : Shared} {k : Nat} (hn : 0 ≤ n) (hn' : n < 5000)
    (P : Led → Value → Int → Addr → Prop) (A : c.At H l ts pl n rest (.ref ch) i nm s.heap) (hh : (H.hx, instObj 407 H.hd) ∈ rest) (hne : ∀ q ∈ rest, q.1 ≠ H.hd)
    (adv : ∀ te ti, Cl w p loose mean mg mb 10 341 [.ref ch, .int i ti, .ref nm, .str (St l) ts, .ref pl, .ref H.hx] ((H.hd, H.D w (n + 1) te) :: rest)
      (WayP fun l' c' i' _ nm' => ∃ rest', (∀ q ∈ (H.hd, H.D w (n + 1) te) :: rest', q ∈ l') ∧ P rest' c' i' nm'))
    (next : ∀ rest' c' i' nm' h' tk', P rest' c' i' nm' → c.At H l ts pl (n + 1) rest' c' i' nm' h' → c.Rest k { s with heap := h', toks := tk' }) : c.Rest (k + 1) s := by
  obtain ⟨m, v7, ti, F, N, m1, m2, m3, m4, m5, m6⟩ := A
  refine Mine.turn c.hf c.hw hn hn' hh hne c.hE c.B F c.X N c.T c.hdp c.hun m1 m2 m3 m4 m5 m6 (P := fun te l' c' i' _ nm' => ∃ rest', (∀ q ∈ (H.hd, H.D w (n + 1) te) :: rest', q ∈ l') ∧ P rest' c' i' nm') (fun te => adv te ti) ?_
  intro te c' i' ti' nm' l' h' tk' m' hP e1 e2 e3 e4 e5 e6 F' N'
  obtain ⟨rest', hs, hP'⟩ := hP
  exact next rest' c' i' nm' h' tk' hP' ⟨m', te, ti', F', cb_drop N' hs, e1, e2, e3, e4, e5, e6⟩
theorem mem_head {x : Addr × Obj} {l : Led} : x ∈ x :: l := .head _
theorem mem_skip {x y : Addr × Obj} {l : Led} (h : x ∈ l) : x ∈ y :: l := .tail _ h
section
variable (c : TE w p loose mean mg mb) {H : Host} {l : List Nat} {ts : Tok} {pl : Addr} {n : Int} {rest : Led} {ch : Addr} {i : Int} {nm : Addr} {s : Shared} {k : Nat} {here : Addr} {u : Tok} {r : Value}
theorem TE.cat {n1 n2 : Addr} (hn : 0 ≤ n) (hn' : n < 5000) (A : c.At H l ts pl n rest (.ref ch) i nm s.heap) (hh : (H.hx, instObj 407 H.hd) ∈ rest) (hne : ∀ q ∈ rest, q.1 ≠ H.hd)
    (h1 : (ch, tup [.ref here, r]) ∈ rest) (h2 : (here, tup [.str (.ofString "cat") u, .ref n1, .ref n2]) ∈ rest)
    (next : ∀ p1 c1 h' tk', AllLt p1 rest → Ord [H.hd, p1, c1] → c.At H l ts pl (n + 1) ((c1, tup [.ref n1, .ref p1]) :: (p1, tup [.ref n2, r]) :: rest) (.ref c1) i nm h' → c.Rest k { s with heap := h', toks := tk' }) : c.Rest (k + 1) s := by
  refine c.turn hn hn' (fun rest' c' i' nm' => ∃ p1 c1, rest' = (c1, tup [.ref n1, .ref p1]) :: (p1, tup [.ref n2, r]) :: rest ∧ c' = .ref c1 ∧ i' = i ∧ nm' = nm ∧ AllLt p1 rest ∧ Ord [H.hd, p1, c1]) A hh hne (fun te ti => ?_) ?_
  · refine ((ct_cat _ ch here n1 n2 u r i ti nm (St l) ts pl H.hx (mem_skip h1) (mem_skip h2)).mono ?_).deep (by omega)
    rintro v l' ⟨p1, c1, w1, rfl, rfl, l1, l2⟩
    simp only [Ord, and_true] at l2
    refine ⟨w1, .ref c1, i, ti, nm, rfl, mem_head, (c1, tup [.ref n1, .ref p1]) :: (p1, tup [.ref n2, r]) :: rest, ?_, p1, c1, rfl, rfl, rfl, rfl, l1.2, ?_⟩
    · exact in_cons (mem_skip (mem_skip (mem_skip mem_head))) (in_cons (mem_skip mem_head) (in_cons (mem_skip (mem_skip mem_head)) (in_skip (in_skip (in_skip (in_skip in_refl))))))
    · simp only [Ord, and_true]; exact ⟨l1.1, l2.1⟩
  · rintro rest' c' i' nm' h' tk' ⟨p1, c1, rfl, rfl, rfl, rfl, l1, l2⟩ A'
    exact next p1 c1 h' tk' l1 l2 A'
theorem TE.now {n1 ix : Addr} (hn : 0 ≤ n) (hn' : n < 5000) (A : c.At H l ts pl n rest (.ref ch) i nm s.heap) (hh : (H.hx, instObj 407 H.hd) ∈ rest) (hne : ∀ q ∈ rest, q.1 ≠ H.hd)
    (h1 : (ch, tup [.ref here, r]) ∈ rest) (h2 : (here, tup [.str (.ofString "now") u, .ref n1, .ref ix]) ∈ rest)
    (next : ∀ e1 q1 c1 te ti h' tk', AllLt e1 rest → Ord [H.hd, e1, q1, c1] → c.At H l ts pl (n + 1) ((c1, tup [.ref n1, .ref q1]) :: (q1, tup [.ref e1, r]) :: (e1, tup [.str (.ofString "end now") te, .ref ix, .int i ti]) :: rest) (.ref c1) i nm h' → c.Rest k { s with heap := h', toks := tk' }) : c.Rest (k + 1) s := by
  refine c.turn hn hn' (fun rest' c' i' nm' => ∃ e1 q1 c1 te ti, rest' = (c1, tup [.ref n1, .ref q1]) :: (q1, tup [.ref e1, r]) :: (e1, tup [.str (.ofString "end now") te, .ref ix, .int i ti]) :: rest ∧ c' = .ref c1 ∧ i' = i ∧ nm' = nm ∧ AllLt e1 rest ∧ Ord [H.hd, e1, q1, c1]) A hh hne (fun te ti => ?_) ?_
  · refine ((ct_now _ ch here n1 ix u r i ti nm (St l) ts pl H.hx (mem_skip h1) (mem_skip h2)).mono ?_).deep (by omega)
    rintro v l' ⟨e1, q1, c1, w1, te2, rfl, rfl, l1, l2⟩
    simp only [Ord, and_true] at l2
    refine ⟨w1, .ref c1, i, ti, nm, rfl, mem_head, (c1, tup [.ref n1, .ref q1]) :: (q1, tup [.ref e1, r]) :: (e1, tup [.str (.ofString "end now") te2, .ref ix, .int i ti]) :: rest, ?_, e1, q1, c1, te2, ti, rfl, rfl, rfl, rfl, l1.2, ?_⟩
    · exact in_cons (mem_skip (mem_skip (mem_skip (mem_skip mem_head)))) (in_cons (mem_skip mem_head) (in_cons (mem_skip (mem_skip mem_head)) (in_cons (mem_skip (mem_skip (mem_skip mem_head))) (in_skip (in_skip (in_skip (in_skip (in_skip in_refl))))))))
    · simp only [Ord, and_true]; exact ⟨l1.1, l2.1, l2.2.1⟩
  · rintro rest' c' i' nm' h' tk' ⟨e1, q1, c1, te, ti, rfl, rfl, rfl, rfl, l1, l2⟩ A'
    exact next e1 q1 c1 te ti h' tk' l1 l2 A'
theorem TE.alt {n1 n2 : Addr} {rest0 : Led} {np : Nat} (hn : 0 ≤ n) (hn' : n < 5000) (A : c.At H l ts pl n ((pl, listOf #[] np) :: rest0) (.ref ch) i nm s.heap) (hh : (H.hx, instObj 407 H.hd) ∈ rest0) (hpd : (pl : Nat) ≠ H.hd) (hne : ∀ q ∈ rest0, q.1 ≠ H.hd) (hnp : ∀ q ∈ rest0, q.1 ≠ pl)
    (h1 : (ch, tup [.ref here, r]) ∈ rest0) (h2 : (here, tup [.str (.ofString "alt") u, .ref n1, .ref n2]) ∈ rest0)
    (next : ∀ b1 bw c1 ti h' tk', AllLt b1 rest0 → Ord [H.hd, b1, bw, c1] → Ord [pl, b1] → c.At H l ts pl (n + 1) ((c1, tup [.ref n1, r]) :: (pl, listOf #[.ref bw] (np + 1)) :: (bw, tup [.ref b1, .int i ti, .ref nm]) :: (b1, tup [.ref n2, r]) :: rest0) (.ref c1) i nm h' → c.Rest k { s with heap := h', toks := tk' }) : c.Rest (k + 1) s := by
  refine c.turn hn hn' (fun rest' c' i' nm' => ∃ b1 bw c1 ti, rest' = (c1, tup [.ref n1, r]) :: (pl, listOf #[.ref bw] (np + 1)) :: (bw, tup [.ref b1, .int i ti, .ref nm]) :: (b1, tup [.ref n2, r]) :: rest0 ∧ c' = .ref c1 ∧ i' = i ∧ nm' = nm ∧ AllLt b1 rest0 ∧ Ord [H.hd, b1, bw, c1] ∧ Ord [pl, b1]) A (mem_skip hh) (ne_cons hpd hne) (fun te ti => ?_) ?_
  · refine (((ct_alt ((H.hd, H.D w (n + 1) te) :: rest0) ch here n1 n2 u r i ti nm (St l) ts pl H.hx np (mem_skip h1) (mem_skip h2) (ne_cons (Ne.symm hpd) hnp)).mono ?_).deep (by omega)).sub (in_cons (mem_skip mem_head) (in_cons mem_head (in_skip (in_skip in_refl))))
    rintro v l' ⟨b1, bw, c1, w1, rfl, rfl, l1, l2⟩
    simp only [Ord, and_true] at l2
    refine ⟨w1, .ref c1, i, ti, nm, rfl, mem_head, (c1, tup [.ref n1, r]) :: (pl, listOf #[.ref bw] (np + 1)) :: (bw, tup [.ref b1, .int i ti, .ref nm]) :: (b1, tup [.ref n2, r]) :: rest0, ?_, b1, bw, c1, ti, rfl, rfl, rfl, rfl, l1.2, ?_, ?_⟩
    · exact in_cons (mem_skip (mem_skip (mem_skip (mem_skip (mem_skip mem_head))))) (in_cons (mem_skip mem_head) (in_cons (mem_skip (mem_skip mem_head)) (in_cons (mem_skip (mem_skip (mem_skip mem_head))) (in_cons (mem_skip (mem_skip (mem_skip (mem_skip mem_head)))) (in_skip (in_skip (in_skip (in_skip (in_skip (in_skip in_refl))))))))))
    · simp only [Ord, and_true]; exact ⟨l1.1, l2.2.1, l2.2.2.1⟩
    · simp only [Ord, and_true]; exact l2.1
  · rintro rest' c' i' nm' h' tk' ⟨b1, bw, c1, ti, rfl, rfl, rfl, rfl, l1, l2, l3⟩ A'
    exact next b1 bw c1 ti h' tk' l1 l2 l3 A'
/-- a kind that makes nothing but the way itself -/
theorem TE.plain {i' : Int} (hn : 0 ≤ n) (hn' : n < 5000) (A : c.At H l ts pl n rest (.ref ch) i nm s.heap) (hh : (H.hx, instObj 407 H.hd) ∈ rest) (hne : ∀ q ∈ rest, q.1 ≠ H.hd)
    (ct : ∀ te ti, Cl w p loose mean mg mb 10 341 [.ref ch, .int i ti, .ref nm, .str (St l) ts, .ref pl, .ref H.hx] ((H.hd, H.D w (n + 1) te) :: rest) (fun v l' => ∃ w1 te2, v = .ref w1 ∧ l' = (w1, tup [r, .int i' te2, .ref nm]) :: (H.hd, H.D w (n + 1) te) :: rest ∧ AllLt w1 ((H.hd, H.D w (n + 1) te) :: rest)))
    (next : ∀ h' tk', c.At H l ts pl (n + 1) rest r i' nm h' → c.Rest k { s with heap := h', toks := tk' }) : c.Rest (k + 1) s := by
  refine c.turn hn hn' (fun rest' c' i2 nm' => rest' = rest ∧ c' = r ∧ i2 = i' ∧ nm' = nm) A hh hne (fun te ti => ?_) ?_
  · refine (ct te ti).mono ?_
    rintro v l' ⟨w1, te2, rfl, rfl, l1⟩
    exact ⟨w1, r, i', te2, nm, rfl, mem_head, rest, in_skip in_refl, rfl, rfl, rfl, rfl⟩
  · rintro rest' c' i2 nm' h' tk' ⟨rfl, rfl, rfl, rfl⟩ A'
    exact next h' tk' A'
theorem TE.endn {e1 ix dx : Addr} {u1 u2 u3 u4 u5 tj : Tok} {key : Str} {j : Int} {y : List Nat} {its : Array Value} {kk : Nat} {o : Obj} {kvs : List (Str × Value)} {D : List (PyData × PyData)} {rest0 : Led}
    (hn : 0 ≤ n) (hn' : n < 5000) (A : c.At H l ts pl n ((H.hv, o) :: (H.lg, listOf its kk) :: rest0) (.ref ch) i nm s.heap) (hh : (H.hx, instObj 407 H.hd) ∈ rest0) (hrl : (H.rl, listOf #[] 0) ∈ rest0) (hne : ∀ q ∈ rest0, q.1 ≠ H.hd) (hnv : ∀ q ∈ rest0, q.1 ≠ H.hv) (hng : ∀ q ∈ rest0, q.1 ≠ H.lg) (hord : Ord [H.hv, H.hd, H.lg])
    (hl' : l.length ≤ 1000) (hits : its.size ≤ sizeLine) (hsl : Txt.slice (St l) (some j) (some i) = St y) (lo : (H.hv == sysModules) = false) (hkv : o.IsDictOf (_root_.PySem.strKind PG w) kvs) (hfl : PyProof.V.FlatPairs PyData.str kvs D) (hD : D.length ≤ sizeLine)
    (h1 : (ch, tup [.ref e1, r]) ∈ rest0) (h2 : (e1, tup [.str (.ofString "end now") u, .ref ix, .int j tj]) ∈ rest0) (h3 : (ix, instObj 110 dx) ∈ rest0)
    (h4 : (dx, dictOf [⟨PyData.keyHash w.params (.ofString "kind"), .str (.ofString "kind") u1, .str (.ofString "var") u2⟩, ⟨PyData.keyHash w.params (.ofString "owner"), .str (.ofString "owner") u3, .none⟩, ⟨PyData.keyHash w.params (.ofString "key"), .str (.ofString "key") u4, .str key u5⟩] 3) ∈ rest0)
    (next : ∀ o' lt kvs' h' tk', o'.IsDictOf (_root_.PySem.strKind PG w) kvs' → PyProof.V.FlatPairs PyData.str kvs' (PyProof.V.putD (PyData.str key) (PyData.str (St y)) D) → c.At H l ts pl (n + 1) ((H.hv, o') :: (H.lg, listOf (its.push (.ref lt)) (kk + 1)) :: rest0) r i nm h' → c.Rest k { s with heap := h', toks := tk' }) : c.Rest (k + 1) s := by
  have hord2 := hord
  simp only [Ord, and_true] at hord2
  refine c.turn hn hn' (fun rest' c' i' nm' => ∃ o' lt kvs', o'.IsDictOf (_root_.PySem.strKind PG w) kvs' ∧ PyProof.V.FlatPairs PyData.str kvs' (PyProof.V.putD (PyData.str key) (PyData.str (St y)) D) ∧ rest' = (H.hv, o') :: (H.lg, listOf (its.push (.ref lt)) (kk + 1)) :: rest0 ∧ c' = r ∧ i' = i ∧ nm' = nm) A (mem_skip (mem_skip hh)) (ne_cons (by omega) (ne_cons (by omega) hne)) (fun te ti => ?_) ?_
  · refine (((ct_end ((H.hd, H.D w (n + 1) te) :: rest0) ch e1 ix dx u u1 u2 u3 u4 u5 key r i j ti tj nm l y hl' ts pl H.hx H.hd H.hv H.rl H.lg (n + 1) H.v0 H.v1 H.v2 H.v3 H.v4 H.v5 H.v6 te H.v8 its kk o kvs D hits hsl (mem_skip h1) (mem_skip h2) (mem_skip h3) (mem_skip h4) (mem_skip hh) mem_head (mem_skip hrl) lo hkv hfl hD (ne_cons (by omega) hnv) (ne_cons (by omega) hng) (.inr (by simp only [Ord, and_true]; omega))).mono ?_).deep (by omega)).sub (in_cons (mem_skip mem_head) (in_cons (mem_skip (mem_skip mem_head)) (in_cons mem_head (in_skip (in_skip (in_skip in_refl))))))
    rintro v l' ⟨o', lt, w1, kvs', rfl, rfl, hk', hf', l1, l2, l3⟩
    refine ⟨w1, r, i, ti, nm, rfl, mem_head, (H.hv, o') :: (H.lg, listOf (its.push (.ref lt)) (kk + 1)) :: rest0, ?_, o', lt, kvs', hk', hf', rfl, rfl, rfl, rfl⟩
    exact in_cons (mem_skip (mem_skip (mem_skip mem_head))) (in_cons (mem_skip mem_head) (in_cons (mem_skip (mem_skip mem_head)) (in_skip (in_skip (in_skip (in_skip in_refl))))))
  · rintro rest' c' i' nm' h' tk' ⟨o', lt, kvs', hk', hf', rfl, rfl, rfl, rfl⟩ A'
    exact next o' lt kvs' h' tk' hk' hf' A'
theorem TE.none {P : Prop} (hn : 0 ≤ n) (hn' : n < 5000) (A : c.At H l ts pl n rest (.ref ch) i nm s.heap) (hh : (H.hx, instObj 407 H.hd) ∈ rest) (hne : ∀ q ∈ rest, q.1 ≠ H.hd)
    (ct : ∀ te ti, Cl w p loose mean mg mb 10 341 [.ref ch, .int i ti, .ref nm, .str (St l) ts, .ref pl, .ref H.hx] ((H.hd, H.D w (n + 1) te) :: rest) (fun v l' => v = .none ∧ l' = (H.hd, H.D w (n + 1) te) :: rest))
    (next : ∀ h' tk', c.At H l ts pl (n + 1) rest (.ref ch) i nm h' → c.Q .next { s with heap := h', toks := tk' }) : c.Rest (k + 1) s := by
  obtain ⟨m, v7, ti, F, N, m1, m2, m3, m4, m5, m6⟩ := A
  refine Mine.turnN c.hf c.hw hn hn' hh hne c.hE c.B F c.X N c.T c.hdp c.hun m1 m2 m3 m4 m5 m6 (P := fun te l' => l' = (H.hd, H.D w (n + 1) te) :: rest) (fun te => ct te ti) ?_
  intro te l' h' tk' m' hP e1 e2 e3 e4 e5 e6 F' N'
  subst hP
  exact next h' tk' ⟨m', te, ti, F', N', e1, e2, e3, e4, e5, e6⟩
end
end
end
section
open PySem PySem.Spec PySem.Calls PySem.W PyProof.Rows
set_option maxRecDepth 100000
/-- the pattern's node: its parts' places -/
structure Nd where
  n1 : Addr
  n2 : Addr
  n3 : Addr
  n4 : Addr
  n5 : Addr
  n6 : Addr
  n7 : Addr
  n8 : Addr
  n9 : Addr
  n10 : Addr
  n11 : Addr
  n12 : Addr
  iX : Addr
  dX : Addr
  iY : Addr
  dY : Addr
  iR : Addr
  dR : Addr
  u : Nat → Tok
  ex : Led
abbrev NR (w : World) (key : Str) (u1 u2 u3 u4 u5 : Tok) : Obj := dictOf [⟨PyData.keyHash w.params (.ofString "kind"), .str (.ofString "kind") u1, .str (.ofString "var") u2⟩, ⟨PyData.keyHash w.params (.ofString "owner"), .str (.ofString "owner") u3, .none⟩, ⟨PyData.keyHash w.params (.ofString "key"), .str (.ofString "key") u4, .str key u5⟩] 3
def Nd.led (w : World) (x : Nd) : Led :=
  [(x.n1, tup [.str (.ofString "name") (x.u 0), .str (.ofString "X") (x.u 1)]),
   (x.n2, tup [.str (.ofString "delay") (x.u 2), .ref x.n1]),
   (x.n3, tup [.str (.ofString "span") (x.u 3), .ref x.n2]),
   (x.n4, tup [.str (.ofString "chars") (x.u 4), .str (.ofString "") (x.u 5)]),
   (x.n5, tup [.str (.ofString "alt") (x.u 6), .ref x.n3, .ref x.n4]),
   (x.iY, instObj 110 x.dY), (x.dY, NR w (.ofString "Y") (x.u 7) (x.u 8) (x.u 9) (x.u 10) (x.u 11)),
   (x.n6, tup [.str (.ofString "now") (x.u 12), .ref x.n5, .ref x.iY]),
   (x.n7, tup [.str (.ofString "rem") (x.u 13)]),
   (x.iR, instObj 110 x.dR), (x.dR, NR w (.ofString "R") (x.u 14) (x.u 15) (x.u 16) (x.u 17) (x.u 18)),
   (x.n8, tup [.str (.ofString "now") (x.u 19), .ref x.n7, .ref x.iR]),
   (x.n9, tup [.str (.ofString "cat") (x.u 20), .ref x.n6, .ref x.n8]),
   (x.n10, tup [.str (.ofString "len") (x.u 21), .int 1 (x.u 22)]),
   (x.iX, instObj 110 x.dX), (x.dX, NR w (.ofString "X") (x.u 23) (x.u 24) (x.u 25) (x.u 26) (x.u 27)),
   (x.n11, tup [.str (.ofString "now") (x.u 28), .ref x.n10, .ref x.iX]),
   (x.n12, tup [.str (.ofString "cat") (x.u 29), .ref x.n11, .ref x.n9])] ++ x.ex
section
variable {w : World} {p : Program} {loose : List Str} {mean : ExcName → Option Value} {mg mb : Str → Option Value}
theorem TE.At.sub {c : TE w p loose mean mg mb} {H : Host} {l : List Nat} {ts : Tok} {pl : Addr} {n : Int} {rest rest' : Led} {ch : Value} {i : Int} {nm : Addr} {h : Heap} (A : c.At H l ts pl n rest ch i nm h) (hs : ∀ q ∈ rest', q ∈ rest) : c.At H l ts pl n rest' ch i nm h := by
  obtain ⟨m, v7, ti, F, N, r⟩ := A
  exact ⟨m, v7, ti, F, cb_drop N (in_cons mem_head (fun q hq => mem_skip (hs q hq))), r⟩
theorem putD_len (k v : PyData) (D : List (PyData × PyData)) : (PyProof.V.putD k v D).length ≤ D.length + 1 := by
  unfold PyProof.V.putD
  split
  · simp
  · simp
variable (c : TE w p loose mean mg mb) {H : Host} {x : Nd} {l : List Nat} {ts : Tok} {pl c0 e0 : Addr} {s : Shared} {k : Nat} {np : Nat} {o : Obj} {kvs : List (Str × Value)} {cc : Nat} {kk : Int}
set_option maxHeartbeats 4000000 in
theorem TE.runA (hl : 1 ≤ l.length) (hl' : l.length ≤ 1000) (hx0 : Txt.slice (St l) (some 0) (some 1) = St [cc]) (hrun : RunC w p loose mean mg mb l cc kk)
    (lo : (H.hv == sysModules) = false) (hkv : o.IsDictOf (_root_.PySem.strKind PG w) kvs) (hfl : PyProof.V.FlatPairs PyData.str kvs [])
    (hnl : AllLt H.hv (x.led w)) (hord : Ord [H.hv, H.rl, H.hd, H.hx, H.lg, c0, e0, pl])
    (A : c.At H l ts pl 0 ((H.hv, o) :: (H.lg, listOf #[] 0) :: (pl, listOf #[] np) :: (H.hx, instObj 407 H.hd) :: (H.rl, listOf #[] 0) :: (c0, tup [.ref x.n12, .none]) :: (e0, tup []) :: x.led w) (.ref c0) 0 e0 s.heap)
    (finS : 1 < kk → ∀ o' kvs' lt e2 p2 q2 te ti h' tk', o'.IsDictOf (_root_.PySem.strKind PG w) kvs' → PyProof.V.FlatPairs PyData.str kvs' [(PyData.str (.ofString "X"), PyData.str (St [cc]))] → Ord [H.lg, e0, p2, e2, q2] →
      c.At H l ts pl 8 ((H.hv, o') :: (H.lg, listOf #[.ref lt] 1) :: (q2, tup [.ref e2, .ref p2]) :: (e2, tup [.str (.ofString "end now") te, .ref x.iY, .int 1 ti]) :: (p2, tup [.ref x.n8, .none]) :: (H.hx, instObj 407 H.hd) :: (H.rl, listOf #[] 0) :: (e0, tup []) :: x.led w) (.ref q2) kk e0 h' → c.Rest k { s with heap := h', toks := tk' })
    (finN : ¬ 1 < kk → ∀ o' kvs' lt e2 p2 q2 b1 bw c7 te ti ti2 h' tk', o'.IsDictOf (_root_.PySem.strKind PG w) kvs' → PyProof.V.FlatPairs PyData.str kvs' [(PyData.str (.ofString "X"), PyData.str (St [cc]))] → Ord [H.lg, e0, p2, e2, q2, b1, bw] → Ord [e0, pl, p2] →
      c.At H l ts pl 8 ((pl, listOf #[.ref bw] (np + 1)) :: (bw, tup [.ref b1, .int 1 ti2, .ref e0]) :: (b1, tup [.ref x.n4, .ref q2]) :: (H.hv, o') :: (H.lg, listOf #[.ref lt] 1) :: (q2, tup [.ref e2, .ref p2]) :: (e2, tup [.str (.ofString "end now") te, .ref x.iY, .int 1 ti]) :: (p2, tup [.ref x.n8, .none]) :: (H.hx, instObj 407 H.hd) :: (H.rl, listOf #[] 0) :: (e0, tup []) :: x.led w) (.ref c7) 1 e0 h' → c.Q .next { s with heap := h', toks := tk' }) :
    c.Rest (k + 8) s := by
  have hord' := hord
  simp only [Ord, and_true] at hord'
  -- cat
  refine c.cat (here := x.n12) (n1 := x.n11) (n2 := x.n9) (u := x.u 29) (r := .none) (by omega) (by omega) A (by k_mem) (by repeat (first | exact allLt_ne hnl (by omega) | refine ne_cons (by omega) ?_)) (by k_mem) (by simp only [Nd.led]; k_mem) ?_
  intro p1 c1 h1 tk1 a1 b1 A1
  simp only [AllLt] at a1
  simp only [Ord, and_true] at b1
  have A1 := A1.sub (rest' := (c1, tup [.ref x.n11, .ref p1]) :: (p1, tup [.ref x.n9, .none]) :: (H.hv, o) :: (H.lg, listOf #[] 0) :: (pl, listOf #[] np) :: (H.hx, instObj 407 H.hd) :: (H.rl, listOf #[] 0) :: (e0, tup []) :: x.led w) (by (repeat refine in_cons (by k_mem) ?_); repeat (first | exact in_refl | refine in_skip ?_))
  -- now X
  refine c.now (here := x.n11) (n1 := x.n10) (ix := x.iX) (u := x.u 28) (r := .ref p1) (by omega) (by omega) A1 (by k_mem) (by repeat (first | exact allLt_ne hnl (by omega) | refine ne_cons (by omega) ?_)) (by k_mem) (by simp only [Nd.led]; k_mem) ?_
  intro e1 q1 c2 te1 ti1 h2 tk2 a2 b2 A2
  simp only [AllLt] at a2
  simp only [Ord, and_true] at b2
  have A2 := A2.sub (rest' := (c2, tup [.ref x.n10, .ref q1]) :: (q1, tup [.ref e1, .ref p1]) :: (e1, tup [.str (.ofString "end now") te1, .ref x.iX, .int 0 ti1]) :: (p1, tup [.ref x.n9, .none]) :: (H.hv, o) :: (H.lg, listOf #[] 0) :: (pl, listOf #[] np) :: (H.hx, instObj 407 H.hd) :: (H.rl, listOf #[] 0) :: (e0, tup []) :: x.led w) (by (repeat refine in_cons (by k_mem) ?_); repeat (first | exact in_refl | refine in_skip ?_))
  -- len
  refine c.plain (r := .ref q1) (i' := 1) (by omega) (by omega) A2 (by k_mem) (by repeat (first | exact allLt_ne hnl (by omega) | refine ne_cons (by omega) ?_)) (fun te ti => ct_len _ c2 x.n10 (x.u 21) (x.u 22) (.ref q1) ti e0 l hl hl' ts pl H.hx (by k_mem) (by simp only [Nd.led]; k_mem)) ?_
  intro h3 tk3 A3
  have A3 := A3.sub (rest' := (H.hv, o) :: (H.lg, listOf #[] 0) :: (q1, tup [.ref e1, .ref p1]) :: (e1, tup [.str (.ofString "end now") te1, .ref x.iX, .int 0 ti1]) :: (p1, tup [.ref x.n9, .none]) :: (pl, listOf #[] np) :: (H.hx, instObj 407 H.hd) :: (H.rl, listOf #[] 0) :: (e0, tup []) :: x.led w) (by (repeat refine in_cons (by k_mem) ?_); repeat (first | exact in_refl | refine in_skip ?_))
  -- end X
  refine c.endn (e1 := e1) (ix := x.iX) (dx := x.dX) (r := .ref p1) (key := .ofString "X") (j := 0) (y := [cc]) (its := #[]) (kk := 0) (D := []) (by omega) (by omega) A3 (by k_mem) (by k_mem) (by repeat (first | exact allLt_ne hnl (by omega) | refine ne_cons (by omega) ?_)) (by repeat (first | exact allLt_ne hnl (by omega) | refine ne_cons (by omega) ?_)) (by repeat (first | exact allLt_ne hnl (by omega) | refine ne_cons (by omega) ?_)) (by simp only [Ord, and_true]; omega) hl' (by decide) hx0 lo hkv hfl (by decide) (by k_mem) (by k_mem) (by simp only [Nd.led]; k_mem) (by simp only [Nd.led]; k_mem) ?_
  intro o1 lt1 kv1 h4 tk4 hk1 hf1 A4
  have A4 := A4.sub (rest' := (p1, tup [.ref x.n9, .none]) :: (H.hv, o1) :: (H.lg, listOf #[.ref lt1] 1) :: (pl, listOf #[] np) :: (H.hx, instObj 407 H.hd) :: (H.rl, listOf #[] 0) :: (e0, tup []) :: x.led w) (by (repeat refine in_cons (by k_mem) ?_); repeat (first | exact in_refl | refine in_skip ?_))
  -- cat
  refine c.cat (here := x.n9) (n1 := x.n6) (n2 := x.n8) (u := x.u 20) (r := .none) (by omega) (by omega) A4 (by k_mem) (by repeat (first | exact allLt_ne hnl (by omega) | refine ne_cons (by omega) ?_)) (by k_mem) (by simp only [Nd.led]; k_mem) ?_
  intro p2 c5 h5 tk5 a5 b5 A5
  simp only [AllLt] at a5
  simp only [Ord, and_true] at b5
  have A5 := A5.sub (rest' := (c5, tup [.ref x.n6, .ref p2]) :: (p2, tup [.ref x.n8, .none]) :: (H.hv, o1) :: (H.lg, listOf #[.ref lt1] 1) :: (pl, listOf #[] np) :: (H.hx, instObj 407 H.hd) :: (H.rl, listOf #[] 0) :: (e0, tup []) :: x.led w) (by (repeat refine in_cons (by k_mem) ?_); repeat (first | exact in_refl | refine in_skip ?_))
  -- now Y
  refine c.now (here := x.n6) (n1 := x.n5) (ix := x.iY) (u := x.u 12) (r := .ref p2) (by omega) (by omega) A5 (by k_mem) (by repeat (first | exact allLt_ne hnl (by omega) | refine ne_cons (by omega) ?_)) (by k_mem) (by simp only [Nd.led]; k_mem) ?_
  intro e2 q2 c6 te2 ti2 h6 tk6 a6 b6 A6
  simp only [AllLt] at a6
  simp only [Ord, and_true] at b6
  have A6 := A6.sub (rest' := (pl, listOf #[] np) :: (c6, tup [.ref x.n5, .ref q2]) :: (q2, tup [.ref e2, .ref p2]) :: (e2, tup [.str (.ofString "end now") te2, .ref x.iY, .int 1 ti2]) :: (p2, tup [.ref x.n8, .none]) :: (H.hv, o1) :: (H.lg, listOf #[.ref lt1] 1) :: (H.hx, instObj 407 H.hd) :: (H.rl, listOf #[] 0) :: (e0, tup []) :: x.led w) (by (repeat refine in_cons (by k_mem) ?_); repeat (first | exact in_refl | refine in_skip ?_))
  -- alt
  refine c.alt (here := x.n5) (n1 := x.n3) (n2 := x.n4) (u := x.u 6) (r := .ref q2) (by omega) (by omega) A6 (by k_mem) (neN (by omega)) (by repeat (first | exact allLt_ne hnl (by omega) | refine ne_cons (by omega) ?_)) (by repeat (first | exact allLt_ne hnl (by omega) | refine ne_cons (by omega) ?_)) (by k_mem) (by simp only [Nd.led]; k_mem) ?_
  intro b1' bw c7 ti3 h7 tk7 a7 b7 b7' A7
  simp only [AllLt] at a7
  simp only [Ord, and_true] at b7 b7'
  have A7 := A7.sub (rest' := (c7, tup [.ref x.n3, .ref q2]) :: (pl, listOf #[.ref bw] (np + 1)) :: (bw, tup [.ref b1', .int 1 ti3, .ref e0]) :: (b1', tup [.ref x.n4, .ref q2]) :: (H.hv, o1) :: (H.lg, listOf #[.ref lt1] 1) :: (q2, tup [.ref e2, .ref p2]) :: (e2, tup [.str (.ofString "end now") te2, .ref x.iY, .int 1 ti2]) :: (p2, tup [.ref x.n8, .none]) :: (H.hx, instObj 407 H.hd) :: (H.rl, listOf #[] 0) :: (e0, tup []) :: x.led w) (by (repeat refine in_cons (by k_mem) ?_); repeat (first | exact in_refl | refine in_skip ?_))
  -- span
  have ct := fun (te ti : Tok) => ct_span ((H.hd, H.D w (0 + 1 + 1 + 1 + 1 + 1 + 1 + 1 + 1) te) :: (c7, tup [.ref x.n3, .ref q2]) :: (pl, listOf #[.ref bw] (np + 1)) :: (bw, tup [.ref b1', .int 1 ti3, .ref e0]) :: (b1', tup [.ref x.n4, .ref q2]) :: (H.hv, o1) :: (H.lg, listOf #[.ref lt1] 1) :: (q2, tup [.ref e2, .ref p2]) :: (e2, tup [.str (.ofString "end now") te2, .ref x.iY, .int 1 ti2]) :: (p2, tup [.ref x.n8, .none]) :: (H.hx, instObj 407 H.hd) :: (H.rl, listOf #[] 0) :: (e0, tup []) :: x.led w)
    c7 x.n3 x.n2 x.n1 (x.u 3) (x.u 2) (x.u 0) (x.u 1) (.ref q2) ti e0 l cc kk hrun hl' ts pl H.hx H.hd H.hv H.rl H.lg (0 + 1 + 1 + 1 + 1 + 1 + 1 + 1 + 1) H.v0 H.v1 H.v2 H.v3 H.v4 H.v5 H.v6 te H.v8 o1 kv1 lo hk1 hf1 (by k_mem) (by simp only [Nd.led]; k_mem) (by simp only [Nd.led]; k_mem) (by simp only [Nd.led]; k_mem) (by k_mem) (by k_mem) (by k_mem)
  by_cases hk : 1 < kk
  · refine c.plain (r := .ref q2) (i' := kk) (by omega) (by omega) A7 (by k_mem) (by repeat (first | exact allLt_ne hnl (by omega) | refine ne_cons (by omega) ?_)) (fun te ti => (ct te ti).mono ?_) ?_
    · rintro v l' (⟨z, _⟩ | ⟨_, z⟩)
      · exact absurd hk z
      · exact z
    · intro h8 tk8 A8
      have A8 := A8.sub (rest' := (H.hv, o1) :: (H.lg, listOf #[.ref lt1] 1) :: (q2, tup [.ref e2, .ref p2]) :: (e2, tup [.str (.ofString "end now") te2, .ref x.iY, .int 1 ti2]) :: (p2, tup [.ref x.n8, .none]) :: (H.hx, instObj 407 H.hd) :: (H.rl, listOf #[] 0) :: (e0, tup []) :: x.led w) (by (repeat refine in_cons (by k_mem) ?_); repeat (first | exact in_refl | refine in_skip ?_))
      exact finS hk o1 kv1 lt1 e2 p2 q2 te2 ti2 h8 tk8 hk1 hf1 (by simp only [Ord, and_true]; omega) A8
  · refine c.none (P := True) (by omega) (by omega) A7 (by k_mem) (by repeat (first | exact allLt_ne hnl (by omega) | refine ne_cons (by omega) ?_)) (fun te ti => (ct te ti).mono ?_) ?_
    · rintro v l' (⟨_, z1, z2⟩ | ⟨z, _⟩)
      · exact ⟨z1, z2⟩
      · exact absurd z hk
    · intro h8 tk8 A8
      have A8 := A8.sub (rest' := (pl, listOf #[.ref bw] (np + 1)) :: (bw, tup [.ref b1', .int 1 ti3, .ref e0]) :: (b1', tup [.ref x.n4, .ref q2]) :: (H.hv, o1) :: (H.lg, listOf #[.ref lt1] 1) :: (q2, tup [.ref e2, .ref p2]) :: (e2, tup [.str (.ofString "end now") te2, .ref x.iY, .int 1 ti2]) :: (p2, tup [.ref x.n8, .none]) :: (H.hx, instObj 407 H.hd) :: (H.rl, listOf #[] 0) :: (e0, tup []) :: x.led w) (by (repeat refine in_cons (by k_mem) ?_); repeat (first | exact in_refl | refine in_skip ?_))
      exact finN hk o1 kv1 lt1 e2 p2 q2 b1' bw c7 te2 ti2 ti3 h8 tk8 hk1 hf1 (by simp only [Ord, and_true]; omega) (by simp only [Ord, and_true]; omega) A8
set_option maxHeartbeats 4000000 in
theorem TE.runB {n : Int} {y z : List Nat} {lt p2 e2 q2 : Addr} {te ti : Tok} (hn : 0 ≤ n) (hn' : n < 1000) (hl : 1 ≤ l.length) (hl' : l.length ≤ 1000) (hs2 : Txt.slice (St l) (some 1) (some kk) = St y) (hs3 : Txt.slice (St l) (some kk) (some l.length) = St z)
    (lo : (H.hv == sysModules) = false) (hkv : o.IsDictOf (_root_.PySem.strKind PG w) kvs) (hfl : PyProof.V.FlatPairs PyData.str kvs [(PyData.str (.ofString "X"), PyData.str (St [cc]))])
    (hnl : AllLt H.hv (x.led w)) (hord : Ord [H.hv, H.rl, H.hd, H.hx, H.lg, e0, p2, e2, q2])
    (A : c.At H l ts pl n ((H.hv, o) :: (H.lg, listOf #[.ref lt] 1) :: (q2, tup [.ref e2, .ref p2]) :: (e2, tup [.str (.ofString "end now") te, .ref x.iY, .int 1 ti]) :: (p2, tup [.ref x.n8, .none]) :: (H.hx, instObj 407 H.hd) :: (H.rl, listOf #[] 0) :: (e0, tup []) :: x.led w) (.ref q2) kk e0 s.heap)
    (fin : ∀ o' kvs' lt2 lt3 h' tk', o'.IsDictOf (_root_.PySem.strKind PG w) kvs' → PyProof.V.FlatPairs PyData.str kvs' (PyProof.V.putD (PyData.str (.ofString "R")) (PyData.str (St z)) (PyProof.V.putD (PyData.str (.ofString "Y")) (PyData.str (St y)) [(PyData.str (.ofString "X"), PyData.str (St [cc]))])) →
      c.At H l ts pl (n + 4) ((H.hv, o') :: (H.lg, listOf #[.ref lt, .ref lt2, .ref lt3] 3) :: (H.hx, instObj 407 H.hd) :: (H.rl, listOf #[] 0) :: (e0, tup []) :: x.led w) .none l.length e0 h' → c.Rest k { s with heap := h', toks := tk' }) :
    c.Rest (k + 4) s := by
  have hord' := hord
  simp only [Ord, and_true] at hord'
  refine c.endn (e1 := e2) (ix := x.iY) (dx := x.dY) (r := .ref p2) (key := .ofString "Y") (j := 1) (y := y) (its := #[.ref lt]) (kk := 1) (D := [(PyData.str (.ofString "X"), PyData.str (St [cc]))]) (by omega) (by omega) A (by k_mem) (by k_mem) (by repeat (first | exact allLt_ne hnl (by omega) | refine ne_cons (by omega) ?_)) (by repeat (first | exact allLt_ne hnl (by omega) | refine ne_cons (by omega) ?_)) (by repeat (first | exact allLt_ne hnl (by omega) | refine ne_cons (by omega) ?_)) (by simp only [Ord, and_true]; omega) hl' (show 1 ≤ sizeLine by decide) hs2 lo hkv hfl (show 1 ≤ sizeLine by decide) (by k_mem) (by k_mem) (by simp only [Nd.led]; k_mem) (by simp only [Nd.led]; k_mem) ?_
  intro o2 lt2 kv2 h1 tk1 hk2 hf2 A1
  have A1 := A1.sub (rest' := (p2, tup [.ref x.n8, .none]) :: (H.hv, o2) :: (H.lg, listOf #[.ref lt, .ref lt2] 2) :: (H.hx, instObj 407 H.hd) :: (H.rl, listOf #[] 0) :: (e0, tup []) :: x.led w) (by (repeat refine in_cons (by k_mem) ?_); repeat (first | exact in_refl | refine in_skip ?_))
  refine c.now (here := x.n8) (n1 := x.n7) (ix := x.iR) (u := x.u 19) (r := .none) (by omega) (by omega) A1 (by k_mem) (by repeat (first | exact allLt_ne hnl (by omega) | refine ne_cons (by omega) ?_)) (by k_mem) (by simp only [Nd.led]; k_mem) ?_
  intro e3 q3 c8 te3 ti3 h2 tk2 a2 b2 A2
  simp only [AllLt] at a2
  simp only [Ord, and_true] at b2
  have A2 := A2.sub (rest' := (c8, tup [.ref x.n7, .ref q3]) :: (q3, tup [.ref e3, .none]) :: (e3, tup [.str (.ofString "end now") te3, .ref x.iR, .int kk ti3]) :: (H.hv, o2) :: (H.lg, listOf #[.ref lt, .ref lt2] 2) :: (H.hx, instObj 407 H.hd) :: (H.rl, listOf #[] 0) :: (e0, tup []) :: x.led w) (by (repeat refine in_cons (by k_mem) ?_); repeat (first | exact in_refl | refine in_skip ?_))
  refine c.plain (r := .ref q3) (i' := l.length) (by omega) (by omega) A2 (by k_mem) (by repeat (first | exact allLt_ne hnl (by omega) | refine ne_cons (by omega) ?_)) (fun te ti => ct_rem _ c8 x.n7 (x.u 13) (.ref q3) kk ti e0 l hl hl' ts pl H.hx (by k_mem) (by simp only [Nd.led]; k_mem)) ?_
  intro h3 tk3 A3
  have A3 := A3.sub (rest' := (H.hv, o2) :: (H.lg, listOf #[.ref lt, .ref lt2] 2) :: (q3, tup [.ref e3, .none]) :: (e3, tup [.str (.ofString "end now") te3, .ref x.iR, .int kk ti3]) :: (H.hx, instObj 407 H.hd) :: (H.rl, listOf #[] 0) :: (e0, tup []) :: x.led w) (by (repeat refine in_cons (by k_mem) ?_); repeat (first | exact in_refl | refine in_skip ?_))
  refine c.endn (e1 := e3) (ix := x.iR) (dx := x.dR) (r := .none) (key := .ofString "R") (j := kk) (y := z) (its := #[.ref lt, .ref lt2]) (kk := 2) (D := PyProof.V.putD (PyData.str (.ofString "Y")) (PyData.str (St y)) [(PyData.str (.ofString "X"), PyData.str (St [cc]))]) (by omega) (by omega) A3 (by k_mem) (by k_mem) (by repeat (first | exact allLt_ne hnl (by omega) | refine ne_cons (by omega) ?_)) (by repeat (first | exact allLt_ne hnl (by omega) | refine ne_cons (by omega) ?_)) (by repeat (first | exact allLt_ne hnl (by omega) | refine ne_cons (by omega) ?_)) (by simp only [Ord, and_true]; omega) hl' (show 2 ≤ sizeLine by decide) hs3 lo hk2 hf2 (Nat.le_trans (putD_len _ _ _) (show 2 ≤ sizeLine by decide)) (by k_mem) (by k_mem) (by simp only [Nd.led]; k_mem) (by simp only [Nd.led]; k_mem) ?_
  intro o3 lt3 kv3 h4 tk4 hk3 hf3 A4
  have A4 := A4.sub (rest' := (H.hv, o3) :: (H.lg, listOf #[.ref lt, .ref lt2, .ref lt3] 3) :: (H.hx, instObj 407 H.hd) :: (H.rl, listOf #[] 0) :: (e0, tup []) :: x.led w) (by (repeat refine in_cons (by k_mem) ?_); repeat (first | exact in_refl | refine in_skip ?_))
  rw [show n + 1 + 1 + 1 + 1 = n + 4 by omega] at A4
  exact fin o3 kv3 lt2 lt3 h4 tk4 hk3 hf3 A4
end
end
section
open PySem PySem.Spec PySem.Calls PySem.W PyProof.Rows
set_option maxRecDepth 100000
section
variable {w : World} {p : Program} {loose : List Str} {mean : ExcName → Option Value} {mg mb : Str → Option Value}
/-- the values' dict when the match is through -/
def Vals (w : World) (o : Obj) (cc : Nat) (y z : List Nat) : Prop := ∃ kvs, o.IsDictOf (_root_.PySem.strKind PG w) kvs ∧ PyProof.V.FlatPairs PyData.str kvs (PyProof.V.putD (PyData.str (.ofString "R")) (PyData.str (St z)) (PyProof.V.putD (PyData.str (.ofString "Y")) (PyData.str (St y)) [(PyData.str (.ofString "X"), PyData.str (St [cc]))]))
variable (c : TE w p loose mean mg mb) {H : Host} {x : Nd} {l : List Nat} {ts : Tok} {pl c0 e0 : Addr} {s : Shared} {k : Nat} {np : Nat} {o : Obj} {kvs : List (Str × Value)} {cc : Nat} {kk : Int} {y z : List Nat}
theorem TE.runAll (hl : 1 ≤ l.length) (hl' : l.length ≤ 1000) (hx0 : Txt.slice (St l) (some 0) (some 1) = St [cc]) (hrun : RunC w p loose mean mg mb l cc kk) (hs2 : Txt.slice (St l) (some 1) (some kk) = St y) (hs3 : Txt.slice (St l) (some kk) (some l.length) = St z)
    (lo : (H.hv == sysModules) = false) (hkv : o.IsDictOf (_root_.PySem.strKind PG w) kvs) (hfl : PyProof.V.FlatPairs PyData.str kvs [])
    (hnl : AllLt H.hv (x.led w)) (hord : Ord [H.hv, H.rl, H.hd, H.hx, H.lg, c0, e0, pl])
    (A : c.At H l ts pl 0 ((H.hv, o) :: (H.lg, listOf #[] 0) :: (pl, listOf #[] np) :: (H.hx, instObj 407 H.hd) :: (H.rl, listOf #[] 0) :: (c0, tup [.ref x.n12, .none]) :: (e0, tup []) :: x.led w) (.ref c0) 0 e0 s.heap)
    (finS : ∀ o' n lg' h' tk', Vals w o' cc y z → 0 ≤ n → n < 5000 → c.At H l ts pl n ((H.hv, o') :: (H.lg, lg') :: (H.hx, instObj 407 H.hd) :: (H.rl, listOf #[] 0) :: (e0, tup []) :: x.led w) .none l.length e0 h' → c.Rest (k + 1) { s with heap := h', toks := tk' })
    (finN : ¬ 1 < kk → ∀ o' kvs' lt e2 p2 q2 b1 bw c7 te ti ti2 h' tk', o'.IsDictOf (_root_.PySem.strKind PG w) kvs' → PyProof.V.FlatPairs PyData.str kvs' [(PyData.str (.ofString "X"), PyData.str (St [cc]))] → Ord [H.lg, e0, p2, e2, q2, b1, bw] → Ord [e0, pl, p2] →
      c.At H l ts pl 8 ((pl, listOf #[.ref bw] (np + 1)) :: (bw, tup [.ref b1, .int 1 ti2, .ref e0]) :: (b1, tup [.ref x.n4, .ref q2]) :: (H.hv, o') :: (H.lg, listOf #[.ref lt] 1) :: (q2, tup [.ref e2, .ref p2]) :: (e2, tup [.str (.ofString "end now") te, .ref x.iY, .int 1 ti]) :: (p2, tup [.ref x.n8, .none]) :: (H.hx, instObj 407 H.hd) :: (H.rl, listOf #[] 0) :: (e0, tup []) :: x.led w) (.ref c7) 1 e0 h' → c.Q .next { s with heap := h', toks := tk' }) :
    c.Rest (k + 1 + 4 + 8) s := by
  have hord' := hord
  simp only [Ord, and_true] at hord'
  refine c.runA hl hl' hx0 hrun lo hkv hfl hnl hord A ?_ finN
  intro _ o1 kv1 lt e2 p2 q2 te ti h1 tk1 hk1 hf1 b1 A1
  simp only [Ord, and_true] at b1
  refine c.runB (by omega) (by omega) hl hl' hs2 hs3 lo hk1 hf1 hnl (by simp only [Ord, and_true]; omega) A1 ?_
  intro o2 kv2 lt2 lt3 h2 tk2 hk2 hf2 A2
  exact finS o2 _ _ h2 tk2 ⟨kv2, hk2, hf2⟩ (by omega) (by omega) A2
theorem TE.runC {lt p2 e2 q2 b1 : Addr} {te ti : Tok} (hl : 1 ≤ l.length) (hl' : l.length ≤ 1000) (hs2 : Txt.slice (St l) (some 1) (some 1) = St y) (hs3 : Txt.slice (St l) (some 1) (some l.length) = St z)
    (lo : (H.hv == sysModules) = false) (hkv : o.IsDictOf (_root_.PySem.strKind PG w) kvs) (hfl : PyProof.V.FlatPairs PyData.str kvs [(PyData.str (.ofString "X"), PyData.str (St [cc]))])
    (hnl : AllLt H.hv (x.led w)) (hord : Ord [H.hv, H.rl, H.hd, H.hx, H.lg, e0, p2, e2, q2, b1])
    (A : c.At H l ts pl 8 ((b1, tup [.ref x.n4, .ref q2]) :: (H.hv, o) :: (H.lg, listOf #[.ref lt] 1) :: (q2, tup [.ref e2, .ref p2]) :: (e2, tup [.str (.ofString "end now") te, .ref x.iY, .int 1 ti]) :: (p2, tup [.ref x.n8, .none]) :: (H.hx, instObj 407 H.hd) :: (H.rl, listOf #[] 0) :: (e0, tup []) :: x.led w) (.ref b1) 1 e0 s.heap)
    (finS : ∀ o' n lg' h' tk', Vals w o' cc y z → 0 ≤ n → n < 5000 → c.At H l ts pl n ((H.hv, o') :: (H.lg, lg') :: (H.hx, instObj 407 H.hd) :: (H.rl, listOf #[] 0) :: (e0, tup []) :: x.led w) .none l.length e0 h' → c.Rest (k + 1) { s with heap := h', toks := tk' }) :
    c.Rest (k + 1 + 4 + 1) s := by
  have hord' := hord
  simp only [Ord, and_true] at hord'
  refine c.plain (r := .ref q2) (i' := 1) (by omega) (by omega) A (by k_mem) (by repeat (first | exact allLt_ne hnl (by omega) | refine ne_cons (by omega) ?_)) (fun te ti => ct_chars _ b1 x.n4 (x.u 4) (x.u 5) (.ref q2) ti e0 l hl hl' ts pl H.hx (by k_mem) (by simp only [Nd.led]; k_mem)) ?_
  intro h1 tk1 A1
  have A1 := A1.sub (rest' := (H.hv, o) :: (H.lg, listOf #[.ref lt] 1) :: (q2, tup [.ref e2, .ref p2]) :: (e2, tup [.str (.ofString "end now") te, .ref x.iY, .int 1 ti]) :: (p2, tup [.ref x.n8, .none]) :: (H.hx, instObj 407 H.hd) :: (H.rl, listOf #[] 0) :: (e0, tup []) :: x.led w) (by (repeat refine in_cons (by k_mem) ?_); repeat (first | exact in_refl | refine in_skip ?_))
  refine c.runB (by omega) (by omega) hl hl' hs2 hs3 lo hkv hfl hnl (by simp only [Ord, and_true]; omega) A1 ?_
  intro o2 kv2 lt2 lt3 h2 tk2 hk2 hf2 A2
  exact finS o2 _ _ h2 tk2 ⟨kv2, hk2, hf2⟩ (by omega) (by omega) A2
end
def Halt (P : Prop) : Prop := P
theorem halt_out {P : Prop} (h : P) : Halt P := h
theorem halt {P : Prop} (h : Halt P) : P := h
end
open PySem PySem.Spec PySem.Calls PySem.W PyProof.Rows
local macro_rules | `(tactic| walk_at "mine 10") => `(tactic| (k_here; k_dflt (refine' nameX_L ?F ?v ?_ ?a ?b; (case F => k_asm); (case a => rfl); (case b => rfl); (case v => first | rfl | assumption); k_whole)))
section
open PySem PySem.Spec PySem.Calls PySem.W PyProof.Rows
set_option maxRecDepth 100000
local macro_rules | `(tactic| walk_at "subscriptTail Name Constant ref int") => `(tactic| walk_at "mine 7")
local macro_rules | `(tactic| walk_at "exec While Compare") => `(tactic| (k_here; (with_reducible show wpAny _ _ (exec (Stmt.While (PySem.Expr.Compare (PySem.Expr.Call _ _ _ _) _ _ _) _ _ _) _) _ _ _); k_dflt (refine whl_start 9 ?_)))
local macro_rules | `(tactic| walk_at "call ref") => `(tactic| walk_at "mine 5")
local macro_rules | `(tactic| walk_at "compareOp Eq ref str") => `(tactic| walk_at "mine 4")
local macro_rules | `(tactic| k_mem) => `(tactic| assumption)
local macro_rules | `(tactic| walk_at "exec While Compare") => `(tactic| (k_here; (with_reducible show wpAny _ _ (exec (Stmt.While (PySem.Expr.Compare (PySem.Expr.Name _ _) _ _ _) _ _ _) _) _ _ _); refine halt ?_))
local macro_rules | `(tactic| walk_at "eval Name") => `(tactic| walk_at "mine 10")
section
variable {w : World} {p : Program} {loose : List Str} {mean : ExcName → Option Value} {mg mb : Str → Option Value}
set_option maxHeartbeats 20000000 in
theorem ct_match (H : Host) (x : Nd) (l : List Nat) (cc : Nat) (kk : Int) (y z : List Nat) (v7 t1 : Tok) (o : Obj) (kvs : List (Str × Value))
    (hl : 1 ≤ l.length) (hl' : l.length ≤ 1000) (hx0 : Txt.slice (St l) (some 0) (some 1) = St [cc]) (hrun : RunC w p loose mean mg mb l cc kk) (hs2 : Txt.slice (St l) (some 1) (some kk) = St y) (hs3 : Txt.slice (St l) (some kk) (some l.length) = St z) (hk1 : ¬ 1 < kk → kk = 1)
    (lo : (H.hv == sysModules) = false) (hkv : o.IsDictOf (_root_.PySem.strKind PG w) kvs) (hfl : PyProof.V.FlatPairs PyData.str kvs [])
    (hnl : AllLt H.hv (x.led w)) (hord : Ord [H.hv, H.rl, H.hd, H.hx, H.lg]) :
    Cl w p loose mean mg mb 16 320 [.ref x.n12, .str (St l) t1, .bool true, .ref H.hx] ((H.hd, H.D w 0 v7) :: (H.hv, o) :: (H.lg, listOf #[] 0) :: (H.hx, instObj 407 H.hd) :: (H.rl, listOf #[] 0) :: x.led w)
      (fun v news' => ∃ rt o' n' v7', v = .ref rt ∧ Vals w o' cc y z ∧ news' = (H.hd, H.D w n' v7') :: (H.hv, o') :: (H.hx, instObj 407 H.hd) :: x.led w) := by
  unfold Cl; k_fill
  intro dp un gd cn cs a ccd cl outer A₀ base h₀ L m s Q E B F X N T hk hdp hun ret
  simp only [Ord, and_true] at hord
  refine wpAny_call ?_
  k_dflt ktr_enter
  k_steps
  refine halt_out ?_
  refine whl_start (0 + 1 + 4 + 8) ?_
  refine' TE.runAll (k := 0) (c := ⟨_, _, _, _, _, _, _, _, _, _, _, _, _, _, _, _, _, _, _, _, _, _, _, _, rfl, rfl, ?zE, ?zB, ?zX, ?zT, ?zd, ?zu⟩) hl hl' hx0 hrun hs2 hs3 lo hkv hfl hnl ?zO ?zA ?zS ?zN
  case zE => passes_own
  case zB => assumption
  case zX => assumption
  case zT => assumption
  case zd => (try simp only [depth_deeper, Around.deeper_units, units_deeper]); (try dsimp only [ktrTop, Around.deeper]); omega
  case zu => (try simp only [depth_deeper, Around.deeper_units, units_deeper]); (try dsimp only [ktrTop, Around.deeper]); omega
  case zA =>
    refine' ⟨_, _, _, ?zF, cb_drop ?zN2 ?zS2, ?z1, ?z2, ?z3, ?z4, ?z5, ?z6⟩
    case zF => assumption
    case z1 => rfl
    case z2 => rfl
    case z3 => rfl
    case z4 => rfl
    case z5 => rfl
    case z6 => rfl
    case zN2 => assumption
    case zS2 => ((repeat refine in_cons (by k_mem) ?_); repeat (first | exact in_refl | refine in_skip ?_))
  case zO => simp only [Ord, and_true]; omega
  case zS =>
    intro o' n lg' h' tk' hV hn0 hn1 A'
    obtain ⟨m', v7', ti', F', N', m1', m2', m3', m4', m5', m6'⟩ := A'
    dsimp only [TE.Rest] at F' N' ⊢
    refine whl_turn (by passes_own) ?_
    k_steps
    refine' ret _ _ _ _ ⟨_, o', _, _, rfl, hV, rfl⟩ (by assumption) (cb_drop (by assumption) ?zS3)
    case zS3 => ((repeat refine in_cons (by k_mem) ?_); repeat (first | exact in_refl | refine in_skip ?_))
  case zN =>
    intro hk2 o' kvs' lt e2 p2 q2 b1 bw c7 te ti ti2 h' tk' hk' hf' hb1 hb2 A'
    obtain ⟨m', v7', ti', F', N', m1', m2', m3', m4', m5', m6'⟩ := A'
    simp only [Ord, and_true] at hb1 hb2
    dsimp only at F' N' ⊢
    obtain rfl := hk1 hk2
    k_steps
    refine halt_out ?_
    refine whl_start (0 + 1 + 4 + 1) ?_
    refine' TE.runC (k := 0) (c := ⟨_, _, _, _, _, _, _, _, _, _, _, _, _, _, _, _, _, _, _, _, _, _, _, _, rfl, rfl, ?zE, ?zB, ?zX, ?zT, ?zd, ?zu⟩) hl hl' hs2 hs3 lo hk' hf' hnl ?zO ?zA ?zS4
    case zE => passes_own
    case zB => assumption
    case zX => assumption
    case zT => assumption
    case zd => (try simp only [depth_deeper, Around.deeper_units, units_deeper]); (try dsimp only [ktrTop, Around.deeper]); omega
    case zu => (try simp only [depth_deeper, Around.deeper_units, units_deeper]); (try dsimp only [ktrTop, Around.deeper]); omega
    case zA =>
      refine' ⟨_, _, _, ?zF, cb_drop ?zN2 ?zS2, ?z1, ?z2, ?z3, ?z4, ?z5, ?z6⟩
      case zF => assumption
      case z1 => rfl
      case z2 => rfl
      case z3 => rfl
      case z4 => first | rfl | assumption
      case z5 => first | rfl | assumption
      case z6 => first | rfl | assumption
      case zN2 => assumption
      case zS2 => ((repeat refine in_cons (by k_mem) ?_); repeat (first | exact in_refl | refine in_skip ?_))
    case zO => simp only [Ord, and_true]; omega
    case zS4 =>
      intro o'' n2 lg' h2' tk2' hV hn0 hn1 A'
      obtain ⟨m', v7', ti', F', N', m1', m2', m3', m4', m5', m6'⟩ := A'
      dsimp only [TE.Rest] at F' N' ⊢
      refine whl_turn (by passes_own) ?_
      k_steps
      refine' ret _ _ _ _ ⟨_, o'', _, _, rfl, hV, rfl⟩ (by assumption) (cb_drop (by assumption) ?zS3)
      case zS3 => ((repeat refine in_cons (by k_mem) ?_); repeat (first | exact in_refl | refine in_skip ?_))
end
end
section
open PySem PySem.Spec PySem.Calls PySem.W PyProof.Rows
set_option maxRecDepth 100000
theorem ofString_empty : Str.ofString "" = St [] := by
  have h : Str.ofString "" = ⟨#[]⟩ := by decide +kernel
  rw [h]; rfl
section
variable {prog : Program} {w : World} {A : Around} {E : Value → Shared → Prop} {s : Shared} {Q : Value → Shared → Prop} {value slice : PySem.Expr} {t u : Tok} {a b l : List Nat}
theorem St_append (a b : List Nat) : St a ++ St b = St (a ++ b) := by
  show Str.append _ _ = _
  simp [Str.append, St]
theorem r_add (ha : a.length ≤ 1000) (hb : b.length ≤ 1000) (h : ∀ t' k, Q (.str (St (a ++ b)) t') { s with toks := k }) : wpAny (model prog w) A (binaryOp .Add (.str (St a) t) (.str (St b) u)) Q E s := by
  refine P.add_str ?_
  have e1 : (St a).length = a.length := St_len a
  have e2 : (St b).length = b.length := St_len b
  have hs : sizeLine = 16777216 := rfl
  cases a with
  | nil =>
    rw [if_pos (by rw [e1]; rfl)]
    exact h u s.toks
  | cons x a' =>
    rw [if_neg (by rw [e1]; simp)]
    cases b with
    | nil =>
      rw [if_pos (by rw [e2]; rfl)]
      have := h t s.toks
      rw [List.append_nil] at this
      exact this
    | cons y b' =>
      rw [if_neg (by rw [e2]; simp), St_append]
      refine ⟨?_, h _ _⟩
      rw [St_len, hs, List.length_append]
      omega
theorem r_ne_empty (v : Bool) (e : (!l.isEmpty) = v) (h : Q (.bool v) s) : wpAny (model prog w) A (compareOp .NotEq (.str (St l) t) (.str (.ofString "") u)) Q E s := by
  refine r_ne v ?_ h
  rw [St_cps, ofString_nil, ← e]
  cases l <;> rfl
theorem ten : Str.ofString "0123456789" = St [48, 49, 50, 51, 52, 53, 54, 55, 56, 57] := by
  have h : Str.ofString "0123456789" = ⟨#[48, 49, 50, 51, 52, 53, 54, 55, 56, 57]⟩ := by decide +kernel
  rw [h]; rfl
theorem r_digit {i : Int} {k : Nat} (hi : i = k) (hk : k ≤ 9) (h : Q (.str (St [48 + k]) s.toks) { s with toks := s.toks + 1 })
    (hs : subscripted slice false (.str (.ofString "0123456789") t) (.int i u) = operate [.str (.ofString "0123456789") t, .int i u] (getItem (.str (.ofString "0123456789") t) (.int i u)) := by with_unfolding_all rfl)
    (ht : ∀ r, letTemporaryGo value (.str (.ofString "0123456789") t) r = pure () := by intro _; with_unfolding_all rfl) :
    wpAny (model prog w) A (subscriptTail value slice (.str (.ofString "0123456789") t) (.int i u)) Q E s := by
  subst hi
  have hl : (Str.ofString "0123456789").length = 10 := by rw [ten, St_len]; rfl
  refine item_str (fitsSsize_of (N := 9223372036854775808) (by omega) (by omega) (Int.le_refl _)) (by rw [hl]; omega) (by rw [hl]; omega) (fun _ => ?_) hs ht
  rw [ten, item_St (c := 48 + k) (by omega) ?_]
  · exact h
  · have : k = 0 ∨ k = 1 ∨ k = 2 ∨ k = 3 ∨ k = 4 ∨ k = 5 ∨ k = 6 ∨ k = 7 ∨ k = 8 ∨ k = 9 := by omega
    rcases this with rfl | rfl | rfl | rfl | rfl | rfl | rfl | rfl | rfl | rfl <;> rfl
end
/-- what a row says: run by run -/
inductive Say : List Nat → List Nat → Prop
  | nil : Say [] []
  | run (k c : Nat) (rest out : List Nat) (h1 : 1 ≤ k) (h3 : k ≤ 3) (hr : rest.head? ≠ some c) (r : Say rest out) : Say (List.replicate k c ++ rest) ((48 + k) :: c :: out)
end
section
open PySem PySem.Spec PySem.Calls PySem.W PyProof.Rows
set_option maxRecDepth 100000
theorem nXY : (Str.ofString "X" = Str.ofString "Y") = False := by rw [eq_iff_iff]; exact ⟨fun h => absurd h (by decide +kernel), False.elim⟩
theorem nXR : (Str.ofString "X" = Str.ofString "R") = False := by rw [eq_iff_iff]; exact ⟨fun h => absurd h (by decide +kernel), False.elim⟩
theorem nYR : (Str.ofString "Y" = Str.ofString "R") = False := by rw [eq_iff_iff]; exact ⟨fun h => absurd h (by decide +kernel), False.elim⟩
theorem lkX (a b c : PyData) : PySem.Spec.lookup (PyData.str (.ofString "X")) [(PyData.str (.ofString "X"), a), (PyData.str (.ofString "Y"), b), (PyData.str (.ofString "R"), c)] = some a := by
  simp [PySem.Spec.lookup, PyProof.V.same_str]
theorem lkY (a b c : PyData) : PySem.Spec.lookup (PyData.str (.ofString "Y")) [(PyData.str (.ofString "X"), a), (PyData.str (.ofString "Y"), b), (PyData.str (.ofString "R"), c)] = some b := by
  simp [PySem.Spec.lookup, PyProof.V.same_str, nXY]
theorem lkR (a b c : PyData) : PySem.Spec.lookup (PyData.str (.ofString "R")) [(PyData.str (.ofString "X"), a), (PyData.str (.ofString "Y"), b), (PyData.str (.ofString "R"), c)] = some c := by
  simp [PySem.Spec.lookup, PyProof.V.same_str, nXR, nYR]
end
open PySem PySem.Spec PySem.Calls PySem.W PyProof.Rows
local macro_rules | `(tactic| walk_at "mine 11") => `(tactic| (k_here; (with_reducible show wpAny _ _ (call (Value.builtin "len") [Value.str (St _) _]) _ _ _); (refine r_len (by omega) ?_); (try dsimp only)))
local macro_rules | `(tactic| walk_at "mine 12") => `(tactic| (k_here; (with_reducible show wpAny _ _ (compareOp _ (Value.str (St _) _) (Value.str (PySem.Str.ofString "") _)) _ _ _); first | refine r_ne_empty true (by assumption) ?_ | refine r_ne_empty false rfl ?_))
section
open PySem PySem.Spec PySem.Calls PySem.W PyProof.Rows
set_option maxRecDepth 100000
local macro_rules | `(tactic| walk_at "subscriptTail Name Constant ref int") => `(tactic| walk_at "mine 7")
local macro_rules | `(tactic| walk_at "call ref") => `(tactic| (k_here; k_dflt (refine' call_cls ?k1 ?k2 ?k3 ?k4 ?k5 ?k6 ?_; (case k1 => k_asm); (case k2 => k_asm); (case k3 => k_asm); (case k4 => k_is); (case k5 => k_is); (case k6 => k_is); k_whole; intro x' d' h' F' N' l1 l2; (try k_lt l1); (try k_lt2 l2); (try k_sweep); (refine' code_def ?k1 ?k2 ?k3 ?k4 ?k5 ?kA ?kF ?kK ?k6 ?k7 ?k8 ?k9 ?kB ?_ ?c2 ?c3 ?c4 ?c5; (case kA => exact rfl); (case kF => exact rfl); (case kK => first | exact rfl | assumption); (case k1 => k_asm); (case k2 => k_asm); (case k3 => k_asm); (case k4 => k_asm); (case k5 => k_asm); (case k6 => k_is); (case k7 => k_is); (case k8 => (simp only [depth_under_make, depth_under_kw, depth_in1, depth_deeper, depth_caller]; (try dsimp only [ktrTop]); omega)); (case k9 => exact BindsTo.of_eq rfl); (case c5 => decide); (case kB => exact locs rfl); (case c2 => exact rfl); (case c3 => exact rfl); (case c4 => exact rfl); k_whole; intro g' L' h' FG' F' N' B' X' T'; (try dsimp only); (try k_fold)))))
local macro_rules | `(tactic| walk_at "call ref") => `(tactic| (k_here; (with_reducible show wpAny _ _ (call (Value.ref 320) _) _ _ _); refine halt ?_))
local macro_rules | `(tactic| k_mem) => `(tactic| assumption)
local macro_rules | `(tactic| walk_at "eval Name") => `(tactic| walk_at "mine 10")
local macro_rules | `(tactic| walk_at "compareOp NotEq str str") => `(tactic| walk_at "mine 12")
local macro_rules | `(tactic| walk_at "call builtin:len") => `(tactic| walk_at "mine 11")
local macro_rules | `(tactic| walk_at "binaryOp Add str str") => `(tactic| (k_here; (with_reducible show wpAny _ _ (binaryOp _ (Value.str (St _) _) (Value.str (St _) _)) _ _ _); (refine r_add (by first | omega | (simp only [List.length_append, List.length_cons, List.length_nil]; omega)) (by first | omega | (simp only [List.length_append, List.length_cons, List.length_nil]; omega)) ?_); intro t9 k9; (try dsimp only)))
local macro_rules | `(tactic| walk_at "subscriptTail") => `(tactic| (k_here; (with_reducible show wpAny _ _ (subscriptTail _ _ (Value.str (PySem.Str.ofString "0123456789") _) (Value.int _ _)) _ _ _); (refine r_digit (by assumption) (by omega) ?_); (try dsimp only)))
local macro_rules | `(tactic| walk_at "getItem ref str") => `(tactic| (k_here; refine halt ?_))
local macro_rules | `(tactic| walk_at "WhlRest") => `(tactic| (refine halt ?_))
/-- what stands behind a turn of `_law_said` -/
def NxL (w : World) (dp un : Nat) (gd : Option (List Code)) (sc : Scope) (L' : Addr) (outer : List Env) (g : Heap) (E : Value → Shared → Prop) (test : PySem.Expr) (body orl : List Stmt) (Q : Flow → Shared → Prop) (k : Nat) (s : Shared) (x : Nd) (acc l : List Nat) : Prop :=
  ∀ h' tk' m' ta' tr', Fr g L' h' m' → News g L' h' (x.led w) → m' (.ofString "said") = some (.str (St acc) ta') → m' (.ofString "row") = some (.str (St l) tr') → m' (.ofString "node") = some (.ref x.n12) →
    WhlRest PG w (ktrTop dp un gd (.ofString "_law_said") sc L' 418 (.ref 417) [] outer) E (envX (.ofString "_law_said") sc L' 418 (.ref 417) []) test body orl Q k { s with heap := h', toks := tk' }
section
variable {w : World} {p : Program} {loose : List Str} {mean : ExcName → Option Value} {mg mb : Str → Option Value}
set_option maxHeartbeats 2000000 in
theorem turnL {fn : Str} {fa : Arguments} {fb : List Stmt} {fd : List PySem.Expr} {fr : Option PySem.Expr} {ft : List TypeParam} {sc : Scope} {fts : Option Scope} {fbd : Str} {fps : Pos} {test : PySem.Expr} {body orl : List Stmt} {pos : Pos}
    (hf : nthS 54 PB = .FunctionDef fn fa fb fd fr ft sc fts fbd fps) (hw : nthS 1 fb = .While test body orl pos)
    {dp un : Nat} {gd : Option (List Code)} {outer : List Env} {A₀ : Around} {base g : Heap} {L' : Addr} {m : Str → Option Value} {s : Shared} {Q : Flow → Shared → Prop} {E : Value → Shared → Prop} {k : Nat} {x : Nd} {ta tr : Tok}
    {l l2 acc y : List Nat} {cc kk : Nat} (hk1 : 1 ≤ kk) (hk9 : kk ≤ 9) (hl : 1 ≤ l.length) (hl' : l.length ≤ 1000) (hx0 : Txt.slice (St l) (some 0) (some 1) = St [cc]) (hrun : RunC w p loose mean mg mb l cc kk) (hs2 : Txt.slice (St l) (some 1) (some (kk : Int)) = St y) (hs3 : Txt.slice (St l) (some (kk : Int)) (some l.length) = St l2) (hy : y.length + 1 = kk) (hne : (!l.isEmpty) = true) (hacc : acc.length < 60) (hl2 : l2.length ≤ 1000)
    (hE : PassesOwn (model PG w) (ktrTop dp un gd (.ofString "_law_said") sc L' 418 (.ref 417) [] outer) (envX (.ofString "_law_said") sc L' 418 (.ref 417) []) E)
    (B : Below A₀ base outer g) (F : Fr g L' s.heap m) (X : (K w.params).In g) (N : News g L' s.heap (x.led w)) (T : Top p loose mean mg mb g) (hdp : dp + 20 < recursionLimit) (hun : un + 8 * 20 < cLine)
    (m1 : m (.ofString "said") = some (.str (St acc) ta)) (m2 : m (.ofString "row") = some (.str (St l) tr)) (m3 : m (.ofString "node") = some (.ref x.n12))
    (next : NxL w dp un gd sc L' outer g E test body orl Q k s x (acc ++ [48 + kk] ++ [cc]) l2) :
    WhlRest PG w (ktrTop dp un gd (.ofString "_law_said") sc L' 418 (.ref 417) [] outer) E (envX (.ofString "_law_said") sc L' 418 (.ref 417) []) test body orl Q (k + 1) s := by
  revert X; unfold PG; k_fill; intro X
  injection hf with f1 f2 f3 f4 f5 f6 f7 f8 f9 f10
  subst f1 f2 f3 f4 f5 f6 f7 f8 f9 f10
  injection hw with w1 w2 w3 w4
  subst w1 w2 w3 w4
  have hyi : (1 : Int) + (y.length : Int) = (kk : Int) := by omega
  refine whl_turn hE ?_
  k_steps
  refine halt_out ?_
  refine' ((ct_match ⟨_, _, _, _, _, _, _, _, _, _, _, _, _⟩ x l cc kk y l2 _ tr _ _ hl hl' hx0 hrun hs2 hs3 (by omega) ?zlo ?zk ?zf ?zn ?zo).sub ?zs).use ?zB ?zF ?zX ?zN ?zT ?zK ?zd ?zu ?zh
  case zF => assumption
  case zN => assumption
  case zs => ((repeat refine in_cons (by k_mem) ?_); repeat (first | exact in_refl | refine in_skip ?_))
  case zB => assumption
  case zX => assumption
  case zT => assumption
  case zlo => assumption
  case zk => assumption
  case zf => assumption
  case zn => exact allLt_of (by assumption)
  case zo => simp only [Ord, and_true]; omega
  case zK => exact rfl
  case zd => omega
  case zu => omega
  case zh =>
    intro v news' h9 tk9 hp F9 N9
    obtain ⟨rt, o', n', v7', rfl, hV, rfl⟩ := hp
    dsimp only at N9 ⊢
    obtain ⟨kvs', hkv', hfl'⟩ := hV
    have hex : ∃ xv, xv = [cc] := ⟨_, rfl⟩
    obtain ⟨xv, hxv⟩ := hex
    have hxl : xv.length = 1 := by rw [hxv]; rfl
    have hfl2 : PyProof.V.FlatPairs PyData.str kvs' [(PyData.str (.ofString "X"), PyData.str (St xv)), (PyData.str (.ofString "Y"), PyData.str (St y)), (PyData.str (.ofString "R"), PyData.str (St l2))] := by rw [hxv]; exact hfl'
    rw [← hxv] at next
    clear hxv
    have hlkX := lkX (PyData.str (St xv)) (PyData.str (St y)) (PyData.str (St l2))
    have hlkY := lkY (PyData.str (St xv)) (PyData.str (St y)) (PyData.str (St l2))
    have hlkR := lkR (PyData.str (St xv)) (PyData.str (St y)) (PyData.str (St l2))
    clear hfl'
    k_steps
    refine halt_out ?_
    refine' getItem_tab PyProof.V.same_str (strKind_is _ _ _ _) (TabAt.ofNews ?q1 ?q2 ?q3 ?q4 ?q5) ?q6 ?_
    case q1 => assumption
    case q2 => k_mem
    case q3 => assumption
    case q4 => assumption
    case q5 => assumption
    case q6 => exact hlkY
    intro v hv
    try dsimp only
    obtain ⟨tt, rfl⟩ := PyProof.V.Flat.str_inv hv
    clear hv
    try dsimp only
    k_steps
    refine halt_out ?_
    refine' getItem_tab PyProof.V.same_str (strKind_is _ _ _ _) (TabAt.ofNews ?q1 ?q2 ?q3 ?q4 ?q5) ?q6 ?_
    case q1 => assumption
    case q2 => k_mem
    case q3 => assumption
    case q4 => assumption
    case q5 => assumption
    case q6 => exact hlkX
    intro v hv
    try dsimp only
    obtain ⟨tt, rfl⟩ := PyProof.V.Flat.str_inv hv
    clear hv
    try dsimp only
    k_steps
    refine halt_out ?_
    refine' getItem_tab PyProof.V.same_str (strKind_is _ _ _ _) (TabAt.ofNews ?q1 ?q2 ?q3 ?q4 ?q5) ?q6 ?_
    case q1 => assumption
    case q2 => k_mem
    case q3 => assumption
    case q4 => assumption
    case q5 => assumption
    case q6 => exact hlkR
    intro v hv
    try dsimp only
    obtain ⟨tt, rfl⟩ := PyProof.V.Flat.str_inv hv
    clear hv
    try dsimp only
    k_steps
    refine halt_out ?_
    refine' next _ _ _ _ _ ?zF2 (cb_drop ?zN2 ?zS2) ?z1 ?z2 ?z3
    case zF2 => assumption
    case zN2 => assumption
    case zS2 => repeat (first | exact in_refl | refine in_skip ?_)
    case z1 => rfl
    case z2 => rfl
    case z3 => first | rfl | assumption
end
end
section
open PySem PySem.Spec PySem.Calls PySem.W PyProof.Rows
set_option maxRecDepth 100000
section
variable {w : World} {p : Program} {loose : List Str} {mean : ExcName → Option Value} {mg mb : Str → Option Value}
theorem run_all {k c : Nat} {rest : List Nat} (h1 : 1 ≤ k) (h3 : k ≤ 3) (hr : rest.head? ≠ some c) (hl : rest.length ≤ 900) : RunC w p loose mean mg mb (List.replicate k c ++ rest) c k := by
  have hk : k = 1 ∨ k = 2 ∨ k = 3 := by omega
  cases rest with
  | nil =>
    rw [List.append_nil]
    rcases hk with rfl | rfl | rfl
    · exact run_1a c
    · exact run_2a c
    · exact run_3a c
  | cons d r =>
    have hd : d ≠ c := fun e => hr (by rw [e]; rfl)
    have hr' : r.length ≤ 1000 := by simp only [List.length_cons] at hl; omega
    rcases hk with rfl | rfl | rfl
    · exact run_1b c d r hd hr'
    · exact run_2b c d r hd hr'
    · exact run_3b c d r hd hr'
theorem cut1 {k c : Nat} {rest : List Nat} (h1 : 1 ≤ k) : Txt.slice (St (List.replicate k c ++ rest)) (some 0) (some 1) = St [c] := by
  obtain ⟨j, rfl⟩ : ∃ j, k = j + 1 := ⟨k - 1, by omega⟩
  have e := slice_St (l := List.replicate (j + 1) c ++ rest) (i := (0 : Int)) (j := (1 : Int)) (a := 0) (b := 1) rfl rfl (by omega) (by simp; omega)
  refine e.trans ?_
  simp [List.replicate_succ]
theorem cut2 {k c : Nat} {rest : List Nat} (h1 : 1 ≤ k) : Txt.slice (St (List.replicate k c ++ rest)) (some 1) (some (k : Int)) = St (List.replicate (k - 1) c) := by
  obtain ⟨j, rfl⟩ : ∃ j, k = j + 1 := ⟨k - 1, by omega⟩
  have e := slice_St (l := List.replicate (j + 1) c ++ rest) (i := (1 : Int)) (j := ((j + 1 : Nat) : Int)) (a := 1) (b := j + 1) rfl rfl (by omega) (by simp)
  refine e.trans ?_
  simp [List.replicate_succ]
theorem cut3 {k c : Nat} {rest : List Nat} : Txt.slice (St (List.replicate k c ++ rest)) (some (k : Int)) (some ((List.replicate k c ++ rest).length : Int)) = St rest := by
  rw [slice_St (a := k) (b := (List.replicate k c ++ rest).length) rfl rfl (by simp) (Nat.le_refl _)]
  simp
end
end
section
open PySem PySem.Spec PySem.Calls PySem.W PyProof.Rows
set_option maxRecDepth 100000
local macro_rules | `(tactic| k_mem) => `(tactic| assumption)
local macro_rules | `(tactic| walk_at "eval Name") => `(tactic| walk_at "mine 10")
local macro_rules | `(tactic| walk_at "compareOp NotEq str str") => `(tactic| walk_at "mine 12")
local macro_rules | `(tactic| walk_at "call builtin:len") => `(tactic| walk_at "mine 11")
local macro_rules | `(tactic| walk_at "exec While BoolOp") => `(tactic| (k_here; refine halt ?_))
section
variable {w : World} {p : Program} {loose : List Str} {mean : ExcName → Option Value} {mg mb : Str → Option Value}
set_option maxHeartbeats 2000000 in
theorem exitL {fn : Str} {fa : Arguments} {fb : List Stmt} {fd : List PySem.Expr} {fr : Option PySem.Expr} {ft : List TypeParam} {sc : Scope} {fts : Option Scope} {fbd : Str} {fps : Pos} {test : PySem.Expr} {body orl : List Stmt} {pos : Pos}
    (hf : nthS 54 PB = .FunctionDef fn fa fb fd fr ft sc fts fbd fps) (hw : nthS 1 fb = .While test body orl pos)
    {dp un : Nat} {gd : Option (List Code)} {outer : List Env} {A₀ : Around} {base g : Heap} {L' : Addr} {m : Str → Option Value} {s : Shared} {Q : Flow → Shared → Prop} {E : Value → Shared → Prop} {k : Nat} {x : Nd} {tr : Tok}
    (hE : PassesOwn (model PG w) (ktrTop dp un gd (.ofString "_law_said") sc L' 418 (.ref 417) [] outer) (envX (.ofString "_law_said") sc L' 418 (.ref 417) []) E)
    (B : Below A₀ base outer g) (F : Fr g L' s.heap m) (X : (K w.params).In g) (N : News g L' s.heap (x.led w)) (T : Top p loose mean mg mb g) (hdp : dp + 20 < recursionLimit) (hun : un + 8 * 20 < cLine)
    (m2 : m (.ofString "row") = some (.str (St []) tr))
    (fin : ∀ h' tk', Fr g L' h' m → News g L' h' (x.led w) → Q .next { s with heap := h', toks := tk' }) :
    WhlRest PG w (ktrTop dp un gd (.ofString "_law_said") sc L' 418 (.ref 417) [] outer) E (envX (.ofString "_law_said") sc L' 418 (.ref 417) []) test body orl Q k s := by
  revert X; unfold PG; k_fill; intro X
  injection hf with f1 f2 f3 f4 f5 f6 f7 f8 f9 f10
  subst f1 f2 f3 f4 f5 f6 f7 f8 f9 f10
  injection hw with w1 w2 w3 w4
  subst w1 w2 w3 w4
  show WhlRest _ _ _ _ _ _ _ _ _ (0 + 1) _
  refine whl_turn hE ?_
  k_steps
  exact fin _ _ (by assumption) (by assumption)
theorem loopL {fn : Str} {fa : Arguments} {fb : List Stmt} {fd : List PySem.Expr} {fr : Option PySem.Expr} {ft : List TypeParam} {sc : Scope} {fts : Option Scope} {fbd : Str} {fps : Pos} {test : PySem.Expr} {body orl : List Stmt} {pos : Pos}
    (hf : nthS 54 PB = .FunctionDef fn fa fb fd fr ft sc fts fbd fps) (hw : nthS 1 fb = .While test body orl pos)
    {dp un : Nat} {gd : Option (List Code)} {outer : List Env} {A₀ : Around} {base g : Heap} {L' : Addr} {Q : Flow → Shared → Prop} {E : Value → Shared → Prop} {k : Nat} {x : Nd}
    (hE : PassesOwn (model PG w) (ktrTop dp un gd (.ofString "_law_said") sc L' 418 (.ref 417) [] outer) (envX (.ofString "_law_said") sc L' 418 (.ref 417) []) E)
    (B : Below A₀ base outer g) (X : (K w.params).In g) (T : Top p loose mean mg mb g) (hdp : dp + 20 < recursionLimit) (hun : un + 8 * 20 < cLine) {l out : List Nat} (S : Say l out) :
    ∀ (acc : List Nat) (m : Str → Option Value) (s : Shared) (ta tr : Tok), l.length ≤ 900 → acc.length + out.length ≤ 60 → Fr g L' s.heap m → News g L' s.heap (x.led w) → m (.ofString "said") = some (.str (St acc) ta) → m (.ofString "row") = some (.str (St l) tr) → m (.ofString "node") = some (.ref x.n12) →
      (∀ h' tk' m' ta', Fr g L' h' m' → News g L' h' (x.led w) → m' (.ofString "said") = some (.str (St (acc ++ out)) ta') → Q .next { s with heap := h', toks := tk' }) →
      WhlRest PG w (ktrTop dp un gd (.ofString "_law_said") sc L' 418 (.ref 417) [] outer) E (envX (.ofString "_law_said") sc L' 418 (.ref 417) []) test body orl Q k s := by
  induction S with
  | nil =>
    intro acc m s ta tr _ _ F N m1 m2 m3 fin
    exact exitL hf hw hE B F X N T hdp hun m2 fun h' tk' F' N' => fin h' tk' m ta F' N' (by rw [List.append_nil]; exact m1)
  | run kk c rest out h1 h3 hr S ih =>
    intro acc m s ta tr hl ho F N m1 m2 m3 fin
    have hl2 : (List.replicate kk c ++ rest).length = kk + rest.length := by simp
    rw [hl2] at hl
    simp only [List.length_cons] at ho
    show WhlRest _ _ _ _ _ _ _ _ _ (k + 1) _
    refine turnL hf hw (x := x) (cc := c) (kk := kk) (y := List.replicate (kk - 1) c) (l2 := rest) (k := k) h1 (by omega) (by rw [hl2]; omega) (by rw [hl2]; omega) (cut1 h1) (run_all h1 h3 hr (by omega)) (cut2 h1) cut3 (by simp; omega) (by cases kk with | zero => omega | succ n => rfl) (by omega) (by omega) hE B F X N T hdp hun m1 m2 m3 ?_
    intro h' tk' m' ta' tr' F' N' e1 e2 e3
    refine ih (acc ++ [48 + kk] ++ [c]) m' _ ta' tr' (by omega) (by simp only [List.length_append, List.length_cons, List.length_nil]; omega) F' N' e1 e2 e3 ?_
    intro h2 tk2 m2' ta2 F2 N2 e
    exact fin h2 tk2 m2' ta2 F2 N2 (by rw [e]; simp)
set_option maxHeartbeats 2000000 in
theorem ct_said (x : Nd) (l out : List Nat) (t1 : Tok) (S : Say l out) (hl : l.length ≤ 900) (ho : out.length ≤ 60) :
    Cl w p loose mean mg mb 24 418 [.ref x.n12, .str (St l) t1] (x.led w) (fun v news' => ∃ te, v = .str (St out) te ∧ news' = x.led w) := by
  unfold Cl; k_fill
  intro dp un gd cn cs a ccd cl outer A₀ base h₀ L m s Q E B F X N T hk hdp hun ret
  refine wpAny_call ?_
  k_dflt ktr_enter
  k_steps
  refine halt_out ?_
  refine whl_start 1 ?_
  refine' loopL rfl rfl ?zE ?zB ?zX ?zT ?zd ?zu S [] _ _ _ _ hl (by simpa using ho) ?zF ?zN ?z1 ?z2 ?z3 ?zfin
  case zF => assumption
  case zN => assumption
  case zE => passes_own
  case zB => assumption
  case zX => assumption
  case zT => assumption
  case zd => (try simp only [depth_deeper]); (try dsimp only [ktrTop, Around.deeper]); omega
  case zu => (try simp only [depth_deeper]); (try dsimp only [ktrTop, Around.deeper]); omega
  case z1 => rw [← ofString_empty]; rfl
  case z2 => rfl
  case z3 => rfl
  case zfin =>
    intro h' tk' m' ta' F' N' e
    rw [List.nil_append] at e
    dsimp only
    k_steps
    exact ret _ _ _ _ ⟨_, rfl, rfl⟩ (by assumption) (by assumption)
end
end
section
open PySem PySem.Spec PySem.Calls PySem.W PyProof.Rows
set_option maxRecDepth 100000
/-- the end of one turn of a comprehension that leaves the ledger as it was -/
def CrEl (news : Led) (R : Value → Prop) (y : Value) (news' : Led) : Prop := news' = news ∧ R y
theorem crEl {news : Led} {R : Value → Prop} {y : Value} (h : R y) : CrEl news R y news := ⟨rfl, h⟩
section
variable {prog : Program} {w : World} {A : Around} {h₀ : Heap} {L : Addr} {m : Str → Option Value} {env : Env} {elt ct : PySem.Expr} {x : Str} {scope : Scope} {cl : List (Str × Addr)} {s : Shared} {S : List (Addr × Obj) → Prop} {P : Nat → Value → Prop} {Fin : List Value → List (Addr × Obj) → Prop} {news : List (Addr × Obj)}
theorem cr_own {n : Nat} (R : Nat → Value → Prop)
    (turn : ∀ i v I oI C oC D m₂ ys h tk (E' : Value → Shared → Prop), i < n → P i v → LCg.NsObj oC m₂ → m₂ x = some v → Fr h₀ L h m → News h₀ L h ((I, oI) :: (C, oC) :: (D, LCg.lst ys) :: news) → LCg.Off3 I C D news → ((@Ne Nat I C) ∧ (@Ne Nat I D) ∧ (@Ne Nat C D)) →
      wpAny (model prog w) A (eval elt (compEnvC scope cl C env)) (LCg.CompEnd h₀ L m { s with heap := h, toks := tk } I oI C oC D (LCg.lst ys) S (fun y news' => CrEl news (R i) y news')) E' { s with heap := h, toks := tk })
    (fin : ∀ ys : List Value, ys.length = n → (∀ (i : Nat) (y : Value), ys[i]? = some y → R i y) → Fin ys news) : LCg.CompRest prog w A h₀ L m env elt x scope cl s S P Fin n 0 [] news := by
  have key : ∀ (j i : Nat) (ys : List Value), i + j = n → ys.length = i → (∀ (a : Nat) (y : Value), ys[a]? = some y → R a y) → LCg.CompRest prog w A h₀ L m env elt x scope cl s S P Fin j i ys news := by
    intro j
    induction j with
    | zero =>
      intro i ys hi hl hy
      exact LCg.CompRest.zero (fin ys (by omega) hy)
    | succ j ih =>
      intro i ys hi hl hy
      refine LCg.CompRest.succ ?_
      intro v I oI C oC D m₂ h tk E' hv hC hx F N off ne
      refine wpAny_mono (turn i v I oI C oC D m₂ ys h tk E' (by omega) hv hC hx F N off ne) (fun y s₂ hq => ?_) fun _ _ e => e
      obtain ⟨h', tk', nw, e, F', N', off', hS, hn, hy'⟩ := hq
      subst hn
      refine ⟨h', tk', _, e, F', N', off', hS, ?_⟩
      refine ih (i + 1) _ (by omega) (by simp [hl]) ?_
      intro a z hz
      rcases Nat.lt_or_ge a ys.length with g | g
      · rw [List.getElem?_append_left g] at hz; exact hy a z hz
      · rw [List.getElem?_append_right g] at hz
        have ha : a = i := by
          have := (List.getElem?_eq_some_iff.mp hz).1
          simp only [List.length_cons, List.length_nil] at this
          omega
        subst ha
        rw [hl, Nat.sub_self] at hz
        cases hz
        exact hy'
  exact key n 0 [] (by omega) rfl (by intro a y h; simp at h)
/-- the same with a test -/
theorem cr_test {n : Nat} (T : Nat → Bool) (R : Nat → Value → Prop)
    (turn : ∀ i v I oI C oC D m₂ ys h tk (E' : Value → Shared → Prop), i < n → P i v → LCg.NsObj oC m₂ → m₂ x = some v → Fr h₀ L h m → News h₀ L h ((I, oI) :: (C, oC) :: (D, LCg.lst ys) :: news) → LCg.Off3 I C D news → ((@Ne Nat I C) ∧ (@Ne Nat I D) ∧ (@Ne Nat C D)) →
      wpAny (model prog w) A (isTrue ct (compEnvC scope cl C env) (eval ct (compEnvC scope cl C env))) (fun ok s' => if ok = true then
        wpAny (model prog w) A (eval elt (compEnvC scope cl C env)) (LCg.CompEnd h₀ L m { s with heap := h, toks := tk } I oI C oC D (LCg.lst ys) S (fun y news' => CrEl news (fun y => T i = true ∧ R i y) y news')) E' s'
        else LCg.CompEnd h₀ L m { s with heap := h, toks := tk } I oI C oC D (LCg.lst ys) S (fun y news' => CrEl news (fun _ => T i = false) y news') Value.none s') E' { s with heap := h, toks := tk })
    (fin : ∀ ys : List Value, ys.length = ((List.range n).filter T).length → (∀ (i j : Nat) (y : Value), ys[i]? = some y → ((List.range n).filter T)[i]? = some j → R j y) → Fin ys news) : LCt.CompRestT prog w A h₀ L m env ct elt x scope cl s S P Fin n 0 [] news := by
  have key : ∀ (j i : Nat) (ys : List Value), i + j = n → ys.length = ((List.range i).filter T).length → (∀ (a b : Nat) (y : Value), ys[a]? = some y → ((List.range i).filter T)[a]? = some b → R b y) → LCt.CompRestT prog w A h₀ L m env ct elt x scope cl s S P Fin j i ys news := by
    intro j
    induction j with
    | zero =>
      intro i ys hi hl hy
      have e : i = n := by omega
      subst e
      exact LCt.CompRestT.zero (fin ys hl hy)
    | succ j ih =>
      intro i ys hi hl hy
      refine LCt.CompRestT.succ ?_
      intro v I oI C oC D m₂ h tk E' hv hC hx F N off ne
      refine wpAny_mono (turn i v I oI C oC D m₂ ys h tk E' (by omega) hv hC hx F N off ne) (fun b s₂ hq => ?_) fun _ _ e => e
      have er : ((List.range (i + 1)).filter T) = ((List.range i).filter T) ++ (if T i then [i] else []) := by
        rw [List.range_succ, List.filter_append]; cases h : T i <;> simp [h]
      split at hq
      · rename_i hb
        rw [if_pos hb]
        refine wpAny_mono hq (fun y s₃ hq => ?_) fun _ _ e => e
        obtain ⟨h', tk', nw, e, F', N', off', hS, hn, hT, hy'⟩ := hq
        subst hn
        refine ⟨h', tk', _, e, F', N', off', hS, ?_⟩
        refine ih (i + 1) _ (by omega) (by rw [er, hT]; simp [hl]) ?_
        intro a b z hz hb
        rw [er, hT] at hb
        simp only [if_true] at hb
        rcases Nat.lt_or_ge a ys.length with g | g
        · rw [List.getElem?_append_left g] at hz
          rw [List.getElem?_append_left (hl ▸ g)] at hb
          exact hy a b z hz hb
        · rw [List.getElem?_append_right g] at hz
          rw [List.getElem?_append_right (hl ▸ g)] at hb
          have ha : a - ys.length = 0 := by
            have := (List.getElem?_eq_some_iff.mp hz).1
            simp only [List.length_cons, List.length_nil] at this
            omega
          rw [ha] at hz
          rw [← hl, ha] at hb
          cases hz; cases hb
          exact hy'
      · rename_i hb
        rw [if_neg hb]
        obtain ⟨h', tk', nw, e, F', N', off', hS, hn, hT⟩ := hq
        subst hn
        refine ⟨h', tk', _, e, F', N', off', hS, ?_⟩
        refine ih (i + 1) _ (by omega) (by rw [er, hT]; simp [hl]) ?_
        intro a b z hz hb
        rw [er, hT] at hb
        simp only [Bool.false_eq_true, if_false, List.append_nil] at hb
        exact hy a b z hz hb
  exact key n 0 [] (by omega) rfl (by intro a b y h; simp at h)
end
end
section
open PySem PySem.Spec PySem.Calls PySem.W PyProof.Rows
set_option maxRecDepth 100000
section
variable {prog : Program} {w : World} {A : Around} {E : Value → Shared → Prop} {s : Shared} {t u : Tok} {Q : Value → Shared → Prop} {value slice : PySem.Expr}
theorem r_fdiv {a b : Nat} {x y : Int} (hx : x = a) (hy : y = b) (h1 : 1 ≤ b) (h2 : b ≤ 1000) (h : Q (.int ((a / b : Nat) : Int) s.toks) { s with toks := s.toks + 1 }) :
    wpAny (model prog w) A (binaryOp .FloorDiv (.int x t) (.int y u)) Q E s := by
  subst hx hy
  refine floordiv_int (by omega) ?_ (Or.inl (PyProof.noPylong_small (by omega)))
  rw [Int.fdiv_eq_ediv_of_nonneg _ (by omega)]
  exact h
theorem three : Str.ofString "123" = St [49, 50, 51] := by
  have h : Str.ofString "123" = ⟨#[49, 50, 51]⟩ := by decide +kernel
  rw [h]; rfl
theorem r_123 {i : Int} {k : Nat} (hi : i = k) (hk : k ≤ 2) (h : Q (.str (St [49 + k]) s.toks) { s with toks := s.toks + 1 })
    (hs : subscripted slice false (.str (.ofString "123") t) (.int i u) = operate [.str (.ofString "123") t, .int i u] (getItem (.str (.ofString "123") t) (.int i u)) := by with_unfolding_all rfl)
    (ht : ∀ r, letTemporaryGo value (.str (.ofString "123") t) r = pure () := by intro _; with_unfolding_all rfl) :
    wpAny (model prog w) A (subscriptTail value slice (.str (.ofString "123") t) (.int i u)) Q E s := by
  subst hi
  have hl : (Str.ofString "123").length = 3 := by rw [three, St_len]; rfl
  refine item_str (fitsSsize_of (N := 9223372036854775808) (by omega) (by omega) (Int.le_refl _)) (by rw [hl]; omega) (by rw [hl]; omega) (fun _ => ?_) hs ht
  rw [three, item_St (c := 49 + k) (by omega) ?_]
  · exact h
  · have : k = 0 ∨ k = 1 ∨ k = 2 := by omega
    rcases this with rfl | rfl | rfl <;> rfl
end
end
section
open PySem PySem.Spec PySem.Calls PySem.W PyProof.Rows
set_option maxRecDepth 100000
theorem ex_rest {M : Model} {A : Around} {env : Env} {a b : List Stmt} {Q : Flow → Shared → Prop} {E : Value → Shared → Prop} {s : Shared} (h : a = b) (q : wpAny M A (execs b env) Q E s) : wpAny M A (execs a env) Q E s := h ▸ q
theorem St_inj {a b : List Nat} : (St a).cps.toList = (St b).cps.toList ↔ a = b := by rw [St_cps, St_cps]
theorem lone_mul (c : Nat) : ∀ k : Nat, 1 ≤ k → k ≤ 9 → Txt.mul (St [c]) (k : Int) = St (List.replicate k c) := by
  intro k h1 h9
  have : k = 1 ∨ k = 2 ∨ k = 3 ∨ k = 4 ∨ k = 5 ∨ k = 6 ∨ k = 7 ∨ k = 8 ∨ k = 9 := by omega
  rcases this with rfl | rfl | rfl | rfl | rfl | rfl | rfl | rfl | rfl <;> rfl
theorem sl_none_lo (l : List Nat) (j : Option Int) : Txt.slice (St l) none j = Txt.slice (St l) (some 0) j := by
  have e : PySem.Builtin.Str.strSliceIndices none j 1 (St l).length = PySem.Builtin.Str.strSliceIndices (some 0) j 1 (St l).length := by
    unfold PySem.Builtin.Str.strSliceIndices
    have e0 : max (0 : Int) (min (if (0 : Int) < 0 then (0 : Int) + ((St l).length : Int) else 0) ((St l).length : Int)) = 0 := by
      rw [if_neg (by omega)]; omega
    simp only [show (1 : Int) > 0 by decide, if_true, e0]
  unfold Txt.slice
  rw [e]
theorem sl_none_hi (l : List Nat) (i : Option Int) : Txt.slice (St l) i none = Txt.slice (St l) i (some (l.length : Int)) := by
  have e : PySem.Builtin.Str.strSliceIndices i none 1 (St l).length = PySem.Builtin.Str.strSliceIndices i (some (l.length : Int)) 1 (St l).length := by
    rw [St_len]
    unfold PySem.Builtin.Str.strSliceIndices
    have e0 : max (0 : Int) (min (if (l.length : Int) < 0 then (l.length : Int) + (l.length : Int) else (l.length : Int)) (l.length : Int)) = (l.length : Int) := by
      rw [if_neg (by omega)]; omega
    simp only [show (1 : Int) > 0 by decide, if_true, e0]
  unfold Txt.slice
  rw [e]
theorem sl_take {l : List Nat} {j : Int} {b : Nat} (hj : j = b) (hb : b ≤ l.length) : Txt.slice (St l) none (some j) = St (l.take b) := by
  rw [sl_none_lo]
  refine (slice_St (a := 0) (b := b) (i := 0) rfl hj (by omega) hb).trans ?_
  simp
theorem sl_drop {l : List Nat} {i : Int} {a : Nat} (hi : i = a) (ha : a ≤ l.length) : Txt.slice (St l) (some i) none = St (l.drop a) := by
  rw [sl_none_hi, slice_St (a := a) (b := l.length) hi rfl ha (by omega)]
  rw [List.take_of_length_le (by simp)]
theorem item_last {l : List Nat} {c : Nat} (hc : l.getLast? = some c) : Txt.item (St l) (-1) = St [c] := by
  have hl : 1 ≤ l.length := by cases l with
    | nil => simp at hc
    | cons a r => simp
  unfold Txt.item Txt.charAt seqIndex?
  simp only [St_len]
  have e1 : (-1 : Int) < 0 := by omega
  simp only [if_pos e1]
  have e2 : (decide ((0 : Int) ≤ -1 + (l.length : Int)) && decide (-1 + (l.length : Int) < (l.length : Int))) = true := by
    simp only [Bool.and_eq_true, decide_eq_true_eq]; omega
  rw [if_pos e2]
  simp only [Option.bind_some, St]
  have e3 : (-1 + (l.length : Int)).toNat = l.length - 1 := by omega
  rw [e3]
  rw [List.getLast?_eq_getElem?] at hc
  rw [show (l.toArray[l.length - 1]?) = some c by simpa using hc]
  rfl
theorem join_St' : ∀ ys : List (List Nat), Str.join (St []) (ys.map St) = St ys.flatten
  | [] => rfl
  | [x] => by
    show St x = _
    simp
  | x :: y :: r => by
    have ih := join_St' (y :: r)
    show St x ++ St [] ++ Str.join (St []) (St y :: r.map St) = _
    rw [show (St y :: r.map St) = (y :: r).map St from rfl, ih, St_append, St_append]
    simp
theorem join_St (ys : List (List Nat)) : Txt.join (St []) (ys.map St) = St ys.flatten := (StrLaws.glued_eq_join _ _).trans (join_St' ys)
theorem strs_of : ∀ (ls : List (List Nat)) (ys : List Value), ys.length = ls.length → (∀ (i : Nat) (y : Value), ys[i]? = some y → ∃ l t, ls[i]? = some l ∧ y = .str (St l) t) → StrsAre ys (ls.map St)
  | [], ys, hl, _ => by
    cases ys with
    | nil => exact .nil
    | cons a r => simp at hl
  | l :: ls, ys, hl, h => by
    cases ys with
    | nil => simp at hl
    | cons a r =>
      obtain ⟨l', t, e, rfl⟩ := h 0 a rfl
      cases e
      exact .cons (St l) t (strs_of ls r (by simpa using hl) fun i y hy => by
        have := h (i + 1) y (by simpa using hy)
        simpa using this)
theorem bools_of : ∀ (bs : List Bool) (ys : List Value), ys.length = bs.length → (∀ (i : Nat) (y : Value), ys[i]? = some y → ∃ b, bs[i]? = some b ∧ y = .bool b) → LSm.BoolsAre ys bs
  | [], ys, hl, _ => by
    cases ys with
    | nil => exact .nil
    | cons a r => simp at hl
  | l :: ls, ys, hl, h => by
    cases ys with
    | nil => simp at hl
    | cons a r =>
      obtain ⟨l', e, rfl⟩ := h 0 a rfl
      cases e
      exact .cons l (bools_of ls r (by simpa using hl) fun i y hy => by
        have := h (i + 1) y (by simpa using hy)
        simpa using this)
section
variable {prog : Program} {w : World} {A : Around} {E : Value → Shared → Prop} {s : Shared} {t u : Tok} {Q : Value → Shared → Prop} {value slice : PySem.Expr} {c : Nat} {l : List Nat} {h₀ : Heap} {L : Addr} {m : Str → Option Value} {news : Led}
theorem r_mod {a b : Nat} {x y : Int} (hx : x = a) (hy : y = b) (h1 : 1 ≤ b) (h : Q (.int ((a % b : Nat) : Int) s.toks) { s with toks := s.toks + 1 }) :
    wpAny (model prog w) A (binaryOp .Mod (.int x t) (.int y u)) Q E s := by
  subst hx hy
  refine mod_int' (by omega) ?_
  rw [Int.fmod_eq_emod_of_nonneg _ (by omega)]
  exact h
theorem r_mul {k : Nat} {i : Int} (hi : i = k) (h1 : 1 ≤ k) (h9 : k ≤ 9) (h : ∀ t' q, Q (.str (St (List.replicate k c)) t') { s with toks := q }) :
    wpAny (model prog w) A (binaryOp .Mult (.str (St [c]) t) (.int i u)) Q E s := by
  subst hi
  refine SB.mul (mulOk_of 1 9 (by rw [St_len]; simp) (by omega) (by omega) (by decide) (by decide)) fun t' q => ?_
  rw [lone_mul c k h1 h9]
  exact h t' q
theorem r_int {k : Nat} (hk : k ≤ 9) (h : Q (.int k s.toks) { s with toks := s.toks + 1 }) : wpAny (model prog w) A (call (.type "int") [.str (St [48 + k]) t]) Q E s := by
  refine KIN.call_text ?_ (by rw [St_len]; simp) h
  have : k = 0 ∨ k = 1 ∨ k = 2 ∨ k = 3 ∨ k = 4 ∨ k = 5 ∨ k = 6 ∨ k = 7 ∨ k = 8 ∨ k = 9 := by omega
  rcases this with rfl | rfl | rfl | rfl | rfl | rfl | rfl | rfl | rfl | rfl <;> decide +kernel
theorem r_last (hc : l.getLast? = some c) (hn : l.length ≤ 100000) (h : Q (.str (St [c]) s.toks) { s with toks := s.toks + 1 })
    (hs : subscripted slice false (.str (St l) t) (.int (-1) u) = operate [.str (St l) t, .int (-1) u] (getItem (.str (St l) t) (.int (-1) u)) := by with_unfolding_all rfl)
    (ht : ∀ r, letTemporaryGo value (.str (St l) t) r = pure () := by intro _; with_unfolding_all rfl) :
    wpAny (model prog w) A (subscriptTail value slice (.str (St l) t) (.int (-1) u)) Q E s := by
  have hl : 1 ≤ l.length := by cases l with
    | nil => simp at hc
    | cons a r => simp
  refine item_str (fitsSsize_of (N := 9223372036854775808) (by omega) (by omega) (Int.le_refl _)) (by rw [St_len]; omega) (by rw [St_len]; omega) (fun _ => ?_) hs ht
  rw [item_last hc]
  exact h
theorem r_slice_sn {y : List Nat} {i : Int} {ui : Tok} (hF : Fr h₀ L s.heap m) (hN : News h₀ L s.heap news) (e : Txt.slice (St l) (some i) none = St y) (hl : l.length ≤ 1000) (h : ∀ h' t' k, Fr h₀ L h' m → News h₀ L h' news → Q (.str (St y) t') { s with heap := h', toks := k })
    (hs : subscripted slice false (.str (St l) t) (.ref s.heap.objs.size) = operate [.ref s.heap.objs.size, .str (St l) t] (getItem (.str (St l) t) (.ref s.heap.objs.size)) := by with_unfolding_all rfl)
    (ht : ∀ r, letTemporaryGo value (.str (St l) t) r = pure () := by intro _; with_unfolding_all rfl) :
    wpAny (model prog w) A (subscriptTail value slice (.str (St l) t) (.ref s.heap.objs.size)) Q E { s with heap := s.heap.push { cls := .type "slice", data := .fields #[.int i ui, .none, .none] } } :=
  slice_strN_sn hF hN (fun h' t' k a b => by rw [e]; exact h h' t' k a b) hs ht (by rw [St_len]; exact Nat.le_trans hl (by rw [show sizeLine = 16777216 from rfl]; omega))
theorem r_slice_ns {y : List Nat} {j : Int} {uj : Tok} (hF : Fr h₀ L s.heap m) (hN : News h₀ L s.heap news) (e : Txt.slice (St l) none (some j) = St y) (hl : l.length ≤ 1000) (h : ∀ h' t' k, Fr h₀ L h' m → News h₀ L h' news → Q (.str (St y) t') { s with heap := h', toks := k })
    (hs : subscripted slice false (.str (St l) t) (.ref s.heap.objs.size) = operate [.ref s.heap.objs.size, .str (St l) t] (getItem (.str (St l) t) (.ref s.heap.objs.size)) := by with_unfolding_all rfl)
    (ht : ∀ r, letTemporaryGo value (.str (St l) t) r = pure () := by intro _; with_unfolding_all rfl) :
    wpAny (model prog w) A (subscriptTail value slice (.str (St l) t) (.ref s.heap.objs.size)) Q E { s with heap := s.heap.push { cls := .type "slice", data := .fields #[.none, .int j uj, .none] } } :=
  slice_strN_ns hF hN (fun h' t' k a b => by rw [e]; exact h h' t' k a b) hs ht (by rw [St_len]; exact Nat.le_trans hl (by rw [show sizeLine = 16777216 from rfl]; omega))
theorem r_join {D : Addr} {items : Array Value} {ls : List (List Nat)} (hl : s.heap.IsList D items) (hi : StrsAre items.toList (ls.map St)) (hb : ls.flatten.length ≤ 1000) (hn : ls.length ≤ 1000) (h : ∀ t' k, Q (.str (St ls.flatten) t') { s with toks := k }) :
    wpAny (model prog w) A (call (.builtin "str.join") [.str (.ofString "") t, .ref D]) Q E s := by
  rw [ofString_empty]
  refine join_listW hl hi (by rw [St_len]; simp) ?_ (fun t' k => by rw [join_St]; exact h t' k)
  have e : ((ls.map St).map (·.length)).sum = ls.flatten.length := by
    rw [List.map_map, List.length_flatten]
    congr 1
  rw [e, List.length_map]; omega
theorem r_notin_123 (hc : c = 49 ∨ c = 50 ∨ c = 51) (h : Q (.bool false) s) : wpAny (model prog w) A (compareOp .NotIn (.str (St [c]) u) (.str (.ofString "123") t)) Q E s := by
  refine notIn_str ?_
  rw [three]
  show Q (.bool (!(!(Builtin.Str.occurrences (St [49, 50, 51]) (⟨#[c]⟩ : Str) 0 (St [49, 50, 51]).length 1).isEmpty))) s
  rw [StrLaws.found_one, St_cps]
  rw [show decide (c ∈ [49, 50, 51]) = true by rcases hc with rfl | rfl | rfl <;> rfl]
  exact h
/-- four alike do not stand in the text -/
def NoFour (l : List Nat) : Prop := ∀ (c i : Nat), (l.drop i).take 4 ≠ [c, c, c, c]
theorem r_in_four (hf : NoFour l) (h : Q (.bool false) s) : wpAny (model prog w) A (compareOp .In (.str (St (List.replicate 4 c)) u) (.str (St l) t)) Q E s := by
  refine P.in_str ?_
  show Q (.bool (!(Builtin.Str.occurrences (St l) (St (List.replicate 4 c)) 0 (St l).length 1).isEmpty)) s
  have e : (!(Builtin.Str.occurrences (St l) (St (List.replicate 4 c)) 0 (St l).length 1).isEmpty) = false := by
    rw [Bool.eq_false_iff]
    intro hh
    obtain ⟨i, h1, h2⟩ := (StrLaws.found_iff _ _).mp hh
    rw [StrLaws.subAt_eq, St_cps, St_cps, St_len, beq_iff_eq] at h2
    exact hf c i h2
  rw [e]
  exact h
end
end
section
open PySem
/-- the plain law of saying -/
structure Good (l : List Nat) : Prop where
  signs : ∀ c ∈ l, c = 49 ∨ c = 50 ∨ c = 51
  four : NoFour l
theorem nf_drop {l : List Nat} (h : NoFour l) (k : Nat) : NoFour (l.drop k) := by
  intro c i
  rw [List.drop_drop]
  exact h c (k + i)
theorem nf_of {l : List Nat} (h : ∀ c i, l[i]? = some c → l[i+1]? = some c → l[i+2]? = some c → l[i+3]? ≠ some c) : NoFour l := by
  intro c i e
  have g : ∀ j, j < 4 → l[i+j]? = some c := by
    intro j hj
    have e2 : ((l.drop i).take 4)[j]? = ([c, c, c, c] : List Nat)[j]? := by rw [e]
    rw [List.getElem?_take_of_lt hj, List.getElem?_drop] at e2
    rw [e2]
    have : j = 0 ∨ j = 1 ∨ j = 2 ∨ j = 3 := by omega
    rcases this with rfl | rfl | rfl | rfl <;> rfl
  exact h c i (g 0 (by omega)) (g 1 (by omega)) (g 2 (by omega)) (g 3 (by omega))
theorem nf_small {l : List Nat} (h : l.length < 4) : NoFour l := by
  intro c i e
  have := congrArg List.length e
  simp at this
  omega
theorem split_run : ∀ (l : List Nat) (c : Nat), ∃ k rest, l = List.replicate k c ++ rest ∧ rest.head? ≠ some c
  | [], c => ⟨0, [], rfl, by simp⟩
  | d :: r, c => by
    by_cases h : d = c
    · subst h
      obtain ⟨k, rest, e, hr⟩ := split_run r d
      exact ⟨k + 1, rest, by rw [List.replicate_succ, List.cons_append, ← e], hr⟩
    · exact ⟨0, d :: r, rfl, by simpa using h⟩
theorem say_exists : ∀ (n : Nat) (l : List Nat), l.length ≤ n → NoFour l → ∃ out, Say l out
  | _, [], _, _ => ⟨[], .nil⟩
  | 0, _ :: _, h, _ => by simp at h
  | n + 1, c :: r, h, hf => by
    obtain ⟨k, rest, e, hr⟩ := split_run r c
    have e2 : c :: r = List.replicate (k + 1) c ++ rest := by rw [List.replicate_succ, List.cons_append, ← e]
    have hl : r.length = k + rest.length := by rw [e]; simp
    have hk : k + 1 ≤ 3 := by
      refine Nat.le_of_not_lt fun hk => ?_
      refine hf c 0 ?_
      rw [e2, List.drop_zero]
      obtain ⟨j, rfl⟩ : ∃ j, k = j + 3 := ⟨k - 3, by omega⟩
      simp [List.replicate_succ]
    have hf2 : NoFour rest := by
      have := nf_drop hf (k + 1)
      rw [e2] at this
      simpa using this
    simp only [List.length_cons] at h
    obtain ⟨out, S⟩ := say_exists n rest (by omega) hf2
    exact ⟨_, e2 ▸ Say.run (k + 1) c rest out (by omega) hk hr S⟩
theorem say_len {l out : List Nat} (S : Say l out) : out.length ≤ 2 * l.length := by
  induction S with
  | nil => simp
  | run k c rest out h1 h3 hr S ih => simp; omega
theorem say_empty {out : List Nat} (S : Say [] out) : out = [] := by
  generalize e : ([] : List Nat) = l at S
  cases S with
  | nil => rfl
  | run k c rest out h1 h3 hr S =>
    have := congrArg List.length e
    simp at this; omega
theorem say_head {l out : List Nat} (S : Say l out) : out[1]? = l.head? := by
  cases S with
  | nil => rfl
  | run k c rest out h1 h3 hr S =>
    obtain ⟨j, rfl⟩ : ∃ j, k = j + 1 := ⟨k - 1, by omega⟩
    simp [List.replicate_succ]
theorem say_ne {l out : List Nat} (S : Say l out) (h : l ≠ []) : out ≠ [] := by
  cases S with
  | nil => exact absurd rfl h
  | run k c rest out h1 h3 hr S => simp
theorem say_signs {l out : List Nat} (S : Say l out) (h : ∀ c ∈ l, c = 49 ∨ c = 50 ∨ c = 51) : ∀ c ∈ out, c = 49 ∨ c = 50 ∨ c = 51 := by
  induction S with
  | nil => exact h
  | run k c rest out h1 h3 hr S ih =>
    intro x hx
    rcases List.mem_cons.mp hx with rfl | hx
    · omega
    rcases List.mem_cons.mp hx with rfl | hx
    · exact h x (List.mem_append.mpr (.inl (List.mem_replicate.mpr ⟨by omega, rfl⟩)))
    · exact ih (fun y hy => h y (List.mem_append.mpr (.inr hy))) x hx
theorem say_alt {l out : List Nat} (S : Say l out) : ∀ (i a : Nat), out[2 * i + 1]? = some a → out[2 * i + 3]? ≠ some a := by
  induction S with
  | nil => intro i a h; simp at h
  | run k c rest out h1 h3 hr S ih =>
    intro i a e1 e2
    cases i with
    | zero =>
      have e1' : c = a := by simpa using e1
      have e2' : out[1]? = some a := by simpa using e2
      subst e1'
      exact hr (by rw [← say_head S]; exact e2')
    | succ i =>
      refine ih i a ?_ ?_
      · simpa [show 2 * (i + 1) + 1 = (2 * i + 1) + 1 + 1 by omega] using e1
      · simpa [show 2 * (i + 1) + 3 = (2 * i + 3) + 1 + 1 by omega] using e2
theorem say_four {l out : List Nat} (S : Say l out) : NoFour out := by
  refine nf_of fun c i e0 e1 e2 e3 => ?_
  rcases Nat.mod_two_eq_zero_or_one i with h | h
  · exact say_alt S (i / 2) c (by rw [show 2 * (i / 2) + 1 = i + 1 by omega]; exact e1) (by rw [show 2 * (i / 2) + 3 = i + 3 by omega]; exact e3)
  · exact say_alt S (i / 2) c (by rw [show 2 * (i / 2) + 1 = i by omega]; exact e0) (by rw [show 2 * (i / 2) + 3 = i + 2 by omega]; exact e2)
theorem say_good {l out : List Nat} (S : Say l out) (G : Good l) : Good out := ⟨say_signs S G.signs, say_four S⟩
theorem say_last {l out : List Nat} (S : Say l out) : out.getLast? = l.getLast? := by
  induction S with
  | nil => rfl
  | run k c rest out h1 h3 hr S ih =>
    by_cases h : rest = []
    · subst h
      rw [say_empty S]
      obtain ⟨j, rfl⟩ : ∃ j, k = j + 1 := ⟨k - 1, by omega⟩
      simp [List.replicate_succ']
    · have h2 := say_ne S h
      obtain ⟨a, ha⟩ : ∃ a, rest.getLast? = some a := by
        cases e : rest.getLast? with
        | none => rw [List.getLast?_eq_none_iff] at e; exact absurd e h
        | some a => exact ⟨a, rfl⟩
      rw [List.getLast?_append, ha]
      rw [show (48 + k) :: c :: out = [48 + k, c] ++ out from rfl, List.getLast?_append, ih, ha]
      rfl
/-- the pairs that are said -/
theorem say_pairs {l out : List Nat} (S : Say l out) : ∃ ps : List (Nat × Nat), out.length = 2 * ps.length ∧ (∀ (i : Nat) (p : Nat × Nat), ps[i]? = some p → out[2 * i]? = some (48 + p.1) ∧ out[2 * i + 1]? = some p.2 ∧ 1 ≤ p.1 ∧ p.1 ≤ 3) ∧ (ps.map fun p => List.replicate p.1 p.2).flatten = l := by
  induction S with
  | nil => exact ⟨[], rfl, by simp, rfl⟩
  | run k c rest out h1 h3 hr S ih =>
    obtain ⟨ps, e1, e2, e3⟩ := ih
    refine ⟨(k, c) :: ps, by simp [e1]; omega, ?_, by simp [e3]⟩
    intro i p hp
    cases i with
    | zero =>
      simp at hp
      subst hp
      exact ⟨by simp, by simp, h1, h3⟩
    | succ i =>
      have := e2 i p (by simpa using hp)
      refine ⟨?_, ?_, this.2.2⟩
      · rw [show 2 * (i + 1) = 2 * i + 1 + 1 by omega]; simpa using this.1
      · rw [show 2 * (i + 1) + 1 = (2 * i + 1) + 1 + 1 by omega]; simpa using this.2.1
theorem say_cut {l out : List Nat} (S : Say l out) : ∀ cut : Nat, 1 ≤ cut → cut < l.length → l[cut - 1]? ≠ l[cut]? → ∃ o1 o2, Say (l.take cut) o1 ∧ Say (l.drop cut) o2 ∧ o1 ++ o2 = out := by
  induction S with
  | nil => intro cut h1 h2; simp at h2
  | run k c rest out h1 h3 hr S ih =>
    intro cut hc1 hc2 hne
    rcases Nat.lt_trichotomy cut k with hk | hk | hk
    · refine absurd ?_ hne
      rw [List.getElem?_append_left (by simp; omega), List.getElem?_append_left (by simp; omega), List.getElem?_replicate, List.getElem?_replicate, if_pos (by omega), if_pos hk]
    · subst hk
      refine ⟨[48 + cut, c], out, ?_, ?_, rfl⟩
      · have := Say.run cut c [] [] h1 h3 (by simp) .nil
        rw [List.append_nil] at this
        simpa using this
      · simpa using S
    · have hlen : (List.replicate k c ++ rest).length = k + rest.length := by simp
      rw [hlen] at hc2
      have g : ∀ j, k ≤ j → (List.replicate k c ++ rest)[j]? = rest[j - k]? := by
        intro j hj
        rw [List.getElem?_append_right (by simpa using hj), List.length_replicate]
      obtain ⟨o1, o2, S1, S2, e⟩ := ih (cut - k) (by omega) (by omega) (by
        rw [g _ (by omega), g _ (by omega)] at hne
        rw [show cut - k - 1 = cut - 1 - k by omega]
        exact hne)
      refine ⟨(48 + k) :: c :: o1, o2, ?_, ?_, by simp [e]⟩
      · have e1 : (List.replicate k c ++ rest).take cut = List.replicate k c ++ rest.take (cut - k) := by
          rw [List.take_append, List.length_replicate, List.take_of_length_le (by simp; omega)]
        rw [e1]
        refine Say.run k c _ o1 h1 h3 ?_ S1
        obtain ⟨j, hj⟩ : ∃ j, cut - k = j + 1 := ⟨cut - k - 1, by omega⟩
        rw [hj]
        cases rest with
        | nil => simp
        | cons a r => simpa using hr
      · have e1 : (List.replicate k c ++ rest).drop cut = rest.drop (cut - k) := by
          rw [List.drop_append, List.length_replicate, List.drop_of_length_le (by simp; omega), List.nil_append]
        rw [e1]
        exact S2
theorem say_fix {l out : List Nat} (S : Say l out) : out = l → l = [] ∨ l = [50, 50] := by
  induction S with
  | nil => intro _; exact .inl rfl
  | run k c rest out h1 h3 hr S ih =>
    intro e
    right
    have : k = 1 ∨ k = 2 ∨ k = 3 := by omega
    rcases this with rfl | rfl | rfl
    · simp [List.replicate_succ] at e
      obtain ⟨rfl, e⟩ := e
      rw [← e] at hr
      simp at hr
    · simp [List.replicate_succ] at e
      obtain ⟨rfl, e⟩ := e
      rcases ih e with h | h
      · subst h; rfl
      · rw [h] at hr; simp at hr
    · simp [List.replicate_succ] at e
      obtain ⟨rfl, e⟩ := e
      cases S with
      | nil => simp at e
      | run k2 c2 rest2 out2 g1 g3 gr S2 =>
        have : k2 = 1 ∨ k2 = 2 ∨ k2 = 3 := by omega
        rcases this with rfl | rfl | rfl
        · simp at e
        · simp at e
        · simp [List.replicate_succ] at e
          cases S2 with
          | nil => simp at e
          | run k3 c3 rest3 out3 f1 f3 fr S3 =>
            obtain ⟨k3', rfl⟩ : ∃ j, k3 = j + 1 := ⟨k3 - 1, by omega⟩
            simp [List.replicate_succ] at e gr
            omega
theorem say_22 {l out : List Nat} (S : Say l out) (hn : l ≠ []) : (out = l) ↔ (l = [50, 50]) := by
  constructor
  · intro e
    exact (say_fix S e).resolve_left hn
  · rintro rfl
    have S' : Say [50, 50] [50, 50] := Say.run 2 50 [] [] (by omega) (by omega) (by simp) .nil
    have uniq : ∀ {l o : List Nat}, Say l o → l = [50, 50] → o = [50, 50] := by
      intro l o S e
      cases S with
      | nil => simp at e
      | run k c rest out h1 h3 hr S =>
        have : k = 1 ∨ k = 2 ∨ k = 3 := by omega
        rcases this with rfl | rfl | rfl
        · simp [List.replicate_succ] at e
          obtain ⟨rfl, rfl⟩ := e
          simp at hr
        · simp [List.replicate_succ] at e
          obtain ⟨rfl, rfl⟩ := e
          rw [say_empty S]
        · simp [List.replicate_succ] at e
    exact uniq S rfl
end
section
open PySem PySem.Spec PySem.Calls PySem.W PyProof.Rows
set_option maxRecDepth 100000
theorem range_two {b : Int} {n : Nat} (hb : b = ((2 * n : Nat) : Int)) : Builtin.Range.rangeSize 0 b 2 = ((n : Nat) : Int) := by
  subst hb
  unfold Builtin.Range.rangeSize
  rw [if_pos (by decide)]
  split <;> omega
theorem fitsL {i : Int} (h0 : -10000 ≤ i) (h1 : i ≤ 10000) : Builtin.Range.rangeFitsLong i = true := by
  unfold Builtin.Range.rangeFitsLong
  rw [Bool.and_eq_true, decide_eq_true_eq, decide_eq_true_eq]
  constructor <;> omega
theorem small_two {b : Int} {n : Nat} (hb : b = ((2 * n : Nat) : Int)) (hn : n ≤ 1000) : Builtin.Range.small 0 b 2 = true := by
  unfold Builtin.Range.small
  rw [range_two hb]
  rw [if_pos (by decide), fitsL (by omega) (by omega), fitsL (by omega) (by omega), fitsL (by omega) (by omega), fitsL (by omega) (by omega), fitsL (by omega) (by omega)]
  simp
section
variable {prog : Program} {w : World} {A : Around} {E : Value → Shared → Prop} {s : Shared} {h₀ : Heap} {L : Addr} {m : Str → Option Value} {env : Env}
/-- any source whose iterator is one new object -/
def SrcG (prog : Program) (w : World) (A : Around) (h₀ : Heap) (L : Addr) (m : Str → Option Value) (env : Env) (elt : Expr) (x : Str) (scope : Scope) (cl : List (Str × Addr)) (Fin : Shared → List Value → List (Addr × Obj) → Prop) (xv : Value) (s₁ : Shared) : Prop :=
  ∃ (o : Obj) (n : Nat) (P : Nat → Value → Prop) (St : Nat → Heap → Prop) (news : Led), Fr h₀ L s₁.heap m ∧ News h₀ L s₁.heap news ∧ n ≤ sizeLine ∧
    (∀ (Q' E' : Value → Shared → Prop), Q' (.ref s₁.heap.objs.size) { s₁ with heap := s₁.heap.push o } → wpAny (model prog w) A (pyIter xv) Q' E' s₁) ∧
    Walks prog w A s₁.heap.objs.size [s₁.heap.objs.size] [s₁.heap.objs.size] n P St ∧ (∀ i h, St i h → ∃ o, h.get? s₁.heap.objs.size = some o) ∧ St 0 (s₁.heap.push o) ∧
    ∀ g, LCg.CompRest prog w A h₀ L m env elt x scope cl { s₁ with heap := g } (fun _ => True) P (Fin { s₁ with heap := g }) n 0 [] news
theorem ListComp_G {elt iter : Expr} {x : Str} {px : Pos} {scope : Scope} {cl : List (Str × Addr)} {pos : Pos} {Q : Value → Shared → Prop} (F₀ : Fr h₀ L s.heap m)
    (hclos : closureFor scope env = pure cl) (hcell : ∀ y ∈ scope.names, y.2 ≠ .cell) (hkind : scope.kind = .function)
    (hnames : ∀ y ∈ scope.names, y.2 = .local → scope.names.lookup y.1 = some .local) (hx : scope.names.lookup x = some .local)
    (h : wpAny (model prog w) A (eval iter env) (SrcG prog w A h₀ L m env elt x scope cl (fun s₂ => LCg.FinE h₀ L m s₂ Q)) E s)
    (hs : ∀ x, foldedSetIterable iter env x = pure x := by intro _; rfl) :
    wpAny (model prog w) A (eval (.ListComp elt [⟨.Name x px, iter, [], 0⟩] scope pos) env) Q E s := by
  rw [eval_ListComp]
  refine wpAny_comprehension_free (use := none) rfl hs hclos hkind hnames (wpAny_mono h (fun xv s₁ h₁ => ?_) fun _ _ e => e)
  obtain ⟨o, n, P, St, news, F, N, hsz, hit, W, hIo, hst, R⟩ := h₁
  refine hit _ _ ?_
  refine LCg.block_U W hsz hIo (fun i h h' o nw st e e' _ _ _ => W.frame i h h' st fun b hb o' eo => by
      rw [List.mem_singleton.mp hb] at eo ⊢
      rw [e] at eo; cases eo; exact e') hcell hkind hx hst (fun b hb => ?_)
    (F.keeps fun _ _ e => Heap.get?_push_of_some _ e) (N.grown fun _ _ e => Heap.get?_push_of_some _ e) (Nat.ne_of_lt F.ns.lt) (next_is_new F) (fun p hp => Nat.ne_of_lt (Heap.lt_size (N p hp).1)) trivial (R _) ?_
  · rw [List.mem_singleton.mp hb]
    show s₁.heap.objs.size < (s₁.heap.push _).objs.size
    rw [Heap.size_push]; exact Nat.lt_succ_self _
  · intro D C h tk m' ys news' F' N' o1 hn hC₀ hD₀ hCL hDL hCD offC fin
    refine ⟨m', hn, fun h'' hs'' => fin D h'' tk (F'.change hs'' hCL hC₀) (fun p hp => ?_) o1⟩
    refine ⟨hs''.extBut _ _ ?_ (N' p hp).1, (N' p hp).2⟩
    rcases List.mem_cons.mp hp with rfl | hp
    · exact Ne.symm hCD
    · exact offC p hp
variable {elt : Expr} {x : Str} {scope : Scope} {cl : List (Str × Addr)} {Fin : Shared → List Value → List (Addr × Obj) → Prop} {news : Led} {s₁ : Shared}
/-- over a range by steps -/
theorem SrcG.range {r : Addr} {a b c : Int} {t u v : Tok} {n : Nat} (hh : A.handled = none) (F : Fr h₀ L s₁.heap m) (N : News h₀ L s₁.heap news) (hr : IsRange s₁.heap r a b c t u v) (hsm : Builtin.Range.small a b c = true) (hn : Builtin.Range.rangeSize a b c = ((n : Nat) : Int)) (hsz : n ≤ sizeLine)
    (h : ∀ g, LCg.CompRest prog w A h₀ L m env elt x scope cl { s₁ with heap := g } (fun _ => True) (fun i v => ∃ t, v = .int (a + (i : Int) * c) t) (Fin { s₁ with heap := g }) n 0 [] news) :
    SrcG prog w A h₀ L m env elt x scope cl Fin (.ref r) s₁ :=
  ⟨_, n, _, _, news, F, N, hsz, fun _ _ q => wpAny_pyIter_range hr hsm q, Walks.range hh _ a c n, fun _ _ st => ⟨_, st⟩, by show IsRangeIter _ _ _ _ _; rw [hn]; simpa using Heap.get?_push_size _ rfl, h⟩
/-- over a text's signs -/
theorem SrcG.text {l : List Nat} {t : Tok} (hh : A.handled = none) (F : Fr h₀ L s₁.heap m) (N : News h₀ L s₁.heap news) (ha : l.all (· < 128) = true) (hsz : l.length ≤ 1000)
    (h : ∀ g, LCg.CompRest prog w A h₀ L m env elt x scope cl { s₁ with heap := g } (fun _ => True) (fun i v => ∃ c u, l[i]? = some c ∧ v = .str (St [c]) u) (Fin { s₁ with heap := g }) l.length 0 [] news) :
    SrcG prog w A h₀ L m env elt x scope cl Fin (.str (St l) t) s₁ := by
  have W := Walks.strAscii (prog := prog) (w := w) (A := A) hh s₁.heap.objs.size (St l) t
  have hs : (St l).cps.size = l.length := by simp [St]
  rw [hs] at W
  have hp : SignAt (St l) = fun i v => ∃ c u, l[i]? = some c ∧ v = .str (St [c]) u := by
    funext i v
    simp [SignAt, St]
  rw [hp] at W
  exact ⟨_, l.length, _, _, news, F, N, Nat.le_trans hsz (by rw [show sizeLine = 16777216 from rfl]; omega), fun _ _ q => wpAny_pyIter_ascii (by simpa [St] using ha) q, W, fun i h st => by obtain ⟨o, e, _⟩ := st; exact ⟨o, e⟩, ⟨_, Heap.get?_push_size _ rfl, rfl, rfl⟩, h⟩
end
end
section
open PySem PySem.Spec PySem.Calls PySem.W PyProof.Rows
set_option maxRecDepth 100000
section
variable {w : World} {p : Program} {loose : List Str} {mean : ExcName → Option Value} {mg mb : Str → Option Value}
theorem ct_saidT (y : Nd) (all : Led) (hs : ∀ q ∈ y.led w, q ∈ all) (l out : List Nat) (t1 : Tok) (S : Say l out) (hl : l.length ≤ 900) (ho : out.length ≤ 60) :
    Cl w p loose mean mg mb 24 418 [.ref y.n12, .str (St l) t1] all (fun v news' => ∃ te, v = .str (St out) te ∧ news' = all) := by
  have e : ∀ q, q ∈ ({ y with ex := all } : Nd).led w → q ∈ all := by
    intro q hq
    rcases List.mem_append.mp hq with h | h
    · exact hs q (List.mem_append.mpr (.inl h))
    · exact h
  have e2 : ∀ q ∈ all, q ∈ ({ y with ex := all } : Nd).led w := fun q hq => List.mem_append.mpr (.inr hq)
  have C := ct_said (w := w) (p := p) (loose := loose) (mean := mean) (mg := mg) (mb := mb) { y with ex := all } l out t1 S hl ho
  intro dp un gd cn cs a ccd cl outer A₀ base h₀ L m s Q E B F X N T hk hd hu h
  refine C dp un gd cn cs a ccd cl outer A₀ base h₀ L m s Q E B F X (News.sub N e) T hk hd hu ?_
  rintro v news' h' tk' ⟨te, rfl, rfl⟩ F' N'
  exact h _ _ h' tk' ⟨te, rfl, rfl⟩ F' (News.sub N' e2)
/-- the same call out of the law's own frame -/
theorem said_law (y : Nd) {all : Led} (hs : ∀ q ∈ y.led w, q ∈ all) {l out : List Nat} {t1 : Tok} (S : Say l out) (hl : l.length ≤ 900) (ho : out.length ≤ 60)
    {sc : Scope} {L fad : Addr} {code : Value} {g : Heap} {m : Str → Option Value} {s : Shared} {Q E : Value → Shared → Prop}
    (B : Below callerA g [] g) (F : Fr g L s.heap m) (X : (K w.params).In g) (N : News g L s.heap all) (T : Top p loose mean mg mb g) (hk : sc.kind = .function)
    (h : ∀ te h' tk', Fr g L h' m → News g L h' all → Q (.str (St out) te) { s with heap := h', toks := tk' }) :
    wpAny (model PySem.Challenge.rw_xw0306_01.row.toRowW.prog w) (callerA.deeper (envOfC (.ofString "law") sc L fad code)) (call (.ref 418) [.ref y.n12, .str (St l) t1]) Q E s :=
  ct_saidT y all hs l out t1 S hl ho _ _ _ (.ofString "law") sc fad code (cellsFrom (L + 1) sc.names []) [] callerA g g L m s Q E B F X N T hk (by decide) (by decide) fun v news' h' tk' hp F' N' => by
    obtain ⟨te, rfl, rfl⟩ := hp
    exact h te h' tk' F' N'
end
end
section
open PySem PySem.Spec PySem.Calls PySem.W PyProof.Rows
set_option maxRecDepth 100000
local macro_rules | `(tactic| k_mem) => `(tactic| assumption)
local macro_rules | `(tactic| walk_at "eval Name") => `(tactic| walk_at "mine 10")
local macro_rules | `(tactic| walk_at "CompSrc") => `(tactic| (refine halt ?_))
theorem ints_of (f : Int → Int) : ∀ (l : List Int) (ys : List Value), ys.length = l.length → (∀ (i : Nat) (y : Value), ys[i]? = some y → ∃ (k : Int) (t : Tok), l[i]? = some k ∧ y = .int (f k) t) → IntsAre ys (l.map f)
  | [], ys, hl, _ => by
    cases ys with
    | nil => exact .nil
    | cons a r => simp at hl
  | k :: l, ys, hl, h => by
    cases ys with
    | nil => simp at hl
    | cons a r =>
      obtain ⟨k', t, e, rfl⟩ := h 0 a rfl
      cases e
      exact .cons (f k) t (ints_of f l r (by simpa using hl) fun i y hy => by
        have := h (i + 1) y (by simpa using hy)
        simpa using this)
local macro_rules | `(tactic| walk_at "execs cons") => `(tactic| (k_here; (with_reducible show wpAny _ _ (execs (Stmt.Assign _ (Expr.Call _ _ _ _) _ :: _) _) _ _ _); refine halt ?_))
/-- the four cells that the law makes of its script -/
def cellsOf (xs : List Int) : List Int := (xs.take 4).map (fun k => ((k.natAbs : Nat) : Int)) ++ [3, 31, 1, 0].drop (xs.take 4).length
section
variable {w : World} {p : Program} {loose : List Str} {mean : ExcName → Option Value} {mg mb : Str → Option Value}
local macro_rules | `(tactic| walk_at "call builtin:len") => `(tactic| (refine halt ?_))
local macro_rules | `(tactic| walk_at "subscriptTail Name Slice ref ref") => `(tactic| (k_here; (with_reducible show wpAny _ _ (subscriptTail _ (PySem.Expr.Slice (some _) _ none _) (Value.ref _) (Value.ref _)) _ _ _); refine halt ?_))
local macro_rules | `(tactic| walk_at "CompEnd") => `(tactic| (refine halt ?_))
set_option maxHeartbeats 4000000 in
theorem segA {fn : Str} {fa : Arguments} {fb : List Stmt} {fd : List PySem.Expr} {fr : Option PySem.Expr} {ft : List TypeParam} {sc : Scope} {fts : Option Scope} {fbd : Str} {fps : Pos}
    (hf : nthS 55 PB = .FunctionDef fn fa fb fd fr ft sc fts fbd fps)
    {rest : List Stmt} (hr : fb.drop 2 = rest) {g : Heap} {L fad : Addr} {code : Value} {m : Str → Option Value} {s : Shared} {qk : Flow → Shared → Prop} {ek : Value → Shared → Prop} {o1 o2 o3 : Obj} {xs : List Int} {vs : List Value} {la : Addr}
    (d1 : o1.data = .cell none) (F : Fr g L s.heap m) (X : (K w.params).In g) (N : News g L s.heap [(L + 1 + 1 + 1, o3), (L + 1 + 1, o2), (L + 1, o1)]) (T : Top p loose mean mg mb g)
    (ms : m (.ofString "script") = some (.ref la)) (hL : g.IsList la vs.toArray) (hI : IntsAre vs xs) (hlen : xs.length ≤ 63)
    (next : ∀ h' tk' m' D o1' ys, Fr g L h' m' → News g L h' [(D, W.listOf ys.toArray 0), (L + 1 + 1 + 1, o3), (L + 1 + 1, o2), (L + 1, o1')] → o1'.data = .cell (some (.ref D)) → IntsAre ys (cellsOf xs) → Ord [L + 1 + 1 + 1, D] →
      wpAny (model PG w) (callerA.deeper (envOfC (.ofString "law") sc L fad code)) (execs rest (envOfC (.ofString "law") sc L fad code)) qk ek { s with heap := h', toks := tk' }) :
    wpAny (model PG w) (callerA.deeper (envOfC (.ofString "law") sc L fad code)) (execs fb (envOfC (.ofString "law") sc L fad code)) qk ek s := by
  revert X; unfold PG; k_fill; intro X
  injection hf with f1 f2 f3 f4 f5 f6 f7 f8 f9 f10
  subst f1 f2 f3 f4 f5 f6 f7 f8 f9 f10
  with_reducible dsimp only [List.drop] at hr
  k_steps
  refine halt_out ?_
  try dsimp only
  refine' LCg.CompSrc.ledger ?zh ?zF ?zN ?zm ?zsz ?_
  case zh => rfl
  case zF => assumption
  case zN => assumption
  case zm => k_mem
  case zsz => size_fits
  intro g'
  try dsimp only
  refine' cr_own (fun i y => ∃ (k : Int) (t : Tok), (xs.take 4)[i]? = some k ∧ y = .int ((k.natAbs : Nat) : Int) t) ?zt ?zf
  case zt =>
    intro i v I oI C oC D m₂ ys h tk E' hi hv hC hx F N off ne
    have hk := IntsAre.at (by assumption) i v (by simpa using hv)
    obtain ⟨k, t, rfl, hk⟩ := hk
    have off0 := off
    simp only [LCg.Off3, and_true] at off
    k_steps
    refine halt_out ?_
    have e9 : (if k < 0 then -k else k) = ((k.natAbs : Nat) : Int) := by (split <;> omega)
    exact LCg.CompEnd.intro F N _ in_refl off0 (Or.inr ⟨_, by k_mem, rfl, _, rfl⟩) (crEl ⟨k, _, hk, congrArg (fun z => Value.int z _) e9⟩)
  case zf =>
    intro ys hl hy
    have hI2 := ints_of (fun k => ((k.natAbs : Nat) : Int)) (xs.take 4) ys (by rename IntsAre _ (List.take 4 xs) => hq; rw [hl]; have h9 := hq.length; simp only [List.size_toArray]; exact h9) hy
    clear hy
    have hx63 : (xs.take 4).length ≤ 63 := by rw [List.length_take]; omega
    k_steps
    refine halt_out ?_
    rename IntsAre _ (List.take 4 xs) => hq
    have hq9 := hq.length
    refine len_list (News.isList (by assumption) (by k_mem)) (by rw [List.size_toArray, hq9]; omega) ?_
    rw [List.size_toArray, hq9]
    try dsimp only
    k_steps
    refine halt_out ?_
    refine kmk_slice_ints (ns := [3, 31, 1, 0]) (s := ⟨_, _, _, _, _⟩) (by assumption) (by assumption) (News.isList (by assumption) (by k_mem)) (IsPart.int _ _) IsPart.none (.cons _ _ (.cons _ _ (.cons _ _ (.cons _ _ .nil)))) (kmk_from (.cons _ _ (.cons _ _ (.cons _ _ (.cons _ _ .nil)))) (by omega)) rfl ?_ (by with_unfolding_all rfl) (by intro _; with_unfolding_all rfl) (by rw [PySem.sizeLine_eq]; simp)
    intro D9 ws9 h9 F9 N9 l9 hI9 hC9 hL9
    clear hC9 hL9 hx63 hq9 hl hlen
    repeat (rename (List.length (List.take 4 xs) = _) => hz; clear hz)
    repeat (rename (List.length (List.take 4 xs) ≤ _) => hz; clear hz)
    k_lt l9
    try dsimp only
    k_steps
    refine halt_out ?_
    try dsimp only
    with_reducible refine ex_rest hr ?_
    with_reducible refine' next _ _ _ _ _ _ ?y1 (News.sub ?y2 ?y3) ?y4 ?y5 ?y6
    case y1 => assumption
    case y2 => assumption
    case y3 => ((repeat refine in_cons (by k_mem) ?_); repeat (first | exact in_refl | refine in_skip ?_))
    case y4 => assumption
    case y5 => assumption
    case y6 => (simp only [Ord, and_true]; omega)
end
end
section
open PySem PySem.Spec PySem.Calls PySem.W PyProof.Rows
set_option maxRecDepth 100000
local macro_rules | `(tactic| k_mem) => `(tactic| assumption)
local macro_rules | `(tactic| walk_at "CompSrc") => `(tactic| (refine halt ?_))
local macro_rules | `(tactic| walk_at "binaryOp FloorDiv int int") => `(tactic| (k_here; (refine r_fdiv rfl (by assumption) (by assumption) (by omega) ?_); (try dsimp only)))
local macro_rules | `(tactic| walk_at "subscriptTail") => `(tactic| (k_here; (with_reducible show wpAny _ _ (subscriptTail _ _ (Value.str (PySem.Str.ofString "123") _) (Value.int _ _)) _ _ _); (refine r_123 (by assumption) (by omega) ?_); (try dsimp only)))
local macro_rules | `(tactic| walk_at "execs cons") => `(tactic| (k_here; (with_reducible show wpAny _ _ (execs (Stmt.If _ _ _ _ :: _) _) _ _ _); refine halt ?_))
local macro_rules | `(tactic| walk_at "CompEnd") => `(tactic| (refine halt ?_))
/-- the signs as drawn -/
def drawn (c0 c1 : Nat) : List Nat := (List.range (1 + c0 % 4)).map fun i => 49 + c1 / 3 ^ i % 3
section
variable {w : World} {p : Program} {loose : List Str} {mean : ExcName → Option Value} {mg mb : Str → Option Value}
set_option maxHeartbeats 4000000 in
theorem segB {fn : Str} {fa : Arguments} {fb : List Stmt} {fd : List PySem.Expr} {fr : Option PySem.Expr} {ft : List TypeParam} {sc : Scope} {fts : Option Scope} {fbd : Str} {fps : Pos}
    (hf : nthS 55 PB = .FunctionDef fn fa fb fd fr ft sc fts fbd fps)
    {rest : List Stmt} (hr : fb.drop 3 = rest) {g : Heap} {L fad D : Addr} {code : Value} {m : Str → Option Value} {s : Shared} {qk : Flow → Shared → Prop} {ek : Value → Shared → Prop} {o1 o2 o3 : Obj} {c0 c1 c2 c3 : Nat} {t0 t1 t2 t3 : Tok}
    (d1 : o1.data = .cell (some (.ref D))) (d2 : o2.data = .cell none) (F : Fr g L s.heap m) (X : (K w.params).In g) (N : News g L s.heap [(D, W.listOf #[.int c0 t0, .int c1 t1, .int c2 t2, .int c3 t3] 0), (L + 1 + 1 + 1, o3), (L + 1 + 1, o2), (L + 1, o1)]) (T : Top p loose mean mg mb g)
    (next : ∀ h' tk' m' o2' t, Fr g L h' m' → News g L h' [(D, W.listOf #[.int c0 t0, .int c1 t1, .int c2 t2, .int c3 t3] 0), (L + 1 + 1 + 1, o3), (L + 1 + 1, o2'), (L + 1, o1)] → o2'.data = .cell (some (.str (St (drawn c0 c1)) t)) →
      wpAny (model PG w) (callerA.deeper (envOfC (.ofString "law") sc L fad code)) (execs rest (envOfC (.ofString "law") sc L fad code)) qk ek { s with heap := h', toks := tk' }) :
    wpAny (model PG w) (callerA.deeper (envOfC (.ofString "law") sc L fad code)) (execs (fb.drop 2) (envOfC (.ofString "law") sc L fad code)) qk ek s := by
  revert X; unfold PG; k_fill; intro X
  injection hf with f1 f2 f3 f4 f5 f6 f7 f8 f9 f10
  subst f1 f2 f3 f4 f5 f6 f7 f8 f9 f10
  with_reducible dsimp only [List.drop] at hr ⊢
  k_steps
  refine halt_out ?_
  try dsimp only
  have e0 : (1 : Int) + (((c0 : Nat) : Int)).fmod 4 = ((1 + c0 % 4 : Nat) : Int) := by
    rw [Int.fmod_eq_emod_of_nonneg _ (by decide)]; omega
  rename IsRange _ _ _ _ _ _ _ _ => hrg
  refine' LCg.CompSrc.range (n := 1 + c0 % 4) ?zh ?zF ?zN hrg ?zm ?zn ?zs ?_
  case zh => rfl
  case zF => assumption
  case zN => assumption
  case zm => (show Builtin.Range.small 0 (1 + ((c0 : Nat) : Int).fmod 4) 1 = true); rw [e0]; exact small_one (by omega) (by omega) (by omega) (by omega)
  case zn => (show Builtin.Range.rangeSize 0 (1 + ((c0 : Nat) : Int).fmod 4) 1 = _); rw [e0]; exact rangeSize_nat _ _
  case zs => rw [PySem.sizeLine_eq]; omega
  intro g'
  try dsimp only
  refine' cr_own (fun i y => ∃ t : Tok, y = .str (St [49 + c1 / 3 ^ i % 3]) t) ?zt ?zf
  case zt =>
    intro i v I oI C oC D' m₂ ys h tk E' hi hv hC hx F N off ne
    obtain ⟨t, rfl⟩ := hv
    have off0 := off
    simp only [LCg.Off3, and_true] at off
    obtain ⟨q3, hq3⟩ : ∃ q, q = 3 ^ i := ⟨_, rfl⟩
    have hi4 : i = 0 ∨ i = 1 ∨ i = 2 ∨ i = 3 := by omega
    have hq1 : 1 ≤ q3 := by rcases hi4 with rfl | rfl | rfl | rfl <;> simp [hq3]
    have hq2 : q3 ≤ 27 := by rcases hi4 with rfl | rfl | rfl | rfl <;> simp [hq3]
    have hqe : (3 : Int) ^ ((0 : Int) + (i : Int)).toNat = (q3 : Int) := by rcases hi4 with rfl | rfl | rfl | rfl <;> simp [hq3]
    have hme : (((c1 / q3 : Nat) : Int)).fmod 3 = ((c1 / q3 % 3 : Nat) : Int) := by rw [Int.fmod_eq_emod_of_nonneg _ (by decide)]; omega
    have hml : c1 / q3 % 3 ≤ 2 := by omega
    clear hi4
    k_steps
    refine halt_out ?_
    subst hq3
    exact LCg.CompEnd.intro F N _ in_refl off0 True.intro (crEl ⟨_, rfl⟩)
  case zf =>
    intro ys hl hy
    have hS := strs_of ((drawn c0 c1).map fun c => [c]) ys (by rw [hl]; simp [drawn]) (fun i y e => by
      obtain ⟨t, rfl⟩ := hy i y e
      have hi : i < 1 + c0 % 4 := by rw [← hl]; exact (List.getElem?_eq_some_iff.mp e).1
      exact ⟨_, t, by simp [drawn, hi], rfl⟩)
    have hfl : ((drawn c0 c1).map fun c => [c]).flatten = drawn c0 c1 := by
      rw [← List.flatMap_def]; simp
    have hdl : (drawn c0 c1).length = 1 + c0 % 4 := by simp [drawn]
    clear hy
    k_steps
    refine r_join (News.isList (by assumption) (by k_mem)) (ls := (drawn c0 c1).map fun c => [c]) (show StrsAre ys.toArray.toList _ from hS) (by rw [hfl, hdl]; omega) (by rw [List.length_map, hdl]; omega) ?_
    intro t' k'
    rw [hfl]
    clear hS
    try dsimp only
    k_steps
    refine halt_out ?_
    try dsimp only
    with_reducible refine ex_rest hr ?_
    with_reducible refine' next _ _ _ _ _ ?y1 (News.sub ?y2 ?y3) ?y4
    case y1 => assumption
    case y2 => assumption
    case y3 => ((repeat refine in_cons (by k_mem) ?_); repeat (first | exact in_refl | refine in_skip ?_))
    case y4 => assumption
end
end
open PySem PySem.Spec PySem.Calls PySem.W PyProof.Rows
local macro_rules | `(tactic| walk_at "mine 13") => `(tactic| (k_here; (with_reducible show wpAny _ _ (compareOp _ (Value.str (St _) _) (Value.str (St _) _)) _ _ _); refine halt ?_))
local macro_rules | `(tactic| walk_at "mine 14") => `(tactic| (k_here; (with_reducible show wpAny _ _ (binaryOp _ (Value.str (St _) _) (Value.int _ _)) _ _ _); (refine r_mul (k := 4) rfl (by omega) (by omega) ?_); intro t9 k9; (try dsimp only)))
local macro_rules | `(tactic| walk_at "mine 15") => `(tactic| (k_here; (with_reducible show wpAny _ _ (subscriptTail _ (Expr.Slice _ _ _ _) (Value.str (St _) _) (Value.ref _)) _ _ _); refine halt ?_))
section
open PySem PySem.Spec PySem.Calls PySem.W PyProof.Rows
set_option maxRecDepth 100000
local macro_rules | `(tactic| walk_at "subscriptTail") => `(tactic| (k_here; (with_reducible show wpAny _ _ (subscriptTail _ _ (Value.str (St _) _) (Value.int _ _)) _ _ _); (refine r_item (by decide) (by assumption) (by omega) ?_); (try dsimp only)))
local macro_rules | `(tactic| walk_at "subscriptTail") => `(tactic| walk_at "mine 15")
local macro_rules | `(tactic| walk_at "binaryOp Mult str int") => `(tactic| walk_at "mine 14")
local macro_rules | `(tactic| walk_at "compareOp Eq str str") => `(tactic| walk_at "mine 13")
local macro_rules | `(tactic| walk_at "execs cons") => `(tactic| (k_here; (with_reducible show wpAny _ _ (execs (Stmt.Assign _ (Expr.Tuple _ _ _) _ :: _) _) _ _ _); refine halt ?_))
section
variable {w : World} {p : Program} {loose : List Str} {mean : ExcName → Option Value} {mg mb : Str → Option Value}
set_option maxHeartbeats 4000000 in
theorem segC {fn : Str} {fa : Arguments} {fb : List Stmt} {fd : List PySem.Expr} {fr : Option PySem.Expr} {ft : List TypeParam} {sc : Scope} {fts : Option Scope} {fbd : Str} {fps : Pos}
    (hf : nthS 55 PB = .FunctionDef fn fa fb fd fr ft sc fts fbd fps)
    {rest : List Stmt} (hr : fb.drop 4 = rest) {g : Heap} {L fad D : Addr} {c0 c1 c2 c3 : Nat} {t0 t1 t2 t3 : Tok} {code : Value} {m : Str → Option Value} {s : Shared} {qk : Flow → Shared → Prop} {ek : Value → Shared → Prop} {o1 o2 o3 : Obj} {l l' : List Nat} {c : Nat} {t : Tok}
    (d2 : o2.data = .cell (some (.str (St l) t))) (hl : l.length ≤ 100) (hc : l[0]? = some c) (hl' : l' = if l = List.replicate 4 c then l.drop 1 else l) (F : Fr g L s.heap m) (X : (K w.params).In g) (N : News g L s.heap [(D, W.listOf #[.int c0 t0, .int c1 t1, .int c2 t2, .int c3 t3] 0), (L + 1 + 1 + 1, o3), (L + 1 + 1, o2), (L + 1, o1)]) (T : Top p loose mean mg mb g)
    (next : ∀ h' tk' m' o2' t, Fr g L h' m' → News g L h' [(D, W.listOf #[.int c0 t0, .int c1 t1, .int c2 t2, .int c3 t3] 0), (L + 1 + 1 + 1, o3), (L + 1 + 1, o2'), (L + 1, o1)] → o2'.data = .cell (some (.str (St l') t)) →
      wpAny (model PG w) (callerA.deeper (envOfC (.ofString "law") sc L fad code)) (execs rest (envOfC (.ofString "law") sc L fad code)) qk ek { s with heap := h', toks := tk' }) :
    wpAny (model PG w) (callerA.deeper (envOfC (.ofString "law") sc L fad code)) (execs (fb.drop 3) (envOfC (.ofString "law") sc L fad code)) qk ek s := by
  revert X; unfold PG; k_fill; intro X
  injection hf with f1 f2 f3 f4 f5 f6 f7 f8 f9 f10
  subst f1 f2 f3 f4 f5 f6 f7 f8 f9 f10
  with_reducible dsimp only [List.drop] at hr ⊢
  k_steps
  refine halt_out ?_
  try dsimp only
  by_cases hq : l = List.replicate 4 c
  · refine r_eq true (by rw [St_cps, St_cps]; simpa using hq) ?_
    rw [if_pos hq] at hl'
    have hsl : Txt.slice (St l) (some 1) none = St l' := hl' ▸ sl_drop (a := 1) rfl (by rw [hq, List.length_replicate]; omega)
    clear hq
    walk1
    refine ite_tt ?_
    k_steps
    refine halt_out ?_
    refine r_slice_sn (s := ⟨_, _, _, _, _⟩) (by assumption) (by assumption) hsl (by omega) ?_
    intro h7 t7 k7 F7 N7
    try dsimp only
    k_steps
    refine halt_out ?_
    try dsimp only
    with_reducible refine ex_rest hr ?_
    with_reducible refine' next _ _ _ _ _ ?y1 (News.sub ?y2 ?y3) ?y4
    case y1 => assumption
    case y2 => assumption
    case y3 => ((repeat refine in_cons (by k_mem) ?_); repeat (first | exact in_refl | refine in_skip ?_))
    case y4 => assumption
  · refine r_eq false (by rw [St_cps, St_cps]; simpa using hq) ?_
    rw [if_neg hq] at hl'
    clear hq
    walk1
    refine ite_ff ?_
    k_steps
    refine halt_out ?_
    try dsimp only
    with_reducible refine ex_rest hr ?_
    with_reducible exact next _ _ _ _ _ F N (by rw [hl']; exact d2)
end
end
section
open PySem PySem.Spec PySem.Calls PySem.W PyProof.Rows
set_option maxRecDepth 100000
local macro_rules | `(tactic| walk_at "execs cons") => `(tactic| (k_here; (with_reducible show wpAny _ _ (execs (Stmt.For _ _ _ _ _ :: _) _) _ _ _); refine halt ?_))
theorem nd_of {w : World} {g h : Heap} {L : Addr} {n1 n2 n3 n4 n5 n6 n7 n8 n9 n10 n11 n12 iX dX iY dY iR dR : Addr} {u0 u1 u2 u3 u4 u5 u6 u7 u8 u9 u10 u11 u12 u13 u14 u15 u16 u17 u18 u19 u20 u21 u22 u23 u24 u25 u26 u27 u28 u29 : Tok} {led : Led}
    (N : News g L h ((n12, tup [.str (.ofString "cat") u29, .ref n11, .ref n9]) :: (n11, tup [.str (.ofString "now") u28, .ref n10, .ref iX]) :: (iX, instObj 110 dX) :: (dX, NR w (.ofString "X") u23 u24 u25 u26 u27) :: (n10, tup [.str (.ofString "len") u21, .int 1 u22]) ::
      (n9, tup [.str (.ofString "cat") u20, .ref n6, .ref n8]) :: (n8, tup [.str (.ofString "now") u19, .ref n7, .ref iR]) :: (iR, instObj 110 dR) :: (dR, NR w (.ofString "R") u14 u15 u16 u17 u18) :: (n7, tup [.str (.ofString "rem") u13]) ::
      (n6, tup [.str (.ofString "now") u12, .ref n5, .ref iY]) :: (iY, instObj 110 dY) :: (dY, NR w (.ofString "Y") u7 u8 u9 u10 u11) :: (n5, tup [.str (.ofString "alt") u6, .ref n3, .ref n4]) :: (n4, tup [.str (.ofString "chars") u4, .str (.ofString "") u5]) ::
      (n3, tup [.str (.ofString "span") u3, .ref n2]) :: (n2, tup [.str (.ofString "delay") u2, .ref n1]) :: (n1, tup [.str (.ofString "name") u0, .str (.ofString "X") u1]) :: led)) :
    ∃ x : Nd, News g L h (x.led w) ∧ x.ex = led ∧ x.n12 = n12 := by
  refine ⟨⟨n1, n2, n3, n4, n5, n6, n7, n8, n9, n10, n11, n12, iX, dX, iY, dY, iR, dR, fun i => [u0, u1, u2, u3, u4, u5, u6, u7, u8, u9, u10, u11, u12, u13, u14, u15, u16, u17, u18, u19, u20, u21, u22, u23, u24, u25, u26, u27, u28, u29].getD i 0, led⟩, News.sub N ?_, rfl, rfl⟩
  (repeat refine in_cons (by repeat (first | exact List.Mem.head _ | apply List.Mem.tail)) ?_)
  (repeat refine in_skip ?_)
  exact in_refl
section
variable {w : World} {p : Program} {loose : List Str} {mean : ExcName → Option Value} {mg mb : Str → Option Value}
set_option maxHeartbeats 4000000 in
theorem segN {fn : Str} {fa : Arguments} {fb : List Stmt} {fd : List PySem.Expr} {fr : Option PySem.Expr} {ft : List TypeParam} {sc : Scope} {fts : Option Scope} {fbd : Str} {fps : Pos}
    (hf : nthS 55 PB = .FunctionDef fn fa fb fd fr ft sc fts fbd fps)
    {rest : List Stmt} (hr : fb.drop 7 = rest) {g : Heap} {L fad : Addr} {code : Value} {m : Str → Option Value} {s : Shared} {qk : Flow → Shared → Prop} {ek : Value → Shared → Prop} {led : Led}
    (F : Fr g L s.heap m) (X : (K w.params).In g) (N : News g L s.heap led) (T : Top p loose mean mg mb g) (B : Below callerA g [] g)
    (next : ∀ h' tk' m' (x : Nd), Fr g L h' m' → News g L h' (x.led w) → x.ex = led → m' (.ofString "node") = some (.ref x.n12) →
      wpAny (model PG w) (callerA.deeper (envOfC (.ofString "law") sc L fad code)) (execs rest (envOfC (.ofString "law") sc L fad code)) qk ek { s with heap := h', toks := tk' }) :
    wpAny (model PG w) (callerA.deeper (envOfC (.ofString "law") sc L fad code)) (execs (fb.drop 4) (envOfC (.ofString "law") sc L fad code)) qk ek s := by
  revert X; unfold PG; k_fill; intro X
  injection hf with f1 f2 f3 f4 f5 f6 f7 f8 f9 f10
  subst f1 f2 f3 f4 f5 f6 f7 f8 f9 f10
  with_reducible dsimp only [List.drop] at hr ⊢
  k_steps
  refine halt_out ?_
  obtain ⟨x, Nx, hx1, hx2⟩ := nd_of (by assumption)
  try dsimp only
  with_reducible refine ex_rest hr ?_
  with_reducible refine' next _ _ _ x ?y1 Nx hx1 ?y2
  case y1 => assumption
  case y2 => (rw [hx2]; rfl)
end
end
section
open PySem PySem.Spec PySem.Calls PySem.W PyProof.Rows
set_option maxRecDepth 100000
local macro_rules | `(tactic| k_all) => `(tactic| assumption)
local macro_rules | `(tactic| k_mem) => `(tactic| assumption)
local macro_rules | `(tactic| walk_at "eval Name") => `(tactic| walk_at "mine 10")
local macro_rules | `(tactic| walk_at "call ref") => `(tactic| (k_here; (with_reducible show wpAny _ _ (call (Value.ref 418) _) _ _ _); refine halt ?_))
local macro_rules | `(tactic| walk_at "execs cons") => `(tactic| (k_here; (with_reducible show wpAny _ _ (execs (Stmt.If _ _ _ _ :: _) _) _ _ _); refine halt ?_))
section
variable {w : World} {p : Program} {loose : List Str} {mean : ExcName → Option Value} {mg mb : Str → Option Value}
set_option maxHeartbeats 4000000 in
theorem dayA {fn : Str} {fa : Arguments} {fb : List Stmt} {fd : List PySem.Expr} {fr : Option PySem.Expr} {ft : List TypeParam} {sc : Scope} {fts : Option Scope} {fbd : Str} {fps : Pos}
    {ta it : PySem.Expr} {body orl : List Stmt} {fpo : Pos}
    (hf : nthS 55 PB = .FunctionDef fn fa fb fd fr ft sc fts fbd fps) (hw : nthS 7 fb = .For ta it body orl fpo)
    {rest : List Stmt} (hr : body.drop 1 = rest) {g : Heap} {L fad D : Addr} {code : Value} {m : Str → Option Value} {s : Shared} {qk : Flow → Shared → Prop} {ek : Value → Shared → Prop} {o1 o2 o3 : Obj} {c0 c1 c2 c3 : Nat} {t0 t1 t2 t3 : Tok} {tl : Led}
    {y : Nd} {l out : List Nat} {t : Tok} {v₀ : Option Value} (S : Say l out) (hl : l.length ≤ 16) (ho : out.length ≤ 32) (hD : Ord [L + 1 + 1 + 1, D]) (hd : ∀ q ∈ y.led w, q ∈ tl) (h3 : ∀ q ∈ tl, q.1 ≠ L + 1 + 1 + 1) (mn : m (.ofString "node") = some (.ref y.n12))
    (d1 : o1.data = .cell (some (.ref D))) (d2 : o2.data = .cell (some (.str (St l) t))) (d3 : o3.data = .cell v₀)
    (F : Fr g L s.heap m) (X : (K w.params).In g) (N : News g L s.heap ((D, W.listOf #[.int c0 t0, .int c1 t1, .int c2 t2, .int c3 t3] 0) :: (L + 1 + 1 + 1, o3) :: (L + 1 + 1, o2) :: (L + 1, o1) :: tl)) (T : Top p loose mean mg mb g) (B : Below callerA g [] g)
    (next : ∀ h' tk' o3' t', Fr g L h' m → News g L h' ((D, W.listOf #[.int c0 t0, .int c1 t1, .int c2 t2, .int c3 t3] 0) :: (L + 1 + 1 + 1, o3') :: (L + 1 + 1, o2) :: (L + 1, o1) :: tl) → o3'.data = .cell (some (.str (St out) t')) →
      wpAny (model PG w) (callerA.deeper (envOfC (.ofString "law") sc L fad code)) (execs rest (envOfC (.ofString "law") sc L fad code)) qk ek { s with heap := h', toks := tk' }) :
    wpAny (model PG w) (callerA.deeper (envOfC (.ofString "law") sc L fad code)) (execs body (envOfC (.ofString "law") sc L fad code)) qk ek s := by
  revert X; unfold PG; k_fill; intro X
  simp only [Ord, and_true] at hD
  injection hf with f1 f2 f3 f4 f5 f6 f7 f8 f9 f10
  subst f1 f2 f3 f4 f5 f6 f7 f8 f9 f10
  injection hw with w1 w2 w3 w4 w5
  subst w1 w2 w3 w4 w5
  with_reducible dsimp only [List.drop] at hr
  k_steps
  refine halt_out ?_
  refine said_law y (fun q hq => .tail _ (.tail _ (.tail _ (.tail _ (hd q hq))))) S (by omega) (by omega) B F X N T rfl ?_
  intro te h5 k5 F5 N5
  try dsimp only
  k_steps
  refine halt_out ?_
  try dsimp only
  with_reducible refine ex_rest hr ?_
  with_reducible refine' next _ _ _ _ ?y1 ?y2 ?y3
  case y1 => assumption
  case y2 => assumption
  case y3 => assumption
end
end
open PySem PySem.Spec PySem.Calls PySem.W PyProof.Rows
local macro_rules | `(tactic| walk_at "mine 16") => `(tactic| (k_here; (with_reducible show wpAny _ _ (compareOp _ (Value.str (St _) _) (Value.str (St _) _)) _ _ _); (refine r_ne false (by rw [St_cps]; simp) ?_); (try dsimp only)))
local macro_rules | `(tactic| walk_at "mine 17") => `(tactic| (k_here; (with_reducible show wpAny _ _ (subscriptTail _ _ (Value.str (St _) _) (Value.int _ _)) _ _ _); (refine r_item (by omega) (by assumption) (by omega) ?_); (try dsimp only)))
local macro_rules | `(tactic| walk_at "mine 18") => `(tactic| (k_here; k_dflt (refine ListComp_G (F₀ := by k_asm) (by with_unfolding_all rfl) (by decide) (by rfl) (by decide) (by rfl) ?_)))
section
open PySem PySem.Spec PySem.Calls PySem.W PyProof.Rows
set_option maxRecDepth 100000
local macro_rules | `(tactic| k_all) => `(tactic| assumption)
local macro_rules | `(tactic| k_mem) => `(tactic| assumption)
local macro_rules | `(tactic| walk_at "eval Name") => `(tactic| walk_at "mine 10")
local macro_rules | `(tactic| walk_at "execs cons") => `(tactic| (k_here; (with_reducible show wpAny _ _ (execs (Stmt.If (Expr.BoolOp _ (Expr.Call _ _ _ _ :: _) _) _ _ _ :: _) _) _ _ _); refine halt ?_))
local macro_rules | `(tactic| walk_at "eval ListComp") => `(tactic| walk_at "mine 18")
local macro_rules | `(tactic| walk_at "SrcG") => `(tactic| (refine halt ?_))
local macro_rules | `(tactic| walk_at "call builtin:len") => `(tactic| walk_at "mine 11")
local macro_rules | `(tactic| walk_at "subscriptTail") => `(tactic| walk_at "mine 17")
local macro_rules | `(tactic| walk_at "call type:int") => `(tactic| (k_here; (with_reducible show wpAny _ _ (call (Value.type "int") [Value.str (St _) _]) _ _ _); (refine r_int (by omega) ?_); (try dsimp only)))
local macro_rules | `(tactic| walk_at "binaryOp Mult str int") => `(tactic| (k_here; (with_reducible show wpAny _ _ (binaryOp _ (Value.str (St _) _) (Value.int _ _)) _ _ _); (refine r_mul rfl (by omega) (by omega) ?_); intro t9 k9; (try dsimp only)))
local macro_rules | `(tactic| walk_at "call builtin:str.join") => `(tactic| (k_here; refine halt ?_))
local macro_rules | `(tactic| walk_at "compareOp NotEq str str") => `(tactic| walk_at "mine 16")
local macro_rules | `(tactic| walk_at "ite") => `(tactic| first | with_reducible refine ite_tt ?_ | with_reducible refine ite_ff ?_)
section
variable {w : World} {p : Program} {loose : List Str} {mean : ExcName → Option Value} {mg mb : Str → Option Value}
set_option maxHeartbeats 4000000 in
theorem dayB {fn : Str} {fa : Arguments} {fb : List Stmt} {fd : List PySem.Expr} {fr : Option PySem.Expr} {ft : List TypeParam} {sc : Scope} {fts : Option Scope} {fbd : Str} {fps : Pos}
    {ta it : PySem.Expr} {body orl : List Stmt} {fpo : Pos}
    (hf : nthS 55 PB = .FunctionDef fn fa fb fd fr ft sc fts fbd fps) (hw : nthS 7 fb = .For ta it body orl fpo)
    {rest : List Stmt} (hr : body.drop 2 = rest) {g : Heap} {L fad D : Addr} {code : Value} {m : Str → Option Value} {s : Shared} {qk : Flow → Shared → Prop} {ek : Value → Shared → Prop} {o1 o2 o3 : Obj} {c0 c1 c2 c3 : Nat} {t0 t1 t2 t3 : Tok} {tl : Led}
    {l out : List Nat} {t : Tok} (S : Say l out) (hl : l.length ≤ 16) (ho : out.length ≤ 32) (hD : Ord [L + 1 + 1 + 1, D]) 
    (d1 : o1.data = .cell (some (.ref D))) (d2 : o2.data = .cell (some (.str (St l) t))) {ts : Tok} (d3 : o3.data = .cell (some (.str (St out) ts)))
    (F : Fr g L s.heap m) (X : (K w.params).In g) (N : News g L s.heap ((D, W.listOf #[.int c0 t0, .int c1 t1, .int c2 t2, .int c3 t3] 0) :: (L + 1 + 1 + 1, o3) :: (L + 1 + 1, o2) :: (L + 1, o1) :: tl)) (T : Top p loose mean mg mb g) (B : Below callerA g [] g)
    (next : ∀ h' tk', Fr g L h' m → News g L h' ((D, W.listOf #[.int c0 t0, .int c1 t1, .int c2 t2, .int c3 t3] 0) :: (L + 1 + 1 + 1, o3) :: (L + 1 + 1, o2) :: (L + 1, o1) :: tl) →
      wpAny (model PG w) (callerA.deeper (envOfC (.ofString "law") sc L fad code)) (execs rest (envOfC (.ofString "law") sc L fad code)) qk ek { s with heap := h', toks := tk' }) :
    wpAny (model PG w) (callerA.deeper (envOfC (.ofString "law") sc L fad code)) (execs (body.drop 1) (envOfC (.ofString "law") sc L fad code)) qk ek s := by
  revert X; unfold PG; k_fill; intro X
  simp only [Ord, and_true] at hD
  injection hf with f1 f2 f3 f4 f5 f6 f7 f8 f9 f10
  subst f1 f2 f3 f4 f5 f6 f7 f8 f9 f10
  injection hw with w1 w2 w3 w4 w5
  subst w1 w2 w3 w4 w5
  with_reducible dsimp only [List.drop] at hr ⊢
  obtain ⟨ps, hp1, hp2, hp3⟩ := say_pairs S
  k_steps
  refine halt_out ?_
  try dsimp only
  rename IsRange _ _ _ _ _ _ _ _ => hrg
  refine' SrcG.range (n := ps.length) ?zh ?zF ?zN hrg ?zm ?zn ?zs ?_
  case zh => rfl
  case zF => assumption
  case zN => assumption
  case zm => exact small_two (by rw [hp1]) (by omega)
  case zn => exact range_two (by rw [hp1])
  case zs => rw [PySem.sizeLine_eq]; omega
  intro g'
  try dsimp only
  refine' cr_own (fun i y => ∃ (q : Nat × Nat) (t : Tok), ps[i]? = some q ∧ y = .str (St (List.replicate q.1 q.2)) t) ?zt ?zf
  case zt =>
    intro i v I oI C oC D' m₂ ys h tk E' hi hv hC hx F N off ne
    obtain ⟨t, rfl⟩ := hv
    have off0 := off
    simp only [LCg.Off3] at off
    obtain ⟨⟨k, c⟩, hq⟩ : ∃ q, ps[i]? = some q := ⟨ps[i], by simp [hi]⟩
    obtain ⟨hq1, hq2, hq3, hq4⟩ := hp2 i _ hq
    dsimp only at hq1 hq2 hq3 hq4
    obtain ⟨ii, hii⟩ : ∃ ii : Int, ii = 0 + (i : Int) * 2 := ⟨_, rfl⟩
    rw [← hii] at hx
    have hi0 : 0 ≤ ii := by omega
    have hj1 : out[ii.toNat]? = some (48 + k) := by rw [show ii.toNat = 2 * i by omega]; exact hq1
    have hj2 : out[(ii + 1).toNat]? = some c := by rw [show (ii + 1).toNat = 2 * i + 1 by omega]; exact hq2
    clear hq1 hq2 hii
    k_steps
    exact LCg.CompEnd.intro F N _ in_refl off0 True.intro (crEl ⟨_, _, hq, rfl⟩)
  case zf =>
    intro ys hl2 hy
    have hS := strs_of (ps.map fun q => List.replicate q.1 q.2) ys (by rw [hl2]; simp) (fun i y e => by
      obtain ⟨q, t, e1, rfl⟩ := hy i y e
      exact ⟨_, t, by simp [e1], rfl⟩)
    clear hy
    k_steps
    refine halt_out ?_
    refine r_join (News.isList (by assumption) (by k_mem)) (ls := ps.map fun q => List.replicate q.1 q.2) (show StrsAre ys.toArray.toList _ from hS) (by rw [hp3]; omega) (by rw [List.length_map]; omega) ?_
    intro t' k'
    rw [hp3]
    clear hS
    try dsimp only
    k_steps
    refine halt_out ?_
    try dsimp only
    with_reducible refine ex_rest hr ?_
    with_reducible refine' next _ _ ?y1 (News.sub ?y2 ?y3)
    case y1 => assumption
    case y2 => assumption
    case y3 => ((repeat refine in_cons (by k_mem) ?_); repeat (first | exact in_refl | refine in_skip ?_))
end
end
section
local macro_rules | `(tactic| walk_at "no such key 0") => `(tactic| skip)
open PySem PySem.Spec PySem.Calls PySem.W PyProof.Rows
set_option maxRecDepth 100000
local macro_rules | `(tactic| k_all) => `(tactic| assumption)
local macro_rules | `(tactic| k_mem) => `(tactic| assumption)
local macro_rules | `(tactic| walk_at "eval Name") => `(tactic| walk_at "mine 10")
local macro_rules | `(tactic| walk_at "execs cons") => `(tactic| (k_here; (with_reducible show wpAny _ _ (execs (Stmt.Assign _ (Expr.ListComp _ _ _ _) _ :: _) _) _ _ _); refine halt ?_))
local macro_rules | `(tactic| walk_at "eval ListComp") => `(tactic| walk_at "mine 18")
local macro_rules | `(tactic| walk_at "SrcG") => `(tactic| (refine halt ?_))
local macro_rules | `(tactic| walk_at "subscriptTail") => `(tactic| (k_here; (with_reducible show wpAny _ _ (subscriptTail _ _ (Value.str (St _) _) (Value.int _ _)) _ _ _); (refine r_last (by assumption) (by omega) ?_); (try dsimp only)))
local macro_rules | `(tactic| walk_at "binaryOp Mult str int") => `(tactic| walk_at "mine 14")
local macro_rules | `(tactic| walk_at "compareOp NotIn str str") => `(tactic| (k_here; (with_reducible show wpAny _ _ (compareOp _ (Value.str (St _) _) (Value.str (PySem.Str.ofString "123") _)) _ _ _); (refine r_notin_123 (by assumption) ?_); (try dsimp only)))
local macro_rules | `(tactic| walk_at "compareOp In str str") => `(tactic| (k_here; (with_reducible show wpAny _ _ (compareOp _ (Value.str (St (List.replicate 4 _)) _) (Value.str (St _) _)) _ _ _); (refine r_in_four (by assumption) ?_); (try dsimp only)))
local macro_rules | `(tactic| walk_at "call builtin:any") => `(tactic| (k_here; refine halt ?_))
local macro_rules | `(tactic| walk_at "compareOp NotEq str str") => `(tactic| walk_at "mine 16")
local macro_rules | `(tactic| walk_at "ite") => `(tactic| first | with_reducible refine ite_tt ?_ | with_reducible refine ite_ff ?_)
section
variable {w : World} {p : Program} {loose : List Str} {mean : ExcName → Option Value} {mg mb : Str → Option Value}
set_option maxHeartbeats 4000000 in
theorem dayC {fn : Str} {fa : Arguments} {fb : List Stmt} {fd : List PySem.Expr} {fr : Option PySem.Expr} {ft : List TypeParam} {sc : Scope} {fts : Option Scope} {fbd : Str} {fps : Pos}
    {ta it : PySem.Expr} {body orl : List Stmt} {fpo : Pos}
    (hf : nthS 55 PB = .FunctionDef fn fa fb fd fr ft sc fts fbd fps) (hw : nthS 7 fb = .For ta it body orl fpo)
    {rest : List Stmt} (hr : body.drop 3 = rest) {g : Heap} {L fad D : Addr} {code : Value} {m : Str → Option Value} {s : Shared} {qk : Flow → Shared → Prop} {ek : Value → Shared → Prop} {o1 o2 o3 : Obj} {c0 c1 c2 c3 : Nat} {t0 t1 t2 t3 : Tok} {tl : Led}
    {l out : List Nat} {t : Tok} (G : Good out) {ce : Nat} (hz1 : out.getLast? = some ce) (hz2 : l.getLast? = some ce) (hl : l.length ≤ 16) (ho : out.length ≤ 32) (hD : Ord [L + 1 + 1 + 1, D]) 
    (d1 : o1.data = .cell (some (.ref D))) (d2 : o2.data = .cell (some (.str (St l) t))) {ts : Tok} (d3 : o3.data = .cell (some (.str (St out) ts)))
    (F : Fr g L s.heap m) (X : (K w.params).In g) (N : News g L s.heap ((D, W.listOf #[.int c0 t0, .int c1 t1, .int c2 t2, .int c3 t3] 0) :: (L + 1 + 1 + 1, o3) :: (L + 1 + 1, o2) :: (L + 1, o1) :: tl)) (T : Top p loose mean mg mb g) (B : Below callerA g [] g)
    (next : ∀ h' tk', Fr g L h' m → News g L h' ((D, W.listOf #[.int c0 t0, .int c1 t1, .int c2 t2, .int c3 t3] 0) :: (L + 1 + 1 + 1, o3) :: (L + 1 + 1, o2) :: (L + 1, o1) :: tl) →
      wpAny (model PG w) (callerA.deeper (envOfC (.ofString "law") sc L fad code)) (execs rest (envOfC (.ofString "law") sc L fad code)) qk ek { s with heap := h', toks := tk' }) :
    wpAny (model PG w) (callerA.deeper (envOfC (.ofString "law") sc L fad code)) (execs (body.drop 2) (envOfC (.ofString "law") sc L fad code)) qk ek s := by
  revert X; unfold PG; k_fill; intro X
  simp only [Ord, and_true] at hD
  injection hf with f1 f2 f3 f4 f5 f6 f7 f8 f9 f10
  subst f1 f2 f3 f4 f5 f6 f7 f8 f9 f10
  injection hw with w1 w2 w3 w4 w5
  subst w1 w2 w3 w4 w5
  with_reducible dsimp only [List.drop] at hr ⊢
  have h4 := G.four
  k_steps
  refine halt_out ?_
  try dsimp only
  refine' SrcG.text ?zh ?zF ?zN ?zm ?zs ?_
  case zh => rfl
  case zF => assumption
  case zN => assumption
  case zm =>
    rw [List.all_eq_true]
    intro c hc
    have := G.signs c hc
    rw [decide_eq_true_eq]; omega
  case zs => omega
  intro g'
  try dsimp only
  refine' cr_own (fun i y => y = .bool false) ?zt ?zf
  case zt =>
    intro i v I oI C oC D' m₂ ys h tk E' hi hv hC hx F N off ne
    obtain ⟨c, t, hc, rfl⟩ := hv
    have off0 := off
    simp only [LCg.Off3] at off
    have hc3 := G.signs c (List.mem_of_getElem? hc)
    k_steps
    exact LCg.CompEnd.intro F N _ in_refl off0 True.intro (crEl rfl)
  case zf =>
    intro ys hl2 hy
    have hB := bools_of (List.replicate out.length false) ys (by rw [hl2]; simp) (fun i y e => by
      have hi : i < out.length := by rw [← hl2]; exact (List.getElem?_eq_some_iff.mp e).1
      exact ⟨false, by simp [hi], hy i y e⟩)
    have hany : (List.replicate out.length false).any id = false := by simp
    clear hy
    k_steps
    refine halt_out ?_
    refine LSm.any_bools (by assumption) (by assumption) (by rfl) (News.isList (by assumption) (by k_mem)) hB ?_
    intro h7 k7 F7 N7
    rw [hany]
    clear hB hany
    try dsimp only
    k_steps
    refine halt_out ?_
    try dsimp only
    with_reducible refine ex_rest hr ?_
    with_reducible refine' next _ _ ?y1 (News.sub ?y2 ?y3)
    case y1 => assumption
    case y2 => assumption
    case y3 => ((repeat refine in_cons (by k_mem) ?_); repeat (first | exact in_refl | refine in_skip ?_))
end
end
section
open PySem PySem.Spec PySem.Calls PySem.W PyProof.Rows
set_option maxRecDepth 100000
local macro_rules | `(tactic| k_all) => `(tactic| assumption)
local macro_rules | `(tactic| k_mem) => `(tactic| assumption)
local macro_rules | `(tactic| walk_at "eval Name") => `(tactic| walk_at "mine 10")
local macro_rules | `(tactic| walk_at "execs cons") => `(tactic| (k_here; (with_reducible show wpAny _ _ (execs (Stmt.If (Expr.Compare _ _ _ _) _ _ _ :: _) _) _ _ _); refine halt ?_))
local macro_rules | `(tactic| walk_at "exec Assign cons ListComp") => `(tactic| (k_here; k_dflt (refine LCt.Assign_ListComp_T (F₀ := by k_asm) (by rfl) (by with_unfolding_all rfl) (by with_unfolding_all rfl) (by decide) (by rfl) (by decide) (by rfl) (by rfl) (by rfl) ?_)))
local macro_rules | `(tactic| walk_at "CompSrcT") => `(tactic| (refine halt ?_))
local macro_rules | `(tactic| walk_at "call builtin:len") => `(tactic| walk_at "mine 11")
local macro_rules | `(tactic| walk_at "subscriptTail") => `(tactic| walk_at "mine 17")
local macro_rules | `(tactic| walk_at "subscriptTail Name Name str int") => `(tactic| walk_at "mine 17")
local macro_rules | `(tactic| walk_at "compareOp NotEq str str") => `(tactic| walk_at "mine 13")
local macro_rules | `(tactic| walk_at "ite") => `(tactic| first | with_reducible refine ite_tt ?_ | with_reducible refine ite_ff ?_)
def unlike (l : List Nat) (i : Nat) : Bool := l[i]? != l[i + 1]?
def cutsOf (l : List Nat) : List Int := ((List.range (l.length - 1)).filter (unlike l)).map fun (i : Nat) => 1 + (i : Int)
theorem get_some {l : List Nat} {i : Nat} (h : i < l.length) : ∃ a, l[i]? = some a := ⟨_, List.getElem?_eq_getElem h⟩
theorem ltp1 {i n : Nat} (h : i < n - 1) : i < n := by omega
theorem ltp2 {i n : Nat} (h : i < n - 1) : i + 1 < n := by omega
theorem tn1 {i : Nat} {ii : Int} (h : ii = 1 + (i : Int)) : (ii - 1).toNat = i := by omega
theorem tn2 {i : Nat} {ii : Int} (h : ii = 1 + (i : Int)) : ii.toNat = i + 1 := by omega
theorem ints_map (f : Nat → Int) : ∀ (l : List Nat) (ys : List Value), ys.length = l.length → (∀ (i j : Nat) (y : Value), ys[i]? = some y → l[i]? = some j → ∃ t : Tok, y = .int (f j) t) → IntsAre ys (l.map f)
  | [], ys, hl, _ => by
    cases ys with
    | nil => exact .nil
    | cons a r => simp at hl
  | k :: l, ys, hl, h => by
    cases ys with
    | nil => simp at hl
    | cons a r =>
      obtain ⟨t, rfl⟩ := h 0 k a rfl rfl
      exact .cons (f k) t (ints_map f l r (by simpa using hl) fun i j y hy hj => h (i + 1) j y (by simpa using hy) (by simpa using hj))
section
variable {w : World} {p : Program} {loose : List Str} {mean : ExcName → Option Value} {mg mb : Str → Option Value}
set_option maxHeartbeats 4000000 in
theorem dayD {fn : Str} {fa : Arguments} {fb : List Stmt} {fd : List PySem.Expr} {fr : Option PySem.Expr} {ft : List TypeParam} {sc : Scope} {fts : Option Scope} {fbd : Str} {fps : Pos}
    {ta it : PySem.Expr} {body orl : List Stmt} {fpo : Pos}
    (hf : nthS 55 PB = .FunctionDef fn fa fb fd fr ft sc fts fbd fps) (hw : nthS 7 fb = .For ta it body orl fpo)
    {rest : List Stmt} (hr : body.drop 4 = rest) {g : Heap} {L fad D : Addr} {code : Value} {m : Str → Option Value} {s : Shared} {qk : Flow → Shared → Prop} {ek : Value → Shared → Prop} {o1 o2 o3 : Obj} {c0 c1 c2 c3 : Nat} {t0 t1 t2 t3 : Tok} {tl : Led}
    {l out : List Nat} {t : Tok}  (hl : l.length ≤ 16) (ho : out.length ≤ 32) (hD : Ord [L + 1 + 1 + 1, D]) 
    (d1 : o1.data = .cell (some (.ref D))) (d2 : o2.data = .cell (some (.str (St l) t))) {ts : Tok} (d3 : o3.data = .cell (some (.str (St out) ts)))
    (F : Fr g L s.heap m) (X : (K w.params).In g) (N : News g L s.heap ((D, W.listOf #[.int c0 t0, .int c1 t1, .int c2 t2, .int c3 t3] 0) :: (L + 1 + 1 + 1, o3) :: (L + 1 + 1, o2) :: (L + 1, o1) :: tl)) (T : Top p loose mean mg mb g) (B : Below callerA g [] g)
    {vn : Value} (mn : m (.ofString "node") = some vn)
    (next : ∀ h' tk' m' D' ys, Fr g L h' m' → News g L h' ((D', LCg.lst ys) :: (D, W.listOf #[.int c0 t0, .int c1 t1, .int c2 t2, .int c3 t3] 0) :: (L + 1 + 1 + 1, o3) :: (L + 1 + 1, o2) :: (L + 1, o1) :: tl) → IntsAre ys (cutsOf l) → m' (.ofString "cuts") = some (.ref D') → m' (.ofString "node") = some vn →
      wpAny (model PG w) (callerA.deeper (envOfC (.ofString "law") sc L fad code)) (execs rest (envOfC (.ofString "law") sc L fad code)) qk ek { s with heap := h', toks := tk' }) :
    wpAny (model PG w) (callerA.deeper (envOfC (.ofString "law") sc L fad code)) (execs (body.drop 3) (envOfC (.ofString "law") sc L fad code)) qk ek s := by
  revert X; unfold PG; k_fill; intro X
  simp only [Ord, and_true] at hD
  injection hf with f1 f2 f3 f4 f5 f6 f7 f8 f9 f10
  subst f1 f2 f3 f4 f5 f6 f7 f8 f9 f10
  injection hw with w1 w2 w3 w4 w5
  subst w1 w2 w3 w4 w5
  with_reducible dsimp only [List.drop] at hr ⊢
  k_steps
  refine halt_out ?_
  try dsimp only
  rename IsRange _ _ _ _ _ _ _ _ => hrg
  refine' LCt.CompSrcT.range (n := l.length - 1) ?zh ?zF ?zN hrg ?zm ?zn ?zs ?_
  case zh => rfl
  case zF => assumption
  case zN => assumption
  case zm => exact small_one (by omega) (by omega) (by omega) (by omega)
  case zn => exact (rangeSize_nat _ _).trans (by omega)
  case zs => rw [PySem.sizeLine_eq]; omega
  intro g'
  try dsimp only
  refine' cr_test (unlike l) (fun i y => ∃ t : Tok, y = .int (1 + (i : Int)) t) ?zt ?zf
  case zt =>
    intro i v I oI C oC D' m₂ ys h tk E' hi hv hC hx F N off ne
    obtain ⟨t, rfl⟩ := hv
    have off0 := off
    simp only [LCg.Off3] at off
    obtain ⟨a, ha⟩ : ∃ a, l[i]? = some a := get_some (ltp1 hi)
    obtain ⟨b, hb⟩ : ∃ b, l[i + 1]? = some b := get_some (ltp2 hi)
    obtain ⟨ii, hii⟩ : ∃ ii : Int, ii = 1 + (i : Int) := ⟨_, rfl⟩
    rw [← hii] at hx
    have hi0 : 0 ≤ ii - 1 := by omega
    have hj1 : l[(ii - 1).toNat]? = some a := by rw [tn1 hii]; exact ha
    have hj2 : l[ii.toNat]? = some b := by rw [tn2 hii]; exact hb
    have hT : unlike l i = (a != b) := by unfold unlike; rw [ha, hb]; rfl
    clear ha hb
    k_steps
    refine halt_out ?_
    try dsimp only
    cases hq : (a != b) with
    | true =>
      rw [hq] at hT
      refine r_ne true (by rw [St_cps, St_cps]; simpa using hq) ?_
      clear hq
      k_steps
      exact LCg.CompEnd.intro F N _ in_refl off0 True.intro (crEl ⟨hT, _, by rw [hii]⟩)
    | false =>
      rw [hq] at hT
      refine r_ne false (by rw [St_cps, St_cps]; simpa using hq) ?_
      clear hq
      k_steps
      exact LCg.CompEnd.intro F N _ in_refl off0 True.intro (crEl hT)
  case zf =>
    intro ys hl2 hy
    have hI := ints_map (fun (i : Nat) => 1 + (i : Int)) ((List.range (l.length - 1)).filter (unlike l)) ys hl2 (fun i j y e1 e2 => hy i j y e1 e2)
    clear hy
    k_steps
    refine halt_out ?_
    try dsimp only
    with_reducible refine ex_rest hr ?_
    with_reducible refine' next _ _ _ _ _ ?y1 (News.sub ?y2 ?y3) hI ?y4 ?y5
    case y1 => assumption
    case y2 => assumption
    case y3 => ((repeat refine in_cons (by k_mem) ?_); repeat (first | exact in_refl | refine in_skip ?_))
    case y4 => rfl
    case y5 => exact mn
end
end
section
open PySem PySem.Spec PySem.Calls PySem.W PyProof.Rows
set_option maxRecDepth 100000
local macro_rules | `(tactic| k_all) => `(tactic| assumption)
local macro_rules | `(tactic| k_mem) => `(tactic| assumption)
local macro_rules | `(tactic| walk_at "eval Name") => `(tactic| walk_at "mine 10")
local macro_rules | `(tactic| walk_at "call ref") => `(tactic| (k_here; (with_reducible show wpAny _ _ (call (Value.ref 418) _) _ _ _); refine halt ?_))
local macro_rules | `(tactic| walk_at "compareOp NotEq ref ref") => `(tactic| (refine halt ?_))
local macro_rules | `(tactic| walk_at "binaryOp Mod int int") => `(tactic| (refine halt ?_))
local macro_rules | `(tactic| walk_at "call builtin:len") => `(tactic| (refine halt ?_))
local macro_rules | `(tactic| walk_at "subscriptTail") => `(tactic| (k_here; (with_reducible show wpAny _ _ (subscriptTail _ _ (Value.ref _) (Value.int (_ % _ : Nat) _)) _ _ _); refine halt ?_))
local macro_rules | `(tactic| walk_at "subscriptTail Name BinOp ref int") => `(tactic| (refine halt ?_))
local macro_rules | `(tactic| walk_at "execs cons") => `(tactic| (k_here; (with_reducible show wpAny _ _ (execs (Stmt.If (Expr.Compare (Expr.Compare _ _ _ _) _ _ _) _ _ _ :: _) _) _ _ _); refine halt ?_))
local macro_rules | `(tactic| walk_at "subscriptTail") => `(tactic| walk_at "mine 15")
local macro_rules | `(tactic| walk_at "compareOp NotEq str str") => `(tactic| (k_here; (with_reducible show wpAny _ _ (compareOp _ (Value.str (St _) _) (Value.str (St _) _)) _ _ _); (refine r_ne false (by simp only [bne_self_eq_false]) ?_)))
local macro_rules | `(tactic| walk_at "binaryOp Add str str") => `(tactic| (k_here; (with_reducible show wpAny _ _ (binaryOp _ (Value.str (St _) _) (Value.str (St _) _)) _ _ _); (refine r_add (by omega) (by omega) ?_); intro t9 k9; (try dsimp only)))
local macro_rules | `(tactic| walk_at "ite") => `(tactic| first | with_reducible refine ite_tt ?_ | with_reducible refine ite_ff ?_)
theorem cut_fact {l : List Nat} {k : Nat} {z : Int} (h : (cutsOf l)[k]? = some z) : ∃ cut : Nat, z = (cut : Int) ∧ 1 ≤ cut ∧ cut < l.length ∧ l[cut - 1]? ≠ l[cut]? := by
  unfold cutsOf at h
  rw [List.getElem?_map] at h
  cases hj : ((List.range (l.length - 1)).filter (unlike l))[k]? with
  | none => rw [hj] at h; simp at h
  | some j =>
    rw [hj] at h
    simp at h
    have hm := List.mem_of_getElem? hj
    rw [List.mem_filter, List.mem_range] at hm
    refine ⟨j + 1, by omega, by omega, by omega, ?_⟩
    have := hm.2
    unfold unlike at this
    simpa using this
section
variable {w : World} {p : Program} {loose : List Str} {mean : ExcName → Option Value} {mg mb : Str → Option Value}
set_option maxHeartbeats 4000000 in
theorem dayE {fn : Str} {fa : Arguments} {fb : List Stmt} {fd : List PySem.Expr} {fr : Option PySem.Expr} {ft : List TypeParam} {sc : Scope} {fts : Option Scope} {fbd : Str} {fps : Pos}
    {ta it : PySem.Expr} {body orl : List Stmt} {fpo : Pos}
    (hf : nthS 55 PB = .FunctionDef fn fa fb fd fr ft sc fts fbd fps) (hw : nthS 7 fb = .For ta it body orl fpo)
    {rest : List Stmt} (hr : body.drop 5 = rest) {g : Heap} {L fad D : Addr} {code : Value} {m : Str → Option Value} {s : Shared} {qk : Flow → Shared → Prop} {ek : Value → Shared → Prop} {o1 o2 o3 : Obj} {c0 c1 c2 c3 : Nat} {t0 t1 t2 t3 : Tok} {tl : Led}
    {l out : List Nat} {t : Tok}  (S : Say l out) {D' : Addr} {ys : List Value} {y : Nd} (hI : IntsAre ys (cutsOf l)) (hd : ∀ q ∈ y.led w, q ∈ tl) (hl : l.length ≤ 16) (ho : out.length ≤ 32) (hD : Ord [L + 1 + 1 + 1, D]) 
    (d1 : o1.data = .cell (some (.ref D))) (d2 : o2.data = .cell (some (.str (St l) t))) {ts : Tok} (d3 : o3.data = .cell (some (.str (St out) ts)))
    (F : Fr g L s.heap m) (X : (K w.params).In g) (N : News g L s.heap ((D', LCg.lst ys) :: (D, W.listOf #[.int c0 t0, .int c1 t1, .int c2 t2, .int c3 t3] 0) :: (L + 1 + 1 + 1, o3) :: (L + 1 + 1, o2) :: (L + 1, o1) :: tl)) (T : Top p loose mean mg mb g) (B : Below callerA g [] g)
    (mc : m (.ofString "cuts") = some (.ref D')) (mn : m (.ofString "node") = some (.ref y.n12))
    (next : ∀ h' tk' m', Fr g L h' m' → News g L h' ((D, W.listOf #[.int c0 t0, .int c1 t1, .int c2 t2, .int c3 t3] 0) :: (L + 1 + 1 + 1, o3) :: (L + 1 + 1, o2) :: (L + 1, o1) :: tl) → m' (.ofString "node") = some (.ref y.n12) →
      wpAny (model PG w) (callerA.deeper (envOfC (.ofString "law") sc L fad code)) (execs rest (envOfC (.ofString "law") sc L fad code)) qk ek { s with heap := h', toks := tk' }) :
    wpAny (model PG w) (callerA.deeper (envOfC (.ofString "law") sc L fad code)) (execs (body.drop 4) (envOfC (.ofString "law") sc L fad code)) qk ek s := by
  revert X; unfold PG; k_fill; intro X
  simp only [Ord, and_true] at hD
  injection hf with f1 f2 f3 f4 f5 f6 f7 f8 f9 f10
  subst f1 f2 f3 f4 f5 f6 f7 f8 f9 f10
  injection hw with w1 w2 w3 w4 w5
  subst w1 w2 w3 w4 w5
  with_reducible dsimp only [List.drop] at hr ⊢
  k_steps
  refine halt_out ?_
  try dsimp only
  refine ne_intsK (News.isList (by assumption) (by k_mem)) hI (News.isList (items := ([] : List Value).toArray) (by assumption) (by k_mem)) .nil (by units_room) ?_
  by_cases hq : cutsOf l = []
  · rw [show (!decide (cutsOf l = [])) = false by simp [hq]]
    clear hq
    k_steps
    refine halt_out ?_
    try dsimp only
    with_reducible refine ex_rest hr ?_
    with_reducible refine' next _ _ _ ?y1 (News.sub ?y2 ?y3) ?y4
    case y1 => assumption
    case y2 => assumption
    case y3 => ((repeat refine in_cons (by k_mem) ?_); repeat (first | exact in_refl | refine in_skip ?_))
    case y4 => assumption
  · rw [show (!decide (cutsOf l = [])) = true by simp [hq]]
    have hn0 := List.length_pos_iff.mpr hq
    have hn1 : (cutsOf l).length ≤ l.length - 1 := by
      unfold cutsOf
      rw [List.length_map]
      exact Nat.le_trans (List.length_filter_le _ _) (by rw [List.length_range]; exact Nat.le_refl _)
    have hn2 := hI.length
    have hml := Nat.mod_lt c3 hn0
    obtain ⟨z, hz⟩ : ∃ z, (cutsOf l)[c3 % (cutsOf l).length]? = some z := ⟨_, List.getElem?_eq_getElem (Nat.mod_lt _ hn0)⟩
    obtain ⟨tz, hxz⟩ := hI.get _ z hz
    obtain ⟨cut, rfl, hc1, hc2, hc3⟩ := cut_fact hz
    obtain ⟨q1, q2, S1, S2, hq12⟩ := say_cut S cut hc1 hc2 hc3
    have hql : q1.length + q2.length ≤ 32 := by rw [← List.length_append, hq12]; exact ho
    have hsl1 : Txt.slice (St l) none (some (cut : Int)) = St (l.take cut) := sl_take rfl (by omega)
    have hsl2 : Txt.slice (St l) (some (cut : Int)) none = St (l.drop cut) := sl_drop rfl (by omega)
    have hl1 : (l.take cut).length ≤ 16 := by rw [List.length_take]; omega
    have hl2 : (l.drop cut).length ≤ 16 := by rw [List.length_drop]; omega
    clear hq hc3 hz
    k_steps
    refine halt_out ?_
    refine len_list (News.isList (by assumption) (by k_mem)) (by rw [List.size_toArray]; omega) ?_
    try dsimp only
    k_steps
    refine halt_out ?_
    try dsimp only
    refine r_mod (a := c3) (b := (cutsOf l).length) (by rfl) (by rw [List.size_toArray, hn2]) hn0 ?_
    try dsimp only
    k_steps
    refine halt_out ?_
    refine item_list (News.isList (by assumption) (by k_mem)) (by omega) (by omega) (by rw [Int.toNat_natCast]; simpa using hxz) ?_
    try dsimp only
    clear hxz hml
    k_steps
    refine halt_out ?_
    refine r_slice_ns (s := ⟨_, _, _, _, _⟩) (by assumption) (by assumption) hsl1 (by omega) ?_
    intro h5 t5 k5 F5 N5
    try dsimp only
    k_steps
    refine halt_out ?_
    refine said_law y (fun q hq => by (repeat apply List.Mem.tail); exact hd q hq) S1 (by omega) (by omega) B F5 X N5 T rfl ?_
    intro t6 h6 k6 F6 N6
    try dsimp only
    k_steps
    refine halt_out ?_
    refine r_slice_sn (s := ⟨_, _, _, _, _⟩) (by assumption) (by assumption) hsl2 (by omega) ?_
    intro h7 t7 k7 F7 N7
    try dsimp only
    k_steps
    refine halt_out ?_
    refine said_law y (fun q hq => by (repeat apply List.Mem.tail); exact hd q hq) S2 (by omega) (by omega) B F7 X N7 T rfl ?_
    intro t8 h8 k8 F8 N8
    try dsimp only
    rw [← hq12] at d3
    k_steps
    refine halt_out ?_
    try dsimp only
    with_reducible refine ex_rest hr ?_
    with_reducible refine' next _ _ _ ?y1 (News.sub ?y2 ?y3) ?y4
    case y1 => assumption
    case y2 => assumption
    case y3 => ((repeat refine in_cons (by k_mem) ?_); repeat (first | exact in_refl | refine in_skip ?_))
    case y4 => assumption
end
end
section
open PySem PySem.Spec PySem.Calls PySem.W PyProof.Rows
set_option maxRecDepth 100000
theorem nb_same {prog : Program} {w : World} {A : Around} {E : Value → Shared → Prop} {s : Shared} {a : Bool} {Q : Value → Shared → Prop} (h : Q (.bool false) s) : wpAny (model prog w) A (compareOp .NotEq (.bool a) (.bool a)) Q E s := by
  refine PyProof.Rows.ne_bool ?_
  rw [show (a != a) = false by simp]
  exact h
local macro_rules | `(tactic| k_all) => `(tactic| assumption)
local macro_rules | `(tactic| k_mem) => `(tactic| assumption)
local macro_rules | `(tactic| walk_at "eval Name") => `(tactic| walk_at "mine 10")
local macro_rules | `(tactic| walk_at "compareOp Eq str str") => `(tactic| (k_here; (with_reducible show wpAny _ _ (compareOp _ (Value.str (St _) _) (Value.str _ _)) _ _ _); (refine r_eq _ (by assumption) ?_); (try dsimp only)))
local macro_rules | `(tactic| walk_at "compareOp NotEq bool bool") => `(tactic| (k_here; refine nb_same ?_))
local macro_rules | `(tactic| walk_at "ite") => `(tactic| first | with_reducible refine ite_tt ?_ | with_reducible refine ite_ff ?_)
theorem two_two : (Str.ofString "22").cps.toList = [50, 50] := by decide +kernel
section
variable {w : World} {p : Program} {loose : List Str} {mean : ExcName → Option Value} {mg mb : Str → Option Value}
set_option maxHeartbeats 4000000 in
theorem dayF {fn : Str} {fa : Arguments} {fb : List Stmt} {fd : List PySem.Expr} {fr : Option PySem.Expr} {ft : List TypeParam} {sc : Scope} {fts : Option Scope} {fbd : Str} {fps : Pos}
    {ta it : PySem.Expr} {body orl : List Stmt} {fpo : Pos}
    (hf : nthS 55 PB = .FunctionDef fn fa fb fd fr ft sc fts fbd fps) (hw : nthS 7 fb = .For ta it body orl fpo)
    {g : Heap} {L fad D : Addr} {code : Value} {m : Str → Option Value} {s : Shared} {qk : Flow → Shared → Prop} {ek : Value → Shared → Prop} {o1 o2 o3 : Obj} {c0 c1 c2 c3 : Nat} {t0 t1 t2 t3 : Tok} {tl : Led}
    {l out : List Nat} {t : Tok}  (S : Say l out) (hne : l ≠ []) (h2 : ∀ q ∈ tl, q.1 ≠ L + 1 + 1) (hl : l.length ≤ 16) (ho : out.length ≤ 32) (hD : Ord [L + 1 + 1 + 1, D]) 
    (d1 : o1.data = .cell (some (.ref D))) (d2 : o2.data = .cell (some (.str (St l) t))) {ts : Tok} (d3 : o3.data = .cell (some (.str (St out) ts)))
    (F : Fr g L s.heap m) (X : (K w.params).In g) (N : News g L s.heap ((D, W.listOf #[.int c0 t0, .int c1 t1, .int c2 t2, .int c3 t3] 0) :: (L + 1 + 1 + 1, o3) :: (L + 1 + 1, o2) :: (L + 1, o1) :: tl)) (T : Top p loose mean mg mb g) (B : Below callerA g [] g)
    
    (next : ∀ h' tk' o2' t', Fr g L h' m → News g L h' ((D, W.listOf #[.int c0 t0, .int c1 t1, .int c2 t2, .int c3 t3] 0) :: (L + 1 + 1 + 1, o3) :: (L + 1 + 1, o2') :: (L + 1, o1) :: tl) → o2'.data = .cell (some (.str (St out) t')) → qk .next { s with heap := h', toks := tk' }) :
    wpAny (model PG w) (callerA.deeper (envOfC (.ofString "law") sc L fad code)) (execs (body.drop 5) (envOfC (.ofString "law") sc L fad code)) qk ek s := by
  revert X; unfold PG; k_fill; intro X
  simp only [Ord, and_true] at hD
  injection hf with f1 f2 f3 f4 f5 f6 f7 f8 f9 f10
  subst f1 f2 f3 f4 f5 f6 f7 f8 f9 f10
  injection hw with w1 w2 w3 w4 w5
  subst w1 w2 w3 w4 w5
  with_reducible dsimp only [List.drop]
  obtain ⟨v, hv⟩ : ∃ v, v = (l == [50, 50]) := ⟨_, rfl⟩
  have e1 : ((St out).cps.toList == (St l).cps.toList) = v := by
    rw [St_cps, St_cps, hv, Bool.eq_iff_iff, beq_iff_eq, beq_iff_eq]
    exact say_22 S hne
  have e2 : ((St l).cps.toList == (Str.ofString "22").cps.toList) = v := by
    rw [St_cps, two_two, hv]
  clear hv
  k_steps
  try dsimp only
  exact next _ _ _ _ (by assumption) (by assumption) (by assumption)
end
end
section
open PySem PySem.Spec PySem.Calls PySem.W PyProof.Rows
set_option maxRecDepth 100000
/-- the ledger of the law's own frame -/
abbrev LW (L D : Addr) (o1 o2 o3 : Obj) (c0 c1 c2 c3 : Nat) (t0 t1 t2 t3 : Tok) (tl : Led) : Led :=
  (D, W.listOf #[.int c0 t0, .int c1 t1, .int c2 t2, .int c3 t3] 0) :: (L + 1 + 1 + 1, o3) :: (L + 1 + 1, o2) :: (L + 1, o1) :: tl
section
variable {w : World} {p : Program} {loose : List Str} {mean : ExcName → Option Value} {mg mb : Str → Option Value}
theorem day {fn : Str} {fa : Arguments} {fb : List Stmt} {fd : List PySem.Expr} {fr : Option PySem.Expr} {ft : List TypeParam} {sc : Scope} {fts : Option Scope} {fbd : Str} {fps : Pos}
    {ta it : PySem.Expr} {body orl : List Stmt} {fpo : Pos}
    (hf : nthS 55 PB = .FunctionDef fn fa fb fd fr ft sc fts fbd fps) (hw : nthS 7 fb = .For ta it body orl fpo)
    {g : Heap} {L fad D : Addr} {code : Value} {m : Str → Option Value} {s : Shared} {qk : Flow → Shared → Prop} {ek : Value → Shared → Prop} {o1 o2 o3 : Obj} {c0 c1 c2 c3 : Nat} {t0 t1 t2 t3 : Tok} {tl : Led}
    {y : Nd} {l out : List Nat} {t : Tok} {v₀ : Option Value} (S : Say l out) (G : Good l) (hne : l ≠ []) (hl : l.length ≤ 16) (hD : Ord [L + 1 + 1 + 1, D]) (hd : ∀ q ∈ y.led w, q ∈ tl) (h3 : ∀ q ∈ tl, q.1 ≠ L + 1 + 1 + 1) (h2 : ∀ q ∈ tl, q.1 ≠ L + 1 + 1) (mn : m (.ofString "node") = some (.ref y.n12))
    (d1 : o1.data = .cell (some (.ref D))) (d2 : o2.data = .cell (some (.str (St l) t))) (d3 : o3.data = .cell v₀)
    (F : Fr g L s.heap m) (X : (K w.params).In g) (N : News g L s.heap (LW L D o1 o2 o3 c0 c1 c2 c3 t0 t1 t2 t3 tl)) (T : Top p loose mean mg mb g) (B : Below callerA g [] g)
    (fin : ∀ h' tk' m' o3' o2' t3' t', Fr g L h' m' → News g L h' (LW L D o1 o2' o3' c0 c1 c2 c3 t0 t1 t2 t3 tl) → o3'.data = .cell (some (.str (St out) t3')) → o2'.data = .cell (some (.str (St out) t')) → m' (.ofString "node") = some (.ref y.n12) → qk .next { s with heap := h', toks := tk' }) :
    wpAny (model PG w) (callerA.deeper (envOfC (.ofString "law") sc L fad code)) (execs body (envOfC (.ofString "law") sc L fad code)) qk ek s := by
  have ho : out.length ≤ 32 := by have := say_len S; omega
  have GO := say_good S G
  obtain ⟨ce, hz2⟩ : ∃ ce, l.getLast? = some ce := by
    cases e : l.getLast? with
    | none => rw [List.getLast?_eq_none_iff] at e; exact absurd e hne
    | some a => exact ⟨a, rfl⟩
  have hz1 : out.getLast? = some ce := (say_last S).trans hz2
  refine dayA hf hw rfl S hl ho hD hd h3 mn d1 d2 d3 F X N T B ?_
  intro h1' k1 o3' ts F1 N1 e3
  refine dayB hf hw rfl S hl ho hD d1 d2 e3 F1 X N1 T B ?_
  intro h2' k2 F2 N2
  refine dayC hf hw rfl GO hz1 hz2 hl ho hD d1 d2 e3 F2 X N2 T B ?_
  intro h3' k3 F3 N3
  refine dayD hf hw rfl hl ho hD d1 d2 e3 F3 X N3 T B mn ?_
  intro h4' k4 m4 D' ys F4 N4 hI mc4 mn4
  refine dayE hf hw rfl S hI hd hl ho hD d1 d2 e3 F4 X N4 T B mc4 mn4 ?_
  intro h5' k5 m5 F5 N5 mn5
  refine dayF hf hw S hne h2 hl ho hD d1 d2 e3 F5 X N5 T B ?_
  intro h6' k6 o2' t' F6 N6 e2
  exact fin h6' k6 m5 o3' o2' ts t' F6 N6 e3 e2 mn5
end
end
section
open PySem PySem.Spec PySem.Calls PySem.W PyProof.Rows
set_option maxRecDepth 100000
local macro_rules | `(tactic| k_all) => `(tactic| assumption)
local macro_rules | `(tactic| k_mem) => `(tactic| assumption)
local macro_rules | `(tactic| walk_at "exec For Name Call cons nil") => `(tactic| (k_here; (rename Fr _ _ _ _ => lF'); (with_unfolding_all refine' For_invVF lF' ?k1 ?k2 ?_ (hE := ?k3); (case k1 => exact rfl); (case k2 => exact rfl); (case k3 => assumption); k_whole)))
local macro_rules | `(tactic| walk_at "pyIter ref") => `(tactic| (refine halt ?_))
section
variable {w : World} {p : Program} {loose : List Str} {mean : ExcName → Option Value} {mg mb : Str → Option Value}
set_option maxHeartbeats 4000000 in
theorem segD {fn : Str} {fa : Arguments} {fb : List Stmt} {fd : List PySem.Expr} {fr : Option PySem.Expr} {ft : List TypeParam} {sc : Scope} {fts : Option Scope} {fbd : Str} {fps : Pos}
    {ta it : PySem.Expr} {body orl : List Stmt} {fpo : Pos}
    (hf : nthS 55 PB = .FunctionDef fn fa fb fd fr ft sc fts fbd fps) (hw : nthS 7 fb = .For ta it body orl fpo)
    {g : Heap} {L fad D : Addr} {code : Value} {m : Str → Option Value} {s : Shared} {qk : Flow → Shared → Prop} {ek : Value → Shared → Prop} {o1 o2 o3 : Obj} {c0 c1 c2 c3 : Nat} {t0 t1 t2 t3 : Tok}
    {y : Nd} {l : List Nat} {t : Tok} {v₀ : Option Value} (G : Good l) (hne : l ≠ []) (hl : l.length ≤ 4) (hD : Ord [L + 1 + 1 + 1, D]) (h3 : ∀ q ∈ y.led w, q.1 ≠ L + 1 + 1 + 1) (h2 : ∀ q ∈ y.led w, q.1 ≠ L + 1 + 1) (mn : m (.ofString "node") = some (.ref y.n12))
    (d1 : o1.data = .cell (some (.ref D))) (d2 : o2.data = .cell (some (.str (St l) t))) (d3 : o3.data = .cell v₀)
    (hE : PassesOwn (model PG w) (callerA.deeper (envOfC (.ofString "law") sc L fad code)) (envOfC (.ofString "law") sc L fad code) ek)
    (F : Fr g L s.heap m) (X : (K w.params).In g) (N : News g L s.heap (LW L D o1 o2 o3 c0 c1 c2 c3 t0 t1 t2 t3 (y.led w))) (T : Top p loose mean mg mb g) (B : Below callerA g [] g)
    (fin : ∀ h' tk' m' nx, Fr g L h' m' → News g L h' nx → qk (.ret (.bool true)) { s with heap := h', toks := tk' }) :
    wpAny (model PG w) (callerA.deeper (envOfC (.ofString "law") sc L fad code)) (execs (fb.drop 7) (envOfC (.ofString "law") sc L fad code)) qk ek s := by
  have hf0 := hf
  have hw0 := hw
  revert X hE; unfold PG; k_fill; intro hE X
  injection hf with f1 f2 f3 f4 f5 f6 f7 f8 f9 f10
  subst f1 f2 f3 f4 f5 f6 f7 f8 f9 f10
  injection hw with w1 w2 w3 w4 w5
  with_reducible dsimp only [List.drop]
  k_steps
  refine halt_out ?_
  try dsimp only
  have e0 : (1 : Int) + (((c2 : Nat) : Int)).fmod 3 = ((1 + c2 % 3 : Nat) : Int) := by
    rw [Int.fmod_eq_emod_of_nonneg _ (by decide)]; omega
  rename IsRange _ _ _ _ _ _ _ _ => hrg
  refine' tbr_invG (n := 1 + c2 % 3) (fun i m nx => ∃ (l : List Nat) (o2 o3 : Obj) (t : Tok) (v₀ : Option Value), nx = LW L D o1 o2 o3 c0 c1 c2 c3 t0 t1 t2 t3 (y.led w) ∧ o2.data = .cell (some (.str (St l) t)) ∧ o3.data = .cell v₀ ∧ Good l ∧ l ≠ [] ∧ l.length ≤ 4 * 2 ^ i ∧ m (.ofString "node") = some (.ref y.n12)) ?zh hrg ?zm ?zn ?zF ?zN ?zj ?zt ?zd
  case zh => rfl
  case zF => assumption
  case zN => assumption
  case zm => (show Builtin.Range.small 0 (1 + ((c2 : Nat) : Int).fmod 3) 1 = true); rw [e0]; exact small_one (by omega) (by omega) (by omega) (by omega)
  case zn => (show Builtin.Range.rangeSize 0 (1 + ((c2 : Nat) : Int).fmod 3) 1 = _); rw [e0]; exact rangeSize_nat _ _
  case zj => exact ⟨l, o2, o3, t, v₀, rfl, d2, d3, G, hne, by simpa using hl, mn⟩
  case zt =>
    rintro i k tk' m₁ nx h tk own hk hoff ⟨l', o2', o3', t', v', rfl, e2, e3, G', hne', hl', mn'⟩ F' N'
    have hi : i < 1 + c2 % 3 := by
      have := (List.getElem?_eq_some_iff.mp hk).1
      rw [rangeKs_length] at this; exact this
    have hi2 : i = 0 ∨ i = 1 ∨ i = 2 := by omega
    have hl16 : l'.length ≤ 16 := by rcases hi2 with rfl | rfl | rfl <;> simp at hl' <;> omega
    obtain ⟨out, S⟩ := say_exists _ l' (Nat.le_refl _) G'.four
    have hol := say_len S
    have hout : out.length ≤ 4 * 2 ^ (i + 1) := by rw [Nat.pow_succ]; omega
    have o3off : ∀ q ∈ own, q.1 ≠ L + 1 + 1 + 1 := fun q hq => hoff q hq (L + 1 + 1 + 1, o3') (.tail _ (.head _))
    have o2off : ∀ q ∈ own, q.1 ≠ L + 1 + 1 := fun q hq => hoff q hq (L + 1 + 1, o2') (.tail _ (.tail _ (.head _)))
    clear hk hi hi2 hl' hol
    have F6 : Fr g L h _ := F'
    have N6 : News g L h (LW L D o1 o2' o3' c0 c1 c2 c3 t0 t1 t2 t3 (y.led w ++ own)) := N'
    with_reducible refine ex_rest w3 ?_
    with_reducible refine day hf0 hw0 (tl := y.led w ++ own) S G' hne' hl16 hD (fun q hq => List.mem_append.mpr (.inl hq)) (fun q hq => (List.mem_append.mp hq).elim (h3 q) (o3off q)) (fun q hq => (List.mem_append.mp hq).elim (h2 q) (o2off q)) ?mm d1 e2 e3 F6 X N6 T B ?_
    case mm => exact mn'
    intro h5 k5 m5 o3'' o2'' t5 t6 F5 N5 x3 x2 mn5
    refine ⟨h5, k5, m5, _, LW L D o1 o2'' o3'' c0 c1 c2 c3 t0 t1 t2 t3 (y.led w), rfl, F5, N5, ?_, ?_, ?_, ⟨out, o2'', o3'', t6, _, rfl, x2, x3, say_good S G', say_ne S hne', hout, mn5⟩⟩
    · intro q hq; exact (List.mem_append (s := LW L D o1 o2'' o3'' c0 c1 c2 c3 t0 t1 t2 t3 (y.led w)) (t := own)).mpr (.inl hq)
    · intro q hq; exact .tail _ (.tail _ (.tail _ (.tail _ (List.mem_append.mpr (.inr hq)))))
    · intro q hq r hr
      rcases List.mem_cons.mp hr with rfl | hr
      · exact hoff q hq _ (.head _)
      rcases List.mem_cons.mp hr with rfl | hr
      · exact hoff q hq (L + 1 + 1 + 1, o3') (.tail _ (.head _))
      rcases List.mem_cons.mp hr with rfl | hr
      · exact hoff q hq (L + 1 + 1, o2') (.tail _ (.tail _ (.head _)))
      · exact hoff q hq r (.tail _ (.tail _ (.tail _ hr)))
  case zd =>
    rintro m₁ nx h tk _ F' N'
    try dsimp only
    k_steps
    exact fin _ _ _ _ (by assumption) (by assumption)
end
end
section
open PySem PySem.Spec PySem.Calls PySem.W PyProof.Rows
set_option maxRecDepth 100000
theorem cells_four (xs : List Int) : ∃ c0 c1 c2 c3 : Nat, cellsOf xs = [(c0 : Int), (c1 : Int), (c2 : Int), (c3 : Int)] := by
  unfold cellsOf
  match xs with
  | [] => exact ⟨3, 31, 1, 0, rfl⟩
  | [a] => exact ⟨a.natAbs, 31, 1, 0, rfl⟩
  | [a, b] => exact ⟨a.natAbs, b.natAbs, 1, 0, rfl⟩
  | [a, b, c] => exact ⟨a.natAbs, b.natAbs, c.natAbs, 0, rfl⟩
  | a :: b :: c :: d :: r => exact ⟨a.natAbs, b.natAbs, c.natAbs, d.natAbs, rfl⟩
theorem four_ints {ys : List Value} {a b c d : Int} (h : IntsAre ys [a, b, c, d]) : ∃ t0 t1 t2 t3, ys = [.int a t0, .int b t1, .int c t2, .int d t3] := by
  cases h with
  | cons _ t0 h => cases h with
    | cons _ t1 h => cases h with
      | cons _ t2 h => cases h with
        | cons _ t3 h => cases h with
          | nil => exact ⟨t0, t1, t2, t3, rfl⟩
/-- the row that the law starts with -/
theorem good_start {l l' : List Nat} {c : Nat} (hs : ∀ x ∈ l, x = 49 ∨ x = 50 ∨ x = 51) (h1 : 1 ≤ l.length) (h4 : l.length ≤ 4) (hc : l[0]? = some c) (e : l' = if l = List.replicate 4 c then l.drop 1 else l) : Good l' ∧ l' ≠ [] ∧ l'.length ≤ 4 := by
  by_cases hq : l = List.replicate 4 c
  · rw [if_pos hq] at e
    have hl : l'.length = 3 := by rw [e, List.length_drop, hq]; simp
    refine ⟨⟨fun x hx => hs x (List.mem_of_mem_drop (e ▸ hx)), nf_small (by omega)⟩, ?_, by omega⟩
    intro h; rw [h] at hl; simp at hl
  · rw [if_neg hq] at e
    subst e
    refine ⟨⟨hs, ?_⟩, ?_, h4⟩
    · intro a i h
      have h9 := congrArg List.length h
      simp at h9
      have hi : i = 0 := by omega
      subst hi
      rw [List.drop_zero, List.take_of_length_le h4] at h
      rw [h] at hc
      simp at hc
      subst hc
      exact hq (by rw [h]; rfl)
    · intro h; rw [h] at h1; simp at h1
theorem drawn_signs (c0 c1 : Nat) : ∀ x ∈ drawn c0 c1, x = 49 ∨ x = 50 ∨ x = 51 := by
  intro x hx
  unfold drawn at hx
  obtain ⟨i, _, rfl⟩ := List.mem_map.mp hx
  have := Nat.mod_lt (c1 / 3 ^ i) (show 3 > 0 by omega)
  omega
theorem drawn_len (c0 c1 : Nat) : (drawn c0 c1).length = 1 + c0 % 4 := by simp [drawn]
theorem nd_cell {w : World} {x : Nd} (hx : x.ex = []) : ∀ q ∈ x.led w, ∀ v, q.2.data ≠ .cell v := by
  intro q hq v
  unfold Nd.led at hq
  rw [hx, List.append_nil] at hq
  simp only [List.mem_cons, List.not_mem_nil, or_false] at hq
  rcases hq with rfl | rfl | rfl | rfl | rfl | rfl | rfl | rfl | rfl | rfl | rfl | rfl | rfl | rfl | rfl | rfl | rfl | rfl <;> exact fun e => by cases e
theorem off_cell {g h : Heap} {L c : Addr} {o : Obj} {v : Option Value} {led : Led} (N : News g L h led) (hc : (c, o) ∈ led) (ho : o.data = .cell v) {q : Addr × Obj} (hq : q ∈ led) (hn : ∀ v, q.2.data ≠ .cell v) : q.1 ≠ c := by
  intro e
  have h1 := (N _ hq).1
  have h2 := (N _ hc).1
  rw [e] at h1
  have h3 := h1.symm.trans h2
  cases h3
  exact hn v ho
section
variable {w : World} {p : Program} {loose : List Str} {mean : ExcName → Option Value} {mg mb : Str → Option Value}
theorem lawBody {fn : Str} {fa : Arguments} {fb : List Stmt} {fd : List PySem.Expr} {fr : Option PySem.Expr} {ft : List TypeParam} {sc : Scope} {fts : Option Scope} {fbd : Str} {fps : Pos}
    {ta it : PySem.Expr} {body orl : List Stmt} {fpo : Pos}
    (hf : nthS 55 PB = .FunctionDef fn fa fb fd fr ft sc fts fbd fps) (hw : nthS 7 fb = .For ta it body orl fpo)
    {g : Heap} {L fad : Addr} {code : Value} {m : Str → Option Value} {s : Shared} {qk : Flow → Shared → Prop} {ek : Value → Shared → Prop} {o1 o2 o3 : Obj} {xs : List Int} {vs : List Value} {la : Addr}
    (d1 : o1.data = .cell none) (d2 : o2.data = .cell none) (d3 : o3.data = .cell none)
    (hE : PassesOwn (model PG w) (callerA.deeper (envOfC (.ofString "law") sc L fad code)) (envOfC (.ofString "law") sc L fad code) ek)
    (F : Fr g L s.heap m) (X : (K w.params).In g) (N : News g L s.heap [(L + 1 + 1 + 1, o3), (L + 1 + 1, o2), (L + 1, o1)]) (T : Top p loose mean mg mb g) (B : Below callerA g [] g)
    (ms : m (.ofString "script") = some (.ref la)) (hL : g.IsList la vs.toArray) (hI : IntsAre vs xs) (hlen : xs.length ≤ 63)
    (fin : ∀ h' tk' m' nx, Fr g L h' m' → News g L h' nx → qk (.ret (.bool true)) { s with heap := h', toks := tk' }) :
    wpAny (model PG w) (callerA.deeper (envOfC (.ofString "law") sc L fad code)) (execs fb (envOfC (.ofString "law") sc L fad code)) qk ek s := by
  refine segA hf rfl d1 F X N T ms hL hI hlen ?_
  intro h1 k1 m1 D o1' ys F1 N1 e1 hI1 hD
  obtain ⟨c0, c1, c2, c3, hc⟩ := cells_four xs
  rw [hc] at hI1
  obtain ⟨t0, t1, t2, t3, rfl⟩ := four_ints hI1
  refine segB hf rfl e1 d2 F1 X N1 T ?_
  intro h2 k2 m2 o2' t F2 N2 e2
  obtain ⟨c, hc0⟩ : ∃ c, (drawn c0 c1)[0]? = some c := ⟨_, List.getElem?_eq_getElem (by rw [drawn_len]; omega)⟩
  obtain ⟨l', hl'⟩ : ∃ l', l' = if drawn c0 c1 = List.replicate 4 c then (drawn c0 c1).drop 1 else drawn c0 c1 := ⟨_, rfl⟩
  obtain ⟨G, hne, hl4⟩ := good_start (drawn_signs c0 c1) (by rw [drawn_len]; omega) (by rw [drawn_len]; omega) hc0 hl'
  refine segC hf rfl e2 (by rw [drawn_len]; omega) hc0 hl' F2 X N2 T ?_
  intro h3 k3 m3 o2'' t' F3 N3 e3
  refine segN hf rfl F3 X N3 T B ?_
  intro h4 k4 m4 x F4 N4 hx mn
  have hsub : ∀ q ∈ LW L D o1' o2'' o3 c0 c1 c2 c3 t0 t1 t2 t3 (({ x with ex := [] } : Nd).led w), q ∈ x.led w := by
    intro q hq
    rcases List.mem_append.mp (show q ∈ [(D, W.listOf #[.int c0 t0, .int c1 t1, .int c2 t2, .int c3 t3] 0), (L + 1 + 1 + 1, o3), (L + 1 + 1, o2''), (L + 1, o1')] ++ ({ x with ex := [] } : Nd).led w from hq) with h | h
    · exact List.mem_append.mpr (.inr (by rw [hx]; exact h))
    · refine List.mem_append.mpr (.inl ?_)
      have h9 := List.mem_append.mp h
      exact h9.resolve_right (by simp)
  have N5 := News.sub N4 hsub
  have hcell := nd_cell (w := w) (x := { x with ex := [] }) rfl
  have tl4 : ∀ q ∈ ({ x with ex := [] } : Nd).led w, q ∈ LW L D o1' o2'' o3 c0 c1 c2 c3 t0 t1 t2 t3 (({ x with ex := [] } : Nd).led w) := fun q hq => .tail _ (.tail _ (.tail _ (.tail _ hq)))
  exact segD (y := { x with ex := [] }) hf hw G hne hl4 hD (fun q hq => off_cell N5 (.tail _ (.head _)) d3 (tl4 q hq) (hcell q hq)) (fun q hq => off_cell N5 (.tail _ (.tail _ (.head _))) e3 (tl4 q hq) (hcell q hq)) mn e1 e3 d3 hE F4 X N5 T B fin
end
end
section
open PySem PySem.Spec PySem.Calls PySem.W PyProof.Rows
set_option maxRecDepth 100000
local macro_rules | `(tactic| walk_at "execs cons") => `(tactic| (refine halt ?_))
theorem said0 : OpenLaw.wellSaid PySem.Challenge.rw_xw0306_01 = true := by
  rw [PySem.W.Fast.te9446332074065402090]
  kernel_rfl
set_option maxHeartbeats 8000000 in
theorem whole : PySem.Challenge.rw_xw0306_01.Holds := by
  w_on
  refine holds_law said0 fun said => ?_
  refine holds_open (q := Mine.V) (loose := Mine.LO) (Xt := Mine.XT) (XP := XL Mine.V []) (Yf := Hook.obs Mine.HK) (Ya := Hook.val Mine.HK) (YP := Hook.says Mine.HK) (N := 5656) Mine.left (Hook.of Mine.HK) (Hook.keeps Mine.HK) (fun s e => xl_of s (Bool.and_eq_true_iff.mp e).1) XL.keeps (by rfl) (by rfl) (by rfl) (fun s e => recFacts_of (Bool.and_eq_true_iff.mp e).2) (by first | rfl | fail "open_line: no head takes a call that writes beside a table") (by first | assumption | decide +kernel) (by decide +kernel) ⟨rfl, rfl, rfl, rfl, rfl, by decide +kernel⟩ ?hw ?hc
  (case hw => w_witness2)
  w_strict (
    k_fill
    intro w s₀ s₁ mg mb G Y fa o pm cd doc dV kV ho hd hcd hD hmg hg args vals as hpre hlay hrd hwl hlo
    have KX := kIn_of Y
    have X1 := (Ground.X G).1
    have V1 := (Ground.X G).2
    refine Ground.open G ?_
    intro T B D TE TW
    try (refine guard_noD D (by decide +kernel) ?_; clear D)
    obtain ⟨_, _, M⟩ := bmod_of_top T
    have TA := at_of_top T
    try (obtain ⟨_, _, he, B0⟩ := based_of_top T rfl hmg ho hd; have he' : cd = _ := he; subst he'; clear he)
    clear hmg
    wrow_args hpre hlay hrd hwl hlo
    all_goals (
      first | refine callC_kw (enter_call ?_) | refine enter_call ?_ | refine callC_kw (enter_callW ?_) | refine enter_callW ?_
      w_top on
      try refine codeAny_mono ?_ (fun _ _ g => GoodW.toG g)
      have K0 := below_caller (Top.heap T)
      w_call any ho hd hcd hD T F
      clear hd TA
      k_drop)
    (all_goals try k_fold)
    try dsimp only
    obtain ⟨fn, fa, fb, fd, fr, ft, sc, fts, fbd, fps, hf⟩ : ∃ fn fa fb fd fr ft sc fts fbd fps, nthS 55 PB = Stmt.FunctionDef fn fa fb fd fr ft sc fts fbd fps := ⟨_, _, _, _, _, _, _, _, _, _, rfl⟩
    have hf0 := hf
    injection hf with f1 f2 f3 f4 f5 f6 f7 f8 f9 f10
    obtain ⟨ta, it, body, orl, fpo, hw⟩ : ∃ ta it body orl fpo, nthS 7 fb = Stmt.For ta it body orl fpo := by rw [← f3]; exact ⟨_, _, _, _, _, rfl⟩
    subst f7
    with_reducible refine ex_rest f3 ?_
    with_reducible refine' lawBody hf0 hw ?d1 ?d2 ?d3 ?hE ?zF ?zX ?zN ?zT ?zB ?ms ?hL ?hI ?hlen ?fin
    case zF => assumption
    case zN => assumption
    case zX => assumption
    case zT => assumption
    case zB => assumption
    case hL => assumption
    case hI => assumption
    case hlen => omega
    case ms => rfl
    case d1 => assumption
    case d2 => assumption
    case d3 => assumption
    case hE => passes_own
    case fin =>
      intro h' tk' m' nx F' N'
      k_steps)
end
end Mine
set_option maxRecDepth 100000 in
theorem PySem.Challenge.cw_xw0306_01_holds : PySem.Challenge.rw_xw0306_01.Holds := by
  exact Mine.whole
