import PyProof.Rows.All
import Wide.All
import OpenK.AllK
import Wide.FinOn
import Lean
import PySem.Challenge.RW_on0248_01
set_option Elab.async false
set_option maxRecDepth 100000
set_option maxHeartbeats 8000000
set_option linter.all false
set_option compiler.extract_closed false
set_option hygiene false
set_option genSizeOfSpec false
namespace Mine
section
open PySem PySem.W PyProof.Rows
open PySem.Str renaming ofString → ß
open PySem.PyData renaming keyHash → kh
open PySem.DictEntry renaming mk → dE
open PySem.Obj renaming mk → oB
open PySem.W.BT renaming node → N, nil → Z
noncomputable abbrev pw : Program := PySem.Challenge.pw_on0248_01
noncomputable def nthS : List Stmt → Nat → Stmt
 | [], _ => .Pass ⟨0, 0, 0, 0⟩
 | s :: _, 0 => s
 | _ :: r, n + 1 => nthS r n
noncomputable def stAt (i : Nat) : Stmt := nthS pw.main.body i
noncomputable def mtAt (i j : Nat) : Stmt := match stAt i with
 | .ClassDef _ _ _ b _ _ _ _ _ _ _ => nthS b j
 | s => s
noncomputable def fdOf (s : Stmt) (q : Str) (g : Addr) (dv doc md cd : Value) : FuncData := match s with
 | .FunctionDef n a b _ _ _ sc _ _ _ => ⟨n, q, a, .stmts b, sc, g, [], dv, .none, doc, md, none, cd, .none, 0⟩
 | _ => default
noncomputable def mainTail (P : Params) : List DictEntry := [dE (kh P (ß "__doc__")) (.str (ß "__doc__") 166) .none,
 dE (kh P (ß "__package__")) (.str (ß "__package__") 167) .none,
 dE (kh P (ß "__loader__")) (.str (ß "__loader__") 168) (.builtin "__main__.__loader__#opaque"),
 dE (kh P (ß "__spec__")) (.str (ß "__spec__") 169) .none,
 dE (kh P (ß "__annotations__")) (.str (ß "__annotations__") 170) (.ref 6),
 dE (kh P (ß "__builtins__")) (.str (ß "__builtins__") 171) (.ref 4),
 dE (kh P (ß "__file__")) (.str (ß "__file__") 173) (.str (ß "/claim/cut.py") 172),
 dE (kh P (ß "__cached__")) (.str (ß "__cached__") 174) .none,
 dE (kh P (ß "MillError")) (.str (ß "MillError") 217) (.ref 31),
 dE (kh P (ß "NumberFault")) (.str (ß "NumberFault") 233) (.ref 44),
 dE (kh P (ß "PathFault")) (.str (ß "PathFault") 260) (.ref 63),
 dE (kh P (ß "ZERO")) (.str (ß "ZERO") 265) (.ref 66),
 dE (kh P (ß "DIGITS_exact")) (.str (ß "DIGITS_exact") 267) (.str (ß "0123456789") 266),
 dE (kh P (ß "MOST_EXPONENT")) (.str (ß "MOST_EXPONENT") 269) (.int 300 268),
 dE (kh P (ß "common_divisor")) (.str (ß "common_divisor") 279) (.ref 73),
 dE (kh P (ß "fraction")) (.str (ß "fraction") 289) (.ref 81),
 dE (kh P (ß "plus")) (.str (ß "plus") 297) (.ref 88),
 dE (kh P (ß "minus")) (.str (ß "minus") 305) (.ref 95),
 dE (kh P (ß "negated")) (.str (ß "negated") 312) (.ref 102),
 dE (kh P (ß "sign_of")) (.str (ß "sign_of") 319) (.ref 109),
 dE (kh P (ß "compare")) (.str (ß "compare") 327) (.ref 116),
 dE (kh P (ß "NumberText")) (.str (ß "NumberText") 381) (.ref 154),
 dE (kh P (ß "whole_of")) (.str (ß "whole_of") 390) (.ref 165),
 dE (kh P (ß "read_exponent")) (.str (ß "read_exponent") 399) (.ref 172),
 dE (kh P (ß "read_decimal")) (.str (ß "read_decimal") 412) (.ref 179),
 dE (kh P (ß "BLANKS")) (.str (ß "BLANKS") 416) (.str (ß " \t\n\x0d\x0c") 415),
 dE (kh P (ß "DIGITS_path_words")) (.str (ß "DIGITS_path_words") 418) (.str (ß "0123456789") 417),
 dE (kh P (ß "LETTERS")) (.str (ß "LETTERS") 420) (.str (ß "MmLlHhVvCcSsQqTtAaZz") 419),
 dE (kh P (ß "PathScanner")) (.str (ß "PathScanner") 536) (.ref 273),
 dE (kh P (ß "many_of")) (.str (ß "many_of") 545) (.ref 284),
 dE (kh P (ß "letter_behind")) (.str (ß "letter_behind") 552) (.ref 291),
 dE (kh P (ß "read_group")) (.str (ß "read_group") 562) (.ref 298),
 dE (kh P (ß "goes_on")) (.str (ß "goes_on") 570) (.ref 305),
 dE (kh P (ß "read_into")) (.str (ß "read_into") 579) (.ref 312),
 dE (kh P (ß "read_kept")) (.str (ß "read_kept") 588) (.ref 319),
 dE (kh P (ß "mirrored")) (.str (ß "mirrored") 598) (.ref 326),
 dE (kh P (ß "size_of")) (.str (ß "size_of") 605) (.ref 333),
 dE (kh P (ß "Pen")) (.str (ß "Pen") 710) (.ref 406),
 dE (kh P (ß "line_end")) (.str (ß "line_end") 720) (.ref 417),
 dE (kh P (ß "draw")) (.str (ß "draw") 733) (.ref 424),
 dE (kh P (ß "plain_segments")) (.str (ß "plain_segments") 743) (.ref 431),
 dE (kh P (ß "fault_kept")) (.str (ß "fault_kept") 752) (.ref 438),
 dE (kh P (ß "_law_pool")) (.str (ß "_law_pool") 765) (.ref 445),
 dE (kh P (ß "_law_take")) (.str (ß "_law_take") 774) (.ref 452),
 dE (kh P (ß "_law_one")) (.str (ß "_law_one") 782) (.ref 459),
 dE (kh P (ß "_law_group")) (.str (ß "_law_group") 788) (.ref 464),
 dE (kh P (ß "_law_pen")) (.str (ß "_law_pen") 794) (.ref 471),
 dE (kh P (ß "_law_spot")) (.str (ß "_law_spot") 801) (.ref 478),
 dE (kh P (ß "_law_put")) (.str (ß "_law_put") 810) (.ref 485),
 dE (kh P (ß "_law_close")) (.str (ß "_law_close") 817) (.ref 492),
 dE (kh P (ß "_law_draw")) (.str (ß "_law_draw") 833) (.ref 499),
 dE (kh P (ß "_law_command")) (.str (ß "_law_command") 839) (.ref 504),
 dE (kh P (ß "_law_wrong")) (.str (ß "_law_wrong") 847) (.ref 511),
 dE (kh P (ß "_law_told")) (.str (ß "_law_told") 856) (.ref 518),
 dE (kh P (ß "law")) (.str (ß "law") 873) (.ref 525)]
noncomputable def mainAt (P : Params) (e : DictEntry) (k n : Nat) : Obj := ⟨.type "dict", none, .dict (e :: (mainTail P).take k).toArray n, #[]⟩
noncomputable def o2 (P : Params) : Obj := oB .none none (.dict #[dE (kh P (ß "type.__subclasses__.Exception.0")) (.str (ß "type.__subclasses__.Exception.0") 214) (.int 31 0), dE (kh P (ß "type.__subclasses__.Exception.n")) (.str (ß "type.__subclasses__.Exception.n") 215) (.int 1 0)] 2) #[]
noncomputable def o3 (P : Params) : Obj := oB (.type "dict") none (.dict #[dE (kh P (ß "__name__")) (.str (ß "__name__") 165) (.str (ß "law_on0248_01") 753), dE (kh P (ß "__doc__")) (.str (ß "__doc__") 166) .none, dE (kh P (ß "__package__")) (.str (ß "__package__") 167) .none, dE (kh P (ß "__loader__")) (.str (ß "__loader__") 168) (.builtin "__main__.__loader__#opaque"), dE (kh P (ß "__spec__")) (.str (ß "__spec__") 169) .none, dE (kh P (ß "__annotations__")) (.str (ß "__annotations__") 170) (.ref 6), dE (kh P (ß "__builtins__")) (.str (ß "__builtins__") 171) (.ref 4), dE (kh P (ß "__file__")) (.str (ß "__file__") 173) (.str (ß "/claim/cut.py") 172), dE (kh P (ß "__cached__")) (.str (ß "__cached__") 174) .none, dE (kh P (ß "MillError")) (.str (ß "MillError") 217) (.ref 31), dE (kh P (ß "NumberFault")) (.str (ß "NumberFault") 233) (.ref 44), dE (kh P (ß "PathFault")) (.str (ß "PathFault") 260) (.ref 63), dE (kh P (ß "ZERO")) (.str (ß "ZERO") 265) (.ref 66), dE (kh P (ß "DIGITS_exact")) (.str (ß "DIGITS_exact") 267) (.str (ß "0123456789") 266), dE (kh P (ß "MOST_EXPONENT")) (.str (ß "MOST_EXPONENT") 269) (.int 300 268), dE (kh P (ß "common_divisor")) (.str (ß "common_divisor") 279) (.ref 73), dE (kh P (ß "fraction")) (.str (ß "fraction") 289) (.ref 81), dE (kh P (ß "plus")) (.str (ß "plus") 297) (.ref 88), dE (kh P (ß "minus")) (.str (ß "minus") 305) (.ref 95), dE (kh P (ß "negated")) (.str (ß "negated") 312) (.ref 102), dE (kh P (ß "sign_of")) (.str (ß "sign_of") 319) (.ref 109), dE (kh P (ß "compare")) (.str (ß "compare") 327) (.ref 116), dE (kh P (ß "NumberText")) (.str (ß "NumberText") 381) (.ref 154), dE (kh P (ß "whole_of")) (.str (ß "whole_of") 390) (.ref 165), dE (kh P (ß "read_exponent")) (.str (ß "read_exponent") 399) (.ref 172), dE (kh P (ß "read_decimal")) (.str (ß "read_decimal") 412) (.ref 179), dE (kh P (ß "BLANKS")) (.str (ß "BLANKS") 416) (.str (ß " \t\n\x0d\x0c") 415), dE (kh P (ß "DIGITS_path_words")) (.str (ß "DIGITS_path_words") 418) (.str (ß "0123456789") 417), dE (kh P (ß "LETTERS")) (.str (ß "LETTERS") 420) (.str (ß "MmLlHhVvCcSsQqTtAaZz") 419), dE (kh P (ß "PathScanner")) (.str (ß "PathScanner") 536) (.ref 273), dE (kh P (ß "many_of")) (.str (ß "many_of") 545) (.ref 284), dE (kh P (ß "letter_behind")) (.str (ß "letter_behind") 552) (.ref 291), dE (kh P (ß "read_group")) (.str (ß "read_group") 562) (.ref 298), dE (kh P (ß "goes_on")) (.str (ß "goes_on") 570) (.ref 305), dE (kh P (ß "read_into")) (.str (ß "read_into") 579) (.ref 312), dE (kh P (ß "read_kept")) (.str (ß "read_kept") 588) (.ref 319), dE (kh P (ß "mirrored")) (.str (ß "mirrored") 598) (.ref 326), dE (kh P (ß "size_of")) (.str (ß "size_of") 605) (.ref 333), dE (kh P (ß "Pen")) (.str (ß "Pen") 710) (.ref 406), dE (kh P (ß "line_end")) (.str (ß "line_end") 720) (.ref 417), dE (kh P (ß "draw")) (.str (ß "draw") 733) (.ref 424), dE (kh P (ß "plain_segments")) (.str (ß "plain_segments") 743) (.ref 431), dE (kh P (ß "fault_kept")) (.str (ß "fault_kept") 752) (.ref 438), dE (kh P (ß "_law_pool")) (.str (ß "_law_pool") 765) (.ref 445), dE (kh P (ß "_law_take")) (.str (ß "_law_take") 774) (.ref 452), dE (kh P (ß "_law_one")) (.str (ß "_law_one") 782) (.ref 459), dE (kh P (ß "_law_group")) (.str (ß "_law_group") 788) (.ref 464), dE (kh P (ß "_law_pen")) (.str (ß "_law_pen") 794) (.ref 471), dE (kh P (ß "_law_spot")) (.str (ß "_law_spot") 801) (.ref 478), dE (kh P (ß "_law_put")) (.str (ß "_law_put") 810) (.ref 485), dE (kh P (ß "_law_close")) (.str (ß "_law_close") 817) (.ref 492), dE (kh P (ß "_law_draw")) (.str (ß "_law_draw") 833) (.ref 499), dE (kh P (ß "_law_command")) (.str (ß "_law_command") 839) (.ref 504), dE (kh P (ß "_law_wrong")) (.str (ß "_law_wrong") 847) (.ref 511), dE (kh P (ß "_law_told")) (.str (ß "_law_told") 856) (.ref 518), dE (kh P (ß "law")) (.str (ß "law") 873) (.ref 525)] 56) #[]
noncomputable def o11 (P : Params) : Obj := oB (.type "tuple") none (.seq #[]) #[]
noncomputable def o12 (P : Params) : Obj := oB .none none (.fields #[.int 2 0, .int 0 0, .ref 20, .int 6 0, .int 0 0, .ref 40, .int 8 0, .int 0 0, .ref 52, .int 17 0, .int 0 0, .ref 72, .int 22 0, .int 0 0, .ref 80, .int 29 0, .int 0 0, .ref 87, .int 31 0, .int 0 0, .ref 94, .int 33 0, .int 0 0, .ref 101, .int 35 0, .int 0 0, .ref 108, .int 41 0, .int 0 0, .ref 115, .int 43 0, .int 0 0, .ref 122, .int 63 0, .int 0 0, .ref 164, .int 68 0, .int 0 0, .ref 171, .int 75 0, .int 0 0, .ref 178, .int 95 0, .int 0 0, .ref 185, .int 176 0, .int 0 0, .ref 283, .int 178 0, .int 0 0, .ref 290, .int 180 0, .int 0 0, .ref 297, .int 190 0, .int 0 0, .ref 304, .int 197 0, .int 0 0, .ref 311, .int 212 0, .int 0 0, .ref 318, .int 220 0, .int 0 0, .ref 325, .int 222 0, .int 0 0, .ref 332, .int 224 0, .int 0 0, .ref 339, .int 280 0, .int 0 0, .ref 416, .int 286 0, .int 0 0, .ref 423, .int 306 0, .int 0 0, .ref 430, .int 314 0, .int 0 0, .ref 437, .int 318 0, .int 0 0, .ref 444, .int 325 0, .int 0 0, .ref 451, .int 332 0, .int 0 0, .ref 458, .int 334 0, .int 0 0, .ref 463, .int 337 0, .int 0 0, .ref 470, .int 339 0, .int 0 0, .ref 477, .int 341 0, .int 0 0, .ref 484, .int 346 0, .int 0 0, .ref 491, .int 351 0, .int 0 0, .ref 498, .int 372 0, .int 0 0, .ref 503, .int 383 0, .int 0 0, .ref 510, .int 400 0, .int 0 0, .ref 517, .int 403 0, .int 0 0, .ref 524]) #[]
noncomputable def o13 (P : Params) : Obj := oB (.type "code") none (.fields #[.str (ß "<module>") 182, .str (ß "<module>") 183, .str (ß "/claim/cut.py") 184, .int 1 0, .int 0 0, .int 0 0, .int 0 0, .int 0 0, .ref 11, .bool false, .int 181 0, .ref 12, .none, .none, .none, .none, .int 185 0, .int 1 0, .str (ß "/claim/cut.py") 186]) #[]
noncomputable def o14 (P : Params) : Obj := oB (.type "frame") none Data.plain #[some (.ref 13), some (.ref 3), some (.ref 3), none, some (.str (ß "__main__") 164), none, some (.ref 0)]
noncomputable def o15 (P : Params) : Obj := oB (.type "tuple") none (.seq #[.type "Exception"]) #[]
noncomputable def o16 (P : Params) : Obj := oB (.type "builtin_function_or_method") none (.fields #[.builtin "type.__prepare__", .type "type"]) #[]
noncomputable def o17 (P : Params) : Obj := oB (.type "dict") none (.dict #[dE (kh P (ß "__module__")) (.str (ß "__module__") 196) (.str (ß "outlinemill.errors") 187), dE (kh P (ß "__qualname__")) (.str (ß "__qualname__") 198) (.str (ß "MillError") 197), dE (kh P (ß "__firstlineno__")) (.str (ß "__firstlineno__") 200) (.int 2 199), dE (kh P (ß "__init__")) (.str (ß "__init__") 208) (.ref 28), dE (kh P (ß "__static_attributes__")) (.str (ß "__static_attributes__") 210) (.ref 29)] 5) #[]
noncomputable def o18 (P : Params) : Obj := oB (.type "tuple") none (.seq #[]) #[]
noncomputable def o19 (P : Params) : Obj := oB .none none (.fields #[.int 4 0, .int 4 0, .ref 27]) #[]
noncomputable def o20 (P : Params) : Obj := oB (.type "code") none (.fields #[.str (ß "MillError") 191, .str (ß "MillError") 192, .str (ß "/claim/cut.py") 193, .int 2 0, .int 0 0, .int 0 0, .int 0 0, .int 0 0, .ref 18, .bool false, .int 181 0, .ref 19, .none, .none, .none, .none, .int 194 0, .int 2 0, .str (ß "/claim/cut.py") 195]) #[]
noncomputable def o21 (P : Params) : Obj := oB (.type "frame") none Data.plain #[some (.ref 20), some (.ref 3), some (.ref 17), none, some (.str (ß "outlinemill.errors") 187), none, some (.ref 0)]
noncomputable def o22 (P : Params) : Obj := oB (.type "tuple") none (.seq #[]) #[]
noncomputable def o23 (P : Params) : Obj := oB .none none (.fields #[]) #[]
noncomputable def o24 (P : Params) : Obj := oB (.type "tuple") none (.seq #[.str (ß "self") 204, .str (ß "message") 205]) #[]
noncomputable def o25 (P : Params) : Obj := oB (.type "tuple") none (.seq #[]) #[]
noncomputable def o26 (P : Params) : Obj := oB .none none (.func (fdOf (mtAt 1 0) (ß "MillError.__init__") 0 .none .none .none .none)) #[]
noncomputable def o27 (P : Params) : Obj := oB (.type "code") none (.fields #[.str (ß "__init__") 201, .str (ß "MillError.__init__") 202, .str (ß "/claim/cut.py") 203, .int 4 0, .int 2 0, .int 0 0, .int 0 0, .int 3 0, .ref 22, .bool true, .int 181 0, .ref 23, .none, .ref 24, .ref 25, .ref 26, .int 206 0, .int 4 0, .str (ß "/claim/cut.py") 207]) #[]
noncomputable def o28 (P : Params) : Obj := oB (.type "function") none (.func (fdOf (mtAt 1 0) (ß "MillError.__init__") 3 .none .none (.str (ß "outlinemill.errors") 187) (.ref 27))) #[]
noncomputable def o29 (P : Params) : Obj := oB (.type "tuple") none (.seq #[.str (ß "message") 209]) #[]
noncomputable def o30 (P : Params) : Obj := oB (.type "dict") none (.dict #[dE (kh P (ß "__module__")) (.str (ß "__module__") 196) (.str (ß "outlinemill.errors") 187), dE (kh P (ß "__firstlineno__")) (.str (ß "__firstlineno__") 200) (.int 2 199), dE (kh P (ß "__init__")) (.str (ß "__init__") 208) (.ref 28), dE (kh P (ß "__static_attributes__")) (.str (ß "__static_attributes__") 210) (.ref 29), dE (kh P (ß "__weakref__")) (.str (ß "__weakref__") 212) (.ref 32), dE (kh P (ß "__doc__")) (.str (ß "__doc__") 213) .none] 3) #[]
noncomputable def o31 (P : Params) : Obj := oB (.type "type") none (Data.cls (ClassData.mk (ß "MillError") [.type "Exception"] [.ref 31, .type "Exception", .type "BaseException", .type "object"] 30 (ß "MillError") true [] [.ref 44, .ref 63] false none false)) #[some (.ref 15), none, some (.str (ß "MillError") 189), some (.str (ß "MillError") 197), some (.builtin "Exception.__new__"), some (.bool true)]
noncomputable def o32 (P : Params) : Obj := oB (.type "getset_descriptor") none (.fields #[.str (ß "__weakref__") 211, .ref 31, .builtin "ExceptionGroup.__weakref__", .none]) #[]
noncomputable def o33 (P : Params) : Obj := oB (.type "super") none (.fields #[.ref 31, .ref 31, .ref 31]) #[]
noncomputable def o34 (P : Params) : Obj := oB (.type "builtin_function_or_method") none (.fields #[.builtin "object.__init_subclass__", .ref 31]) #[]
noncomputable def o35 (P : Params) : Obj := oB (.type "tuple") none (.seq #[.ref 31]) #[]
noncomputable def o36 (P : Params) : Obj := oB (.type "builtin_function_or_method") none (.fields #[.builtin "type.__prepare__", .type "type"]) #[]
noncomputable def o37 (P : Params) : Obj := oB (.type "dict") none (.dict #[dE (kh P (ß "__module__")) (.str (ß "__module__") 225) (.str (ß "outlinemill.errors") 187), dE (kh P (ß "__qualname__")) (.str (ß "__qualname__") 227) (.str (ß "NumberFault") 226), dE (kh P (ß "__firstlineno__")) (.str (ß "__firstlineno__") 229) (.int 6 228), dE (kh P (ß "__static_attributes__")) (.str (ß "__static_attributes__") 230) (.ref 42)] 4) #[]
noncomputable def o38 (P : Params) : Obj := oB (.type "tuple") none (.seq #[]) #[]
noncomputable def o39 (P : Params) : Obj := oB .none none (.fields #[]) #[]
noncomputable def o40 (P : Params) : Obj := oB (.type "code") none (.fields #[.str (ß "NumberFault") 220, .str (ß "NumberFault") 221, .str (ß "/claim/cut.py") 222, .int 6 0, .int 0 0, .int 0 0, .int 0 0, .int 0 0, .ref 38, .bool false, .int 181 0, .ref 39, .none, .none, .none, .none, .int 223 0, .int 6 0, .str (ß "/claim/cut.py") 224]) #[]
noncomputable def o41 (P : Params) : Obj := oB (.type "frame") none Data.plain #[some (.ref 40), some (.ref 3), some (.ref 37), none, some (.str (ß "outlinemill.errors") 187), none, some (.ref 0)]
noncomputable def o42 (P : Params) : Obj := oB (.type "tuple") none (.seq #[]) #[]
noncomputable def o43 (P : Params) : Obj := oB (.type "dict") none (.dict #[dE (kh P (ß "__module__")) (.str (ß "__module__") 225) (.str (ß "outlinemill.errors") 187), dE (kh P (ß "__firstlineno__")) (.str (ß "__firstlineno__") 229) (.int 6 228), dE (kh P (ß "__static_attributes__")) (.str (ß "__static_attributes__") 230) (.ref 42), dE (kh P (ß "__doc__")) (.str (ß "__doc__") 231) .none] 2) #[]
noncomputable def o44 (P : Params) : Obj := oB (.type "type") none (Data.cls (ClassData.mk (ß "NumberFault") [.ref 31] [.ref 44, .ref 31, .type "Exception", .type "BaseException", .type "object"] 43 (ß "NumberFault") true [] [] false none false)) #[some (.ref 35), none, some (.str (ß "NumberFault") 218), some (.str (ß "NumberFault") 226), some (.builtin "Exception.__new__"), some (.bool true)]
noncomputable def o45 (P : Params) : Obj := oB (.type "super") none (.fields #[.ref 44, .ref 44, .ref 44]) #[]
noncomputable def o46 (P : Params) : Obj := oB (.type "builtin_function_or_method") none (.fields #[.builtin "object.__init_subclass__", .ref 44]) #[]
noncomputable def o47 (P : Params) : Obj := oB (.type "tuple") none (.seq #[.ref 31]) #[]
noncomputable def o48 (P : Params) : Obj := oB (.type "builtin_function_or_method") none (.fields #[.builtin "type.__prepare__", .type "type"]) #[]
noncomputable def o49 (P : Params) : Obj := oB (.type "dict") none (.dict #[dE (kh P (ß "__module__")) (.str (ß "__module__") 241) (.str (ß "outlinemill.errors") 187), dE (kh P (ß "__qualname__")) (.str (ß "__qualname__") 243) (.str (ß "PathFault") 242), dE (kh P (ß "__firstlineno__")) (.str (ß "__firstlineno__") 245) (.int 8 244), dE (kh P (ß "__init__")) (.str (ß "__init__") 254) (.ref 60), dE (kh P (ß "__static_attributes__")) (.str (ß "__static_attributes__") 257) (.ref 61)] 5) #[]
noncomputable def o50 (P : Params) : Obj := oB (.type "tuple") none (.seq #[]) #[]
noncomputable def o51 (P : Params) : Obj := oB .none none (.fields #[.int 10 0, .int 4 0, .ref 59]) #[]
noncomputable def o52 (P : Params) : Obj := oB (.type "code") none (.fields #[.str (ß "PathFault") 236, .str (ß "PathFault") 237, .str (ß "/claim/cut.py") 238, .int 8 0, .int 0 0, .int 0 0, .int 0 0, .int 0 0, .ref 50, .bool false, .int 181 0, .ref 51, .none, .none, .none, .none, .int 239 0, .int 8 0, .str (ß "/claim/cut.py") 240]) #[]
noncomputable def o53 (P : Params) : Obj := oB (.type "frame") none Data.plain #[some (.ref 52), some (.ref 3), some (.ref 49), none, some (.str (ß "outlinemill.errors") 187), none, some (.ref 0)]
noncomputable def o54 (P : Params) : Obj := oB (.type "tuple") none (.seq #[]) #[]
noncomputable def o55 (P : Params) : Obj := oB .none none (.fields #[]) #[]
noncomputable def o56 (P : Params) : Obj := oB (.type "tuple") none (.seq #[.str (ß "self") 249, .str (ß "message") 250, .str (ß "place") 251]) #[]
noncomputable def o57 (P : Params) : Obj := oB (.type "tuple") none (.seq #[]) #[]
noncomputable def o58 (P : Params) : Obj := oB .none none (.func (fdOf (mtAt 3 0) (ß "PathFault.__init__") 0 .none .none .none .none)) #[]
noncomputable def o59 (P : Params) : Obj := oB (.type "code") none (.fields #[.str (ß "__init__") 246, .str (ß "PathFault.__init__") 247, .str (ß "/claim/cut.py") 248, .int 10 0, .int 3 0, .int 0 0, .int 0 0, .int 3 0, .ref 54, .bool true, .int 181 0, .ref 55, .none, .ref 56, .ref 57, .ref 58, .int 252 0, .int 10 0, .str (ß "/claim/cut.py") 253]) #[]
noncomputable def o60 (P : Params) : Obj := oB (.type "function") none (.func (fdOf (mtAt 3 0) (ß "PathFault.__init__") 3 .none .none (.str (ß "outlinemill.errors") 187) (.ref 59))) #[]
noncomputable def o61 (P : Params) : Obj := oB (.type "tuple") none (.seq #[.str (ß "message") 255, .str (ß "place") 256]) #[]
noncomputable def o62 (P : Params) : Obj := oB (.type "dict") none (.dict #[dE (kh P (ß "__module__")) (.str (ß "__module__") 241) (.str (ß "outlinemill.errors") 187), dE (kh P (ß "__firstlineno__")) (.str (ß "__firstlineno__") 245) (.int 8 244), dE (kh P (ß "__init__")) (.str (ß "__init__") 254) (.ref 60), dE (kh P (ß "__static_attributes__")) (.str (ß "__static_attributes__") 257) (.ref 61), dE (kh P (ß "__doc__")) (.str (ß "__doc__") 258) .none] 2) #[]
noncomputable def o63 (P : Params) : Obj := oB (.type "type") none (Data.cls (ClassData.mk (ß "PathFault") [.ref 31] [.ref 63, .ref 31, .type "Exception", .type "BaseException", .type "object"] 62 (ß "PathFault") true [] [] false none false)) #[some (.ref 47), none, some (.str (ß "PathFault") 234), some (.str (ß "PathFault") 242), some (.builtin "Exception.__new__"), some (.bool true)]
noncomputable def o64 (P : Params) : Obj := oB (.type "super") none (.fields #[.ref 63, .ref 63, .ref 63]) #[]
noncomputable def o65 (P : Params) : Obj := oB (.type "builtin_function_or_method") none (.fields #[.builtin "object.__init_subclass__", .ref 63]) #[]
noncomputable def o66 (P : Params) : Obj := oB (.type "tuple") none (.seq #[.int 0 263, .int 1 264]) #[]
noncomputable def o67 (P : Params) : Obj := oB (.type "tuple") none (.seq #[]) #[]
noncomputable def o68 (P : Params) : Obj := oB .none none (.fields #[]) #[]
noncomputable def o69 (P : Params) : Obj := oB (.type "tuple") none (.seq #[.str (ß "one") 273, .str (ß "other") 274, .str (ß "first") 275, .str (ß "second") 276]) #[]
noncomputable def o70 (P : Params) : Obj := oB (.type "tuple") none (.seq #[]) #[]
noncomputable def o71 (P : Params) : Obj := oB .none none (.func (fdOf (stAt 8) (ß "common_divisor") 0 .none .none .none .none)) #[]
noncomputable def o72 (P : Params) : Obj := oB (.type "code") none (.fields #[.str (ß "common_divisor") 270, .str (ß "common_divisor") 271, .str (ß "/claim/cut.py") 272, .int 17 0, .int 2 0, .int 0 0, .int 0 0, .int 3 0, .ref 67, .bool true, .int 181 0, .ref 68, .none, .ref 69, .ref 70, .ref 71, .int 277 0, .int 17 0, .str (ß "/claim/cut.py") 278]) #[]
noncomputable def o73 (P : Params) : Obj := oB (.type "function") none (.func (fdOf (stAt 8) (ß "common_divisor") 3 .none .none (.str (ß "outlinemill.exact") 261) (.ref 72))) #[]
noncomputable def o74 (P : Params) : Obj := oB (.type "tuple") none (.seq #[.int 1 280]) #[]
noncomputable def o75 (P : Params) : Obj := oB (.type "tuple") none (.seq #[]) #[]
noncomputable def o76 (P : Params) : Obj := oB .none none (.fields #[]) #[]
noncomputable def o77 (P : Params) : Obj := oB (.type "tuple") none (.seq #[.str (ß "top") 284, .str (ß "bottom") 285, .str (ß "common") 286]) #[]
noncomputable def o78 (P : Params) : Obj := oB (.type "tuple") none (.seq #[]) #[]
noncomputable def o79 (P : Params) : Obj := oB .none none (.func (fdOf (stAt 9) (ß "fraction") 0 .none .none .none .none)) #[]
noncomputable def o80 (P : Params) : Obj := oB (.type "code") none (.fields #[.str (ß "fraction") 281, .str (ß "fraction") 282, .str (ß "/claim/cut.py") 283, .int 22 0, .int 2 0, .int 0 0, .int 0 0, .int 3 0, .ref 75, .bool true, .int 181 0, .ref 76, .none, .ref 77, .ref 78, .ref 79, .int 287 0, .int 22 0, .str (ß "/claim/cut.py") 288]) #[]
noncomputable def o81 (P : Params) : Obj := oB (.type "function") none (.func (fdOf (stAt 9) (ß "fraction") 3 (.ref 74) .none (.str (ß "outlinemill.exact") 261) (.ref 80))) #[]
noncomputable def o82 (P : Params) : Obj := oB (.type "tuple") none (.seq #[]) #[]
noncomputable def o83 (P : Params) : Obj := oB .none none (.fields #[]) #[]
noncomputable def o84 (P : Params) : Obj := oB (.type "tuple") none (.seq #[.str (ß "a") 293, .str (ß "b") 294]) #[]
noncomputable def o85 (P : Params) : Obj := oB (.type "tuple") none (.seq #[]) #[]
noncomputable def o86 (P : Params) : Obj := oB .none none (.func (fdOf (stAt 10) (ß "plus") 0 .none .none .none .none)) #[]
noncomputable def o87 (P : Params) : Obj := oB (.type "code") none (.fields #[.str (ß "plus") 290, .str (ß "plus") 291, .str (ß "/claim/cut.py") 292, .int 29 0, .int 2 0, .int 0 0, .int 0 0, .int 3 0, .ref 82, .bool true, .int 181 0, .ref 83, .none, .ref 84, .ref 85, .ref 86, .int 295 0, .int 29 0, .str (ß "/claim/cut.py") 296]) #[]
noncomputable def o88 (P : Params) : Obj := oB (.type "function") none (.func (fdOf (stAt 10) (ß "plus") 3 .none .none (.str (ß "outlinemill.exact") 261) (.ref 87))) #[]
noncomputable def o89 (P : Params) : Obj := oB (.type "tuple") none (.seq #[]) #[]
noncomputable def o90 (P : Params) : Obj := oB .none none (.fields #[]) #[]
noncomputable def o91 (P : Params) : Obj := oB (.type "tuple") none (.seq #[.str (ß "a") 301, .str (ß "b") 302]) #[]
noncomputable def o92 (P : Params) : Obj := oB (.type "tuple") none (.seq #[]) #[]
noncomputable def o93 (P : Params) : Obj := oB .none none (.func (fdOf (stAt 11) (ß "minus") 0 .none .none .none .none)) #[]
noncomputable def o94 (P : Params) : Obj := oB (.type "code") none (.fields #[.str (ß "minus") 298, .str (ß "minus") 299, .str (ß "/claim/cut.py") 300, .int 31 0, .int 2 0, .int 0 0, .int 0 0, .int 3 0, .ref 89, .bool true, .int 181 0, .ref 90, .none, .ref 91, .ref 92, .ref 93, .int 303 0, .int 31 0, .str (ß "/claim/cut.py") 304]) #[]
noncomputable def o95 (P : Params) : Obj := oB (.type "function") none (.func (fdOf (stAt 11) (ß "minus") 3 .none .none (.str (ß "outlinemill.exact") 261) (.ref 94))) #[]
noncomputable def o96 (P : Params) : Obj := oB (.type "tuple") none (.seq #[]) #[]
noncomputable def o97 (P : Params) : Obj := oB .none none (.fields #[]) #[]
noncomputable def o98 (P : Params) : Obj := oB (.type "tuple") none (.seq #[.str (ß "a") 309]) #[]
noncomputable def o99 (P : Params) : Obj := oB (.type "tuple") none (.seq #[]) #[]
noncomputable def o100 (P : Params) : Obj := oB .none none (.func (fdOf (stAt 12) (ß "negated") 0 .none .none .none .none)) #[]
noncomputable def o101 (P : Params) : Obj := oB (.type "code") none (.fields #[.str (ß "negated") 306, .str (ß "negated") 307, .str (ß "/claim/cut.py") 308, .int 33 0, .int 1 0, .int 0 0, .int 0 0, .int 3 0, .ref 96, .bool true, .int 181 0, .ref 97, .none, .ref 98, .ref 99, .ref 100, .int 310 0, .int 33 0, .str (ß "/claim/cut.py") 311]) #[]
noncomputable def o102 (P : Params) : Obj := oB (.type "function") none (.func (fdOf (stAt 12) (ß "negated") 3 .none .none (.str (ß "outlinemill.exact") 261) (.ref 101))) #[]
noncomputable def o103 (P : Params) : Obj := oB (.type "tuple") none (.seq #[]) #[]
noncomputable def o104 (P : Params) : Obj := oB .none none (.fields #[]) #[]
noncomputable def o105 (P : Params) : Obj := oB (.type "tuple") none (.seq #[.str (ß "a") 316]) #[]
noncomputable def o106 (P : Params) : Obj := oB (.type "tuple") none (.seq #[]) #[]
noncomputable def o107 (P : Params) : Obj := oB .none none (.func (fdOf (stAt 13) (ß "sign_of") 0 .none .none .none .none)) #[]
noncomputable def o108 (P : Params) : Obj := oB (.type "code") none (.fields #[.str (ß "sign_of") 313, .str (ß "sign_of") 314, .str (ß "/claim/cut.py") 315, .int 35 0, .int 1 0, .int 0 0, .int 0 0, .int 3 0, .ref 103, .bool true, .int 181 0, .ref 104, .none, .ref 105, .ref 106, .ref 107, .int 317 0, .int 35 0, .str (ß "/claim/cut.py") 318]) #[]
noncomputable def o109 (P : Params) : Obj := oB (.type "function") none (.func (fdOf (stAt 13) (ß "sign_of") 3 .none .none (.str (ß "outlinemill.exact") 261) (.ref 108))) #[]
noncomputable def o110 (P : Params) : Obj := oB (.type "tuple") none (.seq #[]) #[]
noncomputable def o111 (P : Params) : Obj := oB .none none (.fields #[]) #[]
noncomputable def o112 (P : Params) : Obj := oB (.type "tuple") none (.seq #[.str (ß "a") 323, .str (ß "b") 324]) #[]
noncomputable def o113 (P : Params) : Obj := oB (.type "tuple") none (.seq #[]) #[]
noncomputable def o114 (P : Params) : Obj := oB .none none (.func (fdOf (stAt 14) (ß "compare") 0 .none .none .none .none)) #[]
noncomputable def o115 (P : Params) : Obj := oB (.type "code") none (.fields #[.str (ß "compare") 320, .str (ß "compare") 321, .str (ß "/claim/cut.py") 322, .int 41 0, .int 2 0, .int 0 0, .int 0 0, .int 3 0, .ref 110, .bool true, .int 181 0, .ref 111, .none, .ref 112, .ref 113, .ref 114, .int 325 0, .int 41 0, .str (ß "/claim/cut.py") 326]) #[]
noncomputable def o116 (P : Params) : Obj := oB (.type "function") none (.func (fdOf (stAt 14) (ß "compare") 3 .none .none (.str (ß "outlinemill.exact") 261) (.ref 115))) #[]
noncomputable def o117 (P : Params) : Obj := oB (.type "tuple") none (.seq #[]) #[]
noncomputable def o118 (P : Params) : Obj := oB (.type "builtin_function_or_method") none (.fields #[.builtin "type.__prepare__", .type "type"]) #[]
noncomputable def o119 (P : Params) : Obj := oB (.type "dict") none (.dict #[dE (kh P (ß "__module__")) (.str (ß "__module__") 335) (.str (ß "outlinemill.exact") 261), dE (kh P (ß "__qualname__")) (.str (ß "__qualname__") 337) (.str (ß "NumberText") 336), dE (kh P (ß "__firstlineno__")) (.str (ß "__firstlineno__") 339) (.int 43 338), dE (kh P (ß "__init__")) (.str (ß "__init__") 347) (.ref 130), dE (kh P (ß "is_one_of")) (.str (ß "is_one_of") 355) (.ref 137), dE (kh P (ß "skip")) (.str (ß "skip") 363) (.ref 144), dE (kh P (ß "digits")) (.str (ß "digits") 371) (.ref 151), dE (kh P (ß "__static_attributes__")) (.str (ß "__static_attributes__") 374) (.ref 152)] 8) #[]
noncomputable def o120 (P : Params) : Obj := oB (.type "tuple") none (.seq #[]) #[]
noncomputable def o121 (P : Params) : Obj := oB .none none (.fields #[.int 45 0, .int 4 0, .ref 129, .int 49 0, .int 4 0, .ref 136, .int 52 0, .int 4 0, .ref 143, .int 58 0, .int 4 0, .ref 150]) #[]
noncomputable def o122 (P : Params) : Obj := oB (.type "code") none (.fields #[.str (ß "NumberText") 330, .str (ß "NumberText") 331, .str (ß "/claim/cut.py") 332, .int 43 0, .int 0 0, .int 0 0, .int 0 0, .int 0 0, .ref 120, .bool false, .int 181 0, .ref 121, .none, .none, .none, .none, .int 333 0, .int 43 0, .str (ß "/claim/cut.py") 334]) #[]
noncomputable def o123 (P : Params) : Obj := oB (.type "frame") none Data.plain #[some (.ref 122), some (.ref 3), some (.ref 119), none, some (.str (ß "outlinemill.exact") 261), none, some (.ref 0)]
noncomputable def o124 (P : Params) : Obj := oB (.type "tuple") none (.seq #[]) #[]
noncomputable def o125 (P : Params) : Obj := oB .none none (.fields #[]) #[]
noncomputable def o126 (P : Params) : Obj := oB (.type "tuple") none (.seq #[.str (ß "self") 343, .str (ß "text") 344]) #[]
noncomputable def o127 (P : Params) : Obj := oB (.type "tuple") none (.seq #[]) #[]
noncomputable def o128 (P : Params) : Obj := oB .none none (.func (fdOf (mtAt 15 0) (ß "NumberText.__init__") 0 .none .none .none .none)) #[]
noncomputable def o129 (P : Params) : Obj := oB (.type "code") none (.fields #[.str (ß "__init__") 340, .str (ß "NumberText.__init__") 341, .str (ß "/claim/cut.py") 342, .int 45 0, .int 2 0, .int 0 0, .int 0 0, .int 3 0, .ref 124, .bool true, .int 181 0, .ref 125, .none, .ref 126, .ref 127, .ref 128, .int 345 0, .int 45 0, .str (ß "/claim/cut.py") 346]) #[]
noncomputable def o130 (P : Params) : Obj := oB (.type "function") none (.func (fdOf (mtAt 15 0) (ß "NumberText.__init__") 3 .none .none (.str (ß "outlinemill.exact") 261) (.ref 129))) #[]
noncomputable def o131 (P : Params) : Obj := oB (.type "tuple") none (.seq #[]) #[]
noncomputable def o132 (P : Params) : Obj := oB .none none (.fields #[]) #[]
noncomputable def o133 (P : Params) : Obj := oB (.type "tuple") none (.seq #[.str (ß "self") 351, .str (ß "signs") 352]) #[]
noncomputable def o134 (P : Params) : Obj := oB (.type "tuple") none (.seq #[]) #[]
noncomputable def o135 (P : Params) : Obj := oB .none none (.func (fdOf (mtAt 15 1) (ß "NumberText.is_one_of") 0 .none .none .none .none)) #[]
noncomputable def o136 (P : Params) : Obj := oB (.type "code") none (.fields #[.str (ß "is_one_of") 348, .str (ß "NumberText.is_one_of") 349, .str (ß "/claim/cut.py") 350, .int 49 0, .int 2 0, .int 0 0, .int 0 0, .int 3 0, .ref 131, .bool true, .int 181 0, .ref 132, .none, .ref 133, .ref 134, .ref 135, .int 353 0, .int 49 0, .str (ß "/claim/cut.py") 354]) #[]
noncomputable def o137 (P : Params) : Obj := oB (.type "function") none (.func (fdOf (mtAt 15 1) (ß "NumberText.is_one_of") 3 .none .none (.str (ß "outlinemill.exact") 261) (.ref 136))) #[]
noncomputable def o138 (P : Params) : Obj := oB (.type "tuple") none (.seq #[]) #[]
noncomputable def o139 (P : Params) : Obj := oB .none none (.fields #[]) #[]
noncomputable def o140 (P : Params) : Obj := oB (.type "tuple") none (.seq #[.str (ß "self") 359, .str (ß "signs") 360]) #[]
noncomputable def o141 (P : Params) : Obj := oB (.type "tuple") none (.seq #[]) #[]
noncomputable def o142 (P : Params) : Obj := oB .none none (.func (fdOf (mtAt 15 2) (ß "NumberText.skip") 0 .none .none .none .none)) #[]
noncomputable def o143 (P : Params) : Obj := oB (.type "code") none (.fields #[.str (ß "skip") 356, .str (ß "NumberText.skip") 357, .str (ß "/claim/cut.py") 358, .int 52 0, .int 2 0, .int 0 0, .int 0 0, .int 3 0, .ref 138, .bool true, .int 181 0, .ref 139, .none, .ref 140, .ref 141, .ref 142, .int 361 0, .int 52 0, .str (ß "/claim/cut.py") 362]) #[]
noncomputable def o144 (P : Params) : Obj := oB (.type "function") none (.func (fdOf (mtAt 15 2) (ß "NumberText.skip") 3 .none .none (.str (ß "outlinemill.exact") 261) (.ref 143))) #[]
noncomputable def o145 (P : Params) : Obj := oB (.type "tuple") none (.seq #[]) #[]
noncomputable def o146 (P : Params) : Obj := oB .none none (.fields #[]) #[]
noncomputable def o147 (P : Params) : Obj := oB (.type "tuple") none (.seq #[.str (ß "self") 367, .str (ß "begin") 368]) #[]
noncomputable def o148 (P : Params) : Obj := oB (.type "tuple") none (.seq #[]) #[]
noncomputable def o149 (P : Params) : Obj := oB .none none (.func (fdOf (mtAt 15 3) (ß "NumberText.digits") 0 .none .none .none .none)) #[]
noncomputable def o150 (P : Params) : Obj := oB (.type "code") none (.fields #[.str (ß "digits") 364, .str (ß "NumberText.digits") 365, .str (ß "/claim/cut.py") 366, .int 58 0, .int 1 0, .int 0 0, .int 0 0, .int 3 0, .ref 145, .bool true, .int 181 0, .ref 146, .none, .ref 147, .ref 148, .ref 149, .int 369 0, .int 58 0, .str (ß "/claim/cut.py") 370]) #[]
noncomputable def o151 (P : Params) : Obj := oB (.type "function") none (.func (fdOf (mtAt 15 3) (ß "NumberText.digits") 3 .none .none (.str (ß "outlinemill.exact") 261) (.ref 150))) #[]
noncomputable def o152 (P : Params) : Obj := oB (.type "tuple") none (.seq #[.str (ß "at") 372, .str (ß "text") 373]) #[]
noncomputable def o153 (P : Params) : Obj := oB (.type "dict") none (.dict #[dE (kh P (ß "__module__")) (.str (ß "__module__") 335) (.str (ß "outlinemill.exact") 261), dE (kh P (ß "__firstlineno__")) (.str (ß "__firstlineno__") 339) (.int 43 338), dE (kh P (ß "__init__")) (.str (ß "__init__") 347) (.ref 130), dE (kh P (ß "is_one_of")) (.str (ß "is_one_of") 355) (.ref 137), dE (kh P (ß "skip")) (.str (ß "skip") 363) (.ref 144), dE (kh P (ß "digits")) (.str (ß "digits") 371) (.ref 151), dE (kh P (ß "__static_attributes__")) (.str (ß "__static_attributes__") 374) (.ref 152), dE (kh P (ß "__dict__")) (.str (ß "__dict__") 376) (.ref 155), dE (kh P (ß "__weakref__")) (.str (ß "__weakref__") 378) (.ref 156), dE (kh P (ß "__doc__")) (.str (ß "__doc__") 379) .none] 4) #[]
noncomputable def o154 (P : Params) : Obj := oB (.type "type") none (Data.cls (ClassData.mk (ß "NumberText") [.type "object"] [.ref 154, .type "object"] 153 (ß "NumberText") true [] [] false none false)) #[none, none, some (.str (ß "NumberText") 328), some (.str (ß "NumberText") 336), some (.builtin "object.__new__"), some (.bool true)]
noncomputable def o155 (P : Params) : Obj := oB (.type "getset_descriptor") none (.fields #[.str (ß "__dict__") 375, .ref 154, .builtin "function.__dict__", .builtin "function.__dict__#set"]) #[]
noncomputable def o156 (P : Params) : Obj := oB (.type "getset_descriptor") none (.fields #[.str (ß "__weakref__") 377, .ref 154, .builtin "ExceptionGroup.__weakref__", .none]) #[]
noncomputable def o157 (P : Params) : Obj := oB (.type "super") none (.fields #[.ref 154, .ref 154, .ref 154]) #[]
noncomputable def o158 (P : Params) : Obj := oB (.type "builtin_function_or_method") none (.fields #[.builtin "object.__init_subclass__", .ref 154]) #[]
noncomputable def o159 (P : Params) : Obj := oB (.type "tuple") none (.seq #[]) #[]
noncomputable def o160 (P : Params) : Obj := oB .none none (.fields #[]) #[]
noncomputable def o161 (P : Params) : Obj := oB (.type "tuple") none (.seq #[.str (ß "digits") 385, .str (ß "number") 386, .str (ß "digit") 387]) #[]
noncomputable def o162 (P : Params) : Obj := oB (.type "tuple") none (.seq #[]) #[]
noncomputable def o163 (P : Params) : Obj := oB .none none (.func (fdOf (stAt 16) (ß "whole_of") 0 .none .none .none .none)) #[]
noncomputable def o164 (P : Params) : Obj := oB (.type "code") none (.fields #[.str (ß "whole_of") 382, .str (ß "whole_of") 383, .str (ß "/claim/cut.py") 384, .int 63 0, .int 1 0, .int 0 0, .int 0 0, .int 3 0, .ref 159, .bool true, .int 181 0, .ref 160, .none, .ref 161, .ref 162, .ref 163, .int 388 0, .int 63 0, .str (ß "/claim/cut.py") 389]) #[]
noncomputable def o165 (P : Params) : Obj := oB (.type "function") none (.func (fdOf (stAt 16) (ß "whole_of") 3 .none .none (.str (ß "outlinemill.exact") 261) (.ref 164))) #[]
noncomputable def o166 (P : Params) : Obj := oB (.type "tuple") none (.seq #[]) #[]
noncomputable def o167 (P : Params) : Obj := oB .none none (.fields #[]) #[]
noncomputable def o168 (P : Params) : Obj := oB (.type "tuple") none (.seq #[.str (ß "reader") 394, .str (ß "sign") 395, .str (ß "digits") 396]) #[]
noncomputable def o169 (P : Params) : Obj := oB (.type "tuple") none (.seq #[]) #[]
noncomputable def o170 (P : Params) : Obj := oB .none none (.func (fdOf (stAt 17) (ß "read_exponent") 0 .none .none .none .none)) #[]
noncomputable def o171 (P : Params) : Obj := oB (.type "code") none (.fields #[.str (ß "read_exponent") 391, .str (ß "read_exponent") 392, .str (ß "/claim/cut.py") 393, .int 68 0, .int 1 0, .int 0 0, .int 0 0, .int 3 0, .ref 166, .bool true, .int 181 0, .ref 167, .none, .ref 168, .ref 169, .ref 170, .int 397 0, .int 68 0, .str (ß "/claim/cut.py") 398]) #[]
noncomputable def o172 (P : Params) : Obj := oB (.type "function") none (.func (fdOf (stAt 17) (ß "read_exponent") 3 .none .none (.str (ß "outlinemill.exact") 261) (.ref 171))) #[]
noncomputable def o173 (P : Params) : Obj := oB (.type "tuple") none (.seq #[]) #[]
noncomputable def o174 (P : Params) : Obj := oB .none none (.fields #[]) #[]
noncomputable def o175 (P : Params) : Obj := oB (.type "tuple") none (.seq #[.str (ß "text") 403, .str (ß "reader") 404, .str (ß "sign") 405, .str (ß "whole") 406, .str (ß "parts") 407, .str (ß "exponent") 408, .str (ß "number") 409]) #[]
noncomputable def o176 (P : Params) : Obj := oB (.type "tuple") none (.seq #[]) #[]
noncomputable def o177 (P : Params) : Obj := oB .none none (.func (fdOf (stAt 18) (ß "read_decimal") 0 .none .none .none .none)) #[]
noncomputable def o178 (P : Params) : Obj := oB (.type "code") none (.fields #[.str (ß "read_decimal") 400, .str (ß "read_decimal") 401, .str (ß "/claim/cut.py") 402, .int 75 0, .int 1 0, .int 0 0, .int 0 0, .int 3 0, .ref 173, .bool true, .int 181 0, .ref 174, .none, .ref 175, .ref 176, .ref 177, .int 410 0, .int 75 0, .str (ß "/claim/cut.py") 411]) #[]
noncomputable def o179 (P : Params) : Obj := oB (.type "function") none (.func (fdOf (stAt 18) (ß "read_decimal") 3 .none .none (.str (ß "outlinemill.exact") 261) (.ref 178))) #[]
noncomputable def o180 (P : Params) : Obj := oB (.type "tuple") none (.seq #[]) #[]
noncomputable def o181 (P : Params) : Obj := oB (.type "builtin_function_or_method") none (.fields #[.builtin "type.__prepare__", .type "type"]) #[]
noncomputable def o182 (P : Params) : Obj := oB (.type "dict") none (.dict #[dE (kh P (ß "__module__")) (.str (ß "__module__") 428) (.str (ß "outlinemill.path_words") 413), dE (kh P (ß "__qualname__")) (.str (ß "__qualname__") 430) (.str (ß "PathScanner") 429), dE (kh P (ß "__firstlineno__")) (.str (ß "__firstlineno__") 432) (.int 95 431), dE (kh P (ß "__init__")) (.str (ß "__init__") 440) (.ref 193), dE (kh P (ß "is_over")) (.str (ß "is_over") 447) (.ref 200), dE (kh P (ß "peek")) (.str (ß "peek") 454) (.ref 207), dE (kh P (ß "fault")) (.str (ß "fault") 462) (.ref 214), dE (kh P (ß "spaces")) (.str (ß "spaces") 469) (.ref 221), dE (kh P (ß "separator")) (.str (ß "separator") 476) (.ref 228), dE (kh P (ß "looks_number")) (.str (ß "looks_number") 484) (.ref 235), dE (kh P (ß "digits")) (.str (ß "digits") 492) (.ref 242), dE (kh P (ß "exponent")) (.str (ß "exponent") 500) (.ref 249), dE (kh P (ß "number")) (.str (ß "number") 510) (.ref 256), dE (kh P (ß "flag")) (.str (ß "flag") 518) (.ref 263), dE (kh P (ß "command")) (.str (ß "command") 526) (.ref 270), dE (kh P (ß "__static_attributes__")) (.str (ß "__static_attributes__") 529) (.ref 271)] 16) #[]
noncomputable def o183 (P : Params) : Obj := oB (.type "tuple") none (.seq #[]) #[]
noncomputable def o184 (P : Params) : Obj := oB .none none (.fields #[.int 97 0, .int 4 0, .ref 192, .int 101 0, .int 4 0, .ref 199, .int 104 0, .int 4 0, .ref 206, .int 107 0, .int 4 0, .ref 213, .int 110 0, .int 4 0, .ref 220, .int 114 0, .int 4 0, .ref 227, .int 122 0, .int 4 0, .ref 234, .int 126 0, .int 4 0, .ref 241, .int 132 0, .int 4 0, .ref 248, .int 142 0, .int 4 0, .ref 255, .int 159 0, .int 4 0, .ref 262, .int 166 0, .int 4 0, .ref 269]) #[]
noncomputable def o185 (P : Params) : Obj := oB (.type "code") none (.fields #[.str (ß "PathScanner") 423, .str (ß "PathScanner") 424, .str (ß "/claim/cut.py") 425, .int 95 0, .int 0 0, .int 0 0, .int 0 0, .int 0 0, .ref 183, .bool false, .int 181 0, .ref 184, .none, .none, .none, .none, .int 426 0, .int 95 0, .str (ß "/claim/cut.py") 427]) #[]
noncomputable def o186 (P : Params) : Obj := oB (.type "frame") none Data.plain #[some (.ref 185), some (.ref 3), some (.ref 182), none, some (.str (ß "outlinemill.path_words") 413), none, some (.ref 0)]
noncomputable def o187 (P : Params) : Obj := oB (.type "tuple") none (.seq #[]) #[]
noncomputable def o188 (P : Params) : Obj := oB .none none (.fields #[]) #[]
noncomputable def o189 (P : Params) : Obj := oB (.type "tuple") none (.seq #[.str (ß "self") 436, .str (ß "text") 437]) #[]
noncomputable def o190 (P : Params) : Obj := oB (.type "tuple") none (.seq #[]) #[]
noncomputable def o191 (P : Params) : Obj := oB .none none (.func (fdOf (mtAt 23 0) (ß "PathScanner.__init__") 0 .none .none .none .none)) #[]
noncomputable def o192 (P : Params) : Obj := oB (.type "code") none (.fields #[.str (ß "__init__") 433, .str (ß "PathScanner.__init__") 434, .str (ß "/claim/cut.py") 435, .int 97 0, .int 2 0, .int 0 0, .int 0 0, .int 3 0, .ref 187, .bool true, .int 181 0, .ref 188, .none, .ref 189, .ref 190, .ref 191, .int 438 0, .int 97 0, .str (ß "/claim/cut.py") 439]) #[]
noncomputable def o193 (P : Params) : Obj := oB (.type "function") none (.func (fdOf (mtAt 23 0) (ß "PathScanner.__init__") 3 .none .none (.str (ß "outlinemill.path_words") 413) (.ref 192))) #[]
noncomputable def o194 (P : Params) : Obj := oB (.type "tuple") none (.seq #[]) #[]
noncomputable def o195 (P : Params) : Obj := oB .none none (.fields #[]) #[]
noncomputable def o196 (P : Params) : Obj := oB (.type "tuple") none (.seq #[.str (ß "self") 444]) #[]
noncomputable def o197 (P : Params) : Obj := oB (.type "tuple") none (.seq #[]) #[]
noncomputable def o198 (P : Params) : Obj := oB .none none (.func (fdOf (mtAt 23 1) (ß "PathScanner.is_over") 0 .none .none .none .none)) #[]
noncomputable def o199 (P : Params) : Obj := oB (.type "code") none (.fields #[.str (ß "is_over") 441, .str (ß "PathScanner.is_over") 442, .str (ß "/claim/cut.py") 443, .int 101 0, .int 1 0, .int 0 0, .int 0 0, .int 3 0, .ref 194, .bool true, .int 181 0, .ref 195, .none, .ref 196, .ref 197, .ref 198, .int 445 0, .int 101 0, .str (ß "/claim/cut.py") 446]) #[]
noncomputable def o200 (P : Params) : Obj := oB (.type "function") none (.func (fdOf (mtAt 23 1) (ß "PathScanner.is_over") 3 .none .none (.str (ß "outlinemill.path_words") 413) (.ref 199))) #[]
noncomputable def o201 (P : Params) : Obj := oB (.type "tuple") none (.seq #[]) #[]
noncomputable def o202 (P : Params) : Obj := oB .none none (.fields #[]) #[]
noncomputable def o203 (P : Params) : Obj := oB (.type "tuple") none (.seq #[.str (ß "self") 451]) #[]
noncomputable def o204 (P : Params) : Obj := oB (.type "tuple") none (.seq #[]) #[]
noncomputable def o205 (P : Params) : Obj := oB .none none (.func (fdOf (mtAt 23 2) (ß "PathScanner.peek") 0 .none .none .none .none)) #[]
noncomputable def o206 (P : Params) : Obj := oB (.type "code") none (.fields #[.str (ß "peek") 448, .str (ß "PathScanner.peek") 449, .str (ß "/claim/cut.py") 450, .int 104 0, .int 1 0, .int 0 0, .int 0 0, .int 3 0, .ref 201, .bool true, .int 181 0, .ref 202, .none, .ref 203, .ref 204, .ref 205, .int 452 0, .int 104 0, .str (ß "/claim/cut.py") 453]) #[]
noncomputable def o207 (P : Params) : Obj := oB (.type "function") none (.func (fdOf (mtAt 23 2) (ß "PathScanner.peek") 3 .none .none (.str (ß "outlinemill.path_words") 413) (.ref 206))) #[]
noncomputable def o208 (P : Params) : Obj := oB (.type "tuple") none (.seq #[]) #[]
noncomputable def o209 (P : Params) : Obj := oB .none none (.fields #[]) #[]
noncomputable def o210 (P : Params) : Obj := oB (.type "tuple") none (.seq #[.str (ß "self") 458, .str (ß "message") 459]) #[]
noncomputable def o211 (P : Params) : Obj := oB (.type "tuple") none (.seq #[]) #[]
noncomputable def o212 (P : Params) : Obj := oB .none none (.func (fdOf (mtAt 23 3) (ß "PathScanner.fault") 0 .none .none .none .none)) #[]
noncomputable def o213 (P : Params) : Obj := oB (.type "code") none (.fields #[.str (ß "fault") 455, .str (ß "PathScanner.fault") 456, .str (ß "/claim/cut.py") 457, .int 107 0, .int 2 0, .int 0 0, .int 0 0, .int 3 0, .ref 208, .bool true, .int 181 0, .ref 209, .none, .ref 210, .ref 211, .ref 212, .int 460 0, .int 107 0, .str (ß "/claim/cut.py") 461]) #[]
noncomputable def o214 (P : Params) : Obj := oB (.type "function") none (.func (fdOf (mtAt 23 3) (ß "PathScanner.fault") 3 .none .none (.str (ß "outlinemill.path_words") 413) (.ref 213))) #[]
noncomputable def o215 (P : Params) : Obj := oB (.type "tuple") none (.seq #[]) #[]
noncomputable def o216 (P : Params) : Obj := oB .none none (.fields #[]) #[]
noncomputable def o217 (P : Params) : Obj := oB (.type "tuple") none (.seq #[.str (ß "self") 466]) #[]
noncomputable def o218 (P : Params) : Obj := oB (.type "tuple") none (.seq #[]) #[]
noncomputable def o219 (P : Params) : Obj := oB .none none (.func (fdOf (mtAt 23 4) (ß "PathScanner.spaces") 0 .none .none .none .none)) #[]
noncomputable def o220 (P : Params) : Obj := oB (.type "code") none (.fields #[.str (ß "spaces") 463, .str (ß "PathScanner.spaces") 464, .str (ß "/claim/cut.py") 465, .int 110 0, .int 1 0, .int 0 0, .int 0 0, .int 3 0, .ref 215, .bool true, .int 181 0, .ref 216, .none, .ref 217, .ref 218, .ref 219, .int 467 0, .int 110 0, .str (ß "/claim/cut.py") 468]) #[]
noncomputable def o221 (P : Params) : Obj := oB (.type "function") none (.func (fdOf (mtAt 23 4) (ß "PathScanner.spaces") 3 .none .none (.str (ß "outlinemill.path_words") 413) (.ref 220))) #[]
noncomputable def o222 (P : Params) : Obj := oB (.type "tuple") none (.seq #[]) #[]
noncomputable def o223 (P : Params) : Obj := oB .none none (.fields #[]) #[]
noncomputable def o224 (P : Params) : Obj := oB (.type "tuple") none (.seq #[.str (ß "self") 473]) #[]
noncomputable def o225 (P : Params) : Obj := oB (.type "tuple") none (.seq #[]) #[]
noncomputable def o226 (P : Params) : Obj := oB .none none (.func (fdOf (mtAt 23 5) (ß "PathScanner.separator") 0 .none .none .none .none)) #[]
noncomputable def o227 (P : Params) : Obj := oB (.type "code") none (.fields #[.str (ß "separator") 470, .str (ß "PathScanner.separator") 471, .str (ß "/claim/cut.py") 472, .int 114 0, .int 1 0, .int 0 0, .int 0 0, .int 3 0, .ref 222, .bool true, .int 181 0, .ref 223, .none, .ref 224, .ref 225, .ref 226, .int 474 0, .int 114 0, .str (ß "/claim/cut.py") 475]) #[]
noncomputable def o228 (P : Params) : Obj := oB (.type "function") none (.func (fdOf (mtAt 23 5) (ß "PathScanner.separator") 3 .none .none (.str (ß "outlinemill.path_words") 413) (.ref 227))) #[]
noncomputable def o229 (P : Params) : Obj := oB (.type "tuple") none (.seq #[]) #[]
noncomputable def o230 (P : Params) : Obj := oB .none none (.fields #[]) #[]
noncomputable def o231 (P : Params) : Obj := oB (.type "tuple") none (.seq #[.str (ß "self") 480, .str (ß "sign") 481]) #[]
noncomputable def o232 (P : Params) : Obj := oB (.type "tuple") none (.seq #[]) #[]
noncomputable def o233 (P : Params) : Obj := oB .none none (.func (fdOf (mtAt 23 6) (ß "PathScanner.looks_number") 0 .none .none .none .none)) #[]
noncomputable def o234 (P : Params) : Obj := oB (.type "code") none (.fields #[.str (ß "looks_number") 477, .str (ß "PathScanner.looks_number") 478, .str (ß "/claim/cut.py") 479, .int 122 0, .int 1 0, .int 0 0, .int 0 0, .int 3 0, .ref 229, .bool true, .int 181 0, .ref 230, .none, .ref 231, .ref 232, .ref 233, .int 482 0, .int 122 0, .str (ß "/claim/cut.py") 483]) #[]
noncomputable def o235 (P : Params) : Obj := oB (.type "function") none (.func (fdOf (mtAt 23 6) (ß "PathScanner.looks_number") 3 .none .none (.str (ß "outlinemill.path_words") 413) (.ref 234))) #[]
noncomputable def o236 (P : Params) : Obj := oB (.type "tuple") none (.seq #[]) #[]
noncomputable def o237 (P : Params) : Obj := oB .none none (.fields #[]) #[]
noncomputable def o238 (P : Params) : Obj := oB (.type "tuple") none (.seq #[.str (ß "self") 488, .str (ß "begin") 489]) #[]
noncomputable def o239 (P : Params) : Obj := oB (.type "tuple") none (.seq #[]) #[]
noncomputable def o240 (P : Params) : Obj := oB .none none (.func (fdOf (mtAt 23 7) (ß "PathScanner.digits") 0 .none .none .none .none)) #[]
noncomputable def o241 (P : Params) : Obj := oB (.type "code") none (.fields #[.str (ß "digits") 485, .str (ß "PathScanner.digits") 486, .str (ß "/claim/cut.py") 487, .int 126 0, .int 1 0, .int 0 0, .int 0 0, .int 3 0, .ref 236, .bool true, .int 181 0, .ref 237, .none, .ref 238, .ref 239, .ref 240, .int 490 0, .int 126 0, .str (ß "/claim/cut.py") 491]) #[]
noncomputable def o242 (P : Params) : Obj := oB (.type "function") none (.func (fdOf (mtAt 23 7) (ß "PathScanner.digits") 3 .none .none (.str (ß "outlinemill.path_words") 413) (.ref 241))) #[]
noncomputable def o243 (P : Params) : Obj := oB (.type "tuple") none (.seq #[]) #[]
noncomputable def o244 (P : Params) : Obj := oB .none none (.fields #[]) #[]
noncomputable def o245 (P : Params) : Obj := oB (.type "tuple") none (.seq #[.str (ß "self") 496, .str (ß "ahead") 497]) #[]
noncomputable def o246 (P : Params) : Obj := oB (.type "tuple") none (.seq #[]) #[]
noncomputable def o247 (P : Params) : Obj := oB .none none (.func (fdOf (mtAt 23 8) (ß "PathScanner.exponent") 0 .none .none .none .none)) #[]
noncomputable def o248 (P : Params) : Obj := oB (.type "code") none (.fields #[.str (ß "exponent") 493, .str (ß "PathScanner.exponent") 494, .str (ß "/claim/cut.py") 495, .int 132 0, .int 1 0, .int 0 0, .int 0 0, .int 3 0, .ref 243, .bool true, .int 181 0, .ref 244, .none, .ref 245, .ref 246, .ref 247, .int 498 0, .int 132 0, .str (ß "/claim/cut.py") 499]) #[]
noncomputable def o249 (P : Params) : Obj := oB (.type "function") none (.func (fdOf (mtAt 23 8) (ß "PathScanner.exponent") 3 .none .none (.str (ß "outlinemill.path_words") 413) (.ref 248))) #[]
noncomputable def o250 (P : Params) : Obj := oB (.type "tuple") none (.seq #[]) #[]
noncomputable def o251 (P : Params) : Obj := oB .none none (.fields #[]) #[]
noncomputable def o252 (P : Params) : Obj := oB (.type "tuple") none (.seq #[.str (ß "self") 504, .str (ß "begin") 505, .str (ß "many") 506, .str (ß "fault") 507]) #[]
noncomputable def o253 (P : Params) : Obj := oB (.type "tuple") none (.seq #[]) #[]
noncomputable def o254 (P : Params) : Obj := oB .none none (.func (fdOf (mtAt 23 9) (ß "PathScanner.number") 0 .none .none .none .none)) #[]
noncomputable def o255 (P : Params) : Obj := oB (.type "code") none (.fields #[.str (ß "number") 501, .str (ß "PathScanner.number") 502, .str (ß "/claim/cut.py") 503, .int 142 0, .int 1 0, .int 0 0, .int 0 0, .int 3 0, .ref 250, .bool true, .int 181 0, .ref 251, .none, .ref 252, .ref 253, .ref 254, .int 508 0, .int 142 0, .str (ß "/claim/cut.py") 509]) #[]
noncomputable def o256 (P : Params) : Obj := oB (.type "function") none (.func (fdOf (mtAt 23 9) (ß "PathScanner.number") 3 .none .none (.str (ß "outlinemill.path_words") 413) (.ref 255))) #[]
noncomputable def o257 (P : Params) : Obj := oB (.type "tuple") none (.seq #[]) #[]
noncomputable def o258 (P : Params) : Obj := oB .none none (.fields #[]) #[]
noncomputable def o259 (P : Params) : Obj := oB (.type "tuple") none (.seq #[.str (ß "self") 514, .str (ß "sign") 515]) #[]
noncomputable def o260 (P : Params) : Obj := oB (.type "tuple") none (.seq #[]) #[]
noncomputable def o261 (P : Params) : Obj := oB .none none (.func (fdOf (mtAt 23 10) (ß "PathScanner.flag") 0 .none .none .none .none)) #[]
noncomputable def o262 (P : Params) : Obj := oB (.type "code") none (.fields #[.str (ß "flag") 511, .str (ß "PathScanner.flag") 512, .str (ß "/claim/cut.py") 513, .int 159 0, .int 1 0, .int 0 0, .int 0 0, .int 3 0, .ref 257, .bool true, .int 181 0, .ref 258, .none, .ref 259, .ref 260, .ref 261, .int 516 0, .int 159 0, .str (ß "/claim/cut.py") 517]) #[]
noncomputable def o263 (P : Params) : Obj := oB (.type "function") none (.func (fdOf (mtAt 23 10) (ß "PathScanner.flag") 3 .none .none (.str (ß "outlinemill.path_words") 413) (.ref 262))) #[]
noncomputable def o264 (P : Params) : Obj := oB (.type "tuple") none (.seq #[]) #[]
noncomputable def o265 (P : Params) : Obj := oB .none none (.fields #[]) #[]
noncomputable def o266 (P : Params) : Obj := oB (.type "tuple") none (.seq #[.str (ß "self") 522, .str (ß "letter") 523]) #[]
noncomputable def o267 (P : Params) : Obj := oB (.type "tuple") none (.seq #[]) #[]
noncomputable def o268 (P : Params) : Obj := oB .none none (.func (fdOf (mtAt 23 11) (ß "PathScanner.command") 0 .none .none .none .none)) #[]
noncomputable def o269 (P : Params) : Obj := oB (.type "code") none (.fields #[.str (ß "command") 519, .str (ß "PathScanner.command") 520, .str (ß "/claim/cut.py") 521, .int 166 0, .int 1 0, .int 0 0, .int 0 0, .int 3 0, .ref 264, .bool true, .int 181 0, .ref 265, .none, .ref 266, .ref 267, .ref 268, .int 524 0, .int 166 0, .str (ß "/claim/cut.py") 525]) #[]
noncomputable def o270 (P : Params) : Obj := oB (.type "function") none (.func (fdOf (mtAt 23 11) (ß "PathScanner.command") 3 .none .none (.str (ß "outlinemill.path_words") 413) (.ref 269))) #[]
noncomputable def o271 (P : Params) : Obj := oB (.type "tuple") none (.seq #[.str (ß "at") 527, .str (ß "text") 528]) #[]
noncomputable def o272 (P : Params) : Obj := oB (.type "dict") none (.dict #[dE (kh P (ß "__module__")) (.str (ß "__module__") 428) (.str (ß "outlinemill.path_words") 413), dE (kh P (ß "__firstlineno__")) (.str (ß "__firstlineno__") 432) (.int 95 431), dE (kh P (ß "__init__")) (.str (ß "__init__") 440) (.ref 193), dE (kh P (ß "is_over")) (.str (ß "is_over") 447) (.ref 200), dE (kh P (ß "peek")) (.str (ß "peek") 454) (.ref 207), dE (kh P (ß "fault")) (.str (ß "fault") 462) (.ref 214), dE (kh P (ß "spaces")) (.str (ß "spaces") 469) (.ref 221), dE (kh P (ß "separator")) (.str (ß "separator") 476) (.ref 228), dE (kh P (ß "looks_number")) (.str (ß "looks_number") 484) (.ref 235), dE (kh P (ß "digits")) (.str (ß "digits") 492) (.ref 242), dE (kh P (ß "exponent")) (.str (ß "exponent") 500) (.ref 249), dE (kh P (ß "number")) (.str (ß "number") 510) (.ref 256), dE (kh P (ß "flag")) (.str (ß "flag") 518) (.ref 263), dE (kh P (ß "command")) (.str (ß "command") 526) (.ref 270), dE (kh P (ß "__static_attributes__")) (.str (ß "__static_attributes__") 529) (.ref 271), dE (kh P (ß "__dict__")) (.str (ß "__dict__") 531) (.ref 274), dE (kh P (ß "__weakref__")) (.str (ß "__weakref__") 533) (.ref 275), dE (kh P (ß "__doc__")) (.str (ß "__doc__") 534) .none] 4) #[]
noncomputable def o273 (P : Params) : Obj := oB (.type "type") none (Data.cls (ClassData.mk (ß "PathScanner") [.type "object"] [.ref 273, .type "object"] 272 (ß "PathScanner") true [] [] false none false)) #[none, none, some (.str (ß "PathScanner") 421), some (.str (ß "PathScanner") 429), some (.builtin "object.__new__"), some (.bool true)]
noncomputable def o274 (P : Params) : Obj := oB (.type "getset_descriptor") none (.fields #[.str (ß "__dict__") 530, .ref 273, .builtin "function.__dict__", .builtin "function.__dict__#set"]) #[]
noncomputable def o275 (P : Params) : Obj := oB (.type "getset_descriptor") none (.fields #[.str (ß "__weakref__") 532, .ref 273, .builtin "ExceptionGroup.__weakref__", .none]) #[]
noncomputable def o276 (P : Params) : Obj := oB (.type "super") none (.fields #[.ref 273, .ref 273, .ref 273]) #[]
noncomputable def o277 (P : Params) : Obj := oB (.type "builtin_function_or_method") none (.fields #[.builtin "object.__init_subclass__", .ref 273]) #[]
noncomputable def o278 (P : Params) : Obj := oB (.type "tuple") none (.seq #[]) #[]
noncomputable def o279 (P : Params) : Obj := oB .none none (.fields #[]) #[]
noncomputable def o280 (P : Params) : Obj := oB (.type "tuple") none (.seq #[.str (ß "letter") 542]) #[]
noncomputable def o281 (P : Params) : Obj := oB (.type "tuple") none (.seq #[]) #[]
noncomputable def o282 (P : Params) : Obj := oB .none none (.func (fdOf (stAt 25) (ß "many_of") 0 .none .none .none .none)) #[]
noncomputable def o283 (P : Params) : Obj := oB (.type "code") none (.fields #[.str (ß "many_of") 539, .str (ß "many_of") 540, .str (ß "/claim/cut.py") 541, .int 176 0, .int 1 0, .int 0 0, .int 0 0, .int 3 0, .ref 278, .bool true, .int 181 0, .ref 279, .none, .ref 280, .ref 281, .ref 282, .int 543 0, .int 176 0, .str (ß "/claim/cut.py") 544]) #[]
noncomputable def o284 (P : Params) : Obj := oB (.type "function") none (.func (fdOf (stAt 25) (ß "many_of") 3 .none .none (.str (ß "outlinemill.path_reader") 537) (.ref 283))) #[]
noncomputable def o285 (P : Params) : Obj := oB (.type "tuple") none (.seq #[]) #[]
noncomputable def o286 (P : Params) : Obj := oB .none none (.fields #[]) #[]
noncomputable def o287 (P : Params) : Obj := oB (.type "tuple") none (.seq #[.str (ß "letter") 549]) #[]
noncomputable def o288 (P : Params) : Obj := oB (.type "tuple") none (.seq #[]) #[]
noncomputable def o289 (P : Params) : Obj := oB .none none (.func (fdOf (stAt 26) (ß "letter_behind") 0 .none .none .none .none)) #[]
noncomputable def o290 (P : Params) : Obj := oB (.type "code") none (.fields #[.str (ß "letter_behind") 546, .str (ß "letter_behind") 547, .str (ß "/claim/cut.py") 548, .int 178 0, .int 1 0, .int 0 0, .int 0 0, .int 3 0, .ref 285, .bool true, .int 181 0, .ref 286, .none, .ref 287, .ref 288, .ref 289, .int 550 0, .int 178 0, .str (ß "/claim/cut.py") 551]) #[]
noncomputable def o291 (P : Params) : Obj := oB (.type "function") none (.func (fdOf (stAt 26) (ß "letter_behind") 3 .none .none (.str (ß "outlinemill.path_reader") 537) (.ref 290))) #[]
noncomputable def o292 (P : Params) : Obj := oB (.type "tuple") none (.seq #[]) #[]
noncomputable def o293 (P : Params) : Obj := oB .none none (.fields #[]) #[]
noncomputable def o294 (P : Params) : Obj := oB (.type "tuple") none (.seq #[.str (ß "scanner") 556, .str (ß "letter") 557, .str (ß "found") 558, .str (ß "place") 559]) #[]
noncomputable def o295 (P : Params) : Obj := oB (.type "tuple") none (.seq #[]) #[]
noncomputable def o296 (P : Params) : Obj := oB .none none (.func (fdOf (stAt 27) (ß "read_group") 0 .none .none .none .none)) #[]
noncomputable def o297 (P : Params) : Obj := oB (.type "code") none (.fields #[.str (ß "read_group") 553, .str (ß "read_group") 554, .str (ß "/claim/cut.py") 555, .int 180 0, .int 2 0, .int 0 0, .int 0 0, .int 3 0, .ref 292, .bool true, .int 181 0, .ref 293, .none, .ref 294, .ref 295, .ref 296, .int 560 0, .int 180 0, .str (ß "/claim/cut.py") 561]) #[]
noncomputable def o298 (P : Params) : Obj := oB (.type "function") none (.func (fdOf (stAt 27) (ß "read_group") 3 .none .none (.str (ß "outlinemill.path_reader") 537) (.ref 297))) #[]
noncomputable def o299 (P : Params) : Obj := oB (.type "tuple") none (.seq #[]) #[]
noncomputable def o300 (P : Params) : Obj := oB .none none (.fields #[]) #[]
noncomputable def o301 (P : Params) : Obj := oB (.type "tuple") none (.seq #[.str (ß "scanner") 566, .str (ß "has_comma") 567]) #[]
noncomputable def o302 (P : Params) : Obj := oB (.type "tuple") none (.seq #[]) #[]
noncomputable def o303 (P : Params) : Obj := oB .none none (.func (fdOf (stAt 28) (ß "goes_on") 0 .none .none .none .none)) #[]
noncomputable def o304 (P : Params) : Obj := oB (.type "code") none (.fields #[.str (ß "goes_on") 563, .str (ß "goes_on") 564, .str (ß "/claim/cut.py") 565, .int 190 0, .int 1 0, .int 0 0, .int 0 0, .int 3 0, .ref 299, .bool true, .int 181 0, .ref 300, .none, .ref 301, .ref 302, .ref 303, .int 568 0, .int 190 0, .str (ß "/claim/cut.py") 569]) #[]
noncomputable def o305 (P : Params) : Obj := oB (.type "function") none (.func (fdOf (stAt 28) (ß "goes_on") 3 .none .none (.str (ß "outlinemill.path_reader") 537) (.ref 304))) #[]
noncomputable def o306 (P : Params) : Obj := oB (.type "tuple") none (.seq #[]) #[]
noncomputable def o307 (P : Params) : Obj := oB .none none (.fields #[]) #[]
noncomputable def o308 (P : Params) : Obj := oB (.type "tuple") none (.seq #[.str (ß "scanner") 574, .str (ß "found") 575, .str (ß "letter") 576]) #[]
noncomputable def o309 (P : Params) : Obj := oB (.type "tuple") none (.seq #[]) #[]
noncomputable def o310 (P : Params) : Obj := oB .none none (.func (fdOf (stAt 29) (ß "read_into") 0 .none .none .none .none)) #[]
noncomputable def o311 (P : Params) : Obj := oB (.type "code") none (.fields #[.str (ß "read_into") 571, .str (ß "read_into") 572, .str (ß "/claim/cut.py") 573, .int 197 0, .int 2 0, .int 0 0, .int 0 0, .int 3 0, .ref 306, .bool true, .int 181 0, .ref 307, .none, .ref 308, .ref 309, .ref 310, .int 577 0, .int 197 0, .str (ß "/claim/cut.py") 578]) #[]
noncomputable def o312 (P : Params) : Obj := oB (.type "function") none (.func (fdOf (stAt 29) (ß "read_into") 3 .none .none (.str (ß "outlinemill.path_reader") 537) (.ref 311))) #[]
noncomputable def o313 (P : Params) : Obj := oB (.type "tuple") none (.seq #[]) #[]
noncomputable def o314 (P : Params) : Obj := oB .none none (.fields #[]) #[]
noncomputable def o315 (P : Params) : Obj := oB (.type "tuple") none (.seq #[.str (ß "text") 583, .str (ß "found") 584, .str (ß "fault") 585]) #[]
noncomputable def o316 (P : Params) : Obj := oB (.type "tuple") none (.seq #[]) #[]
noncomputable def o317 (P : Params) : Obj := oB .none none (.func (fdOf (stAt 30) (ß "read_kept") 0 .none .none .none .none)) #[]
noncomputable def o318 (P : Params) : Obj := oB (.type "code") none (.fields #[.str (ß "read_kept") 580, .str (ß "read_kept") 581, .str (ß "/claim/cut.py") 582, .int 212 0, .int 1 0, .int 0 0, .int 0 0, .int 3 0, .ref 313, .bool true, .int 181 0, .ref 314, .none, .ref 315, .ref 316, .ref 317, .int 586 0, .int 212 0, .str (ß "/claim/cut.py") 587]) #[]
noncomputable def o319 (P : Params) : Obj := oB (.type "function") none (.func (fdOf (stAt 30) (ß "read_kept") 3 .none .none (.str (ß "outlinemill.path_reader") 537) (.ref 318))) #[]
noncomputable def o320 (P : Params) : Obj := oB (.type "tuple") none (.seq #[]) #[]
noncomputable def o321 (P : Params) : Obj := oB .none none (.fields #[]) #[]
noncomputable def o322 (P : Params) : Obj := oB (.type "tuple") none (.seq #[.str (ß "here") 594, .str (ß "control") 595]) #[]
noncomputable def o323 (P : Params) : Obj := oB (.type "tuple") none (.seq #[]) #[]
noncomputable def o324 (P : Params) : Obj := oB .none none (.func (fdOf (stAt 32) (ß "mirrored") 0 .none .none .none .none)) #[]
noncomputable def o325 (P : Params) : Obj := oB (.type "code") none (.fields #[.str (ß "mirrored") 591, .str (ß "mirrored") 592, .str (ß "/claim/cut.py") 593, .int 220 0, .int 2 0, .int 0 0, .int 0 0, .int 3 0, .ref 320, .bool true, .int 181 0, .ref 321, .none, .ref 322, .ref 323, .ref 324, .int 596 0, .int 220 0, .str (ß "/claim/cut.py") 597]) #[]
noncomputable def o326 (P : Params) : Obj := oB (.type "function") none (.func (fdOf (stAt 32) (ß "mirrored") 3 .none .none (.str (ß "outlinemill.path_plain") 589) (.ref 325))) #[]
noncomputable def o327 (P : Params) : Obj := oB (.type "tuple") none (.seq #[]) #[]
noncomputable def o328 (P : Params) : Obj := oB .none none (.fields #[]) #[]
noncomputable def o329 (P : Params) : Obj := oB (.type "tuple") none (.seq #[.str (ß "number") 602]) #[]
noncomputable def o330 (P : Params) : Obj := oB (.type "tuple") none (.seq #[]) #[]
noncomputable def o331 (P : Params) : Obj := oB .none none (.func (fdOf (stAt 33) (ß "size_of") 0 .none .none .none .none)) #[]
noncomputable def o332 (P : Params) : Obj := oB (.type "code") none (.fields #[.str (ß "size_of") 599, .str (ß "size_of") 600, .str (ß "/claim/cut.py") 601, .int 222 0, .int 1 0, .int 0 0, .int 0 0, .int 3 0, .ref 327, .bool true, .int 181 0, .ref 328, .none, .ref 329, .ref 330, .ref 331, .int 603 0, .int 222 0, .str (ß "/claim/cut.py") 604]) #[]
noncomputable def o333 (P : Params) : Obj := oB (.type "function") none (.func (fdOf (stAt 33) (ß "size_of") 3 .none .none (.str (ß "outlinemill.path_plain") 589) (.ref 332))) #[]
noncomputable def o334 (P : Params) : Obj := oB (.type "tuple") none (.seq #[]) #[]
noncomputable def o335 (P : Params) : Obj := oB (.type "builtin_function_or_method") none (.fields #[.builtin "type.__prepare__", .type "type"]) #[]
noncomputable def o336 (P : Params) : Obj := oB (.type "dict") none (.dict #[dE (kh P (ß "__module__")) (.str (ß "__module__") 613) (.str (ß "outlinemill.path_plain") 589), dE (kh P (ß "__qualname__")) (.str (ß "__qualname__") 615) (.str (ß "Pen") 614), dE (kh P (ß "__firstlineno__")) (.str (ß "__firstlineno__") 617) (.int 224 616), dE (kh P (ß "__init__")) (.str (ß "__init__") 624) (.ref 347), dE (kh P (ß "point")) (.str (ß "point") 634) (.ref 354), dE (kh P (ß "put")) (.str (ß "put") 642) (.ref 361), dE (kh P (ß "move")) (.str (ß "move") 650) (.ref 368), dE (kh P (ß "close")) (.str (ß "close") 657) (.ref 375), dE (kh P (ß "mirrored_control")) (.str (ß "mirrored_control") 665) (.ref 382), dE (kh P (ß "cubic")) (.str (ß "cubic") 675) (.ref 389), dE (kh P (ß "quad")) (.str (ß "quad") 684) (.ref 396), dE (kh P (ß "arc")) (.str (ß "arc") 696) (.ref 403), dE (kh P (ß "__static_attributes__")) (.str (ß "__static_attributes__") 703) (.ref 404)] 13) #[]
noncomputable def o337 (P : Params) : Obj := oB (.type "tuple") none (.seq #[]) #[]
noncomputable def o338 (P : Params) : Obj := oB .none none (.fields #[.int 226 0, .int 4 0, .ref 346, .int 234 0, .int 4 0, .ref 353, .int 239 0, .int 4 0, .ref 360, .int 247 0, .int 4 0, .ref 367, .int 251 0, .int 4 0, .ref 374, .int 259 0, .int 4 0, .ref 381, .int 262 0, .int 4 0, .ref 388, .int 267 0, .int 4 0, .ref 395, .int 272 0, .int 4 0, .ref 402]) #[]
noncomputable def o339 (P : Params) : Obj := oB (.type "code") none (.fields #[.str (ß "Pen") 608, .str (ß "Pen") 609, .str (ß "/claim/cut.py") 610, .int 224 0, .int 0 0, .int 0 0, .int 0 0, .int 0 0, .ref 337, .bool false, .int 181 0, .ref 338, .none, .none, .none, .none, .int 611 0, .int 224 0, .str (ß "/claim/cut.py") 612]) #[]
noncomputable def o340 (P : Params) : Obj := oB (.type "frame") none Data.plain #[some (.ref 339), some (.ref 3), some (.ref 336), none, some (.str (ß "outlinemill.path_plain") 589), none, some (.ref 0)]
noncomputable def o341 (P : Params) : Obj := oB (.type "tuple") none (.seq #[]) #[]
noncomputable def o342 (P : Params) : Obj := oB .none none (.fields #[]) #[]
noncomputable def o343 (P : Params) : Obj := oB (.type "tuple") none (.seq #[.str (ß "self") 621]) #[]
noncomputable def o344 (P : Params) : Obj := oB (.type "tuple") none (.seq #[]) #[]
noncomputable def o345 (P : Params) : Obj := oB .none none (.func (fdOf (mtAt 34 0) (ß "Pen.__init__") 0 .none .none .none .none)) #[]
noncomputable def o346 (P : Params) : Obj := oB (.type "code") none (.fields #[.str (ß "__init__") 618, .str (ß "Pen.__init__") 619, .str (ß "/claim/cut.py") 620, .int 226 0, .int 1 0, .int 0 0, .int 0 0, .int 3 0, .ref 341, .bool true, .int 181 0, .ref 342, .none, .ref 343, .ref 344, .ref 345, .int 622 0, .int 226 0, .str (ß "/claim/cut.py") 623]) #[]
noncomputable def o347 (P : Params) : Obj := oB (.type "function") none (.func (fdOf (mtAt 34 0) (ß "Pen.__init__") 3 .none .none (.str (ß "outlinemill.path_plain") 589) (.ref 346))) #[]
noncomputable def o348 (P : Params) : Obj := oB (.type "tuple") none (.seq #[]) #[]
noncomputable def o349 (P : Params) : Obj := oB .none none (.fields #[]) #[]
noncomputable def o350 (P : Params) : Obj := oB (.type "tuple") none (.seq #[.str (ß "self") 628, .str (ß "is_relative") 629, .str (ß "x") 630, .str (ß "y") 631]) #[]
noncomputable def o351 (P : Params) : Obj := oB (.type "tuple") none (.seq #[]) #[]
noncomputable def o352 (P : Params) : Obj := oB .none none (.func (fdOf (mtAt 34 1) (ß "Pen.point") 0 .none .none .none .none)) #[]
noncomputable def o353 (P : Params) : Obj := oB (.type "code") none (.fields #[.str (ß "point") 625, .str (ß "Pen.point") 626, .str (ß "/claim/cut.py") 627, .int 234 0, .int 4 0, .int 0 0, .int 0 0, .int 3 0, .ref 348, .bool true, .int 181 0, .ref 349, .none, .ref 350, .ref 351, .ref 352, .int 632 0, .int 234 0, .str (ß "/claim/cut.py") 633]) #[]
noncomputable def o354 (P : Params) : Obj := oB (.type "function") none (.func (fdOf (mtAt 34 1) (ß "Pen.point") 3 .none .none (.str (ß "outlinemill.path_plain") 589) (.ref 353))) #[]
noncomputable def o355 (P : Params) : Obj := oB (.type "tuple") none (.seq #[]) #[]
noncomputable def o356 (P : Params) : Obj := oB .none none (.fields #[]) #[]
noncomputable def o357 (P : Params) : Obj := oB (.type "tuple") none (.seq #[.str (ß "self") 638, .str (ß "segment") 639]) #[]
noncomputable def o358 (P : Params) : Obj := oB (.type "tuple") none (.seq #[]) #[]
noncomputable def o359 (P : Params) : Obj := oB .none none (.func (fdOf (mtAt 34 2) (ß "Pen.put") 0 .none .none .none .none)) #[]
noncomputable def o360 (P : Params) : Obj := oB (.type "code") none (.fields #[.str (ß "put") 635, .str (ß "Pen.put") 636, .str (ß "/claim/cut.py") 637, .int 239 0, .int 2 0, .int 0 0, .int 0 0, .int 3 0, .ref 355, .bool true, .int 181 0, .ref 356, .none, .ref 357, .ref 358, .ref 359, .int 640 0, .int 239 0, .str (ß "/claim/cut.py") 641]) #[]
noncomputable def o361 (P : Params) : Obj := oB (.type "function") none (.func (fdOf (mtAt 34 2) (ß "Pen.put") 3 .none .none (.str (ß "outlinemill.path_plain") 589) (.ref 360))) #[]
noncomputable def o362 (P : Params) : Obj := oB (.type "tuple") none (.seq #[]) #[]
noncomputable def o363 (P : Params) : Obj := oB .none none (.fields #[]) #[]
noncomputable def o364 (P : Params) : Obj := oB (.type "tuple") none (.seq #[.str (ß "self") 646, .str (ß "p") 647]) #[]
noncomputable def o365 (P : Params) : Obj := oB (.type "tuple") none (.seq #[]) #[]
noncomputable def o366 (P : Params) : Obj := oB .none none (.func (fdOf (mtAt 34 3) (ß "Pen.move") 0 .none .none .none .none)) #[]
noncomputable def o367 (P : Params) : Obj := oB (.type "code") none (.fields #[.str (ß "move") 643, .str (ß "Pen.move") 644, .str (ß "/claim/cut.py") 645, .int 247 0, .int 2 0, .int 0 0, .int 0 0, .int 3 0, .ref 362, .bool true, .int 181 0, .ref 363, .none, .ref 364, .ref 365, .ref 366, .int 648 0, .int 247 0, .str (ß "/claim/cut.py") 649]) #[]
noncomputable def o368 (P : Params) : Obj := oB (.type "function") none (.func (fdOf (mtAt 34 3) (ß "Pen.move") 3 .none .none (.str (ß "outlinemill.path_plain") 589) (.ref 367))) #[]
noncomputable def o369 (P : Params) : Obj := oB (.type "tuple") none (.seq #[]) #[]
noncomputable def o370 (P : Params) : Obj := oB .none none (.fields #[]) #[]
noncomputable def o371 (P : Params) : Obj := oB (.type "tuple") none (.seq #[.str (ß "self") 654]) #[]
noncomputable def o372 (P : Params) : Obj := oB (.type "tuple") none (.seq #[]) #[]
noncomputable def o373 (P : Params) : Obj := oB .none none (.func (fdOf (mtAt 34 4) (ß "Pen.close") 0 .none .none .none .none)) #[]
noncomputable def o374 (P : Params) : Obj := oB (.type "code") none (.fields #[.str (ß "close") 651, .str (ß "Pen.close") 652, .str (ß "/claim/cut.py") 653, .int 251 0, .int 1 0, .int 0 0, .int 0 0, .int 3 0, .ref 369, .bool true, .int 181 0, .ref 370, .none, .ref 371, .ref 372, .ref 373, .int 655 0, .int 251 0, .str (ß "/claim/cut.py") 656]) #[]
noncomputable def o375 (P : Params) : Obj := oB (.type "function") none (.func (fdOf (mtAt 34 4) (ß "Pen.close") 3 .none .none (.str (ß "outlinemill.path_plain") 589) (.ref 374))) #[]
noncomputable def o376 (P : Params) : Obj := oB (.type "tuple") none (.seq #[]) #[]
noncomputable def o377 (P : Params) : Obj := oB .none none (.fields #[]) #[]
noncomputable def o378 (P : Params) : Obj := oB (.type "tuple") none (.seq #[.str (ß "self") 661, .str (ß "kind") 662]) #[]
noncomputable def o379 (P : Params) : Obj := oB (.type "tuple") none (.seq #[]) #[]
noncomputable def o380 (P : Params) : Obj := oB .none none (.func (fdOf (mtAt 34 5) (ß "Pen.mirrored_control") 0 .none .none .none .none)) #[]
noncomputable def o381 (P : Params) : Obj := oB (.type "code") none (.fields #[.str (ß "mirrored_control") 658, .str (ß "Pen.mirrored_control") 659, .str (ß "/claim/cut.py") 660, .int 259 0, .int 2 0, .int 0 0, .int 0 0, .int 3 0, .ref 376, .bool true, .int 181 0, .ref 377, .none, .ref 378, .ref 379, .ref 380, .int 663 0, .int 259 0, .str (ß "/claim/cut.py") 664]) #[]
noncomputable def o382 (P : Params) : Obj := oB (.type "function") none (.func (fdOf (mtAt 34 5) (ß "Pen.mirrored_control") 3 .none .none (.str (ß "outlinemill.path_plain") 589) (.ref 381))) #[]
noncomputable def o383 (P : Params) : Obj := oB (.type "tuple") none (.seq #[]) #[]
noncomputable def o384 (P : Params) : Obj := oB .none none (.fields #[]) #[]
noncomputable def o385 (P : Params) : Obj := oB (.type "tuple") none (.seq #[.str (ß "self") 669, .str (ß "c") 670, .str (ß "d") 671, .str (ß "p") 672]) #[]
noncomputable def o386 (P : Params) : Obj := oB (.type "tuple") none (.seq #[]) #[]
noncomputable def o387 (P : Params) : Obj := oB .none none (.func (fdOf (mtAt 34 6) (ß "Pen.cubic") 0 .none .none .none .none)) #[]
noncomputable def o388 (P : Params) : Obj := oB (.type "code") none (.fields #[.str (ß "cubic") 666, .str (ß "Pen.cubic") 667, .str (ß "/claim/cut.py") 668, .int 262 0, .int 4 0, .int 0 0, .int 0 0, .int 3 0, .ref 383, .bool true, .int 181 0, .ref 384, .none, .ref 385, .ref 386, .ref 387, .int 673 0, .int 262 0, .str (ß "/claim/cut.py") 674]) #[]
noncomputable def o389 (P : Params) : Obj := oB (.type "function") none (.func (fdOf (mtAt 34 6) (ß "Pen.cubic") 3 .none .none (.str (ß "outlinemill.path_plain") 589) (.ref 388))) #[]
noncomputable def o390 (P : Params) : Obj := oB (.type "tuple") none (.seq #[]) #[]
noncomputable def o391 (P : Params) : Obj := oB .none none (.fields #[]) #[]
noncomputable def o392 (P : Params) : Obj := oB (.type "tuple") none (.seq #[.str (ß "self") 679, .str (ß "c") 680, .str (ß "p") 681]) #[]
noncomputable def o393 (P : Params) : Obj := oB (.type "tuple") none (.seq #[]) #[]
noncomputable def o394 (P : Params) : Obj := oB .none none (.func (fdOf (mtAt 34 7) (ß "Pen.quad") 0 .none .none .none .none)) #[]
noncomputable def o395 (P : Params) : Obj := oB (.type "code") none (.fields #[.str (ß "quad") 676, .str (ß "Pen.quad") 677, .str (ß "/claim/cut.py") 678, .int 267 0, .int 3 0, .int 0 0, .int 0 0, .int 3 0, .ref 390, .bool true, .int 181 0, .ref 391, .none, .ref 392, .ref 393, .ref 394, .int 682 0, .int 267 0, .str (ß "/claim/cut.py") 683]) #[]
noncomputable def o396 (P : Params) : Obj := oB (.type "function") none (.func (fdOf (mtAt 34 7) (ß "Pen.quad") 3 .none .none (.str (ß "outlinemill.path_plain") 589) (.ref 395))) #[]
noncomputable def o397 (P : Params) : Obj := oB (.type "tuple") none (.seq #[]) #[]
noncomputable def o398 (P : Params) : Obj := oB .none none (.fields #[]) #[]
noncomputable def o399 (P : Params) : Obj := oB (.type "tuple") none (.seq #[.str (ß "self") 688, .str (ß "numbers") 689, .str (ß "p") 690, .str (ß "rx") 691, .str (ß "ry") 692, .str (ß "turn") 693]) #[]
noncomputable def o400 (P : Params) : Obj := oB (.type "tuple") none (.seq #[]) #[]
noncomputable def o401 (P : Params) : Obj := oB .none none (.func (fdOf (mtAt 34 8) (ß "Pen.arc") 0 .none .none .none .none)) #[]
noncomputable def o402 (P : Params) : Obj := oB (.type "code") none (.fields #[.str (ß "arc") 685, .str (ß "Pen.arc") 686, .str (ß "/claim/cut.py") 687, .int 272 0, .int 3 0, .int 0 0, .int 0 0, .int 3 0, .ref 397, .bool true, .int 181 0, .ref 398, .none, .ref 399, .ref 400, .ref 401, .int 694 0, .int 272 0, .str (ß "/claim/cut.py") 695]) #[]
noncomputable def o403 (P : Params) : Obj := oB (.type "function") none (.func (fdOf (mtAt 34 8) (ß "Pen.arc") 3 .none .none (.str (ß "outlinemill.path_plain") 589) (.ref 402))) #[]
noncomputable def o404 (P : Params) : Obj := oB (.type "tuple") none (.seq #[.str (ß "control") 697, .str (ß "found") 698, .str (ß "here") 699, .str (ß "is_closed") 700, .str (ß "kind") 701, .str (ß "start") 702]) #[]
noncomputable def o405 (P : Params) : Obj := oB (.type "dict") none (.dict #[dE (kh P (ß "__module__")) (.str (ß "__module__") 613) (.str (ß "outlinemill.path_plain") 589), dE (kh P (ß "__firstlineno__")) (.str (ß "__firstlineno__") 617) (.int 224 616), dE (kh P (ß "__init__")) (.str (ß "__init__") 624) (.ref 347), dE (kh P (ß "point")) (.str (ß "point") 634) (.ref 354), dE (kh P (ß "put")) (.str (ß "put") 642) (.ref 361), dE (kh P (ß "move")) (.str (ß "move") 650) (.ref 368), dE (kh P (ß "close")) (.str (ß "close") 657) (.ref 375), dE (kh P (ß "mirrored_control")) (.str (ß "mirrored_control") 665) (.ref 382), dE (kh P (ß "cubic")) (.str (ß "cubic") 675) (.ref 389), dE (kh P (ß "quad")) (.str (ß "quad") 684) (.ref 396), dE (kh P (ß "arc")) (.str (ß "arc") 696) (.ref 403), dE (kh P (ß "__static_attributes__")) (.str (ß "__static_attributes__") 703) (.ref 404), dE (kh P (ß "__dict__")) (.str (ß "__dict__") 705) (.ref 407), dE (kh P (ß "__weakref__")) (.str (ß "__weakref__") 707) (.ref 408), dE (kh P (ß "__doc__")) (.str (ß "__doc__") 708) .none] 4) #[]
noncomputable def o406 (P : Params) : Obj := oB (.type "type") none (Data.cls (ClassData.mk (ß "Pen") [.type "object"] [.ref 406, .type "object"] 405 (ß "Pen") true [] [] false none false)) #[none, none, some (.str (ß "Pen") 606), some (.str (ß "Pen") 614), some (.builtin "object.__new__"), some (.bool true)]
noncomputable def o407 (P : Params) : Obj := oB (.type "getset_descriptor") none (.fields #[.str (ß "__dict__") 704, .ref 406, .builtin "function.__dict__", .builtin "function.__dict__#set"]) #[]
noncomputable def o408 (P : Params) : Obj := oB (.type "getset_descriptor") none (.fields #[.str (ß "__weakref__") 706, .ref 406, .builtin "ExceptionGroup.__weakref__", .none]) #[]
noncomputable def o409 (P : Params) : Obj := oB (.type "super") none (.fields #[.ref 406, .ref 406, .ref 406]) #[]
noncomputable def o410 (P : Params) : Obj := oB (.type "builtin_function_or_method") none (.fields #[.builtin "object.__init_subclass__", .ref 406]) #[]
noncomputable def o411 (P : Params) : Obj := oB (.type "tuple") none (.seq #[]) #[]
noncomputable def o412 (P : Params) : Obj := oB .none none (.fields #[]) #[]
noncomputable def o413 (P : Params) : Obj := oB (.type "tuple") none (.seq #[.str (ß "pen") 714, .str (ß "letter") 715, .str (ß "is_relative") 716, .str (ß "numbers") 717]) #[]
noncomputable def o414 (P : Params) : Obj := oB (.type "tuple") none (.seq #[]) #[]
noncomputable def o415 (P : Params) : Obj := oB .none none (.func (fdOf (stAt 35) (ß "line_end") 0 .none .none .none .none)) #[]
noncomputable def o416 (P : Params) : Obj := oB (.type "code") none (.fields #[.str (ß "line_end") 711, .str (ß "line_end") 712, .str (ß "/claim/cut.py") 713, .int 280 0, .int 4 0, .int 0 0, .int 0 0, .int 3 0, .ref 411, .bool true, .int 181 0, .ref 412, .none, .ref 413, .ref 414, .ref 415, .int 718 0, .int 280 0, .str (ß "/claim/cut.py") 719]) #[]
noncomputable def o417 (P : Params) : Obj := oB (.type "function") none (.func (fdOf (stAt 35) (ß "line_end") 3 .none .none (.str (ß "outlinemill.path_plain") 589) (.ref 416))) #[]
noncomputable def o418 (P : Params) : Obj := oB (.type "tuple") none (.seq #[]) #[]
noncomputable def o419 (P : Params) : Obj := oB .none none (.fields #[]) #[]
noncomputable def o420 (P : Params) : Obj := oB (.type "tuple") none (.seq #[.str (ß "pen") 724, .str (ß "letter") 725, .str (ß "is_relative") 726, .str (ß "numbers") 727, .str (ß "points") 728, .str (ß "begin") 729, .str (ß "at") 730]) #[]
noncomputable def o421 (P : Params) : Obj := oB (.type "tuple") none (.seq #[]) #[]
noncomputable def o422 (P : Params) : Obj := oB .none none (.func (fdOf (stAt 36) (ß "draw") 0 .none .none .none .none)) #[]
noncomputable def o423 (P : Params) : Obj := oB (.type "code") none (.fields #[.str (ß "draw") 721, .str (ß "draw") 722, .str (ß "/claim/cut.py") 723, .int 286 0, .int 4 0, .int 0 0, .int 0 0, .int 3 0, .ref 418, .bool true, .int 181 0, .ref 419, .none, .ref 420, .ref 421, .ref 422, .int 731 0, .int 286 0, .str (ß "/claim/cut.py") 732]) #[]
noncomputable def o424 (P : Params) : Obj := oB (.type "function") none (.func (fdOf (stAt 36) (ß "draw") 3 .none .none (.str (ß "outlinemill.path_plain") 589) (.ref 423))) #[]
noncomputable def o425 (P : Params) : Obj := oB (.type "tuple") none (.seq #[]) #[]
noncomputable def o426 (P : Params) : Obj := oB .none none (.fields #[]) #[]
noncomputable def o427 (P : Params) : Obj := oB (.type "tuple") none (.seq #[.str (ß "commands") 737, .str (ß "pen") 738, .str (ß "letter") 739, .str (ß "numbers") 740]) #[]
noncomputable def o428 (P : Params) : Obj := oB (.type "tuple") none (.seq #[]) #[]
noncomputable def o429 (P : Params) : Obj := oB .none none (.func (fdOf (stAt 37) (ß "plain_segments") 0 .none .none .none .none)) #[]
noncomputable def o430 (P : Params) : Obj := oB (.type "code") none (.fields #[.str (ß "plain_segments") 734, .str (ß "plain_segments") 735, .str (ß "/claim/cut.py") 736, .int 306 0, .int 1 0, .int 0 0, .int 0 0, .int 3 0, .ref 425, .bool true, .int 181 0, .ref 426, .none, .ref 427, .ref 428, .ref 429, .int 741 0, .int 306 0, .str (ß "/claim/cut.py") 742]) #[]
noncomputable def o431 (P : Params) : Obj := oB (.type "function") none (.func (fdOf (stAt 37) (ß "plain_segments") 3 .none .none (.str (ß "outlinemill.path_plain") 589) (.ref 430))) #[]
noncomputable def o432 (P : Params) : Obj := oB (.type "tuple") none (.seq #[]) #[]
noncomputable def o433 (P : Params) : Obj := oB .none none (.fields #[]) #[]
noncomputable def o434 (P : Params) : Obj := oB (.type "tuple") none (.seq #[.str (ß "text") 747, .str (ß "commands") 748, .str (ß "fault") 749]) #[]
noncomputable def o435 (P : Params) : Obj := oB (.type "tuple") none (.seq #[]) #[]
noncomputable def o436 (P : Params) : Obj := oB .none none (.func (fdOf (stAt 38) (ß "fault_kept") 0 .none .none .none .none)) #[]
noncomputable def o437 (P : Params) : Obj := oB (.type "code") none (.fields #[.str (ß "fault_kept") 744, .str (ß "fault_kept") 745, .str (ß "/claim/cut.py") 746, .int 314 0, .int 1 0, .int 0 0, .int 0 0, .int 3 0, .ref 432, .bool true, .int 181 0, .ref 433, .none, .ref 434, .ref 435, .ref 436, .int 750 0, .int 314 0, .str (ß "/claim/cut.py") 751]) #[]
noncomputable def o438 (P : Params) : Obj := oB (.type "function") none (.func (fdOf (stAt 38) (ß "fault_kept") 3 .none .none (.str (ß "outlinemill.path_plain") 589) (.ref 437))) #[]
noncomputable def o439 (P : Params) : Obj := oB (.type "tuple") none (.seq #[]) #[]
noncomputable def o440 (P : Params) : Obj := oB .none none (.fields #[]) #[]
noncomputable def o441 (P : Params) : Obj := oB (.type "tuple") none (.seq #[.str (ß "script") 758, .str (ß "k") 759, .str (ß "cell") 760, .str (ß "big") 761, .str (ß "mixed") 762]) #[]
noncomputable def o442 (P : Params) : Obj := oB (.type "tuple") none (.seq #[]) #[]
noncomputable def o443 (P : Params) : Obj := oB .none none (.func (fdOf (stAt 40) (ß "_law_pool") 0 .none .none .none .none)) #[]
noncomputable def o444 (P : Params) : Obj := oB (.type "code") none (.fields #[.str (ß "_law_pool") 755, .str (ß "_law_pool") 756, .str (ß "/claim/cut.py") 757, .int 318 0, .int 2 0, .int 0 0, .int 0 0, .int 3 0, .ref 439, .bool true, .int 181 0, .ref 440, .none, .ref 441, .ref 442, .ref 443, .int 763 0, .int 318 0, .str (ß "/claim/cut.py") 764]) #[]
noncomputable def o445 (P : Params) : Obj := oB (.type "function") none (.func (fdOf (stAt 40) (ß "_law_pool") 3 .none .none (.str (ß "law_on0248_01") 753) (.ref 444))) #[]
noncomputable def o446 (P : Params) : Obj := oB (.type "tuple") none (.seq #[]) #[]
noncomputable def o447 (P : Params) : Obj := oB .none none (.fields #[]) #[]
noncomputable def o448 (P : Params) : Obj := oB (.type "tuple") none (.seq #[.str (ß "source") 769, .str (ß "top") 770, .str (ß "drawn") 771]) #[]
noncomputable def o449 (P : Params) : Obj := oB (.type "tuple") none (.seq #[]) #[]
noncomputable def o450 (P : Params) : Obj := oB .none none (.func (fdOf (stAt 41) (ß "_law_take") 0 .none .none .none .none)) #[]
noncomputable def o451 (P : Params) : Obj := oB (.type "code") none (.fields #[.str (ß "_law_take") 766, .str (ß "_law_take") 767, .str (ß "/claim/cut.py") 768, .int 325 0, .int 2 0, .int 0 0, .int 0 0, .int 3 0, .ref 446, .bool true, .int 181 0, .ref 447, .none, .ref 448, .ref 449, .ref 450, .int 772 0, .int 325 0, .str (ß "/claim/cut.py") 773]) #[]
noncomputable def o452 (P : Params) : Obj := oB (.type "function") none (.func (fdOf (stAt 41) (ß "_law_take") 3 .none .none (.str (ß "law_on0248_01") 753) (.ref 451))) #[]
noncomputable def o453 (P : Params) : Obj := oB (.type "tuple") none (.seq #[]) #[]
noncomputable def o454 (P : Params) : Obj := oB .none none (.fields #[]) #[]
noncomputable def o455 (P : Params) : Obj := oB (.type "tuple") none (.seq #[.str (ß "source") 778, .str (ß "things") 779]) #[]
noncomputable def o456 (P : Params) : Obj := oB (.type "tuple") none (.seq #[]) #[]
noncomputable def o457 (P : Params) : Obj := oB .none none (.func (fdOf (stAt 42) (ß "_law_one") 0 .none .none .none .none)) #[]
noncomputable def o458 (P : Params) : Obj := oB (.type "code") none (.fields #[.str (ß "_law_one") 775, .str (ß "_law_one") 776, .str (ß "/claim/cut.py") 777, .int 332 0, .int 2 0, .int 0 0, .int 0 0, .int 3 0, .ref 453, .bool true, .int 181 0, .ref 454, .none, .ref 455, .ref 456, .ref 457, .int 780 0, .int 332 0, .str (ß "/claim/cut.py") 781]) #[]
noncomputable def o459 (P : Params) : Obj := oB (.type "function") none (.func (fdOf (stAt 42) (ß "_law_one") 3 .none .none (.str (ß "law_on0248_01") 753) (.ref 458))) #[]
noncomputable def o460 (P : Params) : Obj := oB (.type "tuple") none (.seq #[]) #[]
noncomputable def o461 (P : Params) : Obj := oB .none none (.fields #[]) #[]
noncomputable def o462 (P : Params) : Obj := oB .none none (.func (fdOf (stAt 43) (ß "_law_group") 0 .none .none .none .none)) #[]
noncomputable def o463 (P : Params) : Obj := oB (.type "code") none (.fields #[.str (ß "_law_group") 783, .str (ß "_law_group") 784, .str (ß "/claim/cut.py") 785, .int 334 0, .int 2 0, .int 0 0, .int 0 0, .int 3 0, .ref 460, .bool true, .int 181 0, .ref 461, .none, .none, .none, .ref 462, .int 786 0, .int 334 0, .str (ß "/claim/cut.py") 787]) #[]
noncomputable def o464 (P : Params) : Obj := oB (.type "function") none (.func (fdOf (stAt 43) (ß "_law_group") 3 .none .none (.str (ß "law_on0248_01") 753) (.ref 463))) #[]
noncomputable def o465 (P : Params) : Obj := oB (.type "tuple") none (.seq #[]) #[]
noncomputable def o466 (P : Params) : Obj := oB .none none (.fields #[]) #[]
noncomputable def o467 (P : Params) : Obj := oB (.type "tuple") none (.seq #[]) #[]
noncomputable def o468 (P : Params) : Obj := oB (.type "tuple") none (.seq #[]) #[]
noncomputable def o469 (P : Params) : Obj := oB .none none (.func (fdOf (stAt 44) (ß "_law_pen") 0 .none .none .none .none)) #[]
noncomputable def o470 (P : Params) : Obj := oB (.type "code") none (.fields #[.str (ß "_law_pen") 789, .str (ß "_law_pen") 790, .str (ß "/claim/cut.py") 791, .int 337 0, .int 0 0, .int 0 0, .int 0 0, .int 3 0, .ref 465, .bool true, .int 181 0, .ref 466, .none, .ref 467, .ref 468, .ref 469, .int 792 0, .int 337 0, .str (ß "/claim/cut.py") 793]) #[]
noncomputable def o471 (P : Params) : Obj := oB (.type "function") none (.func (fdOf (stAt 44) (ß "_law_pen") 3 .none .none (.str (ß "law_on0248_01") 753) (.ref 470))) #[]
noncomputable def o472 (P : Params) : Obj := oB (.type "tuple") none (.seq #[]) #[]
noncomputable def o473 (P : Params) : Obj := oB .none none (.fields #[]) #[]
noncomputable def o474 (P : Params) : Obj := oB (.type "tuple") none (.seq #[.str (ß "point") 798]) #[]
noncomputable def o475 (P : Params) : Obj := oB (.type "tuple") none (.seq #[]) #[]
noncomputable def o476 (P : Params) : Obj := oB .none none (.func (fdOf (stAt 45) (ß "_law_spot") 0 .none .none .none .none)) #[]
noncomputable def o477 (P : Params) : Obj := oB (.type "code") none (.fields #[.str (ß "_law_spot") 795, .str (ß "_law_spot") 796, .str (ß "/claim/cut.py") 797, .int 339 0, .int 1 0, .int 0 0, .int 0 0, .int 3 0, .ref 472, .bool true, .int 181 0, .ref 473, .none, .ref 474, .ref 475, .ref 476, .int 799 0, .int 339 0, .str (ß "/claim/cut.py") 800]) #[]
noncomputable def o478 (P : Params) : Obj := oB (.type "function") none (.func (fdOf (stAt 45) (ß "_law_spot") 3 .none .none (.str (ß "law_on0248_01") 753) (.ref 477))) #[]
noncomputable def o479 (P : Params) : Obj := oB (.type "tuple") none (.seq #[]) #[]
noncomputable def o480 (P : Params) : Obj := oB .none none (.fields #[]) #[]
noncomputable def o481 (P : Params) : Obj := oB (.type "tuple") none (.seq #[.str (ß "pen") 805, .str (ß "segment") 806, .str (ß "end") 807]) #[]
noncomputable def o482 (P : Params) : Obj := oB (.type "tuple") none (.seq #[]) #[]
noncomputable def o483 (P : Params) : Obj := oB .none none (.func (fdOf (stAt 46) (ß "_law_put") 0 .none .none .none .none)) #[]
noncomputable def o484 (P : Params) : Obj := oB (.type "code") none (.fields #[.str (ß "_law_put") 802, .str (ß "_law_put") 803, .str (ß "/claim/cut.py") 804, .int 341 0, .int 3 0, .int 0 0, .int 0 0, .int 3 0, .ref 479, .bool true, .int 181 0, .ref 480, .none, .ref 481, .ref 482, .ref 483, .int 808 0, .int 341 0, .str (ß "/claim/cut.py") 809]) #[]
noncomputable def o485 (P : Params) : Obj := oB (.type "function") none (.func (fdOf (stAt 46) (ß "_law_put") 3 .none .none (.str (ß "law_on0248_01") 753) (.ref 484))) #[]
noncomputable def o486 (P : Params) : Obj := oB (.type "tuple") none (.seq #[]) #[]
noncomputable def o487 (P : Params) : Obj := oB .none none (.fields #[]) #[]
noncomputable def o488 (P : Params) : Obj := oB (.type "tuple") none (.seq #[.str (ß "pen") 814]) #[]
noncomputable def o489 (P : Params) : Obj := oB (.type "tuple") none (.seq #[]) #[]
noncomputable def o490 (P : Params) : Obj := oB .none none (.func (fdOf (stAt 47) (ß "_law_close") 0 .none .none .none .none)) #[]
noncomputable def o491 (P : Params) : Obj := oB (.type "code") none (.fields #[.str (ß "_law_close") 811, .str (ß "_law_close") 812, .str (ß "/claim/cut.py") 813, .int 346 0, .int 1 0, .int 0 0, .int 0 0, .int 3 0, .ref 486, .bool true, .int 181 0, .ref 487, .none, .ref 488, .ref 489, .ref 490, .int 815 0, .int 346 0, .str (ß "/claim/cut.py") 816]) #[]
noncomputable def o492 (P : Params) : Obj := oB (.type "function") none (.func (fdOf (stAt 47) (ß "_law_close") 3 .none .none (.str (ß "law_on0248_01") 753) (.ref 491))) #[]
noncomputable def o493 (P : Params) : Obj := oB (.type "tuple") none (.seq #[]) #[]
noncomputable def o494 (P : Params) : Obj := oB .none none (.fields #[]) #[]
noncomputable def o495 (P : Params) : Obj := oB (.type "tuple") none (.seq #[.str (ß "pen") 821, .str (ß "letter") 822, .str (ß "numbers") 823, .str (ß "x") 824, .str (ß "y") 825, .str (ß "near") 826, .str (ß "word") 827, .str (ß "end") 828, .str (ß "control") 829, .str (ß "last") 830]) #[]
noncomputable def o496 (P : Params) : Obj := oB (.type "tuple") none (.seq #[]) #[]
noncomputable def o497 (P : Params) : Obj := oB .none none (.func (fdOf (stAt 48) (ß "_law_draw") 0 .none .none .none .none)) #[]
noncomputable def o498 (P : Params) : Obj := oB (.type "code") none (.fields #[.str (ß "_law_draw") 818, .str (ß "_law_draw") 819, .str (ß "/claim/cut.py") 820, .int 351 0, .int 3 0, .int 0 0, .int 0 0, .int 3 0, .ref 493, .bool true, .int 181 0, .ref 494, .none, .ref 495, .ref 496, .ref 497, .int 831 0, .int 351 0, .str (ß "/claim/cut.py") 832]) #[]
noncomputable def o499 (P : Params) : Obj := oB (.type "function") none (.func (fdOf (stAt 48) (ß "_law_draw") 3 .none .none (.str (ß "law_on0248_01") 753) (.ref 498))) #[]
noncomputable def o500 (P : Params) : Obj := oB (.type "tuple") none (.seq #[]) #[]
noncomputable def o501 (P : Params) : Obj := oB .none none (.fields #[]) #[]
noncomputable def o502 (P : Params) : Obj := oB .none none (.func (fdOf (stAt 49) (ß "_law_command") 0 .none .none .none .none)) #[]
noncomputable def o503 (P : Params) : Obj := oB (.type "code") none (.fields #[.str (ß "_law_command") 834, .str (ß "_law_command") 835, .str (ß "/claim/cut.py") 836, .int 372 0, .int 3 0, .int 0 0, .int 0 0, .int 3 0, .ref 500, .bool true, .int 181 0, .ref 501, .none, .none, .none, .ref 502, .int 837 0, .int 372 0, .str (ß "/claim/cut.py") 838]) #[]
noncomputable def o504 (P : Params) : Obj := oB (.type "function") none (.func (fdOf (stAt 49) (ß "_law_command") 3 .none .none (.str (ß "law_on0248_01") 753) (.ref 503))) #[]
noncomputable def o505 (P : Params) : Obj := oB (.type "tuple") none (.seq #[]) #[]
noncomputable def o506 (P : Params) : Obj := oB .none none (.fields #[]) #[]
noncomputable def o507 (P : Params) : Obj := oB (.type "tuple") none (.seq #[.str (ß "way") 843, .str (ß "pen") 844]) #[]
noncomputable def o508 (P : Params) : Obj := oB (.type "tuple") none (.seq #[]) #[]
noncomputable def o509 (P : Params) : Obj := oB .none none (.func (fdOf (stAt 50) (ß "_law_wrong") 0 .none .none .none .none)) #[]
noncomputable def o510 (P : Params) : Obj := oB (.type "code") none (.fields #[.str (ß "_law_wrong") 840, .str (ß "_law_wrong") 841, .str (ß "/claim/cut.py") 842, .int 383 0, .int 2 0, .int 0 0, .int 0 0, .int 3 0, .ref 505, .bool true, .int 181 0, .ref 506, .none, .ref 507, .ref 508, .ref 509, .int 845 0, .int 383 0, .str (ß "/claim/cut.py") 846]) #[]
noncomputable def o511 (P : Params) : Obj := oB (.type "function") none (.func (fdOf (stAt 50) (ß "_law_wrong") 3 .none .none (.str (ß "law_on0248_01") 753) (.ref 510))) #[]
noncomputable def o512 (P : Params) : Obj := oB (.type "tuple") none (.seq #[]) #[]
noncomputable def o513 (P : Params) : Obj := oB .none none (.fields #[]) #[]
noncomputable def o514 (P : Params) : Obj := oB (.type "tuple") none (.seq #[.str (ß "text") 851, .str (ß "found") 852, .str (ß "fault") 853]) #[]
noncomputable def o515 (P : Params) : Obj := oB (.type "tuple") none (.seq #[]) #[]
noncomputable def o516 (P : Params) : Obj := oB .none none (.func (fdOf (stAt 51) (ß "_law_told") 0 .none .none .none .none)) #[]
noncomputable def o517 (P : Params) : Obj := oB (.type "code") none (.fields #[.str (ß "_law_told") 848, .str (ß "_law_told") 849, .str (ß "/claim/cut.py") 850, .int 400 0, .int 1 0, .int 0 0, .int 0 0, .int 3 0, .ref 512, .bool true, .int 181 0, .ref 513, .none, .ref 514, .ref 515, .ref 516, .int 854 0, .int 400 0, .str (ß "/claim/cut.py") 855]) #[]
noncomputable def o518 (P : Params) : Obj := oB (.type "function") none (.func (fdOf (stAt 51) (ß "_law_told") 3 .none .none (.str (ß "law_on0248_01") 753) (.ref 517))) #[]
noncomputable def o519 (P : Params) : Obj := oB (.type "tuple") none (.seq #[]) #[]
noncomputable def o520 (P : Params) : Obj := oB .none none (.fields #[]) #[]
noncomputable def o521 (P : Params) : Obj := oB (.type "tuple") none (.seq #[.str (ß "script") 860, .str (ß "one") 861, .str (ß "two") 862, .str (ß "source") 863, .str (ß "turn") 864, .str (ß "pen") 865, .str (ß "text") 866, .str (ß "number") 867, .str (ß "way") 868, .str (ß "wrong") 869, .str (ß "place") 870]) #[]
noncomputable def o522 (P : Params) : Obj := oB (.type "tuple") none (.seq #[]) #[]
noncomputable def o523 (P : Params) : Obj := oB .none none (.func (fdOf (stAt 52) (ß "law") 0 .none .none .none .none)) #[]
noncomputable def o524 (P : Params) : Obj := oB (.type "code") none (.fields #[.str (ß "law") 857, .str (ß "law") 858, .str (ß "/claim/cut.py") 859, .int 403 0, .int 1 0, .int 0 0, .int 0 0, .int 3 0, .ref 519, .bool true, .int 181 0, .ref 520, .none, .ref 521, .ref 522, .ref 523, .int 871 0, .int 403 0, .str (ß "/claim/cut.py") 872]) #[]
noncomputable def o525 (P : Params) : Obj := oB (.type "function") none (.func (fdOf (stAt 52) (ß "law") 3 .none .none (.str (ß "law_on0248_01") 753) (.ref 524))) #[]
noncomputable def o12xa (P : Params) : Obj := oB .none none (.fields #[]) #[]
noncomputable def o3x0 (P : Params) : Obj := mainAt P (dE (kh P (ß "__name__")) (.str (ß "__name__") 165) (.str (ß "outlinemill.errors") 187)) 9 10
noncomputable def o12x0 (P : Params) : Obj := oB .none none (.fields #[.int 2 0, .int 0 0, .ref 20]) #[]
noncomputable def o31x0 (P : Params) : Obj := oB (.type "type") none (Data.cls (ClassData.mk (ß "MillError") [.type "Exception"] [.ref 31, .type "Exception", .type "BaseException", .type "object"] 30 (ß "MillError") true [] [] false none false)) #[some (.ref 15), none, some (.str (ß "MillError") 189), some (.str (ß "MillError") 197), some (.builtin "Exception.__new__"), some (.bool true)]
noncomputable def o3x1 (P : Params) : Obj := mainAt P (dE (kh P (ß "__name__")) (.str (ß "__name__") 165) (.str (ß "outlinemill.errors") 187)) 10 11
noncomputable def o12x1 (P : Params) : Obj := oB .none none (.fields #[.int 2 0, .int 0 0, .ref 20, .int 6 0, .int 0 0, .ref 40]) #[]
noncomputable def o31x1 (P : Params) : Obj := oB (.type "type") none (Data.cls (ClassData.mk (ß "MillError") [.type "Exception"] [.ref 31, .type "Exception", .type "BaseException", .type "object"] 30 (ß "MillError") true [] [.ref 44] false none false)) #[some (.ref 15), none, some (.str (ß "MillError") 189), some (.str (ß "MillError") 197), some (.builtin "Exception.__new__"), some (.bool true)]
noncomputable def o3x2 (P : Params) : Obj := mainAt P (dE (kh P (ß "__name__")) (.str (ß "__name__") 165) (.str (ß "outlinemill.exact") 261)) 17 18
noncomputable def o12x2 (P : Params) : Obj := oB .none none (.fields #[.int 2 0, .int 0 0, .ref 20, .int 6 0, .int 0 0, .ref 40, .int 8 0, .int 0 0, .ref 52, .int 17 0, .int 0 0, .ref 72, .int 22 0, .int 0 0, .ref 80, .int 29 0, .int 0 0, .ref 87]) #[]
noncomputable def o3x3 (P : Params) : Obj := mainAt P (dE (kh P (ß "__name__")) (.str (ß "__name__") 165) (.str (ß "outlinemill.exact") 261)) 21 22
noncomputable def o12x3 (P : Params) : Obj := oB .none none (.fields #[.int 2 0, .int 0 0, .ref 20, .int 6 0, .int 0 0, .ref 40, .int 8 0, .int 0 0, .ref 52, .int 17 0, .int 0 0, .ref 72, .int 22 0, .int 0 0, .ref 80, .int 29 0, .int 0 0, .ref 87, .int 31 0, .int 0 0, .ref 94, .int 33 0, .int 0 0, .ref 101, .int 35 0, .int 0 0, .ref 108, .int 41 0, .int 0 0, .ref 115]) #[]
noncomputable def o3x4 (P : Params) : Obj := mainAt P (dE (kh P (ß "__name__")) (.str (ß "__name__") 165) (.str (ß "outlinemill.exact") 261)) 24 25
noncomputable def o12x4 (P : Params) : Obj := oB .none none (.fields #[.int 2 0, .int 0 0, .ref 20, .int 6 0, .int 0 0, .ref 40, .int 8 0, .int 0 0, .ref 52, .int 17 0, .int 0 0, .ref 72, .int 22 0, .int 0 0, .ref 80, .int 29 0, .int 0 0, .ref 87, .int 31 0, .int 0 0, .ref 94, .int 33 0, .int 0 0, .ref 101, .int 35 0, .int 0 0, .ref 108, .int 41 0, .int 0 0, .ref 115, .int 43 0, .int 0 0, .ref 122, .int 63 0, .int 0 0, .ref 164, .int 68 0, .int 0 0, .ref 171]) #[]
noncomputable def o3x5 (P : Params) : Obj := mainAt P (dE (kh P (ß "__name__")) (.str (ß "__name__") 165) (.str (ß "outlinemill.path_words") 413)) 28 29
noncomputable def o12x5 (P : Params) : Obj := oB .none none (.fields #[.int 2 0, .int 0 0, .ref 20, .int 6 0, .int 0 0, .ref 40, .int 8 0, .int 0 0, .ref 52, .int 17 0, .int 0 0, .ref 72, .int 22 0, .int 0 0, .ref 80, .int 29 0, .int 0 0, .ref 87, .int 31 0, .int 0 0, .ref 94, .int 33 0, .int 0 0, .ref 101, .int 35 0, .int 0 0, .ref 108, .int 41 0, .int 0 0, .ref 115, .int 43 0, .int 0 0, .ref 122, .int 63 0, .int 0 0, .ref 164, .int 68 0, .int 0 0, .ref 171, .int 75 0, .int 0 0, .ref 178]) #[]
noncomputable def o3x6 (P : Params) : Obj := mainAt P (dE (kh P (ß "__name__")) (.str (ß "__name__") 165) (.str (ß "outlinemill.path_words") 413)) 29 30
noncomputable def o12x6 (P : Params) : Obj := oB .none none (.fields #[.int 2 0, .int 0 0, .ref 20, .int 6 0, .int 0 0, .ref 40, .int 8 0, .int 0 0, .ref 52, .int 17 0, .int 0 0, .ref 72, .int 22 0, .int 0 0, .ref 80, .int 29 0, .int 0 0, .ref 87, .int 31 0, .int 0 0, .ref 94, .int 33 0, .int 0 0, .ref 101, .int 35 0, .int 0 0, .ref 108, .int 41 0, .int 0 0, .ref 115, .int 43 0, .int 0 0, .ref 122, .int 63 0, .int 0 0, .ref 164, .int 68 0, .int 0 0, .ref 171, .int 75 0, .int 0 0, .ref 178, .int 95 0, .int 0 0, .ref 185]) #[]
noncomputable def o3x7 (P : Params) : Obj := mainAt P (dE (kh P (ß "__name__")) (.str (ß "__name__") 165) (.str (ß "outlinemill.path_plain") 589)) 37 38
noncomputable def o12x7 (P : Params) : Obj := oB .none none (.fields #[.int 2 0, .int 0 0, .ref 20, .int 6 0, .int 0 0, .ref 40, .int 8 0, .int 0 0, .ref 52, .int 17 0, .int 0 0, .ref 72, .int 22 0, .int 0 0, .ref 80, .int 29 0, .int 0 0, .ref 87, .int 31 0, .int 0 0, .ref 94, .int 33 0, .int 0 0, .ref 101, .int 35 0, .int 0 0, .ref 108, .int 41 0, .int 0 0, .ref 115, .int 43 0, .int 0 0, .ref 122, .int 63 0, .int 0 0, .ref 164, .int 68 0, .int 0 0, .ref 171, .int 75 0, .int 0 0, .ref 178, .int 95 0, .int 0 0, .ref 185, .int 176 0, .int 0 0, .ref 283, .int 178 0, .int 0 0, .ref 290, .int 180 0, .int 0 0, .ref 297, .int 190 0, .int 0 0, .ref 304, .int 197 0, .int 0 0, .ref 311, .int 212 0, .int 0 0, .ref 318, .int 220 0, .int 0 0, .ref 325, .int 222 0, .int 0 0, .ref 332]) #[]
noncomputable def o3x8 (P : Params) : Obj := mainAt P (dE (kh P (ß "__name__")) (.str (ß "__name__") 165) (.str (ß "outlinemill.path_plain") 589)) 38 39
noncomputable def o12x8 (P : Params) : Obj := oB .none none (.fields #[.int 2 0, .int 0 0, .ref 20, .int 6 0, .int 0 0, .ref 40, .int 8 0, .int 0 0, .ref 52, .int 17 0, .int 0 0, .ref 72, .int 22 0, .int 0 0, .ref 80, .int 29 0, .int 0 0, .ref 87, .int 31 0, .int 0 0, .ref 94, .int 33 0, .int 0 0, .ref 101, .int 35 0, .int 0 0, .ref 108, .int 41 0, .int 0 0, .ref 115, .int 43 0, .int 0 0, .ref 122, .int 63 0, .int 0 0, .ref 164, .int 68 0, .int 0 0, .ref 171, .int 75 0, .int 0 0, .ref 178, .int 95 0, .int 0 0, .ref 185, .int 176 0, .int 0 0, .ref 283, .int 178 0, .int 0 0, .ref 290, .int 180 0, .int 0 0, .ref 297, .int 190 0, .int 0 0, .ref 304, .int 197 0, .int 0 0, .ref 311, .int 212 0, .int 0 0, .ref 318, .int 220 0, .int 0 0, .ref 325, .int 222 0, .int 0 0, .ref 332, .int 224 0, .int 0 0, .ref 339]) #[]
noncomputable def o3x9 (P : Params) : Obj := mainAt P (dE (kh P (ß "__name__")) (.str (ß "__name__") 165) (.str (ß "law_on0248_01") 753)) 50 51
noncomputable def o12x9 (P : Params) : Obj := oB .none none (.fields #[.int 2 0, .int 0 0, .ref 20, .int 6 0, .int 0 0, .ref 40, .int 8 0, .int 0 0, .ref 52, .int 17 0, .int 0 0, .ref 72, .int 22 0, .int 0 0, .ref 80, .int 29 0, .int 0 0, .ref 87, .int 31 0, .int 0 0, .ref 94, .int 33 0, .int 0 0, .ref 101, .int 35 0, .int 0 0, .ref 108, .int 41 0, .int 0 0, .ref 115, .int 43 0, .int 0 0, .ref 122, .int 63 0, .int 0 0, .ref 164, .int 68 0, .int 0 0, .ref 171, .int 75 0, .int 0 0, .ref 178, .int 95 0, .int 0 0, .ref 185, .int 176 0, .int 0 0, .ref 283, .int 178 0, .int 0 0, .ref 290, .int 180 0, .int 0 0, .ref 297, .int 190 0, .int 0 0, .ref 304, .int 197 0, .int 0 0, .ref 311, .int 212 0, .int 0 0, .ref 318, .int 220 0, .int 0 0, .ref 325, .int 222 0, .int 0 0, .ref 332, .int 224 0, .int 0 0, .ref 339, .int 280 0, .int 0 0, .ref 416, .int 286 0, .int 0 0, .ref 423, .int 306 0, .int 0 0, .ref 430, .int 314 0, .int 0 0, .ref 437, .int 318 0, .int 0 0, .ref 444, .int 325 0, .int 0 0, .ref 451, .int 332 0, .int 0 0, .ref 458, .int 334 0, .int 0 0, .ref 463, .int 337 0, .int 0 0, .ref 470, .int 339 0, .int 0 0, .ref 477, .int 341 0, .int 0 0, .ref 484, .int 346 0, .int 0 0, .ref 491]) #[]
noncomputable def lifeH : Life := Life.mk [] [] [] 0 [] [] false #[] [] 0 false false false 0 [2000, 10, 10] false 0 true [] [] 0 false
noncomputable def drawnH : Drawn := Drawn.mk 0 0 0 0
noncomputable def hA (P : Params) : Heap := ⟨#[boot_o_0 P, boot_o_1 P, boot_o_2 P, boot_o_3 P, boot_o_4 P, boot_o_5 P, boot_o_6 P, boot_o_7 P, boot_o_8 P, boot_o_9 P, boot_o_10 P, o11 P, o12xa P, o13 P, o14 P], lifeH⟩
noncomputable def ta (P : Params) : BT := (N (boot_o_0 P) (N (boot_o_1 P) (N (boot_o_3 P) (N (boot_o_7 P) Z Z) (N (o11 P) Z Z)) (N (boot_o_5 P) (N (boot_o_9 P) Z Z) (N (o13 P) Z Z))) (N (boot_o_2 P) (N (boot_o_4 P) (N (boot_o_8 P) Z Z) (N (o12xa P) Z Z)) (N (boot_o_6 P) (N (boot_o_10 P) Z Z) (N (o14 P) Z Z))))
noncomputable def t0 (P : Params) : BT := (N (boot_o_0 P) (N (boot_o_1 P) (N (o3x0 P) (N (boot_o_7 P) (N (o15 P) (N (o31x0 P) Z Z) Z) (N (o23 P) Z Z)) (N (o11 P) (N (o19 P) Z Z) (N (o27 P) Z Z))) (N (boot_o_5 P) (N (boot_o_9 P) (N (o17 P) (N (o33 P) Z Z) Z) (N (o25 P) Z Z)) (N (o13 P) (N (o21 P) Z Z) (N (o29 P) Z Z)))) (N (o2 P) (N (boot_o_4 P) (N (boot_o_8 P) (N (o16 P) (N (o32 P) Z Z) Z) (N (o24 P) Z Z)) (N (o12x0 P) (N (o20 P) Z Z) (N (o28 P) Z Z))) (N (boot_o_6 P) (N (boot_o_10 P) (N (o18 P) (N (o34 P) Z Z) Z) (N (o26 P) Z Z)) (N (o14 P) (N (o22 P) Z Z) (N (o30 P) Z Z)))))
noncomputable def t1 (P : Params) : BT := (N (boot_o_0 P) (N (boot_o_1 P) (N (o3x1 P) (N (boot_o_7 P) (N (o15 P) (N (o31x1 P) Z Z) Z) (N (o23 P) (N (o39 P) Z Z) Z)) (N (o11 P) (N (o19 P) (N (o35 P) Z Z) Z) (N (o27 P) (N (o43 P) Z Z) Z))) (N (boot_o_5 P) (N (boot_o_9 P) (N (o17 P) (N (o33 P) Z Z) Z) (N (o25 P) (N (o41 P) Z Z) Z)) (N (o13 P) (N (o21 P) (N (o37 P) Z Z) Z) (N (o29 P) (N (o45 P) Z Z) Z)))) (N (o2 P) (N (boot_o_4 P) (N (boot_o_8 P) (N (o16 P) (N (o32 P) Z Z) Z) (N (o24 P) (N (o40 P) Z Z) Z)) (N (o12x1 P) (N (o20 P) (N (o36 P) Z Z) Z) (N (o28 P) (N (o44 P) Z Z) Z))) (N (boot_o_6 P) (N (boot_o_10 P) (N (o18 P) (N (o34 P) Z Z) Z) (N (o26 P) (N (o42 P) Z Z) Z)) (N (o14 P) (N (o22 P) (N (o38 P) Z Z) Z) (N (o30 P) (N (o46 P) Z Z) Z)))))
noncomputable def t2 (P : Params) : BT := (N (boot_o_0 P) (N (boot_o_1 P) (N (o3x2 P) (N (boot_o_7 P) (N (o15 P) (N (o31 P) (N (o63 P) Z Z) Z) (N (o47 P) (N (o79 P) Z Z) Z)) (N (o23 P) (N (o39 P) (N (o71 P) Z Z) Z) (N (o55 P) (N (o87 P) Z Z) Z))) (N (o11 P) (N (o19 P) (N (o35 P) (N (o67 P) Z Z) Z) (N (o51 P) (N (o83 P) Z Z) Z)) (N (o27 P) (N (o43 P) (N (o75 P) Z Z) Z) (N (o59 P) Z Z)))) (N (boot_o_5 P) (N (boot_o_9 P) (N (o17 P) (N (o33 P) (N (o65 P) Z Z) Z) (N (o49 P) (N (o81 P) Z Z) Z)) (N (o25 P) (N (o41 P) (N (o73 P) Z Z) Z) (N (o57 P) Z Z))) (N (o13 P) (N (o21 P) (N (o37 P) (N (o69 P) Z Z) Z) (N (o53 P) (N (o85 P) Z Z) Z)) (N (o29 P) (N (o45 P) (N (o77 P) Z Z) Z) (N (o61 P) Z Z))))) (N (o2 P) (N (boot_o_4 P) (N (boot_o_8 P) (N (o16 P) (N (o32 P) (N (o64 P) Z Z) Z) (N (o48 P) (N (o80 P) Z Z) Z)) (N (o24 P) (N (o40 P) (N (o72 P) Z Z) Z) (N (o56 P) (N (o88 P) Z Z) Z))) (N (o12x2 P) (N (o20 P) (N (o36 P) (N (o68 P) Z Z) Z) (N (o52 P) (N (o84 P) Z Z) Z)) (N (o28 P) (N (o44 P) (N (o76 P) Z Z) Z) (N (o60 P) Z Z)))) (N (boot_o_6 P) (N (boot_o_10 P) (N (o18 P) (N (o34 P) (N (o66 P) Z Z) Z) (N (o50 P) (N (o82 P) Z Z) Z)) (N (o26 P) (N (o42 P) (N (o74 P) Z Z) Z) (N (o58 P) Z Z))) (N (o14 P) (N (o22 P) (N (o38 P) (N (o70 P) Z Z) Z) (N (o54 P) (N (o86 P) Z Z) Z)) (N (o30 P) (N (o46 P) (N (o78 P) Z Z) Z) (N (o62 P) Z Z))))))
noncomputable def t3 (P : Params) : BT := (N (boot_o_0 P) (N (boot_o_1 P) (N (o3x3 P) (N (boot_o_7 P) (N (o15 P) (N (o31 P) (N (o63 P) Z Z) (N (o95 P) Z Z)) (N (o47 P) (N (o79 P) Z Z) (N (o111 P) Z Z))) (N (o23 P) (N (o39 P) (N (o71 P) Z Z) (N (o103 P) Z Z)) (N (o55 P) (N (o87 P) Z Z) Z))) (N (o11 P) (N (o19 P) (N (o35 P) (N (o67 P) Z Z) (N (o99 P) Z Z)) (N (o51 P) (N (o83 P) Z Z) (N (o115 P) Z Z))) (N (o27 P) (N (o43 P) (N (o75 P) Z Z) (N (o107 P) Z Z)) (N (o59 P) (N (o91 P) Z Z) Z)))) (N (boot_o_5 P) (N (boot_o_9 P) (N (o17 P) (N (o33 P) (N (o65 P) Z Z) (N (o97 P) Z Z)) (N (o49 P) (N (o81 P) Z Z) (N (o113 P) Z Z))) (N (o25 P) (N (o41 P) (N (o73 P) Z Z) (N (o105 P) Z Z)) (N (o57 P) (N (o89 P) Z Z) Z))) (N (o13 P) (N (o21 P) (N (o37 P) (N (o69 P) Z Z) (N (o101 P) Z Z)) (N (o53 P) (N (o85 P) Z Z) Z)) (N (o29 P) (N (o45 P) (N (o77 P) Z Z) (N (o109 P) Z Z)) (N (o61 P) (N (o93 P) Z Z) Z))))) (N (o2 P) (N (boot_o_4 P) (N (boot_o_8 P) (N (o16 P) (N (o32 P) (N (o64 P) Z Z) (N (o96 P) Z Z)) (N (o48 P) (N (o80 P) Z Z) (N (o112 P) Z Z))) (N (o24 P) (N (o40 P) (N (o72 P) Z Z) (N (o104 P) Z Z)) (N (o56 P) (N (o88 P) Z Z) Z))) (N (o12x3 P) (N (o20 P) (N (o36 P) (N (o68 P) Z Z) (N (o100 P) Z Z)) (N (o52 P) (N (o84 P) Z Z) (N (o116 P) Z Z))) (N (o28 P) (N (o44 P) (N (o76 P) Z Z) (N (o108 P) Z Z)) (N (o60 P) (N (o92 P) Z Z) Z)))) (N (boot_o_6 P) (N (boot_o_10 P) (N (o18 P) (N (o34 P) (N (o66 P) Z Z) (N (o98 P) Z Z)) (N (o50 P) (N (o82 P) Z Z) (N (o114 P) Z Z))) (N (o26 P) (N (o42 P) (N (o74 P) Z Z) (N (o106 P) Z Z)) (N (o58 P) (N (o90 P) Z Z) Z))) (N (o14 P) (N (o22 P) (N (o38 P) (N (o70 P) Z Z) (N (o102 P) Z Z)) (N (o54 P) (N (o86 P) Z Z) Z)) (N (o30 P) (N (o46 P) (N (o78 P) Z Z) (N (o110 P) Z Z)) (N (o62 P) (N (o94 P) Z Z) Z))))))
noncomputable def t4 (P : Params) : BT := (N (boot_o_0 P) (N (boot_o_1 P) (N (o3x4 P) (N (boot_o_7 P) (N (o15 P) (N (o31 P) (N (o63 P) (N (o127 P) Z Z) Z) (N (o95 P) (N (o159 P) Z Z) Z)) (N (o47 P) (N (o79 P) (N (o143 P) Z Z) Z) (N (o111 P) Z Z))) (N (o23 P) (N (o39 P) (N (o71 P) (N (o135 P) Z Z) Z) (N (o103 P) (N (o167 P) Z Z) Z)) (N (o55 P) (N (o87 P) (N (o151 P) Z Z) Z) (N (o119 P) Z Z)))) (N (o11 P) (N (o19 P) (N (o35 P) (N (o67 P) (N (o131 P) Z Z) Z) (N (o99 P) (N (o163 P) Z Z) Z)) (N (o51 P) (N (o83 P) (N (o147 P) Z Z) Z) (N (o115 P) Z Z))) (N (o27 P) (N (o43 P) (N (o75 P) (N (o139 P) Z Z) Z) (N (o107 P) (N (o171 P) Z Z) Z)) (N (o59 P) (N (o91 P) (N (o155 P) Z Z) Z) (N (o123 P) Z Z))))) (N (boot_o_5 P) (N (boot_o_9 P) (N (o17 P) (N (o33 P) (N (o65 P) (N (o129 P) Z Z) Z) (N (o97 P) (N (o161 P) Z Z) Z)) (N (o49 P) (N (o81 P) (N (o145 P) Z Z) Z) (N (o113 P) Z Z))) (N (o25 P) (N (o41 P) (N (o73 P) (N (o137 P) Z Z) Z) (N (o105 P) (N (o169 P) Z Z) Z)) (N (o57 P) (N (o89 P) (N (o153 P) Z Z) Z) (N (o121 P) Z Z)))) (N (o13 P) (N (o21 P) (N (o37 P) (N (o69 P) (N (o133 P) Z Z) Z) (N (o101 P) (N (o165 P) Z Z) Z)) (N (o53 P) (N (o85 P) (N (o149 P) Z Z) Z) (N (o117 P) Z Z))) (N (o29 P) (N (o45 P) (N (o77 P) (N (o141 P) Z Z) Z) (N (o109 P) Z Z)) (N (o61 P) (N (o93 P) (N (o157 P) Z Z) Z) (N (o125 P) Z Z)))))) (N (o2 P) (N (boot_o_4 P) (N (boot_o_8 P) (N (o16 P) (N (o32 P) (N (o64 P) (N (o128 P) Z Z) Z) (N (o96 P) (N (o160 P) Z Z) Z)) (N (o48 P) (N (o80 P) (N (o144 P) Z Z) Z) (N (o112 P) Z Z))) (N (o24 P) (N (o40 P) (N (o72 P) (N (o136 P) Z Z) Z) (N (o104 P) (N (o168 P) Z Z) Z)) (N (o56 P) (N (o88 P) (N (o152 P) Z Z) Z) (N (o120 P) Z Z)))) (N (o12x4 P) (N (o20 P) (N (o36 P) (N (o68 P) (N (o132 P) Z Z) Z) (N (o100 P) (N (o164 P) Z Z) Z)) (N (o52 P) (N (o84 P) (N (o148 P) Z Z) Z) (N (o116 P) Z Z))) (N (o28 P) (N (o44 P) (N (o76 P) (N (o140 P) Z Z) Z) (N (o108 P) (N (o172 P) Z Z) Z)) (N (o60 P) (N (o92 P) (N (o156 P) Z Z) Z) (N (o124 P) Z Z))))) (N (boot_o_6 P) (N (boot_o_10 P) (N (o18 P) (N (o34 P) (N (o66 P) (N (o130 P) Z Z) Z) (N (o98 P) (N (o162 P) Z Z) Z)) (N (o50 P) (N (o82 P) (N (o146 P) Z Z) Z) (N (o114 P) Z Z))) (N (o26 P) (N (o42 P) (N (o74 P) (N (o138 P) Z Z) Z) (N (o106 P) (N (o170 P) Z Z) Z)) (N (o58 P) (N (o90 P) (N (o154 P) Z Z) Z) (N (o122 P) Z Z)))) (N (o14 P) (N (o22 P) (N (o38 P) (N (o70 P) (N (o134 P) Z Z) Z) (N (o102 P) (N (o166 P) Z Z) Z)) (N (o54 P) (N (o86 P) (N (o150 P) Z Z) Z) (N (o118 P) Z Z))) (N (o30 P) (N (o46 P) (N (o78 P) (N (o142 P) Z Z) Z) (N (o110 P) Z Z)) (N (o62 P) (N (o94 P) (N (o158 P) Z Z) Z) (N (o126 P) Z Z)))))))
noncomputable def t5 (P : Params) : BT := (N (boot_o_0 P) (N (boot_o_1 P) (N (o3x5 P) (N (boot_o_7 P) (N (o15 P) (N (o31 P) (N (o63 P) (N (o127 P) Z Z) Z) (N (o95 P) (N (o159 P) Z Z) Z)) (N (o47 P) (N (o79 P) (N (o143 P) Z Z) Z) (N (o111 P) (N (o175 P) Z Z) Z))) (N (o23 P) (N (o39 P) (N (o71 P) (N (o135 P) Z Z) Z) (N (o103 P) (N (o167 P) Z Z) Z)) (N (o55 P) (N (o87 P) (N (o151 P) Z Z) Z) (N (o119 P) Z Z)))) (N (o11 P) (N (o19 P) (N (o35 P) (N (o67 P) (N (o131 P) Z Z) Z) (N (o99 P) (N (o163 P) Z Z) Z)) (N (o51 P) (N (o83 P) (N (o147 P) Z Z) Z) (N (o115 P) (N (o179 P) Z Z) Z))) (N (o27 P) (N (o43 P) (N (o75 P) (N (o139 P) Z Z) Z) (N (o107 P) (N (o171 P) Z Z) Z)) (N (o59 P) (N (o91 P) (N (o155 P) Z Z) Z) (N (o123 P) Z Z))))) (N (boot_o_5 P) (N (boot_o_9 P) (N (o17 P) (N (o33 P) (N (o65 P) (N (o129 P) Z Z) Z) (N (o97 P) (N (o161 P) Z Z) Z)) (N (o49 P) (N (o81 P) (N (o145 P) Z Z) Z) (N (o113 P) (N (o177 P) Z Z) Z))) (N (o25 P) (N (o41 P) (N (o73 P) (N (o137 P) Z Z) Z) (N (o105 P) (N (o169 P) Z Z) Z)) (N (o57 P) (N (o89 P) (N (o153 P) Z Z) Z) (N (o121 P) Z Z)))) (N (o13 P) (N (o21 P) (N (o37 P) (N (o69 P) (N (o133 P) Z Z) Z) (N (o101 P) (N (o165 P) Z Z) Z)) (N (o53 P) (N (o85 P) (N (o149 P) Z Z) Z) (N (o117 P) Z Z))) (N (o29 P) (N (o45 P) (N (o77 P) (N (o141 P) Z Z) Z) (N (o109 P) (N (o173 P) Z Z) Z)) (N (o61 P) (N (o93 P) (N (o157 P) Z Z) Z) (N (o125 P) Z Z)))))) (N (o2 P) (N (boot_o_4 P) (N (boot_o_8 P) (N (o16 P) (N (o32 P) (N (o64 P) (N (o128 P) Z Z) Z) (N (o96 P) (N (o160 P) Z Z) Z)) (N (o48 P) (N (o80 P) (N (o144 P) Z Z) Z) (N (o112 P) (N (o176 P) Z Z) Z))) (N (o24 P) (N (o40 P) (N (o72 P) (N (o136 P) Z Z) Z) (N (o104 P) (N (o168 P) Z Z) Z)) (N (o56 P) (N (o88 P) (N (o152 P) Z Z) Z) (N (o120 P) Z Z)))) (N (o12x5 P) (N (o20 P) (N (o36 P) (N (o68 P) (N (o132 P) Z Z) Z) (N (o100 P) (N (o164 P) Z Z) Z)) (N (o52 P) (N (o84 P) (N (o148 P) Z Z) Z) (N (o116 P) Z Z))) (N (o28 P) (N (o44 P) (N (o76 P) (N (o140 P) Z Z) Z) (N (o108 P) (N (o172 P) Z Z) Z)) (N (o60 P) (N (o92 P) (N (o156 P) Z Z) Z) (N (o124 P) Z Z))))) (N (boot_o_6 P) (N (boot_o_10 P) (N (o18 P) (N (o34 P) (N (o66 P) (N (o130 P) Z Z) Z) (N (o98 P) (N (o162 P) Z Z) Z)) (N (o50 P) (N (o82 P) (N (o146 P) Z Z) Z) (N (o114 P) (N (o178 P) Z Z) Z))) (N (o26 P) (N (o42 P) (N (o74 P) (N (o138 P) Z Z) Z) (N (o106 P) (N (o170 P) Z Z) Z)) (N (o58 P) (N (o90 P) (N (o154 P) Z Z) Z) (N (o122 P) Z Z)))) (N (o14 P) (N (o22 P) (N (o38 P) (N (o70 P) (N (o134 P) Z Z) Z) (N (o102 P) (N (o166 P) Z Z) Z)) (N (o54 P) (N (o86 P) (N (o150 P) Z Z) Z) (N (o118 P) Z Z))) (N (o30 P) (N (o46 P) (N (o78 P) (N (o142 P) Z Z) Z) (N (o110 P) (N (o174 P) Z Z) Z)) (N (o62 P) (N (o94 P) (N (o158 P) Z Z) Z) (N (o126 P) Z Z)))))))
noncomputable def t6 (P : Params) : BT := (N (boot_o_0 P) (N (boot_o_1 P) (N (o3x6 P) (N (boot_o_7 P) (N (o15 P) (N (o31 P) (N (o63 P) (N (o127 P) (N (o255 P) Z Z) Z) (N (o191 P) Z Z)) (N (o95 P) (N (o159 P) Z Z) (N (o223 P) Z Z))) (N (o47 P) (N (o79 P) (N (o143 P) (N (o271 P) Z Z) Z) (N (o207 P) Z Z)) (N (o111 P) (N (o175 P) Z Z) (N (o239 P) Z Z)))) (N (o23 P) (N (o39 P) (N (o71 P) (N (o135 P) (N (o263 P) Z Z) Z) (N (o199 P) Z Z)) (N (o103 P) (N (o167 P) Z Z) (N (o231 P) Z Z))) (N (o55 P) (N (o87 P) (N (o151 P) Z Z) (N (o215 P) Z Z)) (N (o119 P) (N (o183 P) Z Z) (N (o247 P) Z Z))))) (N (o11 P) (N (o19 P) (N (o35 P) (N (o67 P) (N (o131 P) (N (o259 P) Z Z) Z) (N (o195 P) Z Z)) (N (o99 P) (N (o163 P) Z Z) (N (o227 P) Z Z))) (N (o51 P) (N (o83 P) (N (o147 P) (N (o275 P) Z Z) Z) (N (o211 P) Z Z)) (N (o115 P) (N (o179 P) Z Z) (N (o243 P) Z Z)))) (N (o27 P) (N (o43 P) (N (o75 P) (N (o139 P) (N (o267 P) Z Z) Z) (N (o203 P) Z Z)) (N (o107 P) (N (o171 P) Z Z) (N (o235 P) Z Z))) (N (o59 P) (N (o91 P) (N (o155 P) Z Z) (N (o219 P) Z Z)) (N (o123 P) (N (o187 P) Z Z) (N (o251 P) Z Z)))))) (N (boot_o_5 P) (N (boot_o_9 P) (N (o17 P) (N (o33 P) (N (o65 P) (N (o129 P) (N (o257 P) Z Z) Z) (N (o193 P) Z Z)) (N (o97 P) (N (o161 P) Z Z) (N (o225 P) Z Z))) (N (o49 P) (N (o81 P) (N (o145 P) (N (o273 P) Z Z) Z) (N (o209 P) Z Z)) (N (o113 P) (N (o177 P) Z Z) (N (o241 P) Z Z)))) (N (o25 P) (N (o41 P) (N (o73 P) (N (o137 P) (N (o265 P) Z Z) Z) (N (o201 P) Z Z)) (N (o105 P) (N (o169 P) Z Z) (N (o233 P) Z Z))) (N (o57 P) (N (o89 P) (N (o153 P) Z Z) (N (o217 P) Z Z)) (N (o121 P) (N (o185 P) Z Z) (N (o249 P) Z Z))))) (N (o13 P) (N (o21 P) (N (o37 P) (N (o69 P) (N (o133 P) (N (o261 P) Z Z) Z) (N (o197 P) Z Z)) (N (o101 P) (N (o165 P) Z Z) (N (o229 P) Z Z))) (N (o53 P) (N (o85 P) (N (o149 P) (N (o277 P) Z Z) Z) (N (o213 P) Z Z)) (N (o117 P) (N (o181 P) Z Z) (N (o245 P) Z Z)))) (N (o29 P) (N (o45 P) (N (o77 P) (N (o141 P) (N (o269 P) Z Z) Z) (N (o205 P) Z Z)) (N (o109 P) (N (o173 P) Z Z) (N (o237 P) Z Z))) (N (o61 P) (N (o93 P) (N (o157 P) Z Z) (N (o221 P) Z Z)) (N (o125 P) (N (o189 P) Z Z) (N (o253 P) Z Z))))))) (N (o2 P) (N (boot_o_4 P) (N (boot_o_8 P) (N (o16 P) (N (o32 P) (N (o64 P) (N (o128 P) (N (o256 P) Z Z) Z) (N (o192 P) Z Z)) (N (o96 P) (N (o160 P) Z Z) (N (o224 P) Z Z))) (N (o48 P) (N (o80 P) (N (o144 P) (N (o272 P) Z Z) Z) (N (o208 P) Z Z)) (N (o112 P) (N (o176 P) Z Z) (N (o240 P) Z Z)))) (N (o24 P) (N (o40 P) (N (o72 P) (N (o136 P) (N (o264 P) Z Z) Z) (N (o200 P) Z Z)) (N (o104 P) (N (o168 P) Z Z) (N (o232 P) Z Z))) (N (o56 P) (N (o88 P) (N (o152 P) Z Z) (N (o216 P) Z Z)) (N (o120 P) (N (o184 P) Z Z) (N (o248 P) Z Z))))) (N (o12x6 P) (N (o20 P) (N (o36 P) (N (o68 P) (N (o132 P) (N (o260 P) Z Z) Z) (N (o196 P) Z Z)) (N (o100 P) (N (o164 P) Z Z) (N (o228 P) Z Z))) (N (o52 P) (N (o84 P) (N (o148 P) (N (o276 P) Z Z) Z) (N (o212 P) Z Z)) (N (o116 P) (N (o180 P) Z Z) (N (o244 P) Z Z)))) (N (o28 P) (N (o44 P) (N (o76 P) (N (o140 P) (N (o268 P) Z Z) Z) (N (o204 P) Z Z)) (N (o108 P) (N (o172 P) Z Z) (N (o236 P) Z Z))) (N (o60 P) (N (o92 P) (N (o156 P) Z Z) (N (o220 P) Z Z)) (N (o124 P) (N (o188 P) Z Z) (N (o252 P) Z Z)))))) (N (boot_o_6 P) (N (boot_o_10 P) (N (o18 P) (N (o34 P) (N (o66 P) (N (o130 P) (N (o258 P) Z Z) Z) (N (o194 P) Z Z)) (N (o98 P) (N (o162 P) Z Z) (N (o226 P) Z Z))) (N (o50 P) (N (o82 P) (N (o146 P) (N (o274 P) Z Z) Z) (N (o210 P) Z Z)) (N (o114 P) (N (o178 P) Z Z) (N (o242 P) Z Z)))) (N (o26 P) (N (o42 P) (N (o74 P) (N (o138 P) (N (o266 P) Z Z) Z) (N (o202 P) Z Z)) (N (o106 P) (N (o170 P) Z Z) (N (o234 P) Z Z))) (N (o58 P) (N (o90 P) (N (o154 P) Z Z) (N (o218 P) Z Z)) (N (o122 P) (N (o186 P) Z Z) (N (o250 P) Z Z))))) (N (o14 P) (N (o22 P) (N (o38 P) (N (o70 P) (N (o134 P) (N (o262 P) Z Z) Z) (N (o198 P) Z Z)) (N (o102 P) (N (o166 P) Z Z) (N (o230 P) Z Z))) (N (o54 P) (N (o86 P) (N (o150 P) Z Z) (N (o214 P) Z Z)) (N (o118 P) (N (o182 P) Z Z) (N (o246 P) Z Z)))) (N (o30 P) (N (o46 P) (N (o78 P) (N (o142 P) (N (o270 P) Z Z) Z) (N (o206 P) Z Z)) (N (o110 P) (N (o174 P) Z Z) (N (o238 P) Z Z))) (N (o62 P) (N (o94 P) (N (o158 P) Z Z) (N (o222 P) Z Z)) (N (o126 P) (N (o190 P) Z Z) (N (o254 P) Z Z))))))))
noncomputable def t7 (P : Params) : BT := (N (boot_o_0 P) (N (boot_o_1 P) (N (o3x7 P) (N (boot_o_7 P) (N (o15 P) (N (o31 P) (N (o63 P) (N (o127 P) (N (o255 P) Z Z) Z) (N (o191 P) (N (o319 P) Z Z) Z)) (N (o95 P) (N (o159 P) (N (o287 P) Z Z) Z) (N (o223 P) Z Z))) (N (o47 P) (N (o79 P) (N (o143 P) (N (o271 P) Z Z) Z) (N (o207 P) Z Z)) (N (o111 P) (N (o175 P) (N (o303 P) Z Z) Z) (N (o239 P) Z Z)))) (N (o23 P) (N (o39 P) (N (o71 P) (N (o135 P) (N (o263 P) Z Z) Z) (N (o199 P) (N (o327 P) Z Z) Z)) (N (o103 P) (N (o167 P) (N (o295 P) Z Z) Z) (N (o231 P) Z Z))) (N (o55 P) (N (o87 P) (N (o151 P) (N (o279 P) Z Z) Z) (N (o215 P) Z Z)) (N (o119 P) (N (o183 P) (N (o311 P) Z Z) Z) (N (o247 P) Z Z))))) (N (o11 P) (N (o19 P) (N (o35 P) (N (o67 P) (N (o131 P) (N (o259 P) Z Z) Z) (N (o195 P) (N (o323 P) Z Z) Z)) (N (o99 P) (N (o163 P) (N (o291 P) Z Z) Z) (N (o227 P) Z Z))) (N (o51 P) (N (o83 P) (N (o147 P) (N (o275 P) Z Z) Z) (N (o211 P) Z Z)) (N (o115 P) (N (o179 P) (N (o307 P) Z Z) Z) (N (o243 P) Z Z)))) (N (o27 P) (N (o43 P) (N (o75 P) (N (o139 P) (N (o267 P) Z Z) Z) (N (o203 P) (N (o331 P) Z Z) Z)) (N (o107 P) (N (o171 P) (N (o299 P) Z Z) Z) (N (o235 P) Z Z))) (N (o59 P) (N (o91 P) (N (o155 P) (N (o283 P) Z Z) Z) (N (o219 P) Z Z)) (N (o123 P) (N (o187 P) (N (o315 P) Z Z) Z) (N (o251 P) Z Z)))))) (N (boot_o_5 P) (N (boot_o_9 P) (N (o17 P) (N (o33 P) (N (o65 P) (N (o129 P) (N (o257 P) Z Z) Z) (N (o193 P) (N (o321 P) Z Z) Z)) (N (o97 P) (N (o161 P) (N (o289 P) Z Z) Z) (N (o225 P) Z Z))) (N (o49 P) (N (o81 P) (N (o145 P) (N (o273 P) Z Z) Z) (N (o209 P) Z Z)) (N (o113 P) (N (o177 P) (N (o305 P) Z Z) Z) (N (o241 P) Z Z)))) (N (o25 P) (N (o41 P) (N (o73 P) (N (o137 P) (N (o265 P) Z Z) Z) (N (o201 P) (N (o329 P) Z Z) Z)) (N (o105 P) (N (o169 P) (N (o297 P) Z Z) Z) (N (o233 P) Z Z))) (N (o57 P) (N (o89 P) (N (o153 P) (N (o281 P) Z Z) Z) (N (o217 P) Z Z)) (N (o121 P) (N (o185 P) (N (o313 P) Z Z) Z) (N (o249 P) Z Z))))) (N (o13 P) (N (o21 P) (N (o37 P) (N (o69 P) (N (o133 P) (N (o261 P) Z Z) Z) (N (o197 P) (N (o325 P) Z Z) Z)) (N (o101 P) (N (o165 P) (N (o293 P) Z Z) Z) (N (o229 P) Z Z))) (N (o53 P) (N (o85 P) (N (o149 P) (N (o277 P) Z Z) Z) (N (o213 P) Z Z)) (N (o117 P) (N (o181 P) (N (o309 P) Z Z) Z) (N (o245 P) Z Z)))) (N (o29 P) (N (o45 P) (N (o77 P) (N (o141 P) (N (o269 P) Z Z) Z) (N (o205 P) (N (o333 P) Z Z) Z)) (N (o109 P) (N (o173 P) (N (o301 P) Z Z) Z) (N (o237 P) Z Z))) (N (o61 P) (N (o93 P) (N (o157 P) (N (o285 P) Z Z) Z) (N (o221 P) Z Z)) (N (o125 P) (N (o189 P) (N (o317 P) Z Z) Z) (N (o253 P) Z Z))))))) (N (o2 P) (N (boot_o_4 P) (N (boot_o_8 P) (N (o16 P) (N (o32 P) (N (o64 P) (N (o128 P) (N (o256 P) Z Z) Z) (N (o192 P) (N (o320 P) Z Z) Z)) (N (o96 P) (N (o160 P) (N (o288 P) Z Z) Z) (N (o224 P) Z Z))) (N (o48 P) (N (o80 P) (N (o144 P) (N (o272 P) Z Z) Z) (N (o208 P) Z Z)) (N (o112 P) (N (o176 P) (N (o304 P) Z Z) Z) (N (o240 P) Z Z)))) (N (o24 P) (N (o40 P) (N (o72 P) (N (o136 P) (N (o264 P) Z Z) Z) (N (o200 P) (N (o328 P) Z Z) Z)) (N (o104 P) (N (o168 P) (N (o296 P) Z Z) Z) (N (o232 P) Z Z))) (N (o56 P) (N (o88 P) (N (o152 P) (N (o280 P) Z Z) Z) (N (o216 P) Z Z)) (N (o120 P) (N (o184 P) (N (o312 P) Z Z) Z) (N (o248 P) Z Z))))) (N (o12x7 P) (N (o20 P) (N (o36 P) (N (o68 P) (N (o132 P) (N (o260 P) Z Z) Z) (N (o196 P) (N (o324 P) Z Z) Z)) (N (o100 P) (N (o164 P) (N (o292 P) Z Z) Z) (N (o228 P) Z Z))) (N (o52 P) (N (o84 P) (N (o148 P) (N (o276 P) Z Z) Z) (N (o212 P) Z Z)) (N (o116 P) (N (o180 P) (N (o308 P) Z Z) Z) (N (o244 P) Z Z)))) (N (o28 P) (N (o44 P) (N (o76 P) (N (o140 P) (N (o268 P) Z Z) Z) (N (o204 P) (N (o332 P) Z Z) Z)) (N (o108 P) (N (o172 P) (N (o300 P) Z Z) Z) (N (o236 P) Z Z))) (N (o60 P) (N (o92 P) (N (o156 P) (N (o284 P) Z Z) Z) (N (o220 P) Z Z)) (N (o124 P) (N (o188 P) (N (o316 P) Z Z) Z) (N (o252 P) Z Z)))))) (N (boot_o_6 P) (N (boot_o_10 P) (N (o18 P) (N (o34 P) (N (o66 P) (N (o130 P) (N (o258 P) Z Z) Z) (N (o194 P) (N (o322 P) Z Z) Z)) (N (o98 P) (N (o162 P) (N (o290 P) Z Z) Z) (N (o226 P) Z Z))) (N (o50 P) (N (o82 P) (N (o146 P) (N (o274 P) Z Z) Z) (N (o210 P) Z Z)) (N (o114 P) (N (o178 P) (N (o306 P) Z Z) Z) (N (o242 P) Z Z)))) (N (o26 P) (N (o42 P) (N (o74 P) (N (o138 P) (N (o266 P) Z Z) Z) (N (o202 P) (N (o330 P) Z Z) Z)) (N (o106 P) (N (o170 P) (N (o298 P) Z Z) Z) (N (o234 P) Z Z))) (N (o58 P) (N (o90 P) (N (o154 P) (N (o282 P) Z Z) Z) (N (o218 P) Z Z)) (N (o122 P) (N (o186 P) (N (o314 P) Z Z) Z) (N (o250 P) Z Z))))) (N (o14 P) (N (o22 P) (N (o38 P) (N (o70 P) (N (o134 P) (N (o262 P) Z Z) Z) (N (o198 P) (N (o326 P) Z Z) Z)) (N (o102 P) (N (o166 P) (N (o294 P) Z Z) Z) (N (o230 P) Z Z))) (N (o54 P) (N (o86 P) (N (o150 P) (N (o278 P) Z Z) Z) (N (o214 P) Z Z)) (N (o118 P) (N (o182 P) (N (o310 P) Z Z) Z) (N (o246 P) Z Z)))) (N (o30 P) (N (o46 P) (N (o78 P) (N (o142 P) (N (o270 P) Z Z) Z) (N (o206 P) Z Z)) (N (o110 P) (N (o174 P) (N (o302 P) Z Z) Z) (N (o238 P) Z Z))) (N (o62 P) (N (o94 P) (N (o158 P) (N (o286 P) Z Z) Z) (N (o222 P) Z Z)) (N (o126 P) (N (o190 P) (N (o318 P) Z Z) Z) (N (o254 P) Z Z))))))))
noncomputable def t8 (P : Params) : BT := (N (boot_o_0 P) (N (boot_o_1 P) (N (o3x8 P) (N (boot_o_7 P) (N (o15 P) (N (o31 P) (N (o63 P) (N (o127 P) (N (o255 P) Z Z) (N (o383 P) Z Z)) (N (o191 P) (N (o319 P) Z Z) Z)) (N (o95 P) (N (o159 P) (N (o287 P) Z Z) Z) (N (o223 P) (N (o351 P) Z Z) Z))) (N (o47 P) (N (o79 P) (N (o143 P) (N (o271 P) Z Z) (N (o399 P) Z Z)) (N (o207 P) (N (o335 P) Z Z) Z)) (N (o111 P) (N (o175 P) (N (o303 P) Z Z) Z) (N (o239 P) (N (o367 P) Z Z) Z)))) (N (o23 P) (N (o39 P) (N (o71 P) (N (o135 P) (N (o263 P) Z Z) (N (o391 P) Z Z)) (N (o199 P) (N (o327 P) Z Z) Z)) (N (o103 P) (N (o167 P) (N (o295 P) Z Z) Z) (N (o231 P) (N (o359 P) Z Z) Z))) (N (o55 P) (N (o87 P) (N (o151 P) (N (o279 P) Z Z) (N (o407 P) Z Z)) (N (o215 P) (N (o343 P) Z Z) Z)) (N (o119 P) (N (o183 P) (N (o311 P) Z Z) Z) (N (o247 P) (N (o375 P) Z Z) Z))))) (N (o11 P) (N (o19 P) (N (o35 P) (N (o67 P) (N (o131 P) (N (o259 P) Z Z) (N (o387 P) Z Z)) (N (o195 P) (N (o323 P) Z Z) Z)) (N (o99 P) (N (o163 P) (N (o291 P) Z Z) Z) (N (o227 P) (N (o355 P) Z Z) Z))) (N (o51 P) (N (o83 P) (N (o147 P) (N (o275 P) Z Z) (N (o403 P) Z Z)) (N (o211 P) (N (o339 P) Z Z) Z)) (N (o115 P) (N (o179 P) (N (o307 P) Z Z) Z) (N (o243 P) (N (o371 P) Z Z) Z)))) (N (o27 P) (N (o43 P) (N (o75 P) (N (o139 P) (N (o267 P) Z Z) (N (o395 P) Z Z)) (N (o203 P) (N (o331 P) Z Z) Z)) (N (o107 P) (N (o171 P) (N (o299 P) Z Z) Z) (N (o235 P) (N (o363 P) Z Z) Z))) (N (o59 P) (N (o91 P) (N (o155 P) (N (o283 P) Z Z) Z) (N (o219 P) (N (o347 P) Z Z) Z)) (N (o123 P) (N (o187 P) (N (o315 P) Z Z) Z) (N (o251 P) (N (o379 P) Z Z) Z)))))) (N (boot_o_5 P) (N (boot_o_9 P) (N (o17 P) (N (o33 P) (N (o65 P) (N (o129 P) (N (o257 P) Z Z) (N (o385 P) Z Z)) (N (o193 P) (N (o321 P) Z Z) Z)) (N (o97 P) (N (o161 P) (N (o289 P) Z Z) Z) (N (o225 P) (N (o353 P) Z Z) Z))) (N (o49 P) (N (o81 P) (N (o145 P) (N (o273 P) Z Z) (N (o401 P) Z Z)) (N (o209 P) (N (o337 P) Z Z) Z)) (N (o113 P) (N (o177 P) (N (o305 P) Z Z) Z) (N (o241 P) (N (o369 P) Z Z) Z)))) (N (o25 P) (N (o41 P) (N (o73 P) (N (o137 P) (N (o265 P) Z Z) (N (o393 P) Z Z)) (N (o201 P) (N (o329 P) Z Z) Z)) (N (o105 P) (N (o169 P) (N (o297 P) Z Z) Z) (N (o233 P) (N (o361 P) Z Z) Z))) (N (o57 P) (N (o89 P) (N (o153 P) (N (o281 P) Z Z) (N (o409 P) Z Z)) (N (o217 P) (N (o345 P) Z Z) Z)) (N (o121 P) (N (o185 P) (N (o313 P) Z Z) Z) (N (o249 P) (N (o377 P) Z Z) Z))))) (N (o13 P) (N (o21 P) (N (o37 P) (N (o69 P) (N (o133 P) (N (o261 P) Z Z) (N (o389 P) Z Z)) (N (o197 P) (N (o325 P) Z Z) Z)) (N (o101 P) (N (o165 P) (N (o293 P) Z Z) Z) (N (o229 P) (N (o357 P) Z Z) Z))) (N (o53 P) (N (o85 P) (N (o149 P) (N (o277 P) Z Z) (N (o405 P) Z Z)) (N (o213 P) (N (o341 P) Z Z) Z)) (N (o117 P) (N (o181 P) (N (o309 P) Z Z) Z) (N (o245 P) (N (o373 P) Z Z) Z)))) (N (o29 P) (N (o45 P) (N (o77 P) (N (o141 P) (N (o269 P) Z Z) (N (o397 P) Z Z)) (N (o205 P) (N (o333 P) Z Z) Z)) (N (o109 P) (N (o173 P) (N (o301 P) Z Z) Z) (N (o237 P) (N (o365 P) Z Z) Z))) (N (o61 P) (N (o93 P) (N (o157 P) (N (o285 P) Z Z) Z) (N (o221 P) (N (o349 P) Z Z) Z)) (N (o125 P) (N (o189 P) (N (o317 P) Z Z) Z) (N (o253 P) (N (o381 P) Z Z) Z))))))) (N (o2 P) (N (boot_o_4 P) (N (boot_o_8 P) (N (o16 P) (N (o32 P) (N (o64 P) (N (o128 P) (N (o256 P) Z Z) (N (o384 P) Z Z)) (N (o192 P) (N (o320 P) Z Z) Z)) (N (o96 P) (N (o160 P) (N (o288 P) Z Z) Z) (N (o224 P) (N (o352 P) Z Z) Z))) (N (o48 P) (N (o80 P) (N (o144 P) (N (o272 P) Z Z) (N (o400 P) Z Z)) (N (o208 P) (N (o336 P) Z Z) Z)) (N (o112 P) (N (o176 P) (N (o304 P) Z Z) Z) (N (o240 P) (N (o368 P) Z Z) Z)))) (N (o24 P) (N (o40 P) (N (o72 P) (N (o136 P) (N (o264 P) Z Z) (N (o392 P) Z Z)) (N (o200 P) (N (o328 P) Z Z) Z)) (N (o104 P) (N (o168 P) (N (o296 P) Z Z) Z) (N (o232 P) (N (o360 P) Z Z) Z))) (N (o56 P) (N (o88 P) (N (o152 P) (N (o280 P) Z Z) (N (o408 P) Z Z)) (N (o216 P) (N (o344 P) Z Z) Z)) (N (o120 P) (N (o184 P) (N (o312 P) Z Z) Z) (N (o248 P) (N (o376 P) Z Z) Z))))) (N (o12x8 P) (N (o20 P) (N (o36 P) (N (o68 P) (N (o132 P) (N (o260 P) Z Z) (N (o388 P) Z Z)) (N (o196 P) (N (o324 P) Z Z) Z)) (N (o100 P) (N (o164 P) (N (o292 P) Z Z) Z) (N (o228 P) (N (o356 P) Z Z) Z))) (N (o52 P) (N (o84 P) (N (o148 P) (N (o276 P) Z Z) (N (o404 P) Z Z)) (N (o212 P) (N (o340 P) Z Z) Z)) (N (o116 P) (N (o180 P) (N (o308 P) Z Z) Z) (N (o244 P) (N (o372 P) Z Z) Z)))) (N (o28 P) (N (o44 P) (N (o76 P) (N (o140 P) (N (o268 P) Z Z) (N (o396 P) Z Z)) (N (o204 P) (N (o332 P) Z Z) Z)) (N (o108 P) (N (o172 P) (N (o300 P) Z Z) Z) (N (o236 P) (N (o364 P) Z Z) Z))) (N (o60 P) (N (o92 P) (N (o156 P) (N (o284 P) Z Z) Z) (N (o220 P) (N (o348 P) Z Z) Z)) (N (o124 P) (N (o188 P) (N (o316 P) Z Z) Z) (N (o252 P) (N (o380 P) Z Z) Z)))))) (N (boot_o_6 P) (N (boot_o_10 P) (N (o18 P) (N (o34 P) (N (o66 P) (N (o130 P) (N (o258 P) Z Z) (N (o386 P) Z Z)) (N (o194 P) (N (o322 P) Z Z) Z)) (N (o98 P) (N (o162 P) (N (o290 P) Z Z) Z) (N (o226 P) (N (o354 P) Z Z) Z))) (N (o50 P) (N (o82 P) (N (o146 P) (N (o274 P) Z Z) (N (o402 P) Z Z)) (N (o210 P) (N (o338 P) Z Z) Z)) (N (o114 P) (N (o178 P) (N (o306 P) Z Z) Z) (N (o242 P) (N (o370 P) Z Z) Z)))) (N (o26 P) (N (o42 P) (N (o74 P) (N (o138 P) (N (o266 P) Z Z) (N (o394 P) Z Z)) (N (o202 P) (N (o330 P) Z Z) Z)) (N (o106 P) (N (o170 P) (N (o298 P) Z Z) Z) (N (o234 P) (N (o362 P) Z Z) Z))) (N (o58 P) (N (o90 P) (N (o154 P) (N (o282 P) Z Z) (N (o410 P) Z Z)) (N (o218 P) (N (o346 P) Z Z) Z)) (N (o122 P) (N (o186 P) (N (o314 P) Z Z) Z) (N (o250 P) (N (o378 P) Z Z) Z))))) (N (o14 P) (N (o22 P) (N (o38 P) (N (o70 P) (N (o134 P) (N (o262 P) Z Z) (N (o390 P) Z Z)) (N (o198 P) (N (o326 P) Z Z) Z)) (N (o102 P) (N (o166 P) (N (o294 P) Z Z) Z) (N (o230 P) (N (o358 P) Z Z) Z))) (N (o54 P) (N (o86 P) (N (o150 P) (N (o278 P) Z Z) (N (o406 P) Z Z)) (N (o214 P) (N (o342 P) Z Z) Z)) (N (o118 P) (N (o182 P) (N (o310 P) Z Z) Z) (N (o246 P) (N (o374 P) Z Z) Z)))) (N (o30 P) (N (o46 P) (N (o78 P) (N (o142 P) (N (o270 P) Z Z) (N (o398 P) Z Z)) (N (o206 P) (N (o334 P) Z Z) Z)) (N (o110 P) (N (o174 P) (N (o302 P) Z Z) Z) (N (o238 P) (N (o366 P) Z Z) Z))) (N (o62 P) (N (o94 P) (N (o158 P) (N (o286 P) Z Z) Z) (N (o222 P) (N (o350 P) Z Z) Z)) (N (o126 P) (N (o190 P) (N (o318 P) Z Z) Z) (N (o254 P) (N (o382 P) Z Z) Z))))))))
noncomputable def t9 (P : Params) : BT := (N (boot_o_0 P) (N (boot_o_1 P) (N (o3x9 P) (N (boot_o_7 P) (N (o15 P) (N (o31 P) (N (o63 P) (N (o127 P) (N (o255 P) Z Z) (N (o383 P) Z Z)) (N (o191 P) (N (o319 P) Z Z) (N (o447 P) Z Z))) (N (o95 P) (N (o159 P) (N (o287 P) Z Z) (N (o415 P) Z Z)) (N (o223 P) (N (o351 P) Z Z) (N (o479 P) Z Z)))) (N (o47 P) (N (o79 P) (N (o143 P) (N (o271 P) Z Z) (N (o399 P) Z Z)) (N (o207 P) (N (o335 P) Z Z) (N (o463 P) Z Z))) (N (o111 P) (N (o175 P) (N (o303 P) Z Z) (N (o431 P) Z Z)) (N (o239 P) (N (o367 P) Z Z) Z)))) (N (o23 P) (N (o39 P) (N (o71 P) (N (o135 P) (N (o263 P) Z Z) (N (o391 P) Z Z)) (N (o199 P) (N (o327 P) Z Z) (N (o455 P) Z Z))) (N (o103 P) (N (o167 P) (N (o295 P) Z Z) (N (o423 P) Z Z)) (N (o231 P) (N (o359 P) Z Z) (N (o487 P) Z Z)))) (N (o55 P) (N (o87 P) (N (o151 P) (N (o279 P) Z Z) (N (o407 P) Z Z)) (N (o215 P) (N (o343 P) Z Z) (N (o471 P) Z Z))) (N (o119 P) (N (o183 P) (N (o311 P) Z Z) (N (o439 P) Z Z)) (N (o247 P) (N (o375 P) Z Z) Z))))) (N (o11 P) (N (o19 P) (N (o35 P) (N (o67 P) (N (o131 P) (N (o259 P) Z Z) (N (o387 P) Z Z)) (N (o195 P) (N (o323 P) Z Z) (N (o451 P) Z Z))) (N (o99 P) (N (o163 P) (N (o291 P) Z Z) (N (o419 P) Z Z)) (N (o227 P) (N (o355 P) Z Z) (N (o483 P) Z Z)))) (N (o51 P) (N (o83 P) (N (o147 P) (N (o275 P) Z Z) (N (o403 P) Z Z)) (N (o211 P) (N (o339 P) Z Z) (N (o467 P) Z Z))) (N (o115 P) (N (o179 P) (N (o307 P) Z Z) (N (o435 P) Z Z)) (N (o243 P) (N (o371 P) Z Z) Z)))) (N (o27 P) (N (o43 P) (N (o75 P) (N (o139 P) (N (o267 P) Z Z) (N (o395 P) Z Z)) (N (o203 P) (N (o331 P) Z Z) (N (o459 P) Z Z))) (N (o107 P) (N (o171 P) (N (o299 P) Z Z) (N (o427 P) Z Z)) (N (o235 P) (N (o363 P) Z Z) (N (o491 P) Z Z)))) (N (o59 P) (N (o91 P) (N (o155 P) (N (o283 P) Z Z) (N (o411 P) Z Z)) (N (o219 P) (N (o347 P) Z Z) (N (o475 P) Z Z))) (N (o123 P) (N (o187 P) (N (o315 P) Z Z) (N (o443 P) Z Z)) (N (o251 P) (N (o379 P) Z Z) Z)))))) (N (boot_o_5 P) (N (boot_o_9 P) (N (o17 P) (N (o33 P) (N (o65 P) (N (o129 P) (N (o257 P) Z Z) (N (o385 P) Z Z)) (N (o193 P) (N (o321 P) Z Z) (N (o449 P) Z Z))) (N (o97 P) (N (o161 P) (N (o289 P) Z Z) (N (o417 P) Z Z)) (N (o225 P) (N (o353 P) Z Z) (N (o481 P) Z Z)))) (N (o49 P) (N (o81 P) (N (o145 P) (N (o273 P) Z Z) (N (o401 P) Z Z)) (N (o209 P) (N (o337 P) Z Z) (N (o465 P) Z Z))) (N (o113 P) (N (o177 P) (N (o305 P) Z Z) (N (o433 P) Z Z)) (N (o241 P) (N (o369 P) Z Z) Z)))) (N (o25 P) (N (o41 P) (N (o73 P) (N (o137 P) (N (o265 P) Z Z) (N (o393 P) Z Z)) (N (o201 P) (N (o329 P) Z Z) (N (o457 P) Z Z))) (N (o105 P) (N (o169 P) (N (o297 P) Z Z) (N (o425 P) Z Z)) (N (o233 P) (N (o361 P) Z Z) (N (o489 P) Z Z)))) (N (o57 P) (N (o89 P) (N (o153 P) (N (o281 P) Z Z) (N (o409 P) Z Z)) (N (o217 P) (N (o345 P) Z Z) (N (o473 P) Z Z))) (N (o121 P) (N (o185 P) (N (o313 P) Z Z) (N (o441 P) Z Z)) (N (o249 P) (N (o377 P) Z Z) Z))))) (N (o13 P) (N (o21 P) (N (o37 P) (N (o69 P) (N (o133 P) (N (o261 P) Z Z) (N (o389 P) Z Z)) (N (o197 P) (N (o325 P) Z Z) (N (o453 P) Z Z))) (N (o101 P) (N (o165 P) (N (o293 P) Z Z) (N (o421 P) Z Z)) (N (o229 P) (N (o357 P) Z Z) (N (o485 P) Z Z)))) (N (o53 P) (N (o85 P) (N (o149 P) (N (o277 P) Z Z) (N (o405 P) Z Z)) (N (o213 P) (N (o341 P) Z Z) (N (o469 P) Z Z))) (N (o117 P) (N (o181 P) (N (o309 P) Z Z) (N (o437 P) Z Z)) (N (o245 P) (N (o373 P) Z Z) Z)))) (N (o29 P) (N (o45 P) (N (o77 P) (N (o141 P) (N (o269 P) Z Z) (N (o397 P) Z Z)) (N (o205 P) (N (o333 P) Z Z) (N (o461 P) Z Z))) (N (o109 P) (N (o173 P) (N (o301 P) Z Z) (N (o429 P) Z Z)) (N (o237 P) (N (o365 P) Z Z) Z))) (N (o61 P) (N (o93 P) (N (o157 P) (N (o285 P) Z Z) (N (o413 P) Z Z)) (N (o221 P) (N (o349 P) Z Z) (N (o477 P) Z Z))) (N (o125 P) (N (o189 P) (N (o317 P) Z Z) (N (o445 P) Z Z)) (N (o253 P) (N (o381 P) Z Z) Z))))))) (N (o2 P) (N (boot_o_4 P) (N (boot_o_8 P) (N (o16 P) (N (o32 P) (N (o64 P) (N (o128 P) (N (o256 P) Z Z) (N (o384 P) Z Z)) (N (o192 P) (N (o320 P) Z Z) (N (o448 P) Z Z))) (N (o96 P) (N (o160 P) (N (o288 P) Z Z) (N (o416 P) Z Z)) (N (o224 P) (N (o352 P) Z Z) (N (o480 P) Z Z)))) (N (o48 P) (N (o80 P) (N (o144 P) (N (o272 P) Z Z) (N (o400 P) Z Z)) (N (o208 P) (N (o336 P) Z Z) (N (o464 P) Z Z))) (N (o112 P) (N (o176 P) (N (o304 P) Z Z) (N (o432 P) Z Z)) (N (o240 P) (N (o368 P) Z Z) Z)))) (N (o24 P) (N (o40 P) (N (o72 P) (N (o136 P) (N (o264 P) Z Z) (N (o392 P) Z Z)) (N (o200 P) (N (o328 P) Z Z) (N (o456 P) Z Z))) (N (o104 P) (N (o168 P) (N (o296 P) Z Z) (N (o424 P) Z Z)) (N (o232 P) (N (o360 P) Z Z) (N (o488 P) Z Z)))) (N (o56 P) (N (o88 P) (N (o152 P) (N (o280 P) Z Z) (N (o408 P) Z Z)) (N (o216 P) (N (o344 P) Z Z) (N (o472 P) Z Z))) (N (o120 P) (N (o184 P) (N (o312 P) Z Z) (N (o440 P) Z Z)) (N (o248 P) (N (o376 P) Z Z) Z))))) (N (o12x9 P) (N (o20 P) (N (o36 P) (N (o68 P) (N (o132 P) (N (o260 P) Z Z) (N (o388 P) Z Z)) (N (o196 P) (N (o324 P) Z Z) (N (o452 P) Z Z))) (N (o100 P) (N (o164 P) (N (o292 P) Z Z) (N (o420 P) Z Z)) (N (o228 P) (N (o356 P) Z Z) (N (o484 P) Z Z)))) (N (o52 P) (N (o84 P) (N (o148 P) (N (o276 P) Z Z) (N (o404 P) Z Z)) (N (o212 P) (N (o340 P) Z Z) (N (o468 P) Z Z))) (N (o116 P) (N (o180 P) (N (o308 P) Z Z) (N (o436 P) Z Z)) (N (o244 P) (N (o372 P) Z Z) Z)))) (N (o28 P) (N (o44 P) (N (o76 P) (N (o140 P) (N (o268 P) Z Z) (N (o396 P) Z Z)) (N (o204 P) (N (o332 P) Z Z) (N (o460 P) Z Z))) (N (o108 P) (N (o172 P) (N (o300 P) Z Z) (N (o428 P) Z Z)) (N (o236 P) (N (o364 P) Z Z) (N (o492 P) Z Z)))) (N (o60 P) (N (o92 P) (N (o156 P) (N (o284 P) Z Z) (N (o412 P) Z Z)) (N (o220 P) (N (o348 P) Z Z) (N (o476 P) Z Z))) (N (o124 P) (N (o188 P) (N (o316 P) Z Z) (N (o444 P) Z Z)) (N (o252 P) (N (o380 P) Z Z) Z)))))) (N (boot_o_6 P) (N (boot_o_10 P) (N (o18 P) (N (o34 P) (N (o66 P) (N (o130 P) (N (o258 P) Z Z) (N (o386 P) Z Z)) (N (o194 P) (N (o322 P) Z Z) (N (o450 P) Z Z))) (N (o98 P) (N (o162 P) (N (o290 P) Z Z) (N (o418 P) Z Z)) (N (o226 P) (N (o354 P) Z Z) (N (o482 P) Z Z)))) (N (o50 P) (N (o82 P) (N (o146 P) (N (o274 P) Z Z) (N (o402 P) Z Z)) (N (o210 P) (N (o338 P) Z Z) (N (o466 P) Z Z))) (N (o114 P) (N (o178 P) (N (o306 P) Z Z) (N (o434 P) Z Z)) (N (o242 P) (N (o370 P) Z Z) Z)))) (N (o26 P) (N (o42 P) (N (o74 P) (N (o138 P) (N (o266 P) Z Z) (N (o394 P) Z Z)) (N (o202 P) (N (o330 P) Z Z) (N (o458 P) Z Z))) (N (o106 P) (N (o170 P) (N (o298 P) Z Z) (N (o426 P) Z Z)) (N (o234 P) (N (o362 P) Z Z) (N (o490 P) Z Z)))) (N (o58 P) (N (o90 P) (N (o154 P) (N (o282 P) Z Z) (N (o410 P) Z Z)) (N (o218 P) (N (o346 P) Z Z) (N (o474 P) Z Z))) (N (o122 P) (N (o186 P) (N (o314 P) Z Z) (N (o442 P) Z Z)) (N (o250 P) (N (o378 P) Z Z) Z))))) (N (o14 P) (N (o22 P) (N (o38 P) (N (o70 P) (N (o134 P) (N (o262 P) Z Z) (N (o390 P) Z Z)) (N (o198 P) (N (o326 P) Z Z) (N (o454 P) Z Z))) (N (o102 P) (N (o166 P) (N (o294 P) Z Z) (N (o422 P) Z Z)) (N (o230 P) (N (o358 P) Z Z) (N (o486 P) Z Z)))) (N (o54 P) (N (o86 P) (N (o150 P) (N (o278 P) Z Z) (N (o406 P) Z Z)) (N (o214 P) (N (o342 P) Z Z) (N (o470 P) Z Z))) (N (o118 P) (N (o182 P) (N (o310 P) Z Z) (N (o438 P) Z Z)) (N (o246 P) (N (o374 P) Z Z) Z)))) (N (o30 P) (N (o46 P) (N (o78 P) (N (o142 P) (N (o270 P) Z Z) (N (o398 P) Z Z)) (N (o206 P) (N (o334 P) Z Z) (N (o462 P) Z Z))) (N (o110 P) (N (o174 P) (N (o302 P) Z Z) (N (o430 P) Z Z)) (N (o238 P) (N (o366 P) Z Z) Z))) (N (o62 P) (N (o94 P) (N (o158 P) (N (o286 P) Z Z) (N (o414 P) Z Z)) (N (o222 P) (N (o350 P) Z Z) (N (o478 P) Z Z))) (N (o126 P) (N (o190 P) (N (o318 P) Z Z) (N (o446 P) Z Z)) (N (o254 P) (N (o382 P) Z Z) Z))))))))
noncomputable def t10 (P : Params) : BT := (N (boot_o_0 P) (N (boot_o_1 P) (N (o3 P) (N (boot_o_7 P) (N (o15 P) (N (o31 P) (N (o63 P) (N (o127 P) (N (o255 P) (N (o511 P) Z Z) Z) (N (o383 P) Z Z)) (N (o191 P) (N (o319 P) Z Z) (N (o447 P) Z Z))) (N (o95 P) (N (o159 P) (N (o287 P) Z Z) (N (o415 P) Z Z)) (N (o223 P) (N (o351 P) Z Z) (N (o479 P) Z Z)))) (N (o47 P) (N (o79 P) (N (o143 P) (N (o271 P) Z Z) (N (o399 P) Z Z)) (N (o207 P) (N (o335 P) Z Z) (N (o463 P) Z Z))) (N (o111 P) (N (o175 P) (N (o303 P) Z Z) (N (o431 P) Z Z)) (N (o239 P) (N (o367 P) Z Z) (N (o495 P) Z Z))))) (N (o23 P) (N (o39 P) (N (o71 P) (N (o135 P) (N (o263 P) (N (o519 P) Z Z) Z) (N (o391 P) Z Z)) (N (o199 P) (N (o327 P) Z Z) (N (o455 P) Z Z))) (N (o103 P) (N (o167 P) (N (o295 P) Z Z) (N (o423 P) Z Z)) (N (o231 P) (N (o359 P) Z Z) (N (o487 P) Z Z)))) (N (o55 P) (N (o87 P) (N (o151 P) (N (o279 P) Z Z) (N (o407 P) Z Z)) (N (o215 P) (N (o343 P) Z Z) (N (o471 P) Z Z))) (N (o119 P) (N (o183 P) (N (o311 P) Z Z) (N (o439 P) Z Z)) (N (o247 P) (N (o375 P) Z Z) (N (o503 P) Z Z)))))) (N (o11 P) (N (o19 P) (N (o35 P) (N (o67 P) (N (o131 P) (N (o259 P) (N (o515 P) Z Z) Z) (N (o387 P) Z Z)) (N (o195 P) (N (o323 P) Z Z) (N (o451 P) Z Z))) (N (o99 P) (N (o163 P) (N (o291 P) Z Z) (N (o419 P) Z Z)) (N (o227 P) (N (o355 P) Z Z) (N (o483 P) Z Z)))) (N (o51 P) (N (o83 P) (N (o147 P) (N (o275 P) Z Z) (N (o403 P) Z Z)) (N (o211 P) (N (o339 P) Z Z) (N (o467 P) Z Z))) (N (o115 P) (N (o179 P) (N (o307 P) Z Z) (N (o435 P) Z Z)) (N (o243 P) (N (o371 P) Z Z) (N (o499 P) Z Z))))) (N (o27 P) (N (o43 P) (N (o75 P) (N (o139 P) (N (o267 P) (N (o523 P) Z Z) Z) (N (o395 P) Z Z)) (N (o203 P) (N (o331 P) Z Z) (N (o459 P) Z Z))) (N (o107 P) (N (o171 P) (N (o299 P) Z Z) (N (o427 P) Z Z)) (N (o235 P) (N (o363 P) Z Z) (N (o491 P) Z Z)))) (N (o59 P) (N (o91 P) (N (o155 P) (N (o283 P) Z Z) (N (o411 P) Z Z)) (N (o219 P) (N (o347 P) Z Z) (N (o475 P) Z Z))) (N (o123 P) (N (o187 P) (N (o315 P) Z Z) (N (o443 P) Z Z)) (N (o251 P) (N (o379 P) Z Z) (N (o507 P) Z Z))))))) (N (boot_o_5 P) (N (boot_o_9 P) (N (o17 P) (N (o33 P) (N (o65 P) (N (o129 P) (N (o257 P) (N (o513 P) Z Z) Z) (N (o385 P) Z Z)) (N (o193 P) (N (o321 P) Z Z) (N (o449 P) Z Z))) (N (o97 P) (N (o161 P) (N (o289 P) Z Z) (N (o417 P) Z Z)) (N (o225 P) (N (o353 P) Z Z) (N (o481 P) Z Z)))) (N (o49 P) (N (o81 P) (N (o145 P) (N (o273 P) Z Z) (N (o401 P) Z Z)) (N (o209 P) (N (o337 P) Z Z) (N (o465 P) Z Z))) (N (o113 P) (N (o177 P) (N (o305 P) Z Z) (N (o433 P) Z Z)) (N (o241 P) (N (o369 P) Z Z) (N (o497 P) Z Z))))) (N (o25 P) (N (o41 P) (N (o73 P) (N (o137 P) (N (o265 P) (N (o521 P) Z Z) Z) (N (o393 P) Z Z)) (N (o201 P) (N (o329 P) Z Z) (N (o457 P) Z Z))) (N (o105 P) (N (o169 P) (N (o297 P) Z Z) (N (o425 P) Z Z)) (N (o233 P) (N (o361 P) Z Z) (N (o489 P) Z Z)))) (N (o57 P) (N (o89 P) (N (o153 P) (N (o281 P) Z Z) (N (o409 P) Z Z)) (N (o217 P) (N (o345 P) Z Z) (N (o473 P) Z Z))) (N (o121 P) (N (o185 P) (N (o313 P) Z Z) (N (o441 P) Z Z)) (N (o249 P) (N (o377 P) Z Z) (N (o505 P) Z Z)))))) (N (o13 P) (N (o21 P) (N (o37 P) (N (o69 P) (N (o133 P) (N (o261 P) (N (o517 P) Z Z) Z) (N (o389 P) Z Z)) (N (o197 P) (N (o325 P) Z Z) (N (o453 P) Z Z))) (N (o101 P) (N (o165 P) (N (o293 P) Z Z) (N (o421 P) Z Z)) (N (o229 P) (N (o357 P) Z Z) (N (o485 P) Z Z)))) (N (o53 P) (N (o85 P) (N (o149 P) (N (o277 P) Z Z) (N (o405 P) Z Z)) (N (o213 P) (N (o341 P) Z Z) (N (o469 P) Z Z))) (N (o117 P) (N (o181 P) (N (o309 P) Z Z) (N (o437 P) Z Z)) (N (o245 P) (N (o373 P) Z Z) (N (o501 P) Z Z))))) (N (o29 P) (N (o45 P) (N (o77 P) (N (o141 P) (N (o269 P) (N (o525 P) Z Z) Z) (N (o397 P) Z Z)) (N (o205 P) (N (o333 P) Z Z) (N (o461 P) Z Z))) (N (o109 P) (N (o173 P) (N (o301 P) Z Z) (N (o429 P) Z Z)) (N (o237 P) (N (o365 P) Z Z) (N (o493 P) Z Z)))) (N (o61 P) (N (o93 P) (N (o157 P) (N (o285 P) Z Z) (N (o413 P) Z Z)) (N (o221 P) (N (o349 P) Z Z) (N (o477 P) Z Z))) (N (o125 P) (N (o189 P) (N (o317 P) Z Z) (N (o445 P) Z Z)) (N (o253 P) (N (o381 P) Z Z) (N (o509 P) Z Z)))))))) (N (o2 P) (N (boot_o_4 P) (N (boot_o_8 P) (N (o16 P) (N (o32 P) (N (o64 P) (N (o128 P) (N (o256 P) (N (o512 P) Z Z) Z) (N (o384 P) Z Z)) (N (o192 P) (N (o320 P) Z Z) (N (o448 P) Z Z))) (N (o96 P) (N (o160 P) (N (o288 P) Z Z) (N (o416 P) Z Z)) (N (o224 P) (N (o352 P) Z Z) (N (o480 P) Z Z)))) (N (o48 P) (N (o80 P) (N (o144 P) (N (o272 P) Z Z) (N (o400 P) Z Z)) (N (o208 P) (N (o336 P) Z Z) (N (o464 P) Z Z))) (N (o112 P) (N (o176 P) (N (o304 P) Z Z) (N (o432 P) Z Z)) (N (o240 P) (N (o368 P) Z Z) (N (o496 P) Z Z))))) (N (o24 P) (N (o40 P) (N (o72 P) (N (o136 P) (N (o264 P) (N (o520 P) Z Z) Z) (N (o392 P) Z Z)) (N (o200 P) (N (o328 P) Z Z) (N (o456 P) Z Z))) (N (o104 P) (N (o168 P) (N (o296 P) Z Z) (N (o424 P) Z Z)) (N (o232 P) (N (o360 P) Z Z) (N (o488 P) Z Z)))) (N (o56 P) (N (o88 P) (N (o152 P) (N (o280 P) Z Z) (N (o408 P) Z Z)) (N (o216 P) (N (o344 P) Z Z) (N (o472 P) Z Z))) (N (o120 P) (N (o184 P) (N (o312 P) Z Z) (N (o440 P) Z Z)) (N (o248 P) (N (o376 P) Z Z) (N (o504 P) Z Z)))))) (N (o12 P) (N (o20 P) (N (o36 P) (N (o68 P) (N (o132 P) (N (o260 P) (N (o516 P) Z Z) Z) (N (o388 P) Z Z)) (N (o196 P) (N (o324 P) Z Z) (N (o452 P) Z Z))) (N (o100 P) (N (o164 P) (N (o292 P) Z Z) (N (o420 P) Z Z)) (N (o228 P) (N (o356 P) Z Z) (N (o484 P) Z Z)))) (N (o52 P) (N (o84 P) (N (o148 P) (N (o276 P) Z Z) (N (o404 P) Z Z)) (N (o212 P) (N (o340 P) Z Z) (N (o468 P) Z Z))) (N (o116 P) (N (o180 P) (N (o308 P) Z Z) (N (o436 P) Z Z)) (N (o244 P) (N (o372 P) Z Z) (N (o500 P) Z Z))))) (N (o28 P) (N (o44 P) (N (o76 P) (N (o140 P) (N (o268 P) (N (o524 P) Z Z) Z) (N (o396 P) Z Z)) (N (o204 P) (N (o332 P) Z Z) (N (o460 P) Z Z))) (N (o108 P) (N (o172 P) (N (o300 P) Z Z) (N (o428 P) Z Z)) (N (o236 P) (N (o364 P) Z Z) (N (o492 P) Z Z)))) (N (o60 P) (N (o92 P) (N (o156 P) (N (o284 P) Z Z) (N (o412 P) Z Z)) (N (o220 P) (N (o348 P) Z Z) (N (o476 P) Z Z))) (N (o124 P) (N (o188 P) (N (o316 P) Z Z) (N (o444 P) Z Z)) (N (o252 P) (N (o380 P) Z Z) (N (o508 P) Z Z))))))) (N (boot_o_6 P) (N (boot_o_10 P) (N (o18 P) (N (o34 P) (N (o66 P) (N (o130 P) (N (o258 P) (N (o514 P) Z Z) Z) (N (o386 P) Z Z)) (N (o194 P) (N (o322 P) Z Z) (N (o450 P) Z Z))) (N (o98 P) (N (o162 P) (N (o290 P) Z Z) (N (o418 P) Z Z)) (N (o226 P) (N (o354 P) Z Z) (N (o482 P) Z Z)))) (N (o50 P) (N (o82 P) (N (o146 P) (N (o274 P) Z Z) (N (o402 P) Z Z)) (N (o210 P) (N (o338 P) Z Z) (N (o466 P) Z Z))) (N (o114 P) (N (o178 P) (N (o306 P) Z Z) (N (o434 P) Z Z)) (N (o242 P) (N (o370 P) Z Z) (N (o498 P) Z Z))))) (N (o26 P) (N (o42 P) (N (o74 P) (N (o138 P) (N (o266 P) (N (o522 P) Z Z) Z) (N (o394 P) Z Z)) (N (o202 P) (N (o330 P) Z Z) (N (o458 P) Z Z))) (N (o106 P) (N (o170 P) (N (o298 P) Z Z) (N (o426 P) Z Z)) (N (o234 P) (N (o362 P) Z Z) (N (o490 P) Z Z)))) (N (o58 P) (N (o90 P) (N (o154 P) (N (o282 P) Z Z) (N (o410 P) Z Z)) (N (o218 P) (N (o346 P) Z Z) (N (o474 P) Z Z))) (N (o122 P) (N (o186 P) (N (o314 P) Z Z) (N (o442 P) Z Z)) (N (o250 P) (N (o378 P) Z Z) (N (o506 P) Z Z)))))) (N (o14 P) (N (o22 P) (N (o38 P) (N (o70 P) (N (o134 P) (N (o262 P) (N (o518 P) Z Z) Z) (N (o390 P) Z Z)) (N (o198 P) (N (o326 P) Z Z) (N (o454 P) Z Z))) (N (o102 P) (N (o166 P) (N (o294 P) Z Z) (N (o422 P) Z Z)) (N (o230 P) (N (o358 P) Z Z) (N (o486 P) Z Z)))) (N (o54 P) (N (o86 P) (N (o150 P) (N (o278 P) Z Z) (N (o406 P) Z Z)) (N (o214 P) (N (o342 P) Z Z) (N (o470 P) Z Z))) (N (o118 P) (N (o182 P) (N (o310 P) Z Z) (N (o438 P) Z Z)) (N (o246 P) (N (o374 P) Z Z) (N (o502 P) Z Z))))) (N (o30 P) (N (o46 P) (N (o78 P) (N (o142 P) (N (o270 P) Z Z) (N (o398 P) Z Z)) (N (o206 P) (N (o334 P) Z Z) (N (o462 P) Z Z))) (N (o110 P) (N (o174 P) (N (o302 P) Z Z) (N (o430 P) Z Z)) (N (o238 P) (N (o366 P) Z Z) (N (o494 P) Z Z)))) (N (o62 P) (N (o94 P) (N (o158 P) (N (o286 P) Z Z) (N (o414 P) Z Z)) (N (o222 P) (N (o350 P) Z Z) (N (o478 P) Z Z))) (N (o126 P) (N (o190 P) (N (o318 P) Z Z) (N (o446 P) Z Z)) (N (o254 P) (N (o382 P) Z Z) (N (o510 P) Z Z)))))))))
noncomputable def hF (P : Params) : Heap := ⟨#[boot_o_0 P, boot_o_1 P, o2 P, o3 P, boot_o_4 P, boot_o_5 P, boot_o_6 P, boot_o_7 P, boot_o_8 P, boot_o_9 P, boot_o_10 P, o11 P, o12 P, o13 P, o14 P, o15 P, o16 P, o17 P, o18 P, o19 P, o20 P, o21 P, o22 P, o23 P, o24 P, o25 P, o26 P, o27 P, o28 P, o29 P, o30 P, o31 P, o32 P, o33 P, o34 P, o35 P, o36 P, o37 P, o38 P, o39 P, o40 P, o41 P, o42 P, o43 P, o44 P, o45 P, o46 P, o47 P, o48 P, o49 P, o50 P, o51 P, o52 P, o53 P, o54 P, o55 P, o56 P, o57 P, o58 P, o59 P, o60 P, o61 P, o62 P, o63 P, o64 P, o65 P, o66 P, o67 P, o68 P, o69 P, o70 P, o71 P, o72 P, o73 P, o74 P, o75 P, o76 P, o77 P, o78 P, o79 P, o80 P, o81 P, o82 P, o83 P, o84 P, o85 P, o86 P, o87 P, o88 P, o89 P, o90 P, o91 P, o92 P, o93 P, o94 P, o95 P, o96 P, o97 P, o98 P, o99 P, o100 P, o101 P, o102 P, o103 P, o104 P, o105 P, o106 P, o107 P, o108 P, o109 P, o110 P, o111 P, o112 P, o113 P, o114 P, o115 P, o116 P, o117 P, o118 P, o119 P, o120 P, o121 P, o122 P, o123 P, o124 P, o125 P, o126 P, o127 P, o128 P, o129 P, o130 P, o131 P, o132 P, o133 P, o134 P, o135 P, o136 P, o137 P, o138 P, o139 P, o140 P, o141 P, o142 P, o143 P, o144 P, o145 P, o146 P, o147 P, o148 P, o149 P, o150 P, o151 P, o152 P, o153 P, o154 P, o155 P, o156 P, o157 P, o158 P, o159 P, o160 P, o161 P, o162 P, o163 P, o164 P, o165 P, o166 P, o167 P, o168 P, o169 P, o170 P, o171 P, o172 P, o173 P, o174 P, o175 P, o176 P, o177 P, o178 P, o179 P, o180 P, o181 P, o182 P, o183 P, o184 P, o185 P, o186 P, o187 P, o188 P, o189 P, o190 P, o191 P, o192 P, o193 P, o194 P, o195 P, o196 P, o197 P, o198 P, o199 P, o200 P, o201 P, o202 P, o203 P, o204 P, o205 P, o206 P, o207 P, o208 P, o209 P, o210 P, o211 P, o212 P, o213 P, o214 P, o215 P, o216 P, o217 P, o218 P, o219 P, o220 P, o221 P, o222 P, o223 P, o224 P, o225 P, o226 P, o227 P, o228 P, o229 P, o230 P, o231 P, o232 P, o233 P, o234 P, o235 P, o236 P, o237 P, o238 P, o239 P, o240 P, o241 P, o242 P, o243 P, o244 P, o245 P, o246 P, o247 P, o248 P, o249 P, o250 P, o251 P, o252 P, o253 P, o254 P, o255 P, o256 P, o257 P, o258 P, o259 P, o260 P, o261 P, o262 P, o263 P, o264 P, o265 P, o266 P, o267 P, o268 P, o269 P, o270 P, o271 P, o272 P, o273 P, o274 P, o275 P, o276 P, o277 P, o278 P, o279 P, o280 P, o281 P, o282 P, o283 P, o284 P, o285 P, o286 P, o287 P, o288 P, o289 P, o290 P, o291 P, o292 P, o293 P, o294 P, o295 P, o296 P, o297 P, o298 P, o299 P, o300 P, o301 P, o302 P, o303 P, o304 P, o305 P, o306 P, o307 P, o308 P, o309 P, o310 P, o311 P, o312 P, o313 P, o314 P, o315 P, o316 P, o317 P, o318 P, o319 P, o320 P, o321 P, o322 P, o323 P, o324 P, o325 P, o326 P, o327 P, o328 P, o329 P, o330 P, o331 P, o332 P, o333 P, o334 P, o335 P, o336 P, o337 P, o338 P, o339 P, o340 P, o341 P, o342 P, o343 P, o344 P, o345 P, o346 P, o347 P, o348 P, o349 P, o350 P, o351 P, o352 P, o353 P, o354 P, o355 P, o356 P, o357 P, o358 P, o359 P, o360 P, o361 P, o362 P, o363 P, o364 P, o365 P, o366 P, o367 P, o368 P, o369 P, o370 P, o371 P, o372 P, o373 P, o374 P, o375 P, o376 P, o377 P, o378 P, o379 P, o380 P, o381 P, o382 P, o383 P, o384 P, o385 P, o386 P, o387 P, o388 P, o389 P, o390 P, o391 P, o392 P, o393 P, o394 P, o395 P, o396 P, o397 P, o398 P, o399 P, o400 P, o401 P, o402 P, o403 P, o404 P, o405 P, o406 P, o407 P, o408 P, o409 P, o410 P, o411 P, o412 P, o413 P, o414 P, o415 P, o416 P, o417 P, o418 P, o419 P, o420 P, o421 P, o422 P, o423 P, o424 P, o425 P, o426 P, o427 P, o428 P, o429 P, o430 P, o431 P, o432 P, o433 P, o434 P, o435 P, o436 P, o437 P, o438 P, o439 P, o440 P, o441 P, o442 P, o443 P, o444 P, o445 P, o446 P, o447 P, o448 P, o449 P, o450 P, o451 P, o452 P, o453 P, o454 P, o455 P, o456 P, o457 P, o458 P, o459 P, o460 P, o461 P, o462 P, o463 P, o464 P, o465 P, o466 P, o467 P, o468 P, o469 P, o470 P, o471 P, o472 P, o473 P, o474 P, o475 P, o476 P, o477 P, o478 P, o479 P, o480 P, o481 P, o482 P, o483 P, o484 P, o485 P, o486 P, o487 P, o488 P, o489 P, o490 P, o491 P, o492 P, o493 P, o494 P, o495 P, o496 P, o497 P, o498 P, o499 P, o500 P, o501 P, o502 P, o503 P, o504 P, o505 P, o506 P, o507 P, o508 P, o509 P, o510 P, o511 P, o512 P, o513 P, o514 P, o515 P, o516 P, o517 P, o518 P, o519 P, o520 P, o521 P, o522 P, o523 P, o524 P, o525 P], lifeH⟩
noncomputable def envH : Env := { scope := pw.main.scope, locals := mainNs, globals := mainNs, cells := [], code := .ref 13, frame := some 14 }
noncomputable def bE : List Stmt := pw.main.body
noncomputable abbrev cE : Code := .body bE envH
noncomputable abbrev pos0 : Pos := (Pos.mk 0 0 0 0)
noncomputable abbrev topB : List Frame := [topFrame pos0]
theorem stPre (w : World) (os : OsState) : topGo treeTable pw w 11 (some (.ref 6)) 12 ⟨boot_heap w.params, #[], boot_drawn, boot_toks, os⟩ (topStub pw) =
  some (⟨hA w.params, #[], drawnH, 187, os⟩, ⟨denote treeTable cE, cE, (Pos.mk 0 0 0 0), topB⟩) := by
 rewrite [PySem.W.Fast.te15667345088766844465, PySem.W.Fast.te11892475500146522536, PySem.W.Fast.te14364793385576792824]; kernel_rfl
theorem stBlock (w : World) (os : OsState) : segRun treeTable pw w 11 (some (.ref 6)) 1 1 ⟨hA w.params, #[], drawnH, 187, os⟩ (blockOf bE envH cE (Pos.mk 0 0 0 0) topB) =
  some (.next, SharedT.abs ⟨ta w.params, 15, lifeH, #[], drawnH, 187, os⟩, cE, (Pos.mk 0 0 0 0)) := by
 rewrite [PySem.W.Fast.te14374325043358763698, PySem.W.Fast.te14364793385576792824]; kernel_rfl
noncomputable def sts0 : List Stmt := [stAt 0, stAt 1]
theorem stG0 (w : World) (os : OsState) : segRunT treeTable pw w 11 (some (.ref 6)) 1 238 ⟨ta w.params, 15, lifeH, #[], drawnH, 187, os⟩ (piecesOf sts0 envH cE (Pos.mk 0 0 0 0) topB) =
  some (.next, ⟨t0 w.params, 35, lifeH, #[], drawnH, 218, os⟩, cE, (Pos.mk 2 0 5 30)) := by
 rewrite [PySem.W.Fast.te10110043849684766642, PySem.W.Fast.te14364793385576792824]; kernel_rfl
noncomputable def sts1 : List Stmt := [stAt 2]
theorem stG1 (w : World) (os : OsState) : segRunT treeTable pw w 11 (some (.ref 6)) 1 214 ⟨t0 w.params, 35, lifeH, #[], drawnH, 218, os⟩ (piecesOf sts1 envH cE (Pos.mk 2 0 5 30) topB) =
  some (.next, ⟨t1 w.params, 47, lifeH, #[], drawnH, 234, os⟩, cE, (Pos.mk 6 0 7 8)) := by
 rewrite [PySem.W.Fast.te10110043849684766642, PySem.W.Fast.te14364793385576792824]; kernel_rfl
noncomputable def sts2 : List Stmt := [stAt 3, stAt 4, stAt 5, stAt 6, stAt 7, stAt 8, stAt 9, stAt 10]
theorem stG2 (w : World) (os : OsState) : segRunT treeTable pw w 11 (some (.ref 6)) 1 382 ⟨t1 w.params, 47, lifeH, #[], drawnH, 234, os⟩ (piecesOf sts2 envH cE (Pos.mk 6 0 7 8) topB) =
  some (.next, ⟨t2 w.params, 89, lifeH, #[], drawnH, 298, os⟩, cE, (Pos.mk 29 0 30 59)) := by
 rewrite [PySem.W.Fast.te10110043849684766642, PySem.W.Fast.te14364793385576792824]; kernel_rfl
noncomputable def sts3 : List Stmt := [stAt 11, stAt 12, stAt 13, stAt 14]
theorem stG3 (w : World) (os : OsState) : segRunT treeTable pw w 11 (some (.ref 6)) 1 119 ⟨t2 w.params, 89, lifeH, #[], drawnH, 298, os⟩ (piecesOf sts3 envH cE (Pos.mk 29 0 30 59) topB) =
  some (.next, ⟨t3 w.params, 117, lifeH, #[], drawnH, 328, os⟩, cE, (Pos.mk 41 0 42 50)) := by
 rewrite [PySem.W.Fast.te10110043849684766642, PySem.W.Fast.te14364793385576792824]; kernel_rfl
noncomputable def sts4 : List Stmt := [stAt 15, stAt 16, stAt 17]
theorem stG4 (w : World) (os : OsState) : segRunT treeTable pw w 11 (some (.ref 6)) 1 382 ⟨t3 w.params, 117, lifeH, #[], drawnH, 328, os⟩ (piecesOf sts4 envH cE (Pos.mk 41 0 42 50) topB) =
  some (.next, ⟨t4 w.params, 173, lifeH, #[], drawnH, 400, os⟩, cE, (Pos.mk 68 0 74 65)) := by
 rewrite [PySem.W.Fast.te10110043849684766642, PySem.W.Fast.te14364793385576792824]; kernel_rfl
noncomputable def sts5 : List Stmt := [stAt 18, stAt 19, stAt 20, stAt 21, stAt 22]
theorem stG5 (w : World) (os : OsState) : segRunT treeTable pw w 11 (some (.ref 6)) 1 72 ⟨t4 w.params, 173, lifeH, #[], drawnH, 400, os⟩ (piecesOf sts5 envH cE (Pos.mk 68 0 74 65) topB) =
  some (.next, ⟨t5 w.params, 180, lifeH, #[], drawnH, 421, os⟩, cE, (Pos.mk 94 0 94 7)) := by
 rewrite [PySem.W.Fast.te10110043849684766642, PySem.W.Fast.te14364793385576792824]; kernel_rfl
noncomputable def sts6 : List Stmt := [stAt 23]
theorem stG6 (w : World) (os : OsState) : segRunT treeTable pw w 11 (some (.ref 6)) 1 574 ⟨t5 w.params, 180, lifeH, #[], drawnH, 421, os⟩ (piecesOf sts6 envH cE (Pos.mk 94 0 94 7) topB) =
  some (.next, ⟨t6 w.params, 278, lifeH, #[], drawnH, 537, os⟩, cE, (Pos.mk 95 0 174 21)) := by
 rewrite [PySem.W.Fast.te10110043849684766642, PySem.W.Fast.te14364793385576792824]; kernel_rfl
noncomputable def sts7 : List Stmt := [stAt 24, stAt 25, stAt 26, stAt 27, stAt 28, stAt 29, stAt 30, stAt 31, stAt 32, stAt 33]
theorem stG7 (w : World) (os : OsState) : segRunT treeTable pw w 11 (some (.ref 6)) 1 260 ⟨t6 w.params, 278, lifeH, #[], drawnH, 537, os⟩ (piecesOf sts7 envH cE (Pos.mk 95 0 174 21) topB) =
  some (.next, ⟨t7 w.params, 334, lifeH, #[], drawnH, 606, os⟩, cE, (Pos.mk 222 0 223 67)) := by
 rewrite [PySem.W.Fast.te10110043849684766642, PySem.W.Fast.te14364793385576792824]; kernel_rfl
noncomputable def sts8 : List Stmt := [stAt 34]
theorem stG8 (w : World) (os : OsState) : segRunT treeTable pw w 11 (some (.ref 6)) 1 491 ⟨t7 w.params, 334, lifeH, #[], drawnH, 606, os⟩ (piecesOf sts8 envH cE (Pos.mk 222 0 223 67) topB) =
  some (.next, ⟨t8 w.params, 411, lifeH, #[], drawnH, 711, os⟩, cE, (Pos.mk 224 0 279 80)) := by
 rewrite [PySem.W.Fast.te10110043849684766642, PySem.W.Fast.te14364793385576792824]; kernel_rfl
noncomputable def sts9 : List Stmt := [stAt 35, stAt 36, stAt 37, stAt 38, stAt 39, stAt 40, stAt 41, stAt 42, stAt 43, stAt 44, stAt 45, stAt 46, stAt 47]
theorem stG9 (w : World) (os : OsState) : segRunT treeTable pw w 11 (some (.ref 6)) 1 377 ⟨t8 w.params, 411, lifeH, #[], drawnH, 711, os⟩ (piecesOf sts9 envH cE (Pos.mk 224 0 279 80) topB) =
  some (.next, ⟨t9 w.params, 493, lifeH, #[], drawnH, 818, os⟩, cE, (Pos.mk 346 0 350 75)) := by
 rewrite [PySem.W.Fast.te10110043849684766642, PySem.W.Fast.te14364793385576792824]; kernel_rfl
noncomputable def sts10 : List Stmt := [stAt 48, stAt 49, stAt 50, stAt 51, stAt 52]
theorem stG10 (w : World) (os : OsState) : segRunT treeTable pw w 11 (some (.ref 6)) 1 165 ⟨t9 w.params, 493, lifeH, #[], drawnH, 818, os⟩ (piecesOf sts10 envH cE (Pos.mk 346 0 350 75) topB) =
  some (.next, ⟨t10 w.params, 526, lifeH, #[], drawnH, 874, os⟩, cE, (Pos.mk 403 0 417 15)) := by
 rewrite [PySem.W.Fast.te10110043849684766642, PySem.W.Fast.te14364793385576792824]; kernel_rfl
theorem stFin (w : World) (os : OsState) : topRun treeTable pw w 11 (some (.ref 6)) 2 (SharedT.abs ⟨t10 w.params, 526, lifeH, #[], drawnH, 874, os⟩) ⟨doneF .next, cE, (Pos.mk 403 0 417 15), topB⟩ =
  some ⟨hF w.params, #[], drawnH, 874, os⟩ := by
 rewrite [PySem.W.Fast.te14082659384304107361, PySem.W.Fast.te14364793385576792824]; kernel_rfl
theorem bodyIs : bE = (sts0 ++ (sts1 ++ (sts2 ++ (sts3 ++ (sts4 ++ (sts5 ++ (sts6 ++ (sts7 ++ (sts8 ++ (sts9 ++ (sts10 ++ []))))))))))) := by kernel_rfl
theorem runRest (w : World) (os : OsState) : topRun treeTable pw w 11 (some (.ref 6)) (238 + (214 + (382 + (119 + (382 + (72 + (574 + (260 + (491 + (377 + (165 + 2))))))))))) (SharedT.abs ⟨ta w.params, 15, lifeH, #[], drawnH, 187, os⟩) (restOf (sts0 ++ (sts1 ++ (sts2 ++ (sts3 ++ (sts4 ++ (sts5 ++ (sts6 ++ (sts7 ++ (sts8 ++ (sts9 ++ (sts10 ++ []))))))))))) envH cE (Pos.mk 0 0 0 0) topB) = some ⟨hF w.params, #[], drawnH, 874, os⟩ :=
 piece_app (segRun_of (stG0 w os)) (piece_app (segRun_of (stG1 w os)) (piece_app (segRun_of (stG2 w os)) (piece_app (segRun_of (stG3 w os)) (piece_app (segRun_of (stG4 w os)) (piece_app (segRun_of (stG5 w os)) (piece_app (segRun_of (stG6 w os)) (piece_app (segRun_of (stG7 w os)) (piece_app (segRun_of (stG8 w os)) (piece_app (segRun_of (stG9 w os)) (piece_app (segRun_of (stG10 w os)) (piece_nil (stFin w os))))))))))))
theorem runAll (w : World) (os : OsState) : topRun treeTable pw w 11 (some (.ref 6)) (12 + (1 + (238 + (214 + (382 + (119 + (382 + (72 + (574 + (260 + (491 + (377 + (165 + 2))))))))))))) ⟨boot_heap w.params, #[], boot_drawn, boot_toks, os⟩ (topStub pw) = some ⟨hF w.params, #[], drawnH, 874, os⟩ :=
 go_top (stPre w os) (piece_block (stBlock w os) (by have k := runRest w os; rw [← bodyIs] at k; exact k))


end
section
open PySem PySem.W PyProof.Rows
noncomputable def heapK (P : Params) : Frag := (nat_lit 2, o2 P) ::
 (nat_lit 3, o3 P) ::
 (nat_lit 15, o15 P) ::
 (nat_lit 22, o22 P) ::
 (nat_lit 24, o24 P) ::
 (nat_lit 25, o25 P) ::
 (nat_lit 27, o27 P) ::
 (nat_lit 28, o28 P) ::
 (nat_lit 29, o29 P) ::
 (nat_lit 30, o30 P) ::
 (nat_lit 31, o31 P) ::
 (nat_lit 32, o32 P) ::
 (nat_lit 35, o35 P) ::
 (nat_lit 42, o42 P) ::
 (nat_lit 43, o43 P) ::
 (nat_lit 44, o44 P) ::
 (nat_lit 47, o47 P) ::
 (nat_lit 54, o54 P) ::
 (nat_lit 56, o56 P) ::
 (nat_lit 57, o57 P) ::
 (nat_lit 59, o59 P) ::
 (nat_lit 60, o60 P) ::
 (nat_lit 61, o61 P) ::
 (nat_lit 62, o62 P) ::
 (nat_lit 63, o63 P) ::
 (nat_lit 66, o66 P) ::
 (nat_lit 67, o67 P) ::
 (nat_lit 69, o69 P) ::
 (nat_lit 70, o70 P) ::
 (nat_lit 72, o72 P) ::
 (nat_lit 73, o73 P) ::
 (nat_lit 74, o74 P) ::
 (nat_lit 75, o75 P) ::
 (nat_lit 77, o77 P) ::
 (nat_lit 78, o78 P) ::
 (nat_lit 80, o80 P) ::
 (nat_lit 81, o81 P) ::
 (nat_lit 82, o82 P) ::
 (nat_lit 84, o84 P) ::
 (nat_lit 85, o85 P) ::
 (nat_lit 87, o87 P) ::
 (nat_lit 88, o88 P) ::
 (nat_lit 89, o89 P) ::
 (nat_lit 91, o91 P) ::
 (nat_lit 92, o92 P) ::
 (nat_lit 94, o94 P) ::
 (nat_lit 95, o95 P) ::
 (nat_lit 96, o96 P) ::
 (nat_lit 98, o98 P) ::
 (nat_lit 99, o99 P) ::
 (nat_lit 101, o101 P) ::
 (nat_lit 102, o102 P) ::
 (nat_lit 103, o103 P) ::
 (nat_lit 105, o105 P) ::
 (nat_lit 106, o106 P) ::
 (nat_lit 108, o108 P) ::
 (nat_lit 109, o109 P) ::
 (nat_lit 110, o110 P) ::
 (nat_lit 112, o112 P) ::
 (nat_lit 113, o113 P) ::
 (nat_lit 115, o115 P) ::
 (nat_lit 116, o116 P) ::
 (nat_lit 124, o124 P) ::
 (nat_lit 126, o126 P) ::
 (nat_lit 127, o127 P) ::
 (nat_lit 129, o129 P) ::
 (nat_lit 130, o130 P) ::
 (nat_lit 131, o131 P) ::
 (nat_lit 133, o133 P) ::
 (nat_lit 134, o134 P) ::
 (nat_lit 136, o136 P) ::
 (nat_lit 137, o137 P) ::
 (nat_lit 138, o138 P) ::
 (nat_lit 140, o140 P) ::
 (nat_lit 141, o141 P) ::
 (nat_lit 143, o143 P) ::
 (nat_lit 144, o144 P) ::
 (nat_lit 145, o145 P) ::
 (nat_lit 147, o147 P) ::
 (nat_lit 148, o148 P) ::
 (nat_lit 150, o150 P) ::
 (nat_lit 151, o151 P) ::
 (nat_lit 152, o152 P) ::
 (nat_lit 153, o153 P) ::
 (nat_lit 154, o154 P) ::
 (nat_lit 155, o155 P) ::
 (nat_lit 156, o156 P) ::
 (nat_lit 159, o159 P) ::
 (nat_lit 161, o161 P) ::
 (nat_lit 162, o162 P) ::
 (nat_lit 164, o164 P) ::
 (nat_lit 165, o165 P) ::
 (nat_lit 166, o166 P) ::
 (nat_lit 168, o168 P) ::
 (nat_lit 169, o169 P) ::
 (nat_lit 171, o171 P) ::
 (nat_lit 172, o172 P) ::
 (nat_lit 173, o173 P) ::
 (nat_lit 175, o175 P) ::
 (nat_lit 176, o176 P) ::
 (nat_lit 178, o178 P) ::
 (nat_lit 179, o179 P) ::
 (nat_lit 187, o187 P) ::
 (nat_lit 189, o189 P) ::
 (nat_lit 190, o190 P) ::
 (nat_lit 192, o192 P) ::
 (nat_lit 193, o193 P) ::
 (nat_lit 194, o194 P) ::
 (nat_lit 196, o196 P) ::
 (nat_lit 197, o197 P) ::
 (nat_lit 199, o199 P) ::
 (nat_lit 200, o200 P) ::
 (nat_lit 201, o201 P) ::
 (nat_lit 203, o203 P) ::
 (nat_lit 204, o204 P) ::
 (nat_lit 206, o206 P) ::
 (nat_lit 207, o207 P) ::
 (nat_lit 208, o208 P) ::
 (nat_lit 210, o210 P) ::
 (nat_lit 211, o211 P) ::
 (nat_lit 213, o213 P) ::
 (nat_lit 214, o214 P) ::
 (nat_lit 215, o215 P) ::
 (nat_lit 217, o217 P) ::
 (nat_lit 218, o218 P) ::
 (nat_lit 220, o220 P) ::
 (nat_lit 221, o221 P) ::
 (nat_lit 222, o222 P) ::
 (nat_lit 224, o224 P) ::
 (nat_lit 225, o225 P) ::
 (nat_lit 227, o227 P) ::
 (nat_lit 228, o228 P) ::
 (nat_lit 229, o229 P) ::
 (nat_lit 231, o231 P) ::
 (nat_lit 232, o232 P) ::
 (nat_lit 234, o234 P) ::
 (nat_lit 235, o235 P) ::
 (nat_lit 236, o236 P) ::
 (nat_lit 238, o238 P) ::
 (nat_lit 239, o239 P) ::
 (nat_lit 241, o241 P) ::
 (nat_lit 242, o242 P) ::
 (nat_lit 243, o243 P) ::
 (nat_lit 245, o245 P) ::
 (nat_lit 246, o246 P) ::
 (nat_lit 248, o248 P) ::
 (nat_lit 249, o249 P) ::
 (nat_lit 250, o250 P) ::
 (nat_lit 252, o252 P) ::
 (nat_lit 253, o253 P) ::
 (nat_lit 255, o255 P) ::
 (nat_lit 256, o256 P) ::
 (nat_lit 257, o257 P) ::
 (nat_lit 259, o259 P) ::
 (nat_lit 260, o260 P) ::
 (nat_lit 262, o262 P) ::
 (nat_lit 263, o263 P) ::
 (nat_lit 264, o264 P) ::
 (nat_lit 266, o266 P) ::
 (nat_lit 267, o267 P) ::
 (nat_lit 269, o269 P) ::
 (nat_lit 270, o270 P) ::
 (nat_lit 271, o271 P) ::
 (nat_lit 272, o272 P) ::
 (nat_lit 273, o273 P) ::
 (nat_lit 274, o274 P) ::
 (nat_lit 275, o275 P) ::
 (nat_lit 278, o278 P) ::
 (nat_lit 280, o280 P) ::
 (nat_lit 281, o281 P) ::
 (nat_lit 283, o283 P) ::
 (nat_lit 284, o284 P) ::
 (nat_lit 285, o285 P) ::
 (nat_lit 287, o287 P) ::
 (nat_lit 288, o288 P) ::
 (nat_lit 290, o290 P) ::
 (nat_lit 291, o291 P) ::
 (nat_lit 292, o292 P) ::
 (nat_lit 294, o294 P) ::
 (nat_lit 295, o295 P) ::
 (nat_lit 297, o297 P) ::
 (nat_lit 298, o298 P) ::
 (nat_lit 299, o299 P) ::
 (nat_lit 301, o301 P) ::
 (nat_lit 302, o302 P) ::
 (nat_lit 304, o304 P) ::
 (nat_lit 305, o305 P) ::
 (nat_lit 306, o306 P) ::
 (nat_lit 308, o308 P) ::
 (nat_lit 309, o309 P) ::
 (nat_lit 311, o311 P) ::
 (nat_lit 312, o312 P) ::
 (nat_lit 313, o313 P) ::
 (nat_lit 315, o315 P) ::
 (nat_lit 316, o316 P) ::
 (nat_lit 318, o318 P) ::
 (nat_lit 319, o319 P) ::
 (nat_lit 320, o320 P) ::
 (nat_lit 322, o322 P) ::
 (nat_lit 323, o323 P) ::
 (nat_lit 325, o325 P) ::
 (nat_lit 326, o326 P) ::
 (nat_lit 327, o327 P) ::
 (nat_lit 329, o329 P) ::
 (nat_lit 330, o330 P) ::
 (nat_lit 332, o332 P) ::
 (nat_lit 333, o333 P) ::
 (nat_lit 341, o341 P) ::
 (nat_lit 343, o343 P) ::
 (nat_lit 344, o344 P) ::
 (nat_lit 346, o346 P) ::
 (nat_lit 347, o347 P) ::
 (nat_lit 348, o348 P) ::
 (nat_lit 350, o350 P) ::
 (nat_lit 351, o351 P) ::
 (nat_lit 353, o353 P) ::
 (nat_lit 354, o354 P) ::
 (nat_lit 355, o355 P) ::
 (nat_lit 357, o357 P) ::
 (nat_lit 358, o358 P) ::
 (nat_lit 360, o360 P) ::
 (nat_lit 361, o361 P) ::
 (nat_lit 362, o362 P) ::
 (nat_lit 364, o364 P) ::
 (nat_lit 365, o365 P) ::
 (nat_lit 367, o367 P) ::
 (nat_lit 368, o368 P) ::
 (nat_lit 369, o369 P) ::
 (nat_lit 371, o371 P) ::
 (nat_lit 372, o372 P) ::
 (nat_lit 374, o374 P) ::
 (nat_lit 375, o375 P) ::
 (nat_lit 376, o376 P) ::
 (nat_lit 378, o378 P) ::
 (nat_lit 379, o379 P) ::
 (nat_lit 381, o381 P) ::
 (nat_lit 382, o382 P) ::
 (nat_lit 383, o383 P) ::
 (nat_lit 385, o385 P) ::
 (nat_lit 386, o386 P) ::
 (nat_lit 388, o388 P) ::
 (nat_lit 389, o389 P) ::
 (nat_lit 390, o390 P) ::
 (nat_lit 392, o392 P) ::
 (nat_lit 393, o393 P) ::
 (nat_lit 395, o395 P) ::
 (nat_lit 396, o396 P) ::
 (nat_lit 397, o397 P) ::
 (nat_lit 399, o399 P) ::
 (nat_lit 400, o400 P) ::
 (nat_lit 402, o402 P) ::
 (nat_lit 403, o403 P) ::
 (nat_lit 404, o404 P) ::
 (nat_lit 405, o405 P) ::
 (nat_lit 406, o406 P) ::
 (nat_lit 407, o407 P) ::
 (nat_lit 408, o408 P) ::
 (nat_lit 411, o411 P) ::
 (nat_lit 413, o413 P) ::
 (nat_lit 414, o414 P) ::
 (nat_lit 416, o416 P) ::
 (nat_lit 417, o417 P) ::
 (nat_lit 418, o418 P) ::
 (nat_lit 420, o420 P) ::
 (nat_lit 421, o421 P) ::
 (nat_lit 423, o423 P) ::
 (nat_lit 424, o424 P) ::
 (nat_lit 425, o425 P) ::
 (nat_lit 427, o427 P) ::
 (nat_lit 428, o428 P) ::
 (nat_lit 430, o430 P) ::
 (nat_lit 431, o431 P) ::
 (nat_lit 432, o432 P) ::
 (nat_lit 434, o434 P) ::
 (nat_lit 435, o435 P) ::
 (nat_lit 437, o437 P) ::
 (nat_lit 438, o438 P) ::
 (nat_lit 439, o439 P) ::
 (nat_lit 441, o441 P) ::
 (nat_lit 442, o442 P) ::
 (nat_lit 444, o444 P) ::
 (nat_lit 445, o445 P) ::
 (nat_lit 446, o446 P) ::
 (nat_lit 448, o448 P) ::
 (nat_lit 449, o449 P) ::
 (nat_lit 451, o451 P) ::
 (nat_lit 452, o452 P) ::
 (nat_lit 453, o453 P) ::
 (nat_lit 455, o455 P) ::
 (nat_lit 456, o456 P) ::
 (nat_lit 458, o458 P) ::
 (nat_lit 459, o459 P) ::
 (nat_lit 460, o460 P) ::
 (nat_lit 463, o463 P) ::
 (nat_lit 464, o464 P) ::
 (nat_lit 465, o465 P) ::
 (nat_lit 467, o467 P) ::
 (nat_lit 468, o468 P) ::
 (nat_lit 470, o470 P) ::
 (nat_lit 471, o471 P) ::
 (nat_lit 472, o472 P) ::
 (nat_lit 474, o474 P) ::
 (nat_lit 475, o475 P) ::
 (nat_lit 477, o477 P) ::
 (nat_lit 478, o478 P) ::
 (nat_lit 479, o479 P) ::
 (nat_lit 481, o481 P) ::
 (nat_lit 482, o482 P) ::
 (nat_lit 484, o484 P) ::
 (nat_lit 485, o485 P) ::
 (nat_lit 486, o486 P) ::
 (nat_lit 488, o488 P) ::
 (nat_lit 489, o489 P) ::
 (nat_lit 491, o491 P) ::
 (nat_lit 492, o492 P) ::
 (nat_lit 493, o493 P) ::
 (nat_lit 495, o495 P) ::
 (nat_lit 496, o496 P) ::
 (nat_lit 498, o498 P) ::
 (nat_lit 499, o499 P) ::
 (nat_lit 500, o500 P) ::
 (nat_lit 503, o503 P) ::
 (nat_lit 504, o504 P) ::
 (nat_lit 505, o505 P) ::
 (nat_lit 507, o507 P) ::
 (nat_lit 508, o508 P) ::
 (nat_lit 510, o510 P) ::
 (nat_lit 511, o511 P) ::
 (nat_lit 512, o512 P) ::
 (nat_lit 514, o514 P) ::
 (nat_lit 515, o515 P) ::
 (nat_lit 517, o517 P) ::
 (nat_lit 518, o518 P) ::
 (nat_lit 519, o519 P) ::
 (nat_lit 521, o521 P) ::
 (nat_lit 522, o522 P) ::
 (nat_lit 524, o524 P) ::
 (nat_lit 525, o525 P) :: []
noncomputable def asK : List Addr := [nat_lit 2, nat_lit 3, nat_lit 15, nat_lit 22, nat_lit 24, nat_lit 25, nat_lit 27, nat_lit 28, nat_lit 29, nat_lit 30, nat_lit 31, nat_lit 32, nat_lit 35, nat_lit 42, nat_lit 43, nat_lit 44, nat_lit 47, nat_lit 54, nat_lit 56, nat_lit 57, nat_lit 59, nat_lit 60, nat_lit 61, nat_lit 62, nat_lit 63, nat_lit 66, nat_lit 67, nat_lit 69, nat_lit 70, nat_lit 72, nat_lit 73, nat_lit 74, nat_lit 75, nat_lit 77, nat_lit 78, nat_lit 80, nat_lit 81, nat_lit 82, nat_lit 84, nat_lit 85, nat_lit 87, nat_lit 88, nat_lit 89, nat_lit 91, nat_lit 92, nat_lit 94, nat_lit 95, nat_lit 96, nat_lit 98, nat_lit 99, nat_lit 101, nat_lit 102, nat_lit 103, nat_lit 105, nat_lit 106, nat_lit 108, nat_lit 109, nat_lit 110, nat_lit 112, nat_lit 113, nat_lit 115, nat_lit 116, nat_lit 124, nat_lit 126, nat_lit 127, nat_lit 129, nat_lit 130, nat_lit 131, nat_lit 133, nat_lit 134, nat_lit 136, nat_lit 137, nat_lit 138, nat_lit 140, nat_lit 141, nat_lit 143, nat_lit 144, nat_lit 145, nat_lit 147, nat_lit 148, nat_lit 150, nat_lit 151, nat_lit 152, nat_lit 153, nat_lit 154, nat_lit 155, nat_lit 156, nat_lit 159, nat_lit 161, nat_lit 162, nat_lit 164, nat_lit 165, nat_lit 166, nat_lit 168, nat_lit 169, nat_lit 171, nat_lit 172, nat_lit 173, nat_lit 175, nat_lit 176, nat_lit 178, nat_lit 179, nat_lit 187, nat_lit 189, nat_lit 190, nat_lit 192, nat_lit 193, nat_lit 194, nat_lit 196, nat_lit 197, nat_lit 199, nat_lit 200, nat_lit 201, nat_lit 203, nat_lit 204, nat_lit 206, nat_lit 207, nat_lit 208, nat_lit 210, nat_lit 211, nat_lit 213, nat_lit 214, nat_lit 215, nat_lit 217, nat_lit 218, nat_lit 220, nat_lit 221, nat_lit 222, nat_lit 224, nat_lit 225, nat_lit 227, nat_lit 228, nat_lit 229, nat_lit 231, nat_lit 232, nat_lit 234, nat_lit 235, nat_lit 236, nat_lit 238, nat_lit 239, nat_lit 241, nat_lit 242, nat_lit 243, nat_lit 245, nat_lit 246, nat_lit 248, nat_lit 249, nat_lit 250, nat_lit 252, nat_lit 253, nat_lit 255, nat_lit 256, nat_lit 257, nat_lit 259, nat_lit 260, nat_lit 262, nat_lit 263, nat_lit 264, nat_lit 266, nat_lit 267, nat_lit 269, nat_lit 270, nat_lit 271, nat_lit 272, nat_lit 273, nat_lit 274, nat_lit 275, nat_lit 278, nat_lit 280, nat_lit 281, nat_lit 283, nat_lit 284, nat_lit 285, nat_lit 287, nat_lit 288, nat_lit 290, nat_lit 291, nat_lit 292, nat_lit 294, nat_lit 295, nat_lit 297, nat_lit 298, nat_lit 299, nat_lit 301, nat_lit 302, nat_lit 304, nat_lit 305, nat_lit 306, nat_lit 308, nat_lit 309, nat_lit 311, nat_lit 312, nat_lit 313, nat_lit 315, nat_lit 316, nat_lit 318, nat_lit 319, nat_lit 320, nat_lit 322, nat_lit 323, nat_lit 325, nat_lit 326, nat_lit 327, nat_lit 329, nat_lit 330, nat_lit 332, nat_lit 333, nat_lit 341, nat_lit 343, nat_lit 344, nat_lit 346, nat_lit 347, nat_lit 348, nat_lit 350, nat_lit 351, nat_lit 353, nat_lit 354, nat_lit 355, nat_lit 357, nat_lit 358, nat_lit 360, nat_lit 361, nat_lit 362, nat_lit 364, nat_lit 365, nat_lit 367, nat_lit 368, nat_lit 369, nat_lit 371, nat_lit 372, nat_lit 374, nat_lit 375, nat_lit 376, nat_lit 378, nat_lit 379, nat_lit 381, nat_lit 382, nat_lit 383, nat_lit 385, nat_lit 386, nat_lit 388, nat_lit 389, nat_lit 390, nat_lit 392, nat_lit 393, nat_lit 395, nat_lit 396, nat_lit 397, nat_lit 399, nat_lit 400, nat_lit 402, nat_lit 403, nat_lit 404, nat_lit 405, nat_lit 406, nat_lit 407, nat_lit 408, nat_lit 411, nat_lit 413, nat_lit 414, nat_lit 416, nat_lit 417, nat_lit 418, nat_lit 420, nat_lit 421, nat_lit 423, nat_lit 424, nat_lit 425, nat_lit 427, nat_lit 428, nat_lit 430, nat_lit 431, nat_lit 432, nat_lit 434, nat_lit 435, nat_lit 437, nat_lit 438, nat_lit 439, nat_lit 441, nat_lit 442, nat_lit 444, nat_lit 445, nat_lit 446, nat_lit 448, nat_lit 449, nat_lit 451, nat_lit 452, nat_lit 453, nat_lit 455, nat_lit 456, nat_lit 458, nat_lit 459, nat_lit 460, nat_lit 463, nat_lit 464, nat_lit 465, nat_lit 467, nat_lit 468, nat_lit 470, nat_lit 471, nat_lit 472, nat_lit 474, nat_lit 475, nat_lit 477, nat_lit 478, nat_lit 479, nat_lit 481, nat_lit 482, nat_lit 484, nat_lit 485, nat_lit 486, nat_lit 488, nat_lit 489, nat_lit 491, nat_lit 492, nat_lit 493, nat_lit 495, nat_lit 496, nat_lit 498, nat_lit 499, nat_lit 500, nat_lit 503, nat_lit 504, nat_lit 505, nat_lit 507, nat_lit 508, nat_lit 510, nat_lit 511, nat_lit 512, nat_lit 514, nat_lit 515, nat_lit 517, nat_lit 518, nat_lit 519, nat_lit 521, nat_lit 522, nat_lit 524, nat_lit 525]
noncomputable def qv : Program := { pw with main := { pw.main with body := [stAt 52] } }
noncomputable def looseV : List Str := [Str.ofString "MillError", Str.ofString "NumberFault", Str.ofString "PathFault", Str.ofString "ZERO", Str.ofString "DIGITS_exact", Str.ofString "MOST_EXPONENT", Str.ofString "common_divisor", Str.ofString "fraction", Str.ofString "plus", Str.ofString "minus", Str.ofString "negated", Str.ofString "sign_of", Str.ofString "compare", Str.ofString "NumberText", Str.ofString "whole_of", Str.ofString "read_exponent", Str.ofString "read_decimal", Str.ofString "BLANKS", Str.ofString "DIGITS_path_words", Str.ofString "LETTERS", Str.ofString "PathScanner", Str.ofString "many_of", Str.ofString "letter_behind", Str.ofString "read_group", Str.ofString "goes_on", Str.ofString "read_into", Str.ofString "read_kept", Str.ofString "mirrored", Str.ofString "size_of", Str.ofString "Pen", Str.ofString "line_end", Str.ofString "draw", Str.ofString "plain_segments", Str.ofString "fault_kept", Str.ofString "_law_pool", Str.ofString "_law_take", Str.ofString "_law_one", Str.ofString "_law_group", Str.ofString "_law_pen", Str.ofString "_law_spot", Str.ofString "_law_put", Str.ofString "_law_close", Str.ofString "_law_draw", Str.ofString "_law_command", Str.ofString "_law_wrong", Str.ofString "_law_told"]
abbrev rwL : OpenLaw := PySem.Challenge.rw_on0248_01
noncomputable abbrev hookK : Hook := kHook heapK asK (fun _ => by kernel_rfl)
noncomputable abbrev xtL : Shared → Bool := fun s => xlAt qv [] s && recOk (RowW.records rwL.row.toRowW) s
noncomputable def dLaw : DefRec := match stAt 52 with
 | .FunctionDef n a b _ _ _ sc _ _ pos => ⟨n, a, b, sc, pos⟩
 | _ => ⟨Str.ofString "", default, [], default, ⟨0, 0, 0, 0⟩⟩
theorem openH : ∀ w : World, (fencedOpening treeTable pw w 7000).map (fun s => (s.heap, s.gens, s.drawn, s.toks)) = some (boot_heap w.params, Array.mk [], boot_drawn, boot_toks) :=
 boot_open (by kernel_rfl) (by decide) (fun s => by kernel_rfl)
theorem sizeH (w : World) : ((boot_heap w.params).isNs mainGlobals && (#[] : Array GenState).size == 0, (boot_heap w.params).objs.size, (boot_heap w.params).nsMap mainGlobals "__annotations__") = (true, 11, (some (Value.ref 6))) := by kernel_rfl
theorem lookA (w : World) (os : OsState) : (staticsOk (importedModules pw.main.body) (boot_heap w.params) (hF w.params) && namesBound pw (hF w.params) && gensDone ⟨hF w.params, #[], drawnH, 874, os⟩ && laidKept (boot_heap w.params) (hF w.params)) = true := by kernel_rfl
theorem lookY (w : World) (os : OsState) : hookK.obs ⟨hF w.params, #[], drawnH, 874, os⟩ = hookK.val w := by kernel_rfl
theorem seenH (w : World) (os : OsState) : openSeen qv looseV (importedModules pw.main.body) xtL true ⟨hF w.params, #[], drawnH, 874, os⟩ = openGood qv looseV := by
 rewrite [PySem.W.Fast.te4187177175401517315]; kernel_rfl
theorem leftH : LeftO pw qv looseV xtL hookK.obs hookK.val 7000 :=
 LeftO.of_pieces (H₀ := boot_heap) (H₁ := hF) openH sizeH runAll (by decide) (fun w => funext fun os => by rw [lookA w os, seenH w os, lookY w os])
theorem ok1 : (chainsOk qv && opensWell rwL.row.prog && (frees rwL.row.toRowW && rwL.row.within.isEmpty)) = true := by decide +kernel
theorem def1 : defOf qv rwL.row.name = some (dLaw, []) := by kernel_rfl
theorem def2 : rwL.row.prog.theDef rwL.row.name = some (dLaw.params, dLaw.body, dLaw.scope) := by kernel_rfl
theorem def3 : kwWritten? dLaw.params.kwonlyargs dLaw.params.kw_defaults = some [] := by kernel_rfl
theorem def4 : (!rwL.row.writes || rwL.row.records.isEmpty) = true := by kernel_rfl
theorem bare1 : rwL.row.prog.bare := ⟨by kernel_rfl, by kernel_rfl, by kernel_rfl, by kernel_rfl, by kernel_rfl, by decide +kernel⟩
theorem prom1 : rwL.row.toRowW.promised := by w_witness2
theorem saidL : rwL.wellSaid = true := by decide +kernel
theorem hdx (walk : WalkO qv looseV (XL qv []) hookK.says rwL.row.toRowW dLaw [] fun f vs => PySem.call f vs) : rwL.Holds :=
 holds_law saidL fun said => holds_open leftH hookK.of hookK.keeps (fun s e => xl_of s (Bool.and_eq_true_iff.mp e).1) XL.keeps def1 def2 def3 (fun s e => recFacts_of (Bool.and_eq_true_iff.mp e).2) def4 said ok1 bare1 prom1 walk

end
open PySem PySem.W PyProof.Rows PySem.Calls PySem.Spec PyProof.Rows.TI
local macro_rules | `(tactic| tbr_iter $t) => `(tactic| (
 k_dflt (refine' $t ?ho ?hcd ?hb ?hl ?hd ?h ?c2 ?c3 ?c4 ?c5)
 (case ho => k_is)
 (case hcd => k_is)
 (case hb => first | exact fun _ _ => BindsTo.of_eq rfl | exact fun _ hX => BindsTo.of_defaults rfl (hX _ _ (by k_is)) rfl rfl rfl)
 (case hl => exact rfl)
 (case hd => decide)
 (case c2 => exact rfl)
 (case c3 => exact rfl)
 (case c4 => exact rfl)
 (case c5 => decide)))
local macro_rules | `(tactic| bits_by_make) => `(tactic| first | assumption | with_reducible exact su_rfl | with_reducible exact su_hd | with_reducible exact su_nil | ((with_reducible refine su_app ?_ ?_) <;> bits_by_make) | ((with_reducible refine su_cons ?_ ?_) <;> bits_by_make) | ((with_reducible refine su_l ?_); bits_by_make) | ((with_reducible refine su_r ?_); bits_by_make) | ((with_reducible refine su_t ?_); bits_by_make) | ((with_reducible refine List.mem_append_left _ ?_); bits_by_make) | ((with_reducible refine List.mem_append_right _ ?_); bits_by_make) | ((with_reducible refine su_tl ?_); bits_by_make))
local macro_rules | `(tactic| k_mem) => `(tactic| assumption)
local macro_rules | `(tactic| k_mem) => `(tactic| (refine' List.mem_append_left _ ?_; k_mem))
local macro_rules | `(tactic| k_all) => `(tactic| assumption)
section --B0
theorem warm (w : World) (h : Heap) : (heapK w.params).In h → PySem.Challenge.rw_on0248_01.prog = PySem.Challenge.rw_on0248_01.prog := by
 k_fill
 intro _
 rfl
noncomputable abbrev MD (w : World) : Model := model PySem.Challenge.rw_on0248_01.prog w
noncomputable abbrev Led := List (Addr × Obj)
noncomputable abbrev At (fr : Option (List Env)) (gd : Option (List Code)) (dp un : Nat) : Around := { handled := none, depth := dp, frames := fr, guards := gd, units := un }

noncomputable def noDict (p : Addr × Obj) : Prop := ∀ es n, p.2.data ≠ .dict es n
noncomputable def Kin (pre D : Led) (p : Addr × Obj) : Prop := p.1 ∈ pre.map (·.1) ∨ noDict p ∨ ∀ q ∈ D, q.1 < p.1

noncomputable def Out (h₀ : Heap) (L : Addr) (s₀ : Shared) (pre D : Led) (Post : Value → Led → Prop) (v : Value) (s' : Shared) : Prop :=
 ∃ h' tk m' nx, s' = { s₀ with heap := h', toks := tk } ∧ Fr h₀ L h' m' ∧ News h₀ L h' (nx ++ D) ∧ Post v nx ∧ ∀ p ∈ nx, Kin pre D p

theorem Out.mk {h₀ : Heap} {L : Addr} {s₀ : Shared} {pre D : Led} {Post : Value → Led → Prop} {v : Value} {h' : Heap} {tk : Nat} {m'} {news' : Led} (nx : Led) (F : Fr h₀ L h' m') (N : News h₀ L h' news')
  (hs : ∀ p ∈ nx ++ D, p ∈ news') (hp : Post v nx) (hk : ∀ p ∈ nx, Kin pre D p) : Out h₀ L s₀ pre D Post v { s₀ with heap := h', toks := tk } :=
 ⟨h', tk, m', nx, rfl, F, fun p hp => N p (hs p hp), hp, hk⟩

noncomputable def Fn (w : World) (f : Addr) (vs : List Value) (dep uni : Nat) (muts : List Addr) (pre : Led) (Post : Value → Led → Prop) : Prop :=
 ∀ (p : Program) (loose : List Str) (mean : ExcName → Option Value) (mg mb : Str → Option Value) (fr : Option (List Env)) (gd : Option (List Code)) (dp un : Nat) (h₀ : Heap) (L : Addr) (m : Str → Option Value) (s : Shared) (D : Led) (R : Result → Shared → Prop),
  Fr h₀ L s.heap m → (heapK w.params).In h₀ → Top p loose mean mg mb h₀ → News h₀ L s.heap (pre ++ D) → (∀ q ∈ D, q.1 ∉ muts) → dp + dep < recursionLimit → un + uni < cLine →
  (∀ r h' tk' nx, Post r nx → Fr h₀ L h' m → News h₀ L h' (nx ++ D) → (∀ p ∈ nx, Kin pre D p) → R (.ok (.ret r)) { s with heap := h', toks := tk' }) →
  codeAny (MD w) (At fr gd dp un) (.call (.ref f) ⟨vs, []⟩) R s

noncomputable def FnBody (w : World) (f : Addr) (qual : Str) (scope : Scope) (body : List Stmt) (cdv : Value) (binds : List (Str × Value)) (dep uni : Nat) (muts : List Addr) (pre : Led) (Post : Value → Led → Prop) : Prop :=
 ∀ (p : Program) (loose : List Str) (mean : ExcName → Option Value) (mg mb : Str → Option Value) (fr : Option (List Env)) (gd : Option (List Code)) (dp un : Nat) (h₀ : Heap) (L : Addr) (h : Heap) (tk : Nat) (s : Shared) (D : Led),
  (heapK w.params).In h₀ → Top p loose mean mg mb h₀ → Fr h₀ L h (fun y => binds.reverse.lookup y) → News h₀ L h (pre ++ D) → (∀ q ∈ D, q.1 ∉ muts) → dp + dep < recursionLimit → un + uni < cLine →
  wpAny (MD w) (At fr gd (dp + 1) (un + 3)) (execs body (envOf qual scope L f cdv))
   (fun fl s' => Out h₀ L s pre D Post (match fl with | .ret v => v | _ => .none) s') (fun _ _ => False) { s with heap := h, toks := tk }

theorem Fn.of {w : World} {f : Addr} {vs : List Value} {dep uni : Nat} {muts : List Addr} {pre : Led} {Post : Value → Led → Prop}
  {name qual : Str} {params : Arguments} {body : List Stmt} {scope : Scope} {dV kV doc pm cdv ct oc : Value} {an od : Option Addr} {osl : Array (Option Value)} (hm : ∀ a ∈ muts, a ∈ pre.map (·.1)) (binds : List (Str × Value))
  (ho : (heapK w.params).lookup f = some ⟨oc, od, .func (fnOf name qual params body scope dV kV doc pm an cdv ct), osl⟩) (hcd : codeIn (heapK w.params) cdv qual = true)
  (hbind : ∀ s : Shared, (heapK w.params).In s.heap → BindsTo s (fnOf name qual params body scope dV kV doc pm an cdv ct) ⟨vs, []⟩ binds) (hloc : (binds.all fun x => decide (scope.names.lookup x.1 = some .local)) = true)
  (hdep : 0 < dep)
  (h : FnBody w f qual scope body cdv binds dep uni muts pre Post)
  (hco : scope.isCoroutine = false) (hgen : scope.isGenerator = false) (hk : scope.kind = .function)
  (hcell : ∀ x ∈ scope.names, x.2 ≠ .cell) : Fn w f vs dep uni muts pre Post := by
 intro p loose mean mg mb fr gd dp un h₀ L m s D R F X T N hD hd hu ret
 have X' := X.keeps F.keep
 refine codeAny_call_def (fd := fnOf name qual params body scope dV kV doc pm an cdv ct) (body := body) (binds := binds) ?_ (X' _ _ ho) rfl (T.nolimit.keeps F.keep) (codeRec_of X' hcd) rfl (hbind _ X') hcell (locs hloc) (fun h₁ hns hkeep => ?_) hco hgen hk
 ·show dp < recursionLimit; omega
 obtain ⟨oL, es, ep, hL, hLd, hLk, hLf⟩ := F.ns
 have hlt : ∀ q ∈ pre ++ D, q.1 ≠ s.heap.objs.size := fun q hq => Nat.ne_of_lt (Heap.lt_size (N q hq).1)
 have F' : Fr h₀ s.heap.objs.size h₁ (fun y => binds.reverse.lookup y) := ⟨hns, fun b o e => hkeep b o (F.keep b o e), Nat.le_trans F.above (Nat.le_of_lt (Heap.lt_size hL))⟩
 have N' : News h₀ s.heap.objs.size h₁ (pre ++ (D ++ [(L, oL)])) := by
  intro q hq
  rw [← List.append_assoc] at hq
  rcases List.mem_append.mp hq with hq | hq
  ·exact ⟨hkeep _ _ (N q hq).1, hlt q hq, (N q hq).2.2⟩
  ·rw [List.mem_singleton.mp hq]
   exact ⟨hkeep _ _ hL, Nat.ne_of_lt (Heap.lt_size hL), Heap.get?_none_of_le F.above⟩
 have hLm : L ∉ muts := fun q => by
  obtain ⟨e, he, hh⟩ := List.mem_map.mp (hm L q)
  exact (N e (List.mem_append_left _ he)).2.1 hh
 have B := h p loose mean mg mb (fr.map (envOf qual scope s.heap.objs.size f cdv :: ·)) gd dp un h₀ s.heap.objs.size h₁ (s.toks + binds.length) s (D ++ [(L, oL)]) X T F' N'
  (fun q hq => (List.mem_append.mp hq).elim (hD q) fun hq => by rw [List.mem_singleton.mp hq]; exact hLm) hd hu
 refine wpAny_mono B (fun fl s' o => ?_) (fun _ _ x => x.elim)
 obtain ⟨h', tk, m', nx, rfl, F₂, N₂, hp, hkin⟩ := o
 have hL' : h'.get? L = some oL := (N₂ (L, oL) (by simp)).1
 have hkin' : ∀ q ∈ nx, Kin pre D q := fun q hq => (hkin q hq).imp id (Or.imp id fun x r hr => x r (List.mem_append_left _ hr))
 refine ret _ h' tk nx hp ⟨⟨oL, es, ep, hL', hLd, hLk, hLf⟩, F₂.keep, F.above⟩ (fun q hq => ?_) hkin'
 have Nq := N₂ q (by rw [← List.append_assoc]; exact List.mem_append_left _ hq)
 refine ⟨Nq.1, fun e => ?_, Nq.2.2⟩
 rcases List.mem_append.mp hq with hq | hq
 ·rcases hkin q hq with a | a | a
  ·obtain ⟨r, hr, hh⟩ := List.mem_map.mp a
   exact (N r (List.mem_append_left _ hr)).2.1 (hh.trans e)
  ·have := Nq.1
   rw [e, hL'] at this
   have := Option.some.inj this
   exact a es ep (by rw [← this]; exact hLd)
  ·have := a (L, oL) (by simp)
   rw [e] at this
   exact Nat.lt_irrefl _ this
 ·exact (N q (List.mem_append_right _ hq)).2.1 e

theorem Fn.use {w : World} {f : Addr} {vs : List Value} {dep uni : Nat} {muts : List Addr} {pre : Led} {Post : Value → Led → Prop} (c : Fn w f vs dep uni muts pre Post)
  {p : Program} {loose : List Str} {mean : ExcName → Option Value} {mg mb : Str → Option Value} {fr : Option (List Env)} {gd : Option (List Code)} {dp un : Nat} {h₀ : Heap} {L : Addr} {m : Str → Option Value} {s : Shared} {Q E : Value → Shared → Prop}
  (D : Led) (F : Fr h₀ L s.heap m) (X : (heapK w.params).In h₀) (T : Top p loose mean mg mb h₀) (N : News h₀ L s.heap (pre ++ D)) (hD : ∀ q ∈ D, q.1 ∉ muts) (hd : dp + dep < recursionLimit) (hu : un + uni < cLine)
  (ret : ∀ r h' tk' nx, Post r nx → Fr h₀ L h' m → News h₀ L h' (nx ++ D) → (∀ p ∈ nx, Kin pre D p) → Q r { s with heap := h', toks := tk' }) :
  wpAny (MD w) (At fr gd dp un) (call (.ref f) vs) Q E s :=
 wpAny_call (c p loose mean mg mb fr gd dp un h₀ L m s D _ F X T N hD hd hu fun r h' tk' nx a b c d => ret r h' tk' nx a b c d)

inductive Pull (q : Addr × Obj) : Led → Led → Prop
 | head {r} : Pull q (q :: r) r
 | tail {p r r'} : Pull q r r' → Pull q (p :: r) (p :: r')

section
variable {α : Type _} {A B C X Y : List α} {a z : α}
theorem su_app (h1 : ∀ q ∈ A, q ∈ C) (h2 : ∀ q ∈ B, q ∈ C) : ∀ q ∈ A ++ B, q ∈ C := fun q h => (List.mem_append.mp h).elim (h1 q) (h2 q)
theorem su_cons (h1 : a ∈ C) (h2 : ∀ q ∈ B, q ∈ C) : ∀ q ∈ a :: B, q ∈ C := List.forall_mem_cons.mpr ⟨h1, h2⟩
theorem su_nil : ∀ q ∈ ([] : List α), q ∈ C := fun _ h => nomatch h
theorem su_rfl : ∀ q ∈ A, q ∈ A := fun _ h => h
theorem su_l (h : ∀ q ∈ A, q ∈ B) : ∀ q ∈ A, q ∈ B ++ C := fun q hq => List.mem_append_left _ (h q hq)
theorem su_r (h : ∀ q ∈ A, q ∈ C) : ∀ q ∈ A, q ∈ B ++ C := fun q hq => List.mem_append_right _ (h q hq)
theorem su_t (h : ∀ q ∈ A, q ∈ B) : ∀ q ∈ A, q ∈ a :: B := fun q hq => .tail _ (h q hq)
theorem su_hd : a ∈ a :: B := .head _
theorem su_tl (h : z ∈ B) : z ∈ a :: B := .tail _ h
theorem su_at (hz : z ∈ X) (h : ∀ q ∈ X, q ∈ Y) : z ∈ Y := h z hz
end
theorem kin_cons {pre D l : Led} {p : Addr × Obj} (h : Kin pre D p) (r : ∀ q ∈ l, Kin pre D q) : ∀ q ∈ p :: l, Kin pre D q := List.forall_mem_cons.mpr ⟨h, r⟩
theorem kin_I {pre D l : Led} (h : ∀ q ∈ l, q ∈ pre) : ∀ q ∈ l, Kin pre D q := fun q hq => .inl (List.mem_map_of_mem (h q hq))
theorem kin_key {pre D : Led} {a : Addr} {o o' : Obj} (h : (a, o') ∈ pre) : Kin pre D (a, o) := .inl (List.mem_map_of_mem (f := (·.1)) h)

end
section --B1
noncomputable def Exc (h₀ h : Heap) (e dE : Addr) : Prop :=
 h₀.get? e = none ∧ ∃ vs sl, h.get? e = some ⟨.ref 63, some dE, .fields vs, sl⟩ ∧ 1 < vs.size ∧
  (vs[1]? = some .none ∨ ∃ T oT ts, vs[1]? = some (.ref T) ∧ T ≠ e ∧ h₀.get? T = none ∧ h.get? T = some oT ∧ oT.cls = .type "traceback" ∧ oT.data = .fields ts ∧ ts[3]? = some .none)

noncomputable def Stays (h₀ : Heap) (fs : List Addr) (h h' : Heap) : Prop :=
 (∀ b o, h.get? b = some o → b ∉ fs → (((∀ vs, o.data ≠ .fields vs) ∨ (o.cls ≠ .type "traceback" ∧ o.cls ≠ .ref 63)) ∨ (h₀.get? b).isSome = true) → h'.get? b = some o) ∧
 (∀ b o, h.get? b = some o → (∀ vs, o.data ≠ .fields vs) → ∃ sl, h'.get? b = some { o with slots := sl })

theorem newEntry_exc {M : Model} {A : Around} {E : Value → Shared → Prop} {s : Shared} {h₀ : Heap} {env : Env} {outer : List Env} {L e dE : Addr} {vs : Array Value} {sl : Array (Option Value)} {head : Value} {hadNext : Bool} {Q : Unit → Shared → Prop}
  (hfr : A.frames = some (env :: outer)) (hl : s.heap.FunFrames h₀ (env :: outer)) (hf : env.frame = some L)
  (he : s.heap.get? e = some ⟨.ref 63, some dE, .fields vs, sl⟩) (hk : h₀.StaysIn s.heap) (hen : h₀.get? e = none) (hsz : 1 < vs.size)
  (h : ∀ h', Exc h₀ h' e dE → Stays h₀ ((env :: outer).filterMap (·.frame)) s.heap h' → Q () { s with heap := h' }) :
  wpAny M A (do let a ← frameOf env; let pl ← entryPlaceOf L hadNext; let b ← EntryCells.newEntry head a .none (rawInt L) .none pl; setField (.ref e) 1 b) (fun _ s' => wpAny M A (setFlight (.ref e) none) Q E s') E s := by
 have hene : e ∉ (env :: outer).filterMap (·.frame) := fun hm => by
  obtain ⟨_, o, ho, hnf⟩ := hl.mem hm
  rw [he] at ho; injection ho with ho; subst ho; exact hnf vs rfl
 refine wpAny_bind (wpAny_frameOf_fun hfr hl hf fun h₁ hs₁ => ?_)
 refine wpAny_bind (wpAny_entryPlaceOf fun pl hpl => ?_)
 unfold EntryCells.newEntry newFields
 refine wpAny_bind (wpAny_newObj_type ?_ (hpl.sizeOk5 _ _ _ _ _))
 have he₁ : h₁.get? e = some ⟨.ref 63, some dE, .fields vs, sl⟩ := (hs₁.2.1 e hene).trans he
 have he₂ := Heap.get?_push_of_some (h := h₁) { cls := .type "traceback", dict := none, data := .fields ([head, .ref L, .none, rawInt L, .none] ++ (if pl.isEmpty then List.replicate 6 Value.none else pl)).toArray } he₁
 refine wpAny_setField he₂ rfl hsz ?_
 have hTe : h₁.objs.size ≠ e := Nat.ne_of_gt (Heap.lt_size he₁)
 have he₃ := Heap.get?_update_self (Obj.mapFields (·.setIfInBounds 1 (Value.ref h₁.objs.size))) he₂ rfl
 have hT₃ := (Heap.get?_update_other (h₁.push { cls := .type "traceback", dict := none, data := .fields ([head, .ref L, .none, rawInt L, .none] ++ (if pl.isEmpty then List.replicate 6 Value.none else pl)).toArray })
  (Obj.mapFields (·.setIfInBounds 1 (Value.ref h₁.objs.size))) (Ne.symm hTe)).trans (Heap.get?_push_size h₁ rfl)
 unfold setFlight
 refine wpAny_bind (wpAny_field he₃ rfl (x := .ref h₁.objs.size) (by simp [hsz]) ?_)
 rw [if_pos (show (Value.ref h₁.objs.size != Value.none) = true from by simp)]
 refine wpAny_setField hT₃ rfl (by simp only [List.size_toArray, List.length_append, List.length_cons, List.length_nil] <;> omega) (h _ ?_ ?_)
 ·refine ⟨hen, vs.setIfInBounds 1 (Value.ref h₁.objs.size), sl, ?_, by simpa using hsz, .inr ⟨h₁.objs.size, _, _, by simp [hsz], hTe, ?_, Heap.get?_update_self _ hT₃ (Obj.isFreed_of_fields (Obj.data_mapFields rfl _)), Obj.cls_mapFields _ _, Obj.data_mapFields rfl _, by first | (simp; done) | (rcases hpl with rfl | ⟨_, _, _, _, _, _, _, rfl⟩ <;> simp)⟩⟩
  ·rw [Heap.get?_update_other _ _ hTe]; exact he₃
  ·cases q : h₀.get? h₁.objs.size with
   | none => rfl
   | some o =>
    have a := hk _ _ q
    have b := Heap.lt_size a
    rw [hs₁.1] at b
    exact absurd b (Nat.lt_irrefl _)
 ·have keep : ∀ b o, b ≠ e → h₁.get? b = some o →
   (((h₁.push { cls := .type "traceback", dict := none, data := .fields ([head, .ref L, .none, rawInt L, .none] ++ (if pl.isEmpty then List.replicate 6 Value.none else pl)).toArray }).update e (Obj.mapFields (·.setIfInBounds 1 (Value.ref h₁.objs.size)))).update h₁.objs.size
    (Obj.mapFields (·.setIfInBounds 3 ((none : Option Addr).elim Value.none fun f => rawInt f)))).get? b = some o := fun b o hbe hb => by
   have hbT : h₁.objs.size ≠ b := Nat.ne_of_gt (Heap.lt_size hb)
   rw [Heap.get?_update_other _ _ hbT, Heap.get?_update_other _ _ (Ne.symm hbe)]
   exact Heap.get?_push_of_some _ hb
  refine ⟨fun b o hb hbf hnf => keep b o (fun q => ?_) ((hs₁.2.1 b hbf).trans hb), fun b o hb hnf => ?_⟩
  ·subst q
   rcases hnf with hnf | hnf
   ·rw [he] at hb; injection hb with hb; subst hb; exact hnf.elim (fun z => z vs rfl) fun z => z.2 rfl
   ·rw [hen] at hnf; cases hnf
  ·obtain ⟨sl', hs'⟩ := hs₁.2.2 b o hb
   refine ⟨sl', keep b _ (fun q => ?_) hs'⟩
   subst q
   rw [he] at hb; injection hb with hb; subst hb; exact hnf vs rfl

theorem leave_exc {M : Model} {A : Around} {E : Value → Shared → Prop} {s : Shared} {h₀ : Heap} {env : Env} {outer : List Env} {L e dE : Addr} {Q : Unit → Shared → Prop}
  (hfr : A.frames = some (env :: outer)) (hl : s.heap.FunFrames h₀ (env :: outer)) (hf : env.frame = some L) (hx : Exc h₀ s.heap e dE) (hk : h₀.StaysIn s.heap)
  (h : ∀ h', Exc h₀ h' e dE → Stays h₀ ((env :: outer).filterMap (·.frame)) s.heap h' → Q () { s with heap := h' }) :
  wpAny M A (leaving env (.ref e)) Q E s := by
 obtain ⟨hen, vs, sl, he, hsz, h1 | ⟨T, oT, ts, h1, hTe, hnT, hT, hcT, hdT, h3⟩⟩ := hx
 ·unfold leaving noteFrame
  simp only [hf]
  refine wpAny_bind (wpAny_bind (wpAny_field he rfl h1 ?_))
  rw [if_neg (by decide)]
  exact newEntry_exc hfr hl hf he hk hen hsz h
 ·unfold leaving noteFrame
  simp only [hf]
  refine wpAny_bind (wpAny_bind (wpAny_field he rfl h1 ?_))
  rw [if_pos (show (Value.ref T != Value.none) = true from by simp)]
  refine wpAny_bind (wpAny_field hT hdT h3 ?_)
  rw [if_neg (show ¬ ((Value.none == rawInt L) = true) from by simp [rawInt])]
  refine wpAny_bind (wpAny_setField hT hdT (Array.getElem?_eq_some_iff.mp h3).1 ?_)
  have other : ∀ b, b ≠ T → (s.heap.update T (Obj.mapFields (·.setIfInBounds 3 Value.none))).get? b = s.heap.get? b := fun b hb => Heap.get?_update_other _ _ (Ne.symm hb)
  have noRecord : ∀ b o, s.heap.get? b = some o → (((∀ vs, o.data ≠ .fields vs) ∨ (o.cls ≠ .type "traceback" ∧ o.cls ≠ .ref 63)) ∨ (h₀.get? b).isSome = true) → b ≠ T := fun b o hb hnf q => by
   subst q
   rcases hnf with hnf | hnf
   ·rw [hT] at hb; injection hb with hb; subst hb; exact hnf.elim (fun z => z ts hdT) fun z => z.1 hcT
   ·rw [hnT] at hnf; cases hnf
  have noFields : ∀ b o, s.heap.get? b = some o → (∀ vs, o.data ≠ .fields vs) → b ≠ T := fun b o hb hnf q => by
   subst q
   rw [hT] at hb; injection hb with hb; subst hb; exact hnf ts hdT
  refine newEntry_exc hfr (hl.of_keeps fun b o hb hnf => ⟨o, (other b (noFields b o hb hnf)).trans hb, rfl⟩) hf ((other e (Ne.symm hTe)).trans he)
   (fun b o hbo => (other b (noRecord b o (hk b o hbo) (.inr (by rw [hbo]; rfl)))).trans (hk b o hbo)) hen hsz
   fun h' hx' hs' => h h' hx' ⟨fun b o hb hbf hnf => hs'.1 b o ((other b (noRecord b o hb hnf)).trans hb) hbf hnf, fun b o hb hnf => hs'.2 b o ((other b (noFields b o hb hnf)).trans hb) hnf⟩

noncomputable def NF (q : Addr × Obj) : Prop := (∀ vs, q.2.data ≠ .fields vs) ∨ (q.2.cls ≠ .type "traceback" ∧ q.2.cls ≠ .ref 63)
noncomputable def Safe (frs : Led) (q : Addr × Obj) : Prop := NF q ∧ ∀ r ∈ frs, q.1 ≠ r.1
theorem sameUp_addr : ∀ {a b : Led}, SameUp a b → b.map (·.1) = a.map (·.1)
 | [], [], _ => rfl
 | [], _ :: _, h => h.elim
 | _ :: _, [], h => h.elim
 | p :: ps, q :: qs, h => by rw [List.map_cons, List.map_cons, sameUp_addr h.2.2, h.1]
theorem Safe.up {a b : Led} {q : Addr × Obj} (h : Safe a q) (u : SameUp a b) : Safe b q := ⟨h.1, fun r hr e => by
 have : r.1 ∈ b.map (·.1) := List.mem_map_of_mem hr
 rw [sameUp_addr u] at this
 obtain ⟨t, ht, e'⟩ := List.mem_map.mp this
 exact h.2 t ht (e.trans e'.symm)⟩

noncomputable def FnX (w : World) (f : Addr) (vs : List Value) (dep uni : Nat) (muts : List Addr) (pre : Led) (Post : Value → Led → Prop) (PostX : Addr → Led → Prop) : Prop :=
 ∀ (p : Program) (loose : List Str) (mean : ExcName → Option Value) (mg mb : Str → Option Value) (envc : Env) (outer : List Env) (gd : Option (List Code)) (dp un : Nat) (h₀ : Heap) (L : Addr) (m : Str → Option Value) (s : Shared) (Dn frs : Led) (R : Result → Shared → Prop),
  Fr h₀ L s.heap m → (heapK w.params).In h₀ → Top p loose mean mg mb h₀ → News h₀ L s.heap (pre ++ (Dn ++ frs)) → envc.frame = some L → envc.scope.kind ≠ .module → Frs outer frs → (∀ q ∈ Dn ++ frs, q.1 ∉ muts) → (∀ q ∈ pre ++ Dn, Safe frs q) → dp + dep < recursionLimit → un + uni < cLine →
  (∀ r h' tk' nx, Post r nx → Fr h₀ L h' m → News h₀ L h' (nx ++ (Dn ++ frs)) → (∀ q ∈ nx, Kin pre (Dn ++ frs) q) → R (.ok (.ret r)) { s with heap := h', toks := tk' }) →
  (∀ e dE h' tk' nx frs', PostX dE nx → Exc h₀ h' e dE → SameUp frs frs' → Fr h₀ L h' m → News h₀ L h' (nx ++ (Dn ++ frs')) → (∀ q ∈ nx, Safe frs' q) → R (.error (.ref e)) { s with heap := h', toks := tk' }) →
  codeAny (MD w) (At (some (envc :: outer)) gd dp un) (.call (.ref f) ⟨vs, []⟩) R s

noncomputable def FnXBody (w : World) (f : Addr) (qual : Str) (scope : Scope) (body : List Stmt) (cdv : Value) (binds : List (Str × Value)) (dep uni : Nat) (muts : List Addr) (pre : Led) (Post : Value → Led → Prop) (PostX : Addr → Led → Prop) : Prop :=
 ∀ (p : Program) (loose : List Str) (mean : ExcName → Option Value) (mg mb : Str → Option Value) (l : List Env) (gd : Option (List Code)) (dp un : Nat) (h₀ : Heap) (L : Addr) (h : Heap) (tk : Nat) (s : Shared) (Dn frs : Led) (E : Value → Shared → Prop),
  (heapK w.params).In h₀ → Top p loose mean mg mb h₀ → Fr h₀ L h (fun y => binds.reverse.lookup y) → News h₀ L h (pre ++ (Dn ++ frs)) → Frs l frs → (∀ q ∈ Dn ++ frs, q.1 ∉ muts) → (∀ q ∈ pre ++ Dn, Safe frs q) → dp + dep < recursionLimit → un + uni < cLine →
  PassesOwn (MD w) (At (some (envOf qual scope L f cdv :: l)) gd (dp + 1) (un + 3)) (envOf qual scope L f cdv) E →
  (∀ e dE h' tk' m' nx frs', PostX dE nx → Exc h₀ h' e dE → SameUp frs frs' → Fr h₀ L h' m' → News h₀ L h' (nx ++ (Dn ++ frs')) → (∀ q ∈ nx, Safe frs' q) → E (.ref e) { s with heap := h', toks := tk' }) →
  wpAny (MD w) (At (some (envOf qual scope L f cdv :: l)) gd (dp + 1) (un + 3)) (execs body (envOf qual scope L f cdv))
   (fun fl s' => Out h₀ L s pre (Dn ++ frs) Post (match fl with | .ret v => v | _ => .none) s') E { s with heap := h, toks := tk }

theorem FnX.of {w : World} {f : Addr} {vs : List Value} {dep uni : Nat} {muts : List Addr} {pre : Led} {Post : Value → Led → Prop} {PostX : Addr → Led → Prop}
  {name qual : Str} {params : Arguments} {body : List Stmt} {scope : Scope} {dV kV doc pm cdv ct oc : Value} {an od : Option Addr} {osl : Array (Option Value)} (hm : ∀ a ∈ muts, a ∈ pre.map (·.1)) (binds : List (Str × Value))
  (ho : (heapK w.params).lookup f = some ⟨oc, od, .func (fnOf name qual params body scope dV kV doc pm an cdv ct), osl⟩) (hcd : codeIn (heapK w.params) cdv qual = true)
  (hbind : ∀ s : Shared, (heapK w.params).In s.heap → BindsTo s (fnOf name qual params body scope dV kV doc pm an cdv ct) ⟨vs, []⟩ binds) (hloc : (binds.all fun x => decide (scope.names.lookup x.1 = some .local)) = true)
  (hdep : 0 < dep)
  (h : FnXBody w f qual scope body cdv binds dep uni muts pre Post PostX)
  (hco : scope.isCoroutine = false) (hgen : scope.isGenerator = false) (hk : scope.kind = .function)
  (hcell : ∀ x ∈ scope.names, x.2 ≠ .cell) : FnX w f vs dep uni muts pre Post PostX := by
 intro p loose mean mg mb envc outer gd dp un h₀ L m s Dn frs R F X T N hef hek Fs hD hS hd hu ret rai
 have X' := X.keeps F.keep
 refine codeAny_call_def (fd := fnOf name qual params body scope dV kV doc pm an cdv ct) (body := body) (binds := binds) ?_ (X' _ _ ho) rfl (T.nolimit.keeps F.keep) (codeRec_of X' hcd) rfl (hbind _ X') hcell (locs hloc) (fun h₁ hns hkeep => ?_) hco hgen hk
 ·show dp < recursionLimit; omega
 obtain ⟨oL, es, ep, hL, hLd, hLk, hLf⟩ := F.ns
 have hlt : ∀ q ∈ pre ++ (Dn ++ frs), q.1 ≠ s.heap.objs.size := fun q hq => Nat.ne_of_lt (Heap.lt_size (N q hq).1)
 have F' : Fr h₀ s.heap.objs.size h₁ (fun y => binds.reverse.lookup y) := ⟨hns, fun b o e => hkeep b o (F.keep b o e), Nat.le_trans F.above (Nat.le_of_lt (Heap.lt_size hL))⟩
 have hsplit : ∀ {nx q : Led} {x : Addr × Obj}, x ∈ nx ++ (Dn ++ ((L, oL) :: q)) → x = (L, oL) ∨ x ∈ nx ++ (Dn ++ q) := fun hq => by
  simp only [List.mem_append, List.mem_cons] at hq ⊢
  rcases hq with a | a | a | a
  ·exact .inr (.inl a)
  ·exact .inr (.inr (.inl a))
  ·exact .inl a
  ·exact .inr (.inr (.inr a))
 have N' : News h₀ s.heap.objs.size h₁ (pre ++ (Dn ++ ((L, oL) :: frs))) := by
  intro q hq
  rcases hsplit hq with rfl | hq
  ·exact ⟨hkeep _ _ hL, Nat.ne_of_lt (Heap.lt_size hL), Heap.get?_none_of_le F.above⟩
  ·exact ⟨hkeep _ _ (N q hq).1, hlt q hq, (N q hq).2.2⟩
 have hLm : L ∉ muts := fun q => by
  obtain ⟨e, he, hh⟩ := List.mem_map.mp (hm L q)
  exact (N e (List.mem_append_left _ he)).2.1 hh
 have Fs' : Frs (envc :: outer) ((L, oL) :: frs) := ⟨hek, hef, ⟨es, ep, hLd⟩, Fs⟩
 refine wpAny_mono (h p loose mean mg mb (envc :: outer) gd dp un h₀ s.heap.objs.size h₁ (s.toks + binds.length) s Dn ((L, oL) :: frs)
  (fun e s' => wpAny (MD w) (At (some (envOf qual scope s.heap.objs.size f cdv :: envc :: outer)) gd (dp + 1) (un + 3)) (leaving (envOf qual scope s.heap.objs.size f cdv) e) (fun _ s'' => R (.error e) s'') (fun e' s'' => R (.error e') s'') s') X T F' N' Fs'
  (fun q hq => ?_) (fun q hq => ⟨(hS q hq).1, fun r hr => ?_⟩) hd hu PassesOwn.leaving ?_) (fun fl s' o => ?_) (fun _ _ x => x)
 ·rcases hsplit (nx := []) hq with rfl | hq
  ·exact hLm
  ·exact hD q hq
 ·rcases List.mem_cons.mp hr with rfl | hr
  ·refine (N q ?_).2.1
   rcases List.mem_append.mp hq with hq | hq
   ·exact List.mem_append_left _ hq
   ·exact List.mem_append_right _ (List.mem_append_left _ hq)
  ·exact (hS q hq).2 r hr
 ·intro e dE h₂ tk₂ m₂ nx frs₂ hpx hx hup F₂ N₂ hs
  have hup₀ := hup
  cases frs₂ with
  | nil => exact hup.elim
  | cons r₂ frs₂ =>
  obtain ⟨L₂, o₂⟩ := r₂
  obtain ⟨u1, ⟨sl₂, u2⟩, u3⟩ := hup
  dsimp only at u1 u2
  have u1 := u1.symm
  subst u1 u2
  have hfra : ∀ q ∈ ((L, { oL with slots := sl₂ }) :: frs₂ : Led), h₂.get? q.1 = some q.2 ∧ h₀.get? q.1 = none := fun q hq => by
   have := N₂ q (List.mem_append_right _ (List.mem_append_right _ hq))
   exact ⟨this.1, this.2.2⟩
  obtain ⟨oM, esM, epM, hM, hMd, _⟩ := F₂.ns
  have hFF : h₂.FunFrames h₀ (envOf qual scope s.heap.objs.size f cdv :: envc :: outer) := by
   refine Frs.fun (a := (s.heap.objs.size, oM) :: ((L, { oL with slots := sl₂ }) :: frs₂)) ⟨by show scope.kind ≠ .module; rw [hk]; decide, rfl, ⟨esM, epM, hMd⟩, Frs.up Fs' hup₀⟩ (List.forall_mem_cons.mpr ⟨⟨hM, Heap.get?_none_of_le F₂.above⟩, hfra⟩)
  have haddr : (envOf qual scope s.heap.objs.size f cdv :: envc :: outer).filterMap (·.frame) = s.heap.objs.size :: L :: frs₂.map (·.1) := by
   have := Frs.addrs (l := envOf qual scope s.heap.objs.size f cdv :: envc :: outer) (a := (s.heap.objs.size, oM) :: ((L, { oL with slots := sl₂ }) :: frs₂)) ⟨by show scope.kind ≠ .module; rw [hk]; decide, rfl, ⟨esM, epM, hMd⟩, Frs.up Fs' hup₀⟩
   simpa using this
  refine leave_exc (env := envOf qual scope s.heap.objs.size f cdv) (outer := envc :: outer) rfl hFF rfl hx F₂.keep fun h₃ hx₃ hst => ?_
  rw [haddr] at hst
  have hdict : ∀ q ∈ frs₂, ∀ vs, q.2.data ≠ .fields vs := fun q hq vs e => by
   obtain ⟨es', ep', hd'⟩ := Frs.dict (Frs.up Fs u3) q hq
   rw [hd'] at e; cases e
  obtain ⟨slL, hL₃⟩ := hst.2 L _ (hfra _ (.head _)).1 fun vs e => by
   have e' : oL.data = .fields vs := e
   rw [hLd] at e'; cases e'
  obtain ⟨frs₃, u4, hg₃⟩ := sameUp_of (frs := frs₂) (h' := h₃) fun q hq => hst.2 _ _ (hfra q (.tail _ hq)).1 (hdict q hq)
  have hk₃ : h₀.StaysIn h₃ := fun b o hb => hst.1 b o (F₂.keep b o hb) (fun hm => by
   rcases List.mem_cons.mp hm with rfl | hm
   ·rw [Heap.get?_none_of_le F₂.above] at hb; cases hb
   ·rcases List.mem_cons.mp hm with rfl | hm
    ·rw [Heap.get?_none_of_le F.above] at hb; cases hb
    ·obtain ⟨q, hq, rfl⟩ := List.mem_map.mp hm
     rw [(hfra q (.tail _ hq)).2] at hb; cases hb) (.inr (by rw [hb]; rfl))
  have hstay : ∀ q : Addr × Obj, q ∈ nx ++ Dn → Safe frs₂ q → q.1 ≠ L → h₃.get? q.1 = some q.2 := fun q hq hsq hqL => by
   have Nq := N₂ q (by
    rcases List.mem_append.mp hq with hq | hq
    ·exact List.mem_append_left _ hq
    ·exact List.mem_append_right _ (List.mem_append_left _ hq))
   refine hst.1 _ _ Nq.1 (fun hm => ?_) (.inl hsq.1)
   rcases List.mem_cons.mp hm with hm | hm
   ·exact Nq.2.1 hm
   ·rcases List.mem_cons.mp hm with hm | hm
    ·exact hqL hm
    ·obtain ⟨r, hr, e⟩ := List.mem_map.mp hm
     exact hsq.2 r hr e.symm
  have hsafe : ∀ q ∈ nx, Safe frs₂ q ∧ q.1 ≠ L := fun q hq => ⟨⟨(hs q hq).1, fun r hr => (hs q hq).2 r (.tail _ hr)⟩, (hs q hq).2 _ (.head _)⟩
  refine rai e dE h₃ tk₂ nx frs₃ hpx hx₃ (SameUp.trans u3 u4) ⟨⟨_, es, ep, hL₃, hLd, hLk, hLf⟩, hk₃, F.above⟩ (fun q hq => ?_) (fun q hq => (hsafe q hq).1.up u4)
  ·rcases List.mem_append.mp hq with hq | hq
   ·exact ⟨hstay q (List.mem_append_left _ hq) (hsafe q hq).1 (hsafe q hq).2, (hsafe q hq).2, (N₂ q (List.mem_append_left _ hq)).2.2⟩
   ·rcases List.mem_append.mp hq with hq | hq
    ·have a := N q (List.mem_append_right _ (List.mem_append_left _ hq))
     exact ⟨hstay q (List.mem_append_right _ hq) ((hS q (List.mem_append_right _ hq)).up u3) a.2.1, a.2⟩
    ·have h1 := hg₃ q hq
     have : q.1 ∈ frs₃.map (·.1) := List.mem_map_of_mem hq
     rw [sameUp_addr u4, sameUp_addr u3] at this
     obtain ⟨r, hr, e'⟩ := List.mem_map.mp this
     have a := N r (List.mem_append_right _ (List.mem_append_right _ hr))
     rw [e'] at a
     exact ⟨h1, a.2⟩
 ·obtain ⟨h', tk, m', nx, rfl, F₂, N₂, hp, hkin⟩ := o
  have hL' : h'.get? L = some oL := (N₂ (L, oL) (by simp)).1
  refine ret _ h' tk nx hp ⟨⟨oL, es, ep, hL', hLd, hLk, hLf⟩, F₂.keep, F.above⟩ (fun q hq => ?_) (fun q hq => (hkin q hq).imp id (Or.imp id fun x r hr => x r ?_))
  ·have Nq := N₂ q (by
    simp only [List.mem_append, List.mem_cons] at hq ⊢
    rcases hq with a | a | a
    ·exact .inl a
    ·exact .inr (.inl a)
    ·exact .inr (.inr (.inr a)))
   refine ⟨Nq.1, fun e => ?_, Nq.2.2⟩
   rcases List.mem_append.mp hq with hq | hq
   ·rcases hkin q hq with a | a | a
    ·obtain ⟨r, hr, hh⟩ := List.mem_map.mp a
     exact (N r (List.mem_append_left _ hr)).2.1 (hh.trans e)
    ·have := Nq.1
     rw [e, hL'] at this
     have := Option.some.inj this
     exact a es ep (by rw [← this]; exact hLd)
    ·have := a (L, oL) (by simp)
     rw [e] at this
     exact Nat.lt_irrefl _ this
   ·exact (N q (List.mem_append_right _ hq)).2.1 e
  ·rcases List.mem_append.mp hr with hr | hr
   ·exact List.mem_append_left _ hr
   ·exact List.mem_append_right _ (.tail _ hr)

theorem FnX.use {w : World} {f : Addr} {vs : List Value} {dep uni : Nat} {muts : List Addr} {pre : Led} {Post : Value → Led → Prop} {PostX : Addr → Led → Prop} (c : FnX w f vs dep uni muts pre Post PostX)
  {p : Program} {loose : List Str} {mean : ExcName → Option Value} {mg mb : Str → Option Value} {envc : Env} {outer : List Env} {gd : Option (List Code)} {dp un : Nat} {h₀ : Heap} {L : Addr} {m : Str → Option Value} {s : Shared} {Q E : Value → Shared → Prop}
  (Dn frs : Led) (F : Fr h₀ L s.heap m) (X : (heapK w.params).In h₀) (T : Top p loose mean mg mb h₀) (N : News h₀ L s.heap (pre ++ (Dn ++ frs))) (hef : envc.frame = some L) (hek : envc.scope.kind ≠ .module) (Fs : Frs outer frs) (hD : ∀ q ∈ Dn ++ frs, q.1 ∉ muts) (hS : ∀ q ∈ pre ++ Dn, Safe frs q) (hd : dp + dep < recursionLimit) (hu : un + uni < cLine)
  (ret : ∀ r h' tk' nx, Post r nx → Fr h₀ L h' m → News h₀ L h' (nx ++ (Dn ++ frs)) → (∀ q ∈ nx, Kin pre (Dn ++ frs) q) → Q r { s with heap := h', toks := tk' })
  (rai : ∀ e dE h' tk' nx frs', PostX dE nx → Exc h₀ h' e dE → SameUp frs frs' → Fr h₀ L h' m → News h₀ L h' (nx ++ (Dn ++ frs')) → (∀ q ∈ nx, Safe frs' q) → E (.ref e) { s with heap := h', toks := tk' }) :
  wpAny (MD w) (At (some (envc :: outer)) gd dp un) (call (.ref f) vs) Q E s :=
 wpAny_call (c p loose mean mg mb envc outer gd dp un h₀ L m s Dn frs _ F X T N hef hek Fs hD hS hd hu (fun r h' tk' nx a b c d => ret r h' tk' nx a b c d) (fun e dE h' tk' nx frs' a b c d e f => rai _ dE h' tk' nx frs' a b c d e f))

end
section --B2
variable {p : Program} {loose : List Str} {mean : ExcName → Option Value} {mg mb : Str → Option Value}
variable {gd : Option (List Code)} {dp un : Nat} {h₀ : Heap} {L : Addr} {m : Str → Option Value} {s : Shared} {Q E : Value → Shared → Prop}
noncomputable def Tup (q : Addr × Obj) : Prop := ∃ vs n, q.2 = { cls := .type "tuple", data := .seq vs n }
noncomputable def Tups (l : Led) : Prop := ∀ q ∈ l, Tup q
noncomputable def NoTup (q : Addr × Obj) : Prop := (q.2.cls ≠ .type "tuple" ∨ ∃ v, q.2.data = .cell v) ∧ NF q
theorem Tup.noDict {q : Addr × Obj} (h : Tup q) : noDict q := fun es n e => by
 obtain ⟨vs, k, hq⟩ := h
 rw [hq] at e
 cases e
theorem Tup.nf {q : Addr × Obj} (h : Tup q) : NF q := by
 obtain ⟨vs, k, hq⟩ := h
 rw [NF, hq]
 exact .inr ⟨by simp, by simp⟩
theorem Tups.nil : Tups [] := fun _ h => (nomatch h)
theorem Tups.cons {a : Addr} {vs : Array Value} {n : Nat} {l : Led} (h : Tups l) : Tups ((a, { cls := .type "tuple", data := .seq vs n }) :: l) := List.forall_mem_cons.mpr ⟨⟨_, _, rfl⟩, h⟩
theorem news_one {h₀ h : Heap} {L a : Addr} {l : Led} {o o' : Obj} (N : News h₀ L h l) (x : (a, o) ∈ l) (y : (a, o') ∈ l) : o = o' := by
 have := (N _ x).1.symm.trans (N _ y).1
 exact Option.some.inj this
theorem news_tupOff {h₀ h : Heap} {L : Addr} {l M : Led} (N : News h₀ L h l) (hM : ∀ q ∈ M, q ∈ l ∧ NoTup q) {q : Addr × Obj} (hq : q ∈ l) (ht : Tup q) : q.1 ∉ M.map (·.1) := fun e => by
 obtain ⟨r, hr, e⟩ := List.mem_map.mp e
 obtain ⟨vs, n, ho⟩ := ht
 have := news_one N (a := q.1) (o := q.2) (o' := r.2) hq (by rw [← e]; exact (hM r hr).1)
 rcases (hM r hr).2.1 with h | ⟨v, h⟩
 ·exact h (by rw [← this, ho])
 ·rw [← this, ho] at h
  cases h

noncomputable def PostM (M J : Led) (P : Value → Led → Led → Prop) (r : Value) (nx : Led) : Prop := ∃ M' add, P r M' add ∧ Tups add ∧ (∀ q ∈ M', NoTup q) ∧ M'.map (·.1) = M.map (·.1) ∧ nx = M' ++ (add ++ J)
noncomputable def Off (M J : Led) : Prop := ∀ q ∈ J, q.1 ∉ M.map (·.1)
theorem Off.app {M J D : Led} (h : Off M J) (h' : Off M D) : Off M (J ++ D) := List.forall_mem_append.mpr ⟨h, h'⟩
noncomputable def FnM (w : World) (f : Addr) (vs : List Value) (dep uni : Nat) (M J : Led) (P : Value → Led → Led → Prop) : Prop := Off M J → Fn w f vs dep uni (M.map (·.1)) (M ++ J) (PostM M J P)

theorem PostM.kin {M J D M' add : Led} (e : M'.map (·.1) = M.map (·.1)) (ht : Tups add) : ∀ p ∈ M' ++ (add ++ J), Kin (M ++ J) D p := by
 intro p hp
 rcases List.mem_append.mp hp with hp | hp
 ·exact .inl (by rw [List.map_append, ← e]; exact List.mem_append_left _ (List.mem_map_of_mem hp))
 ·rcases List.mem_append.mp hp with hp | hp
  ·exact .inr (.inl (ht p hp).noDict)
  ·exact .inl (by rw [List.map_append]; exact List.mem_append_right _ (List.mem_map_of_mem hp))

theorem FnM.use {w : World} {f : Addr} {vs : List Value} {dep uni : Nat} {M J : Led} {P : Value → Led → Led → Prop} (c : FnM w f vs dep uni M J P)
  {fr : Option (List Env)} {D : Led}
  (F : Fr h₀ L s.heap m) (X : (heapK w.params).In h₀) (T : Top p loose mean mg mb h₀) (N : News h₀ L s.heap (M ++ (J ++ D))) (hJ : Off M (J ++ D)) (hd : dp + dep < recursionLimit) (hu : un + uni < cLine)
  (ret : ∀ r h' tk' M' add, P r M' add → Tups add → (∀ q ∈ M', NoTup q) → M'.map (·.1) = M.map (·.1) → Off M (add ++ (J ++ D)) → Fr h₀ L h' m → News h₀ L h' (M' ++ (add ++ (J ++ D))) → Q r { s with heap := h', toks := tk' }) :
  wpAny (MD w) (At fr gd dp un) (call (.ref f) vs) Q E s := by
 refine Fn.use (c fun q hq => hJ q (List.mem_append_left _ hq)) D F X T (by rw [List.append_assoc]; exact N) (fun q hq => hJ q (List.mem_append_right _ hq)) hd hu fun r h' tk' nx hp F' N' _ => ?_
 obtain ⟨M', add, hP, ht, hn, e, rfl⟩ := hp
 have N'' : News h₀ L h' (M' ++ (add ++ (J ++ D))) := by simpa only [List.append_assoc] using N'
 refine ret r h' tk' M' add hP ht hn e (fun q hq => ?_) F' N''
 rcases List.mem_append.mp hq with hq | hq
 ·rw [← e]
  exact news_tupOff N'' (fun r hr => ⟨List.mem_append_left _ hr, hn r hr⟩) (List.mem_append_right _ (List.mem_append_left _ hq)) (ht q hq)
 ·exact hJ q hq

noncomputable def OutM (h₀ : Heap) (L : Addr) (s₀ : Shared) (M JD : Led) (P : Value → Led → Led → Prop) (v : Value) (s' : Shared) : Prop :=
 ∃ h' tk m' M' add, s' = { s₀ with heap := h', toks := tk } ∧ Fr h₀ L h' m' ∧ News h₀ L h' (M' ++ (add ++ JD)) ∧ P v M' add ∧ Tups add ∧ (∀ q ∈ M', NoTup q) ∧ M'.map (·.1) = M.map (·.1)
theorem OutM.mk {h₀ : Heap} {L : Addr} {s₀ : Shared} {M JD : Led} {P : Value → Led → Led → Prop} {v : Value} {h' : Heap} {tk : Nat} {m'} {news' : Led} (M' add : Led) (F : Fr h₀ L h' m') (N : News h₀ L h' news')
  (hs : ∀ p ∈ M' ++ (add ++ JD), p ∈ news') (hp : P v M' add) (ht : Tups add) (hn : ∀ q ∈ M', NoTup q) (e : M'.map (·.1) = M.map (·.1)) : OutM h₀ L s₀ M JD P v { s₀ with heap := h', toks := tk } :=
 ⟨h', tk, m', M', add, rfl, F, fun p hp => N p (hs p hp), hp, ht, hn, e⟩
theorem FnM.of {w : World} {f : Addr} {vs : List Value} {dep uni : Nat} {M J : Led} {P : Value → Led → Led → Prop}
  {name qual : Str} {params : Arguments} {body : List Stmt} {scope : Scope} {dV kV doc pm cdv ct oc : Value} {an od : Option Addr} {osl : Array (Option Value)} (binds : List (Str × Value))
  (ho : (heapK w.params).lookup f = some ⟨oc, od, .func (fnOf name qual params body scope dV kV doc pm an cdv ct), osl⟩) (hcd : codeIn (heapK w.params) cdv qual = true)
  (hbind : ∀ s : Shared, (heapK w.params).In s.heap → BindsTo s (fnOf name qual params body scope dV kV doc pm an cdv ct) ⟨vs, []⟩ binds) (hloc : (binds.all fun x => decide (scope.names.lookup x.1 = some .local)) = true)
  (hdep : 0 < dep)
  (h : ∀ (p : Program) (loose : List Str) (mean : ExcName → Option Value) (mg mb : Str → Option Value) (fr : Option (List Env)) (gd : Option (List Code)) (dp un : Nat) (h₀ : Heap) (L : Addr) (h : Heap) (tk : Nat) (s : Shared) (D : Led),
   (heapK w.params).In h₀ → Top p loose mean mg mb h₀ → Fr h₀ L h (fun y => binds.reverse.lookup y) → News h₀ L h (M ++ (J ++ D)) → Off M (J ++ D) → dp + dep < recursionLimit → un + uni < cLine →
   wpAny (MD w) (At fr gd (dp + 1) (un + 3)) (execs body (envOf qual scope L f cdv))
    (fun fl s' => OutM h₀ L s M (J ++ D) P (match fl with | .ret v => v | _ => .none) s') (fun _ _ => False) { s with heap := h, toks := tk })
  (hco : scope.isCoroutine = false) (hgen : scope.isGenerator = false) (hk : scope.kind = .function)
  (hcell : ∀ x ∈ scope.names, x.2 ≠ .cell) : FnM w f vs dep uni M J P := by
 intro off
 refine Fn.of (fun a ha => by rw [List.map_append]; exact List.mem_append_left _ ha) binds ho hcd hbind hloc hdep ?_ hco hgen hk hcell
 intro p loose mean mg mb fr gd dp un h₀ L hh tk s D X T F N hD hd hu
 refine wpAny_mono (h p loose mean mg mb fr gd dp un h₀ L hh tk s D X T F (by rw [← List.append_assoc]; exact N) (Off.app off hD) hd hu) (fun fl s' o => ?_) fun _ _ x => x
 obtain ⟨h', tk, m', M', add, rfl, F', N', hp, ht, hn, e⟩ := o
 exact ⟨h', tk, m', M' ++ (add ++ J), rfl, F', by simpa only [List.append_assoc] using N', ⟨M', add, hp, ht, hn, e, rfl⟩, PostM.kin e ht⟩
noncomputable def PostMX (M J : Led) (PX : Obj → Led → Led → Prop) (dE : Addr) (nx : Led) : Prop := ∃ oE M' add, PX oE M' add ∧ Tups add ∧ (∀ q ∈ M', NoTup q) ∧ M'.map (·.1) = M.map (·.1) ∧ nx = (dE, oE) :: (M' ++ (add ++ J))
noncomputable def FnXM (w : World) (f : Addr) (vs : List Value) (dep uni : Nat) (M J : Led) (P : Value → Led → Led → Prop) (PX : Obj → Led → Led → Prop) : Prop :=
 Off M J → (∀ q ∈ M, NoTup q) → FnX w f vs dep uni (M.map (·.1)) (M ++ J) (PostM M J P) (PostMX M J PX)
theorem safe_tups {h₀ h : Heap} {L : Addr} {l frs add : Led} {fr : List Env} (N : News h₀ L h l) (ht : Tups add) (Fs : Frs fr frs) (ha : ∀ q ∈ add, q ∈ l) (hf : ∀ q ∈ frs, q ∈ l) : ∀ q ∈ add, Safe frs q := fun q hq => ⟨(ht q hq).nf, fun r hr e => by
 obtain ⟨vs, n, ho⟩ := ht q hq
 obtain ⟨es, ep, hd⟩ := Frs.dict Fs r hr
 have := news_one N (a := q.1) (o := q.2) (o' := r.2) (ha q hq) (by rw [e]; exact hf r hr)
 rw [ho] at this
 rw [← this] at hd
 cases hd⟩
theorem safe_muts {frs M' M : Led} (hn : ∀ q ∈ M', NoTup q) (e : M'.map (·.1) = M.map (·.1)) (h : Off M frs) : ∀ q ∈ M', Safe frs q := fun q hq => ⟨(hn q hq).2, fun r hr e' => h r hr (by rw [← e, ← e']; exact List.mem_map_of_mem hq)⟩
theorem Off.up {M frs frs' : Led} (h : Off M frs) (u : SameUp frs frs') : Off M frs' := fun q hq => by
 have : q.1 ∈ frs'.map (·.1) := List.mem_map_of_mem hq
 rw [sameUp_addr u] at this
 obtain ⟨r, hr, e⟩ := List.mem_map.mp this
 exact e ▸ h r hr

theorem FnXM.use {w : World} {f : Addr} {vs : List Value} {dep uni : Nat} {M J : Led} {P : Value → Led → Led → Prop} {PX : Obj → Led → Led → Prop} (c : FnXM w f vs dep uni M J P PX)
  {envc : Env} {outer : List Env} {Dn frs : Led}
  (F : Fr h₀ L s.heap m) (X : (heapK w.params).In h₀) (T : Top p loose mean mg mb h₀) (N : News h₀ L s.heap (M ++ (J ++ (Dn ++ frs)))) (hn : ∀ q ∈ M, NoTup q) (hJ : Off M (J ++ (Dn ++ frs))) (hS : ∀ q ∈ J ++ Dn, Safe frs q) (Fs : Frs outer frs) (hef : envc.frame = some L) (hek : envc.scope.kind ≠ .module) (hd : dp + dep < recursionLimit) (hu : un + uni < cLine)
  (ret : ∀ r h' tk' M' add, P r M' add → Tups add → (∀ q ∈ M', NoTup q) → M'.map (·.1) = M.map (·.1) → Off M (add ++ (J ++ (Dn ++ frs))) → (∀ q ∈ add ++ (J ++ Dn), Safe frs q) → Fr h₀ L h' m → News h₀ L h' (M' ++ (add ++ (J ++ (Dn ++ frs)))) → Q r { s with heap := h', toks := tk' })
  (rai : ∀ e dE oE h' tk' M' add frs', PX oE M' add → Tups add → (∀ q ∈ M', NoTup q) → M'.map (·.1) = M.map (·.1) → Exc h₀ h' e dE → SameUp frs frs' → Fr h₀ L h' m → News h₀ L h' ((dE, oE) :: (M' ++ (add ++ (J ++ (Dn ++ frs'))))) → Safe frs' (dE, oE) → E (.ref e) { s with heap := h', toks := tk' }) :
  wpAny (MD w) (At (some (envc :: outer)) gd dp un) (call (.ref f) vs) Q E s := by
 have hJa : Off M J := fun q hq => hJ q (List.mem_append_left _ hq)
 have hJd : Off M (Dn ++ frs) := fun q hq => hJ q (List.mem_append_right _ hq)
 have hJf : Off M frs := fun q hq => hJd q (List.mem_append_right _ hq)
 refine FnX.use (c hJa hn) Dn frs F X T (by rw [List.append_assoc]; exact N) hef hek Fs hJd ?_ hd hu ?_ ?_
 ·intro q hq
  rw [List.append_assoc] at hq
  rcases List.mem_append.mp hq with hq | hq
  ·exact safe_muts hn rfl hJf q hq
  ·exact hS q hq
 ·intro r h' tk' nx hp F' N' _
  obtain ⟨M', add, hP, ht, hn', e, rfl⟩ := hp
  have N'' : News h₀ L h' (M' ++ (add ++ (J ++ (Dn ++ frs)))) := by simpa only [List.append_assoc] using N'
  have hadd : ∀ q ∈ add, q ∈ M' ++ (add ++ (J ++ (Dn ++ frs))) := fun q hq => List.mem_append_right _ (List.mem_append_left _ hq)
  have hfr : ∀ q ∈ frs, q ∈ M' ++ (add ++ (J ++ (Dn ++ frs))) := fun q hq => List.mem_append_right _ (List.mem_append_right _ (List.mem_append_right _ (List.mem_append_right _ hq)))
  refine ret r h' tk' M' add hP ht hn' e (fun q hq => ?_) (fun q hq => ?_) F' N''
  ·rcases List.mem_append.mp hq with hq | hq
   ·rw [← e]
    exact news_tupOff N'' (fun r hr => ⟨List.mem_append_left _ hr, hn' r hr⟩) (hadd q hq) (ht q hq)
   ·exact hJ q hq
  ·rcases List.mem_append.mp hq with hq | hq
   ·exact safe_tups N'' ht Fs hadd hfr q hq
   ·exact hS q hq
 ·intro e dE h' tk' nx frs' hp hx u F' N' hs
  obtain ⟨oE, M', add, hP, ht, hn', e', rfl⟩ := hp
  exact rai e dE oE h' tk' M' add frs' hP ht hn' e' hx u F' (by simpa only [List.append_assoc, List.cons_append] using N') (hs _ (.head _))

theorem FnXM.of {w : World} {f : Addr} {vs : List Value} {dep uni : Nat} {M J : Led} {P : Value → Led → Led → Prop} {PX : Obj → Led → Led → Prop}
  {name qual : Str} {params : Arguments} {body : List Stmt} {scope : Scope} {dV kV doc pm cdv ct oc : Value} {an od : Option Addr} {osl : Array (Option Value)} (binds : List (Str × Value))
  (ho : (heapK w.params).lookup f = some ⟨oc, od, .func (fnOf name qual params body scope dV kV doc pm an cdv ct), osl⟩) (hcd : codeIn (heapK w.params) cdv qual = true)
  (hbind : ∀ s : Shared, (heapK w.params).In s.heap → BindsTo s (fnOf name qual params body scope dV kV doc pm an cdv ct) ⟨vs, []⟩ binds) (hloc : (binds.all fun x => decide (scope.names.lookup x.1 = some .local)) = true)
  (hdep : 0 < dep)
  (h : ∀ (p : Program) (loose : List Str) (mean : ExcName → Option Value) (mg mb : Str → Option Value) (l : List Env) (gd : Option (List Code)) (dp un : Nat) (h₀ : Heap) (L : Addr) (h : Heap) (tk : Nat) (s : Shared) (Dn frs : Led) (E : Value → Shared → Prop),
   (heapK w.params).In h₀ → Top p loose mean mg mb h₀ → Fr h₀ L h (fun y => binds.reverse.lookup y) → News h₀ L h (M ++ (J ++ (Dn ++ frs))) → (∀ q ∈ M, NoTup q) → Off M (J ++ (Dn ++ frs)) → (∀ q ∈ J ++ Dn, Safe frs q) → Frs l frs → dp + dep < recursionLimit → un + uni < cLine →
   PassesOwn (MD w) (At (some (envOf qual scope L f cdv :: l)) gd (dp + 1) (un + 3)) (envOf qual scope L f cdv) E →
   (∀ e dE oE h' tk' m' M' add frs', PX oE M' add → Tups add → (∀ q ∈ M', NoTup q) → M'.map (·.1) = M.map (·.1) → Exc h₀ h' e dE → SameUp frs frs' → Fr h₀ L h' m' → News h₀ L h' ((dE, oE) :: (M' ++ (add ++ (J ++ (Dn ++ frs'))))) → Safe frs' (dE, oE) → E (.ref e) { s with heap := h', toks := tk' }) →
   wpAny (MD w) (At (some (envOf qual scope L f cdv :: l)) gd (dp + 1) (un + 3)) (execs body (envOf qual scope L f cdv))
    (fun fl s' => OutM h₀ L s M (J ++ (Dn ++ frs)) P (match fl with | .ret v => v | _ => .none) s') E { s with heap := h, toks := tk })
  (hco : scope.isCoroutine = false) (hgen : scope.isGenerator = false) (hk : scope.kind = .function)
  (hcell : ∀ x ∈ scope.names, x.2 ≠ .cell) : FnXM w f vs dep uni M J P PX := by
 intro off hn
 refine FnX.of (fun a ha => by rw [List.map_append]; exact List.mem_append_left _ ha) binds ho hcd hbind hloc hdep ?_ hco hgen hk hcell
 intro p loose mean mg mb l gd dp un h₀ L hh tk s Dn frs E X T F N Fs hD hS hd hu hE hX
 have hSJ : ∀ q ∈ J ++ Dn, Safe frs q := fun q hq => hS q (by rw [List.append_assoc]; exact List.mem_append_right _ hq)
 have hOff : Off M (J ++ (Dn ++ frs)) := Off.app off hD
 have hOf : Off M frs := fun q hq => hD q (List.mem_append_right _ hq)
 refine wpAny_mono (h p loose mean mg mb l gd dp un h₀ L hh tk s Dn frs E X T F (by rw [← List.append_assoc]; exact N) hn hOff hSJ Fs hd hu hE ?_) (fun fl s' o => ?_) fun _ _ x => x
 ·intro e dE oE h' tk' m' M' add frs' hP ht hn' he hx u F' N' hs
  refine hX e dE h' tk' m' ((dE, oE) :: (M' ++ (add ++ J))) frs' ⟨oE, M', add, hP, ht, hn', he, rfl⟩ hx u F' (by simpa only [List.append_assoc, List.cons_append] using N') ?_
  have hadd : ∀ q ∈ add, q ∈ (dE, oE) :: (M' ++ (add ++ (J ++ (Dn ++ frs')))) := fun q hq => .tail _ (List.mem_append_right _ (List.mem_append_left _ hq))
  have hfr : ∀ q ∈ frs', q ∈ (dE, oE) :: (M' ++ (add ++ (J ++ (Dn ++ frs')))) := fun q hq => .tail _ (List.mem_append_right _ (List.mem_append_right _ (List.mem_append_right _ (List.mem_append_right _ hq))))
  intro q hq
  rcases List.mem_cons.mp hq with rfl | hq
  ·exact hs
  ·rcases List.mem_append.mp hq with hq | hq
   ·exact safe_muts hn' he (hOf.up u) q hq
   ·rcases List.mem_append.mp hq with hq | hq
    ·exact safe_tups N' ht (Frs.up Fs u) hadd hfr q hq
    ·exact (hSJ q (List.mem_append_left _ hq)).up u
 ·obtain ⟨h', tk, m', M', add, rfl, F', N', hp, ht, hn', e⟩ := o
  exact ⟨h', tk, m', M' ++ (add ++ J), rfl, F', by simpa only [List.append_assoc] using N', ⟨M', add, hp, ht, hn', e, rfl⟩, PostM.kin e ht⟩
theorem off1 {d : Addr} {o : Obj} {J : Led} (h : ∀ q ∈ J, q.1 ≠ d) : Off [(d, o)] J := fun q hq e => h q hq (by simpa using e)
theorem off1' {d : Addr} {o : Obj} {J : Led} (h : Off [(d, o)] J) : ∀ q ∈ J, q.1 ≠ d := fun q hq e => h q hq (by simp [e])
theorem noTup1 {d : Addr} {o : Obj} (h : NoTup (d, o)) : ∀ q ∈ [(d, o)], NoTup q := fun q hq => by rw [List.mem_singleton.mp hq]; exact h
theorem FnM.ofS {w : World} {f : Addr} {vs : List Value} {dep uni : Nat} {d : Addr} {o : Obj} {y : Addr × Obj} {P : Value → Led → Led → Prop}
  {name qual : Str} {params : Arguments} {body : List Stmt} {scope : Scope} {dV kV doc pm cdv ct oc : Value} {an od : Option Addr} {osl : Array (Option Value)} (binds : List (Str × Value))
  (ho : (heapK w.params).lookup f = some ⟨oc, od, .func (fnOf name qual params body scope dV kV doc pm an cdv ct), osl⟩) (hcd : codeIn (heapK w.params) cdv qual = true)
  (hbind : ∀ s : Shared, (heapK w.params).In s.heap → BindsTo s (fnOf name qual params body scope dV kV doc pm an cdv ct) ⟨vs, []⟩ binds) (hloc : (binds.all fun x => decide (scope.names.lookup x.1 = some .local)) = true)
  (hdep : 0 < dep)
  (h : ∀ (p : Program) (loose : List Str) (mean : ExcName → Option Value) (mg mb : Str → Option Value) (fr : Option (List Env)) (gd : Option (List Code)) (dp un : Nat) (h₀ : Heap) (L : Addr) (h : Heap) (tk : Nat) (s : Shared) (JD : Led),
   (heapK w.params).In h₀ → Top p loose mean mg mb h₀ → Fr h₀ L h (fun y => binds.reverse.lookup y) → News h₀ L h ((d, o) :: JD) → y ∈ JD → (∀ q ∈ JD, q.1 ≠ d) → dp + dep < recursionLimit → un + uni < cLine →
   wpAny (MD w) (At fr gd (dp + 1) (un + 3)) (execs body (envOf qual scope L f cdv))
    (fun fl s' => OutM h₀ L s [(d, o)] JD P (match fl with | .ret v => v | _ => .none) s') (fun _ _ => False) { s with heap := h, toks := tk })
  (hco : scope.isCoroutine = false) (hgen : scope.isGenerator = false) (hk : scope.kind = .function)
  (hcell : ∀ x ∈ scope.names, x.2 ≠ .cell) : FnM w f vs dep uni [(d, o)] [y] P :=
 FnM.of binds ho hcd hbind hloc hdep (fun p loose mean mg mb fr gd dp un h₀ L hh tk s D X T F N hJ hd hu =>
  h p loose mean mg mb fr gd dp un h₀ L hh tk s (y :: D) X T F N (.head _) (off1' hJ) hd hu) hco hgen hk hcell
theorem FnXM.ofS {w : World} {f : Addr} {vs : List Value} {dep uni : Nat} {d : Addr} {o : Obj} {y : Addr × Obj} {P : Value → Led → Led → Prop} {PX : Obj → Led → Led → Prop}
  {name qual : Str} {params : Arguments} {body : List Stmt} {scope : Scope} {dV kV doc pm cdv ct oc : Value} {an od : Option Addr} {osl : Array (Option Value)} (binds : List (Str × Value))
  (ho : (heapK w.params).lookup f = some ⟨oc, od, .func (fnOf name qual params body scope dV kV doc pm an cdv ct), osl⟩) (hcd : codeIn (heapK w.params) cdv qual = true)
  (hbind : ∀ s : Shared, (heapK w.params).In s.heap → BindsTo s (fnOf name qual params body scope dV kV doc pm an cdv ct) ⟨vs, []⟩ binds) (hloc : (binds.all fun x => decide (scope.names.lookup x.1 = some .local)) = true)
  (hdep : 0 < dep)
  (h : ∀ (p : Program) (loose : List Str) (mean : ExcName → Option Value) (mg mb : Str → Option Value) (l : List Env) (gd : Option (List Code)) (dp un : Nat) (h₀ : Heap) (L : Addr) (h : Heap) (tk : Nat) (s : Shared) (JD frs : Led) (E : Value → Shared → Prop),
   (heapK w.params).In h₀ → Top p loose mean mg mb h₀ → Fr h₀ L h (fun y => binds.reverse.lookup y) → News h₀ L h ((d, o) :: (JD ++ frs)) → NoTup (d, o) → y ∈ JD → (∀ q ∈ JD ++ frs, q.1 ≠ d) → (∀ q ∈ JD, Safe frs q) → Frs l frs → dp + dep < recursionLimit → un + uni < cLine →
   PassesOwn (MD w) (At (some (envOf qual scope L f cdv :: l)) gd (dp + 1) (un + 3)) (envOf qual scope L f cdv) E →
   (∀ e dE oE h' tk' m' o' add frs', PX oE [(d, o')] add → Tups add → NoTup (d, o') → Exc h₀ h' e dE → SameUp frs frs' → Fr h₀ L h' m' → News h₀ L h' ((dE, oE) :: (d, o') :: ((add ++ JD) ++ frs')) → Safe frs' (dE, oE) → E (.ref e) { s with heap := h', toks := tk' }) →
   wpAny (MD w) (At (some (envOf qual scope L f cdv :: l)) gd (dp + 1) (un + 3)) (execs body (envOf qual scope L f cdv))
    (fun fl s' => OutM h₀ L s [(d, o)] (JD ++ frs) P (match fl with | .ret v => v | _ => .none) s') E { s with heap := h, toks := tk })
  (hco : scope.isCoroutine = false) (hgen : scope.isGenerator = false) (hk : scope.kind = .function)
  (hcell : ∀ x ∈ scope.names, x.2 ≠ .cell) : FnXM w f vs dep uni [(d, o)] [y] P PX :=
 FnXM.of binds ho hcd hbind hloc hdep (fun p loose mean mg mb l gd dp un h₀ L hh tk s Dn frs E X T F N hn hJ hS Fs hd hu hE hX =>
  h p loose mean mg mb l gd dp un h₀ L hh tk s (y :: Dn) frs E X T F N (hn _ (.head _)) (.head _) (off1' hJ) hS Fs hd hu hE
   (fun e dE oE h' tk' m' o' add frs' hp ht hn' hx u F' N' hs => hX e dE oE h' tk' m' [(d, o')] add frs' hp ht (noTup1 hn') rfl hx u F' (fun q hq => N' q (by simpa only [List.append_assoc, List.cons_append, List.nil_append, List.singleton_append] using hq)) hs)) hco hgen hk hcell
theorem NoTup.dic {d : Addr} {es : List DictEntry} {n : Nat} : NoTup (d, dictOf es n) := by
 refine ⟨.inl (by show Value.type "dict" ≠ _; simp), .inl fun vs e => by cases e⟩

end
section --E1
section
open Sem (wp)
variable {prog : Program} {w : World} {A : Around} {E : Value → Shared → Prop} {h : Heap} {g : Array GenState} {d : Drawn} {t : Nat} {os : OsState}
variable {nm q : Str} {C Ns : Addr} {bs bm bmB : List Value} {hdct : Bool} {sn : List Str} {sub : List Value} {ab : Bool} {col : Option Bool} {dd : Option Addr} {k0 k1 k2 k3 k5 : Option Value} {B newId initId : String}
theorem exc_ckNew {M : Model} (F : ExcBaseFacts B newId initId bmB) (hB : bm.contains (.type B) = true) {rest : List Value} {Q : Unit → Shared → Prop} (hC : h.get? C = some (excClassObj nm q C Ns bs bm hdct sn sub ab col dd k0 k1 k2 k3 k5 newId))
  (hq : Q () ⟨h, g, d, t, os⟩) : wpAny M A (checkBuiltinCall newId ⟨.ref C :: rest, []⟩) Q E ⟨h, g, d, t, os⟩ := by
 have hc : (Value.ref C :: bm).contains (.type B) = true := by rw [List.contains_cons, hB, Bool.or_true]
 have hs := F.noStar
 simp only [checkBuiltinCall, F.newKind, F.newSplit, F.newRow]
 repeat (first | refine wpAny_loadPart_at hC ?_ | (refine wpAny_isSubtype_exc hC ?_; rw [hc]) | refine wpAny_staticBase_exc hC ?_ | refine wpAny_madeBy_exc hC ?_ | simp only [bne_self_eq_false, Bool.false_eq_true, if_false] | wp_step)
 exact hq
theorem exc_doNew {R : Result → Shared → Prop} (F : ExcBaseFacts B newId initId bmB) (hB : bm.contains (.type B) = true) (h1 : bm.contains (.type "AttributeError") = false) (h2 : bm.contains (.type "NameError") = false) {rest : List Value} (hC : h.get? C = some (excClassObj nm q C Ns bs bm hdct sn sub ab col dd k0 k1 k2 k3 k5 newId))
  (hq : R (.ok (.ret (.ref (h.objs.size + 1)))) ⟨(h.push { cls := .type "tuple", data := .seq rest.toArray }).push { cls := .ref C, data := .fields #[.ref h.objs.size, .none, .none, .none, .bool false, .none] }, g, d, t, os⟩) (hr : rest.length ≤ sizeLine) :
  codeAny (model prog w) A (.builtin newId ⟨.ref C :: rest, []⟩) R ⟨h, g, d, t, os⟩ := by
 have he := F.ends
 have c1 : (Value.ref C :: bm).contains (.type B) = true := by rw [List.contains_cons, hB, Bool.or_true]
 have c2 : (Value.ref C :: bm).contains (.type "AttributeError") = false := by rw [List.contains_cons, h1]; rfl
 have c3 : (Value.ref C :: bm).contains (.type "NameError") = false := by rw [List.contains_cons, h2]; rfl
 refine codeAny_builtinAt F.entry ?_
 unfold Builtin.«BaseException.__new__»
 refine PySem.wpAt_bind ?_
 show PySem.wpAt _ _ _ (stack >>= _) _ _ _
 refine PySem.wpAt_bind (PySem.wpAt_stack fun p below => PySem.wpAt_of_wpAny ?_)
 wp_walk
 refine PySem.wpAt_of_wpAny ?_
 rw [F.owner]
 repeat (first | with_reducible refine wpAny_madeHere_exc F.canon hC ?_ | with_reducible refine wpAny_loadPart_at hC ?_ | (with_reducible refine wpAny_isSubtype_exc hC ?_; first | rw [c1] | rw [c2] | rw [c3]) | wp_step)
 show R _ _
 rw [Heap.size_push]
 exact hq
theorem exc_init {mN : Str → Option Value} {fI : Addr} (hC : h.get? C = some (excClassObj nm q C Ns bs bm hdct sn sub ab col dd k0 k1 k2 k3 k5 newId)) (hn : h.Ns Ns mN) (hi : mN "__init__" = some (.ref fI)) {Q : Option Value → Shared → Prop} {M : Model}
  (hq : Q (some (.ref fI)) ⟨h, g, d, t, os⟩) : wpAny M A (typeLookup (.ref C) "__init__") Q E ⟨h, g, d, t, os⟩ := by
 rw [typeLookup_eq]
 refine wpAny_bind (wpAny_mroOf_exc hC ?_)
 rw [lookupAlong_cons]
 refine wpAny_bind (wpAny_classOwn_exc hC hn ?_)
 rw [hi]
 exact wpAny_pure hq
end
section
variable {prog : Program} {w : World} {A : Around} {E : Value → Shared → Prop} {h : Heap} {g : Array GenState} {d : Drawn} {t : Nat} {os : OsState}
variable {nm q : Str} {C Ns : Addr} {bs bm bmB : List Value} {hdct : Bool} {sn : List Str} {sub : List Value} {ab : Bool} {col : Option Bool} {dd : Option Addr} {k0 k1 k2 k3 k5 : Option Value} {B newId initId : String}
theorem exc_typeCall (F : ExcBaseFacts B newId initId bmB) (hB : bm.contains (.type B) = true) (h1 : bm.contains (.type "AttributeError") = false) (h2 : bm.contains (.type "NameError") = false) {mN : Str → Option Value} {rest : List Value} {fI : Addr} {oI : Obj} {Q : Fin → Shared → Prop}
  (hC : h.get? C = some (excClassObj nm q C Ns bs bm hdct sn sub ab col dd k0 k1 k2 k3 k5 newId)) (hn : h.Ns Ns mN) (hi : mN "__init__" = some (.ref fI)) (hf : h.get? fI = some oI) (hfc : oI.cls = .type "function") (hr : rest.length ≤ sizeLine)
  (hq : ∀ h' e, Heap.MadeExcOf h h' e (.ref C) rest → wpAny (model prog w) A (call (.ref fI) (.ref e :: rest)) (fun r s' => r = .none ∧ Q (.done (.ret (.ref e))) s') E ⟨h', g, d, t, os⟩) :
  wpAny (model prog w) A (Builtin.«type.__call__» ⟨.ref C :: rest, []⟩) Q E ⟨h, g, d, t, os⟩ := by
 repeat (first | with_reducible refine wpAny_loadPart_at hC ?_ | with_reducible refine wpAny_madeBy_exc hC ?_ | wp_step)
 refine codeAny_call_builtin_code (Code.quiet_builtin _ F.quiet) (exc_ckNew F hB hC ?_)
 refine exc_doNew F hB h1 h2 hC ?_ hr
 show wpAny _ _ _ _ _ _
 have up : ∀ {b : Addr} {o : Obj}, h.get? b = some o → ((h.push { cls := .type "tuple", data := .seq rest.toArray }).push { cls := .ref C, data := .fields #[.ref h.objs.size, .none, .none, .none, .bool false, .none] }).get? b = some o := fun x => Heap.get?_push_of_some _ (Heap.get?_push_of_some _ x)
 have hC' := up hC
 have hf' := up hf
 have hn' := hn.keeps fun _ _ x => up x
 have hE : ((h.push { cls := .type "tuple", data := .seq rest.toArray }).push { cls := .ref C, data := .fields #[.ref h.objs.size, .none, .none, .none, .bool false, .none] }).get? (h.objs.size + 1) = some { cls := .ref C, data := .fields #[.ref h.objs.size, .none, .none, .none, .bool false, .none] } := by heap_get
 have hcc : (Value.ref C :: bm).contains (.ref C) = true := by simp
 unfold isInstance
 repeat (first | with_reducible refine wpAny_loadPart_at hE ?_ | (with_reducible refine wpAny_isSubtype_exc hC' ?_; rw [hcc]) | wp_step)
 show wpAny _ _ (typeLookup (.ref C) _) _ _ _
 refine exc_init hC' hn' hi ?_
 refine wpAny_holding (wpAny_bind ?_)
 unfold bindSpecial
 refine wpAny_bind (wpAny_typeOf (T := "function") ⟨_, hf', hfc⟩ ?_)
 rw [if_pos (by decide)]
 refine wpAny_pure (wpAny_bind (wpAny_mono (hq _ (h.objs.size + 1) ⟨fun b o hb => up hb, Heap.get?_none_of_le (Nat.le_succ _), h.objs.size, hE, Heap.get?_none_of_le (Nat.le_refl _), Heap.get?_push_of_some _ (Heap.get?_push_at rfl rfl)⟩) (fun r s' hr => ?_) fun _ _ x => x))
 obtain ⟨rfl, hQ⟩ := hr
 wp_walk
 exact hQ
theorem exc_call (F : ExcBaseFacts B newId initId bmB) (hB : bm.contains (.type B) = true) (h1 : bm.contains (.type "AttributeError") = false) (h2 : bm.contains (.type "NameError") = false) {mN : Str → Option Value} {rest : List Value} {fI : Addr} {oI : Obj} {Q : Value → Shared → Prop}
  (hC : h.get? C = some (excClassObj nm q C Ns bs bm hdct sn sub ab col dd k0 k1 k2 k3 k5 newId)) (hn : h.Ns Ns mN) (hi : mN "__init__" = some (.ref fI)) (hf : h.get? fI = some oI) (hfc : oI.cls = .type "function") (hr : rest.length ≤ sizeLine)
  (hq : ∀ h' e, Heap.MadeExcOf h h' e (.ref C) rest → wpAny (model prog w) (A.under (.builtin "type.__call__" ⟨.ref C :: rest, []⟩)) (call (.ref fI) (.ref e :: rest)) (fun r s' => r = .none ∧ Q (.ref e) s') E ⟨h', g, d, t, os⟩) :
  wpAny (model prog w) A (call (.ref C) rest) Q E ⟨h, g, d, t, os⟩ := by
 have f1 := tc_lookup
 have f2 := tc_bind (.ref C)
 have hT : (⟨h, g, d, t, os⟩ : Shared).TypeIs (.ref C) "type" := ⟨_, hC, rfl⟩
 refine wpAny_call (codeAny_of_tree ?_)
 show wpAny _ _ (callAny (.ref C) _) _ _ _
 repeat (any_goals (first | assumption | with_reducible refine wpAny_loadPart_at hC ?_ | wp_step))
 refine ⟨rfl, ?_⟩
 exact codeAny_call_builtin_at (Code.quiet_builtin _ (by decide +kernel)) entry_typeCall (wpAny_check_type_call_sub hC (exc_typeCall F hB h1 h2 hC hn hi hf hfc hr hq))
end

end
section --E2
section
open Sem (wp)
open Builtin Builtin.ObjectAttr
variable {prog : Program} {w : World} {A : Around} {E : Value → Shared → Prop} {h : Heap} {g : Array GenState} {d : Drawn} {t : Nat} {os : OsState}
variable {nm q : Str} {C Ns B₁ x : Addr} {bs bmB : List Value} {sn : List Str} {sub : List Value} {ab : Bool} {col : Option Bool} {dd : Option Addr} {k0 k1 k2 k3 k5 : Option Value} {B newId sa owner : String}
 {mA : Str → Option Value} {name : Str} {v : Value} {K : Frag}
noncomputable def After (h h' : Heap) (x : Addr) : Prop :=
 (∀ b o, b ≠ x → (∀ o₀ dx, h.get? x = some o₀ → o₀.dict = some dx → b ≠ dx) → h.get? b = some o → h'.get? b = some o) ∧
 (∀ o₀, h.get? x = some o₀ → ∃ o₁, h'.get? x = some o₁ ∧ o₁.cls = o₀.cls ∧ o₁.data = o₀.data ∧ o₁.slots = o₀.slots ∧ ∀ dx, o₀.dict = some dx → o₁.dict = some dx) ∧
 (∀ o₀ o₁ dx, h.get? x = some o₀ → o₀.dict = none → h'.get? x = some o₁ → o₁.dict = some dx → h.objs.size ≤ dx)
theorem exc_stEntry {tk : Tok} {Q : Fin → Shared → Prop} {ns : List Str} (SF : StoreFacts B bmB sa owner) (X : K.In h)
  (hC : h.get? C = some (excClassObj nm q C Ns bs (.ref B₁ :: bmB) true sn sub ab col dd k0 k1 k2 k3 k5 newId)) (hf : findIn K (.ref C) name = some none) (I : h.Inst x C mA)
  (hq : ∀ h' tk', h'.Inst x C (fun y => if y = name then some v else mA y) → After h h' x → Q (.done (.ret .none)) ⟨h', g, d, tk', os⟩) (hw : Within mA ns) (hsz : ns.length < sizeLine) :
  wpAny (model prog w) A (Builtin.«object.__setattr__» ⟨[.ref x, .str name tk, v], []⟩) Q E ⟨h, g, d, t, os⟩ := by
 obtain ⟨o, hx, hc, hnc, hd⟩ := I
 have hpass := SF.passes (.ref x)
 unfold Builtin.«object.__setattr__»
 repeat (first | rw [refuse_eq] | (rw [refuseLoop_ref, refuseLoop_ref, hpass]) | (with_reducible refine wpAny_loadPart_at hx ?_; rw [hc]) | with_reducible refine wpAny_mroOf_exc hC ?_ | (with_reducible refine Looks.here (looks_findIn X hf) ?_) | wp_step)
 rcases hd with ⟨hdn, hmA⟩ | ⟨dx, hdx, hne, hns⟩
 ·rw [hdn, if_neg (by simp [typeHasDict])]
  split
  ·rename_i hcd; cases hcd
  split
  ·rename_i c hcd; exact absurd hcd (hnc c)
  have hx₁ : (h.push { cls := .type "dict", data := .dict #[] }).get? x = some o := Heap.get?_push_of_some _ hx
  have hxs : x ≠ h.objs.size := Nat.ne_of_lt (Heap.lt_size hx)
  refine wpAny_bind (wpAny_alloc' ?_)
  refine wpAny_bind (wpAny_update' hx₁ ?_)
  refine wpAny_pure ?_
  have hnd : ((h.push { cls := .type "dict", data := .dict #[] }).update x fun o => { cls := o.cls, dict := some h.objs.size, data := o.data, slots := o.slots }).Ns h.objs.size (fun _ => none) :=
   ⟨_, #[], _, (Heap.get?_update_ne _ _ _ _ hxs.symm).trans (Heap.get?_push_at rfl rfl), rfl, fun e he => absurd he (by simp), fun _ => rfl⟩
  show wpAny _ _ (storeInDict h.objs.size (.str name tk) name v) _ _ _
  unfold storeInDict newKeyGuard
  refine wpAny_bind (wpAny_pure (wpAny_bind (wpAny_nsSet1 (Heap.Ns1.of_empty hnd) fun h' hn' hs => ?_)))
  obtain ⟨oD, esD, epD, hoD, hdD, hcD⟩ := hn'.count (Within.cons name v Within.nil)
  refine wpAny_bind (wpAny_lookBehind hoD (by rw [hdD]; exact pastItsLine_dict (Nat.le_trans hcD (by rw [List.length_cons, List.length_nil, sizeLine_eq]; omega))) ?_)
  wp_walk
  have hx' : h'.get? x = some { cls := o.cls, dict := some h.objs.size, data := o.data, slots := o.slots } := by
   refine (hs.2 x hxs).trans (Heap.get?_update_self _ hx₁ ?_)
   have hfr := (Heap.get?_some_iff.mp hx).2
   obtain ⟨oc, od, odt, osl⟩ := o
   cases odt <;> first | rfl | exact hfr
  refine hq h' _ ⟨{ cls := o.cls, dict := some h.objs.size, data := o.data, slots := o.slots }, hx', hc, hnc, .inr ⟨h.objs.size, rfl, hxs.symm, ?_⟩⟩ ⟨fun b ob hbx _ hb => ?_, fun o₀ h₀ => ?_, fun o₀ o₁ dx _ _ h₁ h₂ => ?_⟩
  ·obtain ⟨o', es, ep, e1, e2, e3, eu, e4⟩ := hn'
   exact ⟨o', es, ep, e1, e2, e3, eu, fun y => by rw [e4 y]; by_cases hy : y = name <;> simp [hy, hmA]⟩
  ·exact (hs.2 b (Nat.ne_of_lt (Heap.lt_size hb))).trans ((Heap.get?_update_ne _ _ _ _ hbx).trans (Heap.get?_push_of_some _ hb))
  ·obtain rfl : o = o₀ := Option.some.inj (hx.symm.trans h₀)
   exact ⟨_, hx', rfl, rfl, rfl, fun dx e => by rw [hdn] at e; cases e⟩
  ·rw [hx'] at h₁
   obtain rfl := Option.some.inj h₁
   exact Nat.le_of_eq (Option.some.inj h₂)
 ·rw [hdx]
  refine wpAny_pure ?_
  show wpAny _ _ (storeInDict dx (.str name tk) name v) _ _ _
  unfold storeInDict newKeyGuard
  refine wpAny_bind (wpAny_pure (wpAny_bind (wpAny_nsSet1 hns fun h' hn' hs => ?_)))
  obtain ⟨oD, esD, epD, hoD, hdD, hcD⟩ := hn'.count (Within.cons name v hw)
  refine wpAny_bind (wpAny_lookBehind hoD (by rw [hdD]; exact pastItsLine_dict (Nat.le_trans hcD (by rw [List.length_cons]; omega))) ?_)
  wp_walk
  exact hq h' _ ⟨o, (hs.2 x hne.symm).trans hx, hc, hnc, .inr ⟨dx, hdx, hne, hn'⟩⟩ ⟨fun b ob _ hbd hb => (hs.2 b (hbd o dx hx hdx)).trans hb, fun o₀ h₀ => ⟨o₀, (hs.2 x hne.symm).trans h₀, rfl, rfl, rfl, fun _ e => e⟩, fun o₀ _ _ h₀ h₁ => by rw [hx] at h₀; obtain rfl := Option.some.inj h₀; rw [hdx] at h₁; cases h₁⟩
end
theorem exc_put {prog : Program} {w : World} {A : Around} {E : Value → Shared → Prop} {h : Heap} {g : Array GenState} {d : Drawn} {t : Nat} {os : OsState} {nm q : Str} {C Ns B₁ x : Addr} {bs : List Value} {sn : List Str} {sub : List Value} {ab : Bool} {col : Option Bool} {dd : Option Addr} {k0 k1 k2 k3 k5 : Option Value} {newId : String}
  {mA : Str → Option Value} {name : Str} {v : Value} {K : Frag} {ox : Obj} {od : Option Obj} {Q : Unit → Shared → Prop} {ns : List Str} (X : K.In h)
  (hC : h.get? C = some (excClassObj nm q C Ns bs [.ref B₁, .type "Exception", .type "BaseException", .type "object"] true sn sub ab col dd k0 k1 k2 k3 k5 newId)) (hm : mroIn K C (.type "object") = some true)
  (hs : findIn K (.ref C) "__setattr__" = some (some (.builtin "object.__setattr__"))) (hf : findIn K (.ref C) name = some none) (I₀ : InstAt h x ox C od) (I : h.Inst x C mA)
  (hq : ∀ h' tk', h'.Inst x C (fun y => if y = name then some v else mA y) → After h h' x → Q () ⟨h', g, d, tk', os⟩) (hw : Within mA ns) (hsz : ns.length < sizeLine) :
  wpAny (model prog w) A (setAttr (.ref x) name v) Q E ⟨h, g, d, t, os⟩ := by
 have SF := PySem.F.store_Exception
 refine set_plain X I₀ hs ?_
 have sub : Looks (model prog w) h (isInstance (.ref x) (.type "object")) true := I₀.type.andThen (looks_mroIn X hm)
 refine codeAny_call_builtin SF.slot.plain SF.entry (@check_slot (model prog w) _ _ _ "object.__setattr__" "object" "__setattr__" (.ref x) [.str name t, v] [] _ SF.kind SF.split sub (SF.args (.ref x) (.str name t) v) ?_)
 exact exc_stEntry SF X hC hf I (fun h' tk' I' a => hq h' tk' I' a) hw hsz
section
variable {M : Model} {A : Around} {E : Value → Shared → Prop} {env : Env}
variable {nm q : Str} {C Ns : Addr} {bs bm : List Value} {hdct : Bool} {sn : List Str} {sub : List Value} {ab : Bool} {col : Option Bool} {dd : Option Addr} {k0 k1 k2 k3 k5 : Option Value} {newId : String}
theorem raise_fault {s : Shared} {x : Sem Value} {Q : Flow → Shared → Prop} (hb : bm.contains (.type "BaseException") = true) (hh : A.handled = none)
  (h : wpAny M A x (fun v s₁ => ∃ e t dE sl, v = .ref e ∧ s₁.heap.get? C = some (excClassObj nm q C Ns bs bm hdct sn sub ab col dd k0 k1 k2 k3 k5 newId) ∧
   s₁.heap.get? e = some ⟨.ref C, dE, .fields #[.ref t, .none, .none, .none, .bool false, .none], sl⟩ ∧ E (.ref e) s₁) E s) :
  wpAny M A (raiseStmt env (some x) none) Q E s := by
 have hcB : (Value.ref C :: bm).contains (.type "BaseException") = true := by rw [List.contains_cons, hb, Bool.or_true]
 unfold raiseStmt
 refine wpAny_bind (wpAny_mono h (fun v s₁ h₁ => ?_) fun _ _ x => x)
 obtain ⟨e, t, dE, sl, rfl, hC, he, hE⟩ := h₁
 obtain ⟨hp, g, d, tk, os⟩ := s₁
 repeat (first | with_reducible refine wpAny_loadPart_at he ?_ | with_reducible refine wpAny_loadPart_at hC ?_ | (with_reducible refine wpAny_isSubtype_exc hC ?_; rw [hcB]) | wp_step)
 exact wpAny_raiseNew_none hh hE
theorem exec_raise {s : Shared} {c : Expr} {pos : Pos} {Q : Flow → Shared → Prop} (hb : bm.contains (.type "BaseException") = true) (hh : A.handled = none)
  (h : wpAny M A (eval c env) (fun v s₁ => ∃ e t dE sl, v = .ref e ∧ s₁.heap.get? C = some (excClassObj nm q C Ns bs bm hdct sn sub ab col dd k0 k1 k2 k3 k5 newId) ∧
   s₁.heap.get? e = some ⟨.ref C, dE, .fields #[.ref t, .none, .none, .none, .bool false, .none], sl⟩ ∧ E (.ref e) s₁) E s) :
  wpAny M A (exec (.Raise (some c) none pos) env) Q E s := by
 rw [arm_exec_Raise]
 first
  | refine wpAny_bind (wpAny_standAt (raise_fault hb hh (wpAny_bind (wpAny_mono h (fun v s₃ h₃ => wpAny_bind (wpAny_standAt (wpAny_pure h₃))) fun _ _ x => x))))
  | (simp only [evalOpt, Option.map]; refine wpAny_bind (wpAny_standAt (raise_fault hb hh (wpAny_bind (wpAny_mono h (fun v s₃ h₃ => wpAny_bind (wpAny_standAt (wpAny_pure h₃))) fun _ _ x => x)))))
  | trace_state
end

noncomputable def DictM (o : Obj) (m : Str → Option Value) : Prop := (∃ es n, o.data = .dict es n) ∧ ∀ (h : Heap) (a : Addr), h.get? a = some o → h.Ns1 a m
theorem dictM_of {h : Heap} {a : Addr} {o : Obj} {m : Str → Option Value} (ho : h.get? a = some o) (hn : h.Ns1 a m) : DictM o m := by
 obtain ⟨o', es, ep, e, d, r⟩ := hn
 rw [ho] at e
 obtain rfl := Option.some.inj e
 exact ⟨⟨es, ep, d⟩, fun h' a' ho' => ⟨o, es, ep, ho', d, r⟩⟩
noncomputable abbrev exo (dE : Option Addr) (vs : Array Value) : Obj := ⟨.ref 63, dE, .fields vs, #[]⟩
theorem cls63 (w : World) {h : Heap} (X : (heapK w.params).In h) : ∃ nm q bs sn sub ab col dd k0 k1 k2 k3 k5 newId, h.get? 63 = some (excClassObj nm q 63 62 bs [.ref 31, .type "Exception", .type "BaseException", .type "object"] true sn sub ab col dd k0 k1 k2 k3 k5 newId) ∧ newId = "Exception.__new__" := by
 have e : (heapK w.params).lookup 63 = some (o63 w.params) := by kernel_rfl
 exact ⟨_, _, _, _, _, _, _, _, _, _, _, _, _, _, X _ _ e, rfl⟩

end
section --E3
theorem exo_inst {h₀ h : Heap} {L e : Addr} {l : Led} {dE : Option Addr} {vs : Array Value} (N : News h₀ L h l) (hm : (e, exo dE vs) ∈ l) (hd : ∀ d, dE = some d → ∃ o, (d, o) ∈ l) : ∃ od, InstAt h e (exo dE vs) 63 od := by
 cases dE with
 | none => exact ⟨none, (N _ hm).1, rfl, rfl, trivial⟩
 | some d =>
  obtain ⟨o, ho⟩ := hd d rfl
  exact ⟨some o, (N _ hm).1, rfl, rfl, (N _ ho).1⟩
theorem fr_of {h₀ h h' : Heap} {L : Addr} {m : Str → Option Value} (F : Fr h₀ L h m) (k : ∀ b o, (b = L ∨ (h₀.get? b).isSome = true) → h.get? b = some o → h'.get? b = some o) : Fr h₀ L h' m := by
 obtain ⟨oL, es, ep, hL, hLd, hLk, hLf⟩ := F.ns
 exact ⟨⟨oL, es, ep, k _ _ (.inl rfl) hL, hLd, hLk, hLf⟩, fun b o hb => k b o (.inr (by rw [hb]; rfl)) (F.keep b o hb), F.above⟩
theorem exc_put0 (w : World) {A : Around} {E : Value → Shared → Prop} {s : Shared} {h₀ : Heap} {L e : Addr} {m : Str → Option Value} {l : Led} {vs : Array Value} {name : Str} {v : Value} {Q : Unit → Shared → Prop}
  (F : Fr h₀ L s.heap m) (X : (heapK w.params).In h₀) (N : News h₀ L s.heap ((e, exo none vs) :: l)) (hl : ∀ p ∈ l, p.1 ≠ e) (hf : findIn (heapK w.params) (.ref 63) name = some none)
  (h : ∀ h' tk' dE oE, DictM oE (fun y => if y = name then some v else none) → (∀ p ∈ (e, exo none vs) :: l, p.1 < dE) → L < dE → Fr h₀ L h' m → News h₀ L h' ((e, exo (some dE) vs) :: (dE, oE) :: l) → Q () { s with heap := h', toks := tk' }) :
  wpAny (MD w) A (setAttr (.ref e) name v) Q E s := by
 obtain ⟨hh, g, d, t, os⟩ := s
 have Xh := X.keeps F.keep
 obtain ⟨nm, q, bs, sn, sub, ab, col, dd, k0, k1, k2, k3, k5, newId, hC, -⟩ := cls63 w Xh
 have he := N _ (.head _)
 obtain ⟨od, I₀⟩ := exo_inst N (.head _) fun d hd => nomatch hd
 have I : hh.Inst e 63 (fun _ => none) := ⟨_, he.1, rfl, (fun c hc => by cases hc), Or.inl ⟨rfl, fun _ => rfl⟩⟩
 refine exc_put Xh hC (by kernel_rfl) (by kernel_rfl) hf I₀ I (ns := []) (fun h' tk' I' aft => ?_) Within.nil (by rw [sizeLine_eq]; decide)
 obtain ⟨k1, k2, k3⟩ := aft
 obtain ⟨o₁, h₁, c1, c2, c3, -⟩ := k2 _ he.1
 obtain ⟨o₂, h₂, hc₂, -, hd⟩ := I'
 rw [h₁] at h₂
 obtain rfl := Option.some.inj h₂
 rcases hd with ⟨hd, hz⟩ | ⟨dE, hd, hne, hN⟩
 ·have := hz name
  simp at this
 have hdE := k3 _ _ _ he.1 rfl h₁ hd
 obtain ⟨oE, es, ep, e1, r⟩ := id hN
 have ho₁ : o₁ = exo (some dE) vs := by
  obtain ⟨a, b, c, dd⟩ := o₁
  dsimp only at c1 c2 c3 hd
  subst c1 c2 c3 hd
  rfl
 subst ho₁
 have lt : ∀ p ∈ (e, exo none vs) :: l, p.1 < hh.objs.size := fun p hp => Heap.lt_size (N p hp).1
 obtain ⟨oL, esL, epL, hL, -⟩ := F.ns
 have ltL : L < hh.objs.size := Heap.lt_size hL
 have kp : ∀ b o, b ≠ e → hh.get? b = some o → h'.get? b = some o := fun b o hb ho => k1 b o hb (fun o₀ dx h₀' hdx => by
  rw [he.1] at h₀'
  obtain rfl := Option.some.inj h₀'
  cases hdx) ho
 refine h h' tk' dE oE ?_ (fun p hp => Nat.lt_of_lt_of_le (lt p hp) hdE) (Nat.lt_of_lt_of_le ltL hdE) (fr_of F fun b o hb ho => kp b o ?_ ho) ?_
 ·exact dictM_of e1 (by simpa using hN)
 ·rintro rfl
  rcases hb with rfl | hb
  ·exact he.2.1 rfl
  ·rw [he.2.2] at hb; cases hb
 ·intro p hp
  rcases List.mem_cons.mp hp with rfl | hp
  ·exact ⟨h₁, he.2⟩
  ·rcases List.mem_cons.mp hp with rfl | hp
   ·exact ⟨e1, Nat.ne_of_gt (Nat.lt_of_lt_of_le ltL hdE), by
     cases q : h₀.get? dE with
     | none => rfl
     | some o => exact absurd (Heap.lt_size (F.keep _ _ q)) (Nat.not_lt.mpr hdE)⟩
   ·exact ⟨kp _ _ (hl p hp) (N p (.tail _ hp)).1, (N p (.tail _ hp)).2⟩
theorem exc_put1 (w : World) {A : Around} {E : Value → Shared → Prop} {s : Shared} {h₀ : Heap} {L e dE : Addr} {oE : Obj} {m mE : Str → Option Value} {l : Led} {vs : Array Value} {name : Str} {v : Value} {Q : Unit → Shared → Prop} {ns : List Str}
  (F : Fr h₀ L s.heap m) (X : (heapK w.params).In h₀) (N : News h₀ L s.heap ((e, exo (some dE) vs) :: (dE, oE) :: l)) (hE : DictM oE mE) (hed : dE ≠ e) (hl : ∀ p ∈ l, p.1 ≠ e ∧ p.1 ≠ dE) (hf : findIn (heapK w.params) (.ref 63) name = some none) (hw : Within mE ns) (hsz : ns.length < 1000)
  (h : ∀ h' tk' oE', DictM oE' (fun y => if y = name then some v else mE y) → Fr h₀ L h' m → News h₀ L h' ((e, exo (some dE) vs) :: (dE, oE') :: l) → Q () { s with heap := h', toks := tk' }) :
  wpAny (MD w) A (setAttr (.ref e) name v) Q E s := by
 obtain ⟨hh, g, d, t, os⟩ := s
 have Xh := X.keeps F.keep
 obtain ⟨nm, q, bs, sn, sub, ab, col, dd, k0, k1, k2, k3, k5, newId, hC, -⟩ := cls63 w Xh
 have he := N _ (.head _)
 have hdd := N _ (.tail _ (.head _))
 obtain ⟨od, I₀⟩ := exo_inst N (.head _) fun d hd => ⟨oE, by cases hd; exact .tail _ (.head _)⟩
 have I : hh.Inst e 63 mE := ⟨_, he.1, rfl, (fun c hc => by cases hc), Or.inr ⟨dE, rfl, hed, hE.2 _ _ hdd.1⟩⟩
 refine exc_put Xh hC (by kernel_rfl) (by kernel_rfl) hf I₀ I (ns := ns) (fun h' tk' I' aft => ?_) hw (by rw [sizeLine_eq]; omega)
 obtain ⟨k1, k2, k3⟩ := aft
 obtain ⟨o₁, h₁, c1, c2, c3, c4⟩ := k2 _ he.1
 obtain ⟨o₂, h₂, hc₂, -, hd⟩ := I'
 rw [h₁] at h₂
 obtain rfl := Option.some.inj h₂
 have hd1 := c4 dE rfl
 have ho₁ : o₁ = exo (some dE) vs := by
  obtain ⟨a, b, c, dd⟩ := o₁
  dsimp only at c1 c2 c3 hd1
  subst c1 c2 c3 hd1
  rfl
 subst ho₁
 rcases hd with ⟨hd, hz⟩ | ⟨d₂, hd, hne, hN⟩
 ·cases hd
 obtain rfl := Option.some.inj hd
 obtain ⟨oE', es, ep, e1, r⟩ := id hN
 have kp : ∀ b o, b ≠ e → b ≠ dE → hh.get? b = some o → h'.get? b = some o := fun b o hb hb' ho => k1 b o hb (fun o₀ dx h₀' hdx => by
  rw [he.1] at h₀'
  obtain rfl := Option.some.inj h₀'
  obtain rfl := Option.some.inj hdx
  exact hb') ho
 refine h h' tk' oE' (dictM_of e1 hN) (fr_of F fun b o hb ho => kp b o ?_ ?_ ho) ?_
 ·rintro rfl
  rcases hb with rfl | hb
  ·exact he.2.1 rfl
  ·rw [he.2.2] at hb; cases hb
 ·rintro rfl
  rcases hb with rfl | hb
  ·exact hdd.2.1 rfl
  ·rw [hdd.2.2] at hb; cases hb
 ·intro p hp
  rcases List.mem_cons.mp hp with rfl | hp
  ·exact ⟨h₁, he.2⟩
  ·rcases List.mem_cons.mp hp with rfl | hp
   ·exact ⟨e1, hdd.2⟩
   ·exact ⟨kp _ _ (hl p hp).1 (hl p hp).2 (N p (.tail _ (.tail _ hp))).1, (N p (.tail _ (.tail _ hp))).2⟩

end
section --E4
theorem pfinit_fn (w : World) {e : Addr} {vs : Array Value} {J : Led} {msg pl : Value} (hJ : ∀ p ∈ J, p.1 ≠ e) :
  Fn w 60 [.ref e, msg, pl] 1 8 [e] ((e, exo none vs) :: J) (fun r nx => r = .none ∧ ∃ dE oE, nx = (e, exo (some dE) vs) :: (dE, oE) :: J ∧ DictM oE (fun y => if y = Str.ofString "place" then some pl else if y = Str.ofString "message" then some msg else none)) := by
 tbr_iter (Fn.of (by simp) [(Str.ofString "self", .ref e), (Str.ofString "message", msg), (Str.ofString "place", pl)])
 intro p loose mean mg mb fr gd dp un h₀ L h tk s D X T F N hD hd hu
 rw [List.cons_append] at N
 have hl : ∀ q ∈ J ++ D, q.1 ≠ e := fun q hq => (List.mem_append.mp hq).elim (hJ q) fun hq k => hD q hq (by simp [k])
 k_steps
 refine exc_put0 w F X N hl (by kernel_rfl) ?_
 intro h' tk' dE oE hE hlt hL F' N'
 clear F N
 k_steps
 refine exc_put1 w F' X N' hE (Nat.ne_of_gt (hlt _ (.head _))) (fun p hp => ⟨hl p hp, Nat.ne_of_lt (hlt _ (.tail _ hp))⟩) (by kernel_rfl) (Within.cons (Str.ofString "message") msg Within.nil) (by decide) ?_
 intro h₂ tk₂ oE' hE' F₂ N₂
 clear F' N'
 k_steps
 refine Out.mk ((e, exo (some dE) vs) :: (dE, oE') :: J) F₂ N₂ (fun _ hp => by simpa using hp) ⟨rfl, dE, oE', rfl, hE'⟩ ?_
 refine kin_cons (kin_key (.head _)) (kin_cons ?_ (kin_I fun q hq => .tail _ hq))
 exact .inr (.inr fun q hq => hlt q (.tail _ (List.mem_append_right _ hq)))

end
section
open PySem PySem.W PyProof.Rows PySem.Calls PySem.Spec
noncomputable def S (cs : List Nat) : Str := ⟨cs.toArray⟩
theorem S_len (cs : List Nat) : (S cs).length = cs.length := by simp [S, Str.length]
theorem S_item {cs : List Nat} {i : Nat} (h : i < cs.length) : Txt.item (S cs) (i : Int) = S [cs[i]] := by
 have e : seqIndex? (i : Int) (S cs).length = some i := by
  rw [S_len]
  unfold seqIndex?
  rw [if_neg (Int.not_lt.mpr (Int.natCast_nonneg i)), if_pos (Bool.and_eq_true_iff.mpr ⟨decide_eq_true (Int.natCast_nonneg i), decide_eq_true (Int.ofNat_lt.mpr h)⟩)]
  rfl
 unfold Txt.item Txt.charAt
 rw [e]
 simp [S, h]
theorem S_in (x : List Nat) (c : Nat) : Txt.contains (S x) (S [c]) = decide (c ∈ x) := StrLaws.found_one (S x) c
theorem S_cat (a b : List Nat) : S a ++ S b = S (a ++ b) := by
 apply Str.ext'
 simp [S, Str.cps_append]
theorem S_slice {cs : List Nat} {i j : Nat} (h : i ≤ j) (hj : j ≤ cs.length) : Txt.slice (S cs) (some (i : Int)) (some (j : Int)) = S ((cs.drop i).take (j - i)) := by
 have := PyProof.Rows.slice_closes (x := S cs) (i := i) (j := j) ⟨by omega, by omega, by simp [S]; omega⟩
 rw [beq_iff_eq] at this
 rw [this]
 have e : ((j : Int) - i).toNat = j - i := Int.toNat_sub j i
 simp [S, e]
theorem S_slice_over {cs : List Nat} {i j : Nat} (hj : cs.length ≤ j) : Txt.slice (S cs) (some (i : Int)) (some (j : Int)) = Txt.slice (S cs) (some (i : Int)) (some (cs.length : Int)) := by
 have e : Builtin.Str.strSliceIndices (some (i : Int)) (some (j : Int)) 1 (S cs).length = Builtin.Str.strSliceIndices (some (i : Int)) (some (cs.length : Int)) 1 (S cs).length := by
  unfold Builtin.Str.strSliceIndices
  simp only [S_len]
  have e1 : ¬ ((j : Int) < 0) := Int.not_lt.mpr (Int.natCast_nonneg j)
  have e2 : ¬ ((cs.length : Int) < 0) := Int.not_lt.mpr (Int.natCast_nonneg _)
  have m1 : min (j : Int) (cs.length : Int) = cs.length := Int.min_eq_right (Int.ofNat_le.mpr hj)
  simp only [if_neg e1, if_neg e2, m1, Int.min_self, if_pos (by decide : (1 : Int) > 0)]
 unfold Txt.slice
 rw [e]
theorem S_slice1 {cs : List Nat} {i : Nat} (h : i ≤ cs.length) : Txt.slice (S cs) (some (i : Int)) (some ((i : Int) + 1)) = S ((cs.drop i).take 1) := by
 by_cases hi : i < cs.length
 ·have := S_slice (cs := cs) (i := i) (j := i + 1) (by omega) (by omega)
  rw [show i + 1 - i = 1 by omega] at this
  exact this
 ·have := S_slice_over (cs := cs) (i := i) (j := i + 1) (by omega)
  have e : i = cs.length := by omega
  show Txt.slice (S cs) (some (i : Int)) (some ((i + 1 : Nat) : Int)) = _
  rw [this, S_slice (by omega) (by omega), e]
  simp
theorem S_eq (a b : List Nat) : (S a = S b) ↔ a = b := by simp [S]
theorem S_cps (a : List Nat) : (S a).cps.toList = a := by simp [S]

end
section --S1
inductive ScD (cs : List Nat) (i : Int) : Obj → Prop
 | mk {h1 h2 : Int} {k1 k2 t1 t2 : Tok} : ScD cs i (dictOf [⟨h1, .str (Str.ofString "text") k1, .str (S cs) t1⟩, ⟨h2, .str (Str.ofString "at") k2, .int i t2⟩] 2)

noncomputable def isB (c : Nat) : Bool := c == 32 || c == 9 || c == 10 || c == 13 || c == 12
noncomputable def skipB (cs : List Nat) (i : Nat) : Nat := i + ((cs.drop i).takeWhile isB).length
theorem lit_blanks : Str.ofString " \t\n\r\x0c" = S [32, 9, 10, 13, 12] := by decide +kernel
theorem isB_mem {c : Nat} : decide (c ∈ [32, 9, 10, 13, 12]) = isB c := by simp [isB, Bool.or_assoc]; rfl
theorem in_of {prog : Program} {w : World} {A : Around} {E : Value → Shared → Prop} {s : Shared} {Q : Value → Shared → Prop} {x : Str} {l : List Nat} {c : Nat} {t u : Tok} (e : x = S l) (h : Q (.bool (decide (c ∈ l))) s) :
  wpAny (model prog w) A (compareOp .In (.str (S [c]) u) (.str x t)) Q E s := by
 subst e
 refine SB.contains ?_
 rw [S_in]
 exact h
theorem skipB_yes {cs : List Nat} {i : Nat} (h : i < cs.length) (hb : isB cs[i] = true) : skipB cs (i + 1) = skipB cs i := by
 unfold skipB
 rw [List.drop_eq_getElem_cons h, List.takeWhile_cons, hb]
 simp
 omega
theorem skipB_no {cs : List Nat} {i : Nat} (h : i < cs.length) (hb : isB cs[i] = false) : skipB cs i = i := by
 unfold skipB
 rw [List.drop_eq_getElem_cons h, List.takeWhile_cons, hb]
 simp
theorem skipB_end {cs : List Nat} {i : Nat} (h : cs.length ≤ i) : skipB cs i = i := by
 unfold skipB
 rw [List.drop_eq_nil_of_le h]
 simp
theorem skipB_le {cs : List Nat} {i : Nat} (h : i ≤ cs.length) : skipB cs i ≤ cs.length := by
 unfold skipB
 have := (List.takeWhile_sublist isB (l := cs.drop i)).length_le
 have e := List.length_drop (l := cs) (i := i)
 omega


noncomputable def ScS (cs : List Nat) (i : Nat) (d : Addr) (M' add : Led) : Prop := ∃ o', ScD cs i o' ∧ M' = [(d, o')] ∧ add = []
theorem noTup2 {d e : Addr} {o u : Obj} (h : NoTup (d, o)) (k : NoTup (e, u)) : ∀ q ∈ [(d, o), (e, u)], NoTup q := fun q hq => by
 rcases List.mem_cons.mp hq with rfl | hq
 ·exact h
 ·rw [List.mem_singleton.mp hq]; exact k
section
variable {prog : Program} {w : World} {A : Around} {E : Value → Shared → Prop} {s : Shared} {Q : Value → Shared → Prop} {x y : Str} {cs : List Nat} {i a b : Nat} {t u t1 t2 : Tok}
theorem take1_some (h : i < cs.length) : (cs.drop i).take 1 = [cs[i]] := by rw [List.drop_eq_getElem_cons h]; rfl
theorem take1_none (h : ¬ i < cs.length) : (cs.drop i).take 1 = [] := by rw [List.drop_eq_nil_of_le (by omega)]; rfl
theorem in_pairS {t₀ : Tok} {z : Str} {c : Addr} {n : Nat} {h₀ : Heap} {L : Addr} {l : Led} (N : News h₀ L s.heap l) (hm : (c, ({ cls := .type "tuple", data := .seq [Value.str x t1, Value.str y t2].toArray n } : Obj)) ∈ l)
  (h : Q (.bool (x == z || y == z)) s) : wpAny (model prog w) A (compareOp .In (.str z t₀) (.ref c)) Q E s := by
 refine SeqAt.in_tupleAt (items := #[Value.str x t1, Value.str y t2]) (fun v => match v with | .str q _ => q == z | _ => false) ⟨_, (N _ hm).1, rfl, n, rfl⟩ ?_ (by simpa using h)
 intro v hv
 simp at hv
 rcases hv with rfl | rfl
 ·exact (eqGives_str _ _ _ _).at _ _
 ·exact (eqGives_str _ _ _ _).at _ _
theorem notIn_pairS {t₀ : Tok} {z : Str} {c : Addr} {n : Nat} {h₀ : Heap} {L : Addr} {l : Led} (N : News h₀ L s.heap l) (hm : (c, ({ cls := .type "tuple", data := .seq [Value.str x t1, Value.str y t2].toArray n } : Obj)) ∈ l)
  (h : Q (.bool (!(x == z || y == z))) s) : wpAny (model prog w) A (compareOp .NotIn (.str z t₀) (.ref c)) Q E s := by
 refine SeqAt.notIn_tupleAt (items := #[Value.str x t1, Value.str y t2]) (fun v => match v with | .str q _ => q == z | _ => false) ⟨_, (N _ hm).1, rfl, n, rfl⟩ ?_ (by simpa using h)
 intro v hv
 simp at hv
 rcases hv with rfl | rfl
 ·exact (eqGives_str _ _ _ _).at _ _
 ·exact (eqGives_str _ _ _ _).at _ _
end
theorem lit_nil : Str.ofString "" = S [] := by decide +kernel
theorem lit_44 : Str.ofString "," = S [44] := by decide +kernel
theorem lit_46 : Str.ofString "." = S [46] := by decide +kernel
theorem lit_43 : Str.ofString "+" = S [43] := by decide +kernel
theorem lit_45 : Str.ofString "-" = S [45] := by decide +kernel
theorem lit_e : Str.ofString "e" = S [101] := by decide +kernel
theorem lit_E : Str.ofString "E" = S [69] := by decide +kernel
theorem lit_0 : Str.ofString "0" = S [48] := by decide +kernel
theorem lit_1 : Str.ofString "1" = S [49] := by decide +kernel
theorem lit_digs : Str.ofString "0123456789" = S [48, 49, 50, 51, 52, 53, 54, 55, 56, 57] := by decide +kernel
theorem OutM.sub1 {h₀ : Heap} {L : Addr} {s₀ : Shared} {d : Addr} {o o' : Obj} {JD news' : Led} {P : Value → Led → Led → Prop} {v : Value} {h' : Heap} {tk : Nat} {m'} (F : Fr h₀ L h' m') (N : News h₀ L h' news') (hm : (d, o') ∈ news') (hs : ∀ p ∈ JD, p ∈ news')
  (hp : P v [(d, o')] []) (hn : NoTup (d, o')) : OutM h₀ L s₀ [(d, o)] JD P v { s₀ with heap := h', toks := tk } := OutM.mk [(d, o')] [] F N (List.forall_mem_cons.mpr ⟨hm, hs⟩) hp Tups.nil (noTup1 hn) rfl
theorem lit_sgn : Str.ofString "+-." ++ Str.ofString "0123456789" = S [43, 45, 46, 48, 49, 50, 51, 52, 53, 54, 55, 56, 57] := by decide +kernel
noncomputable def isDig (c : Nat) : Bool := decide (48 ≤ c) && decide (c ≤ 57)
theorem isDig_mem {c : Nat} : decide (c ∈ [48, 49, 50, 51, 52, 53, 54, 55, 56, 57]) = isDig c := by
 by_cases h : c < 58
 ·exact (by decide +kernel : ∀ c < 58, decide (c ∈ [48, 49, 50, 51, 52, 53, 54, 55, 56, 57]) = isDig c) c h
 ·rw [decide_eq_false fun hm => h ((by decide : ∀ x ∈ [48, 49, 50, 51, 52, 53, 54, 55, 56, 57], x < 58) c hm), isDig, decide_eq_false (p := c ≤ 57) fun h' => h (Nat.lt_succ_of_le h'), Bool.and_false]
noncomputable def skipD (cs : List Nat) (i : Nat) : Nat := i + ((cs.drop i).takeWhile isDig).length
theorem skipD_yes {cs : List Nat} {i : Nat} (h : i < cs.length) (hb : isDig cs[i] = true) : skipD cs (i + 1) = skipD cs i := by
 unfold skipD
 rw [List.drop_eq_getElem_cons h, List.takeWhile_cons, hb]
 simp
 omega
theorem skipD_no {cs : List Nat} {i : Nat} (h : i < cs.length) (hb : isDig cs[i] = false) : skipD cs i = i := by
 unfold skipD
 rw [List.drop_eq_getElem_cons h, List.takeWhile_cons, hb]
 simp
theorem skipD_end {cs : List Nat} {i : Nat} (h : cs.length ≤ i) : skipD cs i = i := by
 unfold skipD
 rw [List.drop_eq_nil_of_le h]
 simp
theorem skipD_le {cs : List Nat} {i : Nat} (h : i ≤ cs.length) : skipD cs i ≤ cs.length := by
 unfold skipD
 have := (List.takeWhile_sublist isDig (l := cs.drop i)).length_le
 have e := List.length_drop (l := cs) (i := i)
 omega
theorem skipD_ge {cs : List Nat} {i : Nat} : i ≤ skipD cs i := by unfold skipD; omega
noncomputable def looksN (cs : List Nat) (i : Nat) : Bool := match cs[i]? with
 | some c => decide (c ∈ [43, 45, 46, 48, 49, 50, 51, 52, 53, 54, 55, 56, 57])
 | none => false
theorem looksN_yes {cs : List Nat} {i : Nat} (h : i < cs.length) : looksN cs i = decide (cs[i] ∈ [43, 45, 46, 48, 49, 50, 51, 52, 53, 54, 55, 56, 57]) := by
 unfold looksN; rw [List.getElem?_eq_getElem h]
theorem looksN_no {cs : List Nat} {i : Nat} (h : ¬ i < cs.length) : looksN cs i = false := by
 unfold looksN; rw [List.getElem?_eq_none (by omega)]
section
variable {prog : Program} {w : World} {A : Around} {E : Value → Shared → Prop} {s : Shared} {Q : Value → Shared → Prop} {x y : Str} {cs : List Nat} {i a b : Nat} {t u t1 t2 : Tok}
end

noncomputable def letters : List Nat := [77, 109, 76, 108, 72, 104, 86, 118, 67, 99, 83, 115, 81, 113, 84, 116, 65, 97, 90, 122]
theorem lit_letters : Str.ofString "MmLlHhVvCcSsQqTtAaZz" = S letters := by decide +kernel
noncomputable def isL (c : Nat) : Bool := decide (c ∈ letters)
noncomputable def OkT (cs : List Nat) : Prop := ∀ c ∈ cs, c ≠ 43 ∧ c ≠ 46 ∧ c ≠ 101 ∧ c ≠ 69
theorem OkT.at {cs : List Nat} (h : OkT cs) {i : Nat} (hi : i < cs.length) : cs[i] ≠ 43 ∧ cs[i] ≠ 46 ∧ cs[i] ≠ 101 ∧ cs[i] ≠ 69 := h _ (List.getElem_mem hi)
theorem lt7 : ∀ way < 7, way = 0 ∨ way = 1 ∨ way = 2 ∨ way = 3 ∨ way = 4 ∨ way = 5 ∨ way = 6 := by decide

end
section --E5
theorem fault_make (w : World) {p : Program} {loose : List Str} {mean : ExcName → Option Value} {mg mb : Str → Option Value} {fr : Option (List Env)} {gd : Option (List Code)} {dp un : Nat} {h₀ : Heap} {L : Addr} {m : Str → Option Value} {s : Shared} {msg pl : Value} {l : Led} {Q E : Value → Shared → Prop}
  (F : Fr h₀ L s.heap m) (X : (heapK w.params).In h₀) (T : Top p loose mean mg mb h₀) (N : News h₀ L s.heap l) (hd : dp + 6 < recursionLimit) (hu : un + 20 < cLine)
  (ret : ∀ e t dE oE h' tk', DictM oE (fun y => if y = Str.ofString "place" then some pl else if y = Str.ofString "message" then some msg else none) → (∀ p ∈ l, p.1 ≠ e ∧ p.1 ≠ dE) → e ≠ dE → Fr h₀ L h' m →
   News h₀ L h' ((e, exo (some dE) #[.ref t, .none, .none, .none, .bool false, .none]) :: (dE, oE) :: l) → Q (.ref e) { s with heap := h', toks := tk' }) :
  wpAny (MD w) (At fr gd dp un) (call (.ref 63) [msg, pl]) Q E s := by
 obtain ⟨hh, g, d, t, os⟩ := s
 have Xh := X.keeps F.keep
 obtain ⟨nm, q, bs, sn, sub, ab, col, dd, k0, k1, k2, k3, k5, newId, hC, rfl⟩ := cls63 w Xh
 have hf : hh.get? 60 = some (o60 w.params) := Xh _ _ (by kernel_rfl)
 have h62 : hh.get? 62 = some (o62 w.params) := Xh _ _ (by kernel_rfl)
 have hn : hh.Ns 62 (fun y => (o62 w.params).data.casesOn (motive := fun _ => Option Value) none (fun _ => none) (fun _ _ => none) (fun es _ => nsFind es y) (fun _ _ _ => none) (fun _ _ => none) (fun _ => none) (fun _ => none) (fun _ => none) (fun _ => none) none) :=
  ⟨o62 w.params, _, _, h62, rfl, by intro e he; simp at he; rcases he with rfl | rfl | rfl | rfl | rfl <;> exact ⟨_, _, rfl⟩, fun _ => rfl⟩
 refine exc_call (fI := 60) PySem.F.excBase_Exception (by decide) (by decide) (by decide) hC hn (by kernel_rfl) hf rfl (by simp [sizeLine_eq]) (fun h' e hm => ?_)
 obtain ⟨t₁, he, -, -⟩ := hm.there
 obtain ⟨oL, esL, epL, hL, -⟩ := F.ns
 have hel : ∀ q ∈ l, q.1 ≠ e := fun q hq k => by have := (N q hq).1; rw [k] at this; exact absurd (this.symm.trans hm.new) (fun z => nomatch z)
 have hLe : e ≠ L := fun k => by rw [k] at hm; exact absurd (hL.symm.trans hm.new) (fun z => nomatch z)
 have h0e : h₀.get? e = none := by
  cases z : h₀.get? e with
  | none => rfl
  | some o => exact absurd ((F.keep _ _ z).symm.trans hm.new) (fun z => nomatch z)
 have F' : Fr h₀ L h' m := fr_of F fun b o _ ho => hm.keeps _ _ ho
 have N' : News h₀ L h' ([(e, exo none #[.ref t₁, .none, .none, .none, .bool false, .none])] ++ l) := by
  intro q hq
  rcases List.mem_cons.mp hq with rfl | hq
  ·exact ⟨he, hLe, h0e⟩
  ·exact ⟨hm.keeps _ _ (N q hq).1, (N q hq).2⟩
 refine Fn.use (pfinit_fn w (J := []) (fun _ hp => nomatch hp)) l F' X T N' (fun q hq k => hel q hq (by simpa using k)) ?_ ?_ fun r h₂ tk₂ nx hp F₂ N₂ hk => ?_
 ·have z : (Code.builtin "type.__call__" ⟨[.ref 63, msg, pl], []⟩).weight ≤ 4 := Nat.le_of_ble_eq_true (by kernel_rfl)
  have y : (At fr gd dp un).depth = dp := rfl
  show (At fr gd dp un).depth + _ + 1 < recursionLimit
  omega
 ·show (At fr gd dp un).units + _ + 8 < cLine
  have z : (Code.builtin "type.__call__" ⟨[.ref 63, msg, pl], []⟩).cUnits ≤ 4 := Nat.le_of_ble_eq_true (by kernel_rfl)
  have y : (At fr gd dp un).units = un := rfl
  omega
 ·obtain ⟨rfl, dE, oE, rfl, hE⟩ := hp
  have hde : e ≠ dE := fun k => by
   subst k
   have := news_one N₂ (a := e) (.head _) (.tail _ (.head _))
   obtain ⟨⟨es, n, z⟩, -⟩ := hE
   rw [← this] at z
   cases z
  refine ⟨rfl, ret e t₁ dE oE h₂ tk₂ hE (fun q hq => ⟨hel q hq, fun k => ?_⟩) hde F₂ N₂⟩
  rcases hk (dE, oE) (.tail _ (.head _)) with z | z | z
  ·have z' : dE = e := by simpa using z
   exact hde z'.symm
  ·obtain ⟨⟨es, n, z'⟩, -⟩ := hE
   exact z es n z'
  ·have lt := z q hq
   exact Nat.ne_of_lt lt k

end
section --X2

noncomputable def FaultAt (i : Nat) (oE : Obj) : Prop := ∃ mE t, DictM oE mE ∧ mE (Str.ofString "place") = some (.int (i : Int) t)
theorem fault_fn (w : World) {x d : Addr} {o : Obj} {cs : List Nat} {i : Nat} {msg : Value} (hs : ScD cs i o) :
  FnXM w 214 [.ref x, msg] 8 32 [(d, o)] [(x, instObj 273 d)] (fun _ _ _ => False) (fun oE M' add => FaultAt i oE ∧ M' = [(d, o)] ∧ add = []) := by
 obtain ⟨⟩ := hs
 tbr_iter (FnXM.ofS [(Str.ofString "self", .ref x), (Str.ofString "message", msg)])
 intro p loose mean mg mb fl gd dp un h₀ L h tk s JD frs E X T F N hn hx hJ hS Fs hd hu hE hX
 refine wpAny_execs_cons ?_
 obtain ⟨nm, q, bs, sn, sub, ab, col, dd, k0, k1, k2, k3, k5, newId, hC, -⟩ := cls63 w X
 refine exec_raise (nm := nm) (q := q) (C := 63) (Ns := 62) (bs := bs) (bm := [.ref 31, .type "Exception", .type "BaseException", .type "object"]) (hdct := true) (sn := sn) (sub := sub) (ab := ab) (col := col) (dd := dd) (k0 := k0) (k1 := k1) (k2 := k2) (k3 := k3) (k5 := k5) (newId := newId) (by decide) rfl ?_
 k_steps
 refine fault_make w F X T N (by omega) (by omega) ?_
 intro e t dE oE h' tk' hE hl hne F' N'
 have hdE : ∃ es n, oE.data = .dict es n := hE.1
 refine ⟨e, t, some dE, #[], rfl, F'.keep _ _ hC, (N' _ (.head _)).1, ?_⟩
 refine hX e dE oE h' tk' _ _ [] frs ⟨⟨_, _, hE, if_pos rfl⟩, rfl, rfl⟩ Tups.nil hn ⟨(N' _ (.head _)).2.2, _, _, (N' _ (.head _)).1, by simp, .inl rfl⟩ (SameUp.refl frs) F' (fun q hq => N' q (.tail _ hq)) ⟨.inl fun vs k => ?_, fun r hr k => ?_⟩
 ·obtain ⟨es, n, z⟩ := hdE
  rw [z] at k
  cases k
 ·exact (hl r (.tail _ (List.mem_append_right _ hr))).2 k.symm

end
section --SP
noncomputable def sepIs (cs : List Nat) (i : Nat) : Bool := cs[skipB cs i]? == some 44
noncomputable def sepEnd (cs : List Nat) (i : Nat) : Nat := if sepIs cs i then skipB cs (skipB cs i + 1) else skipB cs i
theorem sepEnd_yes {cs : List Nat} {i : Nat} (h : sepIs cs i = true) : sepEnd cs i = skipB cs (skipB cs i + 1) := by unfold sepEnd; rw [h]; rfl
theorem sepEnd_no {cs : List Nat} {i : Nat} (h : sepIs cs i = false) : sepEnd cs i = skipB cs i := by unfold sepEnd; rw [h]; rfl
theorem sepEnd_le {cs : List Nat} {i : Nat} (h : i ≤ cs.length) : sepEnd cs i ≤ cs.length := by
 cases q : sepIs cs i with
 | false => rw [sepEnd_no q]; exact skipB_le h
 | true =>
  rw [sepEnd_yes q]
  unfold sepIs at q
  refine skipB_le ?_
  by_cases g : skipB cs i < cs.length
  ·omega
  ·rw [List.getElem?_eq_none (by omega)] at q; cases q
noncomputable def numJ (cs : List Nat) (i : Nat) : Nat := if cs[i]? = some 45 then i + 1 else i
noncomputable def numE (cs : List Nat) (i : Nat) : Nat := skipD cs (numJ cs i)
noncomputable def wholeOf (ds : List Nat) : Int := ds.foldl (fun (n : Int) (c : Nat) => n * 10 + ((c : Int) - 48)) 0
theorem wholeOf_snoc (ds : List Nat) (c : Nat) : wholeOf (ds ++ [c]) = wholeOf ds * 10 + ((c : Int) - 48) := by simp [wholeOf]
theorem take_snoc {ds : List Nat} {i : Nat} (h : i < ds.length) : ds.take (i + 1) = ds.take i ++ [ds[i]] := by rw [List.take_add_one, List.getElem?_eq_getElem h]; rfl
theorem find_dig {c : Nat} (h : isDig c = true) : Txt.find (Str.ofString "0123456789") ⟨#[c]⟩ = (c : Int) - 48 := by
 rw [← isDig_mem, decide_eq_true_eq] at h
 simp only [List.mem_cons, List.not_mem_nil, or_false] at h
 rcases h with rfl | rfl | rfl | rfl | rfl | rfl | rfl | rfl | rfl | rfl <;> decide +kernel
noncomputable def numV (cs : List Nat) (i : Nat) : Int := if cs[i]? = some 45 then -wholeOf ((cs.drop (numJ cs i)).take (numE cs i - numJ cs i)) else wholeOf ((cs.drop (numJ cs i)).take (numE cs i - numJ cs i))
theorem numT {cs : List Nat} {j : Nat} : (cs.drop j).take (skipD cs j - j) = (cs.drop j).takeWhile isDig := by
 have e : skipD cs j - j = ((cs.drop j).takeWhile isDig).length := by unfold skipD; omega
 rw [e]
 exact (List.prefix_iff_eq_take.mp (List.takeWhile_prefix isDig)).symm
theorem mem_takeWhile {l : List Nat} {p : Nat → Bool} {c : Nat} (h : c ∈ l.takeWhile p) : p c = true := by
 induction l with
 | nil => cases h
 | cons a r ih =>
  rw [List.takeWhile_cons] at h
  cases q : p a with
  | false => rw [q] at h; cases h
  | true =>
   rw [q] at h
   rcases List.mem_cons.mp h with rfl | h
   ·exact q
   ·exact ih h
theorem takeWhile_all {l : List Nat} {p : Nat → Bool} (h : ∀ c ∈ l, p c = true) : l.takeWhile p = l := by
 induction l with
 | nil => rfl
 | cons a r ih => rw [List.takeWhile_cons, h a (.head _), if_pos rfl, ih fun c hc => h c (.tail _ hc)]
theorem skipD_all {cs : List Nat} {i : Nat} (h1 : i ≤ cs.length) (h : ∀ c ∈ cs.drop i, isDig c = true) : skipD cs i = cs.length := by
 unfold skipD
 rw [takeWhile_all h, List.length_drop]
 omega
theorem lit_eE : Str.ofString "eE" = S [101, 69] := by decide +kernel
theorem lit_pm : Str.ofString "+-" = S [43, 45] := by decide +kernel

end
section --P1
noncomputable def FnP (w : World) (f : Addr) (vs : List Value) (dep uni : Nat) (J : Led) (P : Value → Led → Prop) : Prop := FnM w f vs dep uni [] J (fun r _ add => P r add)
noncomputable def OutP (h₀ : Heap) (L : Addr) (s₀ : Shared) (JD : Led) (P : Value → Led → Prop) (v : Value) (s' : Shared) : Prop :=
 ∃ h' tk m' add, s' = { s₀ with heap := h', toks := tk } ∧ Fr h₀ L h' m' ∧ News h₀ L h' (add ++ JD) ∧ P v add ∧ Tups add
theorem OutP.mk {h₀ : Heap} {L : Addr} {s₀ : Shared} {JD news' : Led} {P : Value → Led → Prop} {v : Value} {h' : Heap} {tk : Nat} {m'} (add : Led) (F : Fr h₀ L h' m') (N : News h₀ L h' news') (hs : ∀ p ∈ add ++ JD, p ∈ news') (hp : P v add) (ht : Tups add) :
  OutP h₀ L s₀ JD P v { s₀ with heap := h', toks := tk } := ⟨h', tk, m', add, rfl, F, fun p hp => N p (hs p hp), hp, ht⟩
theorem FnP.use {w : World} {f : Addr} {vs : List Value} {dep uni : Nat} {J : Led} {P : Value → Led → Prop} (c : FnP w f vs dep uni J P)
  {p : Program} {loose : List Str} {mean : ExcName → Option Value} {mg mb : Str → Option Value} {fr : Option (List Env)} {gd : Option (List Code)} {dp un : Nat} {h₀ : Heap} {L : Addr} {m : Str → Option Value} {s : Shared} {Q E : Value → Shared → Prop} {JD : Led}
  (F : Fr h₀ L s.heap m) (X : (heapK w.params).In h₀) (T : Top p loose mean mg mb h₀) (N : News h₀ L s.heap JD) (hJ : ∀ q ∈ J, q ∈ JD) (hd : dp + dep < recursionLimit) (hu : un + uni < cLine)
  (ret : ∀ r h' tk' add, P r add → Tups add → Fr h₀ L h' m → News h₀ L h' (add ++ JD) → Q r { s with heap := h', toks := tk' }) : wpAny (MD w) (At fr gd dp un) (call (.ref f) vs) Q E s := by
 refine FnM.use c (D := JD) F X T (fun q hq => N q ?_) (fun _ _ h => nomatch h) hd hu fun r h' tk' M' add hp ht hn e off F' N' => ret r h' tk' add hp ht F' fun q hq => N' q ?_
 ·replace hq : q ∈ J ++ JD := hq
  rcases List.mem_append.mp hq with hq | hq
  ·exact hJ q hq
  ·exact hq
 ·cases M' with
  | nil =>
   show q ∈ add ++ (J ++ JD)
   rcases List.mem_append.mp hq with hq | hq
   ·exact List.mem_append_left _ hq
   ·exact List.mem_append_right _ (List.mem_append_right _ hq)
  | cons a r => cases e
theorem FnP.of {w : World} {f : Addr} {vs : List Value} {dep uni : Nat} {J : Led} {P : Value → Led → Prop}
  {name qual : Str} {params : Arguments} {body : List Stmt} {scope : Scope} {dV kV doc pm cdv ct oc : Value} {an od : Option Addr} {osl : Array (Option Value)} (binds : List (Str × Value))
  (ho : (heapK w.params).lookup f = some ⟨oc, od, .func (fnOf name qual params body scope dV kV doc pm an cdv ct), osl⟩) (hcd : codeIn (heapK w.params) cdv qual = true)
  (hbind : ∀ s : Shared, (heapK w.params).In s.heap → BindsTo s (fnOf name qual params body scope dV kV doc pm an cdv ct) ⟨vs, []⟩ binds) (hloc : (binds.all fun x => decide (scope.names.lookup x.1 = some .local)) = true)
  (hdep : 0 < dep)
  (h : ∀ (p : Program) (loose : List Str) (mean : ExcName → Option Value) (mg mb : Str → Option Value) (fr : Option (List Env)) (gd : Option (List Code)) (dp un : Nat) (h₀ : Heap) (L : Addr) (h : Heap) (tk : Nat) (s : Shared) (JD : Led),
   (heapK w.params).In h₀ → Top p loose mean mg mb h₀ → Fr h₀ L h (fun y => binds.reverse.lookup y) → News h₀ L h JD → (∀ q ∈ J, q ∈ JD) → dp + dep < recursionLimit → un + uni < cLine →
   wpAny (MD w) (At fr gd (dp + 1) (un + 3)) (execs body (envOf qual scope L f cdv))
    (fun fl s' => OutP h₀ L s JD P (match fl with | .ret v => v | _ => .none) s') (fun _ _ => False) { s with heap := h, toks := tk })
  (hco : scope.isCoroutine = false) (hgen : scope.isGenerator = false) (hk : scope.kind = .function)
  (hcell : ∀ x ∈ scope.names, x.2 ≠ .cell) : FnP w f vs dep uni J P :=
 FnM.of binds ho hcd hbind hloc hdep (fun p loose mean mg mb fr gd dp un h₀ L hh tk s D X T F N hJ hd hu => by
  refine wpAny_mono (h p loose mean mg mb fr gd dp un h₀ L hh tk s (J ++ D) X T F N (fun q hq => List.mem_append_left _ hq) hd hu) (fun fl s' o => ?_) fun _ _ x => x
  obtain ⟨h', tk, m', add, rfl, F', N', hp, ht⟩ := o
  exact ⟨h', tk, m', [], add, rfl, F', N', hp, ht, (fun _ h => nomatch h), rfl⟩) hco hgen hk hcell
noncomputable def fr (x : Int) : Dat := .tuple [.int x, .int 1]
noncomputable def pt (p : Int × Int) : Dat := .tuple [fr p.1, fr p.2]
noncomputable abbrev tupO (vs : Array Value) (n : Nat) : Obj := { cls := .type "tuple", data := .seq vs n }

end
section --R2
noncomputable def manyN (c : Nat) : Nat := if c ∈ [77, 109, 76, 108, 84, 116] then 2 else if c ∈ [72, 104, 86, 118] then 1 else if c ∈ [81, 113] then 4 else 7
noncomputable def reads : List Nat := [77, 109, 76, 108, 84, 116, 72, 104, 86, 118, 81, 113, 65, 97]
noncomputable def behind (c : Nat) : Nat := if c = 77 then 76 else if c = 109 then 108 else c
inductive GR
 | ok (xs : List Int) (j : Nat)
 | bad (p : Nat)
noncomputable def GR.cons (x : Int) : GR → GR
 | .ok xs j => .ok (x :: xs) j
 | .bad p => .bad p
noncomputable def GR.pre (a : List Int) : GR → GR
 | .ok xs j => .ok (a ++ xs) j
 | .bad p => .bad p
theorem GR.pre_nil (r : GR) : r.pre [] = r := by cases r <;> rfl
theorem GR.pre_cons (a : List Int) (x : Int) (r : GR) : (r.cons x).pre a = r.pre (a ++ [x]) := by cases r <;> simp [GR.cons, GR.pre]
noncomputable def at0 (cs : List Nat) (place i : Nat) : Nat := if place = 0 then i else sepEnd cs i
inductive GrpR (cs : List Nat) (arc : Bool) (n : Nat) : Nat → Nat → GR → Prop
 | done {i : Nat} : GrpR cs arc n n i (.ok [] i)
 | num {place i : Nat} {r : GR} : place < n → (arc = true → place ≠ 3 ∧ place ≠ 4) → numJ cs (at0 cs place i) < numE cs (at0 cs place i) → GrpR cs arc n (place + 1) (numE cs (at0 cs place i)) r → GrpR cs arc n place i (r.cons (numV cs (at0 cs place i)))
 | lack {place i : Nat} : place < n → (arc = true → place ≠ 3 ∧ place ≠ 4) → numE cs (at0 cs place i) = numJ cs (at0 cs place i) → GrpR cs arc n place i (.bad (at0 cs place i))
 | flag {place i : Nat} : place < n → arc = true → (place = 3 ∨ place = 4) → (∀ h : at0 cs place i < cs.length, cs[at0 cs place i] ≠ 48) → (∀ h : at0 cs place i < cs.length, cs[at0 cs place i] ≠ 49) → GrpR cs arc n place i (.bad (at0 cs place i))
theorem numE_le {cs : List Nat} {i : Nat} (h : i ≤ cs.length) : numE cs i ≤ cs.length := by
 unfold numE numJ
 split
 ·rename_i h45
  obtain ⟨hi, -⟩ := List.getElem?_eq_some_iff.mp h45
  exact skipD_le hi
 ·exact skipD_le h

end
section --R3
theorem news_mem {h₀ h : Heap} {L : Addr} {l l' : Led} (N : News h₀ L h l) (h' : ∀ q ∈ l', q ∈ l) : News h₀ L h l' := fun q hq => N q (h' q hq)

end
section --LA1
noncomputable def Apart (base : Led) (q : Addr × Obj) : Prop := Tup q ∨ ((∀ r ∈ base, r.1 ≠ q.1) ∧ NF q)
theorem Apart.sub {base base' : Led} {q : Addr × Obj} (h : Apart base q) (hs : ∀ r ∈ base', ∃ z ∈ base, z.1 = r.1) : Apart base' q := h.imp id fun h => ⟨fun r hr => by
 obtain ⟨z, hz, e⟩ := hs r hr
 exact e ▸ h.1 z hz, h.2⟩
noncomputable def OutN (h₀ : Heap) (L : Addr) (s₀ : Shared) (M JD : Led) (P : Value → Led → Led → Prop) (v : Value) (s' : Shared) : Prop :=
 ∃ h' tk m' M' add, s' = { s₀ with heap := h', toks := tk } ∧ Fr h₀ L h' m' ∧ News h₀ L h' (M' ++ (add ++ JD)) ∧ P v M' add ∧ M'.map (·.1) = M.map (·.1) ∧ (∀ q ∈ M', NoTup q) ∧ ∀ q ∈ add, Apart (M ++ JD) q
noncomputable def FnN (w : World) (f : Addr) (vs : List Value) (dep uni : Nat) (M J : Led) (P : Value → Led → Led → Prop) : Prop :=
 ∀ (p : Program) (loose : List Str) (mean : ExcName → Option Value) (mg mb : Str → Option Value) (fr : Option (List Env)) (gd : Option (List Code)) (dp un : Nat) (h₀ : Heap) (L : Addr) (m : Str → Option Value) (s : Shared) (JD : Led) (R : Result → Shared → Prop),
  Fr h₀ L s.heap m → (heapK w.params).In h₀ → Top p loose mean mg mb h₀ → News h₀ L s.heap (M ++ JD) → (∀ q ∈ J, q ∈ JD) → (∀ q ∈ M, NoTup q) → Off M JD → dp + dep < recursionLimit → un + uni < cLine →
  (∀ r h' tk' M' add, P r M' add → M'.map (·.1) = M.map (·.1) → (∀ q ∈ M', NoTup q) → (∀ q ∈ add, Apart (M ++ JD) q) → Fr h₀ L h' m → News h₀ L h' (M' ++ (add ++ JD)) → R (.ok (.ret r)) { s with heap := h', toks := tk' }) →
  codeAny (MD w) (At fr gd dp un) (.call (.ref f) ⟨vs, []⟩) R s
noncomputable def FnNH (H : Heap → Prop) (w : World) (f : Addr) (vs : List Value) (dep uni : Nat) (M J : Led) (P : Value → Led → Led → Prop) : Prop :=
 ∀ (p : Program) (loose : List Str) (mean : ExcName → Option Value) (mg mb : Str → Option Value) (fr : Option (List Env)) (gd : Option (List Code)) (dp un : Nat) (h₀ : Heap) (L : Addr) (m : Str → Option Value) (s : Shared) (JD : Led) (R : Result → Shared → Prop),
  H h₀ → Fr h₀ L s.heap m → (heapK w.params).In h₀ → Top p loose mean mg mb h₀ → News h₀ L s.heap (M ++ JD) → (∀ q ∈ J, q ∈ JD) → (∀ q ∈ M, NoTup q) → Off M JD → dp + dep < recursionLimit → un + uni < cLine →
  (∀ r h' tk' M' add, P r M' add → M'.map (·.1) = M.map (·.1) → (∀ q ∈ M', NoTup q) → (∀ q ∈ add, Apart (M ++ JD) q) → Fr h₀ L h' m → News h₀ L h' (M' ++ (add ++ JD)) → R (.ok (.ret r)) { s with heap := h', toks := tk' }) →
  codeAny (MD w) (At fr gd dp un) (.call (.ref f) ⟨vs, []⟩) R s
theorem FnNH.of {H : Heap → Prop} {w : World} {f : Addr} {vs : List Value} {dep uni : Nat} {M J : Led} {P : Value → Led → Led → Prop}
  {name qual : Str} {params : Arguments} {body : List Stmt} {scope : Scope} {dV kV doc pm cdv ct oc : Value} {an od : Option Addr} {osl : Array (Option Value)} (binds : List (Str × Value))
  (ho : (heapK w.params).lookup f = some ⟨oc, od, .func (fnOf name qual params body scope dV kV doc pm an cdv ct), osl⟩) (hcd : codeIn (heapK w.params) cdv qual = true)
  (hbind : ∀ s : Shared, (heapK w.params).In s.heap → BindsTo s (fnOf name qual params body scope dV kV doc pm an cdv ct) ⟨vs, []⟩ binds) (hloc : (binds.all fun x => decide (scope.names.lookup x.1 = some .local)) = true)
  (hdep : 0 < dep)
  (h : ∀ (p : Program) (loose : List Str) (mean : ExcName → Option Value) (mg mb : Str → Option Value) (fr : Option (List Env)) (gd : Option (List Code)) (dp un : Nat) (h₀ : Heap) (L : Addr) (h : Heap) (tk : Nat) (s : Shared) (JD : Led),
   H h₀ → (heapK w.params).In h₀ → Top p loose mean mg mb h₀ → Fr h₀ L h (fun y => binds.reverse.lookup y) → News h₀ L h (M ++ JD) → (∀ q ∈ J, q ∈ JD) → (∀ q ∈ M, NoTup q) → Off M JD → dp + dep < recursionLimit → un + uni < cLine →
   wpAny (MD w) (At fr gd (dp + 1) (un + 3)) (execs body (envOf qual scope L f cdv))
    (fun fl s' => OutN h₀ L s M JD P (match fl with | .ret v => v | _ => .none) s') (fun _ _ => False) { s with heap := h, toks := tk })
  (hco : scope.isCoroutine = false) (hgen : scope.isGenerator = false) (hk : scope.kind = .function)
  (hcell : ∀ x ∈ scope.names, x.2 ≠ .cell)   : FnNH H w f vs dep uni M J P := by
 intro p loose mean mg mb fr gd dp un h₀ L m s JD R hH F X T N hJ hn hoff hd hu ret
 have X' := X.keeps F.keep
 refine codeAny_call_def (fd := fnOf name qual params body scope dV kV doc pm an cdv ct) (body := body) (binds := binds) ?_ (X' _ _ ho) rfl (T.nolimit.keeps F.keep) (codeRec_of X' hcd) rfl (hbind _ X') hcell (locs hloc) (fun h₁ hns hkeep => ?_) hco hgen hk
 ·show dp < recursionLimit; omega
 obtain ⟨oL, es, ep, hL, hLd, hLk, hLf⟩ := F.ns
 have hlt : ∀ q ∈ M ++ JD, q.1 ≠ s.heap.objs.size := fun q hq => Nat.ne_of_lt (Heap.lt_size (N q hq).1)
 have F' : Fr h₀ s.heap.objs.size h₁ (fun y => binds.reverse.lookup y) := ⟨hns, fun b o e => hkeep b o (F.keep b o e), Nat.le_trans F.above (Nat.le_of_lt (Heap.lt_size hL))⟩
 have N' : News h₀ s.heap.objs.size h₁ (M ++ (JD ++ [(L, oL)])) := by
  intro q hq
  rw [← List.append_assoc] at hq
  rcases List.mem_append.mp hq with hq | hq
  ·exact ⟨hkeep _ _ (N q hq).1, hlt q hq, (N q hq).2.2⟩
  ·rw [List.mem_singleton.mp hq]
   exact ⟨hkeep _ _ hL, Nat.ne_of_lt (Heap.lt_size hL), Heap.get?_none_of_le F.above⟩
 have hLM : ∀ q ∈ M, q.1 ≠ L := fun q hq => (N q (List.mem_append_left _ hq)).2.1
 have B := h p loose mean mg mb (fr.map (envOf qual scope s.heap.objs.size f cdv :: ·)) gd dp un h₀ s.heap.objs.size h₁ (s.toks + binds.length) s (JD ++ [(L, oL)]) hH X T F' N'
  (fun q hq => List.mem_append_left _ (hJ q hq)) hn (fun q hq e => (List.mem_append.mp hq).elim (fun hq => hoff q hq e) fun hq => by
   rw [List.mem_singleton.mp hq] at e
   obtain ⟨z, hz, e'⟩ := List.mem_map.mp e
   exact hLM z hz e') hd hu
 refine wpAny_mono B (fun fl s' o => ?_) (fun _ _ x => x.elim)
 obtain ⟨h', tk, m', M', add, rfl, F₂, N₂, hp, hadr, hnt, hap⟩ := o
 have hL' : h'.get? L = some oL := (N₂ (L, oL) (by simp)).1
 refine ret _ h' tk M' add hp hadr hnt (fun q hq => (hap q hq).sub fun r hr => ⟨r, by simp only [List.mem_append] at hr ⊢; rcases hr with hr | hr <;> simp [hr], rfl⟩) ⟨⟨oL, es, ep, hL', hLd, hLk, hLf⟩, F₂.keep, F.above⟩ (fun q hq => ?_)
 have Nq := N₂ q (by
  exact su_at hq (by bits_by_make))
 refine ⟨Nq.1, fun e => ?_, Nq.2.2⟩
 rcases List.mem_append.mp hq with hq | hq
 ·have : q.1 ∈ M.map (·.1) := hadr ▸ List.mem_map_of_mem hq
  obtain ⟨z, hz, e'⟩ := List.mem_map.mp this
  exact hLM z hz (e'.trans e)
 ·rcases List.mem_append.mp hq with hq | hq
  ·rcases hap q hq with ht | ⟨ha, -⟩
   ·have := Nq.1
    rw [e, hL'] at this
    have := Option.some.inj this
    exact ht.noDict es ep (by rw [← this]; exact hLd)
   ·exact ha (L, oL) (by simp) e.symm
  ·exact (N q (List.mem_append_right _ hq)).2.1 e
theorem FnN.of {w : World} {f : Addr} {vs : List Value} {dep uni : Nat} {M J : Led} {P : Value → Led → Led → Prop}
  {name qual : Str} {params : Arguments} {body : List Stmt} {scope : Scope} {dV kV doc pm cdv ct oc : Value} {an od : Option Addr} {osl : Array (Option Value)} (binds : List (Str × Value))
  (ho : (heapK w.params).lookup f = some ⟨oc, od, .func (fnOf name qual params body scope dV kV doc pm an cdv ct), osl⟩) (hcd : codeIn (heapK w.params) cdv qual = true)
  (hbind : ∀ s : Shared, (heapK w.params).In s.heap → BindsTo s (fnOf name qual params body scope dV kV doc pm an cdv ct) ⟨vs, []⟩ binds) (hloc : (binds.all fun x => decide (scope.names.lookup x.1 = some .local)) = true)
  (hdep : 0 < dep)
  (h : ∀ (p : Program) (loose : List Str) (mean : ExcName → Option Value) (mg mb : Str → Option Value) (fr : Option (List Env)) (gd : Option (List Code)) (dp un : Nat) (h₀ : Heap) (L : Addr) (h : Heap) (tk : Nat) (s : Shared) (JD : Led),
   (heapK w.params).In h₀ → Top p loose mean mg mb h₀ → Fr h₀ L h (fun y => binds.reverse.lookup y) → News h₀ L h (M ++ JD) → (∀ q ∈ J, q ∈ JD) → (∀ q ∈ M, NoTup q) → Off M JD → dp + dep < recursionLimit → un + uni < cLine →
   wpAny (MD w) (At fr gd (dp + 1) (un + 3)) (execs body (envOf qual scope L f cdv))
    (fun fl s' => OutN h₀ L s M JD P (match fl with | .ret v => v | _ => .none) s') (fun _ _ => False) { s with heap := h, toks := tk })
  (hco : scope.isCoroutine = false) (hgen : scope.isGenerator = false) (hk : scope.kind = .function)
  (hcell : ∀ x ∈ scope.names, x.2 ≠ .cell) : FnN w f vs dep uni M J P :=
 fun p loose mean mg mb fr gd dp un h₀ L m s JD R => FnNH.of (H := fun _ => True) binds ho hcd hbind hloc hdep (fun p loose mean mg mb fr gd dp un h₀ L hh tk s JD _ => h p loose mean mg mb fr gd dp un h₀ L hh tk s JD) hco hgen hk hcell p loose mean mg mb fr gd dp un h₀ L m s JD R trivial
theorem FnN.use {w : World} {f : Addr} {vs : List Value} {dep uni : Nat} {M J : Led} {P : Value → Led → Led → Prop} (c : FnN w f vs dep uni M J P)
  {p : Program} {loose : List Str} {mean : ExcName → Option Value} {mg mb : Str → Option Value} {fr : Option (List Env)} {gd : Option (List Code)} {dp un : Nat} {h₀ : Heap} {L : Addr} {m : Str → Option Value} {s : Shared} {Q E : Value → Shared → Prop} {JD : Led}
  (F : Fr h₀ L s.heap m) (X : (heapK w.params).In h₀) (T : Top p loose mean mg mb h₀) (N : News h₀ L s.heap (M ++ JD)) (hJ : ∀ q ∈ J, q ∈ JD) (hn : ∀ q ∈ M, NoTup q) (hoff : Off M JD) (hd : dp + dep < recursionLimit) (hu : un + uni < cLine)
  (ret : ∀ r h' tk' M' add, P r M' add → M'.map (·.1) = M.map (·.1) → (∀ q ∈ M', NoTup q) → (∀ q ∈ add, Apart (M ++ JD) q) → Fr h₀ L h' m → News h₀ L h' (M' ++ (add ++ JD)) → Q r { s with heap := h', toks := tk' }) :
  wpAny (MD w) (At fr gd dp un) (call (.ref f) vs) Q E s :=
 wpAny_call (c p loose mean mg mb fr gd dp un h₀ L m s JD _ F X T N hJ hn hoff hd hu ret)
structure Sep (a d G : Addr) (JD : Led) : Prop where
 ad : a ≠ d
 aG : a ≠ G
 dG : d ≠ G
 oa : ∀ q ∈ JD, q.1 ≠ a
 od : ∀ q ∈ JD, q.1 ≠ d
 oG : ∀ q ∈ JD, q.1 ≠ G

end
section --LC1
theorem FnN.ofC {w : World} {f : Addr} {vs : List Value} {dep uni : Nat} {M J : Led} {P : Value → Led → Led → Prop}
  {name qual : Str} {params : Arguments} {body : List Stmt} {scope : Scope} {dV kV doc pm cdv ct oc : Value} {an od : Option Addr} {osl : Array (Option Value)} (binds : List (Str × Value))
  (ho : (heapK w.params).lookup f = some ⟨oc, od, .func (fnOf name qual params body scope dV kV doc pm an cdv ct), osl⟩) (hcd : codeIn (heapK w.params) cdv qual = true)
  (hbind : ∀ s : Shared, (heapK w.params).In s.heap → BindsTo s (fnOf name qual params body scope dV kV doc pm an cdv ct) ⟨vs, []⟩ binds)
  (hkind : ∀ n, ∀ x ∈ binds, scope.names.lookup x.1 = some .local ∨ (scope.names.lookup x.1 = some .cell ∧ ((cellsFrom n scope.names []).lookup x.1).isSome = true))
  (hdep : 0 < dep)
  (h : ∀ (p : Program) (loose : List Str) (mean : ExcName → Option Value) (mg mb : Str → Option Value) (fr : Option (List Env)) (gd : Option (List Code)) (dp un : Nat) (h₀ : Heap) (L : Addr) (h : Heap) (tk : Nat) (s : Shared) (JD cells : Led),
   (heapK w.params).In h₀ → Top p loose mean mg mb h₀ → Fr h₀ L h (bindL (envOfC qual scope L f cdv).kindOf binds fun _ => none) → News h₀ L h (cells ++ (M ++ JD)) →
   CellsAre (bindC (envOfC qual scope L f cdv).kindOf binds fun _ => none) (cellsFrom (L + 1) scope.names []) cells → (∀ q ∈ M ++ JD, q.1 < L) → (∀ q ∈ J, q ∈ JD) → (∀ q ∈ M, NoTup q) → Off M JD → dp + dep < recursionLimit → un + uni < cLine →
   wpAny (MD w) (At fr gd (dp + 1) (un + 3)) (execs body (envOfC qual scope L f cdv))
    (fun fl s' => OutN h₀ L s M JD P (match fl with | .ret v => v | _ => .none) s') (fun _ _ => False) { s with heap := h, toks := tk })
  (hnd : ((cellsFrom 0 scope.names []).map (·.1)).Nodup)
  (hco : scope.isCoroutine = false) (hgen : scope.isGenerator = false) (hk : scope.kind = .function) : FnN w f vs dep uni M J P := by
 intro p loose mean mg mb fr gd dp un h₀ L m s JD R F X T N hJ hn hoff hd hu ret
 have X' := X.keeps F.keep
 refine codeAny_call_function (fd := fnOf name qual params body scope dV kV doc pm an cdv ct) (body := body) ?_ (X' _ _ ho) rfl hco hgen rfl (codeRec_of X' hcd) (hbind _ X' _ _ _ _ ?_)
 ·show dp < recursionLimit; omega
 refine wpAny_newFunctionEnv_cells hk (hkind _) fun env' he s' x => ?_
 subst he
 refine ⟨(T.nolimit.keeps F.keep).keeps x.toInCall.keep, codeAny_func ?_⟩
 obtain ⟨h₁, tk, rfl, _⟩ := x.done
 have hkeep := x.toInCall.keep
 obtain ⟨cells, NC, Y⟩ := Cl.news (h₀ := s.heap) (Nat.le_refl _) fun n c hm => ⟨x.cell n c (lookup_of_mem_nodup (cellsFrom_names scope.names 0 (s.heap.objs.size + 1) [] [] rfl ▸ hnd) hm), x.above n c hm⟩
 obtain ⟨oL, es, ep, hL, hLd, hLk, hLf⟩ := F.ns
 have hlt : ∀ q ∈ M ++ JD, q.1 < s.heap.objs.size := fun q hq => Heap.lt_size (N q hq).1
 have hLlt : L < s.heap.objs.size := Heap.lt_size hL
 have hge : h₀.objs.size ≤ s.heap.objs.size := Nat.le_trans F.above (Nat.le_of_lt hLlt)
 have F' : Fr h₀ s.heap.objs.size h₁ (bindL (envOfC qual scope s.heap.objs.size f cdv).kindOf binds fun _ => none) := ⟨x.toInCall.ns, fun b o e => hkeep b o (F.keep b o e), hge⟩
 have N' : News h₀ s.heap.objs.size h₁ (cells ++ (M ++ (JD ++ [(L, oL)]))) := by
  intro q hq
  rcases List.mem_append.mp hq with hq | hq
  ·refine ⟨(NC q hq).1, (NC q hq).2.1, ?_⟩
   cases z : h₀.get? q.1 with
   | none => rfl
   | some o => have := F.keep _ _ z; rw [(NC q hq).2.2] at this; cases this
  rw [← List.append_assoc] at hq
  rcases List.mem_append.mp hq with hq | hq
  ·exact ⟨hkeep _ _ (N q hq).1, Nat.ne_of_lt (hlt q hq), (N q hq).2.2⟩
  ·rw [List.mem_singleton.mp hq]
   exact ⟨hkeep _ _ hL, Nat.ne_of_lt hLlt, Heap.get?_none_of_le F.above⟩
 have hLM : ∀ q ∈ M, q.1 ≠ L := fun q hq => (N q (List.mem_append_left _ hq)).2.1
 have B := h p loose mean mg mb (fr.map (envOfC qual scope s.heap.objs.size f cdv :: ·)) gd dp un h₀ s.heap.objs.size h₁ tk s (JD ++ [(L, oL)]) cells X T F' N' Y
  (fun q hq => by
   rw [← List.append_assoc] at hq
   rcases List.mem_append.mp hq with hq | hq
   ·exact hlt q hq
   ·rw [List.mem_singleton.mp hq]; exact hLlt)
  (fun q hq => List.mem_append_left _ (hJ q hq)) hn (fun q hq e => (List.mem_append.mp hq).elim (fun hq => hoff q hq e) fun hq => by
   rw [List.mem_singleton.mp hq] at e
   obtain ⟨z, hz, e'⟩ := List.mem_map.mp e
   exact hLM z hz e') hd hu
 refine wpAny_mono B (fun fl s' o => ?_) (fun _ _ x => x.elim)
 obtain ⟨h', tk, m', M', add, rfl, F₂, N₂, hp, hadr, hnt, hap⟩ := o
 have hL' : h'.get? L = some oL := (N₂ (L, oL) (by simp)).1
 refine ret _ h' tk M' add hp hadr hnt (fun q hq => (hap q hq).sub fun r hr => ⟨r, by simp only [List.mem_append] at hr ⊢; rcases hr with hr | hr <;> simp [hr], rfl⟩) ⟨⟨oL, es, ep, hL', hLd, hLk, hLf⟩, F₂.keep, F.above⟩ (fun q hq => ?_)
 have Nq := N₂ q (by
  exact su_at hq (by bits_by_make))
 refine ⟨Nq.1, fun e => ?_, Nq.2.2⟩
 rcases List.mem_append.mp hq with hq | hq
 ·have : q.1 ∈ M.map (·.1) := hadr ▸ List.mem_map_of_mem hq
  obtain ⟨z, hz, e'⟩ := List.mem_map.mp this
  exact hLM z hz (e'.trans e)
 ·rcases List.mem_append.mp hq with hq | hq
  ·rcases hap q hq with ht | ⟨ha, -⟩
   ·have := Nq.1
    rw [e, hL'] at this
    have := Option.some.inj this
    exact ht.noDict es ep (by rw [← this]; exact hLd)
   ·exact ha (L, oL) (by simp) e.symm
  ·exact (N q (List.mem_append_right _ hq)).2.1 e
theorem NoTup.lst {G : Addr} {vs : Array Value} {n : Nat} : NoTup (G, W.listOf vs n) := by simp [NoTup, NF]

end
section --A0
set_option genInjectivity false in
structure Cx where
 w : World
 p : Program
 loose : List Str
 mean : ExcName → Option Value
 mg : Str → Option Value
 mb : Str → Option Value
 fr : Option (List Env)
 gd : Option (List Code)
 dp : Nat
 un : Nat
 h₀ : Heap
 L : Addr
 cl : List (Str × Addr)
 s : Shared
 E : Value → Shared → Prop
 J : Led
 B : Led
 hB : ∀ q ∈ B, q ∈ J
 ok : Addr × Obj → Prop
 okT : ∀ q, Tup q → ok q
 X : (heapK w.params).In h₀
 T : Top p loose mean mg mb h₀
noncomputable abbrev Cx.A (c : Cx) : Around := At c.fr c.gd c.dp c.un
set_option genInjectivity false in
structure Fi where
 cn : Str
 cs : Scope
 a : Addr
 cd : Value
 co : Option Addr
noncomputable def Fi.fn (f : Fi) : Option Addr := match f.co with
 | none => some f.a
 | some _ => none
noncomputable abbrev Cx.env (c : Cx) (f : Fi) : Env := { scope := f.cs, locals := c.L, globals := mainGlobals, cells := c.cl, qual := f.cn ++ ".<locals>.", func := f.fn, code := f.cd, frame := some (f.co.getD c.L), builtins := builtinsNs }
noncomputable def lkl (l : List (Str × Value)) : Str → Option Value := fun y => l.lookup y
theorem lkl_set (l : List (Str × Value)) (x : Str) (v : Value) : (fun y => if y = x then some v else lkl l y) = lkl ((x, v) :: l) := funext fun y => by
 show _ = (match y == x with | true => some v | false => l.lookup y)
 by_cases h : y = x
 ·rw [if_pos h, beq_iff_eq.mpr h]
 ·rw [if_neg h, beq_eq_false_iff_ne.mpr h]
  rfl
noncomputable def Cx.all (c : Cx) (M N : Led) : Led := M ++ (N ++ c.J)
structure Spd (c : Cx) (M N : Led) : Prop where
 nt : ∀ q ∈ M, NoTup q
 nd : (M.map (·.1)).Nodup
 off : ∀ q ∈ N ++ c.J, q.1 ∉ M.map (·.1)
 ok : ∀ q ∈ N, c.ok q
noncomputable def Fi.is (f : Fi) (x : Str) (k : NameKind) : Bool := decide (f.cs.kind = .function) && decide (f.cs.names.lookup x = some k) && (x == ("__debug__" : Str)) == false
theorem Fi.is1 {f : Fi} {x : Str} {k : NameKind} (h : f.is x k = true) : f.cs.kind = .function := of_decide_eq_true (Bool.and_eq_true_iff.mp (Bool.and_eq_true_iff.mp h).1).1
theorem Fi.is2 {f : Fi} {x : Str} {k : NameKind} (h : f.is x k = true) (c : Cx) : (c.env f).kindOf x = some k := of_decide_eq_true (Bool.and_eq_true_iff.mp (Bool.and_eq_true_iff.mp h).1).2
theorem Fi.is3 {f : Fi} {x : Str} {k : NameKind} (h : f.is x k = true) : (x == ("__debug__" : Str)) = false := beq_iff_eq.mp (Bool.and_eq_true_iff.mp h).2
noncomputable def Xs : List Expr → Bool
 | [] => true
 | .Starred .. :: _ => false
 | _ :: r => Xs r
theorem Xs.tl {e : Expr} {r : List Expr} (h : Xs (e :: r) = true) : Xs r = true := by cases e <;> first | exact h | exact (Bool.false_ne_true h).elim
theorem Xs.star {e : Expr} {r : List Expr} (h : Xs (e :: r) = true) (env : Env) : starEach (e :: r) env = (false, eval e env) :: starEach r env := by
 cases e <;> first | rfl | exact (Bool.false_ne_true h).elim
theorem Xs.plain : ∀ {r : List Expr} (_ : Xs r = true) (pos : Pos) (env : Env), (backTo pos (starEach r env)).any (·.1) = false
 | [], _, _, _ => rfl
 | e :: r, h, pos, env => by
  rw [Xs.star h]
  show (false || (backTo pos (starEach r env)).any (·.1)) = false
  rw [Xs.plain (Xs.tl h) pos env]
  rfl

theorem all_mid (c : Cx) (pre post : Led) (q : Addr × Obj) (N : Led) : c.all (pre ++ q :: post) N = pre ++ q :: (post ++ (N ++ c.J)) := by simp [Cx.all]
section
variable {c : Cx} {M N : Led} {d : Addr} {o o' : Obj}
theorem updF_mid {pre r : Led} (h1 : ∀ p ∈ pre, p.1 ≠ d) (h2 : ∀ p ∈ r, p.1 ≠ d) : UpdF d o (pre ++ (d, o) :: r) (fun o' => pre ++ (d, o') :: r) := by
 induction pre with
 | nil => exact .head h2
 | cons a r' ih => exact .tail (h1 a (.head _)) (ih fun p hp => h1 p (.tail _ hp))
theorem upd_mid {pre r : Led} (h1 : ∀ p ∈ pre, p.1 ≠ d) (h2 : ∀ p ∈ r, p.1 ≠ d) : Upd d o o' (pre ++ (d, o) :: r) (pre ++ (d, o') :: r) := by
 induction pre with
 | nil => exact .head h2
 | cons a r' ih => exact .tail (h1 a (.head _)) (ih fun p hp => h1 p (.tail _ hp))
theorem all_new {q : Addr × Obj} : ∀ p ∈ c.all M (q :: N), p ∈ q :: c.all M N := fun p hp => by
 rcases List.mem_append.mp hp with hp | hp
 ·exact .tail _ (List.mem_append_left _ hp)
 ·rcases List.mem_cons.mp hp with rfl | hp
  ·exact .head _
  ·exact .tail _ (List.mem_append_right _ hp)
theorem zle {n : Nat} (h : Nat.ble n 1000 = true) : n ≤ sizeLine := by
 have := Nat.le_of_ble_eq_true h
 rw [sizeLine_eq]; omega
structure Glo (w : World) (x : Str) (fa : Addr) : Prop where
 a : nsIn (heapK w.params) mainGlobals x = some (some (.ref fa))
 b : keepIn (heapK w.params) (.ref fa) = true
structure Own (w : World) (C : Addr) (name : Str) (fa : Addr) : Prop where
 g : plainGet (heapK w.params) C name = true
 f : findIn (heapK w.params) (.ref C) name = some (some (.ref fa))
 t : isFn (heapK w.params) (.ref fa) = true
 b : keepIn (heapK w.params) (.ref fa) = true
structure Att (w : World) (C : Addr) (name : Str) : Prop where
 g : plainGet (heapK w.params) C name = true
 h : hasDictIn (heapK w.params) C = true
 f : findIn (heapK w.params) (.ref C) name = some none
end
section
variable {c : Cx} {M N : Led} {d : Addr} {o o' : Obj}
structure Put (w : World) (C : Addr) (name : Str) : Prop where
 s : findIn (heapK w.params) (.ref C) "__setattr__" = some (some (.builtin "object.__setattr__"))
 p : plainOver (heapK w.params) C = true
 t : takerIn (heapK w.params) C name = some none
 h : hasDictIn (heapK w.params) C = true
theorem NoTup.dicO {w : World} {d : Addr} {o : Obj} {kvs : List (Str × Value)} (h : o.IsDictOf (PySem.strKind PySem.Challenge.rw_on0248_01.prog w) kvs) : NoTup (d, o) := by
 obtain ⟨es, ep, hx, hd, -⟩ := h
 refine ⟨.inl ?_, .inl fun vs e => ?_⟩
 ·show o.cls ≠ _
  rw [hx.1]
  simp
 ·have e : o.data = .fields vs := e
  rw [hd] at e; cases e
noncomputable def Nsl : Expr → Bool
 | .Slice .. => false
 | _ => true
theorem Nsl.sub {r : Expr} (h : Nsl r = true) {o i : Value} : subscripted r false o i = operate [o, i] (getItem o i) := by cases r <;> first | rfl | exact (Bool.false_ne_true h).elim
theorem valueAt_lookup {k : Str} : ∀ {kvs : List (Str × Value)}, valueAt kvs k = kvs.lookup k
 | [] => rfl
 | (y, v) :: r => by
  have ih := valueAt_lookup (k := k) (kvs := r)
  unfold valueAt at ih ⊢
  rw [List.find?_cons, List.lookup_cons]
  by_cases h : y = k
  ·rw [decide_eq_true h, beq_iff_eq.mpr h.symm]
   rfl
  ·rw [decide_eq_false h, beq_eq_false_iff_ne.mpr (Ne.symm h)]
   exact ih
end

noncomputable def rv : Flow → Value
 | .ret v => v
 | _ => .none
section
variable {c : Cx} {M N : Led} {d : Addr} {o o' : Obj}
theorem all_add {add M N : Led} : ∀ q ∈ c.all M (add ++ N), q ∈ add ++ c.all M N := fun q hq => by
 exact su_at hq (by unfold Cx.all; bits_by_make)
end
theorem lookup_app (y : Str) (b : List (Str × Value)) : ∀ a : List (Str × Value), (a ++ b).lookup y = (a.lookup y).or (b.lookup y)
 | [] => rfl
 | (k, v) :: r => by
  rw [List.cons_append, List.lookup_cons, List.lookup_cons]
  cases y == k with
  | true => rfl
  | false => exact lookup_app y b r
theorem lookup_none {y : Str} : ∀ {a : List (Str × Value)}, y ∉ a.map (·.1) → a.lookup y = none
 | [], _ => rfl
 | (k, v) :: r, h => by
  rw [List.lookup_cons, beq_eq_false_iff_ne.mpr fun e => h (by simp [e])]
  exact lookup_none fun e => h (.tail _ e)
noncomputable def hask (k : Str) : List (Str × Value) → Bool
 | [] => false
 | (y, _) :: r => k == y || hask k r
noncomputable def ndk : List (Str × Value) → Bool
 | [] => true
 | (k, _) :: r => !(hask k r) && ndk r
theorem hask_mem {k : Str} : ∀ {r : List (Str × Value)}, hask k r = false → k ∉ r.map (·.1)
 | [], _ => fun h => nomatch h
 | (y, v) :: r, h => fun e => by
  have h' := Bool.or_eq_false_iff.mp h
  rcases List.mem_cons.mp e with e | e
  ·have : (k == y) = true := beq_iff_eq.mpr e
   rw [h'.1] at this; cases this
  ·exact hask_mem h'.2 e
theorem ndk_nodup : ∀ {b : List (Str × Value)}, ndk b = true → (b.map (·.1)).Nodup
 | [], _ => .nil
 | (k, v) :: r, h => by
  have h' := Bool.and_eq_true_iff.mp h
  exact List.nodup_cons.mpr ⟨hask_mem (by simpa using h'.1), ndk_nodup h'.2⟩
theorem lkl_rev : ∀ {b : List (Str × Value)}, (b.map (·.1)).Nodup → (fun y => b.reverse.lookup y) = lkl b
 | [], _ => rfl
 | (k, v) :: r, h => by
  have h' := List.nodup_cons.mp h
  have ih := lkl_rev h'.2
  funext y
  rw [List.reverse_cons, lookup_app, congrFun ih y]
  show _ = List.lookup y ((k, v) :: r)
  rw [List.lookup_cons, List.lookup_cons]
  cases e : y == k with
  | true =>
   have : lkl r y = none := lookup_none (by rw [beq_iff_eq.mp e]; exact h'.1)
   rw [this]
   rfl
  | false =>
   show (lkl r y).or none = _
   rw [Option.or_none]
   rfl
noncomputable def mkC {w : World} {p : Program} {loose : List Str} {mean : ExcName → Option Value} {mg mb : Str → Option Value} (fr : Option (List Env)) (gd : Option (List Code)) (dp un : Nat) {h₀ : Heap} (L : Addr) (cl : List (Str × Addr)) (s : Shared) (E : Value → Shared → Prop) (J B : Led) (hB : ∀ q ∈ B, q ∈ J) (ok : Addr × Obj → Prop) (okT : ∀ q, Tup q → ok q) (X : (heapK w.params).In h₀) (T : Top p loose mean mg mb h₀) : Cx :=
 ⟨w, p, loose, mean, mg, mb, fr, gd, dp, un, h₀, L, cl, s, E, J, B, hB, ok, okT, X, T⟩



section
variable {M : Model} {A : Around} {E : Value → Shared → Prop} {s : Shared} {m : Str → Option Value} {x : Str} {px : Pos} {v : Value} {news : Led} {C : Addr} {o : Obj} {v₀ : Option Value} {g : Obj → Led} {c : Cx} {f : Fi}
theorem nmL {Q : Value → Shared → Prop} (F : Fr c.h₀ c.L s.heap m) (hv : m x = some v) (hx : f.is x .local = true) (h : Q v s) : wpAny M A (eval (.Name x px) (c.env f)) Q E s :=
 wpAny_Name (wpAny_loadName_local (Fi.is1 hx) (Fi.is2 hx c) F.ns hv h) (Fi.is3 hx)
theorem nmK {Q : Value → Shared → Prop} (F : Fr c.h₀ c.L s.heap m) (e : nsIn (heapK c.w.params) mainGlobals x = some (some v)) (hx : f.is x .globalImplicit = true) (h : Q v s) : wpAny M A (eval (.Name x px) (c.env f)) Q E s :=
 have T := topRead_of c.T
 Name_function_global (Fi.is1 hx) (Fi.is2 hx c) (loadGlobal_global (env := c.env f) (T.g.keeps F.keep) (mg_of c.X T.g e) h) (Fi.is3 hx)
theorem nmB {Q : Value → Shared → Prop} (F : Fr c.h₀ c.L s.heap m) (e : nsIn (heapK c.w.params) mainGlobals x = some none) (hv : bootBuiltins x = some v) (hn : x ≠ "__name__") (hx : f.is x .globalImplicit = true) (h : Q v s) : wpAny M A (eval (.Name x px) (c.env f)) Q E s :=
 have T := topRead_of c.T
 Name_function_global (Fi.is1 hx) (Fi.is2 hx c) (loadGlobal_builtin (env := c.env f) (T.g.keeps F.keep) (mg_none_of c.X T.g e) (T.b.keeps F.keep) ((T.builtins x hn).trans hv) h) (Fi.is3 hx)
theorem nmC {Q : Value → Shared → Prop} (N : News c.h₀ c.L s.heap news) (hc : c.cl.lookup x = some C) (hm : (C, o) ∈ news) (hd : o.data = .cell (some v)) (hx : f.is x .cell = true) (h : Q v s) : wpAny M A (eval (.Name x px) (c.env f)) Q E s :=
 wpAny_Name (wpAny_loadName_cell (Fi.is1 hx) (Fi.is2 hx c) hc ⟨o, N.get hm, hd⟩ h) (Fi.is3 hx)
theorem sto_ok (hx : f.is x .local = true) : (f.cs.kind == .class || (f.cs.kind == .module && c.L != mainGlobals)) = false := by rw [Fi.is1 hx]; rfl
theorem stL {Q : Unit → Shared → Prop} (F : Fr c.h₀ c.L s.heap m) (N : News c.h₀ c.L s.heap news) (hx : f.is x .local = true)
  (h : ∀ h', Fr c.h₀ c.L h' (fun y => if y = x then some v else m y) → News c.h₀ c.L h' news → Q () { s with heap := h', toks := s.toks + 1 }) : wpAny M A (storeName (c.env f) x v) Q E s :=
 wpAny_storeName_local (Fi.is2 hx c) F.ns (fun h' hn hs => h h' (F.set hn hs) (N.set hs)) (sto_ok hx)
theorem stC {Q : Unit → Shared → Prop} (F : Fr c.h₀ c.L s.heap m) (N : News c.h₀ c.L s.heap news) (hc : c.cl.lookup x = some C) (U : UpdF C o news g) (hd : o.data = .cell v₀) (hx : f.is x .cell = true)
  (h : ∀ h' o', Fr c.h₀ c.L h' m → News c.h₀ c.L h' (g o') → o'.data = .cell (some v) → Q () { s with heap := h' }) : wpAny M A (storeName (c.env f) x v) Q E s := by
 obtain ⟨own, rest, rfl, hg, h1, h2⟩ := U.split
 have hmem := N (C, o) (List.mem_append_right _ (.head _))
 refine wpAny_storeName_cell (Fi.is1 hx) (Fi.is2 hx c) hc ⟨o, hmem.1, hd⟩ fun h' hv hs => ?_
 obtain ⟨o', ho', hd'⟩ := hv
 refine h h' o' ⟨F.ns.sameBut hs (Ne.symm hmem.2.1), fun b ob e => (hs.2 b (fun q => ?_)).trans (F.keep b ob e), F.above⟩ (hg o' ▸ N.setAt h1 h2 hs ho') hd'
 rw [q, hmem.2.2] at e; cases e
end
section
variable {c : Cx} {M N M₀ M₁ ma mz : Led} {d D : Addr} {o o' : Obj}
theorem Spd.pre (S : Spd c (ma ++ (d, o) :: mz) N) : ∀ p ∈ ma, p.1 ≠ d := fun p hp e => by
 have := S.nd
 rw [List.map_append, List.map_cons] at this
 exact (List.nodup_append.mp this).2.2 p.1 (List.mem_map_of_mem hp) d (.head _) e
theorem Spd.post (S : Spd c (ma ++ (d, o) :: mz) N) : ∀ p ∈ mz ++ (N ++ c.J), p.1 ≠ d := fun p hp e => by
 rcases List.mem_append.mp hp with hp | hp
 ·have := S.nd
  rw [List.map_append, List.map_cons] at this
  have := (List.nodup_cons.mp (List.nodup_append.mp this).2.1).1
  exact this (e ▸ List.mem_map_of_mem (f := (·.1)) hp)
 ·exact S.off p hp (by rw [e]; simp)
theorem Spd.up (S : Spd c (ma ++ (d, o) :: mz) N) (n : NoTup (d, o')) : Spd c (ma ++ (d, o') :: mz) N := by
 refine ⟨fun q hq => ?_, ?_, ?_, S.ok⟩
 ·rcases List.mem_append.mp hq with hq | hq
  ·exact S.nt q (List.mem_append_left _ hq)
  ·rcases List.mem_cons.mp hq with rfl | hq
   ·exact n
   ·exact S.nt q (List.mem_append_right _ (.tail _ hq))
 ·have := S.nd
  simpa only [List.map_append, List.map_cons] using this
 ·have := S.off
  simpa only [List.map_append, List.map_cons] using this
theorem Spd.new (S : Spd c M N) (hD : ∀ p ∈ c.all M N, p.1 < D) (ho : c.ok (D, o)) : Spd c M ((D, o) :: N) := by
 refine ⟨S.nt, S.nd, fun q hq e => ?_, fun q hq => ?_⟩
 ·rcases List.mem_cons.mp hq with rfl | hq
  ·obtain ⟨z, hz, e⟩ := List.mem_map.mp e
   exact Nat.ne_of_lt (hD z (List.mem_append_left _ hz)) e
  ·exact S.off q hq e
 ·rcases List.mem_cons.mp hq with rfl | hq
  ·exact ho
  ·exact S.ok q hq
theorem Spd.sub (S : Spd c (M₀ ++ M₁) N) : Off M₀ (M₁ ++ (N ++ c.J)) := fun q hq e => by
 rcases List.mem_append.mp hq with hq | hq
 ·have := S.nd
  rw [List.map_append] at this
  exact (List.nodup_append.mp this).2.2 _ e _ (List.mem_map_of_mem (f := (·.1)) hq) rfl
 ·exact S.off q hq (by rw [List.map_append]; exact List.mem_append_left _ e)
end

end
section --AA
inductive AV
 | v (x : Value)
 | d (x : Dat)
noncomputable def Den (B : Led) : AV → Value → Prop
 | .v x, y => y = x
 | .d x, y => DatIn B y x
theorem Den.mono {B B' : Led} (hs : ∀ q ∈ B, q ∈ B') : ∀ {a : AV} {v : Value}, Den B a v → Den B' a v
 | .v _, _, h => h
 | .d _, _, h => DatIn.mono hs h
set_option genInjectivity false in
structure AO where
 p : Led → Obj → Prop
 mono : ∀ {B B' : Led} {o : Obj}, (∀ q ∈ B, q ∈ B') → p B o → p B' o
 nt : ∀ {B : Led} {o : Obj} {a : Addr}, p B o → NoTup (a, o)
inductive DAll (B : Led) : List AV → List Value → Prop
 | nil : DAll B [] []
 | cons {a : AV} {v : Value} {r : List AV} {s : List Value} (h : Den B a v) (t : DAll B r s) : DAll B (a :: r) (v :: s)
theorem DAll.mono {B B' : Led} (hs : ∀ q ∈ B, q ∈ B') {r : List AV} {s : List Value} (h : DAll B r s) : DAll B' r s := by
 induction h with
 | nil => exact .nil
 | cons h _ ih => exact .cons (h.mono hs) ih
inductive MAll (B : Led) : List (Addr × AO) → Led → Prop
 | nil : MAll B [] []
 | cons {a : Addr} {ao : AO} {o : Obj} {r : List (Addr × AO)} {s : Led} (h : ao.p B o) (t : MAll B r s) : MAll B ((a, ao) :: r) ((a, o) :: s)
theorem MAll.mono {B B' : Led} (hs : ∀ q ∈ B, q ∈ B') {r : List (Addr × AO)} {s : Led} (h : MAll B r s) : MAll B' r s := by
 induction h with
 | nil => exact .nil
 | cons h _ ih => exact .cons (AO.mono _ hs h) ih
theorem MAll.nt {B : Led} {r : List (Addr × AO)} {s : Led} (h : MAll B r s) : ∀ q ∈ s, NoTup q := by
 induction h with
 | nil => exact fun _ h => nomatch h
 | cons h _ ih => exact List.forall_mem_cons.mpr ⟨AO.nt _ h, ih⟩
theorem MAll.adr {B B' : Led} {r : List (Addr × AO)} {s : Led} (h : MAll B r s) : s.map (·.1) = r.map (·.1) := by
 induction h with
 | nil => rfl
 | cons _ _ ih => rw [List.map_cons, List.map_cons, ih]
theorem MAll.app {B : Led} {r r' : List (Addr × AO)} {s s' : Led} (h : MAll B r s) (h' : MAll B r' s') : MAll B (r ++ r') (s ++ s') := by
 induction h with
 | nil => exact h'
 | cons h _ ih => exact .cons h ih
theorem MAll.split {B : Led} : ∀ {r r' : List (Addr × AO)} {s : Led}, MAll B (r ++ r') s → ∃ s₁ s₂, s = s₁ ++ s₂ ∧ MAll B r s₁ ∧ MAll B r' s₂
 | [], _, _, h => ⟨[], _, rfl, .nil, h⟩
 | _ :: _, _, _, .cons h t => by
  obtain ⟨s₁, s₂, rfl, a, b⟩ := MAll.split t
  exact ⟨_ :: s₁, s₂, rfl, .cons h a, b⟩
inductive AF
 | next | brk | cont
 | ret (a : AV)
noncomputable def DenF (B : Led) : AF → Flow → Prop
 | .next, f => f = .next
 | .brk, f => f = .brk
 | .cont, f => f = .cont
 | .ret a, f => ∃ v, f = .ret v ∧ Den B a v
set_option genInjectivity false in
structure As where
 l : List (Str × AV)
 M : List (Addr × AO)
structure Cs (c : Cx) (D : List AV) (σ : As) (h : Heap) (m : Str → Option Value) (N Mc : Led) (ds : List Value) : Prop where
 F : Fr c.h₀ c.L h m
 P : ∀ x a, σ.l.lookup x = some a → ∃ v, m x = some v ∧ Den (N ++ c.B) a v
 W : News c.h₀ c.L h (c.all Mc N)
 S : Spd c Mc N
 M : MAll (N ++ c.B) σ.M Mc
 D : DAll (N ++ c.B) D ds
section
variable {c : Cx} {D : List AV} {σ : As} {h h' : Heap} {m : Str → Option Value} {N N' Mc : Led} {ds : List Value} {a : AV} {v : Value} {A add : Led}
theorem Cs.push (X : Cs c D σ h m N Mc ds) (y : Den (N ++ c.B) a v) : Cs c (a :: D) σ h m N Mc (v :: ds) := ⟨X.F, X.P, X.W, X.S, X.M, .cons y X.D⟩
theorem Cs.pop {σ' : As} (X : Cs c (a :: D) σ' h m N Mc ds) : ∃ v r, ds = v :: r ∧ Den (N ++ c.B) a v ∧ Cs c D σ' h m N Mc r := by
 obtain ⟨F, P, W, S, M, y⟩ := X
 cases y with
 | cons y t => exact ⟨_, _, rfl, y, F, P, W, S, M, t⟩
theorem Cs.grow (X : Cs c D σ h m N Mc ds) (hs : ∀ q ∈ N, q ∈ N') (F : Fr c.h₀ c.L h' m) (W : News c.h₀ c.L h' (c.all Mc N')) (S : Spd c Mc N') : Cs c D σ h' m N' Mc ds := by
 have hs' : ∀ q ∈ N ++ c.B, q ∈ N' ++ c.B := fun q hq => (List.mem_append.mp hq).elim (fun h => List.mem_append_left _ (hs q h)) fun h => List.mem_append_right _ h
 refine ⟨F, fun x a e => ?_, W, S, X.M.mono hs', X.D.mono hs'⟩
 obtain ⟨v, e, y⟩ := X.P x a e
 exact ⟨v, e, y.mono hs'⟩
theorem Spd.tups (S : Spd c Mc N) (W : News c.h₀ c.L h (add ++ c.all Mc N)) (ht : Tups add) : Spd c Mc (add ++ N) :=
 ⟨S.nt, S.nd, fun z hz => by
   rw [List.append_assoc] at hz
   rcases List.mem_append.mp hz with hz | hz
   ·exact news_tupOff W (fun y hy => ⟨List.mem_append_right _ (List.mem_append_left _ hy), S.nt y hy⟩) (List.mem_append_left _ hz) (ht z hz)
   ·exact S.off z hz, fun z hz => (List.mem_append.mp hz).elim (fun hz => c.okT z (ht z hz)) (S.ok z)⟩
end
noncomputable def st0 (c : Cx) (h : Heap) (t : Nat) : Shared := { c.s with heap := h, toks := t }
noncomputable def Pd (c : Cx) (D : List AV) (K : AV → As → Prop) (Q : List Value → Value → Shared → Prop) : Prop := ∀ a σ', K a σ' → ∀ h m N Mc ds v t, Cs c D σ' h m N Mc ds → Den (N ++ c.B) a v → Q ds v (st0 c h t)
noncomputable def Pds (c : Cx) (D : List AV) (K : List AV → As → Prop) (Q : List Value → List Value → Shared → Prop) : Prop := ∀ as σ', K as σ' → ∀ h m N Mc ds vs t, Cs c D σ' h m N Mc ds → DAll (N ++ c.B) as vs → Q ds vs (st0 c h t)
noncomputable def Pb (c : Cx) (D : List AV) (K : Bool → As → Prop) (Q : List Value → Bool → Shared → Prop) : Prop := ∀ b σ', K b σ' → ∀ h m N Mc ds t, Cs c D σ' h m N Mc ds → Q ds b (st0 c h t)
noncomputable def Pu (c : Cx) (D : List AV) (K : As → Prop) (Q : List Value → Shared → Prop) : Prop := ∀ σ', K σ' → ∀ h m N Mc ds t, Cs c D σ' h m N Mc ds → Q ds (st0 c h t)
noncomputable def Pf (c : Cx) (K : AF → As → Prop) (Q : Flow → Shared → Prop) : Prop := ∀ fl σ', K fl σ' → ∀ h m N Mc f t, Cs c [] σ' h m N Mc [] → DenF (N ++ c.B) fl f → Q f (st0 c h t)
noncomputable def AEv (e : Expr) (f : Fi) (c : Cx) (D : List AV) (σ : As) (K : AV → As → Prop) : Prop := ∀ Q, Pd c D K Q → ∀ h m N Mc ds t, Cs c D σ h m N Mc ds → wpAny (MD c.w) c.A (eval e (c.env f)) (Q ds) c.E (st0 c h t)
noncomputable def AEvs (es : List Expr) (f : Fi) (c : Cx) (D : List AV) (σ : As) (K : List AV → As → Prop) : Prop := ∀ pos Q, Pds c D K Q → ∀ h m N Mc ds t, Cs c D σ h m N Mc ds → wpAny (MD c.w) c.A (spliced (backTo pos (starEach es (c.env f)))) (Q ds) c.E (st0 c h t)
noncomputable def ASt (s : Stmt) (f : Fi) (c : Cx) (σ : As) (K : AF → As → Prop) : Prop := ∀ Q, Pf c K Q → ∀ h m N Mc t, Cs c [] σ h m N Mc [] → wpAny (MD c.w) c.A (exec s (c.env f)) Q c.E (st0 c h t)
noncomputable def ASts (s : List Stmt) (f : Fi) (c : Cx) (σ : As) (K : AF → As → Prop) : Prop := ∀ Q, Pf c K Q → ∀ h m N Mc t, Cs c [] σ h m N Mc [] → wpAny (MD c.w) c.A (execs s (c.env f)) Q c.E (st0 c h t)
noncomputable def AIs (e : Expr) (f : Fi) (c : Cx) (D : List AV) (σ : As) (K : Bool → As → Prop) : Prop := ∀ Q, Pb c D K Q → ∀ h m N Mc ds t, Cs c D σ h m N Mc ds → wpAny (MD c.w) c.A (isTrue e (c.env f) (eval e (c.env f))) (Q ds) c.E (st0 c h t)
noncomputable def AIb (e : Expr) (f : Fi) (c : Cx) (D : List AV) (σ : As) (K : Bool → As → Prop) : Prop := ∀ whole Q, Pb c D K Q → ∀ h m N Mc ds t, Cs c D σ h m N Mc ds → wpAny (MD c.w) c.A (isTrue e (c.env f) whole) (Q ds) c.E (st0 c h t)
noncomputable def AOp (x : List Value → Sem Value) (as : List AV) (c : Cx) (D : List AV) (σ : As) (K : AV → As → Prop) : Prop := ∀ Q, Pd c D K Q → ∀ h m N Mc ds vs t, Cs c D σ h m N Mc ds → DAll (N ++ c.B) as vs → wpAny (MD c.w) c.A (x vs) (Q ds) c.E (st0 c h t)
noncomputable def two (x : Value → Value → Sem Value) : List Value → Sem Value
 | [a, b] => x a b
 | _ => pure .none
noncomputable def one' (x : Value → Sem Value) : List Value → Sem Value
 | [a] => x a
 | _ => pure .none
noncomputable def ABin (op : Operator) (a b : AV) (c : Cx) (D : List AV) (σ : As) (K : AV → As → Prop) : Prop := AOp (two (binaryOp op)) [a, b] c D σ K
noncomputable def ACmp (op : CmpOp) (a b : AV) (c : Cx) (D : List AV) (σ : As) (K : AV → As → Prop) : Prop := AOp (two (compareOp op)) [a, b] c D σ K
noncomputable def ASub (a b : AV) (e r : Expr) (c : Cx) (D : List AV) (σ : As) (K : AV → As → Prop) : Prop := AOp (two (subscriptTail e r)) [a, b] c D σ K
noncomputable def AUna (op : UnaryOp) (a : AV) (c : Cx) (D : List AV) (σ : As) (K : AV → As → Prop) : Prop := AOp (one' (unaryOp op)) [a] c D σ K
noncomputable def AGet (name : Str) (a : AV) (c : Cx) (D : List AV) (σ : As) (K : AV → As → Prop) : Prop := ∀ b, AOp (one' fun v => getAttr v name b) [a] c D σ K
noncomputable def ACal (fv : Value) (as : List AV) (c : Cx) (D : List AV) (σ : As) (K : AV → As → Prop) : Prop := AOp (fun vs => call fv vs) as c D σ K
noncomputable def ANt (as : List AV) (c : Cx) (D : List AV) (σ : As) (K : AV → As → Prop) : Prop := AOp newTuple as c D σ K
noncomputable def ANl (as : List AV) (c : Cx) (D : List AV) (σ : As) (K : AV → As → Prop) : Prop := AOp newList as c D σ K
noncomputable def AMcl (name : Str) (args : List Expr) (pos : Pos) (f : Fi) (a : AV) (c : Cx) (D : List AV) (σ : As) (K : AV → As → Prop) : Prop := ∀ (pl : Sem Bool) Q, Pd c D K Q → ∀ h m N Mc ds v t, Cs c D σ h m N Mc ds → Den (N ++ c.B) a v → wpAny (MD c.w) c.A (getMethod v name pl) (fun z s₂ => wpAny (MD c.w) c.A (callWith pos z.1 z.2 (backTo pos (starEach args (c.env f))) []) (Q ds) c.E s₂) c.E (st0 c h t)
noncomputable def ATr (a : AV) (c : Cx) (D : List AV) (σ : As) (K : Bool → As → Prop) : Prop := ∀ Q, Pb c D K Q → ∀ h m N Mc ds v t, Cs c D σ h m N Mc ds → Den (N ++ c.B) a v → wpAny (MD c.w) c.A (truthy v) (Q ds) c.E (st0 c h t)
noncomputable def AUp (x : List Value → Sem Unit) (as : List AV) (c : Cx) (D : List AV) (σ : As) (K : As → Prop) : Prop := ∀ Q, Pu c D K Q → ∀ h m N Mc ds vs t, Cs c D σ h m N Mc ds → DAll (N ++ c.B) as vs → wpAny (MD c.w) c.A (x vs) (fun _ => Q ds) c.E (st0 c h t)
noncomputable def u1 (x : Value → Sem Unit) : List Value → Sem Unit
 | [a] => x a
 | _ => pure ()
noncomputable def u2 (x : Value → Value → Sem Unit) : List Value → Sem Unit
 | [a, b] => x a b
 | _ => pure ()
noncomputable def u3 (x : Value → Value → Value → Sem Unit) : List Value → Sem Unit
 | [a, b, e] => x a b e
 | _ => pure ()
noncomputable def ASto (x : Str) (f : Fi) (a : AV) (c : Cx) (D : List AV) (σ : As) (K : As → Prop) : Prop := AUp (u1 (storeName (c.env f) x)) [a] c D σ K
noncomputable def AAsg (t : Expr) (f : Fi) (a : AV) (c : Cx) (D : List AV) (σ : As) (K : As → Prop) : Prop := AUp (u1 (assign t (c.env f))) [a] c D σ K
noncomputable def AAss (ts : List Expr) (f : Fi) (as : List AV) (c : Cx) (D : List AV) (σ : As) (K : As → Prop) : Prop := AUp (assignInOrder ((assignEach ts (c.env f)).map (·.2))) as c D σ K
noncomputable def ASetA (name : Str) (a x : AV) (c : Cx) (D : List AV) (σ : As) (K : As → Prop) : Prop := AUp (u2 fun o v => setAttr o name v) [a, x] c D σ K
noncomputable def ASetI (o i x : AV) (c : Cx) (D : List AV) (σ : As) (K : As → Prop) : Prop := AUp (u3 setItem) [o, i, x] c D σ K
@[reducible] noncomputable def aSeq (rest : List Stmt) (f : Fi) (c : Cx) (K : AF → As → Prop) : AF → As → Prop
 | .next, σ => ASts rest f c σ K
 | fl, σ => K fl σ
@[reducible] noncomputable def aIf (b o : List Stmt) (f : Fi) (c : Cx) (K : AF → As → Prop) : Bool → As → Prop
 | true, σ => ASts b f c σ K
 | false, σ => ASts o f c σ K
@[reducible] noncomputable def aIe (b o : Expr) (f : Fi) (c : Cx) (D : List AV) (K : AV → As → Prop) : Bool → As → Prop
 | true, σ => AEv b f c D σ K
 | false, σ => AEv o f c D σ K
@[reducible] noncomputable def aAnd (rest : List Expr) (pos : Pos) (f : Fi) (c : Cx) (D : List AV) (K : Bool → As → Prop) : Bool → As → Prop
 | true, σ => AIb (.BoolOp .And rest pos) f c D σ K
 | false, σ => K false σ
@[reducible] noncomputable def aOr (rest : List Expr) (pos : Pos) (f : Fi) (c : Cx) (D : List AV) (K : Bool → As → Prop) : Bool → As → Prop
 | true, σ => K true σ
 | false, σ => AIb (.BoolOp .Or rest pos) f c D σ K
@[reducible] noncomputable def aRet (K : AF → As → Prop) : AV → As → Prop := fun a σ => K (.ret a) σ
@[reducible] noncomputable def aNx (K : AF → As → Prop) : AV → As → Prop := fun _ σ => K .next σ
@[reducible] noncomputable def aB2 (op : Operator) (a : AV) (c : Cx) (D : List AV) (K : AV → As → Prop) : AV → As → Prop := fun b σ => ABin op a b c D σ K
@[reducible] noncomputable def aB1 (op : Operator) (r : Expr) (f : Fi) (c : Cx) (D : List AV) (K : AV → As → Prop) : AV → As → Prop := fun a σ => AEv r f c (a :: D) σ (aB2 op a c D K)
@[reducible] noncomputable def aC2 (op : CmpOp) (a : AV) (c : Cx) (D : List AV) (K : AV → As → Prop) : AV → As → Prop := fun b σ => ACmp op a b c D σ K
@[reducible] noncomputable def aC1 (op : CmpOp) (r : Expr) (f : Fi) (c : Cx) (D : List AV) (K : AV → As → Prop) : AV → As → Prop := fun a σ => AEv r f c (a :: D) σ (aC2 op a c D K)
@[reducible] noncomputable def aTr (c : Cx) (D : List AV) (K : Bool → As → Prop) : AV → As → Prop := fun a σ => ATr a c D σ K
@[reducible] noncomputable def aS2 (e r : Expr) (a : AV) (c : Cx) (D : List AV) (K : AV → As → Prop) : AV → As → Prop := fun b σ => ASub a b e r c D σ K
@[reducible] noncomputable def aS1 (e r : Expr) (f : Fi) (c : Cx) (D : List AV) (K : AV → As → Prop) : AV → As → Prop := fun a σ => AEv r f c (a :: D) σ (aS2 e r a c D K)
@[reducible] noncomputable def aUn (op : UnaryOp) (c : Cx) (D : List AV) (K : AV → As → Prop) : AV → As → Prop := fun a σ => AUna op a c D σ K
@[reducible] noncomputable def aCons (a : AV) (K : List AV → As → Prop) : List AV → As → Prop := fun as σ => K (a :: as) σ
@[reducible] noncomputable def aArg (es : List Expr) (f : Fi) (c : Cx) (D : List AV) (K : List AV → As → Prop) : AV → As → Prop := fun a σ => AEvs es f c (a :: D) σ (aCons a K)
@[reducible] noncomputable def aCal (fv : Value) (c : Cx) (D : List AV) (K : AV → As → Prop) : List AV → As → Prop := fun as σ => ACal fv as c D σ K
@[reducible] noncomputable def aCalM (fv : Value) (a : AV) (c : Cx) (D : List AV) (K : AV → As → Prop) : List AV → As → Prop := fun as σ => ACal fv (a :: as) c D σ K
@[reducible] noncomputable def aMcl (name : Str) (args : List Expr) (pos : Pos) (f : Fi) (c : Cx) (D : List AV) (K : AV → As → Prop) : AV → As → Prop := fun a σ => AMcl name args pos f a c D σ K
@[reducible] noncomputable def aGet (name : Str) (c : Cx) (D : List AV) (K : AV → As → Prop) : AV → As → Prop := fun a σ => AGet name a c D σ K
@[reducible] noncomputable def aTup (c : Cx) (D : List AV) (K : AV → As → Prop) : List AV → As → Prop := fun as σ => ANt as c D σ K
@[reducible] noncomputable def aLst (c : Cx) (D : List AV) (K : AV → As → Prop) : List AV → As → Prop := fun as σ => ANl as c D σ K
@[reducible] noncomputable def aSto (x : Str) (f : Fi) (c : Cx) (K : AF → As → Prop) : AV → As → Prop := fun a σ => ASto x f a c [] σ (K .next)
@[reducible] noncomputable def aAsg (t : Expr) (f : Fi) (c : Cx) (K : AF → As → Prop) : AV → As → Prop := fun a σ => AAsg t f a c [] σ (K .next)
@[reducible] noncomputable def aAss (ts : List Expr) (f : Fi) (as : List AV) (c : Cx) (D : List AV) (K : As → Prop) : As → Prop := fun σ => AAss ts f as c D σ K
@[reducible] noncomputable def aSt2 (name : Str) (x : AV) (c : Cx) (D : List AV) (K : As → Prop) : AV → As → Prop := fun a σ => ASetA name a x c D σ K
@[reducible] noncomputable def aSt1 (name : Str) (o : Expr) (f : Fi) (c : Cx) (K : AF → As → Prop) : AV → As → Prop := fun x σ => AEv o f c [x] σ (aSt2 name x c [] (K .next))
@[reducible] noncomputable def aSi3 (x o : AV) (c : Cx) (D : List AV) (K : As → Prop) : AV → As → Prop := fun i σ => ASetI o i x c D σ K
@[reducible] noncomputable def aSi2 (i : Expr) (x : AV) (f : Fi) (c : Cx) (D : List AV) (K : As → Prop) : AV → As → Prop := fun o σ => AEv i f c (o :: x :: D) σ (aSi3 x o c D K)
@[reducible] noncomputable def aSi1 (o i : Expr) (f : Fi) (c : Cx) (K : AF → As → Prop) : AV → As → Prop := fun x σ => AEv o f c [x] σ (aSi2 i x f c [] (K .next))

end
section --AB
section
variable {f : Fi} {c : Cx} {l : List (Str × AV)} {M : List (Addr × AO)} {D : List AV} {σ : As} {a b : AV} {x : Str} {pos px : Pos} {k : Nat} {e r : Expr} {es : List Expr} {s : Stmt} {rest body orelse : List Stmt}
theorem ASts.cons {K : AF → As → Prop} (H : ASt s f c σ (aSeq rest f c K)) : ASts (s :: rest) f c σ K := fun Q q h m N Mc t X =>
 wpAny_execs_cons (H (fun fl s' => match fl with | .next => wpAny _ _ (execs rest _) Q _ s' | fl => Q fl s') (fun fl σ' k h m N Mc g t X y => match fl, k, y with
  | .next, k, y => by cases y; exact k Q q h m N Mc t X
  | .brk, k, y => by cases y; exact q _ _ k h m N Mc _ t X rfl
  | .cont, k, y => by cases y; exact q _ _ k h m N Mc _ t X rfl
  | .ret a, k, y => by obtain ⟨v, rfl, y'⟩ := y; exact q _ _ k h m N Mc _ t X ⟨v, rfl, y'⟩) h m N Mc t X)
theorem ASts.nil {K : AF → As → Prop} (H : K .next σ) : ASts [] f c σ K := fun _ q h m N Mc t X => wpAny_execs_nil (q _ _ H h m N Mc _ t X rfl)
theorem ASts.cut {K : AF → As → Prop} {Y : (As → Prop) → Prop} (H : ∀ K' : AF → As → Prop, Y (K' .next) → ASt s f c σ K') (H2 : Y fun σ' => ASts rest f c σ' K) : ASts (s :: rest) f c σ K := ASts.cons (H _ H2)
theorem AEv.cut {K : AV → As → Prop} {Y : (AV → As → Prop) → Prop} (H : ∀ K' : AV → As → Prop, Y K' → AEv e f c D σ K') (H2 : Y K) : AEv e f c D σ K := H K H2
theorem ASt.ret {K : AF → As → Prop} (H : AEv e f c [] σ (aRet K)) : ASt (.Return (some e) pos) f c σ K := fun Q q h m N Mc t X =>
 wpAny_Return_some (H (fun _ v => Q (.ret v)) (fun a σ' k h m N Mc ds v t X y => by obtain ⟨F, P, W, S, M, z⟩ := X; cases z; exact q _ _ k h m N Mc _ t ⟨F, P, W, S, M, .nil⟩ ⟨v, rfl, y⟩) h m N Mc [] t X)
theorem ASt.ret0 {K : AF → As → Prop} (H : K (.ret (.d .none)) σ) : ASt (.Return none pos) f c σ K := fun _ q h m N Mc t X => wpAny_Return_none (q _ _ H h m N Mc _ t X ⟨_, rfl, .none⟩)
theorem Cs.nil {h : Heap} {m : Str → Option Value} {N Mc : Led} {ds : List Value} (X : Cs c [] σ h m N Mc ds) : ds = [] := by
 have := X.D
 cases this
 rfl
theorem ASt.ifS {K : AF → As → Prop} (H : AIs e f c [] σ (aIf body orelse f c K)) : ASt (.If e body orelse pos) f c σ K := fun Q q h m N Mc t X =>
 wpAny_If (H (fun _ b s₂ => if b = true then wpAny _ _ (execs body _) Q _ s₂ else wpAny _ _ (execs orelse _) Q _ s₂) (fun b σ' k h m N Mc ds t X => by
  obtain rfl := X.nil
  cases b
  ·exact k Q q h m N Mc t X
  ·exact k Q q h m N Mc t X) h m N Mc [] t X)
theorem ASt.asg {K : AF → As → Prop} (H : AEv e f c [] σ (aSto x f c K)) (hs : ∀ env, swapsWith e (some (.Name x px)) pos.line env = pure false) : ASt (.Assign [.Name x px] e pos) f c σ K := fun Q q h m N Mc t X =>
 wpAny_Assign_Name (H (fun _ v s₁ => wpAny _ _ (storeName _ x v) (fun _ => Q .next) _ s₁) (fun a σ' k h m N Mc ds v t X y => k (fun _ => Q .next) (fun σ'' k' h m N Mc ds t X => by obtain rfl := X.nil; exact q _ _ k' h m N Mc _ t X rfl) h m N Mc ds [v] t X (.cons y .nil)) h m N Mc [] t X) (hs _)
theorem ASt.expr {K : AF → As → Prop} (H : AEv e f c [] σ (aNx K)) (hi : ∀ c : Cx, interactive (c.env f) = false) (hs : ∀ env, swapsWith e none pos.line env = pure false) : ASt (.Expr e pos) f c σ K := fun Q q h m N Mc t X =>
 wpAny_Expr_any (H (fun _ _ => Q .next) (fun a σ' k h m N Mc ds v t X y => by obtain rfl := X.nil; exact q _ _ k h m N Mc _ t X rfl) h m N Mc [] t X) (hi c) (hs _)
theorem AEv.loc {K : AV → As → Prop} (hv : l.lookup x = some a) (hx : f.is x .local = true) (H : K a ⟨l, M⟩) : AEv (.Name x px) f c D ⟨l, M⟩ K := fun Q q h m N Mc ds t X => by
 obtain ⟨v, hm, y⟩ := X.P x a hv
 exact nmL X.F hm hx (q _ _ H h m N Mc ds v t X y)
theorem AEv.int {K : AV → As → Prop} {i : Int} (H : K (.d (.int i)) σ) : AEv (.Constant (.int i) k px) f c D σ K := fun Q q h m N Mc ds t X => wpAny_Constant_int (q _ _ H h m N Mc ds _ (t + 1) X (.int i t))
theorem AEv.str {K : AV → As → Prop} {y : Str} (H : K (.d (.str y)) σ) : AEv (.Constant (.str y) k px) f c D σ K := fun Q q h m N Mc ds t X => Constant_str (q _ _ H h m N Mc ds _ (t + 1) X (.str y t))
theorem AEv.none {K : AV → As → Prop} (H : K (.d .none) σ) : AEv (.Constant .none k px) f c D σ K := fun Q q h m N Mc ds t X => Constant_none (q _ _ H h m N Mc ds _ t X .none)
theorem AEv.bool {K : AV → As → Prop} {b : Bool} (H : K (.d (.bool b)) σ) : AEv (.Constant (.bool b) k px) f c D σ K := fun Q q h m N Mc ds t X => Constant_bool (q _ _ H h m N Mc ds _ t X (.bool b))
theorem AEv.bin {K : AV → As → Prop} {op : Operator} (H : AEv e f c D σ (aB1 op r f c D K)) : AEv (.BinOp e op r pos) f c D σ K := fun Q q h m N Mc ds t X =>
 wpAny_BinOp (H (fun ds a s₁ => wpAny _ _ (eval r _) (fun b s₂ => wpAny _ _ (binaryOp op a b) (Q ds) _ s₂) _ s₁) (fun a σ₁ k1 h m N Mc ds v t X y =>
  k1 (fun ds' b s₂ => wpAny _ _ (binaryOp op (ds'.headD .none) b) (Q ds'.tail) _ s₂) (fun b σ₂ k2 h m N Mc ds' v' t X' y' => by
   obtain ⟨v, r', rfl, y, X⟩ := X'.pop
   exact k2 Q q h m N Mc r' [v, v'] t X (.cons y (.cons y' .nil))) h m N Mc (v :: ds) t (X.push y)) h m N Mc ds t X)
theorem AEv.sub {K : AV → As → Prop} (H : AEv e f c D σ (aS1 e r f c D K)) : AEv (.Subscript e r pos) f c D σ K := fun Q q h m N Mc ds t X =>
 Subscript_ (H (fun ds a s₁ => wpAny _ _ (eval r _) (fun b s₂ => wpAny _ _ (subscriptTail e r a b) (Q ds) _ s₂) _ s₁) (fun a σ₁ k1 h m N Mc ds v t X y =>
  k1 (fun ds' b s₂ => wpAny _ _ (subscriptTail e r (ds'.headD .none) b) (Q ds'.tail) _ s₂) (fun b σ₂ k2 h m N Mc ds' v' t X' y' => by
   obtain ⟨v, r', rfl, y, X⟩ := X'.pop
   exact k2 Q q h m N Mc r' [v, v'] t X (.cons y (.cons y' .nil))) h m N Mc (v :: ds) t (X.push y)) h m N Mc ds t X)
theorem AEv.cmp {K : AV → As → Prop} {op : CmpOp} (H : AEv e f c D σ (aC1 op r f c D K)) (hm : behindInMarks op r = false) : AEv (.Compare e [op] [r] pos) f c D σ K := fun Q q h m N Mc ds t X =>
 wpAny_Compare1 (H (fun ds a s₁ => wpAny _ _ (eval r _) (fun b s₂ => wpAny _ _ (compareOp op a b) (Q ds) _ s₂) _ s₁) (fun a σ₁ k1 h m N Mc ds v t X y =>
  k1 (fun ds' b s₂ => wpAny _ _ (compareOp op (ds'.headD .none) b) (Q ds'.tail) _ s₂) (fun b σ₂ k2 h m N Mc ds' v' t X' y' => by
   obtain ⟨v, r', rfl, y, X⟩ := X'.pop
   exact k2 Q q h m N Mc r' [v, v'] t X (.cons y (.cons y' .nil))) h m N Mc (v :: ds) t (X.push y)) h m N Mc ds t X) hm
theorem AIs.cmp {K : Bool → As → Prop} {op : CmpOp} (H : AEv e f c D σ (aC1 op r f c D (aTr c D K))) (hm : behindInMarks op r = false) : AIs (.Compare e [op] [r] pos) f c D σ K := fun Q q h m N Mc ds t X =>
 wpAny_isTrue_Compare1 (H (fun ds a s₁ => wpAny _ _ (eval r _) (fun b s₂ => wpAny _ _ (compareOp op a b) (fun v s₃ => wpAny _ _ (truthy v) (Q ds) _ s₃) _ s₂) _ s₁) (fun a σ₁ k1 h m N Mc ds v t X y =>
  k1 (fun ds' b s₂ => wpAny _ _ (compareOp op (ds'.headD .none) b) (fun v s₃ => wpAny _ _ (truthy v) (Q ds'.tail) _ s₃) _ s₂) (fun b σ₂ k2 h m N Mc ds' v' t X' y' => by
   obtain ⟨v, r', rfl, y, X⟩ := X'.pop
   exact k2 (fun ds v s₃ => wpAny _ _ (truthy v) (Q ds) _ s₃) (fun a σ₃ k3 h m N Mc ds v t X y => k3 Q q h m N Mc ds v t X y) h m N Mc r' [v, v'] t X (.cons y (.cons y' .nil))) h m N Mc (v :: ds) t (X.push y)) h m N Mc ds t X) hm
theorem AEv.una {K : AV → As → Prop} {op : UnaryOp} (H : AEv e f c D σ (aUn op c D K)) : AEv (.UnaryOp op e pos) f c D σ K := fun Q q h m N Mc ds t X =>
 wpAny_UnaryOp (H (fun ds v s₁ => wpAny _ _ (unaryOp op v) (Q ds) _ s₁) (fun a σ' k h m N Mc ds v t X y => k Q q h m N Mc ds [v] t X (.cons y .nil)) h m N Mc ds t X)
theorem AEv.ife {K : AV → As → Prop} {bo el : Expr} (H : AIs e f c D σ (aIe bo el f c D K)) : AEv (.IfExp e bo el pos) f c D σ K := fun Q q h m N Mc ds t X =>
 IfExp_ (H (fun ds b s₂ => if b = true then wpAny _ _ (eval bo _) (Q ds) _ s₂ else wpAny _ _ (eval el _) (Q ds) _ s₂) (fun b σ' k h m N Mc ds t X => by
  cases b
  ·exact k Q q h m N Mc ds t X
  ·exact k Q q h m N Mc ds t X) h m N Mc ds t X)
theorem AEv.tup {K : AV → As → Prop} (H : AEvs es f c D σ (aTup c D K)) : AEv (.Tuple es k pos) f c D σ K := fun Q q h m N Mc ds t X => Tuple_ (H pos (fun ds vs s₁ => wpAny _ _ (newTuple vs) (Q ds) _ s₁) (fun as σ' k h m N Mc ds vs t X y => k Q q h m N Mc ds vs t X y) h m N Mc ds t X)
theorem AEv.lst {K : AV → As → Prop} (H : AEvs es f c D σ (aLst c D K)) : AEv (.List es pos) f c D σ K := fun Q q h m N Mc ds t X => List_ (H pos (fun ds vs s₁ => wpAny _ _ (newList vs) (Q ds) _ s₁) (fun as σ' k h m N Mc ds vs t X y => k Q q h m N Mc ds vs t X y) h m N Mc ds t X)
theorem AEvs.nil {K : List AV → As → Prop} (H : K [] σ) : AEvs [] f c D σ K := fun _ Q q h m N Mc ds t X => args_nil (q _ _ H h m N Mc ds _ t X .nil)
theorem AEvs.cons {K : List AV → As → Prop} (hx : Xs (e :: es) = true) (H : AEv e f c D σ (aArg es f c D K)) : AEvs (e :: es) f c D σ K := fun p Q q h m N Mc ds t X =>
 args_cons (H (fun ds v s₁ => wpAny _ _ (spliced (backTo p (starEach es _))) (fun vs s₂ => Q ds (v :: vs) s₂) _ s₁) (fun a σ₁ k1 h m N Mc ds v t X y =>
  k1 p (fun ds' vs s₂ => Q ds'.tail (ds'.headD .none :: vs) s₂) (fun as σ₂ k2 h m N Mc ds' vs t X' y' => by
   obtain ⟨v, r', rfl, y, X⟩ := X'.pop
   exact q _ _ k2 h m N Mc r' (v :: vs) t X (.cons y y')) h m N Mc (v :: ds) t (X.push y)) h m N Mc ds t X) (Xs.star hx _)
theorem AIs.plain {K : Bool → As → Prop} (H : AEv e f c D σ (aTr c D K)) (he : ∀ env whole, isTrue e env whole = (do let v ← whole; standAt e.pos; holding [v] (truthy v))) : AIs e f c D σ K := fun Q q h m N Mc ds t X =>
 isTrue_plain (H (fun ds v s₁ => wpAny _ _ (truthy v) (Q ds) _ s₁) (fun a σ' k h m N Mc ds v t X y => k Q q h m N Mc ds v t X y) h m N Mc ds t X) (he _ _)
theorem AIs.bool {K : Bool → As → Prop} {op : BoolOp} (H : AIb (.BoolOp op es pos) f c D σ K) : AIs (.BoolOp op es pos) f c D σ K := H _
theorem AIb.and {K : Bool → As → Prop} (H : AIs e f c D σ (aAnd es pos f c D K)) : AIb (.BoolOp .And (e :: es) pos) f c D σ K := fun whole Q q h m N Mc ds t X =>
 isTrue_and (H (fun ds b s' => if b = true then wpAny _ _ (isTrue (.BoolOp .And es pos) _ whole) (Q ds) _ s' else Q ds false s') (fun b σ' k h m N Mc ds t X => by
  cases b
  ·exact q _ _ k h m N Mc ds t X
  ·exact k whole Q q h m N Mc ds t X) h m N Mc ds t X)
theorem AIb.and0 {K : Bool → As → Prop} (H : K true σ) : AIb (.BoolOp .And [] pos) f c D σ K := fun _ Q q h m N Mc ds t X => isTrue_and_nil (q _ _ H h m N Mc ds t X)
theorem AIb.or {K : Bool → As → Prop} (H : AIs e f c D σ (aOr es pos f c D K)) : AIb (.BoolOp .Or (e :: es) pos) f c D σ K := fun whole Q q h m N Mc ds t X =>
 isTrue_or (H (fun ds b s' => if b = true then Q ds true s' else wpAny _ _ (isTrue (.BoolOp .Or es pos) _ whole) (Q ds) _ s') (fun b σ' k h m N Mc ds t X => by
  cases b
  ·exact k whole Q q h m N Mc ds t X
  ·exact q _ _ k h m N Mc ds t X) h m N Mc ds t X)
theorem AIb.or0 {K : Bool → As → Prop} (H : K false σ) : AIb (.BoolOp .Or [] pos) f c D σ K := fun _ Q q h m N Mc ds t X => isTrue_or_nil (q _ _ H h m N Mc ds t X)
theorem ATr.bool {K : Bool → As → Prop} {b : Bool} (H : K b σ) : ATr (.d (.bool b)) c D σ K := fun Q q h m N Mc ds v t X y => by
 cases y
 exact wpAny_truthy_bool (q _ _ H h m N Mc ds t X)
theorem asplit {K : Bool → As → Prop} {p : Prop} [Decidable p] (h1 : p → K true σ) (h2 : ¬ p → K false σ) : K (decide p) σ := by
 by_cases h : p
 ·rw [decide_eq_true h]; exact h1 h
 ·rw [decide_eq_false h]; exact h2 h
theorem ayes {K : Bool → As → Prop} {p : Prop} [Decidable p] (h : p) (h1 : K true σ) : K (decide p) σ := by rw [decide_eq_true h]; exact h1
theorem ano {K : Bool → As → Prop} {p : Prop} [Decidable p] (h : ¬ p) (h1 : K false σ) : K (decide p) σ := by rw [decide_eq_false h]; exact h1
theorem ASto.up {K : As → Prop} {u : AV} (p : List (Str × AV)) (hx : f.is x .local = true) (H : K ⟨(x, a) :: (p ++ l), M⟩) : ASto x f a c D ⟨p ++ (x, u) :: l, M⟩ K := fun Q q h m N Mc ds vs t X y => by
 cases y with
 | cons y z =>
  cases z
  refine stL X.F X.W hx (fun h' F' W' => q _ H h' _ N Mc ds _ ⟨F', fun y' b e => ?_, W', X.S, X.M, X.D⟩)
  show ∃ v', (if y' = x then some _ else m y') = some v' ∧ _
  have e : List.lookup y' ((x, a) :: (p ++ l)) = some b := e
  rw [List.lookup_cons] at e
  cases hb : y' == x with
  | true =>
   rw [hb] at e
   cases e
   exact ⟨_, if_pos (beq_iff_eq.mp hb), y⟩
  | false =>
   rw [hb] at e
   obtain ⟨v', e', w⟩ := X.P y' b (by
    show List.lookup y' (p ++ (x, u) :: l) = some b
    have : ∀ p : List (Str × AV), List.lookup y' (p ++ (x, u) :: l) = List.lookup y' (p ++ l) := fun p => by
     induction p with
     | nil => rw [List.nil_append, List.nil_append, List.lookup_cons, hb]
     | cons z r ih => rw [List.cons_append, List.cons_append, List.lookup_cons, List.lookup_cons, ih]
    rw [this]
    exact e)
   exact ⟨v', (if_neg (beq_eq_false_iff_ne.mp hb)).trans e', w⟩
theorem ASto.new {K : As → Prop} (hx : f.is x .local = true) (H : K ⟨(x, a) :: l, M⟩) : ASto x f a c D ⟨l, M⟩ K := fun Q q h m N Mc ds vs t X y => by
 cases y with
 | cons y z =>
  cases z
  refine stL X.F X.W hx (fun h' F' W' => q _ H h' _ N Mc ds _ ⟨F', fun y' b e => ?_, W', X.S, X.M, X.D⟩)
  show ∃ v', (if y' = x then some _ else m y') = some v' ∧ _
  have e : List.lookup y' ((x, a) :: l) = some b := e
  rw [List.lookup_cons] at e
  cases hb : y' == x with
  | true =>
   rw [hb] at e
   cases e
   exact ⟨_, if_pos (beq_iff_eq.mp hb), y⟩
  | false =>
   rw [hb] at e
   obtain ⟨v', e', w⟩ := X.P y' b e
   exact ⟨v', (if_neg (beq_eq_false_iff_ne.mp hb)).trans e', w⟩
end
section
variable {f : Fi} {c : Cx} {l : List (Str × AV)} {M : List (Addr × AO)} {D : List AV} {a u : AV} {x : Str} {K : As → Prop} {a1 a2 a3 a4 a5 a6 a7 a8 : Str × AV}
theorem ASto.u0 (hx : f.is x .local = true) (H : K ⟨(x, a) :: l, M⟩) : ASto x f a c D ⟨(x, u) :: l, M⟩ K := ASto.up [] hx H
theorem ASto.u1 (hx : f.is x .local = true) (H : K ⟨(x, a) :: a1 :: l, M⟩) : ASto x f a c D ⟨a1 :: (x, u) :: l, M⟩ K := ASto.up [a1] hx H
theorem ASto.u2 (hx : f.is x .local = true) (H : K ⟨(x, a) :: a1 :: a2 :: l, M⟩) : ASto x f a c D ⟨a1 :: a2 :: (x, u) :: l, M⟩ K := ASto.up [a1, a2] hx H
end

end
section --AC
noncomputable def datL : List AV → Option (List Dat)
 | [] => some []
 | .d x :: r => match datL r with
  | some l => some (x :: l)
  | none => none
 | .v _ :: _ => none
theorem datL_all {B : Led} : ∀ {as : List AV} {dl : List Dat} {vs : List Value}, datL as = some dl → DAll B as vs → DatAll B vs dl
 | [], _, _, e, h => by
  cases e
  cases h
  exact .nil
 | .d x :: r, dl, vs, e, h => by
  cases h with
  | cons h t =>
   unfold datL at e
   cases q : datL r with
   | none => rw [q] at e; cases e
   | some l =>
    rw [q] at e
    cases e
    exact .cons h (datL_all q t)
 | .v _ :: _, _, _, e, _ => by cases e
theorem dall_map {B : Led} {dl : List Dat} {vs : List Value} (h : DatAll B vs dl) : DAll B (dl.map .d) vs := by
 induction dl generalizing vs with
 | nil => cases h; exact .nil
 | cons d r ih =>
  cases h with
  | cons h t => exact .cons h (ih t)
theorem DAll.one {B : Led} {a : AV} {vs : List Value} (h : DAll B [a] vs) : ∃ v, vs = [v] ∧ Den B a v := by
 cases h with
 | cons h t => cases t; exact ⟨_, rfl, h⟩
theorem DAll.two {B : Led} {a b : AV} {vs : List Value} (h : DAll B [a, b] vs) : ∃ v u, vs = [v, u] ∧ Den B a v ∧ Den B b u := by
 cases h with
 | cons h t =>
  obtain ⟨u, rfl, k⟩ := t.one
  exact ⟨_, u, rfl, h, k⟩
theorem DAll.three {B : Led} {a b e : AV} {vs : List Value} (h : DAll B [a, b, e] vs) : ∃ v u w, vs = [v, u, w] ∧ Den B a v ∧ Den B b u ∧ Den B e w := by
 cases h with
 | cons h t =>
  obtain ⟨u, w, rfl, k, z⟩ := t.two
  exact ⟨_, u, w, rfl, h, k, z⟩
theorem den_int {B : Led} {i : Int} {v : Value} (h : Den B (.d (.int i)) v) : ∃ t, v = .int i t := by
 cases h with
 | int => exact ⟨_, rfl⟩
theorem den_str {B : Led} {x : Str} {v : Value} (h : Den B (.d (.str x)) v) : ∃ t, v = .str x t := by
 cases h with
 | str => exact ⟨_, rfl⟩
theorem den_tup {B : Led} {dl : List Dat} {v : Value} (h : Den B (.d (.tuple dl)) v) : ∃ T vs n, v = .ref T ∧ (T, tupO vs.toArray n) ∈ B ∧ DatAll B vs dl := by
 cases h with
 | tuple hm r => exact ⟨_, _, _, rfl, hm, r⟩
theorem den_lst {B : Led} {dl : List Dat} {v : Value} (h : Den B (.d (.list dl)) v) : ∃ T vs n, v = .ref T ∧ (T, W.listOf vs.toArray n) ∈ B ∧ DatAll B vs dl := by
 cases h with
 | list hm r => exact ⟨_, _, _, rfl, hm, r⟩
theorem datAll_get {B : Led} {vs : List Value} {dl : List Dat} (h : DatAll B vs dl) {j : Nat} {d : Dat} (e : dl[j]? = some d) : ∃ v, vs[j]? = some v ∧ DatIn B v d := by
 obtain ⟨hj, rfl⟩ := List.getElem?_eq_some_iff.mp e
 exact h.get hj
section
variable {f : Fi} {c : Cx} {l : List (Str × AV)} {M M₀ M₁ : List (Addr × AO)} {D : List AV} {σ : As} {a b : AV} {as : List AV} {x y : Str} {pos px : Pos} {k : Nat} {e r : Expr} {es : List Expr} {K : AV → As → Prop} {i j : Int} {d0 : Dat} {dl : List Dat}
theorem mem_all {c : Cx} {Mc N : Led} {q : Addr × Obj} (h : q ∈ N ++ c.B) : q ∈ c.all Mc N := List.mem_append_right _ ((List.mem_append.mp h).elim (List.mem_append_left _) fun h => List.mem_append_right _ (c.hB _ h))
theorem ANt.mk (hd : datL as = some dl) (hz : Nat.ble as.length 1000 = true) (H : K (.d (.tuple dl)) σ) : ANt as c D σ K := fun Q q h m N Mc ds vs t X y => by
 have hl : vs.length = as.length := by
  clear hd hz H
  induction y with
  | nil => rfl
  | cons _ _ ih => rw [List.length_cons, List.length_cons, ih]
 refine kup_newTuple X.F X.W (fun T h' F' W' lt => ?_) (by rw [hl]; exact zle hz)
 refine q _ _ H h' m ((T, tupO vs.toArray 0) :: N) Mc ds _ t (X.grow (fun q hq => .tail _ hq) F' (news_mem W' all_new) (X.S.new lt (c.okT _ ⟨_, _, rfl⟩))) ?_
 exact DatIn.tuple (.head _) (DatAll.mono (fun q hq => .tail _ hq) (datL_all hd y))
theorem ABin.add (H : K (.d (.int (i + j))) σ) : ABin .Add (.d (.int i)) (.d (.int j)) c D σ K := fun Q q h m N Mc ds vs t X y => by
 obtain ⟨_, _, rfl, y1, y2⟩ := y.two
 obtain ⟨t1, rfl⟩ := den_int y1
 obtain ⟨t2, rfl⟩ := den_int y2
 exact add_int (q _ _ H h m N Mc ds _ (t + 1) X (.int _ _))
theorem ABin.sub (H : K (.d (.int (i - j))) σ) : ABin .Sub (.d (.int i)) (.d (.int j)) c D σ K := fun Q q h m N Mc ds vs t X y => by
 obtain ⟨_, _, rfl, y1, y2⟩ := y.two
 obtain ⟨t1, rfl⟩ := den_int y1
 obtain ⟨t2, rfl⟩ := den_int y2
 exact sub_int (q _ _ H h m N Mc ds _ (t + 1) X (.int _ _))
theorem ABin.mul (hm : IntMulOk i j) (H : K (.d (.int (i * j))) σ) : ABin .Mult (.d (.int i)) (.d (.int j)) c D σ K := fun Q q h m N Mc ds vs t X y => by
 obtain ⟨_, _, rfl, y1, y2⟩ := y.two
 obtain ⟨t1, rfl⟩ := den_int y1
 obtain ⟨t2, rfl⟩ := den_int y2
 exact mul_int (q _ _ H h m N Mc ds _ (t + 1) X (.int _ _)) hm
theorem AUna.neg (H : K (.d (.int (-i))) σ) : AUna .USub (.d (.int i)) c D σ K := fun Q q h m N Mc ds vs t X y => by
 obtain ⟨_, rfl, y1⟩ := y.one
 obtain ⟨t1, rfl⟩ := den_int y1
 exact neg_int (q _ _ H h m N Mc ds _ (t + 1) X (.int _ _))
theorem ACmp.of {op : CmpOp} {r : Bool} (hw : ∀ B va vb (Q : Value → Shared → Prop) s, Den B a va → Den B b vb → Q (.bool r) s → wpAny (MD c.w) c.A (compareOp op va vb) Q c.E s) (H : K (.d (.bool r)) σ) : ACmp op a b c D σ K := fun Q q h m N Mc ds vs t X y => by
 obtain ⟨_, _, rfl, y1, y2⟩ := y.two
 exact hw _ _ _ _ _ y1 y2 (q _ _ H h m N Mc ds _ t X (.bool _))
theorem ACmp.neS {r : Bool} (e : (x != y) = r) (H : K (.d (.bool r)) σ) : ACmp .NotEq (.d (.str x)) (.d (.str y)) c D σ K := ACmp.of (fun B va vb Q s y1 y2 h => by
 obtain ⟨t1, rfl⟩ := den_str y1
 obtain ⟨t2, rfl⟩ := den_str y2
 exact ne_str (by rw [e]; exact h)) H
theorem ACmp.eqS {r : Bool} (e : (x == y) = r) (H : K (.d (.bool r)) σ) : ACmp .Eq (.d (.str x)) (.d (.str y)) c D σ K := ACmp.of (fun B va vb Q s y1 y2 h => by
 obtain ⟨t1, rfl⟩ := den_str y1
 obtain ⟨t2, rfl⟩ := den_str y2
 exact eq_str (by rw [e]; exact h)) H
theorem ACmp.inS {n : Nat} {r : Bool} (e : decide (n ∈ x.cps.toList) = r) (H : K (.d (.bool r)) σ) : ACmp .In (.d (.str (S [n]))) (.d (.str x)) c D σ K := ACmp.of (fun B va vb Q s y1 y2 h => by
 obtain ⟨t1, rfl⟩ := den_str y1
 obtain ⟨t2, rfl⟩ := den_str y2
 exact in_of (l := x.cps.toList) rfl (by rw [e]; exact h)) H
theorem ACmp.isN (H : K (.d (.bool true)) σ) : ACmp .Is (.d .none) (.d .none) c D σ K := ACmp.of (fun B va vb Q s y1 y2 h => by
 cases y1
 cases y2
 exact is_none_none h) H
theorem ACmp.isT (H : K (.d (.bool false)) σ) : ACmp .Is (.d (.tuple dl)) (.d .none) c D σ K := ACmp.of (fun B va vb Q s y1 y2 h => by
 obtain ⟨T, vs, n, rfl, -, -⟩ := den_tup y1
 cases y2
 exact is_ref_none h) H
theorem ASub.tup {n : Nat} (hj : seqIndex? i dl.length = some n) (hv : dl[n]? = some d0) (hs : Nsl r = true) (h1 : decide (-2 ^ 63 ≤ i ∧ i < 2 ^ 63) = true) (H : K (.d d0) σ) : ASub (.d (.tuple dl)) (.d (.int i)) e r c D σ K := fun Q q h m N Mc ds vs t X y => by
 obtain ⟨_, _, rfl, y1, y2⟩ := y.two
 obtain ⟨T, us, n', rfl, hm, hus⟩ := den_tup y1
 obtain ⟨t2, rfl⟩ := den_int y2
 obtain ⟨v, hv', dv⟩ := datAll_get hus hv
 have hb := of_decide_eq_true h1
 exact item_tupleT (News.isTup X.W (mem_all hm)) hb.1 hb.2 (by rw [hus.length]; exact hj) hv' (q _ _ H h m N Mc ds v t X dv) (Nsl.sub hs)
theorem ASub.lst (h0 : 0 ≤ i) (hv : dl[i.toNat]? = some d0) (hs : Nsl r = true) (h1 : decide (i < 2 ^ 63) = true) (H : K (.d d0) σ) : ASub (.d (.list dl)) (.d (.int i)) e r c D σ K := fun Q q h m N Mc ds vs t X y => by
 obtain ⟨_, _, rfl, y1, y2⟩ := y.two
 obtain ⟨T, us, n', rfl, hm, hus⟩ := den_lst y1
 obtain ⟨t2, rfl⟩ := den_int y2
 obtain ⟨v, hv', dv⟩ := datAll_get hus hv
 exact item_listR ⟨_, (X.W _ (mem_all hm)).1, rfl, _, rfl⟩ h0 (of_decide_eq_true h1) (by simpa using hv') (q _ _ H h m N Mc ds v t X dv) (Nsl.sub hs)
theorem ASub.neg (h0 : i < 0) (hb : -(dl.length : Int) ≤ i) (hv : dl[(i + dl.length).toNat]? = some d0) (hs : Nsl r = true) (h1 : decide (-2 ^ 63 ≤ i) = true) (H : K (.d d0) σ) : ASub (.d (.list dl)) (.d (.int i)) e r c D σ K := fun Q q h m N Mc ds vs t X y => by
 obtain ⟨_, _, rfl, y1, y2⟩ := y.two
 obtain ⟨T, us, n', rfl, hm, hus⟩ := den_lst y1
 obtain ⟨t2, rfl⟩ := den_int y2
 obtain ⟨v, hv', dv⟩ := datAll_get hus hv
 have hl : Heap.IsList h T us.toArray := ⟨_, (X.W _ (mem_all hm)).1, rfl, _, rfl⟩
 exact subscriptTail_builtinR hl.typeIs slot_list_getitem.lookup (wpAny_getItem_list_neg (Q := fun r s' => r = v ∧ Q ds r s') hl h0 (by rw [List.size_toArray, hus.length]; exact hb) (of_decide_eq_true h1) (by rw [List.size_toArray, hus.length]; simpa using hv') ⟨rfl, q _ _ H h m N Mc ds v t X dv⟩) (Nsl.sub hs)
theorem AEv.call {fa : Addr} (hg : ∀ w, Glo w x fa) (hx : f.is x .globalImplicit = true) (ha : Xs (e :: es) = true) (H : AEvs (e :: es) f c D σ (aCal (.ref fa) c D K))
  (he : ∀ env, eval (.Call (.Name x px) (e :: es) [] pos) env = (do callWith pos (← eval (.Name x px) env) [] (backTo pos (starEach (e :: es) env)) (backToKw pos (keywordEach [] env)))) :
  AEv (.Call (.Name x px) (e :: es) [] pos) f c D σ K := fun Q q h m N Mc ds t X =>
 Call_ (nmK X.F (hg c.w).a hx (callWith_K c.X (hg c.w).b (H pos (fun ds vs s₁ => (heapK c.w.params).In s₁.heap ∧ wpAny _ _ (PySem.call (.ref fa) vs) (Q ds) _ s₁) (fun as σ' k h m N Mc ds vs t X y => ⟨c.X.keeps X.F.keep, k Q q h m N Mc ds vs t X y⟩) h m N Mc ds t X) (Xs.star ha _) (Xs.plain (Xs.tl ha) _ _))) (he _)
theorem AEv.call0 {fa : Addr} (hg : ∀ w, Glo w x fa) (hx : f.is x .globalImplicit = true) (H : ACal (.ref fa) [] c D σ K)
  (he : ∀ env, eval (.Call (.Name x px) [] [] pos) env = (do callWith pos (← eval (.Name x px) env) [] (backTo pos (starEach [] env)) (backToKw pos (keywordEach [] env)))) :
  AEv (.Call (.Name x px) [] [] pos) f c D σ K := fun Q q h m N Mc ds t X =>
 Call_ (nmK X.F (hg c.w).a hx (callWith_K0 (c.X.keeps X.F.keep) (hg c.w).b (H Q q h m N Mc ds [] t X .nil))) (he _)
theorem AEv.mcall {name : Str} {apos : Pos} {pl : Env → Sem Bool} (H : AEv e f c D σ (aMcl name es pos f c D K))
  (he : ∀ env, eval (.Call (.Attribute e name apos) es [] pos) env = (do
   let ov ← eval e env
   standAt apos.atName
   let (f, first) ← holding [ov] (getMethod ov name (pl env))
   callWith pos f first (backTo pos (starEach es env)) [])) :
  AEv (.Call (.Attribute e name apos) es [] pos) f c D σ K := fun Q q h m N Mc ds t X =>
 MethodCall_ (H (fun ds ov s₁ => wpAny _ _ (getMethod ov name (pl (c.env f))) (fun z s₂ => wpAny _ _ (callWith pos z.1 z.2 (backTo pos (starEach es (c.env f))) []) (Q ds) _ s₂) _ s₁) (fun a σ' k h m N Mc ds v t X y => k _ Q q h m N Mc ds v t X y) h m N Mc ds t X) (he _)
theorem AMcl.upper (H : ACal (.builtin "str.upper") [.d (.str x)] c D σ K) : AMcl "upper" [] pos f (.d (.str x)) c D σ K := fun pl Q q h m N Mc ds v t X y => by
 obtain ⟨t1, rfl⟩ := den_str y
 with_reducible refine GM.upper ?_
 exact (callWith_method0 (H Q q h m N Mc ds [_] t X (.cons y .nil)))
theorem AMcl.islower (H : ACal (.builtin "str.islower") [.d (.str x)] c D σ K) : AMcl "islower" [] pos f (.d (.str x)) c D σ K := fun pl Q q h m N Mc ds v t X y => by
 obtain ⟨t1, rfl⟩ := den_str y
 with_reducible refine GM.islower ?_
 exact (callWith_method0 (H Q q h m N Mc ds [_] t X (.cons y .nil)))
theorem ACal.upper (e : Txt.upper x = y) (hf : Builtin.Str.tooLong (Txt.upper x).length = false) (H : K (.d (.str y)) σ) : ACal (.builtin "str.upper") [.d (.str x)] c D σ K := fun Q q h m N Mc ds vs t X z => by
 obtain ⟨_, rfl, z1⟩ := z.one
 obtain ⟨t1, rfl⟩ := den_str z1
 exact KXw.upper e hf fun t' k => q _ _ H h m N Mc ds _ k X (.str _ _)
theorem ACal.islower {b : Bool} (e : Txt.islower x = b) (H : K (.d (.bool b)) σ) : ACal (.builtin "str.islower") [.d (.str x)] c D σ K := fun Q q h m N Mc ds vs t X z => by
 obtain ⟨_, rfl, z1⟩ := z.one
 obtain ⟨t1, rfl⟩ := den_str z1
 exact KXw.islower e (q _ _ H h m N Mc ds _ t X (.bool _))
end
section
variable {c : Cx} {D : List AV} {σ : As} {K : AV → As → Prop}
theorem ACmp.gt {i j : Int} (H : K (.d (.bool (decide (j < i)))) σ) : ACmp .Gt (.d (.int i)) (.d (.int j)) c D σ K := ACmp.of (fun B va vb Q s y1 y2 h => by
 obtain ⟨t1, rfl⟩ := den_int y1
 obtain ⟨t2, rfl⟩ := den_int y2
 exact gt_int h) H
theorem ACmp.eqI {i j : Int} (H : K (.d (.bool (decide (i = j)))) σ) : ACmp .Eq (.d (.int i)) (.d (.int j)) c D σ K := ACmp.of (fun B va vb Q s y1 y2 h => by
 obtain ⟨t1, rfl⟩ := den_int y1
 obtain ⟨t2, rfl⟩ := den_int y2
 exact eq_int h) H
theorem ACmp.ltI {i j : Int} (H : K (.d (.bool (decide (i < j)))) σ) : ACmp .Lt (.d (.int i)) (.d (.int j)) c D σ K := ACmp.of (fun B va vb Q s y1 y2 h => by
 obtain ⟨t1, rfl⟩ := den_int y1
 obtain ⟨t2, rfl⟩ := den_int y2
 exact lt_int h) H
theorem ACmp.isI {i : Int} (H : K (.d (.bool false)) σ) : ACmp .Is (.d (.int i)) (.d .none) c D σ K := ACmp.of (fun B va vb Q s y1 y2 h => by
 obtain ⟨t1, rfl⟩ := den_int y1
 cases y2
 exact is_int_none h) H
end
theorem DAll.four {B : Led} {a b c d : AV} {vs : List Value} (h : DAll B [a, b, c, d] vs) : ∃ v1 v2 v3 v4, vs = [v1, v2, v3, v4] ∧ Den B a v1 ∧ Den B b v2 ∧ Den B c v3 ∧ Den B d v4 := by
 cases h with
 | cons h1 t =>
  obtain ⟨_, _, _, rfl, h2, h3, h4⟩ := t.three
  exact ⟨_, _, _, _, rfl, h1, h2, h3, h4⟩
section
variable {c : Cx} {D : List AV} {σ : As} {e r : Expr} {d0 : Dat} {dl : List Dat}
theorem ASub.hd {K : AV → As → Prop} (hs : Nsl r = true) (H : K (.d d0) σ) : ASub (.d (.tuple (d0 :: dl))) (.d (.int 0)) e r c D σ K := ASub.tup (n := 0) (by simp [seqIndex?]) rfl hs (by decide) H
end
theorem ABin.addS {c : Cx} {D : List AV} {σ : As} {K : AV → As → Prop} {x y : Str} (hf : x.length + y.length ≤ 16777216) (H : K (.d (.str (x ++ y))) σ) : ABin .Add (.d (.str x)) (.d (.str y)) c D σ K := fun Q q h m N Mc ds vs t X z => by
 obtain ⟨_, _, rfl, y1, y2⟩ := z.two
 obtain ⟨t1, rfl⟩ := den_str y1
 obtain ⟨t2, rfl⟩ := den_str y2
 exact KOpn.add hf fun t' k _ => q _ _ H h m N Mc ds _ k X (.str _ _)
section
variable {f : Fi} {c : Cx} {D : List AV} {σ : As} {x : Str} {pos px : Pos} {e : Expr} {es : List Expr} {K : AV → As → Prop}
theorem AEv.glob {v : Value} (hv : bootBuiltins x = some v) (hn : x ≠ "__name__") (hg : ∀ w : World, nsIn (heapK w.params) mainGlobals x = some Option.none) (hb : f.is x .globalImplicit = true)
  (hc : ∀ (h : Heap) (t : Nat) (Q : Value → Shared → Prop), wpAny (MD c.w) c.A (spliced (backTo pos (starEach (e :: es) (c.env f)))) (fun vs s₁ => wpAny (MD c.w) c.A (PySem.call v vs) Q c.E s₁) c.E (st0 c h t) → wpAny (MD c.w) c.A (callWith pos v [] (backTo pos (starEach (e :: es) (c.env f))) []) Q c.E (st0 c h t))
  (he : ∀ env, eval (.Call (.Name x px) (e :: es) [] pos) env = (do callWith pos (← eval (.Name x px) env) [] (backTo pos (starEach (e :: es) env)) (backToKw pos (keywordEach [] env))))
  (H : AEvs (e :: es) f c D σ (aCal v c D K)) : AEv (.Call (.Name x px) (e :: es) [] pos) f c D σ K := fun Q q h m N Mc ds t X =>
 Call_ (nmB X.F (hg c.w) hv hn hb (hc h t (Q ds) (H pos (fun ds vs s₁ => wpAny _ _ (PySem.call v vs) (Q ds) _ s₁) (fun as σ' k h m N Mc ds vs t X y => k Q q h m N Mc ds vs t X y) h m N Mc ds t X))) (he _)
theorem AEv.bi {id : String} (hv : bootBuiltins x = some (.builtin id)) (hn : x ≠ "__name__") (hg : ∀ w : World, nsIn (heapK w.params) mainGlobals x = some Option.none) (hb : f.is x .globalImplicit = true) (ha : Xs (e :: es) = true)
  (he : ∀ env, eval (.Call (.Name x px) (e :: es) [] pos) env = (do callWith pos (← eval (.Name x px) env) [] (backTo pos (starEach (e :: es) env)) (backToKw pos (keywordEach [] env))))
  (H : AEvs (e :: es) f c D σ (aCal (.builtin id) c D K)) : AEv (.Call (.Name x px) (e :: es) [] pos) f c D σ K :=
 AEv.glob hv hn hg hb (fun _ _ _ k => PyProof.Rows.callWith_builtin1 k (Xs.star ha _) (Xs.plain (Xs.tl ha) _ _)) he H
theorem AEv.ty {T : String} (hv : bootBuiltins x = some (.type T)) (hn : x ≠ "__name__") (hg : ∀ w : World, nsIn (heapK w.params) mainGlobals x = some Option.none) (hb : f.is x .globalImplicit = true) (ha : Xs (e :: es) = true)
  (he : ∀ env, eval (.Call (.Name x px) (e :: es) [] pos) env = (do callWith pos (← eval (.Name x px) env) [] (backTo pos (starEach (e :: es) env)) (backToKw pos (keywordEach [] env))))
  (H : AEvs (e :: es) f c D σ (aCal (.type T) c D K)) : AEv (.Call (.Name x px) (e :: es) [] pos) f c D σ K :=
 AEv.glob hv hn hg hb (fun _ _ _ k => Pv.callWith_type1 k (Xs.star ha _) (Xs.plain (Xs.tl ha) _ _)) he H
theorem ACal.lenS {x : List Nat} (hx : x.length ≤ 16777216) (H : K (.d (.int x.length)) σ) : ACal (.builtin "len") [.d (.str (S x))] c D σ K := fun Q q h m N Mc ds vs t X y => by
 obtain ⟨_, rfl, y1⟩ := y.one
 obtain ⟨u, rfl⟩ := den_str y1
 refine len_str (fun h => ?_) (by rw [S_len]; exact q _ _ H h m N Mc ds _ _ X (.int _ _))
 rw [S_len] at h
 have h63 : (2 : Int) ^ 63 = 9223372036854775808 := by decide
 omega
theorem ACal.lenT {dl : List Dat} (hx : dl.length ≤ 1000) (H : K (.d (.int dl.length)) σ) : ACal (.builtin "len") [.d (.tuple dl)] c D σ K := fun Q q h m N Mc ds vs t X y => by
 obtain ⟨_, rfl, y1⟩ := y.one
 obtain ⟨T, us, n, rfl, hm, hu⟩ := den_tup y1
 have e : (us.toArray.size : Int) = dl.length := by rw [List.size_toArray, hu.length]
 exact len_tuple (News.isTup X.W (mem_all hm)) (by rw [e]; omega) (by rw [e]; exact q _ _ H h m N Mc ds _ _ X (.int _ _))
end

end
section --AD
inductive Zp (B : Led) : List (Str × AV) → List (Str × Value) → Prop
 | nil : Zp B [] []
 | cons {x : Str} {a : AV} {v : Value} {l : List (Str × AV)} {b : List (Str × Value)} (h : Den B a v) (t : Zp B l b) : Zp B ((x, a) :: l) ((x, v) :: b)
theorem Zp.look {B : Led} {l : List (Str × AV)} {b : List (Str × Value)} (h : Zp B l b) : ∀ x a, l.lookup x = some a → ∃ v, lkl b x = some v ∧ Den B a v := by
 induction h with
 | nil => exact fun _ _ h => nomatch h
 | @cons y a v l b h _ ih =>
  intro x a' e
  rw [List.lookup_cons] at e
  show ∃ v', List.lookup x ((y, v) :: b) = some v' ∧ _
  rw [List.lookup_cons]
  cases q : x == y with
  | true => rw [q] at e; cases e; exact ⟨v, rfl, h⟩
  | false => rw [q] at e; exact ih x a' e
noncomputable def rvA : AF → AV
 | .ret a => a
 | _ => .d .none
theorem rvA_den {B : Led} : ∀ {fl : AF} {f : Flow}, DenF B fl f → Den B (rvA fl) (match f with | .ret v => v | _ => .none)
 | .next, _, h => by cases h; exact .none
 | .brk, _, h => by cases h; exact .none
 | .cont, _, h => by cases h; exact .none
 | .ret a, _, h => by
  obtain ⟨v, rfl, h⟩ := h
  exact h
section
variable {f : Fi} {c : Cx} {l : List (Str × AV)} {M M₀ M₁ M₂ : List (Addr × AO)} {D : List AV} {σ : As} {a b : AV} {as : List AV} {x y : Str} {pos px : Pos} {k : Nat} {e r : Expr} {es : List Expr} {K : AV → As → Prop} {d0 : Dat} {dl : List Dat} {fa : Addr} {dep uni : Nat}
theorem ACal.P {r : AV} (ct : ∀ B vs, DAll B as vs → FnP c.w fa vs dep uni B (fun rv add => Den (add ++ B) r rv)) (hd : c.dp + dep < recursionLimit) (hu : c.un + uni < cLine) (H : K r σ) : ACal (.ref fa) as c D σ K := fun Q q h m N Mc ds vs t X y =>
 FnP.use (ct _ vs y) X.F c.X c.T X.W (fun q hq => mem_all hq) hd hu fun rv h' tk add hp ht F' W' =>
  q _ _ H h' m (add ++ N) Mc ds rv tk (X.grow (fun q hq => List.mem_append_right _ hq) F' (news_mem W' all_add) (X.S.tups W' ht)) (by rw [List.append_assoc]; exact hp)
noncomputable def PoA (R : AV → List (Addr × AO) → Prop) (B : Led) (rv : Value) (M' add : Led) : Prop := ∃ r N', R r N' ∧ Den (add ++ B) r rv ∧ MAll (add ++ B) N' M'
theorem ACal.MrB {R : AV → List (Addr × AO) → Prop} (ct : ∀ B vs Mc, (∀ q ∈ c.B, q ∈ B) → DAll B as vs → MAll B M₀ Mc → FnM c.w fa vs dep uni Mc B (PoA R B)) (hd : c.dp + dep < recursionLimit) (hu : c.un + uni < cLine)
  (H : ∀ r N', R r N' → K r ⟨l, N' ++ M₁⟩) : ACal (.ref fa) as c D ⟨l, M₀ ++ M₁⟩ K := fun Q q h m N Mc ds vs t X y => by
 obtain ⟨Mc₀, Mc₁, rfl, hM0, hM1⟩ := X.M.split
 have hB : ∀ z ∈ N ++ c.B, z ∈ Mc₁ ++ (N ++ c.J) := fun z hz => List.mem_append_right _ ((List.mem_append.mp hz).elim (List.mem_append_left _) fun h => List.mem_append_right _ (c.hB _ h))
 have N1 : News c.h₀ c.L h (Mc₀ ++ ((N ++ c.B) ++ (Mc₁ ++ (N ++ c.J)))) := fun z hz => by
  refine X.W z ?_
  show z ∈ (Mc₀ ++ Mc₁) ++ (N ++ c.J)
  rw [List.append_assoc]
  rcases List.mem_append.mp hz with hz | hz
  ·exact List.mem_append_left _ hz
  ·exact List.mem_append_right _ ((List.mem_append.mp hz).elim (hB z) id)
 refine FnM.use (ct _ vs Mc₀ (fun _ => List.mem_append_right _) y hM0) X.F c.X c.T N1 (Off.app (fun z hz => X.S.sub z (hB z hz)) X.S.sub) hd hu fun rv h' tk' M' add hp ht hn e off F' N'' => ?_
 obtain ⟨r, N', hR, hr, hM'⟩ := hp
 rw [← List.append_assoc] at hr hM'
 have hs : ∀ z ∈ N, z ∈ add ++ N := fun z hz => List.mem_append_right _ hz
 have hs' : ∀ z ∈ N ++ c.B, z ∈ (add ++ N) ++ c.B := fun z hz => by rw [List.append_assoc]; exact List.mem_append_right _ hz
 refine q _ _ (H r N' hR) h' m (add ++ N) (M' ++ Mc₁) ds rv tk' ⟨F', fun x a e => ?_, fun z hz => N'' z ?_, ⟨?_, ?_, fun z hz => ?_, fun z hz => (List.mem_append.mp hz).elim (fun hz => c.okT z (ht z hz)) (X.S.ok z)⟩, hM'.app (hM1.mono hs'), X.D.mono hs'⟩ hr
 ·obtain ⟨v, e, y⟩ := X.P x a e
  exact ⟨v, e, y.mono hs'⟩
 ·exact su_at hz (by unfold Cx.all; bits_by_make)
 ·exact fun z hz => (List.mem_append.mp hz).elim (hn z) fun hz => X.S.nt z (List.mem_append_right _ hz)
 ·show ((M' ++ Mc₁).map (·.1)).Nodup
  rw [List.map_append, e, ← List.map_append]
  exact X.S.nd
 ·show z.1 ∉ (M' ++ Mc₁).map (·.1)
  rw [List.append_assoc] at hz
  rcases List.mem_append.mp hz with hz | hz
  ·refine news_tupOff N'' (fun y hy => ?_) (List.mem_append_right _ (List.mem_append_left _ hz)) (ht z hz)
   rcases List.mem_append.mp hy with hy | hy
   ·exact ⟨List.mem_append_left _ hy, hn y hy⟩
   ·exact ⟨List.mem_append_right _ (List.mem_append_right _ (List.mem_append_right _ (List.mem_append_left _ hy))), X.S.nt y (List.mem_append_right _ hy)⟩
  ·rw [List.map_append, e, ← List.map_append]
   exact X.S.off z hz
theorem ACal.Mr {R : AV → List (Addr × AO) → Prop} (ct : ∀ B vs Mc, DAll B as vs → MAll B M₀ Mc → FnM c.w fa vs dep uni Mc B (PoA R B)) (hd : c.dp + dep < recursionLimit) (hu : c.un + uni < cLine)
  (H : ∀ r N', R r N' → K r ⟨l, N' ++ M₁⟩) : ACal (.ref fa) as c D ⟨l, M₀ ++ M₁⟩ K := ACal.MrB (fun B vs Mc _ => ct B vs Mc) hd hu H
noncomputable def Is1 (r : AV) (M' : List (Addr × AO)) (r' : AV) (N' : List (Addr × AO)) : Prop := r' = r ∧ N' = M'
theorem ACal.Md {r : AV} {M' : List (Addr × AO)} (M₀ : List (Addr × AO)) (ct : ∀ B vs Mc, DAll B as vs → MAll B M₀ Mc → FnM c.w fa vs dep uni Mc B (PoA (Is1 r M') B)) (hd : c.dp + dep < recursionLimit) (hu : c.un + uni < cLine)
  (H : K r ⟨l, M' ++ M₁⟩) : ACal (.ref fa) as c D ⟨l, M₀ ++ M₁⟩ K := ACal.Mr ct hd hu fun r N' h => by
 obtain ⟨rfl, rfl⟩ := h
 exact H
end
theorem room {a k n j : Nat} (h : a + k < n + 1) (hk : Nat.ble (j + 1) k = true) : a + j < n := by
 have := Nat.le_of_ble_eq_true hk
 omega
theorem roomu {a k n j : Nat} (h : a + k < n + 3) (hk : Nat.ble (j + 3) k = true) : a + j < n := by
 have := Nat.le_of_ble_eq_true hk
 omega
section
variable {w : World} {f : Addr} {vs : List Value} {dep uni : Nat} {M₀ : List (Addr × AO)} {Mc B : Led} {name qual : Str} {params : Arguments} {body : List Stmt} {scope : Scope} {dV kV doc pm cdv ct oc : Value} {an od : Option Addr} {osl : Array (Option Value)} {lA : List (Str × AV)} {binds : List (Str × Value)}
theorem FnM.ofAE {R : AV → List (Addr × AO) → Prop} (hM : MAll B M₀ Mc) (hnd : (M₀.map (·.1)).Nodup) (hR : ∀ r N', R r N' → N'.map (·.1) = M₀.map (·.1)) (hz : Zp B lA binds)
  (ho : (heapK w.params).lookup f = some ⟨oc, od, .func (fnOf name qual params body scope dV kV doc pm an cdv ct), osl⟩) (hcd : codeIn (heapK w.params) cdv qual = true)
  (hbind : ∀ s : Shared, (heapK w.params).In s.heap → BindsTo s (fnOf name qual params body scope dV kV doc pm an cdv ct) ⟨vs, []⟩ binds) (hloc : (binds.all fun x => decide (scope.names.lookup x.1 = some .local)) = true)
  (hdep : 0 < dep)
  (hb : ∀ (c : Cx) (K : AF → As → Prop), c.w = w → (∀ q ∈ B, q ∈ c.B) → c.dp + dep < recursionLimit + 1 → c.un + uni < cLine + 3 → (∀ env, PassesOwn (MD c.w) c.A env c.E) → (∀ fl σ, R (rvA fl) σ.M → K fl σ) → ASts body ⟨qual, scope, f, cdv, none⟩ c ⟨lA, M₀⟩ K)
  (hco : scope.isCoroutine = false) (hgen : scope.isGenerator = false) (hk : scope.kind = .function)
  (hcell : ∀ x ∈ scope.names, x.2 ≠ .cell) (hbn : ndk binds = true := by rfl) : FnM w f vs dep uni Mc B (PoA R B) :=
 FnM.of binds ho hcd hbind hloc hdep (fun p loose mean mg mb fr gd dp un h₀ L hh tk s D' X T F W hJ hd hu => by
  let c : Cx := mkC fr gd (dp + 1) (un + 3) L [] s (fun _ _ => False) (B ++ D') B (fun _ h => List.mem_append_left _ h) Tup (fun _ h => h) X T
  have nd : (Mc.map (·.1)).Nodup := by rw [hM.adr (B' := B)]; exact hnd
  refine hb c _ rfl (fun _ h => h) (by show dp + 1 + dep < _; omega) (by show un + 3 + uni < _; omega) (fun env => (by passes_own : PassesOwn (MD w) _ _ (fun _ _ => False))) (fun _ _ h => h) (fun fl s' => OutM h₀ L s Mc (B ++ D') (PoA R B) (match fl with | .ret v => v | _ => .none) s') (fun fl σ' k h' m' N' Mc' g t Y y => ?_) hh _ [] Mc tk ⟨(lkl_rev (ndk_nodup hbn) ▸ F), ?_, W, ⟨hM.nt, nd, hJ, fun _ h => nomatch h⟩, hM, .nil⟩
  ·exact ⟨h', t, m', Mc', N', rfl, Y.F, Y.W, ⟨_, _, k, rvA_den y, Y.M⟩, Y.S.ok, Y.S.nt, by rw [Y.M.adr (B' := B), hM.adr (B' := B), hR _ _ k]⟩
  ·exact hz.look) hco hgen hk hcell
theorem FnM.ofA {R : AV → List (Addr × AO) → Prop} (hM : MAll B M₀ Mc) (hnd : (M₀.map (·.1)).Nodup) (hR : ∀ r N', R r N' → N'.map (·.1) = M₀.map (·.1)) (hz : Zp B lA binds)
  (ho : (heapK w.params).lookup f = some ⟨oc, od, .func (fnOf name qual params body scope dV kV doc pm an cdv ct), osl⟩) (hcd : codeIn (heapK w.params) cdv qual = true)
  (hbind : ∀ s : Shared, (heapK w.params).In s.heap → BindsTo s (fnOf name qual params body scope dV kV doc pm an cdv ct) ⟨vs, []⟩ binds) (hloc : (binds.all fun x => decide (scope.names.lookup x.1 = some .local)) = true)
  (hdep : 0 < dep)
  (hb : ∀ (c : Cx) (K : AF → As → Prop), c.w = w → (∀ q ∈ B, q ∈ c.B) → c.dp + dep < recursionLimit + 1 → c.un + uni < cLine + 3 → (∀ fl σ, R (rvA fl) σ.M → K fl σ) → ASts body ⟨qual, scope, f, cdv, none⟩ c ⟨lA, M₀⟩ K)
  (hco : scope.isCoroutine = false) (hgen : scope.isGenerator = false) (hk : scope.kind = .function)
  (hcell : ∀ x ∈ scope.names, x.2 ≠ .cell) (hbn : ndk binds = true := by rfl) : FnM w f vs dep uni Mc B (PoA R B) :=
 FnM.ofAE hM hnd hR hz ho hcd hbind hloc hdep (fun c K a a' b d _ e => hb c K a a' b d e) hco hgen hk hcell hbn
theorem FnM.ofA1 {r : AV} {M₁ : List (Addr × AO)} (hM : MAll B M₀ Mc) (hnd : (M₀.map (·.1)).Nodup) (hR : M₁.map (·.1) = M₀.map (·.1)) (hz : Zp B lA binds)
  (ho : (heapK w.params).lookup f = some ⟨oc, od, .func (fnOf name qual params body scope dV kV doc pm an cdv ct), osl⟩) (hcd : codeIn (heapK w.params) cdv qual = true)
  (hbind : ∀ s : Shared, (heapK w.params).In s.heap → BindsTo s (fnOf name qual params body scope dV kV doc pm an cdv ct) ⟨vs, []⟩ binds) (hloc : (binds.all fun x => decide (scope.names.lookup x.1 = some .local)) = true)
  (hdep : 0 < dep)
  (hb : ∀ (c : Cx) (K : AF → As → Prop), c.w = w → (∀ q ∈ B, q ∈ c.B) → c.dp + dep < recursionLimit + 1 → c.un + uni < cLine + 3 → (∀ fl σ, rvA fl = r → σ.M = M₁ → K fl σ) → ASts body ⟨qual, scope, f, cdv, none⟩ c ⟨lA, M₀⟩ K)
  (hco : scope.isCoroutine = false) (hgen : scope.isGenerator = false) (hk : scope.kind = .function)
  (hcell : ∀ x ∈ scope.names, x.2 ≠ .cell) (hbn : ndk binds = true := by rfl) : FnM w f vs dep uni Mc B (PoA (Is1 r M₁) B) :=
 FnM.ofA hM hnd (fun _ _ k => by rw [k.2]; exact hR) hz ho hcd hbind hloc hdep (fun c K a a' b d e => hb c K a a' b d fun fl σ x y => e fl σ ⟨x, y⟩) hco hgen hk hcell hbn
theorem FnP.ofA {R : AV → Prop} (hz : Zp B lA binds)
  (ho : (heapK w.params).lookup f = some ⟨oc, od, .func (fnOf name qual params body scope dV kV doc pm an cdv ct), osl⟩) (hcd : codeIn (heapK w.params) cdv qual = true)
  (hbind : ∀ s : Shared, (heapK w.params).In s.heap → BindsTo s (fnOf name qual params body scope dV kV doc pm an cdv ct) ⟨vs, []⟩ binds) (hloc : (binds.all fun x => decide (scope.names.lookup x.1 = some .local)) = true)
  (hdep : 0 < dep)
  (hb : ∀ (c : Cx) (K : AF → As → Prop), c.w = w → (∀ q ∈ B, q ∈ c.B) → c.dp + dep < recursionLimit + 1 → c.un + uni < cLine + 3 → (∀ fl σ, R (rvA fl) → K fl σ) → ASts body ⟨qual, scope, f, cdv, none⟩ c ⟨lA, []⟩ K)
  (hco : scope.isCoroutine = false) (hgen : scope.isGenerator = false) (hk : scope.kind = .function)
  (hcell : ∀ x ∈ scope.names, x.2 ≠ .cell) (hbn : ndk binds = true := by rfl) : FnP w f vs dep uni B (fun rv add => ∃ r, R r ∧ Den (add ++ B) r rv) :=
 FnP.of binds ho hcd hbind hloc hdep (fun p loose mean mg mb fr gd dp un h₀ L hh tk s JD X T F W hJ hd hu => by
  let c : Cx := mkC fr gd (dp + 1) (un + 3) L [] s (fun _ _ => False) JD B hJ Tup (fun _ h => h) X T
  refine hb c _ rfl (fun _ h => h) (by show dp + 1 + dep < _; omega) (by show un + 3 + uni < _; omega) (fun _ _ h => h) (fun fl s' => OutP h₀ L s JD (fun rv add => ∃ r, R r ∧ Den (add ++ B) r rv) (match fl with | .ret v => v | _ => .none) s') (fun fl σ' k h' m' N' Mc' g t Y y => ?_) hh _ [] [] tk ⟨(lkl_rev (ndk_nodup hbn) ▸ F), ?_, W, ⟨(fun _ h => nomatch h), .nil, (fun _ _ h => nomatch h), fun _ h => nomatch h⟩, .nil, .nil⟩
  ·exact ⟨h', t, m', N', rfl, Y.F, (fun z hz => Y.W z (List.mem_append_right _ hz)), ⟨_, k, rvA_den y⟩, Y.S.ok⟩
  ·exact hz.look) hco hgen hk hcell
theorem FnP.ofA1 {r : AV} (hz : Zp B lA binds)
  (ho : (heapK w.params).lookup f = some ⟨oc, od, .func (fnOf name qual params body scope dV kV doc pm an cdv ct), osl⟩) (hcd : codeIn (heapK w.params) cdv qual = true)
  (hbind : ∀ s : Shared, (heapK w.params).In s.heap → BindsTo s (fnOf name qual params body scope dV kV doc pm an cdv ct) ⟨vs, []⟩ binds) (hloc : (binds.all fun x => decide (scope.names.lookup x.1 = some .local)) = true)
  (hdep : 0 < dep)
  (hb : ∀ (c : Cx) (K : AF → As → Prop), c.w = w → (∀ q ∈ B, q ∈ c.B) → c.dp + dep < recursionLimit + 1 → c.un + uni < cLine + 3 → (∀ fl σ, rvA fl = r → K fl σ) → ASts body ⟨qual, scope, f, cdv, none⟩ c ⟨lA, []⟩ K)
  (hco : scope.isCoroutine = false) (hgen : scope.isGenerator = false) (hk : scope.kind = .function)
  (hcell : ∀ x ∈ scope.names, x.2 ≠ .cell) (hbn : ndk binds = true := by rfl) : FnP w f vs dep uni B (fun rv add => Den (add ++ B) r rv) := by
 have := FnP.ofA (R := fun x => x = r) hz ho hcd hbind hloc hdep hb hco hgen hk hcell hbn
 simpa only [exists_eq_left] using this
end

end
section --AE
theorem dall_split {B : Led} : ∀ {as D : List AV} {ds : List Value}, DAll B (as ++ D) ds → DAll B as (ds.take as.length) ∧ DAll B D (ds.drop as.length)
 | [], _, _, h => ⟨.nil, h⟩
 | _ :: _, _, _, .cons h t => ⟨.cons h (dall_split t).1, (dall_split t).2⟩
theorem dall_app {B : Led} {as D : List AV} {vs ds : List Value} (h : DAll B as vs) (k : DAll B D ds) : DAll B (as ++ D) (vs ++ ds) := by
 induction h with
 | nil => exact k
 | cons h _ ih => exact .cons h ih
theorem dall_len {B : Led} {as : List AV} {vs : List Value} (h : DAll B as vs) : vs.length = as.length := by
 induction h with
 | nil => rfl
 | cons _ _ ih => rw [List.length_cons, List.length_cons, ih]
theorem Xs.asg {t : Expr} {r : List Expr} (h : Xs (t :: r) = true) (env : Env) : assignEach (t :: r) env = (false, assign t env) :: assignEach r env := by
 cases t <;> first | rfl | exact (Bool.false_ne_true h).elim
section
variable {f : Fi} {c : Cx} {l : List (Str × AV)} {M M₀ M₁ M₂ : List (Addr × AO)} {D : List AV} {σ : As} {a b x' : AV} {as : List AV} {x y : Str} {pos px : Pos} {k : Nat} {e r o i tg : Expr} {es : List Expr} {d0 : Dat} {dl : List Dat} {G d : Addr} {ao ao' : AO}
theorem ASt.asgT {K : AF → As → Prop} (H : AEv e f c [] σ (aAsg (.Tuple es k px) f c K)) (hs : ∀ env, swapsWithSole [.Tuple es k px] e pos.line env = pure false) (hw : ∀ c : Cx, swappedStores [.Tuple es k px] e (c.env f) = pure none) :
  ASt (.Assign [.Tuple es k px] e pos) f c σ K := fun Q q h m N Mc t X =>
 Assign_Tuple (H (fun _ v s₁ => wpAny _ _ (assign (.Tuple es k px) _ v) (fun _ => Q .next) _ s₁) (fun a σ' k1 h m N Mc ds v t X y => k1 (fun _ => Q .next) (fun σ'' k2 h m N Mc ds t X => by obtain rfl := X.nil; exact q _ _ k2 h m N Mc _ t X rfl) h m N Mc ds [v] t X (.cons y .nil)) h m N Mc [] t X) (hs _) (hw c)
theorem AAsg.tup {K : As → Prop} (hl : ∀ env, (assignEach es env).length = dl.length) (hf : ∀ env, (assignEach es env).findIdx? (·.1) = none) (H : AAss es f (dl.map .d) c D σ K) : AAsg (.Tuple es k pos) f (.d (.tuple dl)) c D σ K := fun Q q h m N Mc ds vs t X y => by
 obtain ⟨_, rfl, y1⟩ := y.one
 obtain ⟨T, us, n, rfl, hm, hus⟩ := den_tup y1
 refine unpackN_ (k := k) X.F X.W (News.isTup X.W (mem_all hm)) rfl (by rw [List.size_toArray, hus.length]; exact hl _) (hf _) (fun h' F' W' => ?_)
 exact H Q q h' m N Mc ds us t ⟨F', X.P, W', X.S, X.M, X.D⟩ (dall_map hus)
theorem AAss.cons {K : As → Prop} (hx : Xs (tg :: es) = true) (H : AAsg tg f (.d d0) c (dl.map .d ++ D) σ (aAss es f (dl.map .d) c D K)) : AAss (tg :: es) f ((d0 :: dl).map .d) c D σ K := fun Q q h m N Mc ds vs t X y => by
 rw [Xs.asg hx]
 cases y with
 | @cons _ v _ s y z =>
  have hn := dall_len z
  rw [List.length_map] at hn
  refine assignInOrder_cons (wpAny_mono (H (fun ds' s' => wpAny (MD c.w) c.A (assignInOrder ((assignEach es (c.env f)).map (·.2)) (ds'.take dl.length)) (fun _ => Q (ds'.drop dl.length)) c.E s') (fun σ' k h m N Mc ds' t X' => ?_) h m N Mc (s ++ ds) [v] t ⟨X.F, X.P, X.W, X.S, X.M, dall_app z X.D⟩ (.cons y .nil)) (fun _ s' w => ?_) fun _ _ w => w)
  ·have := dall_split X'.D
   rw [List.length_map] at this
   exact k Q q h m N Mc _ _ t ⟨X'.F, X'.P, X'.W, X'.S, X'.M, this.2⟩ this.1
  ·rw [← hn, List.take_left, List.drop_left] at w
   exact w
theorem AAss.nil {K : As → Prop} (H : K σ) : AAss [] f (([] : List Dat).map .d) c D σ K := fun Q q h m N Mc ds vs t X y => by
 cases y
 exact assignInOrder_nil (q _ H h m N Mc ds t X)
theorem AAsg.name {K : As → Prop} (H : ASto x f a c D σ K) : AAsg (.Name x px) f a c D σ K := fun Q q h m N Mc ds vs t X y => by
 obtain ⟨_, rfl, y1⟩ := y.one
 exact assign_Name (H Q q h m N Mc ds [_] t X y)
theorem AAsg.sub {K : As → Prop} (H : AEv o f c (a :: D) σ (aSi2 i a f c D K)) : AAsg (.Subscript o i px) f a c D σ K := fun Q q h m N Mc ds vs t X y => by
 obtain ⟨v, rfl, y1⟩ := y.one
 refine kas_sub (wpAny_mono (H (fun ds' ov s₂ => wpAny (MD c.w) c.A (eval i (c.env f)) (fun iv s₃ => wpAny (MD c.w) c.A (setItem ov iv (ds'.headD .none)) (fun _ => Q ds'.tail) c.E s₃) c.E s₂) (fun a' σ₁ k1 h m N Mc ds' ov t X' y' => ?_) h m N Mc (v :: ds) t (X.push y1)) (fun _ _ w => w) fun _ _ w => w)
 refine k1 (fun ds'' iv s₃ => wpAny (MD c.w) c.A (setItem (ds''.headD .none) iv (ds''.tail.headD .none)) (fun _ => Q ds''.tail.tail) c.E s₃) (fun a'' σ₂ k2 h m N Mc ds'' iv t X'' y'' => ?_) h m N Mc (ov :: ds') t (X'.push y')
 obtain ⟨ov, r', rfl, yo, X''⟩ := X''.pop
 obtain ⟨v, r'', rfl, yv, X''⟩ := X''.pop
 exact k2 Q q h m N Mc r'' [ov, iv, v] t X'' (.cons yo (.cons y'' (.cons yv .nil)))
theorem ASt.setI {K : AF → As → Prop} (H : AEv e f c [] σ (aSi1 o i f c K)) (hs : ∀ env, swapsWith e (some (.Subscript o i px)) pos.line env = pure false) : ASt (.Assign [.Subscript o i px] e pos) f c σ K := fun Q q h m N Mc t X =>
 wpAny_Assign_Subscript (H (fun _ v s₁ => wpAny _ _ (eval o _) (fun ov s₂ => wpAny _ _ (eval i _) (fun iv s₃ => wpAny _ _ (setItem ov iv v) (fun _ => Q .next) _ s₃) _ s₂) _ s₁) (fun a σ' k1 h m N Mc ds v t X y => by
  obtain rfl := X.nil
  refine k1 (fun ds' ov s₂ => wpAny _ _ (eval i _) (fun iv s₃ => wpAny _ _ (setItem ov iv (ds'.headD .none)) (fun _ => Q .next) _ s₃) _ s₂) (fun a' σ₁ k2 h m N Mc ds' ov t X' y' => ?_) h m N Mc [v] t (X.push y)
  refine k2 (fun ds'' iv s₃ => wpAny _ _ (setItem (ds''.headD .none) iv (ds''.tail.headD .none)) (fun _ => Q .next) _ s₃) (fun a'' σ₂ k3 h m N Mc ds'' iv t X'' y'' => ?_) h m N Mc (ov :: ds') t (X'.push y')
  obtain ⟨ov, r', rfl, yo, X''⟩ := X''.pop
  obtain ⟨v, r'', rfl, yv, X''⟩ := X''.pop
  exact k3 (fun _ => Q .next) (fun σ'' k4 h m N Mc ds t X => by obtain rfl := X.nil; exact q _ _ k4 h m N Mc _ t X rfl) h m N Mc r'' [ov, iv, v] t X'' (.cons yo (.cons y'' (.cons yv .nil)))) h m N Mc [] t X) (hs _)
noncomputable def LstA (dl : List Dat) : AO where
 p B o := ∃ vs n, o = W.listOf vs.toArray n ∧ DatAll B vs dl
 mono hs h := by
  obtain ⟨vs, n, rfl, h⟩ := h
  exact ⟨vs, n, rfl, h.mono hs⟩
 nt h := by
  obtain ⟨vs, n, rfl, -⟩ := h
  exact NoTup.lst
theorem MAll.look {B : Led} {ma mz : List (Addr × AO)} {s : Led} (h : MAll B (ma ++ (d, ao) :: mz) s) : ∃ sa o sz, s = sa ++ (d, o) :: sz ∧ MAll B ma sa ∧ ao.p B o ∧ MAll B mz sz := by
 obtain ⟨sa, sb, rfl, ha, hb⟩ := h.split
 cases hb with
 | cons h1 t => exact ⟨_, _, _, rfl, ha, h1, t⟩
theorem AMcl.app (ma : List (Addr × AO)) {K : AV → As → Prop} {dl : List Dat} (hx : Xs (e :: es) = true) (H : AEvs (e :: es) f c (.v (.ref G) :: D) ⟨l, ma ++ (G, LstA dl) :: M⟩ (fun as σ' => ACal (.builtin "list.append") (.v (.ref G) :: as) c D σ' K)) : AMcl "append" (e :: es) pos f (.v (.ref G)) c D ⟨l, ma ++ (G, LstA dl) :: M⟩ K := fun pl Q q h m N Mc ds v t X y => by
 obtain rfl : v = .ref G := y
 obtain ⟨sa, ob, sz, rfl, ha, ⟨vs, n, rfl, hv⟩, hz⟩ := X.M.look
 refine listMethod_K X.W (by rw [all_mid]; exact List.mem_append_right _ (.head _)) PySem.F.slot_list_append PySem.F.type_list_append ?_
 refine callWith_method1 (H pos (fun ds' vs s₁ => wpAny _ _ (PySem.call (.builtin "list.append") ([.ref G] ++ vs)) (Q ds'.tail) _ s₁) (fun as σ' k h m N Mc ds' vs t X' y' => ?_) h m N _ (.ref G :: ds) t (X.push rfl)) (Xs.star hx _) (Xs.plain (Xs.tl hx) _ _)
 obtain ⟨w, r', rfl, yw, X1⟩ := X'.pop
 obtain rfl : w = .ref G := yw
 exact k Q q h m N Mc r' (.ref G :: vs) t X1 (.cons rfl y')
theorem ACal.app (ma : List (Addr × AO)) {K : AV → As → Prop} {dl : List Dat} (hl : dl.length ≤ 10001) (H : K (.d .none) ⟨l, ma ++ (G, LstA (dl ++ [d0])) :: M⟩) : ACal (.builtin "list.append") [.v (.ref G), .d d0] c D ⟨l, ma ++ (G, LstA dl) :: M⟩ K := fun Q q h m N Mc ds vs t X y => by
 obtain ⟨g, v, rfl, yg, yv⟩ := y.two
 obtain rfl : g = .ref G := yg
 obtain ⟨sa, ob, sz, rfl, ha, ⟨us, n, rfl, hv⟩, hz⟩ := X.M.look
 have U : Upd G (W.listOf us.toArray n) (W.listOf (us.toArray.push v) (n + 1)) (c.all (sa ++ (G, W.listOf us.toArray n) :: sz) N) (c.all (sa ++ (G, W.listOf (us ++ [v]).toArray (n + 1)) :: sz) N) := by
  rw [← List.push_toArray, all_mid, all_mid]
  exact upd_mid X.S.pre X.S.post
 refine append_K (hsz := by rw [List.size_toArray, hv.length, sizeLine_eq]; omega) X.F X.W U (fun h' F' W' => ?_)
 exact q _ _ H h' m N _ ds _ t ⟨F', X.P, W', X.S.up NoTup.lst, ha.app (.cons ⟨_, _, rfl, DatAll.append hv (.one yv)⟩ hz), X.D⟩ .none
end

end
section --AF
noncomputable def DicA (w : World) (kvs : List (Str × AV)) : AO where
 p B o := ∃ kv, o.IsDictOf (PySem.strKind PySem.Challenge.rw_on0248_01.prog w) kv ∧ Zp B kvs kv
 mono hs h := by
  obtain ⟨kv, h, z⟩ := h
  refine ⟨kv, h, ?_⟩
  clear h
  induction z with
  | nil => exact .nil
  | cons h _ ih => exact .cons (h.mono hs) ih
 nt h := by
  obtain ⟨kv, h, -⟩ := h
  exact NoTup.dicO h
noncomputable def putA (ky : Str) (a : AV) : List (Str × AV) → Option (List (Str × AV))
 | [] => some []
 | (y, b) :: r => match putA ky a r with
  | some r' => match y == ky with
   | true => some ((y, a) :: r')
   | false => some ((y, b) :: r')
  | none => none
theorem putA_zp {B : Led} {ky : Str} {a : AV} {v : Value} (hv : Den B a v) {kvs : List (Str × AV)} {kv : List (Str × Value)} (z : Zp B kvs kv) : ∀ {kvs'}, putA ky a kvs = some kvs' → Zp B kvs' (kv.map fun q => if q.1 = ky then (q.1, v) else q) := by
 induction z with
 | nil => intro _ e; cases e; exact .nil
 | @cons y b u l s h _ ih =>
  intro kvs' e
  unfold putA at e
  cases q : putA ky a l with
  | none => rw [q] at e; cases e
  | some r' =>
   rw [q] at e
   have ih := ih q
   rw [List.map_cons]
   by_cases hy : y = ky
   ·rw [beq_iff_eq.mpr hy] at e
    cases e
    rw [if_pos hy]
    exact .cons hv ih
   ·rw [beq_eq_false_iff_ne.mpr hy] at e
    cases e
    rw [if_neg hy]
    exact .cons h ih
theorem zp_has {B : Led} {kvs : List (Str × AV)} {kv : List (Str × Value)} (z : Zp B kvs kv) {ky : Str} {a : AV} (h : kvs.lookup ky = some a) : (kv.any fun q => decide (q.1 = ky)) = true := by
 induction z with
 | nil => cases h
 | @cons y b u l s _ _ ih =>
  rw [List.lookup_cons] at h
  rw [List.any_cons]
  by_cases hy : y = ky
  ·rw [decide_eq_true hy]; rfl
  ·rw [beq_eq_false_iff_ne.mpr (Ne.symm hy)] at h
   rw [ih h, Bool.or_true]
theorem zp_len {B : Led} {kvs : List (Str × AV)} {kv : List (Str × Value)} (z : Zp B kvs kv) : kv.length = kvs.length := by
 induction z with
 | nil => rfl
 | cons _ _ ih => rw [List.length_cons, List.length_cons, ih]
section
variable {f : Fi} {c : Cx} {l : List (Str × AV)} {M : List (Addr × AO)} {D : List AV} {σ : As} {a b x' : AV} {as : List AV} {x y ky : Str} {pos px : Pos} {k : Nat} {e r o i tg : Expr} {es : List Expr} {d0 : Dat} {dl : List Dat} {G d : Addr} {kvs kvs' : List (Str × AV)} {q1 q2 q3 q1' q2' : Addr × AO} {fa : Addr} {dep uni : Nat}
theorem ASub.dic {K : AV → As → Prop} (ma : List (Addr × AO)) (hv : kvs.lookup ky = some a) (hs : Nsl r = true) (H : K a ⟨l, ma ++ (d, DicA c.w kvs) :: M⟩) : ASub (.v (.ref d)) (.d (.str ky)) e r c D ⟨l, ma ++ (d, DicA c.w kvs) :: M⟩ K := fun Q q h m N Mc ds vs t X y => by
 obtain ⟨g, kx, rfl, yg, yk⟩ := y.two
 obtain rfl : g = .ref d := yg
 obtain ⟨tk, rfl⟩ := den_str yk
 obtain ⟨sa, ob, sz, rfl, ha, ⟨kv, hd, hz⟩, hz'⟩ := X.M.look
 obtain ⟨v, hl, hden⟩ := hz.look _ _ hv
 have hD := kda_dict (s := st0 c h t) X.W (by rw [all_mid]; exact List.mem_append_right _ (.head _)) hd
 exact subscriptTail_builtinR hD.typeIs slot_dict_getitem.lookup (wpAny_getItem_of (Q := fun r s' => r = v ∧ Q ds r s') (strKind_is _ _ _ _) hD.mapOf (valueAt_lookup.trans hl) ⟨rfl, q _ _ H h m N _ ds v (t + 1) X hden⟩) (Nsl.sub hs)
theorem ASetI.dic {K : As → Prop} (ma : List (Addr × AO)) (hv : kvs.lookup ky = some b) (hp : putA ky a kvs = some kvs') (hz : Nat.ble kvs.length 1000 = true) (H : K ⟨l, ma ++ (d, DicA c.w kvs') :: M⟩) : ASetI (.v (.ref d)) (.d (.str ky)) a c D ⟨l, ma ++ (d, DicA c.w kvs) :: M⟩ K := fun Q q h m N Mc ds vs t X y => by
 obtain ⟨g, kx, v, rfl, yg, yk, yv⟩ := y.three
 obtain rfl : g = .ref d := yg
 obtain ⟨tk, rfl⟩ := den_str yk
 obtain ⟨sa, ob, sz, rfl, ha, ⟨kv, hd, hzp⟩, hz'⟩ := X.M.look
 have U : UpdF d ob (c.all (sa ++ (d, ob) :: sz) N) (fun o' => sa ++ (d, o') :: (sz ++ (N ++ c.J))) := by
  rw [all_mid]
  exact updF_mid X.S.pre X.S.post
 refine kda_set X.F X.W U hd (strKind_is _ _ _ _) (by rw [zp_len hzp]; exact zle hz) (fun h' o' F' W' hd' => ?_)
 refine q _ H h' m N _ ds (t + 1) ⟨F', X.P, by rw [← all_mid] at W'; exact W', X.S.up (NoTup.dicO hd'), ha.app (.cons ⟨_, hd', ?_⟩ hz'), X.D⟩
 unfold stored
 rw [if_pos (zp_has hzp hv)]
 exact putA_zp yv hzp hp
theorem ASub.k0 {K : AV → As → Prop} (hv : kvs.lookup ky = some a) (hs : Nsl r = true) (H : K a ⟨l, (d, DicA c.w kvs) :: M⟩) : ASub (.v (.ref d)) (.d (.str ky)) e r c D ⟨l, (d, DicA c.w kvs) :: M⟩ K := ASub.dic [] hv hs H
theorem ASetI.k0 {K : As → Prop} (hv : kvs.lookup ky = some b) (hp : putA ky a kvs = some kvs') (hz : Nat.ble kvs.length 1000 = true) (H : K ⟨l, (d, DicA c.w kvs') :: M⟩) : ASetI (.v (.ref d)) (.d (.str ky)) a c D ⟨l, (d, DicA c.w kvs) :: M⟩ K := ASetI.dic [] hv hp hz H
theorem AMcl.a1 {K : AV → As → Prop} (hx : Xs (e :: es) = true) (H : AEvs (e :: es) f c (.v (.ref G) :: D) ⟨l, q1 :: (G, LstA dl) :: M⟩ (aCalM (.builtin "list.append") (.v (.ref G)) c D K)) : AMcl "append" (e :: es) pos f (.v (.ref G)) c D ⟨l, q1 :: (G, LstA dl) :: M⟩ K := AMcl.app [q1] hx H
theorem ACal.a1 {K : AV → As → Prop} (hl : dl.length ≤ 10001) (H : K (.d .none) ⟨l, q1 :: (G, LstA (dl ++ [d0])) :: M⟩) : ACal (.builtin "list.append") [.v (.ref G), .d d0] c D ⟨l, q1 :: (G, LstA dl) :: M⟩ K := ACal.app [q1] hl H
theorem ACal.M2 {K : AV → As → Prop} {r : AV} (ct : ∀ B vs Mc, DAll B as vs → MAll B [q1, q2] Mc → FnM c.w fa vs dep uni Mc B (PoA (Is1 r [q1', q2']) B)) (hd : c.dp + dep < recursionLimit) (hu : c.un + uni < cLine)
  (H : K r ⟨l, q1' :: q2' :: M⟩) : ACal (.ref fa) as c D ⟨l, q1 :: q2 :: M⟩ K := ACal.Md (M' := [q1', q2']) [q1, q2] ct hd hu H
end

end
section --AJ0
noncomputable def NewOk (c : Cx) (M₀ : List (Addr × AO)) : Prop := ∀ q : Addr × Obj, (∀ r ∈ c.J, r.1 ≠ q.1) → q.1 ∉ M₀.map (·.1) → NF q → c.ok q
section
variable {w : World} {f : Addr} {vs : List Value} {dep uni : Nat} {M₀ : List (Addr × AO)} {Mc B : Led} {name qual : Str} {params : Arguments} {body : List Stmt} {scope : Scope} {dV kV doc pm cdv ct oc : Value} {an od : Option Addr} {osl : Array (Option Value)} {lA : List (Str × AV)} {binds : List (Str × Value)}
theorem FnN.ofA {R : AV → List (Addr × AO) → Prop} (hM : MAll B M₀ Mc) (hnd : (M₀.map (·.1)).Nodup) (hR : ∀ r N', R r N' → N'.map (·.1) = M₀.map (·.1)) (hz : Zp B lA binds)
  (ho : (heapK w.params).lookup f = some ⟨oc, od, .func (fnOf name qual params body scope dV kV doc pm an cdv ct), osl⟩) (hcd : codeIn (heapK w.params) cdv qual = true)
  (hbind : ∀ s : Shared, (heapK w.params).In s.heap → BindsTo s (fnOf name qual params body scope dV kV doc pm an cdv ct) ⟨vs, []⟩ binds) (hloc : (binds.all fun x => decide (scope.names.lookup x.1 = some .local)) = true)
  (hdep : 0 < dep)
  (hb : ∀ (c : Cx) (K : AF → As → Prop), c.w = w → (∀ q ∈ B, q ∈ c.B) → c.dp + dep < recursionLimit + 1 → c.un + uni < cLine + 3 → NewOk c M₀ → (∀ env, PassesOwn (MD c.w) c.A env c.E) → (∀ fl σ, R (rvA fl) σ.M → K fl σ) → ASts body ⟨qual, scope, f, cdv, none⟩ c ⟨lA, M₀⟩ K)
  (hco : scope.isCoroutine = false) (hgen : scope.isGenerator = false) (hk : scope.kind = .function)
  (hcell : ∀ x ∈ scope.names, x.2 ≠ .cell) (hbn : ndk binds = true := by rfl) : FnN w f vs dep uni Mc B (PoA R B) :=
 FnN.of binds ho hcd hbind hloc hdep (fun p loose mean mg mb fr gd dp un h₀ L hh tk s JD X T F W hJ hn hoff hd hu => by
  let c : Cx := mkC fr gd (dp + 1) (un + 3) L [] s (fun _ _ => False) JD B hJ (Apart (Mc ++ JD)) (fun _ h => .inl h) X T
  have ha : Mc.map (·.1) = M₀.map (·.1) := hM.adr (B' := B)
  have nd : (Mc.map (·.1)).Nodup := by rw [ha]; exact hnd
  refine hb c _ rfl (fun _ h => h) (by show dp + 1 + dep < _; omega) (by show un + 3 + uni < _; omega) (fun q h1 h2 h3 => ?_) (fun env => ?_) (fun _ _ h => h) (fun fl s' => OutN h₀ L s Mc JD (PoA R B) (match fl with | .ret v => v | _ => .none) s') (fun fl σ' k h' m' N' Mc' g t Y y => ?_) hh _ [] Mc tk ⟨(lkl_rev (ndk_nodup hbn) ▸ F), ?_, W, ⟨hn, nd, hoff, fun _ h => nomatch h⟩, hM, .nil⟩
  ·refine .inr ⟨fun r hr e => ?_, h3⟩
   rcases List.mem_append.mp hr with hr | hr
   ·exact h2 (by rw [← ha, ← e]; exact List.mem_map_of_mem (f := (·.1)) hr)
   ·exact h1 r hr e
  ·exact (by passes_own : PassesOwn (MD w) _ _ (fun _ _ => False))
  ·exact ⟨h', t, m', Mc', N', rfl, Y.F, Y.W, ⟨_, _, k, rvA_den y, Y.M⟩, by rw [Y.M.adr (B' := B), ha, hR _ _ k], Y.S.nt, Y.S.ok⟩
  ·exact hz.look) hco hgen hk hcell
end
section
variable {f : Fi} {c : Cx} {l : List (Str × AV)} {M M₀ M₁ Mb : List (Addr × AO)} {D : List AV} {σ : As} {as : List AV} {K : AV → As → Prop} {dl : List Dat} {fa : Addr} {dep uni : Nat}
theorem ANl.mk (hok : NewOk c Mb) (hsub : σ.M.map (·.1) = Mb.map (·.1)) (hd : datL as = some dl) (hz : Nat.ble as.length 1000 = true) (H : K (.d (.list dl)) σ) : ANl as c D σ K := fun Q q h m N Mc ds vs t X y => by
 refine newList_K X.F X.W (fun T h' F' W' lt => ?_) (by rw [dall_len y]; exact zle hz)
 have hT : c.ok (T, W.listOf vs.toArray 0) := hok _ (fun r hr => Nat.ne_of_lt (lt r (List.mem_append_right _ (List.mem_append_right _ hr)))) (fun e => by
  rw [← hsub, ← X.M.adr (B' := N)] at e
  obtain ⟨z, hz, e⟩ := List.mem_map.mp e
  exact Nat.ne_of_lt (lt z (List.mem_append_left _ hz)) e) (NoTup.lst (G := T)).2
 refine q _ _ H h' m ((T, W.listOf vs.toArray 0) :: N) Mc ds _ t (X.grow (fun q hq => .tail _ hq) F' (news_mem W' all_new) (X.S.new lt hT)) ?_
 exact DatIn.list (.head _) (DatAll.mono (fun q hq => .tail _ hq) (datL_all hd y))
theorem ACal.Nr {R : AV → List (Addr × AO) → Prop} (hok : NewOk c Mb) (hsub : (M₀ ++ M₁).map (·.1) = Mb.map (·.1)) (ct : ∀ B vs Mc, DAll B as vs → MAll B M₀ Mc → FnN c.w fa vs dep uni Mc B (PoA R B)) (hd : c.dp + dep < recursionLimit) (hu : c.un + uni < cLine)
  (H : ∀ r N', R r N' → K r ⟨l, N' ++ M₁⟩) : ACal (.ref fa) as c D ⟨l, M₀ ++ M₁⟩ K := fun Q q h m N Mc ds vs t X y => by
 have hadr := X.M.adr (B' := N)
 obtain ⟨Mc₀, Mc₁, rfl, hM0, hM1⟩ := X.M.split
 have hB : ∀ z ∈ N ++ c.B, z ∈ Mc₁ ++ (N ++ c.J) := fun z hz => List.mem_append_right _ ((List.mem_append.mp hz).elim (List.mem_append_left _) fun h => List.mem_append_right _ (c.hB _ h))
 have N1 : News c.h₀ c.L h (Mc₀ ++ (Mc₁ ++ (N ++ c.J))) := by rw [← List.append_assoc]; exact X.W
 refine FnN.use (ct _ vs Mc₀ y hM0) X.F c.X c.T N1 hB (fun z hz => X.S.nt z (List.mem_append_left _ hz)) X.S.sub hd hu fun rv h' tk' M' add hp e hn ha F' N'' => ?_
 obtain ⟨r, N', hR, hr, hM'⟩ := hp
 rw [← List.append_assoc] at hr hM'
 have hs' : ∀ z ∈ N ++ c.B, z ∈ (add ++ N) ++ c.B := fun z hz => by rw [List.append_assoc]; exact List.mem_append_right _ hz
 have hnew : ∀ z ∈ add, c.ok z := fun z hz => by
  rcases ha z hz with ht | ⟨hb, hnf⟩
  ·exact c.okT z ht
  ·refine hok z (fun r hr => hb r (List.mem_append_right _ (List.mem_append_right _ (List.mem_append_right _ hr)))) (fun e' => ?_) hnf
   rw [← hsub, ← hadr] at e'
   obtain ⟨y, hy, e'⟩ := List.mem_map.mp e'
   refine hb y ?_ e'
   rw [← List.append_assoc]
   exact List.mem_append_left _ hy
 refine q _ _ (H r N' hR) h' m (add ++ N) (M' ++ Mc₁) ds rv tk' ⟨F', fun x a e => ?_, fun z hz => N'' z ?_, ⟨?_, ?_, fun z hz => ?_, fun z hz => (List.mem_append.mp hz).elim (hnew z) (X.S.ok z)⟩, hM'.app (hM1.mono hs'), X.D.mono hs'⟩ hr
 ·obtain ⟨v, e, y⟩ := X.P x a e
  exact ⟨v, e, y.mono hs'⟩
 ·exact su_at hz (by unfold Cx.all; bits_by_make)
 ·exact fun z hz => (List.mem_append.mp hz).elim (hn z) fun hz => X.S.nt z (List.mem_append_right _ hz)
 ·show ((M' ++ Mc₁).map (·.1)).Nodup
  rw [List.map_append, e, ← List.map_append]
  exact X.S.nd
 ·show z.1 ∉ (M' ++ Mc₁).map (·.1)
  rw [List.append_assoc] at hz
  rcases List.mem_append.mp hz with hz | hz
  ·rcases ha z hz with ht | ⟨hb, -⟩
   ·refine news_tupOff N'' (fun y hy => ?_) (List.mem_append_right _ (List.mem_append_left _ hz)) ht
    rcases List.mem_append.mp hy with hy | hy
    ·exact ⟨List.mem_append_left _ hy, hn y hy⟩
    ·exact ⟨List.mem_append_right _ (List.mem_append_right _ (List.mem_append_left _ hy)), X.S.nt y (List.mem_append_right _ hy)⟩
   ·rw [List.map_append, e, ← List.map_append]
    intro e'
    obtain ⟨y, hy, e'⟩ := List.mem_map.mp e'
    refine hb y ?_ e'
    rw [← List.append_assoc]
    exact List.mem_append_left _ hy
  ·rw [List.map_append, e, ← List.map_append]
   exact X.S.off z hz
end
theorem ms1 {B : Led} {a : Addr} {p : AO} {Mc : Led} (h : MAll B [(a, p)] Mc) : ∃ o, Mc = [(a, o)] ∧ p.p B o := by
 cases h with
 | cons h t => cases t; exact ⟨_, rfl, h⟩
theorem FnN.imp {w : World} {f : Addr} {vs : List Value} {dep uni : Nat} {M J J' : Led} {P P' : Value → Led → Led → Prop} (c : FnN w f vs dep uni M J P) (hJ : ∀ q ∈ J, q ∈ J') (i : ∀ r M' add, P r M' add → P' r M' add) : FnN w f vs dep uni M J' P' :=
 fun p loose mean mg mb fr gd dp un h₀ L m s JD R F X T N hj hn ho hd hu k => c p loose mean mg mb fr gd dp un h₀ L m s JD R F X T N (fun q hq => hj q (hJ q hq)) hn ho hd hu fun r h' tk' M' add hp => k r h' tk' M' add (i _ _ _ hp)

end
section --C1
theorem make_use {w : World} {C fI : Addr} {vs : List Value} {P : Obj → Prop} {p : Program} {loose : List Str} {mean : ExcName → Option Value} {mg mb : Str → Option Value} {fr' : Option (List Env)} {gd : Option (List Code)} {dp un : Nat} {h₀ : Heap} {L : Addr} {m : Str → Option Value} {s : Shared} {Q E : Value → Shared → Prop} {JD : Led}
  (hm : makesIn (heapK w.params) C = true) (hi : findIn (heapK w.params) (.ref C) "__init__" = some (some (.ref fI))) (hf : isFn (heapK w.params) (.ref fI) = true)
  (c : ∀ x dx, FnM w fI (.ref x :: vs) 1 8 [(dx, dictOf [] 0)] [(x, instObj C dx)] (fun r M' add => add = [] ∧ r = .none ∧ ∃ o', M' = [(dx, o')] ∧ P o'))
  (hF : Fr h₀ L s.heap m) (hX : (heapK w.params).In h₀) (hT : Top p loose mean mg mb h₀) (hN : News h₀ L s.heap JD) (hd : dp + 6 < recursionLimit) (hu : un + 20 < cLine) (hwt : (Code.builtin "type.__call__" ⟨.ref C :: vs, []⟩).weight ≤ 4) (hcu : (Code.builtin "type.__call__" ⟨.ref C :: vs, []⟩).cUnits ≤ 4)
  (ret : ∀ x dx o' h' tk', P o' → (∀ p ∈ JD, p.1 < dx) → dx < x → Fr h₀ L h' m → News h₀ L h' ((dx, o') :: (x, instObj C dx) :: JD) → Q (.ref x) { s with heap := h', toks := tk' }) :
  wpAny (MD w) (At fr' gd dp un) (call (.ref C) vs) Q E s := by
 refine call_cls hF hX hN hm hi hf fun x dx h' F' N' l1 l2 => ?_
 have N₂ : News h₀ L h' ([(dx, dictOf [] 0)] ++ [(x, instObj C dx)] ++ JD) := fun q hq => N' q (by
  simp only [List.mem_append, List.mem_cons, List.not_mem_nil, or_false] at hq ⊢
  rcases hq with (hq | hq) | hq
  ·exact .inr (.inl hq)
  ·exact .inl hq
  ·exact .inr (.inr hq))
 have off : ∀ q ∈ JD, q.1 ∉ [(dx, dictOf [] 0)].map (·.1) := fun q hq k => Nat.ne_of_lt (l1 q hq) (by simpa using k)
 have y1 : (At fr' gd dp un).depth = dp := rfl
 have y2 : (At fr' gd dp un).units = un := rfl
 refine c x dx (fun q hq k => ?_) p loose mean mg mb _ _ _ _ h₀ L m { s with heap := h' } JD _ F' hX hT N₂ off ?_ ?_ ?_
 ·rw [List.mem_singleton.mp hq] at k
  exact Nat.ne_of_gt l2 (by simpa using k)
 ·show (At fr' gd dp un).depth + _ + 1 < recursionLimit
  omega
 ·show (At fr' gd dp un).units + _ + 8 < cLine
  omega
 ·rintro r h₂ tk₂ nx ⟨M', add, ⟨rfl, rfl, o', rfl, hP⟩, -, -, -, rfl⟩ F₂ N₃ -
  exact ⟨rfl, ret x dx o' h₂ tk₂ hP l1 l2 F₂ N₃⟩

end
section --FL
section
variable {prog : Program} {w : World} {A : Around} {E : Value → Shared → Prop} {s : Shared} {env : Env} {h₀ : Heap} {x : Str} {body : List Stmt} {Q : Flow → Shared → Prop} {m₀ : Str → Option Value} {news : Led}
theorem iter_str {xt : Str} {tx : Tok} (J : Nat → (Str → Option Value) → Led → Prop) (hh : A.handled = none) (F : Fr h₀ env.locals s.heap m₀) (N : News h₀ env.locals s.heap news) (hj : J 0 m₀ news)
  (turn : ∀ i v m₁ nx h tk own, i < xt.cps.size → SignAt xt i v → OwnOff own (nx.map (·.1)) → J i m₁ nx → Fr h₀ env.locals h (fun y => if y = x then some v else m₁ y) → News h₀ env.locals h (nx ++ own) →
   wpAny (model prog w) A (execs body env) (InvPostG h₀ env.locals (J (i + 1)) own { s with heap := h, toks := tk } Q) E { s with heap := h, toks := tk })
  (done : ∀ m₁ nx h tk, J xt.cps.size m₁ nx → Fr h₀ env.locals h m₁ → News h₀ env.locals h nx → Q .next { s with heap := h, toks := tk }) :
  wpAny (model prog w) A (pyIter (.str xt tx)) (fun it s₂ => LoopAtV prog w A h₀ env x body Q E it s₂) E s := by
 have key : ∀ (o : Obj) (St : Nat → Heap → Prop), (∀ i h, St i h → ∃ o, h.get? s.heap.objs.size = some o) → Walks prog w A s.heap.objs.size [s.heap.objs.size] [s.heap.objs.size] xt.cps.size (SignAt xt) St → St 0 (s.heap.push o) →
   LoopAtV prog w A h₀ env x body Q E (.ref s.heap.objs.size) { s with heap := s.heap.push o } := by
  intro o St hob W hst
  refine kdr_loop J W (fun _ h => h) (fun _ h => h) (fun i h hi b hb => by rw [List.mem_singleton.mp hb]; exact hob i h hi) ?_ ?_ ?_ hst (F.push _) (fun p hp => ⟨Heap.get?_push_of_some _ (N p hp).1, (N p hp).2⟩) hj turn done
  ·intro hm
   exact absurd F.ns.lt ((List.mem_singleton.mp hm) ▸ Nat.lt_irrefl _)
  ·intro b hb
   rw [List.mem_singleton.mp hb]
   exact next_is_new F
  ·intro p hp hI
   exact absurd (Heap.lt_size (N p hp).1) ((List.mem_singleton.mp hI) ▸ Nat.lt_irrefl _)
 cases ha : xt.cps.all (· < 128)
 ·exact wpAny_pyIter_wide ha (key _ _ (fun i h ⟨o, ho, _⟩ => ⟨o, ho⟩) (Walks.strWide hh _ xt tx) ⟨_, Heap.get?_push_size _ rfl, rfl, rfl⟩)
 ·exact wpAny_pyIter_ascii ha (key _ _ (fun i h ⟨o, ho, _⟩ => ⟨o, ho⟩) (Walks.strAscii hh _ xt tx) ⟨_, Heap.get?_push_size _ rfl, rfl, rfl⟩)
theorem iter_range {r : Addr} {a b c : Int} {t₀ u₀ v₀ : Tok} {n : Nat} (J : Nat → (Str → Option Value) → Led → Prop) (hh : A.handled = none) (hr : IsRange s.heap r a b c t₀ u₀ v₀) (hsmall : Builtin.Range.small a b c = true) (hsz : Builtin.Range.rangeSize a b c = (n : Int)) (F : Fr h₀ env.locals s.heap m₀) (N : News h₀ env.locals s.heap news) (hj : J 0 m₀ news)
  (turn : ∀ (i : Nat) t m₁ nx h tk own, i < n → (∀ p ∈ own, p.2.cls = .type "range_iterator") → OwnOff own (nx.map (·.1)) → J i m₁ nx → Fr h₀ env.locals h (fun y => if y = x then some (.int (a + i * c) t) else m₁ y) → News h₀ env.locals h (nx ++ own) →
   wpAny (model prog w) A (execs body env) (InvPostG h₀ env.locals (J (i + 1)) own { s with heap := h, toks := tk } Q) E { s with heap := h, toks := tk })
  (done : ∀ m₁ nx h tk, J n m₁ nx → Fr h₀ env.locals h m₁ → News h₀ env.locals h nx → Q .next { s with heap := h, toks := tk }) :
  wpAny (model prog w) A (pyIter (.ref r)) (fun it s₂ => LoopAtV prog w A h₀ env x body Q E it s₂) E s := by
 refine wpAny_pyIter_range hr hsmall ?_
 have W : Walks prog w A s.heap.objs.size [s.heap.objs.size] [s.heap.objs.size] n (fun i v => i < n ∧ ∃ t, v = .int (a + i * c) t)
   (fun i h => IsRangeIter h s.heap.objs.size (a + (i : Nat) * c) ((n : Int) - (i : Nat)) c) := (Walks.range hh _ a c n).bound
 have here : ∀ {q : Addr}, q ∈ [s.heap.objs.size] → q = s.heap.objs.size := fun h => List.mem_singleton.mp h
 refine ⟨s.heap.objs.size, [s.heap.objs.size], [s.heap.objs.size], n, _, _, m₀, news, J, rfl, W, fun hm => ?_, fun q hq => ?_, fun p hp hI => ?_, ?_, F.push _, fun p hp => ⟨Heap.get?_push_of_some _ (N p hp).1, (N p hp).2⟩, hj, ?_, fun h' tk m' news' F' N' _ hJ => done m' news' h' tk hJ F' N'⟩
 ·exact absurd F.ns.lt (here hm ▸ Nat.lt_irrefl _)
 ·rw [here hq]; exact next_is_new F
 ·exact absurd (Heap.lt_size (N p hp).1) (here hI ▸ Nat.lt_irrefl _)
 ·show IsRangeIter _ _ _ _ _
  rw [hsz]
  simpa using Heap.get?_push_size _ rfl
 ·rintro i v m₁ nx s₁ own ⟨h₁, tk₁, rfl⟩ hi ⟨_, t, rfl⟩ hJ hoff hown _ hall hSt F₁ N₁
  have hSt : h₁.get? s.heap.objs.size = some _ := hSt
  have cl : ∀ p ∈ own, p.2.cls = .type "range_iterator" := fun p hp => by
   have e := (N₁ p (List.mem_append_left _ hp)).1
   rw [here (hown p hp)] at e
   rw [Option.some.inj (e.symm.trans hSt)]
  have sep : OwnOff own (nx.map (·.1)) := fun p hp q hq e => by
   obtain ⟨z, hz, rfl⟩ := List.mem_map.mp hq
   exact hoff z hz (e ▸ hown p hp)
  refine wpAny_mono (turn i t m₁ nx h₁ tk₁ own hi cl sep hJ F₁ fun p hp => N₁ p ?_) (fun f s₂ g => ?_) fun _ _ e => e
  ·rcases List.mem_append.mp hp with hp | hp
   ·exact List.mem_append_right _ hp
   ·exact List.mem_append_left _ hp
  ·have fin : InvEndG h₀ env.locals (J (i + 1)) own { s with heap := h₁, toks := tk₁ } s₂ → LoopStepU h₀ env.locals [s.heap.objs.size] own (J (i + 1)) { s with heap := h₁, toks := tk₁ } .next s₂ := by
    rintro ⟨h', tk, m', all, nx', e, F', N', inn, ino, off, hJ'⟩
    refine ⟨rfl, h', tk, m', nx', e, F', fun p hp => ?_, fun p hp hq => ?_, hJ'⟩
    ·rcases List.mem_append.mp hp with hp | hp
     ·exact N' p (ino p hp)
     ·exact N' p (inn p hp)
    ·refine off _ (hall _ (.head _) (next_is_new F) _ hSt) p.1 (List.mem_map.mpr ⟨p, hp, rfl⟩) (here hq).symm
   cases f with
   | ret v => exact .ret g
   | brk => exact .brk g
   | next => exact .next (fin g)
   | cont => exact .cont (fin g)
end
theorem loc_init {x y : Str} {a : Option Value} {m : Str → Option Value} (h : m y = none) : (fun z => if z = x then a else m z) = fun z => if z = x then a else if z = y then none else m z := by
 funext z
 by_cases hx : z = x
 ·simp [hx]
 ·by_cases hy : z = y
  ·simp [hy, h]
  ·simp [hx, hy]
theorem loc_step {x y : Str} {a a' b b' : Option Value} {m : Str → Option Value} : (fun z => if z = x then a else if z = y then b else if z = x then a' else if z = y then b' else m z) = fun z => if z = x then a else if z = y then b else m z := by
 funext z
 by_cases hx : z = x
 ·simp [hx]
 ·by_cases hy : z = y
  ·simp [hx, hy]
  ·simp [hx, hy]

end
section --FT
section
open PyProof.V
variable {prog : Program} {w : World} {A : Around} {E : Value → Shared → Prop} {s : Shared} {env : Env} {h₀ : Heap} {target : Expr} {body : List Stmt} {Q : Flow → Shared → Prop}
theorem iter_listT {l : Addr} {vs : List Value} {nn : Nat} {m₀ : Str → Option Value} {news : Led} (J : Nat → (Str → Option Value) → Led → Prop)
  (hh : A.handled = none) (hl : (l, W.listOf vs.toArray nn) ∈ news) (F : Fr h₀ env.locals s.heap m₀) (N : News h₀ env.locals s.heap news) (hj : J 0 m₀ news)
  (turn : ∀ i v m₁ news₁ s₁ own, vs[i]? = some v → (∀ p ∈ own, p.2.cls = .type "list_iterator") → OwnOff own (news₁.map (·.1)) → (l, W.listOf vs.toArray nn) ∈ news₁ → J i m₁ news₁ → Fr h₀ env.locals s₁.heap m₁ → News h₀ env.locals s₁.heap (news₁ ++ own) →
   wpAny (model prog w) A (assign target env v) (fun _ s₃ => wpAny (model prog w) A (execs body env) (fun f s₂ => f = .next ∧ InvEndG h₀ env.locals (fun m' nx => (l, W.listOf vs.toArray nn) ∈ nx ∧ J (i + 1) m' nx) own s₁ s₂) E s₃) E s₁)
  (done : ∀ m₁ news₁ h tk, J vs.length m₁ news₁ → Fr h₀ env.locals h m₁ → News h₀ env.locals h news₁ → Q .next { s with heap := h, toks := tk }) :
  wpAny (model prog w) A (pyIter (.ref l)) (fun it s₂ => LoopAtT prog w A h₀ env target body Q E it s₂) E s := by
 have hol : s.heap.get? l = some (W.listOf vs.toArray nn) := (N _ hl).1
 have hls : s.heap.IsList l vs.toArray := ⟨_, hol, rfl, nn, rfl⟩
 have hne : l ≠ s.heap.objs.size := Nat.ne_of_lt (Heap.lt_size hol)
 refine wpAny_pyIter_list hls ?_
 have Wk := Walks.list (prog := prog) (w := w) hh s.heap.objs.size l hne vs.toArray
 have hlen : vs.toArray.size = vs.length := by simp
 rw [hlen] at Wk
 refine ⟨_, _, _, vs.length, _, _, m₀, news, (fun i m nx => (l, W.listOf vs.toArray nn) ∈ nx ∧ J i m nx), rfl, Wk, ?_, ?_, ?_, ⟨⟨_, Heap.get?_push_size _ rfl, rfl, rfl⟩, hls.at fun o e => Heap.get?_push_of_some _ e⟩, F.push _, (fun p hp => ⟨Heap.get?_push_of_some _ (N p hp).1, (N p hp).2⟩), (fun i s' v Q' st hQ' => letGo_listiter st.1 hQ'), ⟨hl, hj⟩, ?_, ?_⟩
 ·intro hm
  rcases List.mem_cons.mp hm with e | hm
  ·exact absurd F.ns.lt (e ▸ Nat.lt_irrefl _)
  ·exact (N _ hl).2.1 ((List.mem_singleton.mp hm).symm)
 ·intro b hb
  rw [List.mem_singleton.mp hb]
  exact next_is_new F
 ·intro p hp hI
  exact absurd (Heap.lt_size (N p hp).1) ((List.mem_singleton.mp hI) ▸ Nat.lt_irrefl _)
 ·rintro i v m₁ news₁ s₁ own hin hP ⟨hl₁, hJ⟩ hoff hown hget hfp hst F₁ N₁
  have hP' : vs[i]? = some v := by simpa using hP
  have hI0 : h₀.get? s.heap.objs.size = none := next_is_new F
  obtain ⟨⟨oI, hoI, hcI, _⟩, _⟩ := id hst
  have hIown : (s.heap.objs.size, oI) ∈ own.filter fun p => decide (p.1 = s.heap.objs.size) := List.mem_filter.mpr ⟨hfp _ (List.mem_cons.mpr (.inl rfl)) hI0 _ hoI, by simp⟩
  have hsep : OwnOff (own.filter fun p => decide (p.1 = s.heap.objs.size)) (news₁.map (·.1)) := by
   intro p hp b hb e
   obtain ⟨q, hq, rfl⟩ := List.mem_map.mp hb
   have h1 : p.1 = s.heap.objs.size := by simpa using (List.mem_filter.mp hp).2
   exact hoff q hq (List.mem_singleton.mpr (e ▸ h1))
  have hcl : ∀ p ∈ own.filter fun p => decide (p.1 = s.heap.objs.size), p.2.cls = .type "list_iterator" := fun p hp => by
   have h1 : p.1 = s.heap.objs.size := by simpa using (List.mem_filter.mp hp).2
   have h2 := hget p (List.mem_filter.mp hp).1
   rw [h1, hoI] at h2
   rw [← Option.some.inj h2]
   exact hcI
  have N₂ : News h₀ env.locals s₁.heap (news₁ ++ own.filter fun p => decide (p.1 = s.heap.objs.size)) := fun p hp => N₁ p ((List.mem_append.mp hp).elim (fun h => List.mem_append.mpr (.inr h)) fun h => List.mem_append.mpr (.inl ((List.mem_filter.mp h).1)))
  have hlo : s₁.heap.get? l = some (W.listOf vs.toArray nn) := (N₁ _ (List.mem_append.mpr (.inr hl₁))).1
  refine wpAny_mono (turn i v m₁ news₁ s₁ _ hP' hcl hsep hl₁ hJ F₁ N₂) (fun _ s₃ g => wpAny_mono g (fun f s₂ p => ?_) fun _ _ e => e) fun _ _ e => e
  obtain ⟨rfl, h', tk, m', news', nx, e, F', N', hn, ho, ha, hm⟩ := p
  refine ⟨rfl, h', tk, m', nx, e, F', fun p hp => ?_, fun p hp hq => ?_, hm⟩
  ·rcases List.mem_append.mp hp with h | h
   ·by_cases hI : p.1 = s.heap.objs.size
    ·exact N' p (ho p (List.mem_filter.mpr ⟨h, by simpa using hI⟩))
    ·have h1 : p.1 = l := by
      rcases List.mem_cons.mp (hown p h) with h2 | h2
      ·exact absurd h2 hI
      ·exact List.mem_singleton.mp h2
     have h2 : s₁.heap.get? p.1 = some p.2 := hget p h
     rw [h1, hlo] at h2
     have h3 : p = (l, W.listOf vs.toArray nn) := Prod.ext h1 (Option.some.inj h2).symm
     rw [h3]
     exact N' _ (hn _ hm.1)
   ·exact N' p (hn p h)
  ·exact ha _ hIown p.1 (List.mem_map.mpr ⟨p, hp, rfl⟩) (List.mem_singleton.mp hq).symm
 ·rintro h' tk m' news' F' N' _ ⟨_, hJ⟩
  exact done m' news' h' tk hJ F' N'
end
section
variable {prog : Program} {w : World} {A : Around} {E : Value → Shared → Prop} {s : Shared} {env : Env} {h₀ : Heap} {x : Str} {body : List Stmt} {Q : Flow → Shared → Prop} {m₀ : Str → Option Value} {news : Led}
noncomputable def TurnF (h₀ : Heap) (L : Addr) (m : Str → Option Value) (own : Led) (J : Led → Prop) (s₁ : Shared) (f : Flow) (s₂ : Shared) : Prop :=
 f = .next ∧ ∃ h' tk news' nx, s₂ = { s₁ with heap := h', toks := tk } ∧ Fr h₀ L h' m ∧ News h₀ L h' news' ∧ (∀ p ∈ nx, p ∈ news') ∧ (∀ p ∈ own, p ∈ news') ∧ OwnOff own (nx.map (·.1)) ∧ J nx
end

end
section --FR
section
variable {prog : Program} {w : World} {A : Around} {E : Value → Shared → Prop} {s : Shared} {env : Env} {h₀ : Heap} {x : Str} {px : Pos} {body : List Stmt} {Q : Flow → Shared → Prop} {m₀ : Str → Option Value} {news : Led}
theorem iter_rangeT {r : Addr} {a b c : Int} {t₀ u₀ v₀ : Tok} {n : Nat} (J : Nat → (Str → Option Value) → Led → Prop) (hh : A.handled = none) (hr : IsRange s.heap r a b c t₀ u₀ v₀) (hsmall : Builtin.Range.small a b c = true) (hsz : Builtin.Range.rangeSize a b c = (n : Int)) (F : Fr h₀ env.locals s.heap m₀) (N : News h₀ env.locals s.heap news) (hj : J 0 m₀ news)
  (turn : ∀ (i : Nat) t m₁ nx s₁ own, i < n → (∀ p ∈ own, p.2.cls = .type "range_iterator") → OwnOff own (nx.map (·.1)) → J i m₁ nx → Fr h₀ env.locals s₁.heap m₁ → News h₀ env.locals s₁.heap (nx ++ own) →
   wpAny (model prog w) A (assign (.Name x px) env (.int (a + i * c) t)) (fun _ s₃ => wpAny (model prog w) A (execs body env) (fun f s₂ => f = .next ∧ InvEndG h₀ env.locals (J (i + 1)) own s₁ s₂) E s₃) E s₁)
  (done : ∀ m₁ nx h tk, J n m₁ nx → Fr h₀ env.locals h m₁ → News h₀ env.locals h nx → Q .next { s with heap := h, toks := tk }) :
  wpAny (model prog w) A (pyIter (.ref r)) (fun it s₂ => LoopAtT prog w A h₀ env (.Name x px) body Q E it s₂) E s := by
 refine wpAny_pyIter_range hr hsmall ?_
 have W : Walks prog w A s.heap.objs.size [s.heap.objs.size] [s.heap.objs.size] n (fun i v => i < n ∧ ∃ t, v = .int (a + i * c) t)
   (fun i h => IsRangeIter h s.heap.objs.size (a + (i : Nat) * c) ((n : Int) - (i : Nat)) c) := (Walks.range hh _ a c n).bound
 have here : ∀ {q : Addr}, q ∈ [s.heap.objs.size] → q = s.heap.objs.size := fun h => List.mem_singleton.mp h
 refine ⟨s.heap.objs.size, [s.heap.objs.size], [s.heap.objs.size], n, _, _, m₀, news, J, rfl, W, fun hm => ?_, fun q hq => ?_, fun p hp hI => ?_, ?_, F.push _, fun p hp => ⟨Heap.get?_push_of_some _ (N p hp).1, (N p hp).2⟩, fun i s' v Q' st hQ' => wpAny_pure hQ', hj, ?_, fun h' tk m' news' F' N' _ hJ => done m' news' h' tk hJ F' N'⟩
 ·exact absurd F.ns.lt (here hm ▸ Nat.lt_irrefl _)
 ·rw [here hq]; exact next_is_new F
 ·exact absurd (Heap.lt_size (N p hp).1) (here hI ▸ Nat.lt_irrefl _)
 ·show IsRangeIter _ _ _ _ _
  rw [hsz]
  simpa using Heap.get?_push_size _ rfl
 ·rintro i v m₁ nx s₁ own hi ⟨_, t, rfl⟩ hJ hoff hown _ hall hSt F₁ N₁
  have hSt : s₁.heap.get? s.heap.objs.size = some _ := hSt
  have cl : ∀ p ∈ own, p.2.cls = .type "range_iterator" := fun p hp => by
   have e := (N₁ p (List.mem_append_left _ hp)).1
   rw [here (hown p hp)] at e
   rw [Option.some.inj (e.symm.trans hSt)]
  have sep : OwnOff own (nx.map (·.1)) := fun p hp q hq e => by
   obtain ⟨z, hz, rfl⟩ := List.mem_map.mp hq
   exact hoff z hz (e ▸ hown p hp)
  refine wpAny_mono (turn i t m₁ nx s₁ own hi cl sep hJ F₁ fun p hp => N₁ p ?_) (fun _ s₃ g => wpAny_mono g (fun f s₂ g => ?_) fun _ _ e => e) fun _ _ e => e
  ·rcases List.mem_append.mp hp with hp | hp
   ·exact List.mem_append_right _ hp
   ·exact List.mem_append_left _ hp
  ·obtain ⟨rfl, h', tk, m', all, nx', e, F', N', inn, ino, off, hJ'⟩ := g
   refine ⟨rfl, h', tk, m', nx', e, F', fun p hp => ?_, fun p hp hq => ?_, hJ'⟩
   ·rcases List.mem_append.mp hp with hp | hp
    ·exact N' p (ino p hp)
    ·exact N' p (inn p hp)
   ·refine off _ (hall _ (.head _) (next_is_new F) _ hSt) p.1 (List.mem_map.mpr ⟨p, hp, rfl⟩) (here hq).symm
end

end
section --R4
theorem AllLt.lt {a : Nat} : ∀ {l : Led}, W.AllLt a l → ∀ q ∈ l, q.1 < a
 | [], _, q, h => nomatch h
 | p :: l, h, q, hq => by
  rcases List.mem_cons.mp hq with rfl | hq
  ·exact h.1
  ·exact AllLt.lt h.2 q hq
theorem many_le (c : Nat) : manyN c ≤ 7 := by
 unfold manyN
 split
 ·omega
 ·split
  ·omega
  ·split <;> omega
theorem range_facts : ∀ n : Nat, n < 64 → Builtin.Range.small 0 (n : Nat) 1 = true ∧ Builtin.Range.rangeSize 0 (n : Nat) 1 = (n : Int) := by decide +kernel
theorem NoTup.scd {d : Addr} {cs : List Nat} {i : Int} {o : Obj} (h : ScD cs i o) : NoTup (d, o) := by obtain ⟨⟩ := h; simp [NoTup, NF, dictOf]
theorem at0_pos {cs : List Nat} {k j : Nat} (h : 0 < k) : at0 cs k j = sepEnd cs j := if_neg (by omega)

end
section --AM
@[reducible] noncomputable def Cx.own (c : Cx) (own : Led) (s₁ : Shared) : Cx :=
 { c with s := s₁, J := own ++ c.J, hB := fun q h => List.mem_append_right _ (c.hB q h), ok := fun q => c.ok q ∧ (Tup q ∨ q.1 ∉ own.map (·.1)), okT := fun q h => ⟨c.okT q h, .inl h⟩ }
theorem NewOk.own {c : Cx} {Mb : List (Addr × AO)} {own : Led} {s₁ : Shared} (h : NewOk c Mb) : NewOk (c.own own s₁) Mb := fun q h1 h2 h3 =>
 ⟨h q (fun r hr => h1 r (List.mem_append_right _ hr)) h2 h3, .inr fun e => by
  obtain ⟨z, hz, e⟩ := List.mem_map.mp e
  exact h1 z (List.mem_append_left _ hz) e⟩
inductive SubL : List (Str × AV) → List (Str × AV) → Prop
 | nil {l : List (Str × AV)} : SubL [] l
 | cons {x : Str} {a : AV} {r l : List (Str × AV)} (h : l.lookup x = some a) (t : SubL r l) : SubL ((x, a) :: r) l
theorem SubL.look {r l : List (Str × AV)} (h : SubL r l) : ∀ x a, r.lookup x = some a → l.lookup x = some a := by
 induction h with
 | nil => exact fun _ _ h => nomatch h
 | @cons y b r l h _ ih =>
  intro x a e
  rw [List.lookup_cons] at e
  cases q : x == y with
  | true => rw [q] at e; cases e; rw [beq_iff_eq.mp q]; exact h
  | false => rw [q] at e; exact ih x a e
noncomputable def OwnOk (c : Cx) (own : Led) : Prop := (∀ q ∈ own, NF q ∧ q.2.cls ≠ .type "tuple" ∧ q.2.cls ≠ .type "list") ∧ ∀ q ∈ own, ∀ r ∈ c.J, q.1 ≠ r.1
noncomputable def EndT (I : As → Prop) (σ : As) : Prop := ∃ l, SubL l σ.l ∧ I ⟨l, σ.M⟩
noncomputable def ALJ (c : Cx) (I : Nat → As → Prop) (i : Nat) (m : Str → Option Value) (nx : Led) : Prop :=
 ∃ σ N Mc, I i σ ∧ (∀ x a, σ.l.lookup x = some a → ∃ v, m x = some v ∧ Den (N ++ c.B) a v) ∧ Spd c Mc N ∧ MAll (N ++ c.B) σ.M Mc ∧ nx = c.all Mc N
section
variable {f : Fi} {c : Cx} {σ : As} {x : Str} {px rp pos np : Pos} {e : Expr} {body : List Stmt} {n : Nat}
noncomputable def Turns (tgt : Expr) (body : List Stmt) (f : Fi) (c : Cx) (I : Nat → As → Prop) (n : Nat) : Prop :=
 ∀ own s₁ i σ₁, i < n → OwnOk c own → I i σ₁ → AAsg tgt f (.d (.int i)) (c.own own s₁) [] σ₁ (fun σ₂ => ASts body f (c.own own s₁) σ₂ (fun fl σ₃ => fl = .next ∧ EndT (I (i + 1)) σ₃))
theorem loopR {K : AF → As → Prop} {I : Nat → As → Prop} (hn : n < 64) (h0 : I 0 σ) (T : Turns (.Name x px) body f c I n) (Dn : ∀ σ₁, I n σ₁ → K .next σ₁) {Q : Flow → Shared → Prop} (q : Pf c K Q) {h : Heap} {m : Str → Option Value} {N Mc : Led} {t : Nat} {r : Addr} {t₀ u₀ v₀ : Tok} (hR : IsRange h r 0 n 1 t₀ u₀ v₀) (X : Cs c [] σ h m N Mc []) :
  wpAny (MD c.w) c.A (pyIter (.ref r)) (fun it s₂ => LoopAtT PySem.Challenge.rw_on0248_01.prog c.w c.A c.h₀ (c.env f) (.Name x px) body Q c.E it s₂) c.E (st0 c h t) := by
 refine iter_rangeT (ALJ c I) rfl hR (range_facts n hn).1 (range_facts n hn).2 X.F X.W ⟨σ, N, Mc, h0, X.P, X.S, X.M, rfl⟩ ?_ ?_
 ·rintro i t m₁ _ s₁ own hi hcl hown ⟨σ₁, N₁, Mc₁, hI, hP, hS, hM, rfl⟩ F₁ W₁
  have hoff : ∀ p ∈ own, ∀ q ∈ c.all Mc₁ N₁, p.1 ≠ q.1 := fun p hp q hq => hown p hp q.1 (List.mem_map_of_mem (f := (·.1)) hq)
  have Y : Cs (c.own own s₁) [] σ₁ s₁.heap m₁ N₁ Mc₁ [] := by
   refine ⟨F₁, hP, fun z hz => W₁ z ?_, ⟨hS.nt, hS.nd, fun z hz e => ?_, fun z hz => ⟨hS.ok z hz, .inr fun e => ?_⟩⟩, hM, .nil⟩
   ·exact su_at hz (by unfold Cx.all; bits_by_make)
   ·obtain ⟨y, hy, e⟩ := List.mem_map.mp e
    rcases List.mem_append.mp hz with hz | hz
    ·exact hS.off z (List.mem_append_left _ hz) (e ▸ List.mem_map_of_mem (f := (·.1)) hy)
    ·rcases List.mem_append.mp hz with hz | hz
     ·exact hoff z hz y (List.mem_append_left _ hy) e.symm
     ·exact hS.off z (List.mem_append_right _ hz) (e ▸ List.mem_map_of_mem (f := (·.1)) hy)
   ·obtain ⟨y, hy, e⟩ := List.mem_map.mp e
    exact hoff y hy z (List.mem_append_right _ (List.mem_append_left _ hz)) e
  have hok : OwnOk c own := ⟨fun q hq => ⟨.inr (by rw [hcl q hq]; exact ⟨by simp, by simp⟩), by rw [hcl q hq]; simp, by rw [hcl q hq]; simp⟩, fun q hq r hr => hown q hq r.1 (List.mem_map_of_mem (f := (·.1)) (List.mem_append_right _ (List.mem_append_right _ hr)))⟩
  refine T own s₁ i σ₁ hi hok hI (fun _ s₃ => wpAny _ _ (execs body (c.env f)) (fun f s₂ => f = .next ∧ InvEndG c.h₀ c.L (ALJ c I (i + 1)) own s₁ s₂) c.E s₃) (fun σ₂ k h₂ m₂ N₂ Mc₂ ds t₂ Y₂ => ?_) s₁.heap m₁ N₁ Mc₁ [] [.int (0 + i * 1) t] s₁.toks Y (.cons (by rw [Int.mul_one, Int.zero_add]; exact .int _ _) .nil)
  obtain rfl := Y₂.nil
  refine k _ (fun fl σ₃ k₃ h₃ m₃ N₃ Mc₃ g t₃ Y₃ y₃ => ?_) h₂ m₂ N₂ Mc₂ t₂ Y₂
  obtain ⟨rfl, l₃, hsub, hI'⟩ := k₃
  obtain rfl : g = .next := y₃
  refine ⟨rfl, h₃, t₃, m₃, (c.own own s₁).all Mc₃ N₃, c.all Mc₃ N₃, rfl, Y₃.F, Y₃.W, fun p hp => ?_, fun p hp => ?_, fun p hp b hb e => ?_, ⟨l₃, σ₃.M⟩, N₃, Mc₃, hI', (fun x a e => Y₃.P x a (hsub.look x a e)), ⟨Y₃.S.nt, Y₃.S.nd, fun z hz => Y₃.S.off z ?_, fun z hz => (Y₃.S.ok z hz).1⟩, Y₃.M, rfl⟩
  ·exact su_at hp (by unfold Cx.all; bits_by_make)
  ·exact List.mem_append_right _ (List.mem_append_right _ (List.mem_append_left _ hp))
  ·obtain ⟨z, hz, rfl⟩ := List.mem_map.mp hb
   rcases List.mem_append.mp hz with hz | hz
   ·exact Y₃.S.off p (List.mem_append_right _ (List.mem_append_left _ hp)) (by rw [e]; exact List.mem_map_of_mem (f := (·.1)) hz)
   ·rcases List.mem_append.mp hz with hz | hz
    ·rcases (Y₃.S.ok z hz).2 with ⟨us, un, ht⟩ | ht
     ·have := news_one Y₃.W (a := z.1) (o := z.2) (o' := p.2) (List.mem_append_right _ (List.mem_append_left _ hz)) (by rw [← e]; exact List.mem_append_right _ (List.mem_append_right _ (List.mem_append_left _ hp)))
      have h1 := hcl p hp
      rw [← this, ht] at h1
      exact absurd h1 (by simp)
     ·exact ht (List.mem_map.mpr ⟨p, hp, e⟩)
    ·exact hoff p hp z (List.mem_append_right _ (List.mem_append_right _ hz)) e
  ·rcases List.mem_append.mp hz with hz | hz
   ·exact List.mem_append_left _ hz
   ·exact List.mem_append_right _ (List.mem_append_right _ hz)
 ·rintro m₁ _ h₁ tk ⟨σ₁, N₁, Mc₁, hI, hP, hS, hM, rfl⟩ F₁ W₁
  exact q _ _ (Dn σ₁ hI) h₁ m₁ N₁ Mc₁ _ tk ⟨F₁, hP, W₁, hS, hM, .nil⟩ rfl
theorem ASt.forR {K : AF → As → Prop} (hE : PassesOwn (MD c.w) c.A (c.env f) c.E) (hb : f.is (Str.ofString "range") .globalImplicit = true) (hg : ∀ w : World, nsIn (heapK w.params) mainGlobals (Str.ofString "range") = some none)
  (he : ∀ env, eval (.Call (.Name (Str.ofString "range") np) [e] [] rp) env = (do callWith rp (← eval (.Name (Str.ofString "range") np) env) [] (backTo rp (starEach [e] env)) (backToKw rp (keywordEach [] env)))) (hx : Xs [e] = true)
  (H : AEv e f c [] σ (fun a σ₁ => ∃ (n : Nat) (I : Nat → As → Prop), a = .d (.int n) ∧ n < 64 ∧ I 0 σ₁ ∧ Turns (.Name x px) body f c I n ∧ ∀ σ₂, I n σ₂ → K .next σ₂)) :
  ASt (.For (.Name x px) (.Call (.Name (Str.ofString "range") np) [e] [] rp) body [] pos) f c σ K := fun Q q h m N Mc t X => by
 refine For_invTF X.F (Call_ (nmB X.F (hg c.w) (v := .type "range") boot_range (by decide +kernel) hb ?_) (he _)) (fun _ => rfl) hE
 refine Pv.callWith_type1 ?_ (Xs.star hx _) (Xs.plain (Xs.tl hx) _ _)
 refine args_cons (H (fun _ v s₁ => wpAny _ _ (spliced (backTo rp (starEach [] (c.env f)))) (fun vs s₂ => wpAny _ _ (call (.type "range") (v :: vs)) (fun xv s₁ => wpAny _ _ (pyIter xv) (fun it s₂ => LoopAtT PySem.Challenge.rw_on0248_01.prog c.w c.A c.h₀ (c.env f) (.Name x px) body Q c.E it s₂) c.E s₁) c.E s₂) c.E s₁) (fun a σ₁ k h m N Mc ds v t X y => ?_) h m N Mc [] t X) (Xs.star hx _)
 obtain rfl := X.nil
 obtain ⟨n, I, rfl, hn, h0, T, Dn⟩ := k
 obtain ⟨u, rfl⟩ := den_int y
 refine args_nil (range1_rows X.F X.W fun h' tk t₁ u₁ v₁ hR F' W' _ => ?_)
 exact loopR hn h0 T Dn q hR ⟨F', X.P, W', X.S, X.M, .nil⟩
end

end
section --AN
noncomputable def DenO (B : Led) : Option AV → Option Value → Prop
 | none, v => v = none
 | some a, v => ∃ u, v = some u ∧ Den B a u
theorem DenO.mono {B B' : Led} (hs : ∀ q ∈ B, q ∈ B') : ∀ {a : Option AV} {v : Option Value}, DenO B a v → DenO B' a v
 | none, _, h => h
 | some _, _, ⟨u, e, h⟩ => ⟨u, e, h.mono hs⟩
noncomputable def CelA (a : Option AV) : AO where
 p B o := ∃ v, o.data = .cell v ∧ DenO B a v
 mono hs h := by
  obtain ⟨v, e, h⟩ := h
  exact ⟨v, e, h.mono hs⟩
 nt h := by
  obtain ⟨v, e, -⟩ := h
  exact ⟨.inr ⟨v, e⟩, .inl fun vs e' => by rw [show _ = _ from e] at e'; cases e'⟩
section
variable {f : Fi} {c : Cx} {l : List (Str × AV)} {M : List (Addr × AO)} {D : List AV} {a : AV} {u : Option AV} {x : Str} {px : Pos} {C : Addr} {q1 q2 : Addr × AO}
theorem AEv.cel {K : AV → As → Prop} (ma : List (Addr × AO)) (hc : c.cl.lookup x = some C) (hx : f.is x .cell = true) (H : K a ⟨l, ma ++ (C, CelA (some a)) :: M⟩) : AEv (.Name x px) f c D ⟨l, ma ++ (C, CelA (some a)) :: M⟩ K := fun Q q h m N Mc ds t X => by
 obtain ⟨sa, o, sz, rfl, ha, ⟨_, hd, v, rfl, hv⟩, hz⟩ := X.M.look
 exact nmC X.W hc (o := o) (by rw [all_mid]; exact List.mem_append_right _ (.head _)) hd hx (q _ _ H h m N _ ds v t X hv)
theorem ASto.cel {K : As → Prop} (ma : List (Addr × AO)) (hc : c.cl.lookup x = some C) (hx : f.is x .cell = true) (H : K ⟨l, ma ++ (C, CelA (some a)) :: M⟩) : ASto x f a c D ⟨l, ma ++ (C, CelA u) :: M⟩ K := fun Q q h m N Mc ds vs t X y => by
 obtain ⟨v, rfl, hv⟩ := y.one
 obtain ⟨sa, o, sz, rfl, ha, ⟨_, hd, -⟩, hz⟩ := X.M.look
 have U : UpdF C o (c.all (sa ++ (C, o) :: sz) N) (fun o' => sa ++ (C, o') :: (sz ++ (N ++ c.J))) := by
  rw [all_mid]
  exact updF_mid X.S.pre X.S.post
 refine stC X.F X.W hc U hd hx (fun h' o' F' W' ho' => ?_)
 have hn : (CelA (some a)).p (N ++ c.B) o' := ⟨_, ho', v, rfl, hv⟩
 exact q _ H h' m N _ ds t ⟨F', X.P, by rw [← all_mid] at W'; exact W', X.S.up (AO.nt _ hn), ha.app (.cons hn hz), X.D⟩
theorem AEv.cel0 {K : AV → As → Prop} (hc : c.cl.lookup x = some C) (hx : f.is x .cell = true) (H : K a ⟨l, (C, CelA (some a)) :: M⟩) : AEv (.Name x px) f c D ⟨l, (C, CelA (some a)) :: M⟩ K := AEv.cel [] hc hx H
theorem AEv.cel1 {K : AV → As → Prop} (hc : c.cl.lookup x = some C) (hx : f.is x .cell = true) (H : K a ⟨l, q1 :: (C, CelA (some a)) :: M⟩) : AEv (.Name x px) f c D ⟨l, q1 :: (C, CelA (some a)) :: M⟩ K := AEv.cel [q1] hc hx H
theorem ASto.cel0 {K : As → Prop} (hc : c.cl.lookup x = some C) (hx : f.is x .cell = true) (H : K ⟨l, (C, CelA (some a)) :: M⟩) : ASto x f a c D ⟨l, (C, CelA u) :: M⟩ K := ASto.cel [] hc hx H
end
section
variable {w : World} {f : Addr} {vs : List Value} {dep uni : Nat} {M₀ : List (Addr × AO)} {Mc B : Led} {name qual : Str} {params : Arguments} {body : List Stmt} {scope : Scope} {dV kV doc pm cdv ct oc : Value} {an od : Option Addr} {osl : Array (Option Value)} {lA : List (Str × AV)} {binds bl : List (Str × Value)}
theorem FnN.ofCA {R : AV → List (Addr × AO) → Prop} (cM : Addr → List (Addr × AO)) (hM : MAll B M₀ Mc) (hnd : (M₀.map (·.1)).Nodup) (hR : ∀ r N', R r N' → N'.map (·.1) = M₀.map (·.1)) (hz : Zp B lA bl)
  (hcn : ∀ L, ((cM L).map (·.1)).Nodup) (hcg : ∀ L, ∀ q ∈ cM L, L < q.1)
  (ho : (heapK w.params).lookup f = some ⟨oc, od, .func (fnOf name qual params body scope dV kV doc pm an cdv ct), osl⟩) (hcd : codeIn (heapK w.params) cdv qual = true)
  (hbind : ∀ s : Shared, (heapK w.params).In s.heap → BindsTo s (fnOf name qual params body scope dV kV doc pm an cdv ct) ⟨vs, []⟩ binds)
  (hkind : ∀ n, ∀ x ∈ binds, scope.names.lookup x.1 = some .local ∨ (scope.names.lookup x.1 = some .cell ∧ ((cellsFrom n scope.names []).lookup x.1).isSome = true))
  (hdep : 0 < dep)
  (hbl : ∀ L, bindL (envOfC qual scope L f cdv).kindOf binds (fun _ => none) = lkl bl)
  (hcel : ∀ L cells, CellsAre (bindC (envOfC qual scope L f cdv).kindOf binds fun _ => none) (cellsFrom (L + 1) scope.names []) cells → MAll B (cM L) cells)
  (hb : ∀ (c : Cx) (K : AF → As → Prop), c.w = w → (∀ q ∈ B, q ∈ c.B) → c.dp + dep < recursionLimit + 1 → c.un + uni < cLine + 3 → NewOk c (cM c.L ++ M₀) → (∀ env, PassesOwn (MD c.w) c.A env c.E) → c.cl = cellsFrom (c.L + 1) scope.names [] → (∀ fl l cM' N', cM'.map (·.1) = (cM c.L).map (·.1) → R (rvA fl) N' → K fl ⟨l, cM' ++ N'⟩) → ASts body ⟨qual, scope, f, cdv, none⟩ c ⟨lA, cM c.L ++ M₀⟩ K)
  (hnc : ((cellsFrom 0 scope.names []).map (·.1)).Nodup)
  (hco : scope.isCoroutine = false) (hgen : scope.isGenerator = false) (hk : scope.kind = .function) : FnN w f vs dep uni Mc B (PoA R B) :=
 FnN.ofC binds ho hcd hbind hkind hdep (fun p loose mean mg mb fr gd dp un h₀ L hh tk s JD cells X T F N hcl hlt hJ hn hoff hd hu => by
  let c : Cx := mkC fr gd (dp + 1) (un + 3) L (cellsFrom (L + 1) scope.names []) s (fun _ _ => False) JD B hJ (Apart (Mc ++ JD)) (fun _ h => .inl h) X T
  have ha : Mc.map (·.1) = M₀.map (·.1) := hM.adr (B' := B)
  have hC := hcel L cells hcl
  have hca : cells.map (·.1) = (cM L).map (·.1) := hC.adr (B' := B)
  have hcgt : ∀ q ∈ cells, L < q.1 := fun q hq => by
   have : q.1 ∈ (cM L).map (·.1) := by rw [← hca]; exact List.mem_map_of_mem (f := (·.1)) hq
   obtain ⟨z, hz, e⟩ := List.mem_map.mp this
   rw [← e]
   exact hcg L z hz
  have nd : ((cells ++ Mc).map (·.1)).Nodup := by
   rw [List.map_append, ha, hca]
   refine List.nodup_append.mpr ⟨hcn L, hnd, fun x hx y hy e => ?_⟩
   rw [← hca] at hx
   rw [← ha] at hy
   obtain ⟨q, hq, rfl⟩ := List.mem_map.mp hx
   obtain ⟨z, hz, e'⟩ := List.mem_map.mp hy
   have h1 := hcgt q hq
   have h2 := hlt z (List.mem_append_left _ hz)
   rw [e, ← e'] at h1
   exact Nat.lt_irrefl _ (Nat.lt_trans h1 h2)
  refine hb c (fun fl σ => ∃ cM' N', σ.M = cM' ++ N' ∧ cM'.map (·.1) = (cM L).map (·.1) ∧ R (rvA fl) N') rfl (fun _ h => h) (by show dp + 1 + dep < _; omega) (by show un + 3 + uni < _; omega) (fun q h1 h2 h3 => ?_) (fun env => ?_) rfl (fun _ _ cM' N' h1 h2 => ⟨cM', N', rfl, h1, h2⟩) (fun fl s' => OutN h₀ L s Mc JD (PoA R B) (match fl with | .ret v => v | _ => .none) s') (fun fl σ' k h' m' N' Mc' g t Y y => ?_) hh _ [] (cells ++ Mc) tk ⟨F, ?_, fun z hz => N z ?_, ⟨fun q hq => ?_, nd, fun q hq e => ?_, fun _ h => nomatch h⟩, hC.app hM, .nil⟩
  ·refine .inr ⟨fun r hr e => ?_, h3⟩
   rcases List.mem_append.mp hr with hr | hr
   ·exact h2 (by rw [List.map_append, ← ha, ← e]; exact List.mem_append_right _ (List.mem_map_of_mem (f := (·.1)) hr))
   ·exact h1 r hr e
  ·exact (by passes_own : PassesOwn (MD w) _ _ (fun _ _ => False))
  ·obtain ⟨cM', N₂, e1, e2, e3⟩ := k
   have YM := Y.M
   rw [e1] at YM
   obtain ⟨s₁, s₂, rfl, y1, y2⟩ := YM.split
   exact ⟨h', t, m', s₂, N', rfl, Y.F, (fun z hz => Y.W z (by
    simp only [Cx.all, List.mem_append] at hz ⊢
    rcases hz with hz | hz | hz
    ·exact .inl (.inr hz)
    ·exact .inr (.inl hz)
    ·exact .inr (.inr hz))), ⟨_, _, e3, rvA_den y, y2⟩, by rw [y2.adr (B' := B), ha, hR _ _ e3], (fun q hq => Y.S.nt q (List.mem_append_right _ hq)), Y.S.ok⟩
  ·intro x a e
   rw [hbl L]
   exact hz.look x a e
  ·simp only [Cx.all, List.mem_append, List.nil_append] at hz ⊢
   rcases hz with (hz | hz) | hz
   ·exact .inl hz
   ·exact .inr (.inl hz)
   ·exact .inr (.inr hz)
  ·exact (List.mem_append.mp hq).elim (hC.nt q) (hn q)
  ·rw [List.map_append] at e
   rcases List.mem_append.mp e with e | e
   ·obtain ⟨z, hz, e⟩ := List.mem_map.mp e
    have h1 := hcgt z hz
    have h2 := hlt q (List.mem_append_right _ hq)
    rw [e] at h1
    exact Nat.lt_irrefl _ (Nat.lt_trans h1 h2)
   ·exact hoff q hq e) hnc hco hgen hk
end

end
section --AP
section
variable {c : Cx} {own : Led} {s₁ : Shared} {D : List AV} {σ : As} {h : Heap} {m : Str → Option Value} {N Mc : Led} {ds : List Value}
theorem Cs.disown (X : Cs (c.own own s₁) D σ h m N Mc ds) : Cs c D σ h m N Mc ds :=
 ⟨X.F, X.P, fun z hz => X.W z (by
   exact su_at hz (by unfold Cx.all; bits_by_make)), ⟨X.S.nt, X.S.nd, fun z hz => X.S.off z (by
   rcases List.mem_append.mp hz with hz | hz
   ·exact List.mem_append_left _ hz
   ·exact List.mem_append_right _ (List.mem_append_right _ hz)), fun z hz => (X.S.ok z hz).1⟩, X.M, X.D⟩
theorem Cs.under (hok : OwnOk c own) (X : Cs c D σ h m N Mc ds) (W : News c.h₀ c.L h (own ++ c.all Mc N)) (hown : ∀ z ∈ own, ∀ q ∈ Mc ++ N, z.1 ≠ q.1) : Cs (c.own own s₁) D σ h m N Mc ds :=
 ⟨X.F, X.P, fun z hz => W z (by
   exact su_at hz (by unfold Cx.all; bits_by_make)), ⟨X.S.nt, X.S.nd, fun z hz e => by
   obtain ⟨y, hy, e⟩ := List.mem_map.mp e
   rcases List.mem_append.mp hz with hz | hz
   ·exact X.S.off z (List.mem_append_left _ hz) (e ▸ List.mem_map_of_mem (f := (·.1)) hy)
   ·rcases List.mem_append.mp hz with hz | hz
    ·exact hown z hz y (List.mem_append_left _ hy) e.symm
    ·exact X.S.off z (List.mem_append_right _ hz) (e ▸ List.mem_map_of_mem (f := (·.1)) hy), fun z hz => ⟨X.S.ok z hz, .inr fun e => by
   obtain ⟨y, hy, e⟩ := List.mem_map.mp e
   exact hown y hy z (List.mem_append_right _ hz) e⟩⟩, X.M, X.D⟩
theorem Cs.endT {I : Nat → As → Prop} {i : Nat} {t : Nat} (hok : OwnOk c own) (X : Cs (c.own own s₁) D σ h m N Mc ds) (k : EndT (I (i + 1)) σ) : InvEndG c.h₀ c.L (ALJ c I (i + 1)) own s₁ { s₁ with heap := h, toks := t } := by
 obtain ⟨l₃, hsub, hI⟩ := k
 have Y := X.disown
 refine ⟨h, t, m, (c.own own s₁).all Mc N, c.all Mc N, rfl, X.F, X.W, fun p hp => ?_, fun p hp => ?_, fun p hp b hb e => ?_, ⟨l₃, σ.M⟩, N, Mc, hI, (fun x a e => X.P x a (hsub.look x a e)), Y.S, X.M, rfl⟩
 ·exact su_at hp (by unfold Cx.all; bits_by_make)
 ·exact List.mem_append_right _ (List.mem_append_right _ (List.mem_append_left _ hp))
 ·obtain ⟨z, hz, rfl⟩ := List.mem_map.mp hb
  rcases List.mem_append.mp hz with hz | hz
  ·exact X.S.off p (List.mem_append_right _ (List.mem_append_left _ hp)) (by rw [e]; exact List.mem_map_of_mem (f := (·.1)) hz)
  ·rcases List.mem_append.mp hz with hz | hz
   ·rcases (X.S.ok z hz).2 with ⟨us, un, ht⟩ | ht
    ·have := news_one X.W (a := z.1) (o := z.2) (o' := p.2) (List.mem_append_right _ (List.mem_append_left _ hz)) (by rw [← e]; exact List.mem_append_right _ (List.mem_append_right _ (List.mem_append_left _ hp)))
     have h1 := (hok.1 p hp).2.1
     rw [← this, ht] at h1
     exact h1 rfl
    ·exact ht (List.mem_map.mpr ⟨p, hp, e⟩)
   ·exact hok.2 p hp z hz e
end
@[reducible] noncomputable def aTurn (I : Nat → As → Prop) (i : Nat) (K : AF → As → Prop) : AF → As → Prop
 | .next, σ => EndT (I (i + 1)) σ
 | .cont, σ => EndT (I (i + 1)) σ
 | .brk, σ => K .next σ
 | .ret a, σ => K (.ret a) σ
noncomputable def TurnsV (x : Str) (body : List Stmt) (f : Fi) (c : Cx) (I : Nat → As → Prop) (n : Nat) (K : AF → As → Prop) : Prop :=
 ∀ own i σ₁, i < n → OwnOk c own → I i σ₁ → ASts body f (c.own own c.s) ⟨(x, .d (.int i)) :: σ₁.l, σ₁.M⟩ (aTurn I i K)
noncomputable def TurnsVG (x : Str) (body : List Stmt) (f : Fi) (c : Cx) (I : Nat → As → Prop) (n : Nat) (a st : Int) (K : AF → As → Prop) : Prop :=
 ∀ own i σ₁, i < n → OwnOk c own → I i σ₁ → ASts body f (c.own own c.s) ⟨(x, .d (.int (a + i * st))) :: σ₁.l, σ₁.M⟩ (aTurn I i K)
section
variable {f : Fi} {c : Cx} {σ : As} {x : Str} {px rp pos np : Pos} {e : Expr} {body : List Stmt} {n : Nat}
theorem loopVG {K : AF → As → Prop} {I : Nat → As → Prop} {a b st : Int} (hsm : Builtin.Range.small a b st = true) (hsz : Builtin.Range.rangeSize a b st = (n : Int)) (h0 : I 0 σ) (T : TurnsVG x body f c I n a st K) (Dn : ∀ σ₁, I n σ₁ → K .next σ₁) {Q : Flow → Shared → Prop} (q : Pf c K Q) {h : Heap} {m : Str → Option Value} {N Mc : Led} {t : Nat} {r : Addr} {t₀ u₀ v₀ : Tok} (hR : IsRange h r a b st t₀ u₀ v₀) (X : Cs c [] σ h m N Mc []) :
  wpAny (MD c.w) c.A (pyIter (.ref r)) (fun it s₂ => LoopAtV PySem.Challenge.rw_on0248_01.prog c.w c.A c.h₀ (c.env f) x body Q c.E it s₂) c.E (st0 c h t) := by
 refine iter_range (ALJ c I) rfl hR hsm hsz X.F X.W ⟨σ, N, Mc, h0, X.P, X.S, X.M, rfl⟩ ?_ ?_
 ·rintro i t m₁ _ h₁ tk₁ own hi hcl hown ⟨σ₁, N₁, Mc₁, hI, hP, hS, hM, rfl⟩ F₁ W₁
  have hok : OwnOk c own := ⟨fun q hq => ⟨.inr (by rw [hcl q hq]; exact ⟨by simp, by simp⟩), by rw [hcl q hq]; simp, by rw [hcl q hq]; simp⟩, fun q hq r hr => hown q hq r.1 (List.mem_map_of_mem (f := (·.1)) (List.mem_append_right _ (List.mem_append_right _ hr)))⟩
  have Y₀ : Cs c [] ⟨(x, .d (.int (a + i * st))) :: σ₁.l, σ₁.M⟩ h₁ (fun y => if y = x then some (.int (a + i * st) t) else m₁ y) N₁ Mc₁ [] := by
   refine ⟨F₁, fun y a' e => ?_, fun z hz => W₁ z (List.mem_append_left _ hz), hS, hM, .nil⟩
   show ∃ v', (if y = x then some _ else m₁ y) = some v' ∧ _
   have e : List.lookup y ((x, AV.d (.int (a + i * st))) :: σ₁.l) = some a' := e
   rw [List.lookup_cons] at e
   cases hb : y == x with
   | true =>
    rw [hb] at e
    cases e
    exact ⟨_, if_pos (beq_iff_eq.mp hb), .int _ _⟩
   | false =>
    rw [hb] at e
    obtain ⟨v', e', w⟩ := hP y a' e
    exact ⟨v', (if_neg (beq_eq_false_iff_ne.mp hb)).trans e', w⟩
  have Y : Cs (c.own own c.s) [] ⟨(x, .d (.int (a + i * st))) :: σ₁.l, σ₁.M⟩ h₁ (fun y => if y = x then some (.int (a + i * st) t) else m₁ y) N₁ Mc₁ [] :=
   Cs.under hok Y₀ (fun z hz => W₁ z (by
    rcases List.mem_append.mp hz with hz | hz
    ·exact List.mem_append_right _ hz
    ·exact List.mem_append_left _ hz)) fun z hz q hq => hown z hz q.1 (by
    have hq' : q ∈ c.all Mc₁ N₁ := by
     rcases List.mem_append.mp hq with hq | hq
     ·exact List.mem_append_left _ hq
     ·exact List.mem_append_right _ (List.mem_append_left _ hq)
    exact List.mem_map_of_mem (f := (·.1)) hq')
  refine T own i σ₁ hi hok hI (InvPostG c.h₀ c.L (ALJ c I (i + 1)) own { c.s with heap := h₁, toks := tk₁ } Q) (fun fl σ₃ k h₃ m₃ N₃ Mc₃ g t₃ Y₃ y₃ => ?_) h₁ _ N₁ Mc₁ tk₁ Y
  cases fl with
  | next =>
   obtain rfl : g = .next := y₃
   exact Cs.endT (s₁ := c.s) hok Y₃ k
  | cont =>
   obtain rfl : g = .cont := y₃
   exact Cs.endT (s₁ := c.s) hok Y₃ k
  | brk =>
   obtain rfl : g = .brk := y₃
   exact q _ _ k h₃ m₃ N₃ Mc₃ .next t₃ Y₃.disown rfl
  | ret a =>
   obtain ⟨v, rfl, hv⟩ := y₃
   exact q _ _ k h₃ m₃ N₃ Mc₃ _ t₃ Y₃.disown ⟨v, rfl, hv⟩
 ·rintro m₁ _ h₁ tk ⟨σ₁, N₁, Mc₁, hI, hP, hS, hM, rfl⟩ F₁ W₁
  exact q _ _ (Dn σ₁ hI) h₁ m₁ N₁ Mc₁ _ tk ⟨F₁, hP, W₁, hS, hM, .nil⟩ rfl
theorem loopV {K : AF → As → Prop} {I : Nat → As → Prop} (hn : n < 64) (h0 : I 0 σ) (T : TurnsV x body f c I n K) (Dn : ∀ σ₁, I n σ₁ → K .next σ₁) {Q : Flow → Shared → Prop} (q : Pf c K Q) {h : Heap} {m : Str → Option Value} {N Mc : Led} {t : Nat} {r : Addr} {t₀ u₀ v₀ : Tok} (hR : IsRange h r 0 n 1 t₀ u₀ v₀) (X : Cs c [] σ h m N Mc []) :
  wpAny (MD c.w) c.A (pyIter (.ref r)) (fun it s₂ => LoopAtV PySem.Challenge.rw_on0248_01.prog c.w c.A c.h₀ (c.env f) x body Q c.E it s₂) c.E (st0 c h t) :=
 loopVG (range_facts n hn).1 (range_facts n hn).2 h0 (fun own i σ₁ hi ho hI => by rw [Int.mul_one, Int.zero_add]; exact T own i σ₁ hi ho hI) Dn q hR X
theorem ASt.forV {K : AF → As → Prop} (hE : PassesOwn (MD c.w) c.A (c.env f) c.E) (hl : f.is x .local = true) (hb : f.is (Str.ofString "range") .globalImplicit = true) (hg : ∀ w : World, nsIn (heapK w.params) mainGlobals (Str.ofString "range") = some none)
  (he : ∀ env, eval (.Call (.Name (Str.ofString "range") np) [e] [] rp) env = (do callWith rp (← eval (.Name (Str.ofString "range") np) env) [] (backTo rp (starEach [e] env)) (backToKw rp (keywordEach [] env)))) (hx : Xs [e] = true)
  (H : AEv e f c [] σ (fun a σ₁ => ∃ (n : Nat) (I : Nat → As → Prop), a = .d (.int n) ∧ n < 64 ∧ I 0 σ₁ ∧ TurnsV x body f c I n K ∧ ∀ σ₂, I n σ₂ → K .next σ₂)) :
  ASt (.For (.Name x px) (.Call (.Name (Str.ofString "range") np) [e] [] rp) body [] pos) f c σ K := fun Q q h m N Mc t X => by
 refine For_invVF X.F (Fi.is2 hl c) (by show (f.cs.kind == .class || (f.cs.kind == .module && _)) = false; rw [Fi.is1 hl]; rfl) (Call_ (nmB X.F (hg c.w) (v := .type "range") boot_range (by decide +kernel) hb ?_) (he _)) (fun _ => rfl) hE
 refine Pv.callWith_type1 ?_ (Xs.star hx _) (Xs.plain (Xs.tl hx) _ _)
 refine args_cons (H (fun _ v s₁ => wpAny _ _ (spliced (backTo rp (starEach [] (c.env f)))) (fun vs s₂ => wpAny _ _ (call (.type "range") (v :: vs)) (fun xv s₁ => wpAny _ _ (pyIter xv) (fun it s₂ => LoopAtV PySem.Challenge.rw_on0248_01.prog c.w c.A c.h₀ (c.env f) x body Q c.E it s₂) c.E s₁) c.E s₂) c.E s₁) (fun a σ₁ k h m N Mc ds v t X y => ?_) h m N Mc [] t X) (Xs.star hx _)
 obtain rfl := X.nil
 obtain ⟨n, I, rfl, hn, h0, T, Dn⟩ := k
 obtain ⟨u, rfl⟩ := den_int y
 refine args_nil (range1_rows X.F X.W fun h' tk t₁ u₁ v₁ hR F' W' _ => ?_)
 exact loopV hn h0 T Dn q hR ⟨F', X.P, W', X.S, X.M, .nil⟩
theorem ASt.forV3 {K : AF → As → Prop} {e1 e2 e3 : Expr} (hE : PassesOwn (MD c.w) c.A (c.env f) c.E) (hl : f.is x .local = true) (hb : f.is (Str.ofString "range") .globalImplicit = true) (hg : ∀ w : World, nsIn (heapK w.params) mainGlobals (Str.ofString "range") = some none)
  (he : ∀ env, eval (.Call (.Name (Str.ofString "range") np) [e1, e2, e3] [] rp) env = (do callWith rp (← eval (.Name (Str.ofString "range") np) env) [] (backTo rp (starEach [e1, e2, e3] env)) (backToKw rp (keywordEach [] env)))) (hx : Xs [e1, e2, e3] = true)
  (H : AEvs [e1, e2, e3] f c [] σ (fun as σ₁ => ∃ (a b st : Int) (n : Nat) (I : Nat → As → Prop), as = [.d (.int a), .d (.int b), .d (.int st)] ∧ (st ≠ 0 ∧ Builtin.divisionGoesByPylong (b - a) st = false) ∧ (Builtin.Range.small a b st = true ∧ Builtin.Range.rangeSize a b st = (n : Int)) ∧ I 0 σ₁ ∧ TurnsVG x body f c I n a st K ∧ ∀ σ₂, I n σ₂ → K .next σ₂)) :
  ASt (.For (.Name x px) (.Call (.Name (Str.ofString "range") np) [e1, e2, e3] [] rp) body [] pos) f c σ K := fun Q q h m N Mc t X => by
 refine For_invVF X.F (Fi.is2 hl c) (by show (f.cs.kind == .class || (f.cs.kind == .module && _)) = false; rw [Fi.is1 hl]; rfl) (Call_ (nmB X.F (hg c.w) (v := .type "range") boot_range (by decide +kernel) hb ?_) (he _)) (fun _ => rfl) hE
 refine Pv.callWith_type1 ?_ (Xs.star hx _) (Xs.plain (Xs.tl hx) _ _)
 refine H rp (fun _ vs s₁ => wpAny _ _ (call (.type "range") vs) (fun xv s₁ => wpAny _ _ (pyIter xv) (fun it s₂ => LoopAtV PySem.Challenge.rw_on0248_01.prog c.w c.A c.h₀ (c.env f) x body Q c.E it s₂) c.E s₁) c.E s₁) (fun as σ₁ k h m N Mc ds vs t X y => ?_) h m N Mc [] t X
 obtain rfl := X.nil
 obtain ⟨a, b, st, n, I, rfl, hst, hsm, h0, T, Dn⟩ := k
 obtain ⟨_, _, _, rfl, y1, y2, y3⟩ := y.three
 obtain ⟨u1, rfl⟩ := den_int y1
 obtain ⟨u2, rfl⟩ := den_int y2
 obtain ⟨u3, rfl⟩ := den_int y3
 refine range3_rows X.F X.W hst.1 (fun h' tk t₁ u₁ v₁ hR F' W' _ => ?_) (.inl hst.2)
 exact loopVG hsm.1 hsm.2 h0 T Dn q hR ⟨F', X.P, W', X.S, X.M, .nil⟩
end

end
section --AQ
noncomputable def Rsd (c : Cx) (R : Obj → List (Addr × AO) → Prop) : Prop :=
 ∃ (envc : Env) (outer : List Env) (frs JD : Led), c.fr = some (envc :: outer) ∧ envc.frame = some c.L ∧ envc.scope.kind ≠ .module ∧ Frs outer frs ∧ c.J = JD ++ frs ∧ (∀ q ∈ c.B, q ∈ JD) ∧ (∀ q ∈ JD, Safe frs q) ∧ (∀ q, c.ok q → Tup q) ∧
  ∀ e dE oE h' tk' m' σM M' N frs', R oE σM → MAll (N ++ c.B) σM M' → (∀ q ∈ M', NoTup q) → Tups N → Exc c.h₀ h' e dE → SameUp frs frs' → Fr c.h₀ c.L h' m' → News c.h₀ c.L h' ((dE, oE) :: (M' ++ (N ++ (JD ++ frs')))) → Safe frs' (dE, oE) → c.E (.ref e) { c.s with heap := h', toks := tk' }
theorem Rsd.own {c : Cx} {R : Obj → List (Addr × AO) → Prop} {own : Led} (H : Rsd c R) (hok : OwnOk c own) : Rsd (c.own own c.s) R := by
 obtain ⟨envc, outer, frs, JD, h1, h2, h3, h4, h5, h6, h7, h8, h9⟩ := H
 refine ⟨envc, outer, frs, own ++ JD, h1, h2, h3, h4, ?_, fun q hq => List.mem_append_right _ (h6 q hq), fun q hq => ?_, fun q hq => h8 q hq.1, fun e dE oE h' tk' m' σM M' N frs' a1 a2 a3 a4 a5 a6 a7 a8 a9 => h9 e dE oE h' tk' m' σM M' N frs' a1 a2 a3 a4 a5 a6 a7 (fun z hz => a8 z ?_) a9⟩
 ·show own ++ c.J = (own ++ JD) ++ frs
  rw [h5, List.append_assoc]
 ·rcases List.mem_append.mp hq with hq | hq
  ·exact ⟨(hok.1 q hq).1, fun r hr => hok.2 q hq r (by rw [h5]; exact List.mem_append_right _ hr)⟩
  ·exact h7 q hq
 ·exact su_at hz (by bits_by_make)
noncomputable def PoX (RX : Obj → List (Addr × AO) → Prop) (B : Led) (oE : Obj) (M' add : Led) : Prop := ∃ N', RX oE N' ∧ MAll (add ++ B) N' M'
section
variable {f : Fi} {c : Cx} {l : List (Str × AV)} {M M₀ M₁ : List (Addr × AO)} {D : List AV} {σ : As} {as : List AV} {K : AV → As → Prop} {fa : Addr} {dep uni : Nat}
theorem ACal.Xr {Rc : Obj → List (Addr × AO) → Prop} {R : AV → List (Addr × AO) → Prop} {RX : Obj → List (Addr × AO) → Prop} (hr : Rsd c Rc) (ct : ∀ B vs Mc, (∀ q ∈ c.B, q ∈ B) → DAll B as vs → MAll B M₀ Mc → FnXM c.w fa vs dep uni Mc B (PoA R B) (PoX RX B)) (hd : c.dp + dep < recursionLimit) (hu : c.un + uni < cLine)
  (HX : ∀ oE N', RX oE N' → Rc oE (N' ++ M₁)) (H : ∀ r N', R r N' → K r ⟨l, N' ++ M₁⟩) : ACal (.ref fa) as c D ⟨l, M₀ ++ M₁⟩ K := fun Q q h m N Mc ds vs t X y => by
 obtain ⟨envc, outer, frs, JD, h1, h2, h3, h4, h5, h6, h7, h8, h9⟩ := hr
 obtain ⟨Mc₀, Mc₁, rfl, hM0, hM1⟩ := X.M.split
 have hNt : Tups N := fun z hz => h8 z (X.S.ok z hz)
 have hJm : ∀ z, z ∈ c.J ↔ (z ∈ JD ∨ z ∈ frs) := fun z => by rw [h5, List.mem_append]
 have sub : ∀ z ∈ (N ++ c.B) ++ ((Mc₁ ++ JD) ++ frs), z ∈ Mc₁ ++ (N ++ c.J) := fun z hz => by
  simp only [List.mem_append, hJm] at hz ⊢
  rcases hz with (hz | hz) | (hz | hz) | hz
  ·exact .inr (.inl hz)
  ·exact .inr (.inr (.inl (h6 z hz)))
  ·exact .inl hz
  ·exact .inr (.inr (.inl hz))
  ·exact .inr (.inr (.inr hz))
 have back : ∀ z ∈ Mc₁ ++ (N ++ c.J), z ∈ (N ++ c.B) ++ ((Mc₁ ++ JD) ++ frs) := fun z hz => by
  simp only [List.mem_append, hJm] at hz ⊢
  rcases hz with hz | hz | hz | hz <;> simp [hz]
 have N1 : News c.h₀ c.L h (Mc₀ ++ ((N ++ c.B) ++ ((Mc₁ ++ JD) ++ frs))) := fun z hz => X.W z (by
  show z ∈ (Mc₀ ++ Mc₁) ++ (N ++ c.J)
  rw [List.append_assoc]
  rcases List.mem_append.mp hz with hz | hz
  ·exact List.mem_append_left _ hz
  ·exact List.mem_append_right _ (sub z hz))
 have hfrsJ : ∀ z ∈ frs, z ∈ c.J := fun z hz => (hJm z).mpr (.inr hz)
 have hMf : Off (Mc₀ ++ Mc₁) frs := fun z hz => X.S.off z (List.mem_append_right _ (hfrsJ z hz))
 have hSN : ∀ z ∈ N, Safe frs z := safe_tups N1 hNt h4 (fun z hz => List.mem_append_right _ (List.mem_append_left _ (List.mem_append_left _ hz))) fun z hz => List.mem_append_right _ (List.mem_append_right _ (List.mem_append_right _ hz))
 have hSM : ∀ z ∈ Mc₀ ++ Mc₁, Safe frs z := safe_muts X.S.nt rfl hMf
 have hSa : ∀ z ∈ (N ++ c.B) ++ (Mc₁ ++ JD), Safe frs z := fun z hz => by
  rcases List.mem_append.mp hz with hz | hz
  ·exact (List.mem_append.mp hz).elim (hSN z) fun hz => h7 z (h6 z hz)
  ·exact (List.mem_append.mp hz).elim (fun hz => hSM z (List.mem_append_right _ hz)) (h7 z)
 have hs' : ∀ {add : Led}, ∀ z ∈ N ++ c.B, z ∈ (add ++ N) ++ c.B := fun z hz => by rw [List.append_assoc]; exact List.mem_append_right _ hz
 have F0 := X.F
 have key := FnXM.use (p := c.p) (loose := c.loose) (mean := c.mean) (mg := c.mg) (mb := c.mb) (envc := envc) (outer := outer) (gd := c.gd) (dp := c.dp) (un := c.un) (s := st0 c h t) (Q := Q ds) (E := c.E) (ct (N ++ c.B) vs Mc₀ (fun _ => List.mem_append_right _) y hM0) (Dn := Mc₁ ++ JD) (frs := frs) F0 c.X c.T N1 (fun z hz => X.S.nt z (List.mem_append_left _ hz)) (fun z hz => X.S.sub z (sub z hz)) hSa h4 h2 h3 hd hu ?_ ?_
 ·show wpAny (MD c.w) (At c.fr c.gd c.dp c.un) _ _ _ _
  rw [h1]
  exact key
 ·intro rv h' tk' M' add hp ht hn e off _ F' N''
  obtain ⟨r, N', hR, hr, hM'⟩ := hp
  rw [← List.append_assoc] at hr hM'
  refine q _ _ (H r N' hR) h' m (add ++ N) (M' ++ Mc₁) ds rv tk' ⟨F', fun x a e => ?_, fun z hz => N'' z ?_, ⟨?_, ?_, fun z hz => ?_, fun z hz => (List.mem_append.mp hz).elim (fun hz => c.okT z (ht z hz)) (X.S.ok z)⟩, hM'.app (hM1.mono hs'), X.D.mono hs'⟩ hr
  ·obtain ⟨v, e, y⟩ := X.P x a e
   exact ⟨v, e, y.mono hs'⟩
  ·have hz' : z ∈ M' ∨ z ∈ add ∨ z ∈ Mc₁ ++ (N ++ c.J) := by
    simp only [Cx.all, List.mem_append] at hz ⊢
    rcases hz with (hz | hz) | (hz | hz) | hz <;> simp [hz]
   rcases hz' with hz | hz | hz
   ·exact List.mem_append_left _ hz
   ·exact List.mem_append_right _ (List.mem_append_left _ hz)
   ·exact List.mem_append_right _ (List.mem_append_right _ (back z hz))
  ·exact fun z hz => (List.mem_append.mp hz).elim (hn z) fun hz => X.S.nt z (List.mem_append_right _ hz)
  ·show ((M' ++ Mc₁).map (·.1)).Nodup
   rw [List.map_append, e, ← List.map_append]
   exact X.S.nd
  ·show z.1 ∉ (M' ++ Mc₁).map (·.1)
   rw [List.map_append, e, ← List.map_append, List.map_append]
   intro e'
   rw [List.append_assoc] at hz
   rcases List.mem_append.mp hz with hz | hz
   ·have := news_tupOff (M := M' ++ Mc₁) N'' (fun y hy => (List.mem_append.mp hy).elim (fun hy => ⟨List.mem_append_left _ hy, hn y hy⟩) fun hy => ⟨List.mem_append_right _ (List.mem_append_right _ (back y (List.mem_append_left _ hy))), X.S.nt y (List.mem_append_right _ hy)⟩) (List.mem_append_right _ (List.mem_append_left _ hz)) (ht z hz)
    rw [List.map_append, e] at this
    exact this e'
   ·rw [← List.map_append] at e'
    exact X.S.off z hz e'
 ·intro e dE oE h' tk' M' add frs' hp ht hn e' hx hu' F' N'' hsf
  obtain ⟨N', hR, hM'⟩ := hp
  rw [← List.append_assoc] at hM'
  refine h9 e dE oE h' tk' m (N' ++ M₁) (M' ++ Mc₁) (add ++ N) frs' (HX oE N' hR) (hM'.app (hM1.mono hs')) (fun z hz => (List.mem_append.mp hz).elim (hn z) fun hz => X.S.nt z (List.mem_append_right _ hz)) (fun z hz => (List.mem_append.mp hz).elim (ht z) (hNt z)) hx hu' F' (fun z hz => N'' z ?_) hsf
  exact su_at hz (by bits_by_make)
end
section
variable {w : World} {f : Addr} {vs : List Value} {dep uni : Nat} {M₀ : List (Addr × AO)} {Mc B : Led} {name qual : Str} {params : Arguments} {body : List Stmt} {scope : Scope} {dV kV doc pm cdv ct oc : Value} {an od : Option Addr} {osl : Array (Option Value)} {lA : List (Str × AV)} {binds : List (Str × Value)}
theorem FnXM.ofA {R : AV → List (Addr × AO) → Prop} {RX : Obj → List (Addr × AO) → Prop} (hM : MAll B M₀ Mc) (hnd : (M₀.map (·.1)).Nodup) (hR : ∀ r N', R r N' → N'.map (·.1) = M₀.map (·.1)) (hRX : ∀ r N', RX r N' → N'.map (·.1) = M₀.map (·.1)) (hz : Zp B lA binds)
  (ho : (heapK w.params).lookup f = some ⟨oc, od, .func (fnOf name qual params body scope dV kV doc pm an cdv ct), osl⟩) (hcd : codeIn (heapK w.params) cdv qual = true)
  (hbind : ∀ s : Shared, (heapK w.params).In s.heap → BindsTo s (fnOf name qual params body scope dV kV doc pm an cdv ct) ⟨vs, []⟩ binds) (hloc : (binds.all fun x => decide (scope.names.lookup x.1 = some .local)) = true)
  (hdep : 0 < dep)
  (hb : ∀ (c : Cx) (K : AF → As → Prop), c.w = w → (∀ q ∈ B, q ∈ c.B) → c.dp + dep < recursionLimit + 1 → c.un + uni < cLine + 3 → PassesOwn (MD c.w) c.A (c.env ⟨qual, scope, f, cdv, none⟩) c.E → Rsd c RX → (∀ fl σ, R (rvA fl) σ.M → K fl σ) → ASts body ⟨qual, scope, f, cdv, none⟩ c ⟨lA, M₀⟩ K)
  (hco : scope.isCoroutine = false) (hgen : scope.isGenerator = false) (hk : scope.kind = .function)
  (hcell : ∀ x ∈ scope.names, x.2 ≠ .cell) (hbn : ndk binds = true := by rfl) : FnXM w f vs dep uni Mc B (PoA R B) (PoX RX B) :=
 FnXM.of binds ho hcd hbind hloc hdep (fun p loose mean mg mb fl gd dp un h₀ L hh tk s Dn frs E X T F N hn off hS Fs hd hu hE hX => by
  let c : Cx := mkC (some (envOf qual scope L f cdv :: fl)) gd (dp + 1) (un + 3) L [] s E (B ++ (Dn ++ frs)) B (fun _ h => List.mem_append_left _ h) Tup (fun _ h => h) X T
  have nd : (Mc.map (·.1)).Nodup := by rw [hM.adr (B' := B)]; exact hnd
  refine hb c _ rfl (fun _ h => h) (by show dp + 1 + dep < _; omega) (by show un + 3 + uni < _; omega) hE ⟨envOf qual scope L f cdv, fl, frs, B ++ Dn, rfl, rfl, (by show scope.kind ≠ _; rw [hk]; decide), Fs, (List.append_assoc ..).symm, (fun _ h => List.mem_append_left _ h), hS, (fun _ h => h), fun e dE oE h' tk' m' σM M' N' frs' a1 a2 a3 a4 a5 a6 a7 a8 a9 => hX e dE oE h' tk' m' M' N' frs' ⟨σM, a1, a2⟩ a4 a3 (by rw [a2.adr (B' := B), hM.adr (B' := B), hRX _ _ a1]) a5 a6 a7 (fun z hz => a8 z (by rw [List.append_assoc]; exact hz)) a9⟩ (fun _ _ h => h) (fun fl s' => OutM h₀ L s Mc (B ++ (Dn ++ frs)) (PoA R B) (match fl with | .ret v => v | _ => .none) s') (fun fl σ' k h' m' N' Mc' g t Y y => ?_) hh _ [] Mc tk ⟨(lkl_rev (ndk_nodup hbn) ▸ F), ?_, N, ⟨hM.nt, nd, off, fun _ h => nomatch h⟩, hM, .nil⟩
  ·exact ⟨h', t, m', Mc', N', rfl, Y.F, Y.W, ⟨_, _, k, rvA_den y, Y.M⟩, Y.S.ok, Y.S.nt, by rw [Y.M.adr (B' := B), hM.adr (B' := B), hR _ _ k]⟩
  ·exact hz.look) hco hgen hk hcell
end

end
theorem rst36 {M : Model} {A : Around} {env : Env} {Q : Flow → Shared → Prop} {E : Value → Shared → Prop} {s : Shared} (h : Q .next s) : wpAny M A (execs [] env) Q E s := by
 walk1
 exact h
section --LB1
inductive SrcO : Obj → Prop
 | mk {x y : Int} {t u : Tok} {n : Nat} : 0 ≤ x → 0 ≤ y → y < 2147483647 → SrcO (W.listOf #[.int x t, .int y u] n)
theorem SrcO.no {a : Addr} {o : Obj} (h : SrcO o) : NoTup (a, o) := by
 obtain ⟨-, -, -⟩ := h
 simp [NoTup, NF]
theorem fmod_rng {x k : Int} (hk : 0 < k) : 0 ≤ x.fmod k ∧ x.fmod k < k := by
 rw [Int.fmod_eq_emod_of_nonneg _ (Int.le_of_lt hk)]
 exact ⟨Int.emod_nonneg _ (Int.ne_of_gt hk), Int.emod_lt_of_pos _ hk⟩
noncomputable def TakeP (a : Addr) (k : Int) (r : Value) (M' add : Led) : Prop := (∃ i t, r = .int i t ∧ 0 ≤ i ∧ i < k) ∧ (∃ o', SrcO o' ∧ M' = [(a, o')]) ∧ add = []
theorem OutN.take {h₀ : Heap} {L a : Addr} {s₀ : Shared} {o o' : Obj} {JD : Led} {k i : Int} {t : Tok} {h' : Heap} {tk : Nat} {m'} (F : Fr h₀ L h' m') (N : News h₀ L h' ((a, o') :: JD)) (hs : SrcO o') (h0 : 0 ≤ i) (h1 : i < k) :
  OutN h₀ L s₀ [(a, o)] JD (TakeP a k) (.int i t) { s₀ with heap := h', toks := tk } :=
 ⟨h', tk, m', [(a, o')], [], rfl, F, N, ⟨⟨i, t, rfl, h0, h1⟩, ⟨o', hs, rfl⟩, rfl⟩, rfl, noTup1 hs.no, fun _ h => nomatch h⟩
theorem src_bits {x z : Int} : Builtin.Int.intBits ([x, z.fmod 2147483647].getD (Int.toNat 1) 0) ≤ 64 := by
 have h : [x, z.fmod 2147483647].getD (Int.toNat 1) 0 = z.fmod 2147483647 := rfl
 rw [h]
 have := fmod_rng (x := z) (k := 2147483647) (by decide)
 exact intBits_le_64 (by omega) (by omega)
local macro_rules | `(tactic| walk_at "binaryOp Mult int int") => `(tactic| refine mul_int ?_ (IntMulOk.of_left src_bits))
theorem take_fn (w : World) {a : Addr} {o : Obj} {k : Int} {tk : Tok} (hs : SrcO o) (hk : 0 < k) (hk2 : k ≤ 64) :
  FnN w 452 [.ref a, .int k tk] 1 16 [(a, o)] [] (TakeP a k) := by
 obtain ⟨hx, hy, hy2⟩ := hs
 rename_i x y t u n
 tbr_iter (FnN.of [(Str.ofString "source", .ref a), (Str.ofString "top", .int k tk)])
 intro p loose mean mg mb fr gd dp un h₀ L h tk s JD X T F N hJ hn hoff hd hu
 replace N : News h₀ L h ((a, W.listOf #[.int x t, .int y u] n) :: JD) := N
 replace hoff := off1' hoff
 k_steps
 ·refine OutN.take (by assumption) (by assumption) (.mk (Int.fdiv_nonneg (by simpa using hx) (by omega)) hy hy2) (fmod_rng hk).1 (fmod_rng hk).2
 ·refine OutN.take (by assumption) (by assumption) ?_ (fmod_rng hk).1 (fmod_rng hk).2
  exact .mk hx (fmod_rng (by decide)).1 (fmod_rng (by decide)).2

end
section --LB2
variable {p : Program} {loose : List Str} {mean : ExcName → Option Value} {mg mb : Str → Option Value}
variable {gd : Option (List Code)} {dp un : Nat} {h₀ : Heap} {L : Addr} {m : Str → Option Value} {s : Shared} {Q E : Value → Shared → Prop}
theorem take_use {w : World} {a : Addr} {o : Obj} {k : Int} {t : Tok} {fr : Option (List Env)} {JD : Led}
  (hF : Fr h₀ L s.heap m) (hX : (heapK w.params).In h₀) (hT : Top p loose mean mg mb h₀) (hN : News h₀ L s.heap ((a, o) :: JD)) (hs : SrcO o) (hk : 0 < k) (hk2 : k ≤ 64) (hJ : ∀ q ∈ JD, q.1 ≠ a) (hd : dp + 1 < recursionLimit) (hu : un + 16 < cLine)
  (ret : ∀ i u o' h' tk', 0 ≤ i → i < k → SrcO o' → Fr h₀ L h' m → News h₀ L h' ((a, o') :: JD) → Q (.int i u) { s with heap := h', toks := tk' }) : wpAny (MD w) (At fr gd dp un) (call (.ref 452) [.ref a, .int k t]) Q E s := by
 refine FnN.use (take_fn w hs hk hk2) (JD := JD) hF hX hT hN (fun _ h => nomatch h) (noTup1 hs.no) (off1 hJ) hd hu ?_
 rintro _ h' tk' _ _ ⟨⟨i, u, rfl, h0, h1⟩, ⟨o', hs', rfl⟩, rfl⟩ - - - F' N'
 exact ret i u o' h' tk' h0 h1 hs' F' N'
noncomputable def OneP (a : Addr) (vs : List Value) (r : Value) (M' add : Led) : Prop := r ∈ vs ∧ (∃ o', SrcO o' ∧ M' = [(a, o')]) ∧ add = []
theorem one_fn (w : World) {a Th : Addr} {o : Obj} {vs : List Value} {n : Nat} (hs : SrcO o) (h0 : vs ≠ []) (hl : vs.length ≤ 64) :
  FnN w 459 [.ref a, .ref Th] 3 32 [(a, o)] [(Th, W.listOf vs.toArray n)] (OneP a vs) := by
 tbr_iter (FnN.of [(Str.ofString "source", .ref a), (Str.ofString "things", .ref Th)])
 intro p loose mean mg mb fr gd dp un h₀ L h tk s JD X T F N hJ hn hoff hd hu
 replace N : News h₀ L h ((a, o) :: JD) := N
 replace hoff := off1' hoff
 have hTh := hJ _ (.head _)
 have hpos : 0 < vs.length := List.length_pos_iff.mpr h0
 k_steps
 refine len_list (items := vs.toArray) ⟨_, (N _ (.tail _ hTh)).1, rfl, n, rfl⟩ (by simp; omega) ?_
 k_steps
 refine take_use F X T N hs (by simp; omega) (by simp; omega) hoff (by omega) (by omega) ?_
 intro i u o' h' tk' hi0 hi1 hs' F' N'
 have hi2 : i.toNat < vs.length := by simp at hi1; omega
 refine item_list (items := vs.toArray) (x := vs[i.toNat]) ⟨_, (N' _ (.tail _ hTh)).1, rfl, n, rfl⟩ hi0 (by simp at hi1; omega) (by simp [hi2]) ?_
 exact ⟨_, _, _, [(a, o')], [], rfl, F', N', ⟨List.getElem_mem hi2, ⟨o', hs', rfl⟩, rfl⟩, rfl, noTup1 hs'.no, fun _ h => nomatch h⟩
theorem one_use {w : World} {a Th : Addr} {o : Obj} {vs : List Value} {n : Nat} {fr : Option (List Env)} {JD : Led}
  (hF : Fr h₀ L s.heap m) (hX : (heapK w.params).In h₀) (hT : Top p loose mean mg mb h₀) (hN : News h₀ L s.heap ((a, o) :: JD)) (hs : SrcO o) (hth : (Th, W.listOf vs.toArray n) ∈ JD) (hJ : ∀ q ∈ JD, q.1 ≠ a) (h0 : vs ≠ []) (hl : vs.length ≤ 64) (hd : dp + 3 < recursionLimit) (hu : un + 32 < cLine)
  (ret : ∀ r o' h' tk', r ∈ vs → SrcO o' → Fr h₀ L h' m → News h₀ L h' ((a, o') :: JD) → Q r { s with heap := h', toks := tk' }) : wpAny (MD w) (At fr gd dp un) (call (.ref 459) [.ref a, .ref Th]) Q E s := by
 refine FnN.use (one_fn w hs h0 hl) (JD := JD) hF hX hT hN (fun q hq => by rw [List.mem_singleton.mp hq]; exact hth) (noTup1 hs.no) (off1 hJ) hd hu ?_
 rintro r h' tk' _ _ ⟨hr, ⟨o', hs', rfl⟩, rfl⟩ - - - F' N'
 exact ret r o' h' tk' hr hs' F' N'

end
section --R6
theorem safe_list {F : Addr} {vs : Array Value} {n : Nat} {B frs : Led} (h : ∀ q ∈ B ++ frs, q.1 ≠ F) : Safe frs (F, W.listOf vs n) := ⟨.inr ⟨by simp, by simp⟩, fun r hr e => h r (List.mem_append_right _ hr) e.symm⟩
noncomputable def Stop (P : Prop) : Prop := P
theorem Stop.mk {P : Prop} (h : Stop P) : P := h
noncomputable abbrev Cmd := Nat × List Int
noncomputable def cmdD (c : Cmd) : Dat := .tuple [.str (S [c.1]), .tuple (c.2.map fr)]
inductive StR (cs : List Nat) : Nat → List Cmd → Option Nat → Nat → List Cmd × Option Nat → Prop
 | over {n found i} : cs.length ≤ skipB cs i → StR cs n found none i (found, none)
 | nocmd {n found i} (h : skipB cs i < cs.length) : isL cs[skipB cs i] = false → StR cs n found none i (found, some (skipB cs i))
 | nomove {n i} (h : skipB cs i < cs.length) : isL cs[skipB cs i] = true → cs[skipB cs i] ∉ [77, 109] → StR cs n [] none i ([], some (skipB cs i))
 | close {n found i c r} (h : skipB cs i < cs.length) : cs[skipB cs i] = c → c ∈ [90, 122] → found ≠ [] → StR cs n (found ++ [(c, [])]) none (skipB cs i + 1) r → StR cs (n + 1) found none i r
 | grpBad {n found i c p} (h : skipB cs i < cs.length) : cs[skipB cs i] = c → c ∈ reads → (found ≠ [] ∨ c ∈ [77, 109]) → GrpR cs (decide (c ∈ [65, 97])) (manyN c) 0 (skipB cs (skipB cs i + 1)) (.bad p) → StR cs n found none i (found, some p)
 | grpOk {n found i c xs j r} (h : skipB cs i < cs.length) : cs[skipB cs i] = c → c ∈ reads → (found ≠ [] ∨ c ∈ [77, 109]) → GrpR cs (decide (c ∈ [65, 97])) (manyN c) 0 (skipB cs (skipB cs i + 1)) (.ok xs j) → StR cs n (found ++ [(c, xs)]) (some (behind c)) j r → StR cs (n + 1) found none i r
 | stop {n found l j r} : looksN cs (sepEnd cs j) = false → sepIs cs j = false → StR cs n found none (sepEnd cs j) r → StR cs (n + 1) found (some l) j r
 | comma {n found l j} : looksN cs (sepEnd cs j) = false → sepIs cs j = true → StR cs n found (some l) j (found, some (sepEnd cs j))
 | moreBad {n found l j p} : looksN cs (sepEnd cs j) = true → l ∈ reads → GrpR cs (decide (l ∈ [65, 97])) (manyN l) 0 (sepEnd cs j) (.bad p) → StR cs n found (some l) j (found, some p)
 | moreOk {n found l j xs j' r} : looksN cs (sepEnd cs j) = true → l ∈ reads → GrpR cs (decide (l ∈ [65, 97])) (manyN l) 0 (sepEnd cs j) (.ok xs j') → StR cs n (found ++ [(l, xs)]) (some l) j' r → StR cs (n + 1) found (some l) j r
theorem isL_reads {c : Nat} (h : c ∈ reads) : isL c = true := (by decide +kernel : ∀ c ∈ reads, isL c = true) c h
theorem isL_close {c : Nat} (h : c ∈ [90, 122]) : isL c = true := (by decide +kernel : ∀ c ∈ [90, 122], isL c = true) c h
theorem StR.end_ {cs : List Nat} {n : Nat} {cmds : List Cmd} {i : Nat} {res : List Cmd × Option Nat} (g : StR cs n cmds none i res) (h : cs.length ≤ skipB cs i) : res = (cmds, none) := by
 cases g <;> first | rfl | (exfalso; omega)
theorem StR.noL {cs : List Nat} {n : Nat} {cmds : List Cmd} {i : Nat} {res : List Cmd × Option Nat} (g : StR cs n cmds none i res) (h : skipB cs i < cs.length) (hl : isL cs[skipB cs i] = false) : res = (cmds, some (skipB cs i)) := by
 cases g with
 | over h' => exfalso; omega
 | nocmd => rfl
 | nomove _ h' => rw [h'] at hl <;> cases hl
 | close _ hc h' => rw [hc, isL_close h'] at hl <;> cases hl
 | grpBad _ hc h' => rw [hc, isL_reads h'] at hl <;> cases hl
 | grpOk _ hc h' => rw [hc, isL_reads h'] at hl <;> cases hl

end
section --PL1
noncomputable def AtP (cs : List Nat) (i : Nat) (r : List Nat) : Prop := ∃ p, cs = p ++ r ∧ p.length = i
theorem AtP.zero (cs : List Nat) : AtP cs 0 cs := ⟨[], rfl, rfl⟩
theorem AtP.step {cs a r : List Nat} {i : Nat} (h : AtP cs i (a ++ r)) : AtP cs (i + a.length) r := by
 obtain ⟨p, e, h⟩ := h
 exact ⟨p ++ a, by rw [e, List.append_assoc], by rw [List.length_append, h]⟩
theorem AtP.drop {cs r : List Nat} {i : Nat} (h : AtP cs i r) : cs.drop i = r := by
 obtain ⟨p, e, rfl⟩ := h
 rw [e, List.drop_left]
theorem AtP.len {cs r : List Nat} {i : Nat} (h : AtP cs i r) : cs.length = i + r.length := by
 obtain ⟨p, e, rfl⟩ := h
 rw [e, List.length_append]
theorem AtP.get? {cs r : List Nat} {i : Nat} (h : AtP cs i r) : cs[i]? = r.head? := by
 rw [← h.drop, List.head?_drop]
theorem AtP.get {cs r : List Nat} {i c : Nat} (h : AtP cs i (c :: r)) : ∃ g : i < cs.length, cs[i] = c := by
 have := h.get?
 exact List.getElem?_eq_some_iff.mp this
theorem takeW {p : Nat → Bool} {b r : List Nat} (hb : b.all p = true) (hr : r.takeWhile p = []) : (b ++ r).takeWhile p = b := by
 rw [List.takeWhile_append_of_pos (by simpa using hb), hr, List.append_nil]
theorem skipB_at {cs b r : List Nat} {i : Nat} (h : AtP cs i (b ++ r)) (hb : b.all isB = true) (hr : r.takeWhile isB = []) : skipB cs i = i + b.length := by
 unfold skipB
 rw [h.drop, takeW hb hr]
theorem skipD_at {cs b r : List Nat} {i : Nat} (h : AtP cs i (b ++ r)) (hb : b.all isDig = true) (hr : r.takeWhile isDig = []) : skipD cs i = i + b.length := by
 unfold skipD
 rw [h.drop, takeW hb hr]
noncomputable def seps4 : List (List Nat) := [[32], [44], [10], [32, 44, 32]]
noncomputable def seps2 : List (List Nat) := [[32], [10]]
theorem head_ne {r : List Nat} {a : Nat} (h : r.head? ≠ some a) : (r.head? == some a) = false := by
 cases q : r.head? == some a
 ·rfl
 ·exact absurd (by simpa using q) h
theorem sepIs_at {cs b r : List Nat} {i : Nat} (h : AtP cs i (b ++ r)) (hb : b.all isB = true) (hr : r.takeWhile isB = []) : sepIs cs i = (r.head? == some 44) := by
 unfold sepIs
 rw [skipB_at h hb hr, h.step.get?]
theorem sep_none {cs b r : List Nat} {i : Nat} (h : AtP cs i (b ++ r)) (hb : b.all isB = true) (hr : r.takeWhile isB = []) (hc : r.head? ≠ some 44) : sepEnd cs i = i + b.length ∧ sepIs cs i = false := by
 have e := (sepIs_at h hb hr).trans (head_ne hc)
 exact ⟨by rw [sepEnd_no e, skipB_at h hb hr], e⟩
theorem sep_comma {cs b d r : List Nat} {i : Nat} (h : AtP cs i (b ++ (44 :: (d ++ r)))) (hb : b.all isB = true) (hd : d.all isB = true) (hr : r.takeWhile isB = []) : sepEnd cs i = i + b.length + 1 + d.length ∧ sepIs cs i = true := by
 have e : sepIs cs i = true := sepIs_at h hb rfl
 refine ⟨?_, e⟩
 rw [sepEnd_yes e, skipB_at h hb rfl]
 exact skipB_at (AtP.step (a := [44]) h.step) hd hr
theorem sep_at {cs s r : List Nat} {i : Nat} (hs : s ∈ seps4) (h : AtP cs i (s ++ r)) (hr : r.takeWhile isB = []) (hc : r.head? ≠ some 44) : sepEnd cs i = i + s.length := by
 simp only [seps4, List.mem_cons, List.not_mem_nil, or_false] at hs
 rcases hs with rfl | rfl | rfl | rfl
 ·exact (sep_none h rfl hr hc).1
 ·exact (sep_comma (b := []) (d := []) h rfl rfl hr).1
 ·exact (sep_none h rfl hr hc).1
 ·exact (sep_comma (b := [32]) (d := [32]) h rfl rfl hr).1
noncomputable def txtN (x : Int) : List Nat := if x = -2 then [45, 50] else if x = 10 then [49, 48] else [(x + 48).toNat]
noncomputable def vals : List Int := [0, 1, -2, 5, 10, 2, 3, 4]
theorem num_pos {cs ds r : List Nat} {i : Nat} {x : Int} (h : AtP cs i (ds ++ r)) (hd : ds.all isDig = true) (hne : ds ≠ []) (h45 : ds.head? ≠ some 45) (hx : wholeOf ds = x) (hr : r.takeWhile isDig = []) : numE cs i = i + ds.length ∧ numV cs i = x ∧ numJ cs i = i := by
 have e : ¬ cs[i]? = some 45 := by
  rw [h.get?]
  cases ds with
  | nil => exact absurd rfl hne
  | cons a ds => exact h45
 have j : numJ cs i = i := if_neg e
 refine ⟨by unfold numE; rw [j, skipD_at h hd hr], ?_, j⟩
 unfold numV numE
 rw [if_neg e, j, skipD_at h hd hr, h.drop, Nat.add_sub_cancel_left, List.take_left, hx]
theorem num_neg {cs ds r : List Nat} {i : Nat} {x : Int} (h : AtP cs i (45 :: (ds ++ r))) (hd : ds.all isDig = true) (hx : wholeOf ds = x) (hr : r.takeWhile isDig = []) : numE cs i = i + 1 + ds.length ∧ numV cs i = -x ∧ numJ cs i = i + 1 := by
 have e : cs[i]? = some 45 := by rw [h.get?]; rfl
 have j : numJ cs i = i + 1 := if_pos e
 have h' : AtP cs (i + 1) (ds ++ r) := AtP.step (a := [45]) h
 refine ⟨by unfold numE; rw [j, skipD_at h' hd hr], ?_, j⟩
 unfold numV numE
 rw [if_pos e, j, skipD_at h' hd hr, h'.drop, Nat.add_sub_cancel_left, List.take_left, hx]
theorem num_at {cs r : List Nat} {i : Nat} {x : Int} (hx : x ∈ vals) (h : AtP cs i (txtN x ++ r)) (hr : r.takeWhile isDig = []) : numE cs i = i + (txtN x).length ∧ numV cs i = x ∧ numJ cs i < numE cs i := by
 simp only [vals, List.mem_cons, List.not_mem_nil, or_false] at hx
 rcases hx with rfl | rfl | rfl | rfl | rfl | rfl | rfl | rfl
 ·have := num_pos (x := 0) h rfl (by decide) (by decide) (by decide) hr; exact ⟨this.1, this.2.1, by rw [this.1, this.2.2]; exact Nat.lt_add_of_pos_right (by decide)⟩
 ·have := num_pos (x := 1) h rfl (by decide) (by decide) (by decide) hr; exact ⟨this.1, this.2.1, by rw [this.1, this.2.2]; exact Nat.lt_add_of_pos_right (by decide)⟩
 ·have := num_neg (ds := [50]) (x := 2) h rfl (by decide) hr; exact ⟨this.1, this.2.1, by rw [this.1, this.2.2]; exact Nat.lt_add_of_pos_right (by decide)⟩
 ·have := num_pos (x := 5) h rfl (by decide) (by decide) (by decide) hr; exact ⟨this.1, this.2.1, by rw [this.1, this.2.2]; exact Nat.lt_add_of_pos_right (by decide)⟩
 ·have := num_pos (x := 10) h rfl (by decide) (by decide) (by decide) hr; exact ⟨this.1, this.2.1, by rw [this.1, this.2.2]; exact Nat.lt_add_of_pos_right (by decide)⟩
 ·have := num_pos (x := 2) h rfl (by decide) (by decide) (by decide) hr; exact ⟨this.1, this.2.1, by rw [this.1, this.2.2]; exact Nat.lt_add_of_pos_right (by decide)⟩
 ·have := num_pos (x := 3) h rfl (by decide) (by decide) (by decide) hr; exact ⟨this.1, this.2.1, by rw [this.1, this.2.2]; exact Nat.lt_add_of_pos_right (by decide)⟩
 ·have := num_pos (x := 4) h rfl (by decide) (by decide) (by decide) hr; exact ⟨this.1, this.2.1, by rw [this.1, this.2.2]; exact Nat.lt_add_of_pos_right (by decide)⟩
theorem num_head {x : Int} (hx : x ∈ vals) (r : List Nat) : (txtN x ++ r).takeWhile isB = [] ∧ (txtN x ++ r).head? ≠ some 44 ∧ ∃ c r', txtN x ++ r = c :: r' ∧ c ∈ [43, 45, 46, 48, 49, 50, 51, 52, 53, 54, 55, 56, 57] := by
 simp only [vals, List.mem_cons, List.not_mem_nil, or_false] at hx
 rcases hx with rfl | rfl | rfl | rfl | rfl | rfl | rfl | rfl <;> (refine ⟨rfl, ?_, _, _, rfl, ?_⟩; (· simp [txtN]); (· decide))
theorem sep_head {s : List Nat} (hs : s ∈ seps4) (r : List Nat) : (s ++ r).takeWhile isDig = [] := by
 simp only [seps4, List.mem_cons, List.not_mem_nil, or_false] at hs
 rcases hs with rfl | rfl | rfl | rfl <;> rfl
inductive GTail : List Int → List Nat → Prop
 | nil : GTail [] []
 | cons {s t : List Nat} {x : Int} {xs : List Int} : s ∈ seps4 → x ∈ vals → GTail xs t → GTail (x :: xs) (s ++ (txtN x ++ t))
theorem GTail.dig {xs : List Int} {t r : List Nat} (h : GTail xs t) (hr : r.takeWhile isDig = []) : (t ++ r).takeWhile isDig = [] := by
 cases h with
 | nil => exact hr
 | cons hs _ _ => rw [List.append_assoc]; exact sep_head hs _
theorem gtail_ok {cs rest : List Nat} {n : Nat} {xs : List Int} {t : List Nat} (h : GTail xs t) (hr : rest.takeWhile isDig = []) : ∀ place i, 0 < place → place + xs.length = n → AtP cs i (t ++ rest) → GrpR cs false n place i (.ok xs (i + t.length)) := by
 induction h with
 | nil =>
  intro place i hp e ha
  have e : place = n := e
  subst e
  exact .done
 | @cons s t x xs hs hx hg ih =>
  intro place i hp e ha
  rw [List.append_assoc, List.append_assoc] at ha
  obtain ⟨b1, b2, -⟩ := num_head hx (t ++ rest)
  have e1 := sep_at hs ha b1 b2
  have ea : at0 cs place i = i + s.length := by rw [at0, if_neg (by omega), e1]
  have h2 := ha.step
  obtain ⟨n1, n2, n3⟩ := num_at hx h2 (hg.dig hr)
  rw [← ea] at n1 n2 n3
  have e2 : place + 1 + xs.length = n := by rw [← e, List.length_cons]; omega
  have := GrpR.num (cs := cs) (arc := false) (n := n) (place := place) (i := i) (by rw [← e, List.length_cons]; omega) (fun k => nomatch k) n3 (by
   rw [n1, ea]
   exact ih (place + 1) _ (by omega) e2 h2.step)
  rw [n2] at this
  have e3 : i + (s ++ (txtN x ++ t)).length = i + s.length + (txtN x).length + t.length := by simp only [List.length_append]; omega
  rw [e3]
  exact this
theorem grp_ok {cs rest t : List Nat} {n i : Nat} {x : Int} {xs : List Int} (hx : x ∈ vals) (h : GTail xs t) (hr : rest.takeWhile isDig = []) (hn : xs.length + 1 = n) (ha : AtP cs i (txtN x ++ (t ++ rest))) : GrpR cs false n 0 i (.ok (x :: xs) (i + (txtN x ++ t).length)) := by
 obtain ⟨n1, n2, n3⟩ := num_at hx ha (h.dig hr)
 have := GrpR.num (cs := cs) (arc := false) (n := n) (place := 0) (i := i) (by omega) (fun k => nomatch k) n3 (by
  rw [show at0 cs 0 i = i from rfl, n1]
  exact gtail_ok h hr 1 _ (by omega) (by omega) ha.step)
 rw [show at0 cs 0 i = i from rfl, n2] at this
 have e3 : i + (txtN x ++ t).length = i + (txtN x).length + t.length := by simp only [List.length_append]; omega
 rw [e3]
 exact this
theorem StR.mono {cs : List Nat} {n n' : Nat} {found : List Cmd} {st : Option Nat} {i : Nat} {r : List Cmd × Option Nat} (h : StR cs n found st i r) : n ≤ n' → StR cs n' found st i r := by
 intro hn
 induction h generalizing n' with
 | over a => exact .over a
 | nocmd a b => exact .nocmd a b
 | nomove a b c => exact .nomove a b c
 | close a b c d _ ih =>
  obtain ⟨m, rfl⟩ : ∃ m, n' = m + 1 := ⟨n' - 1, by omega⟩
  exact .close a b c d (ih (by omega))
 | grpBad a b c d e => exact .grpBad a b c d e
 | grpOk a b c d e _ ih =>
  obtain ⟨m, rfl⟩ : ∃ m, n' = m + 1 := ⟨n' - 1, by omega⟩
  exact .grpOk a b c d e (ih (by omega))
 | stop a b _ ih =>
  obtain ⟨m, rfl⟩ : ∃ m, n' = m + 1 := ⟨n' - 1, by omega⟩
  exact .stop a b (ih (by omega))
 | comma a b => exact .comma a b
 | moreBad a b c => exact .moreBad a b c
 | moreOk a b c _ ih =>
  obtain ⟨m, rfl⟩ : ∃ m, n' = m + 1 := ⟨n' - 1, by omega⟩
  exact .moreOk a b c (ih (by omega))
noncomputable def lets : List Nat := [77, 109, 76, 108, 84, 116, 72, 104, 86, 118, 81, 113]
inductive CmdT : Nat → List Nat → List Cmd → Prop
 | close {c : Nat} : c ∈ [90, 122] → CmdT c [32, c] [(c, [])]
 | one {c : Nat} {s t : List Nat} {x : Int} {xs : List Int} : c ∈ lets → s ∈ seps2 → x ∈ vals → GTail xs t → xs.length + 1 = manyN c → CmdT c (32 :: c :: (s ++ (txtN x ++ t))) [(c, x :: xs)]
 | two {c : Nat} {s t u z : List Nat} {x y : Int} {xs ys : List Int} : c ∈ lets → s ∈ seps2 → x ∈ vals → GTail xs t → xs.length + 1 = manyN c → u ∈ seps4 → y ∈ vals → GTail ys z → ys.length + 1 = manyN (behind c) →
   CmdT c (32 :: c :: (s ++ (txtN x ++ (t ++ (u ++ (txtN y ++ z)))))) [(c, x :: xs), (behind c, y :: ys)]
theorem lets_reads {c : Nat} (h : c ∈ lets) : c ∈ reads ∧ c ∉ [65, 97] ∧ c ∉ [90, 122] := (by decide : ∀ c ∈ lets, c ∈ reads ∧ c ∉ [65, 97] ∧ c ∉ [90, 122]) c h
theorem lets_behind {c : Nat} (h : c ∈ lets) : behind c ∈ lets := (by decide : ∀ c ∈ lets, behind c ∈ lets) c h
noncomputable def Follow (r : List Nat) : Prop := r = [] ∨ ∃ c r', r = 32 :: c :: r' ∧ isB c = false ∧ c ≠ 44 ∧ c ∉ [43, 45, 46, 48, 49, 50, 51, 52, 53, 54, 55, 56, 57]
theorem Follow.dig {r : List Nat} (h : Follow r) : r.takeWhile isDig = [] := by
 rcases h with rfl | ⟨c, r', rfl, -⟩ <;> rfl
theorem CmdT.follow {c : Nat} {t r : List Nat} {cmds : List Cmd} (h : CmdT c t cmds) : Follow (t ++ r) := by
 have key : ∀ c ∈ lets ++ [90, 122], isB c = false ∧ c ≠ 44 ∧ c ∉ [43, 45, 46, 48, 49, 50, 51, 52, 53, 54, 55, 56, 57] := by decide
 cases h with
 | close h => exact .inr ⟨_, _, rfl, key _ (List.mem_append_right _ h)⟩
 | one h => exact .inr ⟨_, _, rfl, key _ (List.mem_append_left _ h)⟩
 | two h => exact .inr ⟨_, _, rfl, key _ (List.mem_append_left _ h)⟩
theorem looks_at {cs r : List Nat} {i c : Nat} (h : AtP cs i (c :: r)) : looksN cs i = decide (c ∈ [43, 45, 46, 48, 49, 50, 51, 52, 53, 54, 55, 56, 57]) := by
 obtain ⟨g, gc⟩ := h.get
 rw [looksN_yes g, gc]
theorem StR.toLetter {cs r' : List Nat} {n i c : Nat} {found : List Cmd} {st : Option Nat} {res : List Cmd × Option Nat} (ha : AtP cs i (32 :: c :: r')) (h1 : isB c = false) (h2 : c ≠ 44) (h3 : c ∉ [43, 45, 46, 48, 49, 50, 51, 52, 53, 54, 55, 56, 57])
  (k : ∀ j, skipB cs j = i + 1 → StR cs n found none j res) : StR cs (n + 1) found st i res := by
 have hr : (c :: r').takeWhile isB = [] := by rw [List.takeWhile_cons, h1]; rfl
 have e1 := skipB_at (b := [32]) ha rfl hr
 cases st with
 | none => exact (k i e1).mono (by omega)
 | some l =>
  obtain ⟨e2, e3⟩ := sep_none (b := [32]) (r := c :: r') ha rfl hr (fun h => h2 (Option.some.inj h))
  have ha' : AtP cs (i + 1) (c :: r') := AtP.step (a := [32]) ha
  refine .stop ?_ e3 ?_
  ·rw [e2]
   exact (looks_at ha').trans (decide_eq_false h3)
  ·rw [e2]
   refine k _ ?_
   exact skipB_at (b := []) ha' rfl hr
theorem lets_ch {c : Nat} (h : c ∈ reads ∨ c ∈ [90, 122]) : isB c = false ∧ c ≠ 44 ∧ c ∉ [43, 45, 46, 48, 49, 50, 51, 52, 53, 54, 55, 56, 57] := by
 have key : ∀ c ∈ reads ++ [90, 122], isB c = false ∧ c ≠ 44 ∧ c ∉ [43, 45, 46, 48, 49, 50, 51, 52, 53, 54, 55, 56, 57] := by decide
 exact key c (List.mem_append.mpr h)
theorem grp_start {cs s r : List Nat} {i c j : Nat} (ha : AtP cs i (32 :: c :: (s ++ r))) (hs : s ∈ seps2) (hr : r.takeWhile isB = []) (hj : skipB cs j = i + 1) : skipB cs (skipB cs j + 1) = i + 2 + s.length := by
 rw [hj]
 refine skipB_at (cs := cs) (i := i + 2) (b := s) (r := r) (AtP.step (a := [32, c]) ha) ?_ hr
 simp only [seps2, List.mem_cons, List.not_mem_nil, or_false] at hs
 rcases hs with rfl | rfl <;> rfl
theorem at_letter {cs r : List Nat} {i c j : Nat} (ha : AtP cs i (32 :: c :: r)) (hj : skipB cs j = i + 1) : ∃ h : skipB cs j < cs.length, cs[skipB cs j] = c := by
 have h1 : AtP cs (i + 1) (c :: r) := AtP.step (a := [32]) ha
 obtain ⟨g, gc⟩ := h1.get
 exact ⟨by rw [hj]; exact g, by simpa only [hj] using gc⟩
theorem okg_reads {cs s r : List Nat} {n i c j : Nat} {found : List Cmd} {st : Option Nat} {res : List Cmd × Option Nat} {xs : List Int} (hc : c ∈ reads) (ha : AtP cs i (32 :: c :: (s ++ r))) (hs : s ∈ seps2) (hr : r.takeWhile isB = []) (hf : found ≠ [] ∨ c ∈ [77, 109])
  (g : GrpR cs (decide (c ∈ [65, 97])) (manyN c) 0 (i + 2 + s.length) (.ok xs j)) (k : StR cs n (found ++ [(c, xs)]) (some (behind c)) j res) : StR cs (n + 2) found st i res := by
 obtain ⟨h1, h2, h3⟩ := lets_ch (.inl hc)
 refine StR.toLetter ha h1 h2 h3 fun j' hj => ?_
 obtain ⟨g1, g2⟩ := at_letter ha hj
 exact .grpOk g1 g2 hc hf (by rw [grp_start ha hs hr hj]; exact g) k
theorem badg_reads {cs s r : List Nat} {i c p : Nat} {found : List Cmd} {st : Option Nat} (hc : c ∈ reads) (ha : AtP cs i (32 :: c :: (s ++ r))) (hs : s ∈ seps2) (hr : r.takeWhile isB = []) (hf : found ≠ [] ∨ c ∈ [77, 109])
  (g : GrpR cs (decide (c ∈ [65, 97])) (manyN c) 0 (i + 2 + s.length) (.bad p)) : StR cs 1 found st i (found, some p) := by
 obtain ⟨h1, h2, h3⟩ := lets_ch (.inl hc)
 refine StR.toLetter ha h1 h2 h3 fun j' hj => ?_
 obtain ⟨g1, g2⟩ := at_letter ha hj
 exact .grpBad g1 g2 hc hf (by rw [grp_start ha hs hr hj]; exact g)
theorem cmd_reads {cs rest txt : List Nat} {n i c : Nat} {found cmds : List Cmd} {st : Option Nat} {res : List Cmd × Option Nat} (hc : CmdT c txt cmds) (ha : AtP cs i (txt ++ rest)) (hF : Follow rest) (hf : found ≠ [] ∨ c ∈ [77, 109])
  (k : ∀ st', StR cs n (found ++ cmds) st' (i + txt.length) res) : StR cs (n + 3) found st i res := by
 cases hc with
 | close hc =>
  obtain ⟨h1, h2, h3⟩ := lets_ch (.inr hc)
  refine (StR.toLetter (n := n + 1) ha h1 h2 h3 fun j hj => ?_).mono (by omega)
  obtain ⟨g1, g2⟩ := at_letter ha hj
  refine .close g1 g2 hc (hf.elim id fun hm => ?_) ?_
  ·exfalso
   simp only [List.mem_cons, List.not_mem_nil, or_false] at hc hm
   omega
  ·rw [hj]
   exact k none
 | @one s t x xs hc hs hx hg hn =>
  obtain ⟨hr, hA, -⟩ := lets_reads hc
  have eA : decide (c ∈ [65, 97]) = false := decide_eq_false hA
  have ha' : AtP cs i (32 :: c :: (s ++ (txtN x ++ (t ++ rest)))) := by simpa [List.append_assoc] using ha
  refine (okg_reads (n := n) hr ha' hs (num_head hx _).1 hf (by rw [eA]; exact grp_ok hx hg hF.dig hn (AtP.step (a := s) (AtP.step (a := [32, c]) ha'))) ?_).mono (by omega)
  ·have := k (some (behind c))
   have e : i + (32 :: c :: (s ++ (txtN x ++ t))).length = i + 2 + s.length + (txtN x ++ t).length := by simp only [List.length_append, List.length_cons]; omega
   rw [e] at this
   exact this
 | @two s t u z x y xs ys hc hs hx hg hn hu hy hz hm =>
  obtain ⟨hr, hA, -⟩ := lets_reads hc
  obtain ⟨hr', hA', -⟩ := lets_reads (lets_behind hc)
  have eA : decide (c ∈ [65, 97]) = false := decide_eq_false hA
  have eA' : decide (behind c ∈ [65, 97]) = false := decide_eq_false hA'
  have ha' : AtP cs i (32 :: c :: (s ++ (txtN x ++ (t ++ (u ++ (txtN y ++ (z ++ rest))))))) := by simpa [List.append_assoc] using ha
  have h2 : AtP cs (i + 2 + s.length) (txtN x ++ (t ++ (u ++ (txtN y ++ (z ++ rest))))) := AtP.step (a := s) (AtP.step (a := [32, c]) ha')
  have h3 : AtP cs (i + 2 + s.length + (txtN x ++ t).length) (u ++ (txtN y ++ (z ++ rest))) := AtP.step (a := txtN x ++ t) (by simpa [List.append_assoc] using h2)
  obtain ⟨b1, b2, c0, r0, b3, b4⟩ := num_head hy (z ++ rest)
  have e1 := sep_at hu h3 b1 b2
  have h4 := h3.step
  refine okg_reads (n := n + 1) hr ha' hs (num_head hx _).1 hf (by rw [eA]; exact grp_ok hx hg (sep_head hu _) hn h2) ?_
  refine .moreOk ?_ hr' (by rw [eA', e1]; exact grp_ok hy hz hF.dig hm h4) ?_
  ·rw [e1]
   rw [b3] at h4
   rw [looks_at h4]
   exact decide_eq_true b4
  ·have := k (some (behind c))
   have e : i + (32 :: c :: (s ++ (txtN x ++ (t ++ (u ++ (txtN y ++ z)))))).length = i + 2 + s.length + (txtN x ++ t).length + u.length + (txtN y ++ z).length := by simp only [List.length_append, List.length_cons, List.length_nil]; omega
   rw [e] at this
   simpa [List.append_assoc] using this
theorem end_reads {cs : List Nat} {i : Nat} {found : List Cmd} {st : Option Nat} (ha : AtP cs i []) : StR cs 1 found st i (found, none) := by
 have hl : cs.length = i := by simpa using ha.len
 have e := skipB_at (b := []) (r := []) ha rfl rfl
 have k : ∀ n, StR cs n found none i (found, none) := fun n => .over (by rw [e, hl]; exact Nat.le_refl _)
 cases st with
 | none => exact k _
 | some l =>
  obtain ⟨e2, e3⟩ := sep_none (b := []) (r := []) ha rfl rfl (fun h => nomatch h)
  refine .stop ?_ e3 ?_
  ·rw [e2]; exact looksN_no (by rw [hl]; simp)
  ·rw [e2]; exact k _
noncomputable def wrongT : Nat → List Nat
 | 0 => [32, 120, 32, 49]
 | 1 => [32, 76, 32, 53]
 | 2 => [32, 76, 32, 49, 32, 50, 32, 51, 32, 77, 32, 48, 32, 48]
 | 3 => [32, 76, 32, 49, 32, 50, 32, 44, 32, 90]
 | 4 => [32, 65, 32, 49, 32, 49, 32, 48, 32, 50, 32, 48, 32, 53, 32, 53]
 | 5 => [32, 108, 32, 49, 44, 44, 50]
 | 6 => [32, 84, 32, 51, 32, 52, 32, 45, 32, 53]
 | _ => []
noncomputable def wrongC : Nat → List Cmd
 | 2 => [(76, [1, 2])]
 | 3 => [(76, [1, 2])]
 | 6 => [(84, [3, 4])]
 | _ => []
noncomputable def wrongP : Nat → Option Nat
 | 0 => some 1
 | 1 => some 4
 | 2 => some 9
 | 3 => some 9
 | 4 => some 9
 | 5 => some 5
 | 6 => some 7
 | _ => none
theorem lack_at {cs r : List Nat} {i : Nat} (h : AtP cs i r) (h45 : r.head? ≠ some 45) (hr : r.takeWhile isDig = []) : numE cs i = numJ cs i := by
 have e : ¬ cs[i]? = some 45 := by rw [h.get?]; exact h45
 have j : numJ cs i = i := if_neg e
 unfold numE
 rw [j]
 exact skipD_at (b := []) h rfl hr
theorem lack_neg {cs r : List Nat} {i : Nat} (h : AtP cs i (45 :: r)) (hr : r.takeWhile isDig = []) : numE cs i = numJ cs i := by
 have e : cs[i]? = some 45 := by rw [h.get?]; rfl
 have j : numJ cs i = i + 1 := if_pos e
 unfold numE
 rw [j]
 exact skipD_at (b := []) (AtP.step (a := [45]) h) rfl hr
theorem g_num {cs r : List Nat} {arc : Bool} {n place i j : Nat} {x : Int} {res : GR} (hj : at0 cs place i = j) (ha : AtP cs j (txtN x ++ r)) (hx : x ∈ vals) (hr : r.takeWhile isDig = []) (hp : place < n) (hc : arc = true → place ≠ 3 ∧ place ≠ 4) (k : GrpR cs arc n (place + 1) (j + (txtN x).length) res) : GrpR cs arc n place i (res.cons x) := by
 subst hj
 obtain ⟨n1, n2, n3⟩ := num_at hx ha hr
 have := GrpR.num hp hc n3 (by rw [n1]; exact k)
 rwa [n2] at this
theorem at0_blank {cs r : List Nat} {place i c : Nat} (hp : 0 < place) (ha : AtP cs i (32 :: c :: r)) (h1 : isB c = false) (h2 : c ≠ 44) : at0 cs place i = i + 1 := by
 rw [at0, if_neg (by omega)]
 exact (sep_none (b := [32]) (r := c :: r) ha rfl (by rw [List.takeWhile_cons, h1]; rfl) fun h => h2 (Option.some.inj h)).1
theorem wrong_reads {cs : List Nat} {i way p : Nat} {found : List Cmd} {st : Option Nat} (hp : wrongP way = some p) (ha : AtP cs i (wrongT way)) (hf : found ≠ []) : StR cs 5 found st i (found ++ wrongC way, some (i + p)) := by
 have app : ∀ (a : List Nat) (r : List Nat), wrongT way = a ++ r → AtP cs (i + a.length) r := fun a r e => AtP.step (a := a) (e ▸ ha)
 have s2 : [32] ∈ seps2 := by decide
 have r76 : 76 ∈ reads := by decide
 have r84 : 84 ∈ reads := by decide
 match way, hp with
 | 0, hp =>
  cases hp
  show StR cs 5 found st i (found ++ [], some (i + 1))
  rw [List.append_nil]
  have ha : AtP cs i (32 :: 120 :: [32, 49]) := ha
  refine (StR.toLetter (n := 0) ha (by decide) (by decide) (by decide) fun j hj => ?_).mono (by omega)
  obtain ⟨g1, g2⟩ := at_letter ha hj
  have := StR.nocmd (n := 0) (found := found) g1 (by rw [g2]; decide)
  rwa [hj] at this
 | 1, hp =>
  cases hp
  show StR cs 5 found st i (found ++ [], some (i + 4))
  rw [List.append_nil]
  refine (badg_reads (s := [32]) (r := [53]) r76 ha s2 rfl (.inl hf) ?_).mono (by omega)
  refine g_num (res := .bad (i + 4)) (x := 5) (r := []) rfl (app [32, 76, 32] _ rfl) (by decide) rfl (by decide) (fun h => nomatch h) ?_
  have h4 : AtP cs (i + 4) [] := app [32, 76, 32, 53] [] rfl
  have e : at0 cs 1 (i + 4) = i + 4 := (sep_none (b := []) (r := []) h4 rfl rfl (fun h => nomatch h)).1
  have := GrpR.lack (cs := cs) (arc := false) (n := 2) (place := 1) (i := i + 4) (by decide) (fun h => nomatch h) (by rw [e]; exact lack_at h4 (fun h => nomatch h) rfl)
  rwa [e] at this
 | 2, hp =>
  cases hp
  refine (okg_reads (n := 0) (s := [32]) (xs := [1, 2]) (j := i + 6) r76 ha s2 rfl (.inl hf) (grp_ok (x := 1) (xs := [2]) (t := [32, 50]) (rest := [32, 51, 32, 77, 32, 48, 32, 48]) (by decide) (GTail.cons (s := [32]) (by decide) (by decide) .nil) rfl rfl (app [32, 76, 32] _ rfl)) ?_).mono (by omega)
  have h6 : AtP cs (i + 6) [32, 51, 32, 77, 32, 48, 32, 48] := app [32, 76, 32, 49, 32, 50] [32, 51, 32, 77, 32, 48, 32, 48] rfl
  have h7 : AtP cs (i + 7) [51, 32, 77, 32, 48, 32, 48] := app [32, 76, 32, 49, 32, 50, 32] [51, 32, 77, 32, 48, 32, 48] rfl
  have h8 : AtP cs (i + 8) [32, 77, 32, 48, 32, 48] := app [32, 76, 32, 49, 32, 50, 32, 51] [32, 77, 32, 48, 32, 48] rfl
  have h9 : AtP cs (i + 9) [77, 32, 48, 32, 48] := app [32, 76, 32, 49, 32, 50, 32, 51, 32] [77, 32, 48, 32, 48] rfl
  have e6 : sepEnd cs (i + 6) = i + 7 := (sep_none (b := [32]) (r := [51, 32, 77, 32, 48, 32, 48]) h6 rfl rfl (by decide)).1
  refine .moreBad (by rw [e6]; exact (looks_at h7).trans (by decide)) (by decide) ?_
  rw [e6]
  refine g_num (res := .bad (i + 9)) (x := 3) (i := i + 7) rfl h7 (by decide) rfl (by decide) (fun h => nomatch h) ?_
  have e := at0_blank (place := 1) (by decide) h8 (by decide) (by decide)
  have := GrpR.lack (cs := cs) (arc := false) (n := 2) (place := 1) (i := i + 8) (by decide) (fun h => nomatch h) (by rw [e]; exact lack_at h9 (by decide) rfl)
  rwa [e] at this
 | 3, hp =>
  cases hp
  refine (okg_reads (n := 0) (s := [32]) (xs := [1, 2]) (j := i + 6) r76 ha s2 rfl (.inl hf) (grp_ok (x := 1) (xs := [2]) (t := [32, 50]) (rest := [32, 44, 32, 90]) (by decide) (GTail.cons (s := [32]) (by decide) (by decide) .nil) rfl rfl (app [32, 76, 32] _ rfl)) ?_).mono (by omega)
  have h6 : AtP cs (i + 6) [32, 44, 32, 90] := app [32, 76, 32, 49, 32, 50] [32, 44, 32, 90] rfl
  have h9 : AtP cs (i + 9) [90] := app [32, 76, 32, 49, 32, 50, 32, 44, 32] [90] rfl
  obtain ⟨e1, e2⟩ := sep_comma (b := [32]) (d := [32]) (r := [90]) h6 rfl rfl rfl
  have e1 : sepEnd cs (i + 6) = i + 9 := e1
  have := StR.comma (n := 0) (found := found ++ [(76, [1, 2])]) (l := behind 76) (by rw [e1]; exact (looks_at h9).trans (by decide)) e2
  rw [e1] at this
  exact this
 | 4, hp =>
  cases hp
  show StR cs 5 found st i (found ++ [], some (i + 9))
  rw [List.append_nil]
  refine (badg_reads (s := [32]) (r := [49, 32, 49, 32, 48, 32, 50, 32, 48, 32, 53, 32, 53]) (by decide) ha s2 rfl (.inl hf) ?_).mono (by omega)
  have h4 : AtP cs (i + 4) [32, 49, 32, 48, 32, 50, 32, 48, 32, 53, 32, 53] := app [32, 65, 32, 49] [32, 49, 32, 48, 32, 50, 32, 48, 32, 53, 32, 53] rfl
  have h6 : AtP cs (i + 6) [32, 48, 32, 50, 32, 48, 32, 53, 32, 53] := app [32, 65, 32, 49, 32, 49] [32, 48, 32, 50, 32, 48, 32, 53, 32, 53] rfl
  have h8 : AtP cs (i + 8) [32, 50, 32, 48, 32, 53, 32, 53] := app [32, 65, 32, 49, 32, 49, 32, 48] [32, 50, 32, 48, 32, 53, 32, 53] rfl
  have h9 : AtP cs (i + 9) [50, 32, 48, 32, 53, 32, 53] := app [32, 65, 32, 49, 32, 49, 32, 48, 32] [50, 32, 48, 32, 53, 32, 53] rfl
  refine g_num (res := .bad (i + 9)) (x := 1) rfl (app [32, 65, 32] _ rfl) (by decide) rfl (by decide) (fun h => by decide) ?_
  refine g_num (res := .bad (i + 9)) (x := 1) (at0_blank (by decide) h4 (by decide) (by decide)) (app [32, 65, 32, 49, 32] _ rfl) (by decide) rfl (by decide) (fun h => by decide) ?_
  refine g_num (res := .bad (i + 9)) (x := 0) (at0_blank (by decide) h6 (by decide) (by decide)) (app [32, 65, 32, 49, 32, 49, 32] _ rfl) (by decide) rfl (by decide) (fun h => by decide) ?_
  have e := at0_blank (place := 3) (by decide) h8 (by decide) (by decide)
  obtain ⟨g, gc⟩ := h9.get
  have := GrpR.flag (cs := cs) (arc := true) (n := 7) (place := 3) (i := i + 8) (by decide) rfl (.inl rfl) (by rw [e]; intro h; show cs[i + 9] ≠ 48; rw [show cs[i + 9] = 50 from gc]; decide) (by rw [e]; intro h; show cs[i + 9] ≠ 49; rw [show cs[i + 9] = 50 from gc]; decide)
  rwa [e] at this
 | 5, hp =>
  cases hp
  show StR cs 5 found st i (found ++ [], some (i + 5))
  rw [List.append_nil]
  refine (badg_reads (s := [32]) (r := [49, 44, 44, 50]) (by decide) ha s2 rfl (.inl hf) ?_).mono (by omega)
  refine g_num (res := .bad (i + 5)) (x := 1) rfl (app [32, 108, 32] _ rfl) (by decide) rfl (by decide) (fun h => nomatch h) ?_
  have h4 : AtP cs (i + 4) [44, 44, 50] := app [32, 108, 32, 49] [44, 44, 50] rfl
  have h5 : AtP cs (i + 5) [44, 50] := app [32, 108, 32, 49, 44] [44, 50] rfl
  have e : at0 cs 1 (i + 4) = i + 5 := (sep_comma (b := []) (d := []) (r := [44, 50]) h4 rfl rfl rfl).1
  have := GrpR.lack (cs := cs) (arc := false) (n := 2) (place := 1) (i := i + 4) (by decide) (fun h => nomatch h) (by rw [e]; exact lack_at h5 (by decide) rfl)
  rwa [e] at this
 | 6, hp =>
  cases hp
  refine (okg_reads (n := 0) (s := [32]) (xs := [3, 4]) (j := i + 6) r84 ha s2 rfl (.inl hf) (grp_ok (x := 3) (xs := [4]) (t := [32, 52]) (rest := [32, 45, 32, 53]) (by decide) (GTail.cons (s := [32]) (by decide) (by decide) .nil) rfl rfl (app [32, 84, 32] _ rfl)) ?_).mono (by omega)
  have h6 : AtP cs (i + 6) [32, 45, 32, 53] := app [32, 84, 32, 51, 32, 52] [32, 45, 32, 53] rfl
  have h7 : AtP cs (i + 7) [45, 32, 53] := app [32, 84, 32, 51, 32, 52, 32] [45, 32, 53] rfl
  have e6 : sepEnd cs (i + 6) = i + 7 := (sep_none (b := [32]) (r := [45, 32, 53]) h6 rfl rfl (by decide)).1
  refine .moreBad (by rw [e6]; exact (looks_at h7).trans (by decide)) (by decide) ?_
  rw [e6]
  exact GrpR.lack (cs := cs) (arc := false) (n := 2) (place := 0) (i := i + 7) (by decide) (fun h => nomatch h) (lack_neg h7 rfl)

end
theorem rst40 {M : Model} {A : Around} {env : Env} {Q : Flow → Shared → Prop} {E : Value → Shared → Prop} {s : Shared} (h : Q .next s) : wpAny M A (execs [] env) Q E s := by
 walk1
 exact h
local macro_rules | `(tactic| ktd_call $a $t) => `(tactic| (
 k_dflt (refine' $t ?ho ?hcd ?hb ?hl ?hd ?h ?hnd ?c2 ?c3 ?c4)
 (case ho => k_is)
 (case hcd => k_is)
 (case hb => first | exact fun _ _ => BindsTo.of_eq rfl | exact fun _ hX => BindsTo.of_defaults rfl (hX _ _ (by k_is)) rfl rfl rfl)
 (case hl => exact fun n => kinds_of (by repeat' (first | exact trivial | exact And.intro (.inl rfl) trivial | exact And.intro (.inr ⟨rfl, rfl⟩) trivial | refine And.intro (.inl rfl) ?_ | refine And.intro (.inr ⟨rfl, rfl⟩) ?_)))
 (case hd => decide)
 (case hnd => decide +kernel)
 (case c2 => exact rfl)
 (case c3 => exact rfl)
 (case c4 => exact rfl)))
section --LB3
theorem upS {c : Nat} {u : String} (h : c < 128) (e : Str.ofString u = S [if 97 ≤ c ∧ c ≤ 122 then c - 32 else c]) : Txt.upper (S [c]) = Str.ofString u := (KOpn.upper_one h).trans e.symm
theorem fit_small {x : Str} (h : x.length ≤ 10000) : Builtin.Str.tooLong (Txt.upper x).length = false := fit_upper (by omega)
theorem sub_at {prog : Program} {w : World} {A : Around} {E : Value → Shared → Prop} {s : Shared} {h₀ : Heap} {L d : Addr} {news : Led} {o : Obj} {kvs : List (Str × Value)} {k x : Str} {t : Tok} {v : Value} {value slice : PySem.Expr} {Q : Value → Shared → Prop} (i : Nat) (N : News h₀ L s.heap news) (hp : (d, o) ∈ news) (hd : o.IsDictOf (PySem.strKind prog w) kvs) (e : x = k) (hn : (kvs.map (·.1)).Nodup) (hl : kvs[i]? = some (k, v)) (h : Q v { s with toks := s.toks + 1 })
  (hs : subscripted slice false (.ref d) (.str x t) = operate [.ref d, .str x t] (getItem (.ref d) (.str x t)) := by with_unfolding_all rfl) :
  wpAny (model prog w) A (subscriptTail value slice (.ref d) (.str x t)) Q E s := by
 subst e
 exact kba_turn (value' := PySem.Expr.Name (PySem.Str.ofString "_") ⟨0, 0, 0, 0⟩) (fun _ => rfl) (kda_item N hp hd (strKind_is _ _ _ _) (valueAt_of_get hn hl) h hs (fun _ => rfl))
theorem gmany_nodup : List.Nodup [Str.ofString "M", Str.ofString "L", Str.ofString "H", Str.ofString "V", Str.ofString "Q", Str.ofString "T"] := by decide +kernel
section
open LCg
variable {prog : Program} {w : World} {A : Around} {s : Shared} {h₀ : Heap} {L : Addr} {m : Str → Option Value} {env : Env}
theorem comp_inv {elt : PySem.Expr} {x : Str} {scope : Scope} {cl : List (Str × Addr)} {S : Led → Prop} {P : Nat → Value → Prop} {Fin : List Value → Led → Prop} {n : Nat} {news : Led} (J : Nat → List Value → Led → Prop) (hj : J 0 [] news)
  (turn : ∀ i ys news v I oI C oC D m₂ h tk (E' : Value → Shared → Prop), i < n → J i ys news → P i v → NsObj oC m₂ → m₂ x = some v → Fr h₀ L h m → News h₀ L h ((I, oI) :: (C, oC) :: (D, lst ys) :: news) → (∀ p ∈ news, p.1 ≠ I ∧ p.1 ≠ C ∧ p.1 ≠ D) → ((@Ne Nat I C) ∧ (@Ne Nat I D) ∧ (@Ne Nat C D)) →
   wpAny (model prog w) A (eval elt (compEnvC scope cl C env)) (CompEnd h₀ L m { s with heap := h, toks := tk } I oI C oC D (lst ys) S (fun y news' => J (i + 1) (ys ++ [y]) news')) E' { s with heap := h, toks := tk })
  (fin : ∀ ys news, J n ys news → Fin ys news) : CompRest prog w A h₀ L m env elt x scope cl s S P Fin n 0 [] news := by
 have key : ∀ k i ys news, k + i = n → J i ys news → CompRest prog w A h₀ L m env elt x scope cl s S P Fin k i ys news := by
  intro k
  induction k with
  | zero =>
   intro i ys news e hJ
   have e : i = n := by omega
   subst e
   exact CompRest.zero (fin ys news hJ)
  | succ k ih =>
   intro i ys news e hJ
   refine CompRest.succ fun v I oI C oC D m₂ h tk E' hP hC hx F N off ne => ?_
   refine wpAny_mono (turn i ys news v I oI C oC D m₂ h tk E' (by omega) hJ hP hC hx F N off.mem ne) (fun y s₂ hc => ?_) fun _ _ x => x
   obtain ⟨h', tk', news', e', F', N', o', hS, r⟩ := hc
   exact ⟨h', tk', news', e', F', N', o', hS, ih (i + 1) (ys ++ [y]) news' (by omega) r⟩
 exact key n 0 [] news (by omega) hj
end
local macro_rules | `(tactic| walk_at "CompSrc") => `(tactic| refine Stop.mk ?_)
noncomputable def vals5 : List Int := [0, 1, -2, 5, 10]
noncomputable def GroupP (a : Addr) (n : Nat) (r : Value) (M' add : Led) : Prop :=
 ∃ (g : Addr) (vs : List Value) (xs : List Int) (o' : Obj), r = .ref g ∧ add = [(g, W.listOf vs.toArray vs.length)] ∧ DatAll [] vs (xs.map Dat.int) ∧ xs.length = n ∧ (∀ x ∈ xs, x ∈ vals5) ∧ SrcO o' ∧ M' = [(a, o')]
noncomputable def gm : List (Str × Nat) := [(Str.ofString "M", 2), (Str.ofString "L", 2), (Str.ofString "H", 1), (Str.ofString "V", 1), (Str.ofString "Q", 4), (Str.ofString "T", 2)]
theorem sub_gm {prog : Program} {w : World} {A : Around} {E : Value → Shared → Prop} {s : Shared} {h₀ : Heap} {L d : Addr} {news : Led} {o : Obj} {x X : Str} {i k : Nat} {t t1 t2 t3 t4 t5 t6 : Tok} {value slice : PySem.Expr} {Q : Value → Shared → Prop} (N : News h₀ L s.heap news) (hp : (d, o) ∈ news)
  (hd : o.IsDictOf (PySem.strKind prog w) [(Str.ofString "M", .int 2 t1), (Str.ofString "L", .int 2 t2), (Str.ofString "H", .int 1 t3), (Str.ofString "V", .int 1 t4), (Str.ofString "Q", .int 4 t5), (Str.ofString "T", .int 2 t6)]) (e : x = X) (hm : gm[i]? = some (X, k)) (h : ∀ t', Q (.int (k : Int) t') { s with toks := s.toks + 1 })
  (hs : subscripted slice false (.ref d) (.str x t) = operate [.ref d, .str x t] (getItem (.ref d) (.str x t)) := by with_unfolding_all rfl) :
  wpAny (model prog w) A (subscriptTail value slice (.ref d) (.str x t)) Q E s := by
 match i, hm with
 | 0, hm => cases hm; exact sub_at 0 N hp hd e gmany_nodup rfl (h _) hs
 | 1, hm => cases hm; exact sub_at 1 N hp hd e gmany_nodup rfl (h _) hs
 | 2, hm => cases hm; exact sub_at 2 N hp hd e gmany_nodup rfl (h _) hs
 | 3, hm => cases hm; exact sub_at 3 N hp hd e gmany_nodup rfl (h _) hs
 | 4, hm => cases hm; exact sub_at 4 N hp hd e gmany_nodup rfl (h _) hs
 | 5, hm => cases hm; exact sub_at 5 N hp hd e gmany_nodup rfl (h _) hs
theorem group_gen (w : World) {a : Addr} {o : Obj} {x X : Str} {t : Tok} {i k : Nat} (hs : SrcO o) (hf : Builtin.Str.tooLong (Txt.upper x).length = false) (hx : Txt.upper x = X) (hm : gm[i]? = some (X, k)) :
  FnN w 464 [.ref a, .str x t] 6 80 [(a, o)] [] (GroupP a k) := by
 have hk7 : k < 64 := by
  have : ∀ q ∈ gm, q.2 < 64 := by decide +kernel
  exact this _ (List.mem_of_getElem? hm)
 ktd_call 0 (FnN.ofC [(Str.ofString "source", .ref a), (Str.ofString "letter", .str x t)])
 intro p loose mean mg mb fr gd dp un h₀ L h tk s JD cells X₀ T F N hcl hlt hJ hn hoff hd hu
 obtain ⟨co, rfl, hco⟩ := CellsAre.one (n := Str.ofString "source") (c := L + 1) hcl
 replace hco : co.data = .cell (some (.ref a)) := hco
 replace F : Fr h₀ L h (fun y => if y = Str.ofString "letter" then some (.str x t) else none) := F
 replace N : News h₀ L h ((L + 1, co) :: (a, o) :: JD) := N
 replace hoff := off1' hoff
 have ha : a < L := hlt (a, o) (.head _)
 have hltJ : ∀ q ∈ JD, q.1 < L := fun q hq => hlt q (.tail _ hq)
 clear hcl hlt
 k_steps
 refine KXw.upper rfl hf ?_
 intro t1 tk1
 rename Obj.IsDictOf _ _ _ => hD
 refine sub_gm (by assumption) (.head _) hD hx hm ?_ (by with_unfolding_all rfl)
 intro t'
 rename News _ _ _ _ => N'
 replace N' := (fun q hq => N' q (.tail _ hq) : News _ _ _ _)
 clear hD
 k_steps
 rename IsRange _ _ _ _ _ _ _ _ => hR
 rename Fr _ _ _ _ => F₁
 rename News _ _ _ _ => N₁
 show LCg.CompSrc _ _ _ _ _ _ _ _ _ _ _ _ _ _
 refine LCg.CompSrc.range (n := k) rfl F₁ N₁ hR (range_facts k hk7).1 (range_facts k hk7).2 (by rw [sizeLine_eq]; omega) fun g => ?_
 refine comp_inv (fun i ys nx => ∃ o' xs, SrcO o' ∧ nx = (L + 1, co) :: (a, o') :: JD ∧ DatAll [] ys (xs.map Dat.int) ∧ xs.length = i ∧ ∀ x ∈ xs, x ∈ vals5) ⟨o, [], hs, rfl, .nil, rfl, fun _ h => nomatch h⟩ ?_ ?_
 ·rintro i ys _ v I oI C oC D m₂ h₂ tk₂ E' hi ⟨o', xs, hs', rfl, hda, hxl, hxv⟩ hP hC hmx F₂ N₂ off ne
  clear F₁ N₁ hR
  have offa := off (a, o') (.tail _ (.head _))
  k_steps
  rename_i l' h₃ F₃ N₃ l1
  have l1J := AllLt.lt l1.2.2.2.2.2
  refine one_use (vs := [.int 0 tk₂, .int 1 (tk₂ + 1), .int (-2) (tk₂ + 1 + 1 + 1), .int 5 (tk₂ + 1 + 1 + 1 + 1), .int 10 (tk₂ + 1 + 1 + 1 + 1 + 1)]) (n := 0) (JD := (l', _) :: (I, oI) :: (C, oC) :: (D, LCg.lst ys) :: (L + 1, co) :: JD) F₃ X₀ T (fun q hq => N₃ q ?_) hs' (.head _) ?_ (by simp) (by simp) (by omega) (by omega) ?_
  ·exact su_at hq (by bits_by_make)
  ·refine List.forall_mem_cons.mpr ⟨Nat.ne_of_gt l1.2.2.2.2.1, List.forall_mem_cons.mpr ⟨Ne.symm offa.1, List.forall_mem_cons.mpr ⟨Ne.symm offa.2.1, List.forall_mem_cons.mpr ⟨Ne.symm offa.2.2, List.forall_mem_cons.mpr ⟨?_, hoff⟩⟩⟩⟩⟩
   exact Nat.ne_of_gt (Nat.lt_of_lt_of_le ha (Nat.le_succ _))
  ·intro r o₂ h₄ tk₄ hr hs₂ F₄ N₄
   obtain ⟨y, ty, rfl, hy⟩ : ∃ y ty, r = .int y ty ∧ y ∈ vals5 := by
    simp only [List.mem_cons, List.not_mem_nil, or_false] at hr
    rcases hr with rfl | rfl | rfl | rfl | rfl <;> exact ⟨_, _, rfl, by decide⟩
   refine LCg.CompEnd.intro F₄ N₄ ((L + 1, co) :: (a, o₂) :: JD) (fun q hq => ?_) (LCg.Off3.of fun q hq => ?_) trivial ⟨o₂, xs ++ [y], hs₂, rfl, ?_, by simp [hxl], fun z hz => ?_⟩
   ·exact su_at hq (by bits_by_make)
   ·simp only [List.mem_cons] at hq
    rcases hq with rfl | rfl | hq
    ·exact off (L + 1, co) (.head _)
    ·exact offa
    ·exact off q (.tail _ (.tail _ hq))
   ·rw [List.map_append]
    exact DatAll.append hda (.one (.int _ _))
   ·rcases List.mem_append.mp hz with hz | hz
    ·exact hxv z hz
    ·rw [List.mem_singleton.mp hz]; exact hy
 ·rintro ys _ ⟨o', xs, hs', rfl, hda, hxl, hxv⟩ D h₂ tk₂ F₂ N₂ o1
  have hDL := (N₂ _ (.head _)).2.1
  have hDo : ∀ q ∈ (a, o) :: JD, q.1 ≠ D := by
   have key : ∀ {l : Led}, LCg.Off1 D l → ∀ q ∈ l, q.1 ≠ D := by
    intro l
    induction l with
    | nil => intro _ q hq; cases hq
    | cons p r ih =>
     intro h q hq
     rcases List.mem_cons.mp hq with rfl | hq
     ·exact h.1
     ·exact ih h.2 q hq
   have := key o1
   exact List.forall_mem_cons.mpr ⟨this (a, o') (.tail _ (.head _)), fun q hq => this q (.tail _ (.tail _ hq))⟩
  refine ⟨h₂, tk₂, _, [(a, o')], [(D, LCg.lst ys)], rfl, F₂, fun q hq => N₂ q ?_, ⟨D, ys, xs, o', rfl, rfl, hda, hxl, hxv, hs', rfl⟩, rfl, noTup1 hs'.no, fun q hq => .inr ?_⟩
  ·exact su_at hq (by bits_by_make)
  ·rw [List.mem_singleton.mp hq]
   exact ⟨hDo, .inr ⟨by simp, by simp⟩⟩
theorem group_fn2 (w : World) {a : Addr} {o : Obj} {c : Nat} {t : Tok} (hs : SrcO o) (hc : c ∈ lets) : FnN w 464 [.ref a, .str (S [c]) t] 6 80 [(a, o)] [] (GroupP a (manyN c)) := by
 have hf : Builtin.Str.tooLong (Txt.upper (S [c])).length = false := fit_small (by rw [S_len]; simp)
 simp only [lets, List.mem_cons, List.not_mem_nil, or_false] at hc
 rcases hc with rfl | rfl | rfl | rfl | rfl | rfl | rfl | rfl | rfl | rfl | rfl | rfl
 ·exact group_gen w (i := 0) hs hf (upS (by decide) (by decide +kernel)) rfl
 ·exact group_gen w (i := 0) hs hf (upS (by decide) (by decide +kernel)) rfl
 ·exact group_gen w (i := 1) hs hf (upS (by decide) (by decide +kernel)) rfl
 ·exact group_gen w (i := 1) hs hf (upS (by decide) (by decide +kernel)) rfl
 ·exact group_gen w (i := 5) hs hf (upS (by decide) (by decide +kernel)) rfl
 ·exact group_gen w (i := 5) hs hf (upS (by decide) (by decide +kernel)) rfl
 ·exact group_gen w (i := 2) hs hf (upS (by decide) (by decide +kernel)) rfl
 ·exact group_gen w (i := 2) hs hf (upS (by decide) (by decide +kernel)) rfl
 ·exact group_gen w (i := 3) hs hf (upS (by decide) (by decide +kernel)) rfl
 ·exact group_gen w (i := 3) hs hf (upS (by decide) (by decide +kernel)) rfl
 ·exact group_gen w (i := 4) hs hf (upS (by decide) (by decide +kernel)) rfl
 ·exact group_gen w (i := 4) hs hf (upS (by decide) (by decide +kernel)) rfl

end
section --AL
inductive Es (B : Led) : List (Str × AV) → List DictEntry → Prop
 | nil : Es B [] []
 | cons {x : Str} {a : AV} {v : Value} {h : Int} {t : Tok} {l : List (Str × AV)} {es : List DictEntry} (y : Den B a v) (r : Es B l es) : Es B ((x, a) :: l) (⟨h, .str x t, v⟩ :: es)
theorem Es.mono {B B' : Led} (hs : ∀ q ∈ B, q ∈ B') {l : List (Str × AV)} {es : List DictEntry} (h : Es B l es) : Es B' l es := by
 induction h with
 | nil => exact .nil
 | cons y _ ih => exact .cons (y.mono hs) ih
theorem Es.len {B : Led} {l : List (Str × AV)} {es : List DictEntry} (h : Es B l es) : es.length = l.length := by
 induction h with
 | nil => rfl
 | cons _ _ ih => rw [List.length_cons, List.length_cons, ih]
theorem Es.noRef {B : Led} {l : List (Str × AV)} {es : List DictEntry} (h : Es B l es) : es.any (·.refKey) = false := by
 induction h with
 | nil => rfl
 | cons _ _ ih => rw [List.any_cons, ih]; rfl
theorem Es.get {B : Led} {l : List (Str × AV)} {es : List DictEntry} (h : Es B l es) {x : Str} {a : AV} (e : l.lookup x = some a) : ∃ v, getL x es = some (some v) ∧ Den B a v := by
 induction h with
 | nil => cases e
 | @cons y b v hh t l es d r ih =>
  rw [List.lookup_cons] at e
  unfold getL
  rw [List.find?_cons]
  by_cases hy : x = y
  ·subst hy
   rw [beq_self_eq_true] at e
   cases e
   rw [show (DictEntry.mk hh (.str x t) v).key.isStr x = true from beq_self_eq_true x]
   exact ⟨v, rfl, d⟩
  ·rw [beq_eq_false_iff_ne.mpr hy] at e
   rw [show (DictEntry.mk hh (.str y t) v).key.isStr x = false from beq_eq_false_iff_ne.mpr (Ne.symm hy)]
   obtain ⟨u, hu, du⟩ := ih e
   refine ⟨u, ?_, du⟩
   unfold getL at hu
   rw [List.any_cons, r.noRef]
   rw [r.noRef] at hu
   exact hu
theorem Es.lack {B : Led} {l : List (Str × AV)} {es : List DictEntry} (h : Es B l es) {x : Str} (e : l.lookup x = none) : getL x es = some none := by
 have : es.find? (·.key.isStr x) = none := by
  induction h with
  | nil => rfl
  | @cons y b v hh t l es d r ih =>
   rw [List.lookup_cons] at e
   rw [List.find?_cons]
   by_cases hy : x = y
   ·subst hy
    rw [beq_self_eq_true] at e
    cases e
   ·rw [beq_eq_false_iff_ne.mpr hy] at e
    rw [show (DictEntry.mk hh (.str y t) v).key.isStr x = false from beq_eq_false_iff_ne.mpr (Ne.symm hy)]
    exact ih e
 unfold getL
 rw [this, h.noRef]
 rfl
noncomputable def setE (x : Str) (a : AV) : List (Str × AV) → Option (List (Str × AV))
 | [] => none
 | (y, b) :: r => match y == x with
  | true => some ((y, a) :: r)
  | false => match setE x a r with
   | some r' => some ((y, b) :: r')
   | none => none
theorem Es.put {B : Led} {x : Str} {a : AV} {v : Value} (hv : Den B a v) {hsh : Int} {key : Value} {l : List (Str × AV)} {es : List DictEntry} (h : Es B l es) : ∀ {l'}, setE x a l = some l' → Es B l' (putL x hsh key v es) := by
 induction h with
 | nil => intro _ e; cases e
 | @cons y b u hh t l es d r ih =>
  intro l' e
  unfold setE at e
  unfold putL
  by_cases hy : y = x
  ·subst hy
   rw [beq_self_eq_true] at e
   cases e
   rw [if_pos (show (DictEntry.mk hh (.str y t) u).key.isStr y = true from beq_self_eq_true y)]
   exact .cons hv r
  ·rw [beq_eq_false_iff_ne.mpr hy] at e
   rw [if_neg (by rw [show (DictEntry.mk hh (.str y t) u).key.isStr x = false from beq_eq_false_iff_ne.mpr hy]; decide)]
   cases q : setE x a l with
   | none => rw [q] at e; cases e
   | some r' =>
    rw [q] at e
    cases e
    exact .cons d (ih q)
theorem Es.any {B : Led} {l : List (Str × AV)} {es : List DictEntry} (h : Es B l es) {x : Str} {a : AV} (e : l.lookup x = some a) : es.any (·.key.isStr x) = true := by
 induction h with
 | nil => cases e
 | @cons y b v hh t l es d r ih =>
  rw [List.lookup_cons] at e
  rw [List.any_cons]
  by_cases hy : x = y
  ·subst hy
   rw [show (DictEntry.mk hh (.str x t) v).key.isStr x = true from beq_self_eq_true x]
   rfl
  ·rw [beq_eq_false_iff_ne.mpr hy] at e
   rw [ih e, Bool.or_true]
noncomputable def AttA (kvs : List (Str × AV)) : AO where
 p B o := ∃ es, o = dictOf es es.length ∧ Es B kvs es
 mono hs h := by
  obtain ⟨es, rfl, h⟩ := h
  exact ⟨es, rfl, h.mono hs⟩
 nt h := by
  obtain ⟨es, rfl, -⟩ := h
  exact NoTup.dic
noncomputable def handA : AV → Bool
 | .d _ => true
 | .v x => handedIn x
theorem handA_ok {B : Led} : ∀ {a : AV} {v : Value}, handA a = true → Den B a v → handedIn v = true
 | .d _, _, _, h => DatIn.handed h
 | .v _, _, e, h => by rw [show _ = _ from h]; exact e
section
variable {f : Fi} {c : Cx} {l : List (Str × AV)} {M : List (Addr × AO)} {D : List AV} {σ : As} {a b : AV} {as : List AV} {x name : Str} {pos px : Pos} {k : Nat} {e o : Expr} {es : List Expr} {y dy C fa : Addr} {kvs kvs' : List (Str × AV)} {q1 q2 : Addr × AO}
theorem AEv.att {K : AV → As → Prop} (H : AEv (.Name x px) f c D σ (aGet name c D K))
  (he : ∀ env, eval (.Attribute (.Name x px) name pos) env = (do
    let o ← eval (Expr.Name x px) env
    standAt pos.atName
    let r ← holding [o] (getAttr o name true)
    letTemporaryGo (Expr.Name x px) o r
    pure r)) : AEv (.Attribute (.Name x px) name pos) f c D σ K := fun Q q h m N Mc ds t X =>
 Attribute_Name_ (H (fun ds o s₁ => wpAny _ _ (getAttr o name true) (Q ds) _ s₁) (fun a σ' k h m N Mc ds v t X y => k _ Q q h m N Mc ds [v] t X (.cons y .nil)) h m N Mc ds t X) (he _)
theorem AGet.own {K : AV → As → Prop} (ma : List (Addr × AO)) (hx : (y, instObj C dy) ∈ c.B) (hg : ∀ w, Att w C name) (hv : kvs.lookup name = some a) (hh : handA a = true) (H : K a ⟨l, ma ++ (dy, AttA kvs) :: M⟩) : AGet name (.v (.ref y)) c D ⟨l, ma ++ (dy, AttA kvs) :: M⟩ K := fun _ Q q h m N Mc ds vs t X z => by
 obtain ⟨v, rfl, hz⟩ := z.one
 obtain rfl : v = .ref y := hz
 obtain ⟨sa, ob, sz, rfl, ha, ⟨ens, rfl, hes⟩, hz'⟩ := X.M.look
 obtain ⟨u, hu, du⟩ := hes.get hv
 exact get_own X.F c.X (InstAt.of_news X.W (mem_all (List.mem_append_right _ hx)) (by rw [all_mid]; exact List.mem_append_right _ (.head _))) (hg c.w).g (hg c.w).h (hg c.w).f rfl hu (handA_ok hh du) (q _ _ H h m N _ ds u (t + 1) X du)
theorem ASt.setA {K : AF → As → Prop} (H : AEv e f c [] σ (aSt1 name o f c K)) (hs : ∀ env, swapsWith e (some (.Attribute o name px)) pos.line env = pure false) : ASt (.Assign [.Attribute o name px] e pos) f c σ K := fun Q q h m N Mc t X =>
 plainObj_wpAny_Assign_Attribute (H (fun _ v s₁ => wpAny _ _ (eval o _) (fun ov s₂ => wpAny _ _ (setAttr ov name v) (fun _ => Q .next) _ s₂) _ s₁) (fun a σ' k1 h m N Mc ds v t X y => by
  obtain rfl := X.nil
  refine k1 (fun ds' ov s₂ => wpAny _ _ (setAttr ov name (ds'.headD .none)) (fun _ => Q .next) _ s₂) (fun a' σ₁ k2 h m N Mc ds' ov t X' y' => ?_) h m N Mc [v] t (X.push y)
  obtain ⟨v, r', rfl, yv, X''⟩ := X'.pop
  exact k2 (fun _ => Q .next) (fun σ'' k4 h m N Mc ds t X => by obtain rfl := X.nil; exact q _ _ k4 h m N Mc _ t X rfl) h m N Mc r' [ov, v] t X'' (.cons y' (.cons yv .nil))) h m N Mc [] t X) (hs _)
theorem ASetA.own {K : As → Prop} (ma : List (Addr × AO)) (hx : (y, instObj C dy) ∈ c.B) (hg : ∀ w, Put w C name) (hv : kvs.lookup name = some b) (hp : setE name a kvs = some kvs') (hz : Nat.ble kvs.length 900 = true) (H : K ⟨l, ma ++ (dy, AttA kvs') :: M⟩) : ASetA name (.v (.ref y)) a c D ⟨l, ma ++ (dy, AttA kvs) :: M⟩ K := fun Q q h m N Mc ds vs t X z => by
 obtain ⟨g, v, rfl, hg', hv'⟩ := z.two
 obtain rfl : g = .ref y := hg'
 obtain ⟨sa, ob, sz, rfl, ha, ⟨ens, rfl, hes⟩, hz'⟩ := X.M.look
 obtain ⟨u, hu, -⟩ := hes.get hv
 have hes' := hes.put (hsh := PyData.keyHash c.w.params name) (key := Value.str name (t + 1)) hv' hp
 have U : Upd dy (dictOf ens ens.length) (dictOf (putL name (PyData.keyHash c.w.params name) (Value.str name (t + 1)) v ens) (putN name ens ens.length)) (c.all (sa ++ (dy, dictOf ens ens.length) :: sz) N) (c.all (sa ++ (dy, dictOf (putL name (PyData.keyHash c.w.params name) (Value.str name (t + 1)) v ens) (putN name ens ens.length)) :: sz) N) := by
  rw [all_mid, all_mid]
  exact upd_mid X.S.pre X.S.post
 have hl : kvs'.length = kvs.length := by
  have : ∀ (kvs kvs' : List (Str × AV)), setE name a kvs = some kvs' → kvs'.length = kvs.length := by
   intro kvs
   induction kvs with
   | nil => intro _ e; cases e
   | cons q r ih =>
    intro kvs' e
    obtain ⟨y', b'⟩ := q
    unfold setE at e
    cases hb : y' == name with
    | true => rw [hb] at e; cases e; rfl
    | false =>
     rw [hb] at e
     cases q2 : setE name a r with
     | none => rw [q2] at e; cases e
     | some r' => rw [q2] at e; cases e; rw [List.length_cons, List.length_cons, ih _ q2]
  exact this _ _ hp
 refine set_dict X.F c.X X.W (InstAt.of_news X.W (mem_all (List.mem_append_right _ hx)) (by rw [all_mid]; exact List.mem_append_right _ (.head _))) rfl (hg c.w).s (hg c.w).p (hg c.w).t (hg c.w).h (by rw [hu]; rfl) rfl U (by have e := hes'.len; rw [hl] at e; exact Nat.le_trans (Nat.le_of_eq e) (Nat.le_trans (Nat.le_of_ble_eq_true hz) (by decide))) (fun h' F' W' => ?_)
 exact q _ H h' m N _ ds (t + 2) ⟨F', X.P, W', X.S.up NoTup.dic, ha.app (.cons ⟨_, by rw [hes'.len, hl, ← hes.len, putN, if_pos (hes.any hv)], hes'⟩ hz'), X.D⟩
theorem AMcl.own {K : AV → As → Prop} (ma : List (Addr × AO)) (hx : (y, instObj C dy) ∈ c.B) (hg : ∀ w, Own w C name fa) (hv : kvs.lookup name = none) (ha : Xs (e :: es) = true) (H : AEvs (e :: es) f c (.v (.ref y) :: D) ⟨l, ma ++ (dy, AttA kvs) :: M⟩ (aCalM (.ref fa) (.v (.ref y)) c D K)) : AMcl name (e :: es) pos f (.v (.ref y)) c D ⟨l, ma ++ (dy, AttA kvs) :: M⟩ K := fun pl Q q h m N Mc ds v t X z => by
 obtain rfl : v = .ref y := z
 obtain ⟨sa, ob, sz, rfl, ha', ⟨ens, rfl, hes⟩, hz'⟩ := X.M.look
 refine method_inst X.F c.X (InstAt.of_news X.W (mem_all (List.mem_append_right _ hx)) (by rw [all_mid]; exact List.mem_append_right _ (.head _))) (hg c.w).g (hg c.w).f (hg c.w).t (hes.lack hv) ?_
 refine callWith_K c.X (hg c.w).b (H pos (fun ds' vs s₁ => (heapK c.w.params).In s₁.heap ∧ wpAny _ _ (PySem.call (.ref fa) (.ref y :: vs)) (Q ds'.tail) _ s₁) (fun as σ' k h m N Mc ds' vs t X' y' => ?_) h m N _ (.ref y :: ds) t (X.push rfl)) (Xs.star ha _) (Xs.plain (Xs.tl ha) _ _)
 obtain ⟨w', r', rfl, yw, X1⟩ := X'.pop
 obtain rfl : w' = .ref y := yw
 exact ⟨c.X.keeps X1.F.keep, k Q q h m N Mc r' (.ref y :: vs) t X1 (.cons rfl y')⟩
theorem AMcl.own0 {K : AV → As → Prop} (ma : List (Addr × AO)) (hx : (y, instObj C dy) ∈ c.B) (hg : ∀ w, Own w C name fa) (hv : kvs.lookup name = none) (H : ACal (.ref fa) [.v (.ref y)] c D ⟨l, ma ++ (dy, AttA kvs) :: M⟩ K) : AMcl name [] pos f (.v (.ref y)) c D ⟨l, ma ++ (dy, AttA kvs) :: M⟩ K := fun pl Q q h m N Mc ds v t X z => by
 obtain rfl : v = .ref y := z
 have X0 := X
 obtain ⟨sa, ob, sz, rfl, ha', ⟨ens, rfl, hes⟩, hz'⟩ := X.M.look
 exact method_inst X.F c.X (InstAt.of_news X.W (mem_all (List.mem_append_right _ hx)) (by rw [all_mid]; exact List.mem_append_right _ (.head _))) (hg c.w).g (hg c.w).f (hg c.w).t (hes.lack hv) (callWith_K0 (c.X.keeps X.F.keep) (hg c.w).b (H Q q h m N _ ds [_] t X0 (.cons rfl .nil)))
theorem AMcl.m0 {K : AV → As → Prop} (hx : (y, instObj C dy) ∈ c.B) (hg : ∀ w, Own w C name fa) (hv : kvs.lookup name = none) (H : ACal (.ref fa) [.v (.ref y)] c D ⟨l, (dy, AttA kvs) :: M⟩ K) : AMcl name [] pos f (.v (.ref y)) c D ⟨l, (dy, AttA kvs) :: M⟩ K := AMcl.own0 [] hx hg hv H
theorem AMcl.m1 {K : AV → As → Prop} (hx : (y, instObj C dy) ∈ c.B) (hg : ∀ w, Own w C name fa) (hv : kvs.lookup name = none) (ha : Xs (e :: es) = true) (H : AEvs (e :: es) f c (.v (.ref y) :: D) ⟨l, (dy, AttA kvs) :: M⟩ (aCalM (.ref fa) (.v (.ref y)) c D K)) : AMcl name (e :: es) pos f (.v (.ref y)) c D ⟨l, (dy, AttA kvs) :: M⟩ K := AMcl.own [] hx hg hv ha H
theorem AGet.g0 {K : AV → As → Prop} (hx : (y, instObj C dy) ∈ c.B) (hg : ∀ w, Att w C name) (hv : kvs.lookup name = some a) (hh : handA a = true) (H : K a ⟨l, (dy, AttA kvs) :: M⟩) : AGet name (.v (.ref y)) c D ⟨l, (dy, AttA kvs) :: M⟩ K := AGet.own [] hx hg hv hh H
theorem ASetA.s0 {K : As → Prop} (hx : (y, instObj C dy) ∈ c.B) (hg : ∀ w, Put w C name) (hv : kvs.lookup name = some b) (hp : setE name a kvs = some kvs') (hz : Nat.ble kvs.length 900 = true) (H : K ⟨l, (dy, AttA kvs') :: M⟩) : ASetA name (.v (.ref y)) a c D ⟨l, (dy, AttA kvs) :: M⟩ K := ASetA.own [] hx hg hv hp hz H
end

end
section --SA
theorem FnXM.imp {w : World} {f : Addr} {vs : List Value} {dep uni : Nat} {M J J' : Led} {P P' : Value → Led → Led → Prop} {PX PX' : Obj → Led → Led → Prop} (c : FnXM w f vs dep uni M J P PX) (hJ : ∀ q ∈ J, q ∈ J') (i : ∀ r M' add, P r M' add → P' r M' add) (ix : ∀ oE M' add, PX oE M' add → PX' oE M' add) : FnXM w f vs dep uni M J' P' PX' := by
 intro off hn p loose mean mg mb envc outer gd dp un h₀ L m s Dn frs R F X T N hef hek Fs hmut hS hd hu ret rai
 have wid : ∀ {A B C : Led}, ∀ q ∈ (A ++ (B ++ J)) ++ ((J' ++ Dn) ++ C), q ∈ (A ++ (B ++ J')) ++ (Dn ++ C) := fun q hq => by
  simp only [List.mem_append] at hq ⊢
  rcases hq with (hq | hq | hq) | (hq | hq) | hq
  ·exact .inl (.inl hq)
  ·exact .inl (.inr (.inl hq))
  ·exact .inl (.inr (.inr (hJ q hq)))
  ·exact .inl (.inr (.inr hq))
  ·exact .inr (.inl hq)
  ·exact .inr (.inr hq)
 have nar : ∀ {A B C : Led}, ∀ q ∈ (A ++ (B ++ J')) ++ (Dn ++ C), q ∈ (A ++ (B ++ J)) ++ ((J' ++ Dn) ++ C) := fun q hq => by
  simp only [List.mem_append] at hq ⊢
  rcases hq with (hq | hq | hq) | hq | hq
  ·exact .inl (.inl hq)
  ·exact .inl (.inr (.inl hq))
  ·exact .inr (.inl (.inl hq))
  ·exact .inr (.inl (.inr hq))
  ·exact .inr (.inr hq)
 refine c (fun q hq => off q (hJ q hq)) hn p loose mean mg mb envc outer gd dp un h₀ L m s (J' ++ Dn) frs R F X T (fun q hq => N q (wid (A := M) (B := []) q hq)) hef hek Fs (fun q hq => ?_) (fun q hq => hS q ?_) hd hu ?_ ?_
 ·rw [List.append_assoc] at hq
  exact (List.mem_append.mp hq).elim (off q) (hmut q)
 ·have := wid (A := M) (B := []) (C := []) q (by rw [List.append_nil]; exact hq)
  rw [List.append_nil] at this
  exact this
 ·rintro r h' tk' nx ⟨M', add, hP, ht, hn', e, rfl⟩ F' N' _
  exact ret r h' tk' _ ⟨M', add, i _ _ _ hP, ht, hn', e, rfl⟩ F' (fun q hq => N' q (nar q hq)) (PostM.kin e ht)
 ·rintro e dE h' tk' nx frs' ⟨oE, M', add, hP, ht, hn', e', rfl⟩ hx u F' N' hs
  refine rai e dE h' tk' _ frs' ⟨oE, M', add, ix _ _ _ hP, ht, hn', e', rfl⟩ hx u F' (fun q hq => ?_) fun q hq => ?_
  ·rcases List.mem_cons.mp hq with rfl | hq
   ·exact N' _ (.head _)
   ·exact N' q (.tail _ (nar q hq))
  ·rcases List.mem_cons.mp hq with rfl | hq
   ·exact hs _ (.head _)
   ·rcases List.mem_append.mp hq with hq | hq
    ·exact hs q (.tail _ (List.mem_append_left _ hq))
    ·rcases List.mem_append.mp hq with hq | hq
     ·exact hs q (.tail _ (List.mem_append_right _ (List.mem_append_left _ hq)))
     ·have := hS q (List.mem_append_left _ (List.mem_append_right _ hq))
      refine ⟨this.1, fun r hr er => ?_⟩
      have hm : r.1 ∈ frs'.map (·.1) := List.mem_map_of_mem hr
      rw [sameUp_addr u] at hm
      obtain ⟨z, hz, e2⟩ := List.mem_map.mp hm
      exact this.2 z hz (er.trans e2.symm)
theorem FnM.imp {w : World} {f : Addr} {vs : List Value} {dep uni : Nat} {M J J' : Led} {P P' : Value → Led → Led → Prop} (c : FnM w f vs dep uni M J P) (hJ : ∀ q ∈ J, q ∈ J') (i : ∀ r M' add, P r M' add → P' r M' add) : FnM w f vs dep uni M J' P' := by
 intro off p loose mean mg mb fr gd dp un h₀ L m s D R F X T N hmut hd hu ret
 refine c (fun q hq => off q (hJ q hq)) p loose mean mg mb fr gd dp un h₀ L m s (J' ++ D) R F X T (fun q hq => N q ?_) (fun q hq => (List.mem_append.mp hq).elim (off q) (hmut q)) hd hu ?_
 ·simp only [List.mem_append] at hq ⊢
  rcases hq with (hq | hq) | hq | hq
  ·exact .inl (.inl hq)
  ·exact .inl (.inr (hJ q hq))
  ·exact .inl (.inr hq)
  ·exact .inr hq
 ·rintro r h' tk' nx ⟨M', add, hP, ht, hn', e, rfl⟩ F' N' _
  refine ret r h' tk' _ ⟨M', add, i _ _ _ hP, ht, hn', e, rfl⟩ F' (fun q hq => N' q ?_) (PostM.kin e ht)
  simp only [List.mem_append] at hq ⊢
  rcases hq with (hq | hq | hq) | hq
  ·exact .inl (.inl hq)
  ·exact .inl (.inr (.inl hq))
  ·exact .inr (.inl hq)
  ·exact .inr (.inr hq)
noncomputable def TL (q : Addr × Obj) : Prop := NF q ∧ (q.2.cls = .type "tuple" ∨ q.2.cls = .type "list")
mutual
theorem DatIn.nf {B B' : Led} (hs : ∀ p ∈ B, TL p → p ∈ B') : ∀ {v : Value} {d : Dat}, DatIn B v d → DatIn B' v d
 | _, _, .none => .none
 | _, _, .bool b => .bool b
 | _, _, .int i t => .int i t
 | _, _, .str x t => .str x t
 | _, _, .bytes b t => .bytes b t
 | _, _, .tuple h r => .tuple (hs _ h ⟨Tup.nf ⟨_, _, rfl⟩, .inl rfl⟩) (DatAll.nf hs r)
 | _, _, .list h r => .list (hs _ h ⟨(NoTup.lst (G := 0)).2, .inr rfl⟩) (DatAll.nf hs r)
theorem DatAll.nf {B B' : Led} (hs : ∀ p ∈ B, TL p → p ∈ B') : ∀ {v : List Value} {d : List Dat}, DatAll B v d → DatAll B' v d
 | _, _, .nil => .nil
 | _, _, .cons h r => .cons (DatIn.nf hs h) (DatAll.nf hs r)
end
@[reducible] noncomputable def scK (cs : List Nat) (i : Nat) : List (Str × AV) := [(Str.ofString "text", .d (.str (S cs))), (Str.ofString "at", .d (.int i))]
@[reducible] noncomputable def ScA (cs : List Nat) (i : Nat) : AO := AttA (scK cs i)
theorem scA_of {B : Led} {cs : List Nat} {i : Nat} {o : Obj} (h : ScD cs (i : Nat) o) : (ScA cs i).p B o := by
 cases h
 exact ⟨_, rfl, .cons (.str _ _) (.cons (.int _ _) .nil)⟩
theorem scD_of {B : Led} {cs : List Nat} {i : Nat} {o : Obj} (h : (ScA cs i).p B o) : ScD cs (i : Nat) o := by
 obtain ⟨es, rfl, h⟩ := h
 cases h with
 | cons y r =>
  cases r with
  | cons y2 r =>
   cases r
   cases y
   cases y2
   exact .mk
theorem sc1 {B : Led} {d : Addr} {cs : List Nat} {i : Nat} {Mc : Led} (h : MAll B [(d, ScA cs i)] Mc) : ∃ o, Mc = [(d, o)] ∧ ScD cs (i : Nat) o := by
 cases h with
 | cons h t => cases t; exact ⟨_, rfl, scD_of h⟩
theorem one_ref {B : Led} {x : Addr} {vs : List Value} (h : DAll B [.v (.ref x)] vs) : vs = [.ref x] := by
 obtain ⟨v, rfl, h1⟩ := h.one
 rw [show v = .ref x from h1]
section
variable {w : World} {x d : Addr} {cs : List Nat} {i : Nat} {B : Led} {vs : List Value} {Mc : Led}
theorem faultA (hx : (x, instObj 273 d) ∈ B) {a : AV} (hA : DAll B [.v (.ref x), a] vs) (hM : MAll B [(d, ScA cs i)] Mc) :
  FnXM w 214 vs 8 32 Mc B (PoA (fun _ _ => False) B) (PoX (fun oE N' => FaultAt i oE ∧ N' = [(d, ScA cs i)]) B) := by
 obtain ⟨_, v, rfl, h0, -⟩ := hA.two
 obtain rfl := h0
 obtain ⟨o, rfl, hs⟩ := sc1 hM
 refine FnXM.imp (fault_fn w hs) (fun q hq => by rw [List.mem_singleton.mp hq]; exact hx) ?_ ?_
 ·rintro r M' add h
  exact h.elim
 ·rintro oE M' add ⟨hf, rfl, rfl⟩
  exact ⟨_, ⟨hf, rfl⟩, .cons (scA_of hs) .nil⟩
end

end
section --SB
section
variable {f : Fi} {c : Cx} {l : List (Str × AV)} {M : List (Addr × AO)} {D : List AV} {σ : As}
theorem ANl.new {K : AV → As → Prop} (H : ∀ G, K (.v (.ref G)) ⟨l, M ++ [(G, LstA [])]⟩) : ANl [] c D ⟨l, M⟩ K := fun Q q h m N Mc ds vs t X y => by
 cases y
 refine newList_K X.F X.W (fun T h' F' W' lt => ?_) (Nat.zero_le _)
 have hlt : ∀ p ∈ Mc ++ (N ++ c.J), p.1 < T := lt
 refine q _ _ (H T) h' m N (Mc ++ [(T, W.listOf [].toArray 0)]) ds _ t ⟨F', X.P, fun z hz => W' z ?_, ⟨fun z hz => ?_, ?_, fun z hz e => ?_, X.S.ok⟩, X.M.app (.cons ⟨[], 0, rfl, .nil⟩ .nil), X.D⟩ rfl
 ·have hz : z ∈ (Mc ++ [(T, W.listOf [].toArray 0)]) ++ (N ++ c.J) := hz
  rcases List.mem_append.mp hz with hz | hz
  ·exact (List.mem_append.mp hz).elim (fun hz => .tail _ (List.mem_append_left _ hz)) fun hz => by rw [List.mem_singleton.mp hz]; exact .head _
  ·exact .tail _ (List.mem_append_right _ hz)
 ·exact (List.mem_append.mp hz).elim (X.S.nt z) fun hz => by rw [List.mem_singleton.mp hz]; exact NoTup.lst
 ·rw [List.map_append]
  refine List.nodup_append.mpr ⟨X.S.nd, List.nodup_cons.mpr ⟨List.not_mem_nil, .nil⟩, fun x hx y hy e => ?_⟩
  obtain ⟨z, hz, rfl⟩ := List.mem_map.mp hx
  rw [List.mem_singleton.mp hy] at e
  exact Nat.ne_of_lt (hlt z (List.mem_append_left _ hz)) e
 ·rw [List.map_append] at e
  rcases List.mem_append.mp e with e | e
  ·exact X.S.off z hz e
  ·exact Nat.ne_of_lt (hlt z (List.mem_append_right _ hz)) (List.mem_singleton.mp e)
theorem Cs.drop {M₁ : List (Addr × AO)} {h : Heap} {m : Str → Option Value} {N Mc : Led} {ds : List Value} (X : Cs c D ⟨l, M ++ M₁⟩ h m N Mc ds) : ∃ Mc₀ Mc₁, Mc = Mc₀ ++ Mc₁ ∧ MAll (N ++ c.B) M₁ Mc₁ ∧ Cs c D ⟨l, M⟩ h m N Mc₀ ds := by
 obtain ⟨Mc₀, Mc₁, rfl, hM0, hM1⟩ := X.M.split
 refine ⟨Mc₀, Mc₁, rfl, hM1, X.F, X.P, fun z hz => X.W z ?_, ⟨fun z hz => X.S.nt z (List.mem_append_left _ hz), ?_, fun z hz e => X.S.off z hz ?_, X.S.ok⟩, hM0, X.D⟩
 ·exact (List.mem_append.mp hz).elim (fun hz => List.mem_append_left _ (List.mem_append_left _ hz)) (List.mem_append_right _)
 ·have := X.S.nd
  rw [List.map_append] at this
  exact (List.nodup_append.mp this).1
 ·rw [List.map_append]
  exact List.mem_append_left _ e
theorem ACal.tupL {K : AV → As → Prop} {G : Addr} {dl : List Dat} (hz : dl.length ≤ 1000) (H : K (.d (.tuple dl)) ⟨l, M⟩) : ACal (.type "tuple") [.v (.ref G)] c D ⟨l, M ++ [(G, LstA dl)]⟩ K := fun Q q h m N Mc ds vs t X y => by
 obtain ⟨v, rfl, h0⟩ := y.one
 obtain rfl : v = .ref G := h0
 obtain ⟨Mc₀, Mc₁, rfl, hM1, Y⟩ := X.drop
 cases hM1 with
 | cons hG t' =>
  cases t'
  obtain ⟨us, n, rfl, hus⟩ := hG
  have hgm : (G, W.listOf us.toArray n) ∈ c.all (Mc₀ ++ [(G, W.listOf us.toArray n)]) N := List.mem_append_left _ (List.mem_append_right _ (.head _))
  refine kde_tupleOf Y.F Y.W ⟨_, (X.W _ hgm).1, rfl, _, rfl⟩ (by rw [List.size_toArray, hus.length]; omega) rfl fun T h' F' W' lt => ?_
  refine q _ _ H h' m ((T, tupO us.toArray 0) :: N) Mc₀ ds _ t (Y.grow (fun q hq => .tail _ hq) F' (news_mem W' all_new) (Y.S.new lt (c.okT _ ⟨_, _, rfl⟩))) ?_
  exact DatIn.tuple (.head _) (DatAll.mono (fun q hq => .tail _ hq) hus)
theorem ints_are {B : Led} : ∀ {ns : List Int} {us : List Value}, DatAll B us (ns.map .int) → IntsAre us ns
 | [], _, h => by cases h; exact .nil
 | _ :: _, _, h => by
  cases h with
  | cons h r => cases h; exact .cons _ _ (ints_are r)
theorem ACmp.inT {K : AV → As → Prop} {i : Int} {ns : List Int} {r : Bool} (e : ns.any (· == i) = r) (H : K (.d (.bool r)) σ) : ACmp .In (.d (.int i)) (.d (.tuple (ns.map .int))) c D σ K := fun Q q h m N Mc ds vs t X z => by
 obtain ⟨_, _, rfl, y1, y2⟩ := z.two
 obtain ⟨t1, rfl⟩ := den_int y1
 obtain ⟨T, us, n', rfl, hm, hus⟩ := den_tup y2
 refine in_tuple_ints (News.isTup X.W (mem_all hm)) (ns := ns) (by simpa using ints_are hus) ?_
 rw [e]
 exact q _ _ H h m N Mc ds _ t X (.bool _)
@[reducible] noncomputable def aWt (I : Nat → As → Prop) (n : Nat) (K : AF → As → Prop) : AF → As → Prop
 | .next, σ => ∃ n' l, n' < n ∧ SubL l σ.l ∧ I n' ⟨l, σ.M⟩
 | .cont, σ => ∃ n' l, n' < n ∧ SubL l σ.l ∧ I n' ⟨l, σ.M⟩
 | .brk, σ => K .next σ
 | .ret a, σ => K (.ret a) σ
@[reducible] noncomputable def aWh (body : List Stmt) (f : Fi) (c : Cx) (I : Nat → As → Prop) (n : Nat) (K : AF → As → Prop) : Bool → As → Prop
 | true, σ => ASts body f c σ (aWt I n K)
 | false, σ => K .next σ
theorem ASt.whl {K : AF → As → Prop} {e : Expr} {body : List Stmt} {pos : Pos} (I : Nat → As → Prop) {n₀ : Nat} (hE : PassesOwn (MD c.w) c.A (c.env f) c.E) (h0 : I n₀ σ) (T : ∀ n σ₁, I n σ₁ → AIs e f c [] σ₁ (aWh body f c I n K)) : ASt (.While e body [] pos) f c σ K := fun Q q h m N Mc t X => by
 refine While_inv2 (ALJ c I) X.F X.W ⟨σ, N, Mc, h0, X.P, X.S, X.M, rfl⟩ ?_ hE
 rintro n m₁ _ h₁ tk₁ F₁ W₁ ⟨σ₁, N₁, Mc₁, hI, hP, hS, hM, rfl⟩
 refine T n σ₁ hI (fun _ b s₂ => if b = true then wpAny _ _ (execs body (c.env f)) (WhileStep2 c.h₀ c.L (st0 c h t) (ALJ c I) Q n) c.E s₂ else Q .next s₂) (fun b σ₂ k h₂ m₂ N₂ Mc₂ ds t₂ X₂ => ?_) h₁ m₁ N₁ Mc₁ [] tk₁ ⟨F₁, hP, W₁, hS, hM, .nil⟩
 obtain rfl := X₂.nil
 have fin : ∀ {σ₃ : As} {h₃ m₃ N₃ Mc₃} {t₃ : Nat}, (∃ n' l, n' < n ∧ SubL l σ₃.l ∧ I n' ⟨l, σ₃.M⟩) → Cs c [] σ₃ h₃ m₃ N₃ Mc₃ [] → ∃ h' tk m' nx n', st0 c h₃ t₃ = { st0 c h t with heap := h', toks := tk } ∧ Fr c.h₀ c.L h' m' ∧ News c.h₀ c.L h' nx ∧ n' < n ∧ ALJ c I n' m' nx := fun {σ₃ h₃ m₃ N₃ Mc₃ t₃} ⟨n', l, hn, hs, hI⟩ Y =>
  ⟨h₃, t₃, m₃, c.all Mc₃ N₃, n', rfl, Y.F, Y.W, hn, ⟨l, σ₃.M⟩, N₃, Mc₃, hI, (fun x a e => Y.P x a (hs.look x a e)), Y.S, Y.M, rfl⟩
 cases b with
 | false => exact q _ _ k h₂ m₂ N₂ Mc₂ _ t₂ X₂ rfl
 | true =>
  refine k (WhileStep2 c.h₀ c.L (st0 c h t) (ALJ c I) Q n) (fun fl σ₃ k₃ h₃ m₃ N₃ Mc₃ g t₃ Y y => ?_) h₂ m₂ N₂ Mc₂ t₂ X₂
  cases fl with
  | next => obtain rfl : g = .next := y; exact fin k₃ Y
  | cont => obtain rfl : g = .cont := y; exact fin k₃ Y
  | brk => obtain rfl : g = .brk := y; exact q _ _ k₃ h₃ m₃ N₃ Mc₃ _ t₃ Y rfl
  | ret a => obtain ⟨v, rfl, hv⟩ := y; exact q _ _ k₃ h₃ m₃ N₃ Mc₃ _ t₃ Y ⟨v, rfl, hv⟩
theorem Rsd.more {R : Obj → List (Addr × AO) → Prop} (H : Rsd c R) : Rsd c (fun oE M => ∃ M₁ M₂, M = M₁ ++ M₂ ∧ R oE M₁) := by
 obtain ⟨envc, outer, frs, JD, h1, h2, h3, h4, h5, h6, h7, h8, h9⟩ := H
 refine ⟨envc, outer, frs, JD, h1, h2, h3, h4, h5, h6, h7, h8, ?_⟩
 rintro e dE oE h' tk' m' _ M' N frs' ⟨M₁, M₂, rfl, hR⟩ a2 a3 a4 a5 a6 a7 a8 a9
 obtain ⟨s₁, s₂, rfl, b1, b2⟩ := a2.split
 refine h9 e dE oE h' tk' m' M₁ s₁ N frs' hR b1 (fun q hq => a3 q (List.mem_append_left _ hq)) a4 a5 a6 a7 (fun z hz => a8 z ?_) a9
 rcases List.mem_cons.mp hz with rfl | hz
 ·exact .head _
 ·exact .tail _ ((List.mem_append.mp hz).elim (fun hz => List.mem_append_left _ (List.mem_append_left _ hz)) (List.mem_append_right _))
end
section
variable {f : Fi} {c : Cx} {l : List (Str × AV)} {M : List (Addr × AO)} {D : List AV} {as : List AV} {K : AV → As → Prop} {fa : Addr} {dep uni : Nat} {q1 : Addr × AO}
theorem ACal.X1 {Rc : Obj → List (Addr × AO) → Prop} {R : AV → List (Addr × AO) → Prop} {RX : Obj → List (Addr × AO) → Prop} (hr : Rsd c Rc) (ct : ∀ B vs Mc, (∀ q ∈ c.B, q ∈ B) → DAll B as vs → MAll B [q1] Mc → FnXM c.w fa vs dep uni Mc B (PoA R B) (PoX RX B)) (hd : c.dp + dep < recursionLimit) (hu : c.un + uni < cLine)
  (HX : ∀ oE N', RX oE N' → Rc oE (N' ++ M)) (H : ∀ r N', R r N' → ∃ q', N' = [q'] ∧ K r ⟨l, q' :: M⟩) : ACal (.ref fa) as c D ⟨l, q1 :: M⟩ K :=
 ACal.Xr (M₀ := [q1]) (M₁ := M) hr ct hd hu HX fun r N' h => by
  obtain ⟨q', rfl, k⟩ := H r N' h
  exact k
theorem ACal.M1 {R : AV → List (Addr × AO) → Prop} (ct : ∀ B vs Mc, (∀ q ∈ c.B, q ∈ B) → DAll B as vs → MAll B [q1] Mc → FnM c.w fa vs dep uni Mc B (PoA R B)) (hd : c.dp + dep < recursionLimit) (hu : c.un + uni < cLine)
  (H : ∀ r N', R r N' → ∃ q', N' = [q'] ∧ K r ⟨l, q' :: M⟩) : ACal (.ref fa) as c D ⟨l, q1 :: M⟩ K :=
 ACal.MrB (M₀ := [q1]) (M₁ := M) ct hd hu fun r N' h => by
  obtain ⟨q', rfl, k⟩ := H r N' h
  exact k
theorem ACal.M1B {q1' : Addr × AO} {r : AV} (ct : ∀ B vs Mc, (∀ q ∈ c.B, q ∈ B) → DAll B as vs → MAll B [q1] Mc → FnM c.w fa vs dep uni Mc B (PoA (Is1 r [q1']) B)) (hd : c.dp + dep < recursionLimit) (hu : c.un + uni < cLine)
  (H : K r ⟨l, q1' :: M⟩) : ACal (.ref fa) as c D ⟨l, q1 :: M⟩ K := ACal.M1 ct hd hu fun r N' h => ⟨_, h.2, h.1 ▸ H⟩
theorem ACal.M2B {q2 q1' q2' : Addr × AO} {r : AV} (ct : ∀ B vs Mc, (∀ q ∈ c.B, q ∈ B) → DAll B as vs → MAll B [q1, q2] Mc → FnM c.w fa vs dep uni Mc B (PoA (Is1 r [q1', q2']) B)) (hd : c.dp + dep < recursionLimit) (hu : c.un + uni < cLine)
  (H : K r ⟨l, q1' :: q2' :: M⟩) : ACal (.ref fa) as c D ⟨l, q1 :: q2 :: M⟩ K :=
 ACal.MrB (M₀ := [q1, q2]) (M₁ := M) ct hd hu fun r N' h => by
  obtain ⟨rfl, rfl⟩ := h
  exact H
end

end
section --TA
theorem den_pair {B : Led} {x y : Str} {v : Value} (h : Den B (.d (.tuple [.str x, .str y])) v) : ∃ T t1 t2 n, v = .ref T ∧ (T, tupO [Value.str x t1, Value.str y t2].toArray n) ∈ B := by
 obtain ⟨T, us, n, rfl, hm, hus⟩ := den_tup h
 obtain ⟨v1, v2, rfl, y1, y2⟩ := (dall_map hus : DAll B [.d (.str x), .d (.str y)] us).two
 obtain ⟨t1, rfl⟩ := den_str y1
 obtain ⟨t2, rfl⟩ := den_str y2
 exact ⟨T, t1, t2, n, rfl, hm⟩
section
variable {f : Fi} {c : Cx} {l : List (Str × AV)} {M : List (Addr × AO)} {D : List AV} {σ : As} {x xn : Str} {pos px tp sp p2 : Pos} {k : Nat} {e r lo hi e₁ e₂ : Expr} {y dy C : Addr} {cs : List Nat} {i j : Nat}
theorem AEv.glb {K : AV → As → Prop} {z : Str} {t : Tok} (hg : ∀ w : World, nsIn (heapK w.params) mainGlobals x = some (some (.str z t))) (hx : f.is x .globalImplicit = true) (H : K (.d (.str z)) σ) : AEv (.Name x px) f c D σ K := fun Q q h m N Mc ds t' X => nmK X.F (hg c.w) hx (q _ _ H h m N Mc ds _ t' X (.str z t))
theorem ASub.str {K : AV → As → Prop} (hi : i < cs.length) (hl : cs.length ≤ 10000) (hs : Nsl r = true) (H : K (.d (.str (S [cs[i]]))) σ) : ASub (.d (.str (S cs))) (.d (.int i)) e r c D σ K := fun Q q h m N Mc ds vs t X w => by
 obtain ⟨_, _, rfl, y1, y2⟩ := w.two
 obtain ⟨t1, rfl⟩ := den_str y1
 obtain ⟨t2, rfl⟩ := den_int y2
 refine kba_turn (value' := PySem.Expr.Name (PySem.Str.ofString "_") ⟨0, 0, 0, 0⟩) (fun _ => rfl) (item_str (fitsSsize_of (N := 9223372036854775808) (by omega) (by omega) (Int.le_refl _)) (by rw [S_len]; omega) (by rw [S_len]; omega) (fun _ => ?_) (Nsl.sub hs) (fun _ => rfl))
 rw [S_item hi]
 exact q _ _ H h m N Mc ds _ (t + 1) X (.str _ _)
noncomputable def slcK (a b : AV) (K : AV → As → Prop) (d : AV) (σ' : As) : Prop := ∃ (cs : List Nat) (i j : Int), a = .d (.str (S cs)) ∧ b = .d (.int i) ∧ d = .d (.int j) ∧ cs.length ≤ 10000 ∧ K (.d (.str (Txt.slice (S cs) (some i) (some j)))) σ'
theorem slcK.mk {K : AV → As → Prop} (hl : cs.length ≤ 10000) (h : i ≤ j) (hj : j ≤ cs.length) (H : K (.d (.str (S ((cs.drop i).take (j - i))))) σ) : slcK (.d (.str (S cs))) (.d (.int i)) K (.d (.int j)) σ := ⟨cs, _, _, rfl, rfl, rfl, hl, by rw [S_slice h hj]; exact H⟩
theorem slcK.one {K : AV → As → Prop} (hl : cs.length ≤ 10000) (h : i ≤ cs.length) (H : K (.d (.str (S ((cs.drop i).take 1)))) σ) : slcK (.d (.str (S cs))) (.d (.int i)) K (.d (.int (i + 1))) σ := ⟨cs, _, _, rfl, rfl, rfl, hl, by rw [S_slice1 h]; exact H⟩
theorem AEv.slc {K : AV → As → Prop} (H : AEv e f c D σ (fun a σ₁ => AEv lo f c (a :: D) σ₁ (fun b σ₂ => AEv hi f c (b :: a :: D) σ₂ (slcK a b K)))) : AEv (.Subscript e (.Slice (some lo) (some hi) Option.none sp) pos) f c D σ K := fun Q q h m N Mc ds t X =>
 Subscript_ (H (fun ds a s₁ => wpAny _ _ (eval (.Slice (some lo) (some hi) Option.none sp) _) (fun b s₂ => wpAny _ _ (subscriptTail e _ a b) (Q ds) _ s₂) _ s₁) (fun a σ₁ k1 h m N Mc ds v t X y => wpAny_Slice (evalPart_some_step
  (k1 (fun ds' b s₂ => wpAny _ _ (evalPart (some hi) _) (fun u s₂ => wpAny _ _ (evalPart Option.none _) (fun st s₃ => wpAny _ _ (subscriptTail e _ (ds'.headD .none) (.ref s₃.heap.objs.size)) (Q ds'.tail) _ { s₃ with heap := s₃.heap.push { cls := .type "slice", data := .fields #[b, u, st] } }) _ s₂) _ s₂) (fun b σ₂ k2 h m N Mc ds' v' t X' y' => evalPart_some_step
   (k2 (fun ds'' u s₂ => wpAny _ _ (evalPart Option.none _) (fun st s₃ => wpAny _ _ (subscriptTail e _ (ds''.tail.headD .none) (.ref s₃.heap.objs.size)) (Q ds''.tail.tail) _ { s₃ with heap := s₃.heap.push { cls := .type "slice", data := .fields #[ds''.headD .none, u, st] } }) _ s₂) (fun u σ₃ k3 h m N Mc ds'' v'' t X'' y'' => by
    obtain ⟨bv, r', rfl, yb, X₂⟩ := X''.pop
    obtain ⟨av, r'', rfl, ya, X₃⟩ := X₂.pop
    obtain ⟨cs, i, j, rfl, rfl, rfl, hl, k3⟩ := k3
    obtain ⟨t1, rfl⟩ := den_str ya
    obtain ⟨t2, rfl⟩ := den_int yb
    obtain ⟨t3, rfl⟩ := den_int y''
    refine evalPart_none_step (kba_turn (value' := PySem.Expr.Name (PySem.Str.ofString "_") ⟨0, 0, 0, 0⟩) (fun _ => rfl) (slice_strN_ss_len (s := st0 c h t) X₃.F X₃.W (fun h' t' k F' W' _ => q _ _ k3 h' m N Mc _ _ k ⟨F', X₃.P, W', X₃.S, X₃.M, X₃.D⟩ (.str _ _)) (by with_unfolding_all rfl) (fun _ => rfl) (by rw [S_len, sizeLine_eq]; omega)))) h m N Mc _ t (X'.push y'))) h m N Mc (v :: ds) t (X.push y)))) h m N Mc ds t X)
noncomputable def andK (e₂ : Expr) (f : Fi) (c : Cx) (D : List AV) (K : AV → As → Prop) (a : AV) (σ₁ : As) : Prop := ∃ b : Bool, a = .d (.bool b) ∧ (b = true → AEv e₂ f c D σ₁ K) ∧ (b = false → K (.d (.bool false)) σ₁)
theorem andK.yes {K : AV → As → Prop} (H : AEv e₂ f c D σ K) : andK e₂ f c D K (.d (.bool true)) σ := ⟨true, rfl, fun _ => H, fun h => nomatch h⟩
theorem andK.no {K : AV → As → Prop} (H : K (.d (.bool false)) σ) : andK e₂ f c D K (.d (.bool false)) σ := ⟨false, rfl, (fun h => nomatch h), fun _ => H⟩
theorem AEv.band {K : AV → As → Prop} (H : AEv e₁ f c D σ (andK e₂ f c D K)) : AEv (.BoolOp .And [e₁, e₂] pos) f c D σ K := fun Q q h m N Mc ds t X =>
 BoolOp_and (H (fun ds v s₁ => wpAny _ _ (truthy v) (fun b s₂ => if b then wpAny _ _ (eval (.BoolOp .And [e₂] pos) _) (Q ds) _ s₂ else Q ds v s₂) _ s₁) (fun a σ₁ k h m N Mc ds v t X y => by
  obtain ⟨b, rfl, k1, k2⟩ := k
  cases y
  refine wpAny_truthy_bool ?_
  cases b with
  | true => exact BoolOp_one (k1 rfl Q q h m N Mc ds t X)
  | false => exact q _ _ (k2 rfl) h m N Mc ds _ t X (.bool _)) h m N Mc ds t X)
theorem ASt.aug {K : AF → As → Prop} (hv : l.lookup xn = some (.v (.ref y))) (hl : f.is xn .local = true) (hx : (y, instObj C dy) ∈ c.B) (hg : ∀ w, Att w C (Str.ofString "at")) (hp : ∀ w, Put w C (Str.ofString "at")) (H : K .next ⟨l, (dy, ScA cs (i + 1)) :: M⟩) : ASt (.AugAssign (.Attribute (.Name xn px) (Str.ofString "at") tp) .Add (.Constant (.int 1) k p2) pos) f c ⟨l, (dy, ScA cs i) :: M⟩ K := fun Q q h m N Mc t X => by
 obtain ⟨v, hm, hv'⟩ := X.P _ _ hv
 obtain rfl : v = .ref y := hv'
 refine wpAny_AugAssign_AttributeAny (nmL X.F hm hl ?_)
 refine AGet.g0 (K := fun a σ' => a = .d (.int i) ∧ σ' = ⟨l, (dy, ScA cs i) :: M⟩) hx hg rfl rfl ⟨rfl, rfl⟩ true (fun _ old s₂ => wpAny _ _ (eval (.Constant (.int 1) k p2) _) (fun v s₃ => wpAny _ _ (inplaceOp .Add old v) (fun new s₄ => wpAny _ _ (setAttr (.ref y) (Str.ofString "at") new) (fun _ => Q .next) _ s₄) _ s₃) _ s₂) (fun a σ' k h m N Mc ds v t X yv => ?_) h m N Mc [] [.ref y] t X (.cons rfl .nil)
 obtain ⟨rfl, rfl⟩ := k
 obtain ⟨u, rfl⟩ := den_int yv
 refine wpAny_Constant_int (iadd_int ?_)
 exact ASetA.s0 (K := fun σ' => K .next σ') hx hp rfl rfl rfl H (fun _ => Q .next) (fun σ'' k h m N Mc ds t X => q _ _ k h m N Mc _ t ⟨X.F, X.P, X.W, X.S, X.M, .nil⟩ rfl) h m N Mc [] [.ref y, .int (i + 1) _] _ ⟨X.F, X.P, X.W, X.S, X.M, .nil⟩ (.cons rfl (.cons (show Den _ (.d (.int ((i + 1 : Nat) : Int))) _ from DatIn.int _ _) .nil))
theorem ACmp.inP {K : AV → As → Prop} {x y z : Str} {r : Bool} (e : (x == z || y == z) = r) (H : K (.d (.bool r)) σ) : ACmp .In (.d (.str z)) (.d (.tuple [.str x, .str y])) c D σ K := fun Q q h m N Mc ds vs t X w => by
 obtain ⟨_, _, rfl, y1, y2⟩ := w.two
 obtain ⟨t1, rfl⟩ := den_str y1
 obtain ⟨T, t2, t3, n, rfl, hm⟩ := den_pair y2
 refine in_pairS X.W (mem_all hm) ?_
 rw [e]
 exact q _ _ H h m N Mc ds _ t X (.bool _)
theorem ACmp.ninP {K : AV → As → Prop} {x y z : Str} {r : Bool} (e : (x == z || y == z) = !r) (H : K (.d (.bool r)) σ) : ACmp .NotIn (.d (.str z)) (.d (.tuple [.str x, .str y])) c D σ K := fun Q q h m N Mc ds vs t X w => by
 obtain ⟨_, _, rfl, y1, y2⟩ := w.two
 obtain ⟨t1, rfl⟩ := den_str y1
 obtain ⟨T, t2, t3, n, rfl, hm⟩ := den_pair y2
 refine notIn_pairS X.W (mem_all hm) ?_
 rw [e, Bool.not_not]
 exact q _ _ H h m N Mc ds _ t X (.bool _)
@[reducible] noncomputable def Cx.noE (c : Cx) : Cx := { c with E := fun _ _ => False }
theorem Cs.setE {ds : List Value} {h : Heap} {m : Str → Option Value} {N Mc : Led} (X : Cs c D σ h m N Mc ds) : Cs c.noE D σ h m N Mc ds := ⟨X.F, X.P, X.W, ⟨X.S.nt, X.S.nd, X.S.off, X.S.ok⟩, X.M, X.D⟩
theorem Cs.setE' {ds : List Value} {h : Heap} {m : Str → Option Value} {N Mc : Led} (X : Cs c.noE D σ h m N Mc ds) : Cs c D σ h m N Mc ds := ⟨X.F, X.P, X.W, ⟨X.S.nt, X.S.nd, X.S.off, X.S.ok⟩, X.M, X.D⟩
@[reducible] noncomputable def aTry (K : AF → As → Prop) : AF → As → Prop
 | .next, _ => False
 | fl, σ => K fl σ
theorem ASt.try0 {K : AF → As → Prop} {b orelse : List Stmt} {h₀ : ExceptHandler} {hs : List ExceptHandler} (H : ASts b f c.noE σ (aTry K)) : ASt (.Try b (h₀ :: hs) orelse [] pos) f c σ K := fun Q q h m N Mc t X =>
 wpAny_Try_except (wpAny_mono (H (fun fl s => fl ≠ .next ∧ Q fl s) (fun fl σ' k h m N Mc g t X y => by
  have X' := X.setE'
  cases fl with
  | next => exact k.elim
  | brk => cases y; exact ⟨(fun h => nomatch h), q _ _ k h m N Mc _ t X' rfl⟩
  | cont => cases y; exact ⟨(fun h => nomatch h), q _ _ k h m N Mc _ t X' rfl⟩
  | ret a => obtain ⟨v, rfl, y'⟩ := y; exact ⟨(fun h => nomatch h), q _ _ k h m N Mc _ t X' ⟨v, rfl, y'⟩⟩) h m N Mc t X.setE) (fun fl s k => by
   obtain ⟨k1, k2⟩ := k
   cases fl with
   | next => exact absurd rfl k1
   | _ => exact k2) (fun _ _ k => k.elim))
theorem ACmp.ninS {K : AV → As → Prop} {n : Nat} {x : Str} {r : Bool} (e : decide (n ∈ x.cps.toList) = !r) (H : K (.d (.bool r)) σ) : ACmp .NotIn (.d (.str (S [n]))) (.d (.str x)) c D σ K := ACmp.of (fun B va vb Q s y1 y2 h => by
 obtain ⟨t1, rfl⟩ := den_str y1
 obtain ⟨t2, rfl⟩ := den_str y2
 refine SB.notContains ?_
 rw [show x = S x.cps.toList from rfl, S_in, e, Bool.not_not]
 exact h) H
end

end
section --C2
variable {p : Program} {loose : List Str} {mean : ExcName → Option Value} {mg mb : Str → Option Value}
variable {gd : Option (List Code)} {dp un : Nat} {h₀ : Heap} {L : Addr} {m : Str → Option Value} {s : Shared} {Q E : Value → Shared → Prop}
theorem ntinit_fn (w : World) {x dx : Addr} {cs : List Nat} {t : Tok} : FnM w 130 [.ref x, .str (S cs) t] 1 8 [(dx, dictOf [] 0)] [(x, instObj 154 dx)] (fun r M' add => add = [] ∧ r = .none ∧ ∃ o', M' = [(dx, o')] ∧ ScD cs ((0 : Nat) : Int) o') := by
 tbr_iter (FnM.ofS [(Str.ofString "self", .ref x), (Str.ofString "text", .str (S cs) t)])
 intro p loose mean mg mb fr gd dp un h₀ L h tk s JD X T F N hx hJ hd hu
 k_steps
 exact OutM.sub1 (by assumption) (by assumption) (.head _) (fun _ h => .tail _ h) ⟨rfl, rfl, _, rfl, ScD.mk⟩ NoTup.dic
theorem psinit_fn (w : World) {x dx : Addr} {cs : List Nat} {t : Tok} : FnM w 193 [.ref x, .str (S cs) t] 1 8 [(dx, dictOf [] 0)] [(x, instObj 273 dx)] (fun r M' add => add = [] ∧ r = .none ∧ ∃ o', M' = [(dx, o')] ∧ ScD cs ((0 : Nat) : Int) o') := by
 tbr_iter (FnM.ofS [(Str.ofString "self", .ref x), (Str.ofString "text", .str (S cs) t)])
 intro p loose mean mg mb fr gd dp un h₀ L h tk s JD X T F N hx hJ hd hu
 k_steps
 exact OutM.sub1 (by assumption) (by assumption) (.head _) (fun _ h => .tail _ h) ⟨rfl, rfl, _, rfl, ScD.mk⟩ NoTup.dic
theorem nt_make {w : World} {fr' : Option (List Env)} {JD : Led} {cs : List Nat} {t : Tok}
  (hF : Fr h₀ L s.heap m) (hX : (heapK w.params).In h₀) (hT : Top p loose mean mg mb h₀) (hN : News h₀ L s.heap JD) (hd : dp + 6 < recursionLimit) (hu : un + 20 < cLine)
  (ret : ∀ x dx o' h' tk', ScD cs ((0 : Nat) : Int) o' → (∀ p ∈ JD, p.1 < dx) → dx < x → Fr h₀ L h' m → News h₀ L h' ((dx, o') :: (x, instObj 154 dx) :: JD) → Q (.ref x) { s with heap := h', toks := tk' }) :
  wpAny (MD w) (At fr' gd dp un) (call (.ref 154) [.str (S cs) t]) Q E s :=
 make_use (fI := 130) (by kernel_rfl) (by kernel_rfl) (by kernel_rfl) (fun x dx => ntinit_fn w) hF hX hT hN hd hu (Nat.le_of_ble_eq_true (by kernel_rfl)) (Nat.le_of_ble_eq_true (by kernel_rfl)) ret
theorem ps_make {w : World} {fr' : Option (List Env)} {JD : Led} {cs : List Nat} {t : Tok}
  (hF : Fr h₀ L s.heap m) (hX : (heapK w.params).In h₀) (hT : Top p loose mean mg mb h₀) (hN : News h₀ L s.heap JD) (hd : dp + 6 < recursionLimit) (hu : un + 20 < cLine)
  (ret : ∀ x dx o' h' tk', ScD cs ((0 : Nat) : Int) o' → (∀ p ∈ JD, p.1 < dx) → dx < x → Fr h₀ L h' m → News h₀ L h' ((dx, o') :: (x, instObj 273 dx) :: JD) → Q (.ref x) { s with heap := h', toks := tk' }) :
  wpAny (MD w) (At fr' gd dp un) (call (.ref 273) [.str (S cs) t]) Q E s :=
 make_use (fI := 193) (by kernel_rfl) (by kernel_rfl) (by kernel_rfl) (fun x dx => psinit_fn w) hF hX hT hN hd hu (Nat.le_of_ble_eq_true (by kernel_rfl)) (Nat.le_of_ble_eq_true (by kernel_rfl)) ret

end
section --N2
theorem whole_fn (w : World) {ds : List Nat} {t : Tok} (hd' : ∀ c ∈ ds, isDig c = true) (hlen : ds.length ≤ 10000) : FnP w 165 [.str (S ds) t] 1 16 [] (fun r add => add = [] ∧ ∃ t', r = .int (wholeOf ds) t') := by
 tbr_iter (FnP.of [(Str.ofString "digits", .str (S ds) t)])
 intro p loose mean mg mb fr gd dp un h₀ L h tk s JD X T F N hJ hd hu
 iterate 5 (first | (k_unfold; (try dsimp only)) | (k_end; wrow_close) | walk1 | (dsimp only; walk1) | (leave1; walk_say "STEP leave1"; try dsimp only))
 rename Fr _ _ _ _ => F
 rename News _ _ _ _ => N
 with_unfolding_all refine For_invVF F rfl rfl ?_
 iterate 1 (first | (k_unfold; (try dsimp only)) | (k_end; wrow_close) | walk1 | (dsimp only; walk1) | (leave1; walk_say "STEP leave1"; try dsimp only))
 refine iter_str (fun i m nx => nx = JD ∧ ∃ dv t', m = fun y => if y = Str.ofString "number" then some (Value.int (wholeOf (ds.take i)) t') else if y = Str.ofString "digit" then dv else List.lookup y [(Str.ofString "digits", Value.str (S ds) t)].reverse) rfl F N ⟨rfl, none, _, loc_init rfl⟩ ?_ ?_
 ·rintro i v m₁ nx h₂ tk₂ own hi ⟨c, u, hc, rfl⟩ hoff ⟨e, dv, t', rfl⟩ F₂ N₂
  subst e
  clear F N
  have hi' : i < ds.length := by simpa [S] using hi
  have hc' : c = ds[i] := by simpa [S, hi'] using hc.symm
  have hcd : isDig c = true := hd' c (hc' ▸ List.getElem_mem hi')
  have hge : (48 : Int) ≤ c := by
   unfold isDig at hcd
   simp at hcd
   omega
  have hfd := find_dig hcd
  k_steps
  have en : wholeOf (ds.take i) * 10 + Txt.find (Str.ofString "0123456789") ⟨#[c]⟩ = wholeOf (ds.take (i + 1)) := by rw [hfd, take_snoc hi', ← hc', wholeOf_snoc]
  rename Fr _ _ _ _ => F₃
  rename News _ _ _ _ => N₃
  rw [en] at F₃
  exact ⟨_, _, _, _, _, rfl, F₃, N₃, fun p hp => List.mem_append_left _ hp, fun p hp => List.mem_append_right _ hp, hoff, rfl, _, _, loc_step⟩
 ·rintro m₁ nx h₂ tk₂ ⟨e, dv, t', rfl⟩ F₂ N₂
  subst e
  clear F N
  k_steps
  have e : ds.take (S ds).cps.size = ds := by simp [S]
  rw [e]
  exact OutP.mk [] (by assumption) (by assumption) (fun _ h => h) ⟨rfl, _, rfl⟩ Tups.nil

end
section --PL2
theorem S_app (a b : List Nat) : S a ++ S b = S (a ++ b) := by
 show Str.mk _ = Str.mk _
 simp [S]
theorem join_S : ∀ gs : List (List Nat), PySem.Str.join (Str.ofString "") (gs.map S) = S gs.flatten
 | [] => by
  have : Str.ofString "" = S [] := by decide +kernel
  rfl
 | [x] => by simp [PySem.Str.join]
 | x :: y :: r => by
  have e : Str.ofString "" = S [] := by decide +kernel
  have ih := join_S (y :: r)
  rw [List.map_cons, List.map_cons, PySem.Str.join, ← List.map_cons, ih, e, S_app, S_app, List.flatten_cons, List.append_nil]
  ·simp
  ·intro h; cases h
inductive PcT (b : Bool) : List Int → List (List Nat) → Prop
 | nil : PcT b [] []
 | snoc {xs : List Int} {gs : List (List Nat)} {x : Int} {s : List Nat} : PcT b xs gs → x ∈ vals5 → s ∈ (if b = true ∧ xs = [] then seps2 else seps4) → PcT b (xs ++ [x]) (gs ++ [s ++ txtN x])
theorem sepLen {s : List Nat} {p : Prop} [Decidable p] (h : s ∈ if p then seps2 else seps4) : s.length ≤ 3 := by
 split at h
 ·exact (by decide : ∀ s ∈ seps2, s.length ≤ 3) s h
 ·exact (by decide : ∀ s ∈ seps4, s.length ≤ 3) s h
theorem txtLen {x : Int} (h : x ∈ vals5) : (txtN x).length ≤ 2 := (by decide : ∀ x ∈ vals5, (txtN x).length ≤ 2) x h
theorem PcT.len {b : Bool} {xs : List Int} {gs : List (List Nat)} (h : PcT b xs gs) : gs.length = xs.length ∧ (∀ g ∈ gs, g.length ≤ 5) ∧ gs.flatten.length ≤ 5 * gs.length := by
 induction h with
 | nil => exact ⟨rfl, (fun _ h => nomatch h), by simp⟩
 | snoc h hx hs ih =>
  have h1 := sepLen hs
  have h2 := txtLen hx
  refine ⟨by simp [ih.1], fun g hg => ?_, ?_⟩
  ·rcases List.mem_append.mp hg with hg | hg
   ·exact ih.2.1 g hg
   ·rw [List.mem_singleton.mp hg, List.length_append]; omega
  ·have := ih.2.2
   simp only [List.flatten_append, List.flatten_cons, List.flatten_nil, List.append_nil, List.length_append, List.length_cons, List.length_nil] at this ⊢
   omega
theorem vals5_vals {x : Int} (h : x ∈ vals5) : x ∈ vals := (by decide : ∀ x ∈ vals5, x ∈ vals) x h
theorem GTail.snoc {xs : List Int} {t s : List Nat} {x : Int} (h : GTail xs t) (hs : s ∈ seps4) (hx : x ∈ vals) : GTail (xs ++ [x]) (t ++ (s ++ txtN x)) := by
 induction h with
 | nil => simpa using GTail.cons hs hx .nil
 | @cons s' t y ys h1 h2 h3 ih =>
  have := GTail.cons h1 h2 ih
  simpa [List.append_assoc] using this
theorem PcT.tail {xs : List Int} {gs : List (List Nat)} (h : PcT false xs gs) : GTail xs gs.flatten := by
 induction h with
 | nil => exact .nil
 | snoc h hx hs ih =>
  have := ih.snoc (by simpa using hs) (vals5_vals hx)
  simpa using this
theorem PcT.first {xs : List Int} {gs : List (List Nat)} (h : PcT true xs gs) : xs = [] ∨ ∃ s x xs' t, xs = x :: xs' ∧ gs.flatten = s ++ (txtN x ++ t) ∧ s ∈ seps2 ∧ x ∈ vals ∧ GTail xs' t := by
 induction h with
 | nil => exact .inl rfl
 | @snoc xs gs x s h hx hs ih =>
  rcases ih with rfl | ⟨s', x', xs', t, rfl, e, h1, h2, h3⟩
  ·have e := List.length_eq_zero_iff.mp h.len.1
   subst e
   rw [if_pos (by simp)] at hs
   exact .inr ⟨s, x, [], [], rfl, by simp, hs, vals5_vals hx, .nil⟩
  ·rw [if_neg (by simp)] at hs
   exact .inr ⟨s', x', xs' ++ [x], t ++ (s ++ txtN x), rfl, by simp [e, List.append_assoc], h1, h2, h3.snoc hs (vals5_vals hx)⟩
theorem str_txt {x : Int} (h : x ∈ vals5) : Str.ofString (toString x) = S (txtN x) := by
 simp only [vals5, List.mem_cons, List.not_mem_nil, or_false] at h
 rcases h with rfl | rfl | rfl | rfl | rfl <;> decide +kernel
inductive TxA (c : Nat) : Nat → List Nat → List Cmd → Nat → Prop
 | zero : TxA c 0 [32, c] [] c
 | one {s t : List Nat} {x : Int} {xs : List Int} : s ∈ seps2 → x ∈ vals → GTail xs t → xs.length + 1 = manyN c → TxA c 1 (32 :: c :: (s ++ (txtN x ++ t))) [(c, x :: xs)] (behind c)
 | two {s t u z : List Nat} {x y : Int} {xs ys : List Int} {e : Nat} : s ∈ seps2 → x ∈ vals → GTail xs t → xs.length + 1 = manyN c → u ∈ seps4 → y ∈ vals → GTail ys z → ys.length + 1 = manyN (behind c) →
   TxA c 2 (32 :: c :: (s ++ (txtN x ++ (t ++ (u ++ (txtN y ++ z)))))) [(c, x :: xs), (behind c, y :: ys)] e
theorem TxA.done {c i e : Nat} {txt : List Nat} {cmds : List Cmd} (h : TxA c i txt cmds e) (hc : c ∈ lets) (hi : 0 < i) : CmdT c txt cmds := by
 cases h with
 | zero => omega
 | one h1 h2 h3 h4 => exact .one hc h1 h2 h3 h4
 | two h1 h2 h3 h4 h5 h6 h7 h8 => exact .two hc h1 h2 h3 h4 h5 h6 h7 h8
theorem TxA.next {c i e : Nat} {txt : List Nat} {cmds : List Cmd} {xs : List Int} {gs : List (List Nat)} (h : TxA c i txt cmds e) (hi : i < 2) (hl : xs.length = manyN e) (hp : 0 < manyN e) (hg : PcT (decide (i = 0)) xs gs) : TxA c (i + 1) (txt ++ gs.flatten) (cmds ++ [(e, xs)]) (behind e) := by
 cases h with
 | zero =>
  rcases PcT.first hg with rfl | ⟨s, x, xs', t, rfl, e1, h1, h2, h3⟩
  ·simp at hl; omega
  ·rw [e1]
   exact .one h1 h2 h3 (by simpa using hl)
 | one h1 h2 h3 h4 =>
  have := PcT.tail hg
  generalize gs.flatten = F at this
  cases this with
  | nil => simp at hl; omega
  | cons h5 h6 h7 =>
   have := TxA.two (e := behind (behind c)) h1 h2 h3 h4 h5 h6 h7 (by simpa using hl)
   simpa [List.append_assoc] using this
 | two => omega

end
section --EC
section
open LCg LCp
variable {prog : Program} {w : World} {A : Around} {E : Value → Shared → Prop} {s : Shared} {h₀ : Heap} {L : Addr} {m : Str → Option Value} {env : Env}
noncomputable def EnTurn (prog : Program) (w : World) (A : Around) (h₀ : Heap) (L : Addr) (m : Str → Option Value) (env : Env) (elt : PySem.Expr) (x x₂ : Str) (scope : Scope) (cl : List (Str × Addr)) (s : Shared) (items : List Value) (J : Nat → List Value → Led → Prop) : Prop :=
 ∀ i ys nx e it C D oe oi oC t v₂ m₂ h tk (E' : Value → Shared → Prop), items[i]? = some v₂ → J i ys nx → NsObj oC m₂ → m₂ x = some (.int (i : Int) t) → m₂ x₂ = some v₂ → Fr h₀ L h m → News h₀ L h ((e, oe) :: (it, oi) :: (C, oC) :: (D, lst ys) :: nx) →
  (∀ p ∈ nx, p.1 ≠ e ∧ p.1 ≠ it ∧ p.1 ≠ C ∧ p.1 ≠ D) → (e ≠ C ∧ it ≠ C ∧ D ≠ C ∧ oe.cls ≠ .type "tuple" ∧ oi.cls ≠ .type "tuple" ∧ h₀.objs.size ≤ C) → wpAny (model prog w) A (eval elt (compEnvC scope cl C env))
   (fun y s₂ => ∃ h' tk' nx' oC' m', s₂ = { s with heap := h', toks := tk' } ∧ NsObj oC' m' ∧ Fr h₀ L h' m ∧ News h₀ L h' ((e, oe) :: (it, oi) :: (C, oC') :: (D, lst ys) :: nx') ∧ (∀ p ∈ nx', p.1 ≠ e ∧ p.1 ≠ it ∧ p.1 ≠ C ∧ p.1 ≠ D) ∧ J (i + 1) (ys ++ [y]) nx') E' { s with heap := h, toks := tk }
noncomputable def EnFin (h₀ : Heap) (L : Addr) (m : Str → Option Value) (s : Shared) (n : Nat) (J : Nat → List Value → Led → Prop) (Q : Value → Shared → Prop) : Prop :=
 ∀ ys nx D h tk, J n ys nx → Fr h₀ L h m → News h₀ L h ((D, lst ys) :: nx) → (∀ p ∈ nx, p.1 ≠ D) → Q (.ref D) { s with heap := h, toks := tk }
noncomputable def EnS (prog : Program) (w : World) (A : Around) (h₀ : Heap) (L : Addr) (m : Str → Option Value) (env : Env) (elt : PySem.Expr) (x x₂ : Str) (scope : Scope) (cl : List (Str × Addr)) (Q : Value → Shared → Prop) (xv : Value) (s : Shared) : Prop :=
 ∃ (e it l : Addr) (items : List Value) (nn : Nat) (nx : Led) (J : Nat → List Value → Led → Prop), xv = .ref e ∧ A.handled = none ∧ Fr h₀ L s.heap m ∧ News h₀ L s.heap nx ∧ (∀ i ys nx, J i ys nx → (l, W.listOf items.toArray nn) ∈ nx) ∧ e ≠ it ∧ L ≠ e ∧ L ≠ it ∧ h₀.get? e = none ∧ h₀.get? it = none ∧
  (∀ p ∈ nx, p.1 ≠ e ∧ p.1 ≠ it) ∧ IsEnum s.heap e it 0 .none ∧ s.heap.IsListIter it l 0 ∧ items.length ≤ sizeLine ∧ J 0 [] nx ∧ EnTurn prog w A h₀ L m env elt x x₂ scope cl s items J ∧ EnFin h₀ L m s items.length J Q
theorem block_E {elt iter : PySem.Expr} {x x₂ : Str} {px px₂ tp : Pos} {tk} {scope : Scope} {cl : List (Str × Addr)} {pos : Pos} {s₂ : Shared} {I it l : Addr} {items : List Value} {nn : Nat} {news : Led} {J : Nat → List Value → Led → Prop} {RR : Value → Addr → Result → Shared → Prop}
  (hcell : ∀ y ∈ scope.names, y.2 ≠ .cell) (hkind : scope.kind = .function) (hx : scope.names.lookup x = some .local) (hx₂ : scope.names.lookup x₂ = some .local) (hxx : x ≠ x₂)
  (hh : A.handled = none) (F : Fr h₀ L s₂.heap m) (N : News h₀ L s₂.heap news) (hJl : ∀ i ys nx, J i ys nx → (l, W.listOf items.toArray nn) ∈ nx) (hei : I ≠ it) (hLI : L ≠ I) (hLit : L ≠ it) (hI₀ : h₀.get? I = none) (hit₀ : h₀.get? it = none)
  (off : ∀ p ∈ news, p.1 ≠ I ∧ p.1 ≠ it) (he : IsEnum s₂.heap I it 0 .none) (hli : s₂.heap.IsListIter it l 0) (hsz : items.length ≤ sizeLine) (hj : J 0 [] news) (turn : EnTurn prog w A h₀ L m env elt x x₂ scope cl s₂ items J)
  (hRR : ∀ D C h tk m' ys nx, J items.length ys nx → Fr h₀ L h m → News h₀ L h ((D, lst ys) :: nx) → (∀ p ∈ nx, p.1 ≠ D) → h.Ns C m' → h₀.get? C = none → C ≠ L → D ≠ C → (∀ p ∈ nx, p.1 ≠ C) → RR (.ref D) C (.ok .next) { s₂ with heap := h, toks := tk }) :
  wpAny (model prog w) A (newList []) (fun acc s₃ => wpAny (model prog w) A (newFunctionEnv scope env.globals cl [] env.qual none .none (some env)) (fun cenv s₄ =>
   codeAny (model prog w) A (.compStart (.ListComp elt [⟨.Tuple [.Name x px, .Name x₂ px₂] tk tp, iter, [], 0⟩] scope pos) 0 (.ref I) acc { cenv with scope := relabel scope env }) (RR acc cenv.locals) s₄) E s₃) E s₂ := by
 have hln := hJl _ _ _ hj
 have hl₀ : s₂.heap.IsList l items.toArray := ⟨_, (N _ hln).1, rfl, nn, rfl⟩
 have hle : l ≠ I := (off _ hln).1
 have hlit : l ≠ it := (off _ hln).2
 have Wk := WalksT.enumerate (prog := prog) (w := w) hh I it l hei hle hlit items.toArray
 refine wpAny_newObj_type (wpAny_newFunctionEnv hcell (by intro y hy; simp at hy) (fun h₁ hns₁ hsb₁ => ?_) hkind)
 dsimp only at hns₁ hsb₁ ⊢
 generalize hH2 : s₂.heap.push { cls := .type "list", dict := none, data := .seq ([] : List Value).toArray } = H2 at hns₁ hsb₁ ⊢
 have hC : H2.objs.size = s₂.heap.objs.size + 1 := by rw [← hH2, Heap.size_push]
 have hDC : s₂.heap.objs.size ≠ H2.objs.size := by rw [hC]; exact Nat.ne_of_lt (Nat.lt_succ_self _)
 have below : ∀ b, b < s₂.heap.objs.size → b ≠ H2.objs.size ∧ b ≠ s₂.heap.objs.size := fun b hb => ⟨by rw [hC]; exact Nat.ne_of_lt (Nat.lt_succ_of_lt hb), Nat.ne_of_lt hb⟩
 have hIlt : I < s₂.heap.objs.size := Heap.lt_size he
 have hitlt : it < s₂.heap.objs.size := by obtain ⟨_, x, _⟩ := hli; exact Heap.lt_size x
 have hllt : l < s₂.heap.objs.size := Heap.lt_size (N _ hln).1
 have old : ∀ b o, s₂.heap.get? b = some o → h₁.get? b = some o := fun b o e => hsb₁.extBut b o (below b (Heap.lt_size e)).1 (Heap.get?_push_of_some _ (hH2 ▸ Heap.get?_push_of_some _ e))
 have hacc : h₁.get? s₂.heap.objs.size = some (lst []) := hsb₁.extBut _ _ hDC (Heap.get?_push_of_some _ (hH2 ▸ Heap.get?_push_size _ rfl))
 have fresh : ∀ a, s₂.heap.objs.size ≤ a → s₂.heap.get? a = none := fun a ha => by
  cases e : s₂.heap.get? a with
  | none => rfl
  | some o' => exact absurd (Heap.lt_size e) (Nat.not_lt.mpr ha)
 have fresh₀ : ∀ a, s₂.heap.objs.size ≤ a → h₀.get? a = none := fun a ha => by
  cases e : h₀.get? a with
  | none => rfl
  | some o' => have := F.keep a o' e; rw [fresh a ha] at this; cases this
 have hD₀ : h₀.get? s₂.heap.objs.size = none := fresh₀ _ (Nat.le_refl _)
 have hC₀ : h₀.get? H2.objs.size = none := fresh₀ _ (by rw [hC]; exact Nat.le_succ _)
 have hLlt : L < s₂.heap.objs.size := F.ns.lt
 have hDL : s₂.heap.objs.size ≠ L := Ne.symm (below L hLlt).2
 have hCL : H2.objs.size ≠ L := Ne.symm (below L hLlt).1
 have hCI : I ≠ H2.objs.size := (below I hIlt).1
 have hDI : I ≠ s₂.heap.objs.size := (below I hIlt).2
 have hCit : it ≠ H2.objs.size := (below it hitlt).1
 have hDit : it ≠ s₂.heap.objs.size := (below it hitlt).2
 have hCl : l ≠ H2.objs.size := (below l hllt).1
 have hDl : l ≠ s₂.heap.objs.size := (below l hllt).2
 have fpC : ∀ b ∈ [I, it, l], b ≠ H2.objs.size := fun b hb => by
  simp only [List.mem_cons, List.not_mem_nil, or_false] at hb
  rcases hb with rfl | rfl | rfl <;> assumption
 have fpD : ∀ b ∈ [I, it, l], b ≠ s₂.heap.objs.size := fun b hb => by
  simp only [List.mem_cons, List.not_mem_nil, or_false] at hb
  rcases hb with rfl | rfl | rfl <;> assumption
 have nwr : ∀ b, b ≠ I → b ≠ it → b ∉ [I, it] := fun b h1 h2 hm => by
  simp only [List.mem_cons, List.not_mem_nil, or_false] at hm
  exact hm.elim h1 h2
 have frBut : ∀ {h h' : Heap}, Fr h₀ L h m → (∀ b o, b ∉ [I, it] → h.get? b = some o → h'.get? b = some o) → Fr h₀ L h' m := fun {h h'} F hk =>
  ⟨F.ns.at' fun o e => hk L o (nwr _ hLI hLit) e, fun b o e => hk b o (nwr _ (fun q => by rw [q, hI₀] at e; cases e) (fun q => by rw [q, hit₀] at e; cases e)) (F.keep b o e), F.above⟩
 have loop : ∀ s₃ : Shared, s₃ = { s₂ with heap := h₁, toks := s₂.toks + ([] : List (Str × Value)).length } →
   codeAny (model prog w) A (.compLoop (.ListComp elt [⟨.Tuple [.Name x px, .Name x₂ px₂] tk tp, iter, [], 0⟩] scope pos) 0 (.ref I) (.ref s₂.heap.objs.size) (compEnvC scope cl H2.objs.size env)) (RR (.ref s₂.heap.objs.size) H2.objs.size) s₃ := by
  rintro s₃ rfl
  refine codeAny_compLoop_pair
   (fun k s' => ∃ h' tk i ys m' news', s' = { s₂ with heap := h', toks := tk } ∧ i ≤ items.length ∧ k = items.length + 1 - i ∧ ys.length = i ∧ ((∃ old, IsEnum h' I it i old) ∧ h'.IsListIter it l i ∧ h'.IsList l items.toArray) ∧ Fr h₀ L h' m ∧ h'.Ns H2.objs.size m' ∧ News h₀ L h' ((s₂.heap.objs.size, lst ys) :: news') ∧
    (∀ p ∈ news', p.1 ≠ I ∧ p.1 ≠ it ∧ p.1 ≠ H2.objs.size ∧ p.1 ≠ s₂.heap.objs.size) ∧ J i ys news') ?_ (items.length + 1)
   ⟨h₁, _, 0, [], _, news, rfl, Nat.zero_le _, rfl, rfl, ⟨⟨_, old _ _ he⟩, hli.at fun o e => old _ o e, hl₀.at fun o e => old _ o e⟩, F.keeps old, hns₁, fun p hp => ?_, fun p hp => ⟨(off p hp).1, (off p hp).2, (below _ (Heap.lt_size (N p hp).1)).1, (below _ (Heap.lt_size (N p hp).1)).2⟩, hj⟩
  ·rintro k s' ⟨h', tk, i, ys, m', news', rfl, hi, rfl, hyl, hst', F', hn', N', off', hJ'⟩
   by_cases hlt : i < items.length
   ·refine Wk.item i _ _ _ (by simpa using hlt) hst' fun T vals h₂ tk₂ hP hTs hT hM hk₂ => ?_
    obtain ⟨t, v₂, hv₂, rfl⟩ := hP
    have hv₂' : items[i]? = some v₂ := by simpa using hv₂
    refine Wk.go _ _ _ i T _ _ _ hM fun h₃ hst₃ hk₃ => ?_
    have hTI := Wk.apart i T _ hM
    have hT₃ : h₃.IsTuple T #[.int i t, v₂] := by
     obtain ⟨o, ho, r⟩ := hT
     exact ⟨o, hk₃ T o hTI ho, r⟩
    have keep23 : ∀ b o, b ∉ [I, it] → h'.get? b = some o → h₃.get? b = some o := fun b o hb e => hk₃ b o hb (hk₂ b o hb e)
    refine assign_Tuple_tuple hh hT₃ rfl rfl fun h₅ he₅ => ?_
    have he' : ∀ b o, h₃.get? b = some o → h₅.get? b = some o := fun b o e => he₅ b o (Nat.ne_of_lt (Heap.lt_size e)) e
    refine assignInOrder_cons (wpAny_assign_Name (wpAny_storeName_local (lookup_relabel_local hx) ((hn'.at' fun o e => keep23 _ o (nwr _ (Ne.symm hCI) (Ne.symm hCit)) e).at' fun o e => he' _ o e) (fun h₆ hn₆ hs₆ => ?_) (by simp [compEnvC, relabel, hkind])))
    refine assignInOrder_cons (wpAny_assign_Name (wpAny_storeName_local (lookup_relabel_local hx₂) hn₆ (fun h₇ hn₇ hs₇ => ?_) (by simp [compEnvC, relabel, hkind])))
    refine assignInOrder_nil ?_
    have old3 : ∀ b o, b ≠ H2.objs.size → h₃.get? b = some o → h₇.get? b = some o := fun b o hb e => hs₇.extBut b o hb (hs₆.extBut b o hb (he' b o e))
    have hst₇ := Wk.frame _ _ _ hst₃ fun b hb o e => old3 b o (fpC b hb) e
    obtain ⟨⟨old₇, heI⟩, hli₇, hl₇⟩ := id hst₇
    obtain ⟨oi, heit, hcit, hdit⟩ := id hli₇
    obtain ⟨oC, heC, hoC⟩ := ns_obj hn₇
    have F₇ : Fr h₀ L h₇ m := (((frBut F' keep23).keeps he').change hs₆ hCL hC₀).change hs₇ hCL hC₀
    have N₇ : News h₀ L h₇ ((I, _) :: (it, oi) :: (H2.objs.size, oC) :: (s₂.heap.objs.size, lst ys) :: news') := fun p hp => by
     rcases List.mem_cons.mp hp with rfl | hp
     ·exact ⟨heI, Ne.symm hLI, hI₀⟩
     rcases List.mem_cons.mp hp with rfl | hp
     ·exact ⟨heit, Ne.symm hLit, hit₀⟩
     rcases List.mem_cons.mp hp with rfl | hp
     ·exact ⟨heC, hCL, hC₀⟩
     have z := N' p hp
     rcases List.mem_cons.mp hp with rfl | hp
     ·exact ⟨old3 _ _ hDC (keep23 _ _ (nwr _ (Ne.symm hDI) (Ne.symm hDit)) z.1), z.2⟩
     ·have o4 := off' p hp
      exact ⟨old3 _ _ o4.2.2.1 (keep23 _ _ (nwr _ o4.1 o4.2.1) z.1), z.2⟩
    refine wpAny_mono (turn i ys news' I it H2.objs.size s₂.heap.objs.size _ oi oC t v₂ _ h₇ _ _ hv₂' hJ' hoC (by simp [hxx]) (by simp) F₇ N₇ off' ⟨hCI, hCit, hDC, by simp, by rw [hcit]; simp, by rw [hC]; exact Nat.le_trans F.above (Nat.le_trans (Nat.le_of_lt hLlt) (Nat.le_succ _))⟩) (fun y s₄ h₄ => ?_) fun _ _ e => e
    obtain ⟨h₄, tk₄, news₄, oC', m₄, rfl, hoC', F₄, N₄, off₄, J₄⟩ := h₄
    have zI := (N₄ (I, _) List.mem_cons_self).1
    have zit := (N₄ (it, oi) (List.mem_cons_of_mem _ List.mem_cons_self)).1
    have zC := (N₄ (H2.objs.size, oC') (List.mem_cons_of_mem _ (List.mem_cons_of_mem _ List.mem_cons_self))).1
    have zD := (N₄ (s₂.heap.objs.size, lst ys) (List.mem_cons_of_mem _ (List.mem_cons_of_mem _ (List.mem_cons_of_mem _ List.mem_cons_self)))).1
    have N₄' : News h₀ L h₄ news₄ := fun p hp => N₄ p (List.mem_cons_of_mem _ (List.mem_cons_of_mem _ (List.mem_cons_of_mem _ (List.mem_cons_of_mem _ hp))))
    have hl₄ : h₄.IsList l items.toArray := ⟨_, (N₄' _ (hJl _ _ _ J₄)).1, rfl, nn, rfl⟩
    refine append_at (hsz := by show ys.toArray.size ≤ sizeLine; rw [List.size_toArray, hyl]; exact Nat.le_trans hi hsz) zD fun h₅' hs₅ hD₅ => ?_
    have kD : ∀ b o, b ≠ s₂.heap.objs.size → h₄.get? b = some o → h₅'.get? b = some o := fun b o hb e => hs₅.extBut b o hb e
    refine ⟨items.length + 1 - (i + 1), by omega, h₅', tk₄, i + 1, ys ++ [y], _, news₄, rfl, hlt, rfl, by rw [List.length_append, List.length_singleton, hyl], ⟨⟨old₇, ?_⟩, ⟨oi, kD _ _ hDit zit, hcit, hdit⟩, hl₄.at fun o e => kD l o hDl e⟩, F₄.change hs₅ hDL hD₀,
     (hoC'.ns zC).sameBut hs₅ (Ne.symm hDC), fun p hp => ?_, off₄, J₄⟩
    ·exact kD _ _ hDI zI
    ·rcases List.mem_cons.mp hp with rfl | hp
     ·exact ⟨hD₅.trans (congrArg some (lst_snoc ys y)), hDL, hD₀⟩
     ·exact ⟨kD _ _ (off₄ p hp).2.2.2 (N₄' p hp).1, (N₄' p hp).2⟩
   ·obtain rfl : i = items.length := Nat.le_antisymm hi (Nat.not_lt.mp hlt)
    refine Wk.done _ _ _ (by simpa using hst') fun h₂ tk₂ hk₂ => ?_
    refine hRR _ _ h₂ tk₂ m' ys news' hJ' (frBut F' hk₂) (fun p hp => ?_) (fun p hp => (off' p hp).2.2.2) (hn'.at' fun o e => hk₂ _ o (nwr _ (Ne.symm hCI) (Ne.symm hCit)) e) hC₀ hCL hDC fun p hp => (off' p hp).2.2.1
    have z := N' p hp
    rcases List.mem_cons.mp hp with rfl | hp
    ·exact ⟨hk₂ _ _ (nwr _ (Ne.symm hDI) (Ne.symm hDit)) z.1, z.2⟩
    ·exact ⟨hk₂ _ _ (nwr _ (off' p hp).1 (off' p hp).2.1) z.1, z.2⟩
  ·rcases List.mem_cons.mp hp with rfl | hp
   ·exact ⟨hacc, hDL, hD₀⟩
   ·exact ⟨old _ _ (N p hp).1, (N p hp).2⟩
 exact codeAny_compStart_list (loop _ rfl) (Wk.self 0 _ _ _ ⟨⟨_, old _ _ he⟩, hli.at fun o e => old _ o e, hl₀.at fun o e => old _ o e⟩ (loop _ rfl))
theorem comp_enum {elt iter : PySem.Expr} {x x₂ : Str} {px px₂ tp : Pos} {tk} {scope : Scope} {cl : List (Str × Addr)} {pos : Pos} {Q : Value → Shared → Prop} (_F₀ : Fr h₀ L s.heap m)
  (hclos : closureFor scope env = pure cl) (hcell : ∀ y ∈ scope.names, y.2 ≠ .cell) (hkind : scope.kind = .function)
  (hnames : ∀ y ∈ scope.names, y.2 = .local → scope.names.lookup y.1 = some .local) (hx : scope.names.lookup x = some .local) (hx₂ : scope.names.lookup x₂ = some .local) (hxx : x ≠ x₂)
  (h : wpAny (model prog w) A (eval iter env) (EnS prog w A h₀ L m env elt x x₂ scope cl Q) E s)
  (hs : ∀ x, foldedSetIterable iter env x = pure x) :
  wpAny (model prog w) A (eval (.ListComp elt [⟨.Tuple [.Name x px, .Name x₂ px₂] tk tp, iter, [], 0⟩] scope pos) env) Q E s := by
 rw [eval_ListComp]
 refine wpAny_comprehension_free (use := none) rfl hs hclos hkind hnames (wpAny_mono h (fun xv s₂ h₁ => ?_) fun _ _ e => e)
 obtain ⟨I, it, l, items, nn, news, J, rfl, hh, F, N, hJl, hei, hLI, hLit, hI₀, hit₀, off, he, hli, hsz, hj, turn, fin⟩ := h₁
 refine wpAny_pyIter_enum he ?_
 refine block_E hcell hkind hx hx₂ hxx hh F N hJl hei hLI hLit hI₀ hit₀ off he hli hsz hj turn ?_
 intro D C h tk m' ys nx hJ F' N' hD hn hC₀ hCL hDC hoC
 refine ⟨m', hn, fun h'' hs'' => fin ys nx D h'' tk hJ (F'.change hs'' hCL hC₀) (fun p hp => ?_) hD⟩
 refine ⟨hs''.extBut _ _ ?_ (N' p hp).1, (N' p hp).2⟩
 rcases List.mem_cons.mp hp with rfl | hp
 ·exact hDC
 ·exact hoC p hp
end

end
local macro_rules | `(tactic| walk_at "ASts") => `(tactic| with_reducible first | refine ASts.cons ?_ | refine ASts.nil ?_)
local macro_rules | `(tactic| walk_at "ASt") => `(tactic| ((with_reducible first | refine' ASt.ifS ?_ | refine' ASt.ret ?_ | refine' ASt.asg ?_ ?h1 | refine' ASt.expr ?_ ?h2 ?h1 | refine' ASt.asgT ?_ ?h1 ?h2 | refine' ASt.setI ?_ ?h1 | refine' ASt.ret0 ?_ | refine' ASt.setA ?_ ?h1); (try (case h1 => k_dflt (intro _; rfl))); (try (case h2 => k_dflt (intro _; rfl)))))
local macro_rules | `(tactic| walk_at "AEv") => `(tactic| ((with_reducible first | (refine' AEv.loc ?h3 ?h4 ?_; (case h3 => k_dflt rfl)) | (refine' AEv.glb ?h5 ?h4 ?_; (case h5 => k_dflt (intro _; k_is))) | refine' AEv.int ?_ | refine' AEv.str ?_ | refine' AEv.bin ?_ | refine' AEv.sub ?_ | refine' AEv.tup ?_ | refine' AEv.mcall ?_ ?h1 | (refine' AEv.call0 ?h5 ?h4 ?_ ?h1; (case h5 => k_dflt (intro _; exact ⟨by k_is, by k_is⟩))) | (refine' AEv.call ?h5 ?h4 ?h3 ?_ ?h1; (case h5 => k_dflt (intro _; exact ⟨by k_is, by k_is⟩))) | refine' AEv.none ?_ | refine' AEv.bool ?_ | refine' AEv.lst ?_ | refine' AEv.ife ?_ | refine' AEv.una ?_ | refine' AEv.cmp ?_ ?h2 | refine' AEv.att ?_ ?h1); (try (case h4 => k_dflt rfl)); (try (case h3 => k_dflt rfl)); (try (case h1 => k_dflt (intro _; rfl))); (try (case h2 => with_unfolding_all rfl))))
local macro_rules | `(tactic| walk_at "AEvs") => `(tactic| ((with_reducible first | refine' AEvs.nil ?_ | refine' AEvs.cons ?h1 ?_); (try (case h1 => k_dflt rfl))))
local macro_rules | `(tactic| walk_at "AIs") => `(tactic| ((with_reducible first | refine' AIs.cmp ?_ ?h2 | refine' AIs.bool ?_ | refine' AIs.plain ?_ ?h1); (try (case h2 => with_unfolding_all rfl)); (try (case h1 => k_dflt (intro _ _; rfl)))))
local macro_rules | `(tactic| walk_at "AIb") => `(tactic| with_reducible first | refine AIb.and ?_ | refine AIb.and0 ?_ | refine AIb.or ?_ | refine AIb.or0 ?_)
local macro_rules | `(tactic| walk_at "ATr") => `(tactic| with_reducible refine ATr.bool ?_)
local macro_rules | `(tactic| walk_at "ASto") => `(tactic| ((with_reducible first | refine' ASto.u0 ?h1 ?_ | refine' ASto.u1 ?h1 ?_ | refine' ASto.u2 ?h1 ?_ | refine' ASto.new ?h1 ?_); (case h1 => k_dflt rfl)))
local macro_rules | `(tactic| walk_at "AAss") => `(tactic| ((with_reducible first | refine' AAss.cons ?h1 ?_ | refine' AAss.nil ?_); (try (case h1 => k_dflt rfl))))
local macro_rules | `(tactic| walk_at "AAsg") => `(tactic| ((with_reducible first | refine' AAsg.name ?_ | refine' AAsg.sub ?_ | refine' AAsg.tup ?h2 ?h3 ?_); (try (case h2 => k_dflt (intro _; rfl))); (try (case h3 => k_dflt (intro _; rfl)))))
local macro_rules | `(tactic| walk_at "ASub") => `(tactic| ((with_reducible first | refine' ASub.tup ?h1 ?h2 ?h4 ?h5 ?_ | refine' ASub.k0 ?h1 ?h4 ?_ | (refine' ASub.lst ?h6 ?h1 ?h4 ?h5 ?_; (case h6 => k_dflt decide)) | (refine' ASub.neg ?h6 ?h7 ?h1 ?h4 ?h5 ?_; (case h6 => k_dflt decide); (case h7 => exact of_decide_eq_true (by k_dflt rfl)))); (case h1 => k_dflt rfl); (try (case h2 => k_dflt rfl)); (case h4 => k_dflt rfl); (try (case h5 => k_dflt rfl))))
local macro_rules | `(tactic| walk_at "ACmp") => `(tactic| with_reducible first | ((first | refine' ACmp.eqS (r := true) ?h1 ?_ | refine' ACmp.neS (r := true) ?h1 ?_ | refine' ACmp.inS (r := true) ?h1 ?_); (case h1 => k_dflt decide +kernel)) | ((first | refine' ACmp.eqS (r := false) ?h1 ?_ | refine' ACmp.neS (r := false) ?h1 ?_ | refine' ACmp.inS (r := false) ?h1 ?_); (case h1 => k_dflt decide +kernel)) | refine ACmp.isN ?_ | refine ACmp.isT ?_)
local macro_rules | `(tactic| walk_at "ABin") => `(tactic| with_reducible first | refine ABin.add ?_ | refine ABin.sub ?_ | (refine' ABin.mul (IntMulOk.of_left ?h1) ?_; (case h1 => k_dflt decide)))
local macro_rules | `(tactic| walk_at "AUna") => `(tactic| with_reducible refine AUna.neg ?_)
local macro_rules | `(tactic| walk_at "ANt") => `(tactic| ((with_reducible refine' ANt.mk ?h1 ?h2 ?_); (case h1 => k_dflt rfl); (case h2 => k_dflt rfl)))
local macro_rules | `(tactic| walk_at "AMcl") => `(tactic| ((with_reducible first | refine' AMcl.a1 ?h1 ?_ | refine AMcl.upper ?_ | refine AMcl.islower ?_); (try (case h1 => k_dflt rfl))))
local macro_rules | `(tactic| walk_at "ACal") => `(tactic| ((with_reducible first | refine' ACal.a1 ?h1 ?_); (case h1 => with_reducible first | assumption | (simp only [List.length_append, List.length_cons, List.length_nil]; omega))))
local macro_rules | `(tactic| walk_at "ASetI") => `(tactic| ((with_reducible first | refine' ASetI.k0 ?h1 ?h2 ?h3 ?_); (case h1 => k_dflt rfl); (case h2 => k_dflt rfl); (case h3 => k_dflt rfl)))
local macro_rules | `(tactic| walk_at "match_1") => `(tactic| first | refine ayes (by first | assumption | decide +kernel) ?_ | refine ano (by first | assumption | decide +kernel) ?_)
local macro_rules | `(tactic| walk_at "AMcl") => `(tactic| ((with_reducible first | refine' AMcl.m0 ?h1 ?h2 ?h3 ?_ | refine' AMcl.m1 ?h1 ?h2 ?h3 ?h4 ?_); (case h1 => assumption); (case h2 => k_dflt (intro _; exact ⟨by k_is, by k_is, by k_is, by k_is⟩)); (case h3 => k_dflt rfl); (try (case h4 => k_dflt rfl))))
local macro_rules | `(tactic| walk_at "AGet") => `(tactic| ((with_reducible refine' AGet.g0 ?h1 ?h2 ?h3 ?h4 ?_); (case h1 => assumption); (case h2 => k_dflt (intro _; exact ⟨by k_is, by k_is, by k_is⟩)); (case h3 => k_dflt rfl); (case h4 => k_dflt rfl)))
local macro_rules | `(tactic| walk_at "ASetA") => `(tactic| ((with_reducible refine' ASetA.s0 ?h1 ?h2 ?h3 ?h4 ?h5 ?_); (case h1 => assumption); (case h2 => k_dflt (intro _; exact ⟨by k_is, by k_is, by k_is, by k_is⟩)); (case h3 => k_dflt rfl); (case h4 => k_dflt rfl); (case h5 => k_dflt rfl)))

theorem rst49 {M : Model} {A : Around} {env : Env} {Q : Flow → Shared → Prop} {E : Value → Shared → Prop} {s : Shared} (h : Q .next s) : wpAny M A (execs [] env) Q E s := by
 walk1
 exact h
section --TB
theorem lit_sgn' : Str.ofString "+-." = S [43, 45, 46] := by decide +kernel
theorem bnot {K : Bool → As → Prop} {σ : As} {b : Bool} (h1 : b = true → K false σ) (h2 : b = false → K true σ) : K (!b) σ := by
 cases b
 ·exact h2 rfl
 ·exact h1 rfl
theorem bspl {K : Bool → As → Prop} {σ : As} {b : Bool} (h1 : b = true → K true σ) (h2 : b = false → K false σ) : K b σ := by
 cases b
 ·exact h2 rfl
 ·exact h1 rfl
theorem pk_eq (cs : List Nat) (i a : Nat) : (S ((cs.drop i).take 1) == S [a]) = (cs[i]? == some a) := by
 by_cases h : i < cs.length
 ·rw [take1_some h, List.getElem?_eq_getElem h, Bool.eq_iff_iff, beq_iff_eq, beq_iff_eq, S_eq, List.cons.injEq, Option.some.injEq]
  exact and_iff_left rfl
 ·rw [take1_none h, List.getElem?_eq_none (Nat.le_of_not_lt h), Bool.eq_iff_iff, beq_iff_eq, beq_iff_eq, S_eq]
  exact ⟨(fun e => nomatch e), fun e => nomatch e⟩
theorem pk_ne (cs : List Nat) (i a : Nat) : (S ((cs.drop i).take 1) != S [a]) = !(cs[i]? == some a) := by rw [bne, pk_eq]
theorem pk_in (cs : List Nat) (i a b : Nat) : (S [a] == S ((cs.drop i).take 1) || S [b] == S ((cs.drop i).take 1)) = (cs[i]? == some a || cs[i]? == some b) := by rw [Bool.beq_comm, pk_eq, Bool.beq_comm (a := S [b]), pk_eq]
theorem pk_no {cs : List Nat} {i a : Nat} (h : ∀ hi : i < cs.length, cs[i] ≠ a) : (cs[i]? == some a) = false := by
 refine beq_eq_false_iff_ne.mpr fun e => ?_
 obtain ⟨hi, e⟩ := List.getElem?_eq_some_iff.mp e
 exact h hi e
theorem pk_nil (cs : List Nat) (i : Nat) : (S ((cs.drop i).take 1) != S []) = decide (i < cs.length) := by
 by_cases h : i < cs.length
 ·rw [take1_some h, decide_eq_true h, bne_iff_ne]
  exact fun e => nomatch (S_eq _ _).mp e
 ·rw [take1_none h, decide_eq_false h, bne_self_eq_false]
theorem ACmp.geI {c : Cx} {D : List AV} {σ : As} {K : AV → As → Prop} {i j : Int} (H : K (.d (.bool (decide (i ≥ j)))) σ) : ACmp .GtE (.d (.int i)) (.d (.int j)) c D σ K := ACmp.of (fun B va vb Q s y1 y2 h => by
 obtain ⟨t1, rfl⟩ := den_int y1
 obtain ⟨t2, rfl⟩ := den_int y2
 exact ge_int h) H
section
variable {w : World} {x d : Addr} {cs : List Nat} {i : Nat} {B : Led} {vs : List Value} {Mc : Led}
theorem peekA (hlen : cs.length ≤ 10000) (h1 : i ≤ cs.length) (hx : (x, instObj 273 d) ∈ B) (hA : DAll B [.v (.ref x)] vs) (hM : MAll B [(d, ScA cs i)] Mc) :
  FnM w 207 vs 1 8 Mc B (PoA (Is1 (.d (.str (S ((cs.drop i).take 1)))) [(d, ScA cs i)]) B) := by
 obtain rfl := one_ref hA
 tbr_iter (FnM.ofA1 hM (by simp) rfl (.cons (x := Str.ofString "self") (a := .v (.ref x)) rfl .nil))
 intro cx K hw hB hd hu hK
 subst hw
 have hx' := hB _ hx
 refine ASts.cons (ASt.ret (AEv.slc ?_))
 repeat' walk1
 exact slcK.one hlen h1 (hK _ _ rfl rfl)
theorem spacesA (hlen : cs.length ≤ 10000) (h1 : i ≤ cs.length) (hx : (x, instObj 273 d) ∈ B) (hA : DAll B [.v (.ref x)] vs) (hM : MAll B [(d, ScA cs i)] Mc) :
  FnM w 221 vs 1 8 Mc B (PoA (Is1 (.d .none) [(d, ScA cs (skipB cs i))]) B) := by
 obtain rfl := one_ref hA
 tbr_iter (FnM.ofAE hM (by simp) (fun _ _ k => by rw [k.2]; rfl) (.cons (x := Str.ofString "self") (a := .v (.ref x)) rfl .nil))
 intro cx K hw hB hd hu hE hK
 subst hw
 have hx' := hB _ hx
 refine ASts.cons (ASt.whl (fun n σ => ∃ j, σ = ⟨[(Str.ofString "self", .v (.ref x))], [(d, ScA cs j)]⟩ ∧ skipB cs j = skipB cs i ∧ j ≤ cs.length ∧ n = cs.length - j) (hE _) ⟨i, rfl, rfl, h1, rfl⟩ ?_)
 rintro n _ ⟨j, rfl, hj, hj', rfl⟩
 repeat' walk1
 refine AEv.bi PySem.boot_len (by decide +kernel) (fun w => by k_is) (by k_dflt rfl) rfl (fun _ => rfl) ?_
 repeat' walk1
 refine ACal.lenS (by omega) (ACmp.ltI ?_)
 repeat' walk1
 refine asplit (fun h => ?_) (fun h => ?_)
 ·have hj2 : j < cs.length := by omega
  repeat' walk1
  refine ASub.str hj2 hlen rfl ?_
  repeat' walk1
  refine ACmp.inS (r := isB cs[j]) (by rw [lit_blanks, S_cps, isB_mem]) ?_
  repeat' walk1
  cases hb : isB cs[j] with
  | true =>
   repeat' walk1
   ·exact Nat.sub_lt_sub_left hj2 (Nat.lt_succ_self j)
   ·exact .cons rfl .nil
   ·rw [skipB_yes hj2 hb, hj]
   ·exact hj2
  | false =>
   repeat' walk1
   exact hK _ _ ⟨rfl, by rw [← hj, skipB_no hj2 hb]⟩
 ·repeat' walk1
  exact hK _ _ ⟨rfl, by rw [← hj, skipB_end (by omega)]⟩
theorem sepA (hlen : cs.length ≤ 10000) (h1 : i ≤ cs.length) (hx : (x, instObj 273 d) ∈ B) (hA : DAll B [.v (.ref x)] vs) (hM : MAll B [(d, ScA cs i)] Mc) :
  FnM w 228 vs 2 16 Mc B (PoA (Is1 (.d (.bool (sepIs cs i))) [(d, ScA cs (sepEnd cs i))]) B) := by
 obtain rfl := one_ref hA
 tbr_iter (FnM.ofA1 (M₁ := [(d, ScA cs (sepEnd cs i))]) hM (by simp) rfl (.cons (x := Str.ofString "self") (a := .v (.ref x)) rfl .nil))
 intro cx K hw hB hd hu hK
 subst hw
 have hx' := hB _ hx
 have h2 := skipB_le h1
 repeat' walk1
 refine ACal.M1B (fun B vs Mc hB hA hM => spacesA hlen h1 (hB _ hx') hA hM) (room hd rfl) (roomu hu rfl) ?_
 repeat' walk1
 refine ACal.M1B (fun B vs Mc hB hA hM => peekA hlen h2 (hB _ hx') hA hM) (room hd rfl) (roomu hu rfl) ?_
 repeat' walk1
 refine ACmp.neS (r := !sepIs cs i) (by rw [lit_44, pk_ne]; rfl) ?_
 repeat' walk1
 refine bnot (fun hq => ?_) (fun hq => ?_)
 ·have h3 : skipB cs i < cs.length := by
   obtain ⟨h, -⟩ := List.getElem?_eq_some_iff.mp (beq_iff_eq.mp hq)
   exact h
  repeat' walk1
  refine ACal.M1B (fun B vs Mc hB hA hM => spacesA hlen h3 (hB _ hx') hA hM) (room hd rfl) (roomu hu rfl) ?_
  repeat' walk1
  refine hK _ _ ?_ ?_
  ·rw [hq]; rfl
  ·rw [sepEnd_yes hq]
 ·repeat' walk1
  refine hK _ _ ?_ ?_
  ·rw [hq]; rfl
  ·rw [sepEnd_no hq]
theorem looksA (hlen : cs.length ≤ 10000) (h1 : i ≤ cs.length) (hx : (x, instObj 273 d) ∈ B) (hA : DAll B [.v (.ref x)] vs) (hM : MAll B [(d, ScA cs i)] Mc) :
  FnM w 235 vs 2 16 Mc B (PoA (Is1 (.d (.bool (looksN cs i))) [(d, ScA cs i)]) B) := by
 obtain rfl := one_ref hA
 tbr_iter (FnM.ofA1 (M₁ := [(d, ScA cs i)]) hM (by simp) rfl (.cons (x := Str.ofString "self") (a := .v (.ref x)) rfl .nil))
 intro cx K hw hB hd hu hK
 subst hw
 have hx' := hB _ hx
 repeat' walk1
 refine ACal.M1B (fun B vs Mc hB hA hM => peekA hlen h1 (hB _ hx') hA hM) (room hd rfl) (roomu hu rfl) ?_
 repeat' walk1
 refine AEv.band ?_
 repeat' walk1
 refine ACmp.neS (by rw [lit_nil, pk_nil]) ?_
 by_cases h : i < cs.length
 ·rw [decide_eq_true h]
  refine andK.yes ?_
  repeat' walk1
  refine ABin.addS (by rw [lit_sgn']; decide) ?_
  rw [take1_some h]
  refine ACmp.inS (r := looksN cs i) (by rw [lit_sgn, S_cps, looksN_yes h]) ?_
  exact hK _ _ rfl rfl
 ·rw [decide_eq_false h]
  refine andK.no (hK _ _ ?_ rfl)
  rw [looksN_no h]
  rfl
theorem overA (hlen : cs.length ≤ 10000) (hx : (x, instObj 273 d) ∈ B) (hA : DAll B [.v (.ref x)] vs) (hM : MAll B [(d, ScA cs i)] Mc) :
  FnM w 200 vs 1 8 Mc B (PoA (Is1 (.d (.bool (decide (cs.length ≤ i)))) [(d, ScA cs i)]) B) := by
 obtain rfl := one_ref hA
 tbr_iter (FnM.ofA1 (M₁ := [(d, ScA cs i)]) hM (by simp) rfl (.cons (x := Str.ofString "self") (a := .v (.ref x)) rfl .nil))
 intro cx K hw hB hd hu hK
 subst hw
 have hx' := hB _ hx
 repeat' walk1
 refine AEv.bi PySem.boot_len (by decide +kernel) (fun w => by k_is) (by k_dflt rfl) rfl (fun _ => rfl) ?_
 repeat' walk1
 refine ACal.lenS (by omega) (ACmp.geI ?_)
 refine hK _ _ ?_ rfl
 exact congrArg (fun b => AV.d (.bool b)) (decide_eq_decide.mpr Int.ofNat_le)
theorem digitsA (hlen : cs.length ≤ 10000) (h1 : i ≤ cs.length) (hx : (x, instObj 273 d) ∈ B) (hA : DAll B [.v (.ref x)] vs) (hM : MAll B [(d, ScA cs i)] Mc) :
  FnM w 242 vs 1 8 Mc B (PoA (Is1 (.d (.int ((skipD cs i - i : Nat) : Int))) [(d, ScA cs (skipD cs i))]) B) := by
 obtain rfl := one_ref hA
 tbr_iter (FnM.ofAE hM (by simp) (fun _ _ k => by rw [k.2]; rfl) (.cons (x := Str.ofString "self") (a := .v (.ref x)) rfl .nil))
 intro cx K hw hB hd hu hE hK
 subst hw
 have hx' := hB _ hx
 repeat' walk1
 refine ASt.whl (fun n σ => ∃ j, σ = ⟨[(Str.ofString "begin", .d (.int i)), (Str.ofString "self", .v (.ref x))], [(d, ScA cs j)]⟩ ∧ skipD cs j = skipD cs i ∧ j ≤ cs.length ∧ i ≤ j ∧ n = cs.length - j) (hE _) ⟨i, rfl, rfl, h1, Nat.le_refl _, rfl⟩ ?_
 rintro n _ ⟨j, rfl, hj, hj', hij, rfl⟩
 have fin : skipD cs i = j → K (.ret (.d (.int ((j : Int) - i)))) ⟨[(Str.ofString "begin", .d (.int i)), (Str.ofString "self", .v (.ref x))], [(d, ScA cs j)]⟩ := fun e => hK _ _ ⟨by rw [e, Int.ofNat_sub hij]; rfl, by rw [e]⟩
 repeat' walk1
 refine AEv.bi PySem.boot_len (by decide +kernel) (fun w => by k_is) (by k_dflt rfl) rfl (fun _ => rfl) ?_
 repeat' walk1
 refine ACal.lenS (by omega) (ACmp.ltI ?_)
 repeat' walk1
 refine asplit (fun h => ?_) (fun h => ?_)
 ·have hj2 : j < cs.length := Int.ofNat_lt.mp h
  repeat' walk1
  refine ASub.str hj2 hlen rfl ?_
  repeat' walk1
  refine ACmp.inS (r := isDig cs[j]) (by rw [lit_digs, S_cps, isDig_mem]) ?_
  repeat' walk1
  refine bspl (fun hb => ?_) (fun hb => ?_)
  ·repeat' walk1
   ·exact Nat.sub_lt_sub_left hj2 (Nat.lt_succ_self j)
   ·exact .cons rfl (.cons rfl .nil)
   ·rw [skipD_yes hj2 hb, hj]
   ·exact hj2
   ·exact Nat.le_succ_of_le hij
  ·repeat' walk1
   exact fin (by rw [← hj, skipD_no hj2 hb])
 ·repeat' walk1
  exact fin (by rw [← hj, skipD_end (by omega)])
theorem exponentA (hlen : cs.length ≤ 10000) (h1 : i ≤ cs.length) (hne : ∀ h : i < cs.length, cs[i] ≠ 101 ∧ cs[i] ≠ 69) (hx : (x, instObj 273 d) ∈ B) (hA : DAll B [.v (.ref x)] vs) (hM : MAll B [(d, ScA cs i)] Mc) :
  FnM w 249 vs 2 16 Mc B (PoA (Is1 (.d .none) [(d, ScA cs i)]) B) := by
 obtain rfl := one_ref hA
 tbr_iter (FnM.ofA1 (M₁ := [(d, ScA cs i)]) hM (by simp) rfl (.cons (x := Str.ofString "self") (a := .v (.ref x)) rfl .nil))
 intro cx K hw hB hd hu hK
 subst hw
 have hx' := hB _ hx
 repeat' walk1
 refine ACal.M1B (fun B vs Mc hB hA hM => peekA hlen h1 (hB _ hx') hA hM) (room hd rfl) (roomu hu rfl) ?_
 repeat' walk1
 refine ACmp.ninP (r := true) (by rw [lit_e, lit_E, pk_in, pk_no fun h => (hne h).1, pk_no fun h => (hne h).2]; rfl) ?_
 repeat' walk1
 exact hK _ _ rfl rfl
theorem flagA (hlen : cs.length ≤ 10000) (h1 : i ≤ cs.length) (hb0 : ∀ h : i < cs.length, cs[i] ≠ 48) (hb1 : ∀ h : i < cs.length, cs[i] ≠ 49) (hx : (x, instObj 273 d) ∈ B) (hA : DAll B [.v (.ref x)] vs) (hM : MAll B [(d, ScA cs i)] Mc) :
  FnXM w 263 vs 10 48 Mc B (PoA (fun _ _ => False) B) (PoX (fun oE N' => FaultAt i oE ∧ N' = [(d, ScA cs i)]) B) := by
 obtain rfl := one_ref hA
 tbr_iter (FnXM.ofA hM (by simp) (fun _ _ k => k.elim) (fun _ _ k => by rw [k.2]) (.cons (x := Str.ofString "self") (a := .v (.ref x)) rfl .nil))
 intro cx K hw hB hd hu hE hr hK
 subst hw
 have hx' := hB _ hx
 repeat' walk1
 refine ACal.M1B (fun B vs Mc hB hA hM => peekA hlen h1 (hB _ hx') hA hM) (room hd rfl) (roomu hu rfl) ?_
 repeat' walk1
 refine ACmp.neS (r := true) (by rw [lit_0, pk_ne, pk_no hb0]; rfl) ?_
 repeat' walk1
 refine ACmp.neS (r := true) (by rw [lit_1, pk_ne, pk_no hb1]; rfl) ?_
 repeat' walk1
 exact ACal.X1 hr (fun B vs Mc hB hA hM => faultA (hB _ hx') hA hM) (room hd rfl) (roomu hu rfl) (fun oE N' h => ⟨h.1, by rw [h.2]; rfl⟩) fun _ _ h => h.elim
theorem commandA (hlen : cs.length ≤ 10000) (h1 : i ≤ cs.length) (hx : (x, instObj 273 d) ∈ B) (hA : DAll B [.v (.ref x)] vs) (hM : MAll B [(d, ScA cs i)] Mc) :
  FnXM w 270 vs 10 48 Mc B (PoA (fun r N' => (cs.length ≤ skipB cs i ∧ r = .d .none ∧ N' = [(d, ScA cs (skipB cs i))]) ∨ ∃ h : skipB cs i < cs.length, isL cs[skipB cs i] = true ∧ r = .d (.str (S [cs[skipB cs i]])) ∧ N' = [(d, ScA cs (skipB cs i + 1))]) B) (PoX (fun oE N' => ∃ h : skipB cs i < cs.length, isL cs[skipB cs i] = false ∧ FaultAt (skipB cs i) oE ∧ N' = [(d, ScA cs (skipB cs i))]) B) := by
 obtain rfl := one_ref hA
 tbr_iter (FnXM.ofA hM (by simp) (fun _ _ k => by rcases k with ⟨-, -, rfl⟩ | ⟨-, -, -, rfl⟩ <;> rfl) (fun _ _ k => by obtain ⟨-, -, -, rfl⟩ := k; rfl) (.cons (x := Str.ofString "self") (a := .v (.ref x)) rfl .nil))
 intro cx K hw hB hd hu hE hr hK
 subst hw
 have hx' := hB _ hx
 have h2 := skipB_le h1
 repeat' walk1
 refine ACal.M1B (fun B vs Mc hB hA hM => spacesA hlen h1 (hB _ hx') hA hM) (room hd rfl) (roomu hu rfl) ?_
 repeat' walk1
 refine ACal.M1B (fun B vs Mc hB hA hM => overA hlen (hB _ hx') hA hM) (room hd rfl) (roomu hu rfl) ?_
 repeat' walk1
 refine asplit (fun h => ?_) (fun h => ?_)
 ·repeat' walk1
  exact hK _ _ (.inl ⟨h, rfl, rfl⟩)
 ·have h3 : skipB cs i < cs.length := Nat.lt_of_not_le h
  repeat' walk1
  refine ACal.M1B (fun B vs Mc hB hA hM => peekA hlen h2 (hB _ hx') hA hM) (room hd rfl) (roomu hu rfl) ?_
  rw [take1_some h3]
  repeat' walk1
  refine ACmp.ninS (r := !isL cs[skipB cs i]) (by rw [lit_letters, S_cps, Bool.not_not]; rfl) ?_
  repeat' walk1
  refine bnot (fun hl => ?_) (fun hl => ?_)
  ·repeat' walk1
   exact hK _ _ (.inr ⟨h3, hl, rfl, rfl⟩)
  ·repeat' walk1
   exact ACal.X1 hr (fun B vs Mc hB hA hM => faultA (hB _ hx') hA hM) (room hd rfl) (roomu hu rfl) (fun oE N' h => ⟨h3, hl, h.1, by rw [h.2]; rfl⟩) fun _ _ h => h.elim
theorem goesA (hlen : cs.length ≤ 10000) (h1 : i ≤ cs.length) (hx : (x, instObj 273 d) ∈ B) (hA : DAll B [.v (.ref x)] vs) (hM : MAll B [(d, ScA cs i)] Mc) :
  FnXM w 305 vs 12 64 Mc B (PoA (fun r N' => (looksN cs (sepEnd cs i) = true ∨ sepIs cs i = false) ∧ r = .d (.bool (looksN cs (sepEnd cs i))) ∧ N' = [(d, ScA cs (sepEnd cs i))]) B) (PoX (fun oE N' => looksN cs (sepEnd cs i) = false ∧ sepIs cs i = true ∧ FaultAt (sepEnd cs i) oE ∧ N' = [(d, ScA cs (sepEnd cs i))]) B) := by
 obtain rfl := one_ref hA
 tbr_iter (FnXM.ofA hM (by simp) (fun _ _ k => by rw [k.2.2]; rfl) (fun _ _ k => by rw [k.2.2.2]; rfl) (.cons (x := Str.ofString "scanner") (a := .v (.ref x)) rfl .nil))
 intro cx K hw hB hd hu hE hr hK
 subst hw
 have hx' := hB _ hx
 have h2 := sepEnd_le h1
 repeat' walk1
 refine ACal.M1B (fun B vs Mc hB hA hM => sepA hlen h1 (hB _ hx') hA hM) (room hd rfl) (roomu hu rfl) ?_
 repeat' walk1
 refine ACal.M1B (fun B vs Mc hB hA hM => looksA hlen h2 (hB _ hx') hA hM) (room hd rfl) (roomu hu rfl) ?_
 repeat' walk1
 refine bspl (fun hl => ?_) (fun hl => ?_)
 ·repeat' walk1
  exact hK _ _ ⟨.inl hl, by rw [hl]; rfl, rfl⟩
 ·repeat' walk1
  refine bspl (fun hs => ?_) (fun hs => ?_)
  ·repeat' walk1
   exact ACal.X1 hr (fun B vs Mc hB hA hM => faultA (hB _ hx') hA hM) (room hd rfl) (roomu hu rfl) (fun oE N' h => ⟨hl, hs, h.1, by rw [h.2]; rfl⟩) fun _ _ h => h.elim
  ·repeat' walk1
   exact hK _ _ ⟨.inr hs, by rw [hl]; rfl, rfl⟩
end

end
section --TC
section
variable {f : Fi} {c : Cx} {l : List (Str × AV)} {M : List (Addr × AO)} {D : List AV} {σ : As} {e : Expr} {pos px : Pos}
theorem AIs.not {K : Bool → As → Prop} (H : AIs e f c D σ fun b σ' => K (!b) σ') : AIs (.UnaryOp .Not e pos) f c D σ K := fun Q q h m N Mc ds t X =>
 isTrue_not (H (fun ds b s => Q ds (!b) s) (fun b σ' k h m N Mc ds t X => q _ _ k h m N Mc ds t X) h m N Mc ds t X)
theorem ABin.pow {K : AV → As → Prop} {a n : Int} (hn : 0 ≤ n) (hn2 : n ≤ 1000000) (ha : a.natAbs < 2 ^ 64) (H : K (.d (.int (a ^ n.toNat))) σ) : ABin .Pow (.d (.int a)) (.d (.int n)) c D σ K := fun Q q h m N Mc ds vs t X z => by
 obtain ⟨_, _, rfl, y1, y2⟩ := z.two
 obtain ⟨t1, rfl⟩ := den_int y1
 obtain ⟨t2, rfl⟩ := den_int y2
 exact pow_int_small hn hn2 ha (q _ _ H h m N Mc ds _ (t + 1) X (.int _ _))
noncomputable def as3K (n1 n2 n3 : Str) (f : Fi) (c : Cx) (K : AF → As → Prop) (a : AV) (σ' : As) : Prop := ∃ d1 d2 d3, a = .d (.tuple [d1, d2, d3]) ∧ ASto n3 f (.d d3) c [.d d2, .d d1] σ' fun σ₂ => ASto n2 f (.d d2) c [.d d1] σ₂ fun σ₃ => ASto n1 f (.d d1) c [] σ₃ (K .next)
theorem as3K.mk {n1 n2 n3 : Str} {d1 d2 d3 : Dat} {K : AF → As → Prop} (H : ASto n3 f (.d d3) c [.d d2, .d d1] σ fun σ₂ => ASto n2 f (.d d2) c [.d d1] σ₂ fun σ₃ => ASto n1 f (.d d1) c [] σ₃ (K .next)) : as3K n1 n2 n3 f c K (.d (.tuple [d1, d2, d3])) σ := ⟨_, _, _, rfl, H⟩
theorem ASt.asg3 {K : AF → As → Prop} {es : List Expr} {k : Nat} {n1 n2 n3 : Str} (H : AEv e f c [] σ (as3K n1 n2 n3 f c K)) (hs : ∀ env, swapsWithSole [.Tuple es k px] e pos.line env = pure false) (hw : ∀ c : Cx, swappedStores [.Tuple es k px] e (c.env f) = pure (some [n1, n2, n3])) : ASt (.Assign [.Tuple es k px] e pos) f c σ K := fun Q q h m N Mc t X =>
 Assign_Tuple_swapped (names := [n1, n2, n3]) (H (fun _ v s₁ => wpAny _ _ (unpackItems v 3 Option.none) (fun items s₂ => wpAny _ _ (assignInOrder [bindName (c.env f) n3, bindName (c.env f) n2, bindName (c.env f) n1] items.reverse) (fun _ => Q .next) _ s₂) _ s₁) (fun a σ' k1 h m N Mc ds v t X y => by
  obtain rfl := X.nil
  obtain ⟨d1, d2, d3, rfl, k1⟩ := k1
  obtain ⟨T, us, n, rfl, hm, hus⟩ := den_tup y
  obtain ⟨v1, v2, v3, rfl, y1, y2, y3⟩ := (dall_map hus : DAll _ [.d d1, .d d2, .d d3] us).three
  refine unpackItemsN_ (s := st0 c h t) X.F X.W (News.isTup X.W (mem_all hm)) rfl rfl (fun h' F' W' => ?_)
  refine assignInOrder_cons (bindName_ (k1 (fun ds s => wpAny _ _ (assignInOrder [bindName (c.env f) n2, bindName (c.env f) n1] ds) (fun _ => Q .next) c.E s) (fun σ₂ k2 h m N Mc ds t X2 => ?_) h' m N Mc [v2, v1] [v3] t ⟨F', X.P, W', X.S, X.M, .cons y2 (.cons y1 .nil)⟩ (.cons y3 .nil)))
  obtain ⟨v2, r2, rfl, y2, X3⟩ := X2.pop
  refine assignInOrder_cons (bindName_ (k2 (fun ds s => wpAny _ _ (assignInOrder [bindName (c.env f) n1] ds) (fun _ => Q .next) c.E s) (fun σ₃ k3 h m N Mc ds t X4 => ?_) h m N Mc r2 [v2] t X3 (.cons y2 .nil)))
  obtain ⟨v1, r1, rfl, y1, X5⟩ := X4.pop
  obtain rfl := X5.nil
  exact assignInOrder_cons (bindName_ (k3 (fun ds s => wpAny _ _ (assignInOrder [] ds) (fun _ => Q .next) c.E s) (fun σ₄ k4 h m N Mc ds t X6 => by
   obtain rfl := X6.nil
   exact assignInOrder_nil (q _ _ k4 h m N Mc _ t X6 rfl)) h m N Mc [] [v1] t X5 (.cons y1 .nil)))) h m N Mc [] t X) (hs _) (hw c)
noncomputable def InsC (C d : Addr) : AO where
 p _ o := o = instObj C d
 mono _ h := h
 nt h := by subst h; simp [NoTup, NF, instObj]
@[reducible] noncomputable def Cx.in2 (c : Cx) (z : Addr × Obj) : Cx := { c with J := z :: c.J, B := z :: c.B, hB := fun q h => (List.mem_cons.mp h).elim (fun e => e ▸ .head _) fun h => .tail _ (c.hB q h) }
theorem ASts.keep {K : AF → As → Prop} {b : List Stmt} {x C d : Addr} (H : ASts b f (c.in2 (x, instObj C d)) ⟨l, M⟩ fun fl _ => K fl ⟨[], []⟩) : ASts b f c ⟨l, (x, InsC C d) :: M⟩ K := fun Q q h m N Mc t X => by
 obtain ⟨Fx, Px, Wx, Sx, Mx, -⟩ := X
 cases Mx with
 | @cons _ _ o _ Mc hx hM =>
  obtain rfl : o = instObj C d := hx
  have hnd := List.nodup_cons.mp Sx.nd
  have up : ∀ z ∈ N ++ c.B, z ∈ N ++ (x, instObj C d) :: c.B := fun z hz => su_at hz (by bits_by_make)
  refine H Q (fun fl σ' k h' m' N' Mc' g t' Y y => ?_) h m N Mc t ⟨Fx, fun y a e => ?_, fun z hz => Wx z (su_at hz (by unfold Cx.all; bits_by_make)), ⟨fun z hz => Sx.nt z (.tail _ hz), hnd.2, fun z hz e => ?_, Sx.ok⟩, hM.mono up, .nil⟩
  ·have dn : ∀ p ∈ N' ++ (x, instObj C d) :: c.B, TL p → p ∈ N' ++ c.B := fun p hp ht => by
    rcases List.mem_append.mp hp with hp | hp
    ·exact List.mem_append_left _ hp
    ·rcases List.mem_cons.mp hp with rfl | hp
     ·rcases ht.2 with e | e <;> cases e
     ·exact List.mem_append_right _ hp
   refine q _ _ k h' m' N' [] g t' ⟨Y.F, (fun _ _ e => nomatch e), fun z hz => Y.W z (su_at hz (by unfold Cx.all; bits_by_make)), ⟨(fun _ h => nomatch h), .nil, (fun _ _ e => nomatch e), Y.S.ok⟩, .nil, .nil⟩ ?_
   cases fl with
   | ret a =>
    obtain ⟨v, rfl, hv⟩ := y
    refine ⟨v, rfl, ?_⟩
    cases a with
    | v x => exact hv
    | d x => exact DatIn.nf dn hv
   | _ => exact y
  ·obtain ⟨v, e, y⟩ := Px y a e
   exact ⟨v, e, y.mono up⟩
  ·rcases List.mem_append.mp hz with hz | hz
   ·exact Sx.off z (List.mem_append_left _ hz) (.tail _ e)
   ·rcases List.mem_cons.mp hz with rfl | hz
    ·exact hnd.1 e
    ·exact Sx.off z (List.mem_append_right _ hz) (.tail _ e)
end

end
section --TD
theorem wholeA {w : World} {ds : List Nat} (hd' : ∀ c ∈ ds, isDig c = true) (hlen : ds.length ≤ 10000) (B : Led) (vs : List Value) (hA : DAll B [.d (.str (S ds))] vs) : FnP w 165 vs 1 16 B (fun rv add => Den (add ++ B) (.d (.int (wholeOf ds))) rv) := by
 obtain ⟨v, rfl, h1⟩ := hA.one
 obtain ⟨t, rfl⟩ := den_str h1
 exact FnM.imp (whole_fn w hd' hlen) (fun _ h => nomatch h) fun r _ add ⟨_, t', e⟩ => e ▸ .int _ _
noncomputable def oneN (cs l : List Nat) (i : Nat) : Bool := match cs[i]? with
 | some c => decide (c ∈ l)
 | none => false
theorem oneN_yes {cs l : List Nat} {i : Nat} (h : i < cs.length) : oneN cs l i = decide (cs[i] ∈ l) := by unfold oneN; rw [List.getElem?_eq_getElem h]
theorem oneN_no {cs l : List Nat} {i : Nat} (h : ¬ i < cs.length) : oneN cs l i = false := by unfold oneN; rw [List.getElem?_eq_none (by omega)]
noncomputable def skR (cs l : List Nat) (i : Nat) : List Nat := if oneN cs l i then (cs.drop i).take 1 else []
noncomputable def skJ (cs l : List Nat) (i : Nat) : Nat := if oneN cs l i then i + 1 else i
section
variable {w : World} {x d : Addr} {cs : List Nat} {i : Nat} {B : Led} {vs : List Value} {Mc : Led}
theorem isOneA {l : List Nat} (hlen : cs.length ≤ 10000) (hx : (x, instObj 154 d) ∈ B) (hA : DAll B [.v (.ref x), .d (.str (S l))] vs) (hM : MAll B [(d, ScA cs i)] Mc) :
  FnM w 137 vs 1 8 Mc B (PoA (Is1 (.d (.bool (oneN cs l i))) [(d, ScA cs i)]) B) := by
 obtain ⟨_, v, rfl, h0, h2⟩ := hA.two
 obtain rfl := h0
 tbr_iter (FnM.ofA1 (M₁ := [(d, ScA cs i)]) hM (by simp) rfl (.cons (x := Str.ofString "self") (a := .v (.ref x)) rfl (.cons (x := Str.ofString "signs") h2 .nil)))
 intro cx K hw hB hd hu hK
 subst hw
 have hx' := hB _ hx
 repeat' walk1
 refine AEv.band ?_
 repeat' walk1
 refine AEv.bi PySem.boot_len (by decide +kernel) (fun w => by k_is) (by k_dflt rfl) rfl (fun _ => rfl) ?_
 repeat' walk1
 refine ACal.lenS (by omega) (ACmp.ltI ?_)
 by_cases h : i < cs.length
 ·rw [decide_eq_true (Int.ofNat_lt.mpr h)]
  refine andK.yes ?_
  repeat' walk1
  refine ASub.str h hlen rfl ?_
  repeat' walk1
  refine ACmp.inS (r := oneN cs l i) (by rw [S_cps, oneN_yes h]) ?_
  exact hK _ _ rfl rfl
 ·rw [decide_eq_false fun k => h (Int.ofNat_lt.mp k)]
  refine andK.no (hK _ _ ?_ rfl)
  rw [oneN_no h]
  rfl
theorem skipA {l : List Nat} (hlen : cs.length ≤ 10000) (hx : (x, instObj 154 d) ∈ B) (hA : DAll B [.v (.ref x), .d (.str (S l))] vs) (hM : MAll B [(d, ScA cs i)] Mc) :
  FnM w 144 vs 2 16 Mc B (PoA (Is1 (.d (.str (S (skR cs l i)))) [(d, ScA cs (skJ cs l i))]) B) := by
 obtain ⟨_, v, rfl, h0, h2⟩ := hA.two
 obtain rfl := h0
 tbr_iter (FnM.ofA1 (M₁ := [(d, ScA cs (skJ cs l i))]) hM (by simp) rfl (.cons (x := Str.ofString "self") (a := .v (.ref x)) rfl (.cons (x := Str.ofString "signs") h2 .nil)))
 intro cx K hw hB hd hu hK
 subst hw
 have hx' := hB _ hx
 refine ASts.cons (ASt.ifS (AIs.not ?_))
 repeat' walk1
 refine ACal.M1B (fun B vs Mc hB hA hM => isOneA hlen (hB _ hx') hA hM) (room hd rfl) (roomu hu rfl) ?_
 repeat' walk1
 refine bnot (fun hq => ?_) (fun hq => ?_)
 ·have hi : i < cs.length := Classical.byContradiction fun h => by rw [oneN_no h] at hq; cases hq
  repeat' walk1
  refine ASt.aug rfl rfl hx' (fun w => by exact ⟨by k_is, by k_is, by k_is⟩) (fun w => by exact ⟨by k_is, by k_is, by k_is, by k_is⟩) ?_
  repeat' walk1
  rw [show ((i + 1 : Nat) : Int) - 1 = (i : Int) from by omega]
  refine ASub.str hi hlen rfl ?_
  refine hK _ _ ?_ ?_
  ·unfold skR
   rw [hq, if_pos rfl, take1_some hi]
   rfl
  ·unfold skJ
   rw [hq, if_pos rfl]
 ·repeat' walk1
  refine hK _ _ ?_ ?_
  ·unfold skR
   rw [hq, lit_nil]
   rfl
  ·unfold skJ
   rw [hq]
   rfl
theorem ntdigA (hlen : cs.length ≤ 10000) (h1 : i ≤ cs.length) (hx : (x, instObj 154 d) ∈ B) (hA : DAll B [.v (.ref x)] vs) (hM : MAll B [(d, ScA cs i)] Mc) :
  FnM w 151 vs 2 16 Mc B (PoA (Is1 (.d (.str (S ((cs.drop i).take (skipD cs i - i))))) [(d, ScA cs (skipD cs i))]) B) := by
 obtain rfl := one_ref hA
 tbr_iter (FnM.ofAE hM (by simp) (fun _ _ k => by rw [k.2]; rfl) (.cons (x := Str.ofString "self") (a := .v (.ref x)) rfl .nil))
 intro cx K hw hB hd hu hE hK
 subst hw
 have hx' := hB _ hx
 repeat' walk1
 refine ASt.whl (fun n σ => ∃ j, σ = ⟨[(Str.ofString "begin", .d (.int i)), (Str.ofString "self", .v (.ref x))], [(d, ScA cs j)]⟩ ∧ skipD cs j = skipD cs i ∧ j ≤ cs.length ∧ i ≤ j ∧ n = cs.length - j) (hE _) ⟨i, rfl, rfl, h1, Nat.le_refl _, rfl⟩ ?_
 rintro n _ ⟨j, rfl, hj, hj', hij, rfl⟩
 refine AIs.plain ?_ (fun _ _ => rfl)
 repeat' walk1
 rw [lit_digs]
 refine ACal.M1B (fun B vs Mc hB hA hM => isOneA hlen (hB _ hx') hA hM) (room hd rfl) (roomu hu rfl) ?_
 repeat' walk1
 refine bspl (fun hb => ?_) (fun hb => ?_)
 ·have hj2 : j < cs.length := Classical.byContradiction fun h => by rw [oneN_no h] at hb; cases hb
  rw [oneN_yes hj2, isDig_mem] at hb
  repeat' walk1
  refine ASt.aug rfl rfl hx' (fun w => by exact ⟨by k_is, by k_is, by k_is⟩) (fun w => by exact ⟨by k_is, by k_is, by k_is, by k_is⟩) ?_
  repeat' walk1
  ·exact Nat.sub_lt_sub_left hj2 (Nat.lt_succ_self j)
  ·exact .cons rfl (.cons rfl .nil)
  ·rw [skipD_yes hj2 hb, hj]
  ·exact hj2
  ·exact Nat.le_succ_of_le hij
 ·have e : skipD cs i = j := by
   rw [← hj]
   by_cases h : j < cs.length
   ·rw [oneN_yes h, isDig_mem] at hb
    exact skipD_no h hb
   ·exact skipD_end (Nat.le_of_not_lt h)
  refine ASts.cons (ASt.ret (AEv.slc ?_))
  repeat' walk1
  exact slcK.mk hlen hij hj' (hK _ _ ⟨by rw [e]; rfl, by rw [e]⟩)
theorem rexpA (hlen : cs.length ≤ 10000) (hno : oneN cs [101, 69] i = false) (hx : (x, instObj 154 d) ∈ B) (hA : DAll B [.v (.ref x)] vs) (hM : MAll B [(d, ScA cs i)] Mc) :
  FnM w 172 vs 3 24 Mc B (PoA (Is1 (.d (.int 0)) [(d, ScA cs i)]) B) := by
 obtain rfl := one_ref hA
 tbr_iter (FnM.ofA1 (M₁ := [(d, ScA cs i)]) hM (by simp) rfl (.cons (x := Str.ofString "reader") (a := .v (.ref x)) rfl .nil))
 intro cx K hw hB hd hu hK
 subst hw
 have hx' := hB _ hx
 have e1 : skR cs [101, 69] i = [] := by unfold skR; rw [hno]; rfl
 have e2 : skJ cs [101, 69] i = i := by unfold skJ; rw [hno]; rfl
 repeat' walk1
 rw [lit_eE]
 refine ACal.M1B (fun B vs Mc hB hA hM => skipA hlen (hB _ hx') hA hM) (room hd rfl) (roomu hu rfl) ?_
 rw [e1, e2]
 repeat' walk1
 exact hK _ _ rfl rfl
end
theorem ACal.nt {c : Cx} {l : List (Str × AV)} {D : List AV} {K : AV → As → Prop} {cs : List Nat} (hd : c.dp + 6 < recursionLimit) (hu : c.un + 20 < cLine) (H : ∀ x d, K (.v (.ref x)) ⟨l, [(x, InsC 154 d), (d, ScA cs 0)]⟩) : ACal (.ref 154) [.d (.str (S cs))] c D ⟨l, []⟩ K := fun Q q h m N Mc ds vs t X y => by
 obtain ⟨_, rfl, y1⟩ := y.one
 obtain ⟨t1, rfl⟩ := den_str y1
 have hM : Mc = [] := by cases X.M; rfl
 subst hM
 have W : News c.h₀ c.L h (N ++ c.J) := X.W
 refine nt_make X.F c.X c.T W hd hu fun x d o h' tk hs h1 h2 F' W' => ?_
 have hi : NoTup (x, instObj 154 d) := by simp [NoTup, NF, instObj]
 refine q _ _ (H x d) h' m N [(x, instObj 154 d), (d, o)] ds _ tk ⟨F', X.P, fun z hz => W' z (su_at hz (by unfold Cx.all; bits_by_make)), ⟨?_, ?_, fun z hz e => ?_, X.S.ok⟩, .cons rfl (.cons (scA_of hs) .nil), X.D⟩ rfl
 ·exact List.forall_mem_cons.mpr ⟨hi, List.forall_mem_cons.mpr ⟨NoTup.scd hs, fun _ h => nomatch h⟩⟩
 ·refine List.nodup_cons.mpr ⟨fun e => ?_, List.nodup_cons.mpr ⟨List.not_mem_nil, .nil⟩⟩
  exact Nat.ne_of_lt h2 (List.mem_singleton.mp e).symm
 ·have hz := h1 z hz
  rcases List.mem_cons.mp e with e | e
  ·exact Nat.ne_of_lt (Nat.lt_trans hz h2) e
  ·exact Nat.ne_of_lt hz (List.mem_singleton.mp e)
noncomputable def sgT (b : Bool) : List Nat := if b then [45] else []
noncomputable def sgV (b : Bool) (v : Int) : Int := if b then -v else v
theorem sg_r (b : Bool) {ds : List Nat} (hdg : ∀ c ∈ ds, isDig c = true) : skR (sgT b ++ ds) [43, 45] 0 = sgT b ∧ skJ (sgT b ++ ds) [43, 45] 0 = (sgT b).length := by
 cases b with
 | true => exact ⟨rfl, rfl⟩
 | false =>
  have : oneN ds [43, 45] 0 = false := by
   by_cases h : 0 < ds.length
   ·rw [oneN_yes h]
    refine decide_eq_false fun e => ?_
    have := hdg _ (List.getElem_mem h)
    rcases List.mem_cons.mp e with e | e
    ·rw [e] at this; cases this
    ·rw [List.mem_singleton.mp e] at this; cases this
   ·exact oneN_no h
  show skR ds _ _ = _ ∧ skJ ds _ _ = _
  unfold skR skJ
  rw [this]
  exact ⟨rfl, rfl⟩
theorem cat_nil {a : List Nat} : S a ++ Str.ofString "" = S a := by rw [lit_nil, S_cat, List.append_nil]
theorem rdA {w : World} {b : Bool} {ds : List Nat} (hne : ds ≠ []) (hdg : ∀ c ∈ ds, isDig c = true) (hlen : (sgT b ++ ds).length ≤ 10000) (B : Led) (vs : List Value) (hA : DAll B [.d (.str (S (sgT b ++ ds)))] vs) : FnP w 179 vs 8 64 B (fun rv add => Den (add ++ B) (.d (fr (sgV b (wholeOf ds)))) rv) := by
 obtain ⟨v, rfl, h2⟩ := hA.one
 tbr_iter (FnP.ofA1 (r := .d (fr (sgV b (wholeOf ds)))) (.cons (x := Str.ofString "text") h2 .nil))
 intro cx K hw hB hd hu hK
 subst hw
 have hj : (sgT b).length ≤ (sgT b ++ ds).length := by rw [List.length_append]; exact Nat.le_add_right _ _
 have hall : skipD (sgT b ++ ds) (sgT b).length = (sgT b ++ ds).length := skipD_all hj fun c hc => hdg c (by rw [List.drop_left] at hc; exact hc)
 have hds : ((sgT b ++ ds).drop (sgT b).length).take (skipD (sgT b ++ ds) (sgT b).length - (sgT b).length) = ds := by rw [hall, List.drop_left]; exact List.take_of_length_le (by rw [List.length_append]; omega)
 have hle : ds.length ≤ 10000 := Nat.le_trans (by rw [List.length_append]; exact Nat.le_add_left _ _) hlen
 have hend : ∀ l, oneN (sgT b ++ ds) l (sgT b ++ ds).length = false := fun l => oneN_no (Nat.lt_irrefl _)
 have hR : ∀ l, skR (sgT b ++ ds) l (sgT b ++ ds).length = [] := fun l => by unfold skR; rw [hend]; rfl
 have hJ : ∀ l, skJ (sgT b ++ ds) l (sgT b ++ ds).length = (sgT b ++ ds).length := fun l => by unfold skJ; rw [hend]; rfl
 have hadd : (S ds).length + (Str.ofString "").length ≤ 16777216 := by rw [S_len, show (Str.ofString "").length = 0 from by decide +kernel]; omega
 repeat' walk1
 refine ACal.nt (room hd rfl) (roomu hu rfl) fun x d => ?_
 refine ASto.new rfl ?_
 refine ASts.keep ?_
 have hx' : (x, instObj 154 d) ∈ (cx.in2 (x, instObj 154 d)).B := .head _
 refine ASts.cons (ASt.asg3 ?_ (fun _ => rfl) (fun _ => rfl))
 repeat' walk1
 rw [lit_pm]
 refine ACal.M1B (fun B vs Mc hB hA hM => skipA hlen (hB _ hx') hA hM) (room hd rfl) (roomu hu rfl) ?_
 rw [(sg_r b hdg).1, (sg_r b hdg).2]
 repeat' walk1
 refine ACal.M1B (fun B vs Mc hB hA hM => ntdigA hlen hj (hB _ hx') hA hM) (room hd rfl) (roomu hu rfl) ?_
 rw [hds, hall]
 repeat' walk1
 refine as3K.mk ?_
 repeat' walk1
 rw [lit_46]
 refine ACal.M1B (fun B vs Mc hB hA hM => skipA hlen (hB _ hx') hA hM) (room hd rfl) (roomu hu rfl) ?_
 rw [hR, hJ]
 repeat' walk1
 refine ABin.addS hadd ?_
 rw [cat_nil]
 repeat' walk1
 refine ACmp.eqS (r := false) (by rw [lit_nil]; exact beq_eq_false_iff_ne.mpr fun e => hne ((S_eq _ _).mp e)) ?_
 repeat' walk1
 refine ACal.M1B (fun B vs Mc hB hA hM => rexpA hlen (oneN_no (Nat.lt_irrefl _)) (hB _ hx') hA hM) (room hd rfl) (roomu hu rfl) ?_
 repeat' walk1
 refine AEv.bi PySem.boot_len (by decide +kernel) (fun w => by k_is) (by k_dflt rfl) rfl (fun _ => rfl) ?_
 repeat' walk1
 rw [lit_nil]
 refine ACal.lenS (by decide) ?_
 repeat' walk1
 refine AEv.bi PySem.boot_len (by decide +kernel) (fun w => by k_is) (by k_dflt rfl) rfl (fun _ => rfl) ?_
 repeat' walk1
 refine ACal.lenS (Nat.le_trans hlen (by decide)) (ACmp.ltI ?_)
 repeat' walk1
 refine asplit (fun h => absurd h (Int.lt_irrefl _)) (fun _ => ?_)
 repeat' walk1
 refine ABin.addS (by rw [← lit_nil]; exact hadd) ?_
 rw [S_cat, List.append_nil]
 repeat' walk1
 refine ACal.P (wholeA hdg hle) (room hd rfl) (roomu hu rfl) ?_
 repeat' walk1
 refine ACmp.eqS (r := b) (by cases b <;> decide +kernel) ?_
 cases b with
 | true =>
  repeat' walk1
  refine ACmp.ltI ?_
  repeat' walk1
  refine ABin.pow (by decide) (by decide) (by decide) ?_
  refine ABin.mul (IntMulOk.of_right (by decide +kernel)) ?_
  repeat' walk1
  exact hK _ _ (congrArg (fun z => AV.d (fr z)) (Int.mul_one _))
 | false =>
  repeat' walk1
  refine ACmp.ltI ?_
  repeat' walk1
  refine ABin.pow (by decide) (by decide) (by decide) ?_
  refine ABin.mul (IntMulOk.of_right (by decide +kernel)) ?_
  repeat' walk1
  exact hK _ _ (congrArg (fun z => AV.d (fr z)) (Int.mul_one _))

end
section --TE
theorem numV_sg (cs : List Nat) (i : Nat) : numV cs i = sgV (cs[i]? == some 45) (wholeOf ((cs.drop (numJ cs i)).take (numE cs i - numJ cs i))) := by
 unfold numV
 by_cases h : cs[i]? = some 45
 ·rw [if_pos h, beq_iff_eq.mpr h]; rfl
 ·rw [if_neg h, beq_eq_false_iff_ne.mpr h]; rfl
theorem num_txt (cs : List Nat) (i : Nat) : (cs.drop i).take (numE cs i - i) = sgT (cs[i]? == some 45) ++ (cs.drop (numJ cs i)).take (numE cs i - numJ cs i) := by
 have hE : numJ cs i ≤ numE cs i := skipD_ge
 by_cases hc : cs[i]? = some 45
 ·obtain ⟨hi, h45⟩ := List.getElem?_eq_some_iff.mp hc
  have hj : numJ cs i = i + 1 := by unfold numJ; rw [if_pos hc]
  rw [beq_iff_eq.mpr hc, List.drop_eq_getElem_cons hi, h45, hj, show numE cs i - i = (numE cs i - (i + 1)) + 1 from (Nat.succ_pred_eq_of_pos (Nat.sub_pos_of_lt (Nat.le_trans (Nat.le_of_eq hj.symm) hE))).symm, List.take_succ_cons]
  rfl
 ·have hj : numJ cs i = i := by unfold numJ; rw [if_neg hc]
  rw [beq_eq_false_iff_ne.mpr hc, hj]
  rfl
theorem numJ_pk {cs : List Nat} {i : Nat} (hok : OkT cs) : (cs[i]? == some 43 || cs[i]? == some 45) = (cs[i]? == some 45) := by
 rw [pk_no fun h => (hok.at h).1, Bool.false_or]
theorem numJ_le {cs : List Nat} {i : Nat} (h : i ≤ cs.length) : numJ cs i ≤ cs.length := by
 unfold numJ
 split
 ·rename_i h45
  exact (List.getElem?_eq_some_iff.mp h45).1
 ·exact h
theorem ifcut {b o : List Stmt} {f : Fi} {c : Cx} {K : AF → As → Prop} {v : Bool} {σ : As} (σ' : As) (H1 : ∀ K' : AF → As → Prop, K' .next σ' → aIf b o f c K' v σ) (H2 : K .next σ') : aIf b o f c K v σ := H1 K H2
theorem numberA {w : World} {x d : Addr} {cs : List Nat} {i : Nat} {B : Led} {vs : List Value} {Mc : Led} (hok : OkT cs) (hlen : cs.length ≤ 10000) (h1 : i ≤ cs.length) (hx : (x, instObj 273 d) ∈ B) (hA : DAll B [.v (.ref x)] vs) (hM : MAll B [(d, ScA cs i)] Mc) :
  FnXM w 256 vs 12 96 Mc B (PoA (fun r N' => numJ cs i < numE cs i ∧ r = .d (fr (numV cs i)) ∧ N' = [(d, ScA cs (numE cs i))]) B) (PoX (fun oE N' => numE cs i = numJ cs i ∧ FaultAt i oE ∧ N' = [(d, ScA cs i)]) B) := by
 obtain rfl := one_ref hA
 tbr_iter (FnXM.ofA hM (by simp) (fun _ _ k => by rw [k.2.2]; rfl) (fun _ _ k => by rw [k.2.2]) (.cons (x := Str.ofString "self") (a := .v (.ref x)) rfl .nil))
 intro cx K hw hB hd hu hE hr hK
 subst hw
 have hx' := hB _ hx
 have hJ := numJ_le h1
 have hEJ : numJ cs i ≤ numE cs i := skipD_ge
 have hEl := numE_le h1
 repeat' walk1
 refine ACal.M1B (fun B vs Mc hB hA hM => peekA hlen h1 (hB _ hx') hA hM) (room hd rfl) (roomu hu rfl) ?_
 repeat' walk1
 refine ACmp.inP (r := cs[i]? == some 45) (by rw [lit_43, lit_45, pk_in, numJ_pk hok]) ?_
 repeat' walk1
 refine ifcut ⟨[(Str.ofString "begin", .d (.int i)), (Str.ofString "self", .v (.ref x))], [(d, ScA cs (numJ cs i))]⟩ (fun K' hK' => ?_) ?_
 ·refine bspl (fun hc => ?_) (fun hc => ?_)
  ·rw [show numJ cs i = i + 1 from if_pos (beq_iff_eq.mp hc)] at hK'
   repeat' walk1
   exact hK'
  ·rw [show numJ cs i = i from if_neg (beq_eq_false_iff_ne.mp hc)] at hK'
   repeat' walk1
   exact hK'
 repeat' walk1
 refine ACal.M1B (fun B vs Mc hB hA hM => digitsA hlen hJ (hB _ hx') hA hM) (room hd rfl) (roomu hu rfl) ?_
 repeat' walk1
 refine ACal.M1B (fun B vs Mc hB hA hM => peekA hlen hEl (hB _ hx') hA hM) (room hd rfl) (roomu hu rfl) ?_
 repeat' walk1
 refine ACmp.eqS (r := false) (by rw [lit_46, pk_eq, pk_no fun h => (hok.at h).2.1]) ?_
 repeat' walk1
 refine ACmp.eqI ?_
 repeat' walk1
 refine asplit (fun h0 => ?_) (fun h0 => ?_)
 ·have h0' : numE cs i = numJ cs i := Nat.le_antisymm (Nat.sub_eq_zero_iff_le.mp (Int.ofNat_eq_zero.mp h0)) hEJ
  repeat' walk1
  exact ACal.X1 hr (fun B vs Mc hB hA hM => faultA (hB _ hx') hA hM) (room hd rfl) (roomu hu rfl) (fun oE N' h => ⟨h0', h.1, by rw [h.2]; rfl⟩) fun _ _ h => h.elim
 ·have hlt : numJ cs i < numE cs i := Nat.lt_of_not_le fun h => h0 (Int.ofNat_eq_zero.mpr (Nat.sub_eq_zero_of_le h))
  have hds : ∀ c ∈ (cs.drop (numJ cs i)).take (numE cs i - numJ cs i), isDig c = true := fun c hc => mem_takeWhile (numT ▸ hc)
  have hJi : i ≤ numJ cs i := by
   unfold numJ
   split
   ·exact Nat.le_succ i
   ·exact Nat.le_refl i
  have hne : (cs.drop (numJ cs i)).take (numE cs i - numJ cs i) ≠ [] := List.ne_nil_of_length_pos (by rw [List.length_take, List.length_drop]; exact Nat.lt_min.mpr ⟨Nat.sub_pos_of_lt hlt, Nat.sub_pos_of_lt (Nat.lt_of_lt_of_le hlt hEl)⟩)
  have hdl : (sgT (cs[i]? == some 45) ++ (cs.drop (numJ cs i)).take (numE cs i - numJ cs i)).length ≤ 10000 := by
   rw [← num_txt, List.length_take]
   exact Nat.le_trans (Nat.min_le_left _ _) (Nat.le_trans (Nat.sub_le _ _) (Nat.le_trans hEl hlen))
  repeat' walk1
  refine ACal.M1B (fun B vs Mc hB hA hM => exponentA hlen hEl (fun h => (hok.at h).2.2) (hB _ hx') hA hM) (room hd rfl) (roomu hu rfl) ?_
  repeat' walk1
  refine ASt.try0 ?_
  refine ASts.cons (ASt.ret ?_)
  iterate 2 walk1
  refine AEv.slc ?_
  repeat' walk1
  refine slcK.mk hlen (Nat.le_trans hJi hEJ) hEl ?_
  rw [num_txt]
  repeat' walk1
  refine ACal.P (rdA hne hds hdl) (room hd rfl) (roomu hu rfl) ?_
  exact hK _ _ ⟨hlt, by rw [numV_sg]; rfl, rfl⟩

end
section --TF
inductive DL : List (Option Expr) → List Expr → List (Str × AV) → Prop
 | nil : DL [] [] []
 | int {k : Str} {i : Int} {n n' : Nat} {p p' : Pos} {ks : List (Option Expr)} {vs : List Expr} {l : List (Str × AV)} (h : DL ks vs l) : DL (some (.Constant (.str k) n p) :: ks) (.Constant (.int i) n' p' :: vs) ((k, .d (.int i)) :: l)
 | str {k i : Str} {n n' : Nat} {p p' : Pos} {ks : List (Option Expr)} {vs : List Expr} {l : List (Str × AV)} (h : DL ks vs l) : DL (some (.Constant (.str k) n p) :: ks) (.Constant (.str i) n' p' :: vs) ((k, .d (.str i)) :: l)
noncomputable def LitP (l : List (Str × AV)) (r : List (Value × Value)) : Prop := allStrKeys r = true ∧ ∀ B, Zp B l (strPairs r)
theorem DL.walk {prog : Program} {w : World} {A : Around} {E : Value → Shared → Prop} {env : Env} {pos : Pos} {ks : List (Option Expr)} {vs : List Expr} {l : List (Str × AV)} (h : DL ks vs l) : ∀ {s : Shared} {Q : List (Value × Value) → Shared → Prop}, (∀ r tk, LitP l r → Q r { s with toks := tk }) → wpAny (model prog w) A (evalPairs (pairTrees ks vs env pos)) Q E s := by
 induction h with
 | nil => exact fun k => pairTrees_nil_walk (k [] _ ⟨rfl, fun _ => .nil⟩)
 | int _ ih => exact fun k => pairTrees_cons_walk (Constant_str (wpAny_Constant_int (ih fun r tk hr => k _ tk ⟨hr.1, fun B => .cons (.int _ _) (hr.2 B)⟩)))
 | str _ ih => exact fun k => pairTrees_cons_walk (Constant_str (Constant_str (ih fun r tk hr => k _ tk ⟨hr.1, fun B => .cons (.str _ _) (hr.2 B)⟩)))
theorem zp_keys {B : Led} {l : List (Str × AV)} {b : List (Str × Value)} (h : Zp B l b) : b.map (·.1) = l.map (·.1) := by
 induction h with
 | nil => rfl
 | cons _ _ ih => rw [List.map_cons, List.map_cons, ih]
section
variable {f : Fi} {c : Cx} {l : List (Str × AV)} {D : List AV} {pos : Pos} {K : AV → As → Prop} {d : Addr} {kvs : List (Str × AV)}
theorem AEv.dlit {ks : List (Option Expr)} {vs : List Expr} (h : DL ks vs kvs) (ha : ks.all (·.isSome) = true) (hl : ks.length = vs.length) (h0 : ks ≠ []) (hz : ks.length ≤ 15) (hn : (kvs.map (·.1)).Nodup) (H : ∀ d, (d == sysModules) = false → K (.v (.ref d)) ⟨l, [(d, DicA c.w kvs)]⟩) : AEv (.Dict ks vs pos) f c D ⟨l, []⟩ K := fun Q q hh m N Mc ds t X => by
 have hM : Mc = [] := by cases X.M; rfl
 subst hM
 refine kdn_eval (knd := PySem.strKind PySem.Challenge.rw_on0248_01.prog c.w) X.F (show News c.h₀ c.L hh (N ++ c.J) from X.W) c.T.nolimit ha hl h0 hz fun d h₁ o F₁ W₁ hlt lo ho => ?_
 refine h.walk fun r tk hr => ?_
 have hz := hr.2 (N ++ c.B)
 refine kdn_made_str (g := fun o' => (d, o') :: (N ++ c.J)) F₁ W₁ (.head fun p hp => Nat.ne_of_lt (hlt p hp)) ho hr.1 (by rw [zp_keys hz]; exact hn) fun h₂ o₂ F₂ W₂ ho₂ => ?_
 exact q _ _ (H d lo) h₂ m N [(d, o₂)] ds _ _ ⟨F₂, X.P, W₂, ⟨List.forall_mem_cons.mpr ⟨NoTup.dicO ho₂, fun _ h => nomatch h⟩, List.nodup_cons.mpr ⟨List.not_mem_nil, .nil⟩, fun z hz e => Nat.ne_of_lt (hlt z hz) (List.mem_singleton.mp e), X.S.ok⟩, .cons ⟨_, ho₂, hz⟩ .nil, X.D⟩ rfl
theorem AMcl.get {e : Expr} {es : List Expr} (hx : Xs (e :: es) = true) (H : AEvs (e :: es) f c (.v (.ref d) :: D) ⟨l, [(d, DicA c.w kvs)]⟩ (aCalM (.builtin "dict.get") (.v (.ref d)) c D K)) : AMcl "get" (e :: es) pos f (.v (.ref d)) c D ⟨l, [(d, DicA c.w kvs)]⟩ K := fun pl Q q h m N Mc ds v t X y => by
 obtain rfl : v = .ref d := y
 have X0 := X
 obtain ⟨ob, rfl, kv, ho, hz⟩ := ms1 X.M
 refine kdg_method X.W (.head _) ho ?_
 refine callWith_method1 (H pos (fun ds' vs s₁ => wpAny _ _ (PySem.call (.builtin "dict.get") ([.ref d] ++ vs)) (Q ds'.tail) _ s₁) (fun as σ' k h m N Mc ds' vs t X' y' => ?_) h m N _ (.ref d :: ds) t (X0.push rfl)) (Xs.star hx _) (Xs.plain (Xs.tl hx) _ _)
 obtain ⟨w', r', rfl, yw, X1⟩ := X'.pop
 obtain rfl : w' = .ref d := yw
 exact k Q q h m N Mc r' (.ref d :: vs) t X1 (.cons rfl y')
theorem ACal.get {y : Str} {a r : AV} (lo : (d == sysModules) = false) (hr : (kvs.lookup y).getD a = r) (H : K r ⟨l, [(d, DicA c.w kvs)]⟩) : ACal (.builtin "dict.get") [.v (.ref d), .d (.str y), a] c D ⟨l, [(d, DicA c.w kvs)]⟩ K := fun Q q h m N Mc ds vs t X z => by
 obtain ⟨v, k, u, rfl, z1, z2, z3⟩ := z.three
 obtain rfl : v = .ref d := z1
 obtain ⟨tk, rfl⟩ := den_str z2
 have X0 := X
 obtain ⟨ob, rfl, kv, ho, hz⟩ := ms1 X.M
 refine kdg_get2 X.W (.head _) ho lo (strKind_is _ _ _ _) _ valueAt_lookup ?_
 cases e : kvs.lookup y with
 | some b =>
  obtain ⟨v, hv, hd⟩ := hz.look _ _ e
  rw [e] at hr
  rw [show kv.lookup y = some v from hv]
  exact q _ _ H h m N _ ds _ _ X0 (hr ▸ hd)
 | none =>
  have : kv.lookup y = none := lookup_none (by
   rw [zp_keys hz]
   intro hm
   obtain ⟨p, hp, rfl⟩ := List.mem_map.mp hm
   have : ∀ {l : List (Str × AV)}, p ∈ l → l.lookup p.1 ≠ none := by
    intro l
    induction l with
    | nil => exact fun h => nomatch h
    | cons q r ih =>
     intro h
     rw [List.lookup_cons]
     cases hq : p.1 == q.1 with
     | true => exact fun h => nomatch h
     | false =>
      rcases List.mem_cons.mp h with rfl | h
      ·rw [beq_self_eq_true] at hq; cases hq
      ·exact ih h
   exact this hp e)
  rw [e] at hr
  rw [this]
  exact q _ _ H h m N _ ds _ _ X0 (hr ▸ z3)
end
theorem lookup_mapV {α : Type} (g : α → AV) (k : Str) : ∀ l : List (Str × α), (l.map fun q => (q.1, g q.2)).lookup k = (l.lookup k).map g
 | [] => rfl
 | (y, v) :: r => by
  rw [List.map_cons, List.lookup_cons, List.lookup_cons]
  cases k == y with
  | true => rfl
  | false => exact lookup_mapV g k r
noncomputable def manyT : List (Str × Int) := [(Str.ofString "M", 2), (Str.ofString "L", 2), (Str.ofString "H", 1), (Str.ofString "V", 1), (Str.ofString "C", 6), (Str.ofString "S", 4), (Str.ofString "Q", 4), (Str.ofString "T", 2), (Str.ofString "A", 7), (Str.ofString "Z", 0)]
noncomputable def upC (c : Nat) : Nat := if 97 ≤ c ∧ c ≤ 122 then c - 32 else c
theorem many_look : ∀ c ∈ reads, c < 128 ∧ manyT.lookup (S [upC c]) = some (manyN c : Int) := by decide +kernel
theorem many_nodup : (manyT.map (·.1)).Nodup := by decide +kernel
theorem manyA {w : World} {c : Nat} (hc : c ∈ reads) (B : Led) (vs : List Value) (hA : DAll B [.d (.str (S [c]))] vs) : FnP w 284 vs 1 16 B (fun rv add => Den (add ++ B) (.d (.int (manyN c))) rv) := by
 obtain ⟨v, rfl, h1⟩ := hA.one
 tbr_iter (FnP.ofA1 (.cons (x := Str.ofString "letter") h1 .nil))
 intro cx K hw hB hd hu hK
 subst hw
 refine ASts.cons ?_
 refine ASt.ret ?_
 refine AEv.sub ?_
 refine' AEv.dlit ?k1 ?k2 ?k3 ?k4 ?k5 ?k6 ?_
 case k1 => exact .int (.int (.int (.int (.int (.int (.int (.int (.int (.int .nil)))))))))
 case k2 => exact rfl
 case k3 => exact rfl
 case k4 => exact fun h => nomatch h
 case k5 => decide
 case k6 => exact many_nodup
 intro d _
 repeat' walk1
 refine ACal.upper (y := S [upC c]) (KOpn.upper_one (many_look c hc).1) (fit_upper (by rw [S_len]; exact (by decide : 1 ≤ 5592405))) ?_
 refine ASub.k0 (a := .d (.int (manyN c))) ((lookup_mapV (fun i => .d (.int i)) _ manyT).trans (by rw [(many_look c hc).2]; rfl)) rfl ?_
 exact hK _ _ rfl
noncomputable def behT : List (Str × Str) := [(Str.ofString "M", Str.ofString "L"), (Str.ofString "m", Str.ofString "l")]
theorem beh_look (c : Nat) : ((behT.map fun q => (q.1, AV.d (.str q.2))).lookup (S [c])).getD (.d (.str (S [c]))) = .d (.str (S [behind c])) := by
 rw [lookup_mapV fun s => AV.d (.str s)]
 have e : behT = [(S [77], S [76]), (S [109], S [108])] := by decide +kernel
 rw [e, List.lookup_cons, List.lookup_cons]
 unfold behind
 by_cases h : c = 77
 ·rw [if_pos h, h, beq_self_eq_true]
  rfl
 ·rw [if_neg h, beq_eq_false_iff_ne.mpr fun e => h (List.head_eq_of_cons_eq ((S_eq _ _).mp e))]
  by_cases h2 : c = 109
  ·rw [if_pos h2, h2, beq_self_eq_true]
   rfl
  ·rw [if_neg h2, beq_eq_false_iff_ne.mpr fun e => h2 (List.head_eq_of_cons_eq ((S_eq _ _).mp e))]
   rfl
theorem behindA {w : World} {c : Nat} (B : Led) (vs : List Value) (hA : DAll B [.d (.str (S [c]))] vs) : FnP w 291 vs 1 16 B (fun rv add => Den (add ++ B) (.d (.str (S [behind c]))) rv) := by
 obtain ⟨v, rfl, h1⟩ := hA.one
 tbr_iter (FnP.ofA1 (.cons (x := Str.ofString "letter") h1 .nil))
 intro cx K hw hB hd hu hK
 subst hw
 refine ASts.cons ?_
 refine ASt.ret ?_
 refine AEv.mcall ?_ (fun _ => rfl)
 refine' AEv.dlit ?k1 ?k2 ?k3 ?k4 ?k5 ?k6 ?_
 case k1 => exact .str (.str .nil)
 case k2 => exact rfl
 case k3 => exact rfl
 case k4 => exact fun h => nomatch h
 case k5 => decide
 case k6 => exact (by decide +kernel : (behT.map (·.1)).Nodup)
 intro d lo
 refine AMcl.get rfl ?_
 repeat' walk1
 refine ACal.get lo (beh_look c) ?_
 exact hK _ _ rfl

end
section --SC
theorem FnP.imp {w : World} {f : Addr} {vs : List Value} {dep uni : Nat} {J J' : Led} {P P' : Value → Led → Prop} (c : FnP w f vs dep uni J P) (hJ : ∀ q ∈ J, q ∈ J') (i : ∀ r add, P r add → P' r add) : FnP w f vs dep uni J' P' :=
 FnM.imp c hJ fun r _ add => i r add
theorem grp_done {cs : List Nat} {b : Bool} {n i : Nat} {r : GR} (g : GrpR cs b n n i r) : r = .ok [] i := by
 have : ∀ {k}, GrpR cs b n k i r → k = n → r = .ok [] i := by
  intro k g e
  cases g with
  | done => rfl
  | num hp => omega
  | lack hp => omega
  | flag hp => omega
 exact this g rfl
theorem GR.pre_ok (acc : List Int) (j : Nat) : GR.pre acc (.ok [] j) = .ok acc j := by simp [GR.pre]
theorem grp_flag {cs : List Nat} {c n k j : Nat} {r : GR} (g : GrpR cs (decide (c ∈ [65, 97])) n k j r) (hk : k < n) (hc : c ∈ [65, 97]) (h34 : k = 3 ∨ k = 4) : (∀ h : at0 cs k j < cs.length, cs[at0 cs k j]'h ≠ 48) ∧ (∀ h : at0 cs k j < cs.length, cs[at0 cs k j]'h ≠ 49) ∧ r = .bad (at0 cs k j) := by
 cases g with
 | done => exact absurd hk (Nat.lt_irrefl _)
 | num hp ha => exact (h34.elim (ha (decide_eq_true hc)).1 (ha (decide_eq_true hc)).2).elim
 | lack hp ha => exact (h34.elim (ha (decide_eq_true hc)).1 (ha (decide_eq_true hc)).2).elim
 | flag _ _ _ h0 h1 => exact ⟨h0, h1, rfl⟩
theorem grp_lack {cs : List Nat} {c n k j : Nat} {r : GR} (g : GrpR cs (decide (c ∈ [65, 97])) n k j r) (hk : k < n) (hf : ¬ (c ∈ [65, 97] ∧ (k = 3 ∨ k = 4))) (he : numE cs (at0 cs k j) = numJ cs (at0 cs k j)) : r = .bad (at0 cs k j) := by
 cases g with
 | done => omega
 | num hp ha hlt => omega
 | lack hp ha => rfl
 | flag _ ha h34 => exact absurd ⟨of_decide_eq_true ha, h34⟩ hf
theorem grp_num {cs : List Nat} {c n k j : Nat} {r : GR} (g : GrpR cs (decide (c ∈ [65, 97])) n k j r) (hk : k < n) (hf : ¬ (c ∈ [65, 97] ∧ (k = 3 ∨ k = 4))) (hlt : numJ cs (at0 cs k j) < numE cs (at0 cs k j)) : ∃ r₃, GrpR cs (decide (c ∈ [65, 97])) n (k + 1) (numE cs (at0 cs k j)) r₃ ∧ r = r₃.cons (numV cs (at0 cs k j)) := by
 cases g with
 | done => omega
 | num hp ha hlt g => exact ⟨_, g, rfl⟩
 | lack hp ha he => omega
 | flag _ ha h34 => exact absurd ⟨of_decide_eq_true ha, h34⟩ hf
theorem inAa {c : Nat} : decide (c ∈ (Str.ofString "Aa").cps.toList) = decide (c ∈ [65, 97]) := by
 rw [show (Str.ofString "Aa").cps.toList = [65, 97] from by decide +kernel]
theorem inAa_yes {c : Nat} (h : c ∈ [65, 97]) : decide (c ∈ (Str.ofString "Aa").cps.toList) = true := by rw [inAa]; exact decide_eq_true h
theorem in34 {k : Nat} (h : k = 3 ∨ k = 4) : ([3, 4] : List Int).any (· == (k : Int)) = true := by rcases h with rfl | rfl <;> rfl
theorem in34no {k : Nat} (h : ¬ (k = 3 ∨ k = 4)) : ([3, 4] : List Int).any (· == (k : Int)) = false := by
 rw [List.any_cons, List.any_cons, List.any_nil, beq_eq_false_iff_ne.mpr (by omega), beq_eq_false_iff_ne.mpr (by omega)]
 rfl
theorem AIs.cut {e : Expr} {f : Fi} {c : Cx} {D : List AV} {σ : As} {K : Bool → As → Prop} {Y : (Bool → As → Prop) → Prop} (H : ∀ K' : Bool → As → Prop, Y K' → AIs e f c D σ K') (H2 : Y K) : AIs e f c D σ K := H K H2
noncomputable def GrA (d : Addr) (cs : List Nat) (r : GR) (a : AV) (N' : List (Addr × AO)) : Prop := ∃ xs j, r = .ok xs j ∧ j ≤ cs.length ∧ a = .d (.tuple (xs.map fr)) ∧ N' = [(d, ScA cs j)]
noncomputable def GrX (d : Addr) (cs : List Nat) (r : GR) (oE : Obj) (N' : List (Addr × AO)) : Prop := ∃ p j, r = .bad p ∧ FaultAt p oE ∧ N' = [(d, ScA cs j)]
theorem groupA' {w : World} {x d : Addr} {cs : List Nat} {i c : Nat} {r : GR} (hc : c ∈ reads) (hok : OkT cs) (hlen : cs.length ≤ 10000) (h1 : i ≤ cs.length) (g : GrpR cs (decide (c ∈ [65, 97])) (manyN c) 0 i r) {B : Led} {vs : List Value} {Mc : Led} (hx : (x, instObj 273 d) ∈ B) (hA : DAll B [.v (.ref x), .d (.str (S [c]))] vs) (hM : MAll B [(d, ScA cs i)] Mc) :
  FnXM w 298 vs 20 160 Mc B (PoA (GrA d cs r) B) (PoX (GrX d cs r) B) := by
 obtain ⟨_, v1, rfl, h0, h2⟩ := hA.two
 obtain rfl := h0
 tbr_iter (FnXM.ofA hM (by simp) (fun r N' h => by obtain ⟨_, _, -, -, -, rfl⟩ := h; rfl) (fun r N' h => by obtain ⟨_, _, -, -, rfl⟩ := h; rfl) (.cons (x := Str.ofString "scanner") (a := .v (.ref x)) rfl (.cons (x := Str.ofString "letter") h2 .nil)))
 intro cx K hw hB hd hu hE hr hK
 subst hw
 have hx' := hB _ hx
 repeat' walk1
 refine ANl.new fun G => ?_
 repeat' walk1
 refine ASt.forV hE (by k_dflt rfl) (by k_dflt rfl) (fun w => by k_is) (fun _ => rfl) rfl ?_
 repeat' walk1
 refine ACal.P (manyA hc) (room hd rfl) (roomu hu rfl) ?_
 have hn7 := many_le c
 refine ⟨manyN c, fun k σ => ∃ j acc r', σ = ⟨[(Str.ofString "found", .v (.ref G)), (Str.ofString "scanner", .v (.ref x)), (Str.ofString "letter", .d (.str (S [c])))], [(d, ScA cs j), (G, LstA (acc.map fr))]⟩ ∧ j ≤ cs.length ∧ acc.length = k ∧ GrpR cs (decide (c ∈ [65, 97])) (manyN c) k j r' ∧ r = GR.pre acc r', rfl, by omega, ⟨i, [], r, rfl, h1, rfl, g, (GR.pre_nil r).symm⟩, ?_, ?_⟩
 ·rintro own k _ hk hown ⟨j, acc, r', rfl, hj, hacc, g', hpre⟩
  have hr' := hr.own hown
  have hj2 : at0 cs k j ≤ cs.length := by
   unfold at0
   split
   ·exact hj
   ·exact sepEnd_le hj
  refine ASts.cut (Y := fun K' => K' ⟨[(Str.ofString "place", .d (.int k)), (Str.ofString "found", .v (.ref G)), (Str.ofString "scanner", .v (.ref x)), (Str.ofString "letter", .d (.str (S [c])))], [(d, ScA cs (at0 cs k j)), (G, LstA (acc.map fr))]⟩) ?_ ?_
  ·intro K' hK'
   repeat' walk1
   refine ACmp.gt ?_
   repeat' walk1
   refine asplit (fun hk0 => ?_) (fun hk0 => ?_)
   ·rw [at0_pos (by omega)] at hK'
    repeat' walk1
    refine ACal.MrB (c := cx.own own cx.s) (M₀ := [(d, ScA cs j)]) (M₁ := [(G, LstA (acc.map fr))]) (fun B vs Mc hB hA hM => sepA hlen hj (hB _ hx') hA hM) (room hd rfl) (roomu hu rfl) ?_
    rintro _ _ ⟨rfl, rfl⟩
    repeat' walk1
    exact hK'
   ·obtain rfl : k = 0 := by omega
    repeat' walk1
    exact hK'
  ·have bad : ∀ oE p, r = .bad p → FaultAt p oE → ∃ M₁ M₂, [(d, ScA cs (at0 cs k j))] ++ [(G, LstA (acc.map fr))] = M₁ ++ M₂ ∧ GrX d cs r oE M₁ := fun oE p hp hf => ⟨_, _, rfl, p, _, hp, hf, rfl⟩
   by_cases hfl : c ∈ [65, 97] ∧ (k = 3 ∨ k = 4)
   ·obtain ⟨hb0, hb1, hpf⟩ := grp_flag g' hk hfl.1 hfl.2
    repeat' walk1
    refine ACmp.inS (r := true) (inAa_yes hfl.1) ?_
    repeat' walk1
    refine ACmp.inT (ns := [3, 4]) (r := true) (in34 hfl.2) ?_
    repeat' walk1
    exact ACal.Xr (c := cx.own own cx.s) (M₀ := [(d, ScA cs (at0 cs k j))]) (M₁ := [(G, LstA (acc.map fr))]) hr'.more (fun B vs Mc hB hA hM => flagA hlen hj2 hb0 hb1 (hB _ hx') hA hM) (room hd rfl) (roomu hu rfl) (fun oE _ ⟨hf, e⟩ => e ▸ bad oE _ (by rw [hpre, hpf]; rfl) hf) (fun _ _ h => h.elim)
   ·refine ASts.cons (ASt.ifS ?_)
    refine AIs.cut (Y := fun K' => K' false ⟨[(Str.ofString "place", .d (.int k)), (Str.ofString "found", .v (.ref G)), (Str.ofString "scanner", .v (.ref x)), (Str.ofString "letter", .d (.str (S [c])))], [(d, ScA cs (at0 cs k j)), (G, LstA (acc.map fr))]⟩) ?_ ?_
    ·intro K' hK'
     repeat' walk1
     refine ACmp.inS (r := decide (c ∈ [65, 97])) inAa ?_
     repeat' walk1
     refine asplit (fun hA => ?_) (fun hA => ?_)
     ·repeat' walk1
      refine ACmp.inT (ns := [3, 4]) (r := false) (in34no fun h => hfl ⟨hA, h⟩) ?_
      repeat' walk1
      exact hK'
     ·exact hK'
    ·repeat' walk1
     refine ACal.Xr (c := cx.own own cx.s) (M₀ := [(d, ScA cs (at0 cs k j))]) (M₁ := [(G, LstA (acc.map fr))]) hr'.more (fun B vs Mc hB hA hM => numberA hok hlen hj2 (hB _ hx') hA hM) (room hd rfl) (roomu hu rfl) (fun oE _ ⟨hne, hf, e⟩ => e ▸ bad oE _ (by rw [hpre, grp_lack g' hk hfl hne]; rfl) hf) ?_
     rintro _ _ ⟨hlt, rfl, rfl⟩
     obtain ⟨r₃, g3, e3⟩ := grp_num g' hk hfl hlt
     repeat' walk1
     refine ACal.a1 (by rw [List.length_map]; omega) ?_
     repeat' walk1
     exact ⟨_, .cons rfl (.cons rfl (.cons rfl .nil)), _, acc ++ [_], r₃, by rw [List.map_append]; rfl, numE_le hj2, by rw [List.length_append, hacc]; rfl, g3, by rw [hpre, e3, GR.pre_cons]⟩
 ·rintro _ ⟨j, acc, r', rfl, hj, hacc, g', hpre⟩
  have hr' : r = .ok acc j := by rw [hpre, grp_done g']; exact GR.pre_ok acc j
  refine ASts.cons (ASt.ret ?_)
  refine AEv.ty (T := "tuple") (by decide +kernel) (by decide +kernel) (fun w => by k_is) (by k_dflt rfl) rfl (fun _ => rfl) ?_
  repeat' walk1
  refine ACal.tupL (M := [(d, ScA cs j)]) (by rw [List.length_map]; omega) ?_
  exact hK _ _ ⟨acc, j, hr', hj, rfl, rfl⟩

end
section --SD
section
variable {f : Fi} {c : Cx} {l : List (Str × AV)} {M : List (Addr × AO)} {D : List AV} {σ : As} {q1 : Addr × AO}
theorem AIs.eqNil {K : Bool → As → Prop} {x : Str} {G : Addr} {dl : List Dat} {p1 p2 p3 : Pos} (hv : l.lookup x = some (.v (.ref G))) (hl : f.is x .local = true) (hu : c.un < cLine) (H : K (decide (dl = [])) ⟨l, q1 :: (G, LstA dl) :: M⟩) : AIs (.Compare (.Name x p1) [.Eq] [.List [] p2] p3) f c D ⟨l, q1 :: (G, LstA dl) :: M⟩ K := fun Q q h m N Mc ds t X => by
 obtain ⟨v, hm, y⟩ := X.P x _ hv
 obtain rfl : v = .ref G := y
 have X0 := X
 obtain ⟨sa, ob, sz, rfl, ha, ⟨us, n, rfl, hus⟩, hz⟩ := (show MAll _ ([q1] ++ (G, LstA dl) :: M) _ from X.M).look
 have hmem : (G, W.listOf us.toArray n) ∈ c.all (sa ++ (G, W.listOf us.toArray n) :: sz) N := List.mem_append_left _ (List.mem_append_right _ (.head _))
 refine wpAny_isTrue_Compare1 (nmL X.F hm hl (List_ (args_nil (newList_K X.F X.W (fun T h' F' W' lt => ?_) (Nat.zero_le _))))) rfl
 have fin : ∀ b, decide (dl = []) = b → wpAny (MD c.w) c.A (truthy (.bool b)) (Q ds) c.E { st0 c h t with heap := h' } := fun b e => wpAny_truthy_bool (q _ _ (e ▸ H) h' m N _ ds t ⟨F', X0.P, fun z hz => W' z (.tail _ hz), X0.S, X0.M, X0.D⟩)
 have g1 := (W' _ (.tail _ hmem)).1
 have g2 := (W' _ (.head _)).1
 cases dl with
 | nil =>
  cases hus
  exact SeqAt.eq_listAt (items := #[]) (items2 := #[]) (e := fun _ => true) ⟨_, g1, rfl, n, rfl⟩ ⟨_, g2, rfl, 0, rfl⟩ rfl hu (fun _ h => nomatch h) (by simpa using fin true rfl)
 | cons d dl =>
  cases hus with
  | cons h1 h2 => exact SeqAt.eq_list_lengthsAt (items := (_ :: _ : List Value).toArray) (items2 := #[]) ⟨_, g1, rfl, n, rfl⟩ ⟨_, g2, rfl, 0, rfl⟩ (by simp) hu (fin false rfl)
theorem ACmp.isnN {K : AV → As → Prop} (H : K (.d (.bool false)) σ) : ACmp .IsNot (.d .none) (.d .none) c D σ K := ACmp.of (fun B va vb Q s y1 y2 h => by
 cases y1
 cases y2
 exact isnot_none_none h) H
theorem ACmp.isnS {K : AV → As → Prop} {x : Str} (H : K (.d (.bool true)) σ) : ACmp .IsNot (.d (.str x)) (.d .none) c D σ K := ACmp.of (fun B va vb Q s y1 y2 h => by
 obtain ⟨t1, rfl⟩ := den_str y1
 cases y2
 exact isNot_none h) H
end
theorem inMm {c : Nat} : decide (c ∈ (Str.ofString "Mm").cps.toList) = decide (c ∈ [77, 109]) := by
 rw [show (Str.ofString "Mm").cps.toList = [77, 109] from by decide +kernel]
theorem inZz {c : Nat} : decide (c ∈ (Str.ofString "Zz").cps.toList) = decide (c ∈ [90, 122]) := by
 rw [show (Str.ofString "Zz").cps.toList = [90, 122] from by decide +kernel]
noncomputable def InA (d f : Addr) (cs : List Nat) (res : List Cmd × Option Nat) (a : AV) (N' : List (Addr × AO)) : Prop := ∃ j, res.2 = none ∧ a = .d .none ∧ N' = [(d, ScA cs j), (f, LstA (res.1.map cmdD))]
noncomputable def InX (d f : Addr) (cs : List Nat) (res : List Cmd × Option Nat) (oE : Obj) (N' : List (Addr × AO)) : Prop := ∃ p j, res.2 = some p ∧ FaultAt p oE ∧ N' = [(d, ScA cs j), (f, LstA (res.1.map cmdD))]
noncomputable def LetA (cs : List Nat) (n : Nat) (cmds : List Cmd) (res : List Cmd × Option Nat) (a : AV) (j : Nat) : Prop :=
 (a = .d .none ∧ res = (cmds, none)) ∨ ∃ c i, a = .d (.str (S [c])) ∧ (∃ h : skipB cs i < cs.length, cs[skipB cs i] = c) ∧ isL c = true ∧ j = skipB cs i + 1 ∧ StR cs n cmds none i res
theorem StR.noMove {cs : List Nat} {n i : Nat} {res : List Cmd × Option Nat} (g : StR cs n [] none i res) (h : skipB cs i < cs.length) (hl : isL cs[skipB cs i] = true) (hno : cs[skipB cs i] ∉ [77, 109]) : res = ([], some (skipB cs i)) := by
 cases g with
 | over h' => exact absurd h' (Nat.not_le.mpr h)
 | nocmd _ h' => exact absurd (hl.symm.trans h') (by decide)
 | nomove => rfl
 | close _ _ _ hne => exact absurd rfl hne
 | grpBad _ hc _ hm => exact absurd (hc ▸ hm.resolve_left fun h => h rfl) hno
 | grpOk _ hc _ hm => exact absurd (hc ▸ hm.resolve_left fun h => h rfl) hno
theorem StR.closeOf {cs : List Nat} {n i c : Nat} {cmds : List Cmd} {res : List Cmd × Option Nat} (g : StR cs n cmds none i res) (h : skipB cs i < cs.length) (hc : cs[skipB cs i] = c) (hz : c ∈ [90, 122]) (hnm : ¬ (cmds = [] ∧ c ∉ [77, 109])) : ∃ k, n = k + 1 ∧ StR cs k (cmds ++ [(c, [])]) none (skipB cs i + 1) res := by
 have hcr : ∀ c' ∈ reads, c' ≠ c := fun c' h' e => (by decide +kernel : ∀ c ∈ reads, ¬ c ∈ [90, 122]) c' h' (e ▸ hz)
 cases g with
 | over h' => exact absurd h' (Nat.not_le.mpr h)
 | nocmd _ h' => exact absurd ((isL_close (hc ▸ hz : cs[skipB cs i] ∈ [90, 122])).symm.trans h') (by decide)
 | nomove _ _ h' => exact absurd ⟨rfl, hc ▸ h'⟩ hnm
 | close _ hc' _ _ g => 
  obtain rfl := hc'.symm.trans hc
  exact ⟨_, rfl, g⟩
 | grpBad _ hc' h' => exact absurd (hc'.symm.trans hc) (hcr _ h')
 | grpOk _ hc' h' => exact absurd (hc'.symm.trans hc) (hcr _ h')
noncomputable def GOr (cs : List Nat) (n c l : Nat) (cmds : List Cmd) (res : List Cmd × Option Nat) (r : GR) : Prop := (∃ p, r = .bad p ∧ res = (cmds, some p)) ∨ ∃ xs j k, r = .ok xs j ∧ n = k + 1 ∧ StR cs k (cmds ++ [(c, xs)]) (some l) j res
theorem GOr.badOf {cs : List Nat} {n c l p : Nat} {cmds : List Cmd} {res : List Cmd × Option Nat} {r : GR} (h : GOr cs n c l cmds res r) (e : r = .bad p) : res = (cmds, some p) := by
 rcases h with ⟨p', e', h⟩ | ⟨_, _, _, e', -⟩
 ·rw [e] at e'; cases e'; exact h
 ·rw [e] at e'; cases e'
theorem GOr.okOf {cs : List Nat} {n c l j : Nat} {xs : List Int} {cmds : List Cmd} {res : List Cmd × Option Nat} {r : GR} (h : GOr cs n c l cmds res r) (e : r = .ok xs j) : ∃ k, n = k + 1 ∧ StR cs k (cmds ++ [(c, xs)]) (some l) j res := by
 rcases h with ⟨p', e', -⟩ | ⟨_, _, k, e', h⟩
 ·rw [e] at e'; cases e'
 ·rw [e] at e'; cases e'; exact ⟨k, h⟩
theorem StR.grpOf {cs : List Nat} {n i c : Nat} {cmds : List Cmd} {res : List Cmd × Option Nat} (g : StR cs n cmds none i res) (h : skipB cs i < cs.length) (hc : cs[skipB cs i] = c) (hl : isL c = true) (hz : c ∉ [90, 122]) (hnm : ¬ (cmds = [] ∧ c ∉ [77, 109])) :
  c ∈ reads ∧ ∃ r, GrpR cs (decide (c ∈ [65, 97])) (manyN c) 0 (skipB cs (skipB cs i + 1)) r ∧ GOr cs n c (behind c) cmds res r := by
 cases g with
 | over h' => exact absurd h' (Nat.not_le.mpr h)
 | nocmd _ h' => exact absurd ((hc ▸ hl : isL cs[skipB cs i] = true).symm.trans h') (by decide)
 | nomove _ _ h' => exact absurd ⟨rfl, hc ▸ h'⟩ hnm
 | close _ hc' h' => exact absurd ((hc'.symm.trans hc) ▸ h') hz
 | grpBad _ hc' h' _ g =>
  obtain rfl := hc'.symm.trans hc
  exact ⟨h', _, g, .inl ⟨_, rfl, rfl⟩⟩
 | grpOk _ hc' h' _ g g' =>
  obtain rfl := hc'.symm.trans hc
  exact ⟨h', _, g, .inr ⟨_, _, _, rfl, rfl, g'⟩⟩
theorem StR.commaOf {cs : List Nat} {n j l : Nat} {cmds : List Cmd} {res : List Cmd × Option Nat} (g : StR cs n cmds (some l) j res) (h1 : looksN cs (sepEnd cs j) = false) (h2 : sepIs cs j = true) : res = (cmds, some (sepEnd cs j)) := by
 cases g with
 | stop _ h => exact absurd (h2.symm.trans h) (by decide)
 | comma => rfl
 | moreBad h => exact absurd (h.symm.trans h1) (by decide)
 | moreOk h => exact absurd (h.symm.trans h1) (by decide)
theorem StR.stopOf {cs : List Nat} {n j l : Nat} {cmds : List Cmd} {res : List Cmd × Option Nat} (g : StR cs n cmds (some l) j res) (h1 : looksN cs (sepEnd cs j) = false) (h2 : sepIs cs j = false) : ∃ k, n = k + 1 ∧ StR cs k cmds none (sepEnd cs j) res := by
 cases g with
 | stop _ _ g => exact ⟨_, rfl, g⟩
 | comma _ h => exact absurd (h.symm.trans h2) (by decide)
 | moreBad h => exact absurd (h.symm.trans h1) (by decide)
 | moreOk h => exact absurd (h.symm.trans h1) (by decide)
theorem StR.moreOf {cs : List Nat} {n j l : Nat} {cmds : List Cmd} {res : List Cmd × Option Nat} (g : StR cs n cmds (some l) j res) (h1 : looksN cs (sepEnd cs j) = true) :
  l ∈ reads ∧ ∃ r, GrpR cs (decide (l ∈ [65, 97])) (manyN l) 0 (sepEnd cs j) r ∧ GOr cs n l l cmds res r := by
 cases g with
 | stop h => exact absurd (h1.symm.trans h) (by decide)
 | comma h => exact absurd (h1.symm.trans h) (by decide)
 | moreBad _ h g => exact ⟨h, _, g, .inl ⟨_, rfl, rfl⟩⟩
 | moreOk _ h g g' => exact ⟨h, _, g, .inr ⟨_, _, _, rfl, rfl, g'⟩⟩
theorem natm1 {a : Nat} : (((a + 1 : Nat) : Int) - 1) = (a : Int) := by omega
theorem LetA.mk {cs : List Nat} {n i : Nat} {cmds : List Cmd} {res : List Cmd × Option Nat} {d : Addr} {a : AV} {N' : List (Addr × AO)} (g : StR cs n cmds none i res) (h1 : i ≤ cs.length) (h : (cs.length ≤ skipB cs i ∧ a = .d .none ∧ N' = [(d, ScA cs (skipB cs i))]) ∨ ∃ h : skipB cs i < cs.length, isL cs[skipB cs i] = true ∧ a = .d (.str (S [cs[skipB cs i]])) ∧ N' = [(d, ScA cs (skipB cs i + 1))]) :
  ∃ j, LetA cs n cmds res a j ∧ j ≤ cs.length ∧ N' = [(d, ScA cs j)] := by
 rcases h with ⟨h, rfl, rfl⟩ | ⟨h, hl, rfl, rfl⟩
 ·exact ⟨_, .inl ⟨rfl, g.end_ h⟩, skipB_le h1, rfl⟩
 ·exact ⟨_, .inr ⟨_, i, rfl, ⟨h, rfl⟩, hl, rfl, g⟩, h, rfl⟩
theorem intoA {w : World} {x d f : Addr} {cs : List Nat} {n : Nat} {res : List Cmd × Option Nat} (hok : OkT cs) (hlen : cs.length ≤ 10000) (hn : n ≤ 5000) (g : StR cs n [] none 0 res) (hdf : d ≠ f) {B : Led} {vs : List Value} {Mc : Led} (hx : (x, instObj 273 d) ∈ B) (hA : DAll B [.v (.ref x), .v (.ref f)] vs) (hM : MAll B [(d, ScA cs 0), (f, LstA [])] Mc) :
  FnXM w 312 vs 24 256 Mc B (PoA (InA d f cs res) B) (PoX (InX d f cs res) B) := by
 obtain ⟨_, _, rfl, h0, h2⟩ := hA.two
 obtain rfl := h0
 obtain rfl := h2
 tbr_iter (FnXM.ofA hM (by simp [hdf]) (fun r N' h => by obtain ⟨_, -, -, rfl⟩ := h; rfl) (fun r N' h => by obtain ⟨_, _, -, -, rfl⟩ := h; rfl) (.cons (x := Str.ofString "scanner") (a := .v (.ref x)) rfl (.cons (x := Str.ofString "found") (a := .v (.ref f)) rfl .nil)))
 intro cx K hw hB hd hu hE hr hK
 subst hw
 have hx' := hB _ hx
 have rai : ∀ {oE : Obj} {p j : Nat} {cmds : List Cmd}, res = (cmds, some p) → FaultAt p oE → InX d f cs res oE ([(d, ScA cs j)] ++ [(f, LstA (cmds.map cmdD))]) := fun {oE p j cmds} e hf => ⟨p, j, by rw [e], hf, by rw [e]; rfl⟩
 have cmd : ∀ {k i : Nat} {cmds : List Cmd} {l : List (Str × AV)} {K' : AV → As → Prop}, StR cs k cmds none i res → i ≤ cs.length → (∀ a j, LetA cs k cmds res a j → j ≤ cs.length → K' a ⟨l, [(d, ScA cs j), (f, LstA (cmds.map cmdD))]⟩) → ACal (.ref 270) [.v (.ref x)] cx [] ⟨l, [(d, ScA cs i), (f, LstA (cmds.map cmdD))]⟩ K' := fun {k i cmds l K'} g hi H => by
  refine ACal.X1 hr (fun B vs Mc hB hA hM => commandA hlen hi (hB _ hx') hA hM) (room hd rfl) (roomu hu rfl) (fun oE _ ⟨h, hl, hf, e⟩ => e ▸ rai (g.noL h hl) hf) ?_
  rintro a _ h
  obtain ⟨j, h1, h2, rfl⟩ := LetA.mk g hi h
  exact ⟨_, rfl, H a j h1 h2⟩
 repeat' walk1
 refine cmd (cmds := []) g (Nat.zero_le _) fun a j hL hj => ?_
 repeat' walk1
 refine ASt.whl (fun k σ => ∃ j cmds lv, σ = ⟨[(Str.ofString "letter", lv), (Str.ofString "scanner", .v (.ref x)), (Str.ofString "found", .v (.ref f))], [(d, ScA cs j), (f, LstA (cmds.map cmdD))]⟩ ∧ j ≤ cs.length ∧ cmds.length + k ≤ n ∧ LetA cs k cmds res lv j) (n₀ := n) hE ⟨j, [], a, rfl, hj, by simp, hL⟩ ?_
 rintro k _ ⟨j, cmds, lv, rfl, hj, hbn, hL⟩
 rcases hL with ⟨rfl, hres⟩ | ⟨c, i, rfl, ⟨hlt, hcc⟩, hl, rfl, g₃⟩
 ·repeat' walk1
  refine ACmp.isnN ?_
  repeat' walk1
  exact hK _ _ ⟨j, by rw [hres], rfl, by rw [hres]⟩
 repeat' walk1
 refine ACmp.isnS ?_
 walk1
 have hc0 : cs[skipB cs i] = c := hcc
 by_cases hnm : cmds = [] ∧ c ∉ [77, 109]
 ·obtain ⟨rfl, hno⟩ := hnm
  have hres := g₃.noMove hlt (by rw [hc0]; exact hl) (by rw [hc0]; exact hno)
  refine ASts.cons (ASt.ifS (AIs.bool (AIb.and (AIs.eqNil rfl (by k_dflt rfl) (roomu (j := 0) hu rfl) ?_))))
  refine ayes rfl ?_
  repeat' walk1
  refine ACmp.ninS (r := true) (by rw [inMm]; exact decide_eq_false hno) ?_
  iterate 3 walk1
  refine ASt.setA ?_ (fun _ => rfl)
  refine AEv.bin (AEv.att ?_ (fun _ => rfl))
  walk1
  refine AGet.g0 hx' (fun _ => ⟨by k_is, by k_is, by k_is⟩) rfl rfl ?_
  walk1
  refine ABin.sub ?_
  walk1
  refine ASetA.s0 hx' (fun _ => ⟨by k_is, by k_is, by k_is, by k_is⟩) rfl rfl rfl ?_
  rw [natm1]
  refine ASts.cons (ASt.expr ?_ (fun _ => rfl) (fun _ => rfl))
  refine AEv.mcall ?_ (fun _ => rfl)
  walk1
  refine AMcl.m1 hx' (fun _ => ⟨by k_is, by k_is, by k_is, by k_is⟩) rfl rfl ?_
  repeat' walk1
  exact ACal.X1 hr (fun B vs Mc hB hA hM => faultA (hB _ hx') hA hM) (room hd rfl) (roomu hu rfl) (fun oE _ ⟨hf, e⟩ => e ▸ rai hres hf) (fun _ _ h => h.elim)
 refine ASts.cons (ASt.ifS (AIs.cut (Y := fun K' => K' false ⟨[(Str.ofString "letter", .d (.str (S [c]))), (Str.ofString "scanner", .v (.ref x)), (Str.ofString "found", .v (.ref f))], [(d, ScA cs (skipB cs i + 1)), (f, LstA (cmds.map cmdD))]⟩) ?_ ?_))
 ·intro K' hK'
  refine AIs.bool (AIb.and (AIs.eqNil rfl (by k_dflt rfl) (roomu (j := 0) hu rfl) ?_))
  refine asplit (fun h1 => ?_) (fun h1 => hK')
  repeat' walk1
  refine ACmp.ninS (r := false) (by rw [inMm]; exact decide_eq_true (Decidable.not_not.mp fun h => hnm ⟨List.map_eq_nil_iff.mp h1, h⟩)) ?_
  repeat' walk1
  exact hK'
 walk1
 refine ASts.cut (Y := fun K' => ∀ j cmds' k' lv, k' < k → j ≤ cs.length → cmds'.length + k' ≤ n → StR cs k' cmds' none j res → K' ⟨[(Str.ofString "letter", lv), (Str.ofString "scanner", .v (.ref x)), (Str.ofString "found", .v (.ref f))], [(d, ScA cs j), (f, LstA (cmds'.map cmdD))]⟩) ?_ ?_
 ·intro K' hK'
  repeat' walk1
  by_cases hz : c ∈ [90, 122]
  ·refine ACmp.inS (r := true) (by rw [inZz]; exact decide_eq_true hz) ?_
   repeat' walk1
   refine ACal.a1 (by rw [List.length_map]; omega) ?_
   repeat' walk1
   obtain ⟨k', rfl, g4⟩ := g₃.closeOf hlt hc0 hz hnm
   have := hK' _ (cmds ++ [(c, [])]) k' (.d (.str (S [c]))) (Nat.lt_succ_self _) hlt (by rw [List.length_append]; simp; omega) g4
   rw [List.map_append] at this
   exact this
  ·refine ACmp.inS (r := false) (by rw [inZz]; exact decide_eq_false hz) ?_
   obtain ⟨hcr, r, g4, hor⟩ := g₃.grpOf hlt hc0 hl hz hnm
   have hj2 : skipB cs (skipB cs i + 1) ≤ cs.length := skipB_le hlt
   repeat' walk1
   refine ACal.M1 (fun B vs Mc hB hA hM => spacesA (i := skipB cs i + 1) hlen hlt (hB _ hx') hA hM) (room hd rfl) (roomu hu rfl) ?_
   rintro _ _ ⟨rfl, rfl⟩
   refine ⟨_, rfl, ?_⟩
   repeat' walk1
   refine ACal.X1 hr (fun B vs Mc hB hA hM => groupA' hcr hok hlen hj2 g4 (hB _ hx') hA hM) (room hd rfl) (roomu hu rfl) (fun oE _ ⟨p, j, hp, hf, e⟩ => e ▸ rai (hor.badOf hp) hf) ?_
   rintro _ _ ⟨xs, j, hp, hj3, rfl, rfl⟩
   refine ⟨_, rfl, ?_⟩
   obtain ⟨k', rfl, g5⟩ := hor.okOf hp
   repeat' walk1
   refine ACal.a1 (by rw [List.length_map]; omega) ?_
   repeat' walk1
   refine ACal.P behindA (room hd rfl) (roomu hu rfl) ?_
   repeat' walk1
   refine ASt.whl (fun m σ => ∃ j cmds2, σ = ⟨[(Str.ofString "letter", .d (.str (S [behind c]))), (Str.ofString "scanner", .v (.ref x)), (Str.ofString "found", .v (.ref f))], [(d, ScA cs j), (f, LstA (cmds2.map cmdD))]⟩ ∧ j ≤ cs.length ∧ cmds2.length + m ≤ n ∧ m < k' + 1 ∧ StR cs m cmds2 (some (behind c)) j res) (n₀ := k') hE ⟨j, cmds ++ [(c, xs)], by rw [List.map_append]; rfl, hj3, by rw [List.length_append]; simp; omega, Nat.lt_succ_self _, g5⟩ ?_
   clear g5 g4 g₃ hor hp hj3 xs j
   rintro m _ ⟨j, cmds2, rfl, hj, hbm, hmk, g6⟩
   have hj4 := sepEnd_le hj
   repeat' walk1
   refine ACal.X1 hr (fun B vs Mc hB hA hM => goesA hlen hj (hB _ hx') hA hM) (room hd rfl) (roomu hu rfl) (fun oE _ ⟨h1, h2, hf, e⟩ => e ▸ rai (g6.commaOf h1 h2) hf) ?_
   rintro _ _ ⟨hgo, rfl, rfl⟩
   refine ⟨_, rfl, ?_⟩
   walk1
   cases hlk : looksN cs (sepEnd cs j) with
   | false =>
    obtain ⟨m', rfl, g7⟩ := g6.stopOf hlk (hgo.resolve_left (by rw [hlk]; decide))
    repeat' walk1
    exact hK' _ cmds2 m' _ (by omega) hj4 (by omega) g7
   | true =>
    obtain ⟨hcr2, r2, g7, hor2⟩ := g6.moreOf hlk
    repeat' walk1
    refine ACal.X1 hr (fun B vs Mc hB hA hM => groupA' hcr2 hok hlen hj4 g7 (hB _ hx') hA hM) (room hd rfl) (roomu hu rfl) (fun oE _ ⟨p, j, hp, hf, e⟩ => e ▸ rai (hor2.badOf hp) hf) ?_
    rintro _ _ ⟨xs, j3, hp, hj3, rfl, rfl⟩
    refine ⟨_, rfl, ?_⟩
    obtain ⟨m', rfl, g8⟩ := hor2.okOf hp
    repeat' walk1
    refine ACal.a1 (by rw [List.length_map]; omega) ?_
    walk1
    exact ⟨m', _, Nat.lt_succ_self _, .cons rfl (.cons rfl (.cons rfl .nil)), j3, cmds2 ++ [(behind c, xs)], by rw [List.map_append]; rfl, hj3, by rw [List.length_append]; simp; omega, by omega, g8⟩
 ·intro j cmds' k' lv hk' hj' hb' g'
  repeat' walk1
  refine cmd g' hj' fun a j hL hj => ?_
  iterate 2 walk1
  exact ⟨k', _, hk', .cons rfl (.cons rfl (.cons rfl .nil)), j, cmds', a, rfl, hj, hb', hL⟩
theorem inst_TL {x d : Addr} {add : Led} : ∀ p ∈ add ++ [(x, instObj 273 d)], TL p → p ∈ add := fun p hp ht => (List.mem_append.mp hp).elim id fun h => by
 rw [List.mem_singleton.mp h] at ht
 exact ht.2.elim (fun e => nomatch e) fun e => nomatch e
theorem into_fn (w : World) {x d f : Addr} {o : Obj} {cs : List Nat} {n : Nat} {res : List Cmd × Option Nat} (hok : OkT cs) (hs : ScD cs ((0 : Nat) : Int) o) (hlen : cs.length ≤ 10000) (hn : n ≤ 5000) (g : StR cs n [] none 0 res) (hdf : d ≠ f) :
  FnXM w 312 [.ref x, .ref f] 24 256 [(d, o), (f, W.listOf [].toArray 0)] [(x, instObj 273 d)] (fun v M' add => v = .none ∧ ∃ o' vs k, (∃ j : Nat, ScD cs j o') ∧ M' = [(d, o'), (f, W.listOf vs.toArray k)] ∧ res.2 = none ∧ DatAll add vs (res.1.map cmdD))
   (fun oE M' add => ∃ p o' vs k, res.2 = some p ∧ FaultAt p oE ∧ (∃ j : Nat, ScD cs j o') ∧ M' = [(d, o'), (f, W.listOf vs.toArray k)] ∧ DatAll add vs (res.1.map cmdD)) := by
 refine FnXM.imp (intoA hok hlen hn g hdf (B := [(x, instObj 273 d)]) (.head _) (.cons rfl (.cons rfl .nil)) (.cons (scA_of hs) (.cons ⟨[], 0, rfl, .nil⟩ .nil))) (fun _ h => h) ?_ ?_
 ·rintro r M' add ⟨_, _, ⟨j, h1, rfl, rfl⟩, hr, hM⟩
  cases hr
  cases hM with
  | cons hd t =>
   cases t with
   | cons hf t =>
    cases t
    obtain ⟨vs, k, rfl, hv⟩ := hf
    exact ⟨rfl, _, vs, k, ⟨j, scD_of hd⟩, rfl, h1, DatAll.nf inst_TL hv⟩
 ·rintro oE M' add ⟨_, ⟨p, j, h1, h2, rfl⟩, hM⟩
  cases hM with
  | cons hd t =>
   cases t with
   | cons hf t =>
    cases t
    obtain ⟨vs, k, rfl, hv⟩ := hf
    exact ⟨p, _, vs, k, h1, h2, ⟨j, scD_of hd⟩, rfl, DatAll.nf inst_TL hv⟩

end
section --K1
theorem note_exc {M : Model} {A : Around} {E : Value → Shared → Prop} {s : Shared} {h₀ : Heap} {env : Env} {outer : List Env} {L e dE : Addr} {Q : Unit → Shared → Prop}
  (hfr : A.frames = some (env :: outer)) (hl : s.heap.FunFrames h₀ (env :: outer)) (hf : env.frame = some L) (hx : Exc h₀ s.heap e dE) (hk : h₀.StaysIn s.heap)
  (h : ∀ h', Exc h₀ h' e dE → Stays h₀ ((env :: outer).filterMap (·.frame)) s.heap h' → Q () { s with heap := h' }) :
  wpAny M A (noteFrame (.ref e) env) (fun _ s' => wpAny M A (setFlight (.ref e) none) Q E s') E s := by
 obtain ⟨hen, vs, sl, he, hsz, h1 | ⟨T, oT, ts, h1, hTe, hnT, hT, hcT, hdT, h3⟩⟩ := hx
 ·unfold noteFrame
  simp only [hf]
  refine wpAny_bind (wpAny_field he rfl h1 ?_)
  rw [if_neg (by decide)]
  exact newEntry_exc hfr hl hf he hk hen hsz h
 ·unfold noteFrame
  simp only [hf]
  refine wpAny_bind (wpAny_field he rfl h1 ?_)
  rw [if_pos (show (Value.ref T != Value.none) = true from by simp)]
  refine wpAny_bind (wpAny_field hT hdT h3 ?_)
  rw [if_neg (show ¬ ((Value.none == rawInt L) = true) from by simp [rawInt])]
  refine wpAny_bind (wpAny_setField hT hdT (Array.getElem?_eq_some_iff.mp h3).1 ?_)
  have other : ∀ b, b ≠ T → (s.heap.update T (Obj.mapFields (·.setIfInBounds 3 Value.none))).get? b = s.heap.get? b := fun b hb => Heap.get?_update_other _ _ (Ne.symm hb)
  have noRecord : ∀ b o, s.heap.get? b = some o → (((∀ vs, o.data ≠ .fields vs) ∨ (o.cls ≠ .type "traceback" ∧ o.cls ≠ .ref 63)) ∨ (h₀.get? b).isSome = true) → b ≠ T := fun b o hb hnf q => by
   subst q
   rcases hnf with hnf | hnf
   ·rw [hT] at hb; injection hb with hb; subst hb; exact hnf.elim (fun z => z ts hdT) fun z => z.1 hcT
   ·rw [hnT] at hnf; cases hnf
  have noFields : ∀ b o, s.heap.get? b = some o → (∀ vs, o.data ≠ .fields vs) → b ≠ T := fun b o hb hnf q => by
   subst q
   rw [hT] at hb; injection hb with hb; subst hb; exact hnf ts hdT
  refine newEntry_exc hfr (hl.of_keeps fun b o hb hnf => ⟨o, (other b (noFields b o hb hnf)).trans hb, rfl⟩) hf ((other e (Ne.symm hTe)).trans he)
   (fun b o hbo => (other b (noRecord b o (hk b o hbo) (.inr (by rw [hbo]; rfl)))).trans (hk b o hbo)) hen hsz
   fun h' hx' hs' => h h' hx' ⟨fun b o hb hbf hnf => hs'.1 b o ((other b (noRecord b o hb hnf)).trans hb) hbf hnf, fun b o hb hnf => hs'.2 b o ((other b (noFields b o hb hnf)).trans hb) hnf⟩


theorem catch_note {M : Model} {A : Around} {E : Value → Shared → Prop} {s : Shared} {h₀ : Heap} {qual : Str} {scope : Scope} {cdv : Value} {l : List Env} {L f e dE : Addr} {m : Str → Option Value} {nx frs : Led} {Q : Unit → Shared → Prop}
  (hfr : A.frames = some (envOf qual scope L f cdv :: l)) (hk : scope.kind = .function) (Fs : Frs l frs) (hx : Exc h₀ s.heap e dE) (F : Fr h₀ L s.heap m) (N : News h₀ L s.heap (nx ++ frs)) (hS : ∀ q ∈ nx, Safe frs q)
  (h : ∀ h' frs', SameUp frs frs' → Exc h₀ h' e dE → Fr h₀ L h' m → News h₀ L h' (nx ++ frs') → Q () { s with heap := h' }) :
  wpAny M A (noteFrame (.ref e) (envOf qual scope L f cdv)) (fun _ s' => wpAny M A (setFlight (.ref e) none) Q E s') E s := by
 obtain ⟨oL, es, ep, hL, hLd, hLk, hLf⟩ := F.ns
 have hkind : (envOf qual scope L f cdv).scope.kind ≠ .module := by show scope.kind ≠ .module; rw [hk]; decide
 have Fs' : Frs (envOf qual scope L f cdv :: l) ((L, oL) :: frs) := ⟨hkind, rfl, ⟨es, ep, hLd⟩, Fs⟩
 have hfra : ∀ q ∈ ((L, oL) :: frs : Led), s.heap.get? q.1 = some q.2 ∧ h₀.get? q.1 = none := fun q hq => by
  rcases List.mem_cons.mp hq with rfl | hq
  ·exact ⟨hL, Heap.get?_none_of_le F.above⟩
  ·have := N q (List.mem_append_right _ hq)
   exact ⟨this.1, this.2.2⟩
 have haddr : (envOf qual scope L f cdv :: l).filterMap (·.frame) = L :: frs.map (·.1) := by simpa using Frs.addrs Fs'
 refine note_exc hfr (Frs.fun Fs' hfra) rfl hx F.keep fun h₁ hx₁ hst => ?_
 rw [haddr] at hst
 obtain ⟨slL, hL₁⟩ := hst.2 L _ hL fun vs e => by rw [hLd] at e; cases e
 obtain ⟨frs₁, u, hg⟩ := sameUp_of (frs := frs) (h' := h₁) fun q hq => hst.2 _ _ (hfra q (.tail _ hq)).1 fun vs e => by
  obtain ⟨es', ep', hd⟩ := Frs.dict Fs q hq
  rw [hd] at e; cases e
 refine h h₁ frs₁ u hx₁ ⟨⟨_, es, ep, hL₁, hLd, hLk, hLf⟩, fun b o hb => ?_, F.above⟩ fun q hq => ?_
 ·refine hst.1 b o (F.keep b o hb) (fun hm => ?_) (.inr (by rw [hb]; rfl))
  rcases List.mem_cons.mp hm with rfl | hm
  ·rw [Heap.get?_none_of_le F.above] at hb; cases hb
  ·obtain ⟨q, hq, rfl⟩ := List.mem_map.mp hm
   rw [(hfra q (.tail _ hq)).2] at hb; cases hb
 ·rcases List.mem_append.mp hq with hq | hq
  ·have Nq := N q (List.mem_append_left _ hq)
   refine ⟨hst.1 _ _ Nq.1 (fun hm => ?_) (.inl (hS q hq).1), Nq.2⟩
   rcases List.mem_cons.mp hm with hm | hm
   ·exact Nq.2.1 hm
   ·obtain ⟨r, hr, e⟩ := List.mem_map.mp hm
    exact (hS q hq).2 r hr e.symm
  ·have : q.1 ∈ frs₁.map (·.1) := List.mem_map_of_mem hq
   rw [sameUp_addr u] at this
   obtain ⟨r, hr, e'⟩ := List.mem_map.mp this
   have a := N r (List.mem_append_right _ hr)
   rw [e'] at a
   exact ⟨hg q hq, a.2⟩
noncomputable def FnY (w : World) (f : Addr) (vs : List Value) (dep uni : Nat) (pre : Led) (Post : Value → Led → Prop) : Prop :=
 ∀ (p : Program) (loose : List Str) (mean : ExcName → Option Value) (mg mb : Str → Option Value) (envc : Env) (outer : List Env) (gd : Option (List Code)) (dp un : Nat) (h₀ : Heap) (L : Addr) (m : Str → Option Value) (s : Shared) (Dn frs : Led) (R : Result → Shared → Prop),
  Fr h₀ L s.heap m → (heapK w.params).In h₀ → Top p loose mean mg mb h₀ → News h₀ L s.heap (pre ++ (Dn ++ frs)) → envc.frame = some L → envc.scope.kind ≠ .module → Frs outer frs → (∀ q ∈ pre ++ Dn, Safe frs q) → dp + dep < recursionLimit → un + uni < cLine →
  (∀ r h' tk' nx frs', Post r nx → SameUp frs frs' → Fr h₀ L h' m → News h₀ L h' (nx ++ (Dn ++ frs')) → (∀ q ∈ nx, ∀ r ∈ frs', q.1 ≠ r.1) → R (.ok (.ret r)) { s with heap := h', toks := tk' }) →
  codeAny (MD w) (At (some (envc :: outer)) gd dp un) (.call (.ref f) ⟨vs, []⟩) R s
noncomputable def OutY (h₀ : Heap) (L : Addr) (s₀ : Shared) (Dn frs : Led) (Post : Value → Led → Prop) (v : Value) (s' : Shared) : Prop :=
 ∃ h' tk m' nx frs', s' = { s₀ with heap := h', toks := tk } ∧ SameUp frs frs' ∧ Fr h₀ L h' m' ∧ News h₀ L h' (nx ++ (Dn ++ frs')) ∧ Post v nx ∧ (∀ q ∈ nx, ∀ r ∈ frs', q.1 ≠ r.1)
theorem FnY.of {w : World} {f : Addr} {vs : List Value} {dep uni : Nat} {pre : Led} {Post : Value → Led → Prop}
  {name qual : Str} {params : Arguments} {body : List Stmt} {scope : Scope} {dV kV doc pm cdv ct oc : Value} {an od : Option Addr} {osl : Array (Option Value)} (binds : List (Str × Value))
  (ho : (heapK w.params).lookup f = some ⟨oc, od, .func (fnOf name qual params body scope dV kV doc pm an cdv ct), osl⟩) (hcd : codeIn (heapK w.params) cdv qual = true)
  (hbind : ∀ s : Shared, (heapK w.params).In s.heap → BindsTo s (fnOf name qual params body scope dV kV doc pm an cdv ct) ⟨vs, []⟩ binds) (hloc : (binds.all fun x => decide (scope.names.lookup x.1 = some .local)) = true)
  (hdep : 0 < dep)
  (h : ∀ (p : Program) (loose : List Str) (mean : ExcName → Option Value) (mg mb : Str → Option Value) (l : List Env) (gd : Option (List Code)) (dp un : Nat) (h₀ : Heap) (L : Addr) (h : Heap) (tk : Nat) (s : Shared) (Dn frs : Led),
   (heapK w.params).In h₀ → Top p loose mean mg mb h₀ → Fr h₀ L h (fun y => binds.reverse.lookup y) → News h₀ L h (pre ++ (Dn ++ frs)) → Frs l frs → (∀ q ∈ pre ++ Dn, Safe frs q) → dp + dep < recursionLimit → un + uni < cLine →
   wpAny (MD w) (At (some (envOf qual scope L f cdv :: l)) gd (dp + 1) (un + 3)) (execs body (envOf qual scope L f cdv))
    (fun fl s' => OutY h₀ L s Dn frs Post (match fl with | .ret v => v | _ => .none) s') (fun _ _ => False) { s with heap := h, toks := tk })
  (hco : scope.isCoroutine = false) (hgen : scope.isGenerator = false) (hk : scope.kind = .function)
  (hcell : ∀ x ∈ scope.names, x.2 ≠ .cell) : FnY w f vs dep uni pre Post := by
 intro p loose mean mg mb envc outer gd dp un h₀ L m s Dn frs R F X T N hef hek Fs hS hd hu ret
 have X' := X.keeps F.keep
 refine codeAny_call_def (fd := fnOf name qual params body scope dV kV doc pm an cdv ct) (body := body) (binds := binds) ?_ (X' _ _ ho) rfl (T.nolimit.keeps F.keep) (codeRec_of X' hcd) rfl (hbind _ X') hcell (locs hloc) (fun h₁ hns hkeep => ?_) hco hgen hk
 ·show dp < recursionLimit; omega
 obtain ⟨oL, es, ep, hL, hLd, hLk, hLf⟩ := F.ns
 have hlt : ∀ q ∈ pre ++ (Dn ++ frs), q.1 ≠ s.heap.objs.size := fun q hq => Nat.ne_of_lt (Heap.lt_size (N q hq).1)
 have F' : Fr h₀ s.heap.objs.size h₁ (fun y => binds.reverse.lookup y) := ⟨hns, fun b o e => hkeep b o (F.keep b o e), Nat.le_trans F.above (Nat.le_of_lt (Heap.lt_size hL))⟩
 have N' : News h₀ s.heap.objs.size h₁ (pre ++ (Dn ++ ((L, oL) :: frs))) := by
  intro q hq
  have hq' : q = (L, oL) ∨ q ∈ pre ++ (Dn ++ frs) := by
   simp only [List.mem_append, List.mem_cons] at hq ⊢
   rcases hq with a | a | a | a
   ·exact .inr (.inl a)
   ·exact .inr (.inr (.inl a))
   ·exact .inl a
   ·exact .inr (.inr (.inr a))
  rcases hq' with rfl | hq
  ·exact ⟨hkeep _ _ hL, Nat.ne_of_lt (Heap.lt_size hL), Heap.get?_none_of_le F.above⟩
  ·exact ⟨hkeep _ _ (N q hq).1, hlt q hq, (N q hq).2.2⟩
 have Fs' : Frs (envc :: outer) ((L, oL) :: frs) := ⟨hek, hef, ⟨es, ep, hLd⟩, Fs⟩
 have hS' : ∀ q ∈ pre ++ Dn, Safe ((L, oL) :: frs) q := fun q hq => ⟨(hS q hq).1, fun r hr => by
  rcases List.mem_cons.mp hr with rfl | hr
  ·refine (N q ?_).2.1
   rcases List.mem_append.mp hq with hq | hq
   ·exact List.mem_append_left _ hq
   ·exact List.mem_append_right _ (List.mem_append_left _ hq)
  ·exact (hS q hq).2 r hr⟩
 refine wpAny_mono (h p loose mean mg mb (envc :: outer) gd dp un h₀ s.heap.objs.size h₁ (s.toks + binds.length) s Dn ((L, oL) :: frs) X T F' N' Fs' hS' hd hu) (fun fl s' o => ?_) (fun _ _ x => x.elim)
 obtain ⟨h', tk, m', nx, frs₂, rfl, hup, F₂, N₂, hp, hap⟩ := o
 cases frs₂ with
 | nil => exact hup.elim
 | cons r₂ frs₂ =>
 obtain ⟨L₂, o₂⟩ := r₂
 obtain ⟨u1, ⟨sl₂, u2⟩, u3⟩ := hup
 dsimp only at u1 u2
 have u1 := u1.symm
 subst u1 u2
 have hL' : h'.get? L = some { oL with slots := sl₂ } := (N₂ (L, _) (List.mem_append_right _ (List.mem_append_right _ (.head _)))).1
 refine ret _ h' tk nx frs₂ hp u3 ⟨⟨_, es, ep, hL', hLd, hLk, hLf⟩, F₂.keep, F.above⟩ (fun q hq => ?_) (fun q hq r hr => hap q hq r (.tail _ hr))
 have Nq := N₂ q (by
  simp only [List.mem_append, List.mem_cons] at hq ⊢
  rcases hq with a | a | a
  ·exact .inl a
  ·exact .inr (.inl a)
  ·exact .inr (.inr (.inr a)))
 refine ⟨Nq.1, ?_, Nq.2.2⟩
 rcases List.mem_append.mp hq with hq | hq
 ·exact hap q hq _ (.head _)
 ·rcases List.mem_append.mp hq with hq | hq
  ·exact (N q (List.mem_append_right _ (List.mem_append_left _ hq))).2.1
  ·have : q.1 ∈ frs₂.map (·.1) := List.mem_map_of_mem hq
   rw [sameUp_addr u3] at this
   obtain ⟨r, hr, e'⟩ := List.mem_map.mp this
   exact e' ▸ (N r (List.mem_append_right _ (List.mem_append_right _ hr))).2.1
theorem FnY.use {w : World} {f : Addr} {vs : List Value} {dep uni : Nat} {pre : Led} {Post : Value → Led → Prop} (c : FnY w f vs dep uni pre Post)
  {p : Program} {loose : List Str} {mean : ExcName → Option Value} {mg mb : Str → Option Value} {envc : Env} {outer : List Env} {gd : Option (List Code)} {dp un : Nat} {h₀ : Heap} {L : Addr} {m : Str → Option Value} {s : Shared} {Q E : Value → Shared → Prop} {Dn frs : Led}
  (F : Fr h₀ L s.heap m) (X : (heapK w.params).In h₀) (T : Top p loose mean mg mb h₀) (N : News h₀ L s.heap (pre ++ (Dn ++ frs))) (hef : envc.frame = some L) (hek : envc.scope.kind ≠ .module) (Fs : Frs outer frs) (hS : ∀ q ∈ pre ++ Dn, Safe frs q) (hd : dp + dep < recursionLimit) (hu : un + uni < cLine)
  (ret : ∀ r h' tk' nx frs', Post r nx → SameUp frs frs' → Fr h₀ L h' m → News h₀ L h' (nx ++ (Dn ++ frs')) → (∀ q ∈ nx, ∀ r ∈ frs', q.1 ≠ r.1) → Q r { s with heap := h', toks := tk' }) :
  wpAny (MD w) (At (some (envc :: outer)) gd dp un) (call (.ref f) vs) Q E s :=
 wpAny_call (c p loose mean mg mb envc outer gd dp un h₀ L m s Dn frs _ F X T N hef hek Fs hS hd hu ret)
theorem flight_exc {M : Model} {A : Around} {E : Value → Shared → Prop} {s : Shared} {h₀ : Heap} {e dE : Addr} {Q : Unit → Shared → Prop} (hx : Exc h₀ s.heap e dE)
  (h : ∀ h', Exc h₀ h' e dE → (∀ b o, s.heap.get? b = some o → ((∀ vs, o.data ≠ .fields vs) ∨ (o.cls ≠ .type "traceback" ∧ o.cls ≠ .ref 63)) ∨ (h₀.get? b).isSome = true → h'.get? b = some o) → Q () { s with heap := h' }) :
  wpAny M A (setFlight (.ref e) none) Q E s := by
 have hx' := hx
 obtain ⟨hen, vs, sl, he, hsz, h1 | ⟨T, oT, ts, h1, hTe, hnT, hT, hcT, hdT, h3⟩⟩ := hx
 ·unfold setFlight
  refine wpAny_bind (wpAny_field he rfl h1 ?_)
  rw [if_neg (by decide)]
  exact wpAny_pure (h s.heap hx' fun b o hb _ => hb)
 ·refine wpAny_setFlight_none he rfl h1 hT hdT (Array.getElem?_eq_some_iff.mp h3).1 ?_
  have other : ∀ b, b ≠ T → (s.heap.update T (Obj.mapFields (·.setIfInBounds 3 Value.none))).get? b = s.heap.get? b := fun b hb => Heap.get?_update_other _ _ (Ne.symm hb)
  refine h _ ⟨hen, vs, sl, (other e (Ne.symm hTe)).trans he, hsz, .inr ⟨T, _, ts.setIfInBounds 3 .none, h1, hTe, hnT, Heap.get?_update_self _ hT (Obj.isFreed_of_fields (Obj.data_mapFields hdT _)), (Obj.cls_mapFields _ _).trans hcT, Obj.data_mapFields hdT _, ?_⟩⟩ fun b o hb hnf => (other b fun q => ?_).trans hb
  ·have hlt := (Array.getElem?_eq_some_iff.mp h3).1
   simp [hlt]
  ·subst q
   rcases hnf with hnf | hnf
   ·rw [hT] at hb; injection hb with hb; subst hb; exact hnf.elim (fun z => z ts hdT) fun z => z.1 hcT
   ·rw [hnT] at hnf; cases hnf
theorem stay_fr {h₀ h h' : Heap} {L : Addr} {m : Str → Option Value} (F : Fr h₀ L h m) (hst : ∀ b o, h.get? b = some o → ((∀ vs, o.data ≠ .fields vs) ∨ (o.cls ≠ .type "traceback" ∧ o.cls ≠ .ref 63)) ∨ (h₀.get? b).isSome = true → h'.get? b = some o) : Fr h₀ L h' m := by
 obtain ⟨oL, es, ep, hL, hLd, hLk, hLf⟩ := F.ns
 exact ⟨⟨oL, es, ep, hst _ _ hL (.inl (.inl fun vs e => by rw [hLd] at e; cases e)), hLd, hLk, hLf⟩, fun b o hb => hst b o (F.keep b o hb) (.inr (by rw [hb]; rfl)), F.above⟩
theorem stay_news {h₀ h h' : Heap} {L : Addr} {l : Led} (N : News h₀ L h l) (hn : ∀ q ∈ l, NF q) (hst : ∀ b o, h.get? b = some o → ((∀ vs, o.data ≠ .fields vs) ∨ (o.cls ≠ .type "traceback" ∧ o.cls ≠ .ref 63)) ∨ (h₀.get? b).isSome = true → h'.get? b = some o) : News h₀ L h' l :=
 fun q hq => ⟨hst _ _ (N q hq).1 (.inl (hn q hq)), (N q hq).2⟩
theorem frs_nf {l : List Env} {frs : Led} (Fs : Frs l frs) : ∀ q ∈ frs, NF q := fun q hq => .inl fun vs e => by
 obtain ⟨es, ep, hd⟩ := Frs.dict Fs q hq
 rw [hd] at e; cases e
theorem exc_entry {h₀ h : Heap} {L e dE : Addr} {m : Str → Option Value} {l : Led} (F : Fr h₀ L h m) (N : News h₀ L h l) (hx : Exc h₀ h e dE) : ∃ us sl, News h₀ L h ((e, (⟨.ref 63, some dE, .fields us, sl⟩ : Obj)) :: l) := by
 obtain ⟨hen, us, sl, he, -⟩ := hx
 refine ⟨us, sl, List.forall_mem_cons.mpr ⟨⟨he, fun k => ?_, hen⟩, N⟩⟩
 obtain ⟨oL, es, ep, hL, hLd, -⟩ := F.ns
 have k : e = L := k
 rw [k, hL] at he
 rw [Option.some.inj he] at hLd
 cases hLd
theorem nd_off {h₀ h : Heap} {L : Addr} {l frs : Led} {fr : List Env} (N : News h₀ L h l) (Fs : Frs fr frs) (hf : ∀ q ∈ frs, q ∈ l) {q : Addr × Obj} (hq : q ∈ l) (hn : noDict q) : ∀ r ∈ frs, q.1 ≠ r.1 := fun r hr e => by
 obtain ⟨es, ep, hd⟩ := Frs.dict Fs r hr
 have := news_one N (a := q.1) (o := q.2) (o' := r.2) hq (by rw [e]; exact hf r hr)
 exact hn es ep (by rw [this]; exact hd)

end
section --K2
noncomputable def KeptP (res : List Cmd × Option Nat) (r : Value) (nx : Led) : Prop :=
 ∃ T n f vs k fv, r = .ref T ∧ (T, tupO #[.ref f, fv] n) ∈ nx ∧ (f, W.listOf vs.toArray k) ∈ nx ∧ DatAll nx vs (res.1.map cmdD) ∧
  ((fv = .none ∧ res.2 = none) ∨ ∃ e dE oE us sl p, fv = .ref e ∧ (e, (⟨.ref 63, some dE, .fields us, sl⟩ : Obj)) ∈ nx ∧ (dE, oE) ∈ nx ∧ FaultAt p oE ∧ res.2 = some p)
set_option pp.deepTerms false in
set_option pp.deepTerms.threshold 6 in
theorem kept_fn (w : World) {cs : List Nat} {t : Tok} {n : Nat} {res : List Cmd × Option Nat} (hok : OkT cs) (hlen : cs.length ≤ 10000) (hn : n ≤ 5000) (g : StR cs n [] none 0 res) : FnY w 319 [.str (S cs) t] 40 400 [] (KeptP res) := by
 tbr_iter (FnY.of [(Str.ofString "text", .str (S cs) t)])
 intro p loose mean mg mb fl gd dp un h₀ L h tk s Dn frs X T F N Fs hS hd hu
 replace N : News h₀ L h (Dn ++ frs) := N
 replace hS : ∀ q ∈ Dn, Safe frs q := hS
 k_steps
 rename Fr _ _ _ _ => F₁
 rename News _ _ _ _ => N₁
 refine ps_make F₁ X T N₁ (by omega) (by omega) ?_
 intro x d o₂ h₂ tk₂ hs₂ hl1 hl2 F₂ N₂
 k_steps
 rename_i f₀ _ l1 _
 have hdf : d ≠ f₀ := Nat.ne_of_gt (hl1 _ (.head _))
 have hxf : x ≠ f₀ := Nat.ne_of_gt (Nat.lt_trans (hl1 _ (.head _)) hl2)
 have hDd : ∀ q ∈ Dn ++ frs, q.1 ≠ d := fun q hq => Nat.ne_of_lt (hl1 q (.tail _ hq))
 have hDf : ∀ q ∈ Dn ++ frs, q.1 ≠ f₀ := fun q hq => Nat.ne_of_lt (l1 q hq)
 have hxs : Safe frs (x, instObj 273 d) := ⟨.inr ⟨by simp [instObj], by simp [instObj]⟩, fun r hr => Nat.ne_of_gt (Nat.lt_trans (hl1 r (.tail _ (List.mem_append_right _ hr))) hl2)⟩
 refine FnXM.use (into_fn w hok hs₂ hlen hn g hdf) (Dn := Dn) (frs := frs) F₂ X T (news_mem N₂ fun q hq => ?_) (noTup2 (NoTup.scd hs₂) (by simp [NoTup, NF])) (fun q hq => ?_) (List.forall_mem_cons.mpr ⟨hxs, hS⟩) Fs rfl (fun hk => nomatch hk) (by omega) (by omega) ?_ ?_
 ·exact su_at hq (by bits_by_make)
 ·rcases List.mem_cons.mp hq with rfl | hq
  ·simp only [List.map_cons, List.map_nil, List.mem_cons, List.not_mem_nil, or_false, not_or]
   exact ⟨Nat.ne_of_gt hl2, hxf⟩
  ·simp only [List.map_cons, List.map_nil, List.mem_cons, List.not_mem_nil, or_false, not_or]
   exact ⟨hDd q hq, hDf q hq⟩
 ·rintro r h₃ tk₃ M' add ⟨rfl, o₃, vs, k, ⟨j, hs₃⟩, rfl, hr2, hda⟩ ht hnt hme off hsf F₃ N₃
  k_steps
  rename Fr _ _ _ _ => F₇
  rename News _ _ _ _ => N₇
  rename_i T₆ h₆ l6
  have N₈ := news_mem (l' := ((T₆, tupO #[.ref f₀, .none] 0) :: (f₀, W.listOf vs.toArray k) :: add) ++ (Dn ++ frs)) N₇ fun q hq => by
   exact su_at hq (by bits_by_make)
  have hin : ∀ q ∈ frs, q ∈ ((T₆, tupO #[.ref f₀, .none] 0) :: (f₀, W.listOf vs.toArray k) :: add) ++ (Dn ++ frs) := fun q hq => List.mem_append_right _ (List.mem_append_right _ hq)
  refine ⟨_, _, _, (T₆, tupO #[.ref f₀, .none] 0) :: (f₀, W.listOf vs.toArray k) :: add, frs, rfl, SameUp.refl frs, F₇, N₈, ⟨T₆, 0, f₀, vs, k, .none, rfl, .head _, .tail _ (.head _), hda.mono fun q hq => .tail _ (.tail _ hq), .inl ⟨rfl, hr2⟩⟩, fun q hq => ?_⟩
  simp only [List.mem_cons] at hq
  rcases hq with rfl | rfl | hq
  ·exact nd_off N₈ Fs hin (.head _) (fun es n k => by cases k)
  ·exact nd_off N₈ Fs hin (.tail _ (.head _)) (fun es n k => by cases k)
  ·exact nd_off N₈ Fs hin (.tail _ (.tail _ (List.mem_append_left _ hq))) (ht q hq).noDict
 ·rintro e dE oE h₃ tk₃ M' add frs' ⟨p', o₃, vs, k, hr2, hfa, ⟨j, hs₃⟩, rfl, hda⟩ ht hnt hme hexc u F₃ N₃ hsE
  refine catch_note (nx := (dE, oE) :: (f₀, W.listOf vs.toArray k) :: (add ++ Dn)) (frs := frs') rfl rfl (Fs.up u) hexc F₃ (news_mem N₃ fun q hq => ?_) ?_ ?_
  ·exact su_at hq (by bits_by_make)
  ·have hfe := safe_list (F := f₀) (vs := vs.toArray) (n := k) (B := Dn) (frs := frs') fun q hq => ?_
   have hta := safe_tups N₃ ht (Frs.up Fs u) (fun q hq => su_at hq (by bits_by_make)) (fun q hq => su_at hq (by bits_by_make))
   intro q hq
   simp only [List.mem_cons, List.mem_append] at hq
   rcases hq with rfl | rfl | hq | hq
   ·exact hsE
   ·exact hfe
   ·exact hta q hq
   ·exact (hS q hq).up u
   ·rcases List.mem_append.mp hq with hq | hq
    ·exact hDf q (List.mem_append_left _ hq)
    ·have : q.1 ∈ frs'.map (·.1) := List.mem_map_of_mem hq
     rw [sameUp_addr u] at this
     obtain ⟨r, hr, e'⟩ := List.mem_map.mp this
     exact e' ▸ hDf r (List.mem_append_right _ hr)
  ·intro h₄ frs₄ u₄ hexc₄ F₄ N₄
   refine wpAny_handleBy_cons (codeAny_handlers_test ?_) (by intro q; cases q)
   k_steps
   obtain ⟨nm, q, bs, sn, sub, ab, col, dd, k0, k1, k2, k3, k5, newId, hC, -⟩ := cls63 w (X.keeps F₄.keep)
   obtain ⟨-, us, usl, he₄, -⟩ := id hexc₄
   refine wpAny_excMatches_sub_self hC he₄ rfl (by decide) (codeAny_handlers_suite_as ?_)
   refine flight_exc hexc₄ fun h₅ hexc₅ hst => ?_
   have F₅ := stay_fr F₄ hst
   have hnf : ∀ q ∈ (dE, oE) :: (f₀, W.listOf vs.toArray k) :: (add ++ Dn) ++ frs₄, NF q := fun q hq => by
    simp only [List.mem_cons, List.mem_append] at hq
    rcases hq with (rfl | rfl | hq | hq) | hq
    ·exact hsE.1
    ·exact .inr ⟨by simp, by simp⟩
    ·exact (ht q hq).nf
    ·exact (hS q hq).1
    ·exact frs_nf (Frs.up (Frs.up Fs u) u₄) q hq
   have N₅ := stay_news N₄ hnf hst
   obtain ⟨us₅, sl₅, N₆⟩ := exc_entry F₅ N₅ hexc₅
   clear hC he₄ N₅ N₄ F₄ N₃ F₃ F₂ N₂ F₁ N₁
   k_steps
   rename_i T₆ h₆ F₆ N₆' l6 h₇ v₇ F₇ N₇
   have N₈ := news_mem (l' := ((T₆, tupO #[.ref f₀, .ref e] 0) :: (e, (⟨.ref 63, some dE, .fields us₅, sl₅⟩ : Obj)) :: (dE, oE) :: (f₀, W.listOf vs.toArray k) :: add) ++ (Dn ++ frs₄)) N₇ fun q hq => by
    exact su_at hq (by bits_by_make)
   have Fs₄ := Frs.up (Frs.up Fs u) u₄
   have hin : ∀ q ∈ frs₄, q ∈ ((T₆, tupO #[.ref f₀, .ref e] 0) :: (e, (⟨.ref 63, some dE, .fields us₅, sl₅⟩ : Obj)) :: (dE, oE) :: (f₀, W.listOf vs.toArray k) :: add) ++ (Dn ++ frs₄) := fun q hq => List.mem_append_right _ (List.mem_append_right _ hq)
   refine ⟨_, _, _, (T₆, tupO #[.ref f₀, .ref e] 0) :: (e, (⟨.ref 63, some dE, .fields us₅, sl₅⟩ : Obj)) :: (dE, oE) :: (f₀, W.listOf vs.toArray k) :: add, frs₄, rfl, SameUp.trans u u₄, F₇, N₈, ⟨T₆, 0, f₀, vs, k, .ref e, rfl, .head _, .tail _ (.tail _ (.tail _ (.head _))), hda.mono fun q hq => .tail _ (.tail _ (.tail _ (.tail _ hq))), .inr ⟨e, dE, oE, us₅, sl₅, p', rfl, .tail _ (.head _), .tail _ (.tail _ (.head _)), hfa, hr2⟩⟩, fun q hq => ?_⟩
   simp only [List.mem_cons] at hq
   rcases hq with rfl | rfl | rfl | rfl | hq
   ·exact nd_off N₈ Fs₄ hin (.head _) (fun es n k => by cases k)
   ·exact nd_off N₈ Fs₄ hin (.tail _ (.head _)) (fun es n k => by cases k)
   ·exact (hsE.up u₄).2
   ·exact nd_off N₈ Fs₄ hin (.tail _ (.tail _ (.tail _ (.head _)))) (fun es n k => by cases k)
   ·exact nd_off N₈ Fs₄ hin (.tail _ (.tail _ (.tail _ (.tail _ (List.mem_append_left _ hq))))) (ht q hq).noDict

end
section --Q1
section
variable {prog : Program} {w : World} {A : Around} {E : Value → Shared → Prop} {s : Shared} {h₀ : Heap} {L d T G : Addr} {m : Str → Option Value} {o : Obj} {B : Led} {us : Array Value} {its : List Value} {k n : Nat} {x : Value} {Q : Value → Shared → Prop}
end
set_option genInjectivity false in
structure PenV where
 here : Value
 start : Value
 control : Value
 kind : Str
 closed : Bool
inductive PenD (v : PenV) (G : Addr) : Obj → Prop
 | mk {h1 h2 h3 h4 h5 h6 : Int} {k1 k2 k3 k4 k5 k6 t : Tok} : PenD v G (dictOf [⟨h1, .str (Str.ofString "here") k1, v.here⟩, ⟨h2, .str (Str.ofString "start") k2, v.start⟩, ⟨h3, .str (Str.ofString "control") k3, v.control⟩, ⟨h4, .str (Str.ofString "kind") k4, .str v.kind t⟩, ⟨h5, .str (Str.ofString "is_closed") k5, .bool v.closed⟩, ⟨h6, .str (Str.ofString "found") k6, .ref G⟩] 6)
theorem NoTup.pen {d G : Addr} {v : PenV} {o : Obj} (h : PenD v G o) : NoTup (d, o) := by
 obtain ⟨⟩ := h
 refine And.intro (Or.inl ?_) (Or.inl fun vs e => ?_)
 ·simp [dictOf]
 ·cases e

end
section --QP
set_option genInjectivity false in
structure PS where
 here : Int × Int
 start : Int × Int
 ctl : Int × Int
 quad : Bool
 closed : Bool
 found : List Dat
structure PenR (B : Led) (v : PenV) (vs : List Value) (ps : PS) : Prop where
 here : DatIn B v.here (pt ps.here)
 start : DatIn B v.start (pt ps.start)
 ctl : ps.quad = true → DatIn B v.control (pt ps.ctl)
 kind : v.kind = if ps.quad then Str.ofString "quad" else Str.ofString ""
 closed : v.closed = ps.closed
 found : DatAll B vs ps.found
theorem dat_l {A J : Led} {v : Value} {d : Dat} (h : DatIn A v d) : DatIn (A ++ J) v d := h.mono fun _ h => List.mem_append_left _ h
noncomputable def mvD (p : Int × Int) : Dat := .tuple [.str (Str.ofString "move"), pt p]
noncomputable def lnD (p : Int × Int) : Dat := .tuple [.str (Str.ofString "line"), pt p]
noncomputable def qdD (c p : Int × Int) : Dat := .tuple [.str (Str.ofString "quad"), pt c, pt p]
noncomputable def clD : Dat := .tuple [.str (Str.ofString "close")]
noncomputable def PenP (J : Led) (d G : Addr) (v' : PenV) (vs : List Value) (found : List Dat) (r : Value) (M' add : Led) : Prop :=
 r = .none ∧ ∃ o' vs' k', M' = [(d, o'), (G, W.listOf vs'.toArray k')] ∧ PenD v' G o' ∧ DatAll (add ++ J) vs' found ∧ vs'.length ≤ vs.length + 2
noncomputable def ctlOf (quad : Bool) (h c : Int × Int) : Int × Int := if quad then (h.1 + h.1 - c.1, h.2 + h.2 - c.2) else h
noncomputable def PS.put (s : PS) (seg : Dat) (p : Int × Int) : PS := { s with found := (if s.closed then s.found ++ [mvD s.here] else s.found) ++ [seg], here := p, quad := false, closed := false }
noncomputable def PS.line (s : PS) (p : Int × Int) : PS := s.put (lnD p) p
noncomputable def PS.move (s : PS) (p : Int × Int) : PS := { s with found := s.found ++ [mvD p], here := p, start := p, quad := false, closed := false }
noncomputable def PS.quadTo (s : PS) (c p : Int × Int) : PS := { s.put (qdD c p) p with ctl := c, quad := true }
noncomputable def PS.close (s : PS) : PS := { s with found := (if s.closed then s.found ++ [mvD s.here] else s.found) ++ [clD], here := s.start, quad := false, closed := true }
noncomputable def DrawP (J : Led) (d G : Addr) (vs : List Value) (ps : PS) (r : Value) (M' add : Led) : Prop :=
 r = .none ∧ ∃ v' o' vs' k', M' = [(d, o'), (G, W.listOf vs'.toArray k')] ∧ PenD v' G o' ∧ PenR (add ++ J) v' vs' ps ∧ vs'.length ≤ vs.length + 2
theorem lit_LHV : Str.ofString "LHV" = S [76, 72, 86] := by decide +kernel
theorem lit_L : Str.ofString "L" = S [76] := by decide +kernel
theorem lit_H : Str.ofString "H" = S [72] := by decide +kernel
theorem lit_V : Str.ofString "V" = S [86] := by decide +kernel
theorem lit_M : Str.ofString "M" = S [77] := by decide +kernel
theorem lit_Q : Str.ofString "Q" = S [81] := by decide +kernel
theorem lit_T : Str.ofString "T" = S [84] := by decide +kernel
noncomputable def near (c : Nat) (ps : PS) : Int × Int := if 97 ≤ c then ps.here else (0, 0)
noncomputable def PS.step (ps : PS) (cmd : Cmd) : PS := match cmd.2 with
 | [a] => if cmd.1 = 72 ∨ cmd.1 = 104 then ps.line ((near cmd.1 ps).1 + a, ps.here.2) else ps.line (ps.here.1, (near cmd.1 ps).2 + a)
 | [a, b] => if cmd.1 = 77 ∨ cmd.1 = 109 then ps.move ((near cmd.1 ps).1 + a, (near cmd.1 ps).2 + b) else if cmd.1 = 76 ∨ cmd.1 = 108 then ps.line ((near cmd.1 ps).1 + a, (near cmd.1 ps).2 + b) else ps.quadTo (ctlOf ps.quad ps.here ps.ctl) ((near cmd.1 ps).1 + a, (near cmd.1 ps).2 + b)
 | [a, b, e, f] => ps.quadTo ((near cmd.1 ps).1 + a, (near cmd.1 ps).2 + b) ((near cmd.1 ps).1 + e, (near cmd.1 ps).2 + f)
 | _ => ps.close
noncomputable def ps0 : PS := ⟨(0, 0), (0, 0), (0, 0), false, false, []⟩
theorem islow {c : Nat} (h : c ∈ lets) : Txt.islower (S [c]) = decide (97 ≤ c) := by
 have := one_islower c ((by decide : ∀ c ∈ lets, c < 128) c h)
 rw [show S [c] = ⟨#[c]⟩ from rfl, this]
 exact (by decide +kernel : ∀ c ∈ lets, inR 97 122 ⟨#[c]⟩ = decide (97 ≤ c)) c h
theorem PS.line_len (s : PS) (x : Dat) : ((if s.closed then s.found ++ [mvD s.here] else s.found) ++ [x]).length ≤ s.found.length + 2 := by
 rw [List.length_append]
 split
 ·rw [List.length_append]; exact Nat.le_refl _
 ·exact Nat.le_succ _
theorem step_len (ps : PS) (q : Cmd) : (ps.step q).found.length ≤ ps.found.length + 2 := by
 unfold PS.step
 split
 ·split <;> exact PS.line_len ..
 ·split
  ·show (ps.found ++ [_]).length ≤ _
   rw [List.length_append]
   exact Nat.le_succ _
  ·split <;> exact PS.line_len ..
 ·exact PS.line_len ..
 ·exact PS.line_len ..
theorem fold_len : ∀ (cmds : List Cmd) (ps : PS), (cmds.foldl PS.step ps).found.length ≤ ps.found.length + 2 * cmds.length
 | [], _ => Nat.le_refl _
 | q :: r, ps => by
  have h1 := fold_len r (ps.step q)
  have h2 := step_len ps q
  rw [List.foldl_cons, List.length_cons]
  omega

end
section --PF
theorem seqIx {i : Int} {k n : Nat} (e : i = k) (h : k < n) : seqIndex? i n = some k := by
 subst e
 have : ¬ (k : Int) < 0 := by omega
 simp [seqIndex?, h, this]
section
variable {f : Fi} {c : Cx} {D : List AV} {σ : As} {e r : Expr} {pos px : Pos} {i : Int} {K : AV → As → Prop}
theorem ACal.abs (H : K (.d (.int (if i < 0 then -i else i))) σ) : ACal (.builtin "abs") [.d (.int i)] c D σ K := fun Q q h m N Mc ds vs t X z => by
 obtain ⟨_, rfl, y1⟩ := z.one
 obtain ⟨t1, rfl⟩ := den_int y1
 exact call_abs_int fun u tk => q _ _ H h m N Mc ds _ tk X (.int _ _)
theorem ABin.md1 (H : K (.d (.int 0)) σ) : ABin .Mod (.d (.int i)) (.d (.int 1)) c D σ K := fun Q q h m N Mc ds vs t X z => by
 obtain ⟨_, _, rfl, y1, y2⟩ := z.two
 obtain ⟨t1, rfl⟩ := den_int y1
 obtain ⟨t2, rfl⟩ := den_int y2
 refine mod_int' (by decide) ?_
 rw [show i.fmod 1 = 0 by simp [Int.fmod_eq_emod]]
 exact q _ _ H h m N Mc ds _ (t + 1) X (.int _ _)
theorem ABin.fd1 (H : K (.d (.int i)) σ) : ABin .FloorDiv (.d (.int i)) (.d (.int 1)) c D σ K := fun Q q h m N Mc ds vs t X z => by
 obtain ⟨_, _, rfl, y1, y2⟩ := z.two
 obtain ⟨t1, rfl⟩ := den_int y1
 obtain ⟨t2, rfl⟩ := den_int y2
 refine floordiv_int (by decide) ?_ (Or.inl (PyProof.noPylong_of_log2 (by decide +kernel)))
 rw [show i.fdiv 1 = i by simp]
 exact q _ _ H h m N Mc ds _ (t + 1) X (.int _ _)
noncomputable def as2K (n1 n2 : Str) (f : Fi) (c : Cx) (K : AF → As → Prop) (a : AV) (σ' : As) : Prop := ∃ d1 d2, a = .d (.tuple [d1, d2]) ∧ ASto n2 f (.d d2) c [.d d1] σ' fun σ₃ => ASto n1 f (.d d1) c [] σ₃ (K .next)
theorem as2K.mk {n1 n2 : Str} {d1 d2 : Dat} {K : AF → As → Prop} (H : ASto n2 f (.d d2) c [.d d1] σ fun σ₃ => ASto n1 f (.d d1) c [] σ₃ (K .next)) : as2K n1 n2 f c K (.d (.tuple [d1, d2])) σ := ⟨_, _, rfl, H⟩
theorem ASt.asg2 {K : AF → As → Prop} {es : List Expr} {k : Nat} {n1 n2 : Str} (H : AEv e f c [] σ (as2K n1 n2 f c K)) (hs : ∀ env, swapsWithSole [.Tuple es k px] e pos.line env = pure false) (hw : ∀ c : Cx, swappedStores [.Tuple es k px] e (c.env f) = pure (some [n1, n2])) : ASt (.Assign [.Tuple es k px] e pos) f c σ K := fun Q q h m N Mc t X =>
 Assign_Tuple_swapped (names := [n1, n2]) (H (fun _ v s₁ => wpAny _ _ (unpackItems v 2 Option.none) (fun items s₂ => wpAny _ _ (assignInOrder [bindName (c.env f) n2, bindName (c.env f) n1] items.reverse) (fun _ => Q .next) _ s₂) _ s₁) (fun a σ' k1 h m N Mc ds v t X y => by
  obtain rfl := X.nil
  obtain ⟨d1, d2, rfl, k1⟩ := k1
  obtain ⟨T, us, n, rfl, hm, hus⟩ := den_tup y
  obtain ⟨v1, v2, rfl, y1, y2⟩ := (dall_map hus : DAll _ [.d d1, .d d2] us).two
  refine unpackItemsN_ (s := st0 c h t) X.F X.W (News.isTup X.W (mem_all hm)) rfl rfl (fun h' F' W' => ?_)
  refine assignInOrder_cons (bindName_ (k1 (fun ds s => wpAny _ _ (assignInOrder [bindName (c.env f) n1] ds) (fun _ => Q .next) c.E s) (fun σ₃ k3 h m N Mc ds t X4 => ?_) h' m N Mc [v1] [v2] t ⟨F', X.P, W', X.S, X.M, .cons y1 .nil⟩ (.cons y2 .nil)))
  obtain ⟨v1, r1, rfl, y1, X5⟩ := X4.pop
  obtain rfl := X5.nil
  exact assignInOrder_cons (bindName_ (k3 (fun ds s => wpAny _ _ (assignInOrder [] ds) (fun _ => Q .next) c.E s) (fun σ₄ k4 h m N Mc ds t X6 => by
   obtain rfl := X6.nil
   exact assignInOrder_nil (q _ _ k4 h m N Mc _ t X6 rfl)) h m N Mc [] [v1] t X5 (.cons y1 .nil)))) h m N Mc [] t X) (hs _) (hw c)
theorem ASub.zero {z : Int} (j : Nat) (hl : ∀ w : World, ∃ dd us n sl t, (heapK w.params).lookup 66 = some ⟨.type "tuple", dd, .seq (us : List Value).toArray n, sl⟩ ∧ us.length = 2 ∧ us[j]? = some (.int z t)) (hj : j < 2) (hs : Nsl r = true) (H : K (.d (.int z)) σ) : ASub (.v (.ref 66)) (.d (.int j)) e r c D σ K := fun Q q h m N Mc ds vs t X y => by
 obtain ⟨v', _, rfl, y1, y2⟩ := y.two
 obtain rfl : v' = .ref 66 := y1
 obtain ⟨t2, rfl⟩ := den_int y2
 obtain ⟨dd, us, n, sl, u, hl, h2, hv⟩ := hl c.w
 exact topTup_K X.F c.X hl (by omega) (by omega) (seqIx rfl (by rw [h2]; exact hj)) hv (q _ _ H h m N Mc ds _ t X (.int _ _)) (Nsl.sub hs)
end
theorem cdA {w : World} {x : Int} (B : Led) (vs : List Value) (hA : DAll B [.d (.int x), .d (.int 1)] vs) : FnP w 73 vs 1 8 B (fun rv add => Den (add ++ B) (.d (.int 1)) rv) := by
 obtain ⟨_, _, rfl, h1, h2⟩ := hA.two
 refine FnM.imp (P := PoA (Is1 (.d (.int 1)) []) B) ?_ (fun _ h => h) fun r M' add ⟨_, _, h, hd, _⟩ => h.1 ▸ hd
 tbr_iter (FnM.ofAE .nil .nil (fun _ _ k => by rw [k.2]) (.cons (x := Str.ofString "one") h1 (.cons (x := Str.ofString "other") h2 .nil)))
 intro cx K hw hB hd hu hE hK
 subst hw
 refine ASts.cons (ASt.asg2 ?_ (fun _ => rfl) (fun _ => rfl))
 repeat' walk1
 refine AEv.bi boot_abs (by decide +kernel) (fun w => by k_is) (by k_dflt rfl) rfl (fun _ => rfl) ?_
 repeat' walk1
 refine ACal.abs ?_
 repeat' walk1
 refine as2K.mk ?_
 repeat' walk1
 refine ASt.whl (fun n σ => ∃ a b, σ = ⟨[(Str.ofString "first", .d (.int a)), (Str.ofString "second", .d (.int b)), (Str.ofString "one", .d (.int x)), (Str.ofString "other", .d (.int 1))], []⟩ ∧ ((n = 1 ∧ b = 1) ∨ (n = 0 ∧ b = 0 ∧ a = 1))) (hE _) ⟨_, _, rfl, .inl ⟨rfl, rfl⟩⟩ ?_
 rintro _ _ ⟨a, b, rfl, ⟨rfl, rfl⟩ | ⟨rfl, rfl, rfl⟩⟩
 ·repeat' walk1
  refine ACmp.gt ?_
  walk1
  walk1
  refine ASts.cons (ASt.asg2 ?_ (fun _ => rfl) (fun _ => rfl))
  repeat' walk1
  refine ABin.md1 ?_
  repeat' walk1
  refine as2K.mk ?_
  iterate 3 walk1
  exact ⟨0, _, Nat.zero_lt_one, .cons rfl (.cons rfl (.cons rfl (.cons rfl .nil))), _, _, rfl, .inr ⟨rfl, rfl, rfl⟩⟩
 ·repeat' walk1
  refine ACmp.gt ?_
  repeat' walk1
  exact hK _ _ ⟨rfl, rfl⟩
theorem fractionA {w : World} {x : Int} (B : Led) (vs : List Value) (hA : DAll B [.d (.int x), .d (.int 1)] vs) : FnP w 81 vs 2 16 B (fun rv add => Den (add ++ B) (.d (fr x)) rv) := by
 obtain ⟨_, _, rfl, h1, h2⟩ := hA.two
 tbr_iter (FnP.ofA1 (.cons (x := Str.ofString "top") h1 (.cons (x := Str.ofString "bottom") h2 .nil)))
 intro cx K hw hB hd hu hK
 subst hw
 repeat' walk1
 refine ACmp.eqI ?_
 repeat' walk1
 refine ACmp.ltI ?_
 repeat' walk1
 refine ACal.P cdA (room hd rfl) (roomu hu rfl) ?_
 repeat' walk1
 refine ABin.fd1 ?_
 repeat' walk1
 refine ABin.fd1 ?_
 repeat' walk1
 exact hK _ _ rfl
theorem mul1 {c : Cx} {D : List AV} {σ : As} {K : AV → As → Prop} {i : Int} (H : K (.d (.int i)) σ) : ABin .Mult (.d (.int i)) (.d (.int 1)) c D σ K := ABin.mul (IntMulOk.of_right (by decide)) (by rw [Int.mul_one]; exact H)
section
variable {w : World} {a b : Int} {B : Led} {vs : List Value}
theorem plusA (B : Led) (vs : List Value) (hA : DAll B [.d (fr a), .d (fr b)] vs) : FnP w 88 vs 3 24 B (fun rv add => Den (add ++ B) (.d (fr (a + b))) rv) := by
 obtain ⟨_, _, rfl, h1, h2⟩ := hA.two
 tbr_iter (FnP.ofA1 (.cons (x := Str.ofString "a") (a := .d (.tuple [.int a, .int 1])) h1 (.cons (x := Str.ofString "b") (a := .d (.tuple [.int b, .int 1])) h2 .nil)))
 intro cx K hw hB hd hu hK
 subst hw
 repeat' walk1
 refine mul1 ?_
 repeat' walk1
 refine mul1 ?_
 repeat' walk1
 refine ACal.P fractionA (room hd rfl) (roomu hu rfl) ?_
 exact hK _ _ rfl
theorem minusA (B : Led) (vs : List Value) (hA : DAll B [.d (fr a), .d (fr b)] vs) : FnP w 95 vs 3 24 B (fun rv add => Den (add ++ B) (.d (fr (a - b))) rv) := by
 obtain ⟨_, _, rfl, h1, h2⟩ := hA.two
 tbr_iter (FnP.ofA1 (.cons (x := Str.ofString "a") (a := .d (.tuple [.int a, .int 1])) h1 (.cons (x := Str.ofString "b") (a := .d (.tuple [.int b, .int 1])) h2 .nil)))
 intro cx K hw hB hd hu hK
 subst hw
 repeat' walk1
 refine mul1 ?_
 repeat' walk1
 refine mul1 ?_
 repeat' walk1
 refine ACal.P fractionA (room hd rfl) (roomu hu rfl) ?_
 exact hK _ _ rfl
theorem plusZA (B : Led) (vs : List Value) (hA : DAll B [.v (.ref 66), .d (fr a)] vs) : FnP w 88 vs 3 24 B (fun rv add => Den (add ++ B) (.d (fr a)) rv) := by
 obtain ⟨_, _, rfl, h1, h2⟩ := hA.two
 tbr_iter (FnP.ofA1 (.cons (x := Str.ofString "a") (a := .v (.ref 66)) h1 (.cons (x := Str.ofString "b") (a := .d (.tuple [.int a, .int 1])) h2 .nil)))
 intro cx K hw hB hd hu hK
 subst hw
 have z0 : ∀ w : World, ∃ dd us n sl t, (heapK w.params).lookup 66 = some ⟨.type "tuple", dd, .seq (us : List Value).toArray n, sl⟩ ∧ us.length = 2 ∧ us[0]? = some (.int 0 t) := fun w => ⟨_, [_, _], _, _, _, by k_is, rfl, rfl⟩
 have z1 : ∀ w : World, ∃ dd us n sl t, (heapK w.params).lookup 66 = some ⟨.type "tuple", dd, .seq (us : List Value).toArray n, sl⟩ ∧ us.length = 2 ∧ us[1]? = some (.int 1 t) := fun w => ⟨_, [_, _], _, _, _, by k_is, rfl, rfl⟩
 repeat' walk1
 refine ASub.zero 0 z0 (by decide) rfl ?_
 repeat' walk1
 refine ASub.zero 1 z1 (by decide) rfl ?_
 refine mul1 ?_
 repeat' walk1
 refine ASub.zero 1 z1 (by decide) rfl ?_
 repeat' walk1
 refine ACal.P fractionA (room hd rfl) (roomu hu rfl) ?_
 refine hK _ _ ?_
 exact congrArg (fun z => AV.d (fr z)) (Int.zero_add a)
end

end
section --QA
@[reducible] noncomputable def P2 (p : Int × Int) : Dat := .tuple [fr p.1, fr p.2]
@[reducible] noncomputable def penK (h s ct : AV) (kd : Str) (cl : Bool) (G : Addr) : List (Str × AV) := [(Str.ofString "here", h), (Str.ofString "start", s), (Str.ofString "control", ct), (Str.ofString "kind", .d (.str kd)), (Str.ofString "is_closed", .d (.bool cl)), (Str.ofString "found", .v (.ref G))]
@[reducible] noncomputable def penM (d G : Addr) (h s ct : AV) (kd : Str) (cl : Bool) (fd : List Dat) : List (Addr × AO) := [(d, AttA (penK h s ct kd cl G)), (G, LstA fd)]
theorem mirroredA {w : World} {h c : Int × Int} (B : Led) (vs : List Value) (hA : DAll B [.d (P2 h), .d (P2 c)] vs) : FnP w 326 vs 8 64 B (fun rv add => Den (add ++ B) (.d (P2 (h.1 + h.1 - c.1, h.2 + h.2 - c.2))) rv) := by
 obtain ⟨_, _, rfl, h1, h2⟩ := hA.two
 tbr_iter (FnP.ofA1 (.cons (x := Str.ofString "here") h1 (.cons (x := Str.ofString "control") h2 .nil)))
 intro cx K hw hB hd hu hK
 subst hw
 repeat' walk1
 refine ACal.P plusA (room hd rfl) (roomu hu rfl) ?_
 repeat' walk1
 refine ACal.P minusA (room hd rfl) (roomu hu rfl) ?_
 repeat' walk1
 refine ACal.P plusA (room hd rfl) (roomu hu rfl) ?_
 repeat' walk1
 refine ACal.P minusA (room hd rfl) (roomu hu rfl) ?_
 repeat' walk1
 exact hK _ _ rfl
section
variable {w : World} {x d G : Addr} {B : Led} {vs : List Value} {Mc : Led} {h s ct : AV} {kd : Str} {cl : Bool} {fd : List Dat}
theorem pen_nd (n : d ≠ G) : ((penM d G h s ct kd cl fd).map (·.1)).Nodup := by simp [n]
theorem pointA {hp q : Int × Int} {rel : Bool} (hh : rel = true → h = .d (P2 hp)) (hx : (x, instObj 406 d) ∈ B) (hA : DAll B [.v (.ref x), .d (.bool rel), .d (fr q.1), .d (fr q.2)] vs) (hM : MAll B [(d, AttA (penK h s ct kd cl G))] Mc) :
  FnM w 354 vs 8 64 Mc B (PoA (Is1 (.d (P2 (if rel then (hp.1 + q.1, hp.2 + q.2) else q))) [(d, AttA (penK h s ct kd cl G))]) B) := by
 obtain ⟨_, v1, v2, v3, rfl, h0, h1, h2, h3⟩ := hA.four
 obtain rfl := h0
 tbr_iter (FnM.ofA1 hM (by simp) (by rfl) (.cons (x := Str.ofString "self") (a := .v (.ref x)) rfl (.cons (x := Str.ofString "is_relative") h1 (.cons (x := Str.ofString "x") h2 (.cons (x := Str.ofString "y") h3 .nil)))))
 intro cx K hw hB hd hu hK
 subst hw
 have hx' := hB _ hx
 cases rel
 ·repeat' walk1
  exact hK _ _ rfl rfl
 ·obtain rfl := hh rfl
  repeat' walk1
  refine ACal.P plusA (room hd rfl) (roomu hu rfl) ?_
  repeat' walk1
  refine ACal.P plusA (room hd rfl) (roomu hu rfl) ?_
  repeat' walk1
  exact hK _ _ rfl rfl
theorem putA' {hp : Int × Int} {b : Bool} {rest : List Dat} {k0 : Str} {e : Dat} {n : Nat} (hdG : d ≠ G) (hk : (k0 != Str.ofString "move") = b) (hh : cl = true → b = true → h = .d (P2 hp)) (hi : seqIndex? (-1) (rest.length + 1) = some n) (he : (Dat.str k0 :: rest)[n]? = some e) (hl : fd.length ≤ 10000)
  (hx : (x, instObj 406 d) ∈ B) (hA : DAll B [.v (.ref x), .d (.tuple (.str k0 :: rest))] vs) (hM : MAll B (penM d G h s ct kd cl fd) Mc) :
  FnM w 361 vs 2 16 Mc B (PoA (Is1 (.d .none) (penM d G (.d e) s ct (Str.ofString "") false ((if b then (if cl then fd ++ [.tuple [.str (Str.ofString "move"), P2 hp]] else fd) else fd) ++ [.tuple (.str k0 :: rest)]))) B) := by
 obtain ⟨_, v1, rfl, h0, h1⟩ := hA.two
 obtain rfl := h0
 tbr_iter (FnM.ofA1 hM (pen_nd hdG) (by rfl) (.cons (x := Str.ofString "self") (a := .v (.ref x)) rfl (.cons (x := Str.ofString "segment") h1 .nil)))
 intro cx K hw hB hd hu hK
 subst hw
 have hx' := hB _ hx
 have hl2 : fd.length ≤ 10001 := Nat.le_succ_of_le hl
 refine ASts.cut (Y := fun K' => K' ⟨[(Str.ofString "self", .v (.ref x)), (Str.ofString "segment", .d (.tuple (.str k0 :: rest)))], penM d G h s ct kd cl (if b then (if cl then fd ++ [.tuple [.str (Str.ofString "move"), P2 hp]] else fd) else fd)⟩) ?_ ?_
 ·intro K' hK'
  repeat' walk1
  cases cl
  ·repeat' walk1
   cases b <;> exact hK'
  ·iterate 5 walk1
   refine ASub.hd rfl ?_
   walk1
   refine ACmp.neS hk ?_
   walk1
   cases b
   ·repeat' walk1
    exact hK'
   ·obtain rfl := hh rfl rfl
    repeat' walk1
    exact hK'
 ·have hl' : (if b then (if cl then fd ++ [.tuple [.str (Str.ofString "move"), P2 hp]] else fd) else fd).length ≤ 10001 := by
   split
   ·split
    ·rw [List.length_append]; exact Nat.succ_le_succ hl
    ·exact Nat.le_succ_of_le hl
   ·exact Nat.le_succ_of_le hl
  repeat' walk1
  refine ASub.tup (by rw [List.length_cons]; exact hi) he rfl (by decide) ?_
  repeat' walk1
  exact hK _ _ rfl rfl
theorem closeA' {hp sp : Int × Int} (hdG : d ≠ G) (hh : cl = true → h = .d (P2 hp)) (hl : fd.length ≤ 10000) (hx : (x, instObj 406 d) ∈ B) (hA : DAll B [.v (.ref x)] vs) (hM : MAll B (penM d G h (.d (P2 sp)) ct kd cl fd) Mc) :
  FnM w 375 vs 2 16 Mc B (PoA (Is1 (.d .none) (penM d G (.d (P2 sp)) (.d (P2 sp)) ct (Str.ofString "") true ((if cl then fd ++ [.tuple [.str (Str.ofString "move"), P2 hp]] else fd) ++ [clD]))) B) := by
 obtain rfl := one_ref hA
 tbr_iter (FnM.ofA1 hM (pen_nd hdG) (by rfl) (.cons (x := Str.ofString "self") (a := .v (.ref x)) rfl .nil))
 intro cx K hw hB hd hu hK
 subst hw
 have hx' := hB _ hx
 have hl2 : fd.length ≤ 10001 := Nat.le_succ_of_le hl
 refine ASts.cut (Y := fun K' => K' ⟨[(Str.ofString "self", .v (.ref x))], penM d G h (.d (P2 sp)) ct kd cl (if cl then fd ++ [.tuple [.str (Str.ofString "move"), P2 hp]] else fd)⟩) ?_ ?_
 ·intro K' hK'
  repeat' walk1
  cases cl
  ·repeat' walk1
   exact hK'
  ·obtain rfl := hh rfl
   repeat' walk1
   exact hK'
 ·have hl' : (if cl then fd ++ [.tuple [.str (Str.ofString "move"), P2 hp]] else fd).length ≤ 10001 := by
   split
   ·rw [List.length_append]; exact Nat.succ_le_succ hl
   ·exact Nat.le_succ_of_le hl
  repeat' walk1
  exact hK _ _ rfl rfl
theorem moveA' {p : Int × Int} (hdG : d ≠ G) (hl : fd.length ≤ 10000) (hx : (x, instObj 406 d) ∈ B) (hA : DAll B [.v (.ref x), .d (P2 p)] vs) (hM : MAll B (penM d G h s ct kd cl fd) Mc) :
  FnM w 368 vs 4 32 Mc B (PoA (Is1 (.d .none) (penM d G (.d (P2 p)) (.d (P2 p)) ct (Str.ofString "") false (fd ++ [mvD p]))) B) := by
 obtain ⟨_, v1, rfl, h0, h1⟩ := hA.two
 obtain rfl := h0
 tbr_iter (FnM.ofA1 hM (pen_nd hdG) (by rfl) (.cons (x := Str.ofString "self") (a := .v (.ref x)) rfl (.cons (x := Str.ofString "p") h1 .nil)))
 intro cx K hw hB hd hu hK
 subst hw
 have hx' := hB _ hx
 have hl2 : fd.length ≤ 10001 := Nat.le_succ_of_le hl
 repeat' walk1
 refine ACal.M2B (fun B vs Mc hB hA hM => putA' (hp := (0, 0)) (b := false) (e := P2 p) (n := 1) hdG rfl (fun _ e => nomatch e) rfl rfl hl (hB _ hx') hA hM) (room hd rfl) (roomu hu rfl) ?_
 repeat' walk1
 exact hK _ _ rfl rfl
theorem quadA' {hp c p : Int × Int} (hdG : d ≠ G) (hh : cl = true → h = .d (P2 hp)) (hl : fd.length ≤ 10000) (hx : (x, instObj 406 d) ∈ B) (hA : DAll B [.v (.ref x), .d (P2 c), .d (P2 p)] vs) (hM : MAll B (penM d G h s ct kd cl fd) Mc) :
  FnM w 396 vs 4 32 Mc B (PoA (Is1 (.d .none) (penM d G (.d (P2 p)) s (.d (P2 c)) (Str.ofString "quad") false ((if cl then fd ++ [.tuple [.str (Str.ofString "move"), P2 hp]] else fd) ++ [qdD c p]))) B) := by
 obtain ⟨_, v1, v2, rfl, h0, h1, h2⟩ := hA.three
 obtain rfl := h0
 tbr_iter (FnM.ofA1 hM (pen_nd hdG) (by rfl) (.cons (x := Str.ofString "self") (a := .v (.ref x)) rfl (.cons (x := Str.ofString "c") h1 (.cons (x := Str.ofString "p") h2 .nil))))
 intro cx K hw hB hd hu hK
 subst hw
 have hx' := hB _ hx
 repeat' walk1
 refine ACal.M2B (fun B vs Mc hB hA hM => putA' (hp := hp) (b := true) (e := P2 p) (n := 2) hdG (by decide +kernel) (fun h _ => hh h) rfl rfl hl (hB _ hx') hA hM) (room hd rfl) (roomu hu rfl) ?_
 repeat' walk1
 exact hK _ _ rfl rfl
theorem mctlA' {hp c : Int × Int} {quad : Bool} (hk : kd = if quad then Str.ofString "quad" else Str.ofString "") (hc : quad = true → ct = .d (P2 c)) (hx : (x, instObj 406 d) ∈ B) (hA : DAll B [.v (.ref x), .d (.str (Str.ofString "quad"))] vs) (hM : MAll B [(d, AttA (penK (.d (P2 hp)) s ct kd cl G))] Mc) :
  FnM w 382 vs 10 80 Mc B (PoA (Is1 (.d (P2 (ctlOf quad hp c))) [(d, AttA (penK (.d (P2 hp)) s ct kd cl G))]) B) := by
 obtain ⟨_, v1, rfl, h0, h1⟩ := hA.two
 obtain rfl := h0
 tbr_iter (FnM.ofA1 hM (by simp) (by rfl) (.cons (x := Str.ofString "self") (a := .v (.ref x)) rfl (.cons (x := Str.ofString "kind") h1 .nil)))
 intro cx K hw hB hd hu hK
 subst hw
 have hx' := hB _ hx
 subst hk
 cases quad
 ·repeat' walk1
  exact hK _ _ rfl rfl
 ·obtain rfl := hc rfl
  repeat' walk1
  refine ACal.P mirroredA (room hd rfl) (roomu hu rfl) ?_
  repeat' walk1
  exact hK _ _ rfl rfl
end

end
section --QB
section
variable {f : Fi} {c : Cx} {l : List (Str × AV)} {M : List (Addr × AO)} {D : List AV} {σ : As}
theorem ASub.lsm {K : AV → As → Prop} {G : Addr} {dl : List Dat} {d0 : Dat} {e r : Expr} (ma : List (Addr × AO)) (i : Nat) (hv : dl[i]? = some d0) (hi : i < 100) (hs : Nsl r = true) (H : K (.d d0) ⟨l, ma ++ (G, LstA dl) :: M⟩) : ASub (.v (.ref G)) (.d (.int i)) e r c D ⟨l, ma ++ (G, LstA dl) :: M⟩ K := fun Q q h m N Mc ds vs t X y => by
 obtain ⟨v, _, rfl, y1, y2⟩ := y.two
 obtain rfl : v = .ref G := y1
 obtain ⟨t2, rfl⟩ := den_int y2
 obtain ⟨sa, o, sz, rfl, -, ⟨us, n, rfl, hus⟩, -⟩ := X.M.look
 obtain ⟨v, hv', dv⟩ := datAll_get hus hv
 have hm : (G, W.listOf us.toArray n) ∈ c.all (sa ++ (G, W.listOf us.toArray n) :: sz) N := by rw [all_mid]; exact List.mem_append_right _ (.head _)
 exact item_listR ⟨_, (X.W _ hm).1, rfl, _, rfl⟩ (Int.ofNat_nonneg i) (by omega) (by simpa using hv') (q _ _ H h m N _ ds v t X dv) (Nsl.sub hs)
theorem AMcl.a2 {q1 q2 : Addr × AO} {G : Addr} {dl : List Dat} {e : Expr} {es : List Expr} {pos : Pos} {K : AV → As → Prop} (hx : Xs (e :: es) = true) (H : AEvs (e :: es) f c (.v (.ref G) :: D) ⟨l, q1 :: q2 :: (G, LstA dl) :: M⟩ (aCalM (.builtin "list.append") (.v (.ref G)) c D K)) : AMcl "append" (e :: es) pos f (.v (.ref G)) c D ⟨l, q1 :: q2 :: (G, LstA dl) :: M⟩ K := AMcl.app [q1, q2] hx H
theorem ACal.a2 {q1 q2 : Addr × AO} {G : Addr} {dl : List Dat} {d0 : Dat} {K : AV → As → Prop} (hl : dl.length ≤ 10001) (H : K (.d .none) ⟨l, q1 :: q2 :: (G, LstA (dl ++ [d0])) :: M⟩) : ACal (.builtin "list.append") [.v (.ref G), .d d0] c D ⟨l, q1 :: q2 :: (G, LstA dl) :: M⟩ K := ACal.app [q1, q2] hl H
theorem ASts.drop {K : AF → As → Prop} {b : List Stmt} {M₂ : List (Addr × AO)} (H : ASts b f c ⟨l, M⟩ K) : ASts b f c ⟨l, M ++ M₂⟩ K := fun Q q h m N Mc t X => by
 obtain ⟨Mc₀, Mc₁, rfl, -, Y⟩ := X.drop
 exact H Q q h m N Mc₀ t Y
end
@[reducible] noncomputable def kdOf (quad : Bool) : Str := if quad then Str.ofString "quad" else Str.ofString ""
@[reducible] noncomputable def mkP (rel : Bool) (h q : Int × Int) : Int × Int := if rel then (h.1 + q.1, h.2 + q.2) else q
@[reducible] noncomputable def mkN (rel : Bool) (h q : Int) : Int := if rel then h + q else q
noncomputable def PS.to (ps : PS) (u : Nat) (rel : Bool) : List Int → PS
 | [a] => if u = 72 then ps.line (mkN rel ps.here.1 a, ps.here.2) else ps.line (ps.here.1, mkN rel ps.here.2 a)
 | [a, b] => if u = 77 then ps.move (mkP rel ps.here (a, b)) else if u = 76 then ps.line (mkP rel ps.here (a, b)) else ps.quadTo (ctlOf ps.quad ps.here ps.ctl) (mkP rel ps.here (a, b))
 | [a, b, e, f] => ps.quadTo (mkP rel ps.here (a, b)) (mkP rel ps.here (e, f))
 | _ => ps.close
theorem flat_get {qs : List (Int × Int)} : ∀ {k : Nat} {q : Int × Int}, qs[k]? = some q → (qs.flatMap fun q => [q.1, q.2])[2 * k]? = some q.1 ∧ (qs.flatMap fun q => [q.1, q.2])[2 * k + 1]? = some q.2 := by
 induction qs with
 | nil => intro k q h; cases h
 | cons a r ih =>
  intro k q h
  cases k with
  | zero => cases h; exact ⟨rfl, rfl⟩
  | succ k => exact ih h
theorem flat_len {qs : List (Int × Int)} : (qs.flatMap fun q => [q.1, q.2]).length = 2 * qs.length := by
 induction qs with
 | nil => rfl
 | cons a r ih => rw [List.flatMap_cons, List.length_append, ih, List.length_cons]; simp; omega
theorem rngLen {n : Nat} (h : n ≤ 2) : Builtin.Range.small 0 ((2 * n : Nat) : Int) 2 = true ∧ Builtin.Range.rangeSize 0 ((2 * n : Nat) : Int) 2 = (n : Int) := by
 match n, h with
 | 0, _ => exact ⟨by decide +kernel, by decide +kernel⟩
 | 1, _ => exact ⟨by decide +kernel, by decide +kernel⟩
 | 2, _ => exact ⟨by decide +kernel, by decide +kernel⟩
section
variable {w : World} {x d G : Addr} {B : Led} {vs : List Value} {Mc : Led} {h s ct : AV} {kd : Str} {cl : Bool} {fd : List Dat}
theorem endA {hp : Int × Int} {rel : Bool} {xs : List Int} {p : Int × Int} {u : Nat} (hu : (u = 76 ∧ ∃ a b, xs = [a, b] ∧ p = mkP rel hp (a, b)) ∨ (u = 72 ∧ ∃ a, xs = [a] ∧ p = (mkN rel hp.1 a, hp.2)) ∨ (u = 86 ∧ ∃ a, xs = [a] ∧ p = (hp.1, mkN rel hp.2 a)))
  (hx : (x, instObj 406 d) ∈ B) (hA : DAll B [.v (.ref x), .d (.str (S [u])), .d (.bool rel), .d (.tuple (xs.map fr))] vs) (hM : MAll B [(d, AttA (penK (.d (P2 hp)) s ct kd cl G))] Mc) :
  FnM w 417 vs 10 80 Mc B (PoA (Is1 (.d (P2 p)) [(d, AttA (penK (.d (P2 hp)) s ct kd cl G))]) B) := by
 obtain ⟨_, v1, v2, v3, rfl, h0, h1, h2, h3⟩ := hA.four
 obtain rfl := h0
 tbr_iter (FnM.ofA1 hM (by simp) (by rfl) (.cons (x := Str.ofString "pen") (a := .v (.ref x)) rfl (.cons (x := Str.ofString "letter") h1 (.cons (x := Str.ofString "is_relative") h2 (.cons (x := Str.ofString "numbers") h3 .nil)))))
 intro cx K hw hB hd hu' hK
 subst hw
 have hx' := hB _ hx
 rcases hu with ⟨rfl, a, b, rfl, rfl⟩ | ⟨rfl, a, rfl, rfl⟩ | ⟨rfl, a, rfl, rfl⟩
 ·repeat' walk1
  refine ACal.M1B (fun B vs Mc hB hA hM => pointA (q := (a, b)) (fun _ => rfl) (hB _ hx') hA hM) (room hd rfl) (roomu hu' rfl) ?_
  repeat' walk1
  exact hK _ _ rfl rfl
 ·cases rel
  ·repeat' walk1
   exact hK _ _ rfl rfl
  ·repeat' walk1
   refine ACal.P plusA (room hd rfl) (roomu hu' rfl) ?_
   repeat' walk1
   exact hK _ _ rfl rfl
 ·cases rel
  ·repeat' walk1
   exact hK _ _ rfl rfl
  ·repeat' walk1
   refine ACal.P plusA (room hd rfl) (roomu hu' rfl) ?_
   repeat' walk1
   exact hK _ _ rfl rfl
noncomputable def DrwA (d G : Addr) (ps : PS) (r : AV) (N' : List (Addr × AO)) : Prop := r = .d .none ∧ ∃ ct, N' = penM d G (.d (P2 ps.here)) (.d (P2 ps.start)) ct (kdOf ps.quad) ps.closed ps.found ∧ (ps.quad = true → ct = .d (P2 ps.ctl))
noncomputable def Kept (ps : PS) (h s ct : AV) (kd : Str) (cl : Bool) : Prop := h = .d (P2 ps.here) ∧ s = .d (P2 ps.start) ∧ kd = kdOf ps.quad ∧ cl = ps.closed ∧ (ps.quad = true → ct = .d (P2 ps.ctl))
theorem inLHV {u : Nat} : decide (u ∈ (Str.ofString "LHV").cps.toList) = decide (u ∈ [76, 72, 86]) := by
 rw [show (Str.ofString "LHV").cps.toList = [76, 72, 86] from by decide +kernel]
theorem drawLA {ps : PS} {rel : Bool} {xs : List Int} {p : Int × Int} {u : Nat} (hdG : d ≠ G) (hu : (u = 76 ∧ ∃ a b, xs = [a, b] ∧ p = mkP rel ps.here (a, b)) ∨ (u = 72 ∧ ∃ a, xs = [a] ∧ p = (mkN rel ps.here.1 a, ps.here.2)) ∨ (u = 86 ∧ ∃ a, xs = [a] ∧ p = (ps.here.1, mkN rel ps.here.2 a)))
  (hk : Kept ps h s ct kd cl) (hl : ps.found.length ≤ 10000) (hx : (x, instObj 406 d) ∈ B) (hA : DAll B [.v (.ref x), .d (.str (S [u])), .d (.bool rel), .d (.tuple (xs.map fr))] vs) (hM : MAll B (penM d G h s ct kd cl ps.found) Mc) :
  FnM w 424 vs 14 120 Mc B (PoA (DrwA d G (ps.line p)) B) := by
 obtain ⟨rfl, rfl, rfl, rfl, hc⟩ := hk
 obtain ⟨_, v1, v2, v3, rfl, h0, h1, h2, h3⟩ := hA.four
 obtain rfl := h0
 tbr_iter (FnM.ofAE hM (pen_nd hdG) (by rintro _ _ ⟨-, _, rfl, -⟩; rfl) (.cons (x := Str.ofString "pen") (a := .v (.ref x)) rfl (.cons (x := Str.ofString "letter") h1 (.cons (x := Str.ofString "is_relative") h2 (.cons (x := Str.ofString "numbers") h3 .nil)))))
 intro cx K hw hB hd hu' hE hK
 subst hw
 have hx' := hB _ hx
 have hm : u ∈ [76, 72, 86] := by rcases hu with ⟨rfl, -⟩ | ⟨rfl, -⟩ | ⟨rfl, -⟩ <;> decide
 repeat' walk1
 refine ACmp.inS (r := true) (inLHV.trans (decide_eq_true hm)) ?_
 repeat' walk1
 refine ACal.M1B (fun B vs Mc hB hA hM => endA hu (hB _ hx') hA hM) (room hd rfl) (roomu hu' rfl) ?_
 repeat' walk1
 refine ACal.M2B (fun B vs Mc hB hA hM => putA' (hp := ps.here) (b := true) (e := P2 p) (n := 1) hdG (by decide +kernel) (fun _ _ => rfl) rfl rfl hl (hB _ hx') hA hM) (room hd rfl) (roomu hu' rfl) ?_
 repeat' walk1
 exact hK (.ret (.d .none)) _ ⟨rfl, _, rfl, fun e => nomatch e⟩
theorem S_one {u : Nat} (e : S [u] = Str.ofString "A") : u = 65 := by
 rw [show Str.ofString "A" = S [65] from by decide +kernel] at e
 injection e with e
 simpa using e
theorem drawPA {ps : PS} {rel : Bool} {qs : List (Int × Int)} {u : Nat} (hdG : d ≠ G) (hu : (u = 77 ∧ ∃ q, qs = [q]) ∨ (Kept ps h s ct kd cl ∧ ((u = 84 ∧ ∃ q, qs = [q]) ∨ (u = 81 ∧ ∃ q q', qs = [q, q']))))
  (hpt : ∀ q B' vs Mc, (∀ z ∈ B, z ∈ B') → DAll B' [.v (.ref x), .d (.bool rel), .d (fr q.1), .d (fr q.2)] vs → MAll B' [(d, AttA (penK h s ct kd cl G))] Mc → FnM w 354 vs 8 64 Mc B' (PoA (Is1 (.d (P2 (mkP rel ps.here q))) [(d, AttA (penK h s ct kd cl G))]) B'))
  (hl : ps.found.length ≤ 10000) (hx : (x, instObj 406 d) ∈ B) (hA : DAll B [.v (.ref x), .d (.str (S [u])), .d (.bool rel), .d (.tuple ((qs.flatMap fun q => [q.1, q.2]).map fr))] vs) (hM : MAll B (penM d G h s ct kd cl ps.found) Mc) :
  FnM w 424 vs 14 120 Mc B (PoA (DrwA d G (ps.to u rel (qs.flatMap fun q => [q.1, q.2]))) B) := by
 obtain ⟨_, v1, v2, v3, rfl, h0, h1, h2, h3⟩ := hA.four
 obtain rfl := h0
 tbr_iter (FnM.ofAE hM (pen_nd hdG) (by rintro _ _ ⟨-, _, rfl, -⟩; rfl) (.cons (x := Str.ofString "pen") (a := .v (.ref x)) rfl (.cons (x := Str.ofString "letter") h1 (.cons (x := Str.ofString "is_relative") h2 (.cons (x := Str.ofString "numbers") h3 .nil)))))
 intro cx K hw hB hd hu' hE hK
 subst hw
 have hx' := hB _ hx
 have hm : u ∉ [76, 72, 86] ∧ ¬ u = 65 ∧ qs.length ≤ 2 := by rcases hu with ⟨rfl, _, rfl⟩ | ⟨-, ⟨rfl, _, rfl⟩ | ⟨rfl, _, _, rfl⟩⟩ <;> exact ⟨by decide, by decide, by simp⟩
 repeat' walk1
 refine ACmp.inS (r := false) (inLHV.trans (decide_eq_false hm.1)) ?_
 repeat' walk1
 refine ANl.new fun P => ?_
 repeat' walk1
 refine ACmp.eqS (r := false) ?e1 ?_
 case e1 => exact beq_eq_false_iff_ne.mpr fun e => hm.2.1 (S_one e)
 repeat' walk1
 refine ASt.forV3 (hE _) (by k_dflt rfl) (by k_dflt rfl) (fun w => by k_is) (fun _ => rfl) rfl ?_
 repeat' walk1
 refine AEv.bi PySem.boot_len (by decide +kernel) (fun w => by k_is) (by k_dflt rfl) rfl (fun _ => rfl) ?_
 repeat' walk1
 have hfl : ((qs.flatMap fun q => [q.1, q.2]).map fr).length = 2 * qs.length := by rw [List.length_map, flat_len]
 refine ACal.lenT (by omega) ?_
 rw [hfl]
 iterate 3 walk1
 refine ⟨_, _, _, qs.length, fun k σ => σ = ⟨[(Str.ofString "begin", .d (.int 0)), (Str.ofString "points", .v (.ref P)), (Str.ofString "pen", .v (.ref x)), (Str.ofString "letter", .d (.str (S [u]))), (Str.ofString "is_relative", .d (.bool rel)), (Str.ofString "numbers", .d (.tuple ((qs.flatMap fun q => [q.1, q.2]).map fr)))], (d, AttA (penK h s ct kd cl G)) :: (G, LstA ps.found) :: [(P, LstA ((qs.take k).map fun q => P2 (mkP rel ps.here q)))]⟩, rfl, ⟨by decide, ?_⟩, rngLen hm.2.2, rfl, ?_, ?_⟩
 ·exact (by decide +kernel : ∀ n : Nat, n ≤ 2 → Builtin.divisionGoesByPylong (((2 * n : Nat) : Int) - 0) 2 = false) _ hm.2.2
 ·rintro own k _ hk hown rfl
  obtain ⟨q, hq⟩ : ∃ q, qs[k]? = some q := ⟨_, List.getElem?_eq_getElem hk⟩
  obtain ⟨g1, g2⟩ := flat_get hq
  have hx2 : (x, instObj 406 d) ∈ (cx.own own cx.s).B := hx'
  refine ASts.cons (ASt.expr ?_ (by k_dflt (intro _; rfl)) (by k_dflt (intro _; rfl)))
  repeat' walk1
  refine AMcl.a2 rfl ?_
  repeat' walk1
  refine ASub.tup (n := 2 * k) (seqIx (by omega) (by omega)) (by rw [List.getElem?_map, g1]; rfl) rfl (decide_eq_true ⟨by omega, by omega⟩) ?_
  repeat' walk1
  refine ASub.tup (n := 2 * k + 1) (seqIx (by omega) (by omega)) (by rw [List.getElem?_map, g2]; rfl) rfl (decide_eq_true ⟨by omega, by omega⟩) ?_
  repeat' walk1
  refine ACal.M1B (c := cx.own own cx.s) (fun B vs Mc hB' hA hM => hpt q B vs Mc (fun z hz => hB' z (hB z hz)) hA hM) (room hd rfl) (roomu hu' rfl) ?_
  repeat' walk1
  refine ACal.a2 (by rw [List.length_map]; have := List.length_take_le k qs; omega) ?_
  repeat' walk1
  exact ⟨[_, _, _, _, _, _], .cons rfl (.cons rfl (.cons rfl (.cons rfl (.cons rfl (.cons rfl .nil))))), by
   show _ = As.mk _ [_, _, (P, LstA ((qs.take (k + 1)).map fun q => P2 (mkP rel ps.here q)))]
   rw [List.take_add_one, hq, List.map_append]; rfl⟩
 ·rintro _ rfl
  rw [List.take_length]
  refine ASts.cut (Y := fun K' => ∀ ps', ps' = ps.to u rel (qs.flatMap fun q => [q.1, q.2]) → ∀ l ct M₂, (ps'.quad = true → ct = .d (P2 ps'.ctl)) → K' ⟨l, penM d G (.d (P2 ps'.here)) (.d (P2 ps'.start)) ct (kdOf ps'.quad) ps'.closed ps'.found ++ M₂⟩) ?_ ?_
  ·intro K' hK'
   replace hK' := hK' _ rfl
   rcases hu with ⟨rfl, q, rfl⟩ | ⟨⟨rfl, rfl, rfl, rfl, hc⟩, ⟨rfl, q, rfl⟩ | ⟨rfl, q, q', rfl⟩⟩
   ·repeat' walk1
    refine ASub.lsm [_, _] 0 rfl (by decide) rfl ?_
    repeat' walk1
    refine ACal.M2B (c := cx) (fun B vs Mc hB hA hM => moveA' hdG hl (hB _ hx') hA hM) (room hd rfl) (roomu hu' rfl) ?_
    repeat' walk1
    exact hK' _ _ [_] fun e => nomatch e
   ·repeat' walk1
    refine ACal.M1B (c := cx) (fun B vs Mc hB hA hM => mctlA' rfl hc (hB _ hx') hA hM) (room hd rfl) (roomu hu' rfl) ?_
    repeat' walk1
    refine ASub.lsm [_, _] 0 rfl (by decide) rfl ?_
    repeat' walk1
    refine ACal.M2B (c := cx) (fun B vs Mc hB hA hM => quadA' hdG (fun _ => rfl) hl (hB _ hx') hA hM) (room hd rfl) (roomu hu' rfl) ?_
    repeat' walk1
    exact hK' _ _ [_] fun _ => rfl
   ·repeat' walk1
    refine ASub.lsm [_, _] 0 rfl (by decide) rfl ?_
    repeat' walk1
    refine ASub.lsm [_, _] 1 rfl (by decide) rfl ?_
    repeat' walk1
    refine ACal.M2B (c := cx) (fun B vs Mc hB hA hM => quadA' hdG (fun _ => rfl) hl (hB _ hx') hA hM) (room hd rfl) (roomu hu' rfl) ?_
    repeat' walk1
    exact hK' _ _ [_] fun _ => rfl
  ·intro ps' e l ct M₂ hc
   refine ASts.drop (M := penM ..) ?_
   subst e
   repeat' walk1
   exact hK .next _ ⟨rfl, _, rfl, hc⟩
end

end
section --Q12
theorem mem4p {a b c d : Addr × Obj} {l : Led} : ∀ q ∈ d :: a :: c :: b :: l, q ∈ a :: b :: c :: d :: l := fun q hq => by
 exact su_at hq (by bits_by_make)
theorem pinitN_fn (w : World) {x dx : Addr} : FnN w 347 [.ref x] 1 8 [(dx, dictOf [] 0)] [(x, instObj 406 dx)] (fun r M' add => r = .none ∧ ∃ o' G H S n k, PenD ⟨.ref H, .ref S, .none, Str.ofString "", false⟩ G o' ∧ M' = [(dx, o')] ∧ add = (G, W.listOf [].toArray 0) :: (H, tupO #[.ref 66, .ref 66] n) :: [(S, tupO #[.ref 66, .ref 66] k)]) := by
 tbr_iter (FnN.of [(Str.ofString "self", .ref x)])
 intro p loose mean mg mb fr gd dp un h₀ L h tk s JD X T F N hJ hn hoff hd hu
 replace N : News h₀ L h ((dx, dictOf [] 0) :: JD) := N
 have hx' := hJ _ (.head _)
 have hDd : ∀ q ∈ JD, q.1 ≠ dx := off1' hoff
 k_steps
 rename Fr _ _ _ _ => F₁
 rename News _ _ _ _ => N₁
 rename_i H _ _ _ _ S _ _ _ _ _ _ _ G _ l1 _
 have hJG := AllLt.lt l1.2.2.2
 obtain ⟨oD, hoD, N₂⟩ : ∃ oD, PenD ⟨.ref H, .ref S, .none, Str.ofString "", false⟩ G oD ∧ News h₀ L _ ((dx, oD) :: (G, W.listOf [].toArray 0) :: (H, tupO #[.ref 66, .ref 66] 0) :: (S, tupO #[.ref 66, .ref 66] 0) :: JD) := ⟨_, PenD.mk, news_mem N₁ mem4p⟩
 refine ⟨_, _, _, [(dx, oD)], _, rfl, F₁, N₂, ⟨rfl, oD, G, H, S, 0, 0, hoD, rfl, rfl⟩, rfl, noTup1 (NoTup.pen hoD), ?_⟩
 refine List.forall_mem_cons.mpr ⟨.inr ⟨?_, NoTup.lst.2⟩, List.forall_mem_cons.mpr ⟨.inl ⟨_, _, rfl⟩, List.forall_mem_cons.mpr ⟨.inl ⟨_, _, rfl⟩, fun _ h => nomatch h⟩⟩⟩
 exact List.forall_mem_cons.mpr ⟨Nat.ne_of_lt l1.2.2.1, fun q hq => Nat.ne_of_lt (hJG q hq)⟩
theorem pen_makeN {w : World} {p : Program} {loose : List Str} {mean : ExcName → Option Value} {mg mb : Str → Option Value} {fr' : Option (List Env)} {gd : Option (List Code)} {dp un : Nat} {h₀ : Heap} {L : Addr} {m : Str → Option Value} {s : Shared} {Q E : Value → Shared → Prop} {JD : Led}
  (hF : Fr h₀ L s.heap m) (hX : (heapK w.params).In h₀) (hT : Top p loose mean mg mb h₀) (hN : News h₀ L s.heap JD) (hd : dp + 6 < recursionLimit) (hu : un + 20 < cLine)
  (ret : ∀ x d o' G H S n k h' tk', PenD ⟨.ref H, .ref S, .none, Str.ofString "", false⟩ G o' → d ≠ G → (∀ q ∈ JD, q.1 < d) → (∀ q ∈ JD, q.1 ≠ G) → x ≠ G → d < x → Fr h₀ L h' m → News h₀ L h' ((d, o') :: (G, W.listOf [].toArray 0) :: (H, tupO #[.ref 66, .ref 66] n) :: (S, tupO #[.ref 66, .ref 66] k) :: (x, instObj 406 d) :: JD) → Q (.ref x) { s with heap := h', toks := tk' }) :
  wpAny (MD w) (At fr' gd dp un) (call (.ref 406) []) Q E s := by
 refine call_cls (fI := 347) hF hX hN (by kernel_rfl) (by kernel_rfl) (by kernel_rfl) fun x dx h' F' N' l1 l2 => ?_
 have N₂ : News h₀ L h' ([(dx, dictOf [] 0)] ++ ((x, instObj 406 dx) :: JD)) := fun q hq => N' q (by
  simp only [List.mem_append, List.mem_cons, List.not_mem_nil, or_false] at hq ⊢
  rcases hq with hq | hq | hq
  ·exact .inr (.inl hq)
  ·exact .inl hq
  ·exact .inr (.inr hq))
 have y1 : (At fr' gd dp un).depth = dp := rfl
 have y2 : (At fr' gd dp un).units = un := rfl
 have hwt : (Code.builtin "type.__call__" ⟨[.ref 406], []⟩).weight ≤ 4 := Nat.le_of_ble_eq_true (by kernel_rfl)
 have hcu : (Code.builtin "type.__call__" ⟨[.ref 406], []⟩).cUnits ≤ 4 := Nat.le_of_ble_eq_true (by kernel_rfl)
 have hoff : Off [(dx, dictOf [] 0)] ((x, instObj 406 dx) :: JD) := off1 (List.forall_mem_cons.mpr ⟨Nat.ne_of_gt l2, fun q hq => Nat.ne_of_lt (l1 q hq)⟩)
 refine pinitN_fn w p loose mean mg mb _ _ _ _ h₀ L m { s with heap := h' } ((x, instObj 406 dx) :: JD) _ F' hX hT N₂ (fun q hq => by rw [List.mem_singleton.mp hq]; exact .head _) (noTup1 NoTup.dic) hoff ?_ ?_ ?_
 ·show (At fr' gd dp un).depth + _ + 1 < recursionLimit
  omega
 ·show (At fr' gd dp un).units + _ + 8 < cLine
  omega
 ·rintro r h₂ tk₂ M' add ⟨rfl, o', G, H, S, n, k, hp, rfl, rfl⟩ hadr hn hap F₂ N₃
  have hG : ∀ q ∈ [(dx, dictOf [] 0)] ++ ((x, instObj 406 dx) :: JD), q.1 ≠ G := by
   rcases hap _ (.head _) with ⟨vs, m, e⟩ | h
   ·exact absurd (congrArg (fun o : Obj => o.cls) e) (by simp)
   ·exact h.1
  exact ⟨rfl, ret x dx o' G H S n k h₂ tk₂ hp (hG _ (.head _)) l1 (fun q hq => hG q (.tail _ (.tail _ hq))) (hG (x, instObj 406 dx) (.tail _ (.head _))) l2 F₂ N₃⟩

end
section --LB4
noncomputable def ipt (p : Int × Int) : Dat := .tuple [.int p.1, .int p.2]
theorem ipt_in {J : Led} {a : Addr} {t u : Tok} {n : Nat} {p : Int × Int} (h : (a, tupO #[.int p.1 t, .int p.2 u] n) ∈ J) : DatIn J (.ref a) (ipt p) := .tuple (vs := [_, _]) h (.cons (.int _ _) (.cons (.int _ _) .nil))
set_option genInjectivity false in
structure LPV where
 here : Value
 start : Value
 control : Value
 closed : Bool
noncomputable def LPenD (w : World) (v : LPV) (G : Addr) (o : Obj) : Prop := o.IsDictOf (PySem.strKind PySem.Challenge.rw_on0248_01.prog w) [(Str.ofString "here", v.here), (Str.ofString "start", v.start), (Str.ofString "control", v.control), (Str.ofString "closed", .bool v.closed), (Str.ofString "found", .ref G)]
theorem NoTup.isDict {w : World} {d : Addr} {o : Obj} {kvs : List (Str × Value)} (h : o.IsDictOf (PySem.strKind PySem.Challenge.rw_on0248_01.prog w) kvs) : NoTup (d, o) := by
 obtain ⟨es, ep, hx, hd, -⟩ := h
 refine ⟨.inl ?_, .inl fun vs e => ?_⟩
 ·show o.cls ≠ _
  rw [hx.1]
  simp
 ·have e : o.data = .fields vs := e
  rw [hd] at e; cases e
theorem lawpen_fn (w : World) : FnN w 471 [] 1 16 [] [] (fun r M' add => M' = [] ∧ ∃ d G H S o n k t1 t2 t3 t4, r = .ref d ∧ LPenD w ⟨.ref H, .ref S, .none, false⟩ G o ∧ d ≠ G ∧ add = (d, o) :: (G, W.listOf [].toArray 0) :: (H, tupO #[.int 0 t1, .int 0 t2] n) :: [(S, tupO #[.int 0 t3, .int 0 t4] k)]) := by
 tbr_iter (FnN.of [])
 intro p loose mean mg mb fr gd dp un h₀ L h tk s JD X T F N hJ hn hoff hd hu
 replace N : News h₀ L h JD := N
 k_steps
 rename Fr _ _ _ _ => F₁
 rename News _ _ _ _ => N₁
 rename Obj.IsDictOf _ _ _ => hD
 rename_i d _ _ ld _ _ H _ lH S _ lS G _ _ _ lG _ o
 have N₂ := news_mem N₁ mem4p
 refine ⟨_, _, _, [], [_, _, _, _], rfl, F₁, N₂, ⟨rfl, d, G, H, S, o, _, _, _, _, _, _, rfl, hD, Nat.ne_of_lt lG.2.2.1, rfl⟩, rfl, (fun _ h => nomatch h), ?_⟩
 ·refine List.forall_mem_cons.mpr ⟨.inr ⟨fun q hq => Nat.ne_of_lt (ld q hq), (NoTup.isDict (d := d) hD).2⟩, List.forall_mem_cons.mpr ⟨.inr ⟨fun q hq => Nat.ne_of_lt (AllLt.lt lG.2.2.2 q hq), NoTup.lst.2⟩, List.forall_mem_cons.mpr ⟨.inl ⟨_, _, rfl⟩, List.forall_mem_cons.mpr ⟨.inl ⟨_, _, rfl⟩, fun _ h => nomatch h⟩⟩⟩⟩

end
section --AG
@[reducible] noncomputable def I2 (p : Int × Int) : Dat := .tuple [.int p.1, .int p.2]
@[reducible] noncomputable def D2 (p : Int × Int) : Dat := .tuple [.tuple [.int p.1, .int 1], .tuple [.int p.2, .int 1]]
theorem spotA {w : World} {p : Int × Int} (B : Led) (vs : List Value) (h : DAll B [.d (I2 p)] vs) : FnP w 478 vs 1 16 B (fun rv add => Den (add ++ B) (.d (D2 p)) rv) := by
 obtain ⟨v, rfl, h1⟩ := h.one
 tbr_iter (FnP.ofA1 (.cons (x := Str.ofString "point") h1 .nil))
 intro c K hw hB hd hu hK
 repeat' walk1
 exact hK _ _ rfl

end
section --AH
@[reducible] noncomputable def lpk (h s ct : Dat) (cl : Bool) (G : Addr) : List (Str × AV) := [(Str.ofString "here", .d h), (Str.ofString "start", .d s), (Str.ofString "control", .d ct), (Str.ofString "closed", .d (.bool cl)), (Str.ofString "found", .v (.ref G))]
@[reducible] noncomputable def lpm (w : World) (d G : Addr) (h s ct : Dat) (cl : Bool) (fd : List Dat) : List (Addr × AO) := [(d, DicA w (lpk h s ct cl G)), (G, LstA fd)]
theorem lpm_nd {w : World} {d G : Addr} {h s ct : Dat} {cl : Bool} {fd : List Dat} (n : d ≠ G) : ((lpm w d G h s ct cl fd).map (·.1)).Nodup := by simp [n]
theorem lput_a (w : World) {d G : Addr} {h s ct e : Dat} {cl b : Bool} {fd rest : List Dat} {kd : Str} {hp : Int × Int} (hdG : d ≠ G) (hk : (kd != Str.ofString "move") = b) (hh : cl = true → b = true → h = I2 hp) (hl : fd.length ≤ 10000)
  {B : Led} {vs : List Value} {Mc : Led} (hA : DAll B [.v (.ref d), .d (.tuple (.str kd :: rest)), .d e] vs) (hM : MAll B (lpm w d G h s ct cl fd) Mc) :
  FnM w 485 vs 3 32 Mc B (PoA (Is1 (.d .none) (lpm w d G e s .none false ((if b then (if cl then fd ++ [.tuple [.str (Str.ofString "move"), D2 hp]] else fd) else fd) ++ [.tuple (.str kd :: rest)]))) B) := by
 obtain ⟨_, v1, v2, rfl, h0, h1, h2⟩ := hA.three
 obtain rfl := h0
 tbr_iter (FnM.ofA1 hM (lpm_nd hdG) (by rfl) (.cons (x := Str.ofString "pen") (a := .v (.ref d)) rfl (.cons (x := Str.ofString "segment") h1 (.cons (x := Str.ofString "end") h2 .nil))))
 intro c K hw hB hd hu hK
 subst hw
 refine ASts.cut (Y := fun K' => K' ⟨[(Str.ofString "pen", .v (.ref d)), (Str.ofString "segment", .d (.tuple (.str kd :: rest))), (Str.ofString "end", .d e)], lpm c.w d G h s ct cl (if b then (if cl then fd ++ [.tuple [.str (Str.ofString "move"), D2 hp]] else fd) else fd)⟩) ?_ ?_
 ·intro K' hK'
  repeat' walk1
  cases cl
  ·repeat' walk1
   cases b <;> exact hK'
  ·iterate 5 walk1
   refine ASub.hd rfl ?_
   walk1
   refine ACmp.neS hk ?_
   walk1
   cases b
   ·repeat' walk1
    exact hK'
   ·obtain rfl := hh rfl rfl
    have hl' := Nat.le_succ_of_le hl
    repeat' walk1
    refine ACal.P spotA (room hd rfl) (roomu hu rfl) ?_
    repeat' walk1
    exact hK'
 ·have hl' : (if b then (if cl then fd ++ [.tuple [.str (Str.ofString "move"), D2 hp]] else fd) else fd).length ≤ 10001 := by
   split
   ·split
    ·rw [List.length_append]; exact Nat.succ_le_succ hl
    ·exact Nat.le_succ_of_le hl
   ·exact Nat.le_succ_of_le hl
  repeat' walk1
  exact hK _ _ rfl rfl

end
section --LZ
/- plain facts of the law side -/
theorem upS' {c u : Nat} (h : c < 128) (e : u = if 97 ≤ c ∧ c ≤ 122 then c - 32 else c) : Txt.upper (S [c]) = S [u] := by rw [e]; exact KOpn.upper_one h
theorem words {c : Nat} (h : c ∈ lets) : (Txt.upper (S [c]) = S [72] ∧ (c = 72 ∨ c = 104)) ∨ (Txt.upper (S [c]) = S [86] ∧ (c = 86 ∨ c = 118)) ∨ (Txt.upper (S [c]) = S [77] ∧ (c = 77 ∨ c = 109)) ∨ (Txt.upper (S [c]) = S [76] ∧ (c = 76 ∨ c = 108)) ∨ (Txt.upper (S [c]) = S [81] ∧ (c = 81 ∨ c = 113)) ∨ (Txt.upper (S [c]) = S [84] ∧ (c = 84 ∨ c = 116)) := by
 simp only [lets, List.mem_cons, List.not_mem_nil, or_false] at h
 rcases h with rfl | rfl | rfl | rfl | rfl | rfl | rfl | rfl | rfl | rfl | rfl | rfl
 ·exact .inr (.inr (.inl ⟨upS' (by decide) rfl, .inl rfl⟩))
 ·exact .inr (.inr (.inl ⟨upS' (by decide) rfl, .inr rfl⟩))
 ·exact .inr (.inr (.inr (.inl ⟨upS' (by decide) rfl, .inl rfl⟩)))
 ·exact .inr (.inr (.inr (.inl ⟨upS' (by decide) rfl, .inr rfl⟩)))
 ·exact .inr (.inr (.inr (.inr (.inr ⟨upS' (by decide) rfl, .inl rfl⟩))))
 ·exact .inr (.inr (.inr (.inr (.inr ⟨upS' (by decide) rfl, .inr rfl⟩))))
 ·exact .inl ⟨upS' (by decide) rfl, .inl rfl⟩
 ·exact .inl ⟨upS' (by decide) rfl, .inr rfl⟩
 ·exact .inr (.inl ⟨upS' (by decide) rfl, .inl rfl⟩)
 ·exact .inr (.inl ⟨upS' (by decide) rfl, .inr rfl⟩)
 ·exact .inr (.inr (.inr (.inr (.inl ⟨upS' (by decide) rfl, .inl rfl⟩))))
 ·exact .inr (.inr (.inr (.inr (.inl ⟨upS' (by decide) rfl, .inr rfl⟩))))
theorem ctl_two {b : Bool} {h c : Int × Int} : ctlOf b h c = (2 * h.1 - (if b then c else h).1, 2 * h.2 - (if b then c else h).2) := by
 unfold ctlOf
 cases b
 ·rw [if_neg (by decide), if_neg (by decide)]
  exact Prod.ext (by show h.1 = 2 * h.1 - h.1; omega) (by show h.2 = 2 * h.2 - h.2; omega)
 ·rw [if_pos rfl, if_pos rfl]
  exact Prod.ext (by show h.1 + h.1 - c.1 = 2 * h.1 - c.1; omega) (by show h.2 + h.2 - c.2 = 2 * h.2 - c.2; omega)
theorem cells_two {n n' : Str} {c c' : Addr} {g : Str → Option Value} {cells : Led} (h : CellsAre g [(n, c), (n', c')] cells) : ∃ o o', cells = [(c, o), (c', o')] ∧ o.data = .cell (g n) ∧ o'.data = .cell (g n') := by
 cases h with
 | cons h r =>
  cases r with
  | cons h' r => cases r; exact ⟨_, _, rfl, h, h'⟩
theorem lit_sp (c : Nat) : Str.ofString " " ++ S [c] = S [32, c] := by
 rw [show Str.ofString " " = S [32] from by decide +kernel]
 rfl
theorem many4 {e : Nat} (h : e ∈ lets) : 0 < manyN e ∧ manyN e ≤ 4 := (by decide : ∀ e ∈ lets, 0 < manyN e ∧ manyN e ≤ 4) e h


end
section --AI
noncomputable def ctlD (ps : PS) : Dat := if ps.quad then I2 ps.ctl else .none
@[reducible] noncomputable def lpP (w : World) (d G : Addr) (ps : PS) : List (Addr × AO) := lpm w d G (I2 ps.here) (I2 ps.start) (ctlD ps) ps.closed ps.found
theorem lclose_a (w : World) {d G : Addr} {ps : PS} (hdG : d ≠ G) (hl : ps.found.length ≤ 10000) {B : Led} {vs : List Value} {Mc : Led} (hA : DAll B [.v (.ref d)] vs) (hM : MAll B (lpP w d G ps) Mc) :
  FnM w 492 vs 3 32 Mc B (PoA (Is1 (.d .none) (lpP w d G ps.close)) B) := by
 obtain ⟨_, rfl, h0⟩ := hA.one
 obtain rfl := h0
 tbr_iter (FnM.ofA1 hM (lpm_nd hdG) (by rfl) (.cons (x := Str.ofString "pen") (a := .v (.ref d)) rfl .nil))
 intro c K hw hB hd hu hK
 subst hw
 refine ASts.cut (Y := fun K' => K' ⟨[(Str.ofString "pen", .v (.ref d))], lpm c.w d G (I2 ps.here) (I2 ps.start) (ctlD ps) ps.closed (if ps.closed then ps.found ++ [mvD ps.here] else ps.found)⟩) ?_ ?_
 ·intro K' hK'
  have hl' := Nat.le_succ_of_le hl
  repeat' walk1
  revert hK'
  generalize ps.closed = cl
  intro hK'
  cases cl
  ·repeat' walk1
   exact hK'
  ·repeat' walk1
   refine ACal.P (spotA (p := ps.here)) (room hd rfl) (roomu hu rfl) ?_
   repeat' walk1
   exact hK'
 ·have hl' : (if ps.closed then ps.found ++ [mvD ps.here] else ps.found).length ≤ 10001 := by
   split
   ·rw [List.length_append]; exact Nat.succ_le_succ hl
   ·exact Nat.le_succ_of_le hl
  repeat' walk1
  exact hK _ _ rfl rfl
theorem ctl_cases (ps : PS) : (ctlD ps = .none ∧ (if ps.quad then ps.ctl else ps.here) = ps.here) ∨ (ctlD ps = I2 ps.ctl ∧ (if ps.quad then ps.ctl else ps.here) = ps.ctl) := by
 unfold ctlD
 cases ps.quad
 ·exact .inl ⟨rfl, rfl⟩
 ·exact .inr ⟨rfl, rfl⟩
theorem len1 {xs : List Int} (h : xs.length = 1) : ∃ a, xs = [a] := match xs, h with
 | [a], _ => ⟨a, rfl⟩
theorem len2 {xs : List Int} (h : xs.length = 2) : ∃ a b, xs = [a, b] := match xs, h with
 | [a, b], _ => ⟨a, b, rfl⟩
theorem len4 {xs : List Int} (h : xs.length = 4) : ∃ a b e f, xs = [a, b, e, f] := match xs, h with
 | [a, b, e, f], _ => ⟨a, b, e, f, rfl⟩
theorem ldraw_a (w : World) {d G : Addr} {ps : PS} {c : Nat} {xs : List Int} (hdG : d ≠ G) (hc : c ∈ lets) (hxs : xs.length = manyN c) (hl : ps.found.length ≤ 10000)
  {B : Led} {vs : List Value} {Mc : Led} (hA : DAll B [.v (.ref d), .d (.str (S [c])), .d (.list (xs.map .int))] vs) (hM : MAll B (lpP w d G ps) Mc) :
  FnM w 499 vs 5 64 Mc B (PoA (Is1 (.d .none) (lpP w d G (ps.step (c, xs)))) B) := by
 obtain ⟨_, v1, v2, rfl, h0, h1, h2⟩ := hA.three
 obtain rfl := h0
 have hfit : Builtin.Str.tooLong (Txt.upper (S [c])).length = false := fit_upper (by rw [S_len]; exact (by decide : 1 ≤ 5592405))
 have hlow := islow hc
 tbr_iter (FnM.ofA1 hM (lpm_nd hdG) (by rfl) (.cons (x := Str.ofString "pen") (a := .v (.ref d)) rfl (.cons (x := Str.ofString "letter") h1 (.cons (x := Str.ofString "numbers") h2 .nil))))
 intro cx K hw hB hd hu hK
 subst hw
 iterate 16 walk1
 refine AEv.cut (Y := fun K' => K' (.d (I2 (near c ps))) ⟨[(Str.ofString "y", .d (.int ps.here.2)), (Str.ofString "x", .d (.int ps.here.1)), (Str.ofString "pen", .v (.ref d)), (Str.ofString "letter", .d (.str (S [c]))), (Str.ofString "numbers", .d (.list (xs.map .int)))], lpP cx.w d G ps⟩) ?_ ?_
 ·intro K' hK'
  iterate 5 walk1
  refine ACal.islower hlow ?_
  walk1
  by_cases h97 : 97 ≤ c
  ·rw [show near c ps = ps.here from if_pos h97] at hK'
   refine ayes h97 ?_
   repeat' walk1
   exact hK'
  ·rw [show near c ps = (0, 0) from if_neg h97] at hK'
   refine ano h97 ?_
   repeat' walk1
   exact hK'
 repeat' walk1
 rcases words hc with ⟨eU, hcc⟩ | ⟨eU, hcc⟩ | ⟨eU, hcc⟩ | ⟨eU, hcc⟩ | ⟨eU, hcc⟩ | ⟨eU, hcc⟩
 ·obtain ⟨a, rfl⟩ := len1 (xs := xs) (by rcases hcc with rfl | rfl <;> exact hxs)
  have hstep : ps.step (c, [a]) = ps.line ((near c ps).1 + a, ps.here.2) := by rcases hcc with rfl | rfl <;> rfl
  refine ACal.upper eU hfit ?_
  repeat' walk1
  refine ACal.P (spotA (p := ((near c ps).1 + a, ps.here.2))) (room hd rfl) (roomu hu rfl) ?_
  repeat' walk1
  refine ACal.M2 (fun B vs Mc hA hM => lput_a cx.w (rest := [D2 ((near c ps).1 + a, ps.here.2)]) (e := I2 ((near c ps).1 + a, ps.here.2)) (b := true) (hp := ps.here) hdG (by decide +kernel) (fun _ _ => rfl) hl hA hM) (room hd rfl) (roomu hu rfl) ?_
  repeat' walk1
  exact hK _ _ rfl (by rw [hstep]; rfl)
 ·obtain ⟨a, rfl⟩ := len1 (xs := xs) (by rcases hcc with rfl | rfl <;> exact hxs)
  have hstep : ps.step (c, [a]) = ps.line (ps.here.1, (near c ps).2 + a) := by rcases hcc with rfl | rfl <;> rfl
  refine ACal.upper eU hfit ?_
  repeat' walk1
  refine ACal.P (spotA (p := (ps.here.1, (near c ps).2 + a))) (room hd rfl) (roomu hu rfl) ?_
  repeat' walk1
  refine ACal.M2 (fun B vs Mc hA hM => lput_a cx.w (rest := [D2 (ps.here.1, (near c ps).2 + a)]) (e := I2 (ps.here.1, (near c ps).2 + a)) (b := true) (hp := ps.here) hdG (by decide +kernel) (fun _ _ => rfl) hl hA hM) (room hd rfl) (roomu hu rfl) ?_
  repeat' walk1
  exact hK _ _ rfl (by rw [hstep]; rfl)
 ·obtain ⟨a, b, rfl⟩ := len2 (xs := xs) (by rcases hcc with rfl | rfl <;> exact hxs)
  have hstep : ps.step (c, [a, b]) = ps.move ((near c ps).1 + a, (near c ps).2 + b) := by rcases hcc with rfl | rfl <;> rfl
  refine ACal.upper eU hfit ?_
  repeat' walk1
  refine ACal.P (spotA (p := ((near c ps).1 + a, (near c ps).2 + b))) (room hd rfl) (roomu hu rfl) ?_
  repeat' walk1
  refine ACal.M2 (fun B vs Mc hA hM => lput_a cx.w (rest := [D2 ((near c ps).1 + a, (near c ps).2 + b)]) (e := I2 ((near c ps).1 + a, (near c ps).2 + b)) (b := false) (hp := ps.here) hdG (by decide +kernel) (fun _ h => nomatch h) hl hA hM) (room hd rfl) (roomu hu rfl) ?_
  repeat' walk1
  exact hK _ _ rfl (by rw [hstep]; rfl)
 ·obtain ⟨a, b, rfl⟩ := len2 (xs := xs) (by rcases hcc with rfl | rfl <;> exact hxs)
  have hstep : ps.step (c, [a, b]) = ps.line ((near c ps).1 + a, (near c ps).2 + b) := by rcases hcc with rfl | rfl <;> rfl
  refine ACal.upper eU hfit ?_
  repeat' walk1
  refine ACal.P (spotA (p := ((near c ps).1 + a, (near c ps).2 + b))) (room hd rfl) (roomu hu rfl) ?_
  repeat' walk1
  refine ACal.M2 (fun B vs Mc hA hM => lput_a cx.w (rest := [D2 ((near c ps).1 + a, (near c ps).2 + b)]) (e := I2 ((near c ps).1 + a, (near c ps).2 + b)) (b := true) (hp := ps.here) hdG (by decide +kernel) (fun _ _ => rfl) hl hA hM) (room hd rfl) (roomu hu rfl) ?_
  repeat' walk1
  exact hK _ _ rfl (by rw [hstep]; rfl)
 ·obtain ⟨a, b, e, f, rfl⟩ := len4 (xs := xs) (by rcases hcc with rfl | rfl <;> exact hxs)
  have hstep : ps.step (c, [a, b, e, f]) = ps.quadTo ((near c ps).1 + a, (near c ps).2 + b) ((near c ps).1 + e, (near c ps).2 + f) := by rcases hcc with rfl | rfl <;> rfl
  refine ACal.upper eU hfit ?_
  repeat' walk1
  refine ACal.P (spotA (p := ((near c ps).1 + a, (near c ps).2 + b))) (room hd rfl) (roomu hu rfl) ?_
  repeat' walk1
  refine ACal.P (spotA (p := ((near c ps).1 + e, (near c ps).2 + f))) (room hd rfl) (roomu hu rfl) ?_
  repeat' walk1
  refine ACal.M2 (fun B vs Mc hA hM => lput_a cx.w (rest := [D2 ((near c ps).1 + a, (near c ps).2 + b), D2 ((near c ps).1 + e, (near c ps).2 + f)]) (e := I2 ((near c ps).1 + e, (near c ps).2 + f)) (b := true) (hp := ps.here) hdG (by decide +kernel) (fun _ _ => rfl) hl hA hM) (room hd rfl) (roomu hu rfl) ?_
  repeat' walk1
  exact hK _ _ rfl (by rw [hstep]; rfl)
 ·obtain ⟨a, b, rfl⟩ := len2 (xs := xs) (by rcases hcc with rfl | rfl <;> exact hxs)
  have hstep : ps.step (c, [a, b]) = ps.quadTo (ctlOf ps.quad ps.here ps.ctl) ((near c ps).1 + a, (near c ps).2 + b) := by rcases hcc with rfl | rfl <;> rfl
  refine ACal.upper eU hfit ?_
  rw [ctl_two] at hstep
  iterate 92 walk1
  refine AEv.cut (Y := fun K' => K' (.d (I2 (if ps.quad then ps.ctl else ps.here))) ⟨[(Str.ofString "control", .d (I2 ((near c ps).1 + a, (near c ps).2 + b))), (Str.ofString "end", .d (I2 ((near c ps).1 + a, (near c ps).2 + b))), (Str.ofString "word", .d (.str (S [84]))), (Str.ofString "near", .d (I2 (near c ps))), (Str.ofString "y", .d (.int ps.here.2)), (Str.ofString "x", .d (.int ps.here.1)), (Str.ofString "pen", .v (.ref d)), (Str.ofString "letter", .d (.str (S [c]))), (Str.ofString "numbers", .d (.list ([a, b].map .int)))], lpm cx.w d G (I2 ps.here) (I2 ps.start) (ctlD ps) ps.closed ps.found⟩) ?_ ?_
  ·intro K' hK'
   iterate 7 walk1
   rcases ctl_cases ps with ⟨h1, h2⟩ | ⟨h1, h2⟩
   ·rw [h2] at hK'
    rw [h1] at hK' ⊢
    repeat' walk1
    exact hK'
   ·rw [h2] at hK'
    rw [h1] at hK' ⊢
    repeat' walk1
    exact hK'
  ·repeat' walk1
   refine ACal.P (spotA (p := (2 * ps.here.1 - (if ps.quad then ps.ctl else ps.here).1, 2 * ps.here.2 - (if ps.quad then ps.ctl else ps.here).2))) (room hd rfl) (roomu hu rfl) ?_
   repeat' walk1
   refine ACal.P (spotA (p := ((near c ps).1 + a, (near c ps).2 + b))) (room hd rfl) (roomu hu rfl) ?_
   repeat' walk1
   refine ACal.M2 (fun B vs Mc hA hM => lput_a cx.w (rest := [D2 (2 * ps.here.1 - (if ps.quad then ps.ctl else ps.here).1, 2 * ps.here.2 - (if ps.quad then ps.ctl else ps.here).2), D2 ((near c ps).1 + a, (near c ps).2 + b)]) (e := I2 ((near c ps).1 + a, (near c ps).2 + b)) (b := true) (hp := ps.here) hdG (by decide +kernel) (fun _ _ => rfl) hl hA hM) (room hd rfl) (roomu hu rfl) ?_
   repeat' walk1
   exact hK _ _ rfl (by rw [hstep]; rfl)

end
section --AJ
noncomputable def SrcA : AO where
 p _ o := SrcO o
 mono _ h := h
 nt h := h.no
noncomputable def TakR (a : Addr) (k : Int) (r : AV) (N' : List (Addr × AO)) : Prop := ∃ i, r = .d (.int i) ∧ 0 ≤ i ∧ i < k ∧ N' = [(a, SrcA)]
theorem takeA {w : World} {a : Addr} {k : Int} (hk : 0 < k) (hk2 : k ≤ 64) (B : Led) (vs : List Value) (Mc : Led) (hA : DAll B [.v (.ref a), .d (.int k)] vs) (hM : MAll B [(a, SrcA)] Mc) : FnN w 452 vs 1 16 Mc B (PoA (TakR a k) B) := by
 obtain ⟨_, v, rfl, h0, h1⟩ := hA.two
 obtain rfl := h0
 obtain ⟨t, rfl⟩ := den_int h1
 obtain ⟨o, rfl, hs⟩ := ms1 hM
 refine FnN.imp (take_fn w hs hk hk2) (fun _ h => nomatch h) fun r M' add hp => ?_
 obtain ⟨⟨i, u, rfl, h0, h1⟩, ⟨o', hs', rfl⟩, rfl⟩ := hp
 exact ⟨.d (.int i), [(a, SrcA)], ⟨i, rfl, h0, h1, rfl⟩, .int _ _, .cons hs' .nil⟩

end
section --AR
theorem datAll_mem {B : Led} {vs : List Value} {ds : List Dat} (h : DatAll B vs ds) {v : Value} (hv : v ∈ vs) : ∃ d ∈ ds, DatIn B v d := by
 induction ds generalizing vs with
 | nil => cases h; cases hv
 | cons d ds ih =>
  cases h with
  | cons h t =>
   rcases List.mem_cons.mp hv with rfl | hv
   ·exact ⟨_, .head _, h⟩
   ·obtain ⟨d, hd, k⟩ := ih t hv
    exact ⟨d, .tail _ hd, k⟩
noncomputable def OneR (a : Addr) (ds : List Dat) (r : AV) (N' : List (Addr × AO)) : Prop := ∃ d ∈ ds, r = .d d ∧ N' = [(a, SrcA)]
theorem oneA {w : World} {a : Addr} {ds : List Dat} (h0 : ds ≠ []) (hl : ds.length ≤ 64) (B : Led) (vs : List Value) (Mc : Led) (hA : DAll B [.v (.ref a), .d (.list ds)] vs) (hM : MAll B [(a, SrcA)] Mc) : FnN w 459 vs 3 32 Mc B (PoA (OneR a ds) B) := by
 obtain ⟨_, v, rfl, h0', h1⟩ := hA.two
 obtain rfl := h0'
 obtain ⟨T, us, n, rfl, hT, hus⟩ := den_lst h1
 obtain ⟨o, rfl, hs⟩ := ms1 hM
 refine FnN.imp (one_fn w hs (vs := us) (n := n) ?_ ?_) (fun q hq => by rw [List.mem_singleton.mp hq]; exact hT) fun r M' add hp => ?_
 ·rintro rfl
  exact h0 (List.eq_nil_of_length_eq_zero hus.length.symm)
 ·rw [hus.length]; exact hl
 ·obtain ⟨hr, ⟨o', hs', rfl⟩, rfl⟩ := hp
  obtain ⟨d, hd, hdr⟩ := datAll_mem hus hr
  exact ⟨.d d, [(a, SrcA)], ⟨d, hd, rfl, rfl⟩, hdr, .cons hs' .nil⟩
noncomputable def GrpA (a : Addr) (c : Nat) (r : AV) (N' : List (Addr × AO)) : Prop := ∃ xs : List Int, r = .d (.list (xs.map .int)) ∧ xs.length = manyN c ∧ (∀ x ∈ xs, x ∈ vals5) ∧ N' = [(a, SrcA)]
theorem groupA {w : World} {a : Addr} {c : Nat} (hc : c ∈ lets) (B : Led) (vs : List Value) (Mc : Led) (hA : DAll B [.v (.ref a), .d (.str (S [c]))] vs) (hM : MAll B [(a, SrcA)] Mc) : FnN w 464 vs 6 80 Mc B (PoA (GrpA a c) B) := by
 obtain ⟨_, v, rfl, h0', h1⟩ := hA.two
 obtain rfl := h0'
 obtain ⟨t, rfl⟩ := den_str h1
 obtain ⟨o, rfl, hs⟩ := ms1 hM
 refine FnN.imp (group_fn2 w hs hc) (fun _ h => nomatch h) fun r M' add hp => ?_
 obtain ⟨g, nvs, xs, o', rfl, rfl, hd, hl, hv, hs', rfl⟩ := hp
 exact ⟨_, _, ⟨xs, rfl, hl, hv, rfl⟩, DatIn.list (.head _) (hd.mono fun _ h => absurd h List.not_mem_nil), .cons hs' .nil⟩

end
theorem rst71 {M : Model} {A : Around} {env : Env} {Q : Flow → Shared → Prop} {E : Value → Shared → Prop} {s : Shared} (h : Q .next s) : wpAny M A (execs [] env) Q E s := by
 walk1
 exact h
section --AT
local macro_rules | `(tactic| walk_at "AEv") => `(tactic| ((with_reducible first | refine' AEv.cel0 ?h1 ?h2 ?_ | refine' AEv.cel1 ?h1 ?h2 ?_); (case h1 => assumption); (case h2 => k_dflt rfl)))
theorem Cs.rot {c : Cx} {D : List AV} {l : List (Str × AV)} {P M₂ : List (Addr × AO)} {h : Heap} {m : Str → Option Value} {N Mc : Led} {ds : List Value} (X : Cs c D ⟨l, P ++ M₂⟩ h m N Mc ds) : ∃ Mc', Cs c D ⟨l, M₂ ++ P⟩ h m N Mc' ds := by
 obtain ⟨s₁, s₂, rfl, h1, h2⟩ := X.M.split
 refine ⟨s₂ ++ s₁, X.F, X.P, fun z hz => X.W z ?_, ⟨fun q hq => X.S.nt q ?_, ?_, fun q hq e => X.S.off q hq ?_, X.S.ok⟩, h2.app h1, X.D⟩
 ·exact su_at hz (by unfold Cx.all; bits_by_make)
 ·exact List.mem_append.mpr (List.mem_append.mp hq).symm
 ·have := X.S.nd
  rw [List.map_append] at this ⊢
  exact (List.Perm.nodup_iff List.perm_append_comm).mp this
 ·rw [List.map_append] at e ⊢
  exact List.mem_append.mpr (List.mem_append.mp e).symm
theorem AOp.rot {x : List Value → Sem Value} {as : List AV} {c : Cx} {D : List AV} {l : List (Str × AV)} {K : AV → As → Prop} (P : List (Addr × AO)) {M₂ : List (Addr × AO)} (H : AOp x as c D ⟨l, M₂ ++ P⟩ (fun r σ' => ∃ M₂', σ'.M = M₂' ++ P ∧ K r ⟨σ'.l, P ++ M₂'⟩)) : AOp x as c D ⟨l, P ++ M₂⟩ K := fun Q q h m N Mc ds vs t X y => by
 obtain ⟨Mc', X'⟩ := X.rot
 refine H Q (fun a σ' k h m N Mc ds v t X y => ?_) h m N Mc' ds vs t X' y
 obtain ⟨M₂', e, k⟩ := k
 obtain ⟨l', M'⟩ := σ'
 obtain rfl : M' = M₂' ++ P := e
 obtain ⟨Mc'', X''⟩ := X.rot
 exact q _ _ k h m N Mc'' ds v t X'' y
section
variable {c : Cx} {D : List AV} {l : List (Str × AV)} {as : List AV} {K : AV → As → Prop} {fa : Addr} {dep uni : Nat} {p1 p2 p3 q1 q2 q1' q2' : Addr × AO} {M : List (Addr × AO)}
theorem ACal.M2p3 {r : AV} (ct : ∀ B vs Mc, DAll B as vs → MAll B [q1, q2] Mc → FnM c.w fa vs dep uni Mc B (PoA (Is1 r [q1', q2']) B)) (hd : c.dp + dep < recursionLimit) (hu : c.un + uni < cLine)
  (H : K r ⟨l, p1 :: p2 :: p3 :: q1' :: q2' :: M⟩) : ACal (.ref fa) as c D ⟨l, p1 :: p2 :: p3 :: q1 :: q2 :: M⟩ K :=
 AOp.rot [p1, p2, p3] (M₂ := q1 :: q2 :: M) (ACal.M2 ct hd hu ⟨q1' :: q2' :: M, rfl, H⟩)
end
theorem spl (c : Nat) : (Str.ofString " ").length + (S [c]).length ≤ 16777216 := by
 rw [S_len, show (Str.ofString " ").length = 1 from by decide +kernel]
 exact (by decide : 1 + 1 ≤ 16777216)
theorem inZ {c : Nat} (h : c ∈ [90, 122]) : decide (c ∈ (Str.ofString "Zz").cps.toList) = true := by
 rw [show (Str.ofString "Zz").cps.toList = [90, 122] from by decide +kernel]
 exact decide_eq_true h
noncomputable def ComR (w : World) (a d G : Addr) (ps : PS) (c : Nat) (r : AV) (N' : List (Addr × AO)) : Prop := ∃ txt cmds, r = .d (.str (S txt)) ∧ CmdT c txt cmds ∧ N' = (a, SrcA) :: lpP w d G (cmds.foldl PS.step ps)
@[reducible] noncomputable def comC (a : Addr) (u : Option AV) (L : Addr) : List (Addr × AO) := [(L + 2, CelA u), (L + 1, CelA (some (.v (.ref a))))]
theorem commA_close {w : World} {a d G : Addr} {ps : PS} {c : Nat} (hdG : d ≠ G) (had : a ≠ d) (haG : a ≠ G) (hl : ps.found.length ≤ 5000) (hc : c ∈ [90, 122]) (B : Led) (vs : List Value) (Mc : Led) (hA : DAll B [.v (.ref a), .v (.ref d), .d (.str (S [c]))] vs) (hM : MAll B ((a, SrcA) :: lpP w d G ps) Mc) :
  FnN w 504 vs 12 200 Mc B (PoA (ComR w a d G ps c) B) := by
 obtain ⟨_, _, v, rfl, h0, h1, h2⟩ := hA.three
 obtain rfl := h0
 obtain rfl := h1
 obtain ⟨t, rfl⟩ := den_str h2
 k_dflt (refine' (FnN.ofCA (lA := [(Str.ofString "letter", .d (.str (S [c]))), (Str.ofString "pen", .v (.ref d))]) (bl := [(Str.ofString "letter", .str (S [c]) t), (Str.ofString "pen", .ref d)]) (binds := [(Str.ofString "source", .ref a), (Str.ofString "pen", .ref d), (Str.ofString "letter", .str (S [c]) t)]) (comC a none) hM (by simp [hdG, had, haG]) (fun r N' h => by obtain ⟨_, _, -, -, rfl⟩ := h; rfl) (.cons h2 (.cons rfl .nil)) (fun L => by simp) (fun L => by simp)) ?ho ?hcd ?hb ?hl ?hd ?hbl ?hcel ?h ?hnd ?c2 ?c3 ?c4)
 case ho => k_is
 case hcd => k_is
 case hb => first | exact fun _ _ => BindsTo.of_eq rfl | exact fun _ hX => BindsTo.of_defaults rfl (hX _ _ (by k_is)) rfl rfl rfl
 case hl => exact fun n => kinds_of (by repeat' (first | exact trivial | exact And.intro (.inl rfl) trivial | exact And.intro (.inr ⟨rfl, rfl⟩) trivial | refine And.intro (.inl rfl) ?_ | refine And.intro (.inr ⟨rfl, rfl⟩) ?_))
 case hd => decide
 case hnd => decide +kernel
 case c2 => exact rfl
 case c3 => exact rfl
 case c4 => exact rfl
 ·intro L
  rw [← lkl_set, ← lkl_set]
  rfl
 ·intro L cells hcl
  obtain ⟨co', co, rfl, hco', hco⟩ := cells_two (n := Str.ofString "turn") (c := L + 2) (n' := Str.ofString "source") (c' := L + 1) hcl
  exact .cons ⟨_, hco', rfl⟩ (.cons ⟨_, hco, _, rfl, rfl⟩ .nil)
 intro cx K hw hB hd hu hok hE hcl hK
 subst hw
 have hs1 : cx.cl.lookup (Str.ofString "source") = some (cx.L + 1) := by rw [hcl]; rfl
 have hs2 : cx.cl.lookup (Str.ofString "turn") = some (cx.L + 2) := by rw [hcl]; rfl
 repeat' walk1
 refine ACmp.inS (r := true) (inZ hc) ?_
 repeat' walk1
 refine ACal.M2p3 (fun B vs Mc hA hM => lclose_a cx.w hdG (Nat.le_trans hl (by decide)) hA hM) (room hd rfl) (roomu hu rfl) ?_
 repeat' walk1
 refine ABin.addS (spl c) ?_
 repeat' walk1
 refine hK _ _ (comC a none cx.L) _ rfl ⟨[32, c], [(c, [])], ?_, .close hc, rfl⟩
 rw [lit_sp]
 rfl

end
section --BA
@[reducible] noncomputable def Cx.comp (c : Cx) (C : Addr) (cl : List (Str × Addr)) (own N : Led) (s₁ : Shared) (E : Value → Shared → Prop) : Cx :=
 { c with L := C, cl := cl, s := s₁, E := E, J := own ++ (N ++ c.J), B := N ++ c.B, hB := fun q h => List.mem_append_right _ ((List.mem_append.mp h).elim (List.mem_append_left _) fun h => List.mem_append_right _ (c.hB q h)), ok := fun q => c.ok q ∧ (Tup q ∨ q.1 ∉ own.map (·.1)), okT := fun q h => ⟨c.okT q h, .inl h⟩ }
theorem NewOk.comp {c : Cx} {Mb : List (Addr × AO)} {C : Addr} {cl : List (Str × Addr)} {own N : Led} {s₁ : Shared} {E : Value → Shared → Prop} (h : NewOk c Mb) : NewOk (c.comp C cl own N s₁ E) Mb := fun q h1 h2 h3 =>
 ⟨h q (fun r hr => h1 r (List.mem_append_right _ (List.mem_append_right _ hr))) h2 h3, .inr fun e => by
  obtain ⟨z, hz, e⟩ := List.mem_map.mp e
  exact h1 z (List.mem_append_left _ hz) e⟩
@[reducible] noncomputable def Fi.comp (f : Fi) (sc : Scope) (L : Addr) : Fi := ⟨f.cn, sc, f.a, f.cd, some L⟩
noncomputable def ECJ (c : Cx) (N₀ : Led) (I : Nat → List Dat → List (Addr × AO) → Prop) (i : Nat) (ys : List Value) (nx : Led) : Prop :=
 ∃ ds M₁ N Mc, I i ds M₁ ∧ (∀ q ∈ N₀, q ∈ N) ∧ DatAll (N ++ c.B) ys ds ∧ Spd c Mc N ∧ MAll (N ++ c.B) M₁ Mc ∧ nx = c.all Mc N
noncomputable def TurnsE (elt : Expr) (x x₂ : Str) (sc : Scope) (cl : List (Str × Addr)) (f : Fi) (c : Cx) (dl : List Dat) (I : Nat → List Dat → List (Addr × AO) → Prop) : Prop :=
 ∀ C own N s₁ E i d ds M₁, dl[i]? = some d → I i ds M₁ → AEv elt (f.comp sc c.L) (c.comp C cl own N s₁ E) [] ⟨[(x₂, .d d), (x, .d (.int i))], M₁⟩ (fun r σ' => ∃ d', r = .d d' ∧ I (i + 1) (ds ++ [d']) σ'.M)
theorem tupX {o o' : Obj} {a b : Addr} (ht : Tup (a, o)) (e : o' = o) (hn : o'.cls ≠ .type "tuple") : False := by
 obtain ⟨vs, n, q⟩ := ht
 have q : o = _ := q
 rw [e, q] at hn
 exact hn rfl
theorem enTurn {elt : Expr} {x x₂ : Str} {scope sc : Scope} {cl : List (Str × Addr)} {f : Fi} {c : Cx} {dl : List Dat} {I : Nat → List Dat → List (Addr × AO) → Prop} {N₀ : Led} {m : Str → Option Value} {s₂ : Shared} {items : List Value} (T : TurnsE elt x x₂ sc cl f c dl I) (hrel : relabel scope (c.env f) = sc) (hco : f.co = none) (hxx : (x == x₂) = false) (hit : DatAll (N₀ ++ c.B) items dl) :
  EnTurn PySem.Challenge.rw_on0248_01.prog c.w c.A c.h₀ c.L m (c.env f) elt x x₂ scope cl s₂ items (ECJ c N₀ I) := by
 rintro i ys _ e it C D oe oi oC t v₂ m₂ h tk E' hi ⟨ds, M₁, N, Mc, hI, hN, hys, hS, hM, rfl⟩ hC hx hx₂ F W off ⟨heC, hiC, hDC, hte, hti, hCa⟩
 obtain ⟨oL, hoL, hnL⟩ := LCg.ns_obj F.ns
 have hCL : C ≠ c.L := (W (C, oC) (.tail _ (.tail _ (.head _)))).2.1
 obtain ⟨d, hd, hdv⟩ : ∃ d, dl[i]? = some d ∧ DatIn (N₀ ++ c.B) v₂ d := by
  have : ∀ {B : Led} {vs : List Value} {ds : List Dat} {i : Nat} {v : Value}, DatAll B vs ds → vs[i]? = some v → ∃ d, ds[i]? = some d ∧ DatIn B v d := by
   intro B vs ds
   induction ds generalizing vs with
   | nil => intro i v h hv; cases h; cases i <;> cases hv
   | cons z zs ih =>
    intro i v h hv
    cases h with
    | cons h r =>
     cases i with
     | zero => cases hv; exact ⟨_, rfl, h⟩
     | succ i => exact ih r hv
  exact this hit hi
 have hmono : ∀ q ∈ N₀ ++ c.B, q ∈ N ++ c.B := fun q hq => (List.mem_append.mp hq).elim (fun h => List.mem_append_left _ (hN q h)) fun h => List.mem_append_right _ h
 obtain ⟨own, hown⟩ : ∃ own : Led, own = [(c.L, oL), (e, oe), (it, oi), (D, LCg.lst ys)] := ⟨_, rfl⟩
 have hoC : ∀ q ∈ own, q.1 ≠ C := by
  rw [hown]
  exact List.forall_mem_cons.mpr ⟨Ne.symm hCL, List.forall_mem_cons.mpr ⟨heC, List.forall_mem_cons.mpr ⟨hiC, List.forall_mem_cons.mpr ⟨hDC, fun _ h => nomatch h⟩⟩⟩⟩
 have hWa : ∀ q ∈ c.all Mc N, h.get? q.1 = some q.2 ∧ q.1 ≠ c.L ∧ c.h₀.get? q.1 = none := fun q hq => W q (.tail _ (.tail _ (.tail _ (.tail _ hq))))
 have hoff : ∀ q ∈ own, ∀ p ∈ c.all Mc N, p.1 ≠ q.1 := by
  rw [hown]
  exact List.forall_mem_cons.mpr ⟨fun p hp => (hWa p hp).2.1, List.forall_mem_cons.mpr ⟨fun p hp => (off p hp).1, List.forall_mem_cons.mpr ⟨fun p hp => (off p hp).2.1, List.forall_mem_cons.mpr ⟨fun p hp => (off p hp).2.2.2, fun _ h => nomatch h⟩⟩⟩⟩
 have hL₀ : c.h₀.get? c.L = none := Heap.get?_none_of_le F.above
 have hg : ∀ q ∈ own, h.get? q.1 = some q.2 ∧ c.h₀.get? q.1 = none := by
  rw [hown]
  refine List.forall_mem_cons.mpr ⟨⟨hoL, hL₀⟩, List.forall_mem_cons.mpr ⟨?_, List.forall_mem_cons.mpr ⟨?_, List.forall_mem_cons.mpr ⟨?_, fun _ h => nomatch h⟩⟩⟩⟩
  ·have := W (e, oe) (.head _); exact ⟨this.1, this.2.2⟩
  ·have := W (it, oi) (.tail _ (.head _)); exact ⟨this.1, this.2.2⟩
  ·have := W (D, LCg.lst ys) (.tail _ (.tail _ (.tail _ (.head _)))); exact ⟨this.1, this.2.2⟩
 have hnt : ∀ q ∈ own, ¬ Tup q := by
  rw [hown]
  refine List.forall_mem_cons.mpr ⟨?_, List.forall_mem_cons.mpr ⟨?_, List.forall_mem_cons.mpr ⟨?_, List.forall_mem_cons.mpr ⟨?_, fun _ h => nomatch h⟩⟩⟩⟩
  ·rintro ⟨vs, n, q⟩
   obtain ⟨es, ep, hd, -⟩ := hnL
   have q : oL = _ := q
   rw [q] at hd
   cases hd
  ·exact fun ht => tupX (a := e) (b := e) ht rfl hte
  ·exact fun ht => tupX (a := it) (b := it) ht rfl hti
  ·rintro ⟨vs, n, q⟩
   have q : LCg.lst ys = _ := q
   exact absurd (congrArg Obj.cls q) (by simp)
 let c' := c.comp C cl own N s₂ E'
 have henv : compEnvC scope cl C (c.env f) = c'.env (f.comp sc c.L) := by
  show (Env.mk _ _ _ _ _ _ _ _ _) = _
  rw [hrel]
  simp [Fi.fn, hco, c']
 rw [henv]
 have Y : Cs c' [] ⟨[(x₂, .d d), (x, .d (.int i))], M₁⟩ h m₂ [] Mc [] := by
  refine ⟨⟨hC.ns (W (C, oC) (.tail _ (.tail _ (.head _)))).1, F.keep, hCa⟩, fun y a e' => ?_, fun z hz => ?_, ⟨hS.nt, hS.nd, fun z hz => ?_, fun _ h => nomatch h⟩, hM, .nil⟩
  ·have e' : List.lookup y [(x₂, AV.d d), (x, .d (.int i))] = some a := e'
   rw [List.lookup_cons] at e'
   cases hb : y == x₂ with
   | true =>
    rw [hb] at e'
    cases e'
    rw [beq_iff_eq.mp hb]
    exact ⟨_, hx₂, hdv.mono hmono⟩
   | false =>
    rw [hb] at e'
    have e' : List.lookup y [(x, AV.d (.int i))] = some a := e'
    rw [List.lookup_cons] at e'
    cases hb2 : y == x with
    | true =>
     rw [hb2] at e'
     cases e'
     rw [beq_iff_eq.mp hb2]
     exact ⟨_, hx, .int _ _⟩
    | false =>
     rw [hb2] at e'
     cases e'
  ·have hz : z ∈ Mc ++ (own ++ (N ++ c.J)) := hz
   have hz' : z ∈ c.all Mc N ∨ z ∈ own := by
    simp only [Cx.all, List.mem_append] at hz ⊢
    rcases hz with hz | hz | hz | hz <;> simp [hz]
   rcases hz' with hz | hz
   ·exact ⟨(hWa z hz).1, (off z hz).2.2.1, (hWa z hz).2.2⟩
   ·exact ⟨(hg z hz).1, hoC z hz, (hg z hz).2⟩
  ·have hz : z ∈ own ++ (N ++ c.J) := hz
   intro e'
   obtain ⟨y, hy, e'⟩ := List.mem_map.mp e'
   rcases List.mem_append.mp hz with hz | hz
   ·exact hoff z hz y (List.mem_append_left _ hy) e'
   ·exact hS.off z hz (e' ▸ List.mem_map_of_mem (f := (·.1)) hy)
 refine T C own N s₂ E' i d ds M₁ hd hI (fun _ y s₃ => ∃ h' tk' nx' oC' m', s₃ = { s₂ with heap := h', toks := tk' } ∧ LCg.NsObj oC' m' ∧ Fr c.h₀ c.L h' m ∧ News c.h₀ c.L h' ((e, oe) :: (it, oi) :: (C, oC') :: (D, LCg.lst ys) :: nx') ∧ (∀ p ∈ nx', p.1 ≠ e ∧ p.1 ≠ it ∧ p.1 ≠ C ∧ p.1 ≠ D) ∧ ECJ c N₀ I (i + 1) (ys ++ [y]) nx') (fun r σ' k h' m' N' Mc' ds' v t' Y' y' => ?_) h m₂ [] Mc [] tk Y
 obtain ⟨d', rfl, hI'⟩ := k
 obtain ⟨oC', hoC1, hnC'⟩ := LCg.ns_obj Y'.F.ns
 have Wo : ∀ q ∈ own, h'.get? q.1 = some q.2 := fun q hq => (Y'.W q (List.mem_append_right _ (List.mem_append_right _ (List.mem_append_left _ hq)))).1
 have hall : ∀ p ∈ c.all Mc' (N' ++ N), ∀ q ∈ own, p.1 ≠ q.1 := fun p hp q hq e' => by
  simp only [Cx.all, List.mem_append] at hp
  have hq' : q ∈ N' ++ (own ++ (N ++ c.J)) := List.mem_append_right _ (List.mem_append_left _ hq)
  rcases hp with hp | (hp | hp) | hp
  ·exact Y'.S.off q hq' (e' ▸ List.mem_map_of_mem (f := (·.1)) hp)
  ·rcases (Y'.S.ok p hp).2 with ht | ht
   ·have := (Y'.W p (List.mem_append_right _ (List.mem_append_left _ hp))).1
    rw [e', Wo q hq] at this
    obtain ⟨us, n, hz⟩ := ht
    exact hnt q hq ⟨us, n, (Option.some.inj this).trans hz⟩
   ·exact ht (List.mem_map.mpr ⟨q, hq, e'.symm⟩)
  ·exact hoff q hq p (List.mem_append_right _ (List.mem_append_left _ hp)) e'
  ·exact hoff q hq p (List.mem_append_right _ (List.mem_append_right _ hp)) e'
 have Wa : ∀ p ∈ c.all Mc' (N' ++ N), h'.get? p.1 = some p.2 ∧ p.1 ≠ C ∧ c.h₀.get? p.1 = none := fun p hp => Y'.W p (by
  show p ∈ Mc' ++ (N' ++ (own ++ (N ++ c.J)))
  exact su_at hp (by unfold Cx.all; bits_by_make))
 have m1 : (c.L, oL) ∈ own := by rw [hown]; exact .head _
 have m2 : (e, oe) ∈ own := by rw [hown]; exact .tail _ (.head _)
 have m3 : (it, oi) ∈ own := by rw [hown]; exact .tail _ (.tail _ (.head _))
 have m4 : (D, LCg.lst ys) ∈ own := by rw [hown]; exact .tail _ (.tail _ (.tail _ (.head _)))
 have hne : ∀ q ∈ own, q ≠ (c.L, oL) → q.1 ≠ c.L := by
  rw [hown]
  exact List.forall_mem_cons.mpr ⟨fun h => absurd rfl h, List.forall_mem_cons.mpr ⟨fun _ => (W (e, oe) (.head _)).2.1, List.forall_mem_cons.mpr ⟨fun _ => (W (it, oi) (.tail _ (.head _))).2.1, List.forall_mem_cons.mpr ⟨fun _ => (W (D, LCg.lst ys) (.tail _ (.tail _ (.tail _ (.head _))))).2.1, fun _ h => nomatch h⟩⟩⟩⟩
 have hs : ∀ {A : Led}, ∀ q ∈ N' ++ (N ++ A), q ∈ (N' ++ N) ++ A := fun q hq => by rw [List.append_assoc]; exact hq
 refine ⟨h', t', c.all Mc' (N' ++ N), oC', m', rfl, hnC', ⟨hnL.ns (Wo _ m1), Y'.F.keep, F.above⟩, ?_, fun p hp => ⟨hall p hp _ m2, hall p hp _ m3, (Wa p hp).2.1, hall p hp _ m4⟩, ds ++ [d'], σ'.M, N' ++ N, Mc', hI', fun q hq => List.mem_append_right _ (hN q hq), ?_, ⟨Y'.S.nt, Y'.S.nd, fun z hz => Y'.S.off z ?_, fun z hz => (List.mem_append.mp hz).elim (fun hz => (Y'.S.ok z hz).1) (hS.ok z)⟩, Y'.M.mono hs, rfl⟩
 ·refine List.forall_mem_cons.mpr ⟨⟨Wo _ m2, (W (e, oe) (.head _)).2⟩, List.forall_mem_cons.mpr ⟨⟨Wo _ m3, (W (it, oi) (.tail _ (.head _))).2⟩, List.forall_mem_cons.mpr ⟨⟨hoC1, hCL, (W (C, oC) (.tail _ (.tail _ (.head _)))).2.2⟩, List.forall_mem_cons.mpr ⟨⟨Wo _ m4, (W (D, LCg.lst ys) (.tail _ (.tail _ (.tail _ (.head _))))).2⟩, fun p hp => ⟨(Wa p hp).1, hall p hp _ m1, (Wa p hp).2.2⟩⟩⟩⟩⟩
 ·exact DatAll.append (hys.mono fun q hq => by rw [List.append_assoc]; exact List.mem_append_right _ hq) (.one (DatIn.mono hs y'))
 ·show z ∈ N' ++ (own ++ (N ++ c.J))
  exact su_at hz (by bits_by_make)
section
variable {f : Fi} {c : Cx} {l : List (Str × AV)} {M : List (Addr × AO)} {D : List AV} {σ : As} {K : AV → As → Prop}
theorem AEv.enum {elt : Expr} {x x₂ xn : Str} {px px₂ tp np ip rp pos : Pos} {tk : Nat} {scope sc : Scope} {cl : List (Str × Addr)} {dl : List Dat} {Mb : List (Addr × AO)} (I : Nat → List Dat → List (Addr × AO) → Prop)
  (hok : NewOk c Mb) (hsub : ∀ i ds M₁, I i ds M₁ → M₁.map (·.1) = Mb.map (·.1)) (hco : f.co = Option.none) (hrel : relabel scope (c.env f) = sc) (hclos : closureFor scope (c.env f) = pure cl) (hcell : ∀ y ∈ scope.names, y.2 ≠ .cell) (hkind : scope.kind = .function)
  (hnames : ∀ y ∈ scope.names, y.2 = .local → scope.names.lookup y.1 = some .local) (hx : scope.names.lookup x = some .local) (hx₂ : scope.names.lookup x₂ = some .local) (hxx : (x == x₂) = false)
  (hb : f.is (Str.ofString "enumerate") .globalImplicit = true) (hg : ∀ w : World, nsIn (heapK w.params) mainGlobals (Str.ofString "enumerate") = some Option.none) (hv : l.lookup xn = some (.d (.list dl))) (hl : f.is xn .local = true) (hz : dl.length ≤ 1000)
  (he : ∀ env, eval (.Call (.Name (Str.ofString "enumerate") np) [.Name xn ip] [] rp) env = (do callWith rp (← eval (.Name (Str.ofString "enumerate") np) env) [] (backTo rp (starEach [.Name xn ip] env)) (backToKw rp (keywordEach [] env))))
  (hs : ∀ env x, foldedSetIterable (.Call (.Name (Str.ofString "enumerate") np) [.Name xn ip] [] rp) env x = pure x)
  (h0 : I 0 [] M) (T : TurnsE elt x x₂ sc cl f c dl I) (Dn : ∀ ds M₁, I dl.length ds M₁ → K (.d (.list ds)) ⟨l, M₁⟩) :
  AEv (.ListComp elt [⟨.Tuple [.Name x px, .Name x₂ px₂] tk tp, .Call (.Name (Str.ofString "enumerate") np) [.Name xn ip] [] rp, [], 0⟩] scope pos) f c D ⟨l, M⟩ K := fun Q q h m N Mc ds t X => by
 refine comp_enum X.F hclos hcell hkind hnames hx hx₂ (beq_eq_false_iff_ne.mp hxx) ?_ (hs _)
 refine Call_ (nmB X.F (hg c.w) (v := .type "enumerate") boot_enumerate (by decide +kernel) hb ?_) (he _)
 refine Pv.callWith_type1 ?_ rfl rfl
 obtain ⟨v, hm, hd⟩ := X.P xn _ hv
 refine args_cons (nmL X.F hm hl ?_) rfl
 refine args_nil ?_
 obtain ⟨g, us, n', rfl, hgm, hus⟩ := den_lst hd
 have hgW := X.W _ (mem_all hgm)
 refine call_enumerate_1 hgW.1 fun h₁ hen hit hsz hold => ?_
 have F₁ := X.F.keeps hold
 have W₁ : News c.h₀ c.L h₁ (c.all Mc N) := fun z hz => ⟨hold _ _ (X.W z hz).1, (X.W z hz).2⟩
 have hlt : ∀ p ∈ c.all Mc N, p.1 < h.objs.size := fun p hp => Heap.lt_size (X.W p hp).1
 have hLlt : c.L < h.objs.size := X.F.ns.lt
 have hab := X.F.above
 have hul := hus.length
 refine ⟨_, _, g, us, n', c.all Mc N, ECJ c N I, rfl, rfl, F₁, W₁, ?_, Nat.succ_ne_self _, Nat.ne_of_lt (Nat.lt_succ_of_lt hLlt), Nat.ne_of_lt hLlt, Heap.get?_none_of_le (Nat.le_trans hab (Nat.le_of_lt (Nat.lt_succ_of_lt hLlt))), Heap.get?_none_of_le (Nat.le_trans hab (Nat.le_of_lt hLlt)), fun p hp => ⟨Nat.ne_of_lt (Nat.lt_succ_of_lt (hlt p hp)), Nat.ne_of_lt (hlt p hp)⟩, hen, hit, ?_, ⟨[], M, N, Mc, h0, fun _ h => h, .nil, X.S, X.M, rfl⟩, enTurn T hrel hco hxx hus, ?_⟩
 ·rintro i ys _ ⟨ds', M₁, N₁, Mc₁, -, hN, -, -, -, rfl⟩
  exact List.mem_append_right _ ((List.mem_append.mp hgm).elim (fun h => List.mem_append_left _ (hN _ h)) fun h => List.mem_append_right _ (c.hB _ h))
 ·rw [hul, sizeLine_eq]; omega
 ·rintro ys _ D' h₂ tk₂ ⟨ds', M₁, N₁, Mc₁, hI, hN, hys, hS, hM, rfl⟩ F₂ W₂ off
  rw [hul] at hI
  have hmono : ∀ {A : Led}, ∀ q ∈ N ++ A, q ∈ N₁ ++ A := fun q hq => (List.mem_append.mp hq).elim (fun h => List.mem_append_left _ (hN q h)) fun h => List.mem_append_right _ h
  have hm2 : ∀ {A : Led}, ∀ q ∈ N₁ ++ A, q ∈ ((D', LCg.lst ys) :: N₁) ++ A := fun q hq => .tail _ hq
  have hD : ∀ p ∈ Mc₁ ++ (N₁ ++ c.J), p.1 ≠ D' := off
  have hok' : c.ok (D', LCg.lst ys) := hok _ (fun r hr => hD r (List.mem_append_right _ (List.mem_append_right _ hr))) (fun e => by
   rw [← hsub _ _ _ hI, ← hM.adr (B' := N)] at e
   obtain ⟨z, hz, e⟩ := List.mem_map.mp e
   exact hD z (List.mem_append_left _ hz) e) (NoTup.lst (G := D')).2
  refine q _ _ (Dn ds' M₁ hI) h₂ m ((D', LCg.lst ys) :: N₁) Mc₁ ds _ tk₂ ⟨F₂, fun x a e => ?_, fun z hz => W₂ z ?_, ⟨hS.nt, hS.nd, fun z hz e => ?_, fun z hz => ?_⟩, hM.mono hm2, X.D.mono fun z hz => hm2 z (hmono z hz)⟩ (DatIn.list (.head _) (hys.mono hm2))
  ·obtain ⟨v, e, y⟩ := X.P x a e
   exact ⟨v, e, y.mono fun z hz => hm2 z (hmono z hz)⟩
  ·exact su_at hz (by unfold Cx.all; bits_by_make)
  ·rcases List.mem_cons.mp hz with rfl | hz
   ·obtain ⟨z, hz, e⟩ := List.mem_map.mp e
    exact hD z (List.mem_append_left _ hz) e
   ·exact hS.off z hz e
  ·rcases List.mem_cons.mp hz with rfl | hz
   ·exact hok'
   ·exact hS.ok z hz
theorem AMcl.join {e : Expr} {es : List Expr} {pos : Pos} {x : Str} (hx : Xs (e :: es) = true) (H : AEvs (e :: es) f c (.d (.str x) :: D) σ (aCalM (.builtin "str.join") (.d (.str x)) c D K)) : AMcl "join" (e :: es) pos f (.d (.str x)) c D σ K := fun pl Q q h m N Mc ds v t X y => by
 obtain ⟨t1, rfl⟩ := den_str y
 with_reducible refine GM.join ?_
 refine callWith_method1 (H pos (fun ds' vs s₁ => wpAny _ _ (PySem.call (.builtin "str.join") ([ds'.headD .none] ++ vs)) (Q ds'.tail) _ s₁) (fun as σ' k h m N Mc ds' vs t X' y' => ?_) h m N _ (.str x t1 :: ds) t (X.push y)) (Xs.star hx _) (Xs.plain (Xs.tl hx) _ _)
 obtain ⟨w, r', rfl, yw, X1⟩ := X'.pop
 exact k Q q h m N Mc r' (w :: vs) t X1 (.cons yw y')
theorem carried_S {B : Led} : ∀ {ys : List Value} {gs : List (List Nat)}, DatAll B ys (gs.map fun g => .str (S g)) → CarriedAll ys (gs.map fun g => PyData.str (S g))
 | _, [], h => by cases h; exact .nil
 | _, g :: gs, h => by
  cases h with
  | cons h r => cases h; exact .cons (.str _ _) (carried_S r)
theorem ACal.join {gs : List (List Nat)} (h1 : ∀ g ∈ gs, g.length ≤ 10) (h2 : gs.length ≤ 1000) (H : K (.d (.str (S gs.flatten))) σ) : ACal (.builtin "str.join") [.d (.str (Str.ofString "")), .d (.list (gs.map fun g => .str (S g)))] c D σ K := fun Q q h m N Mc ds vs t X y => by
 obtain ⟨_, _, rfl, y1, y2⟩ := y.two
 obtain ⟨t1, rfl⟩ := den_str y1
 obtain ⟨g, us, n', rfl, hgm, hus⟩ := den_lst y2
 refine KT.join_B (l := gs) (g := S) 10 ⟨_, (X.W _ (mem_all hgm)).1, rfl, _, rfl⟩ (carried_S hus) (fun z hz => by rw [S_len]; exact h1 z hz) (Nat.le_trans h2 (by decide)) (by decide +kernel) fun t₉ k₉ => ?_
 rw [show PySem.Txt.join (Str.ofString "") (gs.map S) = S gs.flatten from (StrLaws.glued_eq_join _ _).trans (join_S gs)]
 exact q _ _ H h m N Mc ds _ k₉ X (.str _ _)
noncomputable def strK (K : AV → As → Prop) (a : AV) (σ' : As) : Prop := ∃ x ∈ vals5, a = .d (.int x) ∧ K (.d (.str (S (txtN x)))) σ'
theorem strK.mk {x : Int} (hx : x ∈ vals5) (H : K (.d (.str (S (txtN x)))) σ) : strK K (.d (.int x)) σ := ⟨x, hx, rfl, H⟩
theorem AEv.strI {e : Expr} {np rp : Pos} (hb : f.is (Str.ofString "str") .globalImplicit = true) (hg : ∀ w : World, nsIn (heapK w.params) mainGlobals (Str.ofString "str") = some Option.none) (hx : Xs [e] = true)
  (he : ∀ env, eval (.Call (.Name (Str.ofString "str") np) [e] [] rp) env = (do callWith rp (← eval (.Name (Str.ofString "str") np) env) [] (backTo rp (starEach [e] env)) (backToKw rp (keywordEach [] env))))
  (H : AEv e f c D σ (strK K)) : AEv (.Call (.Name (Str.ofString "str") np) [e] [] rp) f c D σ K := fun Q q h m N Mc ds t X => by
 refine Call_ (nmB X.F (hg c.w) (v := .type "str") PyProof.Rows.boot_str (by decide +kernel) hb ?_) (he _)
 refine Pv.callWith_type1 ?_ (Xs.star hx _) (Xs.plain (Xs.tl hx) _ _)
 refine args_cons (H (fun ds v s₁ => wpAny _ _ (spliced (backTo rp (starEach [] (c.env f)))) (fun vs s₂ => wpAny _ _ (PySem.call (.type "str") (v :: vs)) (Q ds) c.E s₂) c.E s₁) (fun a σ₁ k h m N Mc ds v t X y => ?_) h m N Mc ds t X) (Xs.star hx _)
 obtain ⟨x, hx5, rfl, k⟩ := k
 obtain ⟨u, rfl⟩ := den_int y
 refine args_nil ?_
 have hx5' := hx5
 simp only [vals5, List.mem_cons, List.not_mem_nil, or_false] at hx5'
 refine P.str_of_int ?_ ?_
 ·rcases hx5' with rfl | rfl | rfl | rfl | rfl <;> decide +kernel
 ·rw [str_txt hx5]
  exact q _ _ k h m N Mc ds _ _ X (.str _ _)
end
section
variable {f : Fi} {c : Cx} {l : List (Str × AV)} {M : List (Addr × AO)} {D : List AV} {K : AV → As → Prop}
theorem AEv.getLit {k1 k2 v1 v2 x y r : Str} {p1 p2 p3 p4 p5 p6 p7 p8 p9 : Pos} (hv : l.lookup x = some (.d (.str y))) (hx : f.is x .local = true) (hn : k1 ≠ k2) (hr : (if y = k1 then v1 else if y = k2 then v2 else y) = r) (H : K (.d (.str r)) ⟨l, M⟩)
  (pl : Env → Sem Bool) (he : ∀ env, eval (.Call (.Attribute (.Dict [some (.Constant (.str k1) 0 p1), some (.Constant (.str k2) 0 p2)] [.Constant (.str v1) 0 p3, .Constant (.str v2) 0 p4] p5) (Str.ofString "get") p6) [.Name x p7, .Name x p8] [] p9) env = (do
   let ov ← eval (.Dict [some (.Constant (.str k1) 0 p1), some (.Constant (.str k2) 0 p2)] [.Constant (.str v1) 0 p3, .Constant (.str v2) 0 p4] p5) env
   standAt p6.atName
   let (f, first) ← holding [ov] (getMethod ov (Str.ofString "get") (pl env))
   callWith p9 f first (backTo p9 (starEach [.Name x p7, .Name x p8] env)) [])) :
  AEv (.Call (.Attribute (.Dict [some (.Constant (.str k1) 0 p1), some (.Constant (.str k2) 0 p2)] [.Constant (.str v1) 0 p3, .Constant (.str v2) 0 p4] p5) (Str.ofString "get") p6) [.Name x p7, .Name x p8] [] p9) f c D ⟨l, M⟩ K := fun Q q h m N Mc ds t X => by
 obtain ⟨_, hm, hd⟩ := X.P x _ hv
 obtain ⟨u, rfl⟩ := den_str hd
 refine MethodCall_ (pl := pl (c.env f)) ?_ (he _)
 refine kdn_eval (knd := PySem.strKind PySem.Challenge.rw_on0248_01.prog c.w) X.F X.W c.T.nolimit rfl rfl (List.cons_ne_nil _ _) (Nat.le_of_ble_eq_true rfl) fun d h₁ o F₁ W₁ hlt lo ho => ?_
 refine pairTrees_cons_walk (Constant_str (Constant_str (pairTrees_cons_walk (Constant_str (Constant_str (pairTrees_nil_walk ?_))))))
 refine kdn_made_str (g := fun o' => (d, o') :: c.all Mc N) F₁ W₁ (.head fun p hp => Nat.ne_of_lt (hlt p hp)) ho rfl (show [k1, k2].Nodup from List.nodup_cons.mpr ⟨fun h => hn (List.mem_singleton.mp h), List.nodup_cons.mpr ⟨List.not_mem_nil, .nil⟩⟩) fun h₂ o₂ F₂ W₂ ho₂ => ?_
 refine kdg_method W₂ (.head _) ho₂ ?_
 refine callWith_method1 ?_ rfl rfl
 refine args_cons (nmL F₂ hm hx (args_cons (nmL F₂ hm hx (args_nil ?_)) rfl)) rfl
 have e : (valueAt (strPairs [(Value.str k1 t, .str v1 (t + 1)), (.str k2 (t + 1 + 1), .str v2 (t + 1 + 1 + 1))]) y).getD (.str y u) = .str r (if y = k1 then t + 1 else if y = k2 then t + 1 + 1 + 1 else u) := by
  rw [valueAt_lookup, ← hr]
  show (List.lookup y [(k1, _), (k2, _)]).getD _ = _
  rw [List.lookup_cons, List.lookup_cons]
  by_cases h1 : y = k1
  ·rw [if_pos h1, if_pos h1, beq_iff_eq.mpr h1]; rfl
  ·rw [if_neg h1, if_neg h1, beq_eq_false_iff_ne.mpr h1]
   by_cases h2 : y = k2
   ·rw [if_pos h2, if_pos h2, beq_iff_eq.mpr h2]; rfl
   ·rw [if_neg h2, if_neg h2, beq_eq_false_iff_ne.mpr h2]; rfl
 refine kdg_get2 W₂ (.head _) ho₂ lo (strKind_is _ _ _ _) _ rfl ?_
 show Q ds ((valueAt (strPairs [(Value.str k1 t, .str v1 (t + 1)), (.str k2 (t + 1 + 1), .str v2 (t + 1 + 1 + 1))]) y).getD (.str y u)) _
 rw [e]
 exact q _ _ H h₂ m N Mc ds _ _ ⟨F₂, X.P, fun z hz => W₂ z (.tail _ hz), X.S, X.M, X.D⟩ (.str _ _)
end

end
theorem rst73 {M : Model} {A : Around} {env : Env} {Q : Flow → Shared → Prop} {E : Value → Shared → Prop} {s : Shared} (h : Q .next s) : wpAny M A (execs [] env) Q E s := by
 walk1
 exact h
section --AU
local macro_rules | `(tactic| walk_at "AEv") => `(tactic| with_reducible first | (refine' AEv.cel0 ?h1 ?h2 ?_; (case h1 => assumption); (case h2 => k_dflt rfl)) | (refine' AEv.cel1 ?h1 ?h2 ?_; (case h1 => assumption); (case h2 => k_dflt rfl)))
theorem notZ {c : Nat} (h : c ∉ [90, 122]) : decide (c ∈ (Str.ofString "Zz").cps.toList) = false := by
 rw [show (Str.ofString "Zz").cps.toList = [90, 122] from by decide +kernel]
 exact decide_eq_false h
theorem NewOk.perm {c : Cx} {A B : List (Addr × AO)} (h : NewOk c A) (e : ∀ x, x ∈ A.map (·.1) → x ∈ B.map (·.1)) : NewOk c B := fun q h1 h2 h3 => h q h1 (fun k => h2 (e _ k)) h3
section
variable {c : Cx} {D : List AV} {l : List (Str × AV)} {as : List AV} {K : AV → As → Prop} {fa : Addr} {dep uni : Nat} {p1 p2 q1 : Addr × AO} {M Mb : List (Addr × AO)}
theorem ACal.Nrp2 {R : AV → List (Addr × AO) → Prop} (hok : NewOk c Mb) (hsub : Mb.map (·.1) = (p1 :: p2 :: q1 :: M).map (·.1)) (ct : ∀ B vs Mc, DAll B as vs → MAll B [q1] Mc → FnN c.w fa vs dep uni Mc B (PoA R B)) (hd : c.dp + dep < recursionLimit) (hu : c.un + uni < cLine)
  (H : ∀ r N', R r N' → K r ⟨l, p1 :: p2 :: (N' ++ M)⟩) : ACal (.ref fa) as c D ⟨l, p1 :: p2 :: q1 :: M⟩ K :=
 AOp.rot [p1, p2] (M₂ := q1 :: M) (ACal.Nr (M₀ := [q1]) (M₁ := M ++ [p1, p2]) (Mb := q1 :: (M ++ [p1, p2])) (hok.perm fun x hx => by
  rw [hsub] at hx
  simp only [List.map_cons, List.map_append, List.mem_cons, List.mem_append, List.map_nil, List.not_mem_nil, or_false] at hx ⊢
  rcases hx with hx | hx | hx | hx <;> simp [hx]) rfl ct hd hu fun r N' hr => ⟨N' ++ M, (List.append_assoc ..).symm, H r N' hr⟩)
end
noncomputable def comSc : Scope := { kind := .function, names := [(Str.ofString ".0", .local), (Str.ofString "at", .local), (Str.ofString "number", .local), (Str.ofString "_law_one", .globalImplicit), (Str.ofString "str", .globalImplicit), (Str.ofString "source", .cell), (Str.ofString "turn", .cell)], isGenerator := false, isCoroutine := false }
theorem sep4A {d : Dat} (h : d ∈ [Dat.str (Str.ofString " "), .str (Str.ofString ","), .str (Str.ofString "\n"), .str (Str.ofString " , ")]) : ∃ s ∈ seps4, d = .str (S s) := by
 simp only [List.mem_cons, List.not_mem_nil, or_false] at h
 rcases h with rfl | rfl | rfl | rfl
 ·exact ⟨[32], by decide, congrArg _ (by decide +kernel)⟩
 ·exact ⟨[44], by decide, congrArg _ (by decide +kernel)⟩
 ·exact ⟨[10], by decide, congrArg _ (by decide +kernel)⟩
 ·exact ⟨[32, 44, 32], by decide, congrArg _ (by decide +kernel)⟩
theorem sep2A {d : Dat} (h : d ∈ [Dat.str (Str.ofString " "), .str (Str.ofString "\n")]) : ∃ s ∈ seps2, d = .str (S s) := by
 simp only [List.mem_cons, List.not_mem_nil, or_false] at h
 rcases h with rfl | rfl
 ·exact ⟨[32], by decide, congrArg _ (by decide +kernel)⟩
 ·exact ⟨[10], by decide, congrArg _ (by decide +kernel)⟩
theorem behL {e : Nat} (h : e ∈ lets) : (if S [e] = Str.ofString "M" then Str.ofString "L" else if S [e] = Str.ofString "m" then Str.ofString "l" else S [e]) = S [behind e] := (by decide +kernel : ∀ e ∈ lets, (if S [e] = Str.ofString "M" then Str.ofString "L" else if S [e] = Str.ofString "m" then Str.ofString "l" else S [e]) = S [behind e]) e h
theorem sep4Len {s : List Nat} (h : s ∈ seps4) : s.length ≤ 3 := (by decide : ∀ s ∈ seps4, s.length ≤ 3) s h
theorem sep2Len {s : List Nat} (h : s ∈ seps2) : s.length ≤ 3 := (by decide : ∀ s ∈ seps2, s.length ≤ 3) s h
theorem add_ok {s t : List Nat} {a b : Nat} (h1 : s.length ≤ a) (h2 : t.length ≤ b) (h : a + b ≤ 16777216 := by decide) : (S s).length + (S t).length ≤ 16777216 := by
 rw [S_len, S_len]
 exact Nat.le_trans (Nat.add_le_add h1 h2) h
theorem sepNo {xs : List Int} {x : Int} {k i : Nat} (hx : xs[k]? = some x) (h : (0 : Int) < (k : Int) + (i : Int)) : ¬ (decide (i = 0) = true ∧ xs.take k = []) := fun ⟨h1, h2⟩ => by
 have h1 := of_decide_eq_true h1
 have := congrArg List.length h2
 rw [List.length_take] at this
 have hlt := (List.getElem?_eq_some_iff.mp hx).1
 simp only [List.length_nil] at this
 omega
theorem sepYes {xs : List Int} {x : Int} {k i : Nat} (_ : xs[k]? = some x) (h : ¬ (0 : Int) < (k : Int) + (i : Int)) : decide (i = 0) = true ∧ xs.take k = [] := by
 obtain ⟨rfl, rfl⟩ : k = 0 ∧ i = 0 := ⟨by omega, by omega⟩
 exact ⟨rfl, rfl⟩
theorem commA_draw {w : World} {a d G : Addr} {ps : PS} {c : Nat} (hdG : d ≠ G) (had : a ≠ d) (haG : a ≠ G) (hl : ps.found.length ≤ 5000) (hc : c ∈ lets) (hcz : c ∉ [90, 122]) (B : Led) (vs : List Value) (Mc : Led) (hA : DAll B [.v (.ref a), .v (.ref d), .d (.str (S [c]))] vs) (hM : MAll B ((a, SrcA) :: lpP w d G ps) Mc) :
  FnN w 504 vs 12 200 Mc B (PoA (ComR w a d G ps c) B) := by
 obtain ⟨_, _, v, rfl, h0, h1, h2⟩ := hA.three
 obtain rfl := h0
 obtain rfl := h1
 obtain ⟨t, rfl⟩ := den_str h2
 k_dflt (refine' (FnN.ofCA (lA := [(Str.ofString "letter", .d (.str (S [c]))), (Str.ofString "pen", .v (.ref d))]) (bl := [(Str.ofString "letter", .str (S [c]) t), (Str.ofString "pen", .ref d)]) (binds := [(Str.ofString "source", .ref a), (Str.ofString "pen", .ref d), (Str.ofString "letter", .str (S [c]) t)]) (comC a none) hM (by simp [hdG, had, haG]) (fun r N' h => by obtain ⟨_, _, -, -, rfl⟩ := h; rfl) (.cons h2 (.cons rfl .nil)) (fun L => by simp) (fun L => by simp)) ?ho ?hcd ?hb ?hl ?hd ?hbl ?hcel ?h ?hnd ?c2 ?c3 ?c4)
 case ho => k_is
 case hcd => k_is
 case hb => first | exact fun _ _ => BindsTo.of_eq rfl | exact fun _ hX => BindsTo.of_defaults rfl (hX _ _ (by k_is)) rfl rfl rfl
 case hl => exact fun n => kinds_of (by repeat' (first | exact trivial | exact And.intro (.inl rfl) trivial | exact And.intro (.inr ⟨rfl, rfl⟩) trivial | refine And.intro (.inl rfl) ?_ | refine And.intro (.inr ⟨rfl, rfl⟩) ?_))
 case hd => decide
 case hnd => decide +kernel
 case c2 => exact rfl
 case c3 => exact rfl
 case c4 => exact rfl
 ·intro L
  rw [← lkl_set, ← lkl_set]
  rfl
 ·intro L cells hcl
  obtain ⟨co', co, rfl, hco', hco⟩ := cells_two (n := Str.ofString "turn") (c := L + 2) (n' := Str.ofString "source") (c' := L + 1) hcl
  exact .cons ⟨_, hco', rfl⟩ (.cons ⟨_, hco, _, rfl, rfl⟩ .nil)
 intro cx K hw hB hd hu hok hE hcl hK
 subst hw
 have hs1 : cx.cl.lookup (Str.ofString "source") = some (cx.L + 1) := by rw [hcl]; rfl
 have hs2 : cx.cl.lookup (Str.ofString "turn") = some (cx.L + 2) := by rw [hcl]; rfl
 change ASts _ _ _ ⟨_, (cx.L + 2, CelA none) :: (cx.L + 1, CelA (some (.v (.ref a)))) :: (a, SrcA) :: lpP cx.w d G ps⟩ K
 repeat' walk1
 refine ACmp.inS (r := false) (notZ hcz) ?_
 repeat' walk1
 refine ABin.addS (spl c) ?_
 rw [lit_sp]
 repeat' walk1
 refine ASt.forR (hE _) (by k_dflt rfl) (fun w => by k_is) (fun _ => rfl) rfl ?_
 repeat' walk1
 refine ACal.Nrp2 hok rfl (takeA (by decide) (by decide)) (room hd rfl) (roomu hu rfl) ?_
 rintro _ _ ⟨i, rfl, hi0, hi1, rfl⟩
 refine ABin.add ?_
 obtain ⟨n, hn, hn1, hn2⟩ : ∃ n : Nat, 1 + i = (n : Int) ∧ 1 ≤ n ∧ n ≤ 2 := ⟨(1 + i).toNat, by omega, by omega, by omega⟩
 refine ⟨n, fun i σ => ∃ txt cmds e u, σ = ⟨[(Str.ofString "text", .d (.str (S txt))), (Str.ofString "letter", .d (.str (S [e]))), (Str.ofString "pen", .v (.ref d))], (cx.L + 2, CelA u) :: (cx.L + 1, CelA (some (.v (.ref a)))) :: (a, SrcA) :: lpP cx.w d G (cmds.foldl PS.step ps)⟩ ∧ TxA c i txt cmds e ∧ e ∈ lets ∧ txt.length ≤ 2 + 20 * i ∧ (cmds.foldl PS.step ps).found.length ≤ ps.found.length + 2 * i, by rw [hn], by omega, ⟨[32, c], [], c, none, rfl, .zero, hc, Nat.le_refl _, Nat.le_refl _⟩, ?_, ?_⟩
 ·rintro own s₁ i _ hi hown ⟨txt, cmds, e, u, rfl, hT, he, htl, hfl⟩
  have hs1' : (cx.own own s₁).cl.lookup (Str.ofString "source") = some (cx.L + 1) := hs1
  refine AAsg.name ?_
  refine ASto.cel0 hs2 (by k_dflt rfl) ?_
  repeat' walk1
  refine ACal.Nrp2 hok.own rfl (groupA he) (room hd rfl) (roomu hu rfl) ?_
  rintro _ _ ⟨xs, rfl, hxl, hxv, rfl⟩
  repeat' walk1
  refine ACal.M2p3 (fun B vs Mc hA hM => ldraw_a cx.w hdG he hxl (by omega) hA hM) (room hd rfl) (roomu hu rfl) ?_
  repeat' walk1
  have hm4 := many4 he
  refine AMcl.join rfl ?_
  repeat' walk1
  refine AEv.enum (sc := comSc) (cl := [(Str.ofString "turn", cx.L + 2), (Str.ofString "source", cx.L + 1)]) (fun k ds M₁ => ∃ gs, ds = gs.map (fun g => .str (S g)) ∧ PcT (decide (i = 0)) (xs.take k) gs ∧ M₁ = (cx.L + 2, CelA (some (.d (.int i)))) :: (cx.L + 1, CelA (some (.v (.ref a)))) :: (a, SrcA) :: lpP cx.w d G ((cmds.foldl PS.step ps).step (e, xs))) hok.own (fun _ _ _ ⟨_, _, _, e⟩ => by rw [e]; rfl) rfl rfl ?_ ?_ rfl ?_ rfl rfl (by decide +kernel) (by k_dflt rfl) (fun w => by k_is) rfl (by k_dflt rfl) (by rw [List.length_map]; omega) (fun _ => rfl) (fun _ _ => rfl) ⟨[], rfl, .nil, rfl⟩ ?_ ?_
  ·show closureFor _ (Env.mk _ _ _ cx.cl _ _ _ _ _) = _
   rw [hcl]
   rfl
  ·decide +kernel
  ·decide +kernel
  ·rintro C own' N' s₃ E' k dk _ _ hk ⟨gs, rfl, hpc, rfl⟩
   obtain ⟨x, hx, rfl⟩ : ∃ x, xs[k]? = some x ∧ dk = Dat.int x := by
    rw [List.getElem?_map] at hk
    cases hq : xs[k]? with
    | none => rw [hq] at hk; cases hk
    | some x => rw [hq] at hk; cases hk; exact ⟨x, rfl, rfl⟩
   have hx5 := hxv x (List.mem_of_getElem? hx)
   have hok' : NewOk ((cx.own own s₁).comp C [(Str.ofString "turn", cx.L + 2), (Str.ofString "source", cx.L + 1)] own' N' s₃ E') _ := (hok.own (own := own) (s₁ := s₁)).comp
   have hq1 : ((cx.own own s₁).comp C [(Str.ofString "turn", cx.L + 2), (Str.ofString "source", cx.L + 1)] own' N' s₃ E').cl.lookup (Str.ofString "source") = some (cx.L + 1) := rfl
   have hq2 : ((cx.own own s₁).comp C [(Str.ofString "turn", cx.L + 2), (Str.ofString "source", cx.L + 1)] own' N' s₃ E').cl.lookup (Str.ofString "turn") = some (cx.L + 2) := rfl
   have fin : ∀ s ∈ (if decide (i = 0) = true ∧ xs.take k = [] then seps2 else seps4), PcT (decide (i = 0)) (xs.take (k + 1)) (gs ++ [s ++ txtN x]) := fun s hs => by
    rw [List.take_add_one, hx]
    exact hpc.snoc hx5 hs
   repeat' walk1
   refine ACmp.gt ?_
   repeat' walk1
   refine asplit (fun hz => ?_) (fun hz => ?_)
   ·repeat' walk1
    refine ANl.mk hok' rfl rfl rfl ?_
    repeat' walk1
    refine ACal.Nrp2 hok' rfl (oneA (by simp) (by decide)) (room hd rfl) (roomu hu rfl) ?_
    rintro _ _ ⟨_, hm, rfl, rfl⟩
    obtain ⟨sp, hsp, rfl⟩ := sep4A hm
    refine AEv.strI (by k_dflt rfl) (fun w => by k_is) rfl (fun _ => rfl) ?_
    walk1
    refine strK.mk hx5 ?_
    refine ABin.addS (add_ok (sep4Len hsp) (txtLen hx5)) ?_
    rw [S_app]
    exact ⟨_, rfl, gs ++ [sp ++ txtN x], by rw [List.map_append]; rfl, fin sp (by rw [if_neg (sepNo hx hz)]; exact hsp), rfl⟩
   ·repeat' walk1
    refine ANl.mk hok' rfl rfl rfl ?_
    repeat' walk1
    refine ACal.Nrp2 hok' rfl (oneA (by simp) (by decide)) (room hd rfl) (roomu hu rfl) ?_
    rintro _ _ ⟨_, hm, rfl, rfl⟩
    obtain ⟨sp, hsp, rfl⟩ := sep2A hm
    refine AEv.strI (by k_dflt rfl) (fun w => by k_is) rfl (fun _ => rfl) ?_
    walk1
    refine strK.mk hx5 ?_
    refine ABin.addS (add_ok (sep2Len hsp) (txtLen hx5)) ?_
    rw [S_app]
    exact ⟨_, rfl, gs ++ [sp ++ txtN x], by rw [List.map_append]; rfl, fin sp (by rw [if_pos (sepYes hx hz)]; exact hsp), rfl⟩
  ·rintro _ _ ⟨gs, rfl, hpc, rfl⟩
   rw [List.length_map, List.take_length] at hpc
   obtain ⟨hg1, hg2, hg3⟩ := hpc.len
   repeat' walk1
   refine ACal.join (fun g hg => Nat.le_trans (hg2 g hg) (by decide)) (by omega) ?_
   refine ABin.addS (by rw [S_len, S_len]; omega) ?_
   rw [S_app]
   iterate 3 walk1
   refine AEv.getLit rfl (by k_dflt rfl) (by decide +kernel) (behL he) ?_ _ (fun _ => rfl)
   iterate 2 walk1
   refine ⟨rfl, _, .cons rfl (.cons rfl (.cons rfl .nil)), txt ++ gs.flatten, cmds ++ [(e, xs)], behind e, _, by rw [List.foldl_append]; rfl, hT.next (by omega) hxl hm4.1 hpc, lets_behind he, ?_, ?_⟩
   ·rw [List.length_append]; omega
   ·rw [List.foldl_append]
    have := step_len (cmds.foldl PS.step ps) (e, xs)
    exact Nat.le_trans this (by omega)
 ·rintro _ ⟨txt, cmds, e, u, rfl, hT, he, htl, hfl⟩
  repeat' walk1
  exact hK _ _ [_, _] _ rfl ⟨txt, cmds, rfl, hT.done hc (by omega), rfl⟩

end
section --AK
section
variable {c : Cx} {D : List AV} {σ : As} {K : AV → As → Prop} {i j : Int}
end
theorem lwrongA {w : World} {d G : Addr} {ps : PS} {way : Nat} (hway : way < 7) (hdG : d ≠ G) (hl : ps.found.length ≤ 9000) (B : Led) (vs : List Value) (Mc : Led) (hA : DAll B [.d (.int way), .v (.ref d)] vs) (hM : MAll B (lpP w d G ps) Mc) :
  FnN w 511 vs 7 96 Mc B (PoA (fun r N' => ∃ p : Nat, wrongP way = some p ∧ r = .d (.tuple [.str (S (wrongT way)), .int p]) ∧ N' = lpP w d G ((wrongC way).foldl PS.step ps)) B) := by
 obtain ⟨v0, _, rfl, h0, h1⟩ := hA.two
 obtain rfl := h1
 tbr_iter (FnN.ofA hM (lpm_nd hdG) (fun r N' h => by obtain ⟨p, -, -, rfl⟩ := h; rfl) (.cons (x := Str.ofString "way") h0 (.cons (x := Str.ofString "pen") (a := .v (.ref d)) rfl .nil)))
 intro c K hw hB hd hu hok _ hK
 subst hw
 have fin : ∀ (l : List (Str × AV)) (p : Nat) (x : Str), S (wrongT way) = x → wrongP way = some p → K (.ret (.d (.tuple [.str x, .int p]))) ⟨l, lpP c.w d G ((wrongC way).foldl PS.step ps)⟩ := fun l p x e1 e2 => hK _ _ ⟨p, e2, by rw [e1]; rfl, rfl⟩
 iterate 5 walk1
 refine ACmp.eqI ?_
 walk1
 refine asplit (fun e0 => ?_) (fun e0 => ?_)
 ·obtain rfl : way = 0 := Int.ofNat_inj.mp e0
  repeat' walk1
  exact fin _ 1 _ (by decide +kernel) rfl
 iterate 6 walk1
 refine ACmp.eqI ?_
 walk1
 refine asplit (fun e1 => ?_) (fun e1 => ?_)
 ·obtain rfl : way = 1 := Int.ofNat_inj.mp e1
  repeat' walk1
  exact fin _ 4 _ (by decide +kernel) rfl
 iterate 6 walk1
 refine ACmp.eqI ?_
 walk1
 refine asplit (fun e2 => ?_) (fun e2 => ?_)
 ·obtain rfl : way = 2 := Int.ofNat_inj.mp e2
  repeat' walk1
  refine ANl.mk hok rfl rfl rfl ?_
  repeat' walk1
  refine ACal.M2 (fun B vs Mc hA hM => ldraw_a c.w (c := 76) (xs := [1, 2]) hdG (by decide) rfl (Nat.le_trans hl (by decide)) (by rw [← lit_L]; exact hA) hM) (room hd rfl) (roomu hu rfl) ?_
  repeat' walk1
  exact fin _ 9 _ (by decide +kernel) rfl
 iterate 6 walk1
 refine ACmp.eqI ?_
 walk1
 refine asplit (fun e3 => ?_) (fun e3 => ?_)
 ·obtain rfl : way = 3 := Int.ofNat_inj.mp e3
  repeat' walk1
  refine ANl.mk hok rfl rfl rfl ?_
  repeat' walk1
  refine ACal.M2 (fun B vs Mc hA hM => ldraw_a c.w (c := 76) (xs := [1, 2]) hdG (by decide) rfl (Nat.le_trans hl (by decide)) (by rw [← lit_L]; exact hA) hM) (room hd rfl) (roomu hu rfl) ?_
  repeat' walk1
  exact fin _ 9 _ (by decide +kernel) rfl
 iterate 6 walk1
 refine ACmp.eqI ?_
 walk1
 refine asplit (fun e4 => ?_) (fun e4 => ?_)
 ·obtain rfl : way = 4 := Int.ofNat_inj.mp e4
  repeat' walk1
  exact fin _ 9 _ (by decide +kernel) rfl
 iterate 6 walk1
 refine ACmp.eqI ?_
 walk1
 refine asplit (fun e5 => ?_) (fun e5 => ?_)
 ·obtain rfl : way = 5 := Int.ofNat_inj.mp e5
  repeat' walk1
  exact fin _ 5 _ (by decide +kernel) rfl
 obtain rfl : way = 6 := (((((((lt7 _ hway).resolve_left fun e => e0 (congrArg Int.ofNat e)).resolve_left fun e => e1 (congrArg Int.ofNat e)).resolve_left fun e => e2 (congrArg Int.ofNat e)).resolve_left fun e => e3 (congrArg Int.ofNat e)).resolve_left fun e => e4 (congrArg Int.ofNat e)).resolve_left fun e => e5 (congrArg Int.ofNat e))
 repeat' walk1
 refine ANl.mk hok rfl rfl rfl ?_
 repeat' walk1
 refine ACal.M2 (fun B vs Mc hA hM => ldraw_a c.w (c := 84) (xs := [3, 4]) hdG (by decide) rfl (Nat.le_trans hl (by decide)) (by rw [← lit_T]; exact hA) hM) (room hd rfl) (roomu hu rfl) ?_
 repeat' walk1
 exact fin _ 7 _ (by decide +kernel) rfl

end
section --QC
noncomputable def upc (c : Nat) : Nat := if 97 ≤ c ∧ c ≤ 122 then c - 32 else c
theorem upc_up {c : Nat} (h : c ∈ lets) : Txt.upper (S [c]) = S [upc c] := KOpn.upper_one ((by decide : ∀ c ∈ lets, c < 128) c h)
theorem near_1 {c : Nat} {ps : PS} {a : Int} : (near c ps).1 + a = mkN (decide (97 ≤ c)) ps.here.1 a := by
 unfold near
 by_cases h : 97 ≤ c <;> simp [h]
theorem near_2 {c : Nat} {ps : PS} {a : Int} : (near c ps).2 + a = mkN (decide (97 ≤ c)) ps.here.2 a := by
 unfold near
 by_cases h : 97 ≤ c <;> simp [h]
theorem near_P {c : Nat} {ps : PS} {a b : Int} : (mkN (decide (97 ≤ c)) ps.here.1 a, mkN (decide (97 ≤ c)) ps.here.2 b) = mkP (decide (97 ≤ c)) ps.here (a, b) := by
 cases decide (97 ≤ c) <;> rfl
theorem step_to {c : Nat} {ps : PS} (hc : c ∈ lets) : ∀ xs, ps.step (c, xs) = ps.to (upc c) (decide (97 ≤ c)) xs := by
 have e1 := (by decide : ∀ c ∈ lets, (c = 72 ∨ c = 104 ↔ upc c = 72) ∧ (c = 77 ∨ c = 109 ↔ upc c = 77) ∧ (c = 76 ∨ c = 108 ↔ upc c = 76)) c hc
 intro xs
 match xs with
 | [] => rfl
 | [a] => simp only [PS.step, PS.to, near_1, near_2, e1.1]
 | [a, b] => simp only [PS.step, PS.to, near_1, near_2, near_P, e1.2.1, e1.2.2]
 | [a, b, e] => rfl
 | [a, b, e, f] => simp only [PS.step, PS.to, near_1, near_2, near_P]
 | _ :: _ :: _ :: _ :: _ :: _ => rfl
section
variable {f : Fi} {c : Cx} {l : List (Str × AV)} {M : List (Addr × AO)} {D : List AV} {σ : As}
theorem ASub.tupV {K : AV → As → Prop} {H : Addr} {us : Array Value} {n : Nat} {v : Value} {e r : Expr} (i : Nat) (hm : (H, tupO us n) ∈ c.B) (hv : us.toList[i]? = some v) (hi : i < 100) (hs : Nsl r = true) (k : K (.v v) σ) : ASub (.v (.ref H)) (.d (.int i)) e r c D σ K := fun Q q h m N Mc ds vs t X y => by
 obtain ⟨v, _, rfl, y1, y2⟩ := y.two
 obtain rfl : v = .ref H := y1
 obtain ⟨t2, rfl⟩ := den_int y2
 exact item_tupleT (News.isTup X.W (mem_all (List.mem_append_right _ hm))) (by omega) (by omega) (seqIx rfl (by have := (List.getElem?_eq_some_iff.mp hv).1; simpa using this)) (by simpa using hv) (q _ _ k h m N Mc ds _ t X rfl) (Nsl.sub hs)
end
section
variable {w : World} {x d G : Addr} {B : Led} {vs : List Value} {Mc : Led} {s ct : AV} {kd : Str} {cl : Bool}
theorem pointZA {H : Addr} {n : Nat} {q : Int × Int} {rel : Bool} (hH : (H, tupO #[.ref 66, .ref 66] n) ∈ B) (hx : (x, instObj 406 d) ∈ B) (hA : DAll B [.v (.ref x), .d (.bool rel), .d (fr q.1), .d (fr q.2)] vs) (hM : MAll B [(d, AttA (penK (.v (.ref H)) s ct kd cl G))] Mc) :
  FnM w 354 vs 8 64 Mc B (PoA (Is1 (.d (P2 (mkP rel (0, 0) q))) [(d, AttA (penK (.v (.ref H)) s ct kd cl G))]) B) := by
 have e : mkP rel (0, 0) q = q := by cases rel <;> simp
 rw [e]
 cases rel with
 | false => exact pointA (hp := (0, 0)) (q := q) (rel := false) (fun e => nomatch e) hx hA hM
 | true =>
  obtain ⟨_, v1, v2, v3, rfl, h0, h1, h2, h3⟩ := hA.four
  obtain rfl := h0
  tbr_iter (FnM.ofA1 hM (by simp) (by rfl) (.cons (x := Str.ofString "self") (a := .v (.ref x)) rfl (.cons (x := Str.ofString "is_relative") h1 (.cons (x := Str.ofString "x") h2 (.cons (x := Str.ofString "y") h3 .nil)))))
  intro cx K hw hB hd hu hK
  subst hw
  have hx' := hB _ hx
  repeat' walk1
  refine ASub.tupV 0 (hB _ hH) rfl (by decide) rfl ?_
  repeat' walk1
  refine ACal.P plusZA (room hd rfl) (roomu hu rfl) ?_
  repeat' walk1
  refine ASub.tupV 1 (hB _ hH) rfl (by decide) rfl ?_
  repeat' walk1
  refine ACal.P plusZA (room hd rfl) (roomu hu rfl) ?_
  repeat' walk1
  exact hK _ _ rfl rfl
noncomputable def Pen0A (G : Addr) : AO where
 p B o := ∃ H S n k, (H, tupO #[.ref 66, .ref 66] n) ∈ B ∧ (S, tupO #[.ref 66, .ref 66] k) ∈ B ∧ PenD ⟨.ref H, .ref S, .none, Str.ofString "", false⟩ G o
 mono hs h := by
  obtain ⟨H, S, n, k, h1, h2, h3⟩ := h
  exact ⟨H, S, n, k, hs _ h1, hs _ h2, h3⟩
 nt h := by
  obtain ⟨H, S, n, k, h1, h2, h3⟩ := h
  exact NoTup.pen h3
theorem att_of {B : Led} {v : PenV} {o : Obj} {h s ct : AV} (hs : PenD v G o) (h1 : Den B h v.here) (h2 : Den B s v.start) (h3 : Den B ct v.control) : (AttA (penK h s ct v.kind v.closed G)).p B o := by
 cases hs
 exact ⟨_, rfl, .cons h1 (.cons h2 (.cons h3 (.cons (.str _ _) (.cons (.bool _) (.cons rfl .nil)))))⟩
noncomputable def PlM (d G : Addr) (i : Nat) (ps : PS) (M : List (Addr × AO)) : Prop :=
 (i = 0 ∧ M = [(d, Pen0A G), (G, LstA [])]) ∨ (0 < i ∧ ∃ ct, M = penM d G (.d (P2 ps.here)) (.d (P2 ps.start)) ct (kdOf ps.quad) ps.closed ps.found ∧ (ps.quad = true → ct = .d (P2 ps.ctl)))
theorem lets_6 {c : Nat} (h : c ∈ lets) : (upc c = 76 ∧ manyN c = 2) ∨ (upc c = 72 ∧ manyN c = 1) ∨ (upc c = 86 ∧ manyN c = 1) ∨ (upc c = 77 ∧ manyN c = 2) ∨ (upc c = 84 ∧ manyN c = 2) ∨ (upc c = 81 ∧ manyN c = 4) := by
 revert h
 exact (by decide : ∀ c ∈ lets, (upc c = 76 ∧ manyN c = 2) ∨ (upc c = 72 ∧ manyN c = 1) ∨ (upc c = 86 ∧ manyN c = 1) ∨ (upc c = 77 ∧ manyN c = 2) ∨ (upc c = 84 ∧ manyN c = 2) ∨ (upc c = 81 ∧ manyN c = 4)) c
theorem len_1 {xs : List Int} (h : xs.length = 1) : ∃ a, xs = [a] := List.length_eq_one_iff.mp h
theorem len_2 {xs : List Int} (h : xs.length = 2) : ∃ a b, xs = [a, b] := by
 match xs, h with
 | [a, b], _ => exact ⟨a, b, rfl⟩
theorem len_4 {xs : List Int} (h : xs.length = 4) : ∃ a b e f, xs = [a, b, e, f] := by
 match xs, h with
 | [a, b, e, f], _ => exact ⟨a, b, e, f, rfl⟩
theorem drawPl {M : List (Addr × AO)} {i : Nat} {ps : PS} {cmd : Cmd} (hdG : d ≠ G) (hc : cmd.1 ∈ lets) (hlen : cmd.2.length = manyN cmd.1) (h0 : i = 0 → cmd.1 ∈ [77, 109] ∧ ps = ps0) (hP : PlM d G i ps M) (hl : ps.found.length ≤ 10000) (hx : (x, instObj 406 d) ∈ B)
  (hA : DAll B [.v (.ref x), .d (.str (S [upc cmd.1])), .d (.bool (decide (97 ≤ cmd.1))), .d (.tuple (cmd.2.map fr))] vs) (hM : MAll B M Mc) : FnM w 424 vs 14 120 Mc B (PoA (DrwA d G (ps.step cmd)) B) := by
 obtain ⟨c, xs⟩ := cmd
 rw [step_to hc]
 dsimp only at hc hlen h0 hA
 rcases hP with ⟨rfl, rfl⟩ | ⟨hi, ct, rfl, hct⟩
 ·obtain ⟨hc', rfl⟩ := h0 rfl
  have hu := (by decide : ∀ c ∈ [77, 109], upc c = 77 ∧ manyN c = 2) c hc'
  obtain ⟨a, b, rfl⟩ := len_2 (hlen.trans hu.2)
  rw [hu.1] at hA ⊢
  cases hM with
  | cons h1 t =>
   obtain ⟨H, S, n, k, g1, g2, g3⟩ := h1
   exact drawPA (ps := ps0) (qs := [(a, b)]) hdG (.inl ⟨rfl, _, rfl⟩) (fun q B' vs Mc hB hA hM => pointZA (hB _ g1) (hB _ hx) hA hM) hl hx hA (.cons (att_of (h := .v (.ref H)) (s := .v (.ref S)) (ct := .d .none) g3 rfl rfl DatIn.none) t)
 ·have hk : Kept ps (.d (P2 ps.here)) (.d (P2 ps.start)) ct (kdOf ps.quad) ps.closed := ⟨rfl, rfl, rfl, rfl, hct⟩
  have hpt : ∀ q B' vs Mc, (∀ z ∈ B, z ∈ B') → DAll B' [.v (.ref x), .d (.bool (decide (97 ≤ c))), .d (fr q.1), .d (fr q.2)] vs → MAll B' [(d, AttA (penK (.d (P2 ps.here)) (.d (P2 ps.start)) ct (kdOf ps.quad) ps.closed G))] Mc → FnM w 354 vs 8 64 Mc B' (PoA (Is1 (.d (P2 (mkP (decide (97 ≤ c)) ps.here q))) [(d, AttA (penK (.d (P2 ps.here)) (.d (P2 ps.start)) ct (kdOf ps.quad) ps.closed G))]) B') :=
   fun q B' vs Mc hB hA hM => pointA (fun _ => rfl) (hB _ hx) hA hM
  rcases lets_6 hc with ⟨hu, hn⟩ | ⟨hu, hn⟩ | ⟨hu, hn⟩ | ⟨hu, hn⟩ | ⟨hu, hn⟩ | ⟨hu, hn⟩
  ·obtain ⟨a, b, rfl⟩ := len_2 (hlen.trans hn)
   rw [hu] at hA ⊢
   exact drawLA hdG (.inl ⟨rfl, a, b, rfl, rfl⟩) hk hl hx hA hM
  ·obtain ⟨a, rfl⟩ := len_1 (hlen.trans hn)
   rw [hu] at hA ⊢
   exact drawLA hdG (.inr (.inl ⟨rfl, a, rfl, rfl⟩)) hk hl hx hA hM
  ·obtain ⟨a, rfl⟩ := len_1 (hlen.trans hn)
   rw [hu] at hA ⊢
   exact drawLA hdG (.inr (.inr ⟨rfl, a, rfl, rfl⟩)) hk hl hx hA hM
  ·obtain ⟨a, b, rfl⟩ := len_2 (hlen.trans hn)
   rw [hu] at hA ⊢
   exact drawPA (qs := [(a, b)]) hdG (.inl ⟨rfl, _, rfl⟩) hpt hl hx hA hM
  ·obtain ⟨a, b, rfl⟩ := len_2 (hlen.trans hn)
   rw [hu] at hA ⊢
   exact drawPA (qs := [(a, b)]) hdG (.inr ⟨hk, .inl ⟨rfl, _, rfl⟩⟩) hpt hl hx hA hM
  ·obtain ⟨a, b, e, f, rfl⟩ := len_4 (hlen.trans hn)
   rw [hu] at hA ⊢
   exact drawPA (qs := [(a, b), (e, f)]) hdG (.inr ⟨hk, .inr ⟨rfl, _, _, rfl⟩⟩) hpt hl hx hA hM
end

end
section --Q13
noncomputable def WellC (cmds : List Cmd) : Prop := (∀ c ∈ cmds, (c.1 ∈ [90, 122] ∧ c.2 = []) ∨ (c.1 ∈ lets ∧ c.2.length = manyN c.1)) ∧ ∀ c r, cmds = c :: r → c.1 ∈ [77, 109]
noncomputable def segs (cmds : List Cmd) : List Dat := (cmds.foldl PS.step ps0).found
noncomputable def InsA (d : Addr) : AO where
 p _ o := o = instObj 406 d
 mono _ h := h
 nt h := by subst h; simp [NoTup, NF, instObj]
@[reducible] noncomputable def Cx.in1 (c : Cx) (z : Addr × Obj) : Cx := { c with J := z :: c.J, B := z :: c.B, hB := fun q h => (List.mem_cons.mp h).elim (fun e => e ▸ .head _) fun h => .tail _ (c.hB q h) }
theorem NewOk.in1 {c : Cx} {z : Addr × Obj} (h : NewOk c []) : NewOk (c.in1 z) [] := fun q h1 h2 h3 => h q (fun r hr => h1 r (.tail _ hr)) h2 h3
section
variable {f : Fi} {c : Cx} {l : List (Str × AV)} {M : List (Addr × AO)} {D : List AV} {σ : As} {x d : Addr}
theorem ASts.hold {K : AF → As → Prop} {b : List Stmt} (hok : NewOk c []) (H : ASts b f (c.in1 (x, instObj 406 d)) ⟨l, M⟩ K) : ASts b f c ⟨l, (x, InsA d) :: M⟩ K := fun Q q h m N Mc t X => by
 obtain ⟨Fx, Px, Wx, Sx, Mx, -⟩ := X
 cases Mx with
 | @cons _ _ o _ Mc hx hM =>
  obtain rfl : o = instObj 406 d := hx
  have hnd := List.nodup_cons.mp Sx.nd
  have hsub : ∀ z ∈ N ++ c.B, z ∈ N ++ (x, instObj 406 d) :: c.B := fun z hz => (List.mem_append.mp hz).elim (List.mem_append_left _) fun hz => List.mem_append_right _ (.tail _ hz)
  refine H Q (fun fl σ' k h' m' N' Mc' g t' Y y => ?_) h m N Mc t ⟨Fx, fun y a e => ?_, fun z hz => Wx z ?_, ⟨fun z hz => Sx.nt z (.tail _ hz), hnd.2, fun z hz e => ?_, Sx.ok⟩, hM.mono hsub, .nil⟩
  ·have e : ∀ {A : Led}, N' ++ (x, instObj 406 d) :: A = (N' ++ [(x, instObj 406 d)]) ++ A := fun {A} => by rw [List.append_assoc]; rfl
   refine q _ _ k h' m' (N' ++ [(x, instObj 406 d)]) Mc' g t' ⟨Y.F, fun y a e' => ?_, fun z hz => Y.W z ?_, ⟨Y.S.nt, Y.S.nd, fun z hz => Y.S.off z ?_, fun z hz => ?_⟩, ?_, .nil⟩ ?_
   ·rw [← e]; exact Y.P y a e'
   ·show z ∈ Mc' ++ (N' ++ (x, instObj 406 d) :: c.J)
    rw [e]; exact hz
   ·show z ∈ N' ++ (x, instObj 406 d) :: c.J
    rw [e]; exact hz
   ·refine (List.mem_append.mp hz).elim (Y.S.ok z) fun hz => ?_
    rw [List.mem_singleton.mp hz]
    exact hok _ (fun r hr e' => Sx.off r (List.mem_append_right _ hr) (by rw [e']; exact .head _)) (fun h => nomatch h) (.inr ⟨by simp [instObj], by simp [instObj]⟩)
   ·rw [← e]; exact Y.M
   ·rw [← e]; exact y
  ·obtain ⟨v, e, y⟩ := Px y a e
   exact ⟨v, e, y.mono hsub⟩
  ·rcases List.mem_append.mp hz with hz | hz
   ·exact List.mem_append_left _ (.tail _ hz)
   ·rcases List.mem_append.mp hz with hz | hz
    ·exact List.mem_append_right _ (List.mem_append_left _ hz)
    ·rcases List.mem_cons.mp hz with rfl | hz
     ·exact List.mem_append_left _ (.head _)
     ·exact List.mem_append_right _ (List.mem_append_right _ hz)
  ·rcases List.mem_append.mp hz with hz | hz
   ·exact Sx.off z (List.mem_append_left _ hz) (.tail _ e)
   ·rcases List.mem_cons.mp hz with rfl | hz
    ·exact hnd.1 e
    ·exact Sx.off z (List.mem_append_right _ hz) (.tail _ e)
theorem ACal.pen0 {K : AV → As → Prop} (hd : c.dp + 6 < recursionLimit) (hu : c.un + 20 < cLine) (H : ∀ x d G, d ≠ G → K (.v (.ref x)) ⟨l, [(x, InsA d), (d, Pen0A G), (G, LstA [])]⟩) : ACal (.ref 406) [] c D ⟨l, []⟩ K := fun Q q h m N Mc ds vs t X y => by
 cases y
 have hM : Mc = [] := by cases X.M; rfl
 subst hM
 refine pen_makeN X.F c.X c.T (X.W : News c.h₀ c.L h (N ++ c.J)) hd hu fun x d o G HH SS n k h' tk hp hdG hJd hJG hxG hdx F' W' => ?_
 have hsub : ∀ {a b : Addr × Obj}, ∀ z ∈ N ++ c.B, z ∈ (a :: b :: N) ++ c.B := fun z hz => .tail _ (.tail _ hz)
 have hto := fun (q : Addr × Obj) hq ht => news_tupOff (M := [(x, instObj 406 d), (d, o), (G, W.listOf [].toArray 0)]) W' (fun z hz => by
  simp only [List.mem_cons, List.not_mem_nil, or_false] at hz
  rcases hz with rfl | rfl | rfl
  ·exact ⟨.tail _ (.tail _ (.tail _ (.tail _ (.head _)))), by simp [NoTup, NF, instObj]⟩
  ·exact ⟨.head _, NoTup.pen hp⟩
  ·exact ⟨.tail _ (.head _), NoTup.lst⟩) (q := q) hq ht
 refine q _ _ (H x d G hdG) h' m ((HH, tupO #[.ref 66, .ref 66] n) :: (SS, tupO #[.ref 66, .ref 66] k) :: N) [(x, instObj 406 d), (d, o), (G, W.listOf [].toArray 0)] ds _ tk ⟨F', fun y a e => ?_, fun z hz => W' z ?_, ⟨fun z hz => ?_, ?_, fun z hz => ?_, fun z hz => ?_⟩, .cons rfl (.cons ⟨HH, SS, n, k, .head _, .tail _ (.head _), hp⟩ (.cons ⟨[], 0, rfl, .nil⟩ .nil)), X.D.mono hsub⟩ rfl
 ·obtain ⟨v, e, y⟩ := X.P y a e
  exact ⟨v, e, y.mono hsub⟩
 ·rcases List.mem_cons.mp hz with rfl | hz
  ·exact .tail _ (.tail _ (.tail _ (.tail _ (.head _))))
  ·rcases List.mem_cons.mp hz with rfl | hz
   ·exact .head _
   ·rcases List.mem_cons.mp hz with rfl | hz
    ·exact .tail _ (.head _)
    ·rcases List.mem_cons.mp hz with rfl | hz
     ·exact .tail _ (.tail _ (.head _))
     ·rcases List.mem_cons.mp hz with rfl | hz
      ·exact .tail _ (.tail _ (.tail _ (.head _)))
      ·exact .tail _ (.tail _ (.tail _ (.tail _ (.tail _ hz))))
 ·rcases List.mem_cons.mp hz with rfl | hz
  ·simp [NoTup, NF, instObj]
  ·rcases List.mem_cons.mp hz with rfl | hz
   ·exact NoTup.pen hp
   ·rw [List.mem_singleton.mp hz]; exact NoTup.lst
 ·exact List.nodup_cons.mpr ⟨by simp [Ne.symm (Nat.ne_of_lt hdx), hxG], List.nodup_cons.mpr ⟨by simpa using hdG, by simp⟩⟩
 ·rcases List.mem_cons.mp hz with rfl | hz
  ·exact hto _ (.tail _ (.tail _ (.head _))) ⟨_, _, rfl⟩
  ·rcases List.mem_cons.mp hz with rfl | hz
   ·exact hto _ (.tail _ (.tail _ (.tail _ (.head _)))) ⟨_, _, rfl⟩
   ·have := hJd z hz
    simp only [List.map_cons, List.map_nil, List.mem_cons, List.not_mem_nil, or_false, not_or]
    exact ⟨Nat.ne_of_lt (Nat.lt_trans this hdx), Nat.ne_of_lt this, hJG z hz⟩
 ·rcases List.mem_cons.mp hz with rfl | hz
  ·exact c.okT _ ⟨_, _, rfl⟩
  ·rcases List.mem_cons.mp hz with rfl | hz
   ·exact c.okT _ ⟨_, _, rfl⟩
   ·exact X.S.ok z hz
theorem AEv.hand {K : AV → As → Prop} {e : Expr} (hok : NewOk c []) (H : AEv e f c D σ (fun a σ' => ∃ l' M₁ G dl, a = .v (.ref G) ∧ σ' = ⟨l', M₁ ++ [(G, LstA dl)]⟩ ∧ K (.d (.list dl)) ⟨l', []⟩)) : AEv e f c D σ K := fun Q q h m N Mc ds t X =>
 H Q (fun a σ' k h m N Mc ds v t X y => by
  obtain ⟨l', M₁, G, dl, rfl, rfl, k⟩ := k
  obtain rfl : v = .ref G := y
  obtain ⟨sa, o, sz, rfl, -, ⟨us, n, rfl, hus⟩, hz⟩ := X.M.look
  cases hz
  have hsub : ∀ z ∈ N ++ c.B, z ∈ ((G, W.listOf us.toArray n) :: N) ++ c.B := fun z hz => .tail _ hz
  have hG : (G, W.listOf us.toArray n) ∈ sa ++ [(G, W.listOf us.toArray n)] := List.mem_append_right _ (.head _)
  refine q _ _ k h m ((G, W.listOf us.toArray n) :: N) [] ds _ t ⟨X.F, fun y a e => ?_, fun z hz => X.W z ?_, ⟨(fun _ h => nomatch h), .nil, (fun _ _ h => nomatch h), fun z hz => ?_⟩, .nil, X.D.mono hsub⟩ (.list (.head _) (hus.mono hsub))
  ·obtain ⟨v, e, y⟩ := X.P y a e
   exact ⟨v, e, y.mono hsub⟩
  ·rcases List.mem_cons.mp hz with rfl | hz
   ·exact List.mem_append_left _ hG
   ·exact List.mem_append_right _ hz
  ·rcases List.mem_cons.mp hz with rfl | hz
   ·exact hok _ (fun r hr e => X.S.off r (List.mem_append_right _ hr) (by rw [e]; exact List.mem_map_of_mem (f := (·.1)) hG)) (fun h => nomatch h) NoTup.lst.2
   ·exact X.S.ok z hz) h m N Mc ds t X
noncomputable def TurnsL (tgt : Expr) (body : List Stmt) (f : Fi) (c : Cx) (I : Nat → As → Prop) (dl : List Dat) : Prop :=
 ∀ own s₁ i d0 σ₁, dl[i]? = some d0 → OwnOk c own → I i σ₁ → AAsg tgt f (.d d0) (c.own own s₁) [] σ₁ (fun σ₂ => ASts body f (c.own own s₁) σ₂ (fun fl σ₃ => fl = .next ∧ EndT (I (i + 1)) σ₃))
theorem ASt.forL {K : AF → As → Prop} {tgt e : Expr} {body : List Stmt} {pos : Pos} {g : Addr} {vs : List Value} {k : Nat} {dl : List Dat} (hE : PassesOwn (MD c.w) c.A (c.env f) c.E) (hl : (g, W.listOf vs.toArray k) ∈ c.B) (hda : DatAll c.B vs dl) (hs : ∀ v, foldedSetIterable e (c.env f) v = pure v)
  (H : AEv e f c [] σ (fun a σ₁ => ∃ (I : Nat → As → Prop), a = .v (.ref g) ∧ I 0 σ₁ ∧ TurnsL tgt body f c I dl ∧ ∀ σ₂, I dl.length σ₂ → K .next σ₂)) : ASt (.For tgt e body [] pos) f c σ K := fun Q q h m N Mc t X => by
 refine For_invTF X.F (H (fun _ v s₁ => wpAny _ _ (pyIter v) (fun it s₂ => LoopAtT PySem.Challenge.rw_on0248_01.prog c.w c.A c.h₀ (c.env f) tgt body Q c.E it s₂) c.E s₁) (fun a σ₁ k₁ h m N Mc ds v t X y => ?_) h m N Mc [] t X) hs hE
 obtain rfl := X.nil
 obtain ⟨I, rfl, h0, T, Dn⟩ := k₁
 obtain rfl : v = .ref g := y
 have hin : ∀ {Mc N : Led}, (g, W.listOf vs.toArray k) ∈ c.all Mc N := mem_all (List.mem_append_right _ hl)
 refine iter_listT (ALJ c I) rfl hin X.F X.W ⟨σ₁, N, Mc, h0, X.P, X.S, X.M, rfl⟩ ?_ ?_
 ·rintro i v m₁ _ s₁ own hv hcl hown - ⟨σ₁, N₁, Mc₁, hI, hP, hS, hM, rfl⟩ F₁ W₁
  have hok : OwnOk c own := ⟨fun q hq => ⟨.inr (by rw [hcl q hq]; exact ⟨by simp, by simp⟩), by rw [hcl q hq]; simp, by rw [hcl q hq]; simp⟩, fun q hq r hr => hown q hq r.1 (List.mem_map_of_mem (f := (·.1)) (List.mem_append_right _ (List.mem_append_right _ hr)))⟩
  have Y : Cs (c.own own s₁) [] σ₁ s₁.heap m₁ N₁ Mc₁ [] := Cs.under hok ⟨F₁, hP, fun z hz => W₁ z (List.mem_append_left _ hz), hS, hM, .nil⟩ (fun z hz => W₁ z ((List.mem_append.mp hz).elim (List.mem_append_right _) (List.mem_append_left _))) fun z hz q hq => hown z hz q.1 (List.mem_map_of_mem (f := (·.1)) ((List.mem_append.mp hq).elim (List.mem_append_left _) fun hq => List.mem_append_right _ (List.mem_append_left _ hq)))
  have hlt : i < dl.length := by rw [← hda.length]; exact (List.getElem?_eq_some_iff.mp hv).1
  obtain ⟨v', hv', hd'⟩ := datAll_get hda (List.getElem?_eq_getElem hlt)
  obtain rfl := Option.some.inj (hv.symm.trans hv')
  refine T own s₁ i _ σ₁ (List.getElem?_eq_getElem hlt) hok hI (fun _ s₃ => wpAny _ _ (execs body (c.env f)) (fun f s₂ => f = .next ∧ InvEndG c.h₀ c.L (fun m' nx => (g, W.listOf vs.toArray k) ∈ nx ∧ ALJ c I (i + 1) m' nx) own s₁ s₂) c.E s₃) (fun σ₂ k₂ h₂ m₂ N₂ Mc₂ ds t₂ Y₂ => ?_) s₁.heap m₁ N₁ Mc₁ [] [v] s₁.toks Y (.cons (DatIn.mono (fun q hq => List.mem_append_right _ hq) hd') .nil)
  obtain rfl := Y₂.nil
  refine k₂ _ (fun fl σ₃ k₃ h₃ m₃ N₃ Mc₃ g' t₃ Y₃ y₃ => ?_) h₂ m₂ N₂ Mc₂ t₂ Y₂
  obtain ⟨rfl, k₃⟩ := k₃
  obtain rfl : g' = .next := y₃
  obtain ⟨a1, a2, a3, a4, a5, a6, a7, a8, a9, a10, a11, a12⟩ := Cs.endT (s₁ := s₁) (t := t₃) hok Y₃ k₃
  have a13 := a12
  obtain ⟨_, _, _, _, _, _, _, e⟩ := a13
  exact ⟨rfl, a1, a2, a3, a4, a5, a6, a7, a8, a9, a10, a11, by rw [e]; exact hin, a12⟩
 ·rintro m₁ _ h₁ tk ⟨σ₁, N₁, Mc₁, hI, hP, hS, hM, rfl⟩ F₁ W₁
  rw [hda.length] at hI
  exact q _ _ (Dn σ₁ hI) h₁ m₁ N₁ Mc₁ _ tk ⟨F₁, hP, W₁, hS, hM, .nil⟩ rfl
end
theorem ASts.pen0 {f : Fi} {c : Cx} {l : List (Str × AV)} {M : List (Addr × AO)} {d G : Addr} {K : AF → As → Prop} {b : List Stmt} (H : ∀ h s, ASts b f c ⟨l, (d, AttA (penK (.v (.ref h)) (.v (.ref s)) (.d .none) (Str.ofString "") false G)) :: M⟩ K) : ASts b f c ⟨l, (d, Pen0A G) :: M⟩ K := fun Q q h m N Mc t X => by
 obtain ⟨Fx, Px, Wx, Sx, Mx, Dx⟩ := X
 cases Mx with
 | cons h1 hM =>
  obtain ⟨H', S', n, k, g1, g2, g3⟩ := h1
  exact H H' S' Q q h m N _ t ⟨Fx, Px, Wx, Sx, .cons (att_of (h := .v (.ref H')) (s := .v (.ref S')) (ct := .d .none) g3 rfl rfl DatIn.none) hM, Dx⟩
theorem PlM.two {d G : Addr} {i : Nat} {ps : PS} {M : List (Addr × AO)} (h : PlM d G i ps M) : ∃ a b, M = [(d, a), (G, b)] := by
 rcases h with ⟨-, rfl⟩ | ⟨-, _, rfl, -⟩ <;> exact ⟨_, _, rfl⟩
theorem plainA {w : World} {f : Addr} {us : List Value} {k : Nat} {cmds : List Cmd} {B : Led} (hf : (f, W.listOf us.toArray k) ∈ B) (hda : DatAll B us (cmds.map cmdD)) (hw : WellC cmds) (hl : cmds.length ≤ 4000) : FnN w 431 [.ref f] 20 200 [] B (PoA (fun r N' => r = .d (.list (segs cmds)) ∧ N' = []) B) := by
 tbr_iter (FnN.ofA .nil .nil (fun r N' h => by rw [h.2]) (.cons (x := Str.ofString "commands") (a := .v (.ref f)) rfl .nil))
 intro cx K hw' hB hd hu hok hE hK
 subst hw'
 repeat' walk1
 refine ACal.pen0 (room hd rfl) (roomu hu rfl) fun x d G hdG => ?_
 iterate 1 walk1
 refine ASts.hold hok ?_
 have hx : (x, instObj 406 d) ∈ (cx.in1 (x, instObj 406 d)).B := .head _
 have hok' := hok.in1 (z := (x, instObj 406 d))
 refine ASts.cons (ASt.forL (c := cx.in1 (x, instObj 406 d)) (hE _) (.tail _ (hB _ hf)) (hda.mono fun q hq => .tail _ (hB _ hq)) (fun _ => rfl) ?_)
 iterate 1 walk1
 refine ⟨fun i σ => ∃ M, σ = ⟨[(Str.ofString "pen", .v (.ref x)), (Str.ofString "commands", .v (.ref f))], M⟩ ∧ PlM d G i ((cmds.take i).foldl PS.step ps0) M, rfl, ⟨_, rfl, .inl ⟨rfl, rfl⟩⟩, ?_, ?_⟩
 ·rintro own s₁ i d0 _ hd0 hown ⟨M, rfl, hP⟩
  rw [List.getElem?_map] at hd0
  obtain ⟨cmd, hcmd, rfl⟩ := Option.map_eq_some_iff.mp hd0
  have hmem := List.mem_of_getElem? hcmd
  have hstep : (cmds.take (i + 1)).foldl PS.step ps0 = ((cmds.take i).foldl PS.step ps0).step cmd := by
   rw [List.take_add_one, hcmd, List.foldl_append]; rfl
  have hlen : ((cmds.take i).foldl PS.step ps0).found.length ≤ 10000 := by
   have := fold_len (cmds.take i) ps0
   have := List.length_take_le' i cmds
   have e : ps0.found.length = 0 := rfl
   omega
  have h0 : i = 0 → cmd.1 ∈ [77, 109] ∧ (cmds.take i).foldl PS.step ps0 = ps0 := fun e => by
   subst e
   cases cmds with
   | nil => cases hcmd
   | cons c r => cases hcmd; exact ⟨hw.2 _ _ rfl, rfl⟩
  generalize (cmds.take i).foldl PS.step ps0 = ps at hP hlen h0 hstep
  obtain ⟨a, b, rfl⟩ := hP.two
  have hx2 : (x, instObj 406 d) ∈ ((cx.in1 (x, instObj 406 d)).own own s₁).B := .head _
  obtain ⟨u, xs⟩ := cmd
  show AAsg _ _ (.d (.tuple [.str (S [u]), .tuple (xs.map fr)])) _ _ _ _
  repeat' walk1
  have fin : ∀ ct M, M = penM d G (.d (P2 (ps.step (u, xs)).here)) (.d (P2 (ps.step (u, xs)).start)) ct (kdOf (ps.step (u, xs)).quad) (ps.step (u, xs)).closed (ps.step (u, xs)).found → ((ps.step (u, xs)).quad = true → ct = .d (P2 (ps.step (u, xs)).ctl)) → AF.next = .next ∧ EndT ((fun i σ => ∃ M, σ = ⟨[(Str.ofString "pen", .v (.ref x)), (Str.ofString "commands", .v (.ref f))], M⟩ ∧ PlM d G i ((cmds.take i).foldl PS.step ps0) M) (i + 1)) ⟨(Str.ofString "numbers", .d (.tuple (xs.map fr))) :: (Str.ofString "letter", .d (.str (S [u]))) :: (Str.ofString "pen", .v (.ref x)) :: [(Str.ofString "commands", .v (.ref f))], M⟩ := fun ct M e hct => ⟨rfl, _, .cons rfl (.cons rfl .nil), M, rfl, by rw [hstep]; exact .inr ⟨Nat.succ_pos _, ct, e, hct⟩⟩
  rcases hw.1 _ hmem with ⟨hz, hnil⟩ | ⟨hc, hlen2⟩
  ·refine ACmp.inS (r := true) (inZz.trans (decide_eq_true hz)) ?_
   obtain rfl : xs = [] := hnil
   rcases hP with ⟨hi, -⟩ | ⟨-, ct, e, hct⟩
   ·have := (h0 hi).1
    simp only [List.mem_cons, List.not_mem_nil, or_false] at hz this
    omega
   cases e
   repeat' walk1
   refine ACal.M2B (c := (cx.in1 (x, instObj 406 d)).own own s₁) (fun B vs Mc hB hA hM => closeA' hdG (fun _ => rfl) hlen (hB _ hx2) hA hM) (room hd rfl) (roomu hu rfl) ?_
   iterate 2 walk1
   exact fin _ _ rfl (fun e => nomatch e)
  ·refine ACmp.inS (r := false) (inZz.trans (decide_eq_false (lets_reads hc).2.2)) ?_
   repeat' walk1
   refine ACal.upper (upc_up hc) (fit_upper (by rw [S_len]; exact (by decide : 1 ≤ 5592405))) ?_
   repeat' walk1
   refine ACal.islower (islow hc) ?_
   repeat' walk1
   refine ACal.MrB (c := (cx.in1 (x, instObj 406 d)).own own s₁) (M₀ := [_, _]) (M₁ := []) (fun B vs Mc hB hA hM => drawPl (cmd := (u, xs)) hdG hc hlen2 h0 hP hlen (hB _ hx2) hA hM) (room hd rfl) (roomu hu rfl) ?_
   rintro _ _ ⟨rfl, ct, rfl, hct⟩
   iterate 2 walk1
   exact fin _ _ rfl hct
 ·rintro _ ⟨M, rfl, hP⟩
  rw [List.length_map, List.take_length] at hP
  rcases hP with ⟨h0, rfl⟩ | ⟨-, ct, rfl, -⟩
  ·obtain rfl := List.length_eq_zero_iff.mp h0
   refine ASts.pen0 fun h s => ?_
   refine ASts.cons (ASt.ret (AEv.hand hok' ?_))
   iterate 2 walk1
   refine AGet.g0 hx (fun _ => ⟨by k_is, by k_is, by k_is⟩) rfl rfl ?_
   exact ⟨_, [_], G, _, rfl, rfl, hK (.ret (.d (.list []))) _ ⟨rfl, rfl⟩⟩
  ·refine ASts.cons (ASt.ret (AEv.hand hok' ?_))
   iterate 2 walk1
   refine AGet.g0 hx (fun _ => ⟨by k_is, by k_is, by k_is⟩) rfl rfl ?_
   exact ⟨_, [_], G, _, rfl, rfl, hK (.ret (.d (.list _))) _ ⟨rfl, rfl⟩⟩
theorem plain_fn (w : World) {f : Addr} {vs : List Value} {k : Nat} {cmds : List Cmd} {J : Led} (hf : (f, W.listOf vs.toArray k) ∈ J) (hda : DatAll J vs (cmds.map cmdD)) (hw : WellC cmds) (hl : cmds.length ≤ 4000) :
  FnN w 431 [.ref f] 20 200 [] J (fun r M' add => ∃ g gs n, r = .ref g ∧ M' = [] ∧ (g, W.listOf gs.toArray n) ∈ add ++ J ∧ DatAll (add ++ J) gs (segs cmds)) :=
 FnN.imp (plainA hf hda hw hl) (fun _ h => h) fun r M' add ⟨_, _, ⟨rfl, rfl⟩, hr, hM⟩ => by
  cases hM
  obtain ⟨T, us, n, rfl, hm, hus⟩ := den_lst hr
  exact ⟨T, us, n, rfl, rfl, hm, hus⟩

end
section --Q14
noncomputable def FaultV (res : Option Nat) (fv : Value) (nx : Led) : Prop := (fv = .none ∧ res = none) ∨ ∃ e dE oE us sl p, fv = .ref e ∧ (e, (⟨.ref 63, some dE, .fields us, sl⟩ : Obj)) ∈ nx ∧ (dE, oE) ∈ nx ∧ FaultAt p oE ∧ res = some p
theorem FaultV.mono {res : Option Nat} {fv : Value} {nx nx' : Led} (h : FaultV res fv nx) (hs : ∀ q ∈ nx, q ∈ nx') : FaultV res fv nx' := by
 rcases h with h | ⟨e, dE, oE, us, sl, p, h1, h2, h3, h4, h5⟩
 ·exact .inl h
 ·exact .inr ⟨e, dE, oE, us, sl, p, h1, hs _ h2, hs _ h3, h4, h5⟩
noncomputable def KeepP (res : List Cmd × Option Nat) (r : Value) (nx : Led) : Prop :=
 ∃ T n g gs k fv, r = .ref T ∧ (T, tupO #[.ref g, fv] n) ∈ nx ∧ (g, W.listOf gs.toArray k) ∈ nx ∧ DatAll nx gs (segs res.1) ∧ FaultV res.2 fv nx
theorem apart_frs {h₀ h : Heap} {L : Addr} {l frs base : Led} {fr : List Env} {q : Addr × Obj} (N : News h₀ L h l) (Fs : Frs fr frs) (hf : ∀ q ∈ frs, q ∈ l) (hq : q ∈ l) (ha : Apart base q) (hb : ∀ r ∈ frs, r ∈ base) : ∀ r ∈ frs, q.1 ≠ r.1 := by
 rcases ha with ht | ⟨ha, -⟩
 ·exact nd_off N Fs hf hq ht.noDict
 ·exact fun r hr e => ha r (hb r hr) e.symm
theorem keep_fn (w : World) {cs : List Nat} {t : Tok} {n : Nat} {res : List Cmd × Option Nat} (hok : OkT cs) (hlen : cs.length ≤ 10000) (hn : n ≤ 5000) (g : StR cs n [] none 0 res) (hw : WellC res.1) (hl : res.1.length ≤ 4000) : FnY w 438 [.str (S cs) t] 44 440 [] (KeepP res) := by
 tbr_iter (FnY.of [(Str.ofString "text", .str (S cs) t)])
 intro p loose mean mg mb fl gd dp un h₀ L h tk s Dn frs X T F N Fs hS hd hu
 replace N : News h₀ L h (Dn ++ frs) := N
 replace hS : ∀ q ∈ Dn, Safe frs q := hS
 k_steps
 refine FnY.use (kept_fn w hok hlen hn g) (Dn := Dn) (frs := frs) (by assumption) X T (by assumption) rfl (fun hk => nomatch hk) Fs hS (by omega) (by omega) ?_
 rintro r h₁ tk₁ nx frs₁ ⟨T₁, n₁, f, vs, k, fv, rfl, hT₁, hf, hda, hfv⟩ u F₁ N₁ hap
 have hfV : FaultV res.2 fv nx := hfv
 have Fs₁ := Fs.up u
 have hT₁' : (T₁, tupO #[.ref f, fv] n₁) ∈ nx ++ (Dn ++ frs₁) := List.mem_append_left _ hT₁
 clear F N
 k_steps
 refine FnN.use (plain_fn w hf hda hw hl) (JD := nx ++ (Dn ++ frs₁)) (by assumption) X T (by assumption) (fun q hq => List.mem_append_left _ hq) (fun _ h => nomatch h) (fun _ _ h => nomatch h) (by omega) (by omega) ?_
 rintro _ h₂ tk₂ M' add ⟨g₂, gs, n₂, rfl, rfl, hg, hgd⟩ - - hapt F₂ N₂
 replace N₂ : News h₀ L h₂ (add ++ (nx ++ (Dn ++ frs₁))) := N₂
 replace hapt : ∀ q ∈ add, Apart (nx ++ (Dn ++ frs₁)) q := hapt
 k_steps
 rename Fr _ _ _ _ => F₇
 rename News _ _ _ _ => N₇
 rename_i T₆ h₆ l6
 have N₈ := news_mem (l' := ((T₆, tupO #[.ref g₂, fv] 0) :: (add ++ nx)) ++ (Dn ++ frs₁)) N₇ fun q hq => by
  exact su_at hq (by bits_by_make)
 have hin : ∀ q ∈ frs₁, q ∈ ((T₆, tupO #[.ref g₂, fv] 0) :: (add ++ nx)) ++ (Dn ++ frs₁) := fun q hq => by simp [hq]
 refine ⟨_, _, _, (T₆, tupO #[.ref g₂, fv] 0) :: (add ++ nx), frs₁, rfl, u, F₇, N₈, ⟨T₆, 0, g₂, gs, n₂, fv, rfl, .head _, .tail _ hg, hgd.mono fun q hq => .tail _ hq, hfV.mono fun q hq => by simp [hq]⟩, fun q hq => ?_⟩
 rcases List.mem_cons.mp hq with rfl | hq
 ·exact nd_off N₈ Fs₁ hin (by simp) (fun es n k => by cases k)
 ·rcases List.mem_append.mp hq with hq | hq
  ·exact apart_frs N₈ Fs₁ hin (by simp [hq]) (hapt q hq) fun r hr => by simp [hr]
  ·exact hap q hq

end
section --Q15
noncomputable def placeD : Option Nat → Dat
 | none => .none
 | some p => .int (p : Int)
theorem lookIn_of {h : Heap} {a : Addr} {o : Obj} {m : Str → Option Value} {name : Str} {v : Value} (D : DictM o m) (ho : h.get? a = some o) (hm : m name = some v) : lookIn name o = some (some v) := by
 obtain ⟨o', es, ep, e, d, -, -, hf⟩ := D.2 h a ho
 rw [ho] at e
 obtain rfl := Option.some.inj e
 have := (hf name).trans hm
 obtain ⟨l⟩ := es
 simp only [nsFind, findBy, List.find?_toArray] at this
 obtain ⟨en, h1, h2⟩ := Option.map_eq_some_iff.mp this
 unfold lookIn
 rw [d]
 dsimp only
 rw [h1, ← h2]
section
variable {prog : Program} {w : World} {A : Around} {E : Value → Shared → Prop} {h : Heap} {g : Array GenState} {d : Drawn} {t : Nat} {os : OsState} {a dE : Addr} {o oE : Obj} {us : Array Value} {sl : Array (Option Value)} {v : Value} {name : Str}
theorem check63 {M : Model} {nameV : Value} {Q : Unit → Shared → Prop} (X : (heapK w.params).In h) (hx : h.get? a = some o) (hc : o.cls = .ref 63) (hq : Q () ⟨h, g, d, t, os⟩) : wpAny M A (checkBuiltinCall "BaseException.__getattribute__" ⟨[.ref a, nameV], []⟩) Q E ⟨h, g, d, t, os⟩ := by
 obtain ⟨nm, q, bs, sn, sub, ab, col, dd, k0, k1, k2, k3, k5, newId, hC, -⟩ := cls63 w X
 have hk : builtinKind "BaseException.__getattribute__" = some .slot := by decide +kernel
 have hsplit : splitId "BaseException.__getattribute__" = some ("BaseException", "__getattribute__") := by decide +kernel
 have hcB : (Value.ref 63 :: [.ref 31, .type "Exception", .type "BaseException", .type "object"]).contains (.type "BaseException") = true := by decide +kernel
 have ha := F.args_bexc_ga (.ref a) nameV
 simp only [checkBuiltinCall, hk, hsplit]
 refine wpAny_bind ?_
 ·unfold isInstance
  repeat (first | (with_reducible refine wpAny_loadPart_at hx ?_; rw [hc]) | (with_reducible refine wpAny_isSubtype_exc hC ?_; rw [hcB]) | wp_step)
  exact hq
theorem entry63 {tk : Tok} {Q : Fin → Shared → Prop} (X : (heapK w.params).In h) (I : InstAt h a o 63 (some oE)) (hf : findObj (heapK w.params) 63 (some oE) name = some (.value v)) (hq : Q (.done (.ret v)) ⟨h, g, d, t, os⟩) :
  wpAny (model prog w) A (Builtin.«object.__getattribute__» ⟨[.ref a, .str name tk], []⟩) Q E ⟨h, g, d, t, os⟩ := by
 have L0 := I.type (M := model prog w)
 have L3 := looks_find (M := model prog w) X I hf
 repeat (any_goals (first | assumption | with_reducible refine L0.at ?_ | with_reducible refine L3.at ?_ | wp_step))
theorem getattr63 {tk : Tok} {fill expr : Bool} {Q : Value → Shared → Prop} (X : (heapK w.params).In h) (I : InstAt h a o 63 (some oE)) (hf : findObj (heapK w.params) 63 (some oE) name = some (.value v)) (hh : handedIn v = true) (hq : Q v ⟨h, g, d, t, os⟩) :
  wpAny (model prog w) A (getAttrBy (.ref a) (.str name tk) fill expr) Q E ⟨h, g, d, t, os⟩ := by
 have L0 := I.type (M := model prog w)
 have L1 : Looks (model prog w) h (typeLookup (.ref 63) "__getattribute__") (some (.builtin "BaseException.__getattribute__")) := looks_findIn X (by kernel_rfl)
 have L2 : Looks (model prog w) h (typeLookup (.ref 63) "__getattr__") none := looks_findIn X (by kernel_rfl)
 have f3 := PySem.F.attr_Exception.ga.bind (.ref a)
 have hx0 : (expr && onTheHeap (Value.builtin "BaseException.__getattribute__")) = false := by cases expr <;> rfl
 have hx2 : (Value.builtin "BaseException.__getattribute__" == Value.builtin "object.__getattribute__") = false := by decide +kernel
 have hx1 : (onTheHeap (Value.ref 63) && Value.builtin "BaseException.__getattribute__" == Value.builtin "object.__getattribute__") = false := by rw [hx2]; rfl
 have hho := handedOut_of hh
 repeat (any_goals (first | assumption | with_reducible refine L0.at ?_ | with_reducible refine L1.at ?_ | with_reducible refine L2.at ?_ | wp_step))
 refine codeAny_call_builtin PySem.F.attr_Exception.ga.plain F.entry_bexc_ga (check63 X I.at_ I.cls (entry63 X I hf ?_))
 show wpAny _ _ (handedOut v) _ _ _
 rw [hho]
 exact wpAny_pure hq
end
theorem place_get (w : World) {A : Around} {E : Value → Shared → Prop} {s : Shared} {h₀ : Heap} {L e dE : Addr} {m mE : Str → Option Value} {l : Led} {us : Array Value} {sl : Array (Option Value)} {oE : Obj} {p : Int} {t : Tok} {expr : Bool} {Q : Value → Shared → Prop}
  (X : (heapK w.params).In h₀) (F : Fr h₀ L s.heap m) (N : News h₀ L s.heap l) (he : (e, (⟨.ref 63, some dE, .fields us, sl⟩ : Obj)) ∈ l) (hd : (dE, oE) ∈ l) (hD : DictM oE mE) (hp : mE (Str.ofString "place") = some (.int p t)) (h : Q (.int p t) { s with toks := s.toks + 1 }) :
  wpAny (MD w) A (getAttr (.ref e) (Str.ofString "place") expr) Q E s := by
 have I : InstAt s.heap e ⟨.ref 63, some dE, .fields us, sl⟩ 63 (some oE) := ⟨(N _ he).1, rfl, rfl, (N _ hd).1⟩
 have hf : findObj (heapK w.params) 63 (some oE) (Str.ofString "place") = some (.value (.int p t)) := findObj_own (attr := none) (by kernel_rfl) (by kernel_rfl) (by kernel_rfl) (lookIn_of hD (N _ hd).1 hp)
 have X' := X.keeps F.keep
 obtain ⟨hh, g, d, tk, os⟩ := s
 unfold getAttr
 refine wpAny_bind (wpAny_mkText ?_)
 exact getattr63 X' I hf rfl h
theorem told_fn (w : World) {cs : List Nat} {t : Tok} {n : Nat} {res : List Cmd × Option Nat} (hok : OkT cs) (hlen : cs.length ≤ 10000) (hn : n ≤ 5000) (g : StR cs n [] none 0 res) (hw : WellC res.1) (hl : res.1.length ≤ 4000) :
  FnY w 518 [.str (S cs) t] 48 480 [] (fun r nx => DatIn nx r (.tuple [.list (segs res.1), placeD res.2])) := by
 tbr_iter (FnY.of [(Str.ofString "text", .str (S cs) t)])
 intro p loose mean mg mb fl gd dp un h₀ L h tk s Dn frs X T F N Fs hS hd hu
 replace N : News h₀ L h (Dn ++ frs) := N
 replace hS : ∀ q ∈ Dn, Safe frs q := hS
 k_steps
 refine FnY.use (keep_fn w hok hlen hn g hw hl) (Dn := Dn) (frs := frs) (by assumption) X T (by assumption) rfl (fun hk => nomatch hk) Fs hS (by omega) (by omega) ?_
 rintro r h₁ tk₁ nx frs₁ ⟨T₁, n₁, f, vs, k, fv, rfl, hT₁, hf, hda, hfv⟩ u F₁ N₁ hap
 have Fs₁ := Fs.up u
 have hT₁' : (T₁, tupO #[.ref f, fv] n₁) ∈ nx ++ (Dn ++ frs₁) := List.mem_append_left _ hT₁
 clear F N
 rcases hfv with ⟨rfl, hr2⟩ | ⟨e, dE, oE, us, sl, p', rfl, he, hdE, hfa, hr2⟩
 ·k_steps
  rename Fr _ _ _ _ => F₇
  rename News _ _ _ _ => N₇
  rename_i T₆ h₆ l6
  have N₈ := news_mem (l' := ((T₆, tupO #[.ref f, .none] 0) :: nx) ++ (Dn ++ frs₁)) N₇ fun q hq => hq
  have hin : ∀ q ∈ frs₁, q ∈ ((T₆, tupO #[.ref f, .none] 0) :: nx) ++ (Dn ++ frs₁) := fun q hq => by simp [hq]
  refine ⟨_, _, _, (T₆, tupO #[.ref f, .none] 0) :: nx, frs₁, rfl, u, F₇, N₈, ?_, fun q hq => ?_⟩
  ·rw [hr2]
   exact .tuple (vs := [_, _]) (.head _) (.cons (.list (.tail _ hf) (hda.mono fun q hq => .tail _ hq)) (.cons .none .nil))
  ·rcases List.mem_cons.mp hq with rfl | hq
   ·exact nd_off N₈ Fs₁ hin (by simp) (fun es n k => by cases k)
   ·exact hap q hq
 ·obtain ⟨mE, tE, hmE, hpl⟩ := hfa
  have he' : (e, (⟨.ref 63, some dE, .fields us, sl⟩ : Obj)) ∈ nx ++ (Dn ++ frs₁) := List.mem_append_left _ he
  have hdE' : (dE, oE) ∈ nx ++ (Dn ++ frs₁) := List.mem_append_left _ hdE
  k_steps
  refine place_get w X (by assumption) (by assumption) he' hdE' hmE hpl ?_
  k_steps
  rename Fr _ _ _ _ => F₇
  rename News _ _ _ _ => N₇
  rename_i T₆ h₆ l6
  have N₈ := news_mem (l' := ((T₆, tupO #[.ref f, .int (p' : Int) tE] 0) :: nx) ++ (Dn ++ frs₁)) N₇ fun q hq => hq
  have hin : ∀ q ∈ frs₁, q ∈ ((T₆, tupO #[.ref f, .int (p' : Int) tE] 0) :: nx) ++ (Dn ++ frs₁) := fun q hq => by simp [hq]
  refine ⟨_, _, _, (T₆, tupO #[.ref f, .int (p' : Int) tE] 0) :: nx, frs₁, rfl, u, F₇, N₈, ?_, fun q hq => ?_⟩
  ·rw [hr2]
   exact .tuple (vs := [_, _]) (.head _) (.cons (.list (.tail _ hf) (hda.mono fun q hq => .tail _ hq)) (.cons (.int _ _) .nil))
  ·rcases List.mem_cons.mp hq with rfl | hq
   ·exact nd_off N₈ Fs₁ hin (by simp) (fun es n k => by cases k)
   ·exact hap q hq

end
section --BD
section
variable {prog : Program} {w : World} {A : Around} {E : Value → Shared → Prop} {s : Shared} {h₀ : Heap} {L : Addr} {news : Led} {va vb : Value} {d : Dat} {Q : Value → Shared → Prop}
theorem dat_same (N : News h₀ L s.heap news) (Da : DatIn news va d) (Db : DatIn news vb d) (hk : kqdOk 9 d = true) (hu : A.units + 64 < cLine) (h : Q (.bool false) s) : wpAny (model prog w) A (compareOp .NotEq va vb) Q E s := by
 obtain ⟨as, ra⟩ := kqd_in N 9 Da hk
 obtain ⟨bs, rb⟩ := kqd_in N 9 Db hk
 have la := kqd_lay 9 d hk
 have e : PyData.eqv (kqdP d) (kqdP d) = true := (kqd_eqv 9 d d 9 hk hk).mpr rfl
 refine ne_dataH ra rb ?_ ?_ hu (by rw [e]; exact h)
 ·unfold SeqAt.shaped; rw [la.1, Bool.true_and]; exact decide_eq_true (Nat.le_trans la.2 (by decide))
 ·unfold SeqAt.shaped; rw [la.1, Bool.true_and]; exact decide_eq_true (Nat.le_trans la.2 (by decide))
end
noncomputable def Kq (ps : PS) : Prop := ∀ d ∈ ps.found, kqdOk 7 d = true
theorem kq_pt (p : Int × Int) : kqdOk 6 (pt p) = true := by simp [pt, fr, kqdOk]
theorem kq_mv (p : Int × Int) : kqdOk 7 (mvD p) = true := by
 have e : PyData.strOk (Str.ofString "move") = true := by decide +kernel
 simp [mvD, kqdOk, kq_pt, e]
theorem kq_ln (p : Int × Int) : kqdOk 7 (lnD p) = true := by
 have e : PyData.strOk (Str.ofString "line") = true := by decide +kernel
 simp [lnD, kqdOk, kq_pt, e]
theorem kq_qd (c p : Int × Int) : kqdOk 7 (qdD c p) = true := by
 have e : PyData.strOk (Str.ofString "quad") = true := by decide +kernel
 simp [qdD, kqdOk, kq_pt, e]
theorem kq_cl : kqdOk 7 clD = true := by
 have e : PyData.strOk (Str.ofString "close") = true := by decide +kernel
 simp [clD, kqdOk, e]
theorem Kq.snoc {l : List Dat} {e : Dat} (h : ∀ d ∈ l, kqdOk 7 d = true) (hd : kqdOk 7 e = true) : ∀ d ∈ l ++ [e], kqdOk 7 d = true := fun x hx => by
 rcases List.mem_append.mp hx with hx | hx
 ·exact h x hx
 ·rw [List.mem_singleton.mp hx]; exact hd
theorem Kq.put {ps : PS} {d : Dat} {p : Int × Int} (h : Kq ps) (hd : kqdOk 7 d = true) : Kq (ps.put d p) := by
 show ∀ x ∈ (if ps.closed then ps.found ++ [mvD ps.here] else ps.found) ++ [d], kqdOk 7 x = true
 refine Kq.snoc ?_ hd
 split
 ·exact Kq.snoc h (kq_mv _)
 ·exact h
theorem Kq.step {ps : PS} {c : Cmd} (h : Kq ps) : Kq (ps.step c) := by
 have q : ∀ a b, Kq (ps.quadTo a b) := fun a b => h.put (p := b) (kq_qd a b)
 have l : ∀ a, Kq (ps.line a) := fun a => h.put (p := a) (kq_ln a)
 have m : ∀ a, Kq (ps.move a) := fun a => Kq.snoc h (kq_mv _)
 have z : Kq ps.close := by
  show ∀ x ∈ (if ps.closed then ps.found ++ [mvD ps.here] else ps.found) ++ [clD], kqdOk 7 x = true
  refine Kq.snoc ?_ kq_cl
  split
  ·exact Kq.snoc h (kq_mv _)
  ·exact h
 unfold PS.step
 repeat' split
 all_goals first | exact q _ _ | exact l _ | exact m _ | exact z
theorem Kq.fold {cs : List Cmd} : ∀ {ps : PS}, Kq ps → Kq (cs.foldl PS.step ps) := by
 induction cs with
 | nil => exact id
 | cons c r ih => exact fun h => ih h.step
theorem told_ok (cs : List Cmd) (p : Option Nat) : kqdOk 9 (.tuple [.list (segs cs), placeD p]) = true := by
 have h : ∀ d ∈ segs cs, kqdOk 7 d = true := Kq.fold (fun _ h => nomatch h)
 have hp : kqdOk 8 (placeD p) = true := by cases p <;> simp [placeD, kqdOk]
 rw [kqdOk]
 simp only [List.all_cons, List.all_nil, hp, Bool.and_true]
 rw [kqdOk]
 exact List.all_eq_true.mpr h

end
section --FX
noncomputable def fx1 : List Nat := [77, 32, 49, 32, 50, 32, 104, 32, 51, 32, 120]
noncomputable def fx2 : List Nat := [10, 32, 76, 32, 49, 32, 50]
theorem fx1_lit : Str.ofString "M 1 2 h 3 x" = S fx1 := by decide +kernel
theorem fx2_lit : Str.ofString "\n L 1 2" = S fx2 := by decide +kernel
theorem fx1_ok : OkT fx1 := by unfold OkT; decide
theorem fx2_ok : OkT fx2 := by unfold OkT; decide
theorem fx2_reads : StR fx2 1 [] none 0 ([], some 2) := StR.nomove (cs := fx2) (i := 0) (by decide) (by decide) (by decide)
theorem fx1_grp : GrpR fx1 false 2 0 2 (.ok [1, 2] 5) :=
 GrpR.num (cs := fx1) (arc := false) (n := 2) (place := 0) (i := 2) (r := .ok [2] 5) (by decide) (fun h => nomatch h) (by decide)
  (GrpR.num (cs := fx1) (arc := false) (n := 2) (place := 1) (i := 3) (r := .ok [] 5) (by decide) (fun h => nomatch h) (by decide) (GrpR.done (i := 5)))
theorem fx1_reads : StR fx1 9 [] none 0 ([(77, [1, 2]), (104, [3])], some 10) := by
 refine StR.grpOk (cs := fx1) (i := 0) (c := 77) (n := 8) (xs := [1, 2]) (j := 5) (by decide) (by decide) (by decide) (.inr (by decide)) fx1_grp ?_
 have h1 : CmdT 104 (32 :: 104 :: ([32] ++ (txtN 3 ++ []))) [(104, [3])] := .one (by decide) (by decide) (by decide) .nil (by decide)
 refine (cmd_reads (n := 5) (rest := [32, 120]) h1 ⟨[77, 32, 49, 32, 50], rfl, rfl⟩ (.inr ⟨120, [], rfl, by decide, by decide, by decide⟩) (.inl (by decide)) fun st' => ?_).mono (by decide)
 have ha : AtP fx1 9 [32, 120] := ⟨[77, 32, 49, 32, 50, 32, 104, 32, 51], rfl, rfl⟩
 refine (StR.toLetter (n := 4) ha (by decide) (by decide) (by decide) fun j hj => ?_).mono (by decide)
 obtain ⟨g, e⟩ := at_letter ha hj
 have := StR.nocmd (n := 4) (found := [(77, [1, 2]), (104, [3])]) g (by rw [e]; decide)
 rw [hj] at this
 exact this
theorem fx1_well : WellC [(77, [1, 2]), (104, [3])] := by
 refine ⟨by decide, ?_⟩
 rintro c r h
 cases h
 decide
theorem fx2_well : WellC [] := ⟨by decide, fun _ _ h => nomatch h⟩
theorem told1 (w : World) (t : Tok) : FnY w 518 [.str (Str.ofString "M 1 2 h 3 x") t] 48 480 [] (fun r nx => DatIn nx r (.tuple [.list [mvD (1, 2), lnD (4, 2)], .int 10])) := by
 rw [fx1_lit]
 exact told_fn w fx1_ok (by decide) (by decide) fx1_reads fx1_well (by decide)
theorem told2 (w : World) (t : Tok) : FnY w 518 [.str (Str.ofString "\n L 1 2") t] 48 480 [] (fun r nx => DatIn nx r (.tuple [.list [], .int 2])) := by
 rw [fx2_lit]
 exact told_fn w fx2_ok (by decide) (by decide) fx2_reads fx2_well (by decide)

end
section --PL3
structure Rd (txt : List Nat) (cmds : List Cmd) (k : Nat) : Prop where
 reads : ∀ cs rest n res, cs = txt ++ rest → Follow rest → (∀ st', StR cs n cmds st' txt.length res) → StR cs (n + 3 * k) [] none 0 res
 ne : cmds ≠ []
 well : WellC cmds
 ok : OkT txt
 len : txt.length ≤ 60 * k
 num : cmds.length ≤ 2 * k
theorem okT_app {a b : List Nat} (h : OkT a) (h' : OkT b) : OkT (a ++ b) := fun c hc => (List.mem_append.mp hc).elim (h c) (h' c)
theorem okT_sep2 {s : List Nat} (h : s ∈ seps2) : OkT s := (by unfold OkT; decide : ∀ s ∈ seps2, OkT s) s h
theorem okT_sep4 {s : List Nat} (h : s ∈ seps4) : OkT s := (by unfold OkT; decide : ∀ s ∈ seps4, OkT s) s h
theorem okT_num {x : Int} (h : x ∈ vals) : OkT (txtN x) := (by unfold OkT; decide : ∀ x ∈ vals, OkT (txtN x)) x h
theorem GTail.ok {xs : List Int} {t : List Nat} (h : GTail xs t) : OkT t ∧ t.length ≤ 5 * xs.length := by
 induction h with
 | nil => exact ⟨fun _ h => (nomatch h), by simp⟩
 | @cons s t x xs h1 h2 h3 ih =>
  have l1 : s.length ≤ 3 := (by decide : ∀ s ∈ seps4, s.length ≤ 3) s h1
  have l2 : (txtN x).length ≤ 2 := (by decide : ∀ x ∈ vals, (txtN x).length ≤ 2) x h2
  exact ⟨okT_app (okT_sep4 h1) (okT_app (okT_num h2) ih.1), by simp only [List.length_append, List.length_cons]; omega⟩
theorem many4' {c : Nat} (h : c ∈ lets) : manyN c ≤ 4 := (by decide : ∀ c ∈ lets, manyN c ≤ 4) c h
theorem okT_hd {c : Nat} (h : c ∈ lets ∨ c ∈ [90, 122]) : OkT [32, c] := by
 have k : ∀ c ∈ lets ++ [90, 122], OkT [32, c] := by unfold OkT; decide
 exact k c (by simpa using h)
theorem CmdT.facts {c : Nat} {t : List Nat} {cmds : List Cmd} (h : CmdT c t cmds) : OkT t ∧ t.length ≤ 60 ∧ cmds.length ≤ 2 ∧ cmds ≠ [] ∧ (∀ x ∈ cmds, (x.1 ∈ [90, 122] ∧ x.2 = []) ∨ (x.1 ∈ lets ∧ x.2.length = manyN x.1)) ∧ ∃ x r, cmds = x :: r ∧ x.1 = c := by
 have l2 : ∀ s ∈ seps2, s.length ≤ 3 := by decide
 have l4 : ∀ s ∈ seps4, s.length ≤ 3 := by decide
 have ln : ∀ x ∈ vals, (txtN x).length ≤ 2 := by decide
 cases h with
 | close h => exact ⟨okT_hd (.inr h), by simp, by simp, by simp, fun q hq => by rw [List.mem_singleton.mp hq]; exact .inl ⟨h, rfl⟩, _, _, rfl, rfl⟩
 | @one s t x xs h h1 h2 h3 h4 =>
  have := many4' h
  have a1 := l2 _ h1
  have a2 := ln _ h2
  have a3 := h3.ok.2
  exact ⟨okT_app (a := [32, c]) (okT_hd (.inl h)) (okT_app (okT_sep2 h1) (okT_app (okT_num h2) h3.ok.1)), by simp only [List.length_append, List.length_cons]; omega, by simp, by simp, fun q hq => by rw [List.mem_singleton.mp hq]; exact .inr ⟨h, h4⟩, _, _, rfl, rfl⟩
 | @two s t u z x y xs ys h h1 h2 h3 h4 h5 h6 h7 h8 =>
  have := many4' h
  have := many4' (lets_behind h)
  have a1 := l2 _ h1
  have a2 := ln _ h2
  have a3 := h3.ok.2
  have b1 := l4 _ h5
  have b2 := ln _ h6
  have b3 := h7.ok.2
  refine ⟨okT_app (a := [32, c]) (okT_hd (.inl h)) (okT_app (okT_sep2 h1) (okT_app (okT_num h2) (okT_app h3.ok.1 (okT_app (okT_sep4 h5) (okT_app (okT_num h6) h7.ok.1))))), by simp only [List.length_append, List.length_cons]; omega, by simp, by simp, ?_, _, _, rfl, rfl⟩
  intro q hq
  simp only [List.mem_cons, List.not_mem_nil, or_false] at hq
  rcases hq with rfl | rfl
  ·exact .inr ⟨h, h4⟩
  ·exact .inr ⟨lets_behind h, h8⟩
theorem Rd.first {c : Nat} {t : List Nat} {cmds : List Cmd} (h : CmdT c t cmds) (hc : c ∈ [77, 109]) : Rd t cmds 1 := by
 obtain ⟨f1, f2, f3, f4, f5, x, r, e, f6⟩ := h.facts
 refine ⟨fun cs rest n res hcs hF k => ?_, f4, ⟨f5, fun c' r' e' => ?_⟩, f1, by omega, by omega⟩
 ·subst hcs
  exact cmd_reads h (AtP.zero _) hF (.inr hc) (by simpa using k)
 ·rw [e] at e'
  cases e'
  rw [f6]
  exact hc
theorem Rd.next {txt t : List Nat} {cmds cs' : List Cmd} {k c : Nat} (R : Rd txt cmds k) (h : CmdT c t cs') : Rd (txt ++ t) (cmds ++ cs') (k + 1) := by
 obtain ⟨f1, f2, f3, f4, f5, -⟩ := h.facts
 refine ⟨fun cs rest n res hcs hF kk => ?_, by simp [R.ne], ⟨fun q hq => (List.mem_append.mp hq).elim (R.well.1 q) (f5 q), fun c' r' e' => ?_⟩, okT_app R.ok f1, by rw [List.length_append]; have := R.len; omega, by rw [List.length_append]; have := R.num; omega⟩
 ·subst hcs
  rw [List.append_assoc]
  have := R.reads (txt ++ (t ++ rest)) (t ++ rest) (n + 3) res rfl h.follow fun st' => cmd_reads h ⟨txt, rfl, rfl⟩ hF (.inl R.ne) (by
   intro st''
   have := kk st''
   rw [List.append_assoc, List.length_append] at this
   exact this)
  exact this.mono (by omega)
 ·cases e : cmds with
  | nil => exact absurd e R.ne
  | cons a b =>
   rw [e] at e'
   cases e'
   exact R.well.2 _ _ e

end
section --PL4
noncomputable def WrP (wt : List Nat) (wc : List Cmd) (pl : Option Nat) (pv : Value) : Prop := (wt = [] ∧ wc = [] ∧ pl = none ∧ pv = .none) ∨ ∃ way p u, wt = wrongT way ∧ wc = wrongC way ∧ wrongP way = some p ∧ pl = some p ∧ pv = .int ((p : Nat) : Int) u
theorem wrong_lt {way p : Nat} (h : wrongP way = some p) : way < 7 := by
 unfold wrongP at h
 split at h <;> first | omega | cases h
theorem wrong_facts : ∀ way < 7, OkT (wrongT way) ∧ (wrongT way).length ≤ 20 ∧ (wrongC way).length ≤ 1 ∧ (∀ x ∈ wrongC way, x.1 ∈ lets ∧ x.2.length = manyN x.1) ∧ ∃ c r, wrongT way = 32 :: c :: r ∧ isB c = false ∧ c ≠ 44 ∧ c ∉ [43, 45, 46, 48, 49, 50, 51, 52, 53, 54, 55, 56, 57] := by
 intro way h
 rcases lt7 way h with rfl | rfl | rfl | rfl | rfl | rfl | rfl <;> exact ⟨by unfold OkT; decide, by decide, by decide, by decide, _, _, rfl, by decide, by decide, by decide⟩
theorem WrP.told {wt txt : List Nat} {wc cmds : List Cmd} {pl : Option Nat} {pv : Value} {k : Nat} (h : WrP wt wc pl pv) (R : Rd txt cmds k) : StR (txt ++ wt) (5 + 3 * k) [] none 0 (cmds ++ wc, pl.map fun p => txt.length + p) ∧ OkT (txt ++ wt) ∧ (txt ++ wt).length ≤ 60 * k + 20 ∧ WellC (cmds ++ wc) ∧ (cmds ++ wc).length ≤ 2 * k + 1 := by
 rcases h with ⟨rfl, rfl, rfl, rfl⟩ | ⟨way, p, u, rfl, rfl, hp, rfl, rfl⟩
 ·refine ⟨?_, by simpa using R.ok, by have := R.len; simp; omega, by simpa using R.well, by have := R.num; simp; omega⟩
  have := R.reads (txt ++ []) [] 1 (cmds, none) rfl (.inl rfl) fun st' => end_reads ⟨txt, rfl, rfl⟩
  simpa using this.mono (by omega)
 ·obtain ⟨f1, f2, f3, f4, f5⟩ := wrong_facts way (wrong_lt hp)
  refine ⟨R.reads (txt ++ wrongT way) (wrongT way) 5 _ rfl (.inr ?_) fun st' => wrong_reads hp ⟨txt, rfl, rfl⟩ R.ne, okT_app R.ok f1, by have := R.len; rw [List.length_append]; omega, ⟨fun q hq => (List.mem_append.mp hq).elim (R.well.1 q) fun hq => .inr (f4 q hq), fun c r e => ?_⟩, by have := R.num; rw [List.length_append]; omega⟩
  ·obtain ⟨c, r, e, h1, h2, h3⟩ := f5
   exact ⟨c, r, e, h1, h2, h3⟩
  ·cases e' : cmds with
   | nil => exact absurd e' R.ne
   | cons a b =>
    rw [e'] at e
    cases e
    exact R.well.2 _ _ e'

end
section --BB
structure LawC (c : Cx) : Prop where
 e : ∃ env, c.fr = some [env] ∧ env.frame = some c.L ∧ env.scope.kind ≠ .module
 j : ∀ q ∈ c.J, NF q
 n : ∀ q, c.ok q → NF q
 o : ∀ q, NF q → (q.2.cls = .type "tuple" ∨ q.2.cls = .type "list") → (∀ z ∈ c.J, z.1 = q.1 → z.2 = q.2) → c.ok q
theorem LawC.own {c : Cx} {own : Led} {s₁ : Shared} (h : LawC c) (hok : OwnOk c own) : LawC (c.own own s₁) :=
 ⟨h.e, fun q hq => (List.mem_append.mp hq).elim (fun hq => (hok.1 q hq).1) (h.j q), fun q hq => h.n q hq.1, fun q hn ht hz => ⟨h.o q hn ht fun z hz' => hz z (List.mem_append_right _ hz'), .inr fun e => by
  obtain ⟨z, hz', e⟩ := List.mem_map.mp e
  have e2 := hz z (List.mem_append_left _ hz') e
  have := (hok.1 z hz').2
  rw [e2] at this
  exact ht.elim this.1 this.2⟩⟩
@[reducible] noncomputable def Cx.frz (c : Cx) (Mc N : Led) : Cx :=
 { c with J := Mc ++ (N ++ c.J), B := Mc ++ (N ++ c.B), hB := fun q h => (List.mem_append.mp h).elim (List.mem_append_left _) fun h => List.mem_append_right _ ((List.mem_append.mp h).elim (List.mem_append_left _) fun h => List.mem_append_right _ (c.hB q h)) }
theorem LawC.frz {c : Cx} {Mc N : Led} (h : LawC c) (S : Spd c Mc N) : LawC (c.frz Mc N) :=
 ⟨h.e, fun q hq => (List.mem_append.mp hq).elim (fun hq => (S.nt q hq).2) fun hq => (List.mem_append.mp hq).elim (fun hq => h.n q (S.ok q hq)) (h.j q), h.n, fun q hn ht hz => h.o q hn ht fun z hz' => hz z (List.mem_append_right _ (List.mem_append_right _ hz'))⟩
section
variable {f : Fi} {c : Cx} {l lv : List (Str × AV)} {M M₁ M₂ : List (Addr × AO)} {D : List AV} {σ : As} {s : Stmt} {a d G : Addr}
theorem ASt.frz {K : AF → As → Prop} (hL : LawC c) (H : ∀ Mc N, LawC (c.frz Mc N) → MAll (Mc ++ (N ++ c.B)) (M₁ ++ M₂) Mc → ASt s f (c.frz Mc N) ⟨l, []⟩ (fun fl σ' => fl = .next ∧ SubL lv σ'.l)) (hv : ∀ x a, lv.lookup x = some a → ∃ v, a = .v v) (Kn : K .next ⟨lv, M₁⟩) : ASt s f c ⟨l, M₁ ++ M₂⟩ K := fun Q q h m N Mc t X => by
 have hm : ∀ z ∈ N ++ c.B, z ∈ Mc ++ (N ++ c.B) := fun z hz => List.mem_append_right _ hz
 refine H Mc N (hL.frz X.S) (X.M.mono hm) Q (fun fl σ' k h' m' N' Mc' g t' Y y => ?_) h m [] [] t ⟨X.F, fun x a e => ?_, X.W, ⟨(fun _ h => nomatch h), .nil, (fun _ _ h => nomatch h), fun _ h => nomatch h⟩, .nil, .nil⟩
 ·obtain ⟨rfl, hsub⟩ := k
  obtain ⟨A₁, A₂, rfl, h1, h2⟩ := X.M.split
  refine q _ _ Kn h' m' N A₁ g t' ⟨Y.F, fun x a e => ?_, fun z hz => Y.W z ?_, ⟨fun z hz => X.S.nt z (List.mem_append_left _ hz), ?_, fun z hz e => X.S.off z hz ?_, X.S.ok⟩, h1, .nil⟩ y
  ·obtain ⟨v, rfl⟩ := hv x a e
   obtain ⟨u, hu, hd⟩ := Y.P x _ (hsub.look x _ e)
   exact ⟨u, hu, hd⟩
  ·refine List.mem_append_right _ (List.mem_append_right _ ?_)
   exact (List.mem_append.mp hz).elim (fun hz => List.mem_append_left _ (List.mem_append_left _ hz)) fun hz => List.mem_append_right _ hz
  ·have := X.S.nd
   rw [List.map_append] at this
   exact (List.nodup_append.mp this).1
  ·rw [List.map_append]
   exact List.mem_append_left _ e
 ·obtain ⟨v, e, y⟩ := X.P x a e
  exact ⟨v, e, y.mono hm⟩
theorem ASub.fz {K : AV → As → Prop} {kvs : List (Str × AV)} {ky : Str} {e r : Expr} {o og : Obj} {dl : List Dat} {B : Led} (ho : (d, o) ∈ c.B) (hD : (DicA c.w kvs).p B o) (hv : kvs.lookup ky = some (.v (.ref G))) (hg : (G, og) ∈ c.B) (hG : (LstA dl).p c.B og) (hs : Nsl r = true) (H : K (.d (.list dl)) σ) : ASub (.v (.ref d)) (.d (.str ky)) e r c D σ K := fun Q q h m N Mc ds vs t X y => by
 obtain ⟨g, kx, rfl, yg, yk⟩ := y.two
 obtain rfl : g = .ref d := yg
 obtain ⟨tk, rfl⟩ := den_str yk
 obtain ⟨kv, hd, hz⟩ := hD
 obtain ⟨v, hl, hden⟩ := hz.look _ _ hv
 obtain rfl : v = .ref G := hden
 obtain ⟨us, n, rfl, hus⟩ := hG
 have hD := kda_dict (s := st0 c h t) X.W (mem_all (List.mem_append_right _ ho)) hd
 exact subscriptTail_builtinR hD.typeIs slot_dict_getitem.lookup (wpAny_getItem_of (Q := fun r s' => r = .ref G ∧ Q ds r s') (strKind_is _ _ _ _) hD.mapOf (valueAt_lookup.trans hl) ⟨rfl, q _ _ H h m N _ ds _ (t + 1) X (DatIn.list (List.mem_append_right _ hg) (hus.mono fun _ => List.mem_append_right _))⟩) (Nsl.sub hs)
theorem ACmp.same {K : AV → As → Prop} {x y : Dat} (e : x = y) (hk : kqdOk 9 x = true) (hu : c.un + 64 < cLine) (H : K (.d (.bool false)) σ) : ACmp .NotEq (.d x) (.d y) c D σ K := fun Q q h m N Mc ds vs t X z => by
 subst e
 obtain ⟨_, _, rfl, y1, y2⟩ := z.two
 exact dat_same X.W (DatIn.mono (fun q hq => mem_all hq) y1) (DatIn.mono (fun q hq => mem_all hq) y2) hk hu (q _ _ H h m N Mc ds _ t X (.bool _))
theorem ACal.Y {K : AV → As → Prop} {fa : Addr} {dep uni : Nat} {as : List AV} {dr : Dat} (hL : LawC c) (ct : ∀ B vs, DAll B as vs → FnY c.w fa vs dep uni [] (fun r nx => DatIn nx r dr)) (hd : c.dp + dep < recursionLimit) (hu : c.un + uni < cLine) (H : K (.d dr) ⟨l, []⟩) : ACal (.ref fa) as c D ⟨l, []⟩ K := fun Q q h m N Mc ds vs t X y => by
 obtain ⟨env, hfr, he, hk⟩ := hL.e
 have hM : Mc = [] := by cases X.M; rfl
 subst hM
 have W : News c.h₀ c.L h (N ++ c.J) := X.W
 have key := FnY.use (s := st0 c h t) (Q := Q ds) (E := c.E) (envc := env) (outer := []) (gd := c.gd) (dp := c.dp) (un := c.un) (ct (N ++ c.B) vs y) (Dn := N ++ c.J) (frs := []) X.F c.X c.T (by rw [List.append_nil]; exact W) he hk trivial (fun z hz => ⟨(List.mem_append.mp (show z ∈ N ++ c.J from hz)).elim (fun h => hL.n z (X.S.ok z h)) (hL.j z), fun _ h => nomatch h⟩) hd hu ?_
 ·show wpAny (MD c.w) (At c.fr c.gd c.dp c.un) _ _ _ _
  rw [hfr]
  exact key
 ·intro r h' tk' nx frs' hp hsu F' W' _
  have hm : ∀ {A : Led}, ∀ z ∈ N ++ c.B, z ∈ (A ++ N) ++ c.B := fun z hz => by rw [List.append_assoc]; exact List.mem_append_right _ hz
  cases frs' with
  | cons a b => exact hsu.elim
  | nil =>
   classical
   refine q _ _ H h' m (nx.filter (fun q => decide (TL q)) ++ N) [] ds r tk' ⟨F', fun x a e => ?_, fun z hz => W' z ?_, ⟨(fun _ h => nomatch h), .nil, (fun _ _ h => nomatch h), fun z hz => (List.mem_append.mp hz).elim (fun hz => (fun hT => hL.o z hT.1 hT.2 fun y hy e => (news_one (a := y.1) (o := y.2) (o' := z.2) W' (List.mem_append_right _ (List.mem_append_left _ (List.mem_append_right _ hy))) (e ▸ List.mem_append_left _ (List.mem_filter.mp hz).1))) (of_decide_eq_true (List.mem_filter.mp hz).2)) (X.S.ok z)⟩, .nil, X.D.mono hm⟩ (DatIn.nf (fun q hq hn => List.mem_append_left _ (List.mem_append_left _ (List.mem_filter.mpr ⟨hq, decide_eq_true hn⟩))) hp)
   ·obtain ⟨v, e, y⟩ := X.P x a e
    exact ⟨v, e, y.mono hm⟩
   ·rw [List.append_nil]
    have hz : z ∈ (nx.filter (fun q => decide (TL q)) ++ N) ++ c.J := hz
    rw [List.append_assoc] at hz
    exact (List.mem_append.mp hz).elim (fun hz => List.mem_append_left _ (List.mem_filter.mp hz).1) (List.mem_append_right _)
theorem ACal.pen {K : AV → As → Prop} {Mb : List (Addr × AO)} (hok : NewOk c Mb) (hsub : M.map (·.1) = Mb.map (·.1)) (hd : c.dp + 1 < recursionLimit) (hu : c.un + 16 < cLine) (H : ∀ d G, d ≠ G → (∀ q ∈ M, q.1 ≠ d ∧ q.1 ≠ G) → K (.v (.ref d)) ⟨l, M ++ lpP c.w d G ps0⟩) : ACal (.ref 471) [] c D ⟨l, M⟩ K := fun Q q h m N Mc ds vs t X y => by
 cases y
 have hadr := X.M.adr (B' := N)
 refine FnN.use (lawpen_fn c.w) (JD := Mc ++ (N ++ c.J)) X.F c.X c.T X.W (fun _ h => nomatch h) (fun _ h => nomatch h) (fun _ _ h => nomatch h) hd hu fun r h' tk' M' add hp hadr' hn ha F' W' => ?_
 obtain ⟨rfl, d, G, HH, SS, o, n, k, t1, t2, t3, t4, rfl, hD, hdG, rfl⟩ := hp
 have W' : News c.h₀ c.L h' ((d, o) :: (G, W.listOf [].toArray 0) :: (HH, tupO #[.int 0 t1, .int 0 t2] n) :: (SS, tupO #[.int 0 t3, .int 0 t4] k) :: (Mc ++ (N ++ c.J))) := W'
 have nd : NoTup (d, o) := NoTup.isDict hD
 have had : ∀ r ∈ Mc ++ (N ++ c.J), r.1 ≠ d := ((ha _ (.head _)).resolve_left fun ⟨_, _, e⟩ => nd.1.elim (fun h => h (congrArg Obj.cls e)) fun ⟨v, h⟩ => by rw [e] at h; cases h).1
 have haG : ∀ r ∈ Mc ++ (N ++ c.J), r.1 ≠ G := ((ha _ (.tail _ (.head _))).resolve_left fun ⟨_, _, e⟩ => absurd (congrArg Obj.cls e) (by simp [W.listOf])).1
 obtain ⟨tp, htp⟩ : ∃ tp : Led, tp = [(HH, tupO #[.int 0 t1, .int 0 t2] n), (SS, tupO #[.int 0 t3, .int 0 t4] k)] := ⟨_, rfl⟩
 have htT : Tups tp := by rw [htp]; exact Tups.cons (Tups.cons Tups.nil)
 have W₂ : News c.h₀ c.L h' ((Mc ++ [(d, o), (G, W.listOf [].toArray 0)]) ++ ((tp ++ N) ++ c.J)) := fun z hz => W' z (by
  rw [htp] at hz
  exact su_at hz (by bits_by_make))
 have hm : ∀ {A : Led}, ∀ z ∈ N ++ c.B, z ∈ (A ++ N) ++ c.B := fun z hz => by rw [List.append_assoc]; exact List.mem_append_right _ hz
 have hnt : ∀ q ∈ Mc ++ [(d, o), (G, W.listOf [].toArray 0)], NoTup q := fun q hq => (List.mem_append.mp hq).elim (X.S.nt q) fun hq => by
  rcases List.mem_cons.mp hq with rfl | hq
  ·exact nd
  ·rw [List.mem_singleton.mp hq]; exact NoTup.lst
 refine q _ _ (H d G hdG fun z hz => ?_) h' m (tp ++ N) (Mc ++ [(d, o), (G, W.listOf [].toArray 0)]) ds _ tk' ⟨F', fun x a e => ?_, W₂, ⟨hnt, ?_, fun z hz e => ?_, fun z hz => ?_⟩, (X.M.mono hm).app ?_, X.D.mono hm⟩ rfl
 ·have : z.1 ∈ Mc.map (·.1) := by rw [X.M.adr (B' := N)]; exact List.mem_map_of_mem hz
  obtain ⟨y, hy, e⟩ := List.mem_map.mp this
  rw [← e]
  exact ⟨had y (List.mem_append_left _ hy), haG y (List.mem_append_left _ hy)⟩
 ·obtain ⟨v, e, y⟩ := X.P x a e
  exact ⟨v, e, y.mono hm⟩
 ·rw [List.map_append]
  refine List.nodup_append.mpr ⟨X.S.nd, List.nodup_cons.mpr ⟨fun e => hdG (List.mem_singleton.mp e), List.nodup_cons.mpr ⟨List.not_mem_nil, .nil⟩⟩, fun x hx y hy e => ?_⟩
  obtain ⟨z, hz, rfl⟩ := List.mem_map.mp hx
  rcases List.mem_cons.mp hy with rfl | hy
  ·exact had z (List.mem_append_left _ hz) e
  ·rw [List.mem_singleton.mp hy] at e
   exact haG z (List.mem_append_left _ hz) e
 ·rw [List.append_assoc] at hz
  rcases List.mem_append.mp hz with hz | hz
  ·exact news_tupOff W₂ (fun y hy => ⟨List.mem_append_left _ hy, hnt y hy⟩) (List.mem_append_right _ (List.mem_append_left _ (List.mem_append_left _ hz))) (htT z hz) e
  ·rw [List.map_append] at e
   rcases List.mem_append.mp e with e | e
   ·exact X.S.off z hz e
   ·rcases List.mem_cons.mp e with e | e
    ·exact had z (List.mem_append_right _ hz) e
    ·exact haG z (List.mem_append_right _ hz) (List.mem_singleton.mp e)
 ·exact (List.mem_append.mp hz).elim (fun hz => c.okT z (htT z hz)) (X.S.ok z)
 ·have i1 : (HH, tupO #[.int 0 t1, .int 0 t2] n) ∈ (tp ++ N) ++ c.B := by rw [htp]; exact .head _
  have i2 : (SS, tupO #[.int 0 t3, .int 0 t4] k) ∈ (tp ++ N) ++ c.B := by rw [htp]; exact .tail _ (.head _)
  exact .cons ⟨_, hD, .cons (ipt_in (p := (0, 0)) i1) (.cons (ipt_in (p := (0, 0)) i2) (.cons .none (.cons (.bool _) (.cons rfl .nil))))⟩ (.cons ⟨[], 0, rfl, .nil⟩ .nil)
end

end
section --BC
theorem pool_src {z y : Int} {t u : Tok} {n : Nat} : SrcO (W.listOf #[.int ((if -1 - z > z then -1 - z else z) * if decide (10 ^ Int.toNat 18 ≤ if -1 - z > z then -1 - z else z) = true then 1 else 0) t, .int (y.fmod 2147483647) u] n) := by
 refine .mk ?_ (fmod_rng (by decide)).1 (fmod_rng (by decide)).2
 refine Int.mul_nonneg ?_ ?_
 ·split <;> omega
 ·split <;> omega
theorem pool_fn (w : World) {a : Addr} {ws : List Value} {ns : List Int} {t : Tok} (hi : IntsAre ws ns) (hlen : ¬ (63 : Int) < (ns.length : Int)) :
  FnNH (fun h₀ => h₀.IsList a ws.toArray) w 445 [.ref a, .int 0 t] 2 32 [] [] (fun r M' add => M' = [] ∧ ∃ S o, r = .ref S ∧ SrcO o ∧ add = [(S, o)]) := by
 tbr_iter (FnNH.of [(Str.ofString "script", .ref a), (Str.ofString "k", .int 0 t)])
 intro p loose mean mg mb fr gd dp un h₀ L h tk s JD hL X T F N hJ hn hoff hd hu
 replace N : News h₀ L h JD := N
 k_steps
 all_goals
  rename_i l1
  rename Fr _ _ _ _ => F₇
  rename News _ _ _ _ => N₇
  exact ⟨_, _, _, [], [_], rfl, F₇, N₇, ⟨rfl, _, _, rfl, pool_src, rfl⟩, rfl, (fun _ h => nomatch h), fun q hq => by rw [List.mem_singleton.mp hq]; exact .inr ⟨fun r hr => Nat.ne_of_lt (l1 r hr), NoTup.lst.2⟩⟩
section
variable {f : Fi} {c : Cx} {l : List (Str × AV)} {M : List (Addr × AO)} {D : List AV}
theorem FnNH.use {H : Heap → Prop} {w : World} {f : Addr} {vs : List Value} {dep uni : Nat} {M J : Led} {P : Value → Led → Led → Prop} (c : FnNH H w f vs dep uni M J P)
  {p : Program} {loose : List Str} {mean : ExcName → Option Value} {mg mb : Str → Option Value} {fr : Option (List Env)} {gd : Option (List Code)} {dp un : Nat} {h₀ : Heap} {L : Addr} {m : Str → Option Value} {s : Shared} {Q E : Value → Shared → Prop} {JD : Led} (hH : H h₀)
  (F : Fr h₀ L s.heap m) (X : (heapK w.params).In h₀) (T : Top p loose mean mg mb h₀) (N : News h₀ L s.heap (M ++ JD)) (hJ : ∀ q ∈ J, q ∈ JD) (hn : ∀ q ∈ M, NoTup q) (hoff : Off M JD) (hd : dp + dep < recursionLimit) (hu : un + uni < cLine)
  (ret : ∀ r h' tk' M' add, P r M' add → M'.map (·.1) = M.map (·.1) → (∀ q ∈ M', NoTup q) → (∀ q ∈ add, Apart (M ++ JD) q) → Fr h₀ L h' m → News h₀ L h' (M' ++ (add ++ JD)) → Q r { s with heap := h', toks := tk' }) :
  wpAny (MD w) (At fr gd dp un) (call (.ref f) vs) Q E s :=
 wpAny_call (c p loose mean mg mb fr gd dp un h₀ L m s JD _ hH F X T N hJ hn hoff hd hu ret)
theorem ACal.pool {K : AV → As → Prop} {a : Addr} {ws : List Value} {ns : List Int} (hl : c.h₀.IsList a ws.toArray) (hi : IntsAre ws ns) (hlen : ¬ (63 : Int) < (ns.length : Int)) (hd : c.dp + 2 < recursionLimit) (hu : c.un + 32 < cLine) (H : ∀ S, K (.v (.ref S)) ⟨l, [(S, SrcA)]⟩) : ACal (.ref 445) [.v (.ref a), .d (.int 0)] c D ⟨l, []⟩ K := fun Q q h m N Mc ds vs t X y => by
 obtain ⟨_, _, rfl, h0, h1⟩ := y.two
 obtain rfl := h0
 obtain ⟨t, rfl⟩ := den_int h1
 have hM : Mc = [] := by cases X.M; rfl
 subst hM
 have W : News c.h₀ c.L h (N ++ c.J) := X.W
 refine FnNH.use (pool_fn c.w hi hlen) (JD := N ++ c.J) hl X.F c.X c.T W (fun _ h => nomatch h) (fun _ h => nomatch h) (fun _ _ h => nomatch h) hd hu fun r h' tk' M' add hp _ _ ha F' W' => ?_
 obtain ⟨rfl, S, o, rfl, hs, rfl⟩ := hp
 have hS : ∀ r ∈ N ++ c.J, r.1 ≠ S := ((ha _ (.head _)).resolve_left fun ⟨_, _, e⟩ => hs.no.1.elim (fun h => h (congrArg Obj.cls e)) fun ⟨v, h⟩ => by rw [show o = _ from e] at h; cases h).1
 exact q _ _ (H S) h' m N [(S, o)] ds _ tk' ⟨F', X.P, W', ⟨fun z hz => by rw [List.mem_singleton.mp hz]; exact hs.no, List.nodup_cons.mpr ⟨List.not_mem_nil, .nil⟩, fun z hz e => hS z hz (List.mem_singleton.mp e), X.S.ok⟩, .cons hs .nil, X.D⟩ rfl
end

end
section --BE
section
variable {f : Fi} {c : Cx} {l l' : List (Str × AV)} {M : List (Addr × AO)} {D : List AV} {σ : As} {s : List Stmt}
theorem ASts.sub {K : AF → As → Prop} (hs : SubL l' l) (H : ASts s f c ⟨l', M⟩ K) : ASts s f c ⟨l, M⟩ K := fun Q q h m N Mc t X => H Q q h m N Mc t ⟨X.F, fun x a e => X.P x a (hs.look x a e), X.W, X.S, X.M, X.D⟩
theorem datAll_S {B : Led} : ∀ {ys : List Value} {cs : List Nat}, CarriedAll ys (cs.map fun c => PyData.str (S [c])) → DatAll B ys (cs.map fun c => .str (S [c]))
 | _, [], h => by cases h; exact .nil
 | _, _ :: _, h => by
  cases h with
  | cons h r => cases h; exact .cons (.str _ _) (datAll_S r)
theorem AEv.listS {K : AV → As → Prop} {Mb : List (Addr × AO)} {cs : List Nat} {x : Str} {np rp px : Pos} {ki : Nat} (hok : NewOk c Mb) (hsub : σ.M.map (·.1) = Mb.map (·.1)) (hs : signs x = cs.map fun c => S [c]) (hz : x.length ≤ 1000) (hb : f.is (Str.ofString "list") .globalImplicit = true) (hg : ∀ w : World, nsIn (heapK w.params) mainGlobals (Str.ofString "list") = some Option.none)
  (he : ∀ env, eval (.Call (.Name (Str.ofString "list") np) [.Constant (.str x) ki px] [] rp) env = (do callWith rp (← eval (.Name (Str.ofString "list") np) env) [] (backTo rp (starEach [.Constant (.str x) ki px] env)) (backToKw rp (keywordEach [] env))))
  (H : K (.d (.list (cs.map fun c => .str (S [c])))) σ) : AEv (.Call (.Name (Str.ofString "list") np) [.Constant (.str x) ki px] [] rp) f c D σ K := fun Q q h m N Mc ds t X => by
 refine Call_ (nmB X.F (hg c.w) (v := .type "list") (by decide +kernel) (by decide +kernel) hb ?_) (he _)
 refine Pv.callWith_type1 ?_ rfl rfl
 refine args_cons (Constant_str (args_nil ?_)) rfl
 refine list_strD rfl X.F X.W (fun h₁ tk ys F₁ W₁ _ h0 _ hNP hc => ?_) (by rw [sizeLine_eq]; omega)
 have hDL := hNP.ne_locals F₁
 obtain ⟨⟨n, e⟩, hoff⟩ := hNP
 have hc' : CarriedAll ys (cs.map fun c => PyData.str (S [c])) := by rw [hs, List.map_map] at hc; exact hc
 have hm : ∀ {A : Led} {z : Addr × Obj}, ∀ q ∈ A, q ∈ z :: A := fun q hq => .tail _ hq
 have hlt : c.ok (h.objs.size, W.listOf ys.toArray n) := hok _ (fun r hr => hoff r (List.mem_append_right _ (List.mem_append_right _ hr))) (fun e' => by
  rw [← hsub, ← X.M.adr (B' := N)] at e'
  obtain ⟨z, hz, e'⟩ := List.mem_map.mp e'
  exact hoff z (List.mem_append_left _ hz) e') (NoTup.lst (G := 0)).2
 refine q _ _ H h₁ m ((h.objs.size, W.listOf ys.toArray n) :: N) Mc ds _ tk ⟨F₁, fun x a e => ?_, fun z hz => ?_, ⟨X.S.nt, X.S.nd, fun z hz e' => ?_, fun z hz => ?_⟩, X.M.mono hm, X.D.mono hm⟩ (DatIn.list (.head _) (datAll_S hc'))
 ·obtain ⟨v, e, y⟩ := X.P x a e
  exact ⟨v, e, y.mono hm⟩
 ·rcases List.mem_append.mp hz with hz | hz
  ·exact W₁ z (List.mem_append_left _ hz)
  ·rcases List.mem_cons.mp hz with rfl | hz
   ·exact ⟨e, hDL, h0⟩
   ·exact W₁ z (List.mem_append_right _ hz)
 ·rcases List.mem_cons.mp hz with rfl | hz
  ·obtain ⟨z, hz, e'⟩ := List.mem_map.mp e'
   exact hoff z (List.mem_append_left _ hz) e'
  ·exact X.S.off z hz e'
 ·rcases List.mem_cons.mp hz with rfl | hz
  ·exact hlt
  ·exact X.S.ok z hz
end
theorem law_signs : signs (Str.ofString "LlHhVvQqTtTtZzMm") = [76, 108, 72, 104, 86, 118, 81, 113, 84, 116, 84, 116, 90, 122, 77, 109].map fun c => S [c] := by decide +kernel
theorem commA {w : World} {a d G : Addr} {ps : PS} {c : Nat} (hdG : d ≠ G) (had : a ≠ d) (haG : a ≠ G) (hl : ps.found.length ≤ 5000) (hc : c ∈ lets ∨ c ∈ [90, 122]) (B : Led) (vs : List Value) (Mc : Led) (hA : DAll B [.v (.ref a), .v (.ref d), .d (.str (S [c]))] vs) (hM : MAll B ((a, SrcA) :: lpP w d G ps) Mc) :
  FnN w 504 vs 12 200 Mc B (PoA (ComR w a d G ps c) B) := by
 rcases hc with hc | hc
 ·exact commA_draw hdG had haG hl hc (lets_reads hc).2.2 B vs Mc hA hM
 ·exact commA_close hdG had haG hl hc B vs Mc hA hM
theorem letM {d : Dat} (h : d ∈ [Dat.str (Str.ofString "M"), .str (Str.ofString "m")]) : ∃ c ∈ [77, 109], d = .str (S [c]) := by
 simp only [List.mem_cons, List.not_mem_nil, or_false] at h
 rcases h with rfl | rfl
 ·exact ⟨77, by decide, congrArg _ (by decide +kernel)⟩
 ·exact ⟨109, by decide, congrArg _ (by decide +kernel)⟩
theorem letM_lets {c : Nat} (h : c ∈ [77, 109]) : c ∈ lets := (by decide : ∀ c ∈ [77, 109], c ∈ lets) c h
theorem letL {d : Dat} (h : d ∈ [76, 108, 72, 104, 86, 118, 81, 113, 84, 116, 84, 116, 90, 122, 77, 109].map fun c => Dat.str (S [c])) : ∃ c, (c ∈ lets ∨ c ∈ [90, 122]) ∧ d = .str (S [c]) := by
 obtain ⟨c, hc, rfl⟩ := List.mem_map.mp h
 exact ⟨c, (by decide : ∀ c ∈ [76, 108, 72, 104, 86, 118, 81, 113, 84, 116, 84, 116, 90, 122, 77, 109], c ∈ lets ∨ c ∈ [90, 122]) c hc, rfl⟩
theorem Rd.found {txt : List Nat} {cmds : List Cmd} {k : Nat} (h : Rd txt cmds k) : (cmds.foldl PS.step ps0).found.length ≤ 4 * k := by
 have := fold_len cmds ps0
 have e : ps0.found.length = 0 := rfl
 have := h.num
 omega
section
variable {c : Cx} {D : List AV} {l : List (Str × AV)} {as : List AV} {K : AV → As → Prop} {fa : Addr} {dep uni : Nat} {p1 q1 q2 : Addr × AO} {M Mb : List (Addr × AO)}
theorem ACal.Nrp1 {R : AV → List (Addr × AO) → Prop} (hok : NewOk c Mb) (hsub : Mb.map (·.1) = (p1 :: q1 :: q2 :: M).map (·.1)) (ct : ∀ B vs Mc, DAll B as vs → MAll B [q1, q2] Mc → FnN c.w fa vs dep uni Mc B (PoA R B)) (hd : c.dp + dep < recursionLimit) (hu : c.un + uni < cLine)
  (H : ∀ r N', R r N' → K r ⟨l, p1 :: (N' ++ M)⟩) : ACal (.ref fa) as c D ⟨l, p1 :: q1 :: q2 :: M⟩ K :=
 AOp.rot [p1] (M₂ := q1 :: q2 :: M) (ACal.Nr (M₀ := [q1, q2]) (M₁ := M ++ [p1]) (Mb := q1 :: q2 :: (M ++ [p1])) (hok.perm fun x hx => by
  rw [hsub] at hx
  simp only [List.map_cons, List.map_append, List.mem_cons, List.mem_append, List.map_nil, List.not_mem_nil, or_false] at hx ⊢
  rcases hx with hx | hx | hx | hx <;> simp [hx]) rfl ct hd hu fun r N' hr => ⟨N' ++ M, (List.append_assoc ..).symm, H r N' hr⟩)
end
theorem MAll.three {B : Led} {p1 p2 p3 : Addr × AO} {Mc : Led} (h : MAll B [p1, p2, p3] Mc) : ∃ o1 o2 o3, Mc = [(p1.1, o1), (p2.1, o2), (p3.1, o3)] ∧ p1.2.p B o1 ∧ p2.2.p B o2 ∧ p3.2.p B o3 := by
 cases h with
 | cons h1 t =>
  cases t with
  | cons h2 t =>
   cases t with
   | cons h3 t =>
    cases t
    exact ⟨_, _, _, rfl, h1, h2, h3⟩
noncomputable def WrA (wt : List Nat) (wc : List Cmd) (pl : Option Nat) : Prop := ∃ pv, WrP wt wc pl pv
theorem law_forA {c : Cx} {fa : Addr} {cd : Value} {a : Addr} {l : List (Str × AV)} {K : AF → As → Prop} {st : Stmt} (hst : dLaw.body[3]? = some st) (hL : LawC c) (hE : PassesOwn (MD c.w) c.A (c.env ⟨dLaw.name, dLaw.scope, fa, cd, none⟩) c.E) (hok : ∀ Mb, NewOk c Mb) (hd : c.dp + 100 < recursionLimit + 1) (hu : c.un + 900 < cLine + 3) (hs : l.lookup (Str.ofString "source") = some (.v (.ref a))) (H : ∀ l', K .next ⟨l', [(a, SrcA)]⟩) :
  ASt st ⟨dLaw.name, dLaw.scope, fa, cd, none⟩ c ⟨l, [(a, SrcA)]⟩ K := by
 have e : st = _ := (Option.some.inj (hst.symm.trans (rfl : dLaw.body[3]? = some _)))
 subst e
 clear hst
 refine ASt.forV hE (by k_dflt rfl) (by k_dflt rfl) (fun w => by k_is) (fun _ => rfl) rfl ?_
 walk1
 refine ⟨2, fun i σ => ∃ l, l.lookup (Str.ofString "source") = some (.v (.ref a)) ∧ σ = ⟨l, [(a, SrcA)]⟩, rfl, by decide, ⟨l, hs, rfl⟩, ?_, fun _ ⟨l, _, e⟩ => e ▸ H l⟩
 clear H hs
 rintro own i _ hi hown ⟨l, hl, rfl⟩
 refine ASts.sub (.cons (x := Str.ofString "source") (a := .v (.ref a)) hl .nil) ?_
 have hL' := hL.own (s₁ := c.s) hown
 have hok' : ∀ Mb, NewOk (c.own own c.s) Mb := fun Mb => (hok Mb).own
 clear hl
 repeat' walk1
 refine ACal.pen (hok' [(a, SrcA)]) rfl (room hd rfl) (roomu hu rfl) fun d G hdG hoff => ?_
 have had := (hoff _ (.head _)).1
 have haG := (hoff _ (.head _)).2
 clear hoff
 repeat' walk1
 refine ANl.mk (hok' _) rfl rfl rfl ?_
 repeat' walk1
 refine ACal.Nr (M₀ := [(a, SrcA)]) (M₁ := lpP c.w d G ps0) (hok' _) rfl (oneA (by simp) (by decide)) (room hd rfl) (roomu hu rfl) ?_
 rintro _ _ ⟨_, hm, rfl, rfl⟩
 obtain ⟨c1, hc1, rfl⟩ := letM hm
 repeat' walk1
 refine ACal.Nr (M₀ := (a, SrcA) :: lpP c.w d G ps0) (M₁ := []) (hok' _) rfl (commA hdG had haG (by decide) (.inl (letM_lets hc1))) (room hd rfl) (roomu hu rfl) ?_
 rintro _ _ ⟨txt, cmds, rfl, hT, rfl⟩
 have R₁ := Rd.first hT hc1
 clear hT hc1
 repeat' walk1
 refine ASt.forV hE (by k_dflt rfl) (by k_dflt rfl) (fun w => by k_is) (fun _ => rfl) rfl ?_
 repeat' walk1
 refine ACal.Nr (M₀ := [(a, SrcA)]) (M₁ := lpP c.w d G (cmds.foldl PS.step ps0)) (hok' _) rfl (takeA (by decide) (by decide)) (room hd rfl) (roomu hu rfl) ?_
 rintro _ _ ⟨n, rfl, hn0, hn4, rfl⟩
 obtain ⟨n, rfl⟩ : ∃ k : Nat, n = k := ⟨n.toNat, by omega⟩
 refine ⟨n, fun j σ => ∃ txt cmds, σ = ⟨[(Str.ofString "text", .d (.str (S txt))), (Str.ofString "pen", .v (.ref d)), (Str.ofString "source", .v (.ref a))], (a, SrcA) :: lpP c.w d G (cmds.foldl PS.step ps0)⟩ ∧ Rd txt cmds (j + 1), rfl, by omega, ⟨txt, cmds, rfl, R₁⟩, ?_, ?_⟩
 ·clear R₁ txt cmds
  rintro own2 j _ hj hown2 ⟨txt, cmds, rfl, R⟩
  have hok2 : ∀ Mb, NewOk ((c.own own c.s).own own2 (c.own own c.s).s) Mb := fun Mb => (hok' Mb).own
  have hfl := R.found
  have hl1 := R.len
  repeat' walk1
  refine AEv.listS (hok2 _) rfl law_signs (by decide +kernel) (by k_dflt rfl) (fun w => by k_is) (fun _ => rfl) ?_
  repeat' walk1
  refine ACal.Nr (M₀ := [(a, SrcA)]) (M₁ := lpP c.w d G (cmds.foldl PS.step ps0)) (hok2 _) rfl (oneA (by simp) (by decide)) (room hd rfl) (roomu hu rfl) ?_
  rintro _ _ ⟨_, hm, rfl, rfl⟩
  obtain ⟨c2, hc2, rfl⟩ := letL hm
  repeat' walk1
  refine ACal.Nr (M₀ := (a, SrcA) :: lpP c.w d G (cmds.foldl PS.step ps0)) (M₁ := []) (hok2 _) rfl (commA hdG had haG (by omega) hc2) (room hd rfl) (roomu hu rfl) ?_
  rintro _ _ ⟨txt2, cmds2, rfl, hT, rfl⟩
  have hf := hT.facts
  repeat' walk1
  refine ABin.addS (by rw [S_len, S_len]; have := hf.2.1; omega) ?_
  rw [S_app]
  iterate 2 walk1
  refine ⟨_, .cons rfl (.cons rfl (.cons rfl .nil)), txt ++ txt2, cmds ++ cmds2, by rw [List.foldl_append]; rfl, R.next hT⟩
 ·clear R₁ txt cmds
  rintro _ ⟨txt, cmds, rfl, R⟩
  have hfl := R.found
  have hl1 := R.len
  repeat' walk1
  refine ACal.Nr (M₀ := [(a, SrcA)]) (M₁ := lpP c.w d G (cmds.foldl PS.step ps0)) (hok' _) rfl (takeA (by decide) (by decide)) (room hd rfl) (roomu hu rfl) ?_
  rintro _ _ ⟨way, rfl, hw0, hw8, rfl⟩
  obtain ⟨way, rfl⟩ : ∃ k : Nat, way = k := ⟨way.toNat, by omega⟩
  iterate 1 walk1
  refine ASts.cut (Y := fun K' => ∀ wt wc pl, WrA wt wc pl → K' ⟨[(Str.ofString "place", .d (placeD pl)), (Str.ofString "wrong", .d (.str (S wt))), (Str.ofString "way", .d (.int way)), (Str.ofString "text", .d (.str (S txt))), (Str.ofString "pen", .v (.ref d)), (Str.ofString "source", .v (.ref a))], (a, SrcA) :: lpP c.w d G (wc.foldl PS.step (cmds.foldl PS.step ps0))⟩) ?_ ?_
  ·intro K' hK'
   repeat' walk1
   refine ACmp.ltI ?_
   repeat' walk1
   refine asplit (fun h7 => ?_) (fun h7 => ?_)
   ·repeat' walk1
    refine ACal.Nrp1 (hok' _) rfl (lwrongA (by omega) hdG (by omega)) (room hd rfl) (roomu hu rfl) ?_
    rintro _ _ ⟨p, hp, rfl, rfl⟩
    repeat' walk1
    exact hK' _ _ _ ⟨_, .inr ⟨way, p, 0, rfl, rfl, hp, rfl, rfl⟩⟩
   ·repeat' walk1
    rw [lit_nil]
    exact hK' _ _ _ ⟨_, .inl ⟨rfl, rfl, rfl, rfl⟩⟩
  ·rintro wt wc pl ⟨pv, hW⟩
   have ⟨hrd, hok1, hlen, hwell, hnum⟩ := hW.told R
   refine ASts.cons ?_
   refine ASt.frz (M₁ := [(a, SrcA)]) (M₂ := lpP c.w d G (wc.foldl PS.step (cmds.foldl PS.step ps0))) (lv := [(Str.ofString "source", .v (.ref a))]) hL' (fun Mc N hLf hMf => ?_) ?_ ?_
   ·obtain ⟨oa, od, og, rfl, -, hD, hG⟩ := hMf.three
    repeat' walk1
    refine ABin.addS (by rw [S_len, S_len]; rw [List.length_append] at hlen; omega) ?_
    rw [S_app]
    repeat' walk1
    refine ACal.Y (dep := 48) (uni := 480) hLf (fun B vs hA => ?_) (room hd rfl) (roomu hu rfl) (dr := .tuple [.list (segs (cmds ++ wc)), placeD (pl.map fun p => txt.length + p)]) ?_
    ·obtain ⟨v, rfl, h1⟩ := hA.one
     obtain ⟨t, rfl⟩ := den_str h1
     exact told_fn c.w hok1 (by omega) (by omega) hrd hwell (by show (cmds ++ wc).length ≤ 4000; omega)
    repeat' walk1
    refine ASub.fz (.tail _ (.head _)) hD rfl (.tail _ (.tail _ (.head _))) hG rfl ?_
    have hsame : segs (cmds ++ wc) = (wc.foldl PS.step (cmds.foldl PS.step ps0)).found := by
     show ((cmds ++ wc).foldl PS.step ps0).found = _
     rw [List.foldl_append]
    rcases hW with ⟨rfl, rfl, rfl, rfl⟩ | ⟨way, pp, u, rfl, rfl, hwp, rfl, rfl⟩
    ·repeat' walk1
     refine ACmp.isN ?_
     repeat' walk1
     refine ACmp.same (by rw [hsame]; rfl) (told_ok (cmds ++ []) none) (roomu (j := 64) hu rfl) ?_
     iterate 2 walk1
     exact ⟨rfl, .cons rfl .nil⟩
    ·repeat' walk1
     refine ACmp.isI ?_
     repeat' walk1
     refine AEv.bi PySem.boot_len (by decide +kernel) (fun w => by k_is) (by k_dflt rfl) rfl (fun _ => rfl) ?_
     repeat' walk1
     refine ACal.lenS (by omega) ?_
     repeat' walk1
     refine ABin.add ?_
     repeat' walk1
     refine ACmp.same (by rw [hsame]; rfl) (told_ok (cmds ++ wrongC way) (some (txt.length + pp))) (roomu (j := 64) hu rfl) ?_
     iterate 2 walk1
     exact ⟨rfl, .cons rfl .nil⟩
   ·rintro x y e
    rw [List.lookup_cons] at e
    split at e
    ·cases e; exact ⟨_, rfl⟩
    ·cases e
   ·walk1
    exact ⟨_, .cons (x := Str.ofString "source") (a := .v (.ref a)) rfl .nil, _, rfl, rfl⟩

end
section --BF
variable {p : Program} {loose : List Str} {mean : ExcName → Option Value} {mg mb : Str → Option Value}
theorem lawA (env : Env) : callerA.deeper env = At (some [env]) (some []) (1 + claimMargin + 1) 7 := rfl
theorem lawD : 1 + claimMargin + 1 + 100 < recursionLimit + 1 := by decide +kernel
theorem lawU : 7 + 900 < cLine + 3 := by decide +kernel
theorem lawBody {c : Cx} {fa : Addr} {cd : Value} {a : Addr} {ws : List Value} {ns : List Int} (hL : LawC c) (hE : PassesOwn (MD c.w) c.A (c.env ⟨dLaw.name, dLaw.scope, fa, cd, none⟩) c.E) (hok : ∀ Mb, NewOk c Mb) (hd : c.dp + 100 < recursionLimit + 1) (hu : c.un + 900 < cLine + 3) (hl : c.h₀.IsList a ws.toArray) (hi : IntsAre ws ns) (hlen : ¬ (63 : Int) < (ns.length : Int)) :
  ASts dLaw.body ⟨dLaw.name, dLaw.scope, fa, cd, none⟩ c ⟨[(Str.ofString "script", .v (.ref a))], []⟩ (fun fl _ => fl = .ret (.d (.bool true))) := by
 show ASts [_, _, _, _, _] _ _ _ _
 repeat' walk1
 refine ACal.Y (dep := 48) (uni := 480) hL (fun B vs hA => ?_) (room hd rfl) (roomu hu rfl) (dr := .tuple [.list [mvD (1, 2), lnD (4, 2)], .int 10]) ?_
 ·obtain ⟨v, rfl, h1⟩ := hA.one
  obtain ⟨t, rfl⟩ := den_str h1
  exact told1 _ _
 repeat' walk1
 refine ANl.mk (hok []) rfl rfl rfl ?_
 repeat' walk1
 refine ACmp.same rfl (told_ok [(77, [1, 2]), (104, [3])] (some 10)) (roomu (j := 64) hu rfl) ?_
 repeat' walk1
 refine ACal.Y (dep := 48) (uni := 480) hL (fun B vs hA => ?_) (room hd rfl) (roomu hu rfl) (dr := .tuple [.list [], .int 2]) ?_
 ·obtain ⟨v, rfl, h1⟩ := hA.one
  obtain ⟨t, rfl⟩ := den_str h1
  exact told2 _ _
 repeat' walk1
 refine ANl.mk (hok []) rfl rfl rfl ?_
 repeat' walk1
 refine ACmp.same rfl (told_ok [] (some 2)) (roomu (j := 64) hu rfl) ?_
 repeat' walk1
 refine ACal.pool hl hi hlen (room hd rfl) (roomu hu rfl) fun S => ?_
 repeat' walk1
 refine law_forA rfl hL hE hok hd hu rfl fun l' => ?_
 repeat' walk1
theorem ASts.run {w : World} {gd : Option (List Code)} {dp un : Nat} {h₀ : Heap} {L fa a : Addr} {cd : Value} {m : Str → Option Value} {s : Shared} {Q : Flow → Shared → Prop} {E : Value → Shared → Prop} {name x : Str} {scope : Scope} {body : List Stmt}
  (X : (heapK w.params).In h₀) (T : Top p loose mean mg mb h₀) (F : Fr h₀ L s.heap m) (hm : m x = some (.ref a)) (N : News h₀ L s.heap []) (ret : ∀ h' tk m', Fr h₀ L h' m' → Q (.ret (.bool true)) { s with heap := h', toks := tk })
  (key : ASts body ⟨name, scope, fa, cd, none⟩ (mkC (some [envOf name scope L fa cd]) gd dp un L [] s E [] [] (fun _ h => h) NF (fun _ h => h.nf) X T) ⟨[(x, .v (.ref a))], []⟩ (fun fl _ => fl = .ret (.d (.bool true)))) :
  wpAny (MD w) (At (some [envOf name scope L fa cd]) gd dp un) (execs body (envOf name scope L fa cd)) Q E s := by
 refine key Q (fun fl σ' e h' m' N' Mc' g t' Y y => ?_) s.heap m [] [] s.toks ⟨F, fun y b e => ?_, N, ⟨(fun _ h => nomatch h), .nil, (fun _ h => nomatch h), fun _ h => nomatch h⟩, .nil, .nil⟩
 ·subst e
  obtain ⟨v, rfl, hv⟩ := y
  cases hv
  exact ret h' t' m' Y.F
 ·rw [List.lookup_cons] at e
  split at e
  ·rename_i hq
   cases e
   rw [beq_iff_eq.mp hq]
   exact ⟨_, hm, rfl⟩
  ·cases e
theorem lawWalk {w : World} {gd : Option (List Code)} {dp un : Nat} {h₀ : Heap} {L fa a : Addr} {cd : Value} {m : Str → Option Value} {ws : List Value} {ns : List Int} {s : Shared} {Q : Flow → Shared → Prop} {E : Value → Shared → Prop} {b : List Stmt} (hb : dLaw.body = b)
  (X : (heapK w.params).In h₀) (T : Top p loose mean mg mb h₀) (F : Fr h₀ L s.heap m) (hm : m (Str.ofString "script") = some (.ref a)) (N : News h₀ L s.heap []) (hl : h₀.IsList a ws.toArray) (hi : IntsAre ws ns) (hlen : ¬ (63 : Int) < (ns.length : Int))
  (hE : PassesOwn (MD w) (At (some [envOf dLaw.name dLaw.scope L fa cd]) gd dp un) (envOf dLaw.name dLaw.scope L fa cd) E) (hd : dp + 100 < recursionLimit + 1) (hu : un + 900 < cLine + 3) (ret : ∀ h' tk m', Fr h₀ L h' m' → Q (.ret (.bool true)) { s with heap := h', toks := tk }) :
  wpAny (MD w) (At (some [envOf dLaw.name dLaw.scope L fa cd]) gd dp un) (execs b (envOf dLaw.name dLaw.scope L fa cd)) Q E s := by
 refine ASts.run (w := w) (p := p) (loose := loose) (mean := mean) (mg := mg) (mb := mb) (gd := gd) (dp := dp) (un := un) (h₀ := h₀) (L := L) (fa := fa) (a := a) (cd := cd) (m := m) (s := s) (Q := Q) (E := E) (name := dLaw.name) (x := Str.ofString "script") (scope := dLaw.scope) (body := b) X T F hm N ret ?_
 subst hb
 exact @lawBody (mkC (some [envOf dLaw.name dLaw.scope L fa cd]) gd dp un L [] s E [] [] (fun _ h => h) NF (fun _ h => h.nf) X T) fa cd a ws ns ⟨⟨_, rfl, rfl, fun h => nomatch h⟩, (fun _ h => nomatch h), (fun _ h => h), fun _ h _ _ => h⟩ hE (fun _ _ _ _ h => h) hd hu hl hi hlen
theorem entL : WalkO qv looseV (XL qv []) hookK.says rwL.row.toRowW dLaw [] (fun f vs => PySem.call f vs) := by
 k_fill
 intro w₀ a₀ a₁ g₀ g₁ gr hy fa o pm cd dc dv kv look run code same glo _ vs ws ns pre lay red wl lo
 have hK := kIn_of hy
 have hX := gr.X.1
 refine Ground.open gr ?_
 intro top _ _ _ _
 obtain ⟨q, _, e, _⟩ := based_of_top top rfl glo look run
 have e : cd = .ref q := e
 subst e
 wrow_args pre lay red wl lo
 refine enter_call ?_
 w_top on
 refine codeAny_mono ?_ fun _ _ g => GoodW.toG g
 w_call any look run code same top F
 rename (heapK _).In _ => X₀
 rename Top _ _ _ _ _ _ => T₀
 rename Fr _ _ _ _ => F₀
 rename News _ _ _ _ => N₀
 rename Heap.IsList _ _ _ => hl
 rename IntsAre _ _ => hi
 rw [lawA]
 generalize hb : dLaw.body = b
 refine lawWalk hb X₀ T₀ F₀ rfl N₀ hl hi (by assumption) (by passes_own) lawD lawU fun h' tk m' F' => ?_
 clear F₀ N₀
 dsimp only
 k_steps
theorem done : PySem.Challenge.rw_on0248_01.Holds := hdx entL

end
end Mine
theorem PySem.Challenge.cw_on0248_01_holds : PySem.Challenge.rw_on0248_01.Holds := by
 exact Mine.hdx Mine.entL
