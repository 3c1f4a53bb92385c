import PyProof.Rows.All
import Wide.All
import OpenK.AllK
import Wide.FinOn
import Lean
import PySem.Challenge.RW_sq0039_01
open PySem PySem.W PySem.Calls PyProof.Rows
set_option Elab.async false
set_option maxRecDepth 100000
set_option linter.unusedVariables false
set_option compiler.extract_closed false
set_option linter.unusedVariables false
namespace Mine.hd

/-- the program's own text, by place -/
noncomputable def nth : Nat → List Stmt → Stmt
  | _, [] => .Pass ⟨0, 0, 0, 0⟩
  | 0, s :: _ => s
  | n + 1, _ :: l => nth n l
noncomputable def kids : Stmt → List Stmt
  | .ClassDef _ _ _ b _ _ _ _ _ _ _ => b
  | _ => []
noncomputable def body : List Stmt := PySem.Challenge.pw_sq0039_01.main.body
noncomputable def fnO {st : Stmt} {name : Str} {args : Arguments} {body : List Stmt} {dec : List PySem.Expr} {ret : Option PySem.Expr} {tp : List TypeParam} {scope : Scope} {ts : Option Scope} {bind : Str} {pos : Pos}
    (_ : st = .FunctionDef name args body dec ret tp scope ts bind pos) (qual : Str) (gl : Addr) (cl : List (Str × Addr)) (dV kV doc pm : Value) (an : Option Addr) (cd ct : Value) (bu : Addr) (c : Value) (d : Option Addr) (sl : Array (Option Value)) (_ : Params) : Obj :=
  ⟨c, d, .func ⟨name, qual, args, .stmts body, scope, gl, cl, dV, kV, doc, pm, an, cd, ct, bu⟩, sl⟩
noncomputable def o2 : Params → Obj := fun P => (Obj.mk Value.none none (Data.dict #[] 0) #[])
noncomputable def o3 : Params → Obj := fun P => (Obj.mk (Value.type "dict") none (Data.dict #[(DictEntry.mk (PyData.keyHash P "__name__") (Value.str "__name__" 165) (Value.str "law_sq0039_01" 791)), (DictEntry.mk (PyData.keyHash P "__doc__") (Value.str "__doc__" 166) Value.none), (DictEntry.mk (PyData.keyHash P "__package__") (Value.str "__package__" 167) Value.none), (DictEntry.mk (PyData.keyHash P "__loader__") (Value.str "__loader__" 168) (Value.builtin "__main__.__loader__#opaque")), (DictEntry.mk (PyData.keyHash P "__spec__") (Value.str "__spec__" 169) Value.none), (DictEntry.mk (PyData.keyHash P "__annotations__") (Value.str "__annotations__" 170) (Value.ref 6)), (DictEntry.mk (PyData.keyHash P "__builtins__") (Value.str "__builtins__" 171) (Value.ref 4)), (DictEntry.mk (PyData.keyHash P "__file__") (Value.str "__file__" 173) (Value.str "/claim/cut.py" 172)), (DictEntry.mk (PyData.keyHash P "__cached__") (Value.str "__cached__" 174) Value.none), (DictEntry.mk (PyData.keyHash P "_wall") (Value.str "_wall" 193) (Value.ref 21)), (DictEntry.mk (PyData.keyHash P "PageError") (Value.str "PageError" 223) (Value.ref 39)), (DictEntry.mk (PyData.keyHash P "BadArgument") (Value.str "BadArgument" 239) (Value.ref 52)), (DictEntry.mk (PyData.keyHash P "Overflow") (Value.str "Overflow" 255) (Value.ref 64)), (DictEntry.mk (PyData.keyHash P "BadCharacter") (Value.str "BadCharacter" 271) (Value.ref 76)), (DictEntry.mk (PyData.keyHash P "BadFile") (Value.str "BadFile" 287) (Value.ref 88)), (DictEntry.mk (PyData.keyHash P "TooMuch") (Value.str "TooMuch" 303) (Value.ref 100)), (DictEntry.mk (PyData.keyHash P "MAX_NUMBER") (Value.str "MAX_NUMBER" 311) (Value.int 2147483647 310)), (DictEntry.mk (PyData.keyHash P "is_whole") (Value.str "is_whole" 320) (Value.ref 109)), (DictEntry.mk (PyData.keyHash P "check_whole") (Value.str "check_whole" 327) (Value.ref 116)), (DictEntry.mk (PyData.keyHash P "check_number") (Value.str "check_number" 334) (Value.ref 123)), (DictEntry.mk (PyData.keyHash P "ESCAPE") (Value.str "ESCAPE" 345) (Value.int 0 337)), (DictEntry.mk (PyData.keyHash P "BEGIN") (Value.str "BEGIN" 346) (Value.int 1 338)), (DictEntry.mk (PyData.keyHash P "END") (Value.str "END" 347) (Value.int 2 339)), (DictEntry.mk (PyData.keyHash P "MATH") (Value.str "MATH" 348) (Value.int 3 340)), (DictEntry.mk (PyData.keyHash P "TAB") (Value.str "TAB" 349) (Value.int 4 341)), (DictEntry.mk (PyData.keyHash P "RETURN") (Value.str "RETURN" 350) (Value.int 5 342)), (DictEntry.mk (PyData.keyHash P "PARAMETER") (Value.str "PARAMETER" 351) (Value.int 6 343)), (DictEntry.mk (PyData.keyHash P "UP") (Value.str "UP" 352) (Value.int 7 344)), (DictEntry.mk (PyData.keyHash P "DOWN") (Value.str "DOWN" 361) (Value.int 8 353)), (DictEntry.mk (PyData.keyHash P "IGNORED") (Value.str "IGNORED" 362) (Value.int 9 354)), (DictEntry.mk (PyData.keyHash P "SPACE") (Value.str "SPACE" 363) (Value.int 10 355)), (DictEntry.mk (PyData.keyHash P "LETTER") (Value.str "LETTER" 364) (Value.int 11 356)), (DictEntry.mk (PyData.keyHash P "OTHER") (Value.str "OTHER" 365) (Value.int 12 357)), (DictEntry.mk (PyData.keyHash P "ACTIVE") (Value.str "ACTIVE" 366) (Value.int 13 358)), (DictEntry.mk (PyData.keyHash P "COMMENT") (Value.str "COMMENT" 367) (Value.int 14 359)), (DictEntry.mk (PyData.keyHash P "INVALID") (Value.str "INVALID" 368) (Value.int 15 360)), (DictEntry.mk (PyData.keyHash P "CONTROL") (Value.str "CONTROL" 374) (Value.int 0 369)), (DictEntry.mk (PyData.keyHash P "OUT") (Value.str "OUT" 375) (Value.int 5 370)), (DictEntry.mk (PyData.keyHash P "MATCH") (Value.str "MATCH" 376) (Value.int 9 371)), (DictEntry.mk (PyData.keyHash P "FROZEN") (Value.str "FROZEN" 377) (Value.int 14 372)), (DictEntry.mk (PyData.keyHash P "NOT_EXPANDED") (Value.str "NOT_EXPANDED" 378) (Value.int 15 373)), (DictEntry.mk (PyData.keyHash P "MOST_NAMES") (Value.str "MOST_NAMES" 382) (Value.int 1048576 381)), (DictEntry.mk (PyData.keyHash P "SPECIAL_CATEGORIES") (Value.str "SPECIAL_CATEGORIES" 411) (Value.ref 136)), (DictEntry.mk (PyData.keyHash P "check_text") (Value.str "check_text" 419) (Value.ref 143)), (DictEntry.mk (PyData.keyHash P "Names") (Value.str "Names" 482) (Value.ref 189)), (DictEntry.mk (PyData.keyHash P "plain_categories") (Value.str "plain_categories" 492) (Value.ref 200)), (DictEntry.mk (PyData.keyHash P "CatList") (Value.str "CatList" 536) (Value.ref 230)), (DictEntry.mk (PyData.keyHash P "LAST_STREAM") (Value.str "LAST_STREAM" 540) (Value.int 15 539)), (DictEntry.mk (PyData.keyHash P "ROW_END_OCTET") (Value.str "ROW_END_OCTET" 542) (Value.int 10 541)), (DictEntry.mk (PyData.keyHash P "check_name") (Value.str "check_name" 549) (Value.ref 241)), (DictEntry.mk (PyData.keyHash P "Library") (Value.str "Library" 622) (Value.ref 292)), (DictEntry.mk (PyData.keyHash P "visible") (Value.str "visible" 632) (Value.ref 303)), (DictEntry.mk (PyData.keyHash P "NEW") (Value.str "NEW" 638) (Value.int 0 635)), (DictEntry.mk (PyData.keyHash P "MIDDLE") (Value.str "MIDDLE" 639) (Value.int 1 636)), (DictEntry.mk (PyData.keyHash P "SKIPPING") (Value.str "SKIPPING" 640) (Value.int 2 637)), (DictEntry.mk (PyData.keyHash P "hex_value") (Value.str "hex_value" 647) (Value.ref 314)), (DictEntry.mk (PyData.keyHash P "written_otherwise") (Value.str "written_otherwise" 659) (Value.ref 321)), (DictEntry.mk (PyData.keyHash P "Lines") (Value.str "Lines" 778) (Value.ref 395)), (DictEntry.mk (PyData.keyHash P "tokens_of") (Value.str "tokens_of" 790) (Value.ref 406)), (DictEntry.mk (PyData.keyHash P "_law_cell") (Value.str "_law_cell" 800) (Value.ref 413)), (DictEntry.mk (PyData.keyHash P "_law_box") (Value.str "_law_box" 807) (Value.ref 420)), (DictEntry.mk (PyData.keyHash P "_law_take") (Value.str "_law_take" 817) (Value.ref 427)), (DictEntry.mk (PyData.keyHash P "_law_codes") (Value.str "_law_codes" 828) (Value.ref 434)), (DictEntry.mk (PyData.keyHash P "_law_visible_right") (Value.str "_law_visible_right" 834) (Value.ref 439)), (DictEntry.mk (PyData.keyHash P "_law_like") (Value.str "_law_like" 840) (Value.ref 444)), (DictEntry.mk (PyData.keyHash P "_law_shut") (Value.str "_law_shut" 851) (Value.ref 451)), (DictEntry.mk (PyData.keyHash P "_law_deed") (Value.str "_law_deed" 857) (Value.ref 456)), (DictEntry.mk (PyData.keyHash P "_law_refused") (Value.str "_law_refused" 866) (Value.ref 463)), (DictEntry.mk (PyData.keyHash P "_law_right") (Value.str "_law_right" 879) (Value.ref 470)), (DictEntry.mk (PyData.keyHash P "law") (Value.str "law" 889) (Value.ref 477))] 70) #[])
noncomputable def o15 : Params → Obj := fun P => (Obj.mk (Value.type "tuple") none (Data.seq #[] 0) #[])
noncomputable def o17 : Params → Obj := fun P => (Obj.mk (Value.type "tuple") none (Data.seq #[(Value.str "k" 190)] 0) #[])
noncomputable def o18 : Params → Obj := fun P => (Obj.mk (Value.type "tuple") none (Data.seq #[] 0) #[])
noncomputable def o20 : Params → Obj := fun P => (Obj.mk (Value.type "code") none (Data.fields #[(Value.str "_wall" 187), (Value.str "_wall" 188), (Value.str "/claim/cut.py" 189), (Value.int 1 0), (Value.int 1 0), (Value.int 0 0), (Value.int 0 0), (Value.int 3 0), (Value.ref 15), (Value.bool Bool.true), (Value.int 181 0), (Value.ref 16), Value.none, (Value.ref 17), (Value.ref 18), (Value.ref 19), (Value.int 191 0), (Value.int 1 0), (Value.str "/claim/cut.py" 192)]) #[])
noncomputable def o21 : Params → Obj := fnO (rfl : (nth 0 body) = .FunctionDef _ _ _ _ _ _ _ _ _ _) "_wall" 3 [] Value.none Value.none Value.none (Value.str "__main__" 164) none (Value.ref 20) Value.none 0 (Value.type "function") none #[]
noncomputable def o22 : Params → Obj := fun P => (Obj.mk (Value.type "tuple") none (Data.seq #[(Value.type "ValueError")] 0) #[])
noncomputable def o29 : Params → Obj := fun P => (Obj.mk (Value.type "tuple") none (Data.seq #[(Value.str "" 208)] 0) #[])
noncomputable def o30 : Params → Obj := fun P => (Obj.mk (Value.type "tuple") none (Data.seq #[] 0) #[])
noncomputable def o32 : Params → Obj := fun P => (Obj.mk (Value.type "tuple") none (Data.seq #[(Value.str "self" 212), (Value.str "reason" 213)] 0) #[])
noncomputable def o33 : Params → Obj := fun P => (Obj.mk (Value.type "tuple") none (Data.seq #[] 0) #[])
noncomputable def o35 : Params → Obj := fun P => (Obj.mk (Value.type "code") none (Data.fields #[(Value.str "__init__" 209), (Value.str "PageError.__init__" 210), (Value.str "/claim/cut.py" 211), (Value.int 7 0), (Value.int 2 0), (Value.int 0 0), (Value.int 0 0), (Value.int 3 0), (Value.ref 30), (Value.bool Bool.true), (Value.int 181 0), (Value.ref 31), Value.none, (Value.ref 32), (Value.ref 33), (Value.ref 34), (Value.int 214 0), (Value.int 7 0), (Value.str "/claim/cut.py" 215)]) #[])
noncomputable def o36 : Params → Obj := fnO (rfl : (nth 0 (kids (nth 2 body))) = .FunctionDef _ _ _ _ _ _ _ _ _ _) "PageError.__init__" 3 [] (Value.ref 29) Value.none Value.none (Value.str "gluepage.errors" 194) none (Value.ref 35) Value.none 0 (Value.type "function") none #[]
noncomputable def o37 : Params → Obj := fun P => (Obj.mk (Value.type "tuple") none (Data.seq #[(Value.str "reason" 217)] 0) #[])
noncomputable def o38 : Params → Obj := fun P => (Obj.mk (Value.type "dict") none (Data.dict #[(DictEntry.mk (PyData.keyHash P "__module__") (Value.str "__module__" 203) (Value.str "gluepage.errors" 194)), (DictEntry.mk (PyData.keyHash P "__firstlineno__") (Value.str "__firstlineno__" 207) (Value.int 5 206)), (DictEntry.mk (PyData.keyHash P "__init__") (Value.str "__init__" 216) (Value.ref 36)), (DictEntry.mk (PyData.keyHash P "__static_attributes__") (Value.str "__static_attributes__" 218) (Value.ref 37)), (DictEntry.mk (PyData.keyHash P "__weakref__") (Value.str "__weakref__" 220) (Value.ref 40)), (DictEntry.mk (PyData.keyHash P "__doc__") (Value.str "__doc__" 221) Value.none)] 3) #[])
noncomputable def o39 : Params → Obj := fun P => (Obj.mk (Value.type "type") none (Data.cls (ClassData.mk "PageError" [(Value.type "ValueError")] [(Value.ref 39), (Value.type "ValueError"), (Value.type "Exception"), (Value.type "BaseException"), (Value.type "object")] 38 "PageError" Bool.true [] [(Value.ref 52), (Value.ref 64), (Value.ref 76), (Value.ref 88), (Value.ref 100)] Bool.false none Bool.false)) #[(Option.some (Value.ref 22)), none, (Option.some (Value.str "PageError" 196)), (Option.some (Value.str "PageError" 204)), (Option.some (Value.builtin "ValueError.__new__")), (Option.some (Value.bool Bool.true))])
noncomputable def o40 : Params → Obj := fun P => (Obj.mk (Value.type "getset_descriptor") none (Data.fields #[(Value.str "__weakref__" 219), (Value.ref 39), (Value.builtin "ExceptionGroup.__weakref__"), Value.none]) #[])
noncomputable def o43 : Params → Obj := fun P => (Obj.mk (Value.type "tuple") none (Data.seq #[(Value.ref 39)] 0) #[])
noncomputable def o50 : Params → Obj := fun P => (Obj.mk (Value.type "tuple") none (Data.seq #[] 0) #[])
noncomputable def o51 : Params → Obj := fun P => (Obj.mk (Value.type "dict") none (Data.dict #[(DictEntry.mk (PyData.keyHash P "__module__") (Value.str "__module__" 231) (Value.str "gluepage.errors" 194)), (DictEntry.mk (PyData.keyHash P "__firstlineno__") (Value.str "__firstlineno__" 235) (Value.int 9 234)), (DictEntry.mk (PyData.keyHash P "__static_attributes__") (Value.str "__static_attributes__" 236) (Value.ref 50)), (DictEntry.mk (PyData.keyHash P "__doc__") (Value.str "__doc__" 237) Value.none)] 2) #[])
noncomputable def o52 : Params → Obj := fun P => (Obj.mk (Value.type "type") none (Data.cls (ClassData.mk "BadArgument" [(Value.ref 39)] [(Value.ref 52), (Value.ref 39), (Value.type "ValueError"), (Value.type "Exception"), (Value.type "BaseException"), (Value.type "object")] 51 "BadArgument" Bool.true [] [] Bool.false none Bool.false)) #[(Option.some (Value.ref 43)), none, (Option.some (Value.str "BadArgument" 224)), (Option.some (Value.str "BadArgument" 232)), (Option.some (Value.builtin "ValueError.__new__")), (Option.some (Value.bool Bool.true))])
noncomputable def o55 : Params → Obj := fun P => (Obj.mk (Value.type "tuple") none (Data.seq #[(Value.ref 39)] 0) #[])
noncomputable def o62 : Params → Obj := fun P => (Obj.mk (Value.type "tuple") none (Data.seq #[] 0) #[])
noncomputable def o63 : Params → Obj := fun P => (Obj.mk (Value.type "dict") none (Data.dict #[(DictEntry.mk (PyData.keyHash P "__module__") (Value.str "__module__" 247) (Value.str "gluepage.errors" 194)), (DictEntry.mk (PyData.keyHash P "__firstlineno__") (Value.str "__firstlineno__" 251) (Value.int 11 250)), (DictEntry.mk (PyData.keyHash P "__static_attributes__") (Value.str "__static_attributes__" 252) (Value.ref 62)), (DictEntry.mk (PyData.keyHash P "__doc__") (Value.str "__doc__" 253) Value.none)] 2) #[])
noncomputable def o64 : Params → Obj := fun P => (Obj.mk (Value.type "type") none (Data.cls (ClassData.mk "Overflow" [(Value.ref 39)] [(Value.ref 64), (Value.ref 39), (Value.type "ValueError"), (Value.type "Exception"), (Value.type "BaseException"), (Value.type "object")] 63 "Overflow" Bool.true [] [] Bool.false none Bool.false)) #[(Option.some (Value.ref 55)), none, (Option.some (Value.str "Overflow" 240)), (Option.some (Value.str "Overflow" 248)), (Option.some (Value.builtin "ValueError.__new__")), (Option.some (Value.bool Bool.true))])
noncomputable def o67 : Params → Obj := fun P => (Obj.mk (Value.type "tuple") none (Data.seq #[(Value.ref 39)] 0) #[])
noncomputable def o74 : Params → Obj := fun P => (Obj.mk (Value.type "tuple") none (Data.seq #[] 0) #[])
noncomputable def o75 : Params → Obj := fun P => (Obj.mk (Value.type "dict") none (Data.dict #[(DictEntry.mk (PyData.keyHash P "__module__") (Value.str "__module__" 263) (Value.str "gluepage.errors" 194)), (DictEntry.mk (PyData.keyHash P "__firstlineno__") (Value.str "__firstlineno__" 267) (Value.int 13 266)), (DictEntry.mk (PyData.keyHash P "__static_attributes__") (Value.str "__static_attributes__" 268) (Value.ref 74)), (DictEntry.mk (PyData.keyHash P "__doc__") (Value.str "__doc__" 269) Value.none)] 2) #[])
noncomputable def o76 : Params → Obj := fun P => (Obj.mk (Value.type "type") none (Data.cls (ClassData.mk "BadCharacter" [(Value.ref 39)] [(Value.ref 76), (Value.ref 39), (Value.type "ValueError"), (Value.type "Exception"), (Value.type "BaseException"), (Value.type "object")] 75 "BadCharacter" Bool.true [] [] Bool.false none Bool.false)) #[(Option.some (Value.ref 67)), none, (Option.some (Value.str "BadCharacter" 256)), (Option.some (Value.str "BadCharacter" 264)), (Option.some (Value.builtin "ValueError.__new__")), (Option.some (Value.bool Bool.true))])
noncomputable def o79 : Params → Obj := fun P => (Obj.mk (Value.type "tuple") none (Data.seq #[(Value.ref 39)] 0) #[])
noncomputable def o86 : Params → Obj := fun P => (Obj.mk (Value.type "tuple") none (Data.seq #[] 0) #[])
noncomputable def o87 : Params → Obj := fun P => (Obj.mk (Value.type "dict") none (Data.dict #[(DictEntry.mk (PyData.keyHash P "__module__") (Value.str "__module__" 279) (Value.str "gluepage.errors" 194)), (DictEntry.mk (PyData.keyHash P "__firstlineno__") (Value.str "__firstlineno__" 283) (Value.int 15 282)), (DictEntry.mk (PyData.keyHash P "__static_attributes__") (Value.str "__static_attributes__" 284) (Value.ref 86)), (DictEntry.mk (PyData.keyHash P "__doc__") (Value.str "__doc__" 285) Value.none)] 2) #[])
noncomputable def o88 : Params → Obj := fun P => (Obj.mk (Value.type "type") none (Data.cls (ClassData.mk "BadFile" [(Value.ref 39)] [(Value.ref 88), (Value.ref 39), (Value.type "ValueError"), (Value.type "Exception"), (Value.type "BaseException"), (Value.type "object")] 87 "BadFile" Bool.true [] [] Bool.false none Bool.false)) #[(Option.some (Value.ref 79)), none, (Option.some (Value.str "BadFile" 272)), (Option.some (Value.str "BadFile" 280)), (Option.some (Value.builtin "ValueError.__new__")), (Option.some (Value.bool Bool.true))])
noncomputable def o91 : Params → Obj := fun P => (Obj.mk (Value.type "tuple") none (Data.seq #[(Value.ref 39)] 0) #[])
noncomputable def o98 : Params → Obj := fun P => (Obj.mk (Value.type "tuple") none (Data.seq #[] 0) #[])
noncomputable def o99 : Params → Obj := fun P => (Obj.mk (Value.type "dict") none (Data.dict #[(DictEntry.mk (PyData.keyHash P "__module__") (Value.str "__module__" 295) (Value.str "gluepage.errors" 194)), (DictEntry.mk (PyData.keyHash P "__firstlineno__") (Value.str "__firstlineno__" 299) (Value.int 17 298)), (DictEntry.mk (PyData.keyHash P "__static_attributes__") (Value.str "__static_attributes__" 300) (Value.ref 98)), (DictEntry.mk (PyData.keyHash P "__doc__") (Value.str "__doc__" 301) Value.none)] 2) #[])
noncomputable def o100 : Params → Obj := fun P => (Obj.mk (Value.type "type") none (Data.cls (ClassData.mk "TooMuch" [(Value.ref 39)] [(Value.ref 100), (Value.ref 39), (Value.type "ValueError"), (Value.type "Exception"), (Value.type "BaseException"), (Value.type "object")] 99 "TooMuch" Bool.true [] [] Bool.false none Bool.false)) #[(Option.some (Value.ref 91)), none, (Option.some (Value.str "TooMuch" 288)), (Option.some (Value.str "TooMuch" 296)), (Option.some (Value.builtin "ValueError.__new__")), (Option.some (Value.bool Bool.true))])
noncomputable def o103 : Params → Obj := fun P => (Obj.mk (Value.type "tuple") none (Data.seq #[] 0) #[])
noncomputable def o105 : Params → Obj := fun P => (Obj.mk (Value.type "tuple") none (Data.seq #[(Value.str "value" 315), (Value.str "low" 316), (Value.str "high" 317)] 0) #[])
noncomputable def o106 : Params → Obj := fun P => (Obj.mk (Value.type "tuple") none (Data.seq #[] 0) #[])
noncomputable def o108 : Params → Obj := fun P => (Obj.mk (Value.type "code") none (Data.fields #[(Value.str "is_whole" 312), (Value.str "is_whole" 313), (Value.str "/claim/cut.py" 314), (Value.int 21 0), (Value.int 3 0), (Value.int 0 0), (Value.int 0 0), (Value.int 3 0), (Value.ref 103), (Value.bool Bool.true), (Value.int 181 0), (Value.ref 104), Value.none, (Value.ref 105), (Value.ref 106), (Value.ref 107), (Value.int 318 0), (Value.int 21 0), (Value.str "/claim/cut.py" 319)]) #[])
noncomputable def o109 : Params → Obj := fnO (rfl : (nth 10 body) = .FunctionDef _ _ _ _ _ _ _ _ _ _) "is_whole" 3 [] Value.none Value.none Value.none (Value.str "gluepage.scaled" 304) none (Value.ref 108) Value.none 0 (Value.type "function") none #[]
noncomputable def o110 : Params → Obj := fun P => (Obj.mk (Value.type "tuple") none (Data.seq #[] 0) #[])
noncomputable def o112 : Params → Obj := fun P => (Obj.mk (Value.type "tuple") none (Data.seq #[(Value.str "value" 324)] 0) #[])
noncomputable def o113 : Params → Obj := fun P => (Obj.mk (Value.type "tuple") none (Data.seq #[] 0) #[])
noncomputable def o115 : Params → Obj := fun P => (Obj.mk (Value.type "code") none (Data.fields #[(Value.str "check_whole" 321), (Value.str "check_whole" 322), (Value.str "/claim/cut.py" 323), (Value.int 23 0), (Value.int 1 0), (Value.int 0 0), (Value.int 0 0), (Value.int 3 0), (Value.ref 110), (Value.bool Bool.true), (Value.int 181 0), (Value.ref 111), Value.none, (Value.ref 112), (Value.ref 113), (Value.ref 114), (Value.int 325 0), (Value.int 23 0), (Value.str "/claim/cut.py" 326)]) #[])
noncomputable def o116 : Params → Obj := fnO (rfl : (nth 11 body) = .FunctionDef _ _ _ _ _ _ _ _ _ _) "check_whole" 3 [] Value.none Value.none Value.none (Value.str "gluepage.scaled" 304) none (Value.ref 115) Value.none 0 (Value.type "function") none #[]
noncomputable def o117 : Params → Obj := fun P => (Obj.mk (Value.type "tuple") none (Data.seq #[] 0) #[])
noncomputable def o119 : Params → Obj := fun P => (Obj.mk (Value.type "tuple") none (Data.seq #[(Value.str "value" 331)] 0) #[])
noncomputable def o120 : Params → Obj := fun P => (Obj.mk (Value.type "tuple") none (Data.seq #[] 0) #[])
noncomputable def o122 : Params → Obj := fun P => (Obj.mk (Value.type "code") none (Data.fields #[(Value.str "check_number" 328), (Value.str "check_number" 329), (Value.str "/claim/cut.py" 330), (Value.int 27 0), (Value.int 1 0), (Value.int 0 0), (Value.int 0 0), (Value.int 3 0), (Value.ref 117), (Value.bool Bool.true), (Value.int 181 0), (Value.ref 118), Value.none, (Value.ref 119), (Value.ref 120), (Value.ref 121), (Value.int 332 0), (Value.int 27 0), (Value.str "/claim/cut.py" 333)]) #[])
noncomputable def o123 : Params → Obj := fnO (rfl : (nth 12 body) = .FunctionDef _ _ _ _ _ _ _ _ _ _) "check_number" 3 [] Value.none Value.none Value.none (Value.str "gluepage.scaled" 304) none (Value.ref 122) Value.none 0 (Value.type "function") none #[]
noncomputable def o136 : Params → Obj := fun P => (Obj.mk (Value.type "dict") none (Data.dict #[(DictEntry.mk 0 (Value.int 0 383) (Value.int 9 354)), (DictEntry.mk 13 (Value.int 13 384) (Value.int 5 342)), (DictEntry.mk 32 (Value.int 32 385) (Value.int 10 355)), (DictEntry.mk 35 (Value.int 35 386) (Value.int 6 343)), (DictEntry.mk 36 (Value.int 36 387) (Value.int 3 340)), (DictEntry.mk 37 (Value.int 37 388) (Value.int 14 359)), (DictEntry.mk 38 (Value.int 38 389) (Value.int 4 341)), (DictEntry.mk 92 (Value.int 92 390) (Value.int 0 337)), (DictEntry.mk 94 (Value.int 94 391) (Value.int 7 344)), (DictEntry.mk 95 (Value.int 95 392) (Value.int 8 353)), (DictEntry.mk 123 (Value.int 123 393) (Value.int 1 338)), (DictEntry.mk 125 (Value.int 125 394) (Value.int 2 339)), (DictEntry.mk 126 (Value.int 126 395) (Value.int 13 358)), (DictEntry.mk 127 (Value.int 127 396) (Value.int 15 360))] 14) #[])
noncomputable def o137 : Params → Obj := fun P => (Obj.mk (Value.type "tuple") none (Data.seq #[] 0) #[])
noncomputable def o139 : Params → Obj := fun P => (Obj.mk (Value.type "tuple") none (Data.seq #[(Value.str "text" 415), (Value.str "mark" 416)] 0) #[])
noncomputable def o140 : Params → Obj := fun P => (Obj.mk (Value.type "tuple") none (Data.seq #[] 0) #[])
noncomputable def o142 : Params → Obj := fun P => (Obj.mk (Value.type "code") none (Data.fields #[(Value.str "check_text" 412), (Value.str "check_text" 413), (Value.str "/claim/cut.py" 414), (Value.int 37 0), (Value.int 1 0), (Value.int 0 0), (Value.int 0 0), (Value.int 3 0), (Value.ref 137), (Value.bool Bool.true), (Value.int 181 0), (Value.ref 138), Value.none, (Value.ref 139), (Value.ref 140), (Value.ref 141), (Value.int 417 0), (Value.int 37 0), (Value.str "/claim/cut.py" 418)]) #[])
noncomputable def o143 : Params → Obj := fnO (rfl : (nth 19 body) = .FunctionDef _ _ _ _ _ _ _ _ _ _) "check_text" 3 [] Value.none Value.none Value.none (Value.str "gluepage.tokens" 335) none (Value.ref 142) Value.none 0 (Value.type "function") none #[]
noncomputable def o151 : Params → Obj := fun P => (Obj.mk (Value.type "tuple") none (Data.seq #[(Value.int 1048576 381)] 0) #[])
noncomputable def o152 : Params → Obj := fun P => (Obj.mk (Value.type "tuple") none (Data.seq #[] 0) #[])
noncomputable def o154 : Params → Obj := fun P => (Obj.mk (Value.type "tuple") none (Data.seq #[(Value.str "self" 435), (Value.str "most" 436)] 0) #[])
noncomputable def o155 : Params → Obj := fun P => (Obj.mk (Value.type "tuple") none (Data.seq #[] 0) #[])
noncomputable def o157 : Params → Obj := fun P => (Obj.mk (Value.type "code") none (Data.fields #[(Value.str "__init__" 432), (Value.str "Names.__init__" 433), (Value.str "/claim/cut.py" 434), (Value.int 45 0), (Value.int 2 0), (Value.int 0 0), (Value.int 0 0), (Value.int 3 0), (Value.ref 152), (Value.bool Bool.true), (Value.int 181 0), (Value.ref 153), Value.none, (Value.ref 154), (Value.ref 155), (Value.ref 156), (Value.int 437 0), (Value.int 45 0), (Value.str "/claim/cut.py" 438)]) #[])
noncomputable def o158 : Params → Obj := fnO (rfl : (nth 0 (kids (nth 20 body))) = .FunctionDef _ _ _ _ _ _ _ _ _ _) "Names.__init__" 3 [] (Value.ref 151) Value.none Value.none (Value.str "gluepage.tokens" 335) none (Value.ref 157) Value.none 0 (Value.type "function") none #[]
noncomputable def o159 : Params → Obj := fun P => (Obj.mk (Value.type "tuple") none (Data.seq #[] 0) #[])
noncomputable def o161 : Params → Obj := fun P => (Obj.mk (Value.type "tuple") none (Data.seq #[(Value.str "self" 443), (Value.str "text" 444)] 0) #[])
noncomputable def o162 : Params → Obj := fun P => (Obj.mk (Value.type "tuple") none (Data.seq #[] 0) #[])
noncomputable def o164 : Params → Obj := fun P => (Obj.mk (Value.type "code") none (Data.fields #[(Value.str "find" 440), (Value.str "Names.find" 441), (Value.str "/claim/cut.py" 442), (Value.int 52 0), (Value.int 2 0), (Value.int 0 0), (Value.int 0 0), (Value.int 3 0), (Value.ref 159), (Value.bool Bool.true), (Value.int 181 0), (Value.ref 160), Value.none, (Value.ref 161), (Value.ref 162), (Value.ref 163), (Value.int 445 0), (Value.int 52 0), (Value.str "/claim/cut.py" 446)]) #[])
noncomputable def o165 : Params → Obj := fnO (rfl : (nth 1 (kids (nth 20 body))) = .FunctionDef _ _ _ _ _ _ _ _ _ _) "Names.find" 3 [] Value.none Value.none Value.none (Value.str "gluepage.tokens" 335) none (Value.ref 164) Value.none 0 (Value.type "function") none #[]
noncomputable def o166 : Params → Obj := fun P => (Obj.mk (Value.type "tuple") none (Data.seq #[] 0) #[])
noncomputable def o168 : Params → Obj := fun P => (Obj.mk (Value.type "tuple") none (Data.seq #[(Value.str "self" 451), (Value.str "text" 452), (Value.str "found" 453)] 0) #[])
noncomputable def o169 : Params → Obj := fun P => (Obj.mk (Value.type "tuple") none (Data.seq #[] 0) #[])
noncomputable def o171 : Params → Obj := fun P => (Obj.mk (Value.type "code") none (Data.fields #[(Value.str "number" 448), (Value.str "Names.number" 449), (Value.str "/claim/cut.py" 450), (Value.int 56 0), (Value.int 2 0), (Value.int 0 0), (Value.int 0 0), (Value.int 3 0), (Value.ref 166), (Value.bool Bool.true), (Value.int 181 0), (Value.ref 167), Value.none, (Value.ref 168), (Value.ref 169), (Value.ref 170), (Value.int 454 0), (Value.int 56 0), (Value.str "/claim/cut.py" 455)]) #[])
noncomputable def o172 : Params → Obj := fnO (rfl : (nth 2 (kids (nth 20 body))) = .FunctionDef _ _ _ _ _ _ _ _ _ _) "Names.number" 3 [] Value.none Value.none Value.none (Value.str "gluepage.tokens" 335) none (Value.ref 171) Value.none 0 (Value.type "function") none #[]
noncomputable def o173 : Params → Obj := fun P => (Obj.mk (Value.type "tuple") none (Data.seq #[] 0) #[])
noncomputable def o175 : Params → Obj := fun P => (Obj.mk (Value.type "tuple") none (Data.seq #[(Value.str "self" 460), (Value.str "number" 461)] 0) #[])
noncomputable def o176 : Params → Obj := fun P => (Obj.mk (Value.type "tuple") none (Data.seq #[] 0) #[])
noncomputable def o178 : Params → Obj := fun P => (Obj.mk (Value.type "code") none (Data.fields #[(Value.str "text" 457), (Value.str "Names.text" 458), (Value.str "/claim/cut.py" 459), (Value.int 67 0), (Value.int 2 0), (Value.int 0 0), (Value.int 0 0), (Value.int 3 0), (Value.ref 173), (Value.bool Bool.true), (Value.int 181 0), (Value.ref 174), Value.none, (Value.ref 175), (Value.ref 176), (Value.ref 177), (Value.int 462 0), (Value.int 67 0), (Value.str "/claim/cut.py" 463)]) #[])
noncomputable def o179 : Params → Obj := fnO (rfl : (nth 3 (kids (nth 20 body))) = .FunctionDef _ _ _ _ _ _ _ _ _ _) "Names.text" 3 [] Value.none Value.none Value.none (Value.str "gluepage.tokens" 335) none (Value.ref 178) Value.none 0 (Value.type "function") none #[]
noncomputable def o180 : Params → Obj := fun P => (Obj.mk (Value.type "tuple") none (Data.seq #[] 0) #[])
noncomputable def o182 : Params → Obj := fun P => (Obj.mk (Value.type "tuple") none (Data.seq #[(Value.str "self" 468)] 0) #[])
noncomputable def o183 : Params → Obj := fun P => (Obj.mk (Value.type "tuple") none (Data.seq #[] 0) #[])
noncomputable def o185 : Params → Obj := fun P => (Obj.mk (Value.type "code") none (Data.fields #[(Value.str "count" 465), (Value.str "Names.count" 466), (Value.str "/claim/cut.py" 467), (Value.int 72 0), (Value.int 1 0), (Value.int 0 0), (Value.int 0 0), (Value.int 3 0), (Value.ref 180), (Value.bool Bool.true), (Value.int 181 0), (Value.ref 181), Value.none, (Value.ref 182), (Value.ref 183), (Value.ref 184), (Value.int 469 0), (Value.int 72 0), (Value.str "/claim/cut.py" 470)]) #[])
noncomputable def o186 : Params → Obj := fnO (rfl : (nth 4 (kids (nth 20 body))) = .FunctionDef _ _ _ _ _ _ _ _ _ _) "Names.count" 3 [] Value.none Value.none Value.none (Value.str "gluepage.tokens" 335) none (Value.ref 185) Value.none 0 (Value.type "function") none #[]
noncomputable def o187 : Params → Obj := fun P => (Obj.mk (Value.type "tuple") none (Data.seq #[(Value.str "most" 472), (Value.str "numbers" 473), (Value.str "texts" 474)] 0) #[])
noncomputable def o188 : Params → Obj := fun P => (Obj.mk (Value.type "dict") none (Data.dict #[(DictEntry.mk (PyData.keyHash P "__module__") (Value.str "__module__" 427) (Value.str "gluepage.tokens" 335)), (DictEntry.mk (PyData.keyHash P "__firstlineno__") (Value.str "__firstlineno__" 431) (Value.int 43 430)), (DictEntry.mk (PyData.keyHash P "__init__") (Value.str "__init__" 439) (Value.ref 158)), (DictEntry.mk (PyData.keyHash P "find") (Value.str "find" 447) (Value.ref 165)), (DictEntry.mk (PyData.keyHash P "number") (Value.str "number" 456) (Value.ref 172)), (DictEntry.mk (PyData.keyHash P "text") (Value.str "text" 464) (Value.ref 179)), (DictEntry.mk (PyData.keyHash P "count") (Value.str "count" 471) (Value.ref 186)), (DictEntry.mk (PyData.keyHash P "__static_attributes__") (Value.str "__static_attributes__" 475) (Value.ref 187)), (DictEntry.mk (PyData.keyHash P "__dict__") (Value.str "__dict__" 477) (Value.ref 190)), (DictEntry.mk (PyData.keyHash P "__weakref__") (Value.str "__weakref__" 479) (Value.ref 191)), (DictEntry.mk (PyData.keyHash P "__doc__") (Value.str "__doc__" 480) Value.none)] 4) #[])
noncomputable def o189 : Params → Obj := fun P => (Obj.mk (Value.type "type") none (Data.cls (ClassData.mk "Names" [(Value.type "object")] [(Value.ref 189), (Value.type "object")] 188 "Names" Bool.true [] [] Bool.false none Bool.false)) #[none, none, (Option.some (Value.str "Names" 420)), (Option.some (Value.str "Names" 428)), (Option.some (Value.builtin "object.__new__")), (Option.some (Value.bool Bool.true))])
noncomputable def o190 : Params → Obj := fun P => (Obj.mk (Value.type "getset_descriptor") none (Data.fields #[(Value.str "__dict__" 476), (Value.ref 189), (Value.builtin "function.__dict__"), (Value.builtin "function.__dict__#set")]) #[])
noncomputable def o191 : Params → Obj := fun P => (Obj.mk (Value.type "getset_descriptor") none (Data.fields #[(Value.str "__weakref__" 478), (Value.ref 189), (Value.builtin "ExceptionGroup.__weakref__"), Value.none]) #[])
noncomputable def o194 : Params → Obj := fun P => (Obj.mk (Value.type "tuple") none (Data.seq #[] 0) #[])
noncomputable def o196 : Params → Obj := fun P => (Obj.mk (Value.type "tuple") none (Data.seq #[(Value.str "found" 486), (Value.str "place" 487), (Value.str "code" 488), (Value.str "category" 489)] 0) #[])
noncomputable def o197 : Params → Obj := fun P => (Obj.mk (Value.type "tuple") none (Data.seq #[] 0) #[])
noncomputable def o199 : Params → Obj := fun P => (Obj.mk (Value.type "code") none (Data.fields #[(Value.str "plain_categories" 483), (Value.str "plain_categories" 484), (Value.str "/claim/cut.py" 485), (Value.int 74 0), (Value.int 0 0), (Value.int 0 0), (Value.int 0 0), (Value.int 3 0), (Value.ref 194), (Value.bool Bool.true), (Value.int 181 0), (Value.ref 195), Value.none, (Value.ref 196), (Value.ref 197), (Value.ref 198), (Value.int 490 0), (Value.int 74 0), (Value.str "/claim/cut.py" 491)]) #[])
noncomputable def o200 : Params → Obj := fnO (rfl : (nth 21 body) = .FunctionDef _ _ _ _ _ _ _ _ _ _) "plain_categories" 3 [] Value.none Value.none Value.none (Value.str "gluepage.tokens" 335) none (Value.ref 199) Value.none 0 (Value.type "function") none #[]
noncomputable def o208 : Params → Obj := fun P => (Obj.mk (Value.type "tuple") none (Data.seq #[Value.none] 0) #[])
noncomputable def o209 : Params → Obj := fun P => (Obj.mk (Value.type "tuple") none (Data.seq #[] 0) #[])
noncomputable def o212 : Params → Obj := fun P => (Obj.mk (Value.type "code") none (Data.fields #[(Value.str "__init__" 505), (Value.str "CatList.__init__" 506), (Value.str "/claim/cut.py" 507), (Value.int 84 0), (Value.int 2 0), (Value.int 0 0), (Value.int 0 0), (Value.int 3 0), (Value.ref 209), (Value.bool Bool.true), (Value.int 181 0), (Value.ref 210), Value.none, Value.none, Value.none, (Value.ref 211), (Value.int 508 0), (Value.int 84 0), (Value.str "/claim/cut.py" 509)]) #[])
noncomputable def o213 : Params → Obj := fnO (rfl : (nth 0 (kids (nth 22 body))) = .FunctionDef _ _ _ _ _ _ _ _ _ _) "CatList.__init__" 3 [] (Value.ref 208) Value.none Value.none (Value.str "gluepage.tokens" 335) none (Value.ref 212) Value.none 0 (Value.type "function") none #[]
noncomputable def o214 : Params → Obj := fun P => (Obj.mk (Value.type "tuple") none (Data.seq #[] 0) #[])
noncomputable def o216 : Params → Obj := fun P => (Obj.mk (Value.type "tuple") none (Data.seq #[(Value.str "self" 514), (Value.str "code" 515)] 0) #[])
noncomputable def o217 : Params → Obj := fun P => (Obj.mk (Value.type "tuple") none (Data.seq #[] 0) #[])
noncomputable def o219 : Params → Obj := fun P => (Obj.mk (Value.type "code") none (Data.fields #[(Value.str "category" 511), (Value.str "CatList.category" 512), (Value.str "/claim/cut.py" 513), (Value.int 92 0), (Value.int 2 0), (Value.int 0 0), (Value.int 0 0), (Value.int 3 0), (Value.ref 214), (Value.bool Bool.true), (Value.int 181 0), (Value.ref 215), Value.none, (Value.ref 216), (Value.ref 217), (Value.ref 218), (Value.int 516 0), (Value.int 92 0), (Value.str "/claim/cut.py" 517)]) #[])
noncomputable def o220 : Params → Obj := fnO (rfl : (nth 1 (kids (nth 22 body))) = .FunctionDef _ _ _ _ _ _ _ _ _ _) "CatList.category" 3 [] Value.none Value.none Value.none (Value.str "gluepage.tokens" 335) none (Value.ref 219) Value.none 0 (Value.type "function") none #[]
noncomputable def o221 : Params → Obj := fun P => (Obj.mk (Value.type "tuple") none (Data.seq #[] 0) #[])
noncomputable def o223 : Params → Obj := fun P => (Obj.mk (Value.type "tuple") none (Data.seq #[(Value.str "self" 522), (Value.str "code" 523), (Value.str "category" 524)] 0) #[])
noncomputable def o224 : Params → Obj := fun P => (Obj.mk (Value.type "tuple") none (Data.seq #[] 0) #[])
noncomputable def o226 : Params → Obj := fun P => (Obj.mk (Value.type "code") none (Data.fields #[(Value.str "set" 519), (Value.str "CatList.set" 520), (Value.str "/claim/cut.py" 521), (Value.int 97 0), (Value.int 3 0), (Value.int 0 0), (Value.int 0 0), (Value.int 3 0), (Value.ref 221), (Value.bool Bool.true), (Value.int 181 0), (Value.ref 222), Value.none, (Value.ref 223), (Value.ref 224), (Value.ref 225), (Value.int 525 0), (Value.int 97 0), (Value.str "/claim/cut.py" 526)]) #[])
noncomputable def o227 : Params → Obj := fnO (rfl : (nth 2 (kids (nth 22 body))) = .FunctionDef _ _ _ _ _ _ _ _ _ _) "CatList.set" 3 [] Value.none Value.none Value.none (Value.str "gluepage.tokens" 335) none (Value.ref 226) Value.none 0 (Value.type "function") none #[]
noncomputable def o228 : Params → Obj := fun P => (Obj.mk (Value.type "tuple") none (Data.seq #[(Value.str "rows" 528)] 0) #[])
noncomputable def o229 : Params → Obj := fun P => (Obj.mk (Value.type "dict") none (Data.dict #[(DictEntry.mk (PyData.keyHash P "__module__") (Value.str "__module__" 500) (Value.str "gluepage.tokens" 335)), (DictEntry.mk (PyData.keyHash P "__firstlineno__") (Value.str "__firstlineno__" 504) (Value.int 82 503)), (DictEntry.mk (PyData.keyHash P "__init__") (Value.str "__init__" 510) (Value.ref 213)), (DictEntry.mk (PyData.keyHash P "category") (Value.str "category" 518) (Value.ref 220)), (DictEntry.mk (PyData.keyHash P "set") (Value.str "set" 527) (Value.ref 227)), (DictEntry.mk (PyData.keyHash P "__static_attributes__") (Value.str "__static_attributes__" 529) (Value.ref 228)), (DictEntry.mk (PyData.keyHash P "__dict__") (Value.str "__dict__" 531) (Value.ref 231)), (DictEntry.mk (PyData.keyHash P "__weakref__") (Value.str "__weakref__" 533) (Value.ref 232)), (DictEntry.mk (PyData.keyHash P "__doc__") (Value.str "__doc__" 534) Value.none)] 4) #[])
noncomputable def o230 : Params → Obj := fun P => (Obj.mk (Value.type "type") none (Data.cls (ClassData.mk "CatList" [(Value.type "object")] [(Value.ref 230), (Value.type "object")] 229 "CatList" Bool.true [] [] Bool.false none Bool.false)) #[none, none, (Option.some (Value.str "CatList" 493)), (Option.some (Value.str "CatList" 501)), (Option.some (Value.builtin "object.__new__")), (Option.some (Value.bool Bool.true))])
noncomputable def o231 : Params → Obj := fun P => (Obj.mk (Value.type "getset_descriptor") none (Data.fields #[(Value.str "__dict__" 530), (Value.ref 230), (Value.builtin "function.__dict__"), (Value.builtin "function.__dict__#set")]) #[])
noncomputable def o232 : Params → Obj := fun P => (Obj.mk (Value.type "getset_descriptor") none (Data.fields #[(Value.str "__weakref__" 532), (Value.ref 230), (Value.builtin "ExceptionGroup.__weakref__"), Value.none]) #[])
noncomputable def o235 : Params → Obj := fun P => (Obj.mk (Value.type "tuple") none (Data.seq #[] 0) #[])
noncomputable def o237 : Params → Obj := fun P => (Obj.mk (Value.type "tuple") none (Data.seq #[(Value.str "name" 546)] 0) #[])
noncomputable def o238 : Params → Obj := fun P => (Obj.mk (Value.type "tuple") none (Data.seq #[] 0) #[])
noncomputable def o240 : Params → Obj := fun P => (Obj.mk (Value.type "code") none (Data.fields #[(Value.str "check_name" 543), (Value.str "check_name" 544), (Value.str "/claim/cut.py" 545), (Value.int 104 0), (Value.int 1 0), (Value.int 0 0), (Value.int 0 0), (Value.int 3 0), (Value.ref 235), (Value.bool Bool.true), (Value.int 181 0), (Value.ref 236), Value.none, (Value.ref 237), (Value.ref 238), (Value.ref 239), (Value.int 547 0), (Value.int 104 0), (Value.str "/claim/cut.py" 548)]) #[])
noncomputable def o241 : Params → Obj := fnO (rfl : (nth 26 body) = .FunctionDef _ _ _ _ _ _ _ _ _ _) "check_name" 3 [] Value.none Value.none Value.none (Value.str "gluepage.files" 537) none (Value.ref 240) Value.none 0 (Value.type "function") none #[]
noncomputable def o249 : Params → Obj := fun P => (Obj.mk (Value.type "tuple") none (Data.seq #[Value.none] 0) #[])
noncomputable def o250 : Params → Obj := fun P => (Obj.mk (Value.type "tuple") none (Data.seq #[] 0) #[])
noncomputable def o252 : Params → Obj := fun P => (Obj.mk (Value.type "tuple") none (Data.seq #[(Value.str "self" 565), (Value.str "texts" 566), (Value.str "name" 567), (Value.str "text" 568)] 0) #[])
noncomputable def o253 : Params → Obj := fun P => (Obj.mk (Value.type "tuple") none (Data.seq #[] 0) #[])
noncomputable def o255 : Params → Obj := fun P => (Obj.mk (Value.type "code") none (Data.fields #[(Value.str "__init__" 562), (Value.str "Library.__init__" 563), (Value.str "/claim/cut.py" 564), (Value.int 110 0), (Value.int 2 0), (Value.int 0 0), (Value.int 0 0), (Value.int 3 0), (Value.ref 250), (Value.bool Bool.true), (Value.int 181 0), (Value.ref 251), Value.none, (Value.ref 252), (Value.ref 253), (Value.ref 254), (Value.int 569 0), (Value.int 110 0), (Value.str "/claim/cut.py" 570)]) #[])
noncomputable def o256 : Params → Obj := fnO (rfl : (nth 0 (kids (nth 27 body))) = .FunctionDef _ _ _ _ _ _ _ _ _ _) "Library.__init__" 3 [] (Value.ref 249) Value.none Value.none (Value.str "gluepage.files" 537) none (Value.ref 255) Value.none 0 (Value.type "function") none #[]
noncomputable def o257 : Params → Obj := fun P => (Obj.mk (Value.type "tuple") none (Data.seq #[] 0) #[])
noncomputable def o259 : Params → Obj := fun P => (Obj.mk (Value.type "tuple") none (Data.seq #[(Value.str "self" 575), (Value.str "stream" 576)] 0) #[])
noncomputable def o260 : Params → Obj := fun P => (Obj.mk (Value.type "tuple") none (Data.seq #[] 0) #[])
noncomputable def o262 : Params → Obj := fun P => (Obj.mk (Value.type "code") none (Data.fields #[(Value.str "is_open" 572), (Value.str "Library.is_open" 573), (Value.str "/claim/cut.py" 574), (Value.int 120 0), (Value.int 2 0), (Value.int 0 0), (Value.int 0 0), (Value.int 3 0), (Value.ref 257), (Value.bool Bool.true), (Value.int 181 0), (Value.ref 258), Value.none, (Value.ref 259), (Value.ref 260), (Value.ref 261), (Value.int 577 0), (Value.int 120 0), (Value.str "/claim/cut.py" 578)]) #[])
noncomputable def o263 : Params → Obj := fnO (rfl : (nth 1 (kids (nth 27 body))) = .FunctionDef _ _ _ _ _ _ _ _ _ _) "Library.is_open" 3 [] Value.none Value.none Value.none (Value.str "gluepage.files" 537) none (Value.ref 262) Value.none 0 (Value.type "function") none #[]
noncomputable def o264 : Params → Obj := fun P => (Obj.mk (Value.type "tuple") none (Data.seq #[] 0) #[])
noncomputable def o266 : Params → Obj := fun P => (Obj.mk (Value.type "tuple") none (Data.seq #[(Value.str "self" 583), (Value.str "stream" 584), (Value.str "name" 585)] 0) #[])
noncomputable def o267 : Params → Obj := fun P => (Obj.mk (Value.type "tuple") none (Data.seq #[] 0) #[])
noncomputable def o269 : Params → Obj := fun P => (Obj.mk (Value.type "code") none (Data.fields #[(Value.str "open" 580), (Value.str "Library.open" 581), (Value.str "/claim/cut.py" 582), (Value.int 123 0), (Value.int 3 0), (Value.int 0 0), (Value.int 0 0), (Value.int 3 0), (Value.ref 264), (Value.bool Bool.true), (Value.int 181 0), (Value.ref 265), Value.none, (Value.ref 266), (Value.ref 267), (Value.ref 268), (Value.int 586 0), (Value.int 123 0), (Value.str "/claim/cut.py" 587)]) #[])
noncomputable def o270 : Params → Obj := fnO (rfl : (nth 2 (kids (nth 27 body))) = .FunctionDef _ _ _ _ _ _ _ _ _ _) "Library.open" 3 [] Value.none Value.none Value.none (Value.str "gluepage.files" 537) none (Value.ref 269) Value.none 0 (Value.type "function") none #[]
noncomputable def o271 : Params → Obj := fun P => (Obj.mk (Value.type "tuple") none (Data.seq #[] 0) #[])
noncomputable def o274 : Params → Obj := fun P => (Obj.mk (Value.type "code") none (Data.fields #[(Value.str "write" 589), (Value.str "Library.write" 590), (Value.str "/claim/cut.py" 591), (Value.int 130 0), (Value.int 3 0), (Value.int 0 0), (Value.int 0 0), (Value.int 3 0), (Value.ref 271), (Value.bool Bool.true), (Value.int 181 0), (Value.ref 272), Value.none, Value.none, Value.none, (Value.ref 273), (Value.int 592 0), (Value.int 130 0), (Value.str "/claim/cut.py" 593)]) #[])
noncomputable def o275 : Params → Obj := fnO (rfl : (nth 3 (kids (nth 27 body))) = .FunctionDef _ _ _ _ _ _ _ _ _ _) "Library.write" 3 [] Value.none Value.none Value.none (Value.str "gluepage.files" 537) none (Value.ref 274) Value.none 0 (Value.type "function") none #[]
noncomputable def o276 : Params → Obj := fun P => (Obj.mk (Value.type "tuple") none (Data.seq #[] 0) #[])
noncomputable def o278 : Params → Obj := fun P => (Obj.mk (Value.type "tuple") none (Data.seq #[(Value.str "self" 598), (Value.str "stream" 599), (Value.str "name" 600), (Value.str "octets" 601)] 0) #[])
noncomputable def o279 : Params → Obj := fun P => (Obj.mk (Value.type "tuple") none (Data.seq #[] 0) #[])
noncomputable def o281 : Params → Obj := fun P => (Obj.mk (Value.type "code") none (Data.fields #[(Value.str "close" 595), (Value.str "Library.close" 596), (Value.str "/claim/cut.py" 597), (Value.int 136 0), (Value.int 2 0), (Value.int 0 0), (Value.int 0 0), (Value.int 3 0), (Value.ref 276), (Value.bool Bool.true), (Value.int 181 0), (Value.ref 277), Value.none, (Value.ref 278), (Value.ref 279), (Value.ref 280), (Value.int 602 0), (Value.int 136 0), (Value.str "/claim/cut.py" 603)]) #[])
noncomputable def o282 : Params → Obj := fnO (rfl : (nth 4 (kids (nth 27 body))) = .FunctionDef _ _ _ _ _ _ _ _ _ _) "Library.close" 3 [] Value.none Value.none Value.none (Value.str "gluepage.files" 537) none (Value.ref 281) Value.none 0 (Value.type "function") none #[]
noncomputable def o283 : Params → Obj := fun P => (Obj.mk (Value.type "tuple") none (Data.seq #[] 0) #[])
noncomputable def o285 : Params → Obj := fun P => (Obj.mk (Value.type "tuple") none (Data.seq #[(Value.str "self" 608), (Value.str "stream" 609)] 0) #[])
noncomputable def o286 : Params → Obj := fun P => (Obj.mk (Value.type "tuple") none (Data.seq #[] 0) #[])
noncomputable def o288 : Params → Obj := fun P => (Obj.mk (Value.type "code") none (Data.fields #[(Value.str "close_all" 605), (Value.str "Library.close_all" 606), (Value.str "/claim/cut.py" 607), (Value.int 141 0), (Value.int 1 0), (Value.int 0 0), (Value.int 0 0), (Value.int 3 0), (Value.ref 283), (Value.bool Bool.true), (Value.int 181 0), (Value.ref 284), Value.none, (Value.ref 285), (Value.ref 286), (Value.ref 287), (Value.int 610 0), (Value.int 141 0), (Value.str "/claim/cut.py" 611)]) #[])
noncomputable def o289 : Params → Obj := fnO (rfl : (nth 5 (kids (nth 27 body))) = .FunctionDef _ _ _ _ _ _ _ _ _ _) "Library.close_all" 3 [] Value.none Value.none Value.none (Value.str "gluepage.files" 537) none (Value.ref 288) Value.none 0 (Value.type "function") none #[]
noncomputable def o290 : Params → Obj := fun P => (Obj.mk (Value.type "tuple") none (Data.seq #[(Value.str "streams" 613), (Value.str "texts" 614)] 0) #[])
noncomputable def o291 : Params → Obj := fun P => (Obj.mk (Value.type "dict") none (Data.dict #[(DictEntry.mk (PyData.keyHash P "__module__") (Value.str "__module__" 557) (Value.str "gluepage.files" 537)), (DictEntry.mk (PyData.keyHash P "__firstlineno__") (Value.str "__firstlineno__" 561) (Value.int 108 560)), (DictEntry.mk (PyData.keyHash P "__init__") (Value.str "__init__" 571) (Value.ref 256)), (DictEntry.mk (PyData.keyHash P "is_open") (Value.str "is_open" 579) (Value.ref 263)), (DictEntry.mk (PyData.keyHash P "open") (Value.str "open" 588) (Value.ref 270)), (DictEntry.mk (PyData.keyHash P "write") (Value.str "write" 594) (Value.ref 275)), (DictEntry.mk (PyData.keyHash P "close") (Value.str "close" 604) (Value.ref 282)), (DictEntry.mk (PyData.keyHash P "close_all") (Value.str "close_all" 612) (Value.ref 289)), (DictEntry.mk (PyData.keyHash P "__static_attributes__") (Value.str "__static_attributes__" 615) (Value.ref 290)), (DictEntry.mk (PyData.keyHash P "__dict__") (Value.str "__dict__" 617) (Value.ref 293)), (DictEntry.mk (PyData.keyHash P "__weakref__") (Value.str "__weakref__" 619) (Value.ref 294)), (DictEntry.mk (PyData.keyHash P "__doc__") (Value.str "__doc__" 620) Value.none)] 4) #[])
noncomputable def o292 : Params → Obj := fun P => (Obj.mk (Value.type "type") none (Data.cls (ClassData.mk "Library" [(Value.type "object")] [(Value.ref 292), (Value.type "object")] 291 "Library" Bool.true [] [] Bool.false none Bool.false)) #[none, none, (Option.some (Value.str "Library" 550)), (Option.some (Value.str "Library" 558)), (Option.some (Value.builtin "object.__new__")), (Option.some (Value.bool Bool.true))])
noncomputable def o293 : Params → Obj := fun P => (Obj.mk (Value.type "getset_descriptor") none (Data.fields #[(Value.str "__dict__" 616), (Value.ref 292), (Value.builtin "function.__dict__"), (Value.builtin "function.__dict__#set")]) #[])
noncomputable def o294 : Params → Obj := fun P => (Obj.mk (Value.type "getset_descriptor") none (Data.fields #[(Value.str "__weakref__" 618), (Value.ref 292), (Value.builtin "ExceptionGroup.__weakref__"), Value.none]) #[])
noncomputable def o297 : Params → Obj := fun P => (Obj.mk (Value.type "tuple") none (Data.seq #[] 0) #[])
noncomputable def o299 : Params → Obj := fun P => (Obj.mk (Value.type "tuple") none (Data.seq #[(Value.str "text" 626), (Value.str "found" 627), (Value.str "mark" 628), (Value.str "code" 629)] 0) #[])
noncomputable def o300 : Params → Obj := fun P => (Obj.mk (Value.type "tuple") none (Data.seq #[] 0) #[])
noncomputable def o302 : Params → Obj := fun P => (Obj.mk (Value.type "code") none (Data.fields #[(Value.str "visible" 623), (Value.str "visible" 624), (Value.str "/claim/cut.py" 625), (Value.int 144 0), (Value.int 1 0), (Value.int 0 0), (Value.int 0 0), (Value.int 3 0), (Value.ref 297), (Value.bool Bool.true), (Value.int 181 0), (Value.ref 298), Value.none, (Value.ref 299), (Value.ref 300), (Value.ref 301), (Value.int 630 0), (Value.int 144 0), (Value.str "/claim/cut.py" 631)]) #[])
noncomputable def o303 : Params → Obj := fnO (rfl : (nth 28 body) = .FunctionDef _ _ _ _ _ _ _ _ _ _) "visible" 3 [] Value.none Value.none Value.none (Value.str "gluepage.files" 537) none (Value.ref 302) Value.none 0 (Value.type "function") none #[]
noncomputable def o308 : Params → Obj := fun P => (Obj.mk (Value.type "tuple") none (Data.seq #[] 0) #[])
noncomputable def o310 : Params → Obj := fun P => (Obj.mk (Value.type "tuple") none (Data.seq #[(Value.str "code" 644)] 0) #[])
noncomputable def o311 : Params → Obj := fun P => (Obj.mk (Value.type "tuple") none (Data.seq #[] 0) #[])
noncomputable def o313 : Params → Obj := fun P => (Obj.mk (Value.type "code") none (Data.fields #[(Value.str "hex_value" 641), (Value.str "hex_value" 642), (Value.str "/claim/cut.py" 643), (Value.int 157 0), (Value.int 1 0), (Value.int 0 0), (Value.int 0 0), (Value.int 3 0), (Value.ref 308), (Value.bool Bool.true), (Value.int 181 0), (Value.ref 309), Value.none, (Value.ref 310), (Value.ref 311), (Value.ref 312), (Value.int 645 0), (Value.int 157 0), (Value.str "/claim/cut.py" 646)]) #[])
noncomputable def o314 : Params → Obj := fnO (rfl : (nth 31 body) = .FunctionDef _ _ _ _ _ _ _ _ _ _) "hex_value" 3 [] Value.none Value.none Value.none (Value.str "gluepage.lines" 633) none (Value.ref 313) Value.none 0 (Value.type "function") none #[]
noncomputable def o315 : Params → Obj := fun P => (Obj.mk (Value.type "tuple") none (Data.seq #[] 0) #[])
noncomputable def o317 : Params → Obj := fun P => (Obj.mk (Value.type "tuple") none (Data.seq #[(Value.str "codes" 651), (Value.str "place" 652), (Value.str "code" 653), (Value.str "mark" 654), (Value.str "high" 655), (Value.str "low" 656)] 0) #[])
noncomputable def o318 : Params → Obj := fun P => (Obj.mk (Value.type "tuple") none (Data.seq #[] 0) #[])
noncomputable def o320 : Params → Obj := fun P => (Obj.mk (Value.type "code") none (Data.fields #[(Value.str "written_otherwise" 648), (Value.str "written_otherwise" 649), (Value.str "/claim/cut.py" 650), (Value.int 163 0), (Value.int 2 0), (Value.int 0 0), (Value.int 0 0), (Value.int 3 0), (Value.ref 315), (Value.bool Bool.true), (Value.int 181 0), (Value.ref 316), Value.none, (Value.ref 317), (Value.ref 318), (Value.ref 319), (Value.int 657 0), (Value.int 163 0), (Value.str "/claim/cut.py" 658)]) #[])
noncomputable def o321 : Params → Obj := fnO (rfl : (nth 32 body) = .FunctionDef _ _ _ _ _ _ _ _ _ _) "written_otherwise" 3 [] Value.none Value.none Value.none (Value.str "gluepage.lines" 633) none (Value.ref 320) Value.none 0 (Value.type "function") none #[]
noncomputable def o329 : Params → Obj := fun P => (Obj.mk (Value.type "tuple") none (Data.seq #[(Value.int 13 672)] 0) #[])
noncomputable def o330 : Params → Obj := fun P => (Obj.mk (Value.type "tuple") none (Data.seq #[] 0) #[])
noncomputable def o332 : Params → Obj := fun P => (Obj.mk (Value.type "tuple") none (Data.seq #[(Value.str "self" 676), (Value.str "text" 677), (Value.str "names" 678), (Value.str "end_line" 679)] 0) #[])
noncomputable def o333 : Params → Obj := fun P => (Obj.mk (Value.type "tuple") none (Data.seq #[] 0) #[])
noncomputable def o335 : Params → Obj := fun P => (Obj.mk (Value.type "code") none (Data.fields #[(Value.str "__init__" 673), (Value.str "Lines.__init__" 674), (Value.str "/claim/cut.py" 675), (Value.int 177 0), (Value.int 4 0), (Value.int 0 0), (Value.int 0 0), (Value.int 3 0), (Value.ref 330), (Value.bool Bool.true), (Value.int 181 0), (Value.ref 331), Value.none, (Value.ref 332), (Value.ref 333), (Value.ref 334), (Value.int 680 0), (Value.int 177 0), (Value.str "/claim/cut.py" 681)]) #[])
noncomputable def o336 : Params → Obj := fnO (rfl : (nth 0 (kids (nth 33 body))) = .FunctionDef _ _ _ _ _ _ _ _ _ _) "Lines.__init__" 3 [] (Value.ref 329) Value.none Value.none (Value.str "gluepage.lines" 633) none (Value.ref 335) Value.none 0 (Value.type "function") none #[]
noncomputable def o337 : Params → Obj := fun P => (Obj.mk (Value.type "tuple") none (Data.seq #[] 0) #[])
noncomputable def o339 : Params → Obj := fun P => (Obj.mk (Value.type "tuple") none (Data.seq #[(Value.str "self" 686)] 0) #[])
noncomputable def o340 : Params → Obj := fun P => (Obj.mk (Value.type "tuple") none (Data.seq #[] 0) #[])
noncomputable def o342 : Params → Obj := fun P => (Obj.mk (Value.type "code") none (Data.fields #[(Value.str "stop" 683), (Value.str "Lines.stop" 684), (Value.str "/claim/cut.py" 685), (Value.int 190 0), (Value.int 1 0), (Value.int 0 0), (Value.int 0 0), (Value.int 3 0), (Value.ref 337), (Value.bool Bool.true), (Value.int 181 0), (Value.ref 338), Value.none, (Value.ref 339), (Value.ref 340), (Value.ref 341), (Value.int 687 0), (Value.int 190 0), (Value.str "/claim/cut.py" 688)]) #[])
noncomputable def o343 : Params → Obj := fnO (rfl : (nth 1 (kids (nth 33 body))) = .FunctionDef _ _ _ _ _ _ _ _ _ _) "Lines.stop" 3 [] Value.none Value.none Value.none (Value.str "gluepage.lines" 633) none (Value.ref 342) Value.none 0 (Value.type "function") none #[]
noncomputable def o344 : Params → Obj := fun P => (Obj.mk (Value.type "tuple") none (Data.seq #[] 0) #[])
noncomputable def o346 : Params → Obj := fun P => (Obj.mk (Value.type "tuple") none (Data.seq #[(Value.str "self" 693), (Value.str "cats" 694), (Value.str "held" 695), (Value.str "token" 696)] 0) #[])
noncomputable def o347 : Params → Obj := fun P => (Obj.mk (Value.type "tuple") none (Data.seq #[] 0) #[])
noncomputable def o349 : Params → Obj := fun P => (Obj.mk (Value.type "code") none (Data.fields #[(Value.str "next" 690), (Value.str "Lines.next" 691), (Value.str "/claim/cut.py" 692), (Value.int 193 0), (Value.int 2 0), (Value.int 0 0), (Value.int 0 0), (Value.int 3 0), (Value.ref 344), (Value.bool Bool.true), (Value.int 181 0), (Value.ref 345), Value.none, (Value.ref 346), (Value.ref 347), (Value.ref 348), (Value.int 697 0), (Value.int 193 0), (Value.str "/claim/cut.py" 698)]) #[])
noncomputable def o350 : Params → Obj := fnO (rfl : (nth 2 (kids (nth 33 body))) = .FunctionDef _ _ _ _ _ _ _ _ _ _) "Lines.next" 3 [] Value.none Value.none Value.none (Value.str "gluepage.lines" 633) none (Value.ref 349) Value.none 0 (Value.type "function") none #[]
noncomputable def o351 : Params → Obj := fun P => (Obj.mk (Value.type "tuple") none (Data.seq #[] 0) #[])
noncomputable def o353 : Params → Obj := fun P => (Obj.mk (Value.type "tuple") none (Data.seq #[(Value.str "self" 703), (Value.str "end" 704), (Value.str "codes" 705)] 0) #[])
noncomputable def o354 : Params → Obj := fun P => (Obj.mk (Value.type "tuple") none (Data.seq #[] 0) #[])
noncomputable def o356 : Params → Obj := fun P => (Obj.mk (Value.type "code") none (Data.fields #[(Value.str "begin_row" 700), (Value.str "Lines.begin_row" 701), (Value.str "/claim/cut.py" 702), (Value.int 202 0), (Value.int 1 0), (Value.int 0 0), (Value.int 0 0), (Value.int 3 0), (Value.ref 351), (Value.bool Bool.true), (Value.int 181 0), (Value.ref 352), Value.none, (Value.ref 353), (Value.ref 354), (Value.ref 355), (Value.int 706 0), (Value.int 202 0), (Value.str "/claim/cut.py" 707)]) #[])
noncomputable def o357 : Params → Obj := fnO (rfl : (nth 3 (kids (nth 33 body))) = .FunctionDef _ _ _ _ _ _ _ _ _ _) "Lines.begin_row" 3 [] Value.none Value.none Value.none (Value.str "gluepage.lines" 633) none (Value.ref 356) Value.none 0 (Value.type "function") none #[]
noncomputable def o358 : Params → Obj := fun P => (Obj.mk (Value.type "tuple") none (Data.seq #[] 0) #[])
noncomputable def o360 : Params → Obj := fun P => (Obj.mk (Value.type "tuple") none (Data.seq #[(Value.str "self" 712), (Value.str "cats" 713), (Value.str "token" 714)] 0) #[])
noncomputable def o361 : Params → Obj := fun P => (Obj.mk (Value.type "tuple") none (Data.seq #[] 0) #[])
noncomputable def o363 : Params → Obj := fun P => (Obj.mk (Value.type "code") none (Data.fields #[(Value.str "read_token" 709), (Value.str "Lines.read_token" 710), (Value.str "/claim/cut.py" 711), (Value.int 220 0), (Value.int 2 0), (Value.int 0 0), (Value.int 0 0), (Value.int 3 0), (Value.ref 358), (Value.bool Bool.true), (Value.int 181 0), (Value.ref 359), Value.none, (Value.ref 360), (Value.ref 361), (Value.ref 362), (Value.int 715 0), (Value.int 220 0), (Value.str "/claim/cut.py" 716)]) #[])
noncomputable def o364 : Params → Obj := fnO (rfl : (nth 4 (kids (nth 33 body))) = .FunctionDef _ _ _ _ _ _ _ _ _ _) "Lines.read_token" 3 [] Value.none Value.none Value.none (Value.str "gluepage.lines" 633) none (Value.ref 363) Value.none 0 (Value.type "function") none #[]
noncomputable def o365 : Params → Obj := fun P => (Obj.mk (Value.type "tuple") none (Data.seq #[] 0) #[])
noncomputable def o367 : Params → Obj := fun P => (Obj.mk (Value.type "tuple") none (Data.seq #[(Value.str "self" 721), (Value.str "place" 722), (Value.str "cats" 723), (Value.str "code" 724), (Value.str "category" 725), (Value.str "places" 726)] 0) #[])
noncomputable def o368 : Params → Obj := fun P => (Obj.mk (Value.type "tuple") none (Data.seq #[] 0) #[])
noncomputable def o370 : Params → Obj := fun P => (Obj.mk (Value.type "code") none (Data.fields #[(Value.str "looked_at" 718), (Value.str "Lines.looked_at" 719), (Value.str "/claim/cut.py" 720), (Value.int 229 0), (Value.int 3 0), (Value.int 0 0), (Value.int 0 0), (Value.int 3 0), (Value.ref 365), (Value.bool Bool.true), (Value.int 181 0), (Value.ref 366), Value.none, (Value.ref 367), (Value.ref 368), (Value.ref 369), (Value.int 727 0), (Value.int 229 0), (Value.str "/claim/cut.py" 728)]) #[])
noncomputable def o371 : Params → Obj := fnO (rfl : (nth 5 (kids (nth 33 body))) = .FunctionDef _ _ _ _ _ _ _ _ _ _) "Lines.looked_at" 3 [] Value.none Value.none Value.none (Value.str "gluepage.lines" 633) none (Value.ref 370) Value.none 0 (Value.type "function") none #[]
noncomputable def o372 : Params → Obj := fun P => (Obj.mk (Value.type "tuple") none (Data.seq #[] 0) #[])
noncomputable def o374 : Params → Obj := fun P => (Obj.mk (Value.type "tuple") none (Data.seq #[(Value.str "self" 733), (Value.str "cats" 734), (Value.str "code" 735), (Value.str "category" 736)] 0) #[])
noncomputable def o375 : Params → Obj := fun P => (Obj.mk (Value.type "tuple") none (Data.seq #[] 0) #[])
noncomputable def o377 : Params → Obj := fun P => (Obj.mk (Value.type "code") none (Data.fields #[(Value.str "step" 730), (Value.str "Lines.step" 731), (Value.str "/claim/cut.py" 732), (Value.int 240 0), (Value.int 2 0), (Value.int 0 0), (Value.int 0 0), (Value.int 3 0), (Value.ref 372), (Value.bool Bool.true), (Value.int 181 0), (Value.ref 373), Value.none, (Value.ref 374), (Value.ref 375), (Value.ref 376), (Value.int 737 0), (Value.int 240 0), (Value.str "/claim/cut.py" 738)]) #[])
noncomputable def o378 : Params → Obj := fnO (rfl : (nth 6 (kids (nth 33 body))) = .FunctionDef _ _ _ _ _ _ _ _ _ _) "Lines.step" 3 [] Value.none Value.none Value.none (Value.str "gluepage.lines" 633) none (Value.ref 377) Value.none 0 (Value.type "function") none #[]
noncomputable def o379 : Params → Obj := fun P => (Obj.mk (Value.type "tuple") none (Data.seq #[] 0) #[])
noncomputable def o381 : Params → Obj := fun P => (Obj.mk (Value.type "tuple") none (Data.seq #[(Value.str "self" 743)] 0) #[])
noncomputable def o382 : Params → Obj := fun P => (Obj.mk (Value.type "tuple") none (Data.seq #[] 0) #[])
noncomputable def o384 : Params → Obj := fun P => (Obj.mk (Value.type "code") none (Data.fields #[(Value.str "end_of_row" 740), (Value.str "Lines.end_of_row" 741), (Value.str "/claim/cut.py" 742), (Value.int 262 0), (Value.int 1 0), (Value.int 0 0), (Value.int 0 0), (Value.int 3 0), (Value.ref 379), (Value.bool Bool.true), (Value.int 181 0), (Value.ref 380), Value.none, (Value.ref 381), (Value.ref 382), (Value.ref 383), (Value.int 744 0), (Value.int 262 0), (Value.str "/claim/cut.py" 745)]) #[])
noncomputable def o385 : Params → Obj := fnO (rfl : (nth 7 (kids (nth 33 body))) = .FunctionDef _ _ _ _ _ _ _ _ _ _) "Lines.end_of_row" 3 [] Value.none Value.none Value.none (Value.str "gluepage.lines" 633) none (Value.ref 384) Value.none 0 (Value.type "function") none #[]
noncomputable def o386 : Params → Obj := fun P => (Obj.mk (Value.type "tuple") none (Data.seq #[] 0) #[])
noncomputable def o388 : Params → Obj := fun P => (Obj.mk (Value.type "tuple") none (Data.seq #[(Value.str "self" 750), (Value.str "cats" 751), (Value.str "code" 752), (Value.str "category" 753), (Value.str "name" 754), (Value.str "place" 755), (Value.str "going" 756), (Value.str "behind" 757), (Value.str "token" 758)] 0) #[])
noncomputable def o389 : Params → Obj := fun P => (Obj.mk (Value.type "tuple") none (Data.seq #[] 0) #[])
noncomputable def o391 : Params → Obj := fun P => (Obj.mk (Value.type "code") none (Data.fields #[(Value.str "control_word" 747), (Value.str "Lines.control_word" 748), (Value.str "/claim/cut.py" 749), (Value.int 270 0), (Value.int 2 0), (Value.int 0 0), (Value.int 0 0), (Value.int 3 0), (Value.ref 386), (Value.bool Bool.true), (Value.int 181 0), (Value.ref 387), Value.none, (Value.ref 388), (Value.ref 389), (Value.ref 390), (Value.int 759 0), (Value.int 270 0), (Value.str "/claim/cut.py" 760)]) #[])
noncomputable def o392 : Params → Obj := fnO (rfl : (nth 8 (kids (nth 33 body))) = .FunctionDef _ _ _ _ _ _ _ _ _ _) "Lines.control_word" 3 [] Value.none Value.none Value.none (Value.str "gluepage.lines" 633) none (Value.ref 391) Value.none 0 (Value.type "function") none #[]
noncomputable def o393 : Params → Obj := fun P => (Obj.mk (Value.type "tuple") none (Data.seq #[(Value.str "at" 762), (Value.str "codes" 763), (Value.str "end_line" 764), (Value.str "names" 765), (Value.str "row" 766), (Value.str "spot" 767), (Value.str "state" 768), (Value.str "stopped" 769), (Value.str "text" 770)] 0) #[])
noncomputable def o394 : Params → Obj := fun P => (Obj.mk (Value.type "dict") none (Data.dict #[(DictEntry.mk (PyData.keyHash P "__module__") (Value.str "__module__" 667) (Value.str "gluepage.lines" 633)), (DictEntry.mk (PyData.keyHash P "__firstlineno__") (Value.str "__firstlineno__" 671) (Value.int 175 670)), (DictEntry.mk (PyData.keyHash P "__init__") (Value.str "__init__" 682) (Value.ref 336)), (DictEntry.mk (PyData.keyHash P "stop") (Value.str "stop" 689) (Value.ref 343)), (DictEntry.mk (PyData.keyHash P "next") (Value.str "next" 699) (Value.ref 350)), (DictEntry.mk (PyData.keyHash P "begin_row") (Value.str "begin_row" 708) (Value.ref 357)), (DictEntry.mk (PyData.keyHash P "read_token") (Value.str "read_token" 717) (Value.ref 364)), (DictEntry.mk (PyData.keyHash P "looked_at") (Value.str "looked_at" 729) (Value.ref 371)), (DictEntry.mk (PyData.keyHash P "step") (Value.str "step" 739) (Value.ref 378)), (DictEntry.mk (PyData.keyHash P "end_of_row") (Value.str "end_of_row" 746) (Value.ref 385)), (DictEntry.mk (PyData.keyHash P "control_word") (Value.str "control_word" 761) (Value.ref 392)), (DictEntry.mk (PyData.keyHash P "__static_attributes__") (Value.str "__static_attributes__" 771) (Value.ref 393)), (DictEntry.mk (PyData.keyHash P "__dict__") (Value.str "__dict__" 773) (Value.ref 396)), (DictEntry.mk (PyData.keyHash P "__weakref__") (Value.str "__weakref__" 775) (Value.ref 397)), (DictEntry.mk (PyData.keyHash P "__doc__") (Value.str "__doc__" 776) Value.none)] 4) #[])
noncomputable def o395 : Params → Obj := fun P => (Obj.mk (Value.type "type") none (Data.cls (ClassData.mk "Lines" [(Value.type "object")] [(Value.ref 395), (Value.type "object")] 394 "Lines" Bool.true [] [] Bool.false none Bool.false)) #[none, none, (Option.some (Value.str "Lines" 660)), (Option.some (Value.str "Lines" 668)), (Option.some (Value.builtin "object.__new__")), (Option.some (Value.bool Bool.true))])
noncomputable def o396 : Params → Obj := fun P => (Obj.mk (Value.type "getset_descriptor") none (Data.fields #[(Value.str "__dict__" 772), (Value.ref 395), (Value.builtin "function.__dict__"), (Value.builtin "function.__dict__#set")]) #[])
noncomputable def o397 : Params → Obj := fun P => (Obj.mk (Value.type "getset_descriptor") none (Data.fields #[(Value.str "__weakref__" 774), (Value.ref 395), (Value.builtin "ExceptionGroup.__weakref__"), Value.none]) #[])
noncomputable def o400 : Params → Obj := fun P => (Obj.mk (Value.type "tuple") none (Data.seq #[] 0) #[])
noncomputable def o402 : Params → Obj := fun P => (Obj.mk (Value.type "tuple") none (Data.seq #[(Value.str "text" 782), (Value.str "names" 783), (Value.str "cats" 784), (Value.str "lines" 785), (Value.str "found" 786), (Value.str "token" 787)] 0) #[])
noncomputable def o403 : Params → Obj := fun P => (Obj.mk (Value.type "tuple") none (Data.seq #[] 0) #[])
noncomputable def o405 : Params → Obj := fun P => (Obj.mk (Value.type "code") none (Data.fields #[(Value.str "tokens_of" 779), (Value.str "tokens_of" 780), (Value.str "/claim/cut.py" 781), (Value.int 288 0), (Value.int 3 0), (Value.int 0 0), (Value.int 0 0), (Value.int 3 0), (Value.ref 400), (Value.bool Bool.true), (Value.int 181 0), (Value.ref 401), Value.none, (Value.ref 402), (Value.ref 403), (Value.ref 404), (Value.int 788 0), (Value.int 288 0), (Value.str "/claim/cut.py" 789)]) #[])
noncomputable def o406 : Params → Obj := fnO (rfl : (nth 34 body) = .FunctionDef _ _ _ _ _ _ _ _ _ _) "tokens_of" 3 [] Value.none Value.none Value.none (Value.str "gluepage.lines" 633) none (Value.ref 405) Value.none 0 (Value.type "function") none #[]
noncomputable def o407 : Params → Obj := fun P => (Obj.mk (Value.type "tuple") none (Data.seq #[] 0) #[])
noncomputable def o409 : Params → Obj := fun P => (Obj.mk (Value.type "tuple") none (Data.seq #[(Value.str "script" 796), (Value.str "k" 797)] 0) #[])
noncomputable def o410 : Params → Obj := fun P => (Obj.mk (Value.type "tuple") none (Data.seq #[] 0) #[])
noncomputable def o412 : Params → Obj := fun P => (Obj.mk (Value.type "code") none (Data.fields #[(Value.str "_law_cell" 793), (Value.str "_law_cell" 794), (Value.str "/claim/cut.py" 795), (Value.int 296 0), (Value.int 2 0), (Value.int 0 0), (Value.int 0 0), (Value.int 3 0), (Value.ref 407), (Value.bool Bool.true), (Value.int 181 0), (Value.ref 408), Value.none, (Value.ref 409), (Value.ref 410), (Value.ref 411), (Value.int 798 0), (Value.int 296 0), (Value.str "/claim/cut.py" 799)]) #[])
noncomputable def o413 : Params → Obj := fnO (rfl : (nth 36 body) = .FunctionDef _ _ _ _ _ _ _ _ _ _) "_law_cell" 3 [] Value.none Value.none Value.none (Value.str "law_sq0039_01" 791) none (Value.ref 412) Value.none 0 (Value.type "function") none #[]
noncomputable def o414 : Params → Obj := fun P => (Obj.mk (Value.type "tuple") none (Data.seq #[] 0) #[])
noncomputable def o416 : Params → Obj := fun P => (Obj.mk (Value.type "tuple") none (Data.seq #[(Value.str "cell" 804)] 0) #[])
noncomputable def o417 : Params → Obj := fun P => (Obj.mk (Value.type "tuple") none (Data.seq #[] 0) #[])
noncomputable def o419 : Params → Obj := fun P => (Obj.mk (Value.type "code") none (Data.fields #[(Value.str "_law_box" 801), (Value.str "_law_box" 802), (Value.str "/claim/cut.py" 803), (Value.int 298 0), (Value.int 1 0), (Value.int 0 0), (Value.int 0 0), (Value.int 3 0), (Value.ref 414), (Value.bool Bool.true), (Value.int 181 0), (Value.ref 415), Value.none, (Value.ref 416), (Value.ref 417), (Value.ref 418), (Value.int 805 0), (Value.int 298 0), (Value.str "/claim/cut.py" 806)]) #[])
noncomputable def o420 : Params → Obj := fnO (rfl : (nth 37 body) = .FunctionDef _ _ _ _ _ _ _ _ _ _) "_law_box" 3 [] Value.none Value.none Value.none (Value.str "law_sq0039_01" 791) none (Value.ref 419) Value.none 0 (Value.type "function") none #[]
noncomputable def o421 : Params → Obj := fun P => (Obj.mk (Value.type "tuple") none (Data.seq #[] 0) #[])
noncomputable def o423 : Params → Obj := fun P => (Obj.mk (Value.type "tuple") none (Data.seq #[(Value.str "box" 811), (Value.str "many" 812), (Value.str "digit" 813), (Value.str "blend" 814)] 0) #[])
noncomputable def o424 : Params → Obj := fun P => (Obj.mk (Value.type "tuple") none (Data.seq #[] 0) #[])
noncomputable def o426 : Params → Obj := fun P => (Obj.mk (Value.type "code") none (Data.fields #[(Value.str "_law_take" 808), (Value.str "_law_take" 809), (Value.str "/claim/cut.py" 810), (Value.int 300 0), (Value.int 2 0), (Value.int 0 0), (Value.int 0 0), (Value.int 3 0), (Value.ref 421), (Value.bool Bool.true), (Value.int 181 0), (Value.ref 422), Value.none, (Value.ref 423), (Value.ref 424), (Value.ref 425), (Value.int 815 0), (Value.int 300 0), (Value.str "/claim/cut.py" 816)]) #[])
noncomputable def o427 : Params → Obj := fnO (rfl : (nth 38 body) = .FunctionDef _ _ _ _ _ _ _ _ _ _) "_law_take" 3 [] Value.none Value.none Value.none (Value.str "law_sq0039_01" 791) none (Value.ref 426) Value.none 0 (Value.type "function") none #[]
noncomputable def o428 : Params → Obj := fun P => (Obj.mk (Value.type "tuple") none (Data.seq #[] 0) #[])
noncomputable def o430 : Params → Obj := fun P => (Obj.mk (Value.type "tuple") none (Data.seq #[(Value.str "box" 821), (Value.str "many" 822), (Value.str "codes" 823), (Value.str "turn" 824), (Value.str "code" 825)] 0) #[])
noncomputable def o431 : Params → Obj := fun P => (Obj.mk (Value.type "tuple") none (Data.seq #[] 0) #[])
noncomputable def o433 : Params → Obj := fun P => (Obj.mk (Value.type "code") none (Data.fields #[(Value.str "_law_codes" 818), (Value.str "_law_codes" 819), (Value.str "/claim/cut.py" 820), (Value.int 308 0), (Value.int 2 0), (Value.int 0 0), (Value.int 0 0), (Value.int 3 0), (Value.ref 428), (Value.bool Bool.true), (Value.int 181 0), (Value.ref 429), Value.none, (Value.ref 430), (Value.ref 431), (Value.ref 432), (Value.int 826 0), (Value.int 308 0), (Value.str "/claim/cut.py" 827)]) #[])
noncomputable def o434 : Params → Obj := fnO (rfl : (nth 39 body) = .FunctionDef _ _ _ _ _ _ _ _ _ _) "_law_codes" 3 [] Value.none Value.none Value.none (Value.str "law_sq0039_01" 791) none (Value.ref 433) Value.none 0 (Value.type "function") none #[]
noncomputable def o435 : Params → Obj := fun P => (Obj.mk (Value.type "tuple") none (Data.seq #[] 0) #[])
noncomputable def o438 : Params → Obj := fun P => (Obj.mk (Value.type "code") none (Data.fields #[(Value.str "_law_visible_right" 829), (Value.str "_law_visible_right" 830), (Value.str "/claim/cut.py" 831), (Value.int 314 0), (Value.int 1 0), (Value.int 0 0), (Value.int 0 0), (Value.int 3 0), (Value.ref 435), (Value.bool Bool.true), (Value.int 181 0), (Value.ref 436), Value.none, Value.none, Value.none, (Value.ref 437), (Value.int 832 0), (Value.int 314 0), (Value.str "/claim/cut.py" 833)]) #[])
noncomputable def o439 : Params → Obj := fnO (rfl : (nth 40 body) = .FunctionDef _ _ _ _ _ _ _ _ _ _) "_law_visible_right" 3 [] Value.none Value.none Value.none (Value.str "law_sq0039_01" 791) none (Value.ref 438) Value.none 0 (Value.type "function") none #[]
noncomputable def o440 : Params → Obj := fun P => (Obj.mk (Value.type "tuple") none (Data.seq #[] 0) #[])
noncomputable def o443 : Params → Obj := fun P => (Obj.mk (Value.type "code") none (Data.fields #[(Value.str "_law_like" 835), (Value.str "_law_like" 836), (Value.str "/claim/cut.py" 837), (Value.int 325 0), (Value.int 3 0), (Value.int 0 0), (Value.int 0 0), (Value.int 3 0), (Value.ref 440), (Value.bool Bool.true), (Value.int 181 0), (Value.ref 441), Value.none, Value.none, Value.none, (Value.ref 442), (Value.int 838 0), (Value.int 325 0), (Value.str "/claim/cut.py" 839)]) #[])
noncomputable def o444 : Params → Obj := fnO (rfl : (nth 41 body) = .FunctionDef _ _ _ _ _ _ _ _ _ _) "_law_like" 3 [] Value.none Value.none Value.none (Value.str "law_sq0039_01" 791) none (Value.ref 443) Value.none 0 (Value.type "function") none #[]
noncomputable def o445 : Params → Obj := fun P => (Obj.mk (Value.type "tuple") none (Data.seq #[] 0) #[])
noncomputable def o447 : Params → Obj := fun P => (Obj.mk (Value.type "tuple") none (Data.seq #[(Value.str "streams" 844), (Value.str "files" 845), (Value.str "place" 846), (Value.str "name" 847), (Value.str "octets" 848)] 0) #[])
noncomputable def o448 : Params → Obj := fun P => (Obj.mk (Value.type "tuple") none (Data.seq #[] 0) #[])
noncomputable def o450 : Params → Obj := fun P => (Obj.mk (Value.type "code") none (Data.fields #[(Value.str "_law_shut" 841), (Value.str "_law_shut" 842), (Value.str "/claim/cut.py" 843), (Value.int 329 0), (Value.int 3 0), (Value.int 0 0), (Value.int 0 0), (Value.int 3 0), (Value.ref 445), (Value.bool Bool.true), (Value.int 181 0), (Value.ref 446), Value.none, (Value.ref 447), (Value.ref 448), (Value.ref 449), (Value.int 849 0), (Value.int 329 0), (Value.str "/claim/cut.py" 850)]) #[])
noncomputable def o451 : Params → Obj := fnO (rfl : (nth 42 body) = .FunctionDef _ _ _ _ _ _ _ _ _ _) "_law_shut" 3 [] Value.none Value.none Value.none (Value.str "law_sq0039_01" 791) none (Value.ref 450) Value.none 0 (Value.type "function") none #[]
noncomputable def o452 : Params → Obj := fun P => (Obj.mk (Value.type "tuple") none (Data.seq #[] 0) #[])
noncomputable def o455 : Params → Obj := fun P => (Obj.mk (Value.type "code") none (Data.fields #[(Value.str "_law_deed" 852), (Value.str "_law_deed" 853), (Value.str "/claim/cut.py" 854), (Value.int 333 0), (Value.int 4 0), (Value.int 0 0), (Value.int 0 0), (Value.int 3 0), (Value.ref 452), (Value.bool Bool.true), (Value.int 181 0), (Value.ref 453), Value.none, Value.none, Value.none, (Value.ref 454), (Value.int 855 0), (Value.int 333 0), (Value.str "/claim/cut.py" 856)]) #[])
noncomputable def o456 : Params → Obj := fnO (rfl : (nth 43 body) = .FunctionDef _ _ _ _ _ _ _ _ _ _) "_law_deed" 3 [] Value.none Value.none Value.none (Value.str "law_sq0039_01" 791) none (Value.ref 455) Value.none 0 (Value.type "function") none #[]
noncomputable def o457 : Params → Obj := fun P => (Obj.mk (Value.type "tuple") none (Data.seq #[] 0) #[])
noncomputable def o459 : Params → Obj := fun P => (Obj.mk (Value.type "tuple") none (Data.seq #[(Value.str "library" 861), (Value.str "place" 862), (Value.str "name" 863)] 0) #[])
noncomputable def o460 : Params → Obj := fun P => (Obj.mk (Value.type "tuple") none (Data.seq #[] 0) #[])
noncomputable def o462 : Params → Obj := fun P => (Obj.mk (Value.type "code") none (Data.fields #[(Value.str "_law_refused" 858), (Value.str "_law_refused" 859), (Value.str "/claim/cut.py" 860), (Value.int 360 0), (Value.int 3 0), (Value.int 0 0), (Value.int 0 0), (Value.int 3 0), (Value.ref 457), (Value.bool Bool.true), (Value.int 181 0), (Value.ref 458), Value.none, (Value.ref 459), (Value.ref 460), (Value.ref 461), (Value.int 864 0), (Value.int 360 0), (Value.str "/claim/cut.py" 865)]) #[])
noncomputable def o463 : Params → Obj := fnO (rfl : (nth 44 body) = .FunctionDef _ _ _ _ _ _ _ _ _ _) "_law_refused" 3 [] Value.none Value.none Value.none (Value.str "law_sq0039_01" 791) none (Value.ref 462) Value.none 0 (Value.type "function") none #[]
noncomputable def o464 : Params → Obj := fun P => (Obj.mk (Value.type "tuple") none (Data.seq #[] 0) #[])
noncomputable def o466 : Params → Obj := fun P => (Obj.mk (Value.type "tuple") none (Data.seq #[(Value.str "box" 870), (Value.str "many" 871), (Value.str "files" 872), (Value.str "library" 873), (Value.str "streams" 874), (Value.str "turn" 875), (Value.str "other" 876)] 0) #[])
noncomputable def o467 : Params → Obj := fun P => (Obj.mk (Value.type "tuple") none (Data.seq #[] 0) #[])
noncomputable def o469 : Params → Obj := fun P => (Obj.mk (Value.type "code") none (Data.fields #[(Value.str "_law_right" 867), (Value.str "_law_right" 868), (Value.str "/claim/cut.py" 869), (Value.int 366 0), (Value.int 2 0), (Value.int 0 0), (Value.int 0 0), (Value.int 3 0), (Value.ref 464), (Value.bool Bool.true), (Value.int 181 0), (Value.ref 465), Value.none, (Value.ref 466), (Value.ref 467), (Value.ref 468), (Value.int 877 0), (Value.int 366 0), (Value.str "/claim/cut.py" 878)]) #[])
noncomputable def o470 : Params → Obj := fnO (rfl : (nth 45 body) = .FunctionDef _ _ _ _ _ _ _ _ _ _) "_law_right" 3 [] Value.none Value.none Value.none (Value.str "law_sq0039_01" 791) none (Value.ref 469) Value.none 0 (Value.type "function") none #[]
noncomputable def o471 : Params → Obj := fun P => (Obj.mk (Value.type "tuple") none (Data.seq #[] 0) #[])
noncomputable def o473 : Params → Obj := fun P => (Obj.mk (Value.type "tuple") none (Data.seq #[(Value.str "script" 883), (Value.str "tiny" 884), (Value.str "k" 885), (Value.str "box" 886)] 0) #[])
noncomputable def o474 : Params → Obj := fun P => (Obj.mk (Value.type "tuple") none (Data.seq #[] 0) #[])
noncomputable def o476 : Params → Obj := fun P => (Obj.mk (Value.type "code") none (Data.fields #[(Value.str "law" 880), (Value.str "law" 881), (Value.str "/claim/cut.py" 882), (Value.int 379 0), (Value.int 1 0), (Value.int 0 0), (Value.int 0 0), (Value.int 3 0), (Value.ref 471), (Value.bool Bool.true), (Value.int 181 0), (Value.ref 472), Value.none, (Value.ref 473), (Value.ref 474), (Value.ref 475), (Value.int 887 0), (Value.int 379 0), (Value.str "/claim/cut.py" 888)]) #[])
noncomputable def o477 : Params → Obj := fnO (rfl : (nth 46 body) = .FunctionDef _ _ _ _ _ _ _ _ _ _) "law" 3 [] Value.none Value.none Value.none (Value.str "law_sq0039_01" 791) none (Value.ref 476) Value.none 0 (Value.type "function") none #[]
noncomputable def heap_39 : Params → Frag := fun P => (nat_lit 2, o2 P) :: (nat_lit 3, o3 P) :: (nat_lit 15, o15 P) :: (nat_lit 17, o17 P) :: (nat_lit 18, o18 P) :: (nat_lit 20, o20 P) :: (nat_lit 21, o21 P) :: (nat_lit 22, o22 P) :: (nat_lit 29, o29 P) :: (nat_lit 30, o30 P) :: (nat_lit 32, o32 P) :: (nat_lit 33, o33 P) :: (nat_lit 35, o35 P) :: (nat_lit 36, o36 P) :: (nat_lit 37, o37 P) :: (nat_lit 38, o38 P) :: (nat_lit 39, o39 P) :: (nat_lit 40, o40 P) :: (nat_lit 43, o43 P) :: (nat_lit 50, o50 P) :: (nat_lit 51, o51 P) :: (nat_lit 52, o52 P) :: (nat_lit 55, o55 P) :: (nat_lit 62, o62 P) :: (nat_lit 63, o63 P) :: (nat_lit 64, o64 P) :: (nat_lit 67, o67 P) :: (nat_lit 74, o74 P) :: (nat_lit 75, o75 P) :: (nat_lit 76, o76 P) :: (nat_lit 79, o79 P) :: (nat_lit 86, o86 P) :: (nat_lit 87, o87 P) :: (nat_lit 88, o88 P) :: (nat_lit 91, o91 P) :: (nat_lit 98, o98 P) :: (nat_lit 99, o99 P) :: (nat_lit 100, o100 P) :: (nat_lit 103, o103 P) :: (nat_lit 105, o105 P) :: (nat_lit 106, o106 P) :: (nat_lit 108, o108 P) :: (nat_lit 109, o109 P) :: (nat_lit 110, o110 P) :: (nat_lit 112, o112 P) :: (nat_lit 113, o113 P) :: (nat_lit 115, o115 P) :: (nat_lit 116, o116 P) :: (nat_lit 117, o117 P) :: (nat_lit 119, o119 P) :: (nat_lit 120, o120 P) :: (nat_lit 122, o122 P) :: (nat_lit 123, o123 P) :: (nat_lit 136, o136 P) :: (nat_lit 137, o137 P) :: (nat_lit 139, o139 P) :: (nat_lit 140, o140 P) :: (nat_lit 142, o142 P) :: (nat_lit 143, o143 P) :: (nat_lit 151, o151 P) :: (nat_lit 152, o152 P) :: (nat_lit 154, o154 P) :: (nat_lit 155, o155 P) :: (nat_lit 157, o157 P) :: (nat_lit 158, o158 P) :: (nat_lit 159, o159 P) :: (nat_lit 161, o161 P) :: (nat_lit 162, o162 P) :: (nat_lit 164, o164 P) :: (nat_lit 165, o165 P) :: (nat_lit 166, o166 P) :: (nat_lit 168, o168 P) :: (nat_lit 169, o169 P) :: (nat_lit 171, o171 P) :: (nat_lit 172, o172 P) :: (nat_lit 173, o173 P) :: (nat_lit 175, o175 P) :: (nat_lit 176, o176 P) :: (nat_lit 178, o178 P) :: (nat_lit 179, o179 P) :: (nat_lit 180, o180 P) :: (nat_lit 182, o182 P) :: (nat_lit 183, o183 P) :: (nat_lit 185, o185 P) :: (nat_lit 186, o186 P) :: (nat_lit 187, o187 P) :: (nat_lit 188, o188 P) :: (nat_lit 189, o189 P) :: (nat_lit 190, o190 P) :: (nat_lit 191, o191 P) :: (nat_lit 194, o194 P) :: (nat_lit 196, o196 P) :: (nat_lit 197, o197 P) :: (nat_lit 199, o199 P) :: (nat_lit 200, o200 P) :: (nat_lit 208, o208 P) :: (nat_lit 209, o209 P) :: (nat_lit 212, o212 P) :: (nat_lit 213, o213 P) :: (nat_lit 214, o214 P) :: (nat_lit 216, o216 P) :: (nat_lit 217, o217 P) :: (nat_lit 219, o219 P) :: (nat_lit 220, o220 P) :: (nat_lit 221, o221 P) :: (nat_lit 223, o223 P) :: (nat_lit 224, o224 P) :: (nat_lit 226, o226 P) :: (nat_lit 227, o227 P) :: (nat_lit 228, o228 P) :: (nat_lit 229, o229 P) :: (nat_lit 230, o230 P) :: (nat_lit 231, o231 P) :: (nat_lit 232, o232 P) :: (nat_lit 235, o235 P) :: (nat_lit 237, o237 P) :: (nat_lit 238, o238 P) :: (nat_lit 240, o240 P) :: (nat_lit 241, o241 P) :: (nat_lit 249, o249 P) :: (nat_lit 250, o250 P) :: (nat_lit 252, o252 P) :: (nat_lit 253, o253 P) :: (nat_lit 255, o255 P) :: (nat_lit 256, o256 P) :: (nat_lit 257, o257 P) :: (nat_lit 259, o259 P) :: (nat_lit 260, o260 P) :: (nat_lit 262, o262 P) :: (nat_lit 263, o263 P) :: (nat_lit 264, o264 P) :: (nat_lit 266, o266 P) :: (nat_lit 267, o267 P) :: (nat_lit 269, o269 P) :: (nat_lit 270, o270 P) :: (nat_lit 271, o271 P) :: (nat_lit 274, o274 P) :: (nat_lit 275, o275 P) :: (nat_lit 276, o276 P) :: (nat_lit 278, o278 P) :: (nat_lit 279, o279 P) :: (nat_lit 281, o281 P) :: (nat_lit 282, o282 P) :: (nat_lit 283, o283 P) :: (nat_lit 285, o285 P) :: (nat_lit 286, o286 P) :: (nat_lit 288, o288 P) :: (nat_lit 289, o289 P) :: (nat_lit 290, o290 P) :: (nat_lit 291, o291 P) :: (nat_lit 292, o292 P) :: (nat_lit 293, o293 P) :: (nat_lit 294, o294 P) :: (nat_lit 297, o297 P) :: (nat_lit 299, o299 P) :: (nat_lit 300, o300 P) :: (nat_lit 302, o302 P) :: (nat_lit 303, o303 P) :: (nat_lit 308, o308 P) :: (nat_lit 310, o310 P) :: (nat_lit 311, o311 P) :: (nat_lit 313, o313 P) :: (nat_lit 314, o314 P) :: (nat_lit 315, o315 P) :: (nat_lit 317, o317 P) :: (nat_lit 318, o318 P) :: (nat_lit 320, o320 P) :: (nat_lit 321, o321 P) :: (nat_lit 329, o329 P) :: (nat_lit 330, o330 P) :: (nat_lit 332, o332 P) :: (nat_lit 333, o333 P) :: (nat_lit 335, o335 P) :: (nat_lit 336, o336 P) :: (nat_lit 337, o337 P) :: (nat_lit 339, o339 P) :: (nat_lit 340, o340 P) :: (nat_lit 342, o342 P) :: (nat_lit 343, o343 P) :: (nat_lit 344, o344 P) :: (nat_lit 346, o346 P) :: (nat_lit 347, o347 P) :: (nat_lit 349, o349 P) :: (nat_lit 350, o350 P) :: (nat_lit 351, o351 P) :: (nat_lit 353, o353 P) :: (nat_lit 354, o354 P) :: (nat_lit 356, o356 P) :: (nat_lit 357, o357 P) :: (nat_lit 358, o358 P) :: (nat_lit 360, o360 P) :: (nat_lit 361, o361 P) :: (nat_lit 363, o363 P) :: (nat_lit 364, o364 P) :: (nat_lit 365, o365 P) :: (nat_lit 367, o367 P) :: (nat_lit 368, o368 P) :: (nat_lit 370, o370 P) :: (nat_lit 371, o371 P) :: (nat_lit 372, o372 P) :: (nat_lit 374, o374 P) :: (nat_lit 375, o375 P) :: (nat_lit 377, o377 P) :: (nat_lit 378, o378 P) :: (nat_lit 379, o379 P) :: (nat_lit 381, o381 P) :: (nat_lit 382, o382 P) :: (nat_lit 384, o384 P) :: (nat_lit 385, o385 P) :: (nat_lit 386, o386 P) :: (nat_lit 388, o388 P) :: (nat_lit 389, o389 P) :: (nat_lit 391, o391 P) :: (nat_lit 392, o392 P) :: (nat_lit 393, o393 P) :: (nat_lit 394, o394 P) :: (nat_lit 395, o395 P) :: (nat_lit 396, o396 P) :: (nat_lit 397, o397 P) :: (nat_lit 400, o400 P) :: (nat_lit 402, o402 P) :: (nat_lit 403, o403 P) :: (nat_lit 405, o405 P) :: (nat_lit 406, o406 P) :: (nat_lit 407, o407 P) :: (nat_lit 409, o409 P) :: (nat_lit 410, o410 P) :: (nat_lit 412, o412 P) :: (nat_lit 413, o413 P) :: (nat_lit 414, o414 P) :: (nat_lit 416, o416 P) :: (nat_lit 417, o417 P) :: (nat_lit 419, o419 P) :: (nat_lit 420, o420 P) :: (nat_lit 421, o421 P) :: (nat_lit 423, o423 P) :: (nat_lit 424, o424 P) :: (nat_lit 426, o426 P) :: (nat_lit 427, o427 P) :: (nat_lit 428, o428 P) :: (nat_lit 430, o430 P) :: (nat_lit 431, o431 P) :: (nat_lit 433, o433 P) :: (nat_lit 434, o434 P) :: (nat_lit 435, o435 P) :: (nat_lit 438, o438 P) :: (nat_lit 439, o439 P) :: (nat_lit 440, o440 P) :: (nat_lit 443, o443 P) :: (nat_lit 444, o444 P) :: (nat_lit 445, o445 P) :: (nat_lit 447, o447 P) :: (nat_lit 448, o448 P) :: (nat_lit 450, o450 P) :: (nat_lit 451, o451 P) :: (nat_lit 452, o452 P) :: (nat_lit 455, o455 P) :: (nat_lit 456, o456 P) :: (nat_lit 457, o457 P) :: (nat_lit 459, o459 P) :: (nat_lit 460, o460 P) :: (nat_lit 462, o462 P) :: (nat_lit 463, o463 P) :: (nat_lit 464, o464 P) :: (nat_lit 466, o466 P) :: (nat_lit 467, o467 P) :: (nat_lit 469, o469 P) :: (nat_lit 470, o470 P) :: (nat_lit 471, o471 P) :: (nat_lit 473, o473 P) :: (nat_lit 474, o474 P) :: (nat_lit 476, o476 P) :: (nat_lit 477, o477 P) :: []
end Mine.hd
namespace Mine.hd
abbrev pw : Program := PySem.Challenge.pw_sq0039_01
noncomputable def view_39 : Program := PySem.W.view pw [46]
noncomputable def loose : List Str := (["_wall", "PageError", "BadArgument", "Overflow", "BadCharacter", "BadFile", "TooMuch", "MAX_NUMBER", "is_whole", "check_whole", "check_number", "ESCAPE", "BEGIN", "END", "MATH", "TAB", "RETURN", "PARAMETER", "UP", "DOWN", "IGNORED", "SPACE", "LETTER", "OTHER", "ACTIVE", "COMMENT", "INVALID", "CONTROL", "OUT", "MATCH"] : List Str) ++ (["FROZEN", "NOT_EXPANDED", "MOST_NAMES", "SPECIAL_CATEGORIES", "check_text", "Names", "plain_categories", "CatList", "LAST_STREAM", "ROW_END_OCTET", "check_name", "Library", "visible", "NEW", "MIDDLE", "SKIPPING", "hex_value", "written_otherwise", "Lines", "tokens_of", "_law_cell", "_law_box", "_law_take", "_law_codes", "_law_visible_right", "_law_like", "_law_shut", "_law_deed", "_law_refused", "_law_right"] : List Str)
noncomputable def addrs : List Addr := [2, 3, 15, 17, 18, 20, 21, 22, 29, 30, 32, 33, 35, 36, 37, 38, 39, 40, 43, 50, 51, 52, 55, 62, 63, 64, 67, 74, 75, 76, 79, 86, 87, 88, 91, 98, 99, 100, 103, 105, 106, 108, 109, 110, 112, 113, 115, 116, 117, 119, 120, 122, 123, 136, 137, 139, 140, 142, 143, 151, 152, 154, 155, 157, 158, 159, 161, 162, 164, 165, 166, 168, 169, 171, 172, 173, 175, 176, 178, 179, 180, 182, 183, 185, 186, 187, 188, 189, 190, 191, 194, 196, 197, 199, 200, 208, 209, 212, 213, 214, 216, 217, 219, 220, 221, 223, 224, 226, 227, 228, 229, 230, 231, 232, 235, 237, 238, 240, 241, 249, 250, 252, 253, 255, 256, 257, 259, 260, 262, 263, 264, 266, 267, 269, 270, 271, 274, 275, 276, 278, 279, 281, 282, 283, 285, 286, 288, 289, 290, 291, 292, 293, 294, 297, 299, 300, 302, 303, 308, 310, 311, 313, 314, 315, 317, 318, 320, 321, 329, 330, 332, 333, 335, 336, 337, 339, 340, 342, 343, 344, 346, 347, 349, 350, 351, 353, 354, 356, 357, 358, 360, 361, 363, 364, 365, 367, 368, 370, 371, 372, 374, 375, 377, 378, 379, 381, 382, 384, 385, 386, 388, 389, 391, 392, 393, 394, 395, 396, 397, 400, 402, 403, 405, 406, 407, 409, 410, 412, 413, 414, 416, 417, 419, 420, 421, 423, 424, 426, 427, 428, 430, 431, 433, 434, 435, 438, 439, 440, 443, 444, 445, 447, 448, 450, 451, 452, 455, 456, 457, 459, 460, 462, 463, 464, 466, 467, 469, 470, 471, 473, 474, 476, 477]
noncomputable def b11 : Params → Obj := fun _ => ⟨.type "tuple", none, .seq #[] 0, #[]⟩
noncomputable def b12 : Params → Obj := fun _ => ⟨.none, none, .fields #[], #[]⟩
noncomputable def b13 : Params → Obj := fun _ => ⟨.type "code", none, .fields #[.str "<module>" 182, .str "<module>" 183, .str "/claim/cut.py" 184, .int 1 0, .int 0 0, .int 0 0, .int 0 0, .int 0 0, .ref 11, .bool false, .int 181 0, .ref 12, .none, .none, .none, .none, .int 185 0, .int 1 0, .str "/claim/cut.py" 186], #[]⟩
noncomputable def b14 : Params → Obj := fun _ => ⟨.type "frame", none, .plain, #[some (.ref 13), some (.ref 3), some (.ref 3), none, some (.str "__main__" 164), none, some (.ref 0)]⟩
noncomputable def tree : Params → BT := fun P => .node (boot_o_0 P)
  (.node (boot_o_1 P) (.node (boot_o_3 P) (.node (boot_o_7 P) .nil .nil) (.node (b11 P) .nil .nil)) (.node (boot_o_5 P) (.node (boot_o_9 P) .nil .nil) (.node (b13 P) .nil .nil)))
  (.node (boot_o_2 P) (.node (boot_o_4 P) (.node (boot_o_8 P) .nil .nil) (.node (b12 P) .nil .nil)) (.node (boot_o_6 P) (.node (boot_o_10 P) .nil .nil) (.node (b14 P) .nil .nil)))
noncomputable def heap0 : Params → Heap := fun P => ⟨#[boot_o_0 P, boot_o_1 P, boot_o_2 P, boot_o_3 P, boot_o_4 P, boot_o_5 P, boot_o_6 P, boot_o_7 P, boot_o_8 P, boot_o_9 P, boot_o_10 P, b11 P, b12 P, b13 P, b14 P], {}⟩
noncomputable def env : Env := { scope := pw.main.scope, locals := mainNs, globals := mainNs, cells := [], code := .ref 13, frame := some 14 }
noncomputable def cE : Code := .body (behindTheImports pw) env
abbrev p0 : Pos := ⟨0, 0, 0, 0⟩
noncomputable def run1 (w : World) (os : OsState) : Option (Flow × SharedT × Code × Pos) :=
  PySem.W.Fast.tw10110043849684766642 PySem.W.Fast.tw14364793385576792824 pw w 11 (some (.ref 6)) 1 4400 ⟨tree w.params, 15, {}, #[], {}, 187, os⟩ (piecesOf (behindTheImports pw) env cE p0 [topFrame p0])
noncomputable def Xt (s : Shared) : Bool := xlAt view_39 [] s && recOk (RowW.records PySem.Challenge.rw_sq0039_01.row.toRowW) s
noncomputable def goodAt (w : World) (x : Flow × SharedT × Code × Pos) :=
  (x.1, x.2.2, (staticsOk (importedModules pw.main.body) (boot_heap w.params) x.2.1.abs.heap && namesBound pw x.2.1.abs.heap && gensDone x.2.1.abs && laidKept (boot_heap w.params) x.2.1.abs.heap),
    openSeen view_39 loose (importedModules pw.main.body) Xt true x.2.1.abs, addrs.map x.2.1.abs.heap.get?)
def Ran (w : World) : Prop := ∀ os : OsState, (match run1 w os with | some x => some (goodAt w x) | none => none) = some (.next, (cE, ⟨379, 0, 385, 15⟩), true, openGood view_39 loose, (heap_39 w.params).map fun p => some p.2)
end Mine.hd
namespace Mine.hd
theorem run1_eq (w : World) (os : OsState) : run1 w os = segRunT treeTable pw w 11 (some (.ref 6)) 1 4400 ⟨tree w.params, 15, {}, #[], {}, 187, os⟩ (piecesOf (behindTheImports pw) env cE p0 [topFrame p0]) := by
  unfold run1
  rw [← PySem.W.Fast.te10110043849684766642, ← PySem.W.Fast.te14364793385576792824]
theorem sizes (w : World) : ((boot_heap w.params).isNs mainGlobals && (#[] : Array GenState).size == 0) = true ∧ (boot_heap w.params).objs.size = 11 ∧ (boot_heap w.params).nsMap mainGlobals "__annotations__" = some (.ref 6) := ⟨by kernel_rfl, by kernel_rfl, by kernel_rfl⟩
theorem pre (w : World) (os : OsState) : topGo treeTable pw w 11 (some (.ref 6)) 12 ⟨boot_heap w.params, #[], boot_drawn, boot_toks, os⟩ (topStub pw) = some (⟨heap0 w.params, #[], {}, 187, os⟩, ⟨denote treeTable cE, cE, p0, [topFrame p0]⟩) := by kernel_rfl
theorem blk (w : World) (os : OsState) : segRun treeTable pw w 11 (some (.ref 6)) 1 1 ⟨heap0 w.params, #[], {}, 187, os⟩ (blockOf (behindTheImports pw) env cE p0 [topFrame p0]) = some (.next, (⟨tree w.params, 15, {}, #[], {}, 187, os⟩ : SharedT).abs, cE, p0) := by kernel_rfl
theorem ends (w : World) (s : Shared) : topRun treeTable pw w 11 (some (.ref 6)) 2 s ⟨doneF .next, cE, ⟨379, 0, 385, 15⟩, [topFrame p0]⟩ = some s := by kernel_rfl
theorem opens : ∀ w : World, (fencedOpening treeTable pw w 8824).map (fun s => (s.heap, s.gens, s.drawn, s.toks)) = some (boot_heap w.params, Array.mk [], boot_drawn, boot_toks) :=
  boot_open (p := pw) (N := 8824) (by kernel_rfl) (by decide) (fun s => by kernel_rfl)

theorem run_of {w : World} {os : OsState} {s1 : SharedT} (hx : segRunT treeTable pw w 11 (some (.ref 6)) 1 4400 ⟨tree w.params, 15, {}, #[], {}, 187, os⟩ (piecesOf (behindTheImports pw) env cE p0 [topFrame p0]) = some (.next, s1, cE, ⟨379, 0, 385, 15⟩)) :
    topRun treeTable pw w 11 (some (.ref 6)) (12 + (1 + (4400 + 2))) ⟨boot_heap w.params, #[], boot_drawn, boot_toks, os⟩ (topStub pw) = some s1.abs := by
  have r1 := piece_app (l := behindTheImports pw) (rest := []) (segRun_of hx) (piece_nil (ends w s1.abs))
  rw [List.append_nil] at r1
  exact go_top (pre w os) (piece_block (blk w os) r1)
theorem run_all {w : World} {os : OsState} {s1 : SharedT} (r : topRun treeTable pw w 11 (some (.ref 6)) (12 + (1 + (4400 + 2))) ⟨boot_heap w.params, #[], boot_drawn, boot_toks, os⟩ (topStub pw) = some s1.abs) :
    topRun treeTable pw w 11 (some (.ref 6)) 8824 ⟨boot_heap w.params, #[], boot_drawn, boot_toks, os⟩ (topStub pw) = some s1.abs := by
  have r2 := topRun_mono (8824 - (12 + (1 + (4400 + 2)))) _ _ _ _ r
  have e : 12 + (1 + (4400 + 2)) + (8824 - (12 + (1 + (4400 + 2)))) = 8824 := by decide
  exact e ▸ r2
theorem from_of {w : World} {os : OsState} {s1 : Shared} (r2 : topRun treeTable pw w 11 (some (.ref 6)) 8824 ⟨boot_heap w.params, #[], boot_drawn, boot_toks, os⟩ (topStub pw) = some s1)
    (g3 : (staticsOk (importedModules pw.main.body) (boot_heap w.params) s1.heap && namesBound pw s1.heap && gensDone s1 && laidKept (boot_heap w.params) s1.heap) = true) :
    topFrom treeTable pw w 8824 ⟨boot_heap w.params, #[], boot_drawn, boot_toks, os⟩ = some s1 := by
  obtain ⟨z1, z2, z3⟩ := sizes w
  unfold topFrom
  dsimp only
  rw [z1, z2, z3, r2]
  show (match staticsOk (importedModules pw.main.body) (boot_heap w.params) s1.heap && namesBound pw s1.heap && gensDone s1 && laidKept (boot_heap w.params) s1.heap with | true => _ | false => _) = _
  rw [g3]
theorem open_of {w : World} {os : OsState} {s1 : Shared} (e : fencedOpening treeTable pw w 8824 = some ⟨boot_heap w.params, #[], boot_drawn, boot_toks, os⟩) (t : topFrom treeTable pw w 8824 ⟨boot_heap w.params, #[], boot_drawn, boot_toks, os⟩ = some s1)
    (g4 : openSeen view_39 loose (importedModules pw.main.body) Xt true s1 = openGood view_39 loose) (g5 : addrs.map s1.heap.get? = (heap_39 w.params).map fun p => some p.2) :
    (openEnds treeTable pw w 8824).map (fun s => (openSeen view_39 loose (importedModules pw.main.body) Xt true s, addrs.map s.heap.get?)) = some (openGood view_39 loose, (heap_39 w.params).map fun p => some p.2) := by
  unfold openEnds
  rw [e, Option.bind_some, t, Option.map_some, g4, g5]
theorem left_of (h : ∀ w, Ran w) : LeftO pw view_39 loose Xt (fun s => addrs.map s.heap.get?) (fun w => (heap_39 w.params).map fun p => some p.2) 8824 true := fun w => by
  obtain ⟨⟨hp, gs, d, k, os⟩, e, e'⟩ := Option.map_eq_some_iff.mp (opens w)
  obtain ⟨rfl, rfl, rfl, rfl⟩ : hp = boot_heap w.params ∧ gs = Array.mk [] ∧ d = boot_drawn ∧ k = boot_toks := by simpa using e'
  obtain ⟨z1, z2, z3⟩ := sizes w
  have hr := h w os
  cases hx : run1 w os with
  | none => rw [hx] at hr; cases hr
  | some x =>
    obtain ⟨fl, s1, c1, q1⟩ := x
    rw [hx] at hr
    have g : goodAt w (fl, s1, c1, q1) = _ := Option.some.inj hr
    unfold goodAt at g
    have g1 : fl = .next := congrArg Prod.fst g
    have g2 : (c1, q1) = (cE, (⟨379, 0, 385, 15⟩ : Pos)) := congrArg (fun y => y.2.1) g
    have g3 : (staticsOk (importedModules pw.main.body) (boot_heap w.params) s1.abs.heap && namesBound pw s1.abs.heap && gensDone s1.abs && laidKept (boot_heap w.params) s1.abs.heap) = true := congrArg (fun y => y.2.2.1) g
    have g4 : openSeen view_39 loose (importedModules pw.main.body) Xt true s1.abs = openGood view_39 loose := congrArg (fun y => y.2.2.2.1) g
    have g5 : addrs.map s1.abs.heap.get? = (heap_39 w.params).map fun p => some p.2 := congrArg (fun y => y.2.2.2.2) g
    obtain ⟨rfl, rfl⟩ := Prod.mk.inj g2
    subst g1
    rw [run1_eq] at hx
    have r2 := run_all (run_of hx)
    exact open_of e (from_of r2 g3) g4 g5
end Mine.hd
namespace Mine.hd
theorem said : PySem.Challenge.rw_sq0039_01.wellSaid = true := by kernel_rfl
theorem ran0 : ∀ (w : World), Ran (w.withFollow "special-get-raises" false) := by
  intro w os; kernel_rfl
theorem ran1 : ∀ (w : World), Ran (w.withFollow "special-get-raises" true) := by
  intro w os; kernel_rfl
theorem ran : ∀ w, Ran w := byRow2 "special-get-raises" (P := Ran) ran0 ran1
theorem left : LeftO pw view_39 loose Xt (fun s => addrs.map s.heap.get?) (fun w => (heap_39 w.params).map fun p => some p.2) 8824 true := left_of ran
theorem addrs_eq : ∀ P, addrs = (heap_39 P).map (·.1) := fun _ => by kernel_rfl
end Mine.hd
set_option linter.unusedVariables false
namespace Mine

/-- what every contract stands on: the callers' frames, the text's own objects, the top; h₀ is the part of the heap that the call leaves alone -/
structure Amb (w : World) (dp un : Nat) (gd : Option (List Code)) (base h₀ : Heap) (outer : List Env) (s : Shared) (d u : Nat) (p : Program) (loose : List Str) (mean : ExcName → Option Value) (mg mb : Str → Option Value) (pre : List (Addr × Obj)) : Prop where
  below : Below (⟨none, dp, some outer, gd, un⟩ : Around) base outer h₀
  keep : ∀ b o, h₀.get? b = some o → s.heap.get? b = some o
  size : h₀.objs.size ≤ s.heap.objs.size
  led : ∀ q ∈ pre, s.heap.get? q.1 = some q.2 ∧ h₀.get? q.1 = none
  K : (Mine.hd.heap_39 w.params).In base
  T : Top p loose mean mg mb base
  depth : dp + d < recursionLimit
  units : un + u < cLine
  dicts : KtsDicts (outer.filterMap (·.frame)) h₀

/-- the frame-and-footprint contract of a def of the text: it comes back -/
def Con (w : World) (f : Addr) (args : List Value) (d u : Nat) (pre : List (Addr × Obj)) (post : Value → List (Addr × Obj) → Prop) : Prop :=
  ∀ (dp un : Nat) (gd : Option (List Code)) (base h₀ : Heap) (outer : List Env) (s : Shared) (R : Result → Shared → Prop)
    (p : Program) (loose : List Str) (mean : ExcName → Option Value) (mg mb : Str → Option Value),
    Amb w dp un gd base h₀ outer s d u p loose mean mg mb pre →
    (∀ v h' tk' led, post v led → (∀ b o, h₀.get? b = some o → h'.get? b = some o) → (∀ q ∈ led, h'.get? q.1 = some q.2 ∧ h₀.get? q.1 = none) →
      R (.ok (.ret v)) { s with heap := h', toks := tk' }) →
    codeAny (model PySem.Challenge.rw_sq0039_01.row.prog w) (⟨none, dp, some outer, gd, un⟩ : Around) (.call (.ref f) ⟨args, []⟩) R s

/-- as Con, where an exception may have been made and caught on the way: the callers' frames may bear other slots -/
def ConT (w : World) (f : Addr) (args : List Value) (d u : Nat) (pre : List (Addr × Obj)) (post : Value → List (Addr × Obj) → Prop) : Prop :=
  ∀ (dp un : Nat) (gd : Option (List Code)) (base h₀ : Heap) (outer : List Env) (s : Shared) (R : Result → Shared → Prop)
    (p : Program) (loose : List Str) (mean : ExcName → Option Value) (mg mb : Str → Option Value),
    Amb w dp un gd base h₀ outer s d u p loose mean mg mb pre →
    (∀ v h' tk' led g', post v led → KtsTurn (outer.filterMap (·.frame)) h₀ g' → (∀ b o, g'.get? b = some o → h'.get? b = some o) → (∀ q ∈ led, h'.get? q.1 = some q.2 ∧ h₀.get? q.1 = none) →
      R (.ok (.ret v)) { s with heap := h', toks := tk' }) →
    codeAny (model PySem.Challenge.rw_sq0039_01.row.prog w) (⟨none, dp, some outer, gd, un⟩ : Around) (.call (.ref f) ⟨args, []⟩) R s

/-- the call raises an own exception of class C, and has changed nothing -/
def ConR (w : World) (f : Addr) (args : List Value) (d u : Nat) (pre : List (Addr × Obj)) (C : Addr) : Prop :=
  ∀ (dp un : Nat) (gd : Option (List Code)) (base h₀ : Heap) (outer : List Env) (s : Shared) (R : Result → Shared → Prop)
    (p : Program) (loose : List Str) (mean : ExcName → Option Value) (mg mb : Str → Option Value),
    Amb w dp un gd base h₀ outer s d u p loose mean mg mb pre →
    (∀ e t vs h' tk', RaisedS base h₀ outer e (.ref C) t vs pre h' → h₀.UpToSlots h' → R (.error (.ref e)) { s with heap := h', toks := tk' }) →
    codeAny (model PySem.Challenge.rw_sq0039_01.row.prog w) (⟨none, dp, some outer, gd, un⟩ : Around) (.call (.ref f) ⟨args, []⟩) R s

theorem news_sub {h₀ h : Heap} {L : Addr} {news pre : List (Addr × Obj)} (N : News h₀ L h news) (hs : ∀ q ∈ pre, q ∈ news) : News h₀ L h pre := fun q hq => N q (hs q hq)

theorem ktsDicts_push {base h₀ h : Heap} {L : Addr} {m : Str → Option Value} {outer : List Env} {env : Env} {pre : List Addr} (D : KtsDicts (outer.filterMap (·.frame)) h₀) (FG : Fr h₀ L (hideAll h pre) m) (hf : env.frame = some L) :
    KtsDicts ((env :: outer).filterMap (·.frame)) (hideAll h pre) := by
  intro b hb
  obtain ⟨e, he, hfe⟩ := List.mem_filterMap.mp hb
  rcases List.mem_cons.mp he with rfl | he
  · obtain rfl : L = b := Option.some.inj (hf.symm.trans hfe)
    obtain ⟨o, es, n, ho, hd, _⟩ := FG.ns
    exact ⟨o, es, n, ho, hd⟩
  · obtain ⟨o, es, n, ho, hd⟩ := D b (List.mem_filterMap.mpr ⟨e, he, hfe⟩)
    exact ⟨o, es, n, FG.keep _ _ ho, hd⟩

section
variable {w : World} {A₀ : Around} {base h₀ : Heap} {outer : List Env} {s : Shared} {L : Addr} {m : Str → Option Value} {news pre rest : List (Addr × Obj)} {env : Env}
  {dp un d u : Nat} {gd : Option (List Code)} {f C : Addr} {args : List Value} {post : Value → List (Addr × Obj) → Prop} {Q E : Value → Shared → Prop}
  {p : Program} {loose : List Str} {mean : ExcName → Option Value} {mg mb : Str → Option Value}

set_option linter.unusedVariables false
theorem amb_of (B : Below A₀ base outer h₀) (F : Fr h₀ L s.heap m) (N : News h₀ L s.heap news) (X : (Mine.hd.heap_39 w.params).In base) (T : Top p loose mean mg mb base) (D : KtsDicts (outer.filterMap (·.frame)) h₀)
    (hf : env.frame = some L) (hke : env.scope.kind = .function) (hp : ∀ q ∈ pre, q ∈ news) (hd : dp + d < recursionLimit) (hu : un + u < cLine) :
    Fr h₀ L (hideAll s.heap (pre.map (·.1))) m ∧ h₀.StaysIn (hideAll s.heap (pre.map (·.1))) ∧
    Amb w dp un gd base (hideAll s.heap (pre.map (·.1))) (env :: outer) s d u p loose mean mg mb pre := by
  obtain ⟨FG, BG, st, lv⟩ := groundX (R := fun _ _ => True) (A := (⟨none, dp, some (env :: outer), gd, un⟩ : Around)) B F (news_sub N hp) rfl hf hke
  exact ⟨FG, st, BG, fun b o e => of_hideAll _ e, Nat.le_of_eq (hideAll_size _ _), fun q hq => ⟨(N q (hp q hq)).1, hideAll_none _ (List.mem_map_of_mem hq)⟩, X, T, hd, hu, ktsDicts_push (base := base) D FG hf⟩

theorem led_rest {h' g' : Heap} {led : List (Addr × Obj)} (F : Fr h₀ L s.heap m) (N : News h₀ L s.heap news) (hp : ∀ q ∈ pre, q ∈ news) (hr : ∀ q ∈ rest, q ∈ news ∧ ∀ r ∈ pre, q.1 ≠ r.1) (FG : Fr h₀ L (hideAll s.heap (pre.map (·.1))) m)
    (hk : ∀ q ∈ rest, (hideAll s.heap (pre.map (·.1))).get? q.1 = some q.2 → h'.get? q.1 = some q.2) (hn : ∀ b, (hideAll s.heap (pre.map (·.1))).get? b = none → g'.get? b = none)
    (hg : ∀ q ∈ rest, g'.get? q.1 = none)
    (hl : ∀ q ∈ led, h'.get? q.1 = some q.2 ∧ (hideAll s.heap (pre.map (·.1))).get? q.1 = none) (hgn : ∀ b, (hideAll s.heap (pre.map (·.1))).get? b = none → g'.get? b = none) :
    News g' L h' (led ++ rest) ∧ ∀ q ∈ led, ∀ r ∈ rest, q.1 ≠ r.1 := by
  have hrest : ∀ q ∈ rest, (hideAll s.heap (pre.map (·.1))).get? q.1 = some q.2 := fun q hq => hideAll_get _ (N q (hr q hq).1).1 fun hm => by
    obtain ⟨r, hr1, hr2⟩ := List.mem_map.mp hm
    exact (hr q hq).2 r hr1 hr2.symm
  refine ⟨fun q hq => ?_, fun q hq r hr' e => ?_⟩
  · rcases List.mem_append.mp hq with h1 | h1
    · refine ⟨(hl q h1).1, fun e => ?_, hgn _ (hl q h1).2⟩
      obtain ⟨oL, _, _, hL, _⟩ := FG.ns
      have := (hl q h1).2
      rw [e, hL] at this; cases this
    · exact ⟨hk q h1 (hrest q h1), (N q (hr q h1).1).2.1, hg q h1⟩
  · have := (hl q hq).2
    rw [e, hrest r hr'] at this; cases this

theorem con_use (C : Con w f args d u pre post) (B : Below A₀ base outer h₀) (F : Fr h₀ L s.heap m) (N : News h₀ L s.heap news) (X : (Mine.hd.heap_39 w.params).In base) (T : Top p loose mean mg mb base) (D : KtsDicts (outer.filterMap (·.frame)) h₀)
    (hf : env.frame = some L) (hke : env.scope.kind = .function)
    (hp : ∀ q ∈ pre, q ∈ news) (hr : ∀ q ∈ rest, q ∈ news ∧ ∀ r ∈ pre, q.1 ≠ r.1) (hd : dp + d < recursionLimit) (hu : un + u < cLine)
    (h : ∀ v h' tk' led, post v led → Fr h₀ L h' m → News h₀ L h' (led ++ rest) → (∀ q ∈ led, ∀ r ∈ rest, q.1 ≠ r.1) → Q v { s with heap := h', toks := tk' }) :
    wpAny (model PySem.Challenge.rw_sq0039_01.row.prog w) (⟨none, dp, some (env :: outer), gd, un⟩ : Around) (call (.ref f) args) Q E s := by
  obtain ⟨FG, st, A⟩ := amb_of (gd := gd) (d := d) (u := u) B F N X T D hf hke hp hd hu
  refine wpAny_call (C dp un gd base _ (env :: outer) s _ p loose mean mg mb A fun v h' tk' led hpost hk hl => ?_)
  have nn : ∀ b, (hideAll s.heap (pre.map (·.1))).get? b = none → h₀.get? b = none := fun b e => by
    cases q : h₀.get? b with
    | none => rfl
    | some o => rw [st _ _ q] at e; cases e
  obtain ⟨hN, hne⟩ := led_rest (g' := h₀) F N hp hr FG (fun q _ e => hk _ _ e) nn (fun q hq => (N q (hr q hq).1).2.2) hl nn
  exact h v h' tk' led hpost ⟨FG.ns.keeps hk, fun b o e => hk b o (st b o e), F.above⟩ hN hne

theorem con_useT (C : ConT w f args d u pre post) (B : Below A₀ base outer h₀) (F : Fr h₀ L s.heap m) (N : News h₀ L s.heap news) (X : (Mine.hd.heap_39 w.params).In base) (T : Top p loose mean mg mb base) (D : KtsDicts (outer.filterMap (·.frame)) h₀)
    (hf : env.frame = some L) (hke : env.scope.kind = .function)
    (hp : ∀ q ∈ pre, q ∈ news) (hr : ∀ q ∈ rest, q ∈ news ∧ ∀ r ∈ pre, q.1 ≠ r.1) (hd : dp + d < recursionLimit) (hu : un + u < cLine)
    (h : ∀ v h' tk' led g', post v led → KtsTurn (outer.filterMap (·.frame)) h₀ g' → Below A₀ base outer g' → (Mine.hd.heap_39 w.params).In g' → Top p loose mean mg mb g' → KtsDicts (outer.filterMap (·.frame)) g' →
      Fr g' L h' m → News g' L h' (led ++ rest) → (∀ q ∈ led, ∀ r ∈ rest, q.1 ≠ r.1) → Q v { s with heap := h', toks := tk' }) :
    wpAny (model PySem.Challenge.rw_sq0039_01.row.prog w) (⟨none, dp, some (env :: outer), gd, un⟩ : Around) (call (.ref f) args) Q E s := by
  obtain ⟨FG, st, A⟩ := amb_of (gd := gd) (d := d) (u := u) B F N X T D hf hke hp hd hu
  refine wpAny_call (C dp un gd base _ (env :: outer) s _ p loose mean mg mb A fun v h' tk' led g₁ hpost hT hk hl => ?_)
  have hL : h₀.get? L = none := kts_self F
  have hLm : ∀ b, b ∈ (env :: outer).filterMap (·.frame) → b = L ∨ b ∈ outer.filterMap (·.frame) := fun b hb => by
    obtain ⟨e, he, hfe⟩ := List.mem_filterMap.mp hb
    rcases List.mem_cons.mp he with rfl | he
    · exact .inl (Option.some.inj (hfe.symm.trans hf))
    · exact .inr (List.mem_filterMap.mpr ⟨e, he, hfe⟩)
  have up : ∀ b o, (hideAll s.heap (pre.map (·.1))).get? b = some o → b ∉ (env :: outer).filterMap (·.frame) → h'.get? b = some o := fun b o e hb => hk _ _ (hT.other b o e hb)
  have upS : ∀ b o, (hideAll s.heap (pre.map (·.1))).get? b = some o → ∃ sl, h'.get? b = some { o with slots := sl } := fun b o e => by
    obtain ⟨sl, hs⟩ := hT.up e
    exact ⟨sl, hk _ _ hs⟩
  obtain ⟨T', S'⟩ := kts_turn_at (h := h') (fs := outer.filterMap (·.frame)) (g := h₀)
    (fun b hb => by obtain ⟨o, _, _, ho, _⟩ := D b hb; exact ⟨o, ho⟩)
    (fun b o e nm => up b o (st b o e) fun hm => by
      rcases hLm b hm with z | z
      · rw [z, hL] at e; cases e
      · exact nm z)
    (fun b o e _ => upS b o (st b o e))
  have B' : Below A₀ base outer (ktsHeap h' (outer.filterMap (·.frame)) h₀) := ⟨B.stack, fun b o e => T'.other b o (B.stays b o e) (fun hm => by
    rw [(B.frames.mem hm).1] at e; cases e), B.frames.of_keeps fun b o e _ => by
      obtain ⟨sl, hs⟩ := T'.up e
      exact ⟨_, hs, rfl⟩⟩
  have F' : Fr (ktsHeap h' (outer.filterMap (·.frame)) h₀) L h' m := by
    obtain ⟨oL, es, ep, hoL, r⟩ := FG.ns
    obtain ⟨sl, hs⟩ := upS L oL hoL
    exact ⟨⟨_, es, ep, hs, r⟩, S', by rw [T'.size]; exact F.above⟩
  have nn : ∀ b, (hideAll s.heap (pre.map (·.1))).get? b = none → (ktsHeap h' (outer.filterMap (·.frame)) h₀).get? b = none := fun b e => T'.none_ b (by
    cases q : h₀.get? b with
    | none => rfl
    | some o => rw [st _ _ q] at e; cases e)
  obtain ⟨hN, hne⟩ := led_rest (g' := ktsHeap h' (outer.filterMap (·.frame)) h₀) F N hp hr FG (fun q hq e => up _ _ e fun hm => by
      rcases hLm _ hm with z | z
      · exact (N q (hr q hq).1).2.1 z
      · obtain ⟨o, _, _, ho, _⟩ := D _ z
        rw [(N q (hr q hq).1).2.2] at ho; cases ho) nn (fun q hq => T'.none_ _ (N q (hr q hq).1).2.2) hl nn
  exact h v h' tk' led _ hpost T' B' (X.keeps B'.stays) (T.keeps B'.stays) (D.turn T') F' hN hne

theorem con_useR (C' : ConR w f args d u pre C) (B : Below A₀ base outer h₀) (F : Fr h₀ L s.heap m) (N : News h₀ L s.heap news) (X : (Mine.hd.heap_39 w.params).In base) (T : Top p loose mean mg mb base) (D : KtsDicts (outer.filterMap (·.frame)) h₀)
    (hf : env.frame = some L) (hke : env.scope.kind = .function)
    (hp : ∀ q ∈ pre, q ∈ news) (hd : dp + d < recursionLimit) (hu : un + u < cLine)
    (h : ∀ e t vs h' tk' G, Fr h₀ L G m → (∀ q ∈ news, (∀ r ∈ pre, q.1 ≠ r.1) → G.get? q.1 = some q.2) → RaisedS base G (env :: outer) e (.ref C) t vs pre h' → G.UpToSlots h' → E (.ref e) { s with heap := h', toks := tk' }) :
    wpAny (model PySem.Challenge.rw_sq0039_01.row.prog w) (⟨none, dp, some (env :: outer), gd, un⟩ : Around) (call (.ref f) args) Q E s := by
  obtain ⟨FG, st, A⟩ := amb_of (gd := gd) (d := d) (u := u) B F N X T D hf hke hp hd hu
  refine wpAny_call (C' dp un gd base _ (env :: outer) s _ p loose mean mg mb A fun e t vs h' tk' hR hU => ?_)
  exact h e t vs h' tk' _ FG (fun q hq hne => hideAll_get _ (N q hq).1 fun hm => by
    obtain ⟨r, hr1, hr2⟩ := List.mem_map.mp hm
    exact hne r hr1 hr2.symm) hR hU

/-- a mark: the names that the call binds, the last first -/
structure Binds (bs : List (Str × Value)) : Prop where
theorem lookup_kstB : ∀ (bs : List (Str × Value)) (y : Str), bs.lookup y = kstB (fun _ => none) bs y
  | [], _ => rfl
  | p :: r, y => by
    show List.lookup y (p :: r) = if y = p.1 then some p.2 else kstB (fun _ => none) r y
    rw [List.lookup_cons]
    by_cases h : y = p.1
    · rw [if_pos h]; simp [h]
    · rw [if_neg h]
      have : (y == p.1) = false := by simpa using h
      rw [this, lookup_kstB r y]

theorem con_enter {name qual : Str} {params : Arguments} {body : List Stmt} {scope : Scope} {dV kV doc pm cdv ct oc : Value} {an od : Option Addr} {osl : Array (Option Value)} {bs : List (Str × Value)}
    {R : Result → Shared → Prop}
    (A : Amb w dp un gd base h₀ outer s d u p loose mean mg mb pre) (_hb : Binds bs)
    (ho : (Mine.hd.heap_39 w.params).lookup f = some ⟨oc, od, .func (fnOf name qual params body scope dV kV doc pm an cdv ct), osl⟩) (hcd : codeIn (Mine.hd.heap_39 w.params) cdv qual = true)
    (hbind : BindsTo s (fnOf name qual params body scope dV kV doc pm an cdv ct) ⟨args, []⟩ bs.reverse) (hloc : ∀ y ∈ bs.reverse, scope.names.lookup y.1 = some .local)
    (h : ∀ L' h₁ tk, Fr h₀ L' h₁ (kstB (fun _ => none) bs) → News h₀ L' h₁ pre → (∀ q ∈ pre, q.1 < L') → (Mine.hd.heap_39 w.params).In h₀ → Top p loose mean mg mb h₀ →
      wpAny (model PySem.Challenge.rw_sq0039_01.row.prog w) ((⟨none, dp, some outer, gd, un⟩ : Around).deeper (envOf qual scope L' f cdv)) (execs body (envOf qual scope L' f cdv))
        (fun fl s' => R (.ok (.ret (match fl with | .ret v => v | _ => .none))) s')
        (fun e s' => wpAny (model PySem.Challenge.rw_sq0039_01.row.prog w) ((⟨none, dp, some outer, gd, un⟩ : Around).deeper (envOf qual scope L' f cdv)) (leaving (envOf qual scope L' f cdv) e) (fun _ s'' => R (.error e) s'') (fun e' s'' => R (.error e') s'') s')
        { s with heap := h₁, toks := tk })
    (hco : scope.isCoroutine = false) (hgen : scope.isGenerator = false) (hk : scope.kind = .function)
    (hcell : ∀ x ∈ scope.names, x.2 ≠ .cell) : codeAny (model PySem.Challenge.rw_sq0039_01.row.prog w) (⟨none, dp, some outer, gd, un⟩ : Around) (.call (.ref f) ⟨args, []⟩) R s := by
  have X₀ := A.K.keeps A.below.stays
  have T₀ := A.T.keeps A.below.stays
  have hdp := A.depth
  refine codeAny_call_def (fd := fnOf name qual params body scope dV kV doc pm an cdv ct) (body := body) (binds := bs.reverse) (show dp < recursionLimit by omega) (A.keep _ _ (X₀ _ _ ho)) rfl (T₀.nolimit.keeps A.keep) (codeRec_of (X₀.keeps A.keep) hcd) rfl hbind hcell hloc (fun h₁ hns hk₁ => ?_) hco hgen hk
  have e : (fun x => bs.reverse.reverse.lookup x) = kstB (fun _ => none) bs := by
    funext y
    rw [List.reverse_reverse, lookup_kstB]
  rw [e] at hns
  exact h s.heap.objs.size h₁ _ ⟨hns, fun b o e => hk₁ b o (A.keep b o e), A.size⟩ (fun q hq => ⟨hk₁ _ _ (A.led q hq).1, Nat.ne_of_lt (Heap.lt_size (A.led q hq).1), (A.led q hq).2⟩) (fun q hq => Heap.lt_size (A.led q hq).1) X₀ T₀
end

/-- the walk stops here -/
def Halt (P : Prop) : Prop := P
theorem Halt.out {P : Prop} (h : Halt P) : P := h

theorem con_end {s : Shared} {h₀ h' : Heap} {L : Addr} {m : Str → Option Value} {led news : List (Addr × Obj)} {post : Value → List (Addr × Obj) → Prop} {R : Result → Shared → Prop} {v : Value} {tk' : Nat}
    (hR : ∀ v h' tk' led, post v led → (∀ b o, h₀.get? b = some o → h'.get? b = some o) → (∀ q ∈ led, h'.get? q.1 = some q.2 ∧ h₀.get? q.1 = none) →
      R (.ok (.ret v)) { s with heap := h', toks := tk' }) (F : Fr h₀ L h' m) (N : News h₀ L h' news) (hs : ∀ q ∈ led, q ∈ news) (hp : post v led) :
    R (.ok (.ret v)) { s with heap := h', toks := tk' } := hR v h' tk' led hp F.keep fun q hq => ⟨(N q (hs q hq)).1, (N q (hs q hq)).2.2⟩

theorem item_led {A : Around} {E : Value → Shared → Prop} {s : Shared} {h₀ : Heap} {L : Addr} {news : List (Addr × Obj)} {value slice : PySem.Expr} {l : Addr} {vs : List Value} {n : Nat} {k : Int} {u : Tok} {v : Value} {Q : Value → Shared → Prop}
    {prog : Program} {w : World} (N : News h₀ L s.heap news) (hm : (l, W.listOf vs.toArray n) ∈ news) (h0 : 0 ≤ k) (hhi : k < 2 ^ 63) (hx : vs[k.toNat]? = some v) (h : Q v s)
    (hs : subscripted slice false (.ref l) (.int k u) = operate [.ref l, .int k u] (getItem (.ref l) (.int k u)) := by with_unfolding_all rfl) :
    wpAny (model prog w) A (subscriptTail value slice (.ref l) (.int k u)) Q E s :=
  have hl : s.heap.IsList l vs.toArray := ⟨_, (N _ hm).1, rfl, n, rfl⟩
  tail_any hl.typeIs slot_list_getitem.lookup (wpAny_getItem_list hl h0 hhi (by simpa using hx) h) hs
end Mine
namespace Mine
/-- two addresses that differ (kept away from omega) -/
structure NeA (a b : Nat) : Prop where
  out : a ≠ b
theorem NeA.symm {a b : Nat} (h : NeA a b) : b ≠ a := Ne.symm h.out
def AllNe (a : Nat) : List Nat → Prop
  | [] => True
  | b :: r => NeA a b ∧ AllNe a r
/-- addresses that all differ -/
def Apart : List Nat → Prop
  | [] => True
  | a :: r => AllNe a r ∧ Apart r
def AllNeR (d : Nat) : List (Addr × Obj) → Prop
  | [] => True
  | p :: r => NeA p.1 d ∧ AllNeR d r
theorem allNeLt {d : Addr} : ∀ {l : List (Addr × Obj)}, (∀ p ∈ l, p.1 < d) → AllNeR d l
  | [], _ => trivial
  | p :: _, h => ⟨⟨Nat.ne_of_lt (h p (.head _))⟩, allNeLt fun q hq => h q (.tail _ hq)⟩
/-- the room for a call, from the room of the one that calls -/
theorem room {a b c d k : Nat} (h : a + d < k) (e : Nat.ble (b + c) d = true) : a + b + c < k := by
  have := Nat.le_of_ble_eq_true e
  omega
theorem room0 {a c d k : Nat} (h : a + d < k) (e : Nat.ble c d = true) : a + c < k := by
  have := Nat.le_of_ble_eq_true e
  omega
theorem AllNeR.out {d : Nat} : ∀ {l : List (Addr × Obj)}, AllNeR d l → ∀ p ∈ l, p.1 ≠ d
  | [], _ => fun _ h => nomatch h
  | p :: r, h => List.forall_mem_cons.mpr ⟨h.1.out, AllNeR.out h.2⟩
/-! The facts of addresses that differ, each one laid in the context, without chains of conjunctions. -/
structure Box (G : Prop) : Prop where
  out : G
def Imp (d : Nat) : List (Addr × Obj) → Prop → Prop
  | [], G => G
  | (a, _) :: r, G => NeA a d → Imp d r G
theorem imp_of {d : Nat} {G : Prop} : ∀ {l : List (Addr × Obj)}, (AllNeR d l → G) → Imp d l G
  | [], h => h trivial
  | (_, _) :: _, h => fun f => imp_of fun t => h ⟨f, t⟩
theorem imp_app {d : Nat} {G : Prop} : ∀ {l : List (Addr × Obj)}, AllNeR d l → Imp d l G → G
  | [], _, k => k
  | (_, _) :: _, h, k => imp_app h.2 (k h.1)
theorem AllNeR.imp {d : Nat} {l : List (Addr × Obj)} {G : Prop} (h : AllNeR d l) (k : Imp d l (Box G)) : G := (imp_app h k).out
theorem imp_lt {d : Addr} {l : List (Addr × Obj)} {G : Prop} (h : ∀ p ∈ l, p.1 < d) (k : Imp d l (Box G)) : G := (imp_app (allNeLt h) k).out
def ImpN (a : Nat) : List Nat → Prop → Prop
  | [], G => G
  | b :: r, G => NeA a b → ImpN a r G
def ImpA : List Nat → Prop → Prop
  | [], G => G
  | a :: r, G => ImpN a r (ImpA r G)
theorem impN_app {a : Nat} {G : Prop} : ∀ {l : List Nat}, AllNe a l → ImpN a l G → G
  | [], _, k => k
  | _ :: _, h, k => impN_app h.2 (k h.1)
theorem impA_app {G : Prop} : ∀ {l : List Nat}, Apart l → ImpA l G → G
  | [], _, k => k
  | _ :: _, h, k => impA_app h.2 (impN_app h.1 k)
theorem Apart.imp {l : List Nat} {G : Prop} (h : Apart l) (k : ImpA l (Box G)) : G := (impA_app h k).out
theorem AllNe.imp {a : Nat} {l : List Nat} {G : Prop} (h : AllNe a l) (k : ImpN a l (Box G)) : G := (impN_app h k).out
end Mine
namespace Mine
open PyProof.V PySem.Spec
/-- the frame's map says these -/
def Loc (ps : List (Str × Value)) (m : Str → Option Value) : Prop := ∀ p ∈ ps, m p.1 = some p.2
theorem Loc.eq {ps : List (Str × Value)} {m : Str → Option Value} (h : Loc ps m) : kstB m ps = m := funext fun _ => kstB_eq h fun _ => rfl
theorem Loc.nil {m : Str → Option Value} : Loc [] m := fun _ h => nomatch h
theorem Loc.cons {x : Str} {v : Value} {ps : List (Str × Value)} {m : Str → Option Value} (h : m x = some v) (r : Loc ps m) : Loc ((x, v) :: ps) m := List.forall_mem_cons.mpr ⟨h, r⟩

section
variable {prog : Program} {w : World} {A : Around} {E : Value → Shared → Prop} {s s₂ : Shared} {env : Env} {h₀ : Heap} {x : Str} {body : List Stmt} {Q : Flow → Shared → Prop}

def TurnEnd {σ : Type} (h₀ : Heap) (L I : Addr) (o : Obj) (Led : σ → List (Addr × Obj)) (ps : σ → List (Str × Value)) (Jn : σ → Prop) (s : Shared) (Q : Flow → Shared → Prop) (f : Flow) (s₃ : Shared) : Prop :=
  match f with
  | .ret v => Q (.ret v) s₃
  | .brk => Q .next s₃
  | _ => ∃ c h' tk' m' news', s₃ = { s with heap := h', toks := tk' } ∧ Fr h₀ L h' m' ∧ News h₀ L h' news' ∧ (I, o) ∈ news' ∧ (∀ p ∈ Led c, p ∈ news') ∧ (∀ p ∈ Led c, p.1 ≠ I) ∧ Loc (ps c) m' ∧ Jn c

theorem for_gen {σ : Type} {I : Addr} {ro : List Addr} {n : Nat} {P : Nat → Value → Prop} {St : Nat → Heap → Prop} {m₀ : Str → Option Value} (Led : σ → List (Addr × Obj)) (ps : σ → List (Str × Value)) (J : Nat → σ → Prop) (c₀ : σ)
    (W : Walks prog w A I (I :: ro) [I] n P St) (hSt : ∀ i h, St i h → ∃ o, h.get? I = some o) (hI : h₀.get? I = none) (hLI : env.locals ≠ I) (hLr : env.locals ∉ ro) (hro : ∀ b ∈ ro, (∃ o, h₀.get? b = some o) ∨ ∃ o, ∀ i c, J i c → (b, o) ∈ Led c)
    (hst : St 0 s₂.heap) (F : Fr h₀ env.locals s₂.heap m₀) (N : News h₀ env.locals s₂.heap (Led c₀)) (hIn : ∀ p ∈ Led c₀, p.1 ≠ I) (hk : Loc (ps c₀) m₀) (hj : J 0 c₀)
    (turn : ∀ i v c u h tk o, i < n → P i v → J i c → (∀ p ∈ Led c, p.1 ≠ I) → Fr h₀ env.locals h (fun y => if y = x then some v else kstB u (ps c) y) → News h₀ env.locals h ((I, o) :: Led c) →
      wpAny (model prog w) A (execs body env) (TurnEnd h₀ env.locals I o Led ps (J (i + 1)) { s₂ with heap := h, toks := tk } Q) E { s₂ with heap := h, toks := tk })
    (done : ∀ c u h tk, J n c → Fr h₀ env.locals h (kstB u (ps c)) → News h₀ env.locals h (Led c) → Q .next { s₂ with heap := h, toks := tk }) :
    LoopAtV prog w A h₀ env x body Q E (.ref I) s₂ := by
  refine ⟨I, I :: ro, [I], n, P, St, m₀, Led c₀, fun i m nw => ∃ c, nw = Led c ∧ Loc (ps c) m ∧ J i c, rfl, W, ?_, ?_, ?_, hst, F, N, ⟨c₀, rfl, hk, hj⟩, ?_, ?_⟩
  · intro h
    rcases List.mem_cons.mp h with e | e
    · exact hLI e
    · exact hLr e
  · intro b hb
    rw [List.mem_singleton.mp hb]; exact hI
  · intro p hp hm
    exact hIn p hp (List.mem_singleton.mp hm)
  · rintro i v m₁ news₁ s₁ own ⟨h, tk, rfl⟩ hi hP ⟨c, rfl, hl, hJ⟩ hoff hown hval hfull hst' F₁ N₁
    have hoff' : ∀ p ∈ Led c, p.1 ≠ I := fun p hp e => hoff p hp (List.mem_singleton.mpr e)
    obtain ⟨o, ho⟩ := hSt _ _ hst'
    have hIo : (I, o) ∈ own := hfull I (.head _) hI o ho
    have F₂ : Fr h₀ env.locals h (fun y => if y = x then some v else kstB m₁ (ps c) y) := by rw [hl.eq]; exact F₁
    have N₂ : News h₀ env.locals h ((I, o) :: Led c) := List.forall_mem_cons.mpr ⟨N₁ _ (List.mem_append_left _ hIo), fun p hp => N₁ p (List.mem_append_right _ hp)⟩
    refine wpAny_mono (turn i v c m₁ h tk o hi hP hJ hoff' F₂ N₂) (fun f s₃ p => ?_) fun _ _ e => e
    have fin : (∃ c h' tk' m' news', s₃ = { ({ s₂ with heap := h, toks := tk } : Shared) with heap := h', toks := tk' } ∧ Fr h₀ env.locals h' m' ∧ News h₀ env.locals h' news' ∧ (I, o) ∈ news' ∧ (∀ p ∈ Led c, p ∈ news') ∧ (∀ p ∈ Led c, p.1 ≠ I) ∧ Loc (ps c) m' ∧ J (i + 1) c) →
        LoopStepU h₀ env.locals [I] own (fun m nw => ∃ c, nw = Led c ∧ Loc (ps c) m ∧ J (i + 1) c) { s₂ with heap := h, toks := tk } .next s₃ := by
      rintro ⟨c', h', tk', m', news', rfl, F', N', hI', hs', hne', hk', hj'⟩
      refine ⟨rfl, h', tk', m', Led c', rfl, F', fun p hp => ?_, fun p hp hm => hne' p hp (List.mem_singleton.mp hm), c', rfl, hk', hj'⟩
      rcases List.mem_append.mp hp with hp | hp
      · rcases List.mem_cons.mp (hown p hp) with e | e
        · have e2 : p = (I, o) := Prod.ext e (by have := hval p hp; rw [e, ho] at this; exact (Option.some.inj this).symm)
          rw [e2]; exact N' _ hI'
        · have hfr := (N₁ p (List.mem_append_left _ hp)).2.2
          rcases hro p.1 e with ⟨o', ho'⟩ | ⟨o', hm⟩
          · rw [hfr] at ho'; cases ho'
          · have h1 := (N₁ _ (List.mem_append_right _ (hm i c hJ))).1
            have e2 : p = (p.1, o') := Prod.ext rfl (by have := hval p hp; rw [h1] at this; exact (Option.some.inj this).symm)
            rw [e2]; exact N' _ (hs' _ (hm _ _ hj'))
      · exact N' p (hs' p hp)
    cases f with
    | ret v => exact .ret p
    | brk => exact .brk p
    | next => exact .next (fin p)
    | cont => exact .cont (fin p)
  · rintro h' tk m' news' F' N' _ ⟨c, rfl, hl, hJ⟩
    exact done c m' h' tk hJ (by rw [hl.eq]; exact F') N'

theorem for_range {σ : Type} {r : Addr} {b₀ : Int} {t₀ u₀ v₀ : Tok} {n : Nat} {m₀ : Str → Option Value} (Led : σ → List (Addr × Obj)) (ps : σ → List (Str × Value)) (J : Nat → σ → Prop) (c₀ : σ)
    (hh : A.handled = none) (hr : IsRange s.heap r 0 b₀ 1 t₀ u₀ v₀) (hb : b₀ = (n : Int)) (hb2 : b₀ ≤ 2 ^ 40)
    (F : Fr h₀ env.locals s.heap m₀) (N : News h₀ env.locals s.heap (Led c₀)) (hk : Loc (ps c₀) m₀) (hj : J 0 c₀)
    (turn : ∀ (i : Nat) t c u h tk I o, i < n → J i c → (∀ p ∈ Led c, p.1 ≠ I) → Fr h₀ env.locals h (fun y => if y = x then some (.int (i : Int) t) else kstB u (ps c) y) → News h₀ env.locals h ((I, o) :: Led c) →
      wpAny (model prog w) A (execs body env) (TurnEnd h₀ env.locals I o Led ps (J (i + 1)) { s with heap := h, toks := tk } Q) E { s with heap := h, toks := tk })
    (done : ∀ c u h tk, J n c → Fr h₀ env.locals h (kstB u (ps c)) → News h₀ env.locals h (Led c) → Q .next { s with heap := h, toks := tk }) :
    wpAny (model prog w) A (pyIter (.ref r)) (fun it s₂ => LoopAtV prog w A h₀ env x body Q E it s₂) E s := by
  subst hb
  have hn : Builtin.Range.rangeSize 0 (n : Int) 1 = (n : Int) := by
    unfold Builtin.Range.rangeSize
    simp
    omega
  have hsmall : Builtin.Range.small 0 (n : Int) 1 = true := by
    unfold Builtin.Range.small
    rw [hn]
    have h1 : Builtin.Range.rangeFitsLong (n : Int) = true := by unfold Builtin.Range.rangeFitsLong; simp; omega
    have h2 : Builtin.Range.rangeFitsLong ((n : Int) + (1 - 1)) = true := by rw [show (n : Int) + (1 - 1) = n by omega]; exact h1
    rw [h1]
    simp only [show ((1 : Int) > 0) from by decide, if_true, h2]
    rw [show Builtin.Range.rangeFitsLong 0 = true by decide, show Builtin.Range.rangeFitsLong 1 = true by decide]
    simp
  refine wpAny_pyIter_range hr hsmall ?_
  rw [hn]
  refine for_gen (P := fun i v => ∃ t, v = .int (0 + (i : Nat) * 1) t) (ro := []) Led ps J c₀ (Walks.range hh _ 0 1 n) (fun i h hst => ⟨_, hst⟩) (next_is_new F) (Nat.ne_of_lt F.ns.lt) (by simp) (by simp) (by show IsRangeIter _ _ _ _ _; simpa using Heap.get?_push_size _ rfl) (F.push _)
    (fun p hp => ⟨Heap.get?_push_of_some _ (N p hp).1, (N p hp).2⟩) (fun p hp e => absurd (Heap.lt_size (N p hp).1) (by rw [e]; exact Nat.lt_irrefl _)) hk hj ?_ ?_
  · rintro i v c u h tk o hi ⟨t, rfl⟩ hJ hne F' N'
    have e1 : (0 : Int) + (i : Nat) * 1 = (i : Int) := by omega
    rw [e1] at F'
    exact turn i t c u h tk _ o hi hJ hne F' N'
  · intro c u h tk hJ F' N'
    exact done c u h tk hJ F' N'
end
end Mine
namespace Mine
/-- (d, o) lies in the ledger, the rest lies elsewhere -/
inductive Pick (d : Addr) (o : Obj) : List (Addr × Obj) → List (Addr × Obj) → Prop
  | head {r} : (∀ p ∈ r, p.1 ≠ d) → Pick d o ((d, o) :: r) r
  | tail {p r r'} : p.1 ≠ d → Pick d o r r' → Pick d o (p :: r) (p :: r')
def Picks : List (Addr × Obj) → List (Addr × Obj) → List (Addr × Obj) → Prop
  | [], news, rest => rest = news
  | q :: pre, news, rest => ∃ n, Pick q.1 q.2 news n ∧ Picks pre n rest
theorem picks_of {q : Addr × Obj} {pre news n rest : List (Addr × Obj)} (a : Pick q.1 q.2 news n) (b : Picks pre n rest) : Picks (q :: pre) news rest := ⟨n, a, b⟩
theorem Pick.mem {d : Addr} {o : Obj} {l r : List (Addr × Obj)} (h : Pick d o l r) : (d, o) ∈ l := by
  induction h with
  | head _ => exact .head _
  | tail _ _ ih => exact .tail _ ih
theorem Pick.sub {d : Addr} {o : Obj} {l r : List (Addr × Obj)} (h : Pick d o l r) : ∀ q ∈ r, q ∈ l ∧ q.1 ≠ d := by
  induction h with
  | head h => exact fun q hq => ⟨.tail _ hq, h q hq⟩
  | tail h _ ih =>
    intro q hq
    rcases List.mem_cons.mp hq with rfl | hq
    · exact ⟨.head _, h⟩
    · exact ⟨.tail _ (ih q hq).1, (ih q hq).2⟩
theorem Picks.sub : ∀ {pre l r : List (Addr × Obj)}, Picks pre l r → (∀ q ∈ pre, q ∈ l) ∧ ∀ q ∈ r, q ∈ l ∧ ∀ p ∈ pre, q.1 ≠ p.1
  | [], _, _, h => ⟨fun _ hq => (nomatch hq), fun q hq => ⟨(show _ = _ from h) ▸ hq, fun _ hp => (nomatch hp)⟩⟩
  | q :: pre, l, r, ⟨n, h1, h2⟩ => by
    obtain ⟨a, b⟩ := Picks.sub h2
    refine ⟨List.forall_mem_cons.mpr ⟨h1.mem, fun p hp => (h1.sub p (a p hp)).1⟩, fun p hp => ?_⟩
    obtain ⟨b1, b2⟩ := b p hp
    obtain ⟨c1, c2⟩ := h1.sub p b1
    exact ⟨c1, List.forall_mem_cons.mpr ⟨c2, b2⟩⟩
section
variable {w : World} {A₀ : Around} {base h₀ : Heap} {outer : List Env} {s : Shared} {L : Addr} {m : Str → Option Value} {news pre rest : List (Addr × Obj)} {env : Env}
  {dp un d u : Nat} {gd : Option (List Code)} {f C : Addr} {args : List Value} {post : Value → List (Addr × Obj) → Prop} {Q E : Value → Shared → Prop}
  {p : Program} {loose : List Str} {mean : ExcName → Option Value} {mg mb : Str → Option Value}
theorem con_call (C : Con w f args d u pre post) (B : Below A₀ base outer h₀) (F : Fr h₀ L s.heap m) (N : News h₀ L s.heap news) (X : (Mine.hd.heap_39 w.params).In base) (T : Top p loose mean mg mb base) (D : KtsDicts (outer.filterMap (·.frame)) h₀)
    (hf : env.frame = some L) (hk : env.scope.kind = .function) (hP : Picks pre news rest) (hd : dp + d < recursionLimit) (hu : un + u < cLine)
    (h : ∀ v h' tk' led, post v led → Fr h₀ L h' m → News h₀ L h' (led ++ rest) → (∀ q ∈ led, ∀ r ∈ rest, q.1 ≠ r.1) → Q v { s with heap := h', toks := tk' }) :
    wpAny (model PySem.Challenge.rw_sq0039_01.row.prog w) (⟨none, dp, some (env :: outer), gd, un⟩ : Around) (call (.ref f) args) Q E s :=
  con_use C B F N X T D hf hk hP.sub.1 hP.sub.2 hd hu h
theorem con_callE {x : Value} {l : List (Addr × Obj)} (C : Con w f args d u pre (fun v led => v = x ∧ led = l)) (B : Below A₀ base outer h₀) (F : Fr h₀ L s.heap m) (N : News h₀ L s.heap news) (X : (Mine.hd.heap_39 w.params).In base) (T : Top p loose mean mg mb base) (D : KtsDicts (outer.filterMap (·.frame)) h₀)
    (hf : env.frame = some L) (hk : env.scope.kind = .function) (hP : Picks pre news rest) (hd : dp + d < recursionLimit) (hu : un + u < cLine)
    (h : ∀ h' tk', Fr h₀ L h' m → News h₀ L h' (l ++ rest) → Q x { s with heap := h', toks := tk' }) :
    wpAny (model PySem.Challenge.rw_sq0039_01.row.prog w) (⟨none, dp, some (env :: outer), gd, un⟩ : Around) (call (.ref f) args) Q E s :=
  con_call C B F N X T D hf hk hP hd hu (by rintro v h' tk' led ⟨rfl, rfl⟩ F' N' _; exact h h' tk' F' N')
theorem con_callK {α : Type} {x : α → Value} {l : List (Addr × Obj)} (C : Con w f args d u pre (fun v led => (∃ t, v = x t) ∧ led = l)) (B : Below A₀ base outer h₀) (F : Fr h₀ L s.heap m) (N : News h₀ L s.heap news) (X : (Mine.hd.heap_39 w.params).In base) (T : Top p loose mean mg mb base) (D : KtsDicts (outer.filterMap (·.frame)) h₀)
    (hf : env.frame = some L) (hk : env.scope.kind = .function) (hP : Picks pre news rest) (hd : dp + d < recursionLimit) (hu : un + u < cLine)
    (h : ∀ h' tk' t, Fr h₀ L h' m → News h₀ L h' (l ++ rest) → Q (x t) { s with heap := h', toks := tk' }) :
    wpAny (model PySem.Challenge.rw_sq0039_01.row.prog w) (⟨none, dp, some (env :: outer), gd, un⟩ : Around) (call (.ref f) args) Q E s :=
  con_call C B F N X T D hf hk hP hd hu (by rintro v h' tk' led ⟨⟨t, rfl⟩, rfl⟩ F' N' _; exact h h' tk' t F' N')
theorem con_callY2 {T1 T2 : Type} {x : T1 → T2 → Value} {l : T1 → T2 → List (Addr × Obj)} {P : T1 → T2 → Prop} (C : Con w f args d u pre (fun v led => ∃ a1 a2, v = x a1 a2 ∧ led = l a1 a2 ∧ P a1 a2)) (B : Below A₀ base outer h₀) (F : Fr h₀ L s.heap m) (N : News h₀ L s.heap news) (X : (Mine.hd.heap_39 w.params).In base) (T : Top p loose mean mg mb base) (D : KtsDicts (outer.filterMap (·.frame)) h₀)
    (hf : env.frame = some L) (hk : env.scope.kind = .function) (hP : Picks pre news rest) (hd : dp + d < recursionLimit) (hu : un + u < cLine)
    (h : ∀ h' tk' a1 a2, P a1 a2 → Fr h₀ L h' m → News h₀ L h' (l a1 a2 ++ rest) → Q (x a1 a2) { s with heap := h', toks := tk' }) :
    wpAny (model PySem.Challenge.rw_sq0039_01.row.prog w) (⟨none, dp, some (env :: outer), gd, un⟩ : Around) (call (.ref f) args) Q E s :=
  con_call C B F N X T D hf hk hP hd hu (by rintro v h' tk' led ⟨a1, a2, rfl, rfl, hp⟩ F' N' _; exact h h' tk' _ _ hp F' N')
theorem con_callY3 {T1 T2 T3 : Type} {x : T1 → T2 → T3 → Value} {l : T1 → T2 → T3 → List (Addr × Obj)} {P : T1 → T2 → T3 → Prop} (C : Con w f args d u pre (fun v led => ∃ a1 a2 a3, v = x a1 a2 a3 ∧ led = l a1 a2 a3 ∧ P a1 a2 a3)) (B : Below A₀ base outer h₀) (F : Fr h₀ L s.heap m) (N : News h₀ L s.heap news) (X : (Mine.hd.heap_39 w.params).In base) (T : Top p loose mean mg mb base) (D : KtsDicts (outer.filterMap (·.frame)) h₀)
    (hf : env.frame = some L) (hk : env.scope.kind = .function) (hP : Picks pre news rest) (hd : dp + d < recursionLimit) (hu : un + u < cLine)
    (h : ∀ h' tk' a1 a2 a3, P a1 a2 a3 → Fr h₀ L h' m → News h₀ L h' (l a1 a2 a3 ++ rest) → Q (x a1 a2 a3) { s with heap := h', toks := tk' }) :
    wpAny (model PySem.Challenge.rw_sq0039_01.row.prog w) (⟨none, dp, some (env :: outer), gd, un⟩ : Around) (call (.ref f) args) Q E s :=
  con_call C B F N X T D hf hk hP hd hu (by rintro v h' tk' led ⟨a1, a2, a3, rfl, rfl, hp⟩ F' N' _; exact h h' tk' _ _ _ hp F' N')
end
end Mine
namespace Mine
theorem turn_end {σ : Type} {h₀ h' : Heap} {L I : Addr} {o : Obj} {Led : σ → List (Addr × Obj)} {ps : σ → List (Str × Value)} {Jn : σ → Prop} {s : Shared} {Q : Flow → Shared → Prop} (c : σ) {m' : Str → Option Value} {news' : List (Addr × Obj)} {tk' : Nat}
    (F : Fr h₀ L h' m') (N : News h₀ L h' news') (hI : (I, o) ∈ news') (hs : ∀ p ∈ Led c, p ∈ news') (hne : ∀ p ∈ Led c, p.1 ≠ I) (hk : Loc (ps c) m') (hj : Jn c) :
    TurnEnd h₀ L I o Led ps Jn s Q .next { s with heap := h', toks := tk' } := ⟨c, h', tk', m', news', rfl, F, N, hI, hs, hne, hk, hj⟩
theorem all2 {p q : Addr × Obj} {P : Addr × Obj → Prop} (a : P p) (b : P q) : ∀ x ∈ [p, q], P x := List.forall_mem_cons.mpr ⟨a, List.forall_mem_cons.mpr ⟨b, List.forall_mem_nil _⟩⟩
theorem all1 {p : Addr × Obj} {P : Addr × Obj → Prop} (a : P p) : ∀ x ∈ [p], P x := List.forall_mem_cons.mpr ⟨a, List.forall_mem_nil _⟩
theorem loc1 {m : Str → Option Value} {x : Str} {v : Value} (h : m x = some v) : Loc [(x, v)] m := Loc.cons h Loc.nil
theorem loc2 {m : Str → Option Value} {x y : Str} {v u : Value} (h : m x = some v) (h2 : m y = some u) : Loc [(x, v), (y, u)] m := Loc.cons h (loc1 h2)
theorem intsAre_append : ∀ {vs us : List Value} {ns ms : List Int}, IntsAre vs ns → IntsAre us ms → IntsAre (vs ++ us) (ns ++ ms)
  | _, _, _, _, .nil, h => h
  | _, _, _, _, .cons n t r, h => .cons n t (intsAre_append r h)
theorem getD4 {P : Int → Prop} (a b c d k : Int) (h0 : 0 ≤ k) (h1 : k < 4) (ha : P a) (hb : P b) (hc : P c) (hd : P d) : P ([a, b, c, d].getD k.toNat 0) := by
  obtain rfl | rfl | rfl | rfl : k = 0 ∨ k = 1 ∨ k = 2 ∨ k = 3 := by omega
  · exact ha
  · exact hb
  · exact hc
  · exact hd
end Mine
namespace Mine
section
variable {prog : Program} {w : World} {A : Around} {E : Value → Shared → Prop} {s : Shared} {env : Env} {h₀ : Heap} {x : Str} {body : List Stmt} {Q : Flow → Shared → Prop}
theorem for_str {σ : Type} {y : Str} {ty : Tok} {m₀ : Str → Option Value} (Led : σ → List (Addr × Obj)) (ps : σ → List (Str × Value)) (J : Nat → σ → Prop) (c₀ : σ)
    (hh : A.handled = none) (F : Fr h₀ env.locals s.heap m₀) (N : News h₀ env.locals s.heap (Led c₀)) (hk : Loc (ps c₀) m₀) (hj : J 0 c₀)
    (turn : ∀ (i : Nat) (d : Nat) t c u h tk I o, y.cps[i]? = some d → J i c → (∀ p ∈ Led c, p.1 ≠ I) → Fr h₀ env.locals h (fun z => if z = x then some (.str ⟨#[d]⟩ t) else kstB u (ps c) z) → News h₀ env.locals h ((I, o) :: Led c) →
      wpAny (model prog w) A (execs body env) (TurnEnd h₀ env.locals I o Led ps (J (i + 1)) { s with heap := h, toks := tk } Q) E { s with heap := h, toks := tk })
    (done : ∀ c u h tk, J y.cps.size c → Fr h₀ env.locals h (kstB u (ps c)) → News h₀ env.locals h (Led c) → Q .next { s with heap := h, toks := tk }) :
    wpAny (model prog w) A (pyIter (.str y ty)) (fun it s₂ => LoopAtV prog w A h₀ env x body Q E it s₂) E s := by
  have fin : ∀ (o : Obj) (St : Nat → Heap → Prop), (∀ A' : Around, A'.handled = none → Walks prog w A' s.heap.objs.size [s.heap.objs.size] [s.heap.objs.size] y.cps.size (SignAt y) St) → (∀ i h, St i h → ∃ o, h.get? s.heap.objs.size = some o) → St 0 (s.heap.push o) →
      LoopAtV prog w A h₀ env x body Q E (.ref s.heap.objs.size) { s with heap := s.heap.push o } := by
    intro o St W hSt hst
    refine for_gen (P := SignAt y) (ro := []) Led ps J c₀ (W A hh) hSt (next_is_new F) (Nat.ne_of_lt F.ns.lt) (by simp) (by simp) hst (F.push _)
      (fun p hp => ⟨Heap.get?_push_of_some _ (N p hp).1, (N p hp).2⟩) (fun p hp e => absurd (Heap.lt_size (N p hp).1) (by rw [e]; exact Nat.lt_irrefl _)) hk hj ?_ ?_
    · rintro i v c u h tk o hi ⟨d, t, hd, rfl⟩ hJ hne F' N'
      exact turn i d t c u h tk _ o hd hJ hne F' N'
    · intro c u h tk hJ F' N'
      exact done c u h tk hJ F' N'
  cases ha : y.cps.all (· < 128)
  · exact wpAny_pyIter_wide ha (fin _ _ (fun A' hA => Walks.strWide hA _ y ty) (fun i h ⟨o, ho, _⟩ => ⟨o, ho⟩) ⟨_, Heap.get?_push_size _ rfl, rfl, rfl⟩)
  · exact wpAny_pyIter_ascii ha (fin _ _ (fun A' hA => Walks.strAscii hA _ y ty) (fun i h ⟨o, ho, _⟩ => ⟨o, ho⟩) ⟨_, Heap.get?_push_size _ rfl, rfl, rfl⟩)
end
end Mine
namespace Mine
/-! What a contract says of its value and ledger, handed on without a copy of the goal for each part. -/
@[elab_as_elim] theorem eq2 {G : Value → List (Addr × Obj) → Prop} {x : Value} {l : List (Addr × Obj)} (v : Value) (led : List (Addr × Obj)) (h : v = x ∧ led = l) (k : G x l) : G v led := by
  obtain ⟨rfl, rfl⟩ := h; exact k
@[elab_as_elim] theorem tok2 {α : Type} {G : Value → List (Addr × Obj) → Prop} {x : α → Value} {l : List (Addr × Obj)} (v : Value) (led : List (Addr × Obj)) (h : (∃ t, v = x t) ∧ led = l) (k : ∀ t, G (x t) l) : G v led := by
  obtain ⟨⟨t, rfl⟩, rfl⟩ := h; exact k t
@[elab_as_elim] theorem ex1 {α : Type} {x : α → Value} {l : α → List (Addr × Obj)} {P : α → Prop} {G : Value → List (Addr × Obj) → Prop} (v : Value) (led : List (Addr × Obj)) (h : ∃ a, v = x a ∧ led = l a ∧ P a) (k : ∀ a, P a → G (x a) (l a)) : G v led := by
  obtain ⟨a, rfl, rfl, h⟩ := h; exact k _ h
@[elab_as_elim] theorem exl1 {α : Type} {l : α → List (Addr × Obj)} {P : α → Prop} {G : List (Addr × Obj) → Prop} (led : List (Addr × Obj)) (h : ∃ a, led = l a ∧ P a) (k : ∀ a, P a → G (l a)) : G led := by
  obtain ⟨a, rfl, h⟩ := h; exact k _ h
@[elab_as_elim] theorem ex2 {α β : Type} {x : α → β → Value} {l : α → β → List (Addr × Obj)} {P : α → β → Prop} {G : Value → List (Addr × Obj) → Prop} (v : Value) (led : List (Addr × Obj)) (h : ∃ a b, v = x a b ∧ led = l a b ∧ P a b) (k : ∀ a b, P a b → G (x a b) (l a b)) : G v led := by
  obtain ⟨a, b, rfl, rfl, h⟩ := h; exact k _ _ h
@[elab_as_elim] theorem exl2 {α β : Type} {l : α → β → List (Addr × Obj)} {P : α → β → Prop} {G : List (Addr × Obj) → Prop} (led : List (Addr × Obj)) (h : ∃ a b, led = l a b ∧ P a b) (k : ∀ a b, P a b → G (l a b)) : G led := by
  obtain ⟨a, b, rfl, h⟩ := h; exact k _ _ h
@[elab_as_elim] theorem ex3 {α β γ : Type} {x : α → β → γ → Value} {l : α → β → γ → List (Addr × Obj)} {P : α → β → γ → Prop} {G : Value → List (Addr × Obj) → Prop} (v : Value) (led : List (Addr × Obj)) (h : ∃ a b c, v = x a b c ∧ led = l a b c ∧ P a b c) (k : ∀ a b c, P a b c → G (x a b c) (l a b c)) : G v led := by
  obtain ⟨a, b, c, rfl, rfl, h⟩ := h; exact k _ _ _ h
@[elab_as_elim] theorem exl3 {α β γ : Type} {l : α → β → γ → List (Addr × Obj)} {P : α → β → γ → Prop} {G : List (Addr × Obj) → Prop} (led : List (Addr × Obj)) (h : ∃ a b c, led = l a b c ∧ P a b c) (k : ∀ a b c, P a b c → G (l a b c)) : G led := by
  obtain ⟨a, b, c, rfl, h⟩ := h; exact k _ _ _ h
@[elab_as_elim] theorem ex4 {α β γ δ : Type} {x : α → β → γ → δ → Value} {l : α → β → γ → δ → List (Addr × Obj)} {P : α → β → γ → δ → Prop} {G : Value → List (Addr × Obj) → Prop} (v : Value) (led : List (Addr × Obj)) (h : ∃ a b c d, v = x a b c d ∧ led = l a b c d ∧ P a b c d) (k : ∀ a b c d, P a b c d → G (x a b c d) (l a b c d)) : G v led := by
  obtain ⟨a, b, c, d, rfl, rfl, h⟩ := h; exact k _ _ _ _ h
@[elab_as_elim] theorem exl4 {α β γ δ : Type} {l : α → β → γ → δ → List (Addr × Obj)} {P : α → β → γ → δ → Prop} {G : List (Addr × Obj) → Prop} (led : List (Addr × Obj)) (h : ∃ a b c d, led = l a b c d ∧ P a b c d) (k : ∀ a b c d, P a b c d → G (l a b c d)) : G led := by
  obtain ⟨a, b, c, d, rfl, h⟩ := h; exact k _ _ _ _ h
@[elab_as_elim] theorem ex5 {α β γ δ ε : Type} {x : α → β → γ → δ → ε → Value} {l : α → β → γ → δ → ε → List (Addr × Obj)} {P : α → β → γ → δ → ε → Prop} {G : Value → List (Addr × Obj) → Prop} (v : Value) (led : List (Addr × Obj)) (h : ∃ a b c d e, v = x a b c d e ∧ led = l a b c d e ∧ P a b c d e) (k : ∀ a b c d e, P a b c d e → G (x a b c d e) (l a b c d e)) : G v led := by
  obtain ⟨a, b, c, d, e, rfl, rfl, h⟩ := h; exact k _ _ _ _ _ h
@[elab_as_elim] theorem exl5 {α β γ δ ε : Type} {l : α → β → γ → δ → ε → List (Addr × Obj)} {P : α → β → γ → δ → ε → Prop} {G : List (Addr × Obj) → Prop} (led : List (Addr × Obj)) (h : ∃ a b c d e, led = l a b c d e ∧ P a b c d e) (k : ∀ a b c d e, P a b c d e → G (l a b c d e)) : G led := by
  obtain ⟨a, b, c, d, e, rfl, h⟩ := h; exact k _ _ _ _ _ h
@[elab_as_elim] theorem ex6 {α β γ δ ε ζ : Type} {x : α → β → γ → δ → ε → ζ → Value} {l : α → β → γ → δ → ε → ζ → List (Addr × Obj)} {P : α → β → γ → δ → ε → ζ → Prop} {G : Value → List (Addr × Obj) → Prop} (v : Value) (led : List (Addr × Obj)) (h : ∃ a b c d e f, v = x a b c d e f ∧ led = l a b c d e f ∧ P a b c d e f) (k : ∀ a b c d e f, P a b c d e f → G (x a b c d e f) (l a b c d e f)) : G v led := by
  obtain ⟨a, b, c, d, e, f, rfl, rfl, h⟩ := h; exact k _ _ _ _ _ _ h
@[elab_as_elim] theorem exl6 {α β γ δ ε ζ : Type} {l : α → β → γ → δ → ε → ζ → List (Addr × Obj)} {P : α → β → γ → δ → ε → ζ → Prop} {G : List (Addr × Obj) → Prop} (led : List (Addr × Obj)) (h : ∃ a b c d e f, led = l a b c d e f ∧ P a b c d e f) (k : ∀ a b c d e f, P a b c d e f → G (l a b c d e f)) : G led := by
  obtain ⟨a, b, c, d, e, f, rfl, h⟩ := h; exact k _ _ _ _ _ _ h
@[elab_as_elim] theorem ex7 {α β γ δ ε ζ η : Type} {x : α → β → γ → δ → ε → ζ → η → Value} {l : α → β → γ → δ → ε → ζ → η → List (Addr × Obj)} {P : α → β → γ → δ → ε → ζ → η → Prop} {G : Value → List (Addr × Obj) → Prop} (v : Value) (led : List (Addr × Obj)) (h : ∃ a b c d e f g, v = x a b c d e f g ∧ led = l a b c d e f g ∧ P a b c d e f g) (k : ∀ a b c d e f g, P a b c d e f g → G (x a b c d e f g) (l a b c d e f g)) : G v led := by
  obtain ⟨a, b, c, d, e, f, g, rfl, rfl, h⟩ := h; exact k _ _ _ _ _ _ _ h
@[elab_as_elim] theorem exl7 {α β γ δ ε ζ η : Type} {l : α → β → γ → δ → ε → ζ → η → List (Addr × Obj)} {P : α → β → γ → δ → ε → ζ → η → Prop} {G : List (Addr × Obj) → Prop} (led : List (Addr × Obj)) (h : ∃ a b c d e f g, led = l a b c d e f g ∧ P a b c d e f g) (k : ∀ a b c d e f g, P a b c d e f g → G (l a b c d e f g)) : G led := by
  obtain ⟨a, b, c, d, e, f, g, rfl, h⟩ := h; exact k _ _ _ _ _ _ _ h
@[elab_as_elim] theorem ex8 {α β γ δ ε ζ η θ : Type} {x : α → β → γ → δ → ε → ζ → η → θ → Value} {l : α → β → γ → δ → ε → ζ → η → θ → List (Addr × Obj)} {P : α → β → γ → δ → ε → ζ → η → θ → Prop} {G : Value → List (Addr × Obj) → Prop} (v : Value) (led : List (Addr × Obj)) (h : ∃ a b c d e f g i, v = x a b c d e f g i ∧ led = l a b c d e f g i ∧ P a b c d e f g i) (k : ∀ a b c d e f g i, P a b c d e f g i → G (x a b c d e f g i) (l a b c d e f g i)) : G v led := by
  obtain ⟨a, b, c, d, e, f, g, i, rfl, rfl, h⟩ := h; exact k _ _ _ _ _ _ _ _ h
@[elab_as_elim] theorem exl8 {α β γ δ ε ζ η θ : Type} {l : α → β → γ → δ → ε → ζ → η → θ → List (Addr × Obj)} {P : α → β → γ → δ → ε → ζ → η → θ → Prop} {G : List (Addr × Obj) → Prop} (led : List (Addr × Obj)) (h : ∃ a b c d e f g i, led = l a b c d e f g i ∧ P a b c d e f g i) (k : ∀ a b c d e f g i, P a b c d e f g i → G (l a b c d e f g i)) : G led := by
  obtain ⟨a, b, c, d, e, f, g, i, rfl, h⟩ := h; exact k _ _ _ _ _ _ _ _ h
@[elab_as_elim] theorem exl0 {α : Type} {l : α → List (Addr × Obj)} {G : List (Addr × Obj) → Prop} (led : List (Addr × Obj)) (h : ∃ a, led = l a) (k : ∀ a, G (l a)) : G led := by
  obtain ⟨a, rfl⟩ := h; exact k a
@[elab_as_elim] theorem ex9 {T1 T2 T3 T4 T5 T6 T7 T8 T9 : Type} {x : T1 → T2 → T3 → T4 → T5 → T6 → T7 → T8 → T9 → Value} {l : T1 → T2 → T3 → T4 → T5 → T6 → T7 → T8 → T9 → List (Addr × Obj)} {P : T1 → T2 → T3 → T4 → T5 → T6 → T7 → T8 → T9 → Prop} {G : Value → List (Addr × Obj) → Prop} (v : Value) (led : List (Addr × Obj)) (h : ∃ a b c d e f g i j, v = x a b c d e f g i j ∧ led = l a b c d e f g i j ∧ P a b c d e f g i j) (k : ∀ a b c d e f g i j, P a b c d e f g i j → G (x a b c d e f g i j) (l a b c d e f g i j)) : G v led := by
  obtain ⟨a, b, c, d, e, f, g, i, j, rfl, rfl, h⟩ := h; exact k _ _ _ _ _ _ _ _ _ h
@[elab_as_elim] theorem ex10 {T1 T2 T3 T4 T5 T6 T7 T8 T9 T10 : Type} {x : T1 → T2 → T3 → T4 → T5 → T6 → T7 → T8 → T9 → T10 → Value} {l : T1 → T2 → T3 → T4 → T5 → T6 → T7 → T8 → T9 → T10 → List (Addr × Obj)} {P : T1 → T2 → T3 → T4 → T5 → T6 → T7 → T8 → T9 → T10 → Prop} {G : Value → List (Addr × Obj) → Prop} (v : Value) (led : List (Addr × Obj)) (h : ∃ a b c d e f g i j k9, v = x a b c d e f g i j k9 ∧ led = l a b c d e f g i j k9 ∧ P a b c d e f g i j k9) (k : ∀ a b c d e f g i j k9, P a b c d e f g i j k9 → G (x a b c d e f g i j k9) (l a b c d e f g i j k9)) : G v led := by
  obtain ⟨a, b, c, d, e, f, g, i, j, k9, rfl, rfl, h⟩ := h; exact k _ _ _ _ _ _ _ _ _ _ h
@[elab_as_elim] theorem tok3 {α β : Type} {G : Value → List (Addr × Obj) → Prop} {x : α → β → Value} {l : List (Addr × Obj)} (v : Value) (led : List (Addr × Obj)) (h : (∃ a b, v = x a b) ∧ led = l) (k : ∀ a b, G (x a b) l) : G v led := by
  obtain ⟨⟨a, b, rfl⟩, rfl⟩ := h; exact k a b
@[elab_as_elim] theorem exv1 {α : Type} {x : α → Value} {G : Value → Prop} (v : Value) (h : ∃ a, v = x a) (k : ∀ a, G (x a)) : G v := by
  obtain ⟨a, rfl⟩ := h; exact k a
@[elab_as_elim] theorem exv2 {α β : Type} {x : α → β → Value} {P : α → β → Prop} {G : Value → Prop} (v : Value) (h : ∃ a b, P a b ∧ v = x a b) (k : ∀ a b, P a b → G (x a b)) : G v := by
  obtain ⟨a, b, h, rfl⟩ := h; exact k a b h
@[elab_as_elim] theorem exw2 {α β : Type} {x : α → β → Value} {P : α → β → Prop} {G : Value → Prop} (v : Value) (h : ∃ a b, v = x a b ∧ P a b) (k : ∀ a b, P a b → G (x a b)) : G v := by
  obtain ⟨a, b, rfl, h⟩ := h; exact k a b h
@[elab_as_elim] theorem eqs {α : Type} {x : α} {G : α → Prop} (y : α) (h : y = x) (k : G x) : G y := by
  subst h; exact k
/-! bounds, from a bound with room -/
theorem z0 {a c k : Int} (h : a + c ≤ k) (e : 0 ≤ c) : a ≤ k := by omega
theorem z1 {a c k : Int} (h : a + c ≤ k) (e : 1 ≤ c) : a + 1 ≤ k := by omega
theorem z2 {a c k : Int} (h : a + c ≤ k) (e : 2 ≤ c) : a + 1 + 1 ≤ k := by omega
theorem z3 {a c k : Int} (h : a + c ≤ k) (e : 3 ≤ c) : a + 1 + 1 + 1 ≤ k := by omega
theorem z4 {a c k : Int} (h : a + c ≤ k) (e : 4 ≤ c) : a + 1 + 1 + 1 + 1 ≤ k := by omega
theorem z5 {a c k : Int} (h : a + c ≤ k) (e : 5 ≤ c) : a + 1 + 1 + 1 + 1 + 1 ≤ k := by omega
theorem z6 {a c k : Int} (h : a + c ≤ k) (e : 6 ≤ c) : a + 1 + 1 + 1 + 1 + 1 + 1 ≤ k := by omega
end Mine
namespace Mine
open PySem.Spec Builtin Builtin.ObjectAttr
abbrev excO (C t : Addr) (d : Option Addr) : Obj := { cls := .ref C, dict := d, data := .fields #[.ref t, .none, .none, .none, .bool false, .none] }

section
variable {prog : Program} {w : World} {A : Around} {R : Result → Shared → Prop} {E : Value → Shared → Prop} {h : Heap} {g : Array GenState} {d : Drawn} {t : Nat} {os : OsState}
variable {nm q : Str} {C N : Addr} {bs bm bmB : List Value} {hdct : Bool} {sn : List Str} {sub : List Value} {ab : Bool} {col : Option Bool} {dd : Option Addr} {k0 k1 k2 k3 k5 : Option Value} {B newId initId : String}

theorem check_newX (F : ExcBaseFacts B newId initId bmB) (hB : bm.contains (.type B) = true) {M : Model} {rest : List Value} {Q : Unit → Shared → Prop} (hC : h.get? C = some (excClassObj nm q C N bs bm hdct sn sub ab col dd k0 k1 k2 k3 k5 newId))
    (hq : Q () ⟨h, g, d, t, os⟩) : wpAny M A (checkBuiltinCall newId ⟨.ref C :: rest, []⟩) Q E ⟨h, g, d, t, os⟩ := by
  have hcont : (Value.ref C :: bm).contains (.type B) = true := by rw [List.contains_cons, hB, Bool.or_true]
  have hstar := F.noStar
  simp only [checkBuiltinCall, F.newKind, F.newSplit, F.newRow]
  repeat (first | refine wpAny_loadPart_at hC ?_ | (refine wpAny_isSubtype_exc hC ?_; rw [hcont]) | refine wpAny_staticBase_exc hC ?_ | refine wpAny_madeBy_exc hC ?_ | simp only [bne_self_eq_false, Bool.false_eq_true, if_false] | wp_step)
  exact hq

theorem exc_newX (F : ExcBaseFacts B newId initId bmB) (hB : bm.contains (.type B) = true) (hA : bm.contains (.type "AttributeError") = false) (hN : bm.contains (.type "NameError") = false) {rest : List Value}
    (hC : h.get? C = some (excClassObj nm q C N bs bm hdct sn sub ab col dd k0 k1 k2 k3 k5 newId))
    (hq : R (.ok (.ret (.ref (h.objs.size + 1)))) ⟨(h.push { cls := .type "tuple", data := .seq rest.toArray }).push (excO C h.objs.size none), g, d, t, os⟩) (hrest : rest.length ≤ sizeLine) :
    codeAny (model prog w) A (.builtin newId ⟨.ref C :: rest, []⟩) R ⟨h, g, d, t, os⟩ := by
  have hends := F.ends
  have hcB : (Value.ref C :: bm).contains (.type B) = true := by rw [List.contains_cons, hB, Bool.or_true]
  have hcA : (Value.ref C :: bm).contains (.type "AttributeError") = false := by rw [List.contains_cons, hA]; rfl
  have hcN : (Value.ref C :: bm).contains (.type "NameError") = false := by rw [List.contains_cons, hN]; rfl
  refine codeAny_builtinAt F.entry ?_
  unfold Builtin.«BaseException.__new__»
  refine PySem.wpAt_bind ?_
  show PySem.wpAt _ _ _ (stack >>= _) _ _ _
  refine PySem.wpAt_bind (PySem.wpAt_stack fun p below => PySem.wpAt_of_wpAny ?_)
  wp_walk
  refine PySem.wpAt_of_wpAny ?_
  rw [F.owner]
  repeat (first | with_reducible refine wpAny_madeHere_exc F.canon hC ?_ | with_reducible refine wpAny_loadPart_at hC ?_ | (with_reducible refine wpAny_isSubtype_exc hC ?_; first | rw [hcB] | rw [hcA] | rw [hcN]) | wp_step)
  show R _ _
  rw [Heap.size_push]
  exact hq

theorem exc_typeCall (F : ExcBaseFacts B newId initId bmB) (hB : bm.contains (.type B) = true) (hA : bm.contains (.type "AttributeError") = false) (hN : bm.contains (.type "NameError") = false) {rest : List Value} {fI : Addr} {oI : Obj} {Q : Fin → Shared → Prop}
    (hC : h.get? C = some (excClassObj nm q C N bs bm hdct sn sub ab col dd k0 k1 k2 k3 k5 newId)) (hi : Looks (model prog w) h (typeLookup (.ref C) "__init__") (some (.ref fI)))
    (hfI : h.get? fI = some oI) (hfc : oI.cls = .type "function")
    (hq : ∀ h' e, Heap.MadeExcOf h h' e (.ref C) rest →
      wpAny (model prog w) A (call (.ref fI) (.ref e :: rest)) (fun r s' => r = .none ∧ Q (.done (.ret (.ref e))) s') E ⟨h', g, d, t, os⟩) (hrest : rest.length ≤ sizeLine) :
    wpAny (model prog w) A (Builtin.«type.__call__» ⟨.ref C :: rest, []⟩) Q E ⟨h, g, d, t, os⟩ := by
  repeat (first | with_reducible refine wpAny_loadPart_at hC ?_ | with_reducible refine wpAny_madeBy_exc hC ?_ | wp_step)
  refine codeAny_call_builtin_code (Code.quiet_builtin _ F.quiet) (check_newX F hB hC ?_)
  refine exc_newX F hB hA hN hC ?_ hrest
  show wpAny _ _ _ _ _ _
  have kk : ∀ b o, h.get? b = some o → ((h.push { cls := .type "tuple", data := .seq rest.toArray }).push (excO C h.objs.size none)).get? b = some o := fun b o e => Heap.get?_push_of_some _ (Heap.get?_push_of_some _ e)
  have hC₁ := kk _ _ hC
  have hfI₁ := kk _ _ hfI
  have hi₁ := hi.keeps kk
  have hget : ((h.push { cls := .type "tuple", data := .seq rest.toArray }).push (excO C h.objs.size none)).get? (h.objs.size + 1) = some (excO C h.objs.size none) := by heap_get
  have hcC : (Value.ref C :: bm).contains (.ref C) = true := by simp
  unfold isInstance
  repeat (first | with_reducible refine wpAny_loadPart_at hget ?_ | (with_reducible refine wpAny_isSubtype_exc hC₁ ?_; rw [hcC]) | wp_step)
  show wpAny _ _ (typeLookup (.ref C) _) _ _ _
  refine hi₁.here ?_
  refine wpAny_holding (wpAny_bind ?_)
  unfold bindSpecial
  refine wpAny_bind (wpAny_typeOf (T := "function") ⟨_, hfI₁, hfc⟩ ?_)
  rw [if_pos (by decide)]
  refine wpAny_pure (wpAny_bind (wpAny_mono (hq _ (h.objs.size + 1) ⟨fun b o hb => Heap.get?_push_of_some _ (Heap.get?_push_of_some _ hb), Heap.get?_none_of_le (Nat.le_succ _), h.objs.size, hget, Heap.get?_none_of_le (Nat.le_refl _), ?_⟩) (fun r s' hr => ?_) fun _ _ x => x))
  · exact Heap.get?_push_of_some _ (Heap.get?_push_at rfl rfl)
  · obtain ⟨rfl, hQ⟩ := hr
    wp_walk
    exact hQ

theorem exc_call (F : ExcBaseFacts B newId initId bmB) (hB : bm.contains (.type B) = true) (hA : bm.contains (.type "AttributeError") = false) (hN : bm.contains (.type "NameError") = false) {rest : List Value} {fI : Addr} {oI : Obj} {Q : Value → Shared → Prop}
    (hC : h.get? C = some (excClassObj nm q C N bs bm hdct sn sub ab col dd k0 k1 k2 k3 k5 newId)) (hi : Looks (model prog w) h (typeLookup (.ref C) "__init__") (some (.ref fI)))
    (hfI : h.get? fI = some oI) (hfc : oI.cls = .type "function")
    (hq : ∀ h' e, Heap.MadeExcOf h h' e (.ref C) rest →
      wpAny (model prog w) (A.under (.builtin "type.__call__" ⟨.ref C :: rest, []⟩)) (call (.ref fI) (.ref e :: rest)) (fun r s' => r = .none ∧ Q (.ref e) s') E ⟨h', g, d, t, os⟩) (hrest : rest.length ≤ sizeLine) :
    wpAny (model prog w) A (call (.ref C) rest) Q E ⟨h, g, d, t, os⟩ := by
  have f1 := tc_lookup
  have f2 := tc_bind (.ref C)
  have hT : (⟨h, g, d, t, os⟩ : Shared).TypeIs (.ref C) "type" := ⟨_, hC, rfl⟩
  refine wpAny_call (codeAny_of_tree ?_)
  show wpAny _ _ (callAny (.ref C) _) _ _ _
  repeat (any_goals (first | assumption | with_reducible refine wpAny_loadPart_at hC ?_ | wp_step))
  refine ⟨rfl, ?_⟩
  refine codeAny_call_builtin_at (Code.quiet_builtin _ (by decide +kernel)) entry_typeCall (wpAny_check_type_call_sub hC (exc_typeCall F hB hA hN hC hi hfI hfc (fun h' e hm => ?_) hrest))
  exact hq h' e hm

theorem exc_raiseStmt {s : Shared} {env : Env} {x : Sem Value} {Q : Flow → Shared → Prop} (hbase : bm.contains (.type "BaseException") = true) (hh : A.handled = none)
    (hx : wpAny (model prog w) A x (fun v s₁ => ∃ e t d, v = .ref e ∧ s₁.heap.get? C = some (excClassObj nm q C N bs bm hdct sn sub ab col dd k0 k1 k2 k3 k5 newId) ∧
      s₁.heap.get? e = some (excO C t d) ∧ E (.ref e) s₁) E s) :
    wpAny (model prog w) A (raiseStmt env (some x) none) Q E s := by
  have hcB : (Value.ref C :: bm).contains (.type "BaseException") = true := by rw [List.contains_cons, hbase, Bool.or_true]
  unfold raiseStmt
  refine wpAny_bind (wpAny_mono hx (fun v s₁ h₁ => ?_) fun _ _ x => x)
  obtain ⟨e, t, d, rfl, hC, he, hE⟩ := h₁
  obtain ⟨hp, g, dr, tk, os⟩ := s₁
  repeat (first | with_reducible refine wpAny_loadPart_at he ?_ | with_reducible refine wpAny_loadPart_at hC ?_ | (with_reducible refine wpAny_isSubtype_exc hC ?_; rw [hcB]) | wp_step)
  exact wpAny_raiseNew_none hh hE
end
end Mine
namespace Mine
open PySem.Spec Builtin Builtin.ObjectAttr
theorem under_call (dp un : Nat) (l : List Env) (gd : Option (List Code)) (C : Addr) (vals : List Value) :
    (⟨none, dp, some l, gd, un⟩ : Around).under (.builtin "type.__call__" ⟨.ref C :: vals, []⟩) = ⟨none, dp + 1, some l, gd, un + 1⟩ := by cases gd <;> rfl

section
variable {prog : Program} {w : World} {A : Around} {E : Value → Shared → Prop} {s : Shared} {K : Frag} {e C P t : Addr} {cd : ClassData} {name : Str} {v : Value}
abbrev bmVE : List Value := [.type "ValueError", .type "Exception", .type "BaseException", .type "object"]

theorem exc_set {Q : Unit → Shared → Prop} (X : K.In s.heap) (hx : s.heap.get? e = some (excO C t none)) (hs : findIn K (.ref C) "__setattr__" = some (some (.builtin "object.__setattr__")))
    (hc : clsIn K C = some cd) (hm : cd.mro = .ref C :: .ref P :: bmVE) (hd : cd.hasDict = true) (hn : findIn K (.ref C) name = some none)
    (h : ∀ h' d tk', h'.get? e = some (excO C t (some d)) → (∀ b o, b ≠ e → s.heap.get? b = some o → h'.get? b = some o) → Q () { s with heap := h', toks := tk' }) :
    wpAny (model prog w) A (setAttr (.ref e) name v) Q E s := by
  have SF := PySem.F.store_object
  obtain ⟨h0, g, dr, tk, os⟩ := s
  dsimp only at X hx h ⊢
  have I : InstAt h0 e (excO C t none) C none := ⟨hx, rfl, rfl, trivial⟩
  refine set_plain (s := ⟨h0, g, dr, tk, os⟩) X I hs ?_
  have hmro : Looks (model prog w) h0 (mroOf (.ref C)) cd.mro := (looks_clsIn X hc).andThen .now
  have tyl : Looks (model prog w) h0 (typeOf (.ref e)) (.ref C) := I.type
  have sub : Looks (model prog w) h0 (isInstance (.ref e) (.type "object")) true := I.type.andThen (looks_mroIn X (by unfold mroIn; rw [hc, Option.bind_some, if_neg (by rw [hm]; simp), hm]; rfl))
  refine codeAny_call_builtin SF.slot.plain SF.entry (@check_slot (model prog w) _ _ _ "object.__setattr__" "object" "__setattr__" (.ref e) [.str name tk, v] [] _ SF.kind SF.split sub (SF.args (.ref e) (.str name tk) v) ?_)
  rw [osa_eq, refuse_eq]
  refine wpAny_bind (wpAny_bind (tyl _ _ _ _ (fun _ _ e => e) (wpAny_bind (hmro _ _ _ _ (fun _ _ e => e) ?_))))
  rw [hm, refuseLoop_ref, refuseLoop_ref, PySem.F.store_ValueError.passes]
  refine wpAny_pure (wpAny_bind (tyl _ _ _ _ (fun _ _ e => e) (wpAny_bind ((looks_findIn X hn) _ _ _ _ (fun _ _ e => e) (wpAny_bind ?_)))))
  refine wpAny_pure ?_
  dsimp only
  show wpAny _ _ (storeInOwnDict (.ref e) (.ref C) (.str name tk) name v false) _ _ _
  refine wpAny_bind (wpAny_pure (wpAny_bind (wpAny_bind (wpAny_loadPart hx (wpAny_bind ((looks_clsIn X hc) _ _ _ _ (fun _ _ e => e) ?_))))))
  rw [hd]
  have hxs : e ≠ h0.objs.size := Nat.ne_of_lt (Heap.lt_size hx)
  have hx₁ : (h0.push { cls := .type "dict", data := .dict #[] }).get? e = some (excO C t none) := Heap.get?_push_of_some _ hx
  simp only [Bool.not_true, Bool.false_eq_true, if_false, typeHasDict, Bool.or_self]
  refine wpAny_bind (wpAny_alloc ?_)
  refine wpAny_bind (wpAny_update hx₁ ?_)
  refine wpAny_pure ?_
  have hgd : ((h0.push { cls := .type "dict", data := .dict #[] }).update e fun o => { cls := o.cls, dict := some h0.objs.size, data := o.data, slots := o.slots }).get? h0.objs.size
      = some { cls := .type "dict", data := .dict #[] } := (Heap.get?_update_ne _ _ _ _ hxs.symm).trans (Heap.get?_push_at rfl rfl)
  have hnd : ((h0.push { cls := .type "dict", data := .dict #[] }).update e fun o => { cls := o.cls, dict := some h0.objs.size, data := o.data, slots := o.slots }).Ns h0.objs.size (fun _ => none) :=
    ⟨_, #[], _, hgd, rfl, fun e he => absurd he (by simp), fun _ => rfl⟩
  show wpAny _ _ (storeInDict h0.objs.size (.str name tk) name v) _ _ _
  unfold storeInDict newKeyGuard
  refine wpAny_bind (wpAny_pure (wpAny_bind (wpAny_nsSet1 (Heap.Ns1.of_empty hnd) fun h' hn' hs => ?_)))
  obtain ⟨oD, esD, epD, hoD, hdD, hcD⟩ := hn'.count (Within.cons name v Within.nil)
  refine wpAny_bind (wpAny_lookBehind hoD (by rw [hdD]; exact pastItsLine_dict (Nat.le_trans hcD (by rw [List.length_cons, List.length_nil, sizeLine_eq]; omega))) ?_)
  refine wpAny_pure ?_
  refine h h' h0.objs.size _ ?_ fun b ob hbx hb => ?_
  · exact (hs.2 e hxs).trans (Heap.get?_update_self _ hx₁ rfl)
  · exact (hs.2 b (Nat.ne_of_lt (Heap.lt_size hb))).trans ((Heap.get?_update_ne _ _ _ _ hbx).trans (Heap.get?_push_of_some _ hb))

theorem exc_set_led {h₀ : Heap} {L : Addr} {m : Str → Option Value} {Q : Unit → Shared → Prop} (F : Fr h₀ L s.heap m) (N : News h₀ L s.heap [(e, excO C t none)]) (X₀ : K.In h₀)
    (hs : findIn K (.ref C) "__setattr__" = some (some (.builtin "object.__setattr__")))
    (hc : clsIn K C = some cd) (hm : cd.mro = .ref C :: .ref P :: bmVE) (hd : cd.hasDict = true) (hn : findIn K (.ref C) name = some none)
    (h : ∀ h' d tk', Fr h₀ L h' m → News h₀ L h' [(e, excO C t (some d))] → Q () { s with heap := h', toks := tk' }) :
    wpAny (model prog w) A (setAttr (.ref e) name v) Q E s := by
  have hx := N _ (.head _)
  refine exc_set (X₀.keeps F.keep) hx.1 hs hc hm hd hn fun h' d tk' he hk => ?_
  have hne : ∀ b o, h₀.get? b = some o → b ≠ e := fun b o q z => by rw [z, hx.2.2] at q; cases q
  obtain ⟨oL, es, ep, hL, r⟩ := F.ns
  exact h h' d tk' ⟨⟨oL, es, ep, hk _ _ (Ne.symm hx.2.1) hL, r⟩, fun b o q => hk _ _ (hne b o q) (F.keep b o q), F.above⟩ fun p hp => by
    rw [List.mem_singleton.mp hp]
    exact ⟨he, hx.2⟩
end
end Mine
namespace Mine
open PyProof.Rows.LCg
theorem off1_cons {D : Addr} {p : Addr × Obj} {r : List (Addr × Obj)} : Off1 D (p :: r) ↔ NeA p.1 D ∧ Off1 D r := ⟨fun h => ⟨⟨h.1⟩, h.2⟩, fun h => ⟨h.1.out, h.2⟩⟩
theorem off1_nil {D : Addr} : Off1 D [] ↔ True := Iff.rfl
theorem off3_cons {I C D : Addr} {p : Addr × Obj} {r : List (Addr × Obj)} : Off3 I C D (p :: r) ↔ NeA p.1 I ∧ NeA p.1 C ∧ NeA p.1 D ∧ Off3 I C D r :=
  ⟨fun h => ⟨⟨h.1.1⟩, ⟨h.1.2.1⟩, ⟨h.1.2.2⟩, h.2⟩, fun h => ⟨⟨h.1.out, h.2.1.out, h.2.2.1.out⟩, h.2.2.2⟩⟩
theorem off3_nil {I C D : Addr} : Off3 I C D [] ↔ True := Iff.rfl
end Mine
namespace Mine
section
variable {w : World} {A₀ : Around} {base h₀ : Heap} {outer : List Env} {s : Shared} {L : Addr} {m : Str → Option Value} {news pre rest : List (Addr × Obj)} {env : Env}
  {dp un d u : Nat} {gd : Option (List Code)} {fI C : Addr} {args : List Value} {post : Addr → Addr → List (Addr × Obj) → Prop} {Q E : Value → Shared → Prop}
  {p : Program} {loose : List Str} {mean : ExcName → Option Value} {mg mb : Str → Option Value}
/-- an object of a class of the text's is made -/
theorem con_make (hini : ∀ x dx, (∀ q ∈ news, q.1 < dx) → dx < x → Con w fI (.ref x :: args) d u ((x, instObj C dx) :: (dx, emptyDict) :: pre) (fun v led => v = .none ∧ post x dx led))
    (B : Below A₀ base outer h₀) (F : Fr h₀ L s.heap m) (N : News h₀ L s.heap news) (X : (Mine.hd.heap_39 w.params).In base) (T : Top p loose mean mg mb base) (D : KtsDicts (outer.filterMap (·.frame)) h₀)
    (hf : env.frame = some L) (hk : env.scope.kind = .function) (hm : makesIn (Mine.hd.heap_39 w.params) C = true)
    (hi : findIn (Mine.hd.heap_39 w.params) (.ref C) "__init__" = some (some (.ref fI))) (hft : typeIn (Mine.hd.heap_39 w.params) (.ref fI) = some (.type "function"))
    (hP : Picks pre news rest) (hd : dp + 1 + d < recursionLimit) (hu : un + 1 + u < cLine)
    (h : ∀ x dx h' tk' led, post x dx led → Fr h₀ L h' m → News h₀ L h' (led ++ rest) → (∀ q ∈ led, ∀ r ∈ rest, q.1 ≠ r.1) → Q (.ref x) { s with heap := h', toks := tk' }) :
    wpAny (model PySem.Challenge.rw_sq0039_01.row.prog w) (⟨none, dp, some (env :: outer), gd, un⟩ : Around) (call (.ref C) args) Q E s := by
  refine wpAny_call ?_
  refine make_K F N ((X.keeps B.stays).keeps F.keep) hm hi hft fun x dx h' F' N' hlt hx => ?_
  rw [under_call]
  have hp1 : ∀ q ∈ (x, instObj C dx) :: (dx, emptyDict) :: pre, q ∈ (x, instObj C dx) :: (dx, emptyDict) :: news := fun q hq => by
    rcases List.mem_cons.mp hq with rfl | hq
    · exact .head _
    rcases List.mem_cons.mp hq with rfl | hq
    · exact .tail _ (.head _)
    · exact .tail _ (.tail _ (hP.sub.1 q hq))
  obtain ⟨FG, st, A⟩ := amb_of (s := { s with heap := h' }) (dp := dp + 1) (un := un + 1) (gd := gd) (d := d) (u := u) B F' N' X T D hf hk hp1 hd hu
  refine hini x dx hlt hx (dp + 1) (un + 1) gd base _ (env :: outer) _ _ p loose mean mg mb A fun v h'' tk' led hpost hk hl => ?_
  obtain ⟨rfl, hpost⟩ := hpost
  refine ⟨rfl, ?_⟩
  have nn : ∀ b, (hideAll h' (((x, instObj C dx) :: (dx, emptyDict) :: pre).map (·.1))).get? b = none → h₀.get? b = none := fun b e => by
    cases q : h₀.get? b with
    | none => rfl
    | some o => rw [st _ _ q] at e; cases e
  have hr : ∀ q ∈ rest, q ∈ (x, instObj C dx) :: (dx, emptyDict) :: news ∧ ∀ r ∈ (x, instObj C dx) :: (dx, emptyDict) :: pre, q.1 ≠ r.1 := fun q hq => by
    obtain ⟨h1, h2⟩ := hP.sub.2 q hq
    have h3 := hlt q h1
    refine ⟨.tail _ (.tail _ h1), List.forall_mem_cons.mpr ⟨Nat.ne_of_lt (Nat.lt_trans h3 hx), List.forall_mem_cons.mpr ⟨Nat.ne_of_lt h3, h2⟩⟩⟩
  obtain ⟨hN, hne⟩ := led_rest (s := { s with heap := h' }) (g' := h₀) F' N' hp1 hr FG (fun q _ e => hk _ _ e) nn (fun q hq => (N' q (hr q hq).1).2.2) hl nn
  exact h x dx h'' tk' led hpost ⟨FG.ns.keeps hk, fun b o e => hk b o (st b o e), F'.above⟩ hN hne
end
/-- of three addresses at once -/
def ImpO (I C D : Nat) : List (Addr × Obj) → Prop → Prop
  | [], G => G
  | (a, _) :: r, G => NeA a I → NeA a C → NeA a D → ImpO I C D r G
theorem impO_app {I C D : Addr} {G : Prop} : ∀ {l : List (Addr × Obj)}, LCg.Off3 I C D l → ImpO I C D l G → G
  | [], _, k => k
  | (_, _) :: _, h, k => impO_app h.2 (k ⟨h.1.1⟩ ⟨h.1.2.1⟩ ⟨h.1.2.2⟩)
theorem impO_of {I C D : Addr} {G : Prop} : ∀ {l : List (Addr × Obj)}, (LCg.Off3 I C D l → G) → ImpO I C D l G
  | [], h => h trivial
  | (_, _) :: _, h => fun f g e => impO_of fun t => h ⟨⟨f.out, g.out, e.out⟩, t⟩
theorem off3_imp {I C D : Addr} {l : List (Addr × Obj)} {G : Prop} (h : LCg.Off3 I C D l) (k : ImpO I C D l (Box G)) : G := (impO_app h k).out
theorem off1_app {D : Addr} {G : Prop} : ∀ {l : List (Addr × Obj)}, LCg.Off1 D l → Imp D l G → G
  | [], _, k => k
  | (_, _) :: _, h, k => off1_app h.2 (k ⟨h.1⟩)
theorem off1_imp {D : Addr} {l : List (Addr × Obj)} {G : Prop} (h : LCg.Off1 D l) (k : Imp D l (Box G)) : G := (off1_app h k).out
end Mine
namespace Mine
theorem allNe_of {a : Addr} : ∀ {rest : List (Addr × Obj)}, (∀ r ∈ rest, a ≠ r.1) → AllNe a (rest.map (·.1))
  | [], _ => trivial
  | p :: r, h => ⟨⟨h p (.head _)⟩, allNe_of fun q hq => h q (.tail _ hq)⟩
theorem hne_head {q : Addr × Obj} {led rest : List (Addr × Obj)} (h : ∀ p ∈ q :: led, ∀ r ∈ rest, p.1 ≠ r.1) : AllNe q.1 (rest.map (·.1)) := allNe_of (h q (.head _))
theorem allNeR_of {d : Addr} : ∀ {l : List (Addr × Obj)}, (∀ p ∈ l, p.1 ≠ d) → AllNeR d l
  | [], _ => trivial
  | p :: _, h => ⟨⟨h p (.head _)⟩, allNeR_of fun q hq => h q (.tail _ hq)⟩
def AllNeL : List (Addr × Obj) → List (Addr × Obj) → Prop
  | [], _ => True
  | q :: l, rest => AllNeR q.1 rest ∧ AllNeL l rest
theorem allNeL : ∀ {led rest : List (Addr × Obj)}, (∀ p ∈ led, ∀ r ∈ rest, p.1 ≠ r.1) → AllNeL led rest
  | [], _, _ => trivial
  | q :: l, _, h => ⟨allNeR_of fun r hr e => h q (.head _) r hr e.symm, allNeL fun p hp => h p (.tail _ hp)⟩
def Offs : List Nat → List (Addr × Obj) → Prop
  | [], _ => True
  | d :: r, T => AllNeR d T ∧ Offs r T
def ImpL : List (Addr × Obj) → List (Addr × Obj) → Prop → Prop
  | [], _, G => G
  | (a, _) :: l, rest, G => Imp a rest (ImpL l rest G)
theorem impL_app {G : Prop} : ∀ {l rest : List (Addr × Obj)}, AllNeL l rest → ImpL l rest G → G
  | [], _, _, k => k
  | (_, _) :: _, _, h, k => impL_app h.2 (imp_app h.1 k)
theorem AllNeL.imp {l rest : List (Addr × Obj)} {G : Prop} (h : AllNeL l rest) (k : ImpL l rest (Box G)) : G := (impL_app h k).out
def ImpF : List Nat → List (Addr × Obj) → Prop → Prop
  | [], _, G => G
  | d :: r, T, G => AllNeR d T → ImpF r T G
theorem impF_app {T : List (Addr × Obj)} {G : Prop} : ∀ {l : List Nat}, Offs l T → ImpF l T G → G
  | [], _, k => k
  | _ :: _, h, k => impF_app h.2 (k h.1)
theorem Offs.imp {l : List Nat} {T : List (Addr × Obj)} {G : Prop} (h : Offs l T) (k : ImpF l T (Box G)) : G := (impF_app h k).out
/-- the other way about: for each of the rest, all of led differs -/
def AllNeS (led : List (Addr × Obj)) : List (Addr × Obj) → Prop
  | [] => True
  | r :: l => AllNeR r.1 led ∧ AllNeS led l
theorem allNeS {led : List (Addr × Obj)} : ∀ {rest : List (Addr × Obj)}, (∀ p ∈ led, ∀ r ∈ rest, p.1 ≠ r.1) → AllNeS led rest
  | [], _ => trivial
  | r :: l, h => ⟨allNeR_of fun q hq => h q hq r (.head _), allNeS fun p hp q hq => h p hp q (.tail _ hq)⟩
open PyProof.Rows.LCg in
theorem off3_tail {I C D : Addr} : ∀ {T : List (Addr × Obj)}, Off3 I C D T → AllNeR I T ∧ AllNeR C T ∧ AllNeR D T
  | [], _ => ⟨trivial, trivial, trivial⟩
  | p :: r, h => ⟨⟨⟨h.1.1⟩, (off3_tail h.2).1⟩, ⟨⟨h.1.2.1⟩, (off3_tail h.2).2.1⟩, ⟨⟨h.1.2.2⟩, (off3_tail h.2).2.2⟩⟩
open PyProof.Rows.LCg in
theorem off3_of {I C D : Addr} : ∀ {T : List (Addr × Obj)}, Offs [I, C, D] T → Off3 I C D T
  | [], _ => trivial
  | p :: r, h => ⟨⟨h.1.1.out, h.2.1.1.out, h.2.2.1.1.out⟩, off3_of ⟨h.1.2, h.2.1.2, h.2.2.1.2, trivial⟩⟩
open PyProof.Rows.LCg in
theorem off1_tail {D : Addr} : ∀ {T : List (Addr × Obj)}, Off1 D T → AllNeR D T
  | [], _ => trivial
  | p :: r, h => ⟨⟨h.1⟩, off1_tail h.2⟩
theorem AllNe.out {a : Addr} : ∀ {l : List (Addr × Obj)}, AllNe a (l.map (·.1)) → ∀ p ∈ l, p.1 ≠ a
  | [], _ => fun _ h => nomatch h
  | p :: r, h => List.forall_mem_cons.mpr ⟨h.1.symm, AllNe.out h.2⟩
section
variable {w : World} {dp un d u : Nat} {f C : Addr} {args : List Value} {pre pre' rest : List (Addr × Obj)} {post post' : Value → List (Addr × Obj) → Prop}

theorem amb_frame {gd : Option (List Code)} {base h₀ : Heap} {outer : List Env} {s : Shared} {p : Program} {loose : List Str} {mean : ExcName → Option Value} {mg mb : Str → Option Value}
    (A : Amb w dp un gd base h₀ outer s d u p loose mean mg mb pre') (hs : ∀ q ∈ pre, q ∈ pre') :
    Amb w dp un gd base (hideAll s.heap (pre.map (·.1))) outer s d u p loose mean mg mb pre ∧ h₀.StaysIn (hideAll s.heap (pre.map (·.1))) := by
  have st : h₀.StaysIn (hideAll s.heap (pre.map (·.1))) := fun b o e => hideAll_get _ (A.keep b o e) fun hm => by
    obtain ⟨r, hr1, hr2⟩ := List.mem_map.mp hm
    have := (A.led r (hs r hr1)).2
    rw [hr2, e] at this; cases this
  refine ⟨⟨⟨A.below.stack, fun b o e => st b o (A.below.stays b o e), A.below.frames.of_keeps fun b o e _ => ⟨o, st b o e, rfl⟩⟩, fun b o e => of_hideAll _ e, Nat.le_of_eq (hideAll_size _ _), fun q hq => ⟨(A.led q (hs q hq)).1, hideAll_none _ (List.mem_map_of_mem hq)⟩, A.K, A.T, A.depth, A.units, fun b hb => ?_⟩, st⟩
  obtain ⟨o, es, n, ho, hd⟩ := A.dicts b hb
  exact ⟨o, es, n, st _ _ ho, hd⟩

/-- a contract's footprint is made wider, and its post turned -/
theorem con_conv (C : Con w f args d u pre post) (hs : ∀ q ∈ pre, q ∈ pre') (hr : ∀ q ∈ rest, q ∈ pre' ∧ ∀ r ∈ pre, q.1 ≠ r.1)
    (hp : ∀ v led, post v led → (∀ q ∈ led, ∀ r ∈ rest, q.1 ≠ r.1) → ∃ led', post' v led' ∧ ∀ q ∈ led', q ∈ led ++ rest) : Con w f args d u pre' post' := by
  intro dp un gd base h₀ outer s R p loose mean mg mb A hR
  obtain ⟨A', st⟩ := amb_frame A hs
  refine C dp un gd base _ outer s R p loose mean mg mb A' fun v h' tk' led hpost hk hl => ?_
  have hrest : ∀ q ∈ rest, (hideAll s.heap (pre.map (·.1))).get? q.1 = some q.2 := fun q hq => hideAll_get _ (A.led q (hr q hq).1).1 fun hm => by
    obtain ⟨r, hr1, hr2⟩ := List.mem_map.mp hm
    exact (hr q hq).2 r hr1 hr2.symm
  obtain ⟨led', h1, h2⟩ := hp v led hpost fun q hq r hr' e => by
    have := (hl q hq).2
    rw [e, hrest r hr'] at this; cases this
  refine hR v h' tk' led' h1 (fun b o e => hk b o (st b o e)) fun q hq => ?_
  rcases List.mem_append.mp (h2 q hq) with h3 | h3
  · refine ⟨(hl q h3).1, ?_⟩
    cases e : h₀.get? q.1 with
    | none => rfl
    | some o => have := (hl q h3).2; rw [st _ _ e] at this; cases this
  · exact ⟨hk _ _ (hrest q h3), (A.led q (hr q h3).1).2⟩
end
section
variable {w : World} {A₀ : Around} {base h₀ : Heap} {outer : List Env} {s : Shared} {L : Addr} {m : Str → Option Value} {news pre rest : List (Addr × Obj)} {env : Env}
  {dp un d u : Nat} {gd : Option (List Code)} {f fI C : Addr} {args : List Value} {post : Value → List (Addr × Obj) → Prop} {Q E : Value → Shared → Prop}
  {p : Program} {loose : List Str} {mean : ExcName → Option Value} {mg mb : Str → Option Value}
theorem con_callS4 {T1 T2 T3 T4 : Type} {x : T1 → T2 → T3 → T4 → Value} {l : T1 → T2 → T3 → T4 → List (Addr × Obj)} {P : T1 → T2 → T3 → T4 → Prop} (C : Con w f args d u pre (fun v led => ∃ a1 a2 a3 a4, v = x a1 a2 a3 a4 ∧ led = l a1 a2 a3 a4 ∧ P a1 a2 a3 a4)) (B : Below A₀ base outer h₀) (F : Fr h₀ L s.heap m) (N : News h₀ L s.heap news) (X : (Mine.hd.heap_39 w.params).In base) (T : Top p loose mean mg mb base) (D : KtsDicts (outer.filterMap (·.frame)) h₀)
    (hf : env.frame = some L) (hk : env.scope.kind = .function) (hP : Picks pre news rest) (hd : dp + d < recursionLimit) (hu : un + u < cLine)
    (h : ∀ h' tk' a1 a2 a3 a4, P a1 a2 a3 a4 → Fr h₀ L h' m → News h₀ L h' (l a1 a2 a3 a4 ++ rest) → AllNeS (l a1 a2 a3 a4) rest → Q (x a1 a2 a3 a4) { s with heap := h', toks := tk' }) :
    wpAny (model PySem.Challenge.rw_sq0039_01.row.prog w) (⟨none, dp, some (env :: outer), gd, un⟩ : Around) (call (.ref f) args) Q E s :=
  con_call C B F N X T D hf hk hP hd hu (by rintro v h' tk' led ⟨a1, a2, a3, a4, rfl, rfl, hp⟩ F' N' hne; exact h h' tk' _ _ _ _ hp F' N' (allNeS hne))
theorem con_callX2 {T1 T2 : Type} {x : T1 → T2 → Value} {l : T1 → T2 → List (Addr × Obj)} {P : T1 → T2 → Prop} (C : Con w f args d u pre (fun v led => ∃ a1 a2, v = x a1 a2 ∧ led = l a1 a2 ∧ P a1 a2)) (B : Below A₀ base outer h₀) (F : Fr h₀ L s.heap m) (N : News h₀ L s.heap news) (X : (Mine.hd.heap_39 w.params).In base) (T : Top p loose mean mg mb base) (D : KtsDicts (outer.filterMap (·.frame)) h₀)
    (hf : env.frame = some L) (hk : env.scope.kind = .function) (hP : Picks pre news rest) (hd : dp + d < recursionLimit) (hu : un + u < cLine)
    (h : ∀ h' tk' a1 a2, P a1 a2 → Fr h₀ L h' m → News h₀ L h' (l a1 a2 ++ rest) → AllNeL (l a1 a2) rest → Q (x a1 a2) { s with heap := h', toks := tk' }) :
    wpAny (model PySem.Challenge.rw_sq0039_01.row.prog w) (⟨none, dp, some (env :: outer), gd, un⟩ : Around) (call (.ref f) args) Q E s :=
  con_call C B F N X T D hf hk hP hd hu (by rintro v h' tk' led ⟨a1, a2, rfl, rfl, hp⟩ F' N' hne; exact h h' tk' _ _ hp F' N' (allNeL hne))
theorem con_callX5 {T1 T2 T3 T4 T5 : Type} {x : T1 → T2 → T3 → T4 → T5 → Value} {l : T1 → T2 → T3 → T4 → T5 → List (Addr × Obj)} {P : T1 → T2 → T3 → T4 → T5 → Prop} (C : Con w f args d u pre (fun v led => ∃ a1 a2 a3 a4 a5, v = x a1 a2 a3 a4 a5 ∧ led = l a1 a2 a3 a4 a5 ∧ P a1 a2 a3 a4 a5)) (B : Below A₀ base outer h₀) (F : Fr h₀ L s.heap m) (N : News h₀ L s.heap news) (X : (Mine.hd.heap_39 w.params).In base) (T : Top p loose mean mg mb base) (D : KtsDicts (outer.filterMap (·.frame)) h₀)
    (hf : env.frame = some L) (hk : env.scope.kind = .function) (hP : Picks pre news rest) (hd : dp + d < recursionLimit) (hu : un + u < cLine)
    (h : ∀ h' tk' a1 a2 a3 a4 a5, P a1 a2 a3 a4 a5 → Fr h₀ L h' m → News h₀ L h' (l a1 a2 a3 a4 a5 ++ rest) → AllNeL (l a1 a2 a3 a4 a5) rest → Q (x a1 a2 a3 a4 a5) { s with heap := h', toks := tk' }) :
    wpAny (model PySem.Challenge.rw_sq0039_01.row.prog w) (⟨none, dp, some (env :: outer), gd, un⟩ : Around) (call (.ref f) args) Q E s :=
  con_call C B F N X T D hf hk hP hd hu (by rintro v h' tk' led ⟨a1, a2, a3, a4, a5, rfl, rfl, hp⟩ F' N' hne; exact h h' tk' _ _ _ _ _ hp F' N' (allNeL hne))
theorem con_callX6 {T1 T2 T3 T4 T5 T6 : Type} {x : T1 → T2 → T3 → T4 → T5 → T6 → Value} {l : T1 → T2 → T3 → T4 → T5 → T6 → List (Addr × Obj)} {P : T1 → T2 → T3 → T4 → T5 → T6 → Prop} (C : Con w f args d u pre (fun v led => ∃ a1 a2 a3 a4 a5 a6, v = x a1 a2 a3 a4 a5 a6 ∧ led = l a1 a2 a3 a4 a5 a6 ∧ P a1 a2 a3 a4 a5 a6)) (B : Below A₀ base outer h₀) (F : Fr h₀ L s.heap m) (N : News h₀ L s.heap news) (X : (Mine.hd.heap_39 w.params).In base) (T : Top p loose mean mg mb base) (D : KtsDicts (outer.filterMap (·.frame)) h₀)
    (hf : env.frame = some L) (hk : env.scope.kind = .function) (hP : Picks pre news rest) (hd : dp + d < recursionLimit) (hu : un + u < cLine)
    (h : ∀ h' tk' a1 a2 a3 a4 a5 a6, P a1 a2 a3 a4 a5 a6 → Fr h₀ L h' m → News h₀ L h' (l a1 a2 a3 a4 a5 a6 ++ rest) → AllNeL (l a1 a2 a3 a4 a5 a6) rest → Q (x a1 a2 a3 a4 a5 a6) { s with heap := h', toks := tk' }) :
    wpAny (model PySem.Challenge.rw_sq0039_01.row.prog w) (⟨none, dp, some (env :: outer), gd, un⟩ : Around) (call (.ref f) args) Q E s :=
  con_call C B F N X T D hf hk hP hd hu (by rintro v h' tk' led ⟨a1, a2, a3, a4, a5, a6, rfl, rfl, hp⟩ F' N' hne; exact h h' tk' _ _ _ _ _ _ hp F' N' (allNeL hne))
theorem con_callX7 {T1 T2 T3 T4 T5 T6 T7 : Type} {x : T1 → T2 → T3 → T4 → T5 → T6 → T7 → Value} {l : T1 → T2 → T3 → T4 → T5 → T6 → T7 → List (Addr × Obj)} {P : T1 → T2 → T3 → T4 → T5 → T6 → T7 → Prop} (C : Con w f args d u pre (fun v led => ∃ a1 a2 a3 a4 a5 a6 a7, v = x a1 a2 a3 a4 a5 a6 a7 ∧ led = l a1 a2 a3 a4 a5 a6 a7 ∧ P a1 a2 a3 a4 a5 a6 a7)) (B : Below A₀ base outer h₀) (F : Fr h₀ L s.heap m) (N : News h₀ L s.heap news) (X : (Mine.hd.heap_39 w.params).In base) (T : Top p loose mean mg mb base) (D : KtsDicts (outer.filterMap (·.frame)) h₀)
    (hf : env.frame = some L) (hk : env.scope.kind = .function) (hP : Picks pre news rest) (hd : dp + d < recursionLimit) (hu : un + u < cLine)
    (h : ∀ h' tk' a1 a2 a3 a4 a5 a6 a7, P a1 a2 a3 a4 a5 a6 a7 → Fr h₀ L h' m → News h₀ L h' (l a1 a2 a3 a4 a5 a6 a7 ++ rest) → AllNeL (l a1 a2 a3 a4 a5 a6 a7) rest → Q (x a1 a2 a3 a4 a5 a6 a7) { s with heap := h', toks := tk' }) :
    wpAny (model PySem.Challenge.rw_sq0039_01.row.prog w) (⟨none, dp, some (env :: outer), gd, un⟩ : Around) (call (.ref f) args) Q E s :=
  con_call C B F N X T D hf hk hP hd hu (by rintro v h' tk' led ⟨a1, a2, a3, a4, a5, a6, a7, rfl, rfl, hp⟩ F' N' hne; exact h h' tk' _ _ _ _ _ _ _ hp F' N' (allNeL hne))
theorem con_callX8 {T1 T2 T3 T4 T5 T6 T7 T8 : Type} {x : T1 → T2 → T3 → T4 → T5 → T6 → T7 → T8 → Value} {l : T1 → T2 → T3 → T4 → T5 → T6 → T7 → T8 → List (Addr × Obj)} {P : T1 → T2 → T3 → T4 → T5 → T6 → T7 → T8 → Prop} (C : Con w f args d u pre (fun v led => ∃ a1 a2 a3 a4 a5 a6 a7 a8, v = x a1 a2 a3 a4 a5 a6 a7 a8 ∧ led = l a1 a2 a3 a4 a5 a6 a7 a8 ∧ P a1 a2 a3 a4 a5 a6 a7 a8)) (B : Below A₀ base outer h₀) (F : Fr h₀ L s.heap m) (N : News h₀ L s.heap news) (X : (Mine.hd.heap_39 w.params).In base) (T : Top p loose mean mg mb base) (D : KtsDicts (outer.filterMap (·.frame)) h₀)
    (hf : env.frame = some L) (hk : env.scope.kind = .function) (hP : Picks pre news rest) (hd : dp + d < recursionLimit) (hu : un + u < cLine)
    (h : ∀ h' tk' a1 a2 a3 a4 a5 a6 a7 a8, P a1 a2 a3 a4 a5 a6 a7 a8 → Fr h₀ L h' m → News h₀ L h' (l a1 a2 a3 a4 a5 a6 a7 a8 ++ rest) → AllNeL (l a1 a2 a3 a4 a5 a6 a7 a8) rest → Q (x a1 a2 a3 a4 a5 a6 a7 a8) { s with heap := h', toks := tk' }) :
    wpAny (model PySem.Challenge.rw_sq0039_01.row.prog w) (⟨none, dp, some (env :: outer), gd, un⟩ : Around) (call (.ref f) args) Q E s :=
  con_call C B F N X T D hf hk hP hd hu (by rintro v h' tk' led ⟨a1, a2, a3, a4, a5, a6, a7, a8, rfl, rfl, hp⟩ F' N' hne; exact h h' tk' _ _ _ _ _ _ _ _ hp F' N' (allNeL hne))
theorem con_callX10 {T1 T2 T3 T4 T5 T6 T7 T8 T9 T10 : Type} {x : T1 → T2 → T3 → T4 → T5 → T6 → T7 → T8 → T9 → T10 → Value} {l : T1 → T2 → T3 → T4 → T5 → T6 → T7 → T8 → T9 → T10 → List (Addr × Obj)} {P : T1 → T2 → T3 → T4 → T5 → T6 → T7 → T8 → T9 → T10 → Prop} (C : Con w f args d u pre (fun v led => ∃ a1 a2 a3 a4 a5 a6 a7 a8 a9 a10, v = x a1 a2 a3 a4 a5 a6 a7 a8 a9 a10 ∧ led = l a1 a2 a3 a4 a5 a6 a7 a8 a9 a10 ∧ P a1 a2 a3 a4 a5 a6 a7 a8 a9 a10)) (B : Below A₀ base outer h₀) (F : Fr h₀ L s.heap m) (N : News h₀ L s.heap news) (X : (Mine.hd.heap_39 w.params).In base) (T : Top p loose mean mg mb base) (D : KtsDicts (outer.filterMap (·.frame)) h₀)
    (hf : env.frame = some L) (hk : env.scope.kind = .function) (hP : Picks pre news rest) (hd : dp + d < recursionLimit) (hu : un + u < cLine)
    (h : ∀ h' tk' a1 a2 a3 a4 a5 a6 a7 a8 a9 a10, P a1 a2 a3 a4 a5 a6 a7 a8 a9 a10 → Fr h₀ L h' m → News h₀ L h' (l a1 a2 a3 a4 a5 a6 a7 a8 a9 a10 ++ rest) → AllNeL (l a1 a2 a3 a4 a5 a6 a7 a8 a9 a10) rest → Q (x a1 a2 a3 a4 a5 a6 a7 a8 a9 a10) { s with heap := h', toks := tk' }) :
    wpAny (model PySem.Challenge.rw_sq0039_01.row.prog w) (⟨none, dp, some (env :: outer), gd, un⟩ : Around) (call (.ref f) args) Q E s :=
  con_call C B F N X T D hf hk hP hd hu (by rintro v h' tk' led ⟨a1, a2, a3, a4, a5, a6, a7, a8, a9, a10, rfl, rfl, hp⟩ F' N' hne; exact h h' tk' _ _ _ _ _ _ _ _ _ _ hp F' N' (allNeL hne))
theorem con_makeX0 {α : Type} {l : Addr → Addr → α → List (Addr × Obj)} (hini : ∀ x dx, (∀ q ∈ news, q.1 < dx) → dx < x → Con w fI (.ref x :: args) d u ((x, instObj C dx) :: (dx, emptyDict) :: pre) (fun v led => v = .none ∧ ∃ a, led = l x dx a)) (B : Below A₀ base outer h₀) (F : Fr h₀ L s.heap m) (N : News h₀ L s.heap news) (X : (Mine.hd.heap_39 w.params).In base) (T : Top p loose mean mg mb base) (D : KtsDicts (outer.filterMap (·.frame)) h₀)
    (hf : env.frame = some L) (hk : env.scope.kind = .function) (hm : makesIn (Mine.hd.heap_39 w.params) C = true)
    (hi : findIn (Mine.hd.heap_39 w.params) (.ref C) "__init__" = some (some (.ref fI))) (hft : typeIn (Mine.hd.heap_39 w.params) (.ref fI) = some (.type "function"))
    (hP : Picks pre news rest) (hd : dp + 1 + d < recursionLimit) (hu : un + 1 + u < cLine)
    (h : ∀ x dx h' tk' a, Fr h₀ L h' m → News h₀ L h' (l x dx a ++ rest) → AllNeL (l x dx a) rest → Q (.ref x) { s with heap := h', toks := tk' }) :
    wpAny (model PySem.Challenge.rw_sq0039_01.row.prog w) (⟨none, dp, some (env :: outer), gd, un⟩ : Around) (call (.ref C) args) Q E s :=
  con_make (post := fun x dx led => ∃ a, led = l x dx a) hini B F N X T D hf hk hm hi hft hP hd hu (by rintro x dx h' tk' led ⟨a, rfl⟩ F' N' hne; exact h x dx h' tk' a F' N' (allNeL hne))
theorem con_makeX4 {T1 T2 T3 T4 : Type} {l : Addr → Addr → T1 → T2 → T3 → T4 → List (Addr × Obj)} {P : Addr → Addr → T1 → T2 → T3 → T4 → Prop} (hini : ∀ x dx, (∀ q ∈ news, q.1 < dx) → dx < x → Con w fI (.ref x :: args) d u ((x, instObj C dx) :: (dx, emptyDict) :: pre) (fun v led => v = .none ∧ ∃ a1 a2 a3 a4, led = l x dx a1 a2 a3 a4 ∧ P x dx a1 a2 a3 a4)) (B : Below A₀ base outer h₀) (F : Fr h₀ L s.heap m) (N : News h₀ L s.heap news) (X : (Mine.hd.heap_39 w.params).In base) (T : Top p loose mean mg mb base) (D : KtsDicts (outer.filterMap (·.frame)) h₀)
    (hf : env.frame = some L) (hk : env.scope.kind = .function) (hm : makesIn (Mine.hd.heap_39 w.params) C = true)
    (hi : findIn (Mine.hd.heap_39 w.params) (.ref C) "__init__" = some (some (.ref fI))) (hft : typeIn (Mine.hd.heap_39 w.params) (.ref fI) = some (.type "function"))
    (hP : Picks pre news rest) (hd : dp + 1 + d < recursionLimit) (hu : un + 1 + u < cLine)
    (h : ∀ x dx h' tk' a1 a2 a3 a4, P x dx a1 a2 a3 a4 → Fr h₀ L h' m → News h₀ L h' (l x dx a1 a2 a3 a4 ++ rest) → AllNeL (l x dx a1 a2 a3 a4) rest → Q (.ref x) { s with heap := h', toks := tk' }) :
    wpAny (model PySem.Challenge.rw_sq0039_01.row.prog w) (⟨none, dp, some (env :: outer), gd, un⟩ : Around) (call (.ref C) args) Q E s :=
  con_make (post := fun x dx led => ∃ a1 a2 a3 a4, led = l x dx a1 a2 a3 a4 ∧ P x dx a1 a2 a3 a4) hini B F N X T D hf hk hm hi hft hP hd hu (by rintro x dx h' tk' led ⟨a1, a2, a3, a4, rfl, hp⟩ F' N' hne; exact h x dx h' tk' _ _ _ _ hp F' N' (allNeL hne))
theorem con_makeX7 {T1 T2 T3 T4 T5 T6 T7 : Type} {l : Addr → Addr → T1 → T2 → T3 → T4 → T5 → T6 → T7 → List (Addr × Obj)} {P : Addr → Addr → T1 → T2 → T3 → T4 → T5 → T6 → T7 → Prop} (hini : ∀ x dx, (∀ q ∈ news, q.1 < dx) → dx < x → Con w fI (.ref x :: args) d u ((x, instObj C dx) :: (dx, emptyDict) :: pre) (fun v led => v = .none ∧ ∃ a1 a2 a3 a4 a5 a6 a7, led = l x dx a1 a2 a3 a4 a5 a6 a7 ∧ P x dx a1 a2 a3 a4 a5 a6 a7)) (B : Below A₀ base outer h₀) (F : Fr h₀ L s.heap m) (N : News h₀ L s.heap news) (X : (Mine.hd.heap_39 w.params).In base) (T : Top p loose mean mg mb base) (D : KtsDicts (outer.filterMap (·.frame)) h₀)
    (hf : env.frame = some L) (hk : env.scope.kind = .function) (hm : makesIn (Mine.hd.heap_39 w.params) C = true)
    (hi : findIn (Mine.hd.heap_39 w.params) (.ref C) "__init__" = some (some (.ref fI))) (hft : typeIn (Mine.hd.heap_39 w.params) (.ref fI) = some (.type "function"))
    (hP : Picks pre news rest) (hd : dp + 1 + d < recursionLimit) (hu : un + 1 + u < cLine)
    (h : ∀ x dx h' tk' a1 a2 a3 a4 a5 a6 a7, P x dx a1 a2 a3 a4 a5 a6 a7 → Fr h₀ L h' m → News h₀ L h' (l x dx a1 a2 a3 a4 a5 a6 a7 ++ rest) → AllNeL (l x dx a1 a2 a3 a4 a5 a6 a7) rest → Q (.ref x) { s with heap := h', toks := tk' }) :
    wpAny (model PySem.Challenge.rw_sq0039_01.row.prog w) (⟨none, dp, some (env :: outer), gd, un⟩ : Around) (call (.ref C) args) Q E s :=
  con_make (post := fun x dx led => ∃ a1 a2 a3 a4 a5 a6 a7, led = l x dx a1 a2 a3 a4 a5 a6 a7 ∧ P x dx a1 a2 a3 a4 a5 a6 a7) hini B F N X T D hf hk hm hi hft hP hd hu (by rintro x dx h' tk' led ⟨a1, a2, a3, a4, a5, a6, a7, rfl, hp⟩ F' N' hne; exact h x dx h' tk' _ _ _ _ _ _ _ hp F' N' (allNeL hne))
end
end Mine
namespace Mine
open PyProof.V PySem.Spec
theorem intsAre_zip : ∀ {vs : List Value} {ks : List Int}, vs.length = ks.length → (∀ (j : Nat) (v : Value), vs[j]? = some v → ∃ k t, ks[j]? = some k ∧ v = .int k t) → IntsAre vs ks
  | [], [], _, _ => .nil
  | [], _ :: _, h, _ => by simp at h
  | _ :: _, [], h, _ => by simp at h
  | v :: vs, k :: ks, h, hh => by
    obtain ⟨k', t, e1, e2⟩ := hh 0 v rfl
    have e3 : k = k' := by simpa using e1
    subst e2 e3
    exact .cons k t (intsAre_zip (by simpa using h) fun j u hu => hh (j + 1) u (by simpa using hu))
theorem intKind_val {prog : Program} {w : World} {k : Int} {v : Value} (h : (intKind prog w).is k v = true) : ∃ t, v = .int k t := by
  have h2 : Value.isInt k v = true := h
  unfold Value.isInt at h2
  cases v <;> simp at h2 ⊢ <;> exact h2
theorem sorted_dict {prog : Program} {w : World} {A : Around} {E : Value → Shared → Prop} {s : Shared} {h₀ : Heap} {L d : Addr} {m : Str → Option Value} {news : List (Addr × Obj)} {o : Obj} {kvs : List (Int × Value)} {Q : Value → Shared → Prop}
    (hh : A.handled = none) (F : Fr h₀ L s.heap m) (N : News h₀ L s.heap news) (hm : (d, o) ∈ news) (hd : o.IsDictOf (intKind prog w) kvs) (lo : (d == sysModules) = false) (hn : kvs.length < 64)
    (h : ∀ (D : Addr) (h' : Heap) (tk c : Nat) (vs : List Value) (ns : List Int), Fr h₀ L h' m → News h₀ L h' ((D, W.listOf vs.toArray c) :: news) → (∀ q ∈ news, q.1 < D) → IntsAre vs ns → ns.Perm (kvs.map (·.1)) → ns.Pairwise (· ≤ ·) → Q (.ref D) { s with heap := h', toks := tk }) :
    wpAny (model prog w) A (call (.builtin "sorted") [.ref d]) Q E s := by
  obtain ⟨ep, hat⟩ := (kda_dict N hm hd).dictAt
  refine kdu_sorted (kdl_dict (knd := intKind prog w) (kvs := kvs) (ep := ep) lo) hh F N hat (kdl_size (by omega)) fun B h' tk vs F' N' l1 hl hv => ?_
  have hi : IntsAre vs (kvs.map (·.1)) := intsAre_zip (by simp [hl]) fun j v e => by
    obtain ⟨k, x, h1, h2⟩ := hv j v e
    obtain ⟨t, rfl⟩ := intKind_val h2
    exact ⟨k, t, by simp [h1], rfl⟩
  exact ksk_lsort (news' := fun o => (B, o) :: news) F' N' (fun o => Upd.head fun q hq => Nat.ne_of_lt (l1 q hq)) rfl hi (by simpa using hn) fun vs' ns' c h2 F2 N2 hi' _ hp ho _ => h B h2 tk c vs' ns' F2 N2 l1 hi' hp ho
end Mine
namespace Mine
open PySem.Spec PySem.Calls PyProof.Rows.LCg PyProof.Rows.LCt
section
variable {prog : Program} {w : World} {A : Around} {E : Value → Shared → Prop} {s : Shared} {h₀ : Heap} {L : Addr} {m : Str → Option Value} {env : Env} {elt ct : Expr} {x : Str} {scope : Scope} {cl : List (Str × Addr)} {S : List (Addr × Obj) → Prop} {P : Nat → Value → Prop} {n : Nat} {Fin : List Value → List (Addr × Obj) → Prop} {news : List (Addr × Obj)}
theorem lst_listOf (ys : List Value) : LCg.lst ys = W.listOf ys.toArray ys.length := rfl
/-- a comprehension's turns by an invariant -/
theorem comp_rest (J : Nat → List Value → List (Addr × Obj) → Prop) (h0 : J 0 [] news)
    (turn : ∀ i v ys nw I oI C oC D m₂ h tk (E' : Value → Shared → Prop), i < n → P i v → J i ys nw → NsObj oC m₂ → m₂ x = some v → Fr h₀ L h m → News h₀ L h ((I, oI) :: (C, oC) :: (D, lst ys) :: nw) → Off3 I C D nw → ((@Ne Nat I C) ∧ (@Ne Nat I D) ∧ (@Ne Nat C D)) →
      wpAny (model prog w) A (eval elt (compEnvC scope cl C env)) (CompEnd h₀ L m { s with heap := h, toks := tk } I oI C oC D (lst ys) S (fun y nw' => J (i + 1) (ys ++ [y]) nw')) E' { s with heap := h, toks := tk })
    (fin : ∀ ys nw, J n ys nw → Fin ys nw) : CompRest prog w A h₀ L m env elt x scope cl s S P Fin n 0 [] news := by
  have key : ∀ k i ys nw, i + k = n → J i ys nw → CompRest prog w A h₀ L m env elt x scope cl s S P Fin k i ys nw := by
    intro k
    induction k with
    | zero =>
      intro i ys nw hi hJ
      obtain rfl : i = n := by omega
      exact CompRest.zero (fin _ _ hJ)
    | succ k ih =>
      intro i ys nw hi hJ
      refine CompRest.succ fun v I oI C oC D m₂ h tk E' hP hC hx F N off ne => ?_
      refine wpAny_mono (turn i v ys nw I oI C oC D m₂ h tk E' (by omega) hP hJ hC hx F N off ne) (fun y s₂ hq => ?_) fun _ _ e => e
      obtain ⟨h', tk', nw', e, F', N', off', hS, hj⟩ := hq
      exact ⟨h', tk', nw', e, F', N', off', hS, ih (i + 1) _ _ (by omega) hj⟩
  exact key n 0 [] news (by omega) h0
theorem comp_restT (J : Nat → List Value → List (Addr × Obj) → Prop) (h0 : J 0 [] news)
    (turn : ∀ i v ys nw I oI C oC D m₂ h tk (E' : Value → Shared → Prop), i < n → P i v → J i ys nw → NsObj oC m₂ → m₂ x = some v → Fr h₀ L h m → News h₀ L h ((I, oI) :: (C, oC) :: (D, lst ys) :: nw) → Off3 I C D nw → ((@Ne Nat I C) ∧ (@Ne Nat I D) ∧ (@Ne Nat C D)) →
      wpAny (model prog w) A (isTrue ct (compEnvC scope cl C env) (eval ct (compEnvC scope cl C env))) (fun ok s' => if ok = true then
        wpAny (model prog w) A (eval elt (compEnvC scope cl C env)) (CompEnd h₀ L m { s with heap := h, toks := tk } I oI C oC D (lst ys) S (fun y nw' => J (i + 1) (ys ++ [y]) nw')) E' s'
        else CompEnd h₀ L m { s with heap := h, toks := tk } I oI C oC D (lst ys) S (fun _ nw' => J (i + 1) ys nw') Value.none s') E' { s with heap := h, toks := tk })
    (fin : ∀ ys nw, J n ys nw → Fin ys nw) : CompRestT prog w A h₀ L m env ct elt x scope cl s S P Fin n 0 [] news := by
  have key : ∀ k i ys nw, i + k = n → J i ys nw → CompRestT prog w A h₀ L m env ct elt x scope cl s S P Fin k i ys nw := by
    intro k
    induction k with
    | zero =>
      intro i ys nw hi hJ
      obtain rfl : i = n := by omega
      exact CompRestT.zero (fin _ _ hJ)
    | succ k ih =>
      intro i ys nw hi hJ
      refine CompRestT.succ fun v I oI C oC D m₂ h tk E' hP hC hx F N off ne => ?_
      refine wpAny_mono (turn i v ys nw I oI C oC D m₂ h tk E' (by omega) hP hJ hC hx F N off ne) (fun ok s₂ hq => ?_) fun _ _ e => e
      cases ok with
      | true =>
        simp only [if_true] at hq ⊢
        refine wpAny_mono hq (fun y s₃ hq => ?_) fun _ _ e => e
        obtain ⟨h', tk', nw', e, F', N', off', hS, hj⟩ := hq
        exact ⟨h', tk', nw', e, F', N', off', hS, ih (i + 1) _ _ (by omega) hj⟩
      | false =>
        simp only [Bool.false_eq_true, if_false] at hq ⊢
        obtain ⟨h', tk', nw', e, F', N', off', hS, hj⟩ := hq
        exact ⟨h', tk', nw', e, F', N', off', hS, ih (i + 1) _ _ (by omega) hj⟩
  exact key n 0 [] news (by omega) h0

/-- a comprehension over a text -/
def CompSrcS (prog : Program) (w : World) (A : Around) (h₀ : Heap) (L : Addr) (m : Str → Option Value) (env : Env) (elt : Expr) (x : Str) (scope : Scope) (cl : List (Str × Addr)) (Fin : Shared → List Value → List (Addr × Obj) → Prop) (xv : Value) (s₁ : Shared) : Prop :=
  ∃ y t news, xv = .str y t ∧ A.handled = none ∧ Fr h₀ L s₁.heap m ∧ News h₀ L s₁.heap news ∧ y.cps.size ≤ sizeLine ∧
    ∀ g, CompRest prog w A h₀ L m env elt x scope cl { s₁ with heap := g } (fun _ => True) (SignAt y) (Fin { s₁ with heap := g }) y.cps.size 0 [] news

theorem str_src {iter : Expr} {px : Pos} {pos : Pos} {s₁ : Shared} {Fin : Shared → List Value → List (Addr × Obj) → Prop} {RR : Value → Addr → Result → Shared → Prop} {xv : Value}
    (hcell : ∀ y ∈ scope.names, y.2 ≠ .cell) (hkind : scope.kind = .function) (hx : scope.names.lookup x = some .local)
    (h : CompSrcS prog w A h₀ L m env elt x scope cl Fin xv s₁)
    (hRR : ∀ D C h tk m' ys news' g, Fr h₀ L h m → News h₀ L h ((D, lst ys) :: news') → Off1 D news' → h.Ns C m' → h₀.get? C = none → h₀.get? D = none → C ≠ L → D ≠ L → C ≠ D → (∀ p ∈ news', p.1 ≠ C) → Fin { s₁ with heap := g } ys news' → RR (.ref D) C (.ok .next) { s₁ with heap := h, toks := tk }) :
    wpAny (model prog w) A (pyIter xv) (fun it s₂ => wpAny (model prog w) A (newList []) (fun acc s₃ => wpAny (model prog w) A (newFunctionEnv scope env.globals cl [] env.qual none .none (some env)) (fun cenv s₄ =>
      codeAny (model prog w) A (.compStart (.ListComp elt [⟨.Name x px, iter, [], 0⟩] scope pos) 0 it acc { cenv with scope := relabel scope env }) (RR acc cenv.locals) s₄) E s₃) E s₂) E s₁ := by
  obtain ⟨y, t, news, rfl, hh, F, N, hsz, R⟩ := h
  have st : ∀ (T : String) (I : Addr) i (h h' : Heap) (o : Obj) (nw : List (Addr × Obj)), h.IsStrIter I T y t i → h.get? I = some o → h'.get? I = some o → (∀ b o, h₀.get? b = some o → h'.get? b = some o) → News h₀ L h' nw → True → h'.IsStrIter I T y t i :=
    fun T I i h h' o nw st e e' _ _ _ => by obtain ⟨o', q, r⟩ := st; rw [e] at q; cases q; exact ⟨o, e', r⟩
  cases ha : y.cps.all (· < 128)
  · refine wpAny_pyIter_wide ha ?_
    refine block_U (Walks.strWide hh s₁.heap.objs.size y t) hsz (fun i h ⟨o, e, _⟩ => ⟨o, e⟩) (st _ _) hcell hkind hx ⟨_, Heap.get?_push_size _ rfl, rfl, rfl⟩ (fun b hb => ?_)
      (F.keeps fun _ _ e => Heap.get?_push_of_some _ e) (N.grown fun _ _ e => Heap.get?_push_of_some _ e) (Nat.ne_of_lt F.ns.lt) (next_is_new F) (fun p hp => Nat.ne_of_lt (Heap.lt_size (N p hp).1)) trivial (R _) ?_
    · rw [List.mem_singleton.mp hb]
      show s₁.heap.objs.size < (s₁.heap.push _).objs.size
      rw [Heap.size_push]; exact Nat.lt_succ_self _
    · exact fun D C h tk m' ys news' => hRR D C h tk m' ys news' _
  · refine wpAny_pyIter_ascii ha ?_
    refine block_U (Walks.strAscii hh s₁.heap.objs.size y t) hsz (fun i h ⟨o, e, _⟩ => ⟨o, e⟩) (st _ _) hcell hkind hx ⟨_, Heap.get?_push_size _ rfl, rfl, rfl⟩ (fun b hb => ?_)
      (F.keeps fun _ _ e => Heap.get?_push_of_some _ e) (N.grown fun _ _ e => Heap.get?_push_of_some _ e) (Nat.ne_of_lt F.ns.lt) (next_is_new F) (fun p hp => Nat.ne_of_lt (Heap.lt_size (N p hp).1)) trivial (R _) ?_
    · rw [List.mem_singleton.mp hb]
      show s₁.heap.objs.size < (s₁.heap.push _).objs.size
      rw [Heap.size_push]; exact Nat.lt_succ_self _
    · exact fun D C h tk m' ys news' => hRR D C h tk m' ys news' _

theorem ListComp_S {iter : Expr} {px : Pos} {pos : Pos} {Q : Value → Shared → Prop} (F₀ : Fr h₀ L s.heap m)
    (hclos : closureFor scope env = pure cl) (hcell : ∀ y ∈ scope.names, y.2 ≠ .cell) (hkind : scope.kind = .function)
    (hnames : ∀ y ∈ scope.names, y.2 = .local → scope.names.lookup y.1 = some .local) (hx : scope.names.lookup x = some .local)
    (h : wpAny (model prog w) A (eval iter env) (CompSrcS prog w A h₀ L m env elt x scope cl (fun s₂ => FinE h₀ L m s₂ Q)) E s)
    (hs : ∀ x, foldedSetIterable iter env x = pure x := by intro _; rfl) :
    wpAny (model prog w) A (eval (.ListComp elt [⟨.Name x px, iter, [], 0⟩] scope pos) env) Q E s := by
  rw [eval_ListComp]
  refine wpAny_comprehension_free (use := none) rfl hs hclos hkind hnames (wpAny_mono h (fun xv s₁ h₁ => ?_) fun _ _ e => e)
  refine str_src hcell hkind hx h₁ fun D C h tk m' ys news' g F' N' o1 hn hC₀ hD₀ hCL hDL hCD offC fin => ?_
  refine ⟨m', hn, fun h'' hs'' => fin D h'' tk (F'.change hs'' hCL hC₀) (fun p hp => ?_) o1⟩
  refine ⟨hs''.extBut _ _ ?_ (N' p hp).1, (N' p hp).2⟩
  rcases List.mem_cons.mp hp with rfl | hp
  · exact Ne.symm hCD
  · exact offC p hp

theorem Assign_ListComp_S {iter : Expr} {y : Str} {px py : Pos} {pos spos : Pos} {Q : Flow → Shared → Prop} (F₀ : Fr h₀ L s.heap m) (hLe : env.locals = L)
    (hsw : swapsWith (.ListComp elt [⟨.Name x px, iter, [], 0⟩] scope pos) (some (.Name y py)) spos.line env = pure true)
    (hclos : closureFor scope env = pure cl) (hcell : ∀ z ∈ scope.names, z.2 ≠ .cell) (hkind : scope.kind = .function)
    (hnames : ∀ z ∈ scope.names, z.2 = .local → scope.names.lookup z.1 = some .local) (hx : scope.names.lookup x = some .local)
    (hy : env.kindOf y = some .local) (hp : (env.scope.kind == .class || (env.scope.kind == .module && env.locals != env.globals)) = false)
    (h : wpAny (model prog w) A (eval iter env) (CompSrcS prog w A h₀ L m env elt x scope cl (fun s₂ => FinA h₀ L m s₂ y Q)) E s)
    (hs : ∀ x, foldedSetIterable iter env x = pure x := by intro _; rfl) :
    wpAny (model prog w) A (exec (.Assign [.Name y py] (.ListComp elt [⟨.Name x px, iter, [], 0⟩] scope pos) spos) env) Q E s := by
  subst hLe
  rw [exec_Assign_Name_used _ _ _ _ hsw]
  refine wpAny_bind (wpAny_standAt (wpAny_bind ?_))
  show wpAny _ A (do let _ ← comprehension (.ListComp elt [⟨.Name x px, iter, [], 0⟩] scope pos) scope env _ (newList []) false (eval iter env) (some (assign (.Name y py) env))) _ _ s
  refine wpAny_bind (wpAny_mono (wpAny_comprehension_free (use := some (assign (.Name y py) env)) (Q := fun _ s' => Q .next s') rfl hs hclos hkind hnames
    (wpAny_mono h (fun xv s₁ h₁ => ?_) fun _ _ e => e)) (fun _ s' hq => wpAny_pure (wpAny_pure hq)) fun _ _ e => e)
  refine str_src hcell hkind hx h₁ fun D C h tk m' ys news' g F' N' o1 hn hC₀ hD₀ hCL hDL hCD offC fin => ?_
  show wpAny _ A (assign (.Name y py) env (.ref D)) _ _ _
  refine wpAny_assign_Name (wpAny_storeName_local hy F'.ns (fun h₂ hn₂ hs₂ => ?_) hp)
  have hL₀ : h₀.get? env.locals = none := Heap.get?_none_of_le F'.above
  have F₂ : Fr h₀ env.locals h₂ (fun z => if z = y then some (.ref D) else m z) := ⟨hn₂, fun b o e => hs₂.extBut b o (fun q => by rw [q, hL₀] at e; cases e) (F'.keep b o e), F'.above⟩
  refine ⟨m', hn.sameBut hs₂ hCL, fun h'' hs'' => fin D h'' _ (F₂.change hs'' hCL hC₀) (fun p hp => ?_) o1⟩
  have z : h₂.get? p.1 = some p.2 := hs₂.extBut _ _ (N' p hp).2.1 (N' p hp).1
  refine ⟨hs''.extBut _ _ ?_ z, (N' p hp).2⟩
  rcases List.mem_cons.mp hp with rfl | hp
  · exact Ne.symm hCD
  · exact offC p hp
/-- as comp_rest, where the ledger stays what it is -/
theorem comp_restK (J : Nat → List Value → Prop) (h0 : J 0 [])
    (turn : ∀ i v ys I oI C oC D m₂ h tk (E' : Value → Shared → Prop), i < n → P i v → J i ys → NsObj oC m₂ → m₂ x = some v → Fr h₀ L h m → News h₀ L h ((I, oI) :: (C, oC) :: (D, lst ys) :: news) → Off3 I C D news → ((@Ne Nat I C) ∧ (@Ne Nat I D) ∧ (@Ne Nat C D)) →
      wpAny (model prog w) A (eval elt (compEnvC scope cl C env)) (CompEnd h₀ L m { s with heap := h, toks := tk } I oI C oC D (lst ys) S (fun y nw' => nw' = news ∧ J (i + 1) (ys ++ [y]))) E' { s with heap := h, toks := tk })
    (fin : ∀ ys, J n ys → Fin ys news) : CompRest prog w A h₀ L m env elt x scope cl s S P Fin n 0 [] news :=
  comp_rest (fun i ys nw => nw = news ∧ J i ys) ⟨rfl, h0⟩ (fun i v ys nw I oI C oC D m₂ h tk E' hi hP hJ hC hx F N off ne => by
    obtain ⟨rfl, hJ⟩ := hJ
    exact turn i v ys I oI C oC D m₂ h tk E' hi hP hJ hC hx F N off ne) fun ys nw hJ => by
    obtain ⟨rfl, hJ⟩ := hJ
    exact fin ys hJ
theorem comp_restKX {α β : Type} {xv : Nat → α → β → Value} {Rx : Nat → α → β → Prop} (hX : ∀ i v, P i v → ∃ a b, v = xv i a b ∧ Rx i a b) (J : Nat → List Value → Prop) (h0 : J 0 [])
    (turn : ∀ i a b ys I oI C oC D m₂ h tk (E' : Value → Shared → Prop), i < n → Rx i a b → J i ys → NsObj oC m₂ → m₂ x = some (xv i a b) → Fr h₀ L h m → News h₀ L h ((I, oI) :: (C, oC) :: (D, lst ys) :: news) → Off3 I C D news → ((@Ne Nat I C) ∧ (@Ne Nat I D) ∧ (@Ne Nat C D)) →
      wpAny (model prog w) A (eval elt (compEnvC scope cl C env)) (CompEnd h₀ L m { s with heap := h, toks := tk } I oI C oC D (lst ys) S (fun y nw' => nw' = news ∧ J (i + 1) (ys ++ [y]))) E' { s with heap := h, toks := tk })
    (fin : ∀ ys, J n ys → Fin ys news) : CompRest prog w A h₀ L m env elt x scope cl s S P Fin n 0 [] news :=
  comp_restK J h0 (fun i v ys I oI C oC D m₂ h tk E' hi hP hJ hC hx F N off ne => by
    obtain ⟨a, b, rfl, hR⟩ := hX i v hP
    exact turn i a b ys I oI C oC D m₂ h tk E' hi hR hJ hC hx F N off ne) fin
theorem comp_restTK (J : Nat → List Value → Prop) (h0 : J 0 [])
    (turn : ∀ i v ys I oI C oC D m₂ h tk (E' : Value → Shared → Prop), i < n → P i v → J i ys → NsObj oC m₂ → m₂ x = some v → Fr h₀ L h m → News h₀ L h ((I, oI) :: (C, oC) :: (D, lst ys) :: news) → Off3 I C D news → ((@Ne Nat I C) ∧ (@Ne Nat I D) ∧ (@Ne Nat C D)) →
      wpAny (model prog w) A (isTrue ct (compEnvC scope cl C env) (eval ct (compEnvC scope cl C env))) (fun ok s' => if ok = true then
        wpAny (model prog w) A (eval elt (compEnvC scope cl C env)) (CompEnd h₀ L m { s with heap := h, toks := tk } I oI C oC D (lst ys) S (fun y nw' => nw' = news ∧ J (i + 1) (ys ++ [y]))) E' s'
        else CompEnd h₀ L m { s with heap := h, toks := tk } I oI C oC D (lst ys) S (fun _ nw' => nw' = news ∧ J (i + 1) ys) Value.none s') E' { s with heap := h, toks := tk })
    (fin : ∀ ys, J n ys → Fin ys news) : CompRestT prog w A h₀ L m env ct elt x scope cl s S P Fin n 0 [] news :=
  comp_restT (fun i ys nw => nw = news ∧ J i ys) ⟨rfl, h0⟩ (fun i v ys nw I oI C oC D m₂ h tk E' hi hP hJ hC hx F N off ne => by
    obtain ⟨rfl, hJ⟩ := hJ
    exact turn i v ys I oI C oC D m₂ h tk E' hi hP hJ hC hx F N off ne) fun ys nw hJ => by
    obtain ⟨rfl, hJ⟩ := hJ
    exact fin ys hJ
theorem comp_restTKX {α β : Type} {xv : Nat → α → β → Value} {Rx : Nat → α → β → Prop} (hX : ∀ i v, P i v → ∃ a b, v = xv i a b ∧ Rx i a b) (J : Nat → List Value → Prop) (h0 : J 0 [])
    (turn : ∀ i a b ys I oI C oC D m₂ h tk (E' : Value → Shared → Prop), i < n → Rx i a b → J i ys → NsObj oC m₂ → m₂ x = some (xv i a b) → Fr h₀ L h m → News h₀ L h ((I, oI) :: (C, oC) :: (D, lst ys) :: news) → Off3 I C D news → ((@Ne Nat I C) ∧ (@Ne Nat I D) ∧ (@Ne Nat C D)) →
      wpAny (model prog w) A (isTrue ct (compEnvC scope cl C env) (eval ct (compEnvC scope cl C env))) (fun ok s' => if ok = true then
        wpAny (model prog w) A (eval elt (compEnvC scope cl C env)) (CompEnd h₀ L m { s with heap := h, toks := tk } I oI C oC D (lst ys) S (fun y nw' => nw' = news ∧ J (i + 1) (ys ++ [y]))) E' s'
        else CompEnd h₀ L m { s with heap := h, toks := tk } I oI C oC D (lst ys) S (fun _ nw' => nw' = news ∧ J (i + 1) ys) Value.none s') E' { s with heap := h, toks := tk })
    (fin : ∀ ys, J n ys → Fin ys news) : CompRestT prog w A h₀ L m env ct elt x scope cl s S P Fin n 0 [] news :=
  comp_restTK J h0 (fun i v ys I oI C oC D m₂ h tk E' hi hP hJ hC hx F N off ne => by
    obtain ⟨a, b, rfl, hR⟩ := hX i v hP
    exact turn i a b ys I oI C oC D m₂ h tk E' hi hR hJ hC hx F N off ne) fin
end
end Mine
namespace Mine
section
variable {w : World} {base h₀ : Heap} {outer : List Env} {s : Shared} {pre : List (Addr × Obj)}
  {dp un d u : Nat} {gd : Option (List Code)} {f : Addr} {args : List Value}
  {p : Program} {loose : List Str} {mean : ExcName → Option Value} {mg mb : Str → Option Value}
/-- entering a def of the text with cells -/
theorem con_enterC {name qual : Str} {params : Arguments} {body : List Stmt} {scope : Scope} {dV kV doc pm cdv ct oc : Value} {an od : Option Addr} {osl : Array (Option Value)} {binds : List (Str × Value)}
    {R : Result → Shared → Prop}
    (A : Amb w dp un gd base h₀ outer s d u p loose mean mg mb pre)
    (ho : (Mine.hd.heap_39 w.params).lookup f = some ⟨oc, od, .func (fnOf name qual params body scope dV kV doc pm an cdv ct), osl⟩) (hcd : codeIn (Mine.hd.heap_39 w.params) cdv qual = true)
    (hbind : BindsTo s (fnOf name qual params body scope dV kV doc pm an cdv ct) ⟨args, []⟩ binds) (hkind : (binds.all fun y => scope.names.lookup y.1 == some .local || scope.names.lookup y.1 == some .cell) = true)
    (hnd : ((cellsFrom 0 scope.names []).map (·.1)).Nodup)
    (h : ∀ L' h₁ tk cells, Fr h₀ L' h₁ (bindL (envOfC qual scope L' f cdv).kindOf binds fun _ => none) → News h₀ L' h₁ (cells ++ pre) →
      CellsAre (bindC (envOfC qual scope L' f cdv).kindOf binds fun _ => none) (cellsFrom (L' + 1) scope.names []) cells → (∀ q ∈ pre, q.1 < L') → (Mine.hd.heap_39 w.params).In h₀ → Top p loose mean mg mb h₀ →
      wpAny (model PySem.Challenge.rw_sq0039_01.row.prog w) ((⟨none, dp, some outer, gd, un⟩ : Around).deeper (envOfC qual scope L' f cdv)) (execs body (envOfC qual scope L' f cdv))
        (fun fl s' => R (.ok (.ret (match fl with | .ret v => v | _ => .none))) s')
        (fun e s' => wpAny (model PySem.Challenge.rw_sq0039_01.row.prog w) ((⟨none, dp, some outer, gd, un⟩ : Around).deeper (envOfC qual scope L' f cdv)) (leaving (envOfC qual scope L' f cdv) e) (fun _ s'' => R (.error e) s'') (fun e' s'' => R (.error e') s'') s')
        { s with heap := h₁, toks := tk })
    (hco : scope.isCoroutine = false) (hgen : scope.isGenerator = false) (hk : scope.kind = .function) : codeAny (model PySem.Challenge.rw_sq0039_01.row.prog w) (⟨none, dp, some outer, gd, un⟩ : Around) (.call (.ref f) ⟨args, []⟩) R s := by
  have X₀ := A.K.keeps A.below.stays
  have T₀ := A.T.keeps A.below.stays
  have hdp := A.depth
  refine codeAny_call_function (show dp < recursionLimit by omega) (A.keep _ _ (X₀ _ _ ho)) rfl hco hgen rfl (codeRec_of (X₀.keeps A.keep) hcd) (hbind _ _ _ _ ?_)
  refine wpAny_newFunctionEnv_cells hk (kindsX hkind _) fun env' he s' x => ?_
  subst he
  refine ⟨(T₀.nolimit.keeps A.keep).keeps x.toInCall.keep, codeAny_func ?_⟩
  obtain ⟨h₁, tk, rfl, _⟩ := x.done
  have hk₁ := x.toInCall.keep
  obtain ⟨cells, NC, Y⟩ := Cl.news (h₀ := s.heap) (Nat.le_refl _) fun n c hm => ⟨x.cell n c (lookup_of_mem_nodup (cellsFrom_names scope.names 0 (s.heap.objs.size + 1) [] [] rfl ▸ hnd) hm), x.above n c hm⟩
  refine h s.heap.objs.size h₁ tk cells ⟨x.toInCall.ns, fun b o e => hk₁ b o (A.keep b o e), A.size⟩ (fun q hq => ?_) Y (fun q hq => Heap.lt_size (A.led q hq).1) X₀ T₀
  rcases List.mem_append.mp hq with hq | hq
  · refine ⟨(NC q hq).1, (NC q hq).2.1, ?_⟩
    cases e : h₀.get? q.1 with
    | none => rfl
    | some o => have := A.keep _ _ e; rw [(NC q hq).2.2] at this; cases this
  · exact ⟨hk₁ _ _ (A.led q hq).1, Nat.ne_of_lt (Heap.lt_size (A.led q hq).1), (A.led q hq).2⟩
end
@[elab_as_elim] theorem cells2 {cm : Str → Option Value} {n n' : Str} {c c' : Addr} {G : List (Addr × Obj) → Prop} (cells : List (Addr × Obj)) (x : CellsAre cm [(n, c), (n', c')] cells) (k : ∀ o o', o.data = .cell (cm n) → o'.data = .cell (cm n') → G [(c, o), (c', o')]) : G cells := by
  obtain ⟨o, o', rfl, h1, h2⟩ := CellsAre.two x
  exact k o o' h1 h2
end Mine
namespace Mine
open PySem.Spec PySem.Calls PyProof.Rows.LCg PyProof.Rows.LCt
section
variable {prog : Program} {w : World} {A : Around} {E : Value → Shared → Prop} {s : Shared} {h₀ : Heap} {L : Addr} {m : Str → Option Value} {env : Env} {elt : Expr} {x : Str} {scope : Scope} {cl : List (Str × Addr)}
def TupAt (ax : Addr) (its : Array Value) (nw : List (Addr × Obj)) : Prop := (ax, ({ cls := .type "tuple", data := .seq its } : Obj)) ∈ nw
/-- a comprehension over a tuple of the ledger -/
def CompSrcP (prog : Program) (w : World) (A : Around) (h₀ : Heap) (L : Addr) (m : Str → Option Value) (env : Env) (elt : Expr) (x : Str) (scope : Scope) (cl : List (Str × Addr)) (Fin : Shared → List Value → List (Addr × Obj) → Prop) (xv : Value) (s₁ : Shared) : Prop :=
  ∃ ax its news, xv = .ref ax ∧ A.handled = none ∧ Fr h₀ L s₁.heap m ∧ News h₀ L s₁.heap news ∧ TupAt ax its news ∧ its.size ≤ sizeLine ∧
    ∀ g, CompRest prog w A h₀ L m env elt x scope cl { s₁ with heap := g } (TupAt ax its) (fun i v => its[i]? = some v) (Fin { s₁ with heap := g }) its.size 0 [] news
theorem ListComp_P {iter : Expr} {px : Pos} {pos : Pos} {Q : Value → Shared → Prop} (F₀ : Fr h₀ L s.heap m)
    (hclos : closureFor scope env = pure cl) (hcell : ∀ y ∈ scope.names, y.2 ≠ .cell) (hkind : scope.kind = .function)
    (hnames : ∀ y ∈ scope.names, y.2 = .local → scope.names.lookup y.1 = some .local) (hx : scope.names.lookup x = some .local)
    (h : wpAny (model prog w) A (eval iter env) (CompSrcP prog w A h₀ L m env elt x scope cl (fun s₂ => FinE h₀ L m s₂ Q)) E s)
    (hs : ∀ x, foldedSetIterable iter env x = pure x := by intro _; rfl) :
    wpAny (model prog w) A (eval (.ListComp elt [⟨.Name x px, iter, [], 0⟩] scope pos) env) Q E s := by
  rw [eval_ListComp]
  refine wpAny_comprehension_free (use := none) rfl hs hclos hkind hnames (wpAny_mono h (fun xv s₁ h₁ => ?_) fun _ _ e => e)
  obtain ⟨ax, its, news, rfl, hh, F, N, S, hsz, R⟩ := h₁
  have hl : s₁.heap.IsTuple ax its := ⟨_, (N _ S).1, rfl, _, rfl⟩
  have hlt : ax < s₁.heap.objs.size := Heap.lt_size (N _ S).1
  refine wpAny_pyIter_tuple hl ?_
  have up : ∀ b o, s₁.heap.get? b = some o → (s₁.heap.push { cls := .type "tuple_iterator", data := .fields #[.ref ax, .int 0 0] }).get? b = some o := fun b o e => Heap.get?_push_of_some _ e
  refine block_U (Walks.tuple hh s₁.heap.objs.size ax (Nat.ne_of_lt hlt) its) hsz (fun i h st => by obtain ⟨o, e, _⟩ := st.1; exact ⟨o, e⟩) ?_ hcell hkind hx ⟨⟨_, Heap.get?_push_size _ rfl, rfl, rfl⟩, hl.at fun o e => up _ o e⟩ (fun b hb => ?_)
    (F.keeps up) (N.grown up) (Nat.ne_of_lt F.ns.lt) (next_is_new F) (fun p hp => Nat.ne_of_lt (Heap.lt_size (N p hp).1)) S (R _) ?_
  · intro i h h' o nw st e e' k N' S'
    exact ⟨by obtain ⟨o', q, r⟩ := st.1; rw [e] at q; cases q; exact ⟨o, e', r⟩, ⟨_, (N' _ S').1, rfl, _, rfl⟩⟩
  · show b < (s₁.heap.push _).objs.size
    rw [Heap.size_push]
    rcases List.mem_cons.mp hb with rfl | hb
    · exact Nat.lt_succ_self _
    · rw [List.mem_singleton.mp hb]; exact Nat.lt_succ_of_lt hlt
  · intro D C h tk m' ys news' F' N' o1 hn hC₀ hD₀ hCL hDL hCD offC fin
    refine ⟨m', hn, fun h'' hs'' => fin D h'' tk (F'.change hs'' hCL hC₀) (fun p hp => ?_) o1⟩
    refine ⟨hs''.extBut _ _ ?_ (N' p hp).1, (N' p hp).2⟩
    rcases List.mem_cons.mp hp with rfl | hp
    · exact Ne.symm hCD
    · exact offC p hp
end
end Mine
namespace Mine
section
variable {prog : Program} {w : World} {A : Around} {E : Value → Shared → Prop} {s : Shared} {env : Env} {h₀ : Heap} {L : Addr} {Q : Flow → Shared → Prop}
def TurnEndW {σ : Type} (h₀ : Heap) (L : Addr) (Led : σ → List (Addr × Obj)) (ps : σ → List (Str × Value)) (J : Nat → σ → Prop) (n : Nat) (s : Shared) (Q : Flow → Shared → Prop) (f : Flow) (s₃ : Shared) : Prop :=
  match f with
  | .ret v => Q (.ret v) s₃
  | .brk => Q .next s₃
  | _ => ∃ c n' h' tk' m' news', n' < n ∧ s₃ = { s with heap := h', toks := tk' } ∧ Fr h₀ L h' m' ∧ News h₀ L h' news' ∧ (∀ p ∈ Led c, p ∈ news') ∧ Loc (ps c) m' ∧ J n' c
theorem turn_endW {σ : Type} {h' : Heap} {Led : σ → List (Addr × Obj)} {ps : σ → List (Str × Value)} {J : Nat → σ → Prop} {n : Nat} (c : σ) (n' : Nat) {m' : Str → Option Value} {news' : List (Addr × Obj)} {tk' : Nat} (hn : n' < n)
    (F : Fr h₀ L h' m') (N : News h₀ L h' news') (hs : ∀ p ∈ Led c, p ∈ news') (hk : Loc (ps c) m') (hj : J n' c) :
    TurnEndW h₀ L Led ps J n s Q .next { s with heap := h', toks := tk' } := ⟨c, n', h', tk', m', news', hn, rfl, F, N, hs, hk, hj⟩
theorem while_gen {σ : Type} {test : Expr} {body : List Stmt} {pos : Pos} {m₀ : Str → Option Value} (Led : σ → List (Addr × Obj)) (ps : σ → List (Str × Value)) (J : Nat → σ → Prop) (c₀ : σ) (n₀ : Nat)
    (F : Fr h₀ L s.heap m₀) (N : News h₀ L s.heap (Led c₀)) (hk : Loc (ps c₀) m₀) (hj : J n₀ c₀)
    (turn : ∀ n c u h tk, J n c → Fr h₀ L h (kstB u (ps c)) → News h₀ L h (Led c) →
      wpAny (model prog w) A (isTrue test env (eval test env)) (fun b s₂ =>
        if b = true then wpAny (model prog w) A (execs body env) (TurnEndW h₀ L Led ps J n { s with heap := h, toks := tk } Q) E s₂ else Q .next s₂) E { s with heap := h, toks := tk })
    (hE : PassesOwn (model prog w) A env E := by passes_own) :
    wpAny (model prog w) A (exec (.While test body [] pos) env) Q E s := by
  refine While_inv2 (fun n m nw => ∃ c, nw = Led c ∧ Loc (ps c) m ∧ J n c) (n₀ := n₀) F N ⟨c₀, rfl, hk, hj⟩ ?_ hE
  rintro n m₁ news₁ h₁ tk₁ F₁ N₁ ⟨c, rfl, hl, hJ⟩
  refine wpAny_mono (turn n c m₁ h₁ tk₁ hJ (by rw [hl.eq]; exact F₁) N₁) (fun b s₂ h₂ => ?_) fun _ _ e => e
  cases b with
  | false => exact h₂
  | true =>
    simp only [if_true] at h₂ ⊢
    refine wpAny_mono h₂ (fun f s₃ h₃ => ?_) fun _ _ e => e
    have key : (∃ c n' h' tk' m' news', n' < n ∧ s₃ = { ({ s with heap := h₁, toks := tk₁ } : Shared) with heap := h', toks := tk' } ∧ Fr h₀ L h' m' ∧ News h₀ L h' news' ∧ (∀ p ∈ Led c, p ∈ news') ∧ Loc (ps c) m' ∧ J n' c) →
        ∃ h' tk m₂ news₂ n', s₃ = { s with heap := h', toks := tk } ∧ Fr h₀ L h' m₂ ∧ News h₀ L h' news₂ ∧ n' < n ∧ ∃ c, news₂ = Led c ∧ Loc (ps c) m₂ ∧ J n' c := by
      rintro ⟨c', n', h', tk', m', news', hn, e, F', N', hs, hl', hj'⟩
      exact ⟨h', tk', m', Led c', n', e, F', fun p hp => N' p (hs p hp), hn, c', rfl, hl', hj'⟩
    cases f with
    | next => exact key h₃
    | cont => exact key h₃
    | brk => exact h₃
    | ret v => exact h₃
end
end Mine
namespace Mine
open PySem.Spec Builtin
section
variable {prog : Program} {w : World} {A : Around} {E : Value → Shared → Prop} {s : Shared}
abbrev ByteAt (b : Array UInt8) (i : Nat) (v : Value) : Prop := ∃ c u, b[i]? = some c ∧ v = .int (c.toNat : Int) u
theorem extend_bytes {R : Result → Shared → Prop} (hh : A.handled = none) (b : Array UInt8) (t : Tok) (S : Addr) (res : Value) (c₀ : Nat) (hS : s.heap.get? S = some { cls := .type "list", data := .seq #[] c₀ })
    (hR : ∀ h' tk acc' c', (∀ b o, b ≠ S → s.heap.get? b = some o → h'.get? b = some o) → h'.get? S = some { cls := .type "list", dict := none, data := .seq acc' c', slots := #[] } →
      ItemsOf (ByteAt b) acc' b.size → R (.ok (.ret res)) { s with heap := h', toks := tk }) (hn : b.size ≤ sizeLine) :
    wpAny (model prog w) A.in1 (Builtin.List.listExtendWith (.ref S) (.bytes b t) res)
      (fun fin s' => match fin with | .done f => R (.ok f) s' | .again c' => c'.quiet = true ∧ codeAny (model prog w) A c' R s') (fun e s' => R (.error e) s') s := by
  have hSI : S ≠ s.heap.objs.size := Nat.ne_of_lt (Heap.lt_size hS)
  have hSf : S ∉ [s.heap.objs.size] := fun hm => hSI (List.mem_singleton.mp hm)
  unfold Builtin.List.listExtendWith
  refine wpAny_bind (wpAny_typeOf (T := "bytes") (v := .bytes b t) rfl ?_)
  have h1 : Builtin.List.listSameRef (.ref S) (.bytes b t) = false := rfl
  have h2 : (Value.type "bytes" == Value.type "list") = false := by decide
  have h3 : (Value.type "bytes" == Value.type "tuple") = false := by decide
  simp only [h1, h2, h3, Bool.or_false, Bool.false_eq_true, if_false]
  refine wpAny_bind (KBw.pyIter_bytes ?_)
  refine wpAny_bind (wpAny_holding ?_)
  unfold Builtin.List.listLengthHint
  refine wpAny_bind (wpAny_specialOf (T := "bytes") (v := .bytes b t) rfl FB.slot_bytes_len.lookup ?_)
  wp_delta
  refine wpAny_bind (wpAny_isInstance (T := "bytes") (v := .bytes b t) (b := true) rfl (by rw [isSubtype_type]; kernel_rfl) ?_)
  show wpAny _ _ (typeOf (Value.bytes b t) >>= _) _ _ _
  refine wpAny_bind (wpAny_typeOf (T := "bytes") (v := .bytes b t) rfl ?_)
  refine wpAny_pure ?_
  rw [if_neg (by decide)]
  refine wpAny_pure ⟨plainId_quiet PySem.F.plain_extend_loop _, codeAny_extend_loopS (KBw.walks (A := A.in1) hh s.heap.objs.size b t).toS hn _ hSf _ b.size 0 _ _ _ rfl (Nat.zero_le _) ⟨_, Heap.get?_push_size _ rfl, rfl, rfl⟩ (Heap.get?_push_of_some _ hS) (ItemsOf.nil _) fun s' acc' c' hm hS' hacc => ?_⟩
  rw [Moved.eq_with hm]
  refine hR s'.heap s'.toks acc' c' (fun b ob hb e => hm.heap b ob (fun hmem => ?_) (Heap.get?_push_of_some _ e)) hS' hacc
  rcases List.mem_cons.mp hmem with e' | hmem
  · exact hb e'
  · exact absurd (Heap.lt_size e) (by rw [List.mem_singleton.mp hmem]; exact Nat.lt_irrefl _)
theorem init_bytes {R : Result → Shared → Prop} (hh : A.handled = none) (b : Array UInt8) (t : Tok) (S : Addr) (hS : s.heap.get? S = some { cls := .type "list", data := .seq #[] })
    (hR : ∀ h' tk acc' c', (∀ b o, b ≠ S → s.heap.get? b = some o → h'.get? b = some o) → h'.get? S = some { cls := .type "list", dict := none, data := .seq acc' c', slots := #[] } →
      ItemsOf (ByteAt b) acc' b.size → R (.ok (.ret .none)) { s with heap := h', toks := tk }) (hn : b.size ≤ sizeLine) :
    wpAny (model prog w) A.in1 (Builtin.«list.__init__» ⟨[.ref S, .bytes b t], []⟩)
      (fun fin s' => match fin with | .done f => R (.ok f) s' | .again c' => c'.quiet = true ∧ codeAny (model prog w) A c' R s') (fun e s' => R (.error e) s') s := by
  show wpAny _ _ (do let old ← Builtin.List.listItems (.ref S); Builtin.List.listUpdate (.ref S) (fun _ => #[]); letGo old.toList.reverse; Builtin.List.listExtendWith (.ref S) (.bytes b t) .none) _ _ s
  refine wpAny_bind ?_
  unfold Builtin.List.listItems
  refine wpAny_bind (wpAny_seqItems hS rfl (wpAny_pure ?_))
  show wpAny _ _ (updateSeq S (fun _ => #[]) >>= fun _ => letGo (#[] : Array Value).toList.reverse >>= fun _ => Builtin.List.listExtendWith (.ref S) (.bytes b t) .none) _ _ s
  refine wpAny_bind (wpAny_updateSeq hS rfl ?_)
  have hS₂ := Heap.get?_update_self (Obj.mapSeq (fun _ => (#[] : Array Value))) hS rfl
  have oth : ∀ b o, b ≠ S → s.heap.get? b = some o → (s.heap.update S (Obj.mapSeq (fun _ => (#[] : Array Value)))).get? b = some o :=
    fun b o hb e => (Heap.get?_update_other _ _ (Ne.symm hb)).trans e
  refine wpAny_bind (wpAny_letGo ?_)
  refine extend_bytes (hn := hn) hh b t S .none _ hS₂ fun h' tk acc' c' hk hS' hacc => ?_
  exact hR h' tk acc' c' (fun b o hb e => hk b o hb (oth b o hb e)) hS' hacc
theorem bytes_ints {b : Array UInt8} {acc : Array Value} (h : ItemsOf (ByteAt b) acc b.size) : IntsAre acc.toList (KBw.bInts b) := by
  obtain ⟨h1, h2⟩ := h
  have key : ∀ (vs : List Value) (cs : List UInt8), vs.length = cs.length → (∀ (j : Nat) v, vs[j]? = some v → ∃ (c : UInt8) (u : Tok), cs[j]? = some c ∧ v = Value.int (c.toNat : Int) u) → IntsAre vs (cs.map fun c => (c.toNat : Int)) := by
    intro vs
    induction vs with
    | nil => intro cs hl _; cases cs with
      | nil => exact .nil
      | cons _ _ => simp at hl
    | cons v r ih => intro cs hl h; cases cs with
      | nil => simp at hl
      | cons c cs =>
        obtain ⟨c', u, hc, rfl⟩ := h 0 v rfl
        obtain rfl : c = c' := by simpa using hc
        exact .cons _ _ (ih cs (by simpa using hl) fun j v hv => by simpa using h (j + 1) v (by simpa using hv))
  exact key acc.toList b.toList (by simpa using h1) fun j v hv => by
    obtain ⟨c, u, hc, e⟩ := h2 j v (by simpa using hv)
    exact ⟨c, u, by simpa using hc, e⟩
theorem list_bytes {h₀ : Heap} {L : Addr} {m : Str → Option Value} {news : List (Addr × Obj)} {b : Array UInt8} {t : Tok} {ks : List Int} {Q : Value → Shared → Prop} (hh : A.handled = none) (F : Fr h₀ L s.heap m) (N : News h₀ L s.heap news) (hk : KBw.bInts b = ks) (hsz : ks.length ≤ 1000000)
    (h : ∀ (D : Addr) c h' tk (vs : List Value), Fr h₀ L h' m → News h₀ L h' ((D, W.listOf vs.toArray c) :: news) → (∀ q ∈ news, q.1 < D) → IntsAre vs ks → Q (.ref D) { s with heap := h', toks := tk }) :
    wpAny (model prog w) A (call (.type "list") [.bytes b t]) Q E s := by
  subst hk
  have hn : b.size ≤ sizeLine := by rw [KBw.ints_length] at hsz; rw [sizeLine_eq]; omega
  refine callType_codes (Q₁ := fun obj s₁ => obj = .ref s.heap.objs.size ∧ s₁ = { s with heap := s.heap.push { cls := .type "list", data := .seq #[] } }) PySem.F.called_list (PySem.F.typeCall_list_1 _) PySem.F.entry_list_init
    (code_list_new _ ⟨rfl, rfl⟩) fun obj s₁ h₁ => ?_
  obtain ⟨rfl, rfl⟩ := h₁
  have hS : (s.heap.push { cls := .type "list", data := .seq #[] }).get? s.heap.objs.size = some { cls := .type "list", data := .seq #[] } := Heap.get?_push_size _ rfl
  refine ⟨⟨_, hS, rfl⟩, PySem.F.args_list_init_2 _ _, init_bytes (A := A.in1) (hn := hn) hh b t _ hS fun h' tk acc' c' hk hS' hacc => ?_⟩
  have hkk : ∀ b o, s.heap.get? b = some o → h'.get? b = some o := fun b o e => hk b o (Nat.ne_of_lt (Heap.lt_size e)) (Heap.get?_push_of_some _ e)
  refine ⟨rfl, h _ c' h' tk acc'.toList (F.keeps hkk) (news_pushed F N hkk (by first | (rw [Array.toArray_toList]; exact hS') | simpa using hS') rfl) (fun q hq => Heap.lt_size (N q hq).1) (bytes_ints hacc)⟩
end
end Mine
namespace Mine
/-- the dict of a Library -/
abbrev libDict (w : World) (t1 t2 : Tok) (td sd : Addr) : Obj :=
  dictOf [⟨PyData.keyHash w.params (Str.ofString "texts"), .str (Str.ofString "texts") t1, .ref td⟩, ⟨PyData.keyHash w.params (Str.ofString "streams"), .str (Str.ofString "streams") t2, .ref sd⟩] 2
abbrev PR : Program := PySem.Challenge.rw_sq0039_01.row.prog
open PySem.Spec PyProof.V in
theorem dict_item_int {prog : Program} {w : World} {A : Around} {E : Value → Shared → Prop} {s : Shared} {h₀ : Heap} {L d : Addr} {news : List (Addr × Obj)} {o : Obj} {kvs : List (Int × Value)} {k : Int} {u : Tok} {v : Value} {Q : Value → Shared → Prop}
    (N : News h₀ L s.heap news) (hp : (d, o) ∈ news) (hd : o.IsDictOf (intKind prog w) kvs) (hl : valueAt kvs k = some v) (h : Q v { s with toks := s.toks + 1 }) : wpAny (model prog w) A (getItem (.ref d) (.int k u)) Q E s :=
  wpAny_getItem_of (intKind_is _ _ _ _) (kda_dict N hp hd).mapOf hl h
end Mine
namespace Mine
theorem extend_ints {prog : Program} {w : World} {A : Around} {E : Value → Shared → Prop} {s : Shared} {h₀ : Heap} {L D b : Addr} {m : Str → Option Value} {news news' : List (Addr × Obj)} {vs us : List Value} {n n2 : Nat} {ns ms : List Int} {Q : Value → Shared → Prop}
    (F : Fr h₀ L s.heap m) (N : News h₀ L s.heap news) (hb : (b, W.listOf us.toArray n2) ∈ news) (hi : IntsAre vs ns) (hj : IntsAre us ms)
    (U : Upd D (W.listOf vs.toArray n) (W.listOf (vs ++ us).toArray (n + 1)) news news') (h0 : 0 < ms.length) (hsz : ns.length + ms.length ≤ 1000000)
    (h : ∀ h', Fr h₀ L h' m → News h₀ L h' news' → IntsAre (vs ++ us) (ns ++ ms) → Q .none { s with heap := h' }) : wpAny (model prog w) A (call (.builtin "list.extend") [.ref D, .ref b]) Q E s := by
  have e1 := hi.length
  have e2 := hj.length
  have hl : Builtin.List.listTooLong (vs.toArray.size + us.toArray.size) = false := by
    unfold Builtin.List.listTooLong
    rw [sizeLine_eq]
    simp
    omega
  refine kl_extend F N hb (by simp) (by simp; intro z; rw [z] at e2; simp at e2; omega) U (by rw [hl]; simp) ?_ ?_ fun h' F' N' => h h' F' N' (intsAre_append hi hj)
  · rw [sizeLine_eq]; simp; omega
  · rw [sizeLine_eq]; simp; omega
end Mine
namespace Mine
theorem dict_copy {prog : Program} {w : World} {K : Type} [DecidableEq K] {knd : KeyKind prog w K} {A : Around} {E : Value → Shared → Prop} {s : Shared} {h₀ : Heap} {L src : Addr} {m : Str → Option Value} {news : List (Addr × Obj)} {o : Obj} {kvs : List (K × Value)} {Q : Value → Shared → Prop}
    (F : Fr h₀ L s.heap m) (N : News h₀ L s.heap news) (hbig : h₀.NoLimit) (hm : (src, o) ∈ news) (hd : o.IsDictOf knd kvs) (lo : (src == sysModules) = false) (hsz : kvs.length ≤ sizeLine)
    (k : ∀ d h' o', Fr h₀ L h' m → News h₀ L h' ((d, o') :: news) → (∀ p ∈ news, p.1 < d) → (d == sysModules) = false → o'.IsDictOf knd kvs → Q (.ref d) { s with heap := h' }) :
    wpAny (model prog w) A (call (.type "dict") [.ref src]) Q E s := by
  refine kt_call_dict lo (kda_dict N hm hd) hsz fun h' hm' hs => ?_
  obtain ⟨o', ho', hd'⟩ := Heap.dictOf_iff.mp hm'
  have N1 := News.push F N { cls := .type "dict", data := .dict #[] }
  exact k _ h' o' ((F.push _).change hs (N1 _ (.head _)).2.1 (N1.fresh (.head _))) (N1.setHead N.apart hs ho') (fun p hp => Heap.lt_size (N p hp).1) (F.notModules (modules_low hbig)) hd'
end Mine
namespace Mine
open PyProof.V PySem.Spec
/-- the frames among a ground's objects -/
def frl (fs : List Addr) (g : Heap) : List (Addr × Obj) := fs.filterMap fun b => (g.get? b).map fun o => (b, o)
theorem frl_mem {fs : List Addr} {g : Heap} {p : Addr × Obj} : p ∈ frl fs g ↔ p.1 ∈ fs ∧ g.get? p.1 = some p.2 := by
  unfold frl
  rw [List.mem_filterMap]
  constructor
  · rintro ⟨b, hb, e⟩
    obtain ⟨o, ho, rfl⟩ := Option.map_eq_some_iff.mp e
    exact ⟨hb, ho⟩
  · rintro ⟨h1, h2⟩
    exact ⟨p.1, h1, by rw [h2]; rfl⟩
section
variable {prog : Program} {w : World} {A : Around} {E : Value → Shared → Prop} {s : Shared} {env : Env} {h₀ : Heap} {x : Str} {body : List Stmt} {Q : Flow → Shared → Prop}
def TurnEndT {σ : Type} (fs : List Addr) (h₀ : Heap) (L I : Addr) (o : Obj) (Led : σ → List (Addr × Obj)) (ps : σ → List (Str × Value)) (Jn : σ → Prop) (s : Shared) (Q : Flow → Shared → Prop) (f : Flow) (s₃ : Shared) : Prop :=
  match f with
  | .ret v => Q (.ret v) s₃
  | .brk => Q .next s₃
  | _ => ∃ c g' h' tk' m' news', s₃ = { s with heap := h', toks := tk' } ∧ KtsTurn fs h₀ g' ∧ Fr g' L h' m' ∧ News g' L h' news' ∧ (I, o) ∈ news' ∧ (∀ p ∈ Led c, p ∈ news') ∧ (∀ p ∈ Led c, p.1 ≠ I) ∧ Loc (ps c) m' ∧ Jn c
theorem hid_some {fs : List Addr} {g : Heap} {b : Addr} {o : Obj} (T : KtsTurn fs h₀ g) (h : (hideAll h₀ fs).get? b = some o) : g.get? b = some o ∧ b ∉ fs := by
  have hb : b ∉ fs := fun m => by rw [hideAll_none _ m] at h; cases h
  exact ⟨T.other b o (of_hideAll _ h) hb, hb⟩
theorem some_hid {fs : List Addr} {g : Heap} {b : Addr} {o : Obj} (T : KtsTurn fs h₀ g) (h : g.get? b = some o) (hb : b ∉ fs) : (hideAll h₀ fs).get? b = some o := by
  refine hideAll_get _ ?_ hb
  cases e : h₀.get? b with
  | none => rw [T.none_ b e] at h; cases h
  | some o' => have := T.other b o' e hb; rw [h] at this; exact this.symm
theorem fr_hide {fs : List Addr} {g h : Heap} {L : Addr} {m : Str → Option Value} (T : KtsTurn fs h₀ g) (F : Fr g L h m) : Fr (hideAll h₀ fs) L h m :=
  ⟨F.ns, fun b o e => F.keep b o (hid_some T e).1, by rw [hideAll_size, ← T.size]; exact F.above⟩
theorem news_hide {fs : List Addr} {g h : Heap} {L : Addr} {m : Str → Option Value} {news : List (Addr × Obj)} (T : KtsTurn fs h₀ g) (F : Fr g L h m) (N : News g L h news) : News (hideAll h₀ fs) L h (news ++ frl fs g) := fun p hp => by
  rcases List.mem_append.mp hp with hp | hp
  · refine ⟨(N p hp).1, (N p hp).2.1, ?_⟩
    cases e : (hideAll h₀ fs).get? p.1 with
    | none => rfl
    | some o => have := (N p hp).2.2; rw [(hid_some T e).1] at this; cases this
  · obtain ⟨h1, h2⟩ := frl_mem.mp hp
    refine ⟨F.keep _ _ h2, fun e => ?_, hideAll_none _ h1⟩
    rw [e, kts_self F] at h2; cases h2
theorem fr_show {fs : List Addr} {g h : Heap} {L : Addr} {m : Str → Option Value} {news : List (Addr × Obj)} (T : KtsTurn fs h₀ g) (F : Fr (hideAll h₀ fs) L h m) (N : News (hideAll h₀ fs) L h (news ++ frl fs g)) : Fr g L h m := by
  refine ⟨F.ns, fun b o e => ?_, by rw [T.size, ← hideAll_size fs h₀]; exact F.above⟩
  by_cases hb : b ∈ fs
  · exact (N (b, o) (List.mem_append_right _ (frl_mem.mpr ⟨hb, e⟩))).1
  · exact F.keep b o (some_hid T e hb)
theorem for_genT {σ : Type} {r : Addr} {b₀ : Int} {t₀ u₀ v₀ : Tok} {n : Nat} {m₀ : Str → Option Value} (fs : List Addr) (Led : σ → List (Addr × Obj)) (ps : σ → List (Str × Value)) (J : Nat → σ → Prop) (c₀ : σ)
    (hh : A.handled = none) (hr : IsRange s.heap r 0 b₀ 1 t₀ u₀ v₀) (hb : b₀ = (n : Int)) (hb2 : b₀ ≤ 2 ^ 40)
    (F : Fr h₀ env.locals s.heap m₀) (N : News h₀ env.locals s.heap (Led c₀)) (hk : Loc (ps c₀) m₀) (hj : J 0 c₀)
    (turn : ∀ (i : Nat) t c u h tk I o g, i < n → J i c → KtsTurn fs h₀ g → (∀ p ∈ Led c, p.1 ≠ I) → Fr g env.locals h (fun y => if y = x then some (.int (i : Int) t) else kstB u (ps c) y) → News g env.locals h ((I, o) :: Led c) →
      wpAny (model prog w) A (execs body env) (TurnEndT fs h₀ env.locals I o Led ps (J (i + 1)) { s with heap := h, toks := tk } Q) E { s with heap := h, toks := tk })
    (done : ∀ c u h tk g, J n c → KtsTurn fs h₀ g → Fr g env.locals h (kstB u (ps c)) → News g env.locals h (Led c) → Q .next { s with heap := h, toks := tk }) :
    wpAny (model prog w) A (pyIter (.ref r)) (fun it s₂ => LoopAtV prog w A (hideAll h₀ fs) env x body Q E it s₂) E s := by
  refine for_range (σ := Heap × σ) (fun c => Led c.2 ++ frl fs c.1) (fun c => ps c.2) (fun i c => KtsTurn fs h₀ c.1 ∧ (∀ p ∈ Led c.2, c.1.get? p.1 = none) ∧ J i c.2) (h₀, c₀) hh hr hb hb2 (fr_hide KtsTurn.refl F) (news_hide KtsTurn.refl F N) hk
    ⟨KtsTurn.refl, fun p hp => (N p hp).2.2, hj⟩ ?_ ?_
  · rintro i t ⟨g, c⟩ u h tk I o hi ⟨T, hg, hJ⟩ hne F' N'
    have F2 : Fr g env.locals h _ := fr_show (news := (I, o) :: Led c) T F' N'
    have hI : g.get? I = none := by
      cases e : g.get? I with
      | none => rfl
      | some o' =>
        by_cases hb : I ∈ fs
        · exact absurd rfl (hne (I, o') (List.mem_append_right _ (frl_mem.mpr ⟨hb, e⟩)))
        · have h1 := (N' (I, o) (.head _)).2.2
          rw [some_hid T e hb] at h1; cases h1
    have N2 : News g env.locals h ((I, o) :: Led c) := fun p hp => by
      have h1 := N' p (by rcases List.mem_cons.mp hp with rfl | hp
                          · exact .head _
                          · exact .tail _ (List.mem_append_left _ hp))
      refine ⟨h1.1, h1.2.1, ?_⟩
      rcases List.mem_cons.mp hp with rfl | hp
      · exact hI
      · exact hg p hp
    refine wpAny_mono (turn i t c u h tk I o g hi hJ T (fun p hp => hne p (List.mem_append_left _ hp)) F2 N2) (fun f s₃ q => ?_) fun _ _ e => e
    have key : (∃ c g' h' tk' m' news', s₃ = { ({ s with heap := h, toks := tk } : Shared) with heap := h', toks := tk' } ∧ KtsTurn fs h₀ g' ∧ Fr g' env.locals h' m' ∧ News g' env.locals h' news' ∧ (I, o) ∈ news' ∧ (∀ p ∈ Led c, p ∈ news') ∧ (∀ p ∈ Led c, p.1 ≠ I) ∧ Loc (ps c) m' ∧ J (i + 1) c) →
        ∃ c h' tk' m' news', s₃ = { ({ s with heap := h, toks := tk } : Shared) with heap := h', toks := tk' } ∧ Fr (hideAll h₀ fs) env.locals h' m' ∧ News (hideAll h₀ fs) env.locals h' news' ∧ (I, o) ∈ news' ∧ (∀ p ∈ Led (Prod.snd c) ++ frl fs (Prod.fst c), p ∈ news') ∧ (∀ p ∈ Led (Prod.snd c) ++ frl fs (Prod.fst c), p.1 ≠ I) ∧ Loc (ps (Prod.snd c)) m' ∧
          (KtsTurn fs h₀ (Prod.fst c) ∧ (∀ p ∈ Led (Prod.snd c), (Prod.fst c).get? p.1 = none) ∧ J (i + 1) (Prod.snd c)) := by
      rintro ⟨c', g', h', tk', m', news', e, T', F3, N3, hI3, hs3, hn3, hk3, hj3⟩
      refine ⟨(g', c'), h', tk', m', news' ++ frl fs g', e, fr_hide T' F3, news_hide T' F3 N3, List.mem_append_left _ hI3, fun p hp => ?_, fun p hp => ?_, hk3, T', fun p hp => (N3 p (hs3 p hp)).2.2, hj3⟩
      · rcases List.mem_append.mp hp with hp | hp
        · exact List.mem_append_left _ (hs3 p hp)
        · exact List.mem_append_right _ hp
      · rcases List.mem_append.mp hp with hp | hp
        · exact hn3 p hp
        · intro e1
          have h1 := (frl_mem.mp hp).2
          rw [e1, (N3 _ hI3).2.2] at h1; cases h1
    cases f with
    | ret v => exact q
    | brk => exact q
    | next => exact key q
    | cont => exact key q
  · rintro ⟨g, c⟩ u h tk ⟨T, hg, hJ⟩ F' N'
    have F2 : Fr g env.locals h _ := fr_show (news := Led c) T F' N'
    exact done c u h tk g hJ T F2 fun p hp => ⟨(N' p (List.mem_append_left _ hp)).1, (N' p (List.mem_append_left _ hp)).2.1, hg p hp⟩
theorem turn_endT {σ : Type} {fs : List Addr} {g' h' : Heap} {L I : Addr} {o : Obj} {Led : σ → List (Addr × Obj)} {ps : σ → List (Str × Value)} {Jn : σ → Prop} (c : σ) {m' : Str → Option Value} {news' : List (Addr × Obj)} {tk' : Nat}
    (T : KtsTurn fs h₀ g') (F : Fr g' L h' m') (N : News g' L h' news') (hI : (I, o) ∈ news') (hs : ∀ p ∈ Led c, p ∈ news') (hne : ∀ p ∈ Led c, p.1 ≠ I) (hk : Loc (ps c) m') (hj : Jn c) :
    TurnEndT fs h₀ L I o Led ps Jn s Q .next { s with heap := h', toks := tk' } := ⟨c, g', h', tk', m', news', rfl, T, F, N, hI, hs, hne, hk, hj⟩
end
theorem turn_ground {A₀ : Around} {base h₀ g : Heap} {outer : List Env} (T : KtsTurn (outer.filterMap (·.frame)) h₀ g) (B : Below A₀ base outer h₀) (D : KtsDicts (outer.filterMap (·.frame)) h₀) : Below A₀ base outer g ∧ KtsDicts (outer.filterMap (·.frame)) g :=
  ⟨⟨B.stack, fun b o e => T.other b o (B.stays b o e) (fun hm => by rw [(B.frames.mem hm).1] at e; cases e), B.frames.of_keeps fun b o e _ => by
      obtain ⟨sl, hs⟩ := T.up e
      exact ⟨_, hs, rfl⟩⟩, D.turn T⟩
end Mine
set_option linter.unusedVariables false
example (w : World) : Mine.hd.heap_39 w.params = Mine.hd.heap_39 w.params ∨ PySem.Challenge.rw_sq0039_01.writes = true := by
  k_fill
  exact .inl rfl
local macro_rules | `(tactic| walk_at "my_facts") => `(tactic| k_dflt ((repeat intro _); first | refine Mine.Box.mk ?_ | (refine Mine.imp_of ?_; intro _; walk_at "my_facts") | (refine Mine.impO_of ?_; intro _; walk_at "my_facts")))
local macro_rules | `(tactic| k_lt $h) => `(tactic| (refine Mine.imp_lt $h ?_; clear $h; walk_at "my_facts"))
local macro_rules | `(tactic| k_in) => `(tactic| (refine' Frag.In.keeps ?kia9 (Fr.keep ?kib9); (case kib9 => k_asm); (case kia9 => assumption)))
local macro_rules | `(tactic| walk_at "call ref") => `(tactic| (k_here; (show wpAny _ _ (call (Value.ref (OfNat.ofNat _)) (_ :: _)) _ _ _); refine Mine.Halt.out ?_))
local macro_rules | `(tactic| walk_at "my_item") => `(tactic| (k_here; (with_reducible show wpAny _ _ (subscriptTail _ _ (Value.ref _) (Value.int _ _)) _ _ _); (with_unfolding_all refine' Mine.item_led ?k0 ?k1 ?k2 ?k3 ?k4 ?_ ?k6; (case k0 => k_asm); (case k1 => k_mem); (case k2 => decide); (case k3 => decide); (case k4 => rfl); (case k6 => with_unfolding_all rfl); k_whole)))
local macro_rules | `(tactic| walk_at "subscriptTail Name Constant ref int") => `(tactic| walk_at "my_item")
local macro_rules | `(tactic| walk_at "binaryOp Mod int int") => `(tactic| (k_here; (with_reducible refine mod_int' ?_ ?_); omega))
local macro_rules | `(tactic| walk_at "binaryOp FloorDiv int int") => `(tactic| (k_here; (with_reducible refine floordiv_int ?_ ?_); omega))
local macro_rules | `(tactic| size_fits) => `(tactic| exact Nat.le_of_ble_eq_true rfl)
local macro_rules | `(tactic| walk_at "my_for") => `(tactic| (k_here; (rename Fr _ _ _ _ => lF'); (with_unfolding_all refine' For_invVF lF' ?k1 ?k2 ?_; (case k1 => exact rfl); (case k2 => exact rfl); k_whole)))
local macro_rules | `(tactic| walk_at "exec For Name Name cons nil") => `(tactic| walk_at "my_for")
local macro_rules | `(tactic| walk_at "exec For Name Call cons nil") => `(tactic| walk_at "my_for")
local macro_rules | `(tactic| walk_at "exec For Name Attribute cons nil") => `(tactic| walk_at "my_for")
local macro_rules | `(tactic| walk_at "pyIter str") => `(tactic| (with_reducible show wpAny _ _ (pyIter _) (fun it s₂ => LoopAtV _ _ _ _ _ _ _ _ _ it s₂) _ _; refine Mine.Halt.out ?_))
local macro_rules | `(tactic| walk_at "pyIter ref") => `(tactic| (with_reducible show wpAny _ _ (pyIter _) (fun it s₂ => LoopAtV _ _ _ _ _ _ _ _ _ it s₂) _ _; refine Mine.Halt.out ?_))
local macro_rules | `(tactic| k_ne) => `(tactic| first | exact Mine.NeA.out (by assumption) | exact Mine.NeA.symm (by assumption) | (refine neN ?_; (try dsimp only); first | assumption | exact Ne.symm (by assumption) | omega))
local macro_rules | `(tactic| k_all) => `(tactic| exact Mine.AllNeR.out (by assumption))
section
namespace Mine
/-- the box of draws: [x, y, z], z at most Z -/
def BoxO (Z : Int) (o : Obj) : Prop := ∃ (x y z : Int) (tx ty tz : Tok) (n : Nat), o = W.listOf #[.int x tx, .int y ty, .int z tz] n ∧ 0 ≤ x ∧ 0 ≤ y ∧ y < 2147483629 ∧ 0 ≤ z ∧ z ≤ Z
theorem BoxO.mono {Z Z' : Int} {o : Obj} (h : BoxO Z o) (hz : Z ≤ Z') : BoxO Z' o :=
  let ⟨x, y, z, tx, ty, tz, n, e, h1, h2, h3, h4, h5⟩ := h; ⟨x, y, z, tx, ty, tz, n, e, h1, h2, h3, h4, Int.le_trans h5 hz⟩
theorem fm (a b : Int) (hb : 0 < b) : 0 ≤ a.fmod b ∧ a.fmod b < b := ⟨Int.fmod_nonneg_of_pos _ hb, Int.fmod_lt_of_pos _ hb⟩
theorem pow1 (y z : Int) (h1 : 0 ≤ y) (h2 : y < 2147483629) (h3 : 0 ≤ z) (h4 : z ≤ 100000) : (y + 40093 * (z + 1) + 29).natAbs < 2 ^ 64 := by omega
theorem pow2 (y z : Int) (h3 : 0 ≤ z) (h4 : z ≤ 100000) : (y.fmod 2147483647 + 92959 * (z + 1)).natAbs < 2 ^ 64 := by
  have := fm y 2147483647 (by decide)
  omega
local macro_rules | `(tactic| walk_at "binaryOp Pow int int") => `(tactic| (k_here; refine Mine.Halt.out ?_))
set_option maxHeartbeats 8000000 in
theorem take_con (w : World) (b : Addr) (o : Obj) (Z many : Int) (tm : Tok) (ho : BoxO Z o) (hZ : Z ≤ 100000) (hm : 1 ≤ many) (hm2 : many ≤ 1000) :
    Con w 427 [.ref b, .int many tm] 6 30 [(b, o)] (fun v led => ∃ r t o', v = .int r t ∧ 0 ≤ r ∧ r < many ∧ led = [(b, o')] ∧ BoxO (Z + 1) o') := by
  obtain ⟨x, y, z, tx, ty, tz, n, rfl, hx, hy, hy2, hz, hz2⟩ := ho
  intro dp un gd base h₀ outer s R p loose mean mg mb A hR
  have hb : Binds [(Str.ofString "many", .int many tm), (Str.ofString "box", .ref b)] := ⟨⟩
  ( k_dflt (refine' Mine.con_enter (by assumption) (by assumption) ?k6_m ?k7_m ?k9_m ?kB_m ?_ ?c2_m ?c3_m ?c4_m ?c5_m; (case k6_m => k_is); (case k7_m => k_is); (case k9_m => first | exact BindsTo.of_eq rfl | exact binds_K (Frag.In.keeps (Mine.Amb.K (by assumption)) (fun b o e => Mine.Amb.keep (by assumption) b o (Below.stays (Mine.Amb.below (by assumption)) b o e))) rfl (by k_is) rfl rfl rfl); (case c5_m => decide); (case kB_m => exact locs rfl); (case c2_m => exact rfl); (case c3_m => exact rfl); (case c4_m => exact rfl)); intro L'_m h'_m tk_m F'_m N'_m l1_m X_m T_m; have B_m := Mine.Amb.below (by assumption); have XB_m := Mine.Amb.K (by assumption); have TB_m := Mine.Amb.T (by assumption); have D_m := Mine.Amb.dicts (by assumption); have hd_m := Mine.Amb.depth (by assumption); have hu_m := Mine.Amb.units (by assumption); rename Mine.Amb _ _ _ _ _ _ _ _ _ _ _ _ _ _ _ _ => hA_m; clear hA_m; rename Mine.Binds _ => hB_m; clear hB_m; (repeat ((rename Mine.Apart _ => ap'_m); refine Mine.Apart.imp ap'_m ?_; clear ap'_m; walk_at "my_facts")); (try k_lt l1_m); (try dsimp only); (try k_fold))
  k_steps
  all_goals (repeat' (first | (delta Mine.Halt; (k_here; (with_reducible refine pow_int_small ?kb1_m ?kb2_m ?kb3_m ?_); (case kb1_m => decide); (case kb2_m => decide); (case kb3_m => first | exact pow1 _ _ (by assumption) (by assumption) (by assumption) (by omega) | exact pow2 _ _ (by assumption) (by omega))); k_steps)))
  all_goals ((try dsimp only); (try k_unfold); (try dsimp only))
  all_goals refine con_end hR (by assumption) (by assumption) (fun q hq => hq) ⟨_, _, _, rfl, (fm _ _ (by omega)).1, (fm _ _ (by omega)).2, rfl, ?_⟩
  · have hx' : 0 < x := by assumption
    exact ⟨_, _, _, _, _, _, _, rfl, Int.fdiv_nonneg hx (by omega), hy, hy2, hz, by omega⟩
  · exact ⟨_, _, _, _, _, _, _, rfl, hx, hy, hy2, by omega, by omega⟩
@[elab_as_elim] theorem take_cps {G : Value → List (Addr × Obj) → Prop} {Z n : Int} {b : Addr} (v : Value) (led : List (Addr × Obj)) (h : ∃ r t o', v = .int r t ∧ 0 ≤ r ∧ r < n ∧ led = [(b, o')] ∧ BoxO Z o')
    (k : ∀ r t o', 0 ≤ r → r < n → BoxO Z o' → G (.int r t) [(b, o')]) : G v led := by
  obtain ⟨r, t, o', rfl, h1, h2, rfl, h3⟩ := h
  exact k r t o' h1 h2 h3
end Mine
end

section
namespace Mine
def CodeOk (x : Int) : Prop := 0 ≤ x ∧ x ≤ 255 ∧ x ≠ 94
def CodesOk (ns : List Int) : Prop := ∀ x ∈ ns, CodeOk x
theorem codeOk_of {x : Int} (h : 0 ≤ x ∧ x ≤ 255) (h2 : x ≠ 94) : CodeOk x := ⟨h.1, h.2, h2⟩
set_option maxHeartbeats 8000000 in
theorem codes_con (w : World) (b : Addr) (o : Obj) (Z many : Int) (tm : Tok) (ho : BoxO Z o) (hZ : Z + 1 + 5 * many ≤ 100000) (hm : 1 ≤ many) (hm2 : many ≤ 1000) :
    Con w 434 [.ref b, .int many tm] 12 60 [(b, o)] (fun v led => ∃ c vs ns n o', v = .ref c ∧ led = [(c, W.listOf vs.toArray n), (b, o')] ∧ BoxO (Z + 1 + 5 * many) o' ∧ IntsAre vs (ns ++ [33]) ∧ CodesOk ns ∧ (ns.length : Int) ≤ 2 + many ∧ c ≠ b) := by
  intro dp un gd base h₀ outer s R p loose mean mg mb A hR
  have hb : Binds [(Str.ofString "many", .int many tm), (Str.ofString "box", .ref b)] := ⟨⟩
  ( k_dflt (refine' Mine.con_enter (by assumption) (by assumption) ?k6_m ?k7_m ?k9_m ?kB_m ?_ ?c2_m ?c3_m ?c4_m ?c5_m; (case k6_m => k_is); (case k7_m => k_is); (case k9_m => first | exact BindsTo.of_eq rfl | exact binds_K (Frag.In.keeps (Mine.Amb.K (by assumption)) (fun b o e => Mine.Amb.keep (by assumption) b o (Below.stays (Mine.Amb.below (by assumption)) b o e))) rfl (by k_is) rfl rfl rfl); (case c5_m => decide); (case kB_m => exact locs rfl); (case c2_m => exact rfl); (case c3_m => exact rfl); (case c4_m => exact rfl)); intro L'_m h'_m tk_m F'_m N'_m l1_m X_m T_m; have B_m := Mine.Amb.below (by assumption); have XB_m := Mine.Amb.K (by assumption); have TB_m := Mine.Amb.T (by assumption); have D_m := Mine.Amb.dicts (by assumption); have hd_m := Mine.Amb.depth (by assumption); have hu_m := Mine.Amb.units (by assumption); rename Mine.Amb _ _ _ _ _ _ _ _ _ _ _ _ _ _ _ _ => hA_m; clear hA_m; rename Mine.Binds _ => hB_m; clear hB_m; (repeat ((rename Mine.Apart _ => ap'_m); refine Mine.Apart.imp ap'_m ?_; clear ap'_m; walk_at "my_facts")); (try k_lt l1_m); (try dsimp only); (try k_fold))
  k_steps
  all_goals (repeat' (first | (delta Mine.Halt; (k_here; (with_reducible show wpAny _ _ (call (Value.ref 427) [Value.ref _, Value.int _ _]) _ _ _); k_dflt ( apply Mine.con_call (Mine.take_con _ _ _ _ _ _ ?ho_m ?hZ_m ?hm_m ?hm2_m); ( (case B => assumption); (case F => k_asm); (case N => k_asm); (case X => assumption); (case T => assumption); (case D => assumption); (case hf => exact rfl); (case hk => exact rfl); (case hP => ((repeat (apply Mine.picks_of; focus (((repeat (first | (refine' Mine.Pick.head ?pk9; (case pk9 => k_all)) | (apply Mine.Pick.tail; focus (k_ne; done))))); done))); exact rfl)); (case hd => ((try dsimp only); first | exact Mine.room (by assumption) rfl | exact Mine.room0 (by assumption) rfl | omega)); (case hu => ((try dsimp only); first | exact Mine.room (by assumption) rfl | exact Mine.room0 (by assumption) rfl | omega))); (case ho_m => assumption); (case hZ_m => (first | assumption | exact Mine.z0 (by assumption) (by decide) | exact Mine.z1 (by assumption) (by decide) | exact Mine.z2 (by assumption) (by decide) | exact Mine.z3 (by assumption) (by decide) | exact Mine.z4 (by assumption) (by decide) | omega)); (case hm_m => first | decide | omega); (case hm2_m => first | decide | omega); k_whole; intro v' h' tk' led' hv'; refine Mine.take_cps v' led' hv' ?_; clear hv'; intro r' t' o' hr1 hr2 ho' F' N' hne'; clear hne'; clear v' led'; (try simp only [List.cons_append, List.nil_append] at N'); (try k_sweep); (try dsimp only))); k_steps)))
  all_goals ((try dsimp only); (try k_unfold); (try dsimp only))
  rename_i lc hh1 l1 hh2 F1 N1 hh4 tk3 t1 u1 v1 hRng F2 N2 hK
  obtain ⟨r, hr⟩ : ∃ r, r = r' := ⟨_, rfl⟩
  obtain ⟨o1, ho1e⟩ : ∃ o1, o1 = o' := ⟨_, rfl⟩
  subst hr ho1e
  have ho1 := ho'
  delta Halt
  refine for_range (σ := Obj × List Value × Nat) (n := r.toNat) (fun c => [(lc, W.listOf c.2.1.toArray c.2.2), (b, c.1)]) (fun c => [(Str.ofString "codes", .ref lc), (Str.ofString "box", .ref b)])
    (fun i c => ∃ ns, IntsAre c.2.1 ns ∧ CodesOk ns ∧ ns.length = 2 + i ∧ BoxO (Z + 1 + 5 * (i : Int)) c.1) (o1, [.int 127 _, .int 0 _], 0) rfl hRng (by omega) (by omega) F2
    (fun q hq => N2 q (by simp only [List.mem_cons, List.not_mem_nil, or_false] at hq ⊢; exact hq.symm)) (Loc.cons rfl (Loc.cons rfl Loc.nil))
    ⟨[127, 0], .cons _ _ (.cons _ _ .nil), by simp [CodesOk, CodeOk], rfl, by simpa using ho1⟩ ?_ ?_
  · rintro i t ⟨ob, vs, n⟩ u h tk I oI hi ⟨ns, hI, hC, hlen, hB⟩ hne F3 N3
    have hne1 := neN (hne _ (.head _))
    have hne2 := neN (hne _ (.tail _ (.head _)))
    clear hne F1 N1 F2 N2 hRng hK
    have hZ5 : Z + 1 + 5 * (i : Int) + 5 ≤ 100000 := by omega
    dsimp only [envOf] at F3 N3 hI hB hlen hne1 hne2
    try k_fold
    k_steps
    all_goals (repeat' (first | (delta Mine.Halt; (k_here; (with_reducible show wpAny _ _ (call (Value.ref 427) [Value.ref _, Value.int _ _]) _ _ _); k_dflt ( apply Mine.con_call (Mine.take_con _ _ _ _ _ _ ?ho_m ?hZ_m ?hm_m ?hm2_m); ( (case B => assumption); (case F => k_asm); (case N => k_asm); (case X => assumption); (case T => assumption); (case D => assumption); (case hf => exact rfl); (case hk => exact rfl); (case hP => ((repeat (apply Mine.picks_of; focus (((repeat (first | (refine' Mine.Pick.head ?pk9; (case pk9 => k_all)) | (apply Mine.Pick.tail; focus (k_ne; done))))); done))); exact rfl)); (case hd => ((try dsimp only); first | exact Mine.room (by assumption) rfl | exact Mine.room0 (by assumption) rfl | omega)); (case hu => ((try dsimp only); first | exact Mine.room (by assumption) rfl | exact Mine.room0 (by assumption) rfl | omega))); (case ho_m => assumption); (case hZ_m => (first | assumption | exact Mine.z0 (by assumption) (by decide) | exact Mine.z1 (by assumption) (by decide) | exact Mine.z2 (by assumption) (by decide) | exact Mine.z3 (by assumption) (by decide) | exact Mine.z4 (by assumption) (by decide) | omega)); (case hm_m => first | decide | omega); (case hm2_m => first | decide | omega); k_whole; intro v' h' tk' led' hv'; refine Mine.take_cps v' led' hv' ?_; clear hv'; intro r' t' o' hr1 hr2 ho' F' N' hne'; clear hne'; clear v' led'; (try simp only [List.cons_append, List.nil_append] at N'); (try k_sweep); (try dsimp only))); k_steps)))
    all_goals ((try dsimp only); (try k_unfold); (try dsimp only))
    · rename_i hcond hh9 F9 N9
      have g1 := hr1
      have g2 := hr2
      have hB9 := ho'
      simp only [List.push_toArray] at N9
      refine turn_end (o', vs ++ [_], n + 1) F9 N9 (by k_mem) (all2 (by k_mem) (by k_mem)) (all2 hne1 hne2) (loc2 rfl rfl) ⟨ns ++ [_], intsAre_append hI (.cons _ _ .nil), ?_, by simp; omega, ?_⟩
      · intro x hx
        rcases List.mem_append.mp hx with hx | hx
        · exact hC x hx
        · rw [List.mem_singleton.mp hx]
          exact codeOk_of (getD4 (P := fun x => 0 ≤ x ∧ x ≤ 255) _ _ _ _ _ g1 g2 ⟨by omega, by omega⟩ ⟨by omega, by omega⟩ ⟨by omega, by omega⟩ ⟨by omega, by omega⟩) hcond
      · rw [show Z + 1 + 5 * ((i + 1 : Nat) : Int) = Z + 1 + 5 * (i : Int) + 1 + 1 + 1 + 1 + 1 by omega]; exact hB9
    · rename_i hcond hh9 F9 N9
      have g1 := hr1
      have g2 := hr2
      have hB9 := ho'
      simp only [List.push_toArray] at N9
      refine turn_end (o', vs ++ [_], n + 1) F9 N9 (by k_mem) (all2 (by k_mem) (by k_mem)) (all2 hne1 hne2) (loc2 rfl rfl) ⟨ns ++ [_], intsAre_append hI (.cons _ _ .nil), ?_, by simp; omega, ?_⟩
      · intro x hx
        rcases List.mem_append.mp hx with hx | hx
        · exact hC x hx
        · rw [List.mem_singleton.mp hx]
          exact ⟨by decide, by decide, by decide⟩
      · rw [show Z + 1 + 5 * ((i + 1 : Nat) : Int) = Z + 1 + 5 * (i : Int) + 1 + 1 + 1 + 1 + 1 by omega]; exact hB9
  · rintro ⟨ob, vs, n⟩ u h tk ⟨ns, hI, hC, hlen, hB⟩ F3 N3
    clear F1 N1 F2 N2 hRng hK
    dsimp only [envOf] at F3 N3 hI hB hlen
    try k_fold
    k_steps
    all_goals ((try dsimp only); (try k_unfold); (try dsimp only))
    rename Fr _ _ _ _ => FD
    rename News _ _ _ _ => ND
    rename IntsAre _ (_ ++ _) => hID
    refine con_end hR FD ND (all2 (by k_mem) (by k_mem)) ⟨_, _, ns, 0, ob, rfl, rfl, hB.mono (by omega), hID, hC, by omega, by k_ne⟩
end Mine
end
section
namespace Mine
/-- a text all of whose signs lie below 256 -/
def Lat (x : Str) : Prop := ∀ (i : Nat) c, x.cps[i]? = some c → c ≤ 255
set_option maxHeartbeats 8000000 in
theorem check_text_con (w : World) (x : Str) (t : Tok) (hx : Lat x) : Con w 143 [.str x t] 2 20 [] (fun v led => v = .none ∧ led = []) := by
  intro dp un gd base h₀ outer s R p loose mean mg mb A hR
  have hb : Binds [(Str.ofString "text", .str x t)] := ⟨⟩
  ( k_dflt (refine' Mine.con_enter (by assumption) (by assumption) ?k6_m ?k7_m ?k9_m ?kB_m ?_ ?c2_m ?c3_m ?c4_m ?c5_m; (case k6_m => k_is); (case k7_m => k_is); (case k9_m => first | exact BindsTo.of_eq rfl | exact binds_K (Frag.In.keeps (Mine.Amb.K (by assumption)) (fun b o e => Mine.Amb.keep (by assumption) b o (Below.stays (Mine.Amb.below (by assumption)) b o e))) rfl (by k_is) rfl rfl rfl); (case c5_m => decide); (case kB_m => exact locs rfl); (case c2_m => exact rfl); (case c3_m => exact rfl); (case c4_m => exact rfl)); intro L'_m h'_m tk_m F'_m N'_m l1_m X_m T_m; have B_m := Mine.Amb.below (by assumption); have XB_m := Mine.Amb.K (by assumption); have TB_m := Mine.Amb.T (by assumption); have D_m := Mine.Amb.dicts (by assumption); have hd_m := Mine.Amb.depth (by assumption); have hu_m := Mine.Amb.units (by assumption); rename Mine.Amb _ _ _ _ _ _ _ _ _ _ _ _ _ _ _ _ => hA_m; clear hA_m; rename Mine.Binds _ => hB_m; clear hB_m; (repeat ((rename Mine.Apart _ => ap'_m); refine Mine.Apart.imp ap'_m ?_; clear ap'_m; walk_at "my_facts")); (try k_lt l1_m); (try dsimp only); (try k_fold))
  k_steps
  rename Fr _ _ _ _ => F1
  delta Halt
  refine for_str (σ := Unit) (fun _ => []) (fun _ => []) (fun _ _ => True) () rfl F1 News.nil Loc.nil trivial ?_ ?_
  · rintro i d t1 ⟨⟩ u h tk I oI hd - hne F3 N3
    clear hne
    have hd2 := hx _ _ hd
    dsimp only [envOf] at F3 N3
    try k_fold
    k_steps
    exact turn_end () F3 N3 (.head _) (fun _ h => nomatch h) (fun _ h => nomatch h) Loc.nil trivial
  · rintro ⟨⟩ u h tk - F3 N3
    dsimp only [envOf] at F3 N3
    try k_fold
    k_steps
    all_goals ((try dsimp only); (try k_unfold); (try dsimp only))
    exact con_end hR F3 N3 (fun _ h => h) ⟨rfl, rfl⟩
end Mine
end

section
namespace Mine
set_option maxHeartbeats 8000000 in
theorem check_name_con (w : World) (x : Str) (t : Tok) (hx : Lat x) (hne : (x == Str.ofString "") = false) : Con w 241 [.str x t] 6 40 [] (fun v led => v = .none ∧ led = []) := by
  intro dp un gd base h₀ outer s R p loose mean mg mb A hR
  have hb : Binds [(Str.ofString "name", .str x t)] := ⟨⟩
  ( k_dflt (refine' Mine.con_enter (by assumption) (by assumption) ?k6_m ?k7_m ?k9_m ?kB_m ?_ ?c2_m ?c3_m ?c4_m ?c5_m; (case k6_m => k_is); (case k7_m => k_is); (case k9_m => first | exact BindsTo.of_eq rfl | exact binds_K (Frag.In.keeps (Mine.Amb.K (by assumption)) (fun b o e => Mine.Amb.keep (by assumption) b o (Below.stays (Mine.Amb.below (by assumption)) b o e))) rfl (by k_is) rfl rfl rfl); (case c5_m => decide); (case kB_m => exact locs rfl); (case c2_m => exact rfl); (case c3_m => exact rfl); (case c4_m => exact rfl)); intro L'_m h'_m tk_m F'_m N'_m l1_m X_m T_m; have B_m := Mine.Amb.below (by assumption); have XB_m := Mine.Amb.K (by assumption); have TB_m := Mine.Amb.T (by assumption); have D_m := Mine.Amb.dicts (by assumption); have hd_m := Mine.Amb.depth (by assumption); have hu_m := Mine.Amb.units (by assumption); rename Mine.Amb _ _ _ _ _ _ _ _ _ _ _ _ _ _ _ _ => hA_m; clear hA_m; rename Mine.Binds _ => hB_m; clear hB_m; (repeat ((rename Mine.Apart _ => ap'_m); refine Mine.Apart.imp ap'_m ?_; clear ap'_m; walk_at "my_facts")); (try k_lt l1_m); (try dsimp only); (try k_fold))
  k_steps
  all_goals (repeat' (first | (delta Mine.Halt; (k_here; (with_reducible show wpAny _ _ (call (Value.ref 143) [Value.str _ _]) _ _ _); k_dflt ( apply Mine.con_callE (Mine.check_text_con _ _ _ ?hx_m); ( (case B => assumption); (case F => k_asm); (case N => k_asm); (case X => assumption); (case T => assumption); (case D => assumption); (case hf => exact rfl); (case hk => exact rfl); (case hP => ((repeat (apply Mine.picks_of; focus (((repeat (first | (refine' Mine.Pick.head ?pk9; (case pk9 => k_all)) | (apply Mine.Pick.tail; focus (k_ne; done))))); done))); exact rfl)); (case hd => ((try dsimp only); first | exact Mine.room (by assumption) rfl | exact Mine.room0 (by assumption) rfl | omega)); (case hu => ((try dsimp only); first | exact Mine.room (by assumption) rfl | exact Mine.room0 (by assumption) rfl | omega))); (case hx_m => assumption); k_whole; intro h'_m tk'_m F'_m N'_m; ((try (rename News _ _ _ _ => n9'_m; simp only [List.cons_append, List.nil_append] at n9'_m)); (try k_sweep); (try dsimp only)))); k_steps)))
  all_goals ((try dsimp only); (try k_unfold); (try dsimp only))
  exact con_end hR (by assumption) (by assumption) (fun _ h => h) ⟨rfl, rfl⟩
end Mine
end
section
namespace Mine
open PySem.Spec
set_option maxHeartbeats 8000000 in
theorem init_con88 (w : World) (e t : Addr) (x : Str) (tx : Tok) : Con w 36 [.ref e, .str x tx] 1 20 [(e, excO 88 t none)] (fun v led => ∃ d, v = .none ∧ led = [(e, excO 88 t (some d))]) := by
  intro dp un gd base h₀ outer s R p loose mean mg mb A hR
  have hb : Binds [(Str.ofString "reason", .str x tx), (Str.ofString "self", .ref e)] := ⟨⟩
  ( k_dflt (refine' Mine.con_enter (by assumption) (by assumption) ?k6_m ?k7_m ?k9_m ?kB_m ?_ ?c2_m ?c3_m ?c4_m ?c5_m; (case k6_m => k_is); (case k7_m => k_is); (case k9_m => first | exact BindsTo.of_eq rfl | exact binds_K (Frag.In.keeps (Mine.Amb.K (by assumption)) (fun b o e => Mine.Amb.keep (by assumption) b o (Below.stays (Mine.Amb.below (by assumption)) b o e))) rfl (by k_is) rfl rfl rfl); (case c5_m => decide); (case kB_m => exact locs rfl); (case c2_m => exact rfl); (case c3_m => exact rfl); (case c4_m => exact rfl)); intro L'_m h'_m tk_m F'_m N'_m l1_m X_m T_m; have B_m := Mine.Amb.below (by assumption); have XB_m := Mine.Amb.K (by assumption); have TB_m := Mine.Amb.T (by assumption); have D_m := Mine.Amb.dicts (by assumption); have hd_m := Mine.Amb.depth (by assumption); have hu_m := Mine.Amb.units (by assumption); rename Mine.Amb _ _ _ _ _ _ _ _ _ _ _ _ _ _ _ _ => hA_m; clear hA_m; rename Mine.Binds _ => hB_m; clear hB_m; (repeat ((rename Mine.Apart _ => ap'_m); refine Mine.Apart.imp ap'_m ?_; clear ap'_m; walk_at "my_facts")); (try k_lt l1_m); (try dsimp only); (try k_fold))
  k_steps
  all_goals (repeat' (first | ((k_here; k_dflt (refine' Mine.exc_set_led ?F ?N ?X ?hs_m ?hc_m ?hm_m ?hd ?hn_m ?_; (case F => k_asm); (case N => k_asm); (case X => k_asm); (case hs_m => k_is); (case hc_m => k_is); (case hm_m => rfl); (case hd => rfl); (case hn_m => k_is)); intro h'_m d'_m tk'_m F'_m N'_m; (try k_sweep)); k_steps)))
  all_goals ((try dsimp only); (try k_unfold); (try dsimp only))
  exact con_end hR (by assumption) (by assumption) (fun _ h => h) ⟨_, rfl, rfl⟩
set_option maxHeartbeats 8000000 in
theorem init_con52 (w : World) (e t : Addr) (x : Str) (tx : Tok) : Con w 36 [.ref e, .str x tx] 1 20 [(e, excO 52 t none)] (fun v led => ∃ d, v = .none ∧ led = [(e, excO 52 t (some d))]) := by
  intro dp un gd base h₀ outer s R p loose mean mg mb A hR
  have hb : Binds [(Str.ofString "reason", .str x tx), (Str.ofString "self", .ref e)] := ⟨⟩
  ( k_dflt (refine' Mine.con_enter (by assumption) (by assumption) ?k6_m ?k7_m ?k9_m ?kB_m ?_ ?c2_m ?c3_m ?c4_m ?c5_m; (case k6_m => k_is); (case k7_m => k_is); (case k9_m => first | exact BindsTo.of_eq rfl | exact binds_K (Frag.In.keeps (Mine.Amb.K (by assumption)) (fun b o e => Mine.Amb.keep (by assumption) b o (Below.stays (Mine.Amb.below (by assumption)) b o e))) rfl (by k_is) rfl rfl rfl); (case c5_m => decide); (case kB_m => exact locs rfl); (case c2_m => exact rfl); (case c3_m => exact rfl); (case c4_m => exact rfl)); intro L'_m h'_m tk_m F'_m N'_m l1_m X_m T_m; have B_m := Mine.Amb.below (by assumption); have XB_m := Mine.Amb.K (by assumption); have TB_m := Mine.Amb.T (by assumption); have D_m := Mine.Amb.dicts (by assumption); have hd_m := Mine.Amb.depth (by assumption); have hu_m := Mine.Amb.units (by assumption); rename Mine.Amb _ _ _ _ _ _ _ _ _ _ _ _ _ _ _ _ => hA_m; clear hA_m; rename Mine.Binds _ => hB_m; clear hB_m; (repeat ((rename Mine.Apart _ => ap'_m); refine Mine.Apart.imp ap'_m ?_; clear ap'_m; walk_at "my_facts")); (try k_lt l1_m); (try dsimp only); (try k_fold))
  k_steps
  all_goals (repeat' (first | ((k_here; k_dflt (refine' Mine.exc_set_led ?F ?N ?X ?hs_m ?hc_m ?hm_m ?hd ?hn_m ?_; (case F => k_asm); (case N => k_asm); (case X => k_asm); (case hs_m => k_is); (case hc_m => k_is); (case hm_m => rfl); (case hd => rfl); (case hn_m => k_is)); intro h'_m d'_m tk'_m F'_m N'_m; (try k_sweep)); k_steps)))
  all_goals ((try dsimp only); (try k_unfold); (try dsimp only))
  exact con_end hR (by assumption) (by assumption) (fun _ h => h) ⟨_, rfl, rfl⟩
end Mine
end
section
namespace Mine
open PySem.Spec
section
variable {w : World} {A₀ : Around} {base h₀ : Heap} {outer : List Env} {s : Shared} {L : Addr} {m : Str → Option Value} {news pre : List (Addr × Obj)} {env : Env}
  {dp un d u : Nat} {gd : Option (List Code)} {f C : Addr} {args : List Value} {post : Value → List (Addr × Obj) → Prop} {Q E : Value → Shared → Prop}
  {p : Program} {loose : List Str} {mean : ExcName → Option Value} {mg mb : Str → Option Value}

/-- as con_use, and whatever stood stands -/
theorem con_use_all (C : Con w f args d u pre post) (B : Below A₀ base outer h₀) (F : Fr h₀ L s.heap m) (N : News h₀ L s.heap pre) (X : (Mine.hd.heap_39 w.params).In base) (T : Top p loose mean mg mb base) (D : KtsDicts (outer.filterMap (·.frame)) h₀)
    (hf : env.frame = some L) (hke : env.scope.kind = .function) (hd : dp + d < recursionLimit) (hu : un + u < cLine)
    (h : ∀ v h' tk' led, post v led → (∀ b o, s.heap.get? b = some o → b ∉ pre.map (·.1) → h'.get? b = some o) → (∀ q ∈ led, h'.get? q.1 = some q.2) → Q v { s with heap := h', toks := tk' }) :
    wpAny (model PySem.Challenge.rw_sq0039_01.row.prog w) (⟨none, dp, some (env :: outer), gd, un⟩ : Around) (call (.ref f) args) Q E s := by
  obtain ⟨FG, st, A⟩ := amb_of (gd := gd) (d := d) (u := u) B F N X T D hf hke (fun _ h => h) hd hu
  refine wpAny_call (C dp un gd base _ (env :: outer) s _ p loose mean mg mb A fun v h' tk' led hpost hk hl => ?_)
  exact h v h' tk' led hpost (fun b o e hb => hk b o (hideAll_get _ e hb)) fun q hq => (hl q hq).1

theorem exc_made {nm q : Str} {N₁ : Addr} {bs bm : List Value} {hdct : Bool} {sn : List Str} {sub : List Value} {ab : Bool} {col : Option Bool} {dd : Option Addr} {k0 k1 k2 k3 k5 : Option Value} {x : Str} {tx : Tok} {oI : Obj}
    (hini : ∀ e t, Con w 36 [.ref e, .str x tx] 1 20 [(e, excO C t none)] (fun v led => ∃ d, v = .none ∧ led = [(e, excO C t (some d))]))
    (B : Below A₀ base outer h₀) (F : Fr h₀ L s.heap m) (X : (Mine.hd.heap_39 w.params).In base) (T : Top p loose mean mg mb base) (D : KtsDicts (outer.filterMap (·.frame)) h₀)
    (hf : env.frame = some L) (hke : env.scope.kind = .function)
    (hC : (Mine.hd.heap_39 w.params).lookup C = some (excClassObj nm q C N₁ bs bm hdct sn sub ab col dd k0 k1 k2 k3 k5 "ValueError.__new__"))
    (hB : bm.contains (.type "ValueError") = true) (hA : bm.contains (.type "AttributeError") = false) (hN : bm.contains (.type "NameError") = false)
    (hi : findIn (Mine.hd.heap_39 w.params) (.ref C) "__init__" = some (some (.ref 36))) (hfI : (Mine.hd.heap_39 w.params).lookup 36 = some oI) (hfc : oI.cls = .type "function")
    (hd : dp + 2 < recursionLimit) (hu : un + 30 < cLine)
    (h : ∀ h' e t d tk', (∀ b o, s.heap.get? b = some o → h'.get? b = some o) → s.heap.get? e = none → h'.get? e = some (excO C t (some d)) → s.heap.get? t = none → h'.TupAt t [.str x tx] → Q (.ref e) { s with heap := h', toks := tk' }) :
    wpAny (model PySem.Challenge.rw_sq0039_01.row.prog w) (⟨none, dp, some (env :: outer), gd, un⟩ : Around) (call (.ref C) [.str x tx]) Q E s := by
  have XB := X.keeps B.stays
  have XS := XB.keeps F.keep
  obtain ⟨h1, g, dr, tk, os⟩ := s
  refine exc_call PySem.F.excBase_ValueError hB hA hN (XS _ _ hC) (looks_findIn XS hi) (XS _ _ hfI) hfc (fun h' e hm => ?_) (by show 1 ≤ sizeLine; decide)
  rw [under_call]
  obtain ⟨t, he, htn, ht⟩ := hm.there
  have hLs := F.ns
  have hne : e ≠ L := fun z => by
    obtain ⟨o, _, _, ho, _⟩ := hLs
    have := hm.new
    rw [z] at this
    exact nomatch (this.symm.trans ho)
  have hnh : h₀.get? e = none := by
    cases q : h₀.get? e with
    | none => rfl
    | some o => have := F.keep _ _ q; dsimp only at this; rw [hm.new] at this; cases this
  have F' : Fr h₀ L h' m := ⟨F.ns.keeps hm.keeps, fun b o e => hm.keeps b o (F.keep b o e), F.above⟩
  refine con_use_all (s := ⟨h', g, dr, tk, os⟩) (hini e t) B F' (fun p hp => by rw [List.mem_singleton.mp hp]; exact ⟨he, hne, hnh⟩) X T D hf hke (by omega) (by omega) ?_
  rintro v h'' tk' led ⟨d, rfl, rfl⟩ hk hl
  have hkk : ∀ b o, h1.get? b = some o → h''.get? b = some o := fun b o e' => hk b o (hm.keeps b o e') fun hb => by
    have z : b = e := by simpa using hb
    rw [z, hm.new] at e'; cases e'
  refine ⟨rfl, h h'' e t d tk' hkk hm.new (hl _ (.head _)) htn ⟨_, _, hk _ _ ht fun hb => ?_, rfl, rfl⟩⟩
  have z : t = e := by simpa using hb
  rw [z, he] at ht
  cases ht

theorem exc_raise_open {nm q : Str} {N₁ : Addr} {bs bm : List Value} {hdct : Bool} {sn : List Str} {sub : List Value} {ab : Bool} {col : Option Bool} {dd : Option Addr} {k0 k1 k2 k3 k5 : Option Value} {A : Around} {exc : Expr} {pos : Pos} {newId : String} {Q : Flow → Shared → Prop}
    (hh : A.handled = none) (hC : (Mine.hd.heap_39 w.params).lookup C = some (excClassObj nm q C N₁ bs bm hdct sn sub ab col dd k0 k1 k2 k3 k5 newId)) (hbase : bm.contains (.type "BaseException") = true)
    (h : wpAny (model PySem.Challenge.rw_sq0039_01.row.prog w) A (eval exc env) (fun v s₁ => ∃ e t d, v = .ref e ∧ (Mine.hd.heap_39 w.params).In s₁.heap ∧ s₁.heap.get? e = some (excO C t d) ∧ E (.ref e) s₁) E s) :
    wpAny (model PySem.Challenge.rw_sq0039_01.row.prog w) A (exec (.Raise (some exc) none pos) env) Q E s := by
  rw [arm_exec_Raise]
  refine wpAny_bind (wpAny_standAt ?_)
  refine exc_raiseStmt (C := C) (nm := nm) (q := q) (N := N₁) (bs := bs) (bm := bm) (hdct := hdct) (sn := sn) (sub := sub) (ab := ab) (col := col) (dd := dd) (k0 := k0) (k1 := k1) (k2 := k2) (k3 := k3) (k5 := k5) (newId := newId) hbase hh ?_
  refine wpAny_bind (wpAny_mono h (fun v s₁ h₁ => ?_) fun _ _ x => x)
  obtain ⟨e, t, d, rfl, X, he, hE⟩ := h₁
  exact wpAny_bind (wpAny_standAt (wpAny_pure ⟨e, t, d, rfl, X _ _ hC, he, hE⟩))
end

theorem leave_exc {M : Model} {A : Around} {E : Value → Shared → Prop} {s' : Shared} {base g h : Heap} {outer : List Env} {L a e t C : Addr} {m : Str → Option Value} {name : Str} {scope : Scope} {cd : Value} {Q : Unit → Shared → Prop} {news : List (Addr × Obj)} {vs : List Value} {d : Option Addr}
    (K : Below A base outer g) (F : Fr g L h m) (N : News g L h news) (hk : ∀ b o, h.get? b = some o → s'.heap.get? b = some o) (hn : h.get? e = none) (he : s'.heap.get? e = some (excO C t d)) (htn : h.get? t = none) (ht : s'.heap.TupAt t vs)
    (hQ : ∀ h', RaisedS base g outer e (.ref C) t vs news h' → g.UpToSlots h' → Q () { s' with heap := h' }) (hsk : scope.kind = .function := by rfl) :
    wpAny M (A.deeper (envOf name scope L a cd)) (leaving (envOf name scope L a cd) (.ref e)) Q E s' := by
  have K' := K.push (name := name) (a := a) (cd := cd) F hsk
  have hin : ∀ env ∈ (envOf name scope L a cd :: outer), ∀ b, env.frame = some b → b ∈ (envOf name scope L a cd :: outer).filterMap (·.frame) := fun env he b hb => List.mem_filterMap.mpr ⟨env, he, hb⟩
  have st : base.StaysIn (hideAll h ((envOf name scope L a cd :: outer).filterMap (·.frame))) := fun b o q => hideAll_get _ (K'.stays b o q) fun hm => by
    rw [(K'.frames.mem hm).1] at q; cases q
  have sg : ∀ b o, g.get? b = some o → b ∉ outer.filterMap (·.frame) → (hideAll h ((envOf name scope L a cd :: outer).filterMap (·.frame))).get? b = some o := fun b o q nm => hideAll_get _ (F.keep b o q) fun hm => by
    rcases kts_mem hm with z | z
    · rw [z, kts_self F] at q
      cases q
    · exact nm z
  have hl : ∀ q ∈ news, (hideAll h ((envOf name scope L a cd :: outer).filterMap (·.frame))).get? q.1 = some q.2 ∧ g.get? q.1 = none ∧ base.get? q.1 = none := fun q hq => by
    refine ⟨hideAll_get _ (N q hq).1 fun hm => ?_, (N q hq).2.2, fresh_of_stays K.stays (N q hq).2.2⟩
    obtain ⟨env, he, hf⟩ := List.mem_filterMap.mp hm
    rcases List.mem_cons.mp he with rfl | he
    · exact (N q hq).2.1 (Option.some.inj hf).symm
    · obtain ⟨o, ho, _⟩ := (K.frames.mem (List.mem_filterMap.mpr ⟨env, he, hf⟩)).2
      rw [(N q hq).2.2] at ho; cases ho
  have hidn : ∀ b, h.get? b = none → (hideAll h ((envOf name scope L a cd :: outer).filterMap (·.frame))).get? b = none := fun b hb => by
    cases q : (hideAll h ((envOf name scope L a cd :: outer).filterMap (·.frame))).get? b with
    | none => rfl
    | some o => have := of_hideAll _ q; rw [hb] at this; cases this
  refine wpAny_leaving_firstW (a0 := .ref t) (base := hideAll h ((envOf name scope L a cd :: outer).filterMap (·.frame))) K'.stack ((funFrames_hide K'.frames hin).of_keeps fun b o hb _ => ⟨o, hk b o hb, rfl⟩) rfl he (fun b o hb => hk b o (of_hideAll _ hb)) (hidn e hn) rfl rfl rfl fun h' hL => ?_
  obtain ⟨k1, ⟨_, _, k2⟩, k3, k4⟩ := hL
  exact hQ h' ⟨⟨_, st, sg, hl, ⟨k1, hidn e hn, k2, k3⟩, hidn t htn⟩, ht.of_slots k4⟩ (((Heap.UpToSlots.of_keeps F.keep).trans (Heap.UpToSlots.of_keeps hk)).trans k4)
end Mine
end
section
namespace Mine
section
variable {w : World} {d u : Nat} {f C : Addr} {args : List Value} {pre pre' : List (Addr × Obj)}
/-- a raising contract with a wider footprint: what it bears stays what it is -/
theorem conR_conv (C' : ConR w f args d u pre C) (hs : ∀ q ∈ pre, q ∈ pre') (hr : ∀ q ∈ pre', q ∈ pre ∨ ∀ r ∈ pre, q.1 ≠ r.1) : ConR w f args d u pre' C := by
  intro dp un gd base h₀ outer s R p loose mean mg mb A hR
  obtain ⟨A', st⟩ := amb_frame A hs
  refine C' dp un gd base _ outer s R p loose mean mg mb A' fun e t vs h' tk' hS hU => hR e t vs h' tk' ?_ ?_
  · obtain ⟨⟨B, hB, hBG, hl, hfl, hnew⟩, htup⟩ := hS
    refine ⟨⟨B, hB, fun b o e1 hb => hBG b o (st b o e1) hb, fun q hq => ?_, hfl, hnew⟩, htup⟩
    have h0 : h₀.get? q.1 = none := (A.led q hq).2
    have hb : base.get? q.1 = none := by
      cases e1 : base.get? q.1 with
      | none => rfl
      | some o => have := A.below.stays _ _ e1; rw [h0] at this; cases this
    refine ⟨?_, h0, hb⟩
    rcases hr q hq with h1 | h1
    · exact (hl q h1).1
    · refine hBG q.1 q.2 (hideAll_get _ (A.led q hq).1 fun hm => ?_) fun hm => ?_
      · obtain ⟨r, hr1, hr2⟩ := List.mem_map.mp hm
        exact h1 r hr1 hr2.symm
      · obtain ⟨o, _, _, ho, _⟩ := A.dicts _ hm
        rw [h0] at ho; cases ho
  · intro b o e1 hnd
    exact hU b o (st b o e1) hnd
end
end Mine
namespace Mine
theorem conT_end {s : Shared} {h₀ g' h' : Heap} {L : Addr} {m : Str → Option Value} {outer : List Env} {led news : List (Addr × Obj)} {post : Value → List (Addr × Obj) → Prop} {R : Result → Shared → Prop} {v : Value} {tk' : Nat}
    (hR : ∀ v h' tk' led g', post v led → KtsTurn (outer.filterMap (·.frame)) h₀ g' → (∀ b o, g'.get? b = some o → h'.get? b = some o) → (∀ q ∈ led, h'.get? q.1 = some q.2 ∧ h₀.get? q.1 = none) →
      R (.ok (.ret v)) { s with heap := h', toks := tk' }) (T : KtsTurn (outer.filterMap (·.frame)) h₀ g') (F : Fr g' L h' m) (N : News g' L h' news) (hs : ∀ q ∈ led, q ∈ news) (hp : post v led) :
    R (.ok (.ret v)) { s with heap := h', toks := tk' } := hR v h' tk' led g' hp T F.keep fun q hq => ⟨(N q (hs q hq)).1, by
      cases e : h₀.get? q.1 with
      | none => rfl
      | some o =>
        obtain ⟨sl, h1⟩ := T.up e
        have := (N q (hs q hq)).2.2
        rw [h1] at this; cases this⟩
/-- a contract that comes back without a catch is one that may have caught -/
theorem con_toT {w : World} {d u : Nat} {f : Addr} {args : List Value} {pre : List (Addr × Obj)} {post : Value → List (Addr × Obj) → Prop} (C : Con w f args d u pre post) : ConT w f args d u pre post := by
  intro dp un gd base h₀ outer s R p loose mean mg mb A hR
  exact C dp un gd base h₀ outer s R p loose mean mg mb A fun v h' tk' led hp hk hl => hR v h' tk' led h₀ hp KtsTurn.refl hk hl
end Mine
namespace Mine
section
variable {w : World} {A₀ : Around} {base h₀ : Heap} {outer : List Env} {s : Shared} {L : Addr} {m : Str → Option Value} {news pre rest : List (Addr × Obj)} {env : Env}
  {dp un d u : Nat} {gd : Option (List Code)} {f : Addr} {args : List Value} {post : Value → List (Addr × Obj) → Prop} {Q E : Value → Shared → Prop}
  {p : Program} {loose : List Str} {mean : ExcName → Option Value} {mg mb : Str → Option Value}
theorem con_callT (C : ConT w f args d u pre post) (B : Below A₀ base outer h₀) (F : Fr h₀ L s.heap m) (N : News h₀ L s.heap news) (X : (Mine.hd.heap_39 w.params).In base) (T : Top p loose mean mg mb base) (D : KtsDicts (outer.filterMap (·.frame)) h₀)
    (hf : env.frame = some L) (hk : env.scope.kind = .function) (hP : Picks pre news rest) (hd : dp + d < recursionLimit) (hu : un + u < cLine) {g₀ : Heap} (T0 : KtsTurn (outer.filterMap (·.frame)) g₀ h₀)
    (h : ∀ v h' tk' led g', post v led → KtsTurn (outer.filterMap (·.frame)) g₀ g' → Below A₀ base outer g' → (Mine.hd.heap_39 w.params).In g' → Top p loose mean mg mb g' → KtsDicts (outer.filterMap (·.frame)) g' →
      Fr g' L h' m → News g' L h' (led ++ rest) → (∀ q ∈ led, ∀ r ∈ rest, q.1 ≠ r.1) → Q v { s with heap := h', toks := tk' }) :
    wpAny (model PySem.Challenge.rw_sq0039_01.row.prog w) (⟨none, dp, some (env :: outer), gd, un⟩ : Around) (call (.ref f) args) Q E s :=
  con_useT C B F N X T D hf hk hP.sub.1 hP.sub.2 hd hu fun v h' tk' led g' h1 h2 h3 h4 h5 h6 h7 h8 h9 => h v h' tk' led g' h1 (T0.trans h2) h3 h4 h5 h6 h7 h8 h9
end
end Mine
end
section
namespace Mine
set_option maxHeartbeats 8000000 in
theorem whole_con (w : World) (a b c : Int) (ta tb tc : Tok) : Con w 109 [.int a ta, .int b tb, .int c tc] 1 20 [] (fun v led => v = .bool (decide (b ≤ a ∧ a ≤ c)) ∧ led = []) := by
  intro dp un gd base h₀ outer s R p loose mean mg mb A hR
  have hb : Binds [(Str.ofString "high", .int c tc), (Str.ofString "low", .int b tb), (Str.ofString "value", .int a ta)] := ⟨⟩
  ( k_dflt (refine' Mine.con_enter (by assumption) (by assumption) ?k6_m ?k7_m ?k9_m ?kB_m ?_ ?c2_m ?c3_m ?c4_m ?c5_m; (case k6_m => k_is); (case k7_m => k_is); (case k9_m => first | exact BindsTo.of_eq rfl | exact binds_K (Frag.In.keeps (Mine.Amb.K (by assumption)) (fun b o e => Mine.Amb.keep (by assumption) b o (Below.stays (Mine.Amb.below (by assumption)) b o e))) rfl (by k_is) rfl rfl rfl); (case c5_m => decide); (case kB_m => exact locs rfl); (case c2_m => exact rfl); (case c3_m => exact rfl); (case c4_m => exact rfl)); intro L'_m h'_m tk_m F'_m N'_m l1_m X_m T_m; have B_m := Mine.Amb.below (by assumption); have XB_m := Mine.Amb.K (by assumption); have TB_m := Mine.Amb.T (by assumption); have D_m := Mine.Amb.dicts (by assumption); have hd_m := Mine.Amb.depth (by assumption); have hu_m := Mine.Amb.units (by assumption); rename Mine.Amb _ _ _ _ _ _ _ _ _ _ _ _ _ _ _ _ => hA_m; clear hA_m; rename Mine.Binds _ => hB_m; clear hB_m; (repeat ((rename Mine.Apart _ => ap'_m); refine Mine.Apart.imp ap'_m ?_; clear ap'_m; walk_at "my_facts")); (try k_lt l1_m); (try dsimp only); (try k_fold))
  k_steps
  all_goals ((try dsimp only); (try k_unfold); (try dsimp only))
  all_goals exact con_end hR (by assumption) (by assumption) (fun _ h => h) ⟨congrArg Value.bool (decide_eq_decide.mpr (by omega)), rfl⟩
set_option maxHeartbeats 8000000 in
theorem whole_bool (w : World) (a : Bool) (b c : Int) (tb tc : Tok) : Con w 109 [.bool a, .int b tb, .int c tc] 1 20 [] (fun v led => v = .bool false ∧ led = []) := by
  intro dp un gd base h₀ outer s R p loose mean mg mb A hR
  have hb : Binds [(Str.ofString "high", .int c tc), (Str.ofString "low", .int b tb), (Str.ofString "value", .bool a)] := ⟨⟩
  ( k_dflt (refine' Mine.con_enter (by assumption) (by assumption) ?k6_m ?k7_m ?k9_m ?kB_m ?_ ?c2_m ?c3_m ?c4_m ?c5_m; (case k6_m => k_is); (case k7_m => k_is); (case k9_m => first | exact BindsTo.of_eq rfl | exact binds_K (Frag.In.keeps (Mine.Amb.K (by assumption)) (fun b o e => Mine.Amb.keep (by assumption) b o (Below.stays (Mine.Amb.below (by assumption)) b o e))) rfl (by k_is) rfl rfl rfl); (case c5_m => decide); (case kB_m => exact locs rfl); (case c2_m => exact rfl); (case c3_m => exact rfl); (case c4_m => exact rfl)); intro L'_m h'_m tk_m F'_m N'_m l1_m X_m T_m; have B_m := Mine.Amb.below (by assumption); have XB_m := Mine.Amb.K (by assumption); have TB_m := Mine.Amb.T (by assumption); have D_m := Mine.Amb.dicts (by assumption); have hd_m := Mine.Amb.depth (by assumption); have hu_m := Mine.Amb.units (by assumption); rename Mine.Amb _ _ _ _ _ _ _ _ _ _ _ _ _ _ _ _ => hA_m; clear hA_m; rename Mine.Binds _ => hB_m; clear hB_m; (repeat ((rename Mine.Apart _ => ap'_m); refine Mine.Apart.imp ap'_m ?_; clear ap'_m; walk_at "my_facts")); (try k_lt l1_m); (try dsimp only); (try k_fold))
  k_steps
  all_goals ((try dsimp only); (try k_unfold); (try dsimp only))
  all_goals exact con_end hR (by assumption) (by assumption) (fun _ h => h) ⟨rfl, rfl⟩
end Mine
end
section
namespace Mine
def hexVal (a : Int) : Int := if 48 ≤ a ∧ a ≤ 57 then a - 48 else if 97 ≤ a ∧ a ≤ 102 then a - 87 else -1
set_option maxHeartbeats 8000000 in
theorem hex_con (w : World) (a : Int) (ta : Tok) : Con w 314 [.int a ta] 2 20 [] (fun v led => (∃ t, v = .int (hexVal a) t) ∧ led = []) := by
  intro dp un gd base h₀ outer s R p loose mean mg mb A hR
  have hb : Binds [(Str.ofString "code", .int a ta)] := ⟨⟩
  ( k_dflt (refine' Mine.con_enter (by assumption) (by assumption) ?k6_m ?k7_m ?k9_m ?kB_m ?_ ?c2_m ?c3_m ?c4_m ?c5_m; (case k6_m => k_is); (case k7_m => k_is); (case k9_m => first | exact BindsTo.of_eq rfl | exact binds_K (Frag.In.keeps (Mine.Amb.K (by assumption)) (fun b o e => Mine.Amb.keep (by assumption) b o (Below.stays (Mine.Amb.below (by assumption)) b o e))) rfl (by k_is) rfl rfl rfl); (case c5_m => decide); (case kB_m => exact locs rfl); (case c2_m => exact rfl); (case c3_m => exact rfl); (case c4_m => exact rfl)); intro L'_m h'_m tk_m F'_m N'_m l1_m X_m T_m; have B_m := Mine.Amb.below (by assumption); have XB_m := Mine.Amb.K (by assumption); have TB_m := Mine.Amb.T (by assumption); have D_m := Mine.Amb.dicts (by assumption); have hd_m := Mine.Amb.depth (by assumption); have hu_m := Mine.Amb.units (by assumption); rename Mine.Amb _ _ _ _ _ _ _ _ _ _ _ _ _ _ _ _ => hA_m; clear hA_m; rename Mine.Binds _ => hB_m; clear hB_m; (repeat ((rename Mine.Apart _ => ap'_m); refine Mine.Apart.imp ap'_m ?_; clear ap'_m; walk_at "my_facts")); (try k_lt l1_m); (try dsimp only); (try k_fold))
  k_steps
  all_goals ((try dsimp only); (try k_unfold); (try dsimp only))
  all_goals exact con_end hR (by assumption) (by assumption) (fun _ h => h) ⟨⟨_, congrArg (fun z => Value.int z _) (by unfold hexVal; (repeat' split) <;> omega)⟩, rfl⟩
end Mine
end

section
namespace Mine
/-- what the signs after two equal ones say: the code, and how many places it takes -/
def otherwise (m n : Int) : Int × Int := if 0 ≤ hexVal m ∧ 0 ≤ hexVal n then (16 * hexVal m + hexVal n, 4) else if m < 64 then (m + 64, 3) else (m - 64, 3)
set_option maxHeartbeats 8000000 in
theorem wo_con (w : World) (cl : Addr) (tk : Tok) (vs : List Value) (ns : List Int) (n : Nat) (k : Int) (hi : IntsAre vs ns) (h0 : 0 ≤ k) (hk : k + 3 < (ns.length : Int)) (hl : ns.length ≤ 100000)
    (e1 : ns.getD (k + 1).toNat 0 = ns.getD k.toNat 0) (e2 : ns.getD (k + 2).toNat 0 ≤ 127) :
    Con w 321 [.ref cl, .int k tk] 6 50 [(cl, W.listOf vs.toArray n)] (fun v led => ∃ tp r q t1 t2, v = .ref tp ∧ led = [(tp, { cls := .type "tuple", data := .seq #[.int r t1, .int q t2] }), (cl, W.listOf vs.toArray n)] ∧ (r, q) = otherwise (ns.getD (k + 2).toNat 0) (ns.getD (k + 3).toNat 0) ∧ Apart [tp, cl]) := by
  intro dp un gd base h₀ outer s R p loose mean mg mb A hR
  have hb : Binds [(Str.ofString "place", .int k tk), (Str.ofString "codes", .ref cl)] := ⟨⟩
  ( k_dflt (refine' Mine.con_enter (by assumption) (by assumption) ?k6_m ?k7_m ?k9_m ?kB_m ?_ ?c2_m ?c3_m ?c4_m ?c5_m; (case k6_m => k_is); (case k7_m => k_is); (case k9_m => first | exact BindsTo.of_eq rfl | exact binds_K (Frag.In.keeps (Mine.Amb.K (by assumption)) (fun b o e => Mine.Amb.keep (by assumption) b o (Below.stays (Mine.Amb.below (by assumption)) b o e))) rfl (by k_is) rfl rfl rfl); (case c5_m => decide); (case kB_m => exact locs rfl); (case c2_m => exact rfl); (case c3_m => exact rfl); (case c4_m => exact rfl)); intro L'_m h'_m tk_m F'_m N'_m l1_m X_m T_m; have B_m := Mine.Amb.below (by assumption); have XB_m := Mine.Amb.K (by assumption); have TB_m := Mine.Amb.T (by assumption); have D_m := Mine.Amb.dicts (by assumption); have hd_m := Mine.Amb.depth (by assumption); have hu_m := Mine.Amb.units (by assumption); rename Mine.Amb _ _ _ _ _ _ _ _ _ _ _ _ _ _ _ _ => hA_m; clear hA_m; rename Mine.Binds _ => hB_m; clear hB_m; (repeat ((rename Mine.Apart _ => ap'_m); refine Mine.Apart.imp ap'_m ?_; clear ap'_m; walk_at "my_facts")); (try k_lt l1_m); (try dsimp only); (try k_fold))
  k_steps
  all_goals (repeat' (first | (delta Mine.Halt; (k_here; (with_reducible show wpAny _ _ (call (Value.ref 314) [Value.int _ _]) _ _ _); k_dflt ( apply Mine.con_callK (Mine.hex_con _ _ _); ( (case B => assumption); (case F => k_asm); (case N => k_asm); (case X => assumption); (case T => assumption); (case D => assumption); (case hf => exact rfl); (case hk => exact rfl); (case hP => ((repeat (apply Mine.picks_of; focus (((repeat (first | (refine' Mine.Pick.head ?pk9; (case pk9 => k_all)) | (apply Mine.Pick.tail; focus (k_ne; done))))); done))); exact rfl)); (case hd => ((try dsimp only); first | exact Mine.room (by assumption) rfl | exact Mine.room0 (by assumption) rfl | omega)); (case hu => ((try dsimp only); first | exact Mine.room (by assumption) rfl | exact Mine.room0 (by assumption) rfl | omega))); k_whole; intro h'_m tk'_m t9'_m F'_m N'_m; ((try (rename News _ _ _ _ => n9'_m; simp only [List.cons_append, List.nil_append] at n9'_m)); (try k_sweep); (try dsimp only)))); k_steps)))
  all_goals ((try dsimp only); (try k_unfold); (try dsimp only))
  · exact absurd e1 (by assumption)
  all_goals (refine' con_end hR (by assumption) (by assumption) ?_ ⟨_, _, _, _, _, rfl, rfl, ?_, ?_⟩; ((repeat (refine List.forall_mem_cons.mpr ⟨by k_mem, ?_⟩)); exact List.forall_mem_nil _); rotate_left; (focus (repeat' (first | exact True.intro | assumption | refine And.intro ?_ ?_ | (refine ⟨?_⟩; k_ne)))))
  · exact (if_pos ⟨by assumption, by assumption⟩).symm
  · exact ((if_neg (by omega)).trans (if_pos (by assumption))).symm
  · exact ((if_neg (by omega)).trans (if_neg (by assumption))).symm
  · exact ((if_neg (by omega)).trans (if_pos (by assumption))).symm
  · exact ((if_neg (by omega)).trans (if_neg (by assumption))).symm
end Mine
end
section
namespace Mine
/-- as Con, where the ground bears more (H) -/
def ConH (H : Heap → Prop) (w : World) (f : Addr) (args : List Value) (d u : Nat) (post : Value → List (Addr × Obj) → Prop) : Prop :=
  ∀ (dp un : Nat) (gd : Option (List Code)) (base h₀ : Heap) (outer : List Env) (s : Shared) (R : Result → Shared → Prop)
    (p : Program) (loose : List Str) (mean : ExcName → Option Value) (mg mb : Str → Option Value),
    Amb w dp un gd base h₀ outer s d u p loose mean mg mb [] → H h₀ →
    (∀ v h' tk' led, post v led → (∀ b o, h₀.get? b = some o → h'.get? b = some o) → (∀ q ∈ led, h'.get? q.1 = some q.2 ∧ h₀.get? q.1 = none) →
      R (.ok (.ret v)) { s with heap := h', toks := tk' }) →
    codeAny (model PySem.Challenge.rw_sq0039_01.row.prog w) (⟨none, dp, some outer, gd, un⟩ : Around) (.call (.ref f) ⟨args, []⟩) R s
set_option maxHeartbeats 2000000 in
theorem cell_con (w : World) (a : Addr) (vs : List Value) (ns : List Int) (k : Int) (tk : Tok) (hI : IntsAre vs ns) (hl : ns.length ≤ 63) (hk : 0 ≤ k) (hk2 : k ≤ 3) :
    ConH (fun h => h.IsList a vs.toArray) w 413 [.ref a, .int k tk] 4 60 (fun v led => (∃ i t, v = .int i t) ∧ led = []) := by
  intro dp un gd base h₀ outer s R p loose mean mg mb A hL hR
  have hb : Binds [(Str.ofString "k", .int k tk), (Str.ofString "script", .ref a)] := ⟨⟩
  ( k_dflt (refine' Mine.con_enter (by assumption) (by assumption) ?k6_m ?k7_m ?k9_m ?kB_m ?_ ?c2_m ?c3_m ?c4_m ?c5_m; (case k6_m => k_is); (case k7_m => k_is); (case k9_m => first | exact BindsTo.of_eq rfl | exact binds_K (Frag.In.keeps (Mine.Amb.K (by assumption)) (fun b o e => Mine.Amb.keep (by assumption) b o (Below.stays (Mine.Amb.below (by assumption)) b o e))) rfl (by k_is) rfl rfl rfl); (case c5_m => decide); (case kB_m => exact locs rfl); (case c2_m => exact rfl); (case c3_m => exact rfl); (case c4_m => exact rfl)); intro L'_m h'_m tk_m F'_m N'_m l1_m X_m T_m; have B_m := Mine.Amb.below (by assumption); have XB_m := Mine.Amb.K (by assumption); have TB_m := Mine.Amb.T (by assumption); have D_m := Mine.Amb.dicts (by assumption); have hd_m := Mine.Amb.depth (by assumption); have hu_m := Mine.Amb.units (by assumption); rename Mine.Amb _ _ _ _ _ _ _ _ _ _ _ _ _ _ _ _ => hA_m; clear hA_m; rename Mine.Binds _ => hB_m; clear hB_m; (repeat ((rename Mine.Apart _ => ap'_m); refine Mine.Apart.imp ap'_m ?_; clear ap'_m; walk_at "my_facts")); (try k_lt l1_m); (try dsimp only); (try k_fold))
  k_steps
  all_goals ((try dsimp only); (try k_unfold); (try dsimp only))
  · exact con_end hR (by assumption) (by assumption) (List.forall_mem_nil _) ⟨⟨_, _, rfl⟩, rfl⟩
  · exact con_end hR (by assumption) (by assumption) (List.forall_mem_nil _) ⟨⟨_, _, rfl⟩, rfl⟩
set_option maxHeartbeats 2000000 in
theorem box_con (w : World) (c : Int) (t : Tok) : Con w 420 [.int c t] 4 60 [] (fun v led => ∃ b o, v = .ref b ∧ led = [(b, o)] ∧ BoxO 0 o) := by
  intro dp un gd base h₀ outer s R p loose mean mg mb A hR
  have hb : Binds [(Str.ofString "cell", .int c t)] := ⟨⟩
  ( k_dflt (refine' Mine.con_enter (by assumption) (by assumption) ?k6_m ?k7_m ?k9_m ?kB_m ?_ ?c2_m ?c3_m ?c4_m ?c5_m; (case k6_m => k_is); (case k7_m => k_is); (case k9_m => first | exact BindsTo.of_eq rfl | exact binds_K (Frag.In.keeps (Mine.Amb.K (by assumption)) (fun b o e => Mine.Amb.keep (by assumption) b o (Below.stays (Mine.Amb.below (by assumption)) b o e))) rfl (by k_is) rfl rfl rfl); (case c5_m => decide); (case kB_m => exact locs rfl); (case c2_m => exact rfl); (case c3_m => exact rfl); (case c4_m => exact rfl)); intro L'_m h'_m tk_m F'_m N'_m l1_m X_m T_m; have B_m := Mine.Amb.below (by assumption); have XB_m := Mine.Amb.K (by assumption); have TB_m := Mine.Amb.T (by assumption); have D_m := Mine.Amb.dicts (by assumption); have hd_m := Mine.Amb.depth (by assumption); have hu_m := Mine.Amb.units (by assumption); rename Mine.Amb _ _ _ _ _ _ _ _ _ _ _ _ _ _ _ _ => hA_m; clear hA_m; rename Mine.Binds _ => hB_m; clear hB_m; (repeat ((rename Mine.Apart _ => ap'_m); refine Mine.Apart.imp ap'_m ?_; clear ap'_m; walk_at "my_facts")); (try k_lt l1_m); (try dsimp only); (try k_fold))
  k_steps
  all_goals ((try dsimp only); (try k_unfold); (try dsimp only))
  have h1 := fm c 2147483629 (by decide)
  refine' con_end hR (by assumption) (by assumption) ?gs ⟨_, _, rfl, rfl, _, _, 0, _, _, _, _, rfl, ?gx, h1.1, h1.2, by decide, by decide⟩
  case gs => ((repeat (refine List.forall_mem_cons.mpr ⟨by k_mem, ?_⟩)); exact List.forall_mem_nil _)
  case gx => split <;> omega
end Mine
namespace Mine
section
variable {w : World} {A₀ : Around} {base h₀ : Heap} {outer : List Env} {s : Shared} {L : Addr} {m : Str → Option Value} {news : List (Addr × Obj)} {env : Env}
  {dp un d u : Nat} {gd : Option (List Code)} {f : Addr} {args : List Value} {post : Value → List (Addr × Obj) → Prop} {Q E : Value → Shared → Prop}
  {p : Program} {loose : List Str} {mean : ExcName → Option Value} {mg mb : Str → Option Value} {H : Heap → Prop}
theorem con_useH (C : ConH H w f args d u post) (hH : ∀ g, h₀.StaysIn g → H g) (B : Below A₀ base outer h₀) (F : Fr h₀ L s.heap m) (N : News h₀ L s.heap news) (X : (Mine.hd.heap_39 w.params).In base) (T : Top p loose mean mg mb base) (D : KtsDicts (outer.filterMap (·.frame)) h₀)
    (hf : env.frame = some L) (hk : env.scope.kind = .function) (hd : dp + d < recursionLimit) (hu : un + u < cLine)
    (h : ∀ v h' tk' led, post v led → Fr h₀ L h' m → News h₀ L h' (led ++ news) → (∀ q ∈ led, ∀ r ∈ news, q.1 ≠ r.1) → Q v { s with heap := h', toks := tk' }) :
    wpAny (model PySem.Challenge.rw_sq0039_01.row.prog w) (⟨none, dp, some (env :: outer), gd, un⟩ : Around) (call (.ref f) args) Q E s := by
  obtain ⟨FG, st, A⟩ := amb_of (pre := []) (gd := gd) (d := d) (u := u) B F N X T D hf hk (fun _ h => nomatch h) hd hu
  refine wpAny_call (C dp un gd base _ (env :: outer) s _ p loose mean mg mb A (hH _ st) fun v h' tk' led hpost hk hl => ?_)
  have nn : ∀ b, (hideAll s.heap (([] : List (Addr × Obj)).map (·.1))).get? b = none → h₀.get? b = none := fun b e => by
    cases q : h₀.get? b with
    | none => rfl
    | some o => rw [st _ _ q] at e; cases e
  obtain ⟨hN, hne⟩ := led_rest (pre := []) (rest := news) (g' := h₀) F N (fun _ h => nomatch h) (fun q hq => ⟨hq, fun _ h => nomatch h⟩) FG (fun q _ e => hk _ _ e) nn (fun q hq => (N q hq).2.2) hl nn
  exact h v h' tk' led hpost ⟨FG.ns.keeps hk, fun b o e => hk b o (st b o e), F.above⟩ hN hne
end
end Mine
end

section
namespace Mine
set_option maxHeartbeats 8000000 in
theorem isopen_con (w : World) (lib ld td sd : Addr) (t1 t2 tk : Tok) (so : Obj) (skv : List (Int × Value)) (k : Int) (hs : so.IsDictOf (intKind PR w) skv) (lo : (sd == sysModules) = false) :
    Con w 263 [.ref lib, .int k tk] 2 20 [(lib, instObj 292 ld), (ld, libDict w t1 t2 td sd), (sd, so)] (fun v led => v = .bool (valueAt skv k).isSome ∧ led = [(lib, instObj 292 ld), (ld, libDict w t1 t2 td sd), (sd, so)]) := by
  intro dp un gd base h₀ outer s R p loose mean mg mb A hR
  have hb : Binds [(Str.ofString "stream", .int k tk), (Str.ofString "self", .ref lib)] := ⟨⟩
  ( k_dflt (refine' Mine.con_enter (by assumption) (by assumption) ?k6_m ?k7_m ?k9_m ?kB_m ?_ ?c2_m ?c3_m ?c4_m ?c5_m; (case k6_m => k_is); (case k7_m => k_is); (case k9_m => first | exact BindsTo.of_eq rfl | exact binds_K (Frag.In.keeps (Mine.Amb.K (by assumption)) (fun b o e => Mine.Amb.keep (by assumption) b o (Below.stays (Mine.Amb.below (by assumption)) b o e))) rfl (by k_is) rfl rfl rfl); (case c5_m => decide); (case kB_m => exact locs rfl); (case c2_m => exact rfl); (case c3_m => exact rfl); (case c4_m => exact rfl)); intro L'_m h'_m tk_m F'_m N'_m l1_m X_m T_m; have B_m := Mine.Amb.below (by assumption); have XB_m := Mine.Amb.K (by assumption); have TB_m := Mine.Amb.T (by assumption); have D_m := Mine.Amb.dicts (by assumption); have hd_m := Mine.Amb.depth (by assumption); have hu_m := Mine.Amb.units (by assumption); rename Mine.Amb _ _ _ _ _ _ _ _ _ _ _ _ _ _ _ _ => hA_m; clear hA_m; rename Mine.Binds _ => hB_m; clear hB_m; (repeat ((rename Mine.Apart _ => ap'_m); refine Mine.Apart.imp ap'_m ?_; clear ap'_m; walk_at "my_facts")); (try k_lt l1_m); (try dsimp only); (try k_fold))
  k_steps
  all_goals (repeat' (first | ((k_here; k_dflt (refine' kda_in (knd := PySem.intKind _ _) ?N ?hm_m ?hd ?lo_m (intKind_is _ _ _ _) _ rfl ?_; (case N => k_asm); (case hm_m => k_mem); (case hd => k_asm); (case lo_m => assumption))); k_steps)))
  all_goals ((try dsimp only); (try k_unfold); (try dsimp only))
  exact con_end hR (by assumption) (by assumption) (fun _ h => h) ⟨rfl, rfl⟩
end Mine
end

local macro_rules | `(tactic| walk_at "my_raise") => `(tactic| (k_here; k_dflt (first
  | ((with_reducible show wpAny _ _ (exec (Stmt.Raise (some (Expr.Call (Expr.Name ("BadFile" : Str) _) _ _ _)) none _) _) _ _ _); refine' Mine.exc_raise_open (C := 88) ?hh ?hC ?hb ?_; (case hh => rfl); (case hC => k_is); (case hb => rfl))
  | ((with_reducible show wpAny _ _ (exec (Stmt.Raise (some (Expr.Call (Expr.Name ("BadArgument" : Str) _) _ _ _)) none _) _) _ _ _); refine' Mine.exc_raise_open (C := 52) ?hh ?hC ?hb ?_; (case hh => rfl); (case hC => k_is); (case hb => rfl)))))
local macro_rules | `(tactic| walk_at "exec Raise some none") => `(tactic| walk_at "my_raise")
local macro_rules | `(tactic| walk_at "exec Raise") => `(tactic| walk_at "my_raise")
section
namespace Mine
set_option maxHeartbeats 8000000 in
theorem write_raise (w : World) (lib ld td sd : Addr) (t1 t2 tk tx : Tok) (so : Obj) (skv : List (Int × Value)) (k : Int) (x : Str) (hs : so.IsDictOf (intKind PR w) skv) (lo : (sd == sysModules) = false) (hx : Lat x) (hk : (valueAt skv k).isSome = false) (ap : Apart [lib, ld, sd]) :
    ConR w 275 [.ref lib, .int k tk, .str x tx] 8 60 [(lib, instObj 292 ld), (ld, libDict w t1 t2 td sd), (sd, so)] 88 := by
  intro dp un gd base h₀ outer s R p loose mean mg mb A hR
  have hb : Binds [(Str.ofString "line", .str x tx), (Str.ofString "stream", .int k tk), (Str.ofString "self", .ref lib)] := ⟨⟩
  ( k_dflt (refine' Mine.con_enter (by assumption) (by assumption) ?k6_m ?k7_m ?k9_m ?kB_m ?_ ?c2_m ?c3_m ?c4_m ?c5_m; (case k6_m => k_is); (case k7_m => k_is); (case k9_m => first | exact BindsTo.of_eq rfl | exact binds_K (Frag.In.keeps (Mine.Amb.K (by assumption)) (fun b o e => Mine.Amb.keep (by assumption) b o (Below.stays (Mine.Amb.below (by assumption)) b o e))) rfl (by k_is) rfl rfl rfl); (case c5_m => decide); (case kB_m => exact locs rfl); (case c2_m => exact rfl); (case c3_m => exact rfl); (case c4_m => exact rfl)); intro L'_m h'_m tk_m F'_m N'_m l1_m X_m T_m; have B_m := Mine.Amb.below (by assumption); have XB_m := Mine.Amb.K (by assumption); have TB_m := Mine.Amb.T (by assumption); have D_m := Mine.Amb.dicts (by assumption); have hd_m := Mine.Amb.depth (by assumption); have hu_m := Mine.Amb.units (by assumption); rename Mine.Amb _ _ _ _ _ _ _ _ _ _ _ _ _ _ _ _ => hA_m; clear hA_m; rename Mine.Binds _ => hB_m; clear hB_m; (repeat ((rename Mine.Apart _ => ap'_m); refine Mine.Apart.imp ap'_m ?_; clear ap'_m; walk_at "my_facts")); (try k_lt l1_m); (try dsimp only); (try k_fold))
  k_steps
  all_goals (repeat' (first | (delta Mine.Halt; (k_here; (with_reducible show wpAny _ _ (call (Value.ref 263) [Value.ref _, Value.int _ _]) _ _ _); k_dflt ( apply Mine.con_callE (Mine.isopen_con _ _ _ _ _ _ _ _ _ _ _ ?hs_m ?lo_m); ( (case B => assumption); (case F => k_asm); (case N => k_asm); (case X => assumption); (case T => assumption); (case D => assumption); (case hf => exact rfl); (case hk => exact rfl); (case hP => ((repeat (apply Mine.picks_of; focus (((repeat (first | (refine' Mine.Pick.head ?pk9; (case pk9 => k_all)) | (apply Mine.Pick.tail; focus (k_ne; done))))); done))); exact rfl)); (case hd => ((try dsimp only); first | exact Mine.room (by assumption) rfl | exact Mine.room0 (by assumption) rfl | omega)); (case hu => ((try dsimp only); first | exact Mine.room (by assumption) rfl | exact Mine.room0 (by assumption) rfl | omega))); (case hs_m => assumption); (case lo_m => assumption); k_whole; intro h'_m tk'_m F'_m N'_m; ((try (rename News _ _ _ _ => n9'_m; simp only [List.cons_append, List.nil_append] at n9'_m)); (try k_sweep); (try dsimp only)))); k_steps) | (delta Mine.Halt; (k_here; (with_reducible show wpAny _ _ (call (Value.ref 88) [Value.str _ _]) _ _ _); k_dflt ( apply Mine.exc_made (fun e t => Mine.init_con88 _ e t _ _); ( (case B => assumption); (case F => k_asm); (case X => assumption); (case T => assumption); (case D => assumption); (case hf => exact rfl); (case hke => exact rfl); (case hC => k_is); (case hB => rfl); (case hA => rfl); (case hN => rfl); (case hi => k_is); (case hfI => k_is); (case hfc => rfl); (case hd => ((try dsimp only); first | exact Mine.room (by assumption) rfl | exact Mine.room0 (by assumption) rfl | omega)); (case hu => ((try dsimp only); first | exact Mine.room (by assumption) rfl | exact Mine.room0 (by assumption) rfl | omega)); intro h9_m e9_m t9_m d9_m tk9_m hk9_m hn9_m he9_m htn9_m ht9_m; (try dsimp only)))); k_steps) | (delta Mine.Halt; (k_here; (with_reducible show wpAny _ _ (call (Value.ref 143) [Value.str _ _]) _ _ _); k_dflt ( apply Mine.con_callE (Mine.check_text_con _ _ _ ?hx_m); ( (case B => assumption); (case F => k_asm); (case N => k_asm); (case X => assumption); (case T => assumption); (case D => assumption); (case hf => exact rfl); (case hk => exact rfl); (case hP => ((repeat (apply Mine.picks_of; focus (((repeat (first | (refine' Mine.Pick.head ?pk9; (case pk9 => k_all)) | (apply Mine.Pick.tail; focus (k_ne; done))))); done))); exact rfl)); (case hd => ((try dsimp only); first | exact Mine.room (by assumption) rfl | exact Mine.room0 (by assumption) rfl | omega)); (case hu => ((try dsimp only); first | exact Mine.room (by assumption) rfl | exact Mine.room0 (by assumption) rfl | omega))); (case hx_m => assumption); k_whole; intro h'_m tk'_m F'_m N'_m; ((try (rename News _ _ _ _ => n9'_m; simp only [List.cons_append, List.nil_append] at n9'_m)); (try k_sweep); (try dsimp only)))); k_steps)))
  all_goals ((try dsimp only); (try k_unfold); (try dsimp only))
  · (first | (refine' Frag.In.keeps ?a_m ?b_m; (case b_m => assumption); (case a_m => k_in)) | (k_dflt (refine' Mine.leave_exc ?K_m ?F ?N ?k1_m ?k2_m ?k3_m ?k4_m ?k5_m ?_; (case K_m => assumption); (case F => assumption); (case N => assumption); (case k1_m => assumption); (case k2_m => assumption); (case k3_m => assumption); (case k4_m => assumption); (case k5_m => assumption))))
  · (first | (refine' Frag.In.keeps ?a_m ?b_m; (case b_m => assumption); (case a_m => k_in)) | (k_dflt (refine' Mine.leave_exc ?K_m ?F ?N ?k1_m ?k2_m ?k3_m ?k4_m ?k5_m ?_; (case K_m => assumption); (case F => assumption); (case N => assumption); (case k1_m => assumption); (case k2_m => assumption); (case k3_m => assumption); (case k4_m => assumption); (case k5_m => assumption))))
    intro h' hR' hU
    exact hR _ _ _ _ _ hR' hU
end Mine
end
section
namespace Mine
abbrev tupO (x : Str) (tx : Tok) (la : Addr) : Obj := { cls := .type "tuple", data := .seq #[.str x tx, .ref la] }
set_option maxHeartbeats 8000000 in
theorem close_no (w : World) (lib ld td sd : Addr) (t1 t2 tk : Tok) (so : Obj) (skv : List (Int × Value)) (k : Int) (hs : so.IsDictOf (intKind PR w) skv) (lo : (sd == sysModules) = false) (hk : (valueAt skv k).isSome = false) (ap : Apart [lib, ld, sd]) :
    Con w 282 [.ref lib, .int k tk] 5 40 [(lib, instObj 292 ld), (ld, libDict w t1 t2 td sd), (sd, so)] (fun v led => v = .none ∧ led = [(lib, instObj 292 ld), (ld, libDict w t1 t2 td sd), (sd, so)]) := by
  intro dp un gd base h₀ outer s R p loose mean mg mb A hR
  have hb : Binds [(Str.ofString "stream", .int k tk), (Str.ofString "self", .ref lib)] := ⟨⟩
  ( k_dflt (refine' Mine.con_enter (by assumption) (by assumption) ?k6_m ?k7_m ?k9_m ?kB_m ?_ ?c2_m ?c3_m ?c4_m ?c5_m; (case k6_m => k_is); (case k7_m => k_is); (case k9_m => first | exact BindsTo.of_eq rfl | exact binds_K (Frag.In.keeps (Mine.Amb.K (by assumption)) (fun b o e => Mine.Amb.keep (by assumption) b o (Below.stays (Mine.Amb.below (by assumption)) b o e))) rfl (by k_is) rfl rfl rfl); (case c5_m => decide); (case kB_m => exact locs rfl); (case c2_m => exact rfl); (case c3_m => exact rfl); (case c4_m => exact rfl)); intro L'_m h'_m tk_m F'_m N'_m l1_m X_m T_m; have B_m := Mine.Amb.below (by assumption); have XB_m := Mine.Amb.K (by assumption); have TB_m := Mine.Amb.T (by assumption); have D_m := Mine.Amb.dicts (by assumption); have hd_m := Mine.Amb.depth (by assumption); have hu_m := Mine.Amb.units (by assumption); rename Mine.Amb _ _ _ _ _ _ _ _ _ _ _ _ _ _ _ _ => hA_m; clear hA_m; rename Mine.Binds _ => hB_m; clear hB_m; (repeat ((rename Mine.Apart _ => ap'_m); refine Mine.Apart.imp ap'_m ?_; clear ap'_m; walk_at "my_facts")); (try k_lt l1_m); (try dsimp only); (try k_fold))
  k_steps
  all_goals (repeat' (first | (delta Mine.Halt; (k_here; (with_reducible show wpAny _ _ (call (Value.ref 263) [Value.ref _, Value.int _ _]) _ _ _); k_dflt ( apply Mine.con_callE (Mine.isopen_con _ _ _ _ _ _ _ _ _ _ _ ?hs_m ?lo_m); ( (case B => assumption); (case F => k_asm); (case N => k_asm); (case X => assumption); (case T => assumption); (case D => assumption); (case hf => exact rfl); (case hk => exact rfl); (case hP => ((repeat (apply Mine.picks_of; focus (((repeat (first | (refine' Mine.Pick.head ?pk9; (case pk9 => k_all)) | (apply Mine.Pick.tail; focus (k_ne; done))))); done))); exact rfl)); (case hd => ((try dsimp only); first | exact Mine.room (by assumption) rfl | exact Mine.room0 (by assumption) rfl | omega)); (case hu => ((try dsimp only); first | exact Mine.room (by assumption) rfl | exact Mine.room0 (by assumption) rfl | omega))); (case hs_m => assumption); (case lo_m => assumption); k_whole; intro h'_m tk'_m F'_m N'_m; ((try (rename News _ _ _ _ => n9'_m; simp only [List.cons_append, List.nil_append] at n9'_m)); (try k_sweep); (try dsimp only)))); k_steps)))
  all_goals ((try dsimp only); (try k_unfold); (try dsimp only))
  exact con_end hR (by assumption) (by assumption) (fun _ h => h) ⟨rfl, rfl⟩

set_option maxHeartbeats 8000000 in
theorem close_yes (w : World) (lib ld td sd ta la : Addr) (t1 t2 tk tx : Tok) (so to : Obj) (skv : List (Int × Value)) (tkv : List (Str × Value)) (k : Int) (x : Str) (vs : List Value) (ns : List Int) (n : Nat)
    (hs : so.IsDictOf (intKind PR w) skv) (ht : to.IsDictOf (strKind PR w) tkv) (lo : (sd == sysModules) = false) (lo2 : (td == sysModules) = false) (hk : valueAt skv k = some (.ref ta)) (hi : IntsAre vs ns) (hr : KBa.In ns) (hl : ns.length ≤ 100000) (hz : skv.length ≤ 1000) (hz2 : tkv.length ≤ 1000)
    (ap : Apart [lib, ld, sd, td, ta, la]) :
    Con w 282 [.ref lib, .int k tk] 5 40 [(lib, instObj 292 ld), (ld, libDict w t1 t2 td sd), (sd, so), (td, to), (ta, tupO x tx la), (la, W.listOf vs.toArray n)]
      (fun v led => ∃ so' to' t, v = .none ∧ led = [(lib, instObj 292 ld), (ld, libDict w t1 t2 td sd), (sd, so'), (td, to')] ∧ so'.IsDictOf (intKind PR w) (without skv k) ∧ to'.IsDictOf (strKind PR w) (stored tkv x (.bytes (byteArr ns) t))) := by
  intro dp un gd base h₀ outer s R p loose mean mg mb A hR
  have hb : Binds [(Str.ofString "stream", .int k tk), (Str.ofString "self", .ref lib)] := ⟨⟩
  have hk2 : (valueAt skv k).isSome = true := by rw [hk]; rfl
  ( k_dflt (refine' Mine.con_enter (by assumption) (by assumption) ?k6_m ?k7_m ?k9_m ?kB_m ?_ ?c2_m ?c3_m ?c4_m ?c5_m; (case k6_m => k_is); (case k7_m => k_is); (case k9_m => first | exact BindsTo.of_eq rfl | exact binds_K (Frag.In.keeps (Mine.Amb.K (by assumption)) (fun b o e => Mine.Amb.keep (by assumption) b o (Below.stays (Mine.Amb.below (by assumption)) b o e))) rfl (by k_is) rfl rfl rfl); (case c5_m => decide); (case kB_m => exact locs rfl); (case c2_m => exact rfl); (case c3_m => exact rfl); (case c4_m => exact rfl)); intro L'_m h'_m tk_m F'_m N'_m l1_m X_m T_m; have B_m := Mine.Amb.below (by assumption); have XB_m := Mine.Amb.K (by assumption); have TB_m := Mine.Amb.T (by assumption); have D_m := Mine.Amb.dicts (by assumption); have hd_m := Mine.Amb.depth (by assumption); have hu_m := Mine.Amb.units (by assumption); rename Mine.Amb _ _ _ _ _ _ _ _ _ _ _ _ _ _ _ _ => hA_m; clear hA_m; rename Mine.Binds _ => hB_m; clear hB_m; (repeat ((rename Mine.Apart _ => ap'_m); refine Mine.Apart.imp ap'_m ?_; clear ap'_m; walk_at "my_facts")); (try k_lt l1_m); (try dsimp only); (try k_fold))
  k_steps
  all_goals (repeat' (first | (delta Mine.Halt; (k_here; (with_reducible show wpAny _ _ (call (Value.ref 263) [Value.ref _, Value.int _ _]) _ _ _); k_dflt ( apply Mine.con_callE (Mine.isopen_con _ _ _ _ _ _ _ _ _ _ _ ?hs_m ?lo_m); ( (case B => assumption); (case F => k_asm); (case N => k_asm); (case X => assumption); (case T => assumption); (case D => assumption); (case hf => exact rfl); (case hk => exact rfl); (case hP => ((repeat (apply Mine.picks_of; focus (((repeat (first | (refine' Mine.Pick.head ?pk9; (case pk9 => k_all)) | (apply Mine.Pick.tail; focus (k_ne; done))))); done))); exact rfl)); (case hd => ((try dsimp only); first | exact Mine.room (by assumption) rfl | exact Mine.room0 (by assumption) rfl | omega)); (case hu => ((try dsimp only); first | exact Mine.room (by assumption) rfl | exact Mine.room0 (by assumption) rfl | omega))); (case hs_m => assumption); (case lo_m => assumption); k_whole; intro h'_m tk'_m F'_m N'_m; ((try (rename News _ _ _ _ => n9'_m; simp only [List.cons_append, List.nil_append] at n9'_m)); (try k_sweep); (try dsimp only)))); k_steps) | ((k_here; (with_reducible show wpAny _ _ (setItem (Value.ref _) (Value.str _ _) _) _ _ _); k_dflt (refine' kda_set (knd := PySem.strKind _ _) ?F ?N ?U_m ?d_m (strKind_is _ _ _ _) ?z_m ?_; (case F => k_asm); (case N => k_asm); (case U_m => k_updF); (case d_m => k_asm); (case z_m => (rw [sizeLine_eq]; omega))); intro h'_m o'_m F'_m N'_m hd'_m; (try dsimp only at N'_m)); k_steps) | ((k_here; (with_reducible show wpAny _ _ (call (Value.builtin "dict.pop") [Value.ref _, Value.int _ _]) _ _ _); k_dflt (refine' kob_pop (knd := PySem.intKind _ _) (more := []) ?F ?N ?U_m ?d_m (intKind_is _ _ _ _) (.inl rfl) (by rfl) (PySem.F.args_dict_pop_2 _ _) ?l_m ?z_m ?_; (case F => k_asm); (case N => k_asm); (case U_m => k_updF); (case d_m => k_asm); (case l_m => assumption); (case z_m => (rw [sizeLine_eq]; omega))); intro h'_m o'_m F'_m N'_m hd'_m; (try dsimp only at N'_m)); k_steps)))
  all_goals ((try dsimp only); (try k_unfold); (try dsimp only))
  refine con_end hR (by assumption) (by assumption) ?_ ⟨_, _, _, rfl, rfl, by assumption, by assumption⟩
  ((repeat (refine List.forall_mem_cons.mpr ⟨by k_mem, ?_⟩)); exact List.forall_mem_nil _)
end Mine
end

section
namespace Mine
set_option maxHeartbeats 8000000 in
theorem open_no (w : World) (lib ld td sd : Addr) (t1 t2 tk tx : Tok) (so : Obj) (skv : List (Int × Value)) (k : Int) (x : Str)
    (hs : so.IsDictOf (intKind PR w) skv) (lo : (sd == sysModules) = false) (hk : (valueAt skv k).isSome = false) (hx : Lat x) (hx0 : (x == Str.ofString "") = false) (hk0 : 0 ≤ k) (hk1 : k ≤ 15) (hz : skv.length ≤ 1000)
    (ap : Apart [lib, ld, sd]) :
    Con w 270 [.ref lib, .int k tk, .str x tx] 12 100 [(lib, instObj 292 ld), (ld, libDict w t1 t2 td sd), (sd, so)]
      (fun v led => ∃ so' ta la, v = .none ∧ led = [(lib, instObj 292 ld), (ld, libDict w t1 t2 td sd), (sd, so'), (ta, tupO x tx la), (la, W.listOf #[] 0)] ∧ so'.IsDictOf (intKind PR w) (stored skv k (.ref ta)) ∧ Apart [lib, ld, sd, ta, la]) := by
  intro dp un gd base h₀ outer s R p loose mean mg mb A hR
  have hb : Binds [(Str.ofString "name", .str x tx), (Str.ofString "stream", .int k tk), (Str.ofString "self", .ref lib)] := ⟨⟩
  ( k_dflt (refine' Mine.con_enter (by assumption) (by assumption) ?k6_m ?k7_m ?k9_m ?kB_m ?_ ?c2_m ?c3_m ?c4_m ?c5_m; (case k6_m => k_is); (case k7_m => k_is); (case k9_m => first | exact BindsTo.of_eq rfl | exact binds_K (Frag.In.keeps (Mine.Amb.K (by assumption)) (fun b o e => Mine.Amb.keep (by assumption) b o (Below.stays (Mine.Amb.below (by assumption)) b o e))) rfl (by k_is) rfl rfl rfl); (case c5_m => decide); (case kB_m => exact locs rfl); (case c2_m => exact rfl); (case c3_m => exact rfl); (case c4_m => exact rfl)); intro L'_m h'_m tk_m F'_m N'_m l1_m X_m T_m; have B_m := Mine.Amb.below (by assumption); have XB_m := Mine.Amb.K (by assumption); have TB_m := Mine.Amb.T (by assumption); have D_m := Mine.Amb.dicts (by assumption); have hd_m := Mine.Amb.depth (by assumption); have hu_m := Mine.Amb.units (by assumption); rename Mine.Amb _ _ _ _ _ _ _ _ _ _ _ _ _ _ _ _ => hA_m; clear hA_m; rename Mine.Binds _ => hB_m; clear hB_m; (repeat ((rename Mine.Apart _ => ap'_m); refine Mine.Apart.imp ap'_m ?_; clear ap'_m; walk_at "my_facts")); (try k_lt l1_m); (try dsimp only); (try k_fold))
  k_steps
  all_goals (repeat' (first | (delta Mine.Halt; (k_here; (with_reducible show wpAny _ _ (call (Value.ref 282) [Value.ref _, Value.int _ _]) _ _ _); k_dflt (first | (apply Mine.con_callE (Mine.close_no _ _ _ _ _ _ _ _ _ _ _ ?hs_m ?lo_m ?hk9_m ?ap_m); ( (case B => assumption); (case F => k_asm); (case N => k_asm); (case X => assumption); (case T => assumption); (case D => assumption); (case hf => exact rfl); (case hk => exact rfl); (case hP => ((repeat (apply Mine.picks_of; focus (((repeat (first | (refine' Mine.Pick.head ?pk9; (case pk9 => k_all)) | (apply Mine.Pick.tail; focus (k_ne; done))))); done))); exact rfl)); (case hd => ((try dsimp only); first | exact Mine.room (by assumption) rfl | exact Mine.room0 (by assumption) rfl | omega)); (case hu => ((try dsimp only); first | exact Mine.room (by assumption) rfl | exact Mine.room0 (by assumption) rfl | omega))); (case hs_m => assumption); (case lo_m => assumption); (case hk9_m => assumption); (case ap_m => (focus (repeat' (first | exact True.intro | assumption | refine And.intro ?_ ?_ | (refine ⟨?_⟩; k_ne))))); k_whole; intro h'_m tk'_m F'_m N'_m; ((try (rename News _ _ _ _ => n9'_m; simp only [List.cons_append, List.nil_append] at n9'_m)); (try k_sweep); (try dsimp only))) | (apply Mine.con_callY3 (Mine.close_yes _ _ _ _ _ _ _ _ _ _ _ _ _ _ _ _ _ _ _ _ ?hs_m ?ht_m ?lo_m ?lo2_m ?hk9_m ?hi_m ?hr_m ?hl_m ?hz_m ?hz2_m ?ap_m); (case hs_m => assumption); (case ht_m => assumption); (case hk9_m => assumption); (case hi_m => assumption); ( (case B => assumption); (case F => k_asm); (case N => k_asm); (case X => assumption); (case T => assumption); (case D => assumption); (case hf => exact rfl); (case hk => exact rfl); (case hP => ((repeat (apply Mine.picks_of; focus (((repeat (first | (refine' Mine.Pick.head ?pk9; (case pk9 => k_all)) | (apply Mine.Pick.tail; focus (k_ne; done))))); done))); exact rfl)); (case hd => ((try dsimp only); first | exact Mine.room (by assumption) rfl | exact Mine.room0 (by assumption) rfl | omega)); (case hu => ((try dsimp only); first | exact Mine.room (by assumption) rfl | exact Mine.room0 (by assumption) rfl | omega))); (case lo_m => assumption); (case lo2_m => assumption); (case hr_m => assumption); (case hl_m => assumption); (case hz_m => assumption); (case hz2_m => assumption); (case ap_m => (focus (repeat' (first | exact True.intro | assumption | refine And.intro ?_ ?_ | (refine ⟨?_⟩; k_ne))))); k_whole; intro h'_m tk'_m so9'_m to9'_m t9'_m hp9'_m; (have hs9'_m := And.left hp9'_m); (have ht9'_m := And.right hp9'_m); clear hp9'_m; intro F'_m N'_m; ((try (rename News _ _ _ _ => n9'_m; simp only [List.cons_append, List.nil_append] at n9'_m)); (try k_sweep); (try dsimp only))))); k_steps) | (delta Mine.Halt; (k_here; (with_reducible show wpAny _ _ (call (Value.ref 109) [Value.int _ _, Value.int _ _, Value.int _ _]) _ _ _); k_dflt ( apply Mine.con_callE (Mine.whole_con _ _ _ _ _ _ _); ( (case B => assumption); (case F => k_asm); (case N => k_asm); (case X => assumption); (case T => assumption); (case D => assumption); (case hf => exact rfl); (case hk => exact rfl); (case hP => ((repeat (apply Mine.picks_of; focus (((repeat (first | (refine' Mine.Pick.head ?pk9; (case pk9 => k_all)) | (apply Mine.Pick.tail; focus (k_ne; done))))); done))); exact rfl)); (case hd => ((try dsimp only); first | exact Mine.room (by assumption) rfl | exact Mine.room0 (by assumption) rfl | omega)); (case hu => ((try dsimp only); first | exact Mine.room (by assumption) rfl | exact Mine.room0 (by assumption) rfl | omega))); k_whole; intro h'_m tk'_m F'_m N'_m; ((try (rename News _ _ _ _ => n9'_m; simp only [List.cons_append, List.nil_append] at n9'_m)); (try k_sweep); (try dsimp only)))); k_steps) | (delta Mine.Halt; (k_here; (with_reducible show wpAny _ _ (call (Value.ref 241) [Value.str _ _]) _ _ _); k_dflt ( apply Mine.con_callE (Mine.check_name_con _ _ _ ?hx_m ?hn_m); ( (case B => assumption); (case F => k_asm); (case N => k_asm); (case X => assumption); (case T => assumption); (case D => assumption); (case hf => exact rfl); (case hk => exact rfl); (case hP => ((repeat (apply Mine.picks_of; focus (((repeat (first | (refine' Mine.Pick.head ?pk9; (case pk9 => k_all)) | (apply Mine.Pick.tail; focus (k_ne; done))))); done))); exact rfl)); (case hd => ((try dsimp only); first | exact Mine.room (by assumption) rfl | exact Mine.room0 (by assumption) rfl | omega)); (case hu => ((try dsimp only); first | exact Mine.room (by assumption) rfl | exact Mine.room0 (by assumption) rfl | omega))); (case hx_m => assumption); (case hn_m => assumption); k_whole; intro h'_m tk'_m F'_m N'_m; ((try (rename News _ _ _ _ => n9'_m; simp only [List.cons_append, List.nil_append] at n9'_m)); (try k_sweep); (try dsimp only)))); k_steps) | ((k_here; (with_reducible show wpAny _ _ (setItem (Value.ref _) (Value.int _ _) _) _ _ _); k_dflt (refine' kda_set (knd := PySem.intKind _ _) ?F ?N ?U_m ?d_m (intKind_is _ _ _ _) ?z_m ?_; (case F => k_asm); (case N => k_asm); (case U_m => k_updF); (case d_m => k_asm); (case z_m => (rw [sizeLine_eq]; omega))); intro h'_m o'_m F'_m N'_m hd'_m; (try dsimp only at N'_m)); k_steps)))
  all_goals ((try dsimp only); (try k_unfold); (try dsimp only))
  refine' con_end hR (by assumption) (by assumption) ?_ ⟨_, _, _, rfl, rfl, by assumption, ?_⟩
  · ((repeat (refine List.forall_mem_cons.mpr ⟨by k_mem, ?_⟩)); exact List.forall_mem_nil _)
  · (focus (repeat' (first | exact True.intro | assumption | refine And.intro ?_ ?_ | (refine ⟨?_⟩; k_ne))))
set_option maxHeartbeats 8000000 in
theorem open_yes (w : World) (lib ld td sd ta la : Addr) (t1 t2 tk tx tx0 : Tok) (so to : Obj) (skv : List (Int × Value)) (tkv : List (Str × Value)) (k : Int) (x x0 : Str) (vs : List Value) (ns : List Int) (n : Nat)
    (hs : so.IsDictOf (intKind PR w) skv) (ht : to.IsDictOf (strKind PR w) tkv) (lo : (sd == sysModules) = false) (lo2 : (td == sysModules) = false) (hk : valueAt skv k = some (.ref ta)) (hi : IntsAre vs ns) (hr : KBa.In ns) (hl : ns.length ≤ 100000)
    (hx : Lat x) (hx0 : (x == Str.ofString "") = false) (hk0 : 0 ≤ k) (hk1 : k ≤ 15) (hz : skv.length ≤ 1000) (hz2 : tkv.length ≤ 1000) (hz3 : (without skv k).length ≤ 1000)
    (ap : Apart [lib, ld, sd, td, ta, la]) :
    Con w 270 [.ref lib, .int k tk, .str x tx] 12 100 [(lib, instObj 292 ld), (ld, libDict w t1 t2 td sd), (sd, so), (td, to), (ta, tupO x0 tx0 la), (la, W.listOf vs.toArray n)]
      (fun v led => ∃ so' to' t ta' la', v = .none ∧ led = [(lib, instObj 292 ld), (ld, libDict w t1 t2 td sd), (sd, so'), (td, to'), (ta', tupO x tx la'), (la', W.listOf #[] 0)] ∧ so'.IsDictOf (intKind PR w) (stored (without skv k) k (.ref ta'))
        ∧ to'.IsDictOf (strKind PR w) (stored tkv x0 (.bytes (byteArr ns) t)) ∧ Apart [lib, ld, sd, td, ta', la']) := by
  intro dp un gd base h₀ outer s R p loose mean mg mb A hR
  have hb : Binds [(Str.ofString "name", .str x tx), (Str.ofString "stream", .int k tk), (Str.ofString "self", .ref lib)] := ⟨⟩
  ( k_dflt (refine' Mine.con_enter (by assumption) (by assumption) ?k6_m ?k7_m ?k9_m ?kB_m ?_ ?c2_m ?c3_m ?c4_m ?c5_m; (case k6_m => k_is); (case k7_m => k_is); (case k9_m => first | exact BindsTo.of_eq rfl | exact binds_K (Frag.In.keeps (Mine.Amb.K (by assumption)) (fun b o e => Mine.Amb.keep (by assumption) b o (Below.stays (Mine.Amb.below (by assumption)) b o e))) rfl (by k_is) rfl rfl rfl); (case c5_m => decide); (case kB_m => exact locs rfl); (case c2_m => exact rfl); (case c3_m => exact rfl); (case c4_m => exact rfl)); intro L'_m h'_m tk_m F'_m N'_m l1_m X_m T_m; have B_m := Mine.Amb.below (by assumption); have XB_m := Mine.Amb.K (by assumption); have TB_m := Mine.Amb.T (by assumption); have D_m := Mine.Amb.dicts (by assumption); have hd_m := Mine.Amb.depth (by assumption); have hu_m := Mine.Amb.units (by assumption); rename Mine.Amb _ _ _ _ _ _ _ _ _ _ _ _ _ _ _ _ => hA_m; clear hA_m; rename Mine.Binds _ => hB_m; clear hB_m; (repeat ((rename Mine.Apart _ => ap'_m); refine Mine.Apart.imp ap'_m ?_; clear ap'_m; walk_at "my_facts")); (try k_lt l1_m); (try dsimp only); (try k_fold))
  k_steps
  all_goals (repeat' (first | (delta Mine.Halt; (k_here; (with_reducible show wpAny _ _ (call (Value.ref 282) [Value.ref _, Value.int _ _]) _ _ _); k_dflt (first | (apply Mine.con_callE (Mine.close_no _ _ _ _ _ _ _ _ _ _ _ ?hs_m ?lo_m ?hk9_m ?ap_m); ( (case B => assumption); (case F => k_asm); (case N => k_asm); (case X => assumption); (case T => assumption); (case D => assumption); (case hf => exact rfl); (case hk => exact rfl); (case hP => ((repeat (apply Mine.picks_of; focus (((repeat (first | (refine' Mine.Pick.head ?pk9; (case pk9 => k_all)) | (apply Mine.Pick.tail; focus (k_ne; done))))); done))); exact rfl)); (case hd => ((try dsimp only); first | exact Mine.room (by assumption) rfl | exact Mine.room0 (by assumption) rfl | omega)); (case hu => ((try dsimp only); first | exact Mine.room (by assumption) rfl | exact Mine.room0 (by assumption) rfl | omega))); (case hs_m => assumption); (case lo_m => assumption); (case hk9_m => assumption); (case ap_m => (focus (repeat' (first | exact True.intro | assumption | refine And.intro ?_ ?_ | (refine ⟨?_⟩; k_ne))))); k_whole; intro h'_m tk'_m F'_m N'_m; ((try (rename News _ _ _ _ => n9'_m; simp only [List.cons_append, List.nil_append] at n9'_m)); (try k_sweep); (try dsimp only))) | (apply Mine.con_callY3 (Mine.close_yes _ _ _ _ _ _ _ _ _ _ _ _ _ _ _ _ _ _ _ _ ?hs_m ?ht_m ?lo_m ?lo2_m ?hk9_m ?hi_m ?hr_m ?hl_m ?hz_m ?hz2_m ?ap_m); (case hs_m => assumption); (case ht_m => assumption); (case hk9_m => assumption); (case hi_m => assumption); ( (case B => assumption); (case F => k_asm); (case N => k_asm); (case X => assumption); (case T => assumption); (case D => assumption); (case hf => exact rfl); (case hk => exact rfl); (case hP => ((repeat (apply Mine.picks_of; focus (((repeat (first | (refine' Mine.Pick.head ?pk9; (case pk9 => k_all)) | (apply Mine.Pick.tail; focus (k_ne; done))))); done))); exact rfl)); (case hd => ((try dsimp only); first | exact Mine.room (by assumption) rfl | exact Mine.room0 (by assumption) rfl | omega)); (case hu => ((try dsimp only); first | exact Mine.room (by assumption) rfl | exact Mine.room0 (by assumption) rfl | omega))); (case lo_m => assumption); (case lo2_m => assumption); (case hr_m => assumption); (case hl_m => assumption); (case hz_m => assumption); (case hz2_m => assumption); (case ap_m => (focus (repeat' (first | exact True.intro | assumption | refine And.intro ?_ ?_ | (refine ⟨?_⟩; k_ne))))); k_whole; intro h'_m tk'_m so9'_m to9'_m t9'_m hp9'_m; (have hs9'_m := And.left hp9'_m); (have ht9'_m := And.right hp9'_m); clear hp9'_m; intro F'_m N'_m; ((try (rename News _ _ _ _ => n9'_m; simp only [List.cons_append, List.nil_append] at n9'_m)); (try k_sweep); (try dsimp only))))); k_steps) | (delta Mine.Halt; (k_here; (with_reducible show wpAny _ _ (call (Value.ref 109) [Value.int _ _, Value.int _ _, Value.int _ _]) _ _ _); k_dflt ( apply Mine.con_callE (Mine.whole_con _ _ _ _ _ _ _); ( (case B => assumption); (case F => k_asm); (case N => k_asm); (case X => assumption); (case T => assumption); (case D => assumption); (case hf => exact rfl); (case hk => exact rfl); (case hP => ((repeat (apply Mine.picks_of; focus (((repeat (first | (refine' Mine.Pick.head ?pk9; (case pk9 => k_all)) | (apply Mine.Pick.tail; focus (k_ne; done))))); done))); exact rfl)); (case hd => ((try dsimp only); first | exact Mine.room (by assumption) rfl | exact Mine.room0 (by assumption) rfl | omega)); (case hu => ((try dsimp only); first | exact Mine.room (by assumption) rfl | exact Mine.room0 (by assumption) rfl | omega))); k_whole; intro h'_m tk'_m F'_m N'_m; ((try (rename News _ _ _ _ => n9'_m; simp only [List.cons_append, List.nil_append] at n9'_m)); (try k_sweep); (try dsimp only)))); k_steps) | (delta Mine.Halt; (k_here; (with_reducible show wpAny _ _ (call (Value.ref 241) [Value.str _ _]) _ _ _); k_dflt ( apply Mine.con_callE (Mine.check_name_con _ _ _ ?hx_m ?hn_m); ( (case B => assumption); (case F => k_asm); (case N => k_asm); (case X => assumption); (case T => assumption); (case D => assumption); (case hf => exact rfl); (case hk => exact rfl); (case hP => ((repeat (apply Mine.picks_of; focus (((repeat (first | (refine' Mine.Pick.head ?pk9; (case pk9 => k_all)) | (apply Mine.Pick.tail; focus (k_ne; done))))); done))); exact rfl)); (case hd => ((try dsimp only); first | exact Mine.room (by assumption) rfl | exact Mine.room0 (by assumption) rfl | omega)); (case hu => ((try dsimp only); first | exact Mine.room (by assumption) rfl | exact Mine.room0 (by assumption) rfl | omega))); (case hx_m => assumption); (case hn_m => assumption); k_whole; intro h'_m tk'_m F'_m N'_m; ((try (rename News _ _ _ _ => n9'_m; simp only [List.cons_append, List.nil_append] at n9'_m)); (try k_sweep); (try dsimp only)))); k_steps) | ((k_here; (with_reducible show wpAny _ _ (setItem (Value.ref _) (Value.int _ _) _) _ _ _); k_dflt (refine' kda_set (knd := PySem.intKind _ _) ?F ?N ?U_m ?d_m (intKind_is _ _ _ _) ?z_m ?_; (case F => k_asm); (case N => k_asm); (case U_m => k_updF); (case d_m => k_asm); (case z_m => (rw [sizeLine_eq]; omega))); intro h'_m o'_m F'_m N'_m hd'_m; (try dsimp only at N'_m)); k_steps)))
  all_goals ((try dsimp only); (try k_unfold); (try dsimp only))
  rename Obj.IsDictOf _ _ (stored (without _ _) _ _) => hX
  rename Obj.IsDictOf _ _ (stored tkv _ _) => hY
  refine' con_end hR (by assumption) (by assumption) ?_ ⟨_, _, _, _, _, rfl, rfl, hX, hY, ?_⟩
  · ((repeat (refine List.forall_mem_cons.mpr ⟨by k_mem, ?_⟩)); exact List.forall_mem_nil _)
  · (focus (repeat' (first | exact True.intro | assumption | refine And.intro ?_ ?_ | (refine ⟨?_⟩; k_ne))))
end Mine
end
section
namespace Mine
set_option maxHeartbeats 8000000 in
theorem open_raise_int (w : World) (lib : Addr) (tk tx : Tok) (k : Int) (x : Str) (hx : Lat x) (hx0 : (x == Str.ofString "") = false) (hk : ¬ (0 ≤ k ∧ k ≤ 15)) :
    ConR w 270 [.ref lib, .int k tk, .str x tx] 12 100 [] 52 := by
  intro dp un gd base h₀ outer s R p loose mean mg mb A hR
  have hb : Binds [(Str.ofString "name", .str x tx), (Str.ofString "stream", .int k tk), (Str.ofString "self", .ref lib)] := ⟨⟩
  ( k_dflt (refine' Mine.con_enter (by assumption) (by assumption) ?k6_m ?k7_m ?k9_m ?kB_m ?_ ?c2_m ?c3_m ?c4_m ?c5_m; (case k6_m => k_is); (case k7_m => k_is); (case k9_m => first | exact BindsTo.of_eq rfl | exact binds_K (Frag.In.keeps (Mine.Amb.K (by assumption)) (fun b o e => Mine.Amb.keep (by assumption) b o (Below.stays (Mine.Amb.below (by assumption)) b o e))) rfl (by k_is) rfl rfl rfl); (case c5_m => decide); (case kB_m => exact locs rfl); (case c2_m => exact rfl); (case c3_m => exact rfl); (case c4_m => exact rfl)); intro L'_m h'_m tk_m F'_m N'_m l1_m X_m T_m; have B_m := Mine.Amb.below (by assumption); have XB_m := Mine.Amb.K (by assumption); have TB_m := Mine.Amb.T (by assumption); have D_m := Mine.Amb.dicts (by assumption); have hd_m := Mine.Amb.depth (by assumption); have hu_m := Mine.Amb.units (by assumption); rename Mine.Amb _ _ _ _ _ _ _ _ _ _ _ _ _ _ _ _ => hA_m; clear hA_m; rename Mine.Binds _ => hB_m; clear hB_m; (repeat ((rename Mine.Apart _ => ap'_m); refine Mine.Apart.imp ap'_m ?_; clear ap'_m; walk_at "my_facts")); (try k_lt l1_m); (try dsimp only); (try k_fold))
  k_steps
  all_goals (repeat' (first | (delta Mine.Halt; (k_here; (with_reducible show wpAny _ _ (call (Value.ref 52) [Value.str _ _]) _ _ _); k_dflt ( apply Mine.exc_made (fun e t => Mine.init_con52 _ e t _ _); ( (case B => assumption); (case F => k_asm); (case X => assumption); (case T => assumption); (case D => assumption); (case hf => exact rfl); (case hke => exact rfl); (case hC => k_is); (case hB => rfl); (case hA => rfl); (case hN => rfl); (case hi => k_is); (case hfI => k_is); (case hfc => rfl); (case hd => ((try dsimp only); first | exact Mine.room (by assumption) rfl | exact Mine.room0 (by assumption) rfl | omega)); (case hu => ((try dsimp only); first | exact Mine.room (by assumption) rfl | exact Mine.room0 (by assumption) rfl | omega)); intro h9_m e9_m t9_m d9_m tk9_m hk9_m hn9_m he9_m htn9_m ht9_m; (try dsimp only)))); k_steps) | (delta Mine.Halt; (k_here; (with_reducible show wpAny _ _ (call (Value.ref 109) [Value.int _ _, Value.int _ _, Value.int _ _]) _ _ _); k_dflt ( apply Mine.con_callE (Mine.whole_con _ _ _ _ _ _ _); ( (case B => assumption); (case F => k_asm); (case N => k_asm); (case X => assumption); (case T => assumption); (case D => assumption); (case hf => exact rfl); (case hk => exact rfl); (case hP => ((repeat (apply Mine.picks_of; focus (((repeat (first | (refine' Mine.Pick.head ?pk9; (case pk9 => k_all)) | (apply Mine.Pick.tail; focus (k_ne; done))))); done))); exact rfl)); (case hd => ((try dsimp only); first | exact Mine.room (by assumption) rfl | exact Mine.room0 (by assumption) rfl | omega)); (case hu => ((try dsimp only); first | exact Mine.room (by assumption) rfl | exact Mine.room0 (by assumption) rfl | omega))); k_whole; intro h'_m tk'_m F'_m N'_m; ((try (rename News _ _ _ _ => n9'_m; simp only [List.cons_append, List.nil_append] at n9'_m)); (try k_sweep); (try dsimp only)))); k_steps) | (delta Mine.Halt; (k_here; (with_reducible show wpAny _ _ (call (Value.ref 241) [Value.str _ _]) _ _ _); k_dflt ( apply Mine.con_callE (Mine.check_name_con _ _ _ ?hx_m ?hn_m); ( (case B => assumption); (case F => k_asm); (case N => k_asm); (case X => assumption); (case T => assumption); (case D => assumption); (case hf => exact rfl); (case hk => exact rfl); (case hP => ((repeat (apply Mine.picks_of; focus (((repeat (first | (refine' Mine.Pick.head ?pk9; (case pk9 => k_all)) | (apply Mine.Pick.tail; focus (k_ne; done))))); done))); exact rfl)); (case hd => ((try dsimp only); first | exact Mine.room (by assumption) rfl | exact Mine.room0 (by assumption) rfl | omega)); (case hu => ((try dsimp only); first | exact Mine.room (by assumption) rfl | exact Mine.room0 (by assumption) rfl | omega))); (case hx_m => assumption); (case hn_m => assumption); k_whole; intro h'_m tk'_m F'_m N'_m; ((try (rename News _ _ _ _ => n9'_m; simp only [List.cons_append, List.nil_append] at n9'_m)); (try k_sweep); (try dsimp only)))); k_steps)))
  all_goals ((try dsimp only); (try k_unfold); (try dsimp only))
  · (first | (refine' Frag.In.keeps ?a_m ?b_m; (case b_m => assumption); (case a_m => k_in)) | (k_dflt (refine' Mine.leave_exc ?K_m ?F ?N ?k1_m ?k2_m ?k3_m ?k4_m ?k5_m ?_; (case K_m => assumption); (case F => assumption); (case N => assumption); (case k1_m => assumption); (case k2_m => assumption); (case k3_m => assumption); (case k4_m => assumption); (case k5_m => assumption))))
  · (first | (refine' Frag.In.keeps ?a_m ?b_m; (case b_m => assumption); (case a_m => k_in)) | (k_dflt (refine' Mine.leave_exc ?K_m ?F ?N ?k1_m ?k2_m ?k3_m ?k4_m ?k5_m ?_; (case K_m => assumption); (case F => assumption); (case N => assumption); (case k1_m => assumption); (case k2_m => assumption); (case k3_m => assumption); (case k4_m => assumption); (case k5_m => assumption))))
    intro h' hR' hU
    exact hR _ _ _ _ _ hR' hU
set_option maxHeartbeats 8000000 in
theorem open_raise_bool (w : World) (lib : Addr) (tx : Tok) (k : Bool) (x : Str) (hx : Lat x) (hx0 : (x == Str.ofString "") = false) :
    ConR w 270 [.ref lib, .bool k, .str x tx] 12 100 [] 52 := by
  intro dp un gd base h₀ outer s R p loose mean mg mb A hR
  have hb : Binds [(Str.ofString "name", .str x tx), (Str.ofString "stream", .bool k), (Str.ofString "self", .ref lib)] := ⟨⟩
  ( k_dflt (refine' Mine.con_enter (by assumption) (by assumption) ?k6_m ?k7_m ?k9_m ?kB_m ?_ ?c2_m ?c3_m ?c4_m ?c5_m; (case k6_m => k_is); (case k7_m => k_is); (case k9_m => first | exact BindsTo.of_eq rfl | exact binds_K (Frag.In.keeps (Mine.Amb.K (by assumption)) (fun b o e => Mine.Amb.keep (by assumption) b o (Below.stays (Mine.Amb.below (by assumption)) b o e))) rfl (by k_is) rfl rfl rfl); (case c5_m => decide); (case kB_m => exact locs rfl); (case c2_m => exact rfl); (case c3_m => exact rfl); (case c4_m => exact rfl)); intro L'_m h'_m tk_m F'_m N'_m l1_m X_m T_m; have B_m := Mine.Amb.below (by assumption); have XB_m := Mine.Amb.K (by assumption); have TB_m := Mine.Amb.T (by assumption); have D_m := Mine.Amb.dicts (by assumption); have hd_m := Mine.Amb.depth (by assumption); have hu_m := Mine.Amb.units (by assumption); rename Mine.Amb _ _ _ _ _ _ _ _ _ _ _ _ _ _ _ _ => hA_m; clear hA_m; rename Mine.Binds _ => hB_m; clear hB_m; (repeat ((rename Mine.Apart _ => ap'_m); refine Mine.Apart.imp ap'_m ?_; clear ap'_m; walk_at "my_facts")); (try k_lt l1_m); (try dsimp only); (try k_fold))
  k_steps
  all_goals (repeat' (first | (delta Mine.Halt; (k_here; (with_reducible show wpAny _ _ (call (Value.ref 52) [Value.str _ _]) _ _ _); k_dflt ( apply Mine.exc_made (fun e t => Mine.init_con52 _ e t _ _); ( (case B => assumption); (case F => k_asm); (case X => assumption); (case T => assumption); (case D => assumption); (case hf => exact rfl); (case hke => exact rfl); (case hC => k_is); (case hB => rfl); (case hA => rfl); (case hN => rfl); (case hi => k_is); (case hfI => k_is); (case hfc => rfl); (case hd => ((try dsimp only); first | exact Mine.room (by assumption) rfl | exact Mine.room0 (by assumption) rfl | omega)); (case hu => ((try dsimp only); first | exact Mine.room (by assumption) rfl | exact Mine.room0 (by assumption) rfl | omega)); intro h9_m e9_m t9_m d9_m tk9_m hk9_m hn9_m he9_m htn9_m ht9_m; (try dsimp only)))); k_steps) | (delta Mine.Halt; (k_here; (with_reducible show wpAny _ _ (call (Value.ref 109) [Value.bool _, Value.int _ _, Value.int _ _]) _ _ _); k_dflt ( apply Mine.con_callE (Mine.whole_bool _ _ _ _ _ _); ( (case B => assumption); (case F => k_asm); (case N => k_asm); (case X => assumption); (case T => assumption); (case D => assumption); (case hf => exact rfl); (case hk => exact rfl); (case hP => ((repeat (apply Mine.picks_of; focus (((repeat (first | (refine' Mine.Pick.head ?pk9; (case pk9 => k_all)) | (apply Mine.Pick.tail; focus (k_ne; done))))); done))); exact rfl)); (case hd => ((try dsimp only); first | exact Mine.room (by assumption) rfl | exact Mine.room0 (by assumption) rfl | omega)); (case hu => ((try dsimp only); first | exact Mine.room (by assumption) rfl | exact Mine.room0 (by assumption) rfl | omega))); k_whole; intro h'_m tk'_m F'_m N'_m; ((try (rename News _ _ _ _ => n9'_m; simp only [List.cons_append, List.nil_append] at n9'_m)); (try k_sweep); (try dsimp only)))); k_steps) | (delta Mine.Halt; (k_here; (with_reducible show wpAny _ _ (call (Value.ref 241) [Value.str _ _]) _ _ _); k_dflt ( apply Mine.con_callE (Mine.check_name_con _ _ _ ?hx_m ?hn_m); ( (case B => assumption); (case F => k_asm); (case N => k_asm); (case X => assumption); (case T => assumption); (case D => assumption); (case hf => exact rfl); (case hk => exact rfl); (case hP => ((repeat (apply Mine.picks_of; focus (((repeat (first | (refine' Mine.Pick.head ?pk9; (case pk9 => k_all)) | (apply Mine.Pick.tail; focus (k_ne; done))))); done))); exact rfl)); (case hd => ((try dsimp only); first | exact Mine.room (by assumption) rfl | exact Mine.room0 (by assumption) rfl | omega)); (case hu => ((try dsimp only); first | exact Mine.room (by assumption) rfl | exact Mine.room0 (by assumption) rfl | omega))); (case hx_m => assumption); (case hn_m => assumption); k_whole; intro h'_m tk'_m F'_m N'_m; ((try (rename News _ _ _ _ => n9'_m; simp only [List.cons_append, List.nil_append] at n9'_m)); (try k_sweep); (try dsimp only)))); k_steps)))
  all_goals ((try dsimp only); (try k_unfold); (try dsimp only))
  · (first | (refine' Frag.In.keeps ?a_m ?b_m; (case b_m => assumption); (case a_m => k_in)) | (k_dflt (refine' Mine.leave_exc ?K_m ?F ?N ?k1_m ?k2_m ?k3_m ?k4_m ?k5_m ?_; (case K_m => assumption); (case F => assumption); (case N => assumption); (case k1_m => assumption); (case k2_m => assumption); (case k3_m => assumption); (case k4_m => assumption); (case k5_m => assumption))))
  · (first | (refine' Frag.In.keeps ?a_m ?b_m; (case b_m => assumption); (case a_m => k_in)) | (k_dflt (refine' Mine.leave_exc ?K_m ?F ?N ?k1_m ?k2_m ?k3_m ?k4_m ?k5_m ?_; (case K_m => assumption); (case F => assumption); (case N => assumption); (case k1_m => assumption); (case k2_m => assumption); (case k3_m => assumption); (case k4_m => assumption); (case k5_m => assumption))))
    intro h' hR' hU
    exact hR _ _ _ _ _ hR' hU
set_option maxHeartbeats 8000000 in
theorem name_raise (w : World) (tx : Tok) : ConR w 241 [.str (Str.ofString "") tx] 8 60 [] 52 := by
  intro dp un gd base h₀ outer s R p loose mean mg mb A hR
  have hb : Binds [(Str.ofString "name", .str (Str.ofString "") tx)] := ⟨⟩
  have hx : Lat (Str.ofString "") := fun i c h => by rw [show (Str.ofString "").cps = #[] from rfl] at h; simp at h
  ( k_dflt (refine' Mine.con_enter (by assumption) (by assumption) ?k6_m ?k7_m ?k9_m ?kB_m ?_ ?c2_m ?c3_m ?c4_m ?c5_m; (case k6_m => k_is); (case k7_m => k_is); (case k9_m => first | exact BindsTo.of_eq rfl | exact binds_K (Frag.In.keeps (Mine.Amb.K (by assumption)) (fun b o e => Mine.Amb.keep (by assumption) b o (Below.stays (Mine.Amb.below (by assumption)) b o e))) rfl (by k_is) rfl rfl rfl); (case c5_m => decide); (case kB_m => exact locs rfl); (case c2_m => exact rfl); (case c3_m => exact rfl); (case c4_m => exact rfl)); intro L'_m h'_m tk_m F'_m N'_m l1_m X_m T_m; have B_m := Mine.Amb.below (by assumption); have XB_m := Mine.Amb.K (by assumption); have TB_m := Mine.Amb.T (by assumption); have D_m := Mine.Amb.dicts (by assumption); have hd_m := Mine.Amb.depth (by assumption); have hu_m := Mine.Amb.units (by assumption); rename Mine.Amb _ _ _ _ _ _ _ _ _ _ _ _ _ _ _ _ => hA_m; clear hA_m; rename Mine.Binds _ => hB_m; clear hB_m; (repeat ((rename Mine.Apart _ => ap'_m); refine Mine.Apart.imp ap'_m ?_; clear ap'_m; walk_at "my_facts")); (try k_lt l1_m); (try dsimp only); (try k_fold))
  k_steps
  all_goals (repeat' (first | (delta Mine.Halt; (k_here; (with_reducible show wpAny _ _ (call (Value.ref 52) [Value.str _ _]) _ _ _); k_dflt ( apply Mine.exc_made (fun e t => Mine.init_con52 _ e t _ _); ( (case B => assumption); (case F => k_asm); (case X => assumption); (case T => assumption); (case D => assumption); (case hf => exact rfl); (case hke => exact rfl); (case hC => k_is); (case hB => rfl); (case hA => rfl); (case hN => rfl); (case hi => k_is); (case hfI => k_is); (case hfc => rfl); (case hd => ((try dsimp only); first | exact Mine.room (by assumption) rfl | exact Mine.room0 (by assumption) rfl | omega)); (case hu => ((try dsimp only); first | exact Mine.room (by assumption) rfl | exact Mine.room0 (by assumption) rfl | omega)); intro h9_m e9_m t9_m d9_m tk9_m hk9_m hn9_m he9_m htn9_m ht9_m; (try dsimp only)))); k_steps) | (delta Mine.Halt; (k_here; (with_reducible show wpAny _ _ (call (Value.ref 143) [Value.str _ _]) _ _ _); k_dflt ( apply Mine.con_callE (Mine.check_text_con _ _ _ ?hx_m); ( (case B => assumption); (case F => k_asm); (case N => k_asm); (case X => assumption); (case T => assumption); (case D => assumption); (case hf => exact rfl); (case hk => exact rfl); (case hP => ((repeat (apply Mine.picks_of; focus (((repeat (first | (refine' Mine.Pick.head ?pk9; (case pk9 => k_all)) | (apply Mine.Pick.tail; focus (k_ne; done))))); done))); exact rfl)); (case hd => ((try dsimp only); first | exact Mine.room (by assumption) rfl | exact Mine.room0 (by assumption) rfl | omega)); (case hu => ((try dsimp only); first | exact Mine.room (by assumption) rfl | exact Mine.room0 (by assumption) rfl | omega))); (case hx_m => assumption); k_whole; intro h'_m tk'_m F'_m N'_m; ((try (rename News _ _ _ _ => n9'_m; simp only [List.cons_append, List.nil_append] at n9'_m)); (try k_sweep); (try dsimp only)))); k_steps)))
  all_goals ((try dsimp only); (try k_unfold); (try dsimp only))
  · (first | (refine' Frag.In.keeps ?a_m ?b_m; (case b_m => assumption); (case a_m => k_in)) | (k_dflt (refine' Mine.leave_exc ?K_m ?F ?N ?k1_m ?k2_m ?k3_m ?k4_m ?k5_m ?_; (case K_m => assumption); (case F => assumption); (case N => assumption); (case k1_m => assumption); (case k2_m => assumption); (case k3_m => assumption); (case k4_m => assumption); (case k5_m => assumption))))
  · (first | (refine' Frag.In.keeps ?a_m ?b_m; (case b_m => assumption); (case a_m => k_in)) | (k_dflt (refine' Mine.leave_exc ?K_m ?F ?N ?k1_m ?k2_m ?k3_m ?k4_m ?k5_m ?_; (case K_m => assumption); (case F => assumption); (case N => assumption); (case k1_m => assumption); (case k2_m => assumption); (case k3_m => assumption); (case k4_m => assumption); (case k5_m => assumption))))
    intro h' hR' hU
    exact hR _ _ _ _ _ hR' hU
end Mine
namespace Mine
set_option maxHeartbeats 8000000 in
theorem open_raise_name (w : World) (lib : Addr) (tk tx : Tok) (k : Int) :
    ConR w 270 [.ref lib, .int k tk, .str (Str.ofString "") tx] 12 100 [] 52 := by
  intro dp un gd base h₀ outer s R p loose mean mg mb A hR
  have hb : Binds [(Str.ofString "name", .str (Str.ofString "") tx), (Str.ofString "stream", .int k tk), (Str.ofString "self", .ref lib)] := ⟨⟩
  ( k_dflt (refine' Mine.con_enter (by assumption) (by assumption) ?k6_m ?k7_m ?k9_m ?kB_m ?_ ?c2_m ?c3_m ?c4_m ?c5_m; (case k6_m => k_is); (case k7_m => k_is); (case k9_m => first | exact BindsTo.of_eq rfl | exact binds_K (Frag.In.keeps (Mine.Amb.K (by assumption)) (fun b o e => Mine.Amb.keep (by assumption) b o (Below.stays (Mine.Amb.below (by assumption)) b o e))) rfl (by k_is) rfl rfl rfl); (case c5_m => decide); (case kB_m => exact locs rfl); (case c2_m => exact rfl); (case c3_m => exact rfl); (case c4_m => exact rfl)); intro L'_m h'_m tk_m F'_m N'_m l1_m X_m T_m; have B_m := Mine.Amb.below (by assumption); have XB_m := Mine.Amb.K (by assumption); have TB_m := Mine.Amb.T (by assumption); have D_m := Mine.Amb.dicts (by assumption); have hd_m := Mine.Amb.depth (by assumption); have hu_m := Mine.Amb.units (by assumption); rename Mine.Amb _ _ _ _ _ _ _ _ _ _ _ _ _ _ _ _ => hA_m; clear hA_m; rename Mine.Binds _ => hB_m; clear hB_m; (repeat ((rename Mine.Apart _ => ap'_m); refine Mine.Apart.imp ap'_m ?_; clear ap'_m; walk_at "my_facts")); (try k_lt l1_m); (try dsimp only); (try k_fold))
  k_steps
  all_goals (repeat' (first | (delta Mine.Halt; (k_here; (with_reducible show wpAny _ _ (call (Value.ref 241) [Value.str (Str.ofString "") _]) _ _ _); k_dflt ( refine' Mine.con_useR (Mine.name_raise _ _) ?B ?F ?N ?X ?T ?D ?hf ?hk ?hP ?hd ?hu ?_; (case B => assumption); (case F => k_asm); (case N => k_asm); (case X => assumption); (case T => assumption); (case D => assumption); (case hf => exact rfl); (case hk => exact rfl); (case hP => exact List.forall_mem_nil _); (case hd => ((try dsimp only); first | exact Mine.room (by assumption) rfl | exact Mine.room0 (by assumption) rfl | omega)); (case hu => ((try dsimp only); first | exact Mine.room (by assumption) rfl | exact Mine.room0 (by assumption) rfl | omega)); k_whole; intro e9'_m t9'_m vs9'_m h9'_m tk9'_m G9'_m FG9'_m hG9'_m hS9'_m hU9'_m; clear hG9'_m; (try dsimp only))); k_steps)))
  all_goals ((try dsimp only); (try k_unfold); (try dsimp only))
  exact hR _ _ _ _ _ (by assumption) (by assumption)
end Mine
end
section

namespace Mine
set_option maxHeartbeats 8000000 in
theorem lib_init0 (w : World) (x dx fd : Addr) (fo : Obj) (hf : fo.IsDictOf (strKind PR w) []) (lo : (fd == sysModules) = false) (ap : Apart [x, dx, fd]) : Con w 256 [.ref x, .ref fd] 20 150 [(x, instObj 292 dx), (dx, emptyDict), (fd, fo)]
    (fun v led => v = .none ∧ ∃ (t1 t2 : Tok) (td sd : Addr) (to so : Obj), led = [(x, instObj 292 dx), (dx, libDict w t1 t2 td sd), (td, to), (sd, so), (fd, fo)] ∧ to.IsDictOf (strKind PR w) [] ∧ so.IsDictOf (intKind PR w) [] ∧
      (td == sysModules) = false ∧ (sd == sysModules) = false ∧ Apart [x, dx, td, sd, fd]) := by
  intro dp un gd base h₀ outer s R p loose mean mg mb A hR
  have hb : Binds [(Str.ofString "texts", .ref fd), (Str.ofString "self", .ref x)] := ⟨⟩
  ( k_dflt (refine' Mine.con_enter (by assumption) (by assumption) ?k6_m ?k7_m ?k9_m ?kB_m ?_ ?c2_m ?c3_m ?c4_m ?c5_m; (case k6_m => k_is); (case k7_m => k_is); (case k9_m => first | exact BindsTo.of_eq rfl | exact binds_K (Frag.In.keeps (Mine.Amb.K (by assumption)) (fun b o e => Mine.Amb.keep (by assumption) b o (Below.stays (Mine.Amb.below (by assumption)) b o e))) rfl (by k_is) rfl rfl rfl); (case c5_m => decide); (case kB_m => exact locs rfl); (case c2_m => exact rfl); (case c3_m => exact rfl); (case c4_m => exact rfl)); intro L'_m h'_m tk_m F'_m N'_m l1_m X_m T_m; have B_m := Mine.Amb.below (by assumption); have XB_m := Mine.Amb.K (by assumption); have TB_m := Mine.Amb.T (by assumption); have D_m := Mine.Amb.dicts (by assumption); have hd_m := Mine.Amb.depth (by assumption); have hu_m := Mine.Amb.units (by assumption); rename Mine.Amb _ _ _ _ _ _ _ _ _ _ _ _ _ _ _ _ => hA_m; clear hA_m; rename Mine.Binds _ => hB_m; clear hB_m; (repeat ((rename Mine.Apart _ => ap'_m); refine Mine.Apart.imp ap'_m ?_; clear ap'_m; walk_at "my_facts")); (try k_lt l1_m); (try dsimp only); (try k_fold))
  k_steps
  all_goals (repeat' (first | ((k_here; (rename Fr _ _ _ _ => lF'_m); (rename News _ _ _ _ => lN'_m); with_unfolding_all ((refine' For_turns lF'_m ?_); k_whole; (refine MethodCall_ ?_); (refine ld lF'_m (by rfl) ?_); (refine kdl_method (knd := PySem.strKind _ _) PySem.F.slot_dict_items PySem.F.type_dict_items lN'_m (by k_mem) (by assumption) ?_); (refine callWith_method0 ?_); (refine kta_callItems (knd := PySem.strKind _ _) lF'_m lN'_m (by k_mem) (by assumption) (by assumption) ?_); intro h'_m hv'_m F'_m N'_m; first | (refine kta_items (knd := PySem.strKind _ _) (enc := PyData.str) (xs := []) (by rfl) F'_m N'_m hv'_m (by k_mem) (by assumption) (fun _ _ h => Value.isStrOf_shape h) (by rfl) ?_) | (refine kta_items (knd := PySem.strKind _ _) (enc := PyData.str) (xs := [Itm.pair (fun t => Value.str (Str.ofString "a") t) _]) (by rfl) F'_m N'_m hv'_m (by k_mem) (by assumption) (fun _ _ h => Value.isStrOf_shape h) (by rfl) ?_)); clear lF'_m lN'_m; intro i'_m l1_m; (try k_lt l1_m)); k_steps) | ((k_here; k_dflt (refine' newDict_K ?k1_m ?k2_m ?k3_m ?_; (case k1_m => k_asm); (case k2_m => k_asm); (case k3_m => exact Top.nolimit (by assumption)); k_whole); intro d'_m h'_m o'_m F'_m N'_m l1_m lo'_m hs'_m fs'_m hi'_m fi'_m; clear fs'_m fi'_m; (try k_lt l1_m); (try k_sweep)); k_steps)))
  all_goals ((try dsimp only); (try k_unfold); (try dsimp only))
  refine' con_end hR (by assumption) (by assumption) ?_ ⟨rfl, _, _, _, _, _, _, rfl, ?_, ?_, ?_, ?_, ?_⟩
  · ((repeat (refine List.forall_mem_cons.mpr ⟨by k_mem, ?_⟩)); exact List.forall_mem_nil _)
  · assumption
  · assumption
  · assumption
  · assumption
  · (focus (repeat' (first | exact True.intro | assumption | refine And.intro ?_ ?_ | (refine ⟨?_⟩; k_ne))))
set_option maxHeartbeats 8000000 in
theorem lib_init1 (w : World) (x dx fd : Addr) (fo : Obj) (tb : Tok) (b : Array UInt8) (hf : fo.IsDictOf (strKind PR w) [(Str.ofString "a", .bytes b tb)]) (lo : (fd == sysModules) = false) (ap : Apart [x, dx, fd]) : Con w 256 [.ref x, .ref fd] 20 150 [(x, instObj 292 dx), (dx, emptyDict), (fd, fo)]
    (fun v led => v = .none ∧ ∃ (t1 t2 : Tok) (td sd : Addr) (to so : Obj), led = [(x, instObj 292 dx), (dx, libDict w t1 t2 td sd), (td, to), (sd, so), (fd, fo)] ∧ to.IsDictOf (strKind PR w) [(Str.ofString "a", .bytes b tb)] ∧ so.IsDictOf (intKind PR w) [] ∧
      (td == sysModules) = false ∧ (sd == sysModules) = false ∧ Apart [x, dx, td, sd, fd]) := by
  intro dp un gd base h₀ outer s R p loose mean mg mb A hR
  have hb : Binds [(Str.ofString "texts", .ref fd), (Str.ofString "self", .ref x)] := ⟨⟩
  have hxa : Lat (Str.ofString "a") := fun i c h => by
    rw [show (Str.ofString "a").cps = #[97] from rfl] at h
    match i, h with
    | 0, h => cases h; decide
    | i + 1, h => simp at h
  have hxn : (Str.ofString "a" == Str.ofString "") = false := by decide +kernel
  have hz : ([] : List (Str × Value)).length ≤ 1000 := by decide
  ( k_dflt (refine' Mine.con_enter (by assumption) (by assumption) ?k6_m ?k7_m ?k9_m ?kB_m ?_ ?c2_m ?c3_m ?c4_m ?c5_m; (case k6_m => k_is); (case k7_m => k_is); (case k9_m => first | exact BindsTo.of_eq rfl | exact binds_K (Frag.In.keeps (Mine.Amb.K (by assumption)) (fun b o e => Mine.Amb.keep (by assumption) b o (Below.stays (Mine.Amb.below (by assumption)) b o e))) rfl (by k_is) rfl rfl rfl); (case c5_m => decide); (case kB_m => exact locs rfl); (case c2_m => exact rfl); (case c3_m => exact rfl); (case c4_m => exact rfl)); intro L'_m h'_m tk_m F'_m N'_m l1_m X_m T_m; have B_m := Mine.Amb.below (by assumption); have XB_m := Mine.Amb.K (by assumption); have TB_m := Mine.Amb.T (by assumption); have D_m := Mine.Amb.dicts (by assumption); have hd_m := Mine.Amb.depth (by assumption); have hu_m := Mine.Amb.units (by assumption); rename Mine.Amb _ _ _ _ _ _ _ _ _ _ _ _ _ _ _ _ => hA_m; clear hA_m; rename Mine.Binds _ => hB_m; clear hB_m; (repeat ((rename Mine.Apart _ => ap'_m); refine Mine.Apart.imp ap'_m ?_; clear ap'_m; walk_at "my_facts")); (try k_lt l1_m); (try dsimp only); (try k_fold))
  k_steps
  all_goals (repeat' (first | (delta Mine.Halt; (k_here; (with_reducible show wpAny _ _ (call (Value.ref 241) [Value.str _ _]) _ _ _); k_dflt ( apply Mine.con_callE (Mine.check_name_con _ _ _ ?hx_m ?hn_m); ( (case B => assumption); (case F => k_asm); (case N => k_asm); (case X => assumption); (case T => assumption); (case D => assumption); (case hf => exact rfl); (case hk => exact rfl); (case hP => ((repeat (apply Mine.picks_of; focus (((repeat (first | (refine' Mine.Pick.head ?pk9; (case pk9 => k_all)) | (apply Mine.Pick.tail; focus (k_ne; done))))); done))); exact rfl)); (case hd => ((try dsimp only); first | exact Mine.room (by assumption) rfl | exact Mine.room0 (by assumption) rfl | omega)); (case hu => ((try dsimp only); first | exact Mine.room (by assumption) rfl | exact Mine.room0 (by assumption) rfl | omega))); (case hx_m => assumption); (case hn_m => assumption); k_whole; intro h'_m tk'_m F'_m N'_m; ((try (rename News _ _ _ _ => n9'_m; simp only [List.cons_append, List.nil_append] at n9'_m)); (try k_sweep); (try dsimp only)))); k_steps) | ((k_here; k_dflt (refine' newDict_K ?k1_m ?k2_m ?k3_m ?_; (case k1_m => k_asm); (case k2_m => k_asm); (case k3_m => exact Top.nolimit (by assumption)); k_whole); intro d'_m h'_m o'_m F'_m N'_m l1_m lo'_m hs'_m fs'_m hi'_m fi'_m; clear fs'_m fi'_m; (try k_lt l1_m); (try k_sweep)); k_steps)))
  all_goals ((try dsimp only); (try k_unfold); (try dsimp only))
  refine' con_end hR (by assumption) (by assumption) ?_ ⟨rfl, _, _, _, _, _, _, rfl, ?_, ?_, ?_, ?_, ?_⟩
  · ((repeat (refine List.forall_mem_cons.mpr ⟨by k_mem, ?_⟩)); exact List.forall_mem_nil _)
  · assumption
  · assumption
  · assumption
  · assumption
  · (focus (repeat' (first | exact True.intro | assumption | refine And.intro ?_ ?_ | (refine ⟨?_⟩; k_ne))))
end Mine
end
section
namespace Mine
set_option maxHeartbeats 8000000 in
theorem names_init (w : World) (x dx : Addr) (ne : NeA x dx) : Con w 158 [.ref x] 6 50 [(x, instObj 189 dx), (dx, emptyDict)] (fun v led => v = .none ∧ ∃ od, led = [(x, instObj 189 dx), (dx, od)]) := by
  intro dp un gd base h₀ outer s R p loose mean mg mb A hR
  have hb : Binds [(Str.ofString "most", .int 1048576 381), (Str.ofString "self", .ref x)] := ⟨⟩
  ( k_dflt (refine' Mine.con_enter (by assumption) (by assumption) ?k6_m ?k7_m ?k9_m ?kB_m ?_ ?c2_m ?c3_m ?c4_m ?c5_m; (case k6_m => k_is); (case k7_m => k_is); (case k9_m => first | exact BindsTo.of_eq rfl | exact binds_K (Frag.In.keeps (Mine.Amb.K (by assumption)) (fun b o e => Mine.Amb.keep (by assumption) b o (Below.stays (Mine.Amb.below (by assumption)) b o e))) rfl (by k_is) rfl rfl rfl); (case c5_m => decide); (case kB_m => exact locs rfl); (case c2_m => exact rfl); (case c3_m => exact rfl); (case c4_m => exact rfl)); intro L'_m h'_m tk_m F'_m N'_m l1_m X_m T_m; have B_m := Mine.Amb.below (by assumption); have XB_m := Mine.Amb.K (by assumption); have TB_m := Mine.Amb.T (by assumption); have D_m := Mine.Amb.dicts (by assumption); have hd_m := Mine.Amb.depth (by assumption); have hu_m := Mine.Amb.units (by assumption); rename Mine.Amb _ _ _ _ _ _ _ _ _ _ _ _ _ _ _ _ => hA_m; clear hA_m; rename Mine.Binds _ => hB_m; clear hB_m; (repeat ((rename Mine.Apart _ => ap'_m); refine Mine.Apart.imp ap'_m ?_; clear ap'_m; walk_at "my_facts")); (try k_lt l1_m); (try dsimp only); (try k_fold))
  k_steps
  all_goals (repeat' (first | (delta Mine.Halt; (k_here; (with_reducible show wpAny _ _ (call (Value.ref 109) [Value.int _ _, Value.int _ _, Value.int _ _]) _ _ _); k_dflt ( apply Mine.con_callE (Mine.whole_con _ _ _ _ _ _ _); ( (case B => assumption); (case F => k_asm); (case N => k_asm); (case X => assumption); (case T => assumption); (case D => assumption); (case hf => exact rfl); (case hk => exact rfl); (case hP => ((repeat (apply Mine.picks_of; focus (((repeat (first | (refine' Mine.Pick.head ?pk9; (case pk9 => k_all)) | (apply Mine.Pick.tail; focus (k_ne; done))))); done))); exact rfl)); (case hd => ((try dsimp only); first | exact Mine.room (by assumption) rfl | exact Mine.room0 (by assumption) rfl | omega)); (case hu => ((try dsimp only); first | exact Mine.room (by assumption) rfl | exact Mine.room0 (by assumption) rfl | omega))); k_whole; intro h'_m tk'_m F'_m N'_m; ((try (rename News _ _ _ _ => n9'_m; simp only [List.cons_append, List.nil_append] at n9'_m)); (try k_sweep); (try dsimp only)))); k_steps) | ((k_here; k_dflt (refine' newDict_K ?k1_m ?k2_m ?k3_m ?_; (case k1_m => k_asm); (case k2_m => k_asm); (case k3_m => exact Top.nolimit (by assumption)); k_whole); intro d'_m h'_m o'_m F'_m N'_m l1_m lo'_m hs'_m fs'_m hi'_m fi'_m; clear fs'_m fi'_m; (try k_lt l1_m); (try k_sweep)); k_steps)))
  all_goals ((try dsimp only); (try k_unfold); (try dsimp only))
  refine' con_end hR (by assumption) (by assumption) ?_ ⟨rfl, _, rfl⟩
  ((repeat (refine List.forall_mem_cons.mpr ⟨by k_mem, ?_⟩)); exact List.forall_mem_nil _)
set_option maxHeartbeats 8000000 in
theorem check_whole_con (w : World) (a : Int) (ta : Tok) : Con w 116 [.int a ta] 6 50 [] (fun v led => v = .int a ta ∧ led = []) := by
  intro dp un gd base h₀ outer s R p loose mean mg mb A hR
  have hb : Binds [(Str.ofString "value", .int a ta)] := ⟨⟩
  ( k_dflt (refine' Mine.con_enter (by assumption) (by assumption) ?k6_m ?k7_m ?k9_m ?kB_m ?_ ?c2_m ?c3_m ?c4_m ?c5_m; (case k6_m => k_is); (case k7_m => k_is); (case k9_m => first | exact BindsTo.of_eq rfl | exact binds_K (Frag.In.keeps (Mine.Amb.K (by assumption)) (fun b o e => Mine.Amb.keep (by assumption) b o (Below.stays (Mine.Amb.below (by assumption)) b o e))) rfl (by k_is) rfl rfl rfl); (case c5_m => decide); (case kB_m => exact locs rfl); (case c2_m => exact rfl); (case c3_m => exact rfl); (case c4_m => exact rfl)); intro L'_m h'_m tk_m F'_m N'_m l1_m X_m T_m; have B_m := Mine.Amb.below (by assumption); have XB_m := Mine.Amb.K (by assumption); have TB_m := Mine.Amb.T (by assumption); have D_m := Mine.Amb.dicts (by assumption); have hd_m := Mine.Amb.depth (by assumption); have hu_m := Mine.Amb.units (by assumption); rename Mine.Amb _ _ _ _ _ _ _ _ _ _ _ _ _ _ _ _ => hA_m; clear hA_m; rename Mine.Binds _ => hB_m; clear hB_m; (repeat ((rename Mine.Apart _ => ap'_m); refine Mine.Apart.imp ap'_m ?_; clear ap'_m; walk_at "my_facts")); (try k_lt l1_m); (try dsimp only); (try k_fold))
  k_steps
  all_goals ((try dsimp only); (try k_unfold); (try dsimp only))
  refine' con_end hR (by assumption) (by assumption) ?_ ⟨rfl, rfl⟩
  ((repeat (refine List.forall_mem_cons.mpr ⟨by k_mem, ?_⟩)); exact List.forall_mem_nil _)
end Mine
namespace Mine
set_option maxHeartbeats 8000000 in
theorem check_number_con (w : World) (a : Int) (ta : Tok) (h1 : -2147483647 ≤ a) (h2 : a ≤ 2147483647) : Con w 123 [.int a ta] 9 90 [] (fun v led => v = .int a ta ∧ led = []) := by
  intro dp un gd base h₀ outer s R p loose mean mg mb A hR
  have hb : Binds [(Str.ofString "value", .int a ta)] := ⟨⟩
  ( k_dflt (refine' Mine.con_enter (by assumption) (by assumption) ?k6_m ?k7_m ?k9_m ?kB_m ?_ ?c2_m ?c3_m ?c4_m ?c5_m; (case k6_m => k_is); (case k7_m => k_is); (case k9_m => first | exact BindsTo.of_eq rfl | exact binds_K (Frag.In.keeps (Mine.Amb.K (by assumption)) (fun b o e => Mine.Amb.keep (by assumption) b o (Below.stays (Mine.Amb.below (by assumption)) b o e))) rfl (by k_is) rfl rfl rfl); (case c5_m => decide); (case kB_m => exact locs rfl); (case c2_m => exact rfl); (case c3_m => exact rfl); (case c4_m => exact rfl)); intro L'_m h'_m tk_m F'_m N'_m l1_m X_m T_m; have B_m := Mine.Amb.below (by assumption); have XB_m := Mine.Amb.K (by assumption); have TB_m := Mine.Amb.T (by assumption); have D_m := Mine.Amb.dicts (by assumption); have hd_m := Mine.Amb.depth (by assumption); have hu_m := Mine.Amb.units (by assumption); rename Mine.Amb _ _ _ _ _ _ _ _ _ _ _ _ _ _ _ _ => hA_m; clear hA_m; rename Mine.Binds _ => hB_m; clear hB_m; (repeat ((rename Mine.Apart _ => ap'_m); refine Mine.Apart.imp ap'_m ?_; clear ap'_m; walk_at "my_facts")); (try k_lt l1_m); (try dsimp only); (try k_fold))
  k_steps
  all_goals ((try dsimp only); (try k_unfold); (try dsimp only))
  delta Halt
  apply Mine.con_callE (Mine.check_whole_con _ _ _)
  ( (case B => assumption); (case F => k_asm); (case N => k_asm); (case X => assumption); (case T => assumption); (case D => assumption); (case hf => exact rfl); (case hk => exact rfl); (case hP => ((repeat (apply Mine.picks_of; focus (((repeat (first | (refine' Mine.Pick.head ?pk9; (case pk9 => k_all)) | (apply Mine.Pick.tail; focus (k_ne; done))))); done))); exact rfl)); (case hd => ((try dsimp only); first | exact Mine.room (by assumption) rfl | exact Mine.room0 (by assumption) rfl | omega)); (case hu => ((try dsimp only); first | exact Mine.room (by assumption) rfl | exact Mine.room0 (by assumption) rfl | omega)))
  k_whole
  intro h' tk' F' N'
  ((try (rename News _ _ _ _ => n9'_m; simp only [List.cons_append, List.nil_append] at n9'_m)); (try k_sweep); (try dsimp only))
  k_steps
  all_goals ((try dsimp only); (try k_unfold); (try dsimp only))
  refine' con_end hR (by assumption) (by assumption) ?_ ⟨rfl, rfl⟩
  ((repeat (refine List.forall_mem_cons.mpr ⟨by k_mem, ?_⟩)); exact List.forall_mem_nil _)
end Mine
end
section
namespace Mine
structure LT where
  (t1 t2 t3 t4 t5 t6 t7 t8 t9 : Tok)
/-- the dict of a Lines -/
abbrev linesDict (w : World) (T : LT) (te : Tok) (b : Array UInt8) (tb : Tok) (nm : Addr) (at_ : Int) (ta : Tok) (cl : Addr) (spot : Int) (ts : Tok) (state : Int) (tst : Tok) (row : Int) (tr : Tok) : Obj :=
  dictOf [⟨PyData.keyHash w.params (Str.ofString "end_line"), .str (Str.ofString "end_line") T.t1, .int 13 te⟩, ⟨PyData.keyHash w.params (Str.ofString "text"), .str (Str.ofString "text") T.t2, .bytes b tb⟩,
    ⟨PyData.keyHash w.params (Str.ofString "names"), .str (Str.ofString "names") T.t3, .ref nm⟩, ⟨PyData.keyHash w.params (Str.ofString "at"), .str (Str.ofString "at") T.t4, .int at_ ta⟩,
    ⟨PyData.keyHash w.params (Str.ofString "codes"), .str (Str.ofString "codes") T.t5, .ref cl⟩, ⟨PyData.keyHash w.params (Str.ofString "spot"), .str (Str.ofString "spot") T.t6, .int spot ts⟩,
    ⟨PyData.keyHash w.params (Str.ofString "state"), .str (Str.ofString "state") T.t7, .int state tst⟩, ⟨PyData.keyHash w.params (Str.ofString "row"), .str (Str.ofString "row") T.t8, .int row tr⟩,
    ⟨PyData.keyHash w.params (Str.ofString "stopped"), .str (Str.ofString "stopped") T.t9, .bool false⟩] 9
set_option maxHeartbeats 8000000 in
theorem lines_init (w : World) (x dx nm : Addr) (b : Array UInt8) (tb : Tok) (ne : NeA x dx) :
    Con w 336 [.ref x, .bytes b tb, .ref nm] 15 130 [(x, instObj 395 dx), (dx, emptyDict)] (fun v led => v = .none ∧ ∃ T te ta cl ts tst tr, led = [(x, instObj 395 dx), (dx, linesDict w T te b tb nm 0 ta cl 0 ts 0 tst 0 tr), (cl, W.listOf #[] 0)] ∧ Apart [x, dx, cl]) := by
  intro dp un gd base h₀ outer s R p loose mean mg mb A hR
  have hb : Binds [(Str.ofString "end_line", .int 13 672), (Str.ofString "names", .ref nm), (Str.ofString "text", .bytes b tb), (Str.ofString "self", .ref x)] := ⟨⟩
  ( k_dflt (refine' Mine.con_enter (by assumption) (by assumption) ?k6_m ?k7_m ?k9_m ?kB_m ?_ ?c2_m ?c3_m ?c4_m ?c5_m; (case k6_m => k_is); (case k7_m => k_is); (case k9_m => first | exact BindsTo.of_eq rfl | exact binds_K (Frag.In.keeps (Mine.Amb.K (by assumption)) (fun b o e => Mine.Amb.keep (by assumption) b o (Below.stays (Mine.Amb.below (by assumption)) b o e))) rfl (by k_is) rfl rfl rfl); (case c5_m => decide); (case kB_m => exact locs rfl); (case c2_m => exact rfl); (case c3_m => exact rfl); (case c4_m => exact rfl)); intro L'_m h'_m tk_m F'_m N'_m l1_m X_m T_m; have B_m := Mine.Amb.below (by assumption); have XB_m := Mine.Amb.K (by assumption); have TB_m := Mine.Amb.T (by assumption); have D_m := Mine.Amb.dicts (by assumption); have hd_m := Mine.Amb.depth (by assumption); have hu_m := Mine.Amb.units (by assumption); rename Mine.Amb _ _ _ _ _ _ _ _ _ _ _ _ _ _ _ _ => hA_m; clear hA_m; rename Mine.Binds _ => hB_m; clear hB_m; (repeat ((rename Mine.Apart _ => ap'_m); refine Mine.Apart.imp ap'_m ?_; clear ap'_m; walk_at "my_facts")); (try k_lt l1_m); (try dsimp only); (try k_fold))
  k_steps
  all_goals ((try dsimp only); (try k_unfold); (try dsimp only))
  delta Halt
  apply Mine.con_callE (Mine.check_number_con _ _ _ ?h1 ?h2)
  ( (case B => assumption); (case F => k_asm); (case N => k_asm); (case X => assumption); (case T => assumption); (case D => assumption); (case hf => exact rfl); (case hk => exact rfl); (case hP => ((repeat (apply Mine.picks_of; focus (((repeat (first | (refine' Mine.Pick.head ?pk9; (case pk9 => k_all)) | (apply Mine.Pick.tail; focus (k_ne; done))))); done))); exact rfl)); (case hd => ((try dsimp only); first | exact Mine.room (by assumption) rfl | exact Mine.room0 (by assumption) rfl | omega)); (case hu => ((try dsimp only); first | exact Mine.room (by assumption) rfl | exact Mine.room0 (by assumption) rfl | omega)))
  case h1 => omega
  case h2 => omega
  k_whole
  intro h' tk' F' N'
  ((try (rename News _ _ _ _ => n9'_m; simp only [List.cons_append, List.nil_append] at n9'_m)); (try k_sweep); (try dsimp only))
  k_steps
  all_goals ((try dsimp only); (try k_unfold); (try dsimp only))
  refine' con_end hR (by assumption) (by assumption) ?_ ⟨rfl, ⟨_, _, _, _, _, _, _, _, _⟩, _, _, _, _, _, _, rfl, ?_⟩
  · ((repeat (refine List.forall_mem_cons.mpr ⟨by k_mem, ?_⟩)); exact List.forall_mem_nil _)
  · (focus (repeat' (first | exact True.intro | assumption | refine And.intro ?_ ?_ | (refine ⟨?_⟩; k_ne))))
end Mine
end
section
namespace Mine
/-- an open stream of a dict of streams -/
structure Rec where
  (k : Int) (ta la : Addr) (x : Str) (tx : Tok) (vs : List Value) (ns : List Int) (n : Nat)
def Rec.chunk (r : Rec) : List (Addr × Obj) := [(r.ta, tupO r.x r.tx r.la), (r.la, W.listOf r.vs.toArray r.n)]
def chunks (rs : List Rec) : List (Addr × Obj) := rs.flatMap Rec.chunk
def kvsR (rs : List Rec) : List (Int × Value) := rs.map fun r => (r.k, .ref r.ta)
abbrev SS := List (Int × Str × List Int)
abbrev FS := List (Str × Value)
def absR (rs : List Rec) : SS := rs.map fun r => (r.k, r.x, r.ns)
def NameOk (x : Str) : Prop := x = Str.ofString "a" ∨ x = Str.ofString "b.tex" ∨ x = Str.ofString "c"
def PlaceOk (k : Int) : Prop := k = 0 ∨ k = 1 ∨ k = 15 ∨ k = 7
structure RecOk (B : Nat) (r : Rec) : Prop where
  isi : IntsAre r.vs r.ns
  octs : KBa.In r.ns
  len : r.ns.length ≤ B
  name : NameOk r.x
  place : PlaceOk r.k
def er : Value → Value
  | .bytes b _ => .bytes b 0
  | v => v
def erF (kv : FS) : FS := kv.map fun p => (p.1, er p.2)
def shutS (ss : SS) (k : Int) : SS := ss.filter fun q => decide (q.1 ≠ k)
def shutF (ss : SS) (fs : FS) (k : Int) : FS := match ss.find? (fun q => decide (q.1 = k)) with
  | none => fs
  | some q => stored fs q.2.1 (.bytes (byteArr q.2.2) 0)
def openS (ss : SS) (k : Int) (x : Str) : SS := shutS ss k ++ [(k, x, [])]
def writeS (ss : SS) (k : Int) (cs : List Int) : SS := ss.map fun q => if q.1 = k then (q.1, q.2.1, q.2.2 ++ cs) else q
def stLed (sd td : Addr) (so to : Obj) (rs : List Rec) : List (Addr × Obj) := (sd, so) :: (td, to) :: chunks rs
structure StCore (w : World) (td : Addr) (to : Obj) (rs : List Rec) (fs : FS) (B K : Nat) : Prop where
  files : ∃ tkv, to.IsDictOf (strKind PR w) tkv ∧ erF tkv = fs
  lot : (td == sysModules) = false
  recs : ∀ r ∈ rs, RecOk B r
  nod : (rs.map Rec.k).Nodup
  size : rs.length + fs.length ≤ K
  fok : ∀ p ∈ fs, ∃ b, p.2 = .bytes b 0
structure StOk (w : World) (sd td : Addr) (so to : Obj) (rs : List Rec) (fs : FS) (B K : Nat) : Prop extends StCore w td to rs fs B K where
  sdict : so.IsDictOf (intKind PR w) (kvsR rs)
  los : (sd == sysModules) = false
def Nd (l : List (Addr × Obj)) : Prop := (l.map (·.1)).Nodup

theorem nd_perm {l l' : List (Addr × Obj)} (h : l.Perm l') (n : Nd l) : Nd l' := List.Nodup.perm n (h.map _)
theorem nd_append {a b : List (Addr × Obj)} : Nd (a ++ b) ↔ Nd a ∧ Nd b ∧ ∀ p ∈ a, ∀ q ∈ b, p.1 ≠ q.1 := by
  unfold Nd
  rw [List.map_append, List.nodup_append]
  constructor
  · rintro ⟨h1, h2, h3⟩
    exact ⟨h1, h2, fun p hp q hq => h3 _ (List.mem_map_of_mem hp) _ (List.mem_map_of_mem hq)⟩
  · rintro ⟨h1, h2, h3⟩
    refine ⟨h1, h2, fun x hx y hy => ?_⟩
    obtain ⟨p, hp, rfl⟩ := List.mem_map.mp hx
    obtain ⟨q, hq, rfl⟩ := List.mem_map.mp hy
    exact h3 p hp q hq
theorem allNe_nodup {a : Nat} : ∀ {l : List Nat}, a ∉ l → AllNe a l
  | [], _ => trivial
  | b :: r, h => ⟨⟨fun e => h (e ▸ .head _)⟩, allNe_nodup fun m => h (.tail _ m)⟩
theorem apart_nodup : ∀ {l : List Nat}, l.Nodup → Apart l
  | [], _ => trivial
  | a :: r, h => ⟨allNe_nodup (List.nodup_cons.mp h).1, apart_nodup (List.nodup_cons.mp h).2⟩
theorem allNe_mem {a : Nat} : ∀ {l : List Nat}, AllNe a l → a ∉ l
  | [], _ => fun h => nomatch h
  | b :: r, h => fun m => by
    rcases List.mem_cons.mp m with e | m
    · exact h.1.out e
    · exact allNe_mem h.2 m
theorem nodup_apart : ∀ {l : List Nat}, Apart l → l.Nodup
  | [], _ => List.nodup_nil
  | a :: r, h => List.nodup_cons.mpr ⟨allNe_mem h.1, nodup_apart h.2⟩
theorem nd_ap {l : List (Addr × Obj)} (h : Nd l) : Apart (l.map (·.1)) := apart_nodup h
theorem chunks_append (a b : List Rec) : chunks (a ++ b) = chunks a ++ chunks b := List.flatMap_append
theorem chunks_perm (a b : List Rec) (r : Rec) : (chunks (a ++ r :: b)).Perm (r.chunk ++ chunks (a ++ b)) := by
  rw [chunks_append, chunks_append]
  show (chunks a ++ (r.chunk ++ chunks b)).Perm _
  rw [← List.append_assoc, ← List.append_assoc]
  exact List.Perm.append_right _ List.perm_append_comm

theorem rec_split (rs : List Rec) (k : Int) (hn : (rs.map Rec.k).Nodup) : (valueAt (kvsR rs) k = none ∧ (∀ r ∈ rs, r.k ≠ k)) ∨
    ∃ a r b, rs = a ++ r :: b ∧ r.k = k ∧ (∀ q ∈ a ++ b, q.k ≠ k) ∧ valueAt (kvsR rs) k = some (.ref r.ta) := by
  induction rs with
  | nil => exact .inl ⟨rfl, fun _ h => nomatch h⟩
  | cons r rs ih =>
    rw [List.map_cons, List.nodup_cons] at hn
    by_cases h : r.k = k
    · refine .inr ⟨[], r, rs, rfl, h, fun q hq e => hn.1 ?_, ?_⟩
      · rw [h, ← e]; exact List.mem_map_of_mem hq
      · simp [valueAt, kvsR, h]
    · have ev : valueAt (kvsR (r :: rs)) k = valueAt (kvsR rs) k := by simp [valueAt, kvsR, h]
      rcases ih hn.2 with ⟨h1, h2⟩ | ⟨a, q, b, rfl, h2, h3, h4⟩
      · exact .inl ⟨ev.trans h1, List.forall_mem_cons.mpr ⟨h, h2⟩⟩
      · exact .inr ⟨r :: a, q, b, rfl, h2, List.forall_mem_cons.mpr ⟨h, h3⟩, ev.trans h4⟩
theorem kvsR_without (rs : List Rec) (k : Int) : without (kvsR rs) k = kvsR (rs.filter fun r => decide (r.k ≠ k)) := by
  unfold without kvsR
  rw [List.filter_map]; rfl
theorem absR_shut (rs : List Rec) (k : Int) : shutS (absR rs) k = absR (rs.filter fun r => decide (r.k ≠ k)) := by
  unfold shutS absR
  rw [List.filter_map]; rfl
theorem filter_ne {l : List Rec} {k : Int} (h : ∀ r ∈ l, r.k ≠ k) : (l.filter fun r => decide (r.k ≠ k)) = l := List.filter_eq_self.mpr fun r hr => decide_eq_true (h r hr)
theorem filter_split {a b : List Rec} {r : Rec} {k : Int} (hr : r.k = k) (h : ∀ q ∈ a ++ b, q.k ≠ k) : ((a ++ r :: b).filter fun r => decide (r.k ≠ k)) = a ++ b := by
  rw [List.filter_append, List.filter_cons_of_neg (by simp [hr]), ← List.filter_append, filter_ne h]
theorem erF_stored (kv : FS) (x : Str) (v : Value) : erF (stored kv x v) = stored (erF kv) x (er v) := by
  unfold stored erF
  have e : (List.map (fun p : Str × Value => (p.1, er p.2)) kv).any (fun kv => decide (kv.1 = x)) = kv.any fun kv => decide (kv.1 = x) := by
    rw [List.any_map]; rfl
  rw [e]
  split
  · rw [List.map_map, List.map_map]
    refine List.map_congr_left fun p _ => ?_
    show ((if p.1 = x then (p.1, v) else p).1, er (if p.1 = x then (p.1, v) else p).2) = _
    show _ = if p.1 = x then (p.1, er v) else (p.1, er p.2)
    split <;> rfl
  · rw [List.map_append]; rfl
theorem stored_length (fs : FS) (x : Str) (v : Value) : (stored fs x v).length ≤ fs.length + 1 := stored_length_le _ _ _
theorem stored_fok {fs : FS} {x : Str} {b : Array UInt8} (h : ∀ p ∈ fs, ∃ b, p.2 = Value.bytes b 0) : ∀ p ∈ stored fs x (.bytes b 0), ∃ b, p.2 = Value.bytes b 0 := by
  intro p hp
  unfold stored at hp
  split at hp
  · obtain ⟨q, hq, rfl⟩ := List.mem_map.mp hp
    split
    · exact ⟨b, rfl⟩
    · exact h q hq
  · rcases List.mem_append.mp hp with hp | hp
    · exact h p hp
    · rw [List.mem_singleton.mp hp]; exact ⟨b, rfl⟩
theorem erF_length (kv : FS) : (erF kv).length = kv.length := List.length_map _
theorem nameOk_lat {x : Str} (h : NameOk x) : Lat x ∧ (x == Str.ofString "") = false := by
  have key : ∀ l : List Nat, l.all (fun c => decide (c ≤ 255)) = true → Lat ⟨l.toArray⟩ := fun l hl i c hc => by
    have : l[i]? = some c := by simpa using hc
    have := List.all_eq_true.mp hl c (List.mem_of_getElem? this)
    simpa using this
  rcases h with rfl | rfl | rfl
  · exact ⟨key [97] (by decide), by decide +kernel⟩
  · exact ⟨key [98, 46, 116, 101, 120] (by decide), by decide +kernel⟩
  · exact ⟨key [99] (by decide), by decide +kernel⟩
theorem placeOk_range {k : Int} (h : PlaceOk k) : 0 ≤ k ∧ k ≤ 15 := by rcases h with rfl | rfl | rfl | rfl <;> decide
end Mine
end
local macro_rules | `(tactic| walk_at "eval ListComp") => `(tactic| (k_here; refine Mine.Halt.out ?_))
local macro_rules | `(tactic| walk_at "exec Assign cons ListComp") => `(tactic| (k_here; refine Mine.Halt.out ?_))
local macro_rules | `(tactic| walk_at "CompSrcS") => `(tactic| (k_here; refine Mine.Halt.out ?_))
local macro_rules | `(tactic| walk_at "CompSrc") => `(tactic| (k_here; refine Mine.Halt.out ?_))
local macro_rules | `(tactic| walk_at "CompSrcT") => `(tactic| (k_here; refine Mine.Halt.out ?_))
set_option hygiene false in
local macro_rules | `(tactic| walk_at "FinE") => `(tactic| ((unfold LCg.FinE); intro D' h' tk' F' N' o1'; refine Mine.off1_imp o1' ?_; clear o1'; walk_at "my_facts"; (try simp only [List.nil_append, List.cons_append, Mine.lst_listOf] at N'); (try dsimp only)))
set_option hygiene false in
local macro_rules | `(tactic| walk_at "FinA") => `(tactic| ((unfold LCg.FinA); intro D' h' tk' F' N' o1'; refine Mine.off1_imp o1' ?_; clear o1'; walk_at "my_facts"; (try simp only [List.nil_append, List.cons_append, Mine.lst_listOf] at N'); (try dsimp only)))

section
namespace Mine
/-- the codes of a text -/
def ords (x : Str) : List Int := x.cps.toList.map fun c : Nat => (c : Int)
theorem ords_length (x : Str) : (ords x).length = x.cps.size := by simp [ords]
theorem ords_all {x : Str} : (ords x).take x.cps.size = ords x := by rw [← ords_length, List.take_length]
theorem ords_step {x : Str} {i c : Nat} {t : Tok} {ys : List Value} (h : x.cps[i]? = some c) (hI : IntsAre ys ((ords x).take i)) : IntsAre (ys ++ [.int (c : Int) t]) ((ords x).take (i + 1)) := by
  have e : (ords x)[i]? = some (c : Int) := by simp [ords, h]
  rw [List.take_add_one, e]
  exact intsAre_append hI (.cons _ _ .nil)
set_option maxHeartbeats 8000000 in
theorem write_con (w : World) (lib ld td sd ta la : Addr) (t1 t2 tk tx tl : Tok) (so : Obj) (skv : List (Int × Value)) (k : Int) (x y : Str) (vs : List Value) (ns : List Int) (n : Nat)
    (hs : so.IsDictOf (intKind PR w) skv) (lo : (sd == sysModules) = false) (hx : Lat y) (hy : y.cps.size ≤ 1000) (hk : valueAt skv k = some (.ref ta)) (hi : IntsAre vs ns) (hl : ns.length ≤ 100000)
    (ap : Apart [lib, ld, sd, ta, la]) :
    Con w 275 [.ref lib, .int k tk, .str y tl] 8 60 [(lib, instObj 292 ld), (ld, libDict w t1 t2 td sd), (sd, so), (ta, tupO x tx la), (la, W.listOf vs.toArray n)]
      (fun v led => ∃ us n', v = .none ∧ led = [(lib, instObj 292 ld), (ld, libDict w t1 t2 td sd), (sd, so), (ta, tupO x tx la), (la, W.listOf us.toArray n')] ∧ IntsAre us (ns ++ (ords y ++ [10]))) := by
  intro dp un gd base h₀ outer s R p loose mean mg mb A hR
  have hb : Binds [(Str.ofString "line", .str y tl), (Str.ofString "stream", .int k tk), (Str.ofString "self", .ref lib)] := ⟨⟩
  have hk2 : (valueAt skv k).isSome = true := by rw [hk]; rfl
  ( k_dflt (refine' Mine.con_enter (by assumption) (by assumption) ?k6_m ?k7_m ?k9_m ?kB_m ?_ ?c2_m ?c3_m ?c4_m ?c5_m; (case k6_m => k_is); (case k7_m => k_is); (case k9_m => first | exact BindsTo.of_eq rfl | exact binds_K (Frag.In.keeps (Mine.Amb.K (by assumption)) (fun b o e => Mine.Amb.keep (by assumption) b o (Below.stays (Mine.Amb.below (by assumption)) b o e))) rfl (by k_is) rfl rfl rfl); (case c5_m => decide); (case kB_m => exact locs rfl); (case c2_m => exact rfl); (case c3_m => exact rfl); (case c4_m => exact rfl)); intro L'_m h'_m tk_m F'_m N'_m l1_m X_m T_m; have B_m := Mine.Amb.below (by assumption); have XB_m := Mine.Amb.K (by assumption); have TB_m := Mine.Amb.T (by assumption); have D_m := Mine.Amb.dicts (by assumption); have hd_m := Mine.Amb.depth (by assumption); have hu_m := Mine.Amb.units (by assumption); rename Mine.Amb _ _ _ _ _ _ _ _ _ _ _ _ _ _ _ _ => hA_m; clear hA_m; rename Mine.Binds _ => hB_m; clear hB_m; (repeat ((rename Mine.Apart _ => ap'_m); refine Mine.Apart.imp ap'_m ?_; clear ap'_m; walk_at "my_facts")); (try k_lt l1_m); (try dsimp only); (try k_fold))
  k_steps
  all_goals (repeat' (first | (delta Mine.Halt; (k_here; (with_reducible show wpAny _ _ (call (Value.ref 263) [Value.ref _, Value.int _ _]) _ _ _); k_dflt ( apply Mine.con_callE (Mine.isopen_con _ _ _ _ _ _ _ _ _ _ _ ?hs_m ?lo_m); ( (case B => assumption); (case F => k_asm); (case N => k_asm); (case X => assumption); (case T => assumption); (case D => assumption); (case hf => exact rfl); (case hk => exact rfl); (case hP => ((repeat (apply Mine.picks_of; focus (((repeat (first | (refine' Mine.Pick.head ?pk9; (case pk9 => k_all)) | (apply Mine.Pick.tail; focus (k_ne; done))))); done))); exact rfl)); (case hd => ((try dsimp only); first | exact Mine.room (by assumption) rfl | exact Mine.room0 (by assumption) rfl | omega)); (case hu => ((try dsimp only); first | exact Mine.room (by assumption) rfl | exact Mine.room0 (by assumption) rfl | omega))); (case hs_m => assumption); (case lo_m => assumption); k_whole; intro h'_m tk'_m F'_m N'_m; ((try (rename News _ _ _ _ => n9'_m; simp only [List.cons_append, List.nil_append] at n9'_m)); (try k_sweep); (try dsimp only)))); k_steps) | (delta Mine.Halt; (k_here; (with_reducible show wpAny _ _ (call (Value.ref 143) [Value.str _ _]) _ _ _); k_dflt ( apply Mine.con_callE (Mine.check_text_con _ _ _ ?hx_m); ( (case B => assumption); (case F => k_asm); (case N => k_asm); (case X => assumption); (case T => assumption); (case D => assumption); (case hf => exact rfl); (case hk => exact rfl); (case hP => ((repeat (apply Mine.picks_of; focus (((repeat (first | (refine' Mine.Pick.head ?pk9; (case pk9 => k_all)) | (apply Mine.Pick.tail; focus (k_ne; done))))); done))); exact rfl)); (case hd => ((try dsimp only); first | exact Mine.room (by assumption) rfl | exact Mine.room0 (by assumption) rfl | omega)); (case hu => ((try dsimp only); first | exact Mine.room (by assumption) rfl | exact Mine.room0 (by assumption) rfl | omega))); (case hx_m => assumption); k_whole; intro h'_m tk'_m F'_m N'_m; ((try (rename News _ _ _ _ => n9'_m; simp only [List.cons_append, List.nil_append] at n9'_m)); (try k_sweep); (try dsimp only)))); k_steps) | ((k_here; (with_reducible show wpAny _ _ (getItem (Value.ref _) (Value.int _ _)) _ _ _); k_dflt (refine' Mine.dict_item_int ?N ?hp_m ?hd ?hl_m ?_; (case N => k_asm); (case hp_m => k_mem); (case hd => assumption); (case hl_m => assumption))); k_steps) | (delta Mine.Halt; (k_here; (with_reducible show wpAny _ _ (eval (Expr.ListComp _ [⟨Expr.Name _ _, _, _, _⟩] _ _) _) _ _ _); k_dflt (first | ((with_reducible show wpAny _ _ (eval (Expr.ListComp _ [⟨Expr.Name ("mark" : Str) _, _, _, _⟩] _ _) _) _ _ _); refine Mine.ListComp_S (F₀ := by k_asm) (by with_unfolding_all rfl) (by decide) (by rfl) (by decide) (by rfl) ?_) | ((with_reducible show wpAny _ _ (eval (Expr.ListComp _ [⟨Expr.Name ("code" : Str) _, _, [], _⟩] _ _) _) _ _ _); refine LCg.ListComp_U (F₀ := by k_asm) (by with_unfolding_all rfl) (by decide) (by rfl) (by decide) (by rfl) ?_) | ((with_reducible show wpAny _ _ (eval (Expr.ListComp _ [⟨Expr.Name ("code" : Str) _, _, [_], _⟩] _ _) _) _ _ _); refine LCt.ListComp_T (F₀ := by k_asm) (by with_unfolding_all rfl) (by decide) (by rfl) (by decide) (by rfl) ?_) | ((with_reducible show wpAny _ _ (eval (Expr.ListComp _ [⟨Expr.Name ("row" : Str) _, _, _, _⟩] _ _) _) _ _ _); refine LCt.ListComp_T (F₀ := by k_asm) (by with_unfolding_all rfl) (by decide) (by rfl) (by decide) (by rfl) ?_) | ((with_reducible show wpAny _ _ (eval (Expr.ListComp _ [⟨Expr.Name ("place" : Str) _, _, _, _⟩] _ _) _) _ _ _); refine LCt.ListComp_T (F₀ := by k_asm) (by with_unfolding_all rfl) (by decide) (by rfl) (by decide) (by rfl) ?_))); k_steps)))
  all_goals ((try dsimp only); (try k_unfold); (try dsimp only))
  rename Fr _ _ _ _ => F1
  rename News _ _ _ _ => N1
  delta Halt
  refine ⟨_, _, _, rfl, rfl, F1, N1, (by rw [sizeLine_eq]; omega), fun g => ?_⟩
  refine comp_restKX (fun i v ⟨c, u, e1, e2⟩ => ⟨c, u, e2, e1⟩) (fun i ys => IntsAre ys ((ords y).take i)) .nil ?_ ?_
  · intro i c u ys I oI C oC D m₂ h tk E' hi hc hI hC hx9 F2 N2 off ne
    clear F1 N1
    have hc2 := hx _ _ hc
    ((rename LCg.Off3 _ _ _ _ => off'_m); refine Mine.off3_imp off'_m ?_; clear off'_m; walk_at "my_facts")
    obtain ⟨ne1, ne2, ne3⟩ := ne
    have nf1 : NeA I C := ⟨ne1⟩
    have nf2 : NeA I D := ⟨ne2⟩
    have nf3 : NeA C D := ⟨ne3⟩
    clear ne1 ne2 ne3
    dsimp only
    k_steps
    exact ords_step hc hI
  · intro ys hI
    clear F1 N1
    rw [ords_all] at hI
    have hly : (ords y).length ≤ 1000 := by rw [ords_length]; exact hy
    k_steps
    all_goals (repeat' (first | ((k_here; (with_reducible show wpAny _ _ (call (Value.builtin _) [Value.ref _, Value.ref _]) _ _ _); k_dflt (refine' Mine.extend_ints ?F ?N ?b_m ?i_m ?j_m ?U_m ?z_m ?y_m ?_; (case F => k_asm); (case N => k_asm); (case b_m => k_mem); (case U_m => k_upd); (case i_m => assumption); (case j_m => assumption); (case z_m => (simp; done)); (case y_m => (simp only [List.length_append, List.length_cons, List.length_nil]; omega))); intro h'_m F'_m N'_m hI'_m; (try dsimp only at N'_m)); k_steps)))
    all_goals ((try dsimp only); (try k_unfold); (try dsimp only))
    refine' con_end hR (by assumption) (by assumption) ?_ ⟨_, _, rfl, rfl, by assumption⟩
    ((repeat (refine List.forall_mem_cons.mpr ⟨by k_mem, ?_⟩)); exact List.forall_mem_nil _)
end Mine
end
section
namespace Mine
theorem ords_append (x y : Str) : ords (x ++ y) = ords x ++ ords y := by
  show ((x.cps ++ y.cps).toList.map _) = _
  simp [ords]
theorem ords_join : ∀ ss : List Str, ords (PySem.Txt.join (Str.ofString "") ss) = ss.flatMap ords := by
  intro ss
  unfold PySem.Txt.join
  rw [StrLaws.glued_eq_join]
  have h0 : ords (Str.ofString "") = [] := rfl
  induction ss with
  | nil => rfl
  | cons x r ih =>
    cases r with
    | nil => simp [Str.join]
    | cons y r =>
      show ords (x ++ Str.ofString "" ++ Str.join (Str.ofString "") (y :: r)) = _
      rw [ords_append, ords_append, ih, h0]
      simp
theorem length_ords (x : Str) : x.length = (ords x).length := (ords_length x).symm
section
variable {prog : Program} {w : World} {A : Around} {E : Value → Shared → Prop} {s : Shared} {D : Addr} {vs : List Value} {ss : List Str} {t : Tok}
theorem join_strs {Q : Value → Shared → Prop} (hl : s.heap.IsList D vs.toArray) (hs : StrsAre vs ss) (hB : ∀ a ∈ ss, (ords a).length ≤ 4) (hn : ss.length ≤ 100000)
    (h : ∀ y t' k, ords y = ss.flatMap ords → Q (.str y t') { s with toks := k }) : wpAny (model prog w) A (call (.builtin "str.join") [.str (Str.ofString "") t, .ref D]) Q E s := by
  have hc := hs.carried
  refine KT.join_B (g := fun a => a) 4 hl hc (fun a ha => by rw [length_ords]; exact hB a ha) (by omega) (by decide) fun t' k => ?_
  rw [List.map_id'] 
  exact h _ _ _ (ords_join ss)
end
end Mine
end
section
namespace Mine
section
variable {w : World} {d u : Nat} {f : Addr} {args : List Value} {pre pre' rest : List (Addr × Obj)} {post post' : Value → List (Addr × Obj) → Prop}
theorem con_perm (C : Con w f args d u pre post) (P : pre'.Perm (pre ++ rest)) (nd : Nd pre')
    (hp : ∀ v led, post v led → (∀ q ∈ led, ∀ r ∈ rest, q.1 ≠ r.1) → ∃ led', post' v led' ∧ ∀ q ∈ led', q ∈ led ++ rest) : Con w f args d u pre' post' := by
  have h := nd_append.mp (nd_perm P nd)
  exact con_conv C (fun q hq => P.symm.subset (List.mem_append_left _ hq)) (fun q hq => ⟨P.symm.subset (List.mem_append_right _ hq), fun r hr e => h.2.2 r hr q hq e.symm⟩) hp
end
section
variable {w : World} {sd td : Addr} {so to so' to' : Obj} {rs a b : List Rec} {r : Rec} {fs : FS} {B K : Nat} {k : Int} {tkv : List (Str × Value)} {t : Tok}
theorem absR_find_none (h : ∀ r ∈ rs, r.k ≠ k) : (absR rs).find? (fun q => decide (q.1 = k)) = none := by
  rw [List.find?_eq_none]
  intro q hq
  obtain ⟨r, hr, rfl⟩ := List.mem_map.mp hq
  simpa using h r hr
theorem absR_find_some (hr : r.k = k) (h : ∀ q ∈ a ++ b, q.k ≠ k) : (absR (a ++ r :: b)).find? (fun q => decide (q.1 = k)) = some (r.k, r.x, r.ns) := by
  have ha : (absR a).find? (fun q => decide (q.1 = k)) = none := absR_find_none fun q hq => h q (List.mem_append_left _ hq)
  show ((a ++ r :: b).map _).find? _ = _
  rw [List.map_append, List.find?_append]
  show ((absR a).find? _).or _ = _
  rw [ha]
  simp [hr]
theorem shut_no (h : ∀ r ∈ rs, r.k ≠ k) : shutF (absR rs) fs k = fs ∧ shutS (absR rs) k = absR rs := by
  constructor
  · unfold shutF; rw [absR_find_none h]
  · rw [absR_shut, filter_ne h]
theorem shut_yes (hr : r.k = k) (h : ∀ q ∈ a ++ b, q.k ≠ k) : shutF (absR (a ++ r :: b)) fs k = stored fs r.x (.bytes (byteArr r.ns) 0) ∧ shutS (absR (a ++ r :: b)) k = absR (a ++ b) := by
  constructor
  · unfold shutF; rw [absR_find_some hr h]
  · rw [absR_shut, filter_split hr h]
theorem core_shut (S : StCore w td to (a ++ r :: b) fs B K) (hr : r.k = k) (h : ∀ q ∈ a ++ b, q.k ≠ k) (ht : erF tkv = fs)
    (h2 : to'.IsDictOf (strKind PR w) (stored tkv r.x (.bytes (byteArr r.ns) t))) :
    StCore w td to' (a ++ b) (shutF (absR (a ++ r :: b)) fs k) B K := by
  rw [(shut_yes hr h).1]
  refine ⟨⟨_, h2, by rw [erF_stored, ht]; rfl⟩, S.lot, fun q hq => S.recs q ?_, ?_, ?_, stored_fok S.fok⟩
  · rcases List.mem_append.mp hq with hq | hq
    · exact List.mem_append_left _ hq
    · exact List.mem_append_right _ (.tail _ hq)
  · have := S.nod
    rw [List.map_append, List.map_cons, List.nodup_append] at this
    rw [List.map_append, List.nodup_append]
    exact ⟨this.1, (List.nodup_cons.mp this.2.1).2, fun x hx y hy => this.2.2 x hx y (.tail _ hy)⟩
  · have h3 := S.size
    have h4 := stored_length fs r.x (.bytes (byteArr r.ns) 0)
    simp only [List.length_append, List.length_cons] at h3 ⊢
    omega
theorem st_shut (S : StOk w sd td so to (a ++ r :: b) fs B K) (hr : r.k = k) (h : ∀ q ∈ a ++ b, q.k ≠ k) (ht : erF tkv = fs)
    (h1 : so'.IsDictOf (intKind PR w) (without (kvsR (a ++ r :: b)) k)) (h2 : to'.IsDictOf (strKind PR w) (stored tkv r.x (.bytes (byteArr r.ns) t))) :
    StOk w sd td so' to' (a ++ b) (shutF (absR (a ++ r :: b)) fs k) B K :=
  ⟨core_shut S.toStCore hr h ht h2, by rw [kvsR_without, filter_split hr h] at h1; exact h1, S.los⟩
theorem st_open {ta la : Addr} {x : Str} {tx : Tok} (S : StCore w td to rs fs B K) (los : (sd == sysModules) = false) (h : ∀ q ∈ rs, q.k ≠ k) (hx : NameOk x) (hk : PlaceOk k) (h1 : so'.IsDictOf (intKind PR w) (stored (kvsR rs) k (.ref ta))) :
    StOk w sd td so' to (rs ++ [⟨k, ta, la, x, tx, [], [], 0⟩]) fs B (K + 1) := by
  have hv : valueAt (kvsR rs) k = none := by
    apply valueAt_none_of_not_mem
    intro hm
    unfold kvsR at hm
    rw [List.map_map] at hm
    obtain ⟨q, hq, e⟩ := List.mem_map.mp hm
    exact h q hq e
  rw [stored_absent hv] at h1
  refine ⟨⟨S.files, S.lot, fun q hq => ?_, ?_, ?_, S.fok⟩, ?_, los⟩
  · rcases List.mem_append.mp hq with hq | hq
    · exact S.recs q hq
    · rw [List.mem_singleton.mp hq]
      exact ⟨.nil, fun _ h => (nomatch h), Nat.zero_le _, hx, hk⟩
  · rw [List.map_append, List.nodup_append]
    refine ⟨S.nod, List.nodup_cons.mpr ⟨fun h => (nomatch h), List.nodup_nil⟩, fun y hy z hz => ?_⟩
    obtain ⟨q, hq, rfl⟩ := List.mem_map.mp hy
    rw [List.mem_singleton.mp hz]
    exact h q hq
  · have := S.size
    simp only [List.length_append, List.length_cons, List.length_nil]
    omega
  · show so'.IsDictOf _ (List.map _ _)
    rw [List.map_append]
    exact h1
theorem st_write {us : List Value} {n' : Nat} {cs : List Int} {C : Nat} (S : StOk w sd td so to (a ++ r :: b) fs B K) (hr : r.k = k) (h : ∀ q ∈ a ++ b, q.k ≠ k) (hi : IntsAre us (r.ns ++ cs)) (hc : KBa.In cs) (hC : cs.length ≤ C) :
    StOk w sd td so to (a ++ ⟨r.k, r.ta, r.la, r.x, r.tx, us, r.ns ++ cs, n'⟩ :: b) fs (B + C) K ∧ absR (a ++ ⟨r.k, r.ta, r.la, r.x, r.tx, us, r.ns ++ cs, n'⟩ :: b) = writeS (absR (a ++ r :: b)) k cs := by
  have hrr := S.recs r (List.mem_append_right _ (.head _))
  have big : ∀ q, RecOk B q → RecOk (B + C) q := fun q hq => ⟨hq.isi, hq.octs, Nat.le_trans hq.len (Nat.le_add_right _ _), hq.name, hq.place⟩
  constructor
  · refine ⟨⟨S.files, S.lot, fun q hq => ?_, ?_, ?_, S.fok⟩, ?_, S.los⟩
    · rcases List.mem_append.mp hq with hq | hq
      · exact big _ (S.recs q (List.mem_append_left _ hq))
      · rcases List.mem_cons.mp hq with rfl | hq
        · refine ⟨hi, fun e he => ?_, ?_, hrr.name, hrr.place⟩
          · rcases List.mem_append.mp he with he | he
            · exact hrr.octs e he
            · exact hc e he
          · have := hrr.len
            show (r.ns ++ cs).length ≤ _
            rw [List.length_append]; omega
        · exact big _ (S.recs q (List.mem_append_right _ (.tail _ hq)))
    · have := S.nod
      rw [List.map_append, List.map_cons] at this ⊢
      exact this
    · have := S.size
      simp only [List.length_append, List.length_cons] at this ⊢
      exact this
    · have := S.sdict
      unfold kvsR at this ⊢
      rw [List.map_append, List.map_cons] at this ⊢
      exact this
  · have e : ∀ l : List Rec, (∀ q ∈ l, q.k ≠ k) → writeS (absR l) k cs = absR l := fun l hl => by
      unfold writeS absR
      rw [List.map_map]
      refine List.map_congr_left fun q hq => ?_
      exact if_neg (hl q hq)
    have e1 := e a fun q hq => h q (List.mem_append_left _ hq)
    have e2 := e b fun q hq => h q (List.mem_append_right _ hq)
    show List.map _ (a ++ _ :: b) = List.map _ (List.map _ (a ++ r :: b))
    rw [List.map_append, List.map_append, List.map_cons, List.map_cons, List.map_append, List.map_cons]
    show absR a ++ _ :: absR b = writeS (absR a) k cs ++ _ :: writeS (absR b) k cs
    rw [e1, e2, if_pos hr]
theorem nd_shut {l : List (Addr × Obj)} (h : Nd (l ++ stLed sd td so to (a ++ r :: b))) : Nd (l ++ stLed sd td so' to' (a ++ b)) := by
  unfold Nd at h ⊢
  rw [List.map_append] at h ⊢
  refine List.Nodup.sublist ?_ h
  refine List.Sublist.append (List.Sublist.refl _) ?_
  show ((sd :: td :: (chunks (a ++ b)).map (·.1)).Sublist (sd :: td :: (chunks (a ++ r :: b)).map (·.1)))
  refine .cons₂ _ (.cons₂ _ (List.Sublist.map _ ?_))
  rw [chunks_append, chunks_append]
  refine List.Sublist.append (List.Sublist.refl _) ?_
  exact List.sublist_append_right _ _
theorem nd_objs {l : List (Addr × Obj)} (h : Nd (l ++ stLed sd td so to rs)) : Nd (l ++ stLed sd td so' to' rs) := by
  unfold Nd at h ⊢
  rw [List.map_append] at h ⊢
  exact h
end
abbrev libL (w : World) (lib ld td sd : Addr) (t1 t2 : Tok) (so to : Obj) (rs : List Rec) : List (Addr × Obj) := [(lib, instObj 292 ld), (ld, libDict w t1 t2 td sd)] ++ stLed sd td so to rs
theorem libL_perm (w : World) (lib ld td sd : Addr) (t1 t2 : Tok) (so to : Obj) (a b : List Rec) (r : Rec) :
    (libL w lib ld td sd t1 t2 so to (a ++ r :: b)).Perm ([(lib, instObj 292 ld), (ld, libDict w t1 t2 td sd), (sd, so), (td, to), (r.ta, tupO r.x r.tx r.la), (r.la, W.listOf r.vs.toArray r.n)] ++ chunks (a ++ b)) :=
  .cons _ (.cons _ (.cons _ (.cons _ (chunks_perm a b r))))
theorem close_st (w : World) (lib ld td sd : Addr) (t1 t2 tk : Tok) (so to : Obj) (rs : List Rec) (fs : FS) (B K : Nat) (k : Int) (S : StOk w sd td so to rs fs B K) (hB : B ≤ 90000) (hK : K ≤ 900) (nd : Nd (libL w lib ld td sd t1 t2 so to rs)) :
    Con w 282 [.ref lib, .int k tk] 5 40 (libL w lib ld td sd t1 t2 so to rs)
      (fun v led => ∃ so' to' rs', v = .none ∧ led = libL w lib ld td sd t1 t2 so' to' rs' ∧ StOk w sd td so' to' rs' (shutF (absR rs) fs k) B K ∧ absR rs' = shutS (absR rs) k ∧ Nd led) := by
  rcases rec_split rs k S.nod with ⟨h1, h2⟩ | ⟨a, r, b, rfl, h2, h3, h4⟩
  · refine con_perm (rest := (td, to) :: chunks rs) (close_no w lib ld td sd t1 t2 tk so (kvsR rs) k S.sdict S.los (by rw [h1]; rfl) ?_) (List.Perm.refl _) nd ?_
    · exact nd_ap ((nd_append (a := [(lib, instObj 292 ld), (ld, libDict w t1 t2 td sd), (sd, so)]) (b := (td, to) :: chunks rs)).mp nd).1
    · rintro v led ⟨rfl, rfl⟩ -
      exact ⟨_, ⟨so, to, rs, rfl, rfl, by rw [(shut_no h2).1]; exact S, (shut_no (fs := fs) h2).2.symm, nd⟩, fun q hq => hq⟩
  · obtain ⟨tkv, ht, he⟩ := S.files
    have hr := S.recs r (List.mem_append_right _ (.head _))
    have hsz := S.size
    have hsk : (kvsR (a ++ r :: b)).length ≤ 1000 := by unfold kvsR; rw [List.length_map]; omega
    have hst : tkv.length ≤ 1000 := by rw [← erF_length, he]; omega
    refine con_perm (rest := chunks (a ++ b)) (close_yes w lib ld td sd r.ta r.la t1 t2 tk r.tx so to (kvsR (a ++ r :: b)) tkv k r.x r.vs r.ns r.n S.sdict ht S.los S.lot h4 hr.isi hr.octs (by have := hr.len; omega) hsk hst ?_) (libL_perm w lib ld td sd t1 t2 so to a b r) nd ?_
    · exact nd_ap (nd_append.mp (nd_perm (libL_perm w lib ld td sd t1 t2 so to a b r) nd)).1
    · rintro v led ⟨so', to', t, rfl, rfl, h5, h6⟩ -
      exact ⟨_, ⟨so', to', a ++ b, rfl, rfl, st_shut S h2 h3 he h5 h6, (shut_yes (fs := fs) h2 h3).2.symm, nd_shut nd⟩, fun q hq => hq⟩
theorem absR_open {rs : List Rec} {k : Int} {ta la : Addr} {x : Str} {tx : Tok} : absR (rs ++ [⟨k, ta, la, x, tx, [], [], 0⟩]) = absR rs ++ [(k, x, [])] := by unfold absR; rw [List.map_append]; rfl
theorem nd_open {L : List (Addr × Obj)} {sd td ta la : Addr} {so to : Obj} {rs : List Rec} {k : Int} {x : Str} {tx : Tok} {led : List (Addr × Obj)} {rest : List (Addr × Obj)}
    (h : Nd (led ++ rest)) (P : (L ++ stLed sd td so to (rs ++ [⟨k, ta, la, x, tx, [], [], 0⟩])).Perm (led ++ rest)) : Nd (L ++ stLed sd td so to (rs ++ [⟨k, ta, la, x, tx, [], [], 0⟩])) := nd_perm P.symm h
theorem open_st (w : World) (lib ld td sd : Addr) (t1 t2 tk tx : Tok) (so to : Obj) (rs : List Rec) (fs : FS) (B K : Nat) (k : Int) (x : Str) (S : StOk w sd td so to rs fs B K) (hx : NameOk x) (hk : PlaceOk k) (hB : B ≤ 90000) (hK : K ≤ 900) (nd : Nd (libL w lib ld td sd t1 t2 so to rs)) :
    Con w 270 [.ref lib, .int k tk, .str x tx] 12 100 (libL w lib ld td sd t1 t2 so to rs)
      (fun v led => ∃ so' to' rs', v = .none ∧ led = libL w lib ld td sd t1 t2 so' to' rs' ∧ StOk w sd td so' to' rs' (shutF (absR rs) fs k) B (K + 1) ∧ absR rs' = openS (absR rs) k x ∧ Nd led) := by
  obtain ⟨hx1, hx2⟩ := nameOk_lat hx
  obtain ⟨hk1, hk2⟩ := placeOk_range hk
  obtain ⟨tkv, ht, he⟩ := S.files
  have hsz := S.size
  have hsk : (kvsR rs).length ≤ 1000 := by unfold kvsR; rw [List.length_map]; omega
  have hst : tkv.length ≤ 1000 := by rw [← erF_length, he]; omega
  rcases rec_split rs k S.nod with ⟨h1, h2⟩ | ⟨a, r, b, rfl, h2, h3, h4⟩
  · have nd' := (nd_append (a := [(lib, instObj 292 ld), (ld, libDict w t1 t2 td sd), (sd, so)]) (b := (td, to) :: chunks rs)).mp nd
    refine con_perm (rest := (td, to) :: chunks rs) (open_no w lib ld td sd t1 t2 tk tx so (kvsR rs) k x S.sdict S.los (by rw [h1]; rfl) hx1 hx2 hk1 hk2 hsk (nd_ap nd'.1)) (List.Perm.refl _) nd ?_
    rintro v led ⟨so', ta, la, rfl, rfl, h5, ap⟩ hne
    have P : (libL w lib ld td sd t1 t2 so' to (rs ++ [⟨k, ta, la, x, tx, [], [], 0⟩])).Perm ([(lib, instObj 292 ld), (ld, libDict w t1 t2 td sd), (sd, so'), (ta, tupO x tx la), (la, W.listOf #[] 0)] ++ (td, to) :: chunks rs) := by
      refine .cons _ (.cons _ (.cons _ ?_))
      refine List.Perm.trans (.cons _ (chunks_perm rs [] _)) ?_
      rw [List.append_nil]
      exact List.perm_middle.symm
    refine ⟨_, ⟨so', to, _, rfl, rfl, ?_, ?_, ?_⟩, fun q hq => P.subset hq⟩
    · rw [(shut_no h2).1]; exact st_open S.toStCore S.los h2 hx hk h5
    · rw [absR_open]; unfold openS; rw [(shut_no (fs := fs) h2).2]
    · exact nd_perm P.symm (nd_append.mpr ⟨nodup_apart ap, nd'.2.1, hne⟩)
  · have hr := S.recs r (List.mem_append_right _ (.head _))
    have hw3 : (without (kvsR (a ++ r :: b)) k).length ≤ 1000 := Nat.le_trans (List.length_filter_le _ _) hsk
    have nd' := nd_append.mp (nd_perm (libL_perm w lib ld td sd t1 t2 so to a b r) nd)
    refine con_perm (rest := chunks (a ++ b)) (open_yes w lib ld td sd r.ta r.la t1 t2 tk tx r.tx so to (kvsR (a ++ r :: b)) tkv k x r.x r.vs r.ns r.n S.sdict ht S.los S.lot h4 hr.isi hr.octs (by have := hr.len; omega) hx1 hx2 hk1 hk2 hsk hst hw3 (nd_ap nd'.1)) (libL_perm w lib ld td sd t1 t2 so to a b r) nd ?_
    rintro v led ⟨so', to', t, ta, la, rfl, rfl, h5, h6, ap⟩ hne
    rw [kvsR_without, filter_split h2 h3] at h5
    have P : (libL w lib ld td sd t1 t2 so' to' (a ++ b ++ [⟨k, ta, la, x, tx, [], [], 0⟩])).Perm ([(lib, instObj 292 ld), (ld, libDict w t1 t2 td sd), (sd, so'), (td, to'), (ta, tupO x tx la), (la, W.listOf #[] 0)] ++ chunks (a ++ b)) := by
      refine .cons _ (.cons _ (.cons _ (.cons _ ?_)))
      refine List.Perm.trans (chunks_perm (a ++ b) [] _) ?_
      rw [List.append_nil]
      exact List.Perm.refl _
    refine ⟨_, ⟨so', to', _, rfl, rfl, st_open (core_shut S.toStCore h2 h3 he h6) S.los h3 hx hk h5, ?_, ?_⟩, fun q hq => P.subset hq⟩
    · rw [absR_open]; unfold openS; rw [(shut_yes (fs := fs) h2 h3).2]
    · exact nd_perm P.symm (nd_append.mpr ⟨nodup_apart ap, nd'.2.1, hne⟩)
theorem write_st (w : World) (lib ld td sd : Addr) (t1 t2 tk tl : Tok) (so to : Obj) (rs : List Rec) (fs : FS) (B K : Nat) (k : Int) (y : Str) (S : StOk w sd td so to rs fs B K) (hk : ∃ r ∈ rs, r.k = k) (hy : Lat y) (hz : y.cps.size ≤ 1000) (hB : B ≤ 90000) (nd : Nd (libL w lib ld td sd t1 t2 so to rs)) :
    Con w 275 [.ref lib, .int k tk, .str y tl] 8 60 (libL w lib ld td sd t1 t2 so to rs)
      (fun v led => ∃ rs', v = .none ∧ led = libL w lib ld td sd t1 t2 so to rs' ∧ StOk w sd td so to rs' fs (B + 1001) K ∧ absR rs' = writeS (absR rs) k (ords y ++ [10]) ∧ Nd led) := by
  rcases rec_split rs k S.nod with ⟨h1, h2⟩ | ⟨a, r, b, rfl, h2, h3, h4⟩
  · obtain ⟨r, hr, e⟩ := hk
    exact absurd e (h2 r hr)
  · have hr := S.recs r (List.mem_append_right _ (.head _))
    have P0 : (libL w lib ld td sd t1 t2 so to (a ++ r :: b)).Perm ([(lib, instObj 292 ld), (ld, libDict w t1 t2 td sd), (sd, so), (r.ta, tupO r.x r.tx r.la), (r.la, W.listOf r.vs.toArray r.n)] ++ (td, to) :: chunks (a ++ b)) := by
      refine List.Perm.trans (libL_perm w lib ld td sd t1 t2 so to a b r) ?_
      refine .cons _ (.cons _ (.cons _ ?_))
      show ((td, to) :: ([(r.ta, tupO r.x r.tx r.la), (r.la, W.listOf r.vs.toArray r.n)] ++ chunks (a ++ b))).Perm ([(r.ta, tupO r.x r.tx r.la), (r.la, W.listOf r.vs.toArray r.n)] ++ (td, to) :: chunks (a ++ b))
      exact List.perm_middle.symm
    have nd' := nd_append.mp (nd_perm P0 nd)
    refine con_perm (rest := (td, to) :: chunks (a ++ b)) (write_con w lib ld td sd r.ta r.la t1 t2 tk r.tx tl so (kvsR (a ++ r :: b)) k r.x y r.vs r.ns r.n S.sdict S.los hy hz h4 hr.isi (by have := hr.len; omega) (nd_ap nd'.1)) P0 nd ?_
    rintro v led ⟨us, n', rfl, rfl, hi⟩ hne
    have hin : KBa.In (ords y ++ [10]) := fun e he => by
      rcases List.mem_append.mp he with he | he
      · unfold ords at he
        obtain ⟨c, hc, rfl⟩ := List.mem_map.mp he
        obtain ⟨i, hi⟩ := List.mem_iff_getElem?.mp hc
        have := hy i c (by simpa using hi)
        omega
      · rw [List.mem_singleton.mp he]; decide
    obtain ⟨S', e⟩ := st_write (n' := n') S h2 h3 hi hin (C := 1001) (by rw [List.length_append, ords_length]; show y.cps.size + 1 ≤ 1001; omega)
    have P : (libL w lib ld td sd t1 t2 so to (a ++ ⟨r.k, r.ta, r.la, r.x, r.tx, us, r.ns ++ (ords y ++ [10]), n'⟩ :: b)).Perm ([(lib, instObj 292 ld), (ld, libDict w t1 t2 td sd), (sd, so), (r.ta, tupO r.x r.tx r.la), (r.la, W.listOf us.toArray n')] ++ (td, to) :: chunks (a ++ b)) := by
      refine List.Perm.trans (libL_perm w lib ld td sd t1 t2 so to a b _) ?_
      refine .cons _ (.cons _ (.cons _ ?_))
      show ((td, to) :: ([(r.ta, tupO r.x r.tx r.la), (r.la, W.listOf us.toArray n')] ++ chunks (a ++ b))).Perm ([(r.ta, tupO r.x r.tx r.la), (r.la, W.listOf us.toArray n')] ++ (td, to) :: chunks (a ++ b))
      exact List.perm_middle.symm
    refine ⟨_, ⟨_, rfl, rfl, S', e, ?_⟩, fun q hq => P.subset hq⟩
    exact nd_perm P.symm (nd_append.mpr ⟨nd'.1, nd'.2.1, hne⟩)
theorem write_no (w : World) (lib ld td sd : Addr) (t1 t2 tk tx : Tok) (so to : Obj) (rs : List Rec) (fs : FS) (B K : Nat) (k : Int) (x : Str) (S : StOk w sd td so to rs fs B K) (hk : ∀ r ∈ rs, r.k ≠ k) (hx : Lat x) (ap : Apart [lib, ld, sd]) :
    ConR w 275 [.ref lib, .int k tk, .str x tx] 8 60 [(lib, instObj 292 ld), (ld, libDict w t1 t2 td sd), (sd, so)] 88 := by
  refine write_raise w lib ld td sd t1 t2 tk tx so (kvsR rs) k x S.sdict S.los hx ?_ ap
  rcases rec_split rs k S.nod with ⟨h1, h2⟩ | ⟨a, r, b, rfl, h2, h3, h4⟩
  · rw [h1]; rfl
  · exact absurd h2 (hk r (List.mem_append_right _ (.head _)))
end Mine
end
section
namespace Mine
set_option maxHeartbeats 8000000 in
theorem shut_no_con (w : World) (sl fl : Addr) (tk : Tok) (so : Obj) (skv : List (Int × Value)) (k : Int) (hs : so.IsDictOf (intKind PR w) skv) (lo : (sl == sysModules) = false) (hk : (valueAt skv k).isSome = false) :
    Con w 451 [.ref sl, .ref fl, .int k tk] 2 20 [(sl, so)] (fun v led => v = .none ∧ led = [(sl, so)]) := by
  intro dp un gd base h₀ outer s R p loose mean mg mb A hR
  have hb : Binds [(Str.ofString "place", .int k tk), (Str.ofString "files", .ref fl), (Str.ofString "streams", .ref sl)] := ⟨⟩
  ( k_dflt (refine' Mine.con_enter (by assumption) (by assumption) ?k6_m ?k7_m ?k9_m ?kB_m ?_ ?c2_m ?c3_m ?c4_m ?c5_m; (case k6_m => k_is); (case k7_m => k_is); (case k9_m => first | exact BindsTo.of_eq rfl | exact binds_K (Frag.In.keeps (Mine.Amb.K (by assumption)) (fun b o e => Mine.Amb.keep (by assumption) b o (Below.stays (Mine.Amb.below (by assumption)) b o e))) rfl (by k_is) rfl rfl rfl); (case c5_m => decide); (case kB_m => exact locs rfl); (case c2_m => exact rfl); (case c3_m => exact rfl); (case c4_m => exact rfl)); intro L'_m h'_m tk_m F'_m N'_m l1_m X_m T_m; have B_m := Mine.Amb.below (by assumption); have XB_m := Mine.Amb.K (by assumption); have TB_m := Mine.Amb.T (by assumption); have D_m := Mine.Amb.dicts (by assumption); have hd_m := Mine.Amb.depth (by assumption); have hu_m := Mine.Amb.units (by assumption); rename Mine.Amb _ _ _ _ _ _ _ _ _ _ _ _ _ _ _ _ => hA_m; clear hA_m; rename Mine.Binds _ => hB_m; clear hB_m; (repeat ((rename Mine.Apart _ => ap'_m); refine Mine.Apart.imp ap'_m ?_; clear ap'_m; walk_at "my_facts")); (try k_lt l1_m); (try dsimp only); (try k_fold))
  k_steps
  all_goals (repeat' (first | ((k_here; k_dflt (refine' kda_in (knd := PySem.intKind _ _) ?N ?hm_m ?hd ?lo_m (intKind_is _ _ _ _) _ rfl ?_; (case N => k_asm); (case hm_m => k_mem); (case hd => k_asm); (case lo_m => assumption))); k_steps)))
  all_goals ((try dsimp only); (try k_unfold); (try dsimp only))
  exact con_end hR (by assumption) (by assumption) (fun _ h => h) ⟨rfl, rfl⟩
set_option maxHeartbeats 8000000 in
theorem shut_yes_con (w : World) (sl fl ta la : Addr) (tk tx : Tok) (so to : Obj) (skv : List (Int × Value)) (tkv : List (Str × Value)) (k : Int) (x : Str) (vs : List Value) (ns : List Int) (n : Nat)
    (hs : so.IsDictOf (intKind PR w) skv) (ht : to.IsDictOf (strKind PR w) tkv) (lo : (sl == sysModules) = false) (lo2 : (fl == sysModules) = false) (hk : valueAt skv k = some (.ref ta)) (hi : IntsAre vs ns) (hr : KBa.In ns) (hl : ns.length ≤ 100000) (hz : skv.length ≤ 1000) (hz2 : tkv.length ≤ 1000)
    (ap : Apart [sl, fl, ta, la]) :
    Con w 451 [.ref sl, .ref fl, .int k tk] 2 20 [(sl, so), (fl, to), (ta, tupO x tx la), (la, W.listOf vs.toArray n)]
      (fun v led => ∃ so' to' t, v = .none ∧ led = [(sl, so'), (fl, to')] ∧ so'.IsDictOf (intKind PR w) (without skv k) ∧ to'.IsDictOf (strKind PR w) (stored tkv x (.bytes (byteArr ns) t))) := by
  intro dp un gd base h₀ outer s R p loose mean mg mb A hR
  have hb : Binds [(Str.ofString "place", .int k tk), (Str.ofString "files", .ref fl), (Str.ofString "streams", .ref sl)] := ⟨⟩
  have hk2 : (valueAt skv k).isSome = true := by rw [hk]; rfl
  ( k_dflt (refine' Mine.con_enter (by assumption) (by assumption) ?k6_m ?k7_m ?k9_m ?kB_m ?_ ?c2_m ?c3_m ?c4_m ?c5_m; (case k6_m => k_is); (case k7_m => k_is); (case k9_m => first | exact BindsTo.of_eq rfl | exact binds_K (Frag.In.keeps (Mine.Amb.K (by assumption)) (fun b o e => Mine.Amb.keep (by assumption) b o (Below.stays (Mine.Amb.below (by assumption)) b o e))) rfl (by k_is) rfl rfl rfl); (case c5_m => decide); (case kB_m => exact locs rfl); (case c2_m => exact rfl); (case c3_m => exact rfl); (case c4_m => exact rfl)); intro L'_m h'_m tk_m F'_m N'_m l1_m X_m T_m; have B_m := Mine.Amb.below (by assumption); have XB_m := Mine.Amb.K (by assumption); have TB_m := Mine.Amb.T (by assumption); have D_m := Mine.Amb.dicts (by assumption); have hd_m := Mine.Amb.depth (by assumption); have hu_m := Mine.Amb.units (by assumption); rename Mine.Amb _ _ _ _ _ _ _ _ _ _ _ _ _ _ _ _ => hA_m; clear hA_m; rename Mine.Binds _ => hB_m; clear hB_m; (repeat ((rename Mine.Apart _ => ap'_m); refine Mine.Apart.imp ap'_m ?_; clear ap'_m; walk_at "my_facts")); (try k_lt l1_m); (try dsimp only); (try k_fold))
  k_steps
  all_goals (repeat' (first | ((k_here; (with_reducible show wpAny _ _ (setItem (Value.ref _) (Value.str _ _) _) _ _ _); k_dflt (refine' kda_set (knd := PySem.strKind _ _) ?F ?N ?U_m ?d_m (strKind_is _ _ _ _) ?z_m ?_; (case F => k_asm); (case N => k_asm); (case U_m => k_updF); (case d_m => k_asm); (case z_m => (rw [sizeLine_eq]; omega))); intro h'_m o'_m F'_m N'_m hd'_m; (try dsimp only at N'_m)); k_steps) | ((k_here; (with_reducible show wpAny _ _ (call (Value.builtin "dict.pop") [Value.ref _, Value.int _ _]) _ _ _); k_dflt (refine' kob_pop (knd := PySem.intKind _ _) (more := []) ?F ?N ?U_m ?d_m (intKind_is _ _ _ _) (.inl rfl) (by rfl) (PySem.F.args_dict_pop_2 _ _) ?l_m ?z_m ?_; (case F => k_asm); (case N => k_asm); (case U_m => k_updF); (case d_m => k_asm); (case l_m => assumption); (case z_m => (rw [sizeLine_eq]; omega))); intro h'_m o'_m F'_m N'_m hd'_m; (try dsimp only at N'_m)); k_steps) | ((k_here; k_dflt (refine' kda_in (knd := PySem.intKind _ _) ?N ?hm_m ?hd ?lo_m (intKind_is _ _ _ _) _ rfl ?_; (case N => k_asm); (case hm_m => k_mem); (case hd => k_asm); (case lo_m => assumption))); k_steps)))
  all_goals ((try dsimp only); (try k_unfold); (try dsimp only))
  refine con_end hR (by assumption) (by assumption) ?_ ⟨_, _, _, rfl, rfl, by assumption, by assumption⟩
  ((repeat (refine List.forall_mem_cons.mpr ⟨by k_mem, ?_⟩)); exact List.forall_mem_nil _)
theorem shut_st (w : World) (sl fl : Addr) (tk : Tok) (so to : Obj) (rs : List Rec) (fs : FS) (B K : Nat) (k : Int) (S : StOk w sl fl so to rs fs B K) (hB : B ≤ 90000) (hK : K ≤ 900) (nd : Nd (stLed sl fl so to rs)) :
    Con w 451 [.ref sl, .ref fl, .int k tk] 2 20 (stLed sl fl so to rs)
      (fun v led => ∃ so' to' rs', v = .none ∧ led = stLed sl fl so' to' rs' ∧ StOk w sl fl so' to' rs' (shutF (absR rs) fs k) B K ∧ absR rs' = shutS (absR rs) k ∧ Nd led) := by
  rcases rec_split rs k S.nod with ⟨h1, h2⟩ | ⟨a, r, b, rfl, h2, h3, h4⟩
  · refine con_perm (rest := (fl, to) :: chunks rs) (shut_no_con w sl fl tk so (kvsR rs) k S.sdict S.los (by rw [h1]; rfl)) (List.Perm.refl _) nd ?_
    rintro v led ⟨rfl, rfl⟩ -
    exact ⟨_, ⟨so, to, rs, rfl, rfl, by rw [(shut_no h2).1]; exact S, (shut_no (fs := fs) h2).2.symm, nd⟩, fun q hq => hq⟩
  · obtain ⟨tkv, ht, he⟩ := S.files
    have hr := S.recs r (List.mem_append_right _ (.head _))
    have hsz := S.size
    have hsk : (kvsR (a ++ r :: b)).length ≤ 1000 := by unfold kvsR; rw [List.length_map]; omega
    have hst : tkv.length ≤ 1000 := by rw [← erF_length, he]; omega
    have P : (stLed sl fl so to (a ++ r :: b)).Perm ([(sl, so), (fl, to), (r.ta, tupO r.x r.tx r.la), (r.la, W.listOf r.vs.toArray r.n)] ++ chunks (a ++ b)) := .cons _ (.cons _ (chunks_perm a b r))
    refine con_perm (rest := chunks (a ++ b)) (shut_yes_con w sl fl r.ta r.la tk r.tx so to (kvsR (a ++ r :: b)) tkv k r.x r.vs r.ns r.n S.sdict ht S.los S.lot h4 hr.isi hr.octs (by have := hr.len; omega) hsk hst ?_) P nd ?_
    · exact nd_ap (nd_append.mp (nd_perm P nd)).1
    · rintro v led ⟨so', to', t, rfl, rfl, h5, h6⟩ -
      exact ⟨_, ⟨so', to', a ++ b, rfl, rfl, st_shut S h2 h3 he h5 h6, (shut_yes (fs := fs) h2 h3).2.symm, nd_shut (l := []) nd⟩, fun q hq => hq⟩
end Mine
end
section
namespace Mine
open PyProof.V PySem.Spec
section
variable {prog : Program} {w : World} {A : Around} {E : Value → Shared → Prop} {s : Shared} {env : Env} {h₀ : Heap} {x : Str} {body : List Stmt} {Q : Flow → Shared → Prop}
theorem for_list {σ : Type} {l : Addr} {its : Array Value} {k : Nat} {m₀ : Str → Option Value} (Led : σ → List (Addr × Obj)) (ps : σ → List (Str × Value)) (J : Nat → σ → Prop) (c₀ : σ)
    (hh : A.handled = none) (hl : (l, W.listOf its k) ∈ Led c₀) (hm : ∀ i c, J i c → (l, W.listOf its k) ∈ Led c)
    (F : Fr h₀ env.locals s.heap m₀) (N : News h₀ env.locals s.heap (Led c₀)) (hk : Loc (ps c₀) m₀) (hj : J 0 c₀)
    (turn : ∀ (i : Nat) v c u h tk I o, its[i]? = some v → J i c → (∀ p ∈ Led c, p.1 ≠ I) → Fr h₀ env.locals h (fun z => if z = x then some v else kstB u (ps c) z) → News h₀ env.locals h ((I, o) :: Led c) →
      wpAny (model prog w) A (execs body env) (TurnEnd h₀ env.locals I o Led ps (J (i + 1)) { s with heap := h, toks := tk } Q) E { s with heap := h, toks := tk })
    (done : ∀ c u h tk, J its.size c → Fr h₀ env.locals h (kstB u (ps c)) → News h₀ env.locals h (Led c) → Q .next { s with heap := h, toks := tk }) :
    wpAny (model prog w) A (pyIter (.ref l)) (fun it s₂ => LoopAtV prog w A h₀ env x body Q E it s₂) E s := by
  obtain ⟨hl1, hl2, hl3⟩ := N _ hl
  have hls : s.heap.IsList l its := ⟨_, hl1, rfl, k, rfl⟩
  have hlt : l < s.heap.objs.size := Heap.lt_size hl1
  have hne : l ≠ s.heap.objs.size := Nat.ne_of_lt hlt
  refine wpAny_pyIter_list hls ?_
  have W := Walks.list (prog := prog) (w := w) hh s.heap.objs.size l hne its
  refine for_gen (ro := [l]) Led ps J c₀ W (fun i h hst => ?_) (next_is_new F) (Nat.ne_of_lt F.ns.lt) ?_ ?_ ?_ (F.push _)
    (fun p hp => ⟨Heap.get?_push_of_some _ (N p hp).1, (N p hp).2⟩) (fun p hp e => absurd (Heap.lt_size (N p hp).1) (by rw [e]; exact Nat.lt_irrefl _)) hk hj ?_ ?_
  · obtain ⟨⟨o, ho, _⟩, _⟩ := hst
    exact ⟨o, ho⟩
  · intro hm2
    exact hl2 (List.mem_singleton.mp hm2).symm
  · intro b hb
    rw [List.mem_singleton.mp hb]
    exact .inr ⟨_, hm⟩
  · exact ⟨⟨_, Heap.get?_push_size _ rfl, rfl, rfl⟩, hls.at fun o e => Heap.get?_push_of_some _ e⟩
  · intro i v c u h tk o hi hP hJ hne' F' N'
    exact turn i v c u h tk _ o (by simpa using hP) hJ hne' F' N'
  · intro c u h tk hJ F' N'
    exact done c u h tk hJ F' N'
end
section
variable {w : World} {A₀ : Around} {base h₀ : Heap} {outer : List Env} {s : Shared} {L : Addr} {m : Str → Option Value} {news pre rest : List (Addr × Obj)} {env : Env}
  {dp un d u : Nat} {gd : Option (List Code)} {f C : Addr} {args : List Value} {post : Value → List (Addr × Obj) → Prop} {Q E : Value → Shared → Prop}
  {p : Program} {loose : List Str} {mean : ExcName → Option Value} {mg mb : Str → Option Value}
theorem con_nd (C : Con w f args d u pre post) (B : Below A₀ base outer h₀) (F : Fr h₀ L s.heap m) (N : News h₀ L s.heap news) (X : (Mine.hd.heap_39 w.params).In base) (T : Top p loose mean mg mb base) (D : KtsDicts (outer.filterMap (·.frame)) h₀)
    (hf : env.frame = some L) (hke : env.scope.kind = .function) (P : news.Perm (pre ++ rest)) (nd : Nd news) (hd : dp + d < recursionLimit) (hu : un + u < cLine)
    (h : ∀ v h' tk' led, post v led → Fr h₀ L h' m → News h₀ L h' (led ++ rest) → (∀ q ∈ led, ∀ r ∈ rest, q.1 ≠ r.1) → Nd rest → Q v { s with heap := h', toks := tk' }) :
    wpAny (model PySem.Challenge.rw_sq0039_01.row.prog w) (⟨none, dp, some (env :: outer), gd, un⟩ : Around) (call (.ref f) args) Q E s := by
  have h2 := nd_append.mp (nd_perm P nd)
  exact con_use C B F N X T D hf hke (fun q hq => P.symm.subset (List.mem_append_left _ hq)) (fun q hq => ⟨P.symm.subset (List.mem_append_right _ hq), fun r hr e => h2.2.2 r hr q hq e.symm⟩) hd hu
    fun v h' tk' led h3 h4 h5 h6 => h v h' tk' led h3 h4 h5 h6 h2.2.1
end
theorem nd_cons {p : Addr × Obj} {l : List (Addr × Obj)} (h : ∀ q ∈ l, q.1 ≠ p.1) (n : Nd l) : Nd (p :: l) := List.nodup_cons.mpr ⟨fun m => by
  obtain ⟨q, hq, e⟩ := List.mem_map.mp m
  exact h q hq e, n⟩
theorem nd_tail {p : Addr × Obj} {l : List (Addr × Obj)} (n : Nd (p :: l)) : Nd l := (List.nodup_cons.mp n).2
theorem nd_head {p : Addr × Obj} {l : List (Addr × Obj)} (n : Nd (p :: l)) : ∀ q ∈ l, q.1 ≠ p.1 := fun q hq e => (List.nodup_cons.mp n).1 (List.mem_map.mpr ⟨q, hq, e⟩)
/-- all streams of a list of keys, one after the other -/
def shut1 (p : SS × FS) (k : Int) : SS × FS := (shutS p.1 k, shutF p.1 p.2 k)
theorem shut1_step {ns : List Int} {i : Nat} {k : Int} {p₀ : SS × FS} {ss : SS} {fs : FS} (h : ns[i]? = some k) (e : (ss, fs) = (ns.take i).foldl shut1 p₀) : (shutS ss k, shutF ss fs k) = (ns.take (i + 1)).foldl shut1 p₀ := by
  rw [List.take_add_one, h, List.foldl_append, ← e]; rfl
end Mine
end
section
namespace Mine
set_option maxHeartbeats 4000000 in
theorem refused_gen (w : World) (lib ld td sd : Addr) (t1 t2 : Tok) (pv : Value) (x : Str) (tx : Tok) (C : ConR w 270 [.ref lib, pv, .str x tx] 12 100 [(lib, instObj 292 ld), (ld, libDict w t1 t2 td sd)] 52) (ap : Apart [lib, ld]) :
    ConT w 463 [.ref lib, pv, .str x tx] 16 160 [(lib, instObj 292 ld), (ld, libDict w t1 t2 td sd)] (fun v led => v = .bool true ∧ led = [(lib, instObj 292 ld), (ld, libDict w t1 t2 td sd)]) := by
  intro dp un gd base h₀ outer s R p loose mean mg mb A hR
  have hb : Binds [(Str.ofString "name", .str x tx), (Str.ofString "place", pv), (Str.ofString "library", .ref lib)] := ⟨⟩
  ( k_dflt (refine' Mine.con_enter (by assumption) (by assumption) ?k6_m ?k7_m ?k9_m ?kB_m ?_ ?c2_m ?c3_m ?c4_m ?c5_m; (case k6_m => k_is); (case k7_m => k_is); (case k9_m => first | exact BindsTo.of_eq rfl | exact binds_K (Frag.In.keeps (Mine.Amb.K (by assumption)) (fun b o e => Mine.Amb.keep (by assumption) b o (Below.stays (Mine.Amb.below (by assumption)) b o e))) rfl (by k_is) rfl rfl rfl); (case c5_m => decide); (case kB_m => exact locs rfl); (case c2_m => exact rfl); (case c3_m => exact rfl); (case c4_m => exact rfl)); intro L'_m h'_m tk_m F'_m N'_m l1_m X_m T_m; have B_m := Mine.Amb.below (by assumption); have XB_m := Mine.Amb.K (by assumption); have TB_m := Mine.Amb.T (by assumption); have D_m := Mine.Amb.dicts (by assumption); have hd_m := Mine.Amb.depth (by assumption); have hu_m := Mine.Amb.units (by assumption); rename Mine.Amb _ _ _ _ _ _ _ _ _ _ _ _ _ _ _ _ => hA_m; clear hA_m; rename Mine.Binds _ => hB_m; clear hB_m; (repeat ((rename Mine.Apart _ => ap'_m); refine Mine.Apart.imp ap'_m ?_; clear ap'_m; walk_at "my_facts")); (try k_lt l1_m); (try dsimp only); (try k_fold))
  k_steps
  all_goals (repeat' (first | (delta Mine.Halt; (k_here; (with_reducible show wpAny _ _ (call (Value.ref 270) [Value.ref _, _, Value.str _ _]) _ _ _); k_dflt ( refine' Mine.con_useR (d := 12) (u := 100) ?C9_m ?B ?F ?N ?X ?T ?D ?hf ?hk ?hP ?hd ?hu ?_; (case C9_m => assumption); (case B => assumption); (case F => k_asm); (case N => k_asm); (case X => assumption); (case T => assumption); (case D => assumption); (case hf => exact rfl); (case hk => exact rfl); (case hP => ((repeat (refine List.forall_mem_cons.mpr ⟨by k_mem, ?_⟩)); exact List.forall_mem_nil _)); (case hd => ((try dsimp only); first | exact Mine.room (by assumption) rfl | exact Mine.room0 (by assumption) rfl | omega)); (case hu => ((try dsimp only); first | exact Mine.room (by assumption) rfl | exact Mine.room0 (by assumption) rfl | omega)); k_whole; intro e9'_m t9'_m vs9'_m h9'_m tk9'_m G9'_m FG9'_m hG9'_m hS9'_m hU9'_m; clear hG9'_m; (try dsimp only))); k_steps)))
  all_goals ((try dsimp only); (try k_unfold); (try dsimp only))
  exact conT_end hR (by assumption) (by assumption) (by assumption) (fun _ h => h) ⟨rfl, rfl⟩
theorem refused_int (w : World) (lib ld td sd : Addr) (t1 t2 tk tx : Tok) (k : Int) (x : Str) (hx : Lat x) (hx0 : (x == Str.ofString "") = false) (hk : ¬ (0 ≤ k ∧ k ≤ 15)) (ap : Apart [lib, ld]) :
    ConT w 463 [.ref lib, .int k tk, .str x tx] 16 160 [(lib, instObj 292 ld), (ld, libDict w t1 t2 td sd)] (fun v led => v = .bool true ∧ led = [(lib, instObj 292 ld), (ld, libDict w t1 t2 td sd)]) :=
  refused_gen w lib ld td sd t1 t2 _ x tx (conR_conv (open_raise_int w lib tk tx k x hx hx0 hk) (fun _ h => nomatch h) fun _ _ => .inr fun _ h => nomatch h) ap
theorem refused_bool (w : World) (lib ld td sd : Addr) (t1 t2 tx : Tok) (k : Bool) (x : Str) (hx : Lat x) (hx0 : (x == Str.ofString "") = false) (ap : Apart [lib, ld]) :
    ConT w 463 [.ref lib, .bool k, .str x tx] 16 160 [(lib, instObj 292 ld), (ld, libDict w t1 t2 td sd)] (fun v led => v = .bool true ∧ led = [(lib, instObj 292 ld), (ld, libDict w t1 t2 td sd)]) :=
  refused_gen w lib ld td sd t1 t2 _ x tx (conR_conv (open_raise_bool w lib tx k x hx hx0) (fun _ h => nomatch h) fun _ _ => .inr fun _ h => nomatch h) ap
theorem refused_name (w : World) (lib ld td sd : Addr) (t1 t2 tk tx : Tok) (k : Int) (ap : Apart [lib, ld]) :
    ConT w 463 [.ref lib, .int k tk, .str (Str.ofString "") tx] 16 160 [(lib, instObj 292 ld), (ld, libDict w t1 t2 td sd)] (fun v led => v = .bool true ∧ led = [(lib, instObj 292 ld), (ld, libDict w t1 t2 td sd)]) :=
  refused_gen w lib ld td sd t1 t2 _ _ tx (conR_conv (open_raise_name w lib tk tx k) (fun _ h => nomatch h) fun _ _ => .inr fun _ h => nomatch h) ap
end Mine
end
section
namespace Mine
/-- the dict of a CatList -/
abbrev catDict (w : World) (t1 : Tok) (rl : Addr) : Obj := dictOf [⟨PyData.keyHash w.params (Str.ofString "rows"), .str (Str.ofString "rows") t1, .ref rl⟩] 1
/-- the 256 categories of the law -/
def catRows : List Int := (List.range 256).map fun c => if c = 94 then 7 else 12
theorem catRows_at {i : Nat} {c : Int} (h : catRows[i]? = some c) : 0 ≤ c ∧ c ≤ 15 := by
  unfold catRows at h
  rw [List.getElem?_map] at h
  obtain ⟨a, _, rfl⟩ := Option.map_eq_some_iff.mp h
  split <;> decide
theorem catRows_length : catRows.length = 256 := by simp [catRows]
set_option maxHeartbeats 8000000 in
theorem category_con (w : World) (x dx rl : Addr) (t1 tk : Tok) (vs : List Value) (rs : List Int) (n : Nat) (k : Int) (hi : IntsAre vs rs) (hl : rs.length = 256) (h0 : 0 ≤ k) (h1 : k ≤ 255) (ap : Apart [x, dx, rl]) :
    Con w 220 [.ref x, .int k tk] 6 50 [(x, instObj 230 dx), (dx, catDict w t1 rl), (rl, W.listOf vs.toArray n)] (fun v led => (∃ t, v = .int (rs.getD k.toNat 0) t) ∧ led = [(x, instObj 230 dx), (dx, catDict w t1 rl), (rl, W.listOf vs.toArray n)]) := by
  intro dp un gd base h₀ outer s R p loose mean mg mb A hR
  have hb : Binds [(Str.ofString "code", .int k tk), (Str.ofString "self", .ref x)] := ⟨⟩
  ( k_dflt (refine' Mine.con_enter (by assumption) (by assumption) ?k6_m ?k7_m ?k9_m ?kB_m ?_ ?c2_m ?c3_m ?c4_m ?c5_m; (case k6_m => k_is); (case k7_m => k_is); (case k9_m => first | exact BindsTo.of_eq rfl | exact binds_K (Frag.In.keeps (Mine.Amb.K (by assumption)) (fun b o e => Mine.Amb.keep (by assumption) b o (Below.stays (Mine.Amb.below (by assumption)) b o e))) rfl (by k_is) rfl rfl rfl); (case c5_m => decide); (case kB_m => exact locs rfl); (case c2_m => exact rfl); (case c3_m => exact rfl); (case c4_m => exact rfl)); intro L'_m h'_m tk_m F'_m N'_m l1_m X_m T_m; have B_m := Mine.Amb.below (by assumption); have XB_m := Mine.Amb.K (by assumption); have TB_m := Mine.Amb.T (by assumption); have D_m := Mine.Amb.dicts (by assumption); have hd_m := Mine.Amb.depth (by assumption); have hu_m := Mine.Amb.units (by assumption); rename Mine.Amb _ _ _ _ _ _ _ _ _ _ _ _ _ _ _ _ => hA_m; clear hA_m; rename Mine.Binds _ => hB_m; clear hB_m; (repeat ((rename Mine.Apart _ => ap'_m); refine Mine.Apart.imp ap'_m ?_; clear ap'_m; walk_at "my_facts")); (try k_lt l1_m); (try dsimp only); (try k_fold))
  k_steps
  all_goals (repeat' (first | (delta Mine.Halt; (k_here; (with_reducible show wpAny _ _ (call (Value.ref 109) [Value.int _ _, Value.int _ _, Value.int _ _]) _ _ _); k_dflt ( apply Mine.con_callE (Mine.whole_con _ _ _ _ _ _ _); ( (case B => assumption); (case F => k_asm); (case N => k_asm); (case X => assumption); (case T => assumption); (case D => assumption); (case hf => exact rfl); (case hk => exact rfl); (case hP => ((repeat (apply Mine.picks_of; focus (((repeat (first | (refine' Mine.Pick.head ?pk9; (case pk9 => k_all)) | (apply Mine.Pick.tail; focus (k_ne; done))))); done))); exact rfl)); (case hd => ((try dsimp only); first | exact Mine.room (by assumption) rfl | exact Mine.room0 (by assumption) rfl | omega)); (case hu => ((try dsimp only); first | exact Mine.room (by assumption) rfl | exact Mine.room0 (by assumption) rfl | omega))); k_whole; intro h'_m tk'_m F'_m N'_m; ((try (rename News _ _ _ _ => n9'_m; simp only [List.cons_append, List.nil_append] at n9'_m)); (try k_sweep); (try dsimp only)))); k_steps)))
  all_goals ((try dsimp only); (try k_unfold); (try dsimp only))
  exact con_end hR (by assumption) (by assumption) (fun _ h => h) ⟨⟨_, rfl⟩, rfl⟩
set_option maxHeartbeats 8000000 in
theorem cat_init (w : World) (x dx rl : Addr) (vs : List Value) (n : Nat) (hi : IntsAre vs catRows) (ap : Apart [x, dx, rl]) :
    Con w 213 [.ref x, .ref rl] 10 90 [(x, instObj 230 dx), (dx, emptyDict), (rl, W.listOf vs.toArray n)] (fun v led => v = .none ∧ ∃ t1 r2 us n2, led = [(x, instObj 230 dx), (dx, catDict w t1 r2), (r2, W.listOf us.toArray n2)] ∧ IntsAre us catRows ∧ Apart [x, dx, r2]) := by
  intro dp un gd base h₀ outer s R p loose mean mg mb A hR
  have hb : Binds [(Str.ofString "rows", .ref rl), (Str.ofString "self", .ref x)] := ⟨⟩
  have hlr := catRows_length
  ( k_dflt (refine' Mine.con_enter (by assumption) (by assumption) ?k6_m ?k7_m ?k9_m ?kB_m ?_ ?c2_m ?c3_m ?c4_m ?c5_m; (case k6_m => k_is); (case k7_m => k_is); (case k9_m => first | exact BindsTo.of_eq rfl | exact binds_K (Frag.In.keeps (Mine.Amb.K (by assumption)) (fun b o e => Mine.Amb.keep (by assumption) b o (Below.stays (Mine.Amb.below (by assumption)) b o e))) rfl (by k_is) rfl rfl rfl); (case c5_m => decide); (case kB_m => exact locs rfl); (case c2_m => exact rfl); (case c3_m => exact rfl); (case c4_m => exact rfl)); intro L'_m h'_m tk_m F'_m N'_m l1_m X_m T_m; have B_m := Mine.Amb.below (by assumption); have XB_m := Mine.Amb.K (by assumption); have TB_m := Mine.Amb.T (by assumption); have D_m := Mine.Amb.dicts (by assumption); have hd_m := Mine.Amb.depth (by assumption); have hu_m := Mine.Amb.units (by assumption); rename Mine.Amb _ _ _ _ _ _ _ _ _ _ _ _ _ _ _ _ => hA_m; clear hA_m; rename Mine.Binds _ => hB_m; clear hB_m; (repeat ((rename Mine.Apart _ => ap'_m); refine Mine.Apart.imp ap'_m ?_; clear ap'_m; walk_at "my_facts")); (try k_lt l1_m); (try dsimp only); (try k_fold))
  k_steps
  all_goals (repeat' (first | (delta Mine.Halt; (k_here; (with_reducible show wpAny _ _ (eval (Expr.ListComp _ [⟨Expr.Name _ _, _, _, _⟩] _ _) _) _ _ _); k_dflt (first | ((with_reducible show wpAny _ _ (eval (Expr.ListComp _ [⟨Expr.Name ("mark" : Str) _, _, _, _⟩] _ _) _) _ _ _); refine Mine.ListComp_S (F₀ := by k_asm) (by with_unfolding_all rfl) (by decide) (by rfl) (by decide) (by rfl) ?_) | ((with_reducible show wpAny _ _ (eval (Expr.ListComp _ [⟨Expr.Name ("code" : Str) _, _, [], _⟩] _ _) _) _ _ _); refine LCg.ListComp_U (F₀ := by k_asm) (by with_unfolding_all rfl) (by decide) (by rfl) (by decide) (by rfl) ?_) | ((with_reducible show wpAny _ _ (eval (Expr.ListComp _ [⟨Expr.Name ("code" : Str) _, _, [_], _⟩] _ _) _) _ _ _); refine LCt.ListComp_T (F₀ := by k_asm) (by with_unfolding_all rfl) (by decide) (by rfl) (by decide) (by rfl) ?_) | ((with_reducible show wpAny _ _ (eval (Expr.ListComp _ [⟨Expr.Name ("row" : Str) _, _, _, _⟩] _ _) _) _ _ _); refine LCt.ListComp_T (F₀ := by k_asm) (by with_unfolding_all rfl) (by decide) (by rfl) (by decide) (by rfl) ?_) | ((with_reducible show wpAny _ _ (eval (Expr.ListComp _ [⟨Expr.Name ("place" : Str) _, _, _, _⟩] _ _) _) _ _ _); refine LCt.ListComp_T (F₀ := by k_asm) (by with_unfolding_all rfl) (by decide) (by rfl) (by decide) (by rfl) ?_))); k_steps)))
  all_goals ((try dsimp only); (try k_unfold); (try dsimp only))
  rename Fr _ _ _ _ => F1
  rename News _ _ _ _ => N1
  delta Halt
  refine LCt.CompSrcT.ledger rfl F1 N1 (.tail _ (.tail _ (.head _))) (by rw [sizeLine_eq, List.size_toArray, hi.length, hlr]; decide) fun g => ?_
  refine comp_restT (fun i ys nw => nw = [(x, instObj 230 dx), (dx, emptyDict), (rl, W.listOf vs.toArray n)] ∧ ys = []) ⟨rfl, rfl⟩ ?_ ?_
  · rintro i v ys nw I oI C oC D m₂ h tk E' hi9 hv ⟨rfl, rfl⟩ hC hx9 F2 N2 off ne
    obtain ⟨c, t, rfl, hc⟩ := IntsAre.at hi i v (by simpa using hv)
    obtain ⟨hc1, hc2⟩ := catRows_at hc
    clear F1 N1
    (((rename LCg.Off3 _ _ _ _ => off'_m); refine Mine.off3_imp off'_m ?_; clear off'_m; walk_at "my_facts"); (rename _ ∧ _ ∧ _ => ne'_m); (have nf1'_m := Mine.NeA.mk (And.left ne'_m)); (have nf2'_m := Mine.NeA.mk (And.left (And.right ne'_m))); (have nf3'_m := Mine.NeA.mk (And.right (And.right ne'_m))); (clear ne'_m); (try dsimp only))
    k_steps
    all_goals (repeat' (first | (delta Mine.Halt; (k_here; (with_reducible show wpAny _ _ (call (Value.ref 109) [Value.int _ _, Value.int _ _, Value.int _ _]) _ _ _); k_dflt ( apply Mine.con_callE (Mine.whole_con _ _ _ _ _ _ _); ( (case B => assumption); (case F => k_asm); (case N => k_asm); (case X => assumption); (case T => assumption); (case D => assumption); (case hf => exact rfl); (case hk => exact rfl); (case hP => ((repeat (apply Mine.picks_of; focus (((repeat (first | (refine' Mine.Pick.head ?pk9; (case pk9 => k_all)) | (apply Mine.Pick.tail; focus (k_ne; done))))); done))); exact rfl)); (case hd => ((try dsimp only); first | exact Mine.room (by assumption) rfl | exact Mine.room0 (by assumption) rfl | omega)); (case hu => ((try dsimp only); first | exact Mine.room (by assumption) rfl | exact Mine.room0 (by assumption) rfl | omega))); k_whole; intro h'_m tk'_m F'_m N'_m; ((try (rename News _ _ _ _ => n9'_m; simp only [List.cons_append, List.nil_append] at n9'_m)); (try k_sweep); (try dsimp only)))); k_steps)))
    all_goals ((try dsimp only); (try k_unfold); (try dsimp only))

  · rintro ys nw ⟨rfl, rfl⟩
    clear F1 N1
    k_steps
    all_goals ((try dsimp only); (try k_unfold); (try dsimp only))
    refine' con_end hR (by assumption) (by assumption) ?_ ⟨rfl, _, _, _, _, rfl, hi, ?_⟩
    · ((repeat (refine List.forall_mem_cons.mpr ⟨by k_mem, ?_⟩)); exact List.forall_mem_nil _)
    · (focus (repeat' (first | exact True.intro | assumption | refine And.intro ?_ ?_ | (refine ⟨?_⟩; k_ne))))
end Mine
end

local macro_rules | `(tactic| walk_at "exec While") => `(tactic| (k_here; refine Mine.Halt.out ?_))
local macro_rules | `(tactic| walk_at "exec While Compare") => `(tactic| (k_here; refine Mine.Halt.out ?_))
local macro_rules | `(tactic| walk_at "exec While BoolOp") => `(tactic| (k_here; refine Mine.Halt.out ?_))
section

namespace Mine
set_option maxHeartbeats 8000000 in
theorem begin_last (w : World) (T : LT) (x dx nm cl : Addr) (te tb ta ts tst tr : Tok) (b : Array UInt8) (os : List Int) (at_ spot state row : Int) (ho : KBw.bInts b = os) (hl : os.length ≤ 100000) (hat : (os.length : Int) ≤ at_) (ap : Apart [x, dx]) :
    Con w 357 [.ref x] 15 130 [(x, instObj 395 dx), (dx, linesDict w T te b tb nm at_ ta cl spot ts state tst row tr)] (fun v led => v = .bool false ∧ led = [(x, instObj 395 dx), (dx, linesDict w T te b tb nm at_ ta cl spot ts state tst row tr)]) := by
  intro dp un gd base h₀ outer s R p loose mean mg mb A hR
  have hb : Binds [(Str.ofString "self", .ref x)] := ⟨⟩
  ( k_dflt (refine' Mine.con_enter (by assumption) (by assumption) ?k6_m ?k7_m ?k9_m ?kB_m ?_ ?c2_m ?c3_m ?c4_m ?c5_m; (case k6_m => k_is); (case k7_m => k_is); (case k9_m => first | exact BindsTo.of_eq rfl | exact binds_K (Frag.In.keeps (Mine.Amb.K (by assumption)) (fun b o e => Mine.Amb.keep (by assumption) b o (Below.stays (Mine.Amb.below (by assumption)) b o e))) rfl (by k_is) rfl rfl rfl); (case c5_m => decide); (case kB_m => exact locs rfl); (case c2_m => exact rfl); (case c3_m => exact rfl); (case c4_m => exact rfl)); intro L'_m h'_m tk_m F'_m N'_m l1_m X_m T_m; have B_m := Mine.Amb.below (by assumption); have XB_m := Mine.Amb.K (by assumption); have TB_m := Mine.Amb.T (by assumption); have D_m := Mine.Amb.dicts (by assumption); have hd_m := Mine.Amb.depth (by assumption); have hu_m := Mine.Amb.units (by assumption); rename Mine.Amb _ _ _ _ _ _ _ _ _ _ _ _ _ _ _ _ => hA_m; clear hA_m; rename Mine.Binds _ => hB_m; clear hB_m; (repeat ((rename Mine.Apart _ => ap'_m); refine Mine.Apart.imp ap'_m ?_; clear ap'_m; walk_at "my_facts")); (try k_lt l1_m); (try dsimp only); (try k_fold))
  k_steps
  all_goals ((try dsimp only); (try k_unfold); (try dsimp only))
  exact con_end hR (by assumption) (by assumption) (fun _ h => h) ⟨rfl, rfl⟩
set_option maxHeartbeats 8000000 in
theorem begin_first (w : World) (T : LT) (x dx nm cl : Addr) (te tb ta ts tst tr : Tok) (b : Array UInt8) (os : List Int) (spot state row : Int) (ho : KBw.bInts b = os) (hl : os.length ≤ 100000) (h0 : 0 < os.length) (hn : ∀ k : Nat, os.getD k 0 ≠ 10) (hlast : os.getD (-1 + (os.length : Int)).toNat 0 = 33) (ap : Apart [x, dx]) :
    Con w 357 [.ref x] 15 130 [(x, instObj 395 dx), (dx, linesDict w T te b tb nm 0 ta cl spot ts state tst row tr)] (fun v led => ∃ ta ts tst tr c2 us n, v = .bool true ∧ led = [(x, instObj 395 dx), (dx, linesDict w T te b tb nm ((os.length : Int) + 1) ta c2 0 ts 0 tst (row + 1) tr), (c2, W.listOf us.toArray n)] ∧ IntsAre us (os ++ [13]) ∧ Apart [x, dx, c2]) := by
  intro dp un gd base h₀ outer s R p loose mean mg mb A hR
  have hb : Binds [(Str.ofString "self", .ref x)] := ⟨⟩
  ( k_dflt (refine' Mine.con_enter (by assumption) (by assumption) ?k6_m ?k7_m ?k9_m ?kB_m ?_ ?c2_m ?c3_m ?c4_m ?c5_m; (case k6_m => k_is); (case k7_m => k_is); (case k9_m => first | exact BindsTo.of_eq rfl | exact binds_K (Frag.In.keeps (Mine.Amb.K (by assumption)) (fun b o e => Mine.Amb.keep (by assumption) b o (Below.stays (Mine.Amb.below (by assumption)) b o e))) rfl (by k_is) rfl rfl rfl); (case c5_m => decide); (case kB_m => exact locs rfl); (case c2_m => exact rfl); (case c3_m => exact rfl); (case c4_m => exact rfl)); intro L'_m h'_m tk_m F'_m N'_m l1_m X_m T_m; have B_m := Mine.Amb.below (by assumption); have XB_m := Mine.Amb.K (by assumption); have TB_m := Mine.Amb.T (by assumption); have D_m := Mine.Amb.dicts (by assumption); have hd_m := Mine.Amb.depth (by assumption); have hu_m := Mine.Amb.units (by assumption); rename Mine.Amb _ _ _ _ _ _ _ _ _ _ _ _ _ _ _ _ => hA_m; clear hA_m; rename Mine.Binds _ => hB_m; clear hB_m; (repeat ((rename Mine.Apart _ => ap'_m); refine Mine.Apart.imp ap'_m ?_; clear ap'_m; walk_at "my_facts")); (try k_lt l1_m); (try dsimp only); (try k_fold))
  k_steps
  all_goals ((try dsimp only); (try k_unfold); (try dsimp only))
  rename Fr _ _ _ _ => F1
  rename News _ _ _ _ => N1
  delta Halt
  refine while_gen (σ := Nat × Tok) (fun c => [(x, instObj 395 dx), (dx, linesDict w T te b tb nm 0 ta cl spot ts state tst row tr)]) (fun c => [(Str.ofString "end", .int (c.1 : Int) c.2), (Str.ofString "self", .ref x)])
    (fun n c => c.1 ≤ os.length ∧ n = os.length - c.1) (0, ta) os.length F1 N1 (loc2 rfl rfl) ⟨Nat.zero_le _, rfl⟩ ?_
  rintro n ⟨i, ti⟩ u h tk ⟨hi, rfl⟩ F2 N2
  clear F1 N1
  dsimp only [envOf] at F2 N2 hi
  have h10 := hn ((i : Int)).toNat
  try k_fold
  k_steps
  all_goals (repeat' (first | ((k_here; (with_reducible show wpAny _ _ (call (Value.type "list") [Value.bytes _ _]) _ _ _); k_dflt (refine' Mine.list_bytes ?hh_m ?F ?N ?k_m ?z_m ?_; (case hh_m => rfl); (case F => k_asm); (case N => k_asm); (case k_m => assumption); (case z_m => first | omega | (simp only [List.length_take, List.length_drop]; omega))); intro D'_m c'_m h'_m tk'_m vs'_m F'_m N'_m l1_m hI'_m; (try k_lt l1_m); (try k_sweep); (try dsimp only)); k_steps)))
  all_goals ((try dsimp only); (try k_unfold); (try dsimp only))
  · exact turn_endW (i + 1, _) (os.length - (i + 1)) (by omega) (by assumption) (by assumption) (all2 (by k_mem) (by k_mem)) (loc2 rfl rfl) ⟨by dsimp only; omega, rfl⟩
  · exact absurd (by assumption) h10
  · rename IntsAre _ _ => hI
    rename Fr _ _ _ _ => F3
    rename News _ _ _ _ => N3
    have hil : i = os.length := by omega
    have eI : List.take (min i os.length - clipAt os.length 0) (List.drop (clipAt os.length 0) os) = os := by
      rw [hil, show clipAt os.length 0 = 0 from by unfold clipAt; rw [if_neg (by decide)]; omega, Nat.min_self]
      simp
    rw [eI] at hI
    subst hil
    delta Halt
    refine while_gen (σ := Unit) (fun _ => [(D'_m, W.listOf vs'_m.toArray c'_m), (x, instObj 395 dx), (dx, linesDict w T te b tb nm 0 ta cl spot ts state tst row tr)]) (fun c => [(Str.ofString "codes", .ref D'_m), (Str.ofString "end", .int (os.length : Int) ti), (Str.ofString "self", .ref x)])
      (fun n c => True) () 0 F3 N3 (Loc.cons rfl (loc2 rfl rfl)) trivial ?_
    rintro n ⟨⟩ u h tk - F4 N4
    clear F3 N3
    try dsimp only [envOf] at F4 N4
    try k_fold
    k_steps
    all_goals (repeat' (first | (delta Mine.Halt; (k_here; (with_reducible show wpAny _ _ (call (Value.ref 109) [Value.int _ _, Value.int _ _, Value.int _ _]) _ _ _); k_dflt ( apply Mine.con_callE (Mine.whole_con _ _ _ _ _ _ _); ( (case B => assumption); (case F => k_asm); (case N => k_asm); (case X => assumption); (case T => assumption); (case D => assumption); (case hf => exact rfl); (case hk => exact rfl); (case hP => ((repeat (apply Mine.picks_of; focus (((repeat (first | (refine' Mine.Pick.head ?pk9; (case pk9 => k_all)) | (apply Mine.Pick.tail; focus (k_ne; done))))); done))); exact rfl)); (case hd => ((try dsimp only); first | exact Mine.room (by assumption) rfl | exact Mine.room0 (by assumption) rfl | omega)); (case hu => ((try dsimp only); first | exact Mine.room (by assumption) rfl | exact Mine.room0 (by assumption) rfl | omega))); k_whole; intro h'_m tk'_m F'_m N'_m; ((try (rename News _ _ _ _ => n9'_m; simp only [List.cons_append, List.nil_append] at n9'_m)); (try k_sweep); (try dsimp only)))); k_steps)))
    all_goals ((try dsimp only); (try k_unfold); (try dsimp only))
    · rename os.getD _ _ = 32 => h32
      rw [hlast] at h32
      exact absurd h32 (by decide)
    · rename News _ _ _ _ => N9
      simp only [List.push_toArray] at N9
      refine' con_end hR (by assumption) N9 ?_ ⟨_, _, _, _, _, _, _, rfl, rfl, intsAre_append hI (.cons _ _ .nil), ?_⟩
      · ((repeat (refine List.forall_mem_cons.mpr ⟨by k_mem, ?_⟩)); exact List.forall_mem_nil _)
      · (focus (repeat' (first | exact True.intro | assumption | refine And.intro ?_ ?_ | (refine ⟨?_⟩; k_ne))))
end Mine
end
section
namespace Mine
theorem catRows_val {c : Int} (h0 : 0 ≤ c) (h1 : c ≤ 255) : catRows.getD c.toNat 0 = if c = 94 then 7 else 12 := by
  obtain ⟨n, rfl⟩ := Int.eq_ofNat_of_zero_le h0
  have hn : n < 256 := by omega
  rw [Int.toNat_natCast]
  unfold catRows
  rw [List.getD_eq_getElem?_getD, List.getElem?_map, List.getElem?_range hn]
  simp only [Option.map_some, Option.getD_some]
  by_cases h : n = 94
  · rw [if_pos h, if_pos (by omega)]
  · rw [if_neg h, if_neg (by omega)]
set_option maxHeartbeats 8000000 in
theorem looked_plain (w : World) (T : LT) (x dx nm cl y dy rl : Addr) (te tb ta ts tst tr tpl t1 : Tok) (b : Array UInt8) (at_ spot state row k : Int) (vs : List Value) (ns : List Int) (n : Nat) (rs : List Value) (n2 : Nat)
    (hi : IntsAre vs ns) (hrs : IntsAre rs catRows) (h0 : 0 ≤ k) (hk : k < (ns.length : Int)) (hl : ns.length ≤ 100000) (c0 : 0 ≤ ns.getD k.toNat 0) (c1 : ns.getD k.toNat 0 ≤ 255) (c2 : ns.getD k.toNat 0 ≠ 94) (ap : Apart [x, dx, cl, y, dy, rl]) :
    Con w 371 [.ref x, .int k tpl, .ref y] 12 100 [(x, instObj 395 dx), (dx, linesDict w T te b tb nm at_ ta cl spot ts state tst row tr), (cl, W.listOf vs.toArray n), (y, instObj 230 dy), (dy, catDict w t1 rl), (rl, W.listOf rs.toArray n2)]
      (fun v led => ∃ tp t2 t3, v = .ref tp ∧ led = [(tp, { cls := .type "tuple", data := .seq #[.int (ns.getD k.toNat 0) t2, .int 12 t3] }), (x, instObj 395 dx), (dx, linesDict w T te b tb nm at_ ta cl spot ts state tst row tr), (cl, W.listOf vs.toArray n), (y, instObj 230 dy), (dy, catDict w t1 rl), (rl, W.listOf rs.toArray n2)] ∧ Apart [tp, x, dx, cl, y, dy, rl]) := by
  intro dp un gd base h₀ outer s R p loose mean mg mb A hR
  have hb : Binds [(Str.ofString "cats", .ref y), (Str.ofString "place", .int k tpl), (Str.ofString "self", .ref x)] := ⟨⟩
  have hcv : catRows.getD (ns.getD k.toNat 0).toNat 0 = 12 := by rw [catRows_val c0 c1, if_neg c2]
  ( k_dflt (refine' Mine.con_enter (by assumption) (by assumption) ?k6_m ?k7_m ?k9_m ?kB_m ?_ ?c2_m ?c3_m ?c4_m ?c5_m; (case k6_m => k_is); (case k7_m => k_is); (case k9_m => first | exact BindsTo.of_eq rfl | exact binds_K (Frag.In.keeps (Mine.Amb.K (by assumption)) (fun b o e => Mine.Amb.keep (by assumption) b o (Below.stays (Mine.Amb.below (by assumption)) b o e))) rfl (by k_is) rfl rfl rfl); (case c5_m => decide); (case kB_m => exact locs rfl); (case c2_m => exact rfl); (case c3_m => exact rfl); (case c4_m => exact rfl)); intro L'_m h'_m tk_m F'_m N'_m l1_m X_m T_m; have B_m := Mine.Amb.below (by assumption); have XB_m := Mine.Amb.K (by assumption); have TB_m := Mine.Amb.T (by assumption); have D_m := Mine.Amb.dicts (by assumption); have hd_m := Mine.Amb.depth (by assumption); have hu_m := Mine.Amb.units (by assumption); rename Mine.Amb _ _ _ _ _ _ _ _ _ _ _ _ _ _ _ _ => hA_m; clear hA_m; rename Mine.Binds _ => hB_m; clear hB_m; (repeat ((rename Mine.Apart _ => ap'_m); refine Mine.Apart.imp ap'_m ?_; clear ap'_m; walk_at "my_facts")); (try k_lt l1_m); (try dsimp only); (try k_fold))
  k_steps
  all_goals (repeat' (first | (delta Mine.Halt; (k_here; (with_reducible show wpAny _ _ (call (Value.ref 220) [Value.ref _, Value.int _ _]) _ _ _); k_dflt ( apply Mine.con_callK (Mine.category_con _ _ _ _ _ _ _ _ _ _ ?hi_m ?hl_m ?h0_m ?h1_m ?ap_m); (case hi_m => ((with_reducible show IntsAre _ Mine.catRows); assumption)); ( (case B => assumption); (case F => k_asm); (case N => k_asm); (case X => assumption); (case T => assumption); (case D => assumption); (case hf => exact rfl); (case hk => exact rfl); (case hP => ((repeat (apply Mine.picks_of; focus (((repeat (first | (refine' Mine.Pick.head ?pk9; (case pk9 => k_all)) | (apply Mine.Pick.tail; focus (k_ne; done))))); done))); exact rfl)); (case hd => ((try dsimp only); first | exact Mine.room (by assumption) rfl | exact Mine.room0 (by assumption) rfl | omega)); (case hu => ((try dsimp only); first | exact Mine.room (by assumption) rfl | exact Mine.room0 (by assumption) rfl | omega))); (case hl_m => exact Mine.catRows_length); (case h0_m => first | assumption | omega); (case h1_m => first | assumption | omega); (case ap_m => (focus (repeat' (first | exact True.intro | assumption | refine And.intro ?_ ?_ | (refine ⟨?_⟩; k_ne))))); k_whole; intro h'_m tk'_m t9'_m F'_m N'_m; ((try (rename News _ _ _ _ => n9'_m; simp only [List.cons_append, List.nil_append] at n9'_m)); (try k_sweep); (try dsimp only)))); k_steps)))
  all_goals ((try dsimp only); (try k_unfold); (try dsimp only))
  rename Fr _ _ _ _ => F1
  rename News _ _ _ _ => N1
  delta Halt
  refine while_gen (σ := Unit) (fun _ => [(y, instObj 230 dy), (dy, catDict w t1 rl), (rl, W.listOf rs.toArray n2), (x, instObj 395 dx), (dx, linesDict w T te b tb nm at_ ta cl spot ts state tst row tr), (cl, W.listOf vs.toArray n)])
    (fun _ => [(Str.ofString "category", .int (catRows.getD (ns.getD k.toNat 0).toNat 0) _), (Str.ofString "code", .int (ns.getD k.toNat 0) _), (Str.ofString "cats", .ref y), (Str.ofString "place", .int k tpl), (Str.ofString "self", .ref x)])
    (fun n c => True) () 0 F1 N1 (Loc.cons rfl (Loc.cons rfl (Loc.cons rfl (loc2 rfl rfl)))) trivial ?_
  rintro n ⟨⟩ u h tk - F4 N4
  clear F1 N1
  try dsimp only [envOf] at F4 N4
  try k_fold
  k_steps
  all_goals ((try dsimp only); (try k_unfold); (try dsimp only))
  · rename catRows.getD _ _ = 7 => h7
    rw [hcv] at h7
    exact absurd h7 (by decide)
  · rename News _ _ _ _ => N9
    simp only [hcv] at N9
    refine' con_end hR (by assumption) N9 ?_ ⟨_, _, _, rfl, rfl, ?_⟩
    · ((repeat (refine List.forall_mem_cons.mpr ⟨by k_mem, ?_⟩)); exact List.forall_mem_nil _)
    · (focus (repeat' (first | exact True.intro | assumption | refine And.intro ?_ ?_ | (refine ⟨?_⟩; k_ne))))
end Mine
end
section
local macro_rules | `(tactic| kmk_nums) => `(tactic| first
  | ((with_reducible refine' kmk_from ?kna ?knb); (case kna => l_ints); (case knb => kmk_sign))
  | ((with_reducible refine' kmk_upto ?kna ?knb); (case kna => l_ints); (case knb => kmk_sign)))
namespace Mine
set_option maxHeartbeats 8000000 in
theorem looked_hat (w : World) (T : LT) (x dx nm cl y dy rl : Addr) (te tb ta ts tst tr tpl t1 : Tok) (b : Array UInt8) (at_ spot state row k : Int) (vs : List Value) (ns : List Int) (n : Nat) (rs : List Value) (n2 : Nat) (c q : Int)
    (hi : IntsAre vs ns) (hrs : IntsAre rs catRows) (h0 : 0 ≤ k) (hk : k + 3 < (ns.length : Int)) (hl : ns.length ≤ 100000) (e0 : ns.getD k.toNat 0 = 94) (e1 : ns.getD (k + 1).toNat 0 = ns.getD k.toNat 0) (e2 : ns.getD (k + 2).toNat 0 ≤ 127)
    (he : otherwise (ns.getD (k + 2).toNat 0) (ns.getD (k + 3).toNat 0) = (c, q)) (c0 : 0 ≤ c) (c1 : c ≤ 255) (c2 : c ≠ 94) (q0 : 2 ≤ q) (q1 : q ≤ 4) (ap : Apart [x, dx, cl, y, dy, rl]) :
    Con w 371 [.ref x, .int k tpl, .ref y] 12 100 [(x, instObj 395 dx), (dx, linesDict w T te b tb nm at_ ta cl spot ts state tst row tr), (cl, W.listOf vs.toArray n), (y, instObj 230 dy), (dy, catDict w t1 rl), (rl, W.listOf rs.toArray n2)]
      (fun v led => ∃ tp t2 t3 c5 us m, v = .ref tp ∧ led = [(tp, { cls := .type "tuple", data := .seq #[.int c t2, .int 12 t3] }), (x, instObj 395 dx), (dx, linesDict w T te b tb nm at_ ta c5 spot ts state tst row tr), (c5, W.listOf us.toArray m), (y, instObj 230 dy), (dy, catDict w t1 rl), (rl, W.listOf rs.toArray n2)] ∧
        IntsAre us (ns.take k.toNat ++ [c] ++ ns.drop (k + q).toNat) ∧ Apart [tp, x, dx, c5, y, dy, rl]) := by
  intro dp un gd base h₀ outer s R p loose mean mg mb A hR
  have hb : Binds [(Str.ofString "cats", .ref y), (Str.ofString "place", .int k tpl), (Str.ofString "self", .ref x)] := ⟨⟩
  have hcv : catRows.getD (ns.getD k.toNat 0).toNat 0 = 7 := by rw [e0]; decide +kernel
  have hcw : catRows.getD c.toNat 0 = 12 := by rw [catRows_val c0 c1, if_neg c2]
  ( k_dflt (refine' Mine.con_enter (by assumption) (by assumption) ?k6_m ?k7_m ?k9_m ?kB_m ?_ ?c2_m ?c3_m ?c4_m ?c5_m; (case k6_m => k_is); (case k7_m => k_is); (case k9_m => first | exact BindsTo.of_eq rfl | exact binds_K (Frag.In.keeps (Mine.Amb.K (by assumption)) (fun b o e => Mine.Amb.keep (by assumption) b o (Below.stays (Mine.Amb.below (by assumption)) b o e))) rfl (by k_is) rfl rfl rfl); (case c5_m => decide); (case kB_m => exact locs rfl); (case c2_m => exact rfl); (case c3_m => exact rfl); (case c4_m => exact rfl)); intro L'_m h'_m tk_m F'_m N'_m l1_m X_m T_m; have B_m := Mine.Amb.below (by assumption); have XB_m := Mine.Amb.K (by assumption); have TB_m := Mine.Amb.T (by assumption); have D_m := Mine.Amb.dicts (by assumption); have hd_m := Mine.Amb.depth (by assumption); have hu_m := Mine.Amb.units (by assumption); rename Mine.Amb _ _ _ _ _ _ _ _ _ _ _ _ _ _ _ _ => hA_m; clear hA_m; rename Mine.Binds _ => hB_m; clear hB_m; (repeat ((rename Mine.Apart _ => ap'_m); refine Mine.Apart.imp ap'_m ?_; clear ap'_m; walk_at "my_facts")); (try k_lt l1_m); (try dsimp only); (try k_fold))
  k_steps
  all_goals (repeat' (first | (delta Mine.Halt; (k_here; (with_reducible show wpAny _ _ (call (Value.ref 220) [Value.ref _, Value.int _ _]) _ _ _); k_dflt ( apply Mine.con_callK (Mine.category_con _ _ _ _ _ _ _ _ _ _ ?hi_m ?hl_m ?h0_m ?h1_m ?ap_m); (case hi_m => ((with_reducible show IntsAre _ Mine.catRows); assumption)); ( (case B => assumption); (case F => k_asm); (case N => k_asm); (case X => assumption); (case T => assumption); (case D => assumption); (case hf => exact rfl); (case hk => exact rfl); (case hP => ((repeat (apply Mine.picks_of; focus (((repeat (first | (refine' Mine.Pick.head ?pk9; (case pk9 => k_all)) | (apply Mine.Pick.tail; focus (k_ne; done))))); done))); exact rfl)); (case hd => ((try dsimp only); first | exact Mine.room (by assumption) rfl | exact Mine.room0 (by assumption) rfl | omega)); (case hu => ((try dsimp only); first | exact Mine.room (by assumption) rfl | exact Mine.room0 (by assumption) rfl | omega))); (case hl_m => exact Mine.catRows_length); (case h0_m => first | assumption | omega); (case h1_m => first | assumption | omega); (case ap_m => (focus (repeat' (first | exact True.intro | assumption | refine And.intro ?_ ?_ | (refine ⟨?_⟩; k_ne))))); k_whole; intro h'_m tk'_m t9'_m F'_m N'_m; ((try (rename News _ _ _ _ => n9'_m; simp only [List.cons_append, List.nil_append] at n9'_m)); (try k_sweep); (try dsimp only)))); k_steps)))
  all_goals ((try dsimp only); (try k_unfold); (try dsimp only))
  rename Fr _ _ _ _ => F1
  rename News _ _ _ _ => N1
  delta Halt
  refine while_gen (σ := (Int × Tok) × (Int × Tok) × Addr × List Value × Nat) (fun c => [(x, instObj 395 dx), (dx, linesDict w T te b tb nm at_ ta c.2.2.1 spot ts state tst row tr), (c.2.2.1, W.listOf c.2.2.2.1.toArray c.2.2.2.2), (y, instObj 230 dy), (dy, catDict w t1 rl), (rl, W.listOf rs.toArray n2)])
    (fun c => [(Str.ofString "category", .int c.2.1.1 c.2.1.2), (Str.ofString "code", .int c.1.1 c.1.2), (Str.ofString "cats", .ref y), (Str.ofString "place", .int k tpl), (Str.ofString "self", .ref x)])
    (fun n z => (n = 1 ∧ z.1.1 = 94 ∧ z.2.1.1 = 7 ∧ IntsAre z.2.2.2.1 ns ∧ Apart [x, dx, z.2.2.1, y, dy, rl]) ∨ (n = 0 ∧ z.1.1 = c ∧ z.2.1.1 = 12 ∧ IntsAre z.2.2.2.1 (ns.take k.toNat ++ [c] ++ ns.drop (k + q).toNat) ∧ Apart [x, dx, z.2.2.1, y, dy, rl])) ((_, _), (_, _), cl, vs, n) 1 F1 (news_sub N1 (by ((repeat (refine List.forall_mem_cons.mpr ⟨by k_mem, ?_⟩)); exact List.forall_mem_nil _))) (Loc.cons rfl (Loc.cons rfl (Loc.cons rfl (loc2 rfl rfl)))) (.inl ⟨rfl, e0, hcv, hi, by (focus (repeat' (first | exact True.intro | assumption | refine And.intro ?_ ?_ | (refine ⟨?_⟩; k_ne))))⟩) ?_
  rintro n' ⟨⟨z1, tz1⟩, ⟨z2, tz2⟩, zc, zv, zn⟩ u h tk hJ F4 N4
  clear F1 N1 
  dsimp only at F4 N4 hJ
  rcases hJ with ⟨rfl, rfl, rfl, hzi, ap2⟩ | ⟨rfl, rfl, rfl, hzi, ap2⟩
  · clear hi
    try k_fold
    ((rename Mine.Apart _ => ap'_m); refine Mine.Apart.imp ap'_m ?_; clear ap'_m; walk_at "my_facts")
    k_steps
    all_goals ((try dsimp only); (try k_unfold); (try dsimp only))
    delta Halt
    apply Mine.con_callX5 (Mine.wo_con _ _ _ _ _ _ _ ?hi ?h0 ?h1 ?hl ?e1 ?e2)
    case hi => assumption
    ( (case B => assumption); (case F => k_asm); (case N => k_asm); (case X => assumption); (case T => assumption); (case D => assumption); (case hf => exact rfl); (case hk => exact rfl); (case hP => ((repeat (apply Mine.picks_of; focus (((repeat (first | (refine' Mine.Pick.head ?pk9; (case pk9 => k_all)) | (apply Mine.Pick.tail; focus (k_ne; done))))); done))); exact rfl)); (case hd => ((try dsimp only); first | exact Mine.room (by assumption) rfl | exact Mine.room0 (by assumption) rfl | omega)); (case hu => ((try dsimp only); first | exact Mine.room (by assumption) rfl | exact Mine.room0 (by assumption) rfl | omega)))
    case hl => assumption
    case h0 => omega
    case h1 => omega
    case e1 => assumption
    case e2 => assumption
    k_whole
    intro h' tk' tp9' r9' q9' t19' t29' hp9'
    have he9' := And.left hp9'
    have ap9' := And.right hp9'
    clear hp9'
    intro F' N' hne'
    ((rename Mine.AllNeL _ _ => hn9'_m); refine Mine.AllNeL.imp hn9'_m ?_; clear hn9'_m; walk_at "my_facts")
    have ee9 := Prod.mk.inj (Eq.trans he9' (by assumption))
    clear he9'
    have ec9' := Eq.symm ee9.1
    have ed9' := Eq.symm ee9.2
    clear ee9
    subst ec9' ed9'
    repeat ((rename Mine.Apart _ => ap'_m); refine Mine.Apart.imp ap'_m ?_; clear ap'_m; walk_at "my_facts")
    ((try (rename News _ _ _ _ => n9'_m; simp only [List.cons_append, List.nil_append] at n9'_m)); (try k_sweep); (try dsimp only))
    k_steps
    all_goals (repeat' (first | (delta Mine.Halt; (k_here; (with_reducible show wpAny _ _ (call (Value.ref 220) [Value.ref _, Value.int _ _]) _ _ _); k_dflt ( apply Mine.con_callK (Mine.category_con _ _ _ _ _ _ _ _ _ _ ?hi_m ?hl_m ?h0_m ?h1_m ?ap_m); (case hi_m => ((with_reducible show IntsAre _ Mine.catRows); assumption)); ( (case B => assumption); (case F => k_asm); (case N => k_asm); (case X => assumption); (case T => assumption); (case D => assumption); (case hf => exact rfl); (case hk => exact rfl); (case hP => ((repeat (apply Mine.picks_of; focus (((repeat (first | (refine' Mine.Pick.head ?pk9; (case pk9 => k_all)) | (apply Mine.Pick.tail; focus (k_ne; done))))); done))); exact rfl)); (case hd => ((try dsimp only); first | exact Mine.room (by assumption) rfl | exact Mine.room0 (by assumption) rfl | omega)); (case hu => ((try dsimp only); first | exact Mine.room (by assumption) rfl | exact Mine.room0 (by assumption) rfl | omega))); (case hl_m => exact Mine.catRows_length); (case h0_m => first | assumption | omega); (case h1_m => first | assumption | omega); (case ap_m => (focus (repeat' (first | exact True.intro | assumption | refine And.intro ?_ ?_ | (refine ⟨?_⟩; k_ne))))); k_whole; intro h'_m tk'_m t9'_m F'_m N'_m; ((try (rename News _ _ _ _ => n9'_m; simp only [List.cons_append, List.nil_append] at n9'_m)); (try k_sweep); (try dsimp only)))); k_steps)))
    all_goals ((try dsimp only); (try k_unfold); (try dsimp only))
    · exfalso; omega
    · rename IntsAre _ (_ ++ _) => hI9
      refine' turn_endW ((c, _), (12, _), _, _, _) 0 (by omega) (by assumption) (by assumption) ?gs (Loc.cons (congrArg (fun z => some (Value.int z _)) hcw) (Loc.cons rfl (Loc.cons rfl (loc2 rfl rfl)))) (.inr ⟨rfl, rfl, rfl, hI9, ?ga⟩)
      case gs => ((repeat (refine List.forall_mem_cons.mpr ⟨by k_mem, ?_⟩)); exact List.forall_mem_nil _)
      case ga =>
        dsimp only
        (focus (repeat' (first | exact True.intro | assumption | refine And.intro ?_ ?_ | (refine ⟨?_⟩; k_ne))))
  · clear hi
    try k_fold
    ((rename Mine.Apart _ => ap'_m); refine Mine.Apart.imp ap'_m ?_; clear ap'_m; walk_at "my_facts")
    k_steps
    all_goals ((try dsimp only); (try k_unfold); (try dsimp only))
    refine' con_end hR (by assumption) (by assumption) ?_ ⟨_, _, _, _, _, _, rfl, rfl, hzi, ?_⟩
    · ((repeat (refine List.forall_mem_cons.mpr ⟨by k_mem, ?_⟩)); exact List.forall_mem_nil _)
    · (focus (repeat' (first | exact True.intro | assumption | refine And.intro ?_ ?_ | (refine ⟨?_⟩; k_ne))))
end Mine
end
section
namespace Mine
/-- what one look at a place gives: the code there (written plainly or otherwise), and the row's codes after it -/
def LookOk (ns : List Int) (k c : Int) (ns' : List Int) : Prop :=
  (k < (ns.length : Int) ∧ 0 ≤ ns.getD k.toNat 0 ∧ ns.getD k.toNat 0 ≤ 255 ∧ ns.getD k.toNat 0 ≠ 94 ∧ c = ns.getD k.toNat 0 ∧ ns' = ns) ∨
  (k + 3 < (ns.length : Int) ∧ ns.getD k.toNat 0 = 94 ∧ ns.getD (k + 1).toNat 0 = ns.getD k.toNat 0 ∧ ns.getD (k + 2).toNat 0 ≤ 127 ∧ 0 ≤ c ∧ c ≤ 255 ∧ c ≠ 94 ∧
    ∃ q, otherwise (ns.getD (k + 2).toNat 0) (ns.getD (k + 3).toNat 0) = (c, q) ∧ 2 ≤ q ∧ q ≤ 4 ∧ ns' = ns.take k.toNat ++ [c] ++ ns.drop (k + q).toNat)
theorem LookOk.lt {ns ns' : List Int} {k c : Int} (h : LookOk ns k c ns') : k < (ns.length : Int) := by
  rcases h with h | h
  · exact h.1
  · have := h.1; omega
theorem looked_con (w : World) (T : LT) (x dx nm cl y dy rl : Addr) (te tb ta ts tst tr tpl t1 : Tok) (b : Array UInt8) (at_ spot state row k : Int) (vs : List Value) (ns ns' : List Int) (n : Nat) (rs : List Value) (n2 : Nat) (c : Int)
    (hi : IntsAre vs ns) (hrs : IntsAre rs catRows) (h0 : 0 ≤ k) (hl : ns.length ≤ 100000) (ho : LookOk ns k c ns') (ap : Apart [x, dx, cl, y, dy, rl]) :
    Con w 371 [.ref x, .int k tpl, .ref y] 12 100 [(x, instObj 395 dx), (dx, linesDict w T te b tb nm at_ ta cl spot ts state tst row tr), (cl, W.listOf vs.toArray n), (y, instObj 230 dy), (dy, catDict w t1 rl), (rl, W.listOf rs.toArray n2)]
      (fun v led => ∃ tp t2 t3 c5 us m, v = .ref tp ∧ led = [(tp, { cls := .type "tuple", data := .seq #[.int c t2, .int 12 t3] }), (x, instObj 395 dx), (dx, linesDict w T te b tb nm at_ ta c5 spot ts state tst row tr), (c5, W.listOf us.toArray m), (y, instObj 230 dy), (dy, catDict w t1 rl), (rl, W.listOf rs.toArray n2)] ∧
        IntsAre us ns' ∧ Apart [tp, x, dx, c5, y, dy, rl]) := by
  rcases ho with ⟨hk, c0, c1, c2, rfl, rfl⟩ | ⟨hk, e0, e1, e2, c0, c1, c2, q, he, q0, q1, rfl⟩
  · refine con_conv (rest := []) (looked_plain w T x dx nm cl y dy rl te tb ta ts tst tr tpl t1 b at_ spot state row k vs ns' n rs n2 hi hrs h0 hk hl c0 c1 c2 ap) (fun _ h => h) (fun _ h => nomatch h) ?_
    rintro v led ⟨tp, t2, t3, rfl, rfl, ap'⟩ -
    exact ⟨_, ⟨tp, t2, t3, cl, vs, n, rfl, rfl, hi, ap'⟩, fun q hq => List.mem_append_left _ hq⟩
  · exact looked_hat w T x dx nm cl y dy rl te tb ta ts tst tr tpl t1 b at_ spot state row k vs ns n rs n2 c q hi hrs h0 hk hl e0 e1 e2 he c0 c1 c2 q0 q1 ap
end Mine
namespace Mine
set_option maxHeartbeats 8000000 in
theorem step_con (w : World) (T : LT) (x dx nm cl y dy rl : Addr) (te tb ta ts tst tr t1 : Tok) (b : Array UInt8) (at_ spot state row : Int) (vs : List Value) (ns ns' : List Int) (n : Nat) (rs : List Value) (n2 : Nat) (c : Int)
    (hi : IntsAre vs ns) (hrs : IntsAre rs catRows) (h0 : 0 ≤ spot) (hl : ns.length ≤ 100000) (ho : LookOk ns spot c ns') (ap : Apart [x, dx, cl, y, dy, rl]) :
    Con w 378 [.ref x, .ref y] 18 140 [(x, instObj 395 dx), (dx, linesDict w T te b tb nm at_ ta cl spot ts state tst row tr), (cl, W.listOf vs.toArray n), (y, instObj 230 dy), (dy, catDict w t1 rl), (rl, W.listOf rs.toArray n2)]
      (fun v led => ∃ tp t2 t3 ts' tst' c5 us m, v = .ref tp ∧ led = [(tp, { cls := .type "tuple", data := .seq #[.int 12 t2, .int c t3] }), (x, instObj 395 dx), (dx, linesDict w T te b tb nm at_ ta c5 (spot + 1) ts' 1 tst' row tr), (c5, W.listOf us.toArray m), (y, instObj 230 dy), (dy, catDict w t1 rl), (rl, W.listOf rs.toArray n2)] ∧
        IntsAre us ns' ∧ Apart [tp, x, dx, c5, y, dy, rl]) := by
  intro dp un gd base h₀ outer s R p loose mean mg mb A hR
  have hb : Binds [(Str.ofString "cats", .ref y), (Str.ofString "self", .ref x)] := ⟨⟩
  have hlt := ho.lt
  ( k_dflt (refine' Mine.con_enter (by assumption) (by assumption) ?k6_m ?k7_m ?k9_m ?kB_m ?_ ?c2_m ?c3_m ?c4_m ?c5_m; (case k6_m => k_is); (case k7_m => k_is); (case k9_m => first | exact BindsTo.of_eq rfl | exact binds_K (Frag.In.keeps (Mine.Amb.K (by assumption)) (fun b o e => Mine.Amb.keep (by assumption) b o (Below.stays (Mine.Amb.below (by assumption)) b o e))) rfl (by k_is) rfl rfl rfl); (case c5_m => decide); (case kB_m => exact locs rfl); (case c2_m => exact rfl); (case c3_m => exact rfl); (case c4_m => exact rfl)); intro L'_m h'_m tk_m F'_m N'_m l1_m X_m T_m; have B_m := Mine.Amb.below (by assumption); have XB_m := Mine.Amb.K (by assumption); have TB_m := Mine.Amb.T (by assumption); have D_m := Mine.Amb.dicts (by assumption); have hd_m := Mine.Amb.depth (by assumption); have hu_m := Mine.Amb.units (by assumption); rename Mine.Amb _ _ _ _ _ _ _ _ _ _ _ _ _ _ _ _ => hA_m; clear hA_m; rename Mine.Binds _ => hB_m; clear hB_m; (repeat ((rename Mine.Apart _ => ap'_m); refine Mine.Apart.imp ap'_m ?_; clear ap'_m; walk_at "my_facts")); (try k_lt l1_m); (try dsimp only); (try k_fold))
  k_steps
  all_goals ((try dsimp only); (try k_unfold); (try dsimp only))
  delta Halt
  apply Mine.con_callX6 (Mine.looked_con _ _ _ _ _ _ _ _ _ _ _ _ _ _ _ _ _ _ _ _ _ _ _ _ _ _ _ _ _ _ ?hi ?hrs ?h0 ?hl ?ho ?ap)
  case ho => assumption
  case hrs => ((with_reducible show IntsAre _ Mine.catRows); assumption)
  case hi => assumption
  ( (case B => assumption); (case F => k_asm); (case N => k_asm); (case X => assumption); (case T => assumption); (case D => assumption); (case hf => exact rfl); (case hk => exact rfl); (case hP => ((repeat (apply Mine.picks_of; focus (((repeat (first | (refine' Mine.Pick.head ?pk9; (case pk9 => k_all)) | (apply Mine.Pick.tail; focus (k_ne; done))))); done))); exact rfl)); (case hd => ((try dsimp only); first | exact Mine.room (by assumption) rfl | exact Mine.room0 (by assumption) rfl | omega)); (case hu => ((try dsimp only); first | exact Mine.room (by assumption) rfl | exact Mine.room0 (by assumption) rfl | omega)))
  case h0 => first | assumption | omega
  case hl => assumption
  case ap => (focus (repeat' (first | exact True.intro | assumption | refine And.intro ?_ ?_ | (refine ⟨?_⟩; k_ne))))
  k_whole
  intro h' tk' tp9' t29' t39' c9' us9' m9' hp9'
  have hi9' := And.left hp9'
  have ap9' := And.right hp9'
  clear hp9'
  intro F' N' hne'
  ((rename Mine.AllNeL _ _ => hn9'_m); refine Mine.AllNeL.imp hn9'_m ?_; clear hn9'_m; walk_at "my_facts")
  ((rename Mine.Apart _ => ap'_m); refine Mine.Apart.imp ap'_m ?_; clear ap'_m; walk_at "my_facts")
  ((try (rename News _ _ _ _ => n9'_m; simp only [List.cons_append, List.nil_append] at n9'_m)); (try k_sweep); (try dsimp only))
  k_steps
  all_goals ((try dsimp only); (try k_unfold); (try dsimp only))
  refine' con_end hR (by assumption) (by assumption) ?_ ⟨_, _, _, _, _, _, _, _, rfl, rfl, by assumption, ?_⟩
  · ((repeat (refine List.forall_mem_cons.mpr ⟨by k_mem, ?_⟩)); exact List.forall_mem_nil _)
  · (focus (repeat' (first | exact True.intro | assumption | refine And.intro ?_ ?_ | (refine ⟨?_⟩; k_ne))))
end Mine
namespace Mine
set_option maxHeartbeats 8000000 in
theorem read_step (w : World) (T : LT) (x dx nm cl y dy rl : Addr) (te tb ta ts tst tr t1 : Tok) (b : Array UInt8) (at_ spot state row : Int) (vs : List Value) (ns ns' : List Int) (n : Nat) (rs : List Value) (n2 : Nat) (c : Int)
    (hi : IntsAre vs ns) (hrs : IntsAre rs catRows) (h0 : 0 ≤ spot) (hl : ns.length ≤ 100000) (ho : LookOk ns spot c ns') (ap : Apart [x, dx, cl, y, dy, rl]) :
    Con w 364 [.ref x, .ref y] 24 180 [(x, instObj 395 dx), (dx, linesDict w T te b tb nm at_ ta cl spot ts state tst row tr), (cl, W.listOf vs.toArray n), (y, instObj 230 dy), (dy, catDict w t1 rl), (rl, W.listOf rs.toArray n2)]
      (fun v led => ∃ tp t2 t3 ts' tst' c5 us m, v = .ref tp ∧ led = [(tp, { cls := .type "tuple", data := .seq #[.int 12 t2, .int c t3] }), (x, instObj 395 dx), (dx, linesDict w T te b tb nm at_ ta c5 (spot + 1) ts' 1 tst' row tr), (c5, W.listOf us.toArray m), (y, instObj 230 dy), (dy, catDict w t1 rl), (rl, W.listOf rs.toArray n2)] ∧
        IntsAre us ns' ∧ Apart [tp, x, dx, c5, y, dy, rl]) := by
  intro dp un gd base h₀ outer s R p loose mean mg mb A hR
  have hb : Binds [(Str.ofString "cats", .ref y), (Str.ofString "self", .ref x)] := ⟨⟩
  have hlt := ho.lt
  ( k_dflt (refine' Mine.con_enter (by assumption) (by assumption) ?k6_m ?k7_m ?k9_m ?kB_m ?_ ?c2_m ?c3_m ?c4_m ?c5_m; (case k6_m => k_is); (case k7_m => k_is); (case k9_m => first | exact BindsTo.of_eq rfl | exact binds_K (Frag.In.keeps (Mine.Amb.K (by assumption)) (fun b o e => Mine.Amb.keep (by assumption) b o (Below.stays (Mine.Amb.below (by assumption)) b o e))) rfl (by k_is) rfl rfl rfl); (case c5_m => decide); (case kB_m => exact locs rfl); (case c2_m => exact rfl); (case c3_m => exact rfl); (case c4_m => exact rfl)); intro L'_m h'_m tk_m F'_m N'_m l1_m X_m T_m; have B_m := Mine.Amb.below (by assumption); have XB_m := Mine.Amb.K (by assumption); have TB_m := Mine.Amb.T (by assumption); have D_m := Mine.Amb.dicts (by assumption); have hd_m := Mine.Amb.depth (by assumption); have hu_m := Mine.Amb.units (by assumption); rename Mine.Amb _ _ _ _ _ _ _ _ _ _ _ _ _ _ _ _ => hA_m; clear hA_m; rename Mine.Binds _ => hB_m; clear hB_m; (repeat ((rename Mine.Apart _ => ap'_m); refine Mine.Apart.imp ap'_m ?_; clear ap'_m; walk_at "my_facts")); (try k_lt l1_m); (try dsimp only); (try k_fold))
  k_steps
  all_goals ((try dsimp only); (try k_unfold); (try dsimp only))
  rename Fr _ _ _ _ => F1
  rename News _ _ _ _ => N1
  delta Halt
  refine while_gen (σ := Value × List (Addr × Obj)) (fun z => z.2) (fun z => [(Str.ofString "token", z.1), (Str.ofString "cats", .ref y), (Str.ofString "self", .ref x)])
    (fun n z => (n = 1 ∧ z.1 = .none ∧ z.2 = [(x, instObj 395 dx), (dx, linesDict w T te b tb nm at_ ta cl spot ts state tst row tr), (cl, W.listOf vs.toArray _), (y, instObj 230 dy), (dy, catDict w t1 rl), (rl, W.listOf rs.toArray n2)]) ∨ (n = 0 ∧
      ∃ tp t2 t3 ts' tst' c5 us m, z.1 = .ref tp ∧ z.2 = [(tp, { cls := .type "tuple", data := .seq #[.int 12 t2, .int c t3] }), (x, instObj 395 dx), (dx, linesDict w T te b tb nm at_ ta c5 (spot + 1) ts' 1 tst' row tr), (c5, W.listOf us.toArray m), (y, instObj 230 dy), (dy, catDict w t1 rl), (rl, W.listOf rs.toArray n2)] ∧
        IntsAre us ns' ∧ Apart [tp, x, dx, c5, y, dy, rl])) (.none, _) 1 F1 N1 (Loc.cons rfl (loc2 rfl rfl)) (.inl ⟨rfl, rfl, rfl⟩) ?_
  rintro n' ⟨zt, zl⟩ u h tk hJ F4 N4
  clear F1 N1
  dsimp only at F4 N4 hJ
  rcases hJ with ⟨rfl, rfl, rfl⟩ | ⟨rfl, tp, t2, t3, ts', tst', c5, us, m, rfl, rfl, hI9, ap9⟩
  · try k_fold
    k_steps
    all_goals ((try dsimp only); (try k_unfold); (try dsimp only))
    delta Halt
    apply Mine.con_callX8 (Mine.step_con _ _ _ _ _ _ _ _ _ _ _ _ _ _ _ _ _ _ _ _ _ _ _ _ _ _ _ _ ?hi ?hrs ?h0 ?hl ?ho ?ap)
    case ho => assumption
    case hrs => ((with_reducible show IntsAre _ Mine.catRows); assumption)
    case hi => assumption
    ( (case B => assumption); (case F => k_asm); (case N => k_asm); (case X => assumption); (case T => assumption); (case D => assumption); (case hf => exact rfl); (case hk => exact rfl); (case hP => ((repeat (apply Mine.picks_of; focus (((repeat (first | (refine' Mine.Pick.head ?pk9; (case pk9 => k_all)) | (apply Mine.Pick.tail; focus (k_ne; done))))); done))); exact rfl)); (case hd => ((try dsimp only); first | exact Mine.room (by assumption) rfl | exact Mine.room0 (by assumption) rfl | omega)); (case hu => ((try dsimp only); first | exact Mine.room (by assumption) rfl | exact Mine.room0 (by assumption) rfl | omega)))
    case h0 => first | assumption | omega
    case hl => assumption
    case ap => (focus (repeat' (first | exact True.intro | assumption | refine And.intro ?_ ?_ | (refine ⟨?_⟩; k_ne))))
    k_whole
    intro h' tk' tp9' t29' t39' ts9' tst9' c9' us9' m9' hp9'
    have hi9' := And.left hp9'
    have ap9' := And.right hp9'
    clear hp9'
    intro F' N' hne'
    ((rename Mine.AllNeL _ _ => hn9'_m); refine Mine.AllNeL.imp hn9'_m ?_; clear hn9'_m; walk_at "my_facts")
    ((rename Mine.Apart _ => ap'_m); refine Mine.Apart.imp ap'_m ?_; clear ap'_m; walk_at "my_facts")
    ((try (rename News _ _ _ _ => n9'_m; simp only [List.cons_append, List.nil_append] at n9'_m)); (try k_sweep); (try dsimp only))
    k_steps
    all_goals ((try dsimp only); (try k_unfold); (try dsimp only))
    refine' turn_endW (_, _) 0 (by omega) (by assumption) (by assumption) (fun _ h => h) (Loc.cons rfl (loc2 rfl rfl)) (.inr ⟨rfl, _, _, _, _, _, _, _, _, rfl, rfl, by assumption, ?_⟩)
    (focus (repeat' (first | exact True.intro | assumption | refine And.intro ?_ ?_ | (refine ⟨?_⟩; k_ne))))
  · try k_fold
    k_steps
    all_goals ((try dsimp only); (try k_unfold); (try dsimp only))
    exact con_end hR (by assumption) (by assumption) (fun _ h => h) ⟨_, _, _, _, _, _, _, _, rfl, rfl, hI9, ap9⟩
end Mine
namespace Mine
set_option maxHeartbeats 8000000 in
theorem read_last (w : World) (T : LT) (x dx nm cl y dy rl : Addr) (te tb ta ts tst tr t1 : Tok) (b : Array UInt8) (os : List Int) (at_ spot state row : Int) (vs : List Value) (ns : List Int) (n : Nat) (rs : List Value) (n2 : Nat)
    (hi : IntsAre vs ns) (hrs : IntsAre rs catRows) (hs : (ns.length : Int) ≤ spot) (hl : ns.length ≤ 100000) (ho : KBw.bInts b = os) (hlo : os.length ≤ 100000) (hat : (os.length : Int) ≤ at_) (ap : Apart [x, dx, cl, y, dy, rl]) :
    Con w 364 [.ref x, .ref y] 24 180 [(x, instObj 395 dx), (dx, linesDict w T te b tb nm at_ ta cl spot ts state tst row tr), (cl, W.listOf vs.toArray n), (y, instObj 230 dy), (dy, catDict w t1 rl), (rl, W.listOf rs.toArray n2)]
      (fun v led => v = .none ∧ led = [(x, instObj 395 dx), (dx, linesDict w T te b tb nm at_ ta cl spot ts state tst row tr), (cl, W.listOf vs.toArray n), (y, instObj 230 dy), (dy, catDict w t1 rl), (rl, W.listOf rs.toArray n2)]) := by
  intro dp un gd base h₀ outer s R p loose mean mg mb A hR
  have hb : Binds [(Str.ofString "cats", .ref y), (Str.ofString "self", .ref x)] := ⟨⟩
  ( k_dflt (refine' Mine.con_enter (by assumption) (by assumption) ?k6_m ?k7_m ?k9_m ?kB_m ?_ ?c2_m ?c3_m ?c4_m ?c5_m; (case k6_m => k_is); (case k7_m => k_is); (case k9_m => first | exact BindsTo.of_eq rfl | exact binds_K (Frag.In.keeps (Mine.Amb.K (by assumption)) (fun b o e => Mine.Amb.keep (by assumption) b o (Below.stays (Mine.Amb.below (by assumption)) b o e))) rfl (by k_is) rfl rfl rfl); (case c5_m => decide); (case kB_m => exact locs rfl); (case c2_m => exact rfl); (case c3_m => exact rfl); (case c4_m => exact rfl)); intro L'_m h'_m tk_m F'_m N'_m l1_m X_m T_m; have B_m := Mine.Amb.below (by assumption); have XB_m := Mine.Amb.K (by assumption); have TB_m := Mine.Amb.T (by assumption); have D_m := Mine.Amb.dicts (by assumption); have hd_m := Mine.Amb.depth (by assumption); have hu_m := Mine.Amb.units (by assumption); rename Mine.Amb _ _ _ _ _ _ _ _ _ _ _ _ _ _ _ _ => hA_m; clear hA_m; rename Mine.Binds _ => hB_m; clear hB_m; (repeat ((rename Mine.Apart _ => ap'_m); refine Mine.Apart.imp ap'_m ?_; clear ap'_m; walk_at "my_facts")); (try k_lt l1_m); (try dsimp only); (try k_fold))
  k_steps
  all_goals ((try dsimp only); (try k_unfold); (try dsimp only))
  rename Fr _ _ _ _ => F1
  rename News _ _ _ _ => N1
  delta Halt
  refine while_gen (σ := Unit) (fun z => [(x, instObj 395 dx), (dx, linesDict w T te b tb nm at_ ta cl spot ts state tst row tr), (cl, W.listOf vs.toArray n), (y, instObj 230 dy), (dy, catDict w t1 rl), (rl, W.listOf rs.toArray n2)]) (fun z => [(Str.ofString "token", .none), (Str.ofString "cats", .ref y), (Str.ofString "self", .ref x)])
    (fun n z => True) () 1 F1 N1 (Loc.cons rfl (loc2 rfl rfl)) trivial ?_
  rintro n' z u h tk - F4 N4
  clear F1 N1
  try k_fold
  k_steps
  all_goals ((try dsimp only); (try k_unfold); (try dsimp only))
  delta Halt
  apply Mine.con_callE (Mine.begin_last _ _ _ _ _ _ _ _ _ _ _ _ _ _ _ _ _ _ ?ho ?hl ?hat ?ap)
  case ho => assumption
  case hl => assumption
  case hat => assumption
  ( (case B => assumption); (case F => k_asm); (case N => k_asm); (case X => assumption); (case T => assumption); (case D => assumption); (case hf => exact rfl); (case hk => exact rfl); (case hP => ((repeat (apply Mine.picks_of; focus (((repeat (first | (refine' Mine.Pick.head ?pk9; (case pk9 => k_all)) | (apply Mine.Pick.tail; focus (k_ne; done))))); done))); exact rfl)); (case hd => ((try dsimp only); first | exact Mine.room (by assumption) rfl | exact Mine.room0 (by assumption) rfl | omega)); (case hu => ((try dsimp only); first | exact Mine.room (by assumption) rfl | exact Mine.room0 (by assumption) rfl | omega)))
  case ap => (focus (repeat' (first | exact True.intro | assumption | refine And.intro ?_ ?_ | (refine ⟨?_⟩; k_ne))))
  k_whole
  intro h' tk' F' N'
  ((try (rename News _ _ _ _ => n9'_m; simp only [List.cons_append, List.nil_append] at n9'_m)); (try k_sweep); (try dsimp only))
  k_steps
  all_goals ((try dsimp only); (try k_unfold); (try dsimp only))
  exact con_end hR (by assumption) (by assumption) (fun _ h => h) ⟨rfl, rfl⟩
set_option maxHeartbeats 8000000 in
theorem read_first (w : World) (T : LT) (x dx nm cl y dy rl : Addr) (te tb ta ts tst tr t1 : Tok) (b : Array UInt8) (os : List Int) (spot state row : Int) (vs : List Value) (ns ns' : List Int) (n : Nat) (rs : List Value) (n2 : Nat) (c : Int)
    (hi : IntsAre vs ns) (hrs : IntsAre rs catRows) (hs : (ns.length : Int) ≤ spot) (hl : ns.length ≤ 100000) (ho : KBw.bInts b = os) (hlo : os.length ≤ 90000) (hpos : 0 < os.length) (hn : ∀ k : Nat, os.getD k 0 ≠ 10) (hlast : os.getD (-1 + (os.length : Int)).toNat 0 = 33)
    (hlk : LookOk (os ++ [13]) 0 c ns') (ap : Apart [x, dx, cl, y, dy, rl]) :
    Con w 364 [.ref x, .ref y] 24 180 [(x, instObj 395 dx), (dx, linesDict w T te b tb nm 0 ta cl spot ts state tst row tr), (cl, W.listOf vs.toArray n), (y, instObj 230 dy), (dy, catDict w t1 rl), (rl, W.listOf rs.toArray n2)]
      (fun v led => ∃ tp t2 t3 ta' ts' tst' tr' c5 us m, v = .ref tp ∧ led = [(tp, { cls := .type "tuple", data := .seq #[.int 12 t2, .int c t3] }), (x, instObj 395 dx), (dx, linesDict w T te b tb nm ((os.length : Int) + 1) ta' c5 1 ts' 1 tst' (row + 1) tr'), (c5, W.listOf us.toArray m), (y, instObj 230 dy), (dy, catDict w t1 rl), (rl, W.listOf rs.toArray n2)] ∧
        IntsAre us ns' ∧ Apart [tp, x, dx, c5, y, dy, rl]) := by
  intro dp un gd base h₀ outer s R p loose mean mg mb A hR
  have hb : Binds [(Str.ofString "cats", .ref y), (Str.ofString "self", .ref x)] := ⟨⟩
  have hlo2 : os.length ≤ 100000 := by omega
  have hl13 : (os ++ [13]).length ≤ 100000 := by simp; omega
  have h13 : ¬ ((os ++ [13]).length : Int) ≤ 0 := by simp
  ( k_dflt (refine' Mine.con_enter (by assumption) (by assumption) ?k6_m ?k7_m ?k9_m ?kB_m ?_ ?c2_m ?c3_m ?c4_m ?c5_m; (case k6_m => k_is); (case k7_m => k_is); (case k9_m => first | exact BindsTo.of_eq rfl | exact binds_K (Frag.In.keeps (Mine.Amb.K (by assumption)) (fun b o e => Mine.Amb.keep (by assumption) b o (Below.stays (Mine.Amb.below (by assumption)) b o e))) rfl (by k_is) rfl rfl rfl); (case c5_m => decide); (case kB_m => exact locs rfl); (case c2_m => exact rfl); (case c3_m => exact rfl); (case c4_m => exact rfl)); intro L'_m h'_m tk_m F'_m N'_m l1_m X_m T_m; have B_m := Mine.Amb.below (by assumption); have XB_m := Mine.Amb.K (by assumption); have TB_m := Mine.Amb.T (by assumption); have D_m := Mine.Amb.dicts (by assumption); have hd_m := Mine.Amb.depth (by assumption); have hu_m := Mine.Amb.units (by assumption); rename Mine.Amb _ _ _ _ _ _ _ _ _ _ _ _ _ _ _ _ => hA_m; clear hA_m; rename Mine.Binds _ => hB_m; clear hB_m; (repeat ((rename Mine.Apart _ => ap'_m); refine Mine.Apart.imp ap'_m ?_; clear ap'_m; walk_at "my_facts")); (try k_lt l1_m); (try dsimp only); (try k_fold))
  k_steps
  all_goals ((try dsimp only); (try k_unfold); (try dsimp only))
  rename Fr _ _ _ _ => F1
  rename News _ _ _ _ => N1
  delta Halt
  refine while_gen (σ := Value × List (Addr × Obj)) (fun z => z.2) (fun z => [(Str.ofString "token", z.1), (Str.ofString "cats", .ref y), (Str.ofString "self", .ref x)])
    (fun n z => (n = 2 ∧ z.1 = .none ∧ z.2 = [(x, instObj 395 dx), (dx, linesDict w T te b tb nm 0 ta cl spot ts state tst row tr), (cl, W.listOf vs.toArray _), (y, instObj 230 dy), (dy, catDict w t1 rl), (rl, W.listOf rs.toArray n2)]) ∨
      (n = 1 ∧ ∃ ta' ts' tst' tr' c2 us n', z.1 = .none ∧ z.2 = [(x, instObj 395 dx), (dx, linesDict w T te b tb nm ((os.length : Int) + 1) ta' c2 0 ts' 0 tst' (row + 1) tr'), (c2, W.listOf us.toArray n'), (y, instObj 230 dy), (dy, catDict w t1 rl), (rl, W.listOf rs.toArray n2)] ∧ IntsAre us (os ++ [13]) ∧ Apart [x, dx, c2, y, dy, rl]) ∨ (n = 0 ∧
      ∃ tp t2 t3 ta' ts' tst' tr' c5 us m, z.1 = .ref tp ∧ z.2 = [(tp, { cls := .type "tuple", data := .seq #[.int 12 t2, .int c t3] }), (x, instObj 395 dx), (dx, linesDict w T te b tb nm ((os.length : Int) + 1) ta' c5 1 ts' 1 tst' (row + 1) tr'), (c5, W.listOf us.toArray m), (y, instObj 230 dy), (dy, catDict w t1 rl), (rl, W.listOf rs.toArray n2)] ∧
        IntsAre us ns' ∧ Apart [tp, x, dx, c5, y, dy, rl])) (.none, _) 2 F1 N1 (Loc.cons rfl (loc2 rfl rfl)) (.inl ⟨rfl, rfl, rfl⟩) ?_
  rintro n' ⟨zt, zl⟩ u h tk hJ F4 N4
  clear F1 N1
  dsimp only at F4 N4 hJ
  rcases hJ with ⟨rfl, rfl, rfl⟩ | ⟨rfl, ta', ts', tst', tr', c2, us, n', rfl, rfl, hI8, ap8⟩ | ⟨rfl, tp, t2, t3, ta', ts', tst', tr', c5, us, m, rfl, rfl, hI9, ap9⟩
  · try k_fold
    k_steps
    all_goals ((try dsimp only); (try k_unfold); (try dsimp only))
    delta Halt
    apply Mine.con_callX7 (Mine.begin_first _ _ _ _ _ _ _ _ _ _ _ _ _ _ _ _ _ ?ho ?hl ?h0 ?hn ?hlast ?ap)
    case ho => assumption
    case hl => assumption
    case h0 => assumption
    case hn => assumption
    case hlast => assumption
    ( (case B => assumption); (case F => k_asm); (case N => k_asm); (case X => assumption); (case T => assumption); (case D => assumption); (case hf => exact rfl); (case hk => exact rfl); (case hP => ((repeat (apply Mine.picks_of; focus (((repeat (first | (refine' Mine.Pick.head ?pk9; (case pk9 => k_all)) | (apply Mine.Pick.tail; focus (k_ne; done))))); done))); exact rfl)); (case hd => ((try dsimp only); first | exact Mine.room (by assumption) rfl | exact Mine.room0 (by assumption) rfl | omega)); (case hu => ((try dsimp only); first | exact Mine.room (by assumption) rfl | exact Mine.room0 (by assumption) rfl | omega)))
    case ap => (focus (repeat' (first | exact True.intro | assumption | refine And.intro ?_ ?_ | (refine ⟨?_⟩; k_ne))))
    k_whole
    intro h' tk' ta9' ts9' tst9' tr9' c9' us9' n9' hp9'
    have hi9' := And.left hp9'
    have ap9' := And.right hp9'
    clear hp9'
    intro F' N' hne'
    ((rename Mine.AllNeL _ _ => hn9'_m); refine Mine.AllNeL.imp hn9'_m ?_; clear hn9'_m; walk_at "my_facts")
    ((rename Mine.Apart _ => ap'_m); refine Mine.Apart.imp ap'_m ?_; clear ap'_m; walk_at "my_facts")
    ((try (rename News _ _ _ _ => n9'_m; simp only [List.cons_append, List.nil_append] at n9'_m)); (try k_sweep); (try dsimp only))
    k_steps
    all_goals ((try dsimp only); (try k_unfold); (try dsimp only))
    refine' turn_endW (_, _) 1 (by omega) (by assumption) (by assumption) ?gs (Loc.cons rfl (loc2 rfl rfl)) (.inr (.inl ⟨rfl, _, _, _, _, _, _, _, rfl, rfl, by assumption, ?ga⟩))
    case gs => dsimp only; ((repeat (refine List.forall_mem_cons.mpr ⟨by k_mem, ?_⟩)); exact List.forall_mem_nil _)
    case ga => (focus (repeat' (first | exact True.intro | assumption | refine And.intro ?_ ?_ | (refine ⟨?_⟩; k_ne))))
  · try k_fold
    ((rename Mine.Apart _ => ap'_m); refine Mine.Apart.imp ap'_m ?_; clear ap'_m; walk_at "my_facts")
    k_steps
    all_goals ((try dsimp only); (try k_unfold); (try dsimp only))
    delta Halt
    apply Mine.con_callX8 (Mine.step_con _ _ _ _ _ _ _ _ _ _ _ _ _ _ _ _ _ _ _ _ _ _ _ _ _ _ _ _ ?hi ?hrs ?h0 ?hl ?ho ?ap)
    case ho => assumption
    case hrs => ((with_reducible show IntsAre _ Mine.catRows); assumption)
    case hi => assumption
    ( (case B => assumption); (case F => k_asm); (case N => k_asm); (case X => assumption); (case T => assumption); (case D => assumption); (case hf => exact rfl); (case hk => exact rfl); (case hP => ((repeat (apply Mine.picks_of; focus (((repeat (first | (refine' Mine.Pick.head ?pk9; (case pk9 => k_all)) | (apply Mine.Pick.tail; focus (k_ne; done))))); done))); exact rfl)); (case hd => ((try dsimp only); first | exact Mine.room (by assumption) rfl | exact Mine.room0 (by assumption) rfl | omega)); (case hu => ((try dsimp only); first | exact Mine.room (by assumption) rfl | exact Mine.room0 (by assumption) rfl | omega)))
    case h0 => first | assumption | omega
    case hl => assumption
    case ap => (focus (repeat' (first | exact True.intro | assumption | refine And.intro ?_ ?_ | (refine ⟨?_⟩; k_ne))))
    k_whole
    intro h' tk' tp9' t29' t39' ts9' tst9' c9' us9' m9' hp9'
    have hi9' := And.left hp9'
    have ap9' := And.right hp9'
    clear hp9'
    intro F' N' hne'
    ((rename Mine.AllNeL _ _ => hn9'_m); refine Mine.AllNeL.imp hn9'_m ?_; clear hn9'_m; walk_at "my_facts")
    ((rename Mine.Apart _ => ap'_m); refine Mine.Apart.imp ap'_m ?_; clear ap'_m; walk_at "my_facts")
    ((try (rename News _ _ _ _ => n9'_m; simp only [List.cons_append, List.nil_append] at n9'_m)); (try k_sweep); (try dsimp only))
    k_steps
    all_goals ((try dsimp only); (try k_unfold); (try dsimp only))
    refine' turn_endW (_, _) 0 (by omega) (by assumption) (by assumption) (fun _ h => h) (Loc.cons rfl (loc2 rfl rfl)) (.inr (.inr ⟨rfl, _, _, _, _, _, _, _, _, _, _, rfl, rfl, by assumption, ?_⟩))
    (focus (repeat' (first | exact True.intro | assumption | refine And.intro ?_ ?_ | (refine ⟨?_⟩; k_ne))))
  · try k_fold
    k_steps
    all_goals ((try dsimp only); (try k_unfold); (try dsimp only))
    exact con_end hR (by assumption) (by assumption) (fun _ h => h) ⟨_, _, _, _, _, _, _, _, _, _, rfl, rfl, hI9, ap9⟩
end Mine
end
section
namespace Mine
set_option maxHeartbeats 8000000 in
theorem next_gen (w : World) (T : LT) (x dx nm cl y dy rl : Addr) (te tb ta ts tst tr t1 : Tok) (b : Array UInt8) (at_ spot state row : Int) (vs : List Value) (n : Nat) (rs : List Value) (n2 : Nat) (post : Value → List (Addr × Obj) → Prop)
    (ap : Apart [x, dx, cl, y, dy, rl])
    (C : Con w 364 [.ref x, .ref y] 24 180 [(x, instObj 395 dx), (dx, linesDict w T te b tb nm at_ ta cl spot ts state tst row tr), (cl, W.listOf vs.toArray n), (y, instObj 230 dy), (dy, catDict w t1 rl), (rl, W.listOf rs.toArray n2)] post) :
    Con w 350 [.ref x, .ref y] 32 260 [(x, instObj 395 dx), (dx, linesDict w T te b tb nm at_ ta cl spot ts state tst row tr), (cl, W.listOf vs.toArray n), (y, instObj 230 dy), (dy, catDict w t1 rl), (rl, W.listOf rs.toArray n2)] post := by
  intro dp un gd base h₀ outer s R p loose mean mg mb A hR
  have hb : Binds [(Str.ofString "cats", .ref y), (Str.ofString "self", .ref x)] := ⟨⟩
  ( k_dflt (refine' Mine.con_enter (by assumption) (by assumption) ?k6_m ?k7_m ?k9_m ?kB_m ?_ ?c2_m ?c3_m ?c4_m ?c5_m; (case k6_m => k_is); (case k7_m => k_is); (case k9_m => first | exact BindsTo.of_eq rfl | exact binds_K (Frag.In.keeps (Mine.Amb.K (by assumption)) (fun b o e => Mine.Amb.keep (by assumption) b o (Below.stays (Mine.Amb.below (by assumption)) b o e))) rfl (by k_is) rfl rfl rfl); (case c5_m => decide); (case kB_m => exact locs rfl); (case c2_m => exact rfl); (case c3_m => exact rfl); (case c4_m => exact rfl)); intro L'_m h'_m tk_m F'_m N'_m l1_m X_m T_m; have B_m := Mine.Amb.below (by assumption); have XB_m := Mine.Amb.K (by assumption); have TB_m := Mine.Amb.T (by assumption); have D_m := Mine.Amb.dicts (by assumption); have hd_m := Mine.Amb.depth (by assumption); have hu_m := Mine.Amb.units (by assumption); rename Mine.Amb _ _ _ _ _ _ _ _ _ _ _ _ _ _ _ _ => hA_m; clear hA_m; rename Mine.Binds _ => hB_m; clear hB_m; (repeat ((rename Mine.Apart _ => ap'_m); refine Mine.Apart.imp ap'_m ?_; clear ap'_m; walk_at "my_facts")); (try k_lt l1_m); (try dsimp only); (try k_fold))
  k_steps
  all_goals (repeat' (first | (delta Mine.Halt; (k_here; (with_reducible show wpAny _ _ (call (Value.ref 364) [Value.ref _, Value.ref _]) _ _ _); k_dflt ( refine' Mine.con_call (post := ?po) ?C_m ?B ?F ?N ?X ?T ?D ?hf ?hk ?hP ?hd ?hu ?_; (case C_m => assumption); ( (case B => assumption); (case F => k_asm); (case N => k_asm); (case X => assumption); (case T => assumption); (case D => assumption); (case hf => exact rfl); (case hk => exact rfl); (case hP => ((repeat (apply Mine.picks_of; focus (((repeat (first | (refine' Mine.Pick.head ?pk9; (case pk9 => k_all)) | (apply Mine.Pick.tail; focus (k_ne; done))))); done))); exact rfl)); (case hd => ((try dsimp only); first | exact Mine.room (by assumption) rfl | exact Mine.room0 (by assumption) rfl | omega)); (case hu => ((try dsimp only); first | exact Mine.room (by assumption) rfl | exact Mine.room0 (by assumption) rfl | omega))); k_whole; intro v'_m h'_m tk'_m led'_m hp9'_m F'_m N'_m hne'_m; clear hne'_m; (try dsimp only))); k_steps)))
  all_goals ((try dsimp only); (try k_unfold); (try dsimp only))
  exact con_end hR (by assumption) (by assumption) (fun q hq => List.mem_append_left _ hq) (by assumption)
end Mine
namespace Mine
theorem next_last (w : World) (T : LT) (x dx nm cl y dy rl : Addr) (te tb ta ts tst tr t1 : Tok) (b : Array UInt8) (os : List Int) (at_ spot state row : Int) (vs : List Value) (ns : List Int) (n : Nat) (rs : List Value) (n2 : Nat)
    (hi : IntsAre vs ns) (hrs : IntsAre rs catRows) (hs : (ns.length : Int) ≤ spot) (hl : ns.length ≤ 100000) (ho : KBw.bInts b = os) (hlo : os.length ≤ 100000) (hat : (os.length : Int) ≤ at_) (ap : Apart [x, dx, cl, y, dy, rl]) :
    Con w 350 [.ref x, .ref y] 32 260 [(x, instObj 395 dx), (dx, linesDict w T te b tb nm at_ ta cl spot ts state tst row tr), (cl, W.listOf vs.toArray n), (y, instObj 230 dy), (dy, catDict w t1 rl), (rl, W.listOf rs.toArray n2)]
      (fun v led => v = .none ∧ led = [(x, instObj 395 dx), (dx, linesDict w T te b tb nm at_ ta cl spot ts state tst row tr), (cl, W.listOf vs.toArray n), (y, instObj 230 dy), (dy, catDict w t1 rl), (rl, W.listOf rs.toArray n2)]) :=
  next_gen w T x dx nm cl y dy rl te tb ta ts tst tr t1 b at_ spot state row vs n rs n2 _ ap (read_last w T x dx nm cl y dy rl te tb ta ts tst tr t1 b os at_ spot state row vs ns n rs n2 hi hrs hs hl ho hlo hat ap)
theorem next_first (w : World) (T : LT) (x dx nm cl y dy rl : Addr) (te tb ta ts tst tr t1 : Tok) (b : Array UInt8) (os : List Int) (spot state row : Int) (vs : List Value) (ns ns' : List Int) (n : Nat) (rs : List Value) (n2 : Nat) (c : Int)
    (hi : IntsAre vs ns) (hrs : IntsAre rs catRows) (hs : (ns.length : Int) ≤ spot) (hl : ns.length ≤ 100000) (ho : KBw.bInts b = os) (hlo : os.length ≤ 90000) (hpos : 0 < os.length) (hn : ∀ k : Nat, os.getD k 0 ≠ 10) (hlast : os.getD (-1 + (os.length : Int)).toNat 0 = 33)
    (hlk : LookOk (os ++ [13]) 0 c ns') (ap : Apart [x, dx, cl, y, dy, rl]) :
    Con w 350 [.ref x, .ref y] 32 260 [(x, instObj 395 dx), (dx, linesDict w T te b tb nm 0 ta cl spot ts state tst row tr), (cl, W.listOf vs.toArray n), (y, instObj 230 dy), (dy, catDict w t1 rl), (rl, W.listOf rs.toArray n2)]
      (fun v led => ∃ tp t2 t3 ta' ts' tst' tr' c5 us m, v = .ref tp ∧ led = [(tp, { cls := .type "tuple", data := .seq #[.int 12 t2, .int c t3] }), (x, instObj 395 dx), (dx, linesDict w T te b tb nm ((os.length : Int) + 1) ta' c5 1 ts' 1 tst' (row + 1) tr'), (c5, W.listOf us.toArray m), (y, instObj 230 dy), (dy, catDict w t1 rl), (rl, W.listOf rs.toArray n2)] ∧
        IntsAre us ns' ∧ Apart [tp, x, dx, c5, y, dy, rl]) :=
  next_gen w T x dx nm cl y dy rl te tb ta ts tst tr t1 b 0 spot state row vs n rs n2 _ ap (read_first w T x dx nm cl y dy rl te tb ta ts tst tr t1 b os spot state row vs ns ns' n rs n2 c hi hrs hs hl ho hlo hpos hn hlast hlk ap)
theorem next_step (w : World) (T : LT) (x dx nm cl y dy rl : Addr) (te tb ta ts tst tr t1 : Tok) (b : Array UInt8) (at_ spot state row : Int) (vs : List Value) (ns ns' : List Int) (n : Nat) (rs : List Value) (n2 : Nat) (c : Int)
    (hi : IntsAre vs ns) (hrs : IntsAre rs catRows) (h0 : 0 ≤ spot) (hl : ns.length ≤ 100000) (ho : LookOk ns spot c ns') (ap : Apart [x, dx, cl, y, dy, rl]) :
    Con w 350 [.ref x, .ref y] 32 260 [(x, instObj 395 dx), (dx, linesDict w T te b tb nm at_ ta cl spot ts state tst row tr), (cl, W.listOf vs.toArray n), (y, instObj 230 dy), (dy, catDict w t1 rl), (rl, W.listOf rs.toArray n2)]
      (fun v led => ∃ tp t2 t3 ts' tst' c5 us m, v = .ref tp ∧ led = [(tp, { cls := .type "tuple", data := .seq #[.int 12 t2, .int c t3] }), (x, instObj 395 dx), (dx, linesDict w T te b tb nm at_ ta c5 (spot + 1) ts' 1 tst' row tr), (c5, W.listOf us.toArray m), (y, instObj 230 dy), (dy, catDict w t1 rl), (rl, W.listOf rs.toArray n2)] ∧
        IntsAre us ns' ∧ Apart [tp, x, dx, c5, y, dy, rl]) :=
  next_gen w T x dx nm cl y dy rl te tb ta ts tst tr t1 b at_ spot state row vs n rs n2 _ ap (read_step w T x dx nm cl y dy rl te tb ta ts tst tr t1 b at_ spot state row vs ns ns' n rs n2 c hi hrs h0 hl ho ap)
end Mine
end
section

section
namespace Mine
def hexDigit (d : Int) : Int := if d < 10 then d + 48 else d + 87
/-- the signs that stand for a code in the visible text -/
def visCodes (c : Int) : List Int := if 32 ≤ c ∧ c ≤ 126 then [c] else if c < 128 then [94, 94, if c < 64 then c + 64 else c - 64] else [94, 94, hexDigit (c / 16), hexDigit (c % 16)]
theorem visCodes_length (c : Int) : (visCodes c).length ≤ 4 := by unfold visCodes; (repeat' split) <;> simp
theorem item_hexN : ∀ n : Nat, n < 16 → ords (PySem.Txt.item (Str.ofString "0123456789abcdef") (n : Int)) = [hexDigit (n : Int)] := by decide +kernel
theorem item_hex (k : Int) (h0 : 0 ≤ k) (h1 : k < 16) : ords (PySem.Txt.item (Str.ofString "0123456789abcdef") k) = [hexDigit k] := by
  obtain ⟨n, rfl⟩ := Int.eq_ofNat_of_zero_le h0
  exact item_hexN n (Int.ofNat_lt.mp h1)
theorem ords_one (d : Nat) : ords ⟨#[d]⟩ = [(d : Int)] := rfl
theorem ords_hats : ords (Str.ofString "^^") = [94, 94] := by decide +kernel
theorem vis_a {d : Nat} (h : 32 ≤ (d : Int)) (h2 : (d : Int) ≤ 126) : ords ⟨#[d]⟩ = visCodes d := by
  rw [ords_one]; unfold visCodes; rw [if_pos ⟨h, h2⟩]
theorem vis_b {d : Nat} (h : ¬ (32 ≤ (d : Int) ∧ (d : Int) ≤ 126)) (h2 : (d : Int) < 128) (e : Int) (he : e = if (d : Int) < 64 then (d : Int) + 64 else d - 64) : ords (Str.ofString "^^" ++ ⟨#[e.toNat]⟩) = visCodes d := by
  rw [ords_append, ords_hats, ords_one]; unfold visCodes; rw [if_neg h, if_pos h2]
  have h0 : 0 ≤ e := by rw [he]; split <;> omega
  rw [Int.toNat_of_nonneg h0, he]; rfl
theorem vis_c {d : Nat} (h : ¬ (d : Int) < 128) (h2 : d ≤ 255) : ords (Str.ofString "^^" ++ PySem.Txt.item (Str.ofString "0123456789abcdef") ((d : Int).fdiv 16) ++ PySem.Txt.item (Str.ofString "0123456789abcdef") ((d : Int).fmod 16)) = visCodes d := by
  have e1 : (d : Int).fdiv 16 = (d : Int) / 16 := Int.fdiv_eq_ediv_of_nonneg _ (by decide)
  have e2 : (d : Int).fmod 16 = (d : Int) % 16 := Int.fmod_eq_emod_of_nonneg _ (by decide)
  rw [ords_append, ords_append, ords_hats, e1, e2, item_hex _ (by omega) (by omega), item_hex _ (by omega) (by omega)]
  unfold visCodes; rw [if_neg (by omega), if_neg h]; rfl
theorem strsAre_snoc {y : Str} {t : Tok} : ∀ {vs : List Value} {ys : List Str}, StrsAre vs ys → StrsAre (vs ++ [.str y t]) (ys ++ [y])
  | _, _, .nil => .cons y t .nil
  | _, _, .cons z u r => .cons z u (strsAre_snoc r)
theorem strsAre_length : ∀ {vs : List Value} {ys : List Str}, StrsAre vs ys → vs.length = ys.length
  | _, _, .nil => rfl
  | _, _, .cons z u r => congrArg (· + 1) (strsAre_length r)
theorem vis_step {x y : Str} {t : Tok} {i d : Nat} {vs : List Value} {ss : List Str} (hd : x.cps[i]? = some d) (hS : StrsAre vs ss) (hV : ss.flatMap ords = ((ords x).take i).flatMap visCodes) (hL : ∀ a ∈ ss, (ords a).length ≤ 4) (hi : ss.length = i) (hy : ords y = visCodes d) :
    ∃ ss', StrsAre (vs ++ [.str y t]) ss' ∧ ss'.flatMap ords = ((ords x).take (i + 1)).flatMap visCodes ∧ (∀ a ∈ ss', (ords a).length ≤ 4) ∧ ss'.length = i + 1 := by
  refine ⟨ss ++ [y], strsAre_snoc hS, ?_, ?_, by simp [hi]⟩
  · have e : (ords x)[i]? = some (d : Int) := by simp [ords, hd]
    rw [List.take_add_one, e]
    simp [hV, hy]
  · intro a ha
    rcases List.mem_append.mp ha with ha | ha
    · exact hL a ha
    · rw [List.mem_singleton.mp ha, hy]; exact visCodes_length _
set_option maxHeartbeats 8000000 in
theorem visible_con (w : World) (x : Str) (t : Tok) (hx : Lat x) (hz : x.cps.size ≤ 10000) : Con w 303 [.str x t] 6 50 [] (fun v led => ∃ y u, v = .str y u ∧ led = [] ∧ ords y = (ords x).flatMap visCodes) := by
  intro dp un gd base h₀ outer s R p loose mean mg mb A hR
  have hb : Binds [(Str.ofString "text", .str x t)] := ⟨⟩
  ( k_dflt (refine' Mine.con_enter (by assumption) (by assumption) ?k6_m ?k7_m ?k9_m ?kB_m ?_ ?c2_m ?c3_m ?c4_m ?c5_m; (case k6_m => k_is); (case k7_m => k_is); (case k9_m => first | exact BindsTo.of_eq rfl | exact binds_K (Frag.In.keeps (Mine.Amb.K (by assumption)) (fun b o e => Mine.Amb.keep (by assumption) b o (Below.stays (Mine.Amb.below (by assumption)) b o e))) rfl (by k_is) rfl rfl rfl); (case c5_m => decide); (case kB_m => exact locs rfl); (case c2_m => exact rfl); (case c3_m => exact rfl); (case c4_m => exact rfl)); intro L'_m h'_m tk_m F'_m N'_m l1_m X_m T_m; have B_m := Mine.Amb.below (by assumption); have XB_m := Mine.Amb.K (by assumption); have TB_m := Mine.Amb.T (by assumption); have D_m := Mine.Amb.dicts (by assumption); have hd_m := Mine.Amb.depth (by assumption); have hu_m := Mine.Amb.units (by assumption); rename Mine.Amb _ _ _ _ _ _ _ _ _ _ _ _ _ _ _ _ => hA_m; clear hA_m; rename Mine.Binds _ => hB_m; clear hB_m; (repeat ((rename Mine.Apart _ => ap'_m); refine Mine.Apart.imp ap'_m ?_; clear ap'_m; walk_at "my_facts")); (try k_lt l1_m); (try dsimp only); (try k_fold))
  k_steps
  all_goals ((try dsimp only); (try k_unfold); (try dsimp only))
  rename Fr _ _ _ _ => F1
  rename News _ _ _ _ => N1
  rename_i lf _ _

  delta Halt
  refine for_str (σ := List Value × Nat) (fun c => [(lf, W.listOf c.1.toArray c.2)]) (fun _ => [(Str.ofString "found", .ref lf)])
    (fun i c => ∃ ss, StrsAre c.1 ss ∧ ss.flatMap ords = ((ords x).take i).flatMap visCodes ∧ (∀ a ∈ ss, (ords a).length ≤ 4) ∧ ss.length = i) ([], 0) rfl F1 N1 (Loc.cons rfl Loc.nil) ⟨[], .nil, rfl, fun _ h => (nomatch h), rfl⟩ ?_ ?_
  · rintro i d t1 ⟨vs, n⟩ u h tk I oI hd ⟨ss, hS, hV, hL, hi⟩ hne F3 N3
    have hne1 := neN (hne _ (.head _))
    clear hne F1 N1
    have hd2 := hx _ _ hd
    dsimp only [envOf] at F3 N3 hne1 hS
    try k_fold
    have hvl := strsAre_length hS
    have hdz := (Array.getElem?_eq_some_iff.mp hd).1
    k_steps
    all_goals ((try dsimp only); (try k_unfold); (try dsimp only))
    all_goals (rename News _ _ _ _ => N9; simp only [List.push_toArray] at N9; refine turn_end (vs ++ [_], n + 1) (by assumption) N9 (by k_mem) (all1 (by k_mem)) (all1 hne1) (loc1 rfl) (vis_step hd hS hV hL hi ?_))
    all_goals first | exact vis_a (by assumption) (by assumption) | exact vis_c (by omega) hd2 | exact vis_b (by omega) (by omega) _ (by split <;> omega)
  · rintro ⟨vs, n⟩ u h tk ⟨ss, hS, hV, hL, hi⟩ F3 N3
    dsimp only [envOf] at F3 N3 hS
    have hvl := strsAre_length hS
    try k_fold
    k_steps
    all_goals (repeat' (first | ((k_here; (with_reducible show wpAny _ _ (call (Value.builtin "str.join") [Value.str _ _, Value.ref _]) _ _ _); k_dflt (refine' Mine.join_strs ?l_m ?s_m ?b_m ?n_m ?_; (case l_m => exact News.isList (by k_asm) (by k_mem)); (case s_m => assumption); (case b_m => assumption); (case n_m => omega)); intro y'_m t'_m k'_m hy'_m); k_steps)))
    all_goals ((try dsimp only); (try k_unfold); (try dsimp only))
    rename ords _ = _ => hy
    rw [hV, ords_all] at hy
    exact con_end hR (by assumption) (by assumption) (List.forall_mem_nil _) ⟨_, _, rfl, rfl, hy⟩
end Mine
end
section
namespace Mine
theorem CodeOk.plain {c : Int} (h : CodeOk c) : (32 ≤ c ∧ c ≤ 126 ∧ visCodes c = [c]) ∨ (¬ (32 ≤ c ∧ c ≤ 126) ∧ c < 128 ∧ visCodes c = [94, 94, if c < 64 then c + 64 else c - 64]) ∨ (128 ≤ c ∧ visCodes c = [94, 94, hexDigit (c / 16), hexDigit (c % 16)]) := by
  unfold visCodes
  by_cases h1 : 32 ≤ c ∧ c ≤ 126
  · exact .inl ⟨h1.1, h1.2, by rw [if_pos h1]⟩
  · by_cases h2 : c < 128
    · exact .inr (.inl ⟨h1, h2, by rw [if_neg h1, if_pos h2]⟩)
    · exact .inr (.inr ⟨by omega, by rw [if_neg h1, if_neg h2]⟩)
theorem hexVal_digitN : ∀ n : Nat, n < 16 → hexVal (hexDigit (n : Int)) = (n : Int) := by decide
theorem hexVal_digit {d : Int} (h0 : 0 ≤ d) (h1 : d < 16) : hexVal (hexDigit d) = d := by
  obtain ⟨n, rfl⟩ := Int.eq_ofNat_of_zero_le h0
  exact hexVal_digitN n (Int.ofNat_lt.mp h1)
theorem hexDigit_range {d : Int} (h0 : 0 ≤ d) (h1 : d < 16) : 48 ≤ hexDigit d ∧ hexDigit d ≤ 102 := by
  unfold hexDigit; split <;> omega
theorem vis_range {c : Int} (h : CodeOk c) : ∀ e ∈ visCodes c, 32 ≤ e ∧ e ≤ 126 := by
  obtain ⟨h0, h1, h2⟩ := h
  rcases CodeOk.plain ⟨h0, h1, h2⟩ with ⟨a, b, e⟩ | ⟨a, b, e⟩ | ⟨a, e⟩ <;> rw [e] <;> intro x hx
  · rw [List.mem_singleton.mp hx]; exact ⟨a, b⟩
  · simp only [List.mem_cons, List.not_mem_nil, or_false] at hx
    rcases hx with rfl | rfl | rfl
    · decide
    · decide
    · split <;> omega
  · have r1 := hexDigit_range (d := c / 16) (by omega) (by omega)
    have r2 := hexDigit_range (d := c % 16) (by omega) (by omega)
    simp only [List.mem_cons, List.not_mem_nil, or_false] at hx
    rcases hx with rfl | rfl | rfl | rfl
    · decide
    · decide
    · omega
    · omega
theorem getD_at (a r : List Int) (x : Int) (k : Int) (hk : k = (a.length : Int)) : (a ++ x :: r).getD k.toNat 0 = x := by
  subst hk
  rw [Int.toNat_natCast, List.getD_eq_getElem?_getD, List.getElem?_append_right (Nat.le_refl _), Nat.sub_self]
  rfl
theorem getD_at1 (a r : List Int) (x y : Int) (k : Int) (hk : k = (a.length : Int) + 1) : (a ++ x :: y :: r).getD k.toNat 0 = y := by
  have e : a ++ x :: y :: r = (a ++ [x]) ++ y :: r := by simp
  rw [e]; exact getD_at _ _ _ _ (by simp; omega)
theorem getD_at2 (a r : List Int) (x y z : Int) (k : Int) (hk : k = (a.length : Int) + 2) : (a ++ x :: y :: z :: r).getD k.toNat 0 = z := by
  have e : a ++ x :: y :: z :: r = (a ++ [x, y]) ++ z :: r := by simp
  rw [e]; exact getD_at _ _ _ _ (by simp; omega)
theorem getD_at3 (a r : List Int) (x y z u : Int) (k : Int) (hk : k = (a.length : Int) + 3) : (a ++ x :: y :: z :: u :: r).getD k.toNat 0 = u := by
  have e : a ++ x :: y :: z :: u :: r = (a ++ [x, y, z]) ++ u :: r := by simp
  rw [e]; exact getD_at _ _ _ _ (by simp; omega)
theorem look_plain (a r : List Int) (c : Int) (h0 : 0 ≤ c) (h1 : c ≤ 255) (h2 : c ≠ 94) : LookOk (a ++ c :: r) (a.length : Int) c (a ++ c :: r) := by
  have e := getD_at a r c _ rfl
  exact .inl ⟨by simp; omega, by omega, by omega, by omega, e.symm, rfl⟩
theorem look_vis (a r : List Int) (c : Int) (h : CodeOk c) (hr : 0 < r.length) : LookOk (a ++ (visCodes c ++ r)) (a.length : Int) c (a ++ c :: r) := by
  have h' := h
  obtain ⟨h0, h1, h2⟩ := h
  obtain ⟨z, r', rfl⟩ : ∃ z r', r = z :: r' := by
    cases r with
    | nil => simp at hr
    | cons z r' => exact ⟨z, r', rfl⟩
  rcases CodeOk.plain h' with ⟨p, q, e⟩ | ⟨p, q, e⟩ | ⟨p, e⟩ <;> rw [e]
  · exact look_plain a (z :: r') c h0 h1 h2
  · have g0 := getD_at a (94 :: (if c < 64 then c + 64 else c - 64) :: z :: r') 94 _ rfl
    have g1 := getD_at1 a ((if c < 64 then c + 64 else c - 64) :: z :: r') 94 94 _ rfl
    have g2 := getD_at2 a (z :: r') 94 94 (if c < 64 then c + 64 else c - 64) _ rfl
    have g3 := getD_at3 a r' 94 94 (if c < 64 then c + 64 else c - 64) z _ rfl
    show LookOk (a ++ 94 :: 94 :: (if c < 64 then c + 64 else c - 64) :: z :: r') (a.length : Int) c _
    refine .inr ⟨by simp; omega, g0, g1.trans g0.symm, by rw [g2]; split <;> omega, h0, h1, h2, 3, ?_, by decide, by decide, ?_⟩
    · rw [g2]
      unfold otherwise
      have hv : hexVal (if c < 64 then c + 64 else c - 64) = -1 := by
        unfold hexVal
        rw [if_neg (by split <;> omega), if_neg (by split <;> omega)]
      rw [if_neg (by omega)]
      by_cases h64 : c < 64
      · rw [if_pos h64, if_neg (by omega)]; congr 1; omega
      · rw [if_neg h64, if_pos (by omega)]; congr 1; omega
    · rw [Int.toNat_natCast, List.take_left' rfl, show ((a.length : Int) + 3).toNat = a.length + 3 by omega, ← List.drop_drop, List.drop_left' rfl]
      simp
  · have g0 := getD_at a (94 :: hexDigit (c / 16) :: hexDigit (c % 16) :: z :: r') 94 _ rfl
    have g1 := getD_at1 a (hexDigit (c / 16) :: hexDigit (c % 16) :: z :: r') 94 94 _ rfl
    have g2 := getD_at2 a (hexDigit (c % 16) :: z :: r') 94 94 (hexDigit (c / 16)) _ rfl
    have g3 := getD_at3 a (z :: r') 94 94 (hexDigit (c / 16)) (hexDigit (c % 16)) _ rfl
    have r1 := hexDigit_range (d := c / 16) (by omega) (by omega)
    show LookOk (a ++ 94 :: 94 :: hexDigit (c / 16) :: hexDigit (c % 16) :: z :: r') (a.length : Int) c _
    refine .inr ⟨by simp; omega, g0, g1.trans g0.symm, by rw [g2]; omega, h0, h1, h2, 4, ?_, by decide, by decide, ?_⟩
    · rw [g2, g3]
      unfold otherwise
      have v1 := hexVal_digit (d := c / 16) (by omega) (by omega)
      have v2 := hexVal_digit (d := c % 16) (by omega) (by omega)
      rw [if_pos (by omega), v1, v2]
      congr 1; omega
    · rw [Int.toNat_natCast, List.take_left' rfl, show ((a.length : Int) + 4).toNat = a.length + 4 by omega, ← List.drop_drop, List.drop_left' rfl]
      simp
/-- the codes of the row after j looks -/
def rowAt (cs : List Int) (j : Nat) : List Int := if j ≤ cs.length then cs.take j ++ ((cs.drop j).flatMap visCodes ++ [13]) else cs ++ [13]
theorem rowAt_le {cs : List Int} {j : Nat} (h : j ≤ cs.length) : rowAt cs j = cs.take j ++ ((cs.drop j).flatMap visCodes ++ [13]) := if_pos h
theorem rowAt_gt {cs : List Int} {j : Nat} (h : ¬ j ≤ cs.length) : rowAt cs j = cs ++ [13] := if_neg h
theorem rowAt_zero (cs : List Int) : rowAt cs 0 = cs.flatMap visCodes ++ [13] := by rw [rowAt_le (Nat.zero_le _)]; rfl
theorem rowAt_look (cs : List Int) (hc : CodesOk cs) (j : Nat) (hj : j ≤ cs.length) : LookOk (rowAt cs j) (j : Int) ((cs ++ [13]).getD j 0) (rowAt cs (j + 1)) := by
  by_cases hlt : j < cs.length
  · have hd : cs.drop j = cs[j] :: cs.drop (j + 1) := List.drop_eq_getElem_cons hlt
    have hg : (cs ++ [13]).getD j 0 = cs[j] := by
      rw [List.getD_eq_getElem?_getD, List.getElem?_append_left hlt, List.getElem?_eq_getElem hlt]; rfl
    have e1 : rowAt cs j = cs.take j ++ (visCodes cs[j] ++ ((cs.drop (j + 1)).flatMap visCodes ++ [13])) := by
      rw [rowAt_le hj, hd, List.flatMap_cons, List.append_assoc]
    have e2 : rowAt cs (j + 1) = cs.take j ++ cs[j] :: ((cs.drop (j + 1)).flatMap visCodes ++ [13]) := by
      rw [rowAt_le hlt, List.take_succ_eq_append_getElem hlt, List.append_assoc]; rfl
    rw [e1, e2, hg]
    have hl : ((cs.take j).length : Int) = j := by rw [List.length_take, Nat.min_eq_left hj]
    have := look_vis (cs.take j) ((cs.drop (j + 1)).flatMap visCodes ++ [13]) cs[j] (hc _ (List.getElem_mem hlt)) (by rw [List.length_append]; exact Nat.lt_of_lt_of_le Nat.one_pos (Nat.le_add_left _ _))
    rw [hl] at this
    exact this
  · obtain rfl : j = cs.length := by omega
    have e1 : rowAt cs cs.length = cs ++ 13 :: [] := by
      rw [rowAt_le (Nat.le_refl _), List.take_length, List.drop_length]; rfl
    have e2 : rowAt cs (cs.length + 1) = cs ++ 13 :: [] := rowAt_gt (by omega)
    have hg : (cs ++ [13]).getD cs.length 0 = 13 := by
      rw [List.getD_eq_getElem?_getD, List.getElem?_append_right (Nat.le_refl _), Nat.sub_self]; rfl
    rw [e1, e2, hg]
    exact look_plain cs [] 13 (by decide) (by decide) (by decide)
theorem vis_length (l : List Int) : (l.flatMap visCodes).length ≤ 4 * l.length := by
  induction l with
  | nil => simp
  | cons x r ih => have := visCodes_length x; simp only [List.flatMap_cons, List.length_append, List.length_cons]; omega
theorem rowAt_length (cs : List Int) (j : Nat) : (rowAt cs j).length ≤ 4 * cs.length + 1 := by
  have h1 := vis_length (cs.drop j)
  by_cases h : j ≤ cs.length
  · rw [rowAt_le h]
    rw [List.length_drop] at h1
    rw [List.length_append, List.length_append, List.length_take, Nat.min_eq_left h]
    show j + (_ + 1) ≤ _
    omega
  · rw [rowAt_gt h, List.length_append]
    show cs.length + 1 ≤ _
    omega
theorem rowAt_end (cs : List Int) : (rowAt cs (cs.length + 1)).length = cs.length + 1 := by rw [rowAt_gt (by omega), List.length_append]; rfl
theorem vis_no10 (cs : List Int) (hc : CodesOk cs) (k : Nat) : (cs.flatMap visCodes).getD k 0 ≠ 10 := by
  rw [List.getD_eq_getElem?_getD]
  cases h : (cs.flatMap visCodes)[k]? with
  | none => decide
  | some e =>
    obtain ⟨c, hc1, hc2⟩ := List.mem_flatMap.mp (List.mem_of_getElem? h)
    have := vis_range (hc c hc1) e hc2
    show e ≠ 10
    omega
theorem vis_last (ns : List Int) : ((ns ++ [33]).flatMap visCodes).getD (-1 + (((ns ++ [33]).flatMap visCodes).length : Int)).toNat 0 = 33 ∧ 0 < ((ns ++ [33]).flatMap visCodes).length := by
  have e : (ns ++ [33]).flatMap visCodes = ns.flatMap visCodes ++ 33 :: [] := by
    rw [List.flatMap_append]; rfl
  rw [e]
  constructor
  · exact getD_at _ _ _ _ (by rw [List.length_append]; show (-1 : Int) + ((_ + 1 : Nat) : Int) = _; omega)
  · rw [List.length_append]; exact Nat.lt_of_lt_of_le Nat.one_pos (Nat.le_add_left _ _)
end Mine
end
section
namespace Mine
/-- a token -/
def mkTok (c : Int) : Dat := .tuple [.int 12, .int c]
theorem mkTok_in {T : List (Addr × Obj)} {tp : Addr} {c : Int} {t2 t3 : Tok} : DatIn ((tp, { cls := .type "tuple", data := .seq #[.int 12 t2, .int c t3] }) :: T) (.ref tp) (mkTok c) :=
  DatIn.tuple (vs := [.int 12 t2, .int c t3]) (.head _) (.cons (.int _ _) (.cons (.int _ _) .nil))
theorem dat_next {T : List (Addr × Obj)} {vals : List Value} {v : Value} {cs : List Int} {i : Nat} (hi : i < cs.length) (h : DatAll T vals ((cs.take i).map mkTok)) (h2 : DatIn T v (mkTok (cs.getD i 0))) : DatAll T (vals ++ [v]) ((cs.take (i + 1)).map mkTok) := by
  have e : cs.take (i + 1) = cs.take i ++ [cs.getD i 0] := by
    rw [List.take_succ_eq_append_getElem hi, List.getD_eq_getElem?_getD, List.getElem?_eq_getElem hi]; rfl
  rw [e, List.map_append]
  exact h.append (DatAll.one h2)
def TokJ (w : World) (nm y dy rl : Addr) (tb t1 : Tok) (b : Array UInt8) (cs os : List Int) (rs : List Value) (n2 : Nat) (n : Nat) (z : Value × Value × Value × List (Addr × Obj)) : Prop :=
  ∃ (x dx fl c5 : Addr) (us : List Value) (m : Nat) (vals : List Value) (k : Nat) (T : List (Addr × Obj)) (TT : LT) (te ta ts tst tr : Tok) (row : Int), z.2.1 = .ref x ∧ z.2.2.1 = .ref fl ∧ Apart [x, dx, c5, y, dy, rl, fl] ∧ Offs [x, dx, c5, y, dy, rl, fl] T ∧
    ((∃ (i : Nat) (tp : Addr), n + i = cs.length + 1 ∧ i < cs.length + 1 ∧ z.1 = .ref tp ∧ IntsAre us (rowAt cs (i + 1)) ∧ vals.length = i ∧ DatAll T vals (((cs ++ [13]).take i).map mkTok) ∧ DatIn T (.ref tp) (mkTok ((cs ++ [13]).getD i 0)) ∧
      z.2.2.2 = (x, instObj 395 dx) :: (dx, linesDict w TT te b tb nm ((os.length : Int) + 1) ta c5 ((i : Int) + 1) ts 1 tst row tr) :: (c5, W.listOf us.toArray m) :: (y, instObj 230 dy) :: (dy, catDict w t1 rl) :: (rl, W.listOf rs.toArray n2) :: (fl, W.listOf vals.toArray k) :: T) ∨
    (n = 0 ∧ z.1 = .none ∧ DatAll T vals ((cs ++ [13]).map mkTok) ∧ z.2.2.2 = (fl, W.listOf vals.toArray k) :: T))
@[elab_as_elim] theorem tokJ_cps {w : World} {nm y dy rl : Addr} {tb t1 : Tok} {b : Array UInt8} {cs os : List Int} {rs : List Value} {n2 n : Nat} {G : Value × Value × Value × List (Addr × Obj) → Prop} (z : Value × Value × Value × List (Addr × Obj))
    (h : TokJ w nm y dy rl tb t1 b cs os rs n2 n z)
    (k1 : ∀ (x dx fl c5 : Addr) (us : List Value) (m : Nat) (vals : List Value) (k : Nat) (T : List (Addr × Obj)) (TT : LT) (te ta ts tst tr : Tok) (row : Int) (i : Nat) (tp : Addr), Apart [x, dx, c5, y, dy, rl, fl] → Offs [x, dx, c5, y, dy, rl, fl] T →
      n + i = cs.length + 1 → i < cs.length + 1 → IntsAre us (rowAt cs (i + 1)) → vals.length = i → DatAll T vals (((cs ++ [13]).take i).map mkTok) → DatIn T (.ref tp) (mkTok ((cs ++ [13]).getD i 0)) →
      G (.ref tp, .ref x, .ref fl, (x, instObj 395 dx) :: (dx, linesDict w TT te b tb nm ((os.length : Int) + 1) ta c5 ((i : Int) + 1) ts 1 tst row tr) :: (c5, W.listOf us.toArray m) :: (y, instObj 230 dy) :: (dy, catDict w t1 rl) :: (rl, W.listOf rs.toArray n2) :: (fl, W.listOf vals.toArray k) :: T))
    (k2 : ∀ (x dx fl c5 : Addr) (vals : List Value) (k : Nat) (T : List (Addr × Obj)), Offs [x, dx, c5, y, dy, rl, fl] T → DatAll T vals ((cs ++ [13]).map mkTok) → G (.none, .ref x, .ref fl, (fl, W.listOf vals.toArray k) :: T)) : G z := by
  obtain ⟨zt, zx, zf, zl⟩ := z
  obtain ⟨x, dx, fl, c5, us, m, vals, k, T, TT, te, ta, ts, tst, tr, row, hx, hf, ap, of, ⟨i, tp, h1, h2, ht, h3, h4, h5, h6, hl⟩ | ⟨_, ht, h5, hl⟩⟩ := h
  · dsimp only at hx hf ht hl; subst hx hf ht hl; exact k1 x dx fl c5 us m vals k T TT te ta ts tst tr row i tp ap of h1 h2 h3 h4 h5 h6
  · dsimp only at hx hf ht hl; subst hx hf ht hl; exact k2 x dx fl c5 vals k T of h5
set_option maxHeartbeats 8000000 in
theorem tokens_con (w : World) (nm y dy rl : Addr) (tb t1 : Tok) (b : Array UInt8) (cs ns os : List Int) (rs : List Value) (n2 : Nat)
    (hrs : IntsAre rs catRows) (hc : CodesOk cs) (e33 : cs = ns ++ [33]) (hos : os = cs.flatMap visCodes) (ho : KBw.bInts b = os) (hl : cs.length ≤ 1000) (ap : Apart [y, dy, rl]) :
    Con w 406 [.bytes b tb, .ref nm, .ref y] 42 360 [(y, instObj 230 dy), (dy, catDict w t1 rl), (rl, W.listOf rs.toArray n2)]
      (fun v led => ∃ fl vals n T, v = .ref fl ∧ led = (fl, W.listOf vals.toArray n) :: T ∧ DatAll T vals ((cs ++ [13]).map mkTok) ∧ AllNeR fl T) := by
  intro dp un gd base h₀ outer s R p loose mean mg mb A hR
  have hb : Binds [(Str.ofString "cats", .ref y), (Str.ofString "names", .ref nm), (Str.ofString "text", .bytes b tb)] := ⟨⟩
  have hlk : LookOk (os ++ [13]) 0 ((cs ++ [13]).getD 0 0) (rowAt cs 1) := by
    have := rowAt_look cs hc 0 (Nat.zero_le _)
    rw [rowAt_zero, ← hos] at this
    exact this
  have hlo : os.length ≤ 90000 := by have := vis_length cs; rw [hos]; omega
  have hlo2 : os.length ≤ 100000 := by omega
  have hlast : os.getD (-1 + (os.length : Int)).toNat 0 = 33 := by rw [hos, e33]; exact (vis_last ns).1
  have hpos : 0 < os.length := by rw [hos, e33]; exact (vis_last ns).2
  have hn10 : ∀ k : Nat, os.getD k 0 ≠ 10 := by rw [hos]; exact vis_no10 cs hc
  have hM : (cs ++ [13]).length = cs.length + 1 := by rw [List.length_append]; rfl
  ( k_dflt (refine' Mine.con_enter (by assumption) (by assumption) ?k6_m ?k7_m ?k9_m ?kB_m ?_ ?c2_m ?c3_m ?c4_m ?c5_m; (case k6_m => k_is); (case k7_m => k_is); (case k9_m => first | exact BindsTo.of_eq rfl | exact binds_K (Frag.In.keeps (Mine.Amb.K (by assumption)) (fun b o e => Mine.Amb.keep (by assumption) b o (Below.stays (Mine.Amb.below (by assumption)) b o e))) rfl (by k_is) rfl rfl rfl); (case c5_m => decide); (case kB_m => exact locs rfl); (case c2_m => exact rfl); (case c3_m => exact rfl); (case c4_m => exact rfl)); intro L'_m h'_m tk_m F'_m N'_m l1_m X_m T_m; have B_m := Mine.Amb.below (by assumption); have XB_m := Mine.Amb.K (by assumption); have TB_m := Mine.Amb.T (by assumption); have D_m := Mine.Amb.dicts (by assumption); have hd_m := Mine.Amb.depth (by assumption); have hu_m := Mine.Amb.units (by assumption); rename Mine.Amb _ _ _ _ _ _ _ _ _ _ _ _ _ _ _ _ => hA_m; clear hA_m; rename Mine.Binds _ => hB_m; clear hB_m; (repeat ((rename Mine.Apart _ => ap'_m); refine Mine.Apart.imp ap'_m ?_; clear ap'_m; walk_at "my_facts")); (try k_lt l1_m); (try dsimp only); (try k_fold))
  k_steps
  all_goals ((try dsimp only); (try k_unfold); (try dsimp only))
  delta Halt
  apply Mine.con_makeX7 (pre := []) (fun x9 dx9 hl9 hx9 => Mine.lines_init _ x9 dx9 _ _ _ ⟨Nat.ne_of_gt hx9⟩)
  case hm => k_is
  case hi => k_is
  case hft => k_is
  ( (case B => assumption); (case F => k_asm); (case N => k_asm); (case X => assumption); (case T => assumption); (case D => assumption); (case hf => exact rfl); (case hk => exact rfl); (case hP => ((repeat (apply Mine.picks_of; focus (((repeat (first | (refine' Mine.Pick.head ?pk9; (case pk9 => k_all)) | (apply Mine.Pick.tail; focus (k_ne; done))))); done))); exact rfl)); (case hd => ((try dsimp only); first | exact Mine.room (by assumption) rfl | exact Mine.room0 (by assumption) rfl | omega)); (case hu => ((try dsimp only); first | exact Mine.room (by assumption) rfl | exact Mine.room0 (by assumption) rfl | omega)))
  k_whole
  intro x' dx' h' tk' T9' te9' ta9' cl9' ts9' tst9' tr9' ap9' F' N' hne'
  ((rename Mine.AllNeL _ _ => hn9'_m); refine Mine.AllNeL.imp hn9'_m ?_; clear hn9'_m; walk_at "my_facts")
  ((rename Mine.Apart _ => ap'_m); refine Mine.Apart.imp ap'_m ?_; clear ap'_m; walk_at "my_facts")
  ((try (rename News _ _ _ _ => n9'_m; simp only [List.cons_append, List.nil_append] at n9'_m)); (try k_sweep); (try dsimp only))
  k_steps
  all_goals ((try dsimp only); (try k_unfold); (try dsimp only))
  delta Halt
  k_dflt (refine' Mine.con_callX10 (Mine.next_first _ _ _ _ _ _ _ _ _ _ _ _ _ _ _ _ _ _ _ _ _ _ _ _ _ _ _ _ ?hi ?hrs ?hs ?hl ?ho ?hlo ?hpos ?hn ?hlast ?hlk ?ap) ?B ?F ?N ?X ?T ?D ?hf ?hk ?hP ?hd ?hu ?_)
  case ho => assumption
  case hlk => assumption
  case hi => exact .nil
  case hrs => assumption
  ( (case B => assumption); (case F => k_asm); (case N => k_asm); (case X => assumption); (case T => assumption); (case D => assumption); (case hf => exact rfl); (case hk => exact rfl); (case hP => ((repeat (apply Mine.picks_of; focus (((repeat (first | (refine' Mine.Pick.head ?pk9; (case pk9 => k_all)) | (apply Mine.Pick.tail; focus (k_ne; done))))); done))); exact rfl)); (case hd => ((try dsimp only); first | exact Mine.room (by assumption) rfl | exact Mine.room0 (by assumption) rfl | omega)); (case hu => ((try dsimp only); first | exact Mine.room (by assumption) rfl | exact Mine.room0 (by assumption) rfl | omega)))
  case hs => decide
  case hl => decide
  case hlo => assumption
  case hpos => assumption
  case hn => assumption
  case hlast => assumption
  case ap => (focus (repeat' (first | exact True.intro | assumption | refine And.intro ?_ ?_ | (refine ⟨?_⟩; k_ne))))
  k_whole
  intro h' tk' tp t2 t3 ta' ts' tst' tr' c5 us m hp9'
  have hI1 := And.left hp9'
  have ap1 := And.right hp9'
  clear hp9'
  intro F' N' hne'
  ((rename Mine.AllNeL _ _ => hn9'_m); refine Mine.AllNeL.imp hn9'_m ?_; clear hn9'_m; walk_at "my_facts")
  ((rename Mine.Apart _ => ap'_m); refine Mine.Apart.imp ap'_m ?_; clear ap'_m; walk_at "my_facts")
  try simp only [List.cons_append, List.nil_append] at N'
  try k_sweep
  try dsimp only
  k_steps
  all_goals ((try dsimp only); (try k_unfold); (try dsimp only))
  rename Fr _ _ _ _ => F1
  rename News _ _ _ _ => N1
  delta Halt
  refine' while_gen (σ := Value × Value × Value × List (Addr × Obj)) (fun z => z.2.2.2) (fun z => [(Str.ofString "token", z.1), (Str.ofString "lines", z.2.1), (Str.ofString "found", z.2.2.1), (Str.ofString "cats", .ref y), (Str.ofString "names", .ref nm)])
    (TokJ w nm y dy rl tb t1 b cs os rs n2) (.ref tp, _, _, _) (cs.length + 1) F1 (news_sub N1 ?gs) (Loc.cons rfl (Loc.cons rfl (Loc.cons rfl (loc2 rfl rfl))))
    ⟨_, _, _, _, us, _, [], _, [(tp, _)], _, _, _, _, _, _, _, rfl, rfl, ?ga, ?go, .inl ⟨0, tp, rfl, by omega, rfl, hI1, rfl, .nil, mkTok_in, rfl⟩⟩ ?_
  case gs => ((repeat (refine List.forall_mem_cons.mpr ⟨by k_mem, ?_⟩)); exact List.forall_mem_nil _)
  case ga => (focus (repeat' (first | exact True.intro | assumption | refine And.intro ?_ ?_ | (refine ⟨?_⟩; k_ne))))
  case go => (focus (repeat' (first | exact True.intro | assumption | refine And.intro ?_ ?_ | (refine ⟨?_⟩; k_ne))))
  intro n' z u h tk hJ
  clear F1 N1
  refine tokJ_cps z hJ ?k1 ?k2
  all_goals clear hJ
  · intro x dx fl c5' us' m' vals k T TT te ta ts tst tr row i tp' apJ offJ hni hi hI9 hv9 hD9 hT9 F4 N4
    dsimp only at F4 N4
    try k_fold
    ((rename Mine.Apart _ => ap'_m); refine Mine.Apart.imp ap'_m ?_; clear ap'_m; walk_at "my_facts")
    ((rename Mine.Offs _ _ => ap'_m); refine Mine.Offs.imp ap'_m ?_; clear ap'_m; walk_at "my_facts")
    k_steps
    all_goals ((try dsimp only); (try k_unfold); (try dsimp only))
    rename Fr _ _ _ _ => F5
    rename News _ _ _ _ => N5
    simp only [List.push_toArray] at N5
    have hi2 : i < (cs ++ [13]).length := by omega
    have hD8 := dat_next hi2 hD9 hT9
    have hrl : (rowAt cs (i + 1)).length ≤ 100000 := by have := rowAt_length cs (i + 1); omega
    delta Halt
    by_cases hnx : i + 1 < cs.length + 1
    · have hlk2 : LookOk (rowAt cs (i + 1)) ((i : Int) + 1) ((cs ++ [13]).getD (i + 1) 0) (rowAt cs (i + 1 + 1)) := rowAt_look cs hc (i + 1) (by omega)
      k_dflt (refine' Mine.con_callX8 (Mine.next_step _ _ _ _ _ _ _ _ _ _ _ _ _ _ _ _ _ _ _ _ _ _ _ _ _ _ _ _ ?hi ?hrs ?h0 ?hl ?ho ?ap) ?B ?F ?N ?X ?T ?D ?hf ?hk ?hP ?hd ?hu ?_)
      case ho => exact hlk2
      case hi => assumption
      case hrs => assumption
      ( (case B => assumption); (case F => k_asm); (case N => k_asm); (case X => assumption); (case T => assumption); (case D => assumption); (case hf => exact rfl); (case hk => exact rfl); (case hP => ((repeat (apply Mine.picks_of; focus (((repeat (first | (refine' Mine.Pick.head ?pk9; (case pk9 => k_all)) | (apply Mine.Pick.tail; focus (k_ne; done))))); done))); exact rfl)); (case hd => ((try dsimp only); first | exact Mine.room (by assumption) rfl | exact Mine.room0 (by assumption) rfl | omega)); (case hu => ((try dsimp only); first | exact Mine.room (by assumption) rfl | exact Mine.room0 (by assumption) rfl | omega)))
      case h0 => omega
      case hl => assumption
      case ap => (focus (repeat' (first | exact True.intro | assumption | refine And.intro ?_ ?_ | (refine ⟨?_⟩; k_ne))))
      k_whole
      intro h' tk' tp2 t22 t32 ts2 tst2 c52 us2 m2 hp9'
      have hI2 := And.left hp9'
      have ap2 := And.right hp9'
      clear hp9'
      intro F' N' hne'
      clear F5 N5
      ((rename Mine.AllNeL _ _ => hn9'_m); refine Mine.AllNeL.imp hn9'_m ?_; clear hn9'_m; walk_at "my_facts")
      ((rename Mine.Apart _ => ap'_m); refine Mine.Apart.imp ap'_m ?_; clear ap'_m; walk_at "my_facts")
      try simp only [List.cons_append, List.nil_append] at N'
      try k_sweep
      try dsimp only
      k_steps
      all_goals ((try dsimp only); (try k_unfold); (try dsimp only))
      rename News _ _ _ _ => N6
      refine' turn_endW (.ref tp2, .ref x, .ref fl, _) (n' - 1) (by omega) (by assumption) N6 ?gs (Loc.cons rfl (Loc.cons rfl (Loc.cons rfl (loc2 rfl rfl))))
        ⟨x, dx, fl, c52, us2, m2, _, _, (tp2, _) :: T, TT, te, ta, ts2, tst2, tr, row, rfl, rfl, ?ga, ?go, .inl ⟨i + 1, tp2, by omega, hnx, rfl, hI2, by rw [List.length_append, hv9]; rfl, hD8.mono (fun _ h => .tail _ h), mkTok_in, rfl⟩⟩
      case gs =>
        dsimp only
        repeat' refine List.forall_mem_cons.mpr ⟨by k_mem, ?_⟩
        exact fun q hq => by repeat (first | exact hq | refine List.mem_cons_of_mem _ ?_)
      case ga => (focus (repeat' (first | exact True.intro | assumption | refine And.intro ?_ ?_ | (refine ⟨?_⟩; k_ne))))
      case go => (focus (repeat' (first | exact True.intro | assumption | refine And.intro ?_ ?_ | (refine ⟨?_⟩; k_ne))))
    · have hie : i = cs.length := by omega
      subst hie
      have hat : (os.length : Int) ≤ (os.length : Int) + 1 := by omega
      have hsp : ((rowAt cs (cs.length + 1)).length : Int) ≤ (cs.length : Int) + 1 := by rw [rowAt_end]; omega
      k_dflt (refine' Mine.con_callE (Mine.next_last _ _ _ _ _ _ _ _ _ _ _ _ _ _ _ _ _ _ _ _ _ _ _ _ _ _ _ ?hi ?hrs ?hs ?hl ?ho ?hlo ?hat ?ap) ?B ?F ?N ?X ?T ?D ?hf ?hk ?hP ?hd ?hu ?_)
      case ho => assumption
      case hi => assumption
      case hrs => assumption
      ( (case B => assumption); (case F => k_asm); (case N => k_asm); (case X => assumption); (case T => assumption); (case D => assumption); (case hf => exact rfl); (case hk => exact rfl); (case hP => ((repeat (apply Mine.picks_of; focus (((repeat (first | (refine' Mine.Pick.head ?pk9; (case pk9 => k_all)) | (apply Mine.Pick.tail; focus (k_ne; done))))); done))); exact rfl)); (case hd => ((try dsimp only); first | exact Mine.room (by assumption) rfl | exact Mine.room0 (by assumption) rfl | omega)); (case hu => ((try dsimp only); first | exact Mine.room (by assumption) rfl | exact Mine.room0 (by assumption) rfl | omega)))
      case hs => assumption
      case hl => assumption
      case hlo => assumption
      case hat => assumption
      case ap => (focus (repeat' (first | exact True.intro | assumption | refine And.intro ?_ ?_ | (refine ⟨?_⟩; k_ne))))
      k_whole
      intro h' tk' F' N'
      clear F5 N5
      try simp only [List.cons_append, List.nil_append] at N'
      try k_sweep
      try dsimp only
      k_steps
      all_goals ((try dsimp only); (try k_unfold); (try dsimp only))
      rename News _ _ _ _ => N6
      have hDe : DatAll T (vals ++ [.ref tp']) ((cs ++ [13]).map mkTok) := by
        rw [show cs.length + 1 = (cs ++ [13]).length from hM.symm, List.take_length] at hD8; exact hD8
      refine' turn_endW (.none, .ref x, .ref fl, _) 0 (by omega) (by assumption) N6 ?gs (Loc.cons rfl (Loc.cons rfl (Loc.cons rfl (loc2 rfl rfl))))
        ⟨x, dx, fl, c5', us', m', _, _, T, TT, te, ta, ts, tst, tr, row, rfl, rfl, ?ga, ?go, .inr ⟨rfl, rfl, hDe, rfl⟩⟩
      case gs =>
        dsimp only
        refine List.forall_mem_cons.mpr ⟨by k_mem, fun q hq => ?_⟩
        repeat (first | exact hq | refine List.mem_cons_of_mem _ ?_)
      case ga => (focus (repeat' (first | exact True.intro | assumption | refine And.intro ?_ ?_ | (refine ⟨?_⟩; k_ne))))
      case go => (focus (repeat' (first | exact True.intro | assumption | refine And.intro ?_ ?_ | (refine ⟨?_⟩; k_ne))))
  · intro x dx fl c5' vals k T offJ hD9 F4 N4
    dsimp only at F4 N4
    try k_fold
    k_steps
    all_goals ((try dsimp only); (try k_unfold); (try dsimp only))
    exact con_end hR (by assumption) (by assumption) (fun _ h => h) ⟨fl, vals, k, T, rfl, rfl, hD9, offJ.2.2.2.2.2.2.1⟩
end Mine
end
section
namespace Mine
theorem lat_of {y : Str} {cs : List Int} (h : ords y = cs) (hc : ∀ c ∈ cs, c ≤ 255) : Lat y := fun i c hi => by
  have hm : (c : Int) ∈ cs := by
    rw [← h]; unfold ords
    exact List.mem_map.mpr ⟨c, Array.mem_toList_iff.mpr (Array.mem_of_getElem? hi), rfl⟩
  have := hc _ hm
  omega
def ChrJ (cs : List Int) (i : Nat) (ys : List Value) : Prop := ∃ ss : List Str, StrsAre ys ss ∧ ss.flatMap ords = cs.take i ∧ (∀ a ∈ ss, (ords a).length ≤ 4) ∧ ss.length = i
theorem chr_step {cs : List Int} {i : Nat} {c : Int} {t : Tok} {vs : List Value} (hc : cs[i]? = some c) (c0 : 0 ≤ c) (h : ChrJ cs i vs) : ChrJ cs (i + 1) (vs ++ [.str ⟨#[c.toNat]⟩ t]) := by
  obtain ⟨ss, hS, hV, hL, hi⟩ := h
  refine ⟨ss ++ [⟨#[c.toNat]⟩], strsAre_snoc hS, ?_, ?_, by simp [hi]⟩
  · rw [List.take_add_one, hc, List.flatMap_append, hV]
    have : ords ⟨#[c.toNat]⟩ = [c] := by rw [ords_one, Int.toNat_of_nonneg c0]
    simp [this]
  · intro a ha
    rcases List.mem_append.mp ha with ha | ha
    · exact hL a ha
    · rw [List.mem_singleton.mp ha, ords_one]; exact Nat.le_of_ble_eq_true rfl
theorem chr_end {cs : List Int} {vs ys : List Value} (hi : IntsAre vs cs) (h : ChrJ cs vs.toArray.size ys) : ∃ ss : List Str, StrsAre ys ss ∧ ss.flatMap ords = cs ∧ (∀ a ∈ ss, (ords a).length ≤ 4) ∧ ss.length = cs.length := by
  obtain ⟨ss, hS, hV, hL, hs⟩ := h
  rw [List.size_toArray, hi.length] at hV hs
  rw [List.take_length] at hV
  exact ⟨ss, hS, hV, hL, hs⟩
theorem ords_step' {x : Str} {os : List Int} {i c : Nat} {t : Tok} {ys : List Value} (hx : ords x = os) (h : x.cps[i]? = some c) (hI : IntsAre ys (os.take i)) : IntsAre (ys ++ [.int (c : Int) t]) (os.take (i + 1)) := by
  subst hx; exact ords_step h hI
theorem ords_all' {x : Str} {os : List Int} (hx : ords x = os) : os.take x.cps.size = os := by subst hx; exact ords_all
theorem filt_step {p : Int → Bool} {f : Int → Int} {cs : List Int} {i : Nat} {c : Int} (h : cs[i]? = some c) : ((cs.take (i + 1)).filter p).map f = ((cs.take i).filter p).map f ++ if p c then [f c] else [] := by
  rw [List.take_add_one, h, List.filter_append, List.map_append]
  cases hp : p c <;> simp [hp]
theorem filt_yes {p : Int → Bool} {f : Int → Int} {cs : List Int} {i : Nat} {c d : Int} {t : Tok} {ys : List Value} (h : cs[i]? = some c) (hp : p c = true) (hd : d = f c) (hI : IntsAre ys (((cs.take i).filter p).map f)) : IntsAre (ys ++ [.int d t]) (((cs.take (i + 1)).filter p).map f) := by
  rw [filt_step h, hp, hd]; exact intsAre_append hI (.cons _ _ .nil)
theorem filt_no {p : Int → Bool} {f : Int → Int} {cs : List Int} {i : Nat} {c : Int} {ys : List Value} (h : cs[i]? = some c) (hp : p c = false) (hI : IntsAre ys (((cs.take i).filter p).map f)) : IntsAre ys (((cs.take (i + 1)).filter p).map f) := by
  rw [filt_step h, hp]; simpa using hI
def plainB (c : Int) : Bool := decide (32 ≤ c ∧ c ≤ 126)
theorem vis_count : ∀ cs : List Int, ((cs.flatMap visCodes).length : Int) = (((cs.filter plainB).map id).length : Int) + ((cs.filter (fun c => !plainB c)).map fun c => if c < 128 then (3 : Int) else 4).sum
  | [] => rfl
  | c :: r => by
    have ih := vis_count r
    rw [List.flatMap_cons, List.length_append]
    by_cases h : 32 ≤ c ∧ c ≤ 126
    · have hp : plainB c = true := decide_eq_true h
      have hv : (visCodes c).length = 1 := by unfold visCodes; rw [if_pos h]; rfl
      simp only [List.filter_cons, hp, if_true, Bool.not_true, Bool.false_eq_true, if_false, List.map_cons, List.length_cons]
      rw [hv]; omega
    · have hp : plainB c = false := decide_eq_false h
      have hv : ((visCodes c).length : Int) = if c < 128 then 3 else 4 := by
        unfold visCodes; rw [if_neg h]; split <;> rfl
      simp only [List.filter_cons, hp, if_true, Bool.not_false, Bool.false_eq_true, if_false, List.map_cons, List.sum_cons]
      omega
theorem cat_at {i : Nat} (h : i < 256) : catRows[i]? = some (if i = 94 then 7 else 12) := by
  unfold catRows
  rw [List.getElem?_map, List.getElem?_range h]; rfl
theorem cat_step {i : Nat} {c : Int} {t : Tok} {ys : List Value} (h : i < 256) (hc : c = if i = 94 then 7 else 12) (hI : IntsAre ys (catRows.take i)) : IntsAre (ys ++ [.int c t]) (catRows.take (i + 1)) := by
  rw [List.take_add_one, cat_at h, ← hc]
  exact intsAre_append hI (.cons _ _ .nil)
theorem cat_all : catRows.take 256 = catRows := List.take_of_length_le (by rw [catRows_length]; exact Nat.le_refl _)
theorem size_of {y : Str} {cs : List Int} (h : ords y = cs) {k : Nat} (hl : cs.length ≤ k) : y.cps.size ≤ k := by rw [← ords_length, h]; exact hl
end Mine
end

section
local macro_rules | `(tactic| walk_at "compareOp Eq ref ref") => `(tactic| (k_here; (with_reducible show wpAny _ _ (compareOp CmpOp.Eq (Value.ref _) (Value.ref _)) _ _ _); refine Mine.Halt.out ?_))
namespace Mine
set_option maxHeartbeats 2000000 in
theorem visright_con (w : World) (cl : Addr) (tb t1 : Tok) (cs ns : List Int) (vs : List Value) (n : Nat)
    (hi : IntsAre vs cs) (hc : CodesOk cs) (e33 : cs = ns ++ [33]) (hl : cs.length ≤ 1000) :
    Con w 439 [.ref cl] 60 500 [(cl, W.listOf vs.toArray n)] (fun v led => v = .bool true ∧ led = []) := by
  intro dp un gd base h₀ outer s R p loose mean mg mb A hR
  have hb : Binds [(Str.ofString "codes", .ref cl)] := ⟨⟩
  ( k_dflt (refine' Mine.con_enter (by assumption) (by assumption) ?k6_m ?k7_m ?k9_m ?kB_m ?_ ?c2_m ?c3_m ?c4_m ?c5_m; (case k6_m => k_is); (case k7_m => k_is); (case k9_m => first | exact BindsTo.of_eq rfl | exact binds_K (Frag.In.keeps (Mine.Amb.K (by assumption)) (fun b o e => Mine.Amb.keep (by assumption) b o (Below.stays (Mine.Amb.below (by assumption)) b o e))) rfl (by k_is) rfl rfl rfl); (case c5_m => decide); (case kB_m => exact locs rfl); (case c2_m => exact rfl); (case c3_m => exact rfl); (case c4_m => exact rfl)); intro L'_m h'_m tk_m F'_m N'_m l1_m X_m T_m; have B_m := Mine.Amb.below (by assumption); have XB_m := Mine.Amb.K (by assumption); have TB_m := Mine.Amb.T (by assumption); have D_m := Mine.Amb.dicts (by assumption); have hd_m := Mine.Amb.depth (by assumption); have hu_m := Mine.Amb.units (by assumption); rename Mine.Amb _ _ _ _ _ _ _ _ _ _ _ _ _ _ _ _ => hA_m; clear hA_m; rename Mine.Binds _ => hB_m; clear hB_m; (repeat ((rename Mine.Apart _ => ap'_m); refine Mine.Apart.imp ap'_m ?_; clear ap'_m; walk_at "my_facts")); (try k_lt l1_m); (try dsimp only); (try k_fold))
  k_steps
  all_goals (repeat' (first | (delta Mine.Halt; (k_here; (with_reducible show wpAny _ _ (eval (Expr.ListComp _ [⟨Expr.Name _ _, _, _, _⟩] _ _) _) _ _ _); k_dflt (first | ((with_reducible show wpAny _ _ (eval (Expr.ListComp _ [⟨Expr.Name ("mark" : Str) _, _, _, _⟩] _ _) _) _ _ _); refine Mine.ListComp_S (F₀ := by k_asm) (by with_unfolding_all rfl) (by decide) (by rfl) (by decide) (by rfl) ?_) | ((with_reducible show wpAny _ _ (eval (Expr.ListComp _ [⟨Expr.Name ("code" : Str) _, _, [], _⟩] _ _) _) _ _ _); refine LCg.ListComp_U (F₀ := by k_asm) (by with_unfolding_all rfl) (by decide) (by rfl) (by decide) (by rfl) ?_) | ((with_reducible show wpAny _ _ (eval (Expr.ListComp _ [⟨Expr.Name ("code" : Str) _, _, [_], _⟩] _ _) _) _ _ _); refine LCt.ListComp_T (F₀ := by k_asm) (by with_unfolding_all rfl) (by decide) (by rfl) (by decide) (by rfl) ?_) | ((with_reducible show wpAny _ _ (eval (Expr.ListComp _ [⟨Expr.Name ("row" : Str) _, _, _, _⟩] _ _) _) _ _ _); refine LCt.ListComp_T (F₀ := by k_asm) (by with_unfolding_all rfl) (by decide) (by rfl) (by decide) (by rfl) ?_) | ((with_reducible show wpAny _ _ (eval (Expr.ListComp _ [⟨Expr.Name ("place" : Str) _, _, _, _⟩] _ _) _) _ _ _); refine LCt.ListComp_T (F₀ := by k_asm) (by with_unfolding_all rfl) (by decide) (by rfl) (by decide) (by rfl) ?_))); k_steps)))
  all_goals ((try dsimp only); (try k_unfold); (try dsimp only))
  rename Fr _ _ _ _ => F1
  rename News _ _ _ _ => N1
  delta Halt
  refine LCg.CompSrc.ledger rfl F1 N1 (.head _) (by rw [sizeLine_eq, List.size_toArray, hi.length]; omega) fun g => ?_
  refine comp_restKX (fun i v hv => (IntsAre.at hi i v (by simpa using hv))) (fun i ys => ChrJ cs i ys) ⟨[], .nil, rfl, fun _ h => (nomatch h), rfl⟩ ?_ ?_
  · intro i c t ys I oI C oC D m₂ h tk E' hi9 hcc hJ hC hx9 F2 N2 off ne
    have hc1 := (hc c (List.mem_of_getElem? hcc)).1
    have hc2 := (hc c (List.mem_of_getElem? hcc)).2.1
    have hc3 := (hc c (List.mem_of_getElem? hcc)).2.2
    clear F1 N1
    (((rename LCg.Off3 _ _ _ _ => off'_m); refine Mine.off3_imp off'_m ?_; clear off'_m; walk_at "my_facts"); (rename _ ∧ _ ∧ _ => ne'_m); (have nf1'_m := Mine.NeA.mk (And.left ne'_m)); (have nf2'_m := Mine.NeA.mk (And.left (And.right ne'_m))); (have nf3'_m := Mine.NeA.mk (And.right (And.right ne'_m))); (clear ne'_m); (try dsimp only))
    k_steps
    all_goals ((try dsimp only); (try k_unfold); (try dsimp only))
    exact chr_step hcc hc1 hJ
  · intro ys hJ
    have hCH := chr_end hi hJ
    have hS := hCH.choose_spec.1
    have hV := hCH.choose_spec.2.1
    have hL := hCH.choose_spec.2.2.1
    have hs := hCH.choose_spec.2.2.2
    have hCC : ∀ c ∈ hCH.choose.flatMap ords, c ≤ 255 := by rw [hV]; exact fun c h => (hc c h).2.1
    have hSZ : (hCH.choose.flatMap ords).length ≤ 10000 := by rw [hV]; omega
    clear F1 N1
    k_steps
    all_goals (repeat' (first | (delta Mine.Halt; (k_here; (with_reducible show wpAny _ _ (call (Value.ref 303) [Value.str _ _]) _ _ _); k_dflt ( apply Mine.con_callY2 (Mine.visible_con _ _ _ ?hx_m ?hz_m); ( (case B => assumption); (case F => k_asm); (case N => k_asm); (case X => assumption); (case T => assumption); (case D => assumption); (case hf => exact rfl); (case hk => exact rfl); (case hP => ((repeat (apply Mine.picks_of; focus (((repeat (first | (refine' Mine.Pick.head ?pk9; (case pk9 => k_all)) | (apply Mine.Pick.tail; focus (k_ne; done))))); done))); exact rfl)); (case hd => ((try dsimp only); first | exact Mine.room (by assumption) rfl | exact Mine.room0 (by assumption) rfl | omega)); (case hu => ((try dsimp only); first | exact Mine.room (by assumption) rfl | exact Mine.room0 (by assumption) rfl | omega))); (case hx_m => first | assumption | exact Mine.lat_of (by assumption) (by assumption)); (case hz_m => first | assumption | exact Mine.size_of (by assumption) (by assumption)); k_whole; intro h'_m tk'_m y9'_m u9'_m hy9'_m F'_m N'_m; ((try (rename News _ _ _ _ => n9'_m; simp only [List.cons_append, List.nil_append] at n9'_m)); (try k_sweep); (try dsimp only)))); k_steps) | ((k_here; (with_reducible show wpAny _ _ (call (Value.builtin "str.join") [Value.str _ _, Value.ref _]) _ _ _); k_dflt (refine' Mine.join_strs ?l_m ?s_m ?b_m ?n_m ?_; (case l_m => exact News.isList (by k_asm) (by k_mem)); (case s_m => assumption); (case b_m => assumption); (case n_m => omega)); intro y'_m t'_m k'_m hy'_m); k_steps) | (delta Mine.Halt; (k_here; (with_reducible show wpAny _ _ (exec (Stmt.Assign [Expr.Name _ _] (Expr.ListComp _ [⟨Expr.Name _ _, _, _, _⟩] _ _) _) _) _ _ _); k_dflt (first | ((with_reducible show wpAny _ _ (exec (Stmt.Assign [Expr.Name _ _] (Expr.ListComp _ [⟨Expr.Name ("mark" : Str) _, _, _, _⟩] _ _) _) _) _ _ _); refine Mine.Assign_ListComp_S (F₀ := by k_asm) (by rfl) (by with_unfolding_all rfl) (by with_unfolding_all rfl) (by decide) (by rfl) (by decide) (by rfl) (by rfl) (by rfl) ?_) | ((with_reducible show wpAny _ _ (exec (Stmt.Assign [Expr.Name _ _] (Expr.ListComp _ [⟨Expr.Name ("code" : Str) _, _, _, _⟩] _ _) _) _) _ _ _); refine LCt.Assign_ListComp_T (F₀ := by k_asm) (by rfl) (by with_unfolding_all rfl) (by with_unfolding_all rfl) (by decide) (by rfl) (by decide) (by rfl) (by rfl) (by rfl) ?_))); k_steps)))
    all_goals ((try dsimp only); (try k_unfold); (try dsimp only))
    rename Fr _ _ _ _ => F3
    rename News _ _ _ _ => N3
    rename ords _ = List.flatMap visCodes _ => hy
    rename ords _ = List.flatMap ords hCH.choose => hy0
    obtain ⟨os, hos⟩ : ∃ os, os = cs.flatMap visCodes := ⟨_, rfl⟩
    rw [hy0, hV, ← hos] at hy
    have hsz := size_of (k := 4000) hy (by have := vis_length cs; rw [hos]; omega)
    have hsz2 : os.length ≤ 4000 := by have := vis_length cs; rw [hos]; omega
    have hvr : ∀ e ∈ os, 32 ≤ e ∧ e ≤ 126 := by
      rw [hos]; intro e he
      obtain ⟨c, h1, h2⟩ := List.mem_flatMap.mp he
      exact vis_range (hc c h1) e h2
    delta Halt
    refine ⟨_, _, _, rfl, rfl, F3, news_sub (pre := [(cl, W.listOf vs.toArray n)]) N3 (by ((repeat (refine List.forall_mem_cons.mpr ⟨by k_mem, ?_⟩)); exact List.forall_mem_nil _)), (by rw [sizeLine_eq]; omega), fun g => ?_⟩
    refine comp_restKX (fun i v ⟨c, u, e1, e2⟩ => ⟨c, u, e2, e1⟩) (fun i ys => IntsAre ys (os.take i)) .nil ?_ ?_
    · intro i c u ys I oI C oC D m₂ h tk E' hi9 hcc hI hC hx9 F2 N2 off ne
      clear F3 N3
      (((rename LCg.Off3 _ _ _ _ => off'_m); refine Mine.off3_imp off'_m ?_; clear off'_m; walk_at "my_facts"); (rename _ ∧ _ ∧ _ => ne'_m); (have nf1'_m := Mine.NeA.mk (And.left ne'_m)); (have nf2'_m := Mine.NeA.mk (And.left (And.right ne'_m))); (have nf3'_m := Mine.NeA.mk (And.right (And.right ne'_m))); (clear ne'_m); (try dsimp only))
      k_steps
      all_goals ((try dsimp only); (try k_unfold); (try dsimp only))
      exact ords_step' hy hcc hI
    · intro ys hI
      clear F3 N3
      rw [ords_all' hy] at hI
      have hpos : 0 < os.length := by rw [hos, e33]; exact (vis_last ns).2
      k_steps
      all_goals (repeat' (first | (delta Mine.Halt; (k_here; (with_reducible show wpAny _ _ (exec (Stmt.Assign [Expr.Name _ _] (Expr.ListComp _ [⟨Expr.Name _ _, _, _, _⟩] _ _) _) _) _ _ _); k_dflt (first | ((with_reducible show wpAny _ _ (exec (Stmt.Assign [Expr.Name _ _] (Expr.ListComp _ [⟨Expr.Name ("mark" : Str) _, _, _, _⟩] _ _) _) _) _ _ _); refine Mine.Assign_ListComp_S (F₀ := by k_asm) (by rfl) (by with_unfolding_all rfl) (by with_unfolding_all rfl) (by decide) (by rfl) (by decide) (by rfl) (by rfl) (by rfl) ?_) | ((with_reducible show wpAny _ _ (exec (Stmt.Assign [Expr.Name _ _] (Expr.ListComp _ [⟨Expr.Name ("code" : Str) _, _, _, _⟩] _ _) _) _) _ _ _); refine LCt.Assign_ListComp_T (F₀ := by k_asm) (by rfl) (by with_unfolding_all rfl) (by with_unfolding_all rfl) (by decide) (by rfl) (by decide) (by rfl) (by rfl) (by rfl) ?_))); k_steps)))
      all_goals ((try dsimp only); (try k_unfold); (try dsimp only))
      · exfalso
        rename _ ∈ os => hm
        have := hvr _ hm
        omega
      · exfalso
        rename _ ∈ os => hm
        have := hvr _ hm
        omega
      rename Fr _ _ _ _ => F4
      rename News _ _ _ _ => N4
      obtain ⟨D, rfl⟩ : ∃ D, D = D' := ⟨_, rfl⟩
      delta Halt
      refine LCt.CompSrcT.ledger rfl F4 N4 (.tail _ (.head _)) (by rw [sizeLine_eq, List.size_toArray, hi.length]; omega) fun g => ?_
      refine comp_restTKX (fun i v hv => (IntsAre.at hi i v (by simpa using hv))) (fun i ys2 => IntsAre ys2 (((cs.take i).filter plainB).map id)) .nil ?_ ?_
      · intro i c t ys2 I oI C oC D m₂ h tk E' hi9 hcc hJ hC hx9 F2 N2 off ne
        clear F4 N4
        (((rename LCg.Off3 _ _ _ _ => off'_m); refine Mine.off3_imp off'_m ?_; clear off'_m; walk_at "my_facts"); (rename _ ∧ _ ∧ _ => ne'_m); (have nf1'_m := Mine.NeA.mk (And.left ne'_m)); (have nf2'_m := Mine.NeA.mk (And.left (And.right ne'_m))); (have nf3'_m := Mine.NeA.mk (And.right (And.right ne'_m))); (clear ne'_m); (try dsimp only))
        k_steps
        all_goals ((try dsimp only); (try k_unfold); (try dsimp only))
        · exact filt_yes hcc (decide_eq_true ⟨by assumption, by assumption⟩) rfl hJ
        · exact filt_no hcc (decide_eq_false (by omega)) hJ
        · exact filt_no hcc (decide_eq_false (by omega)) hJ
      · intro ys2 hJ
        rw [List.size_toArray, hi.length, List.take_length] at hJ
        obtain ⟨pl, hpl⟩ : ∃ pl, pl = (cs.filter plainB).map id := ⟨_, rfl⟩
        rw [← hpl] at hJ
        have hpl2 : pl.length ≤ 1000 := by
          rw [hpl, List.length_map]
          exact Nat.le_trans (List.length_filter_le _ _) hl
        clear F4 N4
        k_steps
        all_goals (repeat' (first | (delta Mine.Halt; (k_here; (with_reducible show wpAny _ _ (eval (Expr.ListComp _ [⟨Expr.Name _ _, _, _, _⟩] _ _) _) _ _ _); k_dflt (first | ((with_reducible show wpAny _ _ (eval (Expr.ListComp _ [⟨Expr.Name ("mark" : Str) _, _, _, _⟩] _ _) _) _ _ _); refine Mine.ListComp_S (F₀ := by k_asm) (by with_unfolding_all rfl) (by decide) (by rfl) (by decide) (by rfl) ?_) | ((with_reducible show wpAny _ _ (eval (Expr.ListComp _ [⟨Expr.Name ("code" : Str) _, _, [], _⟩] _ _) _) _ _ _); refine LCg.ListComp_U (F₀ := by k_asm) (by with_unfolding_all rfl) (by decide) (by rfl) (by decide) (by rfl) ?_) | ((with_reducible show wpAny _ _ (eval (Expr.ListComp _ [⟨Expr.Name ("code" : Str) _, _, [_], _⟩] _ _) _) _ _ _); refine LCt.ListComp_T (F₀ := by k_asm) (by with_unfolding_all rfl) (by decide) (by rfl) (by decide) (by rfl) ?_) | ((with_reducible show wpAny _ _ (eval (Expr.ListComp _ [⟨Expr.Name ("row" : Str) _, _, _, _⟩] _ _) _) _ _ _); refine LCt.ListComp_T (F₀ := by k_asm) (by with_unfolding_all rfl) (by decide) (by rfl) (by decide) (by rfl) ?_) | ((with_reducible show wpAny _ _ (eval (Expr.ListComp _ [⟨Expr.Name ("place" : Str) _, _, _, _⟩] _ _) _) _ _ _); refine LCt.ListComp_T (F₀ := by k_asm) (by with_unfolding_all rfl) (by decide) (by rfl) (by decide) (by rfl) ?_))); k_steps)))
        all_goals ((try dsimp only); (try k_unfold); (try dsimp only))
        rename Fr _ _ _ _ => F5
        rename News _ _ _ _ => N5
        obtain ⟨P, rfl⟩ : ∃ P, P = D' := ⟨_, rfl⟩
        delta Halt
        refine LCt.CompSrcT.ledger rfl F5 N5 (.tail _ (.tail _ (.head _))) (by rw [sizeLine_eq, List.size_toArray, hi.length]; omega) fun g => ?_
        refine comp_restTKX (fun i v hv => (IntsAre.at hi i v (by simpa using hv))) (fun i ys3 => IntsAre ys3 (((cs.take i).filter (fun c => !plainB c)).map fun c => if c < 128 then (3 : Int) else 4)) .nil ?_ ?_
        · intro i c t ys3 I oI C oC D m₂ h tk E' hi9 hcc hJ hC hx9 F2 N2 off ne
          clear F5 N5
          (((rename LCg.Off3 _ _ _ _ => off'_m); refine Mine.off3_imp off'_m ?_; clear off'_m; walk_at "my_facts"); (rename _ ∧ _ ∧ _ => ne'_m); (have nf1'_m := Mine.NeA.mk (And.left ne'_m)); (have nf2'_m := Mine.NeA.mk (And.left (And.right ne'_m))); (have nf3'_m := Mine.NeA.mk (And.right (And.right ne'_m))); (clear ne'_m); (try dsimp only))
          k_steps
          all_goals ((try dsimp only); (try k_unfold); (try dsimp only))
          · exact filt_yes (p := fun c => !plainB c) (f := fun c => if c < 128 then (3 : Int) else 4) hcc (by rw [show plainB c = false from decide_eq_false (by omega)]; rfl) (if_pos (by omega)).symm hJ
          · exact filt_yes (p := fun c => !plainB c) (f := fun c => if c < 128 then (3 : Int) else 4) hcc (by rw [show plainB c = false from decide_eq_false (by omega)]; rfl) (if_pos (by omega)).symm hJ
          · exact filt_yes (p := fun c => !plainB c) (f := fun c => if c < 128 then (3 : Int) else 4) hcc (by rw [show plainB c = false from decide_eq_false (by omega)]; rfl) (if_neg (by omega)).symm hJ
          · exact filt_no (p := fun c => !plainB c) hcc (by rw [show plainB c = true from decide_eq_true (by omega)]; rfl) hJ
        · intro ys3 hJ3
          rw [List.size_toArray, hi.length, List.take_length] at hJ3
          obtain ⟨ql, hql⟩ : ∃ ql, ql = (cs.filter (fun c => !plainB c)).map fun c => if c < 128 then (3 : Int) else 4 := ⟨_, rfl⟩
          rw [← hql] at hJ3
          have hql2 : ql.length ≤ 1000 := by
            rw [hql, List.length_map]
            exact Nat.le_trans (List.length_filter_le _ _) hl
          clear F5 N5
          k_steps
          all_goals (repeat' (first | (delta Mine.Halt; (k_here; (with_reducible show wpAny _ _ (eval (Expr.ListComp _ [⟨Expr.Name _ _, _, _, _⟩] _ _) _) _ _ _); k_dflt (first | ((with_reducible show wpAny _ _ (eval (Expr.ListComp _ [⟨Expr.Name ("mark" : Str) _, _, _, _⟩] _ _) _) _ _ _); refine Mine.ListComp_S (F₀ := by k_asm) (by with_unfolding_all rfl) (by decide) (by rfl) (by decide) (by rfl) ?_) | ((with_reducible show wpAny _ _ (eval (Expr.ListComp _ [⟨Expr.Name ("code" : Str) _, _, [], _⟩] _ _) _) _ _ _); refine LCg.ListComp_U (F₀ := by k_asm) (by with_unfolding_all rfl) (by decide) (by rfl) (by decide) (by rfl) ?_) | ((with_reducible show wpAny _ _ (eval (Expr.ListComp _ [⟨Expr.Name ("code" : Str) _, _, [_], _⟩] _ _) _) _ _ _); refine LCt.ListComp_T (F₀ := by k_asm) (by with_unfolding_all rfl) (by decide) (by rfl) (by decide) (by rfl) ?_) | ((with_reducible show wpAny _ _ (eval (Expr.ListComp _ [⟨Expr.Name ("row" : Str) _, _, _, _⟩] _ _) _) _ _ _); refine LCt.ListComp_T (F₀ := by k_asm) (by with_unfolding_all rfl) (by decide) (by rfl) (by decide) (by rfl) ?_) | ((with_reducible show wpAny _ _ (eval (Expr.ListComp _ [⟨Expr.Name ("place" : Str) _, _, _, _⟩] _ _) _) _ _ _); refine LCt.ListComp_T (F₀ := by k_asm) (by with_unfolding_all rfl) (by decide) (by rfl) (by decide) (by rfl) ?_))); k_steps)))
          all_goals ((try dsimp only); (try k_unfold); (try dsimp only))
          · exfalso
            have := vis_count cs
            rw [← hos, ← hpl, ← hql] at this
            omega
          rename Fr _ _ _ _ => F6
          rename News _ _ _ _ => N6
          rename IsRange _ _ _ _ _ _ _ _ => hrg
          delta Halt
          refine LCg.CompSrc.range (n := 256) rfl F6 (news_sub (pre := [(D, W.listOf ys.toArray ys.length), (cl, W.listOf vs.toArray n)]) N6 (by ((repeat (refine List.forall_mem_cons.mpr ⟨by k_mem, ?_⟩)); exact List.forall_mem_nil _))) hrg (by decide) (by decide) (by rw [sizeLine_eq]; decide) fun g => ?_
          refine comp_restKX (β := Unit) (xv := fun i t _ => .int (0 + (i : Int)) t) (Rx := fun _ _ _ => True) (fun i v ⟨t, e⟩ => ⟨t, (), e, trivial⟩) (fun i ys4 => IntsAre ys4 (catRows.take i)) .nil ?_ ?_
          · intro i t _ ys4 I oI C oC D m₂ h tk E' hi9 _ hJ hC hx9 F2 N2 off ne
            clear F6 N6 hrg
            (((rename LCg.Off3 _ _ _ _ => off'_m); refine Mine.off3_imp off'_m ?_; clear off'_m; walk_at "my_facts"); (rename _ ∧ _ ∧ _ => ne'_m); (have nf1'_m := Mine.NeA.mk (And.left ne'_m)); (have nf2'_m := Mine.NeA.mk (And.left (And.right ne'_m))); (have nf3'_m := Mine.NeA.mk (And.right (And.right ne'_m))); (clear ne'_m); (try dsimp only))
            k_steps
            all_goals ((try dsimp only); (try k_unfold); (try dsimp only))
            · exact cat_step hi9 (by rw [if_pos (by omega)]) hJ
            · exact cat_step hi9 (by rw [if_neg (by omega)]) hJ
          · intro ys4 hJ4
            rw [cat_all] at hJ4
            clear F6 N6 hrg
            have hKa : KBa.In os := fun e he => by have := hvr e he; omega
            k_steps
            all_goals ((try dsimp only); (try k_unfold); (try dsimp only))
            delta Halt
            refine' Mine.con_makeX4 (pre := [(?rl9, W.listOf (List.toArray ?vs9) ?nn9)]) (fun x9 dx9 hl9 hx9 => Mine.cat_init _ x9 dx9 ?rl9 ?vs9 ?nn9 ?hi9 ?ap9) ?B ?F ?N ?X ?T ?D ?hf ?hk ?hm ?hi ?hft ?hP ?hd ?hu ?_
            case hm => k_is
            case hi => k_is
            case hft => k_is
            ( (case B => assumption); (case F => k_asm); (case N => k_asm); (case X => assumption); (case T => assumption); (case D => assumption); (case hf => exact rfl); (case hk => exact rfl); (case hP => ((repeat (apply Mine.picks_of; focus (((repeat (first | (refine' Mine.Pick.head ?pk9; (case pk9 => k_all)) | (apply Mine.Pick.tail; focus (k_ne; done))))); done))); exact rfl)); (case hd => ((try dsimp only); first | exact Mine.room (by assumption) rfl | exact Mine.room0 (by assumption) rfl | omega)); (case hu => ((try dsimp only); first | exact Mine.room (by assumption) rfl | exact Mine.room0 (by assumption) rfl | omega)))
            case hi9 => assumption
            case ap9 => exact ⟨⟨⟨Nat.ne_of_gt hx9⟩, ⟨Nat.ne_of_gt (Nat.lt_trans (hl9 _ (by k_mem)) hx9)⟩, trivial⟩, ⟨⟨Nat.ne_of_gt (hl9 _ (by k_mem))⟩, trivial⟩, trivial, trivial⟩
            k_whole
            intro x' dx' h' tk' t19' r29' us9' n29' hp9'
            have hi9' := And.left hp9'
            have ap9' := And.right hp9'
            clear hp9'
            intro F' N' hne'
            ((rename Mine.AllNeL _ _ => hn9'_m); refine Mine.AllNeL.imp hn9'_m ?_; clear hn9'_m; walk_at "my_facts")
            ((rename Mine.Apart _ => ap'_m); refine Mine.Apart.imp ap'_m ?_; clear ap'_m; walk_at "my_facts")
            ((try (rename News _ _ _ _ => n9'_m; simp only [List.cons_append, List.nil_append] at n9'_m)); (try k_sweep); (try dsimp only))
            k_steps
            all_goals ((try dsimp only); (try k_unfold); (try dsimp only))
            apply Mine.con_makeX0 (pre := []) (fun x9 dx9 hl9 hx9 => Mine.names_init _ x9 dx9 ⟨Nat.ne_of_gt hx9⟩)
            case hm => k_is
            case hi => k_is
            case hft => k_is
            ( (case B => assumption); (case F => k_asm); (case N => k_asm); (case X => assumption); (case T => assumption); (case D => assumption); (case hf => exact rfl); (case hk => exact rfl); (case hP => ((repeat (apply Mine.picks_of; focus (((repeat (first | (refine' Mine.Pick.head ?pk9; (case pk9 => k_all)) | (apply Mine.Pick.tail; focus (k_ne; done))))); done))); exact rfl)); (case hd => ((try dsimp only); first | exact Mine.room (by assumption) rfl | exact Mine.room0 (by assumption) rfl | omega)); (case hu => ((try dsimp only); first | exact Mine.room (by assumption) rfl | exact Mine.room0 (by assumption) rfl | omega)))
            k_whole
            intro x' dx' h' tk' od' F' N' hne'
            ((rename Mine.AllNeL _ _ => hn9'_m); refine Mine.AllNeL.imp hn9'_m ?_; clear hn9'_m; walk_at "my_facts")
            ((try (rename News _ _ _ _ => n9'_m; simp only [List.cons_append, List.nil_append] at n9'_m)); (try k_sweep); (try dsimp only))
            k_steps
            all_goals ((try dsimp only); (try k_unfold); (try dsimp only))
            delta Halt
            k_dflt (refine' Mine.con_callS4 (Mine.tokens_con _ _ _ _ _ _ _ _ cs ns os _ _ ?hrs ?hc ?e33 ?hos ?ho ?hl ?ap) ?B ?F ?N ?X ?T ?D ?hf ?hk ?hP ?hd ?hu ?_)
            case ho => exact KBa.ints_make hKa
            case hrs => assumption
            case hc => exact hc
            case e33 => exact e33
            case hos => exact hos
            case hl => exact hl
            ( (case B => assumption); (case F => k_asm); (case N => k_asm); (case X => assumption); (case T => assumption); (case D => assumption); (case hf => exact rfl); (case hk => exact rfl); (case hP => ((repeat (apply Mine.picks_of; focus (((repeat (first | (refine' Mine.Pick.head ?pk9; (case pk9 => k_all)) | (apply Mine.Pick.tail; focus (k_ne; done))))); done))); exact rfl)); (case hd => ((try dsimp only); first | exact Mine.room (by assumption) rfl | exact Mine.room0 (by assumption) rfl | omega)); (case hu => ((try dsimp only); first | exact Mine.room (by assumption) rfl | exact Mine.room0 (by assumption) rfl | omega)))
            case ap => (focus (repeat' (first | exact True.intro | assumption | refine And.intro ?_ ?_ | (refine ⟨?_⟩; k_ne))))
            k_whole
            intro h2 tk2 fl vals nf T hp9'
            have hDT := And.left hp9'
            have hfT := And.right hp9'
            clear hp9'
            intro F9 N9 hne'
            ((rename Mine.AllNeS _ _ => hn9'_m); (try simp only [Mine.AllNeS, List.cons_append, List.nil_append, Mine.AllNeR, and_true, true_and, and_assoc] at hn9'_m); (repeat (refine And.elim ?_ hn9'_m; clear hn9'_m; intro _ hn9'_m)))
            try simp only [List.cons_append, List.nil_append] at N9
            try k_sweep
            try dsimp only
            k_steps
            all_goals (repeat' (first | (delta Mine.Halt; (k_here; (with_reducible show wpAny _ _ (eval (Expr.ListComp _ [⟨Expr.Name _ _, _, _, _⟩] _ _) _) _ _ _); k_dflt (first | ((with_reducible show wpAny _ _ (eval (Expr.ListComp _ [⟨Expr.Name ("mark" : Str) _, _, _, _⟩] _ _) _) _ _ _); refine Mine.ListComp_S (F₀ := by k_asm) (by with_unfolding_all rfl) (by decide) (by rfl) (by decide) (by rfl) ?_) | ((with_reducible show wpAny _ _ (eval (Expr.ListComp _ [⟨Expr.Name ("code" : Str) _, _, [], _⟩] _ _) _) _ _ _); refine LCg.ListComp_U (F₀ := by k_asm) (by with_unfolding_all rfl) (by decide) (by rfl) (by decide) (by rfl) ?_) | ((with_reducible show wpAny _ _ (eval (Expr.ListComp _ [⟨Expr.Name ("code" : Str) _, _, [_], _⟩] _ _) _) _ _ _); refine LCt.ListComp_T (F₀ := by k_asm) (by with_unfolding_all rfl) (by decide) (by rfl) (by decide) (by rfl) ?_) | ((with_reducible show wpAny _ _ (eval (Expr.ListComp _ [⟨Expr.Name ("row" : Str) _, _, _, _⟩] _ _) _) _ _ _); refine LCt.ListComp_T (F₀ := by k_asm) (by with_unfolding_all rfl) (by decide) (by rfl) (by decide) (by rfl) ?_) | ((with_reducible show wpAny _ _ (eval (Expr.ListComp _ [⟨Expr.Name ("place" : Str) _, _, _, _⟩] _ _) _) _ _ _); refine LCt.ListComp_T (F₀ := by k_asm) (by with_unfolding_all rfl) (by decide) (by rfl) (by decide) (by rfl) ?_))); k_steps)))
            all_goals ((try dsimp only); (try k_unfold); (try dsimp only))
            rename Fr _ _ _ _ => F10
            rename News _ _ _ _ => N10
            delta Halt
            have N11 := news_sub (pre := (fl, W.listOf vals.toArray nf) :: (cl, W.listOf vs.toArray n) :: T) N10 (List.forall_mem_cons.mpr ⟨.head _, List.forall_mem_cons.mpr ⟨.tail _ (List.mem_append_right _ (by k_mem)), fun q hq => .tail _ (List.mem_append_left _ hq)⟩⟩)
            refine LCg.CompSrc.ledger rfl F10 N11 (.tail _ (.head _)) (by rw [sizeLine_eq, List.size_toArray, hi.length]; omega) fun g => ?_
            refine comp_rest (fun i ys5 nw => ∃ T3, nw = (fl, W.listOf vals.toArray nf) :: (cl, W.listOf vs.toArray n) :: T3 ∧ (∀ p ∈ T, p ∈ T3) ∧ AllNeR fl T3 ∧ AllNeR cl T3 ∧ DatAll T3 ys5 ((cs.take i).map mkTok)) ⟨T, rfl, fun _ h => h, hfT, by assumption, .nil⟩ ?_ ?_
            · rintro i v ys5 nw I oI C oC D m₂ h tk E' hi9 hv ⟨T3, rfl, hTT, hf3, hc3, hD3⟩ hC hx9 F2 N2 off ne
              obtain ⟨c, t, rfl, hcc⟩ := IntsAre.at hi i v (by simpa using hv)
              clear F10 N10 N11
              obtain ⟨oT1, oT2, oT3⟩ := off3_tail off.2.2
              (((rename LCg.Off3 _ _ _ _ => off'_m); refine Mine.off3_imp off'_m ?_; clear off'_m; walk_at "my_facts"); (rename _ ∧ _ ∧ _ => ne'_m); (have nf1'_m := Mine.NeA.mk (And.left ne'_m)); (have nf2'_m := Mine.NeA.mk (And.left (And.right ne'_m))); (have nf3'_m := Mine.NeA.mk (And.right (And.right ne'_m))); (clear ne'_m); (try dsimp only))
              k_steps
              all_goals ((try dsimp only); (try k_unfold); (try dsimp only))
              rename Fr _ _ _ _ => F12
              rename News _ _ _ _ => N12
              rename_i Dt _ _ _ _ _ _ _
              refine' LCg.CompEnd.intro F12 N12 ((fl, W.listOf vals.toArray nf) :: (cl, W.listOf vs.toArray n) :: (Dt, { cls := .type "tuple", data := .seq #[.int 12 _, .int c t] }) :: T3) ?gs (off3_of ?go) (.inr ⟨_, .tail _ (.head _), rfl, _, rfl⟩) ⟨_, rfl, fun p hp => .tail _ (hTT p hp), ?ga, ?gb, ?gd⟩
              case gs =>
                repeat' refine List.forall_mem_cons.mpr ⟨by k_mem, ?_⟩
                exact fun q hq => .tail _ (.tail _ (.tail _ (.tail _ (.tail _ (.tail _ hq)))))
              case go => (focus (repeat' (first | exact True.intro | assumption | refine And.intro ?_ ?_ | (refine ⟨?_⟩; k_ne))))
              case ga => exact ⟨⟨by k_ne⟩, hf3⟩
              case gb => exact ⟨⟨by k_ne⟩, hc3⟩
              case gd =>
                rw [List.take_add_one, hcc, List.map_append]
                exact (hD3.mono fun _ h => .tail _ h).append (DatAll.one mkTok_in)
            · rintro ys5 nw ⟨T3, rfl, hTT, hf3, hc3, hD3⟩
              rw [List.size_toArray, hi.length, List.take_length] at hD3
              clear F10 N10 N11
              k_steps
              all_goals ((try dsimp only); (try k_unfold); (try dsimp only))
              rename Fr _ _ _ _ => F13
              rename News _ _ _ _ => N13
              k_dflt (refine' kmk_add_lit (zs := ys5 ++ [Value.ref _]) F13 N13 ?qa9 ?qb9 ?qe9 ?_ ?qz9)
              case qa9 => exact News.isList (by k_asm) (by k_mem)
              case qb9 => exact News.isList (by k_asm) (by k_mem)
              case qe9 => rfl
              case qz9 =>
                have := hD3.length
                rw [sizeLine_eq, this, List.length_map]
                show cs.length + 1 ≤ _
                omega
              intro G h' F' N' l1
              clear F13 N13
              k_lt l1
              dsimp only
              k_steps
              all_goals ((try dsimp only); (try k_unfold); (try dsimp only))
              rename Fr _ _ _ _ => F14
              rename News _ _ _ _ => N14
              delta Halt
              have hok : ∀ d ∈ (cs ++ [13]).map mkTok, kqdOk 8 d = true := fun d hd => by
                obtain ⟨c, _, rfl⟩ := List.mem_map.mp hd; rfl
              have e13 : (cs ++ [13]).map mkTok = cs.map mkTok ++ [mkTok 13] := List.map_append
              have hok2 : ∀ d ∈ cs.map mkTok ++ [mkTok 13], kqdOk 8 d = true := by rw [← e13]; exact hok
              have hD4 := fun (Dt : Addr) (t2 t3 : Tok) => (hD3.mono (fun p h => List.Mem.tail (Dt, ({ cls := .type "tuple", data := .seq #[.int 12 t2, .int 13 t3] } : Obj)) h)).append (DatAll.one (mkTok_in (T := T3) (tp := Dt) (c := 13) (t2 := t2) (t3 := t3)))
              k_dflt (refine' kqd_eq (oa := W.listOf vals.toArray nf) (ob := W.listOf (ys5 ++ [Value.ref _]).toArray 0) N14 ?qa9 rfl rfl hDT ?qb9 ?qc9 rfl rfl (hD4 _ _ _) ?qd9 hok hok2 ?qe9 ?_)
              case qa9 => k_mem
              case qc9 => k_mem
              case qb9 => exact fun p hp => by repeat (first | exact hTT p hp | refine List.mem_cons_of_mem _ ?_)
              case qd9 => exact List.forall_mem_cons.mpr ⟨by k_mem, fun p hp => by repeat (first | exact hp | refine List.mem_cons_of_mem _ ?_)⟩
              case qe9 => first | units_room | (show un + 64 < cLine; omega)
              simp only [e13, eq_self, decide_true]
              exact con_end hR F14 N14 (List.forall_mem_nil _) ⟨rfl, rfl⟩
end Mine
end
section

section
namespace Mine
set_option maxHeartbeats 8000000 in
theorem close_all_con (w : World) (lib ld td sd : Addr) (t1 t2 : Tok) (so to : Obj) (rs : List Rec) (fs : FS) (B K : Nat) (S : StOk w sd td so to rs fs B K) (hB : B ≤ 90000) (hK : K ≤ 60) (nd : Nd (libL w lib ld td sd t1 t2 so to rs)) (ap : Apart [lib, ld, sd, td]) (of : Offs [lib, ld, sd, td] (chunks rs)) :
    Con w 289 [.ref lib] 8 60 ((lib, instObj 292 ld) :: (ld, libDict w t1 t2 td sd) :: (sd, so) :: (td, to) :: chunks rs)
      (fun v led => ∃ (so' to' : Obj) (rs' : List Rec) (fs' : FS) (ns : List Int), v = .none ∧ led = libL w lib ld td sd t1 t2 so' to' rs' ∧ StOk w sd td so' to' rs' fs' B K ∧ ns.Perm ((absR rs).map (·.1)) ∧ ns.Pairwise (· ≤ ·) ∧ (absR rs', fs') = ns.foldl shut1 (absR rs, fs) ∧ Nd led) := by
  intro dp un gd base h₀ outer s R p loose mean mg mb A hR
  have hb : Binds [(Str.ofString "self", .ref lib)] := ⟨⟩
  have hsd := S.sdict
  have hlo := S.los
  have hkl : (kvsR rs).length < 64 := by have := S.size; unfold kvsR; rw [List.length_map]; omega
  ((rename Mine.Offs _ _ => ap'_m); refine Mine.Offs.imp ap'_m ?_; clear ap'_m; walk_at "my_facts")
  ( k_dflt (refine' Mine.con_enter (by assumption) (by assumption) ?k6_m ?k7_m ?k9_m ?kB_m ?_ ?c2_m ?c3_m ?c4_m ?c5_m; (case k6_m => k_is); (case k7_m => k_is); (case k9_m => first | exact BindsTo.of_eq rfl | exact binds_K (Frag.In.keeps (Mine.Amb.K (by assumption)) (fun b o e => Mine.Amb.keep (by assumption) b o (Below.stays (Mine.Amb.below (by assumption)) b o e))) rfl (by k_is) rfl rfl rfl); (case c5_m => decide); (case kB_m => exact locs rfl); (case c2_m => exact rfl); (case c3_m => exact rfl); (case c4_m => exact rfl)); intro L'_m h'_m tk_m F'_m N'_m l1_m X_m T_m; have B_m := Mine.Amb.below (by assumption); have XB_m := Mine.Amb.K (by assumption); have TB_m := Mine.Amb.T (by assumption); have D_m := Mine.Amb.dicts (by assumption); have hd_m := Mine.Amb.depth (by assumption); have hu_m := Mine.Amb.units (by assumption); rename Mine.Amb _ _ _ _ _ _ _ _ _ _ _ _ _ _ _ _ => hA_m; clear hA_m; rename Mine.Binds _ => hB_m; clear hB_m; (repeat ((rename Mine.Apart _ => ap'_m); refine Mine.Apart.imp ap'_m ?_; clear ap'_m; walk_at "my_facts")); (try k_lt l1_m); (try dsimp only); (try k_fold))
  k_steps
  all_goals (repeat' (first | ((k_here; (with_reducible show wpAny _ _ (call (Value.builtin "sorted") [Value.ref _]) _ _ _); k_dflt (refine' Mine.sorted_dict ?qh9_m ?qF9_m ?qN9_m ?qm9_m ?qd9_m ?ql9_m ?qn9_m ?_; (case qh9_m => rfl); (case qF9_m => k_asm); (case qN9_m => k_asm); (case qm9_m => k_mem); (case qd9_m => assumption); (case ql9_m => assumption); (case qn9_m => assumption)); intro sD' h' tk' sc' sv' sn' F' N' l1 si' sp' so'; (k_lt l1)); k_steps)))
  all_goals ((try dsimp only); (try k_unfold); (try dsimp only))
  rename Fr _ _ _ _ => F1
  rename News _ _ _ _ => N1
  have esz : sv'.toArray.size = sn'.length := by rw [List.size_toArray, si'.length]
  delta Halt
  refine for_list (σ := Obj × Obj × List Rec × FS) (fun c => (sD', W.listOf sv'.toArray sc') :: (lib, instObj 292 ld) :: (ld, libDict w t1 t2 td sd) :: (sd, c.1) :: (td, c.2.1) :: chunks c.2.2.1) (fun _ => [(Str.ofString "self", .ref lib)])
    (fun i c => StOk w sd td c.1 c.2.1 c.2.2.1 c.2.2.2 B K ∧ Nd ((sD', W.listOf sv'.toArray sc') :: (lib, instObj 292 ld) :: (ld, libDict w t1 t2 td sd) :: (sd, c.1) :: (td, c.2.1) :: chunks c.2.2.1) ∧ (absR c.2.2.1, c.2.2.2) = (sn'.take i).foldl shut1 (absR rs, fs)) (so, to, rs, fs)
    rfl (.head _) (fun _ _ _ => .head _) F1 N1 (loc1 rfl) ⟨S, ?gn, rfl⟩ ?_ ?_
  case gn => exact nd_append (a := [(sD', W.listOf sv'.toArray sc')]) |>.mpr ⟨List.nodup_cons.mpr ⟨fun h => (nomatch h), List.nodup_nil⟩, nd, fun p hp q hq e => by
    rw [List.mem_singleton.mp hp] at e
    exact AllNeR.out (show AllNeR sD' (libL w lib ld td sd t1 t2 so to rs) from ⟨by assumption, by assumption, by assumption, by assumption, by assumption⟩) q hq e.symm⟩
  · rintro i v ⟨so1, to1, rs1, fs1⟩ u h tk I o hv ⟨S1, nd1, e1⟩ hne F2 N2
    obtain ⟨k, tk', rfl, hk⟩ := IntsAre.at si' i v (by simpa using hv)
    dsimp only [envOf] at F2 N2 S1 nd1 e1 hne
    clear F1 N1
    try k_fold
    k_steps
    all_goals ((try dsimp only); (try k_unfold); (try dsimp only))
    delta Halt
    refine' Mine.con_nd (rest := [(I, o), (sD', W.listOf sv'.toArray sc')]) (close_st w lib ld td sd t1 t2 tk' so1 to1 rs1 fs1 B K k S1 hB (by omega) (nd_tail nd1)) ?B F2 N2 ?X ?T ?D ?hf ?hk (List.perm_append_comm (l₁ := [(I, o), (sD', W.listOf sv'.toArray sc')])) (nd_cons hne nd1) ?hd ?hu ?_
    case B => assumption
    case X => assumption
    case T => assumption
    case D => assumption
    case hf => exact rfl
    case hk => exact rfl
    case hd => ((try dsimp only); first | exact Mine.room (by assumption) rfl | exact Mine.room0 (by assumption) rfl | omega)
    case hu => ((try dsimp only); first | exact Mine.room (by assumption) rfl | exact Mine.room0 (by assumption) rfl | omega)
    rintro v' h2 tk2 led' ⟨so2, to2, rs2, rfl, rfl, S2, e2, nd2⟩ F3 N3 hne3 ndr
    clear F2 N2
    k_steps
    all_goals ((try dsimp only); (try k_unfold); (try dsimp only))
    refine turn_end (so2, to2, rs2, shutF (absR rs1) fs1 k) (by assumption) (by assumption) (List.mem_append_right _ (.head _)) (List.forall_mem_cons.mpr ⟨List.mem_append_right _ (.tail _ (.head _)), fun q hq => List.mem_append_left _ hq⟩) ?_ (loc1 rfl) ⟨S2, ?_, ?_⟩
    · exact List.forall_mem_cons.mpr ⟨hne _ (.head _), fun q hq => hne3 q hq _ (.head _)⟩
    · exact nd_cons (fun q hq => hne3 q hq _ (.tail _ (.head _))) nd2
    · dsimp only
      rw [e2]
      exact shut1_step hk e1
  · rintro ⟨so1, to1, rs1, fs1⟩ u h tk ⟨S1, nd1, e1⟩ F2 N2
    dsimp only [envOf] at F2 N2 S1 nd1 e1
    clear F1 N1
    try k_fold
    k_steps
    all_goals ((try dsimp only); (try k_unfold); (try dsimp only))
    rw [esz, List.take_length] at e1
    refine con_end hR F2 N2 (fun q hq => .tail _ hq) ⟨so1, to1, rs1, fs1, sn', rfl, rfl, S1, ?_, so', e1, (List.nodup_cons.mp nd1).2⟩
    unfold kvsR at sp'
    unfold absR
    rw [List.map_map] at sp' ⊢
    exact sp'
end Mine
end
section
local macro_rules | `(tactic| walk_at "compareOp NotEq ref ref") => `(tactic| (k_here; (with_reducible show wpAny _ _ (compareOp CmpOp.NotEq (Value.ref _) (Value.ref _)) _ _ _); refine Mine.Halt.out ?_))
local macro_rules | `(tactic| walk_at "compareOp Eq ref ref") => `(tactic| (k_here; (with_reducible show wpAny _ _ (compareOp CmpOp.Eq (Value.ref _) (Value.ref _)) _ _ _); refine Mine.Halt.out ?_))
local macro_rules | `(tactic| walk_at "eval ListComp") => `(tactic| (k_here; refine Mine.Halt.out ?_))
local macro_rules | `(tactic| walk_at "CompSrcP") => `(tactic| (k_here; refine Mine.Halt.out ?_))
namespace Mine
def openB (skv : List (Int × Value)) (k : Int) : Bool := (valueAt skv k).isSome
def upTo (n : Nat) : List Int := (List.range n).map fun i : Nat => (i : Int)
theorem upTo_succ (n : Nat) : upTo (n + 1) = upTo n ++ [(n : Int)] := by unfold upTo; rw [List.range_succ, List.map_append]; rfl
theorem up_yes {p : Int → Bool} {i : Nat} {c : Int} {t : Tok} {ys : List Value} (hc : c = (i : Int)) (hp : p c = true) (hI : IntsAre ys ((upTo i).filter p)) : IntsAre (ys ++ [.int c t]) ((upTo (i + 1)).filter p) := by
  rw [upTo_succ, List.filter_append, ← hc, List.filter_cons_of_pos hp]
  exact intsAre_append hI (.cons _ _ .nil)
theorem up_no {p : Int → Bool} {i : Nat} {c : Int} {ys : List Value} (hc : c = (i : Int)) (hp : ¬ p c = true) (hI : IntsAre ys ((upTo i).filter p)) : IntsAre ys ((upTo (i + 1)).filter p) := by
  rw [upTo_succ, List.filter_append, ← hc, List.filter_cons_of_neg hp, List.filter_nil, List.append_nil]
  exact hI
theorem upTo_mem {n : Nat} {k : Int} : k ∈ upTo n ↔ 0 ≤ k ∧ k < (n : Int) := by
  unfold upTo
  rw [List.mem_map]
  constructor
  · rintro ⟨a, ha, rfl⟩
    have := List.mem_range.mp ha
    omega
  · rintro ⟨h1, h2⟩
    exact ⟨k.toNat, List.mem_range.mpr (by omega), by omega⟩
theorem upTo_nodup (n : Nat) : (upTo n).Nodup := by
  unfold upTo
  unfold List.Nodup
  refine List.Pairwise.map _ (fun a b (h : a ≠ b) => ?_) (List.nodup_range (n := n))
  omega
theorem upTo_sorted (n : Nat) : (upTo n).Pairwise (· ≤ ·) := by
  unfold upTo
  refine List.Pairwise.map _ (fun a b (h : a < b) => ?_) List.pairwise_lt_range
  omega
theorem openB_mem (rs : List Rec) (hn : (rs.map Rec.k).Nodup) (k : Int) : openB (kvsR rs) k = true ↔ k ∈ rs.map Rec.k := by
  unfold openB
  rcases rec_split rs k hn with ⟨h1, h2⟩ | ⟨a, r, b, rfl, h2, h3, h4⟩
  · rw [h1]
    constructor
    · intro h; cases h
    · intro h
      obtain ⟨r, hr, e⟩ := List.mem_map.mp h
      exact absurd e (h2 r hr)
  · rw [h4]
    constructor
    · intro _; exact List.mem_map.mpr ⟨r, List.mem_append_right _ (.head _), h2⟩
    · intro _; rfl
theorem keys_kvs (rs : List Rec) : (kvsR rs).map (·.1) = rs.map Rec.k := by unfold kvsR; rw [List.map_map]; rfl
theorem keys_abs (rs : List Rec) : (absR rs).map (·.1) = rs.map Rec.k := by unfold absR; rw [List.map_map]; rfl
theorem like_keys {rs rs2 : List Rec} {B : Nat} {ns : List Int} (ha : absR rs = absR rs2) (hn : (rs.map Rec.k).Nodup) (hr : ∀ r ∈ rs, RecOk B r) (hp : ns.Perm ((kvsR rs2).map (·.1))) (hs : ns.Pairwise (· ≤ ·)) :
    (upTo 16).filter (openB (kvsR rs)) = ns := by
  have hk : rs2.map Rec.k = rs.map Rec.k := by rw [← keys_abs, ← keys_abs, ha]
  rw [keys_kvs, hk] at hp
  refine List.Perm.eq_of_pairwise (le := (· ≤ ·)) (fun a b _ _ h1 h2 => Int.le_antisymm h1 h2) ((upTo_sorted 16).filter _) hs ?_
  refine List.Perm.trans ?_ hp.symm
  refine (List.perm_ext_iff_of_nodup ((upTo_nodup 16).filter _) hn).mpr fun k => ?_
  rw [List.mem_filter, openB_mem rs hn]
  constructor
  · exact fun h => h.2
  · intro h
    obtain ⟨r, hr1, rfl⟩ := List.mem_map.mp h
    have := placeOk_range (hr r hr1).place
    exact ⟨upTo_mem.mpr (by omega), h⟩
def names3 : List Str := [Str.ofString "a", Str.ofString "b.tex", Str.ofString "c"]
def getV (kv : FS) (x : Str) : Value := (valueAt kv x).getD .none
theorem get_step {kv : FS} {i : Nat} {x : Str} {ys : List Value} (h : names3[i]? = some x) (hy : ys = (names3.take i).map (getV kv)) : ys ++ [getV kv x] = (names3.take (i + 1)).map (getV kv) := by
  rw [List.take_add_one, h, List.map_append, hy]; rfl
theorem names3_at {i : Nat} {v : Value} {t1 t2 t3 : Tok} (h : (#[Value.str (Str.ofString "a") t1, .str (Str.ofString "b.tex") t2, .str (Str.ofString "c") t3])[i]? = some v) : ∃ x t, v = .str x t ∧ names3[i]? = some x := by
  match i, h with
  | 0, h => exact ⟨_, _, (Option.some.inj h).symm, rfl⟩
  | 1, h => exact ⟨_, _, (Option.some.inj h).symm, rfl⟩
  | 2, h => exact ⟨_, _, (Option.some.inj h).symm, rfl⟩
  | i + 3, h => simp at h
open PySem.SeqAt in
theorem eqAt_bytes {A : Around} {s : Shared} (b : Array UInt8) (t u : Tok) : EqAt A s (.bytes b t) (.bytes b u) true := fun prog w E Q hq => by
  unfold eqBool
  refine wpAny_holding ?_
  refine wpAny_ite_split (fun _ => wpAny_bind (wpAny_rule (wpAny_pure hq))) (fun _ => wpAny_bind ?_)
  refine eq_bytes (wpAny_truthy_bool ?_)
  rw [beq_self_eq_true]; exact hq
theorem valueAt_erF (kv : FS) (x : Str) : valueAt (erF kv) x = (valueAt kv x).map er := by
  unfold valueAt erF
  rw [List.find?_map, Option.map_map, Option.map_map]; rfl
theorem getV_form {kv fs : FS} (he : erF kv = fs) (hf : ∀ p ∈ fs, ∃ b, p.2 = Value.bytes b 0) (x : Str) : (getV kv x = .none ∧ valueAt fs x = none) ∨ ∃ b t, getV kv x = .bytes b t ∧ valueAt fs x = some (.bytes b 0) := by
  have h := valueAt_erF kv x
  rw [he] at h
  unfold getV
  cases hv : valueAt kv x with
  | none => rw [hv] at h; exact .inl ⟨rfl, h⟩
  | some v =>
    rw [hv] at h
    have h2 : valueAt fs x = some (er v) := h
    obtain ⟨b, hb⟩ : ∃ b, er v = .bytes b 0 := by
      unfold valueAt at h2
      obtain ⟨p, hp, e⟩ := Option.map_eq_some_iff.mp h2
      rw [← e]; exact hf p (List.mem_of_find?_eq_some hp)
    refine .inr ⟨b, ?_⟩
    cases v <;> simp only [er, Value.bytes.injEq, reduceCtorEq] at hb
    obtain ⟨rfl, -⟩ := hb
    exact ⟨_, rfl, h2⟩
open PySem.SeqAt in
theorem eqAt_getV {A : Around} {s : Shared} {kv kv2 fs : FS} (he : erF kv = fs) (he2 : erF kv2 = fs) (hf : ∀ p ∈ fs, ∃ b, p.2 = Value.bytes b 0) (x : Str) : EqAt A s (getV kv x) (getV kv2 x) true := by
  rcases getV_form he hf x with ⟨h1, h2⟩ | ⟨b, t, h1, h2⟩ <;> rcases getV_form he2 hf x with ⟨h3, h4⟩ | ⟨b2, t2, h3, h4⟩
  · rw [h1, h3]; exact EqAt.same _
  · rw [h2] at h4; cases h4
  · rw [h2] at h4; cases h4
  · rw [h2] at h4
    injection h4 with h4
    injection h4 with h4
    subst h4
    rw [h1, h3]; exact eqAt_bytes _ _ _
open PySem.SeqAt in
theorem eqAt_names {A : Around} {s : Shared} {kv kv2 fs : FS} (he : erF kv = fs) (he2 : erF kv2 = fs) (hf : ∀ p ∈ fs, ∃ b, p.2 = Value.bytes b 0) :
    ∀ j (h1 : j < ((names3.take 3).map (getV kv)).toArray.size) (h2 : j < ((names3.take 3).map (getV kv2)).toArray.size), EqAt A s (((names3.take 3).map (getV kv)).toArray[j]) (((names3.take 3).map (getV kv2)).toArray[j]) true := by
  intro j h1 h2
  have h3 : j < 3 := h1
  match j, h3 with
  | 0, _ => exact eqAt_getV he he2 hf (Str.ofString "a")
  | 1, _ => exact eqAt_getV he he2 hf (Str.ofString "b.tex")
  | 2, _ => exact eqAt_getV he he2 hf (Str.ofString "c")
set_option maxHeartbeats 4000000 in
theorem like_con (w : World) (lib ld td sd sl fl : Addr) (t1 t2 : Tok) (so to so2 to2 : Obj) (rs rs2 : List Rec) (fs : FS) (B K B2 K2 : Nat) (S : StOk w sd td so to rs fs B K) (S2 : StOk w sl fl so2 to2 rs2 fs B2 K2) (hK2 : K2 ≤ 60) (ha : absR rs = absR rs2) (ap : Apart [lib, ld, sd, td, sl, fl]) :
    Con w 444 [.ref lib, .ref sl, .ref fl] 8 130 [(lib, instObj 292 ld), (ld, libDict w t1 t2 td sd), (sd, so), (td, to), (sl, so2), (fl, to2)] (fun v led => v = .bool true ∧ led = [(lib, instObj 292 ld), (ld, libDict w t1 t2 td sd), (sd, so), (td, to), (sl, so2), (fl, to2)]) := by
  intro dp un gd base h₀ outer s R p loose mean mg mb A hR
  have hsd := S.sdict
  have hlo := S.los
  have hsd2 := S2.sdict
  have hlo2 := S2.los
  obtain ⟨tkv, htd, het⟩ := S.files
  obtain ⟨tkv2, htd2, het2⟩ := S2.files
  have hlt := S.lot
  have hlt2 := S2.lot
  have hkl : (kvsR rs2).length < 64 := by have := S2.size; unfold kvsR; rw [List.length_map]; omega
  k_dflt (refine' Mine.con_enterC (by assumption) ?k6 ?k7 ?k9 ?kB ?kD ?_ ?c2 ?c3 ?c4; (case k6 => k_is); (case k7 => k_is); (case k9 => first | exact BindsTo.of_eq rfl | exact binds_K (Frag.In.keeps (Mine.Amb.K (by assumption)) (fun b o e => Mine.Amb.keep (by assumption) b o (Below.stays (Mine.Amb.below (by assumption)) b o e))) rfl (by k_is) rfl rfl rfl); (case kB => exact rfl); (case kD => decide +kernel); (case c2 => exact rfl); (case c3 => exact rfl); (case c4 => exact rfl))
  intro L' h' tk' cells' F' N' Y'; revert N'; refine Mine.cells2 cells' Y' ?_; clear Y' cells'; intro co1 co2 cd1 cd2 N' l1 X T
  have B := Mine.Amb.below (by assumption)
  have XB := Mine.Amb.K (by assumption)
  have TB := Mine.Amb.T (by assumption)
  have D := Mine.Amb.dicts (by assumption)
  have hd := Mine.Amb.depth (by assumption)
  have hu := Mine.Amb.units (by assumption)
  rename Mine.Amb _ _ _ _ _ _ _ _ _ _ _ _ _ _ _ _ => hA
  clear hA
  (repeat ((rename Mine.Apart _ => ap'_m); refine Mine.Apart.imp ap'_m ?_; clear ap'_m; walk_at "my_facts"))
  (have l2 := fun q hq => Nat.lt_succ_of_lt (l1 q hq)); (have l3 := fun q hq => Nat.lt_succ_of_lt (l2 q hq)); (try k_lt l1); (try k_lt l2); (try k_lt l3)
  (try simp only [List.cons_append, List.nil_append] at N')
  (try dsimp only)
  (try k_fold)
  replace cd1 : co1.data = .cell (some (.ref fl)) := cd1
  replace cd2 : co2.data = .cell (some (.ref lib)) := cd2
  k_steps
  all_goals (repeat' (first | (delta Mine.Halt; (k_here; (with_reducible show wpAny _ _ (eval (Expr.ListComp _ [⟨Expr.Name _ _, _, _, _⟩] _ _) _) _ _ _); k_dflt (first | ((with_reducible show wpAny _ _ (eval (Expr.ListComp _ [⟨Expr.Name ("mark" : Str) _, _, _, _⟩] _ _) _) _ _ _); refine Mine.ListComp_S (F₀ := by k_asm) (by with_unfolding_all rfl) (by decide) (by rfl) (by decide) (by rfl) ?_) | ((with_reducible show wpAny _ _ (eval (Expr.ListComp _ [⟨Expr.Name ("code" : Str) _, _, [], _⟩] _ _) _) _ _ _); refine LCg.ListComp_U (F₀ := by k_asm) (by with_unfolding_all rfl) (by decide) (by rfl) (by decide) (by rfl) ?_) | ((with_reducible show wpAny _ _ (eval (Expr.ListComp _ [⟨Expr.Name ("code" : Str) _, _, [_], _⟩] _ _) _) _ _ _); refine LCt.ListComp_T (F₀ := by k_asm) (by with_unfolding_all rfl) (by decide) (by rfl) (by decide) (by rfl) ?_) | ((with_reducible show wpAny _ _ (eval (Expr.ListComp _ [⟨Expr.Name ("row" : Str) _, _, _, _⟩] _ _) _) _ _ _); refine LCt.ListComp_T (F₀ := by k_asm) (by with_unfolding_all rfl) (by decide) (by rfl) (by decide) (by rfl) ?_) | ((with_reducible show wpAny _ _ (eval (Expr.ListComp _ [⟨Expr.Name ("place" : Str) _, _, _, _⟩] _ _) _) _ _ _); refine LCt.ListComp_T (F₀ := by k_asm) (by with_unfolding_all rfl) (by decide) (by rfl) (by decide) (by rfl) ?_))); k_steps)))
  all_goals ((try dsimp only); (try k_unfold); (try dsimp only))
  rename Fr _ _ _ _ => F1
  rename News _ _ _ _ => N1
  rename IsRange _ _ _ _ _ _ _ _ => hrg
  delta Halt
  refine LCt.CompSrcT.range (n := 16) rfl F1 (news_sub (pre := [(lib, instObj 292 ld), (ld, libDict w t1 t2 td sd), (sd, so), (L' + 1 + 1, co1), (L' + 1, co2), (td, to), (sl, so2), (fl, to2)]) N1 (by ((repeat (refine List.forall_mem_cons.mpr ⟨by k_mem, ?_⟩)); exact List.forall_mem_nil _))) hrg (by decide) (by decide) (by rw [sizeLine_eq]; decide) fun g => ?_
  refine comp_restTKX (β := Unit) (xv := fun i t _ => .int (0 + (i : Int)) t) (Rx := fun _ _ _ => True) (fun i v ⟨t, e⟩ => ⟨t, (), e, trivial⟩) (fun i ys => IntsAre ys ((upTo i).filter (openB (kvsR rs)))) .nil ?_ ?_
  · intro i t _ ys I oI C oC D m₂ h tk E' hi9 _ hJ hC hx9 F2 N2 off ne
    clear F1 N1 hrg
    (((rename LCg.Off3 _ _ _ _ => off'_m); refine Mine.off3_imp off'_m ?_; clear off'_m; walk_at "my_facts"); (rename _ ∧ _ ∧ _ => ne'_m); (have nf1'_m := Mine.NeA.mk (And.left ne'_m)); (have nf2'_m := Mine.NeA.mk (And.left (And.right ne'_m))); (have nf3'_m := Mine.NeA.mk (And.right (And.right ne'_m))); (clear ne'_m); (try dsimp only))
    k_steps
    all_goals (repeat' (first | (delta Mine.Halt; (k_here; (with_reducible show wpAny _ _ (call (Value.ref 263) [Value.ref _, Value.int _ _]) _ _ _); k_dflt ( apply Mine.con_callE (Mine.isopen_con _ _ _ _ _ _ _ _ _ _ _ ?hs_m ?lo_m); ( (case B => assumption); (case F => k_asm); (case N => k_asm); (case X => assumption); (case T => assumption); (case D => assumption); (case hf => exact rfl); (case hk => exact rfl); (case hP => ((repeat (apply Mine.picks_of; focus (((repeat (first | (refine' Mine.Pick.head ?pk9; (case pk9 => k_all)) | (apply Mine.Pick.tail; focus (k_ne; done))))); done))); exact rfl)); (case hd => ((try dsimp only); first | exact Mine.room (by assumption) rfl | exact Mine.room0 (by assumption) rfl | omega)); (case hu => ((try dsimp only); first | exact Mine.room (by assumption) rfl | exact Mine.room0 (by assumption) rfl | omega))); (case hs_m => assumption); (case lo_m => assumption); k_whole; intro h'_m tk'_m F'_m N'_m; ((try (rename News _ _ _ _ => n9'_m; simp only [List.cons_append, List.nil_append] at n9'_m)); (try k_sweep); (try dsimp only)))); k_steps)))
    all_goals ((try dsimp only); (try k_unfold); (try dsimp only))
    · exact up_yes (by omega) (by assumption) hJ
    · exact up_no (c := 0 + (i : Int)) (by omega) (by unfold openB; rw [‹(valueAt (kvsR rs) (0 + (i : Int))).isSome = false›]; decide) hJ
  · intro ys hJ
    clear F1 N1 hrg
    k_steps
    all_goals (repeat' (first | ((k_here; (with_reducible show wpAny _ _ (call (Value.builtin "sorted") [Value.ref _]) _ _ _); k_dflt (refine' Mine.sorted_dict ?qh9_m ?qF9_m ?qN9_m ?qm9_m ?qd9_m ?ql9_m ?qn9_m ?_; (case qh9_m => rfl); (case qF9_m => k_asm); (case qN9_m => k_asm); (case qm9_m => k_mem); (case qd9_m => assumption); (case ql9_m => assumption); (case qn9_m => assumption)); intro sD' h' tk' sc' sv' sn' F' N' l1 si' sp' so'; (k_lt l1)); k_steps)))
    all_goals ((try dsimp only); (try k_unfold); (try dsimp only))
    rename Fr _ _ _ _ => F3
    rename News _ _ _ _ => N3
    have hks := like_keys ha S.nod S.recs sp' so'
    rw [hks] at hJ
    delta Halt
    refine' ke_ne_ints (N3.isList ?qa9) (N3.isList ?qb9) hJ si' ?qu9 ?_
    case qa9 => k_mem
    case qb9 => k_mem
    case qu9 => first | units_room | (show un + 64 < cLine; omega)
    simp only [eq_self, decide_true, Bool.not_true]
    k_steps
    all_goals (repeat' (first | (delta Mine.Halt; (k_here; (with_reducible show wpAny _ _ (eval (Expr.ListComp _ [⟨Expr.Name ("name" : Str) _, _, _, _⟩] _ _) _) _ _ _); k_dflt (refine Mine.ListComp_P (F₀ := by k_asm) (by with_unfolding_all rfl) (by decide) (by rfl) (by decide) (by rfl) ?_)); k_steps)))
    all_goals ((try dsimp only); (try k_unfold); (try dsimp only))
    rename Fr _ _ _ _ => F5
    rename News _ _ _ _ => N5
    delta Halt
    refine ⟨_, _, _, rfl, rfl, F5, N5, (by unfold TupAt; k_mem), (by rw [sizeLine_eq]; exact Nat.le_of_ble_eq_true rfl), fun g => ?_⟩
    refine comp_restKX (fun i v hv => (names3_at hv)) (fun i ys => ys = (names3.take i).map (getV tkv)) rfl ?_ ?_
    · intro i x t ys I oI C oC D m₂ h tk E' hi9 hx3 hJ3 hC hx9 F2 N2 off ne
      clear F5 N5
      have off0 := off
      (((rename LCg.Off3 _ _ _ _ => off'_m); refine Mine.off3_imp off'_m ?_; clear off'_m; walk_at "my_facts"); (rename _ ∧ _ ∧ _ => ne'_m); (have nf1'_m := Mine.NeA.mk (And.left ne'_m)); (have nf2'_m := Mine.NeA.mk (And.left (And.right ne'_m))); (have nf3'_m := Mine.NeA.mk (And.right (And.right ne'_m))); (clear ne'_m); (try dsimp only))
      k_steps
      all_goals (repeat' (first | ((k_here; (with_reducible show wpAny _ _ (call (Value.builtin "dict.get") [Value.ref _, Value.str _ _, _]) _ _ _); k_dflt (refine' kdg_get2 (knd := PySem.strKind _ _) ?qN9_m ?qm9_m ?qd9_m ?ql9_m (strKind_is _ _ _ _) _ rfl ?_; (case qN9_m => k_asm); (case qm9_m => k_mem); (case qd9_m => assumption); (case ql9_m => assumption))); k_steps)))
      all_goals ((try dsimp only); (try k_unfold); (try dsimp only))
      exact LCg.CompEnd.intro (by assumption) (by assumption) _ (fun _ h => h) off (by unfold TupAt; k_mem) ⟨rfl, get_step hx3 hJ3⟩
    · intro ys3 hJ3
      refine eqs ys3 hJ3 ?_
      clear hJ3
      clear F5 N5
      k_steps
      all_goals (repeat' (first | (delta Mine.Halt; (k_here; (with_reducible show wpAny _ _ (eval (Expr.ListComp _ [⟨Expr.Name ("name" : Str) _, _, _, _⟩] _ _) _) _ _ _); k_dflt (refine Mine.ListComp_P (F₀ := by k_asm) (by with_unfolding_all rfl) (by decide) (by rfl) (by decide) (by rfl) ?_)); k_steps)))
      all_goals ((try dsimp only); (try k_unfold); (try dsimp only))
      rename Fr _ _ _ _ => F6
      rename News _ _ _ _ => N6
      delta Halt
      refine ⟨_, _, _, rfl, rfl, F6, N6, (by unfold TupAt; k_mem), (by rw [sizeLine_eq]; exact Nat.le_of_ble_eq_true rfl), fun g => ?_⟩
      refine comp_restKX (fun i v hv => (names3_at hv)) (fun i ys => ys = (names3.take i).map (getV tkv2)) rfl ?_ ?_
      · intro i x t ys I oI C oC D m₂ h tk E' hi9 hx3 hJ4 hC hx9 F2 N2 off ne
        clear F6 N6
        have off0 := off
        (((rename LCg.Off3 _ _ _ _ => off'_m); refine Mine.off3_imp off'_m ?_; clear off'_m; walk_at "my_facts"); (rename _ ∧ _ ∧ _ => ne'_m); (have nf1'_m := Mine.NeA.mk (And.left ne'_m)); (have nf2'_m := Mine.NeA.mk (And.left (And.right ne'_m))); (have nf3'_m := Mine.NeA.mk (And.right (And.right ne'_m))); (clear ne'_m); (try dsimp only))
        k_steps
        all_goals (repeat' (first | ((k_here; (with_reducible show wpAny _ _ (call (Value.builtin "dict.get") [Value.ref _, Value.str _ _, _]) _ _ _); k_dflt (refine' kdg_get2 (knd := PySem.strKind _ _) ?qN9_m ?qm9_m ?qd9_m ?ql9_m (strKind_is _ _ _ _) _ rfl ?_; (case qN9_m => k_asm); (case qm9_m => k_mem); (case qd9_m => assumption); (case ql9_m => assumption))); k_steps)))
        all_goals ((try dsimp only); (try k_unfold); (try dsimp only))
        exact LCg.CompEnd.intro (by assumption) (by assumption) _ (fun _ h => h) off (by unfold TupAt; k_mem) ⟨rfl, get_step hx3 hJ4⟩
      · intro ys4 hJ4
        refine eqs ys4 hJ4 ?_
        clear hJ4
        clear F6 N6
        k_steps
        all_goals ((try dsimp only); (try k_unfold); (try dsimp only))
        rename Fr _ _ _ _ => F7
        rename News _ _ _ _ => N7
        delta Halt
        refine' PySem.SeqAt.eq_listAt (e := fun _ => true) (items := ((names3.take 3).map (getV tkv)).toArray) (items2 := ((names3.take 3).map (getV tkv2)).toArray) (N7.isList ?qa9) (N7.isList ?qb9) ?qs9 ?qu9 (eqAt_names het het2 S.fok) ?_
        case qa9 => k_mem
        case qb9 => k_mem
        case qs9 => rfl
        case qu9 => refine Nat.lt_of_le_of_lt (Nat.le_add_right _ 64) ?_; first | units_room | (show un + 64 < cLine; omega)
        rw [show (List.range ((names3.take 3).map (getV tkv)).toArray.size).all (fun _ => true) = true from rfl]
        refine con_end hR F7 N7 ?_ ⟨rfl, rfl⟩
        ((repeat (refine List.forall_mem_cons.mpr ⟨by k_mem, ?_⟩)); exact List.forall_mem_nil _)
end Mine
end
section
namespace Mine
def LibPost (w : World) (lib ld td sd : Addr) (t1 t2 : Tok) (B K : Nat) (P : SS → FS → Prop) (v : Value) (led : List (Addr × Obj)) : Prop :=
  ∃ (so' to' : Obj) (rs' : List Rec) (fs' : FS), v = .none ∧ led = libL w lib ld td sd t1 t2 so' to' rs' ∧ StOk w sd td so' to' rs' fs' B K ∧ P (absR rs') fs' ∧ Nd led
def LawPost (w : World) (sl fl : Addr) (B K : Nat) (P : SS → FS → Prop) (v : Value) (led : List (Addr × Obj)) : Prop :=
  ∃ (so' to' : Obj) (rs' : List Rec) (fs' : FS), v = .none ∧ led = stLed sl fl so' to' rs' ∧ StOk w sl fl so' to' rs' fs' B K ∧ P (absR rs') fs' ∧ Nd led
theorem con_post {w : World} {d u : Nat} {f : Addr} {args : List Value} {pre : List (Addr × Obj)} {post post' : Value → List (Addr × Obj) → Prop} (C : Con w f args d u pre post) (h : ∀ v led, post v led → post' v led) : Con w f args d u pre post' := by
  intro dp un gd base h₀ outer s R p loose mean mg mb A hR
  exact C dp un gd base h₀ outer s R p loose mean mg mb A fun v h' tk' led hp hk hl => hR v h' tk' led (h v led hp) hk hl
theorem st_mono {w : World} {sd td : Addr} {so to : Obj} {rs : List Rec} {fs : FS} {B K B' K' : Nat} (S : StOk w sd td so to rs fs B K) (hB : B ≤ B') (hK : K ≤ K') : StOk w sd td so to rs fs B' K' :=
  ⟨⟨S.files, S.lot, fun r hr => let q := S.recs r hr; ⟨q.isi, q.octs, Nat.le_trans q.len hB, q.name, q.place⟩, S.nod, Nat.le_trans S.size hK, S.fok⟩, S.sdict, S.los⟩
/-- the whole ledger of a deed -/
def deedL (w : World) (b lib ld td sd sl fl : Addr) (t1 t2 : Tok) (o so to so2 to2 : Obj) (rs rs2 : List Rec) : List (Addr × Obj) :=
  (b, o) :: (lib, instObj 292 ld) :: (ld, libDict w t1 t2 td sd) :: (sd, so) :: (td, to) :: (sl, so2) :: (fl, to2) :: (chunks rs ++ chunks rs2)
section
variable {w : World} {b lib ld td sd sl fl : Addr} {t1 t2 : Tok} {o so to so2 to2 : Obj} {rs rs2 : List Rec}
theorem deed_lib : (deedL w b lib ld td sd sl fl t1 t2 o so to so2 to2 rs rs2).Perm (libL w lib ld td sd t1 t2 so to rs ++ ((b, o) :: (sl, so2) :: (fl, to2) :: chunks rs2)) := by
  unfold deedL
  refine List.Perm.trans ?_ (List.perm_middle (a := (b, o))).symm
  refine .cons _ (.cons _ (.cons _ (.cons _ (.cons _ ?_))))
  show ((sl, so2) :: (fl, to2) :: (chunks rs ++ chunks rs2)).Perm (chunks rs ++ (sl, so2) :: (fl, to2) :: chunks rs2)
  refine List.Perm.trans (.cons _ ?_) (List.perm_middle (a := (sl, so2))).symm
  exact (List.perm_middle (a := (fl, to2))).symm
theorem deed_law : (deedL w b lib ld td sd sl fl t1 t2 o so to so2 to2 rs rs2).Perm (stLed sl fl so2 to2 rs2 ++ ((b, o) :: libL w lib ld td sd t1 t2 so to rs)) := by
  refine List.Perm.trans (deed_lib (rs := rs)) ?_
  refine List.Perm.trans List.perm_append_comm ?_
  show ((b, o) :: ((sl, so2) :: (fl, to2) :: chunks rs2) ++ libL w lib ld td sd t1 t2 so to rs).Perm _
  exact (List.perm_middle (a := (b, o)) (l₁ := stLed sl fl so2 to2 rs2)).symm
end
structure DS (w : World) (b lib ld td sd sl fl : Addr) (t1 t2 : Tok) (o so to so2 to2 : Obj) (rs rs2 : List Rec) (fs fs2 : FS) (B K : Nat) : Prop where
  s1 : StOk w sd td so to rs fs B K
  s2 : StOk w sl fl so2 to2 rs2 fs2 B K
  nd : Nd (deedL w b lib ld td sd sl fl t1 t2 o so to so2 to2 rs rs2)
theorem nd_offs : ∀ {l T : List (Addr × Obj)}, Nd (l ++ T) → Offs (l.map (·.1)) T
  | [], _, _ => trivial
  | p :: l, T, h => ⟨allNeR_of fun q hq => nd_head h q (List.mem_append_right _ hq), nd_offs (nd_tail h)⟩
section
variable {w : World} {A₀ : Around} {base h₀ : Heap} {outer : List Env} {s : Shared} {L : Addr} {m : Str → Option Value} {env : Env}
  {dp un d u : Nat} {gd : Option (List Code)} {f : Addr} {args : List Value} {Q E : Value → Shared → Prop}
  {p : Program} {loose : List Str} {mean : ExcName → Option Value} {mg mb : Str → Option Value}
  {b lib ld td sd sl fl : Addr} {t1 t2 : Tok} {o so to so2 to2 : Obj} {rs rs2 : List Rec} {fs fs2 : FS} {B K B' K' : Nat} {P : SS → FS → Prop}
theorem lib_call (C : Con w f args d u (libL w lib ld td sd t1 t2 so to rs) (LibPost w lib ld td sd t1 t2 B' K' P)) (S : DS w b lib ld td sd sl fl t1 t2 o so to so2 to2 rs rs2 fs fs2 B K) (hB : B ≤ B') (hK : K ≤ K')
    (Bl : Below A₀ base outer h₀) (F : Fr h₀ L s.heap m) (N : News h₀ L s.heap (deedL w b lib ld td sd sl fl t1 t2 o so to so2 to2 rs rs2)) (X : (Mine.hd.heap_39 w.params).In base) (T : Top p loose mean mg mb base) (D : KtsDicts (outer.filterMap (·.frame)) h₀)
    (hf : env.frame = some L) (hke : env.scope.kind = .function) (hd : dp + d < recursionLimit) (hu : un + u < cLine)
    (h : ∀ h' tk' so' to' rs' fs', Fr h₀ L h' m → News h₀ L h' (deedL w b lib ld td sd sl fl t1 t2 o so' to' so2 to2 rs' rs2) → DS w b lib ld td sd sl fl t1 t2 o so' to' so2 to2 rs' rs2 fs' fs2 B' K' → P (absR rs') fs' → Q .none { s with heap := h', toks := tk' }) :
    wpAny (model PySem.Challenge.rw_sq0039_01.row.prog w) (⟨none, dp, some (env :: outer), gd, un⟩ : Around) (call (.ref f) args) Q E s := by
  refine con_nd C Bl F N X T D hf hke deed_lib S.nd hd hu ?_
  rintro v h' tk' led ⟨so', to', rs', fs', rfl, rfl, S1, hP, nd⟩ F' N' hne ndr
  have Pm := deed_lib (w := w) (b := b) (lib := lib) (ld := ld) (td := td) (sd := sd) (sl := sl) (fl := fl) (t1 := t1) (t2 := t2) (o := o) (so := so') (to := to') (so2 := so2) (to2 := to2) (rs := rs') (rs2 := rs2)
  exact h h' tk' so' to' rs' fs' F' (news_sub N' fun q hq => Pm.subset hq) ⟨S1, st_mono S.s2 hB hK, nd_perm Pm.symm (nd_append.mpr ⟨nd, ndr, hne⟩)⟩ hP
theorem law_call (C : Con w f args d u (stLed sl fl so2 to2 rs2) (LawPost w sl fl B' K' P)) (S : DS w b lib ld td sd sl fl t1 t2 o so to so2 to2 rs rs2 fs fs2 B K) (hB : B ≤ B') (hK : K ≤ K')
    (Bl : Below A₀ base outer h₀) (F : Fr h₀ L s.heap m) (N : News h₀ L s.heap (deedL w b lib ld td sd sl fl t1 t2 o so to so2 to2 rs rs2)) (X : (Mine.hd.heap_39 w.params).In base) (T : Top p loose mean mg mb base) (D : KtsDicts (outer.filterMap (·.frame)) h₀)
    (hf : env.frame = some L) (hke : env.scope.kind = .function) (hd : dp + d < recursionLimit) (hu : un + u < cLine)
    (h : ∀ h' tk' so' to' rs' fs', Fr h₀ L h' m → News h₀ L h' (deedL w b lib ld td sd sl fl t1 t2 o so to so' to' rs rs') → DS w b lib ld td sd sl fl t1 t2 o so to so' to' rs rs' fs fs' B' K' → P (absR rs') fs' → Q .none { s with heap := h', toks := tk' }) :
    wpAny (model PySem.Challenge.rw_sq0039_01.row.prog w) (⟨none, dp, some (env :: outer), gd, un⟩ : Around) (call (.ref f) args) Q E s := by
  refine con_nd C Bl F N X T D hf hke deed_law S.nd hd hu ?_
  rintro v h' tk' led ⟨so', to', rs', fs', rfl, rfl, S2, hP, nd⟩ F' N' hne ndr
  have Pm := deed_law (w := w) (b := b) (lib := lib) (ld := ld) (td := td) (sd := sd) (sl := sl) (fl := fl) (t1 := t1) (t2 := t2) (o := o) (so := so) (to := to) (so2 := so') (to2 := to') (rs := rs) (rs2 := rs')
  exact h h' tk' so' to' rs' fs' F' (news_sub N' fun q hq => Pm.subset hq) ⟨st_mono S.s1 hB hK, S2, nd_perm Pm.symm (nd_append.mpr ⟨nd, ndr, hne⟩)⟩ hP
end
section
variable {w : World} {lib ld td sd sl fl : Addr} {t1 t2 : Tok} {so to : Obj} {rs : List Rec} {fs : FS} {B K : Nat}
theorem open_lp (tk tx : Tok) (k : Int) (x : Str) (S : StOk w sd td so to rs fs B K) (hx : NameOk x) (hk : PlaceOk k) (hB : B ≤ 90000) (hK : K ≤ 900) (nd : Nd (libL w lib ld td sd t1 t2 so to rs)) :
    Con w 270 [.ref lib, .int k tk, .str x tx] 12 100 (libL w lib ld td sd t1 t2 so to rs) (LibPost w lib ld td sd t1 t2 B (K + 1) fun ss' fs' => ss' = openS (absR rs) k x ∧ fs' = shutF (absR rs) fs k) :=
  con_post (open_st w lib ld td sd t1 t2 tk tx so to rs fs B K k x S hx hk hB hK nd) (by
    rintro v led ⟨so', to', rs', e1, e2, S', e3, nd'⟩
    exact ⟨so', to', rs', _, e1, e2, S', ⟨e3, rfl⟩, nd'⟩)
theorem close_lp (tk : Tok) (k : Int) (S : StOk w sd td so to rs fs B K) (hB : B ≤ 90000) (hK : K ≤ 900) (nd : Nd (libL w lib ld td sd t1 t2 so to rs)) :
    Con w 282 [.ref lib, .int k tk] 5 40 (libL w lib ld td sd t1 t2 so to rs) (LibPost w lib ld td sd t1 t2 B K fun ss' fs' => ss' = shutS (absR rs) k ∧ fs' = shutF (absR rs) fs k) :=
  con_post (close_st w lib ld td sd t1 t2 tk so to rs fs B K k S hB hK nd) (by
    rintro v led ⟨so', to', rs', e1, e2, S', e3, nd'⟩
    exact ⟨so', to', rs', _, e1, e2, S', ⟨e3, rfl⟩, nd'⟩)
theorem write_lp (tk tl : Tok) (k : Int) (y : Str) (S : StOk w sd td so to rs fs B K) (hk : ∃ r ∈ rs, r.k = k) (hy : Lat y) (hz : y.cps.size ≤ 1000) (hB : B ≤ 90000) (nd : Nd (libL w lib ld td sd t1 t2 so to rs)) :
    Con w 275 [.ref lib, .int k tk, .str y tl] 8 60 (libL w lib ld td sd t1 t2 so to rs) (LibPost w lib ld td sd t1 t2 (B + 1001) K fun ss' fs' => ss' = writeS (absR rs) k (ords y ++ [10]) ∧ fs' = fs) :=
  con_post (write_st w lib ld td sd t1 t2 tk tl so to rs fs B K k y S hk hy hz hB nd) (by
    rintro v led ⟨rs', e1, e2, S', e3, nd'⟩
    exact ⟨so, to, rs', _, e1, e2, S', ⟨e3, rfl⟩, nd'⟩)
def AllShut (ss : SS) (fs : FS) (ss' : SS) (fs' : FS) : Prop := ∃ ns : List Int, ns.Perm (ss.map (·.1)) ∧ ns.Pairwise (· ≤ ·) ∧ (ss', fs') = ns.foldl shut1 (ss, fs)
theorem allShut_eq {ss : SS} {fs : FS} {a a' : SS} {c c' : FS} (h : AllShut ss fs a c) (h' : AllShut ss fs a' c') : a = a' ∧ c = c' := by
  obtain ⟨ns, p, s, e⟩ := h
  obtain ⟨ns', p', s', e'⟩ := h'
  have : ns = ns' := List.Perm.eq_of_pairwise (le := (· ≤ ·)) (fun a b _ _ h1 h2 => Int.le_antisymm h1 h2) s s' (p.trans p'.symm)
  subst this
  have := e.trans e'.symm
  exact ⟨congrArg Prod.fst this, congrArg Prod.snd this⟩
theorem closeall_lp (S : StOk w sd td so to rs fs B K) (hB : B ≤ 90000) (hK : K ≤ 60) (nd : Nd (libL w lib ld td sd t1 t2 so to rs)) :
    Con w 289 [.ref lib] 8 60 (libL w lib ld td sd t1 t2 so to rs) (LibPost w lib ld td sd t1 t2 B K fun ss' fs' => AllShut (absR rs) fs ss' fs') :=
  con_post (close_all_con w lib ld td sd t1 t2 so to rs fs B K S hB hK nd (nd_ap (nd_append (a := [(lib, instObj 292 ld), (ld, libDict w t1 t2 td sd), (sd, so), (td, to)]) (b := chunks rs) |>.mp nd).1) (nd_offs (l := [(lib, instObj 292 ld), (ld, libDict w t1 t2 td sd), (sd, so), (td, to)]) nd)) (by
    rintro v led ⟨so', to', rs', fs', ns, e1, e2, S', e3, e4, e5, nd'⟩
    exact ⟨so', to', rs', fs', e1, e2, S', ⟨ns, e3, e4, e5⟩, nd'⟩)
theorem shut_lp (tk : Tok) (k : Int) (S : StOk w sl fl so to rs fs B K) (hB : B ≤ 90000) (hK : K ≤ 900) (nd : Nd (stLed sl fl so to rs)) :
    Con w 451 [.ref sl, .ref fl, .int k tk] 2 20 (stLed sl fl so to rs) (LawPost w sl fl B K fun ss' fs' => ss' = shutS (absR rs) k ∧ fs' = shutF (absR rs) fs k) :=
  con_post (shut_st w sl fl tk so to rs fs B K k S hB hK nd) (by
    rintro v led ⟨so', to', rs', e1, e2, S', e3, nd'⟩
    exact ⟨so', to', rs', _, e1, e2, S', ⟨e3, rfl⟩, nd'⟩)
end
theorem ds_lib {w : World} {b lib ld td sd sl fl : Addr} {t1 t2 : Tok} {o so to so2 to2 : Obj} {rs rs2 : List Rec} {fs fs2 : FS} {B K : Nat} (S : DS w b lib ld td sd sl fl t1 t2 o so to so2 to2 rs rs2 fs fs2 B K) : Nd (libL w lib ld td sd t1 t2 so to rs) := (nd_append.mp (nd_perm deed_lib S.nd)).1
theorem ds_law {w : World} {b lib ld td sd sl fl : Addr} {t1 t2 : Tok} {o so to so2 to2 : Obj} {rs rs2 : List Rec} {fs fs2 : FS} {B K : Nat} (S : DS w b lib ld td sd sl fl t1 t2 o so to so2 to2 rs rs2 fs fs2 B K) : Nd (stLed sl fl so2 to2 rs2) := (nd_append.mp (nd_perm deed_law S.nd)).1
theorem ds_apart {w : World} {b lib ld td sd sl fl : Addr} {t1 t2 : Tok} {o so to so2 to2 : Obj} {rs rs2 : List Rec} {fs fs2 : FS} {B K : Nat} (S : DS w b lib ld td sd sl fl t1 t2 o so to so2 to2 rs rs2 fs fs2 B K) :
    Apart [b, lib, ld, sd, td, sl, fl] ∧ Offs [b, lib, ld, sd, td, sl, fl] (chunks rs ++ chunks rs2) :=
  ⟨nd_ap (nd_append (a := [(b, o), (lib, instObj 292 ld), (ld, libDict w t1 t2 td sd), (sd, so), (td, to), (sl, so2), (fl, to2)]) (b := chunks rs ++ chunks rs2) |>.mp S.nd).1,
    nd_offs (l := [(b, o), (lib, instObj 292 ld), (ld, libDict w t1 t2 td sd), (sd, so), (td, to), (sl, so2), (fl, to2)]) S.nd⟩
end Mine
namespace Mine
section
variable {w : World} {A₀ : Around} {base h₀ : Heap} {outer : List Env} {s : Shared} {L : Addr} {m : Str → Option Value} {env : Env}
  {dp un d u : Nat} {gd : Option (List Code)} {f : Addr} {args : List Value} {Q E : Value → Shared → Prop}
  {p : Program} {loose : List Str} {mean : ExcName → Option Value} {mg mb : Str → Option Value}
  {b lib ld td sd sl fl : Addr} {t1 t2 : Tok} {o so to so2 to2 : Obj} {rs rs2 : List Rec} {fs fs2 : FS} {B K B' K' : Nat} {P : SS → FS → Prop} {jk : List (Addr × Obj)}
/-- as law_call, with more ahead in the ledger -/
theorem law_callJ (C : Con w f args d u (stLed sl fl so2 to2 rs2) (LawPost w sl fl B' K' P)) (S1 : StOk w sd td so to rs fs B K) (hB : B ≤ B') (hK : K ≤ K')
    (Bl : Below A₀ base outer h₀) (F : Fr h₀ L s.heap m) (N : News h₀ L s.heap (jk ++ deedL w b lib ld td sd sl fl t1 t2 o so to so2 to2 rs rs2)) (nd : Nd (jk ++ deedL w b lib ld td sd sl fl t1 t2 o so to so2 to2 rs rs2)) (X : (Mine.hd.heap_39 w.params).In base) (T : Top p loose mean mg mb base) (D : KtsDicts (outer.filterMap (·.frame)) h₀)
    (hf : env.frame = some L) (hke : env.scope.kind = .function) (hd : dp + d < recursionLimit) (hu : un + u < cLine)
    (h : ∀ h' tk' so' to' rs' fs', Fr h₀ L h' m → News h₀ L h' (jk ++ deedL w b lib ld td sd sl fl t1 t2 o so to so' to' rs rs') → Nd (jk ++ deedL w b lib ld td sd sl fl t1 t2 o so to so' to' rs rs') → DS w b lib ld td sd sl fl t1 t2 o so to so' to' rs rs' fs fs' B' K' → P (absR rs') fs' → Q .none { s with heap := h', toks := tk' }) :
    wpAny (model PySem.Challenge.rw_sq0039_01.row.prog w) (⟨none, dp, some (env :: outer), gd, un⟩ : Around) (call (.ref f) args) Q E s := by
  have perm : ∀ (so2 to2 : Obj) (rs2 : List Rec), (jk ++ deedL w b lib ld td sd sl fl t1 t2 o so to so2 to2 rs rs2).Perm (stLed sl fl so2 to2 rs2 ++ (jk ++ ((b, o) :: libL w lib ld td sd t1 t2 so to rs))) := fun so2 to2 rs2 => by
    refine List.Perm.trans (List.Perm.append_left jk (deed_law (so2 := so2) (to2 := to2) (rs2 := rs2))) ?_
    rw [← List.append_assoc, ← List.append_assoc]
    exact List.Perm.append_right _ List.perm_append_comm
  refine con_nd C Bl F N X T D hf hke (perm so2 to2 rs2) nd hd hu ?_
  rintro v h' tk' led ⟨so', to', rs', fs', rfl, rfl, S2, hP, nd2⟩ F' N' hne ndr
  have Pm := perm so' to' rs'
  have ndf := nd_perm Pm.symm (nd_append.mpr ⟨nd2, ndr, hne⟩)
  exact h h' tk' so' to' rs' fs' F' (news_sub N' fun q hq => Pm.subset hq) ndf ⟨st_mono S1 hB hK, S2, (nd_append.mp ndf).2.1⟩ hP
end
theorem shutS_keys {rs : List Rec} {ss : SS} {k : Int} (h : absR rs = shutS ss k) : ∀ q ∈ rs, q.k ≠ k := fun q hq => by
  have hm : (q.k, q.x, q.ns) ∈ shutS ss k := by rw [← h]; exact List.mem_map.mpr ⟨q, hq, rfl⟩
  have := (List.mem_filter.mp hm).2
  simpa using this
theorem open_finish {w : World} {b lib ld td sd sl fl D l : Addr} {t1 t2 tx : Tok} {o so to so2 so5 to2 : Obj} {rs rs2 : List Rec} {fs fs2 : FS} {B K : Nat} {h₀ h : Heap} {L : Addr} {k : Int} {x : Str}
    (N : News h₀ L h ((D, tupO x tx l) :: (l, W.listOf #[] 0) :: (b, o) :: (lib, instObj 292 ld) :: (ld, libDict w t1 t2 td sd) :: (sd, so) :: (td, to) :: (sl, so5) :: (fl, to2) :: (chunks rs ++ chunks rs2)))
    (ap : Apart [D, l, b, lib, ld, sd, td, sl, fl]) (of : Offs [D, l] (chunks rs ++ chunks rs2)) (S : DS w b lib ld td sd sl fl t1 t2 o so to so2 to2 rs rs2 fs fs2 B K) (hnk : ∀ q ∈ rs2, q.k ≠ k) (hx : NameOk x) (hk : PlaceOk k)
    (hd : so5.IsDictOf (intKind PR w) (stored (kvsR rs2) k (.ref D))) :
    News h₀ L h (deedL w b lib ld td sd sl fl t1 t2 o so to so5 to2 rs (rs2 ++ [⟨k, D, l, x, tx, [], [], 0⟩])) ∧ DS w b lib ld td sd sl fl t1 t2 o so to so5 to2 rs (rs2 ++ [⟨k, D, l, x, tx, [], [], 0⟩]) fs fs2 B (K + 1) := by
  have Pm : (deedL w b lib ld td sd sl fl t1 t2 o so to so5 to2 rs (rs2 ++ [⟨k, D, l, x, tx, [], [], 0⟩])).Perm ((D, tupO x tx l) :: (l, W.listOf #[] 0) :: (b, o) :: (lib, instObj 292 ld) :: (ld, libDict w t1 t2 td sd) :: (sd, so) :: (td, to) :: (sl, so5) :: (fl, to2) :: (chunks rs ++ chunks rs2)) := by
    have e : chunks rs ++ chunks (rs2 ++ [⟨k, D, l, x, tx, [], [], 0⟩]) = (chunks rs ++ chunks rs2) ++ [(D, tupO x tx l), (l, W.listOf #[] 0)] := by
      rw [chunks_append, List.append_assoc]; rfl
    unfold deedL
    rw [e]
    exact List.perm_append_comm (l₁ := (b, o) :: (lib, instObj 292 ld) :: (ld, libDict w t1 t2 td sd) :: (sd, so) :: (td, to) :: (sl, so5) :: (fl, to2) :: (chunks rs ++ chunks rs2)) (l₂ := [(D, tupO x tx l), (l, W.listOf #[] 0)])
  have hT : Nd (chunks rs ++ chunks rs2) := nd_tail (nd_tail (nd_tail (nd_tail (nd_tail (nd_tail (nd_tail S.nd))))))
  have nd : Nd ((D, tupO x tx l) :: (l, W.listOf #[] 0) :: (b, o) :: (lib, instObj 292 ld) :: (ld, libDict w t1 t2 td sd) :: (sd, so) :: (td, to) :: (sl, so5) :: (fl, to2) :: (chunks rs ++ chunks rs2)) := by
    obtain ⟨-, oS⟩ := ds_apart S
    refine nd_append (a := [(D, tupO x tx l), (l, W.listOf #[] 0), (b, o), (lib, instObj 292 ld), (ld, libDict w t1 t2 td sd), (sd, so), (td, to), (sl, so5), (fl, to2)]) |>.mpr ⟨nodup_apart ap, hT, ?_⟩
    have key : ∀ {l2 : List (Addr × Obj)} {T : List (Addr × Obj)}, Offs (l2.map (·.1)) T → ∀ p ∈ l2, ∀ q ∈ T, p.1 ≠ q.1 := by
      intro l2
      induction l2 with
      | nil => intro T _ p hp; cases hp
      | cons a r ih =>
        intro T h p hp q hq e
        rcases List.mem_cons.mp hp with rfl | hp
        · exact AllNeR.out h.1 q hq e.symm
        · exact ih h.2 p hp q hq e
    exact key (l2 := [(D, tupO x tx l), (l, W.listOf #[] 0), (b, o), (lib, instObj 292 ld), (ld, libDict w t1 t2 td sd), (sd, so), (td, to), (sl, so5), (fl, to2)]) ⟨of.1, of.2.1, oS⟩
  exact ⟨news_sub N fun q hq => Pm.subset hq, st_mono S.s1 (Nat.le_refl _) (Nat.le_succ _), st_open S.s2.toStCore S.s2.los hnk hx hk hd, nd_perm Pm.symm nd⟩
end Mine
namespace Mine
theorem deed_expose {w : World} {b lib ld td sd sl fl : Addr} {t1 t2 : Tok} {o so to so2 to2 : Obj} {rs a bb : List Rec} {r : Rec} :
    (deedL w b lib ld td sd sl fl t1 t2 o so to so2 to2 rs (a ++ r :: bb)).Perm ((r.ta, tupO r.x r.tx r.la) :: (r.la, W.listOf r.vs.toArray r.n) :: (b, o) :: (lib, instObj 292 ld) :: (ld, libDict w t1 t2 td sd) :: (sd, so) :: (td, to) :: (sl, so2) :: (fl, to2) :: (chunks rs ++ chunks (a ++ bb))) := by
  have e : (chunks rs ++ chunks (a ++ r :: bb)).Perm (r.chunk ++ (chunks rs ++ chunks (a ++ bb))) := by
    refine List.Perm.trans (List.Perm.append_left _ (chunks_perm a bb r)) ?_
    rw [← List.append_assoc, ← List.append_assoc]
    exact List.Perm.append_right _ List.perm_append_comm
  refine List.Perm.trans (List.Perm.append_left [(b, o), (lib, instObj 292 ld), (ld, libDict w t1 t2 td sd), (sd, so), (td, to), (sl, so2), (fl, to2)] e) ?_
  rw [← List.append_assoc]
  exact List.Perm.append_right _ (List.perm_append_comm (l₁ := [(b, o), (lib, instObj 292 ld), (ld, libDict w t1 t2 td sd), (sd, so), (td, to), (sl, so2), (fl, to2)]) (l₂ := r.chunk))
theorem write_finish {w : World} {b lib ld td sd sl fl : Addr} {t1 t2 : Tok} {o so to so2 to2 : Obj} {rs a bb : List Rec} {r : Rec} {fs fs2 : FS} {B K : Nat} {h₀ h : Heap} {L : Addr} {k : Int} {us : List Value} {n' : Nat} {cs : List Int}
    (N : News h₀ L h ((r.ta, tupO r.x r.tx r.la) :: (r.la, W.listOf us.toArray n') :: (b, o) :: (lib, instObj 292 ld) :: (ld, libDict w t1 t2 td sd) :: (sd, so) :: (td, to) :: (sl, so2) :: (fl, to2) :: (chunks rs ++ chunks (a ++ bb))))
    (S1 : StOk w sd td so to rs fs (B + 1001) K) (S2 : StOk w sl fl so2 to2 (a ++ r :: bb) fs2 B K) (nd : Nd (deedL w b lib ld td sd sl fl t1 t2 o so to so2 to2 rs (a ++ r :: bb))) (hr : r.k = k) (h3 : ∀ q ∈ a ++ bb, q.k ≠ k)
    (hi : IntsAre us (r.ns ++ cs)) (hc : KBa.In cs) (hC : cs.length ≤ 1001) :
    ∃ rs', News h₀ L h (deedL w b lib ld td sd sl fl t1 t2 o so to so2 to2 rs rs') ∧ DS w b lib ld td sd sl fl t1 t2 o so to so2 to2 rs rs' fs fs2 (B + 1001) K ∧ absR rs' = writeS (absR (a ++ r :: bb)) k cs := by
  obtain ⟨S2', e⟩ := st_write (n' := n') S2 hr h3 hi hc hC
  have Pm := deed_expose (w := w) (b := b) (lib := lib) (ld := ld) (td := td) (sd := sd) (sl := sl) (fl := fl) (t1 := t1) (t2 := t2) (o := o) (so := so) (to := to) (so2 := so2) (to2 := to2) (rs := rs) (a := a) (r := ⟨r.k, r.ta, r.la, r.x, r.tx, us, r.ns ++ cs, n'⟩) (bb := bb)
  refine ⟨_, news_sub N fun q hq => Pm.subset hq, ⟨S1, S2', ?_⟩, e⟩
  have := nd_perm deed_expose nd
  exact nd_perm Pm.symm this
theorem expose_facts {w : World} {b lib ld td sd sl fl : Addr} {t1 t2 : Tok} {o so to so2 to2 : Obj} {rs a bb : List Rec} {r : Rec} (nd : Nd (deedL w b lib ld td sd sl fl t1 t2 o so to so2 to2 rs (a ++ r :: bb))) :
    Apart [r.ta, r.la, b, lib, ld, sd, td, sl, fl] ∧ Offs [r.ta, r.la, b, lib, ld, sd, td, sl, fl] (chunks rs ++ chunks (a ++ bb)) := by
  have h := nd_perm deed_expose nd
  exact ⟨nd_ap (nd_append (a := [(r.ta, tupO r.x r.tx r.la), (r.la, W.listOf r.vs.toArray r.n), (b, o), (lib, instObj 292 ld), (ld, libDict w t1 t2 td sd), (sd, so), (td, to), (sl, so2), (fl, to2)]) (b := chunks rs ++ chunks (a ++ bb)) |>.mp h).1,
    nd_offs (l := [(r.ta, tupO r.x r.tx r.la), (r.la, W.listOf r.vs.toArray r.n), (b, o), (lib, instObj 292 ld), (ld, libDict w t1 t2 td sd), (sd, so), (td, to), (sl, so2), (fl, to2)]) h⟩
theorem keys_same {rs rs2 : List Rec} (h : absR rs = absR rs2) {k : Int} (hk : ∃ r ∈ rs, r.k = k) : ∃ r ∈ rs2, r.k = k := by
  obtain ⟨r, hr, rfl⟩ := hk
  have hm : r.k ∈ (absR rs2).map (·.1) := by rw [← h, keys_abs]; exact List.mem_map_of_mem hr
  rw [keys_abs] at hm
  obtain ⟨q, hq, e⟩ := List.mem_map.mp hm
  exact ⟨q, hq, e⟩
theorem in10 {os : List Int} (h : ∀ c ∈ os, 0 ≤ c ∧ c ≤ 255) : KBa.In (os ++ [10]) := fun e he => by
  rcases List.mem_append.mp he with he | he
  · have := h e he; omega
  · rw [List.mem_singleton.mp he]; decide
end Mine
namespace Mine
theorem sub_dict_int {prog : Program} {w : World} {A : Around} {E : Value → Shared → Prop} {s : Shared} {h₀ : Heap} {L d : Addr} {news : List (Addr × Obj)} {value slice : PySem.Expr} {o : Obj} {kvs : List (Int × Value)} {k : Int} {u : Tok} {v : Value} {Q : Value → Shared → Prop}
    (N : News h₀ L s.heap news) (hp : (d, o) ∈ news) (hd : o.IsDictOf (PySem.intKind prog w) kvs) (hl : valueAt kvs k = some v) (h : Q v { s with toks := s.toks + 1 })
    (hs : subscripted slice false (.ref d) (.int k u) = operate [.ref d, .int k u] (getItem (.ref d) (.int k u))) : wpAny (model prog w) A (subscriptTail value slice (.ref d) (.int k u)) Q E s :=
  tail_any (kda_dict N hp hd).typeIs PySem.F.slot_dict_getitem.lookup (dict_item_int N hp hd hl h) hs
theorem nd_or {pre pre' : List (Addr × Obj)} (nd : Nd pre') (hs : ∀ q ∈ pre, q ∈ pre') : ∀ q ∈ pre', q ∈ pre ∨ ∀ r ∈ pre, q.1 ≠ r.1 := by
  intro q hq
  by_cases h : ∃ r ∈ pre, q.1 = r.1
  · obtain ⟨r, hr, e⟩ := h
    have hr' := hs r hr
    have key : ∀ (l : List (Addr × Obj)), Nd l → ∀ a ∈ l, ∀ b ∈ l, a.1 = b.1 → a = b := by
      intro l
      induction l with
      | nil => intro _ a ha; cases ha
      | cons p t ih =>
        intro n a ha b hb e
        rcases List.mem_cons.mp ha with ea | ha <;> rcases List.mem_cons.mp hb with eb | hb
        · rw [ea, eb]
        · exact (nd_head n b hb (by rw [← e, ea])).elim
        · exact (nd_head n a ha (by rw [e, eb])).elim
        · exact ih (nd_tail n) a ha b hb e
    exact .inl (by rw [key pre' nd q hq r hr' e]; exact hr)
  · exact .inr fun r hr e => h ⟨r, hr, e⟩
end Mine
end

section
local macro_rules | `(tactic| walk_at "exec If") => `(tactic| (k_here; (with_reducible show wpAny _ _ (exec (Stmt.If (Expr.Compare (Expr.Name ("way" : Str) _) _ _ _) _ [] _) _) _ _ _); refine Mine.Halt.out ?_))
namespace Mine
theorem names_item {t1 t2 t3 : Tok} {k : Int} (h0 : 0 ≤ k) (h3 : k < 3) : ∃ x t, ([Value.str (Str.ofString "a") t1, .str (Str.ofString "b.tex") t2, .str (Str.ofString "c") t3])[k.toNat]? = some (.str x t) ∧ NameOk x := by
  obtain rfl | rfl | rfl : k = 0 ∨ k = 1 ∨ k = 2 := by omega
  · exact ⟨_, _, rfl, .inl rfl⟩
  · exact ⟨_, _, rfl, .inr (.inl rfl)⟩
  · exact ⟨_, _, rfl, .inr (.inr rfl)⟩
theorem names_tail {A : Around} {E : Value → Shared → Prop} {s : Shared} {h₀ : Heap} {L : Addr} {news : List (Addr × Obj)} {value slice : PySem.Expr} {l : Addr} {n : Nat} {k : Int} {u t1 t2 t3 : Tok} {Q : Value → Shared → Prop}
    {prog : Program} {w : World} (N : News h₀ L s.heap news) (hm : (l, W.listOf #[.str (Str.ofString "a") t1, .str (Str.ofString "b.tex") t2, .str (Str.ofString "c") t3] n) ∈ news) (h0 : 0 ≤ k) (h3 : k < 3) (h : ∀ x t, NameOk x → Q (.str x t) s)
    (hs : subscripted slice false (.ref l) (.int k u) = operate [.ref l, .int k u] (getItem (.ref l) (.int k u))) :
    wpAny (model prog w) A (subscriptTail value slice (.ref l) (.int k u)) Q E s := by
  obtain ⟨x, t, hx, hn⟩ := names_item (t1 := t1) (t2 := t2) (t3 := t3) h0 h3
  exact item_led (vs := [Value.str (Str.ofString "a") t1, .str (Str.ofString "b.tex") t2, .str (Str.ofString "c") t3]) N hm h0 (by omega) hx (h x t hn) hs
theorem place_ok {k : Int} (h0 : 0 ≤ k) (h4 : k < 4) : PlaceOk ([0, 1, 15, 7].getD k.toNat 0) := by
  obtain rfl | rfl | rfl | rfl : k = 0 ∨ k = 1 ∨ k = 2 ∨ k = 3 := by omega
  · exact .inl rfl
  · exact .inr (.inl rfl)
  · exact .inr (.inr (.inl rfl))
  · exact .inr (.inr (.inr rfl))
theorem ds_box {w : World} {b lib ld td sd sl fl : Addr} {t1 t2 : Tok} {o o' so to so2 to2 : Obj} {rs rs2 : List Rec} {fs fs2 : FS} {B K : Nat} (S : DS w b lib ld td sd sl fl t1 t2 o so to so2 to2 rs rs2 fs fs2 B K) : DS w b lib ld td sd sl fl t1 t2 o' so to so2 to2 rs rs2 fs fs2 B K := ⟨S.s1, S.s2, S.nd⟩
def DMid (w : World) (h₀ : Heap) (L : Addr) (ps : List (Str × Value)) (led : List (Addr × Obj)) (s : Shared) (f : Flow) (s' : Shared) : Prop :=
  ∃ (y : Str) (ty : Tok) (os : List Int) (u : Str → Option Value) (h' : Heap) (tk' : Nat), f = .next ∧ s' = { s with heap := h', toks := tk' } ∧ Fr h₀ L h' (kstB u ((Str.ofString "line", .str y ty) :: ps)) ∧ News h₀ L h' led ∧ ords y = os ∧ (∀ c ∈ os, 0 ≤ c ∧ c ≤ 255) ∧ os.length ≤ 900
theorem deed_mid {M : Model} {A : Around} {w : World} {h₀ : Heap} {L : Addr} {led : List (Addr × Obj)} {s : Shared} {c : Sem Flow} {Q : Flow → Shared → Prop} {E : Value → Shared → Prop} {hh : Heap} {m : Str → Option Value} {ps : List (Str × Value)} (_ : Fr h₀ L hh m) (_ : Loc ps m) (h1 : wpAny M A c (DMid w h₀ L ps led s) E s)
    (h2 : ∀ y ty os u h' tk', Fr h₀ L h' (kstB u ((Str.ofString "line", .str y ty) :: ps)) → News h₀ L h' led → ords y = os → (∀ c ∈ os, 0 ≤ c ∧ c ≤ 255) → os.length ≤ 900 → Q .next { s with heap := h', toks := tk' }) : wpAny M A c Q E s :=
  wpAny_mono h1 (fun f s' hq => by
    obtain ⟨y, ty, os, u, h', tk', rfl, rfl, F2, N2, e, hb, hl⟩ := hq
    exact h2 y ty os u h' tk' F2 N2 e hb hl) fun _ _ e => e
theorem deed_in {w : World} {h₀ h' : Heap} {L : Addr} {ps : List (Str × Value)} {led : List (Addr × Obj)} {s : Shared} {y : Str} {ty : Tok} {os : List Int} {m : Str → Option Value} {tk' : Nat} (F : Fr h₀ L h' m) (N : News h₀ L h' led) (hk : Loc ((Str.ofString "line", .str y ty) :: ps) m) (e : ords y = os) (hb : ∀ c ∈ os, 0 ≤ c ∧ c ≤ 255) (hl : os.length ≤ 900) :
    DMid w h₀ L ps led s .next { s with heap := h', toks := tk' } := ⟨y, ty, os, m, h', tk', rfl, rfl, by rw [hk.eq]; exact F, N, e, hb, hl⟩
set_option maxHeartbeats 4000000 in
theorem deed_con (w : World) (b lib ld td sd sl fl : Addr) (t1 t2 : Tok) (o so to so2 to2 : Obj) (rs rs2 : List Rec) (fs : FS) (B K : Nat) (Z : Int) (ho : BoxO Z o) (hZ : Z + 40 ≤ 100000) (S : DS w b lib ld td sd sl fl t1 t2 o so to so2 to2 rs rs2 fs fs B K) (ha : absR rs = absR rs2) (hB : B ≤ 80000) (hK : K ≤ 50) :
    ConT w 456 [.ref b, .ref lib, .ref sl, .ref fl] 20 200 ((b, o) :: (lib, instObj 292 ld) :: (ld, libDict w t1 t2 td sd) :: (sd, so) :: (td, to) :: (sl, so2) :: (fl, to2) :: (chunks rs ++ chunks rs2))
      (fun v led => ∃ (o' so' to' so2' to2' : Obj) (rs' rs2' : List Rec) (fs' : FS), v = .bool true ∧ led = deedL w b lib ld td sd sl fl t1 t2 o' so' to' so2' to2' rs' rs2' ∧ BoxO (Z + 40) o' ∧ DS w b lib ld td sd sl fl t1 t2 o' so' to' so2' to2' rs' rs2' fs' fs' (B + 1001) (K + 2) ∧ absR rs' = absR rs2') := by
  intro dp un gd base h₀ outer s R p loose mean mg mb A hR
  have hb : Binds [(Str.ofString "files", .ref fl), (Str.ofString "streams", .ref sl), (Str.ofString "library", .ref lib), (Str.ofString "box", .ref b)] := ⟨⟩
  obtain ⟨ap, of⟩ := ds_apart S
  have hpl : ∀ k : Int, 0 ≤ k → k < 4 → PlaceOk ([0, 1, 15, 7].getD k.toNat 0) := fun k => place_ok
  ((rename Mine.Offs _ _ => ap'_m); refine Mine.Offs.imp ap'_m ?_; clear ap'_m; walk_at "my_facts")
  ( k_dflt (refine' Mine.con_enter (by assumption) (by assumption) ?k6_m ?k7_m ?k9_m ?kB_m ?_ ?c2_m ?c3_m ?c4_m ?c5_m; (case k6_m => k_is); (case k7_m => k_is); (case k9_m => first | exact BindsTo.of_eq rfl | exact binds_K (Frag.In.keeps (Mine.Amb.K (by assumption)) (fun b o e => Mine.Amb.keep (by assumption) b o (Below.stays (Mine.Amb.below (by assumption)) b o e))) rfl (by k_is) rfl rfl rfl); (case c5_m => decide); (case kB_m => exact locs rfl); (case c2_m => exact rfl); (case c3_m => exact rfl); (case c4_m => exact rfl)); intro L'_m h'_m tk_m F'_m N'_m l1_m X_m T_m; have B_m := Mine.Amb.below (by assumption); have XB_m := Mine.Amb.K (by assumption); have TB_m := Mine.Amb.T (by assumption); have D_m := Mine.Amb.dicts (by assumption); have hd_m := Mine.Amb.depth (by assumption); have hu_m := Mine.Amb.units (by assumption); rename Mine.Amb _ _ _ _ _ _ _ _ _ _ _ _ _ _ _ _ => hA_m; clear hA_m; rename Mine.Binds _ => hB_m; clear hB_m; (repeat ((rename Mine.Apart _ => ap'_m); refine Mine.Apart.imp ap'_m ?_; clear ap'_m; walk_at "my_facts")); (try k_lt l1_m); (try dsimp only); (try k_fold))
  k_steps
  all_goals (repeat' (first | ((k_here; k_dflt (refine' Mine.names_tail ?qN9_m ?qm9_m ?qa9_m ?qb9_m ?_ ?qs9_m; (case qN9_m => k_asm); (case qm9_m => k_mem); (case qa9_m => assumption); (case qb9_m => assumption); (case qs9_m => with_unfolding_all rfl)); intro nmX nmT nmH); k_steps) | (delta Mine.Halt; (k_here; (with_reducible show wpAny _ _ (call (Value.ref 434) [Value.ref _, Value.int _ _]) _ _ _); k_dflt ( apply Mine.con_callX5 (Mine.codes_con _ _ _ _ _ _ ?ho_m ?hZ_m ?hm_m ?hm2_m); ( (case B => assumption); (case F => k_asm); (case N => k_asm); (case X => assumption); (case T => assumption); (case D => assumption); (case hf => exact rfl); (case hk => exact rfl); (case hP => ((repeat (apply Mine.picks_of; focus (((repeat (first | (refine' Mine.Pick.head ?pk9; (case pk9 => k_all)) | (apply Mine.Pick.tail; focus (k_ne; done))))); done))); exact rfl)); (case hd => ((try dsimp only); first | exact Mine.room (by assumption) rfl | exact Mine.room0 (by assumption) rfl | omega)); (case hu => ((try dsimp only); first | exact Mine.room (by assumption) rfl | exact Mine.room0 (by assumption) rfl | omega))); (case ho_m => assumption); (case hZ_m => omega); (case hm_m => omega); (case hm2_m => omega); k_whole; intro h' tk' cdA cdV cdN cdK cdO hp9'; (have cdH := And.left hp9'); (have cdI := And.left (And.right hp9')); (have cdC := And.left (And.right (And.right hp9'))); (have cdL := And.left (And.right (And.right (And.right hp9')))); (have cdE := And.right (And.right (And.right (And.right hp9')))); clear hp9'; intro F' N' hne'; (((rename Mine.AllNeL _ _ => hn9'_m); refine Mine.AllNeL.imp hn9'_m ?_; clear hn9'_m; walk_at "my_facts")); (try simp only [List.cons_append, List.nil_append] at N'); (try k_sweep); (try dsimp only))); k_steps) | (delta Mine.Halt; (k_here; (with_reducible show wpAny _ _ (call (Value.ref 427) [Value.ref _, Value.int _ _]) _ _ _); k_dflt ( apply Mine.con_call (Mine.take_con _ _ _ _ _ _ ?ho_m ?hZ_m ?hm_m ?hm2_m); ( (case B => assumption); (case F => k_asm); (case N => k_asm); (case X => assumption); (case T => assumption); (case D => assumption); (case hf => exact rfl); (case hk => exact rfl); (case hP => ((repeat (apply Mine.picks_of; focus (((repeat (first | (refine' Mine.Pick.head ?pk9; (case pk9 => k_all)) | (apply Mine.Pick.tail; focus (k_ne; done))))); done))); exact rfl)); (case hd => ((try dsimp only); first | exact Mine.room (by assumption) rfl | exact Mine.room0 (by assumption) rfl | omega)); (case hu => ((try dsimp only); first | exact Mine.room (by assumption) rfl | exact Mine.room0 (by assumption) rfl | omega))); (case ho_m => assumption); (case hZ_m => (first | assumption | exact Mine.z0 (by assumption) (by decide) | exact Mine.z1 (by assumption) (by decide) | exact Mine.z2 (by assumption) (by decide) | exact Mine.z3 (by assumption) (by decide) | exact Mine.z4 (by assumption) (by decide) | omega)); (case hm_m => first | decide | omega); (case hm2_m => first | decide | omega); k_whole; intro v' h' tk' led' hv'; refine Mine.take_cps v' led' hv' ?_; clear hv'; intro r' t' o' hr1 hr2 ho' F' N' hne'; clear hne'; clear v' led'; (try simp only [List.cons_append, List.nil_append] at N'); (try k_sweep); (try dsimp only))); k_steps) | (delta Mine.Halt; (k_here; (with_reducible show wpAny _ _ (eval (Expr.ListComp _ [⟨Expr.Name _ _, _, _, _⟩] _ _) _) _ _ _); k_dflt (first | ((with_reducible show wpAny _ _ (eval (Expr.ListComp _ [⟨Expr.Name ("mark" : Str) _, _, _, _⟩] _ _) _) _ _ _); refine Mine.ListComp_S (F₀ := by k_asm) (by with_unfolding_all rfl) (by decide) (by rfl) (by decide) (by rfl) ?_) | ((with_reducible show wpAny _ _ (eval (Expr.ListComp _ [⟨Expr.Name ("code" : Str) _, _, [], _⟩] _ _) _) _ _ _); refine LCg.ListComp_U (F₀ := by k_asm) (by with_unfolding_all rfl) (by decide) (by rfl) (by decide) (by rfl) ?_) | ((with_reducible show wpAny _ _ (eval (Expr.ListComp _ [⟨Expr.Name ("code" : Str) _, _, [_], _⟩] _ _) _) _ _ _); refine LCt.ListComp_T (F₀ := by k_asm) (by with_unfolding_all rfl) (by decide) (by rfl) (by decide) (by rfl) ?_) | ((with_reducible show wpAny _ _ (eval (Expr.ListComp _ [⟨Expr.Name ("row" : Str) _, _, _, _⟩] _ _) _) _ _ _); refine LCt.ListComp_T (F₀ := by k_asm) (by with_unfolding_all rfl) (by decide) (by rfl) (by decide) (by rfl) ?_) | ((with_reducible show wpAny _ _ (eval (Expr.ListComp _ [⟨Expr.Name ("place" : Str) _, _, _, _⟩] _ _) _) _ _ _); refine LCt.ListComp_T (F₀ := by k_asm) (by with_unfolding_all rfl) (by decide) (by rfl) (by decide) (by rfl) ?_))); k_steps)))
  all_goals ((try dsimp only); (try k_unfold); (try dsimp only))
  · rename Fr _ _ _ _ => F1
    rename News _ _ _ _ => N1
    have N2 := news_sub (pre := (b, o') :: (lib, instObj 292 ld) :: (ld, libDict w t1 t2 td sd) :: (sd, so) :: (td, to) :: (sl, so2) :: (fl, to2) :: (chunks rs ++ chunks rs2)) N1 (by ((repeat (refine List.forall_mem_cons.mpr ⟨by k_mem, ?_⟩)); (exact fun q hq => by repeat (first | exact hq | refine List.mem_cons_of_mem _ ?_))))
    clear N1
    have h4' := ‹_ < (4 : Int)›
    have hPl := hpl _ (by assumption) h4'
    delta Halt
    refine' lib_call (open_lp _ _ _ _ S.s1 nmH hPl (by omega) (by omega) (ds_lib S)) (ds_box S) (Nat.le_refl _) (Nat.le_succ _) ?B F1 N2 ?X ?T ?D ?hf ?hk ?hd ?hu ?_
    ((case B => assumption); (case X => assumption); (case T => assumption); (case D => assumption); (case hf => exact rfl); (case hk => exact rfl); (case hd => ((try dsimp only); omega)); (case hu => ((try dsimp only); omega)))
    intro h2 tk2 so3 to3 rs3 fs3 F3 N3 S3 hE9
    have e3 := hE9.1
    have f3 := hE9.2
    clear hE9
    clear F1 N2
    k_steps
    all_goals ((try dsimp only); (try k_unfold); (try dsimp only))
    delta Halt
    refine' law_call (shut_lp _ _ S3.s2 (by omega) (by omega) (ds_law S3)) S3 (Nat.le_refl _) (Nat.le_refl _) ?B F3 N3 ?X ?T ?D ?hf ?hk ?hd ?hu ?_
    ((case B => assumption); (case X => assumption); (case T => assumption); (case D => assumption); (case hf => exact rfl); (case hk => exact rfl); (case hd => ((try dsimp only); omega)); (case hu => ((try dsimp only); omega)))
    intro h4 tk4 so4 to4 rs4 fs4 F4 N4 S4 hE9
    have e4 := hE9.1
    have f4 := hE9.2
    clear hE9
    clear F3 N3
    have hff : fs4 = fs3 := by rw [f3, f4, ha]
    rw [hff] at S4
    have ap4 := (ds_apart S4).1
    have of4 := (ds_apart S4).2
    unfold deedL at N4
    have hsd4 := S4.s2.sdict
    have hkl4 : (kvsR rs4).length ≤ 1000 := by have := S4.s2.size; unfold kvsR; rw [List.length_map]; omega
    ((rename Mine.Offs _ _ => ap'_m); refine Mine.Offs.imp ap'_m ?_; clear ap'_m; walk_at "my_facts")
    ((rename Mine.Apart _ => ap'_m); refine Mine.Apart.imp ap'_m ?_; clear ap'_m; walk_at "my_facts")
    k_steps
    all_goals (repeat' (first | ((k_here; (with_reducible show wpAny _ _ (setItem (Value.ref _) (Value.int _ _) _) _ _ _); k_dflt (refine' kda_set (knd := PySem.intKind _ _) ?F ?N ?U_m ?d_m (intKind_is _ _ _ _) ?z_m ?_; (case F => k_asm); (case N => k_asm); (case U_m => k_updF); (case d_m => k_asm); (case z_m => (rw [sizeLine_eq]; omega))); intro h'_m o'_m F'_m N'_m hd'_m; (try dsimp only at N'_m)); k_steps)))
    all_goals ((try dsimp only); (try k_unfold); (try dsimp only))
    rename Fr _ _ _ _ => F5
    rename News _ _ _ _ => N5
    rename Obj.IsDictOf _ _ (stored _ _ _) => hD5
    have hOF := open_finish N5 (by (focus (repeat' (first | exact True.intro | assumption | refine And.intro ?_ ?_ | (refine ⟨?_⟩; k_ne))))) (by (focus (repeat' (first | exact True.intro | assumption | refine And.intro ?_ ?_ | (refine ⟨?_⟩; k_ne))))) S4 (shutS_keys e4) nmH hPl hD5
    have N6 := hOF.1
    have S6 := hOF.2
    exact conT_end hR KtsTurn.refl F5 N6 (fun _ h => h) ⟨o', so3, to3, _, to4, rs3, _, fs3, rfl, rfl, ho'.mono (by omega), ⟨st_mono S6.s1 (by omega) (by omega), st_mono S6.s2 (by omega) (by omega), S6.nd⟩, by rw [absR_open, e3, e4, ha]; rfl⟩
  · rename Fr _ _ _ _ => F1
    rename News _ _ _ _ => N1
    have h4' := ‹_ < (4 : Int)›
    have hPl := hpl _ (by assumption) h4'
    have hcc : CodesOk (cdN ++ [33]) := fun c hc => by
      rcases List.mem_append.mp hc with hc | hc
      · exact cdC c hc
      · rw [List.mem_singleton.mp hc]; exact ⟨by decide, by decide, by decide⟩
    have hcl : (cdN ++ [33]).length ≤ 50 := by rw [List.length_append]; show cdN.length + 1 ≤ 50; omega
    obtain ⟨cs, hcs⟩ : ∃ cs, cs = cdN ++ [33] := ⟨_, rfl⟩
    rw [← hcs] at hcc hcl cdI
    delta Halt
    have N2 := news_sub (pre := (cdA, W.listOf cdV.toArray cdK) :: (b, cdO) :: (lib, instObj 292 ld) :: (ld, libDict w t1 t2 td sd) :: (sd, so) :: (td, to) :: (sl, so2) :: (fl, to2) :: (chunks rs ++ chunks rs2)) N1 (by ((repeat (refine List.forall_mem_cons.mpr ⟨by k_mem, ?_⟩)); (exact fun q hq => by repeat (first | exact hq | refine List.mem_cons_of_mem _ ?_))))
    clear N1
    refine LCg.CompSrc.ledger rfl F1 N2 (.head _) (by rw [sizeLine_eq, List.size_toArray, cdI.length]; omega) fun g => ?_
    refine comp_restKX (fun i v hv => IntsAre.at cdI i v (by simpa using hv)) (fun i ys => ChrJ cs i ys) ⟨[], .nil, rfl, fun _ h => (nomatch h), rfl⟩ ?_ ?_
    · intro i c t ys I oI C oC Dq m₂ h tk E' hi9 hcc2 hJ hC hx9 F2 N2 off ne
      have hc1 := (hcc c (List.mem_of_getElem? hcc2)).1
      have hc2 := (hcc c (List.mem_of_getElem? hcc2)).2.1
      have hc3 := (hcc c (List.mem_of_getElem? hcc2)).2.2
      clear F1
      have off0 := off
      (((rename LCg.Off3 _ _ _ _ => off'_m); refine Mine.off3_imp off'_m ?_; clear off'_m; walk_at "my_facts"); (rename _ ∧ _ ∧ _ => ne'_m); (have nf1'_m := Mine.NeA.mk (And.left ne'_m)); (have nf2'_m := Mine.NeA.mk (And.left (And.right ne'_m))); (have nf3'_m := Mine.NeA.mk (And.right (And.right ne'_m))); (clear ne'_m); (try dsimp only))
      k_steps
      all_goals ((try dsimp only); (try k_unfold); (try dsimp only))
      exact LCg.CompEnd.intro F2 N2 _ (fun _ h => h) off (.inr ⟨_, .head _, rfl, _, rfl⟩) ⟨rfl, chr_step hcc2 hc1 hJ⟩
    · intro ys hJ
      have hCH := chr_end cdI hJ
      have hS := hCH.choose_spec.1
      have hV := hCH.choose_spec.2.1
      have hL := hCH.choose_spec.2.2.1
      have hs := hCH.choose_spec.2.2.2
      have hCC : ∀ c ∈ hCH.choose.flatMap ords, c ≤ 255 := by rw [hV]; exact fun c h => (hcc c h).2.1
      have hSZ : (hCH.choose.flatMap ords).length ≤ 10000 := by rw [hV]; omega
      clear F1
      k_steps
      all_goals (repeat' (first | ((k_here; (with_reducible show wpAny _ _ (call (Value.builtin "str.join") [Value.str _ _, Value.ref _]) _ _ _); k_dflt (refine' Mine.join_strs ?l_m ?s_m ?b_m ?n_m ?_; (case l_m => exact News.isList (by k_asm) (by k_mem)); (case s_m => assumption); (case b_m => assumption); (case n_m => omega)); intro y'_m t'_m k'_m hy'_m); k_steps)))
      all_goals ((try dsimp only); (try k_unfold); (try dsimp only))
      rename Fr _ _ _ _ => F2
      rename News _ _ _ _ => N2
      rename ords _ = List.flatMap ords hCH.choose => hy0
      rw [hV] at hy0
      have hCC2 : ∀ c ∈ cs, c ≤ 255 := fun c h => (hcc c h).2.1
      have hSZ2 : cs.length ≤ 10000 := by omega
      delta Halt
      refine' deed_mid (w := w) (led := (b, cdO) :: (lib, instObj 292 ld) :: (ld, libDict w t1 t2 td sd) :: (sd, so) :: (td, to) :: (sl, so2) :: (fl, to2) :: (chunks rs ++ chunks rs2)) F2 (show Loc [(Str.ofString "place", .int ([0, 1, 15, 7].getD r'.toNat 0) _), (Str.ofString "library", .ref lib), (Str.ofString "streams", .ref sl)] _ from Loc.cons rfl (loc2 rfl rfl)) ?_ ?_
      · refine wpAny_If ?_
        try dsimp only
        k_steps
        all_goals (repeat' (first | (delta Mine.Halt; (k_here; (with_reducible show wpAny _ _ (call (Value.ref 303) [Value.str _ _]) _ _ _); k_dflt ( apply Mine.con_callY2 (Mine.visible_con _ _ _ ?hx_m ?hz_m); ( (case B => assumption); (case F => k_asm); (case N => k_asm); (case X => assumption); (case T => assumption); (case D => assumption); (case hf => exact rfl); (case hk => exact rfl); (case hP => ((repeat (apply Mine.picks_of; focus (((repeat (first | (refine' Mine.Pick.head ?pk9; (case pk9 => k_all)) | (apply Mine.Pick.tail; focus (k_ne; done))))); done))); exact rfl)); (case hd => ((try dsimp only); first | exact Mine.room (by assumption) rfl | exact Mine.room0 (by assumption) rfl | omega)); (case hu => ((try dsimp only); first | exact Mine.room (by assumption) rfl | exact Mine.room0 (by assumption) rfl | omega))); (case hx_m => first | assumption | exact Mine.lat_of (by assumption) (by assumption)); (case hz_m => first | assumption | exact Mine.size_of (by assumption) (by assumption)); k_whole; intro h'_m tk'_m y9'_m u9'_m hy9'_m F'_m N'_m; ((try (rename News _ _ _ _ => n9'_m; simp only [List.cons_append, List.nil_append] at n9'_m)); (try k_sweep); (try dsimp only)))); k_steps)))
        all_goals ((try dsimp only); (try k_unfold); (try dsimp only))
        · rename ords _ = List.flatMap visCodes _ => hy
          rw [hy0] at hy
          rename News _ _ _ _ => N3
          exact deed_in (by assumption) (news_sub N3 (by ((repeat (refine List.forall_mem_cons.mpr ⟨by k_mem, ?_⟩)); (exact fun q hq => by repeat (first | exact hq | refine List.mem_cons_of_mem _ ?_))))) (Loc.cons rfl (Loc.cons rfl (loc2 rfl rfl))) hy (fun e he => by
            obtain ⟨c, h1, h2⟩ := List.mem_flatMap.mp he
            have := vis_range (hcc c h1) e h2
            omega) (by have := vis_length cs; omega)
        · rename News _ _ _ _ => N3
          exact deed_in (by assumption) (news_sub N3 (by ((repeat (refine List.forall_mem_cons.mpr ⟨by k_mem, ?_⟩)); (exact fun q hq => by repeat (first | exact hq | refine List.mem_cons_of_mem _ ?_))))) (Loc.cons rfl (Loc.cons rfl (loc2 rfl rfl))) hy0 (fun c h => ⟨(hcc c h).1, (hcc c h).2.1⟩) (by omega)
      · intro y9 ty9 os u9 h9 tk9 F2 N2 hy hob hol
        have hLat := lat_of hy fun c h => (hob c h).2
        have hSz := size_of (k := 1000) hy (by omega)
        try dsimp only
        k_steps
        all_goals ((try dsimp only); (try k_unfold); (try dsimp only))
        rename Fr _ _ _ _ => F3
        rename News _ _ _ _ => N3
        have N4 := news_sub (pre := (b, cdO) :: (lib, instObj 292 ld) :: (ld, libDict w t1 t2 td sd) :: (sd, so) :: (td, to) :: (sl, so2) :: (fl, to2) :: (chunks rs ++ chunks rs2)) N3 (by ((repeat (refine List.forall_mem_cons.mpr ⟨by k_mem, ?_⟩)); (exact fun q hq => by repeat (first | exact hq | refine List.mem_cons_of_mem _ ?_))))
        clear N3
        delta Halt
        by_cases hop : ∃ r ∈ rs, r.k = [0, 1, 15, 7].getD r'.toNat 0
        · refine' lib_call (write_lp _ _ _ _ S.s1 hop hLat hSz (by omega) (ds_lib S)) (ds_box S) (Nat.le_add_right _ _) (Nat.le_refl _) ?B F3 N4 ?X ?T ?D ?hf ?hk ?hd ?hu ?_
          ((case B => assumption); (case X => assumption); (case T => assumption); (case D => assumption); (case hf => exact rfl); (case hk => exact rfl); (case hd => ((try dsimp only); omega)); (case hu => ((try dsimp only); omega)))
          intro h2 tk2 so3 to3 rs3 fs3 F5 N5 S3 hE9
          have e3 := hE9.1
          have f3 := hE9.2
          clear hE9
          clear F3 N4
          rcases rec_split rs2 ([0, 1, 15, 7].getD r'.toNat 0) S.s2.nod with ⟨h1, h2'⟩ | ⟨ra, rr, rb, rfl, hrk, hrn, hrv⟩
          · obtain ⟨q, hq1, hq2⟩ := keys_same ha hop
            exact absurd hq2 (h2' q hq1)
          have hRR := S.s2.recs rr (List.mem_append_right _ (.head _))
          have hri := hRR.isi
          have hrl := hRR.len
          have hrl2 : rr.ns.length ≤ 90000 := by omega
          have hsd2 := S.s2.sdict
          have hlo2 := S.s2.los
          have hrs : (valueAt (kvsR (ra ++ rr :: rb)) ([0, 1, 15, 7].getD r'.toNat 0)).isSome = true := by rw [hrv]; rfl
          have ap5 := (expose_facts S3.nd).1
          have of5 := (expose_facts S3.nd).2
          have N6 := news_sub (pre := (rr.ta, tupO rr.x rr.tx rr.la) :: (rr.la, W.listOf rr.vs.toArray rr.n) :: (b, cdO) :: (lib, instObj 292 ld) :: (ld, libDict w t1 t2 td sd) :: (sd, so3) :: (td, to3) :: (sl, so2) :: (fl, to2) :: (chunks rs3 ++ chunks (ra ++ rb))) N5 (fun q hq => deed_expose.symm.subset hq)
          clear N5
          ((rename Mine.Offs _ _ => ap'_m); refine Mine.Offs.imp ap'_m ?_; clear ap'_m; walk_at "my_facts")
          ((rename Mine.Apart _ => ap'_m); refine Mine.Apart.imp ap'_m ?_; clear ap'_m; walk_at "my_facts")
          k_steps
          all_goals (repeat' (first | ((k_here; k_dflt (refine' Mine.sub_dict_int ?qN9_m ?qm9_m ?qd9_m ?ql9_m ?_ ?qs9_m; (case qN9_m => k_asm); (case qm9_m => k_mem); (case qd9_m => assumption); (case ql9_m => assumption); (case qs9_m => with_unfolding_all rfl))); k_steps) | ((k_here; k_dflt (refine' kdg_notin (knd := PySem.intKind _ _) ?qN9_m ?qm9_m ?qd9_m ?ql9_m (intKind_is _ _ _ _) _ rfl ?_; (case qN9_m => k_asm); (case qm9_m => k_mem); (case qd9_m => assumption); (case ql9_m => assumption))); k_steps) | (delta Mine.Halt; (k_here; (with_reducible show wpAny _ _ (eval (Expr.ListComp _ [⟨Expr.Name _ _, _, _, _⟩] _ _) _) _ _ _); k_dflt (first | ((with_reducible show wpAny _ _ (eval (Expr.ListComp _ [⟨Expr.Name ("mark" : Str) _, _, _, _⟩] _ _) _) _ _ _); refine Mine.ListComp_S (F₀ := by k_asm) (by with_unfolding_all rfl) (by decide) (by rfl) (by decide) (by rfl) ?_) | ((with_reducible show wpAny _ _ (eval (Expr.ListComp _ [⟨Expr.Name ("code" : Str) _, _, [], _⟩] _ _) _) _ _ _); refine LCg.ListComp_U (F₀ := by k_asm) (by with_unfolding_all rfl) (by decide) (by rfl) (by decide) (by rfl) ?_) | ((with_reducible show wpAny _ _ (eval (Expr.ListComp _ [⟨Expr.Name ("code" : Str) _, _, [_], _⟩] _ _) _) _ _ _); refine LCt.ListComp_T (F₀ := by k_asm) (by with_unfolding_all rfl) (by decide) (by rfl) (by decide) (by rfl) ?_) | ((with_reducible show wpAny _ _ (eval (Expr.ListComp _ [⟨Expr.Name ("row" : Str) _, _, _, _⟩] _ _) _) _ _ _); refine LCt.ListComp_T (F₀ := by k_asm) (by with_unfolding_all rfl) (by decide) (by rfl) (by decide) (by rfl) ?_) | ((with_reducible show wpAny _ _ (eval (Expr.ListComp _ [⟨Expr.Name ("place" : Str) _, _, _, _⟩] _ _) _) _ _ _); refine LCt.ListComp_T (F₀ := by k_asm) (by with_unfolding_all rfl) (by decide) (by rfl) (by decide) (by rfl) ?_))); k_steps)))
          all_goals ((try dsimp only); (try k_unfold); (try dsimp only))
          rename Fr _ _ _ _ => F7
          rename News _ _ _ _ => N7
          delta Halt
          refine ⟨_, _, _, rfl, rfl, F7, N7, (by rw [sizeLine_eq]; omega), fun g => ?_⟩
          refine comp_restKX (fun i v ⟨c, u, e1, e2⟩ => ⟨c, u, e2, e1⟩) (fun i ys => IntsAre ys (os.take i)) .nil ?_ ?_
          · intro i c u ys7 I oI C oC D7 m₂ h tk E' hi9 hcc7 hI hC hx9 F2 N2 off ne
            have hcc8 := hLat _ _ hcc7
            clear F7 N7
            have off0 := off
            (((rename LCg.Off3 _ _ _ _ => off'_m); refine Mine.off3_imp off'_m ?_; clear off'_m; walk_at "my_facts"); (rename _ ∧ _ ∧ _ => ne'_m); (have nf1'_m := Mine.NeA.mk (And.left ne'_m)); (have nf2'_m := Mine.NeA.mk (And.left (And.right ne'_m))); (have nf3'_m := Mine.NeA.mk (And.right (And.right ne'_m))); (clear ne'_m); (try dsimp only))
            k_steps
            all_goals ((try dsimp only); (try k_unfold); (try dsimp only))
            exact LCg.CompEnd.intro F2 N2 _ (fun _ h => h) off trivial ⟨rfl, ords_step' hy hcc7 hI⟩
          · intro ys7 hI
            rw [ords_all' hy] at hI
            clear F7 N7
            k_steps
            all_goals (repeat' (first | ((k_here; (with_reducible show wpAny _ _ (call (Value.builtin _) [Value.ref _, Value.ref _]) _ _ _); k_dflt (refine' Mine.extend_ints ?F ?N ?b_m ?i_m ?j_m ?U_m ?z_m ?y_m ?_; (case F => k_asm); (case N => k_asm); (case b_m => k_mem); (case U_m => k_upd); (case i_m => assumption); (case j_m => assumption); (case z_m => (simp; done)); (case y_m => (simp only [List.length_append, List.length_cons, List.length_nil]; omega))); intro h'_m F'_m N'_m hI'_m; (try dsimp only at N'_m)); k_steps)))
            all_goals ((try dsimp only); (try k_unfold); (try dsimp only))
            rename Fr _ _ _ _ => F8
            rename News _ _ _ _ => N8
            rename IntsAre _ (_ ++ (_ ++ [10])) => hI8
            have hW := write_finish (n' := rr.n + 1) (news_sub N8 (by ((repeat (refine List.forall_mem_cons.mpr ⟨by k_mem, ?_⟩)); (exact fun q hq => by repeat (first | exact hq | refine List.mem_cons_of_mem _ ?_))))) S3.s1 S.s2 S3.nd hrk hrn hI8 (in10 hob) (by rw [List.length_append]; show os.length + 1 ≤ 1001; omega)
            obtain ⟨rs9, N9, S9, e9⟩ := hW
            subst f3
            exact conT_end hR KtsTurn.refl F8 N9 (fun _ h => h) ⟨cdO, so3, to3, so2, to2, rs3, rs9, fs3, rfl, rfl, cdH.mono (by omega), ⟨st_mono S9.s1 (by omega) (by omega), st_mono S9.s2 (by omega) (by omega), S9.nd⟩, by rw [e3, e9, ha, hy]⟩
        · have hsd2 := S.s2.sdict
          have hlo2 := S.s2.los
          have hvn : valueAt (kvsR rs2) ([0, 1, 15, 7].getD r'.toNat 0) = none := by
            rcases rec_split rs2 ([0, 1, 15, 7].getD r'.toNat 0) S.s2.nod with ⟨h1, h2'⟩ | ⟨ra, rr, rb, rfl, hrk, hrn, hrv⟩
            · exact h1
            · exact absurd (keys_same ha.symm ⟨rr, List.mem_append_right _ (.head _), hrk⟩) hop
          refine' Mine.con_useR (C := 88) (d := 8) (u := 60) (conR_conv (write_no w lib ld td sd t1 t2 _ _ so to rs fs B K _ _ S.s1 (fun r hr e => hop ⟨r, hr, e⟩) hLat ?qap) ?qs9 (nd_or (ds_box (o' := cdO) S).nd ?qs9)) ?B F3 N4 ?X ?T ?D ?hf ?hk (fun q hq => hq) ?hd ?hu ?_
          case qap => (focus (repeat' (first | exact True.intro | assumption | refine And.intro ?_ ?_ | (refine ⟨?_⟩; k_ne))))
          case qs9 => exact List.forall_mem_cons.mpr ⟨.tail _ (.head _), List.forall_mem_cons.mpr ⟨.tail _ (.tail _ (.head _)), List.forall_mem_cons.mpr ⟨.tail _ (.tail _ (.tail _ (.head _))), List.forall_mem_nil _⟩⟩⟩
          ((case B => assumption); (case X => assumption); (case T => assumption); (case D => assumption); (case hf => exact rfl); (case hk => exact rfl); (case hd => ((try dsimp only); omega)); (case hu => ((try dsimp only); omega)))
          intro e9 t9 vs9 h9 tk9 G9 FG9 hG9 hS9 hU9
          clear hG9 F3 N4
          try dsimp only
          k_steps
          all_goals (repeat' (first | ((k_here; k_dflt (refine' kdg_notin (knd := PySem.intKind _ _) ?qN9_m ?qm9_m ?qd9_m ?ql9_m (intKind_is _ _ _ _) _ rfl ?_; (case qN9_m => k_asm); (case qm9_m => k_mem); (case qd9_m => assumption); (case ql9_m => assumption))); k_steps)))
          all_goals ((try dsimp only); (try k_unfold); (try dsimp only))
          exact conT_end hR (by assumption) (by assumption) (by assumption) (fun _ h => h) ⟨cdO, so, to, so2, to2, rs, rs2, fs, by rw [hvn]; rfl, rfl, cdH.mono (by omega), ⟨st_mono S.s1 (by omega) (by omega), st_mono S.s2 (by omega) (by omega), S.nd⟩, ha⟩
  · rename Fr _ _ _ _ => F1
    rename News _ _ _ _ => N1
    have N2 := news_sub (pre := (b, o') :: (lib, instObj 292 ld) :: (ld, libDict w t1 t2 td sd) :: (sd, so) :: (td, to) :: (sl, so2) :: (fl, to2) :: (chunks rs ++ chunks rs2)) N1 (by ((repeat (refine List.forall_mem_cons.mpr ⟨by k_mem, ?_⟩)); (exact fun q hq => by repeat (first | exact hq | refine List.mem_cons_of_mem _ ?_))))
    clear N1
    delta Halt
    refine' lib_call (close_lp _ _ S.s1 (by omega) (by omega) (ds_lib S)) (ds_box S) (Nat.le_refl _) (Nat.le_refl _) ?B F1 N2 ?X ?T ?D ?hf ?hk ?hd ?hu ?_
    ((case B => assumption); (case X => assumption); (case T => assumption); (case D => assumption); (case hf => exact rfl); (case hk => exact rfl); (case hd => ((try dsimp only); omega)); (case hu => ((try dsimp only); omega)))
    intro h2 tk2 so3 to3 rs3 fs3 F3 N3 S3 hE9
    have e3 := hE9.1
    have f3 := hE9.2
    clear hE9
    clear F1 N2
    k_steps
    all_goals ((try dsimp only); (try k_unfold); (try dsimp only))
    delta Halt
    refine' law_call (shut_lp _ _ S3.s2 (by omega) (by omega) (ds_law S3)) S3 (Nat.le_refl _) (Nat.le_refl _) ?B F3 N3 ?X ?T ?D ?hf ?hk ?hd ?hu ?_
    ((case B => assumption); (case X => assumption); (case T => assumption); (case D => assumption); (case hf => exact rfl); (case hk => exact rfl); (case hd => ((try dsimp only); omega)); (case hu => ((try dsimp only); omega)))
    intro h4 tk4 so4 to4 rs4 fs4 F4 N4 S4 hE9
    have e4 := hE9.1
    have f4 := hE9.2
    clear hE9
    clear F3 N3
    k_steps
    all_goals ((try dsimp only); (try k_unfold); (try dsimp only))
    have hff : fs4 = fs3 := by rw [f3, f4, ha]
    rw [hff] at S4
    exact conT_end hR KtsTurn.refl F4 N4 (fun _ h => h) ⟨o', so3, to3, so4, to4, rs3, rs4, fs3, rfl, rfl, ho'.mono (by omega), ⟨st_mono S4.s1 (by omega) (by omega), st_mono S4.s2 (by omega) (by omega), S4.nd⟩, by rw [e3, e4, ha]⟩
  · rename Fr _ _ _ _ => F1
    rename News _ _ _ _ => N1
    have N2 := news_sub (pre := (b, o') :: (lib, instObj 292 ld) :: (ld, libDict w t1 t2 td sd) :: (sd, so) :: (td, to) :: (sl, so2) :: (fl, to2) :: (chunks rs ++ chunks rs2)) N1 (by ((repeat (refine List.forall_mem_cons.mpr ⟨by k_mem, ?_⟩)); (exact fun q hq => by repeat (first | exact hq | refine List.mem_cons_of_mem _ ?_))))
    clear N1
    delta Halt
    refine' lib_call (closeall_lp S.s1 (by omega) (by omega) (ds_lib S)) (ds_box S) (Nat.le_refl _) (Nat.le_refl _) ?B F1 N2 ?X ?T ?D ?hf ?hk ?hd ?hu ?_
    ((case B => assumption); (case X => assumption); (case T => assumption); (case D => assumption); (case hf => exact rfl); (case hk => exact rfl); (case hd => ((try dsimp only); omega)); (case hu => ((try dsimp only); omega)))
    rintro h2 tk2 so3 to3 rs3 fs3 F3 N3 S3 P3
    clear F1 N2
    unfold deedL at N3
    have hsd3 := S3.s2.sdict
    have hlo3 := S3.s2.los
    have hkl3 : (kvsR rs2).length < 64 := by have := S3.s2.size; unfold kvsR; rw [List.length_map]; omega
    k_steps
    all_goals (repeat' (first | ((k_here; (with_reducible show wpAny _ _ (call (Value.builtin "sorted") [Value.ref _]) _ _ _); k_dflt (refine' Mine.sorted_dict ?qh9_m ?qF9_m ?qN9_m ?qm9_m ?qd9_m ?ql9_m ?qn9_m ?_; (case qh9_m => rfl); (case qF9_m => k_asm); (case qN9_m => k_asm); (case qm9_m => k_mem); (case qd9_m => assumption); (case ql9_m => assumption); (case qn9_m => assumption)); intro sD' h' tk' sc' sv' sn' F' N' l1 si' sp' so'; (k_lt l1)); k_steps)))
    all_goals ((try dsimp only); (try k_unfold); (try dsimp only))
    rename Fr _ _ _ _ => F4
    rename News _ _ _ _ => N4
    have esz : sv'.toArray.size = sn'.length := by rw [List.size_toArray, si'.length]
    have hn4 : ∀ q ∈ deedL w b lib ld td sd sl fl t1 t2 o' so3 to3 so2 to2 rs3 rs2, q.1 ≠ sD' := AllNeR.out (show AllNeR sD' (deedL w b lib ld td sd sl fl t1 t2 o' so3 to3 so2 to2 rs3 rs2) from ⟨by assumption, by assumption, by assumption, by assumption, by assumption, by assumption, by assumption, by assumption⟩)
    delta Halt
    refine for_list (σ := Obj × Obj × List Rec × FS) (fun c => (sD', W.listOf sv'.toArray sc') :: deedL w b lib ld td sd sl fl t1 t2 o' so3 to3 c.1 c.2.1 rs3 c.2.2.1) (fun _ => [(Str.ofString "files", .ref fl), (Str.ofString "streams", .ref sl)])
      (fun i c => DS w b lib ld td sd sl fl t1 t2 o' so3 to3 c.1 c.2.1 rs3 c.2.2.1 fs3 c.2.2.2 B K ∧ Nd ((sD', W.listOf sv'.toArray sc') :: deedL w b lib ld td sd sl fl t1 t2 o' so3 to3 c.1 c.2.1 rs3 c.2.2.1) ∧ (absR c.2.2.1, c.2.2.2) = (sn'.take i).foldl shut1 (absR rs2, fs)) (so2, to2, rs2, fs)
      rfl (.head _) (fun _ _ _ => .head _) F4 N4 (loc2 rfl rfl) ⟨S3, nd_cons hn4 S3.nd, rfl⟩ ?_ ?_
    · rintro i v ⟨so5, to5, rs5, fs5⟩ u h tk I oI hv ⟨S5, nd5, e5⟩ hne F5 N5
      obtain ⟨k, tk', rfl, hk⟩ := IntsAre.at si' i v (by simpa using hv)
      dsimp only [envOf] at F5 N5 S5 nd5 e5 hne
      clear F4 N4
      try k_fold
      k_steps
      all_goals ((try dsimp only); (try k_unfold); (try dsimp only))
      delta Halt
      refine' law_callJ (jk := [(I, oI), (sD', W.listOf sv'.toArray sc')]) (shut_lp _ _ S5.s2 (by omega) (by omega) (ds_law S5)) S5.s1 (Nat.le_refl _) (Nat.le_refl _) ?B F5 N5 (nd_cons hne nd5) ?X ?T ?D ?hf ?hk ?hd ?hu ?_
      ((case B => assumption); (case X => assumption); (case T => assumption); (case D => assumption); (case hf => exact rfl); (case hk => exact rfl); (case hd => ((try dsimp only); omega)); (case hu => ((try dsimp only); omega)))
      intro h6 tk6 so6 to6 rs6 fs6 F6 N6 nd6 S6 hE9
      have e6 := hE9.1
      have f6 := hE9.2
      clear hE9
      clear F5 N5
      k_steps
      all_goals ((try dsimp only); (try k_unfold); (try dsimp only))
      refine turn_end (so6, to6, rs6, fs6) (by assumption) (by assumption) (.head _) (fun q hq => .tail _ hq) (fun q hq => nd_head nd6 q hq) (loc2 rfl rfl) ⟨S6, nd_tail nd6, ?_⟩
      dsimp only
      rw [e6, f6]
      exact shut1_step hk e5
    · rintro ⟨so5, to5, rs5, fs5⟩ u h tk ⟨S5, nd5, e5⟩ F5 N5
      dsimp only [envOf] at F5 N5 S5 nd5 e5
      clear F4 N4
      try k_fold
      k_steps
      all_goals ((try dsimp only); (try k_unfold); (try dsimp only))
      rw [esz, List.take_length] at e5
      have P5 : AllShut (absR rs2) fs (absR rs5) fs5 := ⟨sn', by rw [keys_abs, ← keys_kvs]; exact sp', so', e5⟩
      rw [ha] at P3
      obtain ⟨ea, ef⟩ := allShut_eq P3 P5
      subst ef
      exact conT_end hR KtsTurn.refl F5 N5 (fun _ h => .tail _ h) ⟨o', so3, to3, so5, to5, rs3, rs5, fs3, rfl, rfl, ho'.mono (by omega), ⟨st_mono S5.s1 (by omega) (by omega), st_mono S5.s2 (by omega) (by omega), S5.nd⟩, ea⟩
end Mine
end
section
local macro_rules | `(tactic| walk_at "exec For Name Call cons nil") => `(tactic| (k_here; refine Mine.Halt.out ?_))
local macro_rules | `(tactic| walk_at "eval IfExp") => `(tactic| (k_here; refine Mine.Halt.out ?_))
namespace Mine
def KvOk (kv : FS) : Prop := kv = [] ∨ ∃ b t, kv = [(Str.ofString "a", .bytes b t)]
def RMid (w : World) (h₀ : Heap) (L : Addr) (m : Str → Option Value) (b : Addr) (Z : Int) (s : Shared) (v : Value) (s' : Shared) : Prop :=
  ∃ (d : Addr) (fo : Obj) (kv : FS) (o2 : Obj) (h' : Heap) (tk' : Nat), v = .ref d ∧ s' = { s with heap := h', toks := tk' } ∧ Fr h₀ L h' m ∧ News h₀ L h' [(d, fo), (b, o2)] ∧ fo.IsDictOf (strKind PR w) kv ∧ KvOk kv ∧ (d == sysModules) = false ∧ BoxO (Z + 2) o2 ∧ NeA d b
theorem right_mid {M : Model} {A : Around} {w : World} {h₀ : Heap} {L : Addr} {m : Str → Option Value} {b : Addr} {Z : Int} {s : Shared} {c : Sem Value} {Q E : Value → Shared → Prop} (F : Fr h₀ L s.heap m) (h1 : wpAny M A c (fun v s' => RMid w h₀ L m b Z s v s') E s)
    (h2 : ∀ d fo kv o2 h' tk', Fr h₀ L h' m → News h₀ L h' [(d, fo), (b, o2)] → fo.IsDictOf (strKind PR w) kv → KvOk kv → (d == sysModules) = false → BoxO (Z + 2) o2 → NeA d b → Q (.ref d) { s with heap := h', toks := tk' }) : wpAny M A c Q E s :=
  wpAny_mono h1 (fun v s' hq => by
    obtain ⟨d, fo, kv, o2, h', tk', rfl, rfl, F2, N2, hdf, hkv, hdl, ho2, hdb⟩ := hq
    exact h2 d fo kv o2 h' tk' F2 N2 hdf hkv hdl ho2 hdb) fun _ _ e => e
theorem deed_like {w : World} {b lib ld td sd sl fl : Addr} {t1 t2 : Tok} {o so to so2 to2 : Obj} {rs rs2 : List Rec} (tl : List (Addr × Obj)) : (deedL w b lib ld td sd sl fl t1 t2 o so to so2 to2 rs rs2 ++ tl).Perm ([(lib, instObj 292 ld), (ld, libDict w t1 t2 td sd), (sd, so), (td, to), (sl, so2), (fl, to2)] ++ ((b, o) :: (chunks rs ++ chunks rs2 ++ tl))) :=
  (List.perm_middle (a := (b, o)) (l₁ := [(lib, instObj 292 ld), (ld, libDict w t1 t2 td sd), (sd, so), (td, to), (sl, so2), (fl, to2)]) (l₂ := chunks rs ++ chunks rs2 ++ tl)).symm
structure CS where
  (o so to so2 to2 : Obj) (rs rs2 : List Rec) (fs : FS)
theorem kv_len {kv : FS} (h : KvOk kv) : kv.length ≤ 1 := by rcases h with rfl | ⟨_, _, rfl⟩ <;> exact Nat.le_of_ble_eq_true rfl
theorem ds_init {w : World} {b lib ld td sd sl fl : Addr} {t1 t2 : Tok} {o so to so2 to2 : Obj} {kv : FS} (hkv : KvOk kv) (hso : so.IsDictOf (intKind PR w) []) (hto : to.IsDictOf (strKind PR w) kv) (htl : (td == sysModules) = false) (hsl : (sd == sysModules) = false)
    (hso2 : so2.IsDictOf (intKind PR w) []) (hto2 : to2.IsDictOf (strKind PR w) kv) (htl2 : (fl == sysModules) = false) (hsl2 : (sl == sysModules) = false) (ap : Apart [b, lib, ld, sd, td, sl, fl]) :
    DS w b lib ld td sd sl fl t1 t2 o so to so2 to2 [] [] (erF kv) (erF kv) 0 2 := by
  have hf : ∀ p ∈ erF kv, ∃ b, p.2 = Value.bytes b 0 := by
    rcases hkv with rfl | ⟨b, t, rfl⟩
    · exact fun _ h => nomatch h
    · intro p hp; rw [List.mem_singleton.mp hp]; exact ⟨b, rfl⟩
  have hl : (erF kv).length ≤ 2 := by rw [erF_length]; have := kv_len hkv; omega
  exact ⟨⟨⟨⟨kv, hto, rfl⟩, htl, (fun _ h => nomatch h), List.nodup_nil, by simpa using hl, hf⟩, hso, hsl⟩, ⟨⟨⟨kv, hto2, rfl⟩, htl2, (fun _ h => nomatch h), List.nodup_nil, by simpa using hl, hf⟩, hso2, hsl2⟩, nodup_apart ap⟩
theorem lib_any (w : World) (x dx fd : Addr) (fo : Obj) (kv : FS) (hkv : KvOk kv) (hf : fo.IsDictOf (strKind PR w) kv) (lo : (fd == sysModules) = false) (ap : Apart [x, dx, fd]) : Con w 256 [.ref x, .ref fd] 20 150 [(x, instObj 292 dx), (dx, emptyDict), (fd, fo)]
    (fun v led => v = .none ∧ ∃ (t1 t2 : Tok) (td sd : Addr) (to so : Obj), led = [(x, instObj 292 dx), (dx, libDict w t1 t2 td sd), (td, to), (sd, so), (fd, fo)] ∧ to.IsDictOf (strKind PR w) kv ∧ so.IsDictOf (intKind PR w) [] ∧
      (td == sysModules) = false ∧ (sd == sysModules) = false ∧ Apart [x, dx, td, sd, fd]) := by
  rcases hkv with rfl | ⟨b, t, rfl⟩
  · exact lib_init0 w x dx fd fo hf lo ap
  · exact lib_init1 w x dx fd fo t b hf lo ap
set_option maxHeartbeats 2000000 in
theorem right_con (w : World) (b : Addr) (o : Obj) (Z many : Int) (tm : Tok) (ho : BoxO Z o) (hZ : Z + 1000 ≤ 100000) (hm : 0 ≤ many) (hm2 : many ≤ 15) :
    ConT w 470 [.ref b, .int many tm] 70 600 [(b, o)] (fun v led => v = .bool true ∧ led = []) := by
  intro dp un gd base h₀ outer s R p loose mean mg mb A hR
  have hb : Binds [(Str.ofString "many", .int many tm), (Str.ofString "box", .ref b)] := ⟨⟩
  ( k_dflt (refine' Mine.con_enter (by assumption) (by assumption) ?k6_m ?k7_m ?k9_m ?kB_m ?_ ?c2_m ?c3_m ?c4_m ?c5_m; (case k6_m => k_is); (case k7_m => k_is); (case k9_m => first | exact BindsTo.of_eq rfl | exact binds_K (Frag.In.keeps (Mine.Amb.K (by assumption)) (fun b o e => Mine.Amb.keep (by assumption) b o (Below.stays (Mine.Amb.below (by assumption)) b o e))) rfl (by k_is) rfl rfl rfl); (case c5_m => decide); (case kB_m => exact locs rfl); (case c2_m => exact rfl); (case c3_m => exact rfl); (case c4_m => exact rfl)); intro L'_m h'_m tk_m F'_m N'_m l1_m X_m T_m; have B_m := Mine.Amb.below (by assumption); have XB_m := Mine.Amb.K (by assumption); have TB_m := Mine.Amb.T (by assumption); have D_m := Mine.Amb.dicts (by assumption); have hd_m := Mine.Amb.depth (by assumption); have hu_m := Mine.Amb.units (by assumption); rename Mine.Amb _ _ _ _ _ _ _ _ _ _ _ _ _ _ _ _ => hA_m; clear hA_m; rename Mine.Binds _ => hB_m; clear hB_m; (repeat ((rename Mine.Apart _ => ap'_m); refine Mine.Apart.imp ap'_m ?_; clear ap'_m; walk_at "my_facts")); (try k_lt l1_m); (try dsimp only); (try k_fold))
  k_steps
  all_goals ((try dsimp only); (try k_unfold); (try dsimp only))
  rename Fr _ _ _ _ => F1
  rename News _ _ _ _ => N1
  delta Halt
  refine right_mid (w := w) (b := b) (Z := Z) F1 ?_ ?_
  · with_reducible refine IfExp_ ?_
    k_steps
    all_goals (repeat' (first | ((k_here; k_dflt (refine' newDict_K ?k1_m ?k2_m ?k3_m ?_; (case k1_m => k_asm); (case k2_m => k_asm); (case k3_m => exact Top.nolimit (by assumption)); k_whole); intro eD eH eO F' N' l1 eL eS fs' eI fi'; clear fs' fi'; (try k_lt l1); (try k_sweep)); k_steps) | (delta Mine.Halt; (k_here; (with_reducible show wpAny _ _ (call (Value.ref 427) [Value.ref _, Value.int _ _]) _ _ _); k_dflt ( apply Mine.con_call (Mine.take_con _ _ _ _ _ _ ?ho_m ?hZ_m ?hm_m ?hm2_m); ( (case B => assumption); (case F => k_asm); (case N => k_asm); (case X => assumption); (case T => assumption); (case D => assumption); (case hf => exact rfl); (case hk => exact rfl); (case hP => ((repeat (apply Mine.picks_of; focus (((repeat (first | (refine' Mine.Pick.head ?pk9; (case pk9 => k_all)) | (apply Mine.Pick.tail; focus (k_ne; done))))); done))); exact rfl)); (case hd => ((try dsimp only); first | exact Mine.room (by assumption) rfl | exact Mine.room0 (by assumption) rfl | omega)); (case hu => ((try dsimp only); first | exact Mine.room (by assumption) rfl | exact Mine.room0 (by assumption) rfl | omega))); (case ho_m => assumption); (case hZ_m => (first | assumption | exact Mine.z0 (by assumption) (by decide) | exact Mine.z1 (by assumption) (by decide) | exact Mine.z2 (by assumption) (by decide) | exact Mine.z3 (by assumption) (by decide) | exact Mine.z4 (by assumption) (by decide) | omega)); (case hm_m => first | decide | omega); (case hm2_m => first | decide | omega); k_whole; intro v' h' tk' led' hv'; refine Mine.take_cps v' led' hv' ?_; clear hv'; intro r' t' o' hr1 hr2 ho' F' N' hne'; clear hne'; clear v' led'; (try simp only [List.cons_append, List.nil_append] at N'); (try k_sweep); (try dsimp only))); k_steps)))
    all_goals ((try dsimp only); (try k_unfold); (try dsimp only))
    · rename News _ _ _ _ => N2
      rename Obj.IsDictOf _ _ (strPairs _) => hdf
      exact ⟨_, _, _, _, _, _, rfl, rfl, by assumption, news_sub N2 (by ((repeat (refine List.forall_mem_cons.mpr ⟨by k_mem, ?_⟩)); exact List.forall_mem_nil _)), hdf, .inr ⟨_, _, rfl⟩, by assumption, ho'.mono (by omega), ⟨by k_ne⟩⟩
    · rename News _ _ _ _ => N2
      exact ⟨_, _, _, _, _, _, rfl, rfl, by assumption, news_sub N2 (by ((repeat (refine List.forall_mem_cons.mpr ⟨by k_mem, ?_⟩)); exact List.forall_mem_nil _)), by assumption, .inl rfl, by assumption, ho'.mono (by omega), ⟨by k_ne⟩⟩
  · intro d fo kv o2 h' tk' F2 N2 hdf hkv hdl ho2 hdb
    have hkl : kv.length ≤ sizeLine := by
      rw [sizeLine_eq]
      rcases hkv with rfl | ⟨_, _, rfl⟩ <;> exact Nat.le_of_ble_eq_true rfl
    clear F1 N1
    try dsimp only
    k_steps
    all_goals ((try dsimp only); (try k_unfold); (try dsimp only))
    delta Halt
    rename Fr _ _ _ _ => F3
    rename News _ _ _ _ => N3
    refine' Mine.con_make (pre := [(?fd9, ?fo9)]) (fun x9 dx9 hl9 hx9 => Mine.lib_any _ x9 dx9 ?fd9 ?fo9 kv hkv ?hf9 ?lo9 ?ap9) ?B ?F ?N ?X ?T ?D ?hf ?hk ?hm ?hi ?hft ?hP ?hd ?hu ?_
    case hm => k_is
    case hi => k_is
    case hft => k_is
    ( (case B => assumption); (case F => k_asm); (case N => k_asm); (case X => assumption); (case T => assumption); (case D => assumption); (case hf => exact rfl); (case hk => exact rfl); (case hP => ((repeat (apply Mine.picks_of; focus (((repeat (first | (refine' Mine.Pick.head ?pk9; (case pk9 => k_all)) | (apply Mine.Pick.tail; focus (k_ne; done))))); done))); exact rfl)); (case hd => ((try dsimp only); first | exact Mine.room (by assumption) rfl | exact Mine.room0 (by assumption) rfl | omega)); (case hu => ((try dsimp only); first | exact Mine.room (by assumption) rfl | exact Mine.room0 (by assumption) rfl | omega)))
    case hf9 => exact hdf
    case lo9 => exact hdl
    case ap9 => exact ⟨⟨⟨Nat.ne_of_gt hx9⟩, ⟨Nat.ne_of_gt (Nat.lt_trans (hl9 _ (by k_mem)) hx9)⟩, trivial⟩, ⟨⟨Nat.ne_of_gt (hl9 _ (by k_mem))⟩, trivial⟩, trivial, trivial⟩
    intro lib ld h4 tk4 led4 hE9
    refine exl6 led4 hE9 ?_
    clear hE9 led4
    intro t1 t2 td sd to so hp9
    have hto := hp9.1
    have hso := hp9.2.1
    have htl := hp9.2.2.1
    have hsl := hp9.2.2.2.1
    have lap := hp9.2.2.2.2
    clear hp9
    intro F4 N4 hne4
    clear F3 N3
    replace hne4 := Mine.allNeL hne4
    ((rename Mine.AllNeL _ _ => hn9'_m); refine Mine.AllNeL.imp hn9'_m ?_; clear hn9'_m; walk_at "my_facts")
    ((rename Mine.Apart _ => ap'_m); refine Mine.Apart.imp ap'_m ?_; clear ap'_m; walk_at "my_facts")
    try simp only [List.cons_append, List.nil_append] at N4
    try k_sweep
    try dsimp only
    k_steps
    all_goals (repeat' (first | ((k_here; k_dflt (refine' newDict_K ?k1_m ?k2_m ?k3_m ?_; (case k1_m => k_asm); (case k2_m => k_asm); (case k3_m => exact Top.nolimit (by assumption)); k_whole); intro eD eH eO F' N' l1 eL eS fs' eI fi'; clear fs' fi'; (try k_lt l1); (try k_sweep)); k_steps) | ((k_here; (with_reducible show wpAny _ _ (call (Value.type "dict") [Value.ref _]) _ _ _); k_dflt (refine' Mine.dict_copy (knd := PySem.strKind _ _) ?qF9_m ?qN9_m ?qb9_m ?qm9_m ?qd9_m ?ql9_m ?qz9_m ?_; (case qF9_m => k_asm); (case qN9_m => k_asm); (case qb9_m => exact Top.nolimit (by assumption)); (case qm9_m => k_mem); (case qd9_m => assumption); (case ql9_m => assumption); (case qz9_m => assumption); k_whole); intro cpd' h' cpo' F' N' l1 cpl' cph'; (k_lt l1)); k_steps)))
    all_goals ((try dsimp only); (try k_unfold); (try dsimp only))
    have S0 : DS w b lib ld td sd eD cpd' t1 t2 o2 so to eO cpo' [] [] (erF kv) (erF kv) 0 2 := ds_init hkv hso hto htl hsl eI cph' cpl' eL (by (focus (repeat' (first | exact True.intro | assumption | refine And.intro ?_ ?_ | (refine ⟨?_⟩; k_ne)))))
    rename Fr _ _ _ _ => F5
    rename News _ _ _ _ => N5
    have N6 := news_sub (pre := deedL w b lib ld td sd eD cpd' t1 t2 o2 so to eO cpo' [] []) N5 (by unfold deedL; ((repeat (refine List.forall_mem_cons.mpr ⟨by k_mem, ?_⟩)); exact List.forall_mem_nil _))
    clear N5
    delta Halt
    refine For_invV (hideAll h₀ (outer.filterMap (·.frame))) rfl rfl ?_
    k_steps
    all_goals ((try dsimp only); (try k_unfold); (try dsimp only))
    rename Fr _ _ _ _ => F7
    rename News _ _ _ _ => N7
    rename IsRange _ _ _ _ _ _ _ _ => hrg
    delta Halt
    refine for_genT (σ := CS) (n := many.toNat) (outer.filterMap (·.frame)) (fun c => deedL w b lib ld td sd eD cpd' t1 t2 c.o c.so c.to c.so2 c.to2 c.rs c.rs2) (fun _ => [(Str.ofString "files", .ref cpd'), (Str.ofString "library", .ref lib), (Str.ofString "streams", .ref eD), (Str.ofString "many", .int many tm), (Str.ofString "box", .ref b)])
      (fun i c => BoxO (Z + 2 + 40 * (i : Int)) c.o ∧ DS w b lib ld td sd eD cpd' t1 t2 c.o c.so c.to c.so2 c.to2 c.rs c.rs2 c.fs c.fs (1001 * i) (2 + 2 * i) ∧ absR c.rs = absR c.rs2) ⟨o2, so, to, eO, cpo', [], [], erF kv⟩
      rfl hrg (by omega) (by omega) F7 N7 (Loc.cons rfl (Loc.cons rfl (Loc.cons rfl (loc2 rfl rfl)))) ⟨by simpa using ho2, S0, rfl⟩ ?_ ?_
    · rintro i t ⟨o3, so3, to3, so4, to4, rs3, rs4, fs3⟩ u h tk I oI g hi ⟨hB3, S3, ha3⟩ T3 hne F8 N8
      dsimp only [envOf] at F8 N8 hB3 S3 ha3 hne
      clear F7 N7 hrg
      have hTG := turn_ground T3 (by assumption) (by assumption)
      have Bg := hTG.1
      have Dg := hTG.2
      clear hTG
      have Xg := Frag.In.keeps ‹(Mine.hd.heap_39 w.params).In base› Bg.stays
      have Tg := Top.keeps ‹Top p loose mean mg mb base› Bg.stays
      try k_fold
      k_steps
      all_goals ((try dsimp only); (try k_unfold); (try dsimp only))
      delta Halt
      refine' Mine.con_useT (rest := [(I, oI)]) (deed_con w b lib ld td sd eD cpd' t1 t2 o3 so3 to3 so4 to4 rs3 rs4 fs3 _ _ (Z + 2 + 40 * (i : Int)) hB3 (by omega) S3 ha3 (by omega) (by omega)) Bg F8 N8 ‹_› ‹_› Dg ?hf ?hk (fun q hq => .tail _ hq) ?hr ?hd ?hu ?_
      case hf => exact rfl
      case hk => exact rfl
      case hr => exact List.forall_mem_cons.mpr ⟨⟨.head _, fun r hr e => hne r hr e.symm⟩, List.forall_mem_nil _⟩
      case hd => (try dsimp only); omega
      case hu => (try dsimp only); omega
      rintro v9 h9 tk9 led9 g9 ⟨o5, so5, to5, so6, to6, rs5, rs6, fs5, rfl, rfl, hB5, S5, ha5⟩ T9 B9 X9 P9 D9 F9 N9 hne9
      clear F8 N8
      k_steps
      all_goals ((try dsimp only); (try k_unfold); (try dsimp only))
      delta Halt
      have Pm := deed_like (w := w) (b := b) (lib := lib) (ld := ld) (td := td) (sd := sd) (sl := eD) (fl := cpd') (t1 := t1) (t2 := t2) (o := o5) (so := so5) (to := to5) (so2 := so6) (to2 := to6) (rs := rs5) (rs2 := rs6) [(I, oI)]
      have nd5 : Nd (deedL w b lib ld td sd eD cpd' t1 t2 o5 so5 to5 so6 to6 rs5 rs6 ++ [(I, oI)]) := nd_append.mpr ⟨S5.nd, List.nodup_cons.mpr ⟨fun h => (nomatch h), List.nodup_nil⟩, hne9⟩
      have ap5 : Apart [lib, ld, sd, td, eD, cpd'] := (ds_apart S5).1.2
      refine' Mine.con_nd (like_con w lib ld td sd eD cpd' t1 t2 so5 to5 so6 to6 rs5 rs6 fs5 _ _ _ _ S5.s1 S5.s2 (by omega) ha5 ap5) B9 F9 N9 ‹_› ‹_› D9 ?hf ?hk Pm nd5 ?hd ?hu ?_
      case hf => exact rfl
      case hk => exact rfl
      case hd => (try dsimp only); omega
      case hu => (try dsimp only); omega
      intro v10 h10 tk10 led10 hE9
      refine eq2 v10 led10 hE9 ?_
      clear hE9 v10 led10
      intro F10 N10 _ _
      clear F9 N9
      k_steps
      all_goals ((try dsimp only); (try k_unfold); (try dsimp only))
      refine turn_endT ⟨o5, so5, to5, so6, to6, rs5, rs6, fs5⟩ (T3.trans T9) (by assumption) (news_sub N10 fun q hq => Pm.subset hq) (List.mem_append_right _ (.head _)) (fun q hq => List.mem_append_left _ hq) (fun q hq => hne9 q hq _ (.head _)) (Loc.cons rfl (Loc.cons rfl (Loc.cons rfl (loc2 rfl rfl)))) ⟨hB5.mono (by omega), ⟨st_mono S5.s1 (by omega) (by omega), st_mono S5.s2 (by omega) (by omega), S5.nd⟩, ha5⟩
    · rintro ⟨o3, so3, to3, so4, to4, rs3, rs4, fs3⟩ u h tk g ⟨hB3, S3, ha3⟩ T3 F8 N8
      dsimp only [envOf] at F8 N8 hB3 S3 ha3
      clear F7 N7 hrg
      have hTG := turn_ground T3 (by assumption) (by assumption)
      have Bg := hTG.1
      have Dg := hTG.2
      clear hTG
      have Xg := Frag.In.keeps ‹(Mine.hd.heap_39 w.params).In base› Bg.stays
      have Tg := Top.keeps ‹Top p loose mean mg mb base› Bg.stays
      have ap3 := (ds_apart S3).1
      have of3 := (ds_apart S3).2
      have hxa := (nameOk_lat (.inl rfl : NameOk (Str.ofString "a"))).1
      have hxn := (nameOk_lat (.inl rfl : NameOk (Str.ofString "a"))).2
      ((rename Mine.Offs _ _ => ap'_m); refine Mine.Offs.imp ap'_m ?_; clear ap'_m; walk_at "my_facts")
      ((rename Mine.Apart _ => ap'_m); refine Mine.Apart.imp ap'_m ?_; clear ap'_m; walk_at "my_facts")
      unfold deedL at N8
      try k_fold
      k_steps
      all_goals (repeat' (first | (delta Mine.Halt; (k_here; (with_reducible show wpAny _ _ (call (Value.ref 463) [Value.ref _, _, Value.str _ _]) _ _ _); k_dflt ( (first | apply Mine.con_callT (Mine.refused_name _ _ _ _ _ _ _ _ _ _ ?ap) | apply Mine.con_callT (Mine.refused_int _ _ _ _ _ _ _ _ _ _ _ hxa hxn ?hk9 ?ap) | apply Mine.con_callT (Mine.refused_bool _ _ _ _ _ _ _ _ _ _ hxa hxn ?ap)); ((case B => assumption); (case F => k_asm); (case N => k_asm); (case X => assumption); (case T => assumption); (case D => assumption); (case hf => exact rfl); (case hk => exact rfl); (case hP => ((repeat (apply Mine.picks_of; focus (((repeat (first | (refine' Mine.Pick.head ?pk9; (case pk9 => k_all)) | (apply Mine.Pick.tail; focus (k_ne; done))))); done))); exact rfl)); (case hd => ((try dsimp only); first | exact Mine.room (by assumption) rfl | exact Mine.room0 (by assumption) rfl | omega)); (case hu => ((try dsimp only); first | exact Mine.room (by assumption) rfl | exact Mine.room0 (by assumption) rfl | omega)); (case T0 => assumption)); (case ap => (focus (repeat' (first | exact True.intro | assumption | refine And.intro ?_ ?_ | (refine ⟨?_⟩; k_ne))))); (try (case hk9 => omega)); intro v' h' tk' led' g' hv'; refine Mine.eq2 v' led' hv' ?_; clear hv' v' led'; intro T' B' X' P' D' F' N' hne'; clear hne'; (try simp only [List.cons_append, List.nil_append] at N'); (try k_sweep); (try dsimp only))); k_steps)))
      all_goals ((try dsimp only); (try k_unfold); (try dsimp only))
      have NA := news_sub (pre := (b, o3) :: (lib, instObj 292 ld) :: (ld, libDict w t1 t2 td sd) :: (sd, so3) :: (td, to3) :: (eD, so4) :: (cpd', to4) :: (chunks rs3 ++ chunks rs4)) N' (by ((repeat (refine List.forall_mem_cons.mpr ⟨by k_mem, ?_⟩)); (exact fun q hq => by repeat (first | exact hq | refine List.mem_cons_of_mem _ ?_))))
      have hK3 : 2 + 2 * many.toNat ≤ 40 := by omega
      have hB3' : 1001 * many.toNat ≤ 80000 := by omega
      have hZn : Z + 2 + 40 * (many.toNat : Int) ≤ Z + 700 := by omega
      delta Halt
      refine' lib_call (closeall_lp S3.s1 (by omega) (by omega) (ds_lib S3)) S3 (Nat.le_refl _) (Nat.le_refl _) B' F' NA ‹_› ‹_› D' ?hf ?hk ?hd ?hu ?_
      case hf => exact rfl
      case hk => exact rfl
      case hd => (try dsimp only); omega
      case hu => (try dsimp only); omega
      rintro h2 tk2 so5 to5 rs5 fs5 F9 N9 S9 P9
      clear F8
      unfold deedL at N9
      have hsd9 := S9.s2.sdict
      have hlo9 := S9.s2.los
      have hkl9 : (kvsR rs4).length < 64 := by have := S9.s2.size; unfold kvsR; rw [List.length_map]; omega
      k_steps
      all_goals ((try dsimp only); (try k_unfold); (try dsimp only))
      delta Halt
      walk_at "my_for"
      k_steps
      all_goals (repeat' (first | ((k_here; (with_reducible show wpAny _ _ (call (Value.builtin "sorted") [Value.ref _]) _ _ _); k_dflt (refine' Mine.sorted_dict ?qh9_m ?qF9_m ?qN9_m ?qm9_m ?qd9_m ?ql9_m ?qn9_m ?_; (case qh9_m => rfl); (case qF9_m => k_asm); (case qN9_m => k_asm); (case qm9_m => k_mem); (case qd9_m => assumption); (case ql9_m => assumption); (case qn9_m => assumption)); intro sD' h' tk' sc' sv' sn' F' N' l1 si' sp' so'; (k_lt l1)); k_steps)))
      all_goals ((try dsimp only); (try k_unfold); (try dsimp only))
      rename Fr _ _ _ _ => F10
      rename News _ _ _ _ => N10
      have esz : sv'.toArray.size = sn'.length := by rw [List.size_toArray, si'.length]
      have hn4 : ∀ q ∈ deedL w b lib ld td sd eD cpd' t1 t2 o3 so5 to5 so4 to4 rs5 rs4, q.1 ≠ sD' := AllNeR.out (show AllNeR sD' (deedL w b lib ld td sd eD cpd' t1 t2 o3 so5 to5 so4 to4 rs5 rs4) from ⟨by assumption, by assumption, by assumption, by assumption, by assumption, by assumption, by assumption, by assumption⟩)
      delta Halt
      refine for_list (σ := Obj × Obj × List Rec × FS) (fun c => (sD', W.listOf sv'.toArray sc') :: deedL w b lib ld td sd eD cpd' t1 t2 o3 so5 to5 c.1 c.2.1 rs5 c.2.2.1) (fun _ => [(Str.ofString "files", .ref cpd'), (Str.ofString "library", .ref lib), (Str.ofString "streams", .ref eD), (Str.ofString "box", .ref b)])
        (fun i c => DS w b lib ld td sd eD cpd' t1 t2 o3 so5 to5 c.1 c.2.1 rs5 c.2.2.1 fs5 c.2.2.2 (1001 * many.toNat) (2 + 2 * many.toNat) ∧ Nd ((sD', W.listOf sv'.toArray sc') :: deedL w b lib ld td sd eD cpd' t1 t2 o3 so5 to5 c.1 c.2.1 rs5 c.2.2.1) ∧ (absR c.2.2.1, c.2.2.2) = (sn'.take i).foldl shut1 (absR rs4, fs3)) (so4, to4, rs4, fs3)
        rfl (.head _) (fun _ _ _ => .head _) F10 N10 (Loc.cons rfl (Loc.cons rfl (loc2 rfl rfl))) ⟨S9, nd_cons hn4 S9.nd, rfl⟩ ?_ ?_
      · rintro i v ⟨so6, to6, rs6, fs6⟩ u h tk I oI hv ⟨S6, nd6, e6⟩ hne F11 N11
        obtain ⟨k, tk', rfl, hk⟩ := IntsAre.at si' i v (by simpa using hv)
        dsimp only [envOf] at F11 N11 S6 nd6 e6 hne
        clear F10 N10
        try k_fold
        k_steps
        all_goals ((try dsimp only); (try k_unfold); (try dsimp only))
        delta Halt
        refine' law_callJ (jk := [(I, oI), (sD', W.listOf sv'.toArray sc')]) (shut_lp _ _ S6.s2 (by omega) (by omega) (ds_law S6)) S6.s1 (Nat.le_refl _) (Nat.le_refl _) B' F11 N11 (nd_cons hne nd6) ‹_› ‹_› D' ?hf ?hk ?hd ?hu ?_
        case hf => exact rfl
        case hk => exact rfl
        case hd => (try dsimp only); omega
        case hu => (try dsimp only); omega
        intro h6 tk6 so7 to7 rs7 fs7 F12 N12 nd7 S7 hE9
        have e7 := hE9.1
        have f7 := hE9.2
        clear hE9
        clear F11 N11
        k_steps
        all_goals ((try dsimp only); (try k_unfold); (try dsimp only))
        refine turn_end (so7, to7, rs7, fs7) (by assumption) (by assumption) (.head _) (fun q hq => .tail _ hq) (fun q hq => nd_head nd7 q hq) (Loc.cons rfl (Loc.cons rfl (loc2 rfl rfl))) ⟨S7, nd_tail nd7, ?_⟩
        dsimp only
        rw [e7, f7]
        exact shut1_step hk e6
      · rintro ⟨so6, to6, rs6, fs6⟩ u h tk ⟨S6, nd6, e6⟩ F11 N11
        dsimp only [envOf] at F11 N11 S6 nd6 e6
        clear F10 N10
        try k_fold
        k_steps
        all_goals ((try dsimp only); (try k_unfold); (try dsimp only))
        rw [esz, List.take_length] at e6
        have P6 : AllShut (absR rs4) fs3 (absR rs6) fs6 := ⟨sn', by rw [keys_abs, ← keys_kvs]; exact sp', so', e6⟩
        rw [ha3] at P9
        have ea := (allShut_eq P9 P6).1
        have ef := (allShut_eq P9 P6).2
        rw [← ef] at S6
        have Pm := deed_like (w := w) (b := b) (lib := lib) (ld := ld) (td := td) (sd := sd) (sl := eD) (fl := cpd') (t1 := t1) (t2 := t2) (o := o3) (so := so5) (to := to5) (so2 := so6) (to2 := to6) (rs := rs5) (rs2 := rs6) []
        have N12 := news_sub (pre := deedL w b lib ld td sd eD cpd' t1 t2 o3 so5 to5 so6 to6 rs5 rs6 ++ []) N11 (fun q hq => .tail _ (by rw [List.append_nil] at hq; exact hq))
        have nd12 : Nd (deedL w b lib ld td sd eD cpd' t1 t2 o3 so5 to5 so6 to6 rs5 rs6 ++ []) := by simpa using S6.nd
        delta Halt
        refine' Mine.con_nd (like_con w lib ld td sd eD cpd' t1 t2 so5 to5 so6 to6 rs5 rs6 fs5 _ _ _ _ S6.s1 S6.s2 (by omega) ea (ds_apart S6).1.2) B' F11 N12 ‹_› ‹_› D' ?hf ?hk Pm nd12 ?hd ?hu ?_
        case hf => exact rfl
        case hk => exact rfl
        case hd => (try dsimp only); omega
        case hu => (try dsimp only); omega
        intro v10 h10 tk10 led10 hE9
        refine eq2 v10 led10 hE9 ?_
        clear hE9 v10 led10
        intro F13 N13 _ _
        have N14 := news_sub (pre := [(b, o3)]) N13 (List.forall_mem_cons.mpr ⟨List.mem_append_right _ (.head _), List.forall_mem_nil _⟩)
        clear F11 N11 N13 N12
        have hB9 := hB3.mono hZn
        clear hB3
        k_steps
        all_goals (repeat' (first | (delta Mine.Halt; (k_here; (with_reducible show wpAny _ _ (call (Value.ref 434) [Value.ref _, Value.int _ _]) _ _ _); k_dflt ( apply Mine.con_callX5 (Mine.codes_con _ _ _ _ _ _ ?ho_m ?hZ_m ?hm_m ?hm2_m); ( (case B => assumption); (case F => k_asm); (case N => k_asm); (case X => assumption); (case T => assumption); (case D => assumption); (case hf => exact rfl); (case hk => exact rfl); (case hP => ((repeat (apply Mine.picks_of; focus (((repeat (first | (refine' Mine.Pick.head ?pk9; (case pk9 => k_all)) | (apply Mine.Pick.tail; focus (k_ne; done))))); done))); exact rfl)); (case hd => ((try dsimp only); first | exact Mine.room (by assumption) rfl | exact Mine.room0 (by assumption) rfl | omega)); (case hu => ((try dsimp only); first | exact Mine.room (by assumption) rfl | exact Mine.room0 (by assumption) rfl | omega))); (case ho_m => assumption); (case hZ_m => omega); (case hm_m => omega); (case hm2_m => omega); k_whole; intro h' tk' cdA cdV cdN cdK cdO hp9'; (have cdH := And.left hp9'); (have cdI := And.left (And.right hp9')); (have cdC := And.left (And.right (And.right hp9'))); (have cdL := And.left (And.right (And.right (And.right hp9')))); (have cdE := And.right (And.right (And.right (And.right hp9')))); clear hp9'; intro F' N' hne'; (((rename Mine.AllNeL _ _ => hn9'_m); refine Mine.AllNeL.imp hn9'_m ?_; clear hn9'_m; walk_at "my_facts")); (try simp only [List.cons_append, List.nil_append] at N'); (try k_sweep); (try dsimp only))); k_steps)))
        all_goals ((try dsimp only); (try k_unfold); (try dsimp only))
        rename Fr _ _ _ _ => F15
        rename News _ _ _ _ => N15
        have hcc : CodesOk (cdN ++ [33]) := fun c hc => by
          rcases List.mem_append.mp hc with hc | hc
          · exact cdC c hc
          · rw [List.mem_singleton.mp hc]; exact ⟨by decide, by decide, by decide⟩
        have hcl : (cdN ++ [33]).length ≤ 1000 := by rw [List.length_append]; show cdN.length + 1 ≤ 1000; omega
        delta Halt
        refine' Mine.con_use (rest := []) (visright_con w cdA 0 0 (cdN ++ [33]) cdN cdV cdK cdI hcc rfl hcl) B' F15 N15 ‹_› ‹_› D' ?hf ?hk (List.forall_mem_cons.mpr ⟨.head _, List.forall_mem_nil _⟩) (fun _ h => nomatch h) ?hd ?hu ?_
        case hf => exact rfl
        case hk => exact rfl
        case hd => (try dsimp only); omega
        case hu => (try dsimp only); omega
        intro v16 h16 tk16 led16 hE9
        refine eq2 v16 led16 hE9 ?_
        clear hE9 v16 led16
        intro F16 N16 _
        k_steps
        all_goals ((try dsimp only); (try k_unfold); (try dsimp only))
        exact conT_end hR T' F16 N16 (List.forall_mem_nil _) ⟨rfl, rfl⟩
end Mine
end
end
end
namespace Mine
section
variable {w : World} {A₀ : Around} {base h₀ : Heap} {s : Shared} {L : Addr} {m : Str → Option Value} {news pre rest : List (Addr × Obj)} {env : Env}
  {dp un d u : Nat} {gd : Option (List Code)} {f : Addr} {args : List Value} {post : Value → List (Addr × Obj) → Prop} {Q E : Value → Shared → Prop}
  {p : Program} {loose : List Str} {mean : ExcName → Option Value} {mg mb : Str → Option Value}
theorem con_useT0 (C : ConT w f args d u pre post) (B : Below A₀ base [] h₀) (F : Fr h₀ L s.heap m) (N : News h₀ L s.heap news) (X : (Mine.hd.heap_39 w.params).In base) (T : Top p loose mean mg mb base)
    (hf : env.frame = some L) (hk : env.scope.kind = .function) (hP : Picks pre news rest) (hd : dp + d < recursionLimit) (hu : un + u < cLine)
    (h : ∀ v h' tk' led, post v led → Fr h₀ L h' m → News h₀ L h' (led ++ rest) → (∀ q ∈ led, ∀ r ∈ rest, q.1 ≠ r.1) → Q v { s with heap := h', toks := tk' }) :
    wpAny (model PySem.Challenge.rw_sq0039_01.row.prog w) (⟨none, dp, some [env], gd, un⟩ : Around) (call (.ref f) args) Q E s :=
  con_useT C B F N X T ktsDicts_nil hf hk hP.sub.1 hP.sub.2 hd hu fun v h' tk' led g' hp T' _ _ _ _ F' N' hne =>
    h v h' tk' led hp ⟨F'.ns, fun b o e => F'.keep b o (T'.other b o e (fun hm => nomatch hm)), by rw [← T'.size]; exact F'.above⟩
      (fun q hq => ⟨(N' q hq).1, (N' q hq).2.1, by
        cases e : h₀.get? q.1 with
        | none => rfl
        | some o =>
          have h1 := (N' q hq).2.2
          rw [T'.other _ o e (fun hm => nomatch hm)] at h1; cases h1⟩) hne
end
section
variable {prog : Program} {w : World} {A : Around} {E : Value → Shared → Prop} {s : Shared} {env : Env} {h₀ : Heap} {x : Str} {body : List Stmt} {Q : Flow → Shared → Prop}
theorem for_law {r : Addr} {b₀ : Int} {t₀ u₀ v₀ : Tok} {m₀ : Str → Option Value} (ps : List (Str × Value))
    (hh : A.handled = none) (hr : IsRange s.heap r 0 b₀ 1 t₀ u₀ v₀) (h0 : 0 ≤ b₀) (h3 : b₀ ≤ 3) (F : Fr h₀ env.locals s.heap m₀) (hk : Loc ps m₀)
    (turn : ∀ (i : Nat) t u h tk I o, (i : Int) ≤ 2 → Fr h₀ env.locals h (fun y => if y = x then some (.int (i : Int) t) else kstB u ps y) → News h₀ env.locals h [(I, o)] →
      wpAny (model prog w) A (execs body env) (TurnEnd h₀ env.locals I o (fun _ : Unit => []) (fun _ => ps) (fun _ => True) { s with heap := h, toks := tk } Q) E { s with heap := h, toks := tk })
    (done : ∀ u h tk, Fr h₀ env.locals h (kstB u ps) → News h₀ env.locals h [] → Q .next { s with heap := h, toks := tk }) :
    wpAny (model prog w) A (pyIter (.ref r)) (fun it s₂ => LoopAtV prog w A h₀ env x body Q E it s₂) E s :=
  for_range (σ := Unit) (n := b₀.toNat) (fun _ => []) (fun _ => ps) (fun _ _ => True) () hh hr (Int.toNat_of_nonneg h0).symm (by omega) F News.nil hk trivial
    (fun i t c u h tk I o hi _ _ F' N' => turn i t u h tk I o (by omega) F' N') fun c u h tk _ F' N' => done u h tk F' N'
end
end Mine
local macro_rules | `(tactic| k_qdec) => `(tactic| decide +kernel)
set_option maxHeartbeats 4000000 in
theorem PySem.Challenge.cw_sq0039_01_holds : PySem.Challenge.rw_sq0039_01.Holds := by
  w_on
  refine holds_law Mine.hd.said fun said => ?_
  refine PySem.W.holds_open (r := PySem.Challenge.rw_sq0039_01.row) (q := Mine.hd.view_39) (loose := Mine.hd.loose) (Xt := Mine.hd.Xt) (XP := XL Mine.hd.view_39 []) (Yf := fun s => Mine.hd.addrs.map s.heap.get?) (Ya := fun w => (Mine.hd.heap_39 w.params).map fun p : Addr × Obj => some p.2)
    (α := List (Option Obj)) (YP := (kHook Mine.hd.heap_39 Mine.hd.addrs Mine.hd.addrs_eq).says) (N := 8824)
    Mine.hd.left (kHook Mine.hd.heap_39 Mine.hd.addrs Mine.hd.addrs_eq).of (kHook Mine.hd.heap_39 Mine.hd.addrs Mine.hd.addrs_eq).keeps (fun s e => xl_of s (Bool.and_eq_true_iff.mp e).1) XL.keeps (by rfl) (by rfl) (by rfl) (fun s e => recFacts_of (Bool.and_eq_true_iff.mp e).2) ?d4 ?d5 ?d6 ?d7 ?hw ?hc
  case d4 => rfl
  case d5 => assumption
  case d6 => decide +kernel
  case d7 => exact ⟨rfl, rfl, rfl, rfl, rfl, by decide +kernel⟩
  case hw => w_witness2
  k_go0
  rename IntsAre _ _ => lawI
  rename PySem.Heap.IsList _ _ _ => lawL
  rename Well _ _ _ _ => lawW
  clear lawW
  rename Reads _ _ _ _ => lawR
  clear lawR
  rename ReadsAll _ _ _ _ => lawRA
  clear lawRA
  have hll := Int.ofNat_le.mp (Int.not_lt.mp ‹¬ (_ : Int) < _›)
  dsimp only
  try k_fold
  k_steps
  all_goals (
    rename Fr _ _ _ _ => F1
    rename IsRange _ _ _ _ _ _ _ _ => hrg
    delta Mine.Halt
    refine' Mine.for_law [(Str.ofString "tiny", .bool _), (Str.ofString "script", .ref _)] rfl hrg ?g0 ?g3 F1 (Mine.loc2 rfl rfl) ?gt ?gd
    case g0 => repeat' split <;> omega
    case g3 => repeat' split <;> omega
    case gt =>
      intro i t u h tk I o hi F2 N2
      clear F1 hrg
      dsimp only [envOf] at F2 N2
      try k_fold
      k_steps
      all_goals (repeat' (first | (delta Mine.Halt; (k_here; (with_reducible show wpAny _ _ (call (Value.ref 470) [Value.ref _, Value.int _ _]) _ _ _); k_dflt ( refine' Mine.con_useT0 (Mine.right_con _ _ _ _ _ _ ?ho_m ?hZ_m ?hm_m ?hm2_m) ?B ?F ?N ?X ?T ?hf ?hk ?hP ?hd ?hu ?_; (case ho_m => assumption); (case B => assumption); (case F => k_asm); (case N => k_asm); (case X => assumption); (case T => assumption); (case hf => exact rfl); (case hk => exact rfl); (case hP => ((repeat (apply Mine.picks_of; focus (((repeat (first | (refine' Mine.Pick.head ?pk9; (case pk9 => k_all)) | (apply Mine.Pick.tail; focus (k_ne; done))))); done))); exact rfl)); (case hd => (first | decide | exact Nat.le_of_ble_eq_true rfl)); (case hu => (first | decide | exact Nat.le_of_ble_eq_true rfl)); (case hZ_m => omega); (case hm_m => omega); (case hm2_m => omega); intro v'_m h'_m tk'_m led'_m hv'_m; refine Mine.eq2 v'_m led'_m hv'_m ?_; clear hv'_m v'_m led'_m; intro F'_m N'_m hne'_m; clear hne'_m; (try simp only [List.cons_append, List.nil_append] at N'_m); (try k_sweep); (try dsimp only))); k_steps) | (delta Mine.Halt; (k_here; (with_reducible show wpAny _ _ (call (Value.ref 427) [Value.ref _, Value.int _ _]) _ _ _); k_dflt ( apply Mine.con_call (Mine.take_con _ _ _ _ _ _ ?ho_m ?hZ_m ?hm_m ?hm2_m); (case ho_m => assumption); (case B => assumption); (case F => k_asm); (case N => k_asm); (case X => assumption); (case T => assumption); (case D => exact ktsDicts_nil); (case hf => exact rfl); (case hk => exact rfl); (case hP => ((repeat (apply Mine.picks_of; focus (((repeat (first | (refine' Mine.Pick.head ?pk9; (case pk9 => k_all)) | (apply Mine.Pick.tail; focus (k_ne; done))))); done))); exact rfl)); (case hd => (first | decide | exact Nat.le_of_ble_eq_true rfl)); (case hu => (first | decide | exact Nat.le_of_ble_eq_true rfl)); (case hZ_m => omega); (case hm_m => omega); (case hm2_m => omega); intro v' h' tk' led' hv'; refine Mine.take_cps v' led' hv' ?_; clear hv' v' led'; intro r' t' o' hr1 hr2 ho' F' N' hne'; clear hne'; (try simp only [List.cons_append, List.nil_append] at N'); (try k_sweep); (try dsimp only))); k_steps) | (delta Mine.Halt; (k_here; (with_reducible show wpAny _ _ (call (Value.ref 420) [Value.int _ _]) _ _ _); k_dflt ( apply Mine.con_callX2 (Mine.box_con _ _ _); (case B => assumption); (case F => k_asm); (case N => k_asm); (case X => assumption); (case T => assumption); (case D => exact ktsDicts_nil); (case hf => exact rfl); (case hk => exact rfl); (case hP => ((repeat (apply Mine.picks_of; focus (((repeat (first | (refine' Mine.Pick.head ?pk9; (case pk9 => k_all)) | (apply Mine.Pick.tail; focus (k_ne; done))))); done))); exact rfl)); (case hd => (first | decide | exact Nat.le_of_ble_eq_true rfl)); (case hu => (first | decide | exact Nat.le_of_ble_eq_true rfl)); intro h' tk' bxA bxO bxH F' N' hne'; (((rename Mine.AllNeL _ _ => hn9'_m); refine Mine.AllNeL.imp hn9'_m ?_; clear hn9'_m; walk_at "my_facts")); (try simp only [List.cons_append, List.nil_append] at N'); (try k_sweep); (try dsimp only))); k_steps) | (delta Mine.Halt; (k_here; (with_reducible show wpAny _ _ (call (Value.ref 413) [Value.ref _, Value.int _ _]) _ _ _); k_dflt ( refine' Mine.con_useH (Mine.cell_con _ _ _ _ _ _ ?hI_m ?hl_m ?hk1_m ?hk2_m) ?hH_m ?B ?F ?N ?X ?T ?D ?hf ?hk ?hd ?hu ?_; (case hI_m => assumption); (case hl_m => assumption); (case hk1_m => omega); (case hk2_m => omega); (case hH_m => exact fun g hg => PySem.Heap.IsList.at (by assumption) fun o e => hg _ o e); (case B => assumption); (case F => k_asm); (case N => k_asm); (case X => assumption); (case T => assumption); (case D => exact ktsDicts_nil); (case hf => exact rfl); (case hk => exact rfl); (case hd => (first | decide | exact Nat.le_of_ble_eq_true rfl)); (case hu => (first | decide | exact Nat.le_of_ble_eq_true rfl)); intro v'_m h'_m tk'_m led'_m hv'_m; refine Mine.tok3 v'_m led'_m hv'_m ?_; clear hv'_m v'_m led'_m; intro i9'_m t9'_m F'_m N'_m hne'_m; clear hne'_m; (try simp only [List.cons_append, List.nil_append] at N'_m); (try k_sweep); (try dsimp only))); k_steps)))
      all_goals exact Mine.turn_end () (by assumption) (by assumption) (by k_mem) (List.forall_mem_nil _) (List.forall_mem_nil _) (Mine.loc2 rfl rfl) trivial
    case gd =>
      intro u h tk F2 N2
      clear F1 hrg
      dsimp only [envOf] at F2 N2
      try k_fold
      k_steps)
