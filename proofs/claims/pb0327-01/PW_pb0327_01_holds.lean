import PyProof.Rows.All
import Wide.All
import OpenK.AllK
import Wide.FinOn
import PySem.Challenge.RW_pb0327_01
open PySem PySem.W PySem.Calls PyProof.Rows
set_option Elab.async false
set_option linter.unusedVariables false
set_option linter.unusedSimpArgs false
namespace Mine

/-- a def's parameters, body and scope -/
def partsOf : Option Stmt → Option (Arguments × List Stmt × Scope)
  | some (.FunctionDef _ a b _ _ _ s _ _ _) => some (a, b, s)
  | _ => none
/-- what stands in a class -/
def inCls (j : Nat) : Option Stmt → Option Stmt
  | some (.ClassDef _ _ _ b _ _ _ _ _ _ _) => b[j]?
  | _ => none
abbrev tops : List Stmt := PySem.Challenge.pw_pb0327_01.main.body
set_option maxRecDepth 100000 in
set_option maxHeartbeats 8000000 in
/-- the objects that stand behind the top, the program's own parts taken from its text -/
noncomputable def hd.heap_39 (P : Params) : Frag := by
  refine' (?g : (a2x0 : Arguments) → (b2x0 : List Stmt) → (s2x0 : Scope) → partsOf (inCls 0 tops[2]?) = some (a2x0, b2x0, s2x0) →
    (a4 : Arguments) → (b4 : List Stmt) → (s4 : Scope) → partsOf tops[4]? = some (a4, b4, s4) →
    (a5 : Arguments) → (b5 : List Stmt) → (s5 : Scope) → partsOf tops[5]? = some (a5, b5, s5) →
    (a6x0 : Arguments) → (b6x0 : List Stmt) → (s6x0 : Scope) → partsOf (inCls 0 tops[6]?) = some (a6x0, b6x0, s6x0) →
    (a6x1 : Arguments) → (b6x1 : List Stmt) → (s6x1 : Scope) → partsOf (inCls 1 tops[6]?) = some (a6x1, b6x1, s6x1) →
    (a6x2 : Arguments) → (b6x2 : List Stmt) → (s6x2 : Scope) → partsOf (inCls 2 tops[6]?) = some (a6x2, b6x2, s6x2) →
    (a6x3 : Arguments) → (b6x3 : List Stmt) → (s6x3 : Scope) → partsOf (inCls 3 tops[6]?) = some (a6x3, b6x3, s6x3) →
    (a6x4 : Arguments) → (b6x4 : List Stmt) → (s6x4 : Scope) → partsOf (inCls 4 tops[6]?) = some (a6x4, b6x4, s6x4) →
    (a6x5 : Arguments) → (b6x5 : List Stmt) → (s6x5 : Scope) → partsOf (inCls 5 tops[6]?) = some (a6x5, b6x5, s6x5) →
    (a6x6 : Arguments) → (b6x6 : List Stmt) → (s6x6 : Scope) → partsOf (inCls 6 tops[6]?) = some (a6x6, b6x6, s6x6) →
    (a6x7 : Arguments) → (b6x7 : List Stmt) → (s6x7 : Scope) → partsOf (inCls 7 tops[6]?) = some (a6x7, b6x7, s6x7) →
    (a6x8 : Arguments) → (b6x8 : List Stmt) → (s6x8 : Scope) → partsOf (inCls 8 tops[6]?) = some (a6x8, b6x8, s6x8) →
    (a7 : Arguments) → (b7 : List Stmt) → (s7 : Scope) → partsOf tops[7]? = some (a7, b7, s7) →
    (a8 : Arguments) → (b8 : List Stmt) → (s8 : Scope) → partsOf tops[8]? = some (a8, b8, s8) →
    (a9 : Arguments) → (b9 : List Stmt) → (s9 : Scope) → partsOf tops[9]? = some (a9, b9, s9) →
    (a10 : Arguments) → (b10 : List Stmt) → (s10 : Scope) → partsOf tops[10]? = some (a10, b10, s10) →
    (a11 : Arguments) → (b11 : List Stmt) → (s11 : Scope) → partsOf tops[11]? = some (a11, b11, s11) →
    (a13 : Arguments) → (b13 : List Stmt) → (s13 : Scope) → partsOf tops[13]? = some (a13, b13, s13) →
    (a14 : Arguments) → (b14 : List Stmt) → (s14 : Scope) → partsOf tops[14]? = some (a14, b14, s14) →
    (a15 : Arguments) → (b15 : List Stmt) → (s15 : Scope) → partsOf tops[15]? = some (a15, b15, s15) →
    (a16 : Arguments) → (b16 : List Stmt) → (s16 : Scope) → partsOf tops[16]? = some (a16, b16, s16) →
    (a17 : Arguments) → (b17 : List Stmt) → (s17 : Scope) → partsOf tops[17]? = some (a17, b17, s17) →
    (a18 : Arguments) → (b18 : List Stmt) → (s18 : Scope) → partsOf tops[18]? = some (a18, b18, s18) →
    (a19 : Arguments) → (b19 : List Stmt) → (s19 : Scope) → partsOf tops[19]? = some (a19, b19, s19) →
    (a20 : Arguments) → (b20 : List Stmt) → (s20 : Scope) → partsOf tops[20]? = some (a20, b20, s20) → Frag)
    _ _ _ ?_ _ _ _ ?_ _ _ _ ?_ _ _ _ ?_ _ _ _ ?_ _ _ _ ?_ _ _ _ ?_ _ _ _ ?_ _ _ _ ?_ _ _ _ ?_ _ _ _ ?_ _ _ _ ?_ _ _ _ ?_ _ _ _ ?_ _ _ _ ?_ _ _ _ ?_ _ _ _ ?_ _ _ _ ?_ _ _ _ ?_ _ _ _ ?_ _ _ _ ?_ _ _ _ ?_ _ _ _ ?_ _ _ _ ?_ _ _ _ ?_
  case g => exact fun a2x0 b2x0 s2x0 _ a4 b4 s4 _ a5 b5 s5 _ a6x0 b6x0 s6x0 _ a6x1 b6x1 s6x1 _ a6x2 b6x2 s6x2 _ a6x3 b6x3 s6x3 _ a6x4 b6x4 s6x4 _ a6x5 b6x5 s6x5 _ a6x6 b6x6 s6x6 _ a6x7 b6x7 s6x7 _ a6x8 b6x8 s6x8 _ a7 b7 s7 _ a8 b8 s8 _ a9 b9 s9 _ a10 b10 s10 _ a11 b11 s11 _ a13 b13 s13 _ a14 b14 s14 _ a15 b15 s15 _ a16 b16 s16 _ a17 b17 s17 _ a18 b18 s18 _ a19 b19 s19 _ a20 b20 s20 _ =>
    (nat_lit 2, (Obj.mk Value.none none (Data.dict #[(DictEntry.mk (PyData.keyHash P (Str.ofString "type.__subclasses__.Exception.0")) (Value.str (Str.ofString "type.__subclasses__.Exception.0") 205) (Value.int 24 0)), (DictEntry.mk (PyData.keyHash P (Str.ofString "type.__subclasses__.Exception.n")) (Value.str (Str.ofString "type.__subclasses__.Exception.n") 206) (Value.int 1 0))] 2) #[])) ::
    (nat_lit 3, (Obj.mk (Value.type "dict") none (Data.dict #[(DictEntry.mk (PyData.keyHash P (Str.ofString "__name__")) (Value.str (Str.ofString "__name__") 165) (Value.str (Str.ofString "law_pb0327_01") 397)), (DictEntry.mk (PyData.keyHash P (Str.ofString "__doc__")) (Value.str (Str.ofString "__doc__") 166) Value.none), (DictEntry.mk (PyData.keyHash P (Str.ofString "__package__")) (Value.str (Str.ofString "__package__") 167) Value.none), (DictEntry.mk (PyData.keyHash P (Str.ofString "__loader__")) (Value.str (Str.ofString "__loader__") 168) (Value.builtin "__main__.__loader__#opaque")), (DictEntry.mk (PyData.keyHash P (Str.ofString "__spec__")) (Value.str (Str.ofString "__spec__") 169) Value.none), (DictEntry.mk (PyData.keyHash P (Str.ofString "__annotations__")) (Value.str (Str.ofString "__annotations__") 170) (Value.ref 6)), (DictEntry.mk (PyData.keyHash P (Str.ofString "__builtins__")) (Value.str (Str.ofString "__builtins__") 171) (Value.ref 4)), (DictEntry.mk (PyData.keyHash P (Str.ofString "__file__")) (Value.str (Str.ofString "__file__") 173) (Value.str (Str.ofString "/claim/cut.py") 172)), (DictEntry.mk (PyData.keyHash P (Str.ofString "__cached__")) (Value.str (Str.ofString "__cached__") 174) Value.none), (DictEntry.mk (PyData.keyHash P (Str.ofString "YardError")) (Value.str (Str.ofString "YardError") 208) (Value.ref 24)), (DictEntry.mk (PyData.keyHash P (Str.ofString "FormatError")) (Value.str (Str.ofString "FormatError") 235) (Value.ref 44)), (DictEntry.mk (PyData.keyHash P (Str.ofString "is_name_start")) (Value.str (Str.ofString "is_name_start") 244) (Value.ref 53)), (DictEntry.mk (PyData.keyHash P (Str.ofString "is_name_char")) (Value.str (Str.ofString "is_name_char") 251) (Value.ref 60)), (DictEntry.mk (PyData.keyHash P (Str.ofString "RuleReader")) (Value.str (Str.ofString "RuleReader") 355) (Value.ref 133)), (DictEntry.mk (PyData.keyHash P (Str.ofString "read_grammar")) (Value.str (Str.ofString "read_grammar") 362) (Value.ref 144)), (DictEntry.mk (PyData.keyHash P (Str.ofString "literal_text")) (Value.str (Str.ofString "literal_text") 369) (Value.ref 151)), (DictEntry.mk (PyData.keyHash P (Str.ofString "item_text")) (Value.str (Str.ofString "item_text") 379) (Value.ref 158)), (DictEntry.mk (PyData.keyHash P (Str.ofString "expression_text")) (Value.str (Str.ofString "expression_text") 385) (Value.ref 163)), (DictEntry.mk (PyData.keyHash P (Str.ofString "grammar_text")) (Value.str (Str.ofString "grammar_text") 396) (Value.ref 170)), (DictEntry.mk (PyData.keyHash P (Str.ofString "_law_stock")) (Value.str (Str.ofString "_law_stock") 409) (Value.ref 177)), (DictEntry.mk (PyData.keyHash P (Str.ofString "_law_pick")) (Value.str (Str.ofString "_law_pick") 417) (Value.ref 184)), (DictEntry.mk (PyData.keyHash P (Str.ofString "_law_tree")) (Value.str (Str.ofString "_law_tree") 423) (Value.ref 189)), (DictEntry.mk (PyData.keyHash P (Str.ofString "_law_blank")) (Value.str (Str.ofString "_law_blank") 430) (Value.ref 196)), (DictEntry.mk (PyData.keyHash P (Str.ofString "_law_bracketed")) (Value.str (Str.ofString "_law_bracketed") 439) (Value.ref 203)), (DictEntry.mk (PyData.keyHash P (Str.ofString "_law_shown")) (Value.str (Str.ofString "_law_shown") 445) (Value.ref 208)), (DictEntry.mk (PyData.keyHash P (Str.ofString "_law_faults")) (Value.str (Str.ofString "_law_faults") 451) (Value.ref 215)), (DictEntry.mk (PyData.keyHash P (Str.ofString "law")) (Value.str (Str.ofString "law") 468) (Value.ref 222))] 27) #[])) ::
    (nat_lit 15, (Obj.mk (Value.type "tuple") none (Data.seq #[(Value.type "Exception")] 0) #[])) ::
    (nat_lit 23, (Obj.mk (Value.type "dict") none (Data.dict #[(DictEntry.mk (PyData.keyHash P (Str.ofString "__module__")) (Value.str (Str.ofString "__module__") 196) (Value.str (Str.ofString "moduleyard.errors") 187)), (DictEntry.mk (PyData.keyHash P (Str.ofString "__firstlineno__")) (Value.str (Str.ofString "__firstlineno__") 200) (Value.int 2 199)), (DictEntry.mk (PyData.keyHash P (Str.ofString "__static_attributes__")) (Value.str (Str.ofString "__static_attributes__") 201) (Value.ref 22)), (DictEntry.mk (PyData.keyHash P (Str.ofString "__weakref__")) (Value.str (Str.ofString "__weakref__") 203) (Value.ref 25)), (DictEntry.mk (PyData.keyHash P (Str.ofString "__doc__")) (Value.str (Str.ofString "__doc__") 204) Value.none)] 3) #[])) ::
    (nat_lit 24, (Obj.mk (Value.type "type") none (Data.cls (ClassData.mk (Str.ofString "YardError") [(Value.type "Exception")] [(Value.ref 24), (Value.type "Exception"), (Value.type "BaseException"), (Value.type "object")] 23 (Str.ofString "YardError") true [] [(Value.ref 44)] false none false)) #[(some (Value.ref 15)), none, (some (Value.str (Str.ofString "YardError") 189)), (some (Value.str (Str.ofString "YardError") 197)), (some (Value.builtin "Exception.__new__")), (some (Value.bool true))])) ::
    (nat_lit 25, (Obj.mk (Value.type "getset_descriptor") none (Data.fields #[(Value.str (Str.ofString "__weakref__") 202), (Value.ref 24), (Value.builtin "ExceptionGroup.__weakref__"), Value.none]) #[])) ::
    (nat_lit 28, (Obj.mk (Value.type "tuple") none (Data.seq #[(Value.ref 24)] 0) #[])) ::
    (nat_lit 40, (Obj.mk (Value.type "code") none (Data.fields #[(Value.str (Str.ofString "__init__") 221), (Value.str (Str.ofString "FormatError.__init__") 222), (Value.str (Str.ofString "/claim/cut.py") 223), (Value.int 6 0), (Value.int 3 0), (Value.int 0 0), (Value.int 0 0), (Value.int 3 0), (Value.ref 35), (Value.bool true), (Value.int 181 0), (Value.ref 36), Value.none, (Value.ref 37), (Value.ref 38), (Value.ref 39), (Value.int 227 0), (Value.int 6 0), (Value.str (Str.ofString "/claim/cut.py") 228)]) #[])) ::
    (nat_lit 41, (Obj.mk (Value.type "function") none (Data.func (FuncData.mk (Str.ofString "__init__") (Str.ofString "FormatError.__init__") a2x0 (FuncBody.stmts b2x0) s2x0 3 [] Value.none Value.none Value.none (Value.str (Str.ofString "moduleyard.errors") 187) none (Value.ref 40) Value.none 0)) #[])) ::
    (nat_lit 43, (Obj.mk (Value.type "dict") none (Data.dict #[(DictEntry.mk (PyData.keyHash P (Str.ofString "__module__")) (Value.str (Str.ofString "__module__") 216) (Value.str (Str.ofString "moduleyard.errors") 187)), (DictEntry.mk (PyData.keyHash P (Str.ofString "__firstlineno__")) (Value.str (Str.ofString "__firstlineno__") 220) (Value.int 4 219)), (DictEntry.mk (PyData.keyHash P (Str.ofString "__init__")) (Value.str (Str.ofString "__init__") 229) (Value.ref 41)), (DictEntry.mk (PyData.keyHash P (Str.ofString "__static_attributes__")) (Value.str (Str.ofString "__static_attributes__") 232) (Value.ref 42)), (DictEntry.mk (PyData.keyHash P (Str.ofString "__doc__")) (Value.str (Str.ofString "__doc__") 233) Value.none)] 2) #[])) ::
    (nat_lit 44, (Obj.mk (Value.type "type") none (Data.cls (ClassData.mk (Str.ofString "FormatError") [(Value.ref 24)] [(Value.ref 44), (Value.ref 24), (Value.type "Exception"), (Value.type "BaseException"), (Value.type "object")] 43 (Str.ofString "FormatError") true [] [] false none false)) #[(some (Value.ref 28)), none, (some (Value.str (Str.ofString "FormatError") 209)), (some (Value.str (Str.ofString "FormatError") 217)), (some (Value.builtin "Exception.__new__")), (some (Value.bool true))])) ::
    (nat_lit 52, (Obj.mk (Value.type "code") none (Data.fields #[(Value.str (Str.ofString "is_name_start") 238), (Value.str (Str.ofString "is_name_start") 239), (Value.str (Str.ofString "/claim/cut.py") 240), (Value.int 10 0), (Value.int 1 0), (Value.int 0 0), (Value.int 0 0), (Value.int 3 0), (Value.ref 47), (Value.bool true), (Value.int 181 0), (Value.ref 48), Value.none, (Value.ref 49), (Value.ref 50), (Value.ref 51), (Value.int 242 0), (Value.int 10 0), (Value.str (Str.ofString "/claim/cut.py") 243)]) #[])) ::
    (nat_lit 53, (Obj.mk (Value.type "function") none (Data.func (FuncData.mk (Str.ofString "is_name_start") (Str.ofString "is_name_start") a4 (FuncBody.stmts b4) s4 3 [] Value.none Value.none Value.none (Value.str (Str.ofString "moduleyard.ebnf") 236) none (Value.ref 52) Value.none 0)) #[])) ::
    (nat_lit 59, (Obj.mk (Value.type "code") none (Data.fields #[(Value.str (Str.ofString "is_name_char") 245), (Value.str (Str.ofString "is_name_char") 246), (Value.str (Str.ofString "/claim/cut.py") 247), (Value.int 12 0), (Value.int 1 0), (Value.int 0 0), (Value.int 0 0), (Value.int 3 0), (Value.ref 54), (Value.bool true), (Value.int 181 0), (Value.ref 55), Value.none, (Value.ref 56), (Value.ref 57), (Value.ref 58), (Value.int 249 0), (Value.int 12 0), (Value.str (Str.ofString "/claim/cut.py") 250)]) #[])) ::
    (nat_lit 60, (Obj.mk (Value.type "function") none (Data.func (FuncData.mk (Str.ofString "is_name_char") (Str.ofString "is_name_char") a5 (FuncBody.stmts b5) s5 3 [] Value.none Value.none Value.none (Value.str (Str.ofString "moduleyard.ebnf") 236) none (Value.ref 59) Value.none 0)) #[])) ::
    (nat_lit 73, (Obj.mk (Value.type "code") none (Data.fields #[(Value.str (Str.ofString "__init__") 264), (Value.str (Str.ofString "RuleReader.__init__") 265), (Value.str (Str.ofString "/claim/cut.py") 266), (Value.int 16 0), (Value.int 2 0), (Value.int 0 0), (Value.int 0 0), (Value.int 3 0), (Value.ref 68), (Value.bool true), (Value.int 181 0), (Value.ref 69), Value.none, (Value.ref 70), (Value.ref 71), (Value.ref 72), (Value.int 269 0), (Value.int 16 0), (Value.str (Str.ofString "/claim/cut.py") 270)]) #[])) ::
    (nat_lit 74, (Obj.mk (Value.type "function") none (Data.func (FuncData.mk (Str.ofString "__init__") (Str.ofString "RuleReader.__init__") a6x0 (FuncBody.stmts b6x0) s6x0 3 [] Value.none Value.none Value.none (Value.str (Str.ofString "moduleyard.ebnf") 236) none (Value.ref 73) Value.none 0)) #[])) ::
    (nat_lit 80, (Obj.mk (Value.type "code") none (Data.fields #[(Value.str (Str.ofString "char") 272), (Value.str (Str.ofString "RuleReader.char") 273), (Value.str (Str.ofString "/claim/cut.py") 274), (Value.int 24 0), (Value.int 2 0), (Value.int 0 0), (Value.int 0 0), (Value.int 3 0), (Value.ref 75), (Value.bool true), (Value.int 181 0), (Value.ref 76), Value.none, (Value.ref 77), (Value.ref 78), (Value.ref 79), (Value.int 277 0), (Value.int 24 0), (Value.str (Str.ofString "/claim/cut.py") 278)]) #[])) ::
    (nat_lit 81, (Obj.mk (Value.type "function") none (Data.func (FuncData.mk (Str.ofString "char") (Str.ofString "RuleReader.char") a6x1 (FuncBody.stmts b6x1) s6x1 3 [] Value.none Value.none Value.none (Value.str (Str.ofString "moduleyard.ebnf") 236) none (Value.ref 80) Value.none 0)) #[])) ::
    (nat_lit 87, (Obj.mk (Value.type "code") none (Data.fields #[(Value.str (Str.ofString "step") 280), (Value.str (Str.ofString "RuleReader.step") 281), (Value.str (Str.ofString "/claim/cut.py") 282), (Value.int 27 0), (Value.int 1 0), (Value.int 0 0), (Value.int 0 0), (Value.int 3 0), (Value.ref 82), (Value.bool true), (Value.int 181 0), (Value.ref 83), Value.none, (Value.ref 84), (Value.ref 85), (Value.ref 86), (Value.int 286 0), (Value.int 27 0), (Value.str (Str.ofString "/claim/cut.py") 287)]) #[])) ::
    (nat_lit 88, (Obj.mk (Value.type "function") none (Data.func (FuncData.mk (Str.ofString "step") (Str.ofString "RuleReader.step") a6x2 (FuncBody.stmts b6x2) s6x2 3 [] Value.none Value.none Value.none (Value.str (Str.ofString "moduleyard.ebnf") 236) none (Value.ref 87) Value.none 0)) #[])) ::
    (nat_lit 94, (Obj.mk (Value.type "code") none (Data.fields #[(Value.str (Str.ofString "quoted") 289), (Value.str (Str.ofString "RuleReader.quoted") 290), (Value.str (Str.ofString "/claim/cut.py") 291), (Value.int 49 0), (Value.int 3 0), (Value.int 0 0), (Value.int 0 0), (Value.int 3 0), (Value.ref 89), (Value.bool true), (Value.int 181 0), (Value.ref 90), Value.none, (Value.ref 91), (Value.ref 92), (Value.ref 93), (Value.int 296 0), (Value.int 49 0), (Value.str (Str.ofString "/claim/cut.py") 297)]) #[])) ::
    (nat_lit 95, (Obj.mk (Value.type "function") none (Data.func (FuncData.mk (Str.ofString "quoted") (Str.ofString "RuleReader.quoted") a6x3 (FuncBody.stmts b6x3) s6x3 3 [] Value.none Value.none Value.none (Value.str (Str.ofString "moduleyard.ebnf") 236) none (Value.ref 94) Value.none 0)) #[])) ::
    (nat_lit 101, (Obj.mk (Value.type "code") none (Data.fields #[(Value.str (Str.ofString "expect") 299), (Value.str (Str.ofString "RuleReader.expect") 300), (Value.str (Str.ofString "/claim/cut.py") 301), (Value.int 59 0), (Value.int 2 0), (Value.int 0 0), (Value.int 0 0), (Value.int 3 0), (Value.ref 96), (Value.bool true), (Value.int 181 0), (Value.ref 97), Value.none, (Value.ref 98), (Value.ref 99), (Value.ref 100), (Value.int 305 0), (Value.int 59 0), (Value.str (Str.ofString "/claim/cut.py") 306)]) #[])) ::
    (nat_lit 102, (Obj.mk (Value.type "function") none (Data.func (FuncData.mk (Str.ofString "expect") (Str.ofString "RuleReader.expect") a6x4 (FuncBody.stmts b6x4) s6x4 3 [] Value.none Value.none Value.none (Value.str (Str.ofString "moduleyard.ebnf") 236) none (Value.ref 101) Value.none 0)) #[])) ::
    (nat_lit 108, (Obj.mk (Value.type "code") none (Data.fields #[(Value.str (Str.ofString "rules") 308), (Value.str (Str.ofString "RuleReader.rules") 309), (Value.str (Str.ofString "/claim/cut.py") 310), (Value.int 66 0), (Value.int 1 0), (Value.int 0 0), (Value.int 0 0), (Value.int 3 0), (Value.ref 103), (Value.bool true), (Value.int 181 0), (Value.ref 104), Value.none, (Value.ref 105), (Value.ref 106), (Value.ref 107), (Value.int 314 0), (Value.int 66 0), (Value.str (Str.ofString "/claim/cut.py") 315)]) #[])) ::
    (nat_lit 109, (Obj.mk (Value.type "function") none (Data.func (FuncData.mk (Str.ofString "rules") (Str.ofString "RuleReader.rules") a6x5 (FuncBody.stmts b6x5) s6x5 3 [] Value.none Value.none Value.none (Value.str (Str.ofString "moduleyard.ebnf") 236) none (Value.ref 108) Value.none 0)) #[])) ::
    (nat_lit 115, (Obj.mk (Value.type "code") none (Data.fields #[(Value.str (Str.ofString "alternatives") 317), (Value.str (Str.ofString "RuleReader.alternatives") 318), (Value.str (Str.ofString "/claim/cut.py") 319), (Value.int 75 0), (Value.int 1 0), (Value.int 0 0), (Value.int 0 0), (Value.int 3 0), (Value.ref 110), (Value.bool true), (Value.int 181 0), (Value.ref 111), Value.none, (Value.ref 112), (Value.ref 113), (Value.ref 114), (Value.int 322 0), (Value.int 75 0), (Value.str (Str.ofString "/claim/cut.py") 323)]) #[])) ::
    (nat_lit 116, (Obj.mk (Value.type "function") none (Data.func (FuncData.mk (Str.ofString "alternatives") (Str.ofString "RuleReader.alternatives") a6x6 (FuncBody.stmts b6x6) s6x6 3 [] Value.none Value.none Value.none (Value.str (Str.ofString "moduleyard.ebnf") 236) none (Value.ref 115) Value.none 0)) #[])) ::
    (nat_lit 122, (Obj.mk (Value.type "code") none (Data.fields #[(Value.str (Str.ofString "sequence") 325), (Value.str (Str.ofString "RuleReader.sequence") 326), (Value.str (Str.ofString "/claim/cut.py") 327), (Value.int 84 0), (Value.int 1 0), (Value.int 0 0), (Value.int 0 0), (Value.int 3 0), (Value.ref 117), (Value.bool true), (Value.int 181 0), (Value.ref 118), Value.none, (Value.ref 119), (Value.ref 120), (Value.ref 121), (Value.int 330 0), (Value.int 84 0), (Value.str (Str.ofString "/claim/cut.py") 331)]) #[])) ::
    (nat_lit 123, (Obj.mk (Value.type "function") none (Data.func (FuncData.mk (Str.ofString "sequence") (Str.ofString "RuleReader.sequence") a6x7 (FuncBody.stmts b6x7) s6x6 3 [] Value.none Value.none Value.none (Value.str (Str.ofString "moduleyard.ebnf") 236) none (Value.ref 122) Value.none 0)) #[])) ::
    (nat_lit 129, (Obj.mk (Value.type "code") none (Data.fields #[(Value.str (Str.ofString "item") 333), (Value.str (Str.ofString "RuleReader.item") 334), (Value.str (Str.ofString "/claim/cut.py") 335), (Value.int 92 0), (Value.int 1 0), (Value.int 0 0), (Value.int 0 0), (Value.int 3 0), (Value.ref 124), (Value.bool true), (Value.int 181 0), (Value.ref 125), Value.none, (Value.ref 126), (Value.ref 127), (Value.ref 128), (Value.int 340 0), (Value.int 92 0), (Value.str (Str.ofString "/claim/cut.py") 341)]) #[])) ::
    (nat_lit 130, (Obj.mk (Value.type "function") none (Data.func (FuncData.mk (Str.ofString "item") (Str.ofString "RuleReader.item") a6x8 (FuncBody.stmts b6x8) s6x8 3 [] Value.none Value.none Value.none (Value.str (Str.ofString "moduleyard.ebnf") 236) none (Value.ref 129) Value.none 0)) #[])) ::
    (nat_lit 132, (Obj.mk (Value.type "dict") none (Data.dict #[(DictEntry.mk (PyData.keyHash P (Str.ofString "__module__")) (Value.str (Str.ofString "__module__") 259) (Value.str (Str.ofString "moduleyard.ebnf") 236)), (DictEntry.mk (PyData.keyHash P (Str.ofString "__firstlineno__")) (Value.str (Str.ofString "__firstlineno__") 263) (Value.int 14 262)), (DictEntry.mk (PyData.keyHash P (Str.ofString "__init__")) (Value.str (Str.ofString "__init__") 271) (Value.ref 74)), (DictEntry.mk (PyData.keyHash P (Str.ofString "char")) (Value.str (Str.ofString "char") 279) (Value.ref 81)), (DictEntry.mk (PyData.keyHash P (Str.ofString "step")) (Value.str (Str.ofString "step") 288) (Value.ref 88)), (DictEntry.mk (PyData.keyHash P (Str.ofString "quoted")) (Value.str (Str.ofString "quoted") 298) (Value.ref 95)), (DictEntry.mk (PyData.keyHash P (Str.ofString "expect")) (Value.str (Str.ofString "expect") 307) (Value.ref 102)), (DictEntry.mk (PyData.keyHash P (Str.ofString "rules")) (Value.str (Str.ofString "rules") 316) (Value.ref 109)), (DictEntry.mk (PyData.keyHash P (Str.ofString "alternatives")) (Value.str (Str.ofString "alternatives") 324) (Value.ref 116)), (DictEntry.mk (PyData.keyHash P (Str.ofString "sequence")) (Value.str (Str.ofString "sequence") 332) (Value.ref 123)), (DictEntry.mk (PyData.keyHash P (Str.ofString "item")) (Value.str (Str.ofString "item") 342) (Value.ref 130)), (DictEntry.mk (PyData.keyHash P (Str.ofString "__static_attributes__")) (Value.str (Str.ofString "__static_attributes__") 348) (Value.ref 131)), (DictEntry.mk (PyData.keyHash P (Str.ofString "__dict__")) (Value.str (Str.ofString "__dict__") 350) (Value.ref 134)), (DictEntry.mk (PyData.keyHash P (Str.ofString "__weakref__")) (Value.str (Str.ofString "__weakref__") 352) (Value.ref 135)), (DictEntry.mk (PyData.keyHash P (Str.ofString "__doc__")) (Value.str (Str.ofString "__doc__") 353) Value.none)] 4) #[])) ::
    (nat_lit 133, (Obj.mk (Value.type "type") none (Data.cls (ClassData.mk (Str.ofString "RuleReader") [(Value.type "object")] [(Value.ref 133), (Value.type "object")] 132 (Str.ofString "RuleReader") true [] [] false none false)) #[none, none, (some (Value.str (Str.ofString "RuleReader") 252)), (some (Value.str (Str.ofString "RuleReader") 260)), (some (Value.builtin "object.__new__")), (some (Value.bool true))])) ::
    (nat_lit 134, (Obj.mk (Value.type "getset_descriptor") none (Data.fields #[(Value.str (Str.ofString "__dict__") 349), (Value.ref 133), (Value.builtin "function.__dict__"), (Value.builtin "function.__dict__#set")]) #[])) ::
    (nat_lit 135, (Obj.mk (Value.type "getset_descriptor") none (Data.fields #[(Value.str (Str.ofString "__weakref__") 351), (Value.ref 133), (Value.builtin "ExceptionGroup.__weakref__"), Value.none]) #[])) ::
    (nat_lit 143, (Obj.mk (Value.type "code") none (Data.fields #[(Value.str (Str.ofString "read_grammar") 356), (Value.str (Str.ofString "read_grammar") 357), (Value.str (Str.ofString "/claim/cut.py") 358), (Value.int 107 0), (Value.int 1 0), (Value.int 0 0), (Value.int 0 0), (Value.int 3 0), (Value.ref 138), (Value.bool true), (Value.int 181 0), (Value.ref 139), Value.none, (Value.ref 140), (Value.ref 141), (Value.ref 142), (Value.int 360 0), (Value.int 107 0), (Value.str (Str.ofString "/claim/cut.py") 361)]) #[])) ::
    (nat_lit 144, (Obj.mk (Value.type "function") none (Data.func (FuncData.mk (Str.ofString "read_grammar") (Str.ofString "read_grammar") a7 (FuncBody.stmts b7) s7 3 [] Value.none Value.none Value.none (Value.str (Str.ofString "moduleyard.ebnf") 236) none (Value.ref 143) Value.none 0)) #[])) ::
    (nat_lit 150, (Obj.mk (Value.type "code") none (Data.fields #[(Value.str (Str.ofString "literal_text") 363), (Value.str (Str.ofString "literal_text") 364), (Value.str (Str.ofString "/claim/cut.py") 365), (Value.int 109 0), (Value.int 1 0), (Value.int 0 0), (Value.int 0 0), (Value.int 3 0), (Value.ref 145), (Value.bool true), (Value.int 181 0), (Value.ref 146), Value.none, (Value.ref 147), (Value.ref 148), (Value.ref 149), (Value.int 367 0), (Value.int 109 0), (Value.str (Str.ofString "/claim/cut.py") 368)]) #[])) ::
    (nat_lit 151, (Obj.mk (Value.type "function") none (Data.func (FuncData.mk (Str.ofString "literal_text") (Str.ofString "literal_text") a8 (FuncBody.stmts b8) s8 3 [] Value.none Value.none Value.none (Value.str (Str.ofString "moduleyard.ebnf") 236) none (Value.ref 150) Value.none 0)) #[])) ::
    (nat_lit 157, (Obj.mk (Value.type "code") none (Data.fields #[(Value.str (Str.ofString "item_text") 370), (Value.str (Str.ofString "item_text") 371), (Value.str (Str.ofString "/claim/cut.py") 372), (Value.int 115 0), (Value.int 2 0), (Value.int 0 0), (Value.int 0 0), (Value.int 3 0), (Value.ref 152), (Value.bool true), (Value.int 181 0), (Value.ref 153), Value.none, (Value.ref 154), (Value.ref 155), (Value.ref 156), (Value.int 377 0), (Value.int 115 0), (Value.str (Str.ofString "/claim/cut.py") 378)]) #[])) ::
    (nat_lit 158, (Obj.mk (Value.type "function") none (Data.func (FuncData.mk (Str.ofString "item_text") (Str.ofString "item_text") a9 (FuncBody.stmts b9) s9 3 [] Value.none Value.none Value.none (Value.str (Str.ofString "moduleyard.ebnf") 236) none (Value.ref 157) Value.none 0)) #[])) ::
    (nat_lit 162, (Obj.mk (Value.type "code") none (Data.fields #[(Value.str (Str.ofString "expression_text") 380), (Value.str (Str.ofString "expression_text") 381), (Value.str (Str.ofString "/claim/cut.py") 382), (Value.int 121 0), (Value.int 1 0), (Value.int 0 0), (Value.int 0 0), (Value.int 3 0), (Value.ref 159), (Value.bool true), (Value.int 181 0), (Value.ref 160), Value.none, Value.none, Value.none, (Value.ref 161), (Value.int 383 0), (Value.int 121 0), (Value.str (Str.ofString "/claim/cut.py") 384)]) #[])) ::
    (nat_lit 163, (Obj.mk (Value.type "function") none (Data.func (FuncData.mk (Str.ofString "expression_text") (Str.ofString "expression_text") a10 (FuncBody.stmts b10) s10 3 [] Value.none Value.none Value.none (Value.str (Str.ofString "moduleyard.ebnf") 236) none (Value.ref 162) Value.none 0)) #[])) ::
    (nat_lit 169, (Obj.mk (Value.type "code") none (Data.fields #[(Value.str (Str.ofString "grammar_text") 386), (Value.str (Str.ofString "grammar_text") 387), (Value.str (Str.ofString "/claim/cut.py") 388), (Value.int 137 0), (Value.int 1 0), (Value.int 0 0), (Value.int 0 0), (Value.int 3 0), (Value.ref 164), (Value.bool true), (Value.int 181 0), (Value.ref 165), Value.none, (Value.ref 166), (Value.ref 167), (Value.ref 168), (Value.int 394 0), (Value.int 137 0), (Value.str (Str.ofString "/claim/cut.py") 395)]) #[])) ::
    (nat_lit 170, (Obj.mk (Value.type "function") none (Data.func (FuncData.mk (Str.ofString "grammar_text") (Str.ofString "grammar_text") a11 (FuncBody.stmts b11) s11 3 [] Value.none Value.none Value.none (Value.str (Str.ofString "moduleyard.ebnf") 236) none (Value.ref 169) Value.none 0)) #[])) ::
    (nat_lit 176, (Obj.mk (Value.type "code") none (Data.fields #[(Value.str (Str.ofString "_law_stock") 399), (Value.str (Str.ofString "_law_stock") 400), (Value.str (Str.ofString "/claim/cut.py") 401), (Value.int 146 0), (Value.int 1 0), (Value.int 0 0), (Value.int 0 0), (Value.int 3 0), (Value.ref 171), (Value.bool true), (Value.int 181 0), (Value.ref 172), Value.none, (Value.ref 173), (Value.ref 174), (Value.ref 175), (Value.int 407 0), (Value.int 146 0), (Value.str (Str.ofString "/claim/cut.py") 408)]) #[])) ::
    (nat_lit 177, (Obj.mk (Value.type "function") none (Data.func (FuncData.mk (Str.ofString "_law_stock") (Str.ofString "_law_stock") a13 (FuncBody.stmts b13) s13 3 [] Value.none Value.none Value.none (Value.str (Str.ofString "law_pb0327_01") 397) none (Value.ref 176) Value.none 0)) #[])) ::
    (nat_lit 183, (Obj.mk (Value.type "code") none (Data.fields #[(Value.str (Str.ofString "_law_pick") 410), (Value.str (Str.ofString "_law_pick") 411), (Value.str (Str.ofString "/claim/cut.py") 412), (Value.int 160 0), (Value.int 2 0), (Value.int 0 0), (Value.int 0 0), (Value.int 3 0), (Value.ref 178), (Value.bool true), (Value.int 181 0), (Value.ref 179), Value.none, (Value.ref 180), (Value.ref 181), (Value.ref 182), (Value.int 415 0), (Value.int 160 0), (Value.str (Str.ofString "/claim/cut.py") 416)]) #[])) ::
    (nat_lit 184, (Obj.mk (Value.type "function") none (Data.func (FuncData.mk (Str.ofString "_law_pick") (Str.ofString "_law_pick") a14 (FuncBody.stmts b14) s14 3 [] Value.none Value.none Value.none (Value.str (Str.ofString "law_pb0327_01") 397) none (Value.ref 183) Value.none 0)) #[])) ::
    (nat_lit 188, (Obj.mk (Value.type "code") none (Data.fields #[(Value.str (Str.ofString "_law_tree") 418), (Value.str (Str.ofString "_law_tree") 419), (Value.str (Str.ofString "/claim/cut.py") 420), (Value.int 166 0), (Value.int 3 0), (Value.int 0 0), (Value.int 0 0), (Value.int 3 0), (Value.ref 185), (Value.bool true), (Value.int 181 0), (Value.ref 186), Value.none, Value.none, Value.none, (Value.ref 187), (Value.int 421 0), (Value.int 166 0), (Value.str (Str.ofString "/claim/cut.py") 422)]) #[])) ::
    (nat_lit 189, (Obj.mk (Value.type "function") none (Data.func (FuncData.mk (Str.ofString "_law_tree") (Str.ofString "_law_tree") a15 (FuncBody.stmts b15) s15 3 [] Value.none Value.none Value.none (Value.str (Str.ofString "law_pb0327_01") 397) none (Value.ref 188) Value.none 0)) #[])) ::
    (nat_lit 195, (Obj.mk (Value.type "code") none (Data.fields #[(Value.str (Str.ofString "_law_blank") 424), (Value.str (Str.ofString "_law_blank") 425), (Value.str (Str.ofString "/claim/cut.py") 426), (Value.int 179 0), (Value.int 1 0), (Value.int 0 0), (Value.int 0 0), (Value.int 3 0), (Value.ref 190), (Value.bool true), (Value.int 181 0), (Value.ref 191), Value.none, (Value.ref 192), (Value.ref 193), (Value.ref 194), (Value.int 428 0), (Value.int 179 0), (Value.str (Str.ofString "/claim/cut.py") 429)]) #[])) ::
    (nat_lit 196, (Obj.mk (Value.type "function") none (Data.func (FuncData.mk (Str.ofString "_law_blank") (Str.ofString "_law_blank") a16 (FuncBody.stmts b16) s16 3 [] Value.none Value.none Value.none (Value.str (Str.ofString "law_pb0327_01") 397) none (Value.ref 195) Value.none 0)) #[])) ::
    (nat_lit 202, (Obj.mk (Value.type "code") none (Data.fields #[(Value.str (Str.ofString "_law_bracketed") 431), (Value.str (Str.ofString "_law_bracketed") 432), (Value.str (Str.ofString "/claim/cut.py") 433), (Value.int 181 0), (Value.int 3 0), (Value.int 0 0), (Value.int 0 0), (Value.int 3 0), (Value.ref 197), (Value.bool true), (Value.int 181 0), (Value.ref 198), Value.none, (Value.ref 199), (Value.ref 200), (Value.ref 201), (Value.int 437 0), (Value.int 181 0), (Value.str (Str.ofString "/claim/cut.py") 438)]) #[])) ::
    (nat_lit 203, (Obj.mk (Value.type "function") none (Data.func (FuncData.mk (Str.ofString "_law_bracketed") (Str.ofString "_law_bracketed") a17 (FuncBody.stmts b17) s17 3 [] Value.none Value.none Value.none (Value.str (Str.ofString "law_pb0327_01") 397) none (Value.ref 202) Value.none 0)) #[])) ::
    (nat_lit 207, (Obj.mk (Value.type "code") none (Data.fields #[(Value.str (Str.ofString "_law_shown") 440), (Value.str (Str.ofString "_law_shown") 441), (Value.str (Str.ofString "/claim/cut.py") 442), (Value.int 185 0), (Value.int 2 0), (Value.int 0 0), (Value.int 0 0), (Value.int 3 0), (Value.ref 204), (Value.bool true), (Value.int 181 0), (Value.ref 205), Value.none, Value.none, Value.none, (Value.ref 206), (Value.int 443 0), (Value.int 185 0), (Value.str (Str.ofString "/claim/cut.py") 444)]) #[])) ::
    (nat_lit 208, (Obj.mk (Value.type "function") none (Data.func (FuncData.mk (Str.ofString "_law_shown") (Str.ofString "_law_shown") a18 (FuncBody.stmts b18) s18 3 [] Value.none Value.none Value.none (Value.str (Str.ofString "law_pb0327_01") 397) none (Value.ref 207) Value.none 0)) #[])) ::
    (nat_lit 214, (Obj.mk (Value.type "code") none (Data.fields #[(Value.str (Str.ofString "_law_faults") 446), (Value.str (Str.ofString "_law_faults") 447), (Value.str (Str.ofString "/claim/cut.py") 448), (Value.int 198 0), (Value.int 0 0), (Value.int 0 0), (Value.int 0 0), (Value.int 3 0), (Value.ref 209), (Value.bool true), (Value.int 181 0), (Value.ref 210), Value.none, (Value.ref 211), (Value.ref 212), (Value.ref 213), (Value.int 449 0), (Value.int 198 0), (Value.str (Str.ofString "/claim/cut.py") 450)]) #[])) ::
    (nat_lit 215, (Obj.mk (Value.type "function") none (Data.func (FuncData.mk (Str.ofString "_law_faults") (Str.ofString "_law_faults") a19 (FuncBody.stmts b19) s19 3 [] Value.none Value.none Value.none (Value.str (Str.ofString "law_pb0327_01") 397) none (Value.ref 214) Value.none 0)) #[])) ::
    (nat_lit 221, (Obj.mk (Value.type "code") none (Data.fields #[(Value.str (Str.ofString "law") 452), (Value.str (Str.ofString "law") 453), (Value.str (Str.ofString "/claim/cut.py") 454), (Value.int 200 0), (Value.int 1 0), (Value.int 0 0), (Value.int 0 0), (Value.int 3 0), (Value.ref 216), (Value.bool true), (Value.int 181 0), (Value.ref 217), Value.none, (Value.ref 218), (Value.ref 219), (Value.ref 220), (Value.int 466 0), (Value.int 200 0), (Value.str (Str.ofString "/claim/cut.py") 467)]) #[])) ::
    (nat_lit 222, (Obj.mk (Value.type "function") none (Data.func (FuncData.mk (Str.ofString "law") (Str.ofString "law") a20 (FuncBody.stmts b20) s20 3 [] Value.none Value.none Value.none (Value.str (Str.ofString "law_pb0327_01") 397) none (Value.ref 221) Value.none 0)) #[])) :: []
  all_goals try (conv => lhs; whnf)
abbrev adrs : List Nat := nat_lit 2 :: nat_lit 3 :: nat_lit 15 :: nat_lit 23 :: nat_lit 24 :: nat_lit 25 :: nat_lit 28 :: nat_lit 40 :: nat_lit 41 :: nat_lit 43 :: nat_lit 44 :: nat_lit 52 :: nat_lit 53 :: nat_lit 59 :: nat_lit 60 :: nat_lit 73 :: nat_lit 74 :: nat_lit 80 :: nat_lit 81 :: nat_lit 87 :: nat_lit 88 :: nat_lit 94 :: nat_lit 95 :: nat_lit 101 :: nat_lit 102 :: nat_lit 108 :: nat_lit 109 :: nat_lit 115 :: nat_lit 116 :: nat_lit 122 :: nat_lit 123 :: nat_lit 129 :: nat_lit 130 :: nat_lit 132 :: nat_lit 133 :: nat_lit 134 :: nat_lit 135 :: nat_lit 143 :: nat_lit 144 :: nat_lit 150 :: nat_lit 151 :: nat_lit 157 :: nat_lit 158 :: nat_lit 162 :: nat_lit 163 :: nat_lit 169 :: nat_lit 170 :: nat_lit 176 :: nat_lit 177 :: nat_lit 183 :: nat_lit 184 :: nat_lit 188 :: nat_lit 189 :: nat_lit 195 :: nat_lit 196 :: nat_lit 202 :: nat_lit 203 :: nat_lit 207 :: nat_lit 208 :: nat_lit 214 :: nat_lit 215 :: nat_lit 221 :: nat_lit 222 :: []
set_option maxRecDepth 100000 in
set_option maxHeartbeats 8000000 in
/-- the text without its names -/
noncomputable def hd.view_39 : Program := by
  refine' (?g : (x1 : Stmt) → tops[1]? = some x1 → (x2 : Stmt) → tops[2]? = some x2 → (x4 : Stmt) → tops[4]? = some x4 → (x5 : Stmt) → tops[5]? = some x5 → (x6 : Stmt) → tops[6]? = some x6 → (x7 : Stmt) → tops[7]? = some x7 → (x8 : Stmt) → tops[8]? = some x8 → (x9 : Stmt) → tops[9]? = some x9 → (x10 : Stmt) → tops[10]? = some x10 → (x11 : Stmt) → tops[11]? = some x11 → (x13 : Stmt) → tops[13]? = some x13 → (x14 : Stmt) → tops[14]? = some x14 → (x15 : Stmt) → tops[15]? = some x15 → (x16 : Stmt) → tops[16]? = some x16 → (x17 : Stmt) → tops[17]? = some x17 → (x18 : Stmt) → tops[18]? = some x18 → (x19 : Stmt) → tops[19]? = some x19 → (x20 : Stmt) → tops[20]? = some x20 → Program) _ ?_ _ ?_ _ ?_ _ ?_ _ ?_ _ ?_ _ ?_ _ ?_ _ ?_ _ ?_ _ ?_ _ ?_ _ ?_ _ ?_ _ ?_ _ ?_ _ ?_ _ ?_
  case g => exact fun x1 _ x2 _ x4 _ x5 _ x6 _ x7 _ x8 _ x9 _ x10 _ x11 _ x13 _ x14 _ x15 _ x16 _ x17 _ x18 _ x19 _ x20 _ => { PySem.Challenge.pw_pb0327_01 with main := { PySem.Challenge.pw_pb0327_01.main with body := [x1, x2, x4, x5, x6, x7, x8, x9, x10, x11, x13, x14, x15, x16, x17, x18, x19, x20] } }
  all_goals try (conv => lhs; whnf)
noncomputable abbrev hdHook : Hook := kHook hd.heap_39 adrs (fun _ => by kernel_rfl)
set_option maxRecDepth 100000 in
set_option maxHeartbeats 8000000 in
/-- the top, run through at once -/
theorem topRun (w : World) : (openEnds treeTable PySem.Challenge.rw_pb0327_01.row.prog w 2942).map (fun s => (openSeen hd.view_39 [] (importedModules PySem.Challenge.rw_pb0327_01.row.prog.main.body) (fun s => xlAt hd.view_39 [] s && recOk (RowW.records PySem.Challenge.rw_pb0327_01.row.toRowW) s) true s, hdHook.obs s)) = some (openGood hd.view_39 [], hdHook.val w) := by
  kernel_rfl

abbrev PR : PySem.Program := PySem.Challenge.rw_pb0327_01.row.prog
abbrev Led := List (Addr × Obj)

/-- no address of the one is an address of the other -/
def Apart (a b : Led) : Prop := ∀ p ∈ a, ∀ q ∈ b, p.1 ≠ q.1
/-- what stands still while a callee runs -/
def Stands (h₀ : Heap) (rest : Led) (a : Addr) (o : Obj) : Prop := h₀.get? a = some o ∨ (a, o) ∈ rest

/-- where a call of a def stands -/
structure Amb (w : World) (p : Program) (loose : List Str) (mean : ExcName → Option Value) (mg mb : Str → Option Value)
    (A : Around) (env : Env) (outer : List Env) (A₀ : Around) (base h₀ : Heap) (L : Addr) (dd uu : Nat) : Prop where
  B : Below A₀ base outer h₀
  X : (hd.heap_39 w.params).In h₀
  T : Top p loose mean mg mb h₀
  hh : A.handled = none
  hA : A.frames = some (env :: outer)
  hf : env.frame = some L
  hk : env.scope.kind = .function
  hd : A.depth + dd < recursionLimit
  hu : A.units + uu < cLine

abbrev exDict (P : Params) (wh : Str) (at_ : Int) (k1 k2 v1 v2 : Tok) : Obj :=
  dictOf [⟨PyData.keyHash P (Str.ofString "what"), .str (Str.ofString "what") k1, .str wh v1⟩, ⟨PyData.keyHash P (Str.ofString "at"), .str (Str.ofString "at") k2, .int at_ v2⟩] 2

/-- the program's own exception, with its dict, on its way through the frames l -/
structure Fly (P : Params) (base : Heap) (l : List Env) (e : Addr) (wh : Str) (at_ : Int) (h : Heap) : Prop where
  stays : base.StaysIn h
  new : base.get? e = none
  frames : h.FunFrames base l
  there : ∃ oe vs T oT ts d k1 k2 v1 v2 sl, h.get? e = some oe ∧ oe.cls = .ref 44 ∧ oe.dict = some d ∧ oe.data = .fields vs ∧ vs[1]? = some (.ref T) ∧ base.get? T = none ∧ T ≠ e ∧
    h.get? T = some oT ∧ oT.data = .fields ts ∧ ts[3]? = some .none ∧ base.get? d = none ∧ h.get? d = some { exDict P wh at_ k1 k2 v1 v2 with slots := sl }

def Spec (w : World) (p : Program) (loose : List Str) (mean : ExcName → Option Value) (mg mb : Str → Option Value)
    (f : Addr) (vs : List Value) (dd uu : Nat) (n0 : Led) (Pre : (Addr → Obj → Prop) → Prop) {ι : Type} (R : ι → Value) (N1 FZ : ι → Led) (P : ι → Prop) (Err : Str → Int → Prop) : Prop :=
  ∀ (A : Around) (env : Env) (outer : List Env) (A₀ : Around) (base h₀ : Heap) (L : Addr) (m : Str → Option Value) (s : Shared) (rest : Led) (Q E : Value → Shared → Prop),
    Amb w p loose mean mg mb A env outer A₀ base h₀ L dd uu → Fr h₀ L s.heap m → News h₀ L s.heap (n0 ++ rest) → Apart n0 rest → Pre (Stands h₀ rest) →
    (∀ i h' tk', P i → Fr h₀ L h' m → News h₀ L h' (N1 i ++ (FZ i ++ rest)) → Apart (N1 i ++ FZ i) rest → Apart (N1 i) (FZ i) → Q (R i) { s with heap := h', toks := tk' }) →
    (∀ e wh at_ h' tk' g, Err wh at_ → Fly w.params base (env :: outer) e wh at_ h' → Fr h₀ L g m → g.UpToSlots h' → E (.ref e) { s with heap := h', toks := tk' }) →
    wpAny (model PR w) A (call (.ref f) vs) Q E s

/-- the same of the code of the call -/
def SpecC (w : World) (p : Program) (loose : List Str) (mean : ExcName → Option Value) (mg mb : Str → Option Value)
    (f : Addr) (vs : List Value) (dd uu : Nat) (n0 : Led) (Pre : (Addr → Obj → Prop) → Prop) {ι : Type} (R : ι → Value) (N1 FZ : ι → Led) (P : ι → Prop) (Err : Str → Int → Prop) : Prop :=
  ∀ (A : Around) (env : Env) (outer : List Env) (A₀ : Around) (base h₀ : Heap) (L : Addr) (m : Str → Option Value) (s : Shared) (rest : Led) (Q E : Value → Shared → Prop),
    Amb w p loose mean mg mb A env outer A₀ base h₀ L dd uu → Fr h₀ L s.heap m → News h₀ L s.heap (n0 ++ rest) → Apart n0 rest → Pre (Stands h₀ rest) →
    (∀ i h' tk', P i → Fr h₀ L h' m → News h₀ L h' (N1 i ++ (FZ i ++ rest)) → Apart (N1 i ++ FZ i) rest → Apart (N1 i) (FZ i) → Q (R i) { s with heap := h', toks := tk' }) →
    (∀ e wh at_ h' tk' g, Err wh at_ → Fly w.params base (env :: outer) e wh at_ h' → Fr h₀ L g m → g.UpToSlots h' → E (.ref e) { s with heap := h', toks := tk' }) →
    codeAny (model PR w) A (.call (.ref f) ⟨vs, []⟩) (fun r s' => match r with | .ok (.ret v) => Q v s' | .ok _ => False | .error e => E e s') s

/-- how a def's body comes back -/
def RetS (g : Heap) (s : Shared) {ι : Type} (R : ι → Value) (N1 FZ : ι → Led) (P : ι → Prop) (v : Value) (s' : Shared) : Prop :=
  ∃ i h' tk' L' m', P i ∧ v = R i ∧ s' = { s with heap := h', toks := tk' } ∧ Fr g L' h' m' ∧ News g L' h' (N1 i ++ FZ i) ∧ Apart (N1 i) (FZ i)
def ErrS (P : Params) (base : Heap) (l : List Env) (g : Heap) (s : Shared) (Err : Str → Int → Prop) (v : Value) (s' : Shared) : Prop :=
  ∃ e wh at_ h' tk', v = .ref e ∧ s' = { s with heap := h', toks := tk' } ∧ Err wh at_ ∧ Fly P base l e wh at_ h' ∧ g.UpToSlots h'

abbrev aroundOf (dp un : Nat) (gd : Option (List Code)) (env : Env) (outer : List Env) : Around := { handled := none, depth := dp, frames := some (env :: outer), guards := gd, units := un }
/-- how an exception leaves a walked body -/
abbrev outE (w : World) (dp un : Nat) (gd : Option (List Code)) (env : Env) (outer : List Env) (base g : Heap) (s : Shared) (Err : Str → Int → Prop) (qual : Str) (scope : Scope) (L' f : Addr) (cdv : Value) : Value → Shared → Prop :=
  fun e s' => wpAny (model PR w) (Around.deeper { handled := none, depth := dp, frames := some (env :: outer), guards := gd, units := un } (envOf qual scope L' f cdv)) (leaving (envOf qual scope L' f cdv) e)
    (fun _ s'' => ErrS w.params base (env :: outer) g s Err e s'') (fun e' s'' => ErrS w.params base (env :: outer) g s Err e' s'') s'
/-- the same of a def with cells -/
abbrev outEC (w : World) (dp un : Nat) (gd : Option (List Code)) (env : Env) (outer : List Env) (base g : Heap) (s : Shared) (Err : Str → Int → Prop) (qual : Str) (scope : Scope) (L' f : Addr) (cdv : Value) : Value → Shared → Prop :=
  fun e s' => wpAny (model PR w) (Around.deeper { handled := none, depth := dp, frames := some (env :: outer), guards := gd, units := un } (envOfC qual scope L' f cdv)) (leaving (envOfC qual scope L' f cdv) e)
    (fun _ s'' => ErrS w.params base (env :: outer) g s Err e s'') (fun e' s'' => ErrS w.params base (env :: outer) g s Err e' s'') s'
/-- the end of a walk -/
def RetE (g : Heap) (s : Shared) {ι : Type} (R : ι → Value) (N1 FZ : ι → Led) (P : ι → Prop) (v : Value) (s' : Shared) : Prop := RetS g s R N1 FZ P v s'
theorem toE {g : Heap} {s : Shared} {ι : Type} {R : ι → Value} {N1 FZ : ι → Led} {P : ι → Prop} {v : Value} {s' : Shared} (h : RetE g s R N1 FZ P v s') : RetS g s R N1 FZ P v s' := h
/-- an end, told short -/
def RetK (K : Value → Shared → Prop) (v : Value) (s' : Shared) : Prop := K v s'
theorem retK {K : Value → Shared → Prop} {g : Heap} {s : Shared} {ι : Type} {R : ι → Value} {N1 FZ : ι → Led} {P : ι → Prop} {v : Value} {s' : Shared} (h : ∀ v s', RetE g s R N1 FZ P v s' → K v s') (x : RetE g s R N1 FZ P v s') : RetK K v s' := h v s' x
theorem RetE.intro {g : Heap} {s : Shared} {ι : Type} {R : ι → Value} {N1 FZ : ι → Led} {P : ι → Prop} {v : Value} (i : ι) {h' : Heap} {tk' : Nat} {L' : Addr} {m' : Str → Option Value} {led : Led}
    (F : Fr g L' h' m') (N : News g L' h' led) (hv : v = R i) (hp : P i) (hs : ∀ q ∈ N1 i ++ FZ i, q ∈ led) (ha : Apart (N1 i) (FZ i)) : RetE g s R N1 FZ P v { s with heap := h', toks := tk' } :=
  ⟨i, h', tk', L', m', hp, hv, rfl, F, fun q hq => N q (hs q hq), ha⟩
theorem RetE.intro0 {g : Heap} {s : Shared} {ι : Type} {R : ι → Value} {N1 FZ : ι → Led} {P : ι → Prop} {v : Value} (i : ι) {h' : Heap} {tk' : Nat} {L' : Addr} {m' : Str → Option Value}
    (F : Fr g L' h' m') (N : News g L' h' (N1 i)) (hv : v = R i) (hp : P i) (hz : FZ i = []) : RetE g s R N1 FZ P v { s with heap := h', toks := tk' } :=
  ⟨i, h', tk', L', m', hp, hv, rfl, F, by rw [hz, List.append_nil]; exact N, by rw [hz]; exact fun _ _ _ h => nomatch h⟩
theorem Apart.nil_l (l : Led) : Apart [] l := fun _ h => nomatch h
theorem Apart.nil_r (l : Led) : Apart l [] := fun _ _ _ h => nomatch h

section
variable {w : World} {p : Program} {loose : List Str} {mean : ExcName → Option Value} {mg mb : Str → Option Value} {f : Addr} {vs : List Value} {dd uu : Nat} {n0 : Led} {Pre : (Addr → Obj → Prop) → Prop} {ι : Type}
  {R : ι → Value} {N1 FZ : ι → Led} {P : ι → Prop} {Err : Str → Int → Prop}
theorem SpecC.of {name qual : Str} {params : Arguments} {body : List Stmt} {scope : Scope} {dV kV doc pm cdv ct oc : Value} {an od : Option Addr} {osl : Array (Option Value)} {binds : List (Str × Value)}
    (ho : ((hd.heap_39 w.params).lookup f) = some ⟨oc, od, .func (fnOf name qual params body scope dV kV doc pm an cdv ct), osl⟩) (hcd : codeIn (hd.heap_39 w.params) cdv qual = true)
    (hbind : ∀ s, BindsTo s (fnOf name qual params body scope dV kV doc pm an cdv ct) ⟨vs, []⟩ binds) (hloc : ∀ y ∈ binds, scope.names.lookup y.1 = some .local)
    (walk : ∀ (dp un : Nat) (gd : Option (List Code)) (env : Env) (outer : List Env) (base g : Heap) (L' : Addr) (h₁ : Heap) (s : Shared) (St : Addr → Obj → Prop) (tk : Nat) (KQ KE : Value → Shared → Prop),
      dp + dd < recursionLimit → un + uu < cLine → Below { handled := none, depth := dp, frames := some (env :: outer), guards := gd, units := un } base (env :: outer) g →
      Fr g L' h₁ (fun y => binds.reverse.lookup y) → News g L' h₁ n0 → (hd.heap_39 w.params).In g → Top p loose mean mg mb g → (∀ q ∈ n0, q.1 < L') → Pre St → (∀ a o, St a o → g.get? a = some o) →
      (∀ v s', RetE g s R N1 FZ P v s' → KQ v s') → (∀ e s', outE w dp un gd env outer base g s Err qual scope L' f cdv e s' → KE e s') →
      PassesOwn (model PR w) (Around.deeper { handled := none, depth := dp, frames := some (env :: outer), guards := gd, units := un } (envOf qual scope L' f cdv)) (envOf qual scope L' f cdv) KE →
      wpAny (model PR w) (Around.deeper { handled := none, depth := dp, frames := some (env :: outer), guards := gd, units := un } (envOf qual scope L' f cdv)) (execs body (envOf qual scope L' f cdv))
        (fun fl s' => RetK KQ (match fl with | .ret v => v | _ => .none) s') KE { s with heap := h₁, toks := tk })
    (hdd : 0 < dd := by decide) (hco : scope.isCoroutine = false := by rfl) (hgen : scope.isGenerator = false := by rfl) (hk : scope.kind = .function := by rfl)
    (hcell : ∀ x ∈ scope.names, x.2 ≠ .cell := by decide) : SpecC w p loose mean mg mb f vs dd uu n0 Pre R N1 FZ P Err := by
  intro A env outer A₀ base h₀ L m s rest Q E ⟨B, X, T, hh, hA, hf, hke, hd, hu⟩ F N ap hpre hret herr
  obtain ⟨hn, dp, fr, gd, un⟩ := A
  cases hh; cases hA; dsimp only at hd hu
  have N0 : News h₀ L s.heap n0 := fun q hq => N q (List.mem_append_left _ hq)
  have X' := X.keeps F.keep
  obtain ⟨FG, BG, st, lv⟩ := groundX (A := { handled := none, depth := dp, frames := some (env :: outer), guards := gd, units := un }) (R := fun r s' => match r with | .ok (.ret v) => RetS (hideAll s.heap (n0.map (·.1))) s R N1 FZ P v s' | _ => False) B F N0 rfl hf hke
  have hrest : ∀ a o, Stands h₀ rest a o → (hideAll s.heap (n0.map (·.1))).get? a = some o := by
    intro a o ho
    rcases ho with ho | ho
    · exact st _ _ ho
    · refine hideAll_get _ (N _ (List.mem_append_right _ ho)).1 fun hm => ?_
      obtain ⟨q, hq, e⟩ := List.mem_map.mp hm
      exact ap q hq _ ho e
  refine codeAny_call_def (fd := fnOf name qual params body scope dV kV doc pm an cdv ct) (body := body) (binds := binds) (Nat.lt_of_le_of_lt (Nat.le_add_right _ _) hd) (X' _ _ ho) rfl (T.nolimit.keeps F.keep) (codeRec_of X' hcd) rfl (hbind _) hcell hloc (fun h₁ hns hk₁ => ?_) hco hgen hk
  have W := walk dp un gd env outer base _ s.heap.objs.size h₁ s (Stands h₀ rest) (s.toks + binds.length) (fun v s' => RetS _ s R N1 FZ P v s') (outE w dp un gd env outer base _ s Err qual scope s.heap.objs.size f cdv) hd hu BG ⟨hns, fun b o e => hk₁ b o (of_hideAll _ e), Nat.le_of_eq (hideAll_size _ _)⟩
    (fun q hq => ⟨hk₁ _ _ (N0 q hq).1, Nat.ne_of_lt (Heap.lt_size (N0 q hq).1), hideAll_none _ (List.mem_map_of_mem hq)⟩) (X.keeps st) (T.keeps st) (fun q hq => Heap.lt_size (N0 q hq).1) hpre hrest (fun _ _ h => h) (fun _ _ h => h) (by passes_own)
  refine wpAny_mono W (fun fl s' hr => ?_) (fun e s' he => wpAny_mono he (fun _ s'' hx => ?_) fun e' s'' hx => ?_)
  · obtain ⟨i, h', tk', L', m', hp, hv, rfl, F', N', ap'⟩ := hr
    suffices key : Q (R i) { s with heap := h', toks := tk' } by
      cases fl <;> (dsimp only at hv ⊢; rw [hv]; exact key)
    obtain ⟨oL, es, ep, hL, hLd, hLk, hLf⟩ := FG.ns
    have hfr : ∀ q ∈ N1 i ++ FZ i, q.1 ≠ L ∧ h₀.get? q.1 = none := fun q hq => by
      have h3 := (N' q hq).2.2
      refine ⟨fun e => (by rw [e, hL] at h3; cases h3), ?_⟩
      cases q0 : h₀.get? q.1 with
      | none => rfl
      | some o => rw [st _ _ q0] at h3; cases h3
    refine hret i h' tk' hp ⟨⟨oL, es, ep, F'.keep L oL hL, hLd, hLk, hLf⟩, fun b o e => F'.keep b o (st b o e), F.above⟩ (fun q hq => ?_) (fun q hq r hr e => ?_) ap'
    · rw [← List.append_assoc] at hq
      rcases List.mem_append.mp hq with hq | hq
      · exact ⟨(N' q hq).1, hfr q hq⟩
      · exact ⟨F'.keep _ _ (hrest _ _ (.inr hq)), (N q (List.mem_append_right _ hq)).2⟩
    · have h3 := (N' q hq).2.2
      rw [e, hrest _ _ (.inr hr)] at h3; cases h3
  · obtain ⟨ea, wh, at_, h', tk', rfl, rfl, hE, hfl, hup⟩ := hx
    exact herr ea wh at_ h' tk' _ hE hfl FG hup
  · obtain ⟨ea, wh, at_, h', tk', rfl, rfl, hE, hfl, hup⟩ := hx
    exact herr ea wh at_ h' tk' _ hE hfl FG hup

theorem SpecC.ofC {name qual : Str} {params : Arguments} {body : List Stmt} {scope : Scope} {dV kV doc pm cdv ct oc : Value} {an od : Option Addr} {osl : Array (Option Value)} {binds : List (Str × Value)}
    (ho : ((hd.heap_39 w.params).lookup f) = some ⟨oc, od, .func (fnOf name qual params body scope dV kV doc pm an cdv ct), osl⟩) (hcd : codeIn (hd.heap_39 w.params) cdv qual = true)
    (hbind : ∀ s, BindsTo s (fnOf name qual params body scope dV kV doc pm an cdv ct) ⟨vs, []⟩ binds) (hkind : (binds.all fun y => scope.names.lookup y.1 == some .local || scope.names.lookup y.1 == some .cell) = true) (hnd : ((cellsFrom 0 scope.names []).map (·.1)).Nodup)
    (walk : ∀ (dp un : Nat) (gd : Option (List Code)) (env : Env) (outer : List Env) (base g : Heap) (L' : Addr) (h₁ : Heap) (s : Shared) (St : Addr → Obj → Prop) (tk : Nat) (KQ KE : Value → Shared → Prop) (cells : Led),
      dp + dd < recursionLimit → un + uu < cLine → Below { handled := none, depth := dp, frames := some (env :: outer), guards := gd, units := un } base (env :: outer) g →
      Fr g L' h₁ (bindL (envOfC qual scope L' f cdv).kindOf binds fun _ => none) → News g L' h₁ (cells ++ n0) → CellsAre (bindC (envOfC qual scope L' f cdv).kindOf binds fun _ => none) (cellsFrom (L' + 1) scope.names []) cells → (hd.heap_39 w.params).In g → Top p loose mean mg mb g → (∀ q ∈ n0, q.1 < L') → Pre St → (∀ a o, St a o → g.get? a = some o) →
      (∀ v s', RetE g s R N1 FZ P v s' → KQ v s') → (∀ e s', outEC w dp un gd env outer base g s Err qual scope L' f cdv e s' → KE e s') →
      PassesOwn (model PR w) (Around.deeper { handled := none, depth := dp, frames := some (env :: outer), guards := gd, units := un } (envOfC qual scope L' f cdv)) (envOfC qual scope L' f cdv) KE →
      wpAny (model PR w) (Around.deeper { handled := none, depth := dp, frames := some (env :: outer), guards := gd, units := un } (envOfC qual scope L' f cdv)) (execs body (envOfC qual scope L' f cdv))
        (fun fl s' => RetK KQ (match fl with | .ret v => v | _ => .none) s') KE { s with heap := h₁, toks := tk })
    (hdd : 0 < dd := by decide) (hco : scope.isCoroutine = false := by rfl) (hgen : scope.isGenerator = false := by rfl) (hk : scope.kind = .function := by rfl) : SpecC w p loose mean mg mb f vs dd uu n0 Pre R N1 FZ P Err := by
  intro A env outer A₀ base h₀ L m s rest Q E ⟨B, X, T, hh, hA, hf, hke, hd, hu⟩ F N ap hpre hret herr
  obtain ⟨hn, dp, fr, gd, un⟩ := A
  cases hh; cases hA; dsimp only at hd hu
  have N0 : News h₀ L s.heap n0 := fun q hq => N q (List.mem_append_left _ hq)
  have X' := X.keeps F.keep
  obtain ⟨FG, BG, st, lv⟩ := groundX (A := { handled := none, depth := dp, frames := some (env :: outer), guards := gd, units := un }) (R := fun r s' => match r with | .ok (.ret v) => RetS (hideAll s.heap (n0.map (·.1))) s R N1 FZ P v s' | _ => False) B F N0 rfl hf hke
  have hrest : ∀ a o, Stands h₀ rest a o → (hideAll s.heap (n0.map (·.1))).get? a = some o := by
    intro a o ho
    rcases ho with ho | ho
    · exact st _ _ ho
    · refine hideAll_get _ (N _ (List.mem_append_right _ ho)).1 fun hm => ?_
      obtain ⟨q, hq, e⟩ := List.mem_map.mp hm
      exact ap q hq _ ho e
  have hcode := codeRec_of X' hcd
  refine codeAny_call_function (Nat.lt_of_le_of_lt (Nat.le_add_right _ _) hd) (X' _ _ ho) rfl hco hgen rfl hcode (hbind _ _ _ _ _ ?_)
  refine wpAny_newFunctionEnv_cells hk (kindsX hkind _) fun env' he s' x => ?_
  subst he
  refine ⟨(T.nolimit.keeps F.keep).keeps x.toInCall.keep, codeAny_func ?_⟩
  obtain ⟨h₁, tk, rfl, _⟩ := x.done
  have hk₁ := x.toInCall.keep
  obtain ⟨cells, NC, Y⟩ := Cl.news (h₀ := s.heap) (Nat.le_refl _) fun n c hm => ⟨x.cell n c (lookup_of_mem_nodup (cellsFrom_names scope.names 0 (s.heap.objs.size + 1) [] [] rfl ▸ hnd) hm), x.above n c hm⟩
  have NN : News (hideAll s.heap (n0.map (·.1))) s.heap.objs.size h₁ (cells ++ n0) := by
    intro q hq
    rcases List.mem_append.mp hq with hq | hq
    · refine ⟨(NC q hq).1, (NC q hq).2.1, ?_⟩
      cases e : (hideAll s.heap (n0.map (·.1))).get? q.1 with
      | none => rfl
      | some o => have e2 := of_hideAll _ e; rw [(NC q hq).2.2] at e2; cases e2
    · exact ⟨hk₁ _ _ (N0 q hq).1, Nat.ne_of_lt (Heap.lt_size (N0 q hq).1), hideAll_none _ (List.mem_map_of_mem hq)⟩
  have W := walk dp un gd env outer base _ s.heap.objs.size h₁ s (Stands h₀ rest) tk (fun v s' => RetS _ s R N1 FZ P v s') (outEC w dp un gd env outer base _ s Err qual scope s.heap.objs.size f cdv) cells hd hu BG ⟨x.toInCall.ns, fun b o e => hk₁ b o (of_hideAll _ e), Nat.le_of_eq (hideAll_size _ _)⟩
    NN Y (X.keeps st) (T.keeps st) (fun q hq => Heap.lt_size (N0 q hq).1) hpre hrest (fun _ _ h => h) (fun _ _ h => h) (by passes_own)
  refine wpAny_mono W (fun fl s' hr => ?_) (fun e s' he => wpAny_mono he (fun _ s'' hx => ?_) fun e' s'' hx => ?_)
  · obtain ⟨i, h', tk', L', m', hp, hv, rfl, F', N', ap'⟩ := hr
    suffices key : Q (R i) { s with heap := h', toks := tk' } by
      cases fl <;> (dsimp only at hv ⊢; rw [hv]; exact key)
    obtain ⟨oL, es, ep, hL, hLd, hLk, hLf⟩ := FG.ns
    have hfr : ∀ q ∈ N1 i ++ FZ i, q.1 ≠ L ∧ h₀.get? q.1 = none := fun q hq => by
      have h3 := (N' q hq).2.2
      refine ⟨fun e => (by rw [e, hL] at h3; cases h3), ?_⟩
      cases q0 : h₀.get? q.1 with
      | none => rfl
      | some o => rw [st _ _ q0] at h3; cases h3
    refine hret i h' tk' hp ⟨⟨oL, es, ep, F'.keep L oL hL, hLd, hLk, hLf⟩, fun b o e => F'.keep b o (st b o e), F.above⟩ (fun q hq => ?_) (fun q hq r hr e => ?_) ap'
    · rw [← List.append_assoc] at hq
      rcases List.mem_append.mp hq with hq | hq
      · exact ⟨(N' q hq).1, hfr q hq⟩
      · exact ⟨F'.keep _ _ (hrest _ _ (.inr hq)), (N q (List.mem_append_right _ hq)).2⟩
    · have h3 := (N' q hq).2.2
      rw [e, hrest _ _ (.inr hr)] at h3; cases h3
  · obtain ⟨ea, wh, at_, h', tk', rfl, rfl, hE, hfl, hup⟩ := hx
    exact herr ea wh at_ h' tk' _ hE hfl FG hup
  · obtain ⟨ea, wh, at_, h', tk', rfl, rfl, hE, hfl, hup⟩ := hx
    exact herr ea wh at_ h' tk' _ hE hfl FG hup

theorem SpecC.spec (S : SpecC w p loose mean mg mb f vs dd uu n0 Pre R N1 FZ P Err) : Spec w p loose mean mg mb f vs dd uu n0 Pre R N1 FZ P Err :=
  fun A env outer A₀ base h₀ L m s rest Q E a b c d e f' g => wpAny_call (S A env outer A₀ base h₀ L m s rest Q E a b c d e f' g)
theorem Spec.of {name qual : Str} {params : Arguments} {body : List Stmt} {scope : Scope} {dV kV doc pm cdv ct oc : Value} {an od : Option Addr} {osl : Array (Option Value)} {binds : List (Str × Value)}
    (ho : ((hd.heap_39 w.params).lookup f) = some ⟨oc, od, .func (fnOf name qual params body scope dV kV doc pm an cdv ct), osl⟩) (hcd : codeIn (hd.heap_39 w.params) cdv qual = true)
    (hbind : ∀ s, BindsTo s (fnOf name qual params body scope dV kV doc pm an cdv ct) ⟨vs, []⟩ binds) (hloc : ∀ y ∈ binds, scope.names.lookup y.1 = some .local)
    (walk : ∀ (dp un : Nat) (gd : Option (List Code)) (env : Env) (outer : List Env) (base g : Heap) (L' : Addr) (h₁ : Heap) (s : Shared) (St : Addr → Obj → Prop) (tk : Nat) (KQ KE : Value → Shared → Prop),
      dp + dd < recursionLimit → un + uu < cLine → Below { handled := none, depth := dp, frames := some (env :: outer), guards := gd, units := un } base (env :: outer) g →
      Fr g L' h₁ (fun y => binds.reverse.lookup y) → News g L' h₁ n0 → (hd.heap_39 w.params).In g → Top p loose mean mg mb g → (∀ q ∈ n0, q.1 < L') → Pre St → (∀ a o, St a o → g.get? a = some o) →
      (∀ v s', RetE g s R N1 FZ P v s' → KQ v s') → (∀ e s', outE w dp un gd env outer base g s Err qual scope L' f cdv e s' → KE e s') →
      PassesOwn (model PR w) (Around.deeper { handled := none, depth := dp, frames := some (env :: outer), guards := gd, units := un } (envOf qual scope L' f cdv)) (envOf qual scope L' f cdv) KE →
      wpAny (model PR w) (Around.deeper { handled := none, depth := dp, frames := some (env :: outer), guards := gd, units := un } (envOf qual scope L' f cdv)) (execs body (envOf qual scope L' f cdv))
        (fun fl s' => RetK KQ (match fl with | .ret v => v | _ => .none) s') KE { s with heap := h₁, toks := tk })
    (hdd : 0 < dd := by decide) (hco : scope.isCoroutine = false := by rfl) (hgen : scope.isGenerator = false := by rfl) (hk : scope.kind = .function := by rfl)
    (hcell : ∀ x ∈ scope.names, x.2 ≠ .cell := by decide) : Spec w p loose mean mg mb f vs dd uu n0 Pre R N1 FZ P Err :=
  (SpecC.of ho hcd hbind hloc walk hdd hco hgen hk hcell).spec

theorem Spec.ofC {name qual : Str} {params : Arguments} {body : List Stmt} {scope : Scope} {dV kV doc pm cdv ct oc : Value} {an od : Option Addr} {osl : Array (Option Value)} {binds : List (Str × Value)}
    (ho : ((hd.heap_39 w.params).lookup f) = some ⟨oc, od, .func (fnOf name qual params body scope dV kV doc pm an cdv ct), osl⟩) (hcd : codeIn (hd.heap_39 w.params) cdv qual = true)
    (hbind : ∀ s, BindsTo s (fnOf name qual params body scope dV kV doc pm an cdv ct) ⟨vs, []⟩ binds) (hkind : (binds.all fun y => scope.names.lookup y.1 == some .local || scope.names.lookup y.1 == some .cell) = true) (hnd : ((cellsFrom 0 scope.names []).map (·.1)).Nodup)
    (walk : ∀ (dp un : Nat) (gd : Option (List Code)) (env : Env) (outer : List Env) (base g : Heap) (L' : Addr) (h₁ : Heap) (s : Shared) (St : Addr → Obj → Prop) (tk : Nat) (KQ KE : Value → Shared → Prop) (cells : Led),
      dp + dd < recursionLimit → un + uu < cLine → Below { handled := none, depth := dp, frames := some (env :: outer), guards := gd, units := un } base (env :: outer) g →
      Fr g L' h₁ (bindL (envOfC qual scope L' f cdv).kindOf binds fun _ => none) → News g L' h₁ (cells ++ n0) → CellsAre (bindC (envOfC qual scope L' f cdv).kindOf binds fun _ => none) (cellsFrom (L' + 1) scope.names []) cells → (hd.heap_39 w.params).In g → Top p loose mean mg mb g → (∀ q ∈ n0, q.1 < L') → Pre St → (∀ a o, St a o → g.get? a = some o) →
      (∀ v s', RetE g s R N1 FZ P v s' → KQ v s') → (∀ e s', outEC w dp un gd env outer base g s Err qual scope L' f cdv e s' → KE e s') →
      PassesOwn (model PR w) (Around.deeper { handled := none, depth := dp, frames := some (env :: outer), guards := gd, units := un } (envOfC qual scope L' f cdv)) (envOfC qual scope L' f cdv) KE →
      wpAny (model PR w) (Around.deeper { handled := none, depth := dp, frames := some (env :: outer), guards := gd, units := un } (envOfC qual scope L' f cdv)) (execs body (envOfC qual scope L' f cdv))
        (fun fl s' => RetK KQ (match fl with | .ret v => v | _ => .none) s') KE { s with heap := h₁, toks := tk })
    (hdd : 0 < dd := by decide) (hco : scope.isCoroutine = false := by rfl) (hgen : scope.isGenerator = false := by rfl) (hk : scope.kind = .function := by rfl) : Spec w p loose mean mg mb f vs dd uu n0 Pre R N1 FZ P Err :=
  (SpecC.ofC ho hcd hbind hkind hnd walk hdd hco hgen hk).spec

/-- a call by its contract; the ledger is the contract's cells, other cells, and a tail that stands -/
theorem Spec.use {A : Around} {env : Env} {outer : List Env} {A₀ : Around} {base h₀ : Heap} {L : Addr} {m : Str → Option Value} {s : Shared} {Q E : Value → Shared → Prop} (mu fz : Led) {led : Led}
    (S : Spec w p loose mean mg mb f vs dd uu n0 Pre R N1 FZ P Err)
    (B : Below A₀ base outer h₀) (F : Fr h₀ L s.heap m) (X : (hd.heap_39 w.params).In h₀) (N : News h₀ L s.heap led) (T : Top p loose mean mg mb h₀)
    (hh : A.handled = none) (hA : A.frames = some (env :: outer)) (hf : env.frame = some L) (hk : env.scope.kind = .function)
    (hd : A.depth + dd < recursionLimit) (hu : A.units + uu < cLine)
    (hsub : ∀ q ∈ n0 ++ (mu ++ fz), q ∈ led) (ap : Apart n0 (mu ++ fz)) (apf : Apart mu fz) (hpre : Pre (Stands h₀ (mu ++ fz)))
    (ret : ∀ i fz' h' tk', P i → (∀ q ∈ FZ i, q ∈ fz') → (∀ q ∈ fz, q ∈ fz') → Fr h₀ L h' m → News h₀ L h' (N1 i ++ (mu ++ fz')) → Apart (N1 i) (mu ++ fz') → Apart mu fz' → Q (R i) { s with heap := h', toks := tk' })
    (err : ∀ e wh at_ h' tk' g, Err wh at_ → Fly w.params base (env :: outer) e wh at_ h' → Fr h₀ L g m → g.UpToSlots h' → E (.ref e) { s with heap := h', toks := tk' }) :
    wpAny (model PR w) A (call (.ref f) vs) Q E s := by
  refine S A env outer A₀ base h₀ L m s (mu ++ fz) Q E ⟨B, X, T, hh, hA, hf, hk, hd, hu⟩ F (fun q hq => N q (hsub q hq)) ap hpre (fun i h' tk' hp F' N' a1 a2 => ?_) err
  refine ret i (FZ i ++ fz) h' tk' hp (fun q hq => List.mem_append_left _ hq) (fun q hq => List.mem_append_right _ hq) F' (fun q hq => N' q ?_) (fun q hq r hr => ?_) (fun q hq r hr => ?_)
  · simp only [List.mem_append] at hq ⊢; rcases hq with h | h | h | h <;> simp [h]
  · simp only [List.mem_append] at hr
    rcases hr with h | h | h
    · exact a1 q (List.mem_append_left _ hq) r (List.mem_append_left _ h)
    · exact a2 q hq r h
    · exact a1 q (List.mem_append_left _ hq) r (List.mem_append_right _ h)
  · rcases List.mem_append.mp hr with h | h
    · exact fun e => a1 r (List.mem_append_right _ h) q (List.mem_append_left _ hq) e.symm
    · exact apf q hq r h

/-- the same where nothing new stays -/
theorem Spec.use0 {A : Around} {env : Env} {outer : List Env} {A₀ : Around} {base h₀ : Heap} {L : Addr} {m : Str → Option Value} {s : Shared} {Q E : Value → Shared → Prop} (mu : Led) {led : Led}
    (S : Spec w p loose mean mg mb f vs dd uu n0 Pre R N1 (fun _ => []) P Err)
    (B : Below A₀ base outer h₀) (F : Fr h₀ L s.heap m) (X : (hd.heap_39 w.params).In h₀) (N : News h₀ L s.heap led) (T : Top p loose mean mg mb h₀)
    (hh : A.handled = none) (hA : A.frames = some (env :: outer)) (hf : env.frame = some L) (hk : env.scope.kind = .function)
    (hd : A.depth + dd < recursionLimit) (hu : A.units + uu < cLine)
    (hsub : ∀ q ∈ n0 ++ mu, q ∈ led) (ap : Apart n0 mu) (hpre : Pre (Stands h₀ mu))
    (ret : ∀ i h' tk', P i → Fr h₀ L h' m → News h₀ L h' (N1 i ++ mu) → Apart (N1 i) mu → Q (R i) { s with heap := h', toks := tk' })
    (err : ∀ e wh at_ h' tk' g, Err wh at_ → Fly w.params base (env :: outer) e wh at_ h' → Fr h₀ L g m → g.UpToSlots h' → E (.ref e) { s with heap := h', toks := tk' }) :
    wpAny (model PR w) A (call (.ref f) vs) Q E s := by
  refine S A env outer A₀ base h₀ L m s mu Q E ⟨B, X, T, hh, hA, hf, hk, hd, hu⟩ F (fun q hq => N q (hsub q hq)) ap hpre (fun i h' tk' hp F' N' a1 a2 => ?_) err
  exact ret i h' tk' hp F' N' fun q hq => a1 q (List.mem_append_left _ hq)

/-- the same, the ledger in order -/
theorem Spec.use1 {A : Around} {env : Env} {outer : List Env} {A₀ : Around} {base h₀ : Heap} {L : Addr} {m : Str → Option Value} {s : Shared} {Q E : Value → Shared → Prop} (mu : Led)
    (S : Spec w p loose mean mg mb f vs dd uu n0 Pre R N1 (fun _ => []) P Err)
    (B : Below A₀ base outer h₀) (F : Fr h₀ L s.heap m) (X : (hd.heap_39 w.params).In h₀) (N : News h₀ L s.heap (n0 ++ mu)) (T : Top p loose mean mg mb h₀)
    (hh : A.handled = none) (hA : A.frames = some (env :: outer)) (hf : env.frame = some L) (hk : env.scope.kind = .function)
    (hd : A.depth + dd < recursionLimit) (hu : A.units + uu < cLine)
    (ap : Apart n0 mu) (hpre : Pre (Stands h₀ mu))
    (ret : ∀ i h' tk', P i → Fr h₀ L h' m → News h₀ L h' (N1 i ++ mu) → Apart (N1 i) mu → Q (R i) { s with heap := h', toks := tk' })
    (err : ∀ e wh at_ h' tk' g, Err wh at_ → Fly w.params base (env :: outer) e wh at_ h' → Fr h₀ L g m → g.UpToSlots h' → E (.ref e) { s with heap := h', toks := tk' }) :
    wpAny (model PR w) A (call (.ref f) vs) Q E s := Spec.use0 mu S B F X N T hh hA hf hk hd hu (fun _ hq => hq) ap hpre ret err
end
/-- the end of a turn of a loop that stores no name -/
def FixStep (h₀ : Heap) (L : Addr) (m : Str → Option Value) (s : Shared) (J : Nat → Led → Prop) (Q : Flow → Shared → Prop) (n : Nat) (f : Flow) (s₃ : Shared) : Prop :=
  match f with
  | .next | .cont => ∃ h' tk news₂ n', s₃ = { s with heap := h', toks := tk } ∧ Fr h₀ L h' m ∧ News h₀ L h' news₂ ∧ n' < n ∧ J n' news₂
  | .brk => Q .next s₃
  | .ret v => Q (.ret v) s₃
theorem While_fix {prog : Program} {w : World} {A : Around} {E : Value → Shared → Prop} {Q : Flow → Shared → Prop} {s : Shared} {env : Env} {h₀ : Heap} {L : Addr} {test : Expr} {body : List Stmt} {pos : Pos} {m : Str → Option Value} {news : Led} (J : Nat → Led → Prop) {n₀ : Nat}
    (F : Fr h₀ L s.heap m) (N : News h₀ L s.heap news) (hJ : J n₀ news)
    (turn : ∀ n news₁ h₁ tk₁, Fr h₀ L h₁ m → News h₀ L h₁ news₁ → J n news₁ →
      wpAny (model prog w) A (isTrue test env (eval test env)) (fun b s₂ => if b = true then wpAny (model prog w) A (execs body env) (FixStep h₀ L m s J Q n) E s₂ else Q .next s₂) E { s with heap := h₁, toks := tk₁ })
    (hE : PassesOwn (model prog w) A env E := by passes_own) :
    wpAny (model prog w) A (exec (.While test body [] pos) env) Q E s := by
  refine While_inv2 (fun n m' nx => m' = m ∧ J n nx) F N ⟨rfl, hJ⟩ (fun n m₁ news₁ h₁ tk₁ F₁ N₁ ⟨hm, hJ₁⟩ => ?_) hE
  subst hm
  refine wpAny_mono (turn n news₁ h₁ tk₁ F₁ N₁ hJ₁) (fun b s₂ hb => ?_) fun _ _ x => x
  cases b with
  | false => simpa using hb
  | true =>
    simp only [if_true] at hb ⊢
    refine wpAny_mono hb (fun f s₃ h₃ => ?_) fun _ _ x => x
    cases f with
    | next => obtain ⟨h', tk, nx, n', e, F', N', hn, hJ'⟩ := h₃; exact ⟨h', tk, _, nx, n', e, F', N', hn, rfl, hJ'⟩
    | cont => obtain ⟨h', tk, nx, n', e, F', N', hn, hJ'⟩ := h₃; exact ⟨h', tk, _, nx, n', e, F', N', hn, rfl, hJ'⟩
    | brk => exact h₃
    | ret v => exact h₃
theorem apart2 {p1 p2 : Addr × Obj} {b : Led} (h1 : ∀ q ∈ b, q.1 ≠ p1.1) (h2 : ∀ q ∈ b, q.1 ≠ p2.1) : Apart [p1, p2] b := by
  intro q hq q' hq' e
  rcases List.mem_cons.mp hq with rfl | hq
  · exact h1 q' hq' e.symm
  · rw [List.mem_singleton.mp hq] at e; exact h2 q' hq' e.symm
theorem apart1 {p1 : Addr × Obj} {b : Led} (h1 : ∀ q ∈ b, q.1 ≠ p1.1) : Apart [p1] b := by
  intro q hq q' hq' e
  rw [List.mem_singleton.mp hq] at e; exact h1 q' hq' e.symm
theorem all_cons {l : Addr} {p : Addr × Obj} {b : Led} (h : @Ne Nat p.1 l) (hb : ∀ q ∈ b, q.1 ≠ l) : ∀ q ∈ p :: b, q.1 ≠ l := fun q hq => by
  rcases List.mem_cons.mp hq with rfl | hq
  · exact h
  · exact hb q hq
theorem allLt_ne {d : Addr} : ∀ {l : Led}, AllLt d l → ∀ q ∈ l, q.1 ≠ d
  | [], _, _, h => nomatch h
  | _ :: _, x, q, h => by
    rcases List.mem_cons.mp h with rfl | h
    · exact Nat.ne_of_lt x.1
    · exact allLt_ne x.2 q h
theorem News.last {h₀ h : Heap} {L : Addr} {p : Addr × Obj} {l : Led} (N : News h₀ L h (p :: l)) : News h₀ L h (l ++ [p]) := fun q hq => N q (by simp only [List.mem_append, List.mem_cons, List.not_mem_nil, or_false] at hq ⊢; exact hq.symm)
theorem apartLt {p1 p2 p3 : Addr × Obj} (h : p1.1 < p3.1 ∧ p2.1 < p3.1) : Apart [p1, p2] [p3] := by
  intro q hq r hr
  rw [List.mem_singleton.mp hr]
  simp only [List.mem_cons, List.not_mem_nil, or_false] at hq
  rcases hq with rfl | rfl
  · exact Nat.ne_of_lt h.1
  · exact Nat.ne_of_lt h.2
theorem ite_eq_t {a : Int} {P Q : Prop} {d : Decidable ((a == a) = true)} (h : P) : @ite Prop ((a == a) = true) d P Q := by rw [if_pos (beq_self_eq_true a)]; exact h
/-- a goal put by -/
def Hold (P : Prop) : Prop := P
theorem hold {P : Prop} (h : Hold P) : P := h

def leS (a b : Str) : Bool := !decide (b.cps.toList < a.cps.toList)
def isStart (c : Str) : Bool := (leS (Str.ofString "a") c && leS c (Str.ofString "z")) || (leS (Str.ofString "A") c && leS c (Str.ofString "Z"))
def isNameCh (c : Str) : Bool := isStart c || (leS (Str.ofString "0") c && leS c (Str.ofString "9"))

abbrev NoErr : Str → Int → Prop := fun _ _ => False
abbrev NoPre : (Addr → Obj → Prop) → Prop := fun _ => True
set_option maxRecDepth 100000 in
set_option maxHeartbeats 8000000 in
theorem fillS2 : hd.heap_39 = hd.heap_39 ∧ PySem.Challenge.rw_pb0327_01 = PySem.Challenge.rw_pb0327_01 := by
  k_with "sp_open" => (
    refine' Spec.of ?k1 ?k2 ?k3 ?k4 ?_ ?d0 ?c2 ?c3 ?c4 ?c5
    (case k1 => k_is)
    (case k2 => k_is)
    (case k3 => exact fun _ => BindsTo.of_eq rfl)
    (case k4 => exact locs rfl)
    (case d0 => first | decide | omega)
    (case c2 => exact rfl)
    (case c3 => exact rfl)
    (case c4 => exact rfl)
    (case c5 => decide)
    k_whole
    intro dp un gd env outer base g L' h₁ s St tk KQ KE hd hu B F N X T hlt hpre hst hKQ hKE hKP
    (try dsimp only at hlt hpre)
    (try k_fold))
  k_with "sp_openC" => (
    refine' Spec.ofC ?k1 ?k2 ?k3 ?k4 ?kn ?_ ?d0 ?c2 ?c3 ?c4
    (case k1 => k_is)
    (case k2 => k_is)
    (case k3 => exact fun _ => BindsTo.of_eq rfl)
    (case k4 => exact rfl)
    (case kn => decide +kernel)
    (case d0 => first | decide | omega)
    (case c2 => exact rfl)
    (case c3 => exact rfl)
    (case c4 => exact rfl)
    k_whole
    intro dp un gd env outer base g L' h₁ s St tk KQ KE cells hd hu B F N Y X T hlt hpre hst hKQ hKE hKP
    k_cells Y
    (try simp only [List.cons_append, List.nil_append] at N)
    (try dsimp only at hlt hpre)
    (try k_fold))
  k_with "apt" => (
    (unfold Apart)
    (simp only [List.cons_append, List.nil_append, List.append_nil, List.forall_mem_cons, List.not_mem_nil, false_implies, implies_true, and_true, true_and])
    ((repeat' apply And.intro) <;> first | exact neN (by omega) | (intro _ h9; exact absurd h9 (by simp))))
  k_with "sp_args" => (
    (case k1 => k_asm)
    (case k2 => k_asm)
    (case k3 => k_asm)
    (case k4 => k_asm)
    (case k5 => k_asm)
    (case kh => exact rfl)
    (case kA => exact rfl)
    (case kF => exact rfl)
    (case kK => exact rfl)
    (case kd => ktr_room)
    (case ku => ktr_units))
  k_with "sp_noerr" => (case ke => exact (fun _ _ _ _ _ _ h => h.elim))
  k_with "sp_pure" => ((case ka => exact Apart.nil_l _); (case kp => exact trivial))
  k_with "call53" => (
    k_dflt (refine' Spec.use1 _ (isNameStart _ _ _ _ _ _ _ _) ?k1 ?k2 ?k3 ?k4 ?k5 ?kh ?kA ?kF ?kK ?kd ?ku ?ka ?kp ?_ ?ke; k_extra "sp_args"; k_extra "sp_pure"; k_extra "sp_noerr"; k_whole)
    intro i' h' tk' hP' F' N' hA'
    clear hP' hA'
    (try dsimp only at F' N')
    (try simp only [List.nil_append] at N')
    (try k_sweep))
  k_with "call60" => (
    k_dflt (refine' Spec.use1 _ (isNameChar _ _ _ _ _ _ _ _) ?k1 ?k2 ?k3 ?k4 ?k5 ?kh ?kA ?kF ?kK ?kd ?ku ?ka ?kp ?_ ?ke; k_extra "sp_args"; k_extra "sp_pure"; k_extra "sp_noerr"; k_whole)
    intro i' h' tk' hP' F' N' hA'
    clear hP' hA'
    (try dsimp only at F' N')
    (try simp only [List.nil_append] at N')
    (try k_sweep))
  k_with "sp_erru" => (case ke => exact (fun _ _ _ _ _ _ hE fl hF up => passEnd hKE (by assumption) hE fl hF up))
  k_with "call81" => (
    (with_reducible rename News _ _ _ _ => nX)
    (try dsimp only at nX)
    k_dflt (refine' Spec.use1 [] (rdChar _ _ _ _ _ _ _ _ ⟨_, _, _, _, _, _, _⟩ ⟨_, _, _, _, _, _, _, _⟩ _ _ ?hl) ?k1 ?k2 ?k3 ?k4 ?k5 ?kh ?kA ?kF ?kK ?kd ?ku ?ka ?kp ?_ ?ke; k_extra "sp_args"; (case hl => assumption); (case ka => exact Apart.nil_r _); (case kp => exact trivial); k_extra "sp_noerr"; k_whole)
    intro i' h' tk' hP' F' N' hA'
    clear hP' hA'
    (try dsimp only at F' N')
    (try simp only [List.append_nil] at N')
    (try dsimp only)
    (try k_sweep))
  k_with "call95" => (
    (with_reducible rename News _ _ _ _ => nX)
    (try dsimp only at nX)
    k_dflt (refine' Spec.use1 [] (quotedS _ _ _ _ _ _ _ _ ?hrd ⟨_, _, _, _, _, _, _⟩ ⟨_, _, _, _, _, _, _, _⟩ _ _ _ _ ?hq _ _ ?hl ?ha) ?k1 ?k2 ?k3 ?k4 ?k5 ?kh ?kA ?kF ?kK ?kd ?ku ?ka ?kp ?_ ?ke; k_extra "sp_args"; (case hrd => assumption); (case hq => assumption); (case hl => assumption); (case ha => assumption); (case ka => exact Apart.nil_r _); (case kp => exact trivial); (case ke => exact (fun _ _ _ _ _ _ hE fl hF up => passEnd hKE (by assumption) (hq9 _ _ hE) fl hF up)); k_whole)
    intro i' h' tk' hP' F' N' hA'
    clear hA'
    (try dsimp only at F' N' hP')
    (try simp only [List.append_nil] at N')
    (try dsimp only)
    (try k_sweep))
  k_with "call88" => (
    (with_reducible rename News _ _ _ _ => nX)
    (try dsimp only at nX)
    k_dflt (refine' Spec.use1 _ (stepS _ _ _ _ _ _ _ _ ?hrd ⟨_, _, _, _, _, _, _⟩ ⟨_, _, _, _, _, _, _, _⟩ _ ?hl ?ha) ?k1 ?k2 ?k3 ?k4 ?k5 ?kh ?kA ?kF ?kK ?kd ?ku ?ka ?kp ?_ ?ke; k_extra "sp_args"; (case hrd => assumption); (case hl => assumption); (case ha => assumption); (case ka => first | exact Apart.nil_r _ | assumption); (case kp => exact trivial); (case ke => exact (fun _ _ _ _ _ _ hE fl hF up => passEnd hKE (by assumption) (hq9 _ _ hE) fl hF up)); k_whole)
    intro i' h' tk' hP' F' N' hA'
    (try dsimp only at F' N' hP')
    (try simp only [List.append_nil] at N')
    (try dsimp only)
    (try k_sweep))
  k_with "call44" => (
    refine raiseEnd hKE (by assumption) (by k_asm) (by k_asm) (by k_asm) (by k_asm) rfl ?kd ?ku (hold ?_)
    (case kd => omega)
    (case ku => omega))
  k_fill
  exact ⟨rfl, rfl⟩

local macro_rules | `(tactic| walk_at "ite") => `(tactic| with_reducible refine ite_eq_t ?_)
local macro_rules | `(tactic| k_room) => `(tactic| ktr_room)
local macro_rules | `(tactic| walk_at "RetK") => `(tactic| (refine retK (by assumption) ?_; (try dsimp only)))
local macro_rules | `(tactic| walk_at "eval Call") => `(tactic| (k_here; refine Call_ ?_))
local macro_rules | `(tactic| walk_at "eval Call Attribute") => `(tactic| (k_here; refine MethodCall_ ?_))
local macro_rules | `(tactic| walk_at "call builtin:list.append") => `(tactic| (k_here; refine hold ?_))
local macro_rules | `(tactic| walk_at "exec While Compare cons nil") => `(tactic| (k_here; refine hold ?_))
local macro_rules | `(tactic| walk_at "exec While BoolOp cons nil") => `(tactic| (k_here; refine hold ?_))
local macro_rules | `(tactic| walk_at "exec While Call cons nil") => `(tactic| (k_here; refine hold ?_))
local macro_rules | `(tactic| walk_at "CompSrc") => `(tactic| (k_here; refine hold ?_))
local macro_rules | `(tactic| walk_at "CompRest") => `(tactic| (k_here; refine hold ?_))
local macro_rules | `(tactic| walk_at "CompEnd") => `(tactic| (k_here; refine hold ?_))
local macro_rules | `(tactic| walk_at "call ref") => `(tactic| (k_here; (with_reducible show wpAny _ _ (call (Value.ref _) _) _ _ _); refine hold ?_))
local macro_rules | `(tactic| walk_at "call ref") => `(tactic| (k_here; (with_reducible show wpAny _ _ (call (Value.ref 53) _) _ _ _); first | k_extra "call53" | refine hold ?_))
local macro_rules | `(tactic| walk_at "call ref") => `(tactic| (k_here; (with_reducible show wpAny _ _ (call (Value.ref 81) _) _ _ _); first | k_extra "call81" | refine hold ?_))
local macro_rules | `(tactic| walk_at "call ref") => `(tactic| (k_here; (with_reducible show wpAny _ _ (call (Value.ref 60) _) _ _ _); first | k_extra "call60" | refine hold ?_))
local macro_rules | `(tactic| walk_at "call ref") => `(tactic| (k_here; (with_reducible show wpAny _ _ (call (Value.ref 95) _) _ _ _); first | k_extra "call95" | refine hold ?_))
local macro_rules | `(tactic| walk_at "call ref") => `(tactic| (k_here; (with_reducible show wpAny _ _ (call (Value.ref 88) _) _ _ _); first | k_extra "call88" | refine hold ?_))
local macro_rules | `(tactic| walk_at "call ref") => `(tactic| (k_here; (with_reducible show wpAny _ _ (call (Value.ref 44) _) _ _ _); first | k_extra "call44" | refine hold ?_))
variable (w : World) (p : Program) (loose : List Str) (mean : ExcName → Option Value) (mg mb : Str → Option Value)

set_option maxRecDepth 100000 in
set_option maxHeartbeats 8000000 in
theorem isNameStart (c : Str) (t : Tok) :
   Spec w p loose mean mg mb 53 [.str c t] 2 8 [] NoPre (fun _ : Unit => .bool (isStart c)) (fun _ => []) (fun _ => []) (fun _ => True) NoErr := by
  k_extra "sp_open"
  k_steps
  all_goals (refine RetE.intro () (by k_asm) (by k_asm) ?_ trivial (fun _ h => nomatch h) (Apart.nil_l _))
  all_goals (simp only [isStart, leS, *]; try simp)

set_option maxRecDepth 100000 in
set_option maxHeartbeats 8000000 in
theorem isNameChar (c : Str) (t : Tok) :
   Spec w p loose mean mg mb 60 [.str c t] 4 16 [] NoPre (fun _ : Unit => .bool (isNameCh c)) (fun _ => []) (fun _ => []) (fun _ => True) NoErr := by
  k_extra "sp_open"
  k_steps
  all_goals (refine RetE.intro () (by k_asm) (by k_asm) ?_ trivial (fun _ h => nomatch h) (Apart.nil_l _))
  all_goals (simp only [isNameCh, leS, *]; try simp)

open PySem.Builtin PySem.Builtin.Str in
theorem cut_over {x : Str} {i j : Int} (h0 : 0 ≤ i) (h1 : i ≤ x.length) (h2 : (x.length : Int) ≤ j) : Txt.slice x (some i) (some j) = Txt.slice x (some i) (some (x.length : Int)) := by
  have e : strSliceIndices (some i) (some j) 1 x.length = strSliceIndices (some i) (some (x.length : Int)) 1 x.length := by
    have a0 : ¬ i < 0 := by omega
    have a1 : ¬ j < 0 := by omega
    have a2 : ¬ ((x.length : Int) < 0) := by omega
    have a3 : (1 : Int) > 0 := by decide
    simp only [strSliceIndices, a0, a1, a2, a3, if_false, if_true, Int.min_eq_right h2, Int.min_self]
  unfold Txt.slice
  rw [e]
theorem cut_in {x : Str} {i j : Int} (h0 : 0 ≤ i) (h1 : i ≤ j) (h2 : j ≤ x.length) : Txt.slice x (some i) (some j) = ⟨((x.cps.toList.drop i.toNat).take (j - i).toNat).toArray⟩ :=
  beq_iff_eq.mp (slice_closes ⟨h0, h1, by rw [Array.length_toList]; exact h2⟩)

/-- l is what stands in src from a on -/
def At (src : Str) (l : List Nat) (a : Int) : Prop := ∃ pre : List Nat, src.cps.toList = pre ++ l ∧ a = pre.length
def one (c : Nat) : Str := ⟨#[c]⟩
def txt (l : List Nat) : Str := ⟨l.toArray⟩
def chr (src : Str) (i : Int) : Str := Txt.slice src (some i) (some (i + 1))
theorem At.len {src : Str} {l : List Nat} {a : Int} (h : At src l a) : (src.length : Int) = a + l.length := by
  obtain ⟨pre, e, rfl⟩ := h
  have := congrArg List.length e
  rw [Array.length_toList, List.length_append] at this
  show ((src.cps.size : Nat) : Int) = _
  omega
theorem At.pos {src : Str} {l : List Nat} {a : Int} (h : At src l a) : 0 ≤ a := by
  obtain ⟨pre, e, rfl⟩ := h; omega
theorem At.next {src : Str} {c : Nat} {l : List Nat} {a : Int} (h : At src (c :: l) a) : At src l (a + 1) := by
  obtain ⟨pre, e, rfl⟩ := h
  exact ⟨pre ++ [c], by simpa using e, by simp⟩
theorem At.skip {src : Str} {v l : List Nat} {a : Int} (h : At src (v ++ l) a) : At src l (a + v.length) := by
  obtain ⟨pre, e, rfl⟩ := h
  exact ⟨pre ++ v, by simpa using e, by simp⟩
theorem At.chr_nil {src : Str} {a : Int} (h : At src [] a) : chr src a = Str.empty := by
  have hl := h.len
  have h0 := h.pos
  simp only [List.length_nil] at hl
  unfold chr
  rw [cut_over h0 (by omega) (by omega), cut_in h0 (by omega) (Int.le_refl _)]
  have : ((src.length : Int) - a).toNat = 0 := by omega
  rw [this]; rfl
theorem At.cut {src : Str} {v l : List Nat} {a b : Int} (h : At src (v ++ l) a) (hb : b = a + v.length) : Txt.slice src (some a) (some b) = txt v := by
  have hl := h.len
  have h0 := h.pos
  rw [List.length_append] at hl
  rw [cut_in h0 (by omega) (by omega)]
  obtain ⟨pre, e, rfl⟩ := h
  rw [e]
  have : (b - (pre.length : Int)).toNat = v.length := by omega
  rw [this, Int.toNat_natCast, List.drop_left, List.take_left]; rfl
theorem At.chr_cons {src : Str} {c : Nat} {l : List Nat} {a : Int} (h : At src (c :: l) a) : chr src a = one c :=
  At.cut (v := [c]) (l := l) h (by simp)
theorem one_ne_empty (c : Nat) : one c ≠ Str.empty := fun h => by cases h
theorem one_inj {a b : Nat} (h : one a = one b) : a = b := by cases h; rfl
theorem one_eq_iff {a b : Nat} : one a = one b ↔ a = b := ⟨one_inj, fun h => h ▸ rfl⟩
theorem one_beq {a b : Nat} : (one a == one b) = (a == b) := by
  rw [Bool.eq_iff_iff, beq_iff_eq, beq_iff_eq]; exact one_eq_iff
theorem one_beq_empty {a : Nat} : (one a == Str.empty) = false := by
  cases h : (one a == Str.empty) with
  | false => rfl
  | true => exact absurd (beq_iff_eq.mp h) (one_ne_empty a)
theorem empty_bne_one (c : Nat) : (Str.empty != one c) = true := by
  rw [bne_iff_ne]; exact (one_ne_empty c).symm
theorem ofs_empty : Str.ofString "" = Str.empty := by decide +kernel
theorem ofs_nl : Str.ofString "\n" = one 10 := by decide +kernel
theorem ofs_q2 : Str.ofString "\"" = one 34 := by decide +kernel
theorem ofs_q1 : Str.ofString "'" = one 39 := by decide +kernel

def isBl (n : Nat) : Bool := n == 32 || n == 9 || n == 13 || n == 10
def isSt (n : Nat) : Bool := (decide (97 ≤ n) && decide (n ≤ 122)) || (decide (65 ≤ n) && decide (n ≤ 90))
def isNm (n : Nat) : Bool := isSt n || (decide (48 ≤ n) && decide (n ≤ 57))
def isMk (n : Nat) : Bool := [61, 46, 124, 40, 41, 91, 93, 123, 125].contains n
/-- a quoted text up to its quote -/
def scanQ (q : Nat) : List Nat → Option (List Nat × List Nat)
  | [] => none
  | c :: l => if c = q then some ([], l) else if c = 10 then none else (scanQ q l).map fun r => (c :: r.1, r.2)
/-- a token: where it stands, its kind and value, what is behind it -/
structure Tk where
  l1 : List Nat
  kind : Str
  value : Str
  rest : List Nat
inductive Res (α : Type) where
  | ok (a : α)
  | err (what : Str) (l : List Nat)
  | out
def Res.bind {α β : Type} : Res α → (α → Res β) → Res β
  | .ok a, f => f a
  | .err w l, _ => .err w l
  | .out, _ => .out
abbrev sEnd : Str := Str.ofString "end"
abbrev sName : Str := Str.ofString "name"
abbrev sText : Str := Str.ofString "text"
def lex1 : List Nat → Res Tk
  | [] => .ok ⟨[], sEnd, Str.empty, []⟩
  | c :: r => if isSt c = true then .ok ⟨c :: r, sName, txt (c :: r.takeWhile isNm), r.dropWhile isNm⟩
    else if c = 34 ∨ c = 39 then (match scanQ c r with | some (v, r') => .ok ⟨c :: r, sText, txt v, r'⟩ | none => .err (Str.ofString "quote") (c :: r))
    else if isMk c = true then .ok ⟨c :: r, one c, one c, r⟩
    else .err (Str.ofString "character") (c :: r)
def lex (l : List Nat) : Res Tk := lex1 (l.dropWhile isBl)

theorem one_cps (c : Nat) : (one c).cps.toList = [c] := rfl
theorem lst1 (a b : Nat) : ([a] < [b]) ↔ a < b := by
  constructor
  · intro h; cases h with
    | rel h => exact h
    | cons h => cases h
  · intro h; exact .rel h
theorem leS_one_r (s : Str) (a c : Nat) (h : s = one a) : leS s (one c) = decide (a ≤ c) := by
  subst h
  unfold leS
  rw [one_cps, one_cps, Bool.eq_iff_iff]
  simp [lst1]
theorem leS_one_l (s : Str) (a c : Nat) (h : s = one a) : leS (one c) s = decide (c ≤ a) := by
  subst h
  unfold leS
  rw [one_cps, one_cps, Bool.eq_iff_iff]
  simp [lst1]
theorem isStart_one (c : Nat) : isStart (one c) = isSt c := by
  unfold isStart isSt
  rw [leS_one_r _ 97 c (by decide +kernel), leS_one_l _ 122 c (by decide +kernel), leS_one_r _ 65 c (by decide +kernel), leS_one_l _ 90 c (by decide +kernel)]
theorem isNameCh_one (c : Nat) : isNameCh (one c) = isNm c := by
  unfold isNameCh isNm
  rw [isStart_one, leS_one_r _ 48 c (by decide +kernel), leS_one_l _ 57 c (by decide +kernel)]
theorem isStart_empty : isStart Str.empty = false := by decide +kernel
theorem isNameCh_empty : isNameCh Str.empty = false := by decide +kernel
open PySem.Builtin PySem.Builtin.Str in
theorem inBl_one (c : Nat) : (!(occurrences (Str.ofString " \t\r\n") (one c) 0 (Str.ofString " \t\r\n").length 1).isEmpty) = isBl c := by
  rw [one, StrLaws.found_one]
  rw [show (Str.ofString " \t\r\n").cps.toList = [32, 9, 13, 10] from by decide +kernel]
  unfold isBl
  rw [Bool.eq_iff_iff]; simp [or_assoc]
open PySem.Builtin PySem.Builtin.Str in
theorem inMk_one (c : Nat) : (!(occurrences (Str.ofString "=.|()[]{}") (one c) 0 (Str.ofString "=.|()[]{}").length 1).isEmpty) = isMk c := by
  rw [one, StrLaws.found_one]
  rw [show (Str.ofString "=.|()[]{}").cps.toList = [61, 46, 124, 40, 41, 91, 93, 123, 125] from by decide +kernel]
  unfold isMk
  rw [Bool.eq_iff_iff, decide_eq_true_eq, List.contains_iff_mem]

inductive Tree where
  | name (s : Str)
  | text (s : Str)
  | seq (l : List Tree)
  | alt (l : List Tree)
  | opt (t : Tree)
  | rep (t : Tree)
def altOf (x : Tree) : List Tree → Tree
  | [] => x
  | y :: l => .alt (x :: y :: l)
def seqOf : List Tree → Tree
  | [x] => x
  | l => .seq l
def expectR (k : Str) (t : Tk) : Res (Str × Tk) := if t.kind = k then (lex t.rest).bind fun t' => .ok (t.value, t') else .err k t.l1
def starts (k : Str) : Bool := [sName, sText, one 40, one 91, one 123].any (· == k)
mutual
def pAlts : Nat → Tk → Res (Tree × Tk)
  | 0, _ => .out
  | n + 1, t => (pSeq n t).bind fun r => (pMore n r.2).bind fun q => .ok (altOf r.1 q.1, q.2)
def pMore : Nat → Tk → Res (List Tree × Tk)
  | 0, _ => .out
  | n + 1, t => if t.kind = one 124 then (lex t.rest).bind fun t1 => (pSeq n t1).bind fun r => (pMore n r.2).bind fun q => .ok (r.1 :: q.1, q.2) else .ok ([], t)
def pSeq : Nat → Tk → Res (Tree × Tk)
  | 0, _ => .out
  | n + 1, t => (pItems n t).bind fun r => .ok (seqOf r.1, r.2)
def pItems : Nat → Tk → Res (List Tree × Tk)
  | 0, _ => .out
  | n + 1, t => if starts t.kind = true then (pItem n t).bind fun r => (pItems n r.2).bind fun q => .ok (r.1 :: q.1, q.2) else .ok ([], t)
def pItem : Nat → Tk → Res (Tree × Tk)
  | 0, _ => .out
  | n + 1, t => (lex t.rest).bind fun t1 =>
      if t.kind = sName then .ok (.name t.value, t1) else if t.kind = sText then .ok (.text t.value, t1)
      else (pAlts n t1).bind fun r =>
        if t.kind = one 40 then (expectR (one 41) r.2).bind fun q => .ok (r.1, q.2)
        else if t.kind = one 91 then (expectR (one 93) r.2).bind fun q => .ok (.opt r.1, q.2)
        else (expectR (one 125) r.2).bind fun q => .ok (.rep r.1, q.2)
end
abbrev TupO (vs : List Value) : Obj := { cls := .type "tuple", data := .seq vs.toArray }
mutual
/-- a tree as it lies -/
inductive TreeAt (St : Addr → Obj → Prop) : Value → Tree → Prop
  | name {a : Addr} {t1 t2 : Tok} {s : Str} : St a (TupO [.str sName t1, .str s t2]) → TreeAt St (.ref a) (.name s)
  | text {a : Addr} {t1 t2 : Tok} {s : Str} : St a (TupO [.str sText t1, .str s t2]) → TreeAt St (.ref a) (.text s)
  | seq {a b : Addr} {t1 : Tok} {vs : List Value} {l : List Tree} : St a (TupO [.str (Str.ofString "seq") t1, .ref b]) → St b (TupO vs) → TreesAt St vs l → TreeAt St (.ref a) (.seq l)
  | alt {a b : Addr} {t1 : Tok} {vs : List Value} {l : List Tree} : St a (TupO [.str (Str.ofString "alt") t1, .ref b]) → St b (TupO vs) → TreesAt St vs l → TreeAt St (.ref a) (.alt l)
  | opt {a : Addr} {t1 : Tok} {v : Value} {t : Tree} : St a (TupO [.str (Str.ofString "opt") t1, v]) → TreeAt St v t → TreeAt St (.ref a) (.opt t)
  | rep {a : Addr} {t1 : Tok} {v : Value} {t : Tree} : St a (TupO [.str (Str.ofString "rep") t1, v]) → TreeAt St v t → TreeAt St (.ref a) (.rep t)
inductive TreesAt (St : Addr → Obj → Prop) : List Value → List Tree → Prop
  | nil : TreesAt St [] []
  | cons {v : Value} {t : Tree} {vs : List Value} {l : List Tree} : TreeAt St v t → TreesAt St vs l → TreesAt St (v :: vs) (t :: l)
end
mutual
theorem TreeAt.mono {St St' : Addr → Obj → Prop} (h : ∀ a o, St a o → St' a o) : ∀ {v : Value} {t : Tree}, TreeAt St v t → TreeAt St' v t
  | _, _, .name x => .name (h _ _ x)
  | _, _, .text x => .text (h _ _ x)
  | _, _, .seq x y z => .seq (h _ _ x) (h _ _ y) (TreesAt.mono h z)
  | _, _, .alt x y z => .alt (h _ _ x) (h _ _ y) (TreesAt.mono h z)
  | _, _, .opt x y => .opt (h _ _ x) (TreeAt.mono h y)
  | _, _, .rep x y => .rep (h _ _ x) (TreeAt.mono h y)
theorem TreesAt.mono {St St' : Addr → Obj → Prop} (h : ∀ a o, St a o → St' a o) : ∀ {vs : List Value} {l : List Tree}, TreesAt St vs l → TreesAt St' vs l
  | _, _, .nil => .nil
  | _, _, .cons x y => .cons (TreeAt.mono h x) (TreesAt.mono h y)
end
theorem TreesAt.app {St : Addr → Obj → Prop} : ∀ {vs : List Value} {l : List Tree} {v : Value} {t : Tree}, TreesAt St vs l → TreeAt St v t → TreesAt St (vs ++ [v]) (l ++ [t])
  | _, _, _, _, .nil, y => .cons y .nil
  | _, _, _, _, .cons x z, y => .cons x (z.app y)
theorem TreesAt.len {St : Addr → Obj → Prop} : ∀ {vs : List Value} {l : List Tree}, TreesAt St vs l → vs.length = l.length
  | _, _, .nil => rfl
  | _, _, .cons _ z => by rw [List.length_cons, List.length_cons, z.len]
theorem Res.bind_ok {α β : Type} {x : Res α} {f : α → Res β} {b : β} (h : x.bind f = .ok b) : ∃ a, x = .ok a ∧ f a = .ok b := by
  cases x with
  | ok a => exact ⟨a, rfl, h⟩
  | err w l => cases h
  | out => cases h
theorem Res.bind_ne {α β : Type} {x : Res α} {f : α → Res β} (h : x.bind f ≠ .out) : x ≠ .out := fun e => h (by rw [e]; rfl)
theorem Res.bind_err {α β : Type} {x : Res α} {f : α → Res β} {w : Str} {l : List Nat} (h : x = .err w l) : x.bind f = .err w l := by rw [h]; rfl

/-- what a reader keeps -/
structure RC where
  src : Str
  k1 : Tok
  k2 : Tok
  k3 : Tok
  k4 : Tok
  k5 : Tok
  u1 : Tok
/-- what a reader turns -/
structure RS where
  after : Int
  u2 : Tok
  place : Int
  u3 : Tok
  kind : Str
  u4 : Tok
  value : Str
  u5 : Tok
abbrev rdObj (P : Params) (c : RC) (x : RS) : Obj :=
  dictOf [⟨PyData.keyHash P (Str.ofString "source"), .str (Str.ofString "source") c.k1, .str c.src c.u1⟩, ⟨PyData.keyHash P (Str.ofString "after"), .str (Str.ofString "after") c.k2, .int x.after x.u2⟩,
    ⟨PyData.keyHash P (Str.ofString "place"), .str (Str.ofString "place") c.k3, .int x.place x.u3⟩, ⟨PyData.keyHash P (Str.ofString "kind"), .str (Str.ofString "kind") c.k4, .str x.kind x.u4⟩,
    ⟨PyData.keyHash P (Str.ofString "value"), .str (Str.ofString "value") c.k5, .str x.value x.u5⟩] 5
abbrev rdLed (P : Params) (r d : Addr) (c : RC) (x : RS) : Led := [(r, instObj 133 d), (d, rdObj P c x)]


set_option maxRecDepth 100000 in
set_option maxHeartbeats 8000000 in
theorem rdChar (r d : Addr) (c : RC) (x : RS) (i : Int) (t : Tok) (hlen : c.src.length ≤ 1048576) :
   Spec w p loose mean mg mb 81 [.ref r, .int i t] 2 8 (rdLed w.params r d c x) NoPre (fun t' : Tok => .str (chr c.src i) t') (fun _ => rdLed w.params r d c x) (fun _ => []) (fun _ => True) NoErr := by
  k_extra "sp_open"
  k_steps
  exact RetE.intro _ (by k_asm) (by k_asm) rfl trivial (fun _ hq => by simpa using hq) (Apart.nil_r _)


set_option maxRecDepth 100000 in
set_option maxHeartbeats 8000000 in
theorem fillE1 : hd.heap_39 = hd.heap_39 ∧ PySem.Challenge.rw_pb0327_01 = PySem.Challenge.rw_pb0327_01 := by
  k_fill
  exact ⟨rfl, rfl⟩
abbrev excBm : List Value := [.ref 24, .type "Exception", .type "BaseException", .type "object"]
abbrev cls44 : Obj := excClassObj (Str.ofString "FormatError") (Str.ofString "FormatError") 44 43 [.ref 24] excBm true [] [] false none none (some (.ref 28)) none
  (some (.str (Str.ofString "FormatError") 209)) (some (.str (Str.ofString "FormatError") 217)) (some (.bool true)) "Exception.__new__"
set_option maxRecDepth 100000 in
set_option maxHeartbeats 8000000 in
theorem look44 {w : World} : (hd.heap_39 w.params).lookup 44 = some cls44 := by k_is
abbrev cls24 : ClassData := { name := Str.ofString "YardError", bases := [Value.type "Exception"], mro := [Value.ref 24, Value.type "Exception", Value.type "BaseException", Value.type "object"], ns := 23, qualname := Str.ofString "YardError", subclasses := [Value.ref 44] }
set_option maxRecDepth 100000 in
set_option maxHeartbeats 8000000 in
theorem look24 {w : World} : (hd.heap_39 w.params).lookup 24 = some { cls := Value.type "type", data := Data.cls cls24, slots := #[some (Value.ref 15), none, some (Value.str (Str.ofString "YardError") 189), some (Value.str (Str.ofString "YardError") 197), some (Value.builtin "Exception.__new__"), some (Value.bool true)] } := by k_is
set_option maxRecDepth 100000 in
set_option maxHeartbeats 8000000 in
theorem nsOk23 {w : World} : nsOkIn (hd.heap_39 w.params) 23 = true := by kernel_rfl
set_option maxRecDepth 100000 in
set_option maxHeartbeats 8000000 in
theorem nsInit23 {w : World} : nsIn (hd.heap_39 w.params) 23 "__init__" = some none := by k_is
theorem tail44 {w : World} {h : Heap} (X : (hd.heap_39 w.params).In h) : OwnTail h [.type "Exception", .type "BaseException", .type "object"] excBm :=
  .own (X _ _ look24) (.of_isNs (isNs_of_in X nsOk23)) (nsMap_none_of_in X nsOk23 nsInit23) .base
set_option maxRecDepth 100000 in
set_option maxHeartbeats 8000000 in
theorem init44 {w : World} : findIn (hd.heap_39 w.params) (.ref 44) "__init__" = some (some (.ref 41)) := by k_is
set_option maxRecDepth 100000 in
set_option maxHeartbeats 8000000 in
theorem setattr44 {w : World} : findIn (hd.heap_39 w.params) (.ref 44) "__setattr__" = some (some (.builtin "object.__setattr__")) := by k_is
set_option maxRecDepth 100000 in
set_option maxHeartbeats 8000000 in
theorem what44 {w : World} : findIn (hd.heap_39 w.params) (.ref 44) (Str.ofString "what") = some none := by k_is
set_option maxRecDepth 100000 in
set_option maxHeartbeats 8000000 in
theorem at44 {w : World} : findIn (hd.heap_39 w.params) (.ref 44) (Str.ofString "at") = some none := by k_is
set_option maxRecDepth 100000 in
set_option maxHeartbeats 8000000 in
theorem fn41 {w : World} : typeIn (hd.heap_39 w.params) (.ref 41) = some (.type "function") := by k_is
set_option maxRecDepth 100000 in
set_option maxHeartbeats 8000000 in
theorem obj44 {w : World} : mroIn (hd.heap_39 w.params) 44 (.type "object") = some true := by k_is
set_option maxRecDepth 100000 in
set_option maxHeartbeats 8000000 in
theorem base44 {w : World} : mroIn (hd.heap_39 w.params) 44 (.type "BaseException") = some true := by k_is
set_option maxRecDepth 100000 in
set_option maxHeartbeats 8000000 in
theorem self44 {w : World} : mroIn (hd.heap_39 w.params) 44 (.ref 44) = some true := by k_is

section
variable {prog : Program} {w : World} {A : Around} {E : Value → Shared → Prop} {s : Shared} {R : Result → Shared → Prop}
open Builtin Builtin.ObjectAttr in
theorem refuse44 (self : Value) : refuseLoop self "__setattr__" (.ref 44 :: excBm) = pure () := by
  rw [refuseLoop_ref, refuseLoop_ref]
  exact PySem.F.store_Exception.passes self

/-- a name is stored on an exception of the program's class -/
theorem setFE {e : Addr} {oe : Obj} {name : Str} {v : Value} {Q : Unit → Shared → Prop} (X : (hd.heap_39 w.params).In s.heap) (he : s.heap.get? e = some oe) (hc : oe.cls = .ref 44)
    (ht : findIn (hd.heap_39 w.params) (.ref 44) name = some none)
    (h : wpAny (model prog w) A.in1 (Builtin.ObjectAttr.storeInOwnDict (.ref e) (.ref 44) (.str name s.toks) name v false) (fun fin s' => fin = .done (.ret .none) ∧ Q () s') E { s with toks := s.toks + 1 }) :
    wpAny (model prog w) A (setAttr (.ref e) name v) Q E s := by
  have SF := PySem.F.store_object
  have hC := X _ _ look44
  obtain ⟨hh, g, d, t, os⟩ := s
  dsimp only at X he hC h
  have t1 : Looks (model prog w) hh (typeOf (.ref e)) (.ref 44) := by
    have := Looks.ld (M := model prog w) (part := none) he
    refine (this.andThen ?_)
    rw [hc]; exact .now
  have t2 : Looks (model prog w) hh (typeLookup (.ref 44) "__setattr__") (some (.builtin "object.__setattr__")) := looks_findIn X setattr44
  have t3 : Looks (model prog w) hh (typeLookup (.ref 44) name) none := looks_findIn X ht
  have t4 : Looks (model prog w) hh (mroOf (.ref 44)) (.ref 44 :: excBm) := (Looks.ld (part := none) hC).andThen .now
  have t5 : Looks (model prog w) hh (isInstance (.ref e) (.type "object")) true := t1.andThen (looks_mroIn X obj44)
  refine wpAny_bind (wpAny_mkText (wpAny_bind (wpAny_bind (wpAny_bind (t1.at (t2.at (wpAny_holding ?_)))))))
  rw [SF.slot.bind]
  refine wpAny_bind (wpAny_pure (wpAny_bind (wpAny_call ?_)))
  refine codeAny_call_builtin SF.slot.plain SF.entry (@check_slot (model prog w) _ _ ⟨hh, g, d, t + 1, os⟩ "object.__setattr__" "object" "__setattr__" (.ref e) [.str name t, v] [] _ SF.kind SF.split t5 (SF.args (.ref e) (.str name t) v) ?_)
  show wpAny _ _ (Builtin.«object.__setattr__» ⟨[.ref e, .str name t, v], []⟩) _ _ _
  rw [osa_eq, refuse_eq]
  refine wpAny_bind (wpAny_bind (t1.at (wpAny_bind (t4.at ?_))))
  rw [refuse44]
  refine wpAny_pure (wpAny_bind (t1.at (wpAny_bind (t3.at (wpAny_bind (wpAny_pure ?_))))))
  refine wpAny_mono h (fun fin s' z => ?_) fun _ _ z => z
  obtain ⟨rfl, z⟩ := z
  exact wpAny_pure (wpAny_pure z)

theorem storeD {h₀ : Heap} {L dx : Addr} {m : Str → Option Value} {pre post : Led} {od od' : Obj} {es es' : Array DictEntry} {n n' : Nat} {name : Str} {tk : Tok} {v : Value} {Q : Fin → Shared → Prop}
    (F : Fr h₀ L s.heap m) (N : News h₀ L s.heap (pre ++ (dx, od) :: post)) (h1 : ∀ p ∈ pre, p.1 ≠ dx) (h2 : ∀ p ∈ post, p.1 ≠ dx) (hd : od.data = .dict es n) (hr : aRefKeyMayBeTheName name es = false)
    (e : Obj.putName name (PyData.keyHash w.params name) (.str name s.toks) v od = od') (e' : od'.data = .dict es' n') (hz : es'.size ≤ 1000)
    (h : ∀ h', Fr h₀ L h' m → News h₀ L h' (pre ++ (dx, od') :: post) → Q (.done (.ret .none)) { s with heap := h', toks := s.toks + 1 }) :
    wpAny (model prog w) A (Builtin.ObjectAttr.storeInDict dx (.str name tk) name v) Q E s := by
  obtain ⟨U1, U2⟩ := news_upd (f := Obj.putName name (PyData.keyHash w.params name) (.str name s.toks) v) F N h1 h2 e (by obtain ⟨_, _, dd, _⟩ := od'; cases e'; rfl)
  have D := (N (dx, od) (by simp)).1
  have D' := (U2 (dx, od') (by simp)).1
  refine wpAny_bind (wpAny_pure (wpAny_bind ?_))
  unfold nsSet
  refine wpAny_bind (wpAny_bind (wpAny_askSetting (wpAny_pure (wpAny_bind (wpAny_mkText (wpAny_bind (wpAny_loadPart D ?_)))))))
  rw [hd]
  dsimp only
  rw [hr]
  refine wpAny_updatePart D ?_
  refine wpAny_bind (wpAny_lookBehind D' (by rw [e']; exact pastItsLine_dict (by rw [sizeLine_eq]; omega)) ?_)
  exact wpAny_pure (h _ U1 U2)

/-- the first name: the dict is made -/
theorem setFE1 {h₀ : Heap} {L e : Addr} {m : Str → Option Value} {post : Led} {vs : Array Value} {name : Str} {v : Value} {Q : Unit → Shared → Prop}
    (F : Fr h₀ L s.heap m) (X₀ : (hd.heap_39 w.params).In h₀) (N : News h₀ L s.heap ((e, { cls := .ref 44, data := .fields vs }) :: post)) (h2 : ∀ p ∈ post, p.1 ≠ e)
    (ht : findIn (hd.heap_39 w.params) (.ref 44) name = some none)
    (hp : ∀ k : Tok, Obj.putName name (PyData.keyHash w.params name) (.str name k) v { cls := .type "dict", data := .dict #[] } = dictOf [⟨PyData.keyHash w.params name, .str name k, v⟩] 1)
    (h : ∀ d h' tk k, Fr h₀ L h' m → News h₀ L h' ((d, dictOf [⟨PyData.keyHash w.params name, .str name k, v⟩] 1) :: (e, { cls := .ref 44, dict := some d, data := .fields vs }) :: post) → (∀ p ∈ (e, ({ cls := .ref 44, dict := some d, data := .fields vs } : Obj)) :: post, p.1 < d) →
      Q () { s with heap := h', toks := tk }) :
    wpAny (model prog w) A (setAttr (.ref e) name v) Q E s := by
  have X := X₀.keeps F.keep
  have he := (N _ (.head _)).1
  dsimp only at he
  refine setFE X he rfl ht ?_
  have hC := X _ _ look44
  have c1 : Looks (model prog w) s.heap (classData 44) _ := (Looks.ld (part := none) hC).andThen .now
  refine wpAny_bind (wpAny_pure ?_)
  rw [if_neg (by decide)]
  refine wpAny_bind ?_
  show wpAny _ _ (instanceDict e true) _ _ _
  unfold instanceDict
  refine wpAny_bind (wpAny_loadPart he ?_)
  dsimp only
  refine wpAny_bind (c1.at ?_)
  rw [if_neg (by decide)]
  rw [if_neg (by simp [typeHasDict])]
  refine wpAny_bind (wpAny_alloc ?_)
  have F1 := F.push { cls := .type "dict", data := .dict #[] }
  have N1 := N.push F { cls := .type "dict", data := .dict #[] }
  have hlt : ∀ p ∈ (e, ({ cls := .ref 44, data := .fields vs } : Obj)) :: post, p.1 < s.heap.objs.size := fun p hp => Heap.lt_size (N p hp).1
  have hne : e ≠ s.heap.objs.size := Nat.ne_of_lt (hlt _ (.head _))
  have he1 := (N1 _ (.tail _ (.head _))).1
  dsimp only at he1
  refine wpAny_bind (wpAny_update he1 (wpAny_pure ?_))
  obtain ⟨F2, N2⟩ := news_upd (f := fun o => { o with dict := some s.heap.objs.size }) (pre := [(s.heap.objs.size, { cls := .type "dict", data := .dict #[] })]) (o' := { cls := .ref 44, dict := some s.heap.objs.size, data := .fields vs }) F1 N1
    (fun p hp => by rw [List.mem_singleton.mp hp]; exact hne.symm) h2 rfl rfl
  dsimp only
  refine storeD (pre := []) (s := { s with heap := _, toks := s.toks + 1 }) F2 N2 (fun _ hp => nomatch hp) (fun p hp => ?_) rfl rfl (hp _) rfl (by simp) (fun h' F3 N3 => ⟨rfl, ?_⟩)
  · rcases List.mem_cons.mp hp with rfl | hp
    · exact hne
    · exact Nat.ne_of_lt (hlt p (.tail _ hp))
  · refine h _ h' _ _ F3 N3 fun p hp => ?_
    rcases List.mem_cons.mp hp with rfl | hp
    · exact hlt (e, { cls := .ref 44, data := .fields vs }) (.head _)
    · exact hlt p (.tail _ hp)

/-- a further name -/
theorem setFE2 {h₀ : Heap} {L e d : Addr} {m : Str → Option Value} {post : Led} {vs : Array Value} {od od' : Obj} {es es' : Array DictEntry} {n n' : Nat} {name : Str} {v : Value} {Q : Unit → Shared → Prop}
    (F : Fr h₀ L s.heap m) (X₀ : (hd.heap_39 w.params).In h₀) (N : News h₀ L s.heap ((d, od) :: (e, { cls := .ref 44, dict := some d, data := .fields vs }) :: post)) (h2 : ∀ p ∈ (e, ({ cls := .ref 44, dict := some d, data := .fields vs } : Obj)) :: post, p.1 ≠ d)
    (ht : findIn (hd.heap_39 w.params) (.ref 44) name = some none) (hd : od.data = .dict es n) (hr : aRefKeyMayBeTheName name es = false)
    (hp : Obj.putName name (PyData.keyHash w.params name) (.str name (s.toks + 1)) v od = od') (e' : od'.data = .dict es' n') (hz : es'.size ≤ 1000)
    (h : ∀ h' tk, Fr h₀ L h' m → News h₀ L h' ((d, od') :: (e, { cls := .ref 44, dict := some d, data := .fields vs }) :: post) → Q () { s with heap := h', toks := tk }) :
    wpAny (model prog w) A (setAttr (.ref e) name v) Q E s := by
  have X := X₀.keeps F.keep
  have he := (N _ (.tail _ (.head _))).1
  dsimp only at he
  refine setFE X he rfl ht ?_
  have hC := X _ _ look44
  have c1 : Looks (model prog w) s.heap (classData 44) _ := (Looks.ld (part := none) hC).andThen .now
  refine wpAny_bind (wpAny_pure ?_)
  rw [if_neg (by decide)]
  refine wpAny_bind ?_
  show wpAny _ _ (instanceDict e true) _ _ _
  unfold instanceDict
  refine wpAny_bind (wpAny_loadPart he ?_)
  dsimp only
  refine wpAny_bind (c1.at ?_)
  rw [if_neg (by decide)]
  refine wpAny_pure ?_
  exact storeD (pre := []) (s := { s with toks := s.toks + 1 }) F N (fun _ hp => nomatch hp) h2 hd hr hp e' hz (fun h' F3 N3 => ⟨rfl, h h' _ F3 N3⟩)

/-- the class is called: the object and its args are made, then __init__ -/
theorem callFE {h₀ : Heap} {L : Addr} {m : Str → Option Value} {news : Led} {rest : List Value} {Q : Value → Shared → Prop}
    (F : Fr h₀ L s.heap m) (X₀ : (hd.heap_39 w.params).In h₀) (N : News h₀ L s.heap news) (hrest : rest.length ≤ sizeLine)
    (hq : ∀ e t h', Fr h₀ L h' m → News h₀ L h' ((e, { cls := .ref 44, data := .fields #[.ref t, .none, .none, .none, .bool false, .none] }) :: news) → (∀ p ∈ news, p.1 < e) →
      wpAny (model prog w) (A.under (.builtin "type.__call__" ⟨.ref 44 :: rest, []⟩)) (call (.ref 41) (.ref e :: rest)) (fun r s' => r = .none ∧ Q (.ref e) s') E { s with heap := h' }) :
    wpAny (model prog w) A (call (.ref 44) rest) Q E s := by
  have X := X₀.keeps F.keep
  have hC := X _ _ look44
  have T := tail44 X
  have FF := PySem.F.excBase_Exception
  obtain ⟨h, g, d, t, os⟩ := s
  dsimp only at X hC T F N hq
  have f1 := tc_lookup
  have f2 := tc_bind (.ref 44)
  have hT : (⟨h, g, d, t, os⟩ : Shared).TypeIs (.ref 44) "type" := ⟨_, hC, rfl⟩
  refine wpAny_call (codeAny_of_tree ?_)
  show wpAny _ _ (callAny (.ref 44) _) _ _ _
  repeat (any_goals (first | assumption | with_reducible refine wpAny_loadPart_at hC ?_ | wp_step))
  refine ⟨rfl, ?_⟩
  refine codeAny_call_builtin_at (Code.quiet_builtin _ (by decide +kernel)) entry_typeCall (wpAny_check_type_call_sub hC ?_)
  repeat (first | with_reducible refine wpAny_loadPart_at hC ?_ | with_reducible refine wpAny_madeBy_exc hC ?_ | wp_step)
  refine codeAny_call_builtin_code (Code.quiet_builtin _ FF.quiet) (wpAny_check_new_subT FF T hC ?_)
  refine codeAny_exc_new_subT FF T hC ?_ hrest
  show wpAny _ _ _ _ _ _
  have F1 := (F.push { cls := .type "tuple", data := .seq rest.toArray }).push { cls := .ref 44, data := .fields #[.ref h.objs.size, .none, .none, .none, .bool false, .none] }
  have N1 := (N.push F { cls := .type "tuple", data := .seq rest.toArray }).push (F.push _) { cls := .ref 44, data := .fields #[.ref h.objs.size, .none, .none, .none, .bool false, .none] }
  have X1 := X₀.keeps F1.keep
  have hget := (N1 _ (.head _)).1
  dsimp only at hget
  rw [Heap.size_push] at hget N1
  have t1 : Looks (model prog w) ((h.push { cls := .type "tuple", data := .seq rest.toArray }).push { cls := .ref 44, data := .fields #[.ref h.objs.size, .none, .none, .none, .bool false, .none] }) (typeOf (.ref (h.objs.size + 1))) (.ref 44) := (Looks.ld (part := none) hget).andThen .now
  have t2 : Looks (model prog w) ((h.push { cls := .type "tuple", data := .seq rest.toArray }).push { cls := .ref 44, data := .fields #[.ref h.objs.size, .none, .none, .none, .bool false, .none] }) (isInstance (.ref (h.objs.size + 1)) (.ref 44)) true := t1.andThen (looks_mroIn X1 self44)
  have t3 : Looks (model prog w) ((h.push { cls := .type "tuple", data := .seq rest.toArray }).push { cls := .ref 44, data := .fields #[.ref h.objs.size, .none, .none, .none, .bool false, .none] }) (typeLookup (.ref 44) "__init__") (some (.ref 41)) := looks_findIn X1 init44
  have t4 := bind_fn (M := model prog w) X1 (.ref (h.objs.size + 1)) fn41
  unfold callSpecial? specialOf
  repeat (first | with_reducible refine Looks.at t1 ?_ | with_reducible refine Looks.at t2 ?_ | with_reducible refine Looks.at t3 ?_ | with_reducible refine Looks.at t4 ?_ | wp_step)
  have t5 : Looks (model prog w) ((h.push { cls := .type "tuple", data := .seq rest.toArray }).push { cls := .ref 44, data := .fields #[.ref h.objs.size, .none, .none, .none, .bool false, .none] }) (isSubtype (.ref 44) (.ref 44)) true := looks_mroIn X1 self44
  refine t5.at ?_
  rw [if_neg (by decide)]
  refine wpAny_bind (wpAny_holding (wpAny_bind (wpAny_bind (t1.at (t3.at (wpAny_holding (wpAny_bind (t4.at ?_))))))))
  refine wpAny_bind (wpAny_mono (hq (h.objs.size + 1) h.objs.size _ F1 (fun p hp => N1 p ?_) (fun p hp => Nat.lt_succ_of_lt (Heap.lt_size (N p hp).1))) (fun r s' hr => ?_) fun _ _ z => z)
  · rcases List.mem_cons.mp hp with rfl | hp
    · exact .head _
    · exact .tail _ (.tail _ hp)
  · obtain ⟨rfl, hr⟩ := hr
    refine wpAny_pure ?_
    dsimp only
    rw [if_neg (by decide)]
    exact wpAny_pure hr
end

abbrev excObj (t : Addr) (d : Option Addr) : Obj := { cls := .ref 44, dict := d, data := .fields #[.ref t, .none, .none, .none, .bool false, .none] }
set_option maxRecDepth 100000 in
set_option maxHeartbeats 8000000 in
theorem initFE (e t : Addr) (wh : Str) (t1 : Tok) (at_ : Int) (t2 : Tok) :
   Spec w p loose mean mg mb 41 [.ref e, .str wh t1, .int at_ t2] 2 8 [(e, excObj t none)] NoPre (fun _ : Addr × Tok × Tok => .none) (fun x => [(x.1, exDict w.params wh at_ x.2.1 x.2.2 t1 t2), (e, excObj t (some x.1))]) (fun _ => []) (fun _ => True) NoErr := by
  k_extra "sp_open"
  k_steps
  refine setFE1 F X N (fun _ h => nomatch h) what44 (fun k => by with_unfolding_all rfl) (fun d h' tk' k F' N' hl => ?_)
  clear F N
  (try dsimp only at F' N' ⊢)
  k_steps
  refine setFE2 (od' := exDict w.params wh at_ k (tk' + 1) t1 t2) F' X N' (fun q hq => Nat.ne_of_lt (hl q hq)) at44 rfl (by with_unfolding_all rfl) (by with_unfolding_all rfl) rfl (by simp) (fun h2 tk2 F2 N2 => ?_)
  clear F' N'
  (try dsimp only at F2 N2 ⊢)
  k_steps
  exact RetE.intro (d, k, _) (by k_asm) (by k_asm) rfl trivial (fun _ hq => by simpa using hq) (Apart.nil_r _)

section
variable {w : World} {p : Program} {loose : List Str} {mean : ExcName → Option Value} {mg mb : Str → Option Value}
theorem makeFE {A : Around} {env : Env} {outer : List Env} {A₀ : Around} {base h₀ : Heap} {L : Addr} {m : Str → Option Value} {s : Shared} {Q E : Value → Shared → Prop} {led : Led} {wh : Str} {t1 : Tok} {at_ : Int} {t2 : Tok}
    (B : Below A₀ base outer h₀) (F : Fr h₀ L s.heap m) (X : (hd.heap_39 w.params).In h₀) (N : News h₀ L s.heap led) (T : Top p loose mean mg mb h₀)
    (hh : A.handled = none) (hA : A.frames = some (env :: outer)) (hf : env.frame = some L) (hk : env.scope.kind = .function)
    (hd : A.depth + 4 < recursionLimit) (hu : A.units + 20 < cLine)
    (hq : ∀ e d t k1 k2 h' tk', Fr h₀ L h' m → News h₀ L h' ([(d, exDict w.params wh at_ k1 k2 t1 t2), (e, excObj t (some d))] ++ led) → Q (.ref e) { s with heap := h', toks := tk' }) :
    wpAny (model PR w) A (call (.ref 44) [.str wh t1, .int at_ t2]) Q E s := by
  refine callFE F X N (by rw [sizeLine_eq]; simp) (fun e t h' F' N' hlt => ?_)
  have h1 : (A.under (.builtin "type.__call__" ⟨[.ref 44, .str wh t1, .int at_ t2], []⟩)).depth ≤ A.depth + 2 := by
    show A.depth + Code.weight _ ≤ _
    exact Nat.add_le_add_left (Nat.le_of_ble_eq_true rfl) _
  have h2 : (A.under (.builtin "type.__call__" ⟨[.ref 44, .str wh t1, .int at_ t2], []⟩)).units ≤ A.units + 4 := by
    show A.units + Code.cUnits _ ≤ _
    exact Nat.add_le_add_left (Nat.le_of_ble_eq_true rfl) _
  refine Spec.use0 led (initFE w p loose mean mg mb e t wh t1 at_ t2) B F' X N' T hh ?_ hf hk (by omega) (by omega) (fun q hq => hq) ?_ trivial ?_ (fun _ _ _ _ _ _ h => h.elim)
  · rw [← hA]; exact rfl
  · intro q hq r hr
    rw [List.mem_singleton.mp hq]
    exact (Nat.ne_of_lt (hlt r hr)).symm
  · rintro ⟨d, k1, k2⟩ h'' tk' _ F'' N'' _
    exact ⟨rfl, hq e d t k1 k2 h'' tk' F'' N''⟩

/-- what may be raised: the program's own exception -/
def RaisableFE (E : Value → Shared → Prop) (v : Value) (s₁ : Shared) : Prop :=
  ∃ e oe vs, v = .ref e ∧ s₁.heap.get? 44 = some cls44 ∧ s₁.heap.get? e = some oe ∧ oe.cls = .ref 44 ∧ oe.data = .fields vs ∧ vs[1]? = some .none ∧ E (.ref e) s₁
theorem Raise_FE {M : Model} {A : Around} {E : Value → Shared → Prop} {s : Shared} {env : Env} {e : Expr} {pos : Pos} {Q : Flow → Shared → Prop} (hh : A.handled = none)
    (h : wpAny M A (eval e env) (RaisableFE E) E s) : wpAny M A (exec (.Raise (some e) none pos) env) Q E s := by
  show wpAny M A (do standAt pos; raiseStmt env (some (do let v ← eval e env; standAt pos; pure v)) none) Q E s
  refine wpAny_bind (wpAny_standAt ?_)
  unfold raiseStmt
  dsimp only
  refine wpAny_bind (wpAny_bind (wpAny_mono h (fun v s₁ h₁ => wpAny_bind (wpAny_standAt (wpAny_pure ?_))) fun _ _ x => x))
  obtain ⟨a, ⟨oc, od, odt, osl⟩, vs, rfl, hC, ha, hcls, hd, h1, hE⟩ := h₁
  dsimp only at hcls hd
  subst hcls hd
  obtain ⟨hp, g, d, tk, os⟩ := s₁
  have hcB : (Value.ref 44 :: excBm).contains (.type "BaseException") = true := by decide
  repeat (first | with_reducible refine wpAny_loadPart_at ha ?_ | with_reducible refine wpAny_loadPart_at hC ?_ | (with_reducible refine wpAny_isSubtype_exc hC ?_; rw [hcB]) | wp_step)
  rw [h1]
  refine wpAny_pure ?_
  rw [if_neg (by decide)]
  exact wpAny_pure (wpAny_raiseNew_none hh hE)
end

local macro_rules | `(tactic| walk_at "exec Raise some none") => `(tactic| (k_here; refine Raise_FE rfl ?_))

section
variable {M : Model} {A : Around} {E : Value → Shared → Prop} {s : Shared}
open PySem.Heap

/-- an entry is laid on the exception e -/
theorem entryD {base : Heap} {env : Env} {outer : List Env} {L e : Addr} {oe : Obj} {vs : Array Value} {head : Value} {b : Bool} {Q : Unit → Shared → Prop}
    (hfr : A.frames = some (env :: outer)) (hl : s.heap.FunFrames base (env :: outer)) (hf : env.frame = some L) (he : s.heap.get? e = some oe) (hkb : base.StaysIn s.heap) (hen : base.get? e = none)
    (hd : oe.data = .fields vs) (hsz : 1 < vs.size)
    (h : ∀ h' T oT ts, base.StaysIn h' → h'.FunFrames base (env :: outer) → s.heap.UpToSlots h' → h'.get? e = some { oe with data := .fields (vs.setIfInBounds 1 (.ref T)) } → T ≠ e → base.get? T = none →
      h'.get? T = some oT → oT.data = .fields ts → ts[3]? = some (rawInt L) → Q () { s with heap := h' }) :
    wpAny M A (do let a ← frameOf env; let pl ← entryPlaceOf L b; let x ← EntryCells.newEntry head a .none (rawInt L) .none pl; setField (.ref e) 1 x) Q E s := by
  obtain ⟨oc, od, odt, osl⟩ := oe
  dsimp only at hd; subst hd
  have nofr : e ∉ (env :: outer).filterMap (·.frame) := fun hm => by
    obtain ⟨_, o, ho, hnf⟩ := hl.mem hm
    rw [he] at ho; cases ho; exact hnf vs rfl
  refine wpAny_bind (wpAny_frameOf_fun hfr hl hf fun h₁ hs => wpAny_bind (wpAny_entryPlaceOf fun pl hpl => ?_))
  unfold EntryCells.newEntry newFields
  refine wpAny_bind (wpAny_newObj_type ?_ (hpl.sizeOk5 _ _ _ _ _))
  have e1 : h₁.get? e = some ⟨oc, od, .fields vs, osl⟩ := (hs.2.1 e nofr).trans he
  have k1 : base.StaysIn h₁ := fun x o hx => (hs.2.1 x fun hm => by rw [(hl.mem hm).1] at hx; cases hx).trans (hkb x o hx)
  have hT : h₁.objs.size ≠ e := Nat.ne_of_gt (Heap.lt_size e1)
  refine wpAny_setField (Heap.get?_push_of_some _ e1) rfl hsz ?_
  have stay : ∀ x o, x ≠ e → h₁.get? x = some o → ((h₁.push { cls := .type "traceback", dict := none, data := .fields ([head, .ref L, .none, rawInt L, .none] ++ (if pl.isEmpty then List.replicate 6 Value.none else pl)).toArray }).update e (Obj.mapFields (·.setIfInBounds 1 (Value.ref h₁.objs.size)))).get? x = some o :=
    fun x o hx ho => (Heap.get?_update_other _ _ (Ne.symm hx)).trans (Heap.get?_push_of_some _ ho)
  have off : ∀ x o, s.heap.get? x = some o → (∀ ws, o.data ≠ .fields ws) → x ≠ e := fun x o hx hn q => by
    rw [q, he] at hx; cases hx; exact hn vs rfl
  have up : ∀ x o, s.heap.get? x = some o → (∀ ws, o.data ≠ .fields ws) → ∃ sl, ((h₁.push { cls := .type "traceback", dict := none, data := .fields ([head, .ref L, .none, rawInt L, .none] ++ (if pl.isEmpty then List.replicate 6 Value.none else pl)).toArray }).update e (Obj.mapFields (·.setIfInBounds 1 (Value.ref h₁.objs.size)))).get? x = some { o with slots := sl } := fun x o hx hn => by
    obtain ⟨sl, q⟩ := hs.2.2 x o hx
    exact ⟨sl, stay x _ (off x o hx hn) q⟩
  refine h _ h₁.objs.size _ _ (fun x o hx => stay x o (fun q => by rw [q, hen] at hx; cases hx) (k1 x o hx)) (hl.of_keeps fun x o hx hn => ?_) up (Heap.get?_update_self _ (Heap.get?_push_of_some _ e1) rfl) hT k1.fresh
    ((Heap.get?_update_other _ _ (Ne.symm hT)).trans (Heap.get?_push_size _ rfl)) rfl (by simp)
  obtain ⟨sl, q⟩ := up x o hx hn
  exact ⟨_, q, rfl⟩

/-- the flight's mark is taken off -/
theorem flightD {base : Heap} {l : List Env} {e T : Addr} {oe oT : Obj} {vs ts : Array Value} {Q : Unit → Shared → Prop}
    (hl : s.heap.FunFrames base l) (hkb : base.StaysIn s.heap) (he : s.heap.get? e = some oe) (hd : oe.data = .fields vs) (h1 : vs[1]? = some (.ref T)) (hTe : T ≠ e) (hbT : base.get? T = none)
    (hT : s.heap.get? T = some oT) (hdT : oT.data = .fields ts) (h3 : 3 < ts.size)
    (h : ∀ h' oT' ts', base.StaysIn h' → h'.FunFrames base l → s.heap.UpToSlots h' → h'.get? e = some oe → h'.get? T = some oT' → oT'.data = .fields ts' → ts'[3]? = some .none → Q () { s with heap := h' }) :
    wpAny M A (setFlight (.ref e) none) Q E s := by
  have stay : ∀ x, x ≠ T → (s.heap.update T (Obj.mapFields (·.setIfInBounds 3 ((none : Option Addr).elim Value.none fun f => rawInt f)))).get? x = s.heap.get? x := fun x hx => Heap.get?_update_other _ _ (Ne.symm hx)
  have off : ∀ x o, s.heap.get? x = some o → (∀ ws, o.data ≠ .fields ws) → x ≠ T := fun x o hx hn q => by
    rw [q, hT] at hx; cases hx; exact hn ts hdT
  unfold setFlight
  refine wpAny_bind (wpAny_field he hd h1 ?_)
  rw [if_pos (by simp)]
  refine wpAny_setField hT hdT h3 (h _ _ _ (fun x o hx => (stay x fun q => by rw [q, hbT] at hx; cases hx).trans (hkb x o hx)) (hl.of_keeps fun x o hx hn => ⟨o, (stay x (off x o hx hn)).trans hx, rfl⟩)
    (fun x o hx hn => ⟨o.slots, (stay x (off x o hx hn)).trans hx⟩) ((stay e (Ne.symm hTe)).trans he) (Heap.get?_update_self _ hT (Obj.isFreed_of_fields (Obj.data_mapFields hdT _))) (Obj.data_mapFields hdT _) ?_)
  rw [Array.getElem?_setIfInBounds_self_of_lt h3]; rfl
end

/-- an exception's dict up to its slots -/
def HasD (P : Params) (base h : Heap) (d : Addr) (wh : Str) (at_ : Int) : Prop := base.get? d = none ∧ ∃ k1 k2 v1 v2 sl, h.get? d = some { exDict P wh at_ k1 k2 v1 v2 with slots := sl }
theorem HasD.up {P : Params} {base h h' : Heap} {d : Addr} {wh : Str} {at_ : Int} (x : HasD P base h d wh at_) (u : h.UpToSlots h') : HasD P base h' d wh at_ := by
  obtain ⟨h1, k1, k2, v1, v2, sl, hd⟩ := x
  obtain ⟨sl', hd'⟩ := u d _ hd (fun vs q => by cases q)
  exact ⟨h1, k1, k2, v1, v2, sl', hd'⟩

section
variable {M : Model} {A : Around} {E : Value → Shared → Prop} {s : Shared} {P : Params}
/-- an exception leaves the frame that raised it -/
theorem leave1D {base : Heap} {env : Env} {outer : List Env} {L e t d : Addr} {wh : Str} {at_ : Int} {Q : Unit → Shared → Prop}
    (hfr : A.frames = some (env :: outer)) (hf : env.frame = some L) (hl : s.heap.FunFrames base (env :: outer)) (hkb : base.StaysIn s.heap) (hen : base.get? e = none)
    (he : s.heap.get? e = some (excObj t (some d))) (hD : HasD P base s.heap d wh at_)
    (h : ∀ h', Fly P base outer e wh at_ h' → s.heap.UpToSlots h' → Q () { s with heap := h' }) : wpAny M A (leaving env (.ref e)) Q E s := by
  unfold leaving noteFrame
  simp only [hf]
  refine wpAny_bind (wpAny_bind (wpAny_field he rfl rfl ?_))
  rw [if_neg (by simp)]
  refine entryD hfr hl hf he hkb hen rfl (by simp) fun h' T oT ts k1 k2 k3 k4 k5 k6 k7 k8 k9 => ?_
  refine flightD k2 k1 k4 rfl (by simp) k5 k6 k7 k8 (Array.getElem?_eq_some_iff.mp k9).1 fun h2 oT' ts' m1 m2 m3 m4 m5 m6 m7 => ?_
  have D2 := (hD.up k3).up m3
  obtain ⟨q1, k1', k2', v1, v2, sl, q2⟩ := D2
  exact h h2 ⟨m1, hen, m2.2.2, _, _, T, oT', ts', d, k1', k2', v1, v2, sl, m4, rfl, rfl, rfl, by simp, k6, k5, m5, m6, m7, q1, q2⟩ (k3.trans m3)

/-- a flying exception leaves a further frame -/
theorem leave2D {base : Heap} {env : Env} {outer : List Env} {L e : Addr} {wh : Str} {at_ : Int} {Q : Unit → Shared → Prop}
    (hfr : A.frames = some (env :: outer)) (hf : env.frame = some L) (x : Fly P base (env :: outer) e wh at_ s.heap)
    (h : ∀ h', Fly P base outer e wh at_ h' → s.heap.UpToSlots h' → Q () { s with heap := h' }) : wpAny M A (leaving env (.ref e)) Q E s := by
  obtain ⟨x1, x2, x3, oe, vs, T, oT, ts, d, y1, y2, v1, v2, sl, he, hc, hdd, hd, h1, hbT, hTe, hT, hdT, h3, hb, hD⟩ := x
  have D : HasD P base s.heap d wh at_ := ⟨hb, y1, y2, v1, v2, sl, hD⟩
  obtain ⟨oc, od, odt, osl⟩ := oe
  dsimp only at hc hdd hd; subst hc hdd hd
  have hsz := (Array.getElem?_eq_some_iff.mp h1).1
  unfold leaving noteFrame
  simp only [hf]
  refine wpAny_bind (wpAny_bind (wpAny_field he rfl h1 ?_))
  rw [if_pos (by simp)]
  refine wpAny_bind (wpAny_field hT hdT h3 ?_)
  rw [if_neg (by simp [rawInt])]
  have h3' := (Array.getElem?_eq_some_iff.mp h3).1
  have stay : ∀ x, x ≠ T → (s.heap.update T (Obj.mapFields (·.setIfInBounds 3 Value.none))).get? x = s.heap.get? x := fun x hx => Heap.get?_update_other _ _ (Ne.symm hx)
  have off : ∀ x o, s.heap.get? x = some o → (∀ ws, o.data ≠ .fields ws) → x ≠ T := fun x o hx hn q => by
    rw [q, hT] at hx; cases hx; exact hn ts hdT
  have U : s.heap.UpToSlots (s.heap.update T (Obj.mapFields (·.setIfInBounds 3 Value.none))) := fun x o hx hn => ⟨o.slots, (stay x (off x o hx hn)).trans hx⟩
  refine wpAny_bind (wpAny_setField hT hdT h3' ?_)
  refine entryD (s := { s with heap := _ }) hfr (x3.of_keeps fun x o hx hn => ⟨o, (stay x (off x o hx hn)).trans hx, rfl⟩) hf ((stay e (Ne.symm hTe)).trans he)
    (fun x o hx => (stay x fun q => by rw [q, hbT] at hx; cases hx).trans (x1 x o hx)) x2 rfl hsz fun h' T' oT ts k1 k2 k3 k4 k5 k6 k7 k8 k9 => ?_
  refine flightD k2 k1 k4 rfl (by simp [hsz]) k5 k6 k7 k8 (Array.getElem?_eq_some_iff.mp k9).1 fun h2 oT' ts' m1 m2 m3 m4 m5 m6 m7 => ?_
  obtain ⟨q1, k1', k2', v1, v2, sl, q2⟩ := ((D.up U).up k3).up m3
  exact h h2 ⟨m1, x2, m2.2.2, _, _, T', oT', ts', d, k1', k2', v1, v2, sl, m4, rfl, rfl, rfl, by simp [hsz], k6, k5, m5, m6, m7, q1, q2⟩ ((U.trans k3).trans m3)
end

section
variable {w : World} {p : Program} {loose : List Str} {mean : ExcName → Option Value} {mg mb : Str → Option Value}
variable {dp un : Nat} {gd : Option (List Code)} {env : Env} {outer : List Env} {base g h' : Heap} {L' : Addr} {m' : Str → Option Value} {s : Shared} {tk' : Nat} {led : Led} {Err : Str → Int → Prop} {KE : Value → Shared → Prop}
  {qual : Str} {scope : Scope} {f : Addr} {cdv : Value}
theorem raiseEnd {wh : Str} {t1 : Tok} {at_ : Int} {t2 : Tok} (hKE : ∀ e s', outE w dp un gd env outer base g s Err qual scope L' f cdv e s' → KE e s') (B : Below (aroundOf dp un gd env outer) base (env :: outer) g) (F : Fr g L' h' m') (X : (hd.heap_39 w.params).In g) (N : News g L' h' led) (T : Top p loose mean mg mb g)
    (hk : scope.kind = .function) (hd : dp + 5 < recursionLimit) (hu : un + 23 < cLine) (hE : Err wh at_) :
    wpAny (model PR w) (Around.deeper { handled := none, depth := dp, frames := some (env :: outer), guards := gd, units := un } (envOf qual scope L' f cdv)) (call (.ref 44) [.str wh t1, .int at_ t2])
      (RaisableFE KE) KE { s with heap := h', toks := tk' } := by
  refine makeFE (s := { s with heap := h', toks := tk' }) (base := base) (h₀ := g) (outer := env :: outer) (env := envOf qual scope L' f cdv) B F X N T rfl (Around.frames_deeper B.stack) rfl hk (by show dp + 1 + 4 < _; omega) (by show un + 3 + 20 < _; omega)
    fun e d t k1 k2 h2 tk2 F2 N2 => ?_
  have he := N2 _ (.tail _ (.head _))
  have hdd := N2 _ (.head _)
  dsimp only at he hdd
  refine ⟨e, _, _, rfl, (X.keeps F2.keep) _ _ look44, he.1, rfl, rfl, rfl, hKE _ _ ?_⟩
  refine leave1D (P := w.params) (s := { s with heap := h2, toks := tk2 }) (base := base) (d := d) (wh := wh) (at_ := at_) (Around.frames_deeper B.stack) rfl (B.push (name := qual) (a := f) (cd := cdv) F2 hk).frames (fun b o q => F2.keep b o (B.stays b o q)) (fresh_of_stays B.stays he.2.2) he.1
    ⟨fresh_of_stays B.stays hdd.2.2, k1, k2, t1, t2, #[], hdd.1⟩ fun h3 fl up => ?_
  exact ⟨e, wh, at_, h3, tk2, rfl, rfl, hE, fl, (Heap.UpToSlots.of_keeps F2.keep).trans up⟩

theorem passEnd {e : Addr} {wh : Str} {at_ : Int} {gg : Heap} (hKE : ∀ e s', outE w dp un gd env outer base g s Err qual scope L' f cdv e s' → KE e s') (B : Below (aroundOf dp un gd env outer) base (env :: outer) g) (hE : Err wh at_) (fl : Fly w.params base (envOf qual scope L' f cdv :: env :: outer) e wh at_ h')
    (F : Fr g L' gg m') (up : gg.UpToSlots h') : KE (.ref e) { s with heap := h', toks := tk' } :=
  hKE _ _ <| leave2D (P := w.params) (s := { s with heap := h', toks := tk' }) (Around.frames_deeper B.stack) rfl fl fun h3 fl3 up3 => ⟨e, wh, at_, h3, tk', rfl, rfl, hE, fl3, ((Heap.UpToSlots.of_keeps F.keep).trans up).trans up3⟩
end

theorem fold_same {α : Type} {m : Str → Option α} {a : Str} {v v' : Option α} : (fun y => if y = a then v else if y = a then v' else m y) = fun y => if y = a then v else m y := by
  funext y; by_cases h : y = a <;> simp [h]
set_option maxRecDepth 100000 in
set_option maxHeartbeats 8000000 in
theorem quotedS (r d : Addr) (hrd : @Ne Nat r d) (c : RC) (x : RS) (b : Int) (t1 : Tok) (q : Str) (q0 : Nat) (hq : q = one q0) (l : List Nat) (t2 : Tok) (hlen : c.src.length ≤ 1048576) (hat : At c.src (q0 :: l) b) :
   Spec w p loose mean mg mb 95 [.ref r, .int b t1, .str q t2] 20 80 (rdLed w.params r d c x) NoPre (fun _ : RS => .none) (fun x' => rdLed w.params r d c x') (fun _ => [])
     (fun x' => ∃ v l', scanQ q0 l = some (v, l') ∧ x'.kind = Str.ofString "text" ∧ x'.value = txt v ∧ At c.src l' x'.after ∧ x'.place = x.place)
     (fun wh at_ => wh = Str.ofString "quote" ∧ at_ = b ∧ scanQ q0 l = none) := by
  subst hq
  k_extra "sp_open"
  replace F : Fr g L' h₁ (fun y => List.lookup y [(Str.ofString "quote", .str (one q0) t2), (Str.ofString "begun", .int b t1), (Str.ofString "self", .ref r)]) := F
  k_steps
  rename_i h2 F2 N2
  refine While_inv2 (fun n m nx => ∃ (pre l' : List Nat) (e : Int) (tk : Tok), n = l'.length ∧ l = pre ++ l' ∧ e = b + 1 + pre.length ∧ At c.src l' e ∧ scanQ q0 l = (scanQ q0 l').map (fun r => (pre ++ r.1, r.2)) ∧ nx = rdLed w.params r d c x ∧
    m = fun y => if y = Str.ofString "end" then some (.int e tk) else List.lookup y [(Str.ofString "quote", .str (one q0) t2), (Str.ofString "begun", .int b t1), (Str.ofString "self", .ref r)])
    F2 N2 ⟨[], l, b + 1, _, rfl, rfl, by simp, hat.next, by simp, rfl, rfl⟩ ?_
  rintro n m₁ nx h3 tk3 F3 N3 ⟨pre, l', e, tk', rfl, hl, he, hat', hsc, rfl, rfl⟩
  clear F2 N2
  (try k_fold)
  cases l' with
  | nil =>
    have hc := hat'.chr_nil
    k_steps
    all_goals (simp only [hc, ofs_empty, ofs_nl] at *)
    · exact ⟨by first | trivial | rfl, by first | trivial | rfl, hsc⟩
    · exact ⟨by first | trivial | rfl, by first | trivial | rfl, hsc⟩
    · rename_i hb _ _; cases hb
    · rename_i hb; rw [empty_bne_one] at hb; cases hb
  | cons a l' =>
    have hc := hat'.chr_cons
    k_steps
    all_goals (simp only [hc, ofs_empty, ofs_nl] at *)
    · rename_i hb; rw [one_beq_empty] at hb; cases hb
    · rename_i hb1 _ hb2
      refine ⟨by first | trivial | rfl, by first | trivial | rfl, ?_⟩
      rw [one_beq] at hb2
      simp only [bne, one_beq, Bool.not_eq_true', beq_eq_false_iff_ne] at hb1
      rw [hsc, scanQ, if_neg hb1, if_pos (beq_iff_eq.mp hb2)]; rfl
    · rename_i hb1 _ hb2 _
      rw [one_beq, beq_eq_false_iff_ne] at hb2
      simp only [bne, one_beq, Bool.not_eq_true', beq_eq_false_iff_ne] at hb1
      refine ⟨_, _, _, _, l'.length, rfl, (by k_asm), (by k_asm), by simp, pre ++ [a], l', e + 1, _, rfl, by simp [hl], by simp only [List.length_append, List.length_cons, List.length_nil]; omega, hat'.next, ?_, rfl, fold_same⟩
      rw [hsc, scanQ, if_neg hb1, if_neg hb2, Option.map_map]
      congr 1; funext r; simp
    · rename_i hb
      simp only [bne, one_beq, Bool.not_eq_false', beq_iff_eq] at hb
      refine RetE.intro0 (⟨_, _, _, _, _, _, _, _⟩ : RS) (by k_asm) (by k_asm) rfl ⟨pre, l', ?_, rfl, ?_, hat'.next, rfl⟩ rfl
      · rw [hsc, scanQ, if_pos hb]; simp
      · rw [hl] at hat
        exact hat.next.cut he

set_option maxRecDepth 100000 in
set_option maxHeartbeats 8000000 in
theorem stepS (r d : Addr) (hrd : @Ne Nat r d) (c : RC) (x : RS) (l : List Nat) (hlen : c.src.length ≤ 1048576) (hat : At c.src l x.after) :
   Spec w p loose mean mg mb 88 [.ref r] 30 160 (rdLed w.params r d c x) NoPre (fun _ : RS => .none) (fun x' => rdLed w.params r d c x') (fun _ => [])
     (fun x' => ∃ t, lex l = .ok t ∧ At c.src t.l1 x'.place ∧ x'.kind = t.kind ∧ x'.value = t.value ∧ (t.kind ≠ sEnd → At c.src t.rest x'.after))
     (fun wh at_ => ∃ l1, lex l = .err wh l1 ∧ At c.src l1 at_) := by
  k_extra "sp_open"
  replace F : Fr g L' h₁ (fun y => List.lookup y [(Str.ofString "self", .ref r)]) := F
  k_steps
  refine While_inv2 (fun n m nx => ∃ (l' : List Nat) (e : Int) (tk : Tok), n = l'.length ∧ At c.src l' e ∧ l.dropWhile isBl = l'.dropWhile isBl ∧ nx = rdLed w.params r d c { x with after := e, u2 := tk } ∧
    m = fun y => List.lookup y [(Str.ofString "self", .ref r)])
    F N ⟨l, x.after, x.u2, rfl, hat, rfl, rfl, rfl⟩ ?_
  rintro n m₁ nx h3 tk3 F3 N3 ⟨l', e, tk', rfl, hat', hdw, rfl, rfl⟩
  clear F N
  (try k_fold)
  cases l' with
  | nil =>
    have hc := hat'.chr_nil
    have f1 : (chr c.src e != Str.ofString "") = false := by rw [hc]; decide +kernel
    have f2 : (chr c.src e == Str.ofString "") = true := by rw [hc]; decide +kernel
    k_steps
    (with_reducible rename News _ _ _ _ => nX)
    dsimp only at nX
    refine RetE.intro0 (⟨_, _, _, _, _, _, _, _⟩ : RS) (by k_asm) nX rfl ⟨⟨[], sEnd, Str.empty, []⟩, ?_, hat', rfl, hc, fun h => absurd rfl h⟩ rfl
    unfold lex; rw [hdw]; rfl
  | cons a l' =>
    have hc := hat'.chr_cons
    have f1 : (chr c.src e != Str.ofString "") = true := by rw [hc, ofs_empty, bne_iff_ne]; exact one_ne_empty a
    have f2 : (chr c.src e == Str.ofString "") = false := by rw [hc, ofs_empty]; exact one_beq_empty
    have f3 := inBl_one a
    rw [← hc] at f3
    have f4 := isStart_one a
    rw [← hc] at f4
    cases hbl : isBl a with
    | true =>
      rw [hbl] at f3
      k_steps
      (with_reducible rename News _ _ _ _ => nX)
      dsimp only at nX
      refine ⟨_, _, _, _, l'.length, rfl, (by k_asm), nX, by simp, l', e + 1, _, rfl, hat'.next, ?_, rfl, rfl⟩
      rw [hdw, List.dropWhile_cons, if_pos hbl]
    | false =>
      rw [hbl] at f3
      have hlex : lex l = lex1 (a :: l') := by
        unfold lex
        rw [hdw, List.dropWhile_cons, if_neg (by rw [hbl]; exact Bool.false_ne_true)]
      cases hstt : isSt a with
      | true =>
        rw [hstt] at f4
        k_steps
        (with_reducible rename News _ _ _ _ => nX)
        (with_reducible rename Fr _ _ _ _ => fX)
        dsimp only at nX fX
        refine While_fix (fun n nx => ∃ (pre l2 : List Nat) (e2 : Int) (tk : Tok) (x2 : RS), n = l2.length ∧ l' = pre ++ l2 ∧ At c.src l2 e2 ∧ e2 = e + 1 + pre.length ∧ l'.takeWhile isNm = pre ++ l2.takeWhile isNm ∧ l'.dropWhile isNm = l2.dropWhile isNm ∧
            x2.place = e ∧ nx = rdLed w.params r d c { x2 with after := e2, u2 := tk })
          fX nX ⟨[], l', e + 1, _, ⟨0, 0, _, _, _, _, _, _⟩, rfl, rfl, hat'.next, by simp, rfl, rfl, rfl, rfl⟩ ?_
        rintro n nx h4 tk4 F4 N4 ⟨pre, l2, e2, tk5, x2, rfl, hl2, hat2, he2, htw, hdw2, hpl, rfl⟩
        clear fX nX
        (try k_fold)
        cases l2 with
        | nil =>
          have g1 : isNameCh (chr c.src e2) = false := by rw [hat2.chr_nil]; exact isNameCh_empty
          k_steps
          (with_reducible rename News _ _ _ _ => nX)
          dsimp only at nX
          refine RetE.intro0 (⟨_, _, _, _, _, _, _, _⟩ : RS) (by k_asm) nX rfl ⟨⟨a :: l', sName, txt (a :: l'.takeWhile isNm), l'.dropWhile isNm⟩, ?_, hpl ▸ hat', rfl, ?_, fun _ => ?_⟩ rfl
          · rw [hlex, lex1, if_pos hstt]
          · rw [htw]
            exact At.cut (v := a :: (pre ++ [])) (l := []) (by rw [hl2] at hat'; rw [List.append_nil]; exact hat') (by simp only [List.length_cons, List.length_append, List.length_nil]; omega)
          · rw [hdw2]; exact hat2
        | cons b l2 =>
          have g1 := isNameCh_one b
          rw [← hat2.chr_cons] at g1
          cases hnm : isNm b with
          | true =>
            rw [hnm] at g1
            k_steps
            (with_reducible rename News _ _ _ _ => nX)
            dsimp only at nX
            refine ⟨_, _, _, l2.length, rfl, (by k_asm), nX, by simp, pre ++ [b], l2, e2 + 1, _, ⟨0, 0, _, _, _, _, _, _⟩, rfl, by simp [hl2], hat2.next, by simp only [List.length_append, List.length_cons, List.length_nil]; omega, ?_, ?_, hpl, rfl⟩
            · rw [htw, List.takeWhile_cons, if_pos hnm]; simp
            · rw [hdw2, List.dropWhile_cons, if_pos hnm]
          | false =>
            rw [hnm] at g1
            k_steps
            (with_reducible rename News _ _ _ _ => nX)
            dsimp only at nX
            refine RetE.intro0 (⟨_, _, _, _, _, _, _, _⟩ : RS) (by k_asm) nX rfl ⟨⟨a :: l', sName, txt (a :: l'.takeWhile isNm), l'.dropWhile isNm⟩, ?_, hpl ▸ hat', rfl, ?_, fun _ => ?_⟩ rfl
            · rw [hlex, lex1, if_pos hstt]
            · rw [htw, List.takeWhile_cons, if_neg (by rw [hnm]; exact Bool.false_ne_true), List.append_nil]
              exact At.cut (v := a :: pre) (l := b :: l2) (by rw [List.cons_append, ← hl2]; exact hat') (by simp only [List.length_cons]; omega)
            · rw [hdw2, List.dropWhile_cons, if_neg (by rw [hnm]; exact Bool.false_ne_true)]; exact hat2
      | false =>
        rw [hstt] at f4
        have f5 : (chr c.src e == Str.ofString "\"") = (a == 34) := by rw [hc, ofs_q2, one_beq]
        have f6 : (chr c.src e == Str.ofString "'") = (a == 39) := by rw [hc, ofs_q1, one_beq]
        have f7 := inMk_one a
        rw [← hc] at f7
        have hq8 : a = 34 ∨ a = 39 → ∀ wh at_, (wh = Str.ofString "quote" ∧ at_ = e ∧ scanQ a l' = none) → ∃ l1, lex l = .err wh l1 ∧ At c.src l1 at_ := by
          rintro hq wh at_ ⟨rfl, rfl, hn⟩
          refine ⟨a :: l', ?_, hat'⟩
          rw [hlex, lex1, if_neg (by rw [hstt]; exact Bool.false_ne_true), if_pos hq, hn]
        by_cases h34 : a = 34
        · have hq9 := hq8 (.inl h34)
          rw [h34] at f5
          have f5' : (chr c.src e == Str.ofString "\"") = true := f5
          k_steps
          (with_reducible rename News _ _ _ _ => nX)
          (try dsimp only at nX)
          obtain ⟨v, lr, hsq, hk, hv, hat3, hpl⟩ := hP'
          refine RetE.intro0 i' (by k_asm) nX rfl ⟨⟨a :: l', sText, txt v, lr⟩, ?_, hpl ▸ hat', hk, hv, fun _ => hat3⟩ rfl
          rw [hlex, lex1, if_neg (by rw [hstt]; exact Bool.false_ne_true), if_pos (.inl h34), hsq]
        · have f5' : (chr c.src e == Str.ofString "\"") = false := by rw [f5]; exact beq_eq_false_iff_ne.mpr h34
          by_cases h39 : a = 39
          · have hq9 := hq8 (.inr h39)
            have f6' : (chr c.src e == Str.ofString "'") = true := by rw [f6]; exact beq_iff_eq.mpr h39
            k_steps
            (with_reducible rename News _ _ _ _ => nX)
            (try dsimp only at nX)
            obtain ⟨v, lr, hsq, hk, hv, hat3, hpl⟩ := hP'
            refine RetE.intro0 i' (by k_asm) nX rfl ⟨⟨a :: l', sText, txt v, lr⟩, ?_, hpl ▸ hat', hk, hv, fun _ => hat3⟩ rfl
            rw [hlex, lex1, if_neg (by rw [hstt]; exact Bool.false_ne_true), if_pos (.inr h39), hsq]
          · have f6' : (chr c.src e == Str.ofString "'") = false := by rw [f6]; exact beq_eq_false_iff_ne.mpr h39
            cases hmk : isMk a with
            | true =>
              rw [hmk] at f7
              k_steps
              (with_reducible rename News _ _ _ _ => nX)
              dsimp only at nX
              refine RetE.intro0 (⟨_, _, _, _, _, _, _, _⟩ : RS) (by k_asm) nX rfl ⟨⟨a :: l', one a, one a, l'⟩, ?_, hat', hc, hc, fun _ => hat'.next⟩ rfl
              rw [hlex, lex1, if_neg (by rw [hstt]; exact Bool.false_ne_true), if_neg (by omega), if_pos hmk]
            | false =>
              rw [hmk] at f7
              k_steps
              refine (?_ : ∃ l1, lex l = .err _ l1 ∧ At c.src l1 _)
              refine ⟨a :: l', ?_, hat'⟩
              rw [hlex, lex1, if_neg (by rw [hstt]; exact Bool.false_ne_true), if_neg (by omega), if_neg (by rw [hmk]; exact Bool.false_ne_true)]

/-- the reader stands at the token t -/
def RdAt (c : RC) (t : Tk) (x : RS) : Prop := At c.src t.l1 x.place ∧ x.kind = t.kind ∧ x.value = t.value ∧ (t.kind ≠ sEnd → At c.src t.rest x.after)
set_option maxRecDepth 100000 in
set_option maxHeartbeats 8000000 in
theorem expectS (r d : Addr) (hrd : @Ne Nat r d) (c : RC) (x : RS) (t : Tk) (k : Str) (tk0 : Tok) (hlen : c.src.length ≤ 1048576) (hat : RdAt c t x) (hke : k ≠ sEnd) :
   Spec w p loose mean mg mb 102 [.ref r, .str k tk0] 40 240 (rdLed w.params r d c x) NoPre (fun i : RS × Tok => .str t.value i.2) (fun i => rdLed w.params r d c i.1) (fun _ => [])
     (fun i => ∃ t', expectR k t = .ok (t.value, t') ∧ RdAt c t' i.1)
     (fun wh at_ => ∃ l1, expectR k t = .err wh l1 ∧ At c.src l1 at_) := by
  obtain ⟨hpl, hki, hva, haf⟩ := hat
  k_extra "sp_open"
  replace F : Fr g L' h₁ (fun y => List.lookup y [(Str.ofString "kind", .str k tk0), (Str.ofString "self", .ref r)]) := F
  by_cases hk : t.kind = k
  · have f1 : (x.kind != k) = false := by rw [hki, hk]; simp
    have hat2 := haf (by rw [hk]; exact hke)
    have hq9 : ∀ wh at_, (∃ l1, lex t.rest = .err wh l1 ∧ At c.src l1 at_) → ∃ l1, expectR k t = .err wh l1 ∧ At c.src l1 at_ := by
      rintro wh at_ ⟨l1, hl, ha⟩
      exact ⟨l1, by rw [expectR, if_pos hk, hl]; rfl, ha⟩
    k_steps
    obtain ⟨t', h1, h2, h3, h4, h5⟩ := hP'
    exact RetE.intro0 (i', x.u5) (by k_asm) N' (by rw [hva]) ⟨t', by rw [expectR, if_pos hk, h1]; rfl, h2, h3, h4, h5⟩ rfl
  · have f1 : (x.kind != k) = true := by rw [hki]; exact bne_iff_ne.mpr hk
    k_steps
    exact ⟨t.l1, by rw [expectR, if_neg hk], hpl⟩

theorem retPair {P : Params} {g : Heap} {s : Shared} {r d : Addr} {c : RC} {x' : RS} {Pp : Value × RS × Led → Prop} {h' : Heap} {tk' : Nat} {L' : Addr} {m' : Str → Option Value} {D D1 : Addr} {tg : Str} {t1 : Tok} {vs : List Value} {tmp fz : Led}
    (F : Fr g L' h' m') (N : News g L' h' ((D, TupO [.str tg t1, .ref D1]) :: (D1, TupO vs) :: tmp)) (hP : Pp (.ref D, x', (D, TupO [.str tg t1, .ref D1]) :: (D1, TupO vs) :: fz))
    (hin : ∀ q ∈ (r, instObj 133 d) :: (d, rdObj P c x') :: fz, q ∈ tmp) (hD : r < D ∧ d < D) (hD1 : r < D1 ∧ d < D1) (hoff : ∀ q ∈ fz, q.1 ≠ r ∧ q.1 ≠ d) :
    RetE g s (fun i : Value × RS × Led => i.1) (fun i => rdLed P r d c i.2.1) (fun i => i.2.2) Pp (.ref D) { s with heap := h', toks := tk' } := by
  refine RetE.intro (.ref D, x', (D, TupO [.str tg t1, .ref D1]) :: (D1, TupO vs) :: fz) F N rfl hP (fun q hq => ?_) ?_
  · simp only [List.cons_append, List.nil_append, List.mem_cons] at hq ⊢
    rcases hq with h | h | h | h | h
    · exact .inr (.inr (hin q (by simp [h])))
    · exact .inr (.inr (hin q (by simp [h])))
    · exact .inl h
    · exact .inr (.inl h)
    · exact .inr (.inr (hin q (by simp [h])))
  · exact apart2 (all_cons (Nat.ne_of_gt hD.1) (all_cons (Nat.ne_of_gt hD1.1) fun q hq => (hoff q hq).1)) (all_cons (Nat.ne_of_gt hD.2) (all_cons (Nat.ne_of_gt hD1.2) fun q hq => (hoff q hq).2))
theorem retOne {P : Params} {g : Heap} {s : Shared} {r d : Addr} {c : RC} {x' : RS} {Pp : Value × RS × Led → Prop} {h' : Heap} {tk' : Nat} {L' : Addr} {m' : Str → Option Value} {D : Addr} {vs : List Value} {tmp fz : Led}
    (F : Fr g L' h' m') (N : News g L' h' ((D, TupO vs) :: tmp)) (hP : Pp (.ref D, x', (D, TupO vs) :: fz))
    (hin : ∀ q ∈ (r, instObj 133 d) :: (d, rdObj P c x') :: fz, q ∈ tmp) (hD : r < D ∧ d < D) (hoff : ∀ q ∈ fz, q.1 ≠ r ∧ q.1 ≠ d) :
    RetE g s (fun i : Value × RS × Led => i.1) (fun i => rdLed P r d c i.2.1) (fun i => i.2.2) Pp (.ref D) { s with heap := h', toks := tk' } := by
  refine RetE.intro (.ref D, x', (D, TupO vs) :: fz) F N rfl hP (fun q hq => ?_) ?_
  · simp only [List.cons_append, List.nil_append, List.mem_cons] at hq ⊢
    rcases hq with h | h | h | h
    · exact .inr (hin q (by simp [h]))
    · exact .inr (hin q (by simp [h]))
    · exact .inl h
    · exact .inr (hin q (by simp [h]))
  · exact apart2 (all_cons (Nat.ne_of_gt hD.1) fun q hq => (hoff q hq).1) (all_cons (Nat.ne_of_gt hD.2) fun q hq => (hoff q hq).2)
/-- the contract of a part of the parser -/
abbrev PSpec (w : World) (p : Program) (loose : List Str) (mean : ExcName → Option Value) (mg mb : Str → Option Value) (r d : Addr) (c : RC) (f : Addr) (res : Res (Tree × Tk)) (x : RS) (n : Nat) : Prop :=
  Spec w p loose mean mg mb f [.ref r] (3 * n + 60) (12 * n + 300) (rdLed w.params r d c x) NoPre (fun i : Value × RS × Led => i.1) (fun i => rdLed w.params r d c i.2.1) (fun i => i.2.2)
    (fun i => ∃ e t', res = .ok (e, t') ∧ RdAt c t' i.2.1 ∧ TreeAt (fun a o => (a, o) ∈ i.2.2) i.1 e) (fun wh at_ => ∃ l1, res = .err wh l1 ∧ At c.src l1 at_)

set_option maxRecDepth 100000 in
set_option maxHeartbeats 8000000 in
theorem seqS (r d : Addr) (hrd : @Ne Nat r d) (c : RC) (hlen : c.src.length ≤ 1048576) (n : Nat)
    (IH : ∀ m, m < n → ∀ (t : Tk) (x : RS), RdAt c t x → starts t.kind = true → pItem m t ≠ .out → PSpec w p loose mean mg mb r d c 130 (pItem m t) x m)
    (t : Tk) (x : RS) (hat : RdAt c t x) (hne : pSeq (n + 1) t ≠ .out) : PSpec w p loose mean mg mb r d c 123 (pSeq (n + 1) t) x (n + 1) := by
  have hne1 : pItems n t ≠ .out := Res.bind_ne hne
  k_extra "sp_open"
  replace F : Fr g L' h₁ (fun y => List.lookup y [(Str.ofString "self", .ref r)]) := F
  k_steps
  rename_i l h0 l1 h1 F1 N1
  have hrl : @Ne Nat r l := Nat.ne_of_lt l1.1
  have hdl : @Ne Nat d l := Nat.ne_of_lt l1.2
  have N2 : News g L' h1 ((r, instObj 133 d) :: (d, rdObj w.params c x) :: (l, listOf ([] : List Value).toArray 0) :: []) := fun q hq => N1 q (by simp only [List.mem_cons, List.not_mem_nil, or_false] at hq ⊢; rcases hq with h | h | h <;> simp [h])
  refine While_fix (fun m nx => ∃ (x' : RS) (t' : Tk) (ys : List Tree) (vs : List Value) (k : Nat) (fz : Led), nx = (r, instObj 133 d) :: (d, rdObj w.params c x') :: (l, listOf vs.toArray k) :: fz ∧ RdAt c t' x' ∧
      TreesAt (fun a o => (a, o) ∈ fz) vs ys ∧ (∀ q ∈ fz, q.1 ≠ r ∧ q.1 ≠ d ∧ q.1 ≠ l) ∧ pItems n t = ((pItems m t').bind fun q => .ok (ys ++ q.1, q.2)) ∧ ys.length + m = n)
    (n₀ := n) F1 N2 ⟨x, t, [], [], 0, [], rfl, hat, .nil, (fun _ h => nomatch h), ?_, by simp⟩ ?_
  · cases pItems n t <;> rfl
  rintro m nx h3 tk3 F3 N3 ⟨x', t', ys, vs, k, fz, rfl, hat', htr, hoff, hp, hm⟩
  clear F1 N1 N2
  (try k_fold)
  have hpl : pItems m t' ≠ .out := fun e => hne1 (by rw [hp, e]; rfl)
  cases m with
  | zero => exact absurd rfl hpl
  | succ m =>
  cases hst1 : starts t'.kind with
  | true =>
    have f1 : [Str.ofString "name", Str.ofString "text", Str.ofString "(", Str.ofString "[", Str.ofString "{"].any (· == x'.kind) = true := by rw [hat'.2.1]; exact hst1
    k_steps
    refine (?_ : wpAny _ _ _ _ _ _)
    (with_reducible rename News _ _ _ _ => nX)
    (with_reducible rename Fr _ _ _ _ => fX)
    refine Spec.use [(l, listOf vs.toArray k)] fz (IH m (by omega) t' x' hat' hst1 (fun e => hpl (by rw [pItems, if_pos hst1, e]; rfl))) B fX X nX T rfl rfl rfl rfl ?_ ?_ ?_ ?_ ?_ trivial ?_ ?_
    · ktr_room
    · ktr_units
    · intro q hq; simp only [List.cons_append, List.nil_append, List.mem_cons] at hq ⊢; rcases hq with h | h | h | h <;> simp [h]
    · exact apart2 (all_cons hrl.symm fun q hq => (hoff q hq).1) (all_cons hdl.symm fun q hq => (hoff q hq).2.1)
    · exact apart1 fun q hq => (hoff q hq).2.2
    · rintro ⟨v, x2, fz0⟩ fz2 h4 tk4 ⟨e, t2, hpi, hat2, htr2⟩ hz1 hz2 F4 N4 a1 a2
      dsimp only at F4 N4 hat2 htr2 hz1 a1 a2 ⊢
      simp only [List.cons_append, List.nil_append] at N4
      clear fX nX
      have o1 : ∀ q ∈ fz2, q.1 ≠ r ∧ q.1 ≠ d ∧ q.1 ≠ l := fun q hq => ⟨fun e => a1 _ (.head _) _ (.tail _ hq) e.symm, fun e => a1 _ (.tail _ (.head _)) _ (.tail _ hq) e.symm, fun e => a2 _ (.head _) _ hq e.symm⟩
      k_steps
      refine append_K (its := vs.toArray) (n := k) F4 N4 (.tail hrl (.tail hdl (.head fun q hq => (o1 q hq).2.2))) (fun h5 F5 N5 => ?_) ?_
      · clear F4 N4
        k_steps
        refine ⟨_, _, _, m, rfl, F5, N5, Nat.lt_succ_self m, x2, t2, ys ++ [e], vs ++ [v], k + 1, fz2, by rw [List.push_toArray], hat2, (htr.mono fun _ _ h => hz2 _ h).app (htr2.mono fun _ _ h => hz1 _ h), o1, ?_, by rw [List.length_append, List.length_singleton]; omega⟩
        rw [hp, pItems, if_pos hst1, hpi]
        show ((pItems m t2).bind fun q => _).bind _ = _
        cases pItems m t2 <;> simp [Res.bind]
      · rw [List.size_toArray, htr.len, sizeLine_eq]
        simp only [recursionLimit] at hd
        omega
    · rintro ea wh at_ h4 tk4 gg ⟨l2, hl2, ha2⟩ fl hF up
      refine passEnd hKE B ⟨l2, ?_, ha2⟩ fl hF up
      rw [pSeq, hp, pItems, if_pos hst1, hl2]; rfl
  | false =>
    have f1 : [Str.ofString "name", Str.ofString "text", Str.ofString "(", Str.ofString "[", Str.ofString "{"].any (· == x'.kind) = false := by rw [hat'.2.1]; exact hst1
    have hpe : pSeq (n + 1) t = .ok (seqOf ys, t') := by
      rw [pSeq, hp, pItems, if_neg (by rw [hst1]; exact Bool.false_ne_true)]
      simp [Res.bind]
    cases htr with
    | nil =>
      k_steps
      rename_i T1 hT lT D1 hD1 lD1 D hD F9 N9 lD
      refine retPair (fz := []) F9 N9 ⟨_, t', hpe, hat', .seq (.head _) (.tail _ (.head _)) .nil⟩ ?_ ⟨lD.2.2.1, lD.2.2.2.1⟩ ⟨lD1.2.1, lD1.2.2.1⟩ (fun _ h => nomatch h)
      intro q hq; simp only [List.mem_cons, List.not_mem_nil, or_false] at hq ⊢; grind
    | @cons v1 e1 vs1 ys1 hv htr' =>
      cases htr' with
      | nil =>
        k_steps
        (with_reducible rename News _ _ _ _ => N9)
        (with_reducible rename Fr _ _ _ _ => F9)
        refine RetE.intro (⟨v1, x', fz⟩ : Value × RS × Led) F9 N9 rfl ⟨_, t', hpe, hat', hv⟩ ?_ (apart2 (fun q hq => (hoff q hq).1) fun q hq => (hoff q hq).2.1)
        intro q hq; simp only [List.cons_append, List.nil_append, List.mem_cons, List.not_mem_nil, or_false] at hq ⊢; grind
      | @cons v2 e2 vs9 ys9 hv2 htr' =>
        k_steps
        (with_reducible rename News _ _ _ _ => nX)
        (with_reducible rename Fr _ _ _ _ => fX)
        refine len_list (nX.isList (by k_mem)) (by rw [List.size_toArray]; have := htr'.len; simp only [recursionLimit] at hd; simp only [List.length_cons] at hm ⊢; omega) ?_
        k_steps
        · rename_i hq
          simp only [List.size_toArray, List.length_cons] at hq
          omega
        · rename_i T1 hT lT hq
          refine kde_tupleOf (zs := v1 :: v2 :: vs9) fX nX (nX.isList (by k_mem)) (by rw [List.size_toArray]; have := htr'.len; simp only [recursionLimit] at hd; simp only [List.length_cons] at hm ⊢; omega) rfl (fun D1 h9 F9 N9 l9 => ?_)
          k_lt l9
          clear fX nX
          k_steps
          rename_i D hD F8 N8 lD
          refine retPair (fz := fz) F8 N8 ⟨_, t', hpe, hat', .seq (.head _) (.tail _ (.head _)) (.cons (hv.mono fun _ _ h => List.Mem.tail _ (List.Mem.tail _ h)) (.cons (hv2.mono fun _ _ h => List.Mem.tail _ (List.Mem.tail _ h)) (htr'.mono fun _ _ h => List.Mem.tail _ (List.Mem.tail _ h))))⟩ ?_ ⟨lD.2.2.1, lD.2.2.2.1⟩ ⟨l9.2.1, l9.2.2.1⟩ (fun q hq => ⟨(hoff q hq).1, (hoff q hq).2.1⟩)
          intro q hq; simp only [List.mem_cons] at hq ⊢; grind

theorem Res.ok_bind {α β : Type} {a : α} {f : α → Res β} : (Res.ok a).bind f = f a := rfl
theorem ofs_lp : Str.ofString "(" = one 40 := by decide +kernel
theorem ofs_rp : Str.ofString ")" = one 41 := by decide +kernel
theorem ofs_lb : Str.ofString "[" = one 91 := by decide +kernel
theorem ofs_rb : Str.ofString "]" = one 93 := by decide +kernel
theorem ofs_rc : Str.ofString "}" = one 125 := by decide +kernel
theorem ofs_lc : Str.ofString "{" = one 123 := by decide +kernel
theorem starts_cases {k : Str} (h : starts k = true) : k = sName ∨ k = sText ∨ k = one 40 ∨ k = one 91 ∨ k = one 123 := by
  unfold starts at h
  simp only [List.any_cons, List.any_nil, Bool.or_false, Bool.or_eq_true, beq_iff_eq] at h
  rcases h with h | h | h | h | h <;> simp [← h]
theorem not_end_of_starts {k : Str} (h : starts k = true) : k ≠ sEnd := by
  rcases starts_cases h with h | h | h | h | h <;> (rw [h]; decide +kernel)
set_option maxRecDepth 100000 in
set_option maxHeartbeats 8000000 in
theorem itemS (r d : Addr) (hrd : @Ne Nat r d) (c : RC) (hlen : c.src.length ≤ 1048576) (n : Nat)
    (IH : ∀ (t : Tk) (x : RS), RdAt c t x → pAlts n t ≠ .out → PSpec w p loose mean mg mb r d c 116 (pAlts n t) x n)
    (t : Tk) (x : RS) (hat : RdAt c t x) (hsk : starts t.kind = true) (hne : pItem (n + 1) t ≠ .out) : PSpec w p loose mean mg mb r d c 130 (pItem (n + 1) t) x (n + 1) := by
  obtain ⟨hpl, hki, hva, haf⟩ := hat
  have hat2 := haf (not_end_of_starts hsk)
  have hq9 : ∀ wh at_, (∃ l1, lex t.rest = .err wh l1 ∧ At c.src l1 at_) → ∃ l1, pItem (n + 1) t = .err wh l1 ∧ At c.src l1 at_ := by
    rintro wh at_ ⟨l1, hl, ha⟩
    exact ⟨l1, by rw [pItem, hl]; rfl, ha⟩
  k_extra "sp_open"
  replace F : Fr g L' h₁ (fun y => List.lookup y [(Str.ofString "self", .ref r)]) := F
  rcases starts_cases hsk with hk | hk | hk | hk | hk
  · have f1 : (x.kind == Str.ofString "name") = true := by rw [hki, hk]; decide +kernel
    k_steps
    obtain ⟨t1, hl1, hat1⟩ := hP'
    (with_reducible rename News _ _ _ _ => nX)
    (with_reducible rename Fr _ _ _ _ => fX)
    (with_reducible rename _ < _ ∧ _ => lD)
    simp only [hki, hk, hva] at nX
    refine retOne (fz := []) fX nX ⟨.name t.value, t1, ?_, hat1, .name (.head _)⟩ ?_ ⟨lD.1, lD.2⟩ (fun _ h => nomatch h)
    · rw [pItem, hl1, Res.ok_bind, if_pos hk]
    · intro q hq; simp only [List.mem_cons, List.not_mem_nil, or_false] at hq ⊢; grind
  · have f1 : (x.kind == Str.ofString "name") = false := by rw [hki, hk]; decide +kernel
    have f2 : (x.kind == Str.ofString "text") = true := by rw [hki, hk]; decide +kernel
    k_steps
    obtain ⟨t1, hl1, hat1⟩ := hP'
    (with_reducible rename News _ _ _ _ => nX)
    (with_reducible rename Fr _ _ _ _ => fX)
    (with_reducible rename _ < _ ∧ _ => lD)
    simp only [hki, hk, hva] at nX
    refine retOne (fz := []) fX nX ⟨.text t.value, t1, ?_, hat1, .text (.head _)⟩ ?_ ⟨lD.1, lD.2⟩ (fun _ h => nomatch h)
    · rw [pItem, hl1, Res.ok_bind, if_neg (by rw [hk]; decide +kernel), if_pos hk]
    · intro q hq; simp only [List.mem_cons, List.not_mem_nil, or_false] at hq ⊢; grind
  · have f1 : (x.kind == Str.ofString "name") = false := by rw [hki, hk]; decide +kernel
    have f2 : (x.kind == Str.ofString "text") = false := by rw [hki, hk]; decide +kernel
    have f3 : (x.kind == Str.ofString "(") = true := by rw [hki, hk]; decide +kernel
    k_steps
    obtain ⟨t1, hl1, hat1⟩ := hP'
    have hpi : pItem (n + 1) t = (pAlts n t1).bind fun r => (expectR (one 41) r.2).bind fun q => .ok (r.1, q.2) := by
      rw [pItem, hl1, Res.ok_bind, hk, if_neg (by decide +kernel), if_neg (by decide +kernel)]
      congr 1
    have hne2 : pAlts n t1 ≠ .out := Res.bind_ne (hpi ▸ hne)
    refine Spec.use [] [] (IH t1 _ hat1 hne2) B F' X N' T rfl rfl rfl rfl ?_ ?_ (fun q hq => by simpa using hq) (Apart.nil_r _) (Apart.nil_r _) trivial ?_ ?_
    · ktr_room
    · ktr_units
    · rintro ⟨v, x2, fz0⟩ fz2 h4 tk4 ⟨e, t2, hpa, hat3, htr2⟩ hz1 hz2 F4 N4 a1 a2
      dsimp only at F4 N4 hat3 htr2 hz1 a1 a2 ⊢
      simp only [List.cons_append, List.nil_append] at N4
      clear F' N'
      k_steps
      (with_reducible rename News _ _ _ _ => nX)
      (with_reducible rename Fr _ _ _ _ => fX)
      refine Spec.use [] fz2 (expectS w p loose mean mg mb r d hrd c x2 t2 _ _ hlen hat3 (by decide +kernel)) B fX X nX T rfl rfl rfl rfl ?_ ?_ (fun q hq => by simpa using hq) a1 (Apart.nil_l _) trivial ?_ ?_
      · ktr_room
      · ktr_units
      · rintro ⟨x3, u3⟩ fz3 h5 tk5 ⟨t3, he3, hat5⟩ hz3 hz4 F5 N5 a3 a4
        dsimp only at F5 N5 a3 a4 hz3 hat5 ⊢
        simp only [List.cons_append, List.nil_append] at N5
        clear fX nX
        have o1 : ∀ q ∈ fz3, q.1 ≠ r ∧ q.1 ≠ d := fun q hq => ⟨fun e => a3 _ (.head _) _ hq e.symm, fun e => a3 _ (.tail _ (.head _)) _ hq e.symm⟩
        k_steps
        refine RetE.intro (⟨v, x3, fz3⟩ : Value × RS × Led) F5 N5 rfl ⟨e, t3, ?_, hat5, (htr2.mono fun _ _ h => hz4 _ (hz1 _ h))⟩ ?_ (apart2 (fun q hq => (o1 q hq).1) fun q hq => (o1 q hq).2)
        · rw [hpi, hpa, Res.ok_bind, ← ofs_rp, he3]; rfl
        · intro q hq; simpa using hq
      · rintro ea wh at_ h5 tk5 gg ⟨l2, hl2, ha2⟩ fl hF up
        refine passEnd hKE B ⟨l2, ?_, ha2⟩ fl hF up
        rw [hpi, hpa, Res.ok_bind, ← ofs_rp, hl2]; rfl
    · rintro ea wh at_ h5 tk5 gg ⟨l2, hl2, ha2⟩ fl hF up
      refine passEnd hKE B ⟨l2, ?_, ha2⟩ fl hF up
      rw [hpi, hl2]; rfl
  · have f1 : (x.kind == Str.ofString "name") = false := by rw [hki, hk]; decide +kernel
    have f2 : (x.kind == Str.ofString "text") = false := by rw [hki, hk]; decide +kernel
    have f3 : (x.kind == Str.ofString "(") = false := by rw [hki, hk]; decide +kernel
    have f4 : (x.kind == Str.ofString "[") = true := by rw [hki, hk]; decide +kernel
    k_steps
    obtain ⟨t1, hl1, hat1⟩ := hP'
    have hpi : pItem (n + 1) t = (pAlts n t1).bind fun r => (expectR (one 93) r.2).bind fun q => .ok (.opt r.1, q.2) := by
      rw [pItem, hl1, Res.ok_bind, hk, if_neg (by decide +kernel), if_neg (by decide +kernel)]
      congr 1
    have hne2 : pAlts n t1 ≠ .out := Res.bind_ne (hpi ▸ hne)
    refine Spec.use [] [] (IH t1 _ hat1 hne2) B F' X N' T rfl rfl rfl rfl ?_ ?_ (fun q hq => by simpa using hq) (Apart.nil_r _) (Apart.nil_r _) trivial ?_ ?_
    · ktr_room
    · ktr_units
    · rintro ⟨v, x2, fz0⟩ fz2 h4 tk4 ⟨e, t2, hpa, hat3, htr2⟩ hz1 hz2 F4 N4 a1 a2
      dsimp only at F4 N4 hat3 htr2 hz1 a1 a2 ⊢
      simp only [List.cons_append, List.nil_append] at N4
      clear F' N'
      k_steps
      (with_reducible rename News _ _ _ _ => nX)
      (with_reducible rename Fr _ _ _ _ => fX)
      refine Spec.use [] fz2 (expectS w p loose mean mg mb r d hrd c x2 t2 _ _ hlen hat3 (by decide +kernel)) B fX X nX T rfl rfl rfl rfl ?_ ?_ (fun q hq => by simpa using hq) a1 (Apart.nil_l _) trivial ?_ ?_
      · ktr_room
      · ktr_units
      · rintro ⟨x3, u3⟩ fz3 h5 tk5 ⟨t3, he3, hat5⟩ hz3 hz4 F5 N5 a3 a4
        dsimp only at F5 N5 a3 a4 hz3 hat5 ⊢
        simp only [List.cons_append, List.nil_append] at N5
        clear fX nX
        have o1 : ∀ q ∈ fz3, q.1 ≠ r ∧ q.1 ≠ d := fun q hq => ⟨fun e => a3 _ (.head _) _ hq e.symm, fun e => a3 _ (.tail _ (.head _)) _ hq e.symm⟩
        k_steps
        (with_reducible rename News _ _ _ _ => nX)
        (with_reducible rename Fr _ _ _ _ => fX)
        (with_reducible rename _ < _ ∧ _ => lD)
        refine retOne (fz := fz3) fX nX ⟨.opt e, t3, ?_, hat5, .opt (.head _) (htr2.mono fun _ _ h => List.Mem.tail _ (hz4 _ (hz1 _ h)))⟩ ?_ ⟨lD.1, lD.2.1⟩ o1
        · rw [hpi, hpa, Res.ok_bind, ← ofs_rb, he3]; rfl
        · intro q hq; simp only [List.mem_cons] at hq ⊢; grind
      · rintro ea wh at_ h5 tk5 gg ⟨l2, hl2, ha2⟩ fl hF up
        refine passEnd hKE B ⟨l2, ?_, ha2⟩ fl hF up
        rw [hpi, hpa, Res.ok_bind, ← ofs_rb, hl2]; rfl
    · rintro ea wh at_ h5 tk5 gg ⟨l2, hl2, ha2⟩ fl hF up
      refine passEnd hKE B ⟨l2, ?_, ha2⟩ fl hF up
      rw [hpi, hl2]; rfl
  · have f1 : (x.kind == Str.ofString "name") = false := by rw [hki, hk]; decide +kernel
    have f2 : (x.kind == Str.ofString "text") = false := by rw [hki, hk]; decide +kernel
    have f3 : (x.kind == Str.ofString "(") = false := by rw [hki, hk]; decide +kernel
    have f4 : (x.kind == Str.ofString "[") = false := by rw [hki, hk]; decide +kernel
    k_steps
    obtain ⟨t1, hl1, hat1⟩ := hP'
    have hpi : pItem (n + 1) t = (pAlts n t1).bind fun r => (expectR (one 125) r.2).bind fun q => .ok (.rep r.1, q.2) := by
      rw [pItem, hl1, Res.ok_bind, hk, if_neg (by decide +kernel), if_neg (by decide +kernel)]
      congr 1
    have hne2 : pAlts n t1 ≠ .out := Res.bind_ne (hpi ▸ hne)
    refine Spec.use [] [] (IH t1 _ hat1 hne2) B F' X N' T rfl rfl rfl rfl ?_ ?_ (fun q hq => by simpa using hq) (Apart.nil_r _) (Apart.nil_r _) trivial ?_ ?_
    · ktr_room
    · ktr_units
    · rintro ⟨v, x2, fz0⟩ fz2 h4 tk4 ⟨e, t2, hpa, hat3, htr2⟩ hz1 hz2 F4 N4 a1 a2
      dsimp only at F4 N4 hat3 htr2 hz1 a1 a2 ⊢
      simp only [List.cons_append, List.nil_append] at N4
      clear F' N'
      k_steps
      (with_reducible rename News _ _ _ _ => nX)
      (with_reducible rename Fr _ _ _ _ => fX)
      refine Spec.use [] fz2 (expectS w p loose mean mg mb r d hrd c x2 t2 _ _ hlen hat3 (by decide +kernel)) B fX X nX T rfl rfl rfl rfl ?_ ?_ (fun q hq => by simpa using hq) a1 (Apart.nil_l _) trivial ?_ ?_
      · ktr_room
      · ktr_units
      · rintro ⟨x3, u3⟩ fz3 h5 tk5 ⟨t3, he3, hat5⟩ hz3 hz4 F5 N5 a3 a4
        dsimp only at F5 N5 a3 a4 hz3 hat5 ⊢
        simp only [List.cons_append, List.nil_append] at N5
        clear fX nX
        have o1 : ∀ q ∈ fz3, q.1 ≠ r ∧ q.1 ≠ d := fun q hq => ⟨fun e => a3 _ (.head _) _ hq e.symm, fun e => a3 _ (.tail _ (.head _)) _ hq e.symm⟩
        k_steps
        (with_reducible rename News _ _ _ _ => nX)
        (with_reducible rename Fr _ _ _ _ => fX)
        (with_reducible rename _ < _ ∧ _ => lD)
        refine retOne (fz := fz3) fX nX ⟨.rep e, t3, ?_, hat5, .rep (.head _) (htr2.mono fun _ _ h => List.Mem.tail _ (hz4 _ (hz1 _ h)))⟩ ?_ ⟨lD.1, lD.2.1⟩ o1
        · rw [hpi, hpa, Res.ok_bind, ← ofs_rc, he3]; rfl
        · intro q hq; simp only [List.mem_cons] at hq ⊢; grind
      · rintro ea wh at_ h5 tk5 gg ⟨l2, hl2, ha2⟩ fl hF up
        refine passEnd hKE B ⟨l2, ?_, ha2⟩ fl hF up
        rw [hpi, hpa, Res.ok_bind, ← ofs_rc, hl2]; rfl
    · rintro ea wh at_ h5 tk5 gg ⟨l2, hl2, ha2⟩ fl hF up
      refine passEnd hKE B ⟨l2, ?_, ha2⟩ fl hF up
      rw [hpi, hl2]; rfl

theorem ofs_bar : Str.ofString "|" = one 124 := by decide +kernel
set_option maxRecDepth 100000 in
set_option maxHeartbeats 8000000 in
theorem altsS (r d : Addr) (hrd : @Ne Nat r d) (c : RC) (hlen : c.src.length ≤ 1048576) (n : Nat)
    (IH : ∀ m, m ≤ n → ∀ (t : Tk) (x : RS), RdAt c t x → pSeq m t ≠ .out → PSpec w p loose mean mg mb r d c 123 (pSeq m t) x m)
    (t : Tk) (x : RS) (hat : RdAt c t x) (hne : pAlts (n + 1) t ≠ .out) : PSpec w p loose mean mg mb r d c 116 (pAlts (n + 1) t) x (n + 1) := by
  have hne1 : pSeq n t ≠ .out := Res.bind_ne hne
  k_extra "sp_open"
  replace F : Fr g L' h₁ (fun y => List.lookup y [(Str.ofString "self", .ref r)]) := F
  k_steps
  refine Spec.use [] [] (IH n (Nat.le_refl n) t x hat hne1) B F X N T rfl rfl rfl rfl ?_ ?_ (fun q hq => by simpa using hq) (Apart.nil_r _) (Apart.nil_r _) trivial ?_ ?_
  · ktr_room
  · ktr_units
  · rintro ⟨v0, x2, fz0⟩ fz2 h4 tk4 ⟨e0, t2, hpa, hat2, htr0⟩ hz1 hz2 F4 N4 a1 a2
    dsimp only at F4 N4 hat2 htr0 hz1 a1 a2 ⊢
    simp only [List.cons_append, List.nil_append] at N4
    clear F N
    have hne2 : pMore n t2 ≠ .out := by
      rw [pAlts, hpa, Res.ok_bind] at hne; exact Res.bind_ne hne
    k_steps
    rename_i l h0 l1 h1 F1 N1
    have hrl : @Ne Nat r l := Nat.ne_of_lt l1.1
    have hdl : @Ne Nat d l := Nat.ne_of_lt l1.2.1
    have o0 : ∀ q ∈ fz2, q.1 ≠ r ∧ q.1 ≠ d ∧ q.1 ≠ l := fun q hq => ⟨fun e => a1 _ (.head _) _ hq e.symm, fun e => a1 _ (.tail _ (.head _)) _ hq e.symm, allLt_ne l1.2.2 q hq⟩
    have N2 : News g L' h1 ((r, instObj 133 d) :: (d, rdObj w.params c x2) :: (l, listOf [v0].toArray 0) :: fz2) := fun q hq => N1 q (by simp only [List.mem_cons] at hq ⊢; grind)
    refine While_fix (fun m nx => ∃ (x' : RS) (t' : Tk) (ys : List Tree) (vs : List Value) (k : Nat) (fz : Led), nx = (r, instObj 133 d) :: (d, rdObj w.params c x') :: (l, listOf (v0 :: vs).toArray k) :: fz ∧ RdAt c t' x' ∧
        TreeAt (fun a o => (a, o) ∈ fz) v0 e0 ∧ TreesAt (fun a o => (a, o) ∈ fz) vs ys ∧ (∀ q ∈ fz, q.1 ≠ r ∧ q.1 ≠ d ∧ q.1 ≠ l) ∧ pMore n t2 = ((pMore m t').bind fun q => .ok (ys ++ q.1, q.2)) ∧ ys.length + m = n)
      (n₀ := n) F1 N2 ⟨x2, t2, [], [], 0, fz2, rfl, hat2, htr0.mono fun _ _ h => hz1 _ h, .nil, o0, ?_, by simp⟩ ?_
    · cases pMore n t2 <;> rfl
    rintro m nx h3 tk3 F3 N3 ⟨x', t', ys, vs, k, fz, rfl, hat', htr1, htr, hoff, hp, hm⟩
    clear F1 N1 N2
    (try k_fold)
    have hpl : pMore m t' ≠ .out := fun e => hne2 (by rw [hp, e]; rfl)
    cases m with
    | zero => exact absurd rfl hpl
    | succ m =>
    by_cases hbar : t'.kind = one 124
    · have f1 : (x'.kind == Str.ofString "|") = true := by rw [hat'.2.1, hbar]; decide +kernel
      have hatr := hat'.2.2.2 (by rw [hbar]; decide +kernel)
      k_steps
      (with_reducible rename News _ _ _ _ => nX)
      (with_reducible rename Fr _ _ _ _ => fX)
      refine Spec.use [(l, listOf (v0 :: vs).toArray k)] fz (stepS w p loose mean mg mb r d hrd c x' t'.rest hlen hatr) B fX X nX T rfl rfl rfl rfl ?_ ?_ ?_ ?_ ?_ trivial ?_ ?_
      · ktr_room
      · ktr_units
      · intro q hq; simp only [List.cons_append, List.nil_append, List.mem_cons] at hq ⊢; grind
      · exact apart2 (all_cons hrl.symm fun q hq => (hoff q hq).1) (all_cons hdl.symm fun q hq => (hoff q hq).2.1)
      · exact apart1 fun q hq => (hoff q hq).2.2
      · rintro x3 fz3 h5 tk5 ⟨t3, hl3, hat3⟩ _ hz4 F5 N5 a3 a4
        dsimp only at F5 N5 a3 a4 ⊢
        simp only [List.cons_append, List.nil_append] at N5
        clear fX nX
        have o3 : ∀ q ∈ fz3, q.1 ≠ r ∧ q.1 ≠ d ∧ q.1 ≠ l := fun q hq => ⟨fun e => a3 _ (.head _) _ (.tail _ hq) e.symm, fun e => a3 _ (.tail _ (.head _)) _ (.tail _ hq) e.symm, fun e => a4 _ (.head _) _ hq e.symm⟩
        have hpm : pMore (m + 1) t' = (pSeq m t3).bind fun r => (pMore m r.2).bind fun q => .ok (r.1 :: q.1, q.2) := by
          rw [pMore, if_pos hbar, hl3, Res.ok_bind]
        have hps : pSeq m t3 ≠ .out := Res.bind_ne (hpm ▸ hpl)
        k_steps
        (with_reducible rename News _ _ _ _ => nX)
        (with_reducible rename Fr _ _ _ _ => fX)
        refine Spec.use [(l, listOf (v0 :: vs).toArray k)] fz3 (IH m (by omega) t3 x3 hat3 hps) B fX X nX T rfl rfl rfl rfl ?_ ?_ ?_ ?_ ?_ trivial ?_ ?_
        · ktr_room
        · ktr_units
        · intro q hq; simp only [List.cons_append, List.nil_append, List.mem_cons] at hq ⊢; grind
        · exact apart2 (all_cons hrl.symm fun q hq => (o3 q hq).1) (all_cons hdl.symm fun q hq => (o3 q hq).2.1)
        · exact apart1 fun q hq => (o3 q hq).2.2
        · rintro ⟨v, x4, fz4⟩ fz5 h6 tk6 ⟨e, t4, hpi, hat4, htr2⟩ hz5 hz6 F6 N6 a5 a6
          dsimp only at F6 N6 hat4 htr2 hz5 a5 a6 ⊢
          simp only [List.cons_append, List.nil_append] at N6
          clear fX nX
          have o5 : ∀ q ∈ fz5, q.1 ≠ r ∧ q.1 ≠ d ∧ q.1 ≠ l := fun q hq => ⟨fun e => a5 _ (.head _) _ (.tail _ hq) e.symm, fun e => a5 _ (.tail _ (.head _)) _ (.tail _ hq) e.symm, fun e => a6 _ (.head _) _ hq e.symm⟩
          k_steps
          refine append_K (its := (v0 :: vs).toArray) (n := k) F6 N6 (.tail hrl (.tail hdl (.head fun q hq => (o5 q hq).2.2))) (fun h7 F7 N7 => ?_) ?_
          · clear F6 N6
            k_steps
            refine ⟨_, _, _, m, rfl, F7, N7, Nat.lt_succ_self m, x4, t4, ys ++ [e], vs ++ [v], k + 1, fz5, by rw [List.push_toArray, List.cons_append], hat4, htr1.mono fun _ _ h => hz6 _ (hz4 _ h), (htr.mono fun _ _ h => hz6 _ (hz4 _ h)).app (htr2.mono fun _ _ h => hz5 _ h), o5, ?_, by rw [List.length_append, List.length_singleton]; omega⟩
            rw [hp, hpm, hpi, Res.ok_bind]
            cases pMore m t4 <;> simp [Res.bind]
          · rw [List.size_toArray, List.length_cons, htr.len, sizeLine_eq]
            simp only [recursionLimit] at hd
            omega
        · rintro ea wh at_ h4 tk4 gg ⟨l2, hl2, ha2⟩ fl hF up
          refine passEnd hKE B ⟨l2, ?_, ha2⟩ fl hF up
          rw [pAlts, hpa, Res.ok_bind, hp, hpm, hl2]; rfl
      · rintro ea wh at_ h4 tk4 gg ⟨l2, hl2, ha2⟩ fl hF up
        refine passEnd hKE B ⟨l2, ?_, ha2⟩ fl hF up
        rw [pAlts, hpa, Res.ok_bind, hp, pMore, if_pos hbar, hl2]; rfl
    · have f1 : (x'.kind == Str.ofString "|") = false := by rw [hat'.2.1, ofs_bar]; exact beq_eq_false_iff_ne.mpr hbar
      have hpe : pAlts (n + 1) t = .ok (altOf e0 ys, t') := by
        rw [pAlts, hpa, Res.ok_bind, hp, pMore, if_neg hbar]
        simp [Res.bind]
      cases htr with
      | nil =>
        k_steps
        (with_reducible rename News _ _ _ _ => N9)
        (with_reducible rename Fr _ _ _ _ => F9)
        refine RetE.intro (⟨v0, x', fz⟩ : Value × RS × Led) F9 N9 rfl ⟨_, t', hpe, hat', htr1⟩ ?_ (apart2 (fun q hq => (hoff q hq).1) fun q hq => (hoff q hq).2.1)
        intro q hq; simp only [List.cons_append, List.nil_append, List.mem_cons, List.not_mem_nil, or_false] at hq ⊢; grind
      | @cons v2 e2 vs9 ys9 hv2 htr' =>
        k_steps
        (with_reducible rename News _ _ _ _ => nX)
        (with_reducible rename Fr _ _ _ _ => fX)
        refine len_list (nX.isList (by k_mem)) (by rw [List.size_toArray]; have := htr'.len; simp only [recursionLimit] at hd; simp only [List.length_cons] at hm ⊢; omega) ?_
        k_steps
        · rename_i hq
          simp only [List.size_toArray, List.length_cons] at hq
          omega
        · refine kde_tupleOf (zs := v0 :: v2 :: vs9) fX nX (nX.isList (by k_mem)) (by rw [List.size_toArray]; have := htr'.len; simp only [recursionLimit] at hd; simp only [List.length_cons] at hm ⊢; omega) rfl (fun D1 h9 F9 N9 l9 => ?_)
          k_lt l9
          clear fX nX
          k_steps
          rename_i D hD F8 N8 lD
          refine retPair (fz := fz) F8 N8 ⟨_, t', hpe, hat', .alt (.head _) (.tail _ (.head _)) (.cons (htr1.mono fun _ _ h => List.Mem.tail _ (List.Mem.tail _ h)) (.cons (hv2.mono fun _ _ h => List.Mem.tail _ (List.Mem.tail _ h)) (htr'.mono fun _ _ h => List.Mem.tail _ (List.Mem.tail _ h))))⟩ ?_ ⟨lD.2.1, lD.2.2.1⟩ ⟨l9.1, l9.2.1⟩ (fun q hq => ⟨(hoff q hq).1, (hoff q hq).2.1⟩)
          intro q hq; simp only [List.mem_cons] at hq ⊢; grind
  · rintro ea wh at_ h5 tk5 gg ⟨l2, hl2, ha2⟩ fl hF up
    refine passEnd hKE B ⟨l2, ?_, ha2⟩ fl hF up
    rw [pAlts, hl2]; rfl

def pRules (N : Nat) : Nat → Tk → Res (List (Str × Tree))
  | 0, _ => .out
  | n + 1, t => if t.kind = sEnd then .ok [] else (expectR sName t).bind fun a => (expectR (one 61) a.2).bind fun b => (pAlts N b.2).bind fun r => (expectR (one 46) r.2).bind fun q =>
      (pRules N n q.2).bind fun l => .ok ((a.1, r.1) :: l)
/-- rows as they lie -/
inductive RowsAt (St : Addr → Obj → Prop) : List Value → List (Str × Tree) → Prop
  | nil : RowsAt St [] []
  | cons {a : Addr} {nm : Str} {t1 : Tok} {v : Value} {e : Tree} {vs : List Value} {l : List (Str × Tree)} : St a (TupO [.str nm t1, v]) → TreeAt St v e → RowsAt St vs l → RowsAt St (.ref a :: vs) ((nm, e) :: l)
theorem RowsAt.mono {St St' : Addr → Obj → Prop} (h : ∀ a o, St a o → St' a o) : ∀ {vs : List Value} {l : List (Str × Tree)}, RowsAt St vs l → RowsAt St' vs l
  | _, _, .nil => .nil
  | _, _, .cons x y z => .cons (h _ _ x) (y.mono h) (z.mono h)
theorem RowsAt.app {St : Addr → Obj → Prop} {a : Addr} {nm : Str} {t1 : Tok} {v : Value} {e : Tree} (x : St a (TupO [.str nm t1, v])) (y : TreeAt St v e) : ∀ {vs : List Value} {l : List (Str × Tree)}, RowsAt St vs l → RowsAt St (vs ++ [.ref a]) (l ++ [(nm, e)])
  | _, _, .nil => .cons x y .nil
  | _, _, .cons x' y' z => .cons x' y' (z.app x y)
theorem RowsAt.len {St : Addr → Obj → Prop} : ∀ {vs : List Value} {l : List (Str × Tree)}, RowsAt St vs l → vs.length = l.length
  | _, _, .nil => rfl
  | _, _, .cons _ _ z => by rw [List.length_cons, List.length_cons, z.len]
theorem ofs_eq : Str.ofString "=" = one 61 := by decide +kernel
theorem ofs_dot : Str.ofString "." = one 46 := by decide +kernel
theorem parse_all (r d : Addr) (hrd : @Ne Nat r d) (c : RC) (hlen : c.src.length ≤ 1048576) : ∀ n,
    (∀ (t : Tk) (x : RS), RdAt c t x → pAlts n t ≠ .out → PSpec w p loose mean mg mb r d c 116 (pAlts n t) x n) ∧
    (∀ (t : Tk) (x : RS), RdAt c t x → pSeq n t ≠ .out → PSpec w p loose mean mg mb r d c 123 (pSeq n t) x n) ∧
    (∀ (t : Tk) (x : RS), RdAt c t x → starts t.kind = true → pItem n t ≠ .out → PSpec w p loose mean mg mb r d c 130 (pItem n t) x n) := by
  intro n
  induction n using Nat.strongRecOn with
  | _ n ih =>
    cases n with
    | zero => exact ⟨fun _ _ _ h => absurd rfl h, fun _ _ _ h => absurd rfl h, fun _ _ _ _ h => absurd rfl h⟩
    | succ n =>
      refine ⟨fun t x h1 h2 => ?_, fun t x h1 h2 => ?_, fun t x h1 h2 h3 => ?_⟩
      · exact altsS w p loose mean mg mb r d hrd c hlen n (fun m hm => (ih m (by omega)).2.1) t x h1 h2
      · exact seqS w p loose mean mg mb r d hrd c hlen n (fun m hm => (ih m (by omega)).2.2) t x h1 h2
      · exact itemS w p loose mean mg mb r d hrd c hlen n (ih n (by omega)).1 t x h1 h2 h3

set_option maxRecDepth 100000 in
set_option maxHeartbeats 8000000 in
theorem rulesS (r d : Addr) (hrd : @Ne Nat r d) (c : RC) (hlen : c.src.length ≤ 1048576) (N0 M : Nat) (hM : M ≤ 100000) (t : Tk) (x : RS) (hat : RdAt c t x) (hne : pRules N0 M t ≠ .out) :
    Spec w p loose mean mg mb 109 [.ref r] (3 * N0 + 80) (12 * N0 + 360) (rdLed w.params r d c x) NoPre (fun i : Addr × Led => .ref i.1) (fun _ => []) (fun i => i.2)
    (fun i => ∃ vs k l, pRules N0 M t = .ok l ∧ (i.1, listOf (List.toArray vs) k) ∈ i.2 ∧ RowsAt (fun a o => (a, o) ∈ i.2) vs l) (fun wh at_ => ∃ l1, pRules N0 M t = .err wh l1 ∧ At c.src l1 at_) := by
  k_extra "sp_open"
  replace F : Fr g L' h₁ (fun y => List.lookup y [(Str.ofString "self", .ref r)]) := F
  k_steps
  rename_i l h0 l1 h1 F1 N1
  have hrl : @Ne Nat r l := Nat.ne_of_lt l1.1
  have hdl : @Ne Nat d l := Nat.ne_of_lt l1.2
  have N2 : News g L' h1 ((r, instObj 133 d) :: (d, rdObj w.params c x) :: (l, listOf ([] : List Value).toArray 0) :: []) := fun q hq => N1 q (by simp only [List.mem_cons, List.not_mem_nil, or_false] at hq ⊢; grind)
  refine While_inv2 (fun m mp nx => ∃ (x' : RS) (t' : Tk) (ys : List (Str × Tree)) (vs : List Value) (k : Nat) (fz : Led) (u : Option Value), nx = (r, instObj 133 d) :: (d, rdObj w.params c x') :: (l, listOf vs.toArray k) :: fz ∧ RdAt c t' x' ∧
      RowsAt (fun a o => (a, o) ∈ fz) vs ys ∧ (∀ q ∈ fz, q.1 ≠ r ∧ q.1 ≠ d ∧ q.1 ≠ l) ∧ pRules N0 M t = ((pRules N0 m t').bind fun q => .ok (ys ++ q)) ∧ ys.length + m = M ∧
      mp = fun y => if y = Str.ofString "name" then u else if y = Str.ofString "found" then some (.ref l) else List.lookup y [(Str.ofString "self", .ref r)])
    (n₀ := M) F1 N2 ⟨x, t, [], [], 0, [], none, rfl, hat, .nil, (fun _ h => nomatch h), ?_, by simp, ?_⟩ ?_
  · cases pRules N0 M t <;> rfl
  · funext y
    by_cases h : y = Str.ofString "name"
    · subst h; rw [if_pos rfl, if_neg (by decide +kernel)]; rfl
    · rw [if_neg h]
  rintro m mp nx h3 tk3 F3 N3 ⟨x', t', ys, vs, k, fz, u, rfl, hat', htr, hoff, hp, hm, rfl⟩
  clear F1 N1 N2
  (try k_fold)
  have hpl : pRules N0 m t' ≠ .out := fun e => hne (by rw [hp, e]; rfl)
  cases m with
  | zero => exact absurd rfl hpl
  | succ m =>
  by_cases hend : t'.kind = sEnd
  · have f1 : (x'.kind != Str.ofString "end") = false := by rw [hat'.2.1, hend]; decide +kernel
    k_steps
    refine RetE.intro (⟨l, (l, listOf vs.toArray k) :: fz⟩ : Addr × Led) F3 N3 rfl ⟨vs, k, ys, ?_, .head _, htr.mono fun _ _ h => List.Mem.tail _ h⟩ ?_ (Apart.nil_l _)
    · rw [hp, pRules, if_pos hend, Res.ok_bind, List.append_nil]
    · intro q hq; simp only [List.nil_append, List.mem_cons] at hq ⊢; grind
  · have f1 : (x'.kind != Str.ofString "end") = true := by rw [hat'.2.1]; exact bne_iff_ne.mpr hend
    k_steps
    (with_reducible rename News _ _ _ _ => nX)
    (with_reducible rename Fr _ _ _ _ => fX)
    refine Spec.use [(l, listOf vs.toArray k)] fz (expectS w p loose mean mg mb r d hrd c x' t' _ _ hlen hat' (by decide +kernel)) B fX X nX T rfl rfl rfl rfl ?_ ?_ ?_ ?_ ?_ trivial ?_ ?_
    · ktr_room
    · ktr_units
    · intro q hq; simp only [List.cons_append, List.nil_append, List.mem_cons] at hq ⊢; grind
    · exact apart2 (all_cons hrl.symm fun q hq => (hoff q hq).1) (all_cons hdl.symm fun q hq => (hoff q hq).2.1)
    · exact apart1 fun q hq => (hoff q hq).2.2
    · rintro ⟨x2, u2⟩ fz2 h3 tk3 ⟨t2, he2, hat2⟩ _ hz2 F3 N3 a1 a2
      dsimp only at F3 N3 a1 a2 ⊢
      simp only [List.cons_append, List.nil_append] at N3
      clear fX nX
      have o2 : ∀ q ∈ fz2, q.1 ≠ r ∧ q.1 ≠ d ∧ q.1 ≠ l := fun q hq => ⟨fun e => a1 _ (.head _) _ (.tail _ hq) e.symm, fun e => a1 _ (.tail _ (.head _)) _ (.tail _ hq) e.symm, fun e => a2 _ (.head _) _ hq e.symm⟩
      k_steps
      (with_reducible rename News _ _ _ _ => nX)
      (with_reducible rename Fr _ _ _ _ => fX)
      refine Spec.use [(l, listOf vs.toArray k)] fz2 (expectS w p loose mean mg mb r d hrd c x2 t2 _ _ hlen hat2 (by decide +kernel)) B fX X nX T rfl rfl rfl rfl ?_ ?_ ?_ ?_ ?_ trivial ?_ ?_
      · ktr_room
      · ktr_units
      · intro q hq; simp only [List.cons_append, List.nil_append, List.mem_cons] at hq ⊢; grind
      · exact apart2 (all_cons hrl.symm fun q hq => (o2 q hq).1) (all_cons hdl.symm fun q hq => (o2 q hq).2.1)
      · exact apart1 fun q hq => (o2 q hq).2.2
      · rintro ⟨x3, u3⟩ fz3 h4 tk4 ⟨t3, he3, hat3⟩ _ hz4 F4 N4 a3 a4
        dsimp only at F4 N4 a3 a4 ⊢
        simp only [List.cons_append, List.nil_append] at N4
        clear fX nX
        have o3 : ∀ q ∈ fz3, q.1 ≠ r ∧ q.1 ≠ d ∧ q.1 ≠ l := fun q hq => ⟨fun e => a3 _ (.head _) _ (.tail _ hq) e.symm, fun e => a3 _ (.tail _ (.head _)) _ (.tail _ hq) e.symm, fun e => a4 _ (.head _) _ hq e.symm⟩
        k_steps
        (with_reducible rename News _ _ _ _ => nX)
        (with_reducible rename Fr _ _ _ _ => fX)
        have hpa0 : pAlts N0 t3 ≠ .out := by
          rw [pRules, if_neg hend, he2, Res.ok_bind, ← ofs_eq, he3, Res.ok_bind] at hpl; exact Res.bind_ne hpl
        refine Spec.use [(l, listOf vs.toArray k)] fz3 ((parse_all w p loose mean mg mb r d hrd c hlen N0).1 t3 x3 hat3 hpa0) B fX X nX T rfl rfl rfl rfl ?_ ?_ ?_ ?_ ?_ trivial ?_ ?_
        · ktr_room
        · ktr_units
        · intro q hq; simp only [List.cons_append, List.nil_append, List.mem_cons] at hq ⊢; grind
        · exact apart2 (all_cons hrl.symm fun q hq => (o3 q hq).1) (all_cons hdl.symm fun q hq => (o3 q hq).2.1)
        · exact apart1 fun q hq => (o3 q hq).2.2
        · rintro ⟨v, x4, fz4⟩ fz5 h5 tk5 ⟨e, t4, hpa, hat4, htr2⟩ hz5 hz6 F5 N5 a5 a6
          dsimp only at F5 N5 hat4 htr2 hz5 a5 a6 ⊢
          simp only [List.cons_append, List.nil_append] at N5
          clear fX nX
          have o5 : ∀ q ∈ fz5, q.1 ≠ r ∧ q.1 ≠ d ∧ q.1 ≠ l := fun q hq => ⟨fun e => a5 _ (.head _) _ (.tail _ hq) e.symm, fun e => a5 _ (.tail _ (.head _)) _ (.tail _ hq) e.symm, fun e => a6 _ (.head _) _ hq e.symm⟩
          k_steps
          rename_i T9 hT9 fX9 nX9 lT
          (with_reducible rename News _ _ _ _ => nX)
          (with_reducible rename Fr _ _ _ _ => fX)
          refine append_K (its := vs.toArray) (n := k) fX nX (.tail (Nat.ne_of_gt lT.2.2.1) (.tail hrl (.tail hdl (.head fun q hq => (o5 q hq).2.2)))) (fun h6 F6 N6 => ?_) ?_
          · clear fX nX
            k_steps
            (with_reducible rename News _ _ _ _ => nX)
            (with_reducible rename Fr _ _ _ _ => fX)
            have o6 : ∀ q ∈ (T9, TupO [.str t'.value u2, v]) :: fz5, q.1 ≠ r ∧ q.1 ≠ d ∧ q.1 ≠ l := fun q hq => by
                rcases List.mem_cons.mp hq with rfl | hq
                · exact ⟨Nat.ne_of_gt lT.1, Nat.ne_of_gt lT.2.1, Nat.ne_of_gt lT.2.2.1⟩
                · exact o5 q hq
            refine Spec.use [(l, listOf (vs.toArray.push (.ref T9)) (k + 1))] ((T9, TupO [.str t'.value u2, v]) :: fz5) (expectS w p loose mean mg mb r d hrd c x4 t4 _ _ hlen hat4 (by decide +kernel)) B fX X nX T rfl rfl rfl rfl ?_ ?_ ?_ ?_ ?_ trivial ?_ ?_
            · ktr_room
            · ktr_units
            · intro q hq; simp only [List.cons_append, List.nil_append, List.mem_cons] at hq ⊢; grind
            · exact apart2 (all_cons hrl.symm fun q hq => (o6 q hq).1) (all_cons hdl.symm fun q hq => (o6 q hq).2.1)
            · exact apart1 fun q hq => (o6 q hq).2.2
            · rintro ⟨x5, u5⟩ fz7 h7 tk7 ⟨t5, he5, hat5⟩ _ hz8 F7 N7 a7 a8
              dsimp only at F7 N7 a7 a8 ⊢
              simp only [List.cons_append, List.nil_append] at N7
              clear fX nX
              have o7 : ∀ q ∈ fz7, q.1 ≠ r ∧ q.1 ≠ d ∧ q.1 ≠ l := fun q hq => ⟨fun e => a7 _ (.head _) _ (.tail _ hq) e.symm, fun e => a7 _ (.tail _ (.head _)) _ (.tail _ hq) e.symm, fun e => a8 _ (.head _) _ hq e.symm⟩
              k_steps
              refine ⟨_, _, _, _, m, rfl, F7, N7, Nat.lt_succ_self m, x5, t5, ys ++ [(t'.value, e)], vs ++ [.ref T9], k + 1, fz7, _, by rw [List.push_toArray], hat5, (htr.mono fun _ _ h => hz8 _ (List.Mem.tail _ (hz6 _ (hz4 _ (hz2 _ h))))).app (hz8 _ (List.Mem.head _)) (htr2.mono fun _ _ h => hz8 _ (List.Mem.tail _ (hz5 _ h))), o7, ?_, by rw [List.length_append, List.length_singleton]; omega, fold_same⟩
              rw [hp, pRules, if_neg hend, he2, Res.ok_bind, ← ofs_eq, he3, Res.ok_bind, hpa, Res.ok_bind, ← ofs_dot, he5, Res.ok_bind]
              cases pRules N0 m t5 <;> simp [Res.bind]
            · rintro ea wh at_ h9 tk9 gg ⟨l2, hl2, ha2⟩ fl hF up
              refine passEnd hKE B ⟨l2, ?_, ha2⟩ fl hF up
              rw [hp, pRules, if_neg hend, he2, Res.ok_bind, ← ofs_eq, he3, Res.ok_bind, hpa, Res.ok_bind, ← ofs_dot, hl2]; rfl
          · rw [List.size_toArray, htr.len, sizeLine_eq]
            omega
        · rintro ea wh at_ h9 tk9 gg ⟨l2, hl2, ha2⟩ fl hF up
          refine passEnd hKE B ⟨l2, ?_, ha2⟩ fl hF up
          rw [hp, pRules, if_neg hend, he2, Res.ok_bind, ← ofs_eq, he3, Res.ok_bind, hl2]; rfl
      · rintro ea wh at_ h9 tk9 gg ⟨l2, hl2, ha2⟩ fl hF up
        refine passEnd hKE B ⟨l2, ?_, ha2⟩ fl hF up
        rw [hp, pRules, if_neg hend, he2, Res.ok_bind, ← ofs_eq, hl2]; rfl
    · rintro ea wh at_ h9 tk9 gg ⟨l2, hl2, ha2⟩ fl hF up
      refine passEnd hKE B ⟨l2, ?_, ha2⟩ fl hF up
      rw [hp, pRules, if_neg hend, hl2]; rfl

def readR (N0 M : Nat) (src : Str) : Res (List (Str × Tree)) := (lex src.cps.toList).bind (pRules N0 M)
theorem SpecC.init {w : World} {p : Program} {loose : List Str} {mean : ExcName → Option Value} {mg mb : Str → Option Value} {f : Addr} {vs : List Value} {dd uu : Nat} {n0 : Led} {ι : Type} {N1 : ι → Led} {P : ι → Prop} {Err : Str → Int → Prop}
    {A : Around} {env : Env} {outer : List Env} {A₀ : Around} {base h₀ : Heap} {L x : Addr} {m : Str → Option Value} {s : Shared} {Q E : Value → Shared → Prop}
    (S : SpecC w p loose mean mg mb f vs dd uu n0 NoPre (fun _ : ι => .none) N1 (fun _ => []) P Err)
    (B : Below A₀ base outer h₀) (F : Fr h₀ L s.heap m) (X : (hd.heap_39 w.params).In h₀) (N : News h₀ L s.heap n0) (T : Top p loose mean mg mb h₀)
    (hh : A.handled = none) (hA : A.frames = some (env :: outer)) (hf : env.frame = some L) (hk : env.scope.kind = .function)
    (hd : A.depth + dd < recursionLimit) (hu : A.units + uu < cLine)
    (ret : ∀ i h' tk', P i → Fr h₀ L h' m → News h₀ L h' (N1 i) → Q (.ref x) { s with heap := h', toks := tk' })
    (err : ∀ e wh at_ h' tk' g, Err wh at_ → Fly w.params base (env :: outer) e wh at_ h' → Fr h₀ L g m → g.UpToSlots h' → E (.ref e) { s with heap := h', toks := tk' }) :
    codeAny (model PR w) A (.call (.ref f) ⟨vs, []⟩) (InitBack x fun r s' => match r with | .ok (.ret v) => Q v s' | .ok _ => False | .error e => E e s') s := by
  refine codeAny_mono (S A env outer A₀ base h₀ L m s [] (fun v s' => v = .none ∧ Q (.ref x) s') E ⟨B, X, T, hh, hA, hf, hk, hd, hu⟩ F (by rw [List.append_nil]; exact N) (Apart.nil_r _) trivial (fun i h' tk' hp F' N' _ _ => ?_) err) fun r s' z => ?_
  · rw [List.nil_append, List.append_nil] at N'
    exact ⟨rfl, ret i h' tk' hp F' N'⟩
  · rcases r with e | (v | _ | _ | _) <;> exact z
theorem At.start (src : Str) : At src src.cps.toList 0 := ⟨[], rfl, rfl⟩
set_option maxRecDepth 100000 in
set_option maxHeartbeats 8000000 in
theorem initC (r d : Addr) (hrd : @Ne Nat r d) (src : Str) (t : Tok) (hlen : src.length ≤ 1048576) :
    SpecC w p loose mean mg mb 74 [.ref r, .str src t] 40 240 [(r, instObj 133 d), (d, dictOf [] 0)] NoPre (fun _ : RC × RS => .none) (fun i => rdLed w.params r d i.1 i.2) (fun _ => [])
    (fun i => i.1.src = src ∧ ∃ t0, lex src.cps.toList = .ok t0 ∧ RdAt i.1 t0 i.2) (fun wh at_ => ∃ l1, lex src.cps.toList = .err wh l1 ∧ At src l1 at_) := by
  have hs0 := At.start src
  have hq9 : ∀ wh at_, (∃ l1, lex src.cps.toList = .err wh l1 ∧ At src l1 at_) → ∃ l1, lex src.cps.toList = .err wh l1 ∧ At src l1 at_ := fun _ _ h => h
  refine' SpecC.of ?k1 ?k2 ?k3 ?k4 ?_ ?d0 ?c2 ?c3 ?c4 ?c5
  (case k1 => k_is)
  (case k2 => k_is)
  (case k3 => exact fun _ => BindsTo.of_eq rfl)
  (case k4 => exact locs rfl)
  (case d0 => first | decide | omega)
  (case c2 => exact rfl)
  (case c3 => exact rfl)
  (case c4 => exact rfl)
  (case c5 => decide)
  k_whole
  intro dp un gd env outer base g L' h₁ s St tk KQ KE hd hu B F N X T hlt hpre hst hKQ hKE hKP
  (try dsimp only at hlt hpre)
  (try k_fold)
  replace F : Fr g L' h₁ (fun y => List.lookup y [(Str.ofString "source", .str src t), (Str.ofString "self", .ref r)]) := F
  k_steps
  obtain ⟨t0, hl0, hat0⟩ := hP'
  exact RetE.intro0 ((⟨_, _, _, _, _, _, _⟩ : RC), i') (by k_asm) N' rfl ⟨rfl, t0, hl0, hat0⟩ rfl

set_option maxRecDepth 100000 in
set_option maxHeartbeats 8000000 in
theorem makes133 : makesIn (hd.heap_39 w.params) 133 = true := by k_is
set_option maxRecDepth 100000 in
set_option maxHeartbeats 8000000 in
theorem init133 : findIn (hd.heap_39 w.params) (.ref 133) "__init__" = some (some (.ref 74)) := by k_is
set_option maxRecDepth 100000 in
set_option maxHeartbeats 8000000 in
theorem isfn74 : isFn (hd.heap_39 w.params) (.ref 74) = true := by k_is

set_option maxRecDepth 100000 in
set_option maxHeartbeats 8000000 in
theorem readS (src : Str) (t : Tok) (hlen : src.length ≤ 1048576) (N0 M : Nat) (hM : M ≤ 100000) (hne : readR N0 M src ≠ .out) :
    Spec w p loose mean mg mb 144 [.str src t] (3 * N0 + 100) (12 * N0 + 400) [] NoPre (fun i : Addr × Led => .ref i.1) (fun _ => []) (fun i => i.2)
    (fun i => ∃ vs k l, readR N0 M src = .ok l ∧ (i.1, listOf (List.toArray vs) k) ∈ i.2 ∧ RowsAt (fun a o => (a, o) ∈ i.2) vs l) (fun wh at_ => ∃ l1, readR N0 M src = .err wh l1 ∧ At src l1 at_) := by
  k_extra "sp_open"
  replace F : Fr g L' h₁ (fun y => List.lookup y [(Str.ofString "source", .str src t)]) := F
  k_steps
  refine call_cls F X N (makes133 w) (init133 w) (isfn74 w) (fun r d h2 F2 N2 _ hlt2 => ?_)
  have hrd : @Ne Nat r d := Nat.ne_of_gt hlt2
  refine SpecC.init (initC w p loose mean mg mb r d hrd src t hlen) B F2 X N2 T rfl rfl rfl rfl ?_ ?_ ?_ ?_
  · show dp + 1 + _ + 40 < _
    have : Code.weight (.builtin "type.__call__" ⟨[Value.ref 133, Value.str src t], []⟩) ≤ 2 := Nat.le_of_ble_eq_true rfl
    omega
  · show un + 3 + _ + 240 < _
    have : Code.cUnits (.builtin "type.__call__" ⟨[Value.ref 133, Value.str src t], []⟩) ≤ 4 := Nat.le_of_ble_eq_true rfl
    omega
  · rintro ⟨c, x⟩ h3 tk3 ⟨hc, t0, hl0, hat0⟩ F3 N3
    dsimp only at hc hat0 F3 N3 ⊢
    clear F2 N2
    have hr : readR N0 M src = pRules N0 M t0 := by rw [readR, hl0, Res.ok_bind]
    k_steps
    refine Spec.use [] [] (rulesS w p loose mean mg mb r d hrd c (by rw [hc]; exact hlen) N0 M hM t0 x hat0 (hr ▸ hne)) B F3 X N3 T rfl rfl rfl rfl ?_ ?_ (fun q hq => by simpa using hq) (Apart.nil_r _) (Apart.nil_r _) trivial ?_ ?_
    · ktr_room
    · ktr_units
    · rintro ⟨l, fz0⟩ fz2 h4 tk4 ⟨vs, k, l9, hpa, hm, htr⟩ hz1 hz2 F4 N4 a1 a2
      dsimp only at F4 N4 hm htr hz1 a1 a2 ⊢
      simp only [List.cons_append, List.nil_append] at N4
      clear F3 N3
      k_steps
      exact RetE.intro (⟨l, fz2⟩ : Addr × Led) F4 N4 rfl ⟨vs, k, l9, by rw [hr, hpa], hz1 _ hm, htr.mono fun _ _ h => hz1 _ h⟩ (fun q hq => by simpa using hq) (Apart.nil_l _)
    · rintro ea wh at_ h9 tk9 gg ⟨l2, hl2, ha2⟩ fl hF up
      exact passEnd hKE B ⟨l2, by rw [hr, hl2], hc ▸ ha2⟩ fl hF up
  · rintro ea wh at_ h9 tk9 gg ⟨l2, hl2, ha2⟩ fl hF up
    exact passEnd hKE B ⟨l2, by rw [readR, hl2]; rfl, ha2⟩ fl hF up

/-- the pool's state -/
structure PS where
  vs : List Value
  turn : Int
  tk : Tok
  k : Nat
  k2 : Nat
abbrev plLed (pl wl : Addr) (q : PS) : Led := [(pl, listOf #[.ref wl, .int q.turn q.tk] q.k), (wl, listOf q.vs.toArray q.k2)]
def PSok (q : PS) : Prop := (∃ ns, IntsAre q.vs ns) ∧ 0 ≤ q.turn ∧ q.turn ≤ 1000 ∧ q.vs.length ≤ 1000
set_option maxRecDepth 100000 in
set_option maxHeartbeats 8000000 in
theorem pickS (pl wl : Addr) (hpw : @Ne Nat pl wl) (q : PS) (hq : PSok q) (ways : Int) (t : Tok) (hw : 0 < ways) (hw2 : ways ≤ 1000) :
    Spec w p loose mean mg mb 184 [.ref pl, .int ways t] 4 100 (plLed pl wl q) NoPre (fun i : PS × Int × Tok => .int i.2.1 i.2.2) (fun i => plLed pl wl i.1) (fun _ => [])
    (fun i => PSok i.1 ∧ 0 ≤ i.2.1 ∧ i.2.1 < ways) NoErr := by
  obtain ⟨⟨ns, hns⟩, h0, h1, hl⟩ := hq
  obtain ⟨vs, turn, tk0, k, k2⟩ := q
  dsimp only at hns h0 h1 hl
  k_extra "sp_open"
  replace F : Fr g L' h₁ (fun y => List.lookup y [(Str.ofString "ways", .int ways t), (Str.ofString "pool", .ref pl)]) := F
  by_cases hv : vs = []
  · subst hv
    cases hns
    k_steps
    · rename_i hpos _ _ _ _ _ F9 N9
      have hz := Int.fmod_nonneg (a := (turn * 29 + 7)) (b := 997) (by omega) (by omega)
      have hz2 := Int.fmod_lt_of_pos (turn * 29 + 7) (b := 997) (by omega)
      have ht : 0 ≤ (if 1 > (turn * 29 + 7).fmod 997 then 1 else (turn * 29 + 7).fmod 997) ∧ (if 1 > (turn * 29 + 7).fmod 997 then 1 else (turn * 29 + 7).fmod 997) ≤ 1000 := by split <;> omega
      exact RetE.intro0 ((⟨[], _, _, _, _⟩ : PS), _, _) F9 (fun q hq => N9 q (List.Mem.tail _ hq)) rfl ⟨⟨⟨[], .nil⟩, ht.1, ht.2, by simp⟩, Int.fmod_nonneg ht.1 (Int.le_of_lt hw), Int.fmod_lt_of_pos _ hw⟩ rfl
    · (with_reducible rename News _ _ _ _ => N9)
      (with_reducible rename Fr _ _ _ _ => F9)
      exact RetE.intro0 ((⟨[], turn, tk0, k, k2⟩ : PS), _, _) F9 (fun q hq => N9 q (List.Mem.tail _ hq)) rfl ⟨⟨⟨[], .nil⟩, h0, h1, by simp⟩, Int.fmod_nonneg h0 (Int.le_of_lt hw), Int.fmod_lt_of_pos _ hw⟩ rfl
  · have hne : (!decide (ns = [])) = true := by
      cases hns with
      | nil => exact absurd rfl hv
      | cons _ _ _ => simp
    have hvl : 0 < vs.length := List.length_pos_iff.mpr hv
    k_steps
    (with_reducible rename News _ _ _ _ => nX)
    (with_reducible rename Fr _ _ _ _ => fX)
    dsimp only
    have l1 : True := trivial
    rename_i lw
    have lw2 := lw.2
    refine kpa_pop fX nX (.tail (Nat.ne_of_gt lw2) (.tail hpw (.head fun _ h => nomatch h))) hns hvl (Nat.le_trans hl (by rw [sizeLine_eq]; decide)) (fun h9 t9 F9 N9 hi9 => ?_)
    clear fX nX
    k_steps
    (with_reducible rename News _ _ _ _ => nX)
    (with_reducible rename Fr _ _ _ _ => fX)
    exact RetE.intro0 ((⟨vs.dropLast, turn, tk0, k, _⟩ : PS), _, _) fX (fun q hq => nX q (List.Mem.tail _ hq)) rfl ⟨⟨⟨_, hi9⟩, h0, h1, by rw [List.length_dropLast]; omega⟩, Int.fmod_nonneg_of_pos _ hw, Int.fmod_lt_of_pos _ hw⟩ rfl

section
section
variable {w : World} {p : Program} {loose : List Str} {mean : ExcName → Option Value} {mg mb : Str → Option Value}
/-- a draw, the pool's cells anywhere in the ledger -/
theorem usePick {A : Around} {env : Env} {outer : List Env} {A₀ : Around} {base h₀ : Heap} {L pl wl : Addr} {m : Str → Option Value} {s : Shared} {Q E : Value → Shared → Prop} (pre : Led) {post : Led} {q : PS} {ways : Int} {t : Tok}
    (N : News h₀ L s.heap (pre ++ ((pl, listOf #[.ref wl, .int q.turn q.tk] q.k) :: (wl, listOf q.vs.toArray q.k2) :: post)))
    (hpw : @Ne Nat pl wl) (hq : PSok q) (hw : 0 < ways) (hw2 : ways ≤ 1000)
    (B : Below A₀ base outer h₀) (F : Fr h₀ L s.heap m) (X : (hd.heap_39 w.params).In h₀) (T : Top p loose mean mg mb h₀)
    (hh : A.handled = none) (hA : A.frames = some (env :: outer)) (hf : env.frame = some L) (hk : env.scope.kind = .function)
    (hd : A.depth + 4 < recursionLimit) (hu : A.units + 100 < cLine) (ap : Apart (plLed pl wl q) (pre ++ post))
    (ret : ∀ q' i ti h' tk', PSok q' → 0 ≤ i → i < ways → Fr h₀ L h' m → News h₀ L h' (pre ++ ((pl, listOf #[.ref wl, .int q'.turn q'.tk] q'.k) :: (wl, listOf q'.vs.toArray q'.k2) :: post)) → Q (.int i ti) { s with heap := h', toks := tk' }) :
    wpAny (model PR w) A (call (.ref 184) [.ref pl, .int ways t]) Q E s := by
  refine Spec.use0 (pre ++ post) (pickS w p loose mean mg mb pl wl hpw q hq ways t hw hw2) B F X N T hh hA hf hk hd hu (fun r hr => ?_) ap trivial ?_ (fun _ _ _ _ _ _ h => h.elim)
  · simp only [List.cons_append, List.nil_append, List.mem_append, List.mem_cons] at hr ⊢; grind
  · rintro ⟨q', i, ti⟩ h' tk' ⟨h1, h2, h3⟩ F' N' _
    exact ret q' i ti h' tk' h1 h2 h3 F' fun r hr => N' r (by simp only [List.cons_append, List.nil_append, List.mem_append, List.mem_cons] at hr ⊢; grind)
end
section
variable {prog : Program} {w : World} {A : Around} {E : Value → Shared → Prop} {s : Shared} {Q : Value → Shared → Prop} {a : Addr} {vs : List Value}
theorem item_at {value slice : PySem.Expr} {i : Int} {u : Tok} {v : Value} (hl : s.heap.IsList a vs.toArray) (h0 : 0 ≤ i) (hhi : i < 2 ^ 63) (hx : vs[i.toNat]? = some v) (h : Q v s)
    (hs : subscripted slice false (.ref a) (.int i u) = operate [.ref a, .int i u] (getItem (.ref a) (.int i u)) := by with_unfolding_all rfl) :
    wpAny (model prog w) A (subscriptTail value slice (.ref a) (.int i u)) Q E s :=
  tail_any hl.typeIs slot_list_getitem.lookup (wpAny_getItem_list hl h0 hhi (by simpa using hx) h) hs
/-- an item of a written list of texts, at an unknown place -/
theorem item_str {value slice : PySem.Expr} {i : Int} {u : Tok} {ss : List Str} (hl : s.heap.IsList a vs.toArray) (hs : StrsAre vs ss) (h0 : 0 ≤ i) (h1 : i < ss.length) (hhi : i < 2 ^ 63) (h : ∀ x t, x ∈ ss → Q (.str x t) s)
    (hsub : subscripted slice false (.ref a) (.int i u) = operate [.ref a, .int i u] (getItem (.ref a) (.int i u)) := by with_unfolding_all rfl) :
    wpAny (model prog w) A (subscriptTail value slice (.ref a) (.int i u)) Q E s := by
  have key : ∀ {vs : List Value} {ss : List Str}, StrsAre vs ss → ∀ k, k < ss.length → ∃ x t, vs[k]? = some (.str x t) ∧ x ∈ ss := by
    intro vs ss hs
    induction hs with
    | nil => exact fun _ h => absurd h (Nat.not_lt_zero _)
    | cons y t _ ih =>
      intro k hk
      cases k with
      | zero => exact ⟨y, t, rfl, .head _⟩
      | succ k => obtain ⟨x, t', e, hm⟩ := ih k (Nat.lt_of_succ_lt_succ hk); exact ⟨x, t', e, .tail _ hm⟩
  obtain ⟨x, t, e, hm⟩ := key hs i.toNat (by omega)
  exact item_at hl h0 hhi e (h x t hm) hsub
/-- an item of a written list of ints -/
theorem item_int {value slice : PySem.Expr} {i : Int} {u : Tok} {ss : List Int} (hl : s.heap.IsList a vs.toArray) (hs : IntsAre vs ss) (h0 : 0 ≤ i) (h1 : i < ss.length) (hhi : i < 2 ^ 63) (h : ∀ x t, x ∈ ss → Q (.int x t) s)
    (hsub : subscripted slice false (.ref a) (.int i u) = operate [.ref a, .int i u] (getItem (.ref a) (.int i u)) := by with_unfolding_all rfl) :
    wpAny (model prog w) A (subscriptTail value slice (.ref a) (.int i u)) Q E s := by
  have key : ∀ {vs : List Value} {ss : List Int}, IntsAre vs ss → ∀ k, k < ss.length → ∃ x t, vs[k]? = some (.int x t) ∧ x ∈ ss := by
    intro vs ss hs
    induction hs with
    | nil => exact fun _ h => absurd h (Nat.not_lt_zero _)
    | cons y t _ ih =>
      intro k hk
      cases k with
      | zero => exact ⟨y, t, rfl, .head _⟩
      | succ k => obtain ⟨x, t', e, hm⟩ := ih k (Nat.lt_of_succ_lt_succ hk); exact ⟨x, t', e, .tail _ hm⟩
  obtain ⟨x, t, e, hm⟩ := key hs i.toNat (by omega)
  exact item_at hl h0 hhi e (h x t hm) hsub
end
theorem int_cases4 {i : Int} (h0 : 0 ≤ i) (h1 : i < 4) : i = 0 ∨ i = 1 ∨ i = 2 ∨ i = 3 := by omega
def Blank (b : Str) : Prop := (∀ c ∈ b.cps.toList, isBl c = true) ∧ b.length ≤ 2
theorem blank0 : Blank (Str.ofString "") := ⟨by decide +kernel, by decide +kernel⟩
theorem blank1 : Blank (Str.ofString " ") := ⟨by decide +kernel, by decide +kernel⟩
theorem blank2 : Blank (Str.ofString "\n") := ⟨by decide +kernel, by decide +kernel⟩
theorem blank3 : Blank (Str.ofString "\t ") := ⟨by decide +kernel, by decide +kernel⟩
abbrev blanks : List Str := [Str.ofString "", Str.ofString " ", Str.ofString "\n", Str.ofString "\t "]
theorem blank_all {x : Str} (h : x ∈ blanks) : Blank x := by
  simp only [blanks, List.mem_cons, List.not_mem_nil, or_false] at h
  rcases h with rfl | rfl | rfl | rfl
  · exact blank0
  · exact blank1
  · exact blank2
  · exact blank3
local macro_rules | `(tactic| walk_at "subscriptTail") => `(tactic| (k_here; (with_reducible show wpAny _ _ (subscriptTail (Expr.List _ _) (Expr.Call _ _ _ _) _ _) _ _ _); refine hold ?_))
set_option maxRecDepth 100000 in
set_option maxHeartbeats 8000000 in
theorem blankS (pl wl : Addr) (hpw : @Ne Nat pl wl) (q : PS) (hq : PSok q) :
    Spec w p loose mean mg mb 196 [.ref pl] 6 110 (plLed pl wl q) NoPre (fun i : PS × Str × Tok => .str i.2.1 i.2.2) (fun i => plLed pl wl i.1) (fun _ => [])
    (fun i => PSok i.1 ∧ Blank i.2.1) NoErr := by
  k_extra "sp_open"
  replace F : Fr g L' h₁ (fun y => List.lookup y [(Str.ofString "pool", .ref pl)]) := F
  k_steps
  rename_i D hD fX nX lD
  refine Spec.use1 [_] (pickS w p loose mean mg mb pl wl hpw q hq 4 _ (by decide) (by decide)) B fX X (News.last nX) T rfl rfl rfl rfl ?_ ?_ (apartLt lD) trivial ?_ (fun _ _ _ _ _ _ h => h.elim)
  · ktr_room
  · ktr_units
  · rintro ⟨q', i, ti⟩ h2 tk2 ⟨hq', hi0, hi1⟩ F2 N2 a2
    dsimp only at hi0 hi1 hq' F2 N2 ⊢
    simp only [List.cons_append, List.nil_append] at N2
    clear fX nX
    k_steps
    refine item_str (ss := blanks) (N2.isList (by k_mem)) (.cons _ _ (.cons _ _ (.cons _ _ (.cons _ _ .nil)))) hi0 (by exact hi1) (by omega) (fun x9 t9 hx9 => ?_)
    k_steps
    (with_reducible rename News _ _ _ _ => nX)
    (with_reducible rename Fr _ _ _ _ => fX)
    refine RetE.intro0 (q', _, _) fX (fun q hq => nX q (by simp only [List.mem_cons, List.not_mem_nil, or_false] at hq ⊢; grind)) rfl ⟨hq', blank_all hx9⟩ rfl

end
section
open PyProof.Rows.LCg
variable {prog : Program} {w : World} {A : Around} {E : Value → Shared → Prop} {s : Shared} {h₀ : Heap} {L : Addr} {m : Str → Option Value} {env : Env}
/-- the turns of a comprehension by an invariant -/
theorem compInv {elt : Expr} {x : Str} {scope : Scope} {cl : List (Str × Addr)} {S : Led → Prop} {P : Nat → Value → Prop} {Fin : List Value → Led → Prop} {n : Nat}
    (J : Nat → List Value → Led → Prop)
    (turn : ∀ i ys news v I oI C oC D m₂ h tk (E' : Value → Shared → Prop), i < n → J i ys news → P i v → NsObj oC m₂ → m₂ x = some v → Fr h₀ L h m → News h₀ L h ((I, oI) :: (C, oC) :: (D, lst ys) :: news) → Off3 I C D news → ((@Ne Nat I C) ∧ (@Ne Nat I D) ∧ (@Ne Nat C D)) →
      wpAny (model prog w) A (eval elt (compEnvC scope cl C env)) (CompEnd h₀ L m { s with heap := h, toks := tk } I oI C oC D (lst ys) S (fun y news' => J (i + 1) (ys ++ [y]) news')) E' { s with heap := h, toks := tk })
    (fin : ∀ ys news, J n ys news → Fin ys news) :
    ∀ (d i : Nat) (ys : List Value) (news : Led), i + d = n → J i ys news → CompRest prog w A h₀ L m env elt x scope cl s S P Fin d i ys news
  | 0, i, ys, news, hi, hj => CompRest.zero (fin _ _ (by rw [← hi]; exact hj))
  | d + 1, i, ys, news, hi, hj => CompRest.succ fun v I oI C oC D m₂ h tk E' hP hC hx F N off ne => by
    refine wpAny_mono (turn i ys news v I oI C oC D m₂ h tk E' (by omega) hj hP hC hx F N off ne) (fun y s' hy => ?_) fun _ _ e => e
    obtain ⟨h', tk', news', e, F', N', off', hS, r⟩ := hy
    exact ⟨h', tk', news', e, F', N', off', hS, compInv J turn fin d (i + 1) _ _ (by omega) r⟩

def TupSrc (prog : Program) (w : World) (A : Around) (h₀ : Heap) (L : Addr) (m : Str → Option Value) (env : Env) (elt : Expr) (x : Str) (scope : Scope) (cl : List (Str × Addr)) (Fin : Shared → List Value → Led → Prop) (xv : Value) (s₁ : Shared) : Prop :=
  ∃ ax its news, xv = .ref ax ∧ A.handled = none ∧ Fr h₀ L s₁.heap m ∧ News h₀ L s₁.heap news ∧ h₀.IsTuple ax its ∧ its.size ≤ sizeLine ∧
    ∀ g : Heap, CompRest prog w A h₀ L m env elt x scope cl { s₁ with heap := g } (fun _ => True) (fun i v => its[i]? = some v) (Fin { s₁ with heap := g }) its.size 0 [] news
theorem ListComp_T {elt iter : Expr} {x : Str} {px : Pos} {scope : Scope} {cl : List (Str × Addr)} {pos : Pos} {Q : Value → Shared → Prop} (F₀ : Fr h₀ L s.heap m)
    (hclos : closureFor scope env = pure cl) (hcell : ∀ y ∈ scope.names, y.2 ≠ .cell) (hkind : scope.kind = .function)
    (hnames : ∀ y ∈ scope.names, y.2 = .local → scope.names.lookup y.1 = some .local) (hx : scope.names.lookup x = some .local)
    (h : wpAny (model prog w) A (eval iter env) (TupSrc prog w A h₀ L m env elt x scope cl (fun s₂ => FinE h₀ L m s₂ Q)) E s)
    (hs : ∀ x, foldedSetIterable iter env x = pure x := by intro _; rfl) :
    wpAny (model prog w) A (eval (.ListComp elt [⟨.Name x px, iter, [], 0⟩] scope pos) env) Q E s := by
  rw [eval_ListComp]
  refine wpAny_comprehension_free (use := none) rfl hs hclos hkind hnames (wpAny_mono h (fun xv s₁ h₁ => ?_) fun _ _ e => e)
  obtain ⟨ax, its, news, rfl, hh, F, N, hl₀, hsz, R⟩ := h₁
  have hl : s₁.heap.IsTuple ax its := hl₀.at (F.keep _)
  have hlt : ax < s₁.heap.objs.size := by obtain ⟨_, e, _⟩ := hl; exact Heap.lt_size e
  refine wpAny_pyIter_tuple hl ?_
  have up : ∀ b o, s₁.heap.get? b = some o → (s₁.heap.push { cls := .type "tuple_iterator", data := .fields #[.ref ax, .int 0 0] }).get? b = some o := fun b o e => Heap.get?_push_of_some _ e
  refine block_U (St := fun i h => h.IsTupleIter s₁.heap.objs.size ax i ∧ h.IsTuple ax its) (S := fun _ => True) (Walks.tuple hh s₁.heap.objs.size ax (Nat.ne_of_lt hlt) its) hsz (fun i h st => by obtain ⟨o, e, _⟩ := st.1; exact ⟨o, e⟩) ?_ hcell hkind hx ⟨⟨_, Heap.get?_push_size _ rfl, rfl, rfl⟩, hl.at (up _)⟩ (fun b hb => ?_)
    (F.keeps up) (N.grown up) (Nat.ne_of_lt F.ns.lt) (next_is_new F) (fun p hp => Nat.ne_of_lt (Heap.lt_size (N p hp).1)) trivial (R _) ?_
  · intro i h h' o nw st e e' k _ _
    exact ⟨by obtain ⟨o', q, r⟩ := st.1; rw [e] at q; cases q; exact ⟨o, e', r⟩, hl₀.at (k _)⟩
  · show b < (s₁.heap.push _).objs.size
    rw [Heap.size_push]
    rcases List.mem_cons.mp hb with rfl | hb
    · exact Nat.lt_succ_self _
    · rw [List.mem_singleton.mp hb]; exact Nat.lt_succ_of_lt hlt
  · intro D C h tk m' ys news' F' N' o1 hn hC₀ hD₀ hCL hDL hCD offC fin
    refine ⟨m', hn, fun h'' hs'' => fin D h'' tk (F'.change hs'' hCL hC₀) (fun p hp => ?_) o1⟩
    refine ⟨hs''.extBut _ _ ?_ (N' p hp).1, (N' p hp).2⟩
    rcases List.mem_cons.mp hp with rfl | hp
    · exact Ne.symm hCD
    · exact offC p hp
end

abbrev leafNames : List Str := [Str.ofString "a", Str.ofString "b2", Str.ofString "Stat"]
abbrev leafTexts : List Str := [Str.ofString "IF", Str.ofString ":=", Str.ofString "'", Str.ofString "\"", Str.ofString "", Str.ofString "a b", Str.ofString "."]
def Leaf (t : Tree) : Prop := (∃ s, t = .name s ∧ s ∈ leafNames) ∨ ∃ s, t = .text s ∧ s ∈ leafTexts
/-- what the law draws, k levels at most behind it -/
def Good : Nat → Tree → Prop
  | 0, t => Leaf t
  | k + 1, t => Leaf t ∨ (∃ l, t = .seq l ∧ (l.length = 0 ∨ l.length = 2 ∨ l.length = 3) ∧ ∀ e ∈ l, Good k e) ∨ (∃ l, t = .alt l ∧ (l.length = 2 ∨ l.length = 3) ∧ ∀ e ∈ l, Good k e) ∨ (∃ e, t = .opt e ∧ Good k e) ∨ ∃ e, t = .rep e ∧ Good k e
theorem leafGood {t : Tree} (h : Leaf t) : ∀ {k : Nat}, Good k t
  | 0 => h
  | _ + 1 => .inl h
abbrev spCell (sl : Addr) (n : Int) (tk : Tok) (k : Nat) : Addr × Obj := (sl, listOf #[.int n tk] k)
structure TS where
  q : PS
  n : Int
  tk : Tok
  k : Nat
abbrev trLed (pl wl sl : Addr) (x : TS) : Led := [(pl, listOf #[.ref wl, .int x.q.turn x.q.tk] x.q.k), (wl, listOf x.q.vs.toArray x.q.k2), spCell sl x.n x.tk x.k]
theorem apart3 {p1 p2 p3 : Addr × Obj} {b : Led} (h1 : ∀ q ∈ b, q.1 ≠ p1.1) (h2 : ∀ q ∈ b, q.1 ≠ p2.1) (h3 : ∀ q ∈ b, q.1 ≠ p3.1) : Apart [p1, p2, p3] b := by
  intro q hq q' hq' e
  rcases List.mem_cons.mp hq with rfl | hq
  · exact h1 q' hq' e.symm
  · exact apart2 h2 h3 q hq q' hq' e
theorem News.rest {h₀ h : Heap} {L : Addr} {p : Addr × Obj} {l : Led} (N : News h₀ L h (p :: l)) : News h₀ L h l := fun q hq => N q (.tail _ hq)
theorem Apart.sub {a b c d : Led} (h : Apart a b) (hc : ∀ q ∈ c, q ∈ a) (hd : ∀ q ∈ d, q ∈ b) : Apart c d := fun q hq r hr => h q (hc q hq) r (hd r hr)
theorem offCls {h : Heap} {p q : Addr × Obj} (h1 : h.get? p.1 = some p.2) (h2 : h.get? q.1 = some q.2) (c1 : p.2.cls = .type "list") (c2 : q.2.cls = .type "tuple") : p.1 ≠ q.1 := fun e => by
  rw [e, h2] at h1
  rw [← Option.some.inj h1, c2] at c1; exact absurd c1 (by decide)
theorem trCls {pl wl sl : Addr} {x : TS} : ∀ q ∈ trLed pl wl sl x, q.2.cls = .type "list" := fun q hq => by
  rcases List.mem_cons.mp hq with rfl | hq
  · rfl
  rcases List.mem_cons.mp hq with rfl | hq
  · rfl
  rw [List.mem_singleton.mp hq]
theorem retT {g : Heap} {s : Shared} {pl wl sl : Addr} {x' : TS} {v : Value} {Pp : TS × Value × Led → Prop} {h' : Heap} {tk' : Nat} {L' : Addr} {m' : Str → Option Value} {led : Led} (new fz : Led)
    (F : Fr g L' h' m') (N : News g L' h' led) (hP : Pp (x', v, new ++ fz)) (hin : ∀ q ∈ trLed pl wl sl x' ++ (new ++ fz), q ∈ led)
    (hnew : ∀ q ∈ new, q.2.cls = .type "tuple") (hoff : Apart (trLed pl wl sl x') fz) :
    RetE g s (fun i : TS × Value × Led => i.2.1) (fun i => trLed pl wl sl i.1) (fun i => i.2.2) Pp v { s with heap := h', toks := tk' } := by
  refine RetE.intro (x', v, new ++ fz) F N rfl hP hin (fun q hq r hr => ?_)
  rcases List.mem_append.mp hr with hr1 | hr1
  · exact offCls (N q (hin q (List.mem_append_left _ hq))).1 (N r (hin r (List.mem_append_right _ hr))).1 (trCls q hq) (hnew r hr1)
  · exact hoff q hq r hr1
theorem retT2 {g : Heap} {s : Shared} {pl wl sl : Addr} {x' : TS} {Pp : TS × Value × Led → Prop} {h' : Heap} {tk' : Nat} {L' : Addr} {m' : Str → Option Value} {D2 D1 : Addr} {tg : Str} {t1 : Tok} {vs : List Value} {tmp : Led} (fz : Led)
    (F : Fr g L' h' m') (N : News g L' h' ((D2, TupO [.str tg t1, .ref D1]) :: (D1, TupO vs) :: tmp)) (hP : Pp (x', .ref D2, (D2, TupO [.str tg t1, .ref D1]) :: (D1, TupO vs) :: fz)) (hin : ∀ q ∈ trLed pl wl sl x' ++ fz, q ∈ tmp)
    (hoff : Apart (trLed pl wl sl x') fz) :
    RetE g s (fun i : TS × Value × Led => i.2.1) (fun i => trLed pl wl sl i.1) (fun i => i.2.2) Pp (.ref D2) { s with heap := h', toks := tk' } :=
  retT [_, _] fz F N hP (fun q hq => by
    have hin' := hin q
    simp only [List.cons_append, List.nil_append, List.mem_cons] at hin' hq ⊢
    grind) (fun q hq => by
    rcases List.mem_cons.mp hq with rfl | hq
    · rfl
    rw [List.mem_singleton.mp hq]) hoff
theorem retT1 {g : Heap} {s : Shared} {pl wl sl : Addr} {x' : TS} {Pp : TS × Value × Led → Prop} {h' : Heap} {tk' : Nat} {L' : Addr} {m' : Str → Option Value} {D2 : Addr} {vs : List Value} {tmp : Led} (fz : Led)
    (F : Fr g L' h' m') (N : News g L' h' ((D2, TupO vs) :: tmp)) (hP : Pp (x', .ref D2, (D2, TupO vs) :: fz)) (hin : ∀ q ∈ trLed pl wl sl x' ++ fz, q ∈ tmp)
    (hoff : Apart (trLed pl wl sl x') fz) :
    RetE g s (fun i : TS × Value × Led => i.2.1) (fun i => trLed pl wl sl i.1) (fun i => i.2.2) Pp (.ref D2) { s with heap := h', toks := tk' } :=
  retT [_] fz F N hP (fun q hq => by
    have hin' := hin q
    simp only [List.cons_append, List.nil_append, List.mem_cons] at hin' hq ⊢
    grind) (fun q hq => by rw [List.mem_singleton.mp hq]) hoff
theorem Apart.app {a b c : Led} (h1 : Apart a b) (h2 : Apart a c) : Apart a (b ++ c) := fun q hq r hr => (List.mem_append.mp hr).elim (h1 q hq r) (h2 q hq r)
theorem retLeaf {g : Heap} {s : Shared} {pl wl sl : Addr} (x' : TS) {h' : Heap} {tk' : Nat} {L' : Addr} {m' : Str → Option Value} {D2 : Addr} {vs : List Value} {p1 p2 p3 p4 : Addr × Obj} {k : Nat} (e : Tree)
    (F : Fr g L' h' m') (N : News g L' h' ((D2, TupO vs) :: p1 :: p2 :: p3 :: p4 :: trLed pl wl sl x')) (hq : PSok x'.q) (he : Leaf e) (ht : TreeAt (fun a o => (a, o) ∈ [(D2, TupO vs)]) (.ref D2) e) :
    RetE g s (fun i : TS × Value × Led => i.2.1) (fun i => trLed pl wl sl i.1) (fun i => i.2.2) (fun i => PSok i.1.q ∧ ∃ e, Good k e ∧ TreeAt (fun a o => (a, o) ∈ i.2.2) i.2.1 e) (.ref D2) { s with heap := h', toks := tk' } :=
  retT1 (x' := x') [] F N ⟨hq, e, leafGood he, ht⟩ (fun q hq => List.Mem.tail _ (List.Mem.tail _ (List.Mem.tail _ (List.Mem.tail _ (by rw [List.append_nil] at hq; exact hq))))) (Apart.nil_r _)
theorem trRot {h₀ h : Heap} {L pl wl sl : Addr} {a b c d : Addr × Obj} {q : PS} {n : Int} {tk : Tok} {k : Nat} (N : News h₀ L h (a :: b :: c :: d :: trLed pl wl sl ⟨q, n, tk, k⟩)) : ∃ x : TS, x.q = q ∧ News h₀ L h (trLed pl wl sl x ++ ([a, b, c, d] ++ [])) :=
  ⟨⟨q, n, tk, k⟩, rfl, fun r hr => N r (by simp only [List.cons_append, List.nil_append, List.append_nil, List.mem_cons, List.not_mem_nil, or_false] at hr ⊢; grind)⟩
theorem cells3 {a b c : Addr × Obj} {l : Led} : ∀ q ∈ [a, b, c], q ∈ a :: b :: c :: l := fun q hq => by
  rcases List.mem_cons.mp hq with rfl | hq
  · exact .head _
  rcases List.mem_cons.mp hq with rfl | hq
  · exact .tail _ (.head _)
  rw [List.mem_singleton.mp hq]; exact .tail _ (.tail _ (.head _))
theorem of6 {a b1 b2 b3 b4 b5 b6 : Addr} {o1 o2 o3 o4 o5 o6 : Obj} (h1 : @Ne Nat b1 a) (h2 : @Ne Nat b2 a) (h3 : @Ne Nat b3 a) (h4 : @Ne Nat b4 a) (h5 : @Ne Nat b5 a) (h6 : @Ne Nat b6 a) :
    ∀ q ∈ [(b1, o1), (b2, o2), (b3, o3), (b4, o4), (b5, o5), (b6, o6)], q.1 ≠ a :=
  all_cons h1 (all_cons h2 (all_cons h3 (all_cons h4 (all_cons h5 (all_cons h6 fun _ h => nomatch h)))))
theorem offApart {I C D : Addr} {oI oC oD : Obj} {cs fz : Led} (h1 : ∀ q ∈ fz, q.1 ≠ I ∧ q.1 ≠ C ∧ q.1 ≠ D) (h2 : Apart cs fz) : Apart ((I, oI) :: (C, oC) :: (D, oD) :: cs) fz := fun q hq r hr e => by
  rcases List.mem_cons.mp hq with rfl | hq
  · exact (h1 r hr).1 e.symm
  rcases List.mem_cons.mp hq with rfl | hq
  · exact (h1 r hr).2.1 e.symm
  rcases List.mem_cons.mp hq with rfl | hq
  · exact (h1 r hr).2.2 e.symm
  exact h2 q hq r hr e
def TrJ (cells : Led) (pl wl sl : Addr) (k : Nat) (i : Nat) (ys : List Value) (news : Led) : Prop :=
  ∃ (x : TS) (fz : Led) (ts : List Tree), news = cells ++ (trLed pl wl sl x ++ fz) ∧ PSok x.q ∧ TreesAt (fun a o => (a, o) ∈ fz) ys ts ∧ (∀ e ∈ ts, Good k e) ∧ ts.length = i ∧ Apart (cells ++ trLed pl wl sl x) fz
section
local macro_rules | `(tactic| walk_at "subscriptTail") => `(tactic| (k_here; (with_reducible show wpAny _ _ (subscriptTail (Expr.List _ _) (Expr.Call _ _ _ _) _ _) _ _ _); refine hold ?_))
/-- the contract of the law's tree at a depth -/
abbrev TreeSpec (w : World) (p : Program) (loose : List Str) (mean : ExcName → Option Value) (mg mb : Str → Option Value) (pl wl sl : Addr) (x : TS) (k : Nat) (t : Tok) : Prop :=
  Spec w p loose mean mg mb 189 [.ref pl, .ref sl, .int (4 - k : Int) t] (6 * k + 10) (30 * k + 130) (trLed pl wl sl x) NoPre (fun i : TS × Value × Led => i.2.1) (fun i => trLed pl wl sl i.1) (fun i => i.2.2)
    (fun i => PSok i.1.q ∧ ∃ e, Good k e ∧ TreeAt (fun a o => (a, o) ∈ i.2.2) i.2.1 e) NoErr
set_option maxRecDepth 100000 in
set_option maxHeartbeats 8000000 in
theorem treeS (pl wl sl : Addr) (hpw : @Ne Nat pl wl) (hps : @Ne Nat pl sl) (hws : @Ne Nat wl sl) (k : Nat)
    (IH : ∀ m, m < k → ∀ (x : TS) (t : Tok), PSok x.q → TreeSpec w p loose mean mg mb pl wl sl x m t)
    (x : TS) (t : Tok) (hq : PSok x.q) : TreeSpec w p loose mean mg mb pl wl sl x k t := by
  obtain ⟨q, n, tk0, k0⟩ := x
  dsimp only at hq
  k_with "leafEnd" => (
    (with_reducible rename News _ _ _ _ => nX)
    (with_reducible rename Fr _ _ _ _ => fX)
    exact retLeaf ⟨q2, _, _, _⟩ _ fX nX hq2 (.inl ⟨_, rfl, hs9⟩) (.name (.head _)))
  k_with "leafEnd2" => (
    (with_reducible rename News _ _ _ _ => nX)
    (with_reducible rename Fr _ _ _ _ => fX)
    exact retLeaf ⟨q2, _, _, _⟩ _ fX nX hq2 (.inr ⟨_, rfl, hs9⟩) (.text (.head _)))
  k_with "treeTurn" => (
    rintro i ys news v I oI C oC D m₂ h tk E' hi ⟨⟨q', n', tk', kk⟩, fz, ts, rfl, hq', hts, hg, hlen, hap⟩ hv hC hx F' N' off ne
    dsimp only at hq' N'
    simp only [List.cons_append, List.nil_append] at N' off hap
    k_steps
    have e4 : (4 - ((k' + 1 : Nat) : Int) + 1) = 4 - (k' : Int) := by omega
    rw [e4]
    have offm := off.mem
    refine Spec.use [(I, oI), (C, oC), (D, LCg.lst ys), (L' + 1 + 1 + 1, o1), (L' + 1 + 1, o2), (L' + 1, o3)] fz (IH' ⟨q', n', tk', kk⟩ _ hq') B F' X N' T rfl rfl rfl rfl ?_ ?_ ?_ ?_ ?_ trivial ?_ (fun _ _ _ _ _ _ h => h.elim)
    · ktr_room
    · ktr_units
    · intro q hq; simp only [List.cons_append, List.nil_append, List.mem_cons] at hq ⊢; grind
    · have hb := hap.sub (c := trLed pl wl sl ⟨q', n', tk', kk⟩) (fun q hq => List.Mem.tail _ (List.Mem.tail _ (List.Mem.tail _ hq))) fun _ h => h
      refine Apart.app (b := [(I, oI), (C, oC), (D, LCg.lst ys), (L' + 1 + 1 + 1, o1), (L' + 1 + 1, o2), (L' + 1, o3)]) ?_ hb
      have b1 := off.2.2.2.1
      have c1 : @Ne Nat (L' + 1 + 1 + 1) sl := by omega
      have c2 : @Ne Nat (L' + 1 + 1) sl := by omega
      have c3 : @Ne Nat (L' + 1) sl := by omega
      have b2 := off.2.2.2.2.1
      have b3 := off.2.2.2.2.2.1
      exact apart3 (of6 b1.1.symm b1.2.1.symm b1.2.2.symm (by omega) (by omega) (by omega)) (of6 b2.1.symm b2.2.1.symm b2.2.2.symm (by omega) (by omega) (by omega)) (of6 b3.1.symm b3.2.1.symm b3.2.2.symm c1 c2 c3)
    · have hb := hap.sub (c := [(L' + 1 + 1 + 1, o1), (L' + 1 + 1, o2), (L' + 1, o3)]) cells3 fun _ h => h
      exact offApart (fun q hq => (LCg.Off3.mem off q (.tail _ (.tail _ (.tail _ (.tail _ (.tail _ (.tail _ hq)))))))) hb
    · rintro ⟨⟨q4, n4, tq4, kk4⟩, v4, fz4⟩ fz5 h4 tk4 ⟨hq4, e, he, hte⟩ hz1 hz2 F4 N4 a4 a5
      dsimp only at hq4 he hte hz1 F4 N4 a4 a5 ⊢
      refine LCg.CompEnd.intro F4 N4 ((L' + 1 + 1 + 1, o1) :: (L' + 1 + 1, o2) :: (L' + 1, o3) :: (trLed pl wl sl ⟨q4, n4, tq4, kk4⟩ ++ fz5)) ?_ ?_ trivial ⟨⟨q4, n4, tq4, kk4⟩, fz5, ts ++ [e], rfl, hq4, (hts.mono fun _ _ h => hz2 _ h).app (hte.mono fun _ _ h => hz1 _ h), ?_, ?_, ?_⟩
      · intro q hq; simp only [List.cons_append, List.nil_append, List.mem_cons] at hq ⊢; grind
      · refine ⟨off.1, off.2.1, off.2.2.1, off.2.2.2.1, off.2.2.2.2.1, off.2.2.2.2.2.1, LCg.Off3.of fun q hq => ⟨fun e => a5 _ (.head _) _ hq e.symm, fun e => a5 _ (.tail _ (.head _)) _ hq e.symm, fun e => a5 _ (.tail _ (.tail _ (.head _))) _ hq e.symm⟩⟩
      · intro e' he'
        rcases List.mem_append.mp he' with h | h
        · exact hg _ h
        · rw [List.mem_singleton.mp h]; exact he
      · rw [List.length_append, List.length_singleton, hlen]
      · intro q hq r hr
        simp only [List.cons_append, List.nil_append, List.mem_cons, List.not_mem_nil, or_false] at hq
        rcases hq with h | h | h | h
        · exact a5 q (by simp [h]) r hr
        · exact a5 q (by simp [h]) r hr
        · exact a5 q (by simp [h]) r hr
        · exact a4 q (by simpa using h) r (by simp [hr]))
  k_with "treeFinSeq" => (
    rintro ys news ⟨⟨q', n', tk', kk⟩, fz, ts, rfl, hq', hts, hg, hlen, hap⟩
    unfold LCg.FinE
    intro D9 h9 tk9 F9 N9 o9
    dsimp only at hq' N9
    simp only [List.cons_append, List.nil_append] at N9 hap
    have hle := hts.len
    k_steps
    (with_reducible rename News _ _ _ _ => nX)
    (with_reducible rename Fr _ _ _ _ => fX)
    refine retT2 fz fX nX ⟨hq', _, .inr (.inl ⟨ts, rfl, by omega, hg⟩), .seq (.head _) (.tail _ (.head _)) (hts.mono fun _ _ h => List.Mem.tail _ (List.Mem.tail _ h))⟩ ?_ (hap.sub (fun q hq => List.Mem.tail _ (List.Mem.tail _ (List.Mem.tail _ hq))) fun _ h => h)
    intro q hq; simp only [List.cons_append, List.nil_append, List.mem_cons] at hq ⊢; grind)
  k_with "treeFinAlt" => (
    rintro ys news ⟨⟨q', n', tk', kk⟩, fz, ts, rfl, hq', hts, hg, hlen, hap⟩
    unfold LCg.FinE
    intro D9 h9 tk9 F9 N9 o9
    dsimp only at hq' N9
    simp only [List.cons_append, List.nil_append] at N9 hap
    have hle := hts.len
    k_steps
    (with_reducible rename News _ _ _ _ => nX)
    (with_reducible rename Fr _ _ _ _ => fX)
    refine retT2 fz fX nX ⟨hq', _, .inr (.inr (.inl ⟨ts, rfl, by omega, hg⟩)), .alt (.head _) (.tail _ (.head _)) (hts.mono fun _ _ h => List.Mem.tail _ (List.Mem.tail _ h))⟩ ?_ (hap.sub (fun q hq => List.Mem.tail _ (List.Mem.tail _ (List.Mem.tail _ hq))) fun _ h => h)
    intro q hq; simp only [List.cons_append, List.nil_append, List.mem_cons] at hq ⊢; grind)
  k_with "leafName" => (
      k_steps
      (with_reducible rename News _ _ _ _ => nX)
      (with_reducible rename Fr _ _ _ _ => fX)
      refine usePick [_, _, _, _] nX hpw hq1 (by decide) (by decide) B fX X T rfl rfl rfl rfl ?_ ?_ ?_ ?_
      · ktr_room
      · ktr_units
      · k_extra "apt"
      · intro q2 i2 t2 h3 tk3 hq2 hj0 hj1 F3 N3
        simp only [List.cons_append, List.nil_append] at N3
        clear nX fX
        k_steps
        refine item_str (ss := leafNames) (N3.isList (by k_mem)) (.cons _ _ (.cons _ _ (.cons _ _ .nil))) hj0 (by exact hj1) (by omega) (fun s9 t9 hs9 => ?_)
        k_steps
        k_extra "leafEnd")
  k_with "leafText" => (
      k_steps
      (with_reducible rename News _ _ _ _ => nX)
      (with_reducible rename Fr _ _ _ _ => fX)
      refine usePick [_, _, _, _] nX hpw hq1 (by decide) (by decide) B fX X T rfl rfl rfl rfl ?_ ?_ ?_ ?_
      · ktr_room
      · ktr_units
      · k_extra "apt"
      · intro q2 i2 t2 h3 tk3 hq2 hj0 hj1 F3 N3
        simp only [List.cons_append, List.nil_append] at N3
        clear nX fX
        k_steps
        refine item_str (ss := leafTexts) (N3.isList (by k_mem)) (.cons _ _ (.cons _ _ (.cons _ _ (.cons _ _ (.cons _ _ (.cons _ _ (.cons _ _ .nil))))))) hj0 (by exact hj1) (by omega) (fun s9 t9 hs9 => ?_)
        k_steps
        k_extra "leafEnd2")
  k_with "seqCase" => (
      k_steps
      (with_reducible rename News _ _ _ _ => nX)
      (with_reducible rename Fr _ _ _ _ => fX)
      refine usePick [_, _, _, _] nX hpw hq1 (by decide) (by decide) B fX X T rfl rfl rfl rfl ?_ ?_ ?_ ?_
      · ktr_room
      · ktr_units
      · k_extra "apt"
      · intro q2 i2 t2 h3 tk3 hq2 hj0 hj1 F3 N3
        simp only [List.cons_append, List.nil_append] at N3
        clear nX fX
        obtain ⟨k', rfl⟩ : ∃ k', k = k' + 1 := ⟨k - 1, by omega⟩
        have IH' := IH k' (Nat.lt_succ_self k')
        k_steps
        refine item_int (ss := [2, 3, 0]) (N3.isList (by k_mem)) (.cons _ _ (.cons _ _ (.cons _ _ .nil))) hj0 (by exact hj1) (by omega) (fun c9 t9 hc9 => ?_)
        have hc8 : c9 = 2 ∨ c9 = 3 ∨ c9 = 0 := by simpa using hc9
        clear hc9
        k_steps
        (with_reducible rename News _ _ _ _ => nX)
        (with_reducible rename Fr _ _ _ _ => fX)
        (with_reducible rename IsRange _ _ _ _ _ _ _ _ => hrng)
        refine LCg.CompSrc.range rfl fX (News.rest nX) hrng (small_one (by omega) (by omega) (by omega) (by omega)) (n := (c9 - 0).toNat) (rangeSize_nat _ _) (by rw [sizeLine_eq]; omega) (fun g' => ?_)
        clear fX nX hrng
        refine compInv (TrJ [(L' + 1 + 1 + 1, o1), (L' + 1 + 1, o2), (L' + 1, o3)] pl wl sl k') ?_ ?_ _ 0 [] _ (Nat.zero_add _) ⟨⟨q2, _, _, _⟩, [], [], rfl, hq2, .nil, (fun _ h => nomatch h), rfl, Apart.nil_r _⟩
        · k_extra "treeTurn"
        · k_extra "treeFinSeq")
  k_extra "sp_openC"
  rename_i o1 o2 o3 hd1 hd2 hd3
  have hlp : @LT.lt Nat _ pl L' := hlt _ (.head _)
  have hlw : @LT.lt Nat _ wl L' := hlt _ (.tail _ (.head _))
  have hls : @LT.lt Nat _ sl L' := hlt _ (.tail _ (.tail _ (.head _)))
  replace F : Fr g L' h₁ (fun _ => none) := F
  replace hd3 : o3.data = .cell (some (.ref pl)) := hd3
  replace hd2 : o2.data = .cell (some (.ref sl)) := hd2
  replace hd1 : o1.data = .cell (some (.int (4 - k : Int) t)) := hd1
  k_steps
  refine wpAny_getItem_list (x := .int n tk0) (News.isList N (by k_mem)) (by decide) (by decide) rfl ?_
  k_steps
  · (with_reducible rename News _ _ _ _ => nX)
    (with_reducible rename Fr _ _ _ _ => fX)
    refine usePick [_, _, _] nX hpw hq (by decide) (by decide) B fX X T rfl rfl rfl rfl ?_ ?_ ?_ ?_
    · ktr_room
    · ktr_units
    · k_extra "apt"
    · intro q1 i1 t1 h2 tk2 hq1 hi0 hi1 F2 N2
      simp only [List.cons_append, List.nil_append] at N2
      have hc : i1 = 0 ∨ i1 = 1 ∨ (1 < i1 ∧ i1 < 4) ∨ i1 = 4 ∨ i1 = 5 ∨ i1 = 6 := by omega
      rcases hc with rfl | rfl | ⟨hc1, hc2⟩ | rfl | rfl | rfl
      · k_extra "leafName"
      · k_extra "leafText"
      · have f1 : (i1 == 0) = false := beq_eq_false_iff_ne.mpr (by omega)
        have f2 : (i1 == 1) = false := beq_eq_false_iff_ne.mpr (by omega)
        k_extra "seqCase"
      · k_steps
        (with_reducible rename News _ _ _ _ => nX)
        (with_reducible rename Fr _ _ _ _ => fX)
        refine usePick [_, _, _] nX hpw hq1 (by decide) (by decide) B fX X T rfl rfl rfl rfl ?_ ?_ ?_ ?_
        · ktr_room
        · ktr_units
        · k_extra "apt"
        · intro q2 i2 t2 h3 tk3 hq2 hj0 hj1 F3 N3
          simp only [List.cons_append, List.nil_append] at N3
          clear nX fX
          obtain ⟨k', rfl⟩ : ∃ k', k = k' + 1 := ⟨k - 1, by omega⟩
          have IH' := IH k' (Nat.lt_succ_self k')
          k_steps
          (with_reducible rename News _ _ _ _ => nX)
          (with_reducible rename Fr _ _ _ _ => fX)
          (with_reducible rename IsRange _ _ _ _ _ _ _ _ => hrng)
          refine LCg.CompSrc.range rfl fX nX hrng (small_one (by omega) (by omega) (by omega) (by omega)) (n := (2 + i2 - 0).toNat) (rangeSize_nat _ _) (by rw [sizeLine_eq]; omega) (fun g' => ?_)
          clear fX nX hrng
          refine compInv (TrJ [(L' + 1 + 1 + 1, o1), (L' + 1 + 1, o2), (L' + 1, o3)] pl wl sl k') ?_ ?_ _ 0 [] _ (Nat.zero_add _) ⟨⟨q2, _, _, _⟩, [], [], rfl, hq2, .nil, (fun _ h => nomatch h), rfl, Apart.nil_r _⟩
          · k_extra "treeTurn"
          · k_extra "treeFinAlt"
      · k_steps
        obtain ⟨k', rfl⟩ : ∃ k', k = k' + 1 := ⟨k - 1, by omega⟩
        have e4 : (4 - ((k' + 1 : Nat) : Int) + 1) = 4 - (k' : Int) := by omega
        rw [e4]
        (with_reducible rename News _ _ _ _ => nX)
        (with_reducible rename Fr _ _ _ _ => fX)
        obtain ⟨x9, hx9, N9⟩ := trRot (q := q1) nX
        refine Spec.use [_, _, _, _] [] (IH k' (Nat.lt_succ_self k') x9 _ (hx9 ▸ hq1)) B fX X N9 T rfl rfl rfl rfl ?_ ?_ (fun _ h => h) ?_ (Apart.nil_r _) trivial ?_ (fun _ _ _ _ _ _ h => h.elim)
        · ktr_room
        · ktr_units
        · k_extra "apt"
        · rintro ⟨⟨q4, n4, tq4, kk4⟩, v4, fz4⟩ fz5 h4 tk4 ⟨hq4, e, he, hte⟩ hz1 hz2 F4 N4 a4 a5
          dsimp only at hq4 he hte hz1 F4 N4 a4 a5 ⊢
          simp only [List.cons_append, List.nil_append] at N4
          clear nX fX N9
          k_steps
          (with_reducible rename News _ _ _ _ => nX)
          (with_reducible rename Fr _ _ _ _ => fX)
          refine retT1 (x' := ⟨q4, n4, tq4, kk4⟩) fz5 fX nX ⟨hq4, _, .inr (.inr (.inr (.inl ⟨e, rfl, he⟩))), .opt (.head _) (hte.mono fun _ _ h => List.Mem.tail _ (hz1 _ h))⟩ ?_ (a4.sub (fun _ h => h) fun _ h => List.mem_append_right _ h)
          intro q hq; simp only [List.cons_append, List.nil_append, List.mem_cons] at hq ⊢; grind
      · k_steps
        obtain ⟨k', rfl⟩ : ∃ k', k = k' + 1 := ⟨k - 1, by omega⟩
        have e4 : (4 - ((k' + 1 : Nat) : Int) + 1) = 4 - (k' : Int) := by omega
        rw [e4]
        (with_reducible rename News _ _ _ _ => nX)
        (with_reducible rename Fr _ _ _ _ => fX)
        obtain ⟨x9, hx9, N9⟩ := trRot (q := q1) nX
        refine Spec.use [_, _, _, _] [] (IH k' (Nat.lt_succ_self k') x9 _ (hx9 ▸ hq1)) B fX X N9 T rfl rfl rfl rfl ?_ ?_ (fun _ h => h) ?_ (Apart.nil_r _) trivial ?_ (fun _ _ _ _ _ _ h => h.elim)
        · ktr_room
        · ktr_units
        · k_extra "apt"
        · rintro ⟨⟨q4, n4, tq4, kk4⟩, v4, fz4⟩ fz5 h4 tk4 ⟨hq4, e, he, hte⟩ hz1 hz2 F4 N4 a4 a5
          dsimp only at hq4 he hte hz1 F4 N4 a4 a5 ⊢
          simp only [List.cons_append, List.nil_append] at N4
          clear nX fX N9
          k_steps
          (with_reducible rename News _ _ _ _ => nX)
          (with_reducible rename Fr _ _ _ _ => fX)
          refine retT1 (x' := ⟨q4, n4, tq4, kk4⟩) fz5 fX nX ⟨hq4, _, .inr (.inr (.inr (.inr ⟨e, rfl, he⟩))), .rep (.head _) (hte.mono fun _ _ h => List.Mem.tail _ (hz1 _ h))⟩ ?_ (a4.sub (fun _ h => h) fun _ h => List.mem_append_right _ h)
          intro q hq; simp only [List.cons_append, List.nil_append, List.mem_cons] at hq ⊢; grind
  · (with_reducible rename News _ _ _ _ => nX)
    (with_reducible rename Fr _ _ _ _ => fX)
    refine usePick [_, _, _] nX hpw hq (by decide) (by decide) B fX X T rfl rfl rfl rfl ?_ ?_ ?_ ?_
    · ktr_room
    · ktr_units
    · k_extra "apt"
    · intro q1 i1 t1 h2 tk2 hq1 hi0 hi1 F2 N2
      simp only [List.cons_append, List.nil_append] at N2
      have hc : i1 = 0 ∨ i1 = 1 := by omega
      rcases hc with rfl | rfl
      · k_extra "leafName"
      · k_extra "leafText"
  · (with_reducible rename News _ _ _ _ => nX)
    (with_reducible rename Fr _ _ _ _ => fX)
    refine usePick [_, _, _] nX hpw hq (by decide) (by decide) B fX X T rfl rfl rfl rfl ?_ ?_ ?_ ?_
    · ktr_room
    · ktr_units
    · k_extra "apt"
    · intro q1 i1 t1 h2 tk2 hq1 hi0 hi1 F2 N2
      simp only [List.cons_append, List.nil_append] at N2
      have hc : i1 = 0 ∨ i1 = 1 := by omega
      rcases hc with rfl | rfl
      · k_extra "leafName"
      · k_extra "leafText"
theorem treeAll (pl wl sl : Addr) (hpw : @Ne Nat pl wl) (hps : @Ne Nat pl sl) (hws : @Ne Nat wl sl) (k : Nat) : ∀ (x : TS) (t : Tok), PSok x.q → TreeSpec w p loose mean mg mb pl wl sl x k t :=
  Nat.strongRecOn (motive := fun k => ∀ (x : TS) (t : Tok), PSok x.q → TreeSpec w p loose mean mg mb pl wl sl x k t) k fun k IH x t hq => treeS w p loose mean mg mb pl wl sl hpw hps hws k (fun m hm => IH m hm) x t hq

end
theorem Res.ok_bind2 {α β : Type} {a : α} {f : α → Res β} : (Res.ok a).bind f = f a := rfl
def OkTail (l : List Nat) : Prop := ∀ d r, l = d :: r → isNm d = false
def ReadI (f : Nat) (t : Tree) (s : List Nat) : Prop := ∀ n, f ≤ n → ∀ tail, OkTail tail → ∃ tk, lex (s ++ tail) = .ok tk ∧ starts tk.kind = true ∧ pItem n tk = (lex tail).bind fun t' => .ok (t, t')
def ReadS (f : Nat) (t : Tree) (s : List Nat) : Prop := ∀ n, f ≤ n → ∀ tail t', OkTail tail → lex tail = .ok t' → starts t'.kind = false → ∃ tk, lex (s ++ tail) = .ok tk ∧ pSeq n tk = .ok (t, t')
def ReadA (f : Nat) (t : Tree) (s : List Nat) : Prop := ∀ n, f ≤ n → ∀ tail t', OkTail tail → lex tail = .ok t' → starts t'.kind = false → t'.kind ≠ one 124 → ∃ tk, lex (s ++ tail) = .ok tk ∧ pAlts n tk = .ok (t, t')
def RIs (f : Nat) (ts : List Tree) (s : List Nat) : Prop := ∀ n, f + ts.length + 1 ≤ n → ∀ tail t', OkTail tail → lex tail = .ok t' → starts t'.kind = false → ∃ tk, lex (s ++ tail) = .ok tk ∧ pItems n tk = .ok (ts, t')
def RMs (f : Nat) (ts : List Tree) (s : List Nat) : Prop := ∀ n, f + ts.length + 1 ≤ n → ∀ tail t', OkTail tail → lex tail = .ok t' → starts t'.kind = false → t'.kind ≠ one 124 →
  ∃ tk, lex (s ++ tail) = .ok tk ∧ starts tk.kind = false ∧ pMore n tk = .ok (ts, t')
theorem ReadI.mono {f f' : Nat} {t : Tree} {s : List Nat} (h : ReadI f t s) (hf : f ≤ f') : ReadI f' t s := fun n hn => h n (Nat.le_trans hf hn)
theorem ReadS.mono {f f' : Nat} {t : Tree} {s : List Nat} (h : ReadS f t s) (hf : f ≤ f') : ReadS f' t s := fun n hn => h n (Nat.le_trans hf hn)
theorem ReadA.mono {f f' : Nat} {t : Tree} {s : List Nat} (h : ReadA f t s) (hf : f ≤ f') : ReadA f' t s := fun n hn => h n (Nat.le_trans hf hn)
def Bl (b : List Nat) : Prop := ∀ c ∈ b, isBl c = true
theorem drop_bl {b l : List Nat} (h : Bl b) : (b ++ l).dropWhile isBl = l.dropWhile isBl := by
  induction b with
  | nil => rfl
  | cons c b ih =>
    rw [List.cons_append, List.dropWhile_cons, if_pos (h c (.head _)), ih fun x hx => h x (.tail _ hx)]
theorem lex_bl {b l : List Nat} (h : Bl b) : lex (b ++ l) = lex l := by unfold lex; rw [drop_bl h]
theorem bl_nm {c : Nat} (h : isBl c = true) : isNm c = false := by
  unfold isBl at h; unfold isNm isSt
  simp only [Bool.or_eq_true, beq_iff_eq] at h
  rcases h with ((rfl | rfl) | rfl) | rfl <;> decide
theorem OkTail.cons {c : Nat} {l : List Nat} (h : isNm c = false) : OkTail (c :: l) := fun d r e => by cases e; exact h
theorem OkTail.bl {b l : List Nat} (h : Bl b) (hl : OkTail l) : OkTail (b ++ l) := by
  cases b with
  | nil => exact hl
  | cons c b => exact .cons (bl_nm (h c (.head _)))
theorem lex_mk {c : Nat} {l : List Nat} (h : isMk c = true) : lex (c :: l) = .ok ⟨c :: l, one c, one c, l⟩ := by
  have h1 : c = 61 ∨ c = 46 ∨ c = 124 ∨ c = 40 ∨ c = 41 ∨ c = 91 ∨ c = 93 ∨ c = 123 ∨ c = 125 := by
    unfold isMk at h; rw [List.contains_iff_mem] at h
    simpa using h
  rcases h1 with rfl | rfl | rfl | rfl | rfl | rfl | rfl | rfl | rfl <;> rfl
theorem nm_take {r tail : List Nat} (hr : ∀ c ∈ r, isNm c = true) (ht : OkTail tail) : (r ++ tail).takeWhile isNm = r ∧ (r ++ tail).dropWhile isNm = tail := by
  induction r with
  | nil =>
    cases tail with
    | nil => exact ⟨rfl, rfl⟩
    | cons d tail =>
      have := ht d tail rfl
      simp [List.takeWhile_cons, List.dropWhile_cons, this]
  | cons c r ih =>
    obtain ⟨h1, h2⟩ := ih fun x hx => hr x (.tail _ hx)
    have hc := hr c (.head _)
    simp [List.takeWhile_cons, List.dropWhile_cons, hc, h1, h2]
theorem st_nbl {c : Nat} (h : isSt c = true) : isBl c = false := by
  unfold isSt at h; unfold isBl
  simp only [Bool.or_eq_true, Bool.and_eq_true, decide_eq_true_eq] at h
  simp only [Bool.or_eq_false_iff, beq_eq_false_iff_ne]
  omega
theorem lex_name {c : Nat} {r tail : List Nat} (hc : isSt c = true) (hr : ∀ c ∈ r, isNm c = true) (ht : OkTail tail) : lex (c :: r ++ tail) = .ok ⟨c :: r ++ tail, sName, txt (c :: r), tail⟩ := by
  obtain ⟨h1, h2⟩ := nm_take hr ht
  unfold lex
  rw [List.cons_append, List.dropWhile_cons, st_nbl hc]
  simp only [Bool.false_eq_true, if_false, lex1, hc, if_true, h1, h2]
theorem scanQ_in {q : Nat} {v tail : List Nat} (h : ∀ c ∈ v, c ≠ q ∧ c ≠ 10) : scanQ q (v ++ q :: tail) = some (v, tail) := by
  induction v with
  | nil => simp [scanQ]
  | cons c v ih =>
    have hc := h c (.head _)
    rw [List.cons_append, scanQ, if_neg hc.1, if_neg hc.2, ih fun x hx => h x (.tail _ hx)]
    rfl
theorem lex_text {q : Nat} {v tail : List Nat} (hq : q = 34 ∨ q = 39) (h : ∀ c ∈ v, c ≠ q ∧ c ≠ 10) : lex (q :: (v ++ q :: tail)) = .ok ⟨q :: (v ++ q :: tail), sText, txt v, tail⟩ := by
  have e := scanQ_in (q := q) (tail := tail) h
  rcases hq with rfl | rfl
  · show lex1 (34 :: (v ++ 34 :: tail)) = _
    rw [lex1, if_neg (by decide), if_pos (.inl rfl), e]
  · show lex1 (39 :: (v ++ 39 :: tail)) = _
    rw [lex1, if_neg (by decide), if_pos (.inr rfl), e]
theorem ri_name {c : Nat} {r : List Nat} (hc : isSt c = true) (hr : ∀ c ∈ r, isNm c = true) : ReadI 1 (.name (txt (c :: r))) (c :: r) := by
  intro n hn tail ht
  obtain ⟨n, rfl⟩ : ∃ m, n = m + 1 := ⟨n - 1, by omega⟩
  refine ⟨_, lex_name hc hr ht, (show starts sName = true by decide), ?_⟩
  rw [pItem]; simp only [if_true]
theorem ri_text {q : Nat} {v : List Nat} (hq : q = 34 ∨ q = 39) (h : ∀ c ∈ v, c ≠ q ∧ c ≠ 10) : ReadI 1 (.text (txt v)) (q :: (v ++ [q])) := by
  intro n hn tail ht
  obtain ⟨n, rfl⟩ : ∃ m, n = m + 1 := ⟨n - 1, by omega⟩
  refine ⟨_, (by rw [List.cons_append, List.append_assoc]; exact lex_text hq h), (show starts sText = true by decide), ?_⟩
  rw [pItem]
  simp only [show ((sText : Str) = sName) = False from eq_false (by decide), if_true, if_false]
  rfl
def brk (o : Nat) (t : Tree) : Tree := if o = 40 then t else if o = 91 then .opt t else .rep t
theorem ri_brk {o cl f : Nat} {t : Tree} {b1 b2 s : List Nat} (ho : (o = 40 ∧ cl = 41) ∨ (o = 91 ∧ cl = 93) ∨ (o = 123 ∧ cl = 125)) (h1 : Bl b1) (h2 : Bl b2) (h : ReadA f t s) : ReadI (f + 1) (brk o t) (o :: (b1 ++ (s ++ (b2 ++ [cl])))) := by
  intro n hn tail ht
  obtain ⟨n, rfl⟩ : ∃ m, n = m + 1 := ⟨n - 1, by omega⟩
  have hmk : isMk cl = true := by rcases ho with ⟨_, rfl⟩ | ⟨_, rfl⟩ | ⟨_, rfl⟩ <;> decide
  have hmo : isMk o = true := by rcases ho with ⟨rfl, _⟩ | ⟨rfl, _⟩ | ⟨rfl, _⟩ <;> decide
  have hnm : isNm cl = false := by rcases ho with ⟨_, rfl⟩ | ⟨_, rfl⟩ | ⟨_, rfl⟩ <;> decide
  have hst : starts (one cl) = false := by rcases ho with ⟨_, rfl⟩ | ⟨_, rfl⟩ | ⟨_, rfl⟩ <;> decide
  have hso : starts (one o) = true := by rcases ho with ⟨rfl, _⟩ | ⟨rfl, _⟩ | ⟨rfl, _⟩ <;> decide
  have hba : one cl ≠ one 124 := by rcases ho with ⟨_, rfl⟩ | ⟨_, rfl⟩ | ⟨_, rfl⟩ <;> decide
  obtain ⟨tk, e1, e2⟩ := h n (by omega) (b2 ++ cl :: tail) _ (.bl h2 (.cons hnm)) ((lex_bl h2).trans (lex_mk hmk)) hst hba
  refine ⟨_, (by rw [List.cons_append]; exact lex_mk hmo), hso, ?_⟩
  have e3 : b1 ++ (s ++ (b2 ++ [cl])) ++ tail = b1 ++ (s ++ (b2 ++ cl :: tail)) := by simp
  rw [pItem, e3, lex_bl h1, e1, Res.ok_bind2, e2]
  rcases ho with ⟨rfl, rfl⟩ | ⟨rfl, rfl⟩ | ⟨rfl, rfl⟩
  all_goals
    rw [if_neg (by dsimp only; decide), if_neg (by dsimp only; decide), Res.ok_bind2]
    simp only [one_eq_iff, brk, expectR]
    cases lex tail <;> simp [Res.bind, expectR, one_eq_iff]
theorem rs_item {f : Nat} {t : Tree} {s : List Nat} (hf : 1 ≤ f) (h : ReadI f t s) : ReadS (f + 2) t s := by
  intro n hn tail t' ht hl hs
  obtain ⟨n, rfl⟩ : ∃ m, n = m + 3 := ⟨n - 3, by omega⟩
  obtain ⟨tk, e1, e2, e3⟩ := h (n + 1) (by omega) tail ht
  refine ⟨tk, e1, ?_⟩
  rw [pSeq, pItems, if_pos e2, e3, hl, Res.ok_bind2, Res.ok_bind2, pItems, if_neg (by rw [hs]; exact Bool.false_ne_true)]
  rfl
theorem ra_seq {f : Nat} {t : Tree} {s : List Nat} (hf : 1 ≤ f) (h : ReadS f t s) : ReadA (f + 1) t s := by
  intro n hn tail t' ht hl hs hb
  obtain ⟨n, rfl⟩ : ∃ m, n = m + 2 := ⟨n - 2, by omega⟩
  obtain ⟨tk, e1, e2⟩ := h (n + 1) (by omega) tail t' ht hl hs
  refine ⟨tk, e1, ?_⟩
  rw [pAlts, e2, Res.ok_bind2, pMore, if_neg hb]
  rfl
theorem ris_nil {f : Nat} {b : List Nat} (hb : Bl b) : RIs f [] b := by
  intro n hn tail t' ht hl hs
  obtain ⟨n, rfl⟩ : ∃ m, n = m + 1 := ⟨n - 1, by simp only [List.length_nil] at hn; omega⟩
  exact ⟨t', (lex_bl hb).trans hl, by rw [pItems, if_neg (by rw [hs]; exact Bool.false_ne_true)]⟩
theorem ris_bl {f : Nat} {ts : List Tree} {b s : List Nat} (hb : Bl b) (h : RIs f ts s) : RIs f ts (b ++ s) := by
  intro n hn tail t' ht hl hs
  obtain ⟨tk, e1, e2⟩ := h n hn tail t' ht hl hs
  exact ⟨tk, by rw [List.append_assoc, lex_bl hb, e1], e2⟩
theorem ris_cons {f : Nat} {t : Tree} {ts : List Tree} {s s' : List Nat} (hf : 1 ≤ f) (h : ReadI f t s) (h' : RIs f ts s') (ok : ∀ tail, OkTail tail → OkTail (s' ++ tail)) : RIs f (t :: ts) (s ++ s') := by
  intro n hn tail t' ht hl hs
  simp only [List.length_cons] at hn
  obtain ⟨n, rfl⟩ : ∃ m, n = m + 1 := ⟨n - 1, by omega⟩
  obtain ⟨tk', e4, e5⟩ := h' n (by omega) tail t' ht hl hs
  obtain ⟨tk, e1, e2, e3⟩ := h n (by omega) (s' ++ tail) (ok tail ht)
  refine ⟨tk, by rw [List.append_assoc]; exact e1, ?_⟩
  rw [pItems, if_pos e2, e3, e4, Res.ok_bind2, Res.ok_bind2, e5]
  rfl
theorem rs_of {f : Nat} {ts : List Tree} {s : List Nat} (h : RIs f ts s) : ReadS (f + ts.length + 2) (seqOf ts) s := by
  intro n hn tail t' ht hl hs
  obtain ⟨n, rfl⟩ : ∃ m, n = m + 1 := ⟨n - 1, by omega⟩
  obtain ⟨tk, e1, e2⟩ := h n (by omega) tail t' ht hl hs
  exact ⟨tk, e1, by rw [pSeq, e2]; rfl⟩
theorem rms_nil {f : Nat} {b : List Nat} (hb : Bl b) : RMs f [] b := by
  intro n hn tail t' ht hl hs hk
  obtain ⟨n, rfl⟩ : ∃ m, n = m + 1 := ⟨n - 1, by simp only [List.length_nil] at hn; omega⟩
  exact ⟨t', (lex_bl hb).trans hl, hs, by rw [pMore, if_neg hk]⟩
theorem rms_cons {f : Nat} {t : Tree} {ts : List Tree} {b1 b2 s s' : List Nat} (h1 : Bl b1) (h2 : Bl b2) (h : ReadS f t s) (h' : RMs f ts s') (ok : ∀ tail, OkTail tail → OkTail (s' ++ tail)) : RMs f (t :: ts) (b1 ++ 124 :: (b2 ++ (s ++ s'))) := by
  intro n hn tail t' ht hl hs hk
  simp only [List.length_cons] at hn
  obtain ⟨n, rfl⟩ : ∃ m, n = m + 1 := ⟨n - 1, by omega⟩
  obtain ⟨tk', e4, e5, e6⟩ := h' n (by omega) tail t' ht hl hs hk
  obtain ⟨tk, e1, e2⟩ := h n (by omega) (s' ++ tail) tk' (ok tail ht) e4 e5
  refine ⟨_, (by rw [List.append_assoc, lex_bl h1, List.cons_append]; exact lex_mk (by decide)), (show starts (one 124) = false by decide), ?_⟩
  rw [pMore, if_pos rfl]
  dsimp only
  rw [List.append_assoc, List.append_assoc, lex_bl h2, e1, Res.ok_bind2, e2, Res.ok_bind2, e6]
  rfl
theorem ra_of {f : Nat} {t : Tree} {ts : List Tree} {s s' : List Nat} (h : ReadS f t s) (h' : RMs f ts s') (ok : ∀ tail, OkTail tail → OkTail (s' ++ tail)) : ReadA (f + ts.length + 2) (altOf t ts) (s ++ s') := by
  intro n hn tail t' ht hl hs hk
  obtain ⟨n, rfl⟩ : ∃ m, n = m + 1 := ⟨n - 1, by omega⟩
  obtain ⟨tk', e4, e5, e6⟩ := h' n (by omega) tail t' ht hl hs hk
  obtain ⟨tk, e1, e2⟩ := h n (by omega) (s' ++ tail) tk' (ok tail ht) e4 e5
  refine ⟨tk, by rw [List.append_assoc]; exact e1, ?_⟩
  rw [pAlts, e2, Res.ok_bind2, e6]
  rfl
/-- behind a separator -/
def moreL (sep : List Nat) : List (List Nat) → List Nat
  | [] => []
  | x :: r => sep ++ (x ++ moreL sep r)
def joinL (sep : List Nat) : List (List Nat) → List Nat
  | [] => []
  | x :: r => x ++ moreL sep r
inductive All2 {α β : Type} (R : α → β → Prop) : List α → List β → Prop
  | nil : All2 R [] []
  | cons {a : α} {b : β} {l : List α} {r : List β} : R a b → All2 R l r → All2 R (a :: l) (b :: r)
theorem All2.mono {α β : Type} {R R' : α → β → Prop} (h : ∀ a b, R a b → R' a b) : ∀ {l : List α} {r : List β}, All2 R l r → All2 R' l r
  | _, _, .nil => .nil
  | _, _, .cons x y => .cons (h _ _ x) (All2.mono h y)
theorem All2.app {α β : Type} {R : α → β → Prop} {a : α} {b : β} (x : R a b) : ∀ {l : List α} {r : List β}, All2 R l r → All2 R (l ++ [a]) (r ++ [b])
  | _, _, .nil => .cons x .nil
  | _, _, .cons x' y => .cons x' (All2.app x y)
theorem All2.len {α β : Type} {R : α → β → Prop} : ∀ {l : List α} {r : List β}, All2 R l r → l.length = r.length
  | _, _, .nil => rfl
  | _, _, .cons _ y => by rw [List.length_cons, List.length_cons, y.len]
/-- a piece: an item and a blank -/
def Piece (f : Nat) (t : Tree) (x : List Nat) : Prop := ∃ s b, x = s ++ b ∧ ReadI f t s ∧ Bl b
theorem ris_more {f : Nat} (hf : 1 ≤ f) {sep : List Nat} (hs : Bl sep) (hne : sep ≠ []) : ∀ {ts : List Tree} {xs : List (List Nat)}, All2 (Piece f) ts xs → RIs f ts (moreL sep xs) ∧ ∀ tail, OkTail tail → OkTail (moreL sep xs ++ tail)
  | _, _, .nil => ⟨ris_nil (fun _ h => nomatch h), fun _ h => h⟩
  | _, _, .cons ⟨s, b, hx, hi, hb⟩ y => by
    obtain ⟨h1, h2⟩ := ris_more hf hs hne y
    subst hx
    refine ⟨?_, fun tail ht => ?_⟩
    · show RIs f _ (sep ++ ((s ++ b) ++ _))
      rw [List.append_assoc s b]
      refine ris_bl hs (ris_cons hf hi (ris_bl hb h1) fun tail ht => ?_)
      rw [List.append_assoc]; exact .bl hb (h2 tail ht)
    · show OkTail ((sep ++ _) ++ tail)
      cases sep with
      | nil => exact absurd rfl hne
      | cons c sep => exact .cons (bl_nm (hs c (.head _)))
theorem ris_join {f : Nat} (hf : 1 ≤ f) {sep : List Nat} (hs : Bl sep) (hne : sep ≠ []) {ts : List Tree} {xs : List (List Nat)} (h : All2 (Piece f) ts xs) : RIs f ts (joinL sep xs) := by
  cases h with
  | nil => exact ris_nil fun _ h => nomatch h
  | cons p y =>
    obtain ⟨s, b, rfl, hi, hb⟩ := p
    obtain ⟨h1, h2⟩ := ris_more hf hs hne y
    show RIs f _ ((s ++ b) ++ _)
    rw [List.append_assoc]
    refine ris_cons hf hi (ris_bl hb h1) fun tail ht => ?_
    rw [List.append_assoc]; exact .bl hb (h2 tail ht)
theorem rms_more {f : Nat} {b1 b2 : List Nat} (h1 : Bl b1) (h2 : Bl b2) : ∀ {ts : List Tree} {xs : List (List Nat)}, All2 (ReadS f) ts xs → RMs f ts (moreL (b1 ++ 124 :: b2) xs) ∧ ∀ tail, OkTail tail → OkTail (moreL (b1 ++ 124 :: b2) xs ++ tail)
  | _, _, .nil => ⟨rms_nil (fun _ h => nomatch h), fun _ h => h⟩
  | _, _, .cons hx y => by
    obtain ⟨h3, h4⟩ := rms_more h1 h2 y
    have e : ∀ (x z : List Nat), (b1 ++ 124 :: b2) ++ (x ++ z) = b1 ++ 124 :: (b2 ++ (x ++ z)) := fun x z => by simp
    refine ⟨?_, fun tail ht => ?_⟩
    · show RMs f _ ((b1 ++ 124 :: b2) ++ _)
      rw [e]
      exact rms_cons h1 h2 hx h3 h4
    · show OkTail (((b1 ++ 124 :: b2) ++ _) ++ tail)
      rw [e, List.append_assoc, List.cons_append]
      exact .bl h1 (.cons (by decide))
theorem ra_join {f : Nat} {b1 b2 : List Nat} (h1 : Bl b1) (h2 : Bl b2) {t : Tree} {ts : List Tree} {x : List Nat} {xs : List (List Nat)} (h : All2 (ReadS f) (t :: ts) (x :: xs)) : ReadA (f + ts.length + 2) (altOf t ts) (joinL (b1 ++ 124 :: b2) (x :: xs)) := by
  cases h with
  | cons p y =>
    obtain ⟨h3, h4⟩ := rms_more h1 h2 y
    exact ra_of p h3 h4

abbrev L (s : Str) : List Nat := s.cps.toList
theorem L_app (a b : Str) : L (a ++ b) = L a ++ L b := by
  show (a ++ b).cps.toList = _
  rw [PySem.Str.cps_append, Array.toList_append]
theorem L_len (s : Str) : s.length = (L s).length := Array.length_toList.symm
theorem txt_L (s : Str) : txt (L s) = s := rfl
theorem L_join (sep : Str) : ∀ ys : List Str, L (Txt.join sep ys) = joinL (L sep) (ys.map L) := by
  intro ys
  show L (Builtin.Str.glued sep ys) = _
  rw [StrLaws.glued_eq_join]
  induction ys with
  | nil => rfl
  | cons x r ih =>
    cases r with
    | nil => show L x = L x ++ []; rw [List.append_nil]
    | cons y r =>
      show L (x ++ sep ++ Str.join sep (y :: r)) = L x ++ (L sep ++ (L y ++ _))
      rw [L_app, L_app, ih, List.append_assoc]; rfl
theorem moreL_len {sep : List Nat} {B S : Nat} (hS : sep.length ≤ S) : ∀ {xs : List (List Nat)}, (∀ x ∈ xs, x.length ≤ B) → (moreL sep xs).length ≤ xs.length * (B + S)
  | [], _ => Nat.zero_le _
  | x :: r, h => by
    have h1 := moreL_len (sep := sep) hS (xs := r) fun y hy => h y (.tail _ hy)
    have h2 := h x (.head _)
    show (sep ++ (x ++ moreL sep r)).length ≤ (r.length + 1) * (B + S)
    rw [List.length_append, List.length_append, Nat.add_mul]
    omega
theorem join_len {sep : Str} {ys : List Str} {B S : Nat} (hS : sep.length ≤ S) (h : ∀ y ∈ ys, y.length ≤ B) : (Txt.join sep ys).length ≤ ys.length * (B + S) := by
  rw [L_len, L_join]
  cases ys with
  | nil => exact Nat.zero_le _
  | cons x r =>
    have h1 := moreL_len (sep := L sep) (B := B) (S := S) (by rw [← L_len]; exact hS) (xs := r.map L) fun y hy => by
      obtain ⟨z, hz, rfl⟩ := List.mem_map.mp hy
      rw [← L_len]; exact h z (.tail _ hz)
    have h2 := h x (.head _)
    rw [L_len] at h2
    show (L x ++ moreL (L sep) (r.map L)).length ≤ (r.length + 1) * (B + S)
    rw [List.length_map] at h1
    rw [List.length_append, Nat.add_mul]
    omega
/-- a text that is read as a tree -/
structure Shows (k : Nat) (t : Tree) (s : Str) : Prop where
  ra : ReadA (8 * k + 5) t (L s)
  rs : (∀ l, t ≠ .alt l) → ReadS (8 * k + 4) t (L s)
  ri : (∀ l, t ≠ .alt l) → (∀ l, t ≠ .seq l) → ReadI (8 * k + 2) t (L s)
  len : s.length ≤ 30 * 4 ^ k
theorem shows_item {k : Nat} {t : Tree} {s : Str} (h : ReadI (8 * k + 2) t (L s)) (hl : s.length ≤ 30 * 4 ^ k) : Shows k t s :=
  ⟨(ra_seq (by omega) ((rs_item (by omega) h).mono (Nat.le_refl _))).mono (by omega), fun _ => (rs_item (by omega) h).mono (by omega), fun _ _ => h, hl⟩
theorem pow4 (k : Nat) : 1 ≤ 4 ^ k := Nat.one_le_pow k 4 (by decide)
theorem pow4s (k : Nat) : 4 ^ (k + 1) = 4 * 4 ^ k := by rw [Nat.pow_succ, Nat.mul_comm]
theorem shows_name {k : Nat} {s : Str} (h : s ∈ leafNames) : Shows k (.name s) s := by
  have hk := pow4 k
  have key : ∃ c r, L s = c :: r ∧ isSt c = true ∧ (∀ c ∈ r, isNm c = true) ∧ s.length ≤ 30 := by
    simp only [leafNames, List.mem_cons, List.not_mem_nil, or_false] at h
    rcases h with rfl | rfl | rfl
    · exact ⟨97, [], by decide +kernel, by decide, by decide, by decide +kernel⟩
    · exact ⟨98, [50], by decide +kernel, by decide, by decide, by decide +kernel⟩
    · exact ⟨83, [116, 97, 116], by decide +kernel, by decide, by decide, by decide +kernel⟩
  obtain ⟨c, r, e, h1, h2, h3⟩ := key
  refine shows_item ?_ (by omega)
  have := ri_name h1 h2
  rw [← e, txt_L] at this
  exact this.mono (by omega)
theorem texts_ok : ∀ v ∈ leafTexts, 10 ∉ L v ∧ (34 ∈ L v → 39 ∉ L v) ∧ v.length ≤ 3 := by decide +kernel
theorem shows_text {k : Nat} {v q : Str} {c : Nat} (h : v ∈ leafTexts) (hq : L q = [c]) (hc : c = 34 ∨ c = 39) (hn : c ∉ L v) : Shows k (.text v) (q ++ v ++ q) := by
  have hk := pow4 k
  obtain ⟨h1, _, h3⟩ := texts_ok v h
  have e : L (q ++ v ++ q) = c :: (L v ++ [c]) := by rw [L_app, L_app, hq]; rfl
  refine shows_item ?_ ?_
  · rw [e]
    have := ri_text (q := c) (v := L v) hc fun x hx => ⟨fun e => hn (e ▸ hx), fun e => h1 (e ▸ hx)⟩
    rw [txt_L] at this
    exact this.mono (by omega)
  · rw [L_len, e, List.length_cons, List.length_append, ← L_len, List.length_singleton]
    omega
theorem seqOf_ne {ts : List Tree} (h : ts.length ≠ 1) : seqOf ts = .seq ts := by
  match ts, h with
  | [], _ => rfl
  | [_], h => exact absurd rfl h
  | _ :: _ :: _, _ => rfl
theorem shows_seq {k : Nat} {ts : List Tree} {xs : List Str} {sep : Str} (hs : Bl (L sep)) (hne : L sep ≠ []) (hsl : sep.length ≤ 2) (h : All2 (fun t x => Piece (8 * k + 6) t (L x)) ts xs) (hl : ts.length = 0 ∨ ts.length = 2 ∨ ts.length = 3)
    (hb : ∀ x ∈ xs, x.length ≤ 30 * 4 ^ k + 6) : Shows (k + 1) (.seq ts) (Txt.join sep xs) := by
  have hk := pow4 k
  have h' : All2 (Piece (8 * k + 6)) ts (xs.map L) := by
    clear hl hb
    induction h with
    | nil => exact .nil
    | cons a _ ih => exact .cons a ih
  have r := rs_of (ris_join (by omega) hs hne h')
  rw [seqOf_ne (by omega), ← L_join] at r
  have r2 : ReadS (8 * (k + 1) + 4) (.seq ts) (L (Txt.join sep xs)) := r.mono (by omega)
  refine ⟨ra_seq (by omega) r2, fun _ => r2, fun _ h => absurd rfl (h ts), ?_⟩
  have j := join_len (sep := sep) (ys := xs) (B := 30 * 4 ^ k + 6) (S := 2) hsl hb
  have e := h.len
  have m : xs.length * (30 * 4 ^ k + 6 + 2) ≤ 3 * (30 * 4 ^ k + 6 + 2) := Nat.mul_le_mul_right _ (by omega)
  rw [pow4s]; omega
theorem shows_alt {k : Nat} {ts : List Tree} {xs : List Str} {sep : Str} {b1 b2 : List Nat} (he : L sep = b1 ++ 124 :: b2) (h1 : Bl b1) (h2 : Bl b2) (hsl : sep.length ≤ 3) (h : All2 (fun t x => ReadS (8 * k + 8) t (L x)) ts xs) (hl : ts.length = 2 ∨ ts.length = 3)
    (hb : ∀ x ∈ xs, x.length ≤ 30 * 4 ^ k + 6) : Shows (k + 1) (.alt ts) (Txt.join sep xs) := by
  have hk := pow4 k
  have h' : All2 (ReadS (8 * k + 8)) ts (xs.map L) := by
    clear hl hb
    induction h with
    | nil => exact .nil
    | cons a _ ih => exact .cons a ih
  have e := h.len
  refine ⟨?_, fun h => absurd rfl (h ts), fun h => absurd rfl (h ts), ?_⟩
  · rw [L_join, he]
    match ts, xs, h', hl with
    | t1 :: t2 :: ts, x :: xs, h', hl =>
      have r := ra_join h1 h2 h'
      simp only [List.length_cons] at hl r
      exact r.mono (by omega)
    | [_], _, _, hl => simp at hl
    | [], _, _, hl => simp at hl
  · have j := join_len (sep := sep) (ys := xs) (B := 30 * 4 ^ k + 6) (S := 3) hsl hb
    have m : xs.length * (30 * 4 ^ k + 6 + 3) ≤ 3 * (30 * 4 ^ k + 6 + 3) := Nat.mul_le_mul_right _ (by omega)
    rw [pow4s]; omega
/-- a text with brackets about it -/
theorem brk_of {k o cl : Nat} {t : Tree} {s x : Str} {b1 b2 : List Nat} (ho : (o = 40 ∧ cl = 41) ∨ (o = 91 ∧ cl = 93) ∨ (o = 123 ∧ cl = 125)) (h1 : Bl b1) (h2 : Bl b2) (h : Shows k t s) (e : L x = o :: (b1 ++ (L s ++ (b2 ++ [cl])))) : ReadI (8 * k + 6) (brk o t) (L x) := by
  rw [e]; exact ri_brk ho h1 h2 h.ra
theorem shows_brk {k o cl : Nat} {t : Tree} {s x : Str} {b1 b2 : List Nat} (ho : (o = 40 ∧ cl = 41) ∨ (o = 91 ∧ cl = 93) ∨ (o = 123 ∧ cl = 125)) (h1 : Bl b1) (h2 : Bl b2) (h : Shows k t s) (e : L x = o :: (b1 ++ (L s ++ (b2 ++ [cl])))) (hl : b1.length + b2.length ≤ 4) : Shows (k + 1) (brk o t) x := by
  have hk := pow4 k
  have := h.len
  refine shows_item ((brk_of ho h1 h2 h e).mono (by omega)) ?_
  rw [L_len, e, List.length_cons, List.length_append, List.length_append, List.length_append, ← L_len, List.length_singleton, pow4s]
  omega
def isAlt : Tree → Bool | .alt _ => true | _ => false
def isSeq : Tree → Bool | .seq _ => true | _ => false
/-- what stands for a tree as an item: must says whether it has to be in brackets -/
structure Brk (k : Nat) (t : Tree) (s : Str) : Prop where
  rs : isAlt t = false → ReadS (8 * k + 8) t (L s)
  ri : isAlt t = false → isSeq t = false → ReadI (8 * k + 6) t (L s)
  len : s.length ≤ 30 * 4 ^ k + 4
structure BrkM (k : Nat) (t : Tree) (s : Str) : Prop where
  ri : ReadI (8 * k + 6) t (L s)
  len : s.length ≤ 30 * 4 ^ k + 4
theorem Shows.brk {k : Nat} {t : Tree} {s : Str} (h : Shows k t s) : Brk k t s where
  rs := fun h1 => (h.rs fun l e => by rw [e] at h1; cases h1).mono (by omega)
  ri := fun h1 h2 => (h.ri (fun l e => by rw [e] at h1; cases h1) fun l e => by rw [e] at h2; cases h2).mono (by omega)
  len := by have := h.len; omega
theorem BrkM.brk {k : Nat} {t : Tree} {s : Str} (h : BrkM k t s) : Brk k t s where
  rs := fun _ => (rs_item (by omega) h.ri).mono (by omega)
  ri := fun _ _ => h.ri
  len := h.len

abbrev ShownSpec (w : World) (p : Program) (loose : List Str) (mean : ExcName → Option Value) (mg mb : Str → Option Value) (pl wl : Addr) (q : PS) (k : Nat) (v : Value) (t : Tree) : Prop :=
  Spec w p loose mean mg mb 208 [.ref pl, v] (4 * k + 10) (40 * k + 130) (plLed pl wl q) (fun St => TreeAt St v t) (fun i : PS × Str × Tok => .str i.2.1 i.2.2) (fun i => plLed pl wl i.1) (fun _ => [])
    (fun i => PSok i.1 ∧ Shows k t i.2.1) NoErr
abbrev BrkSpec (w : World) (p : Program) (loose : List Str) (mean : ExcName → Option Value) (mg mb : Str → Option Value) (pl wl : Addr) (q : PS) (k : Nat) (v : Value) (t : Tree) (must : Bool) : Prop :=
  Spec w p loose mean mg mb 203 [.ref pl, v, .bool must] (4 * k + 12) (40 * k + 150) (plLed pl wl q) (fun St => TreeAt St v t) (fun i : PS × Str × Tok => .str i.2.1 i.2.2) (fun i => plLed pl wl i.1) (fun _ => [])
    (fun i => PSok i.1 ∧ (must = true → BrkM k t i.2.1) ∧ Brk k t i.2.1) NoErr
def tagOf : Tree → Str
  | .name _ => sName | .text _ => sText | .seq _ => Str.ofString "seq" | .alt _ => Str.ofString "alt" | .opt _ => Str.ofString "opt" | .rep _ => Str.ofString "rep"
theorem TreeAt.view {St : Addr → Obj → Prop} {v : Value} {t : Tree} (h : TreeAt St v t) : ∃ a x t1, v = .ref a ∧ St a (TupO [.str (tagOf t) t1, x]) := by
  cases h with
  | name h => exact ⟨_, _, _, rfl, h⟩
  | text h => exact ⟨_, _, _, rfl, h⟩
  | seq h _ _ => exact ⟨_, _, _, rfl, h⟩
  | alt h _ _ => exact ⟨_, _, _, rfl, h⟩
  | opt h _ => exact ⟨_, _, _, rfl, h⟩
  | rep h _ => exact ⟨_, _, _, rfl, h⟩
theorem le7680 {k n : Nat} (hk : k ≤ 4) (h : n ≤ 30 * 4 ^ k) : n ≤ 7680 := by
  have : 4 ^ k ≤ 4 ^ 4 := Nat.pow_le_pow_right (by decide) hk
  omega
theorem Blank.bl {b : Str} (h : Blank b) : Bl (L b) := h.1
theorem brkM_of {k : Nat} {t : Tree} {b s : Str} (hb : Blank b) (hs : Shows k t s) : BrkM k t (Str.ofString "(" ++ b ++ s ++ Str.ofString ")") := by
  have e : L (Str.ofString "(" ++ b ++ s ++ Str.ofString ")") = 40 :: (L b ++ (L s ++ ([] ++ [41]))) := by
    rw [L_app, L_app, L_app, show L (Str.ofString "(") = [40] by decide +kernel, show L (Str.ofString ")") = [41] by decide +kernel]
    simp
  refine ⟨brk_of (b2 := []) (.inl ⟨rfl, rfl⟩) hb.bl (fun _ h => nomatch h) hs e, ?_⟩
  have h1 := hb.2
  have h2 := hs.len
  rw [L_len] at h1 h2
  rw [L_len, e, List.length_cons, List.length_append, List.length_append]
  simp only [List.nil_append, List.length_singleton]
  omega
set_option maxRecDepth 100000 in
set_option maxHeartbeats 8000000 in
theorem brkS (pl wl : Addr) (hpw : @Ne Nat pl wl) (k : Nat) (hk : k ≤ 4) (v : Value) (t : Tree)
    (SH : ∀ q : PS, PSok q → ShownSpec w p loose mean mg mb pl wl q k v t)
    (q : PS) (hq : PSok q) (must : Bool) : BrkSpec w p loose mean mg mb pl wl q k v t must := by
  k_with "brkWith" => (
    k_steps
    (with_reducible rename News _ _ _ _ => nX)
    (with_reducible rename Fr _ _ _ _ => fX)
    refine Spec.use0 [] (blankS w p loose mean mg mb pl wl hpw _ hq) B fX X nX T rfl rfl rfl rfl ?_ ?_ (fun r hr => by simpa using hr) (Apart.nil_r _) trivial ?_ (fun _ _ _ _ _ _ h => h.elim)
    · ktr_room
    · ktr_units
    rintro ⟨q2, b, tb⟩ h2 tk2 ⟨hq2, hb⟩ F2 N2 _
    dsimp only at hq2 hb F2 N2 ⊢
    simp only [List.append_nil] at N2
    clear fX nX
    have hb2 := hb.2
    k_steps
    (with_reducible rename News _ _ _ _ => nX)
    (with_reducible rename Fr _ _ _ _ => fX)
    refine Spec.use0 [] (SH q2 hq2) B fX X nX T rfl rfl rfl rfl ?_ ?_ (fun r hr => by simpa using hr) (Apart.nil_r _) (hpre.mono fun a o h => .inl (hst a o h)) ?_ (fun _ _ _ _ _ _ h => h.elim)
    · ktr_room
    · ktr_units
    rintro ⟨q3, s3, t3⟩ h3 tk3 ⟨hq3, hs⟩ F3 N3 _
    dsimp only at hq3 hs F3 N3 ⊢
    simp only [List.append_nil] at N3
    clear fX nX
    have hs2 : s3.length ≤ 7680 := le7680 hk hs.len
    k_steps
    exact RetE.intro0 (q3, _, _) F3 N3 rfl ⟨hq3, fun _ => brkM_of hb hs, (brkM_of hb hs).brk⟩ rfl)
  k_extra "sp_open"
  replace F : Fr g L' h₁ (fun y => List.lookup y [(Str.ofString "must", .bool must), (Str.ofString "tree", v), (Str.ofString "pool", .ref pl)]) := F
  cases must with
  | true =>
    k_extra "brkWith"
  | false =>
    k_steps
    (with_reducible rename News _ _ _ _ => nX)
    (with_reducible rename Fr _ _ _ _ => fX)
    refine usePick [] nX hpw hq (by decide) (by decide) B fX X T rfl rfl rfl rfl ?_ ?_ (Apart.nil_r _) ?_
    · ktr_room
    · ktr_units
    · intro q1 i1 t1 h2 tk2 hq hi0 hi1 F2 N2
      simp only [List.nil_append] at N2
      clear nX fX
      by_cases hi : i1 = 4
      · subst hi
        k_extra "brkWith"
      · have f1 : (i1 == 4) = false := beq_eq_false_iff_ne.mpr hi
        k_steps
        (with_reducible rename News _ _ _ _ => nX)
        (with_reducible rename Fr _ _ _ _ => fX)
        refine Spec.use0 [] (SH q1 hq) B fX X nX T rfl rfl rfl rfl ?_ ?_ (fun r hr => by simpa using hr) (Apart.nil_r _) (hpre.mono fun a o h => .inl (hst a o h)) ?_ (fun _ _ _ _ _ _ h => h.elim)
        · ktr_room
        · ktr_units
        rintro ⟨q3, s3, t3⟩ h3 tk3 ⟨hq3, hs⟩ F3 N3 _
        dsimp only at hq3 hs F3 N3 ⊢
        simp only [List.append_nil] at N3
        clear fX nX
        k_steps
        exact RetE.intro0 (q3, _, _) F3 N3 rfl ⟨hq3, (fun h => nomatch h), hs.brk⟩ rfl

theorem tup_of {h : Heap} {a : Addr} {vs : List Value} (ha : h.get? a = some (TupO vs)) : IsTup h a vs.toArray := ⟨_, ha, rfl, _, rfl⟩
theorem good_name {k : Nat} {s : Str} (h : Good k (.name s)) : s ∈ leafNames := by
  have hl : Leaf (.name s) := by
    cases k with
    | zero => exact h
    | succ k =>
      rcases h with h | ⟨_, h, _⟩ | ⟨_, h, _⟩ | ⟨_, h, _⟩ | ⟨_, h, _⟩
      · exact h
      all_goals cases h
  rcases hl with ⟨_, e, h⟩ | ⟨_, e, h⟩
  · cases e; exact h
  · cases e
theorem good_text {k : Nat} {s : Str} (h : Good k (.text s)) : s ∈ leafTexts := by
  have hl : Leaf (.text s) := by
    cases k with
    | zero => exact h
    | succ k =>
      rcases h with h | ⟨_, h, _⟩ | ⟨_, h, _⟩ | ⟨_, h, _⟩ | ⟨_, h, _⟩
      · exact h
      all_goals cases h
  rcases hl with ⟨_, e, h⟩ | ⟨_, e, h⟩
  · cases e
  · cases e; exact h
theorem notLeaf {t : Tree} (h : Leaf t) : isSeq t = false ∧ isAlt t = false ∧ (∀ e, t ≠ .opt e) ∧ ∀ e, t ≠ .rep e := by
  rcases h with ⟨_, rfl, _⟩ | ⟨_, rfl, _⟩ <;> exact ⟨rfl, rfl, (fun _ h => nomatch h), fun _ h => nomatch h⟩
theorem good_seq {k : Nat} {l : List Tree} (h : Good k (.seq l)) : ∃ m, k = m + 1 ∧ (l.length = 0 ∨ l.length = 2 ∨ l.length = 3) ∧ ∀ e ∈ l, Good m e := by
  cases k with
  | zero => exact absurd (notLeaf h).1 (by simp [isSeq])
  | succ k =>
    rcases h with h | ⟨_, e, h⟩ | ⟨_, e, _⟩ | ⟨_, e, _⟩ | ⟨_, e, _⟩
    · exact absurd (notLeaf h).1 (by simp [isSeq])
    · cases e; exact ⟨k, rfl, h⟩
    all_goals cases e
theorem good_alt {k : Nat} {l : List Tree} (h : Good k (.alt l)) : ∃ m, k = m + 1 ∧ (l.length = 2 ∨ l.length = 3) ∧ ∀ e ∈ l, Good m e := by
  cases k with
  | zero => exact absurd (notLeaf h).2.1 (by simp [isAlt])
  | succ k =>
    rcases h with h | ⟨_, e, _⟩ | ⟨_, e, h⟩ | ⟨_, e, _⟩ | ⟨_, e, _⟩
    · exact absurd (notLeaf h).2.1 (by simp [isAlt])
    · cases e
    · cases e; exact ⟨k, rfl, h⟩
    all_goals cases e
theorem good_opt {k : Nat} {t : Tree} (h : Good k (.opt t)) : ∃ m, k = m + 1 ∧ Good m t := by
  cases k with
  | zero => exact absurd rfl ((notLeaf h).2.2.1 t)
  | succ k =>
    rcases h with h | ⟨_, e, _⟩ | ⟨_, e, _⟩ | ⟨_, e, h⟩ | ⟨_, e, _⟩
    · exact absurd rfl ((notLeaf h).2.2.1 t)
    · cases e
    · cases e
    · cases e; exact ⟨k, rfl, h⟩
    all_goals cases e
theorem good_rep {k : Nat} {t : Tree} (h : Good k (.rep t)) : ∃ m, k = m + 1 ∧ Good m t := by
  cases k with
  | zero => exact absurd rfl ((notLeaf h).2.2.2 t)
  | succ k =>
    rcases h with h | ⟨_, e, _⟩ | ⟨_, e, _⟩ | ⟨_, e, _⟩ | ⟨_, e, h⟩
    · exact absurd rfl ((notLeaf h).2.2.2 t)
    · cases e
    · cases e
    · cases e
    · cases e; exact ⟨k, rfl, h⟩
open PySem.Builtin PySem.Builtin.Str in
theorem occ_one (v : Str) (c : Nat) : (occurrences v (one c) 0 v.length 1).isEmpty = !(decide (c ∈ L v)) := by
  have := StrLaws.found_one v c
  rw [one, ← Bool.not_eq_eq_eq_not, this]
theorem not_in2 {v : Str} (h : (Builtin.Str.occurrences v (Str.ofString "\"") 0 v.length 1).isEmpty = true) : 34 ∉ L v := by
  rw [ofs_q2, occ_one] at h; simpa using h
theorem not_in1 {v : Str} (h : (Builtin.Str.occurrences v (Str.ofString "'") 0 v.length 1).isEmpty = true) : 39 ∉ L v := by
  rw [ofs_q1, occ_one] at h; simpa using h
theorem in2 {v : Str} (h : (Builtin.Str.occurrences v (Str.ofString "\"") 0 v.length 1).isEmpty = false) : 34 ∈ L v := by
  rw [ofs_q2, occ_one] at h; simpa using h
/-- what the turns over the pieces hold -/
def ShJ (cell : Addr × Obj) (pl wl : Addr) (R : Tree → Str → Prop) (ts : List Tree) (i : Nat) (ys : List Value) (news : Led) : Prop :=
  ∃ (q : PS) (xs : List Str), news = cell :: plLed pl wl q ∧ PSok q ∧ StrsAre ys xs ∧ All2 R (ts.take i) xs
theorem TreesAt.get {St : Addr → Obj → Prop} : ∀ {vs : List Value} {l : List Tree} {i : Nat} {v : Value}, TreesAt St vs l → vs[i]? = some v → ∃ t, l[i]? = some t ∧ TreeAt St v t
  | _, _, _, _, .nil, h => by simp at h
  | _, _, 0, _, .cons x _, h => by simp only [List.getElem?_cons_zero, Option.some.injEq] at h; subst h; exact ⟨_, rfl, x⟩
  | _, _, i + 1, _, .cons _ y, h => by simp only [List.getElem?_cons_succ] at h ⊢; exact y.get h
theorem le7684 {k n : Nat} (hk : k ≤ 4) (h : n ≤ 30 * 4 ^ k + 4) : n ≤ 7684 := by
  have : 4 ^ k ≤ 4 ^ 4 := Nat.pow_le_pow_right (by decide) hk
  omega
theorem strs_app : ∀ {vs : List Value} {ys : List Str}, StrsAre vs ys → ∀ (x : Str) (t : Tok), StrsAre (vs ++ [.str x t]) (ys ++ [x])
  | _, _, .nil, x, t => .cons x t .nil
  | _, _, .cons y u h, x, t => .cons y u (strs_app h x t)
theorem take_snoc {α : Type} {l : List α} {i : Nat} {t : α} (h : l[i]? = some t) : l.take (i + 1) = l.take i ++ [t] := by rw [List.take_add_one, h]; rfl
theorem le7686 {k n : Nat} (hk : k ≤ 4) (h : n ≤ 30 * 4 ^ k + 6) : n ≤ 7686 := by
  have : 4 ^ k ≤ 4 ^ 4 := Nat.pow_le_pow_right (by decide) hk
  omega
theorem All2.right {α β : Type} {R : α → β → Prop} : ∀ {l : List α} {r : List β}, All2 R l r → ∀ b ∈ r, ∃ a, R a b
  | _, _, .nil, _, h => nomatch h
  | _, _, .cons x y, b, h => by
    rcases List.mem_cons.mp h with rfl | h
    · exact ⟨_, x⟩
    · exact y.right b h
theorem All2.full {α β : Type} {R : α → β → Prop} {l : List α} {r : List β} {n : Nat} (h : All2 R (l.take n) r) (hn : l.length ≤ n) : All2 R l r := by rwa [List.take_of_length_le hn] at h
theorem sum_le {B : Nat} : ∀ {xs : List Str}, (∀ x ∈ xs, x.length ≤ B) → (xs.map (·.length)).sum ≤ xs.length * B
  | [], _ => Nat.zero_le _
  | x :: r, h => by
    have h1 := sum_le (xs := r) fun y hy => h y (.tail _ hy)
    have h2 := h x (.head _)
    rw [List.map_cons, List.sum_cons, List.length_cons, Nat.add_mul]; omega
theorem sum_ok {xs : List Str} {n : Nat} (hn : xs.length ≤ 3) (hs : n ≤ 3) (h : ∀ x ∈ xs, x.length ≤ 7686) : (xs.map (·.length)).sum + xs.length * n ≤ 16777216 := by
  have h1 := sum_le h
  have h2 : xs.length * 7686 ≤ 3 * 7686 := Nat.mul_le_mul_right _ hn
  have h3 : xs.length * n ≤ 3 * 3 := Nat.mul_le_mul hn hs
  omega
theorem seq_must (t : Tree) : ([Str.ofString "seq", Str.ofString "alt"].any fun x => x == tagOf t) = (isSeq t || isAlt t) := by
  cases t <;> simp only [tagOf, isSeq, isAlt] <;> decide +kernel
theorem alt_must (t : Tree) : (tagOf t == Str.ofString "alt") = isAlt t := by
  cases t <;> simp only [tagOf, isAlt] <;> decide +kernel
theorem seq_ri {k : Nat} {t : Tree} {s : Str} (h1 : ([Str.ofString "seq", Str.ofString "alt"].any fun x => x == tagOf t) = true → BrkM k t s) (h2 : Brk k t s) : ReadI (8 * k + 6) t (L s) := by
  rw [seq_must] at h1
  cases e : isSeq t with
  | true => exact (h1 (by rw [e]; rfl)).ri
  | false =>
    cases e2 : isAlt t with
    | true => exact (h1 (by rw [e2, Bool.or_true])).ri
    | false => exact h2.ri e2 e
theorem alt_rs {k : Nat} {t : Tree} {s : Str} (h1 : (tagOf t == Str.ofString "alt") = true → BrkM k t s) (h2 : Brk k t s) : ReadS (8 * k + 8) t (L s) := by
  rw [alt_must] at h1
  cases e2 : isAlt t with
  | true => exact (rs_item (by omega) (h1 e2).ri).mono (by omega)
  | false => exact h2.rs e2
theorem News.first3 {h₀ h : Heap} {Lx : Addr} {a b c : Addr × Obj} (N : News h₀ Lx h [a, b, c]) : News h₀ Lx h [c, a, b] := fun q hq => N q (by simpa [or_comm, or_assoc, or_left_comm] using hq)
theorem News.two {h₀ h : Heap} {Lx : Addr} {a b c : Addr × Obj} (N : News h₀ Lx h [a, b, c]) : News h₀ Lx h [a, b] := fun q hq => N q (by simp only [List.mem_cons, List.not_mem_nil, or_false] at hq ⊢; rcases hq with h | h <;> simp [h])
theorem marks_of {k o cl : Nat} {t : Tree} {b s x y : Str} (ho : (o = 40 ∧ cl = 41) ∨ (o = 91 ∧ cl = 93) ∨ (o = 123 ∧ cl = 125)) (hb : Blank b) (hs : Shows k t s) (hx : L x = [o]) (hy : L y = [cl]) : Shows (k + 1) (brk o t) (x ++ b ++ s ++ y) := by
  refine shows_brk (b1 := L b) (b2 := []) ho hb.bl (fun _ h => nomatch h) hs ?_ ?_
  · rw [L_app, L_app, L_app, hx, hy]; simp
  · have := hb.2; rw [L_len] at this; simp only [List.length_nil]; omega
theorem marks_opt {k : Nat} {t : Tree} {b s : Str} (hb : Blank b) (hs : Shows k t s) : Shows (k + 1) (.opt t) (Txt.item (Str.ofString "[]") 0 ++ b ++ s ++ Txt.item (Str.ofString "[]") 1) :=
  marks_of (.inr (.inl ⟨rfl, rfl⟩)) hb hs (by decide +kernel) (by decide +kernel)
theorem marks_rep {k : Nat} {t : Tree} {b s : Str} (hb : Blank b) (hs : Shows k t s) : Shows (k + 1) (.rep t) (Txt.item (Str.ofString "{}") 0 ++ b ++ s ++ Txt.item (Str.ofString "{}") 1) :=
  marks_of (.inr (.inr ⟨rfl, rfl⟩)) hb hs (by decide +kernel) (by decide +kernel)
section
local macro_rules | `(tactic| walk_at "eval ListComp") => `(tactic| (k_here; k_dflt (refine ListComp_T (F₀ := by k_asm) (by with_unfolding_all rfl) (by decide) (by rfl) (by decide) (by rfl) ?_)))
local macro_rules | `(tactic| walk_at "TupSrc") => `(tactic| (k_here; refine hold ?_))
set_option maxRecDepth 100000 in
set_option maxHeartbeats 8000000 in
theorem shownS (pl wl : Addr) (hpw : @Ne Nat pl wl) (k : Nat) (hk : k ≤ 4) 
    (IS : ∀ m, m < k → ∀ (v : Value) (t : Tree) (q : PS), Good m t → PSok q → ShownSpec w p loose mean mg mb pl wl q m v t)
    (IB : ∀ m, m < k → ∀ (v : Value) (t : Tree) (q : PS) (must : Bool), Good m t → PSok q → BrkSpec w p loose mean mg mb pl wl q m v t must)
    (v : Value) (t : Tree) (hg : Good k t) (q : PS) (hq : PSok q) : ShownSpec w p loose mean mg mb pl wl q k v t := by
  k_extra "sp_openC"
  rename_i o1 hd1
  have hlp : @LT.lt Nat _ pl L' := hlt _ (.head _)
  have hlw : @LT.lt Nat _ wl L' := hlt _ (.tail _ (.head _))
  have htr := hpre.mono hst
  replace hd1 : o1.data = .cell (some (.ref pl)) := hd1
  replace F : Fr g L' h₁ (fun y => if y = Str.ofString "tree" then some v else none) := F
  k_with "oneIn" => (
    (with_reducible rename News _ _ _ _ => nX)
    (with_reducible rename Fr _ _ _ _ => fX)
    refine Spec.use0 [(L' + 1, o1)] (blankS w p loose mean mg mb pl wl hpw _ hq) B fX X nX T rfl rfl rfl rfl ?_ ?_ (fun q hq => List.mem_cons.mpr (by simpa [or_comm, or_assoc, or_left_comm] using hq)) ?_ trivial ?_ (fun _ _ _ _ _ _ h => h.elim)
    · ktr_room
    · ktr_units
    · k_extra "apt"
    rintro ⟨q9, b9, t9⟩ h9 tk9 ⟨hq9, hb9⟩ F9 N9 a9
    dsimp only at hq9 hb9 F9 N9 a9 ⊢
    simp only [List.cons_append, List.nil_append] at N9
    clear fX nX
    have hl9 := hb9.2
    k_steps
    (with_reducible rename News _ _ _ _ => nX)
    (with_reducible rename Fr _ _ _ _ => fX)
    refine Spec.use0 [(L' + 1, o1)] (IS k' (Nat.lt_succ_self _) _ _ q9 hg' hq9) B fX X nX T rfl rfl rfl rfl ?_ ?_ (fun q hq => by simpa [or_comm, or_assoc, or_left_comm] using hq) ?_ (ht.mono fun a o h => .inl h) ?_ (fun _ _ _ _ _ _ h => h.elim)
    · ktr_room
    · ktr_units
    · k_extra "apt"
    rintro ⟨q2, s2, t2⟩ h2 tk2 ⟨hq2, hs2⟩ F2 N2 a2
    dsimp only at hq2 hs2 F2 N2 a2 ⊢
    simp only [List.cons_append, List.nil_append] at N2
    clear fX nX
    have hl2 := le7680 (show k' ≤ 4 by omega) hs2.len
    k_steps
    (with_reducible rename News _ _ _ _ => nX)
    (with_reducible rename Fr _ _ _ _ => fX)
    skip)
  cases htr with
  | name ha =>
    have hT := tup_of ha
    k_steps
    (with_reducible rename News _ _ _ _ => nX)
    (with_reducible rename Fr _ _ _ _ => fX)
    exact RetE.intro0 (q, _, _) fX (News.rest nX) rfl ⟨hq, shows_name (good_name hg)⟩ rfl
  | text ha =>
    have hv := good_text hg
    have hl3 := (texts_ok _ hv).2.2
    have hT := tup_of ha
    k_steps
    · (with_reducible rename News _ _ _ _ => nX)
      (with_reducible rename Fr _ _ _ _ => fX)
      (with_reducible rename (Builtin.Str.occurrences _ (Str.ofString "\"") 0 _ 1).isEmpty = _ => n2)
      (with_reducible rename (Builtin.Str.occurrences _ (Str.ofString "'") 0 _ 1).isEmpty = _ => n1)
      refine usePick [_] nX hpw hq (by decide) (by decide) B fX X T rfl rfl rfl rfl ?_ ?_ ?_ ?_
      · ktr_room
      · ktr_units
      · k_extra "apt"
      · intro q1 i1 t1 h2 tk2 hq1 hi0 hi1 F2 N2
        simp only [List.cons_append, List.nil_append] at N2
        have hc : i1 = 0 ∨ i1 = 1 := by omega
        clear nX fX
        rcases hc with rfl | rfl
        all_goals (k_steps)
        all_goals (with_reducible rename News _ _ _ _ => nX)
        all_goals (with_reducible rename Fr _ _ _ _ => fX)
        · exact RetE.intro0 (q1, _, _) fX (News.rest nX) rfl ⟨hq1, shows_text hv (by decide +kernel) (.inr rfl) (not_in1 n1)⟩ rfl
        · exact RetE.intro0 (q1, _, _) fX (News.rest nX) rfl ⟨hq1, shows_text hv (by decide +kernel) (.inl rfl) (not_in2 n2)⟩ rfl
    · (with_reducible rename News _ _ _ _ => nX)
      (with_reducible rename Fr _ _ _ _ => fX)
      (with_reducible rename (Builtin.Str.occurrences _ (Str.ofString "\"") 0 _ 1).isEmpty = _ => n2)
      exact RetE.intro0 (q, _, _) fX (News.rest nX) rfl ⟨hq, shows_text hv (by decide +kernel) (.inl rfl) (not_in2 n2)⟩ rfl
    · (with_reducible rename News _ _ _ _ => nX)
      (with_reducible rename Fr _ _ _ _ => fX)
      (with_reducible rename (Builtin.Str.occurrences _ (Str.ofString "\"") 0 _ 1).isEmpty = _ => n2)
      exact RetE.intro0 (q, _, _) fX (News.rest nX) rfl ⟨hq, shows_text hv (by decide +kernel) (.inr rfl) ((texts_ok _ hv).2.1 (in2 n2))⟩ rfl
  | @seq a0 b0 u0 vs0 l0 ha hb hts =>
    have hT := tup_of ha
    obtain ⟨k', rfl, hlen, hgs⟩ := good_seq hg
    have hvl := hts.len
    k_steps
    (with_reducible rename News _ _ _ _ => nX)
    (with_reducible rename Fr _ _ _ _ => fX)
    refine ⟨_, _, _, rfl, rfl, fX, nX, tup_of hb, (by rw [List.size_toArray, hvl, sizeLine_eq]; omega), fun g' => ?_⟩
    clear nX fX
    refine compInv (ShJ (L' + 1, o1) pl wl (fun t x => Piece (8 * k' + 6) t (L x) ∧ x.length ≤ 30 * 4 ^ k' + 6) l0) ?_ ?_ _ 0 [] _ (Nat.zero_add _) ⟨q, [], rfl, hq, .nil, .nil⟩
    · rintro i ys news v I oI C oC D m₂ h tk E' hi ⟨⟨vs', turn', tk', kk, kk2⟩, xs, rfl, hq', hst9, hall⟩ hv hC hx F' N' off ne
      obtain ⟨t9, ht9, hv9⟩ := hts.get (by simpa using hv)
      obtain ⟨a9, x9, u9, rfl, ha9⟩ := hv9.view
      have hT9 := tup_of ha9
      (try dsimp only at N')
      simp only [LCg.Off3, and_true] at off
      k_steps
      (with_reducible rename News _ _ _ _ => nX)
      (with_reducible rename Fr _ _ _ _ => fX)
      refine Spec.use0 [(I, oI), (C, oC), (D, LCg.lst ys), (L' + 1, o1)] (IB k' (Nat.lt_succ_self _) _ t9 _ _ (hgs _ (List.mem_of_getElem? ht9)) hq') B fX X nX T rfl rfl rfl rfl ?_ ?_ ?_ ?_ (hv9.mono fun a o h => .inl h) ?_ (fun _ _ _ _ _ _ h => h.elim)
      · ktr_room
      · ktr_units
      · intro q hq; simp only [List.cons_append, List.nil_append, List.mem_cons, List.not_mem_nil, or_false] at hq ⊢; grind
      · k_extra "apt"
      rintro ⟨q2, s2, t2⟩ h2 tk2 ⟨hq2, hm2, hb2⟩ F2 N2 a2
      dsimp only at hq2 hm2 hb2 F2 N2 a2 ⊢
      simp only [List.cons_append, List.nil_append] at N2
      clear fX nX
      have hl2 := le7684 (show k' ≤ 4 by omega) hb2.len
      k_steps
      (with_reducible rename News _ _ _ _ => nX)
      (with_reducible rename Fr _ _ _ _ => fX)
      refine Spec.use0 [(I, oI), (C, oC), (D, LCg.lst ys), (L' + 1, o1)] (blankS w p loose mean mg mb pl wl hpw _ hq2) B fX X nX T rfl rfl rfl rfl ?_ ?_ (fun _ h => h) ?_ trivial ?_ (fun _ _ _ _ _ _ h => h.elim)
      · ktr_room
      · ktr_units
      · k_extra "apt"
      rintro ⟨q3, b3, t3⟩ h3 tk3 ⟨hq3, hb3⟩ F3 N3 a3
      dsimp only at hq3 hb3 F3 N3 a3 ⊢
      simp only [List.cons_append, List.nil_append] at N3
      clear fX nX
      have hl3 := hb3.2
      k_steps
      (with_reducible rename News _ _ _ _ => nX)
      (with_reducible rename Fr _ _ _ _ => fX)
      refine LCg.CompEnd.intro fX nX ((L' + 1, o1) :: plLed pl wl q3) ?_ ?_ trivial ⟨q3, xs ++ [s2 ++ b3], rfl, hq3, strs_app hst9 _ _, ?_⟩
      · intro q hq; simp only [List.cons_append, List.nil_append, List.mem_cons, List.not_mem_nil, or_false] at hq ⊢; grind
      · simp only [LCg.Off3, and_true]; exact off
      · rw [take_snoc ht9]
        exact hall.app ⟨⟨L s2, L b3, L_app _ _, seq_ri hm2 hb2, hb3.bl⟩, by have h1 := hb2.len; have h2 := hb3.2; omega⟩
    · rintro ys news ⟨⟨vs', turn', tk', kk, kk2⟩, xs, rfl, hq', hst9, hall⟩
      unfold LCg.FinE
      intro D9 h9 tk9 F9 N9 o9
      (try dsimp only at N9)
      have hall2 := hall.full (by rw [List.size_toArray, hvl]; exact Nat.le_refl _)
      have hln := hall2.len
      have hB : ∀ x ∈ xs, x.length ≤ 30 * 4 ^ k' + 6 := fun x hx => by obtain ⟨_, h⟩ := hall2.right x hx; exact h.2
      have hB2 : ∀ x ∈ xs, x.length ≤ 7686 := fun x hx => le7686 (show k' ≤ 4 by omega) (hB x hx)
      k_steps
      (with_reducible rename News _ _ _ _ => nX)
      (with_reducible rename Fr _ _ _ _ => fX)
      refine join_list (nX.isList (.head _)) hst9 (sum_ok (by omega) (by decide +kernel) hB2) (fun t' kk9 => ?_)
      k_steps
      exact RetE.intro0 (⟨vs', turn', tk', kk, kk2⟩, _, _) fX (News.rest (News.rest nX)) rfl ⟨hq', shows_seq (show ∀ c ∈ L (Str.ofString " "), isBl c = true by decide +kernel) (by decide +kernel) (by decide +kernel) (hall2.mono fun _ _ h => h.1) hlen hB⟩ rfl
  | @alt a0 b0 u0 vs0 l0 ha hb hts =>
    have hT := tup_of ha
    obtain ⟨k', rfl, hlen, hgs⟩ := good_alt hg
    have hvl := hts.len
    k_steps
    (with_reducible rename News _ _ _ _ => nX)
    (with_reducible rename Fr _ _ _ _ => fX)
    refine Spec.use0 [(L' + 1, o1)] (blankS w p loose mean mg mb pl wl hpw _ hq) B fX X nX T rfl rfl rfl rfl ?_ ?_ (fun q hq => List.mem_cons.mpr (by simpa [or_comm, or_assoc, or_left_comm] using hq)) ?_ trivial ?_ (fun _ _ _ _ _ _ h => h.elim)
    · ktr_room
    · ktr_units
    · k_extra "apt"
    rintro ⟨q9, b9, t9⟩ h9 tk9 ⟨hq9, hb9⟩ F9 N9 a9
    dsimp only at hq9 hb9 F9 N9 a9 ⊢
    simp only [List.cons_append, List.nil_append] at N9
    clear fX nX
    have hl9 := hb9.2
    k_steps
    (with_reducible rename News _ _ _ _ => nX)
    (with_reducible rename Fr _ _ _ _ => fX)
    refine ⟨_, _, _, rfl, rfl, fX, News.first3 nX, tup_of hb, (by rw [List.size_toArray, hvl, sizeLine_eq]; omega), fun g' => ?_⟩
    clear nX fX
    refine compInv (ShJ (L' + 1, o1) pl wl (fun t x => ReadS (8 * k' + 8) t (L x) ∧ x.length ≤ 30 * 4 ^ k' + 6) l0) ?_ ?_ _ 0 [] _ (Nat.zero_add _) ⟨q9, [], rfl, hq9, .nil, .nil⟩
    · rintro i ys news v I oI C oC D m₂ h tk E' hi ⟨⟨vs', turn', tk', kk, kk2⟩, xs, rfl, hq', hst9, hall⟩ hv hC hx F' N' off ne
      obtain ⟨t9, ht9, hv9⟩ := hts.get (by simpa using hv)
      obtain ⟨a9, x9, u9, rfl, ha9⟩ := hv9.view
      have hT9 := tup_of ha9
      (try dsimp only at N')
      simp only [LCg.Off3, and_true] at off
      k_steps
      (with_reducible rename News _ _ _ _ => nX)
      (with_reducible rename Fr _ _ _ _ => fX)
      refine Spec.use0 [(I, oI), (C, oC), (D, LCg.lst ys), (L' + 1, o1)] (IB k' (Nat.lt_succ_self _) _ t9 _ _ (hgs _ (List.mem_of_getElem? ht9)) hq') B fX X nX T rfl rfl rfl rfl ?_ ?_ ?_ ?_ (hv9.mono fun a o h => .inl h) ?_ (fun _ _ _ _ _ _ h => h.elim)
      · ktr_room
      · ktr_units
      · intro q hq; simp only [List.cons_append, List.nil_append, List.mem_cons, List.not_mem_nil, or_false] at hq ⊢; grind
      · k_extra "apt"
      rintro ⟨q2, s2, t2⟩ h2 tk2 ⟨hq2, hm2, hb2⟩ F2 N2 a2
      dsimp only at hq2 hm2 hb2 F2 N2 a2 ⊢
      simp only [List.cons_append, List.nil_append] at N2
      clear fX nX
      k_steps
      (with_reducible rename News _ _ _ _ => nX)
      (with_reducible rename Fr _ _ _ _ => fX)
      refine LCg.CompEnd.intro fX nX ((L' + 1, o1) :: plLed pl wl q2) ?_ ?_ trivial ⟨q2, xs ++ [s2], rfl, hq2, strs_app hst9 _ _, ?_⟩
      · intro q hq; simp only [List.cons_append, List.nil_append, List.mem_cons, List.not_mem_nil, or_false] at hq ⊢; grind
      · simp only [LCg.Off3, and_true]; exact off
      · rw [take_snoc ht9]
        exact hall.app ⟨alt_rs hm2 hb2, by have h1 := hb2.len; omega⟩
    · rintro ys news ⟨⟨vs', turn', tk', kk, kk2⟩, xs, rfl, hq', hst9, hall⟩
      unfold LCg.FinE
      intro D9 h9 tk9 F9 N9 o9
      (try dsimp only at N9)
      have hall2 := hall.full (by rw [List.size_toArray, hvl]; exact Nat.le_refl _)
      have hln := hall2.len
      have hB : ∀ x ∈ xs, x.length ≤ 30 * 4 ^ k' + 6 := fun x hx => by obtain ⟨_, h⟩ := hall2.right x hx; exact h.2
      have hB2 : ∀ x ∈ xs, x.length ≤ 7686 := fun x hx => le7686 (show k' ≤ 4 by omega) (hB x hx)
      k_steps
      (with_reducible rename News _ _ _ _ => nX)
      (with_reducible rename Fr _ _ _ _ => fX)
      have e9 : L (Str.ofString "|" ++ b9) = [] ++ 124 :: L b9 := by rw [L_app, show L (Str.ofString "|") = [124] by decide +kernel]; rfl
      have l9 : (Str.ofString "|" ++ b9).length ≤ 3 := by rw [L_len, e9, List.nil_append, List.length_cons, ← L_len]; omega
      refine join_list (nX.isList (.head _)) hst9 (sum_ok (by omega) l9 hB2) (fun t' kk9 => ?_)
      k_steps
      exact RetE.intro0 (⟨vs', turn', tk', kk, kk2⟩, _, _) fX (News.rest (News.rest nX)) rfl ⟨hq', shows_alt e9 (fun _ h => nomatch h) hb9.bl l9 (hall2.mono fun _ _ h => h.1) hlen hB⟩ rfl
  | opt ha ht =>
    have hT := tup_of ha
    obtain ⟨k', rfl, hg'⟩ := good_opt hg
    k_steps
    k_extra "oneIn"
    exact RetE.intro0 (q2, _, _) fX (News.two nX) rfl ⟨hq2, marks_opt hb9 hs2⟩ rfl
  | rep ha ht =>
    have hT := tup_of ha
    obtain ⟨k', rfl, hg'⟩ := good_rep hg
    k_steps
    k_extra "oneIn"
    exact RetE.intro0 (q2, _, _) fX (News.two nX) rfl ⟨hq2, marks_rep hb9 hs2⟩ rfl
theorem shown_all (pl wl : Addr) (hpw : @Ne Nat pl wl) (k : Nat) : k ≤ 4 →
    ((∀ (v : Value) (t : Tree) (q : PS), Good k t → PSok q → ShownSpec w p loose mean mg mb pl wl q k v t) ∧
    ∀ (v : Value) (t : Tree) (q : PS) (must : Bool), Good k t → PSok q → BrkSpec w p loose mean mg mb pl wl q k v t must) := by
  induction k using Nat.strongRecOn with
  | _ k IH =>
  intro hk
  have S : ∀ (v : Value) (t : Tree) (q : PS), Good k t → PSok q → ShownSpec w p loose mean mg mb pl wl q k v t := fun v t q hg hq =>
    shownS w p loose mean mg mb pl wl hpw k hk (fun m hm => (IH m hm (by omega)).1) (fun m hm => (IH m hm (by omega)).2) v t hg q hq
  exact ⟨S, fun v t q must hg hq => brkS w p loose mean mg mb pl wl hpw k hk v t (fun q hq => S v t q hg hq) q hq must⟩

end
theorem not_in0 {v : Str} (h : 10 ∉ L v) : (Builtin.Str.occurrences v (Str.ofString "\n") 0 v.length 1).isEmpty = true := by
  rw [ofs_nl, occ_one]; simpa using h
theorem occ34 {v : Str} : (Builtin.Str.occurrences v (Str.ofString "\"") 0 v.length 1).isEmpty = !(decide (34 ∈ L v)) := by rw [ofs_q2, occ_one]
theorem occ39 {v : Str} : (Builtin.Str.occurrences v (Str.ofString "'") 0 v.length 1).isEmpty = !(decide (39 ∈ L v)) := by rw [ofs_q1, occ_one]
abbrev ExprSpec (w : World) (p : Program) (loose : List Str) (mean : ExcName → Option Value) (mg mb : Str → Option Value) (k : Nat) (v : Value) (t : Tree) : Prop :=
  Spec w p loose mean mg mb 163 [v] (4 * k + 14) (40 * k + 250) [] (fun St => TreeAt St v t) (fun i : Str × Tok => .str i.1 i.2) (fun _ => []) (fun _ => []) (fun i => Shows k t i.1) NoErr
abbrev ItemSpec (w : World) (p : Program) (loose : List Str) (mean : ExcName → Option Value) (mg mb : Str → Option Value) (k : Nat) (v : Value) (t : Tree) (o : Str) (b : Bool) (to : Tok) : Prop :=
  Spec w p loose mean mg mb 158 [v, .str o to] (4 * k + 16) (40 * k + 270) [] (fun St => TreeAt St v t) (fun i : Str × Tok => .str i.1 i.2) (fun _ => []) (fun _ => []) (fun i => (b = true → ReadI (8 * k + 6) t (L i.1)) ∧ ReadS (8 * k + 8) t (L i.1) ∧ i.1.length ≤ 30 * 4 ^ k + 4) NoErr
def WrJ (R : Tree → Str → Prop) (ts : List Tree) (i : Nat) (ys : List Value) (news : Led) : Prop := ∃ xs : List Str, news = [] ∧ StrsAre ys xs ∧ All2 R (ts.take i) xs
theorem bl32 : Bl [32] := show ∀ c ∈ [32], isBl c = true by decide
theorem bl0 : Bl [] := fun _ h => nomatch h
theorem wr_brk {k o cl : Nat} {t : Tree} {s x y : Str} (ho : (o = 40 ∧ cl = 41) ∨ (o = 91 ∧ cl = 93) ∨ (o = 123 ∧ cl = 125)) (hs : Shows k t s) (hx : L x = [o, 32]) (hy : L y = [cl]) :
    Shows (k + 1) (brk o t) (x ++ (s ++ Str.ofString " ") ++ y) ∧ Shows (k + 1) (brk o t) (x ++ s ++ y) := by
  have h32 : L (Str.ofString " ") = [32] := by decide +kernel
  exact ⟨shows_brk (b1 := [32]) (b2 := [32]) ho bl32 bl32 hs (by rw [L_app, L_app, L_app, hx, hy, h32]; simp) (by decide),
    shows_brk (b1 := [32]) (b2 := []) ho bl32 bl0 hs (by rw [L_app, L_app, hx, hy]; simp) (by decide)⟩
theorem seq_must1 (t : Tree) : (tagOf t == Str.ofString "seq") = isSeq t := by
  cases t <;> simp only [tagOf, isSeq] <;> decide +kernel
theorem closed_post {k : Nat} {t : Tree} {s : Str} {b : Bool} (h : BrkM k t s) : (b = true → ReadI (8 * k + 6) t (L s)) ∧ ReadS (8 * k + 8) t (L s) ∧ s.length ≤ 30 * 4 ^ k + 4 :=
  ⟨fun _ => h.ri, (rs_item (by omega) h.ri).mono (by omega), h.len⟩
theorem open_post {k : Nat} {t : Tree} {s : Str} {b : Bool} (h : Shows k t s) (hA : isAlt t = false) (hS : isSeq t = false) : (b = true → ReadI (8 * k + 6) t (L s)) ∧ ReadS (8 * k + 8) t (L s) ∧ s.length ≤ 30 * 4 ^ k + 4 :=
  ⟨fun _ => h.brk.ri hA hS, h.brk.rs hA, h.brk.len⟩
theorem wr_par {k : Nat} {t : Tree} {s : Str} (hs : Shows k t s) : BrkM k t (Str.ofString "( " ++ s ++ Str.ofString " )") := by
  have e : L (Str.ofString "( " ++ s ++ Str.ofString " )") = 40 :: ([32] ++ (L s ++ ([32] ++ [41]))) := by
    rw [L_app, L_app, show L (Str.ofString "( ") = [40, 32] by decide +kernel, show L (Str.ofString " )") = [32, 41] by decide +kernel]; simp
  refine ⟨brk_of (.inl ⟨rfl, rfl⟩) bl32 bl32 hs e, ?_⟩
  have h2 := hs.len
  rw [L_len] at h2
  rw [L_len, e, List.length_cons, List.length_append, List.length_append]
  simp only [List.length_append, List.length_singleton]
  omega
theorem wr_nil {k : Nat} {t : Tree} {s : Str} (hs : Shows k t s) (hn : (s != Str.ofString "") = false) : BrkM k t (Str.ofString "( )") := by
  have es : s = Str.ofString "" := by simpa using hn
  have e : L (Str.ofString "( )") = 40 :: ([32] ++ (L s ++ ([] ++ [41]))) := by rw [es]; decide +kernel
  exact ⟨brk_of (b2 := []) (.inl ⟨rfl, rfl⟩) bl32 bl0 hs e, Nat.le_trans (show (Str.ofString "( )").length ≤ 4 by decide +kernel) (by omega)⟩
theorem seq_post {k : Nat} {l : List Tree} {s : Str} (h : Shows k (.seq l) s) : (false = true → ReadI (8 * k + 6) (.seq l) (L s)) ∧ ReadS (8 * k + 8) (.seq l) (L s) ∧ s.length ≤ 30 * 4 ^ k + 4 :=
  ⟨(fun h => nomatch h), h.brk.rs rfl, h.brk.len⟩
section
local macro_rules | `(tactic| walk_at "eval ListComp") => `(tactic| (k_here; k_dflt (refine ListComp_T (F₀ := by k_asm) (by with_unfolding_all rfl) (by decide) (by rfl) (by decide) (by rfl) ?_)))
local macro_rules | `(tactic| walk_at "TupSrc") => `(tactic| (k_here; refine hold ?_))
set_option maxRecDepth 100000 in
set_option maxHeartbeats 8000000 in
theorem literalS (v : Str) (t : Tok) (hv : v ∈ leafTexts) :
    Spec w p loose mean mg mb 151 [.str v t] 4 120 [] NoPre (fun i : Str × Tok => .str i.1 i.2) (fun _ => []) (fun _ => []) (fun i => ∀ k, Shows k (.text v) i.1) NoErr := by
  k_extra "sp_open"
  replace F : Fr g L' h₁ (fun y => List.lookup y [(Str.ofString "value", .str v t)]) := F
  obtain ⟨h1, h2, h3⟩ := texts_ok v hv
  have f0 := not_in0 h1
  by_cases h34 : 34 ∈ L v
  · have f1 : (Builtin.Str.occurrences v (Str.ofString "\"") 0 v.length 1).isEmpty = false := by rw [occ34, decide_eq_true h34]; rfl
    have f2 : (Builtin.Str.occurrences v (Str.ofString "'") 0 v.length 1).isEmpty = true := by rw [occ39, decide_eq_false (h2 h34)]; rfl
    k_steps
    exact RetE.intro0 (_, _) (by k_asm) N rfl (fun k => shows_text hv (by decide +kernel) (.inr rfl) (h2 h34)) rfl
  · have f1 : (Builtin.Str.occurrences v (Str.ofString "\"") 0 v.length 1).isEmpty = true := by rw [occ34, decide_eq_false h34]; rfl
    k_steps
    exact RetE.intro0 (_, _) (by k_asm) N rfl (fun k => shows_text hv (by decide +kernel) (.inl rfl) h34) rfl
set_option maxRecDepth 100000 in
set_option maxHeartbeats 8000000 in
theorem exprS (k : Nat) (hk : k ≤ 4)
    (IBs : ∀ m, m < k → ∀ (v : Value) (t : Tree) (to : Tok), Good m t → ItemSpec w p loose mean mg mb m v t (Str.ofString "seq") true to)
    (IBa : ∀ m, m < k → ∀ (v : Value) (t : Tree) (to : Tok), Good m t → ItemSpec w p loose mean mg mb m v t (Str.ofString "alt") false to)
    (IS : ∀ m, m < k → ∀ (v : Value) (t : Tree), Good m t → ExprSpec w p loose mean mg mb m v t)
    (v : Value) (t : Tree) (hg : Good k t) : ExprSpec w p loose mean mg mb k v t := by
  k_extra "sp_open"
  replace F : Fr g L' h₁ (fun y => List.lookup y [(Str.ofString "e", v)]) := F
  have htr := hpre.mono hst
  k_with "wrOne" => (
    (with_reducible rename News _ _ _ _ => nX)
    (with_reducible rename Fr _ _ _ _ => fX)
    refine Spec.use0 [] (IS k' (Nat.lt_succ_self _) _ _ hg') B fX X nX T rfl rfl rfl rfl ?_ ?_ (fun _ h => h) (Apart.nil_r _) (ht.mono fun a o h => .inl h) ?_ (fun _ _ _ _ _ _ h => h.elim)
    · ktr_room
    · ktr_units
    rintro ⟨s2, t2⟩ h2 tk2 hs2 F2 N2 a2
    dsimp only at hs2 F2 N2 a2 ⊢
    simp only [List.append_nil] at N2
    clear fX nX
    have hl2 := le7680 (show k' ≤ 4 by omega) hs2.len
    cases hn : (s2 != Str.ofString "")
    all_goals (k_steps)
    all_goals (with_reducible rename News _ _ _ _ => nX)
    all_goals (with_reducible rename Fr _ _ _ _ => fX))
  k_with "wrSeq" => (
    (with_reducible rename News _ _ _ _ => nX)
    (with_reducible rename Fr _ _ _ _ => fX)
    refine ⟨_, _, _, rfl, rfl, fX, nX, tup_of hb, (by rw [List.size_toArray, hvl, sizeLine_eq]; omega), fun g' => ?_⟩
    clear nX fX)
  k_with "wrTurn" => (
    rintro i ys news v I oI C oC D m₂ h tk E' hi ⟨xs, rfl, hst9, hall⟩ hv hC hx F' N' off ne
    obtain ⟨t9, ht9, hv9⟩ := hts.get (by simpa using hv)
    k_steps
    (with_reducible rename News _ _ _ _ => nX)
    (with_reducible rename Fr _ _ _ _ => fX)
    refine Spec.use0 [(I, oI), (C, oC), (D, LCg.lst ys)] (IX k' (Nat.lt_succ_self _) _ t9 _ (hgs _ (List.mem_of_getElem? ht9))) B fX X nX T rfl rfl rfl rfl ?_ ?_ (fun _ h => h) (Apart.nil_l _) (hv9.mono fun a o h => .inl h) ?_ (fun _ _ _ _ _ _ h => h.elim)
    · ktr_room
    · ktr_units
    rintro ⟨s2, t2⟩ h2 tk2 ⟨hm2, hr2, hb2⟩ F2 N2 a2
    dsimp only at hm2 hr2 hb2 F2 N2 a2 ⊢
    simp only [List.nil_append] at N2
    clear fX nX
    k_steps
    (with_reducible rename News _ _ _ _ => nX)
    (with_reducible rename Fr _ _ _ _ => fX)
    refine LCg.CompEnd.intro fX nX [] ?_ ?_ trivial ⟨xs ++ [s2], rfl, strs_app hst9 _ _, ?_⟩
    · exact fun _ h => h
    · exact trivial
    rw [take_snoc ht9])
  k_with "wrFin" => (
    rintro ys news ⟨xs, rfl, hst9, hall⟩
    unfold LCg.FinE
    intro D9 h9 tk9 F9 N9 o9
    have hall2 := hall.full (by rw [List.size_toArray, hvl]; exact Nat.le_refl _)
    have hln := hall2.len
    have hB : ∀ x ∈ xs, x.length ≤ 30 * 4 ^ k' + 6 := fun x hx => by obtain ⟨_, h⟩ := hall2.right x hx; exact h.2
    have hB2 : ∀ x ∈ xs, x.length ≤ 7686 := fun x hx => le7686 (show k' ≤ 4 by omega) (hB x hx)
    k_steps
    (with_reducible rename News _ _ _ _ => nX)
    (with_reducible rename Fr _ _ _ _ => fX)
    refine join_list (nX.isList (.head _)) hst9 (sum_ok (by omega) (by decide +kernel) hB2) (fun t' kk9 => ?_)
    k_steps)
  cases htr with
  | name ha =>
    have hT := tup_of ha
    k_steps
    (with_reducible rename News _ _ _ _ => nX)
    (with_reducible rename Fr _ _ _ _ => fX)
    exact RetE.intro0 (_, _) fX nX rfl (shows_name (good_name hg)) rfl
  | text ha =>
    have hT := tup_of ha
    k_steps
    (with_reducible rename News _ _ _ _ => nX)
    (with_reducible rename Fr _ _ _ _ => fX)
    refine Spec.use0 [] (literalS w p loose mean mg mb _ _ (good_text hg)) B fX X nX T rfl rfl rfl rfl ?_ ?_ (fun _ h => h) (Apart.nil_r _) trivial ?_ (fun _ _ _ _ _ _ h => h.elim)
    · ktr_room
    · ktr_units
    rintro ⟨s2, t2⟩ h2 tk2 hs2 F2 N2 a2
    dsimp only at hs2 F2 N2 a2 ⊢
    simp only [List.append_nil] at N2
    clear fX nX
    k_steps
    exact RetE.intro0 (_, _) F2 N2 rfl (hs2 _) rfl
  | @seq a0 b0 u0 vs0 l0 ha hb hts =>
    have hT := tup_of ha
    obtain ⟨k', rfl, hlen, hgs⟩ := good_seq hg
    have hvl := hts.len
    k_steps
    k_extra "wrSeq"
    refine compInv (WrJ (fun t x => Piece (8 * k' + 6) t (L x) ∧ x.length ≤ 30 * 4 ^ k' + 6) l0) ?_ ?_ _ 0 [] _ (Nat.zero_add _) ⟨[], rfl, .nil, .nil⟩
    · have IX := IBs
      k_extra "wrTurn"
      exact hall.app ⟨⟨L s2, [], by rw [List.append_nil], hm2 rfl, bl0⟩, by omega⟩
    · k_extra "wrFin"
      exact RetE.intro0 (_, _) fX (News.rest nX) rfl (shows_seq (show ∀ c ∈ L (Str.ofString " "), isBl c = true by decide +kernel) (by decide +kernel) (by decide +kernel) (hall2.mono fun _ _ h => h.1) hlen hB) rfl
  | @alt a0 b0 u0 vs0 l0 ha hb hts =>
    have hT := tup_of ha
    obtain ⟨k', rfl, hlen, hgs⟩ := good_alt hg
    have hvl := hts.len
    k_steps
    k_extra "wrSeq"
    refine compInv (WrJ (fun t x => ReadS (8 * k' + 8) t (L x) ∧ x.length ≤ 30 * 4 ^ k' + 6) l0) ?_ ?_ _ 0 [] _ (Nat.zero_add _) ⟨[], rfl, .nil, .nil⟩
    · have IX := IBa
      k_extra "wrTurn"
      exact hall.app ⟨hr2, by omega⟩
    · k_extra "wrFin"
      exact RetE.intro0 (_, _) fX (News.rest nX) rfl (shows_alt (b1 := [32]) (b2 := [32]) (by decide +kernel) bl32 bl32 (by decide +kernel) (hall2.mono fun _ _ h => h.1) hlen hB) rfl
  | opt ha ht =>
    have hT := tup_of ha
    obtain ⟨k', rfl, hg'⟩ := good_opt hg
    k_steps
    k_extra "wrOne"
    · exact RetE.intro0 (_, _) fX nX rfl (wr_brk (.inr (.inl ⟨rfl, rfl⟩)) hs2 (by decide +kernel) (by decide +kernel)).2 rfl
    · exact RetE.intro0 (_, _) fX nX rfl (wr_brk (.inr (.inl ⟨rfl, rfl⟩)) hs2 (by decide +kernel) (by decide +kernel)).1 rfl
  | rep ha ht =>
    have hT := tup_of ha
    obtain ⟨k', rfl, hg'⟩ := good_rep hg
    k_steps
    k_extra "wrOne"
    · exact RetE.intro0 (_, _) fX nX rfl (wr_brk (.inr (.inr ⟨rfl, rfl⟩)) hs2 (by decide +kernel) (by decide +kernel)).2 rfl
    · exact RetE.intro0 (_, _) fX nX rfl (wr_brk (.inr (.inr ⟨rfl, rfl⟩)) hs2 (by decide +kernel) (by decide +kernel)).1 rfl
set_option maxRecDepth 100000 in
set_option maxHeartbeats 8000000 in
theorem itemWS (k : Nat) (hk : k ≤ 4) (v : Value) (t : Tree) (ES : ExprSpec w p loose mean mg mb k v t) (hg : Good k t) (o : Str) (b : Bool) (ho : o = Str.ofString "seq" ∧ b = true ∨ o = Str.ofString "alt" ∧ b = false) (to : Tok) : ItemSpec w p loose mean mg mb k v t o b to := by
  k_extra "sp_open"
  replace F : Fr g L' h₁ (fun y => List.lookup y [(Str.ofString "outer", .str o to), (Str.ofString "e", v)]) := F
  have htr := hpre.mono hst
  k_with "wrClosed" => (
    cases hn : (s2 != Str.ofString "")
    all_goals (k_steps)
    all_goals (with_reducible rename News _ _ _ _ => nX)
    all_goals (with_reducible rename Fr _ _ _ _ => fX)
    · exact RetE.intro0 (_, _) fX nX rfl (closed_post (wr_nil hs2 hn)) rfl
    · exact RetE.intro0 (_, _) fX nX rfl (closed_post (wr_par hs2)) rfl)
  k_steps
  (with_reducible rename News _ _ _ _ => nX)
  (with_reducible rename Fr _ _ _ _ => fX)
  refine Spec.use0 [] ES B fX X nX T rfl rfl rfl rfl ?_ ?_ (fun _ h => h) (Apart.nil_r _) (htr.mono fun a o h => .inl h) ?_ (fun _ _ _ _ _ _ h => h.elim)
  · ktr_room
  · ktr_units
  rintro ⟨s2, t2⟩ h2 tk2 hs2 F2 N2 a2
  dsimp only at hs2 F2 N2 a2 ⊢
  simp only [List.append_nil] at N2
  clear fX nX
  have hl2 := le7680 hk hs2.len
  cases hA : isAlt t with
  | true =>
    obtain ⟨a9, x9, u9, rfl, ha9⟩ := htr.view
    have hT9 := tup_of ha9
    have fA : (tagOf t == Str.ofString "alt") = true := by rw [alt_must, hA]
    k_extra "wrClosed"
  | false =>
    have fA : (tagOf t == Str.ofString "alt") = false := by rw [alt_must, hA]
    cases hS : isSeq t with
    | false =>
      obtain ⟨a9, x9, u9, rfl, ha9⟩ := htr.view
      have hT9 := tup_of ha9
      have fS : (tagOf t == Str.ofString "seq") = false := by rw [seq_must1, hS]
      k_steps
      (with_reducible rename News _ _ _ _ => nX)
      (with_reducible rename Fr _ _ _ _ => fX)
      exact RetE.intro0 (_, _) fX nX rfl (open_post hs2 hA hS) rfl
    | true =>
      cases htr with
      | @seq a0 b0 u0 vs0 l0 ha hb hts =>
        have hT9 := tup_of ha
        have hTb := tup_of hb
        obtain ⟨k', rfl, hlen, hgs⟩ := good_seq hg
        have hvl := hts.len
        rcases ho with ⟨rfl, rfl⟩ | ⟨rfl, rfl⟩
        · k_extra "wrClosed"
        · k_steps
          (with_reducible rename News _ _ _ _ => nX)
          (with_reducible rename Fr _ _ _ _ => fX)
          refine len_tuple (fX.tup hTb) (by rw [List.size_toArray]; omega) ?_
          have fL : ((vs0.toArray.size : Int) == 1) = false := by rw [List.size_toArray]; exact beq_eq_false_iff_ne.mpr (by omega)
          k_steps
          (with_reducible rename News _ _ _ _ => nX)
          (with_reducible rename Fr _ _ _ _ => fX)
          exact RetE.intro0 (_, _) fX nX rfl (seq_post hs2) rfl
      | name _ => cases hS
      | text _ => cases hS
      | alt _ _ _ => cases hS
      | opt _ _ => cases hS
      | rep _ _ => cases hS
theorem writer_all (k : Nat) : k ≤ 4 → ∀ (v : Value) (t : Tree), Good k t → ExprSpec w p loose mean mg mb k v t := by
  induction k using Nat.strongRecOn with
  | _ k IH =>
  intro hk v t hg
  exact exprS w p loose mean mg mb k hk
    (fun m hm v t to hg => itemWS w p loose mean mg mb m (by omega) v t (IH m hm (by omega) v t hg) hg _ true (.inl ⟨rfl, rfl⟩) to)
    (fun m hm v t to hg => itemWS w p loose mean mg mb m (by omega) v t (IH m hm (by omega) v t hg) hg _ false (.inr ⟨rfl, rfl⟩) to)
    (fun m hm v t hg => IH m hm (by omega) v t hg) v t hg

end
section
open PyProof.Rows.LCg
variable {prog : Program} {w : World} {A : Around} {E : Value → Shared → Prop} {s : Shared} {h₀ : Heap} {env : Env}
def ForStep (h₀ : Heap) (L : Addr) (s : Shared) (I : Addr) (oI : Obj) (J : (Str → Option Value) → Led → Prop) (Q : Flow → Shared → Prop) (f : Flow) (s₃ : Shared) : Prop :=
  match f with
  | .next | .cont => ∃ h' tk m' news', s₃ = { s with heap := h', toks := tk } ∧ Fr h₀ L h' m' ∧ News h₀ L h' ((I, oI) :: news') ∧ (∀ p ∈ news', p.1 ≠ I) ∧ J m' news'
  | .brk => Q .next s₃
  | .ret v => Q (.ret v) s₃
theorem codeFor {R : Result → Shared → Prop} {target : Expr} {body : List Stmt} {I : Addr} {fp : List Addr} {n : Nat} {P : Nat → Value → Prop} {St : Nat → Heap → Prop} {S : Led → Prop} {m : Str → Option Value} {news : Led}
    (W : Walks prog w A I fp [I] n P St) (hIo : ∀ i h, St i h → ∃ o, h.get? I = some o)
    (hSt : ∀ i h h' o nw, St i h → h.get? I = some o → h'.get? I = some o → (∀ b o, h₀.get? b = some o → h'.get? b = some o) → News h₀ env.locals h' nw → S nw → St i h')
    (hgo : ∀ i (s' : Shared) v (Q' : Unit → Shared → Prop), St (i + 1) s'.heap → P i v → Q' () s' → wpAny (model prog w) A (letOwnedTupleGo target (.ref I) v) Q' (notedBy (model prog w) A env fun e s' => R (.error e) s') s')
    (J : Nat → (Str → Option Value) → Led → Prop) (hJS : ∀ i m nw, J i m nw → S nw)
    (hst : St 0 s.heap) (F : Fr h₀ env.locals s.heap m) (N : News h₀ env.locals s.heap news) (hIL : env.locals ≠ I) (hI₀ : h₀.get? I = none) (off : ∀ p ∈ news, p.1 ≠ I) (hj : J 0 m news)
    (turn : ∀ i m₁ nw v oI h tk, i < n → J i m₁ nw → P i v → Fr h₀ env.locals h m₁ → News h₀ env.locals h ((I, oI) :: nw) → (∀ p ∈ nw, p.1 ≠ I) →
      wpAny (model prog w) A (assign target env v) (fun _ s₂ => wpAny (model prog w) A (execs body env) (ForStep h₀ env.locals s I oI (J (i + 1)) fun f s' => R (.ok f) s') (notedBy (model prog w) A env fun e s' => R (.error e) s') s₂)
        (notedBy (model prog w) A env fun e s' => R (.error e) s') { s with heap := h, toks := tk })
    (fin : ∀ m₁ nw h tk, J n m₁ nw → Fr h₀ env.locals h m₁ → News h₀ env.locals h nw → R (.ok .next) { s with heap := h, toks := tk }) :
    codeAny (model prog w) A (.forLoop target (.ref I) body [] env) R s := by
  refine codeAny_forLoop_any
    (fun k s' => ∃ h' tk m' nw i, s' = { s with heap := h', toks := tk } ∧ St i h' ∧ Fr h₀ env.locals h' m' ∧ News h₀ env.locals h' nw ∧ (∀ p ∈ nw, p.1 ≠ I) ∧ J i m' nw ∧ i ≤ n ∧ k = n + 1 - i) ?_ (n + 1)
    ⟨s.heap, s.toks, m, news, 0, rfl, hst, F, N, off, hj, Nat.zero_le _, rfl⟩
  rintro k s' ⟨h', tk, m', nw, i, rfl, hst', F', N', off', hJ, hi, rfl⟩
  by_cases hlt : i < n
  · refine W.item i _ _ _ hlt hst' fun v h₁ tk₁ hP hst₁ hk₁ => ?_
    obtain ⟨oI, heI⟩ := hIo _ _ hst₁
    have F₁ : Fr h₀ env.locals h₁ m' := fr_but F' hk₁ hIL hI₀
    have N₁ : News h₀ env.locals h₁ nw := news_but N' hk₁ off'
    refine hgo i _ v _ hst₁ hP ?_
    refine wpAny_mono (turn i m' nw v oI h₁ tk₁ hlt hJ hP F₁ (fun p hp => ?_) off') (fun _ s₂ h₂ => wpAny_mono h₂ (fun f s₃ h₃ => ?_) fun _ _ e => e) fun _ _ e => e
    · rcases List.mem_cons.mp hp with rfl | hp
      · exact ⟨heI, Ne.symm hIL, hI₀⟩
      · exact N₁ p hp
    have step : ForStep h₀ env.locals s I oI (J (i + 1)) (fun f s' => R (.ok f) s') .next s₃ → ∃ m, m < n + 1 - i ∧ ∃ h' tk m' nw i, s₃ = { s with heap := h', toks := tk } ∧ St i h' ∧ Fr h₀ env.locals h' m' ∧ News h₀ env.locals h' nw ∧ (∀ p ∈ nw, p.1 ≠ I) ∧ J i m' nw ∧ i ≤ n ∧ m = n + 1 - i := by
      rintro ⟨h₂', tk₂, m₂, nw₂, rfl, F₂, N₂, off₂, hJ₂⟩
      exact ⟨n + 1 - (i + 1), by omega, h₂', tk₂, m₂, nw₂, i + 1, rfl, hSt _ _ _ _ nw₂ hst₁ heI (N₂ _ (.head _)).1 F₂.keep (fun p hp => N₂ p (.tail _ hp)) (hJS _ _ _ hJ₂), F₂, (fun p hp => N₂ p (.tail _ hp)), off₂, hJ₂, hlt, rfl⟩
    cases f with
    | ret v => exact h₃
    | brk => exact h₃
    | cont => exact step h₃
    | next => exact step h₃
  · obtain rfl : i = n := by omega
    refine W.done _ _ _ hst' fun h₁ tk₁ hk₁ => wpAny_execs_nil ?_
    exact fin m' nw h₁ tk₁ hJ (fr_but F' hk₁ hIL hI₀) (news_but N' hk₁ off')
/-- a for over a list, its turns by an invariant -/
def ForL (Tv : Value → Prop) (prog : Program) (w : World) (A : Around) (h₀ : Heap) (env : Env) (target : Expr) (body : List Stmt) (Q : Flow → Shared → Prop) (E : Value → Shared → Prop) (xv : Value) (s : Shared) : Prop :=
  ∃ (ax : Addr) (its : Array Value) (m : Str → Option Value) (news : Led) (J : Nat → (Str → Option Value) → Led → Prop), xv = .ref ax ∧ A.handled = none ∧ Fr h₀ env.locals s.heap m ∧ News h₀ env.locals s.heap news ∧ SrcAt h₀ ax its news ∧ (∀ (i : Nat) (v : Value), its[i]? = some v → Tv v) ∧
    (∀ i m nw, J i m nw → SrcAt h₀ ax its nw) ∧ J 0 m news ∧
    (∀ i m₁ nw v I oI h tk, its[i]? = some v → J i m₁ nw → Fr h₀ env.locals h m₁ → News h₀ env.locals h ((I, oI) :: nw) → (∀ p ∈ nw, p.1 ≠ I) →
      wpAny (model prog w) A (assign target env v) (fun _ s₂ => wpAny (model prog w) A (execs body env) (ForStep h₀ env.locals s I oI (J (i + 1)) Q) E s₂) E { s with heap := h, toks := tk }) ∧
    (∀ m₁ nw h tk, J its.size m₁ nw → Fr h₀ env.locals h m₁ → News h₀ env.locals h nw → Q .next { s with heap := h, toks := tk })
theorem For_L {E : Value → Shared → Prop} {Q : Flow → Shared → Prop} {target iter : Expr} {pos : Pos} {body : List Stmt} {m : Str → Option Value} (Tv : Value → Prop) (_F : Fr h₀ env.locals s.heap m)
    (hgo : ∀ I i ax (s' : Shared) v (Q' : Unit → Shared → Prop) (E' : Value → Shared → Prop), Tv v → s'.heap.IsListIter I ax i → Q' () s' → wpAny (model prog w) A (letOwnedTupleGo target (.ref I) v) Q' E' s')
    (h : wpAny (model prog w) A (eval iter env) (ForL Tv prog w A h₀ env target body Q E) E s)
    (hs : ∀ x, foldedSetIterable iter env x = pure x := by intro _; rfl)
    (hE : PassesOwn (model prog w) A env E := by passes_own) :
    wpAny (model prog w) A (exec (.For target iter body [] pos) env) Q E s := by
  refine wpAny_For (wpAny_mono h (fun xv s₁ h₁ => ?_) fun _ _ e => e) hs
  obtain ⟨ax, its, m, news, J, rfl, hh, F, N, S, hTv, hJS, hj, turn, fin⟩ := h₁
  have hl := S.list F.keep N
  have hlt : ax < s₁.heap.objs.size := by obtain ⟨_, e, _⟩ := hl; exact Heap.lt_size e
  refine wpAny_pyIter_list hl ?_
  have up : ∀ b o, s₁.heap.get? b = some o → (s₁.heap.push { cls := .type "list_iterator", data := .fields #[.ref ax, .int 0 0] }).get? b = some o := fun b o e => Heap.get?_push_of_some _ e
  refine codeFor (R := fun r s' => match r with | .ok f => Q f s' | .error e => cameBackBy (model prog w) A env E e s') (Walks.list hh s₁.heap.objs.size ax (Nat.ne_of_lt hlt) its) (fun i h st => by obtain ⟨o, e, _⟩ := st.1; exact ⟨o, e⟩) list_st
    (fun i s' v Q' st hP q => hgo _ _ _ _ _ _ _ (hTv i v hP) st.1 q) J hJS ⟨⟨_, Heap.get?_push_size _ rfl, rfl, rfl⟩, hl.push _⟩ (F.keeps up) (N.grown up) (Nat.ne_of_lt F.ns.lt) (next_is_new F) (fun p hp => Nat.ne_of_lt (Heap.lt_size (N p hp).1)) hj
    (fun i m₁ nw v oI h tk hi hJ hP F₁ N₁ off => ?_) (fun m₁ nw h tk hJ F₁ N₁ => fin m₁ nw h tk hJ F₁ N₁)
  exact wpAny_mono (turn i m₁ nw v _ oI h tk hP hJ F₁ N₁ off) (fun _ s₂ h₂ => wpAny_mono h₂ (fun f s₃ h₃ => h₃) hE) hE
/-- a for over a range -/
def ForR (prog : Program) (w : World) (A : Around) (h₀ : Heap) (env : Env) (target : Expr) (body : List Stmt) (Q : Flow → Shared → Prop) (E : Value → Shared → Prop) (xv : Value) (s : Shared) : Prop :=
  ∃ (r : Addr) (a b : Int) (t u v : Tok) (n : Nat) (m : Str → Option Value) (news : Led) (J : Nat → (Str → Option Value) → Led → Prop), xv = .ref r ∧ A.handled = none ∧ Fr h₀ env.locals s.heap m ∧ News h₀ env.locals s.heap news ∧ IsRange s.heap r a b 1 t u v ∧
    Builtin.Range.small a b 1 = true ∧ Builtin.Range.rangeSize a b 1 = ((n : Nat) : Int) ∧ J 0 m news ∧
    (∀ i m₁ nw z I oI h tk, i < n → J i m₁ nw → Fr h₀ env.locals h m₁ → News h₀ env.locals h ((I, oI) :: nw) → (∀ p ∈ nw, p.1 ≠ I) →
      wpAny (model prog w) A (assign target env (.int (a + (i : Int)) z)) (fun _ s₂ => wpAny (model prog w) A (execs body env) (ForStep h₀ env.locals s I oI (J (i + 1)) Q) E s₂) E { s with heap := h, toks := tk }) ∧
    (∀ m₁ nw h tk, J n m₁ nw → Fr h₀ env.locals h m₁ → News h₀ env.locals h nw → Q .next { s with heap := h, toks := tk })
theorem For_R {E : Value → Shared → Prop} {Q : Flow → Shared → Prop} {x : Str} {px : Pos} {iter : Expr} {pos : Pos} {body : List Stmt} {m : Str → Option Value} (_F : Fr h₀ env.locals s.heap m)
    (h : wpAny (model prog w) A (eval iter env) (ForR prog w A h₀ env (.Name x px) body Q E) E s)
    (hs : ∀ x, foldedSetIterable iter env x = pure x := by intro _; rfl)
    (hE : PassesOwn (model prog w) A env E := by passes_own) :
    wpAny (model prog w) A (exec (.For (.Name x px) iter body [] pos) env) Q E s := by
  refine wpAny_For (wpAny_mono h (fun xv s₁ h₁ => ?_) fun _ _ e => e) hs
  obtain ⟨r, a, b, t, u, v, n, m, news, J, rfl, hh, F, N, hr, hsm, hn, hj, turn, fin⟩ := h₁
  refine wpAny_pyIter_range hr hsm ?_
  refine codeFor (S := fun _ => True) (R := fun r s' => match r with | .ok f => Q f s' | .error e => cameBackBy (model prog w) A env E e s') (range_walks hh a n) (fun i h st => ⟨_, st⟩) range_st
    (fun i s' v Q' st _ q => wpAny_of_eq rfl q) J (fun _ _ _ _ => trivial) (by show IsRangeIter _ _ _ _ _; rw [hn]; simpa using Heap.get?_push_size _ rfl) (F.keeps fun _ _ e => Heap.get?_push_of_some _ e) (N.grown fun _ _ e => Heap.get?_push_of_some _ e) (Nat.ne_of_lt F.ns.lt) (next_is_new F) (fun p hp => Nat.ne_of_lt (Heap.lt_size (N p hp).1)) hj
    (fun i m₁ nw v oI h tk hi hJ hP F₁ N₁ off => ?_) (fun m₁ nw h tk hJ F₁ N₁ => fin m₁ nw h tk hJ F₁ N₁)
  obtain ⟨z, rfl⟩ := hP
  exact wpAny_mono (turn i m₁ nw z _ oI h tk hi hJ F₁ N₁ off) (fun _ s₂ h₂ => wpAny_mono h₂ (fun f s₃ h₃ => h₃) hE) hE
def isRefV (v : Value) : Prop := ∃ T, v = .ref T
theorem goTup {elts : List Expr} {x1} {pos : Pos} (I : Addr) (i : Nat) (ax : Addr) (s' : Shared) (v : Value) (Q' : Unit → Shared → Prop) (E' : Value → Shared → Prop) (hv : isRefV v) (h : s'.heap.IsListIter I ax i) (q : Q' () s') : wpAny (model prog w) A (letOwnedTupleGo (.Tuple elts x1 pos) (.ref I) v) Q' E' s' := by
  obtain ⟨T, rfl⟩ := hv
  exact wpAny_letOwnedTupleGo_listiter h q
theorem goName {x : Str} {pos : Pos} (I : Addr) (i : Nat) (ax : Addr) (s' : Shared) (v : Value) (Q' : Unit → Shared → Prop) (E' : Value → Shared → Prop) (_ : True) (h : s'.heap.IsListIter I ax i) (q : Q' () s') : wpAny (model prog w) A (letOwnedTupleGo (.Name x pos) (.ref I) v) Q' E' s' := wpAny_of_eq rfl q
end

theorem Res.bind_assoc {α β γ : Type} (x : Res α) (f : α → Res β) (g : β → Res γ) : (x.bind f).bind g = x.bind fun a => (f a).bind g := by cases x <;> rfl
theorem Res.bind_id {α : Type} (x : Res α) : (x.bind fun a => .ok a) = x := by cases x <;> rfl
/-- s, ahead of anything, is read as these rows -/
def Rd (N : Nat) (rows : List (Str × Tree)) (s : List Nat) : Prop := ∀ n tail, (lex (s ++ tail)).bind (pRules N (rows.length + n)) = ((lex tail).bind (pRules N n)).bind fun l => .ok (rows ++ l)
theorem rd_nil {N : Nat} {b : List Nat} (hb : Bl b) : Rd N [] b := fun n tail => by
  rw [lex_bl hb, List.length_nil, Nat.zero_add]
  simp only [List.nil_append]
  rw [Res.bind_id]
theorem rd_app {N : Nat} {r1 r2 : List (Str × Tree)} {s1 s2 : List Nat} (h1 : Rd N r1 s1) (h2 : Rd N r2 s2) : Rd N (r1 ++ r2) (s1 ++ s2) := fun n tail => by
  rw [List.append_assoc, List.length_append, Nat.add_assoc, h1, h2, Res.bind_assoc]
  simp only [Res.ok_bind2, List.append_assoc]
def NameL (s : List Nat) : Prop := ∃ c r, s = c :: r ∧ isSt c = true ∧ ∀ c ∈ r, isNm c = true
theorem rd_row {N f : Nat} {t : Tree} {nm b1 b2 b3 sh b4 b5 : List Nat} (hn : NameL nm) (h1 : Bl b1) (h2 : Bl b2) (h3 : Bl b3) (h4 : Bl b4) (h5 : Bl b5) (hf : f ≤ N) (h : ReadA f t sh) :
    Rd N [(txt nm, t)] (b1 ++ (nm ++ (b2 ++ 61 :: (b3 ++ (sh ++ (b4 ++ 46 :: b5)))))) := by
  intro n tail
  obtain ⟨c, r, rfl, hc, hr⟩ := hn
  have e1 : (b1 ++ ((c :: r) ++ (b2 ++ 61 :: (b3 ++ (sh ++ (b4 ++ 46 :: b5)))))) ++ tail = b1 ++ ((c :: r) ++ (b2 ++ 61 :: (b3 ++ (sh ++ (b4 ++ 46 :: (b5 ++ tail)))))) := by simp
  obtain ⟨tk, e4, e5⟩ := h N hf (b4 ++ 46 :: (b5 ++ tail)) _ (.bl h4 (.cons (by decide))) ((lex_bl h4).trans (lex_mk (by decide))) (show starts (one 46) = false by decide) (show one 46 ≠ one 124 by decide)
  rw [e1, lex_bl h1, lex_name hc hr (.bl h2 (.cons (by decide))), Res.ok_bind2, List.length_singleton, Nat.add_comm 1 n, pRules, if_neg (show ¬ sName = sEnd by decide)]
  simp only [expectR, if_true]
  rw [lex_bl h2, lex_mk (by decide)]
  simp only [Res.ok_bind2, if_true]
  rw [lex_bl h3, e4]
  simp only [Res.ok_bind2, e5, if_true]
  rw [lex_bl h5]
  cases lex tail <;> rfl
theorem rd_end {N : Nat} {rows : List (Str × Tree)} {s : Str} (h : Rd N rows (L s)) : readR N (rows.length + 1) s = .ok rows := by
  have := h 1 []
  rw [List.append_nil] at this
  have e : (lex []).bind (pRules N 1) = .ok [] := rfl
  rw [e, Res.ok_bind2, List.append_nil] at this
  exact this
theorem rd_fault {N n : Nat} {rows : List (Str × Tree)} {s : Str} {tail l1 : List Nat} {wh : Str} (h : Rd N rows (L s)) (x : Str) (hx : L x = L s ++ tail) (e : (lex tail).bind (pRules N n) = .err wh l1) : readR N (rows.length + n) x = .err wh l1 := by
  have := h n tail
  rw [← hx, e] at this
  exact this

def GoodRows (l : List (Str × Tree)) : Prop := l.length ≤ 3 ∧ ∀ r ∈ l, NameL (L r.1) ∧ r.1.length ≤ 10 ∧ Good 4 r.2
/-- a row of the writer -/
def RowText (r : Str × Tree) (x : Str) : Prop := Rd 40 [r] (L x) ∧ x.length ≤ 7710
abbrev grM (ax rl : Addr) (o1 o2 o3 : Option Value) : Str → Option Value := fun y => if y = Str.ofString "shown" then o1 else if y = Str.ofString "e" then o2 else if y = Str.ofString "name" then o3 else if y = Str.ofString "rows" then some (.ref rl) else if y = Str.ofString "rules" then some (.ref ax) else none
def GrJ (ax : Addr) (l : List (Str × Tree)) (rl : Addr) (i : Nat) (m : Str → Option Value) (news : Led) : Prop :=
  ∃ (vs : List Value) (xs : List Str) (k : Nat) (o1 o2 o3 : Option Value), m = grM ax rl o1 o2 o3 ∧ news = [(rl, listOf vs.toArray k)] ∧ StrsAre vs xs ∧ All2 RowText (l.take i) xs
theorem Fr.congr {h₀ h : Heap} {Lx : Addr} {m m' : Str → Option Value} (F : Fr h₀ Lx h m) (e : ∀ y, m y = m' y) : Fr h₀ Lx h m' := by rw [← (funext e : m = m')]; exact F
theorem RowsAt.get {St : Addr → Obj → Prop} : ∀ {vs : List Value} {l : List (Str × Tree)} {i : Nat} {v : Value}, RowsAt St vs l → vs[i]? = some v → ∃ a nm t1 v' e, v = .ref a ∧ l[i]? = some (nm, e) ∧ St a (TupO [.str nm t1, v']) ∧ TreeAt St v' e
  | _, _, _, _, .nil, h => by simp at h
  | _, _, 0, _, .cons x y _, h => by simp only [List.getElem?_cons_zero, Option.some.injEq] at h; subst h; exact ⟨_, _, _, _, _, rfl, rfl, x, y⟩
  | _, _, i + 1, _, .cons _ _ z, h => by simp only [List.getElem?_cons_succ] at h ⊢; exact z.get h
theorem gr0 (ax rl : Addr) : ∀ y, (if y = Str.ofString "rows" then some (.ref rl) else List.lookup y [(Str.ofString "rules", Value.ref ax)]) = grM ax rl none none none y := fun y => by
  by_cases h1 : y = Str.ofString "rows"
  · subst h1; rfl
  by_cases h2 : y = Str.ofString "rules"
  · subst h2; rfl
  have h3 : (y == Str.ofString "rules") = false := beq_eq_false_iff_ne.mpr h2
  simp only [grM, h1, h2, if_false, List.lookup, h3]
  split
  · rfl
  split
  · rfl
  split <;> rfl
theorem gr1 (ax rl : Addr) (o1 o2 o3 a b c : Option Value) : ∀ y, (if y = Str.ofString "shown" then a else if y = Str.ofString "e" then b else if y = Str.ofString "name" then c else grM ax rl o1 o2 o3 y) = grM ax rl a b c y := fun y => by
  by_cases h1 : y = Str.ofString "shown"
  · simp only [grM, h1, if_true]
  by_cases h2 : y = Str.ofString "e"
  · simp only [grM, h1, h2, if_false, if_true]
  by_cases h3 : y = Str.ofString "name"
  · simp only [grM, h1, h2, h3, if_false, if_true]
  simp only [grM, h1, h2, h3, if_false]
theorem gr2 (ax rl : Addr) (o1 o2 o3 z a b c : Option Value) : ∀ y, (if y = Str.ofString "shown" then a else if y = Str.ofString "shown" then z else if y = Str.ofString "e" then b else if y = Str.ofString "name" then c else grM ax rl o1 o2 o3 y) = grM ax rl a b c y := fun y => by
  by_cases h1 : y = Str.ofString "shown"
  · simp only [grM, h1, if_true]
  rw [if_neg h1, if_neg h1, ← gr1 ax rl o1 o2 o3 a b c, if_neg h1]
theorem strs_len : ∀ {vs : List Value} {ys : List Str}, StrsAre vs ys → vs.length = ys.length
  | _, _, .nil => rfl
  | _, _, .cons _ _ h => by rw [List.length_cons, List.length_cons, strs_len h]
theorem upd2 {I rl : Addr} {oI o o' : Obj} (h : @Ne Nat I rl) : Upd rl o o' [(I, oI), (rl, o)] [(I, oI), (rl, o')] := .tail h (.head fun _ h => nomatch h)
theorem row_of {r : Str × Tree} {s2 y : Str} {b : List Nat} (hb : Bl b) (hbl : b.length ≤ 1) (hn : NameL (L r.1)) (hnl : r.1.length ≤ 10) (hs : Shows 4 r.2 s2) (e : L y = L s2 ++ b) : RowText r (r.1 ++ Str.ofString " = " ++ y ++ Str.ofString ".\n") := by
  have e2 : L (r.1 ++ Str.ofString " = " ++ y ++ Str.ofString ".\n") = [] ++ (L r.1 ++ ([32] ++ 61 :: ([32] ++ (L s2 ++ (b ++ 46 :: [10]))))) := by
    rw [L_app, L_app, L_app, e, show L (Str.ofString " = ") = [32, 61, 32] by decide +kernel, show L (Str.ofString ".\n") = [46, 10] by decide +kernel]; simp
  refine ⟨?_, ?_⟩
  · rw [e2]
    exact rd_row (nm := L r.1) hn bl0 bl32 bl32 hb (show ∀ c ∈ [10], isBl c = true by decide) (by decide) hs.ra
  · have h2 := hs.len
    rw [L_len] at h2 hnl
    rw [L_len, e2]
    simp only [List.length_append, List.length_cons, List.length_nil]
    omega
theorem row_text0 {nm : Str} {e : Tree} {s2 : Str} (hn : NameL (L nm)) (hnl : nm.length ≤ 10) (hs : Shows 4 e s2) : RowText (nm, e) (nm ++ Str.ofString " = " ++ s2 ++ Str.ofString ".\n") :=
  row_of (r := (nm, e)) bl0 (by decide) hn hnl hs (List.append_nil _).symm
theorem row_text1 {nm : Str} {e : Tree} {s2 : Str} (hn : NameL (L nm)) (hnl : nm.length ≤ 10) (hs : Shows 4 e s2) : RowText (nm, e) (nm ++ Str.ofString " = " ++ (s2 ++ Str.ofString " ") ++ Str.ofString ".\n") :=
  row_of (r := (nm, e)) bl32 (by decide) hn hnl hs (by rw [L_app, show L (Str.ofString " ") = [32] by decide +kernel])
theorem moreL_nil : ∀ xs : List (List Nat), moreL [] xs = joinL [] xs
  | [] => rfl
  | x :: r => by show [] ++ (x ++ moreL [] r) = x ++ moreL [] r; rfl
theorem rows_rd {l : List (Str × Tree)} {xs : List Str} (h : All2 RowText l xs) : Rd 40 l (joinL [] (xs.map L)) := by
  induction h with
  | nil => exact rd_nil bl0
  | @cons a b l r x y ih =>
    show Rd 40 (a :: l) (L b ++ moreL [] (r.map L))
    rw [moreL_nil]
    exact rd_app (r1 := [a]) x.1 ih
theorem rows_join {l : List (Str × Tree)} {xs : List Str} (h : All2 RowText l xs) (hl : l.length ≤ 3) : Rd 40 l (L (Txt.join (Str.ofString "") xs)) ∧ (Txt.join (Str.ofString "") xs).length ≤ 100000 := by
  refine ⟨?_, ?_⟩
  · rw [L_join, show L (Str.ofString "") = [] by decide +kernel]
    exact rows_rd h
  · have j := join_len (sep := Str.ofString "") (ys := xs) (B := 7710) (S := 0) (by decide +kernel) (fun x hx => by obtain ⟨_, h⟩ := h.right x hx; exact h.2)
    have e := h.len
    have m : xs.length * (7710 + 0) ≤ 3 * (7710 + 0) := Nat.mul_le_mul_right _ (by omega)
    omega
section
local macro_rules | `(tactic| walk_at "exec For Tuple Name cons nil") => `(tactic| (k_here; refine For_L isRefV (by k_asm) goTup ?_))
local macro_rules | `(tactic| walk_at "ForL") => `(tactic| (k_here; refine hold ?_))
set_option maxRecDepth 100000 in
set_option maxHeartbeats 8000000 in
theorem grammarS (ax : Addr) (vs : List Value) (k : Nat) (l : List (Str × Tree)) (hl : GoodRows l) :
    Spec w p loose mean mg mb 170 [.ref ax] 50 600 [] (fun St => St ax (listOf vs.toArray k) ∧ RowsAt St vs l) (fun i : Str × Tok => .str i.1 i.2) (fun _ => []) (fun _ => []) (fun i => Rd 40 l (L i.1) ∧ i.1.length ≤ 100000) NoErr := by
  k_extra "sp_open"
  replace F : Fr g L' h₁ (fun y => List.lookup y [(Str.ofString "rules", .ref ax)]) := F
  have hrl := hst _ _ hpre.1
  have hrows := hpre.2.mono hst
  k_steps
  (with_reducible rename News _ _ _ _ => nX)
  (with_reducible rename Fr _ _ _ _ => fX)
  rename_i rl h5 l5 h6
  have hsrc : g.IsList ax vs.toArray := ⟨_, hrl, rfl, _, rfl⟩
  refine ⟨ax, vs.toArray, _, _, GrJ ax l rl, rfl, rfl, Fr.congr fX (m' := grM ax rl none none none) (gr0 ax rl), nX, .inl hsrc, (fun i v hv => ?_), (fun _ _ _ _ => .inl hsrc), ⟨[], [], 0, none, none, none, rfl, rfl, .nil, .nil⟩, ?_, ?_⟩
  · obtain ⟨a, nm, t1, v', e, rfl, _⟩ := hrows.get (by simpa using hv)
    exact ⟨a, rfl⟩
  · rintro i m₁ nw v I oI h tk hv ⟨vs', xs, k', o1, o2, o3, rfl, rfl, hst9, hall⟩ F1 N1 off
    obtain ⟨a9, nm, t1, v', e, rfl, hl9, ha9, hv9⟩ := hrows.get (by simpa using hv)
    obtain ⟨hnm, hnl, hge⟩ := hl.2 _ (List.mem_of_getElem? hl9)
    have hT := tup_of ha9
    clear fX nX
    replace F1 : Fr g L' h (grM ax rl o1 o2 o3) := F1
    replace N1 : News g L' h [(I, oI), (rl, listOf vs'.toArray k')] := N1
    have hI : @Ne Nat I rl := fun e => off _ (.head _) e.symm
    k_steps
    (with_reducible rename News _ _ _ _ => nX)
    (with_reducible rename Fr _ _ _ _ => fX)
    refine Spec.use0 [(I, oI), (rl, listOf vs'.toArray k')] (writer_all w p loose mean mg mb 4 (Nat.le_refl _) v' e hge) B fX X nX T rfl rfl rfl rfl ?_ ?_ (fun _ h => h) (Apart.nil_l _) (hv9.mono fun a o h => .inl h) ?_ (fun _ _ _ _ _ _ h => h.elim)
    · ktr_room
    · ktr_units
    rintro ⟨s2, t2⟩ h2 tk2 hs2 F2 N2 a2
    dsimp only at hs2 F2 N2 a2 ⊢
    simp only [List.nil_append] at N2
    clear fX nX
    have hl2 := le7680 (Nat.le_refl 4) hs2.len
    have hxl : vs'.length ≤ 3 := by
      have e1 := strs_len hst9
      have e2 := hall.len
      rw [List.length_take] at e2
      have := hl.1
      omega
    cases hn : (s2 != Str.ofString "")
    all_goals (k_steps)
    all_goals (with_reducible rename News _ _ _ _ => nX)
    all_goals (with_reducible rename Fr _ _ _ _ => fX)
    all_goals (refine append_K (its := vs'.toArray) (n := k') fX nX (upd2 hI) (fun h5 F5 N5 => ?_) ?_)
    · clear fX nX
      k_steps
      exact ⟨_, _, _, _, rfl, Fr.congr F5 (gr1 ax rl o1 o2 o3 _ _ _), N5, (fun q hq => by rw [List.mem_singleton.mp hq]; exact hI.symm), vs' ++ [_], xs ++ [_], _, _, _, _, rfl, by rw [List.push_toArray], strs_app hst9 _ _, by rw [take_snoc hl9]; exact hall.app (row_text0 hnm hnl hs2)⟩
    · rw [List.size_toArray, sizeLine_eq]; omega
    · clear fX nX
      k_steps
      exact ⟨_, _, _, _, rfl, Fr.congr F5 (gr2 ax rl o1 o2 o3 _ _ _ _), N5, (fun q hq => by rw [List.mem_singleton.mp hq]; exact hI.symm), vs' ++ [_], xs ++ [_], _, _, _, _, rfl, by rw [List.push_toArray], strs_app hst9 _ _, by rw [take_snoc hl9]; exact hall.app (row_text1 hnm hnl hs2)⟩
    · rw [List.size_toArray, sizeLine_eq]; omega
  · rintro m₁ nw h tk ⟨vs', xs, k', o1, o2, o3, rfl, rfl, hst9, hall⟩ F1 N1
    clear fX nX
    replace F1 : Fr g L' h (grM ax rl o1 o2 o3) := F1
    replace N1 : News g L' h [(rl, listOf vs'.toArray k')] := N1
    have hall2 := hall.full (by rw [List.size_toArray, hrows.len]; exact Nat.le_refl _)
    have hxl : xs.length ≤ 3 := by rw [← hall2.len]; exact hl.1
    have hB : ∀ x ∈ xs, x.length ≤ 7710 := fun x hx => by obtain ⟨_, h⟩ := hall2.right x hx; exact h.2
    k_steps
    (with_reducible rename News _ _ _ _ => nX)
    (with_reducible rename Fr _ _ _ _ => fX)
    have z0 : (Str.ofString "").length = 0 := by decide +kernel
    refine join_list (nX.isList (.head _)) hst9 (by have h1 := sum_le hB; have h2 : xs.length * 7710 ≤ 3 * 7710 := Nat.mul_le_mul_right _ hxl; rw [z0]; omega) (fun t' kk9 => ?_)
    k_steps
    exact RetE.intro0 (_, _) fX (fun _ h => nomatch h) rfl (rows_join hall2 hl.1) rfl

end
def NumsOk (vs : List Value) : Prop := ∃ ns : List Int, IntsAre vs ns ∧ ∀ n ∈ ns, 0 ≤ n ∧ n < 1000
/-- the law's faults -/
def faultTab : List (Str × Str × Int) := [(Str.ofString "", Str.ofString "", 0), (Str.ofString "x = a", Str.ofString ".", 5), (Str.ofString "x a .", Str.ofString "=", 2), (Str.ofString "= a .", Str.ofString "name", 0), (Str.ofString "x = [ a .", Str.ofString "]", 8), (Str.ofString "x = { a ) .", Str.ofString "}", 8), (Str.ofString "x = ( a | b", Str.ofString ")", 11), (Str.ofString "x = 'ab", Str.ofString "quote", 4), (Str.ofString "x = \"a\n\" .", Str.ofString "quote", 4), (Str.ofString "x = a ; .", Str.ofString "character", 6), (Str.ofString "x = a ) .", Str.ofString ".", 6), (Str.ofString "x = 1 .", Str.ofString "character", 4), (Str.ofString "x = a = .", Str.ofString ".", 6)]
inductive FaultsAt (St : Addr → Obj → Prop) : List Value → List (Str × Str × Int) → Prop
  | nil : FaultsAt St [] []
  | cons {a : Addr} {x wh : Str} {n : Int} {t1 t2 t3 : Tok} {vs : List Value} {l : List (Str × Str × Int)} : St a (TupO [.str x t1, .str wh t2, .int n t3]) → FaultsAt St vs l → FaultsAt St (.ref a :: vs) ((x, wh, n) :: l)
abbrev stM (sc wl : Addr) (o1 o2 : Option Value) : Str → Option Value := fun y => if y = Str.ofString "rest" then o1 else if y = Str.ofString "cell" then o2 else if y = Str.ofString "waiting" then some (.ref wl) else if y = Str.ofString "script" then some (.ref sc) else none
theorem st0 (sc wl : Addr) : ∀ y, (if y = Str.ofString "waiting" then some (.ref wl) else List.lookup y [(Str.ofString "script", Value.ref sc)]) = stM sc wl none none y := fun y => by
  by_cases h1 : y = Str.ofString "waiting"
  · subst h1; rfl
  by_cases h2 : y = Str.ofString "script"
  · subst h2; rfl
  have h3 : (y == Str.ofString "script") = false := beq_eq_false_iff_ne.mpr h2
  simp only [stM, h1, h2, if_false, List.lookup, h3]
  split
  · rfl
  split <;> rfl
def StJ (sc wl sl : Addr) (ws : List Value) (i : Nat) (m : Str → Option Value) (news : Led) : Prop :=
  ∃ (vs : List Value) (k : Nat) (o1 o2 : Option Value), m = stM sc wl o1 o2 ∧ news = [(sl, listOf ws.toArray 0), (wl, listOf vs.toArray k)] ∧ NumsOk vs ∧ vs.length ≤ 300 + i
theorem ints_item {vs : List Value} {ns : List Int} {i : Nat} {v : Value} (h : IntsAre vs ns) (hv : vs[i]? = some v) : ∃ c t, v = .int c t := by
  induction h generalizing i with
  | nil => simp at hv
  | cons a t _ ih =>
    cases i with
    | zero => simp only [List.getElem?_cons_zero, Option.some.injEq] at hv; exact ⟨_, _, hv.symm⟩
    | succ i => exact ih (by simpa using hv)
theorem upd3 {I sl wl : Addr} {oI p o o' : Obj} (h : @Ne Nat I wl) (h2 : @Ne Nat sl wl) : Upd wl o o' [(I, oI), (sl, p), (wl, o)] [(I, oI), (sl, p), (wl, o')] := .tail h (.tail h2 (.head fun _ h => nomatch h))
theorem ints_app {vs : List Value} {ns : List Int} {n : Int} {t : Tok} (h : IntsAre vs ns) : IntsAre (vs ++ [.int n t]) (ns ++ [n]) := by
  induction h with
  | nil => exact .cons n t .nil
  | cons a u _ ih => exact .cons a u ih
theorem st2 (sc wl : Addr) (o1 a b : Option Value) : ∀ y, (if y = Str.ofString "rest" then a else stM sc wl o1 b y) = stM sc wl a b y := fun y => by
  by_cases h1 : y = Str.ofString "rest"
  · simp only [stM, h1, if_true]
  simp only [stM, h1, if_false]
theorem ints_rev {vs : List Value} {ns : List Int} (h : IntsAre vs ns) : IntsAre vs.reverse ns.reverse := by
  induction h with
  | nil => exact .nil
  | cons a u _ ih => rw [List.reverse_cons, List.reverse_cons]; exact ints_app ih
theorem mem31 {a b c q : Addr × Obj} (h : q ∈ [a, c]) : q ∈ [a, b, c] := by
  simp only [List.mem_cons, List.not_mem_nil, or_false] at h ⊢
  rcases h with h | h <;> simp [h]
theorem nums_app {vs : List Value} {n : Int} {t : Tok} (h : NumsOk vs) (h0 : 0 ≤ n) (h1 : n < 1000) : NumsOk (vs ++ [.int n t]) := by
  obtain ⟨ns, hi, hr⟩ := h
  refine ⟨ns ++ [n], ints_app hi, fun m hm => ?_⟩
  rcases List.mem_append.mp hm with h | h
  · exact hr m h
  · rw [List.mem_singleton.mp h]; exact ⟨h0, h1⟩
theorem st1 (sc wl : Addr) (o1 o2 a z b : Option Value) : ∀ y, (if y = Str.ofString "rest" then a else if y = Str.ofString "rest" then z else if y = Str.ofString "cell" then b else stM sc wl o1 o2 y) = stM sc wl a b y := fun y => by
  by_cases h1 : y = Str.ofString "rest"
  · simp only [stM, h1, if_true]
  by_cases h2 : y = Str.ofString "cell"
  · simp only [stM]; rw [if_neg h1, if_neg h1, if_neg h1, if_pos h2, if_pos h2, if_neg h1]
  simp only [stM, h1, h2, if_false]
section
local macro_rules | `(tactic| walk_at "exec For Name") => `(tactic| (k_here; refine For_L (fun _ => True) (by k_asm) goName ?_))
local macro_rules | `(tactic| walk_at "ForL") => `(tactic| (k_here; refine hold ?_))
set_option maxRecDepth 100000 in
set_option maxHeartbeats 8000000 in
theorem stockS (sc : Addr) (vs : List Value) (ns : List Int) (hvs : IntsAre vs ns) (hlen : vs.length ≤ 63) :
    Spec w p loose mean mg mb 177 [.ref sc] 20 400 [] (fun St => ∃ o n, St sc o ∧ o.cls = .type "list" ∧ o.data = .seq vs.toArray n) (fun i : Addr × Addr × PS => .ref i.1) (fun i => plLed i.1 i.2.1 i.2.2) (fun _ => []) (fun i => @Ne Nat i.1 i.2.1 ∧ PSok i.2.2) NoErr := by
  k_extra "sp_open"
  replace F : Fr g L' h₁ (fun y => List.lookup y [(Str.ofString "script", .ref sc)]) := F
  obtain ⟨o0, n0, hpre, hoc, hod⟩ := hpre
  have hsl : g.IsList sc vs.toArray := ⟨o0, hst _ _ hpre, hoc, n0, hod⟩
  k_steps
  rename_i wl h5 l5 h6 sl ws h7 F7 N7 hI hC hL l7
  have hws : ws.length ≤ 50 := by rw [hI.length]; omega
  refine ⟨sl, ws.toArray, _, _, StJ sc wl sl ws, rfl, rfl, Fr.congr F7 (m' := stM sc wl none none) (st0 sc wl), N7, .inr ⟨_, .head _, rfl, _, rfl⟩, (fun _ _ _ => trivial), (fun i m nw h => by obtain ⟨vs', k', o1, o2, rfl, rfl, _⟩ := h; exact .inr ⟨_, .head _, rfl, _, rfl⟩), ⟨[], 0, none, none, rfl, rfl, ⟨[], .nil, fun _ h => nomatch h⟩, Nat.zero_le _⟩, ?_, ?_⟩
  · rintro i m₁ nw v I oI h tk hv ⟨vs', k', o1, o2, rfl, rfl, ⟨ns', hi', hr'⟩, hlen'⟩ F1 N1 off
    replace F1 : Fr g L' h (stM sc wl o1 o2) := F1
    replace N1 : News g L' h [(I, oI), (sl, listOf ws.toArray 0), (wl, listOf vs'.toArray k')] := N1
    obtain ⟨c, t9, rfl⟩ : ∃ c t, v = .int c t := ints_item hI (by simpa using hv)
    k_with "stTurn" => (
      (with_reducible rename News _ _ _ _ => nX)
      (with_reducible rename Fr _ _ _ _ => fX)
      refine append_K (its := vs'.toArray) (n := k') fX nX (upd3 (fun e => off _ (.tail _ (.head _)) e.symm) (Nat.ne_of_gt l7)) (fun h8 F8 N8 => ?_) ?_
      rotate_left
      · rw [List.size_toArray, sizeLine_eq]; have := (List.getElem?_eq_some_iff.mp (by simpa using hv : ws[i]? = _)).1; omega
      clear fX nX
      k_steps
      (with_reducible rename News _ _ _ _ => nX)
      (with_reducible rename Fr _ _ _ _ => fX)
      refine While_inv2 (fun n m nx => ∃ (vs2 : List Value) (k2 : Nat) (r2 : Int) (t2 : Tok), n = r2.toNat ∧ 0 ≤ r2 ∧ NumsOk vs2 ∧ vs2.length ≤ 300 + (i + 1) ∧ nx = [(I, oI), (sl, listOf ws.toArray 0), (wl, listOf vs2.toArray k2)] ∧ m = stM sc wl (some (.int r2 t2)) (some (.int c t9)))
        (Fr.congr fX (st1 sc wl _ _ _ _ _)) nX ⟨vs' ++ [_], k' + 1, _, _, rfl, ?_, ?_, ?_, by rw [List.push_toArray], rfl⟩ ?_
      · exact Int.fdiv_nonneg (by omega) (by decide)
      · exact nums_app ⟨ns', hi', hr'⟩ (Int.fmod_nonneg_of_pos _ (by decide)) (Int.fmod_lt_of_pos _ (by decide))
      · rw [List.length_append, List.length_singleton]; omega
      rintro n m₁ nx h3 tk3 F3 N3 ⟨vs2, k2, r2, t2, rfl, h0, ⟨ns2, hi2, hr2⟩, hl2, rfl, rfl⟩
      clear fX nX
      have offI : ∀ (o : Obj), ∀ p ∈ [(sl, listOf ws.toArray 0), (wl, o)], p.1 ≠ I := fun o p hp => by
        rcases List.mem_cons.mp hp with rfl | hp
        · exact off _ (.head _)
        · rw [List.mem_singleton.mp hp]; exact off (wl, listOf vs'.toArray k') (.tail _ (.head _))
      have hi50 : i < ws.length := (List.getElem?_eq_some_iff.mp (by simpa using hv : ws[i]? = _)).1
      k_steps
      · refine len_list (N3.isList (.tail _ (.tail _ (.head _)))) (by rw [List.size_toArray]; omega) ?_
        k_steps
        · rename_i hlt3
          rw [List.size_toArray] at hlt3
          refine append_K (its := vs2.toArray) (n := k2) F3 N3 (upd3 (fun e => offI (listOf #[] 0) _ (.tail _ (.head _)) e.symm) (Nat.ne_of_gt l7)) (fun h9 F9 N9 => ?_) (by rw [List.size_toArray, sizeLine_eq]; omega)
          clear F3 N3
          k_steps
          (with_reducible rename News _ _ _ _ => nX)
          (with_reducible rename Fr _ _ _ _ => fX)
          have ed : r2.fdiv 1000 = r2 / 1000 := Int.fdiv_eq_ediv_of_nonneg _ (by decide)
          exact ⟨_, _, _, _, (r2.fdiv 1000).toNat, rfl, Fr.congr fX (st2 sc wl _ _ _), nX, by rw [ed]; omega, vs2 ++ [_], k2 + 1, _, _, rfl, by rw [ed]; omega, nums_app ⟨ns2, hi2, hr2⟩ (Int.fmod_nonneg_of_pos _ (by decide)) (Int.fmod_lt_of_pos _ (by decide)), by rw [List.length_append, List.length_singleton]; omega, by rw [List.push_toArray], rfl⟩
        · (with_reducible rename News _ _ _ _ => nX)
          (with_reducible rename Fr _ _ _ _ => fX)
          exact ⟨_, _, _, _, rfl, fX, nX, offI _, vs2, k2, _, _, rfl, rfl, ⟨ns2, hi2, hr2⟩, hl2⟩
      · exact ⟨_, _, _, _, rfl, F3, N3, offI _, vs2, k2, _, _, rfl, rfl, ⟨ns2, hi2, hr2⟩, hl2⟩)
    k_steps
    · k_extra "stTurn"
    · k_extra "stTurn"
  · rintro m₁ nw h tk ⟨vs', k', o1, o2, rfl, rfl, ⟨ns', hi', hr'⟩, hlen'⟩ F1 N1
    replace F1 : Fr g L' h (stM sc wl o1 o2) := F1
    replace N1 : News g L' h [(sl, listOf ws.toArray 0), (wl, listOf vs'.toArray k')] := N1
    rw [List.size_toArray] at hlen'
    have hl3 : vs'.length ≤ 350 := by omega
    k_steps
    (with_reducible rename News _ _ _ _ => nX)
    (with_reducible rename Fr _ _ _ _ => fX)
    refine len_list (hsl.at (fX.keep _)) (by rw [List.size_toArray]; omega) ?_
    k_steps
    all_goals (with_reducible rename News _ _ _ _ => nX)
    all_goals (with_reducible rename Fr _ _ _ _ => fX)
    all_goals (refine kl_reverse (its := vs'.toArray) (n := k') fX nX rfl (.tail (Nat.ne_of_gt l7) (.head fun _ h => nomatch h)) ?_ (fun h9 F9 N9 => ?_))
    all_goals (try (show vs'.toArray.toList.length ≤ sizeLine; rw [sizeLine_eq]; show vs'.length ≤ _; omega))
    all_goals (clear fX nX)
    all_goals (k_steps)
    all_goals (with_reducible rename News _ _ _ _ => nX)
    all_goals (with_reducible rename Fr _ _ _ _ => fX)
    all_goals (refine RetE.intro0 (_, wl, (⟨vs'.reverse, _, _, _, k'⟩ : PS)) fX (fun q hq => nX q (mem31 hq)) rfl ⟨?_, ⟨⟨_, ints_rev hi'⟩, ?_, ?_, ?_⟩⟩ rfl)
    all_goals (have hz := Int.fmod_nonneg_of_pos ns'.sum (show (0 : Int) < 990 by decide))
    all_goals (have hz2 := Int.fmod_lt_of_pos ns'.sum (show (0 : Int) < 990 by decide))
    all_goals (dsimp only)
    all_goals (first | omega | (rw [List.length_reverse]; omega) | exact Nat.ne_of_gt (by omega))
set_option maxRecDepth 100000 in
set_option maxHeartbeats 8000000 in
theorem faultsS : Spec w p loose mean mg mb 215 [] 4 100 [] NoPre (fun i : Addr × Led => .ref i.1) (fun _ => []) (fun i => i.2) (fun i => ∃ vs k, (i.1, listOf (List.toArray vs) k) ∈ i.2 ∧ FaultsAt (fun a o => (a, o) ∈ i.2) vs faultTab) NoErr := by
  k_extra "sp_open"
  k_steps
  (with_reducible rename News _ _ _ _ => nX)
  (with_reducible rename Fr _ _ _ _ => fX)
  refine RetE.intro (_, _) fX nX rfl ⟨_, _, .head _, ?_⟩ (fun _ h => h) (Apart.nil_l _)
  unfold faultTab
  iterate 13 (refine FaultsAt.cons (t1 := ?_) (t2 := ?_) (t3 := ?_) ?_ ?_; rotate_left 3; (iterate 14 (first | exact List.Mem.head _ | apply List.Mem.tail | skip)))
  exact FaultsAt.nil

end
mutual
def pyT : Tree → PyData
  | .name s => .tuple [.str sName, .str s]
  | .text s => .tuple [.str sText, .str s]
  | .seq l => .tuple [.str (Str.ofString "seq"), .tuple (pyTs l)]
  | .alt l => .tuple [.str (Str.ofString "alt"), .tuple (pyTs l)]
  | .opt t => .tuple [.str (Str.ofString "opt"), pyT t]
  | .rep t => .tuple [.str (Str.ofString "rep"), pyT t]
def pyTs : List Tree → List PyData
  | [] => []
  | t :: l => pyT t :: pyTs l
end
def pyRows (l : List (Str × Tree)) : PyData := .list (l.map fun r => .tuple [.str r.1, pyT r.2])
mutual
theorem TreeAt.reads {h : Heap} : ∀ {v : Value} {t : Tree}, TreeAt (fun a o => h.get? a = some o) v t → ∃ as, Reads h v (pyT t) as
  | _, _, .name ha => ⟨_, .tuple ha rfl rfl (.cons (.str _ _) (.cons (.str _ _) .nil))⟩
  | _, _, .text ha => ⟨_, .tuple ha rfl rfl (.cons (.str _ _) (.cons (.str _ _) .nil))⟩
  | _, _, .seq ha hb hs => let ⟨_, r⟩ := hs.reads; ⟨_, .tuple ha rfl rfl (.cons (.str _ _) (.cons (.tuple hb rfl rfl r) .nil))⟩
  | _, _, .alt ha hb hs => let ⟨_, r⟩ := hs.reads; ⟨_, .tuple ha rfl rfl (.cons (.str _ _) (.cons (.tuple hb rfl rfl r) .nil))⟩
  | _, _, .opt ha ht => let ⟨_, r⟩ := ht.reads; ⟨_, .tuple ha rfl rfl (.cons (.str _ _) (.cons r .nil))⟩
  | _, _, .rep ha ht => let ⟨_, r⟩ := ht.reads; ⟨_, .tuple ha rfl rfl (.cons (.str _ _) (.cons r .nil))⟩
theorem TreesAt.reads {h : Heap} : ∀ {vs : List Value} {l : List Tree}, TreesAt (fun a o => h.get? a = some o) vs l → ∃ as, ReadsAll h vs (pyTs l) as
  | _, _, .nil => ⟨_, .nil⟩
  | _, _, .cons x y => let ⟨_, r⟩ := x.reads; let ⟨_, q⟩ := y.reads; ⟨_, .cons r q⟩
end
theorem RowsAt.reads {h : Heap} : ∀ {vs : List Value} {l : List (Str × Tree)}, RowsAt (fun a o => h.get? a = some o) vs l → ∃ as, ReadsAll h vs (l.map fun r => .tuple [.str r.1, pyT r.2]) as
  | _, _, .nil => ⟨_, .nil⟩
  | _, _, .cons x y z => let ⟨_, r⟩ := y.reads; let ⟨_, q⟩ := z.reads; ⟨_, .cons (.tuple x rfl rfl (.cons (.str _ _) (.cons r .nil))) q⟩
theorem leaf_lay : (∀ s ∈ leafNames, PyData.canLay0 (.str s) = true) ∧ ∀ s ∈ leafTexts, PyData.canLay0 (.str s) = true := by decide +kernel
theorem shape_list {k : Nat} {l : List Tree} (h : ∀ e ∈ l, PyData.canLay0 (pyT e) = true ∧ PyData.depth (pyT e) ≤ 2 * k + 1) : PyData.canLayAll0 (pyTs l) = true ∧ PyData.depthAll (pyTs l) ≤ 2 * k + 1 := by
  induction l with
  | nil => exact ⟨rfl, Nat.zero_le _⟩
  | cons e l ih =>
    obtain ⟨h1, h2⟩ := ih fun x hx => h x (.tail _ hx)
    obtain ⟨h3, h4⟩ := h e (.head _)
    exact ⟨by rw [pyTs, PyData.canLayAll0, h1, h3]; rfl, by rw [pyTs, PyData.depthAll]; omega⟩
theorem shape_good : ∀ (k : Nat) (t : Tree), Good k t → PyData.canLay0 (pyT t) = true ∧ PyData.depth (pyT t) ≤ 2 * k + 1 := by
  have leaf : ∀ (k : Nat) (t : Tree), Leaf t → PyData.canLay0 (pyT t) = true ∧ PyData.depth (pyT t) ≤ 2 * k + 1 := by
    rintro k t (⟨s, rfl, hs⟩ | ⟨s, rfl, hs⟩)
    · have := leaf_lay.1 s hs
      exact ⟨by simp only [pyT, PyData.canLay0, PyData.canLayAll0, this, Bool.and_true, Bool.true_and] at this ⊢; rw [this]; decide +kernel, by simp [pyT, PyData.depth, PyData.depthAll]⟩
    · have := leaf_lay.2 s hs
      exact ⟨by simp only [pyT, PyData.canLay0, PyData.canLayAll0, this, Bool.and_true, Bool.true_and] at this ⊢; rw [this]; decide +kernel, by simp [pyT, PyData.depth, PyData.depthAll]⟩
  intro k
  induction k with
  | zero => exact fun t h => leaf 0 t h
  | succ k ih =>
    intro t h
    rcases h with h | ⟨l, rfl, _, h⟩ | ⟨l, rfl, _, h⟩ | ⟨e, rfl, h⟩ | ⟨e, rfl, h⟩
    · exact leaf _ t h
    · obtain ⟨h1, h2⟩ := shape_list fun e he => ih e (h e he)
      exact ⟨by simp only [pyT, PyData.canLay0, PyData.canLayAll0, h1, Bool.and_true]; decide +kernel, by simp only [pyT, PyData.depth, PyData.depthAll]; omega⟩
    · obtain ⟨h1, h2⟩ := shape_list fun e he => ih e (h e he)
      exact ⟨by simp only [pyT, PyData.canLay0, PyData.canLayAll0, h1, Bool.and_true]; decide +kernel, by simp only [pyT, PyData.depth, PyData.depthAll]; omega⟩
    · obtain ⟨h1, h2⟩ := ih e h
      exact ⟨by simp only [pyT, PyData.canLay0, PyData.canLayAll0, h1, Bool.and_true]; decide +kernel, by simp only [pyT, PyData.depth, PyData.depthAll]; omega⟩
    · obtain ⟨h1, h2⟩ := ih e h
      exact ⟨by simp only [pyT, PyData.canLay0, PyData.canLayAll0, h1, Bool.and_true]; decide +kernel, by simp only [pyT, PyData.depth, PyData.depthAll]; omega⟩

theorem rows_shape {l : List (Str × Tree)} (h : ∀ r ∈ l, PyData.canLay0 (.str r.1) = true ∧ Good 4 r.2) : PyData.canLayAll0 (l.map fun r => .tuple [.str r.1, pyT r.2]) = true ∧ PyData.depthAll (l.map fun r => .tuple [.str r.1, pyT r.2]) ≤ 20 := by
  induction l with
  | nil => exact ⟨rfl, Nat.zero_le _⟩
  | cons r l ih =>
    obtain ⟨h1, h2⟩ := ih fun x hx => h x (.tail _ hx)
    obtain ⟨h3, h4⟩ := h r (.head _)
    obtain ⟨h5, h6⟩ := shape_good 4 r.2 h4
    refine ⟨?_, ?_⟩
    · simp only [List.map_cons, PyData.canLayAll0, PyData.canLay0, h1, h5, Bool.and_true, Bool.true_and]
      simpa only [PyData.canLay0] using h3
    · simp only [List.map_cons, PyData.depthAll, PyData.depth]
      omega
def LRows (l : List (Str × Tree)) : Prop := ∀ r ∈ l, NameL (L r.1) ∧ r.1.length ≤ 10 ∧ PyData.canLay0 (.str r.1) = true ∧ Good 4 r.2
theorem rows_shaped {l : List (Str × Tree)} (h : LRows l) : SeqAt.shaped (pyRows l) = true ∧ PyData.eqv (pyRows l) (pyRows l) = true := by
  obtain ⟨h1, h2⟩ := rows_shape fun r hr => (h r hr).2.2
  have h3 : PyData.canLay0 (pyRows l) = true := by simp only [pyRows, PyData.canLay0]; exact h1
  refine ⟨?_, SeqAt.eqv_refl _ h3⟩
  unfold SeqAt.shaped
  rw [Bool.and_eq_true]
  refine ⟨h3, decide_eq_true ?_⟩
  simp only [pyRows, PyData.depth]; omega
section
variable {prog : Program} {w : World} {A : Around} {E : Value → Shared → Prop} {s : Shared} {Q : Value → Shared → Prop} {a b : Addr} {vs us : List Value} {k j : Nat} {l : List (Str × Tree)}
theorem rows_ne (ha : s.heap.get? a = some (listOf vs.toArray k)) (hb : s.heap.get? b = some (listOf us.toArray j)) (hva : RowsAt (fun a o => s.heap.get? a = some o) vs l) (hub : RowsAt (fun a o => s.heap.get? a = some o) us l)
    (hl : LRows l) (hu : A.units + 64 < cLine) (h : Q (.bool false) s) : wpAny (model prog w) A (compareOp .NotEq (.ref a) (.ref b)) Q E s := by
  obtain ⟨as, ra⟩ := hva.reads
  obtain ⟨bs, rb⟩ := hub.reads
  obtain ⟨h1, h2⟩ := rows_shaped hl
  refine ne_dataH (da := pyRows l) (db := pyRows l) (.list ha rfl rfl (by simpa using ra)) (.list hb rfl rfl (by simpa using rb)) h1 h1 hu ?_
  rw [h2]; exact h
theorem pair_eq {wh : Str} {z : Int} {t1 t2 t3 t4 : Tok} (ha : s.heap.get? a = some (TupO [.str wh t1, .int z t2])) (hb : s.heap.get? b = some (TupO [.str wh t3, .int z t4])) (hw : PyData.canLay0 (.str wh) = true)
    (hu : A.units + 64 < cLine) (h : Q (.bool true) s) : wpAny (model prog w) A (compareOp .Eq (.ref a) (.ref b)) Q E s := by
  have h1 : PyData.canLay0 (.tuple [.str wh, .int z]) = true := by
    simp only [PyData.canLay0, PyData.canLayAll0, Bool.and_true]
    simpa only [PyData.canLay0] using hw
  have h2 : SeqAt.shaped (.tuple [.str wh, .int z]) = true := by
    unfold SeqAt.shaped
    rw [Bool.and_eq_true]
    exact ⟨h1, decide_eq_true (by simp only [PyData.depth, PyData.depthAll]; omega)⟩
  refine eq_dataH (da := .tuple [.str wh, .int z]) (db := .tuple [.str wh, .int z]) (.tuple ha rfl rfl (.cons (.str _ _) (.cons (.int _ _) .nil))) (.tuple hb rfl rfl (.cons (.str _ _) (.cons (.int _ _) .nil))) h2 h2 hu ?_
  rw [SeqAt.eqv_refl _ h1]; exact h
end
/-- one of the law's faults -/
def faultOk (f : Str × Str × Int) : Bool := f.2.1 == Str.ofString "" || (match (lex (32 :: L f.1)).bind (pRules 40 9) with | .err w l1 => w == f.2.1 && decide (0 ≤ f.2.2) && decide (f.2.2.toNat ≤ (L f.1).length) && l1 == (L f.1).drop f.2.2.toNat | _ => false)
theorem faults_ok : ∀ f ∈ faultTab, faultOk f = true ∧ f.1.length ≤ 20 ∧ PyData.canLay0 (.str f.2.1) = true := by decide +kernel
theorem fault_read {f : Str × Str × Int} (hf : f ∈ faultTab) (hne : f.2.1 ≠ Str.ofString "") {l : List (Str × Tree)} {src : Str} (hrd : Rd 40 l (L src)) :
    ∃ l1, readR 40 (l.length + 9) (src ++ Str.ofString " " ++ f.1) = .err f.2.1 l1 ∧ ∀ a, At (src ++ Str.ofString " " ++ f.1) l1 a → a = ((src ++ Str.ofString " ").length : Int) + f.2.2 := by
  obtain ⟨x, wh, n⟩ := f
  have h := (faults_ok _ hf).1
  unfold faultOk at h
  have h0 : (wh == Str.ofString "") = false := beq_eq_false_iff_ne.mpr hne
  dsimp only at h hne ⊢
  rw [h0, Bool.false_or] at h
  have e1 : L (src ++ Str.ofString " " ++ x) = L src ++ (32 :: L x) := by
    rw [L_app, L_app, show L (Str.ofString " ") = [32] by decide +kernel, List.append_assoc]; rfl
  cases hr : (lex (32 :: L x)).bind (pRules 40 9) with
  | ok a => rw [hr] at h; cases h
  | out => rw [hr] at h; cases h
  | err w l1 =>
    rw [hr] at h
    simp only [Bool.and_eq_true, beq_iff_eq, decide_eq_true_eq] at h
    obtain ⟨⟨⟨rfl, h1⟩, h2⟩, rfl⟩ := h
    refine ⟨_, rd_fault hrd _ e1 hr, fun a ha => ?_⟩
    have e2 := ha.len
    rw [L_len, e1, List.length_append, List.length_cons, List.length_drop] at e2
    have e3 : (src ++ Str.ofString " ").length = (L src).length + 1 := by rw [L_len, L_app, show L (Str.ofString " ") = [32] by decide +kernel, List.length_append]; rfl
    rw [e3]
    omega
theorem FaultsAt.get {St : Addr → Obj → Prop} : ∀ {vs : List Value} {l : List (Str × Str × Int)} {i : Nat}, FaultsAt St vs l → i < l.length → ∃ a x wh n t1 t2 t3, vs[i]? = some (.ref a) ∧ (x, wh, n) ∈ l ∧ St a (TupO [.str x t1, .str wh t2, .int n t3])
  | _, _, _, .nil, h => absurd h (Nat.not_lt_zero _)
  | _, _, 0, .cons h _, _ => ⟨_, _, _, _, _, _, _, rfl, .head _, h⟩
  | _, _, i + 1, .cons _ z, h => by
    obtain ⟨a, x, wh, n, t1, t2, t3, e, hm, hs⟩ := z.get (i := i) (Nat.lt_of_succ_lt_succ h)
    exact ⟨a, x, wh, n, t1, t2, t3, e, .tail _ hm, hs⟩
theorem FaultsAt.mono' {St St' : Addr → Obj → Prop} (h : ∀ a o, St a o → St' a o) : ∀ {vs : List Value} {l : List (Str × Str × Int)}, FaultsAt St vs l → FaultsAt St' vs l
  | _, _, .nil => .nil
  | _, _, .cons x y => .cons (h _ _ x) (y.mono' h)
theorem FaultsAt.len {St : Addr → Obj → Prop} : ∀ {vs : List Value} {l : List (Str × Str × Int)}, FaultsAt St vs l → vs.length = l.length
  | _, _, .nil => rfl
  | _, _, .cons _ z => by rw [List.length_cons, List.length_cons, z.len]

set_option maxRecDepth 100000 in
set_option maxHeartbeats 8000000 in
theorem fillE5 : hd.heap_39 = hd.heap_39 ∧ PySem.Challenge.rw_pb0327_01 = PySem.Challenge.rw_pb0327_01 := by
  k_fill
  exact ⟨rfl, rfl⟩
section
variable {M : Model} {A : Around} {E : Value → Shared → Prop} {s : Shared} {P : Params}
/-- an exception comes into the frame that has the try -/
theorem landD {base : Heap} {env : Env} {outer : List Env} {L e : Addr} {wh : Str} {at_ : Int} {Q : Unit → Shared → Prop}
    (hfr : A.frames = some (env :: outer)) (hf : env.frame = some L) (x : Fly P base (env :: outer) e wh at_ s.heap)
    (h : ∀ h', Fly P base (env :: outer) e wh at_ h' → s.heap.UpToSlots h' → Q () { s with heap := h' }) :
    wpAny M A (noteFrame (.ref e) env) (fun _ s₂ => wpAny M A (setFlight (.ref e) none) Q E s₂) E s := by
  obtain ⟨x1, x2, x3, oe, vs, T, oT, ts, d, y1, y2, v1, v2, sl, he, hc, hdd, hd, h1, hbT, hTe, hT, hdT, h3, hb, hD⟩ := x
  have D : HasD P base s.heap d wh at_ := ⟨hb, y1, y2, v1, v2, sl, hD⟩
  obtain ⟨oc, od, odt, osl⟩ := oe
  dsimp only at hc hdd hd; subst hc hdd hd
  have hsz := (Array.getElem?_eq_some_iff.mp h1).1
  unfold noteFrame
  simp only [hf]
  refine wpAny_bind (wpAny_field he rfl h1 ?_)
  rw [if_pos (by simp)]
  refine wpAny_bind (wpAny_field hT hdT h3 ?_)
  rw [if_neg (by simp [rawInt])]
  have h3' := (Array.getElem?_eq_some_iff.mp h3).1
  have stay : ∀ x, x ≠ T → (s.heap.update T (Obj.mapFields (·.setIfInBounds 3 Value.none))).get? x = s.heap.get? x := fun x hx => Heap.get?_update_other _ _ (Ne.symm hx)
  have off : ∀ x o, s.heap.get? x = some o → (∀ ws, o.data ≠ .fields ws) → x ≠ T := fun x o hx hn q => by
    rw [q, hT] at hx; cases hx; exact hn ts hdT
  have U : s.heap.UpToSlots (s.heap.update T (Obj.mapFields (·.setIfInBounds 3 Value.none))) := fun x o hx hn => ⟨o.slots, (stay x (off x o hx hn)).trans hx⟩
  refine wpAny_bind (wpAny_setField hT hdT h3' ?_)
  refine entryD (s := { s with heap := _ }) hfr (x3.of_keeps fun x o hx hn => ⟨o, (stay x (off x o hx hn)).trans hx, rfl⟩) hf ((stay e (Ne.symm hTe)).trans he)
    (fun x o hx => (stay x fun q => by rw [q, hbT] at hx; cases hx).trans (x1 x o hx)) x2 rfl hsz fun h' T' oT ts k1 k2 k3 k4 k5 k6 k7 k8 k9 => ?_
  refine flightD k2 k1 k4 rfl (by simp [hsz]) k5 k6 k7 k8 (Array.getElem?_eq_some_iff.mp k9).1 fun h2 oT' ts' m1 m2 m3 m4 m5 m6 m7 => ?_
  obtain ⟨q1, k1', k2', v1, v2, sl, q2⟩ := ((D.up U).up k3).up m3
  exact h h2 ⟨m1, x2, m2, _, _, T', oT', ts', d, k1', k2', v1, v2, sl, m4, rfl, rfl, rfl, by simp [hsz], k6, k5, m5, m6, m7, q1, q2⟩ ((U.trans k3).trans m3)
/-- the mark is taken off once more -/
theorem againD {base : Heap} {l : List Env} {e : Addr} {wh : Str} {at_ : Int} {Q : Unit → Shared → Prop} (x : Fly P base l e wh at_ s.heap)
    (h : ∀ h', Fly P base l e wh at_ h' → s.heap.UpToSlots h' → Q () { s with heap := h' }) : wpAny M A (setFlight (.ref e) none) Q E s := by
  obtain ⟨x1, x2, x3, oe, vs, T, oT, ts, d, y1, y2, v1, v2, sl, he, hc, hdd, hd, h1, hbT, hTe, hT, hdT, h3, hb, hD⟩ := x
  have D : HasD P base s.heap d wh at_ := ⟨hb, y1, y2, v1, v2, sl, hD⟩
  have hsz := (Array.getElem?_eq_some_iff.mp h1).1
  refine flightD x3 x1 he hd h1 hTe hbT hT hdT (Array.getElem?_eq_some_iff.mp h3).1 fun h2 oT' ts' m1 m2 m3 m4 m5 m6 m7 => ?_
  obtain ⟨q1, k1', k2', v1, v2, sl, q2⟩ := D.up m3
  exact h h2 ⟨m1, x2, m2, oe, vs, T, oT', ts', d, k1', k2', v1, v2, sl, m4, hc, hdd, hd, h1, hbT, hTe, m5, m6, m7, q1, q2⟩ m3
end
abbrev excE (d : Addr) (vs : Array Value) (sl : Array (Option Value)) : Obj := { cls := .ref 44, dict := some d, data := .fields vs, slots := sl }
abbrev excD (P : Params) (wh : Str) (at_ : Int) (k1 k2 v1 v2 : Tok) (sl : Array (Option Value)) : Obj := { exDict P wh at_ k1 k2 v1 v2 with slots := sl }
section
variable {w : World} {A₀ : Around} {E : Value → Shared → Prop} {s' : Shared} {h₀ h : Heap} {outer : List Env} {L a e : Addr} {m : Str → Option Value} {name : Str} {scope : Scope} {cd : Value}
  {n : Str} {b₀ : Stmt} {suite : List Stmt} {pos np : Pos} {rest : List ExceptHandler} {Q : Flow → Shared → Prop} {wh : Str} {at_ : Int} {z : Str} {vz : Value}
  {p : Program} {loose : List Str} {mean : ExcName → Option Value} {mg mb : Str → Option Value} {x : Str}
theorem exFind (P : Params) (wh : Str) (at_ : Int) (k1 k2 v1 v2 : Tok) (z : Str) (h1 : z ≠ Str.ofString "what") (h2 : z ≠ Str.ofString "at") : nsFind #[⟨PyData.keyHash P (Str.ofString "what"), .str (Str.ofString "what") k1, .str wh v1⟩, ⟨PyData.keyHash P (Str.ofString "at"), .str (Str.ofString "at") k2, .int at_ v2⟩] z = none := by
  have e1 : (Str.ofString "what" == z) = false := beq_eq_false_iff_ne.mpr (Ne.symm h1)
  have e2 : (Str.ofString "at" == z) = false := beq_eq_false_iff_ne.mpr (Ne.symm h2)
  simp [nsFind, findBy, Value.isStr, e1, e2]
theorem caughtFE (K : Below A₀ h₀ outer h₀) (F : Fr h₀ L h m) (hsm : h.UpToSlots s'.heap) (R : Fly w.params h₀ (envOf name scope L a cd :: outer) e wh at_ s'.heap)
    (X : (hd.heap_39 w.params).In h₀) (T : Top p loose mean mg mb h₀) (ex : nsIn (hd.heap_39 w.params) mainGlobals x = some (some (.ref 44)))
    (hz : m z = some vz) (hz1 : z ≠ Str.ofString "what") (hz2 : z ≠ Str.ofString "at") 
    (k : ∀ h' d vs sl sl' k1 k2 v1 v2 tk, Fr h₀ L h' (fun y => if y = n then some (.ref e) else m y) → News h₀ L h' [(d, excD w.params wh at_ k1 k2 v1 v2 sl), (e, excE d vs sl')] →
      wpAny (model PR w) ((A₀.deeper (envOf name scope L a cd)).mark (some (.ref e))) (execs (b₀ :: suite) (envOf name scope L a cd))
        (fun f s₄ => wpAny (model PR w) (A₀.deeper (envOf name scope L a cd)) (do bindName (envOf name scope L a cd) n .none; unbindBehindTheSuite (envOf name scope L a cd) n pos) (fun _ s₅ => Q f s₅) E s₄)
        (AsSuiteRaised (model PR w) ((A₀.deeper (envOf name scope L a cd)).mark (some (.ref e))) (envOf name scope L a cd) n pos (notedBy (model PR w) ((A₀.deeper (envOf name scope L a cd)).mark (some (.ref e))) (envOf name scope L a cd) (cameBackBy (model PR w) (A₀.deeper (envOf name scope L a cd)) (envOf name scope L a cd) E)))
        { s' with heap := h', toks := tk })
    (hk : scope.kind = .function := by rfl) (hlo : (envOf name scope L a cd).kindOf n = some .local := by rfl) (hx : (envOf name scope L a cd).kindOf x = some .globalImplicit := by rfl) (hd : (x == ("__debug__" : Str)) = false := by decide) :
    wpAny (model PR w) (A₀.deeper (envOf name scope L a cd)) (noteFrame (.ref e) (envOf name scope L a cd))
      (fun _ s₂ => wpAny (model PR w) (A₀.deeper (envOf name scope L a cd)) (setFlight (.ref e) none) (fun _ s₃ =>
        wpAny (model PR w) (A₀.deeper (envOf name scope L a cd)) (handleBy (.ref e) (envOf name scope L a cd) (.ExceptHandler (some (.Name x np)) (some n) (b₀ :: suite) pos :: rest)) Q E s₃) E s₂) E s' := by
  refine landD (P := w.params) (Around.frames_deeper K.stack) rfl R fun h₅ fl₅ hsm₅ => ?_
  have F₅ := F.of_stays fl₅.stays (hsm.trans hsm₅)
  refine wpAny_handleBy_cons (codeAny_handlers_test (name_K F₅ X (topRead_of T) ex ?_ hk hx hd)) (by intro q; cases q)
  have hC := (X.keeps F₅.keep) _ _ look44
  obtain ⟨oe, vs, _, _, _, d, _, _, _, _, _, he, hc, _⟩ := fl₅.there
  refine wpAny_excMatches_sub_self hC he hc (by decide) (codeAny_handlers_suite_as ?_)
  refine againD (P := w.params) fl₅ fun h₆ fl₆ hsm₆ => ?_
  have F₆ := F.of_stays fl₆.stays ((hsm.trans hsm₅).trans hsm₆)
  obtain ⟨⟨oc, od, odt, osl⟩, vs, _, _, _, d, k1, k2, v1, v2, sl, he, hc, hdd, hdt, h1, hbT, hTe, hT, hdT, h3, hbd, hD⟩ := fl₆.there
  dsimp only at hc hdd hdt; subst hc hdd hdt
  have hne : e ≠ L := fun q => by
    obtain ⟨o, es, n', ho, hod, _⟩ := F₆.ns
    rw [← q, he] at ho; cases ho; cases hod
  have hnd : d ≠ L := fun q => by
    obtain ⟨o, es, n', ho, hod, _, hf⟩ := F₆.ns
    rw [← q, hD] at ho; cases ho
    cases hod
    have := hf z
    rw [exFind _ _ _ _ _ _ _ _ hz1 hz2, hz] at this
    cases this
  have N₆ : News h₀ L h₆ [(d, excD w.params wh at_ k1 k2 v1 v2 sl), (e, excE d vs osl)] := fun q hq => by
    rcases List.mem_cons.mp hq with rfl | hq
    · exact ⟨hD, hnd, hbd⟩
    · rw [List.mem_singleton.mp hq]; exact ⟨he, hne, fl₆.new⟩
  refine stN F₆ N₆ (fun h₇ F₇ N₇ => ?_) hk hlo
  exact k h₇ d vs sl osl k1 k2 v1 v2 _ F₇ N₇
end
set_option maxRecDepth 100000 in
set_option maxHeartbeats 8000000 in
theorem getattribute44 {w : World} : findIn (hd.heap_39 w.params) (.ref 44) "__getattribute__" = some (some (.builtin "BaseException.__getattribute__")) := by k_is
set_option maxRecDepth 100000 in
set_option maxHeartbeats 8000000 in
theorem getattr44 {w : World} : findIn (hd.heap_39 w.params) (.ref 44) "__getattr__" = some none := by k_is
set_option maxRecDepth 100000 in
set_option maxHeartbeats 8000000 in
theorem has44 {w : World} : (clsIn (hd.heap_39 w.params) 44).map (·.hasDict) = some true := by kernel_rfl
theorem find44 {w : World} {od : Obj} {name : Str} {v : Value} (h1 : findIn (hd.heap_39 w.params) (.ref 44) name = some none) (h2 : lookIn name od = some (some v)) : findObj (hd.heap_39 w.params) 44 (some od) name = some (.value v) := by
  obtain ⟨c, hc, hh⟩ := Option.map_eq_some_iff.mp (has44 (w := w))
  unfold findObj
  rw [hc, Option.bind_some, h1]
  simp only [Option.bind_some, PySem.W.ownOf, hh, if_true, h2]
section
variable {prog : Program} {w : World} {A : Around} {E : Value → Shared → Prop} {s : Shared} {Q : Value → Shared → Prop} {e : Addr} {oe od : Obj} {name : Str} {v : Value} {expr : Bool}
theorem getFE (X : (hd.heap_39 w.params).In s.heap) (I : InstAt s.heap e oe 44 (some od)) (hf : findObj (hd.heap_39 w.params) 44 (some od) name = some (.value v)) (hh : handedIn v = true)
    (h : Q v { s with toks := s.toks + 1 }) : wpAny (model prog w) A (getAttr (.ref e) name expr) Q E s := by
  obtain ⟨hp, g, d, t, os⟩ := s
  have L0 := I.type (M := model prog w)
  have L1 := looks_find (M := model prog w) X I hf
  have hC := X _ _ look44
  have t2 : Looks (model prog w) hp (typeLookup (.ref 44) "__getattribute__") (some (.builtin "BaseException.__getattribute__")) := looks_findIn X getattribute44
  have t3 : Looks (model prog w) hp (typeLookup (.ref 44) "__getattr__") none := looks_findIn X getattr44
  have f3 := PySem.F.excAttr_ValueError.ga.bind (.ref e)
  have hx0 : (expr && onTheHeap (Value.builtin "BaseException.__getattribute__")) = false := by cases expr <;> rfl
  have hx2 : (Value.builtin "BaseException.__getattribute__" == Value.builtin "object.__getattribute__") = false := by decide +kernel
  have hx1 : (onTheHeap (Value.ref 44) && Value.builtin "BaseException.__getattribute__" == Value.builtin "object.__getattribute__") = false := by rw [hx2]; rfl
  unfold getAttr
  repeat (any_goals (first | assumption | with_reducible refine Looks.at L0 ?_ | with_reducible refine Looks.at t2 ?_ | with_reducible refine Looks.at t3 ?_ | wp_step))
  refine codeAny_call_builtin PySem.F.excAttr_ValueError.ga.plain PySem.F.entry_bexc_ga ?_
  have t4 : Looks (model prog w) hp (isInstance (.ref e) (.type "BaseException")) true := L0.andThen (looks_mroIn X base44)
  have hk : builtinKind "BaseException.__getattribute__" = some .slot := by decide +kernel
  have hsplit : splitId "BaseException.__getattribute__" = some ("BaseException", "__getattribute__") := by decide +kernel
  have ha := PySem.F.args_bexc_ga (.ref e) (.str name t)
  simp only [List.cons_append, List.nil_append, checkBuiltinCall, hk, hsplit]
  refine wpAny_bind (t4.at ?_)
  repeat (any_goals (first | assumption | with_reducible refine Looks.at L0 ?_ | with_reducible refine Looks.at L1 ?_ | with_reducible refine Looks.at t2 ?_ | with_reducible refine Looks.at t3 ?_ | wp_step))
  show wpAny _ _ (handedOut v) _ _ _
  rw [handedOut_of hh]; exact wpAny_pure h
end
section
variable {w : World} {A : Around} {E : Value → Shared → Prop} {s : Shared} {h₀ : Heap} {L e d : Addr} {m : Str → Option Value} {led : Led} {Q : Value → Shared → Prop} {wh : Str} {at_ : Int} {k1 k2 v1 v2 : Tok} {sl sl' : Array (Option Value)} {vs : Array Value} {expr : Bool}
theorem getWhat (F : Fr h₀ L s.heap m) (X : (hd.heap_39 w.params).In h₀) (hD : s.heap.get? d = some (excD w.params wh at_ k1 k2 v1 v2 sl)) (hE : s.heap.get? e = some (excE d vs sl'))
    (h : Q (.str wh v1) { s with toks := s.toks + 1 }) : wpAny (model PR w) A (getAttr (.ref e) (Str.ofString "what") expr) Q E s :=
  getFE (oe := excE d vs sl') (od := excD w.params wh at_ k1 k2 v1 v2 sl) (X.keeps F.keep) ⟨hE, rfl, rfl, hD⟩ (find44 what44 (by simp [lookIn, dictOf, Value.isStr])) rfl h
theorem at_what : (Str.ofString "what" == Str.ofString "at") = false := by decide +kernel
theorem getAt (F : Fr h₀ L s.heap m) (X : (hd.heap_39 w.params).In h₀) (hD : s.heap.get? d = some (excD w.params wh at_ k1 k2 v1 v2 sl)) (hE : s.heap.get? e = some (excE d vs sl'))
    (h : Q (.int at_ v2) { s with toks := s.toks + 1 }) : wpAny (model PR w) A (getAttr (.ref e) (Str.ofString "at") expr) Q E s :=
  getFE (oe := excE d vs sl') (od := excD w.params wh at_ k1 k2 v1 v2 sl) (X.keeps F.keep) ⟨hE, rfl, rfl, hD⟩ (find44 at44 (by simp [lookIn, dictOf, Value.isStr, at_what])) rfl h
end

/-- the law's frame -/
abbrev lwM (sc pl rl : Addr) (src : Str) (t : Tok) (o1 o2 o3 : Option Value) : Str → Option Value := fun y => if y = Str.ofString "source" then some (.str src t) else if y = Str.ofString "tree" then o3 else if y = Str.ofString "name" then o2 else if y = Str.ofString "step" then o1 else if y = Str.ofString "rows" then some (.ref rl) else if y = Str.ofString "pool" then some (.ref pl) else if y = Str.ofString "script" then some (.ref sc) else none
theorem lw0 (sc pl rl : Addr) (src : Str) (t : Tok) : ∀ y, (if y = Str.ofString "source" then some (.str src t) else if y = Str.ofString "rows" then some (.ref rl) else if y = Str.ofString "pool" then some (.ref pl) else List.lookup y [(Str.ofString "script", Value.ref sc)]) = lwM sc pl rl src t none none none y := fun y => by
  by_cases h1 : y = Str.ofString "source"
  · simp only [lwM, h1, if_true]
  by_cases h2 : y = Str.ofString "rows"
  · subst h2; rfl
  by_cases h3 : y = Str.ofString "pool"
  · subst h3; rfl
  by_cases h4 : y = Str.ofString "script"
  · subst h4; rfl
  have h5 : (y == Str.ofString "script") = false := beq_eq_false_iff_ne.mpr h4
  simp only [lwM, h1, h2, h3, h4, if_false, List.lookup, h5]
  split
  · rfl
  split
  · rfl
  split <;> rfl
theorem lw1 (sc pl rl : Addr) (src src' : Str) (t t' : Tok) (o1 o2 o3 a b c : Option Value) : ∀ y, (if y = Str.ofString "source" then some (.str src' t') else if y = Str.ofString "tree" then c else if y = Str.ofString "name" then b else if y = Str.ofString "step" then a else lwM sc pl rl src t o1 o2 o3 y) = lwM sc pl rl src' t' a b c y := fun y => by
  by_cases h1 : y = Str.ofString "source"
  · simp only [lwM, h1, if_true]
  by_cases h2 : y = Str.ofString "tree"
  · simp only [lwM, h1, h2, if_false, if_true]
  by_cases h3 : y = Str.ofString "name"
  · simp only [lwM, h1, h2, h3, if_false, if_true]
  by_cases h4 : y = Str.ofString "step"
  · simp only [lwM, h1, h2, h3, h4, if_false, if_true]
  simp only [lwM, h1, h2, h3, h4, if_false]
def LwJ (sc pl wl rl : Addr) (i : Nat) (m : Str → Option Value) (news : Led) : Prop :=
  ∃ (q : PS) (vs : List Value) (k : Nat) (l : List (Str × Tree)) (src : Str) (t : Tok) (o1 o2 o3 : Option Value) (fz : Led), m = lwM sc pl rl src t o1 o2 o3 ∧
    news = (rl, listOf vs.toArray k) :: (pl, listOf #[.ref wl, .int q.turn q.tk] q.k) :: (wl, listOf q.vs.toArray q.k2) :: fz ∧ PSok q ∧ RowsAt (fun a o => (a, o) ∈ fz) vs l ∧ LRows l ∧ l.length = i ∧ Rd 40 l (L src) ∧ src.length ≤ 8000 * i ∧
    ∀ p ∈ fz, p.1 ≠ rl ∧ p.1 ≠ pl ∧ p.1 ≠ wl
theorem rule_name (i : Nat) (h : i < 3) : NameL (L (Str.ofString "rule" ++ Str.ofString (toString ((0 : Int) + (i : Int))))) ∧ (Str.ofString "rule" ++ Str.ofString (toString ((0 : Int) + (i : Int)))).length ≤ 10 ∧ PyData.canLay0 (.str (Str.ofString "rule" ++ Str.ofString (toString ((0 : Int) + (i : Int))))) = true := by
  match i, h with
  | 0, _ => exact ⟨⟨114, [117, 108, 101, 48], by decide +kernel, by decide +kernel, by decide +kernel⟩, by decide +kernel, by decide +kernel⟩
  | 1, _ => exact ⟨⟨114, [117, 108, 101, 49], by decide +kernel, by decide +kernel, by decide +kernel⟩, by decide +kernel, by decide +kernel⟩
  | 2, _ => exact ⟨⟨114, [117, 108, 101, 50], by decide +kernel, by decide +kernel, by decide +kernel⟩, by decide +kernel, by decide +kernel⟩
theorem mem_a {a b c d e s1 : Addr × Obj} {fz : Led} : ∀ q ∈ a :: b :: c :: d :: e :: fz, q ∈ [c, d] ++ (e :: b :: s1 :: a :: fz) := fun q hq => by
  simp only [List.cons_append, List.nil_append, List.mem_cons] at hq ⊢
  rcases hq with h | h | h | h | h | h <;> simp [h]
theorem mem_b {a b c d e f : Addr × Obj} {fz : Led} : ∀ q ∈ [a, b] ++ (c :: d :: e :: f :: fz), q ∈ c :: d :: a :: b :: e :: f :: fz := fun q hq => by
  simp only [List.cons_append, List.nil_append, List.mem_cons] at hq ⊢
  rcases hq with h | h | h | h | h | h | h <;> simp [h]
theorem mem_c {a b c d e f : Addr × Obj} {fz : Led} : ∀ q ∈ [a, b, c] ++ ([d, e] ++ fz), q ∈ c :: d :: e :: a :: b :: fz := fun q hq => by
  simp only [List.cons_append, List.nil_append, List.mem_cons] at hq ⊢
  rcases hq with h | h | h | h | h | h <;> simp [h]
theorem mem_d {a b c d e f : Addr × Obj} {fz : Led} : ∀ q ∈ e :: a :: b :: c :: d :: fz, q ∈ [a, b, c] ++ ([d, e] ++ fz) := fun q hq => by
  simp only [List.cons_append, List.nil_append, List.mem_cons] at hq ⊢
  rcases hq with h | h | h | h | h | h <;> simp [h]
theorem law_row {l : List (Str × Tree)} {nm src b1 b2 b3 b4 sh : Str} {e : Tree} (hrd : Rd 40 l (L src)) (hn : NameL (L nm)) (h1 : Blank b1) (h2 : Blank b2) (h3 : Blank b3) (h4 : Blank b4) (hs : Shows 4 e sh) :
    Rd 40 (l ++ [(nm, e)]) (L (src ++ (b1 ++ nm ++ b2 ++ Str.ofString "=" ++ b3 ++ sh ++ Str.ofString " ." ++ b4))) := by
  have r := rd_row (N := 40) (nm := L nm) (b4 := [32]) hn h1.bl h2.bl h3.bl bl32 h4.bl (by decide) hs.ra
  rw [txt_L] at r
  have e2 : L (src ++ (b1 ++ nm ++ b2 ++ Str.ofString "=" ++ b3 ++ sh ++ Str.ofString " ." ++ b4)) = L src ++ (L b1 ++ (L nm ++ (L b2 ++ 61 :: (L b3 ++ (L sh ++ ([32] ++ 46 :: L b4)))))) := by
    simp only [L_app, show L (Str.ofString "=") = [61] by decide +kernel, show L (Str.ofString " .") = [32, 46] by decide +kernel, List.append_assoc, List.cons_append, List.nil_append]
  rw [e2]
  exact rd_app hrd r
theorem LRows.app {l : List (Str × Tree)} {nm : Str} {e : Tree} (h : LRows l) (h1 : NameL (L nm)) (h2 : nm.length ≤ 10) (h3 : PyData.canLay0 (.str nm) = true) (h4 : Good 4 e) : LRows (l ++ [(nm, e)]) := fun r hr => by
  rcases List.mem_append.mp hr with hr | hr
  · exact h r hr
  · rw [List.mem_singleton.mp hr]; exact ⟨h1, h2, h3, h4⟩
section
local macro_rules | `(tactic| walk_at "exec For Name Call cons nil") => `(tactic| (k_here; refine hold ?_))
local macro_rules | `(tactic| walk_at "compareOp NotEq ref ref") => `(tactic| (k_here; refine hold ?_))
local macro_rules | `(tactic| walk_at "subscriptTail") => `(tactic| (k_here; refine hold ?_))
local macro_rules | `(tactic| walk_at "getAttr ref") => `(tactic| (k_here; (with_reducible show wpAny _ _ (getAttr (Value.ref _) (Str.ofString "what") _) _ _ _); refine hold ?_))
local macro_rules | `(tactic| walk_at "getAttr ref") => `(tactic| (k_here; (with_reducible show wpAny _ _ (getAttr (Value.ref _) (Str.ofString "at") _) _ _ _); refine hold ?_))
local macro_rules | `(tactic| walk_at "ForR") => `(tactic| (k_here; refine hold ?_))
set_option maxRecDepth 100000 in
set_option maxHeartbeats 8000000 in
theorem lawT : PySem.Challenge.rw_pb0327_01.Holds := by
  w_on
  refine holds_law (by kernel_rfl) fun said => ?_
  refine holds_open (q := hd.view_39) (loose := []) (Xt := fun s => xlAt hd.view_39 [] s && recOk (RowW.records PySem.Challenge.rw_pb0327_01.row.toRowW) s) (XP := XL hd.view_39 []) (Yf := hdHook.obs) (Ya := hdHook.val) (YP := hdHook.says) (N := 2942) topRun hdHook.of hdHook.keeps (fun s e => xl_of s (Bool.and_eq_true_iff.mp e).1) XL.keeps (by rfl) (by rfl) (by rfl) (fun s e => recFacts_of (Bool.and_eq_true_iff.mp e).2) (by rfl) (by first | assumption | decide +kernel) (by decide +kernel) ⟨rfl, rfl, rfl, rfl, rfl, by decide +kernel⟩ ?hw ?hc
  case hw => w_witness2
  clear said
  k_fill
  intro w s₀ s₁ mg mb G Y fa o pm cd doc dV kV ho hfd hcd hD hmg hg args vals as hpre hlay hrd hwl hlo
  have X : (hd.heap_39 w.params).In s₁.heap := kIn_of Y
  have V := (Ground.X G).2
  refine Ground.open G ?_
  intro T B9 D TE TW
  refine guard_noD D (by decide +kernel) ?_
  clear D
  obtain ⟨_, _, M⟩ := bmod_of_top T
  have TA := at_of_top T
  obtain ⟨_, _, he, B0⟩ := based_of_top T rfl hmg ho hfd
  have he' : cd = _ := he
  subst he'
  clear he hmg
  wrow_args hpre hlay hrd hwl hlo
  first | refine callC_kw (enter_call ?_) | refine enter_call ?_ | refine callC_kw (enter_callW ?_) | refine enter_callW ?_ | w_how
  w_top on
  try refine codeAny_mono ?_ (fun _ _ g => GoodW.toG g)
  have B := below_caller (Top.heap T)
  w_call any ho hfd hcd hD T F
  clear hfd TA
  k_drop
  all_goals try k_fold
  rename_i w7 w6 ns hs hlay0 hL1 hr1 hl2 w4 w3 sc vs w0 hL ra w1 r0 hI hr hc1 hc2 h₁ N0
  replace B : Below callerA s₁.heap [] s₁.heap := B
  replace F : Fr s₁.heap s₁.heap.objs.size h₁ (fun y => List.lookup y [(Str.ofString "script", .ref sc)]) := F
  clear hD ra w1 r0 hr hlay0 hL1 hr1 hl2 TE TW B9 M V Y hcd
  have hlen : vs.length ≤ 63 := by rw [hI.length]; omega
  k_steps
  refine Spec.use0 [] (stockS _ _ _ _ _ _ sc vs ns hI hlen) B F X N0 T rfl rfl rfl rfl ?_ ?_ (fun _ h => h) (Apart.nil_r _) ?_ ?_ (fun _ _ _ _ _ _ h => h.elim)
  · ktr_room
  · ktr_units
  · obtain ⟨oS, h1, h2, n9, h3⟩ := hL
    exact ⟨oS, n9, .inl h1, h2, h3⟩
  rintro ⟨pl, wl, q0⟩ h2 tk2 ⟨hpw, hq0⟩ F2 N2 a2
  dsimp only at hpw hq0 F2 N2 a2 ⊢
  simp only [List.append_nil] at N2
  clear F N0
  k_steps
  (with_reducible rename News _ _ _ _ => nX)
  (with_reducible rename Fr _ _ _ _ => fX)
  rename_i h5 rl h6 lrl h7 h8
  refine For_R fX ?_
  k_steps
  (with_reducible rename News _ _ _ _ => nX)
  (with_reducible rename Fr _ _ _ _ => fX)
  refine usePick [_] nX hpw hq0 (by decide) (by decide) B fX X T rfl rfl rfl rfl ?_ ?_ ?_ ?_
  · ktr_room
  · ktr_units
  · exact apartLt lrl
  intro q1 i1 t1 h3 tk3 hq1 hj0 hj1 F3 N3
  simp only [List.cons_append, List.nil_append] at N3
  clear fX nX
  k_steps
  (with_reducible rename News _ _ _ _ => nX)
  (with_reducible rename Fr _ _ _ _ => fX)
  (with_reducible rename IsRange _ _ _ _ _ _ _ _ => rX)
  refine ⟨_, 0, 1 + i1, _, _, _, (1 + i1 - 0).toNat, _, _, LwJ sc pl wl rl, rfl, rfl, Fr.congr fX (m' := lwM sc pl rl _ _ none none none) (lw0 _ _ _ _ _), nX, rX, ?_, ?_, ⟨q1, [], 0, [], _, _, none, none, none, [], rfl, rfl, hq1, .nil, (fun _ h => nomatch h), rfl, rd_nil bl0, (by decide +kernel), fun _ h => nomatch h⟩, ?_, ?_⟩
  · exact small_one (by omega) (by omega) (by omega) (by omega)
  · exact rangeSize_nat _ _
  · clear fX nX rX
    rintro i m₁ nw z I oI h tk hi ⟨q, vs', k, l, src, t, o1, o2, o3, fz, rfl, rfl, hq, hrows, hlr, hli, hrd, hsl, hoff⟩ F1 N1 off
    have hi3 : i < 3 := by omega
    replace F1 : Fr s₁.heap s₁.heap.objs.size h (lwM sc pl rl src t o1 o2 o3) := F1
    replace N1 : News s₁.heap s₁.heap.objs.size h ((I, oI) :: (rl, listOf vs'.toArray k) :: (pl, listOf #[.ref wl, .int q.turn q.tk] q.k) :: (wl, listOf q.vs.toArray q.k2) :: fz) := N1
    k_steps
    (with_reducible rename News _ _ _ _ => nX)
    (with_reducible rename Fr _ _ _ _ => fX)
    rename_i hnl h5 sl h6 lsl
    obtain ⟨hn1, hn2, hn3⟩ := rule_name i hi3
    generalize Str.ofString "rule" ++ Str.ofString (toString ((0 : Int) + (i : Int))) = nm at hn1 hn2 hn3 hnl fX
    clear hnl
    have hps : @Ne Nat pl sl := Nat.ne_of_lt lsl.2.2.1
    have hws : @Ne Nat wl sl := Nat.ne_of_lt lsl.2.2.2.1
    have hpr : @Ne Nat pl rl := Nat.ne_of_lt lrl.1
    have hwr : @Ne Nat wl rl := Nat.ne_of_lt lrl.2
    have hIr : @Ne Nat I rl := fun e => off _ (.head _) e.symm
    have hIp : @Ne Nat I pl := fun e => off _ (.tail _ (.head _)) e.symm
    have hIw : @Ne Nat I wl := fun e => off _ (.tail _ (.tail _ (.head _))) e.symm
    have hsf := allLt_ne lsl.2.2.2.2
    obtain ⟨tks, nX9⟩ : ∃ tks, News s₁.heap s₁.heap.objs.size h6 ((sl, listOf #[.int 10 tks] 0) :: (I, oI) :: (rl, listOf vs'.toArray k) :: (pl, listOf #[.ref wl, .int q.turn q.tk] q.k) :: (wl, listOf q.vs.toArray q.k2) :: fz) := ⟨_, nX⟩
    refine Spec.use [(I, oI), (rl, listOf vs'.toArray k)] fz (treeAll _ _ _ _ _ _ pl wl sl hpw hps hws 4 ⟨q, 10, tks, 0⟩ _ hq) B fX X nX9 T rfl rfl rfl rfl ?_ ?_ ?_ ?_ ?_ trivial ?_ (fun _ _ _ _ _ _ h => h.elim)
    · ktr_room
    · ktr_units
    · exact mem_c (f := (I, oI))
    · exact apart3 (all_cons hIp (all_cons hpr.symm fun q hq => (hoff q hq).2.1)) (all_cons hIw (all_cons hwr.symm fun q hq => (hoff q hq).2.2)) (all_cons (Nat.ne_of_lt lsl.1) (all_cons (Nat.ne_of_lt lsl.2.1) hsf))
    · exact apart2 (fun q hq => off q (.tail _ (.tail _ (.tail _ hq)))) fun q hq => (hoff q hq).1
    rintro ⟨⟨q4, n4, tq4, kk4⟩, v4, fz4⟩ fz5 h4 tk4 ⟨hq4, e, he, hte⟩ hz1 hz2 F4 N4 a4 a5
    dsimp only at hq4 he hte hz1 F4 N4 a4 a5 ⊢
    have N4' : News s₁.heap s₁.heap.objs.size h4 ((rl, listOf vs'.toArray k) :: (pl, listOf #[.ref wl, .int q4.turn q4.tk] q4.k) :: (wl, listOf q4.vs.toArray q4.k2) :: spCell sl n4 tq4 kk4 :: (I, oI) :: fz5) := fun q hq => N4 q (mem_d (f := (I, oI)) q hq)
    clear N4 fX nX nX9
    k_steps
    (with_reducible rename News _ _ _ _ => nX)
    (with_reducible rename Fr _ _ _ _ => fX)
    rename_i h7 T9 h8 lT
    obtain ⟨t9, ht9⟩ : ∃ t9, News s₁.heap s₁.heap.objs.size h8 ((T9, TupO [.str nm t9, v4]) :: (rl, listOf vs'.toArray k) :: (pl, listOf #[.ref wl, .int q4.turn q4.tk] q4.k) :: (wl, listOf q4.vs.toArray q4.k2) :: spCell sl n4 tq4 kk4 :: (I, oI) :: fz5) := ⟨_, nX⟩
    clear nX
    have hfr : ∀ q ∈ fz5, q.1 ≠ rl := fun q hq e => a5 _ (.tail _ (.head _)) q hq e.symm
    refine append_K (its := vs'.toArray) (n := k) fX ht9 (.tail (Nat.ne_of_gt lT.1) (.head (all_cons hpr (all_cons hwr (all_cons (Nat.ne_of_gt lsl.2.1) (all_cons hIr hfr)))))) (fun h9 F9 N9 => ?_) ?_
    rotate_left
    · rw [List.size_toArray, hrows.len, hli, sizeLine_eq]; omega
    obtain ⟨R, hRe⟩ : ∃ R : Led, R = (T9, TupO [.str nm t9, v4]) :: (rl, listOf (vs'.toArray.push (.ref T9)) (k + 1)) :: spCell sl n4 tq4 kk4 :: (I, oI) :: fz5 := ⟨_, rfl⟩
    have N10 : News s₁.heap s₁.heap.objs.size h9 (plLed pl wl q4 ++ R) := fun q hq => N9 q (by rw [hRe] at hq; exact mem_b q hq)
    have hR : ∀ p ∈ R, p.1 ≠ pl ∧ p.1 ≠ wl := fun p hp => by
      rw [hRe] at hp
      simp only [List.mem_cons] at hp
      rcases hp with rfl | rfl | rfl | rfl | hp
      · exact ⟨Nat.ne_of_gt lT.2.1, Nat.ne_of_gt lT.2.2.1⟩
      · exact ⟨hpr.symm, hwr.symm⟩
      · exact ⟨hps.symm, hws.symm⟩
      · exact ⟨hIp, hIw⟩
      · exact ⟨fun e => a4 _ (.head _) p (List.mem_append_right _ hp) e.symm, fun e => a4 _ (.tail _ (.head _)) p (List.mem_append_right _ hp) e.symm⟩
    have hte' : TreeAt (Stands s₁.heap R) v4 e := hte.mono fun a o h => .inr (by rw [hRe]; exact .tail _ (.tail _ (.tail _ (.tail _ (hz1 _ h)))))
    clear fX ht9 N9
    k_steps
    (with_reducible rename News _ _ _ _ => nX)
    (with_reducible rename Fr _ _ _ _ => fX)
    refine Spec.use0 R (blankS _ _ _ _ _ _ pl wl hpw _ hq4) B fX X nX T rfl rfl rfl rfl ?_ ?_ (fun _ h => h) (apart2 (fun q hq => (hR q hq).1) fun q hq => (hR q hq).2) trivial ?_ (fun _ _ _ _ _ _ h => h.elim)
    · ktr_room
    · ktr_units
    rintro ⟨qb1, b1, tb1⟩ hb1 tkb1 ⟨hqb1, hbl1⟩ Fb1 Nb1 ab1
    dsimp only at hqb1 hbl1 Fb1 Nb1 ⊢
    clear fX nX ab1
    have hbn1 := hbl1.2
    k_steps
    (with_reducible rename News _ _ _ _ => nX)
    (with_reducible rename Fr _ _ _ _ => fX)
    refine Spec.use0 R (blankS _ _ _ _ _ _ pl wl hpw _ hqb1) B fX X nX T rfl rfl rfl rfl ?_ ?_ (fun _ h => h) (apart2 (fun q hq => (hR q hq).1) fun q hq => (hR q hq).2) trivial ?_ (fun _ _ _ _ _ _ h => h.elim)
    · ktr_room
    · ktr_units
    rintro ⟨qb2, b2, tb2⟩ hb2 tkb2 ⟨hqb2, hbl2⟩ Fb2 Nb2 ab2
    dsimp only at hqb2 hbl2 Fb2 Nb2 ⊢
    clear fX nX ab2
    have hbn2 := hbl2.2
    k_steps
    (with_reducible rename News _ _ _ _ => nX)
    (with_reducible rename Fr _ _ _ _ => fX)
    refine Spec.use0 R (blankS _ _ _ _ _ _ pl wl hpw _ hqb2) B fX X nX T rfl rfl rfl rfl ?_ ?_ (fun _ h => h) (apart2 (fun q hq => (hR q hq).1) fun q hq => (hR q hq).2) trivial ?_ (fun _ _ _ _ _ _ h => h.elim)
    · ktr_room
    · ktr_units
    rintro ⟨qb3, b3, tb3⟩ hb3 tkb3 ⟨hqb3, hbl3⟩ Fb3 Nb3 ab3
    dsimp only at hqb3 hbl3 Fb3 Nb3 ⊢
    clear fX nX ab3
    have hbn3 := hbl3.2
    k_steps
    (with_reducible rename News _ _ _ _ => nX)
    (with_reducible rename Fr _ _ _ _ => fX)
    refine Spec.use0 R ((shown_all _ _ _ _ _ _ pl wl hpw 4 (Nat.le_refl _)).1 v4 e _ he hqb3) B fX X nX T rfl rfl rfl rfl ?_ ?_ (fun _ h => h) (apart2 (fun q hq => (hR q hq).1) fun q hq => (hR q hq).2) hte' ?_ (fun _ _ _ _ _ _ h => h.elim)
    · ktr_room
    · ktr_units
    rintro ⟨q5, sh, t5⟩ h11 tk5 ⟨hq5, hsh⟩ F5 N5 ab5
    dsimp only at hq5 hsh F5 N5 ⊢
    clear fX nX ab5
    have hshl := le7680 (Nat.le_refl 4) hsh.len
    k_steps
    (with_reducible rename News _ _ _ _ => nX)
    (with_reducible rename Fr _ _ _ _ => fX)
    refine Spec.use0 R (blankS _ _ _ _ _ _ pl wl hpw _ hq5) B fX X nX T rfl rfl rfl rfl ?_ ?_ (fun _ h => h) (apart2 (fun q hq => (hR q hq).1) fun q hq => (hR q hq).2) trivial ?_ (fun _ _ _ _ _ _ h => h.elim)
    · ktr_room
    · ktr_units
    rintro ⟨qb4, b4, tb4⟩ hb4 tkb4 ⟨hqb4, hbl4⟩ Fb4 Nb4 ab4
    dsimp only at hqb4 hbl4 Fb4 Nb4 ⊢
    clear fX nX ab4
    have hbn4 := hbl4.2
    k_steps
    (with_reducible rename News _ _ _ _ => nX)
    (with_reducible rename Fr _ _ _ _ => fX)
    rw [hRe] at nX
    have hmv : ∀ a o, (a, o) ∈ fz → (a, o) ∈ (T9, TupO [.str nm t9, v4]) :: fz5 := fun a o h => .tail _ (hz2 _ h)
    refine ⟨_, _, _, (rl, listOf (vs'.toArray.push (.ref T9)) (k + 1)) :: (pl, listOf #[.ref wl, .int qb4.turn qb4.tk] qb4.k) :: (wl, listOf qb4.vs.toArray qb4.k2) :: (T9, TupO [.str nm t9, v4]) :: fz5, rfl, Fr.congr fX (lw1 sc pl rl src _ t _ o1 o2 o3 _ _ _), (fun q hq => nX q (mem_a q hq)), ?_,
      qb4, vs' ++ [.ref T9], k + 1, l ++ [(nm, e)], _, _, _, _, _, (T9, TupO [.str nm t9, v4]) :: fz5, rfl, by rw [List.push_toArray], hqb4, (hrows.mono hmv).app (.head _) (hte.mono fun _ _ h => .tail _ (hz1 _ h)), hlr.app hn1 hn2 hn3 he, by rw [List.length_append, hli]; rfl, law_row hrd hn1 hbl1 hbl2 hbl3 hbl4 hsh, ?_, ?_⟩
    · refine all_cons hIr.symm (all_cons hIp.symm (all_cons hIw.symm (all_cons (Nat.ne_of_gt lT.2.2.2.2.1) fun q hq e => a5 _ (.head _) q hq e.symm)))
    · have z1 : (Str.ofString "=").length = 1 := by decide +kernel
      have z2 : (Str.ofString " .").length = 2 := by decide +kernel
      omega
    · intro p hp
      rcases List.mem_cons.mp hp with rfl | hp
      · exact ⟨Nat.ne_of_gt lT.1, Nat.ne_of_gt lT.2.1, Nat.ne_of_gt lT.2.2.1⟩
      · exact ⟨hfr p hp, fun e => a4 _ (.head _) p (List.mem_append_right _ hp) e.symm, fun e => a4 _ (.tail _ (.head _)) p (List.mem_append_right _ hp) e.symm⟩
  · clear fX nX rX
    rintro m₁ nw h tk ⟨q, vs', k, l, src, t, o1, o2, o3, fz, rfl, rfl, hq, hrows, hlr, hli, hrd, hsl, hoff⟩ F1 N1
    replace F1 : Fr s₁.heap s₁.heap.objs.size h (lwM sc pl rl src t o1 o2 o3) := F1
    replace N1 : News s₁.heap s₁.heap.objs.size h ((rl, listOf vs'.toArray k) :: (pl, listOf #[.ref wl, .int q.turn q.tk] q.k) :: (wl, listOf q.vs.toArray q.k2) :: fz) := N1
    have hl3 : l.length ≤ 3 := by omega
    have hsl2 : src.length ≤ 24000 := by omega
    have hpr : @Ne Nat pl rl := Nat.ne_of_lt lrl.1
    have hwr : @Ne Nat wl rl := Nat.ne_of_lt lrl.2
    have hgr : GoodRows l := ⟨hl3, fun r hr => ⟨(hlr r hr).1, (hlr r hr).2.1, (hlr r hr).2.2.2⟩⟩
    have hap : Apart [(rl, listOf vs'.toArray k), (pl, listOf #[.ref wl, .int q.turn q.tk] q.k), (wl, listOf q.vs.toArray q.k2)] fz := apart3 (fun p hp => (hoff p hp).1) (fun p hp => (hoff p hp).2.1) fun p hp => (hoff p hp).2.2
    k_steps
    (with_reducible rename News _ _ _ _ => nX)
    (with_reducible rename Fr _ _ _ _ => fX)
    refine Spec.use [(rl, listOf vs'.toArray k), (pl, listOf #[.ref wl, .int q.turn q.tk] q.k), (wl, listOf q.vs.toArray q.k2)] fz (readS _ _ _ _ _ _ src _ (by omega) 40 (l.length + 1) (by omega) (by rw [rd_end hrd]; intro h; cases h)) B fX X nX T rfl rfl rfl rfl ?_ ?_ (fun _ h => h) (Apart.nil_l _) hap trivial ?_ ?_
    · ktr_room
    · ktr_units
    rotate_left
    · rintro ea wh at_ h9 tk9 gg ⟨l2, hl2, ha2⟩ fl hF up
      rw [rd_end hrd] at hl2; cases hl2
    rintro ⟨la, fz1⟩ fz2 h4 tk4 ⟨vs2, k2, l2, hpa, hm, htr⟩ hz1 hz2 F4 N4 a4 a5
    dsimp only at F4 N4 hm htr hz1 a4 a5 ⊢
    rw [rd_end hrd] at hpa; cases hpa
    simp only [List.cons_append, List.nil_append] at N4
    clear fX nX a4
    k_steps
    (with_reducible rename News _ _ _ _ => nX)
    (with_reducible rename Fr _ _ _ _ => fX)
    refine rows_ne (nX _ (.tail _ (.tail _ (.tail _ (hz1 _ hm))))).1 (nX _ (.head _)).1 (htr.mono fun a o h => (nX _ (.tail _ (.tail _ (.tail _ (hz1 _ h))))).1) (hrows.mono fun a o h => (nX _ (.tail _ (.tail _ (.tail _ (hz2 _ h))))).1) hlr ?_ ?_
    · ktr_units
    clear htr hm hz1
    k_steps
    refine Spec.use0 ((rl, listOf vs'.toArray k) :: (pl, listOf #[.ref wl, .int q.turn q.tk] q.k) :: (wl, listOf q.vs.toArray q.k2) :: fz2) (grammarS _ _ _ _ _ _ rl vs' k l hgr) B fX X nX T rfl rfl rfl rfl ?_ ?_ (fun _ h => h) (Apart.nil_l _) ⟨.inr (.head _), hrows.mono fun a o h => .inr (.tail _ (.tail _ (.tail _ (hz2 _ h))))⟩ ?_ (fun _ _ _ _ _ _ h => h.elim)
    · ktr_room
    · ktr_units
    rintro ⟨src2, t2⟩ h6 tk6 ⟨hrd2, hsl3⟩ F6 N6 a6
    dsimp only at hrd2 hsl3 F6 N6 a6 ⊢
    simp only [List.nil_append] at N6
    clear fX nX a6
    k_steps
    (with_reducible rename News _ _ _ _ => nX)
    (with_reducible rename Fr _ _ _ _ => fX)
    refine Spec.use [(rl, listOf vs'.toArray k), (pl, listOf #[.ref wl, .int q.turn q.tk] q.k), (wl, listOf q.vs.toArray q.k2)] fz2 (readS _ _ _ _ _ _ src2 _ (by omega) 40 (l.length + 1) (by omega) (by rw [rd_end hrd2]; intro h; cases h)) B fX X nX T rfl rfl rfl rfl ?_ ?_ (fun _ h => h) (Apart.nil_l _) a5 trivial ?_ ?_
    · ktr_room
    · ktr_units
    rotate_left
    · rintro ea wh at_ h9 tk9 gg ⟨l2, hl2, ha2⟩ fl hF up
      rw [rd_end hrd2] at hl2; cases hl2
    rintro ⟨lb, fz3⟩ fz4 h7 tk7 ⟨vs3, k3, l3, hpa, hm, htr⟩ hz1 hz4 F7 N7 a7 a8
    dsimp only at F7 N7 hm htr hz1 a7 a8 ⊢
    rw [rd_end hrd2] at hpa; cases hpa
    simp only [List.cons_append, List.nil_append] at N7
    clear fX nX a7 a5
    k_steps
    (with_reducible rename News _ _ _ _ => nX)
    (with_reducible rename Fr _ _ _ _ => fX)
    refine rows_ne (nX _ (.tail _ (.tail _ (.tail _ (hz1 _ hm))))).1 (nX _ (.head _)).1 (htr.mono fun a o h => (nX _ (.tail _ (.tail _ (.tail _ (hz1 _ h))))).1) (hrows.mono fun a o h => (nX _ (.tail _ (.tail _ (.tail _ (hz4 _ (hz2 _ h)))))).1) hlr ?_ ?_
    · ktr_units
    clear htr hm hz1 hz2 hz4 hrows
    k_steps
    (with_reducible rename News _ _ _ _ => nX)
    (with_reducible rename Fr _ _ _ _ => fX)
    refine Spec.use [(rl, listOf vs'.toArray k), (pl, listOf #[.ref wl, .int q.turn q.tk] q.k), (wl, listOf q.vs.toArray q.k2)] fz4 (faultsS _ _ _ _ _ _) B fX X nX T rfl rfl rfl rfl ?_ ?_ (fun _ h => h) (Apart.nil_l _) a8 trivial ?_ (fun _ _ _ _ _ _ h => h.elim)
    · ktr_room
    · ktr_units
    rintro ⟨fl, fz5⟩ fz6 h8 tk8 ⟨vs4, k4, hm4, hft⟩ hz5 hz6 F8 N8 a9 a10
    dsimp only at hm4 hft hz5 F8 N8 a9 a10 ⊢
    simp only [List.cons_append, List.nil_append] at N8
    have hm4' := hz5 _ hm4
    replace hft := hft.mono' fun a o h => hz5 _ h
    clear fX nX a9 a8 hz5 hm4
    k_steps
    (with_reducible rename News _ _ _ _ => nX)
    (with_reducible rename Fr _ _ _ _ => fX)
    have o6 : ∀ p ∈ (rl, listOf vs'.toArray k) :: fz6, p.1 ≠ pl ∧ p.1 ≠ wl := fun p hp => by
      rcases List.mem_cons.mp hp with rfl | hp
      · exact ⟨hpr.symm, hwr.symm⟩
      · exact ⟨fun e => a10 _ (.tail _ (.head _)) p hp e.symm, fun e => a10 _ (.tail _ (.tail _ (.head _))) p hp e.symm⟩
    refine usePick [(rl, listOf vs'.toArray k)] nX hpw hq (by decide) (by decide) B fX X T rfl rfl rfl rfl ?_ ?_ (apart2 (fun p hp => (o6 p hp).1) fun p hp => (o6 p hp).2) ?_
    · ktr_room
    · ktr_units
    intro q9 i9 t9 h9 tk9 hq9 hi9 hj9 F9 N9
    simp only [List.cons_append, List.nil_append] at N9
    clear fX nX
    k_steps
    (with_reducible rename News _ _ _ _ => nX)
    (with_reducible rename Fr _ _ _ _ => fX)
    refine usePick [(rl, listOf vs'.toArray k)] nX hpw hq9 (by decide) (by decide) B fX X T rfl rfl rfl rfl ?_ ?_ (apart2 (fun p hp => (o6 p hp).1) fun p hp => (o6 p hp).2) ?_
    · ktr_room
    · ktr_units
    intro q10 i10 t10 h10 tk10 hq10 hi10 hj10 F10 N10
    simp only [List.cons_append, List.nil_append] at N10
    clear fX nX
    k_steps
    have hb : 0 ≤ i9 * i10 ∧ i9 * i10 ≤ 12 := by
      rcases (show i9 = 0 ∨ i9 = 1 by omega) with rfl | rfl <;> omega
    obtain ⟨af, x, wh, n, u1, u2, u3, hx, hmem, hat⟩ := hft.get (i := (i9 * i10).toNat) (show _ < 13 by omega)
    refine item_at ⟨_, (N10 _ (.tail _ (.tail _ (.tail _ hm4')))).1, rfl, _, rfl⟩ hb.1 (by omega) hx ?_
    have N11 : News s₁.heap s₁.heap.objs.size h10 [(af, TupO [.str x u1, .str wh u2, .int n u3])] := fun p hp => by
      rw [List.mem_singleton.mp hp]; exact N10 _ (.tail _ (.tail _ (.tail _ hat)))
    clear N10 hm4' hft hx hat hb hi9 hj9 hi10 hj10 o6 a10 hz6 hq hq9 hq10 hap
    obtain ⟨_, hx20, hw20⟩ := faults_ok _ hmem
    dsimp only at hx20 hw20
    k_steps
    (with_reducible rename News _ _ _ _ => nX)
    (with_reducible rename Fr _ _ _ _ => fX)
    (with_reducible rename (_ == Str.ofString "") = false => hwb)
    have hsp : (Str.ofString " ").length = 1 := by decide +kernel
    obtain ⟨l1, hre, hat1⟩ := fault_read hmem (fun e => by rw [show wh = Str.ofString "" from e] at hwb; simp at hwb) hrd
    dsimp only at hre hat1
    refine Spec.use [] [] (readS _ _ _ _ _ _ (src ++ Str.ofString " " ++ x) _ (by omega) 40 (l.length + 9) (by omega) (by rw [hre]; intro h; cases h)) B fX X nX T rfl rfl rfl rfl ?_ ?_ (fun _ h => nomatch h) (Apart.nil_l _) (Apart.nil_l _) trivial ?_ ?_
    · ktr_room
    · ktr_units
    · rintro ⟨lb, fz3⟩ fz4 h7 tk7 ⟨vs3, k3, l3, hpa, _⟩
      rw [hre] at hpa; cases hpa
    rintro ea wh' at_ h9 tk9 gg ⟨l2, hl2, ha2⟩ fl hF up
    rw [hre] at hl2; cases hl2
    obtain rfl := hat1 _ ha2
    clear fX nX
    dsimp only
    refine caughtFE (z := Str.ofString "script") (vz := .ref sc) B hF up fl X T (by k_is) rfl (by decide +kernel) (by decide +kernel) (fun h2 d vs3 sl sl' k1 k2 v1 v2 tk2 F2 N2 => ?_)
    clear hF up fl ha2 hat1 hre
    k_steps
    (with_reducible rename News _ _ _ _ => nX)
    (with_reducible rename Fr _ _ _ _ => fX)
    refine getWhat fX X (nX _ (.head _)).1 (nX _ (.tail _ (.head _))).1 ?_
    k_steps
    refine getAt fX X (nX _ (.head _)).1 (nX _ (.tail _ (.head _))).1 ?_
    k_steps
    (with_reducible rename News _ _ _ _ => nX)
    refine pair_eq (nX _ (.tail _ (.head _))).1 (nX _ (.head _)).1 hw20 ?_ ?_
    · ktr_units
    k_steps

end
end Mine
set_option maxRecDepth 100000 in
set_option maxHeartbeats 8000000 in
theorem PySem.Challenge.cw_pb0327_01_holds : PySem.Challenge.rw_pb0327_01.Holds := by
  exact Mine.lawT
