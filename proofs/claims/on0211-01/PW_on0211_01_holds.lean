import PyProof.Rows.All
import Wide.All
import OpenK.AllK
import Wide.FinOn
import PySem.Challenge.RW_on0211_01
open PySem PySem.W PyProof.Rows
set_option Elab.async false
set_option maxRecDepth 100000
set_option maxHeartbeats 8000000
namespace Mine
def stAt (i : Nat) : Option Stmt := PySem.Challenge.pw_on0211_01.main.body[i]?
def mtAt (i j : Nat) : Option Stmt := match stAt i with
  | some (.ClassDef _ _ _ b _ _ _ _ _ _ _) => b[j]?
  | _ => none
/-- a def's data: its body, its parameters and its scope as they stand in the program at a place -/
abbrev fdat {n : Str} {ps : Arguments} {b : List Stmt} {dec : List PySem.Expr} {ret : Option PySem.Expr} {tp : List TypeParam} {sc : Scope} {ts : Option Scope} {bind : Str} {pos : Pos} (o : Option Stmt) (qual : Str) (gl : Addr) (clo : List (Str × Addr)) (dV kV doc pm : Value) (an : Option Addr) (cd ct : Value) (bl : Addr)
    (_h : o = some (Stmt.FunctionDef n ps b dec ret tp sc ts bind pos)) : FuncData := FuncData.mk n qual ps (.stmts b) sc gl clo dV kV doc pm an cd ct bl
/-- the part of the heap behind the program's top that the law comes to -/
noncomputable def kSrc : Params → Frag := fun P =>
  (nat_lit 2, (Obj.mk Value.none Option.none (Data.dict (List.toArray []) 0) (List.toArray []))) ::
  (nat_lit 3, (Obj.mk (Value.type "dict") Option.none (Data.dict (List.toArray [(DictEntry.mk (PyData.keyHash P (Str.ofString "__name__")) (Value.str (Str.ofString "__name__") 165) (Value.str (Str.ofString "law_on0211_01") 544)), (DictEntry.mk (PyData.keyHash P (Str.ofString "__doc__")) (Value.str (Str.ofString "__doc__") 166) Value.none), (DictEntry.mk (PyData.keyHash P (Str.ofString "__package__")) (Value.str (Str.ofString "__package__") 167) Value.none), (DictEntry.mk (PyData.keyHash P (Str.ofString "__loader__")) (Value.str (Str.ofString "__loader__") 168) (Value.builtin "__main__.__loader__#opaque")), (DictEntry.mk (PyData.keyHash P (Str.ofString "__spec__")) (Value.str (Str.ofString "__spec__") 169) Value.none), (DictEntry.mk (PyData.keyHash P (Str.ofString "__annotations__")) (Value.str (Str.ofString "__annotations__") 170) (Value.ref 6)), (DictEntry.mk (PyData.keyHash P (Str.ofString "__builtins__")) (Value.str (Str.ofString "__builtins__") 171) (Value.ref 4)), (DictEntry.mk (PyData.keyHash P (Str.ofString "__file__")) (Value.str (Str.ofString "__file__") 173) (Value.str (Str.ofString "/claim/cut.py") 172)), (DictEntry.mk (PyData.keyHash P (Str.ofString "__cached__")) (Value.str (Str.ofString "__cached__") 174) Value.none), (DictEntry.mk (PyData.keyHash P (Str.ofString "_wall")) (Value.str (Str.ofString "_wall") 193) (Value.ref 21)), (DictEntry.mk (PyData.keyHash P (Str.ofString "ErrorList")) (Value.str (Str.ofString "ErrorList") 247) (Value.ref 59)), (DictEntry.mk (PyData.keyHash P (Str.ofString "MOST_INTEGER")) (Value.str (Str.ofString "MOST_INTEGER") 251) (Value.int (2147483647 : Int) 250)), (DictEntry.mk (PyData.keyHash P (Str.ofString "MOST_WORD")) (Value.str (Str.ofString "MOST_WORD") 253) (Value.int (4294967295 : Int) 252)), (DictEntry.mk (PyData.keyHash P (Str.ofString "Token")) (Value.str (Str.ofString "Token") 286) (Value.ref 80)), (DictEntry.mk (PyData.keyHash P (Str.ofString "keywords")) (Value.str (Str.ofString "keywords") 292) (Value.ref 91)), (DictEntry.mk (PyData.keyHash P (Str.ofString "is_letter")) (Value.str (Str.ofString "is_letter") 299) (Value.ref 98)), (DictEntry.mk (PyData.keyHash P (Str.ofString "is_digit")) (Value.str (Str.ofString "is_digit") 306) (Value.ref 105)), (DictEntry.mk (PyData.keyHash P (Str.ofString "is_hex_digit")) (Value.str (Str.ofString "is_hex_digit") 313) (Value.ref 112)), (DictEntry.mk (PyData.keyHash P (Str.ofString "digits_value")) (Value.str (Str.ofString "digits_value") 324) (Value.ref 119)), (DictEntry.mk (PyData.keyHash P (Str.ofString "Scanner")) (Value.str (Str.ofString "Scanner") 480) (Value.ref 228)), (DictEntry.mk (PyData.keyHash P (Str.ofString "Head")) (Value.str (Str.ofString "Head") 513) (Value.ref 249)), (DictEntry.mk (PyData.keyHash P (Str.ofString "imported_name")) (Value.str (Str.ofString "imported_name") 522) (Value.ref 260)), (DictEntry.mk (PyData.keyHash P (Str.ofString "import_names")) (Value.str (Str.ofString "import_names") 533) (Value.ref 267)), (DictEntry.mk (PyData.keyHash P (Str.ofString "head_of")) (Value.str (Str.ofString "head_of") 543) (Value.ref 274)), (DictEntry.mk (PyData.keyHash P (Str.ofString "_law_figures")) (Value.str (Str.ofString "_law_figures") 556) (Value.ref 281)), (DictEntry.mk (PyData.keyHash P (Str.ofString "_law_draw")) (Value.str (Str.ofString "_law_draw") 564) (Value.ref 288)), (DictEntry.mk (PyData.keyHash P (Str.ofString "_law_gap")) (Value.str (Str.ofString "_law_gap") 571) (Value.ref 295)), (DictEntry.mk (PyData.keyHash P (Str.ofString "_law_is_name")) (Value.str (Str.ofString "_law_is_name") 578) (Value.ref 302)), (DictEntry.mk (PyData.keyHash P (Str.ofString "_law_due")) (Value.str (Str.ofString "_law_due") 584) (Value.ref 307)), (DictEntry.mk (PyData.keyHash P (Str.ofString "law")) (Value.str (Str.ofString "law") 590) (Value.ref 312))]) 30) (List.toArray []))) ::
  (nat_lit 15, (Obj.mk (Value.type "tuple") Option.none (Data.seq (List.toArray []) 0) (List.toArray []))) ::
  (nat_lit 17, (Obj.mk (Value.type "tuple") Option.none (Data.seq (List.toArray [(Value.str (Str.ofString "k") 190)]) 0) (List.toArray []))) ::
  (nat_lit 18, (Obj.mk (Value.type "tuple") Option.none (Data.seq (List.toArray []) 0) (List.toArray []))) ::
  (nat_lit 20, (Obj.mk (Value.type "code") Option.none (Data.fields (List.toArray [(Value.str (Str.ofString "_wall") 187), (Value.str (Str.ofString "_wall") 188), (Value.str (Str.ofString "/claim/cut.py") 189), (Value.int (1 : Int) 0), (Value.int (1 : Int) 0), (Value.int (0 : Int) 0), (Value.int (0 : Int) 0), (Value.int (3 : Int) 0), (Value.ref 15), (Value.bool Bool.true), (Value.int (181 : Int) 0), (Value.ref 16), Value.none, (Value.ref 17), (Value.ref 18), (Value.ref 19), (Value.int (191 : Int) 0), (Value.int (1 : Int) 0), (Value.str (Str.ofString "/claim/cut.py") 192)])) (List.toArray []))) ::
  (nat_lit 21, (Obj.mk (Value.type "function") Option.none (Data.func (fdat (stAt 0) (Str.ofString "_wall") 3 [] Value.none Value.none Value.none (Value.str (Str.ofString "__main__") 164) Option.none (Value.ref 20) Value.none 0 rfl)) (List.toArray []))) ::
  (nat_lit 29, (Obj.mk (Value.type "tuple") Option.none (Data.seq (List.toArray []) 0) (List.toArray []))) ::
  (nat_lit 31, (Obj.mk (Value.type "tuple") Option.none (Data.seq (List.toArray [(Value.str (Str.ofString "self") 211)]) 0) (List.toArray []))) ::
  (nat_lit 32, (Obj.mk (Value.type "tuple") Option.none (Data.seq (List.toArray []) 0) (List.toArray []))) ::
  (nat_lit 34, (Obj.mk (Value.type "code") Option.none (Data.fields (List.toArray [(Value.str (Str.ofString "__init__") 208), (Value.str (Str.ofString "ErrorList.__init__") 209), (Value.str (Str.ofString "/claim/cut.py") 210), (Value.int (7 : Int) 0), (Value.int (1 : Int) 0), (Value.int (0 : Int) 0), (Value.int (0 : Int) 0), (Value.int (3 : Int) 0), (Value.ref 29), (Value.bool Bool.true), (Value.int (181 : Int) 0), (Value.ref 30), Value.none, (Value.ref 31), (Value.ref 32), (Value.ref 33), (Value.int (212 : Int) 0), (Value.int (7 : Int) 0), (Value.str (Str.ofString "/claim/cut.py") 213)])) (List.toArray []))) ::
  (nat_lit 35, (Obj.mk (Value.type "function") Option.none (Data.func (fdat (mtAt 2 0) (Str.ofString "ErrorList.__init__") 3 [] Value.none Value.none Value.none (Value.str (Str.ofString "moduleyard.errors") 194) Option.none (Value.ref 34) Value.none 0 rfl)) (List.toArray []))) ::
  (nat_lit 36, (Obj.mk (Value.type "tuple") Option.none (Data.seq (List.toArray []) 0) (List.toArray []))) ::
  (nat_lit 38, (Obj.mk (Value.type "tuple") Option.none (Data.seq (List.toArray [(Value.str (Str.ofString "self") 218), (Value.str (Str.ofString "place") 219), (Value.str (Str.ofString "code") 220)]) 0) (List.toArray []))) ::
  (nat_lit 39, (Obj.mk (Value.type "tuple") Option.none (Data.seq (List.toArray []) 0) (List.toArray []))) ::
  (nat_lit 41, (Obj.mk (Value.type "code") Option.none (Data.fields (List.toArray [(Value.str (Str.ofString "mark") 215), (Value.str (Str.ofString "ErrorList.mark") 216), (Value.str (Str.ofString "/claim/cut.py") 217), (Value.int (11 : Int) 0), (Value.int (3 : Int) 0), (Value.int (0 : Int) 0), (Value.int (0 : Int) 0), (Value.int (3 : Int) 0), (Value.ref 36), (Value.bool Bool.true), (Value.int (181 : Int) 0), (Value.ref 37), Value.none, (Value.ref 38), (Value.ref 39), (Value.ref 40), (Value.int (221 : Int) 0), (Value.int (11 : Int) 0), (Value.str (Str.ofString "/claim/cut.py") 222)])) (List.toArray []))) ::
  (nat_lit 42, (Obj.mk (Value.type "function") Option.none (Data.func (fdat (mtAt 2 1) (Str.ofString "ErrorList.mark") 3 [] Value.none Value.none Value.none (Value.str (Str.ofString "moduleyard.errors") 194) Option.none (Value.ref 41) Value.none 0 rfl)) (List.toArray []))) ::
  (nat_lit 43, (Obj.mk (Value.type "tuple") Option.none (Data.seq (List.toArray []) 0) (List.toArray []))) ::
  (nat_lit 45, (Obj.mk (Value.type "tuple") Option.none (Data.seq (List.toArray [(Value.str (Str.ofString "self") 227)]) 0) (List.toArray []))) ::
  (nat_lit 46, (Obj.mk (Value.type "tuple") Option.none (Data.seq (List.toArray []) 0) (List.toArray []))) ::
  (nat_lit 48, (Obj.mk (Value.type "code") Option.none (Data.fields (List.toArray [(Value.str (Str.ofString "first") 224), (Value.str (Str.ofString "ErrorList.first") 225), (Value.str (Str.ofString "/claim/cut.py") 226), (Value.int (16 : Int) 0), (Value.int (1 : Int) 0), (Value.int (0 : Int) 0), (Value.int (0 : Int) 0), (Value.int (3 : Int) 0), (Value.ref 43), (Value.bool Bool.true), (Value.int (181 : Int) 0), (Value.ref 44), Value.none, (Value.ref 45), (Value.ref 46), (Value.ref 47), (Value.int (228 : Int) 0), (Value.int (16 : Int) 0), (Value.str (Str.ofString "/claim/cut.py") 229)])) (List.toArray []))) ::
  (nat_lit 49, (Obj.mk (Value.type "function") Option.none (Data.func (fdat (mtAt 2 2) (Str.ofString "ErrorList.first") 3 [] Value.none Value.none Value.none (Value.str (Str.ofString "moduleyard.errors") 194) Option.none (Value.ref 48) Value.none 0 rfl)) (List.toArray []))) ::
  (nat_lit 50, (Obj.mk (Value.type "tuple") Option.none (Data.seq (List.toArray []) 0) (List.toArray []))) ::
  (nat_lit 52, (Obj.mk (Value.type "tuple") Option.none (Data.seq (List.toArray [(Value.str (Str.ofString "self") 234)]) 0) (List.toArray []))) ::
  (nat_lit 53, (Obj.mk (Value.type "tuple") Option.none (Data.seq (List.toArray []) 0) (List.toArray []))) ::
  (nat_lit 55, (Obj.mk (Value.type "code") Option.none (Data.fields (List.toArray [(Value.str (Str.ofString "ok") 231), (Value.str (Str.ofString "ErrorList.ok") 232), (Value.str (Str.ofString "/claim/cut.py") 233), (Value.int (19 : Int) 0), (Value.int (1 : Int) 0), (Value.int (0 : Int) 0), (Value.int (0 : Int) 0), (Value.int (3 : Int) 0), (Value.ref 50), (Value.bool Bool.true), (Value.int (181 : Int) 0), (Value.ref 51), Value.none, (Value.ref 52), (Value.ref 53), (Value.ref 54), (Value.int (235 : Int) 0), (Value.int (19 : Int) 0), (Value.str (Str.ofString "/claim/cut.py") 236)])) (List.toArray []))) ::
  (nat_lit 56, (Obj.mk (Value.type "function") Option.none (Data.func (fdat (mtAt 2 3) (Str.ofString "ErrorList.ok") 3 [] Value.none Value.none Value.none (Value.str (Str.ofString "moduleyard.errors") 194) Option.none (Value.ref 55) Value.none 0 rfl)) (List.toArray []))) ::
  (nat_lit 57, (Obj.mk (Value.type "tuple") Option.none (Data.seq (List.toArray [(Value.str (Str.ofString "places") 238), (Value.str (Str.ofString "rows") 239)]) 0) (List.toArray []))) ::
  (nat_lit 58, (Obj.mk (Value.type "dict") Option.none (Data.dict (List.toArray [(DictEntry.mk (PyData.keyHash P (Str.ofString "__module__")) (Value.str (Str.ofString "__module__") 203) (Value.str (Str.ofString "moduleyard.errors") 194)), (DictEntry.mk (PyData.keyHash P (Str.ofString "__firstlineno__")) (Value.str (Str.ofString "__firstlineno__") 207) (Value.int (5 : Int) 206)), (DictEntry.mk (PyData.keyHash P (Str.ofString "__init__")) (Value.str (Str.ofString "__init__") 214) (Value.ref 35)), (DictEntry.mk (PyData.keyHash P (Str.ofString "mark")) (Value.str (Str.ofString "mark") 223) (Value.ref 42)), (DictEntry.mk (PyData.keyHash P (Str.ofString "first")) (Value.str (Str.ofString "first") 230) (Value.ref 49)), (DictEntry.mk (PyData.keyHash P (Str.ofString "ok")) (Value.str (Str.ofString "ok") 237) (Value.ref 56)), (DictEntry.mk (PyData.keyHash P (Str.ofString "__static_attributes__")) (Value.str (Str.ofString "__static_attributes__") 240) (Value.ref 57)), (DictEntry.mk (PyData.keyHash P (Str.ofString "__dict__")) (Value.str (Str.ofString "__dict__") 242) (Value.ref 60)), (DictEntry.mk (PyData.keyHash P (Str.ofString "__weakref__")) (Value.str (Str.ofString "__weakref__") 244) (Value.ref 61)), (DictEntry.mk (PyData.keyHash P (Str.ofString "__doc__")) (Value.str (Str.ofString "__doc__") 245) Value.none)]) 4) (List.toArray []))) ::
  (nat_lit 59, (Obj.mk (Value.type "type") Option.none (Data.cls (ClassData.mk (Str.ofString "ErrorList") [(Value.type "object")] [(Value.ref 59), (Value.type "object")] 58 (Str.ofString "ErrorList") Bool.true [] [] Bool.false Option.none Bool.false)) (List.toArray [Option.none, Option.none, (Option.some (Value.str (Str.ofString "ErrorList") 196)), (Option.some (Value.str (Str.ofString "ErrorList") 204)), (Option.some (Value.builtin "object.__new__")), (Option.some (Value.bool Bool.true))]))) ::
  (nat_lit 60, (Obj.mk (Value.type "getset_descriptor") Option.none (Data.fields (List.toArray [(Value.str (Str.ofString "__dict__") 241), (Value.ref 59), (Value.builtin "function.__dict__"), (Value.builtin "function.__dict__#set")])) (List.toArray []))) ::
  (nat_lit 61, (Obj.mk (Value.type "getset_descriptor") Option.none (Data.fields (List.toArray [(Value.str (Str.ofString "__weakref__") 243), (Value.ref 59), (Value.builtin "ExceptionGroup.__weakref__"), Value.none])) (List.toArray []))) ::
  (nat_lit 71, (Obj.mk (Value.type "tuple") Option.none (Data.seq (List.toArray []) 0) (List.toArray []))) ::
  (nat_lit 73, (Obj.mk (Value.type "tuple") Option.none (Data.seq (List.toArray [(Value.str (Str.ofString "self") 269), (Value.str (Str.ofString "kind") 270), (Value.str (Str.ofString "value") 271), (Value.str (Str.ofString "place") 272)]) 0) (List.toArray []))) ::
  (nat_lit 74, (Obj.mk (Value.type "tuple") Option.none (Data.seq (List.toArray []) 0) (List.toArray []))) ::
  (nat_lit 76, (Obj.mk (Value.type "code") Option.none (Data.fields (List.toArray [(Value.str (Str.ofString "__init__") 266), (Value.str (Str.ofString "Token.__init__") 267), (Value.str (Str.ofString "/claim/cut.py") 268), (Value.int (26 : Int) 0), (Value.int (4 : Int) 0), (Value.int (0 : Int) 0), (Value.int (0 : Int) 0), (Value.int (3 : Int) 0), (Value.ref 71), (Value.bool Bool.true), (Value.int (181 : Int) 0), (Value.ref 72), Value.none, (Value.ref 73), (Value.ref 74), (Value.ref 75), (Value.int (273 : Int) 0), (Value.int (26 : Int) 0), (Value.str (Str.ofString "/claim/cut.py") 274)])) (List.toArray []))) ::
  (nat_lit 77, (Obj.mk (Value.type "function") Option.none (Data.func (fdat (mtAt 6 0) (Str.ofString "Token.__init__") 3 [] Value.none Value.none Value.none (Value.str (Str.ofString "moduleyard.scanner") 248) Option.none (Value.ref 76) Value.none 0 rfl)) (List.toArray []))) ::
  (nat_lit 78, (Obj.mk (Value.type "tuple") Option.none (Data.seq (List.toArray [(Value.str (Str.ofString "kind") 276), (Value.str (Str.ofString "place") 277), (Value.str (Str.ofString "value") 278)]) 0) (List.toArray []))) ::
  (nat_lit 79, (Obj.mk (Value.type "dict") Option.none (Data.dict (List.toArray [(DictEntry.mk (PyData.keyHash P (Str.ofString "__module__")) (Value.str (Str.ofString "__module__") 261) (Value.str (Str.ofString "moduleyard.scanner") 248)), (DictEntry.mk (PyData.keyHash P (Str.ofString "__firstlineno__")) (Value.str (Str.ofString "__firstlineno__") 265) (Value.int (24 : Int) 264)), (DictEntry.mk (PyData.keyHash P (Str.ofString "__init__")) (Value.str (Str.ofString "__init__") 275) (Value.ref 77)), (DictEntry.mk (PyData.keyHash P (Str.ofString "__static_attributes__")) (Value.str (Str.ofString "__static_attributes__") 279) (Value.ref 78)), (DictEntry.mk (PyData.keyHash P (Str.ofString "__dict__")) (Value.str (Str.ofString "__dict__") 281) (Value.ref 81)), (DictEntry.mk (PyData.keyHash P (Str.ofString "__weakref__")) (Value.str (Str.ofString "__weakref__") 283) (Value.ref 82)), (DictEntry.mk (PyData.keyHash P (Str.ofString "__doc__")) (Value.str (Str.ofString "__doc__") 284) Value.none)]) 4) (List.toArray []))) ::
  (nat_lit 80, (Obj.mk (Value.type "type") Option.none (Data.cls (ClassData.mk (Str.ofString "Token") [(Value.type "object")] [(Value.ref 80), (Value.type "object")] 79 (Str.ofString "Token") Bool.true [] [] Bool.false Option.none Bool.false)) (List.toArray [Option.none, Option.none, (Option.some (Value.str (Str.ofString "Token") 254)), (Option.some (Value.str (Str.ofString "Token") 262)), (Option.some (Value.builtin "object.__new__")), (Option.some (Value.bool Bool.true))]))) ::
  (nat_lit 81, (Obj.mk (Value.type "getset_descriptor") Option.none (Data.fields (List.toArray [(Value.str (Str.ofString "__dict__") 280), (Value.ref 80), (Value.builtin "function.__dict__"), (Value.builtin "function.__dict__#set")])) (List.toArray []))) ::
  (nat_lit 82, (Obj.mk (Value.type "getset_descriptor") Option.none (Data.fields (List.toArray [(Value.str (Str.ofString "__weakref__") 282), (Value.ref 80), (Value.builtin "ExceptionGroup.__weakref__"), Value.none])) (List.toArray []))) ::
  (nat_lit 85, (Obj.mk (Value.type "tuple") Option.none (Data.seq (List.toArray []) 0) (List.toArray []))) ::
  (nat_lit 87, (Obj.mk (Value.type "tuple") Option.none (Data.seq (List.toArray []) 0) (List.toArray []))) ::
  (nat_lit 88, (Obj.mk (Value.type "tuple") Option.none (Data.seq (List.toArray []) 0) (List.toArray []))) ::
  (nat_lit 90, (Obj.mk (Value.type "code") Option.none (Data.fields (List.toArray [(Value.str (Str.ofString "keywords") 287), (Value.str (Str.ofString "keywords") 288), (Value.str (Str.ofString "/claim/cut.py") 289), (Value.int (30 : Int) 0), (Value.int (0 : Int) 0), (Value.int (0 : Int) 0), (Value.int (0 : Int) 0), (Value.int (3 : Int) 0), (Value.ref 85), (Value.bool Bool.true), (Value.int (181 : Int) 0), (Value.ref 86), Value.none, (Value.ref 87), (Value.ref 88), (Value.ref 89), (Value.int (290 : Int) 0), (Value.int (30 : Int) 0), (Value.str (Str.ofString "/claim/cut.py") 291)])) (List.toArray []))) ::
  (nat_lit 91, (Obj.mk (Value.type "function") Option.none (Data.func (fdat (stAt 7) (Str.ofString "keywords") 3 [] Value.none Value.none Value.none (Value.str (Str.ofString "moduleyard.scanner") 248) Option.none (Value.ref 90) Value.none 0 rfl)) (List.toArray []))) ::
  (nat_lit 92, (Obj.mk (Value.type "tuple") Option.none (Data.seq (List.toArray []) 0) (List.toArray []))) ::
  (nat_lit 94, (Obj.mk (Value.type "tuple") Option.none (Data.seq (List.toArray [(Value.str (Str.ofString "char") 296)]) 0) (List.toArray []))) ::
  (nat_lit 95, (Obj.mk (Value.type "tuple") Option.none (Data.seq (List.toArray []) 0) (List.toArray []))) ::
  (nat_lit 97, (Obj.mk (Value.type "code") Option.none (Data.fields (List.toArray [(Value.str (Str.ofString "is_letter") 293), (Value.str (Str.ofString "is_letter") 294), (Value.str (Str.ofString "/claim/cut.py") 295), (Value.int (32 : Int) 0), (Value.int (1 : Int) 0), (Value.int (0 : Int) 0), (Value.int (0 : Int) 0), (Value.int (3 : Int) 0), (Value.ref 92), (Value.bool Bool.true), (Value.int (181 : Int) 0), (Value.ref 93), Value.none, (Value.ref 94), (Value.ref 95), (Value.ref 96), (Value.int (297 : Int) 0), (Value.int (32 : Int) 0), (Value.str (Str.ofString "/claim/cut.py") 298)])) (List.toArray []))) ::
  (nat_lit 98, (Obj.mk (Value.type "function") Option.none (Data.func (fdat (stAt 8) (Str.ofString "is_letter") 3 [] Value.none Value.none Value.none (Value.str (Str.ofString "moduleyard.scanner") 248) Option.none (Value.ref 97) Value.none 0 rfl)) (List.toArray []))) ::
  (nat_lit 99, (Obj.mk (Value.type "tuple") Option.none (Data.seq (List.toArray []) 0) (List.toArray []))) ::
  (nat_lit 101, (Obj.mk (Value.type "tuple") Option.none (Data.seq (List.toArray [(Value.str (Str.ofString "char") 303)]) 0) (List.toArray []))) ::
  (nat_lit 102, (Obj.mk (Value.type "tuple") Option.none (Data.seq (List.toArray []) 0) (List.toArray []))) ::
  (nat_lit 104, (Obj.mk (Value.type "code") Option.none (Data.fields (List.toArray [(Value.str (Str.ofString "is_digit") 300), (Value.str (Str.ofString "is_digit") 301), (Value.str (Str.ofString "/claim/cut.py") 302), (Value.int (34 : Int) 0), (Value.int (1 : Int) 0), (Value.int (0 : Int) 0), (Value.int (0 : Int) 0), (Value.int (3 : Int) 0), (Value.ref 99), (Value.bool Bool.true), (Value.int (181 : Int) 0), (Value.ref 100), Value.none, (Value.ref 101), (Value.ref 102), (Value.ref 103), (Value.int (304 : Int) 0), (Value.int (34 : Int) 0), (Value.str (Str.ofString "/claim/cut.py") 305)])) (List.toArray []))) ::
  (nat_lit 105, (Obj.mk (Value.type "function") Option.none (Data.func (fdat (stAt 9) (Str.ofString "is_digit") 3 [] Value.none Value.none Value.none (Value.str (Str.ofString "moduleyard.scanner") 248) Option.none (Value.ref 104) Value.none 0 rfl)) (List.toArray []))) ::
  (nat_lit 106, (Obj.mk (Value.type "tuple") Option.none (Data.seq (List.toArray []) 0) (List.toArray []))) ::
  (nat_lit 108, (Obj.mk (Value.type "tuple") Option.none (Data.seq (List.toArray [(Value.str (Str.ofString "char") 310)]) 0) (List.toArray []))) ::
  (nat_lit 109, (Obj.mk (Value.type "tuple") Option.none (Data.seq (List.toArray []) 0) (List.toArray []))) ::
  (nat_lit 111, (Obj.mk (Value.type "code") Option.none (Data.fields (List.toArray [(Value.str (Str.ofString "is_hex_digit") 307), (Value.str (Str.ofString "is_hex_digit") 308), (Value.str (Str.ofString "/claim/cut.py") 309), (Value.int (36 : Int) 0), (Value.int (1 : Int) 0), (Value.int (0 : Int) 0), (Value.int (0 : Int) 0), (Value.int (3 : Int) 0), (Value.ref 106), (Value.bool Bool.true), (Value.int (181 : Int) 0), (Value.ref 107), Value.none, (Value.ref 108), (Value.ref 109), (Value.ref 110), (Value.int (311 : Int) 0), (Value.int (36 : Int) 0), (Value.str (Str.ofString "/claim/cut.py") 312)])) (List.toArray []))) ::
  (nat_lit 112, (Obj.mk (Value.type "function") Option.none (Data.func (fdat (stAt 10) (Str.ofString "is_hex_digit") 3 [] Value.none Value.none Value.none (Value.str (Str.ofString "moduleyard.scanner") 248) Option.none (Value.ref 111) Value.none 0 rfl)) (List.toArray []))) ::
  (nat_lit 113, (Obj.mk (Value.type "tuple") Option.none (Data.seq (List.toArray []) 0) (List.toArray []))) ::
  (nat_lit 115, (Obj.mk (Value.type "tuple") Option.none (Data.seq (List.toArray [(Value.str (Str.ofString "digits") 317), (Value.str (Str.ofString "base") 318), (Value.str (Str.ofString "most") 319), (Value.str (Str.ofString "value") 320), (Value.str (Str.ofString "digit") 321)]) 0) (List.toArray []))) ::
  (nat_lit 116, (Obj.mk (Value.type "tuple") Option.none (Data.seq (List.toArray []) 0) (List.toArray []))) ::
  (nat_lit 118, (Obj.mk (Value.type "code") Option.none (Data.fields (List.toArray [(Value.str (Str.ofString "digits_value") 314), (Value.str (Str.ofString "digits_value") 315), (Value.str (Str.ofString "/claim/cut.py") 316), (Value.int (38 : Int) 0), (Value.int (3 : Int) 0), (Value.int (0 : Int) 0), (Value.int (0 : Int) 0), (Value.int (3 : Int) 0), (Value.ref 113), (Value.bool Bool.true), (Value.int (181 : Int) 0), (Value.ref 114), Value.none, (Value.ref 115), (Value.ref 116), (Value.ref 117), (Value.int (322 : Int) 0), (Value.int (38 : Int) 0), (Value.str (Str.ofString "/claim/cut.py") 323)])) (List.toArray []))) ::
  (nat_lit 119, (Obj.mk (Value.type "function") Option.none (Data.func (fdat (stAt 11) (Str.ofString "digits_value") 3 [] Value.none Value.none Value.none (Value.str (Str.ofString "moduleyard.scanner") 248) Option.none (Value.ref 118) Value.none 0 rfl)) (List.toArray []))) ::
  (nat_lit 127, (Obj.mk (Value.type "tuple") Option.none (Data.seq (List.toArray []) 0) (List.toArray []))) ::
  (nat_lit 129, (Obj.mk (Value.type "tuple") Option.none (Data.seq (List.toArray [(Value.str (Str.ofString "self") 340), (Value.str (Str.ofString "source") 341), (Value.str (Str.ofString "errors") 342)]) 0) (List.toArray []))) ::
  (nat_lit 130, (Obj.mk (Value.type "tuple") Option.none (Data.seq (List.toArray []) 0) (List.toArray []))) ::
  (nat_lit 132, (Obj.mk (Value.type "code") Option.none (Data.fields (List.toArray [(Value.str (Str.ofString "__init__") 337), (Value.str (Str.ofString "Scanner.__init__") 338), (Value.str (Str.ofString "/claim/cut.py") 339), (Value.int (47 : Int) 0), (Value.int (3 : Int) 0), (Value.int (0 : Int) 0), (Value.int (0 : Int) 0), (Value.int (3 : Int) 0), (Value.ref 127), (Value.bool Bool.true), (Value.int (181 : Int) 0), (Value.ref 128), Value.none, (Value.ref 129), (Value.ref 130), (Value.ref 131), (Value.int (343 : Int) 0), (Value.int (47 : Int) 0), (Value.str (Str.ofString "/claim/cut.py") 344)])) (List.toArray []))) ::
  (nat_lit 133, (Obj.mk (Value.type "function") Option.none (Data.func (fdat (mtAt 12 0) (Str.ofString "Scanner.__init__") 3 [] Value.none Value.none Value.none (Value.str (Str.ofString "moduleyard.scanner") 248) Option.none (Value.ref 132) Value.none 0 rfl)) (List.toArray []))) ::
  (nat_lit 134, (Obj.mk (Value.type "tuple") Option.none (Data.seq (List.toArray [(Value.int (0 : Int) 346)]) 0) (List.toArray []))) ::
  (nat_lit 135, (Obj.mk (Value.type "tuple") Option.none (Data.seq (List.toArray []) 0) (List.toArray []))) ::
  (nat_lit 137, (Obj.mk (Value.type "tuple") Option.none (Data.seq (List.toArray [(Value.str (Str.ofString "self") 350), (Value.str (Str.ofString "ahead") 351)]) 0) (List.toArray []))) ::
  (nat_lit 138, (Obj.mk (Value.type "tuple") Option.none (Data.seq (List.toArray []) 0) (List.toArray []))) ::
  (nat_lit 140, (Obj.mk (Value.type "code") Option.none (Data.fields (List.toArray [(Value.str (Str.ofString "char") 347), (Value.str (Str.ofString "Scanner.char") 348), (Value.str (Str.ofString "/claim/cut.py") 349), (Value.int (53 : Int) 0), (Value.int (2 : Int) 0), (Value.int (0 : Int) 0), (Value.int (0 : Int) 0), (Value.int (3 : Int) 0), (Value.ref 135), (Value.bool Bool.true), (Value.int (181 : Int) 0), (Value.ref 136), Value.none, (Value.ref 137), (Value.ref 138), (Value.ref 139), (Value.int (352 : Int) 0), (Value.int (53 : Int) 0), (Value.str (Str.ofString "/claim/cut.py") 353)])) (List.toArray []))) ::
  (nat_lit 141, (Obj.mk (Value.type "function") Option.none (Data.func (fdat (mtAt 12 1) (Str.ofString "Scanner.char") 3 [] (Value.ref 134) Value.none Value.none (Value.str (Str.ofString "moduleyard.scanner") 248) Option.none (Value.ref 140) Value.none 0 rfl)) (List.toArray []))) ::
  (nat_lit 142, (Obj.mk (Value.type "tuple") Option.none (Data.seq (List.toArray []) 0) (List.toArray []))) ::
  (nat_lit 144, (Obj.mk (Value.type "tuple") Option.none (Data.seq (List.toArray [(Value.str (Str.ofString "self") 358), (Value.str (Str.ofString "begun") 359), (Value.str (Str.ofString "char") 360), (Value.str (Str.ofString "symbol") 361)]) 0) (List.toArray []))) ::
  (nat_lit 145, (Obj.mk (Value.type "tuple") Option.none (Data.seq (List.toArray []) 0) (List.toArray []))) ::
  (nat_lit 147, (Obj.mk (Value.type "code") Option.none (Data.fields (List.toArray [(Value.str (Str.ofString "take") 355), (Value.str (Str.ofString "Scanner.take") 356), (Value.str (Str.ofString "/claim/cut.py") 357), (Value.int (56 : Int) 0), (Value.int (1 : Int) 0), (Value.int (0 : Int) 0), (Value.int (0 : Int) 0), (Value.int (3 : Int) 0), (Value.ref 142), (Value.bool Bool.true), (Value.int (181 : Int) 0), (Value.ref 143), Value.none, (Value.ref 144), (Value.ref 145), (Value.ref 146), (Value.int (362 : Int) 0), (Value.int (56 : Int) 0), (Value.str (Str.ofString "/claim/cut.py") 363)])) (List.toArray []))) ::
  (nat_lit 148, (Obj.mk (Value.type "function") Option.none (Data.func (fdat (mtAt 12 2) (Str.ofString "Scanner.take") 3 [] Value.none Value.none Value.none (Value.str (Str.ofString "moduleyard.scanner") 248) Option.none (Value.ref 147) Value.none 0 rfl)) (List.toArray []))) ::
  (nat_lit 149, (Obj.mk (Value.type "tuple") Option.none (Data.seq (List.toArray []) 0) (List.toArray []))) ::
  (nat_lit 151, (Obj.mk (Value.type "tuple") Option.none (Data.seq (List.toArray [(Value.str (Str.ofString "self") 368), (Value.str (Str.ofString "char") 369)]) 0) (List.toArray []))) ::
  (nat_lit 152, (Obj.mk (Value.type "tuple") Option.none (Data.seq (List.toArray []) 0) (List.toArray []))) ::
  (nat_lit 154, (Obj.mk (Value.type "code") Option.none (Data.fields (List.toArray [(Value.str (Str.ofString "skip") 365), (Value.str (Str.ofString "Scanner.skip") 366), (Value.str (Str.ofString "/claim/cut.py") 367), (Value.int (76 : Int) 0), (Value.int (1 : Int) 0), (Value.int (0 : Int) 0), (Value.int (0 : Int) 0), (Value.int (3 : Int) 0), (Value.ref 149), (Value.bool Bool.true), (Value.int (181 : Int) 0), (Value.ref 150), Value.none, (Value.ref 151), (Value.ref 152), (Value.ref 153), (Value.int (370 : Int) 0), (Value.int (76 : Int) 0), (Value.str (Str.ofString "/claim/cut.py") 371)])) (List.toArray []))) ::
  (nat_lit 155, (Obj.mk (Value.type "function") Option.none (Data.func (fdat (mtAt 12 3) (Str.ofString "Scanner.skip") 3 [] Value.none Value.none Value.none (Value.str (Str.ofString "moduleyard.scanner") 248) Option.none (Value.ref 154) Value.none 0 rfl)) (List.toArray []))) ::
  (nat_lit 156, (Obj.mk (Value.type "tuple") Option.none (Data.seq (List.toArray []) 0) (List.toArray []))) ::
  (nat_lit 158, (Obj.mk (Value.type "tuple") Option.none (Data.seq (List.toArray [(Value.str (Str.ofString "self") 376), (Value.str (Str.ofString "begun") 377), (Value.str (Str.ofString "depth") 378), (Value.str (Str.ofString "pair") 379)]) 0) (List.toArray []))) ::
  (nat_lit 159, (Obj.mk (Value.type "tuple") Option.none (Data.seq (List.toArray []) 0) (List.toArray []))) ::
  (nat_lit 161, (Obj.mk (Value.type "code") Option.none (Data.fields (List.toArray [(Value.str (Str.ofString "remark") 373), (Value.str (Str.ofString "Scanner.remark") 374), (Value.str (Str.ofString "/claim/cut.py") 375), (Value.int (86 : Int) 0), (Value.int (1 : Int) 0), (Value.int (0 : Int) 0), (Value.int (0 : Int) 0), (Value.int (3 : Int) 0), (Value.ref 156), (Value.bool Bool.true), (Value.int (181 : Int) 0), (Value.ref 157), Value.none, (Value.ref 158), (Value.ref 159), (Value.ref 160), (Value.int (380 : Int) 0), (Value.int (86 : Int) 0), (Value.str (Str.ofString "/claim/cut.py") 381)])) (List.toArray []))) ::
  (nat_lit 162, (Obj.mk (Value.type "function") Option.none (Data.func (fdat (mtAt 12 4) (Str.ofString "Scanner.remark") 3 [] Value.none Value.none Value.none (Value.str (Str.ofString "moduleyard.scanner") 248) Option.none (Value.ref 161) Value.none 0 rfl)) (List.toArray []))) ::
  (nat_lit 163, (Obj.mk (Value.type "tuple") Option.none (Data.seq (List.toArray []) 0) (List.toArray []))) ::
  (nat_lit 165, (Obj.mk (Value.type "tuple") Option.none (Data.seq (List.toArray [(Value.str (Str.ofString "self") 386), (Value.str (Str.ofString "begun") 387), (Value.str (Str.ofString "end") 388), (Value.str (Str.ofString "name") 389)]) 0) (List.toArray []))) ::
  (nat_lit 166, (Obj.mk (Value.type "tuple") Option.none (Data.seq (List.toArray []) 0) (List.toArray []))) ::
  (nat_lit 168, (Obj.mk (Value.type "code") Option.none (Data.fields (List.toArray [(Value.str (Str.ofString "word") 383), (Value.str (Str.ofString "Scanner.word") 384), (Value.str (Str.ofString "/claim/cut.py") 385), (Value.int (104 : Int) 0), (Value.int (2 : Int) 0), (Value.int (0 : Int) 0), (Value.int (0 : Int) 0), (Value.int (3 : Int) 0), (Value.ref 163), (Value.bool Bool.true), (Value.int (181 : Int) 0), (Value.ref 164), Value.none, (Value.ref 165), (Value.ref 166), (Value.ref 167), (Value.int (390 : Int) 0), (Value.int (104 : Int) 0), (Value.str (Str.ofString "/claim/cut.py") 391)])) (List.toArray []))) ::
  (nat_lit 169, (Obj.mk (Value.type "function") Option.none (Data.func (fdat (mtAt 12 5) (Str.ofString "Scanner.word") 3 [] Value.none Value.none Value.none (Value.str (Str.ofString "moduleyard.scanner") 248) Option.none (Value.ref 168) Value.none 0 rfl)) (List.toArray []))) ::
  (nat_lit 170, (Obj.mk (Value.type "tuple") Option.none (Data.seq (List.toArray []) 0) (List.toArray []))) ::
  (nat_lit 172, (Obj.mk (Value.type "tuple") Option.none (Data.seq (List.toArray [(Value.str (Str.ofString "self") 396), (Value.str (Str.ofString "begun") 397), (Value.str (Str.ofString "end") 398), (Value.str (Str.ofString "digits") 399), (Value.str (Str.ofString "ending") 400), (Value.str (Str.ofString "value") 401)]) 0) (List.toArray []))) ::
  (nat_lit 173, (Obj.mk (Value.type "tuple") Option.none (Data.seq (List.toArray []) 0) (List.toArray []))) ::
  (nat_lit 175, (Obj.mk (Value.type "code") Option.none (Data.fields (List.toArray [(Value.str (Str.ofString "numeral") 393), (Value.str (Str.ofString "Scanner.numeral") 394), (Value.str (Str.ofString "/claim/cut.py") 395), (Value.int (114 : Int) 0), (Value.int (2 : Int) 0), (Value.int (0 : Int) 0), (Value.int (0 : Int) 0), (Value.int (3 : Int) 0), (Value.ref 170), (Value.bool Bool.true), (Value.int (181 : Int) 0), (Value.ref 171), Value.none, (Value.ref 172), (Value.ref 173), (Value.ref 174), (Value.int (402 : Int) 0), (Value.int (114 : Int) 0), (Value.str (Str.ofString "/claim/cut.py") 403)])) (List.toArray []))) ::
  (nat_lit 176, (Obj.mk (Value.type "function") Option.none (Data.func (fdat (mtAt 12 6) (Str.ofString "Scanner.numeral") 3 [] Value.none Value.none Value.none (Value.str (Str.ofString "moduleyard.scanner") 248) Option.none (Value.ref 175) Value.none 0 rfl)) (List.toArray []))) ::
  (nat_lit 177, (Obj.mk (Value.type "tuple") Option.none (Data.seq (List.toArray []) 0) (List.toArray []))) ::
  (nat_lit 179, (Obj.mk (Value.type "tuple") Option.none (Data.seq (List.toArray [(Value.str (Str.ofString "self") 408), (Value.str (Str.ofString "begun") 409), (Value.str (Str.ofString "value") 410), (Value.str (Str.ofString "most") 411)]) 0) (List.toArray []))) ::
  (nat_lit 180, (Obj.mk (Value.type "tuple") Option.none (Data.seq (List.toArray []) 0) (List.toArray []))) ::
  (nat_lit 182, (Obj.mk (Value.type "code") Option.none (Data.fields (List.toArray [(Value.str (Str.ofString "whole") 405), (Value.str (Str.ofString "Scanner.whole") 406), (Value.str (Str.ofString "/claim/cut.py") 407), (Value.int (134 : Int) 0), (Value.int (4 : Int) 0), (Value.int (0 : Int) 0), (Value.int (0 : Int) 0), (Value.int (3 : Int) 0), (Value.ref 177), (Value.bool Bool.true), (Value.int (181 : Int) 0), (Value.ref 178), Value.none, (Value.ref 179), (Value.ref 180), (Value.ref 181), (Value.int (412 : Int) 0), (Value.int (134 : Int) 0), (Value.str (Str.ofString "/claim/cut.py") 413)])) (List.toArray []))) ::
  (nat_lit 183, (Obj.mk (Value.type "function") Option.none (Data.func (fdat (mtAt 12 7) (Str.ofString "Scanner.whole") 3 [] Value.none Value.none Value.none (Value.str (Str.ofString "moduleyard.scanner") 248) Option.none (Value.ref 182) Value.none 0 rfl)) (List.toArray []))) ::
  (nat_lit 184, (Obj.mk (Value.type "tuple") Option.none (Data.seq (List.toArray []) 0) (List.toArray []))) ::
  (nat_lit 186, (Obj.mk (Value.type "tuple") Option.none (Data.seq (List.toArray [(Value.str (Str.ofString "self") 418), (Value.str (Str.ofString "begun") 419), (Value.str (Str.ofString "digits") 420), (Value.str (Str.ofString "token") 421)]) 0) (List.toArray []))) ::
  (nat_lit 187, (Obj.mk (Value.type "tuple") Option.none (Data.seq (List.toArray []) 0) (List.toArray []))) ::
  (nat_lit 189, (Obj.mk (Value.type "code") Option.none (Data.fields (List.toArray [(Value.str (Str.ofString "hexadecimal") 415), (Value.str (Str.ofString "Scanner.hexadecimal") 416), (Value.str (Str.ofString "/claim/cut.py") 417), (Value.int (140 : Int) 0), (Value.int (3 : Int) 0), (Value.int (0 : Int) 0), (Value.int (0 : Int) 0), (Value.int (3 : Int) 0), (Value.ref 184), (Value.bool Bool.true), (Value.int (181 : Int) 0), (Value.ref 185), Value.none, (Value.ref 186), (Value.ref 187), (Value.ref 188), (Value.int (422 : Int) 0), (Value.int (140 : Int) 0), (Value.str (Str.ofString "/claim/cut.py") 423)])) (List.toArray []))) ::
  (nat_lit 190, (Obj.mk (Value.type "function") Option.none (Data.func (fdat (mtAt 12 8) (Str.ofString "Scanner.hexadecimal") 3 [] Value.none Value.none Value.none (Value.str (Str.ofString "moduleyard.scanner") 248) Option.none (Value.ref 189) Value.none 0 rfl)) (List.toArray []))) ::
  (nat_lit 191, (Obj.mk (Value.type "tuple") Option.none (Data.seq (List.toArray []) 0) (List.toArray []))) ::
  (nat_lit 193, (Obj.mk (Value.type "tuple") Option.none (Data.seq (List.toArray [(Value.str (Str.ofString "self") 428), (Value.str (Str.ofString "begun") 429), (Value.str (Str.ofString "digits") 430), (Value.str (Str.ofString "value") 431)]) 0) (List.toArray []))) ::
  (nat_lit 194, (Obj.mk (Value.type "tuple") Option.none (Data.seq (List.toArray []) 0) (List.toArray []))) ::
  (nat_lit 196, (Obj.mk (Value.type "code") Option.none (Data.fields (List.toArray [(Value.str (Str.ofString "character") 425), (Value.str (Str.ofString "Scanner.character") 426), (Value.str (Str.ofString "/claim/cut.py") 427), (Value.int (146 : Int) 0), (Value.int (3 : Int) 0), (Value.int (0 : Int) 0), (Value.int (0 : Int) 0), (Value.int (3 : Int) 0), (Value.ref 191), (Value.bool Bool.true), (Value.int (181 : Int) 0), (Value.ref 192), Value.none, (Value.ref 193), (Value.ref 194), (Value.ref 195), (Value.int (432 : Int) 0), (Value.int (146 : Int) 0), (Value.str (Str.ofString "/claim/cut.py") 433)])) (List.toArray []))) ::
  (nat_lit 197, (Obj.mk (Value.type "function") Option.none (Data.func (fdat (mtAt 12 9) (Str.ofString "Scanner.character") 3 [] Value.none Value.none Value.none (Value.str (Str.ofString "moduleyard.scanner") 248) Option.none (Value.ref 196) Value.none 0 rfl)) (List.toArray []))) ::
  (nat_lit 198, (Obj.mk (Value.type "tuple") Option.none (Data.seq (List.toArray []) 0) (List.toArray []))) ::
  (nat_lit 200, (Obj.mk (Value.type "tuple") Option.none (Data.seq (List.toArray [(Value.str (Str.ofString "self") 438), (Value.str (Str.ofString "begun") 439), (Value.str (Str.ofString "sign") 440)]) 0) (List.toArray []))) ::
  (nat_lit 201, (Obj.mk (Value.type "tuple") Option.none (Data.seq (List.toArray []) 0) (List.toArray []))) ::
  (nat_lit 203, (Obj.mk (Value.type "code") Option.none (Data.fields (List.toArray [(Value.str (Str.ofString "real") 435), (Value.str (Str.ofString "Scanner.real") 436), (Value.str (Str.ofString "/claim/cut.py") 437), (Value.int (153 : Int) 0), (Value.int (2 : Int) 0), (Value.int (0 : Int) 0), (Value.int (0 : Int) 0), (Value.int (3 : Int) 0), (Value.ref 198), (Value.bool Bool.true), (Value.int (181 : Int) 0), (Value.ref 199), Value.none, (Value.ref 200), (Value.ref 201), (Value.ref 202), (Value.int (441 : Int) 0), (Value.int (153 : Int) 0), (Value.str (Str.ofString "/claim/cut.py") 442)])) (List.toArray []))) ::
  (nat_lit 204, (Obj.mk (Value.type "function") Option.none (Data.func (fdat (mtAt 12 10) (Str.ofString "Scanner.real") 3 [] Value.none Value.none Value.none (Value.str (Str.ofString "moduleyard.scanner") 248) Option.none (Value.ref 203) Value.none 0 rfl)) (List.toArray []))) ::
  (nat_lit 205, (Obj.mk (Value.type "tuple") Option.none (Data.seq (List.toArray []) 0) (List.toArray []))) ::
  (nat_lit 207, (Obj.mk (Value.type "tuple") Option.none (Data.seq (List.toArray [(Value.str (Str.ofString "self") 447)]) 0) (List.toArray []))) ::
  (nat_lit 208, (Obj.mk (Value.type "tuple") Option.none (Data.seq (List.toArray []) 0) (List.toArray []))) ::
  (nat_lit 210, (Obj.mk (Value.type "code") Option.none (Data.fields (List.toArray [(Value.str (Str.ofString "skip_digits") 444), (Value.str (Str.ofString "Scanner.skip_digits") 445), (Value.str (Str.ofString "/claim/cut.py") 446), (Value.int (166 : Int) 0), (Value.int (1 : Int) 0), (Value.int (0 : Int) 0), (Value.int (0 : Int) 0), (Value.int (3 : Int) 0), (Value.ref 205), (Value.bool Bool.true), (Value.int (181 : Int) 0), (Value.ref 206), Value.none, (Value.ref 207), (Value.ref 208), (Value.ref 209), (Value.int (448 : Int) 0), (Value.int (166 : Int) 0), (Value.str (Str.ofString "/claim/cut.py") 449)])) (List.toArray []))) ::
  (nat_lit 211, (Obj.mk (Value.type "function") Option.none (Data.func (fdat (mtAt 12 11) (Str.ofString "Scanner.skip_digits") 3 [] Value.none Value.none Value.none (Value.str (Str.ofString "moduleyard.scanner") 248) Option.none (Value.ref 210) Value.none 0 rfl)) (List.toArray []))) ::
  (nat_lit 212, (Obj.mk (Value.type "tuple") Option.none (Data.seq (List.toArray []) 0) (List.toArray []))) ::
  (nat_lit 214, (Obj.mk (Value.type "tuple") Option.none (Data.seq (List.toArray [(Value.str (Str.ofString "self") 454), (Value.str (Str.ofString "begun") 455), (Value.str (Str.ofString "chars") 456), (Value.str (Str.ofString "char") 457)]) 0) (List.toArray []))) ::
  (nat_lit 215, (Obj.mk (Value.type "tuple") Option.none (Data.seq (List.toArray []) 0) (List.toArray []))) ::
  (nat_lit 217, (Obj.mk (Value.type "code") Option.none (Data.fields (List.toArray [(Value.str (Str.ofString "string") 451), (Value.str (Str.ofString "Scanner.string") 452), (Value.str (Str.ofString "/claim/cut.py") 453), (Value.int (170 : Int) 0), (Value.int (2 : Int) 0), (Value.int (0 : Int) 0), (Value.int (0 : Int) 0), (Value.int (3 : Int) 0), (Value.ref 212), (Value.bool Bool.true), (Value.int (181 : Int) 0), (Value.ref 213), Value.none, (Value.ref 214), (Value.ref 215), (Value.ref 216), (Value.int (458 : Int) 0), (Value.int (170 : Int) 0), (Value.str (Str.ofString "/claim/cut.py") 459)])) (List.toArray []))) ::
  (nat_lit 218, (Obj.mk (Value.type "function") Option.none (Data.func (fdat (mtAt 12 12) (Str.ofString "Scanner.string") 3 [] Value.none Value.none Value.none (Value.str (Str.ofString "moduleyard.scanner") 248) Option.none (Value.ref 217) Value.none 0 rfl)) (List.toArray []))) ::
  (nat_lit 219, (Obj.mk (Value.type "tuple") Option.none (Data.seq (List.toArray []) 0) (List.toArray []))) ::
  (nat_lit 221, (Obj.mk (Value.type "tuple") Option.none (Data.seq (List.toArray [(Value.str (Str.ofString "self") 464), (Value.str (Str.ofString "pair") 465)]) 0) (List.toArray []))) ::
  (nat_lit 222, (Obj.mk (Value.type "tuple") Option.none (Data.seq (List.toArray []) 0) (List.toArray []))) ::
  (nat_lit 224, (Obj.mk (Value.type "code") Option.none (Data.fields (List.toArray [(Value.str (Str.ofString "symbol") 461), (Value.str (Str.ofString "Scanner.symbol") 462), (Value.str (Str.ofString "/claim/cut.py") 463), (Value.int (186 : Int) 0), (Value.int (1 : Int) 0), (Value.int (0 : Int) 0), (Value.int (0 : Int) 0), (Value.int (3 : Int) 0), (Value.ref 219), (Value.bool Bool.true), (Value.int (181 : Int) 0), (Value.ref 220), Value.none, (Value.ref 221), (Value.ref 222), (Value.ref 223), (Value.int (466 : Int) 0), (Value.int (186 : Int) 0), (Value.str (Str.ofString "/claim/cut.py") 467)])) (List.toArray []))) ::
  (nat_lit 225, (Obj.mk (Value.type "function") Option.none (Data.func (fdat (mtAt 12 13) (Str.ofString "Scanner.symbol") 3 [] Value.none Value.none Value.none (Value.str (Str.ofString "moduleyard.scanner") 248) Option.none (Value.ref 224) Value.none 0 rfl)) (List.toArray []))) ::
  (nat_lit 226, (Obj.mk (Value.type "tuple") Option.none (Data.seq (List.toArray [(Value.str (Str.ofString "errors") 469), (Value.str (Str.ofString "place") 470), (Value.str (Str.ofString "source") 471), (Value.str (Str.ofString "words") 472)]) 0) (List.toArray []))) ::
  (nat_lit 227, (Obj.mk (Value.type "dict") Option.none (Data.dict (List.toArray [(DictEntry.mk (PyData.keyHash P (Str.ofString "__module__")) (Value.str (Str.ofString "__module__") 332) (Value.str (Str.ofString "moduleyard.scanner") 248)), (DictEntry.mk (PyData.keyHash P (Str.ofString "__firstlineno__")) (Value.str (Str.ofString "__firstlineno__") 336) (Value.int (45 : Int) 335)), (DictEntry.mk (PyData.keyHash P (Str.ofString "__init__")) (Value.str (Str.ofString "__init__") 345) (Value.ref 133)), (DictEntry.mk (PyData.keyHash P (Str.ofString "char")) (Value.str (Str.ofString "char") 354) (Value.ref 141)), (DictEntry.mk (PyData.keyHash P (Str.ofString "take")) (Value.str (Str.ofString "take") 364) (Value.ref 148)), (DictEntry.mk (PyData.keyHash P (Str.ofString "skip")) (Value.str (Str.ofString "skip") 372) (Value.ref 155)), (DictEntry.mk (PyData.keyHash P (Str.ofString "remark")) (Value.str (Str.ofString "remark") 382) (Value.ref 162)), (DictEntry.mk (PyData.keyHash P (Str.ofString "word")) (Value.str (Str.ofString "word") 392) (Value.ref 169)), (DictEntry.mk (PyData.keyHash P (Str.ofString "numeral")) (Value.str (Str.ofString "numeral") 404) (Value.ref 176)), (DictEntry.mk (PyData.keyHash P (Str.ofString "whole")) (Value.str (Str.ofString "whole") 414) (Value.ref 183)), (DictEntry.mk (PyData.keyHash P (Str.ofString "hexadecimal")) (Value.str (Str.ofString "hexadecimal") 424) (Value.ref 190)), (DictEntry.mk (PyData.keyHash P (Str.ofString "character")) (Value.str (Str.ofString "character") 434) (Value.ref 197)), (DictEntry.mk (PyData.keyHash P (Str.ofString "real")) (Value.str (Str.ofString "real") 443) (Value.ref 204)), (DictEntry.mk (PyData.keyHash P (Str.ofString "skip_digits")) (Value.str (Str.ofString "skip_digits") 450) (Value.ref 211)), (DictEntry.mk (PyData.keyHash P (Str.ofString "string")) (Value.str (Str.ofString "string") 460) (Value.ref 218)), (DictEntry.mk (PyData.keyHash P (Str.ofString "symbol")) (Value.str (Str.ofString "symbol") 468) (Value.ref 225)), (DictEntry.mk (PyData.keyHash P (Str.ofString "__static_attributes__")) (Value.str (Str.ofString "__static_attributes__") 473) (Value.ref 226)), (DictEntry.mk (PyData.keyHash P (Str.ofString "__dict__")) (Value.str (Str.ofString "__dict__") 475) (Value.ref 229)), (DictEntry.mk (PyData.keyHash P (Str.ofString "__weakref__")) (Value.str (Str.ofString "__weakref__") 477) (Value.ref 230)), (DictEntry.mk (PyData.keyHash P (Str.ofString "__doc__")) (Value.str (Str.ofString "__doc__") 478) Value.none)]) 4) (List.toArray []))) ::
  (nat_lit 228, (Obj.mk (Value.type "type") Option.none (Data.cls (ClassData.mk (Str.ofString "Scanner") [(Value.type "object")] [(Value.ref 228), (Value.type "object")] 227 (Str.ofString "Scanner") Bool.true [] [] Bool.false Option.none Bool.false)) (List.toArray [Option.none, Option.none, (Option.some (Value.str (Str.ofString "Scanner") 325)), (Option.some (Value.str (Str.ofString "Scanner") 333)), (Option.some (Value.builtin "object.__new__")), (Option.some (Value.bool Bool.true))]))) ::
  (nat_lit 229, (Obj.mk (Value.type "getset_descriptor") Option.none (Data.fields (List.toArray [(Value.str (Str.ofString "__dict__") 474), (Value.ref 228), (Value.builtin "function.__dict__"), (Value.builtin "function.__dict__#set")])) (List.toArray []))) ::
  (nat_lit 230, (Obj.mk (Value.type "getset_descriptor") Option.none (Data.fields (List.toArray [(Value.str (Str.ofString "__weakref__") 476), (Value.ref 228), (Value.builtin "ExceptionGroup.__weakref__"), Value.none])) (List.toArray []))) ::
  (nat_lit 240, (Obj.mk (Value.type "tuple") Option.none (Data.seq (List.toArray []) 0) (List.toArray []))) ::
  (nat_lit 242, (Obj.mk (Value.type "tuple") Option.none (Data.seq (List.toArray [(Value.str (Str.ofString "self") 498), (Value.str (Str.ofString "name") 499), (Value.str (Str.ofString "imports") 500)]) 0) (List.toArray []))) ::
  (nat_lit 243, (Obj.mk (Value.type "tuple") Option.none (Data.seq (List.toArray []) 0) (List.toArray []))) ::
  (nat_lit 245, (Obj.mk (Value.type "code") Option.none (Data.fields (List.toArray [(Value.str (Str.ofString "__init__") 495), (Value.str (Str.ofString "Head.__init__") 496), (Value.str (Str.ofString "/claim/cut.py") 497), (Value.int (196 : Int) 0), (Value.int (3 : Int) 0), (Value.int (0 : Int) 0), (Value.int (0 : Int) 0), (Value.int (3 : Int) 0), (Value.ref 240), (Value.bool Bool.true), (Value.int (181 : Int) 0), (Value.ref 241), Value.none, (Value.ref 242), (Value.ref 243), (Value.ref 244), (Value.int (501 : Int) 0), (Value.int (196 : Int) 0), (Value.str (Str.ofString "/claim/cut.py") 502)])) (List.toArray []))) ::
  (nat_lit 246, (Obj.mk (Value.type "function") Option.none (Data.func (fdat (mtAt 14 0) (Str.ofString "Head.__init__") 3 [] Value.none Value.none Value.none (Value.str (Str.ofString "moduleyard.modset") 481) Option.none (Value.ref 245) Value.none 0 rfl)) (List.toArray []))) ::
  (nat_lit 247, (Obj.mk (Value.type "tuple") Option.none (Data.seq (List.toArray [(Value.str (Str.ofString "imports") 504), (Value.str (Str.ofString "name") 505)]) 0) (List.toArray []))) ::
  (nat_lit 248, (Obj.mk (Value.type "dict") Option.none (Data.dict (List.toArray [(DictEntry.mk (PyData.keyHash P (Str.ofString "__module__")) (Value.str (Str.ofString "__module__") 490) (Value.str (Str.ofString "moduleyard.modset") 481)), (DictEntry.mk (PyData.keyHash P (Str.ofString "__firstlineno__")) (Value.str (Str.ofString "__firstlineno__") 494) (Value.int (194 : Int) 493)), (DictEntry.mk (PyData.keyHash P (Str.ofString "__init__")) (Value.str (Str.ofString "__init__") 503) (Value.ref 246)), (DictEntry.mk (PyData.keyHash P (Str.ofString "__static_attributes__")) (Value.str (Str.ofString "__static_attributes__") 506) (Value.ref 247)), (DictEntry.mk (PyData.keyHash P (Str.ofString "__dict__")) (Value.str (Str.ofString "__dict__") 508) (Value.ref 250)), (DictEntry.mk (PyData.keyHash P (Str.ofString "__weakref__")) (Value.str (Str.ofString "__weakref__") 510) (Value.ref 251)), (DictEntry.mk (PyData.keyHash P (Str.ofString "__doc__")) (Value.str (Str.ofString "__doc__") 511) Value.none)]) 4) (List.toArray []))) ::
  (nat_lit 249, (Obj.mk (Value.type "type") Option.none (Data.cls (ClassData.mk (Str.ofString "Head") [(Value.type "object")] [(Value.ref 249), (Value.type "object")] 248 (Str.ofString "Head") Bool.true [] [] Bool.false Option.none Bool.false)) (List.toArray [Option.none, Option.none, (Option.some (Value.str (Str.ofString "Head") 483)), (Option.some (Value.str (Str.ofString "Head") 491)), (Option.some (Value.builtin "object.__new__")), (Option.some (Value.bool Bool.true))]))) ::
  (nat_lit 250, (Obj.mk (Value.type "getset_descriptor") Option.none (Data.fields (List.toArray [(Value.str (Str.ofString "__dict__") 507), (Value.ref 249), (Value.builtin "function.__dict__"), (Value.builtin "function.__dict__#set")])) (List.toArray []))) ::
  (nat_lit 251, (Obj.mk (Value.type "getset_descriptor") Option.none (Data.fields (List.toArray [(Value.str (Str.ofString "__weakref__") 509), (Value.ref 249), (Value.builtin "ExceptionGroup.__weakref__"), Value.none])) (List.toArray []))) ::
  (nat_lit 254, (Obj.mk (Value.type "tuple") Option.none (Data.seq (List.toArray []) 0) (List.toArray []))) ::
  (nat_lit 256, (Obj.mk (Value.type "tuple") Option.none (Data.seq (List.toArray [(Value.str (Str.ofString "scanner") 517), (Value.str (Str.ofString "token") 518), (Value.str (Str.ofString "name") 519)]) 0) (List.toArray []))) ::
  (nat_lit 257, (Obj.mk (Value.type "tuple") Option.none (Data.seq (List.toArray []) 0) (List.toArray []))) ::
  (nat_lit 259, (Obj.mk (Value.type "code") Option.none (Data.fields (List.toArray [(Value.str (Str.ofString "imported_name") 514), (Value.str (Str.ofString "imported_name") 515), (Value.str (Str.ofString "/claim/cut.py") 516), (Value.int (199 : Int) 0), (Value.int (2 : Int) 0), (Value.int (0 : Int) 0), (Value.int (0 : Int) 0), (Value.int (3 : Int) 0), (Value.ref 254), (Value.bool Bool.true), (Value.int (181 : Int) 0), (Value.ref 255), Value.none, (Value.ref 256), (Value.ref 257), (Value.ref 258), (Value.int (520 : Int) 0), (Value.int (199 : Int) 0), (Value.str (Str.ofString "/claim/cut.py") 521)])) (List.toArray []))) ::
  (nat_lit 260, (Obj.mk (Value.type "function") Option.none (Data.func (fdat (stAt 15) (Str.ofString "imported_name") 3 [] Value.none Value.none Value.none (Value.str (Str.ofString "moduleyard.modset") 481) Option.none (Value.ref 259) Value.none 0 rfl)) (List.toArray []))) ::
  (nat_lit 261, (Obj.mk (Value.type "tuple") Option.none (Data.seq (List.toArray []) 0) (List.toArray []))) ::
  (nat_lit 263, (Obj.mk (Value.type "tuple") Option.none (Data.seq (List.toArray [(Value.str (Str.ofString "scanner") 526), (Value.str (Str.ofString "names") 527), (Value.str (Str.ofString "more") 528), (Value.str (Str.ofString "name") 529), (Value.str (Str.ofString "token") 530)]) 0) (List.toArray []))) ::
  (nat_lit 264, (Obj.mk (Value.type "tuple") Option.none (Data.seq (List.toArray []) 0) (List.toArray []))) ::
  (nat_lit 266, (Obj.mk (Value.type "code") Option.none (Data.fields (List.toArray [(Value.str (Str.ofString "import_names") 523), (Value.str (Str.ofString "import_names") 524), (Value.str (Str.ofString "/claim/cut.py") 525), (Value.int (211 : Int) 0), (Value.int (1 : Int) 0), (Value.int (0 : Int) 0), (Value.int (0 : Int) 0), (Value.int (3 : Int) 0), (Value.ref 261), (Value.bool Bool.true), (Value.int (181 : Int) 0), (Value.ref 262), Value.none, (Value.ref 263), (Value.ref 264), (Value.ref 265), (Value.int (531 : Int) 0), (Value.int (211 : Int) 0), (Value.str (Str.ofString "/claim/cut.py") 532)])) (List.toArray []))) ::
  (nat_lit 267, (Obj.mk (Value.type "function") Option.none (Data.func (fdat (stAt 16) (Str.ofString "import_names") 3 [] Value.none Value.none Value.none (Value.str (Str.ofString "moduleyard.modset") 481) Option.none (Value.ref 266) Value.none 0 rfl)) (List.toArray []))) ::
  (nat_lit 268, (Obj.mk (Value.type "tuple") Option.none (Data.seq (List.toArray []) 0) (List.toArray []))) ::
  (nat_lit 270, (Obj.mk (Value.type "tuple") Option.none (Data.seq (List.toArray [(Value.str (Str.ofString "source") 537), (Value.str (Str.ofString "scanner") 538), (Value.str (Str.ofString "token") 539), (Value.str (Str.ofString "name") 540)]) 0) (List.toArray []))) ::
  (nat_lit 271, (Obj.mk (Value.type "tuple") Option.none (Data.seq (List.toArray []) 0) (List.toArray []))) ::
  (nat_lit 273, (Obj.mk (Value.type "code") Option.none (Data.fields (List.toArray [(Value.str (Str.ofString "head_of") 534), (Value.str (Str.ofString "head_of") 535), (Value.str (Str.ofString "/claim/cut.py") 536), (Value.int (220 : Int) 0), (Value.int (1 : Int) 0), (Value.int (0 : Int) 0), (Value.int (0 : Int) 0), (Value.int (3 : Int) 0), (Value.ref 268), (Value.bool Bool.true), (Value.int (181 : Int) 0), (Value.ref 269), Value.none, (Value.ref 270), (Value.ref 271), (Value.ref 272), (Value.int (541 : Int) 0), (Value.int (220 : Int) 0), (Value.str (Str.ofString "/claim/cut.py") 542)])) (List.toArray []))) ::
  (nat_lit 274, (Obj.mk (Value.type "function") Option.none (Data.func (fdat (stAt 17) (Str.ofString "head_of") 3 [] Value.none Value.none Value.none (Value.str (Str.ofString "moduleyard.modset") 481) Option.none (Value.ref 273) Value.none 0 rfl)) (List.toArray []))) ::
  (nat_lit 275, (Obj.mk (Value.type "tuple") Option.none (Data.seq (List.toArray []) 0) (List.toArray []))) ::
  (nat_lit 277, (Obj.mk (Value.type "tuple") Option.none (Data.seq (List.toArray [(Value.str (Str.ofString "script") 549), (Value.str (Str.ofString "found") 550), (Value.str (Str.ofString "cell") 551), (Value.str (Str.ofString "figure") 552), (Value.str (Str.ofString "lap") 553)]) 0) (List.toArray []))) ::
  (nat_lit 278, (Obj.mk (Value.type "tuple") Option.none (Data.seq (List.toArray []) 0) (List.toArray []))) ::
  (nat_lit 280, (Obj.mk (Value.type "code") Option.none (Data.fields (List.toArray [(Value.str (Str.ofString "_law_figures") 546), (Value.str (Str.ofString "_law_figures") 547), (Value.str (Str.ofString "/claim/cut.py") 548), (Value.int (232 : Int) 0), (Value.int (1 : Int) 0), (Value.int (0 : Int) 0), (Value.int (0 : Int) 0), (Value.int (3 : Int) 0), (Value.ref 275), (Value.bool Bool.true), (Value.int (181 : Int) 0), (Value.ref 276), Value.none, (Value.ref 277), (Value.ref 278), (Value.ref 279), (Value.int (554 : Int) 0), (Value.int (232 : Int) 0), (Value.str (Str.ofString "/claim/cut.py") 555)])) (List.toArray []))) ::
  (nat_lit 281, (Obj.mk (Value.type "function") Option.none (Data.func (fdat (stAt 19) (Str.ofString "_law_figures") 3 [] Value.none Value.none Value.none (Value.str (Str.ofString "law_on0211_01") 544) Option.none (Value.ref 280) Value.none 0 rfl)) (List.toArray []))) ::
  (nat_lit 282, (Obj.mk (Value.type "tuple") Option.none (Data.seq (List.toArray []) 0) (List.toArray []))) ::
  (nat_lit 284, (Obj.mk (Value.type "tuple") Option.none (Data.seq (List.toArray [(Value.str (Str.ofString "figures") 560), (Value.str (Str.ofString "limit") 561)]) 0) (List.toArray []))) ::
  (nat_lit 285, (Obj.mk (Value.type "tuple") Option.none (Data.seq (List.toArray []) 0) (List.toArray []))) ::
  (nat_lit 287, (Obj.mk (Value.type "code") Option.none (Data.fields (List.toArray [(Value.str (Str.ofString "_law_draw") 557), (Value.str (Str.ofString "_law_draw") 558), (Value.str (Str.ofString "/claim/cut.py") 559), (Value.int (245 : Int) 0), (Value.int (2 : Int) 0), (Value.int (0 : Int) 0), (Value.int (0 : Int) 0), (Value.int (3 : Int) 0), (Value.ref 282), (Value.bool Bool.true), (Value.int (181 : Int) 0), (Value.ref 283), Value.none, (Value.ref 284), (Value.ref 285), (Value.ref 286), (Value.int (562 : Int) 0), (Value.int (245 : Int) 0), (Value.str (Str.ofString "/claim/cut.py") 563)])) (List.toArray []))) ::
  (nat_lit 288, (Obj.mk (Value.type "function") Option.none (Data.func (fdat (stAt 20) (Str.ofString "_law_draw") 3 [] Value.none Value.none Value.none (Value.str (Str.ofString "law_on0211_01") 544) Option.none (Value.ref 287) Value.none 0 rfl)) (List.toArray []))) ::
  (nat_lit 289, (Obj.mk (Value.type "tuple") Option.none (Data.seq (List.toArray []) 0) (List.toArray []))) ::
  (nat_lit 291, (Obj.mk (Value.type "tuple") Option.none (Data.seq (List.toArray [(Value.str (Str.ofString "figures") 568)]) 0) (List.toArray []))) ::
  (nat_lit 292, (Obj.mk (Value.type "tuple") Option.none (Data.seq (List.toArray []) 0) (List.toArray []))) ::
  (nat_lit 294, (Obj.mk (Value.type "code") Option.none (Data.fields (List.toArray [(Value.str (Str.ofString "_law_gap") 565), (Value.str (Str.ofString "_law_gap") 566), (Value.str (Str.ofString "/claim/cut.py") 567), (Value.int (247 : Int) 0), (Value.int (1 : Int) 0), (Value.int (0 : Int) 0), (Value.int (0 : Int) 0), (Value.int (3 : Int) 0), (Value.ref 289), (Value.bool Bool.true), (Value.int (181 : Int) 0), (Value.ref 290), Value.none, (Value.ref 291), (Value.ref 292), (Value.ref 293), (Value.int (569 : Int) 0), (Value.int (247 : Int) 0), (Value.str (Str.ofString "/claim/cut.py") 570)])) (List.toArray []))) ::
  (nat_lit 295, (Obj.mk (Value.type "function") Option.none (Data.func (fdat (stAt 21) (Str.ofString "_law_gap") 3 [] Value.none Value.none Value.none (Value.str (Str.ofString "law_on0211_01") 544) Option.none (Value.ref 294) Value.none 0 rfl)) (List.toArray []))) ::
  (nat_lit 296, (Obj.mk (Value.type "tuple") Option.none (Data.seq (List.toArray []) 0) (List.toArray []))) ::
  (nat_lit 298, (Obj.mk (Value.type "tuple") Option.none (Data.seq (List.toArray [(Value.str (Str.ofString "word") 575)]) 0) (List.toArray []))) ::
  (nat_lit 299, (Obj.mk (Value.type "tuple") Option.none (Data.seq (List.toArray []) 0) (List.toArray []))) ::
  (nat_lit 301, (Obj.mk (Value.type "code") Option.none (Data.fields (List.toArray [(Value.str (Str.ofString "_law_is_name") 572), (Value.str (Str.ofString "_law_is_name") 573), (Value.str (Str.ofString "/claim/cut.py") 574), (Value.int (249 : Int) 0), (Value.int (1 : Int) 0), (Value.int (0 : Int) 0), (Value.int (0 : Int) 0), (Value.int (3 : Int) 0), (Value.ref 296), (Value.bool Bool.true), (Value.int (181 : Int) 0), (Value.ref 297), Value.none, (Value.ref 298), (Value.ref 299), (Value.ref 300), (Value.int (576 : Int) 0), (Value.int (249 : Int) 0), (Value.str (Str.ofString "/claim/cut.py") 577)])) (List.toArray []))) ::
  (nat_lit 302, (Obj.mk (Value.type "function") Option.none (Data.func (fdat (stAt 22) (Str.ofString "_law_is_name") 3 [] Value.none Value.none Value.none (Value.str (Str.ofString "law_on0211_01") 544) Option.none (Value.ref 301) Value.none 0 rfl)) (List.toArray []))) ::
  (nat_lit 303, (Obj.mk (Value.type "tuple") Option.none (Data.seq (List.toArray []) 0) (List.toArray []))) ::
  (nat_lit 306, (Obj.mk (Value.type "code") Option.none (Data.fields (List.toArray [(Value.str (Str.ofString "_law_due") 579), (Value.str (Str.ofString "_law_due") 580), (Value.str (Str.ofString "/claim/cut.py") 581), (Value.int (251 : Int) 0), (Value.int (1 : Int) 0), (Value.int (0 : Int) 0), (Value.int (0 : Int) 0), (Value.int (3 : Int) 0), (Value.ref 303), (Value.bool Bool.true), (Value.int (181 : Int) 0), (Value.ref 304), Value.none, Value.none, Value.none, (Value.ref 305), (Value.int (582 : Int) 0), (Value.int (251 : Int) 0), (Value.str (Str.ofString "/claim/cut.py") 583)])) (List.toArray []))) ::
  (nat_lit 307, (Obj.mk (Value.type "function") Option.none (Data.func (fdat (stAt 23) (Str.ofString "_law_due") 3 [] Value.none Value.none Value.none (Value.str (Str.ofString "law_on0211_01") 544) Option.none (Value.ref 306) Value.none 0 rfl)) (List.toArray []))) ::
  (nat_lit 308, (Obj.mk (Value.type "tuple") Option.none (Data.seq (List.toArray []) 0) (List.toArray []))) ::
  (nat_lit 311, (Obj.mk (Value.type "code") Option.none (Data.fields (List.toArray [(Value.str (Str.ofString "law") 585), (Value.str (Str.ofString "law") 586), (Value.str (Str.ofString "/claim/cut.py") 587), (Value.int (266 : Int) 0), (Value.int (1 : Int) 0), (Value.int (0 : Int) 0), (Value.int (0 : Int) 0), (Value.int (3 : Int) 0), (Value.ref 308), (Value.bool Bool.true), (Value.int (181 : Int) 0), (Value.ref 309), Value.none, Value.none, Value.none, (Value.ref 310), (Value.int (588 : Int) 0), (Value.int (266 : Int) 0), (Value.str (Str.ofString "/claim/cut.py") 589)])) (List.toArray []))) ::
  (nat_lit 312, (Obj.mk (Value.type "function") Option.none (Data.func (fdat (stAt 24) (Str.ofString "law") 3 [] Value.none Value.none Value.none (Value.str (Str.ofString "law_on0211_01") 544) Option.none (Value.ref 311) Value.none 0 rfl)) (List.toArray []))) :: []
/-- the same with the defs' data written out -/
noncomputable def kTop : Params → Frag := fun P => by
  refine (?f : (l : Frag) → kSrc P = l → Frag) _ (by delta kSrc fdat; exact rfl)
  exact fun l _ => l
def kAs : List Addr := [2, 3, 15, 17, 18, 20, 21, 29, 31, 32, 34, 35, 36, 38, 39, 41, 42, 43, 45, 46, 48, 49, 50, 52, 53, 55, 56, 57, 58, 59, 60, 61, 71, 73, 74, 76, 77, 78, 79, 80, 81, 82, 85, 87, 88, 90, 91, 92, 94, 95, 97, 98, 99, 101, 102, 104, 105, 106, 108, 109, 111, 112, 113, 115, 116, 118, 119, 127, 129, 130, 132, 133, 134, 135, 137, 138, 140, 141, 142, 144, 145, 147, 148, 149, 151, 152, 154, 155, 156, 158, 159, 161, 162, 163, 165, 166, 168, 169, 170, 172, 173, 175, 176, 177, 179, 180, 182, 183, 184, 186, 187, 189, 190, 191, 193, 194, 196, 197, 198, 200, 201, 203, 204, 205, 207, 208, 210, 211, 212, 214, 215, 217, 218, 219, 221, 222, 224, 225, 226, 227, 228, 229, 230, 240, 242, 243, 245, 246, 247, 248, 249, 250, 251, 254, 256, 257, 259, 260, 261, 263, 264, 266, 267, 268, 270, 271, 273, 274, 275, 277, 278, 280, 281, 282, 284, 285, 287, 288, 289, 291, 292, 294, 295, 296, 298, 299, 301, 302, 303, 306, 307, 308, 311, 312]
theorem kAs_is : ∀ P, kAs = (kTop P).map (·.1) := fun _ => by kernel_rfl
/-- the program with the statements that the law comes to -/
abbrev vwOf {s0 s2 s4 s5 s6 s7 s8 s9 s10 s11 s12 s14 s15 s16 s17 s19 s20 s21 s22 s23 s24 : Stmt} (_h0 : stAt 0 = some s0) (_h2 : stAt 2 = some s2) (_h4 : stAt 4 = some s4) (_h5 : stAt 5 = some s5) (_h6 : stAt 6 = some s6) (_h7 : stAt 7 = some s7) (_h8 : stAt 8 = some s8) (_h9 : stAt 9 = some s9) (_h10 : stAt 10 = some s10) (_h11 : stAt 11 = some s11) (_h12 : stAt 12 = some s12) (_h14 : stAt 14 = some s14) (_h15 : stAt 15 = some s15) (_h16 : stAt 16 = some s16) (_h17 : stAt 17 = some s17) (_h19 : stAt 19 = some s19) (_h20 : stAt 20 = some s20) (_h21 : stAt 21 = some s21) (_h22 : stAt 22 = some s22) (_h23 : stAt 23 = some s23) (_h24 : stAt 24 = some s24) : Program :=
  { PySem.Challenge.pw_on0211_01 with main := { PySem.Challenge.pw_on0211_01.main with body := [s0, s2, s4, s5, s6, s7, s8, s9, s10, s11, s12, s14, s15, s16, s17, s19, s20, s21, s22, s23, s24] } }
noncomputable def vwSrc : Program := vwOf rfl rfl rfl rfl rfl rfl rfl rfl rfl rfl rfl rfl rfl rfl rfl rfl rfl rfl rfl rfl rfl
noncomputable def vw : Program := (fun (q : Program) (_ : vwSrc = q) => q) _ (by delta vwSrc vwOf; exact rfl)
/-! the states between the pieces of the top's run: printed by a program; the defs' bodies stand by their places in the given program -/
abbrev pw : Program := PySem.Challenge.pw_on0211_01
abbrev stOf (i : Nat) {s : Stmt} (_h : stAt i = some s) : Stmt := s
abbrev life0 : Life := (Life.mk [] [] [] 0 [] [] false (List.toArray []) [] 0 false false false (0 : Int) ((2000 : Int) :: (10 : Int) :: (10 : Int) :: []) false 0 true [] [] 0 false)
noncomputable def ho_43 : Params → Obj := (fun (P : Params) => (Obj.mk (Value.type "tuple") none (Data.seq (List.toArray []) 0) (List.toArray [])))
noncomputable def ho_44 : Params → Obj := (fun (P : Params) => (Obj.mk Value.none none (Data.fields (List.toArray [])) (List.toArray [])))
noncomputable def ho_45 : Params → Obj := (fun (P : Params) => (Obj.mk (Value.type "code") none (Data.fields (List.toArray ((Value.str (Str.ofString "<module>") 182) :: (Value.str (Str.ofString "<module>") 183) :: (Value.str (Str.ofString "/claim/cut.py") 184) :: (Value.int (1 : Int) 0) :: (Value.int (0 : Int) 0) :: (Value.int (0 : Int) 0) :: (Value.int (0 : Int) 0) :: (Value.int (0 : Int) 0) :: (Value.ref 11) :: (Value.bool false) :: (Value.int (181 : Int) 0) :: (Value.ref 12) :: Value.none :: Value.none :: Value.none :: Value.none :: (Value.int (185 : Int) 0) :: (Value.int (1 : Int) 0) :: (Value.str (Str.ofString "/claim/cut.py") 186) :: []))) (List.toArray [])))
noncomputable def ho_46 : Params → Obj := (fun (P : Params) => (Obj.mk (Value.type "frame") none Data.plain (List.toArray ((some (Value.ref 13)) :: (some (Value.ref 3)) :: (some (Value.ref 3)) :: none :: (some (Value.str (Str.ofString "__main__") 164)) :: none :: (some (Value.ref 0)) :: []))))
noncomputable def heap_46 : Params → Heap := (fun (P : Params) => (Heap.mk (Array.mk ((boot_o_0 P) :: (boot_o_1 P) :: (boot_o_2 P) :: (boot_o_3 P) :: (boot_o_4 P) :: (boot_o_5 P) :: (boot_o_6 P) :: (boot_o_7 P) :: (boot_o_8 P) :: (boot_o_9 P) :: (boot_o_10 P) :: (ho_43 P) :: (ho_44 P) :: (ho_45 P) :: (ho_46 P) :: [])) life0))
noncomputable def env_41 : Env := (Env.mk (Module.scope (Program.main pw)) mainNs mainNs [] Str.empty none (Value.ref 13) (some (14 : Addr)) (0 : Addr))
noncomputable def tree_47 : Params → BT := (fun (P : Params) => (BT.node (boot_o_0 P) (BT.node (boot_o_1 P) (BT.node (boot_o_3 P) (BT.node (boot_o_7 P) BT.nil BT.nil) (BT.node (ho_43 P) BT.nil BT.nil)) (BT.node (boot_o_5 P) (BT.node (boot_o_9 P) BT.nil BT.nil) (BT.node (ho_45 P) BT.nil BT.nil))) (BT.node (boot_o_2 P) (BT.node (boot_o_4 P) (BT.node (boot_o_8 P) BT.nil BT.nil) (BT.node (ho_44 P) BT.nil BT.nil)) (BT.node (boot_o_6 P) (BT.node (boot_o_10 P) BT.nil BT.nil) (BT.node (ho_46 P) BT.nil BT.nil)))))
noncomputable def sts_49 : List Stmt := ((stOf 0 rfl) :: (stOf 1 rfl) :: (stOf 2 rfl) :: (stOf 3 rfl) :: (stOf 4 rfl) :: (stOf 5 rfl) :: [])
noncomputable def ho_49 : Params → Obj := (fun (P : Params) => (Obj.mk (Value.type "dict") none (Data.dict (List.toArray ((DictEntry.mk (PyData.keyHash P (Str.ofString "__name__")) (Value.str (Str.ofString "__name__") 165) (Value.str (Str.ofString "moduleyard.scanner") 248)) :: (DictEntry.mk (PyData.keyHash P (Str.ofString "__doc__")) (Value.str (Str.ofString "__doc__") 166) Value.none) :: (DictEntry.mk (PyData.keyHash P (Str.ofString "__package__")) (Value.str (Str.ofString "__package__") 167) Value.none) :: (DictEntry.mk (PyData.keyHash P (Str.ofString "__loader__")) (Value.str (Str.ofString "__loader__") 168) (Value.builtin "__main__.__loader__#opaque")) :: (DictEntry.mk (PyData.keyHash P (Str.ofString "__spec__")) (Value.str (Str.ofString "__spec__") 169) Value.none) :: (DictEntry.mk (PyData.keyHash P (Str.ofString "__annotations__")) (Value.str (Str.ofString "__annotations__") 170) (Value.ref 6)) :: (DictEntry.mk (PyData.keyHash P (Str.ofString "__builtins__")) (Value.str (Str.ofString "__builtins__") 171) (Value.ref 4)) :: (DictEntry.mk (PyData.keyHash P (Str.ofString "__file__")) (Value.str (Str.ofString "__file__") 173) (Value.str (Str.ofString "/claim/cut.py") 172)) :: (DictEntry.mk (PyData.keyHash P (Str.ofString "__cached__")) (Value.str (Str.ofString "__cached__") 174) Value.none) :: (DictEntry.mk (PyData.keyHash P (Str.ofString "_wall")) (Value.str (Str.ofString "_wall") 193) (Value.ref 21)) :: (DictEntry.mk (PyData.keyHash P (Str.ofString "ErrorList")) (Value.str (Str.ofString "ErrorList") 247) (Value.ref 59)) :: (DictEntry.mk (PyData.keyHash P (Str.ofString "MOST_INTEGER")) (Value.str (Str.ofString "MOST_INTEGER") 251) (Value.int (2147483647 : Int) 250)) :: (DictEntry.mk (PyData.keyHash P (Str.ofString "MOST_WORD")) (Value.str (Str.ofString "MOST_WORD") 253) (Value.int (4294967295 : Int) 252)) :: [])) 13) (List.toArray [])))
noncomputable def ho_51 : Params → Obj := (fun (P : Params) => (Obj.mk (Value.type "tuple") none (Data.seq (List.toArray []) 0) (List.toArray [])))
noncomputable def ho_67 : Params → Obj := (fun (P : Params) => (Obj.mk (Value.type "tuple") none (Data.seq (List.toArray ((Value.str (Str.ofString "self") 211) :: [])) 0) (List.toArray [])))
noncomputable def ho_99 : Params → Obj := (fun (P : Params) => (Obj.mk (Value.type "builtin_function_or_method") none (Data.fields (List.toArray ((Value.builtin "object.__init_subclass__") :: (Value.ref 59) :: []))) (List.toArray [])))
noncomputable def ho_83 : Params → Obj := (fun (P : Params) => (Obj.mk Value.none none (Data.func (fdat (mtAt 2 2) (Str.ofString "ErrorList.first") 0 [] Value.none Value.none Value.none Value.none none Value.none Value.none 0 rfl)) (List.toArray [])))
noncomputable def ho_59 : Params → Obj := (fun (P : Params) => (Obj.mk (Value.type "builtin_function_or_method") none (Data.fields (List.toArray ((Value.builtin "type.__prepare__") :: (Value.type "type") :: []))) (List.toArray [])))
noncomputable def ho_75 : Params → Obj := (fun (P : Params) => (Obj.mk (Value.type "tuple") none (Data.seq (List.toArray []) 0) (List.toArray [])))
noncomputable def ho_91 : Params → Obj := (fun (P : Params) => (Obj.mk (Value.type "code") none (Data.fields (List.toArray ((Value.str (Str.ofString "ok") 231) :: (Value.str (Str.ofString "ErrorList.ok") 232) :: (Value.str (Str.ofString "/claim/cut.py") 233) :: (Value.int (19 : Int) 0) :: (Value.int (1 : Int) 0) :: (Value.int (0 : Int) 0) :: (Value.int (0 : Int) 0) :: (Value.int (3 : Int) 0) :: (Value.ref 50) :: (Value.bool true) :: (Value.int (181 : Int) 0) :: (Value.ref 51) :: Value.none :: (Value.ref 52) :: (Value.ref 53) :: (Value.ref 54) :: (Value.int (235 : Int) 0) :: (Value.int (19 : Int) 0) :: (Value.str (Str.ofString "/claim/cut.py") 236) :: []))) (List.toArray [])))
noncomputable def ho_55 : Params → Obj := (fun (P : Params) => (Obj.mk Value.none none (Data.func (fdat (stAt 0) (Str.ofString "_wall") 0 [] Value.none Value.none Value.none Value.none none Value.none Value.none 0 rfl)) (List.toArray [])))
noncomputable def ho_71 : Params → Obj := (fun (P : Params) => (Obj.mk (Value.type "function") none (Data.func (fdat (mtAt 2 0) (Str.ofString "ErrorList.__init__") 3 [] Value.none Value.none Value.none (Value.str (Str.ofString "moduleyard.errors") 194) none (Value.ref 34) Value.none 0 rfl)) (List.toArray [])))
noncomputable def ho_87 : Params → Obj := (fun (P : Params) => (Obj.mk Value.none none (Data.fields (List.toArray [])) (List.toArray [])))
noncomputable def ho_63 : Params → Obj := (fun (P : Params) => (Obj.mk (Value.type "code") none (Data.fields (List.toArray ((Value.str (Str.ofString "ErrorList") 198) :: (Value.str (Str.ofString "ErrorList") 199) :: (Value.str (Str.ofString "/claim/cut.py") 200) :: (Value.int (5 : Int) 0) :: (Value.int (0 : Int) 0) :: (Value.int (0 : Int) 0) :: (Value.int (0 : Int) 0) :: (Value.int (0 : Int) 0) :: (Value.ref 25) :: (Value.bool false) :: (Value.int (181 : Int) 0) :: (Value.ref 26) :: Value.none :: Value.none :: Value.none :: Value.none :: (Value.int (201 : Int) 0) :: (Value.int (5 : Int) 0) :: (Value.str (Str.ofString "/claim/cut.py") 202) :: []))) (List.toArray [])))
noncomputable def ho_79 : Params → Obj := (fun (P : Params) => (Obj.mk (Value.type "tuple") none (Data.seq (List.toArray []) 0) (List.toArray [])))
noncomputable def ho_95 : Params → Obj := (fun (P : Params) => (Obj.mk (Value.type "type") none (Data.cls (ClassData.mk (Str.ofString "ErrorList") ((Value.type "object") :: []) ((Value.ref 59) :: (Value.type "object") :: []) 58 (Str.ofString "ErrorList") true [] [] false none false)) (List.toArray (none :: none :: (some (Value.str (Str.ofString "ErrorList") 196)) :: (some (Value.str (Str.ofString "ErrorList") 204)) :: (some (Value.builtin "object.__new__")) :: (some (Value.bool true)) :: []))))
noncomputable def ho_53 : Params → Obj := (fun (P : Params) => (Obj.mk (Value.type "tuple") none (Data.seq (List.toArray ((Value.str (Str.ofString "k") 190) :: [])) 0) (List.toArray [])))
noncomputable def ho_69 : Params → Obj := (fun (P : Params) => (Obj.mk Value.none none (Data.func (fdat (mtAt 2 0) (Str.ofString "ErrorList.__init__") 0 [] Value.none Value.none Value.none Value.none none Value.none Value.none 0 rfl)) (List.toArray [])))
noncomputable def ho_85 : Params → Obj := (fun (P : Params) => (Obj.mk (Value.type "function") none (Data.func (fdat (mtAt 2 2) (Str.ofString "ErrorList.first") 3 [] Value.none Value.none Value.none (Value.str (Str.ofString "moduleyard.errors") 194) none (Value.ref 48) Value.none 0 rfl)) (List.toArray [])))
noncomputable def ho_61 : Params → Obj := (fun (P : Params) => (Obj.mk (Value.type "tuple") none (Data.seq (List.toArray []) 0) (List.toArray [])))
noncomputable def ho_77 : Params → Obj := (fun (P : Params) => (Obj.mk (Value.type "code") none (Data.fields (List.toArray ((Value.str (Str.ofString "mark") 215) :: (Value.str (Str.ofString "ErrorList.mark") 216) :: (Value.str (Str.ofString "/claim/cut.py") 217) :: (Value.int (11 : Int) 0) :: (Value.int (3 : Int) 0) :: (Value.int (0 : Int) 0) :: (Value.int (0 : Int) 0) :: (Value.int (3 : Int) 0) :: (Value.ref 36) :: (Value.bool true) :: (Value.int (181 : Int) 0) :: (Value.ref 37) :: Value.none :: (Value.ref 38) :: (Value.ref 39) :: (Value.ref 40) :: (Value.int (221 : Int) 0) :: (Value.int (11 : Int) 0) :: (Value.str (Str.ofString "/claim/cut.py") 222) :: []))) (List.toArray [])))
noncomputable def ho_93 : Params → Obj := (fun (P : Params) => (Obj.mk (Value.type "tuple") none (Data.seq (List.toArray ((Value.str (Str.ofString "places") 238) :: (Value.str (Str.ofString "rows") 239) :: [])) 0) (List.toArray [])))
noncomputable def ho_57 : Params → Obj := (fun (P : Params) => (Obj.mk (Value.type "function") none (Data.func (fdat (stAt 0) (Str.ofString "_wall") 3 [] Value.none Value.none Value.none (Value.str (Str.ofString "__main__") 164) none (Value.ref 20) Value.none 0 rfl)) (List.toArray [])))
noncomputable def ho_73 : Params → Obj := (fun (P : Params) => (Obj.mk Value.none none (Data.fields (List.toArray [])) (List.toArray [])))
noncomputable def ho_89 : Params → Obj := (fun (P : Params) => (Obj.mk (Value.type "tuple") none (Data.seq (List.toArray []) 0) (List.toArray [])))
noncomputable def ho_65 : Params → Obj := (fun (P : Params) => (Obj.mk (Value.type "tuple") none (Data.seq (List.toArray []) 0) (List.toArray [])))
noncomputable def ho_81 : Params → Obj := (fun (P : Params) => (Obj.mk (Value.type "tuple") none (Data.seq (List.toArray ((Value.str (Str.ofString "self") 227) :: [])) 0) (List.toArray [])))
noncomputable def ho_97 : Params → Obj := (fun (P : Params) => (Obj.mk (Value.type "getset_descriptor") none (Data.fields (List.toArray ((Value.str (Str.ofString "__weakref__") 243) :: (Value.ref 59) :: (Value.builtin "ExceptionGroup.__weakref__") :: Value.none :: []))) (List.toArray [])))
noncomputable def ho_52 : Params → Obj := (fun (P : Params) => (Obj.mk Value.none none (Data.fields (List.toArray [])) (List.toArray [])))
noncomputable def ho_68 : Params → Obj := (fun (P : Params) => (Obj.mk (Value.type "tuple") none (Data.seq (List.toArray []) 0) (List.toArray [])))
noncomputable def ho_84 : Params → Obj := (fun (P : Params) => (Obj.mk (Value.type "code") none (Data.fields (List.toArray ((Value.str (Str.ofString "first") 224) :: (Value.str (Str.ofString "ErrorList.first") 225) :: (Value.str (Str.ofString "/claim/cut.py") 226) :: (Value.int (16 : Int) 0) :: (Value.int (1 : Int) 0) :: (Value.int (0 : Int) 0) :: (Value.int (0 : Int) 0) :: (Value.int (3 : Int) 0) :: (Value.ref 43) :: (Value.bool true) :: (Value.int (181 : Int) 0) :: (Value.ref 44) :: Value.none :: (Value.ref 45) :: (Value.ref 46) :: (Value.ref 47) :: (Value.int (228 : Int) 0) :: (Value.int (16 : Int) 0) :: (Value.str (Str.ofString "/claim/cut.py") 229) :: []))) (List.toArray [])))
noncomputable def ho_60 : Params → Obj := (fun (P : Params) => (Obj.mk (Value.type "dict") none (Data.dict (List.toArray ((DictEntry.mk (PyData.keyHash P (Str.ofString "__module__")) (Value.str (Str.ofString "__module__") 203) (Value.str (Str.ofString "moduleyard.errors") 194)) :: (DictEntry.mk (PyData.keyHash P (Str.ofString "__qualname__")) (Value.str (Str.ofString "__qualname__") 205) (Value.str (Str.ofString "ErrorList") 204)) :: (DictEntry.mk (PyData.keyHash P (Str.ofString "__firstlineno__")) (Value.str (Str.ofString "__firstlineno__") 207) (Value.int (5 : Int) 206)) :: (DictEntry.mk (PyData.keyHash P (Str.ofString "__init__")) (Value.str (Str.ofString "__init__") 214) (Value.ref 35)) :: (DictEntry.mk (PyData.keyHash P (Str.ofString "mark")) (Value.str (Str.ofString "mark") 223) (Value.ref 42)) :: (DictEntry.mk (PyData.keyHash P (Str.ofString "first")) (Value.str (Str.ofString "first") 230) (Value.ref 49)) :: (DictEntry.mk (PyData.keyHash P (Str.ofString "ok")) (Value.str (Str.ofString "ok") 237) (Value.ref 56)) :: (DictEntry.mk (PyData.keyHash P (Str.ofString "__static_attributes__")) (Value.str (Str.ofString "__static_attributes__") 240) (Value.ref 57)) :: [])) 8) (List.toArray [])))
noncomputable def ho_76 : Params → Obj := (fun (P : Params) => (Obj.mk Value.none none (Data.func (fdat (mtAt 2 1) (Str.ofString "ErrorList.mark") 0 [] Value.none Value.none Value.none Value.none none Value.none Value.none 0 rfl)) (List.toArray [])))
noncomputable def ho_92 : Params → Obj := (fun (P : Params) => (Obj.mk (Value.type "function") none (Data.func (fdat (mtAt 2 3) (Str.ofString "ErrorList.ok") 3 [] Value.none Value.none Value.none (Value.str (Str.ofString "moduleyard.errors") 194) none (Value.ref 55) Value.none 0 rfl)) (List.toArray [])))
noncomputable def ho_50 : Params → Obj := (fun (P : Params) => (Obj.mk Value.none none (Data.fields (List.toArray ((Value.int (1 : Int) 0) :: (Value.int (0 : Int) 0) :: (Value.ref 20) :: (Value.int (5 : Int) 0) :: (Value.int (0 : Int) 0) :: (Value.ref 27) :: []))) (List.toArray [])))
noncomputable def ho_56 : Params → Obj := (fun (P : Params) => (Obj.mk (Value.type "code") none (Data.fields (List.toArray ((Value.str (Str.ofString "_wall") 187) :: (Value.str (Str.ofString "_wall") 188) :: (Value.str (Str.ofString "/claim/cut.py") 189) :: (Value.int (1 : Int) 0) :: (Value.int (1 : Int) 0) :: (Value.int (0 : Int) 0) :: (Value.int (0 : Int) 0) :: (Value.int (3 : Int) 0) :: (Value.ref 15) :: (Value.bool true) :: (Value.int (181 : Int) 0) :: (Value.ref 16) :: Value.none :: (Value.ref 17) :: (Value.ref 18) :: (Value.ref 19) :: (Value.int (191 : Int) 0) :: (Value.int (1 : Int) 0) :: (Value.str (Str.ofString "/claim/cut.py") 192) :: []))) (List.toArray [])))
noncomputable def ho_72 : Params → Obj := (fun (P : Params) => (Obj.mk (Value.type "tuple") none (Data.seq (List.toArray []) 0) (List.toArray [])))
noncomputable def ho_88 : Params → Obj := (fun (P : Params) => (Obj.mk (Value.type "tuple") none (Data.seq (List.toArray ((Value.str (Str.ofString "self") 234) :: [])) 0) (List.toArray [])))
noncomputable def ho_64 : Params → Obj := (fun (P : Params) => (Obj.mk (Value.type "frame") none Data.plain (List.toArray ((some (Value.ref 27)) :: (some (Value.ref 3)) :: (some (Value.ref 24)) :: none :: (some (Value.str (Str.ofString "moduleyard.errors") 194)) :: none :: (some (Value.ref 0)) :: []))))
noncomputable def ho_80 : Params → Obj := (fun (P : Params) => (Obj.mk Value.none none (Data.fields (List.toArray [])) (List.toArray [])))
noncomputable def ho_96 : Params → Obj := (fun (P : Params) => (Obj.mk (Value.type "getset_descriptor") none (Data.fields (List.toArray ((Value.str (Str.ofString "__dict__") 241) :: (Value.ref 59) :: (Value.builtin "function.__dict__") :: (Value.builtin "function.__dict__#set") :: []))) (List.toArray [])))
noncomputable def ho_54 : Params → Obj := (fun (P : Params) => (Obj.mk (Value.type "tuple") none (Data.seq (List.toArray []) 0) (List.toArray [])))
noncomputable def ho_70 : Params → Obj := (fun (P : Params) => (Obj.mk (Value.type "code") none (Data.fields (List.toArray ((Value.str (Str.ofString "__init__") 208) :: (Value.str (Str.ofString "ErrorList.__init__") 209) :: (Value.str (Str.ofString "/claim/cut.py") 210) :: (Value.int (7 : Int) 0) :: (Value.int (1 : Int) 0) :: (Value.int (0 : Int) 0) :: (Value.int (0 : Int) 0) :: (Value.int (3 : Int) 0) :: (Value.ref 29) :: (Value.bool true) :: (Value.int (181 : Int) 0) :: (Value.ref 30) :: Value.none :: (Value.ref 31) :: (Value.ref 32) :: (Value.ref 33) :: (Value.int (212 : Int) 0) :: (Value.int (7 : Int) 0) :: (Value.str (Str.ofString "/claim/cut.py") 213) :: []))) (List.toArray [])))
noncomputable def ho_86 : Params → Obj := (fun (P : Params) => (Obj.mk (Value.type "tuple") none (Data.seq (List.toArray []) 0) (List.toArray [])))
noncomputable def ho_62 : Params → Obj := (fun (P : Params) => (Obj.mk Value.none none (Data.fields (List.toArray ((Value.int (7 : Int) 0) :: (Value.int (4 : Int) 0) :: (Value.ref 34) :: (Value.int (11 : Int) 0) :: (Value.int (4 : Int) 0) :: (Value.ref 41) :: (Value.int (16 : Int) 0) :: (Value.int (4 : Int) 0) :: (Value.ref 48) :: (Value.int (19 : Int) 0) :: (Value.int (4 : Int) 0) :: (Value.ref 55) :: []))) (List.toArray [])))
noncomputable def ho_78 : Params → Obj := (fun (P : Params) => (Obj.mk (Value.type "function") none (Data.func (fdat (mtAt 2 1) (Str.ofString "ErrorList.mark") 3 [] Value.none Value.none Value.none (Value.str (Str.ofString "moduleyard.errors") 194) none (Value.ref 41) Value.none 0 rfl)) (List.toArray [])))
noncomputable def ho_94 : Params → Obj := (fun (P : Params) => (Obj.mk (Value.type "dict") none (Data.dict (List.toArray ((DictEntry.mk (PyData.keyHash P (Str.ofString "__module__")) (Value.str (Str.ofString "__module__") 203) (Value.str (Str.ofString "moduleyard.errors") 194)) :: (DictEntry.mk (PyData.keyHash P (Str.ofString "__firstlineno__")) (Value.str (Str.ofString "__firstlineno__") 207) (Value.int (5 : Int) 206)) :: (DictEntry.mk (PyData.keyHash P (Str.ofString "__init__")) (Value.str (Str.ofString "__init__") 214) (Value.ref 35)) :: (DictEntry.mk (PyData.keyHash P (Str.ofString "mark")) (Value.str (Str.ofString "mark") 223) (Value.ref 42)) :: (DictEntry.mk (PyData.keyHash P (Str.ofString "first")) (Value.str (Str.ofString "first") 230) (Value.ref 49)) :: (DictEntry.mk (PyData.keyHash P (Str.ofString "ok")) (Value.str (Str.ofString "ok") 237) (Value.ref 56)) :: (DictEntry.mk (PyData.keyHash P (Str.ofString "__static_attributes__")) (Value.str (Str.ofString "__static_attributes__") 240) (Value.ref 57)) :: (DictEntry.mk (PyData.keyHash P (Str.ofString "__dict__")) (Value.str (Str.ofString "__dict__") 242) (Value.ref 60)) :: (DictEntry.mk (PyData.keyHash P (Str.ofString "__weakref__")) (Value.str (Str.ofString "__weakref__") 244) (Value.ref 61)) :: (DictEntry.mk (PyData.keyHash P (Str.ofString "__doc__")) (Value.str (Str.ofString "__doc__") 245) Value.none) :: [])) 4) (List.toArray [])))
noncomputable def ho_58 : Params → Obj := (fun (P : Params) => (Obj.mk (Value.type "tuple") none (Data.seq (List.toArray []) 0) (List.toArray [])))
noncomputable def ho_74 : Params → Obj := (fun (P : Params) => (Obj.mk (Value.type "tuple") none (Data.seq (List.toArray ((Value.str (Str.ofString "self") 218) :: (Value.str (Str.ofString "place") 219) :: (Value.str (Str.ofString "code") 220) :: [])) 0) (List.toArray [])))
noncomputable def ho_90 : Params → Obj := (fun (P : Params) => (Obj.mk Value.none none (Data.func (fdat (mtAt 2 3) (Str.ofString "ErrorList.ok") 0 [] Value.none Value.none Value.none Value.none none Value.none Value.none 0 rfl)) (List.toArray [])))
noncomputable def ho_66 : Params → Obj := (fun (P : Params) => (Obj.mk Value.none none (Data.fields (List.toArray [])) (List.toArray [])))
noncomputable def ho_82 : Params → Obj := (fun (P : Params) => (Obj.mk (Value.type "tuple") none (Data.seq (List.toArray []) 0) (List.toArray [])))
noncomputable def ho_98 : Params → Obj := (fun (P : Params) => (Obj.mk (Value.type "super") none (Data.fields (List.toArray ((Value.ref 59) :: (Value.ref 59) :: (Value.ref 59) :: []))) (List.toArray [])))
noncomputable def tree_99 : Params → BT := (fun (P : Params) => (BT.node (boot_o_0 P) (BT.node (boot_o_1 P) (BT.node (ho_49 P) (BT.node (boot_o_7 P) (BT.node (ho_51 P) (BT.node (ho_67 P) (BT.node (ho_99 P) BT.nil BT.nil) BT.nil) (BT.node (ho_83 P) BT.nil BT.nil)) (BT.node (ho_59 P) (BT.node (ho_75 P) BT.nil BT.nil) (BT.node (ho_91 P) BT.nil BT.nil))) (BT.node (ho_43 P) (BT.node (ho_55 P) (BT.node (ho_71 P) BT.nil BT.nil) (BT.node (ho_87 P) BT.nil BT.nil)) (BT.node (ho_63 P) (BT.node (ho_79 P) BT.nil BT.nil) (BT.node (ho_95 P) BT.nil BT.nil)))) (BT.node (boot_o_5 P) (BT.node (boot_o_9 P) (BT.node (ho_53 P) (BT.node (ho_69 P) BT.nil BT.nil) (BT.node (ho_85 P) BT.nil BT.nil)) (BT.node (ho_61 P) (BT.node (ho_77 P) BT.nil BT.nil) (BT.node (ho_93 P) BT.nil BT.nil))) (BT.node (ho_45 P) (BT.node (ho_57 P) (BT.node (ho_73 P) BT.nil BT.nil) (BT.node (ho_89 P) BT.nil BT.nil)) (BT.node (ho_65 P) (BT.node (ho_81 P) BT.nil BT.nil) (BT.node (ho_97 P) BT.nil BT.nil))))) (BT.node (boot_o_2 P) (BT.node (boot_o_4 P) (BT.node (boot_o_8 P) (BT.node (ho_52 P) (BT.node (ho_68 P) BT.nil BT.nil) (BT.node (ho_84 P) BT.nil BT.nil)) (BT.node (ho_60 P) (BT.node (ho_76 P) BT.nil BT.nil) (BT.node (ho_92 P) BT.nil BT.nil))) (BT.node (ho_50 P) (BT.node (ho_56 P) (BT.node (ho_72 P) BT.nil BT.nil) (BT.node (ho_88 P) BT.nil BT.nil)) (BT.node (ho_64 P) (BT.node (ho_80 P) BT.nil BT.nil) (BT.node (ho_96 P) BT.nil BT.nil)))) (BT.node (boot_o_6 P) (BT.node (boot_o_10 P) (BT.node (ho_54 P) (BT.node (ho_70 P) BT.nil BT.nil) (BT.node (ho_86 P) BT.nil BT.nil)) (BT.node (ho_62 P) (BT.node (ho_78 P) BT.nil BT.nil) (BT.node (ho_94 P) BT.nil BT.nil))) (BT.node (ho_46 P) (BT.node (ho_58 P) (BT.node (ho_74 P) BT.nil BT.nil) (BT.node (ho_90 P) BT.nil BT.nil)) (BT.node (ho_66 P) (BT.node (ho_82 P) BT.nil BT.nil) (BT.node (ho_98 P) BT.nil BT.nil)))))))
noncomputable def sts_100 : List Stmt := ((stOf 6 rfl) :: (stOf 7 rfl) :: (stOf 8 rfl) :: (stOf 9 rfl) :: (stOf 10 rfl) :: (stOf 11 rfl) :: [])
noncomputable def ho_100 : Params → Obj := (fun (P : Params) => (Obj.mk (Value.type "dict") none (Data.dict (List.toArray ((DictEntry.mk (PyData.keyHash P (Str.ofString "__name__")) (Value.str (Str.ofString "__name__") 165) (Value.str (Str.ofString "moduleyard.scanner") 248)) :: (DictEntry.mk (PyData.keyHash P (Str.ofString "__doc__")) (Value.str (Str.ofString "__doc__") 166) Value.none) :: (DictEntry.mk (PyData.keyHash P (Str.ofString "__package__")) (Value.str (Str.ofString "__package__") 167) Value.none) :: (DictEntry.mk (PyData.keyHash P (Str.ofString "__loader__")) (Value.str (Str.ofString "__loader__") 168) (Value.builtin "__main__.__loader__#opaque")) :: (DictEntry.mk (PyData.keyHash P (Str.ofString "__spec__")) (Value.str (Str.ofString "__spec__") 169) Value.none) :: (DictEntry.mk (PyData.keyHash P (Str.ofString "__annotations__")) (Value.str (Str.ofString "__annotations__") 170) (Value.ref 6)) :: (DictEntry.mk (PyData.keyHash P (Str.ofString "__builtins__")) (Value.str (Str.ofString "__builtins__") 171) (Value.ref 4)) :: (DictEntry.mk (PyData.keyHash P (Str.ofString "__file__")) (Value.str (Str.ofString "__file__") 173) (Value.str (Str.ofString "/claim/cut.py") 172)) :: (DictEntry.mk (PyData.keyHash P (Str.ofString "__cached__")) (Value.str (Str.ofString "__cached__") 174) Value.none) :: (DictEntry.mk (PyData.keyHash P (Str.ofString "_wall")) (Value.str (Str.ofString "_wall") 193) (Value.ref 21)) :: (DictEntry.mk (PyData.keyHash P (Str.ofString "ErrorList")) (Value.str (Str.ofString "ErrorList") 247) (Value.ref 59)) :: (DictEntry.mk (PyData.keyHash P (Str.ofString "MOST_INTEGER")) (Value.str (Str.ofString "MOST_INTEGER") 251) (Value.int (2147483647 : Int) 250)) :: (DictEntry.mk (PyData.keyHash P (Str.ofString "MOST_WORD")) (Value.str (Str.ofString "MOST_WORD") 253) (Value.int (4294967295 : Int) 252)) :: (DictEntry.mk (PyData.keyHash P (Str.ofString "Token")) (Value.str (Str.ofString "Token") 286) (Value.ref 80)) :: (DictEntry.mk (PyData.keyHash P (Str.ofString "keywords")) (Value.str (Str.ofString "keywords") 292) (Value.ref 91)) :: (DictEntry.mk (PyData.keyHash P (Str.ofString "is_letter")) (Value.str (Str.ofString "is_letter") 299) (Value.ref 98)) :: (DictEntry.mk (PyData.keyHash P (Str.ofString "is_digit")) (Value.str (Str.ofString "is_digit") 306) (Value.ref 105)) :: (DictEntry.mk (PyData.keyHash P (Str.ofString "is_hex_digit")) (Value.str (Str.ofString "is_hex_digit") 313) (Value.ref 112)) :: (DictEntry.mk (PyData.keyHash P (Str.ofString "digits_value")) (Value.str (Str.ofString "digits_value") 324) (Value.ref 119)) :: [])) 19) (List.toArray [])))
noncomputable def ho_133 : Params → Obj := (fun (P : Params) => (Obj.mk (Value.type "tuple") none (Data.seq (List.toArray []) 0) (List.toArray [])))
noncomputable def ho_117 : Params → Obj := (fun (P : Params) => (Obj.mk (Value.type "dict") none (Data.dict (List.toArray ((DictEntry.mk (PyData.keyHash P (Str.ofString "__module__")) (Value.str (Str.ofString "__module__") 261) (Value.str (Str.ofString "moduleyard.scanner") 248)) :: (DictEntry.mk (PyData.keyHash P (Str.ofString "__firstlineno__")) (Value.str (Str.ofString "__firstlineno__") 265) (Value.int (24 : Int) 264)) :: (DictEntry.mk (PyData.keyHash P (Str.ofString "__init__")) (Value.str (Str.ofString "__init__") 275) (Value.ref 77)) :: (DictEntry.mk (PyData.keyHash P (Str.ofString "__static_attributes__")) (Value.str (Str.ofString "__static_attributes__") 279) (Value.ref 78)) :: (DictEntry.mk (PyData.keyHash P (Str.ofString "__dict__")) (Value.str (Str.ofString "__dict__") 281) (Value.ref 81)) :: (DictEntry.mk (PyData.keyHash P (Str.ofString "__weakref__")) (Value.str (Str.ofString "__weakref__") 283) (Value.ref 82)) :: (DictEntry.mk (PyData.keyHash P (Str.ofString "__doc__")) (Value.str (Str.ofString "__doc__") 284) Value.none) :: [])) 4) (List.toArray [])))
noncomputable def ho_149 : Params → Obj := (fun (P : Params) => (Obj.mk (Value.type "code") none (Data.fields (List.toArray ((Value.str (Str.ofString "is_hex_digit") 307) :: (Value.str (Str.ofString "is_hex_digit") 308) :: (Value.str (Str.ofString "/claim/cut.py") 309) :: (Value.int (36 : Int) 0) :: (Value.int (1 : Int) 0) :: (Value.int (0 : Int) 0) :: (Value.int (0 : Int) 0) :: (Value.int (3 : Int) 0) :: (Value.ref 106) :: (Value.bool true) :: (Value.int (181 : Int) 0) :: (Value.ref 107) :: Value.none :: (Value.ref 108) :: (Value.ref 109) :: (Value.ref 110) :: (Value.int (311 : Int) 0) :: (Value.int (36 : Int) 0) :: (Value.str (Str.ofString "/claim/cut.py") 312) :: []))) (List.toArray [])))
noncomputable def ho_109 : Params → Obj := (fun (P : Params) => (Obj.mk (Value.type "tuple") none (Data.seq (List.toArray []) 0) (List.toArray [])))
noncomputable def ho_141 : Params → Obj := (fun (P : Params) => (Obj.mk Value.none none (Data.func (fdat (stAt 9) (Str.ofString "is_digit") 0 [] Value.none Value.none Value.none Value.none none Value.none Value.none 0 rfl)) (List.toArray [])))
noncomputable def ho_125 : Params → Obj := (fun (P : Params) => (Obj.mk (Value.type "tuple") none (Data.seq (List.toArray []) 0) (List.toArray [])))
noncomputable def ho_157 : Params → Obj := (fun (P : Params) => (Obj.mk (Value.type "function") none (Data.func (fdat (stAt 11) (Str.ofString "digits_value") 3 [] Value.none Value.none Value.none (Value.str (Str.ofString "moduleyard.scanner") 248) none (Value.ref 118) Value.none 0 rfl)) (List.toArray [])))
noncomputable def ho_105 : Params → Obj := (fun (P : Params) => (Obj.mk (Value.type "tuple") none (Data.seq (List.toArray []) 0) (List.toArray [])))
noncomputable def ho_137 : Params → Obj := (fun (P : Params) => (Obj.mk (Value.type "tuple") none (Data.seq (List.toArray []) 0) (List.toArray [])))
noncomputable def ho_121 : Params → Obj := (fun (P : Params) => (Obj.mk (Value.type "super") none (Data.fields (List.toArray ((Value.ref 80) :: (Value.ref 80) :: (Value.ref 80) :: []))) (List.toArray [])))
noncomputable def ho_153 : Params → Obj := (fun (P : Params) => (Obj.mk (Value.type "tuple") none (Data.seq (List.toArray ((Value.str (Str.ofString "digits") 317) :: (Value.str (Str.ofString "base") 318) :: (Value.str (Str.ofString "most") 319) :: (Value.str (Str.ofString "value") 320) :: (Value.str (Str.ofString "digit") 321) :: [])) 0) (List.toArray [])))
noncomputable def ho_113 : Params → Obj := (fun (P : Params) => (Obj.mk Value.none none (Data.func (fdat (mtAt 6 0) (Str.ofString "Token.__init__") 0 [] Value.none Value.none Value.none Value.none none Value.none Value.none 0 rfl)) (List.toArray [])))
noncomputable def ho_145 : Params → Obj := (fun (P : Params) => (Obj.mk Value.none none (Data.fields (List.toArray [])) (List.toArray [])))
noncomputable def ho_129 : Params → Obj := (fun (P : Params) => (Obj.mk (Value.type "function") none (Data.func (fdat (stAt 7) (Str.ofString "keywords") 3 [] Value.none Value.none Value.none (Value.str (Str.ofString "moduleyard.scanner") 248) none (Value.ref 90) Value.none 0 rfl)) (List.toArray [])))
noncomputable def ho_103 : Params → Obj := (fun (P : Params) => (Obj.mk (Value.type "builtin_function_or_method") none (Data.fields (List.toArray ((Value.builtin "type.__prepare__") :: (Value.type "type") :: []))) (List.toArray [])))
noncomputable def ho_135 : Params → Obj := (fun (P : Params) => (Obj.mk (Value.type "code") none (Data.fields (List.toArray ((Value.str (Str.ofString "is_letter") 293) :: (Value.str (Str.ofString "is_letter") 294) :: (Value.str (Str.ofString "/claim/cut.py") 295) :: (Value.int (32 : Int) 0) :: (Value.int (1 : Int) 0) :: (Value.int (0 : Int) 0) :: (Value.int (0 : Int) 0) :: (Value.int (3 : Int) 0) :: (Value.ref 92) :: (Value.bool true) :: (Value.int (181 : Int) 0) :: (Value.ref 93) :: Value.none :: (Value.ref 94) :: (Value.ref 95) :: (Value.ref 96) :: (Value.int (297 : Int) 0) :: (Value.int (32 : Int) 0) :: (Value.str (Str.ofString "/claim/cut.py") 298) :: []))) (List.toArray [])))
noncomputable def ho_119 : Params → Obj := (fun (P : Params) => (Obj.mk (Value.type "getset_descriptor") none (Data.fields (List.toArray ((Value.str (Str.ofString "__dict__") 280) :: (Value.ref 80) :: (Value.builtin "function.__dict__") :: (Value.builtin "function.__dict__#set") :: []))) (List.toArray [])))
noncomputable def ho_151 : Params → Obj := (fun (P : Params) => (Obj.mk (Value.type "tuple") none (Data.seq (List.toArray []) 0) (List.toArray [])))
noncomputable def ho_111 : Params → Obj := (fun (P : Params) => (Obj.mk (Value.type "tuple") none (Data.seq (List.toArray ((Value.str (Str.ofString "self") 269) :: (Value.str (Str.ofString "kind") 270) :: (Value.str (Str.ofString "value") 271) :: (Value.str (Str.ofString "place") 272) :: [])) 0) (List.toArray [])))
noncomputable def ho_143 : Params → Obj := (fun (P : Params) => (Obj.mk (Value.type "function") none (Data.func (fdat (stAt 9) (Str.ofString "is_digit") 3 [] Value.none Value.none Value.none (Value.str (Str.ofString "moduleyard.scanner") 248) none (Value.ref 104) Value.none 0 rfl)) (List.toArray [])))
noncomputable def ho_127 : Params → Obj := (fun (P : Params) => (Obj.mk Value.none none (Data.func (fdat (stAt 7) (Str.ofString "keywords") 0 [] Value.none Value.none Value.none Value.none none Value.none Value.none 0 rfl)) (List.toArray [])))
noncomputable def ho_107 : Params → Obj := (fun (P : Params) => (Obj.mk (Value.type "code") none (Data.fields (List.toArray ((Value.str (Str.ofString "Token") 256) :: (Value.str (Str.ofString "Token") 257) :: (Value.str (Str.ofString "/claim/cut.py") 258) :: (Value.int (24 : Int) 0) :: (Value.int (0 : Int) 0) :: (Value.int (0 : Int) 0) :: (Value.int (0 : Int) 0) :: (Value.int (0 : Int) 0) :: (Value.ref 67) :: (Value.bool false) :: (Value.int (181 : Int) 0) :: (Value.ref 68) :: Value.none :: Value.none :: Value.none :: Value.none :: (Value.int (259 : Int) 0) :: (Value.int (24 : Int) 0) :: (Value.str (Str.ofString "/claim/cut.py") 260) :: []))) (List.toArray [])))
noncomputable def ho_139 : Params → Obj := (fun (P : Params) => (Obj.mk (Value.type "tuple") none (Data.seq (List.toArray ((Value.str (Str.ofString "char") 303) :: [])) 0) (List.toArray [])))
noncomputable def ho_123 : Params → Obj := (fun (P : Params) => (Obj.mk (Value.type "tuple") none (Data.seq (List.toArray []) 0) (List.toArray [])))
noncomputable def ho_155 : Params → Obj := (fun (P : Params) => (Obj.mk Value.none none (Data.func (fdat (stAt 11) (Str.ofString "digits_value") 0 [] Value.none Value.none Value.none Value.none none Value.none Value.none 0 rfl)) (List.toArray [])))
noncomputable def ho_115 : Params → Obj := (fun (P : Params) => (Obj.mk (Value.type "function") none (Data.func (fdat (mtAt 6 0) (Str.ofString "Token.__init__") 3 [] Value.none Value.none Value.none (Value.str (Str.ofString "moduleyard.scanner") 248) none (Value.ref 76) Value.none 0 rfl)) (List.toArray [])))
noncomputable def ho_147 : Params → Obj := (fun (P : Params) => (Obj.mk (Value.type "tuple") none (Data.seq (List.toArray []) 0) (List.toArray [])))
noncomputable def ho_131 : Params → Obj := (fun (P : Params) => (Obj.mk Value.none none (Data.fields (List.toArray [])) (List.toArray [])))
noncomputable def ho_102 : Params → Obj := (fun (P : Params) => (Obj.mk (Value.type "tuple") none (Data.seq (List.toArray []) 0) (List.toArray [])))
noncomputable def ho_134 : Params → Obj := (fun (P : Params) => (Obj.mk Value.none none (Data.func (fdat (stAt 8) (Str.ofString "is_letter") 0 [] Value.none Value.none Value.none Value.none none Value.none Value.none 0 rfl)) (List.toArray [])))
noncomputable def ho_118 : Params → Obj := (fun (P : Params) => (Obj.mk (Value.type "type") none (Data.cls (ClassData.mk (Str.ofString "Token") ((Value.type "object") :: []) ((Value.ref 80) :: (Value.type "object") :: []) 79 (Str.ofString "Token") true [] [] false none false)) (List.toArray (none :: none :: (some (Value.str (Str.ofString "Token") 254)) :: (some (Value.str (Str.ofString "Token") 262)) :: (some (Value.builtin "object.__new__")) :: (some (Value.bool true)) :: []))))
noncomputable def ho_150 : Params → Obj := (fun (P : Params) => (Obj.mk (Value.type "function") none (Data.func (fdat (stAt 10) (Str.ofString "is_hex_digit") 3 [] Value.none Value.none Value.none (Value.str (Str.ofString "moduleyard.scanner") 248) none (Value.ref 111) Value.none 0 rfl)) (List.toArray [])))
noncomputable def ho_110 : Params → Obj := (fun (P : Params) => (Obj.mk Value.none none (Data.fields (List.toArray [])) (List.toArray [])))
noncomputable def ho_142 : Params → Obj := (fun (P : Params) => (Obj.mk (Value.type "code") none (Data.fields (List.toArray ((Value.str (Str.ofString "is_digit") 300) :: (Value.str (Str.ofString "is_digit") 301) :: (Value.str (Str.ofString "/claim/cut.py") 302) :: (Value.int (34 : Int) 0) :: (Value.int (1 : Int) 0) :: (Value.int (0 : Int) 0) :: (Value.int (0 : Int) 0) :: (Value.int (3 : Int) 0) :: (Value.ref 99) :: (Value.bool true) :: (Value.int (181 : Int) 0) :: (Value.ref 100) :: Value.none :: (Value.ref 101) :: (Value.ref 102) :: (Value.ref 103) :: (Value.int (304 : Int) 0) :: (Value.int (34 : Int) 0) :: (Value.str (Str.ofString "/claim/cut.py") 305) :: []))) (List.toArray [])))
noncomputable def ho_126 : Params → Obj := (fun (P : Params) => (Obj.mk (Value.type "tuple") none (Data.seq (List.toArray []) 0) (List.toArray [])))
noncomputable def ho_101 : Params → Obj := (fun (P : Params) => (Obj.mk Value.none none (Data.fields (List.toArray ((Value.int (1 : Int) 0) :: (Value.int (0 : Int) 0) :: (Value.ref 20) :: (Value.int (5 : Int) 0) :: (Value.int (0 : Int) 0) :: (Value.ref 27) :: (Value.int (24 : Int) 0) :: (Value.int (0 : Int) 0) :: (Value.ref 69) :: (Value.int (30 : Int) 0) :: (Value.int (0 : Int) 0) :: (Value.ref 90) :: (Value.int (32 : Int) 0) :: (Value.int (0 : Int) 0) :: (Value.ref 97) :: (Value.int (34 : Int) 0) :: (Value.int (0 : Int) 0) :: (Value.ref 104) :: (Value.int (36 : Int) 0) :: (Value.int (0 : Int) 0) :: (Value.ref 111) :: (Value.int (38 : Int) 0) :: (Value.int (0 : Int) 0) :: (Value.ref 118) :: []))) (List.toArray [])))
noncomputable def ho_106 : Params → Obj := (fun (P : Params) => (Obj.mk Value.none none (Data.fields (List.toArray ((Value.int (26 : Int) 0) :: (Value.int (4 : Int) 0) :: (Value.ref 76) :: []))) (List.toArray [])))
noncomputable def ho_138 : Params → Obj := (fun (P : Params) => (Obj.mk Value.none none (Data.fields (List.toArray [])) (List.toArray [])))
noncomputable def ho_122 : Params → Obj := (fun (P : Params) => (Obj.mk (Value.type "builtin_function_or_method") none (Data.fields (List.toArray ((Value.builtin "object.__init_subclass__") :: (Value.ref 80) :: []))) (List.toArray [])))
noncomputable def ho_154 : Params → Obj := (fun (P : Params) => (Obj.mk (Value.type "tuple") none (Data.seq (List.toArray []) 0) (List.toArray [])))
noncomputable def ho_114 : Params → Obj := (fun (P : Params) => (Obj.mk (Value.type "code") none (Data.fields (List.toArray ((Value.str (Str.ofString "__init__") 266) :: (Value.str (Str.ofString "Token.__init__") 267) :: (Value.str (Str.ofString "/claim/cut.py") 268) :: (Value.int (26 : Int) 0) :: (Value.int (4 : Int) 0) :: (Value.int (0 : Int) 0) :: (Value.int (0 : Int) 0) :: (Value.int (3 : Int) 0) :: (Value.ref 71) :: (Value.bool true) :: (Value.int (181 : Int) 0) :: (Value.ref 72) :: Value.none :: (Value.ref 73) :: (Value.ref 74) :: (Value.ref 75) :: (Value.int (273 : Int) 0) :: (Value.int (26 : Int) 0) :: (Value.str (Str.ofString "/claim/cut.py") 274) :: []))) (List.toArray [])))
noncomputable def ho_146 : Params → Obj := (fun (P : Params) => (Obj.mk (Value.type "tuple") none (Data.seq (List.toArray ((Value.str (Str.ofString "char") 310) :: [])) 0) (List.toArray [])))
noncomputable def ho_130 : Params → Obj := (fun (P : Params) => (Obj.mk (Value.type "tuple") none (Data.seq (List.toArray []) 0) (List.toArray [])))
noncomputable def ho_104 : Params → Obj := (fun (P : Params) => (Obj.mk (Value.type "dict") none (Data.dict (List.toArray ((DictEntry.mk (PyData.keyHash P (Str.ofString "__module__")) (Value.str (Str.ofString "__module__") 261) (Value.str (Str.ofString "moduleyard.scanner") 248)) :: (DictEntry.mk (PyData.keyHash P (Str.ofString "__qualname__")) (Value.str (Str.ofString "__qualname__") 263) (Value.str (Str.ofString "Token") 262)) :: (DictEntry.mk (PyData.keyHash P (Str.ofString "__firstlineno__")) (Value.str (Str.ofString "__firstlineno__") 265) (Value.int (24 : Int) 264)) :: (DictEntry.mk (PyData.keyHash P (Str.ofString "__init__")) (Value.str (Str.ofString "__init__") 275) (Value.ref 77)) :: (DictEntry.mk (PyData.keyHash P (Str.ofString "__static_attributes__")) (Value.str (Str.ofString "__static_attributes__") 279) (Value.ref 78)) :: [])) 5) (List.toArray [])))
noncomputable def ho_136 : Params → Obj := (fun (P : Params) => (Obj.mk (Value.type "function") none (Data.func (fdat (stAt 8) (Str.ofString "is_letter") 3 [] Value.none Value.none Value.none (Value.str (Str.ofString "moduleyard.scanner") 248) none (Value.ref 97) Value.none 0 rfl)) (List.toArray [])))
noncomputable def ho_120 : Params → Obj := (fun (P : Params) => (Obj.mk (Value.type "getset_descriptor") none (Data.fields (List.toArray ((Value.str (Str.ofString "__weakref__") 282) :: (Value.ref 80) :: (Value.builtin "ExceptionGroup.__weakref__") :: Value.none :: []))) (List.toArray [])))
noncomputable def ho_152 : Params → Obj := (fun (P : Params) => (Obj.mk Value.none none (Data.fields (List.toArray [])) (List.toArray [])))
noncomputable def ho_112 : Params → Obj := (fun (P : Params) => (Obj.mk (Value.type "tuple") none (Data.seq (List.toArray []) 0) (List.toArray [])))
noncomputable def ho_144 : Params → Obj := (fun (P : Params) => (Obj.mk (Value.type "tuple") none (Data.seq (List.toArray []) 0) (List.toArray [])))
noncomputable def ho_128 : Params → Obj := (fun (P : Params) => (Obj.mk (Value.type "code") none (Data.fields (List.toArray ((Value.str (Str.ofString "keywords") 287) :: (Value.str (Str.ofString "keywords") 288) :: (Value.str (Str.ofString "/claim/cut.py") 289) :: (Value.int (30 : Int) 0) :: (Value.int (0 : Int) 0) :: (Value.int (0 : Int) 0) :: (Value.int (0 : Int) 0) :: (Value.int (3 : Int) 0) :: (Value.ref 85) :: (Value.bool true) :: (Value.int (181 : Int) 0) :: (Value.ref 86) :: Value.none :: (Value.ref 87) :: (Value.ref 88) :: (Value.ref 89) :: (Value.int (290 : Int) 0) :: (Value.int (30 : Int) 0) :: (Value.str (Str.ofString "/claim/cut.py") 291) :: []))) (List.toArray [])))
noncomputable def ho_108 : Params → Obj := (fun (P : Params) => (Obj.mk (Value.type "frame") none Data.plain (List.toArray ((some (Value.ref 69)) :: (some (Value.ref 3)) :: (some (Value.ref 66)) :: none :: (some (Value.str (Str.ofString "moduleyard.scanner") 248)) :: none :: (some (Value.ref 0)) :: []))))
noncomputable def ho_140 : Params → Obj := (fun (P : Params) => (Obj.mk (Value.type "tuple") none (Data.seq (List.toArray []) 0) (List.toArray [])))
noncomputable def ho_124 : Params → Obj := (fun (P : Params) => (Obj.mk Value.none none (Data.fields (List.toArray [])) (List.toArray [])))
noncomputable def ho_156 : Params → Obj := (fun (P : Params) => (Obj.mk (Value.type "code") none (Data.fields (List.toArray ((Value.str (Str.ofString "digits_value") 314) :: (Value.str (Str.ofString "digits_value") 315) :: (Value.str (Str.ofString "/claim/cut.py") 316) :: (Value.int (38 : Int) 0) :: (Value.int (3 : Int) 0) :: (Value.int (0 : Int) 0) :: (Value.int (0 : Int) 0) :: (Value.int (3 : Int) 0) :: (Value.ref 113) :: (Value.bool true) :: (Value.int (181 : Int) 0) :: (Value.ref 114) :: Value.none :: (Value.ref 115) :: (Value.ref 116) :: (Value.ref 117) :: (Value.int (322 : Int) 0) :: (Value.int (38 : Int) 0) :: (Value.str (Str.ofString "/claim/cut.py") 323) :: []))) (List.toArray [])))
noncomputable def ho_116 : Params → Obj := (fun (P : Params) => (Obj.mk (Value.type "tuple") none (Data.seq (List.toArray ((Value.str (Str.ofString "kind") 276) :: (Value.str (Str.ofString "place") 277) :: (Value.str (Str.ofString "value") 278) :: [])) 0) (List.toArray [])))
noncomputable def ho_148 : Params → Obj := (fun (P : Params) => (Obj.mk Value.none none (Data.func (fdat (stAt 10) (Str.ofString "is_hex_digit") 0 [] Value.none Value.none Value.none Value.none none Value.none Value.none 0 rfl)) (List.toArray [])))
noncomputable def ho_132 : Params → Obj := (fun (P : Params) => (Obj.mk (Value.type "tuple") none (Data.seq (List.toArray ((Value.str (Str.ofString "char") 296) :: [])) 0) (List.toArray [])))
noncomputable def tree_157 : Params → BT := (fun (P : Params) => (BT.node (boot_o_0 P) (BT.node (boot_o_1 P) (BT.node (ho_100 P) (BT.node (boot_o_7 P) (BT.node (ho_51 P) (BT.node (ho_67 P) (BT.node (ho_99 P) BT.nil BT.nil) (BT.node (ho_133 P) BT.nil BT.nil)) (BT.node (ho_83 P) (BT.node (ho_117 P) BT.nil BT.nil) (BT.node (ho_149 P) BT.nil BT.nil))) (BT.node (ho_59 P) (BT.node (ho_75 P) (BT.node (ho_109 P) BT.nil BT.nil) (BT.node (ho_141 P) BT.nil BT.nil)) (BT.node (ho_91 P) (BT.node (ho_125 P) BT.nil BT.nil) (BT.node (ho_157 P) BT.nil BT.nil)))) (BT.node (ho_43 P) (BT.node (ho_55 P) (BT.node (ho_71 P) (BT.node (ho_105 P) BT.nil BT.nil) (BT.node (ho_137 P) BT.nil BT.nil)) (BT.node (ho_87 P) (BT.node (ho_121 P) BT.nil BT.nil) (BT.node (ho_153 P) BT.nil BT.nil))) (BT.node (ho_63 P) (BT.node (ho_79 P) (BT.node (ho_113 P) BT.nil BT.nil) (BT.node (ho_145 P) BT.nil BT.nil)) (BT.node (ho_95 P) (BT.node (ho_129 P) BT.nil BT.nil) BT.nil)))) (BT.node (boot_o_5 P) (BT.node (boot_o_9 P) (BT.node (ho_53 P) (BT.node (ho_69 P) (BT.node (ho_103 P) BT.nil BT.nil) (BT.node (ho_135 P) BT.nil BT.nil)) (BT.node (ho_85 P) (BT.node (ho_119 P) BT.nil BT.nil) (BT.node (ho_151 P) BT.nil BT.nil))) (BT.node (ho_61 P) (BT.node (ho_77 P) (BT.node (ho_111 P) BT.nil BT.nil) (BT.node (ho_143 P) BT.nil BT.nil)) (BT.node (ho_93 P) (BT.node (ho_127 P) BT.nil BT.nil) BT.nil))) (BT.node (ho_45 P) (BT.node (ho_57 P) (BT.node (ho_73 P) (BT.node (ho_107 P) BT.nil BT.nil) (BT.node (ho_139 P) BT.nil BT.nil)) (BT.node (ho_89 P) (BT.node (ho_123 P) BT.nil BT.nil) (BT.node (ho_155 P) BT.nil BT.nil))) (BT.node (ho_65 P) (BT.node (ho_81 P) (BT.node (ho_115 P) BT.nil BT.nil) (BT.node (ho_147 P) BT.nil BT.nil)) (BT.node (ho_97 P) (BT.node (ho_131 P) BT.nil BT.nil) BT.nil))))) (BT.node (boot_o_2 P) (BT.node (boot_o_4 P) (BT.node (boot_o_8 P) (BT.node (ho_52 P) (BT.node (ho_68 P) (BT.node (ho_102 P) BT.nil BT.nil) (BT.node (ho_134 P) BT.nil BT.nil)) (BT.node (ho_84 P) (BT.node (ho_118 P) BT.nil BT.nil) (BT.node (ho_150 P) BT.nil BT.nil))) (BT.node (ho_60 P) (BT.node (ho_76 P) (BT.node (ho_110 P) BT.nil BT.nil) (BT.node (ho_142 P) BT.nil BT.nil)) (BT.node (ho_92 P) (BT.node (ho_126 P) BT.nil BT.nil) BT.nil))) (BT.node (ho_101 P) (BT.node (ho_56 P) (BT.node (ho_72 P) (BT.node (ho_106 P) BT.nil BT.nil) (BT.node (ho_138 P) BT.nil BT.nil)) (BT.node (ho_88 P) (BT.node (ho_122 P) BT.nil BT.nil) (BT.node (ho_154 P) BT.nil BT.nil))) (BT.node (ho_64 P) (BT.node (ho_80 P) (BT.node (ho_114 P) BT.nil BT.nil) (BT.node (ho_146 P) BT.nil BT.nil)) (BT.node (ho_96 P) (BT.node (ho_130 P) BT.nil BT.nil) BT.nil)))) (BT.node (boot_o_6 P) (BT.node (boot_o_10 P) (BT.node (ho_54 P) (BT.node (ho_70 P) (BT.node (ho_104 P) BT.nil BT.nil) (BT.node (ho_136 P) BT.nil BT.nil)) (BT.node (ho_86 P) (BT.node (ho_120 P) BT.nil BT.nil) (BT.node (ho_152 P) BT.nil BT.nil))) (BT.node (ho_62 P) (BT.node (ho_78 P) (BT.node (ho_112 P) BT.nil BT.nil) (BT.node (ho_144 P) BT.nil BT.nil)) (BT.node (ho_94 P) (BT.node (ho_128 P) BT.nil BT.nil) BT.nil))) (BT.node (ho_46 P) (BT.node (ho_58 P) (BT.node (ho_74 P) (BT.node (ho_108 P) BT.nil BT.nil) (BT.node (ho_140 P) BT.nil BT.nil)) (BT.node (ho_90 P) (BT.node (ho_124 P) BT.nil BT.nil) (BT.node (ho_156 P) BT.nil BT.nil))) (BT.node (ho_66 P) (BT.node (ho_82 P) (BT.node (ho_116 P) BT.nil BT.nil) (BT.node (ho_148 P) BT.nil BT.nil)) (BT.node (ho_98 P) (BT.node (ho_132 P) BT.nil BT.nil) BT.nil)))))))
noncomputable def sts_158 : List Stmt := ((stOf 12 rfl) :: [])
noncomputable def ho_158 : Params → Obj := (fun (P : Params) => (Obj.mk (Value.type "dict") none (Data.dict (List.toArray ((DictEntry.mk (PyData.keyHash P (Str.ofString "__name__")) (Value.str (Str.ofString "__name__") 165) (Value.str (Str.ofString "moduleyard.scanner") 248)) :: (DictEntry.mk (PyData.keyHash P (Str.ofString "__doc__")) (Value.str (Str.ofString "__doc__") 166) Value.none) :: (DictEntry.mk (PyData.keyHash P (Str.ofString "__package__")) (Value.str (Str.ofString "__package__") 167) Value.none) :: (DictEntry.mk (PyData.keyHash P (Str.ofString "__loader__")) (Value.str (Str.ofString "__loader__") 168) (Value.builtin "__main__.__loader__#opaque")) :: (DictEntry.mk (PyData.keyHash P (Str.ofString "__spec__")) (Value.str (Str.ofString "__spec__") 169) Value.none) :: (DictEntry.mk (PyData.keyHash P (Str.ofString "__annotations__")) (Value.str (Str.ofString "__annotations__") 170) (Value.ref 6)) :: (DictEntry.mk (PyData.keyHash P (Str.ofString "__builtins__")) (Value.str (Str.ofString "__builtins__") 171) (Value.ref 4)) :: (DictEntry.mk (PyData.keyHash P (Str.ofString "__file__")) (Value.str (Str.ofString "__file__") 173) (Value.str (Str.ofString "/claim/cut.py") 172)) :: (DictEntry.mk (PyData.keyHash P (Str.ofString "__cached__")) (Value.str (Str.ofString "__cached__") 174) Value.none) :: (DictEntry.mk (PyData.keyHash P (Str.ofString "_wall")) (Value.str (Str.ofString "_wall") 193) (Value.ref 21)) :: (DictEntry.mk (PyData.keyHash P (Str.ofString "ErrorList")) (Value.str (Str.ofString "ErrorList") 247) (Value.ref 59)) :: (DictEntry.mk (PyData.keyHash P (Str.ofString "MOST_INTEGER")) (Value.str (Str.ofString "MOST_INTEGER") 251) (Value.int (2147483647 : Int) 250)) :: (DictEntry.mk (PyData.keyHash P (Str.ofString "MOST_WORD")) (Value.str (Str.ofString "MOST_WORD") 253) (Value.int (4294967295 : Int) 252)) :: (DictEntry.mk (PyData.keyHash P (Str.ofString "Token")) (Value.str (Str.ofString "Token") 286) (Value.ref 80)) :: (DictEntry.mk (PyData.keyHash P (Str.ofString "keywords")) (Value.str (Str.ofString "keywords") 292) (Value.ref 91)) :: (DictEntry.mk (PyData.keyHash P (Str.ofString "is_letter")) (Value.str (Str.ofString "is_letter") 299) (Value.ref 98)) :: (DictEntry.mk (PyData.keyHash P (Str.ofString "is_digit")) (Value.str (Str.ofString "is_digit") 306) (Value.ref 105)) :: (DictEntry.mk (PyData.keyHash P (Str.ofString "is_hex_digit")) (Value.str (Str.ofString "is_hex_digit") 313) (Value.ref 112)) :: (DictEntry.mk (PyData.keyHash P (Str.ofString "digits_value")) (Value.str (Str.ofString "digits_value") 324) (Value.ref 119)) :: (DictEntry.mk (PyData.keyHash P (Str.ofString "Scanner")) (Value.str (Str.ofString "Scanner") 480) (Value.ref 228)) :: [])) 20) (List.toArray [])))
noncomputable def ho_167 : Params → Obj := (fun (P : Params) => (Obj.mk (Value.type "tuple") none (Data.seq (List.toArray []) 0) (List.toArray [])))
noncomputable def ho_231 : Params → Obj := (fun (P : Params) => (Obj.mk (Value.type "tuple") none (Data.seq (List.toArray []) 0) (List.toArray [])))
noncomputable def ho_199 : Params → Obj := (fun (P : Params) => (Obj.mk (Value.type "tuple") none (Data.seq (List.toArray []) 0) (List.toArray [])))
noncomputable def ho_263 : Params → Obj := (fun (P : Params) => (Obj.mk Value.none none (Data.func (fdat (mtAt 12 13) (Str.ofString "Scanner.symbol") 0 [] Value.none Value.none Value.none Value.none none Value.none Value.none 0 rfl)) (List.toArray [])))
noncomputable def ho_183 : Params → Obj := (fun (P : Params) => (Obj.mk Value.none none (Data.fields (List.toArray [])) (List.toArray [])))
noncomputable def ho_247 : Params → Obj := (fun (P : Params) => (Obj.mk (Value.type "tuple") none (Data.seq (List.toArray ((Value.str (Str.ofString "self") 447) :: [])) 0) (List.toArray [])))
noncomputable def ho_215 : Params → Obj := (fun (P : Params) => (Obj.mk (Value.type "code") none (Data.fields (List.toArray ((Value.str (Str.ofString "numeral") 393) :: (Value.str (Str.ofString "Scanner.numeral") 394) :: (Value.str (Str.ofString "/claim/cut.py") 395) :: (Value.int (114 : Int) 0) :: (Value.int (2 : Int) 0) :: (Value.int (0 : Int) 0) :: (Value.int (0 : Int) 0) :: (Value.int (3 : Int) 0) :: (Value.ref 170) :: (Value.bool true) :: (Value.int (181 : Int) 0) :: (Value.ref 171) :: Value.none :: (Value.ref 172) :: (Value.ref 173) :: (Value.ref 174) :: (Value.int (402 : Int) 0) :: (Value.int (114 : Int) 0) :: (Value.str (Str.ofString "/claim/cut.py") 403) :: []))) (List.toArray [])))
noncomputable def ho_175 : Params → Obj := (fun (P : Params) => (Obj.mk (Value.type "tuple") none (Data.seq (List.toArray []) 0) (List.toArray [])))
noncomputable def ho_239 : Params → Obj := (fun (P : Params) => (Obj.mk Value.none none (Data.fields (List.toArray [])) (List.toArray [])))
noncomputable def ho_207 : Params → Obj := (fun (P : Params) => (Obj.mk Value.none none (Data.func (fdat (mtAt 12 5) (Str.ofString "Scanner.word") 0 [] Value.none Value.none Value.none Value.none none Value.none Value.none 0 rfl)) (List.toArray [])))
noncomputable def ho_271 : Params → Obj := (fun (P : Params) => (Obj.mk (Value.type "super") none (Data.fields (List.toArray ((Value.ref 228) :: (Value.ref 228) :: (Value.ref 228) :: []))) (List.toArray [])))
noncomputable def ho_191 : Params → Obj := (fun (P : Params) => (Obj.mk (Value.type "tuple") none (Data.seq (List.toArray ((Value.str (Str.ofString "self") 368) :: (Value.str (Str.ofString "char") 369) :: [])) 0) (List.toArray [])))
noncomputable def ho_255 : Params → Obj := (fun (P : Params) => (Obj.mk (Value.type "tuple") none (Data.seq (List.toArray []) 0) (List.toArray [])))
noncomputable def ho_223 : Params → Obj := (fun (P : Params) => (Obj.mk (Value.type "function") none (Data.func (fdat (mtAt 12 7) (Str.ofString "Scanner.whole") 3 [] Value.none Value.none Value.none (Value.str (Str.ofString "moduleyard.scanner") 248) none (Value.ref 182) Value.none 0 rfl)) (List.toArray [])))
noncomputable def ho_171 : Params → Obj := (fun (P : Params) => (Obj.mk Value.none none (Data.func (fdat (mtAt 12 0) (Str.ofString "Scanner.__init__") 0 [] Value.none Value.none Value.none Value.none none Value.none Value.none 0 rfl)) (List.toArray [])))
noncomputable def ho_235 : Params → Obj := (fun (P : Params) => (Obj.mk Value.none none (Data.func (fdat (mtAt 12 9) (Str.ofString "Scanner.character") 0 [] Value.none Value.none Value.none Value.none none Value.none Value.none 0 rfl)) (List.toArray [])))
noncomputable def ho_203 : Params → Obj := (fun (P : Params) => (Obj.mk (Value.type "tuple") none (Data.seq (List.toArray []) 0) (List.toArray [])))
noncomputable def ho_267 : Params → Obj := (fun (P : Params) => (Obj.mk (Value.type "dict") none (Data.dict (List.toArray ((DictEntry.mk (PyData.keyHash P (Str.ofString "__module__")) (Value.str (Str.ofString "__module__") 332) (Value.str (Str.ofString "moduleyard.scanner") 248)) :: (DictEntry.mk (PyData.keyHash P (Str.ofString "__firstlineno__")) (Value.str (Str.ofString "__firstlineno__") 336) (Value.int (45 : Int) 335)) :: (DictEntry.mk (PyData.keyHash P (Str.ofString "__init__")) (Value.str (Str.ofString "__init__") 345) (Value.ref 133)) :: (DictEntry.mk (PyData.keyHash P (Str.ofString "char")) (Value.str (Str.ofString "char") 354) (Value.ref 141)) :: (DictEntry.mk (PyData.keyHash P (Str.ofString "take")) (Value.str (Str.ofString "take") 364) (Value.ref 148)) :: (DictEntry.mk (PyData.keyHash P (Str.ofString "skip")) (Value.str (Str.ofString "skip") 372) (Value.ref 155)) :: (DictEntry.mk (PyData.keyHash P (Str.ofString "remark")) (Value.str (Str.ofString "remark") 382) (Value.ref 162)) :: (DictEntry.mk (PyData.keyHash P (Str.ofString "word")) (Value.str (Str.ofString "word") 392) (Value.ref 169)) :: (DictEntry.mk (PyData.keyHash P (Str.ofString "numeral")) (Value.str (Str.ofString "numeral") 404) (Value.ref 176)) :: (DictEntry.mk (PyData.keyHash P (Str.ofString "whole")) (Value.str (Str.ofString "whole") 414) (Value.ref 183)) :: (DictEntry.mk (PyData.keyHash P (Str.ofString "hexadecimal")) (Value.str (Str.ofString "hexadecimal") 424) (Value.ref 190)) :: (DictEntry.mk (PyData.keyHash P (Str.ofString "character")) (Value.str (Str.ofString "character") 434) (Value.ref 197)) :: (DictEntry.mk (PyData.keyHash P (Str.ofString "real")) (Value.str (Str.ofString "real") 443) (Value.ref 204)) :: (DictEntry.mk (PyData.keyHash P (Str.ofString "skip_digits")) (Value.str (Str.ofString "skip_digits") 450) (Value.ref 211)) :: (DictEntry.mk (PyData.keyHash P (Str.ofString "string")) (Value.str (Str.ofString "string") 460) (Value.ref 218)) :: (DictEntry.mk (PyData.keyHash P (Str.ofString "symbol")) (Value.str (Str.ofString "symbol") 468) (Value.ref 225)) :: (DictEntry.mk (PyData.keyHash P (Str.ofString "__static_attributes__")) (Value.str (Str.ofString "__static_attributes__") 473) (Value.ref 226)) :: (DictEntry.mk (PyData.keyHash P (Str.ofString "__dict__")) (Value.str (Str.ofString "__dict__") 475) (Value.ref 229)) :: (DictEntry.mk (PyData.keyHash P (Str.ofString "__weakref__")) (Value.str (Str.ofString "__weakref__") 477) (Value.ref 230)) :: (DictEntry.mk (PyData.keyHash P (Str.ofString "__doc__")) (Value.str (Str.ofString "__doc__") 478) Value.none) :: [])) 4) (List.toArray [])))
noncomputable def ho_187 : Params → Obj := (fun (P : Params) => (Obj.mk (Value.type "code") none (Data.fields (List.toArray ((Value.str (Str.ofString "take") 355) :: (Value.str (Str.ofString "Scanner.take") 356) :: (Value.str (Str.ofString "/claim/cut.py") 357) :: (Value.int (56 : Int) 0) :: (Value.int (1 : Int) 0) :: (Value.int (0 : Int) 0) :: (Value.int (0 : Int) 0) :: (Value.int (3 : Int) 0) :: (Value.ref 142) :: (Value.bool true) :: (Value.int (181 : Int) 0) :: (Value.ref 143) :: Value.none :: (Value.ref 144) :: (Value.ref 145) :: (Value.ref 146) :: (Value.int (362 : Int) 0) :: (Value.int (56 : Int) 0) :: (Value.str (Str.ofString "/claim/cut.py") 363) :: []))) (List.toArray [])))
noncomputable def ho_251 : Params → Obj := (fun (P : Params) => (Obj.mk (Value.type "function") none (Data.func (fdat (mtAt 12 11) (Str.ofString "Scanner.skip_digits") 3 [] Value.none Value.none Value.none (Value.str (Str.ofString "moduleyard.scanner") 248) none (Value.ref 210) Value.none 0 rfl)) (List.toArray [])))
noncomputable def ho_219 : Params → Obj := (fun (P : Params) => (Obj.mk (Value.type "tuple") none (Data.seq (List.toArray ((Value.str (Str.ofString "self") 408) :: (Value.str (Str.ofString "begun") 409) :: (Value.str (Str.ofString "value") 410) :: (Value.str (Str.ofString "most") 411) :: [])) 0) (List.toArray [])))
noncomputable def ho_179 : Params → Obj := (fun (P : Params) => (Obj.mk Value.none none (Data.func (fdat (mtAt 12 1) (Str.ofString "Scanner.char") 0 [] Value.none Value.none Value.none Value.none none Value.none Value.none 0 rfl)) (List.toArray [])))
noncomputable def ho_243 : Params → Obj := (fun (P : Params) => (Obj.mk (Value.type "code") none (Data.fields (List.toArray ((Value.str (Str.ofString "real") 435) :: (Value.str (Str.ofString "Scanner.real") 436) :: (Value.str (Str.ofString "/claim/cut.py") 437) :: (Value.int (153 : Int) 0) :: (Value.int (2 : Int) 0) :: (Value.int (0 : Int) 0) :: (Value.int (0 : Int) 0) :: (Value.int (3 : Int) 0) :: (Value.ref 198) :: (Value.bool true) :: (Value.int (181 : Int) 0) :: (Value.ref 199) :: Value.none :: (Value.ref 200) :: (Value.ref 201) :: (Value.ref 202) :: (Value.int (441 : Int) 0) :: (Value.int (153 : Int) 0) :: (Value.str (Str.ofString "/claim/cut.py") 442) :: []))) (List.toArray [])))
noncomputable def ho_211 : Params → Obj := (fun (P : Params) => (Obj.mk Value.none none (Data.fields (List.toArray [])) (List.toArray [])))
noncomputable def ho_195 : Params → Obj := (fun (P : Params) => (Obj.mk (Value.type "function") none (Data.func (fdat (mtAt 12 3) (Str.ofString "Scanner.skip") 3 [] Value.none Value.none Value.none (Value.str (Str.ofString "moduleyard.scanner") 248) none (Value.ref 154) Value.none 0 rfl)) (List.toArray [])))
noncomputable def ho_259 : Params → Obj := (fun (P : Params) => (Obj.mk (Value.type "tuple") none (Data.seq (List.toArray []) 0) (List.toArray [])))
noncomputable def ho_163 : Params → Obj := (fun (P : Params) => (Obj.mk (Value.type "tuple") none (Data.seq (List.toArray []) 0) (List.toArray [])))
noncomputable def ho_227 : Params → Obj := (fun (P : Params) => (Obj.mk (Value.type "tuple") none (Data.seq (List.toArray []) 0) (List.toArray [])))
noncomputable def ho_169 : Params → Obj := (fun (P : Params) => (Obj.mk (Value.type "tuple") none (Data.seq (List.toArray ((Value.str (Str.ofString "self") 340) :: (Value.str (Str.ofString "source") 341) :: (Value.str (Str.ofString "errors") 342) :: [])) 0) (List.toArray [])))
noncomputable def ho_233 : Params → Obj := (fun (P : Params) => (Obj.mk (Value.type "tuple") none (Data.seq (List.toArray ((Value.str (Str.ofString "self") 428) :: (Value.str (Str.ofString "begun") 429) :: (Value.str (Str.ofString "digits") 430) :: (Value.str (Str.ofString "value") 431) :: [])) 0) (List.toArray [])))
noncomputable def ho_201 : Params → Obj := (fun (P : Params) => (Obj.mk (Value.type "code") none (Data.fields (List.toArray ((Value.str (Str.ofString "remark") 373) :: (Value.str (Str.ofString "Scanner.remark") 374) :: (Value.str (Str.ofString "/claim/cut.py") 375) :: (Value.int (86 : Int) 0) :: (Value.int (1 : Int) 0) :: (Value.int (0 : Int) 0) :: (Value.int (0 : Int) 0) :: (Value.int (3 : Int) 0) :: (Value.ref 156) :: (Value.bool true) :: (Value.int (181 : Int) 0) :: (Value.ref 157) :: Value.none :: (Value.ref 158) :: (Value.ref 159) :: (Value.ref 160) :: (Value.int (380 : Int) 0) :: (Value.int (86 : Int) 0) :: (Value.str (Str.ofString "/claim/cut.py") 381) :: []))) (List.toArray [])))
noncomputable def ho_265 : Params → Obj := (fun (P : Params) => (Obj.mk (Value.type "function") none (Data.func (fdat (mtAt 12 13) (Str.ofString "Scanner.symbol") 3 [] Value.none Value.none Value.none (Value.str (Str.ofString "moduleyard.scanner") 248) none (Value.ref 224) Value.none 0 rfl)) (List.toArray [])))
noncomputable def ho_185 : Params → Obj := (fun (P : Params) => (Obj.mk (Value.type "tuple") none (Data.seq (List.toArray []) 0) (List.toArray [])))
noncomputable def ho_249 : Params → Obj := (fun (P : Params) => (Obj.mk Value.none none (Data.func (fdat (mtAt 12 11) (Str.ofString "Scanner.skip_digits") 0 [] Value.none Value.none Value.none Value.none none Value.none Value.none 0 rfl)) (List.toArray [])))
noncomputable def ho_217 : Params → Obj := (fun (P : Params) => (Obj.mk (Value.type "tuple") none (Data.seq (List.toArray []) 0) (List.toArray [])))
noncomputable def ho_177 : Params → Obj := (fun (P : Params) => (Obj.mk (Value.type "tuple") none (Data.seq (List.toArray ((Value.str (Str.ofString "self") 350) :: (Value.str (Str.ofString "ahead") 351) :: [])) 0) (List.toArray [])))
noncomputable def ho_241 : Params → Obj := (fun (P : Params) => (Obj.mk (Value.type "tuple") none (Data.seq (List.toArray []) 0) (List.toArray [])))
noncomputable def ho_209 : Params → Obj := (fun (P : Params) => (Obj.mk (Value.type "function") none (Data.func (fdat (mtAt 12 5) (Str.ofString "Scanner.word") 3 [] Value.none Value.none Value.none (Value.str (Str.ofString "moduleyard.scanner") 248) none (Value.ref 168) Value.none 0 rfl)) (List.toArray [])))
noncomputable def ho_193 : Params → Obj := (fun (P : Params) => (Obj.mk Value.none none (Data.func (fdat (mtAt 12 3) (Str.ofString "Scanner.skip") 0 [] Value.none Value.none Value.none Value.none none Value.none Value.none 0 rfl)) (List.toArray [])))
noncomputable def ho_257 : Params → Obj := (fun (P : Params) => (Obj.mk (Value.type "code") none (Data.fields (List.toArray ((Value.str (Str.ofString "string") 451) :: (Value.str (Str.ofString "Scanner.string") 452) :: (Value.str (Str.ofString "/claim/cut.py") 453) :: (Value.int (170 : Int) 0) :: (Value.int (2 : Int) 0) :: (Value.int (0 : Int) 0) :: (Value.int (0 : Int) 0) :: (Value.int (3 : Int) 0) :: (Value.ref 212) :: (Value.bool true) :: (Value.int (181 : Int) 0) :: (Value.ref 213) :: Value.none :: (Value.ref 214) :: (Value.ref 215) :: (Value.ref 216) :: (Value.int (458 : Int) 0) :: (Value.int (170 : Int) 0) :: (Value.str (Str.ofString "/claim/cut.py") 459) :: []))) (List.toArray [])))
noncomputable def ho_161 : Params → Obj := (fun (P : Params) => (Obj.mk (Value.type "builtin_function_or_method") none (Data.fields (List.toArray ((Value.builtin "type.__prepare__") :: (Value.type "type") :: []))) (List.toArray [])))
noncomputable def ho_225 : Params → Obj := (fun (P : Params) => (Obj.mk Value.none none (Data.fields (List.toArray [])) (List.toArray [])))
noncomputable def ho_173 : Params → Obj := (fun (P : Params) => (Obj.mk (Value.type "function") none (Data.func (fdat (mtAt 12 0) (Str.ofString "Scanner.__init__") 3 [] Value.none Value.none Value.none (Value.str (Str.ofString "moduleyard.scanner") 248) none (Value.ref 132) Value.none 0 rfl)) (List.toArray [])))
noncomputable def ho_237 : Params → Obj := (fun (P : Params) => (Obj.mk (Value.type "function") none (Data.func (fdat (mtAt 12 9) (Str.ofString "Scanner.character") 3 [] Value.none Value.none Value.none (Value.str (Str.ofString "moduleyard.scanner") 248) none (Value.ref 196) Value.none 0 rfl)) (List.toArray [])))
noncomputable def ho_205 : Params → Obj := (fun (P : Params) => (Obj.mk (Value.type "tuple") none (Data.seq (List.toArray ((Value.str (Str.ofString "self") 386) :: (Value.str (Str.ofString "begun") 387) :: (Value.str (Str.ofString "end") 388) :: (Value.str (Str.ofString "name") 389) :: [])) 0) (List.toArray [])))
noncomputable def ho_269 : Params → Obj := (fun (P : Params) => (Obj.mk (Value.type "getset_descriptor") none (Data.fields (List.toArray ((Value.str (Str.ofString "__dict__") 474) :: (Value.ref 228) :: (Value.builtin "function.__dict__") :: (Value.builtin "function.__dict__#set") :: []))) (List.toArray [])))
noncomputable def ho_189 : Params → Obj := (fun (P : Params) => (Obj.mk (Value.type "tuple") none (Data.seq (List.toArray []) 0) (List.toArray [])))
noncomputable def ho_253 : Params → Obj := (fun (P : Params) => (Obj.mk Value.none none (Data.fields (List.toArray [])) (List.toArray [])))
noncomputable def ho_221 : Params → Obj := (fun (P : Params) => (Obj.mk Value.none none (Data.func (fdat (mtAt 12 7) (Str.ofString "Scanner.whole") 0 [] Value.none Value.none Value.none Value.none none Value.none Value.none 0 rfl)) (List.toArray [])))
noncomputable def ho_181 : Params → Obj := (fun (P : Params) => (Obj.mk (Value.type "function") none (Data.func (fdat (mtAt 12 1) (Str.ofString "Scanner.char") 3 [] (Value.ref 134) Value.none Value.none (Value.str (Str.ofString "moduleyard.scanner") 248) none (Value.ref 140) Value.none 0 rfl)) (List.toArray [])))
noncomputable def ho_245 : Params → Obj := (fun (P : Params) => (Obj.mk (Value.type "tuple") none (Data.seq (List.toArray []) 0) (List.toArray [])))
noncomputable def ho_213 : Params → Obj := (fun (P : Params) => (Obj.mk (Value.type "tuple") none (Data.seq (List.toArray []) 0) (List.toArray [])))
noncomputable def ho_197 : Params → Obj := (fun (P : Params) => (Obj.mk Value.none none (Data.fields (List.toArray [])) (List.toArray [])))
noncomputable def ho_261 : Params → Obj := (fun (P : Params) => (Obj.mk (Value.type "tuple") none (Data.seq (List.toArray ((Value.str (Str.ofString "self") 464) :: (Value.str (Str.ofString "pair") 465) :: [])) 0) (List.toArray [])))
noncomputable def ho_165 : Params → Obj := (fun (P : Params) => (Obj.mk (Value.type "code") none (Data.fields (List.toArray ((Value.str (Str.ofString "Scanner") 327) :: (Value.str (Str.ofString "Scanner") 328) :: (Value.str (Str.ofString "/claim/cut.py") 329) :: (Value.int (45 : Int) 0) :: (Value.int (0 : Int) 0) :: (Value.int (0 : Int) 0) :: (Value.int (0 : Int) 0) :: (Value.int (0 : Int) 0) :: (Value.ref 123) :: (Value.bool false) :: (Value.int (181 : Int) 0) :: (Value.ref 124) :: Value.none :: Value.none :: Value.none :: Value.none :: (Value.int (330 : Int) 0) :: (Value.int (45 : Int) 0) :: (Value.str (Str.ofString "/claim/cut.py") 331) :: []))) (List.toArray [])))
noncomputable def ho_229 : Params → Obj := (fun (P : Params) => (Obj.mk (Value.type "code") none (Data.fields (List.toArray ((Value.str (Str.ofString "hexadecimal") 415) :: (Value.str (Str.ofString "Scanner.hexadecimal") 416) :: (Value.str (Str.ofString "/claim/cut.py") 417) :: (Value.int (140 : Int) 0) :: (Value.int (3 : Int) 0) :: (Value.int (0 : Int) 0) :: (Value.int (0 : Int) 0) :: (Value.int (3 : Int) 0) :: (Value.ref 184) :: (Value.bool true) :: (Value.int (181 : Int) 0) :: (Value.ref 185) :: Value.none :: (Value.ref 186) :: (Value.ref 187) :: (Value.ref 188) :: (Value.int (422 : Int) 0) :: (Value.int (140 : Int) 0) :: (Value.str (Str.ofString "/claim/cut.py") 423) :: []))) (List.toArray [])))
noncomputable def ho_168 : Params → Obj := (fun (P : Params) => (Obj.mk Value.none none (Data.fields (List.toArray [])) (List.toArray [])))
noncomputable def ho_232 : Params → Obj := (fun (P : Params) => (Obj.mk Value.none none (Data.fields (List.toArray [])) (List.toArray [])))
noncomputable def ho_200 : Params → Obj := (fun (P : Params) => (Obj.mk Value.none none (Data.func (fdat (mtAt 12 4) (Str.ofString "Scanner.remark") 0 [] Value.none Value.none Value.none Value.none none Value.none Value.none 0 rfl)) (List.toArray [])))
noncomputable def ho_264 : Params → Obj := (fun (P : Params) => (Obj.mk (Value.type "code") none (Data.fields (List.toArray ((Value.str (Str.ofString "symbol") 461) :: (Value.str (Str.ofString "Scanner.symbol") 462) :: (Value.str (Str.ofString "/claim/cut.py") 463) :: (Value.int (186 : Int) 0) :: (Value.int (1 : Int) 0) :: (Value.int (0 : Int) 0) :: (Value.int (0 : Int) 0) :: (Value.int (3 : Int) 0) :: (Value.ref 219) :: (Value.bool true) :: (Value.int (181 : Int) 0) :: (Value.ref 220) :: Value.none :: (Value.ref 221) :: (Value.ref 222) :: (Value.ref 223) :: (Value.int (466 : Int) 0) :: (Value.int (186 : Int) 0) :: (Value.str (Str.ofString "/claim/cut.py") 467) :: []))) (List.toArray [])))
noncomputable def ho_184 : Params → Obj := (fun (P : Params) => (Obj.mk (Value.type "tuple") none (Data.seq (List.toArray ((Value.str (Str.ofString "self") 358) :: (Value.str (Str.ofString "begun") 359) :: (Value.str (Str.ofString "char") 360) :: (Value.str (Str.ofString "symbol") 361) :: [])) 0) (List.toArray [])))
noncomputable def ho_248 : Params → Obj := (fun (P : Params) => (Obj.mk (Value.type "tuple") none (Data.seq (List.toArray []) 0) (List.toArray [])))
noncomputable def ho_216 : Params → Obj := (fun (P : Params) => (Obj.mk (Value.type "function") none (Data.func (fdat (mtAt 12 6) (Str.ofString "Scanner.numeral") 3 [] Value.none Value.none Value.none (Value.str (Str.ofString "moduleyard.scanner") 248) none (Value.ref 175) Value.none 0 rfl)) (List.toArray [])))
noncomputable def ho_176 : Params → Obj := (fun (P : Params) => (Obj.mk Value.none none (Data.fields (List.toArray [])) (List.toArray [])))
noncomputable def ho_240 : Params → Obj := (fun (P : Params) => (Obj.mk (Value.type "tuple") none (Data.seq (List.toArray ((Value.str (Str.ofString "self") 438) :: (Value.str (Str.ofString "begun") 439) :: (Value.str (Str.ofString "sign") 440) :: [])) 0) (List.toArray [])))
noncomputable def ho_208 : Params → Obj := (fun (P : Params) => (Obj.mk (Value.type "code") none (Data.fields (List.toArray ((Value.str (Str.ofString "word") 383) :: (Value.str (Str.ofString "Scanner.word") 384) :: (Value.str (Str.ofString "/claim/cut.py") 385) :: (Value.int (104 : Int) 0) :: (Value.int (2 : Int) 0) :: (Value.int (0 : Int) 0) :: (Value.int (0 : Int) 0) :: (Value.int (3 : Int) 0) :: (Value.ref 163) :: (Value.bool true) :: (Value.int (181 : Int) 0) :: (Value.ref 164) :: Value.none :: (Value.ref 165) :: (Value.ref 166) :: (Value.ref 167) :: (Value.int (390 : Int) 0) :: (Value.int (104 : Int) 0) :: (Value.str (Str.ofString "/claim/cut.py") 391) :: []))) (List.toArray [])))
noncomputable def ho_272 : Params → Obj := (fun (P : Params) => (Obj.mk (Value.type "builtin_function_or_method") none (Data.fields (List.toArray ((Value.builtin "object.__init_subclass__") :: (Value.ref 228) :: []))) (List.toArray [])))
noncomputable def ho_192 : Params → Obj := (fun (P : Params) => (Obj.mk (Value.type "tuple") none (Data.seq (List.toArray []) 0) (List.toArray [])))
noncomputable def ho_256 : Params → Obj := (fun (P : Params) => (Obj.mk Value.none none (Data.func (fdat (mtAt 12 12) (Str.ofString "Scanner.string") 0 [] Value.none Value.none Value.none Value.none none Value.none Value.none 0 rfl)) (List.toArray [])))
noncomputable def ho_160 : Params → Obj := (fun (P : Params) => (Obj.mk (Value.type "tuple") none (Data.seq (List.toArray []) 0) (List.toArray [])))
noncomputable def ho_224 : Params → Obj := (fun (P : Params) => (Obj.mk (Value.type "tuple") none (Data.seq (List.toArray []) 0) (List.toArray [])))
noncomputable def ho_159 : Params → Obj := (fun (P : Params) => (Obj.mk Value.none none (Data.fields (List.toArray ((Value.int (1 : Int) 0) :: (Value.int (0 : Int) 0) :: (Value.ref 20) :: (Value.int (5 : Int) 0) :: (Value.int (0 : Int) 0) :: (Value.ref 27) :: (Value.int (24 : Int) 0) :: (Value.int (0 : Int) 0) :: (Value.ref 69) :: (Value.int (30 : Int) 0) :: (Value.int (0 : Int) 0) :: (Value.ref 90) :: (Value.int (32 : Int) 0) :: (Value.int (0 : Int) 0) :: (Value.ref 97) :: (Value.int (34 : Int) 0) :: (Value.int (0 : Int) 0) :: (Value.ref 104) :: (Value.int (36 : Int) 0) :: (Value.int (0 : Int) 0) :: (Value.ref 111) :: (Value.int (38 : Int) 0) :: (Value.int (0 : Int) 0) :: (Value.ref 118) :: (Value.int (45 : Int) 0) :: (Value.int (0 : Int) 0) :: (Value.ref 125) :: []))) (List.toArray [])))
noncomputable def ho_172 : Params → Obj := (fun (P : Params) => (Obj.mk (Value.type "code") none (Data.fields (List.toArray ((Value.str (Str.ofString "__init__") 337) :: (Value.str (Str.ofString "Scanner.__init__") 338) :: (Value.str (Str.ofString "/claim/cut.py") 339) :: (Value.int (47 : Int) 0) :: (Value.int (3 : Int) 0) :: (Value.int (0 : Int) 0) :: (Value.int (0 : Int) 0) :: (Value.int (3 : Int) 0) :: (Value.ref 127) :: (Value.bool true) :: (Value.int (181 : Int) 0) :: (Value.ref 128) :: Value.none :: (Value.ref 129) :: (Value.ref 130) :: (Value.ref 131) :: (Value.int (343 : Int) 0) :: (Value.int (47 : Int) 0) :: (Value.str (Str.ofString "/claim/cut.py") 344) :: []))) (List.toArray [])))
noncomputable def ho_236 : Params → Obj := (fun (P : Params) => (Obj.mk (Value.type "code") none (Data.fields (List.toArray ((Value.str (Str.ofString "character") 425) :: (Value.str (Str.ofString "Scanner.character") 426) :: (Value.str (Str.ofString "/claim/cut.py") 427) :: (Value.int (146 : Int) 0) :: (Value.int (3 : Int) 0) :: (Value.int (0 : Int) 0) :: (Value.int (0 : Int) 0) :: (Value.int (3 : Int) 0) :: (Value.ref 191) :: (Value.bool true) :: (Value.int (181 : Int) 0) :: (Value.ref 192) :: Value.none :: (Value.ref 193) :: (Value.ref 194) :: (Value.ref 195) :: (Value.int (432 : Int) 0) :: (Value.int (146 : Int) 0) :: (Value.str (Str.ofString "/claim/cut.py") 433) :: []))) (List.toArray [])))
noncomputable def ho_204 : Params → Obj := (fun (P : Params) => (Obj.mk Value.none none (Data.fields (List.toArray [])) (List.toArray [])))
noncomputable def ho_268 : Params → Obj := (fun (P : Params) => (Obj.mk (Value.type "type") none (Data.cls (ClassData.mk (Str.ofString "Scanner") ((Value.type "object") :: []) ((Value.ref 228) :: (Value.type "object") :: []) 227 (Str.ofString "Scanner") true [] [] false none false)) (List.toArray (none :: none :: (some (Value.str (Str.ofString "Scanner") 325)) :: (some (Value.str (Str.ofString "Scanner") 333)) :: (some (Value.builtin "object.__new__")) :: (some (Value.bool true)) :: []))))
noncomputable def ho_188 : Params → Obj := (fun (P : Params) => (Obj.mk (Value.type "function") none (Data.func (fdat (mtAt 12 2) (Str.ofString "Scanner.take") 3 [] Value.none Value.none Value.none (Value.str (Str.ofString "moduleyard.scanner") 248) none (Value.ref 147) Value.none 0 rfl)) (List.toArray [])))
noncomputable def ho_252 : Params → Obj := (fun (P : Params) => (Obj.mk (Value.type "tuple") none (Data.seq (List.toArray []) 0) (List.toArray [])))
noncomputable def ho_220 : Params → Obj := (fun (P : Params) => (Obj.mk (Value.type "tuple") none (Data.seq (List.toArray []) 0) (List.toArray [])))
noncomputable def ho_180 : Params → Obj := (fun (P : Params) => (Obj.mk (Value.type "code") none (Data.fields (List.toArray ((Value.str (Str.ofString "char") 347) :: (Value.str (Str.ofString "Scanner.char") 348) :: (Value.str (Str.ofString "/claim/cut.py") 349) :: (Value.int (53 : Int) 0) :: (Value.int (2 : Int) 0) :: (Value.int (0 : Int) 0) :: (Value.int (0 : Int) 0) :: (Value.int (3 : Int) 0) :: (Value.ref 135) :: (Value.bool true) :: (Value.int (181 : Int) 0) :: (Value.ref 136) :: Value.none :: (Value.ref 137) :: (Value.ref 138) :: (Value.ref 139) :: (Value.int (352 : Int) 0) :: (Value.int (53 : Int) 0) :: (Value.str (Str.ofString "/claim/cut.py") 353) :: []))) (List.toArray [])))
noncomputable def ho_244 : Params → Obj := (fun (P : Params) => (Obj.mk (Value.type "function") none (Data.func (fdat (mtAt 12 10) (Str.ofString "Scanner.real") 3 [] Value.none Value.none Value.none (Value.str (Str.ofString "moduleyard.scanner") 248) none (Value.ref 203) Value.none 0 rfl)) (List.toArray [])))
noncomputable def ho_212 : Params → Obj := (fun (P : Params) => (Obj.mk (Value.type "tuple") none (Data.seq (List.toArray ((Value.str (Str.ofString "self") 396) :: (Value.str (Str.ofString "begun") 397) :: (Value.str (Str.ofString "end") 398) :: (Value.str (Str.ofString "digits") 399) :: (Value.str (Str.ofString "ending") 400) :: (Value.str (Str.ofString "value") 401) :: [])) 0) (List.toArray [])))
noncomputable def ho_196 : Params → Obj := (fun (P : Params) => (Obj.mk (Value.type "tuple") none (Data.seq (List.toArray []) 0) (List.toArray [])))
noncomputable def ho_260 : Params → Obj := (fun (P : Params) => (Obj.mk Value.none none (Data.fields (List.toArray [])) (List.toArray [])))
noncomputable def ho_164 : Params → Obj := (fun (P : Params) => (Obj.mk Value.none none (Data.fields (List.toArray ((Value.int (47 : Int) 0) :: (Value.int (4 : Int) 0) :: (Value.ref 132) :: (Value.int (53 : Int) 0) :: (Value.int (4 : Int) 0) :: (Value.ref 140) :: (Value.int (56 : Int) 0) :: (Value.int (4 : Int) 0) :: (Value.ref 147) :: (Value.int (76 : Int) 0) :: (Value.int (4 : Int) 0) :: (Value.ref 154) :: (Value.int (86 : Int) 0) :: (Value.int (4 : Int) 0) :: (Value.ref 161) :: (Value.int (104 : Int) 0) :: (Value.int (4 : Int) 0) :: (Value.ref 168) :: (Value.int (114 : Int) 0) :: (Value.int (4 : Int) 0) :: (Value.ref 175) :: (Value.int (134 : Int) 0) :: (Value.int (4 : Int) 0) :: (Value.ref 182) :: (Value.int (140 : Int) 0) :: (Value.int (4 : Int) 0) :: (Value.ref 189) :: (Value.int (146 : Int) 0) :: (Value.int (4 : Int) 0) :: (Value.ref 196) :: (Value.int (153 : Int) 0) :: (Value.int (4 : Int) 0) :: (Value.ref 203) :: (Value.int (166 : Int) 0) :: (Value.int (4 : Int) 0) :: (Value.ref 210) :: (Value.int (170 : Int) 0) :: (Value.int (4 : Int) 0) :: (Value.ref 217) :: (Value.int (186 : Int) 0) :: (Value.int (4 : Int) 0) :: (Value.ref 224) :: []))) (List.toArray [])))
noncomputable def ho_228 : Params → Obj := (fun (P : Params) => (Obj.mk Value.none none (Data.func (fdat (mtAt 12 8) (Str.ofString "Scanner.hexadecimal") 0 [] Value.none Value.none Value.none Value.none none Value.none Value.none 0 rfl)) (List.toArray [])))
noncomputable def ho_170 : Params → Obj := (fun (P : Params) => (Obj.mk (Value.type "tuple") none (Data.seq (List.toArray []) 0) (List.toArray [])))
noncomputable def ho_234 : Params → Obj := (fun (P : Params) => (Obj.mk (Value.type "tuple") none (Data.seq (List.toArray []) 0) (List.toArray [])))
noncomputable def ho_202 : Params → Obj := (fun (P : Params) => (Obj.mk (Value.type "function") none (Data.func (fdat (mtAt 12 4) (Str.ofString "Scanner.remark") 3 [] Value.none Value.none Value.none (Value.str (Str.ofString "moduleyard.scanner") 248) none (Value.ref 161) Value.none 0 rfl)) (List.toArray [])))
noncomputable def ho_266 : Params → Obj := (fun (P : Params) => (Obj.mk (Value.type "tuple") none (Data.seq (List.toArray ((Value.str (Str.ofString "errors") 469) :: (Value.str (Str.ofString "place") 470) :: (Value.str (Str.ofString "source") 471) :: (Value.str (Str.ofString "words") 472) :: [])) 0) (List.toArray [])))
noncomputable def ho_186 : Params → Obj := (fun (P : Params) => (Obj.mk Value.none none (Data.func (fdat (mtAt 12 2) (Str.ofString "Scanner.take") 0 [] Value.none Value.none Value.none Value.none none Value.none Value.none 0 rfl)) (List.toArray [])))
noncomputable def ho_250 : Params → Obj := (fun (P : Params) => (Obj.mk (Value.type "code") none (Data.fields (List.toArray ((Value.str (Str.ofString "skip_digits") 444) :: (Value.str (Str.ofString "Scanner.skip_digits") 445) :: (Value.str (Str.ofString "/claim/cut.py") 446) :: (Value.int (166 : Int) 0) :: (Value.int (1 : Int) 0) :: (Value.int (0 : Int) 0) :: (Value.int (0 : Int) 0) :: (Value.int (3 : Int) 0) :: (Value.ref 205) :: (Value.bool true) :: (Value.int (181 : Int) 0) :: (Value.ref 206) :: Value.none :: (Value.ref 207) :: (Value.ref 208) :: (Value.ref 209) :: (Value.int (448 : Int) 0) :: (Value.int (166 : Int) 0) :: (Value.str (Str.ofString "/claim/cut.py") 449) :: []))) (List.toArray [])))
noncomputable def ho_218 : Params → Obj := (fun (P : Params) => (Obj.mk Value.none none (Data.fields (List.toArray [])) (List.toArray [])))
noncomputable def ho_178 : Params → Obj := (fun (P : Params) => (Obj.mk (Value.type "tuple") none (Data.seq (List.toArray []) 0) (List.toArray [])))
noncomputable def ho_242 : Params → Obj := (fun (P : Params) => (Obj.mk Value.none none (Data.func (fdat (mtAt 12 10) (Str.ofString "Scanner.real") 0 [] Value.none Value.none Value.none Value.none none Value.none Value.none 0 rfl)) (List.toArray [])))
noncomputable def ho_210 : Params → Obj := (fun (P : Params) => (Obj.mk (Value.type "tuple") none (Data.seq (List.toArray []) 0) (List.toArray [])))
noncomputable def ho_194 : Params → Obj := (fun (P : Params) => (Obj.mk (Value.type "code") none (Data.fields (List.toArray ((Value.str (Str.ofString "skip") 365) :: (Value.str (Str.ofString "Scanner.skip") 366) :: (Value.str (Str.ofString "/claim/cut.py") 367) :: (Value.int (76 : Int) 0) :: (Value.int (1 : Int) 0) :: (Value.int (0 : Int) 0) :: (Value.int (0 : Int) 0) :: (Value.int (3 : Int) 0) :: (Value.ref 149) :: (Value.bool true) :: (Value.int (181 : Int) 0) :: (Value.ref 150) :: Value.none :: (Value.ref 151) :: (Value.ref 152) :: (Value.ref 153) :: (Value.int (370 : Int) 0) :: (Value.int (76 : Int) 0) :: (Value.str (Str.ofString "/claim/cut.py") 371) :: []))) (List.toArray [])))
noncomputable def ho_258 : Params → Obj := (fun (P : Params) => (Obj.mk (Value.type "function") none (Data.func (fdat (mtAt 12 12) (Str.ofString "Scanner.string") 3 [] Value.none Value.none Value.none (Value.str (Str.ofString "moduleyard.scanner") 248) none (Value.ref 217) Value.none 0 rfl)) (List.toArray [])))
noncomputable def ho_162 : Params → Obj := (fun (P : Params) => (Obj.mk (Value.type "dict") none (Data.dict (List.toArray ((DictEntry.mk (PyData.keyHash P (Str.ofString "__module__")) (Value.str (Str.ofString "__module__") 332) (Value.str (Str.ofString "moduleyard.scanner") 248)) :: (DictEntry.mk (PyData.keyHash P (Str.ofString "__qualname__")) (Value.str (Str.ofString "__qualname__") 334) (Value.str (Str.ofString "Scanner") 333)) :: (DictEntry.mk (PyData.keyHash P (Str.ofString "__firstlineno__")) (Value.str (Str.ofString "__firstlineno__") 336) (Value.int (45 : Int) 335)) :: (DictEntry.mk (PyData.keyHash P (Str.ofString "__init__")) (Value.str (Str.ofString "__init__") 345) (Value.ref 133)) :: (DictEntry.mk (PyData.keyHash P (Str.ofString "char")) (Value.str (Str.ofString "char") 354) (Value.ref 141)) :: (DictEntry.mk (PyData.keyHash P (Str.ofString "take")) (Value.str (Str.ofString "take") 364) (Value.ref 148)) :: (DictEntry.mk (PyData.keyHash P (Str.ofString "skip")) (Value.str (Str.ofString "skip") 372) (Value.ref 155)) :: (DictEntry.mk (PyData.keyHash P (Str.ofString "remark")) (Value.str (Str.ofString "remark") 382) (Value.ref 162)) :: (DictEntry.mk (PyData.keyHash P (Str.ofString "word")) (Value.str (Str.ofString "word") 392) (Value.ref 169)) :: (DictEntry.mk (PyData.keyHash P (Str.ofString "numeral")) (Value.str (Str.ofString "numeral") 404) (Value.ref 176)) :: (DictEntry.mk (PyData.keyHash P (Str.ofString "whole")) (Value.str (Str.ofString "whole") 414) (Value.ref 183)) :: (DictEntry.mk (PyData.keyHash P (Str.ofString "hexadecimal")) (Value.str (Str.ofString "hexadecimal") 424) (Value.ref 190)) :: (DictEntry.mk (PyData.keyHash P (Str.ofString "character")) (Value.str (Str.ofString "character") 434) (Value.ref 197)) :: (DictEntry.mk (PyData.keyHash P (Str.ofString "real")) (Value.str (Str.ofString "real") 443) (Value.ref 204)) :: (DictEntry.mk (PyData.keyHash P (Str.ofString "skip_digits")) (Value.str (Str.ofString "skip_digits") 450) (Value.ref 211)) :: (DictEntry.mk (PyData.keyHash P (Str.ofString "string")) (Value.str (Str.ofString "string") 460) (Value.ref 218)) :: (DictEntry.mk (PyData.keyHash P (Str.ofString "symbol")) (Value.str (Str.ofString "symbol") 468) (Value.ref 225)) :: (DictEntry.mk (PyData.keyHash P (Str.ofString "__static_attributes__")) (Value.str (Str.ofString "__static_attributes__") 473) (Value.ref 226)) :: [])) 18) (List.toArray [])))
noncomputable def ho_226 : Params → Obj := (fun (P : Params) => (Obj.mk (Value.type "tuple") none (Data.seq (List.toArray ((Value.str (Str.ofString "self") 418) :: (Value.str (Str.ofString "begun") 419) :: (Value.str (Str.ofString "digits") 420) :: (Value.str (Str.ofString "token") 421) :: [])) 0) (List.toArray [])))
noncomputable def ho_174 : Params → Obj := (fun (P : Params) => (Obj.mk (Value.type "tuple") none (Data.seq (List.toArray ((Value.int (0 : Int) 346) :: [])) 0) (List.toArray [])))
noncomputable def ho_238 : Params → Obj := (fun (P : Params) => (Obj.mk (Value.type "tuple") none (Data.seq (List.toArray []) 0) (List.toArray [])))
noncomputable def ho_206 : Params → Obj := (fun (P : Params) => (Obj.mk (Value.type "tuple") none (Data.seq (List.toArray []) 0) (List.toArray [])))
noncomputable def ho_270 : Params → Obj := (fun (P : Params) => (Obj.mk (Value.type "getset_descriptor") none (Data.fields (List.toArray ((Value.str (Str.ofString "__weakref__") 476) :: (Value.ref 228) :: (Value.builtin "ExceptionGroup.__weakref__") :: Value.none :: []))) (List.toArray [])))
noncomputable def ho_190 : Params → Obj := (fun (P : Params) => (Obj.mk Value.none none (Data.fields (List.toArray [])) (List.toArray [])))
noncomputable def ho_254 : Params → Obj := (fun (P : Params) => (Obj.mk (Value.type "tuple") none (Data.seq (List.toArray ((Value.str (Str.ofString "self") 454) :: (Value.str (Str.ofString "begun") 455) :: (Value.str (Str.ofString "chars") 456) :: (Value.str (Str.ofString "char") 457) :: [])) 0) (List.toArray [])))
noncomputable def ho_222 : Params → Obj := (fun (P : Params) => (Obj.mk (Value.type "code") none (Data.fields (List.toArray ((Value.str (Str.ofString "whole") 405) :: (Value.str (Str.ofString "Scanner.whole") 406) :: (Value.str (Str.ofString "/claim/cut.py") 407) :: (Value.int (134 : Int) 0) :: (Value.int (4 : Int) 0) :: (Value.int (0 : Int) 0) :: (Value.int (0 : Int) 0) :: (Value.int (3 : Int) 0) :: (Value.ref 177) :: (Value.bool true) :: (Value.int (181 : Int) 0) :: (Value.ref 178) :: Value.none :: (Value.ref 179) :: (Value.ref 180) :: (Value.ref 181) :: (Value.int (412 : Int) 0) :: (Value.int (134 : Int) 0) :: (Value.str (Str.ofString "/claim/cut.py") 413) :: []))) (List.toArray [])))
noncomputable def ho_182 : Params → Obj := (fun (P : Params) => (Obj.mk (Value.type "tuple") none (Data.seq (List.toArray []) 0) (List.toArray [])))
noncomputable def ho_246 : Params → Obj := (fun (P : Params) => (Obj.mk Value.none none (Data.fields (List.toArray [])) (List.toArray [])))
noncomputable def ho_214 : Params → Obj := (fun (P : Params) => (Obj.mk Value.none none (Data.func (fdat (mtAt 12 6) (Str.ofString "Scanner.numeral") 0 [] Value.none Value.none Value.none Value.none none Value.none Value.none 0 rfl)) (List.toArray [])))
noncomputable def ho_198 : Params → Obj := (fun (P : Params) => (Obj.mk (Value.type "tuple") none (Data.seq (List.toArray ((Value.str (Str.ofString "self") 376) :: (Value.str (Str.ofString "begun") 377) :: (Value.str (Str.ofString "depth") 378) :: (Value.str (Str.ofString "pair") 379) :: [])) 0) (List.toArray [])))
noncomputable def ho_262 : Params → Obj := (fun (P : Params) => (Obj.mk (Value.type "tuple") none (Data.seq (List.toArray []) 0) (List.toArray [])))
noncomputable def ho_166 : Params → Obj := (fun (P : Params) => (Obj.mk (Value.type "frame") none Data.plain (List.toArray ((some (Value.ref 125)) :: (some (Value.ref 3)) :: (some (Value.ref 122)) :: none :: (some (Value.str (Str.ofString "moduleyard.scanner") 248)) :: none :: (some (Value.ref 0)) :: []))))
noncomputable def ho_230 : Params → Obj := (fun (P : Params) => (Obj.mk (Value.type "function") none (Data.func (fdat (mtAt 12 8) (Str.ofString "Scanner.hexadecimal") 3 [] Value.none Value.none Value.none (Value.str (Str.ofString "moduleyard.scanner") 248) none (Value.ref 189) Value.none 0 rfl)) (List.toArray [])))
noncomputable def tree_272 : Params → BT := (fun (P : Params) => (BT.node (boot_o_0 P) (BT.node (boot_o_1 P) (BT.node (ho_158 P) (BT.node (boot_o_7 P) (BT.node (ho_51 P) (BT.node (ho_67 P) (BT.node (ho_99 P) (BT.node (ho_167 P) BT.nil BT.nil) (BT.node (ho_231 P) BT.nil BT.nil)) (BT.node (ho_133 P) (BT.node (ho_199 P) BT.nil BT.nil) (BT.node (ho_263 P) BT.nil BT.nil))) (BT.node (ho_83 P) (BT.node (ho_117 P) (BT.node (ho_183 P) BT.nil BT.nil) (BT.node (ho_247 P) BT.nil BT.nil)) (BT.node (ho_149 P) (BT.node (ho_215 P) BT.nil BT.nil) BT.nil))) (BT.node (ho_59 P) (BT.node (ho_75 P) (BT.node (ho_109 P) (BT.node (ho_175 P) BT.nil BT.nil) (BT.node (ho_239 P) BT.nil BT.nil)) (BT.node (ho_141 P) (BT.node (ho_207 P) BT.nil BT.nil) (BT.node (ho_271 P) BT.nil BT.nil))) (BT.node (ho_91 P) (BT.node (ho_125 P) (BT.node (ho_191 P) BT.nil BT.nil) (BT.node (ho_255 P) BT.nil BT.nil)) (BT.node (ho_157 P) (BT.node (ho_223 P) BT.nil BT.nil) BT.nil)))) (BT.node (ho_43 P) (BT.node (ho_55 P) (BT.node (ho_71 P) (BT.node (ho_105 P) (BT.node (ho_171 P) BT.nil BT.nil) (BT.node (ho_235 P) BT.nil BT.nil)) (BT.node (ho_137 P) (BT.node (ho_203 P) BT.nil BT.nil) (BT.node (ho_267 P) BT.nil BT.nil))) (BT.node (ho_87 P) (BT.node (ho_121 P) (BT.node (ho_187 P) BT.nil BT.nil) (BT.node (ho_251 P) BT.nil BT.nil)) (BT.node (ho_153 P) (BT.node (ho_219 P) BT.nil BT.nil) BT.nil))) (BT.node (ho_63 P) (BT.node (ho_79 P) (BT.node (ho_113 P) (BT.node (ho_179 P) BT.nil BT.nil) (BT.node (ho_243 P) BT.nil BT.nil)) (BT.node (ho_145 P) (BT.node (ho_211 P) BT.nil BT.nil) BT.nil)) (BT.node (ho_95 P) (BT.node (ho_129 P) (BT.node (ho_195 P) BT.nil BT.nil) (BT.node (ho_259 P) BT.nil BT.nil)) (BT.node (ho_163 P) (BT.node (ho_227 P) BT.nil BT.nil) BT.nil))))) (BT.node (boot_o_5 P) (BT.node (boot_o_9 P) (BT.node (ho_53 P) (BT.node (ho_69 P) (BT.node (ho_103 P) (BT.node (ho_169 P) BT.nil BT.nil) (BT.node (ho_233 P) BT.nil BT.nil)) (BT.node (ho_135 P) (BT.node (ho_201 P) BT.nil BT.nil) (BT.node (ho_265 P) BT.nil BT.nil))) (BT.node (ho_85 P) (BT.node (ho_119 P) (BT.node (ho_185 P) BT.nil BT.nil) (BT.node (ho_249 P) BT.nil BT.nil)) (BT.node (ho_151 P) (BT.node (ho_217 P) BT.nil BT.nil) BT.nil))) (BT.node (ho_61 P) (BT.node (ho_77 P) (BT.node (ho_111 P) (BT.node (ho_177 P) BT.nil BT.nil) (BT.node (ho_241 P) BT.nil BT.nil)) (BT.node (ho_143 P) (BT.node (ho_209 P) BT.nil BT.nil) BT.nil)) (BT.node (ho_93 P) (BT.node (ho_127 P) (BT.node (ho_193 P) BT.nil BT.nil) (BT.node (ho_257 P) BT.nil BT.nil)) (BT.node (ho_161 P) (BT.node (ho_225 P) BT.nil BT.nil) BT.nil)))) (BT.node (ho_45 P) (BT.node (ho_57 P) (BT.node (ho_73 P) (BT.node (ho_107 P) (BT.node (ho_173 P) BT.nil BT.nil) (BT.node (ho_237 P) BT.nil BT.nil)) (BT.node (ho_139 P) (BT.node (ho_205 P) BT.nil BT.nil) (BT.node (ho_269 P) BT.nil BT.nil))) (BT.node (ho_89 P) (BT.node (ho_123 P) (BT.node (ho_189 P) BT.nil BT.nil) (BT.node (ho_253 P) BT.nil BT.nil)) (BT.node (ho_155 P) (BT.node (ho_221 P) BT.nil BT.nil) BT.nil))) (BT.node (ho_65 P) (BT.node (ho_81 P) (BT.node (ho_115 P) (BT.node (ho_181 P) BT.nil BT.nil) (BT.node (ho_245 P) BT.nil BT.nil)) (BT.node (ho_147 P) (BT.node (ho_213 P) BT.nil BT.nil) BT.nil)) (BT.node (ho_97 P) (BT.node (ho_131 P) (BT.node (ho_197 P) BT.nil BT.nil) (BT.node (ho_261 P) BT.nil BT.nil)) (BT.node (ho_165 P) (BT.node (ho_229 P) BT.nil BT.nil) BT.nil)))))) (BT.node (boot_o_2 P) (BT.node (boot_o_4 P) (BT.node (boot_o_8 P) (BT.node (ho_52 P) (BT.node (ho_68 P) (BT.node (ho_102 P) (BT.node (ho_168 P) BT.nil BT.nil) (BT.node (ho_232 P) BT.nil BT.nil)) (BT.node (ho_134 P) (BT.node (ho_200 P) BT.nil BT.nil) (BT.node (ho_264 P) BT.nil BT.nil))) (BT.node (ho_84 P) (BT.node (ho_118 P) (BT.node (ho_184 P) BT.nil BT.nil) (BT.node (ho_248 P) BT.nil BT.nil)) (BT.node (ho_150 P) (BT.node (ho_216 P) BT.nil BT.nil) BT.nil))) (BT.node (ho_60 P) (BT.node (ho_76 P) (BT.node (ho_110 P) (BT.node (ho_176 P) BT.nil BT.nil) (BT.node (ho_240 P) BT.nil BT.nil)) (BT.node (ho_142 P) (BT.node (ho_208 P) BT.nil BT.nil) (BT.node (ho_272 P) BT.nil BT.nil))) (BT.node (ho_92 P) (BT.node (ho_126 P) (BT.node (ho_192 P) BT.nil BT.nil) (BT.node (ho_256 P) BT.nil BT.nil)) (BT.node (ho_160 P) (BT.node (ho_224 P) BT.nil BT.nil) BT.nil)))) (BT.node (ho_159 P) (BT.node (ho_56 P) (BT.node (ho_72 P) (BT.node (ho_106 P) (BT.node (ho_172 P) BT.nil BT.nil) (BT.node (ho_236 P) BT.nil BT.nil)) (BT.node (ho_138 P) (BT.node (ho_204 P) BT.nil BT.nil) (BT.node (ho_268 P) BT.nil BT.nil))) (BT.node (ho_88 P) (BT.node (ho_122 P) (BT.node (ho_188 P) BT.nil BT.nil) (BT.node (ho_252 P) BT.nil BT.nil)) (BT.node (ho_154 P) (BT.node (ho_220 P) BT.nil BT.nil) BT.nil))) (BT.node (ho_64 P) (BT.node (ho_80 P) (BT.node (ho_114 P) (BT.node (ho_180 P) BT.nil BT.nil) (BT.node (ho_244 P) BT.nil BT.nil)) (BT.node (ho_146 P) (BT.node (ho_212 P) BT.nil BT.nil) BT.nil)) (BT.node (ho_96 P) (BT.node (ho_130 P) (BT.node (ho_196 P) BT.nil BT.nil) (BT.node (ho_260 P) BT.nil BT.nil)) (BT.node (ho_164 P) (BT.node (ho_228 P) BT.nil BT.nil) BT.nil))))) (BT.node (boot_o_6 P) (BT.node (boot_o_10 P) (BT.node (ho_54 P) (BT.node (ho_70 P) (BT.node (ho_104 P) (BT.node (ho_170 P) BT.nil BT.nil) (BT.node (ho_234 P) BT.nil BT.nil)) (BT.node (ho_136 P) (BT.node (ho_202 P) BT.nil BT.nil) (BT.node (ho_266 P) BT.nil BT.nil))) (BT.node (ho_86 P) (BT.node (ho_120 P) (BT.node (ho_186 P) BT.nil BT.nil) (BT.node (ho_250 P) BT.nil BT.nil)) (BT.node (ho_152 P) (BT.node (ho_218 P) BT.nil BT.nil) BT.nil))) (BT.node (ho_62 P) (BT.node (ho_78 P) (BT.node (ho_112 P) (BT.node (ho_178 P) BT.nil BT.nil) (BT.node (ho_242 P) BT.nil BT.nil)) (BT.node (ho_144 P) (BT.node (ho_210 P) BT.nil BT.nil) BT.nil)) (BT.node (ho_94 P) (BT.node (ho_128 P) (BT.node (ho_194 P) BT.nil BT.nil) (BT.node (ho_258 P) BT.nil BT.nil)) (BT.node (ho_162 P) (BT.node (ho_226 P) BT.nil BT.nil) BT.nil)))) (BT.node (ho_46 P) (BT.node (ho_58 P) (BT.node (ho_74 P) (BT.node (ho_108 P) (BT.node (ho_174 P) BT.nil BT.nil) (BT.node (ho_238 P) BT.nil BT.nil)) (BT.node (ho_140 P) (BT.node (ho_206 P) BT.nil BT.nil) (BT.node (ho_270 P) BT.nil BT.nil))) (BT.node (ho_90 P) (BT.node (ho_124 P) (BT.node (ho_190 P) BT.nil BT.nil) (BT.node (ho_254 P) BT.nil BT.nil)) (BT.node (ho_156 P) (BT.node (ho_222 P) BT.nil BT.nil) BT.nil))) (BT.node (ho_66 P) (BT.node (ho_82 P) (BT.node (ho_116 P) (BT.node (ho_182 P) BT.nil BT.nil) (BT.node (ho_246 P) BT.nil BT.nil)) (BT.node (ho_148 P) (BT.node (ho_214 P) BT.nil BT.nil) BT.nil)) (BT.node (ho_98 P) (BT.node (ho_132 P) (BT.node (ho_198 P) BT.nil BT.nil) (BT.node (ho_262 P) BT.nil BT.nil)) (BT.node (ho_166 P) (BT.node (ho_230 P) BT.nil BT.nil) BT.nil))))))))
noncomputable def sts_358 : List Stmt := ((stOf 13 rfl) :: (stOf 14 rfl) :: (stOf 15 rfl) :: (stOf 16 rfl) :: (stOf 17 rfl) :: (stOf 18 rfl) :: (stOf 19 rfl) :: [])
noncomputable def ho_358 : Params → Obj := (fun (P : Params) => (Obj.mk (Value.type "dict") none (Data.dict (List.toArray ((DictEntry.mk (PyData.keyHash P (Str.ofString "__name__")) (Value.str (Str.ofString "__name__") 165) (Value.str (Str.ofString "law_on0211_01") 544)) :: (DictEntry.mk (PyData.keyHash P (Str.ofString "__doc__")) (Value.str (Str.ofString "__doc__") 166) Value.none) :: (DictEntry.mk (PyData.keyHash P (Str.ofString "__package__")) (Value.str (Str.ofString "__package__") 167) Value.none) :: (DictEntry.mk (PyData.keyHash P (Str.ofString "__loader__")) (Value.str (Str.ofString "__loader__") 168) (Value.builtin "__main__.__loader__#opaque")) :: (DictEntry.mk (PyData.keyHash P (Str.ofString "__spec__")) (Value.str (Str.ofString "__spec__") 169) Value.none) :: (DictEntry.mk (PyData.keyHash P (Str.ofString "__annotations__")) (Value.str (Str.ofString "__annotations__") 170) (Value.ref 6)) :: (DictEntry.mk (PyData.keyHash P (Str.ofString "__builtins__")) (Value.str (Str.ofString "__builtins__") 171) (Value.ref 4)) :: (DictEntry.mk (PyData.keyHash P (Str.ofString "__file__")) (Value.str (Str.ofString "__file__") 173) (Value.str (Str.ofString "/claim/cut.py") 172)) :: (DictEntry.mk (PyData.keyHash P (Str.ofString "__cached__")) (Value.str (Str.ofString "__cached__") 174) Value.none) :: (DictEntry.mk (PyData.keyHash P (Str.ofString "_wall")) (Value.str (Str.ofString "_wall") 193) (Value.ref 21)) :: (DictEntry.mk (PyData.keyHash P (Str.ofString "ErrorList")) (Value.str (Str.ofString "ErrorList") 247) (Value.ref 59)) :: (DictEntry.mk (PyData.keyHash P (Str.ofString "MOST_INTEGER")) (Value.str (Str.ofString "MOST_INTEGER") 251) (Value.int (2147483647 : Int) 250)) :: (DictEntry.mk (PyData.keyHash P (Str.ofString "MOST_WORD")) (Value.str (Str.ofString "MOST_WORD") 253) (Value.int (4294967295 : Int) 252)) :: (DictEntry.mk (PyData.keyHash P (Str.ofString "Token")) (Value.str (Str.ofString "Token") 286) (Value.ref 80)) :: (DictEntry.mk (PyData.keyHash P (Str.ofString "keywords")) (Value.str (Str.ofString "keywords") 292) (Value.ref 91)) :: (DictEntry.mk (PyData.keyHash P (Str.ofString "is_letter")) (Value.str (Str.ofString "is_letter") 299) (Value.ref 98)) :: (DictEntry.mk (PyData.keyHash P (Str.ofString "is_digit")) (Value.str (Str.ofString "is_digit") 306) (Value.ref 105)) :: (DictEntry.mk (PyData.keyHash P (Str.ofString "is_hex_digit")) (Value.str (Str.ofString "is_hex_digit") 313) (Value.ref 112)) :: (DictEntry.mk (PyData.keyHash P (Str.ofString "digits_value")) (Value.str (Str.ofString "digits_value") 324) (Value.ref 119)) :: (DictEntry.mk (PyData.keyHash P (Str.ofString "Scanner")) (Value.str (Str.ofString "Scanner") 480) (Value.ref 228)) :: (DictEntry.mk (PyData.keyHash P (Str.ofString "Head")) (Value.str (Str.ofString "Head") 513) (Value.ref 249)) :: (DictEntry.mk (PyData.keyHash P (Str.ofString "imported_name")) (Value.str (Str.ofString "imported_name") 522) (Value.ref 260)) :: (DictEntry.mk (PyData.keyHash P (Str.ofString "import_names")) (Value.str (Str.ofString "import_names") 533) (Value.ref 267)) :: (DictEntry.mk (PyData.keyHash P (Str.ofString "head_of")) (Value.str (Str.ofString "head_of") 543) (Value.ref 274)) :: (DictEntry.mk (PyData.keyHash P (Str.ofString "_law_figures")) (Value.str (Str.ofString "_law_figures") 556) (Value.ref 281)) :: [])) 25) (List.toArray [])))
noncomputable def ho_382 : Params → Obj := (fun (P : Params) => (Obj.mk Value.none none (Data.fields (List.toArray [])) (List.toArray [])))
noncomputable def ho_398 : Params → Obj := (fun (P : Params) => (Obj.mk (Value.type "tuple") none (Data.seq (List.toArray []) 0) (List.toArray [])))
noncomputable def ho_366 : Params → Obj := (fun (P : Params) => (Obj.mk (Value.type "frame") none Data.plain (List.toArray ((some (Value.ref 238)) :: (some (Value.ref 3)) :: (some (Value.ref 235)) :: none :: (some (Value.str (Str.ofString "moduleyard.modset") 481)) :: none :: (some (Value.ref 0)) :: []))))
noncomputable def ho_390 : Params → Obj := (fun (P : Params) => (Obj.mk (Value.type "tuple") none (Data.seq (List.toArray ((Value.str (Str.ofString "scanner") 526) :: (Value.str (Str.ofString "names") 527) :: (Value.str (Str.ofString "more") 528) :: (Value.str (Str.ofString "name") 529) :: (Value.str (Str.ofString "token") 530) :: [])) 0) (List.toArray [])))
noncomputable def ho_406 : Params → Obj := (fun (P : Params) => (Obj.mk Value.none none (Data.func (fdat (stAt 19) (Str.ofString "_law_figures") 0 [] Value.none Value.none Value.none Value.none none Value.none Value.none 0 rfl)) (List.toArray [])))
noncomputable def ho_374 : Params → Obj := (fun (P : Params) => (Obj.mk (Value.type "tuple") none (Data.seq (List.toArray ((Value.str (Str.ofString "imports") 504) :: (Value.str (Str.ofString "name") 505) :: [])) 0) (List.toArray [])))
noncomputable def ho_386 : Params → Obj := (fun (P : Params) => (Obj.mk (Value.type "code") none (Data.fields (List.toArray ((Value.str (Str.ofString "imported_name") 514) :: (Value.str (Str.ofString "imported_name") 515) :: (Value.str (Str.ofString "/claim/cut.py") 516) :: (Value.int (199 : Int) 0) :: (Value.int (2 : Int) 0) :: (Value.int (0 : Int) 0) :: (Value.int (0 : Int) 0) :: (Value.int (3 : Int) 0) :: (Value.ref 254) :: (Value.bool true) :: (Value.int (181 : Int) 0) :: (Value.ref 255) :: Value.none :: (Value.ref 256) :: (Value.ref 257) :: (Value.ref 258) :: (Value.int (520 : Int) 0) :: (Value.int (199 : Int) 0) :: (Value.str (Str.ofString "/claim/cut.py") 521) :: []))) (List.toArray [])))
noncomputable def ho_402 : Params → Obj := (fun (P : Params) => (Obj.mk (Value.type "tuple") none (Data.seq (List.toArray []) 0) (List.toArray [])))
noncomputable def ho_370 : Params → Obj := (fun (P : Params) => (Obj.mk (Value.type "tuple") none (Data.seq (List.toArray []) 0) (List.toArray [])))
noncomputable def ho_394 : Params → Obj := (fun (P : Params) => (Obj.mk (Value.type "function") none (Data.func (fdat (stAt 16) (Str.ofString "import_names") 3 [] Value.none Value.none Value.none (Value.str (Str.ofString "moduleyard.modset") 481) none (Value.ref 266) Value.none 0 rfl)) (List.toArray [])))
noncomputable def ho_362 : Params → Obj := (fun (P : Params) => (Obj.mk (Value.type "dict") none (Data.dict (List.toArray ((DictEntry.mk (PyData.keyHash P (Str.ofString "__module__")) (Value.str (Str.ofString "__module__") 490) (Value.str (Str.ofString "moduleyard.modset") 481)) :: (DictEntry.mk (PyData.keyHash P (Str.ofString "__qualname__")) (Value.str (Str.ofString "__qualname__") 492) (Value.str (Str.ofString "Head") 491)) :: (DictEntry.mk (PyData.keyHash P (Str.ofString "__firstlineno__")) (Value.str (Str.ofString "__firstlineno__") 494) (Value.int (194 : Int) 493)) :: (DictEntry.mk (PyData.keyHash P (Str.ofString "__init__")) (Value.str (Str.ofString "__init__") 503) (Value.ref 246)) :: (DictEntry.mk (PyData.keyHash P (Str.ofString "__static_attributes__")) (Value.str (Str.ofString "__static_attributes__") 506) (Value.ref 247)) :: [])) 5) (List.toArray [])))
noncomputable def ho_378 : Params → Obj := (fun (P : Params) => (Obj.mk (Value.type "getset_descriptor") none (Data.fields (List.toArray ((Value.str (Str.ofString "__weakref__") 509) :: (Value.ref 249) :: (Value.builtin "ExceptionGroup.__weakref__") :: Value.none :: []))) (List.toArray [])))
noncomputable def ho_384 : Params → Obj := (fun (P : Params) => (Obj.mk (Value.type "tuple") none (Data.seq (List.toArray []) 0) (List.toArray [])))
noncomputable def ho_400 : Params → Obj := (fun (P : Params) => (Obj.mk (Value.type "code") none (Data.fields (List.toArray ((Value.str (Str.ofString "head_of") 534) :: (Value.str (Str.ofString "head_of") 535) :: (Value.str (Str.ofString "/claim/cut.py") 536) :: (Value.int (220 : Int) 0) :: (Value.int (1 : Int) 0) :: (Value.int (0 : Int) 0) :: (Value.int (0 : Int) 0) :: (Value.int (3 : Int) 0) :: (Value.ref 268) :: (Value.bool true) :: (Value.int (181 : Int) 0) :: (Value.ref 269) :: Value.none :: (Value.ref 270) :: (Value.ref 271) :: (Value.ref 272) :: (Value.int (541 : Int) 0) :: (Value.int (220 : Int) 0) :: (Value.str (Str.ofString "/claim/cut.py") 542) :: []))) (List.toArray [])))
noncomputable def ho_368 : Params → Obj := (fun (P : Params) => (Obj.mk Value.none none (Data.fields (List.toArray [])) (List.toArray [])))
noncomputable def ho_392 : Params → Obj := (fun (P : Params) => (Obj.mk Value.none none (Data.func (fdat (stAt 16) (Str.ofString "import_names") 0 [] Value.none Value.none Value.none Value.none none Value.none Value.none 0 rfl)) (List.toArray [])))
noncomputable def ho_360 : Params → Obj := (fun (P : Params) => (Obj.mk (Value.type "tuple") none (Data.seq (List.toArray []) 0) (List.toArray [])))
noncomputable def ho_408 : Params → Obj := (fun (P : Params) => (Obj.mk (Value.type "function") none (Data.func (fdat (stAt 19) (Str.ofString "_law_figures") 3 [] Value.none Value.none Value.none (Value.str (Str.ofString "law_on0211_01") 544) none (Value.ref 280) Value.none 0 rfl)) (List.toArray [])))
noncomputable def ho_376 : Params → Obj := (fun (P : Params) => (Obj.mk (Value.type "type") none (Data.cls (ClassData.mk (Str.ofString "Head") ((Value.type "object") :: []) ((Value.ref 249) :: (Value.type "object") :: []) 248 (Str.ofString "Head") true [] [] false none false)) (List.toArray (none :: none :: (some (Value.str (Str.ofString "Head") 483)) :: (some (Value.str (Str.ofString "Head") 491)) :: (some (Value.builtin "object.__new__")) :: (some (Value.bool true)) :: []))))
noncomputable def ho_388 : Params → Obj := (fun (P : Params) => (Obj.mk (Value.type "tuple") none (Data.seq (List.toArray []) 0) (List.toArray [])))
noncomputable def ho_404 : Params → Obj := (fun (P : Params) => (Obj.mk (Value.type "tuple") none (Data.seq (List.toArray ((Value.str (Str.ofString "script") 549) :: (Value.str (Str.ofString "found") 550) :: (Value.str (Str.ofString "cell") 551) :: (Value.str (Str.ofString "figure") 552) :: (Value.str (Str.ofString "lap") 553) :: [])) 0) (List.toArray [])))
noncomputable def ho_372 : Params → Obj := (fun (P : Params) => (Obj.mk (Value.type "code") none (Data.fields (List.toArray ((Value.str (Str.ofString "__init__") 495) :: (Value.str (Str.ofString "Head.__init__") 496) :: (Value.str (Str.ofString "/claim/cut.py") 497) :: (Value.int (196 : Int) 0) :: (Value.int (3 : Int) 0) :: (Value.int (0 : Int) 0) :: (Value.int (0 : Int) 0) :: (Value.int (3 : Int) 0) :: (Value.ref 240) :: (Value.bool true) :: (Value.int (181 : Int) 0) :: (Value.ref 241) :: Value.none :: (Value.ref 242) :: (Value.ref 243) :: (Value.ref 244) :: (Value.int (501 : Int) 0) :: (Value.int (196 : Int) 0) :: (Value.str (Str.ofString "/claim/cut.py") 502) :: []))) (List.toArray [])))
noncomputable def ho_396 : Params → Obj := (fun (P : Params) => (Obj.mk Value.none none (Data.fields (List.toArray [])) (List.toArray [])))
noncomputable def ho_364 : Params → Obj := (fun (P : Params) => (Obj.mk Value.none none (Data.fields (List.toArray ((Value.int (196 : Int) 0) :: (Value.int (4 : Int) 0) :: (Value.ref 245) :: []))) (List.toArray [])))
noncomputable def ho_380 : Params → Obj := (fun (P : Params) => (Obj.mk (Value.type "builtin_function_or_method") none (Data.fields (List.toArray ((Value.builtin "object.__init_subclass__") :: (Value.ref 249) :: []))) (List.toArray [])))
noncomputable def ho_383 : Params → Obj := (fun (P : Params) => (Obj.mk (Value.type "tuple") none (Data.seq (List.toArray ((Value.str (Str.ofString "scanner") 517) :: (Value.str (Str.ofString "token") 518) :: (Value.str (Str.ofString "name") 519) :: [])) 0) (List.toArray [])))
noncomputable def ho_399 : Params → Obj := (fun (P : Params) => (Obj.mk Value.none none (Data.func (fdat (stAt 17) (Str.ofString "head_of") 0 [] Value.none Value.none Value.none Value.none none Value.none Value.none 0 rfl)) (List.toArray [])))
noncomputable def ho_367 : Params → Obj := (fun (P : Params) => (Obj.mk (Value.type "tuple") none (Data.seq (List.toArray []) 0) (List.toArray [])))
noncomputable def ho_391 : Params → Obj := (fun (P : Params) => (Obj.mk (Value.type "tuple") none (Data.seq (List.toArray []) 0) (List.toArray [])))
noncomputable def ho_407 : Params → Obj := (fun (P : Params) => (Obj.mk (Value.type "code") none (Data.fields (List.toArray ((Value.str (Str.ofString "_law_figures") 546) :: (Value.str (Str.ofString "_law_figures") 547) :: (Value.str (Str.ofString "/claim/cut.py") 548) :: (Value.int (232 : Int) 0) :: (Value.int (1 : Int) 0) :: (Value.int (0 : Int) 0) :: (Value.int (0 : Int) 0) :: (Value.int (3 : Int) 0) :: (Value.ref 275) :: (Value.bool true) :: (Value.int (181 : Int) 0) :: (Value.ref 276) :: Value.none :: (Value.ref 277) :: (Value.ref 278) :: (Value.ref 279) :: (Value.int (554 : Int) 0) :: (Value.int (232 : Int) 0) :: (Value.str (Str.ofString "/claim/cut.py") 555) :: []))) (List.toArray [])))
noncomputable def ho_375 : Params → Obj := (fun (P : Params) => (Obj.mk (Value.type "dict") none (Data.dict (List.toArray ((DictEntry.mk (PyData.keyHash P (Str.ofString "__module__")) (Value.str (Str.ofString "__module__") 490) (Value.str (Str.ofString "moduleyard.modset") 481)) :: (DictEntry.mk (PyData.keyHash P (Str.ofString "__firstlineno__")) (Value.str (Str.ofString "__firstlineno__") 494) (Value.int (194 : Int) 493)) :: (DictEntry.mk (PyData.keyHash P (Str.ofString "__init__")) (Value.str (Str.ofString "__init__") 503) (Value.ref 246)) :: (DictEntry.mk (PyData.keyHash P (Str.ofString "__static_attributes__")) (Value.str (Str.ofString "__static_attributes__") 506) (Value.ref 247)) :: (DictEntry.mk (PyData.keyHash P (Str.ofString "__dict__")) (Value.str (Str.ofString "__dict__") 508) (Value.ref 250)) :: (DictEntry.mk (PyData.keyHash P (Str.ofString "__weakref__")) (Value.str (Str.ofString "__weakref__") 510) (Value.ref 251)) :: (DictEntry.mk (PyData.keyHash P (Str.ofString "__doc__")) (Value.str (Str.ofString "__doc__") 511) Value.none) :: [])) 4) (List.toArray [])))
noncomputable def ho_359 : Params → Obj := (fun (P : Params) => (Obj.mk Value.none none (Data.fields (List.toArray ((Value.int (1 : Int) 0) :: (Value.int (0 : Int) 0) :: (Value.ref 20) :: (Value.int (5 : Int) 0) :: (Value.int (0 : Int) 0) :: (Value.ref 27) :: (Value.int (24 : Int) 0) :: (Value.int (0 : Int) 0) :: (Value.ref 69) :: (Value.int (30 : Int) 0) :: (Value.int (0 : Int) 0) :: (Value.ref 90) :: (Value.int (32 : Int) 0) :: (Value.int (0 : Int) 0) :: (Value.ref 97) :: (Value.int (34 : Int) 0) :: (Value.int (0 : Int) 0) :: (Value.ref 104) :: (Value.int (36 : Int) 0) :: (Value.int (0 : Int) 0) :: (Value.ref 111) :: (Value.int (38 : Int) 0) :: (Value.int (0 : Int) 0) :: (Value.ref 118) :: (Value.int (45 : Int) 0) :: (Value.int (0 : Int) 0) :: (Value.ref 125) :: (Value.int (194 : Int) 0) :: (Value.int (0 : Int) 0) :: (Value.ref 238) :: (Value.int (199 : Int) 0) :: (Value.int (0 : Int) 0) :: (Value.ref 259) :: (Value.int (211 : Int) 0) :: (Value.int (0 : Int) 0) :: (Value.ref 266) :: (Value.int (220 : Int) 0) :: (Value.int (0 : Int) 0) :: (Value.ref 273) :: (Value.int (232 : Int) 0) :: (Value.int (0 : Int) 0) :: (Value.ref 280) :: []))) (List.toArray [])))
noncomputable def ho_387 : Params → Obj := (fun (P : Params) => (Obj.mk (Value.type "function") none (Data.func (fdat (stAt 15) (Str.ofString "imported_name") 3 [] Value.none Value.none Value.none (Value.str (Str.ofString "moduleyard.modset") 481) none (Value.ref 259) Value.none 0 rfl)) (List.toArray [])))
noncomputable def ho_403 : Params → Obj := (fun (P : Params) => (Obj.mk Value.none none (Data.fields (List.toArray [])) (List.toArray [])))
noncomputable def ho_371 : Params → Obj := (fun (P : Params) => (Obj.mk Value.none none (Data.func (fdat (mtAt 14 0) (Str.ofString "Head.__init__") 0 [] Value.none Value.none Value.none Value.none none Value.none Value.none 0 rfl)) (List.toArray [])))
noncomputable def ho_395 : Params → Obj := (fun (P : Params) => (Obj.mk (Value.type "tuple") none (Data.seq (List.toArray []) 0) (List.toArray [])))
noncomputable def ho_363 : Params → Obj := (fun (P : Params) => (Obj.mk (Value.type "tuple") none (Data.seq (List.toArray []) 0) (List.toArray [])))
noncomputable def ho_379 : Params → Obj := (fun (P : Params) => (Obj.mk (Value.type "super") none (Data.fields (List.toArray ((Value.ref 249) :: (Value.ref 249) :: (Value.ref 249) :: []))) (List.toArray [])))
noncomputable def ho_385 : Params → Obj := (fun (P : Params) => (Obj.mk Value.none none (Data.func (fdat (stAt 15) (Str.ofString "imported_name") 0 [] Value.none Value.none Value.none Value.none none Value.none Value.none 0 rfl)) (List.toArray [])))
noncomputable def ho_401 : Params → Obj := (fun (P : Params) => (Obj.mk (Value.type "function") none (Data.func (fdat (stAt 17) (Str.ofString "head_of") 3 [] Value.none Value.none Value.none (Value.str (Str.ofString "moduleyard.modset") 481) none (Value.ref 273) Value.none 0 rfl)) (List.toArray [])))
noncomputable def ho_369 : Params → Obj := (fun (P : Params) => (Obj.mk (Value.type "tuple") none (Data.seq (List.toArray ((Value.str (Str.ofString "self") 498) :: (Value.str (Str.ofString "name") 499) :: (Value.str (Str.ofString "imports") 500) :: [])) 0) (List.toArray [])))
noncomputable def ho_393 : Params → Obj := (fun (P : Params) => (Obj.mk (Value.type "code") none (Data.fields (List.toArray ((Value.str (Str.ofString "import_names") 523) :: (Value.str (Str.ofString "import_names") 524) :: (Value.str (Str.ofString "/claim/cut.py") 525) :: (Value.int (211 : Int) 0) :: (Value.int (1 : Int) 0) :: (Value.int (0 : Int) 0) :: (Value.int (0 : Int) 0) :: (Value.int (3 : Int) 0) :: (Value.ref 261) :: (Value.bool true) :: (Value.int (181 : Int) 0) :: (Value.ref 262) :: Value.none :: (Value.ref 263) :: (Value.ref 264) :: (Value.ref 265) :: (Value.int (531 : Int) 0) :: (Value.int (211 : Int) 0) :: (Value.str (Str.ofString "/claim/cut.py") 532) :: []))) (List.toArray [])))
noncomputable def ho_361 : Params → Obj := (fun (P : Params) => (Obj.mk (Value.type "builtin_function_or_method") none (Data.fields (List.toArray ((Value.builtin "type.__prepare__") :: (Value.type "type") :: []))) (List.toArray [])))
noncomputable def ho_377 : Params → Obj := (fun (P : Params) => (Obj.mk (Value.type "getset_descriptor") none (Data.fields (List.toArray ((Value.str (Str.ofString "__dict__") 507) :: (Value.ref 249) :: (Value.builtin "function.__dict__") :: (Value.builtin "function.__dict__#set") :: []))) (List.toArray [])))
noncomputable def ho_389 : Params → Obj := (fun (P : Params) => (Obj.mk Value.none none (Data.fields (List.toArray [])) (List.toArray [])))
noncomputable def ho_405 : Params → Obj := (fun (P : Params) => (Obj.mk (Value.type "tuple") none (Data.seq (List.toArray []) 0) (List.toArray [])))
noncomputable def ho_373 : Params → Obj := (fun (P : Params) => (Obj.mk (Value.type "function") none (Data.func (fdat (mtAt 14 0) (Str.ofString "Head.__init__") 3 [] Value.none Value.none Value.none (Value.str (Str.ofString "moduleyard.modset") 481) none (Value.ref 245) Value.none 0 rfl)) (List.toArray [])))
noncomputable def ho_397 : Params → Obj := (fun (P : Params) => (Obj.mk (Value.type "tuple") none (Data.seq (List.toArray ((Value.str (Str.ofString "source") 537) :: (Value.str (Str.ofString "scanner") 538) :: (Value.str (Str.ofString "token") 539) :: (Value.str (Str.ofString "name") 540) :: [])) 0) (List.toArray [])))
noncomputable def ho_365 : Params → Obj := (fun (P : Params) => (Obj.mk (Value.type "code") none (Data.fields (List.toArray ((Value.str (Str.ofString "Head") 485) :: (Value.str (Str.ofString "Head") 486) :: (Value.str (Str.ofString "/claim/cut.py") 487) :: (Value.int (194 : Int) 0) :: (Value.int (0 : Int) 0) :: (Value.int (0 : Int) 0) :: (Value.int (0 : Int) 0) :: (Value.int (0 : Int) 0) :: (Value.ref 236) :: (Value.bool false) :: (Value.int (181 : Int) 0) :: (Value.ref 237) :: Value.none :: Value.none :: Value.none :: Value.none :: (Value.int (488 : Int) 0) :: (Value.int (194 : Int) 0) :: (Value.str (Str.ofString "/claim/cut.py") 489) :: []))) (List.toArray [])))
noncomputable def ho_381 : Params → Obj := (fun (P : Params) => (Obj.mk (Value.type "tuple") none (Data.seq (List.toArray []) 0) (List.toArray [])))
noncomputable def tree_408 : Params → BT := (fun (P : Params) => (BT.node (boot_o_0 P) (BT.node (boot_o_1 P) (BT.node (ho_358 P) (BT.node (boot_o_7 P) (BT.node (ho_51 P) (BT.node (ho_67 P) (BT.node (ho_99 P) (BT.node (ho_167 P) (BT.node (ho_382 P) BT.nil BT.nil) BT.nil) (BT.node (ho_231 P) BT.nil BT.nil)) (BT.node (ho_133 P) (BT.node (ho_199 P) BT.nil BT.nil) (BT.node (ho_263 P) BT.nil BT.nil))) (BT.node (ho_83 P) (BT.node (ho_117 P) (BT.node (ho_183 P) (BT.node (ho_398 P) BT.nil BT.nil) BT.nil) (BT.node (ho_247 P) BT.nil BT.nil)) (BT.node (ho_149 P) (BT.node (ho_215 P) BT.nil BT.nil) (BT.node (ho_366 P) BT.nil BT.nil)))) (BT.node (ho_59 P) (BT.node (ho_75 P) (BT.node (ho_109 P) (BT.node (ho_175 P) (BT.node (ho_390 P) BT.nil BT.nil) BT.nil) (BT.node (ho_239 P) BT.nil BT.nil)) (BT.node (ho_141 P) (BT.node (ho_207 P) BT.nil BT.nil) (BT.node (ho_271 P) BT.nil BT.nil))) (BT.node (ho_91 P) (BT.node (ho_125 P) (BT.node (ho_191 P) (BT.node (ho_406 P) BT.nil BT.nil) BT.nil) (BT.node (ho_255 P) BT.nil BT.nil)) (BT.node (ho_157 P) (BT.node (ho_223 P) BT.nil BT.nil) (BT.node (ho_374 P) BT.nil BT.nil))))) (BT.node (ho_43 P) (BT.node (ho_55 P) (BT.node (ho_71 P) (BT.node (ho_105 P) (BT.node (ho_171 P) (BT.node (ho_386 P) BT.nil BT.nil) BT.nil) (BT.node (ho_235 P) BT.nil BT.nil)) (BT.node (ho_137 P) (BT.node (ho_203 P) BT.nil BT.nil) (BT.node (ho_267 P) BT.nil BT.nil))) (BT.node (ho_87 P) (BT.node (ho_121 P) (BT.node (ho_187 P) (BT.node (ho_402 P) BT.nil BT.nil) BT.nil) (BT.node (ho_251 P) BT.nil BT.nil)) (BT.node (ho_153 P) (BT.node (ho_219 P) BT.nil BT.nil) (BT.node (ho_370 P) BT.nil BT.nil)))) (BT.node (ho_63 P) (BT.node (ho_79 P) (BT.node (ho_113 P) (BT.node (ho_179 P) (BT.node (ho_394 P) BT.nil BT.nil) BT.nil) (BT.node (ho_243 P) BT.nil BT.nil)) (BT.node (ho_145 P) (BT.node (ho_211 P) BT.nil BT.nil) (BT.node (ho_362 P) BT.nil BT.nil))) (BT.node (ho_95 P) (BT.node (ho_129 P) (BT.node (ho_195 P) BT.nil BT.nil) (BT.node (ho_259 P) BT.nil BT.nil)) (BT.node (ho_163 P) (BT.node (ho_227 P) BT.nil BT.nil) (BT.node (ho_378 P) BT.nil BT.nil)))))) (BT.node (boot_o_5 P) (BT.node (boot_o_9 P) (BT.node (ho_53 P) (BT.node (ho_69 P) (BT.node (ho_103 P) (BT.node (ho_169 P) (BT.node (ho_384 P) BT.nil BT.nil) BT.nil) (BT.node (ho_233 P) BT.nil BT.nil)) (BT.node (ho_135 P) (BT.node (ho_201 P) BT.nil BT.nil) (BT.node (ho_265 P) BT.nil BT.nil))) (BT.node (ho_85 P) (BT.node (ho_119 P) (BT.node (ho_185 P) (BT.node (ho_400 P) BT.nil BT.nil) BT.nil) (BT.node (ho_249 P) BT.nil BT.nil)) (BT.node (ho_151 P) (BT.node (ho_217 P) BT.nil BT.nil) (BT.node (ho_368 P) BT.nil BT.nil)))) (BT.node (ho_61 P) (BT.node (ho_77 P) (BT.node (ho_111 P) (BT.node (ho_177 P) (BT.node (ho_392 P) BT.nil BT.nil) BT.nil) (BT.node (ho_241 P) BT.nil BT.nil)) (BT.node (ho_143 P) (BT.node (ho_209 P) BT.nil BT.nil) (BT.node (ho_360 P) BT.nil BT.nil))) (BT.node (ho_93 P) (BT.node (ho_127 P) (BT.node (ho_193 P) (BT.node (ho_408 P) BT.nil BT.nil) BT.nil) (BT.node (ho_257 P) BT.nil BT.nil)) (BT.node (ho_161 P) (BT.node (ho_225 P) BT.nil BT.nil) (BT.node (ho_376 P) BT.nil BT.nil))))) (BT.node (ho_45 P) (BT.node (ho_57 P) (BT.node (ho_73 P) (BT.node (ho_107 P) (BT.node (ho_173 P) (BT.node (ho_388 P) BT.nil BT.nil) BT.nil) (BT.node (ho_237 P) BT.nil BT.nil)) (BT.node (ho_139 P) (BT.node (ho_205 P) BT.nil BT.nil) (BT.node (ho_269 P) BT.nil BT.nil))) (BT.node (ho_89 P) (BT.node (ho_123 P) (BT.node (ho_189 P) (BT.node (ho_404 P) BT.nil BT.nil) BT.nil) (BT.node (ho_253 P) BT.nil BT.nil)) (BT.node (ho_155 P) (BT.node (ho_221 P) BT.nil BT.nil) (BT.node (ho_372 P) BT.nil BT.nil)))) (BT.node (ho_65 P) (BT.node (ho_81 P) (BT.node (ho_115 P) (BT.node (ho_181 P) (BT.node (ho_396 P) BT.nil BT.nil) BT.nil) (BT.node (ho_245 P) BT.nil BT.nil)) (BT.node (ho_147 P) (BT.node (ho_213 P) BT.nil BT.nil) (BT.node (ho_364 P) BT.nil BT.nil))) (BT.node (ho_97 P) (BT.node (ho_131 P) (BT.node (ho_197 P) BT.nil BT.nil) (BT.node (ho_261 P) BT.nil BT.nil)) (BT.node (ho_165 P) (BT.node (ho_229 P) BT.nil BT.nil) (BT.node (ho_380 P) BT.nil BT.nil))))))) (BT.node (boot_o_2 P) (BT.node (boot_o_4 P) (BT.node (boot_o_8 P) (BT.node (ho_52 P) (BT.node (ho_68 P) (BT.node (ho_102 P) (BT.node (ho_168 P) (BT.node (ho_383 P) BT.nil BT.nil) BT.nil) (BT.node (ho_232 P) BT.nil BT.nil)) (BT.node (ho_134 P) (BT.node (ho_200 P) BT.nil BT.nil) (BT.node (ho_264 P) BT.nil BT.nil))) (BT.node (ho_84 P) (BT.node (ho_118 P) (BT.node (ho_184 P) (BT.node (ho_399 P) BT.nil BT.nil) BT.nil) (BT.node (ho_248 P) BT.nil BT.nil)) (BT.node (ho_150 P) (BT.node (ho_216 P) BT.nil BT.nil) (BT.node (ho_367 P) BT.nil BT.nil)))) (BT.node (ho_60 P) (BT.node (ho_76 P) (BT.node (ho_110 P) (BT.node (ho_176 P) (BT.node (ho_391 P) BT.nil BT.nil) BT.nil) (BT.node (ho_240 P) BT.nil BT.nil)) (BT.node (ho_142 P) (BT.node (ho_208 P) BT.nil BT.nil) (BT.node (ho_272 P) BT.nil BT.nil))) (BT.node (ho_92 P) (BT.node (ho_126 P) (BT.node (ho_192 P) (BT.node (ho_407 P) BT.nil BT.nil) BT.nil) (BT.node (ho_256 P) BT.nil BT.nil)) (BT.node (ho_160 P) (BT.node (ho_224 P) BT.nil BT.nil) (BT.node (ho_375 P) BT.nil BT.nil))))) (BT.node (ho_359 P) (BT.node (ho_56 P) (BT.node (ho_72 P) (BT.node (ho_106 P) (BT.node (ho_172 P) (BT.node (ho_387 P) BT.nil BT.nil) BT.nil) (BT.node (ho_236 P) BT.nil BT.nil)) (BT.node (ho_138 P) (BT.node (ho_204 P) BT.nil BT.nil) (BT.node (ho_268 P) BT.nil BT.nil))) (BT.node (ho_88 P) (BT.node (ho_122 P) (BT.node (ho_188 P) (BT.node (ho_403 P) BT.nil BT.nil) BT.nil) (BT.node (ho_252 P) BT.nil BT.nil)) (BT.node (ho_154 P) (BT.node (ho_220 P) BT.nil BT.nil) (BT.node (ho_371 P) BT.nil BT.nil)))) (BT.node (ho_64 P) (BT.node (ho_80 P) (BT.node (ho_114 P) (BT.node (ho_180 P) (BT.node (ho_395 P) BT.nil BT.nil) BT.nil) (BT.node (ho_244 P) BT.nil BT.nil)) (BT.node (ho_146 P) (BT.node (ho_212 P) BT.nil BT.nil) (BT.node (ho_363 P) BT.nil BT.nil))) (BT.node (ho_96 P) (BT.node (ho_130 P) (BT.node (ho_196 P) BT.nil BT.nil) (BT.node (ho_260 P) BT.nil BT.nil)) (BT.node (ho_164 P) (BT.node (ho_228 P) BT.nil BT.nil) (BT.node (ho_379 P) BT.nil BT.nil)))))) (BT.node (boot_o_6 P) (BT.node (boot_o_10 P) (BT.node (ho_54 P) (BT.node (ho_70 P) (BT.node (ho_104 P) (BT.node (ho_170 P) (BT.node (ho_385 P) BT.nil BT.nil) BT.nil) (BT.node (ho_234 P) BT.nil BT.nil)) (BT.node (ho_136 P) (BT.node (ho_202 P) BT.nil BT.nil) (BT.node (ho_266 P) BT.nil BT.nil))) (BT.node (ho_86 P) (BT.node (ho_120 P) (BT.node (ho_186 P) (BT.node (ho_401 P) BT.nil BT.nil) BT.nil) (BT.node (ho_250 P) BT.nil BT.nil)) (BT.node (ho_152 P) (BT.node (ho_218 P) BT.nil BT.nil) (BT.node (ho_369 P) BT.nil BT.nil)))) (BT.node (ho_62 P) (BT.node (ho_78 P) (BT.node (ho_112 P) (BT.node (ho_178 P) (BT.node (ho_393 P) BT.nil BT.nil) BT.nil) (BT.node (ho_242 P) BT.nil BT.nil)) (BT.node (ho_144 P) (BT.node (ho_210 P) BT.nil BT.nil) (BT.node (ho_361 P) BT.nil BT.nil))) (BT.node (ho_94 P) (BT.node (ho_128 P) (BT.node (ho_194 P) BT.nil BT.nil) (BT.node (ho_258 P) BT.nil BT.nil)) (BT.node (ho_162 P) (BT.node (ho_226 P) BT.nil BT.nil) (BT.node (ho_377 P) BT.nil BT.nil))))) (BT.node (ho_46 P) (BT.node (ho_58 P) (BT.node (ho_74 P) (BT.node (ho_108 P) (BT.node (ho_174 P) (BT.node (ho_389 P) BT.nil BT.nil) BT.nil) (BT.node (ho_238 P) BT.nil BT.nil)) (BT.node (ho_140 P) (BT.node (ho_206 P) BT.nil BT.nil) (BT.node (ho_270 P) BT.nil BT.nil))) (BT.node (ho_90 P) (BT.node (ho_124 P) (BT.node (ho_190 P) (BT.node (ho_405 P) BT.nil BT.nil) BT.nil) (BT.node (ho_254 P) BT.nil BT.nil)) (BT.node (ho_156 P) (BT.node (ho_222 P) BT.nil BT.nil) (BT.node (ho_373 P) BT.nil BT.nil)))) (BT.node (ho_66 P) (BT.node (ho_82 P) (BT.node (ho_116 P) (BT.node (ho_182 P) (BT.node (ho_397 P) BT.nil BT.nil) BT.nil) (BT.node (ho_246 P) BT.nil BT.nil)) (BT.node (ho_148 P) (BT.node (ho_214 P) BT.nil BT.nil) (BT.node (ho_365 P) BT.nil BT.nil))) (BT.node (ho_98 P) (BT.node (ho_132 P) (BT.node (ho_198 P) BT.nil BT.nil) (BT.node (ho_262 P) BT.nil BT.nil)) (BT.node (ho_166 P) (BT.node (ho_230 P) BT.nil BT.nil) (BT.node (ho_381 P) BT.nil BT.nil)))))))))
noncomputable def sts_409 : List Stmt := ((stOf 20 rfl) :: (stOf 21 rfl) :: (stOf 22 rfl) :: (stOf 23 rfl) :: (stOf 24 rfl) :: [])
noncomputable def ho_409 : Params → Obj := (fun (P : Params) => (Obj.mk (Value.type "dict") none (Data.dict (List.toArray ((DictEntry.mk (PyData.keyHash P (Str.ofString "__name__")) (Value.str (Str.ofString "__name__") 165) (Value.str (Str.ofString "law_on0211_01") 544)) :: (DictEntry.mk (PyData.keyHash P (Str.ofString "__doc__")) (Value.str (Str.ofString "__doc__") 166) Value.none) :: (DictEntry.mk (PyData.keyHash P (Str.ofString "__package__")) (Value.str (Str.ofString "__package__") 167) Value.none) :: (DictEntry.mk (PyData.keyHash P (Str.ofString "__loader__")) (Value.str (Str.ofString "__loader__") 168) (Value.builtin "__main__.__loader__#opaque")) :: (DictEntry.mk (PyData.keyHash P (Str.ofString "__spec__")) (Value.str (Str.ofString "__spec__") 169) Value.none) :: (DictEntry.mk (PyData.keyHash P (Str.ofString "__annotations__")) (Value.str (Str.ofString "__annotations__") 170) (Value.ref 6)) :: (DictEntry.mk (PyData.keyHash P (Str.ofString "__builtins__")) (Value.str (Str.ofString "__builtins__") 171) (Value.ref 4)) :: (DictEntry.mk (PyData.keyHash P (Str.ofString "__file__")) (Value.str (Str.ofString "__file__") 173) (Value.str (Str.ofString "/claim/cut.py") 172)) :: (DictEntry.mk (PyData.keyHash P (Str.ofString "__cached__")) (Value.str (Str.ofString "__cached__") 174) Value.none) :: (DictEntry.mk (PyData.keyHash P (Str.ofString "_wall")) (Value.str (Str.ofString "_wall") 193) (Value.ref 21)) :: (DictEntry.mk (PyData.keyHash P (Str.ofString "ErrorList")) (Value.str (Str.ofString "ErrorList") 247) (Value.ref 59)) :: (DictEntry.mk (PyData.keyHash P (Str.ofString "MOST_INTEGER")) (Value.str (Str.ofString "MOST_INTEGER") 251) (Value.int (2147483647 : Int) 250)) :: (DictEntry.mk (PyData.keyHash P (Str.ofString "MOST_WORD")) (Value.str (Str.ofString "MOST_WORD") 253) (Value.int (4294967295 : Int) 252)) :: (DictEntry.mk (PyData.keyHash P (Str.ofString "Token")) (Value.str (Str.ofString "Token") 286) (Value.ref 80)) :: (DictEntry.mk (PyData.keyHash P (Str.ofString "keywords")) (Value.str (Str.ofString "keywords") 292) (Value.ref 91)) :: (DictEntry.mk (PyData.keyHash P (Str.ofString "is_letter")) (Value.str (Str.ofString "is_letter") 299) (Value.ref 98)) :: (DictEntry.mk (PyData.keyHash P (Str.ofString "is_digit")) (Value.str (Str.ofString "is_digit") 306) (Value.ref 105)) :: (DictEntry.mk (PyData.keyHash P (Str.ofString "is_hex_digit")) (Value.str (Str.ofString "is_hex_digit") 313) (Value.ref 112)) :: (DictEntry.mk (PyData.keyHash P (Str.ofString "digits_value")) (Value.str (Str.ofString "digits_value") 324) (Value.ref 119)) :: (DictEntry.mk (PyData.keyHash P (Str.ofString "Scanner")) (Value.str (Str.ofString "Scanner") 480) (Value.ref 228)) :: (DictEntry.mk (PyData.keyHash P (Str.ofString "Head")) (Value.str (Str.ofString "Head") 513) (Value.ref 249)) :: (DictEntry.mk (PyData.keyHash P (Str.ofString "imported_name")) (Value.str (Str.ofString "imported_name") 522) (Value.ref 260)) :: (DictEntry.mk (PyData.keyHash P (Str.ofString "import_names")) (Value.str (Str.ofString "import_names") 533) (Value.ref 267)) :: (DictEntry.mk (PyData.keyHash P (Str.ofString "head_of")) (Value.str (Str.ofString "head_of") 543) (Value.ref 274)) :: (DictEntry.mk (PyData.keyHash P (Str.ofString "_law_figures")) (Value.str (Str.ofString "_law_figures") 556) (Value.ref 281)) :: (DictEntry.mk (PyData.keyHash P (Str.ofString "_law_draw")) (Value.str (Str.ofString "_law_draw") 564) (Value.ref 288)) :: (DictEntry.mk (PyData.keyHash P (Str.ofString "_law_gap")) (Value.str (Str.ofString "_law_gap") 571) (Value.ref 295)) :: (DictEntry.mk (PyData.keyHash P (Str.ofString "_law_is_name")) (Value.str (Str.ofString "_law_is_name") 578) (Value.ref 302)) :: (DictEntry.mk (PyData.keyHash P (Str.ofString "_law_due")) (Value.str (Str.ofString "_law_due") 584) (Value.ref 307)) :: (DictEntry.mk (PyData.keyHash P (Str.ofString "law")) (Value.str (Str.ofString "law") 590) (Value.ref 312)) :: [])) 30) (List.toArray [])))
noncomputable def ho_416 : Params → Obj := (fun (P : Params) => (Obj.mk (Value.type "code") none (Data.fields (List.toArray ((Value.str (Str.ofString "_law_draw") 557) :: (Value.str (Str.ofString "_law_draw") 558) :: (Value.str (Str.ofString "/claim/cut.py") 559) :: (Value.int (245 : Int) 0) :: (Value.int (2 : Int) 0) :: (Value.int (0 : Int) 0) :: (Value.int (0 : Int) 0) :: (Value.int (3 : Int) 0) :: (Value.ref 282) :: (Value.bool true) :: (Value.int (181 : Int) 0) :: (Value.ref 283) :: Value.none :: (Value.ref 284) :: (Value.ref 285) :: (Value.ref 286) :: (Value.int (562 : Int) 0) :: (Value.int (245 : Int) 0) :: (Value.str (Str.ofString "/claim/cut.py") 563) :: []))) (List.toArray [])))
noncomputable def ho_432 : Params → Obj := (fun (P : Params) => (Obj.mk (Value.type "tuple") none (Data.seq (List.toArray []) 0) (List.toArray [])))
noncomputable def ho_424 : Params → Obj := (fun (P : Params) => (Obj.mk (Value.type "function") none (Data.func (fdat (stAt 21) (Str.ofString "_law_gap") 3 [] Value.none Value.none Value.none (Value.str (Str.ofString "law_on0211_01") 544) none (Value.ref 294) Value.none 0 rfl)) (List.toArray [])))
noncomputable def ho_440 : Params → Obj := (fun (P : Params) => (Obj.mk (Value.type "code") none (Data.fields (List.toArray ((Value.str (Str.ofString "law") 585) :: (Value.str (Str.ofString "law") 586) :: (Value.str (Str.ofString "/claim/cut.py") 587) :: (Value.int (266 : Int) 0) :: (Value.int (1 : Int) 0) :: (Value.int (0 : Int) 0) :: (Value.int (0 : Int) 0) :: (Value.int (3 : Int) 0) :: (Value.ref 308) :: (Value.bool true) :: (Value.int (181 : Int) 0) :: (Value.ref 309) :: Value.none :: Value.none :: Value.none :: (Value.ref 310) :: (Value.int (588 : Int) 0) :: (Value.int (266 : Int) 0) :: (Value.str (Str.ofString "/claim/cut.py") 589) :: []))) (List.toArray [])))
noncomputable def ho_420 : Params → Obj := (fun (P : Params) => (Obj.mk (Value.type "tuple") none (Data.seq (List.toArray ((Value.str (Str.ofString "figures") 568) :: [])) 0) (List.toArray [])))
noncomputable def ho_436 : Params → Obj := (fun (P : Params) => (Obj.mk (Value.type "function") none (Data.func (fdat (stAt 23) (Str.ofString "_law_due") 3 [] Value.none Value.none Value.none (Value.str (Str.ofString "law_on0211_01") 544) none (Value.ref 306) Value.none 0 rfl)) (List.toArray [])))
noncomputable def ho_428 : Params → Obj := (fun (P : Params) => (Obj.mk (Value.type "tuple") none (Data.seq (List.toArray []) 0) (List.toArray [])))
noncomputable def ho_412 : Params → Obj := (fun (P : Params) => (Obj.mk Value.none none (Data.fields (List.toArray [])) (List.toArray [])))
noncomputable def ho_418 : Params → Obj := (fun (P : Params) => (Obj.mk (Value.type "tuple") none (Data.seq (List.toArray []) 0) (List.toArray [])))
noncomputable def ho_434 : Params → Obj := (fun (P : Params) => (Obj.mk Value.none none (Data.func (fdat (stAt 23) (Str.ofString "_law_due") 0 [] Value.none Value.none Value.none Value.none none Value.none Value.none 0 rfl)) (List.toArray [])))
noncomputable def ho_426 : Params → Obj := (fun (P : Params) => (Obj.mk Value.none none (Data.fields (List.toArray [])) (List.toArray [])))
noncomputable def ho_422 : Params → Obj := (fun (P : Params) => (Obj.mk Value.none none (Data.func (fdat (stAt 21) (Str.ofString "_law_gap") 0 [] Value.none Value.none Value.none Value.none none Value.none Value.none 0 rfl)) (List.toArray [])))
noncomputable def ho_438 : Params → Obj := (fun (P : Params) => (Obj.mk Value.none none (Data.fields (List.toArray [])) (List.toArray [])))
noncomputable def ho_430 : Params → Obj := (fun (P : Params) => (Obj.mk (Value.type "code") none (Data.fields (List.toArray ((Value.str (Str.ofString "_law_is_name") 572) :: (Value.str (Str.ofString "_law_is_name") 573) :: (Value.str (Str.ofString "/claim/cut.py") 574) :: (Value.int (249 : Int) 0) :: (Value.int (1 : Int) 0) :: (Value.int (0 : Int) 0) :: (Value.int (0 : Int) 0) :: (Value.int (3 : Int) 0) :: (Value.ref 296) :: (Value.bool true) :: (Value.int (181 : Int) 0) :: (Value.ref 297) :: Value.none :: (Value.ref 298) :: (Value.ref 299) :: (Value.ref 300) :: (Value.int (576 : Int) 0) :: (Value.int (249 : Int) 0) :: (Value.str (Str.ofString "/claim/cut.py") 577) :: []))) (List.toArray [])))
noncomputable def ho_414 : Params → Obj := (fun (P : Params) => (Obj.mk (Value.type "tuple") none (Data.seq (List.toArray []) 0) (List.toArray [])))
noncomputable def ho_417 : Params → Obj := (fun (P : Params) => (Obj.mk (Value.type "function") none (Data.func (fdat (stAt 20) (Str.ofString "_law_draw") 3 [] Value.none Value.none Value.none (Value.str (Str.ofString "law_on0211_01") 544) none (Value.ref 287) Value.none 0 rfl)) (List.toArray [])))
noncomputable def ho_433 : Params → Obj := (fun (P : Params) => (Obj.mk Value.none none (Data.fields (List.toArray [])) (List.toArray [])))
noncomputable def ho_425 : Params → Obj := (fun (P : Params) => (Obj.mk (Value.type "tuple") none (Data.seq (List.toArray []) 0) (List.toArray [])))
noncomputable def ho_441 : Params → Obj := (fun (P : Params) => (Obj.mk (Value.type "function") none (Data.func (fdat (stAt 24) (Str.ofString "law") 3 [] Value.none Value.none Value.none (Value.str (Str.ofString "law_on0211_01") 544) none (Value.ref 311) Value.none 0 rfl)) (List.toArray [])))
noncomputable def ho_410 : Params → Obj := (fun (P : Params) => (Obj.mk Value.none none (Data.fields (List.toArray ((Value.int (1 : Int) 0) :: (Value.int (0 : Int) 0) :: (Value.ref 20) :: (Value.int (5 : Int) 0) :: (Value.int (0 : Int) 0) :: (Value.ref 27) :: (Value.int (24 : Int) 0) :: (Value.int (0 : Int) 0) :: (Value.ref 69) :: (Value.int (30 : Int) 0) :: (Value.int (0 : Int) 0) :: (Value.ref 90) :: (Value.int (32 : Int) 0) :: (Value.int (0 : Int) 0) :: (Value.ref 97) :: (Value.int (34 : Int) 0) :: (Value.int (0 : Int) 0) :: (Value.ref 104) :: (Value.int (36 : Int) 0) :: (Value.int (0 : Int) 0) :: (Value.ref 111) :: (Value.int (38 : Int) 0) :: (Value.int (0 : Int) 0) :: (Value.ref 118) :: (Value.int (45 : Int) 0) :: (Value.int (0 : Int) 0) :: (Value.ref 125) :: (Value.int (194 : Int) 0) :: (Value.int (0 : Int) 0) :: (Value.ref 238) :: (Value.int (199 : Int) 0) :: (Value.int (0 : Int) 0) :: (Value.ref 259) :: (Value.int (211 : Int) 0) :: (Value.int (0 : Int) 0) :: (Value.ref 266) :: (Value.int (220 : Int) 0) :: (Value.int (0 : Int) 0) :: (Value.ref 273) :: (Value.int (232 : Int) 0) :: (Value.int (0 : Int) 0) :: (Value.ref 280) :: (Value.int (245 : Int) 0) :: (Value.int (0 : Int) 0) :: (Value.ref 287) :: (Value.int (247 : Int) 0) :: (Value.int (0 : Int) 0) :: (Value.ref 294) :: (Value.int (249 : Int) 0) :: (Value.int (0 : Int) 0) :: (Value.ref 301) :: (Value.int (251 : Int) 0) :: (Value.int (0 : Int) 0) :: (Value.ref 306) :: (Value.int (266 : Int) 0) :: (Value.int (0 : Int) 0) :: (Value.ref 311) :: []))) (List.toArray [])))
noncomputable def ho_421 : Params → Obj := (fun (P : Params) => (Obj.mk (Value.type "tuple") none (Data.seq (List.toArray []) 0) (List.toArray [])))
noncomputable def ho_437 : Params → Obj := (fun (P : Params) => (Obj.mk (Value.type "tuple") none (Data.seq (List.toArray []) 0) (List.toArray [])))
noncomputable def ho_429 : Params → Obj := (fun (P : Params) => (Obj.mk Value.none none (Data.func (fdat (stAt 22) (Str.ofString "_law_is_name") 0 [] Value.none Value.none Value.none Value.none none Value.none Value.none 0 rfl)) (List.toArray [])))
noncomputable def ho_413 : Params → Obj := (fun (P : Params) => (Obj.mk (Value.type "tuple") none (Data.seq (List.toArray ((Value.str (Str.ofString "figures") 560) :: (Value.str (Str.ofString "limit") 561) :: [])) 0) (List.toArray [])))
noncomputable def ho_419 : Params → Obj := (fun (P : Params) => (Obj.mk Value.none none (Data.fields (List.toArray [])) (List.toArray [])))
noncomputable def ho_435 : Params → Obj := (fun (P : Params) => (Obj.mk (Value.type "code") none (Data.fields (List.toArray ((Value.str (Str.ofString "_law_due") 579) :: (Value.str (Str.ofString "_law_due") 580) :: (Value.str (Str.ofString "/claim/cut.py") 581) :: (Value.int (251 : Int) 0) :: (Value.int (1 : Int) 0) :: (Value.int (0 : Int) 0) :: (Value.int (0 : Int) 0) :: (Value.int (3 : Int) 0) :: (Value.ref 303) :: (Value.bool true) :: (Value.int (181 : Int) 0) :: (Value.ref 304) :: Value.none :: Value.none :: Value.none :: (Value.ref 305) :: (Value.int (582 : Int) 0) :: (Value.int (251 : Int) 0) :: (Value.str (Str.ofString "/claim/cut.py") 583) :: []))) (List.toArray [])))
noncomputable def ho_427 : Params → Obj := (fun (P : Params) => (Obj.mk (Value.type "tuple") none (Data.seq (List.toArray ((Value.str (Str.ofString "word") 575) :: [])) 0) (List.toArray [])))
noncomputable def ho_411 : Params → Obj := (fun (P : Params) => (Obj.mk (Value.type "tuple") none (Data.seq (List.toArray []) 0) (List.toArray [])))
noncomputable def ho_423 : Params → Obj := (fun (P : Params) => (Obj.mk (Value.type "code") none (Data.fields (List.toArray ((Value.str (Str.ofString "_law_gap") 565) :: (Value.str (Str.ofString "_law_gap") 566) :: (Value.str (Str.ofString "/claim/cut.py") 567) :: (Value.int (247 : Int) 0) :: (Value.int (1 : Int) 0) :: (Value.int (0 : Int) 0) :: (Value.int (0 : Int) 0) :: (Value.int (3 : Int) 0) :: (Value.ref 289) :: (Value.bool true) :: (Value.int (181 : Int) 0) :: (Value.ref 290) :: Value.none :: (Value.ref 291) :: (Value.ref 292) :: (Value.ref 293) :: (Value.int (569 : Int) 0) :: (Value.int (247 : Int) 0) :: (Value.str (Str.ofString "/claim/cut.py") 570) :: []))) (List.toArray [])))
noncomputable def ho_439 : Params → Obj := (fun (P : Params) => (Obj.mk Value.none none (Data.func (fdat (stAt 24) (Str.ofString "law") 0 [] Value.none Value.none Value.none Value.none none Value.none Value.none 0 rfl)) (List.toArray [])))
noncomputable def ho_431 : Params → Obj := (fun (P : Params) => (Obj.mk (Value.type "function") none (Data.func (fdat (stAt 22) (Str.ofString "_law_is_name") 3 [] Value.none Value.none Value.none (Value.str (Str.ofString "law_on0211_01") 544) none (Value.ref 301) Value.none 0 rfl)) (List.toArray [])))
noncomputable def ho_415 : Params → Obj := (fun (P : Params) => (Obj.mk Value.none none (Data.func (fdat (stAt 20) (Str.ofString "_law_draw") 0 [] Value.none Value.none Value.none Value.none none Value.none Value.none 0 rfl)) (List.toArray [])))
noncomputable def tree_441 : Params → BT := (fun (P : Params) => (BT.node (boot_o_0 P) (BT.node (boot_o_1 P) (BT.node (ho_409 P) (BT.node (boot_o_7 P) (BT.node (ho_51 P) (BT.node (ho_67 P) (BT.node (ho_99 P) (BT.node (ho_167 P) (BT.node (ho_382 P) BT.nil BT.nil) BT.nil) (BT.node (ho_231 P) BT.nil BT.nil)) (BT.node (ho_133 P) (BT.node (ho_199 P) (BT.node (ho_416 P) BT.nil BT.nil) BT.nil) (BT.node (ho_263 P) BT.nil BT.nil))) (BT.node (ho_83 P) (BT.node (ho_117 P) (BT.node (ho_183 P) (BT.node (ho_398 P) BT.nil BT.nil) BT.nil) (BT.node (ho_247 P) BT.nil BT.nil)) (BT.node (ho_149 P) (BT.node (ho_215 P) (BT.node (ho_432 P) BT.nil BT.nil) BT.nil) (BT.node (ho_366 P) BT.nil BT.nil)))) (BT.node (ho_59 P) (BT.node (ho_75 P) (BT.node (ho_109 P) (BT.node (ho_175 P) (BT.node (ho_390 P) BT.nil BT.nil) BT.nil) (BT.node (ho_239 P) BT.nil BT.nil)) (BT.node (ho_141 P) (BT.node (ho_207 P) (BT.node (ho_424 P) BT.nil BT.nil) BT.nil) (BT.node (ho_271 P) BT.nil BT.nil))) (BT.node (ho_91 P) (BT.node (ho_125 P) (BT.node (ho_191 P) (BT.node (ho_406 P) BT.nil BT.nil) BT.nil) (BT.node (ho_255 P) BT.nil BT.nil)) (BT.node (ho_157 P) (BT.node (ho_223 P) (BT.node (ho_440 P) BT.nil BT.nil) BT.nil) (BT.node (ho_374 P) BT.nil BT.nil))))) (BT.node (ho_43 P) (BT.node (ho_55 P) (BT.node (ho_71 P) (BT.node (ho_105 P) (BT.node (ho_171 P) (BT.node (ho_386 P) BT.nil BT.nil) BT.nil) (BT.node (ho_235 P) BT.nil BT.nil)) (BT.node (ho_137 P) (BT.node (ho_203 P) (BT.node (ho_420 P) BT.nil BT.nil) BT.nil) (BT.node (ho_267 P) BT.nil BT.nil))) (BT.node (ho_87 P) (BT.node (ho_121 P) (BT.node (ho_187 P) (BT.node (ho_402 P) BT.nil BT.nil) BT.nil) (BT.node (ho_251 P) BT.nil BT.nil)) (BT.node (ho_153 P) (BT.node (ho_219 P) (BT.node (ho_436 P) BT.nil BT.nil) BT.nil) (BT.node (ho_370 P) BT.nil BT.nil)))) (BT.node (ho_63 P) (BT.node (ho_79 P) (BT.node (ho_113 P) (BT.node (ho_179 P) (BT.node (ho_394 P) BT.nil BT.nil) BT.nil) (BT.node (ho_243 P) BT.nil BT.nil)) (BT.node (ho_145 P) (BT.node (ho_211 P) (BT.node (ho_428 P) BT.nil BT.nil) BT.nil) (BT.node (ho_362 P) BT.nil BT.nil))) (BT.node (ho_95 P) (BT.node (ho_129 P) (BT.node (ho_195 P) (BT.node (ho_412 P) BT.nil BT.nil) BT.nil) (BT.node (ho_259 P) BT.nil BT.nil)) (BT.node (ho_163 P) (BT.node (ho_227 P) BT.nil BT.nil) (BT.node (ho_378 P) BT.nil BT.nil)))))) (BT.node (boot_o_5 P) (BT.node (boot_o_9 P) (BT.node (ho_53 P) (BT.node (ho_69 P) (BT.node (ho_103 P) (BT.node (ho_169 P) (BT.node (ho_384 P) BT.nil BT.nil) BT.nil) (BT.node (ho_233 P) BT.nil BT.nil)) (BT.node (ho_135 P) (BT.node (ho_201 P) (BT.node (ho_418 P) BT.nil BT.nil) BT.nil) (BT.node (ho_265 P) BT.nil BT.nil))) (BT.node (ho_85 P) (BT.node (ho_119 P) (BT.node (ho_185 P) (BT.node (ho_400 P) BT.nil BT.nil) BT.nil) (BT.node (ho_249 P) BT.nil BT.nil)) (BT.node (ho_151 P) (BT.node (ho_217 P) (BT.node (ho_434 P) BT.nil BT.nil) BT.nil) (BT.node (ho_368 P) BT.nil BT.nil)))) (BT.node (ho_61 P) (BT.node (ho_77 P) (BT.node (ho_111 P) (BT.node (ho_177 P) (BT.node (ho_392 P) BT.nil BT.nil) BT.nil) (BT.node (ho_241 P) BT.nil BT.nil)) (BT.node (ho_143 P) (BT.node (ho_209 P) (BT.node (ho_426 P) BT.nil BT.nil) BT.nil) (BT.node (ho_360 P) BT.nil BT.nil))) (BT.node (ho_93 P) (BT.node (ho_127 P) (BT.node (ho_193 P) (BT.node (ho_408 P) BT.nil BT.nil) BT.nil) (BT.node (ho_257 P) BT.nil BT.nil)) (BT.node (ho_161 P) (BT.node (ho_225 P) BT.nil BT.nil) (BT.node (ho_376 P) BT.nil BT.nil))))) (BT.node (ho_45 P) (BT.node (ho_57 P) (BT.node (ho_73 P) (BT.node (ho_107 P) (BT.node (ho_173 P) (BT.node (ho_388 P) BT.nil BT.nil) BT.nil) (BT.node (ho_237 P) BT.nil BT.nil)) (BT.node (ho_139 P) (BT.node (ho_205 P) (BT.node (ho_422 P) BT.nil BT.nil) BT.nil) (BT.node (ho_269 P) BT.nil BT.nil))) (BT.node (ho_89 P) (BT.node (ho_123 P) (BT.node (ho_189 P) (BT.node (ho_404 P) BT.nil BT.nil) BT.nil) (BT.node (ho_253 P) BT.nil BT.nil)) (BT.node (ho_155 P) (BT.node (ho_221 P) (BT.node (ho_438 P) BT.nil BT.nil) BT.nil) (BT.node (ho_372 P) BT.nil BT.nil)))) (BT.node (ho_65 P) (BT.node (ho_81 P) (BT.node (ho_115 P) (BT.node (ho_181 P) (BT.node (ho_396 P) BT.nil BT.nil) BT.nil) (BT.node (ho_245 P) BT.nil BT.nil)) (BT.node (ho_147 P) (BT.node (ho_213 P) (BT.node (ho_430 P) BT.nil BT.nil) BT.nil) (BT.node (ho_364 P) BT.nil BT.nil))) (BT.node (ho_97 P) (BT.node (ho_131 P) (BT.node (ho_197 P) (BT.node (ho_414 P) BT.nil BT.nil) BT.nil) (BT.node (ho_261 P) BT.nil BT.nil)) (BT.node (ho_165 P) (BT.node (ho_229 P) BT.nil BT.nil) (BT.node (ho_380 P) BT.nil BT.nil))))))) (BT.node (boot_o_2 P) (BT.node (boot_o_4 P) (BT.node (boot_o_8 P) (BT.node (ho_52 P) (BT.node (ho_68 P) (BT.node (ho_102 P) (BT.node (ho_168 P) (BT.node (ho_383 P) BT.nil BT.nil) BT.nil) (BT.node (ho_232 P) BT.nil BT.nil)) (BT.node (ho_134 P) (BT.node (ho_200 P) (BT.node (ho_417 P) BT.nil BT.nil) BT.nil) (BT.node (ho_264 P) BT.nil BT.nil))) (BT.node (ho_84 P) (BT.node (ho_118 P) (BT.node (ho_184 P) (BT.node (ho_399 P) BT.nil BT.nil) BT.nil) (BT.node (ho_248 P) BT.nil BT.nil)) (BT.node (ho_150 P) (BT.node (ho_216 P) (BT.node (ho_433 P) BT.nil BT.nil) BT.nil) (BT.node (ho_367 P) BT.nil BT.nil)))) (BT.node (ho_60 P) (BT.node (ho_76 P) (BT.node (ho_110 P) (BT.node (ho_176 P) (BT.node (ho_391 P) BT.nil BT.nil) BT.nil) (BT.node (ho_240 P) BT.nil BT.nil)) (BT.node (ho_142 P) (BT.node (ho_208 P) (BT.node (ho_425 P) BT.nil BT.nil) BT.nil) (BT.node (ho_272 P) BT.nil BT.nil))) (BT.node (ho_92 P) (BT.node (ho_126 P) (BT.node (ho_192 P) (BT.node (ho_407 P) BT.nil BT.nil) BT.nil) (BT.node (ho_256 P) BT.nil BT.nil)) (BT.node (ho_160 P) (BT.node (ho_224 P) (BT.node (ho_441 P) BT.nil BT.nil) BT.nil) (BT.node (ho_375 P) BT.nil BT.nil))))) (BT.node (ho_410 P) (BT.node (ho_56 P) (BT.node (ho_72 P) (BT.node (ho_106 P) (BT.node (ho_172 P) (BT.node (ho_387 P) BT.nil BT.nil) BT.nil) (BT.node (ho_236 P) BT.nil BT.nil)) (BT.node (ho_138 P) (BT.node (ho_204 P) (BT.node (ho_421 P) BT.nil BT.nil) BT.nil) (BT.node (ho_268 P) BT.nil BT.nil))) (BT.node (ho_88 P) (BT.node (ho_122 P) (BT.node (ho_188 P) (BT.node (ho_403 P) BT.nil BT.nil) BT.nil) (BT.node (ho_252 P) BT.nil BT.nil)) (BT.node (ho_154 P) (BT.node (ho_220 P) (BT.node (ho_437 P) BT.nil BT.nil) BT.nil) (BT.node (ho_371 P) BT.nil BT.nil)))) (BT.node (ho_64 P) (BT.node (ho_80 P) (BT.node (ho_114 P) (BT.node (ho_180 P) (BT.node (ho_395 P) BT.nil BT.nil) BT.nil) (BT.node (ho_244 P) BT.nil BT.nil)) (BT.node (ho_146 P) (BT.node (ho_212 P) (BT.node (ho_429 P) BT.nil BT.nil) BT.nil) (BT.node (ho_363 P) BT.nil BT.nil))) (BT.node (ho_96 P) (BT.node (ho_130 P) (BT.node (ho_196 P) (BT.node (ho_413 P) BT.nil BT.nil) BT.nil) (BT.node (ho_260 P) BT.nil BT.nil)) (BT.node (ho_164 P) (BT.node (ho_228 P) BT.nil BT.nil) (BT.node (ho_379 P) BT.nil BT.nil)))))) (BT.node (boot_o_6 P) (BT.node (boot_o_10 P) (BT.node (ho_54 P) (BT.node (ho_70 P) (BT.node (ho_104 P) (BT.node (ho_170 P) (BT.node (ho_385 P) BT.nil BT.nil) BT.nil) (BT.node (ho_234 P) BT.nil BT.nil)) (BT.node (ho_136 P) (BT.node (ho_202 P) (BT.node (ho_419 P) BT.nil BT.nil) BT.nil) (BT.node (ho_266 P) BT.nil BT.nil))) (BT.node (ho_86 P) (BT.node (ho_120 P) (BT.node (ho_186 P) (BT.node (ho_401 P) BT.nil BT.nil) BT.nil) (BT.node (ho_250 P) BT.nil BT.nil)) (BT.node (ho_152 P) (BT.node (ho_218 P) (BT.node (ho_435 P) BT.nil BT.nil) BT.nil) (BT.node (ho_369 P) BT.nil BT.nil)))) (BT.node (ho_62 P) (BT.node (ho_78 P) (BT.node (ho_112 P) (BT.node (ho_178 P) (BT.node (ho_393 P) BT.nil BT.nil) BT.nil) (BT.node (ho_242 P) BT.nil BT.nil)) (BT.node (ho_144 P) (BT.node (ho_210 P) (BT.node (ho_427 P) BT.nil BT.nil) BT.nil) (BT.node (ho_361 P) BT.nil BT.nil))) (BT.node (ho_94 P) (BT.node (ho_128 P) (BT.node (ho_194 P) (BT.node (ho_411 P) BT.nil BT.nil) BT.nil) (BT.node (ho_258 P) BT.nil BT.nil)) (BT.node (ho_162 P) (BT.node (ho_226 P) BT.nil BT.nil) (BT.node (ho_377 P) BT.nil BT.nil))))) (BT.node (ho_46 P) (BT.node (ho_58 P) (BT.node (ho_74 P) (BT.node (ho_108 P) (BT.node (ho_174 P) (BT.node (ho_389 P) BT.nil BT.nil) BT.nil) (BT.node (ho_238 P) BT.nil BT.nil)) (BT.node (ho_140 P) (BT.node (ho_206 P) (BT.node (ho_423 P) BT.nil BT.nil) BT.nil) (BT.node (ho_270 P) BT.nil BT.nil))) (BT.node (ho_90 P) (BT.node (ho_124 P) (BT.node (ho_190 P) (BT.node (ho_405 P) BT.nil BT.nil) BT.nil) (BT.node (ho_254 P) BT.nil BT.nil)) (BT.node (ho_156 P) (BT.node (ho_222 P) (BT.node (ho_439 P) BT.nil BT.nil) BT.nil) (BT.node (ho_373 P) BT.nil BT.nil)))) (BT.node (ho_66 P) (BT.node (ho_82 P) (BT.node (ho_116 P) (BT.node (ho_182 P) (BT.node (ho_397 P) BT.nil BT.nil) BT.nil) (BT.node (ho_246 P) BT.nil BT.nil)) (BT.node (ho_148 P) (BT.node (ho_214 P) (BT.node (ho_431 P) BT.nil BT.nil) BT.nil) (BT.node (ho_365 P) BT.nil BT.nil))) (BT.node (ho_98 P) (BT.node (ho_132 P) (BT.node (ho_198 P) (BT.node (ho_415 P) BT.nil BT.nil) BT.nil) (BT.node (ho_262 P) BT.nil BT.nil)) (BT.node (ho_166 P) (BT.node (ho_230 P) BT.nil BT.nil) (BT.node (ho_381 P) BT.nil BT.nil)))))))))
noncomputable def heap_442 : Params → Heap := (fun (P : Params) => (Heap.mk (Array.mk ((boot_o_0 P) :: (boot_o_1 P) :: (boot_o_2 P) :: (ho_409 P) :: (boot_o_4 P) :: (boot_o_5 P) :: (boot_o_6 P) :: (boot_o_7 P) :: (boot_o_8 P) :: (boot_o_9 P) :: (boot_o_10 P) :: (ho_43 P) :: (ho_410 P) :: (ho_45 P) :: (ho_46 P) :: (ho_51 P) :: (ho_52 P) :: (ho_53 P) :: (ho_54 P) :: (ho_55 P) :: (ho_56 P) :: (ho_57 P) :: (ho_58 P) :: (ho_59 P) :: (ho_60 P) :: (ho_61 P) :: (ho_62 P) :: (ho_63 P) :: (ho_64 P) :: (ho_65 P) :: (ho_66 P) :: (ho_67 P) :: (ho_68 P) :: (ho_69 P) :: (ho_70 P) :: (ho_71 P) :: (ho_72 P) :: (ho_73 P) :: (ho_74 P) :: (ho_75 P) :: (ho_76 P) :: (ho_77 P) :: (ho_78 P) :: (ho_79 P) :: (ho_80 P) :: (ho_81 P) :: (ho_82 P) :: (ho_83 P) :: (ho_84 P) :: (ho_85 P) :: (ho_86 P) :: (ho_87 P) :: (ho_88 P) :: (ho_89 P) :: (ho_90 P) :: (ho_91 P) :: (ho_92 P) :: (ho_93 P) :: (ho_94 P) :: (ho_95 P) :: (ho_96 P) :: (ho_97 P) :: (ho_98 P) :: (ho_99 P) :: (ho_102 P) :: (ho_103 P) :: (ho_104 P) :: (ho_105 P) :: (ho_106 P) :: (ho_107 P) :: (ho_108 P) :: (ho_109 P) :: (ho_110 P) :: (ho_111 P) :: (ho_112 P) :: (ho_113 P) :: (ho_114 P) :: (ho_115 P) :: (ho_116 P) :: (ho_117 P) :: (ho_118 P) :: (ho_119 P) :: (ho_120 P) :: (ho_121 P) :: (ho_122 P) :: (ho_123 P) :: (ho_124 P) :: (ho_125 P) :: (ho_126 P) :: (ho_127 P) :: (ho_128 P) :: (ho_129 P) :: (ho_130 P) :: (ho_131 P) :: (ho_132 P) :: (ho_133 P) :: (ho_134 P) :: (ho_135 P) :: (ho_136 P) :: (ho_137 P) :: (ho_138 P) :: (ho_139 P) :: (ho_140 P) :: (ho_141 P) :: (ho_142 P) :: (ho_143 P) :: (ho_144 P) :: (ho_145 P) :: (ho_146 P) :: (ho_147 P) :: (ho_148 P) :: (ho_149 P) :: (ho_150 P) :: (ho_151 P) :: (ho_152 P) :: (ho_153 P) :: (ho_154 P) :: (ho_155 P) :: (ho_156 P) :: (ho_157 P) :: (ho_160 P) :: (ho_161 P) :: (ho_162 P) :: (ho_163 P) :: (ho_164 P) :: (ho_165 P) :: (ho_166 P) :: (ho_167 P) :: (ho_168 P) :: (ho_169 P) :: (ho_170 P) :: (ho_171 P) :: (ho_172 P) :: (ho_173 P) :: (ho_174 P) :: (ho_175 P) :: (ho_176 P) :: (ho_177 P) :: (ho_178 P) :: (ho_179 P) :: (ho_180 P) :: (ho_181 P) :: (ho_182 P) :: (ho_183 P) :: (ho_184 P) :: (ho_185 P) :: (ho_186 P) :: (ho_187 P) :: (ho_188 P) :: (ho_189 P) :: (ho_190 P) :: (ho_191 P) :: (ho_192 P) :: (ho_193 P) :: (ho_194 P) :: (ho_195 P) :: (ho_196 P) :: (ho_197 P) :: (ho_198 P) :: (ho_199 P) :: (ho_200 P) :: (ho_201 P) :: (ho_202 P) :: (ho_203 P) :: (ho_204 P) :: (ho_205 P) :: (ho_206 P) :: (ho_207 P) :: (ho_208 P) :: (ho_209 P) :: (ho_210 P) :: (ho_211 P) :: (ho_212 P) :: (ho_213 P) :: (ho_214 P) :: (ho_215 P) :: (ho_216 P) :: (ho_217 P) :: (ho_218 P) :: (ho_219 P) :: (ho_220 P) :: (ho_221 P) :: (ho_222 P) :: (ho_223 P) :: (ho_224 P) :: (ho_225 P) :: (ho_226 P) :: (ho_227 P) :: (ho_228 P) :: (ho_229 P) :: (ho_230 P) :: (ho_231 P) :: (ho_232 P) :: (ho_233 P) :: (ho_234 P) :: (ho_235 P) :: (ho_236 P) :: (ho_237 P) :: (ho_238 P) :: (ho_239 P) :: (ho_240 P) :: (ho_241 P) :: (ho_242 P) :: (ho_243 P) :: (ho_244 P) :: (ho_245 P) :: (ho_246 P) :: (ho_247 P) :: (ho_248 P) :: (ho_249 P) :: (ho_250 P) :: (ho_251 P) :: (ho_252 P) :: (ho_253 P) :: (ho_254 P) :: (ho_255 P) :: (ho_256 P) :: (ho_257 P) :: (ho_258 P) :: (ho_259 P) :: (ho_260 P) :: (ho_261 P) :: (ho_262 P) :: (ho_263 P) :: (ho_264 P) :: (ho_265 P) :: (ho_266 P) :: (ho_267 P) :: (ho_268 P) :: (ho_269 P) :: (ho_270 P) :: (ho_271 P) :: (ho_272 P) :: (ho_360 P) :: (ho_361 P) :: (ho_362 P) :: (ho_363 P) :: (ho_364 P) :: (ho_365 P) :: (ho_366 P) :: (ho_367 P) :: (ho_368 P) :: (ho_369 P) :: (ho_370 P) :: (ho_371 P) :: (ho_372 P) :: (ho_373 P) :: (ho_374 P) :: (ho_375 P) :: (ho_376 P) :: (ho_377 P) :: (ho_378 P) :: (ho_379 P) :: (ho_380 P) :: (ho_381 P) :: (ho_382 P) :: (ho_383 P) :: (ho_384 P) :: (ho_385 P) :: (ho_386 P) :: (ho_387 P) :: (ho_388 P) :: (ho_389 P) :: (ho_390 P) :: (ho_391 P) :: (ho_392 P) :: (ho_393 P) :: (ho_394 P) :: (ho_395 P) :: (ho_396 P) :: (ho_397 P) :: (ho_398 P) :: (ho_399 P) :: (ho_400 P) :: (ho_401 P) :: (ho_402 P) :: (ho_403 P) :: (ho_404 P) :: (ho_405 P) :: (ho_406 P) :: (ho_407 P) :: (ho_408 P) :: (ho_411 P) :: (ho_412 P) :: (ho_413 P) :: (ho_414 P) :: (ho_415 P) :: (ho_416 P) :: (ho_417 P) :: (ho_418 P) :: (ho_419 P) :: (ho_420 P) :: (ho_421 P) :: (ho_422 P) :: (ho_423 P) :: (ho_424 P) :: (ho_425 P) :: (ho_426 P) :: (ho_427 P) :: (ho_428 P) :: (ho_429 P) :: (ho_430 P) :: (ho_431 P) :: (ho_432 P) :: (ho_433 P) :: (ho_434 P) :: (ho_435 P) :: (ho_436 P) :: (ho_437 P) :: (ho_438 P) :: (ho_439 P) :: (ho_440 P) :: (ho_441 P) :: [])) life0))
theorem hp_47 : (∀ (w : World), ((fun (os : OsState) => (topGo treeTable pw w 11 (some (Value.ref 6)) 12 (Shared.mk (boot_heap (World.params w)) (Array.mk []) boot_drawn boot_toks os) (topStub pw))) = (fun (os : OsState) => (some (Prod.mk (Shared.mk (heap_46 (World.params w)) (Array.mk []) (Drawn.mk 0 0 0 0) 187 os) (Thread.mk (denote treeTable (Code.body (behindTheImports pw) env_41)) (Code.body (behindTheImports pw) env_41) (Pos.mk 0 0 0 0) ((topFrame (Pos.mk 0 0 0 0)) :: []))))))) := fun w => by
  kernel_rfl
theorem hp_49 : (∀ (w : World), ((fun (os : OsState) => (segRun treeTable pw w 11 (some (Value.ref 6)) 1 1 (Shared.mk (heap_46 (World.params w)) (Array.mk []) (Drawn.mk 0 0 0 0) 187 os) (blockOf (behindTheImports pw) env_41 (Code.body (behindTheImports pw) env_41) (Pos.mk 0 0 0 0) ((topFrame (Pos.mk 0 0 0 0)) :: [])))) = (fun (os : OsState) => (some (Prod.mk Flow.next (Prod.mk (SharedT.abs (SharedT.mk (tree_47 (World.params w)) 15 life0 (Array.mk []) (Drawn.mk 0 0 0 0) 187 os)) (Prod.mk (Code.body (behindTheImports pw) env_41) (Pos.mk 0 0 0 0)))))))) := fun w => by
  rewrite [Fast.te14374325043358763698, Fast.te14364793385576792824]
  kernel_rfl
theorem hp_100 : (∀ (w : World), ((fun (os : OsState) => (segRunT treeTable pw w 11 (some (Value.ref 6)) 1 383 (SharedT.mk (tree_47 (World.params w)) 15 life0 (Array.mk []) (Drawn.mk 0 0 0 0) 187 os) (piecesOf sts_49 env_41 (Code.body (behindTheImports pw) env_41) (Pos.mk 0 0 0 0) ((topFrame (Pos.mk 0 0 0 0)) :: [])))) = (fun (os : OsState) => (some (Prod.mk Flow.next (Prod.mk (SharedT.mk (tree_99 (World.params w)) 64 life0 (Array.mk []) (Drawn.mk 0 0 0 0) 254 os) (Prod.mk (Code.body (behindTheImports pw) env_41) (Pos.mk 23 0 23 9)))))))) := fun w => by
  rewrite [Fast.te10110043849684766642, Fast.te14364793385576792824]
  kernel_rfl
theorem hp_158 : (∀ (w : World), ((fun (os : OsState) => (segRunT treeTable pw w 11 (some (Value.ref 6)) 1 375 (SharedT.mk (tree_99 (World.params w)) 64 life0 (Array.mk []) (Drawn.mk 0 0 0 0) 254 os) (piecesOf sts_100 env_41 (Code.body (behindTheImports pw) env_41) (Pos.mk 23 0 23 9) ((topFrame (Pos.mk 0 0 0 0)) :: [])))) = (fun (os : OsState) => (some (Prod.mk Flow.next (Prod.mk (SharedT.mk (tree_157 (World.params w)) 120 life0 (Array.mk []) (Drawn.mk 0 0 0 0) 325 os) (Prod.mk (Code.body (behindTheImports pw) env_41) (Pos.mk 38 0 44 16)))))))) := fun w => by
  rewrite [Fast.te10110043849684766642, Fast.te14364793385576792824]
  kernel_rfl
theorem hp_358 : (∀ (w : World), ((fun (os : OsState) => (segRunT treeTable pw w 11 (some (Value.ref 6)) 1 663 (SharedT.mk (tree_157 (World.params w)) 120 life0 (Array.mk []) (Drawn.mk 0 0 0 0) 325 os) (piecesOf sts_158 env_41 (Code.body (behindTheImports pw) env_41) (Pos.mk 38 0 44 16) ((topFrame (Pos.mk 0 0 0 0)) :: [])))) = (fun (os : OsState) => (some (Prod.mk Flow.next (Prod.mk (SharedT.mk (tree_272 (World.params w)) 233 life0 (Array.mk []) (Drawn.mk 0 0 0 0) 481 os) (Prod.mk (Code.body (behindTheImports pw) env_41) (Pos.mk 45 0 192 17)))))))) := fun w => by
  rewrite [Fast.te10110043849684766642, Fast.te14364793385576792824]
  kernel_rfl
theorem hp_409 : (∀ (w : World), ((fun (os : OsState) => (segRunT treeTable pw w 11 (some (Value.ref 6)) 1 372 (SharedT.mk (tree_272 (World.params w)) 233 life0 (Array.mk []) (Drawn.mk 0 0 0 0) 481 os) (piecesOf sts_358 env_41 (Code.body (behindTheImports pw) env_41) (Pos.mk 45 0 192 17) ((topFrame (Pos.mk 0 0 0 0)) :: [])))) = (fun (os : OsState) => (some (Prod.mk Flow.next (Prod.mk (SharedT.mk (tree_408 (World.params w)) 282 life0 (Array.mk []) (Drawn.mk 0 0 0 0) 557 os) (Prod.mk (Code.body (behindTheImports pw) env_41) (Pos.mk 232 0 244 16)))))))) := fun w => by
  rewrite [Fast.te10110043849684766642, Fast.te14364793385576792824]
  kernel_rfl
theorem hp_442 : (∀ (w : World), ((fun (os : OsState) => (segRunT treeTable pw w 11 (some (Value.ref 6)) 1 141 (SharedT.mk (tree_408 (World.params w)) 282 life0 (Array.mk []) (Drawn.mk 0 0 0 0) 557 os) (piecesOf sts_409 env_41 (Code.body (behindTheImports pw) env_41) (Pos.mk 232 0 244 16) ((topFrame (Pos.mk 0 0 0 0)) :: [])))) = (fun (os : OsState) => (some (Prod.mk Flow.next (Prod.mk (SharedT.mk (tree_441 (World.params w)) 313 life0 (Array.mk []) (Drawn.mk 0 0 0 0) 591 os) (Prod.mk (Code.body (behindTheImports pw) env_41) (Pos.mk 266 0 282 61)))))))) := fun w => by
  rewrite [Fast.te10110043849684766642, Fast.te14364793385576792824]
  kernel_rfl
theorem hp_444 : (∀ (w : World), ((fun (os : OsState) => (topRun treeTable pw w 11 (some (Value.ref 6)) 2 (SharedT.abs (SharedT.mk (tree_441 (World.params w)) 313 life0 (Array.mk []) (Drawn.mk 0 0 0 0) 591 os)) (Thread.mk (doneF Flow.next) (Code.body (behindTheImports pw) env_41) (Pos.mk 266 0 282 61) ((topFrame (Pos.mk 0 0 0 0)) :: [])))) = (fun (os : OsState) => (some (Shared.mk (heap_442 (World.params w)) (Array.mk []) (Drawn.mk 0 0 0 0) 591 os))))) := fun w => by
  rewrite [Fast.te14082659384304107361, Fast.te14364793385576792824]
  kernel_rfl
theorem rest_as {tb : String → Option Builtin} {p : Program} {w : World} {n₀ N : Nat} {ann : Option Value} {s r : Shared} {env : Env} {c : Code} {pos : Pos} {B : List Frame} {b b' : List Stmt} (e : b = b') (k : topRun tb p w n₀ ann N s (restOf b' env c pos B) = some r) : topRun tb p w n₀ ann N s (restOf b env c pos B) = some r := by
  rw [e]
  exact k
theorem body_is : behindTheImports pw = sts_49 ++ (sts_100 ++ (sts_158 ++ (sts_358 ++ (sts_409 ++ [])))) := by kernel_rfl
theorem h_run (w : World) (os : OsState) : topRun treeTable pw w 11 (some (.ref 6)) (12 + (1 + (383 + (375 + (663 + (372 + (141 + 2))))))) ⟨boot_heap w.params, Array.mk [], boot_drawn, boot_toks, os⟩ (topStub pw) = some ⟨heap_442 w.params, Array.mk [], Drawn.mk 0 0 0 0, 591, os⟩ :=
  go_top (congrFun (hp_47 w) os) (piece_block (congrFun (hp_49 w) os) (rest_as body_is (piece_app (segRun_of (congrFun (hp_100 w) os)) (piece_app (segRun_of (congrFun (hp_158 w) os)) (piece_app (segRun_of (congrFun (hp_358 w) os)) (piece_app (segRun_of (congrFun (hp_409 w) os)) (piece_app (segRun_of (congrFun (hp_442 w) os)) (piece_nil (congrFun (hp_444 w) os)))))))))
theorem h_size (w : World) : ((boot_heap w.params).isNs mainGlobals && (Array.mk [] : Array GenState).size == 0, (boot_heap w.params).objs.size, (boot_heap w.params).nsMap mainGlobals "__annotations__") = (true, 11, some (.ref 6)) := by kernel_rfl
noncomputable abbrev endS (w : World) (os : OsState) : Shared := ⟨heap_442 w.params, Array.mk [], Drawn.mk 0 0 0 0, 591, os⟩
theorem h_l1 (w : World) (os : OsState) : (staticsOk (importedModules pw.main.body) (boot_heap w.params) (heap_442 w.params) && namesBound pw (heap_442 w.params) && gensDone (endS w os) && laidKept (boot_heap w.params) (heap_442 w.params)) = true := by
  rewrite [Fast.te5923862056798008813]
  kernel_rfl
theorem h_l2 (w : World) (os : OsState) : openSeen vw [] (importedModules pw.main.body) (fun s => xlAt vw [] s && recOk (RowW.records PySem.Challenge.rw_on0211_01.row.toRowW) s) true (endS w os) = openGood vw [] := by
  rewrite [Fast.te4187177175401517315, Fast.te5923862056798008813]
  kernel_rfl
theorem h_l3 (w : World) (os : OsState) : Hook.obs (kHook kTop kAs kAs_is) (endS w os) = Hook.val (kHook kTop kAs kAs_is) w := by kernel_rfl
theorem h_looks (w : World) : (fun os => ((staticsOk (importedModules pw.main.body) (boot_heap w.params) (heap_442 w.params) && namesBound pw (heap_442 w.params) && gensDone ⟨heap_442 w.params, Array.mk [], Drawn.mk 0 0 0 0, 591, os⟩ && laidKept (boot_heap w.params) (heap_442 w.params)),
    openSeen vw [] (importedModules pw.main.body) (fun s => xlAt vw [] s && recOk (RowW.records PySem.Challenge.rw_on0211_01.row.toRowW) s) true ⟨heap_442 w.params, Array.mk [], Drawn.mk 0 0 0 0, 591, os⟩, Hook.obs (kHook kTop kAs kAs_is) ⟨heap_442 w.params, Array.mk [], Drawn.mk 0 0 0 0, 591, os⟩)) = fun _ => (true, openGood vw [], Hook.val (kHook kTop kAs kAs_is) w) :=
  funext fun os => looks_pair (h_l1 w os) (looks_pair (h_l2 w os) (h_l3 w os))
theorem h_open : ∀ w : World, (fencedOpening treeTable pw w 4000).map (fun s => (s.heap, s.gens, s.drawn, s.toks)) = some (boot_heap w.params, Array.mk [], boot_drawn, boot_toks) := boot_open (by kernel_rfl) rfl (fun _ => by kernel_rfl)
theorem left : LeftO PySem.Challenge.pw_on0211_01 vw [] (fun s => xlAt vw [] s && recOk (RowW.records PySem.Challenge.rw_on0211_01.row.toRowW) s) (Hook.obs (kHook kTop kAs kAs_is)) (Hook.val (kHook kTop kAs kAs_is)) 4000 :=
  LeftO.of_pieces h_open h_size h_run rfl h_looks
theorem said : PySem.Challenge.rw_on0211_01.wellSaid = true := by kernel_rfl
local macro_rules | `(tactic| walk_at $s:str) => do
  let t := Lean.Syntax.mkStrLit ("my " ++ s.getString)
  `(tactic| k_extra $t)
local macro_rules | `(tactic| k_ne) => `(tactic| k_extra "my k_ne")
local macro_rules | `(tactic| k_mem) => `(tactic| k_extra "my k_mem")
local macro_rules | `(tactic| ktr_units) => `(tactic| k_extra "my ktr_units")
local macro_rules | `(tactic| units_room) => `(tactic| k_extra "my units_room")
local macro_rules | `(tactic| kpa_ne) => `(tactic| k_extra "my kpa_ne")
local macro_rules | `(tactic| kpa_room) => `(tactic| k_extra "my kpa_room")
local macro_rules | `(tactic| kst_facts) => `(tactic| k_extra "my kst_facts")
theorem fill : kTop = kTop ∨ PySem.Challenge.rw_on0211_01.Holds := by
  k_fill
  exact .inl rfl
section
open PySem PyProof.Rows PySem.Spec PySem.Builtin PySem.Builtin.Str
theorem slice_eq {x : Str} {i j : Int} (h0 : 0 ≤ i) (h1 : i ≤ j) : Txt.slice x (some i) (some j) = ⟨((x.cps.toList.drop i.toNat).take (j - i).toNat).toArray⟩ := by
  have e : Txt.slice x (some i) (some j) = Txt.slice x (some (min i x.length)) (some (min j x.length)) := by
    unfold Txt.slice
    have q : strSliceIndices (some i) (some j) 1 x.length = strSliceIndices (some (min i x.length)) (some (min j x.length)) 1 x.length := by
      have a1 : ¬ i < 0 := by omega
      have a2 : ¬ j < 0 := by omega
      have a3 : ¬ min i (x.length : Int) < 0 := by omega
      have a4 : ¬ min j (x.length : Int) < 0 := by omega
      have a5 : (1 : Int) > 0 := by decide
      simp only [strSliceIndices, a1, a2, a3, a4, a5, if_true, if_false]
      congr 1 <;> omega
    rw [q]
  rw [e, beq_iff_eq.mp (slice_closesL (x := x) (by omega) (by omega) (by omega))]
  have hl : x.cps.toList.length = x.length := by simp [Str.length]
  congr 2
  by_cases hi : i ≤ x.length
  · rw [Int.min_eq_left hi]
    by_cases hj : j ≤ x.length
    · rw [Int.min_eq_left hj]
    · rw [Int.min_eq_right (by omega)]
      rw [List.take_of_length_le, List.take_of_length_le] <;> (rw [List.length_drop, hl]; omega)
  · rw [List.drop_eq_nil_of_le (by omega), List.drop_eq_nil_of_le (by omega), List.take_nil, List.take_nil]

def chr (S : Str) (i : Int) : Str := Txt.slice S (some i) (some (i + 1))
theorem chr_eq {S : Str} {i : Int} (h0 : 0 ≤ i) : chr S i = ⟨((S.cps.toList.drop i.toNat).take 1).toArray⟩ := by
  unfold chr
  rw [slice_eq h0 (by omega), show (i + 1 - i).toNat = 1 by omega]
theorem chr_len {S : Str} {i : Int} (h0 : 0 ≤ i) : (chr S i).length ≤ 1 := by
  rw [chr_eq h0]
  simp [Str.length]
  omega

theorem ofs_len0 : (Str.ofString "").cps.toList = [] := by decide +kernel
/-- what lies at a place of the text, and all behind it -/
def At (S : Str) (i : Int) (r : List Nat) : Prop := 0 ≤ i ∧ S.cps.toList.drop i.toNat = r
theorem At.chr {S : Str} {i : Int} {r : List Nat} (h : At S i r) : chr S i = ⟨(r.take 1).toArray⟩ := by
  rw [chr_eq h.1, h.2]
theorem At.step {S : Str} {i : Int} {c : Nat} {r : List Nat} (h : At S i (c :: r)) : At S (i + 1) r := by
  refine ⟨by have := h.1; omega, ?_⟩
  have e : (i + 1).toNat = i.toNat + 1 := by have := h.1; omega
  rw [e, ← List.drop_drop, h.2]
  rfl
theorem At.lt {S : Str} {i : Int} {c : Nat} {r : List Nat} (h : At S i (c :: r)) : i.toNat < S.length := by
  have e := congrArg List.length h.2
  rw [List.length_drop, List.length_cons] at e
  have hl : S.cps.toList.length = S.length := by simp [Str.length]
  omega
theorem At.app {S : Str} {i : Int} {a r : List Nat} (h : At S i (a ++ r)) : At S (i + a.length) r := by
  refine ⟨by have := h.1; omega, ?_⟩
  have e : (i + a.length).toNat = i.toNat + a.length := by have := h.1; omega
  rw [e, ← List.drop_drop, h.2, List.drop_left]
theorem At.cut {S : Str} {i : Int} {a r : List Nat} (h : At S i (a ++ r)) : Txt.slice S (some i) (some (i + a.length)) = ⟨a.toArray⟩ := by
  rw [slice_eq h.1 (by omega), h.2, show (i + a.length - i).toNat = a.length by omega, List.take_left]

theorem At.tail {S : Str} {i : Int} {r : List Nat} (h : At S i r) : At S (i + 1) r.tail := by
  refine ⟨by have := h.1; omega, ?_⟩
  have e : (i + 1).toNat = i.toNat + 1 := by have := h.1; omega
  rw [e, ← List.drop_drop, h.2, List.drop_one]
theorem str_app (a b : List Nat) : (⟨a.toArray⟩ : Str) ++ (⟨b.toArray⟩ : Str) = ⟨(a ++ b).toArray⟩ := by
  show Str.append _ _ = _
  simp [Str.append]
theorem pair_eq {S : Str} {i : Int} {r : List Nat} (h : At S i r) : chr S i ++ chr S (i + 1) = ⟨(r.take 2).toArray⟩ := by
  rw [h.chr, h.tail.chr, str_app]
  rcases r with _ | ⟨a, _ | ⟨b, r⟩⟩ <;> rfl
theorem str_beq {a b : List Nat} : ((⟨a.toArray⟩ : Str) == ⟨b.toArray⟩) = (a == b) := by
  by_cases h : a = b
  · subst h; simp
  · have h2 : ¬ (⟨a.toArray⟩ : Str) = ⟨b.toArray⟩ := by
      intro e
      apply h
      have := congrArg (fun s : Str => s.cps.toList) e
      simpa using this
    rw [beq_eq_false_iff_ne.mpr h2, beq_eq_false_iff_ne.mpr h]
theorem ofs_empty : Str.ofString "" = ⟨([] : List Nat).toArray⟩ := by decide +kernel
theorem ofs_open : Str.ofString "(*" = ⟨([40, 42] : List Nat).toArray⟩ := by decide +kernel
theorem ofs_close : Str.ofString "*)" = ⟨([42, 41] : List Nat).toArray⟩ := by decide +kernel

inductive Rem : Int → List Nat → List Nat → Prop
  | done (r : List Nat) : Rem 0 r r
  | opn {d : Int} {r r' : List Nat} : 0 < d → Rem (d + 1) r r' → Rem d (40 :: 42 :: r) r'
  | cls {d : Int} {r r' : List Nat} : 0 < d → Rem (d - 1) r r' → Rem d (42 :: 41 :: r) r'
  | oth {d : Int} {c e : Nat} {r r' : List Nat} : 0 < d → ¬ (c = 40 ∧ e = 42) → ¬ (c = 42 ∧ e = 41) → Rem d (e :: r) r' → Rem d (c :: e :: r) r'
section
variable {S : Str} {pl d : Int} {r' : List Nat}
theorem rem_opn (h : 0 ≤ pl ∧ ∃ r, At S pl r ∧ Rem d r r') (hd : 0 < d) (c : (chr S pl ++ chr S (pl + 1) == Str.ofString "(*") = true) : 0 ≤ pl + 2 ∧ ∃ r, At S (pl + 2) r ∧ Rem (d + 1) r r' := by
  obtain ⟨h0, r, hA, hR⟩ := h
  rw [pair_eq hA, ofs_open, str_beq] at c
  refine ⟨by omega, ?_⟩
  cases hR with
  | done => omega
  | opn _ k => exact ⟨_, hA.app (a := [40, 42]), k⟩
  | cls _ k => simp at c
  | oth _ k1 k2 k => exact absurd (by simpa using c) k1
theorem rem_cls (h : 0 ≤ pl ∧ ∃ r, At S pl r ∧ Rem d r r') (hd : 0 < d) (c : (chr S pl ++ chr S (pl + 1) == Str.ofString "*)") = true) : 0 ≤ pl + 2 ∧ ∃ r, At S (pl + 2) r ∧ Rem (d - 1) r r' := by
  obtain ⟨h0, r, hA, hR⟩ := h
  rw [pair_eq hA, ofs_close, str_beq] at c
  refine ⟨by omega, ?_⟩
  cases hR with
  | done => omega
  | opn _ k => simp at c
  | cls _ k => exact ⟨_, hA.app (a := [42, 41]), k⟩
  | oth _ k1 k2 k => exact absurd (by simpa using c) k2
theorem rem_oth (h : 0 ≤ pl ∧ ∃ r, At S pl r ∧ Rem d r r') (hd : 0 < d) (c1 : (chr S pl ++ chr S (pl + 1) == Str.ofString "(*") = false) (c2 : (chr S pl ++ chr S (pl + 1) == Str.ofString "*)") = false) : 0 ≤ pl + 1 ∧ ∃ r, At S (pl + 1) r ∧ Rem d r r' := by
  obtain ⟨h0, r, hA, hR⟩ := h
  rw [pair_eq hA, ofs_open, str_beq] at c1
  rw [pair_eq hA, ofs_close, str_beq] at c2
  refine ⟨by omega, ?_⟩
  cases hR with
  | done => omega
  | opn _ k => simp at c1
  | cls _ k => simp at c2
  | oth _ k1 k2 k => exact ⟨_, hA.step, k⟩
theorem rem_lt (h : 0 ≤ pl ∧ ∃ r, At S pl r ∧ Rem d r r') (hd : 0 < d) : pl < S.length := by
  obtain ⟨h0, r, hA, hR⟩ := h
  cases hR with
  | done => omega
  | opn _ k => have := hA.lt; omega
  | cls _ k => have := hA.lt; omega
  | oth _ k1 k2 k => have := hA.lt; omega
theorem rem_end (h : 0 ≤ pl ∧ ∃ r, At S pl r ∧ Rem d r r') (hd : ¬ 0 < d) : At S pl r' := by
  obtain ⟨h0, r, hA, hR⟩ := h
  cases hR with
  | done => exact hA
  | opn k _ => exact absurd k hd
  | cls k _ => exact absurd k hd
  | oth k _ _ _ => exact absurd k hd
theorem rem_end' (h : ∃ r, At S pl r ∧ Rem d r r') (hd : ¬ 0 < d) : At S pl r' := rem_end ⟨let ⟨_, h, _⟩ := h; h.1, h⟩ hd
theorem rem_bad (h : 0 ≤ pl ∧ ∃ r, At S pl r ∧ Rem d r r') (hd : 0 < d) (c : (chr S pl ++ chr S (pl + 1) == Str.ofString "") = true) : False := by
  obtain ⟨h0, r, hA, hR⟩ := h
  rw [pair_eq hA, ofs_empty, str_beq] at c
  cases hR with
  | done => omega
  | opn _ k => simp at c
  | cls _ k => simp at c
  | oth _ k1 k2 k => simp at c
theorem rem_bad' (c : (chr S pl ++ chr S (pl + 1) == Str.ofString "") = true) (h : ∃ r, At S pl r ∧ Rem d r r') (hd : 0 < d) : False := rem_bad ⟨let ⟨_, h, _⟩ := h; h.1, h⟩ hd c
end

theorem chr_one {S : Str} {i : Int} (h : (chr S i).length ≤ 1) (c : (chr S i != Str.ofString "") = true) : (chr S i).length = 1 := by
  have c2 : chr S i ≠ Str.ofString "" := by simpa using c
  have : (chr S i).length ≠ 0 := by
    intro e
    apply c2
    rw [ofs_empty]
    rcases hh : chr S i with ⟨a⟩
    rw [hh] at e
    have : a.toList = [] := by
      apply List.eq_nil_of_length_eq_zero
      simpa [Str.length] using e
    have ea : a = [].toArray := by rw [← this]
    rw [ea]
  omega
def isLet (c : Str) : Bool := (!decide (c.cps.toList < (Str.ofString "a").cps.toList) && !decide ((Str.ofString "z").cps.toList < c.cps.toList)) || (!decide (c.cps.toList < (Str.ofString "A").cps.toList) && !decide ((Str.ofString "Z").cps.toList < c.cps.toList))
def isDig (c : Str) : Bool := (!decide (c.cps.toList < (Str.ofString "0").cps.toList) && !decide ((Str.ofString "9").cps.toList < c.cps.toList))

theorem At.nonneg {S : Str} {i : Int} {r : List Nat} (h : At S i r) : 0 ≤ i := h.1
theorem At.len {S : Str} {i : Int} {r : List Nat} (h : At S i r) : r.length = S.length - i.toNat := by
  have e := congrArg List.length h.2
  rw [List.length_drop] at e
  have hl : S.cps.toList.length = S.length := by simp [Str.length]
  omega
theorem rem_len {d : Int} {r r' : List Nat} (h : Rem d r r') : r'.length ≤ r.length := by
  induction h with
  | done => exact Nat.le_refl _
  | opn _ _ k => simp only [List.length_cons]; omega
  | cls _ _ k => simp only [List.length_cons]; omega
  | oth _ _ _ _ k => simp only [List.length_cons] at *; omega
theorem rem_pos {d : Int} {r r' : List Nat} (h : Rem d r r') (hd : 0 < d) : 0 < r.length := by
  cases h with
  | done => omega
  | opn _ k => simp
  | cls _ k => simp
  | oth _ k1 k2 k => simp
/-- the gap ahead of a word -/
inductive Skp : List Nat → List Nat → Prop
  | nil : Skp [] []
  | stop {c : Nat} {r : List Nat} : 32 < c → ¬ (c = 40 ∧ r.head? = some 42) → Skp (c :: r) (c :: r)
  | white {c : Nat} {r r' : List Nat} : c ≤ 32 → Skp r r' → Skp (c :: r) r'
  | rem {r r1 r' : List Nat} : Rem 1 r r1 → Skp r1 r' → Skp (40 :: 42 :: r) r'
theorem ofs_par : Str.ofString "(" = ⟨([40] : List Nat).toArray⟩ := by decide +kernel
theorem ofs_star : Str.ofString "*" = ⟨([42] : List Nat).toArray⟩ := by decide +kernel
section
variable {S : Str} {pl : Int} {r' r1 : List Nat}
theorem skp_rem (h : ∃ r, At S pl r ∧ Skp r r') (c1 : (chr S pl == Str.ofString "(") = true) (c2 : (chr S (pl + 1) == Str.ofString "*") = true) : ∃ r1, Skp r1 r' ∧ ∃ r, At S (pl + 2) r ∧ Rem 1 r r1 := by
  obtain ⟨r, hA, hR⟩ := h
  rw [hA.chr, ofs_par, str_beq] at c1
  rw [hA.tail.chr, ofs_star, str_beq] at c2
  cases hR with
  | nil => simp at c1
  | @stop c r _ k =>
    rcases r with _ | ⟨b, r⟩
    · simp at c2
    · simp at c1 c2 k
      exact absurd c2 (k c1)
  | @white c r _ k => simp at c1; omega
  | rem a b => exact ⟨_, b, _, hA.app (a := [40, 42]), a⟩
theorem skp_less {pl2 : Int} (h : ∃ r, At S (pl + 2) r ∧ Rem 1 r r1) (h2 : At S pl2 r1) : pl < pl2 ∧ pl < S.length := by
  obtain ⟨r, hA, hR⟩ := h
  have a := rem_len hR
  have b := rem_pos hR (by omega)
  have c := hA.len
  have d := h2.len
  have e := h2.1
  have f := hA.1
  omega
theorem skp_white (h : ∃ r, At S pl r ∧ Skp r r') (c1 : (chr S pl != Str.ofString "") = true) (c2 : (((chr S pl).cps.getD 0 0 : Nat) : Int) ≤ 32) : ∃ r, At S (pl + 1) r ∧ Skp r r' := by
  obtain ⟨r, hA, hR⟩ := h
  rw [hA.chr, ofs_empty, bne, str_beq] at c1
  rw [hA.chr] at c2
  cases hR with
  | nil => simp at c1
  | @stop c r _ k => simp at c2; omega
  | @white c r _ k => exact ⟨_, hA.step, by assumption⟩
  | rem a b => simp at c2
theorem skp_white_lt (h : ∃ r, At S pl r ∧ Skp r r') (c1 : (chr S pl != Str.ofString "") = true) : pl < S.length := by
  obtain ⟨r, hA, hR⟩ := h
  rw [hA.chr, ofs_empty, bne, str_beq] at c1
  have := hA.1
  cases r with
  | nil => simp at c1
  | cons c r => have := hA.lt; omega
theorem skp_stop (h : ∃ r, At S pl r ∧ Skp r r') (c1 : ¬ ((chr S pl == Str.ofString "(") = true ∧ (chr S (pl + 1) == Str.ofString "*") = true)) (c2 : ¬ ((chr S pl != Str.ofString "") = true ∧ (((chr S pl).cps.getD 0 0 : Nat) : Int) ≤ 32)) : At S pl r' := by
  obtain ⟨r, hA, hR⟩ := h
  rw [hA.chr, ofs_par, str_beq, hA.tail.chr, ofs_star, str_beq] at c1
  rw [hA.chr, ofs_empty, bne, str_beq] at c2
  cases hR with
  | nil => exact hA
  | @stop c r _ k => exact hA
  | @white c r _ k => simp at c2; omega
  | rem a b => simp at c1
end

def letN (c : Nat) : Bool := (decide (97 ≤ c) && decide (c ≤ 122)) || (decide (65 ≤ c) && decide (c ≤ 90))
def digN (c : Nat) : Bool := decide (48 ≤ c) && decide (c ≤ 57)
def alN (c : Nat) : Bool := letN c || digN c
theorem ofs_a : (Str.ofString "a").cps.toList = [97] := by decide +kernel
theorem ofs_z : (Str.ofString "z").cps.toList = [122] := by decide +kernel
theorem ofs_A : (Str.ofString "A").cps.toList = [65] := by decide +kernel
theorem ofs_Z : (Str.ofString "Z").cps.toList = [90] := by decide +kernel
theorem ofs_0 : (Str.ofString "0").cps.toList = [48] := by decide +kernel
theorem ofs_9 : (Str.ofString "9").cps.toList = [57] := by decide +kernel
theorem one_lt {a b : Nat} : ([a] < [b]) = (a < b) := by
  apply propext
  constructor
  · intro h
    cases h with
    | rel h => exact h
    | cons h => cases h
  · exact fun h => .rel h
theorem isLet_one {c : Nat} : isLet ⟨([c] : List Nat).toArray⟩ = letN c := by
  simp only [isLet, letN, ofs_a, ofs_z, ofs_A, ofs_Z, one_lt]
  by_cases h1 : 97 ≤ c <;> by_cases h2 : c ≤ 122 <;> by_cases h3 : 65 ≤ c <;> by_cases h4 : c ≤ 90 <;> simp [h1, h2, h3, h4, Nat.not_lt, Nat.not_le] <;> omega
theorem isDig_one {c : Nat} : isDig ⟨([c] : List Nat).toArray⟩ = digN c := by
  simp only [isDig, digN, ofs_0, ofs_9, one_lt]
  by_cases h1 : 48 ≤ c <;> by_cases h2 : c ≤ 57 <;> simp [h1, h2, Nat.not_lt, Nat.not_le] <;> omega
theorem isLet_none : isLet ⟨([] : List Nat).toArray⟩ = false := by decide +kernel
theorem isDig_none : isDig ⟨([] : List Nat).toArray⟩ = false := by decide +kernel
def kwList : List Str := [Str.ofString "ARRAY", Str.ofString "BEGIN", Str.ofString "BY", Str.ofString "CASE", Str.ofString "CONST", Str.ofString "DIV", Str.ofString "DO", Str.ofString "ELSE", Str.ofString "ELSIF", Str.ofString "END", Str.ofString "FOR", Str.ofString "IF", Str.ofString "IMPORT", Str.ofString "IN", Str.ofString "IS", Str.ofString "MOD", Str.ofString "MODULE", Str.ofString "NIL", Str.ofString "OF", Str.ofString "OR", Str.ofString "POINTER", Str.ofString "PROCEDURE", Str.ofString "RECORD", Str.ofString "REPEAT", Str.ofString "RETURN", Str.ofString "THEN", Str.ofString "TO", Str.ofString "TYPE", Str.ofString "UNTIL", Str.ofString "VAR", Str.ofString "WHILE"]
def kindOf (n : Str) : Str := if kwList.any (· == n) then n else Str.ofString "ident"
def valOf (n : Str) : Str := if kwList.any (· == n) then Str.ofString "" else n
/-- the letters of a word from its begin on -/
def Wd (S : Str) (bg : Int) (a r : List Nat) (en : Int) : Prop := At S bg (a ++ r) ∧ (∀ c ∈ a, alN c = true) ∧ (∀ c, r.head? = some c → alN c = false) ∧ ∃ n : Nat, n ≤ a.length ∧ en = bg + n
section
variable {S : Str} {bg en : Int} {a r : List Nat}
theorem wd_at (n : Nat) (h : At S bg (a ++ r)) : At S (bg + n) ((a ++ r).drop n) := by
  refine ⟨by have := h.1; omega, ?_⟩
  have e : (bg + (n : Int)).toNat = bg.toNat + n := by have := h.1; omega
  rw [e, ← List.drop_drop, h.2]
theorem wd_nonneg (h : Wd S bg a r en) : 0 ≤ en := by obtain ⟨hA, _, _, n, _, e⟩ := h; have := hA.1; omega
theorem wd_start (h1 : At S bg (a ++ r)) (h2 : ∀ c ∈ a, alN c = true) (h3 : ∀ c, r.head? = some c → alN c = false) : Wd S bg a r bg := ⟨h1, h2, h3, 0, Nat.zero_le _, by simp⟩
theorem wd_more (h : Wd S bg a r en) (c : isLet (chr S en) = true ∨ isDig (chr S en) = true) : Wd S bg a r (en + 1) ∧ en < S.length := by
  obtain ⟨hA, h2, h3, n, hn, e⟩ := h
  have hB := wd_at n hA
  rw [← e] at hB
  rw [hB.chr] at c
  by_cases hlt : n < a.length
  · have hl : en.toNat < S.length := by
      have hlen := hB.len
      rw [List.length_drop, List.length_append] at hlen
      omega
    exact ⟨⟨hA, h2, h3, n + 1, hlt, by omega⟩, by omega⟩
  · have en' : n = a.length := by omega
    rw [en', List.drop_left] at c
    exfalso
    cases r with
    | nil =>
      simp only [List.take_nil] at c
      rw [isLet_none, isDig_none] at c
      rcases c with c | c <;> cases c
    | cons d r =>
      have hd := h3 d rfl
      simp only [List.take_succ_cons, List.take_zero] at c
      rw [isLet_one, isDig_one] at c
      simp only [alN, Bool.or_eq_false_iff] at hd
      rcases c with c | c
      · rw [hd.1] at c; cases c
      · rw [hd.2] at c; cases c
theorem wd_end (h : Wd S bg a r en) (c1 : isLet (chr S en) = false) (c2 : isDig (chr S en) = false) : en = bg + a.length := by
  obtain ⟨hA, h2, h3, n, hn, e⟩ := h
  have hB := wd_at n hA
  rw [← e] at hB
  rw [hB.chr] at c1 c2
  by_cases hlt : n < a.length
  · exfalso
    rw [List.drop_append_of_le_length hn, List.drop_eq_getElem_cons hlt] at c1 c2
    have := h2 _ (List.getElem_mem hlt)
    simp only [List.cons_append, List.take_succ_cons, List.take_zero] at c1 c2
    rw [isLet_one] at c1
    rw [isDig_one] at c2
    simp only [alN, c1, c2] at this
    cases this
  · omega
theorem wd_slice (h : Wd S bg a r en) (c1 : isLet (chr S en) = false) (c2 : isDig (chr S en) = false) : Txt.slice S (some bg) (some en) = ⟨a.toArray⟩ := by
  have e := wd_end h c1 c2
  rw [e]
  exact h.1.cut
theorem wd_next (h : Wd S bg a r en) (c1 : isLet (chr S en) = false) (c2 : isDig (chr S en) = false) : At S en r := by
  have e := wd_end h c1 c2
  rw [e]
  exact h.1.app
end
end
section
variable {prog : Program} {w : World} {p : Program} {loose : List Str} {mean : ExcName → Option Value} {mg mb : Str → Option Value}
def Keeps (h : Heap) (as : List Addr) (g : Heap) : Prop := ∀ b o, h.get? b = some o → b ∉ as → g.get? b = some o
structure Hid (P : Prop) : Prop where
  out : P
theorem lift {h₀ hs g' h' : Heap} {L L' x dx : Addr} {m' : Str → Option Value} {pre post new : List (Addr × Obj)} {od od' ox : Obj}
    (N : Hid (News h₀ L hs (pre ++ (dx, od) :: post))) (hx : (x, ox) ∈ pre ++ (dx, od) :: post) (ha : ∀ p ∈ pre, p.1 ≠ dx) (hb : ∀ p ∈ post, p.1 ≠ dx)
    (hK : Keeps hs [x, dx] g') (F' : Fr g' L' h' m') (N' : News h₀ L h' new) (h1 : (x, ox) ∈ new) (h2 : (dx, od') ∈ new) : News h₀ L h' (pre ++ (dx, od') :: post) := by
  have N := N.out
  have old : ∀ p : Addr × Obj, p ∈ pre ++ (dx, od) :: post → p.1 ≠ dx → h'.get? p.1 = some p.2 ∧ p.1 ≠ L ∧ h₀.get? p.1 = none := by
    intro p hp hne
    refine ⟨?_, (N p hp).2⟩
    by_cases e : p.1 = x
    · have e1 := (N p hp).1
      have e2 := (N _ hx).1
      rw [e] at e1
      rw [e1] at e2
      rw [e, Option.some.inj e2]
      exact (N' _ h1).1
    · refine F'.keep _ _ (hK _ _ (N p hp).1 fun q => ?_)
      rcases List.mem_cons.mp q with q | q
      · exact e q
      · exact hne (List.mem_singleton.mp q)
  intro p hp
  rcases List.mem_append.mp hp with q | q
  · exact old p (List.mem_append.mpr (.inl q)) (ha p q)
  · rcases List.mem_cons.mp q with q | q
    · rw [q]; exact N' _ h2
    · exact old p (List.mem_append.mpr (.inr (.tail _ q))) (hb p q)
theorem liftG {h₀ hs g' h' : Heap} {L L' x dx : Addr} {m' : Str → Option Value} {pre post new extra : List (Addr × Obj)} {od od' ox : Obj}
    (N : Hid (News h₀ L hs (pre ++ (dx, od) :: post))) (hx : (x, ox) ∈ pre ++ (dx, od) :: post) (ha : ∀ p ∈ pre, p.1 ≠ dx) (hb : ∀ p ∈ post, p.1 ≠ dx)
    (hK : Keeps hs [x, dx] g') (F' : Fr g' L' h' m') (N' : News h₀ L h' new) (h1 : (x, ox) ∈ new) (h2 : (dx, od') ∈ new) (he : ∀ p ∈ extra, p ∈ new) : News h₀ L h' (extra ++ (pre ++ (dx, od') :: post)) :=
  fun p hp => (List.mem_append.mp hp).elim (fun q => N' p (he p q)) (fun q => lift N hx ha hb hK F' N' h1 h2 p q)
structure Df (a b : Addr) : Prop where
  out : @Ne Nat a b
def NeL (a : Addr) : List (Addr × Obj) → Prop
  | [] => True
  | p :: r => Df a p.1 ∧ NeL a r
theorem neL_of {a : Addr} : ∀ {l : List (Addr × Obj)}, (∀ p ∈ l, @Ne Nat a p.1) → NeL a l
  | [], _ => trivial
  | p :: _, h => ⟨⟨h p (.head _)⟩, neL_of fun q hq => h q (.tail _ hq)⟩
theorem neL_all {a : Addr} : ∀ {l : List (Addr × Obj)}, NeL a l → ∀ p ∈ l, @Ne Nat a p.1
  | [], _, _, hp => nomatch hp
  | _ :: _, h, _, .head _ => h.1.out
  | _ :: _, h, _, .tail _ hq => neL_all h.2 _ hq
theorem made_ne {h₀ hs g' : Heap} {L x dx t : Addr} {pre post : List (Addr × Obj)} {od od' : Obj} (N : Hid (News h₀ L hs (pre ++ (dx, od) :: post))) (hK : Keeps hs [x, dx] g') (ht : g'.get? t = none) (hx : @Ne Nat t x) (hd : @Ne Nat t dx) : NeL t (pre ++ (dx, od') :: post) := by
  have N := N.out
  have all : ∀ p : Addr × Obj, p ∈ pre ++ (dx, od) :: post → @Ne Nat t p.1 := by
    intro p hp e
    have e1 : t = p.1 := e
    have hm : p.1 ∉ [x, dx] := by
      rw [← e1]
      intro q
      rcases List.mem_cons.mp q with q | q
      · exact hx q
      · exact hd (List.mem_singleton.mp q)
    have e2 := hK _ _ (N p hp).1 hm
    rw [← e1, ht] at e2
    cases e2
  refine neL_of fun p hp => ?_
  rcases List.mem_append.mp hp with q | q
  · exact all p (List.mem_append.mpr (.inl q))
  · rcases List.mem_cons.mp q with q | q
    · rw [q]; exact hd
    · exact all p (List.mem_append.mpr (.inr (.tail _ q)))
theorem two_news {h₀ hs : Heap} {L x dx : Addr} {pre post : List (Addr × Obj)} {od ox : Obj} (N : News h₀ L hs (pre ++ (dx, od) :: post)) (hx : (x, ox) ∈ pre ++ (dx, od) :: post) : News h₀ L hs [(x, ox), (dx, od)] := by
  intro p hp
  rcases List.mem_cons.mp hp with q | q
  · rw [q]; exact N _ hx
  · rw [List.mem_singleton.mp q]; exact N _ (List.mem_append.mpr (.inr (.head _)))
theorem two_ne {h₀ hs : Heap} {L x dx C : Addr} {pre post : List (Addr × Obj)} {es : List DictEntry} {n : Nat} (N : News h₀ L hs (pre ++ (dx, dictOf es n) :: post)) (hx : (x, instObj C dx) ∈ pre ++ (dx, dictOf es n) :: post) : @Ne Nat x dx := by
  intro e
  have e1 := (N _ hx).1
  have e2 := (N (dx, dictOf es n) (List.mem_append.mpr (.inr (.head _)))).1
  have e3 : x = dx := e
  rw [e3, e2] at e1
  cases e1
theorem enterK {prog : Program} {w : World} {A A₀ : Around} {s : Shared} {K : Frag} {L : Addr} {h₀ base : Heap} {m mg mb : Str → Option Value} {news : List (Addr × Obj)} {p : Program} {loose : List Str} {mean : ExcName → Option Value}
    {env : Env} {outer : List Env} {R : Result → Shared → Prop} {name qual : Str} {params : Arguments} {body : List Stmt} {scope : Scope} {dV kV doc pm cdv ct oc : Value} {an od : Option Addr} {osl : Array (Option Value)} {f : Addr} {args : Args} {binds : List (Str × Value)}
    (B : Below A₀ base outer h₀) (F : Fr h₀ L s.heap m) (X₀ : K.In h₀) (N : News h₀ L s.heap news) (T : Top p loose mean mg mb h₀) (hA : A.frames = some (env :: outer)) (hf : env.frame = some L) (hke : env.scope.kind = .function)
    (ho : K.lookup f = some ⟨oc, od, .func (fnOf name qual params body scope dV kV doc pm an cdv ct), osl⟩) (hcd : codeIn K cdv qual = true) (hroom : A.depth < recursionLimit)
    (hbind : BindsTo s (fnOf name qual params body scope dV kV doc pm an cdv ct) args binds) (hloc : ∀ y ∈ binds, scope.names.lookup y.1 = some .local)
    (h : ∀ g L' h₁, Fr h₀ L g m → Fr g L' h₁ (fun y => binds.reverse.lookup y) → News g L' h₁ news → Below A base (env :: outer) g → K.In g → Top p loose mean mg mb g → Keeps s.heap (news.map (·.1)) g →
      wpAny (model prog w) (A.deeper (envOf qual scope L' f cdv)) (execs body (envOf qual scope L' f cdv))
        (fun fl s' => LeaveK h₀ L m g R (match fl with | .ret v => v | _ => .none) s')
        (fun e s' => wpAny (model prog w) (A.deeper (envOf qual scope L' f cdv)) (leaving (envOf qual scope L' f cdv) e) (fun _ s'' => R (.error e) s'') (fun e' s'' => R (.error e') s'') s')
        { s with heap := h₁, toks := s.toks + binds.length })
    (hco : scope.isCoroutine = false) (hgen : scope.isGenerator = false) (hk : scope.kind = .function)
    (hcell : ∀ x ∈ scope.names, x.2 ≠ .cell) : codeAny (model prog w) A (.call (.ref f) args) R s := by
  obtain ⟨FG, BG, st, lv⟩ := groundX (R := R) B F N hA hf hke
  have X := X₀.keeps F.keep
  refine codeAny_call_def (fd := fnOf name qual params body scope dV kV doc pm an cdv ct) (body := body) (binds := binds) hroom (X _ _ ho) rfl (T.nolimit.keeps F.keep) (codeRec_of X hcd) rfl hbind hcell hloc (fun h₁ hns hk₁ => ?_) hco hgen hk
  refine wpAny_mono (h _ s.heap.objs.size h₁ FG ⟨hns, fun b o e => hk₁ b o (of_hideAll _ e), Nat.le_of_eq (hideAll_size _ _)⟩ (fun q hq => ?_) BG (X₀.keeps st) (T.keeps st) fun b o e n => hideAll_get _ e n) (fun fl s' hl => lv _ _ hl) fun _ _ y => y
  exact ⟨hk₁ _ _ (N q hq).1, Nat.ne_of_lt (Heap.lt_size (N q hq).1), hideAll_none _ (List.mem_map_of_mem hq)⟩

/-- what a call is handed, and what it must show: the caller's own frame, the ledger -/
abbrev Con (prog : Program) (w : World) (K : Frag) (p : Program) (loose : List Str) (mean : ExcName → Option Value) (mg mb : Str → Option Value) (f : Value) (vs : List Value) (depth units : Nat)
    (Pre : Heap → Heap → Addr → Prop) (Ret : Heap → Addr → (Str → Option Value) → Shared → (Value → Shared → Prop) → Prop) : Prop :=
  ∀ (dp un : Nat) (gd : Option (List Code)) (cn : Str) (cs : Scope) (a : Addr) (ccd : Value) (cl : List (Str × Addr)) (outer : List Env) (A₀ : Around) (base h₀ : Heap) (L : Addr) (m : Str → Option Value) (s : Shared) (Q E : Value → Shared → Prop),
    Below A₀ base outer h₀ → Fr h₀ L s.heap m → K.In h₀ → Top p loose mean mg mb h₀ → cs.kind = .function → dp + depth < recursionLimit → un + units < cLine →
    Pre h₀ s.heap L → Ret h₀ L m s Q →
      wpAny (model prog w) (ktrTop dp un gd cn cs L a ccd cl outer) (call f vs) Q E s



theorem letter_con (c : Str) (t : Tok) (news : List (Addr × Obj)) : Con prog w (kTop w.params) p loose mean mg mb (.ref 98) [.str c t] 1 8
    (fun h₀ h L => News h₀ L h news) (fun h₀ L m s Q => ∀ h' tk, Fr h₀ L h' m → News h₀ L h' news → Q (.bool (isLet c)) { s with heap := h', toks := tk }) := by
  k_with_none
  w_top off
  k_with "my k_mem" => (refine List.mem_cons_of_mem _ ?_; first | assumption | k_mem)
  k_with "my mine:enter" => (refine' enterK ?my_k1 ?my_k2 ?my_k3 ?my_k4 ?my_k5 ?my_kA ?my_kF ?my_kK ?my_k6 ?my_k7 ?my_k8 ?my_k9 ?my_kB ?_ ?my_c2 ?my_c3 ?my_c4 ?my_c5; (case my_kA => exact rfl); (case my_kF => exact rfl); (case my_kK => first | assumption | exact rfl); (case my_k1 => k_asm); (case my_k2 => k_asm); (case my_k3 => k_asm); (case my_k4 => k_asm); (case my_k5 => k_asm); (case my_k6 => k_is); (case my_k7 => k_is); (case my_k8 => ktr_room); (case my_k9 => first | exact BindsTo.of_eq rfl | exact binds_K (by k_in) rfl (by k_is) rfl rfl rfl); (case my_c5 => decide); (case my_kB => exact locs rfl); (case my_c2 => exact rfl); (case my_c3 => exact rfl); (case my_c4 => exact rfl); k_whole; intro g'W L'W h'W FG'W F'W N'W B'W X'W T'W hKpW; (try dsimp only); (try k_lift B'W); (try k_fold))
  unfold Con
  intro dp un gd cn cs a ccd cl outer A₀ base h₀ L m s Q E B F X T hk hd hu N hret
  refine wpAny_call ?_
  k_dflt (walk_at "mine:enter")
  k_steps
  all_goals (refine cb_retB (fun _ => hret) ?_ (by assumption) (by assumption))
  all_goals (simp only [isLet]; simp [*])
theorem digit_con (c : Str) (t : Tok) (news : List (Addr × Obj)) : Con prog w (kTop w.params) p loose mean mg mb (.ref 105) [.str c t] 1 8
    (fun h₀ h L => News h₀ L h news) (fun h₀ L m s Q => ∀ h' tk, Fr h₀ L h' m → News h₀ L h' news → Q (.bool (isDig c)) { s with heap := h', toks := tk }) := by
  k_with_none
  w_top off
  k_with "my k_mem" => (refine List.mem_cons_of_mem _ ?_; first | assumption | k_mem)
  k_with "my mine:enter" => (refine' enterK ?my_k1 ?my_k2 ?my_k3 ?my_k4 ?my_k5 ?my_kA ?my_kF ?my_kK ?my_k6 ?my_k7 ?my_k8 ?my_k9 ?my_kB ?_ ?my_c2 ?my_c3 ?my_c4 ?my_c5; (case my_kA => exact rfl); (case my_kF => exact rfl); (case my_kK => first | assumption | exact rfl); (case my_k1 => k_asm); (case my_k2 => k_asm); (case my_k3 => k_asm); (case my_k4 => k_asm); (case my_k5 => k_asm); (case my_k6 => k_is); (case my_k7 => k_is); (case my_k8 => ktr_room); (case my_k9 => first | exact BindsTo.of_eq rfl | exact binds_K (by k_in) rfl (by k_is) rfl rfl rfl); (case my_c5 => decide); (case my_kB => exact locs rfl); (case my_c2 => exact rfl); (case my_c3 => exact rfl); (case my_c4 => exact rfl); k_whole; intro g'W L'W h'W FG'W F'W N'W B'W X'W T'W hKpW; (try dsimp only); (try k_lift B'W); (try k_fold))
  unfold Con
  intro dp un gd cn cs a ccd cl outer A₀ base h₀ L m s Q E B F X T hk hd hu N hret
  refine wpAny_call ?_
  k_dflt (walk_at "mine:enter")
  k_steps
  all_goals (refine cb_retB (fun _ => hret) ?_ (by assumption) (by assumption))
  all_goals (simp only [isDig]; simp [*])

abbrev scEs (P : Params) (k1 k2 k3 k4 : Tok) (S : Str) (tS : Tok) (e : Value) (p : Int) (tp : Tok) (wt : Value) : List DictEntry :=
  [⟨PyData.keyHash P (Str.ofString "source"), .str (Str.ofString "source") k1, .str S tS⟩, ⟨PyData.keyHash P (Str.ofString "errors"), .str (Str.ofString "errors") k2, e⟩,
   ⟨PyData.keyHash P (Str.ofString "place"), .str (Str.ofString "place") k3, .int p tp⟩, ⟨PyData.keyHash P (Str.ofString "words"), .str (Str.ofString "words") k4, wt⟩]



theorem liftN {h₀ hs g' h' : Heap} {L L' dx : Addr} {m' : Str → Option Value} {pre post ns new : List (Addr × Obj)} {od od' : Obj}
    (N : Hid (News h₀ L hs (pre ++ (dx, od) :: post))) (ha : ∀ p ∈ pre, p.1 ≠ dx) (hb : ∀ p ∈ post, p.1 ≠ dx) (hsub : ∀ p ∈ ns, p ∈ pre ++ (dx, od) :: post) (hns : ∀ p ∈ ns, @Ne Nat p.1 dx → p ∈ new)
    (hK : Keeps hs (ns.map (·.1)) g') (F' : Fr g' L' h' m') (N' : News h₀ L h' new) (h2 : (dx, od') ∈ new) : News h₀ L h' (pre ++ (dx, od') :: post) := by
  have N := N.out
  have old : ∀ p : Addr × Obj, p ∈ pre ++ (dx, od) :: post → @Ne Nat p.1 dx → h'.get? p.1 = some p.2 ∧ p.1 ≠ L ∧ h₀.get? p.1 = none := by
    intro p hp hne
    refine ⟨?_, (N p hp).2⟩
    by_cases e : p.1 ∈ ns.map (·.1)
    · obtain ⟨q, hq, hqe⟩ := List.mem_map.mp e
      have e1 := (N p hp).1
      have e2 := (N q (hsub q hq)).1
      rw [hqe, e1] at e2
      have hq2 : @Ne Nat q.1 dx := by rw [hqe]; exact hne
      rw [Option.some.inj e2, ← hqe]
      exact (N' q (hns q hq hq2)).1
    · exact F'.keep _ _ (hK _ _ (N p hp).1 e)
  intro p hp
  rcases List.mem_append.mp hp with q | q
  · exact old p (List.mem_append.mpr (.inl q)) (ha p q)
  · rcases List.mem_cons.mp q with q | q
    · rw [q]; exact N' _ h2
    · exact old p (List.mem_append.mpr (.inr (.tail _ q))) (hb p q)
theorem liftNG {h₀ h' : Heap} {L : Addr} {l new extra : List (Addr × Obj)} (N' : News h₀ L h' new) (he : ∀ p ∈ extra, p ∈ new) (h : News h₀ L h' l) : News h₀ L h' (extra ++ l) :=
  fun p hp => (List.mem_append.mp hp).elim (fun q => N' p (he p q)) (h p)
theorem made_neN {h₀ hs g' : Heap} {L dx t : Addr} {pre post ns : List (Addr × Obj)} {od od' : Obj} (N : Hid (News h₀ L hs (pre ++ (dx, od) :: post))) (hK : Keeps hs (ns.map (·.1)) g') (ht : g'.get? t = none) (hn : ∀ p ∈ ns, @Ne Nat t p.1) (hd : @Ne Nat t dx) : NeL t (pre ++ (dx, od') :: post) := by
  have N := N.out
  have all : ∀ p : Addr × Obj, p ∈ pre ++ (dx, od) :: post → @Ne Nat t p.1 := by
    intro p hp e
    have e1 : t = p.1 := e
    have hm : p.1 ∉ ns.map (·.1) := by
      intro q
      obtain ⟨q, hq, hqe⟩ := List.mem_map.mp q
      exact hn q hq (e1.trans hqe.symm)
    have e2 := hK _ _ (N p hp).1 hm
    rw [← e1, ht] at e2
    cases e2
  refine neL_of fun p hp => ?_
  rcases List.mem_append.mp hp with q | q
  · exact all p (List.mem_append.mpr (.inl q))
  · rcases List.mem_cons.mp q with q | q
    · rw [q]; exact hd
    · exact all p (List.mem_append.mpr (.inr (.tail _ q)))
theorem obj_ne {h₀ hs : Heap} {L a b : Addr} {l : List (Addr × Obj)} {oa ob : Obj} (N : News h₀ L hs l) (h1 : (a, oa) ∈ l) (h2 : (b, ob) ∈ l) (h : oa = ob → False) : @Ne Nat a b := by
  intro e
  have e1 := (N _ h1).1
  have e2 := (N _ h2).1
  have e3 : a = b := e
  rw [e3, e2] at e1
  exact h (Option.some.inj e1).symm
theorem three_news {h₀ hs : Heap} {L x dx wa : Addr} {l : List (Addr × Obj)} {od ox ow : Obj} (N : News h₀ L hs l) (h1 : (x, ox) ∈ l) (h2 : (dx, od) ∈ l) (h3 : (wa, ow) ∈ l) : News h₀ L hs [(x, ox), (dx, od), (wa, ow)] :=
  fun p hp => N p (by
    rcases List.mem_cons.mp hp with q | q
    · rw [q]; exact h1
    rcases List.mem_cons.mp q with q | q
    · rw [q]; exact h2
    · rw [List.mem_singleton.mp q]; exact h3)
abbrev tupOf (kws : Array Value) : Obj := { cls := .type "tuple", data := .seq kws 0 }
theorem tup_dict {kws : Array Value} {es : List DictEntry} {n : Nat} (h : tupOf kws = dictOf es n) : False := by
  have := congrArg Obj.data h
  cases this
abbrev tokEs (P : Params) (k1 k2 k3 : Tok) (k : Str) (tk : Tok) (v : Str) (tv : Tok) (p : Int) (tp : Tok) : List DictEntry :=
  [⟨PyData.keyHash P (Str.ofString "kind"), .str (Str.ofString "kind") k1, .str k tk⟩, ⟨PyData.keyHash P (Str.ofString "value"), .str (Str.ofString "value") k2, .str v tv⟩,
   ⟨PyData.keyHash P (Str.ofString "place"), .str (Str.ofString "place") k3, .int p tp⟩]
theorem char0_con (x dx : Addr) (k1 k2 k3 k4 : Tok) (S : Str) (tS : Tok) (e : Value) (pl : Int) (tp : Tok) (wt : Value) (news : List (Addr × Obj)) :
  Con prog w (kTop w.params) p loose mean mg mb (.ref 141) [.ref x] 1 8
    (fun h₀ h L => News h₀ L h news ∧ (x, instObj 228 dx) ∈ news ∧ (dx, dictOf (scEs w.params k1 k2 k3 k4 S tS e pl tp wt) 4) ∈ news ∧ S.length ≤ 1000000 ∧ 0 ≤ pl)
    (fun h₀ L m s Q => ∀ t h' tk, Fr h₀ L h' m → News h₀ L h' news → (chr S pl).length ≤ 1 → Q (.str (chr S pl) t) { s with heap := h', toks := tk }) := by
  k_with_none
  w_top off
  k_with "my k_mem" => (refine List.mem_cons_of_mem _ ?_; first | assumption | k_mem)
  k_with "my mine:enter" => (refine' enterK ?my_k1 ?my_k2 ?my_k3 ?my_k4 ?my_k5 ?my_kA ?my_kF ?my_kK ?my_k6 ?my_k7 ?my_k8 ?my_k9 ?my_kB ?_ ?my_c2 ?my_c3 ?my_c4 ?my_c5; (case my_kA => exact rfl); (case my_kF => exact rfl); (case my_kK => first | assumption | exact rfl); (case my_k1 => k_asm); (case my_k2 => k_asm); (case my_k3 => k_asm); (case my_k4 => k_asm); (case my_k5 => k_asm); (case my_k6 => k_is); (case my_k7 => k_is); (case my_k8 => ktr_room); (case my_k9 => first | exact BindsTo.of_eq rfl | exact binds_K (by k_in) rfl (by k_is) rfl rfl rfl); (case my_c5 => decide); (case my_kB => exact locs rfl); (case my_c2 => exact rfl); (case my_c3 => exact rfl); (case my_c4 => exact rfl); k_whole; intro g'W L'W h'W FG'W F'W N'W B'W X'W T'W hKpW; (try dsimp only); (try k_lift B'W); (try k_fold))
  unfold Con
  intro dp un gd cn cs a ccd cl outer A₀ base h₀ L m s Q E B F X T hk hd hu ⟨N, hx, hdx, hS, h0⟩ hret
  refine wpAny_call ?_
  k_dflt (walk_at "mine:enter")
  k_steps
  all_goals (refine cb_retS (fun t h tk F N => hret t h tk F N (chr_len h0)) ?_ (by assumption) (by assumption))
  all_goals (simp only [chr, Int.add_zero])
theorem char1_con (x dx : Addr) (k1 k2 k3 k4 : Tok) (S : Str) (tS : Tok) (e : Value) (pl : Int) (tp : Tok) (wt : Value) (ah : Int) (ta : Tok) (news : List (Addr × Obj)) :
  Con prog w (kTop w.params) p loose mean mg mb (.ref 141) [.ref x, .int ah ta] 1 8
    (fun h₀ h L => News h₀ L h news ∧ (x, instObj 228 dx) ∈ news ∧ (dx, dictOf (scEs w.params k1 k2 k3 k4 S tS e pl tp wt) 4) ∈ news ∧ S.length ≤ 1000000 ∧ 0 ≤ pl + ah)
    (fun h₀ L m s Q => ∀ t h' tk, Fr h₀ L h' m → News h₀ L h' news → (chr S (pl + ah)).length ≤ 1 → Q (.str (chr S (pl + ah)) t) { s with heap := h', toks := tk }) := by
  k_with_none
  w_top off
  k_with "my k_mem" => (refine List.mem_cons_of_mem _ ?_; first | assumption | k_mem)
  k_with "my mine:enter" => (refine' enterK ?my_k1 ?my_k2 ?my_k3 ?my_k4 ?my_k5 ?my_kA ?my_kF ?my_kK ?my_k6 ?my_k7 ?my_k8 ?my_k9 ?my_kB ?_ ?my_c2 ?my_c3 ?my_c4 ?my_c5; (case my_kA => exact rfl); (case my_kF => exact rfl); (case my_kK => first | assumption | exact rfl); (case my_k1 => k_asm); (case my_k2 => k_asm); (case my_k3 => k_asm); (case my_k4 => k_asm); (case my_k5 => k_asm); (case my_k6 => k_is); (case my_k7 => k_is); (case my_k8 => ktr_room); (case my_k9 => first | exact BindsTo.of_eq rfl | exact binds_K (by k_in) rfl (by k_is) rfl rfl rfl); (case my_c5 => decide); (case my_kB => exact locs rfl); (case my_c2 => exact rfl); (case my_c3 => exact rfl); (case my_c4 => exact rfl); k_whole; intro g'W L'W h'W FG'W F'W N'W B'W X'W T'W hKpW; (try dsimp only); (try k_lift B'W); (try k_fold))
  unfold Con
  intro dp un gd cn cs a ccd cl outer A₀ base h₀ L m s Q E B F X T hk hd hu ⟨N, hx, hdx, hS, h0⟩ hret
  refine wpAny_call ?_
  k_dflt (walk_at "mine:enter")
  k_steps
  all_goals (refine cb_retS (fun t h tk F N => hret t h tk F N (chr_len h0)) ?_ (by assumption) (by assumption))
  all_goals (simp only [chr])

end
section
variable {prog : Program} {w : World} {p : Program} {loose : List Str} {mean : ExcName → Option Value} {mg mb : Str → Option Value}
def symOf (a b : Str) : Str := if [Str.ofString ":=", Str.ofString "<=", Str.ofString ">=", Str.ofString ".."].any (fun x => x == a ++ b) then a ++ b
  else if (Builtin.Str.occurrences (Str.ofString "+-*/~&.,;|([{^=#<>:)]}") a 0 (Str.ofString "+-*/~&.,;|([{^=#<>:)]}").length 1).isEmpty then Str.ofString "" else a
theorem symOf_len {S : Str} {pl : Int} (h0 : 0 ≤ pl) : (symOf (chr S pl) (chr S (pl + 1))).length ≤ 2 := by
  have h1 := chr_len (S := S) h0
  have h2 := chr_len (S := S) (i := pl + 1) (by omega)
  have h3 : (chr S pl ++ chr S (pl + 1)).length = (chr S pl).length + (chr S (pl + 1)).length := Str.length_append ..
  unfold symOf
  split
  · omega
  · split
    · show 0 ≤ 2
      omega
    · omega
theorem symbol_con (x dx : Addr) (k1 k2 k3 k4 : Tok) (S : Str) (tS : Tok) (e : Value) (pl : Int) (tp : Tok) (wt : Value) (news : List (Addr × Obj)) :
  Con prog w (kTop w.params) p loose mean mg mb (.ref 225) [.ref x] 2 16
    (fun h₀ h L => News h₀ L h news ∧ (x, instObj 228 dx) ∈ news ∧ (dx, dictOf (scEs w.params k1 k2 k3 k4 S tS e pl tp wt) 4) ∈ news ∧ S.length ≤ 1000000 ∧ 0 ≤ pl)
    (fun h₀ L m s Q => ∀ t h' tk, Fr h₀ L h' m → News h₀ L h' news → (symOf (chr S pl) (chr S (pl + 1))).length ≤ 2 → Q (.str (symOf (chr S pl) (chr S (pl + 1))) t) { s with heap := h', toks := tk }) := by
  k_with_none
  w_top off
  k_with "my k_mem" => (first | exact List.Mem.head _ | assumption | (refine List.Mem.tail _ ?_; first | exact List.Mem.head _ | assumption | (refine List.Mem.tail _ ?_; first | exact List.Mem.head _ | assumption | (refine List.Mem.tail _ ?_; first | exact List.Mem.head _ | assumption | (refine List.Mem.tail _ ?_; first | exact List.Mem.head _ | assumption | (refine List.Mem.tail _ ?_; first | exact List.Mem.head _ | assumption | (refine List.Mem.tail _ ?_; first | exact List.Mem.head _ | assumption | (refine List.Mem.tail _ ?_; first | exact List.Mem.head _ | assumption | (refine List.Mem.tail _ ?_; first | exact List.Mem.head _ | assumption | (refine List.Mem.tail _ ?_; first | exact List.Mem.head _ | assumption | (refine List.Mem.tail _ ?_; first | exact List.Mem.head _ | assumption | (refine List.Mem.tail _ ?_; first | exact List.Mem.head _ | assumption | (refine List.Mem.tail _ ?_; first | exact List.Mem.head _ | assumption)))))))))))))
  k_with "my k_ne" => (refine neN ?_; (try dsimp only); first | exact Df.out (by assumption) | exact (Df.out (by assumption)).symm)
  k_with "my mine:enter" => (refine' enterK ?my_k1 ?my_k2 ?my_k3 ?my_k4 ?my_k5 ?my_kA ?my_kF ?my_kK ?my_k6 ?my_k7 ?my_k8 ?my_k9 ?my_kB ?_ ?my_c2 ?my_c3 ?my_c4 ?my_c5; (case my_kA => exact rfl); (case my_kF => exact rfl); (case my_kK => first | assumption | exact rfl); (case my_k1 => k_asm); (case my_k2 => k_asm); (case my_k3 => k_asm); (case my_k4 => k_asm); (case my_k5 => k_asm); (case my_k6 => k_is); (case my_k7 => k_is); (case my_k8 => ktr_room); (case my_k9 => first | exact BindsTo.of_eq rfl | exact binds_K (by k_in) rfl (by k_is) rfl rfl rfl); (case my_c5 => decide); (case my_kB => exact locs rfl); (case my_c2 => exact rfl); (case my_c3 => exact rfl); (case my_c4 => exact rfl); k_whole; intro g'W L'W h'W FG'W F'W N'W B'W X'W T'W hKpW; (try dsimp only); (try k_lift B'W); (try k_fold))
  k_with "my call ref" => (k_here; (with_reducible show wpAny _ _ (call (Value.ref 98) _ _) _ _ _); k_dflt (refine' letter_con _ _ _ _ _ _ _ _ _ _ _ _ _ _ _ _ _ _ _ _ ?my_k1 ?my_k2 ?my_k3 ?my_k4 ?my_k5 ?my_k6 ?my_k7 ?my_k8 ?_; (case my_k1 => k_asm); (case my_k2 => k_asm); (case my_k3 => k_asm); (case my_k4 => k_asm); (case my_k5 => first | exact rfl | assumption); (case my_k8 => k_asm); (case my_k6 => ktr_room); (case my_k7 => ktr_units); k_whole; intro h'W tk'W F'W N'W; (try dsimp only); (try k_sweep); (try k_fold)))
  k_with "my call ref" => (k_here; (with_reducible show wpAny _ _ (call (Value.ref 105) _ _) _ _ _); k_dflt (refine' digit_con _ _ _ _ _ _ _ _ _ _ _ _ _ _ _ _ _ _ _ _ ?my_k1 ?my_k2 ?my_k3 ?my_k4 ?my_k5 ?my_k6 ?my_k7 ?my_k8 ?_; (case my_k1 => k_asm); (case my_k2 => k_asm); (case my_k3 => k_asm); (case my_k4 => k_asm); (case my_k5 => first | exact rfl | assumption); (case my_k8 => k_asm); (case my_k6 => ktr_room); (case my_k7 => ktr_units); k_whole; intro h'W tk'W F'W N'W; (try dsimp only); (try k_sweep); (try k_fold)))
  k_with "my call ref" => (k_here; (show wpAny _ _ (call (Value.ref 141) [_] _) _ _ _); k_dflt (refine' char0_con _ _ _ _ _ _ _ _ _ _ _ _ _ _ _ _ _ _ _ _ _ _ _ _ _ _ _ _ _ _ ?my_k1 ?my_k2 ?my_k3 ?my_k4 ?my_k5 ?my_k6 ?my_k7 ?my_k8 ?_; (case my_k1 => k_asm); (case my_k2 => k_asm); (case my_k3 => k_asm); (case my_k4 => k_asm); (case my_k5 => first | exact rfl | assumption); (case my_k8 => (refine ⟨by k_asm, by first | assumption | k_mem, by first | assumption | k_mem, by assumption, by omega⟩)); (case my_k6 => ktr_room); (case my_k7 => ktr_units); k_whole; intro t'W h'W tk'W F'W N'W hl'W; (try dsimp only); (try k_sweep); (try k_fold)))
  k_with "my call ref" => (k_here; (show wpAny _ _ (call (Value.ref 141) [_, _] _) _ _ _); k_dflt (refine' char1_con _ _ _ _ _ _ _ _ _ _ _ _ _ _ _ _ _ _ _ _ _ _ _ _ _ _ _ _ _ _ _ _ ?my_k1 ?my_k2 ?my_k3 ?my_k4 ?my_k5 ?my_k6 ?my_k7 ?my_k8 ?_; (case my_k1 => k_asm); (case my_k2 => k_asm); (case my_k3 => k_asm); (case my_k4 => k_asm); (case my_k5 => first | exact rfl | assumption); (case my_k8 => (refine ⟨by k_asm, by first | assumption | k_mem, by first | assumption | k_mem, by assumption, by omega⟩)); (case my_k6 => ktr_room); (case my_k7 => ktr_units); k_whole; intro t'W h'W tk'W F'W N'W hl'W; (try dsimp only); (try k_sweep); (try k_fold)))
  k_with "my call ref" => (k_here; (show wpAny _ _ (call (Value.ref 80) _ _) _ _ _); k_dflt (refine' call_cls ?my_k1 ?my_k2 ?my_k3 ?my_k4 ?my_k5 ?my_k6 ?_; (case my_k1 => k_asm); (case my_k2 => k_asm); (case my_k3 => k_asm); (case my_k4 => k_is); (case my_k5 => k_is); (case my_k6 => k_is); k_whole; intro x'W d'W h'W F'W N'W l1 l2; (try k_lt l1); (try k_lt2 l2); (try k_sweep); walk_at "mine:enter"))
  unfold Con
  intro dp un gd cn cs a ccd cl outer A₀ base h₀ L m s Q E B F X T hk hd hu ⟨N, hx, hdx, hS, h0⟩ hret
  refine wpAny_call ?_
  k_dflt (walk_at "mine:enter")
  k_steps
  all_goals (refine cb_retS (fun t h tk F N => hret t h tk F N (symOf_len h0)) ?_ (by assumption) (by first | assumption | exact cb_drop (by assumption) (fun q hq => List.mem_cons_of_mem _ hq)))
  all_goals (simp only [symOf]; simp only [*]; simp)

end
section
open PySem PyProof.Rows PySem.Spec PySem.Builtin PySem.Builtin.Str
def stx (l : List Nat) : Str := ⟨l.toArray⟩
/-- the token at the head of a text that begins with no blank and no remark -/
inductive Tk : List Nat → Str → Str → List Nat → Prop
  | word {c : Nat} {a r : List Nat} : letN c = true → (∀ d ∈ a, alN d = true) → (∀ d, r.head? = some d → alN d = false) → Tk (c :: a ++ r) (kindOf (stx (c :: a))) (valOf (stx (c :: a))) r
  | sym {c : Nat} {r : List Nat} {y : Str} : letN c = false → digN c = false → c ≠ 34 → symOf (stx [c]) (stx (r.take 1)) = y → y ≠ Str.ofString "" → Tk (c :: r) y (Str.ofString "") ((c :: r).drop y.length)
theorem ofs_quote : Str.ofString "\"" = ⟨([34] : List Nat).toArray⟩ := by decide +kernel
section
variable {S : Str} {pl : Int} {r r' : List Nat} {k v : Str}
theorem tk_noteof (h : Tk r k v r') (hA : At S pl r) (c : (chr S pl == Str.ofString "") = true) : False := by
  rw [hA.chr, ofs_empty, str_beq] at c
  cases h <;> simp at c
theorem tk_nodig (h : Tk r k v r') (hA : At S pl r) (c0 : isLet (chr S pl) = false) (c : isDig (chr S pl) = true) : False := by
  rw [hA.chr] at c c0
  cases h with
  | word h1 => simp only [List.cons_append, List.take_succ_cons, List.take_zero] at c0; rw [isLet_one, h1] at c0; cases c0
  | sym _ h2 => simp only [List.take_succ_cons, List.take_zero] at c; rw [isDig_one, h2] at c; cases c
theorem tk_noquote (h : Tk r k v r') (hA : At S pl r) (c0 : isLet (chr S pl) = false) (c : (chr S pl == Str.ofString "\"") = true) : False := by
  rw [hA.chr] at c c0
  cases h with
  | word h1 => simp only [List.cons_append, List.take_succ_cons, List.take_zero] at c0; rw [isLet_one, h1] at c0; cases c0
  | sym _ _ h3 => rw [ofs_quote, str_beq] at c; simp at c; exact h3 c
theorem tk_letter (h : Tk r k v r') (hA : At S pl r) (c0 : isLet (chr S pl) = true) : ∃ a, Wd S pl a r' pl ∧ k = kindOf ⟨a.toArray⟩ ∧ v = valOf ⟨a.toArray⟩ := by
  rw [hA.chr] at c0
  cases h with
  | @word c a r h1 h2 h3 => exact ⟨c :: a, wd_start hA (fun d hd => by
      rcases List.mem_cons.mp hd with q | q
      · rw [q, alN, h1]; rfl
      · exact h2 d q) h3, rfl, rfl⟩
  | sym h1 => simp only [List.take_succ_cons, List.take_zero] at c0; rw [isLet_one, h1] at c0; cases c0
theorem tk_nosym (h : Tk r k v r') (hA : At S pl r) (c0 : isLet (chr S pl) = false) (c : (symOf (chr S pl) (chr S (pl + 1)) != Str.ofString "") = false) : False := by
  rw [hA.chr] at c c0
  rw [hA.tail.chr] at c
  cases h with
  | word h1 => simp only [List.cons_append, List.take_succ_cons, List.take_zero] at c0; rw [isLet_one, h1] at c0; cases c0
  | @sym c r y _ _ _ h4 h5 =>
    simp only [List.take_succ_cons, List.take_zero, List.tail_cons, stx] at c h4
    rw [h4] at c
    simp at c
    exact h5 c
theorem tk_sym (h : Tk r k v r') (hA : At S pl r) (c0 : isLet (chr S pl) = false) : k = symOf (chr S pl) (chr S (pl + 1)) ∧ v = Str.ofString "" ∧ At S (pl + (symOf (chr S pl) (chr S (pl + 1))).length) r' := by
  have hT := hA.tail
  have e1 := hA.chr
  have e2 := hT.chr
  rw [e1] at c0
  rw [e1, e2]
  cases h with
  | word h1 => simp only [List.cons_append, List.take_succ_cons, List.take_zero] at c0; rw [isLet_one, h1] at c0; cases c0
  | @sym c r y _ _ _ h4 h5 =>
    simp only [List.take_succ_cons, List.take_zero, List.tail_cons, stx] at h4 ⊢
    rw [h4]
    refine ⟨by first | exact rfl | exact trivial, by first | exact rfl | exact trivial, ?_⟩
    refine ⟨by have := hA.1; omega, ?_⟩
    have e : (pl + (k.length : Int)).toNat = pl.toNat + k.length := by have := hA.1; omega
    rw [e, ← List.drop_drop, hA.2]
end
theorem skp_le {r r1 : List Nat} (h : Skp r r1) : r1.length ≤ r.length := by
  induction h with
  | nil => exact Nat.le_refl _
  | stop _ _ => exact Nat.le_refl _
  | white _ _ k => simp only [List.length_cons]; omega
  | rem a _ k => have := rem_len a; simp only [List.length_cons]; omega
theorem tk_lt {r r1 : List Nat} {k v : Str} (h : Tk r k v r1) : r1.length < r.length := by
  cases h with
  | word => simp only [List.length_cons, List.length_append]; omega
  | @sym c r y _ _ _ h4 h5 =>
    have : k.length ≠ 0 := by
      intro e
      apply h5
      have : k.cps.toList = [] := List.eq_nil_of_length_eq_zero (by simpa [Str.length] using e)
      rcases hk : k with ⟨a⟩
      rw [hk] at this
      have ea : a = [].toArray := by rw [← this]
      rw [ea, ofs_empty]
    simp only [List.length_drop, List.length_cons]
    omega
theorem at_lt {S : Str} {pl pl' : Int} {r1 r2 : List Nat} {k v : Str} (h : ∃ r, At S pl r ∧ Skp r r1) (hT : Tk r1 k v r2) (h2 : At S pl' r2) : pl < pl' := by
  obtain ⟨r, hA, hS⟩ := h
  have a := skp_le hS
  have b := tk_lt hT
  have c := hA.len
  have d := h2.len
  have e := hA.1
  have f := h2.1
  omega
end
section
open PySem PyProof.Rows PySem.Spec PySem.Builtin PySem.Builtin.Str
/-- the tokens that a text begins with -/
inductive Strm : List Nat → List (Str × Str) → Prop
  | nil {r : List Nat} : Strm r []
  | cons {r r1 r2 : List Nat} {k v : Str} {ts : List (Str × Str)} : Skp r r1 → Tk r1 k v r2 → Strm r2 ts → Strm r ((k, v) :: ts)
def St (S : Str) (pl : Int) (ts : List (Str × Str)) : Prop := ∃ r, At S pl r ∧ Strm r ts
theorem St.next {S : Str} {pl : Int} {k v : Str} {ts : List (Str × Str)} (h : St S pl ((k, v) :: ts)) : ∃ r1 r2, (∃ r, At S pl r ∧ Skp r r1) ∧ Tk r1 k v r2 ∧ Strm r2 ts := by
  obtain ⟨r, hA, hS⟩ := h
  cases hS with
  | cons a b c => exact ⟨_, _, ⟨_, hA, a⟩, b, c⟩
abbrev sIdent : Str := Str.ofString "ident"
abbrev sIs : Str := Str.ofString ":="
abbrev sNone : Str := Str.ofString ""
abbrev TS := List (Str × Str)
def imp3 (t : Str × Str) (ts : TS) : Option (Str × (Str × Str) × TS) := if t.1 = sIdent then (match ts with | [] => none | t4 :: ts4 => some (t.2, t4, ts4)) else some (sNone, t, ts)
def imp2 (v : Str) (t : Str × Str) (ts : TS) : Option (Str × (Str × Str) × TS) := if t.1 = sIs then (match ts with | [] => none | t3 :: ts3 => imp3 t3 ts3) else some (v, t, ts)
def imp1 (t : Str × Str) (ts : TS) : Option (Str × (Str × Str) × TS) := if t.1 = sIdent then (match ts with | [] => none | t2 :: ts2 => imp2 t.2 t2 ts2) else some (sNone, t, ts)
abbrev Res := Str × (Str × Str) × TS
structure I1 (t : Str × Str) (ts : TS) (R : Res) : Prop where
  out : imp1 t ts = some R
structure I2 (n : Str) (t : Str × Str) (ts : TS) (R : Res) : Prop where
  out : imp2 n t ts = some R
structure I3 (t : Str × Str) (ts : TS) (R : Res) : Prop where
  out : imp3 t ts = some R
structure I4 (n : Str) (t : Str × Str) (ts : TS) (R : Res) : Prop where
  out : R = (n, t, ts)
section
variable {S : Str} {pl : Int} {ts ts' : TS} {k v n k' v' : Str}
abbrev Nx (S : Str) (pl : Int) (f : Str × Str → TS → Prop) : Prop := ∃ k v ts r1 r2, (∃ r, At S pl r ∧ Skp r r1) ∧ Tk r1 k v r2 ∧ Strm r2 ts ∧ f (k, v) ts
theorem nx_of {t : Str × Str} {f : Str × Str → TS → Prop} (h : St S pl (t :: ts)) (hf : f t ts) : Nx S pl f := by
  obtain ⟨k, v⟩ := t
  obtain ⟨r1, r2, a, b, c⟩ := h.next
  exact ⟨k, v, ts, r1, r2, a, b, c, hf⟩
theorem nx1 {R : Res} (h : I1 (k, v) ts R) (c : (k != sIdent) = false) (hS : St S pl ts) : Nx S pl (fun t ts => I2 v t ts R) := by
  have h := h.out
  have c : k = sIdent := by simpa using c
  simp only [imp1, if_pos c] at h
  cases ts with
  | nil => simp at h
  | cons t2 ts2 => exact nx_of hS ⟨h⟩
theorem nx2 {R : Res} (h : I2 n (k, v) ts R) (c : (k == sIs) = true) (hS : St S pl ts) : Nx S pl (fun t ts => I3 t ts R) := by
  have h := h.out
  have c : k = sIs := by simpa using c
  simp only [imp2, if_pos c] at h
  cases ts with
  | nil => simp at h
  | cons t2 ts2 => exact nx_of hS ⟨h⟩
theorem nx3 {R : Res} (h : I3 (k, v) ts R) (c : (k != sIdent) = false) (hS : St S pl ts) : Nx S pl (fun t ts => I4 v t ts R) := by
  have h := h.out
  have c : k = sIdent := by simpa using c
  simp only [imp3, if_pos c] at h
  cases ts with
  | nil => simp at h
  | cons t2 ts2 => exact nx_of hS ⟨(Option.some.inj h).symm⟩
theorem end1 {R : Res} (h : I1 (k, v) ts R) (c : (k != sIdent) = true) : R = (sNone, (k, v), ts) := by
  have h := h.out
  have c : k ≠ sIdent := by simpa using c
  simp only [imp1, if_neg c] at h
  exact (Option.some.inj h).symm
theorem end2 {R : Res} (h : I2 n (k, v) ts R) (c : (k == sIs) = false) : R = (n, (k, v), ts) := by
  have h := h.out
  have c : k ≠ sIs := by simpa using c
  simp only [imp2, if_neg c] at h
  exact (Option.some.inj h).symm
theorem end3 {R : Res} (h : I3 (k, v) ts R) (c : (k != sIdent) = true) : R = (sNone, (k, v), ts) := by
  have h := h.out
  have c : k ≠ sIdent := by simpa using c
  simp only [imp3, if_neg c] at h
  exact (Option.some.inj h).symm
theorem end4 {R : Res} (h : I4 n (k, v) ts R) : R = (n, (k, v), ts) := h.out
end
end
section
open PySem PyProof.Rows PySem.Spec PySem.Builtin PySem.Builtin.Str
abbrev sComma : Str := Str.ofString ","
def addN (names : List Str) (n : Str) : List Str := if n ≠ sNone ∧ n ∉ names then names ++ [n] else names
/-- what the loop of import_names gathers -/
inductive Imps : TS → List Str → List Str → Prop
  | mk {t : Str × Str} {ts ts' : TS} {n k v : Str} {names res : List Str} : imp1 t ts = some (n, (k, v), ts') → (k = sComma → n ≠ sNone → Imps ts' (addN names n) res) → (¬ (k = sComma ∧ n ≠ sNone) → res = addN names n) → Imps (t :: ts) names res
structure J2 (n k : Str) (ts : TS) (names res : List Str) : Prop where
  go : k = sComma → n ≠ sNone → Imps ts (addN names n) res
  stop : ¬ (k = sComma ∧ n ≠ sNone) → res = addN names n
structure J1 (t : Str × Str) (ts : TS) (names res : List Str) : Prop where
  out : ∃ n k v ts', I1 t ts (n, (k, v), ts') ∧ J2 n k ts' names res
theorem j1_out {t : Str × Str} {ts : TS} {names res : List Str} (h : J1 t ts names res) : ∃ n k v ts', I1 t ts (n, (k, v), ts') ∧ J2 n k ts' names res := h.out
structure ImpSt (S : Str) (res : List Str) (more : Bool) (names : List Str) (pl : Int) : Prop where
  go : more = true → (names.length : Int) ≤ pl ∧ ∃ ts, St S pl ts ∧ Imps ts names res
  stop : more = false → names = res
section
variable {S : Str} {pl : Int} {res names : List Str} {more : Bool}
theorem nx4 (h : ImpSt S res more names pl) (c : more = true) : Nx S pl (fun t ts => J1 t ts names res) := by
  obtain ⟨_, ts, hS, hI⟩ := h.go c
  cases hI with
  | mk a b c => exact nx_of hS ⟨_, _, _, _, ⟨a⟩, ⟨b, c⟩⟩
theorem st_len {ts : TS} {t : Str × Str} (h : St S pl (t :: ts)) : pl < (S.length : Int) := by
  obtain ⟨k, v⟩ := t
  obtain ⟨r1, r2, ⟨r, hA, hSk⟩, hT, _⟩ := h.next
  have a := skp_le hSk
  have b := tk_lt hT
  have c := hA.len
  have e := hA.1
  omega
theorem impst_len (h : ImpSt S res more names pl) (c : more = true) : (names.length : Int) ≤ pl ∧ pl < (S.length : Int) := by
  obtain ⟨a, ts, hS, hI⟩ := h.go c
  cases hI with
  | mk => exact ⟨a, st_len hS⟩
theorem impst_end (h : ImpSt S res more names pl) (c : more = false) : names = res := h.stop c
theorem addN_len (names : List Str) (n : Str) : ((addN names n).length : Int) ≤ names.length + 1 := by
  unfold addN
  split
  · simp
  · omega
/-- a turn's end -/
theorem impst_turn {pl pl' : Int} {n k : Str} {ts : TS} {more' : Bool} {names' : List Str} (h : ImpSt S res more names pl) (c : more = true) (hJ : J2 n k ts names res) (hS : St S pl' ts) (hlt : pl < pl') (hn : names' = addN names n) (hm : more' = true ↔ (k = sComma ∧ n ≠ sNone)) : ImpSt S res more' names' pl' := by
  have hl := (impst_len h c).1
  have ha := addN_len names n
  constructor
  · intro hc
    obtain ⟨h1, h2⟩ := hm.mp hc
    rw [hn]
    exact ⟨by omega, ts, hS, hJ.go h1 h2⟩
  · intro hc
    rw [hn]
    refine (hJ.stop fun hh => ?_).symm
    rw [hm.mpr hh] at hc
    cases hc
theorem impst_turn1 {pl pl' : Int} {n k : Str} {ts : TS} {more' : Bool} {names' : List Str} {lim : Nat} (hlim : lim = 1000001) (hS9 : S.length ≤ 1000000) (h : ImpSt S res more names pl) (c : more = true) (hJ : J2 n k ts names res) (hS : St S pl' ts) (hlt : pl < pl') (hn : names' = addN names n) (hm : more' = true ↔ (k = sComma ∧ n ≠ sNone)) : names'.length ≤ lim ∧ ImpSt S res more' names' pl' := by
  have hl := impst_len h c
  have ha := addN_len names n
  refine ⟨?_, impst_turn h c hJ hS hlt hn hm⟩
  rw [hn]
  omega
theorem addN_eq1 {n : Str} (h2 : (names.any fun x => x == n) = true) : names = addN names n := by
  have : ¬ (n ≠ sNone ∧ n ∉ names) := by
    intro ⟨_, b⟩
    simp at h2
    exact b h2
  rw [addN, if_neg this]
theorem addN_eq2 {n : Str} (h1 : (n != sNone) = true) (h2 : (names.any fun x => x == n) = false) : names ++ [n] = addN names n := by
  have : n ≠ sNone ∧ n ∉ names := by
    simp at h1 h2
    exact ⟨h1, fun hh => h2 _ hh rfl⟩
  rw [addN, if_pos this]
theorem addN_eq3 {n : Str} (h1 : (n != sNone) = false) : names = addN names n := by
  have : ¬ (n ≠ sNone ∧ n ∉ names) := by
    intro ⟨a, _⟩
    simp at h1
    exact a h1
  rw [addN, if_neg this]
theorem more_1 {n k : Str} (h : (k == sComma) = true) : (n != sNone) = true ↔ (k = sComma ∧ n ≠ sNone) := by
  simp at h
  simp [h]
theorem more_2 {n k : Str} (h : (k == sComma) = false) : (k == sComma) = true ↔ (k = sComma ∧ n ≠ sNone) := by
  simp at h
  simp [h]
end
end
section
open PySem PyProof.Rows PySem.Spec PySem.Builtin PySem.Builtin.Str
abbrev sModule : Str := Str.ofString "MODULE"
abbrev sSemi : Str := Str.ofString ";"
abbrev sImport : Str := Str.ofString "IMPORT"
/-- what head_of tells of a stream of tokens -/
structure A4 (t : Str × Str) (ts : TS) (nm name : Str) (res : List Str) : Prop where
  yes : t.1 = sImport → name = nm ∧ Imps ts [] res
  no : t.1 ≠ sImport → name = nm ∧ res = []
structure A3 (t : Str × Str) (ts : TS) (nm name : Str) (res : List Str) : Prop where
  yes : t.1 = sSemi → ∃ t' ts', ts = t' :: ts' ∧ A4 t' ts' nm name res
  no : t.1 ≠ sSemi → name = nm ∧ res = []
structure A2 (t : Str × Str) (ts : TS) (name : Str) (res : List Str) : Prop where
  yes : t.1 = sIdent → ∃ t' ts', ts = t' :: ts' ∧ A3 t' ts' t.2 name res
  no : t.1 ≠ sIdent → name = sNone ∧ res = []
structure A1 (t : Str × Str) (ts : TS) (name : Str) (res : List Str) : Prop where
  yes : t.1 = sModule → ∃ t' ts', ts = t' :: ts' ∧ A2 t' ts' name res
  no : t.1 ≠ sModule → name = sNone ∧ res = []
structure A0 (ts : TS) (name : Str) (res : List Str) : Prop where
  out : ∃ t' ts', ts = t' :: ts' ∧ A1 t' ts' name res
section
variable {S : Str} {pl : Int} {ts : TS} {k v nm name : Str} {res : List Str}
theorem na0 (h : A0 ts name res) (hS : St S pl ts) : Nx S pl (fun t ts => A1 t ts name res) := by
  obtain ⟨t, ts', rfl, hA⟩ := h.out
  exact nx_of hS hA
theorem na1 (h : A1 (k, v) ts name res) (c : (k != sModule) = false) (hS : St S pl ts) : Nx S pl (fun t ts => A2 t ts name res) := by
  obtain ⟨t, ts', rfl, hA⟩ := h.yes (by simpa using c)
  exact nx_of hS hA
theorem na2 (h : A2 (k, v) ts name res) (c : (k != sIdent) = false) (hS : St S pl ts) : Nx S pl (fun t ts => A3 t ts v name res) := by
  obtain ⟨t, ts', rfl, hA⟩ := h.yes (by simpa using c)
  exact nx_of hS hA
theorem na3 (h : A3 (k, v) ts nm name res) (c : (k != sSemi) = false) (hS : St S pl ts) : Nx S pl (fun t ts => A4 t ts nm name res) := by
  obtain ⟨t, ts', rfl, hA⟩ := h.yes (by simpa using c)
  exact nx_of hS hA
theorem na4 (h : A4 (k, v) ts nm name res) (c : (k != sImport) = false) : Imps ts [] res := (h.yes (by simpa using c)).2
theorem ea1 (h : A1 (k, v) ts name res) (c : (k != sModule) = true) : name = sNone ∧ res = [] := h.no (by simpa using c)
theorem ea2 (h : A2 (k, v) ts name res) (c : (k != sIdent) = true) : name = sNone ∧ res = [] := h.no (by simpa using c)
theorem ea3 (h : A3 (k, v) ts nm name res) (c : (k != sSemi) = true) : name = nm ∧ res = [] := h.no (by simpa using c)
theorem ea4 (h : A4 (k, v) ts nm name res) (c : (k != sImport) = true) : name = nm ∧ res = [] := h.no (by simpa using c)
theorem ea5 (h : A4 (k, v) ts nm name res) (c : (k != sImport) = false) : name = nm ∧ res = res := ⟨(h.yes (by simpa using c)).1, rfl⟩
end
end
section
variable {prog : Program} {w : World} {p : Program} {loose : List Str} {mean : ExcName → Option Value} {mg mb : Str → Option Value}
theorem remark_con (x dx : Addr) (k1 k2 k3 k4 : Tok) (S : Str) (tS : Tok) (e : Value) (pl : Int) (tp : Tok) (wt : Value) (news : List (Addr × Obj)) (g : Obj → List (Addr × Obj)) (r' : List Nat) :
  Con prog w (kTop w.params) p loose mean mg mb (.ref 162) [.ref x] 2 16
    (fun h₀ h L => News h₀ L h news ∧ (x, instObj 228 dx) ∈ news ∧ UpdF dx (dictOf (scEs w.params k1 k2 k3 k4 S tS e pl tp wt) 4) news g ∧ S.length ≤ 1000000 ∧ 0 ≤ pl ∧ ∃ r, At S (pl + 2) r ∧ Rem 1 r r')
    (fun h₀ L m s Q => ∀ pl' tp' h' tk, Fr h₀ L h' m → News h₀ L h' (g (dictOf (scEs w.params k1 k2 k3 k4 S tS e pl' tp' wt) 4)) → At S pl' r' → Q .none { s with heap := h', toks := tk }) := by
  k_with_none
  w_top off
  k_with "my k_mem" => (first | exact List.Mem.head _ | assumption | (refine List.Mem.tail _ ?_; first | exact List.Mem.head _ | assumption | (refine List.Mem.tail _ ?_; first | exact List.Mem.head _ | assumption | (refine List.Mem.tail _ ?_; first | exact List.Mem.head _ | assumption | (refine List.Mem.tail _ ?_; first | exact List.Mem.head _ | assumption | (refine List.Mem.tail _ ?_; first | exact List.Mem.head _ | assumption | (refine List.Mem.tail _ ?_; first | exact List.Mem.head _ | assumption | (refine List.Mem.tail _ ?_; first | exact List.Mem.head _ | assumption | (refine List.Mem.tail _ ?_; first | exact List.Mem.head _ | assumption | (refine List.Mem.tail _ ?_; first | exact List.Mem.head _ | assumption | (refine List.Mem.tail _ ?_; first | exact List.Mem.head _ | assumption | (refine List.Mem.tail _ ?_; first | exact List.Mem.head _ | assumption | (refine List.Mem.tail _ ?_; first | exact List.Mem.head _ | assumption)))))))))))))
  k_with "my k_ne" => (refine neN ?_; (try dsimp only); first | exact Df.out (by assumption) | exact (Df.out (by assumption)).symm)
  k_with "my mine:enter" => (refine' enterK ?my_k1 ?my_k2 ?my_k3 ?my_k4 ?my_k5 ?my_kA ?my_kF ?my_kK ?my_k6 ?my_k7 ?my_k8 ?my_k9 ?my_kB ?_ ?my_c2 ?my_c3 ?my_c4 ?my_c5; (case my_kA => exact rfl); (case my_kF => exact rfl); (case my_kK => first | assumption | exact rfl); (case my_k1 => k_asm); (case my_k2 => k_asm); (case my_k3 => k_asm); (case my_k4 => k_asm); (case my_k5 => k_asm); (case my_k6 => k_is); (case my_k7 => k_is); (case my_k8 => ktr_room); (case my_k9 => first | exact BindsTo.of_eq rfl | exact binds_K (by k_in) rfl (by k_is) rfl rfl rfl); (case my_c5 => decide); (case my_kB => exact locs rfl); (case my_c2 => exact rfl); (case my_c3 => exact rfl); (case my_c4 => exact rfl); k_whole; intro g'W L'W h'W FG'W F'W N'W B'W X'W T'W hKpW; (try dsimp only); (try k_lift B'W); (try k_fold))
  k_with "my call ref" => (k_here; (with_reducible show wpAny _ _ (call (Value.ref 98) _ _) _ _ _); k_dflt (refine' letter_con _ _ _ _ _ _ _ _ _ _ _ _ _ _ _ _ _ _ _ _ ?my_k1 ?my_k2 ?my_k3 ?my_k4 ?my_k5 ?my_k6 ?my_k7 ?my_k8 ?_; (case my_k1 => k_asm); (case my_k2 => k_asm); (case my_k3 => k_asm); (case my_k4 => k_asm); (case my_k5 => first | exact rfl | assumption); (case my_k8 => k_asm); (case my_k6 => ktr_room); (case my_k7 => ktr_units); k_whole; intro h'W tk'W F'W N'W; (try dsimp only); (try k_sweep); (try k_fold)))
  k_with "my call ref" => (k_here; (with_reducible show wpAny _ _ (call (Value.ref 105) _ _) _ _ _); k_dflt (refine' digit_con _ _ _ _ _ _ _ _ _ _ _ _ _ _ _ _ _ _ _ _ ?my_k1 ?my_k2 ?my_k3 ?my_k4 ?my_k5 ?my_k6 ?my_k7 ?my_k8 ?_; (case my_k1 => k_asm); (case my_k2 => k_asm); (case my_k3 => k_asm); (case my_k4 => k_asm); (case my_k5 => first | exact rfl | assumption); (case my_k8 => k_asm); (case my_k6 => ktr_room); (case my_k7 => ktr_units); k_whole; intro h'W tk'W F'W N'W; (try dsimp only); (try k_sweep); (try k_fold)))
  k_with "my call ref" => (k_here; (show wpAny _ _ (call (Value.ref 141) [_] _) _ _ _); k_dflt (refine' char0_con _ _ _ _ _ _ _ _ _ _ _ _ _ _ _ _ _ _ _ _ _ _ _ _ _ _ _ _ _ _ ?my_k1 ?my_k2 ?my_k3 ?my_k4 ?my_k5 ?my_k6 ?my_k7 ?my_k8 ?_; (case my_k1 => k_asm); (case my_k2 => k_asm); (case my_k3 => k_asm); (case my_k4 => k_asm); (case my_k5 => first | exact rfl | assumption); (case my_k8 => (refine ⟨by k_asm, by first | assumption | k_mem, by first | assumption | k_mem, by assumption, by omega⟩)); (case my_k6 => ktr_room); (case my_k7 => ktr_units); k_whole; intro t'W h'W tk'W F'W N'W hl'W; (try dsimp only); (try k_sweep); (try k_fold)))
  k_with "my call ref" => (k_here; (show wpAny _ _ (call (Value.ref 141) [_, _] _) _ _ _); k_dflt (refine' char1_con _ _ _ _ _ _ _ _ _ _ _ _ _ _ _ _ _ _ _ _ _ _ _ _ _ _ _ _ _ _ _ _ ?my_k1 ?my_k2 ?my_k3 ?my_k4 ?my_k5 ?my_k6 ?my_k7 ?my_k8 ?_; (case my_k1 => k_asm); (case my_k2 => k_asm); (case my_k3 => k_asm); (case my_k4 => k_asm); (case my_k5 => first | exact rfl | assumption); (case my_k8 => (refine ⟨by k_asm, by first | assumption | k_mem, by first | assumption | k_mem, by assumption, by omega⟩)); (case my_k6 => ktr_room); (case my_k7 => ktr_units); k_whole; intro t'W h'W tk'W F'W N'W hl'W; (try dsimp only); (try k_sweep); (try k_fold)))
  k_with "my call ref" => (k_here; (show wpAny _ _ (call (Value.ref 80) _ _) _ _ _); k_dflt (refine' call_cls ?my_k1 ?my_k2 ?my_k3 ?my_k4 ?my_k5 ?my_k6 ?_; (case my_k1 => k_asm); (case my_k2 => k_asm); (case my_k3 => k_asm); (case my_k4 => k_is); (case my_k5 => k_is); (case my_k6 => k_is); k_whole; intro x'W d'W h'W F'W N'W l1 l2; (try k_lt l1); (try k_lt2 l2); (try k_sweep); walk_at "mine:enter"))
  unfold Con
  intro dp un gd cn cs a ccd cl outer A₀ base h₀ L m s Q E B F X T hk hd hu ⟨N, hx, U, hS, h0, hR⟩ hret
  obtain ⟨pre, post, rfl, hg, ha, hb⟩ := U.split
  have Nm := two_news N hx
  have hxd := Df.mk (two_ne N hx)
  have hN := Hid.mk N
  clear N
  refine wpAny_call ?_
  k_dflt (walk_at "mine:enter")
  k_with "exec While Compare cons nil" => k_while (fun _ d pl => 0 ≤ pl ∧ ∃ r, At S pl r ∧ Rem d r r') (fun _ d pl => (S.length + 5 - pl).toNat) "depth" "place"
  k_with "state" => first | exact rem_opn ⟨by omega, by assumption⟩ (by omega) (by assumption) | exact rem_cls ⟨by omega, by assumption⟩ (by omega) (by assumption) | exact rem_oth ⟨by omega, by assumption⟩ (by omega) (by assumption) (by assumption) | exact ⟨by omega, hR⟩
  k_with "measure" => (have hml := rem_lt ⟨by assumption, by assumption⟩ (by assumption); omega)
  k_steps
  · exfalso; exact rem_bad' (by assumption) (by assumption) (by assumption)
  · refine' hret _ ?tp _ _ (by assumption) ?n (rem_end' (by assumption) (by assumption))
    case n =>
      rw [hg]
      exact lift hN hx ha hb (by assumption) (by assumption) (by assumption) (.head _) (.tail _ (.head _))
  k_with_none

end
section
variable {prog : Program} {w : World} {p : Program} {loose : List Str} {mean : ExcName → Option Value} {mg mb : Str → Option Value}

theorem skip_con (x dx : Addr) (k1 k2 k3 k4 : Tok) (S : Str) (tS : Tok) (e : Value) (pl : Int) (tp : Tok) (wt : Value) (news : List (Addr × Obj)) (g : Obj → List (Addr × Obj)) (r' : List Nat) :
  Con prog w (kTop w.params) p loose mean mg mb (.ref 155) [.ref x] 3 24
    (fun h₀ h L => News h₀ L h news ∧ (x, instObj 228 dx) ∈ news ∧ UpdF dx (dictOf (scEs w.params k1 k2 k3 k4 S tS e pl tp wt) 4) news g ∧ S.length ≤ 1000000 ∧ ∃ r, At S pl r ∧ Skp r r')
    (fun h₀ L m s Q => ∀ pl' tp' h' tk, Fr h₀ L h' m → News h₀ L h' (g (dictOf (scEs w.params k1 k2 k3 k4 S tS e pl' tp' wt) 4)) → At S pl' r' → Q .none { s with heap := h', toks := tk }) := by
  k_with_none
  w_top off
  k_with "my k_mem" => (first | exact List.Mem.head _ | assumption | (refine List.Mem.tail _ ?_; first | exact List.Mem.head _ | assumption | (refine List.Mem.tail _ ?_; first | exact List.Mem.head _ | assumption | (refine List.Mem.tail _ ?_; first | exact List.Mem.head _ | assumption | (refine List.Mem.tail _ ?_; first | exact List.Mem.head _ | assumption | (refine List.Mem.tail _ ?_; first | exact List.Mem.head _ | assumption | (refine List.Mem.tail _ ?_; first | exact List.Mem.head _ | assumption | (refine List.Mem.tail _ ?_; first | exact List.Mem.head _ | assumption | (refine List.Mem.tail _ ?_; first | exact List.Mem.head _ | assumption | (refine List.Mem.tail _ ?_; first | exact List.Mem.head _ | assumption | (refine List.Mem.tail _ ?_; first | exact List.Mem.head _ | assumption | (refine List.Mem.tail _ ?_; first | exact List.Mem.head _ | assumption | (refine List.Mem.tail _ ?_; first | exact List.Mem.head _ | assumption)))))))))))))
  k_with "my k_ne" => (refine neN ?_; (try dsimp only); first | exact Df.out (by assumption) | exact (Df.out (by assumption)).symm)
  k_with "my mine:enter" => (refine' enterK ?my_k1 ?my_k2 ?my_k3 ?my_k4 ?my_k5 ?my_kA ?my_kF ?my_kK ?my_k6 ?my_k7 ?my_k8 ?my_k9 ?my_kB ?_ ?my_c2 ?my_c3 ?my_c4 ?my_c5; (case my_kA => exact rfl); (case my_kF => exact rfl); (case my_kK => first | assumption | exact rfl); (case my_k1 => k_asm); (case my_k2 => k_asm); (case my_k3 => k_asm); (case my_k4 => k_asm); (case my_k5 => k_asm); (case my_k6 => k_is); (case my_k7 => k_is); (case my_k8 => ktr_room); (case my_k9 => first | exact BindsTo.of_eq rfl | exact binds_K (by k_in) rfl (by k_is) rfl rfl rfl); (case my_c5 => decide); (case my_kB => exact locs rfl); (case my_c2 => exact rfl); (case my_c3 => exact rfl); (case my_c4 => exact rfl); k_whole; intro g'W L'W h'W FG'W F'W N'W B'W X'W T'W hKpW; (try dsimp only); (try k_lift B'W); (try k_fold))
  k_with "my call ref" => (k_here; (with_reducible show wpAny _ _ (call (Value.ref 98) _ _) _ _ _); k_dflt (refine' letter_con _ _ _ _ _ _ _ _ _ _ _ _ _ _ _ _ _ _ _ _ ?my_k1 ?my_k2 ?my_k3 ?my_k4 ?my_k5 ?my_k6 ?my_k7 ?my_k8 ?_; (case my_k1 => k_asm); (case my_k2 => k_asm); (case my_k3 => k_asm); (case my_k4 => k_asm); (case my_k5 => first | exact rfl | assumption); (case my_k8 => k_asm); (case my_k6 => ktr_room); (case my_k7 => ktr_units); k_whole; intro h'W tk'W F'W N'W; (try dsimp only); (try k_sweep); (try k_fold)))
  k_with "my call ref" => (k_here; (with_reducible show wpAny _ _ (call (Value.ref 105) _ _) _ _ _); k_dflt (refine' digit_con _ _ _ _ _ _ _ _ _ _ _ _ _ _ _ _ _ _ _ _ ?my_k1 ?my_k2 ?my_k3 ?my_k4 ?my_k5 ?my_k6 ?my_k7 ?my_k8 ?_; (case my_k1 => k_asm); (case my_k2 => k_asm); (case my_k3 => k_asm); (case my_k4 => k_asm); (case my_k5 => first | exact rfl | assumption); (case my_k8 => k_asm); (case my_k6 => ktr_room); (case my_k7 => ktr_units); k_whole; intro h'W tk'W F'W N'W; (try dsimp only); (try k_sweep); (try k_fold)))
  k_with "my call ref" => (k_here; (show wpAny _ _ (call (Value.ref 141) [_] _) _ _ _); k_dflt (refine' char0_con _ _ _ _ _ _ _ _ _ _ _ _ _ _ _ _ _ _ _ _ _ _ _ _ _ _ _ _ _ _ ?my_k1 ?my_k2 ?my_k3 ?my_k4 ?my_k5 ?my_k6 ?my_k7 ?my_k8 ?_; (case my_k1 => k_asm); (case my_k2 => k_asm); (case my_k3 => k_asm); (case my_k4 => k_asm); (case my_k5 => first | exact rfl | assumption); (case my_k8 => (refine ⟨by k_asm, by first | assumption | k_mem, by first | assumption | k_mem, by assumption, by omega⟩)); (case my_k6 => ktr_room); (case my_k7 => ktr_units); k_whole; intro t'W h'W tk'W F'W N'W hl'W; (try dsimp only); (try k_sweep); (try k_fold)))
  k_with "my call ref" => (k_here; (show wpAny _ _ (call (Value.ref 141) [_, _] _) _ _ _); k_dflt (refine' char1_con _ _ _ _ _ _ _ _ _ _ _ _ _ _ _ _ _ _ _ _ _ _ _ _ _ _ _ _ _ _ _ _ ?my_k1 ?my_k2 ?my_k3 ?my_k4 ?my_k5 ?my_k6 ?my_k7 ?my_k8 ?_; (case my_k1 => k_asm); (case my_k2 => k_asm); (case my_k3 => k_asm); (case my_k4 => k_asm); (case my_k5 => first | exact rfl | assumption); (case my_k8 => (refine ⟨by k_asm, by first | assumption | k_mem, by first | assumption | k_mem, by assumption, by omega⟩)); (case my_k6 => ktr_room); (case my_k7 => ktr_units); k_whole; intro t'W h'W tk'W F'W N'W hl'W; (try dsimp only); (try k_sweep); (try k_fold)))
  k_with "my call ref" => (k_here; (show wpAny _ _ (call (Value.ref 80) _ _) _ _ _); k_dflt (refine' call_cls ?my_k1 ?my_k2 ?my_k3 ?my_k4 ?my_k5 ?my_k6 ?_; (case my_k1 => k_asm); (case my_k2 => k_asm); (case my_k3 => k_asm); (case my_k4 => k_is); (case my_k5 => k_is); (case my_k6 => k_is); k_whole; intro x'W d'W h'W F'W N'W l1 l2; (try k_lt l1); (try k_lt2 l2); (try k_sweep); walk_at "mine:enter"))
  k_with "my call ref" => (k_here; (show wpAny _ _ (call (Value.ref 162) [_] _) _ _ _); (obtain ⟨r1'W, hsk'W, hrem'W⟩ := skp_rem (by assumption) (by assumption) (by assumption)); k_dflt (refine' remark_con _ _ _ _ _ _ _ _ _ _ _ _ _ _ _ _ _ _ _ _ _ _ _ _ _ _ _ _ _ _ _ _ ?my_k1 ?my_k2 ?my_k3 ?my_k4 ?my_k5 ?my_k6 ?my_k7 ?my_k8 ?_; (case my_k1 => k_asm); (case my_k2 => k_asm); (case my_k3 => k_asm); (case my_k4 => k_asm); (case my_k5 => first | exact rfl | assumption); (case my_k8 => (refine ⟨by k_asm, by first | assumption | k_mem, by k_updF, by assumption, by omega, by assumption⟩)); (case my_k6 => ktr_room); (case my_k7 => ktr_units); k_whole; intro pl'W tp'W h'W tk'W F'W N'W hA'W; (try dsimp only); (try k_sweep); (try k_fold)))
  unfold Con
  intro dp un gd cn cs a ccd cl outer A₀ base h₀ L m s Q E B F X T hk hd hu ⟨N, hx, U, hS, hR⟩ hret
  obtain ⟨pre, post, rfl, hg, ha, hb⟩ := U.split
  have Nm := two_news N hx
  have hxd := Df.mk (two_ne N hx)
  have hN := Hid.mk N
  have h0 : 0 ≤ pl := let ⟨_, h, _⟩ := hR; h.1
  clear N
  refine wpAny_call ?_
  k_dflt (walk_at "mine:enter")
  k_with "exec While Constant" => k_while (fun _ pl => 0 ≤ pl ∧ ∃ r, At S pl r ∧ Skp r r') (fun _ pl => (S.length + 5 - pl).toNat) "place"
  k_with "state" => first | exact ⟨by omega, hR⟩ | exact ⟨by omega, skp_white (by assumption) (by assumption) (by assumption)⟩ | exact ⟨At.nonneg (by assumption), _, by assumption, by assumption⟩
  k_with "measure" => first | (have hml := skp_less (by assumption) (by assumption); omega) | (have hml := skp_white_lt (by assumption) (by assumption); omega)
  k_with "call builtin:ord" => refine ord_of_one (chr_one (by assumption) (by assumption)) ?_
  k_steps
  all_goals (refine' hret _ _ _ _ (by assumption) _ (skp_stop (by assumption) _ _))
  all_goals try (first | (rw [hg]; exact lift hN hx ha hb (by assumption) (by assumption) (by assumption) (.head _) (.tail _ (.head _))) | exact fun hh => Bool.noConfusion (hh.1.symm.trans (by assumption)) | exact fun hh => Bool.noConfusion (hh.2.symm.trans (by assumption)) | exact fun hh => absurd hh.2 (by assumption))
  k_with_none

end
section
variable {prog : Program} {w : World} {p : Program} {loose : List Str} {mean : ExcName → Option Value} {mg mb : Str → Option Value}
theorem dict_n {es es' : List DictEntry} {n n' : Nat} (h : dictOf es n = dictOf es' n') (hn : n ≠ n') : False := by
  have e := congrArg Obj.data h
  injection e with e1 e2
  exact hn e2
theorem made_ret {h₀ hs g' h' : Heap} {L L' x dx wa t td : Addr} {m' : Str → Option Value} {pre post : List (Addr × Obj)} {ot otd ox od od' ow : Obj}
  (N : Hid (News h₀ L hs (pre ++ (dx, od) :: post))) (hx : (x, ox) ∈ pre ++ (dx, od) :: post) (hw : (wa, ow) ∈ pre ++ (dx, od) :: post) (ha : ∀ p ∈ pre, p.1 ≠ dx) (hb : ∀ p ∈ post, p.1 ≠ dx)
  (hK : Keeps hs [x, dx, wa] g') (F' : Fr g' L' h' m') (Ng : News g' L' h' [(t, ot), (td, otd), (x, ox), (dx, od'), (wa, ow)]) (N' : News h₀ L h' [(t, ot), (td, otd), (x, ox), (dx, od'), (wa, ow)])
  (e0 : ot = otd → False) (e1 : ot = ox → False) (e2 : ot = od' → False) (e3 : ot = ow → False) (e4 : otd = ox → False) (e5 : otd = od' → False) (e6 : otd = ow → False) :
  News h₀ L h' ((t, ot) :: (td, otd) :: (pre ++ (dx, od') :: post)) ∧ NeL t (pre ++ (dx, od') :: post) ∧ NeL td (pre ++ (dx, od') :: post) ∧ @Ne Nat t td := by
  have m0 : (t, ot) ∈ [(t, ot), (td, otd), (x, ox), (dx, od'), (wa, ow)] := .head _
  have m1 : (td, otd) ∈ [(t, ot), (td, otd), (x, ox), (dx, od'), (wa, ow)] := .tail _ (.head _)
  have m2 : (x, ox) ∈ [(t, ot), (td, otd), (x, ox), (dx, od'), (wa, ow)] := .tail _ (.tail _ (.head _))
  have m3 : (dx, od') ∈ [(t, ot), (td, otd), (x, ox), (dx, od'), (wa, ow)] := .tail _ (.tail _ (.tail _ (.head _)))
  have m4 : (wa, ow) ∈ [(t, ot), (td, otd), (x, ox), (dx, od'), (wa, ow)] := .tail _ (.tail _ (.tail _ (.tail _ (.head _))))
  have hK2 : Keeps hs ([(x, ox), (dx, od), (wa, ow)].map (·.1)) g' := hK
  refine ⟨?_, ?_, ?_, obj_ne N' m0 m1 e0⟩
  · refine liftNG N' (extra := [(t, ot), (td, otd)]) ?_ (liftN N ha hb ?_ ?_ hK2 F' N' m3)
    · intro p hp
      rcases List.mem_cons.mp hp with q | q
      · rw [q]; exact m0
      · rw [List.mem_singleton.mp q]; exact m1
    · intro p hp
      rcases List.mem_cons.mp hp with q | q
      · rw [q]; exact hx
      rcases List.mem_cons.mp q with q | q
      · rw [q]; exact List.mem_append.mpr (.inr (.head _))
      · rw [List.mem_singleton.mp q]; exact hw
    · intro p hp hne
      rcases List.mem_cons.mp hp with q | q
      · rw [q]; exact m2
      rcases List.mem_cons.mp q with q | q
      · rw [q] at hne; exact absurd rfl hne
      · rw [List.mem_singleton.mp q]; exact m4
  · refine made_neN N hK2 (Ng _ m0).2.2 ?_ (obj_ne N' m0 m3 e2)
    intro p hp
    rcases List.mem_cons.mp hp with q | q
    · rw [q]; exact obj_ne N' m0 m2 e1
    rcases List.mem_cons.mp q with q | q
    · rw [q]; exact obj_ne N' m0 m3 e2
    · rw [List.mem_singleton.mp q]; exact obj_ne N' m0 m4 e3
  · refine made_neN N hK2 (Ng _ m1).2.2 ?_ (obj_ne N' m1 m3 e5)
    intro p hp
    rcases List.mem_cons.mp hp with q | q
    · rw [q]; exact obj_ne N' m1 m2 e4
    rcases List.mem_cons.mp q with q | q
    · rw [q]; exact obj_ne N' m1 m3 e5
    · rw [List.mem_singleton.mp q]; exact obj_ne N' m1 m4 e6

theorem word_con (x dx wa : Addr) (kws : Array Value) (k1 k2 k3 k4 : Tok) (S : Str) (tS : Tok) (e : Value) (pl : Int) (tp : Tok) (bg : Int) (tb : Tok) (news : List (Addr × Obj)) (g : Obj → List (Addr × Obj)) (a' r' : List Nat) :
  Con prog w (kTop w.params) p loose mean mg mb (.ref 169) [.ref x, .int bg tb] 3 24
    (fun h₀ h L => News h₀ L h news ∧ (x, instObj 228 dx) ∈ news ∧ (wa, tupOf kws) ∈ news ∧ UpdF dx (dictOf (scEs w.params k1 k2 k3 k4 S tS e pl tp (.ref wa)) 4) news g ∧ S.length ≤ 1000000 ∧ StrsAre kws.toList kwList ∧ Wd S bg a' r' bg)
    (fun h₀ L m s Q => ∀ pl' tp' t td j1 j2 j3 jk jv jp h' tk, Fr h₀ L h' m → News h₀ L h' ((t, instObj 80 td) :: (td, dictOf (tokEs w.params j1 j2 j3 (kindOf ⟨a'.toArray⟩) jk (valOf ⟨a'.toArray⟩) jv bg jp) 3) :: g (dictOf (scEs w.params k1 k2 k3 k4 S tS e pl' tp' (.ref wa)) 4)) →
      At S pl' r' → NeL t (g (dictOf (scEs w.params k1 k2 k3 k4 S tS e pl' tp' (.ref wa)) 4)) → NeL td (g (dictOf (scEs w.params k1 k2 k3 k4 S tS e pl' tp' (.ref wa)) 4)) → Df t td → Q (.ref t) { s with heap := h', toks := tk }) := by
  k_with_none
  w_top off
  k_with "my k_mem" => (first | exact List.Mem.head _ | assumption | (refine List.Mem.tail _ ?_; first | exact List.Mem.head _ | assumption | (refine List.Mem.tail _ ?_; first | exact List.Mem.head _ | assumption | (refine List.Mem.tail _ ?_; first | exact List.Mem.head _ | assumption | (refine List.Mem.tail _ ?_; first | exact List.Mem.head _ | assumption | (refine List.Mem.tail _ ?_; first | exact List.Mem.head _ | assumption | (refine List.Mem.tail _ ?_; first | exact List.Mem.head _ | assumption | (refine List.Mem.tail _ ?_; first | exact List.Mem.head _ | assumption | (refine List.Mem.tail _ ?_; first | exact List.Mem.head _ | assumption | (refine List.Mem.tail _ ?_; first | exact List.Mem.head _ | assumption | (refine List.Mem.tail _ ?_; first | exact List.Mem.head _ | assumption | (refine List.Mem.tail _ ?_; first | exact List.Mem.head _ | assumption | (refine List.Mem.tail _ ?_; first | exact List.Mem.head _ | assumption)))))))))))))
  k_with "my k_ne" => (refine neN ?_; (try dsimp only); first | exact Df.out (by assumption) | exact (Df.out (by assumption)).symm)
  k_with "my mine:enter" => (refine' enterK ?my_k1 ?my_k2 ?my_k3 ?my_k4 ?my_k5 ?my_kA ?my_kF ?my_kK ?my_k6 ?my_k7 ?my_k8 ?my_k9 ?my_kB ?_ ?my_c2 ?my_c3 ?my_c4 ?my_c5; (case my_kA => exact rfl); (case my_kF => exact rfl); (case my_kK => first | assumption | exact rfl); (case my_k1 => k_asm); (case my_k2 => k_asm); (case my_k3 => k_asm); (case my_k4 => k_asm); (case my_k5 => k_asm); (case my_k6 => k_is); (case my_k7 => k_is); (case my_k8 => ktr_room); (case my_k9 => first | exact BindsTo.of_eq rfl | exact binds_K (by k_in) rfl (by k_is) rfl rfl rfl); (case my_c5 => decide); (case my_kB => exact locs rfl); (case my_c2 => exact rfl); (case my_c3 => exact rfl); (case my_c4 => exact rfl); k_whole; intro g'W L'W h'W FG'W F'W N'W B'W X'W T'W hKpW; (try dsimp only); (try k_lift B'W); (try k_fold))
  k_with "my call ref" => (k_here; (with_reducible show wpAny _ _ (call (Value.ref 98) _ _) _ _ _); k_dflt (refine' letter_con _ _ _ _ _ _ _ _ _ _ _ _ _ _ _ _ _ _ _ _ ?my_k1 ?my_k2 ?my_k3 ?my_k4 ?my_k5 ?my_k6 ?my_k7 ?my_k8 ?_; (case my_k1 => k_asm); (case my_k2 => k_asm); (case my_k3 => k_asm); (case my_k4 => k_asm); (case my_k5 => first | exact rfl | assumption); (case my_k8 => k_asm); (case my_k6 => ktr_room); (case my_k7 => ktr_units); k_whole; intro h'W tk'W F'W N'W; (try dsimp only); (try k_sweep); (try k_fold)))
  k_with "my call ref" => (k_here; (with_reducible show wpAny _ _ (call (Value.ref 105) _ _) _ _ _); k_dflt (refine' digit_con _ _ _ _ _ _ _ _ _ _ _ _ _ _ _ _ _ _ _ _ ?my_k1 ?my_k2 ?my_k3 ?my_k4 ?my_k5 ?my_k6 ?my_k7 ?my_k8 ?_; (case my_k1 => k_asm); (case my_k2 => k_asm); (case my_k3 => k_asm); (case my_k4 => k_asm); (case my_k5 => first | exact rfl | assumption); (case my_k8 => k_asm); (case my_k6 => ktr_room); (case my_k7 => ktr_units); k_whole; intro h'W tk'W F'W N'W; (try dsimp only); (try k_sweep); (try k_fold)))
  k_with "my call ref" => (k_here; (show wpAny _ _ (call (Value.ref 141) [_] _) _ _ _); k_dflt (refine' char0_con _ _ _ _ _ _ _ _ _ _ _ _ _ _ _ _ _ _ _ _ _ _ _ _ _ _ _ _ _ _ ?my_k1 ?my_k2 ?my_k3 ?my_k4 ?my_k5 ?my_k6 ?my_k7 ?my_k8 ?_; (case my_k1 => k_asm); (case my_k2 => k_asm); (case my_k3 => k_asm); (case my_k4 => k_asm); (case my_k5 => first | exact rfl | assumption); (case my_k8 => (refine ⟨by k_asm, by first | assumption | k_mem, by first | assumption | k_mem, by assumption, by omega⟩)); (case my_k6 => ktr_room); (case my_k7 => ktr_units); k_whole; intro t'W h'W tk'W F'W N'W hl'W; (try dsimp only); (try k_sweep); (try k_fold)))
  k_with "my call ref" => (k_here; (show wpAny _ _ (call (Value.ref 141) [_, _] _) _ _ _); k_dflt (refine' char1_con _ _ _ _ _ _ _ _ _ _ _ _ _ _ _ _ _ _ _ _ _ _ _ _ _ _ _ _ _ _ _ _ ?my_k1 ?my_k2 ?my_k3 ?my_k4 ?my_k5 ?my_k6 ?my_k7 ?my_k8 ?_; (case my_k1 => k_asm); (case my_k2 => k_asm); (case my_k3 => k_asm); (case my_k4 => k_asm); (case my_k5 => first | exact rfl | assumption); (case my_k8 => (refine ⟨by k_asm, by first | assumption | k_mem, by first | assumption | k_mem, by assumption, by omega⟩)); (case my_k6 => ktr_room); (case my_k7 => ktr_units); k_whole; intro t'W h'W tk'W F'W N'W hl'W; (try dsimp only); (try k_sweep); (try k_fold)))
  k_with "my call ref" => (k_here; (show wpAny _ _ (call (Value.ref 80) _ _) _ _ _); k_dflt (refine' call_cls ?my_k1 ?my_k2 ?my_k3 ?my_k4 ?my_k5 ?my_k6 ?_; (case my_k1 => k_asm); (case my_k2 => k_asm); (case my_k3 => k_asm); (case my_k4 => k_is); (case my_k5 => k_is); (case my_k6 => k_is); k_whole; intro x'W d'W h'W F'W N'W l1 l2; (try k_lt l1); (try k_lt2 l2); (try k_sweep); walk_at "mine:enter"))
  k_with "my call ref" => (k_here; (show wpAny _ _ (call (Value.ref 155) [_] _) _ _ _); k_dflt (refine' skip_con _ _ _ _ _ _ _ _ _ _ _ _ _ _ _ _ _ _ _ _ _ _ _ _ _ _ _ _ _ _ _ _ ?my_k1 ?my_k2 ?my_k3 ?my_k4 ?my_k5 ?my_k6 ?my_k7 ?my_k8 ?_; (case my_k1 => k_asm); (case my_k2 => k_asm); (case my_k3 => k_asm); (case my_k4 => k_asm); (case my_k5 => first | exact rfl | assumption); (case my_k8 => (refine ⟨by k_asm, by first | assumption | k_mem, by k_updF, by assumption, by assumption⟩)); (case my_k6 => ktr_room); (case my_k7 => ktr_units); k_whole; intro pl'W tp'W h'W tk'W F'W N'W hA'W; (try dsimp only); (try k_sweep); (have hp0'W := At.nonneg hA'W);(try k_fold)))
  unfold Con
  intro dp un gd cn cs a ccd cl outer A₀ base h₀ L m s Q E B F X T hk hd hu ⟨N, hx, hwa, U, hS, hkw, hW⟩ hret
  obtain ⟨pre, post, rfl, hg, ha, hb⟩ := U.split
  have hmd : (dx, dictOf (scEs w.params k1 k2 k3 k4 S tS e pl tp (.ref wa)) 4) ∈ pre ++ (dx, dictOf (scEs w.params k1 k2 k3 k4 S tS e pl tp (.ref wa)) 4) :: post := List.mem_append.mpr (.inr (.head _))
  have Nm := three_news N hx hmd hwa
  have hxd := Df.mk (obj_ne N hx hmd (fun h => by cases h))
  have hwd := Df.mk (obj_ne N hwa hmd (fun h => tup_dict h))
  have hxw := Df.mk (obj_ne N hx hwa (fun h => by cases h))
  have hN := Hid.mk N
  have h0 := wd_nonneg hW
  clear N
  refine wpAny_call ?_
  k_dflt (walk_at "mine:enter")
  k_with "exec While" => k_while (fun _ en => 0 ≤ en ∧ Wd S bg a' r' en) (fun _ en => (S.length + 5 - en).toNat) "end"
  k_with "state" => first | exact ⟨by omega, by assumption⟩ | exact ⟨by omega, (wd_more (by assumption) (.inl (by assumption))).1⟩ | exact ⟨by omega, (wd_more (by assumption) (.inr (by assumption))).1⟩
  k_with "measure" => first | (have hml := (wd_more (by assumption) (.inl (by assumption))).2; omega) | (have hml := (wd_more (by assumption) (.inr (by assumption))).2; omega)
  k_steps
  all_goals (
    rename Wd S bg a' r' _ => hw
    rename isLet _ = false => c1
    rename isDig _ = false => c2
    have hsl := wd_slice hw c1 c2
    have hat := wd_next hw c1 c2
    rename kwList.any _ = _ => ck
    rw [hsl] at ck
    simp only [kindOf, valOf, ck] at hret
    rw [← hsl] at hret
    rename News h₀ L _ _ => kN
    rename Fr h₀ L _ m => kF
    rename Keeps s.heap _ _ => hKp
    obtain ⟨q1, q2, q3, q4⟩ := made_ret hN hx hwa ha hb hKp (by assumption) (by assumption) kN (fun h => by cases h) (fun h => by cases h) (fun h => by cases h) (fun h => by cases h) (fun h => by cases h) (fun h => dict_n h (by decide)) (fun h => tup_dict h.symm)
    rw [← hg] at q1 q2 q3
    exact hret _ _ _ _ _ _ _ _ _ _ _ _ kF q1 hat q2 q3 ⟨q4⟩)
  k_with_none

end
section
variable {prog : Program} {w : World} {p : Program} {loose : List Str} {mean : ExcName → Option Value} {mg mb : Str → Option Value}
theorem take_con (x dx wa : Addr) (kws : Array Value) (k1 k2 k3 k4 : Tok) (S : Str) (tS : Tok) (e : Value) (pl : Int) (tp : Tok) (news : List (Addr × Obj)) (g : Obj → List (Addr × Obj)) (r1 : List Nat) (k v : Str) (r2 : List Nat) :
  Con prog w (kTop w.params) p loose mean mg mb (.ref 148) [.ref x] 4 32
    (fun h₀ h L => News h₀ L h news ∧ (x, instObj 228 dx) ∈ news ∧ (wa, tupOf kws) ∈ news ∧ UpdF dx (dictOf (scEs w.params k1 k2 k3 k4 S tS e pl tp (.ref wa)) 4) news g ∧ S.length ≤ 1000000 ∧ StrsAre kws.toList kwList ∧ (∃ r, At S pl r ∧ Skp r r1) ∧ Tk r1 k v r2)
    (fun h₀ L m s Q => ∀ pl' tp' bg tb t td j1 j2 j3 jk jv h' tk, Fr h₀ L h' m → News h₀ L h' ((t, instObj 80 td) :: (td, dictOf (tokEs w.params j1 j2 j3 k jk v jv bg tb) 3) :: g (dictOf (scEs w.params k1 k2 k3 k4 S tS e pl' tp' (.ref wa)) 4)) →
      At S pl' r2 → pl < pl' → NeL t (g (dictOf (scEs w.params k1 k2 k3 k4 S tS e pl' tp' (.ref wa)) 4)) → NeL td (g (dictOf (scEs w.params k1 k2 k3 k4 S tS e pl' tp' (.ref wa)) 4)) → Df t td → Q (.ref t) { s with heap := h', toks := tk }) := by
  k_with_none
  w_top off
  k_with "my k_mem" => (first | exact List.Mem.head _ | assumption | (refine List.Mem.tail _ ?_; first | exact List.Mem.head _ | assumption | (refine List.Mem.tail _ ?_; first | exact List.Mem.head _ | assumption | (refine List.Mem.tail _ ?_; first | exact List.Mem.head _ | assumption | (refine List.Mem.tail _ ?_; first | exact List.Mem.head _ | assumption | (refine List.Mem.tail _ ?_; first | exact List.Mem.head _ | assumption | (refine List.Mem.tail _ ?_; first | exact List.Mem.head _ | assumption | (refine List.Mem.tail _ ?_; first | exact List.Mem.head _ | assumption | (refine List.Mem.tail _ ?_; first | exact List.Mem.head _ | assumption | (refine List.Mem.tail _ ?_; first | exact List.Mem.head _ | assumption | (refine List.Mem.tail _ ?_; first | exact List.Mem.head _ | assumption | (refine List.Mem.tail _ ?_; first | exact List.Mem.head _ | assumption | (refine List.Mem.tail _ ?_; first | exact List.Mem.head _ | assumption)))))))))))))
  k_with "my k_ne" => (refine neN ?_; (try dsimp only); first | exact Df.out (by assumption) | exact (Df.out (by assumption)).symm)
  k_with "my mine:enter" => (refine' enterK ?my_k1 ?my_k2 ?my_k3 ?my_k4 ?my_k5 ?my_kA ?my_kF ?my_kK ?my_k6 ?my_k7 ?my_k8 ?my_k9 ?my_kB ?_ ?my_c2 ?my_c3 ?my_c4 ?my_c5; (case my_kA => exact rfl); (case my_kF => exact rfl); (case my_kK => first | assumption | exact rfl); (case my_k1 => k_asm); (case my_k2 => k_asm); (case my_k3 => k_asm); (case my_k4 => k_asm); (case my_k5 => k_asm); (case my_k6 => k_is); (case my_k7 => k_is); (case my_k8 => ktr_room); (case my_k9 => first | exact BindsTo.of_eq rfl | exact binds_K (by k_in) rfl (by k_is) rfl rfl rfl); (case my_c5 => decide); (case my_kB => exact locs rfl); (case my_c2 => exact rfl); (case my_c3 => exact rfl); (case my_c4 => exact rfl); k_whole; intro g'W L'W h'W FG'W F'W N'W B'W X'W T'W hKpW; (try dsimp only); (try k_lift B'W); (try k_fold))
  k_with "my call ref" => (k_here; (with_reducible show wpAny _ _ (call (Value.ref 98) _ _) _ _ _); k_dflt (refine' letter_con _ _ _ _ _ _ _ _ _ _ _ _ _ _ _ _ _ _ _ _ ?my_k1 ?my_k2 ?my_k3 ?my_k4 ?my_k5 ?my_k6 ?my_k7 ?my_k8 ?_; (case my_k1 => k_asm); (case my_k2 => k_asm); (case my_k3 => k_asm); (case my_k4 => k_asm); (case my_k5 => first | exact rfl | assumption); (case my_k8 => k_asm); (case my_k6 => ktr_room); (case my_k7 => ktr_units); k_whole; intro h'W tk'W F'W N'W; (try dsimp only); (try k_sweep); (try k_fold)))
  k_with "my call ref" => (k_here; (with_reducible show wpAny _ _ (call (Value.ref 105) _ _) _ _ _); k_dflt (refine' digit_con _ _ _ _ _ _ _ _ _ _ _ _ _ _ _ _ _ _ _ _ ?my_k1 ?my_k2 ?my_k3 ?my_k4 ?my_k5 ?my_k6 ?my_k7 ?my_k8 ?_; (case my_k1 => k_asm); (case my_k2 => k_asm); (case my_k3 => k_asm); (case my_k4 => k_asm); (case my_k5 => first | exact rfl | assumption); (case my_k8 => k_asm); (case my_k6 => ktr_room); (case my_k7 => ktr_units); k_whole; intro h'W tk'W F'W N'W; (try dsimp only); (try k_sweep); (try k_fold)))
  k_with "my call ref" => (k_here; (show wpAny _ _ (call (Value.ref 141) [_] _) _ _ _); k_dflt (refine' char0_con _ _ _ _ _ _ _ _ _ _ _ _ _ _ _ _ _ _ _ _ _ _ _ _ _ _ _ _ _ _ ?my_k1 ?my_k2 ?my_k3 ?my_k4 ?my_k5 ?my_k6 ?my_k7 ?my_k8 ?_; (case my_k1 => k_asm); (case my_k2 => k_asm); (case my_k3 => k_asm); (case my_k4 => k_asm); (case my_k5 => first | exact rfl | assumption); (case my_k8 => (refine ⟨by k_asm, by first | assumption | k_mem, by first | assumption | k_mem, by assumption, by omega⟩)); (case my_k6 => ktr_room); (case my_k7 => ktr_units); k_whole; intro t'W h'W tk'W F'W N'W hl'W; (try dsimp only); (try k_sweep); (try k_fold)))
  k_with "my call ref" => (k_here; (show wpAny _ _ (call (Value.ref 141) [_, _] _) _ _ _); k_dflt (refine' char1_con _ _ _ _ _ _ _ _ _ _ _ _ _ _ _ _ _ _ _ _ _ _ _ _ _ _ _ _ _ _ _ _ ?my_k1 ?my_k2 ?my_k3 ?my_k4 ?my_k5 ?my_k6 ?my_k7 ?my_k8 ?_; (case my_k1 => k_asm); (case my_k2 => k_asm); (case my_k3 => k_asm); (case my_k4 => k_asm); (case my_k5 => first | exact rfl | assumption); (case my_k8 => (refine ⟨by k_asm, by first | assumption | k_mem, by first | assumption | k_mem, by assumption, by omega⟩)); (case my_k6 => ktr_room); (case my_k7 => ktr_units); k_whole; intro t'W h'W tk'W F'W N'W hl'W; (try dsimp only); (try k_sweep); (try k_fold)))
  k_with "my call ref" => (k_here; (show wpAny _ _ (call (Value.ref 80) _ _) _ _ _); k_dflt (refine' call_cls ?my_k1 ?my_k2 ?my_k3 ?my_k4 ?my_k5 ?my_k6 ?_; (case my_k1 => k_asm); (case my_k2 => k_asm); (case my_k3 => k_asm); (case my_k4 => k_is); (case my_k5 => k_is); (case my_k6 => k_is); k_whole; intro x'W d'W h'W F'W N'W l1 l2; (try k_lt l1); (try k_lt2 l2); (try k_sweep); walk_at "mine:enter"))
  k_with "my call ref" => (k_here; (show wpAny _ _ (call (Value.ref 225) [_] _) _ _ _); k_dflt (refine' symbol_con _ _ _ _ _ _ _ _ _ _ _ _ _ _ _ _ _ _ _ _ _ _ _ _ _ _ _ _ _ _ ?my_k1 ?my_k2 ?my_k3 ?my_k4 ?my_k5 ?my_k6 ?my_k7 ?my_k8 ?_; (case my_k1 => k_asm); (case my_k2 => k_asm); (case my_k3 => k_asm); (case my_k4 => k_asm); (case my_k5 => first | exact rfl | assumption); (case my_k8 => (refine ⟨by k_asm, by first | assumption | k_mem, by first | assumption | k_mem, by assumption, by omega⟩)); (case my_k6 => ktr_room); (case my_k7 => ktr_units); k_whole; intro t'W h'W tk'W F'W N'W hl'W; (try dsimp only); (try k_sweep); (try k_fold)))
  k_with "my call ref" => (k_here; (show wpAny _ _ (call (Value.ref 155) [_] _) _ _ _); k_dflt (refine' skip_con _ _ _ _ _ _ _ _ _ _ _ _ _ _ _ _ _ _ _ _ _ _ _ _ _ _ _ _ _ _ _ _ ?my_k1 ?my_k2 ?my_k3 ?my_k4 ?my_k5 ?my_k6 ?my_k7 ?my_k8 ?_; (case my_k1 => k_asm); (case my_k2 => k_asm); (case my_k3 => k_asm); (case my_k4 => k_asm); (case my_k5 => first | exact rfl | assumption); (case my_k8 => (refine ⟨by k_asm, by first | assumption | k_mem, by k_updF, by assumption, by assumption⟩)); (case my_k6 => ktr_room); (case my_k7 => ktr_units); k_whole; intro pl'W tp'W h'W tk'W F'W N'W hA'W; (try dsimp only); (try k_sweep); (have hp0'W := At.nonneg hA'W);(try k_fold)))
  k_with "my call ref" => (k_here; (show wpAny _ _ (call (Value.ref 169) [_, _] _) _ _ _); (obtain ⟨a'W, hW'W, ek'W, ev'W⟩ := tk_letter (by assumption) (by assumption) (by assumption)); k_dflt (refine' word_con _ _ _ _ _ _ _ _ _ _ _ _ _ _ _ _ _ _ _ _ _ _ _ _ _ _ _ _ _ _ _ _ _ _ _ _ ?my_k1 ?my_k2 ?my_k3 ?my_k4 ?my_k5 ?my_k6 ?my_k7 ?my_k8 ?_; (case my_k1 => k_asm); (case my_k2 => k_asm); (case my_k3 => k_asm); (case my_k4 => k_asm); (case my_k5 => first | exact rfl | assumption); (case my_k8 => (refine ⟨by k_asm, by first | assumption | k_mem, by first | assumption | k_mem, by k_updF, by assumption, by assumption, by assumption⟩)); (case my_k6 => ktr_room); (case my_k7 => ktr_units); k_whole; intro pl'W tp'W t'W td'W j1'W j2'W j3'W jk'W jv'W jp'W h'W tk'W F'W N'W hA'W n1'W n2'W n3'W; (try dsimp only); (try k_sweep); (simp only [NeL] at n1'W n2'W); (repeat (obtain ⟨nq'W, n1'W⟩ := n1'W)); (repeat (obtain ⟨nq'W, n2'W⟩ := n2'W));(try k_fold)))
  k_with "my call ref" => (k_here; (show wpAny _ _ (call (Value.ref 176) [_, _] _) _ _ _); exfalso; exact tk_nodig (by assumption) (by assumption) (by assumption) (by assumption))
  k_with "my call ref" => (k_here; (show wpAny _ _ (call (Value.ref 218) [_, _] _) _ _ _); exfalso; exact tk_noquote (by assumption) (by assumption) (by assumption) (by assumption))
  k_with "my exec Expr" => (k_here; exfalso; exact tk_nosym (by assumption) (by assumption) (by assumption) (by assumption))
  unfold Con
  intro dp un gd cn cs a ccd cl outer A₀ base h₀ L m s Q E B F X T hk hd hu ⟨N, hx, hwa, U, hS, hkw, hR, hT⟩ hret
  obtain ⟨pre, post, rfl, hg, ha, hb⟩ := U.split
  have hmd : (dx, dictOf (scEs w.params k1 k2 k3 k4 S tS e pl tp (.ref wa)) 4) ∈ pre ++ (dx, dictOf (scEs w.params k1 k2 k3 k4 S tS e pl tp (.ref wa)) 4) :: post := List.mem_append.mpr (.inr (.head _))
  have Nm := three_news N hx hmd hwa
  have hxd := Df.mk (obj_ne N hx hmd (fun h => by cases h))
  have hwd := Df.mk (obj_ne N hwa hmd (fun h => tup_dict h))
  have hxw := Df.mk (obj_ne N hx hwa (fun h => by cases h))
  have hN := Hid.mk N
  have h0 : 0 ≤ pl := let ⟨_, h, _⟩ := hR; h.1
  clear N
  refine wpAny_call ?_
  k_dflt (walk_at "mine:enter")
  k_steps
  all_goals try (exfalso; exact tk_noteof (by assumption) (by assumption) (by assumption))
  all_goals (
    rename News h₀ L _ _ => kN
    rename Fr h₀ L _ m => kF
    rename Keeps s.heap _ _ => hKp
    obtain ⟨q1, q2, q3, q4⟩ := made_ret hN hx hwa ha hb hKp (by assumption) (by assumption) kN (fun h => by cases h) (fun h => by cases h) (fun h => by cases h) (fun h => by cases h) (fun h => by cases h) (fun h => dict_n h (by decide)) (fun h => tup_dict h.symm)
    rw [← hg] at q1 q2 q3)
  · rename k = _ => ek
    rename v = _ => ev
    rename At S _ r2 => hAt
    rw [← ek, ← ev] at q1
    exact hret _ _ _ _ _ _ _ _ _ _ _ _ _ kF q1 hAt (at_lt hR hT hAt) q2 q3 ⟨q4⟩
  · obtain ⟨ek, ev, hAt⟩ := tk_sym hT (by assumption) (by assumption)
    rw [← ek, ← ev] at q1
    rw [← ek] at hAt
    rw [← ek] at q2 q3
    exact hret _ _ _ _ _ _ _ _ _ _ _ _ _ kF q1 hAt (at_lt hR hT hAt) q2 q3 ⟨q4⟩
  k_with_none

end
section
variable {prog : Program} {w : World} {p : Program} {loose : List Str} {mean : ExcName → Option Value} {mg mb : Str → Option Value}
def AllIn : List (Addr × Obj) → List (Addr × Obj) → Prop
  | [], _ => True
  | p :: r, l => p ∈ l ∧ AllIn r l
theorem allIn_mem : ∀ {a l : List (Addr × Obj)}, AllIn a l → ∀ p ∈ a, p ∈ l
  | [], _, _, _, hp => nomatch hp
  | _ :: _, _, h, _, .head _ => h.1
  | _ :: _, _, h, _, .tail _ hq => allIn_mem h.2 _ hq
theorem allIn_news {h₀ h : Heap} {L : Addr} : ∀ {a l : List (Addr × Obj)}, News h₀ L h l → AllIn a l → News h₀ L h a :=
  fun N H p hp => N p (allIn_mem H p hp)
theorem liftM {h₀ hs g' h' : Heap} {L L' x dx : Addr} {m' : Str → Option Value} {pre post ps extra new : List (Addr × Obj)} {ox od od' : Obj}
    (N : Hid (News h₀ L hs (pre ++ (dx, od) :: post))) (ha : ∀ p ∈ pre, p.1 ≠ dx) (hb : ∀ p ∈ post, p.1 ≠ dx) (hx : (x, ox) ∈ pre ++ (dx, od) :: post) (h1 : AllIn ps (pre ++ (dx, od) :: post))
    (hK : Keeps hs (((x, ox) :: (dx, od) :: ps).map (·.1)) g') (F' : Fr g' L' h' m') (N' : News h₀ L h' new) (hx2 : (x, ox) ∈ new) (h2 : (dx, od') ∈ new) (h3 : AllIn ps new) (h4 : AllIn extra new) : News h₀ L h' (extra ++ (pre ++ (dx, od') :: post)) := by
  refine liftNG N' (allIn_mem h4) (liftN N ha hb (ns := (x, ox) :: (dx, od) :: ps) ?_ ?_ hK F' N' h2)
  · intro p hp
    rcases List.mem_cons.mp hp with q | q
    · rw [q]; exact hx
    rcases List.mem_cons.mp q with q | q
    · rw [q]; exact List.mem_append.mpr (.inr (.head _))
    · exact allIn_mem h1 p q
  · intro p hp hne
    rcases List.mem_cons.mp hp with q | q
    · rw [q]; exact hx2
    rcases List.mem_cons.mp q with q | q
    · rw [q] at hne; exact absurd rfl hne
    · exact allIn_mem h3 p q
abbrev pairOf (a b : Value) : Obj := { cls := .type "tuple", data := .seq #[a, b] 0 }
theorem imported_con (x dx wa : Addr) (kws : Array Value) (k1 k2 k3 k4 : Tok) (S : Str) (tS : Tok) (e : Value) (pl : Int) (tp : Tok) (news : List (Addr × Obj)) (g : Obj → List (Addr × Obj)) (t td : Addr) (i1 i2 i3 ik iv ib : Tok) (bg : Int) (k v : Str) (ts : TS) (n k' v' : Str) (ts' : TS) :
  Con prog w (kTop w.params) p loose mean mg mb (.ref 260) [.ref x, .ref t] 5 40
    (fun h₀ h L => News h₀ L h news ∧ (x, instObj 228 dx) ∈ news ∧ (wa, tupOf kws) ∈ news ∧ (t, instObj 80 td) ∈ news ∧ (td, dictOf (tokEs w.params i1 i2 i3 k ik v iv bg ib) 3) ∈ news ∧ UpdF dx (dictOf (scEs w.params k1 k2 k3 k4 S tS e pl tp (.ref wa)) 4) news g ∧ S.length ≤ 1000000 ∧ StrsAre kws.toList kwList ∧ St S pl ts ∧ I1 (k, v) ts (n, (k', v'), ts'))
    (fun h₀ L m s Q => ∀ pl' tp' q tn bg' tb' t' td' j1 j2 j3 jk jv h' tk, Fr h₀ L h' m → News h₀ L h' ((q, pairOf (.str n tn) (.ref t')) :: (t', instObj 80 td') :: (td', dictOf (tokEs w.params j1 j2 j3 k' jk v' jv bg' tb') 3) :: g (dictOf (scEs w.params k1 k2 k3 k4 S tS e pl' tp' (.ref wa)) 4)) →
      St S pl' ts' → pl ≤ pl' → Q (.ref q) { s with heap := h', toks := tk }) := by
  k_with_none
  w_top off
  k_with "my k_mem" => (first | exact List.Mem.head _ | assumption | (refine List.Mem.tail _ ?_; first | exact List.Mem.head _ | assumption | (refine List.Mem.tail _ ?_; first | exact List.Mem.head _ | assumption | (refine List.Mem.tail _ ?_; first | exact List.Mem.head _ | assumption | (refine List.Mem.tail _ ?_; first | exact List.Mem.head _ | assumption | (refine List.Mem.tail _ ?_; first | exact List.Mem.head _ | assumption | (refine List.Mem.tail _ ?_; first | exact List.Mem.head _ | assumption | (refine List.Mem.tail _ ?_; first | exact List.Mem.head _ | assumption | (refine List.Mem.tail _ ?_; first | exact List.Mem.head _ | assumption | (refine List.Mem.tail _ ?_; first | exact List.Mem.head _ | assumption | (refine List.Mem.tail _ ?_; first | exact List.Mem.head _ | assumption | (refine List.Mem.tail _ ?_; first | exact List.Mem.head _ | assumption | (refine List.Mem.tail _ ?_; first | exact List.Mem.head _ | assumption)))))))))))))
  k_with "my k_ne" => (refine neN ?_; (try dsimp only); first | exact Df.out (by assumption) | exact (Df.out (by assumption)).symm)
  k_with "my mine:enter" => (refine' enterK ?my_k1 ?my_k2 ?my_k3 ?my_k4 ?my_k5 ?my_kA ?my_kF ?my_kK ?my_k6 ?my_k7 ?my_k8 ?my_k9 ?my_kB ?_ ?my_c2 ?my_c3 ?my_c4 ?my_c5; (case my_kA => exact rfl); (case my_kF => exact rfl); (case my_kK => first | assumption | exact rfl); (case my_k1 => k_asm); (case my_k2 => k_asm); (case my_k3 => k_asm); (case my_k4 => k_asm); (case my_k5 => k_asm); (case my_k6 => k_is); (case my_k7 => k_is); (case my_k8 => ktr_room); (case my_k9 => first | exact BindsTo.of_eq rfl | exact binds_K (by k_in) rfl (by k_is) rfl rfl rfl); (case my_c5 => decide); (case my_kB => exact locs rfl); (case my_c2 => exact rfl); (case my_c3 => exact rfl); (case my_c4 => exact rfl); k_whole; intro g'W L'W h'W FG'W F'W N'W B'W X'W T'W hKpW; (try dsimp only); (try k_lift B'W); (try k_fold))
  k_with "my call ref" => (k_here; (show wpAny _ _ (call (Value.ref 148) [_] _) _ _ _); (first | (have hnx0'W := nx3 (by assumption) (by assumption) (by assumption)) | (have hnx0'W := nx2 (by assumption) (by assumption) (by assumption)) | (have hnx0'W := nx1 (by assumption) (by assumption) (by assumption))); (obtain ⟨k'W, v'W, ts'W, r1'W, r2'W, hR'W, hT'W, hSt'W, hnx'W⟩ := hnx0'W); (try dsimp only at hnx'W); k_dflt (refine' take_con _ _ _ _ _ _ _ _ _ _ _ _ _ _ _ _ _ _ _ _ _ _ _ _ _ _ _ _ _ _ _ _ _ _ _ _ ?my_k1 ?my_k2 ?my_k3 ?my_k4 ?my_k5 ?my_k6 ?my_k7 ?my_k8 ?_; (case my_k1 => k_asm); (case my_k2 => k_asm); (case my_k3 => k_asm); (case my_k4 => k_asm); (case my_k5 => first | exact rfl | assumption); (case my_k8 => (refine ⟨by k_asm, by first | assumption | k_mem, by first | assumption | k_mem, by k_updF, by assumption, by assumption, by assumption, by assumption⟩)); (case my_k6 => ktr_room); (case my_k7 => ktr_units); k_whole; intro pl'W tp'W bg'W tb'W t'W td'W j1'W j2'W j3'W jk'W jv'W h'W tk'W F'W N'W hA'W hlt'W n1'W n2'W n3'W; (try dsimp only); (try k_sweep); (simp only [NeL] at n1'W n2'W); (repeat (obtain ⟨nq'W, n1'W⟩ := n1'W)); (repeat (obtain ⟨nq'W, n2'W⟩ := n2'W)); (have hSt'W : St _ _ _ := ⟨_, hA'W, hSt'W⟩);(try k_fold)))
  unfold Con
  intro dp un gd cn cs a ccd cl outer A₀ base h₀ L m s Q E B F X T hk hd hu ⟨N, hx, hwa, ht, htd, U, hS, hkw, hSt, hI⟩ hret
  obtain ⟨pre, post, rfl, hg, ha, hb⟩ := U.split
  have hmd : (dx, dictOf (scEs w.params k1 k2 k3 k4 S tS e pl tp (.ref wa)) 4) ∈ pre ++ (dx, dictOf (scEs w.params k1 k2 k3 k4 S tS e pl tp (.ref wa)) 4) :: post := List.mem_append.mpr (.inr (.head _))
  have Nm : News h₀ L s.heap [(x, instObj 228 dx), (dx, dictOf (scEs w.params k1 k2 k3 k4 S tS e pl tp (.ref wa)) 4), (wa, tupOf kws), (t, instObj 80 td), (td, dictOf (tokEs w.params i1 i2 i3 k ik v iv bg ib) 3)] := allIn_news N ⟨hx, hmd, hwa, ht, htd, trivial⟩
  have hxd := Df.mk (obj_ne N hx hmd (fun h => by cases h))
  have hwd := Df.mk (obj_ne N hwa hmd (fun h => tup_dict h))
  have hxw := Df.mk (obj_ne N hx hwa (fun h => by cases h))
  have htd1 := Df.mk (obj_ne N ht hmd (fun h => by cases h))
  have htd2 := Df.mk (obj_ne N htd hmd (fun h => dict_n h (by decide)))
  have hN := Hid.mk N
  clear N
  refine wpAny_call ?_
  k_dflt (walk_at "mine:enter")
  k_steps
  all_goals (
    rename News h₀ L _ _ => kN
    rename Fr h₀ L _ m => kF
    rename Keeps s.heap _ _ => hKp
    have hend := (by first | exact end4 (by assumption) | exact end3 (by assumption) (by assumption) | exact end2 (by assumption) (by assumption) | exact end1 (by assumption) (by assumption) : (n, (k', v'), ts') = _)
    injection hend with e1 e2
    injection e2 with e2 e3
    injection e2 with e2 e4
    subst e1 e2 e3 e4
    refine' hret _ _ _ _ _ _ _ _ _ _ _ _ _ _ _ kF _ _ _
    rotate_left 12
    · rw [hg]
      refine liftM (extra := [_, _, _]) (ps := [(wa, _), (t, _), (td, _)]) hN ha hb hx ⟨hwa, ht, htd, trivial⟩ hKp (by assumption) kN ?_ ?_ ?_ ?_
      · k_mem
      · k_mem
      · exact ⟨by k_mem, by k_mem, by k_mem, trivial⟩
      · exact ⟨by k_mem, by k_mem, by k_mem, trivial⟩
    · assumption
    · omega)
  k_with_none

theorem pair_list {a b : Value} {us : Array Value} {n : Nat} (h : pairOf a b = W.listOf us n) : False := by
  have := congrArg Obj.cls h
  revert this
  simp [pairOf, W.listOf]
theorem inst_list {a b : Addr} {us : Array Value} {n : Nat} (h : instObj a b = W.listOf us n) : False := by
  have := congrArg Obj.data h
  cases this
theorem dict_list {es : List DictEntry} {us : Array Value} {n m : Nat} (h : dictOf es m = W.listOf us n) : False := by
  have := congrArg Obj.data h
  cases this
theorem names_ne {h₀ h : Heap} {L q t td l c : Addr} {a b : Value} {es : List DictEntry} {us : Array Value} {m n : Nat} {rest : List (Addr × Obj)} (N : News h₀ L h ((q, pairOf a b) :: (t, instObj c td) :: (td, dictOf es m) :: rest)) (hm : (l, W.listOf us n) ∈ rest) : Df q l ∧ Df t l ∧ Df td l :=
  ⟨.mk (obj_ne N (.head _) (.tail _ (.tail _ (.tail _ hm))) (fun h => pair_list h)), .mk (obj_ne N (.tail _ (.head _)) (.tail _ (.tail _ (.tail _ hm))) (fun h => inst_list h)), .mk (obj_ne N (.tail _ (.tail _ (.head _))) (.tail _ (.tail _ (.tail _ hm))) (fun h => dict_list h))⟩

end
section
variable {prog : Program} {w : World} {p : Program} {loose : List Str} {mean : ExcName → Option Value} {mg mb : Str → Option Value}
theorem names_con (x dx wa : Addr) (kws : Array Value) (k1 k2 k3 k4 : Tok) (S : Str) (tS : Tok) (e : Value) (pl : Int) (tp : Tok) (news : List (Addr × Obj)) (g : Obj → List (Addr × Obj)) (ts : TS) (res : List Str) :
  Con prog w (kTop w.params) p loose mean mg mb (.ref 267) [.ref x] 6 48
    (fun h₀ h L => News h₀ L h news ∧ (x, instObj 228 dx) ∈ news ∧ (wa, tupOf kws) ∈ news ∧ UpdF dx (dictOf (scEs w.params k1 k2 k3 k4 S tS e pl tp (.ref wa)) 4) news g ∧ S.length ≤ 1000000 ∧ StrsAre kws.toList kwList ∧ St S pl ts ∧ Imps ts [] res)
    (fun h₀ L m s Q => ∀ pl' tp' q us c h' tk, StrsAre us res → Fr h₀ L h' m → News h₀ L h' ((q, listOf us.toArray c) :: g (dictOf (scEs w.params k1 k2 k3 k4 S tS e pl' tp' (.ref wa)) 4)) →
      Q (.ref q) { s with heap := h', toks := tk }) := by
  k_with_none
  w_top off
  k_with "my k_mem" => (first | exact List.Mem.head _ | assumption | (refine List.Mem.tail _ ?_; first | exact List.Mem.head _ | assumption | (refine List.Mem.tail _ ?_; first | exact List.Mem.head _ | assumption | (refine List.Mem.tail _ ?_; first | exact List.Mem.head _ | assumption | (refine List.Mem.tail _ ?_; first | exact List.Mem.head _ | assumption | (refine List.Mem.tail _ ?_; first | exact List.Mem.head _ | assumption | (refine List.Mem.tail _ ?_; first | exact List.Mem.head _ | assumption | (refine List.Mem.tail _ ?_; first | exact List.Mem.head _ | assumption | (refine List.Mem.tail _ ?_; first | exact List.Mem.head _ | assumption | (refine List.Mem.tail _ ?_; first | exact List.Mem.head _ | assumption | (refine List.Mem.tail _ ?_; first | exact List.Mem.head _ | assumption | (refine List.Mem.tail _ ?_; first | exact List.Mem.head _ | assumption | (refine List.Mem.tail _ ?_; first | exact List.Mem.head _ | assumption)))))))))))))
  k_with "my k_ne" => (refine neN ?_; (try dsimp only); first | exact Df.out (by assumption) | exact (Df.out (by assumption)).symm)
  k_with "my mine:enter" => (refine' enterK ?my_k1 ?my_k2 ?my_k3 ?my_k4 ?my_k5 ?my_kA ?my_kF ?my_kK ?my_k6 ?my_k7 ?my_k8 ?my_k9 ?my_kB ?_ ?my_c2 ?my_c3 ?my_c4 ?my_c5; (case my_kA => exact rfl); (case my_kF => exact rfl); (case my_kK => first | assumption | exact rfl); (case my_k1 => k_asm); (case my_k2 => k_asm); (case my_k3 => k_asm); (case my_k4 => k_asm); (case my_k5 => k_asm); (case my_k6 => k_is); (case my_k7 => k_is); (case my_k8 => ktr_room); (case my_k9 => first | exact BindsTo.of_eq rfl | exact binds_K (by k_in) rfl (by k_is) rfl rfl rfl); (case my_c5 => decide); (case my_kB => exact locs rfl); (case my_c2 => exact rfl); (case my_c3 => exact rfl); (case my_c4 => exact rfl); k_whole; intro g'W L'W h'W FG'W F'W N'W B'W X'W T'W hKpW; (try dsimp only); (try k_lift B'W); (try k_fold))
  k_with "my call ref" => (k_here; (show wpAny _ _ (call (Value.ref 260) [_, _] _) _ _ _); (obtain ⟨n'W, k'W, v'W, ts'W, hI'W, hJ'W⟩ := j1_out (by assumption)); k_dflt (refine' imported_con _ _ _ _ _ _ _ _ _ _ _ _ _ _ _ _ _ _ _ _ _ _ _ _ _ _ _ _ _ _ _ _ _ _ _ _ _ _ _ _ _ _ _ _ _ _ _ _ ?my_k1 ?my_k2 ?my_k3 ?my_k4 ?my_k5 ?my_k6 ?my_k7 ?my_k8 ?_; (case my_k1 => k_asm); (case my_k2 => k_asm); (case my_k3 => k_asm); (case my_k4 => k_asm); (case my_k5 => first | exact rfl | assumption); (case my_k8 => (refine ⟨by k_asm, by first | assumption | k_mem, by first | assumption | k_mem, by first | assumption | k_mem, by first | assumption | k_mem, by k_updF, by assumption, by assumption, by assumption, by assumption⟩)); (case my_k6 => ktr_room); (case my_k7 => ktr_units); k_whole; intro pl'W tp'W q'W tn'W bg'W tb'W t'W td'W j1'W j2'W j3'W jk'W jv'W h'W tk'W F'W N'W hSt'W hle'W; (try dsimp only); (try k_sweep); (try (have nq0'W := names_ne N'W (by k_mem); obtain ⟨nq1'W, nq2'W, nq3'W⟩ := nq0'W));(try k_fold)))
  k_with "my call ref" => (k_here; (show wpAny _ _ (call (Value.ref 148) [_] _) _ _ _); (first | (have hnx0'W := nx4 (by assumption) (by assumption))); (obtain ⟨k'W, v'W, ts'W, r1'W, r2'W, hR'W, hT'W, hSt'W, hnx'W⟩ := hnx0'W); (try dsimp only at hnx'W); k_dflt (refine' take_con _ _ _ _ _ _ _ _ _ _ _ _ _ _ _ _ _ _ _ _ _ _ _ _ _ _ _ _ _ _ _ _ _ _ _ _ ?my_k1 ?my_k2 ?my_k3 ?my_k4 ?my_k5 ?my_k6 ?my_k7 ?my_k8 ?_; (case my_k1 => k_asm); (case my_k2 => k_asm); (case my_k3 => k_asm); (case my_k4 => k_asm); (case my_k5 => first | exact rfl | assumption); (case my_k8 => (refine ⟨by k_asm, by first | assumption | k_mem, by first | assumption | k_mem, by k_updF, by assumption, by assumption, by assumption, by assumption⟩)); (case my_k6 => ktr_room); (case my_k7 => ktr_units); k_whole; intro pl'W tp'W bg'W tb'W t'W td'W j1'W j2'W j3'W jk'W jv'W h'W tk'W F'W N'W hA'W hlt'W n1'W n2'W n3'W; (try dsimp only); (try k_sweep); (simp only [NeL] at n1'W n2'W); (repeat (obtain ⟨nq'W, n1'W⟩ := n1'W)); (repeat (obtain ⟨nq'W, n2'W⟩ := n2'W)); (have hSt'W : St _ _ _ := ⟨_, hA'W, hSt'W⟩);(try k_fold)))
  k_with "my kst_facts" => ((try dsimp only); first | exact PyProof.Rows.StrsAre.nil | exact PyProof.Rows.StrsAre.append' (by assumption) (.cons _ _ .nil) | assumption)
  k_with "my exec While" => k_extra "mine while"
  unfold Con
  intro dp un gd cn cs a ccd cl outer A₀ base h₀ L m s Q E B F X T hk hd hu ⟨N, hx, hwa, U, hS, hkw, hSt, hI⟩ hret
  obtain ⟨pre, post, rfl, hg, ha, hb⟩ := U.split
  have hmd : (dx, dictOf (scEs w.params k1 k2 k3 k4 S tS e pl tp (.ref wa)) 4) ∈ pre ++ (dx, dictOf (scEs w.params k1 k2 k3 k4 S tS e pl tp (.ref wa)) 4) :: post := List.mem_append.mpr (.inr (.head _))
  have Nm : News h₀ L s.heap [(x, instObj 228 dx), (dx, dictOf (scEs w.params k1 k2 k3 k4 S tS e pl tp (.ref wa)) 4), (wa, tupOf kws)] := allIn_news N ⟨hx, hmd, hwa, trivial⟩
  have hxd := Df.mk (obj_ne N hx hmd (fun h => by cases h))
  have hwd := Df.mk (obj_ne N hwa hmd (fun h => tup_dict h))
  have hxw := Df.mk (obj_ne N hx hwa (fun h => by cases h))
  have h0 : 0 ≤ pl := let ⟨_, h, _⟩ := hSt; h.1
  have hN := Hid.mk N
  have hIS : ImpSt S res true [] pl := ⟨fun _ => ⟨by simpa using h0, ts, hSt, hI⟩, fun h => Bool.noConfusion h⟩
  clear N hSt hI
  obtain ⟨lim, hlim⟩ : ∃ lim : Nat, lim = 1000001 := ⟨_, rfl⟩
  refine wpAny_call ?_
  k_dflt (walk_at "mine:enter")
  k_with "mine while" => k_while (fun _ more names place => names.length ≤ lim ∧ ImpSt S res more names place) (fun _ more _ place => (S.length + 5 - place).toNat) "more" "names$" "place"
  k_with "state" => first | exact ⟨Nat.zero_le _, hIS⟩ | (refine impst_turn1 hlim hS (by assumption) (by assumption) (by assumption) (by assumption) (by omega) ?_ ?_; (first | exact addN_eq1 (by assumption) | exact addN_eq2 (by assumption) (by assumption) | exact addN_eq3 (by assumption)); (first | exact more_1 (by assumption) | exact more_2 (by assumption)))
  k_with "measure" => have hml := impst_len (by assumption) (by assumption); omega
  k_steps
  all_goals (
    rename News h₀ L _ _ => kN
    rename Fr h₀ L _ m => kF
    rename Keeps s.heap _ _ => hKp
    have hend := impst_end (by assumption) (by assumption)
    subst hend
    refine' hret _ _ _ _ _ _ _ _ kF _
    rotate_left 4
    · assumption
    · rw [hg]
      refine liftM (extra := [_]) (ps := [(wa, _)]) hN ha hb hx ⟨hwa, trivial⟩ hKp (by assumption) kN ?_ ?_ ?_ ?_
      · k_mem
      · k_mem
      · exact ⟨by k_mem, trivial⟩
      · exact ⟨by k_mem, trivial⟩)
  k_with_none

end
section
variable {prog : Program} {w : World} {p : Program} {loose : List Str} {mean : ExcName → Option Value} {mg mb : Str → Option Value}
theorem keys_con (news : List (Addr × Obj)) :
  Con prog w (kTop w.params) p loose mean mg mb (.ref 91) [] 1 8
    (fun h₀ h L => News h₀ L h news)
    (fun h₀ L m s Q => ∀ q kws h' tk, StrsAre kws.toList kwList → Fr h₀ L h' m → News h₀ L h' ((q, tupOf kws) :: news) → NeL q news →
      Q (.ref q) { s with heap := h', toks := tk }) := by
  k_with_none
  w_top off
  k_with "my k_mem" => (first | exact List.Mem.head _ | assumption | (refine List.Mem.tail _ ?_; first | exact List.Mem.head _ | assumption | (refine List.Mem.tail _ ?_; first | exact List.Mem.head _ | assumption | (refine List.Mem.tail _ ?_; first | exact List.Mem.head _ | assumption | (refine List.Mem.tail _ ?_; first | exact List.Mem.head _ | assumption | (refine List.Mem.tail _ ?_; first | exact List.Mem.head _ | assumption | (refine List.Mem.tail _ ?_; first | exact List.Mem.head _ | assumption | (refine List.Mem.tail _ ?_; first | exact List.Mem.head _ | assumption | (refine List.Mem.tail _ ?_; first | exact List.Mem.head _ | assumption | (refine List.Mem.tail _ ?_; first | exact List.Mem.head _ | assumption | (refine List.Mem.tail _ ?_; first | exact List.Mem.head _ | assumption | (refine List.Mem.tail _ ?_; first | exact List.Mem.head _ | assumption | (refine List.Mem.tail _ ?_; first | exact List.Mem.head _ | assumption)))))))))))))
  k_with "my k_ne" => (refine neN ?_; (try dsimp only); first | exact Df.out (by assumption) | exact (Df.out (by assumption)).symm)
  k_with "my mine:enter" => (refine' enterK ?my_k1 ?my_k2 ?my_k3 ?my_k4 ?my_k5 ?my_kA ?my_kF ?my_kK ?my_k6 ?my_k7 ?my_k8 ?my_k9 ?my_kB ?_ ?my_c2 ?my_c3 ?my_c4 ?my_c5; (case my_kA => exact rfl); (case my_kF => exact rfl); (case my_kK => first | assumption | exact rfl); (case my_k1 => k_asm); (case my_k2 => k_asm); (case my_k3 => k_asm); (case my_k4 => k_asm); (case my_k5 => k_asm); (case my_k6 => k_is); (case my_k7 => k_is); (case my_k8 => ktr_room); (case my_k9 => first | exact BindsTo.of_eq rfl | exact binds_K (by k_in) rfl (by k_is) rfl rfl rfl); (case my_c5 => decide); (case my_kB => exact locs rfl); (case my_c2 => exact rfl); (case my_c3 => exact rfl); (case my_c4 => exact rfl); k_whole; intro g'W L'W h'W FG'W F'W N'W B'W X'W T'W hKpW; (try dsimp only); (try k_lift B'W); (try k_fold))
  k_with "my call ref" => (k_here; (with_reducible show wpAny _ _ (call (Value.ref 98) _ _) _ _ _); k_dflt (refine' letter_con _ _ _ _ _ _ _ _ _ _ _ _ _ _ _ _ _ _ _ _ ?my_k1 ?my_k2 ?my_k3 ?my_k4 ?my_k5 ?my_k6 ?my_k7 ?my_k8 ?_; (case my_k1 => k_asm); (case my_k2 => k_asm); (case my_k3 => k_asm); (case my_k4 => k_asm); (case my_k5 => first | exact rfl | assumption); (case my_k8 => k_asm); (case my_k6 => ktr_room); (case my_k7 => ktr_units); k_whole; intro h'W tk'W F'W N'W; (try dsimp only); (try k_sweep); (try k_fold)))
  k_with "my call ref" => (k_here; (with_reducible show wpAny _ _ (call (Value.ref 105) _ _) _ _ _); k_dflt (refine' digit_con _ _ _ _ _ _ _ _ _ _ _ _ _ _ _ _ _ _ _ _ ?my_k1 ?my_k2 ?my_k3 ?my_k4 ?my_k5 ?my_k6 ?my_k7 ?my_k8 ?_; (case my_k1 => k_asm); (case my_k2 => k_asm); (case my_k3 => k_asm); (case my_k4 => k_asm); (case my_k5 => first | exact rfl | assumption); (case my_k8 => k_asm); (case my_k6 => ktr_room); (case my_k7 => ktr_units); k_whole; intro h'W tk'W F'W N'W; (try dsimp only); (try k_sweep); (try k_fold)))
  k_with "my call ref" => (k_here; (show wpAny _ _ (call (Value.ref 141) [_] _) _ _ _); k_dflt (refine' char0_con _ _ _ _ _ _ _ _ _ _ _ _ _ _ _ _ _ _ _ _ _ _ _ _ _ _ _ _ _ _ ?my_k1 ?my_k2 ?my_k3 ?my_k4 ?my_k5 ?my_k6 ?my_k7 ?my_k8 ?_; (case my_k1 => k_asm); (case my_k2 => k_asm); (case my_k3 => k_asm); (case my_k4 => k_asm); (case my_k5 => first | exact rfl | assumption); (case my_k8 => (refine ⟨by k_asm, by first | assumption | k_mem, by first | assumption | k_mem, by assumption, by omega⟩)); (case my_k6 => ktr_room); (case my_k7 => ktr_units); k_whole; intro t'W h'W tk'W F'W N'W hl'W; (try dsimp only); (try k_sweep); (try k_fold)))
  k_with "my call ref" => (k_here; (show wpAny _ _ (call (Value.ref 141) [_, _] _) _ _ _); k_dflt (refine' char1_con _ _ _ _ _ _ _ _ _ _ _ _ _ _ _ _ _ _ _ _ _ _ _ _ _ _ _ _ _ _ _ _ ?my_k1 ?my_k2 ?my_k3 ?my_k4 ?my_k5 ?my_k6 ?my_k7 ?my_k8 ?_; (case my_k1 => k_asm); (case my_k2 => k_asm); (case my_k3 => k_asm); (case my_k4 => k_asm); (case my_k5 => first | exact rfl | assumption); (case my_k8 => (refine ⟨by k_asm, by first | assumption | k_mem, by first | assumption | k_mem, by assumption, by omega⟩)); (case my_k6 => ktr_room); (case my_k7 => ktr_units); k_whole; intro t'W h'W tk'W F'W N'W hl'W; (try dsimp only); (try k_sweep); (try k_fold)))
  k_with "my call ref" => (k_here; (show wpAny _ _ (call (Value.ref 80) _ _) _ _ _); k_dflt (refine' call_cls ?my_k1 ?my_k2 ?my_k3 ?my_k4 ?my_k5 ?my_k6 ?_; (case my_k1 => k_asm); (case my_k2 => k_asm); (case my_k3 => k_asm); (case my_k4 => k_is); (case my_k5 => k_is); (case my_k6 => k_is); k_whole; intro x'W d'W h'W F'W N'W l1 l2; (try k_lt l1); (try k_lt2 l2); (try k_sweep); walk_at "mine:enter"))
  unfold Con
  intro dp un gd cn cs a ccd cl outer A₀ base h₀ L m s Q E B F X T hk hd hu N hret
  refine wpAny_call ?_
  k_dflt (walk_at "mine:enter")
  k_steps
  rename News h₀ L _ _ => kN
  rename Fr h₀ L _ m => kF
  rename ∀ p, p ∈ news → _ => kLt
  refine hret _ _ _ _ ?_ kF kN (neL_of fun p hp => Nat.ne_of_gt (kLt p hp))
  unfold kwList
  repeat (refine .cons _ _ ?_)
  exact .nil

end
section
variable {prog : Program} {w : World} {p : Program} {loose : List Str} {mean : ExcName → Option Value} {mg mb : Str → Option Value}
theorem liftH {h₀ hs g' h' : Heap} {L L' : Addr} {m' : Str → Option Value} {made news : List (Addr × Obj)} (N : Hid (News h₀ L hs news)) (hK : Keeps hs [] g') (F' : Fr g' L' h' m') (N' : News h₀ L h' made) : News h₀ L h' (made ++ news) := by
  intro p hp
  rcases List.mem_append.mp hp with q | q
  · exact N' p q
  · exact ⟨F'.keep _ _ (hK _ _ (N.out p q).1 (fun h => nomatch h)), (N.out p q).2⟩
theorem news_rot {h₀ h : Heap} {L : Addr} {q a b : Addr × Obj} {l : List (Addr × Obj)} (N : News h₀ L h (q :: a :: b :: l)) : News h₀ L h (a :: b :: q :: l) := by
  intro p hp
  refine N p ?_
  rcases List.mem_cons.mp hp with e | hp
  · rw [e]; exact .tail _ (.head _)
  rcases List.mem_cons.mp hp with e | hp
  · rw [e]; exact .tail _ (.tail _ (.head _))
  rcases List.mem_cons.mp hp with e | hp
  · rw [e]; exact .head _
  · exact .tail _ (.tail _ (.tail _ hp))
theorem errors_con (news : List (Addr × Obj)) :
  Con prog w (kTop w.params) p loose mean mg mb (.ref 59) [] 3 20
    (fun h₀ h L => News h₀ L h news)
    (fun h₀ L m s Q => ∀ q h' tk, Fr h₀ L h' m → News h₀ L h' news → Q (.ref q) { s with heap := h', toks := tk }) := by
  k_with_none
  w_top off
  k_with "my k_mem" => (first | exact List.Mem.head _ | assumption | (refine List.Mem.tail _ ?_; first | exact List.Mem.head _ | assumption | (refine List.Mem.tail _ ?_; first | exact List.Mem.head _ | assumption | (refine List.Mem.tail _ ?_; first | exact List.Mem.head _ | assumption | (refine List.Mem.tail _ ?_; first | exact List.Mem.head _ | assumption | (refine List.Mem.tail _ ?_; first | exact List.Mem.head _ | assumption | (refine List.Mem.tail _ ?_; first | exact List.Mem.head _ | assumption | (refine List.Mem.tail _ ?_; first | exact List.Mem.head _ | assumption | (refine List.Mem.tail _ ?_; first | exact List.Mem.head _ | assumption | (refine List.Mem.tail _ ?_; first | exact List.Mem.head _ | assumption | (refine List.Mem.tail _ ?_; first | exact List.Mem.head _ | assumption | (refine List.Mem.tail _ ?_; first | exact List.Mem.head _ | assumption | (refine List.Mem.tail _ ?_; first | exact List.Mem.head _ | assumption)))))))))))))
  k_with "my k_ne" => (refine neN ?_; (try dsimp only); first | exact Df.out (by assumption) | exact (Df.out (by assumption)).symm)
  k_with "my mine:enter" => (refine' enterK ?my_k1 ?my_k2 ?my_k3 ?my_k4 ?my_k5 ?my_kA ?my_kF ?my_kK ?my_k6 ?my_k7 ?my_k8 ?my_k9 ?my_kB ?_ ?my_c2 ?my_c3 ?my_c4 ?my_c5; (case my_kA => exact rfl); (case my_kF => exact rfl); (case my_kK => first | assumption | exact rfl); (case my_k1 => k_asm); (case my_k2 => k_asm); (case my_k3 => k_asm); (case my_k4 => k_asm); (case my_k5 => k_asm); (case my_k6 => k_is); (case my_k7 => k_is); (case my_k8 => ktr_room); (case my_k9 => first | exact BindsTo.of_eq rfl | exact binds_K (by k_in) rfl (by k_is) rfl rfl rfl); (case my_c5 => decide); (case my_kB => exact locs rfl); (case my_c2 => exact rfl); (case my_c3 => exact rfl); (case my_c4 => exact rfl); k_whole; intro g'W L'W h'W FG'W F'W N'W B'W X'W T'W hKpW; (try dsimp only); (try k_lift B'W); (try k_fold))
  k_with "my call ref" => (k_here; (with_reducible show wpAny _ _ (call (Value.ref 98) _ _) _ _ _); k_dflt (refine' letter_con _ _ _ _ _ _ _ _ _ _ _ _ _ _ _ _ _ _ _ _ ?my_k1 ?my_k2 ?my_k3 ?my_k4 ?my_k5 ?my_k6 ?my_k7 ?my_k8 ?_; (case my_k1 => k_asm); (case my_k2 => k_asm); (case my_k3 => k_asm); (case my_k4 => k_asm); (case my_k5 => first | exact rfl | assumption); (case my_k8 => k_asm); (case my_k6 => ktr_room); (case my_k7 => ktr_units); k_whole; intro h'W tk'W F'W N'W; (try dsimp only); (try k_sweep); (try k_fold)))
  k_with "my call ref" => (k_here; (with_reducible show wpAny _ _ (call (Value.ref 105) _ _) _ _ _); k_dflt (refine' digit_con _ _ _ _ _ _ _ _ _ _ _ _ _ _ _ _ _ _ _ _ ?my_k1 ?my_k2 ?my_k3 ?my_k4 ?my_k5 ?my_k6 ?my_k7 ?my_k8 ?_; (case my_k1 => k_asm); (case my_k2 => k_asm); (case my_k3 => k_asm); (case my_k4 => k_asm); (case my_k5 => first | exact rfl | assumption); (case my_k8 => k_asm); (case my_k6 => ktr_room); (case my_k7 => ktr_units); k_whole; intro h'W tk'W F'W N'W; (try dsimp only); (try k_sweep); (try k_fold)))
  k_with "my call ref" => (k_here; (show wpAny _ _ (call (Value.ref 141) [_] _) _ _ _); k_dflt (refine' char0_con _ _ _ _ _ _ _ _ _ _ _ _ _ _ _ _ _ _ _ _ _ _ _ _ _ _ _ _ _ _ ?my_k1 ?my_k2 ?my_k3 ?my_k4 ?my_k5 ?my_k6 ?my_k7 ?my_k8 ?_; (case my_k1 => k_asm); (case my_k2 => k_asm); (case my_k3 => k_asm); (case my_k4 => k_asm); (case my_k5 => first | exact rfl | assumption); (case my_k8 => (refine ⟨by k_asm, by first | assumption | k_mem, by first | assumption | k_mem, by assumption, by omega⟩)); (case my_k6 => ktr_room); (case my_k7 => ktr_units); k_whole; intro t'W h'W tk'W F'W N'W hl'W; (try dsimp only); (try k_sweep); (try k_fold)))
  k_with "my call ref" => (k_here; (show wpAny _ _ (call (Value.ref 141) [_, _] _) _ _ _); k_dflt (refine' char1_con _ _ _ _ _ _ _ _ _ _ _ _ _ _ _ _ _ _ _ _ _ _ _ _ _ _ _ _ _ _ _ _ ?my_k1 ?my_k2 ?my_k3 ?my_k4 ?my_k5 ?my_k6 ?my_k7 ?my_k8 ?_; (case my_k1 => k_asm); (case my_k2 => k_asm); (case my_k3 => k_asm); (case my_k4 => k_asm); (case my_k5 => first | exact rfl | assumption); (case my_k8 => (refine ⟨by k_asm, by first | assumption | k_mem, by first | assumption | k_mem, by assumption, by omega⟩)); (case my_k6 => ktr_room); (case my_k7 => ktr_units); k_whole; intro t'W h'W tk'W F'W N'W hl'W; (try dsimp only); (try k_sweep); (try k_fold)))
  k_with "my call ref" => (k_here; (show wpAny _ _ (call (Value.ref 80) _ _) _ _ _); k_dflt (refine' call_cls ?my_k1 ?my_k2 ?my_k3 ?my_k4 ?my_k5 ?my_k6 ?_; (case my_k1 => k_asm); (case my_k2 => k_asm); (case my_k3 => k_asm); (case my_k4 => k_is); (case my_k5 => k_is); (case my_k6 => k_is); k_whole; intro x'W d'W h'W F'W N'W l1 l2; (try k_lt l1); (try k_lt2 l2); (try k_sweep); walk_at "mine:enter"))
  k_with "my call ref" => (k_here; (with_reducible show wpAny _ _ (call (Value.ref 91) _ _) _ _ _); k_dflt (refine' keys_con _ _ _ _ _ _ _ _ _ _ _ _ _ _ _ _ _ _ ?my_k1 ?my_k2 ?my_k3 ?my_k4 ?my_k5 ?my_k6 ?my_k7 ?my_k8 ?_; (case my_k1 => k_asm); (case my_k2 => k_asm); (case my_k3 => k_asm); (case my_k4 => k_asm); (case my_k5 => first | exact rfl | assumption); (case my_k8 => k_asm); (case my_k6 => ktr_room); (case my_k7 => ktr_units); k_whole; intro q'W kws'W h'W tk'W hkw'W F'W N'W n1'W; (try dsimp only); (try k_sweep); (simp only [NeL] at n1'W); (repeat (obtain ⟨nq'W, n1'W⟩ := n1'W));(try k_fold)))
  k_with "my call ref" => (k_here; (show wpAny _ _ (call (Value.ref 59) _ _) _ _ _); k_dflt (refine' call_cls ?my_k1 ?my_k2 ?my_k3 ?my_k4 ?my_k5 ?my_k6 ?_; (case my_k1 => k_asm); (case my_k2 => k_asm); (case my_k3 => k_asm); (case my_k4 => k_is); (case my_k5 => k_is); (case my_k6 => k_is); k_whole; intro x'W d'W h'W F'W N'W l1 l2; (try k_lt l1); (try k_lt2 l2); (try k_sweep); walk_at "mine:enter"))
  k_with "my call ref" => (k_here; (show wpAny _ _ (call (Value.ref 228) _ _) _ _ _); k_dflt (refine' call_cls ?my_k1 ?my_k2 ?my_k3 ?my_k4 ?my_k5 ?my_k6 ?_; (case my_k1 => k_asm); (case my_k2 => k_asm); (case my_k3 => k_asm); (case my_k4 => k_is); (case my_k5 => k_is); (case my_k6 => k_is); k_whole; intro x'W d'W h'W F'W N'W l1 l2; (try k_lt l1); (try k_lt2 l2); (try k_sweep); walk_at "mine:enter"))
  k_with "my call ref" => (k_here; (show wpAny _ _ (call (Value.ref 148) [_] _) _ _ _); (first | (have hnx0'W := na3 (by assumption) (by assumption) (by assumption)) | (have hnx0'W := na2 (by assumption) (by assumption) (by assumption)) | (have hnx0'W := na1 (by assumption) (by assumption) (by assumption)) | (have hnx0'W := na0 (by assumption) (by assumption))); (obtain ⟨k'W, v'W, ts'W, r1'W, r2'W, hR'W, hT'W, hSt'W, hnx'W⟩ := hnx0'W); (try dsimp only at hnx'W); k_dflt (refine' take_con _ _ _ _ _ _ _ _ _ _ _ _ _ _ _ _ _ _ _ _ _ _ _ _ _ _ _ _ _ _ _ _ _ _ _ _ ?my_k1 ?my_k2 ?my_k3 ?my_k4 ?my_k5 ?my_k6 ?my_k7 ?my_k8 ?_; (case my_k1 => k_asm); (case my_k2 => k_asm); (case my_k3 => k_asm); (case my_k4 => k_asm); (case my_k5 => first | exact rfl | assumption); (case my_k8 => (refine ⟨by k_asm, by first | assumption | k_mem, by first | assumption | k_mem, by k_updF, by assumption, by assumption, by assumption, by assumption⟩)); (case my_k6 => ktr_room); (case my_k7 => ktr_units); k_whole; intro pl'W tp'W bg'W tb'W t'W td'W j1'W j2'W j3'W jk'W jv'W h'W tk'W F'W N'W hA'W hlt'W n1'W n2'W n3'W; (try dsimp only); (try k_sweep); (simp only [NeL] at n1'W n2'W); (repeat (obtain ⟨nq'W, n1'W⟩ := n1'W)); (repeat (obtain ⟨nq'W, n2'W⟩ := n2'W)); (have hSt'W : St _ _ _ := ⟨_, hA'W, hSt'W⟩);(try k_fold)))
  k_with "my ktr_units" => (have hcL9 := cLine_is; (try simp only [units_under_make, units_in1, units_deeper, Around.mark_units, units_caller]); (try dsimp only [ktrTop]); omega)
  unfold Con
  intro dp un gd cn cs a ccd cl outer A₀ base h₀ L m s Q E B F X T hk hd hu N hret
  k_steps
  rename Fr h₀ L _ m => kF
  rename News h₀ L _ _ => kN
  exact hret _ _ _ kF (fun p hp => kN p (by k_mem))
theorem scanner_con (S : Str) (tS : Tok) (e : Addr) (news : List (Addr × Obj)) :
  Con prog w (kTop w.params) p loose mean mg mb (.ref 228) [.str S tS, .ref e] 3 20
    (fun h₀ h L => News h₀ L h news)
    (fun h₀ L m s Q => ∀ x dx wa kws k1 k2 k3 k4 tp h' tk, StrsAre kws.toList kwList → Fr h₀ L h' m → News h₀ L h' ((x, instObj 228 dx) :: (dx, dictOf (scEs w.params k1 k2 k3 k4 S tS (.ref e) 0 tp (.ref wa)) 4) :: (wa, tupOf kws) :: news) → Df x dx → Df wa x → Df wa dx → Q (.ref x) { s with heap := h', toks := tk }) := by
  k_with_none
  w_top off
  k_with "my k_mem" => (first | exact List.Mem.head _ | assumption | (refine List.Mem.tail _ ?_; first | exact List.Mem.head _ | assumption | (refine List.Mem.tail _ ?_; first | exact List.Mem.head _ | assumption | (refine List.Mem.tail _ ?_; first | exact List.Mem.head _ | assumption | (refine List.Mem.tail _ ?_; first | exact List.Mem.head _ | assumption | (refine List.Mem.tail _ ?_; first | exact List.Mem.head _ | assumption | (refine List.Mem.tail _ ?_; first | exact List.Mem.head _ | assumption | (refine List.Mem.tail _ ?_; first | exact List.Mem.head _ | assumption | (refine List.Mem.tail _ ?_; first | exact List.Mem.head _ | assumption | (refine List.Mem.tail _ ?_; first | exact List.Mem.head _ | assumption | (refine List.Mem.tail _ ?_; first | exact List.Mem.head _ | assumption | (refine List.Mem.tail _ ?_; first | exact List.Mem.head _ | assumption | (refine List.Mem.tail _ ?_; first | exact List.Mem.head _ | assumption)))))))))))))
  k_with "my k_ne" => (refine neN ?_; (try dsimp only); first | exact Df.out (by assumption) | exact (Df.out (by assumption)).symm)
  k_with "my mine:enter" => (refine' enterK ?my_k1 ?my_k2 ?my_k3 ?my_k4 ?my_k5 ?my_kA ?my_kF ?my_kK ?my_k6 ?my_k7 ?my_k8 ?my_k9 ?my_kB ?_ ?my_c2 ?my_c3 ?my_c4 ?my_c5; (case my_kA => exact rfl); (case my_kF => exact rfl); (case my_kK => first | assumption | exact rfl); (case my_k1 => k_asm); (case my_k2 => k_asm); (case my_k3 => k_asm); (case my_k4 => k_asm); (case my_k5 => k_asm); (case my_k6 => k_is); (case my_k7 => k_is); (case my_k8 => ktr_room); (case my_k9 => first | exact BindsTo.of_eq rfl | exact binds_K (by k_in) rfl (by k_is) rfl rfl rfl); (case my_c5 => decide); (case my_kB => exact locs rfl); (case my_c2 => exact rfl); (case my_c3 => exact rfl); (case my_c4 => exact rfl); k_whole; intro g'W L'W h'W FG'W F'W N'W B'W X'W T'W hKpW; (try dsimp only); (try k_lift B'W); (try k_fold))
  k_with "my call ref" => (k_here; (with_reducible show wpAny _ _ (call (Value.ref 98) _ _) _ _ _); k_dflt (refine' letter_con _ _ _ _ _ _ _ _ _ _ _ _ _ _ _ _ _ _ _ _ ?my_k1 ?my_k2 ?my_k3 ?my_k4 ?my_k5 ?my_k6 ?my_k7 ?my_k8 ?_; (case my_k1 => k_asm); (case my_k2 => k_asm); (case my_k3 => k_asm); (case my_k4 => k_asm); (case my_k5 => first | exact rfl | assumption); (case my_k8 => k_asm); (case my_k6 => ktr_room); (case my_k7 => ktr_units); k_whole; intro h'W tk'W F'W N'W; (try dsimp only); (try k_sweep); (try k_fold)))
  k_with "my call ref" => (k_here; (with_reducible show wpAny _ _ (call (Value.ref 105) _ _) _ _ _); k_dflt (refine' digit_con _ _ _ _ _ _ _ _ _ _ _ _ _ _ _ _ _ _ _ _ ?my_k1 ?my_k2 ?my_k3 ?my_k4 ?my_k5 ?my_k6 ?my_k7 ?my_k8 ?_; (case my_k1 => k_asm); (case my_k2 => k_asm); (case my_k3 => k_asm); (case my_k4 => k_asm); (case my_k5 => first | exact rfl | assumption); (case my_k8 => k_asm); (case my_k6 => ktr_room); (case my_k7 => ktr_units); k_whole; intro h'W tk'W F'W N'W; (try dsimp only); (try k_sweep); (try k_fold)))
  k_with "my call ref" => (k_here; (show wpAny _ _ (call (Value.ref 141) [_] _) _ _ _); k_dflt (refine' char0_con _ _ _ _ _ _ _ _ _ _ _ _ _ _ _ _ _ _ _ _ _ _ _ _ _ _ _ _ _ _ ?my_k1 ?my_k2 ?my_k3 ?my_k4 ?my_k5 ?my_k6 ?my_k7 ?my_k8 ?_; (case my_k1 => k_asm); (case my_k2 => k_asm); (case my_k3 => k_asm); (case my_k4 => k_asm); (case my_k5 => first | exact rfl | assumption); (case my_k8 => (refine ⟨by k_asm, by first | assumption | k_mem, by first | assumption | k_mem, by assumption, by omega⟩)); (case my_k6 => ktr_room); (case my_k7 => ktr_units); k_whole; intro t'W h'W tk'W F'W N'W hl'W; (try dsimp only); (try k_sweep); (try k_fold)))
  k_with "my call ref" => (k_here; (show wpAny _ _ (call (Value.ref 141) [_, _] _) _ _ _); k_dflt (refine' char1_con _ _ _ _ _ _ _ _ _ _ _ _ _ _ _ _ _ _ _ _ _ _ _ _ _ _ _ _ _ _ _ _ ?my_k1 ?my_k2 ?my_k3 ?my_k4 ?my_k5 ?my_k6 ?my_k7 ?my_k8 ?_; (case my_k1 => k_asm); (case my_k2 => k_asm); (case my_k3 => k_asm); (case my_k4 => k_asm); (case my_k5 => first | exact rfl | assumption); (case my_k8 => (refine ⟨by k_asm, by first | assumption | k_mem, by first | assumption | k_mem, by assumption, by omega⟩)); (case my_k6 => ktr_room); (case my_k7 => ktr_units); k_whole; intro t'W h'W tk'W F'W N'W hl'W; (try dsimp only); (try k_sweep); (try k_fold)))
  k_with "my call ref" => (k_here; (show wpAny _ _ (call (Value.ref 80) _ _) _ _ _); k_dflt (refine' call_cls ?my_k1 ?my_k2 ?my_k3 ?my_k4 ?my_k5 ?my_k6 ?_; (case my_k1 => k_asm); (case my_k2 => k_asm); (case my_k3 => k_asm); (case my_k4 => k_is); (case my_k5 => k_is); (case my_k6 => k_is); k_whole; intro x'W d'W h'W F'W N'W l1 l2; (try k_lt l1); (try k_lt2 l2); (try k_sweep); walk_at "mine:enter"))
  k_with "my call ref" => (k_here; (with_reducible show wpAny _ _ (call (Value.ref 91) _ _) _ _ _); k_dflt (refine' keys_con _ _ _ _ _ _ _ _ _ _ _ _ _ _ _ _ _ _ ?my_k1 ?my_k2 ?my_k3 ?my_k4 ?my_k5 ?my_k6 ?my_k7 ?my_k8 ?_; (case my_k1 => k_asm); (case my_k2 => k_asm); (case my_k3 => k_asm); (case my_k4 => k_asm); (case my_k5 => first | exact rfl | assumption); (case my_k8 => k_asm); (case my_k6 => ktr_room); (case my_k7 => ktr_units); k_whole; intro q'W kws'W h'W tk'W hkw'W F'W N'W n1'W; (try dsimp only); (try k_sweep); (simp only [NeL] at n1'W); (repeat (obtain ⟨nq'W, n1'W⟩ := n1'W));(try k_fold)))
  k_with "my call ref" => (k_here; (show wpAny _ _ (call (Value.ref 59) _ _) _ _ _); k_dflt (refine' call_cls ?my_k1 ?my_k2 ?my_k3 ?my_k4 ?my_k5 ?my_k6 ?_; (case my_k1 => k_asm); (case my_k2 => k_asm); (case my_k3 => k_asm); (case my_k4 => k_is); (case my_k5 => k_is); (case my_k6 => k_is); k_whole; intro x'W d'W h'W F'W N'W l1 l2; (try k_lt l1); (try k_lt2 l2); (try k_sweep); walk_at "mine:enter"))
  k_with "my call ref" => (k_here; (show wpAny _ _ (call (Value.ref 228) _ _) _ _ _); k_dflt (refine' call_cls ?my_k1 ?my_k2 ?my_k3 ?my_k4 ?my_k5 ?my_k6 ?_; (case my_k1 => k_asm); (case my_k2 => k_asm); (case my_k3 => k_asm); (case my_k4 => k_is); (case my_k5 => k_is); (case my_k6 => k_is); k_whole; intro x'W d'W h'W F'W N'W l1 l2; (try k_lt l1); (try k_lt2 l2); (try k_sweep); walk_at "mine:enter"))
  k_with "my call ref" => (k_here; (show wpAny _ _ (call (Value.ref 148) [_] _) _ _ _); (first | (have hnx0'W := na3 (by assumption) (by assumption) (by assumption)) | (have hnx0'W := na2 (by assumption) (by assumption) (by assumption)) | (have hnx0'W := na1 (by assumption) (by assumption) (by assumption)) | (have hnx0'W := na0 (by assumption) (by assumption))); (obtain ⟨k'W, v'W, ts'W, r1'W, r2'W, hR'W, hT'W, hSt'W, hnx'W⟩ := hnx0'W); (try dsimp only at hnx'W); k_dflt (refine' take_con _ _ _ _ _ _ _ _ _ _ _ _ _ _ _ _ _ _ _ _ _ _ _ _ _ _ _ _ _ _ _ _ _ _ _ _ ?my_k1 ?my_k2 ?my_k3 ?my_k4 ?my_k5 ?my_k6 ?my_k7 ?my_k8 ?_; (case my_k1 => k_asm); (case my_k2 => k_asm); (case my_k3 => k_asm); (case my_k4 => k_asm); (case my_k5 => first | exact rfl | assumption); (case my_k8 => (refine ⟨by k_asm, by first | assumption | k_mem, by first | assumption | k_mem, by k_updF, by assumption, by assumption, by assumption, by assumption⟩)); (case my_k6 => ktr_room); (case my_k7 => ktr_units); k_whole; intro pl'W tp'W bg'W tb'W t'W td'W j1'W j2'W j3'W jk'W jv'W h'W tk'W F'W N'W hA'W hlt'W n1'W n2'W n3'W; (try dsimp only); (try k_sweep); (simp only [NeL] at n1'W n2'W); (repeat (obtain ⟨nq'W, n1'W⟩ := n1'W)); (repeat (obtain ⟨nq'W, n2'W⟩ := n2'W)); (have hSt'W : St _ _ _ := ⟨_, hA'W, hSt'W⟩);(try k_fold)))
  k_with "my ktr_units" => (have hcL9 := cLine_is; (try simp only [units_under_make, units_in1, units_deeper, Around.mark_units, units_caller]); (try dsimp only [ktrTop]); omega)
  unfold Con
  intro dp un gd cn cs a ccd cl outer A₀ base h₀ L m s Q E B F X T hk hd hu N hret
  k_steps
  rename Fr h₀ L _ m => kF
  rename News h₀ L _ _ => kN
  exact hret _ _ _ _ _ _ _ _ _ _ _ (by assumption) kF (news_rot kN) (.mk (Nat.ne_of_gt (by assumption))) (by assumption) (by assumption)

end
section
variable {prog : Program} {w : World} {p : Program} {loose : List Str} {mean : ExcName → Option Value} {mg mb : Str → Option Value}
theorem enterC {A A₀ : Around} {s : Shared} {K : Frag} {L : Addr} {h₀ base : Heap} {m : Str → Option Value} {news : List (Addr × Obj)}
    {env : Env} {outer : List Env} {R : Result → Shared → Prop} {name qual : Str} {params : Arguments} {body : List Stmt} {scope : Scope} {dV kV doc pm cdv ct oc : Value} {an od : Option Addr} {osl : Array (Option Value)} {f : Addr} {args : Args} {binds : List (Str × Value)}
    (B : Below A₀ base outer h₀) (F : Fr h₀ L s.heap m) (X₀ : K.In h₀) (N : News h₀ L s.heap news) (T : Top p loose mean mg mb h₀) (hA : A.frames = some (env :: outer)) (hf : env.frame = some L) (hke : env.scope.kind = .function)
    (ho : K.lookup f = some ⟨oc, od, .func (fnOf name qual params body scope dV kV doc pm an cdv ct), osl⟩) (hcd : codeIn K cdv qual = true) (hroom : A.depth < recursionLimit)
    (hbind : BindsTo s (fnOf name qual params body scope dV kV doc pm an cdv ct) args binds) (hkind : (binds.all fun y => scope.names.lookup y.1 == some .local || scope.names.lookup y.1 == some .cell) = true)
    (hnd : ((cellsFrom 0 scope.names []).map (·.1)).Nodup)
    (h : ∀ g L' h₁ tk cells, Fr h₀ L g m → Fr g L' h₁ (bindL (envOfC qual scope L' f cdv).kindOf binds fun _ => none) → News g L' h₁ (cells ++ news) →
      CellsAre (bindC (envOfC qual scope L' f cdv).kindOf binds fun _ => none) (cellsFrom (L' + 1) scope.names []) cells → Below A base (env :: outer) g → K.In g → Top p loose mean mg mb g → (∀ p ∈ news, p.1 < L') → Keeps s.heap (news.map (·.1)) g →
      wpAny (model prog w) (A.deeper (envOfC qual scope L' f cdv)) (execs body (envOfC qual scope L' f cdv))
        (fun fl s' => LeaveK h₀ L m g R (match fl with | .ret v => v | _ => .none) s')
        (fun e s' => wpAny (model prog w) (A.deeper (envOfC qual scope L' f cdv)) (leaving (envOfC qual scope L' f cdv) e) (fun _ s'' => R (.error e) s'') (fun e' s'' => R (.error e') s'') s')
        { s with heap := h₁, toks := tk })
    (hco : scope.isCoroutine = false) (hgen : scope.isGenerator = false) (hk : scope.kind = .function) : codeAny (model prog w) A (.call (.ref f) args) R s := by
  obtain ⟨FG, BG, st, lv⟩ := groundX (R := R) B F N hA hf hke
  have X := X₀.keeps F.keep
  have hlim := T.nolimit
  refine codeAny_call_function hroom (X _ _ ho) rfl hco hgen rfl (codeRec_of X hcd) (hbind _ _ _ _ ?_)
  refine wpAny_newFunctionEnv_cells hk (kindsX hkind _) fun env' he s' x => ?_
  subst he
  refine ⟨(hlim.keeps F.keep).keeps x.toInCall.keep, codeAny_func ?_⟩
  obtain ⟨h₁, tk, rfl, _⟩ := x.done
  have hk₁ := x.toInCall.keep
  obtain ⟨cells, NC, Y⟩ := Cl.news (h₀ := s.heap) (Nat.le_refl _) fun n c hm => ⟨x.cell n c (lookup_of_mem_nodup (cellsFrom_names scope.names 0 (s.heap.objs.size + 1) [] [] rfl ▸ hnd) hm), x.above n c hm⟩
  refine wpAny_mono (h _ s.heap.objs.size h₁ tk cells FG ⟨x.toInCall.ns, fun b o e => hk₁ b o (of_hideAll _ e), Nat.le_of_eq (hideAll_size _ _)⟩ (fun q hq => ?_) Y BG (X₀.keeps st) (T.keeps st) (fun q hq => Heap.lt_size (N q hq).1) fun b o e n => hideAll_get _ e n) (fun fl s' hl => lv _ _ hl) fun _ _ y => y
  rcases List.mem_append.mp hq with hq | hq
  · refine ⟨(NC q hq).1, (NC q hq).2.1, ?_⟩
    cases e : (hideAll s.heap (news.map (·.1))).get? q.1 with
    | none => rfl
    | some o => have := of_hideAll _ e; rw [(NC q hq).2.2] at this; cases this
  · exact ⟨hk₁ _ _ (N q hq).1, Nat.ne_of_lt (Heap.lt_size (N q hq).1), hideAll_none _ (List.mem_map_of_mem hq)⟩

end
section
variable {prog : Program} {w : World} {p : Program} {loose : List Str} {mean : ExcName → Option Value} {mg mb : Str → Option Value}
abbrev headEs (P : Params) (k1 k2 : Tok) (n : Str) (tn : Tok) (v : Value) : List DictEntry :=
  [⟨PyData.keyHash P (Str.ofString "name"), .str (Str.ofString "name") k1, .str n tn⟩, ⟨PyData.keyHash P (Str.ofString "imports"), .str (Str.ofString "imports") k2, v⟩]
theorem head_con (S : Str) (tS : Tok) (news : List (Addr × Obj)) (ts : TS) (name : Str) (res : List Str) :
  Con prog w (kTop w.params) p loose mean mg mb (.ref 274) [.str S tS] 7 64
    (fun h₀ h L => News h₀ L h news ∧ S.length ≤ 1000000 ∧ St S 0 ts ∧ A0 ts name res)
    (fun h₀ L m s Q => ∀ x d la us c k1 k2 tn h' tk, StrsAre us res → Fr h₀ L h' m → News h₀ L h' ((x, instObj 249 d) :: (d, dictOf (headEs w.params k1 k2 name tn (.ref la)) 2) :: (la, listOf us.toArray c) :: news) →
      Q (.ref x) { s with heap := h', toks := tk }) := by
  k_with_none
  w_top off
  k_with "my k_ne" => (refine neN ?_; (try dsimp only); first | exact Df.out (by assumption) | exact (Df.out (by assumption)).symm)
  k_with "my mine:enter" => (refine' enterK ?my_k1 ?my_k2 ?my_k3 ?my_k4 ?my_k5 ?my_kA ?my_kF ?my_kK ?my_k6 ?my_k7 ?my_k8 ?my_k9 ?my_kB ?_ ?my_c2 ?my_c3 ?my_c4 ?my_c5; (case my_kA => exact rfl); (case my_kF => exact rfl); (case my_kK => first | assumption | exact rfl); (case my_k1 => k_asm); (case my_k2 => k_asm); (case my_k3 => k_asm); (case my_k4 => k_asm); (case my_k5 => k_asm); (case my_k6 => k_is); (case my_k7 => k_is); (case my_k8 => ktr_room); (case my_k9 => first | exact BindsTo.of_eq rfl | exact binds_K (by k_in) rfl (by k_is) rfl rfl rfl); (case my_c5 => decide); (case my_kB => exact locs rfl); (case my_c2 => exact rfl); (case my_c3 => exact rfl); (case my_c4 => exact rfl); k_whole; intro g'W L'W h'W FG'W F'W N'W B'W X'W T'W hKpW; (try dsimp only); (try k_lift B'W); (try k_fold))
  k_with "my call ref" => (k_here; (with_reducible show wpAny _ _ (call (Value.ref 98) _ _) _ _ _); k_dflt (refine' letter_con _ _ _ _ _ _ _ _ _ _ _ _ _ _ _ _ _ _ _ _ ?my_k1 ?my_k2 ?my_k3 ?my_k4 ?my_k5 ?my_k6 ?my_k7 ?my_k8 ?_; (case my_k1 => k_asm); (case my_k2 => k_asm); (case my_k3 => k_asm); (case my_k4 => k_asm); (case my_k5 => first | exact rfl | assumption); (case my_k8 => k_asm); (case my_k6 => ktr_room); (case my_k7 => ktr_units); k_whole; intro h'W tk'W F'W N'W; (try dsimp only); (try k_sweep); (try k_fold)))
  k_with "my call ref" => (k_here; (with_reducible show wpAny _ _ (call (Value.ref 105) _ _) _ _ _); k_dflt (refine' digit_con _ _ _ _ _ _ _ _ _ _ _ _ _ _ _ _ _ _ _ _ ?my_k1 ?my_k2 ?my_k3 ?my_k4 ?my_k5 ?my_k6 ?my_k7 ?my_k8 ?_; (case my_k1 => k_asm); (case my_k2 => k_asm); (case my_k3 => k_asm); (case my_k4 => k_asm); (case my_k5 => first | exact rfl | assumption); (case my_k8 => k_asm); (case my_k6 => ktr_room); (case my_k7 => ktr_units); k_whole; intro h'W tk'W F'W N'W; (try dsimp only); (try k_sweep); (try k_fold)))
  k_with "my call ref" => (k_here; (show wpAny _ _ (call (Value.ref 141) [_] _) _ _ _); k_dflt (refine' char0_con _ _ _ _ _ _ _ _ _ _ _ _ _ _ _ _ _ _ _ _ _ _ _ _ _ _ _ _ _ _ ?my_k1 ?my_k2 ?my_k3 ?my_k4 ?my_k5 ?my_k6 ?my_k7 ?my_k8 ?_; (case my_k1 => k_asm); (case my_k2 => k_asm); (case my_k3 => k_asm); (case my_k4 => k_asm); (case my_k5 => first | exact rfl | assumption); (case my_k8 => (refine ⟨by k_asm, by first | assumption | k_mem, by first | assumption | k_mem, by assumption, by omega⟩)); (case my_k6 => ktr_room); (case my_k7 => ktr_units); k_whole; intro t'W h'W tk'W F'W N'W hl'W; (try dsimp only); (try k_sweep); (try k_fold)))
  k_with "my call ref" => (k_here; (show wpAny _ _ (call (Value.ref 141) [_, _] _) _ _ _); k_dflt (refine' char1_con _ _ _ _ _ _ _ _ _ _ _ _ _ _ _ _ _ _ _ _ _ _ _ _ _ _ _ _ _ _ _ _ ?my_k1 ?my_k2 ?my_k3 ?my_k4 ?my_k5 ?my_k6 ?my_k7 ?my_k8 ?_; (case my_k1 => k_asm); (case my_k2 => k_asm); (case my_k3 => k_asm); (case my_k4 => k_asm); (case my_k5 => first | exact rfl | assumption); (case my_k8 => (refine ⟨by k_asm, by first | assumption | k_mem, by first | assumption | k_mem, by assumption, by omega⟩)); (case my_k6 => ktr_room); (case my_k7 => ktr_units); k_whole; intro t'W h'W tk'W F'W N'W hl'W; (try dsimp only); (try k_sweep); (try k_fold)))
  k_with "my call ref" => (k_here; (show wpAny _ _ (call (Value.ref 80) _ _) _ _ _); k_dflt (refine' call_cls ?my_k1 ?my_k2 ?my_k3 ?my_k4 ?my_k5 ?my_k6 ?_; (case my_k1 => k_asm); (case my_k2 => k_asm); (case my_k3 => k_asm); (case my_k4 => k_is); (case my_k5 => k_is); (case my_k6 => k_is); k_whole; intro x'W d'W h'W F'W N'W l1 l2; (try k_lt l1); (try k_lt2 l2); (try k_sweep); walk_at "mine:enter"))
  k_with "my call ref" => (k_here; (show wpAny _ _ (call (Value.ref 267) [_] _) _ _ _); (have hImp'W := na4 (by assumption) (by assumption)); k_dflt (refine' names_con _ _ _ _ _ _ _ _ _ _ _ _ _ _ _ _ _ _ _ _ _ _ _ _ _ _ _ _ _ _ _ _ _ _ ?my_k1 ?my_k2 ?my_k3 ?my_k4 ?my_k5 ?my_k6 ?my_k7 ?my_k8 ?_; (case my_k1 => k_asm); (case my_k2 => k_asm); (case my_k3 => k_asm); (case my_k4 => k_asm); (case my_k5 => first | exact rfl | assumption); (case my_k8 => (refine ⟨by k_asm, by first | assumption | k_mem, by first | assumption | k_mem, by k_updF, by assumption, by assumption, by assumption, by assumption⟩)); (case my_k6 => ktr_room); (case my_k7 => ktr_units); k_whole; intro pl'W tp'W q'W us'W c'W h'W tk'W hus'W F'W N'W; (try dsimp only); (try k_sweep); (try k_fold)))
  k_with "my call ref" => (k_here; (with_reducible show wpAny _ _ (call (Value.ref 59) _ _) _ _ _); k_dflt (refine' errors_con _ _ _ _ _ _ _ _ _ _ _ _ _ _ _ _ _ _ ?my_k1 ?my_k2 ?my_k3 ?my_k4 ?my_k5 ?my_k6 ?my_k7 ?my_k8 ?_; (case my_k1 => k_asm); (case my_k2 => k_asm); (case my_k3 => k_asm); (case my_k4 => k_asm); (case my_k5 => first | exact rfl | assumption); (case my_k8 => k_asm); (case my_k6 => ktr_room); (case my_k7 => ktr_units); k_whole; intro q'W h'W tk'W F'W N'W; (try dsimp only); (try k_sweep); (try k_fold)))
  k_with "my call ref" => (k_here; (with_reducible show wpAny _ _ (call (Value.ref 228) _ _) _ _ _); k_dflt (refine' scanner_con _ _ _ _ _ _ _ _ _ _ _ _ _ _ _ _ _ _ _ _ _ ?my_k1 ?my_k2 ?my_k3 ?my_k4 ?my_k5 ?my_k6 ?my_k7 ?my_k8 ?_; (case my_k1 => k_asm); (case my_k2 => k_asm); (case my_k3 => k_asm); (case my_k4 => k_asm); (case my_k5 => first | exact rfl | assumption); (case my_k8 => k_asm); (case my_k6 => ktr_room); (case my_k7 => ktr_units); k_whole; intro x'W dx'W wa'W kws'W k1'W k2'W k3'W k4'W tp'W h'W tk'W hkw'W F'W N'W nq1'W nq2'W nq3'W; (try dsimp only); (try k_sweep); (try k_fold)))
  k_with "my call ref" => (k_here; (show wpAny _ _ (call (Value.ref 249) _ _) _ _ _); k_dflt (refine' call_cls ?my_k1 ?my_k2 ?my_k3 ?my_k4 ?my_k5 ?my_k6 ?_; (case my_k1 => k_asm); (case my_k2 => k_asm); (case my_k3 => k_asm); (case my_k4 => k_is); (case my_k5 => k_is); (case my_k6 => k_is); k_whole; intro x'W d'W h'W F'W N'W l1 l2; (try k_lt l1); (try k_lt2 l2); (try k_sweep); walk_at "mine:enter"))
  k_with "my call ref" => (k_here; (show wpAny _ _ (call (Value.ref 148) [_] _) _ _ _); (first | (have hnx0'W := na3 (by assumption) (by assumption) (by assumption)) | (have hnx0'W := na2 (by assumption) (by assumption) (by assumption)) | (have hnx0'W := na1 (by assumption) (by assumption) (by assumption)) | (have hnx0'W := na0 (by assumption) (by assumption))); (obtain ⟨k'W, v'W, ts'W, r1'W, r2'W, hR'W, hT'W, hSt'W, hnx'W⟩ := hnx0'W); (try dsimp only at hnx'W); k_dflt (refine' take_con _ _ _ _ _ _ _ _ _ _ _ _ _ _ _ _ _ _ _ _ _ _ _ _ _ _ _ _ _ _ _ _ _ _ _ _ ?my_k1 ?my_k2 ?my_k3 ?my_k4 ?my_k5 ?my_k6 ?my_k7 ?my_k8 ?_; (case my_k1 => k_asm); (case my_k2 => k_asm); (case my_k3 => k_asm); (case my_k4 => k_asm); (case my_k5 => first | exact rfl | assumption); (case my_k8 => (refine ⟨by k_asm, by first | assumption | k_mem, by first | assumption | k_mem, by k_updF, by assumption, by assumption, by assumption, by assumption⟩)); (case my_k6 => ktr_room); (case my_k7 => ktr_units); k_whole; intro pl'W tp'W bg'W tb'W t'W td'W j1'W j2'W j3'W jk'W jv'W h'W tk'W F'W N'W hA'W hlt'W n1'W n2'W n3'W; (try dsimp only); (try k_sweep); (simp only [NeL] at n1'W n2'W); (repeat (obtain ⟨nq'W, n1'W⟩ := n1'W)); (repeat (obtain ⟨nq'W, n2'W⟩ := n2'W)); (have hSt'W : St _ _ _ := ⟨_, hA'W, hSt'W⟩);(try k_fold)))
  unfold Con
  intro dp un gd cn cs a ccd cl outer A₀ base h₀ L m s Q E B F X T hk hd hu ⟨N, hS, hSt, hA0⟩ hret
  have Nm : News h₀ L s.heap [] := fun _ h => nomatch h
  have hN := Hid.mk N
  clear N
  refine wpAny_call ?_
  k_dflt (walk_at "mine:enter")
  k_steps
  all_goals (
    rename News h₀ L _ _ => kN
    rename Fr h₀ L _ m => kF
    rename Keeps s.heap _ _ => hKp
    have hend := (by first | exact ea5 (by assumption) (by assumption) | exact ea4 (by assumption) (by assumption) | exact ea3 (by assumption) (by assumption) | exact ea2 (by assumption) (by assumption) | exact ea1 (by assumption) (by assumption) : name = _ ∧ res = _)
    obtain ⟨e1, e2⟩ := hend
    subst e1
    first
      | (subst e2; exact hret _ _ _ [] _ _ _ _ _ _ .nil kF (liftH (made := [_, _, _]) hN hKp (by assumption) (allIn_news kN ⟨.head _, .tail _ (.head _), .tail _ (.tail _ (.head _)), trivial⟩)))
      | (exact hret _ _ _ _ _ _ _ _ _ _ (by assumption) kF (liftH (made := [_, _, _]) hN hKp (by assumption) (allIn_news kN ⟨.head _, .tail _ (.head _), .tail _ (.tail _ (.head _)), trivial⟩))))

end
section
open PySem PyProof.Rows PySem.Spec PySem.Builtin PySem.Builtin.Str
/-- the gaps that the law lays behind a word -/
def gapL : List Str := [Str.ofString " ", Str.ofString "\n", Str.ofString " (* a; (* b *) IMPORT C; *) ", Str.ofString "  "]
/-- the names that the law uses -/
def nameL : List Str := [Str.ofString "M", Str.ofString "Tools", Str.ofString "a1", Str.ofString "x0", Str.ofString "x1", Str.ofString "x2", Str.ofString "x3", Str.ofString "A", Str.ofString "B", Str.ofString "Out", Str.ofString "SYSTEM"]
def otherL : List Str := [Str.ofString ";", Str.ofString ",", Str.ofString ":=", Str.ofString "(", Str.ofString "MODULE", Str.ofString "IMPORT"]
abbrev sBegin : Str := Str.ofString "BEGIN"
def vocL : List Str := nameL ++ otherL
def vocB : List Str := sBegin :: vocL
def isNm (w : Str) : Bool := nameL.any (· == w)
def tokOf (w : Str) : Str × Str := if isNm w then (sIdent, w) else (w, sNone)
def toks (ws : List Str) : TS := ws.map tokOf ++ [(sBegin, sNone)]
theorem isNm_is : ∀ x ∈ vocB, (Txt.isalnum x && !([Str.ofString "MODULE", Str.ofString "IMPORT", Str.ofString "BEGIN"].any fun y => y == x)) = isNm x := by decide +kernel
theorem isNm_1 {x : Str} (h : x ∈ vocB) (c : Txt.isalnum x = true) : (!([Str.ofString "MODULE", Str.ofString "IMPORT", Str.ofString "BEGIN"].any fun y => y == x)) = isNm x := by
  have := isNm_is x h
  rw [c, Bool.true_and] at this
  exact this
theorem isNm_2 {x : Str} (h : x ∈ vocB) (c : Txt.isalnum x = false) : Txt.isalnum x = isNm x := by
  have := isNm_is x h
  rw [c, Bool.false_and] at this
  rw [c, this]
end
section
open PySem PyProof.Rows PySem.Spec PySem.Builtin PySem.Builtin.Str
theorem tokOf_kind {x y : Str} (hs : isNm y = false) (hi : y ≠ sIdent) : (tokOf x).1 = y ↔ x = y := by
  unfold tokOf
  by_cases h : isNm x = true
  · rw [if_pos h]
    refine ⟨fun e => absurd e.symm hi, fun e => ?_⟩
    rw [e, hs] at h
    cases h
  · rw [if_neg h]
theorem ident_voc : ∀ x ∈ vocB, x ≠ sIdent := by decide +kernel
theorem tokOf_ident {x : Str} (hx : x ∈ vocB) : (tokOf x).1 = sIdent ↔ isNm x = true := by
  unfold tokOf
  by_cases h : isNm x = true
  · rw [if_pos h]
    exact ⟨fun _ => h, fun _ => rfl⟩
  · rw [if_neg h]
    exact ⟨fun e => absurd e (ident_voc x hx), fun e => absurd e h⟩
theorem nm_is : isNm sIs = false := by decide +kernel
theorem nm_comma : isNm sComma = false := by decide +kernel
theorem nm_semi : isNm sSemi = false := by decide +kernel
theorem nm_module : isNm sModule = false := by decide +kernel
theorem nm_import : isNm sImport = false := by decide +kernel
theorem nm_begin : isNm sBegin = false := by decide +kernel
theorem nm_none : isNm sNone = false := by decide +kernel
theorem ne_is : sIs ≠ sIdent := by decide +kernel
theorem ne_comma : sComma ≠ sIdent := by decide +kernel
theorem ne_semi : sSemi ≠ sIdent := by decide +kernel
theorem ne_module : sModule ≠ sIdent := by decide +kernel
theorem ne_import : sImport ≠ sIdent := by decide +kernel
theorem bg_is : sBegin ≠ sIs := by decide +kernel
theorem bg_comma : sBegin ≠ sComma := by decide +kernel
theorem bg_semi : sBegin ≠ sSemi := by decide +kernel
theorem bg_module : sBegin ≠ sModule := by decide +kernel
theorem bg_import : sBegin ≠ sImport := by decide +kernel
theorem bg_ident : sBegin ≠ sIdent := by decide +kernel
theorem isNm_ne {x : Str} (h : isNm x = true) : x ≠ sNone := by
  intro e
  rw [e, nm_none] at h
  cases h
theorem tokOf_begin : tokOf sBegin = (sBegin, sNone) := by
  unfold tokOf
  rw [nm_begin]
  rfl
theorem tokOf_nm {x : Str} (h : isNm x = true) : tokOf x = (sIdent, x) := by
  unfold tokOf
  rw [if_pos h]
/-- the token at the head of what the words give -/
def hdW (ws : List Str) : Str := ws.headD sBegin
def tlT (ws : List Str) : TS := match ws with | [] => [] | _ :: r => toks r
theorem toks_cons (ws : List Str) : toks ws = tokOf (hdW ws) :: tlT ws := by
  cases ws with
  | nil => show [(sBegin, sNone)] = _; rw [← tokOf_begin]; rfl
  | cons x r => rfl
theorem hdW_voc {ws : List Str} (hV : ∀ x ∈ ws, x ∈ vocL) : hdW ws ∈ vocB := by
  cases ws with
  | nil => exact .head _
  | cons x r => exact .tail _ (hV x (.head _))
theorem toks_next {ws : List Str} (h : hdW ws ≠ sBegin) : toks ws = tokOf (hdW ws) :: toks ws.tail := by
  cases ws with
  | nil => exact absurd rfl h
  | cons x r => rfl
theorem tail_voc {ws : List Str} (hV : ∀ x ∈ ws, x ∈ vocL) : ∀ x ∈ ws.tail, x ∈ vocL := fun x hx => hV x (List.mem_of_mem_tail hx)
theorem nmBegin {x : Str} (h : isNm x = true) : x ≠ sBegin := by
  intro e
  rw [e, nm_begin] at h
  cases h
/-- what is told at a row of imported names, by the words -/
inductive Rd : List Str → Str → Str → List Str → Prop
  | none {ws : List Str} : isNm (hdW ws) = false → Rd ws sNone (hdW ws) ws.tail
  | one {ws : List Str} : isNm (hdW ws) = true → hdW ws.tail ≠ sIs → Rd ws (hdW ws) (hdW ws.tail) ws.tail.tail
  | two {ws : List Str} : isNm (hdW ws) = true → hdW ws.tail = sIs → isNm (hdW ws.tail.tail) = true → Rd ws (hdW ws.tail.tail) (hdW ws.tail.tail.tail) ws.tail.tail.tail.tail
  | bad {ws : List Str} : isNm (hdW ws) = true → hdW ws.tail = sIs → isNm (hdW ws.tail.tail) = false → Rd ws sNone (hdW ws.tail.tail) ws.tail.tail.tail
theorem rd_imp {ws : List Str} (hV : ∀ x ∈ ws, x ∈ vocL) {n k : Str} {ws' : List Str} (h : Rd ws n k ws') : ∃ ts, (∃ t r, toks ws = t :: r ∧ imp1 t r = some (n, tokOf k, ts)) ∧ (k ≠ sBegin → ts = toks ws') := by
  have v1 := hdW_voc hV
  have v2 := hdW_voc (tail_voc hV)
  have v3 := hdW_voc (tail_voc (tail_voc hV))
  cases h with
  | none a =>
    refine ⟨tlT ws, ⟨_, _, toks_cons ws, ?_⟩, fun h => ?_⟩
    · unfold imp1
      rw [if_neg (fun e => by rw [tokOf_ident v1, a] at e; cases e)]
    · cases ws with
      | nil => exact absurd rfl h
      | cons x r => rfl
  | one a b =>
    rw [toks_next (nmBegin a)]
    refine ⟨tlT ws.tail, ⟨_, _, rfl, ?_⟩, fun h => ?_⟩
    · unfold imp1
      rw [if_pos ((tokOf_ident v1).mpr a), toks_cons ws.tail]
      show imp2 _ _ _ = _
      unfold imp2
      rw [if_neg (fun e => b ((tokOf_kind nm_is ne_is).mp e)), tokOf_nm a]
    · cases hw : ws.tail with
      | nil => rw [hw] at h; exact absurd rfl h
      | cons x r => rfl
  | two a b c =>
    rw [toks_next (nmBegin a)]
    refine ⟨tlT ws.tail.tail.tail, ⟨_, _, rfl, ?_⟩, fun h => ?_⟩
    · unfold imp1
      rw [if_pos ((tokOf_ident v1).mpr a), toks_next (ws := ws.tail) (by rw [b]; exact bg_is.symm)]
      show imp2 _ _ _ = _
      unfold imp2
      rw [if_pos ((tokOf_kind nm_is ne_is).mpr b), toks_next (ws := ws.tail.tail) (nmBegin c)]
      show imp3 _ _ = _
      unfold imp3
      rw [if_pos ((tokOf_ident v3).mpr c), toks_cons ws.tail.tail.tail, tokOf_nm c]
    · cases hw : ws.tail.tail.tail with
      | nil => rw [hw] at h; exact absurd rfl h
      | cons x r => rfl
  | bad a b c =>
    rw [toks_next (nmBegin a)]
    refine ⟨tlT ws.tail.tail, ⟨_, _, rfl, ?_⟩, fun h => ?_⟩
    · unfold imp1
      rw [if_pos ((tokOf_ident v1).mpr a), toks_next (ws := ws.tail) (by rw [b]; exact bg_is.symm)]
      show imp2 _ _ _ = _
      unfold imp2
      rw [if_pos ((tokOf_kind nm_is ne_is).mpr b), toks_cons ws.tail.tail]
      show imp3 _ _ = _
      unfold imp3
      rw [if_neg (fun e => by rw [tokOf_ident v3, c] at e; cases e)]
    · cases hw : ws.tail.tail with
      | nil => rw [hw] at h; exact absurd rfl h
      | cons x r => rfl
theorem rd_ex (ws : List Str) : ∃ n k ws', Rd ws n k ws' := by
  cases a : isNm (hdW ws) with
  | false => exact ⟨_, _, _, .none a⟩
  | true =>
    by_cases b : hdW ws.tail = sIs
    · cases c : isNm (hdW ws.tail.tail) with
      | false => exact ⟨_, _, _, .bad a b c⟩
      | true => exact ⟨_, _, _, .two a b c⟩
    · exact ⟨_, _, _, .one a b⟩
theorem rd_voc {ws : List Str} (hV : ∀ x ∈ ws, x ∈ vocL) {n k : Str} {ws' : List Str} (h : Rd ws n k ws') : ∀ x ∈ ws', x ∈ vocL := by
  cases h with
  | none => exact tail_voc hV
  | one => exact tail_voc (tail_voc hV)
  | two => exact tail_voc (tail_voc (tail_voc (tail_voc hV)))
  | bad => exact tail_voc (tail_voc (tail_voc hV))
theorem rd_len {ws : List Str} {n k : Str} {ws' : List Str} (h : Rd ws n k ws') (hn : n ≠ sNone) : ws'.length < ws.length := by
  have pos : ∀ {a : List Str}, isNm (hdW a) = true → 0 < a.length := by
    intro a h
    cases a with
    | nil => rw [show hdW [] = sBegin from rfl, nm_begin] at h; cases h
    | cons => exact Nat.succ_pos _
  cases h with
  | none => exact absurd rfl hn
  | one a => have := pos a; simp only [List.length_tail]; omega
  | two a => have := pos a; simp only [List.length_tail]; omega
  | bad => exact absurd rfl hn
theorem rd_imps {ws : List Str} (hV : ∀ x ∈ ws, x ∈ vocL) {n k : Str} {ws' : List Str} (h : Rd ws n k ws') {names res : List Str} (go : k = sComma → n ≠ sNone → Imps (toks ws') (addN names n) res) (stop : ¬ (k = sComma ∧ n ≠ sNone) → res = addN names n) : Imps (toks ws) names res := by
  obtain ⟨ts, ⟨t, r, e, h1⟩, h2⟩ := rd_imp hV h
  rw [e]
  refine .mk (k := (tokOf k).1) (v := (tokOf k).2) h1 (fun a b => ?_) (fun a => stop fun b => a ⟨(tokOf_kind nm_comma ne_comma).mpr b.1, b.2⟩)
  have a := (tokOf_kind nm_comma ne_comma).mp a
  rw [h2 (by rw [a]; exact bg_comma.symm)]
  exact go a b
theorem imps_rd {ws : List Str} (hV : ∀ x ∈ ws, x ∈ vocL) {n k : Str} {ws' : List Str} (h : Rd ws n k ws') {names res : List Str} (hI : Imps (toks ws) names res) : (k = sComma → n ≠ sNone → Imps (toks ws') (addN names n) res) ∧ (¬ (k = sComma ∧ n ≠ sNone) → res = addN names n) := by
  obtain ⟨ts, ⟨t, r, e, h1⟩, h2⟩ := rd_imp hV h
  rw [e] at hI
  cases hI with
  | mk a b c =>
    rw [h1] at a
    injection a with a
    injection a with a1 a2
    injection a2 with a2 a3
    have ek := congrArg Prod.fst a2
    dsimp only at ek
    subst a1 a3
    rw [← ek] at b c
    refine ⟨fun p q => ?_, fun p => c fun q => p ⟨(tokOf_kind nm_comma ne_comma).mp q.1, q.2⟩⟩
    rw [← h2 (by rw [p]; exact bg_comma.symm)]
    exact b ((tokOf_kind nm_comma ne_comma).mpr p) q
theorem imps_ex : ∀ (n : Nat) (ws : List Str), (∀ x ∈ ws, x ∈ vocL) → ws.length ≤ n → ∀ names, ∃ res, Imps (toks ws) names res := by
  intro n
  induction n with
  | zero =>
    intro ws hV hl names
    obtain ⟨m, k, ws', h⟩ := rd_ex ws
    by_cases c : k = sComma ∧ m ≠ sNone
    · have := rd_len h c.2
      omega
    · exact ⟨_, rd_imps hV h (fun a b => absurd ⟨a, b⟩ c) fun _ => rfl⟩
  | succ n ih =>
    intro ws hV hl names
    obtain ⟨m, k, ws', h⟩ := rd_ex ws
    by_cases c : k = sComma ∧ m ≠ sNone
    · have := rd_len h c.2
      obtain ⟨res, hr⟩ := ih ws' (rd_voc hV h) (by omega) (addN names m)
      exact ⟨res, rd_imps hV h (fun _ _ => hr) fun d => absurd c d⟩
    · exact ⟨_, rd_imps hV h (fun a b => absurd ⟨a, b⟩ c) fun _ => rfl⟩
theorem a0_ex {ws : List Str} (hV : ∀ x ∈ ws, x ∈ vocL) : ∃ name res, A0 (toks ws) name res := by
  have v2 := hdW_voc (tail_voc hV)
  by_cases c1 : hdW ws = sModule
  · have e1 := toks_next (ws := ws) (by rw [c1]; exact bg_module.symm)
    cases c2 : isNm (hdW ws.tail) with
    | true =>
      have e2 := toks_next (ws := ws.tail) (nmBegin c2)
      by_cases c3 : hdW ws.tail.tail = sSemi
      · have e3 := toks_next (ws := ws.tail.tail) (by rw [c3]; exact bg_semi.symm)
        by_cases c4 : hdW ws.tail.tail.tail = sImport
        · have e4 := toks_next (ws := ws.tail.tail.tail) (by rw [c4]; exact bg_import.symm)
          obtain ⟨res, hr⟩ := imps_ex _ ws.tail.tail.tail.tail (tail_voc (tail_voc (tail_voc (tail_voc hV)))) (Nat.le_refl _) []
          refine ⟨hdW ws.tail, res, ⟨_, _, e1, ⟨fun _ => ⟨_, _, e2, ⟨fun _ => ⟨_, _, e3, ⟨fun _ => ⟨_, _, e4, ⟨fun _ => ⟨?_, hr⟩, fun h => absurd ((tokOf_kind nm_import ne_import).mpr c4) h⟩⟩, fun h => absurd ((tokOf_kind nm_semi ne_semi).mpr c3) h⟩⟩, fun h => absurd ((tokOf_ident v2).mpr c2) h⟩⟩, fun h => absurd ((tokOf_kind nm_module ne_module).mpr c1) h⟩⟩⟩
          rw [tokOf_nm c2]
        · have e4 := toks_cons ws.tail.tail.tail
          refine ⟨hdW ws.tail, [], ⟨_, _, e1, ⟨fun _ => ⟨_, _, e2, ⟨fun _ => ⟨_, _, e3, ⟨fun _ => ⟨_, _, e4, ⟨fun h => absurd ((tokOf_kind nm_import ne_import).mp h) c4, fun _ => ⟨?_, rfl⟩⟩⟩, fun h => absurd ((tokOf_kind nm_semi ne_semi).mpr c3) h⟩⟩, fun h => absurd ((tokOf_ident v2).mpr c2) h⟩⟩, fun h => absurd ((tokOf_kind nm_module ne_module).mpr c1) h⟩⟩⟩
          rw [tokOf_nm c2]
      · have e3 := toks_cons ws.tail.tail
        refine ⟨hdW ws.tail, [], ⟨_, _, e1, ⟨fun _ => ⟨_, _, e2, ⟨fun _ => ⟨_, _, e3, ⟨fun h => absurd ((tokOf_kind nm_semi ne_semi).mp h) c3, fun _ => ⟨?_, rfl⟩⟩⟩, fun h => absurd ((tokOf_ident v2).mpr c2) h⟩⟩, fun h => absurd ((tokOf_kind nm_module ne_module).mpr c1) h⟩⟩⟩
        rw [tokOf_nm c2]
    | false =>
      have e2 := toks_cons ws.tail
      exact ⟨sNone, [], ⟨_, _, e1, ⟨fun _ => ⟨_, _, e2, ⟨fun h => (by rw [tokOf_ident v2, c2] at h; cases h), fun _ => ⟨rfl, rfl⟩⟩⟩, fun h => absurd ((tokOf_kind nm_module ne_module).mpr c1) h⟩⟩⟩
  · exact ⟨sNone, [], ⟨_, _, toks_cons ws, ⟨fun h => absurd ((tokOf_kind nm_module ne_module).mp h) c1, fun _ => ⟨rfl, rfl⟩⟩⟩⟩
end
section
open PySem PyProof.Rows PySem.Spec PySem.Builtin PySem.Builtin.Str
theorem strm_skp {r r' : List Nat} {ts : TS} (h : ∀ r1, Skp r r1 → Skp r' r1) (hS : Strm r ts) : Strm r' ts := by
  cases hS with
  | nil => exact .nil
  | cons a b c => exact .cons (h _ a) b c
theorem skp_white1 {c : Nat} {r r1 : List Nat} (h : c ≤ 32) (hS : Skp r r1) : Skp (c :: r) r1 := .white h hS
theorem gap_1 : (Str.ofString " ").cps.toList = [32] := by decide +kernel
theorem gap_2 : (Str.ofString "\n").cps.toList = [10] := by decide +kernel
theorem gap_3 : (Str.ofString " (* a; (* b *) IMPORT C; *) ").cps.toList = [32, 40, 42, 32, 97, 59, 32, 40, 42, 32, 98, 32, 42, 41, 32, 73, 77, 80, 79, 82, 84, 32, 67, 59, 32, 42, 41, 32] := by decide +kernel
theorem gap_4 : (Str.ofString "  ").cps.toList = [32, 32] := by decide +kernel
theorem rem_gap (r : List Nat) : Rem 1 ([32, 97, 59, 32, 40, 42, 32, 98, 32, 42, 41, 32, 73, 77, 80, 79, 82, 84, 32, 67, 59, 32, 42, 41, 32] ++ r) (32 :: r) := by
  simp only [List.cons_append, List.nil_append]
  repeat (first | exact Rem.done _ | (refine Rem.opn (by decide) ?_) | (refine Rem.cls (by decide) ?_) | (refine Rem.oth (by decide) (by decide) (by decide) ?_))
theorem strm_gap {g : Str} (hg : g ∈ gapL) {r : List Nat} {ts : TS} (hS : Strm r ts) : Strm (g.cps.toList ++ r) ts := by
  simp only [gapL, List.mem_cons, List.not_mem_nil, or_false] at hg
  refine strm_skp (fun r1 h => ?_) hS
  rcases hg with rfl | rfl | rfl | rfl
  · rw [gap_1]
    exact .white (by decide) h
  · rw [gap_2]
    exact .white (by decide) h
  · rw [gap_3]
    refine .white (by decide) (.rem (rem_gap r) (.white (by decide) h))
  · rw [gap_4]
    exact .white (by decide) (.white (by decide) h)
theorem gap_head {g : Str} (hg : g ∈ gapL) : ∃ h r, g.cps.toList = h :: r ∧ (h = 32 ∨ h = 10) := by
  simp only [gapL, List.mem_cons, List.not_mem_nil, or_false] at hg
  rcases hg with rfl | rfl | rfl | rfl
  · exact ⟨_, _, gap_1, .inl rfl⟩
  · exact ⟨_, _, gap_2, .inr rfl⟩
  · exact ⟨_, _, gap_3, .inl rfl⟩
  · exact ⟨_, _, gap_4, .inl rfl⟩
def wordOK (x : Str) : Bool := match x.cps.toList with
  | [] => false
  | c :: a => decide (32 < c) && !(c == 40 && a.headD 0 == 42) && ((letN c && a.all alN && kindOf (stx (c :: a)) == (tokOf x).1 && valOf (stx (c :: a)) == (tokOf x).2) ||
      (!letN c && !digN c && c != 34 && [32, 10].all (fun h => symOf (stx [c]) (stx ((a ++ [h]).take 1)) == x) && x != sNone && tokOf x == (x, sNone)))
theorem words_ok : ∀ x ∈ vocB, wordOK x = true := by decide +kernel
theorem take1 {a : List Nat} {h : Nat} {r : List Nat} : (a ++ h :: r).take 1 = (a ++ [h]).take 1 := by
  cases a <;> rfl
theorem alN_gap {h : Nat} (hh : h = 32 ∨ h = 10) : alN h = false := by
  rcases hh with rfl | rfl <;> decide
theorem strm_word {x : Str} (hx : x ∈ vocB) {h : Nat} {r : List Nat} (hh : h = 32 ∨ h = 10) {ts : TS} (hS : Strm (h :: r) ts) : Strm (x.cps.toList ++ h :: r) (tokOf x :: ts) := by
  have ok := words_ok x hx
  unfold wordOK at ok
  cases e : x.cps.toList with
  | nil => rw [e] at ok; cases ok
  | cons c a =>
    rw [e] at ok
    simp only [Bool.and_eq_true, Bool.or_eq_true, decide_eq_true_eq, Bool.not_eq_true', beq_iff_eq, bne_iff_ne, ne_eq] at ok
    obtain ⟨⟨o1, o2⟩, o3⟩ := ok
    have hk : Skp (c :: a ++ h :: r) (c :: a ++ h :: r) := by
      refine .stop o1 fun ⟨q1, q2⟩ => ?_
      cases a with
      | nil =>
        have q2 : some h = some 42 := q2
        injection q2 with q2
        omega
      | cons b a =>
        have q2 : some b = some 42 := q2
        injection q2 with q2
        rw [q1, q2] at o2
        simp at o2
    rcases o3 with ⟨⟨⟨l1, l2⟩, l3⟩, l4⟩ | ⟨⟨⟨⟨⟨l1, l2⟩, l3⟩, l4⟩, l5⟩, l6⟩
    · have e2 : tokOf x = (kindOf (stx (c :: a)), valOf (stx (c :: a))) := by rw [l3, l4]
      rw [e2]
      refine .cons hk (.word l1 (fun d hd => List.all_eq_true.mp l2 d hd) ?_) hS
      intro d hd
      simp only [List.head?_cons] at hd
      injection hd with hd
      rw [← hd]
      exact alN_gap hh
    · rw [l6]
      have ey : symOf (stx [c]) (stx ((a ++ h :: r).take 1)) = x := by
        rw [take1]
        have := List.all_eq_true.mp l4 h (by rcases hh with rfl | rfl <;> simp)
        exact beq_iff_eq.mp this
      have ht := Tk.sym (c := c) (r := a ++ h :: r) l1 l2 l3 ey l5
      have el : x.length = (c :: a).length := by
        rw [← e]
        simp [Str.length]
      have ed : (c :: (a ++ h :: r)).drop x.length = h :: r := by
        rw [el]
        exact List.drop_left (l₁ := c :: a)
      rw [ed] at ht
      exact .cons hk ht hS
/-- the words with their gaps, as code points -/
def srcN : List (Str × Str) → List Nat
  | [] => []
  | p :: r => p.1.cps.toList ++ (p.2.cps.toList ++ srcN r)
abbrev sTail : Str := Str.ofString "BEGIN x := 1 END M."
theorem tail_is : sTail.cps.toList = sBegin.cps.toList ++ 32 :: [120, 32, 58, 61, 32, 49, 32, 69, 78, 68, 32, 77, 46] := by decide +kernel
theorem strm_src : ∀ {l : List (Str × Str)}, (∀ p ∈ l, p.1 ∈ vocL ∧ p.2 ∈ gapL) → Strm (srcN l ++ sTail.cps.toList) (toks (l.map Prod.fst))
  | [], _ => by
    rw [tail_is]
    have := strm_word (x := sBegin) (.head _) (h := 32) (r := [120, 32, 58, 61, 32, 49, 32, 69, 78, 68, 32, 77, 46]) (.inl rfl) (ts := []) .nil
    rw [tokOf_begin] at this
    exact this
  | p :: l, hp => by
    have ih := strm_src (l := l) fun q hq => hp q (.tail _ hq)
    have h1 := hp p (.head _)
    have h2 := strm_gap h1.2 ih
    obtain ⟨h, g, e, hh⟩ := gap_head h1.2
    rw [e] at h2
    have h3 := strm_word (List.mem_cons_of_mem _ h1.1) hh h2
    show Strm ((p.1.cps.toList ++ (p.2.cps.toList ++ srcN l)) ++ sTail.cps.toList) (tokOf p.1 :: toks (l.map Prod.fst))
    rw [List.append_assoc, List.append_assoc, e]
    exact h3
end
section
open PySem PyProof.Rows PySem.Spec PySem.Builtin PySem.Builtin.Str
abbrev four : List Str := [sBegin, sBegin, sBegin, sBegin]
def getS (zs : List Str) (i : Int) : Str := zs.getD i.toNat sNone
section
variable {ws : List Str}
theorem getS_hd {i : Int} (h0 : 0 ≤ i) (h1 : i < ws.length + 4) : getS (ws ++ four) i = hdW (ws.drop i.toNat) := by
  have hi : i.toNat < ws.length + 4 := by omega
  unfold getS hdW
  rw [List.getD_eq_getElem?_getD]
  by_cases h : i.toNat < ws.length
  · rw [List.getElem?_append_left h, List.getElem?_eq_getElem h, List.drop_eq_getElem_cons h]
    rfl
  · rw [List.getElem?_append_right (by omega), List.drop_eq_nil_of_le (by omega)]
    have : i.toNat - ws.length < 4 := by omega
    generalize i.toNat - ws.length = j at this
    match j, this with
    | 0, _ => rfl
    | 1, _ => rfl
    | 2, _ => rfl
    | 3, _ => rfl
    | j + 4, h => omega
theorem drop_voc (hV : ∀ x ∈ ws, x ∈ vocL) (n : Nat) : ∀ x ∈ ws.drop n, x ∈ vocL := fun x hx => hV x (List.mem_of_mem_drop hx)
theorem getS_voc (hV : ∀ x ∈ ws, x ∈ vocL) {i : Int} (h0 : 0 ≤ i) (h1 : i < ws.length + 4) : getS (ws ++ four) i ∈ vocB := by
  rw [getS_hd h0 h1]
  exact hdW_voc (drop_voc hV _)
theorem lt_of_ne {n : Nat} (h : hdW (ws.drop n) ≠ sBegin) : n < ws.length := by
  by_cases q : n < ws.length
  · exact q
  · rw [List.drop_eq_nil_of_le (by omega)] at h
    exact absurd rfl h
variable {name : Str} {res : List Str}
theorem toks_drop {n : Nat} (h : hdW (ws.drop n) ≠ sBegin) : toks (ws.drop n) = tokOf (hdW (ws.drop n)) :: toks (ws.drop (n + 1)) := by
  have := toks_next h
  rwa [List.tail_drop] at this
theorem due_m (hA : A0 (toks ws) name res) (c : (getS (ws ++ four) 0 != sModule) = true) : name = sNone ∧ res = [] := by
  have e := getS_hd (ws := ws) (i := 0) (by decide) (by omega)
  rw [e] at c
  have c : hdW (ws.drop 0) ≠ sModule := by simpa using c
  obtain ⟨t, ts, e1, hA⟩ := hA.out
  rw [toks_cons ws] at e1
  injection e1 with e1 e2
  refine hA.no fun h => c ?_
  rw [← e1] at h
  exact (tokOf_kind nm_module ne_module).mp h
theorem due_1 (hA : A0 (toks ws) name res) (c : (getS (ws ++ four) 0 != sModule) = false) : A1 (tokOf (hdW (ws.drop 0))) (toks (ws.drop 1)) name res ∧ hdW (ws.drop 0) = sModule := by
  have e := getS_hd (ws := ws) (i := 0) (by decide) (by omega)
  rw [e] at c
  have c : hdW (ws.drop 0) = sModule := by simpa using c
  obtain ⟨t, ts, e1, hA⟩ := hA.out
  have := toks_drop (ws := ws) (n := 0) (by rw [c]; exact bg_module.symm)
  rw [List.drop_zero] at this
  rw [this] at e1
  injection e1 with e1 e2
  rw [← e1, ← e2] at hA
  exact ⟨hA, c⟩
theorem due_2 (hV : ∀ x ∈ ws, x ∈ vocL) (hA : A0 (toks ws) name res) (c : (getS (ws ++ four) 0 != sModule) = false) : ∃ ts, A2 (tokOf (hdW (ws.drop 1))) ts name res ∧ (hdW (ws.drop 1) ≠ sBegin → ts = toks (ws.drop 2)) := by
  obtain ⟨h1, e⟩ := due_1 hA c
  obtain ⟨t, ts, e1, hA⟩ := h1.yes (by rw [e]; exact (tokOf_kind nm_module ne_module).mpr rfl)
  rw [toks_cons (ws.drop 1)] at e1
  injection e1 with e1 e2
  rw [← e1] at hA
  refine ⟨ts, hA, fun h => ?_⟩
  have := toks_drop h
  rw [toks_cons] at this
  injection this with _ e3
  rw [← e2, e3]
theorem due_n (hV : ∀ x ∈ ws, x ∈ vocL) (hA : A0 (toks ws) name res) (c : (getS (ws ++ four) 0 != sModule) = false) (c1 : isNm (getS (ws ++ four) 1) = false) : name = sNone ∧ res = [] := by
  have e := getS_hd (ws := ws) (i := 1) (by decide) (by omega)
  rw [e] at c1
  obtain ⟨ts, hA, _⟩ := due_2 hV hA c
  refine hA.no fun h => ?_
  rw [tokOf_ident (hdW_voc (drop_voc hV _))] at h
  rw [show (1 : Int).toNat = 1 from rfl, h] at c1
  cases c1
theorem due_3 (hV : ∀ x ∈ ws, x ∈ vocL) (hA : A0 (toks ws) name res) (c : (getS (ws ++ four) 0 != sModule) = false) (c1 : isNm (getS (ws ++ four) 1) = true) : ∃ ts, A3 (tokOf (hdW (ws.drop 2))) ts (getS (ws ++ four) 1) name res ∧ (hdW (ws.drop 2) ≠ sBegin → ts = toks (ws.drop 3)) := by
  have e := getS_hd (ws := ws) (i := 1) (by decide) (by omega)
  rw [e] at c1 ⊢
  obtain ⟨ts, hA, h2⟩ := due_2 hV hA c
  have h2 := h2 (nmBegin c1)
  obtain ⟨t, ts', e1, hA⟩ := hA.yes ((tokOf_ident (hdW_voc (drop_voc hV _))).mpr c1)
  rw [h2, toks_cons (ws.drop 2)] at e1
  injection e1 with e1 e2
  rw [show tokOf (hdW (List.drop 1 ws)) = (sIdent, hdW (List.drop 1 ws)) from tokOf_nm c1, ← e1] at hA
  refine ⟨ts', hA, fun h => ?_⟩
  have := toks_drop h
  rw [toks_cons] at this
  injection this with _ e3
  rw [← e2, e3]
theorem due_s (hV : ∀ x ∈ ws, x ∈ vocL) (hA : A0 (toks ws) name res) (c : (getS (ws ++ four) 0 != sModule) = false) (c1 : isNm (getS (ws ++ four) 1) = true) (c2 : (getS (ws ++ four) 2 == sSemi) = false) : name = getS (ws ++ four) 1 ∧ res = [] := by
  have e := getS_hd (ws := ws) (i := 2) (by decide) (by omega)
  rw [e] at c2
  have c2 : hdW (ws.drop 2) ≠ sSemi := by simpa using c2
  obtain ⟨ts, hA, _⟩ := due_3 hV hA c c1
  exact hA.no fun h => c2 ((tokOf_kind nm_semi ne_semi).mp h)
theorem due_4 (hV : ∀ x ∈ ws, x ∈ vocL) (hA : A0 (toks ws) name res) (c : (getS (ws ++ four) 0 != sModule) = false) (c1 : isNm (getS (ws ++ four) 1) = true) (c2 : (getS (ws ++ four) 2 == sSemi) = true) : ∃ ts, A4 (tokOf (hdW (ws.drop 3))) ts (getS (ws ++ four) 1) name res ∧ (hdW (ws.drop 3) ≠ sBegin → ts = toks (ws.drop 4)) := by
  have e := getS_hd (ws := ws) (i := 2) (by decide) (by omega)
  rw [e] at c2
  have c2 : hdW (ws.drop 2) = sSemi := by simpa using c2
  obtain ⟨ts, hA, h2⟩ := due_3 hV hA c c1
  have h2 := h2 (by rw [c2]; exact bg_semi.symm)
  obtain ⟨t, ts', e1, hA⟩ := hA.yes ((tokOf_kind nm_semi ne_semi).mpr c2)
  rw [h2, toks_cons (ws.drop 3)] at e1
  injection e1 with e1 e2
  rw [← e1] at hA
  refine ⟨ts', hA, fun h => ?_⟩
  have := toks_drop h
  rw [toks_cons] at this
  injection this with _ e3
  rw [← e2, e3]
theorem due_i (hV : ∀ x ∈ ws, x ∈ vocL) (hA : A0 (toks ws) name res) (c : (getS (ws ++ four) 0 != sModule) = false) (c1 : isNm (getS (ws ++ four) 1) = true) (c2 : (getS (ws ++ four) 2 == sSemi) = true) (c3 : (getS (ws ++ four) 3 == sImport) = false) : name = getS (ws ++ four) 1 ∧ res = [] := by
  have e := getS_hd (ws := ws) (i := 3) (by decide) (by omega)
  rw [e] at c3
  have c3 : hdW (ws.drop 3) ≠ sImport := by simpa using c3
  obtain ⟨ts, hA, _⟩ := due_4 hV hA c c1 c2
  exact hA.no fun h => c3 ((tokOf_kind nm_import ne_import).mp h)
theorem due_5 (hV : ∀ x ∈ ws, x ∈ vocL) (hA : A0 (toks ws) name res) (c : (getS (ws ++ four) 0 != sModule) = false) (c1 : isNm (getS (ws ++ four) 1) = true) (c2 : (getS (ws ++ four) 2 == sSemi) = true) (c3 : (getS (ws ++ four) 3 == sImport) = true) : name = getS (ws ++ four) 1 ∧ 4 ≤ ws.length ∧ Imps (toks (ws.drop 4)) [] res := by
  have e := getS_hd (ws := ws) (i := 3) (by decide) (by omega)
  rw [e] at c3
  have c3 : hdW (ws.drop 3) = sImport := by simpa using c3
  obtain ⟨ts, hA, h2⟩ := due_4 hV hA c c1 c2
  have hb : hdW (ws.drop 3) ≠ sBegin := by rw [c3]; exact bg_import.symm
  obtain ⟨q1, q2⟩ := hA.yes ((tokOf_kind nm_import ne_import).mpr c3)
  rw [h2 hb] at q2
  exact ⟨q1, lt_of_ne hb, q2⟩
theorem due_name (hV : ∀ x ∈ ws, x ∈ vocL) (hA : A0 (toks ws) name res) (c : (getS (ws ++ four) 0 != sModule) = false) (c1 : isNm (getS (ws ++ four) 1) = true) : name = getS (ws ++ four) 1 := by
  cases c2 : (getS (ws ++ four) 2 == sSemi) with
  | false => exact (due_s hV hA c c1 c2).1
  | true =>
    cases c3 : (getS (ws ++ four) 3 == sImport) with
    | false => exact (due_i hV hA c c1 c2 c3).1
    | true => exact (due_5 hV hA c c1 c2 c3).1
structure DueSt (ws res : List Str) (spot : Int) (found : List Str) : Prop where
  go : 0 < spot → (found.length : Int) ≤ spot ∧ Imps (toks (ws.drop spot.toNat)) found res
  stop : ¬ 0 < spot → found = res
theorem due_st4 (hV : ∀ x ∈ ws, x ∈ vocL) (hA : A0 (toks ws) name res) (c : (getS (ws ++ four) 0 != sModule) = false) (c1 : isNm (getS (ws ++ four) 1) = true) (c2 : (getS (ws ++ four) 2 == sSemi) = true) (c3 : (getS (ws ++ four) 3 == sImport) = true) : (4 : Int) ≤ ws.length ∧ DueSt ws res 4 [] := by
  obtain ⟨_, h1, h2⟩ := due_5 hV hA c c1 c2 c3
  exact ⟨by omega, fun _ => ⟨by simp, h2⟩, fun h => absurd (by decide) h⟩
theorem due_st0s (hV : ∀ x ∈ ws, x ∈ vocL) (hA : A0 (toks ws) name res) (c : (getS (ws ++ four) 0 != sModule) = false) (c1 : isNm (getS (ws ++ four) 1) = true) (c2 : (getS (ws ++ four) 2 == sSemi) = false) : DueSt ws res 0 [] :=
  ⟨fun h => absurd h (by decide), fun _ => (due_s hV hA c c1 c2).2.symm⟩
theorem due_st0i (hV : ∀ x ∈ ws, x ∈ vocL) (hA : A0 (toks ws) name res) (c : (getS (ws ++ four) 0 != sModule) = false) (c1 : isNm (getS (ws ++ four) 1) = true) (c2 : (getS (ws ++ four) 2 == sSemi) = true) (c3 : (getS (ws ++ four) 3 == sImport) = false) : DueSt ws res 0 [] :=
  ⟨fun h => absurd h (by decide), fun _ => (due_i hV hA c c1 c2 c3).2.symm⟩
variable {spot : Int} {found : List Str}
/-- the middle of a turn: the place is at the module's own name -/
structure Mid (ws res : List Str) (sp : Int) (found : List Str) : Prop where
  len : (found.length : Int) ≤ sp
  yes : isNm (getS (ws ++ four) sp) = true → (getS (ws ++ four) (sp + 1) = sComma → sp + 2 ≤ ws.length ∧ Imps (toks (ws.drop (sp + 2).toNat)) (addN found (getS (ws ++ four) sp)) res) ∧ (getS (ws ++ four) (sp + 1) ≠ sComma → res = addN found (getS (ws ++ four) sp))
  no : isNm (getS (ws ++ four) sp) = false → res = found
theorem mid_1 (hV : ∀ x ∈ ws, x ∈ vocL) (hD : DueSt ws res spot found) (h0 : 0 < spot) (hl : spot ≤ ws.length) (c : isNm (getS (ws ++ four) spot) = true) (c1 : (getS (ws ++ four) (spot + 1) == sIs) = false) : Mid ws res spot found := by
  obtain ⟨g1, g2⟩ := hD.go h0
  have e := getS_hd (ws := ws) (i := spot) (by omega) (by omega)
  have e1 := getS_hd (ws := ws) (i := spot + 1) (by omega) (by omega)
  have t1 : (spot + 1).toNat = spot.toNat + 1 := by omega
  have t2 : (spot + 2).toNat = spot.toNat + 1 + 1 := by omega
  rw [t1] at e1
  rw [e1] at c1
  rw [e] at c
  have c1 : hdW (ws.drop (spot.toNat + 1)) ≠ sIs := by simpa using c1
  have hr := Rd.one (ws := ws.drop spot.toNat) c (by rw [List.tail_drop]; exact c1)
  have hi := imps_rd (drop_voc hV _) hr g2
  rw [List.tail_drop, List.tail_drop] at hi
  refine ⟨g1, fun _ => ?_, fun h => ?_⟩
  · rw [e, e1, t2]
    refine ⟨fun k => ⟨?_, hi.1 k (isNm_ne c)⟩, fun k => hi.2 fun q => k q.1⟩
    have := lt_of_ne (n := spot.toNat + 1) (by rw [k]; exact bg_comma.symm)
    omega
  · rw [e, c] at h
    cases h
theorem mid_2 (hV : ∀ x ∈ ws, x ∈ vocL) (hD : DueSt ws res spot found) (h0 : 0 < spot) (hl : spot ≤ ws.length) (c : isNm (getS (ws ++ four) spot) = true) (c1 : (getS (ws ++ four) (spot + 1) == sIs) = true) : spot + 2 ≤ ws.length ∧ Mid ws res (spot + 2) found := by
  obtain ⟨g1, g2⟩ := hD.go h0
  have e := getS_hd (ws := ws) (i := spot) (by omega) (by omega)
  have e1 := getS_hd (ws := ws) (i := spot + 1) (by omega) (by omega)
  have e2 := getS_hd (ws := ws) (i := spot + 2) (by omega) (by omega)
  have t1 : (spot + 1).toNat = spot.toNat + 1 := by omega
  have t2 : (spot + 2).toNat = spot.toNat + 1 + 1 := by omega
  have t3 : (spot + 2 + 1).toNat = spot.toNat + 1 + 1 + 1 := by omega
  have t4 : (spot + 2 + 2).toNat = spot.toNat + 1 + 1 + 1 + 1 := by omega
  rw [t1] at e1
  rw [e1] at c1
  rw [t2] at e2
  rw [e] at c
  have c1 : hdW (ws.drop (spot.toNat + 1)) = sIs := by simpa using c1
  have hl1 := lt_of_ne (n := spot.toNat + 1) (by rw [c1]; exact bg_is.symm)
  have e3 := getS_hd (ws := ws) (i := spot + 2 + 1) (by omega) (by omega)
  rw [t3] at e3
  refine ⟨by omega, ⟨by omega, fun h => ?_, fun h => ?_⟩⟩
  · rw [e2] at h
    have hr := Rd.two (ws := ws.drop spot.toNat) c (by rw [List.tail_drop]; exact c1) (by rw [List.tail_drop, List.tail_drop]; exact h)
    have hi := imps_rd (drop_voc hV _) hr g2
    rw [List.tail_drop, List.tail_drop, List.tail_drop, List.tail_drop] at hi
    rw [e2, e3, t4]
    refine ⟨fun k => ⟨?_, hi.1 k (isNm_ne h)⟩, fun k => hi.2 fun q => k q.1⟩
    have := lt_of_ne (n := spot.toNat + 1 + 1 + 1) (by rw [k]; exact bg_comma.symm)
    omega
  · rw [e2] at h
    have hr := Rd.bad (ws := ws.drop spot.toNat) c (by rw [List.tail_drop]; exact c1) (by rw [List.tail_drop, List.tail_drop]; exact h)
    have hi := imps_rd (drop_voc hV _) hr g2
    have := hi.2 fun q => q.2 rfl
    rw [this, addN, if_neg fun q => q.1 rfl]
variable {sp : Int} {f' : List Str}
theorem end_a (hM : Mid ws res sp found) (c : isNm (getS (ws ++ four) sp) = true) (hf : f' = addN found (getS (ws ++ four) sp)) (c1 : (getS (ws ++ four) (sp + 1) == sComma) = true) (h0 : 0 ≤ sp) : sp + 2 ≤ ws.length ∧ DueSt ws res (sp + 2) f' := by
  have c1 : getS (ws ++ four) (sp + 1) = sComma := by simpa using c1
  obtain ⟨a, b⟩ := (hM.yes c).1 c1
  rw [hf]
  refine ⟨a, fun _ => ⟨?_, b⟩, fun h => absurd (by omega) h⟩
  have := addN_len found (getS (ws ++ four) sp)
  have := hM.len
  omega
theorem end_b (hM : Mid ws res sp found) (c : isNm (getS (ws ++ four) sp) = true) (hf : f' = addN found (getS (ws ++ four) sp)) (c1 : (getS (ws ++ four) (sp + 1) == sComma) = false) : DueSt ws res 0 f' := by
  have c1 : getS (ws ++ four) (sp + 1) ≠ sComma := by simpa using c1
  refine ⟨fun h => absurd h (by decide), fun _ => ?_⟩
  rw [hf, (hM.yes c).2 c1]
theorem end_c (hM : Mid ws res sp found) (c : isNm (getS (ws ++ four) sp) = false) : DueSt ws res 0 found :=
  ⟨fun h => absurd h (by decide), fun _ => (hM.no c).symm⟩
theorem due_end (hD : DueSt ws res spot found) (h : ¬ 0 < spot) : found = res := hD.stop h
theorem due_end2 (hV : ∀ x ∈ ws, x ∈ vocL) (hD : DueSt ws res spot found) (h0 : 0 < spot) (hl : spot ≤ ws.length) (c : isNm (getS (ws ++ four) spot) = false) : found = res := by
  obtain ⟨g1, g2⟩ := hD.go h0
  have e := getS_hd (ws := ws) (i := spot) (by omega) (by omega)
  rw [e] at c
  have hi := imps_rd (drop_voc hV _) (Rd.none (ws := ws.drop spot.toNat) c) g2
  have := hi.2 fun q => q.2 rfl
  rw [this, addN, if_neg fun q => q.1 rfl]
end
def InB (zs : List Str) (k : Int) : Prop := 0 ≤ k ∧ k < zs.length ∧ k < 2 ^ 63
theorem ixL {ws : List Str} {k : Int} (h0 : 0 ≤ k) (h1 : k < 4) : InB (ws ++ four) k := by
  refine ⟨h0, ?_, by omega⟩
  rw [List.length_append]
  show k < ((ws.length + 4 : Nat) : Int)
  omega
theorem ix0 {ws : List Str} {k : Int} (hl : ws.length ≤ 1000) (h0 : 0 ≤ k) (h1 : k ≤ ws.length) : InB (ws ++ four) k := by
  refine ⟨h0, ?_, by omega⟩
  rw [List.length_append]
  show k < ((ws.length + 4 : Nat) : Int)
  omega
theorem ix1 {ws : List Str} {k : Int} (hl : ws.length ≤ 1000) (h0 : 0 ≤ k) (h1 : k ≤ ws.length) : InB (ws ++ four) (k + 1) := by
  refine ⟨by omega, ?_, by omega⟩
  rw [List.length_append]
  show k + 1 < ((ws.length + 4 : Nat) : Int)
  omega
theorem ix2 {ws : List Str} {k : Int} (hl : ws.length ≤ 1000) (h0 : 0 ≤ k) (h1 : k ≤ ws.length) : InB (ws ++ four) (k + 2) := by
  refine ⟨by omega, ?_, by omega⟩
  rw [List.length_append]
  show k + 2 < ((ws.length + 4 : Nat) : Int)
  omega
theorem ix3 {ws : List Str} {k : Int} (hl : ws.length ≤ 1000) (h0 : 0 ≤ k) (h1 : k ≤ ws.length) : InB (ws ++ four) (k + 2 + 1) := by
  refine ⟨by omega, ?_, by omega⟩
  rw [List.length_append]
  show k + 2 + 1 < ((ws.length + 4 : Nat) : Int)
  omega
theorem ix_voc {ws : List Str} {k : Int} (hV : ∀ x ∈ ws, x ∈ vocL) (h : InB (ws ++ four) k) : getS (ws ++ four) k ∈ vocB := by
  obtain ⟨a, b, c⟩ := h
  rw [List.length_append] at b
  have b : k < ((ws.length + 4 : Nat) : Int) := b
  exact getS_voc hV a (by omega)
theorem found_len {ws res found : List Str} {sp : Int} (hl : ws.length ≤ 1000) (hD : DueSt ws res sp found) (h0 : 0 < sp) (h1 : sp ≤ ws.length) : found.length ≤ 10000 := by
  have := (hD.go h0).1
  omega
theorem ws_len {ws : List Str} (hl : ws.length ≤ 1000) : ws.length ≤ 10000 := by omega
def dMu (n : Nat) (sp : Int) : Nat := if 0 < sp then (n + 10 - sp).toNat else 0
theorem dMu_0 {n : Nat} {sp : Int} (h0 : 0 < sp) (hl : sp ≤ n) : dMu n 0 < dMu n sp := by
  unfold dMu
  rw [if_pos h0, if_neg (by decide)]
  omega
theorem dMu_up {n : Nat} {sp sp' : Int} (h0 : 0 < sp) (hl : sp ≤ n) (h : sp < sp') (hl' : sp' ≤ n) : dMu n sp' < dMu n sp := by
  unfold dMu
  rw [if_pos h0, if_pos (by omega)]
  omega
section
variable {ws res : List Str} {sp : Int} {found f' : List Str}
theorem fa_in {n : Str} (h : (found.any fun x => x == n) = true) : found ++ [] = addN found n := by
  rw [List.append_nil]
  exact addN_eq1 h
theorem fa_out {n : Str} (c : isNm n = true) (h : (found.any fun x => x == n) = false) : found ++ [n] = addN found n :=
  addN_eq2 (by simpa using isNm_ne c) h
abbrev TurnOK (ws res : List Str) (sp sp' : Int) (f' : List Str) : Prop := 0 ≤ sp' ∧ sp' ≤ ws.length ∧ DueSt ws res sp' f' ∧ dMu ws.length sp' < dMu ws.length sp
theorem turn_2a (hV : ∀ x ∈ ws, x ∈ vocL) (hD : DueSt ws res sp found) (h0 : 0 < sp) (hl : sp ≤ ws.length) (c : isNm (getS (ws ++ four) sp) = true) (c1 : (getS (ws ++ four) (sp + 1) == sIs) = true) (c2 : isNm (getS (ws ++ four) (sp + 2)) = true) (hf : f' = addN found (getS (ws ++ four) (sp + 2))) (c3 : (getS (ws ++ four) (sp + 2 + 1) == sComma) = true) : TurnOK ws res sp (sp + 2 + 2) f' := by
  obtain ⟨a, b⟩ := mid_2 hV hD h0 hl c c1
  obtain ⟨d, e⟩ := end_a b c2 hf c3 (by omega)
  exact ⟨by omega, d, e, dMu_up h0 hl (by omega) d⟩
theorem turn_2b (hV : ∀ x ∈ ws, x ∈ vocL) (hD : DueSt ws res sp found) (h0 : 0 < sp) (hl : sp ≤ ws.length) (c : isNm (getS (ws ++ four) sp) = true) (c1 : (getS (ws ++ four) (sp + 1) == sIs) = true) (c2 : isNm (getS (ws ++ four) (sp + 2)) = true) (hf : f' = addN found (getS (ws ++ four) (sp + 2))) (c3 : (getS (ws ++ four) (sp + 2 + 1) == sComma) = false) : TurnOK ws res sp 0 f' := by
  obtain ⟨a, b⟩ := mid_2 hV hD h0 hl c c1
  exact ⟨by omega, by omega, end_b b c2 hf c3, dMu_0 h0 hl⟩
theorem turn_2c (hV : ∀ x ∈ ws, x ∈ vocL) (hD : DueSt ws res sp found) (h0 : 0 < sp) (hl : sp ≤ ws.length) (c : isNm (getS (ws ++ four) sp) = true) (c1 : (getS (ws ++ four) (sp + 1) == sIs) = true) (c2 : isNm (getS (ws ++ four) (sp + 2)) = false) : TurnOK ws res sp 0 found := by
  obtain ⟨a, b⟩ := mid_2 hV hD h0 hl c c1
  exact ⟨by omega, by omega, end_c b c2, dMu_0 h0 hl⟩
theorem turn_1a (hV : ∀ x ∈ ws, x ∈ vocL) (hD : DueSt ws res sp found) (h0 : 0 < sp) (hl : sp ≤ ws.length) (c : isNm (getS (ws ++ four) sp) = true) (c1 : (getS (ws ++ four) (sp + 1) == sIs) = false) (hf : f' = addN found (getS (ws ++ four) sp)) (c3 : (getS (ws ++ four) (sp + 1) == sComma) = true) : TurnOK ws res sp (sp + 2) f' := by
  have b := mid_1 hV hD h0 hl c c1
  obtain ⟨d, e⟩ := end_a b c hf c3 (by omega)
  exact ⟨by omega, d, e, dMu_up h0 hl (by omega) d⟩
theorem turn_1b (hV : ∀ x ∈ ws, x ∈ vocL) (hD : DueSt ws res sp found) (h0 : 0 < sp) (hl : sp ≤ ws.length) (c : isNm (getS (ws ++ four) sp) = true) (c1 : (getS (ws ++ four) (sp + 1) == sIs) = false) (hf : f' = addN found (getS (ws ++ four) sp)) (c3 : (getS (ws ++ four) (sp + 1) == sComma) = false) : TurnOK ws res sp 0 f' := by
  have b := mid_1 hV hD h0 hl c c1
  exact ⟨by omega, by omega, end_b b c hf c3, dMu_0 h0 hl⟩
theorem turn_1c (hV : ∀ x ∈ ws, x ∈ vocL) (hD : DueSt ws res sp found) (h0 : 0 < sp) (hl : sp ≤ ws.length) (c : isNm (getS (ws ++ four) sp) = true) (c1 : (getS (ws ++ four) (sp + 1) == sIs) = false) (c2 : isNm (getS (ws ++ four) sp) = false) : TurnOK ws res sp 0 found := by
  rw [c] at c2
  cases c2
end
end
section
variable {prog : Program} {w : World} {p : Program} {loose : List Str} {mean : ExcName → Option Value} {mg mb : Str → Option Value}
theorem lift1 {h₀ hs g' h' : Heap} {L L' dx : Addr} {m' : Str → Option Value} {pre post new : List (Addr × Obj)} {od od' : Obj}
    (N : Hid (News h₀ L hs (pre ++ (dx, od) :: post))) (ha : ∀ p ∈ pre, p.1 ≠ dx) (hb : ∀ p ∈ post, p.1 ≠ dx)
    (hK : Keeps hs [dx] g') (F' : Fr g' L' h' m') (N' : News h₀ L h' new) (h2 : (dx, od') ∈ new) : News h₀ L h' (pre ++ (dx, od') :: post) := by
  refine liftN N ha hb (ns := [(dx, od)]) ?_ ?_ hK F' N' h2
  · intro p hp
    rw [List.mem_singleton.mp hp]; exact List.mem_append.mpr (.inr (.head _))
  · intro p hp hne
    rw [List.mem_singleton.mp hp] at hne
    exact absurd rfl hne
theorem one_news {h₀ h : Heap} {L : Addr} {l : List (Addr × Obj)} {q : Addr × Obj} (N : News h₀ L h l) (hm : q ∈ l) : News h₀ L h [q] := fun p hp => by
  rw [List.mem_singleton.mp hp]; exact N _ hm
theorem ints_pos {us : List Value} {ns : List Int} (hI : IntsAre us ns) (h : decide (ns = []) = false) : 0 < us.length := by
  rw [IntsAre.length hI]
  have : ns ≠ [] := by simpa using h
  exact List.length_pos_iff.mpr this
theorem draw_con (f : Addr) (us : List Value) (ns : List Int) (c : Nat) (lim : Int) (tl : Tok) (news : List (Addr × Obj)) (g : Obj → List (Addr × Obj)) :
  Con prog w (kTop w.params) p loose mean mg mb (.ref 288) [.ref f, .int lim tl] 2 100
    (fun h₀ h L => News h₀ L h news ∧ UpdF f (listOf us.toArray c) news g ∧ IntsAre us ns ∧ us.length ≤ 1000000 ∧ 0 < lim ∧ lim ≤ 1000000)
    (fun h₀ L m s Q => ∀ us' ns' c' r tr h' tk, IntsAre us' ns' → us'.length ≤ us.length → Fr h₀ L h' m → News h₀ L h' (g (listOf us'.toArray c')) → 0 ≤ r → r < lim → Q (.int r tr) { s with heap := h', toks := tk }) := by
  k_with_none
  w_top off
  k_with "my k_ne" => (refine neN ?_; (try dsimp only); first | exact Df.out (by assumption) | exact (Df.out (by assumption)).symm)
  k_with "my mine:enter" => (refine' enterK ?my_k1 ?my_k2 ?my_k3 ?my_k4 ?my_k5 ?my_kA ?my_kF ?my_kK ?my_k6 ?my_k7 ?my_k8 ?my_k9 ?my_kB ?_ ?my_c2 ?my_c3 ?my_c4 ?my_c5; (case my_kA => exact rfl); (case my_kF => exact rfl); (case my_kK => first | assumption | exact rfl); (case my_k1 => k_asm); (case my_k2 => k_asm); (case my_k3 => k_asm); (case my_k4 => k_asm); (case my_k5 => k_asm); (case my_k6 => k_is); (case my_k7 => k_is); (case my_k8 => ktr_room); (case my_k9 => first | exact BindsTo.of_eq rfl | exact binds_K (by k_in) rfl (by k_is) rfl rfl rfl); (case my_c5 => decide); (case my_kB => exact locs rfl); (case my_c2 => exact rfl); (case my_c3 => exact rfl); (case my_c4 => exact rfl); k_whole; intro g'W L'W h'W FG'W F'W N'W B'W X'W T'W hKpW; (try dsimp only); (try k_lift B'W); (try k_fold))
  k_with "my call ref" => (k_here; (with_reducible show wpAny _ _ (call (Value.ref 98) _ _) _ _ _); k_dflt (refine' letter_con _ _ _ _ _ _ _ _ _ _ _ _ _ _ _ _ _ _ _ _ ?my_k1 ?my_k2 ?my_k3 ?my_k4 ?my_k5 ?my_k6 ?my_k7 ?my_k8 ?_; (case my_k1 => k_asm); (case my_k2 => k_asm); (case my_k3 => k_asm); (case my_k4 => k_asm); (case my_k5 => first | exact rfl | assumption); (case my_k8 => k_asm); (case my_k6 => ktr_room); (case my_k7 => ktr_units); k_whole; intro h'W tk'W F'W N'W; (try dsimp only); (try k_sweep); (try k_fold)))
  k_with "my call ref" => (k_here; (with_reducible show wpAny _ _ (call (Value.ref 105) _ _) _ _ _); k_dflt (refine' digit_con _ _ _ _ _ _ _ _ _ _ _ _ _ _ _ _ _ _ _ _ ?my_k1 ?my_k2 ?my_k3 ?my_k4 ?my_k5 ?my_k6 ?my_k7 ?my_k8 ?_; (case my_k1 => k_asm); (case my_k2 => k_asm); (case my_k3 => k_asm); (case my_k4 => k_asm); (case my_k5 => first | exact rfl | assumption); (case my_k8 => k_asm); (case my_k6 => ktr_room); (case my_k7 => ktr_units); k_whole; intro h'W tk'W F'W N'W; (try dsimp only); (try k_sweep); (try k_fold)))
  k_with "my call ref" => (k_here; (show wpAny _ _ (call (Value.ref 141) [_] _) _ _ _); k_dflt (refine' char0_con _ _ _ _ _ _ _ _ _ _ _ _ _ _ _ _ _ _ _ _ _ _ _ _ _ _ _ _ _ _ ?my_k1 ?my_k2 ?my_k3 ?my_k4 ?my_k5 ?my_k6 ?my_k7 ?my_k8 ?_; (case my_k1 => k_asm); (case my_k2 => k_asm); (case my_k3 => k_asm); (case my_k4 => k_asm); (case my_k5 => first | exact rfl | assumption); (case my_k8 => (refine ⟨by k_asm, by first | assumption | k_mem, by first | assumption | k_mem, by assumption, by omega⟩)); (case my_k6 => ktr_room); (case my_k7 => ktr_units); k_whole; intro t'W h'W tk'W F'W N'W hl'W; (try dsimp only); (try k_sweep); (try k_fold)))
  k_with "my call ref" => (k_here; (show wpAny _ _ (call (Value.ref 141) [_, _] _) _ _ _); k_dflt (refine' char1_con _ _ _ _ _ _ _ _ _ _ _ _ _ _ _ _ _ _ _ _ _ _ _ _ _ _ _ _ _ _ _ _ ?my_k1 ?my_k2 ?my_k3 ?my_k4 ?my_k5 ?my_k6 ?my_k7 ?my_k8 ?_; (case my_k1 => k_asm); (case my_k2 => k_asm); (case my_k3 => k_asm); (case my_k4 => k_asm); (case my_k5 => first | exact rfl | assumption); (case my_k8 => (refine ⟨by k_asm, by first | assumption | k_mem, by first | assumption | k_mem, by assumption, by omega⟩)); (case my_k6 => ktr_room); (case my_k7 => ktr_units); k_whole; intro t'W h'W tk'W F'W N'W hl'W; (try dsimp only); (try k_sweep); (try k_fold)))
  k_with "my call ref" => (k_here; (show wpAny _ _ (call (Value.ref 80) _ _) _ _ _); k_dflt (refine' call_cls ?my_k1 ?my_k2 ?my_k3 ?my_k4 ?my_k5 ?my_k6 ?_; (case my_k1 => k_asm); (case my_k2 => k_asm); (case my_k3 => k_asm); (case my_k4 => k_is); (case my_k5 => k_is); (case my_k6 => k_is); k_whole; intro x'W d'W h'W F'W N'W l1 l2; (try k_lt l1); (try k_lt2 l2); (try k_sweep); walk_at "mine:enter"))
  k_with "my call ref" => (k_here; (with_reducible show wpAny _ _ (call (Value.ref 59) _ _) _ _ _); k_dflt (refine' errors_con _ _ _ _ _ _ _ _ _ _ _ _ _ _ _ _ _ _ ?my_k1 ?my_k2 ?my_k3 ?my_k4 ?my_k5 ?my_k6 ?my_k7 ?my_k8 ?_; (case my_k1 => k_asm); (case my_k2 => k_asm); (case my_k3 => k_asm); (case my_k4 => k_asm); (case my_k5 => first | exact rfl | assumption); (case my_k8 => k_asm); (case my_k6 => ktr_room); (case my_k7 => ktr_units); k_whole; intro q'W h'W tk'W F'W N'W; (try dsimp only); (try k_sweep); (try k_fold)))
  k_with "my call ref" => (k_here; (with_reducible show wpAny _ _ (call (Value.ref 228) _ _) _ _ _); k_dflt (refine' scanner_con _ _ _ _ _ _ _ _ _ _ _ _ _ _ _ _ _ _ _ _ _ ?my_k1 ?my_k2 ?my_k3 ?my_k4 ?my_k5 ?my_k6 ?my_k7 ?my_k8 ?_; (case my_k1 => k_asm); (case my_k2 => k_asm); (case my_k3 => k_asm); (case my_k4 => k_asm); (case my_k5 => first | exact rfl | assumption); (case my_k8 => k_asm); (case my_k6 => ktr_room); (case my_k7 => ktr_units); k_whole; intro x'W dx'W wa'W kws'W k1'W k2'W k3'W k4'W tp'W h'W tk'W hkw'W F'W N'W nq1'W nq2'W nq3'W; (try dsimp only); (try k_sweep); (try k_fold)))
  k_with "my call ref" => (k_here; (show wpAny _ _ (call (Value.ref 249) _ _) _ _ _); k_dflt (refine' call_cls ?my_k1 ?my_k2 ?my_k3 ?my_k4 ?my_k5 ?my_k6 ?_; (case my_k1 => k_asm); (case my_k2 => k_asm); (case my_k3 => k_asm); (case my_k4 => k_is); (case my_k5 => k_is); (case my_k6 => k_is); k_whole; intro x'W d'W h'W F'W N'W l1 l2; (try k_lt l1); (try k_lt2 l2); (try k_sweep); walk_at "mine:enter"))
  k_with "my ktr_units" => (have hcL9 := cLine_is; (try simp only [units_under_make, units_in1, units_deeper, Around.mark_units, units_caller]); (try dsimp only [ktrTop]); omega)
  k_with "my units_room" => ktr_units
  k_with "my kpa_ne" => exact ints_pos (by assumption) (by assumption)
  k_with "my kpa_room" => (rw [PySem.sizeLine_eq]; omega)
  unfold Con
  intro dp un gd cn cs a ccd cl outer A₀ base h₀ L m s Q E B F X T hk hd hu ⟨N, U, hI, hlen, h0, hl⟩ hret
  obtain ⟨pre, post, rfl, hg, ha, hb⟩ := U.split
  have Nm := one_news N (List.mem_append.mpr (.inr (.head _)))
  have hN := Hid.mk N
  clear N
  refine wpAny_call ?_
  k_dflt (walk_at "mine:enter")
  k_steps
  all_goals (
    rename News h₀ L _ _ => kN
    rename Fr h₀ L _ m => kF
    rename Keeps s.heap _ _ => hKp)
  · refine hret us ns c _ _ _ _ hI (Nat.le_refl _) kF ?_ (Int.le_refl _) h0
    rw [hg]
    exact lift1 hN ha hb hKp (by assumption) kN (by k_mem)
  · refine hret us.dropLast ns.dropLast (c + 1) _ _ _ _ (by assumption) (by rw [List.length_dropLast]; omega) kF ?_ (Int.fmod_nonneg_of_pos _ h0) (Int.fmod_lt_of_pos _ h0)
    rw [hg]
    exact lift1 hN ha hb hKp (by assumption) kN (by k_mem)

end
section
variable {prog : Program} {w : World} {p : Program} {loose : List Str} {mean : ExcName → Option Value} {mg mb : Str → Option Value}
theorem gap_con (f : Addr) (us : List Value) (ns : List Int) (c : Nat) (news : List (Addr × Obj)) (g : Obj → List (Addr × Obj)) :
  Con prog w (kTop w.params) p loose mean mg mb (.ref 295) [.ref f] 3 110
    (fun h₀ h L => News h₀ L h news ∧ UpdF f (listOf us.toArray c) news g ∧ IntsAre us ns ∧ us.length ≤ 1000000)
    (fun h₀ L m s Q => ∀ us' ns' c' r tr h' tk, IntsAre us' ns' → us'.length ≤ us.length → Fr h₀ L h' m → News h₀ L h' (g (listOf us'.toArray c')) → r ∈ gapL → Q (.str r tr) { s with heap := h', toks := tk }) := by
  k_with_none
  w_top off
  k_with "my k_ne" => (refine neN ?_; (try dsimp only); first | exact Df.out (by assumption) | exact (Df.out (by assumption)).symm)
  k_with "my mine:enter" => (refine' enterK ?my_k1 ?my_k2 ?my_k3 ?my_k4 ?my_k5 ?my_kA ?my_kF ?my_kK ?my_k6 ?my_k7 ?my_k8 ?my_k9 ?my_kB ?_ ?my_c2 ?my_c3 ?my_c4 ?my_c5; (case my_kA => exact rfl); (case my_kF => exact rfl); (case my_kK => first | assumption | exact rfl); (case my_k1 => k_asm); (case my_k2 => k_asm); (case my_k3 => k_asm); (case my_k4 => k_asm); (case my_k5 => k_asm); (case my_k6 => k_is); (case my_k7 => k_is); (case my_k8 => ktr_room); (case my_k9 => first | exact BindsTo.of_eq rfl | exact binds_K (by k_in) rfl (by k_is) rfl rfl rfl); (case my_c5 => decide); (case my_kB => exact locs rfl); (case my_c2 => exact rfl); (case my_c3 => exact rfl); (case my_c4 => exact rfl); k_whole; intro g'W L'W h'W FG'W F'W N'W B'W X'W T'W hKpW; (try dsimp only); (try k_lift B'W); (try k_fold))
  k_with "my call ref" => (k_here; (with_reducible show wpAny _ _ (call (Value.ref 98) _ _) _ _ _); k_dflt (refine' letter_con _ _ _ _ _ _ _ _ _ _ _ _ _ _ _ _ _ _ _ _ ?my_k1 ?my_k2 ?my_k3 ?my_k4 ?my_k5 ?my_k6 ?my_k7 ?my_k8 ?_; (case my_k1 => k_asm); (case my_k2 => k_asm); (case my_k3 => k_asm); (case my_k4 => k_asm); (case my_k5 => first | exact rfl | assumption); (case my_k8 => k_asm); (case my_k6 => ktr_room); (case my_k7 => ktr_units); k_whole; intro h'W tk'W F'W N'W; (try dsimp only); (try k_sweep); (try k_fold)))
  k_with "my call ref" => (k_here; (with_reducible show wpAny _ _ (call (Value.ref 105) _ _) _ _ _); k_dflt (refine' digit_con _ _ _ _ _ _ _ _ _ _ _ _ _ _ _ _ _ _ _ _ ?my_k1 ?my_k2 ?my_k3 ?my_k4 ?my_k5 ?my_k6 ?my_k7 ?my_k8 ?_; (case my_k1 => k_asm); (case my_k2 => k_asm); (case my_k3 => k_asm); (case my_k4 => k_asm); (case my_k5 => first | exact rfl | assumption); (case my_k8 => k_asm); (case my_k6 => ktr_room); (case my_k7 => ktr_units); k_whole; intro h'W tk'W F'W N'W; (try dsimp only); (try k_sweep); (try k_fold)))
  k_with "my call ref" => (k_here; (show wpAny _ _ (call (Value.ref 141) [_] _) _ _ _); k_dflt (refine' char0_con _ _ _ _ _ _ _ _ _ _ _ _ _ _ _ _ _ _ _ _ _ _ _ _ _ _ _ _ _ _ ?my_k1 ?my_k2 ?my_k3 ?my_k4 ?my_k5 ?my_k6 ?my_k7 ?my_k8 ?_; (case my_k1 => k_asm); (case my_k2 => k_asm); (case my_k3 => k_asm); (case my_k4 => k_asm); (case my_k5 => first | exact rfl | assumption); (case my_k8 => (refine ⟨by k_asm, by first | assumption | k_mem, by first | assumption | k_mem, by assumption, by omega⟩)); (case my_k6 => ktr_room); (case my_k7 => ktr_units); k_whole; intro t'W h'W tk'W F'W N'W hl'W; (try dsimp only); (try k_sweep); (try k_fold)))
  k_with "my call ref" => (k_here; (show wpAny _ _ (call (Value.ref 141) [_, _] _) _ _ _); k_dflt (refine' char1_con _ _ _ _ _ _ _ _ _ _ _ _ _ _ _ _ _ _ _ _ _ _ _ _ _ _ _ _ _ _ _ _ ?my_k1 ?my_k2 ?my_k3 ?my_k4 ?my_k5 ?my_k6 ?my_k7 ?my_k8 ?_; (case my_k1 => k_asm); (case my_k2 => k_asm); (case my_k3 => k_asm); (case my_k4 => k_asm); (case my_k5 => first | exact rfl | assumption); (case my_k8 => (refine ⟨by k_asm, by first | assumption | k_mem, by first | assumption | k_mem, by assumption, by omega⟩)); (case my_k6 => ktr_room); (case my_k7 => ktr_units); k_whole; intro t'W h'W tk'W F'W N'W hl'W; (try dsimp only); (try k_sweep); (try k_fold)))
  k_with "my call ref" => (k_here; (show wpAny _ _ (call (Value.ref 80) _ _) _ _ _); k_dflt (refine' call_cls ?my_k1 ?my_k2 ?my_k3 ?my_k4 ?my_k5 ?my_k6 ?_; (case my_k1 => k_asm); (case my_k2 => k_asm); (case my_k3 => k_asm); (case my_k4 => k_is); (case my_k5 => k_is); (case my_k6 => k_is); k_whole; intro x'W d'W h'W F'W N'W l1 l2; (try k_lt l1); (try k_lt2 l2); (try k_sweep); walk_at "mine:enter"))
  k_with "my call ref" => (k_here; (with_reducible show wpAny _ _ (call (Value.ref 59) _ _) _ _ _); k_dflt (refine' errors_con _ _ _ _ _ _ _ _ _ _ _ _ _ _ _ _ _ _ ?my_k1 ?my_k2 ?my_k3 ?my_k4 ?my_k5 ?my_k6 ?my_k7 ?my_k8 ?_; (case my_k1 => k_asm); (case my_k2 => k_asm); (case my_k3 => k_asm); (case my_k4 => k_asm); (case my_k5 => first | exact rfl | assumption); (case my_k8 => k_asm); (case my_k6 => ktr_room); (case my_k7 => ktr_units); k_whole; intro q'W h'W tk'W F'W N'W; (try dsimp only); (try k_sweep); (try k_fold)))
  k_with "my call ref" => (k_here; (with_reducible show wpAny _ _ (call (Value.ref 228) _ _) _ _ _); k_dflt (refine' scanner_con _ _ _ _ _ _ _ _ _ _ _ _ _ _ _ _ _ _ _ _ _ ?my_k1 ?my_k2 ?my_k3 ?my_k4 ?my_k5 ?my_k6 ?my_k7 ?my_k8 ?_; (case my_k1 => k_asm); (case my_k2 => k_asm); (case my_k3 => k_asm); (case my_k4 => k_asm); (case my_k5 => first | exact rfl | assumption); (case my_k8 => k_asm); (case my_k6 => ktr_room); (case my_k7 => ktr_units); k_whole; intro x'W dx'W wa'W kws'W k1'W k2'W k3'W k4'W tp'W h'W tk'W hkw'W F'W N'W nq1'W nq2'W nq3'W; (try dsimp only); (try k_sweep); (try k_fold)))
  k_with "my call ref" => (k_here; (show wpAny _ _ (call (Value.ref 249) _ _) _ _ _); k_dflt (refine' call_cls ?my_k1 ?my_k2 ?my_k3 ?my_k4 ?my_k5 ?my_k6 ?_; (case my_k1 => k_asm); (case my_k2 => k_asm); (case my_k3 => k_asm); (case my_k4 => k_is); (case my_k5 => k_is); (case my_k6 => k_is); k_whole; intro x'W d'W h'W F'W N'W l1 l2; (try k_lt l1); (try k_lt2 l2); (try k_sweep); walk_at "mine:enter"))
  k_with "my call ref" => (k_here; (with_reducible show wpAny _ _ (call (Value.ref 288) _ _) _ _ _); k_dflt (refine' draw_con _ _ _ _ _ _ _ _ _ _ _ _ _ _ _ _ _ _ _ _ _ _ _ _ _ ?my_k1 ?my_k2 ?my_k3 ?my_k4 ?my_k5 ?my_k6 ?my_k7 ?my_k8 ?_; (case my_k1 => k_asm); (case my_k2 => k_asm); (case my_k3 => k_asm); (case my_k4 => k_asm); (case my_k5 => first | exact rfl | assumption); (case my_k8 => (refine ⟨by k_asm, by k_updF, by assumption, by first | assumption | omega, by omega, by omega⟩)); (case my_k6 => ktr_room); (case my_k7 => ktr_units); k_whole; intro us'W ns'W c'W r'W tr'W h'W tk'W hI'W hl'W F'W N'W h0'W h1'W; (try dsimp only); (try k_sweep); (try k_fold)))
  unfold Con
  intro dp un gd cn cs a ccd cl outer A₀ base h₀ L m s Q E B F X T hk hd hu ⟨N, U, hI, hlen⟩ hret
  obtain ⟨pre, post, rfl, hg, ha, hb⟩ := U.split
  have Nm := one_news N (List.mem_append.mpr (.inr (.head _)))
  have hN := Hid.mk N
  clear N
  refine wpAny_call ?_
  k_dflt (walk_at "mine:enter")
  k_steps
  all_goals (
    rename News h₀ L _ _ => kN
    rename Fr h₀ L _ m => kF
    rename Keeps s.heap _ _ => hKp
    refine' hret _ _ _ _ _ _ _ (by assumption) (by assumption) kF _ _
    rotate_left 1
    · rw [hg]
      exact lift1 hN ha hb hKp (by assumption) kN (by k_mem)
    · unfold gapL
      first | exact .head _ | exact .tail _ (.head _) | exact .tail _ (.tail _ (.head _)) | exact .tail _ (.tail _ (.tail _ (.head _))))

end
section
variable {prog : Program} {w : World} {p : Program} {loose : List Str} {mean : ExcName → Option Value} {mg mb : Str → Option Value}
theorem ints_app {us : List Value} {ns : List Int} (v : Int) (t : Tok) (hI : IntsAre us ns) : IntsAre (us ++ [Value.int v t]) (ns ++ [v]) := by
  induction hI with
  | nil => exact .cons _ _ .nil
  | cons k t r ih => exact .cons _ _ ih
theorem ints_snoc {h₀ h : Heap} {L l : Addr} {a : Addr × Obj} {us : List Value} {ns : List Int} {v : Int} {t : Tok} {c : Nat} {own : List (Addr × Obj)} (hI : IntsAre us ns) (_N : News h₀ L h (a :: (l, listOf (us ++ [Value.int v t]).toArray c) :: own)) : IntsAre (us ++ [Value.int v t]) (ns ++ [v]) := ints_app v t hI
theorem ints_rev {us : List Value} {ns : List Int} (hI : IntsAre us ns) : IntsAre us.reverse ns.reverse := by
  induction hI with
  | nil => exact .nil
  | cons k t r ih =>
    rw [List.reverse_cons, List.reverse_cons]
    exact ints_app k t ih
theorem rev_K {A : Around} {E : Value → Shared → Prop} {s : Shared} {h₀ : Heap} {L D : Addr} {m : Str → Option Value} {news news' : List (Addr × Obj)} {n : Nat} {us : List Value} {ns : List Int} {Q : Value → Shared → Prop} (F : Fr h₀ L s.heap m) (N : News h₀ L s.heap news)
    (U : Upd D (listOf us.toArray n) (listOf us.reverse.toArray n) news news') (hI : IntsAre us ns) (hz : ns.length ≤ 1000000)
    (h : ∀ h', Fr h₀ L h' m → News h₀ L h' news' → IntsAre us.reverse ns.reverse → us.reverse.length = ns.length → Q .none { s with heap := h' }) : wpAny (model prog w) A (call (.builtin "list.reverse") [.ref D]) Q E s :=
  kl_reverse F N (its := us.toArray) rfl U (by rw [PySem.sizeLine_eq]; simp only []; rw [IntsAre.length hI]; omega) fun h' F' N' => h h' F' N' (ints_rev hI) (by rw [List.length_reverse, IntsAre.length hI])
theorem fresh_ne {h₀ hs g' : Heap} {L t : Addr} {news : List (Addr × Obj)} (N : Hid (News h₀ L hs news)) (hK : Keeps hs [] g') (h : g'.get? t = none) : NeL t news :=
  neL_of fun p hp e => by
    have e1 := hK _ _ (N.out p hp).1 (fun h => nomatch h)
    have e2 : t = p.1 := e
    rw [← e2, h] at e1
    cases e1
theorem figures_con (sc : Addr) (vs : List Value) (ns : List Int) (news : List (Addr × Obj)) :
  Con prog w (kTop w.params) p loose mean mg mb (.ref 281) [.ref sc] 3 110
    (fun h₀ h L => News h₀ L h news ∧ h₀.IsList sc vs.toArray ∧ IntsAre vs ns ∧ ns.length ≤ 63)
    (fun h₀ L m s Q => ∀ q us ns' c' h' tk, IntsAre us ns' → us.length ≤ 1000 → Fr h₀ L h' m → News h₀ L h' ((q, listOf us.toArray c') :: news) → NeL q news → Q (.ref q) { s with heap := h', toks := tk }) := by
  k_with_none
  w_top off
  k_with "my k_ne" => (refine neN ?_; (try dsimp only); first | exact Df.out (by assumption) | exact (Df.out (by assumption)).symm)
  k_with "my mine:enter" => (refine' enterK ?my_k1 ?my_k2 ?my_k3 ?my_k4 ?my_k5 ?my_kA ?my_kF ?my_kK ?my_k6 ?my_k7 ?my_k8 ?my_k9 ?my_kB ?_ ?my_c2 ?my_c3 ?my_c4 ?my_c5; (case my_kA => exact rfl); (case my_kF => exact rfl); (case my_kK => first | assumption | exact rfl); (case my_k1 => k_asm); (case my_k2 => k_asm); (case my_k3 => k_asm); (case my_k4 => k_asm); (case my_k5 => k_asm); (case my_k6 => k_is); (case my_k7 => k_is); (case my_k8 => ktr_room); (case my_k9 => first | exact BindsTo.of_eq rfl | exact binds_K (by k_in) rfl (by k_is) rfl rfl rfl); (case my_c5 => decide); (case my_kB => exact locs rfl); (case my_c2 => exact rfl); (case my_c3 => exact rfl); (case my_c4 => exact rfl); k_whole; intro g'W L'W h'W FG'W F'W N'W B'W X'W T'W hKpW; (try dsimp only); (try k_lift B'W); (try k_fold))
  k_with "my call ref" => (k_here; (with_reducible show wpAny _ _ (call (Value.ref 98) _ _) _ _ _); k_dflt (refine' letter_con _ _ _ _ _ _ _ _ _ _ _ _ _ _ _ _ _ _ _ _ ?my_k1 ?my_k2 ?my_k3 ?my_k4 ?my_k5 ?my_k6 ?my_k7 ?my_k8 ?_; (case my_k1 => k_asm); (case my_k2 => k_asm); (case my_k3 => k_asm); (case my_k4 => k_asm); (case my_k5 => first | exact rfl | assumption); (case my_k8 => k_asm); (case my_k6 => ktr_room); (case my_k7 => ktr_units); k_whole; intro h'W tk'W F'W N'W; (try dsimp only); (try k_sweep); (try k_fold)))
  k_with "my call ref" => (k_here; (with_reducible show wpAny _ _ (call (Value.ref 105) _ _) _ _ _); k_dflt (refine' digit_con _ _ _ _ _ _ _ _ _ _ _ _ _ _ _ _ _ _ _ _ ?my_k1 ?my_k2 ?my_k3 ?my_k4 ?my_k5 ?my_k6 ?my_k7 ?my_k8 ?_; (case my_k1 => k_asm); (case my_k2 => k_asm); (case my_k3 => k_asm); (case my_k4 => k_asm); (case my_k5 => first | exact rfl | assumption); (case my_k8 => k_asm); (case my_k6 => ktr_room); (case my_k7 => ktr_units); k_whole; intro h'W tk'W F'W N'W; (try dsimp only); (try k_sweep); (try k_fold)))
  k_with "my call ref" => (k_here; (show wpAny _ _ (call (Value.ref 141) [_] _) _ _ _); k_dflt (refine' char0_con _ _ _ _ _ _ _ _ _ _ _ _ _ _ _ _ _ _ _ _ _ _ _ _ _ _ _ _ _ _ ?my_k1 ?my_k2 ?my_k3 ?my_k4 ?my_k5 ?my_k6 ?my_k7 ?my_k8 ?_; (case my_k1 => k_asm); (case my_k2 => k_asm); (case my_k3 => k_asm); (case my_k4 => k_asm); (case my_k5 => first | exact rfl | assumption); (case my_k8 => (refine ⟨by k_asm, by first | assumption | k_mem, by first | assumption | k_mem, by assumption, by omega⟩)); (case my_k6 => ktr_room); (case my_k7 => ktr_units); k_whole; intro t'W h'W tk'W F'W N'W hl'W; (try dsimp only); (try k_sweep); (try k_fold)))
  k_with "my call ref" => (k_here; (show wpAny _ _ (call (Value.ref 141) [_, _] _) _ _ _); k_dflt (refine' char1_con _ _ _ _ _ _ _ _ _ _ _ _ _ _ _ _ _ _ _ _ _ _ _ _ _ _ _ _ _ _ _ _ ?my_k1 ?my_k2 ?my_k3 ?my_k4 ?my_k5 ?my_k6 ?my_k7 ?my_k8 ?_; (case my_k1 => k_asm); (case my_k2 => k_asm); (case my_k3 => k_asm); (case my_k4 => k_asm); (case my_k5 => first | exact rfl | assumption); (case my_k8 => (refine ⟨by k_asm, by first | assumption | k_mem, by first | assumption | k_mem, by assumption, by omega⟩)); (case my_k6 => ktr_room); (case my_k7 => ktr_units); k_whole; intro t'W h'W tk'W F'W N'W hl'W; (try dsimp only); (try k_sweep); (try k_fold)))
  k_with "my call ref" => (k_here; (show wpAny _ _ (call (Value.ref 80) _ _) _ _ _); k_dflt (refine' call_cls ?my_k1 ?my_k2 ?my_k3 ?my_k4 ?my_k5 ?my_k6 ?_; (case my_k1 => k_asm); (case my_k2 => k_asm); (case my_k3 => k_asm); (case my_k4 => k_is); (case my_k5 => k_is); (case my_k6 => k_is); k_whole; intro x'W d'W h'W F'W N'W l1 l2; (try k_lt l1); (try k_lt2 l2); (try k_sweep); walk_at "mine:enter"))
  k_with "my call ref" => (k_here; (with_reducible show wpAny _ _ (call (Value.ref 59) _ _) _ _ _); k_dflt (refine' errors_con _ _ _ _ _ _ _ _ _ _ _ _ _ _ _ _ _ _ ?my_k1 ?my_k2 ?my_k3 ?my_k4 ?my_k5 ?my_k6 ?my_k7 ?my_k8 ?_; (case my_k1 => k_asm); (case my_k2 => k_asm); (case my_k3 => k_asm); (case my_k4 => k_asm); (case my_k5 => first | exact rfl | assumption); (case my_k8 => k_asm); (case my_k6 => ktr_room); (case my_k7 => ktr_units); k_whole; intro q'W h'W tk'W F'W N'W; (try dsimp only); (try k_sweep); (try k_fold)))
  k_with "my call ref" => (k_here; (with_reducible show wpAny _ _ (call (Value.ref 228) _ _) _ _ _); k_dflt (refine' scanner_con _ _ _ _ _ _ _ _ _ _ _ _ _ _ _ _ _ _ _ _ _ ?my_k1 ?my_k2 ?my_k3 ?my_k4 ?my_k5 ?my_k6 ?my_k7 ?my_k8 ?_; (case my_k1 => k_asm); (case my_k2 => k_asm); (case my_k3 => k_asm); (case my_k4 => k_asm); (case my_k5 => first | exact rfl | assumption); (case my_k8 => k_asm); (case my_k6 => ktr_room); (case my_k7 => ktr_units); k_whole; intro x'W dx'W wa'W kws'W k1'W k2'W k3'W k4'W tp'W h'W tk'W hkw'W F'W N'W nq1'W nq2'W nq3'W; (try dsimp only); (try k_sweep); (try k_fold)))
  k_with "my call ref" => (k_here; (show wpAny _ _ (call (Value.ref 249) _ _) _ _ _); k_dflt (refine' call_cls ?my_k1 ?my_k2 ?my_k3 ?my_k4 ?my_k5 ?my_k6 ?_; (case my_k1 => k_asm); (case my_k2 => k_asm); (case my_k3 => k_asm); (case my_k4 => k_is); (case my_k5 => k_is); (case my_k6 => k_is); k_whole; intro x'W d'W h'W F'W N'W l1 l2; (try k_lt l1); (try k_lt2 l2); (try k_sweep); walk_at "mine:enter"))
  k_with "my call ref" => (k_here; (with_reducible show wpAny _ _ (call (Value.ref 288) _ _) _ _ _); k_dflt (refine' draw_con _ _ _ _ _ _ _ _ _ _ _ _ _ _ _ _ _ _ _ _ _ _ _ _ _ ?my_k1 ?my_k2 ?my_k3 ?my_k4 ?my_k5 ?my_k6 ?my_k7 ?my_k8 ?_; (case my_k1 => k_asm); (case my_k2 => k_asm); (case my_k3 => k_asm); (case my_k4 => k_asm); (case my_k5 => first | exact rfl | assumption); (case my_k8 => (refine ⟨by k_asm, by k_updF, by assumption, by first | assumption | omega, by omega, by omega⟩)); (case my_k6 => ktr_room); (case my_k7 => ktr_units); k_whole; intro us'W ns'W c'W r'W tr'W h'W tk'W hI'W hl'W F'W N'W h0'W h1'W; (try dsimp only); (try k_sweep); (try k_fold)))
  k_with "my call builtin:list.reverse" => (k_here; (with_reducible show wpAny _ _ (call (Value.builtin _) [Value.ref _]) _ _ _); k_dflt (refine' rev_K ?my_F ?my_N ?my_U ?my_i ?my_z ?_; (case my_F => k_asm); (case my_N => k_asm); (case my_U => k_upd); (case my_i => assumption); (case my_z => omega)); intro h'W F'W N'W hI'W hR'W; (try dsimp only at N'W))
  k_with "my InvEndN" => (k_dflt (kst_close))
  unfold Con
  intro dp un gd cn cs a ccd cl outer A₀ base h₀ L m s Q E B F X T hk hd hu ⟨N, hL, hI, hlen⟩ hret
  have Nm : News h₀ L s.heap [] := fun _ h => nomatch h
  have hN := Hid.mk N
  clear N
  refine wpAny_call ?_
  k_dflt (walk_at "mine:enter")
  rename Fr h₀ L _ m => kFG
  have hL' := kFG.lst hL
  clear hL
  k_with "pyIter ref" => (k_of "cell" => k_state (fun pre found => found.length ≤ 11 * pre.length) "found")
  k_with "pyIter ref" => (k_of "lap" => ((rename News _ _ _ _ => kX9); (try simp only [List.push_toArray] at kX9); (rename IntsAre _ _ => hI8); (have hI9 := ints_snoc hI8 kX9); k_state_given ["found!"] (fun f0 pre found figure => found.length ≤ f0.length + pre.length) "found" "figure"))
  k_steps
  rename News h₀ L _ _ => kN
  revert kN
  rename News _ _ _ _ => kNg
  intro kN
  rename Fr h₀ L _ m => kF
  rename Keeps s.heap _ _ => hKp
  exact hret _ _ _ _ _ _ (by assumption) (by omega) kF (liftH (made := [_]) hN hKp (by assumption) (one_news kN (.head _))) (fresh_ne hN hKp (kNg _ (.head _)).2.2)
  k_with_none

end
section
variable {prog : Program} {w : World} {p : Program} {loose : List Str} {mean : ExcName → Option Value} {mg mb : Str → Option Value}
theorem isname_con (x : Str) (tx : Tok) (news : List (Addr × Obj)) :
  Con prog w (kTop w.params) p loose mean mg mb (.ref 302) [.str x tx] 2 100
    (fun h₀ h L => News h₀ L h news ∧ x ∈ vocB)
    (fun h₀ L m s Q => ∀ h' tk, Fr h₀ L h' m → News h₀ L h' news → Q (.bool (isNm x)) { s with heap := h', toks := tk }) := by
  k_with_none
  w_top off
  k_with "my k_ne" => (refine neN ?_; (try dsimp only); first | exact Df.out (by assumption) | exact (Df.out (by assumption)).symm)
  k_with "my mine:enter" => (refine' enterK ?my_k1 ?my_k2 ?my_k3 ?my_k4 ?my_k5 ?my_kA ?my_kF ?my_kK ?my_k6 ?my_k7 ?my_k8 ?my_k9 ?my_kB ?_ ?my_c2 ?my_c3 ?my_c4 ?my_c5; (case my_kA => exact rfl); (case my_kF => exact rfl); (case my_kK => first | assumption | exact rfl); (case my_k1 => k_asm); (case my_k2 => k_asm); (case my_k3 => k_asm); (case my_k4 => k_asm); (case my_k5 => k_asm); (case my_k6 => k_is); (case my_k7 => k_is); (case my_k8 => ktr_room); (case my_k9 => first | exact BindsTo.of_eq rfl | exact binds_K (by k_in) rfl (by k_is) rfl rfl rfl); (case my_c5 => decide); (case my_kB => exact locs rfl); (case my_c2 => exact rfl); (case my_c3 => exact rfl); (case my_c4 => exact rfl); k_whole; intro g'W L'W h'W FG'W F'W N'W B'W X'W T'W hKpW; (try dsimp only); (try k_lift B'W); (try k_fold))
  k_with "my call ref" => (k_here; (with_reducible show wpAny _ _ (call (Value.ref 98) _ _) _ _ _); k_dflt (refine' letter_con _ _ _ _ _ _ _ _ _ _ _ _ _ _ _ _ _ _ _ _ ?my_k1 ?my_k2 ?my_k3 ?my_k4 ?my_k5 ?my_k6 ?my_k7 ?my_k8 ?_; (case my_k1 => k_asm); (case my_k2 => k_asm); (case my_k3 => k_asm); (case my_k4 => k_asm); (case my_k5 => first | exact rfl | assumption); (case my_k8 => k_asm); (case my_k6 => ktr_room); (case my_k7 => ktr_units); k_whole; intro h'W tk'W F'W N'W; (try dsimp only); (try k_sweep); (try k_fold)))
  k_with "my call ref" => (k_here; (with_reducible show wpAny _ _ (call (Value.ref 105) _ _) _ _ _); k_dflt (refine' digit_con _ _ _ _ _ _ _ _ _ _ _ _ _ _ _ _ _ _ _ _ ?my_k1 ?my_k2 ?my_k3 ?my_k4 ?my_k5 ?my_k6 ?my_k7 ?my_k8 ?_; (case my_k1 => k_asm); (case my_k2 => k_asm); (case my_k3 => k_asm); (case my_k4 => k_asm); (case my_k5 => first | exact rfl | assumption); (case my_k8 => k_asm); (case my_k6 => ktr_room); (case my_k7 => ktr_units); k_whole; intro h'W tk'W F'W N'W; (try dsimp only); (try k_sweep); (try k_fold)))
  k_with "my call ref" => (k_here; (show wpAny _ _ (call (Value.ref 141) [_] _) _ _ _); k_dflt (refine' char0_con _ _ _ _ _ _ _ _ _ _ _ _ _ _ _ _ _ _ _ _ _ _ _ _ _ _ _ _ _ _ ?my_k1 ?my_k2 ?my_k3 ?my_k4 ?my_k5 ?my_k6 ?my_k7 ?my_k8 ?_; (case my_k1 => k_asm); (case my_k2 => k_asm); (case my_k3 => k_asm); (case my_k4 => k_asm); (case my_k5 => first | exact rfl | assumption); (case my_k8 => (refine ⟨by k_asm, by first | assumption | k_mem, by first | assumption | k_mem, by assumption, by omega⟩)); (case my_k6 => ktr_room); (case my_k7 => ktr_units); k_whole; intro t'W h'W tk'W F'W N'W hl'W; (try dsimp only); (try k_sweep); (try k_fold)))
  k_with "my call ref" => (k_here; (show wpAny _ _ (call (Value.ref 141) [_, _] _) _ _ _); k_dflt (refine' char1_con _ _ _ _ _ _ _ _ _ _ _ _ _ _ _ _ _ _ _ _ _ _ _ _ _ _ _ _ _ _ _ _ ?my_k1 ?my_k2 ?my_k3 ?my_k4 ?my_k5 ?my_k6 ?my_k7 ?my_k8 ?_; (case my_k1 => k_asm); (case my_k2 => k_asm); (case my_k3 => k_asm); (case my_k4 => k_asm); (case my_k5 => first | exact rfl | assumption); (case my_k8 => (refine ⟨by k_asm, by first | assumption | k_mem, by first | assumption | k_mem, by assumption, by omega⟩)); (case my_k6 => ktr_room); (case my_k7 => ktr_units); k_whole; intro t'W h'W tk'W F'W N'W hl'W; (try dsimp only); (try k_sweep); (try k_fold)))
  k_with "my call ref" => (k_here; (show wpAny _ _ (call (Value.ref 80) _ _) _ _ _); k_dflt (refine' call_cls ?my_k1 ?my_k2 ?my_k3 ?my_k4 ?my_k5 ?my_k6 ?_; (case my_k1 => k_asm); (case my_k2 => k_asm); (case my_k3 => k_asm); (case my_k4 => k_is); (case my_k5 => k_is); (case my_k6 => k_is); k_whole; intro x'W d'W h'W F'W N'W l1 l2; (try k_lt l1); (try k_lt2 l2); (try k_sweep); walk_at "mine:enter"))
  k_with "my call ref" => (k_here; (with_reducible show wpAny _ _ (call (Value.ref 59) _ _) _ _ _); k_dflt (refine' errors_con _ _ _ _ _ _ _ _ _ _ _ _ _ _ _ _ _ _ ?my_k1 ?my_k2 ?my_k3 ?my_k4 ?my_k5 ?my_k6 ?my_k7 ?my_k8 ?_; (case my_k1 => k_asm); (case my_k2 => k_asm); (case my_k3 => k_asm); (case my_k4 => k_asm); (case my_k5 => first | exact rfl | assumption); (case my_k8 => k_asm); (case my_k6 => ktr_room); (case my_k7 => ktr_units); k_whole; intro q'W h'W tk'W F'W N'W; (try dsimp only); (try k_sweep); (try k_fold)))
  k_with "my call ref" => (k_here; (with_reducible show wpAny _ _ (call (Value.ref 228) _ _) _ _ _); k_dflt (refine' scanner_con _ _ _ _ _ _ _ _ _ _ _ _ _ _ _ _ _ _ _ _ _ ?my_k1 ?my_k2 ?my_k3 ?my_k4 ?my_k5 ?my_k6 ?my_k7 ?my_k8 ?_; (case my_k1 => k_asm); (case my_k2 => k_asm); (case my_k3 => k_asm); (case my_k4 => k_asm); (case my_k5 => first | exact rfl | assumption); (case my_k8 => k_asm); (case my_k6 => ktr_room); (case my_k7 => ktr_units); k_whole; intro x'W dx'W wa'W kws'W k1'W k2'W k3'W k4'W tp'W h'W tk'W hkw'W F'W N'W nq1'W nq2'W nq3'W; (try dsimp only); (try k_sweep); (try k_fold)))
  k_with "my call ref" => (k_here; (show wpAny _ _ (call (Value.ref 249) _ _) _ _ _); k_dflt (refine' call_cls ?my_k1 ?my_k2 ?my_k3 ?my_k4 ?my_k5 ?my_k6 ?_; (case my_k1 => k_asm); (case my_k2 => k_asm); (case my_k3 => k_asm); (case my_k4 => k_is); (case my_k5 => k_is); (case my_k6 => k_is); k_whole; intro x'W d'W h'W F'W N'W l1 l2; (try k_lt l1); (try k_lt2 l2); (try k_sweep); walk_at "mine:enter"))
  unfold Con
  intro dp un gd cn cs a ccd cl outer A₀ base h₀ L m s Q E B F X T hk hd hu ⟨N, hx⟩ hret
  have Nm : News h₀ L s.heap [] := fun _ h => nomatch h
  have hN := Hid.mk N
  clear N
  refine wpAny_call ?_
  k_dflt (walk_at "mine:enter")
  k_steps
  all_goals (
    rename News h₀ L _ _ => kN
    rename Fr h₀ L _ m => kF
    rename Keeps s.heap _ _ => hKp
    have hend := (by first | exact isNm_1 hx (by assumption) | exact isNm_2 hx (by assumption) : _ = isNm x)
    rw [hend]
    exact hret _ _ kF (liftH (made := []) hN hKp (by assumption) (fun _ h => nomatch h)))

end
section
variable {prog : Program} {w : World} {p : Program} {loose : List Str} {mean : ExcName → Option Value} {mg mb : Str → Option Value}
theorem strs_get : ∀ {vs : List Value} {zs : List Str}, StrsAre vs zs → ∀ {i : Nat} {d : Str}, i < zs.length → ∃ t, vs[i]? = some (.str (zs.getD i d) t)
  | _, _, .nil, _, _, h => absurd h (Nat.not_lt_zero _)
  | _, _, .cons k t r, 0, _, _ => ⟨t, rfl⟩
  | _, _, .cons k t r, i + 1, d, h => by
    obtain ⟨u, hu⟩ := strs_get r (i := i) (d := d) (by simpa using h)
    exact ⟨u, by simpa using hu⟩
section
variable {A : Around} {E : Value → Shared → Prop} {s : Shared} {h₀ : Heap} {L : Addr} {m : Str → Option Value} {news : List (Addr × Obj)}
theorem item_strs {value slice : PySem.Expr} {l : Addr} {vs : List Value} {zs : List Str} {k : Int} {u : Tok} {n : Nat} {Q : Value → Shared → Prop} (N : News h₀ L s.heap news) (hm : (l, listOf vs.toArray n) ∈ news) (hi : StrsAre vs zs)
    (hb : InB zs k) (h : ∀ t, Q (.str (getS zs k) t) s)
    (hs : subscripted slice false (.ref l) (.int k u) = operate [.ref l, .int k u] (getItem (.ref l) (.int k u)) := by with_unfolding_all rfl) :
    wpAny (model prog w) A (subscriptTail value slice (.ref l) (.int k u)) Q E s := by
  have hl := PySem.IsL.isList (n := n) (N _ hm).1
  obtain ⟨h0, h1, hfit⟩ := hb
  obtain ⟨t, ht⟩ := strs_get hi (i := k.toNat) (d := sNone) (by omega)
  exact tail_any hl.typeIs slot_list_getitem.lookup (wpAny_getItem_list hl h0 hfit (by rw [List.getElem?_toArray]; exact ht) (h t)) hs
theorem strs_app : ∀ {vs us : List Value} {zs ys : List Str}, StrsAre vs zs → StrsAre us ys → StrsAre (vs ++ us) (zs ++ ys)
  | _, _, _, _, .nil, h => h
  | _, _, _, _, .cons k t r, h => .cons k t (strs_app r h)
theorem strs4 (a b c d : Tok) : StrsAre (#[Value.str sBegin a, Value.str sBegin b, Value.str sBegin c, Value.str sBegin d] : Array Value).toList four := .cons _ _ (.cons _ _ (.cons _ _ (.cons _ _ .nil)))
theorem strs1 (x : Str) (a : Tok) : StrsAre (#[Value.str x a] : Array Value).toList [x] := .cons _ _ .nil
theorem strs0 : StrsAre (#[] : Array Value).toList [] := .nil
theorem add_strs {a b : Addr} {vs : List Value} {its2 : Array Value} {zs ys : List Str} {n n2 : Nat} {Q : Value → Shared → Prop} (F : Fr h₀ L s.heap m) (N : News h₀ L s.heap news) (ha : (a, listOf vs.toArray n) ∈ news) (hb : (b, listOf its2 n2) ∈ news) (hi : StrsAre vs zs) (hj : StrsAre its2.toList ys)
    (h : ∀ D us h', Fr h₀ L h' m → News h₀ L h' ((D, listOf (List.toArray us) 0) :: news) → (∀ p ∈ news, p.1 < D) → StrsAre us (zs ++ ys) → Q (.ref D) { s with heap := h' })
    (hz : zs.length ≤ 10000) (hy : ys.length ≤ 10000) : wpAny (model prog w) A (binaryOp .Add (.ref a) (.ref b)) Q E s := by
  refine kmk_add_lit F N (PySem.IsL.isList (N _ ha).1) (PySem.IsL.isList (N _ hb).1) rfl (fun D h' F' N' l1 => h D _ h' F' N' l1 ?_) ?_
  · exact strs_app hi hj
  · rw [PySem.sizeLine_eq]
    have := StrsAre.length hi
    have := StrsAre.length hj
    simp only []
    omega
end
theorem liftO {h₀ hs g' h' : Heap} {L L' a : Addr} {o : Obj} {m' : Str → Option Value} {made news new : List (Addr × Obj)} (N : Hid (News h₀ L hs news)) (hw : (a, o) ∈ news) (hK : Keeps hs [a] g') (F' : Fr g' L' h' m') (N' : News h₀ L h' new) (h1 : (a, o) ∈ new) (h2 : AllIn made new) : News h₀ L h' (made ++ news) := by
  intro p hp
  rcases List.mem_append.mp hp with q | q
  · exact N' p (allIn_mem h2 p q)
  · by_cases e : p.1 = a
    · have e1 := (N.out p q).1
      have e2 := (N.out _ hw).1
      rw [e] at e1
      rw [e1] at e2
      have e3 : p = (a, o) := Prod.ext e (Option.some.inj e2)
      rw [e3]
      exact N' _ h1
    · exact ⟨F'.keep _ _ (hK _ _ (N.out p q).1 (fun h => e (List.mem_singleton.mp h))), (N.out p q).2⟩
abbrev DueC := Addr × List Value × List Str × Nat × Obj × Int × Tok
abbrev dLed (wd ca wa : Addr) (wo : Obj) (uz : List Value) (c : DueC) : List (Addr × Obj) := [(c.1, listOf c.2.1.toArray c.2.2.2.1), (wd, listOf uz.toArray 0), (ca, c.2.2.2.2.1), (wa, wo)]
abbrev dPs (c : DueC) : List (Str × Value) := [(Str.ofString "spot", .int c.2.2.2.2.2.1 c.2.2.2.2.2.2)]
abbrev dFa (ca : Addr) (c : DueC) : Prop := StrsAre c.2.1 c.2.2.1 ∧ c.2.2.2.2.1.data = .cell (some (.ref c.1)) ∧ @Ne Nat c.1 ca
abbrev dP (ws res : List Str) (c : DueC) : Prop := 0 ≤ c.2.2.2.2.2.1 ∧ c.2.2.2.2.2.1 ≤ ws.length ∧ DueSt ws res c.2.2.2.2.2.1 c.2.2.1
abbrev dStored : List Str := [Str.ofString "found", Str.ofString "one"]
theorem due_while {A : Around} {E : Value → Shared → Prop} {s : Shared} {h₀ : Heap} {L : Addr} {m₀ : Str → Option Value} {Q : Flow → Shared → Prop} {env : Env} {test : Expr} {body : List Stmt} {pos : Pos} {la wd xa ca wa : Addr} {uz : List Value} {xo wo co : Obj} {sp : Int} {tsp : Tok} {ws res : List Str}
    (F : Fr h₀ L s.heap m₀) (N : News h₀ L s.heap [(la, listOf #[] 0), (wd, listOf uz.toArray 0), (xa, xo), (ca, co), (wa, wo)]) (hc : co.data = .cell (some (.ref la))) (hk : m₀ (Str.ofString "spot") = some (.int sp tsp)) (h0 : 0 ≤ sp) (hl : sp ≤ ws.length) (hD : DueSt ws res sp []) (hla : @Ne Nat la ca)
    (turn : ∀ (fa : Addr) (us : List Value) (found : List Str) (cnt : Nat) (co' : Obj) (sp' : Int) (t' : Tok) (u : Str → Option Value) h tk, StrsAre us found → co'.data = .cell (some (.ref fa)) → @Ne Nat fa ca → 0 ≤ sp' → sp' ≤ ws.length → DueSt ws res sp' found →
      Fr h₀ L h (kstB (fun z => if dStored.contains z then u z else m₀ z) [(Str.ofString "spot", .int sp' t')]) → News h₀ L h [(fa, listOf us.toArray cnt), (wd, listOf uz.toArray 0), (ca, co'), (wa, wo)] →
      wpAny (model prog w) A (isTrue test env (eval test env)) (fun b s₂ => if b = true then wpAny (model prog w) A (execs body env) (KswPost h₀ L s (dLed wd ca wa wo uz) dPs (dFa ca) dStored m₀ (dP ws res) (fun c => dMu ws.length c.2.2.2.2.2.1) Q (fa, us, found, cnt, co', sp', t')) E s₂ else Q .next s₂) E { s with heap := h, toks := tk })
    (hE : PassesOwn (model prog w) A env E := by passes_own) :
    wpAny (model prog w) A (exec (.While test body [] pos) env) Q E s := by
  refine ksw_while (dLed wd ca wa wo uz) dPs (dFa ca) dStored (dP ws res) (fun c => dMu ws.length c.2.2.2.2.2.1) (la, [], [], 0, co, sp, tsp) F ?_ ⟨.nil, hc, hla⟩ ?_ ⟨h0, hl, hD⟩ ?_ hE
  · intro p hp
    refine N p ?_
    rcases List.mem_cons.mp hp with e | hp
    · rw [e]; exact .head _
    rcases List.mem_cons.mp hp with e | hp
    · rw [e]; exact .tail _ (.head _)
    rcases List.mem_cons.mp hp with e | hp
    · rw [e]; exact .tail _ (.tail _ (.tail _ (.head _)))
    · rw [List.mem_singleton.mp hp]; exact .tail _ (.tail _ (.tail _ (.tail _ (.head _))))
  · intro p hp
    rw [List.mem_singleton.mp hp]
    exact hk
  · rintro ⟨fa, us, found, cnt, co', sp', t'⟩ u h tk ⟨f1, f2, f3⟩ ⟨p1, p2, p3⟩ F' N'
    exact turn fa us found cnt co' sp' t' u h tk f1 f2 f3 p1 p2 p3 F' N'
theorem due_close {s : Shared} {h₀ h' : Heap} {L : Addr} {m₀ m' : Str → Option Value} {wd ca wa : Addr} {wo : Obj} {uz : List Value} {ws res : List Str} {c : DueC} {news : List (Addr × Obj)} {fa : Addr} {us : List Value} {found : List Str} {cnt tk : Nat} {co : Obj} {sp : Int} {t : Tok}
    (F : Fr h₀ L h' m') (N : News h₀ L h' news) (h3 : (ca, co) ∈ news) (hc : co.data = .cell (some (.ref fa))) (h1 : (fa, listOf us.toArray cnt) ∈ news) (h2 : (wd, listOf uz.toArray 0) ∈ news) (h4 : (wa, wo) ∈ news) (hne : @Ne Nat fa ca) (hs : StrsAre us found) (hk : m' (Str.ofString "spot") = some (.int sp t))
    (hr : ∀ z, (∀ p ∈ dPs (fa, us, found, cnt, co, sp, t), z ≠ p.1) → dStored.contains z = false → m' z = m₀ z) (hP : 0 ≤ sp ∧ sp ≤ ws.length ∧ DueSt ws res sp found ∧ dMu ws.length sp < dMu ws.length c.2.2.2.2.2.1) :
    KswEnd h₀ L s (dLed wd ca wa wo uz) dPs (dFa ca) dStored m₀ (dP ws res) (fun c => dMu ws.length c.2.2.2.2.2.1) c { s with heap := h', toks := tk } := by
  refine ksw_end (fa, us, found, cnt, co, sp, t) F N ?_ ⟨hs, hc, hne⟩ ?_ hr ⟨hP.1, hP.2.1, hP.2.2.1⟩ hP.2.2.2
  · intro p hp
    rcases List.mem_cons.mp hp with e | hp
    · rw [e]; exact h1
    rcases List.mem_cons.mp hp with e | hp
    · rw [e]; exact h2
    rcases List.mem_cons.mp hp with e | hp
    · rw [e]; exact h3
    · rw [List.mem_singleton.mp hp]; exact h4
  · intro p hp
    rw [List.mem_singleton.mp hp]
    exact hk
theorem due_same {u m₀ : Str → Option Value} {v' : Value} {z : Str} (hz : z ≠ Str.ofString "spot") (h : dStored.contains z = false) : kstB (fun z => if dStored.contains z then u z else m₀ z) [(Str.ofString "spot", v')] z = m₀ z := by
  show (if z = Str.ofString "spot" then _ else if dStored.contains z = true then u z else m₀ z) = m₀ z
  rw [if_neg hz, h]
  rfl
theorem due_con (wl : Addr) (us : List Value) (ws : List Str) (c : Nat) (news : List (Addr × Obj)) (name : Str) (res : List Str) :
  Con prog w (kTop w.params) p loose mean mg mb (.ref 307) [.ref wl] 4 120
    (fun h₀ h L => News h₀ L h news ∧ (wl, listOf us.toArray c) ∈ news ∧ StrsAre us ws ∧ ws.length ≤ 1000 ∧ (∀ x ∈ ws, x ∈ vocL) ∧ A0 (toks ws) name res)
    (fun h₀ L m s Q => ∀ q fl us' c' tn h' tk, StrsAre us' res → Fr h₀ L h' m → News h₀ L h' ((q, pairOf (.str name tn) (.ref fl)) :: (fl, listOf us'.toArray c') :: news) → Q (.ref q) { s with heap := h', toks := tk }) := by
  k_with_none
  w_top off
  k_with "my k_ne" => (refine neN ?_; (try dsimp only); first | exact Df.out (by assumption) | exact (Df.out (by assumption)).symm)
  k_with "my mine:enter" => (refine' enterK ?my_k1 ?my_k2 ?my_k3 ?my_k4 ?my_k5 ?my_kA ?my_kF ?my_kK ?my_k6 ?my_k7 ?my_k8 ?my_k9 ?my_kB ?_ ?my_c2 ?my_c3 ?my_c4 ?my_c5; (case my_kA => exact rfl); (case my_kF => exact rfl); (case my_kK => first | assumption | exact rfl); (case my_k1 => k_asm); (case my_k2 => k_asm); (case my_k3 => k_asm); (case my_k4 => k_asm); (case my_k5 => k_asm); (case my_k6 => k_is); (case my_k7 => k_is); (case my_k8 => ktr_room); (case my_k9 => first | exact BindsTo.of_eq rfl | exact binds_K (by k_in) rfl (by k_is) rfl rfl rfl); (case my_c5 => decide); (case my_kB => exact locs rfl); (case my_c2 => exact rfl); (case my_c3 => exact rfl); (case my_c4 => exact rfl); k_whole; intro g'W L'W h'W FG'W F'W N'W B'W X'W T'W hKpW; (try dsimp only); (try k_lift B'W); (try k_fold))
  k_with "my call ref" => (k_here; (with_reducible show wpAny _ _ (call (Value.ref 98) _ _) _ _ _); k_dflt (refine' letter_con _ _ _ _ _ _ _ _ _ _ _ _ _ _ _ _ _ _ _ _ ?my_k1 ?my_k2 ?my_k3 ?my_k4 ?my_k5 ?my_k6 ?my_k7 ?my_k8 ?_; (case my_k1 => k_asm); (case my_k2 => k_asm); (case my_k3 => k_asm); (case my_k4 => k_asm); (case my_k5 => first | exact rfl | assumption); (case my_k8 => k_asm); (case my_k6 => ktr_room); (case my_k7 => ktr_units); k_whole; intro h'W tk'W F'W N'W; (try dsimp only); (try k_sweep); (try k_fold)))
  k_with "my call ref" => (k_here; (with_reducible show wpAny _ _ (call (Value.ref 105) _ _) _ _ _); k_dflt (refine' digit_con _ _ _ _ _ _ _ _ _ _ _ _ _ _ _ _ _ _ _ _ ?my_k1 ?my_k2 ?my_k3 ?my_k4 ?my_k5 ?my_k6 ?my_k7 ?my_k8 ?_; (case my_k1 => k_asm); (case my_k2 => k_asm); (case my_k3 => k_asm); (case my_k4 => k_asm); (case my_k5 => first | exact rfl | assumption); (case my_k8 => k_asm); (case my_k6 => ktr_room); (case my_k7 => ktr_units); k_whole; intro h'W tk'W F'W N'W; (try dsimp only); (try k_sweep); (try k_fold)))
  k_with "my call ref" => (k_here; (show wpAny _ _ (call (Value.ref 141) [_] _) _ _ _); k_dflt (refine' char0_con _ _ _ _ _ _ _ _ _ _ _ _ _ _ _ _ _ _ _ _ _ _ _ _ _ _ _ _ _ _ ?my_k1 ?my_k2 ?my_k3 ?my_k4 ?my_k5 ?my_k6 ?my_k7 ?my_k8 ?_; (case my_k1 => k_asm); (case my_k2 => k_asm); (case my_k3 => k_asm); (case my_k4 => k_asm); (case my_k5 => first | exact rfl | assumption); (case my_k8 => (refine ⟨by k_asm, by first | assumption | k_mem, by first | assumption | k_mem, by assumption, by omega⟩)); (case my_k6 => ktr_room); (case my_k7 => ktr_units); k_whole; intro t'W h'W tk'W F'W N'W hl'W; (try dsimp only); (try k_sweep); (try k_fold)))
  k_with "my call ref" => (k_here; (show wpAny _ _ (call (Value.ref 141) [_, _] _) _ _ _); k_dflt (refine' char1_con _ _ _ _ _ _ _ _ _ _ _ _ _ _ _ _ _ _ _ _ _ _ _ _ _ _ _ _ _ _ _ _ ?my_k1 ?my_k2 ?my_k3 ?my_k4 ?my_k5 ?my_k6 ?my_k7 ?my_k8 ?_; (case my_k1 => k_asm); (case my_k2 => k_asm); (case my_k3 => k_asm); (case my_k4 => k_asm); (case my_k5 => first | exact rfl | assumption); (case my_k8 => (refine ⟨by k_asm, by first | assumption | k_mem, by first | assumption | k_mem, by assumption, by omega⟩)); (case my_k6 => ktr_room); (case my_k7 => ktr_units); k_whole; intro t'W h'W tk'W F'W N'W hl'W; (try dsimp only); (try k_sweep); (try k_fold)))
  k_with "my call ref" => (k_here; (show wpAny _ _ (call (Value.ref 80) _ _) _ _ _); k_dflt (refine' call_cls ?my_k1 ?my_k2 ?my_k3 ?my_k4 ?my_k5 ?my_k6 ?_; (case my_k1 => k_asm); (case my_k2 => k_asm); (case my_k3 => k_asm); (case my_k4 => k_is); (case my_k5 => k_is); (case my_k6 => k_is); k_whole; intro x'W d'W h'W F'W N'W l1 l2; (try k_lt l1); (try k_lt2 l2); (try k_sweep); walk_at "mine:enter"))
  k_with "my call ref" => (k_here; (with_reducible show wpAny _ _ (call (Value.ref 59) _ _) _ _ _); k_dflt (refine' errors_con _ _ _ _ _ _ _ _ _ _ _ _ _ _ _ _ _ _ ?my_k1 ?my_k2 ?my_k3 ?my_k4 ?my_k5 ?my_k6 ?my_k7 ?my_k8 ?_; (case my_k1 => k_asm); (case my_k2 => k_asm); (case my_k3 => k_asm); (case my_k4 => k_asm); (case my_k5 => first | exact rfl | assumption); (case my_k8 => k_asm); (case my_k6 => ktr_room); (case my_k7 => ktr_units); k_whole; intro q'W h'W tk'W F'W N'W; (try dsimp only); (try k_sweep); (try k_fold)))
  k_with "my call ref" => (k_here; (with_reducible show wpAny _ _ (call (Value.ref 228) _ _) _ _ _); k_dflt (refine' scanner_con _ _ _ _ _ _ _ _ _ _ _ _ _ _ _ _ _ _ _ _ _ ?my_k1 ?my_k2 ?my_k3 ?my_k4 ?my_k5 ?my_k6 ?my_k7 ?my_k8 ?_; (case my_k1 => k_asm); (case my_k2 => k_asm); (case my_k3 => k_asm); (case my_k4 => k_asm); (case my_k5 => first | exact rfl | assumption); (case my_k8 => k_asm); (case my_k6 => ktr_room); (case my_k7 => ktr_units); k_whole; intro x'W dx'W wa'W kws'W k1'W k2'W k3'W k4'W tp'W h'W tk'W hkw'W F'W N'W nq1'W nq2'W nq3'W; (try dsimp only); (try k_sweep); (try k_fold)))
  k_with "my call ref" => (k_here; (show wpAny _ _ (call (Value.ref 249) _ _) _ _ _); k_dflt (refine' call_cls ?my_k1 ?my_k2 ?my_k3 ?my_k4 ?my_k5 ?my_k6 ?_; (case my_k1 => k_asm); (case my_k2 => k_asm); (case my_k3 => k_asm); (case my_k4 => k_is); (case my_k5 => k_is); (case my_k6 => k_is); k_whole; intro x'W d'W h'W F'W N'W l1 l2; (try k_lt l1); (try k_lt2 l2); (try k_sweep); walk_at "mine:enter"))
  k_with "my call ref" => (k_here; (show wpAny _ _ (call (Value.ref 260) [_, _] _) _ _ _); (obtain ⟨n'W, k'W, v'W, ts'W, hI'W, hJ'W⟩ := j1_out (by assumption)); k_dflt (refine' imported_con _ _ _ _ _ _ _ _ _ _ _ _ _ _ _ _ _ _ _ _ _ _ _ _ _ _ _ _ _ _ _ _ _ _ _ _ _ _ _ _ _ _ _ _ _ _ _ _ ?my_k1 ?my_k2 ?my_k3 ?my_k4 ?my_k5 ?my_k6 ?my_k7 ?my_k8 ?_; (case my_k1 => k_asm); (case my_k2 => k_asm); (case my_k3 => k_asm); (case my_k4 => k_asm); (case my_k5 => first | exact rfl | assumption); (case my_k8 => (refine ⟨by k_asm, by first | assumption | k_mem, by first | assumption | k_mem, by first | assumption | k_mem, by first | assumption | k_mem, by k_updF, by assumption, by assumption, by assumption, by assumption⟩)); (case my_k6 => ktr_room); (case my_k7 => ktr_units); k_whole; intro pl'W tp'W q'W tn'W bg'W tb'W t'W td'W j1'W j2'W j3'W jk'W jv'W h'W tk'W F'W N'W hSt'W hle'W; (try dsimp only); (try k_sweep); (try (have nq0'W := names_ne N'W (by k_mem); obtain ⟨nq1'W, nq2'W, nq3'W⟩ := nq0'W));(try k_fold)))
  k_with "my call ref" => (k_here; (with_reducible show wpAny _ _ (call (Value.ref 288) _ _) _ _ _); k_dflt (refine' draw_con _ _ _ _ _ _ _ _ _ _ _ _ _ _ _ _ _ _ _ _ _ _ _ _ _ ?my_k1 ?my_k2 ?my_k3 ?my_k4 ?my_k5 ?my_k6 ?my_k7 ?my_k8 ?_; (case my_k1 => k_asm); (case my_k2 => k_asm); (case my_k3 => k_asm); (case my_k4 => k_asm); (case my_k5 => first | exact rfl | assumption); (case my_k8 => (refine ⟨by k_asm, by k_updF, by assumption, by first | assumption | omega, by omega, by omega⟩)); (case my_k6 => ktr_room); (case my_k7 => ktr_units); k_whole; intro us'W ns'W c'W r'W tr'W h'W tk'W hI'W hl'W F'W N'W h0'W h1'W; (try dsimp only); (try k_sweep); (try k_fold)))
  k_with "my call ref" => (k_here; (with_reducible show wpAny _ _ (call (Value.ref 302) _ _) _ _ _); k_dflt (refine' isname_con _ _ _ _ _ _ _ _ _ _ _ _ _ _ _ _ _ _ _ _ ?my_k1 ?my_k2 ?my_k3 ?my_k4 ?my_k5 ?my_k6 ?my_k7 ?my_k8 ?_; (case my_k1 => k_asm); (case my_k2 => k_asm); (case my_k3 => k_asm); (case my_k4 => k_asm); (case my_k5 => first | exact rfl | assumption); (case my_k8 => (refine ⟨by k_asm, by first | assumption | exact ix_voc (by assumption) (by first | exact ixL (by decide) (by decide) | exact ix0 (by assumption) (by assumption) (by assumption) | exact ix1 (by assumption) (by assumption) (by assumption) | exact ix2 (by assumption) (by assumption) (by assumption) | exact ix3 (by assumption) (by assumption) (by assumption))⟩)); (case my_k6 => ktr_room); (case my_k7 => ktr_units); k_whole; intro h'W tk'W F'W N'W; (try dsimp only); (try k_sweep); (try k_fold)))
  k_with "my mine:enterC" => (refine' enterC ?my_k1 ?my_k2 ?my_k3 ?my_k4 ?my_k5 ?my_kA ?my_kF ?my_kK ?my_k6 ?my_k7 ?my_k8 ?my_k9 ?my_kB ?my_kD ?_ ?my_c2 ?my_c3 ?my_c4; (case my_kA => exact rfl); (case my_kF => exact rfl); (case my_kK => first | assumption | exact rfl); (case my_k1 => k_asm); (case my_k2 => k_asm); (case my_k3 => k_asm); (case my_k4 => k_asm); (case my_k5 => k_asm); (case my_k6 => k_is); (case my_k7 => k_is); (case my_k8 => ktr_room); (case my_k9 => first | exact BindsTo.of_eq rfl | exact binds_K (by k_in) rfl (by k_is) rfl rfl rfl); (case my_kB => exact rfl); (case my_kD => decide +kernel); (case my_c2 => exact rfl); (case my_c3 => exact rfl); (case my_c4 => exact rfl); k_whole; intro g'W L'W h'W tk'W cells'W FG'W F'W N'W Y'W B'W X'W T'W l1 hKpW; (try k_lt l1); k_cells Y'W; (try simp only [List.cons_append, List.nil_append] at N'W); (try dsimp only); (try k_lift B'W); (try k_fold))
  k_with "my binaryOp Add ref ref" => (k_here; (with_reducible show wpAny _ _ (binaryOp _ (Value.ref _) (Value.ref _)) _ _ _); k_dflt (refine' add_strs ?my_F ?my_N ?my_a ?my_b ?my_i ?my_j ?_ ?my_z ?my_y; (case my_F => k_asm); (case my_N => k_asm); (case my_a => k_mem); (case my_b => k_mem); (case my_i => assumption); (case my_j => first | exact strs4 _ _ _ _ | exact strs1 _ _ | exact strs0); (case my_z => first | exact ws_len (by assumption) | exact found_len (by assumption) (by assumption) (by assumption) (by assumption)); (case my_y => exact Nat.le_of_ble_eq_true rfl)); intro D'W us'W h'W F'W N'W l1 hI'W; (try k_lt l1); (try k_sweep))
  k_with "my subscriptTail Name Name ref int" => (k_here; (with_reducible show wpAny _ _ (subscriptTail _ _ (Value.ref _) (Value.int _ _)) _ _ _); k_dflt (refine' item_strs ?my_N ?my_m ?my_i ?my_b ?_ ?my_k; (case my_N => k_asm); (case my_m => k_mem); (case my_i => assumption); (case my_b => first | exact ixL (by decide) (by decide) | exact ix0 (by assumption) (by assumption) (by assumption) | exact ix1 (by assumption) (by assumption) (by assumption) | exact ix2 (by assumption) (by assumption) (by assumption) | exact ix3 (by assumption) (by assumption) (by assumption)); (case my_k => with_unfolding_all rfl); k_whole); intro _)
  k_with "my subscriptTail Name Constant ref int" => (k_here; (with_reducible show wpAny _ _ (subscriptTail _ _ (Value.ref _) (Value.int _ _)) _ _ _); k_dflt (refine' item_strs ?my_N ?my_m ?my_i ?my_b ?_ ?my_k; (case my_N => k_asm); (case my_m => k_mem); (case my_i => assumption); (case my_b => first | exact ixL (by decide) (by decide) | exact ix0 (by assumption) (by assumption) (by assumption) | exact ix1 (by assumption) (by assumption) (by assumption) | exact ix2 (by assumption) (by assumption) (by assumption) | exact ix3 (by assumption) (by assumption) (by assumption)); (case my_k => with_unfolding_all rfl); k_whole); intro _)
  k_with "my subscriptTail Name BinOp ref int" => (k_here; (with_reducible show wpAny _ _ (subscriptTail _ _ (Value.ref _) (Value.int _ _)) _ _ _); k_dflt (refine' item_strs ?my_N ?my_m ?my_i ?my_b ?_ ?my_k; (case my_N => k_asm); (case my_m => k_mem); (case my_i => assumption); (case my_b => first | exact ixL (by decide) (by decide) | exact ix0 (by assumption) (by assumption) (by assumption) | exact ix1 (by assumption) (by assumption) (by assumption) | exact ix2 (by assumption) (by assumption) (by assumption) | exact ix3 (by assumption) (by assumption) (by assumption)); (case my_k => with_unfolding_all rfl); k_whole); intro _)
  k_with "my exec While" => k_extra "mine while"
  k_with "my KswEnd" => (k_dflt (refine' due_close ?my_F ?my_N ?my_n3 ?my_c ?my_n1 ?my_n2 ?my_n4 ?my_ne ?my_s ?my_k ?my_r ?my_P; (case my_F => k_asm); (case my_N => k_asm); (case my_n3 => k_mem); (case my_c => assumption); (case my_n1 => k_mem); (case my_n2 => k_mem); (case my_n4 => k_mem); (case my_ne => first | assumption | omega); (case my_s => assumption); (case my_k => with_unfolding_all rfl); (case my_r => (intro z h2 h3; have hz := h2 _ (.head _); first | exact due_same hz h3 | exact (if_neg hz).trans (due_same hz h3) | exact (if_neg hz).trans ((if_neg hz).trans (due_same hz h3)))); (case my_P => k_extra "turn end")))
  k_with "my CompEnd" => (k_dflt (lcg_end))
  unfold Con
  intro dp un gd cn cs a ccd cl outer A₀ base h₀ L m s Q E B F X T hk hd hu ⟨N, hwl, hW, hlen, hV, hA⟩ hret
  have Nm := one_news N hwl
  have hN := Hid.mk N
  clear N
  refine wpAny_call ?_
  k_dflt (walk_at "mine:enterC")
  k_with "mine while" => (k_here; k_dflt (refine' due_while (ws := ws) (res := res) ?F ?N ?c ?k ?a ?l ?D ?ne ?_ ?E; (case F => k_asm); (case N => k_asm); (case c => assumption); (case k => with_unfolding_all rfl); (case a => decide); (case l => (first | exact (due_st4 hV hA (by assumption) (by assumption) (by assumption) (by assumption)).1 | omega)); (case D => (first | exact (due_st4 hV hA (by assumption) (by assumption) (by assumption) (by assumption)).2 | exact due_st0i hV hA (by assumption) (by assumption) (by assumption) (by assumption) | exact due_st0s hV hA (by assumption) (by assumption) (by assumption))); (case ne => k_ne); (case E => passes_own); k_whole; intro fa us found cnt co' sp' t' kU kH kTk hs' hc' hne' hp0' hp1' hD' kFr kNews; (try k_fold)))
  k_with "turn end" => (first
    | exact turn_2c hV (by assumption) (by assumption) (by assumption) (by assumption) (by assumption) (by assumption)
    | exact turn_2a hV (by assumption) (by assumption) (by assumption) (by assumption) (by assumption) (by assumption) (by first | exact fa_in (by assumption) | exact fa_out (by assumption) (by assumption)) (by assumption)
    | exact turn_2b hV (by assumption) (by assumption) (by assumption) (by assumption) (by assumption) (by assumption) (by first | exact fa_in (by assumption) | exact fa_out (by assumption) (by assumption)) (by assumption)
    | exact turn_1a hV (by assumption) (by assumption) (by assumption) (by assumption) (by assumption) (by first | exact fa_in (by assumption) | exact fa_out (by assumption) (by assumption)) (by assumption)
    | exact turn_1b hV (by assumption) (by assumption) (by assumption) (by assumption) (by assumption) (by first | exact fa_in (by assumption) | exact fa_out (by assumption) (by assumption)) (by assumption)
    | exact turn_1c hV (by assumption) (by assumption) (by assumption) (by assumption) (by assumption) (by assumption))
  k_steps
  all_goals (
    rename News h₀ L _ _ => kN
    rename Fr h₀ L _ m => kF
    rename Keeps s.heap _ _ => hKp
    have hend := (by first
      | exact due_m hA (by assumption)
      | exact due_n hV hA (by assumption) (by assumption)
      | exact ⟨due_name hV hA (by assumption) (by assumption), (due_end2 hV (by assumption) (by assumption) (by assumption) (by assumption)).symm⟩
      | exact ⟨due_name hV hA (by assumption) (by assumption), (due_end (by assumption) (by assumption)).symm⟩ : name = _ ∧ res = _)
    obtain ⟨e1, e2⟩ := hend
    first
      | (subst e2; subst e1; exact hret _ _ [] _ _ _ _ .nil kF (liftO (made := [_, _]) hN hwl hKp (by assumption) kN (by k_mem) ⟨by k_mem, by k_mem, trivial⟩))
      | (subst e2; subst e1; exact hret _ _ _ _ _ _ _ (by assumption) kF (liftO (made := [_, _]) hN hwl hKp (by assumption) kN (by k_mem) ⟨by k_mem, by k_mem, trivial⟩)))
  k_with_none

end
section
variable {prog : Program} {w : World} {p : Program} {loose : List Str} {mean : ExcName → Option Value} {mg mb : Str → Option Value}
theorem strs_drop : ∀ {us : List Value} {zs : List Str}, StrsAre us zs → ∀ n, StrsAre (us.drop n) (zs.drop n)
  | _, _, .nil, _ => by simp only [List.drop_nil]; exact .nil
  | _, _, .cons k t r, 0 => .cons k t r
  | _, _, .cons _ _ r, n + 1 => strs_drop r n
theorem strs_take : ∀ {us : List Value} {zs : List Str}, StrsAre us zs → ∀ n, StrsAre (us.take n) (zs.take n)
  | _, _, .nil, _ => by simp only [List.take_nil]; exact .nil
  | _, _, .cons _ _ _, 0 => .nil
  | _, _, .cons k t r, n + 1 => .cons k t (strs_take r n)
theorem updF_upd {d : Addr} {o o' : Obj} : ∀ {l : List (Addr × Obj)} {g : Obj → List (Addr × Obj)}, UpdF d o l g → Upd d o o' l (g o')
  | _, _, .head h => .head h
  | _, _, .tail h r => .tail h (updF_upd r)
/-- a list of the law's words -/
structure VW (us : List Value) (zs : List Str) (n : Nat) : Prop where
  ss : StrsAre us zs
  voc : ∀ x ∈ zs, x ∈ vocL
  hi : zs.length ≤ n
theorem VW.mono {us : List Value} {zs : List Str} {n k : Nat} (h : VW us zs n) (e : n ≤ k) : VW us zs k := ⟨h.ss, h.voc, Nat.le_trans h.hi e⟩
theorem VW.snoc {us : List Value} {zs : List Str} {n : Nat} {x : Str} {t : Tok} (h : VW us zs n) (hx : x ∈ vocL) : VW (us ++ [.str x t]) (zs ++ [x]) (n + 1) := by
  refine ⟨strs_app h.ss (.cons x t .nil), fun y hy => ?_, ?_⟩
  · rcases List.mem_append.mp hy with q | q
    · exact h.voc y q
    · rw [List.mem_singleton.mp q]; exact hx
  · have := h.hi
    simp only [List.length_append, List.length_cons, List.length_nil]
    omega
section
variable {A : Around} {E : Value → Shared → Prop} {s : Shared} {h₀ : Heap} {L D b : Addr} {m : Str → Option Value} {news : List (Addr × Obj)} {g : Obj → List (Addr × Obj)} {us : List Value} {zs : List Str} {n c : Nat} {Q : Value → Shared → Prop}
theorem app_V {x : Str} {t : Tok} (F : Fr h₀ L s.heap m) (N : News h₀ L s.heap news) (U : UpdF D (listOf us.toArray c) news g) (hV : VW us zs n) (hx : x ∈ vocL) (hn : n ≤ 1000)
    (h : ∀ h' us' zs', Fr h₀ L h' m → News h₀ L h' (g (listOf us'.toArray (c + 1))) → VW us' zs' (n + 1) → zs'.length = zs.length + 1 → zs'.length ≤ n + 1 → Q .none { s with heap := h' }) : wpAny (model prog w) A (call (.builtin "list.append") [.ref D, .str x t]) Q E s := by
  have l1 := StrsAre.length hV.ss
  have l2 := hV.hi
  refine append_K F N (updF_upd U) (fun h' F' N' => h h' (us ++ [.str x t]) (zs ++ [x]) F' ?_ (hV.snoc hx) (by simp) (hV.snoc (t := t) hx).hi) ?_
  · rw [List.push_toArray] at N'
    exact N'
  · rw [PySem.sizeLine_eq, List.size_toArray]
    omega
theorem ext_V {x y : Str} {t u : Tok} {c2 : Nat} (F : Fr h₀ L s.heap m) (N : News h₀ L s.heap news) (hb : (b, listOf #[.str x t, .str y u] c2) ∈ news) (U : UpdF D (listOf us.toArray c) news g) (hV : VW us zs n) (hx : x ∈ vocL) (hy : y ∈ vocL) (hn : n ≤ 1000)
    (h : ∀ h' us' zs', Fr h₀ L h' m → News h₀ L h' (g (listOf us'.toArray (c + 1))) → VW us' zs' (n + 2) → zs'.length = zs.length + 2 → zs'.length ≤ n + 2 → Q .none { s with heap := h' }) : wpAny (model prog w) A (call (.builtin "list.extend") [.ref D, .ref b]) Q E s := by
  have l1 := StrsAre.length hV.ss
  have l2 := hV.hi
  have hW : VW (us ++ [.str x t] ++ [.str y u]) (zs ++ [x] ++ [y]) (n + 2) := (hV.snoc hx).snoc hy
  refine kl_extend F N hb (l := us ++ [.str x t] ++ [.str y u]) (by simp) (by simp) (updF_upd U) ?_ ?_ ?_ fun h' F' N' => h h' _ _ F' N' hW (by simp) hW.hi
  · have : Builtin.List.listTooLong (us.toArray.size + (#[Value.str x t, Value.str y u] : Array Value).size) = false := by
      have hz := PySem.sizeLine_eq
      simp only [Builtin.List.listTooLong, List.size_toArray, List.length_cons, List.length_nil]
      simp
      omega
    rw [this, Bool.and_false]
    exact Bool.false_ne_true
  · rw [PySem.sizeLine_eq]
    simp only []
    omega
  · rw [PySem.sizeLine_eq, List.size_toArray]
    simp only [List.size_toArray, List.length_cons, List.length_nil]
    omega
theorem len_V (N : News h₀ L s.heap news) (hm : (D, listOf us.toArray c) ∈ news) (hV : VW us zs n) (hn : n ≤ 1000)
    (h : Q (.int (zs.length : Int) (s.toks + 1)) { s with toks := s.toks + 1 + 1 }) : wpAny (model prog w) A (call (.builtin "len") [.ref D]) Q E s := by
  have l2 := hV.hi
  exact kst_len N hm (StrsAre.length hV.ss) (by omega) h
theorem menu_V {value slice : PySem.Expr} {its : Array Value} {ys : List Str} {k k1 : Int} {u : Tok} {n2 : Nat} (N : News h₀ L s.heap news) (hm : (D, listOf its n2) ∈ news) (hi : StrsAre its.toList ys)
    (h0 : 0 ≤ k) (h1 : k < k1) (hk : k1 = (ys.length : Int)) (hk2 : ys.length ≤ 1000) (h : ∀ x t, x ∈ ys → Q (.str x t) s)
    (hs : subscripted slice false (.ref D) (.int k u) = operate [.ref D, .int k u] (getItem (.ref D) (.int k u)) := by with_unfolding_all rfl) :
    wpAny (model prog w) A (subscriptTail value slice (.ref D) (.int k u)) Q E s := by
  refine item_strs (vs := its.toList) (n := n2) N (by rw [Array.toArray_toList]; exact hm) hi ⟨h0, by omega, by omega⟩ (fun t => h _ t ?_) hs
  have hlt : k.toNat < ys.length := by omega
  unfold getS
  rw [List.getD_eq_getElem?_getD, List.getElem?_eq_getElem hlt]
  exact List.getElem_mem hlt
theorem slice_V {value slice : PySem.Expr} {lo hi : Option Int} {vl vu : Value} (F : Fr h₀ L s.heap m) (N : News h₀ L s.heap news) (hm : (D, listOf us.toArray c) ∈ news) (hV : VW us zs n) (hn : n ≤ 1000) (pl : IsPart vl lo) (pu : IsPart vu hi)
    (h : ∀ D' us' zs' h', Fr h₀ L h' m → News h₀ L h' ((D', listOf (List.toArray us') 0) :: news) → (∀ p ∈ news, p.1 < D') → VW us' zs' n → Q (.ref D') { s with heap := h' })
    (hs : subscripted slice false (.ref D) (.ref s.heap.objs.size) = operate [.ref s.heap.objs.size, .ref D] (getItem (.ref D) (.ref s.heap.objs.size))) (ht : ∀ r, letTemporaryGo value (.ref D) r = pure ()) :
    wpAny (model prog w) A (subscriptTail value slice (.ref D) (.ref s.heap.objs.size)) Q E { s with heap := s.heap.push { cls := .type "slice", data := .fields #[vl, vu, .none] } } := by
  have l1 := StrsAre.length hV.ss
  have l2 := hV.hi
  refine kms_slice_lit F N (PySem.IsL.isList (N _ hm).1) pl pu rfl (fun D' h' F' N' l1 => h D' _ ((zs.drop (kms_lo lo us.length)).take (kms_hi hi us.length - kms_lo lo us.length)) h' F' N' l1 ⟨?_, ?_, ?_⟩) hs ht ?_
  · exact strs_take (strs_drop hV.ss _) _
  · intro x hx
    exact hV.voc x (List.mem_of_mem_drop (List.mem_of_mem_take hx))
  · rw [List.length_take, List.length_drop]
    omega
  · rw [PySem.sizeLine_eq, List.size_toArray]
    omega
theorem add_V {a : Addr} {vs : List Value} {ys : List Str} {n2 c2 : Nat} (F : Fr h₀ L s.heap m) (N : News h₀ L s.heap news) (ha : (a, listOf us.toArray c) ∈ news) (hb : (b, listOf vs.toArray c2) ∈ news) (hi : VW us zs n) (hj : VW vs ys n2) (hn : n ≤ 1000) (hn2 : n2 ≤ 1000)
    (h : ∀ D us' zs' h', Fr h₀ L h' m → News h₀ L h' ((D, listOf (List.toArray us') 0) :: news) → (∀ p ∈ news, p.1 < D) → VW us' zs' (n + n2) → Q (.ref D) { s with heap := h' }) : wpAny (model prog w) A (binaryOp .Add (.ref a) (.ref b)) Q E s := by
  have l1 := hi.hi
  have l2 := hj.hi
  refine add_strs F N ha hb hi.ss hj.ss (fun D us' h' F' N' l1 hS => h D us' (zs ++ ys) h' F' N' l1 ⟨hS, fun x hx => ?_, ?_⟩) (by omega) (by omega)
  · rcases List.mem_append.mp hx with q | q
    · exact hi.voc x q
    · exact hj.voc x q
  · rw [List.length_append]
    omega
end
theorem strsM3 {a b c : Str} (x y z : Tok) : StrsAre (#[Value.str a x, Value.str b y, Value.str c z] : Array Value).toList [a, b, c] := .cons _ _ (.cons _ _ (.cons _ _ .nil))
theorem strsM4 {a b c d : Str} (x y z u : Tok) : StrsAre (#[Value.str a x, Value.str b y, Value.str c z, Value.str d u] : Array Value).toList [a, b, c, d] := .cons _ _ (.cons _ _ (.cons _ _ (.cons _ _ .nil)))
theorem voc_m : ∀ x ∈ [Str.ofString "M", Str.ofString "Tools", Str.ofString "a1"], x ∈ vocL := by decide +kernel
theorem voc_i : ∀ x ∈ [Str.ofString "A", Str.ofString "B", Str.ofString "Out", Str.ofString "SYSTEM"], x ∈ vocL := by decide +kernel
theorem voc_module : Str.ofString "MODULE" ∈ vocL := by decide +kernel
theorem voc_import : Str.ofString "IMPORT" ∈ vocL := by decide +kernel
theorem voc_semi : Str.ofString ";" ∈ vocL := by decide +kernel
theorem voc_comma : Str.ofString "," ∈ vocL := by decide +kernel
theorem voc_is : Str.ofString ":=" ∈ vocL := by decide +kernel
theorem voc_par : Str.ofString "(" ∈ vocL := by decide +kernel
theorem vw_3 {x : Str} (hx : x ∈ [Str.ofString "M", Str.ofString "Tools", Str.ofString "a1"]) (t u v : Tok) : VW [.str (Str.ofString "MODULE") t, .str x u, .str (Str.ofString ";") v] [Str.ofString "MODULE", x, Str.ofString ";"] 3 := by
  refine ⟨.cons _ _ (.cons _ _ (.cons _ _ .nil)), fun y hy => ?_, Nat.le_refl _⟩
  rcases List.mem_cons.mp hy with q | q
  · rw [q]; exact voc_module
  rcases List.mem_cons.mp q with q | q
  · rw [q]; exact voc_m x hx
  · rw [List.mem_singleton.mp q]; exact voc_semi
theorem vw_1 (t : Tok) : VW [.str (Str.ofString "(") t] [Str.ofString "("] 1 :=
  ⟨.cons _ _ .nil, fun y hy => by rw [List.mem_singleton.mp hy]; exact voc_par, Nat.le_refl _⟩
theorem voc_x {k : Int} (h0 : 0 ≤ k) (h4 : k < 4) : Str.ofString "x" ++ Str.ofString (toString k) ∈ vocL := by
  have : k = 0 ∨ k = 1 ∨ k = 2 ∨ k = 3 := by omega
  rcases this with rfl | rfl | rfl | rfl <;> decide +kernel

end
section
variable {prog : Program} {w : World} {p : Program} {loose : List Str} {mean : ExcName → Option Value} {mg mb : Str → Option Value}
abbrev LawC := List Value × List Str × Nat × List Value × List Int × Nat
abbrev lLed (wl fq cc : Addr) (co : Obj) (c : LawC) : List (Addr × Obj) := [(wl, listOf c.1.toArray c.2.2.1), (fq, listOf c.2.2.2.1.toArray c.2.2.2.2.2), (cc, co)]
abbrev lPs (_ : LawC) : List (Str × Value) := []
abbrev lFa (_ : LawC) : Prop := True
structure LawP (pre : List Int) (c : LawC) : Prop where
  vw : VW c.1 c.2.1 (3 + 4 * pre.length)
  ne : 1 ≤ c.2.1.length
  isi : IntsAre c.2.2.2.1 c.2.2.2.2.1
  len : c.2.2.2.1.length ≤ 1000
theorem law_for {A : Around} {E : Value → Shared → Prop} {s : Shared} {env : Env} {h₀ : Heap} {x : Str} {body : List Stmt} {Q : Flow → Shared → Prop} {r : Addr} {b : Int} {t₀ u₀ v₀ : Tok} {m₀ : Str → Option Value} {news : List (Addr × Obj)} {wl fq cc : Addr} {co : Obj} {us fs : List Value} {zs : List Str} {fi : List Int} {cw cf : Nat}
    (hh : A.handled = none) (hr : IsRange s.heap r 0 b 1 t₀ u₀ v₀) (hb0 : 0 ≤ b) (hb : b < 5) (F : Fr h₀ env.locals s.heap m₀) (N : News h₀ env.locals s.heap news) (hw : (wl, listOf us.toArray cw) ∈ news) (hf : (fq, listOf fs.toArray cf) ∈ news) (hc : (cc, co) ∈ news)
    (_hn : m₀ (Str.ofString "words") = some (.ref wl)) (_hcc : env.cells.lookup (Str.ofString "figures") = some cc) (_hcd : co.data = .cell (some (.ref fq)))
    (hV : VW us zs 3) (hne : 1 ≤ zs.length) (hI : IntsAre fs fi) (hl : fs.length ≤ 1000)
    (turn : ∀ (us : List Value) (zs : List Str) (cw : Nat) (fs : List Value) (fi : List Int) (cf : Nat) (pre : List Int) (k : Int) t (u : Str → Option Value) h tk own, 0 ≤ k → k < 4 → pre.length < 4 → OwnOff own [wl, fq, cc] → VW us zs (3 + 4 * pre.length) → 1 ≤ zs.length → IntsAre fs fi → fs.length ≤ 1000 → (k = 0 → pre = []) →
      Fr h₀ env.locals h (fun y => if y = x then some (.int k t) else m₀ y) → News h₀ env.locals h ((wl, listOf us.toArray cw) :: (fq, listOf fs.toArray cf) :: (cc, co) :: own) →
      wpAny (model prog w) A (execs body env) (InvPostN h₀ env.locals (KstS (lLed wl fq cc co) lPs lFa x [] m₀ LawP (pre ++ [k])) own [wl, fq, cc] { s with heap := h, toks := tk } Q) E { s with heap := h, toks := tk })
    (done : ∀ (us : List Value) (zs : List Str) (cw : Nat) (fs : List Value) (fi : List Int) (cf : Nat) (u : Str → Option Value) h tk, VW us zs 19 → 1 ≤ zs.length → zs.length ≤ 19 → IntsAre fs fi → fs.length ≤ 1000 → Fr h₀ env.locals h (fun y => if y = x then u y else m₀ y) → News h₀ env.locals h [(wl, listOf us.toArray cw), (fq, listOf fs.toArray cf), (cc, co)] → Q .next { s with heap := h, toks := tk }) :
    wpAny (model prog w) A (pyIter (.ref r)) (fun it s₂ => LoopAtV prog w A h₀ env x body Q E it s₂) E s := by
  have em : ∀ (u : Str → Option Value), (kstB (fun z => if ([] : List Str).contains z then u z else m₀ z) []) = m₀ := by
    intro u
    funext z
    simp [kstB]
  refine kst_range (n := b.toNat) (lLed wl fq cc co) lPs lFa [] LawP (us, zs, cw, fs, fi, cf) hh hr (small_one (by decide) (by decide) (by omega) (by omega)) (by rw [rangeSize_nat, Int.sub_zero]) F (allIn_news N ⟨hw, hf, hc, trivial⟩) trivial (fun _ h => nomatch h) ⟨hV, hne, hI, hl⟩ ?_ ?_
  · rintro ⟨us, zs, cw, fs, fi, cf⟩ pre k t u h tk own hk hlt hoff _ hP F' N'
    have F' : Fr h₀ env.locals h (fun y => if y = x then some (.int k t) else (kstB (fun z => if ([] : List Str).contains z then u z else m₀ z) []) y) := F'
    rw [em u] at F'
    refine turn us zs cw fs fi cf pre k t u h tk own (by omega) (by omega) (by omega) hoff hP.vw hP.ne hP.isi hP.len (fun e => ?_) F' N'
    exact List.length_eq_zero_iff.mp (by omega)
  · rintro ⟨us, zs, cw, fs, fi, cf⟩ u h tk _ hP F' N'
    have F' : Fr h₀ env.locals h (fun y => if y = x then u y else (kstB (fun z => if ([] : List Str).contains z then u z else m₀ z) []) y) := F'
    rw [em u] at F'
    have hv : VW us zs 19 := hP.vw.mono (by rw [rangeKs_length]; omega)
    exact done us zs cw fs fi cf u h tk hv hP.ne hv.hi hP.isi hP.len F' N'
theorem law_close {s : Shared} {h₀ h' : Heap} {L wl fq cc : Addr} {co : Obj} {x : Str} {m₀ m' : Str → Option Value} {own news : List (Addr × Obj)} {pre : List Int} {k : Int} {us fs : List Value} {zs : List Str} {fi : List Int} {cw cf n tk : Nat}
    (F : Fr h₀ L h' m') (N : News h₀ L h' news) (h1 : (wl, listOf us.toArray cw) ∈ news) (h2 : (fq, listOf fs.toArray cf) ∈ news) (h3 : (cc, co) ∈ news) (ho : ∀ p ∈ own, p ∈ news) (hV : VW us zs n) (hn : n ≤ 3 + 4 * pre.length + 4) (hne : 1 ≤ zs.length) (hI : IntsAre fs fi) (hl : fs.length ≤ 1000) (hr : ∀ z, z ≠ x → m' z = m₀ z) :
    InvEndN h₀ L (KstS (lLed wl fq cc co) lPs lFa x [] m₀ LawP (pre ++ [k])) own [wl, fq, cc] s { s with heap := h', toks := tk } := by
  refine kst_end (us, zs, cw, fs, fi, cf) F N ?_ ho rfl trivial (fun _ h => nomatch h) (fun z hz _ _ => hr z hz) ⟨hV.mono ?_, hne, hI, hl⟩
  · intro p hp
    rcases List.mem_cons.mp hp with e | hp
    · rw [e]; exact h1
    rcases List.mem_cons.mp hp with e | hp
    · rw [e]; exact h2
    · rw [List.mem_singleton.mp hp]; exact h3
  · rw [List.length_append, List.length_singleton]
    omega

end
section
variable {prog : Program} {w : World} {p : Program} {loose : List Str} {mean : ExcName → Option Value} {mg mb : Str → Option Value}
abbrev lNews (wl fq cc : Addr) (co : Obj) (us : List Value) (cw : Nat) (fs : List Value) (cf : Nat) : List (Addr × Obj) := [(wl, listOf us.toArray cw), (fq, listOf fs.toArray cf), (cc, co)]
/-- one element of the source: the word and a gap -/
def LawEl (wl fq cc : Addr) (co : Obj) (us : List Value) (cw : Nat) (x : Str) (y : Value) (news' : List (Addr × Obj)) : Prop :=
  ∃ (fs : List Value) (fi : List Int) (cf : Nat) (g : Str) (t : Tok), news' = lNews wl fq cc co us cw fs cf ∧ IntsAre fs fi ∧ fs.length ≤ 1000 ∧ g ∈ gapL ∧ y = .str (x ++ g) t
theorem lawEl_mk {wl fq cc : Addr} {co : Obj} {us : List Value} {cw : Nat} {x : Str} {fs : List Value} {fi : List Int} {cf : Nat} {g : Str} {t : Tok} (hI : IntsAre fs fi) (hl : fs.length ≤ 1000) (hg : g ∈ gapL) : LawEl wl fq cc co us cw x (.str (x ++ g) t) (lNews wl fq cc co us cw fs cf) :=
  ⟨fs, fi, cf, g, t, rfl, hI, hl, hg, rfl⟩
/-- what the parts of the source are -/
structure Parts (ys : List Value) (zs : List Str) (l : List (Str × Str)) : Prop where
  words : l.map Prod.fst = zs
  gaps : ∀ p ∈ l, p.2 ∈ gapL
  ss : StrsAre ys (l.map fun p => p.1 ++ p.2)
theorem comp_law {A : Around} {s : Shared} {env : Env} {h₀ : Heap} {L : Addr} {m : Str → Option Value} {elt : Expr} {x : Str} {scope : Scope} {cl : List (Str × Addr)} {S : List (Addr × Obj) → Prop} {Fin : List Value → List (Addr × Obj) → Prop}
    {wl fq cc : Addr} {co : Obj} {us : List Value} {zs : List Str} {cw : Nat} {fs : List Value} {fi : List Int} {cf : Nat} (hW : StrsAre us zs) (hI : IntsAre fs fi) (hl : fs.length ≤ 1000)
    (turn : ∀ (z : Str) (t : Tok) (I : Addr) (oI : Obj) (C : Addr) (oC : Obj) (D : Addr) (m₂ : Str → Option Value) (ys : List Value) (fs : List Value) (fi : List Int) (cf : Nat) h tk (E' : Value → Shared → Prop), z ∈ zs → LCg.NsObj oC m₂ → m₂ x = some (.str z t) → IntsAre fs fi → fs.length ≤ 1000 → Fr h₀ L h m →
      News h₀ L h ((I, oI) :: (C, oC) :: (D, LCg.lst ys) :: lNews wl fq cc co us cw fs cf) → LCg.Off3 I C D (lNews wl fq cc co us cw fs cf) → ((@Ne Nat I C) ∧ (@Ne Nat I D) ∧ (@Ne Nat C D)) →
      wpAny (model prog w) A (eval elt (compEnvC scope cl C env)) (LCg.CompEnd h₀ L m { s with heap := h, toks := tk } I oI C oC D (LCg.lst ys) S (fun y news' => LawEl wl fq cc co us cw z y news')) E' { s with heap := h, toks := tk })
    (fin : ∀ ys l fs fi cf, Parts ys zs l → IntsAre fs fi → fs.length ≤ 1000 → Fin ys (lNews wl fq cc co us cw fs cf)) :
    LCg.CompRest prog w A h₀ L m env elt x scope cl s S (fun i v => us.toArray[i]? = some v) Fin us.toArray.size 0 [] (lNews wl fq cc co us cw fs cf) := by
  have key : ∀ (j i : Nat) (ys : List Value) (fs : List Value) (fi : List Int) (cf : Nat) (l : List (Str × Str)), i + j = zs.length → IntsAre fs fi → fs.length ≤ 1000 → Parts ys (zs.take i) l →
      LCg.CompRest prog w A h₀ L m env elt x scope cl s S (fun i v => us.toArray[i]? = some v) Fin j i ys (lNews wl fq cc co us cw fs cf) := by
    intro j
    induction j with
    | zero =>
      intro i ys fs fi cf l hi hI hl hp
      have e : i = zs.length := by omega
      subst e
      rw [List.take_length] at hp
      exact LCg.CompRest.zero (fin ys l fs fi cf hp hI hl)
    | succ j ih =>
      intro i ys fs fi cf l hi hI hl hp
      refine LCg.CompRest.succ ?_
      intro v I oI C oC D m₂ h tk E' hv hC hx F N off ne
      have hlt : i < zs.length := by omega
      obtain ⟨t, ht⟩ := strs_get hW (i := i) (d := sNone) hlt
      have hv' : v = .str zs[i] t := by
        have hv : us.toArray[i]? = some v := hv
        rw [List.getElem?_toArray, ht] at hv
        have := Option.some.inj hv
        rw [← this, List.getD_eq_getElem?_getD, List.getElem?_eq_getElem hlt]
        rfl
      rw [hv'] at hx
      refine wpAny_mono (turn zs[i] t I oI C oC D m₂ ys fs fi cf h tk E' (List.getElem_mem hlt) hC hx hI hl F N off ne) (fun y s₂ hq => ?_) fun _ _ e => e
      obtain ⟨h', tk', nw, e, F', N', off', hS, fs', fi', cf', g, u, hn, hI', hl', hg, hy⟩ := hq
      rw [hn] at N' off' hS
      refine ⟨h', tk', _, e, F', N', off', hS, ?_⟩
      rw [hy]
      refine ih (i + 1) _ fs' fi' cf' (l ++ [(zs[i], g)]) (by omega) hI' hl' ⟨?_, ?_, ?_⟩
      · rw [List.map_append, hp.words, List.take_add_one, List.getElem?_eq_getElem hlt]
        rfl
      · intro p hm
        rcases List.mem_append.mp hm with q | q
        · exact hp.gaps p q
        · rw [List.mem_singleton.mp q]; exact hg
      · rw [List.map_append]
        exact strs_app hp.ss (.cons _ _ .nil)
  have hsz : us.toArray.size = zs.length := by rw [List.size_toArray, StrsAre.length hW]
  rw [hsz]
  exact key zs.length 0 [] fs fi cf [] (by omega) hI hl ⟨rfl, (fun _ h => nomatch h), .nil⟩
theorem comp_src {A : Around} {s₁ : Shared} {env : Env} {h₀ : Heap} {L : Addr} {m : Str → Option Value} {elt : Expr} {x : Str} {scope : Scope} {cl : List (Str × Addr)} {Fin : Shared → List Value → List (Addr × Obj) → Prop} {news : List (Addr × Obj)}
    {wl fq cc : Addr} {co : Obj} {us : List Value} {zs : List Str} {cw : Nat} {fs : List Value} {fi : List Int} {cf n : Nat} (hh : A.handled = none) (F : Fr h₀ L s₁.heap m) (N : News h₀ L s₁.heap news) (hw : (wl, listOf us.toArray cw) ∈ news) (hcc : env.cells.lookup (Str.ofString "figures") = some cc) (hc : (cc, co) ∈ news) (hcd : co.data = .cell (some (.ref fq))) (hf : (fq, listOf fs.toArray cf) ∈ news)
    (hV : VW us zs n) (hn : n ≤ 1000) (hI : IntsAre fs fi) (hl : fs.length ≤ 1000)
    (turn : ∀ (z : Str) (t : Tok) (I : Addr) (oI : Obj) (C : Addr) (oC : Obj) (D : Addr) (m₂ : Str → Option Value) (ys : List Value) (fs : List Value) (fi : List Int) (cf : Nat) h tk (E' : Value → Shared → Prop), z ∈ zs → LCg.NsObj oC m₂ → m₂ x = some (.str z t) → IntsAre fs fi → fs.length ≤ 1000 → Fr h₀ L h m →
      News h₀ L h ((I, oI) :: (C, oC) :: (D, LCg.lst ys) :: (wl, listOf us.toArray cw) :: (fq, listOf fs.toArray cf) :: (cc, co) :: []) → ((@Ne Nat wl I) ∧ (@Ne Nat wl C) ∧ (@Ne Nat wl D)) ∧ ((@Ne Nat fq I) ∧ (@Ne Nat fq C) ∧ (@Ne Nat fq D)) ∧ ((@Ne Nat cc I) ∧ (@Ne Nat cc C) ∧ (@Ne Nat cc D)) → ((@Ne Nat I C) ∧ (@Ne Nat I D) ∧ (@Ne Nat C D)) →
      wpAny (model prog w) A (eval elt (compEnvC scope cl C env)) (LCg.CompEnd h₀ L m { s₁ with heap := h, toks := tk } I oI C oC D (LCg.lst ys) (LCg.SrcAt h₀ wl us.toArray) (fun y news' => LawEl wl fq cc co us cw z y news')) E' { s₁ with heap := h, toks := tk })
    (fin : ∀ (g : Heap) ys l fs fi cf, Parts ys zs l → IntsAre fs fi → fs.length ≤ 1000 → Fin { s₁ with heap := g } ys (lNews wl fq cc co us cw fs cf)) :
    LCg.CompSrc prog w A h₀ L m env elt x scope cl Fin (.ref wl) s₁ := by
  have hz : us.toArray.size ≤ sizeLine := by
    rw [PySem.sizeLine_eq, List.size_toArray, StrsAre.length hV.ss]
    have := hV.hi
    omega
  refine LCg.CompSrc.ledger hh F (allIn_news (a := lNews wl fq cc co us cw fs cf) N ⟨hw, hf, hc, trivial⟩) (.head _) hz fun g => comp_law hV.ss hI hl ?_ fun ys l fs fi cf hp hI hl => fin g ys l fs fi cf hp hI hl
  intro z t I oI C oC D m₂ ys fs fi cf h tk E' hz hC hx hI hl F N off ne
  exact turn z t I oI C oC D m₂ ys fs fi cf h tk E' hz hC hx hI hl F N ⟨off.1, off.2.1, off.2.2.1⟩ ne

end
section
variable {prog : Program} {w : World} {p : Program} {loose : List Str} {mean : ExcName → Option Value} {mg mb : Str → Option Value}
theorem voc_len : ∀ x ∈ vocL, x.length ≤ 8 := by decide +kernel
theorem gap_len : ∀ x ∈ gapL, x.length ≤ 40 := by decide +kernel
/-- the source that the law builds, ahead of its tail -/
def srcS (l : List (Str × Str)) : Str := PySem.Txt.join (Str.ofString "") (l.map fun p => p.1 ++ p.2)
theorem join_empty (x : Str) (r : List Str) : (PySem.Txt.join (Str.ofString "") (x :: r)).cps = (x ++ PySem.Txt.join (Str.ofString "") r).cps := by
  have z : (Str.ofString "").cps = #[] := by decide +kernel
  show (Builtin.Str.glued (Str.ofString "") (x :: r)).cps = (x ++ Builtin.Str.glued (Str.ofString "") r).cps
  rw [StrLaws.glued_eq_join, StrLaws.glued_eq_join]
  cases r with
  | nil =>
    show x.cps = (x ++ PySem.Str.empty).cps
    rw [PySem.Str.cps_append]
    exact (Array.append_empty).symm
  | cons y r =>
    show (x ++ Str.ofString "" ++ PySem.Str.join (Str.ofString "") (y :: r)).cps = _
    rw [PySem.Str.cps_append, PySem.Str.cps_append, PySem.Str.cps_append, z, Array.append_empty]
theorem srcS_cps : ∀ (l : List (Str × Str)), (srcS l).cps.toList = srcN l
  | [] => rfl
  | p :: l => by
    have ih := srcS_cps l
    unfold srcS at ih ⊢
    rw [List.map_cons, join_empty, PySem.Str.cps_append, PySem.Str.cps_append, Array.toList_append, Array.toList_append, ih, List.append_assoc]
    rfl
theorem parts_mem {ys : List Value} {zs : List Str} {l : List (Str × Str)} (hp : Parts ys zs l) (hv : ∀ x ∈ zs, x ∈ vocL) : ∀ p ∈ l, p.1 ∈ vocL ∧ p.2 ∈ gapL := fun p hm =>
  ⟨hv _ (by rw [← hp.words]; exact List.mem_map_of_mem hm), hp.gaps p hm⟩
theorem parts_sum {l : List (Str × Str)} (h : ∀ p ∈ l, p.1 ∈ vocL ∧ p.2 ∈ gapL) : ((l.map fun p => p.1 ++ p.2).map (·.length)).sum ≤ 48 * l.length := by
  induction l with
  | nil => exact Nat.le_refl _
  | cons p l ih =>
    have i := ih fun q hq => h q (.tail _ hq)
    have h1 := voc_len _ (h p (.head _)).1
    have h2 := gap_len _ (h p (.head _)).2
    simp only [List.map_cons, List.sum_cons, List.length_cons, PySem.Str.length_append] at i ⊢
    omega
theorem srcN_len {l : List (Str × Str)} (h : ∀ p ∈ l, p.1 ∈ vocL ∧ p.2 ∈ gapL) : (srcN l).length ≤ 48 * l.length := by
  induction l with
  | nil => exact Nat.le_refl _
  | cons p l ih =>
    have i := ih fun q hq => h q (.tail _ hq)
    have h1 := voc_len _ (h p (.head _)).1
    have h2 := gap_len _ (h p (.head _)).2
    simp only [srcN, List.length_append, List.length_cons, Str.length, Array.length_toList] at i h1 h2 ⊢
    omega
theorem srcS_len {l : List (Str × Str)} (h : ∀ p ∈ l, p.1 ∈ vocL ∧ p.2 ∈ gapL) : (srcS l).length ≤ 48 * l.length := by
  have := srcN_len h
  rw [← srcS_cps] at this
  simpa [Str.length] using this
theorem tail_len : sTail.length ≤ 30 := by decide +kernel
/-- the finished source: its length, its tokens -/
theorem src_st {l : List (Str × Str)} (h : ∀ p ∈ l, p.1 ∈ vocL ∧ p.2 ∈ gapL) : St (srcS l ++ sTail) 0 (toks (l.map Prod.fst)) := by
  refine ⟨(srcS l ++ sTail).cps.toList, ⟨Int.le_refl _, rfl⟩, ?_⟩
  rw [PySem.Str.cps_append, Array.toList_append, srcS_cps]
  exact strm_src h
theorem src_len {l : List (Str × Str)} (h : ∀ p ∈ l, p.1 ∈ vocL ∧ p.2 ∈ gapL) (hl : l.length ≤ 1000) : (srcS l ++ sTail).length ≤ 1000000 := by
  have h1 := srcS_len h
  have h2 := tail_len
  rw [PySem.Str.length_append]
  omega
/-- a text is the words with their gaps -/
def Src (S : Str) (zs : List Str) : Prop := ∃ l, S = srcS l ∧ l.map Prod.fst = zs ∧ ∀ p ∈ l, p.1 ∈ vocL ∧ p.2 ∈ gapL
theorem parts_len {ys : List Value} {zs : List Str} {l : List (Str × Str)} (hp : Parts ys zs l) (hl : zs.length ≤ 1000) : l.length ≤ 1000 := by
  have := congrArg List.length hp.words
  rw [List.length_map] at this
  omega
section
variable {A : Around} {E : Value → Shared → Prop} {s : Shared} {h₀ : Heap} {L D : Addr} {m : Str → Option Value} {news : List (Addr × Obj)} {Q : Value → Shared → Prop} {t u : Tok}
theorem add_vg {zs : List Str} {z g : Str} (hz : z ∈ zs) (hv : ∀ x ∈ zs, x ∈ vocL) (hg : g ∈ gapL) (h : ∀ t' k, Q (.str (z ++ g) t') { s with toks := k }) : wpAny (model prog w) A (binaryOp .Add (.str z t) (.str g u)) Q E s :=
  KXadd.add (voc_len z (hv z hz)) (gap_len g hg) (by decide) fun t' k _ => h t' k
theorem join_src {ys : List Value} {zs : List Str} {l : List (Str × Str)} (N : News h₀ L s.heap news) (hm : (D, LCg.lst ys) ∈ news) (hp : Parts ys zs l) (hv : ∀ x ∈ zs, x ∈ vocL) (hl : zs.length ≤ 1000)
    (h : ∀ S t' k, Src S zs → Q (.str S t') { s with toks := k }) : wpAny (model prog w) A (call (.builtin "str.join") [.str (Str.ofString "") t, .ref D]) Q E s := by
  have hll := parts_len hp hl
  refine join_list (PySem.IsL.isList (N _ hm).1) (by simpa using hp.ss) ?_ fun t' k => h _ t' k ⟨l, rfl, hp.words, parts_mem hp hv⟩
  have h1 := parts_sum (parts_mem hp hv)
  have h2 : (Str.ofString "").length = 0 := by decide +kernel
  rw [h2]
  omega
theorem add_tail {S : Str} {zs : List Str} (h : Src S zs) (hl : zs.length ≤ 1000) (hq : ∀ S' t' k, S'.length ≤ 1000000 → St S' 0 (toks zs) → Q (.str S' t') { s with toks := k }) : wpAny (model prog w) A (binaryOp .Add (.str S t) (.str sTail u)) Q E s := by
  obtain ⟨l, rfl, hw, hp⟩ := h
  have hll : l.length ≤ 1000 := by
    rw [← hw, List.length_map] at hl
    exact hl
  refine KXadd.add (Nat.le_trans (srcS_len hp) (Nat.mul_le_mul_left 48 hll)) tail_len (by decide) fun t' k _ => hq _ t' k (src_len hp hll) ?_
  rw [← hw]
  exact src_st hp
theorem list_V {us : List Value} {zs : List Str} {c : Nat} (F : Fr h₀ L s.heap m) (N : News h₀ L s.heap news) (hm : (D, listOf us.toArray c) ∈ news) (hS : StrsAre us zs) (hl : zs.length ≤ 1001)
    (h : ∀ D' c' h', Fr h₀ L h' m → News h₀ L h' ((D', listOf us.toArray c') :: news) → (∀ q ∈ news, q.1 < D') → Q (.ref D') { s with heap := h' }) : wpAny (model prog w) A (call (.type "list") [.ref D]) Q E s := by
  refine list_copyK F N (PySem.IsL.isList (N _ hm).1) h ?_
  rw [PySem.sizeLine_eq, List.size_toArray, StrsAre.length hS]
  omega
end
theorem imp1_len {t k : Str × Str} {ts ts' : TS} {n : Str} (h : imp1 t ts = some (n, k, ts')) : ts'.length ≤ ts.length := by
  unfold imp1 imp2 imp3 at h
  repeat' split at h
  all_goals first
    | (injection h with h; injection h with h1 h2; injection h2 with h2 h3; subst h3; (try simp only [List.length_cons]); omega)
    | (cases h; done)
theorem imps_len {ts : TS} {names res : List Str} (h : Imps ts names res) : res.length ≤ names.length + ts.length := by
  induction h with
  | @mk t ts ts' n k v names res a b c ih =>
    have h1 := imp1_len a
    have h2 := addN_len names n
    by_cases hc : k = sComma ∧ n ≠ sNone
    · have := ih hc.1 hc.2
      simp only [List.length_cons]
      omega
    · rw [c hc]
      simp only [List.length_cons]
      omega
theorem a0_len {ts : TS} {name : Str} {res : List Str} (h : A0 ts name res) : res.length ≤ ts.length := by
  obtain ⟨t0, ts0, e0, k0⟩ := h.out
  by_cases c0 : t0.1 = sModule
  · obtain ⟨t1, ts1, e1, k1⟩ := k0.yes c0
    by_cases c1 : t1.1 = sIdent
    · obtain ⟨t2, ts2, e2, k2⟩ := k1.yes c1
      by_cases c2 : t2.1 = sSemi
      · obtain ⟨t3, ts3, e3, k3⟩ := k2.yes c2
        by_cases c3 : t3.1 = sImport
        · have := imps_len (k3.yes c3).2
          subst e3 e2 e1 e0
          simp only [List.length_cons, List.length_nil] at this ⊢
          omega
        · rw [(k3.no c3).2]; exact Nat.zero_le _
      · rw [(k2.no c2).2]; exact Nat.zero_le _
    · rw [(k1.no c1).2]; exact Nat.zero_le _
  · rw [(k0.no c0).2]; exact Nat.zero_le _
theorem res_len {zs : List Str} {name : Str} {res : List Str} (h : A0 (toks zs) name res) (hl : zs.length ≤ 1000) : res.length ≤ 1001 := by
  have := a0_len h
  simp only [toks, List.length_append, List.length_map, List.length_cons, List.length_nil] at this
  omega
def TOk (t : Str × Str) : Prop := PyData.strOk t.2 = true
theorem imp1_ok {t k : Str × Str} {ts ts' : TS} {n : Str} (h : imp1 t ts = some (n, k, ts')) (ht : TOk t) (hs : ∀ x ∈ ts, TOk x) : PyData.strOk n = true ∧ ∀ x ∈ ts', TOk x := by
  have hz : PyData.strOk sNone = true := by decide +kernel
  unfold imp1 imp2 imp3 at h
  repeat' split at h
  all_goals first
    | (injection h with h; injection h with h1 h2; injection h2 with h2 h3; subst h1 h3
       first
        | exact ⟨hz, hs⟩
        | exact ⟨ht, fun x hx => hs x (.tail _ hx)⟩
        | exact ⟨hz, fun x hx => hs x (.tail _ hx)⟩
        | exact ⟨hz, fun x hx => hs x (.tail _ (.tail _ hx))⟩
        | exact ⟨hs _ (.tail _ (.head _)), fun x hx => hs x (.tail _ (.tail _ (.tail _ hx)))⟩)
    | (cases h; done)
theorem addN_ok {names : List Str} {n : Str} (h : ∀ x ∈ names, PyData.strOk x = true) (hn : PyData.strOk n = true) : ∀ x ∈ addN names n, PyData.strOk x = true := by
  intro x hx
  unfold addN at hx
  split at hx
  · rcases List.mem_append.mp hx with q | q
    · exact h x q
    · rw [List.mem_singleton.mp q]; exact hn
  · exact h x hx
theorem imps_ok {ts : TS} {names res : List Str} (h : Imps ts names res) : (∀ t ∈ ts, TOk t) → (∀ x ∈ names, PyData.strOk x = true) → ∀ x ∈ res, PyData.strOk x = true := by
  induction h with
  | @mk t ts ts' n k v names res a b c ih =>
    intro hT hN
    obtain ⟨h1, h2⟩ := imp1_ok a (hT _ (.head _)) fun x hx => hT x (.tail _ hx)
    by_cases hc : k = sComma ∧ n ≠ sNone
    · exact ih hc.1 hc.2 h2 (addN_ok hN h1)
    · rw [c hc]
      exact addN_ok hN h1
theorem a0_ok {ts : TS} {name : Str} {res : List Str} (h : A0 ts name res) (hT : ∀ t ∈ ts, TOk t) : PyData.strOk name = true ∧ ∀ x ∈ res, PyData.strOk x = true := by
  have hz : PyData.strOk sNone = true := by decide +kernel
  have hn : ∀ x ∈ ([] : List Str), PyData.strOk x = true := fun _ h => nomatch h
  obtain ⟨t0, ts0, rfl, k0⟩ := h.out
  by_cases c0 : t0.1 = sModule
  · obtain ⟨t1, ts1, rfl, k1⟩ := k0.yes c0
    by_cases c1 : t1.1 = sIdent
    · obtain ⟨t2, ts2, rfl, k2⟩ := k1.yes c1
      have h1 : PyData.strOk t1.2 = true := hT t1 (.tail _ (.head _))
      by_cases c2 : t2.1 = sSemi
      · obtain ⟨t3, ts3, rfl, k3⟩ := k2.yes c2
        by_cases c3 : t3.1 = sImport
        · obtain ⟨e, hI⟩ := k3.yes c3
          rw [e]
          exact ⟨h1, imps_ok hI (fun t ht => hT t (.tail _ (.tail _ (.tail _ (.tail _ ht))))) hn⟩
        · rw [(k3.no c3).1, (k3.no c3).2]; exact ⟨h1, hn⟩
      · rw [(k2.no c2).1, (k2.no c2).2]; exact ⟨h1, hn⟩
    · rw [(k1.no c1).1, (k1.no c1).2]; exact ⟨hz, hn⟩
  · rw [(k0.no c0).1, (k0.no c0).2]; exact ⟨hz, hn⟩
theorem voc_ok : ∀ x ∈ vocL, PyData.strOk (tokOf x).2 = true := by decide +kernel
theorem res_ok {zs : List Str} {name : Str} {res : List Str} (h : A0 (toks zs) name res) (hv : ∀ x ∈ zs, x ∈ vocL) : PyData.strOk name = true ∧ res.all PyData.strOk = true := by
  obtain ⟨h1, h2⟩ := a0_ok h fun t ht => by
    rcases List.mem_append.mp ht with q | q
    · obtain ⟨x, hx, e⟩ := List.mem_map.mp q
      rw [← e]
      exact voc_ok x (hv x hx)
    · rw [List.mem_singleton.mp q]
      show PyData.strOk sNone = true
      decide +kernel
  exact ⟨h1, List.all_eq_true.mpr h2⟩
theorem depth_strs : ∀ l : List Str, PyData.depthAll (l.map PyData.str) = 0
  | [] => rfl
  | _ :: r => by simp [PyData.depthAll, PyData.depth, depth_strs r]
theorem pair_shaped {x : Str} {l : List Str} (hx : PyData.strOk x = true) (hl : l.all PyData.strOk = true) : SeqAt.shaped (.tuple [.str x, .list (l.map PyData.str)]) = true := by
  have h1 := canLayAll_strs' l
  rw [hl] at h1
  simp [SeqAt.shaped, PyData.canLay0, PyData.canLayAll0, PyData.depth, PyData.depthAll, h1, depth_strs, hx]
theorem eq_pairs {A : Around} {E : Value → Shared → Prop} {s : Shared} {h₀ : Heap} {L a b la lb : Addr} {news : List (Addr × Obj)} {Q : Value → Shared → Prop} {us vs : List Value} {x : Str} {t u : Tok} {res : List Str} {c c' n n' : Nat}
    (N : News h₀ L s.heap news) (h1 : (a, { cls := .type "tuple", data := .seq #[.str x t, .ref la] n }) ∈ news) (h2 : (b, { cls := .type "tuple", data := .seq #[.str x u, .ref lb] n' }) ∈ news) (h3 : (la, listOf us.toArray c) ∈ news) (h4 : (lb, listOf vs.toArray c') ∈ news)
    (S1 : StrsAre us res) (S2 : StrsAre vs res) (hok : PyData.strOk x = true ∧ res.all PyData.strOk = true) (hu : A.units + 64 < cLine) (h : Q (.bool true) s) : wpAny (model prog w) A (compareOp .Eq (.ref a) (.ref b)) Q E s := by
  have r : ∀ {a la : Addr} {us : List Value} {t : Tok} {c n : Nat}, (a, ({ cls := .type "tuple", data := .seq #[.str x t, .ref la] n } : Obj)) ∈ news → (la, listOf us.toArray c) ∈ news → StrsAre us res → Reads s.heap (.ref a) (.tuple [.str x, .list (res.map PyData.str)]) ([] ++ ([la] ++ [])) :=
    fun h1 h3 S => reads_tuple_at (News.get N h1) rfl rfl (.cons (.str _ _) (.cons (reads_newData (PySem.IsL.isList (N _ h3).1) S.carried) .nil))
  refine eq_dataH (r h1 h3 S1) (r h2 h4 S2) (pair_shaped hok.1 hok.2) (pair_shaped hok.1 hok.2) hu ?_
  rw [SeqAt.eqv_refl _ (SeqAt.canLay_of_shaped (pair_shaped hok.1 hok.2))]
  exact h

end
section
variable {prog : Program} {w : World} {p : Program} {loose : List Str} {mean : ExcName → Option Value} {mg mb : Str → Option Value}
def LawMid (h₀ : Heap) (L cc : Addr) (s₀ s' : Shared) : Prop :=
  ∃ (h : Heap) (tk : Nat) (m : Str → Option Value) (us fs : List Value) (zs : List Str) (fi : List Int) (cw cf : Nat) (wl fq : Addr) (co : Obj), s' = { s₀ with heap := h, toks := tk } ∧
    Fr h₀ L h (fun z => if z = Str.ofString "words" then some (.ref wl) else m z) ∧ co.data = .cell (some (.ref fq)) ∧ News h₀ L h [(wl, listOf us.toArray cw), (fq, listOf fs.toArray cf), (cc, co)] ∧ VW us zs 1000 ∧ IntsAre fs fi ∧ fs.length ≤ 1000 ∧ @Ne Nat wl fq ∧ @Ne Nat wl cc ∧ @Ne Nat fq cc
theorem law_mid {h₀ h : Heap} {L cc : Addr} {s₀ : Shared} {tk : Nat} {m : Str → Option Value} {us fs : List Value} {zs : List Str} {fi : List Int} {cw cf n : Nat} {wl fq : Addr} {co : Obj} {news : List (Addr × Obj)}
    (F : Fr h₀ L h m) (hm : m (Str.ofString "words") = some (.ref wl)) (hc : co.data = .cell (some (.ref fq))) (N : News h₀ L h news) (h1 : (wl, listOf us.toArray cw) ∈ news) (h2 : (fq, listOf fs.toArray cf) ∈ news) (h3 : (cc, co) ∈ news) (hV : VW us zs n) (hn : n ≤ 1000) (hI : IntsAre fs fi) (hl : fs.length ≤ 1000) (e1 : @Ne Nat wl fq) (e2 : @Ne Nat wl cc) (e3 : @Ne Nat fq cc) :
    LawMid h₀ L cc s₀ { s₀ with heap := h, toks := tk } := by
  have e : m = fun z => if z = Str.ofString "words" then some (.ref wl) else m z := by
    funext z
    by_cases hz : z = Str.ofString "words"
    · rw [if_pos hz, hz, hm]
    · rw [if_neg hz]
  exact ⟨h, tk, m, us, fs, zs, fi, cw, cf, wl, fq, co, rfl, e ▸ F, hc, allIn_news N ⟨h1, h2, h3, trivial⟩, hV.mono hn, hI, hl, e1, e2, e3⟩
theorem law_cut {M : Model} {A : Around} {env : Env} {Q : Flow → Shared → Prop} {E : Value → Shared → Prop} {s : Shared} {x0 x1 x2 x3 x4 x5 x6 : Stmt} {post : List Stmt} {h₀ : Heap} {L cc : Addr} {m₀ : Str → Option Value} (_F : Fr h₀ L s.heap m₀) (_hc : env.cells.lookup (Str.ofString "figures") = some cc)
    (ht : ∀ s', LawMid h₀ L cc s s' → wpAny M A (execs post env) Q E s') (h : (∀ s', LawMid h₀ L cc s s' → wpAny M A (execs post env) Q E s') → wpAny M A (execs (x0 :: x1 :: x2 :: x3 :: x4 :: x5 :: x6 :: post) env) Q E s) : wpAny M A (execs (x0 :: x1 :: x2 :: x3 :: x4 :: x5 :: x6 :: post) env) Q E s := h ht
theorem base_of {h₀ h b : Heap} {L : Addr} {m : Str → Option Value} (_F : Fr h₀ L h m) (B : Below callerA b [] b) (e : b = h₀) : Below callerA h₀ [] h₀ := e ▸ B
theorem as_envX {M : Model} {cn : Str} {cs : Scope} {L a : Addr} {cd : Value} {cl : List (Str × Addr)} {b : List Stmt} {Q : Flow → Shared → Prop} {E : Value → Shared → Prop} {s : Shared} {h₀ : Heap} {m₀ : Str → Option Value} (_F : Fr h₀ L s.heap m₀) (hq : ∀ h tk m, Fr h₀ L h m → Q (.ret (.bool true)) { s with heap := h, toks := tk })
  (h : ∀ Q' : Flow → Shared → Prop, (∀ h tk m, Fr h₀ L h m → Q' (.ret (.bool true)) { s with heap := h, toks := tk }) → wpAny M (callerA.deeper (envX cn cs L a cd cl)) (execs b (envX cn cs L a cd cl)) Q' E s) : wpAny M (callerA.deeper (envX cn cs L a cd cl)) (execs b (envX cn cs L a cd cl)) Q E s := h Q hq
theorem law_walk : PySem.Challenge.rw_on0211_01.Holds := by
  k_with_none
  k_with "my k_ne" => (refine neN ?_; (try dsimp only); first | exact Df.out (by assumption) | exact (Df.out (by assumption)).symm)
  k_with "my mine:enter" => (refine' enterK ?my_k1 ?my_k2 ?my_k3 ?my_k4 ?my_k5 ?my_kA ?my_kF ?my_kK ?my_k6 ?my_k7 ?my_k8 ?my_k9 ?my_kB ?_ ?my_c2 ?my_c3 ?my_c4 ?my_c5; (case my_kA => exact rfl); (case my_kF => exact rfl); (case my_kK => first | assumption | exact rfl); (case my_k1 => k_asm); (case my_k2 => k_asm); (case my_k3 => k_asm); (case my_k4 => k_asm); (case my_k5 => k_asm); (case my_k6 => k_is); (case my_k7 => k_is); (case my_k8 => ktr_room); (case my_k9 => first | exact BindsTo.of_eq rfl | exact binds_K (by k_in) rfl (by k_is) rfl rfl rfl); (case my_c5 => decide); (case my_kB => exact locs rfl); (case my_c2 => exact rfl); (case my_c3 => exact rfl); (case my_c4 => exact rfl); k_whole; intro g'W L'W h'W FG'W F'W N'W B'W X'W T'W hKpW; (try dsimp only); (try k_lift B'W); (try k_fold))
  k_with "my call ref" => (k_here; (with_reducible show wpAny _ _ (call (Value.ref 98) _ _) _ _ _); k_dflt (refine' letter_con _ _ _ _ _ _ _ _ _ _ _ _ _ _ _ _ _ _ _ _ ?my_k1 ?my_k2 ?my_k3 ?my_k4 ?my_k5 ?my_k6 ?my_k7 ?my_k8 ?_; (case my_k1 => k_asm); (case my_k2 => k_asm); (case my_k3 => k_asm); (case my_k4 => k_asm); (case my_k5 => first | exact rfl | assumption); (case my_k8 => k_asm); (case my_k6 => ktr_room); (case my_k7 => ktr_units); k_whole; intro h'W tk'W F'W N'W; (try dsimp only); (try k_sweep); (try k_fold)))
  k_with "my call ref" => (k_here; (with_reducible show wpAny _ _ (call (Value.ref 105) _ _) _ _ _); k_dflt (refine' digit_con _ _ _ _ _ _ _ _ _ _ _ _ _ _ _ _ _ _ _ _ ?my_k1 ?my_k2 ?my_k3 ?my_k4 ?my_k5 ?my_k6 ?my_k7 ?my_k8 ?_; (case my_k1 => k_asm); (case my_k2 => k_asm); (case my_k3 => k_asm); (case my_k4 => k_asm); (case my_k5 => first | exact rfl | assumption); (case my_k8 => k_asm); (case my_k6 => ktr_room); (case my_k7 => ktr_units); k_whole; intro h'W tk'W F'W N'W; (try dsimp only); (try k_sweep); (try k_fold)))
  k_with "my call ref" => (k_here; (show wpAny _ _ (call (Value.ref 141) [_] _) _ _ _); k_dflt (refine' char0_con _ _ _ _ _ _ _ _ _ _ _ _ _ _ _ _ _ _ _ _ _ _ _ _ _ _ _ _ _ _ ?my_k1 ?my_k2 ?my_k3 ?my_k4 ?my_k5 ?my_k6 ?my_k7 ?my_k8 ?_; (case my_k1 => k_asm); (case my_k2 => k_asm); (case my_k3 => k_asm); (case my_k4 => k_asm); (case my_k5 => first | exact rfl | assumption); (case my_k8 => (refine ⟨by k_asm, by first | assumption | k_mem, by first | assumption | k_mem, by assumption, by omega⟩)); (case my_k6 => ktr_room); (case my_k7 => ktr_units); k_whole; intro t'W h'W tk'W F'W N'W hl'W; (try dsimp only); (try k_sweep); (try k_fold)))
  k_with "my call ref" => (k_here; (show wpAny _ _ (call (Value.ref 141) [_, _] _) _ _ _); k_dflt (refine' char1_con _ _ _ _ _ _ _ _ _ _ _ _ _ _ _ _ _ _ _ _ _ _ _ _ _ _ _ _ _ _ _ _ ?my_k1 ?my_k2 ?my_k3 ?my_k4 ?my_k5 ?my_k6 ?my_k7 ?my_k8 ?_; (case my_k1 => k_asm); (case my_k2 => k_asm); (case my_k3 => k_asm); (case my_k4 => k_asm); (case my_k5 => first | exact rfl | assumption); (case my_k8 => (refine ⟨by k_asm, by first | assumption | k_mem, by first | assumption | k_mem, by assumption, by omega⟩)); (case my_k6 => ktr_room); (case my_k7 => ktr_units); k_whole; intro t'W h'W tk'W F'W N'W hl'W; (try dsimp only); (try k_sweep); (try k_fold)))
  k_with "my call ref" => (k_here; (show wpAny _ _ (call (Value.ref 80) _ _) _ _ _); k_dflt (refine' call_cls ?my_k1 ?my_k2 ?my_k3 ?my_k4 ?my_k5 ?my_k6 ?_; (case my_k1 => k_asm); (case my_k2 => k_asm); (case my_k3 => k_asm); (case my_k4 => k_is); (case my_k5 => k_is); (case my_k6 => k_is); k_whole; intro x'W d'W h'W F'W N'W l1 l2; (try k_lt l1); (try k_lt2 l2); (try k_sweep); walk_at "mine:enter"))
  k_with "my call ref" => (k_here; (show wpAny _ _ (call (Value.ref 260) [_, _] _) _ _ _); (obtain ⟨n'W, k'W, v'W, ts'W, hI'W, hJ'W⟩ := j1_out (by assumption)); k_dflt (refine' imported_con _ _ _ _ _ _ _ _ _ _ _ _ _ _ _ _ _ _ _ _ _ _ _ _ _ _ _ _ _ _ _ _ _ _ _ _ _ _ _ _ _ _ _ _ _ _ _ _ ?my_k1 ?my_k2 ?my_k3 ?my_k4 ?my_k5 ?my_k6 ?my_k7 ?my_k8 ?_; (case my_k1 => k_asm); (case my_k2 => k_asm); (case my_k3 => k_asm); (case my_k4 => k_asm); (case my_k5 => first | exact rfl | assumption); (case my_k8 => (refine ⟨by k_asm, by first | assumption | k_mem, by first | assumption | k_mem, by first | assumption | k_mem, by first | assumption | k_mem, by k_updF, by assumption, by assumption, by assumption, by assumption⟩)); (case my_k6 => ktr_room); (case my_k7 => ktr_units); k_whole; intro pl'W tp'W q'W tn'W bg'W tb'W t'W td'W j1'W j2'W j3'W jk'W jv'W h'W tk'W F'W N'W hSt'W hle'W; (try dsimp only); (try k_sweep); (try (have nq0'W := names_ne N'W (by k_mem); obtain ⟨nq1'W, nq2'W, nq3'W⟩ := nq0'W));(try k_fold)))
  k_with "my call ref" => (k_here; (with_reducible show wpAny _ _ (call (Value.ref 59) _ _) _ _ _); k_dflt (refine' errors_con _ _ _ _ _ _ _ _ _ _ _ _ _ _ _ _ _ _ ?my_k1 ?my_k2 ?my_k3 ?my_k4 ?my_k5 ?my_k6 ?my_k7 ?my_k8 ?_; (case my_k1 => k_asm); (case my_k2 => k_asm); (case my_k3 => k_asm); (case my_k4 => k_asm); (case my_k5 => first | exact rfl | assumption); (case my_k8 => k_asm); (case my_k6 => ktr_room); (case my_k7 => ktr_units); k_whole; intro q'W h'W tk'W F'W N'W; (try dsimp only); (try k_sweep); (try k_fold)))
  k_with "my call ref" => (k_here; (with_reducible show wpAny _ _ (call (Value.ref 228) _ _) _ _ _); k_dflt (refine' scanner_con _ _ _ _ _ _ _ _ _ _ _ _ _ _ _ _ _ _ _ _ _ ?my_k1 ?my_k2 ?my_k3 ?my_k4 ?my_k5 ?my_k6 ?my_k7 ?my_k8 ?_; (case my_k1 => k_asm); (case my_k2 => k_asm); (case my_k3 => k_asm); (case my_k4 => k_asm); (case my_k5 => first | exact rfl | assumption); (case my_k8 => k_asm); (case my_k6 => ktr_room); (case my_k7 => ktr_units); k_whole; intro x'W dx'W wa'W kws'W k1'W k2'W k3'W k4'W tp'W h'W tk'W hkw'W F'W N'W nq1'W nq2'W nq3'W; (try dsimp only); (try k_sweep); (try k_fold)))
  k_with "my call ref" => (k_here; (show wpAny _ _ (call (Value.ref 249) _ _) _ _ _); k_dflt (refine' call_cls ?my_k1 ?my_k2 ?my_k3 ?my_k4 ?my_k5 ?my_k6 ?_; (case my_k1 => k_asm); (case my_k2 => k_asm); (case my_k3 => k_asm); (case my_k4 => k_is); (case my_k5 => k_is); (case my_k6 => k_is); k_whole; intro x'W d'W h'W F'W N'W l1 l2; (try k_lt l1); (try k_lt2 l2); (try k_sweep); walk_at "mine:enter"))
  k_with "my call ref" => (k_here; (with_reducible show wpAny _ _ (call (Value.ref 288) _ _) _ _ _); k_dflt (refine' draw_con _ _ _ _ _ _ _ _ _ _ _ _ _ _ _ _ _ _ _ _ _ _ _ _ _ ?my_k1 ?my_k2 ?my_k3 ?my_k4 ?my_k5 ?my_k6 ?my_k7 ?my_k8 ?_; (case my_k1 => k_asm); (case my_k2 => k_asm); (case my_k3 => k_asm); (case my_k4 => k_asm); (case my_k5 => first | exact rfl | assumption); (case my_k8 => (refine ⟨by k_asm, by k_updF, by assumption, by first | assumption | omega, by omega, by omega⟩)); (case my_k6 => ktr_room); (case my_k7 => ktr_units); k_whole; intro us'W ns'W c'W r'W tr'W h'W tk'W hI'W hl'W F'W N'W h0'W h1'W; (try dsimp only); (try k_sweep); (try k_fold)))
  k_with "my call ref" => (k_here; (with_reducible show wpAny _ _ (call (Value.ref 295) _ _) _ _ _); k_dflt (refine' gap_con _ _ _ _ _ _ _ _ _ _ _ _ _ _ _ _ _ _ _ _ _ _ _ ?my_k1 ?my_k2 ?my_k3 ?my_k4 ?my_k5 ?my_k6 ?my_k7 ?my_k8 ?_; (case my_k1 => k_asm); (case my_k2 => k_asm); (case my_k3 => k_asm); (case my_k4 => k_asm); (case my_k5 => first | exact rfl | assumption); (case my_k8 => (refine ⟨by k_asm, by k_updF, by assumption, by first | assumption | omega⟩)); (case my_k6 => ktr_room); (case my_k7 => ktr_units); k_whole; intro us'W ns'W c'W r'W tr'W h'W tk'W hI'W hl'W F'W N'W hg'W; (try dsimp only); (try k_sweep); (try k_fold)))
  k_with "my call ref" => (k_here; (with_reducible show wpAny _ _ (call (Value.ref 281) _ _) _ _ _); k_dflt (refine' figures_con _ _ _ _ _ _ _ _ _ _ _ _ _ _ _ _ _ _ _ _ _ ?my_k1 ?my_k2 ?my_k3 ?my_k4 ?my_k5 ?my_k6 ?my_k7 ?my_k8 ?_; (case my_k1 => k_asm); (case my_k2 => k_asm); (case my_k3 => k_asm); (case my_k4 => k_asm); (case my_k5 => first | exact rfl | assumption); (case my_k8 => (refine ⟨by k_asm, by assumption, by assumption, by first | assumption | omega⟩)); (case my_k6 => ktr_room); (case my_k7 => ktr_units); k_whole; intro q'W us'W ns'W c'W h'W tk'W hI'W hl'W F'W N'W n1'W; (try dsimp only); (try k_sweep); (simp only [NeL] at n1'W); (repeat (obtain ⟨nq'W, n1'W⟩ := n1'W));(try k_fold)))
  k_with "my call ref" => (k_here; (with_reducible show wpAny _ _ (call (Value.ref 307) _ _) _ _ _); k_dflt (refine' due_con _ _ _ _ _ _ _ _ _ _ _ _ _ _ _ _ _ _ _ _ _ _ _ _ ?my_k1 ?my_k2 ?my_k3 ?my_k4 ?my_k5 ?my_k6 ?my_k7 ?my_k8 ?_; (case my_k1 => k_asm); (case my_k2 => k_asm); (case my_k3 => k_asm); (case my_k4 => k_asm); (case my_k5 => first | exact rfl | assumption); (case my_k8 => (refine ⟨by k_asm, by k_mem, by assumption, by first | assumption | omega, by assumption, by assumption⟩)); (case my_k6 => ktr_room); (case my_k7 => ktr_units); k_whole; intro q'W fl'W us'W c'W tn'W h'W tk'W hs'W F'W N'W; (try dsimp only); (try k_sweep); (try k_fold)))
  k_with "my call ref" => (k_here; (with_reducible show wpAny _ _ (call (Value.ref 274) _ _) _ _ _); k_dflt (refine' head_con _ _ _ _ _ _ _ _ _ _ _ _ _ _ _ _ _ _ _ _ _ _ _ ?my_k1 ?my_k2 ?my_k3 ?my_k4 ?my_k5 ?my_k6 ?my_k7 ?my_k8 ?_; (case my_k1 => k_asm); (case my_k2 => k_asm); (case my_k3 => k_asm); (case my_k4 => k_asm); (case my_k5 => first | exact rfl | assumption); (case my_k8 => (refine ⟨by k_asm, by first | assumption | omega, by assumption, by assumption⟩)); (case my_k6 => ktr_room); (case my_k7 => ktr_units); k_whole; intro x'W d'W la'W us'W c'W k1'W k2'W tn'W h'W tk'W hs'W F'W N'W; (try dsimp only); (try k_sweep); (try k_fold)))
  k_with "my ktr_units" => (have hcL9 := cLine_is; (try simp only [units_under_make, units_in1, units_deeper, Around.mark_units, units_caller]); (try dsimp only [ktrTop]); omega)
  k_with "my subscriptTail List" => (k_here; (with_reducible show wpAny _ _ (subscriptTail _ _ (Value.ref _) (Value.int _ _)) _ _ _); k_dflt (refine' menu_V ?my_N ?my_m ?my_i ?my_a ?my_b ?my_k ?my_l ?_ ?my_z; (case my_N => k_asm); (case my_m => k_mem); (case my_i => first | exact strsM3 _ _ _ | exact strsM4 _ _ _ _); (case my_a => assumption); (case my_b => assumption); (case my_k => exact rfl); (case my_l => exact Nat.le_of_ble_eq_true rfl); (case my_z => with_unfolding_all rfl); k_whole); intro x'W t'W hx'W)
  k_with "my call builtin:list.append" => (k_here; (with_reducible show wpAny _ _ (call (Value.builtin _) [Value.ref _, Value.str _ _]) _ _ _); k_dflt (refine' app_V ?my_F ?my_N ?my_U ?my_V ?my_x ?my_n ?_; (case my_F => k_asm); (case my_N => k_asm); (case my_U => k_updF); (case my_V => first | assumption | exact vw_3 (by assumption) _ _ _); (case my_x => first | exact voc_import | exact voc_comma | exact voc_semi | exact voc_i _ (by assumption)); (case my_n => omega)); intro h'W us'W zs'W F'W N'W hV'W hz1'W hz2'W; (try dsimp only at N'W))
  k_with "my call builtin:list.extend" => (k_here; (with_reducible show wpAny _ _ (call (Value.builtin _) [Value.ref _, Value.ref _]) _ _ _); k_dflt (refine' ext_V ?my_F ?my_N ?my_b ?my_U ?my_V ?my_x ?my_y ?my_n ?_; (case my_F => k_asm); (case my_N => k_asm); (case my_b => k_mem); (case my_U => k_updF); (case my_V => assumption); (case my_x => exact voc_x (by assumption) (by assumption)); (case my_y => exact voc_is); (case my_n => omega)); intro h'W us'W zs'W F'W N'W hV'W hz1'W hz2'W; (try dsimp only at N'W))
  k_with "my InvEndN" => (k_dflt (refine' law_close ?my_F ?my_N ?my_w ?my_f ?my_c ?my_o ?my_V ?my_n ?my_ne ?my_I ?my_l ?my_r; (case my_F => k_asm); (case my_N => k_asm); (case my_w => k_mem); (case my_f => k_mem); (case my_c => k_mem); (case my_V => assumption); (case my_n => omega); (case my_ne => omega); (case my_I => assumption); (case my_l => first | assumption | omega); (case my_r => (intro z hz; exact if_neg hz)); (case my_o => first | (intro p hp; kst_mem) | kst_anyIn)))
  k_with "my CompSrc" => (k_here; k_dflt (refine' comp_src ?my_h ?my_F ?my_N ?my_w ?my_cc ?my_c ?my_cd ?my_f ?my_V ?my_n ?my_I ?my_l ?_ ?_; (case my_h => exact rfl); (case my_F => k_asm); (case my_N => k_asm); (case my_cc => with_unfolding_all rfl); (case my_w => k_mem); (case my_c => k_mem); (case my_cd => assumption); (case my_f => k_mem); (case my_V => assumption); (case my_n => omega); (case my_I => assumption); (case my_l => first | assumption | omega)); (all_goals first | (intro z t I oI C oC D m2 ys fs fi cf h tk E'W hz hC'W hx'W hI hl F'W N'W off'W ne'W) | (intro g ys l fs fi cf hp hI hl)))
  k_with "my subscriptTail Name Slice ref ref" => (k_here; (with_reducible show wpAny _ _ (subscriptTail _ (PySem.Expr.Slice _ _ none _) (Value.ref _) (Value.ref _)) _ _ _); k_dflt (refine' slice_V ?my_F ?my_N ?my_m ?my_V ?my_n ?my_p ?my_q ?_ ?my_z ?my_t; (case my_F => k_asm); (case my_N => k_asm); (case my_m => k_mem); (case my_V => assumption); (case my_n => omega); (case my_p => kmk_part); (case my_q => kmk_part); (case my_z => with_unfolding_all rfl); (case my_t => kmk_pure)); intro D'W us'W zs'W h'W F'W N'W l1 hV'W; (try k_lt l1); (try k_sweep))
  k_with "my binaryOp Add ref ref" => (k_here; (with_reducible show wpAny _ _ (binaryOp _ (Value.ref _) (Value.ref _)) _ _ _); k_dflt (refine' add_V ?my_F ?my_N ?my_a ?my_c ?my_V ?my_W ?my_n ?my_m ?_; (case my_F => k_asm); (case my_N => k_asm); (case my_a => k_mem); (case my_c => k_mem); (case my_V => first | assumption | exact vw_1 _); (case my_W => first | assumption | exact vw_1 _); (case my_n => omega); (case my_m => omega)); intro D'W us'W zs'W h'W F'W N'W l1 hV'W; (try k_lt l1); (try k_sweep))
  k_with "my LawEl" => (k_dflt (refine lawEl_mk (by assumption) (by first | assumption | omega) (by assumption)))
  k_with "my call type:range" => (k_here; (with_reducible show wpAny _ _ (call (Value.type _) [Value.int _ _]) _ _ _); k_dflt (refine' range1_rows ?my_F ?my_N ?_; (case my_F => k_asm); (case my_N => k_asm); k_whole); intro _ _ _ _ _ _ _ _ _)
  k_with "my call builtin:len" => (k_here; (with_reducible show wpAny _ _ (call (Value.builtin "len") [Value.ref _]) _ _ _); k_dflt (refine' len_V ?my_N ?my_m ?my_V ?my_n ?_; (case my_N => k_asm); (case my_m => k_mem); (case my_V => assumption); (case my_n => omega); k_whole))
  k_with "my execs cons Assign cons" => ((with_reducible show wpAny _ _ (execs (Stmt.Assign [Expr.Name (Str.ofString "source") _] _ _ :: _) _) _ _ _); k_here; k_extra "law cut")
  k_with "my binaryOp Add str str" => (k_here; (with_reducible show wpAny _ _ (binaryOp Operator.Add (Value.str _ _) (Value.str _ _)) _ _ _); first | ((refine add_tail (by assumption) (by assumption) ?_); intro S2 _ _ hS2 hS3) | ((refine add_vg (by assumption) (by assumption) (by assumption) ?_); intro _ _))
  k_with "my call builtin:str.join" => (k_here; (with_reducible show wpAny _ _ (call (Value.builtin "str.join") [Value.str _ _, Value.ref _]) _ _ _); k_dflt (refine' join_src ?my_N ?my_m ?my_p ?my_v ?my_l ?_; (case my_N => k_asm); (case my_m => k_mem); (case my_p => assumption); (case my_v => assumption); (case my_l => assumption)); intro S2 _ _ hS2)
  k_with "my call type:list" => (k_here; (with_reducible show wpAny _ _ (call (Value.type "list") [Value.ref _]) _ _ _); k_dflt (refine' list_V ?my_F ?my_N ?my_m ?my_S ?my_l ?_; (case my_F => k_asm); (case my_N => k_asm); (case my_m => k_mem); (case my_S => assumption); (case my_l => assumption); k_whole); intro D'W c'W h'W F'W N'W l1; (try k_lt l1); (try k_sweep))
  k_with "my compareOp Eq ref ref" => (k_here; (with_reducible show wpAny _ _ (compareOp CmpOp.Eq (Value.ref _) (Value.ref _)) _ _ _); k_dflt (refine' eq_pairs ?my_N ?my_h1 ?my_h2 ?my_h3 ?my_h4 ?my_S1 ?my_S2 ?my_o ?my_u ?_; (case my_N => k_asm); (case my_h1 => k_mem); (case my_h2 => k_mem); (case my_h3 => k_mem); (case my_h4 => k_mem); (case my_S1 => assumption); (case my_S2 => assumption); (case my_o => assumption); (case my_u => first | ktr_units | ke_room); k_whole))
  w_on
  refine holds_law said fun said9 => ?_
  refine' holds_open (q := vw) (loose := []) (Xt := fun s => xlAt vw [] s && recOk (RowW.records PySem.Challenge.rw_on0211_01.row.toRowW) s) (XP := XL vw []) (Yf := Hook.obs (kHook kTop kAs kAs_is)) (Ya := Hook.val (kHook kTop kAs kAs_is)) (YP := Hook.says (kHook kTop kAs kAs_is)) (N := 4000) left (Hook.of (kHook kTop kAs kAs_is)) (Hook.keeps (kHook kTop kAs kAs_is))
    (fun s e => xl_of s (Bool.and_eq_true_iff.mp e).1) XL.keeps ?x1 ?x2 ?x3 (fun s e => recFacts_of (Bool.and_eq_true_iff.mp e).2) ?x4 ?x5 ?x6 ?x7 ?hw ?hc
  case x1 => rfl
  case x2 => rfl
  case x3 => rfl
  case x4 => first | rfl | assumption
  case x5 => first | assumption | decide +kernel
  case x6 => decide +kernel
  case x7 => exact ⟨rfl, rfl, rfl, rfl, rfl, by decide +kernel⟩
  case hw => w_witness2
  clear said9
  k_go0
  (all_goals try k_fold)
  (rename Fr _ _ _ _ => kF1)
  with_unfolding_all refine as_envX kF1 ?_ ?_
  · intro h tk m kFz
    k_steps

  intro Q' hret
  (rename Fr _ _ _ _ => kF0)
  (rename CellsAre _ _ _ => kC)
  (rename News _ _ _ _ => kN)
  try (rename _ = Data.cell _ => z1; clear z1)
  have hY := CellsAre.one kC
  obtain ⟨o, hE, d0⟩ := hY
  cases hE
  clear kC
  have kF : Fr _ _ _ (fun z => if z = Str.ofString "script" then some (.ref _) else none) := kF0
  have d1 : _ = Data.cell none := d0
  clear kF0 d0
  (rename Heap.IsList _ _ _ => kL)
  (rename IntsAre _ _ => kI)
  (rename ¬ _ < _ => hlen)
  (rename Top _ _ _ _ _ _ => kT)
  (rename Below _ _ _ _ => kB)
  have kB2 := base_of kF kB rfl
  clear kB
  (rename Frag.In _ _ => kX)
  try (rename ReadsAllW _ _ _ _ _ _ => z1; clear z1)
  try (rename Ground _ _ _ _ _ _ _ _ _ => z1; clear z1)
  try (rename LooseAre _ _ _ => z1; clear z1)
  try (rename Dflts _ _ _ _ => z1; clear z1)
  try (rename Dflts _ _ _ _ _ => z1; clear z1)
  try (rename Dflts _ _ _ _ _ _ => z1; clear z1)
  try (rename Heap.CodeRec _ _ _ => z1; clear z1)
  try (rename PyData.layableAll0 _ = true => z1; clear z1)
  try (rename WData.layableAll _ = true => z1; clear z1)
  try (rename Tables _ _ _ _ => z1; clear z1)
  try (rename TopE _ _ _ _ => z1; clear z1)
  try (rename TopW _ _ _ => z1; clear z1)
  try (rename BMod _ _ _ _ _ => z1; clear z1)
  try (rename Glob _ _ _ _ _ _ _ _ => z1; clear z1)
  try (rename ReadsAll _ _ _ _ => z1; clear z1)
  try (rename Well _ _ _ _ => z1; clear z1)
  try (rename Reads _ _ _ _ => z1; clear z1)
  try (rename Flt.MathXP _ _ _ => z1; clear z1)
  dsimp only
  refine law_cut kF (by with_unfolding_all rfl) ?_ ?_
  · intro s' hM
    obtain ⟨h, tk, m, us, fs, zs, fi, cw, cf, wl, fq, co, rfl, kFr, hcd, kNw, hVW, hI, hl, hn1, hn2, hn3⟩ := hM
    obtain ⟨name, res, hA0⟩ := a0_ex hVW.voc
    have hss := hVW.ss
    have hvoc := hVW.voc
    have hlen := hVW.hi
    have hres := res_len hA0 hlen
    have hrok := res_ok hA0 hvoc
    clear kF d1
    k_steps
    (rename Fr _ _ _ _ => kFz)
    exact hret _ _ _ kFz
  · intro kTail
    k_with "law cut" => (refine kTail _ ?_; (k_dflt (refine' law_mid ?F ?m ?c ?N ?n1 ?n2 ?n3 ?V ?n ?I ?l ?ea ?eb ?ec; (case F => k_asm); (case m => with_unfolding_all rfl); (case N => k_asm); (case n1 => k_mem); (case n3 => k_mem); (case c => first | assumption | exact rfl); (case n2 => k_mem); (case V => assumption); (case n => first | omega | decide); (case I => assumption); (case l => first | assumption | omega); (case ea => k_ne); (case eb => k_ne); (case ec => k_ne))))
    k_with "pyIter ref" => (k_here; k_dflt (refine' law_for ?h ?r ?kla ?klb ?F ?N ?w ?f ?c ?wn ?cc ?cd ?V ?ne ?I ?l ?_ ?_; (case h => exact rfl); (case r => assumption); (case kla => assumption); (case klb => assumption); (case F => k_asm); (case N => k_asm); (case wn => with_unfolding_all rfl); (case cc => with_unfolding_all rfl); (case c => k_mem); (case cd => assumption); (case w => k_mem); (case f => k_mem); (case V => exact vw_3 (by assumption) _ _ _); (case ne => exact Nat.le_of_ble_eq_true rfl); (case I => assumption); (case l => first | assumption | omega)); (all_goals first | (intro us zs cw fs fi cf pre k t u h tk own hk0 hk5 hp5 hoff hVW hne hI hl hk hF hN) | (intro us zs cw fs fi cf u h tk hVW hne hz9 hI hl hF hN)); (all_goals (try k_fold)))
    k_steps
  k_with_none

end
end Mine
theorem PySem.Challenge.cw_on0211_01_holds : PySem.Challenge.rw_on0211_01.Holds :=
  Mine.law_walk
