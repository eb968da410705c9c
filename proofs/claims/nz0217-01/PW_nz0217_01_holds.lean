import PyProof.Rows.All
import Wide.All
import OpenK.AllK
import Wide.FinOn
import PySem.Challenge.RW_nz0217_01
open PySem PySem.W PyProof.Rows
set_option Elab.async false
set_option maxRecDepth 100000
set_option maxHeartbeats 8000000
set_option linter.unusedVariables false
set_option genSizeOf false
namespace Mine

/-! the written part of the state behind the top: its objects, the defs' parts by their place in the text -/
noncomputable abbrev hM : List Stmt := PySem.Challenge.pw_nz0217_01.main.body
noncomputable def hT (l : List Stmt) (i : Nat) : Stmt := l.getD i (.Pass ⟨0, 0, 0, 0⟩)
noncomputable def hA : Stmt → Arguments
  | .FunctionDef (args := a) .. => a
  | _ => { posonlyargs := [], args := [], vararg := none, kwonlyargs := [], kw_defaults := [], kwarg := none, defaults := [] }
noncomputable def hB : Stmt → List Stmt
  | .FunctionDef (body := b) .. => b
  | .ClassDef (body := b) .. => b
  | _ => []
noncomputable def hS : Stmt → Scope
  | .FunctionDef (scope := s) .. => s
  | .ClassDef (scope := s) .. => s
  | _ => { kind := .function, names := [], isGenerator := false, isCoroutine := false, more := [] }
noncomputable def heapK : Params → Frag := fun P =>
  ((nat_lit 2), (Obj.mk Value.none none (Data.dict #[] 0) #[])) ::
  ((nat_lit 3), (Obj.mk (Value.type "dict") none (Data.dict #[(DictEntry.mk (PyData.keyHash P (Str.ofString "__name__")) (Value.str (Str.ofString "__name__") 165) (Value.str (Str.ofString "law_nz0217_01") 556)), (DictEntry.mk (PyData.keyHash P (Str.ofString "__doc__")) (Value.str (Str.ofString "__doc__") 166) Value.none), (DictEntry.mk (PyData.keyHash P (Str.ofString "__package__")) (Value.str (Str.ofString "__package__") 167) Value.none), (DictEntry.mk (PyData.keyHash P (Str.ofString "__loader__")) (Value.str (Str.ofString "__loader__") 168) (Value.builtin "__main__.__loader__#opaque")), (DictEntry.mk (PyData.keyHash P (Str.ofString "__spec__")) (Value.str (Str.ofString "__spec__") 169) Value.none), (DictEntry.mk (PyData.keyHash P (Str.ofString "__annotations__")) (Value.str (Str.ofString "__annotations__") 170) (Value.ref 6)), (DictEntry.mk (PyData.keyHash P (Str.ofString "__builtins__")) (Value.str (Str.ofString "__builtins__") 171) (Value.ref 4)), (DictEntry.mk (PyData.keyHash P (Str.ofString "__file__")) (Value.str (Str.ofString "__file__") 173) (Value.str (Str.ofString "/claim/cut.py") 172)), (DictEntry.mk (PyData.keyHash P (Str.ofString "__cached__")) (Value.str (Str.ofString "__cached__") 174) Value.none), (DictEntry.mk (PyData.keyHash P (Str.ofString "_wall")) (Value.str (Str.ofString "_wall") 193) (Value.ref 21)), (DictEntry.mk (PyData.keyHash P (Str.ofString "BoardError")) (Value.str (Str.ofString "BoardError") 223) (Value.ref 39)), (DictEntry.mk (PyData.keyHash P (Str.ofString "NoRoom")) (Value.str (Str.ofString "NoRoom") 239) (Value.ref 52)), (DictEntry.mk (PyData.keyHash P (Str.ofString "BadCall")) (Value.str (Str.ofString "BadCall") 255) (Value.ref 64)), (DictEntry.mk (PyData.keyHash P (Str.ofString "Stuck")) (Value.str (Str.ofString "Stuck") 271) (Value.ref 76)), (DictEntry.mk (PyData.keyHash P (Str.ofString "UNUSED")) (Value.str (Str.ofString "UNUSED") 275) (Value.str (Str.ofString "unused") 274)), (DictEntry.mk (PyData.keyHash P (Str.ofString "FRESH")) (Value.str (Str.ofString "FRESH") 277) (Value.str (Str.ofString "fresh") 276)), (DictEntry.mk (PyData.keyHash P (Str.ofString "READY")) (Value.str (Str.ofString "READY") 279) (Value.str (Str.ofString "ready") 278)), (DictEntry.mk (PyData.keyHash P (Str.ofString "RUNNING")) (Value.str (Str.ofString "RUNNING") 281) (Value.str (Str.ofString "running") 280)), (DictEntry.mk (PyData.keyHash P (Str.ofString "SLEEPING")) (Value.str (Str.ofString "SLEEPING") 283) (Value.str (Str.ofString "sleeping") 282)), (DictEntry.mk (PyData.keyHash P (Str.ofString "ZOMBIE")) (Value.str (Str.ofString "ZOMBIE") 285) (Value.str (Str.ofString "zombie") 284)), (DictEntry.mk (PyData.keyHash P (Str.ofString "A0")) (Value.str (Str.ofString "A0") 287) (Value.int (10 : Int) 286)), (DictEntry.mk (PyData.keyHash P (Str.ofString "Process")) (Value.str (Str.ofString "Process") 370) (Value.ref 131)), (DictEntry.mk (PyData.keyHash P (Str.ofString "Table")) (Value.str (Str.ofString "Table") 555) (Value.ref 274)), (DictEntry.mk (PyData.keyHash P (Str.ofString "_law_take")) (Value.str (Str.ofString "_law_take") 566) (Value.ref 285)), (DictEntry.mk (PyData.keyHash P (Str.ofString "_law_plan")) (Value.str (Str.ofString "_law_plan") 577) (Value.ref 292)), (DictEntry.mk (PyData.keyHash P (Str.ofString "_law_kids")) (Value.str (Str.ofString "_law_kids") 583) (Value.ref 297)), (DictEntry.mk (PyData.keyHash P (Str.ofString "_law_forked")) (Value.str (Str.ofString "_law_forked") 595) (Value.ref 304)), (DictEntry.mk (PyData.keyHash P (Str.ofString "_law_ended")) (Value.str (Str.ofString "_law_ended") 608) (Value.ref 311)), (DictEntry.mk (PyData.keyHash P (Str.ofString "_law_waited")) (Value.str (Str.ofString "_law_waited") 614) (Value.ref 316)), (DictEntry.mk (PyData.keyHash P (Str.ofString "_law_killed")) (Value.str (Str.ofString "_law_killed") 623) (Value.ref 323)), (DictEntry.mk (PyData.keyHash P (Str.ofString "_law_fair")) (Value.str (Str.ofString "_law_fair") 629) (Value.ref 328)), (DictEntry.mk (PyData.keyHash P (Str.ofString "_law_turn_right")) (Value.str (Str.ofString "_law_turn_right") 644) (Value.ref 335)), (DictEntry.mk (PyData.keyHash P (Str.ofString "law")) (Value.str (Str.ofString "law") 650) (Value.ref 340))] 33) #[])) ::
  ((nat_lit 15), (Obj.mk (Value.type "tuple") none (Data.seq #[] 0) #[])) ::
  ((nat_lit 17), (Obj.mk (Value.type "tuple") none (Data.seq #[(Value.str (Str.ofString "k") 190)] 0) #[])) ::
  ((nat_lit 18), (Obj.mk (Value.type "tuple") none (Data.seq #[] 0) #[])) ::
  ((nat_lit 20), (Obj.mk (Value.type "code") none (Data.fields #[(Value.str (Str.ofString "_wall") 187), (Value.str (Str.ofString "_wall") 188), (Value.str (Str.ofString "/claim/cut.py") 189), (Value.int (1 : Int) 0), (Value.int (1 : Int) 0), (Value.int (0 : Int) 0), (Value.int (0 : Int) 0), (Value.int (3 : Int) 0), (Value.ref 15), (Value.bool Bool.true), (Value.int (181 : Int) 0), (Value.ref 16), Value.none, (Value.ref 17), (Value.ref 18), (Value.ref 19), (Value.int (191 : Int) 0), (Value.int (1 : Int) 0), (Value.str (Str.ofString "/claim/cut.py") 192)]) #[])) ::
  ((nat_lit 21), (Obj.mk (Value.type "function") none (Data.func (FuncData.mk (Str.ofString "_wall") (Str.ofString "_wall") (hA (hT hM 0)) (FuncBody.stmts (hB (hT hM 0))) (hS (hT hM 0)) 3 [] Value.none Value.none Value.none (Value.str (Str.ofString "__main__") 164) none (Value.ref 20) Value.none 0)) #[])) ::
  ((nat_lit 22), (Obj.mk (Value.type "tuple") none (Data.seq #[(Value.type "ValueError")] 0) #[])) ::
  ((nat_lit 29), (Obj.mk (Value.type "tuple") none (Data.seq #[(Value.str (Str.ofString "") 208)] 0) #[])) ::
  ((nat_lit 30), (Obj.mk (Value.type "tuple") none (Data.seq #[] 0) #[])) ::
  ((nat_lit 32), (Obj.mk (Value.type "tuple") none (Data.seq #[(Value.str (Str.ofString "self") 212), (Value.str (Str.ofString "reason") 213)] 0) #[])) ::
  ((nat_lit 33), (Obj.mk (Value.type "tuple") none (Data.seq #[] 0) #[])) ::
  ((nat_lit 35), (Obj.mk (Value.type "code") none (Data.fields #[(Value.str (Str.ofString "__init__") 209), (Value.str (Str.ofString "BoardError.__init__") 210), (Value.str (Str.ofString "/claim/cut.py") 211), (Value.int (7 : Int) 0), (Value.int (2 : Int) 0), (Value.int (0 : Int) 0), (Value.int (0 : Int) 0), (Value.int (3 : Int) 0), (Value.ref 30), (Value.bool Bool.true), (Value.int (181 : Int) 0), (Value.ref 31), Value.none, (Value.ref 32), (Value.ref 33), (Value.ref 34), (Value.int (214 : Int) 0), (Value.int (7 : Int) 0), (Value.str (Str.ofString "/claim/cut.py") 215)]) #[])) ::
  ((nat_lit 36), (Obj.mk (Value.type "function") none (Data.func (FuncData.mk (Str.ofString "__init__") (Str.ofString "BoardError.__init__") (hA (hT (hB (hT hM 2)) 0)) (FuncBody.stmts (hB (hT (hB (hT hM 2)) 0))) (hS (hT (hB (hT hM 2)) 0)) 3 [] (Value.ref 29) Value.none Value.none (Value.str (Str.ofString "pipeboard.errors") 194) none (Value.ref 35) Value.none 0)) #[])) ::
  ((nat_lit 37), (Obj.mk (Value.type "tuple") none (Data.seq #[(Value.str (Str.ofString "reason") 217)] 0) #[])) ::
  ((nat_lit 38), (Obj.mk (Value.type "dict") none (Data.dict #[(DictEntry.mk (PyData.keyHash P (Str.ofString "__module__")) (Value.str (Str.ofString "__module__") 203) (Value.str (Str.ofString "pipeboard.errors") 194)), (DictEntry.mk (PyData.keyHash P (Str.ofString "__firstlineno__")) (Value.str (Str.ofString "__firstlineno__") 207) (Value.int (5 : Int) 206)), (DictEntry.mk (PyData.keyHash P (Str.ofString "__init__")) (Value.str (Str.ofString "__init__") 216) (Value.ref 36)), (DictEntry.mk (PyData.keyHash P (Str.ofString "__static_attributes__")) (Value.str (Str.ofString "__static_attributes__") 218) (Value.ref 37)), (DictEntry.mk (PyData.keyHash P (Str.ofString "__weakref__")) (Value.str (Str.ofString "__weakref__") 220) (Value.ref 40)), (DictEntry.mk (PyData.keyHash P (Str.ofString "__doc__")) (Value.str (Str.ofString "__doc__") 221) Value.none)] 3) #[])) ::
  ((nat_lit 39), (Obj.mk (Value.type "type") none (Data.cls (ClassData.mk (Str.ofString "BoardError") [(Value.type "ValueError")] [(Value.ref 39), (Value.type "ValueError"), (Value.type "Exception"), (Value.type "BaseException"), (Value.type "object")] 38 (Str.ofString "BoardError") Bool.true [] [(Value.ref 52), (Value.ref 64), (Value.ref 76)] Bool.false none Bool.false)) #[(some (Value.ref 22)), none, (some (Value.str (Str.ofString "BoardError") 196)), (some (Value.str (Str.ofString "BoardError") 204)), (some (Value.builtin "ValueError.__new__")), (some (Value.bool Bool.true))])) ::
  ((nat_lit 40), (Obj.mk (Value.type "getset_descriptor") none (Data.fields #[(Value.str (Str.ofString "__weakref__") 219), (Value.ref 39), (Value.builtin "ExceptionGroup.__weakref__"), Value.none]) #[])) ::
  ((nat_lit 43), (Obj.mk (Value.type "tuple") none (Data.seq #[(Value.ref 39)] 0) #[])) ::
  ((nat_lit 50), (Obj.mk (Value.type "tuple") none (Data.seq #[] 0) #[])) ::
  ((nat_lit 51), (Obj.mk (Value.type "dict") none (Data.dict #[(DictEntry.mk (PyData.keyHash P (Str.ofString "__module__")) (Value.str (Str.ofString "__module__") 231) (Value.str (Str.ofString "pipeboard.errors") 194)), (DictEntry.mk (PyData.keyHash P (Str.ofString "__firstlineno__")) (Value.str (Str.ofString "__firstlineno__") 235) (Value.int (10 : Int) 234)), (DictEntry.mk (PyData.keyHash P (Str.ofString "__static_attributes__")) (Value.str (Str.ofString "__static_attributes__") 236) (Value.ref 50)), (DictEntry.mk (PyData.keyHash P (Str.ofString "__doc__")) (Value.str (Str.ofString "__doc__") 237) Value.none)] 2) #[])) ::
  ((nat_lit 52), (Obj.mk (Value.type "type") none (Data.cls (ClassData.mk (Str.ofString "NoRoom") [(Value.ref 39)] [(Value.ref 52), (Value.ref 39), (Value.type "ValueError"), (Value.type "Exception"), (Value.type "BaseException"), (Value.type "object")] 51 (Str.ofString "NoRoom") Bool.true [] [] Bool.false none Bool.false)) #[(some (Value.ref 43)), none, (some (Value.str (Str.ofString "NoRoom") 224)), (some (Value.str (Str.ofString "NoRoom") 232)), (some (Value.builtin "ValueError.__new__")), (some (Value.bool Bool.true))])) ::
  ((nat_lit 55), (Obj.mk (Value.type "tuple") none (Data.seq #[(Value.ref 39)] 0) #[])) ::
  ((nat_lit 62), (Obj.mk (Value.type "tuple") none (Data.seq #[] 0) #[])) ::
  ((nat_lit 63), (Obj.mk (Value.type "dict") none (Data.dict #[(DictEntry.mk (PyData.keyHash P (Str.ofString "__module__")) (Value.str (Str.ofString "__module__") 247) (Value.str (Str.ofString "pipeboard.errors") 194)), (DictEntry.mk (PyData.keyHash P (Str.ofString "__firstlineno__")) (Value.str (Str.ofString "__firstlineno__") 251) (Value.int (12 : Int) 250)), (DictEntry.mk (PyData.keyHash P (Str.ofString "__static_attributes__")) (Value.str (Str.ofString "__static_attributes__") 252) (Value.ref 62)), (DictEntry.mk (PyData.keyHash P (Str.ofString "__doc__")) (Value.str (Str.ofString "__doc__") 253) Value.none)] 2) #[])) ::
  ((nat_lit 64), (Obj.mk (Value.type "type") none (Data.cls (ClassData.mk (Str.ofString "BadCall") [(Value.ref 39)] [(Value.ref 64), (Value.ref 39), (Value.type "ValueError"), (Value.type "Exception"), (Value.type "BaseException"), (Value.type "object")] 63 (Str.ofString "BadCall") Bool.true [] [] Bool.false none Bool.false)) #[(some (Value.ref 55)), none, (some (Value.str (Str.ofString "BadCall") 240)), (some (Value.str (Str.ofString "BadCall") 248)), (some (Value.builtin "ValueError.__new__")), (some (Value.bool Bool.true))])) ::
  ((nat_lit 67), (Obj.mk (Value.type "tuple") none (Data.seq #[(Value.ref 39)] 0) #[])) ::
  ((nat_lit 74), (Obj.mk (Value.type "tuple") none (Data.seq #[] 0) #[])) ::
  ((nat_lit 75), (Obj.mk (Value.type "dict") none (Data.dict #[(DictEntry.mk (PyData.keyHash P (Str.ofString "__module__")) (Value.str (Str.ofString "__module__") 263) (Value.str (Str.ofString "pipeboard.errors") 194)), (DictEntry.mk (PyData.keyHash P (Str.ofString "__firstlineno__")) (Value.str (Str.ofString "__firstlineno__") 267) (Value.int (14 : Int) 266)), (DictEntry.mk (PyData.keyHash P (Str.ofString "__static_attributes__")) (Value.str (Str.ofString "__static_attributes__") 268) (Value.ref 74)), (DictEntry.mk (PyData.keyHash P (Str.ofString "__doc__")) (Value.str (Str.ofString "__doc__") 269) Value.none)] 2) #[])) ::
  ((nat_lit 76), (Obj.mk (Value.type "type") none (Data.cls (ClassData.mk (Str.ofString "Stuck") [(Value.ref 39)] [(Value.ref 76), (Value.ref 39), (Value.type "ValueError"), (Value.type "Exception"), (Value.type "BaseException"), (Value.type "object")] 75 (Str.ofString "Stuck") Bool.true [] [] Bool.false none Bool.false)) #[(some (Value.ref 67)), none, (some (Value.str (Str.ofString "Stuck") 256)), (some (Value.str (Str.ofString "Stuck") 264)), (some (Value.builtin "ValueError.__new__")), (some (Value.bool Bool.true))])) ::
  ((nat_lit 86), (Obj.mk (Value.type "tuple") none (Data.seq #[] 0) #[])) ::
  ((nat_lit 88), (Obj.mk (Value.type "tuple") none (Data.seq #[(Value.str (Str.ofString "self") 303), (Value.str (Str.ofString "place") 304)] 0) #[])) ::
  ((nat_lit 89), (Obj.mk (Value.type "tuple") none (Data.seq #[] 0) #[])) ::
  ((nat_lit 91), (Obj.mk (Value.type "code") none (Data.fields #[(Value.str (Str.ofString "__init__") 300), (Value.str (Str.ofString "Process.__init__") 301), (Value.str (Str.ofString "/claim/cut.py") 302), (Value.int (26 : Int) 0), (Value.int (2 : Int) 0), (Value.int (0 : Int) 0), (Value.int (0 : Int) 0), (Value.int (3 : Int) 0), (Value.ref 86), (Value.bool Bool.true), (Value.int (181 : Int) 0), (Value.ref 87), Value.none, (Value.ref 88), (Value.ref 89), (Value.ref 90), (Value.int (305 : Int) 0), (Value.int (26 : Int) 0), (Value.str (Str.ofString "/claim/cut.py") 306)]) #[])) ::
  ((nat_lit 92), (Obj.mk (Value.type "function") none (Data.func (FuncData.mk (Str.ofString "__init__") (Str.ofString "Process.__init__") (hA (hT (hB (hT hM 14)) 0)) (FuncBody.stmts (hB (hT (hB (hT hM 14)) 0))) (hS (hT (hB (hT hM 14)) 0)) 3 [] Value.none Value.none Value.none (Value.str (Str.ofString "pipeboard.procs") 272) none (Value.ref 91) Value.none 0)) #[])) ::
  ((nat_lit 93), (Obj.mk (Value.type "tuple") none (Data.seq #[] 0) #[])) ::
  ((nat_lit 95), (Obj.mk (Value.type "tuple") none (Data.seq #[(Value.str (Str.ofString "self") 311)] 0) #[])) ::
  ((nat_lit 96), (Obj.mk (Value.type "tuple") none (Data.seq #[] 0) #[])) ::
  ((nat_lit 98), (Obj.mk (Value.type "code") none (Data.fields #[(Value.str (Str.ofString "clear") 308), (Value.str (Str.ofString "Process.clear") 309), (Value.str (Str.ofString "/claim/cut.py") 310), (Value.int (30 : Int) 0), (Value.int (1 : Int) 0), (Value.int (0 : Int) 0), (Value.int (0 : Int) 0), (Value.int (3 : Int) 0), (Value.ref 93), (Value.bool Bool.true), (Value.int (181 : Int) 0), (Value.ref 94), Value.none, (Value.ref 95), (Value.ref 96), (Value.ref 97), (Value.int (312 : Int) 0), (Value.int (30 : Int) 0), (Value.str (Str.ofString "/claim/cut.py") 313)]) #[])) ::
  ((nat_lit 99), (Obj.mk (Value.type "function") none (Data.func (FuncData.mk (Str.ofString "clear") (Str.ofString "Process.clear") (hA (hT (hB (hT hM 14)) 1)) (FuncBody.stmts (hB (hT (hB (hT hM 14)) 1))) (hS (hT (hB (hT hM 14)) 1)) 3 [] Value.none Value.none Value.none (Value.str (Str.ofString "pipeboard.procs") 272) none (Value.ref 98) Value.none 0)) #[])) ::
  ((nat_lit 100), (Obj.mk (Value.type "tuple") none (Data.seq #[] 0) #[])) ::
  ((nat_lit 102), (Obj.mk (Value.type "tuple") none (Data.seq #[(Value.str (Str.ofString "self") 318)] 0) #[])) ::
  ((nat_lit 103), (Obj.mk (Value.type "tuple") none (Data.seq #[] 0) #[])) ::
  ((nat_lit 105), (Obj.mk (Value.type "code") none (Data.fields #[(Value.str (Str.ofString "is_there") 315), (Value.str (Str.ofString "Process.is_there") 316), (Value.str (Str.ofString "/claim/cut.py") 317), (Value.int (50 : Int) 0), (Value.int (1 : Int) 0), (Value.int (0 : Int) 0), (Value.int (0 : Int) 0), (Value.int (3 : Int) 0), (Value.ref 100), (Value.bool Bool.true), (Value.int (181 : Int) 0), (Value.ref 101), Value.none, (Value.ref 102), (Value.ref 103), (Value.ref 104), (Value.int (319 : Int) 0), (Value.int (50 : Int) 0), (Value.str (Str.ofString "/claim/cut.py") 320)]) #[])) ::
  ((nat_lit 106), (Obj.mk (Value.type "function") none (Data.func (FuncData.mk (Str.ofString "is_there") (Str.ofString "Process.is_there") (hA (hT (hB (hT hM 14)) 2)) (FuncBody.stmts (hB (hT (hB (hT hM 14)) 2))) (hS (hT (hB (hT hM 14)) 1)) 3 [] Value.none Value.none Value.none (Value.str (Str.ofString "pipeboard.procs") 272) none (Value.ref 105) Value.none 0)) #[])) ::
  ((nat_lit 107), (Obj.mk (Value.type "tuple") none (Data.seq #[] 0) #[])) ::
  ((nat_lit 109), (Obj.mk (Value.type "tuple") none (Data.seq #[(Value.str (Str.ofString "self") 325)] 0) #[])) ::
  ((nat_lit 110), (Obj.mk (Value.type "tuple") none (Data.seq #[] 0) #[])) ::
  ((nat_lit 112), (Obj.mk (Value.type "code") none (Data.fields #[(Value.str (Str.ofString "is_alive") 322), (Value.str (Str.ofString "Process.is_alive") 323), (Value.str (Str.ofString "/claim/cut.py") 324), (Value.int (53 : Int) 0), (Value.int (1 : Int) 0), (Value.int (0 : Int) 0), (Value.int (0 : Int) 0), (Value.int (3 : Int) 0), (Value.ref 107), (Value.bool Bool.true), (Value.int (181 : Int) 0), (Value.ref 108), Value.none, (Value.ref 109), (Value.ref 110), (Value.ref 111), (Value.int (326 : Int) 0), (Value.int (53 : Int) 0), (Value.str (Str.ofString "/claim/cut.py") 327)]) #[])) ::
  ((nat_lit 113), (Obj.mk (Value.type "function") none (Data.func (FuncData.mk (Str.ofString "is_alive") (Str.ofString "Process.is_alive") (hA (hT (hB (hT hM 14)) 3)) (FuncBody.stmts (hB (hT (hB (hT hM 14)) 3))) (hS (hT (hB (hT hM 14)) 3)) 3 [] Value.none Value.none Value.none (Value.str (Str.ofString "pipeboard.procs") 272) none (Value.ref 112) Value.none 0)) #[])) ::
  ((nat_lit 114), (Obj.mk (Value.type "tuple") none (Data.seq #[] 0) #[])) ::
  ((nat_lit 116), (Obj.mk (Value.type "tuple") none (Data.seq #[(Value.str (Str.ofString "self") 332)] 0) #[])) ::
  ((nat_lit 117), (Obj.mk (Value.type "tuple") none (Data.seq #[] 0) #[])) ::
  ((nat_lit 119), (Obj.mk (Value.type "code") none (Data.fields #[(Value.str (Str.ofString "size") 329), (Value.str (Str.ofString "Process.size") 330), (Value.str (Str.ofString "/claim/cut.py") 331), (Value.int (56 : Int) 0), (Value.int (1 : Int) 0), (Value.int (0 : Int) 0), (Value.int (0 : Int) 0), (Value.int (3 : Int) 0), (Value.ref 114), (Value.bool Bool.true), (Value.int (181 : Int) 0), (Value.ref 115), Value.none, (Value.ref 116), (Value.ref 117), (Value.ref 118), (Value.int (333 : Int) 0), (Value.int (56 : Int) 0), (Value.str (Str.ofString "/claim/cut.py") 334)]) #[])) ::
  ((nat_lit 120), (Obj.mk (Value.type "function") none (Data.func (FuncData.mk (Str.ofString "size") (Str.ofString "Process.size") (hA (hT (hB (hT hM 14)) 4)) (FuncBody.stmts (hB (hT (hB (hT hM 14)) 4))) (hS (hT (hB (hT hM 14)) 3)) 3 [] Value.none Value.none Value.none (Value.str (Str.ofString "pipeboard.procs") 272) none (Value.ref 119) Value.none 0)) #[])) ::
  ((nat_lit 121), (Obj.mk (Value.type "property") none (Data.fields #[(Value.ref 120), Value.none, Value.none, Value.none, (Value.str (Str.ofString "size") 336), (Value.bool Bool.false)]) #[])) ::
  ((nat_lit 122), (Obj.mk (Value.type "tuple") none (Data.seq #[] 0) #[])) ::
  ((nat_lit 124), (Obj.mk (Value.type "tuple") none (Data.seq #[(Value.str (Str.ofString "self") 340)] 0) #[])) ::
  ((nat_lit 125), (Obj.mk (Value.type "tuple") none (Data.seq #[] 0) #[])) ::
  ((nat_lit 127), (Obj.mk (Value.type "code") none (Data.fields #[(Value.str (Str.ofString "row") 337), (Value.str (Str.ofString "Process.row") 338), (Value.str (Str.ofString "/claim/cut.py") 339), (Value.int (60 : Int) 0), (Value.int (1 : Int) 0), (Value.int (0 : Int) 0), (Value.int (0 : Int) 0), (Value.int (3 : Int) 0), (Value.ref 122), (Value.bool Bool.true), (Value.int (181 : Int) 0), (Value.ref 123), Value.none, (Value.ref 124), (Value.ref 125), (Value.ref 126), (Value.int (341 : Int) 0), (Value.int (60 : Int) 0), (Value.str (Str.ofString "/claim/cut.py") 342)]) #[])) ::
  ((nat_lit 128), (Obj.mk (Value.type "function") none (Data.func (FuncData.mk (Str.ofString "row") (Str.ofString "Process.row") (hA (hT (hB (hT hM 14)) 5)) (FuncBody.stmts (hB (hT (hB (hT hM 14)) 5))) (hS (hT (hB (hT hM 14)) 5)) 3 [] Value.none Value.none Value.none (Value.str (Str.ofString "pipeboard.procs") 272) none (Value.ref 127) Value.none 0)) #[])) ::
  ((nat_lit 129), (Obj.mk (Value.type "tuple") none (Data.seq #[(Value.str (Str.ofString "channel") 344), (Value.str (Str.ofString "cwd") 345), (Value.str (Str.ofString "files") 346), (Value.str (Str.ofString "in_call") 347), (Value.str (Str.ofString "job") 348), (Value.str (Str.ofString "killed") 349), (Value.str (Str.ofString "name") 350), (Value.str (Str.ofString "parent") 351), (Value.str (Str.ofString "pc") 352), (Value.str (Str.ofString "pid") 353), (Value.str (Str.ofString "place") 354), (Value.str (Str.ofString "progress") 355), (Value.str (Str.ofString "registers") 356), (Value.str (Str.ofString "space") 357), (Value.str (Str.ofString "state") 358), (Value.str (Str.ofString "status") 359), (Value.str (Str.ofString "told") 360), (Value.str (Str.ofString "turns") 361), (Value.str (Str.ofString "wakes") 362)] 0) #[])) ::
  ((nat_lit 130), (Obj.mk (Value.type "dict") none (Data.dict #[(DictEntry.mk (PyData.keyHash P (Str.ofString "__module__")) (Value.str (Str.ofString "__module__") 295) (Value.str (Str.ofString "pipeboard.procs") 272)), (DictEntry.mk (PyData.keyHash P (Str.ofString "__firstlineno__")) (Value.str (Str.ofString "__firstlineno__") 299) (Value.int (24 : Int) 298)), (DictEntry.mk (PyData.keyHash P (Str.ofString "__init__")) (Value.str (Str.ofString "__init__") 307) (Value.ref 92)), (DictEntry.mk (PyData.keyHash P (Str.ofString "clear")) (Value.str (Str.ofString "clear") 314) (Value.ref 99)), (DictEntry.mk (PyData.keyHash P (Str.ofString "is_there")) (Value.str (Str.ofString "is_there") 321) (Value.ref 106)), (DictEntry.mk (PyData.keyHash P (Str.ofString "is_alive")) (Value.str (Str.ofString "is_alive") 328) (Value.ref 113)), (DictEntry.mk (PyData.keyHash P (Str.ofString "size")) (Value.str (Str.ofString "size") 336) (Value.ref 121)), (DictEntry.mk (PyData.keyHash P (Str.ofString "row")) (Value.str (Str.ofString "row") 343) (Value.ref 128)), (DictEntry.mk (PyData.keyHash P (Str.ofString "__static_attributes__")) (Value.str (Str.ofString "__static_attributes__") 363) (Value.ref 129)), (DictEntry.mk (PyData.keyHash P (Str.ofString "__dict__")) (Value.str (Str.ofString "__dict__") 365) (Value.ref 132)), (DictEntry.mk (PyData.keyHash P (Str.ofString "__weakref__")) (Value.str (Str.ofString "__weakref__") 367) (Value.ref 133)), (DictEntry.mk (PyData.keyHash P (Str.ofString "__doc__")) (Value.str (Str.ofString "__doc__") 368) Value.none)] 4) #[])) ::
  ((nat_lit 131), (Obj.mk (Value.type "type") none (Data.cls (ClassData.mk (Str.ofString "Process") [(Value.type "object")] [(Value.ref 131), (Value.type "object")] 130 (Str.ofString "Process") Bool.true [] [] Bool.false none Bool.false)) #[none, none, (some (Value.str (Str.ofString "Process") 288)), (some (Value.str (Str.ofString "Process") 296)), (some (Value.builtin "object.__new__")), (some (Value.bool Bool.true))])) ::
  ((nat_lit 132), (Obj.mk (Value.type "getset_descriptor") none (Data.fields #[(Value.str (Str.ofString "__dict__") 364), (Value.ref 131), (Value.builtin "function.__dict__"), (Value.builtin "function.__dict__#set")]) #[])) ::
  ((nat_lit 133), (Obj.mk (Value.type "getset_descriptor") none (Data.fields #[(Value.str (Str.ofString "__weakref__") 366), (Value.ref 131), (Value.builtin "ExceptionGroup.__weakref__"), Value.none]) #[])) ::
  ((nat_lit 143), (Obj.mk (Value.type "tuple") none (Data.seq #[] 0) #[])) ::
  ((nat_lit 146), (Obj.mk (Value.type "code") none (Data.fields #[(Value.str (Str.ofString "__init__") 383), (Value.str (Str.ofString "Table.__init__") 384), (Value.str (Str.ofString "/claim/cut.py") 385), (Value.int (64 : Int) 0), (Value.int (2 : Int) 0), (Value.int (0 : Int) 0), (Value.int (0 : Int) 0), (Value.int (3 : Int) 0), (Value.ref 143), (Value.bool Bool.true), (Value.int (181 : Int) 0), (Value.ref 144), Value.none, Value.none, Value.none, (Value.ref 145), (Value.int (386 : Int) 0), (Value.int (64 : Int) 0), (Value.str (Str.ofString "/claim/cut.py") 387)]) #[])) ::
  ((nat_lit 147), (Obj.mk (Value.type "function") none (Data.func (FuncData.mk (Str.ofString "__init__") (Str.ofString "Table.__init__") (hA (hT (hB (hT hM 15)) 0)) (FuncBody.stmts (hB (hT (hB (hT hM 15)) 0))) (hS (hT (hB (hT hM 15)) 0)) 3 [] Value.none Value.none Value.none (Value.str (Str.ofString "pipeboard.procs") 272) none (Value.ref 146) Value.none 0)) #[])) ::
  ((nat_lit 148), (Obj.mk (Value.type "tuple") none (Data.seq #[] 0) #[])) ::
  ((nat_lit 150), (Obj.mk (Value.type "tuple") none (Data.seq #[(Value.str (Str.ofString "self") 392), (Value.str (Str.ofString "process") 393)] 0) #[])) ::
  ((nat_lit 151), (Obj.mk (Value.type "tuple") none (Data.seq #[] 0) #[])) ::
  ((nat_lit 153), (Obj.mk (Value.type "code") none (Data.fields #[(Value.str (Str.ofString "free_place") 389), (Value.str (Str.ofString "Table.free_place") 390), (Value.str (Str.ofString "/claim/cut.py") 391), (Value.int (71 : Int) 0), (Value.int (1 : Int) 0), (Value.int (0 : Int) 0), (Value.int (0 : Int) 0), (Value.int (3 : Int) 0), (Value.ref 148), (Value.bool Bool.true), (Value.int (181 : Int) 0), (Value.ref 149), Value.none, (Value.ref 150), (Value.ref 151), (Value.ref 152), (Value.int (394 : Int) 0), (Value.int (71 : Int) 0), (Value.str (Str.ofString "/claim/cut.py") 395)]) #[])) ::
  ((nat_lit 154), (Obj.mk (Value.type "function") none (Data.func (FuncData.mk (Str.ofString "free_place") (Str.ofString "Table.free_place") (hA (hT (hB (hT hM 15)) 1)) (FuncBody.stmts (hB (hT (hB (hT hM 15)) 1))) (hS (hT (hB (hT hM 15)) 1)) 3 [] Value.none Value.none Value.none (Value.str (Str.ofString "pipeboard.procs") 272) none (Value.ref 153) Value.none 0)) #[])) ::
  ((nat_lit 155), (Obj.mk (Value.type "tuple") none (Data.seq #[(Value.str (Str.ofString "") 397)] 0) #[])) ::
  ((nat_lit 156), (Obj.mk (Value.type "tuple") none (Data.seq #[] 0) #[])) ::
  ((nat_lit 158), (Obj.mk (Value.type "tuple") none (Data.seq #[(Value.str (Str.ofString "self") 401), (Value.str (Str.ofString "name") 402), (Value.str (Str.ofString "process") 403)] 0) #[])) ::
  ((nat_lit 159), (Obj.mk (Value.type "tuple") none (Data.seq #[] 0) #[])) ::
  ((nat_lit 161), (Obj.mk (Value.type "code") none (Data.fields #[(Value.str (Str.ofString "new") 398), (Value.str (Str.ofString "Table.new") 399), (Value.str (Str.ofString "/claim/cut.py") 400), (Value.int (77 : Int) 0), (Value.int (2 : Int) 0), (Value.int (0 : Int) 0), (Value.int (0 : Int) 0), (Value.int (3 : Int) 0), (Value.ref 156), (Value.bool Bool.true), (Value.int (181 : Int) 0), (Value.ref 157), Value.none, (Value.ref 158), (Value.ref 159), (Value.ref 160), (Value.int (404 : Int) 0), (Value.int (77 : Int) 0), (Value.str (Str.ofString "/claim/cut.py") 405)]) #[])) ::
  ((nat_lit 162), (Obj.mk (Value.type "function") none (Data.func (FuncData.mk (Str.ofString "new") (Str.ofString "Table.new") (hA (hT (hB (hT hM 15)) 2)) (FuncBody.stmts (hB (hT (hB (hT hM 15)) 2))) (hS (hT (hB (hT hM 15)) 2)) 3 [] (Value.ref 155) Value.none Value.none (Value.str (Str.ofString "pipeboard.procs") 272) none (Value.ref 161) Value.none 0)) #[])) ::
  ((nat_lit 163), (Obj.mk (Value.type "tuple") none (Data.seq #[] 0) #[])) ::
  ((nat_lit 165), (Obj.mk (Value.type "tuple") none (Data.seq #[(Value.str (Str.ofString "self") 410), (Value.str (Str.ofString "pid") 411), (Value.str (Str.ofString "process") 412)] 0) #[])) ::
  ((nat_lit 166), (Obj.mk (Value.type "tuple") none (Data.seq #[] 0) #[])) ::
  ((nat_lit 168), (Obj.mk (Value.type "code") none (Data.fields #[(Value.str (Str.ofString "find") 407), (Value.str (Str.ofString "Table.find") 408), (Value.str (Str.ofString "/claim/cut.py") 409), (Value.int (88 : Int) 0), (Value.int (2 : Int) 0), (Value.int (0 : Int) 0), (Value.int (0 : Int) 0), (Value.int (3 : Int) 0), (Value.ref 163), (Value.bool Bool.true), (Value.int (181 : Int) 0), (Value.ref 164), Value.none, (Value.ref 165), (Value.ref 166), (Value.ref 167), (Value.int (413 : Int) 0), (Value.int (88 : Int) 0), (Value.str (Str.ofString "/claim/cut.py") 414)]) #[])) ::
  ((nat_lit 169), (Obj.mk (Value.type "function") none (Data.func (FuncData.mk (Str.ofString "find") (Str.ofString "Table.find") (hA (hT (hB (hT hM 15)) 3)) (FuncBody.stmts (hB (hT (hB (hT hM 15)) 3))) (hS (hT (hB (hT hM 15)) 3)) 3 [] Value.none Value.none Value.none (Value.str (Str.ofString "pipeboard.procs") 272) none (Value.ref 168) Value.none 0)) #[])) ::
  ((nat_lit 170), (Obj.mk (Value.type "tuple") none (Data.seq #[] 0) #[])) ::
  ((nat_lit 173), (Obj.mk (Value.type "code") none (Data.fields #[(Value.str (Str.ofString "all") 416), (Value.str (Str.ofString "Table.all") 417), (Value.str (Str.ofString "/claim/cut.py") 418), (Value.int (94 : Int) 0), (Value.int (1 : Int) 0), (Value.int (0 : Int) 0), (Value.int (0 : Int) 0), (Value.int (3 : Int) 0), (Value.ref 170), (Value.bool Bool.true), (Value.int (181 : Int) 0), (Value.ref 171), Value.none, Value.none, Value.none, (Value.ref 172), (Value.int (419 : Int) 0), (Value.int (94 : Int) 0), (Value.str (Str.ofString "/claim/cut.py") 420)]) #[])) ::
  ((nat_lit 174), (Obj.mk (Value.type "function") none (Data.func (FuncData.mk (Str.ofString "all") (Str.ofString "Table.all") (hA (hT (hB (hT hM 15)) 4)) (FuncBody.stmts (hB (hT (hB (hT hM 15)) 4))) (hS (hT (hB (hT hM 15)) 4)) 3 [] Value.none Value.none Value.none (Value.str (Str.ofString "pipeboard.procs") 272) none (Value.ref 173) Value.none 0)) #[])) ::
  ((nat_lit 175), (Obj.mk (Value.type "tuple") none (Data.seq #[] 0) #[])) ::
  ((nat_lit 178), (Obj.mk (Value.type "code") none (Data.fields #[(Value.str (Str.ofString "children") 422), (Value.str (Str.ofString "Table.children") 423), (Value.str (Str.ofString "/claim/cut.py") 424), (Value.int (97 : Int) 0), (Value.int (2 : Int) 0), (Value.int (0 : Int) 0), (Value.int (0 : Int) 0), (Value.int (3 : Int) 0), (Value.ref 175), (Value.bool Bool.true), (Value.int (181 : Int) 0), (Value.ref 176), Value.none, Value.none, Value.none, (Value.ref 177), (Value.int (425 : Int) 0), (Value.int (97 : Int) 0), (Value.str (Str.ofString "/claim/cut.py") 426)]) #[])) ::
  ((nat_lit 179), (Obj.mk (Value.type "function") none (Data.func (FuncData.mk (Str.ofString "children") (Str.ofString "Table.children") (hA (hT (hB (hT hM 15)) 5)) (FuncBody.stmts (hB (hT (hB (hT hM 15)) 5))) (hS (hT (hB (hT hM 15)) 5)) 3 [] Value.none Value.none Value.none (Value.str (Str.ofString "pipeboard.procs") 272) none (Value.ref 178) Value.none 0)) #[])) ::
  ((nat_lit 180), (Obj.mk (Value.type "tuple") none (Data.seq #[] 0) #[])) ::
  ((nat_lit 182), (Obj.mk (Value.type "tuple") none (Data.seq #[(Value.str (Str.ofString "self") 431), (Value.str (Str.ofString "process") 432)] 0) #[])) ::
  ((nat_lit 183), (Obj.mk (Value.type "tuple") none (Data.seq #[] 0) #[])) ::
  ((nat_lit 185), (Obj.mk (Value.type "code") none (Data.fields #[(Value.str (Str.ofString "ready") 428), (Value.str (Str.ofString "Table.ready") 429), (Value.str (Str.ofString "/claim/cut.py") 430), (Value.int (100 : Int) 0), (Value.int (2 : Int) 0), (Value.int (0 : Int) 0), (Value.int (0 : Int) 0), (Value.int (3 : Int) 0), (Value.ref 180), (Value.bool Bool.true), (Value.int (181 : Int) 0), (Value.ref 181), Value.none, (Value.ref 182), (Value.ref 183), (Value.ref 184), (Value.int (433 : Int) 0), (Value.int (100 : Int) 0), (Value.str (Str.ofString "/claim/cut.py") 434)]) #[])) ::
  ((nat_lit 186), (Obj.mk (Value.type "function") none (Data.func (FuncData.mk (Str.ofString "ready") (Str.ofString "Table.ready") (hA (hT (hB (hT hM 15)) 6)) (FuncBody.stmts (hB (hT (hB (hT hM 15)) 6))) (hS (hT (hB (hT hM 15)) 6)) 3 [] Value.none Value.none Value.none (Value.str (Str.ofString "pipeboard.procs") 272) none (Value.ref 185) Value.none 0)) #[])) ::
  ((nat_lit 187), (Obj.mk (Value.type "tuple") none (Data.seq #[] 0) #[])) ::
  ((nat_lit 189), (Obj.mk (Value.type "tuple") none (Data.seq #[(Value.str (Str.ofString "self") 439), (Value.str (Str.ofString "many") 440), (Value.str (Str.ofString "step") 441), (Value.str (Str.ofString "process") 442)] 0) #[])) ::
  ((nat_lit 190), (Obj.mk (Value.type "tuple") none (Data.seq #[] 0) #[])) ::
  ((nat_lit 192), (Obj.mk (Value.type "code") none (Data.fields #[(Value.str (Str.ofString "next") 436), (Value.str (Str.ofString "Table.next") 437), (Value.str (Str.ofString "/claim/cut.py") 438), (Value.int (106 : Int) 0), (Value.int (1 : Int) 0), (Value.int (0 : Int) 0), (Value.int (0 : Int) 0), (Value.int (3 : Int) 0), (Value.ref 187), (Value.bool Bool.true), (Value.int (181 : Int) 0), (Value.ref 188), Value.none, (Value.ref 189), (Value.ref 190), (Value.ref 191), (Value.int (443 : Int) 0), (Value.int (106 : Int) 0), (Value.str (Str.ofString "/claim/cut.py") 444)]) #[])) ::
  ((nat_lit 193), (Obj.mk (Value.type "function") none (Data.func (FuncData.mk (Str.ofString "next") (Str.ofString "Table.next") (hA (hT (hB (hT hM 15)) 7)) (FuncBody.stmts (hB (hT (hB (hT hM 15)) 7))) (hS (hT (hB (hT hM 15)) 7)) 3 [] Value.none Value.none Value.none (Value.str (Str.ofString "pipeboard.procs") 272) none (Value.ref 192) Value.none 0)) #[])) ::
  ((nat_lit 194), (Obj.mk (Value.type "tuple") none (Data.seq #[] 0) #[])) ::
  ((nat_lit 196), (Obj.mk (Value.type "tuple") none (Data.seq #[(Value.str (Str.ofString "self") 449)] 0) #[])) ::
  ((nat_lit 197), (Obj.mk (Value.type "tuple") none (Data.seq #[] 0) #[])) ::
  ((nat_lit 199), (Obj.mk (Value.type "code") none (Data.fields #[(Value.str (Str.ofString "need_next") 446), (Value.str (Str.ofString "Table.need_next") 447), (Value.str (Str.ofString "/claim/cut.py") 448), (Value.int (118 : Int) 0), (Value.int (1 : Int) 0), (Value.int (0 : Int) 0), (Value.int (0 : Int) 0), (Value.int (3 : Int) 0), (Value.ref 194), (Value.bool Bool.true), (Value.int (181 : Int) 0), (Value.ref 195), Value.none, (Value.ref 196), (Value.ref 197), (Value.ref 198), (Value.int (450 : Int) 0), (Value.int (118 : Int) 0), (Value.str (Str.ofString "/claim/cut.py") 451)]) #[])) ::
  ((nat_lit 200), (Obj.mk (Value.type "function") none (Data.func (FuncData.mk (Str.ofString "need_next") (Str.ofString "Table.need_next") (hA (hT (hB (hT hM 15)) 8)) (FuncBody.stmts (hB (hT (hB (hT hM 15)) 8))) (hS (hT (hB (hT hM 14)) 3)) 3 [] Value.none Value.none Value.none (Value.str (Str.ofString "pipeboard.procs") 272) none (Value.ref 199) Value.none 0)) #[])) ::
  ((nat_lit 201), (Obj.mk (Value.type "tuple") none (Data.seq #[Value.none] 0) #[])) ::
  ((nat_lit 202), (Obj.mk (Value.type "tuple") none (Data.seq #[] 0) #[])) ::
  ((nat_lit 204), (Obj.mk (Value.type "tuple") none (Data.seq #[(Value.str (Str.ofString "self") 456), (Value.str (Str.ofString "parent") 457), (Value.str (Str.ofString "files") 458), (Value.str (Str.ofString "child") 459)] 0) #[])) ::
  ((nat_lit 205), (Obj.mk (Value.type "tuple") none (Data.seq #[] 0) #[])) ::
  ((nat_lit 207), (Obj.mk (Value.type "code") none (Data.fields #[(Value.str (Str.ofString "fork") 453), (Value.str (Str.ofString "Table.fork") 454), (Value.str (Str.ofString "/claim/cut.py") 455), (Value.int (121 : Int) 0), (Value.int (3 : Int) 0), (Value.int (0 : Int) 0), (Value.int (0 : Int) 0), (Value.int (3 : Int) 0), (Value.ref 202), (Value.bool Bool.true), (Value.int (181 : Int) 0), (Value.ref 203), Value.none, (Value.ref 204), (Value.ref 205), (Value.ref 206), (Value.int (460 : Int) 0), (Value.int (121 : Int) 0), (Value.str (Str.ofString "/claim/cut.py") 461)]) #[])) ::
  ((nat_lit 208), (Obj.mk (Value.type "function") none (Data.func (FuncData.mk (Str.ofString "fork") (Str.ofString "Table.fork") (hA (hT (hB (hT hM 15)) 9)) (FuncBody.stmts (hB (hT (hB (hT hM 15)) 9))) (hS (hT (hB (hT hM 15)) 9)) 3 [] (Value.ref 201) Value.none Value.none (Value.str (Str.ofString "pipeboard.procs") 272) none (Value.ref 207) Value.none 0)) #[])) ::
  ((nat_lit 209), (Obj.mk (Value.type "tuple") none (Data.seq #[] 0) #[])) ::
  ((nat_lit 211), (Obj.mk (Value.type "tuple") none (Data.seq #[(Value.str (Str.ofString "self") 466), (Value.str (Str.ofString "process") 467), (Value.str (Str.ofString "child") 468)] 0) #[])) ::
  ((nat_lit 212), (Obj.mk (Value.type "tuple") none (Data.seq #[] 0) #[])) ::
  ((nat_lit 214), (Obj.mk (Value.type "code") none (Data.fields #[(Value.str (Str.ofString "reparent") 463), (Value.str (Str.ofString "Table.reparent") 464), (Value.str (Str.ofString "/claim/cut.py") 465), (Value.int (137 : Int) 0), (Value.int (2 : Int) 0), (Value.int (0 : Int) 0), (Value.int (0 : Int) 0), (Value.int (3 : Int) 0), (Value.ref 209), (Value.bool Bool.true), (Value.int (181 : Int) 0), (Value.ref 210), Value.none, (Value.ref 211), (Value.ref 212), (Value.ref 213), (Value.int (469 : Int) 0), (Value.int (137 : Int) 0), (Value.str (Str.ofString "/claim/cut.py") 470)]) #[])) ::
  ((nat_lit 215), (Obj.mk (Value.type "function") none (Data.func (FuncData.mk (Str.ofString "reparent") (Str.ofString "Table.reparent") (hA (hT (hB (hT hM 15)) 10)) (FuncBody.stmts (hB (hT (hB (hT hM 15)) 10))) (hS (hT (hB (hT hM 15)) 10)) 3 [] Value.none Value.none Value.none (Value.str (Str.ofString "pipeboard.procs") 272) none (Value.ref 214) Value.none 0)) #[])) ::
  ((nat_lit 216), (Obj.mk (Value.type "tuple") none (Data.seq #[] 0) #[])) ::
  ((nat_lit 218), (Obj.mk (Value.type "tuple") none (Data.seq #[(Value.str (Str.ofString "self") 475), (Value.str (Str.ofString "process") 476)] 0) #[])) ::
  ((nat_lit 219), (Obj.mk (Value.type "tuple") none (Data.seq #[] 0) #[])) ::
  ((nat_lit 221), (Obj.mk (Value.type "code") none (Data.fields #[(Value.str (Str.ofString "channel_of") 472), (Value.str (Str.ofString "Table.channel_of") 473), (Value.str (Str.ofString "/claim/cut.py") 474), (Value.int (143 : Int) 0), (Value.int (2 : Int) 0), (Value.int (0 : Int) 0), (Value.int (0 : Int) 0), (Value.int (3 : Int) 0), (Value.ref 216), (Value.bool Bool.true), (Value.int (181 : Int) 0), (Value.ref 217), Value.none, (Value.ref 218), (Value.ref 219), (Value.ref 220), (Value.int (477 : Int) 0), (Value.int (143 : Int) 0), (Value.str (Str.ofString "/claim/cut.py") 478)]) #[])) ::
  ((nat_lit 222), (Obj.mk (Value.type "function") none (Data.func (FuncData.mk (Str.ofString "channel_of") (Str.ofString "Table.channel_of") (hA (hT (hB (hT hM 15)) 11)) (FuncBody.stmts (hB (hT (hB (hT hM 15)) 11))) (hS (hT (hB (hT hM 15)) 11)) 3 [] Value.none Value.none Value.none (Value.str (Str.ofString "pipeboard.procs") 272) none (Value.ref 221) Value.none 0)) #[])) ::
  ((nat_lit 223), (Obj.mk (Value.type "tuple") none (Data.seq #[] 0) #[])) ::
  ((nat_lit 225), (Obj.mk (Value.type "tuple") none (Data.seq #[(Value.str (Str.ofString "self") 483), (Value.str (Str.ofString "process") 484), (Value.str (Str.ofString "status") 485)] 0) #[])) ::
  ((nat_lit 226), (Obj.mk (Value.type "tuple") none (Data.seq #[] 0) #[])) ::
  ((nat_lit 228), (Obj.mk (Value.type "code") none (Data.fields #[(Value.str (Str.ofString "exit") 480), (Value.str (Str.ofString "Table.exit") 481), (Value.str (Str.ofString "/claim/cut.py") 482), (Value.int (146 : Int) 0), (Value.int (3 : Int) 0), (Value.int (0 : Int) 0), (Value.int (0 : Int) 0), (Value.int (3 : Int) 0), (Value.ref 223), (Value.bool Bool.true), (Value.int (181 : Int) 0), (Value.ref 224), Value.none, (Value.ref 225), (Value.ref 226), (Value.ref 227), (Value.int (486 : Int) 0), (Value.int (146 : Int) 0), (Value.str (Str.ofString "/claim/cut.py") 487)]) #[])) ::
  ((nat_lit 229), (Obj.mk (Value.type "function") none (Data.func (FuncData.mk (Str.ofString "exit") (Str.ofString "Table.exit") (hA (hT (hB (hT hM 15)) 12)) (FuncBody.stmts (hB (hT (hB (hT hM 15)) 12))) (hS (hT (hB (hT hM 15)) 12)) 3 [] Value.none Value.none Value.none (Value.str (Str.ofString "pipeboard.procs") 272) none (Value.ref 228) Value.none 0)) #[])) ::
  ((nat_lit 230), (Obj.mk (Value.type "tuple") none (Data.seq #[] 0) #[])) ::
  ((nat_lit 232), (Obj.mk (Value.type "tuple") none (Data.seq #[(Value.str (Str.ofString "self") 492), (Value.str (Str.ofString "process") 493), (Value.str (Str.ofString "told") 494)] 0) #[])) ::
  ((nat_lit 233), (Obj.mk (Value.type "tuple") none (Data.seq #[] 0) #[])) ::
  ((nat_lit 235), (Obj.mk (Value.type "code") none (Data.fields #[(Value.str (Str.ofString "reap") 489), (Value.str (Str.ofString "Table.reap") 490), (Value.str (Str.ofString "/claim/cut.py") 491), (Value.int (158 : Int) 0), (Value.int (2 : Int) 0), (Value.int (0 : Int) 0), (Value.int (0 : Int) 0), (Value.int (3 : Int) 0), (Value.ref 230), (Value.bool Bool.true), (Value.int (181 : Int) 0), (Value.ref 231), Value.none, (Value.ref 232), (Value.ref 233), (Value.ref 234), (Value.int (495 : Int) 0), (Value.int (158 : Int) 0), (Value.str (Str.ofString "/claim/cut.py") 496)]) #[])) ::
  ((nat_lit 236), (Obj.mk (Value.type "function") none (Data.func (FuncData.mk (Str.ofString "reap") (Str.ofString "Table.reap") (hA (hT (hB (hT hM 15)) 13)) (FuncBody.stmts (hB (hT (hB (hT hM 15)) 13))) (hS (hT (hB (hT hM 15)) 13)) 3 [] Value.none Value.none Value.none (Value.str (Str.ofString "pipeboard.procs") 272) none (Value.ref 235) Value.none 0)) #[])) ::
  ((nat_lit 237), (Obj.mk (Value.type "tuple") none (Data.seq #[] 0) #[])) ::
  ((nat_lit 239), (Obj.mk (Value.type "tuple") none (Data.seq #[(Value.str (Str.ofString "self") 501), (Value.str (Str.ofString "process") 502), (Value.str (Str.ofString "children") 503), (Value.str (Str.ofString "child") 504)] 0) #[])) ::
  ((nat_lit 240), (Obj.mk (Value.type "tuple") none (Data.seq #[] 0) #[])) ::
  ((nat_lit 242), (Obj.mk (Value.type "code") none (Data.fields #[(Value.str (Str.ofString "wait") 498), (Value.str (Str.ofString "Table.wait") 499), (Value.str (Str.ofString "/claim/cut.py") 500), (Value.int (165 : Int) 0), (Value.int (2 : Int) 0), (Value.int (0 : Int) 0), (Value.int (0 : Int) 0), (Value.int (3 : Int) 0), (Value.ref 237), (Value.bool Bool.true), (Value.int (181 : Int) 0), (Value.ref 238), Value.none, (Value.ref 239), (Value.ref 240), (Value.ref 241), (Value.int (505 : Int) 0), (Value.int (165 : Int) 0), (Value.str (Str.ofString "/claim/cut.py") 506)]) #[])) ::
  ((nat_lit 243), (Obj.mk (Value.type "function") none (Data.func (FuncData.mk (Str.ofString "wait") (Str.ofString "Table.wait") (hA (hT (hB (hT hM 15)) 14)) (FuncBody.stmts (hB (hT (hB (hT hM 15)) 14))) (hS (hT (hB (hT hM 15)) 14)) 3 [] Value.none Value.none Value.none (Value.str (Str.ofString "pipeboard.procs") 272) none (Value.ref 242) Value.none 0)) #[])) ::
  ((nat_lit 244), (Obj.mk (Value.type "tuple") none (Data.seq #[] 0) #[])) ::
  ((nat_lit 246), (Obj.mk (Value.type "tuple") none (Data.seq #[(Value.str (Str.ofString "self") 511), (Value.str (Str.ofString "process") 512), (Value.str (Str.ofString "channel") 513)] 0) #[])) ::
  ((nat_lit 247), (Obj.mk (Value.type "tuple") none (Data.seq #[] 0) #[])) ::
  ((nat_lit 249), (Obj.mk (Value.type "code") none (Data.fields #[(Value.str (Str.ofString "sleep") 508), (Value.str (Str.ofString "Table.sleep") 509), (Value.str (Str.ofString "/claim/cut.py") 510), (Value.int (175 : Int) 0), (Value.int (3 : Int) 0), (Value.int (0 : Int) 0), (Value.int (0 : Int) 0), (Value.int (3 : Int) 0), (Value.ref 244), (Value.bool Bool.true), (Value.int (181 : Int) 0), (Value.ref 245), Value.none, (Value.ref 246), (Value.ref 247), (Value.ref 248), (Value.int (514 : Int) 0), (Value.int (175 : Int) 0), (Value.str (Str.ofString "/claim/cut.py") 515)]) #[])) ::
  ((nat_lit 250), (Obj.mk (Value.type "function") none (Data.func (FuncData.mk (Str.ofString "sleep") (Str.ofString "Table.sleep") (hA (hT (hB (hT hM 15)) 15)) (FuncBody.stmts (hB (hT (hB (hT hM 15)) 15))) (hS (hT (hB (hT hM 15)) 15)) 3 [] Value.none Value.none Value.none (Value.str (Str.ofString "pipeboard.procs") 272) none (Value.ref 249) Value.none 0)) #[])) ::
  ((nat_lit 251), (Obj.mk (Value.type "tuple") none (Data.seq #[] 0) #[])) ::
  ((nat_lit 253), (Obj.mk (Value.type "tuple") none (Data.seq #[(Value.str (Str.ofString "self") 520), (Value.str (Str.ofString "channel") 521), (Value.str (Str.ofString "many") 522), (Value.str (Str.ofString "process") 523)] 0) #[])) ::
  ((nat_lit 254), (Obj.mk (Value.type "tuple") none (Data.seq #[] 0) #[])) ::
  ((nat_lit 256), (Obj.mk (Value.type "code") none (Data.fields #[(Value.str (Str.ofString "wakeup") 517), (Value.str (Str.ofString "Table.wakeup") 518), (Value.str (Str.ofString "/claim/cut.py") 519), (Value.int (181 : Int) 0), (Value.int (2 : Int) 0), (Value.int (0 : Int) 0), (Value.int (0 : Int) 0), (Value.int (3 : Int) 0), (Value.ref 251), (Value.bool Bool.true), (Value.int (181 : Int) 0), (Value.ref 252), Value.none, (Value.ref 253), (Value.ref 254), (Value.ref 255), (Value.int (524 : Int) 0), (Value.int (181 : Int) 0), (Value.str (Str.ofString "/claim/cut.py") 525)]) #[])) ::
  ((nat_lit 257), (Obj.mk (Value.type "function") none (Data.func (FuncData.mk (Str.ofString "wakeup") (Str.ofString "Table.wakeup") (hA (hT (hB (hT hM 15)) 16)) (FuncBody.stmts (hB (hT (hB (hT hM 15)) 16))) (hS (hT (hB (hT hM 15)) 16)) 3 [] Value.none Value.none Value.none (Value.str (Str.ofString "pipeboard.procs") 272) none (Value.ref 256) Value.none 0)) #[])) ::
  ((nat_lit 258), (Obj.mk (Value.type "tuple") none (Data.seq #[] 0) #[])) ::
  ((nat_lit 260), (Obj.mk (Value.type "tuple") none (Data.seq #[(Value.str (Str.ofString "self") 530), (Value.str (Str.ofString "pid") 531), (Value.str (Str.ofString "process") 532)] 0) #[])) ::
  ((nat_lit 261), (Obj.mk (Value.type "tuple") none (Data.seq #[] 0) #[])) ::
  ((nat_lit 263), (Obj.mk (Value.type "code") none (Data.fields #[(Value.str (Str.ofString "kill") 527), (Value.str (Str.ofString "Table.kill") 528), (Value.str (Str.ofString "/claim/cut.py") 529), (Value.int (189 : Int) 0), (Value.int (2 : Int) 0), (Value.int (0 : Int) 0), (Value.int (0 : Int) 0), (Value.int (3 : Int) 0), (Value.ref 258), (Value.bool Bool.true), (Value.int (181 : Int) 0), (Value.ref 259), Value.none, (Value.ref 260), (Value.ref 261), (Value.ref 262), (Value.int (533 : Int) 0), (Value.int (189 : Int) 0), (Value.str (Str.ofString "/claim/cut.py") 534)]) #[])) ::
  ((nat_lit 264), (Obj.mk (Value.type "function") none (Data.func (FuncData.mk (Str.ofString "kill") (Str.ofString "Table.kill") (hA (hT (hB (hT hM 15)) 17)) (FuncBody.stmts (hB (hT (hB (hT hM 15)) 17))) (hS (hT (hB (hT hM 15)) 17)) 3 [] Value.none Value.none Value.none (Value.str (Str.ofString "pipeboard.procs") 272) none (Value.ref 263) Value.none 0)) #[])) ::
  ((nat_lit 265), (Obj.mk (Value.type "tuple") none (Data.seq #[] 0) #[])) ::
  ((nat_lit 267), (Obj.mk (Value.type "tuple") none (Data.seq #[(Value.str (Str.ofString "self") 539)] 0) #[])) ::
  ((nat_lit 268), (Obj.mk (Value.type "tuple") none (Data.seq #[] 0) #[])) ::
  ((nat_lit 270), (Obj.mk (Value.type "code") none (Data.fields #[(Value.str (Str.ofString "rows") 536), (Value.str (Str.ofString "Table.rows") 537), (Value.str (Str.ofString "/claim/cut.py") 538), (Value.int (197 : Int) 0), (Value.int (1 : Int) 0), (Value.int (0 : Int) 0), (Value.int (0 : Int) 0), (Value.int (3 : Int) 0), (Value.ref 265), (Value.bool Bool.true), (Value.int (181 : Int) 0), (Value.ref 266), Value.none, (Value.ref 267), (Value.ref 268), (Value.ref 269), (Value.int (540 : Int) 0), (Value.int (197 : Int) 0), (Value.str (Str.ofString "/claim/cut.py") 541)]) #[])) ::
  ((nat_lit 271), (Obj.mk (Value.type "function") none (Data.func (FuncData.mk (Str.ofString "rows") (Str.ofString "Table.rows") (hA (hT (hB (hT hM 15)) 18)) (FuncBody.stmts (hB (hT (hB (hT hM 15)) 18))) (hS (hT (hB (hT hM 14)) 3)) 3 [] Value.none Value.none Value.none (Value.str (Str.ofString "pipeboard.procs") 272) none (Value.ref 270) Value.none 0)) #[])) ::
  ((nat_lit 272), (Obj.mk (Value.type "tuple") none (Data.seq #[(Value.str (Str.ofString "first") 543), (Value.str (Str.ofString "last") 544), (Value.str (Str.ofString "next_pid") 545), (Value.str (Str.ofString "places") 546), (Value.str (Str.ofString "running") 547)] 0) #[])) ::
  ((nat_lit 273), (Obj.mk (Value.type "dict") none (Data.dict #[(DictEntry.mk (PyData.keyHash P (Str.ofString "__module__")) (Value.str (Str.ofString "__module__") 378) (Value.str (Str.ofString "pipeboard.procs") 272)), (DictEntry.mk (PyData.keyHash P (Str.ofString "__firstlineno__")) (Value.str (Str.ofString "__firstlineno__") 382) (Value.int (62 : Int) 381)), (DictEntry.mk (PyData.keyHash P (Str.ofString "__init__")) (Value.str (Str.ofString "__init__") 388) (Value.ref 147)), (DictEntry.mk (PyData.keyHash P (Str.ofString "free_place")) (Value.str (Str.ofString "free_place") 396) (Value.ref 154)), (DictEntry.mk (PyData.keyHash P (Str.ofString "new")) (Value.str (Str.ofString "new") 406) (Value.ref 162)), (DictEntry.mk (PyData.keyHash P (Str.ofString "find")) (Value.str (Str.ofString "find") 415) (Value.ref 169)), (DictEntry.mk (PyData.keyHash P (Str.ofString "all")) (Value.str (Str.ofString "all") 421) (Value.ref 174)), (DictEntry.mk (PyData.keyHash P (Str.ofString "children")) (Value.str (Str.ofString "children") 427) (Value.ref 179)), (DictEntry.mk (PyData.keyHash P (Str.ofString "ready")) (Value.str (Str.ofString "ready") 435) (Value.ref 186)), (DictEntry.mk (PyData.keyHash P (Str.ofString "next")) (Value.str (Str.ofString "next") 445) (Value.ref 193)), (DictEntry.mk (PyData.keyHash P (Str.ofString "need_next")) (Value.str (Str.ofString "need_next") 452) (Value.ref 200)), (DictEntry.mk (PyData.keyHash P (Str.ofString "fork")) (Value.str (Str.ofString "fork") 462) (Value.ref 208)), (DictEntry.mk (PyData.keyHash P (Str.ofString "reparent")) (Value.str (Str.ofString "reparent") 471) (Value.ref 215)), (DictEntry.mk (PyData.keyHash P (Str.ofString "channel_of")) (Value.str (Str.ofString "channel_of") 479) (Value.ref 222)), (DictEntry.mk (PyData.keyHash P (Str.ofString "exit")) (Value.str (Str.ofString "exit") 488) (Value.ref 229)), (DictEntry.mk (PyData.keyHash P (Str.ofString "reap")) (Value.str (Str.ofString "reap") 497) (Value.ref 236)), (DictEntry.mk (PyData.keyHash P (Str.ofString "wait")) (Value.str (Str.ofString "wait") 507) (Value.ref 243)), (DictEntry.mk (PyData.keyHash P (Str.ofString "sleep")) (Value.str (Str.ofString "sleep") 516) (Value.ref 250)), (DictEntry.mk (PyData.keyHash P (Str.ofString "wakeup")) (Value.str (Str.ofString "wakeup") 526) (Value.ref 257)), (DictEntry.mk (PyData.keyHash P (Str.ofString "kill")) (Value.str (Str.ofString "kill") 535) (Value.ref 264)), (DictEntry.mk (PyData.keyHash P (Str.ofString "rows")) (Value.str (Str.ofString "rows") 542) (Value.ref 271)), (DictEntry.mk (PyData.keyHash P (Str.ofString "__static_attributes__")) (Value.str (Str.ofString "__static_attributes__") 548) (Value.ref 272)), (DictEntry.mk (PyData.keyHash P (Str.ofString "__dict__")) (Value.str (Str.ofString "__dict__") 550) (Value.ref 275)), (DictEntry.mk (PyData.keyHash P (Str.ofString "__weakref__")) (Value.str (Str.ofString "__weakref__") 552) (Value.ref 276)), (DictEntry.mk (PyData.keyHash P (Str.ofString "__doc__")) (Value.str (Str.ofString "__doc__") 553) Value.none)] 4) #[])) ::
  ((nat_lit 274), (Obj.mk (Value.type "type") none (Data.cls (ClassData.mk (Str.ofString "Table") [(Value.type "object")] [(Value.ref 274), (Value.type "object")] 273 (Str.ofString "Table") Bool.true [] [] Bool.false none Bool.false)) #[none, none, (some (Value.str (Str.ofString "Table") 371)), (some (Value.str (Str.ofString "Table") 379)), (some (Value.builtin "object.__new__")), (some (Value.bool Bool.true))])) ::
  ((nat_lit 275), (Obj.mk (Value.type "getset_descriptor") none (Data.fields #[(Value.str (Str.ofString "__dict__") 549), (Value.ref 274), (Value.builtin "function.__dict__"), (Value.builtin "function.__dict__#set")]) #[])) ::
  ((nat_lit 276), (Obj.mk (Value.type "getset_descriptor") none (Data.fields #[(Value.str (Str.ofString "__weakref__") 551), (Value.ref 274), (Value.builtin "ExceptionGroup.__weakref__"), Value.none]) #[])) ::
  ((nat_lit 279), (Obj.mk (Value.type "tuple") none (Data.seq #[] 0) #[])) ::
  ((nat_lit 281), (Obj.mk (Value.type "tuple") none (Data.seq #[(Value.str (Str.ofString "box") 561), (Value.str (Str.ofString "many") 562), (Value.str (Str.ofString "figure") 563)] 0) #[])) ::
  ((nat_lit 282), (Obj.mk (Value.type "tuple") none (Data.seq #[] 0) #[])) ::
  ((nat_lit 284), (Obj.mk (Value.type "code") none (Data.fields #[(Value.str (Str.ofString "_law_take") 558), (Value.str (Str.ofString "_law_take") 559), (Value.str (Str.ofString "/claim/cut.py") 560), (Value.int (200 : Int) 0), (Value.int (2 : Int) 0), (Value.int (0 : Int) 0), (Value.int (0 : Int) 0), (Value.int (3 : Int) 0), (Value.ref 279), (Value.bool Bool.true), (Value.int (181 : Int) 0), (Value.ref 280), Value.none, (Value.ref 281), (Value.ref 282), (Value.ref 283), (Value.int (564 : Int) 0), (Value.int (200 : Int) 0), (Value.str (Str.ofString "/claim/cut.py") 565)]) #[])) ::
  ((nat_lit 285), (Obj.mk (Value.type "function") none (Data.func (FuncData.mk (Str.ofString "_law_take") (Str.ofString "_law_take") (hA (hT hM 17)) (FuncBody.stmts (hB (hT hM 17))) (hS (hT hM 17)) 3 [] Value.none Value.none Value.none (Value.str (Str.ofString "law_nz0217_01") 556) none (Value.ref 284) Value.none 0)) #[])) ::
  ((nat_lit 286), (Obj.mk (Value.type "tuple") none (Data.seq #[] 0) #[])) ::
  ((nat_lit 288), (Obj.mk (Value.type "tuple") none (Data.seq #[(Value.str (Str.ofString "box") 570), (Value.str (Str.ofString "deep") 571), (Value.str (Str.ofString "deeds") 572), (Value.str (Str.ofString "turn") 573), (Value.str (Str.ofString "way") 574)] 0) #[])) ::
  ((nat_lit 289), (Obj.mk (Value.type "tuple") none (Data.seq #[] 0) #[])) ::
  ((nat_lit 291), (Obj.mk (Value.type "code") none (Data.fields #[(Value.str (Str.ofString "_law_plan") 567), (Value.str (Str.ofString "_law_plan") 568), (Value.str (Str.ofString "/claim/cut.py") 569), (Value.int (207 : Int) 0), (Value.int (2 : Int) 0), (Value.int (0 : Int) 0), (Value.int (0 : Int) 0), (Value.int (3 : Int) 0), (Value.ref 286), (Value.bool Bool.true), (Value.int (181 : Int) 0), (Value.ref 287), Value.none, (Value.ref 288), (Value.ref 289), (Value.ref 290), (Value.int (575 : Int) 0), (Value.int (207 : Int) 0), (Value.str (Str.ofString "/claim/cut.py") 576)]) #[])) ::
  ((nat_lit 292), (Obj.mk (Value.type "function") none (Data.func (FuncData.mk (Str.ofString "_law_plan") (Str.ofString "_law_plan") (hA (hT hM 18)) (FuncBody.stmts (hB (hT hM 18))) (hS (hT hM 18)) 3 [] Value.none Value.none Value.none (Value.str (Str.ofString "law_nz0217_01") 556) none (Value.ref 291) Value.none 0)) #[])) ::
  ((nat_lit 293), (Obj.mk (Value.type "tuple") none (Data.seq #[] 0) #[])) ::
  ((nat_lit 296), (Obj.mk (Value.type "code") none (Data.fields #[(Value.str (Str.ofString "_law_kids") 578), (Value.str (Str.ofString "_law_kids") 579), (Value.str (Str.ofString "/claim/cut.py") 580), (Value.int (218 : Int) 0), (Value.int (2 : Int) 0), (Value.int (0 : Int) 0), (Value.int (0 : Int) 0), (Value.int (3 : Int) 0), (Value.ref 293), (Value.bool Bool.true), (Value.int (181 : Int) 0), (Value.ref 294), Value.none, Value.none, Value.none, (Value.ref 295), (Value.int (581 : Int) 0), (Value.int (218 : Int) 0), (Value.str (Str.ofString "/claim/cut.py") 582)]) #[])) ::
  ((nat_lit 297), (Obj.mk (Value.type "function") none (Data.func (FuncData.mk (Str.ofString "_law_kids") (Str.ofString "_law_kids") (hA (hT hM 19)) (FuncBody.stmts (hB (hT hM 19))) (hS (hT hM 19)) 3 [] Value.none Value.none Value.none (Value.str (Str.ofString "law_nz0217_01") 556) none (Value.ref 296) Value.none 0)) #[])) ::
  ((nat_lit 298), (Obj.mk (Value.type "tuple") none (Data.seq #[] 0) #[])) ::
  ((nat_lit 300), (Obj.mk (Value.type "tuple") none (Data.seq #[(Value.str (Str.ofString "book") 587), (Value.str (Str.ofString "table") 588), (Value.str (Str.ofString "process") 589), (Value.str (Str.ofString "plan") 590), (Value.str (Str.ofString "many") 591), (Value.str (Str.ofString "child") 592)] 0) #[])) ::
  ((nat_lit 301), (Obj.mk (Value.type "tuple") none (Data.seq #[] 0) #[])) ::
  ((nat_lit 303), (Obj.mk (Value.type "code") none (Data.fields #[(Value.str (Str.ofString "_law_forked") 584), (Value.str (Str.ofString "_law_forked") 585), (Value.str (Str.ofString "/claim/cut.py") 586), (Value.int (220 : Int) 0), (Value.int (5 : Int) 0), (Value.int (0 : Int) 0), (Value.int (0 : Int) 0), (Value.int (3 : Int) 0), (Value.ref 298), (Value.bool Bool.true), (Value.int (181 : Int) 0), (Value.ref 299), Value.none, (Value.ref 300), (Value.ref 301), (Value.ref 302), (Value.int (593 : Int) 0), (Value.int (220 : Int) 0), (Value.str (Str.ofString "/claim/cut.py") 594)]) #[])) ::
  ((nat_lit 304), (Obj.mk (Value.type "function") none (Data.func (FuncData.mk (Str.ofString "_law_forked") (Str.ofString "_law_forked") (hA (hT hM 20)) (FuncBody.stmts (hB (hT hM 20))) (hS (hT hM 20)) 3 [] Value.none Value.none Value.none (Value.str (Str.ofString "law_nz0217_01") 556) none (Value.ref 303) Value.none 0)) #[])) ::
  ((nat_lit 305), (Obj.mk (Value.type "tuple") none (Data.seq #[] 0) #[])) ::
  ((nat_lit 307), (Obj.mk (Value.type "tuple") none (Data.seq #[(Value.str (Str.ofString "book") 599), (Value.str (Str.ofString "table") 600), (Value.str (Str.ofString "process") 601), (Value.str (Str.ofString "status") 602), (Value.str (Str.ofString "mine") 603), (Value.str (Str.ofString "woken") 604), (Value.str (Str.ofString "pid") 605)] 0) #[])) ::
  ((nat_lit 308), (Obj.mk (Value.type "tuple") none (Data.seq #[] 0) #[])) ::
  ((nat_lit 310), (Obj.mk (Value.type "code") none (Data.fields #[(Value.str (Str.ofString "_law_ended") 596), (Value.str (Str.ofString "_law_ended") 597), (Value.str (Str.ofString "/claim/cut.py") 598), (Value.int (231 : Int) 0), (Value.int (4 : Int) 0), (Value.int (0 : Int) 0), (Value.int (0 : Int) 0), (Value.int (3 : Int) 0), (Value.ref 305), (Value.bool Bool.true), (Value.int (181 : Int) 0), (Value.ref 306), Value.none, (Value.ref 307), (Value.ref 308), (Value.ref 309), (Value.int (606 : Int) 0), (Value.int (231 : Int) 0), (Value.str (Str.ofString "/claim/cut.py") 607)]) #[])) ::
  ((nat_lit 311), (Obj.mk (Value.type "function") none (Data.func (FuncData.mk (Str.ofString "_law_ended") (Str.ofString "_law_ended") (hA (hT hM 21)) (FuncBody.stmts (hB (hT hM 21))) (hS (hT hM 21)) 3 [] Value.none Value.none Value.none (Value.str (Str.ofString "law_nz0217_01") 556) none (Value.ref 310) Value.none 0)) #[])) ::
  ((nat_lit 312), (Obj.mk (Value.type "tuple") none (Data.seq #[] 0) #[])) ::
  ((nat_lit 315), (Obj.mk (Value.type "code") none (Data.fields #[(Value.str (Str.ofString "_law_waited") 609), (Value.str (Str.ofString "_law_waited") 610), (Value.str (Str.ofString "/claim/cut.py") 611), (Value.int (244 : Int) 0), (Value.int (3 : Int) 0), (Value.int (0 : Int) 0), (Value.int (0 : Int) 0), (Value.int (3 : Int) 0), (Value.ref 312), (Value.bool Bool.true), (Value.int (181 : Int) 0), (Value.ref 313), Value.none, Value.none, Value.none, (Value.ref 314), (Value.int (612 : Int) 0), (Value.int (244 : Int) 0), (Value.str (Str.ofString "/claim/cut.py") 613)]) #[])) ::
  ((nat_lit 316), (Obj.mk (Value.type "function") none (Data.func (FuncData.mk (Str.ofString "_law_waited") (Str.ofString "_law_waited") (hA (hT hM 22)) (FuncBody.stmts (hB (hT hM 22))) (hS (hT hM 22)) 3 [] Value.none Value.none Value.none (Value.str (Str.ofString "law_nz0217_01") 556) none (Value.ref 315) Value.none 0)) #[])) ::
  ((nat_lit 317), (Obj.mk (Value.type "tuple") none (Data.seq #[] 0) #[])) ::
  ((nat_lit 319), (Obj.mk (Value.type "tuple") none (Data.seq #[(Value.str (Str.ofString "book") 618), (Value.str (Str.ofString "table") 619), (Value.str (Str.ofString "pid") 620)] 0) #[])) ::
  ((nat_lit 320), (Obj.mk (Value.type "tuple") none (Data.seq #[] 0) #[])) ::
  ((nat_lit 322), (Obj.mk (Value.type "code") none (Data.fields #[(Value.str (Str.ofString "_law_killed") 615), (Value.str (Str.ofString "_law_killed") 616), (Value.str (Str.ofString "/claim/cut.py") 617), (Value.int (259 : Int) 0), (Value.int (3 : Int) 0), (Value.int (0 : Int) 0), (Value.int (0 : Int) 0), (Value.int (3 : Int) 0), (Value.ref 317), (Value.bool Bool.true), (Value.int (181 : Int) 0), (Value.ref 318), Value.none, (Value.ref 319), (Value.ref 320), (Value.ref 321), (Value.int (621 : Int) 0), (Value.int (259 : Int) 0), (Value.str (Str.ofString "/claim/cut.py") 622)]) #[])) ::
  ((nat_lit 323), (Obj.mk (Value.type "function") none (Data.func (FuncData.mk (Str.ofString "_law_killed") (Str.ofString "_law_killed") (hA (hT hM 23)) (FuncBody.stmts (hB (hT hM 23))) (hS (hT hM 23)) 3 [] Value.none Value.none Value.none (Value.str (Str.ofString "law_nz0217_01") 556) none (Value.ref 322) Value.none 0)) #[])) ::
  ((nat_lit 324), (Obj.mk (Value.type "tuple") none (Data.seq #[] 0) #[])) ::
  ((nat_lit 327), (Obj.mk (Value.type "code") none (Data.fields #[(Value.str (Str.ofString "_law_fair") 624), (Value.str (Str.ofString "_law_fair") 625), (Value.str (Str.ofString "/claim/cut.py") 626), (Value.int (270 : Int) 0), (Value.int (2 : Int) 0), (Value.int (0 : Int) 0), (Value.int (0 : Int) 0), (Value.int (3 : Int) 0), (Value.ref 324), (Value.bool Bool.true), (Value.int (181 : Int) 0), (Value.ref 325), Value.none, Value.none, Value.none, (Value.ref 326), (Value.int (627 : Int) 0), (Value.int (270 : Int) 0), (Value.str (Str.ofString "/claim/cut.py") 628)]) #[])) ::
  ((nat_lit 328), (Obj.mk (Value.type "function") none (Data.func (FuncData.mk (Str.ofString "_law_fair") (Str.ofString "_law_fair") (hA (hT hM 24)) (FuncBody.stmts (hB (hT hM 24))) (hS (hT hM 24)) 3 [] Value.none Value.none Value.none (Value.str (Str.ofString "law_nz0217_01") 556) none (Value.ref 327) Value.none 0)) #[])) ::
  ((nat_lit 329), (Obj.mk (Value.type "tuple") none (Data.seq #[] 0) #[])) ::
  ((nat_lit 331), (Obj.mk (Value.type "tuple") none (Data.seq #[(Value.str (Str.ofString "book") 633), (Value.str (Str.ofString "table") 634), (Value.str (Str.ofString "many") 635), (Value.str (Str.ofString "process") 636), (Value.str (Str.ofString "mine") 637), (Value.str (Str.ofString "deed") 638), (Value.str (Str.ofString "more") 639), (Value.str (Str.ofString "right") 640), (Value.str (Str.ofString "is_done") 641)] 0) #[])) ::
  ((nat_lit 332), (Obj.mk (Value.type "tuple") none (Data.seq #[] 0) #[])) ::
  ((nat_lit 334), (Obj.mk (Value.type "code") none (Data.fields #[(Value.str (Str.ofString "_law_turn_right") 630), (Value.str (Str.ofString "_law_turn_right") 631), (Value.str (Str.ofString "/claim/cut.py") 632), (Value.int (273 : Int) 0), (Value.int (3 : Int) 0), (Value.int (0 : Int) 0), (Value.int (0 : Int) 0), (Value.int (3 : Int) 0), (Value.ref 329), (Value.bool Bool.true), (Value.int (181 : Int) 0), (Value.ref 330), Value.none, (Value.ref 331), (Value.ref 332), (Value.ref 333), (Value.int (642 : Int) 0), (Value.int (273 : Int) 0), (Value.str (Str.ofString "/claim/cut.py") 643)]) #[])) ::
  ((nat_lit 335), (Obj.mk (Value.type "function") none (Data.func (FuncData.mk (Str.ofString "_law_turn_right") (Str.ofString "_law_turn_right") (hA (hT hM 25)) (FuncBody.stmts (hB (hT hM 25))) (hS (hT hM 25)) 3 [] Value.none Value.none Value.none (Value.str (Str.ofString "law_nz0217_01") 556) none (Value.ref 334) Value.none 0)) #[])) ::
  ((nat_lit 336), (Obj.mk (Value.type "tuple") none (Data.seq #[] 0) #[])) ::
  ((nat_lit 339), (Obj.mk (Value.type "code") none (Data.fields #[(Value.str (Str.ofString "law") 645), (Value.str (Str.ofString "law") 646), (Value.str (Str.ofString "/claim/cut.py") 647), (Value.int (301 : Int) 0), (Value.int (1 : Int) 0), (Value.int (0 : Int) 0), (Value.int (0 : Int) 0), (Value.int (3 : Int) 0), (Value.ref 336), (Value.bool Bool.true), (Value.int (181 : Int) 0), (Value.ref 337), Value.none, Value.none, Value.none, (Value.ref 338), (Value.int (648 : Int) 0), (Value.int (301 : Int) 0), (Value.str (Str.ofString "/claim/cut.py") 649)]) #[])) ::
  ((nat_lit 340), (Obj.mk (Value.type "function") none (Data.func (FuncData.mk (Str.ofString "law") (Str.ofString "law") (hA (hT hM 26)) (FuncBody.stmts (hB (hT hM 26))) (hS (hT hM 26)) 3 [] Value.none Value.none Value.none (Value.str (Str.ofString "law_nz0217_01") 556) none (Value.ref 339) Value.none 0)) #[])) :: []
noncomputable def heapA : List Addr := nat_lit 2 :: nat_lit 3 :: nat_lit 15 :: nat_lit 17 :: nat_lit 18 :: nat_lit 20 :: nat_lit 21 :: nat_lit 22 :: nat_lit 29 :: nat_lit 30 :: nat_lit 32 :: nat_lit 33 :: nat_lit 35 :: nat_lit 36 :: nat_lit 37 :: nat_lit 38 :: nat_lit 39 :: nat_lit 40 :: nat_lit 43 :: nat_lit 50 :: nat_lit 51 :: nat_lit 52 :: nat_lit 55 :: nat_lit 62 :: nat_lit 63 :: nat_lit 64 :: nat_lit 67 :: nat_lit 74 :: nat_lit 75 :: nat_lit 76 :: nat_lit 86 :: nat_lit 88 :: nat_lit 89 :: nat_lit 91 :: nat_lit 92 :: nat_lit 93 :: nat_lit 95 :: nat_lit 96 :: nat_lit 98 :: nat_lit 99 :: nat_lit 100 :: nat_lit 102 :: nat_lit 103 :: nat_lit 105 :: nat_lit 106 :: nat_lit 107 :: nat_lit 109 :: nat_lit 110 :: nat_lit 112 :: nat_lit 113 :: nat_lit 114 :: nat_lit 116 :: nat_lit 117 :: nat_lit 119 :: nat_lit 120 :: nat_lit 121 :: nat_lit 122 :: nat_lit 124 :: nat_lit 125 :: nat_lit 127 :: nat_lit 128 :: nat_lit 129 :: nat_lit 130 :: nat_lit 131 :: nat_lit 132 :: nat_lit 133 :: nat_lit 143 :: nat_lit 146 :: nat_lit 147 :: nat_lit 148 :: nat_lit 150 :: nat_lit 151 :: nat_lit 153 :: nat_lit 154 :: nat_lit 155 :: nat_lit 156 :: nat_lit 158 :: nat_lit 159 :: nat_lit 161 :: nat_lit 162 :: nat_lit 163 :: nat_lit 165 :: nat_lit 166 :: nat_lit 168 :: nat_lit 169 :: nat_lit 170 :: nat_lit 173 :: nat_lit 174 :: nat_lit 175 :: nat_lit 178 :: nat_lit 179 :: nat_lit 180 :: nat_lit 182 :: nat_lit 183 :: nat_lit 185 :: nat_lit 186 :: nat_lit 187 :: nat_lit 189 :: nat_lit 190 :: nat_lit 192 :: nat_lit 193 :: nat_lit 194 :: nat_lit 196 :: nat_lit 197 :: nat_lit 199 :: nat_lit 200 :: nat_lit 201 :: nat_lit 202 :: nat_lit 204 :: nat_lit 205 :: nat_lit 207 :: nat_lit 208 :: nat_lit 209 :: nat_lit 211 :: nat_lit 212 :: nat_lit 214 :: nat_lit 215 :: nat_lit 216 :: nat_lit 218 :: nat_lit 219 :: nat_lit 221 :: nat_lit 222 :: nat_lit 223 :: nat_lit 225 :: nat_lit 226 :: nat_lit 228 :: nat_lit 229 :: nat_lit 230 :: nat_lit 232 :: nat_lit 233 :: nat_lit 235 :: nat_lit 236 :: nat_lit 237 :: nat_lit 239 :: nat_lit 240 :: nat_lit 242 :: nat_lit 243 :: nat_lit 244 :: nat_lit 246 :: nat_lit 247 :: nat_lit 249 :: nat_lit 250 :: nat_lit 251 :: nat_lit 253 :: nat_lit 254 :: nat_lit 256 :: nat_lit 257 :: nat_lit 258 :: nat_lit 260 :: nat_lit 261 :: nat_lit 263 :: nat_lit 264 :: nat_lit 265 :: nat_lit 267 :: nat_lit 268 :: nat_lit 270 :: nat_lit 271 :: nat_lit 272 :: nat_lit 273 :: nat_lit 274 :: nat_lit 275 :: nat_lit 276 :: nat_lit 279 :: nat_lit 281 :: nat_lit 282 :: nat_lit 284 :: nat_lit 285 :: nat_lit 286 :: nat_lit 288 :: nat_lit 289 :: nat_lit 291 :: nat_lit 292 :: nat_lit 293 :: nat_lit 296 :: nat_lit 297 :: nat_lit 298 :: nat_lit 300 :: nat_lit 301 :: nat_lit 303 :: nat_lit 304 :: nat_lit 305 :: nat_lit 307 :: nat_lit 308 :: nat_lit 310 :: nat_lit 311 :: nat_lit 312 :: nat_lit 315 :: nat_lit 316 :: nat_lit 317 :: nat_lit 319 :: nat_lit 320 :: nat_lit 322 :: nat_lit 323 :: nat_lit 324 :: nat_lit 327 :: nat_lit 328 :: nat_lit 329 :: nat_lit 331 :: nat_lit 332 :: nat_lit 334 :: nat_lit 335 :: nat_lit 336 :: nat_lit 339 :: nat_lit 340 :: []
noncomputable def viewK : Program := { PySem.Challenge.pw_nz0217_01 with main := { PySem.Challenge.pw_nz0217_01.main with body := ((hM.eraseIdx 16).eraseIdx 6).eraseIdx 1 } }
noncomputable abbrev hookK : Hook := kHook heapK heapA (fun _ => by kernel_rfl)
abbrev looseK : List Str := [Str.ofString "BoardError", Str.ofString "Process"]
theorem left : LeftO PySem.Challenge.rw_nz0217_01.row.prog viewK looseK (fun s => xlAt viewK [] s && recOk (RowW.records PySem.Challenge.rw_nz0217_01.row.toRowW) s) hookK.obs hookK.val 5210 := by
  intro w
  kernel_rfl
noncomputable def hP : Stmt → Pos
  | .FunctionDef (pos := p) .. => p
  | _ => ⟨0, 0, 0, 0⟩
noncomputable def lawR : DefRec := ⟨Str.ofString "law", hA (hT hM 26), hB (hT hM 26), hS (hT hM 26), hP (hT hM 26)⟩
theorem hd (walk : WalkO viewK looseK (XL viewK []) hookK.says PySem.Challenge.rw_nz0217_01.row.toRowW lawR [] fun f vs => PySem.call f vs) : PySem.Challenge.rw_nz0217_01.Holds := by
  w_on
  refine holds_law (by kernel_rfl) fun said => ?_
  refine holds_open (q := viewK) (loose := looseK) (Xt := fun s => xlAt viewK [] s && recOk (RowW.records PySem.Challenge.rw_nz0217_01.row.toRowW) s) (XP := XL viewK []) (Yf := hookK.obs) (Ya := hookK.val) (YP := hookK.says) (N := 5210) left hookK.of hookK.keeps
    (fun s e => xl_of s (Bool.and_eq_true_iff.mp e).1) XL.keeps (by kernel_rfl) (by kernel_rfl) (by kernel_rfl) (fun s e => recFacts_of (Bool.and_eq_true_iff.mp e).2) (by rfl) (by first | assumption | decide +kernel) (by decide +kernel) ⟨rfl, rfl, rfl, rfl, rfl, by decide +kernel⟩ ?zw walk
  case zw => w_witness2
theorem filled (w : World) : PySem.Challenge.rw_nz0217_01.foot = 10 ∧ (heapK w.params).length = (heapK w.params).length := by
  k_fill
  exact ⟨rfl, rfl⟩
section PartM1
open PySem PySem.W PyProof.Rows PySem.Spec PySem.Calls

abbrev PG : Program := PySem.Challenge.rw_nz0217_01.row.prog

/-- a value without its token -/
inductive MV where
  | none | bool (b : Bool) | int (i : Int) | str (x : Str) | ref (a : Addr)

def VR : MV → Value → Prop
  | .none, v => v = .none
  | .bool b, v => v = .bool b
  | .int i, v => ∃ t, v = .int i t
  | .str x, v => ∃ t, v = .str x t
  | .ref a, v => v = .ref a

inductive All2 {α β : Type} (R : α → β → Prop) : List α → List β → Prop
  | nil : All2 R [] []
  | cons {a b l m} : R a b → All2 R l m → All2 R (a :: l) (b :: m)

theorem All2.length {α β : Type} {R : α → β → Prop} {l : List α} {m : List β} (h : All2 R l m) : l.length = m.length := by
  induction h with
  | nil => rfl
  | cons _ _ ih => simp [ih]
theorem All2.append {α β : Type} {R : α → β → Prop} {l l' : List α} {m m' : List β} (h : All2 R l m) (h' : All2 R l' m') : All2 R (l ++ l') (m ++ m') := by
  induction h with
  | nil => exact h'
  | cons a _ ih => exact .cons a ih
theorem All2.get {α β : Type} {R : α → β → Prop} {l : List α} {m : List β} (h : All2 R l m) : ∀ {i : Nat} {a : α}, l[i]? = some a → ∃ b, m[i]? = some b ∧ R a b := by
  induction h with
  | nil => intro i a e; simp at e
  | cons r _ ih =>
    intro i a e
    cases i with
    | zero => simp at e; subst e; exact ⟨_, rfl, r⟩
    | succ i => simpa using ih (by simpa using e)
theorem All2.get' {α β : Type} {R : α → β → Prop} {l : List α} {m : List β} (h : All2 R l m) : ∀ {i : Nat} {b : β}, m[i]? = some b → ∃ a, l[i]? = some a ∧ R a b := by
  induction h with
  | nil => intro i a e; simp at e
  | cons r _ ih =>
    intro i a e
    cases i with
    | zero => simp at e; subst e; exact ⟨_, rfl, r⟩
    | succ i => simpa using ih (by simpa using e)
theorem All2.drop {α β : Type} {R : α → β → Prop} {l : List α} {m : List β} (h : All2 R l m) : ∀ (n : Nat), All2 R (l.drop n) (m.drop n) := by
  induction h with
  | nil => intro n; simp; exact .nil
  | cons r h ih =>
    intro n
    cases n with
    | zero => exact .cons r h
    | succ n => simpa using ih n
theorem All2.take {α β : Type} {R : α → β → Prop} {l : List α} {m : List β} (h : All2 R l m) : ∀ (n : Nat), All2 R (l.take n) (m.take n) := by
  induction h with
  | nil => intro n; simp; exact .nil
  | cons r h ih =>
    intro n
    cases n with
    | zero => simp; exact .nil
    | succ n => simpa using All2.cons r (ih n)
theorem All2.set {α β : Type} {R : α → β → Prop} {l : List α} {m : List β} (h : All2 R l m) {a : α} {b : β} (hab : R a b) : ∀ (n : Nat), All2 R (l.set n a) (m.set n b) := by
  induction h with
  | nil => intro n; simp; exact .nil
  | cons r h ih =>
    intro n
    cases n with
    | zero => simpa using All2.cons hab h
    | succ n => simpa using All2.cons r (ih n)

inductive MO where
  | inst (C d : Addr)
  | fields (fs : List (Str × MV))
  | sdict (kvs : List (Str × MV))
  | idict (kvs : List (Int × MV))
  | list (vs : List MV)
  | tuple (vs : List MV)
  | exc (C : Addr) (b : Bool)
  | plist (vs : List MV)

abbrev tupOf (its : Array Value) (n : Nat) : Obj := { cls := .type "tuple", data := .seq its n }
def OR (w : World) : MO → Obj → Prop
  | .inst C d, o => o = instObj C d
  | .fields fs, o => ∃ es n, o = dictOf es n ∧ All2 (fun (f : Str × MV) (e : DictEntry) => (∃ t, e.key = .str f.1 t) ∧ VR f.2 e.val) fs es ∧ fs.length ≤ 100
  | .sdict kvs, o => ∃ vs, o.IsDictOf (PySem.strKind PG w) vs ∧ All2 (fun (a : Str × MV) (b : Str × Value) => a.1 = b.1 ∧ VR a.2 b.2) kvs vs
  | .idict kvs, o => ∃ vs, o.IsDictOf (PySem.intKind PG w) vs ∧ All2 (fun (a : Int × MV) (b : Int × Value) => a.1 = b.1 ∧ VR a.2 b.2) kvs vs
  | .list vs, o => ∃ its n, o = listOf its n ∧ All2 VR vs its.toList
  | .tuple vs, o => ∃ its n, o = tupOf its n ∧ All2 VR vs its.toList
  | .plist vs, o => ∃ its n, o = listOf its n ∧ All2 VR vs its.toList
  | .exc C b, o => ∃ t d, (b = true → d = none) ∧ o = { cls := .ref C, dict := d, data := .fields #[.ref t, .none, .none, .none, .bool false, .none] }

def Store := Addr → Option MO
def Store.set (st : Store) (a : Addr) (mo : MO) : Store := fun b => if b = a then some mo else st b
theorem Store.set_self (st : Store) (a : Addr) (mo : MO) : st.set a mo a = some mo := by simp [Store.set]
theorem Store.set_ne (st : Store) {a b : Addr} (mo : MO) (h : b ≠ a) : st.set a mo b = st b := by simp [Store.set, h]

structure Cx where
  hd : Option Value
  dp : Nat
  un : Nat
  gd : Option (List Code)
  env : Env
  outer : List Env
  L : Addr

def Cx.A (c : Cx) : Around := { handled := c.hd, depth := c.dp, frames := some (c.env :: c.outer), guards := c.gd, units := c.un }

structure Cx.OK (c : Cx) (n : Nat) : Prop where
  lo : c.env.locals = c.L
  fr : c.env.frame = some c.L
  k : c.env.scope.kind = .function
  gl : c.env.globals = mainGlobals
  bi : c.env.builtins = builtinsNs
  d : c.dp + 4 * n + 10 < recursionLimit
  u : c.un + 40 * n + 200 < cLine

noncomputable abbrev LOOSE : List Str := looseW viewK [Str.ofString "BoardError", Str.ofString "Process"]

structure Gd (w : World) (b₀ : Heap) (mean : ExcName → Option Value) (mg mb : Str → Option Value) : Prop where
  X : (heapK w.params).In b₀
  T : Top viewK LOOSE mean mg mb b₀

def Above (b₀ : Heap) (a : Addr) : Prop := b₀.get? a = none ∧ (a == sysModules) = false

structure In (w : World) (b₀ : Heap) (c : Cx) (st : Store) (h : Heap) (m : Str → Option Value) : Prop where
  fr : Fr b₀ c.L h m
  rep : ∀ a mo, st a = some mo → ∃ o, h.get? a = some o ∧ OR w mo o ∧ a ≠ c.L ∧ Above b₀ a
  ff : h.FunFrames b₀ c.outer
  nf : ∀ e ∈ c.outer, ∀ L', e.frame = some L' → st L' = none ∧ L' ≠ c.L
  big : sysModules < b₀.objs.size

/-- what stands outside the store stays; a frame below may turn in its slots alone -/
def Step (c : Cx) (st : Store) (h : Heap) (st' : Store) (h' : Heap) : Prop :=
  ∀ b o, h.get? b = some o → st b = none → b ≠ c.L → st' b = none ∧ (h'.get? b = some o ∨ ((∃ e ∈ c.outer, e.frame = some b) ∧ ∃ sl, h'.get? b = some { o with slots := sl }))

theorem Step.refl (c : Cx) (st : Store) (h : Heap) : Step c st h st h := fun _ o e n _ => ⟨n, .inl e⟩
theorem Step.trans {c : Cx} {st st₁ st₂ : Store} {h h₁ h₂ : Heap} (x : Step c st h st₁ h₁) (y : Step c st₁ h₁ st₂ h₂) : Step c st h st₂ h₂ := fun b o e n q => by
  obtain ⟨n₁, e₁⟩ := x b o e n q
  rcases e₁ with e₁ | ⟨f, sl, e₁⟩
  · exact y b o e₁ n₁ q
  · obtain ⟨n₂, e₂⟩ := y b _ e₁ n₁ q
    rcases e₂ with e₂ | ⟨_, sl', e₂⟩
    · exact ⟨n₂, .inr ⟨f, sl, e₂⟩⟩
    · exact ⟨n₂, .inr ⟨f, sl', e₂⟩⟩
theorem Step.data {c : Cx} {st st' : Store} {h h' : Heap} (x : Step c st h st' h') {b : Addr} {o : Obj} (e : h.get? b = some o) (n : st b = none) (q : b ≠ c.L) : st' b = none ∧ ∃ o', h'.get? b = some o' ∧ o'.data = o.data ∧ o'.cls = o.cls := by
  obtain ⟨n', e' | ⟨_, sl, e'⟩⟩ := x b o e n q
  · exact ⟨n', o, e', rfl, rfl⟩
  · exact ⟨n', _, e', rfl, rfl⟩

theorem In.frames {w b₀ c st h m n} (I : In w b₀ c st h m) (hc : Cx.OK c n) : h.FunFrames b₀ (c.env :: c.outer) := by
  refine ⟨by rw [hc.k]; decide, ?_, I.ff⟩
  obtain ⟨o, es, ep, ho, hd, _⟩ := I.fr.ns
  refine ⟨c.L, o, hc.fr, ?_, ho, fun vs e => by rw [hd] at e; cases e⟩
  cases q : b₀.get? c.L with
  | none => rfl
  | some o' => exact absurd (Nat.lt_of_lt_of_le (Heap.lt_size q) I.fr.above) (Nat.lt_irrefl _)

/-- the state behind a step whose frame and store are known -/
theorem In.step {w b₀ c st st' h h' m m'} (I : In w b₀ c st h m) (F : Fr b₀ c.L h' m')
    (R : ∀ a mo, st' a = some mo → ∃ o, h'.get? a = some o ∧ OR w mo o ∧ a ≠ c.L ∧ Above b₀ a) (S : Step c st h st' h') : In w b₀ c st' h' m' := by
  refine ⟨F, R, ?_, fun e he L' hf => ⟨?_, (I.nf e he L' hf).2⟩, I.big⟩
  · have key : ∀ l : List Env, (∀ e ∈ l, e ∈ c.outer) → h.FunFrames b₀ l → h'.FunFrames b₀ l := by
      intro l
      induction l with
      | nil => intro _ _; trivial
      | cons e l ih =>
        intro hl hf
        obtain ⟨hk, ⟨L', o, hfr, hn, ho, hd⟩, hr⟩ := hf
        obtain ⟨_, o', ho', hd', _⟩ := S.data ho (I.nf e (hl e (.head _)) L' hfr).1 (I.nf e (hl e (.head _)) L' hfr).2
        exact ⟨hk, ⟨L', o', hfr, hn, ho', fun vs z => hd vs (by rw [← hd', z])⟩, ih (fun e' he' => hl e' (.tail _ he')) hr⟩
    exact key _ (fun _ h => h) I.ff
  · have key : ∀ l : List Env, (∀ e ∈ l, e ∈ c.outer) → h.FunFrames b₀ l → ∀ e ∈ l, e.frame = some L' → st' L' = none := by
      intro l
      induction l with
      | nil => intro _ _ e he; cases he
      | cons e l ih =>
        intro hl hf e' he' hf'
        obtain ⟨_, ⟨L'', o, hfr, _, ho, _⟩, hr⟩ := hf
        rcases List.mem_cons.mp he' with rfl | he''
        · rw [hfr] at hf'; cases hf'
          exact (S.data ho (I.nf e' (hl e' (.head _)) _ hfr).1 (I.nf e' (hl e' (.head _)) _ hfr).2).1
        · exact ih (fun e' he' => hl e' (.tail _ he')) hr e' he'' hf'
    exact key _ (fun _ h => h) I.ff e he hf

abbrev LM := Str → Option MV

def Sees (c : Cx) (env : Env) (st : Store) (h : Heap) (m : Str → Option Value) (lm : LM) : Prop := ∀ x mv, lm x = some mv → ∃ v, VR mv v ∧
  ((env.kindOf x = some .local ∧ env.locals = c.L ∧ m x = some v) ∨
   (env.kindOf x = some .local ∧ env.locals ≠ c.L ∧ st env.locals = none ∧ ∃ m₂, h.Ns env.locals m₂ ∧ m₂ x = some v) ∨
   ((env.kindOf x = some .cell ∨ (env.kindOf x = some .free ∧ (x == ("__classdict__" : Str)) = false)) ∧ ∃ a, env.cells.lookup x = some a ∧ a ≠ c.L ∧ st a = none ∧ h.IsCell a (some v)))

theorem Sees.step {c env st st' h h' m lm} (S : Sees c env st h m lm) (T : Step c st h st' h') : Sees c env st' h' m lm := by
  intro x mv e
  obtain ⟨v, hv, z⟩ := S x mv e
  refine ⟨v, hv, ?_⟩
  rcases z with z | ⟨k, hL, hs, m₂, ⟨o, es, ep, ho, hd, r⟩, hm⟩ | ⟨k, a, hl, hL, hs, o, ho, hd⟩
  · exact .inl z
  · obtain ⟨n, o', ho', hd', _⟩ := T.data ho hs hL
    exact .inr (.inl ⟨k, hL, n, m₂, ⟨o', es, ep, ho', hd'.trans hd, r⟩, hm⟩)
  · obtain ⟨n, o', ho', hd', _⟩ := T.data ho hs hL
    exact .inr (.inr ⟨k, a, hl, hL, n, o', ho', hd'.trans hd⟩)

/-- an evaluation: from the store st it ends with x and a store of which Q holds -/
def Ev {α β : Type} (w : World) (b₀ : Heap) (c : Cx) (env : Env) (E : Value → Shared → Prop) (t : Sem α) (R : β → α → Prop) (lm : LM) (st : Store) (Q : β → Store → Prop) : Prop :=
  ∀ (s : Shared) (m : Str → Option Value) (P : α → Shared → Prop), In w b₀ c st s.heap m → Sees c env st s.heap m lm →
    (∀ v x h' tk st', In w b₀ c st' h' m → Step c st s.heap st' h' → R x v → Q x st' → P v { s with heap := h', toks := tk }) → wpAny (model PG w) c.A t P E s

inductive MF where
  | next | brk | cont | ret (v : MV)
def FR : MF → Flow → Prop
  | .next, f => f = .next
  | .brk, f => f = .brk
  | .cont, f => f = .cont
  | .ret mv, f => ∃ v, VR mv v ∧ f = .ret v

/-- statements: the frame's names turn too -/
def Ex (w : World) (b₀ : Heap) (c : Cx) (env : Env) (E : Value → Shared → Prop) (t : Sem Flow) (lm : LM) (st : Store) (Q : MF → LM → Store → Prop) : Prop :=
  ∀ (s : Shared) (m : Str → Option Value) (P : Flow → Shared → Prop), In w b₀ c st s.heap m → Sees c env st s.heap m lm →
    (∀ f x h' tk m' st' lm', In w b₀ c st' h' m' → Step c st s.heap st' h' → Sees c env st' h' m' lm' → FR x f → Q x lm' st' → P f { s with heap := h', toks := tk }) → wpAny (model PG w) c.A t P E s

section
variable {w : World} {b₀ : Heap} {c : Cx} {env : Env} {E : Value → Shared → Prop} {lm : LM} {st : Store}

theorem Ev.mono {α β : Type} {t : Sem α} {R : β → α → Prop} {Q Q' : β → Store → Prop} (h : Ev w b₀ c env E t R lm st Q) (hq : ∀ x st', Q x st' → Q' x st') : Ev w b₀ c env E t R lm st Q' :=
  fun s m P I S k => h s m P I S fun v x h' tk st' I' T hr q => k v x h' tk st' I' T hr (hq x st' q)
theorem Ex.mono {t : Sem Flow} {Q Q' : MF → LM → Store → Prop} (h : Ex w b₀ c env E t lm st Q) (hq : ∀ x l st', Q x l st' → Q' x l st') : Ex w b₀ c env E t lm st Q' :=
  fun s m P I S k => h s m P I S fun f x h' tk m' st' l' I' T S' hr q => k f x h' tk m' st' l' I' T S' hr (hq x l' st' q)

/-- where nothing but a token turns -/
theorem Ev.now {α β : Type} {t : Sem α} {R : β → α → Prop} {Q : β → Store → Prop} {x : β} (hq : Q x st)
    (h : ∀ (s : Shared) (P : α → Shared → Prop), (∀ v tk, R x v → P v { s with toks := tk }) → wpAny (model PG w) c.A t P E s) : Ev w b₀ c env E t R lm st Q :=
  fun s m P I _ k => h s P fun v tk hr => k v x s.heap tk st I (Step.refl _ _ _) hr hq

/-- one after the other -/
theorem ev_int {i k pos} {Q : MV → Store → Prop} (h : Q (.int i) st) : Ev w b₀ c env E (eval (.Constant (.int i) k pos) env) VR lm st Q := .now h fun s _ k => wpAny_Constant_int (k _ _ ⟨_, rfl⟩)
theorem ev_str {x k pos} {Q : MV → Store → Prop} (h : Q (.str x) st) : Ev w b₀ c env E (eval (.Constant (.str x) k pos) env) VR lm st Q := .now h fun s _ k => wpAny_Constant_str (k _ _ ⟨_, rfl⟩)
theorem ev_none {k pos} {Q : MV → Store → Prop} (h : Q .none st) : Ev w b₀ c env E (eval (.Constant .none k pos) env) VR lm st Q := .now h fun s _ k => wpAny_Constant_none (k _ _ rfl)
theorem ev_bool {b k pos} {Q : MV → Store → Prop} (h : Q (.bool b) st) : Ev w b₀ c env E (eval (.Constant (.bool b) k pos) env) VR lm st Q := .now h fun s _ k => wpAny_Constant_bool (k _ _ rfl)

theorem ev_binop {l op r pos} {Q : MV → Store → Prop} (h : Ev w b₀ c env E (eval l env) VR lm st fun a st₁ => Ev w b₀ c env E (eval r env) VR lm st₁ fun b st₂ => ∀ va vb, VR a va → VR b vb → Ev w b₀ c env E (binaryOp op va vb) VR lm st₂ Q) :
    Ev w b₀ c env E (eval (.BinOp l op r pos) env) VR lm st Q :=
  fun s m P I S k => wpAny_BinOp (h s m _ I S fun v x h' tk st' I' T hr q => q _ m _ I' (S.step T) fun v₂ x₂ h₂ tk₂ st₂ I₂ T₂ hr₂ q₂ => q₂ v v₂ hr hr₂ _ m _ I₂ ((S.step T).step T₂)
    fun v₃ x₃ h₃ tk₃ st₃ I₃ T₃ hr₃ q₃ => k v₃ x₃ h₃ tk₃ st₃ I₃ ((T.trans T₂).trans T₃) hr₃ q₃)
end

/-! steps taken by a lemma: their terms stay small -/
theorem iteP {c : Prop} [Decidable c] {a b : Prop} (hc : c) (h : a) : if c then a else b := by rw [if_pos hc]; exact h
theorem iteN {c : Prop} [Decidable c] {a b : Prop} (hc : ¬ c) (h : b) : if c then a else b := by rw [if_neg hc]; exact h
theorem vr_r {a : Addr} {P : Value → Prop} (h : P (.ref a)) : ∀ v, VR (.ref a) v → P v := fun v e => by cases e; exact h
theorem vr_r2 {a : Addr} {x : MV} {P : Value → Value → Prop} (h : ∀ u, VR x u → P (.ref a) u) : ∀ v u, VR (.ref a) v → VR x u → P v u := fun v u e k => by cases e; exact h u k
theorem vr_r3 {a : Addr} {x y : MV} {P : Value → Value → Value → Prop} (h : ∀ u z, VR x u → VR y z → P (.ref a) u z) : ∀ v u z, VR (.ref a) v → VR x u → VR y z → P v u z := fun v u z e k l => by cases e; exact h u z k l
theorem all2_r0 {P : List Value → Prop} (h : P []) : ∀ vs, All2 VR [] vs → P vs := fun vs e => by cases e; exact h
theorem all2_v1 {x : MV} {P : List Value → Prop} (h : ∀ v, VR x v → P [v]) : ∀ vs, All2 VR [x] vs → P vs := fun vs e => by
  cases e with
  | cons r t => cases t; exact h _ r
theorem all2_v2 {x y : MV} {P : List Value → Prop} (h : ∀ v u, VR x v → VR y u → P [v, u]) : ∀ vs, All2 VR [x, y] vs → P vs := fun vs e => by
  cases e with
  | cons r t => cases t with
    | cons r' t => cases t; exact h _ _ r r'
theorem all2_r1 {a : Addr} {P : List Value → Prop} (h : P [.ref a]) : ∀ vs, All2 VR [.ref a] vs → P vs := all2_v1 fun v e => by cases e; exact h
theorem all2_rv {a : Addr} {y : MV} {P : List Value → Prop} (h : ∀ u, VR y u → P [.ref a, u]) : ∀ vs, All2 VR [.ref a, y] vs → P vs := all2_v2 fun v u e k => by cases e; exact h u k
theorem all2_r2 {a b : Addr} {P : List Value → Prop} (h : P [.ref a, .ref b]) : ∀ vs, All2 VR [.ref a, .ref b] vs → P vs := all2_rv fun u k => by cases k; exact h
theorem e0a3 {A0 A1 A2 : Prop} {P : Prop} (f : A0 → A1 → A2 → P) (h : A0 ∧ A1 ∧ A2) : P := by obtain ⟨h0, h1, h2⟩ := h; exact f h0 h1 h2
theorem e1a2 {α0 : Type} {A0 A1 : α0 → Prop} {P : Prop} (f : ∀ x0, A0 x0 → A1 x0 → P) (h : ∃ x0, A0 x0 ∧ A1 x0) : P := by obtain ⟨x0, h0, h1⟩ := h; exact f x0 h0 h1
theorem e2a1 {α0 α1 : Type} {A0 : α0 → α1 → Prop} {P : Prop} (f : ∀ x0 x1, A0 x0 x1 → P) (h : ∃ x0 x1, A0 x0 x1) : P := by obtain ⟨x0, x1, h0⟩ := h; exact f x0 x1 h0
theorem e0a4 {A0 A1 A2 A3 : Prop} {P : Prop} (f : A0 → A1 → A2 → A3 → P) (h : A0 ∧ A1 ∧ A2 ∧ A3) : P := by obtain ⟨h0, h1, h2, h3⟩ := h; exact f h0 h1 h2 h3
theorem e1a3 {α0 : Type} {A0 A1 A2 : α0 → Prop} {P : Prop} (f : ∀ x0, A0 x0 → A1 x0 → A2 x0 → P) (h : ∃ x0, A0 x0 ∧ A1 x0 ∧ A2 x0) : P := by obtain ⟨x0, h0, h1, h2⟩ := h; exact f x0 h0 h1 h2
theorem e2a2 {α0 α1 : Type} {A0 A1 : α0 → α1 → Prop} {P : Prop} (f : ∀ x0 x1, A0 x0 x1 → A1 x0 x1 → P) (h : ∃ x0 x1, A0 x0 x1 ∧ A1 x0 x1) : P := by obtain ⟨x0, x1, h0, h1⟩ := h; exact f x0 x1 h0 h1
theorem e0a5 {A0 A1 A2 A3 A4 : Prop} {P : Prop} (f : A0 → A1 → A2 → A3 → A4 → P) (h : A0 ∧ A1 ∧ A2 ∧ A3 ∧ A4) : P := by obtain ⟨h0, h1, h2, h3, h4⟩ := h; exact f h0 h1 h2 h3 h4
theorem e1a4 {α0 : Type} {A0 A1 A2 A3 : α0 → Prop} {P : Prop} (f : ∀ x0, A0 x0 → A1 x0 → A2 x0 → A3 x0 → P) (h : ∃ x0, A0 x0 ∧ A1 x0 ∧ A2 x0 ∧ A3 x0) : P := by obtain ⟨x0, h0, h1, h2, h3⟩ := h; exact f x0 h0 h1 h2 h3
theorem e2a3 {α0 α1 : Type} {A0 A1 A2 : α0 → α1 → Prop} {P : Prop} (f : ∀ x0 x1, A0 x0 x1 → A1 x0 x1 → A2 x0 x1 → P) (h : ∃ x0 x1, A0 x0 x1 ∧ A1 x0 x1 ∧ A2 x0 x1) : P := by obtain ⟨x0, x1, h0, h1, h2⟩ := h; exact f x0 x1 h0 h1 h2
theorem e3a2 {α0 α1 α2 : Type} {A0 A1 : α0 → α1 → α2 → Prop} {P : Prop} (f : ∀ x0 x1 x2, A0 x0 x1 x2 → A1 x0 x1 x2 → P) (h : ∃ x0 x1 x2, A0 x0 x1 x2 ∧ A1 x0 x1 x2) : P := by obtain ⟨x0, x1, x2, h0, h1⟩ := h; exact f x0 x1 x2 h0 h1
theorem e3a3 {α0 α1 α2 : Type} {A0 A1 A2 : α0 → α1 → α2 → Prop} {P : Prop} (f : ∀ x0 x1 x2, A0 x0 x1 x2 → A1 x0 x1 x2 → A2 x0 x1 x2 → P) (h : ∃ x0 x1 x2, A0 x0 x1 x2 ∧ A1 x0 x1 x2 ∧ A2 x0 x1 x2) : P := by obtain ⟨x0, x1, x2, h0, h1, h2⟩ := h; exact f x0 x1 x2 h0 h1 h2
theorem e1a6 {α0 : Type} {A0 A1 A2 A3 A4 A5 : α0 → Prop} {P : Prop} (f : ∀ x0, A0 x0 → A1 x0 → A2 x0 → A3 x0 → A4 x0 → A5 x0 → P) (h : ∃ x0, A0 x0 ∧ A1 x0 ∧ A2 x0 ∧ A3 x0 ∧ A4 x0 ∧ A5 x0) : P := by obtain ⟨x0, h0, h1, h2, h3, h4, h5⟩ := h; exact f x0 h0 h1 h2 h3 h4 h5
theorem e3a4 {α0 α1 α2 : Type} {A0 A1 A2 A3 : α0 → α1 → α2 → Prop} {P : Prop} (f : ∀ x0 x1 x2, A0 x0 x1 x2 → A1 x0 x1 x2 → A2 x0 x1 x2 → A3 x0 x1 x2 → P) (h : ∃ x0 x1 x2, A0 x0 x1 x2 ∧ A1 x0 x1 x2 ∧ A2 x0 x1 x2 ∧ A3 x0 x1 x2) : P := by obtain ⟨x0, x1, x2, h0, h1, h2, h3⟩ := h; exact f x0 x1 x2 h0 h1 h2 h3
end PartM1
section PartM2
open PySem PySem.W PyProof.Rows PySem.Spec PySem.Calls

def ledger (b₀ : Heap) (L : Addr) (h : Heap) : List (Addr × Obj) :=
  (List.range h.objs.size).filterMap fun a => if a = L ∨ (b₀.get? a).isSome = true then none else (h.get? a).map fun o => (a, o)

theorem mem_ledger {b₀ h : Heap} {L : Addr} {p : Addr × Obj} : p ∈ ledger b₀ L h ↔ h.get? p.1 = some p.2 ∧ p.1 ≠ L ∧ b₀.get? p.1 = none := by
  unfold ledger
  rw [List.mem_filterMap]
  constructor
  · rintro ⟨a, _, e⟩
    split at e
    · cases e
    · rename_i q
      cases ho : h.get? a with
      | none => rw [ho] at e; cases e
      | some o =>
        rw [ho] at e
        cases e
        refine ⟨ho, fun z => q (.inl z), ?_⟩
        cases hb : b₀.get? a with
        | none => rfl
        | some o' => exact absurd (.inr (by rw [hb]; rfl)) q
  · rintro ⟨h1, h2, h3⟩
    refine ⟨p.1, List.mem_range.mpr (Heap.lt_size h1), ?_⟩
    rw [if_neg (by rw [h3]; rintro (z | z); exact h2 z; cases z), h1]; rfl
theorem News.ledger (b₀ : Heap) (L : Addr) (h : Heap) : News b₀ L h (ledger b₀ L h) := fun p hp => mem_ledger.mp hp

theorem filterMap_split {α : Type} (f : Nat → Option (Nat × α)) (hf : ∀ a p, f a = some p → p.1 = a) : ∀ (l : List Nat), l.Nodup → ∀ d o, (d, o) ∈ l.filterMap f →
    ∃ pre post, l.filterMap f = pre ++ (d, o) :: post ∧ (∀ p ∈ pre, p.1 ≠ d) ∧ ∀ p ∈ post, p.1 ≠ d
  | [], _, _, _, h => by cases h
  | a :: l, hn, d, o, h => by
    have hn' := List.nodup_cons.mp hn
    cases q : f a with
    | none =>
      rw [List.filterMap_cons_none q] at h ⊢
      exact filterMap_split f hf l hn'.2 d o h
    | some p =>
      rw [List.filterMap_cons_some q] at h ⊢
      have hp := hf a p q
      rcases List.mem_cons.mp h with e | h'
      · subst e
        refine ⟨[], _, rfl, fun _ x => (nomatch x), fun p' hp' e => ?_⟩
        (first | refine e0a3 (fun a' ha' e' => ?_) (List.mem_filterMap.mp hp') | refine e1a2 (fun a' ha' e' => ?_) (List.mem_filterMap.mp hp') | refine e2a1 (fun a' ha' e' => ?_) (List.mem_filterMap.mp hp') | obtain ⟨a', ha', e'⟩ := List.mem_filterMap.mp hp')
        have := hf a' p' e'
        exact hn'.1 (by rw [← hp]; show d ∈ l; rw [← e, this]; exact ha')
      · (first | refine e0a5 (fun pre post e h1 h2 => ?_) (filterMap_split f hf l hn'.2 d o h') | refine e1a4 (fun pre post e h1 h2 => ?_) (filterMap_split f hf l hn'.2 d o h') | refine e2a3 (fun pre post e h1 h2 => ?_) (filterMap_split f hf l hn'.2 d o h') | refine e3a2 (fun pre post e h1 h2 => ?_) (filterMap_split f hf l hn'.2 d o h') | obtain ⟨pre, post, e, h1, h2⟩ := filterMap_split f hf l hn'.2 d o h')
        refine ⟨p :: pre, post, by rw [e]; rfl, fun p' hp' => ?_, h2⟩
        rcases List.mem_cons.mp hp' with rfl | x
        · intro e
          (first | refine e0a3 (fun a' ha' e' => ?_) (List.mem_filterMap.mp h') | refine e1a2 (fun a' ha' e' => ?_) (List.mem_filterMap.mp h') | refine e2a1 (fun a' ha' e' => ?_) (List.mem_filterMap.mp h') | obtain ⟨a', ha', e'⟩ := List.mem_filterMap.mp h')
          have := hf a' _ e'
          have this : d = a' := this
          exact hn'.1 (by rw [← hp, e, this]; exact ha')
        · exact h1 _ x

theorem ledger_split {b₀ h : Heap} {L d : Addr} {o : Obj} (h1 : h.get? d = some o) (h2 : d ≠ L) (h3 : b₀.get? d = none) :
    ∃ pre post, ledger b₀ L h = pre ++ (d, o) :: post ∧ (∀ p ∈ pre, p.1 ≠ d) ∧ ∀ p ∈ post, p.1 ≠ d := by
  refine filterMap_split _ (fun a p e => ?_) _ List.nodup_range d o (mem_ledger.mpr ⟨h1, h2, h3⟩)
  split at e
  · cases e
  · obtain ⟨_, _, rfl⟩ := Option.map_eq_some_iff.mp e; rfl

theorem keep_upd {b₀ h h' : Heap} {L d : Addr} {o' : Obj} {m m' : Str → Option Value} {pre post : List (Addr × Obj)} {o : Obj} (F : Fr b₀ L h m) (F' : Fr b₀ L h' m') (e : ledger b₀ L h = pre ++ (d, o) :: post)
    (N' : News b₀ L h' (pre ++ (d, o') :: post)) : ∀ b ob, b ≠ L → b ≠ d → h.get? b = some ob → h'.get? b = some ob := by
  intro b ob h1 h2 h3
  cases hb : b₀.get? b with
  | some o'' =>
    have := F.keep b o'' hb
    rw [h3] at this
    cases this
    exact F'.keep b _ hb
  | none =>
    have : (b, ob) ∈ ledger b₀ L h := mem_ledger.mpr ⟨h3, h1, hb⟩
    rw [e] at this
    refine (N' (b, ob) ?_).1
    rcases List.mem_append.mp this with z | z
    · exact List.mem_append_left _ z
    · rcases List.mem_cons.mp z with z | z
      · cases z; exact absurd rfl h2
      · exact List.mem_append_right _ (.tail _ z)
theorem keep_all {b₀ h h' : Heap} {L : Addr} {m m' : Str → Option Value} {more : List (Addr × Obj)} (F : Fr b₀ L h m) (F' : Fr b₀ L h' m') (hm : ∀ p ∈ ledger b₀ L h, p ∈ more)
    (N' : News b₀ L h' more) : ∀ b ob, b ≠ L → h.get? b = some ob → h'.get? b = some ob := by
  intro b ob h1 h3
  cases hb : b₀.get? b with
  | some o'' =>
    have := F.keep b o'' hb
    rw [h3] at this
    cases this
    exact F'.keep b _ hb
  | none => exact (N' (b, ob) (hm _ (mem_ledger.mpr ⟨h3, h1, hb⟩))).1

section
variable {w : World} {b₀ : Heap} {c : Cx} {st : Store} {h h' : Heap} {m m' : Str → Option Value}
/-- nothing of the store turned -/
theorem In.same (I : In w b₀ c st h m) (F : Fr b₀ c.L h' m') (k : ∀ b o, b ≠ c.L → h.get? b = some o → h'.get? b = some o) : In w b₀ c st h' m' ∧ Step c st h st h' := by
  have S : Step c st h st h' := fun b o e n q => ⟨n, .inl (k b o q e)⟩
  exact ⟨I.step F (fun a mo e => let ⟨o, h1, h2, h3, h4⟩ := I.rep a mo e; ⟨o, k a o h3 h1, h2, h3, h4⟩) S, S⟩
/-- one object of the store turned -/
theorem In.upd (I : In w b₀ c st h m) (F : Fr b₀ c.L h' m') {d : Addr} {o' : Obj} {mo mo' : MO} (hd : st d = some mo) (k : ∀ b o, b ≠ c.L → b ≠ d → h.get? b = some o → h'.get? b = some o)
    (ho : h'.get? d = some o') (hr : OR w mo' o') : In w b₀ c (st.set d mo') h' m' ∧ Step c st h (st.set d mo') h' := by
  have S : Step c st h (st.set d mo') h' := fun b o e n q => by
    have : b ≠ d := fun z => by rw [z, hd] at n; cases n
    exact ⟨by rw [Store.set_ne _ _ this]; exact n, .inl (k b o q this e)⟩
  refine ⟨I.step F (fun a mo₁ e => ?_) S, S⟩
  (first | refine e0a5 (fun _ _ _ hL hb => ?_) (I.rep d mo hd) | refine e1a4 (fun _ _ _ hL hb => ?_) (I.rep d mo hd) | refine e2a3 (fun _ _ _ hL hb => ?_) (I.rep d mo hd) | refine e3a2 (fun _ _ _ hL hb => ?_) (I.rep d mo hd) | obtain ⟨_, _, _, hL, hb⟩ := I.rep d mo hd)
  by_cases q : a = d
  · subst q; rw [Store.set_self] at e; cases e; exact ⟨o', ho, hr, hL, hb⟩
  · rw [Store.set_ne _ _ q] at e
    (first | refine e0a5 (fun o h1 h2 h3 h4 => ?_) (I.rep a mo₁ e) | refine e1a4 (fun o h1 h2 h3 h4 => ?_) (I.rep a mo₁ e) | refine e2a3 (fun o h1 h2 h3 h4 => ?_) (I.rep a mo₁ e) | refine e3a2 (fun o h1 h2 h3 h4 => ?_) (I.rep a mo₁ e) | obtain ⟨o, h1, h2, h3, h4⟩ := I.rep a mo₁ e)
    exact ⟨o, k a o h3 q h1, h2, h3, h4⟩
/-- a new object -/
theorem In.new (I : In w b₀ c st h m) (F : Fr b₀ c.L h' m') {x : Addr} {o : Obj} {mo : MO} (k : ∀ b o, b ≠ c.L → h.get? b = some o → h'.get? b = some o) (hx : h.get? x = none) (hxs : (x == sysModules) = false) (ho : h'.get? x = some o) (hr : OR w mo o) :
    st x = none ∧ In w b₀ c (st.set x mo) h' m' ∧ Step c st h (st.set x mo) h' := by
  have hn : st x = none := by
    cases q : st x with
    | none => rfl
    | some mo' => obtain ⟨_, e, _⟩ := I.rep x mo' q; rw [hx] at e; cases e
  have S : Step c st h (st.set x mo) h' := fun b o e n q => by
    have : b ≠ x := fun z => by rw [z, hx] at e; cases e
    exact ⟨by rw [Store.set_ne _ _ this]; exact n, .inl (k b o q e)⟩
  refine ⟨hn, I.step F (fun a mo₁ e => ?_) S, S⟩
  by_cases q : a = x
  · subst q; rw [Store.set_self] at e; cases e
    refine ⟨o, ho, hr, fun z => ?_, ?_⟩
    · obtain ⟨oL, _, _, hL, _⟩ := I.fr.ns; rw [z, hL] at hx; cases hx
    · refine ⟨?_, hxs⟩
      cases q : b₀.get? a with
      | none => rfl
      | some o' => rw [I.fr.keep a o' q] at hx; cases hx
  · rw [Store.set_ne _ _ q] at e
    (first | refine e0a5 (fun o h1 h2 h3 h4 => ?_) (I.rep a mo₁ e) | refine e1a4 (fun o h1 h2 h3 h4 => ?_) (I.rep a mo₁ e) | refine e2a3 (fun o h1 h2 h3 h4 => ?_) (I.rep a mo₁ e) | refine e3a2 (fun o h1 h2 h3 h4 => ?_) (I.rep a mo₁ e) | obtain ⟨o, h1, h2, h3, h4⟩ := I.rep a mo₁ e)
    exact ⟨o, k a o h3 h1, h2, h3, h4⟩
theorem In.sizeNot (I : In w b₀ c st h m) : (h.objs.size == sysModules) = false := I.fr.notModules I.big
theorem In.tok (I : In w b₀ c st h m) : In w b₀ c st h m ∧ Step c st h st h := ⟨I, Step.refl _ _ _⟩
end

/-! fields of an object -/
def fget (name : Str) : List (Str × MV) → Option MV
  | [] => none
  | f :: r => if f.1 == name then some f.2 else fget name r
def fput (name : Str) (mv : MV) : List (Str × MV) → List (Str × MV)
  | [] => [(name, mv)]
  | f :: r => if f.1 == name then (f.1, mv) :: r else f :: fput name mv r
theorem fput_len (name : Str) (mv : MV) : ∀ fs : List (Str × MV), (fput name mv fs).length ≤ fs.length + 1
  | [] => by simp [fput]
  | f :: r => by unfold fput; split <;> simp; have := fput_len name mv r; omega

abbrev FE (f : Str × MV) (e : DictEntry) : Prop := (∃ t, e.key = .str f.1 t) ∧ VR f.2 e.val
theorem FE.isStr {f : Str × MV} {e : DictEntry} (h : FE f e) (n : Str) : e.key.isStr n = (f.1 == n) := by
  obtain ⟨⟨t, k⟩, _⟩ := h; rw [k]; rfl
theorem fe_noRef {fs : List (Str × MV)} {es : List DictEntry} (h : All2 FE fs es) : es.any (·.refKey) = false := by
  induction h with
  | nil => rfl
  | cons r _ ih =>
    obtain ⟨⟨t, k⟩, _⟩ := r
    rw [List.any_cons, ih]
    simp [DictEntry.refKey, k]
theorem fget_some {name : Str} {fs : List (Str × MV)} {es : List DictEntry} (h : All2 FE fs es) {mv : MV} (e : fget name fs = some mv) : ∃ v, getL name es = some (some v) ∧ VR mv v := by
  have : ∃ en, es.find? (·.key.isStr name) = some en ∧ VR mv en.val := by
    induction h with
    | nil => cases e
    | cons r _ ih =>
      unfold fget at e
      rw [List.find?_cons, r.isStr]
      split at e
      · rename_i q; cases e; rw [q]; exact ⟨_, rfl, r.2⟩
      · rename_i q; rw [Bool.eq_false_iff.mpr q]; exact ih e
  (first | refine e0a3 (fun en h1 h2 => ?_) (this) | refine e1a2 (fun en h1 h2 => ?_) (this) | refine e2a1 (fun en h1 h2 => ?_) (this) | obtain ⟨en, h1, h2⟩ := this); try clear this
  exact ⟨en.val, by unfold getL; rw [h1], h2⟩
theorem fget_none {name : Str} {fs : List (Str × MV)} {es : List DictEntry} (h : All2 FE fs es) (e : fget name fs = none) : getL name es = some none := by
  have : es.find? (·.key.isStr name) = none := by
    induction h with
    | nil => rfl
    | cons r _ ih =>
      unfold fget at e
      rw [List.find?_cons, r.isStr]
      split at e
      · cases e
      · rename_i q; rw [Bool.eq_false_iff.mpr q]; exact ih e
  unfold getL; rw [this, fe_noRef h]; rfl
theorem fput_put {name : Str} {mv : MV} {v : Value} (hv : VR mv v) (hsh : Int) (t : Tok) {fs : List (Str × MV)} {es : List DictEntry} (h : All2 FE fs es) : All2 FE (fput name mv fs) (putL name hsh (.str name t) v es) := by
  induction h with
  | nil => exact .cons ⟨⟨t, rfl⟩, hv⟩ .nil
  | cons r h ih =>
    unfold fput putL
    rw [r.isStr]
    split
    · exact .cons ⟨r.1, hv⟩ h
    · exact .cons r ih

theorem VR.handed {mv : MV} {v : Value} (h : VR mv v) : handedIn v = true := by
  cases mv <;> first | (cases h; rfl) | (obtain ⟨t, rfl⟩ := h; rfl)

/-- the class's own word of a name: a plain field -/
structure AttrOk (w : World) (C : Addr) (name : Str) : Prop where
  g : plainGet (heapK w.params) C name = true
  h : hasDictIn (heapK w.params) C = true
  a : ∃ attr, findIn (heapK w.params) (.ref C) name = some attr ∧ noGet (heapK w.params) attr = true
  s : findIn (heapK w.params) (.ref C) "__setattr__" = some (some (.builtin "object.__setattr__"))
  p : plainOver (heapK w.params) C = true
  t : takerIn (heapK w.params) C name = some none

structure MethOk (w : World) (C : Addr) (name : Str) (f : Addr) : Prop where
  g : plainGet (heapK w.params) C name = true
  m : findIn (heapK w.params) (.ref C) name = some (some (.ref f))
  i : isFn (heapK w.params) (.ref f) = true
  k : keepIn (heapK w.params) (.ref f) = true

section
variable {w : World} {b₀ : Heap} {mean : ExcName → Option Value} {mg mb : Str → Option Value} {c : Cx} {env : Env} {E : Value → Shared → Prop} {lm : LM} {st : Store}

theorem ev_name {x : Str} {pos : Pos} {mv : MV} {Q : MV → Store → Prop} (hk : env.scope.kind = .function) (e : lm x = some mv) (h : Q mv st) (hd : (x == ("__debug__" : Str)) = false := by decide) :
    Ev w b₀ c env E (eval (.Name x pos) env) VR lm st Q := fun s m P I S k => by
  (first | refine e0a3 (fun v hv z => ?_) (S x mv e) | refine e1a2 (fun v hv z => ?_) (S x mv e) | refine e2a1 (fun v hv z => ?_) (S x mv e) | obtain ⟨v, hv, z⟩ := S x mv e)
  have fin : P v s := k v mv s.heap s.toks st I (Step.refl _ _ _) hv h
  rcases z with ⟨hl, hL, hm⟩ | ⟨hl, _, _, m₂, hn, hm⟩ | ⟨hl | ⟨hl, hcd⟩, a, ha, _, _, hc⟩
  · exact wpAny_Name (wpAny_loadName_local hk hl (hL ▸ I.fr.ns) hm fin) hd
  · exact wpAny_Name (wpAny_loadName_local hk hl hn hm fin) hd
  · exact wpAny_Name (wpAny_loadName_cell hk hl ha hc fin) hd
  · exact wpAny_Name (wpAny_loadName_free hk hl ha hc fin hcd) hd

theorem ev_global {x : Str} {pos : Pos} {v : Value} {mv : MV} {Q : MV → Store → Prop} (G : Gd w b₀ mean mg mb) (hg : env.globals = mainGlobals) (hk : env.scope.kind = .function) (e : nsIn (heapK w.params) mainGlobals x = some (some v))
    (hv : VR mv v) (h : Q mv st) (hx : env.kindOf x = some .globalImplicit := by rfl) (hd : (x == ("__debug__" : Str)) = false := by decide) :
    Ev w b₀ c env E (eval (.Name x pos) env) VR lm st Q := fun s m P I S k =>
  nameG_K I.fr G.X (topRead_of G.T) e (k v mv s.heap s.toks st I (Step.refl _ _ _) hv h) hg hk hx hd

theorem ev_getattr {a C d : Addr} {name : Str} {expr : Bool} {fs : List (Str × MV)} {mv : MV} {Q : MV → Store → Prop} (G : Gd w b₀ mean mg mb) (ha : st a = some (.inst C d)) (hf : st d = some (.fields fs)) (ok : AttrOk w C name) (e : fget name fs = some mv) (h : Q mv st) :
    Ev w b₀ c env E (getAttr (.ref a) name expr) VR lm st Q := fun s m P I S k => by
  (first | refine e0a4 (fun oa h1 h2 _ => ?_) (I.rep a _ ha) | refine e1a3 (fun oa h1 h2 _ => ?_) (I.rep a _ ha) | refine e2a2 (fun oa h1 h2 _ => ?_) (I.rep a _ ha) | obtain ⟨oa, h1, h2, _⟩ := I.rep a _ ha)
  (first | refine e0a4 (fun od h3 h4 _ => ?_) (I.rep d _ hf) | refine e1a3 (fun od h3 h4 _ => ?_) (I.rep d _ hf) | refine e2a2 (fun od h3 h4 _ => ?_) (I.rep d _ hf) | obtain ⟨od, h3, h4, _⟩ := I.rep d _ hf)
  cases h2
  obtain ⟨es, n, rfl, h5, _⟩ := h4
  (first | refine e0a3 (fun v h6 h7 => ?_) (fget_some h5 e) | refine e1a2 (fun v h6 h7 => ?_) (fget_some h5 e) | refine e2a1 (fun v h6 h7 => ?_) (fget_some h5 e) | obtain ⟨v, h6, h7⟩ := fget_some h5 e)
  (first | refine e0a3 (fun attr h8 h9 => ?_) (ok.a) | refine e1a2 (fun attr h8 h9 => ?_) (ok.a) | refine e2a1 (fun attr h8 h9 => ?_) (ok.a) | obtain ⟨attr, h8, h9⟩ := ok.a)
  exact get_own I.fr G.X ⟨h1, rfl, rfl, h3⟩ ok.g ok.h h8 h9 h6 h7.handed (k v mv s.heap _ st I (Step.refl _ _ _) h7 h)

theorem ev_attr {o : Expr} {name : Str} {pos : Pos} {Q : MV → Store → Prop} (h : Ev w b₀ c env E (eval o env) VR lm st fun a st₁ => ∀ va, VR a va → Ev w b₀ c env E (getAttr va name true) VR lm st₁ Q)
    (he : eval (.Attribute o name pos) env = (do
      let o' ← eval o env
      standAt pos.atName
      let r ← holding [o'] (getAttr o' name true)
      letTemporaryGo o o' r
      pure r) := by with_unfolding_all rfl) : Ev w b₀ c env E (eval (.Attribute o name pos) env) VR lm st Q :=
  fun s m P I S k => Attribute_any_ (h s m _ I S fun v x h' tk st' I' T hr q => q v hr _ m _ I' (S.step T) fun v₂ x₂ h₂ tk₂ st₂ I₂ T₂ hr₂ q₂ => k v₂ x₂ h₂ tk₂ st₂ I₂ (T.trans T₂) hr₂ q₂) he

theorem ev_setattr {a C d : Addr} {name : Str} {v : Value} {fs : List (Str × MV)} {mv : MV} {Q : Unit → Store → Prop} (G : Gd w b₀ mean mg mb) (ha : st a = some (.inst C d)) (hf : st d = some (.fields fs)) (ok : AttrOk w C name) (hv : VR mv v)
    (hl : (fput name mv fs).length ≤ 100) (h : Q () (st.set d (.fields (fput name mv fs)))) :
    Ev w b₀ c env E (setAttr (.ref a) name v) (fun _ _ => True) lm st Q := fun s m P I S k => by
  (first | refine e0a4 (fun oa h1 h2 _ => ?_) (I.rep a _ ha) | refine e1a3 (fun oa h1 h2 _ => ?_) (I.rep a _ ha) | refine e2a2 (fun oa h1 h2 _ => ?_) (I.rep a _ ha) | obtain ⟨oa, h1, h2, _⟩ := I.rep a _ ha)
  (first | refine e0a5 (fun od h3 h4 h3L h3b => ?_) (I.rep d _ hf) | refine e1a4 (fun od h3 h4 h3L h3b => ?_) (I.rep d _ hf) | refine e2a3 (fun od h3 h4 h3L h3b => ?_) (I.rep d _ hf) | refine e3a2 (fun od h3 h4 h3L h3b => ?_) (I.rep d _ hf) | obtain ⟨od, h3, h4, h3L, h3b⟩ := I.rep d _ hf)
  cases h2
  obtain ⟨es, n, rfl, h5, _⟩ := h4
  (first | refine e0a5 (fun pre post e0 e1 e2 => ?_) (ledger_split h3 h3L h3b.1) | refine e1a4 (fun pre post e0 e1 e2 => ?_) (ledger_split h3 h3L h3b.1) | refine e2a3 (fun pre post e0 e1 e2 => ?_) (ledger_split h3 h3L h3b.1) | refine e3a2 (fun pre post e0 e1 e2 => ?_) (ledger_split h3 h3L h3b.1) | obtain ⟨pre, post, e0, e1, e2⟩ := ledger_split h3 h3L h3b.1)
  have X := G.X.keeps I.fr.keep
  have N := News.ledger b₀ c.L s.heap
  rw [e0] at N
  have hp := fput_put (name := name) hv (PyData.keyHash w.params name) (s.toks + 1) h5
  have IA : InstAt s.heap a (instObj C d) C (some (dictOf es n)) := ⟨h1, rfl, rfl, h3⟩
  refine set_plain X IA ok.s (osa_dict (s := { s with toks := s.toks + 1 }) I.fr N X IA rfl ok.p ok.t ok.h ?_ e1 e2 (putName_dict _ _ _ _ _ _) rfl ?_ fun h' F' N' => ?_)
  · rw [lookIn_dict]
    cases q : fget name fs with
    | none => rw [fget_none h5 q]; rfl
    | some mv' => obtain ⟨v', z, _⟩ := fget_some h5 q; rw [z]; rfl
  · rw [← hp.length]; exact Nat.le_trans hl (by decide)
  · have hd' := (N' (d, _) (List.mem_append_right _ (.head _))).1
    obtain ⟨I', T'⟩ := I.upd (mo' := .fields (fput name mv fs)) F' hf (fun b o q1 q2 e => keep_upd I.fr F' e0 N' b o q1 q2 e) hd' ⟨_, _, rfl, hp, hl⟩
    exact k () () h' _ _ I' T' trivial h
theorem ev_setattrU {a C d : Addr} {name : Str} {fs : List (Str × MV)} {mv : MV} {Q : Unit → Store → Prop} (G : Gd w b₀ mean mg mb) (ha : st a = some (.inst C d)) (hf : st d = some (.fields fs)) (ok : AttrOk w C name) (hl : (fput name mv fs).length ≤ 100) (h : Q () (st.set d (.fields (fput name mv fs)))) : ∀ o v, VR (.ref a) o → VR mv v → Ev w b₀ c env E (setAttr o name v) (fun _ _ => True) lm st Q := vr_r2 fun v hv => ev_setattr G ha hf ok hv hl h
end
end PartM2
section PartM3
open PySem PySem.W PyProof.Rows PySem.Spec PySem.Calls

def LM.set (lm : LM) (x : Str) (mv : MV) : LM := fun y => if y = x then some mv else lm y
def LM.of : List (Str × MV) → LM
  | [] => fun _ => none
  | (x, v) :: r => fun y => if y = x then some v else LM.of r y

section
variable {w : World} {b₀ : Heap} {mean : ExcName → Option Value} {mg mb : Str → Option Value} {c : Cx} {env : Env} {E : Value → Shared → Prop} {lm : LM} {st : Store}

theorem ev_args_nil {pos : Pos} {Q : List MV → Store → Prop} (h : Q [] st) : Ev w b₀ c env E (spliced (backTo pos (starEach [] env))) (All2 VR) lm st Q := .now h fun s _ k => args_nil (k _ _ .nil)
theorem ev_args_cons {e : Expr} {rest : List Expr} {pos : Pos} {Q : List MV → Store → Prop}
    (h : Ev w b₀ c env E (eval e env) VR lm st fun a st₁ => Ev w b₀ c env E (spliced (backTo pos (starEach rest env))) (All2 VR) lm st₁ fun as st₂ => Q (a :: as) st₂)
    (he : starEach (e :: rest) env = (false, eval e env) :: starEach rest env := by rfl) : Ev w b₀ c env E (spliced (backTo pos (starEach (e :: rest) env))) (All2 VR) lm st Q :=
  fun s m P I S k => args_cons (h s m _ I S fun v x h' tk st' I' T hr q => q _ m _ I' (S.step T) fun v₂ x₂ h₂ tk₂ st₂ I₂ T₂ hr₂ q₂ => k _ (x :: x₂) h₂ tk₂ st₂ I₂ (T.trans T₂) (.cons hr hr₂) q₂) he

/-- what callWith asks of its arguments, for a function of the text's -/
theorem ev_callWith {f : Addr} {first : List Value} {args : List Expr} {pos : Pos} {Q : MV → Store → Prop} (G : Gd w b₀ mean mg mb) (hk : keepIn (heapK w.params) (.ref f) = true)
    (h : Ev w b₀ c env E (spliced (backTo pos (starEach args env))) (All2 VR) lm st fun as st₁ => ∀ vs, All2 VR as vs → Ev w b₀ c env E (call (.ref f) (first ++ vs)) VR lm st₁ Q)
    (he : ∀ e rest, args = e :: rest → starEach (e :: rest) env = (false, eval e env) :: starEach rest env ∧ (backTo pos (starEach rest env)).any (·.1) = false) :
    Ev w b₀ c env E (callWith pos (.ref f) first (backTo pos (starEach args env)) []) VR lm st Q := fun s m P I S k => by
  cases args with
  | nil =>
    refine callWith_of (P := (heapK w.params).In) rfl (keeps_K hk) ?_
    unfold evalArgs
    show wpAny _ _ (spliced (backTo pos (starEach [] env)) >>= _) _ _ _
    refine wpAny_bind (h s m _ I S fun v x h' tk st' I' T hr q => wpAny_holding (wpAny_bind (wpAny_pure (wpAny_bind (wpAny_pure (wpAny_pure ⟨G.X.keeps I'.fr.keep, ?_⟩))))))
    exact q v hr _ m _ I' (S.step T) fun v₂ x₂ h₂ tk₂ st₂ I₂ T₂ hr₂ q₂ => k v₂ x₂ h₂ tk₂ st₂ I₂ (T.trans T₂) hr₂ q₂
  | cons e rest =>
    obtain ⟨h1, h2⟩ := he e rest rfl
    exact callWith_K G.X hk (h s m _ I S fun v x h' tk st' I' T hr q => ⟨G.X.keeps I'.fr.keep, q v hr _ m _ I' (S.step T) fun v₂ x₂ h₂ tk₂ st₂ I₂ T₂ hr₂ q₂ => k v₂ x₂ h₂ tk₂ st₂ I₂ (T.trans T₂) hr₂ q₂⟩) h1 h2

theorem ev_call {x : Str} {np pos : Pos} {args : List Expr} {f : Addr} {Q : MV → Store → Prop} (G : Gd w b₀ mean mg mb) (hg : env.globals = mainGlobals) (hk : env.scope.kind = .function)
    (e : nsIn (heapK w.params) mainGlobals x = some (some (.ref f))) (hkp : keepIn (heapK w.params) (.ref f) = true)
    (h : Ev w b₀ c env E (spliced (backTo pos (starEach args env))) (All2 VR) lm st fun as st₁ => ∀ vs, All2 VR as vs → Ev w b₀ c env E (call (.ref f) vs) VR lm st₁ Q)
    (he : ∀ e rest, args = e :: rest → starEach (e :: rest) env = (false, eval e env) :: starEach rest env ∧ (backTo pos (starEach rest env)).any (·.1) = false := by (intro _ _ e; cases e <;> exact ⟨rfl, rfl⟩))
    (he' : eval (.Call (.Name x np) args [] pos) env = (do callWith pos (← eval (.Name x np) env) [] (backTo pos (starEach args env)) (backToKw pos (keywordEach [] env))) := by rfl)
    (hx : env.kindOf x = some .globalImplicit := by rfl) (hd : (x == ("__debug__" : Str)) = false := by decide) :
    Ev w b₀ c env E (eval (.Call (.Name x np) args [] pos) env) VR lm st Q := fun s m P I S k =>
  Call_ (nameG_K I.fr G.X (topRead_of G.T) e (ev_callWith (first := []) G hkp h he s m P I S k) hg hk hx hd) he'

theorem ev_meth {o : Expr} {name : Str} {apos pos : Pos} {args : List Expr} {pl : Sem Bool} {Q : MV → Store → Prop} (G : Gd w b₀ mean mg mb)
    (h : Ev w b₀ c env E (eval o env) VR lm st fun a st₁ => ∃ x C d fs f, a = .ref x ∧ st₁ x = some (.inst C d) ∧ st₁ d = some (.fields fs) ∧ fget name fs = none ∧ MethOk w C name f ∧
      Ev w b₀ c env E (spliced (backTo pos (starEach args env))) (All2 VR) lm st₁ fun as st₂ => ∀ vs, All2 VR as vs → Ev w b₀ c env E (call (.ref f) (.ref x :: vs)) VR lm st₂ Q)
    (he : ∀ e rest, args = e :: rest → starEach (e :: rest) env = (false, eval e env) :: starEach rest env ∧ (backTo pos (starEach rest env)).any (·.1) = false := by (intro _ _ e; cases e <;> exact ⟨rfl, rfl⟩))
    (he' : eval (.Call (.Attribute o name apos) args [] pos) env = (do
      let ov ← eval o env
      standAt apos.atName
      let (f, first) ← holding [ov] (getMethod ov name pl)
      callWith pos f first (backTo pos (starEach args env)) []) := by rfl) :
    Ev w b₀ c env E (eval (.Call (.Attribute o name apos) args [] pos) env) VR lm st Q := fun s m P I S k =>
  MethodCall_ (h s m _ I S fun v a h' tk st' I' T hr q => by
    obtain ⟨x, C, d, fs, f, rfl, hx, hd', hn, ok, q⟩ := q
    cases hr
    (first | refine e0a4 (fun ox h1 h2 _ => ?_) (I'.rep x _ hx) | refine e1a3 (fun ox h1 h2 _ => ?_) (I'.rep x _ hx) | refine e2a2 (fun ox h1 h2 _ => ?_) (I'.rep x _ hx) | obtain ⟨ox, h1, h2, _⟩ := I'.rep x _ hx)
    (first | refine e0a4 (fun od h3 h4 _ => ?_) (I'.rep d _ hd') | refine e1a3 (fun od h3 h4 _ => ?_) (I'.rep d _ hd') | refine e2a2 (fun od h3 h4 _ => ?_) (I'.rep d _ hd') | obtain ⟨od, h3, h4, _⟩ := I'.rep d _ hd')
    cases h2
    obtain ⟨es, n, rfl, h5, _⟩ := h4
    exact method_inst (s := { s with heap := h', toks := tk }) I'.fr G.X ⟨h1, rfl, rfl, h3⟩ ok.g ok.m ok.i (fget_none h5 hn)
      (ev_callWith (first := [.ref x]) G ok.k q he _ m P I' (S.step T) fun v₂ x₂ h₂ tk₂ st₂ I₂ T₂ hr₂ q₂ => k v₂ x₂ h₂ tk₂ st₂ I₂ (T.trans T₂) hr₂ q₂)) he'

/-- what a raise out of a def's frame says to its caller -/
def Out (w : World) (c : Cx) (E : Value → Shared → Prop) : Value → Shared → Prop := fun e s' => wpAny (model PG w) c.A (leaving c.env e) (fun _ s'' => E e s'') (fun e' s'' => E e' s'') s'

def Cx.under (c : Cx) (env : Env) (L : Addr) : Cx := ⟨c.hd, c.dp + 1, c.un + 3, c.gd, env, c.env :: c.outer, L⟩

theorem Cx.OK.under {c : Cx} {n : Nat} (h : c.OK (n + 1)) {qual : Str} {scope : Scope} {L f : Addr} {cdv : Value} {cl : List (Str × Addr)} (hk : scope.kind = .function) : (c.under (envX qual scope L f cdv cl) L).OK n :=
  ⟨rfl, rfl, hk, rfl, rfl, by have := h.d; show c.dp + 1 + 4 * n + 10 < recursionLimit; omega, by have := h.u; show c.un + 3 + 40 * n + 200 < cLine; omega⟩

/-- behind the call the caller's frame stands as it was -/
theorem In.back {n : Nat} {c c' : Cx} {st' : Store} {h h₁ h' : Heap} {m m' : Str → Option Value} (hc : c.OK n) (I : In w b₀ c st h m) (I' : In w b₀ c' st' h' m') (hL : c'.L = h.objs.size)
    (ho : c'.outer = c.env :: c.outer) (hk : ∀ b o, h.get? b = some o → h₁.get? b = some o) (T : Step c' st h₁ st' h') : In w b₀ c st' h' m ∧ Step c st h st' h' := by
  have ne : ∀ b o, h.get? b = some o → b ≠ c'.L := fun b o e q => by rw [q, hL] at e; exact Nat.lt_irrefl _ (Heap.lt_size e)
  have S : Step c st h st' h' := fun b o e n q => by
    obtain ⟨n', z⟩ := T b o (hk b o e) n (ne b o e)
    refine ⟨n', z.imp id fun ⟨⟨en, hm, hf⟩, r⟩ => ⟨?_, r⟩⟩
    rw [ho] at hm
    rcases List.mem_cons.mp hm with rfl | hm
    · rw [hc.fr] at hf; cases hf; exact absurd rfl q
    · exact ⟨en, hm, hf⟩
  have nL : st c.L = none := by
    cases q : st c.L with
    | none => rfl
    | some mo => obtain ⟨_, _, _, z, _⟩ := I.rep _ _ q; exact absurd rfl z
  (first | refine e3a3 (fun oL es ep hoL hd hr => ?_) (I.fr.ns) | obtain ⟨oL, es, ep, hoL, hd, hr⟩ := I.fr.ns)
  (first | refine e0a5 (fun hn o' ho' hd' _ => ?_) (T.data (hk _ _ hoL) nL (ne _ _ hoL)) | refine e1a4 (fun hn o' ho' hd' _ => ?_) (T.data (hk _ _ hoL) nL (ne _ _ hoL)) | refine e2a3 (fun hn o' ho' hd' _ => ?_) (T.data (hk _ _ hoL) nL (ne _ _ hoL)) | refine e3a2 (fun hn o' ho' hd' _ => ?_) (T.data (hk _ _ hoL) nL (ne _ _ hoL)) | obtain ⟨hn, o', ho', hd', _⟩ := T.data (hk _ _ hoL) nL (ne _ _ hoL))
  refine ⟨I.step ⟨⟨o', es, ep, ho', hd'.trans hd, hr⟩, I'.fr.keep, I.fr.above⟩ (fun a mo e => ?_) S, S⟩
  (first | refine e0a5 (fun o h1 h2 h3 h4 => ?_) (I'.rep a mo e) | refine e1a4 (fun o h1 h2 h3 h4 => ?_) (I'.rep a mo e) | refine e2a3 (fun o h1 h2 h3 h4 => ?_) (I'.rep a mo e) | refine e3a2 (fun o h1 h2 h3 h4 => ?_) (I'.rep a mo e) | obtain ⟨o, h1, h2, h3, h4⟩ := I'.rep a mo e)
  exact ⟨o, h1, h2, (fun q => by rw [q, hn] at e; cases e), h4⟩

theorem enterIn {n : Nat} {c : Cx} {h h₁ : Heap} {m m₁ : Str → Option Value} {env' : Env} (hc : c.OK n) (I : In w b₀ c st h m) (hns : h₁.Ns h.objs.size m₁) (hk : ∀ b o, h.get? b = some o → h₁.get? b = some o) :
    In w b₀ (c.under env' h.objs.size) st h₁ m₁ := by
  have lt : c.L < h.objs.size := I.fr.ns.lt
  refine ⟨⟨hns, fun b o e => hk b o (I.fr.keep b o e), Nat.le_of_lt (Nat.lt_of_le_of_lt I.fr.above lt)⟩, fun a mo e => ?_, ?_, ?_, I.big⟩
  · (first | refine e0a5 (fun o h1 h2 h3 h4 => ?_) (I.rep a mo e) | refine e1a4 (fun o h1 h2 h3 h4 => ?_) (I.rep a mo e) | refine e2a3 (fun o h1 h2 h3 h4 => ?_) (I.rep a mo e) | refine e3a2 (fun o h1 h2 h3 h4 => ?_) (I.rep a mo e) | obtain ⟨o, h1, h2, h3, h4⟩ := I.rep a mo e)
    exact ⟨o, hk a o h1, h2, Nat.ne_of_lt (Heap.lt_size h1), h4⟩
  · exact (I.frames hc).of_keeps fun b o e _ => ⟨o, hk b o e, rfl⟩
  · intro e he L' hf
    have key : ∀ l : List Env, h.FunFrames b₀ l → ∀ e ∈ l, e.frame = some L' → ∃ o, h.get? L' = some o := by
      intro l
      induction l with
      | nil => intro _ e he; cases he
      | cons e l ih =>
        intro hfr e' he' hf'
        obtain ⟨_, ⟨L'', o, hfr', _, ho, _⟩, hr⟩ := hfr
        rcases List.mem_cons.mp he' with rfl | z
        · rw [hfr'] at hf'; cases hf'; exact ⟨o, ho⟩
        · exact ih hr e' z hf'
    obtain ⟨o, ho⟩ := key _ (I.frames hc) e he hf
    refine ⟨?_, Nat.ne_of_lt (Heap.lt_size ho)⟩
    rcases List.mem_cons.mp he with rfl | z
    · rw [hc.fr] at hf; cases hf
      cases q : st c.L with
      | none => rfl
      | some mo => obtain ⟨_, _, _, z, _⟩ := I.rep _ _ q; exact absurd rfl z
    · exact (I.nf e z L' hf).1

def Ends (Q : MV → Store → Prop) (f : MF) (st : Store) : Prop := match f with
  | .ret v => Q v st
  | .next => Q .none st
  | _ => False

/-- a call of a def of the text's -/
theorem ev_enter {n : Nat} {f : Addr} {name qual : Str} {params : Arguments} {body : List Stmt} {scope : Scope} {dV kV doc pm cdv ct oc : Value} {an od : Option Addr} {osl : Array (Option Value)} {vals : List Value} {binds : List (Str × Value)} {Q : MV → Store → Prop}
    (G : Gd w b₀ mean mg mb) (hc : c.OK (n + 1)) (ho : (heapK w.params).lookup f = some ⟨oc, od, .func (fnOf name qual params body scope dV kV doc pm an cdv ct), osl⟩)
    (hcd : codeIn (heapK w.params) cdv qual = true) (hbind : ∀ s : Shared, (heapK w.params).In s.heap → BindsTo s (fnOf name qual params body scope dV kV doc pm an cdv ct) ⟨vals, []⟩ binds)
    (hloc : ∀ y ∈ binds, scope.names.lookup y.1 = some .local) (hk : scope.kind = .function) (hco : scope.isCoroutine = false) (hgen : scope.isGenerator = false) (hcell : ∀ x ∈ scope.names, x.2 ≠ .cell)
    (lm' : LM) (hlm : ∀ x mv, lm' x = some mv → ∃ v, VR mv v ∧ binds.reverse.lookup x = some v ∧ scope.names.lookup x = some .local)
    (h : ∀ c' : Cx, c'.OK n → c'.env = envX qual scope c'.L f cdv [] → c'.hd = c.hd → Ex w b₀ c' (envX qual scope c'.L f cdv []) (Out w c' E) (execs body (envX qual scope c'.L f cdv [])) lm' st fun fl _ st' => Ends Q fl st') :
    Ev w b₀ c env E (call (.ref f) vals) VR lm st Q := fun s m P I S k => by
  have X := G.X.keeps I.fr.keep
  refine wpAny_call (codeAny_call_def (fd := fnOf name qual params body scope dV kV doc pm an cdv ct) (body := body) (binds := binds) ?_ (X _ _ ho) rfl (G.T.nolimit.keeps I.fr.keep) (codeRec_of X hcd) rfl (hbind s X) hcell hloc (fun h₁ hns hk₁ => ?_) hco hgen hk)
  · have := hc.d; show c.dp < _; omega
  · have I₁ := enterIn (env' := envX qual scope s.heap.objs.size f cdv []) hc I hns hk₁
    refine h (c.under (envX qual scope s.heap.objs.size f cdv []) s.heap.objs.size) (hc.under hk) rfl rfl { s with heap := h₁, toks := s.toks + binds.length } _ _ I₁ ?_ ?_
    · intro x mv e
      (first | refine e0a4 (fun v hv hl hn => ?_) (hlm x mv e) | refine e1a3 (fun v hv hl hn => ?_) (hlm x mv e) | refine e2a2 (fun v hv hl hn => ?_) (hlm x mv e) | obtain ⟨v, hv, hl, hn⟩ := hlm x mv e)
      exact ⟨v, hv, .inl ⟨hn, rfl, hl⟩⟩
    · intro fl x h' tk m' st' lm'' I' T _ hr q
      obtain ⟨I₂, T₂⟩ := In.back hc I I' rfl rfl hk₁ T
      cases x with
      | next => cases hr; exact k .none .none h' tk st' I₂ T₂ rfl q
      | brk => exact q.elim
      | cont => exact q.elim
      | ret mv => obtain ⟨v, hv, rfl⟩ := hr; exact k v mv h' tk st' I₂ T₂ hv q

def scopeOk (s : Scope) : Bool := s.kind == .function && !s.isCoroutine && !s.isGenerator && s.names.all fun y => y.2 != .cell

theorem lm_of {names : List Str} {mvs : List MV} {vals : List Value} (hv : All2 VR mvs vals) : names.Nodup → ∀ {x : Str} {mv : MV}, LM.of (names.zip mvs) x = some mv → ∃ v, VR mv v ∧ (names.zip vals).reverse.lookup x = some v ∧ x ∈ names := by
  induction hv generalizing names with
  | nil => intro _ x mv e; rw [List.zip_nil_right] at e; cases e
  | cons r _ ih =>
    intro hn x mv e
    cases names with
    | nil => cases e
    | cons n ns =>
      have hn' := List.nodup_cons.mp hn
      rw [List.zip_cons_cons] at e
      unfold LM.of at e
      rw [List.zip_cons_cons, List.reverse_cons, List.lookup_append]
      split at e
      · rename_i q
        subst q; cases e
        refine ⟨_, r, ?_, .head _⟩
        have key : ∀ l : List Value, List.lookup x (ns.zip l).reverse = none := fun l => by
          rw [List.lookup_eq_none_iff]
          intro p hp
          have hp' := List.mem_reverse.mp hp
          have := (List.of_mem_zip hp').1
          rw [bne_iff_ne]
          intro e; exact hn'.1 (e ▸ this)
        rw [key]
        simp
      · rename_i q
        (first | refine e0a4 (fun v h1 h2 h3 => ?_) (ih hn'.2 e) | refine e1a3 (fun v h1 h2 h3 => ?_) (ih hn'.2 e) | refine e2a2 (fun v h1 h2 h3 => ?_) (ih hn'.2 e) | obtain ⟨v, h1, h2, h3⟩ := ih hn'.2 e)
        exact ⟨v, h1, by rw [h2]; rfl, .tail _ h3⟩

/-- a call of a def of the text's, by place -/
theorem ev_enterP {n : Nat} {f : Addr} {name qual : Str} {params : Arguments} {body : List Stmt} {scope : Scope} {dV kV doc pm cdv ct oc : Value} {an od : Option Addr} {osl : Array (Option Value)} {vals : List Value} {mvs : List MV} {Q : MV → Store → Prop}
    (G : Gd w b₀ mean mg mb) (hc : c.OK (n + 1)) (ho : (heapK w.params).lookup f = some ⟨oc, od, .func (fnOf name qual params body scope dV kV doc pm an cdv ct), osl⟩)
    (hcd : codeIn (heapK w.params) cdv qual = true) (hv : All2 VR mvs vals)
    (hbind : bindArgs (fnOf name qual params body scope dV kV doc pm an cdv ct) ⟨vals, []⟩ = pure ((params.args.map (·.arg)).zip vals))
    (hloc : ((params.args.map (·.arg)).all fun y => scope.names.lookup y == some .local) = true) (hnd : (params.args.map (·.arg)).Nodup) (hs : scopeOk scope = true)
    (h : ∀ c' : Cx, c'.OK n → c'.env = envX qual scope c'.L f cdv [] → c'.hd = c.hd → Ex w b₀ c' (envX qual scope c'.L f cdv []) (Out w c' E) (execs body (envX qual scope c'.L f cdv [])) (LM.of ((params.args.map (·.arg)).zip mvs)) st fun fl _ st' => Ends Q fl st') :
    Ev w b₀ c env E (call (.ref f) vals) VR lm st Q := by
  unfold scopeOk at hs
  simp only [Bool.and_eq_true, Bool.not_eq_true', beq_iff_eq, List.all_eq_true, bne_iff_ne, ne_eq] at hs
  obtain ⟨⟨⟨h1, h2⟩, h3⟩, h4⟩ := hs
  have loc : ∀ y ∈ params.args.map (·.arg), scope.names.lookup y = some .local := fun y hy => by
    have := List.all_eq_true.mp hloc y hy
    simpa using this
  refine ev_enter G hc ho hcd (fun s _ => BindsTo.of_eq hbind) (fun y hy => loc _ (List.of_mem_zip hy).1) h1 h2 h3 h4 _ (fun x mv e => ?_) h
  (first | refine e0a4 (fun v a b d => ?_) (lm_of hv hnd e) | refine e1a3 (fun v a b d => ?_) (lm_of hv hnd e) | refine e2a2 (fun v a b d => ?_) (lm_of hv hnd e) | obtain ⟨v, a, b, d⟩ := lm_of hv hnd e)
  exact ⟨v, a, b, loc _ d⟩

theorem Store.set_set (st : Store) (a : Addr) (x y : MO) : (st.set a x).set a y = st.set a y := by
  funext b; unfold Store.set; split <;> rfl
theorem ne_if {a C d b : Addr} {fs : List (Str × MV)} (h : st a = some (.inst C d)) (h' : st b = some (.fields fs)) : a ≠ b := fun e => by rw [e, h'] at h; cases h

/-! statements -/
theorem ex_nil {Q : MF → LM → Store → Prop} (h : Q .next lm st) : Ex w b₀ c env E (execs [] env) lm st Q := fun s m P I S k => wpAny_execs_nil (k .next .next s.heap s.toks m st lm I (Step.refl _ _ _) S rfl h)

def Then (w : World) (b₀ : Heap) (c : Cx) (env : Env) (E : Value → Shared → Prop) (rest : List Stmt) (Q : MF → LM → Store → Prop) (f : MF) (lm : LM) (st : Store) : Prop := match f with
  | .next => Ex w b₀ c env E (execs rest env) lm st Q
  | f => Q f lm st
theorem ex_cons {x : Stmt} {rest : List Stmt} {Q : MF → LM → Store → Prop} (h : Ex w b₀ c env E (exec x env) lm st (Then w b₀ c env E rest Q)) : Ex w b₀ c env E (execs (x :: rest) env) lm st Q := fun s m P I S k =>
  wpAny_execs_cons (h s m _ I S fun f x h' tk m' st' l' I' T S' hr q => by
    cases x with
    | next => cases hr; exact q _ m' _ I' S' fun f₂ x₂ h₂ tk₂ m₂ st₂ l₂ I₂ T₂ S₂ hr₂ q₂ => k f₂ x₂ h₂ tk₂ m₂ st₂ l₂ I₂ (T.trans T₂) S₂ hr₂ q₂
    | brk => cases hr; exact k _ .brk h' tk m' st' l' I' T S' rfl q
    | cont => cases hr; exact k _ .cont h' tk m' st' l' I' T S' rfl q
    | ret mv => obtain ⟨v, hv, rfl⟩ := hr; exact k _ (.ret mv) h' tk m' st' l' I' T S' ⟨v, hv, rfl⟩ q)

theorem ex_ret {e : Expr} {pos : Pos} {rest : List Stmt} {Q : MF → LM → Store → Prop} (h : Ev w b₀ c env E (eval e env) VR lm st fun v st₁ => Q (.ret v) lm st₁) : Ex w b₀ c env E (execs (.Return (some e) pos :: rest) env) lm st Q :=
  ex_cons fun s m P I S k => wpAny_Return_some (h s m _ I S fun v x h' tk st' I' T hr q => k (.ret v) (.ret x) h' tk m st' lm I' T (S.step T) ⟨v, hr, rfl⟩ q)

theorem sees_set {h h' : Heap} {m : Str → Option Value} {x : Str} {mv : MV} {v : Value} (S : Sees c env st h m lm) (hs : ∀ b o, b ≠ c.L → h.get? b = some o → h'.get? b = some o)
    (hL : env.locals = c.L) (hx : env.kindOf x = some .local) (hv : VR mv v) : Sees c env st h' (fun y => if y = x then some v else m y) (lm.set x mv) := by
  intro y mv' e
  unfold LM.set at e
  by_cases q : y = x
  · subst q; rw [if_pos rfl] at e; cases e; exact ⟨v, hv, .inl ⟨hx, hL, by simp⟩⟩
  · rw [if_neg q] at e
    (first | refine e0a3 (fun v' hv' z => ?_) (S y mv' e) | refine e1a2 (fun v' hv' z => ?_) (S y mv' e) | refine e2a1 (fun v' hv' z => ?_) (S y mv' e) | obtain ⟨v', hv', z⟩ := S y mv' e)
    refine ⟨v', hv', ?_⟩
    rcases z with ⟨k, l, hm⟩ | ⟨k, l, _⟩ | ⟨k, a, hl, ha, hn, o, ho, hd⟩
    · exact .inl ⟨k, l, by simp [q, hm]⟩
    · exact absurd hL l
    · exact .inr (.inr ⟨k, a, hl, ha, hn, o, hs a o ha ho, hd⟩)

theorem ex_store {n : Nat} {x : Str} {v : Value} {mv : MV} {s : Shared} {m : Str → Option Value} {P : Unit → Shared → Prop} (hc : c.OK n) (he : env = c.env) (hx : env.kindOf x = some .local) (I : In w b₀ c st s.heap m) (S : Sees c env st s.heap m lm) (hv : VR mv v)
    (k : ∀ h' tk m', In w b₀ c st h' m' → Step c st s.heap st h' → Sees c env st h' m' (lm.set x mv) → P () { s with heap := h', toks := tk }) : wpAny (model PG w) c.A (storeName env x v) P E s := by
  subst he
  refine wpAny_storeName_local hx (hc.lo ▸ I.fr.ns) (fun h' hn hs => ?_) (by rw [hc.k]; rfl)
  rw [hc.lo] at hn hs
  obtain ⟨I', T⟩ := I.same (I.fr.set hn hs) fun b o q e => (hs.2 b q).trans e
  exact k h' _ _ I' T (sees_set S (fun b o q e => (hs.2 b q).trans e) hc.lo hx hv)

theorem ex_assign {n : Nat} {x : Str} {xp pos : Pos} {e : Expr} {rest : List Stmt} {Q : MF → LM → Store → Prop} (hc : c.OK n) (he : env = c.env)
    (h : Ev w b₀ c env E (eval e env) VR lm st fun v st₁ => Ex w b₀ c env E (execs rest env) (lm.set x v) st₁ Q) (hx : env.kindOf x = some .local := by rfl)
    (hs : swapsWith e (some (.Name x xp)) pos.line env = pure false := by rfl) : Ex w b₀ c env E (execs (.Assign [.Name x xp] e pos :: rest) env) lm st Q :=
  ex_cons fun s m P I S k => wpAny_Assign_Name (h s m _ I S fun v mv h' tk st' I' T hr q => ex_store hc he hx I' (S.step T) hr fun h₂ tk₂ m₂ I₂ T₂ S₂ => k .next .next h₂ tk₂ m₂ st' _ I₂ (T.trans T₂) S₂ rfl q) hs

theorem ex_assignAttr {o e : Expr} {name : Str} {p pos : Pos} {rest : List Stmt} {Q : MF → LM → Store → Prop}
    (h : Ev w b₀ c env E (eval e env) VR lm st fun v st₁ => Ev w b₀ c env E (eval o env) VR lm st₁ fun a st₂ => ∀ va vv, VR a va → VR v vv → Ev w b₀ c env E (setAttr va name vv) (fun (_ : Unit) _ => True) lm st₂ fun _ st₃ => Ex w b₀ c env E (execs rest env) lm st₃ Q)
    (hs : swapsWith e (some (.Attribute o name p)) pos.line env = pure false := by rfl) : Ex w b₀ c env E (execs (.Assign [.Attribute o name p] e pos :: rest) env) lm st Q :=
  ex_cons fun s m P I S k => plainObj_wpAny_Assign_Attribute (h s m _ I S fun v mv h' tk st' I' T hr q => q _ m _ I' (S.step T) fun v₂ mv₂ h₂ tk₂ st₂ I₂ T₂ hr₂ q₂ => q₂ v₂ v hr₂ hr _ m _ I₂ ((S.step T).step T₂)
    fun _ _ h₃ tk₃ st₃ I₃ T₃ _ q₃ => k .next .next h₃ tk₃ m st₃ lm I₃ ((T.trans T₂).trans T₃) (((S.step T).step T₂).step T₃) rfl q₃) hs

theorem ex_if {e : Expr} {pos : Pos} {body orelse rest : List Stmt} {Q : MF → LM → Store → Prop}
    (h : Ev w b₀ c env E (isTrue e env (eval e env)) Eq lm st fun b st₁ => if b = true then Ex w b₀ c env E (execs body env) lm st₁ (Then w b₀ c env E rest Q) else Ex w b₀ c env E (execs orelse env) lm st₁ (Then w b₀ c env E rest Q)) :
    Ex w b₀ c env E (execs (.If e body orelse pos :: rest) env) lm st Q :=
  ex_cons fun s m P I S k => wpAny_If (h s m _ I S fun v b h' tk st' I' T hr q => by
    subst hr; dsimp only at q
    split
    · rename_i q'; rw [if_pos q'] at q
      exact q _ m _ I' (S.step T) fun f₂ x₂ h₂ tk₂ m₂ st₂ l₂ I₂ T₂ S₂ hr₂ q₂ => k f₂ x₂ h₂ tk₂ m₂ st₂ l₂ I₂ (T.trans T₂) S₂ hr₂ q₂
    · rename_i q'; rw [if_neg q'] at q
      exact q _ m _ I' (S.step T) fun f₂ x₂ h₂ tk₂ m₂ st₂ l₂ I₂ T₂ S₂ hr₂ q₂ => k f₂ x₂ h₂ tk₂ m₂ st₂ l₂ I₂ (T.trans T₂) S₂ hr₂ q₂)

theorem ex_expr {e : Expr} {pos : Pos} {rest : List Stmt} {Q : MF → LM → Store → Prop} (h : Ev w b₀ c env E (eval e env) VR lm st fun v st₁ => Ex w b₀ c env E (execs rest env) lm st₁ Q)
    (hi : interactive env = false := by rfl) (hs : swapsWith e none pos.line env = pure false := by rfl) : Ex w b₀ c env E (execs (.Expr e pos :: rest) env) lm st Q :=
  ex_cons fun s m P I S k => wpAny_Expr_any (h s m _ I S fun v x h' tk st' I' T hr q => k .next .next h' tk m st' lm I' T (S.step T) rfl q) hi hs

theorem ex_augAttr {o e : Expr} {name : Str} {op : Operator} {p pos : Pos} {rest : List Stmt} {Q : MF → LM → Store → Prop}
    (h : Ev w b₀ c env E (eval o env) VR lm st fun a st₁ => ∀ va, VR a va → Ev w b₀ c env E (getAttr va name true) VR lm st₁ fun old st₂ => Ev w b₀ c env E (eval e env) VR lm st₂ fun v st₃ => ∀ vo vv, VR old vo → VR v vv →
      Ev w b₀ c env E (inplaceOp op vo vv) VR lm st₃ fun r st₄ => ∀ vr, VR r vr → Ev w b₀ c env E (setAttr va name vr) (fun (_ : Unit) _ => True) lm st₄ fun _ st₅ => Ex w b₀ c env E (execs rest env) lm st₅ Q) :
    Ex w b₀ c env E (execs (.AugAssign (.Attribute o name p) op e pos :: rest) env) lm st Q :=
  ex_cons fun s m P I S k => wpAny_AugAssign_AttributeAny (h s m _ I S fun v mv h' tk st' I' T hr q => q v hr _ m _ I' (S.step T) fun v₂ mv₂ h₂ tk₂ st₂ I₂ T₂ hr₂ q₂ => q₂ _ m _ I₂ ((S.step T).step T₂)
    fun v₃ mv₃ h₃ tk₃ st₃ I₃ T₃ hr₃ q₃ => q₃ v₂ v₃ hr₂ hr₃ _ m _ I₃ (((S.step T).step T₂).step T₃) fun v₄ mv₄ h₄ tk₄ st₄ I₄ T₄ hr₄ q₄ => q₄ v₄ hr₄ _ m _ I₄ ((((S.step T).step T₂).step T₃).step T₄)
      fun _ _ h₅ tk₅ st₅ I₅ T₅ _ q₅ => k .next .next h₅ tk₅ m st₅ lm I₅ ((((T.trans T₂).trans T₃).trans T₄).trans T₅) (((((S.step T).step T₂).step T₃).step T₄).step T₅) rfl q₅)

/-! tests -/
theorem tr_cmp {l r : Expr} {op : CmpOp} {pos : Pos} {whole : Sem Value} {Q : Bool → Store → Prop}
    (h : Ev w b₀ c env E (eval l env) VR lm st fun a st₁ => Ev w b₀ c env E (eval r env) VR lm st₁ fun b st₂ => ∀ va vb, VR a va → VR b vb → Ev w b₀ c env E (compareOp op va vb) VR lm st₂ fun x st₃ => ∃ b, x = .bool b ∧ Q b st₃)
    (hm : behindInMarks op r = false := by with_unfolding_all rfl) : Ev w b₀ c env E (isTrue (.Compare l [op] [r] pos) env whole) Eq lm st Q := fun s m P I S k =>
  wpAny_isTrue_Compare1 (h s m _ I S fun v x h' tk st' I' T hr q => q _ m _ I' (S.step T) fun v₂ x₂ h₂ tk₂ st₂ I₂ T₂ hr₂ q₂ => q₂ v v₂ hr hr₂ _ m _ I₂ ((S.step T).step T₂) fun v₃ x₃ h₃ tk₃ st₃ I₃ T₃ hr₃ q₃ => by
    obtain ⟨b, rfl, q₃⟩ := q₃
    cases hr₃
    exact wpAny_truthy_bool (k b b h₃ tk₃ st₃ I₃ ((T.trans T₂).trans T₃) rfl q₃)) hm
theorem ev_cmp {l r : Expr} {op : CmpOp} {pos : Pos} {Q : MV → Store → Prop}
    (h : Ev w b₀ c env E (eval l env) VR lm st fun a st₁ => Ev w b₀ c env E (eval r env) VR lm st₁ fun b st₂ => ∀ va vb, VR a va → VR b vb → Ev w b₀ c env E (compareOp op va vb) VR lm st₂ Q)
    (hm : behindInMarks op r = false := by with_unfolding_all rfl) : Ev w b₀ c env E (eval (.Compare l [op] [r] pos) env) VR lm st Q := fun s m P I S k =>
  wpAny_Compare1 (h s m _ I S fun v x h' tk st' I' T hr q => q _ m _ I' (S.step T) fun v₂ x₂ h₂ tk₂ st₂ I₂ T₂ hr₂ q₂ => q₂ v v₂ hr hr₂ _ m _ I₂ ((S.step T).step T₂) fun v₃ x₃ h₃ tk₃ st₃ I₃ T₃ hr₃ q₃ =>
    k v₃ x₃ h₃ tk₃ st₃ I₃ ((T.trans T₂).trans T₃) hr₃ q₃) hm
theorem tr_not {x : Expr} {pos : Pos} {whole : Sem Value} {Q : Bool → Store → Prop} (h : Ev w b₀ c env E (isTrue x env (eval x env)) Eq lm st fun b st₁ => Q (!b) st₁) : Ev w b₀ c env E (isTrue (.UnaryOp .Not x pos) env whole) Eq lm st Q := fun s m P I S k =>
  isTrue_not (h s m _ I S fun v b h' tk st' I' T hr q => by subst hr; exact k (!b) (!b) h' tk st' I' T rfl q)
theorem tr_and_nil {pos : Pos} {whole : Sem Value} {Q : Bool → Store → Prop} (h : Q true st) : Ev w b₀ c env E (isTrue (.BoolOp .And [] pos) env whole) Eq lm st Q := .now h fun s _ k => isTrue_and_nil (k _ _ rfl)
theorem tr_or_nil {pos : Pos} {whole : Sem Value} {Q : Bool → Store → Prop} (h : Q false st) : Ev w b₀ c env E (isTrue (.BoolOp .Or [] pos) env whole) Eq lm st Q := .now h fun s _ k => isTrue_or_nil (k _ _ rfl)
theorem tr_and {x : Expr} {rest : List Expr} {pos : Pos} {whole : Sem Value} {Q : Bool → Store → Prop}
    (h : Ev w b₀ c env E (isTrue x env (eval x env)) Eq lm st fun b st₁ => if b = true then Ev w b₀ c env E (isTrue (.BoolOp .And rest pos) env whole) Eq lm st₁ Q else Q false st₁) : Ev w b₀ c env E (isTrue (.BoolOp .And (x :: rest) pos) env whole) Eq lm st Q := fun s m P I S k =>
  isTrue_and (h s m _ I S fun v b h' tk st' I' T hr q => by
    subst hr; dsimp only at q
    split
    · rename_i z; rw [if_pos z] at q; exact q _ m _ I' (S.step T) fun v₂ x₂ h₂ tk₂ st₂ I₂ T₂ hr₂ q₂ => k v₂ x₂ h₂ tk₂ st₂ I₂ (T.trans T₂) hr₂ q₂
    · rename_i z; rw [if_neg z] at q; exact k false false h' tk st' I' T rfl q)
theorem tr_or {x : Expr} {rest : List Expr} {pos : Pos} {whole : Sem Value} {Q : Bool → Store → Prop}
    (h : Ev w b₀ c env E (isTrue x env (eval x env)) Eq lm st fun b st₁ => if b = true then Q true st₁ else Ev w b₀ c env E (isTrue (.BoolOp .Or rest pos) env whole) Eq lm st₁ Q) : Ev w b₀ c env E (isTrue (.BoolOp .Or (x :: rest) pos) env whole) Eq lm st Q := fun s m P I S k =>
  isTrue_or (h s m _ I S fun v b h' tk st' I' T hr q => by
    subst hr; dsimp only at q
    split
    · rename_i z; rw [if_pos z] at q; exact k true true h' tk st' I' T rfl q
    · rename_i z; rw [if_neg z] at q; exact q _ m _ I' (S.step T) fun v₂ x₂ h₂ tk₂ st₂ I₂ T₂ hr₂ q₂ => k v₂ x₂ h₂ tk₂ st₂ I₂ (T.trans T₂) hr₂ q₂)
theorem tr_bool {e : Expr} {whole : Sem Value} {Q : Bool → Store → Prop} (h : Ev w b₀ c env E whole VR lm st fun v st₁ => (∃ b, v = .bool b ∧ Q b st₁) ∨ (v = .none ∧ Q false st₁))
    (he : isTrue e env whole = (do let v ← whole; standAt e.pos; holding [v] (truthy v)) := by rfl) : Ev w b₀ c env E (isTrue e env whole) Eq lm st Q := fun s m P I S k =>
  isTrue_plain (h s m _ I S fun v x h' tk st' I' T hr q => by
    rcases q with ⟨b, rfl, q⟩ | ⟨rfl, q⟩
    · cases hr; exact wpAny_truthy_bool (k b b h' tk st' I' T rfl q)
    · cases hr; exact truthy_none (k false false h' tk st' I' T rfl q)) he

/-! comparisons of values -/
theorem cmp_eq_int {a b : Int} {va vb : Value} {Q : MV → Store → Prop} (ha : VR (.int a) va) (hb : VR (.int b) vb) (h : Q (.bool (a == b)) st) : Ev w b₀ c env E (compareOp .Eq va vb) VR lm st Q := by
  obtain ⟨t, rfl⟩ := ha; obtain ⟨u, rfl⟩ := hb; exact .now h fun s _ k => PyProof.Rows.eq_int (k _ _ rfl)
theorem cmp_eq_intU {a b : Int} {Q : MV → Store → Prop} (h : Q (.bool (a == b)) st) : ∀ va vb, VR (.int a) va → VR (.int b) vb → Ev w b₀ c env E (compareOp .Eq va vb) VR lm st Q := fun va vb ha hb => cmp_eq_int ha hb h
theorem cmp_ne_int {a b : Int} {va vb : Value} {Q : MV → Store → Prop} (ha : VR (.int a) va) (hb : VR (.int b) vb) (h : Q (.bool (a != b)) st) : Ev w b₀ c env E (compareOp .NotEq va vb) VR lm st Q := by
  obtain ⟨t, rfl⟩ := ha; obtain ⟨u, rfl⟩ := hb; exact .now h fun s _ k => PyProof.Rows.ne_int (k _ _ rfl)
theorem cmp_ne_intU {a b : Int} {Q : MV → Store → Prop} (h : Q (.bool (a != b)) st) : ∀ va vb, VR (.int a) va → VR (.int b) vb → Ev w b₀ c env E (compareOp .NotEq va vb) VR lm st Q := fun va vb ha hb => cmp_ne_int ha hb h
theorem cmp_lt_int {a b : Int} {va vb : Value} {Q : MV → Store → Prop} (ha : VR (.int a) va) (hb : VR (.int b) vb) (h : Q (.bool (decide (a < b))) st) : Ev w b₀ c env E (compareOp .Lt va vb) VR lm st Q := by
  obtain ⟨t, rfl⟩ := ha; obtain ⟨u, rfl⟩ := hb; exact .now h fun s _ k => PyProof.Rows.lt_int (k _ _ rfl)
theorem cmp_lt_intU {a b : Int} {Q : MV → Store → Prop} (h : Q (.bool (decide (a < b))) st) : ∀ va vb, VR (.int a) va → VR (.int b) vb → Ev w b₀ c env E (compareOp .Lt va vb) VR lm st Q := fun va vb ha hb => cmp_lt_int ha hb h
theorem cmp_le_int {a b : Int} {va vb : Value} {Q : MV → Store → Prop} (ha : VR (.int a) va) (hb : VR (.int b) vb) (h : Q (.bool (decide (a ≤ b))) st) : Ev w b₀ c env E (compareOp .LtE va vb) VR lm st Q := by
  obtain ⟨t, rfl⟩ := ha; obtain ⟨u, rfl⟩ := hb; exact .now h fun s _ k => PyProof.Rows.le_int (k _ _ rfl)
theorem cmp_le_intU {a b : Int} {Q : MV → Store → Prop} (h : Q (.bool (decide (a ≤ b))) st) : ∀ va vb, VR (.int a) va → VR (.int b) vb → Ev w b₀ c env E (compareOp .LtE va vb) VR lm st Q := fun va vb ha hb => cmp_le_int ha hb h
theorem cmp_gt_int {a b : Int} {va vb : Value} {Q : MV → Store → Prop} (ha : VR (.int a) va) (hb : VR (.int b) vb) (h : Q (.bool (decide (b < a))) st) : Ev w b₀ c env E (compareOp .Gt va vb) VR lm st Q := by
  obtain ⟨t, rfl⟩ := ha; obtain ⟨u, rfl⟩ := hb; exact .now h fun s _ k => PyProof.Rows.gt_int (k _ _ rfl)
theorem cmp_gt_intU {a b : Int} {Q : MV → Store → Prop} (h : Q (.bool (decide (b < a))) st) : ∀ va vb, VR (.int a) va → VR (.int b) vb → Ev w b₀ c env E (compareOp .Gt va vb) VR lm st Q := fun va vb ha hb => cmp_gt_int ha hb h
theorem cmp_eq_str {a b : Str} {va vb : Value} {Q : MV → Store → Prop} (ha : VR (.str a) va) (hb : VR (.str b) vb) (h : Q (.bool (a == b)) st) : Ev w b₀ c env E (compareOp .Eq va vb) VR lm st Q := by
  obtain ⟨t, rfl⟩ := ha; obtain ⟨u, rfl⟩ := hb; exact .now h fun s _ k => PyProof.Rows.eq_str (k _ _ rfl)
theorem cmp_eq_strU {a b : Str} {Q : MV → Store → Prop} (h : Q (.bool (a == b)) st) : ∀ va vb, VR (.str a) va → VR (.str b) vb → Ev w b₀ c env E (compareOp .Eq va vb) VR lm st Q := fun va vb ha hb => cmp_eq_str ha hb h
theorem cmp_ne_str {a b : Str} {va vb : Value} {Q : MV → Store → Prop} (ha : VR (.str a) va) (hb : VR (.str b) vb) (h : Q (.bool (a != b)) st) : Ev w b₀ c env E (compareOp .NotEq va vb) VR lm st Q := by
  obtain ⟨t, rfl⟩ := ha; obtain ⟨u, rfl⟩ := hb; exact .now h fun s _ k => PyProof.Rows.ne_str (k _ _ rfl)
theorem cmp_ne_strU {a b : Str} {Q : MV → Store → Prop} (h : Q (.bool (a != b)) st) : ∀ va vb, VR (.str a) va → VR (.str b) vb → Ev w b₀ c env E (compareOp .NotEq va vb) VR lm st Q := fun va vb ha hb => cmp_ne_str ha hb h

def MV.isNone : MV → Bool
  | .none => true
  | _ => false
theorem VR.isNone {a : MV} {v : Value} (h : VR a v) : (v == .none) = a.isNone := by
  cases a <;> first | (cases h; rfl) | (obtain ⟨t, rfl⟩ := h; rfl)
theorem cmp_is_none {a : MV} {va vb : Value} {Q : MV → Store → Prop} (ha : VR a va) (hb : VR .none vb) (h : Q (.bool a.isNone) st) : Ev w b₀ c env E (compareOp .Is va vb) VR lm st Q := by
  cases hb; exact .now h fun s _ k => is_none (by rw [ha.isNone]; exact k _ s.toks rfl)
theorem cmp_is_noneU {a : MV} {Q : MV → Store → Prop} (h : Q (.bool a.isNone) st) : ∀ va vb, VR a va → VR .none vb → Ev w b₀ c env E (compareOp .Is va vb) VR lm st Q := fun va vb ha hb => cmp_is_none ha hb h
theorem cmp_isnot_none {a : MV} {va vb : Value} {Q : MV → Store → Prop} (ha : VR a va) (hb : VR .none vb) (h : Q (.bool (!a.isNone)) st) : Ev w b₀ c env E (compareOp .IsNot va vb) VR lm st Q := by
  cases hb; exact .now h fun s _ k => isNot_none (by rw [ha.isNone]; exact k _ s.toks rfl)
theorem cmp_isnot_noneU {a : MV} {Q : MV → Store → Prop} (h : Q (.bool (!a.isNone)) st) : ∀ va vb, VR a va → VR .none vb → Ev w b₀ c env E (compareOp .IsNot va vb) VR lm st Q := fun va vb ha hb => cmp_isnot_none ha hb h
theorem cmp_none_is {b : Addr} {va vb : Value} {Q : MV → Store → Prop} (ha : VR .none va) (hb : VR (.ref b) vb) (h : Q (.bool false) st) : Ev w b₀ c env E (compareOp .Is va vb) VR lm st Q := by
  cases ha; cases hb; exact .now h fun s _ k => wpAny_is_other rfl (by intro e; cases e) (k _ s.toks rfl)
/-- two instances: the same one, or not -/
theorem cmp_is_inst {a b : Addr} {C C' d d' : Addr} {va vb : Value} {Q : MV → Store → Prop} (ha : VR (.ref a) va) (hb : VR (.ref b) vb) (sa : st a = some (.inst C d)) (sb : st b = some (.inst C' d')) (h : Q (.bool (decide (a = b))) st) :
    Ev w b₀ c env E (compareOp .Is va vb) VR lm st Q := fun s m P I S k => by
  cases ha; cases hb
  by_cases q : a = b
  · subst q; rw [decide_eq_true rfl] at h; exact wpAny_is_ref_self (k _ (.bool true) s.heap s.toks st I (Step.refl _ _ _) rfl h)
  · rw [decide_eq_false q] at h
    (first | refine e0a4 (fun oa h1 h2 _ => ?_) (I.rep a _ sa) | refine e1a3 (fun oa h1 h2 _ => ?_) (I.rep a _ sa) | refine e2a2 (fun oa h1 h2 _ => ?_) (I.rep a _ sa) | obtain ⟨oa, h1, h2, _⟩ := I.rep a _ sa)
    (first | refine e0a4 (fun ob h3 h4 _ => ?_) (I.rep b _ sb) | refine e1a3 (fun ob h3 h4 _ => ?_) (I.rep b _ sb) | refine e2a2 (fun ob h3 h4 _ => ?_) (I.rep b _ sb) | obtain ⟨ob, h3, h4, _⟩ := I.rep b _ sb)
    cases h2
    exact wpAny_is_ref_other q h1 h3 (by intro e; cases e) (k _ (.bool false) s.heap s.toks st I (Step.refl _ _ _) rfl h)
theorem cmp_is_instU {a b : Addr} {C C' d d' : Addr} {Q : MV → Store → Prop} (sa : st a = some (.inst C d)) (sb : st b = some (.inst C' d')) (h : Q (.bool (decide (a = b))) st) : ∀ va vb, VR (.ref a) va → VR (.ref b) vb → Ev w b₀ c env E (compareOp .Is va vb) VR lm st Q := fun va vb ha hb => cmp_is_inst ha hb sa sb h

/-! arithmetic -/
theorem op_add {a b : Int} {va vb : Value} {Q : MV → Store → Prop} (ha : VR (.int a) va) (hb : VR (.int b) vb) (h : Q (.int (a + b)) st) : Ev w b₀ c env E (binaryOp .Add va vb) VR lm st Q := by
  obtain ⟨t, rfl⟩ := ha; obtain ⟨u, rfl⟩ := hb; exact .now h fun s _ k => PyProof.Rows.add_int (k _ _ ⟨_, rfl⟩)
theorem op_addU {a b : Int} {Q : MV → Store → Prop} (h : Q (.int (a + b)) st) : ∀ va vb, VR (.int a) va → VR (.int b) vb → Ev w b₀ c env E (binaryOp .Add va vb) VR lm st Q := fun va vb ha hb => op_add ha hb h
theorem op_iadd {a b : Int} {va vb : Value} {Q : MV → Store → Prop} (ha : VR (.int a) va) (hb : VR (.int b) vb) (h : Q (.int (a + b)) st) : Ev w b₀ c env E (inplaceOp .Add va vb) VR lm st Q := by
  obtain ⟨t, rfl⟩ := ha; obtain ⟨u, rfl⟩ := hb; exact .now h fun s _ k => PyProof.Rows.iadd_int (k _ _ ⟨_, rfl⟩)
theorem op_iaddU {a b : Int} {Q : MV → Store → Prop} (h : Q (.int (a + b)) st) : ∀ va vb, VR (.int a) va → VR (.int b) vb → Ev w b₀ c env E (inplaceOp .Add va vb) VR lm st Q := fun va vb ha hb => op_iadd ha hb h
theorem op_sub {a b : Int} {va vb : Value} {Q : MV → Store → Prop} (ha : VR (.int a) va) (hb : VR (.int b) vb) (h : Q (.int (a - b)) st) : Ev w b₀ c env E (binaryOp .Sub va vb) VR lm st Q := by
  obtain ⟨t, rfl⟩ := ha; obtain ⟨u, rfl⟩ := hb; exact .now h fun s _ k => PyProof.Rows.sub_int (k _ _ ⟨_, rfl⟩)
theorem op_subU {a b : Int} {Q : MV → Store → Prop} (h : Q (.int (a - b)) st) : ∀ va vb, VR (.int a) va → VR (.int b) vb → Ev w b₀ c env E (binaryOp .Sub va vb) VR lm st Q := fun va vb ha hb => op_sub ha hb h
theorem op_mod {a b : Int} {va vb : Value} {Q : MV → Store → Prop} (ha : VR (.int a) va) (hb : VR (.int b) vb) (h0 : b ≠ 0) (h : Q (.int (a.fmod b)) st) : Ev w b₀ c env E (binaryOp .Mod va vb) VR lm st Q := by
  obtain ⟨t, rfl⟩ := ha; obtain ⟨u, rfl⟩ := hb; exact .now h fun s _ k => mod_int' h0 (k _ _ ⟨_, rfl⟩)
theorem op_modU {a b : Int} {Q : MV → Store → Prop} (h0 : b ≠ 0) (h : Q (.int (a.fmod b)) st) : ∀ va vb, VR (.int a) va → VR (.int b) vb → Ev w b₀ c env E (binaryOp .Mod va vb) VR lm st Q := fun va vb ha hb => op_mod ha hb h0 h
theorem op_mul {a b : Int} {va vb : Value} {Q : MV → Store → Prop} (ha : VR (.int a) va) (hb : VR (.int b) vb) (hm : IntMulOk a b) (h : Q (.int (a * b)) st) : Ev w b₀ c env E (binaryOp .Mult va vb) VR lm st Q := by
  obtain ⟨t, rfl⟩ := ha; obtain ⟨u, rfl⟩ := hb; exact .now h fun s _ k => PyProof.Rows.mul_int (k _ _ ⟨_, rfl⟩) hm
theorem op_mulU {a b : Int} {Q : MV → Store → Prop} (hm : IntMulOk a b) (h : Q (.int (a * b)) st) : ∀ va vb, VR (.int a) va → VR (.int b) vb → Ev w b₀ c env E (binaryOp .Mult va vb) VR lm st Q := fun va vb ha hb => op_mul ha hb hm h
theorem op_fdiv {a b : Int} {va vb : Value} {Q : MV → Store → Prop} (ha : VR (.int a) va) (hb : VR (.int b) vb) (h0 : b ≠ 0) (hp : Builtin.divisionGoesByPylong a b = false) (h : Q (.int (a.fdiv b)) st) : Ev w b₀ c env E (binaryOp .FloorDiv va vb) VR lm st Q := by
  obtain ⟨t, rfl⟩ := ha; obtain ⟨u, rfl⟩ := hb; exact .now h fun s _ k => floordiv_int h0 (k _ _ ⟨_, rfl⟩) (.inl hp)
theorem op_neg {a : Int} {va : Value} {Q : MV → Store → Prop} (ha : VR (.int a) va) (h : Q (.int (-a)) st) : Ev w b₀ c env E (unaryOp .USub va) VR lm st Q := by
  obtain ⟨t, rfl⟩ := ha; exact .now h fun s _ k => PyProof.Rows.neg_int (k _ _ ⟨_, rfl⟩)
theorem op_negU {a : Int} {Q : MV → Store → Prop} (h : Q (.int (-a)) st) : ∀ va, VR (.int a) va → Ev w b₀ c env E (unaryOp .USub va) VR lm st Q := fun va ha => op_neg ha h
theorem ev_unary {op : UnaryOp} {x : Expr} {pos : Pos} {Q : MV → Store → Prop} (h : Ev w b₀ c env E (eval x env) VR lm st fun a st₁ => ∀ va, VR a va → Ev w b₀ c env E (unaryOp op va) VR lm st₁ Q) : Ev w b₀ c env E (eval (.UnaryOp op x pos) env) VR lm st Q := fun s m P I S k =>
  wpAny_UnaryOp (h s m _ I S fun v x h' tk st' I' T hr q => q v hr _ m _ I' (S.step T) fun v₂ x₂ h₂ tk₂ st₂ I₂ T₂ hr₂ q₂ => k v₂ x₂ h₂ tk₂ st₂ I₂ (T.trans T₂) hr₂ q₂)
end
end PartM3
section PartM4
open PySem PySem.W PyProof.Rows PySem.Spec PySem.Calls

structure PV where
  (place pid state parent space registers pc files cwd name channel killed status in_call progress told wakes job turns : MV)
def PV.fs (p : PV) : List (Str × MV) := [("place", p.place), ("pid", p.pid), ("state", p.state), ("parent", p.parent), ("space", p.space), ("registers", p.registers), ("pc", p.pc), ("files", p.files), ("cwd", p.cwd), ("name", p.name), ("channel", p.channel), ("killed", p.killed), ("status", p.status), ("in_call", p.in_call), ("progress", p.progress), ("told", p.told), ("wakes", p.wakes), ("job", p.job), ("turns", p.turns)]
structure TV where
  (places next_pid last first running : MV)
def TV.fs (p : TV) : List (Str × MV) := [("places", p.places), ("next_pid", p.next_pid), ("last", p.last), ("first", p.first), ("running", p.running)]
section
variable {w : World}
theorem aP_place : AttrOk w 131 "place" := ⟨by k_is, by k_is, ⟨_, by k_is, by k_is⟩, by k_is, by k_is, by k_is⟩
theorem gP_place (p : PV) : fget "place" p.fs = some p.place := by rfl
theorem sP_place (p : PV) (v : MV) : fput "place" v p.fs = ({ p with place := v } : PV).fs := by rfl
theorem aP_pid : AttrOk w 131 "pid" := ⟨by k_is, by k_is, ⟨_, by k_is, by k_is⟩, by k_is, by k_is, by k_is⟩
theorem gP_pid (p : PV) : fget "pid" p.fs = some p.pid := by rfl
theorem sP_pid (p : PV) (v : MV) : fput "pid" v p.fs = ({ p with pid := v } : PV).fs := by rfl
theorem aP_state : AttrOk w 131 "state" := ⟨by k_is, by k_is, ⟨_, by k_is, by k_is⟩, by k_is, by k_is, by k_is⟩
theorem gP_state (p : PV) : fget "state" p.fs = some p.state := by rfl
theorem sP_state (p : PV) (v : MV) : fput "state" v p.fs = ({ p with state := v } : PV).fs := by rfl
theorem aP_parent : AttrOk w 131 "parent" := ⟨by k_is, by k_is, ⟨_, by k_is, by k_is⟩, by k_is, by k_is, by k_is⟩
theorem gP_parent (p : PV) : fget "parent" p.fs = some p.parent := by rfl
theorem sP_parent (p : PV) (v : MV) : fput "parent" v p.fs = ({ p with parent := v } : PV).fs := by rfl
theorem aP_space : AttrOk w 131 "space" := ⟨by k_is, by k_is, ⟨_, by k_is, by k_is⟩, by k_is, by k_is, by k_is⟩
theorem gP_space (p : PV) : fget "space" p.fs = some p.space := by rfl
theorem sP_space (p : PV) (v : MV) : fput "space" v p.fs = ({ p with space := v } : PV).fs := by rfl
theorem aP_registers : AttrOk w 131 "registers" := ⟨by k_is, by k_is, ⟨_, by k_is, by k_is⟩, by k_is, by k_is, by k_is⟩
theorem gP_registers (p : PV) : fget "registers" p.fs = some p.registers := by rfl
theorem sP_registers (p : PV) (v : MV) : fput "registers" v p.fs = ({ p with registers := v } : PV).fs := by rfl
theorem aP_pc : AttrOk w 131 "pc" := ⟨by k_is, by k_is, ⟨_, by k_is, by k_is⟩, by k_is, by k_is, by k_is⟩
theorem gP_pc (p : PV) : fget "pc" p.fs = some p.pc := by rfl
theorem sP_pc (p : PV) (v : MV) : fput "pc" v p.fs = ({ p with pc := v } : PV).fs := by rfl
theorem aP_files : AttrOk w 131 "files" := ⟨by k_is, by k_is, ⟨_, by k_is, by k_is⟩, by k_is, by k_is, by k_is⟩
theorem gP_files (p : PV) : fget "files" p.fs = some p.files := by rfl
theorem sP_files (p : PV) (v : MV) : fput "files" v p.fs = ({ p with files := v } : PV).fs := by rfl
theorem aP_cwd : AttrOk w 131 "cwd" := ⟨by k_is, by k_is, ⟨_, by k_is, by k_is⟩, by k_is, by k_is, by k_is⟩
theorem gP_cwd (p : PV) : fget "cwd" p.fs = some p.cwd := by rfl
theorem sP_cwd (p : PV) (v : MV) : fput "cwd" v p.fs = ({ p with cwd := v } : PV).fs := by rfl
theorem aP_name : AttrOk w 131 "name" := ⟨by k_is, by k_is, ⟨_, by k_is, by k_is⟩, by k_is, by k_is, by k_is⟩
theorem gP_name (p : PV) : fget "name" p.fs = some p.name := by rfl
theorem sP_name (p : PV) (v : MV) : fput "name" v p.fs = ({ p with name := v } : PV).fs := by rfl
theorem aP_channel : AttrOk w 131 "channel" := ⟨by k_is, by k_is, ⟨_, by k_is, by k_is⟩, by k_is, by k_is, by k_is⟩
theorem gP_channel (p : PV) : fget "channel" p.fs = some p.channel := by rfl
theorem sP_channel (p : PV) (v : MV) : fput "channel" v p.fs = ({ p with channel := v } : PV).fs := by rfl
theorem aP_killed : AttrOk w 131 "killed" := ⟨by k_is, by k_is, ⟨_, by k_is, by k_is⟩, by k_is, by k_is, by k_is⟩
theorem gP_killed (p : PV) : fget "killed" p.fs = some p.killed := by rfl
theorem sP_killed (p : PV) (v : MV) : fput "killed" v p.fs = ({ p with killed := v } : PV).fs := by rfl
theorem aP_status : AttrOk w 131 "status" := ⟨by k_is, by k_is, ⟨_, by k_is, by k_is⟩, by k_is, by k_is, by k_is⟩
theorem gP_status (p : PV) : fget "status" p.fs = some p.status := by rfl
theorem sP_status (p : PV) (v : MV) : fput "status" v p.fs = ({ p with status := v } : PV).fs := by rfl
theorem aP_in_call : AttrOk w 131 "in_call" := ⟨by k_is, by k_is, ⟨_, by k_is, by k_is⟩, by k_is, by k_is, by k_is⟩
theorem gP_in_call (p : PV) : fget "in_call" p.fs = some p.in_call := by rfl
theorem sP_in_call (p : PV) (v : MV) : fput "in_call" v p.fs = ({ p with in_call := v } : PV).fs := by rfl
theorem aP_progress : AttrOk w 131 "progress" := ⟨by k_is, by k_is, ⟨_, by k_is, by k_is⟩, by k_is, by k_is, by k_is⟩
theorem gP_progress (p : PV) : fget "progress" p.fs = some p.progress := by rfl
theorem sP_progress (p : PV) (v : MV) : fput "progress" v p.fs = ({ p with progress := v } : PV).fs := by rfl
theorem aP_told : AttrOk w 131 "told" := ⟨by k_is, by k_is, ⟨_, by k_is, by k_is⟩, by k_is, by k_is, by k_is⟩
theorem gP_told (p : PV) : fget "told" p.fs = some p.told := by rfl
theorem sP_told (p : PV) (v : MV) : fput "told" v p.fs = ({ p with told := v } : PV).fs := by rfl
theorem aP_wakes : AttrOk w 131 "wakes" := ⟨by k_is, by k_is, ⟨_, by k_is, by k_is⟩, by k_is, by k_is, by k_is⟩
theorem gP_wakes (p : PV) : fget "wakes" p.fs = some p.wakes := by rfl
theorem sP_wakes (p : PV) (v : MV) : fput "wakes" v p.fs = ({ p with wakes := v } : PV).fs := by rfl
theorem aP_job : AttrOk w 131 "job" := ⟨by k_is, by k_is, ⟨_, by k_is, by k_is⟩, by k_is, by k_is, by k_is⟩
theorem gP_job (p : PV) : fget "job" p.fs = some p.job := by rfl
theorem sP_job (p : PV) (v : MV) : fput "job" v p.fs = ({ p with job := v } : PV).fs := by rfl
theorem aP_turns : AttrOk w 131 "turns" := ⟨by k_is, by k_is, ⟨_, by k_is, by k_is⟩, by k_is, by k_is, by k_is⟩
theorem gP_turns (p : PV) : fget "turns" p.fs = some p.turns := by rfl
theorem sP_turns (p : PV) (v : MV) : fput "turns" v p.fs = ({ p with turns := v } : PV).fs := by rfl
theorem aT_places : AttrOk w 274 "places" := ⟨by k_is, by k_is, ⟨_, by k_is, by k_is⟩, by k_is, by k_is, by k_is⟩
theorem gT_places (p : TV) : fget "places" p.fs = some p.places := by rfl
theorem sT_places (p : TV) (v : MV) : fput "places" v p.fs = ({ p with places := v } : TV).fs := by rfl
theorem aT_next_pid : AttrOk w 274 "next_pid" := ⟨by k_is, by k_is, ⟨_, by k_is, by k_is⟩, by k_is, by k_is, by k_is⟩
theorem gT_next_pid (p : TV) : fget "next_pid" p.fs = some p.next_pid := by rfl
theorem sT_next_pid (p : TV) (v : MV) : fput "next_pid" v p.fs = ({ p with next_pid := v } : TV).fs := by rfl
theorem aT_last : AttrOk w 274 "last" := ⟨by k_is, by k_is, ⟨_, by k_is, by k_is⟩, by k_is, by k_is, by k_is⟩
theorem gT_last (p : TV) : fget "last" p.fs = some p.last := by rfl
theorem sT_last (p : TV) (v : MV) : fput "last" v p.fs = ({ p with last := v } : TV).fs := by rfl
theorem aT_first : AttrOk w 274 "first" := ⟨by k_is, by k_is, ⟨_, by k_is, by k_is⟩, by k_is, by k_is, by k_is⟩
theorem gT_first (p : TV) : fget "first" p.fs = some p.first := by rfl
theorem sT_first (p : TV) (v : MV) : fput "first" v p.fs = ({ p with first := v } : TV).fs := by rfl
theorem aT_running : AttrOk w 274 "running" := ⟨by k_is, by k_is, ⟨_, by k_is, by k_is⟩, by k_is, by k_is, by k_is⟩
theorem gT_running (p : TV) : fget "running" p.fs = some p.running := by rfl
theorem sT_running (p : TV) (v : MV) : fput "running" v p.fs = ({ p with running := v } : TV).fs := by rfl
end
section
variable {w : World} {b₀ : Heap} {mean : ExcName → Option Value} {mg mb : Str → Option Value} {c : Cx} {env : Env} {E : Value → Shared → Prop} {lm : LM} {st : Store} {a d : Addr} {pv : PV} {tv : TV} {expr : Bool} {v : Value} {mv : MV}
theorem rP_place {Q : MV → Store → Prop} (G : Gd w b₀ mean mg mb) (ha : st a = some (.inst 131 d)) (hf : st d = some (.fields pv.fs)) (h : Q pv.place st) : Ev w b₀ c env E (getAttr (.ref a) "place" expr) VR lm st Q := ev_getattr G ha hf aP_place (gP_place _) h
theorem rP_pid {Q : MV → Store → Prop} (G : Gd w b₀ mean mg mb) (ha : st a = some (.inst 131 d)) (hf : st d = some (.fields pv.fs)) (h : Q pv.pid st) : Ev w b₀ c env E (getAttr (.ref a) "pid" expr) VR lm st Q := ev_getattr G ha hf aP_pid (gP_pid _) h
theorem wP_pid {Q : Unit → Store → Prop} (G : Gd w b₀ mean mg mb) (ha : st a = some (.inst 131 d)) (hf : st d = some (.fields pv.fs)) (hv : VR mv v) (h : Q () (st.set d (.fields ({ pv with pid := mv } : PV).fs))) : Ev w b₀ c env E (setAttr (.ref a) "pid" v) (fun _ _ => True) lm st Q := ev_setattr G ha hf aP_pid hv (by rw [sP_pid]; show (19 : Nat) ≤ 100; decide) (by rw [sP_pid]; exact h)
theorem rP_state {Q : MV → Store → Prop} (G : Gd w b₀ mean mg mb) (ha : st a = some (.inst 131 d)) (hf : st d = some (.fields pv.fs)) (h : Q pv.state st) : Ev w b₀ c env E (getAttr (.ref a) "state" expr) VR lm st Q := ev_getattr G ha hf aP_state (gP_state _) h
theorem wP_state {Q : Unit → Store → Prop} (G : Gd w b₀ mean mg mb) (ha : st a = some (.inst 131 d)) (hf : st d = some (.fields pv.fs)) (hv : VR mv v) (h : Q () (st.set d (.fields ({ pv with state := mv } : PV).fs))) : Ev w b₀ c env E (setAttr (.ref a) "state" v) (fun _ _ => True) lm st Q := ev_setattr G ha hf aP_state hv (by rw [sP_state]; show (19 : Nat) ≤ 100; decide) (by rw [sP_state]; exact h)
theorem rP_parent {Q : MV → Store → Prop} (G : Gd w b₀ mean mg mb) (ha : st a = some (.inst 131 d)) (hf : st d = some (.fields pv.fs)) (h : Q pv.parent st) : Ev w b₀ c env E (getAttr (.ref a) "parent" expr) VR lm st Q := ev_getattr G ha hf aP_parent (gP_parent _) h
theorem wP_parent {Q : Unit → Store → Prop} (G : Gd w b₀ mean mg mb) (ha : st a = some (.inst 131 d)) (hf : st d = some (.fields pv.fs)) (hv : VR mv v) (h : Q () (st.set d (.fields ({ pv with parent := mv } : PV).fs))) : Ev w b₀ c env E (setAttr (.ref a) "parent" v) (fun _ _ => True) lm st Q := ev_setattr G ha hf aP_parent hv (by rw [sP_parent]; show (19 : Nat) ≤ 100; decide) (by rw [sP_parent]; exact h)
theorem rP_space {Q : MV → Store → Prop} (G : Gd w b₀ mean mg mb) (ha : st a = some (.inst 131 d)) (hf : st d = some (.fields pv.fs)) (h : Q pv.space st) : Ev w b₀ c env E (getAttr (.ref a) "space" expr) VR lm st Q := ev_getattr G ha hf aP_space (gP_space _) h
theorem wP_space {Q : Unit → Store → Prop} (G : Gd w b₀ mean mg mb) (ha : st a = some (.inst 131 d)) (hf : st d = some (.fields pv.fs)) (hv : VR mv v) (h : Q () (st.set d (.fields ({ pv with space := mv } : PV).fs))) : Ev w b₀ c env E (setAttr (.ref a) "space" v) (fun _ _ => True) lm st Q := ev_setattr G ha hf aP_space hv (by rw [sP_space]; show (19 : Nat) ≤ 100; decide) (by rw [sP_space]; exact h)
theorem rP_registers {Q : MV → Store → Prop} (G : Gd w b₀ mean mg mb) (ha : st a = some (.inst 131 d)) (hf : st d = some (.fields pv.fs)) (h : Q pv.registers st) : Ev w b₀ c env E (getAttr (.ref a) "registers" expr) VR lm st Q := ev_getattr G ha hf aP_registers (gP_registers _) h
theorem wP_registers {Q : Unit → Store → Prop} (G : Gd w b₀ mean mg mb) (ha : st a = some (.inst 131 d)) (hf : st d = some (.fields pv.fs)) (hv : VR mv v) (h : Q () (st.set d (.fields ({ pv with registers := mv } : PV).fs))) : Ev w b₀ c env E (setAttr (.ref a) "registers" v) (fun _ _ => True) lm st Q := ev_setattr G ha hf aP_registers hv (by rw [sP_registers]; show (19 : Nat) ≤ 100; decide) (by rw [sP_registers]; exact h)
theorem rP_pc {Q : MV → Store → Prop} (G : Gd w b₀ mean mg mb) (ha : st a = some (.inst 131 d)) (hf : st d = some (.fields pv.fs)) (h : Q pv.pc st) : Ev w b₀ c env E (getAttr (.ref a) "pc" expr) VR lm st Q := ev_getattr G ha hf aP_pc (gP_pc _) h
theorem wP_pc {Q : Unit → Store → Prop} (G : Gd w b₀ mean mg mb) (ha : st a = some (.inst 131 d)) (hf : st d = some (.fields pv.fs)) (hv : VR mv v) (h : Q () (st.set d (.fields ({ pv with pc := mv } : PV).fs))) : Ev w b₀ c env E (setAttr (.ref a) "pc" v) (fun _ _ => True) lm st Q := ev_setattr G ha hf aP_pc hv (by rw [sP_pc]; show (19 : Nat) ≤ 100; decide) (by rw [sP_pc]; exact h)
theorem rP_files {Q : MV → Store → Prop} (G : Gd w b₀ mean mg mb) (ha : st a = some (.inst 131 d)) (hf : st d = some (.fields pv.fs)) (h : Q pv.files st) : Ev w b₀ c env E (getAttr (.ref a) "files" expr) VR lm st Q := ev_getattr G ha hf aP_files (gP_files _) h
theorem wP_files {Q : Unit → Store → Prop} (G : Gd w b₀ mean mg mb) (ha : st a = some (.inst 131 d)) (hf : st d = some (.fields pv.fs)) (hv : VR mv v) (h : Q () (st.set d (.fields ({ pv with files := mv } : PV).fs))) : Ev w b₀ c env E (setAttr (.ref a) "files" v) (fun _ _ => True) lm st Q := ev_setattr G ha hf aP_files hv (by rw [sP_files]; show (19 : Nat) ≤ 100; decide) (by rw [sP_files]; exact h)
theorem rP_cwd {Q : MV → Store → Prop} (G : Gd w b₀ mean mg mb) (ha : st a = some (.inst 131 d)) (hf : st d = some (.fields pv.fs)) (h : Q pv.cwd st) : Ev w b₀ c env E (getAttr (.ref a) "cwd" expr) VR lm st Q := ev_getattr G ha hf aP_cwd (gP_cwd _) h
theorem wP_cwd {Q : Unit → Store → Prop} (G : Gd w b₀ mean mg mb) (ha : st a = some (.inst 131 d)) (hf : st d = some (.fields pv.fs)) (hv : VR mv v) (h : Q () (st.set d (.fields ({ pv with cwd := mv } : PV).fs))) : Ev w b₀ c env E (setAttr (.ref a) "cwd" v) (fun _ _ => True) lm st Q := ev_setattr G ha hf aP_cwd hv (by rw [sP_cwd]; show (19 : Nat) ≤ 100; decide) (by rw [sP_cwd]; exact h)
theorem rP_name {Q : MV → Store → Prop} (G : Gd w b₀ mean mg mb) (ha : st a = some (.inst 131 d)) (hf : st d = some (.fields pv.fs)) (h : Q pv.name st) : Ev w b₀ c env E (getAttr (.ref a) "name" expr) VR lm st Q := ev_getattr G ha hf aP_name (gP_name _) h
theorem wP_name {Q : Unit → Store → Prop} (G : Gd w b₀ mean mg mb) (ha : st a = some (.inst 131 d)) (hf : st d = some (.fields pv.fs)) (hv : VR mv v) (h : Q () (st.set d (.fields ({ pv with name := mv } : PV).fs))) : Ev w b₀ c env E (setAttr (.ref a) "name" v) (fun _ _ => True) lm st Q := ev_setattr G ha hf aP_name hv (by rw [sP_name]; show (19 : Nat) ≤ 100; decide) (by rw [sP_name]; exact h)
theorem rP_channel {Q : MV → Store → Prop} (G : Gd w b₀ mean mg mb) (ha : st a = some (.inst 131 d)) (hf : st d = some (.fields pv.fs)) (h : Q pv.channel st) : Ev w b₀ c env E (getAttr (.ref a) "channel" expr) VR lm st Q := ev_getattr G ha hf aP_channel (gP_channel _) h
theorem wP_channel {Q : Unit → Store → Prop} (G : Gd w b₀ mean mg mb) (ha : st a = some (.inst 131 d)) (hf : st d = some (.fields pv.fs)) (hv : VR mv v) (h : Q () (st.set d (.fields ({ pv with channel := mv } : PV).fs))) : Ev w b₀ c env E (setAttr (.ref a) "channel" v) (fun _ _ => True) lm st Q := ev_setattr G ha hf aP_channel hv (by rw [sP_channel]; show (19 : Nat) ≤ 100; decide) (by rw [sP_channel]; exact h)
theorem rP_killed {Q : MV → Store → Prop} (G : Gd w b₀ mean mg mb) (ha : st a = some (.inst 131 d)) (hf : st d = some (.fields pv.fs)) (h : Q pv.killed st) : Ev w b₀ c env E (getAttr (.ref a) "killed" expr) VR lm st Q := ev_getattr G ha hf aP_killed (gP_killed _) h
theorem wP_killed {Q : Unit → Store → Prop} (G : Gd w b₀ mean mg mb) (ha : st a = some (.inst 131 d)) (hf : st d = some (.fields pv.fs)) (hv : VR mv v) (h : Q () (st.set d (.fields ({ pv with killed := mv } : PV).fs))) : Ev w b₀ c env E (setAttr (.ref a) "killed" v) (fun _ _ => True) lm st Q := ev_setattr G ha hf aP_killed hv (by rw [sP_killed]; show (19 : Nat) ≤ 100; decide) (by rw [sP_killed]; exact h)
theorem rP_status {Q : MV → Store → Prop} (G : Gd w b₀ mean mg mb) (ha : st a = some (.inst 131 d)) (hf : st d = some (.fields pv.fs)) (h : Q pv.status st) : Ev w b₀ c env E (getAttr (.ref a) "status" expr) VR lm st Q := ev_getattr G ha hf aP_status (gP_status _) h
theorem wP_status {Q : Unit → Store → Prop} (G : Gd w b₀ mean mg mb) (ha : st a = some (.inst 131 d)) (hf : st d = some (.fields pv.fs)) (hv : VR mv v) (h : Q () (st.set d (.fields ({ pv with status := mv } : PV).fs))) : Ev w b₀ c env E (setAttr (.ref a) "status" v) (fun _ _ => True) lm st Q := ev_setattr G ha hf aP_status hv (by rw [sP_status]; show (19 : Nat) ≤ 100; decide) (by rw [sP_status]; exact h)
theorem rP_turns {Q : MV → Store → Prop} (G : Gd w b₀ mean mg mb) (ha : st a = some (.inst 131 d)) (hf : st d = some (.fields pv.fs)) (h : Q pv.turns st) : Ev w b₀ c env E (getAttr (.ref a) "turns" expr) VR lm st Q := ev_getattr G ha hf aP_turns (gP_turns _) h
theorem wP_turns {Q : Unit → Store → Prop} (G : Gd w b₀ mean mg mb) (ha : st a = some (.inst 131 d)) (hf : st d = some (.fields pv.fs)) (hv : VR mv v) (h : Q () (st.set d (.fields ({ pv with turns := mv } : PV).fs))) : Ev w b₀ c env E (setAttr (.ref a) "turns" v) (fun _ _ => True) lm st Q := ev_setattr G ha hf aP_turns hv (by rw [sP_turns]; show (19 : Nat) ≤ 100; decide) (by rw [sP_turns]; exact h)
theorem rT_places {Q : MV → Store → Prop} (G : Gd w b₀ mean mg mb) (ha : st a = some (.inst 274 d)) (hf : st d = some (.fields tv.fs)) (h : Q tv.places st) : Ev w b₀ c env E (getAttr (.ref a) "places" expr) VR lm st Q := ev_getattr G ha hf aT_places (gT_places _) h
theorem rT_next_pid {Q : MV → Store → Prop} (G : Gd w b₀ mean mg mb) (ha : st a = some (.inst 274 d)) (hf : st d = some (.fields tv.fs)) (h : Q tv.next_pid st) : Ev w b₀ c env E (getAttr (.ref a) "next_pid" expr) VR lm st Q := ev_getattr G ha hf aT_next_pid (gT_next_pid _) h
theorem wT_next_pid {Q : Unit → Store → Prop} (G : Gd w b₀ mean mg mb) (ha : st a = some (.inst 274 d)) (hf : st d = some (.fields tv.fs)) (hv : VR mv v) (h : Q () (st.set d (.fields ({ tv with next_pid := mv } : TV).fs))) : Ev w b₀ c env E (setAttr (.ref a) "next_pid" v) (fun _ _ => True) lm st Q := ev_setattr G ha hf aT_next_pid hv (by rw [sT_next_pid]; show (5 : Nat) ≤ 100; decide) (by rw [sT_next_pid]; exact h)
theorem rT_last {Q : MV → Store → Prop} (G : Gd w b₀ mean mg mb) (ha : st a = some (.inst 274 d)) (hf : st d = some (.fields tv.fs)) (h : Q tv.last st) : Ev w b₀ c env E (getAttr (.ref a) "last" expr) VR lm st Q := ev_getattr G ha hf aT_last (gT_last _) h
theorem wT_last {Q : Unit → Store → Prop} (G : Gd w b₀ mean mg mb) (ha : st a = some (.inst 274 d)) (hf : st d = some (.fields tv.fs)) (hv : VR mv v) (h : Q () (st.set d (.fields ({ tv with last := mv } : TV).fs))) : Ev w b₀ c env E (setAttr (.ref a) "last" v) (fun _ _ => True) lm st Q := ev_setattr G ha hf aT_last hv (by rw [sT_last]; show (5 : Nat) ≤ 100; decide) (by rw [sT_last]; exact h)
theorem rT_first {Q : MV → Store → Prop} (G : Gd w b₀ mean mg mb) (ha : st a = some (.inst 274 d)) (hf : st d = some (.fields tv.fs)) (h : Q tv.first st) : Ev w b₀ c env E (getAttr (.ref a) "first" expr) VR lm st Q := ev_getattr G ha hf aT_first (gT_first _) h
theorem wT_first {Q : Unit → Store → Prop} (G : Gd w b₀ mean mg mb) (ha : st a = some (.inst 274 d)) (hf : st d = some (.fields tv.fs)) (hv : VR mv v) (h : Q () (st.set d (.fields ({ tv with first := mv } : TV).fs))) : Ev w b₀ c env E (setAttr (.ref a) "first" v) (fun _ _ => True) lm st Q := ev_setattr G ha hf aT_first hv (by rw [sT_first]; show (5 : Nat) ≤ 100; decide) (by rw [sT_first]; exact h)
theorem rT_running {Q : MV → Store → Prop} (G : Gd w b₀ mean mg mb) (ha : st a = some (.inst 274 d)) (hf : st d = some (.fields tv.fs)) (h : Q tv.running st) : Ev w b₀ c env E (getAttr (.ref a) "running" expr) VR lm st Q := ev_getattr G ha hf aT_running (gT_running _) h
theorem wT_running {Q : Unit → Store → Prop} (G : Gd w b₀ mean mg mb) (ha : st a = some (.inst 274 d)) (hf : st d = some (.fields tv.fs)) (hv : VR mv v) (h : Q () (st.set d (.fields ({ tv with running := mv } : TV).fs))) : Ev w b₀ c env E (setAttr (.ref a) "running" v) (fun _ _ => True) lm st Q := ev_setattr G ha hf aT_running hv (by rw [sT_running]; show (5 : Nat) ≤ 100; decide) (by rw [sT_running]; exact h)
end
section
variable {w : World}
theorem mP_clear : MethOk w 131 "clear" 99 := ⟨by k_is, by k_is, by k_is, by k_is⟩
theorem nP_clear (p : PV) : fget "clear" p.fs = none := by rfl
theorem mP_is_there : MethOk w 131 "is_there" 106 := ⟨by k_is, by k_is, by k_is, by k_is⟩
theorem nP_is_there (p : PV) : fget "is_there" p.fs = none := by rfl
theorem mT_free_place : MethOk w 274 "free_place" 154 := ⟨by k_is, by k_is, by k_is, by k_is⟩
theorem nT_free_place (p : TV) : fget "free_place" p.fs = none := by rfl
theorem mT_new : MethOk w 274 "new" 162 := ⟨by k_is, by k_is, by k_is, by k_is⟩
theorem nT_new (p : TV) : fget "new" p.fs = none := by rfl
theorem mT_find : MethOk w 274 "find" 169 := ⟨by k_is, by k_is, by k_is, by k_is⟩
theorem nT_find (p : TV) : fget "find" p.fs = none := by rfl
theorem mT_all : MethOk w 274 "all" 174 := ⟨by k_is, by k_is, by k_is, by k_is⟩
theorem nT_all (p : TV) : fget "all" p.fs = none := by rfl
theorem mT_children : MethOk w 274 "children" 179 := ⟨by k_is, by k_is, by k_is, by k_is⟩
theorem nT_children (p : TV) : fget "children" p.fs = none := by rfl
theorem mT_ready : MethOk w 274 "ready" 186 := ⟨by k_is, by k_is, by k_is, by k_is⟩
theorem nT_ready (p : TV) : fget "ready" p.fs = none := by rfl
theorem mT_next : MethOk w 274 "next" 193 := ⟨by k_is, by k_is, by k_is, by k_is⟩
theorem nT_next (p : TV) : fget "next" p.fs = none := by rfl
theorem mT_fork : MethOk w 274 "fork" 208 := ⟨by k_is, by k_is, by k_is, by k_is⟩
theorem nT_fork (p : TV) : fget "fork" p.fs = none := by rfl
theorem mT_reparent : MethOk w 274 "reparent" 215 := ⟨by k_is, by k_is, by k_is, by k_is⟩
theorem nT_reparent (p : TV) : fget "reparent" p.fs = none := by rfl
theorem mT_channel_of : MethOk w 274 "channel_of" 222 := ⟨by k_is, by k_is, by k_is, by k_is⟩
theorem nT_channel_of (p : TV) : fget "channel_of" p.fs = none := by rfl
theorem mT_exit : MethOk w 274 "exit" 229 := ⟨by k_is, by k_is, by k_is, by k_is⟩
theorem nT_exit (p : TV) : fget "exit" p.fs = none := by rfl
theorem mT_reap : MethOk w 274 "reap" 236 := ⟨by k_is, by k_is, by k_is, by k_is⟩
theorem nT_reap (p : TV) : fget "reap" p.fs = none := by rfl
theorem mT_wait : MethOk w 274 "wait" 243 := ⟨by k_is, by k_is, by k_is, by k_is⟩
theorem nT_wait (p : TV) : fget "wait" p.fs = none := by rfl
theorem mT_sleep : MethOk w 274 "sleep" 250 := ⟨by k_is, by k_is, by k_is, by k_is⟩
theorem nT_sleep (p : TV) : fget "sleep" p.fs = none := by rfl
theorem mT_wakeup : MethOk w 274 "wakeup" 257 := ⟨by k_is, by k_is, by k_is, by k_is⟩
theorem nT_wakeup (p : TV) : fget "wakeup" p.fs = none := by rfl
theorem mT_kill : MethOk w 274 "kill" 264 := ⟨by k_is, by k_is, by k_is, by k_is⟩
theorem nT_kill (p : TV) : fget "kill" p.fs = none := by rfl
end
end PartM4
section PartM5
open PySem PySem.W PyProof.Rows PySem.Spec PySem.Calls
section
variable {w : World} {b₀ : Heap} {mean : ExcName → Option Value} {mg mb : Str → Option Value} {c : Cx} {env : Env} {E : Value → Shared → Prop} {lm : LM} {st : Store}

theorem vr_ref (a : Addr) : VR (.ref a) (.ref a) := rfl
theorem vr_str (x : Str) (t : Tok) : VR (.str x) (.str x t) := ⟨t, rfl⟩
theorem vr_int (x : Int) (t : Tok) : VR (.int x) (.int x t) := ⟨t, rfl⟩
end
end PartM5
section PartM6
open PySem PySem.W PyProof.Rows PySem.Spec PySem.Calls

def NF (c : Cx) (b : Addr) : Prop := ¬ ∃ e ∈ c.outer, e.frame = some b

section
variable {w : World} {b₀ : Heap} {c : Cx} {st st' : Store} {h h' h₁ : Heap} {m m' : Str → Option Value}

theorem Step.exact (x : Step c st h st' h') {b : Addr} {o : Obj} (e : h.get? b = some o) (n : st b = none) (q : b ≠ c.L) (f : NF c b) : st' b = none ∧ h'.get? b = some o := by
  obtain ⟨n', e' | ⟨z, _⟩⟩ := x b o e n q
  · exact ⟨n', e'⟩
  · exact absurd z f

theorem funFrames_at {base : Heap} : ∀ {l : List Env}, (∀ e ∈ l, ∀ b o, e.frame = some b → h.get? b = some o → ∃ o', h'.get? b = some o' ∧ o'.data = o.data) → h.FunFrames base l → h'.FunFrames base l
  | [], _, _ => trivial
  | e :: l, k, ⟨hk, ⟨L', o, hfr, hn, ho, hd⟩, hr⟩ => by
    (first | refine e0a3 (fun o' ho' hd' => ?_) (k e (.head _) L' o hfr ho) | refine e1a2 (fun o' ho' hd' => ?_) (k e (.head _) L' o hfr ho) | refine e2a1 (fun o' ho' hd' => ?_) (k e (.head _) L' o hfr ho) | obtain ⟨o', ho', hd'⟩ := k e (.head _) L' o hfr ho)
    exact ⟨hk, ⟨L', o', hfr, hn, ho', fun vs z => hd vs (by rw [← hd', z])⟩, funFrames_at (fun e' he' => k e' (.tail _ he')) hr⟩

theorem In.outer_there (I : In w b₀ c st h m) {e : Env} (he : e ∈ c.outer) {b : Addr} (hf : e.frame = some b) : ∃ o, h.get? b = some o := by
  have key : ∀ l : List Env, h.FunFrames b₀ l → ∀ e ∈ l, e.frame = some b → ∃ o, h.get? b = some o := by
    intro l
    induction l with
    | nil => intro _ e he; cases he
    | cons e l ih =>
      intro hfr e' he' hf'
      obtain ⟨_, ⟨L'', o, hfr', _, ho, _⟩, hr⟩ := hfr
      rcases List.mem_cons.mp he' with rfl | z
      · rw [hfr'] at hf'; cases hf'; exact ⟨o, ho⟩
      · exact ih hr e' z hf'
  exact key _ I.ff e he hf
theorem In.fresh (I : In w b₀ c st h m) {b : Addr} (hb : h.get? b = none) : st b = none ∧ b ≠ c.L ∧ NF c b ∧ b₀.get? b = none := by
  refine ⟨?_, ?_, ?_, ?_⟩
  · cases q : st b with
    | none => rfl
    | some mo => obtain ⟨_, e, _⟩ := I.rep b mo q; rw [hb] at e; cases e
  · intro q; obtain ⟨oL, _, _, hL, _⟩ := I.fr.ns; rw [q, hL] at hb; cases hb
  · rintro ⟨e, he, hf⟩; obtain ⟨o, ho⟩ := I.outer_there he hf; rw [hb] at ho; cases ho
  · cases q : b₀.get? b with
    | none => rfl
    | some o => rw [I.fr.keep b o q] at hb; cases hb
theorem In.push (I : In w b₀ c st h m) (o : Obj) : In w b₀ c st (h.push o) m ∧ Step c st h st (h.push o) :=
  I.same (I.fr.push o) fun b ob _ e => Heap.get?_push_of_some o e
/-- something outside the store, above the base, turned -/
theorem In.other (I : In w b₀ c st h m) {X : Addr} (hX : st X = none) (hL : X ≠ c.L) (hf : NF c X) (hb : b₀.get? X = none) (hs : Heap.ExtBut X h h') : In w b₀ c st h' m := by
  (first | refine e3a3 (fun oL es ep hoL hd hr => ?_) (I.fr.ns) | obtain ⟨oL, es, ep, hoL, hd, hr⟩ := I.fr.ns)
  refine ⟨⟨⟨oL, es, ep, hs _ _ (Ne.symm hL) hoL, hd, hr⟩, fun b o e => hs b o (fun q => by rw [q, hb] at e; cases e) (I.fr.keep b o e), I.fr.above⟩, fun a mo e => ?_, funFrames_at (fun e he b o hf' ho => ⟨o, hs b o (fun q => hf ⟨e, he, q ▸ hf'⟩) ho, rfl⟩) I.ff, I.nf, I.big⟩
  · (first | refine e0a3 (fun o h1 r => ?_) (I.rep a mo e) | refine e1a2 (fun o h1 r => ?_) (I.rep a mo e) | refine e2a1 (fun o h1 r => ?_) (I.rep a mo e) | obtain ⟨o, h1, r⟩ := I.rep a mo e)
    exact ⟨o, hs a o (fun q => by rw [q, hX] at e; cases e) h1, r⟩
theorem Step.other (x : Step c st h st' h') {X : Addr} (hX : h.get? X = none) (hs : Heap.ExtBut X h' h₁) : Step c st h st' h₁ := fun b o e n q => by
  obtain ⟨n', z⟩ := x b o e n q
  have : b ≠ X := fun z => by rw [z, hX] at e; cases e
  exact ⟨n', z.imp (fun e' => hs b o this e') fun ⟨f, sl, e'⟩ => ⟨f, sl, hs b _ this e'⟩⟩
end

section
variable {w : World} {b₀ : Heap} {mean : ExcName → Option Value} {mg mb : Str → Option Value} {c : Cx} {env : Env} {E : Value → Shared → Prop} {lm : LM} {st : Store}

theorem sees_other {c : Cx} {env : Env} {st : Store} {h h' : Heap} {m : Str → Option Value} {lm : LM} {X : Addr} (S : Sees c env st h m lm) (hs : Heap.ExtBut X h h') (hl : env.locals ≠ X) (hc : ∀ x a, env.cells.lookup x = some a → a ≠ X) : Sees c env st h' m lm := by
  intro x mv e
  (first | refine e0a3 (fun v hv z => ?_) (S x mv e) | refine e1a2 (fun v hv z => ?_) (S x mv e) | refine e2a1 (fun v hv z => ?_) (S x mv e) | obtain ⟨v, hv, z⟩ := S x mv e)
  refine ⟨v, hv, ?_⟩
  rcases z with z | ⟨k, hL, hs', m₂, ⟨o, es, ep, ho, hd, r⟩, hm⟩ | ⟨k, a, hl', hL, hs', o, ho, hd⟩
  · exact .inl z
  · exact .inr (.inl ⟨k, hL, hs', m₂, ⟨o, es, ep, hs _ _ hl ho, hd, r⟩, hm⟩)
  · exact .inr (.inr ⟨k, a, hl', hL, hs', o, hs _ _ (hc x a hl') ho, hd⟩)

/-- what the loop asks of a turn's end -/
def Turn (J : LM → Store → Prop) (Q : MF → LM → Store → Prop) (f : MF) (lm : LM) (st : Store) : Prop := match f with
  | .next => J lm st
  | .cont => J lm st
  | .brk => False
  | .ret v => Q (.ret v) lm st

/-- a thing that is no cell turned -/
theorem Sees.cut {c : Cx} {env : Env} {st : Store} {h h' : Heap} {m : Str → Option Value} {lm : LM} {X : Addr} (S : Sees c env st h m lm) (lo : env.locals = c.L) (hs : Heap.ExtBut X h h') (hX : ∀ v, ¬ h.IsCell X v) : Sees c env st h' m lm := by
  intro y mv e
  (first | refine e0a3 (fun v hv z => ?_) (S y mv e) | refine e1a2 (fun v hv z => ?_) (S y mv e) | refine e2a1 (fun v hv z => ?_) (S y mv e) | obtain ⟨v, hv, z⟩ := S y mv e)
  refine ⟨v, hv, ?_⟩
  rcases z with z | ⟨k, hL, _⟩ | ⟨k, a, hl', hL, hs'', o, ho, hd⟩
  · exact .inl z
  · exact absurd lo hL
  · exact .inr (.inr ⟨k, a, hl', hL, hs'', o, hs _ _ (fun q => hX v (by rw [← q]; exact ⟨o, ho, hd⟩)) ho, hd⟩)
theorem noCell_li {h : Heap} {X l : Addr} {i : Nat} (H : h.IsListIter X l i) (v : Option Value) : ¬ h.IsCell X v := by
  rintro ⟨o, ho, hd⟩
  (first | refine e0a4 (fun oi hoi _ hdi => ?_) (H) | refine e1a3 (fun oi hoi _ hdi => ?_) (H) | refine e2a2 (fun oi hoi _ hdi => ?_) (H) | obtain ⟨oi, hoi, _, hdi⟩ := H); try clear H
  rw [ho] at hoi; cases hoi
  rw [hd] at hdi; cases hdi
theorem noCell_ri {h : Heap} {X : Addr} {a b k : Int} (H : IsRangeIter h X a b k) (v : Option Value) : ¬ h.IsCell X v := by
  rintro ⟨o, ho, hd⟩
  rw [H] at ho; cases ho
  cases hd
theorem noCell_ns {h : Heap} {X : Addr} {mC : Str → Option Value} (H : h.Ns X mC) (v : Option Value) : ¬ h.IsCell X v := by
  rintro ⟨o, ho, hd⟩
  (first | refine e3a3 (fun oc _ _ hoc hdc _ => ?_) (H) | obtain ⟨oc, _, _, hoc, hdc, _⟩ := H); try clear H
  rw [ho] at hoc; cases hoc
  rw [hd] at hdc; cases hdc
theorem noCell_pl {h : Heap} {X : Addr} {ys : Array Value} (H : h.PlainList X ys) (v : Option Value) : ¬ h.IsCell X v := by
  rintro ⟨o, ho, hd⟩
  obtain ⟨nl, hol⟩ := H
  rw [ho] at hol; cases hol
  cases hd
structure LI0 (w : World) (b₀ : Heap) (c : Cx) (env : Env) (st₁ : Store) (h₁ : Heap) (X l : Addr) (vs : List MV) (J : Nat → LM → Store → Prop) (i : Nat) (h' : Heap) (m' : Str → Option Value) (st' : Store) (lm' : LM) : Prop where
  I : In w b₀ c st' h' m'
  T : Step c st₁ h₁ st' h'
  S : Sees c env st' h' m' lm'
  hit : h'.IsListIter X l i
  hn : st' X = none
  hJ : J i lm' st'
  hl : st' l = some (.list vs)
  hi : i ≤ vs.length
def LI (w : World) (b₀ : Heap) (c : Cx) (env : Env) (s : Shared) (st₁ : Store) (h₁ : Heap) (X l : Addr) (vs : List MV) (J : Nat → LM → Store → Prop) (j : Nat) (s' : Shared) : Prop :=
  ∃ i h' tk' m' st' lm', s' = { s with heap := h', toks := tk' } ∧ j = vs.length + 1 - i ∧ LI0 w b₀ c env st₁ h₁ X l vs J i h' m' st' lm'
theorem LI.elim {s : Shared} {st₁ : Store} {h₁ : Heap} {X l : Addr} {vs : List MV} {J : Nat → LM → Store → Prop} {P : Nat → Shared → Prop}
    (f : ∀ i h' tk' m' st' lm', LI0 w b₀ c env st₁ h₁ X l vs J i h' m' st' lm' → P (vs.length + 1 - i) { s with heap := h', toks := tk' }) : ∀ j s', LI w b₀ c env s st₁ h₁ X l vs J j s' → P j s' := by
  rintro j s' ⟨i, h', tk', m', st', lm', rfl, rfl, L⟩; exact f i h' tk' m' st' lm' L

theorem ex_forList {n : Nat} {x : Str} {xp pos : Pos} {iter : Expr} {body rest : List Stmt} {Q : MF → LM → Store → Prop} (hc : c.OK n) (he : env = c.env) (hh : c.hd = none)
    (h : Ev w b₀ c env E (eval iter env) VR lm st fun a st₁ => ∃ l vs, a = .ref l ∧ st₁ l = some (.list vs) ∧ ∃ J : Nat → LM → Store → Prop, J 0 lm st₁ ∧
      (∀ i v lm' st', vs[i]? = some v → J i lm' st' → st' l = some (.list vs) → ∀ E', Ex w b₀ c env E' (execs body env) (lm'.set x v) st' (Turn (fun l' s' => J (i + 1) l' s' ∧ s' l = some (.list vs)) Q)) ∧
      ∀ lm' st', J vs.length lm' st' → st' l = some (.list vs) → Ex w b₀ c env E (execs rest env) lm' st' Q)
    (hx : env.kindOf x = some .local := by rfl) (hs : ∀ x, foldedSetIterable iter env x = pure x := by intro _; rfl) (ht : ∀ it v, letOwnedTupleGo (.Name x xp) it v = pure () := by intro _ _; rfl) :
    Ex w b₀ c env E (execs (.For (.Name x xp) iter body [] pos :: rest) env) lm st Q := ex_cons fun s m P I S k => by
  refine wpAny_For (h s m _ I S fun v a h₁ tk st₁ I₁ T₁ hr q => ?_) hs
  obtain ⟨l, vs, rfl, hl, J, hJ, turn, done⟩ := q
  cases hr
  obtain ⟨ol, hol, ⟨its, nl, rfl, hall⟩, hlL, _⟩ := I₁.rep l _ hl
  refine wpAny_pyIter_list (s := { s with heap := h₁, toks := tk }) ⟨_, hol, rfl, nl, rfl⟩ ?_
  have hX : h₁.get? h₁.objs.size = none := Heap.get?_none_of_le (Nat.le_refl _)
  (first | refine e0a4 (fun fX1 fX2 fX3 fX4 => ?_) (I₁.fresh hX) | refine e1a3 (fun fX1 fX2 fX3 fX4 => ?_) (I₁.fresh hX) | refine e2a2 (fun fX1 fX2 fX3 fX4 => ?_) (I₁.fresh hX) | obtain ⟨fX1, fX2, fX3, fX4⟩ := I₁.fresh hX)
  obtain ⟨I₂, T₂⟩ := I₁.push { cls := .type "list_iterator", data := .fields #[.ref l, .int 0 0] }
  have S₂ := (S.step T₁).step T₂
  refine codeAny_forLoop (LI w b₀ c env s st₁ h₁ h₁.objs.size l vs J) ?_ (vs.length + 1) ⟨0, _, _, m, st₁, lm, rfl, rfl, I₂, T₂, S₂, ⟨_, Heap.get?_push_size _ rfl, rfl, rfl⟩, fX1, hJ, hl, Nat.zero_le _⟩ (ht _)
  refine LI.elim fun i h' tk' m' st' lm' L => ?_
  have I' := L.I; have T' := L.T; have S' := L.S; have hit := L.hit; have hn := L.hn; have hl' := L.hl; have hi := L.hi
  obtain ⟨ol', hol', ⟨its', nl', rfl, hall'⟩, hlL', _⟩ := I'.rep l _ hl'
  have hL' : h'.IsList l its' := ⟨_, hol', rfl, nl', rfl⟩
  have len : its'.size = vs.length := by rw [← Array.length_toList, ← hall'.length]
  have seesX : ∀ {h'' : Heap}, Heap.ExtBut h₁.objs.size h' h'' → Sees c env st' h'' m' lm' := fun {h''} hs' => S'.cut (by rw [he]; exact hc.lo) hs' (noCell_li hit)
  cases hv : vs[i]? with
  | none =>
    have hiv : i = vs.length := Nat.le_antisymm hi (List.getElem?_eq_none_iff.mp hv)
    refine wpAny_pyNext_list_end (show c.A.handled = none from hh) hit hL' (Array.getElem?_eq_none_iff.mpr (by omega)) fun h₃ e₃ => ?_
    have I₃ := I'.other hn fX2 fX3 fX4 e₃
    subst hiv
    exact wpAny_execs_nil (k .next .next h₃ tk' m' st' lm' I₃ (T₁.trans (T'.other hX e₃)) (seesX e₃) rfl (done lm' st' L.hJ hl'))
  | some v =>
    have hlt : i < vs.length := (List.getElem?_eq_some_iff.mp hv).1
    (first | refine e0a3 (fun x' hx' hvr => ?_) (hall'.get hv) | refine e1a2 (fun x' hx' hvr => ?_) (hall'.get hv) | refine e2a1 (fun x' hx' hvr => ?_) (hall'.get hv) | obtain ⟨x', hx', hvr⟩ := hall'.get hv)
    refine wpAny_pyNext_list_item hit hL' (by rw [← Array.getElem?_toList]; exact hx') fun h₃ hit₃ s₃ => ?_
    have I₃ := I'.other hn fX2 fX3 fX4 s₃.extBut
    refine wpAny_assign_Name (ex_store hc he hx I₃ (seesX s₃.extBut) hvr fun h₄ tk₄ m₄ I₄ T₄ S₄ => ?_)
    refine turn i v lm' st' hv L.hJ hl' _ _ m₄ _ I₄ S₄ fun f z h₅ tk₅ m₅ st₅ lm₅ I₅ T₅ S₅ hf q => ?_
    have T₆ : Step c st₁ h₁ st₅ h₅ := ((T'.other hX s₃.extBut).trans T₄).trans T₅
    have key : J (i + 1) lm₅ st₅ ∧ st₅ l = some (.list vs) → ∃ m, m < vs.length + 1 - i ∧ LI w b₀ c env s st₁ h₁ h₁.objs.size l vs J m { s with heap := h₅, toks := tk₅ } := fun q => by
      (first | refine e0a4 (fun oi hoi hci hdi => ?_) (hit₃) | refine e1a3 (fun oi hoi hci hdi => ?_) (hit₃) | refine e2a2 (fun oi hoi hci hdi => ?_) (hit₃) | obtain ⟨oi, hoi, hci, hdi⟩ := hit₃); try clear hit₃
      have e₄ := (T₄ _ _ hoi hn fX2).2
      obtain ⟨n₄, e₄⟩ := T₄.exact hoi hn fX2 fX3
      obtain ⟨n₅, e₅⟩ := T₅.exact e₄ n₄ fX2 fX3
      exact ⟨vs.length + 1 - (i + 1), by omega, i + 1, h₅, tk₅, m₅, st₅, lm₅, rfl, rfl, I₅, T₆, S₅, ⟨oi, e₅, hci, hdi⟩, n₅, q.1, q.2, hlt⟩
    cases z with
    | next => cases hf; exact key q
    | cont => cases hf; exact key q
    | brk => exact q.elim
    | ret mv => obtain ⟨vv, hvv, rfl⟩ := hf; exact k (.ret vv) (.ret mv) h₅ tk₅ m₅ st₅ lm₅ I₅ (T₁.trans T₆) S₅ ⟨vv, hvv, rfl⟩ q

/-- a built-in's name -/
theorem wp_bname {x : Str} {pos : Pos} {v : Value} {s : Shared} {m : Str → Option Value} {P : Value → Shared → Prop} (G : Gd w b₀ mean mg mb) (I : In w b₀ c st s.heap m) (hg : env.globals = mainGlobals) (hb : env.builtins = builtinsNs) (hk : env.scope.kind = .function)
    (e : nsIn (heapK w.params) mainGlobals x = some none) (hv : bootBuiltins x = some v) (hn : x ≠ "__name__") (hx : env.kindOf x = some .globalImplicit) (hd : (x == ("__debug__" : Str)) = false) (h : P v s) :
    wpAny (model PG w) c.A (eval (.Name x pos) env) P E s :=
  Name_function_global hk hx (loadGlobal_builtin (env := env) (hg ▸ G.T.g.keeps I.fr.keep) (mg_none_of G.X G.T.g e) (hb ▸ G.T.b.keeps I.fr.keep) ((G.T.builtins x hn).trans hv) h) hd

structure RI0 (w : World) (b₀ : Heap) (c : Cx) (env : Env) (st₁ : Store) (H : Heap) (X : Addr) (a : Int) (N : Nat) (J : Nat → LM → Store → Prop) (i : Nat) (h' : Heap) (m' : Str → Option Value) (st' : Store) (lm' : LM) : Prop where
  I : In w b₀ c st' h' m'
  T : Step c st₁ H st' h'
  S : Sees c env st' h' m' lm'
  hit : IsRangeIter h' X (a + (i : Nat)) ((N : Int) - (i : Nat)) 1
  hn : st' X = none
  hJ : J i lm' st'
  hi : i ≤ N
def RI (w : World) (b₀ : Heap) (c : Cx) (env : Env) (s : Shared) (st₁ : Store) (H : Heap) (X : Addr) (a : Int) (N : Nat) (J : Nat → LM → Store → Prop) (j : Nat) (s' : Shared) : Prop :=
  ∃ i h' tk' m' st' lm', s' = { s with heap := h', toks := tk' } ∧ j = N + 1 - i ∧ RI0 w b₀ c env st₁ H X a N J i h' m' st' lm'
theorem RI.elim {s : Shared} {st₁ : Store} {H : Heap} {X : Addr} {a : Int} {N : Nat} {J : Nat → LM → Store → Prop} {P : Nat → Shared → Prop}
    (f : ∀ i h' tk' m' st' lm', RI0 w b₀ c env st₁ H X a N J i h' m' st' lm' → P (N + 1 - i) { s with heap := h', toks := tk' }) : ∀ j s', RI w b₀ c env s st₁ H X a N J j s' → P j s' := by
  rintro j s' ⟨i, h', tk', m', st', lm', rfl, rfl, L⟩; exact f i h' tk' m' st' lm' L

theorem ex_forRange {n : Nat} {x : Str} {xp pos np rp : Pos} {e : Expr} {es : List Expr} {body rest : List Stmt} {Q : MF → LM → Store → Prop} (G : Gd w b₀ mean mg mb) (hc : c.OK n) (he : env = c.env) (hh : c.hd = none)
    (hr : nsIn (heapK w.params) mainGlobals "range" = some none)
    (h : Ev w b₀ c env E (spliced (backTo rp (starEach (e :: es) env))) (All2 VR) lm st fun as st₁ => ∃ a b : Int, (as = [.int b] ∧ a = 0 ∨ as = [.int a, .int b]) ∧ -(2 ^ 62) ≤ a ∧ a < 2 ^ 62 ∧ -(2 ^ 62) ≤ b ∧ b < 2 ^ 62 ∧ ∃ J : Nat → LM → Store → Prop, J 0 lm st₁ ∧
      (∀ i lm' st', i < (b - a).toNat → J i lm' st' → ∀ E', Ex w b₀ c env E' (execs body env) (lm'.set x (.int (a + i))) st' (Turn (J (i + 1)) Q)) ∧
      ∀ lm' st', J (b - a).toNat lm' st' → Ex w b₀ c env E (execs rest env) lm' st' Q)
    (hx : env.kindOf x = some .local := by rfl) (hxr : env.kindOf "range" = some .globalImplicit := by rfl) (hes : starEach (e :: es) env = (false, eval e env) :: starEach es env := by rfl) (hpl : (backTo rp (starEach es env)).any (·.1) = false := by rfl)
    (hca : eval (.Call (.Name "range" np) (e :: es) [] rp) env = (do callWith rp (← eval (.Name "range" np) env) [] (backTo rp (starEach (e :: es) env)) (backToKw rp (keywordEach [] env))) := by rfl)
    (hs : ∀ x, foldedSetIterable (.Call (.Name "range" np) (e :: es) [] rp) env x = pure x := by intro _; rfl) (ht : ∀ it v, letOwnedTupleGo (.Name x xp) it v = pure () := by intro _ _; rfl) :
    Ex w b₀ c env E (execs (.For (.Name x xp) (.Call (.Name "range" np) (e :: es) [] rp) body [] pos :: rest) env) lm st Q := ex_cons fun s m P I S k => by
  refine wpAny_For (Call_ (wp_bname G I (by rw [he]; exact hc.gl) (by rw [he]; exact hc.bi) (by rw [he]; exact hc.k) hr boot_range (by decide) hxr (by decide) (callWith_type1 (h s m _ I S fun v as h₁ tk st₁ I₁ T₁ hrv q => ?_) hes hpl)) hca) hs
  obtain ⟨a, b, has, a1, a2, b1, b2, J, hJ, turn, done⟩ := q
  have size := rangeSize_nat a b
  -- from the range on
  have go : ∀ (t u t' : Tok) (tk₀ : Nat), wpAny (model PG w) c.A (pyIter (.ref h₁.objs.size)) (fun it s₂ => codeAny (model PG w) c.A (.forLoop (.Name x xp) it body [] env) (fun r s' => match r with | .ok f => P f s' | .error e => cameBackBy (model PG w) c.A env E e s') s₂) E
      { s with heap := h₁.push { cls := .type "range", data := .fields #[.int a t, .int b u, .int 1 t'] }, toks := tk₀ } := by
    intro t u t' tk₀
    obtain ⟨I₁', T₁'⟩ := I₁.push { cls := .type "range", data := .fields #[.int a t, .int b u, .int 1 t'] }
    refine wpAny_pyIter_range (s := { s with heap := h₁.push { cls := .type "range", data := .fields #[.int a t, .int b u, .int 1 t'] }, toks := tk₀ }) (IsRange.new ..) (small_one a1 a2 b1 b2) ?_
    rw [size]
    generalize hH : h₁.push { cls := .type "range", data := .fields #[.int a t, .int b u, .int 1 t'] } = H at I₁' T₁' ⊢
    have hX : H.get? H.objs.size = none := Heap.get?_none_of_le (Nat.le_refl _)
    (first | refine e0a4 (fun fX1 fX2 fX3 fX4 => ?_) (I₁'.fresh hX) | refine e1a3 (fun fX1 fX2 fX3 fX4 => ?_) (I₁'.fresh hX) | refine e2a2 (fun fX1 fX2 fX3 fX4 => ?_) (I₁'.fresh hX) | obtain ⟨fX1, fX2, fX3, fX4⟩ := I₁'.fresh hX)
    obtain ⟨I₂, T₂⟩ := I₁'.push { cls := .type "range_iterator", data := .fields #[rawInt a, rawInt (((b - a).toNat : Nat) : Int), rawInt 1] }
    have S₂ := ((S.step T₁).step T₁').step T₂
    refine codeAny_forLoop (RI w b₀ c env s st₁ H H.objs.size a (b - a).toNat J) ?_ ((b - a).toNat + 1) ⟨0, _, _, m, st₁, lm, rfl, rfl, I₂, T₂, S₂, by simpa using Heap.get?_push_size _ rfl, fX1, hJ, Nat.zero_le _⟩ (ht _)
    refine RI.elim fun i h' tk' m' st' lm' L => ?_
    have I' := L.I; have T' := L.T; have S' := L.S; have hit := L.hit; have hn := L.hn; have hi := L.hi
    have seesX : ∀ {h'' : Heap}, Heap.ExtBut H.objs.size h' h'' → Sees c env st' h'' m' lm' := fun {h''} hs' => S'.cut (by rw [he]; exact hc.lo) hs' (noCell_ri hit)
    by_cases hlt : i < (b - a).toNat
    · refine wpAny_pyNext_range_item hit (by omega) fun h₃ hit₃ s₃ => ?_
      have I₃ := I'.other hn fX2 fX3 fX4 s₃.extBut
      refine wpAny_assign_Name (ex_store (mv := .int (a + i)) hc he hx I₃ (seesX s₃.extBut) ⟨_, rfl⟩ fun h₄ tk₄ m₄ I₄ T₄ S₄ => ?_)
      refine turn i lm' st' hlt L.hJ _ _ m₄ _ I₄ S₄ fun f z h₅ tk₅ m₅ st₅ lm₅ I₅ T₅ S₅ hf q => ?_
      have T₆ : Step c st₁ H st₅ h₅ := ((T'.other hX s₃.extBut).trans T₄).trans T₅
      have key : J (i + 1) lm₅ st₅ → ∃ m, m < (b - a).toNat + 1 - i ∧ RI w b₀ c env s st₁ H H.objs.size a (b - a).toNat J m { s with heap := h₅, toks := tk₅ } := fun q => by
        obtain ⟨n₄, e₄⟩ := T₄.exact hit₃ hn fX2 fX3
        obtain ⟨n₅, e₅⟩ := T₅.exact e₄ n₄ fX2 fX3
        refine ⟨(b - a).toNat + 1 - (i + 1), by omega, i + 1, h₅, tk₅, m₅, st₅, lm₅, rfl, rfl, I₅, T₆, S₅, ?_, n₅, q, hlt⟩
        have e1 : a + ((i + 1 : Nat) : Int) = a + (i : Int) + 1 := by omega
        have e2 : (((b - a).toNat : Nat) : Int) - ((i + 1 : Nat) : Int) = (((b - a).toNat : Nat) : Int) - (i : Int) - 1 := by omega
        rw [e1, e2]; exact e₅
      cases z with
      | next => cases hf; exact key q
      | cont => cases hf; exact key q
      | brk => exact q.elim
      | ret mv => obtain ⟨vv, hvv, rfl⟩ := hf; exact k (.ret vv) (.ret mv) h₅ tk₅ m₅ st₅ lm₅ I₅ ((T₁.trans T₁').trans T₆) S₅ ⟨vv, hvv, rfl⟩ q
    · have hiv : i = (b - a).toNat := by omega
      refine wpAny_pyNext_range_end (show c.A.handled = none from hh) hit (by omega) fun h₃ e₃ => ?_
      have I₃ := I'.other hn fX2 fX3 fX4 e₃
      subst hiv
      exact wpAny_execs_nil (k .next .next h₃ tk' m' st' lm' I₃ ((T₁.trans T₁').trans (T'.other hX e₃)) (seesX e₃) rfl (done lm' st' L.hJ))
  rcases has with ⟨rfl, rfl⟩ | rfl
  · cases hrv with
    | cons r1 r2 =>
      cases r2
      obtain ⟨t, rfl⟩ := r1
      exact call_range_1 (s := { s with heap := h₁, toks := tk }) (go _ _ _ _)
  · cases hrv with
    | cons r1 r2 =>
      cases r2 with
      | cons r2 r3 =>
        cases r3
        obtain ⟨t, rfl⟩ := r1
        obtain ⟨u, rfl⟩ := r2
        exact call_range_2 (s := { s with heap := h₁, toks := tk }) (go _ _ _ _)
end
end PartM6
section PartM7
open PySem PySem.W PyProof.Rows PySem.Spec PySem.Calls

theorem lookup_relabel_free {env : Env} (hk : env.scope.kind = .function) : ∀ {names : List (Str × NameKind)} {x : Str}, names.lookup x = some .free → env.kindOf x = some .cell →
    (names.map fun (n, k) => if (k == NameKind.free && env.scope.kind == .function && env.kindOf n == some .cell) then (n, NameKind.cell) else (n, k)).lookup x = some .cell
  | [], _, h, _ => by simp at h
  | (n, k) :: r, x, h, hc => by
    have ih := @lookup_relabel_free env hk r x
    show List.lookup x ((if (k == NameKind.free && env.scope.kind == .function && env.kindOf n == some .cell) = true then (n, NameKind.cell) else (n, k)) :: _) = _
    cases hx : x == n with
    | true =>
      have e : x = n := eq_of_beq hx
      simp only [List.lookup_cons, hx] at h
      cases h
      subst e
      rw [hk, hc]
      simp
    | false =>
      simp only [List.lookup_cons, hx] at h
      split <;> (simp only [List.lookup_cons, hx]; exact ih h hc)

section
variable {w : World} {b₀ : Heap} {mean : ExcName → Option Value} {mg mb : Str → Option Value} {c : Cx} {env : Env} {E : Value → Shared → Prop} {lm : LM} {st : Store}

/-- an object that stood outside the store is taken into it -/
theorem In.adopt {st : Store} {h : Heap} {m : Str → Option Value} (I : In w b₀ c st h m) {x : Addr} {o : Obj} {mo : MO} (hn : st x = none) (hL : x ≠ c.L) (hf : NF c x) (hb : Above b₀ x) (ho : h.get? x = some o) (hr : OR w mo o) : In w b₀ c (st.set x mo) h m := by
  refine ⟨I.fr, fun a mo₁ e => ?_, I.ff, fun e he L' hf' => ?_, ?_⟩
  · by_cases q : a = x
    · subst q; rw [Store.set_self] at e; cases e; exact ⟨o, ho, hr, hL, hb⟩
    · rw [Store.set_ne _ _ q] at e; exact I.rep a mo₁ e
  · have : L' ≠ x := fun q => hf ⟨e, he, q ▸ hf'⟩
    rw [Store.set_ne _ _ this]; exact I.nf e he L' hf'
  · exact I.big
theorem Step.adopt {st st' : Store} {h h' : Heap} (x : Step c st h st' h') {a : Addr} {mo : MO} (ha : h.get? a = none) : Step c st h (st'.set a mo) h' := fun b o e n q => by
  obtain ⟨n', z⟩ := x b o e n q
  have : b ≠ a := fun z => by rw [z, ha] at e; cases e
  exact ⟨by rw [Store.set_ne _ _ this]; exact n', z⟩

/-- an iterator's word: its n items, one after the other; It is kept while the store keeps what it hangs on -/
structure IterOk (w : World) (b₀ : Heap) (c : Cx) (I : Addr) (N : Nat) (val : Nat → MV) (Kp : Store → Prop) (It : Nat → Heap → Prop) : Prop where
  item : ∀ i (s : Shared) st m P E, i < N → It i s.heap → In w b₀ c st s.heap m → Kp st → (∀ x h' tk, VR (val i) x → It (i + 1) h' → Heap.ExtBut I s.heap h' → P (some x) { s with heap := h', toks := tk }) → wpAny (model PG w) c.A (pyNext (.ref I)) P E s
  done : ∀ (s : Shared) st m P E, It N s.heap → In w b₀ c st s.heap m → Kp st → (∀ h', Heap.ExtBut I s.heap h' → P none { s with heap := h' }) → wpAny (model PG w) c.A (pyNext (.ref I)) P E s
  self : ∀ (s : Shared) P E, It 0 s.heap → P (.ref I) s → wpAny (model PG w) c.A (pyIter (.ref I)) P E s
  at_ : ∀ i h h', It i h → (∀ o, h.get? I = some o → h'.get? I = some o) → It i h'
  there : ∀ i h, It i h → ∃ o, h.get? I = some o

theorem iter_list {I l : Addr} {vs : List MV} (hh : c.hd = none) : IterOk w b₀ c I vs.length (fun i => vs.getD i .none) (fun st => st l = some (.list vs)) (fun i h => h.IsListIter I l i) where
  item := fun i s st m P E hi hit II hl k => by
    obtain ⟨ol, hol, ⟨its, nl, rfl, hall⟩, _⟩ := II.rep l _ hl
    have hv : vs[i]? = some (vs.getD i .none) := by simp [List.getD_eq_getElem?_getD, hi]
    (first | refine e0a3 (fun x' hx' hvr => ?_) (hall.get hv) | refine e1a2 (fun x' hx' hvr => ?_) (hall.get hv) | refine e2a1 (fun x' hx' hvr => ?_) (hall.get hv) | obtain ⟨x', hx', hvr⟩ := hall.get hv)
    exact wpAny_pyNext_list_item hit ⟨_, hol, rfl, nl, rfl⟩ (by rw [← Array.getElem?_toList]; exact hx') fun h' hit' hs => k x' h' _ hvr hit' hs.extBut
  done := fun s st m P E hit II hl k => by
    obtain ⟨ol, hol, ⟨its, nl, rfl, hall⟩, _⟩ := II.rep l _ hl
    exact wpAny_pyNext_list_end (show c.A.handled = none from hh) hit ⟨_, hol, rfl, nl, rfl⟩ (Array.getElem?_eq_none_iff.mpr (by rw [← Array.length_toList, ← hall.length]; exact Nat.le_refl _)) k
  self := fun s P E hit k => wpAny_pyIter_listiter hit k
  at_ := fun i h h' ⟨o, ho, r⟩ k => ⟨o, k o ho, r⟩
  there := fun i h ⟨o, ho, _⟩ => ⟨o, ho⟩

def lmC (x : Str) (v : MV) (lmF : LM) : LM := fun y => if y = x then some v else lmF y

structure CO (c : Cx) (env : Env) (st : Store) (h₀ : Heap) (m : Str → Option Value) (lm : LM) (I D C : Addr) (It : Nat → Heap → Prop) (i : Nat) (h' : Heap) (st' : Store) (ys : Array Value) (mC : Str → Option Value) : Prop where
  T : Step c st h₀ st' h'
  S : Sees c env st' h' m lm
  it : It i h'
  nI : st' I = none
  nD : st' D = none
  nC : st' C = none
  pl : h'.PlainList D ys
  ns : h'.Ns C mC
structure CI0 (w : World) (b₀ : Heap) (c : Cx) (env : Env) (st : Store) (h₀ : Heap) (m : Str → Option Value) (lm : LM) (I D C : Addr) (It : Nat → Heap → Prop) (J : Nat → List MV → Store → Prop) (N i : Nat) (h' : Heap) (st' : Store) (acc : List MV) (ys : Array Value) (mC : Str → Option Value) : Prop where
  O : CO c env st h₀ m lm I D C It i h' st' ys mC
  I : In w b₀ c st' h' m
  all : All2 VR acc ys.toList
  len : acc.length ≤ i
  hJ : J i acc st'
  hi : i ≤ N
def CI (w : World) (b₀ : Heap) (c : Cx) (env : Env) (st : Store) (h₀ : Heap) (m : Str → Option Value) (lm : LM) (I D C : Addr) (It : Nat → Heap → Prop) (J : Nat → List MV → Store → Prop) (N : Nat) (s : Shared) (j : Nat) (s' : Shared) : Prop :=
  ∃ i h' tk' st' acc ys mC, s' = { s with heap := h', toks := tk' } ∧ j = N + 1 - i ∧ CI0 w b₀ c env st h₀ m lm I D C It J N i h' st' acc ys mC
theorem CI.elim {h₀ : Heap} {m : Str → Option Value} {I D C : Addr} {It : Nat → Heap → Prop} {J : Nat → List MV → Store → Prop} {N : Nat} {s : Shared} {P : Nat → Shared → Prop}
    (f : ∀ i h' tk' st' acc ys mC, CI0 w b₀ c env st h₀ m lm I D C It J N i h' st' acc ys mC → P (N + 1 - i) { s with heap := h', toks := tk' }) : ∀ j s', CI w b₀ c env st h₀ m lm I D C It J N s j s' → P j s' := by
  rintro j s' ⟨i, h', tk', st', acc, ys, mC, rfl, rfl, L⟩; exact f i h' tk' st' acc ys mC L

theorem comp_core {n : Nat} {elt iter : Expr} {x : Str} {px : Pos} {ifs : List Expr} {scope : Scope} {cl : List (Str × Addr)} {pos : Pos} {I : Addr} {N : Nat} {val : Nat → MV} {Kp : Store → Prop} {It : Nat → Heap → Prop} {s₂ : Shared} {h₀ : Heap} {m : Str → Option Value} {RR : Value → Addr → Result → Shared → Prop} {lmF : LM}
    (hc : c.OK n) (he : env = c.env) (IT : IterOk w b₀ c I N val Kp It) (I₂ : In w b₀ c st s₂.heap m) (S₂ : Sees c env st s₂.heap m lm) (hit : It 0 s₂.heap) (hI : st I = none) (hIL : I ≠ c.L) (hIF : NF c I) (hIb : b₀.get? I = none) (hIc : ∀ x a, env.cells.lookup x = some a → a ≠ I) (hI0 : h₀.get? I = none) (T0 : Step c st h₀ st s₂.heap) (hsz0 : h₀.objs.size ≤ s₂.heap.objs.size)
    (hcell : ∀ y ∈ scope.names, y.2 ≠ .cell) (hkind : scope.kind = .function) (hx : scope.names.lookup x = some .local)
    (hF : ∀ y mv, lmF y = some mv → lm y = some mv ∧ env.kindOf y = some .cell ∧ scope.names.lookup y = some .free ∧ cl.lookup y = env.cells.lookup y) (hN : N ≤ sizeLine)
    (J : Nat → List MV → Store → Prop) (hJ : J 0 [] st) (hJK : ∀ i acc st', J i acc st' → Kp st')
    (turn : ∀ i acc st' C E', i < N → J i acc st' → Ev w b₀ c (compEnvC scope cl C env) E' (forIn ifs true fun c r => if r = true then do let ok ← isTrue c (compEnvC scope cl C env) (eval c (compEnvC scope cl C env)); pure (ForInStep.yield ok) else pure (ForInStep.yield r)) Eq (lmC x (val i) lmF) st'
      (fun b st'' => if b = true then Ev w b₀ c (compEnvC scope cl C env) E' (eval elt (compEnvC scope cl C env)) VR (lmC x (val i) lmF) st'' (fun y st₃ => J (i + 1) (acc ++ [y]) st₃) else J (i + 1) acc st''))
    (hRR : ∀ D C h' tk mC acc st', J N acc st' → In w b₀ c (st'.set D (.list acc)) h' m → Step c st h₀ (st'.set D (.list acc)) h' → st' D = none → h'.Ns C mC → (st'.set D (.list acc)) C = none → C ≠ c.L → NF c C → b₀.get? C = none → h₀.get? C = none → RR (.ref D) C (.ok .next) { s₂ with heap := h', toks := tk }) :
    wpAny (model PG w) c.A (newList []) (fun acc s₃ => wpAny (model PG w) c.A (newFunctionEnv scope env.globals cl [] env.qual none .none (some env)) (fun cenv s₄ =>
      codeAny (model PG w) c.A (.compStart (.ListComp elt [⟨.Name x px, iter, ifs, 0⟩] scope pos) 0 (.ref I) acc { cenv with scope := relabel scope env }) (RR acc cenv.locals) s₄) E s₃) E s₂ := by
  refine wpAny_newObj_type (wpAny_newFunctionEnv hcell (by intro y hy; simp at hy) (fun h₁ hns₁ hsb₁ => ?_) hkind)
  dsimp only at hns₁ hsb₁ ⊢
  generalize hH2 : s₂.heap.push { cls := .type "list", dict := none, data := .seq ([] : List Value).toArray } = H2 at hns₁ hsb₁ ⊢
  have hD : s₂.heap.get? s₂.heap.objs.size = none := Heap.get?_none_of_le (Nat.le_refl _)
  have hC : H2.objs.size = s₂.heap.objs.size + 1 := by rw [← hH2, Heap.size_push]
  have hC' : s₂.heap.get? H2.objs.size = none := Heap.get?_none_of_le (by omega)
  have hDC : s₂.heap.objs.size ≠ H2.objs.size := by omega
  (first | refine e0a4 (fun d1 d2 d3 d4 => ?_) (I₂.fresh hD) | refine e1a3 (fun d1 d2 d3 d4 => ?_) (I₂.fresh hD) | refine e2a2 (fun d1 d2 d3 d4 => ?_) (I₂.fresh hD) | obtain ⟨d1, d2, d3, d4⟩ := I₂.fresh hD)
  have sD := I₂.sizeNot
  (first | refine e0a4 (fun c1 c2 c3 c4 => ?_) (I₂.fresh hC') | refine e1a3 (fun c1 c2 c3 c4 => ?_) (I₂.fresh hC') | refine e2a2 (fun c1 c2 c3 c4 => ?_) (I₂.fresh hC') | obtain ⟨c1, c2, c3, c4⟩ := I₂.fresh hC')
  obtain ⟨oI, hoI⟩ := IT.there 0 _ hit
  have hIlt : I < s₂.heap.objs.size := Heap.lt_size hoI
  have neDI : s₂.heap.objs.size ≠ I := Nat.ne_of_gt hIlt
  have neCI : H2.objs.size ≠ I := by rw [hC]; exact Nat.ne_of_gt (Nat.lt_succ_of_lt hIlt)
  have hD0 : h₀.get? s₂.heap.objs.size = none := Heap.get?_none_of_le hsz0
  have hC0 : h₀.get? H2.objs.size = none := Heap.get?_none_of_le (by omega)
  have old : ∀ b o, s₂.heap.get? b = some o → h₁.get? b = some o := fun b o e => hsb₁.extBut b o (by rw [hC]; exact Nat.ne_of_lt (Nat.lt_succ_of_lt (Heap.lt_size e))) (Heap.get?_push_of_some _ (hH2 ▸ Heap.get?_push_of_some _ e))
  have hacc : h₁.PlainList s₂.heap.objs.size #[] := ⟨_, hsb₁.extBut _ _ hDC (Heap.get?_push_of_some _ (hH2 ▸ Heap.get?_push_size _ rfl))⟩
  obtain ⟨I₁, T₁⟩ := I₂.same (h' := h₁) (m' := m) ⟨by obtain ⟨oL, es, ep, hoL, r⟩ := I₂.fr.ns; exact ⟨oL, es, ep, old _ _ hoL, r⟩, fun b o e => old b o (I₂.fr.keep b o e), I₂.fr.above⟩ fun b o _ e => old b o e
  clear hIlt hC hsz0 hsb₁
  generalize s₂.heap.objs.size = D at *
  generalize H2.objs.size = C at *
  have hlocal : ∀ y, scope.names.lookup y = some .local → (compEnvC scope cl C env).kindOf y = some .local := fun y hy => lookup_relabel_local hy
  -- what the block sees
  have sees : ∀ {st' : Store} {h' : Heap} {mC : Str → Option Value} {v : MV} {xv : Value}, VR v xv → Sees c env st' h' m lm → st' C = none → h'.Ns C mC → mC x = some xv → Sees c (compEnvC scope cl C env) st' h' m (lmC x v lmF) := by
    intro st' h' mC v xv hv S' hCn hn hm y mv e
    unfold lmC at e
    split at e
    · rename_i q; subst q; cases e
      exact ⟨xv, hv, .inr (.inl ⟨hlocal y hx, c2, hCn, mC, hn, hm⟩)⟩
    · (first | refine e0a4 (fun e1 e2 e3 e4 => ?_) (hF y mv e) | refine e1a3 (fun e1 e2 e3 e4 => ?_) (hF y mv e) | refine e2a2 (fun e1 e2 e3 e4 => ?_) (hF y mv e) | obtain ⟨e1, e2, e3, e4⟩ := hF y mv e)
      (first | refine e0a3 (fun v' hv' z => ?_) (S' y mv e1) | refine e1a2 (fun v' hv' z => ?_) (S' y mv e1) | refine e2a1 (fun v' hv' z => ?_) (S' y mv e1) | obtain ⟨v', hv', z⟩ := S' y mv e1)
      refine ⟨v', hv', ?_⟩
      rcases z with ⟨k, _⟩ | ⟨k, _⟩ | ⟨_, a, hl, hL, hn', ho⟩
      · rw [e2] at k; cases k
      · rw [e2] at k; cases k
      · exact .inr (.inr ⟨.inl (lookup_relabel_free (by rw [he]; exact hc.k) e3 e2), a, by rw [← hl]; exact e4, hL, hn', ho⟩)
  -- the loop
  have loop : codeAny (model PG w) c.A (.compLoop (.ListComp elt [⟨.Name x px, iter, ifs, 0⟩] scope pos) 0 (.ref I) (.ref D) (compEnvC scope cl C env)) (RR (.ref D) C) { s₂ with heap := h₁, toks := s₂.toks + ([] : List (Str × Value)).length } := by
    refine codeAny_compLoop_tests (CI w b₀ c env st h₀ m lm I D C It J N s₂) ?_ (N + 1) ⟨0, _, _, st, [], #[], _, rfl, rfl, ⟨T0.trans T₁, S₂.step T₁, IT.at_ 0 _ _ hit fun o e => old _ _ e, hI, d1, c1, hacc, hns₁⟩, I₁, .nil, Nat.le_refl _, hJ, Nat.zero_le _⟩
    refine CI.elim fun i h' tk' st' acc ys mC L => ?_
    have hall := L.all; have hlen := L.len; have hi := L.hi
    have I' := L.I; have T' := L.O.T; have S' := L.O.S; have nI := L.O.nI; have nD := L.O.nD; have nC := L.O.nC; have hpl := L.O.pl; have hn := L.O.ns
    have hysz : ys.size ≤ sizeLine := by rw [← Array.length_toList, ← hall.length]; omega
    by_cases hlt : i < N
    · refine IT.item i _ st' m _ _ hlt L.O.it I' (hJK _ _ _ L.hJ) fun xv h₃ tk₃ hxv hit₃ e₃ => ?_
      have I₃ := I'.other nI hIL hIF hIb e₃
      have S₃ := sees_other S' e₃ (by rw [he, hc.lo]; exact Ne.symm hIL) hIc
      have hn₃ : h₃.Ns C mC := hn.extBut e₃ neCI
      refine wpAny_assign_Name (wpAny_storeName_local (hlocal x hx) hn₃ (fun h₄ hn₄ hs₄ => ?_) (by simp [compEnvC, relabel, hkind]))
      have hs₄ : Heap.SameBut C h₃ h₄ := hs₄
      have hn₄ : h₄.Ns C (fun y => if y = x then some xv else mC y) := hn₄
      have I₄ := I₃.other nC c2 c3 c4 hs₄.extBut
      have S₄ : Sees c env st' h₄ m lm := S₃.cut (by rw [he]; exact hc.lo) hs₄.extBut (noCell_ns hn₃)
      have T₄ : Step c st h₀ st' h₄ := (T'.other hI0 e₃).other hC0 hs₄.extBut
      have hit₄ : It (i + 1) h₄ := IT.at_ _ _ _ hit₃ fun o e => hs₄.extBut _ _ (Ne.symm neCI) e
      have hpl₄ : h₄.PlainList D ys := (hpl.extBut e₃ neDI).extBut hs₄.extBut hDC
      have again : ∀ {st₅ : Store} {h₅ : Heap} {tk₅ : Nat} {acc' : List MV} {ys' : Array Value} {mC' : Str → Option Value}, CO c env st h₀ m lm I D C It (i + 1) h₅ st₅ ys' mC' → In w b₀ c st₅ h₅ m → All2 VR acc' ys'.toList → acc'.length ≤ i + 1 → J (i + 1) acc' st₅ →
          ∃ j, j < N + 1 - i ∧ CI w b₀ c env st h₀ m lm I D C It J N s₂ j { s₂ with heap := h₅, toks := tk₅ } := fun {st₅ h₅ tk₅ acc' ys' mC'} a1 a2 a3 a4 a5 =>
        ⟨N + 1 - (i + 1), by omega, i + 1, h₅, tk₅, st₅, acc', ys', mC', rfl, rfl, a1, a2, a3, a4, a5, hlt⟩
      -- what stands from here on
      have on : ∀ {st₅ : Store} {h₅ : Heap}, Step c st' h₄ st₅ h₅ → CO c env st h₀ m lm I D C It (i + 1) h₅ st₅ ys (fun y => if y = x then some xv else mC y) := by
        intro st₅ h₅ T₅
        obtain ⟨oi, hoi⟩ := IT.there _ _ hit₄
        obtain ⟨i5, _⟩ := T₅.exact hoi nI hIL hIF
        obtain ⟨nl, hol⟩ := hpl₄
        obtain ⟨d5, hd5⟩ := T₅.exact hol nD d2 d3
        (first | refine e0a5 (fun oc es ep hoc r => ?_) (hn₄) | refine e1a4 (fun oc es ep hoc r => ?_) (hn₄) | refine e2a3 (fun oc es ep hoc r => ?_) (hn₄) | refine e3a2 (fun oc es ep hoc r => ?_) (hn₄) | obtain ⟨oc, es, ep, hoc, r⟩ := hn₄); try clear hn₄
        obtain ⟨c5, hc5⟩ := T₅.exact hoc nC c2 c3
        exact ⟨T₄.trans T₅, S₄.step T₅, IT.at_ _ _ _ hit₄ fun o e => (T₅.exact e nI hIL hIF).2, i5, d5, c5, ⟨nl, hd5⟩, ⟨oc, es, ep, hc5, r⟩⟩
      refine turn i acc st' C _ hlt L.hJ _ m _ I₄ (sees hxv S₄ nC hn₄ (by simp)) fun okv b h₅ tk₅ st₅ I₅ T₅ hb q => ?_
      subst hb
      have O := on T₅
      dsimp only at q
      split
      · rename_i hb
        rw [if_pos hb] at q
        refine q _ m _ I₅ (sees hxv O.S O.nC O.ns (by simp)) fun yv y h₆ tk₆ st₆ I₆ T₆ hy q₆ => ?_
        have O₆ := on (T₅.trans T₆)
        refine wpAny_list_append_plain (s := { s₂ with heap := h₆, toks := tk₆ }) O₆.pl (fun h₇ hpl₇ hs₇ => ?_) hysz
        have hs₇ : Heap.SameBut D h₆ h₇ := hs₇
        have I₇ := I₆.other O₆.nD d2 d3 d4 hs₇.extBut
        exact again ⟨O₆.T.other hD0 hs₇.extBut, O₆.S.cut (by rw [he]; exact hc.lo) hs₇.extBut (noCell_pl O₆.pl), IT.at_ _ _ _ O₆.it fun o e => hs₇.extBut _ _ (Ne.symm neDI) e, O₆.nI, O₆.nD, O₆.nC, hpl₇, O₆.ns.sameBut hs₇ (Ne.symm hDC)⟩ I₇ (by rw [Array.toList_push]; exact hall.append (.cons hy .nil)) (by simp; omega) q₆
      · rename_i hb
        rw [if_neg hb] at q
        exact again O I₅ hall (by omega) q
    · have hiN : i = N := by omega
      subst hiN
      refine IT.done _ st' m _ _ L.O.it I' (hJK _ _ _ L.hJ) fun h₃ e₃ => ?_
      have I₃ := I'.other nI hIL hIF hIb e₃
      obtain ⟨nl, hol⟩ := hpl
      have hol₃ := e₃ _ _ neDI hol
      refine hRR D C h₃ tk' mC acc st' L.hJ (I₃.adopt nD d2 d3 ⟨d4, sD⟩ hol₃ ⟨_, _, rfl, hall⟩) ((T'.other hI0 e₃).adopt hD0) nD (hn.extBut e₃ neCI) (by rw [Store.set_ne _ _ (Ne.symm hDC)]; exact nC) c2 c3 c4 hC0
  exact codeAny_compStart_list loop (IT.self _ _ _ (IT.at_ 0 _ _ hit fun o e => old _ _ e) loop)

/-- what a comprehension's turns ask, over n items -/
def CompTurns (w : World) (b₀ : Heap) (c : Cx) (env : Env) (elt : Expr) (x : Str) (ifs : List Expr) (scope : Scope) (cl : List (Str × Addr)) (lmF : LM) (N : Nat) (val : Nat → MV) (J : Nat → List MV → Store → Prop) : Prop :=
  ∀ i acc st' C E', i < N → J i acc st' → Ev w b₀ c (compEnvC scope cl C env) E' (forIn ifs true fun c r => if r = true then do let ok ← isTrue c (compEnvC scope cl C env) (eval c (compEnvC scope cl C env)); pure (ForInStep.yield ok) else pure (ForInStep.yield r)) Eq (lmC x (val i) lmF) st'
    (fun b st'' => if b = true then Ev w b₀ c (compEnvC scope cl C env) E' (eval elt (compEnvC scope cl C env)) VR (lmC x (val i) lmF) st'' (fun y st₃ => J (i + 1) (acc ++ [y]) st₃) else J (i + 1) acc st'')

theorem Sees.cells {h : Heap} {m : Str → Option Value} {X : Addr} (S : Sees c env st h m lm) (hcells : ∀ x a, env.cells.lookup x = some a → ∃ mv, lm x = some mv ∧ (env.kindOf x = some .cell)) (hX : h.get? X = none) : ∀ y a, env.cells.lookup y = some a → a ≠ X := fun y a e q => by
  (first | refine e0a3 (fun mv hm hk => ?_) (hcells y a e) | refine e1a2 (fun mv hm hk => ?_) (hcells y a e) | refine e2a1 (fun mv hm hk => ?_) (hcells y a e) | obtain ⟨mv, hm, hk⟩ := hcells y a e)
  (first | refine e0a3 (fun v _ z => ?_) (S y mv hm) | refine e1a2 (fun v _ z => ?_) (S y mv hm) | refine e2a1 (fun v _ z => ?_) (S y mv hm) | obtain ⟨v, _, z⟩ := S y mv hm)
  rcases z with ⟨k, _⟩ | ⟨k, _⟩ | ⟨_, a', ha', _, _, o, ho, _⟩
  · rw [hk] at k; cases k
  · rw [hk] at k; cases k
  · rw [e] at ha'; cases ha'; rw [q, hX] at ho; cases ho

theorem ev_compList {n : Nat} {elt iter : Expr} {x : Str} {px : Pos} {ifs : List Expr} {scope : Scope} {cl : List (Str × Addr)} {pos : Pos} {lmF : LM} {Q : MV → Store → Prop}
    (hc : c.OK n) (he : env = c.env) (hh : c.hd = none) (hcells : ∀ x a, env.cells.lookup x = some a → ∃ mv, lm x = some mv ∧ (env.kindOf x = some .cell)) (hclos : closureFor scope env = pure cl) (hcell : ∀ y ∈ scope.names, y.2 ≠ .cell) (hkind : scope.kind = .function)
    (hnames : ∀ y ∈ scope.names, y.2 = .local → scope.names.lookup y.1 = some .local) (hx : scope.names.lookup x = some .local)
    (hF : ∀ y mv, lmF y = some mv → lm y = some mv ∧ env.kindOf y = some .cell ∧ scope.names.lookup y = some .free ∧ cl.lookup y = env.cells.lookup y)
    (h : Ev w b₀ c env E (eval iter env) VR lm st fun a st₁ => ∃ l vs, a = .ref l ∧ st₁ l = some (.list vs) ∧ vs.length ≤ sizeLine ∧ ∃ J : Nat → List MV → Store → Prop, J 0 [] st₁ ∧ (∀ i acc st', J i acc st' → st' l = some (.list vs)) ∧
      CompTurns w b₀ c env elt x ifs scope cl lmF vs.length (fun i => vs.getD i .none) J ∧ ∀ D acc st', J vs.length acc st' → st' D = none → Q (.ref D) (st'.set D (.list acc)))
    (hs : ∀ x, foldedSetIterable iter env x = pure x := by intro _; rfl) :
    Ev w b₀ c env E (eval (.ListComp elt [⟨.Name x px, iter, ifs, 0⟩] scope pos) env) VR lm st Q := fun s m P I S k => by
  rw [eval_ListComp]
  refine wpAny_comprehension_free (use := none) rfl hs hclos hkind hnames (h s m _ I S fun v a h₁ tk st₁ I₁ T₁ hr q => ?_)
  obtain ⟨l, vs, rfl, hl, hN, J, hJ, hJK, turn, done⟩ := q
  cases hr
  obtain ⟨ol, hol, ⟨its, nl, rfl, hall⟩, hlL, _⟩ := I₁.rep l _ hl
  refine wpAny_pyIter_list (s := { s with heap := h₁, toks := tk }) ⟨_, hol, rfl, nl, rfl⟩ ?_
  have hX : h₁.get? h₁.objs.size = none := Heap.get?_none_of_le (Nat.le_refl _)
  (first | refine e0a4 (fun fX1 fX2 fX3 fX4 => ?_) (I₁.fresh hX) | refine e1a3 (fun fX1 fX2 fX3 fX4 => ?_) (I₁.fresh hX) | refine e2a2 (fun fX1 fX2 fX3 fX4 => ?_) (I₁.fresh hX) | obtain ⟨fX1, fX2, fX3, fX4⟩ := I₁.fresh hX)
  obtain ⟨I₂, T₂⟩ := I₁.push { cls := .type "list_iterator", data := .fields #[.ref l, .int 0 0] }
  have S₁ := S.step T₁
  have hce := S₁.cells hcells hX
  refine comp_core (s₂ := { s with heap := h₁.push { cls := .type "list_iterator", data := .fields #[.ref l, .int 0 0] }, toks := tk }) (h₀ := h₁) hc he (iter_list hh) I₂ (S₁.step T₂) ⟨_, Heap.get?_push_size _ rfl, rfl, rfl⟩ fX1 fX2 fX3 fX4 hce hX T₂ (by show h₁.objs.size ≤ (h₁.push _).objs.size; rw [Heap.size_push]; exact Nat.le_succ _)
    hcell hkind hx hF hN J hJ hJK turn ?_
  intro D C h' tk' mC acc st' hJ' I' T' hD hn hCn hCL hCF hCb hC0
  refine ⟨mC, hn, fun h'' hs'' => ?_⟩
  exact k (.ref D) (.ref D) h'' tk' _ (I'.other hCn hCL hCF hCb hs''.extBut) (T₁.trans (T'.other hC0 hs''.extBut)) rfl (done D acc st' hJ' hD)

theorem ex_assignComp {n : Nat} {elt iter : Expr} {x y : Str} {px py : Pos} {ifs : List Expr} {scope : Scope} {cl : List (Str × Addr)} {pos spos : Pos} {lmF : LM} {rest : List Stmt} {Q : MF → LM → Store → Prop}
    (hc : c.OK n) (he : env = c.env) (hh : c.hd = none) (hcells : ∀ x a, env.cells.lookup x = some a → ∃ mv, lm x = some mv ∧ (env.kindOf x = some .cell)) (hclos : closureFor scope env = pure cl) (hcell : ∀ y ∈ scope.names, y.2 ≠ .cell) (hkind : scope.kind = .function)
    (hnames : ∀ y ∈ scope.names, y.2 = .local → scope.names.lookup y.1 = some .local) (hx : scope.names.lookup x = some .local)
    (hF : ∀ y mv, lmF y = some mv → lm y = some mv ∧ env.kindOf y = some .cell ∧ scope.names.lookup y = some .free ∧ cl.lookup y = env.cells.lookup y)
    (h : Ev w b₀ c env E (eval iter env) VR lm st fun a st₁ => ∃ l vs, a = .ref l ∧ st₁ l = some (.list vs) ∧ vs.length ≤ sizeLine ∧ ∃ J : Nat → List MV → Store → Prop, J 0 [] st₁ ∧ (∀ i acc st', J i acc st' → st' l = some (.list vs)) ∧
      CompTurns w b₀ c env elt x ifs scope cl lmF vs.length (fun i => vs.getD i .none) J ∧ ∀ D acc st', J vs.length acc st' → st' D = none → Ex w b₀ c env E (execs rest env) (lm.set y (.ref D)) (st'.set D (.list acc)) Q)
    (hsw : swapsWith (.ListComp elt [⟨.Name x px, iter, ifs, 0⟩] scope pos) (some (.Name y py)) spos.line env = pure true := by rfl) (hy : env.kindOf y = some .local := by rfl)
    (hs : ∀ x, foldedSetIterable iter env x = pure x := by intro _; rfl) :
    Ex w b₀ c env E (execs (.Assign [.Name y py] (.ListComp elt [⟨.Name x px, iter, ifs, 0⟩] scope pos) spos :: rest) env) lm st Q := ex_cons fun s m P I S k => by
  rw [exec_Assign_Name_used _ _ _ _ hsw]
  refine wpAny_bind (wpAny_standAt (wpAny_bind ?_))
  show wpAny _ c.A (do let _ ← comprehension (.ListComp elt [⟨.Name x px, iter, ifs, 0⟩] scope pos) scope env _ (newList []) false (eval iter env) (some (assign (.Name y py) env))) _ _ s
  refine wpAny_bind (wpAny_mono (wpAny_comprehension_free (use := some (assign (.Name y py) env)) (Q := fun _ s' => P .next s') rfl hs hclos hkind hnames (h s m _ I S fun v a h₁ tk st₁ I₁ T₁ hr q => ?_)) (fun _ s' hq => wpAny_pure (wpAny_pure hq)) fun _ _ e => e)
  obtain ⟨l, vs, rfl, hl, hN, J, hJ, hJK, turn, done⟩ := q
  cases hr
  obtain ⟨ol, hol, ⟨its, nl, rfl, hall⟩, hlL, _⟩ := I₁.rep l _ hl
  refine wpAny_pyIter_list (s := { s with heap := h₁, toks := tk }) ⟨_, hol, rfl, nl, rfl⟩ ?_
  have hX : h₁.get? h₁.objs.size = none := Heap.get?_none_of_le (Nat.le_refl _)
  (first | refine e0a4 (fun fX1 fX2 fX3 fX4 => ?_) (I₁.fresh hX) | refine e1a3 (fun fX1 fX2 fX3 fX4 => ?_) (I₁.fresh hX) | refine e2a2 (fun fX1 fX2 fX3 fX4 => ?_) (I₁.fresh hX) | obtain ⟨fX1, fX2, fX3, fX4⟩ := I₁.fresh hX)
  obtain ⟨I₂, T₂⟩ := I₁.push { cls := .type "list_iterator", data := .fields #[.ref l, .int 0 0] }
  have S₁ := S.step T₁
  have hce := S₁.cells hcells hX
  refine comp_core (s₂ := { s with heap := h₁.push { cls := .type "list_iterator", data := .fields #[.ref l, .int 0 0] }, toks := tk }) (h₀ := h₁) hc he (iter_list hh) I₂ (S₁.step T₂) ⟨_, Heap.get?_push_size _ rfl, rfl, rfl⟩ fX1 fX2 fX3 fX4 hce hX T₂ (by show h₁.objs.size ≤ (h₁.push _).objs.size; rw [Heap.size_push]; exact Nat.le_succ _)
    hcell hkind hx hF hN J hJ hJK turn ?_
  intro D C h' tk' mC acc st' hJ' I' T' hD hn hCn hCL hCF hCb hC0
  show wpAny _ c.A (assign (.Name y py) env (.ref D)) _ _ _
  refine wpAny_assign_Name (ex_store (mv := .ref D) hc he hy I' ((S.step T₁).step T') rfl fun h₃ tk₃ m₃ I₃ T₃ S₃ => ?_)
  (first | refine e3a3 (fun oc es ep hoc hdc hrc => ?_) (hn) | obtain ⟨oc, es, ep, hoc, hdc, hrc⟩ := hn); try clear hn
  obtain ⟨nC₃, hoc₃⟩ := T₃.exact hoc hCn hCL hCF
  refine ⟨mC, ⟨oc, es, ep, hoc₃, hdc, hrc⟩, fun h'' hs'' => ?_⟩
  have S₄ : Sees c env (st'.set D (.list acc)) h'' m₃ (lm.set y (.ref D)) := S₃.cut (by rw [he]; exact hc.lo) hs''.extBut (noCell_ns ⟨oc, es, ep, hoc₃, hdc, hrc⟩)
  exact k .next .next h'' tk₃ m₃ _ _ (I₃.other nC₃ hCL hCF hCb hs''.extBut) (T₁.trans ((T'.trans T₃).other hC0 hs''.extBut)) S₄ rfl (done D acc st' hJ' hD)

/-- tests of a comprehension -/
theorem ct_nil {env' : Env} {lm' : LM} {E' : Value → Shared → Prop} {Q : Bool → Store → Prop} (h : Q true st) : Ev w b₀ c env' E' (forIn ([] : List Expr) true fun c r => if r = true then do let ok ← isTrue c env' (eval c env'); pure (ForInStep.yield ok) else pure (ForInStep.yield r)) Eq lm' st Q :=
  .now h fun s P k => wpAny_tests_nil (k _ s.toks rfl)
theorem ct_one {env' : Env} {lm' : LM} {E' : Value → Shared → Prop} {x : Expr} {Q : Bool → Store → Prop} (h : Ev w b₀ c env' E' (isTrue x env' (eval x env')) Eq lm' st Q) : Ev w b₀ c env' E' (forIn [x] true fun c r => if r = true then do let ok ← isTrue c env' (eval c env'); pure (ForInStep.yield ok) else pure (ForInStep.yield r)) Eq lm' st Q :=
  fun s m P I S k => wpAny_tests_one (h s m P I S k)
end
end PartM7
section PartM8
open PySem PySem.W PyProof.Rows PySem.Spec PySem.Calls

/-! dictionaries as lists of pairs -/
section
variable {K : Type} [DecidableEq K] {V : Type}
def dget (k : K) : List (K × V) → Option V
  | [] => none
  | p :: r => if p.1 = k then some p.2 else dget k r
def dput (k : K) (v : V) : List (K × V) → List (K × V)
  | [] => [(k, v)]
  | p :: r => if p.1 = k then (p.1, v) :: r else p :: dput k v r
def ddel (k : K) : List (K × V) → List (K × V)
  | [] => []
  | p :: r => if p.1 = k then r else p :: ddel k r
abbrev KR (a : K × MV) (b : K × Value) : Prop := a.1 = b.1 ∧ VR a.2 b.2
theorem dget_some {k : K} {kvs : List (K × MV)} {vs : List (K × Value)} (h : All2 KR kvs vs) {x : MV} (e : dget k kvs = some x) : ∃ v, valueAt vs k = some v ∧ VR x v := by
  unfold valueAt
  induction h with
  | nil => cases e
  | @cons a b l m r _ ih =>
    unfold dget at e
    rw [List.find?_cons, ← r.1]
    by_cases q : a.1 = k
    · rw [if_pos q] at e; cases e; rw [decide_eq_true q]; exact ⟨_, rfl, r.2⟩
    · rw [if_neg q] at e; rw [decide_eq_false q]; exact ih e
theorem dget_none {k : K} {kvs : List (K × MV)} {vs : List (K × Value)} (h : All2 KR kvs vs) (e : dget k kvs = none) : valueAt vs k = none := by
  unfold valueAt
  induction h with
  | nil => rfl
  | @cons a b l m r _ ih =>
    unfold dget at e
    rw [List.find?_cons, ← r.1]
    by_cases q : a.1 = k
    · rw [if_pos q] at e; cases e
    · rw [if_neg q] at e; rw [decide_eq_false q]; exact ih e
theorem dget_isSome {k : K} {kvs : List (K × MV)} {vs : List (K × Value)} (h : All2 KR kvs vs) : (valueAt vs k).isSome = (dget k kvs).isSome := by
  cases e : dget k kvs with
  | none => rw [dget_none h e]; rfl
  | some x => obtain ⟨v, hv, _⟩ := dget_some h e; rw [hv]; rfl
theorem dput_stored {k : K} {mv : MV} {v : Value} (hv : VR mv v) {kvs : List (K × MV)} {vs : List (K × Value)} (h : All2 KR kvs vs) (hn : (vs.map (·.1)).Nodup) : All2 KR (dput k mv kvs) (stored vs k v) := by
  unfold stored
  induction h with
  | nil => exact .cons ⟨rfl, hv⟩ .nil
  | @cons a b l m r t ih =>
    rw [List.map_cons, List.nodup_cons] at hn
    unfold dput
    by_cases q : a.1 = k
    · have q' : b.1 = k := r.1.symm.trans q
      rw [if_pos q, List.any_cons, decide_eq_true q', Bool.true_or, if_pos rfl, List.map_cons, if_pos q', map_store_of_not_mem m k v (by rw [← q']; exact hn.1)]
      exact .cons ⟨r.1, hv⟩ t
    · have q' : ¬ b.1 = k := fun e => q (r.1.trans e)
      have := ih hn.2
      rw [if_neg q, List.any_cons, decide_eq_false q', Bool.false_or, List.map_cons, if_neg q']
      split
      · rename_i z; rw [if_pos z] at this; exact .cons r this
      · rename_i z; rw [if_neg z] at this; exact .cons r this
theorem ddel_without {k : K} {kvs : List (K × MV)} {vs : List (K × Value)} (h : All2 KR kvs vs) (hn : (vs.map (·.1)).Nodup) : All2 KR (ddel k kvs) (without vs k) := by
  induction h with
  | nil => exact .nil
  | @cons a b l m r t ih =>
    rw [List.map_cons, List.nodup_cons] at hn
    unfold ddel
    by_cases q : a.1 = k
    · have q' : b.1 = k := r.1.symm.trans q
      rw [if_pos q]
      have e : without (b :: m) k = without m k := by simp only [without, List.filter_cons, ne_eq, q', not_true_eq_false, decide_false, Bool.false_eq_true, if_false]
      rw [e, without_of_not_mem m k (by rw [← q']; exact hn.1)]; exact t
    · have q' : ¬ b.1 = k := fun e => q (r.1.trans e)
      rw [if_neg q]
      have e : without (b :: m) k = b :: without m k := by simp only [without, List.filter_cons, ne_eq, q', not_false_eq_true, decide_true, if_true]
      rw [e]; exact .cons r (ih hn.2)
end

section
variable {w : World} {b₀ : Heap} {c : Cx} {st : Store} {h h' : Heap} {m : Str → Option Value}
theorem In.change (I : In w b₀ c st h m) {d : Addr} {o' : Obj} {mo mo' : MO} (hd : st d = some mo) (hs : Heap.SameBut d h h') (ho : h'.get? d = some o') (hr : OR w mo' o') :
    In w b₀ c (st.set d mo') h' m ∧ Step c st h (st.set d mo') h' := by
  (first | refine e0a5 (fun _ _ _ hL hb => ?_) (I.rep d mo hd) | refine e1a4 (fun _ _ _ hL hb => ?_) (I.rep d mo hd) | refine e2a3 (fun _ _ _ hL hb => ?_) (I.rep d mo hd) | refine e3a2 (fun _ _ _ hL hb => ?_) (I.rep d mo hd) | obtain ⟨_, _, _, hL, hb⟩ := I.rep d mo hd)
  exact I.upd (I.fr.change hs hL hb.1) hd (fun b o _ q e => (hs.2 b q).trans e) ho hr
theorem In.pushNew (I : In w b₀ c st h m) (o : Obj) {mo : MO} (hr : OR w mo o) (hf : o.isFreed = false := by rfl) :
    st h.objs.size = none ∧ In w b₀ c (st.set h.objs.size mo) (h.push o) m ∧ Step c st h (st.set h.objs.size mo) (h.push o) :=
  I.new (I.fr.push o) (fun b ob _ e => Heap.get?_push_of_some o e) (Heap.get?_none_of_le (Nat.le_refl _)) I.sizeNot (Heap.get?_push_size _ hf) hr
theorem In.notModules (I : In w b₀ c st h m) {d : Addr} {mo : MO} (hd : st d = some mo) : (d == sysModules) = false := let ⟨_, _, _, _, hb⟩ := I.rep d mo hd; hb.2
end

theorem all2_toList {R : MV → Value → Prop} {vs : List MV} {its : Array Value} (h : All2 R vs its.toList) : its.size = vs.length := by rw [← Array.length_toList, ← h.length]

section
variable {w : World} {b₀ : Heap} {mean : ExcName → Option Value} {mg mb : Str → Option Value} {c : Cx} {env : Env} {E : Value → Shared → Prop} {lm : LM} {st : Store}

theorem ev_subscript {value slice : Expr} {pos : Pos} {Q : MV → Store → Prop} (h : Ev w b₀ c env E (eval value env) VR lm st fun o st₁ => Ev w b₀ c env E (eval slice env) VR lm st₁ fun i st₂ => ∀ vo vi, VR o vo → VR i vi → Ev w b₀ c env E (subscriptTail value slice vo vi) VR lm st₂ Q) :
    Ev w b₀ c env E (eval (.Subscript value slice pos) env) VR lm st Q := fun s m P I S k =>
  Subscript_ (h s m _ I S fun v x h' tk st' I' T hr q => q _ m _ I' (S.step T) fun v₂ x₂ h₂ tk₂ st₂ I₂ T₂ hr₂ q₂ => q₂ v v₂ hr hr₂ _ m _ I₂ ((S.step T).step T₂) fun v₃ x₃ h₃ tk₃ st₃ I₃ T₃ hr₃ q₃ => k v₃ x₃ h₃ tk₃ st₃ I₃ ((T.trans T₂).trans T₃) hr₃ q₃)

theorem ev_subList {value slice : Expr} {pos : Pos} {Q : MV → Store → Prop} (h : Ev w b₀ c env E (eval value env) VR lm st fun o st₁ => Ev w b₀ c env E (eval slice env) VR lm st₁ fun i st₂ =>
      ∃ l vs k x, o = .ref l ∧ i = .int k ∧ st₂ l = some (.list vs) ∧ 0 ≤ k ∧ k < 2 ^ 63 ∧ vs[k.toNat]? = some x ∧ Q x st₂)
    (hs : ∀ o i, subscripted slice false o i = operate [o, i] (getItem o i) := by intro _ _; with_unfolding_all rfl) :
    Ev w b₀ c env E (eval (.Subscript value slice pos) env) VR lm st Q :=
  ev_subscript (h.mono fun o st₁ h => h.mono fun i st₂ ⟨l, vs, k, x, ho, hi, hl, h0, h63, hx, q⟩ => fun vo vi hvo hvi s m P I S K => by
    subst ho; subst hi; cases hvo; obtain ⟨t, rfl⟩ := hvi
    obtain ⟨ol, hol, ⟨its, nl, rfl, hall⟩, _⟩ := I.rep l _ hl
    (first | refine e0a3 (fun v hv hr => ?_) (hall.get hx) | refine e1a2 (fun v hv hr => ?_) (hall.get hx) | refine e2a1 (fun v hv hr => ?_) (hall.get hx) | obtain ⟨v, hv, hr⟩ := hall.get hx)
    have hL : s.heap.IsList l its := ⟨_, hol, rfl, nl, rfl⟩
    exact tail_any hL.typeIs slot_list_getitem.lookup (wpAny_getItem_list hL h0 h63 (by rw [← Array.getElem?_toList]; exact hv) (K v x s.heap s.toks st₂ I (Step.refl _ _ _) hr q)) (hs _ _))

theorem ev_subDict {K : Type} [DecidableEq K] {knd : KeyKind PG w K} {key : Value} {d : Addr} {kvs : List (K × MV)} {k : K} {value slice : Expr} {x : MV} {Q : MV → Store → Prop} {mo : MO} (hd : st d = some mo)
    (hor : ∀ o, OR w mo o → ∃ vs, o.IsDictOf knd vs ∧ All2 KR kvs vs) (hkey : knd.is k key = true) (hx : dget k kvs = some x) (q : Q x st)
    (hs : ∀ o i, subscripted slice false o i = operate [o, i] (getItem o i)) : Ev w b₀ c env E (subscriptTail value slice (.ref d) key) VR lm st Q := fun s m P I S K => by
  (first | refine e0a4 (fun o ho hr _ => ?_) (I.rep d _ hd) | refine e1a3 (fun o ho hr _ => ?_) (I.rep d _ hd) | refine e2a2 (fun o ho hr _ => ?_) (I.rep d _ hd) | obtain ⟨o, ho, hr, _⟩ := I.rep d _ hd)
  (first | refine e0a3 (fun vs hdo hall => ?_) (hor o hr) | refine e1a2 (fun vs hdo hall => ?_) (hor o hr) | refine e2a1 (fun vs hdo hall => ?_) (hor o hr) | obtain ⟨vs, hdo, hall⟩ := hor o hr)
  (first | refine e0a3 (fun v hv hvr => ?_) (dget_some hall hx) | refine e1a2 (fun v hv hvr => ?_) (dget_some hall hx) | refine e2a1 (fun v hv hvr => ?_) (dget_some hall hx) | obtain ⟨v, hv, hvr⟩ := dget_some hall hx)
  have hD : s.heap.DictOf knd d vs := Heap.dictOf_iff.mpr ⟨o, ho, hdo⟩
  exact tail_any hD.typeIs slot_dict_getitem.lookup (wpAny_getItem_of hkey hD.mapOf hv (K v x s.heap _ st I (Step.refl _ _ _) hvr q)) (hs _ _)

theorem ev_subS {value slice : Expr} {pos : Pos} {Q : MV → Store → Prop} (h : Ev w b₀ c env E (eval value env) VR lm st fun o st₁ => Ev w b₀ c env E (eval slice env) VR lm st₁ fun i st₂ =>
      ∃ d kvs k x, o = .ref d ∧ i = .str k ∧ st₂ d = some (.sdict kvs) ∧ dget k kvs = some x ∧ Q x st₂)
    (hs : ∀ o i, subscripted slice false o i = operate [o, i] (getItem o i) := by intro _ _; with_unfolding_all rfl) :
    Ev w b₀ c env E (eval (.Subscript value slice pos) env) VR lm st Q :=
  ev_subscript (h.mono fun o st₁ h => h.mono fun i st₂ ⟨d, kvs, k, x, ho, hi, hd, hx, q⟩ => fun vo vi hvo hvi => by
    subst ho; subst hi; cases hvo; obtain ⟨t, rfl⟩ := hvi
    exact ev_subDict (knd := strKind PG w) hd (fun o z => z) (strKind_is _ _ _ _) hx q hs)
theorem ev_subI {value slice : Expr} {pos : Pos} {Q : MV → Store → Prop} (h : Ev w b₀ c env E (eval value env) VR lm st fun o st₁ => Ev w b₀ c env E (eval slice env) VR lm st₁ fun i st₂ =>
      ∃ d kvs k x, o = .ref d ∧ i = .int k ∧ st₂ d = some (.idict kvs) ∧ dget k kvs = some x ∧ Q x st₂)
    (hs : ∀ o i, subscripted slice false o i = operate [o, i] (getItem o i) := by intro _ _; with_unfolding_all rfl) :
    Ev w b₀ c env E (eval (.Subscript value slice pos) env) VR lm st Q :=
  ev_subscript (h.mono fun o st₁ h => h.mono fun i st₂ ⟨d, kvs, k, x, ho, hi, hd, hx, q⟩ => fun vo vi hvo hvi => by
    subst ho; subst hi; cases hvo; obtain ⟨t, rfl⟩ := hvi
    exact ev_subDict (knd := intKind PG w) hd (fun o z => z) (intKind_is _ _ _ _) hx q hs)

/-! displays -/
theorem ev_list {elts : List Expr} {pos : Pos} {Q : MV → Store → Prop} (h : Ev w b₀ c env E (spliced (backTo pos (starEach elts env))) (All2 VR) lm st fun as st₁ => as.length ≤ sizeLine ∧ ∀ l, st₁ l = none → Q (.ref l) (st₁.set l (.list as))) :
    Ev w b₀ c env E (eval (.List elts pos) env) VR lm st Q := fun s m P I S k =>
  wpAny_List (h s m _ I S fun vs as h' tk st' I' T hr q => by
    obtain ⟨n1, I₂, T₂⟩ := I'.pushNew { cls := .type "list", data := .seq vs.toArray } (mo := .list as) ⟨_, _, rfl, by simpa using hr⟩
    exact ⟨by rw [← hr.length]; exact q.1, k _ (.ref _) _ tk _ I₂ (T.trans T₂) rfl (q.2 _ n1)⟩)
theorem ev_tuple {elts : List Expr} {kk : Nat} {pos : Pos} {Q : MV → Store → Prop} (h : Ev w b₀ c env E (spliced (backTo pos (starEach elts env))) (All2 VR) lm st fun as st₁ => as.length ≤ sizeLine ∧ ∀ l, st₁ l = none → Q (.ref l) (st₁.set l (.tuple as))) :
    Ev w b₀ c env E (eval (.Tuple elts kk pos) env) VR lm st Q := fun s m P I S k =>
  wpAny_Tuple (h s m _ I S fun vs as h' tk st' I' T hr q => by
    obtain ⟨n1, I₂, T₂⟩ := I'.pushNew { cls := .type "tuple", data := .seq vs.toArray } (mo := .tuple as) ⟨_, _, rfl, by simpa using hr⟩
    exact ⟨by rw [← hr.length]; exact q.1, k _ (.ref _) _ tk _ I₂ (T.trans T₂) rfl (q.2 _ n1)⟩)

/-! a slice of a list of the store -/
theorem part_some {e : Expr} {Q : MV → Store → Prop} (h : Ev w b₀ c env E (eval e env) VR lm st Q) : Ev w b₀ c env E (evalPart (some e) env) VR lm st Q := h

/-! calls of built-ins -/
theorem ev_callB {id : String} {first : List Value} {args : List Expr} {pos : Pos} {Q : MV → Store → Prop}
    (h : Ev w b₀ c env E (spliced (backTo pos (starEach args env))) (All2 VR) lm st fun as st₁ => ∀ vs, All2 VR as vs → Ev w b₀ c env E (call (.builtin id) (first ++ vs)) VR lm st₁ Q)
    (he : ∀ e rest, args = e :: rest → starEach (e :: rest) env = (false, eval e env) :: starEach rest env ∧ (backTo pos (starEach rest env)).any (·.1) = false) :
    Ev w b₀ c env E (callWith pos (.builtin id) first (backTo pos (starEach args env)) []) VR lm st Q := fun s m P I S k => by
  have h' := h s m (fun vs s₁ => wpAny (model PG w) c.A (call (.builtin id) (first ++ vs)) P E s₁) I S fun v x h' tk st' I' T hr q => q v hr _ m _ I' (S.step T) fun v₂ x₂ h₂ tk₂ st₂ I₂ T₂ hr₂ q₂ => k v₂ x₂ h₂ tk₂ st₂ I₂ (T.trans T₂) hr₂ q₂
  cases args with
  | nil =>
    refine Calls.callWith_builtin rfl ?_
    unfold evalArgs
    show wpAny _ _ (spliced (backTo pos (starEach [] env)) >>= _) _ _ _
    exact wpAny_bind (wpAny_mono h' (fun vs s₁ x => wpAny_holding (wpAny_bind (wpAny_pure (wpAny_bind (wpAny_pure (wpAny_pure x)))))) fun _ _ x => x)
  | cons e rest =>
    obtain ⟨h1, h2⟩ := he e rest rfl
    rw [h1] at h' ⊢
    exact Calls.callWith_builtin (by show (false || (backTo pos (starEach rest env)).any (·.1)) = false; rw [h2]; rfl) (Calls.evalArgs_plain h')

/-- a built-in function by its name -/
theorem ev_bcall {n : Nat} {x : Str} {id : String} {np pos : Pos} {args : List Expr} {Q : MV → Store → Prop} (G : Gd w b₀ mean mg mb) (hc : c.OK n) (he' : env = c.env)
    (hr : nsIn (heapK w.params) mainGlobals x = some none) (hv : bootBuiltins x = some (.builtin id)) (hn : x ≠ "__name__")
    (h : Ev w b₀ c env E (spliced (backTo pos (starEach args env))) (All2 VR) lm st fun as st₁ => ∀ vs, All2 VR as vs → Ev w b₀ c env E (call (.builtin id) vs) VR lm st₁ Q)
    (he : ∀ e rest, args = e :: rest → starEach (e :: rest) env = (false, eval e env) :: starEach rest env ∧ (backTo pos (starEach rest env)).any (·.1) = false := by (intro _ _ e; cases e <;> exact ⟨rfl, rfl⟩))
    (hca : eval (.Call (.Name x np) args [] pos) env = (do callWith pos (← eval (.Name x np) env) [] (backTo pos (starEach args env)) (backToKw pos (keywordEach [] env))) := by rfl)
    (hx : env.kindOf x = some .globalImplicit := by rfl) (hd : (x == ("__debug__" : Str)) = false := by decide) : Ev w b₀ c env E (eval (.Call (.Name x np) args [] pos) env) VR lm st Q := fun s m P I S k =>
  Call_ (wp_bname G I (by rw [he']; exact hc.gl) (by rw [he']; exact hc.bi) (by rw [he']; exact hc.k) hr hv hn hx hd (ev_callB (first := []) h he s m P I S k)) hca

/-- a method of a list or a dict of the store -/
theorem ev_bmeth {T id : String} {o : Expr} {name : Str} {apos pos : Pos} {args : List Expr} {pl : Sem Bool} {Q : MV → Store → Prop} (pa : PlainAttrs T) (slot : Slot T name id) (hty : typeOf (.builtin id) = pure (.type "method_descriptor"))
    (h : Ev w b₀ c env E (eval o env) VR lm st fun a st₁ => ∃ l mo, a = .ref l ∧ st₁ l = some mo ∧ (∀ ob, OR w mo ob → ob.cls = .type T ∧ ob.dict = none) ∧
      Ev w b₀ c env E (spliced (backTo pos (starEach args env))) (All2 VR) lm st₁ fun as st₂ => ∀ vs, All2 VR as vs → Ev w b₀ c env E (call (.builtin id) (.ref l :: vs)) VR lm st₂ Q)
    (he : ∀ e rest, args = e :: rest → starEach (e :: rest) env = (false, eval e env) :: starEach rest env ∧ (backTo pos (starEach rest env)).any (·.1) = false := by (intro _ _ e; cases e <;> exact ⟨rfl, rfl⟩))
    (he' : eval (.Call (.Attribute o name apos) args [] pos) env = (do
      let ov ← eval o env
      standAt apos.atName
      let (f, first) ← holding [ov] (getMethod ov name pl)
      callWith pos f first (backTo pos (starEach args env)) []) := by rfl) :
    Ev w b₀ c env E (eval (.Call (.Attribute o name apos) args [] pos) env) VR lm st Q := fun s m P I S k =>
  MethodCall_ (h s m _ I S fun v a h' tk st' I' T hr q => by
    obtain ⟨l, mo, rfl, hl, hor, q⟩ := q
    cases hr
    (first | refine e0a4 (fun ol hol hro _ => ?_) (I'.rep l _ hl) | refine e1a3 (fun ol hol hro _ => ?_) (I'.rep l _ hl) | refine e2a2 (fun ol hol hro _ => ?_) (I'.rep l _ hl) | obtain ⟨ol, hol, hro, _⟩ := I'.rep l _ hl)
    obtain ⟨hcl, hdn⟩ := hor _ hro
    exact getMethod_builtin ⟨ol, hol, hcl⟩ pa slot hty (fun a e => by cases e; exact ⟨ol, hol, hdn⟩)
      (ev_callB (first := [.ref l]) q he _ m P I' (S.step T) fun v₂ x₂ h₂ tk₂ st₂ I₂ T₂ hr₂ q₂ => k v₂ x₂ h₂ tk₂ st₂ I₂ (T.trans T₂) hr₂ q₂)) he'
end
end PartM8
section PartM9
open PySem PySem.W PyProof.Rows PySem.Spec PySem.Calls
open PySem.SeqAt
section
variable {w : World} {b₀ : Heap} {mean : ExcName → Option Value} {mg mb : Str → Option Value} {c : Cx} {env : Env} {E : Value → Shared → Prop} {lm : LM} {st : Store}

theorem or_idict {kvs : List (Int × MV)} (ob : Obj) (h : OR w (.idict kvs) ob) : ob.cls = .type "dict" ∧ ob.dict = none := by
  obtain ⟨vs, ⟨es, ep, he, _⟩, _⟩ := h; exact ⟨he.1, he.2.1⟩

theorem call_lenList {l : Addr} {vs : List MV} {Q : MV → Store → Prop} (hl : st l = some (.list vs)) (hs : vs.length ≤ sizeLine) (q : Q (.int vs.length) st) : Ev w b₀ c env E (call (.builtin "len") [.ref l]) VR lm st Q := fun s m P I S K => by
  obtain ⟨ol, hol, ⟨its, nl, rfl, hall⟩, _⟩ := I.rep l _ hl
  have hz : its.size = vs.length := all2_toList hall
  rw [sizeLine_eq] at hs
  exact call_len_list ⟨_, hol, rfl, nl, rfl⟩ (by omega) (K _ (.int vs.length) s.heap _ st I (Step.refl _ _ _) ⟨_, by rw [hz]⟩ q)

theorem call_lenI {l : Addr} {kvs : List (Int × MV)} {Q : MV → Store → Prop} (hl : st l = some (.idict kvs)) (hs : kvs.length ≤ sizeLine) (q : Q (.int kvs.length) st) : Ev w b₀ c env E (call (.builtin "len") [.ref l]) VR lm st Q := fun s m P I S K => by
  obtain ⟨ol, hol, ⟨vs, hd, hall⟩, _⟩ := I.rep l _ hl
  rw [sizeLine_eq] at hs
  have hz := hall.length
  exact call_len_dict (I.notModules hl) (Heap.dictOf_iff.mpr ⟨ol, hol, hd⟩) (by omega) (K _ (.int kvs.length) s.heap _ st I (Step.refl _ _ _) ⟨_, by rw [hz]⟩ q)

theorem call_pop0 {l : Addr} {v : MV} {vs : List MV} {vi : Value} {Q : MV → Store → Prop} (hl : st l = some (.list (v :: vs))) (hs : (v :: vs).length ≤ sizeLine) (hi : VR (.int 0) vi) (q : Q v (st.set l (.list vs))) :
    Ev w b₀ c env E (call (.builtin "list.pop") [.ref l, vi]) VR lm st Q := fun s m P I S K => by
  obtain ⟨t, rfl⟩ := hi
  obtain ⟨ol, hol, ⟨its, nl, rfl, hall⟩, _⟩ := I.rep l _ hl
  cases hits : its.toList with
  | nil => rw [hits] at hall; cases hall
  | cons y ys =>
    rw [hits] at hall
    have ei : its = (y :: ys).toArray := by rw [← hits, Array.toArray_toList]
    subst ei
    have hy : VR v y ∧ All2 VR vs ys := by cases hall; exact ⟨‹_›, ‹_›⟩
    have hz : (y :: ys).toArray.size ≤ sizeLine := by rw [List.size_toArray, ← hall.length]; exact hs
    refine call_meets PySem.F.slot_list_pop ⟨_, hol, rfl⟩ PySem.F.entry_list_pop (PySem.F.args_list_pop_2 _ _) (PySem.MeetsSeq.list_pop_at l _ nl 0 t 0 y rfl (by simp [seqIndex?]) rfl hz) ⟨hol, ?_⟩
    obtain ⟨I', T'⟩ := I.change hl (Heap.SameBut.update ..) (PySem.IsL.update (n := nl) hol fun xs => xs.eraseIdxIfInBounds 0) (mo' := .list vs) ⟨_, _, rfl, by
      have := kl_erase [] ys y
      simp only [List.nil_append, List.length_nil] at this
      rw [this]; exact hy.2⟩
    exact K _ v _ _ _ I' T' hy.1 q

theorem call_append {l : Addr} {vs : List MV} {v : MV} {x : Value} {Q : MV → Store → Prop} (hl : st l = some (.list vs)) (hs : vs.length ≤ sizeLine) (hx : VR v x) (q : Q .none (st.set l (.list (vs ++ [v])))) :
    Ev w b₀ c env E (call (.builtin "list.append") [.ref l, x]) VR lm st Q := fun s m P I S K => by
  obtain ⟨ol, hol, ⟨its, nl, rfl, hall⟩, _⟩ := I.rep l _ hl
  refine wpAny_list_append_plain ⟨nl, hol⟩ (fun h' ⟨n', hl'⟩ hs' => ?_) (by rw [all2_toList hall]; exact hs)
  obtain ⟨I', T'⟩ := I.change hl hs' hl' (mo' := .list (vs ++ [v])) ⟨_, _, rfl, by rw [Array.toList_push]; exact hall.append (.cons hx .nil)⟩
  exact K .none .none h' s.toks _ I' T' rfl q

theorem set_list {l : Addr} {vs : List MV} {k : Int} {v : MV} {vi x : Value} {Q : Unit → Store → Prop} (hl : st l = some (.list vs)) (h0 : 0 ≤ k) (hk : k < vs.length) (h63 : k < 2 ^ 63) (hi : VR (.int k) vi) (hx : VR v x) (q : Q () (st.set l (.list (vs.set k.toNat v)))) :
    Ev w b₀ c env E (setItem (.ref l) vi x) (fun (_ : Unit) _ => True) lm st Q := fun s m P I S K => by
  obtain ⟨t, rfl⟩ := hi
  obtain ⟨ol, hol, ⟨its, nl, rfl, hall⟩, _⟩ := I.rep l _ hl
  refine ki_setAt hol h0 h63 (by rw [all2_toList hall]; exact hk) ?_
  obtain ⟨I', T'⟩ := I.change hl (Heap.SameBut.update ..) (PySem.IsL.update (n := nl) hol fun xs => xs.setIfInBounds k.toNat x) (mo' := .list (vs.set k.toNat v)) ⟨_, _, rfl, by
    rw [Array.toList_setIfInBounds]; exact hall.set hx _⟩
  exact K () () _ _ _ I' T' trivial q

theorem set_S {d : Addr} {kvs : List (Str × MV)} {k : Str} {v : MV} {vk x : Value} {Q : Unit → Store → Prop} (hd : st d = some (.sdict kvs)) (hs : kvs.length ≤ sizeLine) (hk : VR (.str k) vk) (hx : VR v x) (q : Q () (st.set d (.sdict (dput k v kvs)))) :
    Ev w b₀ c env E (setItem (.ref d) vk x) (fun (_ : Unit) _ => True) lm st Q := fun s m P I S K => by
  obtain ⟨t, rfl⟩ := hk
  obtain ⟨o, ho, ⟨vs, hdo, hall⟩, _⟩ := I.rep d _ hd
  have hD : s.heap.DictOf (strKind PG w) d vs := Heap.dictOf_iff.mpr ⟨o, ho, hdo⟩
  refine wpAny_setItem_pairs (strKind_is _ _ _ _) hD (fun h' hm' hs' => ?_) (by rw [← hall.length]; exact hs)
  (first | refine e0a3 (fun o' ho' hd' => ?_) (Heap.dictOf_iff.mp hm') | refine e1a2 (fun o' ho' hd' => ?_) (Heap.dictOf_iff.mp hm') | refine e2a1 (fun o' ho' hd' => ?_) (Heap.dictOf_iff.mp hm') | obtain ⟨o', ho', hd'⟩ := Heap.dictOf_iff.mp hm')
  obtain ⟨I', T'⟩ := I.change hd hs' ho' (mo' := .sdict (dput k v kvs)) ⟨_, hd', dput_stored hx hall (by obtain ⟨_, _, _, _, _, _, hn⟩ := hdo; exact hn)⟩
  exact K () () _ _ _ I' T' trivial q
theorem set_I {d : Addr} {kvs : List (Int × MV)} {k : Int} {v : MV} {vk x : Value} {Q : Unit → Store → Prop} (hd : st d = some (.idict kvs)) (hs : kvs.length ≤ sizeLine) (hk : VR (.int k) vk) (hx : VR v x) (q : Q () (st.set d (.idict (dput k v kvs)))) :
    Ev w b₀ c env E (setItem (.ref d) vk x) (fun (_ : Unit) _ => True) lm st Q := fun s m P I S K => by
  obtain ⟨t, rfl⟩ := hk
  obtain ⟨o, ho, ⟨vs, hdo, hall⟩, _⟩ := I.rep d _ hd
  have hD : s.heap.DictOf (intKind PG w) d vs := Heap.dictOf_iff.mpr ⟨o, ho, hdo⟩
  refine wpAny_setItem_pairs (intKind_is _ _ _ _) hD (fun h' hm' hs' => ?_) (by rw [← hall.length]; exact hs)
  (first | refine e0a3 (fun o' ho' hd' => ?_) (Heap.dictOf_iff.mp hm') | refine e1a2 (fun o' ho' hd' => ?_) (Heap.dictOf_iff.mp hm') | refine e2a1 (fun o' ho' hd' => ?_) (Heap.dictOf_iff.mp hm') | obtain ⟨o', ho', hd'⟩ := Heap.dictOf_iff.mp hm')
  obtain ⟨I', T'⟩ := I.change hd hs' ho' (mo' := .idict (dput k v kvs)) ⟨_, hd', dput_stored hx hall (by obtain ⟨_, _, _, _, _, _, hn⟩ := hdo; exact hn)⟩
  exact K () () _ _ _ I' T' trivial q

theorem call_popI {d : Addr} {kvs : List (Int × MV)} {k : Int} {x : MV} {vk : Value} {Q : MV → Store → Prop} (hd : st d = some (.idict kvs)) (hs : kvs.length ≤ sizeLine) (hk : VR (.int k) vk) (hx : dget k kvs = some x) (q : Q x (st.set d (.idict (ddel k kvs)))) :
    Ev w b₀ c env E (call (.builtin "dict.pop") [.ref d, vk]) VR lm st Q := fun s m P I S K => by
  obtain ⟨t, rfl⟩ := hk
  obtain ⟨o, ho, ⟨vs, hdo, hall⟩, _⟩ := I.rep d _ hd
  have hD : s.heap.DictOf (intKind PG w) d vs := Heap.dictOf_iff.mpr ⟨o, ho, hdo⟩
  (first | refine e0a3 (fun v hv hvr => ?_) (dget_some hall hx) | refine e1a2 (fun v hv hvr => ?_) (dget_some hall hx) | refine e2a1 (fun v hv hvr => ?_) (dget_some hall hx) | obtain ⟨v, hv, hvr⟩ := dget_some hall hx)
  refine call_meetsIn PySem.F.slot_dict_pop hD.typeIs PySem.F.entry_dict_pop (PySem.F.args_dict_pop_2 _ _) (meets_dict_pop_there (intKind PG w) d (intKind_is _ _ _ _) [] (.inl rfl) rfl) ⟨vs, v, hD, by rw [← hall.length]; exact hs, hv, fun h' hm' hs' => ?_⟩
  (first | refine e0a3 (fun o' ho' hd' => ?_) (Heap.dictOf_iff.mp hm') | refine e1a2 (fun o' ho' hd' => ?_) (Heap.dictOf_iff.mp hm') | refine e2a1 (fun o' ho' hd' => ?_) (Heap.dictOf_iff.mp hm') | obtain ⟨o', ho', hd'⟩ := Heap.dictOf_iff.mp hm')
  obtain ⟨I', T'⟩ := I.change hd hs' ho' (mo' := .idict (ddel k kvs)) ⟨_, hd', ddel_without hall (by obtain ⟨_, _, _, _, _, _, hn⟩ := hdo; exact hn)⟩
  exact K _ x _ _ _ I' T' hvr q

theorem cmp_notinI {d : Addr} {kvs : List (Int × MV)} {k : Int} {vk vd : Value} {Q : MV → Store → Prop} (hk : VR (.int k) vk) (hv : VR (.ref d) vd) (hd : st d = some (.idict kvs)) (q : Q (.bool (!(dget k kvs).isSome)) st) : Ev w b₀ c env E (compareOp .NotIn vk vd) VR lm st Q := fun s m P I S K => by
  obtain ⟨t, rfl⟩ := hk; cases hv
  obtain ⟨o, ho, ⟨vs, hdo, hall⟩, _⟩ := I.rep d _ hd
  have hD : s.heap.DictOf (intKind PG w) d vs := Heap.dictOf_iff.mpr ⟨o, ho, hdo⟩
  exact wpAny_notIn_of (intKind_is _ _ _ _) (I.notModules hd) hD.mapOf (K _ (.bool (!(dget k kvs).isSome)) s.heap _ st I (Step.refl _ _ _) (by rw [dget_isSome hall]; rfl) q)
theorem cmp_notinIU {d : Addr} {kvs : List (Int × MV)} {k : Int} {Q : MV → Store → Prop} (hd : st d = some (.idict kvs)) (q : Q (.bool (!(dget k kvs).isSome)) st) : ∀ vk vd, VR (.int k) vk → VR (.ref d) vd → Ev w b₀ c env E (compareOp .NotIn vk vd) VR lm st Q := fun vk vd hk hv => cmp_notinI hk hv hd q

def isI (k : Int) : Value → Bool
  | .int i _ => i == k
  | _ => false
theorem any_isI {k : Int} {ks : List Int} {vs : List Value} (h : All2 VR (ks.map MV.int) vs) : vs.any (isI k) = ks.any (· == k) := by
  induction ks generalizing vs with
  | nil => cases h; rfl
  | cons i ks ih =>
    cases h with
    | cons r t => obtain ⟨u, rfl⟩ := r; rw [List.any_cons, List.any_cons, ih t]; rfl
theorem all_ints {ks : List Int} {vs : List Value} (h : All2 VR (ks.map MV.int) vs) : ∀ y ∈ vs, ∃ i t, y = .int i t := by
  induction ks generalizing vs with
  | nil => cases h; intro y hy; cases hy
  | cons i ks ih =>
    cases h with
    | cons r t =>
      obtain ⟨u, rfl⟩ := r
      intro y hy
      rcases List.mem_cons.mp hy with rfl | hy
      · exact ⟨_, _, rfl⟩
      · exact ih t y hy
theorem cmp_notinL {l : Addr} {ks : List Int} {k : Int} {vk vl : Value} {Q : MV → Store → Prop} (hk : VR (.int k) vk) (hv : VR (.ref l) vl) (hl : st l = some (.list (ks.map .int))) (q : Q (.bool (!ks.any (· == k))) st) : Ev w b₀ c env E (compareOp .NotIn vk vl) VR lm st Q := fun s m P I S K => by
  obtain ⟨t, rfl⟩ := hk; cases hv
  obtain ⟨ol, hol, ⟨its, nl, rfl, hall⟩, _⟩ := I.rep l _ hl
  refine notIn_listAt (isI k) ⟨_, hol, rfl, nl, rfl⟩ (fun y hy => ?_) (K _ (.bool (!ks.any (· == k))) s.heap _ st I (Step.refl _ _ _) ?_ q)
  · obtain ⟨i, u, rfl⟩ := all_ints hall y (Array.mem_toList_iff.mpr hy)
    exact EqAt.int_int i u k t
  · rw [← any_isI hall, ← Array.any_toList]; rfl
theorem cmp_notinLU {l : Addr} {ks : List Int} {k : Int} {Q : MV → Store → Prop} (hl : st l = some (.list (ks.map .int))) (q : Q (.bool (!ks.any (· == k))) st) : ∀ vk vl, VR (.int k) vk → VR (.ref l) vl → Ev w b₀ c env E (compareOp .NotIn vk vl) VR lm st Q := fun vk vl hk hv => cmp_notinL hk hv hl q

/-! lists against lists -/
theorem cmp_eq_nil {l b : Addr} {vs : List MV} {vl vb : Value} {n : Nat} {Q : MV → Store → Prop} (hc : c.OK n) (ha : VR (.ref l) vl) (hb : VR (.ref b) vb) (hl : st l = some (.list vs)) (he : st b = some (.list [])) (q : Q (.bool vs.isEmpty) st) :
    Ev w b₀ c env E (compareOp .Eq vl vb) VR lm st Q := fun s m P I S K => by
  cases ha; cases hb
  obtain ⟨ol, hol, ⟨its, nl, rfl, hall⟩, _⟩ := I.rep l _ hl
  obtain ⟨ob, hob, ⟨itb, nb, rfl, hallb⟩, _⟩ := I.rep b _ he
  have hz := all2_toList hall
  have hzb : itb.size = 0 := all2_toList hallb
  have hu : c.A.units < cLine := by have := hc.u; show c.un < cLine; omega
  have L : s.heap.IsList l its := ⟨_, hol, rfl, nl, rfl⟩
  have B : s.heap.IsList b itb := ⟨_, hob, rfl, nb, rfl⟩
  cases vs with
  | nil =>
    have hz : its.size = 0 := hz
    exact eq_listAt (e := fun _ => true) L B (by rw [hz, hzb]) hu (fun j h1 => by omega) (K _ (.bool true) s.heap _ st I (Step.refl _ _ _) (by rw [hz]; rfl) q)
  | cons v vs =>
    have hz : its.size = vs.length + 1 := hz
    exact eq_list_lengthsAt L B (by rw [hz, hzb]; rfl) hu (K _ (.bool false) s.heap _ st I (Step.refl _ _ _) rfl q)
theorem cmp_eq_nilU {l b : Addr} {vs : List MV} {n : Nat} {Q : MV → Store → Prop} (hc : c.OK n) (hl : st l = some (.list vs)) (he : st b = some (.list [])) (q : Q (.bool vs.isEmpty) st) : ∀ vl vb, VR (.ref l) vl → VR (.ref b) vb → Ev w b₀ c env E (compareOp .Eq vl vb) VR lm st Q := fun vl vb ha hb => cmp_eq_nil hc ha hb hl he q
theorem cmp_ne_nil {l b : Addr} {vs : List MV} {vl vb : Value} {n : Nat} {Q : MV → Store → Prop} (hc : c.OK n) (ha : VR (.ref l) vl) (hb : VR (.ref b) vb) (hl : st l = some (.list vs)) (he : st b = some (.list [])) (q : Q (.bool (!vs.isEmpty)) st) :
    Ev w b₀ c env E (compareOp .NotEq vl vb) VR lm st Q := fun s m P I S K => by
  cases ha; cases hb
  obtain ⟨ol, hol, ⟨its, nl, rfl, hall⟩, _⟩ := I.rep l _ hl
  obtain ⟨ob, hob, ⟨itb, nb, rfl, hallb⟩, _⟩ := I.rep b _ he
  have hz := all2_toList hall
  have hzb : itb.size = 0 := all2_toList hallb
  have hu : c.A.units < cLine := by have := hc.u; show c.un < cLine; omega
  show wpAny (model PG w) c.A (richCompare .NotEq (.ref l) (.ref b)) P E s
  cases vs with
  | nil =>
    have hz : its.size = 0 := hz
    exact richCompare_meets_room (op := .NotEq) ⟨_, hol, rfl⟩ ⟨_, hob, rfl⟩ PySem.F.slot_list_ne PySem.F.entry_list_ne (PySem.F.args_list_ne_2 _ _) (list_neAt l b its itb nl nb none none #[] #[] (by rw [hz, hzb]) (fun _ => true))
      ⟨hol, hob, (fun j h1 => by omega), (fun x => nomatch x), K _ (.bool false) s.heap _ st I (Step.refl _ _ _) (by rw [hz]; rfl) q⟩ hu
  | cons v vs =>
    have hz : its.size = vs.length + 1 := hz
    exact richCompare_meets_room (op := .NotEq) ⟨_, hol, rfl⟩ ⟨_, hob, rfl⟩ PySem.F.slot_list_ne PySem.F.entry_list_ne (PySem.F.args_list_ne_2 _ _) (list_ne_lengthsAt l b its itb nl nb none none #[] #[] (by rw [hz, hzb]; rfl))
      ⟨hol, hob, (fun x => nomatch x), K _ (.bool true) s.heap _ st I (Step.refl _ _ _) rfl q⟩ hu
/-- a list of the same numbers -/
theorem cmp_ne_nilU {l b : Addr} {vs : List MV} {n : Nat} {Q : MV → Store → Prop} (hc : c.OK n) (hl : st l = some (.list vs)) (he : st b = some (.list [])) (q : Q (.bool (!vs.isEmpty)) st) : ∀ vl vb, VR (.ref l) vl → VR (.ref b) vb → Ev w b₀ c env E (compareOp .NotEq vl vb) VR lm st Q := fun vl vb ha hb => cmp_ne_nil hc ha hb hl he q
theorem cmp_eq_ints {l b : Addr} {ks : List Int} {vl vb : Value} {n : Nat} {Q : MV → Store → Prop} (hc : c.OK n) (ha : VR (.ref l) vl) (hb : VR (.ref b) vb) (hl : st l = some (.list (ks.map .int))) (he : st b = some (.list (ks.map .int))) (q : Q (.bool true) st) :
    Ev w b₀ c env E (compareOp .Eq vl vb) VR lm st Q := fun s m P I S K => by
  cases ha; cases hb
  obtain ⟨ol, hol, ⟨its, nl, rfl, hall⟩, _⟩ := I.rep l _ hl
  obtain ⟨ob, hob, ⟨itb, nb, rfl, hallb⟩, _⟩ := I.rep b _ he
  have hz := all2_toList hall
  have hzb := all2_toList hallb
  have hu : c.A.units < cLine := by have := hc.u; show c.un < cLine; omega
  refine eq_listAt (e := fun _ => true) ⟨_, hol, rfl, nl, rfl⟩ ⟨_, hob, rfl, nb, rfl⟩ (by rw [hz, hzb]) hu (fun j h1 h2 => ?_) (K _ (.bool true) s.heap _ st I (Step.refl _ _ _) (by simp [VR]) q)
  have e1 : its.toList[j]? = some its[j] := by simp [h1]
  have e2 : itb.toList[j]? = some itb[j] := by simp [h2]
  (first | refine e0a3 (fun x hx r => ?_) (hall.get' e1) | refine e1a2 (fun x hx r => ?_) (hall.get' e1) | refine e2a1 (fun x hx r => ?_) (hall.get' e1) | obtain ⟨x, hx, r⟩ := hall.get' e1)
  (first | refine e0a3 (fun y hy r' => ?_) (hallb.get' e2) | refine e1a2 (fun y hy r' => ?_) (hallb.get' e2) | refine e2a1 (fun y hy r' => ?_) (hallb.get' e2) | obtain ⟨y, hy, r'⟩ := hallb.get' e2)
  rw [hx] at hy; cases hy
  rw [List.getElem?_map] at hx
  obtain ⟨i, _, rfl⟩ := Option.map_eq_some_iff.mp hx
  obtain ⟨t, e3⟩ := r; obtain ⟨u, e4⟩ := r'
  rw [e3, e4]
  have := EqAt.int_int (A := c.A.in1) (s := s) i t i u
  rwa [beq_self_eq_true] at this
/-- a channel against a channel -/
theorem cmp_eq_intsU {l b : Addr} {ks : List Int} {n : Nat} {Q : MV → Store → Prop} (hc : c.OK n) (hl : st l = some (.list (ks.map .int))) (he : st b = some (.list (ks.map .int))) (q : Q (.bool true) st) : ∀ vl vb, VR (.ref l) vl → VR (.ref b) vb → Ev w b₀ c env E (compareOp .Eq vl vb) VR lm st Q := fun vl vb ha hb => cmp_eq_ints hc ha hb hl he q
theorem cmp_eq_chan {a b : Addr} {x : Str} {i j : Int} {va vb : Value} {n : Nat} {Q : MV → Store → Prop} (hc : c.OK n) (ha : VR (.ref a) va) (hb : VR (.ref b) vb) (sa : st a = some (.tuple [.str x, .int i])) (sb : st b = some (.tuple [.str x, .int j])) (q : Q (.bool (decide (i = j))) st) :
    Ev w b₀ c env E (compareOp .Eq va vb) VR lm st Q := fun s m P I S K => by
  cases ha; cases hb
  obtain ⟨oa, hoa, ⟨ita, na, rfl, hall⟩, _⟩ := I.rep a _ sa
  obtain ⟨ob, hob, ⟨itb, nb, rfl, hallb⟩, _⟩ := I.rep b _ sb
  have hu : c.A.units < cLine := by have := hc.u; show c.un < cLine; omega
  obtain ⟨t1, t2, ea⟩ : ∃ t1 t2, ita = #[.str x t1, .int i t2] := by
    cases hits : ita.toList with
    | nil => rw [hits] at hall; cases hall
    | cons y ys =>
      rw [hits] at hall
      cases hall with
      | cons r1 t => cases t with
        | cons r2 t => cases t; obtain ⟨t1, rfl⟩ := r1; obtain ⟨t2, rfl⟩ := r2; exact ⟨t1, t2, by rw [← Array.toArray_toList (xs := ita), hits]⟩
  obtain ⟨u1, u2, eb⟩ : ∃ t1 t2, itb = #[.str x t1, .int j t2] := by
    cases hits : itb.toList with
    | nil => rw [hits] at hallb; cases hallb
    | cons y ys =>
      rw [hits] at hallb
      cases hallb with
      | cons r1 t => cases t with
        | cons r2 t => cases t; obtain ⟨t1, rfl⟩ := r1; obtain ⟨t2, rfl⟩ := r2; exact ⟨t1, t2, by rw [← Array.toArray_toList (xs := itb), hits]⟩
  subst ea; subst eb
  refine eq_tupleAt (e := fun z => z == 0 || i == j) ⟨_, hoa, rfl, na, rfl⟩ ⟨_, hob, rfl, nb, rfl⟩ hu (fun z h1 h2 => ?_) (K _ (.bool (decide (i = j))) s.heap _ st I (Step.refl _ _ _) ?_ q)
  · match z, h1, h2 with
    | 0, _, _ => have := EqAt.str_str (A := c.A.in1) (s := s) x t1 x u1; rw [beq_self_eq_true] at this; exact this
    | 1, _, _ => exact EqAt.int_int (A := c.A.in1) (s := s) i t2 j u2
  · show Value.bool _ = Value.bool _
    congr 1
    show (true && ((false || i == j) && true) && true) = decide (i = j)
    simp only [Bool.true_and, Bool.and_true, Bool.false_or]
    rfl
end
end PartM9
section PartE1
open PySem PySem.W PyProof.Rows PySem.Spec PySem.Calls
open PySem.Sem (wp)

structure ExcCls (bm : List Value) : Prop where
  v : bm.contains (.type "ValueError") = true
  b : bm.contains (.type "BaseException") = true
  a : bm.contains (.type "AttributeError") = false
  n : bm.contains (.type "NameError") = false

section
variable {w : World} {A : Around} {E : Value → Shared → Prop} {h : Heap} {g : Array GenState} {d : Drawn} {t : Nat} {os : OsState}
variable {nm q : Str} {C N : Addr} {bs bm : List Value} {hdct : Bool} {sn : List Str} {sub : List Value} {ab : Bool} {col : Option Bool} {dd : Option Addr} {k0 k1 k2 k3 k5 : Option Value}

theorem exc_check_new (X : ExcCls bm) {rest : List Value} {Q : Unit → Shared → Prop} (hC : h.get? C = some (excClassObj nm q C N bs bm hdct sn sub ab col dd k0 k1 k2 k3 k5 "ValueError.__new__"))
    (hq : Q () ⟨h, g, d, t, os⟩) : wpAny (model PG w) A (checkBuiltinCall "ValueError.__new__" ⟨.ref C :: rest, []⟩) Q E ⟨h, g, d, t, os⟩ := by
  have F := PySem.F.excBase_ValueError
  have hcont : (Value.ref C :: bm).contains (.type "ValueError") = true := by rw [List.contains_cons, X.v, Bool.or_true]
  simp only [checkBuiltinCall, F.newKind, F.newSplit, F.newRow]
  repeat (first | refine wpAny_loadPart_at hC ?_ | (refine wpAny_isSubtype_exc hC ?_; rw [hcont]) | refine wpAny_staticBase_exc hC ?_ | refine wpAny_madeBy_exc hC ?_ | simp only [bne_self_eq_false, Bool.false_eq_true, if_false] | wp_step)
  exact hq

theorem exc_new {R : Result → Shared → Prop} (X : ExcCls bm) {rest : List Value} (hC : h.get? C = some (excClassObj nm q C N bs bm hdct sn sub ab col dd k0 k1 k2 k3 k5 "ValueError.__new__"))
    (hq : R (.ok (.ret (.ref (h.objs.size + 1)))) ⟨(h.push { cls := .type "tuple", data := .seq rest.toArray }).push
      { cls := .ref C, data := .fields #[.ref h.objs.size, .none, .none, .none, .bool false, .none] }, g, d, t, os⟩) (hrest : rest.length ≤ sizeLine := by size_fits) :
    codeAny (model PG w) A (.builtin "ValueError.__new__" ⟨.ref C :: rest, []⟩) R ⟨h, g, d, t, os⟩ := by
  have F := PySem.F.excBase_ValueError
  have hends := F.ends
  have hcB : (Value.ref C :: bm).contains (.type "ValueError") = true := by rw [List.contains_cons, X.v, Bool.or_true]
  have hcA : (Value.ref C :: bm).contains (.type "AttributeError") = false := by rw [List.contains_cons, X.a]; rfl
  have hcN : (Value.ref C :: bm).contains (.type "NameError") = false := by rw [List.contains_cons, X.n]; rfl
  refine codeAny_builtinAt F.entry ?_
  unfold Builtin.«BaseException.__new__»
  refine PySem.wpAt_bind ?_
  show PySem.wpAt _ _ _ (stack >>= _) _ _ _
  refine PySem.wpAt_bind (PySem.wpAt_stack fun p below => PySem.wpAt_of_wpAny ?_)
  wp_walk
  refine PySem.wpAt_of_wpAny ?_
  rw [F.owner]
  repeat (first | with_reducible refine wpAny_madeHere_exc F.canon hC ?_ | with_reducible refine wpAny_loadPart_at hC ?_ | (with_reducible refine wpAny_isSubtype_exc hC ?_; first | rw [hcB] | rw [hcA] | rw [hcN]) | wp_step)
  show R _ _
  rw [Heap.size_push]
  exact hq

theorem exc_make {K : Frag} (KX : K.In h) (X : ExcCls bm) {rest : List Value} {fI : Addr} {Q : Value → Shared → Prop}
    (hC : h.get? C = some (excClassObj nm q C N bs bm hdct sn sub ab col dd k0 k1 k2 k3 k5 "ValueError.__new__")) (hi : findIn K (.ref C) "__init__" = some (some (.ref fI)))
    (hf : typeIn K (.ref fI) = some (.type "function"))
    (hq : ∀ h' e, Heap.MadeExcOf h h' e (.ref C) rest → h' = (h.push { cls := .type "tuple", data := .seq rest.toArray }).push { cls := .ref C, data := .fields #[.ref h.objs.size, .none, .none, .none, .bool false, .none] } → e = h.objs.size + 1 →
      wpAny (model PG w) (A.under (.builtin "type.__call__" ⟨.ref C :: rest, []⟩)) (call (.ref fI) (.ref e :: rest)) (fun r s' => r = .none ∧ Q (.ref e) s') E ⟨h', g, d, t, os⟩) (hrest : rest.length ≤ sizeLine := by size_fits) :
    wpAny (model PG w) A (call (.ref C) rest) Q E ⟨h, g, d, t, os⟩ := by
  have F := PySem.F.excBase_ValueError
  have f1 := tc_lookup
  have f2 := tc_bind (.ref C)
  have hT : (⟨h, g, d, t, os⟩ : Shared).TypeIs (.ref C) "type" := ⟨_, hC, rfl⟩
  refine wpAny_call (codeAny_of_tree ?_)
  show wpAny _ _ (callAny (.ref C) _) _ _ _
  repeat (any_goals (first | assumption | with_reducible refine wpAny_loadPart_at hC ?_ | wp_step))
  refine ⟨rfl, ?_⟩
  refine codeAny_call_builtin_at (Code.quiet_builtin _ (by decide +kernel)) entry_typeCall (wpAny_check_type_call_sub hC ?_)
  repeat (first | with_reducible refine wpAny_loadPart_at hC ?_ | with_reducible refine wpAny_madeBy_exc hC ?_ | wp_step)
  refine codeAny_call_builtin_code (Code.quiet_builtin _ F.quiet) (exc_check_new X hC ?_)
  refine exc_new X hC ?_ hrest
  show wpAny _ _ _ _ _ _
  have kp : ∀ b o, h.get? b = some o → ((h.push { cls := .type "tuple", data := .seq rest.toArray }).push { cls := .ref C, data := .fields #[.ref h.objs.size, .none, .none, .none, .bool false, .none] }).get? b = some o :=
    fun b o e => Heap.get?_push_of_some _ (Heap.get?_push_of_some _ e)
  have hC₁ := kp _ _ hC
  have hget : ((h.push { cls := .type "tuple", data := .seq rest.toArray }).push
      { cls := .ref C, data := .fields #[.ref h.objs.size, .none, .none, .none, .bool false, .none] }).get? (h.objs.size + 1) = some
      { cls := .ref C, data := .fields #[.ref h.objs.size, .none, .none, .none, .bool false, .none] } := by heap_get
  have hcC : (Value.ref C :: bm).contains (.ref C) = true := by simp
  have KX₁ := KX.keeps kp
  unfold isInstance
  refine wpAny_bind (wpAny_bind (wpAny_bind (wpAny_loadPart_at hget (wpAny_pure ?_))))
  refine wpAny_isSubtype_exc (C := C) hC₁ ?_
  rw [hcC]
  unfold callSpecial? specialOf
  repeat (first | with_reducible refine wpAny_loadPart_at hget ?_ | wp_step)
  show wpAny _ _ (typeLookup (.ref C) _) _ _ _
  refine (looks_findIn KX₁ hi).at ?_
  refine wpAny_holding (wpAny_bind ?_)
  refine (bind_fn KX₁ _ hf).at ?_
  refine wpAny_bind (wpAny_mono (hq _ (h.objs.size + 1) ⟨kp, Heap.get?_none_of_le (Nat.le_succ _), h.objs.size, hget, Heap.get?_none_of_le (Nat.le_refl _), Heap.get?_push_of_some _ (Heap.get?_push_at rfl rfl)⟩ rfl rfl) (fun r s' hr => ?_) fun _ _ x => x)
  obtain ⟨rfl, hQ⟩ := hr
  wp_walk
  exact hQ
end
end PartE1
section PartE2
open PySem PySem.W PyProof.Rows PySem.Spec PySem.Calls
open Builtin Builtin.ObjectAttr

abbrev excOb (C t : Addr) (d : Option Addr) : Obj := { cls := .ref C, dict := d, data := .fields #[.ref t, .none, .none, .none, .bool false, .none] }

section
variable {w : World} {A : Around} {E : Value → Shared → Prop} {h : Heap} {g : Array GenState} {d : Drawn} {tk : Nat} {os : OsState}
variable {nm q : Str} {C N : Addr} {bs bm : List Value} {hdct : Bool} {sn : List Str} {sub : List Value} {ab : Bool} {col : Option Bool} {dd : Option Addr} {k0 k1 k2 k3 k5 : Option Value}

theorem exc_init_check (X : ExcCls bm) {e : Addr} {oe : Obj} {rest : List Value} {Q : Unit → Shared → Prop}
    (hC : h.get? C = some (excClassObj nm q C N bs bm hdct sn sub ab col dd k0 k1 k2 k3 k5 "ValueError.__new__")) (he : h.get? e = some oe) (hcls : oe.cls = .ref C) (hq : Q () ⟨h, g, d, tk, os⟩) :
    wpAny (model PG w) A (checkBuiltinCall "ValueError.__init__" ⟨.ref e :: rest, []⟩) Q E ⟨h, g, d, tk, os⟩ := by
  have F := PySem.F.excBase_ValueError
  have hcB : (Value.ref C :: bm).contains (.type "ValueError") = true := by rw [List.contains_cons, X.v, Bool.or_true]
  have hshort := F.noStar
  simp only [checkBuiltinCall, F.initKind, F.initSplit, F.initRow]
  repeat (first | (with_reducible refine wpAny_loadPart_at he ?_; rw [hcls]) | with_reducible refine wpAny_loadPart_at hC ?_ | (with_reducible refine wpAny_isSubtype_exc hC ?_; rw [hcB]) | wp_step)
  refine wpAny_onRaise ?_
  rw [show ∀ (a b : String) (n : Nat), Bind.check ⟨.positional, "*", "ValueError", .self, [⟨"args", .varPos, false⟩]⟩ a b n (List.map (fun x => x.fst) ({ pos := Value.ref e :: rest } : Args).kw) = pure () from
    fun a b n => check_star_args _ _ _ _ _ _]
  exact wpAny_pure hq

theorem exc_init (X : ExcCls bm) {e t : Addr} {dx : Option Addr} {v : Value} {Q : Value → Shared → Prop} (hC : h.get? C = some (excClassObj nm q C N bs bm hdct sn sub ab col dd k0 k1 k2 k3 k5 "ValueError.__new__"))
    (he : h.get? e = some (excOb C t dx))
    (hq : ∀ h' t', h'.get? e = some (excOb C t' dx) → (∀ b o, b ≠ e → h.get? b = some o → h'.get? b = some o) → Q .none ⟨h', g, d, tk, os⟩) :
    wpAny (model PG w) A (call (.builtin "ValueError.__init__") [.ref e, v]) Q E ⟨h, g, d, tk, os⟩ := by
  have F := PySem.F.excBase_ValueError
  refine wpAny_call (codeAny_call_builtin F.init.plain F.initEntry (exc_init_check X hC he rfl ?_))
  unfold Builtin.«BaseException.__init__»
  wp_walk
  refine hq _ h.objs.size ?_ fun b o hb ho => ?_
  · rw [Heap.get?_update_self _ (Heap.get?_push_of_some _ he) rfl]
    rfl
  · rw [Heap.get?_update_other _ _ (Ne.symm hb)]
    exact Heap.get?_push_of_some _ ho

theorem exc_set {K : Frag} {s : Shared} (KX : K.In s.heap) {e t : Addr} {name : Str} {v : Value} {Q : Unit → Shared → Prop} (he : s.heap.get? e = some (excOb C t none))
    (hsub : subIn K (.ref C) (.type "object") = some true) (hs : findIn K (.ref C) "__setattr__" = some (some (.builtin "object.__setattr__"))) (hn : findIn K (.ref C) name = some none)
    {cd : ClassData} (hc : clsIn K C = some cd) (hd : cd.hasDict = true) {c1 : Addr} (hm : cd.mro = [.ref C, .ref c1, .type "ValueError", .type "Exception", .type "BaseException", .type "object"])
    (hq : ∀ h' t' dx, h'.get? e = some (excOb C t dx) → (∀ b o, b ≠ e → s.heap.get? b = some o → h'.get? b = some o) → Q () { s with heap := h', toks := t' }) :
    wpAny (model PG w) A (setAttr (.ref e) name v) Q E s := by
  (first | refine e0a5 (fun h g d tk os => ?_) (s) | refine e1a4 (fun h g d tk os => ?_) (s) | refine e2a3 (fun h g d tk os => ?_) (s) | refine e3a2 (fun h g d tk os => ?_) (s) | obtain ⟨h, g, d, tk, os⟩ := s); try clear s
  dsimp only at KX he hq
  have SF := PySem.F.store_ValueError
  have IA : InstAt h e (excOb C t none) C none := ⟨he, rfl, rfl, trivial⟩
  refine set_plain (s := ⟨h, g, d, tk, os⟩) KX IA hs ?_
  have tp : Looks (model PG w) h (typeOf (.ref e)) (.ref C) := (Looks.ld he).andThen .now
  have sub : Looks (model PG w) h (isInstance (.ref e) (.type "object")) true := tp.andThen (looks_subIn KX hsub)
  have S0 := PySem.F.store_object
  refine codeAny_call_builtin S0.slot.plain S0.entry (@check_slot (model PG w) _ _ ⟨h, g, d, tk + 1, os⟩ "object.__setattr__" "object" "__setattr__" (.ref e) [.str name tk, v] [] _ S0.kind S0.split sub (S0.args (.ref e) (.str name tk) v) ?_)
  rw [osa_eq, refuse_eq]
  have hmro : Looks (model PG w) h (mroOf (.ref C)) cd.mro := (looks_clsIn KX hc).andThen .now
  refine wpAny_bind (wpAny_bind (tp.at (wpAny_bind (hmro.at ?_))))
  rw [hm, refuseLoop_ref, refuseLoop_ref, SF.passes]
  refine wpAny_pure (wpAny_bind (tp.at (wpAny_bind ((looks_findIn KX hn).at ?_))))
  refine wpAny_bind (wpAny_pure ?_)
  show wpAny _ _ (storeInOwnDict (.ref e) (.ref C) (.str name tk) name v false) _ _ _
  unfold storeInOwnDict
  refine wpAny_bind (wpAny_pure ?_)
  show wpAny _ _ (instanceDict e true >>= _) _ _ _
  refine wpAny_bind ?_
  unfold instanceDict
  refine wpAny_bind (wpAny_loadPart_at he ?_)
  show wpAny _ _ (classData C >>= _) _ _ _
  refine wpAny_bind ((looks_clsIn KX hc).at ?_)
  rw [hd]
  have hx₁ : (h.push { cls := .type "dict", data := .dict #[] }).get? e = some (excOb C t none) := Heap.get?_push_of_some _ he
  have hxs : e ≠ h.objs.size := Nat.ne_of_lt (Heap.lt_size he)
  refine wpAny_bind (wpAny_alloc' ?_)
  refine wpAny_bind (wpAny_update' hx₁ ?_)
  refine wpAny_pure ?_
  have hgd : ((h.push { cls := .type "dict", data := .dict #[] }).update e fun o => { cls := o.cls, dict := some h.objs.size, data := o.data, slots := o.slots }).get? h.objs.size
      = some { cls := .type "dict", data := .dict #[] } :=
    (Heap.get?_update_ne _ _ _ _ hxs.symm).trans (Heap.get?_push_at rfl rfl)
  have hnd : ((h.push { cls := .type "dict", data := .dict #[] }).update e fun o => { cls := o.cls, dict := some h.objs.size, data := o.data, slots := o.slots }).Ns h.objs.size (fun _ => none) :=
    ⟨_, #[], _, hgd, rfl, fun e he => absurd he (by simp), fun _ => rfl⟩
  show wpAny _ _ (storeInDict h.objs.size (.str name _) name v) _ _ _
  unfold storeInDict newKeyGuard
  refine wpAny_bind (wpAny_pure (wpAny_bind (wpAny_nsSet1 (Heap.Ns1.of_empty hnd) fun h' hn' hs => ?_)))
  (first | refine e3a3 (fun oD esD epD hoD hdD hcD => ?_) (hn'.count (Within.cons name v Within.nil)) | obtain ⟨oD, esD, epD, hoD, hdD, hcD⟩ := hn'.count (Within.cons name v Within.nil))
  refine wpAny_bind (wpAny_lookBehind hoD (by rw [hdD]; exact pastItsLine_dict (Nat.le_trans hcD (by rw [List.length_cons, List.length_nil, sizeLine_eq]; omega))) ?_)
  wp_walk
  refine hq h' _ (some h.objs.size) ?_ (fun b ob hbx hb => ?_)
  · exact (hs.2 e hxs).trans (Heap.get?_update_self _ hx₁ rfl)
  · exact (hs.2 b (Nat.ne_of_lt (Heap.lt_size hb))).trans ((Heap.get?_update_ne _ _ _ _ hbx).trans (Heap.get?_push_of_some _ hb))
end
end PartE2
section PartE3
open PySem PySem.W PyProof.Rows PySem.Spec PySem.Calls

def frs (l : List Env) : List Addr := l.filterMap (·.frame)
theorem mem_frs {l : List Env} {b : Addr} : b ∈ frs l ↔ ∃ e ∈ l, e.frame = some b := List.mem_filterMap

structure Fly (w : World) (b₀ B : Heap) (l : List Env) (st : Store) (C e : Addr) (h : Heap) : Prop where
  base : b₀.StaysIn B
  rep : ∀ a mo, st a = some mo → ∃ o, B.get? a = some o ∧ OR w mo o ∧ Above b₀ a
  fly : ∃ a0, Heap.FlyingW B l e (.ref C) a0 h

def XStep (c : Cx) (st : Store) (h : Heap) (st' : Store) (B h' : Heap) : Prop :=
  ∀ b o, h.get? b = some o → st b = none → b ≠ c.L → st' b = none ∧ (B.get? b = some o ∨ ((∃ e ∈ c.outer, e.frame = some b) ∧ ∃ sl, h'.get? b = some { o with slots := sl }))
def LK (c : Cx) (h h' : Heap) : Prop := ∀ o, h.get? c.L = some o → ∃ sl, h'.get? c.L = some { o with slots := sl }

theorem Fly.stays {w b₀ B l st C e h} (F : Fly w b₀ B l st C e h) : B.StaysIn h := let ⟨_, f, _⟩ := F.fly; f
theorem XStep.after {c : Cx} {st st₁ st' : Store} {h h₁ B h' : Heap} (T : Step c st h st₁ h₁) (k : B.StaysIn h') (X : XStep c st₁ h₁ st' B h') : XStep c st h st' B h' := fun b o e n q => by
  obtain ⟨n₁, e₁⟩ := T b o e n q
  rcases e₁ with e₁ | ⟨f, sl, e₁⟩
  · exact X b o e₁ n₁ q
  · obtain ⟨n₂, e₂⟩ := X b _ e₁ n₁ q
    rcases e₂ with e₂ | ⟨_, sl', e₂⟩
    · exact ⟨n₂, .inr ⟨f, sl, k _ _ e₂⟩⟩
    · exact ⟨n₂, .inr ⟨f, sl', e₂⟩⟩

/-- an evaluation that may raise an object of the class C -/
def EvX {α β : Type} (w : World) (b₀ : Heap) (c : Cx) (env : Env) (t : Sem α) (R : β → α → Prop) (lm : LM) (st : Store) (Q : β → Store → Prop) (C : Addr) (QE : Store → Prop) : Prop :=
  ∀ (s : Shared) (m : Str → Option Value) (P : α → Shared → Prop) (E : Value → Shared → Prop), In w b₀ c st s.heap m → Sees c env st s.heap m lm →
    (∀ v x h' tk st', In w b₀ c st' h' m → Step c st s.heap st' h' → R x v → Q x st' → P v { s with heap := h', toks := tk }) →
    (∀ e B h' tk st', Fly w b₀ B (c.env :: c.outer) st' C e h' → XStep c st s.heap st' B h' → (∀ b o, (∃ e ∈ c.outer, e.frame = some b) → s.heap.get? b = some o → ∃ sl, h'.get? b = some { o with slots := sl }) → h'.Ns c.L m → QE st' → E (.ref e) { s with heap := h', toks := tk }) → wpAny (model PG w) c.A t P E s

/-- made, not yet let go -/
structure MadeE (b₀ : Heap) (c : Cx) (st₀ st : Store) (h₀ : Heap) (C e : Addr) (h : Heap) : Prop where
  obj : ∃ t d, h.get? e = some (excOb C t d)
  st : st e = none
  L : e ≠ c.L
  nf : NF c e
  b : b₀.get? e = none
  new : ∀ o, h₀.get? e = some o → st₀ e = none → False

def ExX (w : World) (b₀ : Heap) (c : Cx) (env : Env) (t : Sem Flow) (lm : LM) (st : Store) (Q : MF → LM → Store → Prop) (C : Addr) (QE : Store → Prop) : Prop :=
  ∀ (s : Shared) (m : Str → Option Value) (P : Flow → Shared → Prop) (E : Value → Shared → Prop), In w b₀ c st s.heap m → Sees c env st s.heap m lm →
    (∀ f x h' tk m' st' lm', In w b₀ c st' h' m' → Step c st s.heap st' h' → Sees c env st' h' m' lm' → FR x f → Q x lm' st' → P f { s with heap := h', toks := tk }) →
    (∀ e B h' tk st', Fly w b₀ B (c.env :: c.outer) st' C e h' → XStep c st s.heap st' B h' → (∀ b o, (∃ e ∈ c.outer, e.frame = some b) → s.heap.get? b = some o → ∃ sl, h'.get? b = some { o with slots := sl }) → QE st' → E (.ref e) { s with heap := h', toks := tk }) →
    (∀ e h' tk st' m', In w b₀ c st' h' m' → Step c st s.heap st' h' → MadeE b₀ c st st' s.heap C e h' → QE st' → E (.ref e) { s with heap := h', toks := tk }) → wpAny (model PG w) c.A t P E s

section
variable {w : World} {b₀ : Heap} {mean : ExcName → Option Value} {mg mb : Str → Option Value} {c : Cx} {env : Env} {E : Value → Shared → Prop} {lm : LM} {st : Store} {C : Addr} {QE : Store → Prop}

theorem ExX.of {t : Sem Flow} {Q : MF → LM → Store → Prop} (h : ∀ E, Ex w b₀ c env E t lm st Q) : ExX w b₀ c env t lm st Q C QE := fun s m P E I S k _ _ => h E s m P I S k

theorem MadeE.after {st st₁ st₂ : Store} {h₀ h₁ h : Heap} {e : Addr} (T : Step c st h₀ st₁ h₁) (M : MadeE b₀ c st₁ st₂ h₁ C e h) : MadeE b₀ c st st₂ h₀ C e h := by
  refine ⟨M.obj, M.st, M.L, M.nf, M.b, fun o q n => ?_⟩
  obtain ⟨n₁, q₁ | ⟨_, sl, q₁⟩⟩ := T e o q n M.L
  · exact M.new _ q₁ n₁
  · exact M.new _ q₁ n₁

theorem execs_bind (x : Stmt) (rest : List Stmt) (env : Env) : execs (x :: rest) env = execs [x] env >>= fun f => match f with | .next => execs rest env | f => pure f := by
  have e1 : execs (x :: rest) env = exec x env >>= fun f => match f with | .next => execs rest env | f => pure f := by rw [execs]; rfl
  have e2 : execs [x] env = exec x env >>= fun f => match f with | .next => execs [] env | f => pure f := by rw [execs]; rfl
  have e3 : execs [] env = pure .next := by rw [execs]
  rw [e1, e2, bind_assoc]
  congr 1
  funext f
  cases f <;> simp [e3]

theorem slots_after {h h₁ h' : Heap} {st₁ : Store} (T : Step c st h st₁ h₁) (n : ∀ b, (∃ e ∈ c.outer, e.frame = some b) → st b = none ∧ b ≠ c.L)
    (k : ∀ b o, (∃ e ∈ c.outer, e.frame = some b) → h₁.get? b = some o → ∃ sl, h'.get? b = some { o with slots := sl }) :
    ∀ b o, (∃ e ∈ c.outer, e.frame = some b) → h.get? b = some o → ∃ sl, h'.get? b = some { o with slots := sl } := fun b o f e => by
  obtain ⟨n1, n2⟩ := n b f
  obtain ⟨_, q | ⟨_, sl, q⟩⟩ := T b o e n1 n2
  · exact k b o f q
  · obtain ⟨sl', q'⟩ := k b _ f q; exact ⟨sl', q'⟩
theorem In.outs {st : Store} {h : Heap} {m : Str → Option Value} (I : In w b₀ c st h m) : ∀ b, (∃ e ∈ c.outer, e.frame = some b) → st b = none ∧ b ≠ c.L := fun b ⟨e, he, hf⟩ => I.nf e he b hf

theorem frame_data {st : Store} {h : Heap} {m : Str → Option Value} {b : Addr} {o : Obj} (I : In w b₀ c st h m) (hf : ∃ e ∈ c.outer, e.frame = some b) (hb : h.get? b = some o) : ∀ vs, o.data ≠ .fields vs := by
  (first | refine e0a3 (fun e he hf => ?_) (hf) | refine e1a2 (fun e he hf => ?_) (hf) | refine e2a1 (fun e he hf => ?_) (hf) | obtain ⟨e, he, hf⟩ := hf)
  have key : ∀ l : List Env, h.FunFrames b₀ l → ∀ e ∈ l, e.frame = some b → ∀ vs, o.data ≠ .fields vs := by
    intro l
    induction l with
    | nil => intro _ e he; cases he
    | cons e l ih =>
      intro hfr e' he' hf'
      obtain ⟨_, ⟨L'', o'', hfr', _, ho, hd⟩, hr⟩ := hfr
      rcases List.mem_cons.mp he' with rfl | z
      · rw [hfr'] at hf'; cases hf'; rw [hb] at ho; cases ho; exact hd
      · exact ih hr e' z hf'
  exact key _ I.ff e he hf

/-- first a statement that does not raise -/
theorem exX_cons {x : Stmt} {rest : List Stmt} {Q : MF → LM → Store → Prop}
    (h : ∀ E, Ex w b₀ c env E (execs [x] env) lm st fun f lm₁ st₁ => match f with | .next => ExX w b₀ c env (execs rest env) lm₁ st₁ Q C QE | f => Q f lm₁ st₁) : ExX w b₀ c env (execs (x :: rest) env) lm st Q C QE := fun s m P E I S k kx km => by
  rw [execs_bind]
  refine wpAny_bind (h E s m _ I S fun f y h' tk m' st' l' I' T S' hr q => ?_)
  cases y with
  | next =>
    cases hr
    exact q _ m' P E I' S' (fun f₂ x₂ h₂ tk₂ m₂ st₂ l₂ I₂ T₂ S₂ hr₂ q₂ => k f₂ x₂ h₂ tk₂ m₂ st₂ l₂ I₂ (T.trans T₂) S₂ hr₂ q₂)
      (fun e B h₂ tk₂ st₂ F X sl q₂ => kx e B h₂ tk₂ st₂ F (X.after T F.stays) (slots_after T I.outs sl) q₂)
      (fun e h₂ tk₂ st₂ m₂ I₂ T₂ M q₂ => km e h₂ tk₂ st₂ m₂ I₂ (T.trans T₂) (M.after T) q₂)
  | brk => cases hr; exact wpAny_pure (k _ .brk h' tk m' st' l' I' T S' rfl q)
  | cont => cases hr; exact wpAny_pure (k _ .cont h' tk m' st' l' I' T S' rfl q)
  | ret mv => obtain ⟨v, hv, rfl⟩ := hr; exact wpAny_pure (k _ (.ret mv) h' tk m' st' l' I' T S' ⟨v, hv, rfl⟩ q)

theorem exX_if {e : Expr} {pos : Pos} {body orelse rest : List Stmt} {Q : MF → LM → Store → Prop}
    (h : ∀ E, Ev w b₀ c env E (isTrue e env (eval e env)) Eq lm st fun b st₁ => if b = true then ExX w b₀ c env (execs body env) lm st₁ (fun f l s => match f with | .next => ExX w b₀ c env (execs rest env) l s Q C QE | f => Q f l s) C QE
      else ExX w b₀ c env (execs orelse env) lm st₁ (fun f l s => match f with | .next => ExX w b₀ c env (execs rest env) l s Q C QE | f => Q f l s) C QE) :
    ExX w b₀ c env (execs (.If e body orelse pos :: rest) env) lm st Q C QE := fun s m P E I S k kx km => by
  refine wpAny_execs_cons (wpAny_If (h E s m _ I S fun v b h' tk st' I' T hr q => ?_))
  subst hr; dsimp only at q
  have go : ∀ (bd : List Stmt), ExX w b₀ c env (execs bd env) lm st' (fun f l s => match f with | .next => ExX w b₀ c env (execs rest env) l s Q C QE | f => Q f l s) C QE →
      wpAny (model PG w) c.A (execs bd env) (fun f s' => match f with | .next => wpAny (model PG w) c.A (execs rest env) P E s' | f => P f s') E { s with heap := h', toks := tk } := fun bd hb => by
    refine hb _ m _ E I' (S.step T) (fun f₁ y h₁ tk₁ m₁ st₁ l₁ I₁ T₁ S₁ hr₁ q₁ => ?_) (fun e B h₂ tk₂ st₂ F X sl q₂ => kx e B h₂ tk₂ st₂ F (X.after T F.stays) (slots_after T I.outs sl) q₂)
      (fun e h₂ tk₂ st₂ m₂ I₂ T₂ M q₂ => km e h₂ tk₂ st₂ m₂ I₂ (T.trans T₂) (M.after T) q₂)
    cases y with
    | next =>
      cases hr₁
      exact q₁ _ m₁ P E I₁ S₁ (fun f₂ x₂ h₂ tk₂ m₂ st₂ l₂ I₂ T₂ S₂ hr₂ q₂ => k f₂ x₂ h₂ tk₂ m₂ st₂ l₂ I₂ ((T.trans T₁).trans T₂) S₂ hr₂ q₂)
        (fun e B h₂ tk₂ st₂ F X sl q₂ => kx e B h₂ tk₂ st₂ F (X.after (T.trans T₁) F.stays) (slots_after (T.trans T₁) I.outs sl) q₂)
        (fun e h₂ tk₂ st₂ m₂ I₂ T₂ M q₂ => km e h₂ tk₂ st₂ m₂ I₂ ((T.trans T₁).trans T₂) (M.after (T.trans T₁)) q₂)
    | brk => cases hr₁; exact k _ .brk h₁ tk₁ m₁ st₁ l₁ I₁ (T.trans T₁) S₁ rfl q₁
    | cont => cases hr₁; exact k _ .cont h₁ tk₁ m₁ st₁ l₁ I₁ (T.trans T₁) S₁ rfl q₁
    | ret mv => obtain ⟨v, hv, rfl⟩ := hr₁; exact k _ (.ret mv) h₁ tk₁ m₁ st₁ l₁ I₁ (T.trans T₁) S₁ ⟨v, hv, rfl⟩ q₁
  split
  · rename_i q'; rw [if_pos q'] at q; exact go _ q
  · rename_i q'; rw [if_neg q'] at q; exact go _ q

theorem exX_assign {n : Nat} {x : Str} {xp pos : Pos} {e : Expr} {rest : List Stmt} {Q : MF → LM → Store → Prop} (hc : c.OK n) (he : env = c.env)
    (h : EvX w b₀ c env (eval e env) VR lm st (fun v st₁ => ExX w b₀ c env (execs rest env) (lm.set x v) st₁ Q C QE) C QE) (hx : env.kindOf x = some .local := by rfl)
    (hs : swapsWith e (some (.Name x xp)) pos.line env = pure false := by rfl) : ExX w b₀ c env (execs (.Assign [.Name x xp] e pos :: rest) env) lm st Q C QE := fun s m P E I S k kx km => by
  refine wpAny_execs_cons (wpAny_Assign_Name (h s m _ E I S (fun v mv h' tk st' I' T hr q => ex_store hc he hx I' (S.step T) hr fun h₂ tk₂ m₂ I₂ T₂ S₂ => ?_) fun e B h₂ tk₂ st₂ F X us ns q₂ => ?_) hs)
  · have T' := T.trans T₂
    exact q _ m₂ P E I₂ S₂ (fun f₃ x₃ h₃ tk₃ m₃ st₃ l₃ I₃ T₃ S₃ hr₃ q₃ => k f₃ x₃ h₃ tk₃ m₃ st₃ l₃ I₃ (T'.trans T₃) S₃ hr₃ q₃)
      (fun e B h₃ tk₃ st₃ F X sl q₂ => kx e B h₃ tk₃ st₃ F (X.after T' F.stays) (slots_after T' I.outs sl) q₂)
      (fun e h₃ tk₃ st₃ m₃ I₃ T₃ M q₂ => km e h₃ tk₃ st₃ m₃ I₃ (T'.trans T₃) (M.after T') q₂)
  · exact kx e B h₂ tk₂ st₂ F X us q₂
end
end PartE3
section PartE4
open PySem PySem.W PyProof.Rows PySem.Spec PySem.Calls
section
variable {w : World} {b₀ : Heap} {mean : ExcName → Option Value} {mg mb : Str → Option Value} {c : Cx} {env : Env} {E : Value → Shared → Prop} {lm : LM} {st : Store} {C : Addr} {QE : Store → Prop}

/-- what leaves a callee's frame -/
theorem leave_fly {n : Nat} {c' : Cx} {s : Shared} {h₁ B h' : Heap} {m : Str → Option Value} {st' : Store} {e : Addr} {tk : Nat} {Q : Unit → Shared → Prop} (hc : c.OK n) (I : In w b₀ c st s.heap m) (hc' : c'.env.frame = some c'.L) (hL : c'.L = s.heap.objs.size) (ho : c'.outer = c.env :: c.outer)
    (hk : ∀ b o, s.heap.get? b = some o → h₁.get? b = some o) (F : Fly w b₀ B (c'.env :: c'.outer) st' C e h') (X : XStep c' st h₁ st' B h') (sl : ∀ b o, (∃ e ∈ c'.outer, e.frame = some b) → h₁.get? b = some o → ∃ sl, h'.get? b = some { o with slots := sl })
    (h : ∀ h'', Fly w b₀ B (c.env :: c.outer) st' C e h'' → XStep c st s.heap st' B h'' → (∀ b o, (∃ e ∈ c.outer, e.frame = some b) → s.heap.get? b = some o → ∃ sl, h''.get? b = some { o with slots := sl }) → h''.Ns c.L m → Q () { s with heap := h'', toks := tk }) :
    wpAny (model PG w) c'.A (leaving c'.env (.ref e)) Q E { s with heap := h', toks := tk } := by
  obtain ⟨a0, fl⟩ := F.fly
  refine wpAny_leaves_onW (s := { s with heap := h', toks := tk }) (env := c'.env) (outer := c'.outer) rfl hc' fl fun h'' fl'' us => ?_
  have ne : ∀ b o, s.heap.get? b = some o → b ≠ c'.L := fun b o e q => by rw [q, hL] at e; exact Nat.lt_irrefl _ (Heap.lt_size e)
  have nL : st c.L = none := by
    cases q : st c.L with
    | none => rfl
    | some mo => obtain ⟨_, _, _, z, _⟩ := I.rep _ _ q; exact absurd rfl z
  have dat : ∀ b o, (∃ e ∈ c'.outer, e.frame = some b) → s.heap.get? b = some o → ∀ vs, o.data ≠ .fields vs := fun b o ⟨en, he, hf⟩ hb => by
    rw [ho] at he
    rcases List.mem_cons.mp he with rfl | he
    · rw [hc.fr] at hf; cases hf
      (first | refine e3a3 (fun oL es ep hoL hd _ => ?_) (I.fr.ns) | obtain ⟨oL, es, ep, hoL, hd, _⟩ := I.fr.ns)
      rw [hb] at hoL; cases hoL
      intro vs q; rw [hd] at q; cases q
    · exact frame_data I ⟨en, he, hf⟩ hb
  have sl'' : ∀ b o, (∃ e ∈ c'.outer, e.frame = some b) → s.heap.get? b = some o → ∃ sl, h''.get? b = some { o with slots := sl } := fun b o hf hb => by
    obtain ⟨sl₁, q⟩ := sl b o hf (hk b o hb)
    obtain ⟨sl₂, q'⟩ := us b _ q (dat b o hf hb)
    exact ⟨sl₂, q'⟩
  refine h h'' ⟨F.base, F.rep, a0, by rw [← ho]; exact fl''⟩ (fun b o hb n q => ?_) (fun b o hd hb => ?_) ?_
  · obtain ⟨n', z⟩ := X b o (hk b o hb) n (ne b o hb)
    refine ⟨n', z.imp id fun ⟨⟨en, he, hf⟩, _⟩ => ?_⟩
    have hf' : ∃ e ∈ c.outer, e.frame = some b := by
      rw [ho] at he
      rcases List.mem_cons.mp he with rfl | he
      · rw [hc.fr] at hf; cases hf; exact absurd rfl q
      · exact ⟨en, he, hf⟩
    exact ⟨hf', sl'' b o ⟨en, he, hf⟩ hb⟩
  · refine sl'' b o ?_ hb
    rw [ho]
    (first | refine e0a3 (fun en he hf => ?_) (hd) | refine e1a2 (fun en he hf => ?_) (hd) | refine e2a1 (fun en he hf => ?_) (hd) | obtain ⟨en, he, hf⟩ := hd); try clear hd
    exact ⟨en, .tail _ he, hf⟩
  · (first | refine e3a3 (fun oL es ep hoL hd r => ?_) (I.fr.ns) | obtain ⟨oL, es, ep, hoL, hd, r⟩ := I.fr.ns)
    obtain ⟨sl₁, q⟩ := sl'' c.L oL (by rw [ho]; exact ⟨_, .head _, hc.fr⟩) hoL
    exact ⟨_, es, ep, q, hd, r⟩

theorem leave_made {n n' : Nat} {c' : Cx} {s : Shared} {h₁ h' : Heap} {m m' : Str → Option Value} {st' : Store} {e : Addr} {tk : Nat} {Q : Unit → Shared → Prop} (hc : c.OK n) (hco : c'.OK n') (I : In w b₀ c st s.heap m) (hL : c'.L = s.heap.objs.size) (ho : c'.outer = c.env :: c.outer)
    (hk : ∀ b o, s.heap.get? b = some o → h₁.get? b = some o) (I' : In w b₀ c' st' h' m') (T : Step c' st h₁ st' h') (M : MadeE b₀ c' st st' h₁ C e h')
    (h : ∀ B h'', Fly w b₀ B (c.env :: c.outer) st' C e h'' → XStep c st s.heap st' B h'' → (∀ b o, (∃ e ∈ c.outer, e.frame = some b) → s.heap.get? b = some o → ∃ sl, h''.get? b = some { o with slots := sl }) → h''.Ns c.L m → Q () { s with heap := h'', toks := tk }) :
    wpAny (model PG w) c'.A (leaving c'.env (.ref e)) Q E { s with heap := h', toks := tk } := by
  (first | refine e0a3 (fun t d he => ?_) (M.obj) | refine e1a2 (fun t d he => ?_) (M.obj) | refine e2a1 (fun t d he => ?_) (M.obj) | obtain ⟨t, d, he⟩ := M.obj)
  have ff := I'.frames hco
  have hene : e ∉ frs (c'.env :: c'.outer) := fun hm => by
    (first | refine e0a3 (fun en hen hf => ?_) (mem_frs.mp hm) | refine e1a2 (fun en hen hf => ?_) (mem_frs.mp hm) | refine e2a1 (fun en hen hf => ?_) (mem_frs.mp hm) | obtain ⟨en, hen, hf⟩ := mem_frs.mp hm)
    rcases List.mem_cons.mp hen with rfl | hen
    · rw [hco.fr] at hf; cases hf; exact M.L rfl
    · exact M.nf ⟨en, hen, hf⟩
  have stB : b₀.StaysIn (hideAll h' (e :: frs (c'.env :: c'.outer))) := fun b o q => hideAll_get _ (I'.fr.keep b o q) fun hm => by
    rcases List.mem_cons.mp hm with rfl | hm
    · rw [M.b] at q; cases q
    · obtain ⟨hn, _⟩ := ff.mem hm
      rw [hn] at q; cases q
  refine wpAny_leaving_firstW (s := { s with heap := h', toks := tk }) (base := hideAll h' (e :: frs (c'.env :: c'.outer))) (env := c'.env) (outer := c'.outer) (L := c'.L) (a0 := .ref t) rfl
    (funFrames_hide ff fun env he a ha => .tail _ (mem_frs.mpr ⟨env, he, ha⟩)) hco.fr he (fun b o q => of_hideAll _ q) (hideAll_none _ (.head _)) rfl rfl rfl fun h'' hL'' => ?_
  obtain ⟨k1, ⟨_, _, k2⟩, k3, k4⟩ := hL''
  have ne : ∀ b o, s.heap.get? b = some o → b ≠ c'.L := fun b o e q => by rw [q, hL] at e; exact Nat.lt_irrefl _ (Heap.lt_size e)
  have nL : st c.L = none := by
    cases q : st c.L with
    | none => rfl
    | some mo => obtain ⟨_, _, _, z, _⟩ := I.rep _ _ q; exact absurd rfl z
  have dat : ∀ b o, (∃ e ∈ c'.outer, e.frame = some b) → h'.get? b = some o → ∀ vs, o.data ≠ .fields vs := fun b o hf hb => frame_data I' hf hb
  have sl'' : ∀ b o, (∃ e ∈ c'.outer, e.frame = some b) → st b = none → s.heap.get? b = some o → ∃ sl, h''.get? b = some { o with slots := sl } := fun b o hf n hb => by
    obtain ⟨_, q | ⟨_, sl, q⟩⟩ := T b o (hk b o hb) n (ne b o hb)
    · exact k4 b _ q (dat b _ hf q)
    · obtain ⟨sl', q'⟩ := k4 b _ q (dat b _ hf q); exact ⟨sl', q'⟩
  have toC : ∀ b, (∃ en ∈ c'.outer, en.frame = some b) → b ≠ c.L → ∃ en ∈ c.outer, en.frame = some b := fun b ⟨en, he, hf⟩ q => by
    rw [ho] at he
    rcases List.mem_cons.mp he with rfl | he
    · rw [hc.fr] at hf; cases hf; exact absurd rfl q
    · exact ⟨en, he, hf⟩
  refine h _ h'' ⟨stB, fun a mo ea => ?_, .ref t, ⟨k1, hideAll_none _ (.head _), by rw [← ho]; exact k2, k3⟩⟩ (fun b o hb n q => ?_) (fun b o hd hb => ?_) ?_
  · (first | refine e0a5 (fun o h1 h2 h3 h4 => ?_) (I'.rep a mo ea) | refine e1a4 (fun o h1 h2 h3 h4 => ?_) (I'.rep a mo ea) | refine e2a3 (fun o h1 h2 h3 h4 => ?_) (I'.rep a mo ea) | refine e3a2 (fun o h1 h2 h3 h4 => ?_) (I'.rep a mo ea) | obtain ⟨o, h1, h2, h3, h4⟩ := I'.rep a mo ea)
    refine ⟨o, hideAll_get _ h1 fun hm => ?_, h2, h4⟩
    rcases List.mem_cons.mp hm with rfl | hm
    · rw [M.st] at ea; cases ea
    · (first | refine e0a3 (fun en hen hf => ?_) (mem_frs.mp hm) | refine e1a2 (fun en hen hf => ?_) (mem_frs.mp hm) | refine e2a1 (fun en hen hf => ?_) (mem_frs.mp hm) | obtain ⟨en, hen, hf⟩ := mem_frs.mp hm)
      rcases List.mem_cons.mp hen with rfl | hen
      · rw [hco.fr] at hf; cases hf; exact h3 rfl
      · rw [(I'.nf en hen a hf).1] at ea; cases ea
  · obtain ⟨n', z⟩ := T b o (hk b o hb) n (ne b o hb)
    refine ⟨n', ?_⟩
    by_cases hf : ∃ en ∈ c'.outer, en.frame = some b
    · exact .inr ⟨toC b hf q, sl'' b o hf n hb⟩
    · rcases z with z | ⟨hf', _⟩
      · refine .inl (hideAll_get _ z fun hm => ?_)
        rcases List.mem_cons.mp hm with rfl | hm
        · exact M.new o (hk b o hb) n
        · (first | refine e0a3 (fun en hen hf' => ?_) (mem_frs.mp hm) | refine e1a2 (fun en hen hf' => ?_) (mem_frs.mp hm) | refine e2a1 (fun en hen hf' => ?_) (mem_frs.mp hm) | obtain ⟨en, hen, hf'⟩ := mem_frs.mp hm)
          rcases List.mem_cons.mp hen with rfl | hen
          · rw [hco.fr] at hf'; cases hf'; exact ne _ o hb rfl
          · exact hf ⟨en, hen, hf'⟩
      · exact absurd hf' hf
  · have hf : ∃ en ∈ c'.outer, en.frame = some b := by
      rw [ho]
      (first | refine e0a3 (fun en he hf => ?_) (hd) | refine e1a2 (fun en he hf => ?_) (hd) | refine e2a1 (fun en he hf => ?_) (hd) | obtain ⟨en, he, hf⟩ := hd); try clear hd
      exact ⟨en, .tail _ he, hf⟩
    (first | refine e0a3 (fun en he hf' => ?_) (hd) | refine e1a2 (fun en he hf' => ?_) (hd) | refine e2a1 (fun en he hf' => ?_) (hd) | obtain ⟨en, he, hf'⟩ := hd); try clear hd
    exact sl'' b o hf (I.nf en he b hf').1 hb
  · (first | refine e3a3 (fun oL es ep hoL hd r => ?_) (I.fr.ns) | obtain ⟨oL, es, ep, hoL, hd, r⟩ := I.fr.ns)
    obtain ⟨sl₁, q⟩ := sl'' c.L oL (by rw [ho]; exact ⟨_, .head _, hc.fr⟩) nL hoL
    exact ⟨_, es, ep, q, hd, r⟩

theorem evX_enter {n : Nat} {f : Addr} {name qual : Str} {params : Arguments} {body : List Stmt} {scope : Scope} {dV kV doc pm cdv ct oc : Value} {an od : Option Addr} {osl : Array (Option Value)} {vals : List Value} {binds : List (Str × Value)} {Q : MV → Store → Prop}
    (G : Gd w b₀ mean mg mb) (hc : c.OK (n + 1)) (ho : (heapK w.params).lookup f = some ⟨oc, od, .func (fnOf name qual params body scope dV kV doc pm an cdv ct), osl⟩)
    (hcd : codeIn (heapK w.params) cdv qual = true) (hbind : ∀ s : Shared, (heapK w.params).In s.heap → BindsTo s (fnOf name qual params body scope dV kV doc pm an cdv ct) ⟨vals, []⟩ binds)
    (hloc : ∀ y ∈ binds, scope.names.lookup y.1 = some .local) (hk : scope.kind = .function) (hco : scope.isCoroutine = false) (hgen : scope.isGenerator = false) (hcell : ∀ x ∈ scope.names, x.2 ≠ .cell)
    (lm' : LM) (hlm : ∀ x mv, lm' x = some mv → ∃ v, VR mv v ∧ binds.reverse.lookup x = some v ∧ scope.names.lookup x = some .local)
    (h : ∀ c' : Cx, c'.OK n → c'.env = envX qual scope c'.L f cdv [] → c'.hd = c.hd → ExX w b₀ c' (envX qual scope c'.L f cdv []) (execs body (envX qual scope c'.L f cdv [])) lm' st (fun fl _ st' => Ends Q fl st') C QE) :
    EvX w b₀ c env (call (.ref f) vals) VR lm st Q C QE := fun s m P E I S k kx => by
  have X := G.X.keeps I.fr.keep
  refine wpAny_call (codeAny_call_def (fd := fnOf name qual params body scope dV kV doc pm an cdv ct) (body := body) (binds := binds) ?_ (X _ _ ho) rfl (G.T.nolimit.keeps I.fr.keep) (codeRec_of X hcd) rfl (hbind s X) hcell hloc (fun h₁ hns hk₁ => ?_) hco hgen hk)
  · have := hc.d; show c.dp < _; omega
  · have I₁ := enterIn (env' := envX qual scope s.heap.objs.size f cdv []) hc I hns hk₁
    have hco' : (c.under (envX qual scope s.heap.objs.size f cdv []) s.heap.objs.size).OK n := hc.under hk
    refine h (c.under (envX qual scope s.heap.objs.size f cdv []) s.heap.objs.size) hco' rfl rfl { s with heap := h₁, toks := s.toks + binds.length } _ _ _ I₁ ?_ ?_ ?_ ?_
    · intro x mv e
      (first | refine e0a4 (fun v hv hl hn => ?_) (hlm x mv e) | refine e1a3 (fun v hv hl hn => ?_) (hlm x mv e) | refine e2a2 (fun v hv hl hn => ?_) (hlm x mv e) | obtain ⟨v, hv, hl, hn⟩ := hlm x mv e)
      exact ⟨v, hv, .inl ⟨hn, rfl, hl⟩⟩
    · intro fl x h' tk m' st' lm'' I' T _ hr q
      obtain ⟨I₂, T₂⟩ := In.back hc I I' rfl rfl hk₁ T
      cases x with
      | next => cases hr; exact k .none .none h' tk st' I₂ T₂ rfl q
      | brk => exact q.elim
      | cont => exact q.elim
      | ret mv => obtain ⟨v, hv, rfl⟩ := hr; exact k v mv h' tk st' I₂ T₂ hv q
    · intro e B h' tk st' F X' sl q
      refine leave_fly (s := s) (c' := c.under (envX qual scope s.heap.objs.size f cdv []) s.heap.objs.size) (tk := tk) hc I rfl rfl rfl hk₁ F X' sl fun h'' F'' X'' us ns => kx e B h'' tk st' F'' X'' us ns q
    · intro e h' tk st' m' I' T M q
      refine leave_made (s := s) (c' := c.under (envX qual scope s.heap.objs.size f cdv []) s.heap.objs.size) (tk := tk) hc hco' I rfl rfl hk₁ I' T M fun B h'' F'' X'' us ns => kx e B h'' tk st' F'' X'' us ns q

theorem evX_enterP {n : Nat} {f : Addr} {name qual : Str} {params : Arguments} {body : List Stmt} {scope : Scope} {dV kV doc pm cdv ct oc : Value} {an od : Option Addr} {osl : Array (Option Value)} {vals : List Value} {mvs : List MV} {Q : MV → Store → Prop}
    (G : Gd w b₀ mean mg mb) (hc : c.OK (n + 1)) (ho : (heapK w.params).lookup f = some ⟨oc, od, .func (fnOf name qual params body scope dV kV doc pm an cdv ct), osl⟩)
    (hcd : codeIn (heapK w.params) cdv qual = true) (hv : All2 VR mvs vals)
    (hbind : bindArgs (fnOf name qual params body scope dV kV doc pm an cdv ct) ⟨vals, []⟩ = pure ((params.args.map (·.arg)).zip vals))
    (hloc : ((params.args.map (·.arg)).all fun y => scope.names.lookup y == some .local) = true) (hnd : (params.args.map (·.arg)).Nodup) (hs : scopeOk scope = true)
    (h : ∀ c' : Cx, c'.OK n → c'.env = envX qual scope c'.L f cdv [] → c'.hd = c.hd → ExX w b₀ c' (envX qual scope c'.L f cdv []) (execs body (envX qual scope c'.L f cdv [])) (LM.of ((params.args.map (·.arg)).zip mvs)) st (fun fl _ st' => Ends Q fl st') C QE) :
    EvX w b₀ c env (call (.ref f) vals) VR lm st Q C QE := by
  unfold scopeOk at hs
  simp only [Bool.and_eq_true, Bool.not_eq_true', beq_iff_eq, List.all_eq_true, bne_iff_ne, ne_eq] at hs
  obtain ⟨⟨⟨h1, h2⟩, h3⟩, h4⟩ := hs
  have loc : ∀ y ∈ params.args.map (·.arg), scope.names.lookup y = some .local := fun y hy => by
    have := List.all_eq_true.mp hloc y hy
    simpa using this
  refine evX_enter G hc ho hcd (fun s _ => BindsTo.of_eq hbind) (fun y hy => loc _ (List.of_mem_zip hy).1) h1 h2 h3 h4 _ (fun x mv e => ?_) h
  (first | refine e0a4 (fun v a b d => ?_) (lm_of hv hnd e) | refine e1a3 (fun v a b d => ?_) (lm_of hv hnd e) | refine e2a2 (fun v a b d => ?_) (lm_of hv hnd e) | obtain ⟨v, a, b, d⟩ := lm_of hv hnd e)
  exact ⟨v, a, b, loc _ d⟩
end
end PartE4
section PartE5
open PySem PySem.W PyProof.Rows PySem.Spec PySem.Calls

/-! a def with cells -/
theorem bindL_keeps {kindOf : Str → Option NameKind} : ∀ {binds : List (Str × Value)} {m : Str → Option Value} {x : Str}, (∀ p ∈ binds, p.1 ≠ x) → bindL kindOf binds m x = m x
  | [], _, _, _ => rfl
  | (n, v) :: r, m, x, h => by
    unfold bindL
    rw [bindL_keeps fun p hp => h p (.tail _ hp)]
    split
    · simp [Ne.symm (h _ (.head _))]
    · rfl
theorem bindC_keeps {kindOf : Str → Option NameKind} : ∀ {binds : List (Str × Value)} {m : Str → Option Value} {x : Str}, (∀ p ∈ binds, p.1 ≠ x) → bindC kindOf binds m x = m x
  | [], _, _, _ => rfl
  | (n, v) :: r, m, x, h => by
    unfold bindC
    rw [bindC_keeps fun p hp => h p (.tail _ hp)]
    split
    · rfl
    · simp [Ne.symm (h _ (.head _))]
theorem lm_ofC {kindOf : Str → Option NameKind} {names : List Str} {mvs : List MV} {vals : List Value} (hv : All2 VR mvs vals) : names.Nodup → ∀ {m cm : Str → Option Value} {x : Str} {mv : MV}, LM.of (names.zip mvs) x = some mv →
    ∃ v, VR mv v ∧ x ∈ names ∧ (kindOf x = some .local → bindL kindOf (names.zip vals) m x = some v) ∧ (kindOf x ≠ some .local → bindC kindOf (names.zip vals) cm x = some v) := by
  induction hv generalizing names with
  | nil => intro _ m cm x mv e; rw [List.zip_nil_right] at e; cases e
  | cons r _ ih =>
    intro hn m cm x mv e
    cases names with
    | nil => cases e
    | cons n ns =>
      have hn' := List.nodup_cons.mp hn
      rw [List.zip_cons_cons] at e
      unfold LM.of at e
      split at e
      · rename_i q
        subst q; cases e
        refine ⟨_, r, .head _, fun k => ?_, fun k => ?_⟩
        · rw [List.zip_cons_cons]; unfold bindL
          rw [if_pos k, bindL_keeps fun p hp q => hn'.1 (by rw [← q]; exact (List.of_mem_zip hp).1)]; simp
        · rw [List.zip_cons_cons]; unfold bindC
          rw [if_neg k, bindC_keeps fun p hp q => hn'.1 (by rw [← q]; exact (List.of_mem_zip hp).1)]; simp
      · rename_i q
        rw [List.zip_cons_cons]
        unfold bindL bindC
        (first | refine e0a5 (fun v h1 h2 h3 h4 => ?_) (ih hn'.2 e (m := if kindOf n = some .local then fun y => if y = n then _ else m y else m) (cm := if kindOf n = some .local then cm else fun y => if y = n then _ else cm y)) | refine e1a4 (fun v h1 h2 h3 h4 => ?_) (ih hn'.2 e (m := if kindOf n = some .local then fun y => if y = n then _ else m y else m) (cm := if kindOf n = some .local then cm else fun y => if y = n then _ else cm y)) | refine e2a3 (fun v h1 h2 h3 h4 => ?_) (ih hn'.2 e (m := if kindOf n = some .local then fun y => if y = n then _ else m y else m) (cm := if kindOf n = some .local then cm else fun y => if y = n then _ else cm y)) | refine e3a2 (fun v h1 h2 h3 h4 => ?_) (ih hn'.2 e (m := if kindOf n = some .local then fun y => if y = n then _ else m y else m) (cm := if kindOf n = some .local then cm else fun y => if y = n then _ else cm y)) | obtain ⟨v, h1, h2, h3, h4⟩ := ih hn'.2 e (m := if kindOf n = some .local then fun y => if y = n then _ else m y else m) (cm := if kindOf n = some .local then cm else fun y => if y = n then _ else cm y))
        exact ⟨v, h1, .tail _ h2, h3, h4⟩

def scopeOkC (s : Scope) : Bool := s.kind == .function && !s.isCoroutine && !s.isGenerator

section
variable {w : World} {b₀ : Heap} {mean : ExcName → Option Value} {mg mb : Str → Option Value} {c : Cx} {env : Env} {E : Value → Shared → Prop} {lm : LM} {st : Store} {C : Addr} {QE : Store → Prop}

abbrev envCl (qual : Str) (scope : Scope) (L f : Addr) (cdv : Value) : Env := envX qual scope L f cdv (cellsFrom (L + 1) scope.names [])

theorem ev_enterC {n : Nat} {f : Addr} {name qual : Str} {params : Arguments} {body : List Stmt} {scope : Scope} {dV kV doc pm cdv ct oc : Value} {an od : Option Addr} {osl : Array (Option Value)} {vals : List Value} {mvs : List MV} {Q : MV → Store → Prop}
    (G : Gd w b₀ mean mg mb) (hc : c.OK (n + 1)) (ho : (heapK w.params).lookup f = some ⟨oc, od, .func (fnOf name qual params body scope dV kV doc pm an cdv ct), osl⟩)
    (hcd : codeIn (heapK w.params) cdv qual = true) (hv : All2 VR mvs vals)
    (hbind : bindArgs (fnOf name qual params body scope dV kV doc pm an cdv ct) ⟨vals, []⟩ = pure ((params.args.map (·.arg)).zip vals))
    (hloc : ∀ n, ∀ y ∈ params.args.map (·.arg), scope.names.lookup y = some .local ∨ (scope.names.lookup y = some .cell ∧ ((cellsFrom n scope.names []).lookup y).isSome = true)) (hnd : (params.args.map (·.arg)).Nodup) (hs : scopeOkC scope = true)
    (h : ∀ c' : Cx, c'.OK n → c'.env = envCl qual scope c'.L f cdv → c'.hd = c.hd → Ex w b₀ c' (envCl qual scope c'.L f cdv) (Out w c' E) (execs body (envCl qual scope c'.L f cdv)) (LM.of ((params.args.map (·.arg)).zip mvs)) st fun fl _ st' => Ends Q fl st') :
    Ev w b₀ c env E (call (.ref f) vals) VR lm st Q := fun s m P I S k => by
  unfold scopeOkC at hs
  simp only [Bool.and_eq_true, Bool.not_eq_true', beq_iff_eq] at hs
  obtain ⟨⟨h1, h2⟩, h3⟩ := hs
  have X := G.X.keeps I.fr.keep
  refine wpAny_call (codeAny_call_cells (fd := fnOf name qual params body scope dV kV doc pm an cdv ct) (body := body) ?_ (X _ _ ho) rfl (G.T.nolimit.keeps I.fr.keep) (codeRec_of X hcd) rfl hbind rfl (fun y hy => hloc _ y.1 (List.of_mem_zip hy).1) (fun s₁ x => ?_) h2 h3 h1)
  · have := hc.d; show c.dp < _; omega
  · obtain ⟨h₁, tk₁, rfl, hk₁⟩ := x.done
    have I₁ := enterIn (env' := envCl qual scope s.heap.objs.size f cdv) hc I x.toInCall.ns hk₁
    refine h (c.under (envCl qual scope s.heap.objs.size f cdv) s.heap.objs.size) ⟨rfl, rfl, h1, rfl, rfl, by have := hc.d; show c.dp + 1 + 4 * n + 10 < recursionLimit; omega, by have := hc.u; show c.un + 3 + 40 * n + 200 < cLine; omega⟩ rfl rfl { s with heap := h₁, toks := tk₁ } _ _ I₁ ?_ ?_
    · intro y mv e
      (first | refine e0a5 (fun v a1 a2 a3 a4 => ?_) (lm_ofC (kindOf := (envCl qual scope s.heap.objs.size f cdv).kindOf) (m := fun _ => none) (cm := fun _ => none) hv hnd e) | refine e1a4 (fun v a1 a2 a3 a4 => ?_) (lm_ofC (kindOf := (envCl qual scope s.heap.objs.size f cdv).kindOf) (m := fun _ => none) (cm := fun _ => none) hv hnd e) | refine e2a3 (fun v a1 a2 a3 a4 => ?_) (lm_ofC (kindOf := (envCl qual scope s.heap.objs.size f cdv).kindOf) (m := fun _ => none) (cm := fun _ => none) hv hnd e) | refine e3a2 (fun v a1 a2 a3 a4 => ?_) (lm_ofC (kindOf := (envCl qual scope s.heap.objs.size f cdv).kindOf) (m := fun _ => none) (cm := fun _ => none) hv hnd e) | obtain ⟨v, a1, a2, a3, a4⟩ := lm_ofC (kindOf := (envCl qual scope s.heap.objs.size f cdv).kindOf) (m := fun _ => none) (cm := fun _ => none) hv hnd e)
      rcases hloc (s.heap.objs.size + 1) y a2 with hl | ⟨hl, hcl⟩
      · exact ⟨v, a1, .inl ⟨hl, rfl, a3 hl⟩⟩
      · obtain ⟨a, ha⟩ := Option.isSome_iff_exists.mp hcl
        have e4 := a4 (by rw [show (envCl qual scope s.heap.objs.size f cdv).kindOf y = some .cell from hl]; decide)
        have hcell : h₁.IsCell a (some v) := (congrArg (fun o => Heap.IsCell h₁ a o) e4).mp (x.cell y a ha)
        have ab : s.heap.objs.size < a := x.above y a (mem_of_lookup ha)
        refine ⟨v, a1, .inr (.inr ⟨.inl hl, a, ha, Nat.ne_of_gt ab, ?_, hcell⟩)⟩
        cases q : st a with
        | none => rfl
        | some mo => obtain ⟨o, h1, _⟩ := I.rep a mo q; exact absurd (Heap.lt_size h1) (Nat.not_lt.mpr (Nat.le_of_lt ab))
    · intro fl x h' tk m' st' lm'' I' T _ hr q
      obtain ⟨I₂, T₂⟩ := In.back hc I I' rfl rfl hk₁ T
      cases x with
      | next => cases hr; exact k .none .none h' tk st' I₂ T₂ rfl q
      | brk => exact q.elim
      | cont => exact q.elim
      | ret mv => obtain ⟨v, hv, rfl⟩ := hr; exact k v mv h' tk st' I₂ T₂ hv q

/-- a call of a def whose binds lean on its defaults -/
theorem ev_enterD {n : Nat} {f : Addr} {name qual : Str} {params : Arguments} {body : List Stmt} {scope : Scope} {dV kV doc pm cdv ct oc : Value} {an od : Option Addr} {osl : Array (Option Value)} {vals vals' : List Value} {mvs : List MV} {Q : MV → Store → Prop}
    (G : Gd w b₀ mean mg mb) (hc : c.OK (n + 1)) (ho : (heapK w.params).lookup f = some ⟨oc, od, .func (fnOf name qual params body scope dV kV doc pm an cdv ct), osl⟩)
    (hcd : codeIn (heapK w.params) cdv qual = true) (hv : All2 VR mvs vals')
    (hbind : ∀ s : Shared, (heapK w.params).In s.heap → BindsTo s (fnOf name qual params body scope dV kV doc pm an cdv ct) ⟨vals, []⟩ ((params.args.map (·.arg)).zip vals'))
    (hloc : ((params.args.map (·.arg)).all fun y => scope.names.lookup y == some .local) = true) (hnd : (params.args.map (·.arg)).Nodup) (hs : scopeOk scope = true)
    (h : ∀ c' : Cx, c'.OK n → c'.env = envX qual scope c'.L f cdv [] → c'.hd = c.hd → Ex w b₀ c' (envX qual scope c'.L f cdv []) (Out w c' E) (execs body (envX qual scope c'.L f cdv [])) (LM.of ((params.args.map (·.arg)).zip mvs)) st fun fl _ st' => Ends Q fl st') :
    Ev w b₀ c env E (call (.ref f) vals) VR lm st Q := by
  unfold scopeOk at hs
  simp only [Bool.and_eq_true, Bool.not_eq_true', beq_iff_eq, List.all_eq_true, bne_iff_ne, ne_eq] at hs
  obtain ⟨⟨⟨h1, h2⟩, h3⟩, h4⟩ := hs
  have loc : ∀ y ∈ params.args.map (·.arg), scope.names.lookup y = some .local := fun y hy => by
    have := List.all_eq_true.mp hloc y hy
    simpa using this
  refine ev_enter G hc ho hcd hbind (fun y hy => loc _ (List.of_mem_zip hy).1) h1 h2 h3 h4 _ (fun x mv e => ?_) h
  (first | refine e0a4 (fun v a b d => ?_) (lm_of hv hnd e) | refine e1a3 (fun v a b d => ?_) (lm_of hv hnd e) | refine e2a2 (fun v a b d => ?_) (lm_of hv hnd e) | obtain ⟨v, a, b, d⟩ := lm_of hv hnd e)
  exact ⟨v, a, b, loc _ d⟩
theorem evX_enterD {n : Nat} {f : Addr} {name qual : Str} {params : Arguments} {body : List Stmt} {scope : Scope} {dV kV doc pm cdv ct oc : Value} {an od : Option Addr} {osl : Array (Option Value)} {vals vals' : List Value} {mvs : List MV} {Q : MV → Store → Prop}
    (G : Gd w b₀ mean mg mb) (hc : c.OK (n + 1)) (ho : (heapK w.params).lookup f = some ⟨oc, od, .func (fnOf name qual params body scope dV kV doc pm an cdv ct), osl⟩)
    (hcd : codeIn (heapK w.params) cdv qual = true) (hv : All2 VR mvs vals')
    (hbind : ∀ s : Shared, (heapK w.params).In s.heap → BindsTo s (fnOf name qual params body scope dV kV doc pm an cdv ct) ⟨vals, []⟩ ((params.args.map (·.arg)).zip vals'))
    (hloc : ((params.args.map (·.arg)).all fun y => scope.names.lookup y == some .local) = true) (hnd : (params.args.map (·.arg)).Nodup) (hs : scopeOk scope = true)
    (h : ∀ c' : Cx, c'.OK n → c'.env = envX qual scope c'.L f cdv [] → c'.hd = c.hd → ExX w b₀ c' (envX qual scope c'.L f cdv []) (execs body (envX qual scope c'.L f cdv [])) (LM.of ((params.args.map (·.arg)).zip mvs)) st (fun fl _ st' => Ends Q fl st') C QE) :
    EvX w b₀ c env (call (.ref f) vals) VR lm st Q C QE := by
  unfold scopeOk at hs
  simp only [Bool.and_eq_true, Bool.not_eq_true', beq_iff_eq, List.all_eq_true, bne_iff_ne, ne_eq] at hs
  obtain ⟨⟨⟨h1, h2⟩, h3⟩, h4⟩ := hs
  have loc : ∀ y ∈ params.args.map (·.arg), scope.names.lookup y = some .local := fun y hy => by
    have := List.all_eq_true.mp hloc y hy
    simpa using this
  refine evX_enter G hc ho hcd hbind (fun y hy => loc _ (List.of_mem_zip hy).1) h1 h2 h3 h4 _ (fun x mv e => ?_) h
  (first | refine e0a4 (fun v a b d => ?_) (lm_of hv hnd e) | refine e1a3 (fun v a b d => ?_) (lm_of hv hnd e) | refine e2a2 (fun v a b d => ?_) (lm_of hv hnd e) | obtain ⟨v, a, b, d⟩ := lm_of hv hnd e)
  exact ⟨v, a, b, loc _ d⟩
end
end PartE5
section PartE6
open PySem PySem.W PyProof.Rows PySem.Spec PySem.Calls

structure ExcOk (w : World) (C : Addr) : Prop where
  obj : ∃ nm q N bs bm hdct sn sub ab col dd k0 k1 k2 k3 k5, (heapK w.params).lookup C = some (excClassObj nm q C N bs bm hdct sn sub ab col dd k0 k1 k2 k3 k5 "ValueError.__new__") ∧ ExcCls bm
  init : findIn (heapK w.params) (.ref C) "__init__" = some (some (.ref 36))
  fn : typeIn (heapK w.params) (.ref 36) = some (.type "function")
  keep : keepIn (heapK w.params) (.ref C) = true
  sub : subIn (heapK w.params) (.ref C) (.type "object") = some true
  set : findIn (heapK w.params) (.ref C) "__setattr__" = some (some (.builtin "object.__setattr__"))
  rs : findIn (heapK w.params) (.ref C) "reason" = some none
  cd : ∃ cd c1, clsIn (heapK w.params) C = some cd ∧ cd.hasDict = true ∧ cd.mro = [.ref C, .ref c1, .type "ValueError", .type "Exception", .type "BaseException", .type "object"]

def Cx.up (c : Cx) : Cx := { c with dp := c.dp + 1, un := c.un + 1 }
theorem Cx.OK.up {c : Cx} {n : Nat} (h : c.OK (n + 1)) : c.up.OK n := ⟨h.lo, h.fr, h.k, h.gl, h.bi, by have := h.d; show c.dp + 1 + 4 * n + 10 < recursionLimit; omega, by have := h.u; show c.un + 1 + 40 * n + 200 < cLine; omega⟩
theorem Cx.up_A (c : Cx) (C : Addr) (vals : List Value) (kw : List (Str × Value)) : c.A.under (.builtin "type.__call__" ⟨.ref C :: vals, kw⟩) = c.up.A := rfl

section
variable {w : World} {b₀ : Heap} {mean : ExcName → Option Value} {mg mb : Str → Option Value} {c : Cx} {env : Env} {E : Value → Shared → Prop} {lm : LM} {st : Store} {C : Addr} {QE : Store → Prop}

/-- a call under type.__call__ is a call in the context one deeper -/
theorem In.up {h : Heap} {m : Str → Option Value} (I : In w b₀ c st h m) : In w b₀ c.up st h m := ⟨I.fr, I.rep, I.ff, I.nf, I.big⟩
theorem In.down {h : Heap} {m : Str → Option Value} (I : In w b₀ c.up st h m) : In w b₀ c st h m := ⟨I.fr, I.rep, I.ff, I.nf, I.big⟩

theorem ev_excInitB {e : Addr} {v : Value} {b : Bool} {Q : MV → Store → Prop} (G : Gd w b₀ mean mg mb) (X : ExcOk w C) (he : st e = some (.exc C b)) (q : Q .none (st.set e (.exc C b))) :
    Ev w b₀ c env E (call (.builtin "ValueError.__init__") [.ref e, v]) VR lm st Q := fun s m P I S k => by
  obtain ⟨nm, qn, N, bs, bm, hdct, sn, sub, ab, col, dd, k0, k1, k2, k3, k5, hC, hX⟩ := X.obj
  have KX := G.X.keeps I.fr.keep
  obtain ⟨oe, h1, ⟨t, d, hd, rfl⟩, hL, hb⟩ := I.rep e _ he
  (first | refine e0a5 (fun hh g dr tk os => ?_) (s) | refine e1a4 (fun hh g dr tk os => ?_) (s) | refine e2a3 (fun hh g dr tk os => ?_) (s) | refine e3a2 (fun hh g dr tk os => ?_) (s) | obtain ⟨hh, g, dr, tk, os⟩ := s); try clear s
  refine exc_init (t := t) (dx := d) hX (KX _ _ hC) h1 fun h' t' h2 h3 => ?_
  have F' : Fr b₀ c.L h' m := by
    (first | refine e0a5 (fun oL es ep hoL r => ?_) (I.fr.ns) | refine e1a4 (fun oL es ep hoL r => ?_) (I.fr.ns) | refine e2a3 (fun oL es ep hoL r => ?_) (I.fr.ns) | refine e3a2 (fun oL es ep hoL r => ?_) (I.fr.ns) | obtain ⟨oL, es, ep, hoL, r⟩ := I.fr.ns)
    exact ⟨⟨oL, es, ep, h3 _ _ (Ne.symm hL) hoL, r⟩, fun b o q => h3 b o (fun z => by rw [z, hb.1] at q; cases q) (I.fr.keep b o q), I.fr.above⟩
  obtain ⟨I', T'⟩ := I.upd (mo' := .exc C b) F' he (fun b o _ q e => h3 b o q e) h2 ⟨t', d, hd, rfl⟩
  exact k .none .none h' tk _ I' T' rfl q

theorem ev_vinit {np apos pos : Pos} {args : List Expr} {pl : Sem Bool} {n : Nat} {Q : MV → Store → Prop} (G : Gd w b₀ mean mg mb) (hc : c.OK n) (he' : env = c.env)
    (hr : nsIn (heapK w.params) mainGlobals "ValueError" = some none)
    (hm : findCls (heapK w.params) (.type "ValueError") (.type "type") "__init__" = some (.val (.builtin "ValueError.__init__")))
    (h : Ev w b₀ c env E (spliced (backTo pos (starEach args env))) (All2 VR) lm st fun as st₁ => ∀ vs, All2 VR as vs → Ev w b₀ c env E (call (.builtin "ValueError.__init__") vs) VR lm st₁ Q)
    (he : ∀ e rest, args = e :: rest → starEach (e :: rest) env = (false, eval e env) :: starEach rest env ∧ (backTo pos (starEach rest env)).any (·.1) = false := by (intro _ _ e; cases e <;> exact ⟨rfl, rfl⟩))
    (hca : eval (.Call (.Attribute (.Name "ValueError" np) "__init__" apos) args [] pos) env = (do
      let ov ← eval (.Name "ValueError" np) env
      standAt apos.atName
      let (f, first) ← holding [ov] (getMethod ov "__init__" pl)
      callWith pos f first (backTo pos (starEach args env)) []) := by rfl)
    (hx : env.kindOf "ValueError" = some .globalImplicit := by rfl) :
    Ev w b₀ c env E (eval (.Call (.Attribute (.Name "ValueError" np) "__init__" apos) args [] pos) env) VR lm st Q := fun s m P I S k =>
  MethodCall_ (wp_bname G I (by rw [he']; exact hc.gl) (by rw [he']; exact hc.bi) (by rw [he']; exact hc.k) hr (PyProof.Rows.Boot.«ValueError») (by decide) hx (by decide)
    (method_type I.fr G.X (by kernel_rfl) (by decide +kernel) hm rfl (ev_callB (first := []) h he { s with toks := s.toks + 1 } m P I S k))) hca


theorem ev_setExc {e : Addr} {v : Value} {Q : Unit → Store → Prop} (G : Gd w b₀ mean mg mb) (X : ExcOk w C) (he : st e = some (.exc C true)) (q : Q () (st.set e (.exc C false))) :
    Ev w b₀ c env E (setAttr (.ref e) "reason" v) (fun _ _ => True) lm st Q := fun s m P I S k => by
  have KX := G.X.keeps I.fr.keep
  obtain ⟨oe, h1, ⟨t, d, hd, rfl⟩, hL, hb⟩ := I.rep e _ he
  obtain rfl := hd rfl
  (first | refine e0a5 (fun cd c1 hc hcd hm => ?_) (X.cd) | refine e1a4 (fun cd c1 hc hcd hm => ?_) (X.cd) | refine e2a3 (fun cd c1 hc hcd hm => ?_) (X.cd) | refine e3a2 (fun cd c1 hc hcd hm => ?_) (X.cd) | obtain ⟨cd, c1, hc, hcd, hm⟩ := X.cd)
  refine exc_set KX h1 X.sub X.set X.rs hc hcd hm fun h' t' dx h2 h3 => ?_
  have F' : Fr b₀ c.L h' m := by
    (first | refine e0a5 (fun oL es ep hoL r => ?_) (I.fr.ns) | refine e1a4 (fun oL es ep hoL r => ?_) (I.fr.ns) | refine e2a3 (fun oL es ep hoL r => ?_) (I.fr.ns) | refine e3a2 (fun oL es ep hoL r => ?_) (I.fr.ns) | obtain ⟨oL, es, ep, hoL, r⟩ := I.fr.ns)
    exact ⟨⟨oL, es, ep, h3 _ _ (Ne.symm hL) hoL, r⟩, fun b o q => h3 b o (fun z => by rw [z, hb.1] at q; cases q) (I.fr.keep b o q), I.fr.above⟩
  obtain ⟨I', T'⟩ := I.upd (mo' := .exc C false) F' he (fun b o _ q e => h3 b o q e) h2 ⟨t, dx, (fun e => by cases e), rfl⟩
  exact k () () h' t' _ I' T' trivial q

theorem board_init {n : Nat} {e : Addr} {v : Value} {mv : MV} {Q : MV → Store → Prop} (G : Gd w b₀ mean mg mb) (hc : c.OK (n + 1)) (X : ExcOk w C) (he : st e = some (.exc C true)) (hv : VR mv v) (q : Q .none (st.set e (.exc C false))) :
    Ev w b₀ c env E (call (.ref 36) [.ref e, v]) VR lm st Q := by
  refine' ev_enterD (mvs := [.ref e, mv]) (vals' := [.ref e, v]) G hc ?ho ?hcd (.cons rfl (.cons hv .nil)) ?hb ?hl ?hn ?hs ?h
  case ho => k_is
  case hcd => k_is
  case hb => intro s' X'; exact binds_K X' rfl (by k_is) rfl rfl rfl
  case hl => rfl
  case hn => decide
  case hs => rfl
  case h =>
    intro c' hc' he' hh'
    refine ex_expr (ev_vinit G hc' he'.symm (by k_is) (by k_is) (ev_args_cons (ev_name rfl rfl (ev_args_cons (ev_name rfl rfl (ev_args_nil ?_))))))
    intro vs hvs
    cases hvs with
    | cons r1 r2 => cases r2 with
      | cons r2 r3 =>
        cases r3
        cases r1
        refine ev_excInitB G X he ?_
        refine ex_assignAttr (ev_name rfl rfl (ev_name rfl rfl ?_))
        intro va vv ha hv'
        cases ha
        refine ev_setExc G X (Store.set_self _ _ _) ?_
        rw [Store.set_set]
        exact ex_nil q

theorem ev_makeExc {n : Nat} {v : Value} {mv : MV} {Q : MV → Store → Prop} (G : Gd w b₀ mean mg mb) (hc : c.OK (n + 2)) (X : ExcOk w C) (hv : VR mv v) (q : ∀ e, st e = none → Q (.ref e) (st.set e (.exc C false))) :
    Ev w b₀ c env E (call (.ref C) [v]) VR lm st Q := fun s m P I S k => by
  obtain ⟨nm, qn, N, bs, bm, hdct, sn, sub, ab, col, dd, k0, k1, k2, k3, k5, hC, hX⟩ := X.obj
  have KX := G.X.keeps I.fr.keep
  (first | refine e0a5 (fun hh g dr tk os => ?_) (s) | refine e1a4 (fun hh g dr tk os => ?_) (s) | refine e2a3 (fun hh g dr tk os => ?_) (s) | refine e3a2 (fun hh g dr tk os => ?_) (s) | obtain ⟨hh, g, dr, tk, os⟩ := s); try clear s
  refine exc_make KX hX (KX _ _ hC) X.init X.fn (fun h' e hm eh ee => ?_) (by simp [sizeLine_eq])
  subst eh ee
  rw [Cx.up_A]
  (first | refine e0a3 (fun n1 I₁ T₁ => ?_) ((I.push { cls := .type "tuple", data := .seq [v].toArray }).1.pushNew { cls := .ref C, data := .fields #[.ref hh.objs.size, .none, .none, .none, .bool false, .none] } (mo := .exc C true) ⟨_, none, fun _ => rfl, rfl⟩) | refine e1a2 (fun n1 I₁ T₁ => ?_) ((I.push { cls := .type "tuple", data := .seq [v].toArray }).1.pushNew { cls := .ref C, data := .fields #[.ref hh.objs.size, .none, .none, .none, .bool false, .none] } (mo := .exc C true) ⟨_, none, fun _ => rfl, rfl⟩) | refine e2a1 (fun n1 I₁ T₁ => ?_) ((I.push { cls := .type "tuple", data := .seq [v].toArray }).1.pushNew { cls := .ref C, data := .fields #[.ref hh.objs.size, .none, .none, .none, .bool false, .none] } (mo := .exc C true) ⟨_, none, fun _ => rfl, rfl⟩) | obtain ⟨n1, I₁, T₁⟩ := (I.push { cls := .type "tuple", data := .seq [v].toArray }).1.pushNew { cls := .ref C, data := .fields #[.ref hh.objs.size, .none, .none, .none, .bool false, .none] } (mo := .exc C true) ⟨_, none, fun _ => rfl, rfl⟩)
  rw [Heap.size_push] at n1 I₁ T₁
  have T₀ := (I.push { cls := .type "tuple", data := .seq [v].toArray }).2
  refine board_init (c := c.up) (env := env) (n := n) G hc.up X (Store.set_self _ _ _) hv (Q := fun x st' => x = .none ∧ st' = st.set (hh.objs.size + 1) (.exc C false)) ⟨rfl, Store.set_set _ _ _ _⟩ ⟨_, g, dr, tk, os⟩ m _ I₁.up ((S.step T₀).step T₁) ?_
  rintro v' x h'' tk'' st'' I₂ T₂ hr ⟨rfl, rfl⟩
  cases hr
  exact ⟨rfl, k (.ref _) (.ref _) h'' tk'' _ I₂.down ((T₀.trans T₁).trans T₂) rfl (q _ n1)⟩

theorem In.drop {h : Heap} {m : Str → Option Value} (I : In w b₀ c st h m) (e : Addr) : In w b₀ c (fun a => if a = e then none else st a) h m :=
  ⟨I.fr, fun a mo q => by
    by_cases z : a = e
    · rw [if_pos z] at q; cases q
    · rw [if_neg z] at q; exact I.rep a mo q, I.ff, fun en he L' hf => ⟨by
    by_cases z : L' = e
    · rw [if_pos z]
    · rw [if_neg z]; exact (I.nf en he L' hf).1, (I.nf en he L' hf).2⟩, I.big⟩

/-- a raise of a new exception of the text's own -/
theorem exX_raise {n : Nat} {x : Expr} {pos : Pos} {rest : List Stmt} {Q : MF → LM → Store → Prop} (G : Gd w b₀ mean mg mb) (hc : c.OK n) (hh : c.hd = none) (X : ExcOk w C)
    (h : ∀ E, Ev w b₀ c env E (eval x env) VR lm st fun a st₁ => ∃ e, a = .ref e ∧ st₁ e = some (.exc C false) ∧ QE (fun a => if a = e then none else st₁ a)) :
    ExX w b₀ c env (execs (.Raise (some x) none pos :: rest) env) lm st Q C QE := fun s m P E I S k kx km => by
  obtain ⟨nm, qn, N, bs, bm, hdct, sn, sub, ab, col, dd, k0, k1, k2, k3, k5, hC, hX⟩ := X.obj
  refine wpAny_execs_cons ?_
  rw [arm_exec_Raise]
  refine wpAny_bind (wpAny_standAt ?_)
  unfold raiseStmt
  show wpAny _ _ ((eval x env >>= fun v => standAt pos >>= fun _ => pure v) >>= _) _ _ _
  refine wpAny_bind (wpAny_bind (h E s m _ I S fun v a h' tk st' I' T hr q => wpAny_bind (wpAny_standAt (wpAny_pure ?_))))
  obtain ⟨e, rfl, he, q⟩ := q
  cases hr
  have KX := G.X.keeps I'.fr.keep
  obtain ⟨oe, h1, ⟨t, d, _, rfl⟩, hL, hb⟩ := I'.rep e _ he
  have hC' := KX _ _ hC
  have hcB : (Value.ref C :: bm).contains (.type "BaseException") = true := by rw [List.contains_cons, hX.b, Bool.or_true]
  (first | refine e0a5 (fun hp g dr tk₀ os => ?_) (s) | refine e1a4 (fun hp g dr tk₀ os => ?_) (s) | refine e2a3 (fun hp g dr tk₀ os => ?_) (s) | refine e3a2 (fun hp g dr tk₀ os => ?_) (s) | obtain ⟨hp, g, dr, tk₀, os⟩ := s); try clear s
  dsimp only at I' h1 hC' ⊢
  repeat (first | with_reducible refine wpAny_loadPart_at h1 ?_ | with_reducible refine wpAny_loadPart_at hC' ?_ | (with_reducible refine wpAny_isSubtype_exc hC' ?_; rw [hcB]) | wp_step)
  refine wpAny_raiseNew_none (show c.A.handled = none from hh) ?_
  refine km e h' tk _ m (I'.drop e) (fun b o eb nb qb => ?_) ⟨⟨t, d, h1⟩, if_pos rfl, hL, fun ⟨en, hen, hf⟩ => ?_, hb.1, fun o eb nb => ?_⟩ q
  · obtain ⟨n', z⟩ := T b o eb nb qb
    refine ⟨?_, z⟩
    by_cases y : b = e
    · rw [if_pos y]
    · rw [if_neg y]; exact n'
  · rw [(I'.nf en hen e hf).1] at he; cases he
  · obtain ⟨n', _⟩ := T e o eb nb hL
    rw [n'] at he; cases he

theorem evX_meth {o : Expr} {name : Str} {apos pos : Pos} {args : List Expr} {pl : Sem Bool} {Q : MV → Store → Prop} (G : Gd w b₀ mean mg mb)
    (h : ∀ E, Ev w b₀ c env E (eval o env) VR lm st fun a st₁ => ∃ x C' d fs f, a = .ref x ∧ st₁ x = some (.inst C' d) ∧ st₁ d = some (.fields fs) ∧ fget name fs = none ∧ MethOk w C' name f ∧
      Ev w b₀ c env E (spliced (backTo pos (starEach args env))) (All2 VR) lm st₁ fun as st₂ => ∀ vs, All2 VR as vs → EvX w b₀ c env (call (.ref f) (.ref x :: vs)) VR lm st₂ Q C QE)
    (he : ∀ e rest, args = e :: rest → starEach (e :: rest) env = (false, eval e env) :: starEach rest env ∧ (backTo pos (starEach rest env)).any (·.1) = false := by (intro _ _ e; cases e <;> exact ⟨rfl, rfl⟩))
    (he' : eval (.Call (.Attribute o name apos) args [] pos) env = (do
      let ov ← eval o env
      standAt apos.atName
      let (f, first) ← holding [ov] (getMethod ov name pl)
      callWith pos f first (backTo pos (starEach args env)) []) := by rfl) :
    EvX w b₀ c env (eval (.Call (.Attribute o name apos) args [] pos) env) VR lm st Q C QE := fun s m P E I S k kx =>
  MethodCall_ (h E s m _ I S fun v a h' tk st' I' T hr q => by
    obtain ⟨x, C', d, fs, f, rfl, hx, hd', hn, ok, q⟩ := q
    cases hr
    (first | refine e0a4 (fun ox h1 h2 _ => ?_) (I'.rep x _ hx) | refine e1a3 (fun ox h1 h2 _ => ?_) (I'.rep x _ hx) | refine e2a2 (fun ox h1 h2 _ => ?_) (I'.rep x _ hx) | obtain ⟨ox, h1, h2, _⟩ := I'.rep x _ hx)
    (first | refine e0a4 (fun od h3 h4 _ => ?_) (I'.rep d _ hd') | refine e1a3 (fun od h3 h4 _ => ?_) (I'.rep d _ hd') | refine e2a2 (fun od h3 h4 _ => ?_) (I'.rep d _ hd') | obtain ⟨od, h3, h4, _⟩ := I'.rep d _ hd')
    cases h2
    obtain ⟨es, n, rfl, h5, _⟩ := h4
    refine method_inst (s := { s with heap := h', toks := tk }) I'.fr G.X ⟨h1, rfl, rfl, h3⟩ ok.g ok.m ok.i (fget_none h5 hn) ?_
    have fin : ∀ (as : List MV) (vs : List Value) (h₁ : Heap) (tk₁ : Nat) (st₁ : Store), In w b₀ c st₁ h₁ m → Step c st' h' st₁ h₁ → All2 VR as vs → (∀ vs, All2 VR as vs → EvX w b₀ c env (call (.ref f) (.ref x :: vs)) VR lm st₁ Q C QE) →
        wpAny (model PG w) c.A (call (.ref f) (.ref x :: vs)) P E { s with heap := h₁, toks := tk₁ } := fun as vs h₁ tk₁ st₁ I₁ T₁ hvs q₁ => by
      have TT := T.trans T₁
      exact q₁ vs hvs _ m P E I₁ ((S.step T).step T₁) (fun v₂ x₂ h₂ tk₂ st₂ I₂ T₂ hr₂ q₂ => k v₂ x₂ h₂ tk₂ st₂ I₂ (TT.trans T₂) hr₂ q₂) fun e B h₂ tk₂ st₂ F X us ns q₂ => kx e B h₂ tk₂ st₂ F (X.after TT F.stays) (slots_after TT I.outs us) ns q₂
    cases args with
    | nil =>
      refine callWith_of (P := (heapK w.params).In) rfl (keeps_K ok.k) ?_
      unfold evalArgs
      show wpAny _ _ (spliced (backTo pos (starEach [] env)) >>= _) _ _ _
      exact wpAny_bind (q _ m _ I' (S.step T) fun v₁ x₁ h₁ tk₁ st₁ I₁ T₁ hr₁ q₁ => wpAny_holding (wpAny_bind (wpAny_pure (wpAny_bind (wpAny_pure (wpAny_pure ⟨G.X.keeps I₁.fr.keep, fin x₁ v₁ h₁ tk₁ st₁ I₁ T₁ hr₁ q₁⟩))))))
    | cons e rest =>
      obtain ⟨e1, e2⟩ := he e rest rfl
      exact callWith_K G.X ok.k (q _ m _ I' (S.step T) fun v₁ x₁ h₁ tk₁ st₁ I₁ T₁ hr₁ q₁ => ⟨G.X.keeps I₁.fr.keep, fin x₁ v₁ h₁ tk₁ st₁ I₁ T₁ hr₁ q₁⟩) e1 e2) he'
end
end PartE6
section PartE7
open PySem PySem.W PyProof.Rows PySem.Spec PySem.Calls
section
variable {w : World} {b₀ : Heap} {mean : ExcName → Option Value} {mg mb : Str → Option Value} {c : Cx} {env : Env} {E : Value → Shared → Prop} {lm : LM} {st : Store} {C : Addr} {QE : Store → Prop}

theorem Fly.inn {n : Nat} {B h₀ h : Heap} {m : Str → Option Value} {st' : Store} {e : Addr} (hc : c.OK n) (I : In w b₀ c st h₀ m) (F : Fly w b₀ B (c.env :: c.outer) st' C e h) (ns : h.Ns c.L m) : In w b₀ c st' h m := by
  (first | refine e0a5 (fun a0 f1 f2 f3 f4 => ?_) (F.fly) | refine e1a4 (fun a0 f1 f2 f3 f4 => ?_) (F.fly) | refine e2a3 (fun a0 f1 f2 f3 f4 => ?_) (F.fly) | refine e3a2 (fun a0 f1 f2 f3 f4 => ?_) (F.fly) | obtain ⟨a0, f1, f2, f3, f4⟩ := F.fly)
  have hn : ∀ b, (∃ en ∈ c.env :: c.outer, en.frame = some b) → B.get? b = none := fun b hb => (f3.mem (mem_frs.mpr hb)).1
  refine ⟨⟨ns, fun b o q => f1 b o (F.base b o q), I.fr.above⟩, fun a mo q => ?_, ?_, fun en he L' hf => ⟨?_, (I.nf en he L' hf).2⟩, I.big⟩
  · (first | refine e0a4 (fun o h1 h2 h4 => ?_) (F.rep a mo q) | refine e1a3 (fun o h1 h2 h4 => ?_) (F.rep a mo q) | refine e2a2 (fun o h1 h2 h4 => ?_) (F.rep a mo q) | obtain ⟨o, h1, h2, h4⟩ := F.rep a mo q)
    exact ⟨o, f1 _ _ h1, h2, (fun z => by rw [z, hn c.L ⟨_, .head _, hc.fr⟩] at h1; cases h1), h4⟩
  · (first | refine e0a3 (fun _ _ k => ?_) (funFrames_base F.base f3) | refine e1a2 (fun _ _ k => ?_) (funFrames_base F.base f3) | refine e2a1 (fun _ _ k => ?_) (funFrames_base F.base f3) | obtain ⟨_, _, k⟩ := funFrames_base F.base f3)
    exact k
  · cases q : st' L' with
    | none => rfl
    | some mo => obtain ⟨o, h1, _⟩ := F.rep L' mo q; rw [hn L' ⟨_, .tail _ he, hf⟩] at h1; cases h1
theorem XStep.step {B h h' : Heap} {st' : Store} (k : B.StaysIn h') (X : XStep c st h st' B h') : Step c st h st' h' := fun b o e n q => by
  obtain ⟨n', z⟩ := X b o e n q
  exact ⟨n', z.imp (fun z => k _ _ z) id⟩

def Cx.at_ (c : Cx) (v : Value) : Cx := { c with hd := some v }
theorem In.at_ {h : Heap} {m : Str → Option Value} {v : Value} (I : In w b₀ c st h m) : In w b₀ (c.at_ v) st h m := ⟨I.fr, I.rep, I.ff, I.nf, I.big⟩
theorem In.off {h : Heap} {m : Str → Option Value} {v : Value} (I : In w b₀ (c.at_ v) st h m) : In w b₀ c st h m := ⟨I.fr, I.rep, I.ff, I.nf, I.big⟩
theorem Cx.OK.at_ {c : Cx} {n : Nat} {v : Value} (h : c.OK n) : (c.at_ v).OK n := ⟨h.lo, h.fr, h.k, h.gl, h.bi, h.d, h.u⟩

theorem catch_own {n : Nat} {x : Str} {np hpos : Pos} {s₀ : Stmt} {suite : List Stmt} {hrest : List ExceptHandler} {s s' : Shared} {B : Heap} {m : Str → Option Value} {st' : Store} {e : Addr} {Q : Flow → Shared → Prop} (G : Gd w b₀ mean mg mb) (hc : c.OK n) (he : env = c.env) (X : ExcOk w C)
    (hg : nsIn (heapK w.params) mainGlobals x = some (some (.ref C))) (I : In w b₀ c st s.heap m) (F : Fly w b₀ B (c.env :: c.outer) st' C e s'.heap) (XS : XStep c st s.heap st' B s'.heap) (us : ∀ b o, (∃ e ∈ c.outer, e.frame = some b) → s.heap.get? b = some o → ∃ sl, s'.heap.get? b = some { o with slots := sl }) (ns : s'.heap.Ns c.L m)
    (k : ∀ h'' E', In w b₀ c st' h'' m → Step c st s.heap st' h'' → wpAny (model PG w) (c.at_ (.ref e)).A (execs (s₀ :: suite) env) Q E' { s' with heap := h'' })
    (hx : env.kindOf x = some .globalImplicit := by rfl) (hd : (x == ("__debug__" : Str)) = false := by decide) :
    wpAny (model PG w) c.A (noteFrame (.ref e) env) (fun _ s₂ => wpAny (model PG w) c.A (setFlight (.ref e) none) (fun _ s₃ =>
      wpAny (model PG w) c.A (handleBy (.ref e) env (.ExceptHandler (some (.Name x np)) none (s₀ :: suite) hpos :: hrest)) Q E s₃) E s₂) E s' := by
  subst he
  obtain ⟨nm, qn, N, bs, bm, hdct, sn, sub, ab, col, dd, k0, k1, k2, k3, k5, hC, hX⟩ := X.obj
  obtain ⟨a0, fl⟩ := F.fly
  have fdat : ∀ b o, (∃ e ∈ c.outer, e.frame = some b) → s'.heap.get? b = some o → ∀ vs, o.data ≠ .fields vs := fun b o hf hb => frame_data (Fly.inn hc I F ns) hf hb
  have again : ∀ h'', Heap.FlyingW B (c.env :: c.outer) e (.ref C) a0 h'' → s'.heap.UpToSlots h'' → In w b₀ c st' h'' m ∧ Step c st s.heap st' h'' := fun h'' fl'' sm => by
    have F'' : Fly w b₀ B (c.env :: c.outer) st' C e h'' := ⟨F.base, F.rep, a0, fl''⟩
    refine ⟨Fly.inn hc I F'' (sm.ns ns), XStep.step fl''.1 fun b o q n q' => ?_⟩
    obtain ⟨n', z⟩ := XS b o q n q'
    refine ⟨n', z.imp id fun ⟨hf, sl, z⟩ => ⟨hf, ?_⟩⟩
    obtain ⟨sl', z'⟩ := sm b _ z (fdat b _ hf z)
    exact ⟨sl', z'⟩
  refine wpAny_looks_onW (A := c.A) rfl hc.fr fl fun h₄ hheld₄ hsm₄ => ?_
  refine wpAny_landsW hheld₄ fun h₅ hfl₅ hsm₅' => ?_
  have hsm₅ := hsm₄.trans hsm₅'
  obtain ⟨I₅, _⟩ := again h₅ hfl₅ hsm₅
  refine wpAny_handleBy_cons (codeAny_handlers_test (nameG_K I₅.fr G.X (topRead_of G.T) hg ?_ hc.gl hc.k hx hd)) (by intro q; cases q)
  (first | refine e0a3 (fun oe hoe hoc => ?_) (hfl₅.there) | refine e1a2 (fun oe hoe hoc => ?_) (hfl₅.there) | refine e2a1 (fun oe hoe hoc => ?_) (hfl₅.there) | obtain ⟨oe, hoe, hoc⟩ := hfl₅.there)
  have KX := G.X.keeps I₅.fr.keep
  refine wpAny_excMatches_sub_self (KX _ _ hC) hoe hoc hX.b ?_
  refine codeAny_handlers_suite (lands_againW hfl₅ fun h₆ hfl₆ hsm₆ => ?_)
  obtain ⟨I₆, T₆⟩ := again h₆ hfl₆ (hsm₅.trans hsm₆)
  exact k h₆ _ I₆ T₆

theorem ex_tryAssign {n : Nat} {x y : Str} {yp np hpos apos pos : Pos} {e : Expr} {s₀ : Stmt} {suite rest : List Stmt} {Q : MF → LM → Store → Prop} (G : Gd w b₀ mean mg mb) (hc : c.OK n) (he : env = c.env) (X : ExcOk w C)
    (hg : nsIn (heapK w.params) mainGlobals x = some (some (.ref C)))
    (h : EvX w b₀ c env (eval e env) VR lm st (fun v st₁ => Ex w b₀ c env E (execs rest env) (lm.set y v) st₁ Q) C (fun st₁ => ∀ v E', Ex w b₀ (c.at_ v) env E' (execs (s₀ :: suite) env) lm st₁ (Then w b₀ c env E rest Q)))
    (hy : env.kindOf y = some .local := by rfl) (hx : env.kindOf x = some .globalImplicit := by rfl) (hs : swapsWith e (some (.Name y yp)) apos.line env = pure false := by rfl) (hd : (x == ("__debug__" : Str)) = false := by decide) :
    Ex w b₀ c env E (execs (.Try [.Assign [.Name y yp] e apos] [.ExceptHandler (some (.Name x np)) none (s₀ :: suite) hpos] [] [] pos :: rest) env) lm st Q :=
  ex_cons fun s m P I S k => by
    refine wpAny_Try_except (wpAny_execs_cons (wpAny_Assign_Name (h s m _ _ I S (fun v mv h' tk st' I' T hr q => ex_store hc he hy I' (S.step T) hr fun h₂ tk₂ m₂ I₂ T₂ S₂ => ?_) fun e' B h₂ tk₂ st₂ F XS us ns q => ?_) hs))
    · exact wpAny_execs_nil (wpAny_execs_nil (k .next .next h₂ tk₂ m₂ st' _ I₂ (T.trans T₂) S₂ rfl q))
    · refine catch_own (s := s) (s' := { s with heap := h₂, toks := tk₂ }) G hc he X hg I F XS us ns (fun h'' E' I'' T'' => ?_) hx hd
      exact q _ E' { s with heap := h'', toks := tk₂ } m _ I''.at_ (S.step T'') fun f z h₃ tk₃ m₃ st₃ l₃ I₃ T₃ S₃ hr₃ q₃ => k f z h₃ tk₃ m₃ st₃ l₃ I₃.off (T''.trans T₃) S₃ hr₃ q₃

theorem ex_tryExpr {n : Nat} {x : Str} {np hpos apos pos : Pos} {e : Expr} {s₀ : Stmt} {suite rest : List Stmt} {Q : MF → LM → Store → Prop} (G : Gd w b₀ mean mg mb) (hc : c.OK n) (he : env = c.env) (X : ExcOk w C)
    (hg : nsIn (heapK w.params) mainGlobals x = some (some (.ref C)))
    (h : EvX w b₀ c env (eval e env) VR lm st (fun v st₁ => Ex w b₀ c env E (execs rest env) lm st₁ Q) C (fun st₁ => ∀ v E', Ex w b₀ (c.at_ v) env E' (execs (s₀ :: suite) env) lm st₁ (Then w b₀ c env E rest Q)))
    (hx : env.kindOf x = some .globalImplicit := by rfl) (hi : interactive env = false := by rfl) (hs : swapsWith e none apos.line env = pure false := by rfl) (hd : (x == ("__debug__" : Str)) = false := by decide) :
    Ex w b₀ c env E (execs (.Try [.Expr e apos] [.ExceptHandler (some (.Name x np)) none (s₀ :: suite) hpos] [] [] pos :: rest) env) lm st Q :=
  ex_cons fun s m P I S k => by
    refine wpAny_Try_except (wpAny_execs_cons (wpAny_Expr_any (h s m _ _ I S (fun v mv h' tk st' I' T hr q => ?_) fun e' B h₂ tk₂ st₂ F XS us ns q => ?_) hi hs))
    · exact wpAny_execs_nil (wpAny_execs_nil (k .next .next h' tk m st' _ I' T (S.step T) rfl q))
    · refine catch_own (s := s) (s' := { s with heap := h₂, toks := tk₂ }) G hc he X hg I F XS us ns (fun h'' E' I'' T'' => ?_) hx hd
      exact q _ E' { s with heap := h'', toks := tk₂ } m _ I''.at_ (S.step T'') fun f z h₃ tk₃ m₃ st₃ l₃ I₃ T₃ S₃ hr₃ q₃ => k f z h₃ tk₃ m₃ st₃ l₃ I₃.off (T''.trans T₃) S₃ hr₃ q₃

/-- a try whose body does not raise -/
theorem ex_tryOk {body rest : List Stmt} {h₀ : ExceptHandler} {hs : List ExceptHandler} {pos : Pos} {Q : MF → LM → Store → Prop} (h : ∀ E', Ex w b₀ c env E' (execs body env) lm st (Then w b₀ c env E rest Q)) :
    Ex w b₀ c env E (execs (.Try body (h₀ :: hs) [] [] pos :: rest) env) lm st Q :=
  ex_cons fun s m P I S k => wpAny_Try_except (h _ s m _ I S fun f x h' tk m' st' l' I' T S' hr q => by
    cases x with
    | next => cases hr; exact wpAny_execs_nil (k .next .next h' tk m' st' l' I' T S' rfl q)
    | brk => cases hr; exact k _ .brk h' tk m' st' l' I' T S' rfl q
    | cont => cases hr; exact k _ .cont h' tk m' st' l' I' T S' rfl q
    | ret mv => obtain ⟨v, hv, rfl⟩ := hr; exact k _ (.ret mv) h' tk m' st' l' I' T S' ⟨v, hv, rfl⟩ q)
end
end PartE7
section PartE8
open PySem PySem.W PyProof.Rows PySem.Spec PySem.Calls
section
variable {w : World} {b₀ : Heap} {mean : ExcName → Option Value} {mg mb : Str → Option Value} {c : Cx} {env : Env} {E : Value → Shared → Prop} {lm : LM} {st : Store} {C : Addr} {QE : Store → Prop}

theorem ev_ifexp {t b o : Expr} {pos : Pos} {Q : MV → Store → Prop} (h : Ev w b₀ c env E (isTrue t env (eval t env)) Eq lm st fun x st₁ => if x = true then Ev w b₀ c env E (eval b env) VR lm st₁ Q else Ev w b₀ c env E (eval o env) VR lm st₁ Q) :
    Ev w b₀ c env E (eval (.IfExp t b o pos) env) VR lm st Q := fun s m P I S k =>
  wpAny_IfExp (h s m _ I S fun v x h' tk st' I' T hr q => by
    subst hr; dsimp only at q
    split
    · rename_i z; rw [if_pos z] at q; exact q _ m _ I' (S.step T) fun v₂ x₂ h₂ tk₂ st₂ I₂ T₂ hr₂ q₂ => k v₂ x₂ h₂ tk₂ st₂ I₂ (T.trans T₂) hr₂ q₂
    · rename_i z; rw [if_neg z] at q; exact q _ m _ I' (S.step T) fun v₂ x₂ h₂ tk₂ st₂ I₂ T₂ hr₂ q₂ => k v₂ x₂ h₂ tk₂ st₂ I₂ (T.trans T₂) hr₂ q₂)

theorem ev_and1 {e : Expr} {pos : Pos} {Q : MV → Store → Prop} (h : Ev w b₀ c env E (eval e env) VR lm st Q) : Ev w b₀ c env E (eval (.BoolOp .And [e] pos) env) VR lm st Q := fun s m P I S k => BoolOp_one (h s m P I S k)
theorem ev_and {e e₂ : Expr} {rest : List Expr} {pos : Pos} {Q : MV → Store → Prop}
    (h : Ev w b₀ c env E (eval e env) VR lm st fun v st₁ => ∃ b, v = .bool b ∧ if b = true then Ev w b₀ c env E (eval (.BoolOp .And (e₂ :: rest) pos) env) VR lm st₁ Q else Q (.bool false) st₁) : Ev w b₀ c env E (eval (.BoolOp .And (e :: e₂ :: rest) pos) env) VR lm st Q := fun s m P I S k =>
  BoolOp_and (h s m _ I S fun v x h' tk st' I' T hr q => by
    obtain ⟨b, rfl, q⟩ := q
    cases hr
    refine wpAny_truthy_bool ?_
    cases b with
    | true => exact q _ m _ I' (S.step T) fun v₂ x₂ h₂ tk₂ st₂ I₂ T₂ hr₂ q₂ => k v₂ x₂ h₂ tk₂ st₂ I₂ (T.trans T₂) hr₂ q₂
    | false => exact k _ (.bool false) h' tk st' I' T rfl q)

theorem ex_assignSub {o i e : Expr} {p pos : Pos} {rest : List Stmt} {Q : MF → LM → Store → Prop}
    (h : Ev w b₀ c env E (eval e env) VR lm st fun v st₁ => Ev w b₀ c env E (eval o env) VR lm st₁ fun a st₂ => Ev w b₀ c env E (eval i env) VR lm st₂ fun j st₃ => ∀ va vj vv, VR a va → VR j vj → VR v vv →
      Ev w b₀ c env E (setItem va vj vv) (fun (_ : Unit) _ => True) lm st₃ fun _ st₄ => Ex w b₀ c env E (execs rest env) lm st₄ Q)
    (hs : swapsWith e (some (.Subscript o i p)) pos.line env = pure false := by rfl) : Ex w b₀ c env E (execs (.Assign [.Subscript o i p] e pos :: rest) env) lm st Q :=
  ex_cons fun s m P I S k => wpAny_Assign_Subscript (h s m _ I S fun v mv h' tk st' I' T hr q => q _ m _ I' (S.step T) fun v₂ mv₂ h₂ tk₂ st₂ I₂ T₂ hr₂ q₂ => q₂ _ m _ I₂ ((S.step T).step T₂)
    fun v₃ mv₃ h₃ tk₃ st₃ I₃ T₃ hr₃ q₃ => q₃ v₂ v₃ v hr₂ hr₃ hr _ m _ I₃ (((S.step T).step T₂).step T₃) fun _ _ h₄ tk₄ st₄ I₄ T₄ _ q₄ =>
      k .next .next h₄ tk₄ m st₄ lm I₄ (((T.trans T₂).trans T₃).trans T₄) ((((S.step T).step T₂).step T₃).step T₄) rfl q₄) hs

/-- a store into a target -/
def As (w : World) (b₀ : Heap) (c : Cx) (env : Env) (E : Value → Shared → Prop) (t : Sem Unit) (lm : LM) (st : Store) (Q : LM → Store → Prop) : Prop :=
  ∀ (s : Shared) (m : Str → Option Value) (P : Unit → Shared → Prop), In w b₀ c st s.heap m → Sees c env st s.heap m lm →
    (∀ h' tk m' st' lm', In w b₀ c st' h' m' → Step c st s.heap st' h' → Sees c env st' h' m' lm' → Q lm' st' → P () { s with heap := h', toks := tk }) → wpAny (model PG w) c.A t P E s

theorem as_name {n : Nat} {x : Str} {pos : Pos} {v : Value} {mv : MV} {Q : LM → Store → Prop} (hc : c.OK n) (he : env = c.env) (hv : VR mv v) (q : Q (lm.set x mv) st) (hx : env.kindOf x = some .local := by rfl) :
    As w b₀ c env E (assign (.Name x pos) env v) lm st Q := fun s m P I S k => wpAny_assign_Name (ex_store hc he hx I S hv fun h₂ tk₂ m₂ I₂ T₂ S₂ => k h₂ tk₂ m₂ st _ I₂ T₂ S₂ q)
theorem as_bind {n : Nat} {x : Str} {v : Value} {mv : MV} {Q : LM → Store → Prop} (hc : c.OK n) (he : env = c.env) (hv : VR mv v) (q : Q (lm.set x mv) st) (hx : env.kindOf x = some .local := by rfl) :
    As w b₀ c env E (bindName env x v) lm st Q := fun s m P I S k => bindName_ (ex_store hc he hx I S hv fun h₂ tk₂ m₂ I₂ T₂ S₂ => k h₂ tk₂ m₂ st _ I₂ T₂ S₂ q)
theorem as_sub {o i : Expr} {pos : Pos} {v : Value} {Q : LM → Store → Prop}
    (h : Ev w b₀ c env E (eval o env) VR lm st fun a st₂ => Ev w b₀ c env E (eval i env) VR lm st₂ fun j st₃ => ∀ va vj, VR a va → VR j vj → Ev w b₀ c env E (setItem va vj v) (fun (_ : Unit) _ => True) lm st₃ fun _ st₄ => Q lm st₄) :
    As w b₀ c env E (assign (.Subscript o i pos) env v) lm st Q := fun s m P I S k => by
  rw [arm_assign_Subscript]
  refine wpAny_bind (wpAny_holding (h s m _ I S fun v₁ x₁ h₁ tk₁ st₁ I₁ T₁ hr₁ q₁ => wpAny_bind (wpAny_holding (q₁ _ m _ I₁ (S.step T₁) fun v₂ x₂ h₂ tk₂ st₂ I₂ T₂ hr₂ q₂ =>
    wpAny_bind (wpAny_standAt (wpAny_bind (wpAny_holding (q₂ v₁ v₂ hr₁ hr₂ _ m _ I₂ ((S.step T₁).step T₂) fun _ _ h₃ tk₃ st₃ I₃ T₃ _ q₃ => ?_))))))))
  exact wpAny_release (k h₃ tk₃ m st₃ lm I₃ ((T₁.trans T₂).trans T₃) (((S.step T₁).step T₂).step T₃) q₃)
theorem as_nil {ts : List (Value → Sem Unit)} {Q : LM → Store → Prop} (q : Q lm st) : As w b₀ c env E (assignInOrder ts []) lm st Q := fun s m P I S k => by
  have : assignInOrder ts [] = pure () := by unfold assignInOrder; cases ts <;> rfl
  rw [this]; exact wpAny_pure (k s.heap s.toks m st lm I (Step.refl _ _ _) S q)
theorem as_cons {t : Value → Sem Unit} {ts : List (Value → Sem Unit)} {v : Value} {vs : List Value} {Q : LM → Store → Prop} (h : As w b₀ c env E (t v) lm st fun lm' st' => As w b₀ c env E (assignInOrder ts vs) lm' st' Q) :
    As w b₀ c env E (assignInOrder (t :: ts) (v :: vs)) lm st Q := fun s m P I S k => by
  rw [assignInOrder]
  refine wpAny_bind (wpAny_holding (h s m _ I S fun h₁ tk₁ m₁ st₁ l₁ I₁ T₁ S₁ q => ?_))
  exact q _ m₁ _ I₁ S₁ fun h₂ tk₂ m₂ st₂ l₂ I₂ T₂ S₂ q₂ => k h₂ tk₂ m₂ st₂ l₂ I₂ (T₁.trans T₂) S₂ q₂

theorem all2_two {a b : MV} {l : List Value} (h : All2 VR [a, b] l) : ∃ v w, l = [v, w] ∧ VR a v ∧ VR b w := by
  cases h with
  | cons r1 t => cases t with
    | cons r2 t => cases t; exact ⟨_, _, rfl, r1, r2⟩

/-- two targets at once -/
theorem ex_assign2 {t₁ t₂ e : Expr} {kk : Nat} {tpos pos : Pos} {rest : List Stmt} {Q : MF → LM → Store → Prop} (hh : c.hd = none)
    (h : Ev w b₀ c env E (eval e env) VR lm st fun v st₁ => ∃ t a b, v = .ref t ∧ st₁ t = some (.tuple [a, b]) ∧ ∀ va vb, VR a va → VR b vb →
      As w b₀ c env E (assignInOrder ((assignEach [t₁, t₂] env).map (·.2)) [va, vb]) lm st₁ fun lm' st₂ => Ex w b₀ c env E (execs rest env) lm' st₂ Q)
    (hl : (assignEach [t₁, t₂] env).length = 2 := by rfl) (hstar : (assignEach [t₁, t₂] env).findIdx? (·.1) = none := by rfl)
    (hs : swapsWithSole [.Tuple [t₁, t₂] kk tpos] e pos.line env = pure false := by rfl) (hw : swappedStores [.Tuple [t₁, t₂] kk tpos] e env = pure none := by rfl) :
    Ex w b₀ c env E (execs (.Assign [.Tuple [t₁, t₂] kk tpos] e pos :: rest) env) lm st Q :=
  ex_cons fun s m P I S k => Assign_Tuple (h s m _ I S fun v mv h' tk st' I' T hr q => by
    obtain ⟨t, a, b, rfl, ht, q⟩ := q
    cases hr
    obtain ⟨ot, hot, ⟨its, nn, rfl, hall⟩, _⟩ := I'.rep t _ ht
    (first | refine e0a5 (fun va vb e ra rb => ?_) (all2_two hall) | refine e1a4 (fun va vb e ra rb => ?_) (all2_two hall) | refine e2a3 (fun va vb e ra rb => ?_) (all2_two hall) | refine e3a2 (fun va vb e ra rb => ?_) (all2_two hall) | obtain ⟨va, vb, e, ra, rb⟩ := all2_two hall)
    have hz : its.size = 2 := by rw [← Array.length_toList, e]; rfl
    refine assign_Tuple_tuple (show c.A.handled = none from hh) (items := its) ⟨_, hot, rfl, nn, rfl⟩ (by rw [hl, hz]) hstar fun h₂ he => ?_
    rw [e]
    have hX : h'.get? h'.objs.size = none := Heap.get?_none_of_le (Nat.le_refl _)
    (first | refine e0a4 (fun x1 x2 x3 x4 => ?_) (I'.fresh hX) | refine e1a3 (fun x1 x2 x3 x4 => ?_) (I'.fresh hX) | refine e2a2 (fun x1 x2 x3 x4 => ?_) (I'.fresh hX) | obtain ⟨x1, x2, x3, x4⟩ := I'.fresh hX)
    have I₂ := I'.other x1 x2 x3 x4 he
    have T₂ : Step c st s.heap st' h₂ := T.trans ((Step.refl c st' h').other hX he)
    exact q va vb ra rb _ m _ I₂ (S.step T₂) fun h₃ tk₃ m₃ st₃ l₃ I₃ T₃ S₃ q₃ => k .next .next h₃ tk₃ m₃ st₃ l₃ I₃ (T₂.trans T₃) S₃ rfl q₃) hs hw

/-- two names at once, stored the other way round -/
theorem ex_assign2s {t₁ t₂ e : Expr} {x y : Str} {kk : Nat} {tpos pos : Pos} {rest : List Stmt} {Q : MF → LM → Store → Prop} (hh : c.hd = none)
    (h : Ev w b₀ c env E (eval e env) VR lm st fun v st₁ => ∃ t a b, v = .ref t ∧ st₁ t = some (.tuple [a, b]) ∧ ∀ va vb, VR a va → VR b vb →
      As w b₀ c env E (assignInOrder ([y, x].map fun n => bindName env n) [vb, va]) lm st₁ fun lm' st₂ => Ex w b₀ c env E (execs rest env) lm' st₂ Q)
    (hs : swapsWithSole [.Tuple [t₁, t₂] kk tpos] e pos.line env = pure false := by rfl) (hw : swappedStores [.Tuple [t₁, t₂] kk tpos] e env = pure (some [x, y]) := by rfl) :
    Ex w b₀ c env E (execs (.Assign [.Tuple [t₁, t₂] kk tpos] e pos :: rest) env) lm st Q :=
  ex_cons fun s m P I S k => Assign_Tuple_swapped (names := [x, y]) (h s m _ I S fun v mv h' tk st' I' T hr q => by
    obtain ⟨t, a, b, rfl, ht, q⟩ := q
    cases hr
    obtain ⟨ot, hot, ⟨its, nn, rfl, hall⟩, _⟩ := I'.rep t _ ht
    (first | refine e0a5 (fun va vb e ra rb => ?_) (all2_two hall) | refine e1a4 (fun va vb e ra rb => ?_) (all2_two hall) | refine e2a3 (fun va vb e ra rb => ?_) (all2_two hall) | refine e3a2 (fun va vb e ra rb => ?_) (all2_two hall) | obtain ⟨va, vb, e, ra, rb⟩ := all2_two hall)
    have hz : its.size = 2 := by rw [← Array.length_toList, e]; rfl
    show wpAny _ _ (unpackItems (.ref t) 2 none) _ _ _
    rw [← hz]
    refine unpackItems_tuple (show c.A.handled = none from hh) ⟨_, hot, rfl, nn, rfl⟩ fun h₂ he => ?_
    rw [e]
    have hX : h'.get? h'.objs.size = none := Heap.get?_none_of_le (Nat.le_refl _)
    (first | refine e0a4 (fun x1 x2 x3 x4 => ?_) (I'.fresh hX) | refine e1a3 (fun x1 x2 x3 x4 => ?_) (I'.fresh hX) | refine e2a2 (fun x1 x2 x3 x4 => ?_) (I'.fresh hX) | obtain ⟨x1, x2, x3, x4⟩ := I'.fresh hX)
    have I₂ := I'.other x1 x2 x3 x4 he
    have T₂ : Step c st s.heap st' h₂ := T.trans ((Step.refl c st' h').other hX he)
    exact q va vb ra rb _ m _ I₂ (S.step T₂) fun h₃ tk₃ m₃ st₃ l₃ I₃ T₃ S₃ q₃ => k .next .next h₃ tk₃ m₃ st₃ l₃ I₃ (T₂.trans T₃) S₃ rfl q₃) hs hw
end
end PartE8
section PartE9
open PySem PySem.W PyProof.Rows PySem.Spec PySem.Calls

theorem intsAre_of {ks : List Int} : ∀ {vs : List Value}, All2 VR (ks.map MV.int) vs → IntsAre vs ks := by
  induction ks with
  | nil => intro vs h; cases h; exact .nil
  | cons k ks ih => intro vs h; cases h with | cons r t => obtain ⟨u, rfl⟩ := r; exact .cons _ _ (ih t)
theorem ints_of {vs : List Value} {ns : List Int} (h : IntsAre vs ns) : All2 VR (ns.map MV.int) vs := by
  induction h with
  | nil => exact .nil
  | cons n t _ ih => exact .cons ⟨t, rfl⟩ ih
theorem all2_of {R : MV → Value → Prop} : ∀ {l : List MV} {vs : List Value}, l.length = vs.length → (∀ (j : Nat) (a : MV) (v : Value), l[j]? = some a → vs[j]? = some v → R a v) → All2 R l vs
  | [], [], _, _ => .nil
  | a :: l, v :: vs, h, k => .cons (k 0 a v rfl rfl) (all2_of (by simpa using h) fun j a v e e' => k (j + 1) a v (by simpa using e) (by simpa using e'))

section
variable {w : World} {b₀ : Heap} {mean : ExcName → Option Value} {mg mb : Str → Option Value} {c : Cx} {env : Env} {E : Value → Shared → Prop} {lm : LM} {st : Store} {C : Addr} {QE : Store → Prop}

/-- a built-in type called by its name -/
theorem ev_tcall {n : Nat} {x : Str} {T : String} {np pos : Pos} {e : Expr} {es : List Expr} {Q : MV → Store → Prop} (G : Gd w b₀ mean mg mb) (hc : c.OK n) (he' : env = c.env)
    (hr : nsIn (heapK w.params) mainGlobals x = some none) (hv : bootBuiltins x = some (.type T)) (hn : x ≠ "__name__")
    (h : Ev w b₀ c env E (spliced (backTo pos (starEach (e :: es) env))) (All2 VR) lm st fun as st₁ => ∀ vs, All2 VR as vs → Ev w b₀ c env E (call (.type T) vs) VR lm st₁ Q)
    (hes : starEach (e :: es) env = (false, eval e env) :: starEach es env := by rfl) (hpl : (backTo pos (starEach es env)).any (·.1) = false := by rfl)
    (hca : eval (.Call (.Name x np) (e :: es) [] pos) env = (do callWith pos (← eval (.Name x np) env) [] (backTo pos (starEach (e :: es) env)) (backToKw pos (keywordEach [] env))) := by rfl)
    (hx : env.kindOf x = some .globalImplicit := by rfl) (hd : (x == ("__debug__" : Str)) = false := by decide) : Ev w b₀ c env E (eval (.Call (.Name x np) (e :: es) [] pos) env) VR lm st Q := fun s m P I S k =>
  Call_ (wp_bname G I (by rw [he']; exact hc.gl) (by rw [he']; exact hc.bi) (by rw [he']; exact hc.k) hr hv hn hx hd (PyProof.Rows.callWith_type1 (h s m _ I S fun v as h₁ tk st₁ I₁ T₁ hrv q =>
    q v hrv _ m _ I₁ (S.step T₁) fun v₂ x₂ h₂ tk₂ st₂ I₂ T₂ hr₂ q₂ => k v₂ x₂ h₂ tk₂ st₂ I₂ (T₁.trans T₂) hr₂ q₂) hes hpl)) hca

theorem call_listCopy {l : Addr} {vs : List MV} {Q : MV → Store → Prop} (hl : st l = some (.list vs)) (hs : vs.length ≤ sizeLine) (q : ∀ D, st D = none → Q (.ref D) (st.set D (.list vs))) : Ev w b₀ c env E (call (.type "list") [.ref l]) VR lm st Q := fun s m P I S K => by
  obtain ⟨ol, hol, ⟨its, nl, rfl, hall⟩, _⟩ := I.rep l _ hl
  refine call_list_seq (hsz := by rw [all2_toList hall]; exact hs) l (.inl rfl) hol rfl rfl fun h' c' hk hD => ?_
  (first | refine e0a3 (fun n1 I' T' => ?_) (I.new (mo := .list vs) (I.fr.keeps hk) (fun b o _ e => hk b o e) (Heap.get?_none_of_le (Nat.le_refl _)) I.sizeNot hD ⟨_, _, rfl, hall⟩) | refine e1a2 (fun n1 I' T' => ?_) (I.new (mo := .list vs) (I.fr.keeps hk) (fun b o _ e => hk b o e) (Heap.get?_none_of_le (Nat.le_refl _)) I.sizeNot hD ⟨_, _, rfl, hall⟩) | refine e2a1 (fun n1 I' T' => ?_) (I.new (mo := .list vs) (I.fr.keeps hk) (fun b o _ e => hk b o e) (Heap.get?_none_of_le (Nat.le_refl _)) I.sizeNot hD ⟨_, _, rfl, hall⟩) | obtain ⟨n1, I', T'⟩ := I.new (mo := .list vs) (I.fr.keeps hk) (fun b o _ e => hk b o e) (Heap.get?_none_of_le (Nat.le_refl _)) I.sizeNot hD ⟨_, _, rfl, hall⟩)
  exact K _ (.ref _) h' s.toks _ I' T' rfl (q _ n1)

theorem call_strInt {a : Int} {v : Value} {Q : MV → Store → Prop} (hv : VR (.int a) v) (ha : a.natAbs.log2 < 1920) (q : Q (.str (toString a)) st) : Ev w b₀ c env E (call (.type "str") [v]) VR lm st Q := by
  obtain ⟨t, rfl⟩ := hv
  exact .now q fun s _ k => PySem.P.str_of_int ha (k _ _ ⟨_, rfl⟩)
theorem op_addStr {a b : Str} {va vb : Value} {Q : MV → Store → Prop} (ha : VR (.str a) va) (hb : VR (.str b) vb) (hs : a.length + b.length ≤ sizeLine) (h : Q (.str (a ++ b)) st) : Ev w b₀ c env E (binaryOp .Add va vb) VR lm st Q := by
  obtain ⟨t, rfl⟩ := ha; obtain ⟨u, rfl⟩ := hb; exact .now h fun s _ k => PyProof.Rows.add_str (fun t' tk => k _ tk ⟨_, rfl⟩) hs
theorem op_addStrU {a b : Str} {Q : MV → Store → Prop} (hs : a.length + b.length ≤ sizeLine) (h : Q (.str (a ++ b)) st) : ∀ va vb, VR (.str a) va → VR (.str b) vb → Ev w b₀ c env E (binaryOp .Add va vb) VR lm st Q := fun va vb ha hb => op_addStr ha hb hs h

theorem call_max {a b : Int} {va vb : Value} {Q : MV → Store → Prop} (hh : c.hd = none) (ha : VR (.int a) va) (hb : VR (.int b) vb) (q : Q (.int (max a b)) st) : Ev w b₀ c env E (call (.builtin "max") [va, vb]) VR lm st Q := fun s m P I S K => by
  obtain ⟨t, rfl⟩ := ha; obtain ⟨u, rfl⟩ := hb
  refine max_two_N (show c.A.handled = none from hh) I.fr (News.ledger b₀ c.L s.heap) fun h' tk F' N' => ?_
  obtain ⟨I', T'⟩ := I.same F' (keep_all I.fr F' (fun p hp => hp) N')
  refine K _ (.int (max a b)) h' tk st I' T' ⟨if b > a then u else t, ?_⟩ q
  congr 1
  split <;> omega

theorem op_mulList {l : Addr} {k : Int} {vl vk : Value} {Q : MV → Store → Prop} (hvl : VR (.ref l) vl) (hvk : VR (.int k) vk) (hl : st l = some (.list [.int 0])) (h0 : 0 ≤ k) (hk : k ≤ 1000) (q : ∀ D, st D = none → Q (.ref D) (st.set D (.list (List.replicate k.toNat (.int 0))))) :
    Ev w b₀ c env E (binaryOp .Mult vl vk) VR lm st Q := fun s m P I S K => by
  cases hvl; obtain ⟨t, rfl⟩ := hvk
  obtain ⟨ol, hol, ⟨its, nl, rfl, hall⟩, _⟩ := I.rep l _ hl
  have hz : its.size = 1 := all2_toList hall
  refine mul_list I.fr (News.ledger b₀ c.L s.heap) hol (by omega) (by omega) (by rw [hz]; omega) fun h' F' N' => ?_
  obtain ⟨t0, e0⟩ : ∃ t0, its = #[.int 0 t0] := by
    cases hits : its.toList with
    | nil => rw [hits] at hall; cases hall
    | cons y ys => rw [hits] at hall; cases hall with | cons r t => cases t; obtain ⟨t1, rfl⟩ := r; exact ⟨t1, by rw [← Array.toArray_toList (xs := its), hits]⟩
  subst e0
  have hD := (N' _ (.head _)).1
  have key : ∀ (n : Nat) (acc : Array Value), (List.foldl (fun x1 x2 => x1 ++ x2) acc (List.replicate n #[Value.int 0 t0])).toList = acc.toList ++ List.replicate n (.int 0 t0) := by
    intro n
    induction n with
    | zero => intro acc; simp
    | succ n ih => intro acc; rw [List.replicate_succ, List.foldl_cons, ih]; simp [List.replicate_succ]
  obtain ⟨n1, I', T'⟩ := I.new (mo := .list (List.replicate k.toNat (.int 0))) F' (fun b o hb e => keep_all I.fr F' (fun p hp => .tail _ hp) N' b o hb e) (Heap.get?_none_of_le (Nat.le_refl _)) I.sizeNot hD ⟨_, _, rfl, by
    rw [if_neg (by simp), key]
    simp only [List.nil_append]
    generalize k.toNat = n
    induction n with
    | zero => exact .nil
    | succ n ih => exact .cons ⟨t0, rfl⟩ ih⟩
  exact K _ (.ref _) h' s.toks _ I' T' rfl (q _ n1)
theorem op_mulListU {l : Addr} {k : Int} {Q : MV → Store → Prop} (hl : st l = some (.list [.int 0])) (h0 : 0 ≤ k) (hk : k ≤ 1000) (q : ∀ D, st D = none → Q (.ref D) (st.set D (.list (List.replicate k.toNat (.int 0))))) : ∀ vl vk, VR (.ref l) vl → VR (.int k) vk → Ev w b₀ c env E (binaryOp .Mult vl vk) VR lm st Q := fun vl vk hvl hvk => op_mulList hvl hvk hl h0 hk q

theorem op_addList {l b : Addr} {vs us : List MV} {vl vb : Value} {Q : MV → Store → Prop} (hvl : VR (.ref l) vl) (hvb : VR (.ref b) vb) (hl : st l = some (.list vs)) (hb : st b = some (.list us)) (hs : vs.length + us.length ≤ sizeLine) (q : ∀ D, st D = none → Q (.ref D) (st.set D (.list (vs ++ us)))) :
    Ev w b₀ c env E (binaryOp .Add vl vb) VR lm st Q := fun s m P I S K => by
  cases hvl; cases hvb
  obtain ⟨ol, hol, ⟨its, nl, rfl, hall⟩, _⟩ := I.rep l _ hl
  obtain ⟨ob, hob, ⟨itb, nb, rfl, hallb⟩, _⟩ := I.rep b _ hb
  refine add_arrays I.fr (News.ledger b₀ c.L s.heap) ⟨_, hol, rfl, nl, rfl⟩ ⟨_, hob, rfl, nb, rfl⟩ (fun h' F' N' => ?_) (by rw [all2_toList hall, all2_toList hallb]; exact hs)
  have hD := (N' _ (.head _)).1
  obtain ⟨n1, I', T'⟩ := I.new (mo := .list (vs ++ us)) F' (fun b o hb e => keep_all I.fr F' (fun p hp => .tail _ hp) N' b o hb e) (Heap.get?_none_of_le (Nat.le_refl _)) I.sizeNot hD ⟨_, _, rfl, by simpa using hall.append hallb⟩
  exact K _ (.ref _) h' s.toks _ I' T' rfl (q _ n1)
theorem op_addListU {l b : Addr} {vs us : List MV} {Q : MV → Store → Prop} (hl : st l = some (.list vs)) (hb : st b = some (.list us)) (hs : vs.length + us.length ≤ sizeLine) (q : ∀ D, st D = none → Q (.ref D) (st.set D (.list (vs ++ us)))) : ∀ vl vb, VR (.ref l) vl → VR (.ref b) vb → Ev w b₀ c env E (binaryOp .Add vl vb) VR lm st Q := fun vl vb hvl hvb => op_addList hvl hvb hl hb hs q

theorem call_sortedI {d : Addr} {kvs : List (Int × MV)} {Q : MV → Store → Prop} (hh : c.hd = none) (hd : st d = some (.idict kvs)) (hs : kvs.length < 64) (q : ∀ l (ks : List Int), st l = none → ks.Perm (kvs.map (·.1)) → Q (.ref l) (st.set l (.list (ks.map .int)))) :
    Ev w b₀ c env E (call (.builtin "sorted") [.ref d]) VR lm st Q := fun s m P I S K => by
  obtain ⟨o, ho, ⟨vs, hdo, hall⟩, _⟩ := I.rep d _ hd
  have hD : s.heap.DictOf (intKind PG w) d vs := Heap.dictOf_iff.mpr ⟨o, ho, hdo⟩
  obtain ⟨ep, hat⟩ := hD.dictAt
  have hlen := hall.length
  refine call_function_entry kind_sorted plain_sorted entry_sorted (args_sorted1 _) ?_
  unfold Builtin.«sorted»
  refine wpAny_bind (m := checkCount "sorted" 1 1 _) (wpAny_pure ?_)
  refine wpAny_bind (kdu_collect (A := c.A.in1) (kdl_dict (knd := intKind PG w) (kvs := vs) (ep := ep) (I.notModules hd)) (show c.A.handled = none from hh) hat (by rw [sizeLine_eq]; omega) fun h₁ tk acc hk hacc => ?_)
  have hl : acc.toList.length = vs.length := by rw [Array.length_toList]; exact hacc.1
  refine wpAny_bind (wpAny_newList ?_ (by rw [hl, sizeLine_eq]; omega))
  obtain ⟨I₁, T₁⟩ := I.same (I.fr.keeps hk) fun b o _ e => hk b o e
  have hv : ∀ (j : Nat) (v : Value), acc.toList[j]? = some v → ∃ k x, vs[j]? = some (k, x) ∧ (intKind PG w).is k v = true := fun j v e => hacc.2 j v (by rw [← Array.getElem?_toList]; exact e)
  generalize acc.toList = xs at hl hv ⊢
  have hxs : All2 VR ((kvs.map (·.1)).map MV.int) xs := by
    refine all2_of (by rw [List.length_map, List.length_map, hlen, hl]) fun j a v ea ev => ?_
    (first | refine e0a4 (fun kk xx hj hk => ?_) (hv j v ev) | refine e1a3 (fun kk xx hj hk => ?_) (hv j v ev) | refine e2a2 (fun kk xx hj hk => ?_) (hv j v ev) | obtain ⟨kk, xx, hj, hk⟩ := hv j v ev)
    rw [List.map_map, List.getElem?_map] at ea
    obtain ⟨p, hp, rfl⟩ := Option.map_eq_some_iff.mp ea
    (first | refine e0a3 (fun b hb r => ?_) (hall.get hp) | refine e1a2 (fun b hb r => ?_) (hall.get hp) | refine e2a1 (fun b hb r => ?_) (hall.get hp) | obtain ⟨b, hb, r⟩ := hall.get hp)
    rw [hj] at hb; cases hb
    obtain ⟨t, rfl⟩ := (show ∃ t, v = Value.int kk t from by
      cases v <;> first | cases hk | (exact ⟨_, by rw [show _ = kk from of_decide_eq_true hk]⟩))
    exact ⟨t, by rw [show (fun (x : Int × MV) => x.fst) p = kk from r.1]⟩
  obtain ⟨n1, I', T'⟩ := I₁.pushNew { cls := .type "list", data := .seq xs.toArray } (mo := .list ((kvs.map (·.1)).map .int)) ⟨_, _, rfl, by simpa using hxs⟩
  have hDo := Heap.get?_push_size h₁ (o := { cls := .type "list", data := .seq xs.toArray }) rfl
  have hnL : h₁.objs.size ≠ c.L := Nat.ne_of_gt I₁.fr.ns.lt
  have hnb : b₀.get? h₁.objs.size = none := (I₁.fresh (Heap.get?_none_of_le (Nat.le_refl _))).2.2.2
  generalize hH : h₁.push { cls := .type "list", data := .seq xs.toArray } = h' at I' T' hDo ⊢
  generalize h₁.objs.size = D at *
  refine wpAny_bind (wpAny_holding ?_)
  refine wpAny_call_entry PyProof.Rows.slot_list_sort ⟨_, hDo, rfl⟩ PyProof.Rows.entry_list_sort (list_sort_tree (s := { s with heap := h', toks := tk }) hDo (intsAre_of hxs) (by rw [hl, ← hlen]; exact hs) fun out ns' a1 a2 a3 => ⟨_, rfl, ?_⟩) (PyProof.Rows.args_list_sort _)
  obtain ⟨e, he⟩ := sortedHeap_at (vs := xs) (out := out) hDo
  have hlt' : ∀ b o, h'.get? b = some o → b ≠ D → (sortedHeap h' D xs out).get? b = some o := fun b o hb hn => (sortedHeap_old hn (Heap.lt_size hb)).trans hb
  (first | refine e0a5 (fun oL es epp hoL r => ?_) (I'.fr.ns) | refine e1a4 (fun oL es epp hoL r => ?_) (I'.fr.ns) | refine e2a3 (fun oL es epp hoL r => ?_) (I'.fr.ns) | refine e3a2 (fun oL es epp hoL r => ?_) (I'.fr.ns) | obtain ⟨oL, es, epp, hoL, r⟩ := I'.fr.ns)
  obtain ⟨I₂, T₂⟩ := I'.upd (mo' := .list (ns'.map .int)) (m' := m) ⟨⟨oL, es, epp, hlt' _ _ hoL (Ne.symm hnL), r⟩, fun b o q' => hlt' _ _ (I'.fr.keep b o q') (fun z => by rw [z, hnb] at q'; cases q'), I'.fr.above⟩ (Store.set_self _ _ _)
    (fun b o _ hn hb => hlt' b o hb hn) he ⟨_, _, rfl, ints_of a1⟩
  rw [Store.set_set] at I₂ T₂
  exact wpAny_pure ⟨_, rfl, K _ (.ref D) _ tk _ I₂ ((T₁.trans T').trans T₂) rfl (q D ns' n1 a2)⟩
end
end PartE9
section PartE10
open PySem PySem.W PyProof.Rows PySem.Spec PySem.Calls

theorem stored_nodup {K : Type} [DecidableEq K] {vs : List (K × Value)} (hn : (vs.map (·.1)).Nodup) (k : K) (v : Value) : ((stored vs k v).map (·.1)).Nodup := by
  unfold stored
  split
  · have e : (vs.map fun kv => if kv.1 = k then (kv.1, v) else kv).map (·.1) = vs.map (·.1) := by
      rw [List.map_map]
      refine List.map_congr_left fun p _ => ?_
      show (if p.1 = k then (p.1, v) else p).1 = p.1
      split <;> rfl
    rw [e]; exact hn
  · rename_i h
    rw [List.map_append]
    refine List.nodup_append.mpr ⟨hn, by simp, fun a ha b hb e => ?_⟩
    simp only [List.map_cons, List.map_nil, List.mem_singleton] at hb
    subst hb; subst e
    refine h ?_
    (first | refine e0a3 (fun p hp e => ?_) (List.mem_map.mp ha) | refine e1a2 (fun p hp e => ?_) (List.mem_map.mp ha) | refine e2a1 (fun p hp e => ?_) (List.mem_map.mp ha) | obtain ⟨p, hp, e⟩ := List.mem_map.mp ha)
    exact List.any_eq_true.mpr ⟨p, hp, decide_eq_true e⟩

def PR (a : MV × MV) (b : Value × Value) : Prop := VR a.1 b.1 ∧ VR a.2 b.2

section
variable {w : World} {b₀ : Heap} {mean : ExcName → Option Value} {mg mb : Str → Option Value} {c : Cx} {env : Env} {E : Value → Shared → Prop} {lm : LM} {st : Store} {C : Addr} {QE : Store → Prop}

/-! displays of dicts -/
theorem ev_pairs_nil {pos : Pos} {Q : List (MV × MV) → Store → Prop} (h : Q [] st) : Ev w b₀ c env E (evalPairs (pairTrees [] [] env pos)) (All2 PR) lm st Q := .now h fun s P k => pairTrees_nil_walk (k _ s.toks .nil)
theorem ev_pairs_cons {k v : Expr} {ks : List (Option Expr)} {vs : List Expr} {pos : Pos} {Q : List (MV × MV) → Store → Prop}
    (h : Ev w b₀ c env E (eval k env) VR lm st fun a st₁ => Ev w b₀ c env E (eval v env) VR lm st₁ fun b st₂ => Ev w b₀ c env E (evalPairs (pairTrees ks vs env pos)) (All2 PR) lm st₂ fun r st₃ => Q ((a, b) :: r) st₃) :
    Ev w b₀ c env E (evalPairs (pairTrees (some k :: ks) (v :: vs) env pos)) (All2 PR) lm st Q := fun s m P I S K =>
  pairTrees_cons_walk (h s m _ I S fun v₁ x₁ h₁ tk₁ st₁ I₁ T₁ r₁ q₁ => q₁ _ m _ I₁ (S.step T₁) fun v₂ x₂ h₂ tk₂ st₂ I₂ T₂ r₂ q₂ => q₂ _ m _ I₂ ((S.step T₁).step T₂) fun v₃ x₃ h₃ tk₃ st₃ I₃ T₃ r₃ q₃ =>
    K _ _ h₃ tk₃ st₃ I₃ ((T₁.trans T₂).trans T₃) (.cons ⟨r₁, r₂⟩ r₃) q₃)

theorem carries_of {K : Type} [DecidableEq K] {knd : KeyKind PG w K} {mk : K → MV} (hmk : ∀ k v, VR (mk k) v → knd.is k v = true) : ∀ {kvs : List (K × MV)} {vs : List (Value × Value)}, All2 PR (kvs.map fun p => (mk p.1, p.2)) vs →
    ∃ us : List (K × Value), Carries knd vs us ∧ All2 KR kvs us
  | [], _, h => by cases h; exact ⟨[], trivial, .nil⟩
  | p :: kvs, _, h => by
    cases h with
    | cons r t =>
      (first | refine e0a3 (fun us h1 h2 => ?_) (carries_of hmk t) | refine e1a2 (fun us h1 h2 => ?_) (carries_of hmk t) | refine e2a1 (fun us h1 h2 => ?_) (carries_of hmk t) | obtain ⟨us, h1, h2⟩ := carries_of hmk t)
      rename_i b l
      exact ⟨(p.1, b.2) :: us, ⟨hmk _ _ r.1, rfl, h1⟩, .cons ⟨rfl, r.2⟩ h2⟩

theorem dput_all {K : Type} [DecidableEq K] : ∀ {kvs acc : List (K × MV)}, (∀ p ∈ kvs, ∀ a ∈ acc, a.1 ≠ p.1) → (kvs.map (·.1)).Nodup → kvs.foldl (fun acc kv => dput kv.1 kv.2 acc) acc = acc ++ kvs
  | [], acc, _, _ => by simp
  | p :: kvs, acc, h, hn => by
    rw [List.map_cons, List.nodup_cons] at hn
    have e : ∀ acc : List (K × MV), (∀ a ∈ acc, a.1 ≠ p.1) → dput p.1 p.2 acc = acc ++ [p] := by
      intro acc
      induction acc with
      | nil => intro _; rfl
      | cons a r ih => intro h; unfold dput; rw [if_neg (h a (.head _)), ih fun b hb => h b (.tail _ hb)]; rfl
    rw [List.foldl_cons, e acc (h p (.head _)), dput_all (fun q hq a ha => ?_) hn.2]
    · simp
    · rcases List.mem_append.mp ha with ha | ha
      · exact h q (.tail _ hq) a ha
      · rw [List.mem_singleton.mp ha]; intro e'; exact hn.1 (e' ▸ List.mem_map_of_mem hq)
theorem merged_all {K : Type} [DecidableEq K] : ∀ {kvs acc : List (K × MV)} {us vs : List (K × Value)}, All2 KR kvs us → All2 KR acc vs → (vs.map (·.1)).Nodup → All2 KR (kvs.foldl (fun acc kv => dput kv.1 kv.2 acc) acc) (merged vs us)
  | [], _, _, _, h, h', _ => by cases h; exact h'
  | p :: kvs, acc, _, vs, h, h', hn => by
    cases h with
    | @cons _ b _ l r t =>
      show All2 KR _ (merged (stored vs b.1 b.2) l)
      rw [List.foldl_cons]
      refine merged_all t ?_ (stored_nodup hn _ _)
      have := dput_stored (k := b.1) r.2 h' hn
      rw [show p.1 = b.1 from r.1]; exact this

theorem ev_dictS {keys : List (Option Expr)} {values : List Expr} {pos : Pos} {Q : MV → Store → Prop} (hall : keys.all (·.isSome) = true) (hl : keys.length = values.length) (h0 : keys ≠ []) (hlen : keys.length ≤ 15)
    (h : ∀ d, st d = none → Ev w b₀ c env E (evalPairs (pairTrees keys values env pos)) (All2 PR) lm (st.set d (.sdict [])) fun ps st₁ => ∃ kvs : List (Str × MV), ps = kvs.map (fun p => (.str p.1, p.2)) ∧ (kvs.map (·.1)).Nodup ∧ st₁ d = some (.sdict []) ∧ Q (.ref d) (st₁.set d (.sdict kvs))) :
    Ev w b₀ c env E (eval (.Dict keys values pos) env) VR lm st Q := fun s m P I S K => by
  (first | refine e0a3 (fun n1 I₁ T₁ => ?_) (I.pushNew { cls := .type "dict", data := .dict #[] } (mo := .sdict []) ⟨[], ⟨#[], 0, (by repeat' constructor), rfl, (fun e he => absurd he (by simp)), .nil, List.nodup_nil⟩, .nil⟩) | refine e1a2 (fun n1 I₁ T₁ => ?_) (I.pushNew { cls := .type "dict", data := .dict #[] } (mo := .sdict []) ⟨[], ⟨#[], 0, (by repeat' constructor), rfl, (fun e he => absurd he (by simp)), .nil, List.nodup_nil⟩, .nil⟩) | refine e2a1 (fun n1 I₁ T₁ => ?_) (I.pushNew { cls := .type "dict", data := .dict #[] } (mo := .sdict []) ⟨[], ⟨#[], 0, (by repeat' constructor), rfl, (fun e he => absurd he (by simp)), .nil, List.nodup_nil⟩, .nil⟩) | obtain ⟨n1, I₁, T₁⟩ := I.pushNew { cls := .type "dict", data := .dict #[] } (mo := .sdict []) ⟨[], ⟨#[], 0, (by repeat' constructor), rfl, (fun e he => absurd he (by simp)), .nil, List.nodup_nil⟩, .nil⟩)
  refine wpAny_Dict_walk (knd := strKind PG w) hall hl h0 hlen (h _ n1 { s with heap := s.heap.push { cls := .type "dict", data := .dict #[] } } m _ I₁ (S.step T₁) fun vs x h' tk st' I' T' hr q => ?_)
  obtain ⟨kvs, rfl, hnd, hd, q⟩ := q
  obtain ⟨us, hc, hu⟩ := carries_of (knd := strKind PG w) (mk := .str) (fun k v hv => by obtain ⟨t, rfl⟩ := hv; exact strKind_is _ _ _ _) hr
  obtain ⟨o, ho, ⟨vs', hdo, hall'⟩, _⟩ := I'.rep _ _ hd
  obtain rfl : vs' = [] := by cases hall'; rfl
  refine ⟨us, hc, Heap.dictOf_iff.mpr ⟨o, ho, hdo⟩, fun h₂ hD hs => ?_⟩
  (first | refine e0a3 (fun o₂ ho₂ hd₂ => ?_) (Heap.dictOf_iff.mp hD) | refine e1a2 (fun o₂ ho₂ hd₂ => ?_) (Heap.dictOf_iff.mp hD) | refine e2a1 (fun o₂ ho₂ hd₂ => ?_) (Heap.dictOf_iff.mp hD) | obtain ⟨o₂, ho₂, hd₂⟩ := Heap.dictOf_iff.mp hD)
  have hm := merged_all (kvs := kvs) (acc := []) (vs := []) hu .nil List.nodup_nil
  rw [dput_all (acc := []) (fun _ _ _ ha => by cases ha) hnd, List.nil_append] at hm
  obtain ⟨I₂, T₂⟩ := I'.change hd hs ho₂ (mo' := .sdict kvs) ⟨_, hd₂, hm⟩
  exact K _ (.ref _) h₂ _ _ I₂ ((T₁.trans T').trans T₂) rfl q

theorem ev_dictI {keys : List (Option Expr)} {values : List Expr} {pos : Pos} {Q : MV → Store → Prop} (hall : keys.all (·.isSome) = true) (hl : keys.length = values.length) (h0 : keys ≠ []) (hlen : keys.length ≤ 15)
    (h : ∀ d, st d = none → Ev w b₀ c env E (evalPairs (pairTrees keys values env pos)) (All2 PR) lm (st.set d (.idict [])) fun ps st₁ => ∃ kvs : List (Int × MV), ps = kvs.map (fun p => (.int p.1, p.2)) ∧ (kvs.map (·.1)).Nodup ∧ st₁ d = some (.idict []) ∧ Q (.ref d) (st₁.set d (.idict kvs))) :
    Ev w b₀ c env E (eval (.Dict keys values pos) env) VR lm st Q := fun s m P I S K => by
  (first | refine e0a3 (fun n1 I₁ T₁ => ?_) (I.pushNew { cls := .type "dict", data := .dict #[] } (mo := .idict []) ⟨[], ⟨#[], 0, (by repeat' constructor), rfl, (fun e he => absurd he (by simp)), .nil, List.nodup_nil⟩, .nil⟩) | refine e1a2 (fun n1 I₁ T₁ => ?_) (I.pushNew { cls := .type "dict", data := .dict #[] } (mo := .idict []) ⟨[], ⟨#[], 0, (by repeat' constructor), rfl, (fun e he => absurd he (by simp)), .nil, List.nodup_nil⟩, .nil⟩) | refine e2a1 (fun n1 I₁ T₁ => ?_) (I.pushNew { cls := .type "dict", data := .dict #[] } (mo := .idict []) ⟨[], ⟨#[], 0, (by repeat' constructor), rfl, (fun e he => absurd he (by simp)), .nil, List.nodup_nil⟩, .nil⟩) | obtain ⟨n1, I₁, T₁⟩ := I.pushNew { cls := .type "dict", data := .dict #[] } (mo := .idict []) ⟨[], ⟨#[], 0, (by repeat' constructor), rfl, (fun e he => absurd he (by simp)), .nil, List.nodup_nil⟩, .nil⟩)
  refine wpAny_Dict_walk (knd := intKind PG w) hall hl h0 hlen (h _ n1 { s with heap := s.heap.push { cls := .type "dict", data := .dict #[] } } m _ I₁ (S.step T₁) fun vs x h' tk st' I' T' hr q => ?_)
  obtain ⟨kvs, rfl, hnd, hd, q⟩ := q
  obtain ⟨us, hc, hu⟩ := carries_of (knd := intKind PG w) (mk := .int) (fun k v hv => by obtain ⟨t, rfl⟩ := hv; exact intKind_is _ _ _ _) hr
  obtain ⟨o, ho, ⟨vs', hdo, hall'⟩, _⟩ := I'.rep _ _ hd
  obtain rfl : vs' = [] := by cases hall'; rfl
  refine ⟨us, hc, Heap.dictOf_iff.mpr ⟨o, ho, hdo⟩, fun h₂ hD hs => ?_⟩
  (first | refine e0a3 (fun o₂ ho₂ hd₂ => ?_) (Heap.dictOf_iff.mp hD) | refine e1a2 (fun o₂ ho₂ hd₂ => ?_) (Heap.dictOf_iff.mp hD) | refine e2a1 (fun o₂ ho₂ hd₂ => ?_) (Heap.dictOf_iff.mp hD) | obtain ⟨o₂, ho₂, hd₂⟩ := Heap.dictOf_iff.mp hD)
  have hm := merged_all (kvs := kvs) (acc := []) (vs := []) hu .nil List.nodup_nil
  rw [dput_all (acc := []) (fun _ _ _ ha => by cases ha) hnd, List.nil_append] at hm
  obtain ⟨I₂, T₂⟩ := I'.change hd hs ho₂ (mo' := .idict kvs) ⟨_, hd₂, hm⟩
  exact K _ (.ref _) h₂ _ _ I₂ ((T₁.trans T').trans T₂) rfl q

/-! calls as codes, and making instances -/
def EvC (w : World) (b₀ : Heap) (c : Cx) (env : Env) (f : Value) (vals : List Value) (lm : LM) (st : Store) (Q : MV → Store → Prop) : Prop :=
  ∀ (s : Shared) (m : Str → Option Value) (R : Result → Shared → Prop), In w b₀ c st s.heap m → Sees c env st s.heap m lm →
    (∀ v x h' tk st', In w b₀ c st' h' m → Step c st s.heap st' h' → VR x v → Q x st' → R (.ok (.ret v)) { s with heap := h', toks := tk }) → codeAny (model PG w) c.A (.call f ⟨vals, []⟩) R s

theorem evC_enterP {n : Nat} {f : Addr} {name qual : Str} {params : Arguments} {body : List Stmt} {scope : Scope} {dV kV doc pm cdv ct oc : Value} {an od : Option Addr} {osl : Array (Option Value)} {vals : List Value} {mvs : List MV} {Q : MV → Store → Prop}
    (G : Gd w b₀ mean mg mb) (hc : c.OK (n + 1)) (ho : (heapK w.params).lookup f = some ⟨oc, od, .func (fnOf name qual params body scope dV kV doc pm an cdv ct), osl⟩)
    (hcd : codeIn (heapK w.params) cdv qual = true) (hv : All2 VR mvs vals)
    (hbind : bindArgs (fnOf name qual params body scope dV kV doc pm an cdv ct) ⟨vals, []⟩ = pure ((params.args.map (·.arg)).zip vals))
    (hloc : ((params.args.map (·.arg)).all fun y => scope.names.lookup y == some .local) = true) (hnd : (params.args.map (·.arg)).Nodup) (hs : scopeOk scope = true)
    (h : ∀ (c' : Cx) E', c'.OK n → c'.env = envX qual scope c'.L f cdv [] → c'.hd = c.hd → Ex w b₀ c' (envX qual scope c'.L f cdv []) E' (execs body (envX qual scope c'.L f cdv [])) (LM.of ((params.args.map (·.arg)).zip mvs)) st fun fl _ st' => Ends Q fl st') :
    EvC w b₀ c env (.ref f) vals lm st Q := fun s m R I S k => by
  unfold scopeOk at hs
  simp only [Bool.and_eq_true, Bool.not_eq_true', beq_iff_eq, List.all_eq_true, bne_iff_ne, ne_eq] at hs
  obtain ⟨⟨⟨h1, h2⟩, h3⟩, h4⟩ := hs
  have loc : ∀ y ∈ params.args.map (·.arg), scope.names.lookup y = some .local := fun y hy => by
    have := List.all_eq_true.mp hloc y hy
    simpa using this
  have X := G.X.keeps I.fr.keep
  refine codeAny_call_def (fd := fnOf name qual params body scope dV kV doc pm an cdv ct) (body := body) (binds := (params.args.map (·.arg)).zip vals) ?_ (X _ _ ho) rfl (G.T.nolimit.keeps I.fr.keep) (codeRec_of X hcd) rfl (BindsTo.of_eq hbind) h4 (fun y hy => loc _ (List.of_mem_zip hy).1) (fun h₁ hns hk₁ => ?_) h2 h3 h1
  · have := hc.d; show c.dp < _; omega
  · have I₁ := enterIn (env' := envX qual scope s.heap.objs.size f cdv []) hc I hns hk₁
    refine h (c.under (envX qual scope s.heap.objs.size f cdv []) s.heap.objs.size) _ (hc.under h1) rfl rfl { s with heap := h₁, toks := s.toks + ((params.args.map (·.arg)).zip vals).length } _ _ I₁ ?_ ?_
    · intro x mv e
      (first | refine e0a4 (fun v hv hl hn => ?_) (lm_of hv hnd e) | refine e1a3 (fun v hv hl hn => ?_) (lm_of hv hnd e) | refine e2a2 (fun v hv hl hn => ?_) (lm_of hv hnd e) | obtain ⟨v, hv, hl, hn⟩ := lm_of hv hnd e)
      exact ⟨v, hv, .inl ⟨loc _ hn, rfl, hl⟩⟩
    · intro fl x h' tk m' st' lm'' I' T _ hr q
      obtain ⟨I₂, T₂⟩ := In.back hc I I' rfl rfl hk₁ T
      cases x with
      | next => cases hr; exact k .none .none h' tk st' I₂ T₂ rfl q
      | brk => exact q.elim
      | cont => exact q.elim
      | ret mv => obtain ⟨v, hv, rfl⟩ := hr; exact k v mv h' tk st' I₂ T₂ hv q

theorem ev_make {fI : Addr} {vals : List Value} {Q : MV → Store → Prop} (G : Gd w b₀ mean mg mb) (hm : makesIn (heapK w.params) C = true) (hi : findIn (heapK w.params) (.ref C) "__init__" = some (some (.ref fI))) (hf : typeIn (heapK w.params) (.ref fI) = some (.type "function"))
    (h : ∀ x d, st x = none → st d = none → x ≠ d → EvC w b₀ c.up env (.ref fI) (.ref x :: vals) lm ((st.set d (.fields [])).set x (.inst C d)) fun r st' => r = .none ∧ Q (.ref x) st') :
    Ev w b₀ c env E (call (.ref C) vals) VR lm st Q := fun s m P I S K => by
  have KX := G.X.keeps I.fr.keep
  (first | refine e0a5 (fun hh g dr tk os => ?_) (s) | refine e1a4 (fun hh g dr tk os => ?_) (s) | refine e2a3 (fun hh g dr tk os => ?_) (s) | refine e3a2 (fun hh g dr tk os => ?_) (s) | obtain ⟨hh, g, dr, tk, os⟩ := s); try clear s
  refine wpAny_call (make_core (makes_of KX hm) (looks_findIn KX hi) (fun self => bind_fn KX self hf) (.inl rfl) ?_)
  (first | refine e0a3 (fun n1 I₁ T₁ => ?_) (I.pushNew emptyDict (mo := .fields []) ⟨[], 0, rfl, .nil, Nat.zero_le _⟩) | refine e1a2 (fun n1 I₁ T₁ => ?_) (I.pushNew emptyDict (mo := .fields []) ⟨[], 0, rfl, .nil, Nat.zero_le _⟩) | refine e2a1 (fun n1 I₁ T₁ => ?_) (I.pushNew emptyDict (mo := .fields []) ⟨[], 0, rfl, .nil, Nat.zero_le _⟩) | obtain ⟨n1, I₁, T₁⟩ := I.pushNew emptyDict (mo := .fields []) ⟨[], 0, rfl, .nil, Nat.zero_le _⟩)
  (first | refine e0a3 (fun n2 I₂ T₂ => ?_) (I₁.pushNew (instObj C hh.objs.size) (mo := .inst C hh.objs.size) rfl) | refine e1a2 (fun n2 I₂ T₂ => ?_) (I₁.pushNew (instObj C hh.objs.size) (mo := .inst C hh.objs.size) rfl) | refine e2a1 (fun n2 I₂ T₂ => ?_) (I₁.pushNew (instObj C hh.objs.size) (mo := .inst C hh.objs.size) rfl) | obtain ⟨n2, I₂, T₂⟩ := I₁.pushNew (instObj C hh.objs.size) (mo := .inst C hh.objs.size) rfl)
  rw [Heap.size_push] at n2 I₂ T₂
  have ne : hh.objs.size + 1 ≠ hh.objs.size := Nat.succ_ne_self _
  rw [Store.set_ne _ _ ne] at n2
  rw [Cx.up_A]
  refine h _ _ n2 n1 ne ⟨_, g, dr, tk, os⟩ m _ I₂.up ((S.step T₁).step T₂) fun v x h' tk' st' I' T' hr q => ?_
  obtain ⟨rfl, q⟩ := q
  cases hr
  exact ⟨rfl, K (.ref _) (.ref _) h' tk' st' I'.down ((T₁.trans T₂).trans T') rfl q⟩
end
end PartE10
section PartE11
open PySem PySem.W PyProof.Rows PySem.Spec PySem.Calls
section
variable {w : World} {b₀ : Heap} {mean : ExcName → Option Value} {mg mb : Str → Option Value} {c : Cx} {env : Env} {E : Value → Shared → Prop} {lm : LM} {st : Store} {C : Addr} {QE : Store → Prop}

theorem iter_range {I : Addr} {N : Nat} (hh : c.hd = none) : IterOk w b₀ c I N (fun i => .int (i : Int)) (fun _ => True) (fun i h => IsRangeIter h I ((i : Nat) : Int) ((N : Int) - (i : Nat)) 1) where
  item := fun i s st m P E hi hit II _ k => wpAny_pyNext_range_item hit (by omega) fun h' hit' hs => k _ h' _ ⟨_, rfl⟩ (by
    have e1 : ((i + 1 : Nat) : Int) = (i : Int) + 1 := by omega
    have e2 : (N : Int) - ((i + 1 : Nat) : Int) = (N : Int) - (i : Int) - 1 := by omega
    rw [e1, ← e1, e2, e1]; exact hit') hs.extBut
  done := fun s st m P E hit II _ k => wpAny_pyNext_range_end (show c.A.handled = none from hh) hit (by omega) k
  self := fun s P E hit k => wpAny_pyIter_rangeiter hit k
  at_ := fun i h h' hit k => k _ hit
  there := fun i h hit => ⟨_, hit⟩

theorem ev_compRange {n : Nat} {elt e : Expr} {x : Str} {px np rp : Pos} {ifs : List Expr} {scope : Scope} {cl : List (Str × Addr)} {pos : Pos} {lmF : LM} {Q : MV → Store → Prop} (G : Gd w b₀ mean mg mb)
    (hc : c.OK n) (he : env = c.env) (hh : c.hd = none) (hcells : ∀ x a, env.cells.lookup x = some a → ∃ mv, lm x = some mv ∧ (env.kindOf x = some .cell)) (hclos : closureFor scope env = pure cl) (hcell : ∀ y ∈ scope.names, y.2 ≠ .cell) (hkind : scope.kind = .function)
    (hnames : ∀ y ∈ scope.names, y.2 = .local → scope.names.lookup y.1 = some .local) (hx : scope.names.lookup x = some .local)
    (hF : ∀ y mv, lmF y = some mv → lm y = some mv ∧ env.kindOf y = some .cell ∧ scope.names.lookup y = some .free ∧ cl.lookup y = env.cells.lookup y)
    (hr : nsIn (heapK w.params) mainGlobals "range" = some none)
    (h : Ev w b₀ c env E (spliced (backTo rp (starEach [e] env))) (All2 VR) lm st fun as st₁ => ∃ N : Nat, as = [.int (N : Int)] ∧ N ≤ 1000 ∧ ∃ J : Nat → List MV → Store → Prop, J 0 [] st₁ ∧
      CompTurns w b₀ c env elt x ifs scope cl lmF N (fun i => .int (i : Int)) J ∧ ∀ D acc st', J N acc st' → st' D = none → Q (.ref D) (st'.set D (.list acc)))
    (hs : ∀ x, foldedSetIterable (.Call (.Name "range" np) [e] [] rp) env x = pure x := by intro _; rfl) (hxr : env.kindOf "range" = some .globalImplicit := by rfl)
    (hes : starEach [e] env = (false, eval e env) :: starEach [] env := by rfl)
    (hca : eval (.Call (.Name "range" np) [e] [] rp) env = (do callWith rp (← eval (.Name "range" np) env) [] (backTo rp (starEach [e] env)) (backToKw rp (keywordEach [] env))) := by rfl) :
    Ev w b₀ c env E (eval (.ListComp elt [⟨.Name x px, (.Call (.Name "range" np) [e] [] rp), ifs, 0⟩] scope pos) env) VR lm st Q := fun s m P I S k => by
  rw [eval_ListComp]
  refine wpAny_comprehension_free (use := none) rfl hs hclos hkind hnames (Call_ (wp_bname G I (by rw [he]; exact hc.gl) (by rw [he]; exact hc.bi) (by rw [he]; exact hc.k) hr boot_range (by decide) hxr (by decide) (PyProof.Rows.callWith_type1 (h s m _ I S fun v as h₁ tk st₁ I₁ T₁ hrv q => ?_) hes rfl)) hca)
  obtain ⟨N, rfl, hN, J, hJ, turn, done⟩ := q
  cases hrv with
  | cons r1 r2 =>
    cases r2
    obtain ⟨t, rfl⟩ := r1
    refine call_range_1 (s := { s with heap := h₁, toks := tk }) ?_
    dsimp only
    generalize tk + 1 + 1 = tk₀
    generalize htk1 : tk + 1 = tk1
    generalize htk2 : tk = tk2
    obtain ⟨I₁', T₁'⟩ := I₁.push { cls := .type "range", data := .fields #[.int 0 tk2, .int (N : Int) t, .int 1 tk1] }
    refine wpAny_pyIter_range (s := { s with heap := h₁.push { cls := .type "range", data := .fields #[.int 0 tk2, .int (N : Int) t, .int 1 tk1] }, toks := tk₀ }) (IsRange.new ..) (small_one (by omega) (by omega) (by omega) (by omega)) ?_
    rw [rangeSize_nat]
    have eN : ((((N : Int) - 0).toNat : Nat) : Int) = (N : Int) := by omega
    rw [eN]
    generalize hH : h₁.push { cls := .type "range", data := .fields #[.int 0 tk2, .int (N : Int) t, .int 1 tk1] } = H at I₁' T₁' ⊢
    have hX : H.get? H.objs.size = none := Heap.get?_none_of_le (Nat.le_refl _)
    (first | refine e0a4 (fun fX1 fX2 fX3 fX4 => ?_) (I₁'.fresh hX) | refine e1a3 (fun fX1 fX2 fX3 fX4 => ?_) (I₁'.fresh hX) | refine e2a2 (fun fX1 fX2 fX3 fX4 => ?_) (I₁'.fresh hX) | obtain ⟨fX1, fX2, fX3, fX4⟩ := I₁'.fresh hX)
    obtain ⟨I₂, T₂⟩ := I₁'.push { cls := .type "range_iterator", data := .fields #[rawInt 0, rawInt (N : Int), rawInt 1] }
    have S₁ := (S.step T₁).step T₁'
    have hce := S₁.cells hcells hX
    refine comp_core (s₂ := { s with heap := H.push { cls := .type "range_iterator", data := .fields #[rawInt 0, rawInt (N : Int), rawInt 1] }, toks := tk₀ }) (h₀ := H) (N := N) (val := fun i => .int (i : Int)) hc he (iter_range hh) I₂ (S₁.step T₂) (by simpa using Heap.get?_push_size H (o := { cls := .type "range_iterator", data := .fields #[rawInt 0, rawInt (N : Int), rawInt 1] }) rfl) fX1 fX2 fX3 fX4 hce hX T₂ (by show H.objs.size ≤ (H.push _).objs.size; rw [Heap.size_push]; exact Nat.le_succ _)
      hcell hkind hx hF (by rw [sizeLine_eq]; omega) J hJ (fun _ _ _ _ => trivial) turn ?_
    intro D C h' tk' mC acc st' hJ' I' T' hD hn hCn hCL hCF hCb hC0
    refine ⟨mC, hn, fun h'' hs'' => ?_⟩
    exact k (.ref D) (.ref D) h'' tk' _ (I'.other hCn hCL hCF hCb hs''.extBut) ((T₁.trans T₁').trans (T'.other hC0 hs''.extBut)) rfl (done D acc st' hJ' hD)

/-! the script, that stands below the base -/
def Scr (b₀ : Heap) (l : Addr) (ns : List Int) : Prop := ∃ its n o, b₀.get? l = some o ∧ o.cls = .type "list" ∧ o.data = .seq its n ∧ IntsAre its.toList ns

theorem call_lenScr {l : Addr} {ns : List Int} {Q : MV → Store → Prop} (hl : Scr b₀ l ns) (hs : ns.length ≤ 1000) (q : Q (.int ns.length) st) : Ev w b₀ c env E (call (.builtin "len") [.ref l]) VR lm st Q := fun s m P I S K => by
  (first | refine e1a6 (fun its n o ho h1 h2 h3 => ?_) (hl) | refine e3a4 (fun its n o ho h1 h2 h3 => ?_) (hl) | obtain ⟨its, n, o, ho, h1, h2, h3⟩ := hl); try clear hl
  have hz : its.size = ns.length := by rw [← Array.length_toList, h3.length]
  exact call_len_list ⟨o, I.fr.keep _ _ ho, h1, n, h2⟩ (by omega) (K _ (.int ns.length) s.heap _ st I (Step.refl _ _ _) ⟨_, by rw [hz]⟩ q)

theorem ev_sliceScr {value : Expr} {upper : Option Expr} {p pos : Pos} {ns : List Int} {Q : MV → Store → Prop}
    (h : Ev w b₀ c env E (eval value env) VR lm st fun o st₁ => Ev w b₀ c env E (evalPart upper env) VR lm st₁ fun b st₃ =>
      ∃ l, o = .ref l ∧ Scr b₀ l ns ∧ ns.length ≤ 1000 ∧ ∃ j : Nat, b = .int j ∧ ∀ D, st₃ D = none → Q (.ref D) (st₃.set D (.list ((ns.take j).map .int))))
    (ht : ∀ o r, letTemporaryGo value o r = pure () := by intro _ _; rfl) : Ev w b₀ c env E (eval (.Subscript value (.Slice none upper none p) pos) env) VR lm st Q := fun s m P I S k =>
  wpAny_Subscript_list_slice (h s m _ I S fun v x h' tk st' I' T hr q => by
    rw [evalPart_none]
    refine wpAny_pure (q _ m _ I' (S.step T) fun v₃ x₃ h₃ tk₃ st₃ I₃ T₃ hr₃ q₃ => ?_)
    obtain ⟨l, rfl, ⟨its, nl, o, ho, h1, h2, h3⟩, hsz, j, rfl, q₃⟩ := q₃
    cases hr
    have hL : h₃.IsList l its := ⟨o, I₃.fr.keep _ _ ho, h1, nl, h2⟩
    have hz : its.size = ns.length := by rw [← Array.length_toList, h3.length]
    obtain ⟨n4, I₄, T₄⟩ : st₃ h₃.objs.size = none ∧ In w b₀ c st₃ (h₃.push { cls := .type "slice", data := .fields #[.none, v₃, .none] }) m ∧ Step c st₃ h₃ st₃ (h₃.push { cls := .type "slice", data := .fields #[.none, v₃, .none] }) :=
      ⟨(I₃.fresh (Heap.get?_none_of_le (Nat.le_refl _))).1, I₃.push _⟩
    obtain ⟨t, rfl⟩ := hr₃
    refine ⟨l, its, none, some (j : Int), rfl, hL, by rw [hz, sizeLine_eq]; omega, .none, .int _ _, ?_⟩
    rw [slicePick_upto']
    have hall : All2 VR ((ns.take j).map MV.int) (its.toList.take j) := by rw [List.map_take]; exact (ints_of h3).take j
    obtain ⟨n5, I₅, T₅⟩ := I₄.pushNew { cls := .type "list", data := .seq (its.toList.take j).toArray } (mo := .list ((ns.take j).map .int)) ⟨_, _, rfl, by simpa using hall⟩
    rw [Heap.size_push] at n5 I₅ T₅
    exact k _ (.ref _) _ tk₃ _ I₅ (((T.trans T₃).trans T₄).trans T₅) rfl (q₃ _ n5)) ht
end
end PartE11
section PartF1
open PySem PySem.W PyProof.Rows PySem.Spec PySem.Calls

inductive PS where
  | unused | fresh | ready | running | sleeping | zombie
  deriving DecidableEq
def PS.str : PS → Str
  | .unused => "unused" | .fresh => "fresh" | .ready => "ready" | .running => "running" | .sleeping => "sleeping" | .zombie => "zombie"
theorem PS.str_beq (a b : PS) : (a.str == b.str) = decide (a = b) := by cases a <;> cases b <;> decide
theorem PS.str_bne (a b : PS) : (a.str != b.str) = decide (a ≠ b) := by cases a <;> cases b <;> decide

structure AP where
  pid : Int := 0
  state : PS := .unused
  parent : Option Nat := none
  killed : Bool := false
  status : Int := 0
  chan : Option Int := none
structure AT where
  ps : Nat → AP
  next : Int
  last : Nat
  first : Option Nat
  run : Option Nat
def AT.set (a : AT) (i : Nat) (x : AP) : AT := { a with ps := fun j => if j = i then x else a.ps j }
theorem AT.set_self (a : AT) (i : Nat) (x : AP) : (a.set i x).ps i = x := by simp [AT.set]
theorem AT.set_ne (a : AT) {i j : Nat} (x : AP) (h : j ≠ i) : (a.set i x).ps j = a.ps j := by simp [AT.set, h]
theorem AT.set_id (a : AT) (i : Nat) : a.set i (a.ps i) = a := by
  unfold AT.set
  (first | refine e0a5 (fun ps b c d e => ?_) (a) | refine e1a4 (fun ps b c d e => ?_) (a) | refine e2a3 (fun ps b c d e => ?_) (a) | refine e3a2 (fun ps b c d e => ?_) (a) | obtain ⟨ps, b, c, d, e⟩ := a); try clear a
  congr 1; funext j; simp only; split <;> simp_all

structure Ad where
  n : Nat
  T : Addr
  TD : Addr
  PL : Addr
  P : Nat → Addr
  D : Nat → Addr
def Ad.opt (A : Ad) : Option Nat → MV
  | none => .none
  | some i => .ref (A.P i)

/-- a process's fields -/
structure PRep (A : Ad) (st : Store) (i : Nat) (x : AP) (pv : PV) : Prop where
  place : pv.place = .int i
  pid : pv.pid = .int x.pid
  state : pv.state = .str x.state.str
  parent : pv.parent = A.opt x.parent
  space : pv.space = .none
  files : pv.files = .none
  killed : pv.killed = .bool x.killed
  status : pv.status = .int x.status
  turns : ∃ t, pv.turns = .int t
  regs : ∃ r vs, pv.registers = .ref r ∧ st r = some (.list vs) ∧ vs.length = 32 ∧ vs[10]? = some (.int 0)
  chan : ∀ p, x.chan = some p → ∃ c, pv.channel = .ref c ∧ st c = some (.tuple [.str "child", .int p])

structure RepT (A : Ad) (a : AT) (st : Store) : Prop where
  t : st A.T = some (.inst 274 A.TD)
  td : st A.TD = some (.fields (TV.fs ⟨.ref A.PL, .int a.next, .int a.last, A.opt a.first, A.opt a.run⟩))
  pl : st A.PL = some (.list ((List.range A.n).map fun i => .ref (A.P i)))
  p : ∀ i, i < A.n → st (A.P i) = some (.inst 131 (A.D i))
  d : ∀ i, i < A.n → ∃ pv : PV, st (A.D i) = some (.fields pv.fs) ∧ PRep A st i (a.ps i) pv
  inj : ∀ i j, i < A.n → j < A.n → A.D i = A.D j → i = j
  ne : ∀ i, i < A.n → A.D i ≠ A.TD
  par : ∀ i, i < A.n → ∀ j, (a.ps i).parent = some j → j < A.n
  fst : ∀ j, a.first = some j → j < A.n
  run : ∀ j, a.run = some j → j < A.n
  sz : A.n ≤ 100

def Keep (A : Ad) (st st' : Store) : Prop := ∀ b mo, st b = some mo → b ≠ A.TD → (∀ i, i < A.n → b ≠ A.D i) → st' b = some mo
theorem Keep.refl {A : Ad} (st : Store) : Keep A st st := fun _ _ h _ _ => h
theorem Keep.trans {A : Ad} {st st₁ st₂ : Store} (h : Keep A st st₁) (h' : Keep A st₁ st₂) : Keep A st st₂ := fun b mo e n m => h' b mo (h b mo e n m) n m

section
variable {A : Ad} {a : AT} {st : Store}
theorem RepT.injP (R : RepT A a st) {i j : Nat} (hi : i < A.n) (hj : j < A.n) (e : A.P i = A.P j) : i = j := by
  have h1 := R.p i hi
  rw [e, R.p j hj] at h1
  injection h1 with h1; injection h1 with h1 h2
  exact (R.inj j i hj hi h2).symm
theorem Keep.set {mo : MO} {d : Addr} (h : d = A.TD ∨ ∃ i, i < A.n ∧ d = A.D i) : Keep A st (st.set d mo) := fun b m e n k => by
  rw [Store.set_ne]; · exact e
  · rcases h with rfl | ⟨i, hi, rfl⟩
    · exact n
    · exact k i hi
/-- a frame that says nothing of the table's own -/
def Ext (st st' : Store) : Prop := ∀ b mo, st b = some mo → st' b = some mo
theorem Ext.refl (st : Store) : Ext st st := fun _ _ h => h
theorem Ext.trans {st st₁ st₂ : Store} (h : Ext st st₁) (h' : Ext st₁ st₂) : Ext st st₂ := fun b mo e => h' b mo (h b mo e)
theorem Ext.new {mo : MO} {d : Addr} (h : st d = none) : Ext st (st.set d mo) := fun b m e => by
  rw [Store.set_ne]; · exact e
  · intro q; rw [q, h] at e; cases e
theorem Ext.keep {st' : Store} (h : Ext st st') : Keep A st st' := fun b mo e _ _ => h b mo e
theorem PRep.mono {st' : Store} {i : Nat} {x : AP} {pv : PV} (h : PRep A st i x pv) (hl : ∀ r vs, st r = some (.list vs) → st' r = some (.list vs)) (ht : ∀ r vs, st r = some (.tuple vs) → st' r = some (.tuple vs)) : PRep A st' i x pv :=
  { h with regs := let ⟨r, vs, h1, h2, h3⟩ := h.regs; ⟨r, vs, h1, hl r vs h2, h3⟩, chan := fun p e => let ⟨c, h1, h2⟩ := h.chan p e; ⟨c, h1, ht c _ h2⟩ }
theorem PRep.setF {i : Nat} {x : AP} {pv : PV} {d : Addr} {fs fs' : List (Str × MV)} (h : PRep A st i x pv) (hd : st d = some (.fields fs)) : PRep A (st.set d (.fields fs')) i x pv :=
  h.mono (fun r vs e => by rw [Store.set_ne]; · exact e
                           · intro q; rw [q, hd] at e; cases e) (fun r vs e => by rw [Store.set_ne]; · exact e
                                                                                  · intro q; rw [q, hd] at e; cases e)
/-- new objects beside the table -/
theorem RepT.ext {st' : Store} (R : RepT A a st) (h : Ext st st') : RepT A a st' :=
  { R with t := h _ _ R.t, td := h _ _ R.td, pl := h _ _ R.pl, p := fun i hi => h _ _ (R.p i hi), d := fun i hi => let ⟨pv, h1, h2⟩ := R.d i hi; ⟨pv, h _ _ h1, h2.mono (fun r vs e => h _ _ e) fun r vs e => h _ _ e⟩ }
/-- a list beside the table turned; lists keep their length -/
theorem RepT.setL (R : RepT A a st) {l : Addr} {vs us : List MV} (hl : st l = some (.list vs)) (hne : l ≠ A.PL) (hlen : us.length = vs.length) (h10 : vs[10]? = some (.int 0) → us[10]? = some (.int 0)) : RepT A a (st.set l (.list us)) := by
  have ne : ∀ {b mo}, st b = some mo → (∀ vs, mo ≠ .list vs) → (st.set l (.list us)) b = some mo := fun {b mo} e k => by
    rw [Store.set_ne]; · exact e
    · intro q; rw [q, hl] at e; cases e; exact k _ rfl
  refine { R with t := ne R.t (by intro _ e; cases e), td := ne R.td (by intro _ e; cases e), pl := by rw [Store.set_ne _ _ (Ne.symm hne)]; exact R.pl, p := fun i hi => ne (R.p i hi) (by intro _ e; cases e), d := fun i hi => ?_ }
  (first | refine e0a3 (fun pv h1 h2 => ?_) (R.d i hi) | refine e1a2 (fun pv h1 h2 => ?_) (R.d i hi) | refine e2a1 (fun pv h1 h2 => ?_) (R.d i hi) | obtain ⟨pv, h1, h2⟩ := R.d i hi)
  refine ⟨pv, ne h1 (by intro _ e; cases e), { h2 with regs := ?_, chan := fun p e => let ⟨c, h3, h4⟩ := h2.chan p e; ⟨c, h3, ne h4 (by intro _ e; cases e)⟩ }⟩
  (first | refine e0a5 (fun r ws h3 h4 h5 => ?_) (h2.regs) | refine e1a4 (fun r ws h3 h4 h5 => ?_) (h2.regs) | refine e2a3 (fun r ws h3 h4 h5 => ?_) (h2.regs) | refine e3a2 (fun r ws h3 h4 h5 => ?_) (h2.regs) | obtain ⟨r, ws, h3, h4, h5⟩ := h2.regs)
  by_cases q : r = l
  · subst q; rw [hl] at h4; cases h4; exact ⟨r, us, h3, Store.set_self _ _ _, by rw [hlen, h5.1], h10 h5.2⟩
  · exact ⟨r, ws, h3, by rw [Store.set_ne _ _ q]; exact h4, h5⟩
/-- dictionaries beside the table turned -/
theorem RepT.setO (R : RepT A a st) {l : Addr} {mo mo' : MO} (hl : st l = some mo) (h : (∃ k, mo = .sdict k) ∨ ∃ k, mo = .idict k) : RepT A a (st.set l mo') := by
  have ne : ∀ {b x}, st b = some x → (∀ k, x ≠ .sdict k) → (∀ k, x ≠ .idict k) → (st.set l mo') b = some x := fun {b x} e k k' => by
    rw [Store.set_ne]; · exact e
    · intro q; rw [q, hl] at e; cases e; rcases h with ⟨y, rfl⟩ | ⟨y, rfl⟩
      · exact k _ rfl
      · exact k' _ rfl
  refine { R with t := ne R.t (by intro _ e; cases e) (by intro _ e; cases e), td := ne R.td (by intro _ e; cases e) (by intro _ e; cases e), pl := ne R.pl (by intro _ e; cases e) (by intro _ e; cases e), p := fun i hi => ne (R.p i hi) (by intro _ e; cases e) (by intro _ e; cases e), d := fun i hi => ?_ }
  (first | refine e0a3 (fun pv h1 h2 => ?_) (R.d i hi) | refine e1a2 (fun pv h1 h2 => ?_) (R.d i hi) | refine e2a1 (fun pv h1 h2 => ?_) (R.d i hi) | obtain ⟨pv, h1, h2⟩ := R.d i hi)
  exact ⟨pv, ne h1 (by intro _ e; cases e) (by intro _ e; cases e), h2.mono (fun r vs e => ne e (by intro _ e; cases e) (by intro _ e; cases e)) fun r vs e => ne e (by intro _ e; cases e) (by intro _ e; cases e)⟩
/-- a process's record turned -/
theorem RepT.setP (R : RepT A a st) {i : Nat} (hi : i < A.n) {pv pv' : PV} {x : AP} (hd : st (A.D i) = some (.fields pv.fs)) (hp : PRep A st i x pv') (hpar : ∀ j, x.parent = some j → j < A.n) : RepT A (a.set i x) (st.set (A.D i) (.fields pv'.fs)) := by
  have ne : ∀ {b mo}, st b = some mo → (∀ fs, mo ≠ .fields fs) → (st.set (A.D i) (.fields pv'.fs)) b = some mo := fun {b mo} e k => by
    rw [Store.set_ne]; · exact e
    · intro q; rw [q, hd] at e; cases e; exact k _ rfl
  refine ⟨ne R.t (by intro _ e; cases e), by rw [Store.set_ne _ _ (R.ne i hi).symm]; exact R.td, ne R.pl (by intro _ e; cases e), fun j hj => ne (R.p j hj) (by intro _ e; cases e), fun j hj => ?_, R.inj, R.ne, fun j hj k e => ?_, R.fst, R.run, R.sz⟩
  · by_cases q : j = i
    · subst q; exact ⟨pv', Store.set_self _ _ _, by rw [AT.set_self]; exact hp.setF hd⟩
    · (first | refine e0a3 (fun qv h1 h2 => ?_) (R.d j hj) | refine e1a2 (fun qv h1 h2 => ?_) (R.d j hj) | refine e2a1 (fun qv h1 h2 => ?_) (R.d j hj) | obtain ⟨qv, h1, h2⟩ := R.d j hj)
      exact ⟨qv, by rw [Store.set_ne _ _ fun e => q (R.inj j i hj hi e)]; exact h1, by rw [AT.set_ne _ _ q]; exact h2.setF hd⟩
  · by_cases q : j = i
    · subst q; rw [AT.set_self] at e; exact hpar k e
    · rw [AT.set_ne _ _ q] at e; exact R.par j hj k e
theorem RepT.setT (R : RepT A a st) {b : AT} (hps : b.ps = a.ps) (hf : ∀ j, b.first = some j → j < A.n) (hr : ∀ j, b.run = some j → j < A.n) : RepT A b (st.set A.TD (.fields (TV.fs ⟨.ref A.PL, .int b.next, .int b.last, A.opt b.first, A.opt b.run⟩))) := by
  have ne : ∀ {x mo}, st x = some mo → (∀ fs, mo ≠ .fields fs) → (st.set A.TD (.fields (TV.fs ⟨.ref A.PL, .int b.next, .int b.last, A.opt b.first, A.opt b.run⟩))) x = some mo := fun {x mo} e k => by
    rw [Store.set_ne]; · exact e
    · intro q; rw [q, R.td] at e; cases e; exact k _ rfl
  refine ⟨ne R.t (by intro _ e; cases e), Store.set_self _ _ _, ne R.pl (by intro _ e; cases e), fun j hj => ne (R.p j hj) (by intro _ e; cases e), fun j hj => ?_, R.inj, R.ne, fun j hj k e => R.par j hj k (hps ▸ e), hf, hr, R.sz⟩
  (first | refine e0a3 (fun qv h1 h2 => ?_) (R.d j hj) | refine e1a2 (fun qv h1 h2 => ?_) (R.d j hj) | refine e2a1 (fun qv h1 h2 => ?_) (R.d j hj) | obtain ⟨qv, h1, h2⟩ := R.d j hj)
  exact ⟨qv, by rw [Store.set_ne _ _ (R.ne j hj)]; exact h1, by rw [hps]; exact h2.setF R.td⟩
end

section
variable {w : World} {b₀ : Heap} {mean : ExcName → Option Value} {mg mb : Str → Option Value} {c : Cx} {env : Env} {E : Value → Shared → Prop} {lm : LM} {st : Store} {A : Ad} {a : AT} {i : Nat} {expr : Bool} {v : Value}
/-! readers -/
theorem gp_place {Q : MV → Store → Prop} (G : Gd w b₀ mean mg mb) (R : RepT A a st) (hi : i < A.n) (h : Q (.int (i : Nat)) st) : Ev w b₀ c env E (getAttr (.ref (A.P i)) "place" expr) VR lm st Q := by
  (first | refine e0a3 (fun pv h1 h2 => ?_) (R.d i hi) | refine e1a2 (fun pv h1 h2 => ?_) (R.d i hi) | refine e2a1 (fun pv h1 h2 => ?_) (R.d i hi) | obtain ⟨pv, h1, h2⟩ := R.d i hi)
  exact rP_place G (R.p i hi) h1 (by rw [h2.place]; exact h)
theorem gp_pid {Q : MV → Store → Prop} (G : Gd w b₀ mean mg mb) (R : RepT A a st) (hi : i < A.n) (h : Q (.int (a.ps i).pid) st) : Ev w b₀ c env E (getAttr (.ref (A.P i)) "pid" expr) VR lm st Q := by
  (first | refine e0a3 (fun pv h1 h2 => ?_) (R.d i hi) | refine e1a2 (fun pv h1 h2 => ?_) (R.d i hi) | refine e2a1 (fun pv h1 h2 => ?_) (R.d i hi) | obtain ⟨pv, h1, h2⟩ := R.d i hi)
  exact rP_pid G (R.p i hi) h1 (by rw [h2.pid]; exact h)
theorem gp_pidU {Q : MV → Store → Prop} (G : Gd w b₀ mean mg mb) (R : RepT A a st) (hi : i < A.n) (h : Q (.int (a.ps i).pid) st) : ∀ o, VR (.ref (A.P i)) o → Ev w b₀ c env E (getAttr o "pid" expr) VR lm st Q := vr_r (gp_pid G R hi h)
theorem gp_state {Q : MV → Store → Prop} (G : Gd w b₀ mean mg mb) (R : RepT A a st) (hi : i < A.n) (h : Q (.str (a.ps i).state.str) st) : Ev w b₀ c env E (getAttr (.ref (A.P i)) "state" expr) VR lm st Q := by
  (first | refine e0a3 (fun pv h1 h2 => ?_) (R.d i hi) | refine e1a2 (fun pv h1 h2 => ?_) (R.d i hi) | refine e2a1 (fun pv h1 h2 => ?_) (R.d i hi) | obtain ⟨pv, h1, h2⟩ := R.d i hi)
  exact rP_state G (R.p i hi) h1 (by rw [h2.state]; exact h)
theorem gp_stateU {Q : MV → Store → Prop} (G : Gd w b₀ mean mg mb) (R : RepT A a st) (hi : i < A.n) (h : Q (.str (a.ps i).state.str) st) : ∀ o, VR (.ref (A.P i)) o → Ev w b₀ c env E (getAttr o "state" expr) VR lm st Q := vr_r (gp_state G R hi h)
theorem gp_parent {Q : MV → Store → Prop} (G : Gd w b₀ mean mg mb) (R : RepT A a st) (hi : i < A.n) (h : Q (A.opt (a.ps i).parent) st) : Ev w b₀ c env E (getAttr (.ref (A.P i)) "parent" expr) VR lm st Q := by
  (first | refine e0a3 (fun pv h1 h2 => ?_) (R.d i hi) | refine e1a2 (fun pv h1 h2 => ?_) (R.d i hi) | refine e2a1 (fun pv h1 h2 => ?_) (R.d i hi) | obtain ⟨pv, h1, h2⟩ := R.d i hi)
  exact rP_parent G (R.p i hi) h1 (by rw [h2.parent]; exact h)
theorem gp_parentU {Q : MV → Store → Prop} (G : Gd w b₀ mean mg mb) (R : RepT A a st) (hi : i < A.n) (h : Q (A.opt (a.ps i).parent) st) : ∀ o, VR (.ref (A.P i)) o → Ev w b₀ c env E (getAttr o "parent" expr) VR lm st Q := vr_r (gp_parent G R hi h)
theorem gp_space {Q : MV → Store → Prop} (G : Gd w b₀ mean mg mb) (R : RepT A a st) (hi : i < A.n) (h : Q (.none) st) : Ev w b₀ c env E (getAttr (.ref (A.P i)) "space" expr) VR lm st Q := by
  (first | refine e0a3 (fun pv h1 h2 => ?_) (R.d i hi) | refine e1a2 (fun pv h1 h2 => ?_) (R.d i hi) | refine e2a1 (fun pv h1 h2 => ?_) (R.d i hi) | obtain ⟨pv, h1, h2⟩ := R.d i hi)
  exact rP_space G (R.p i hi) h1 (by rw [h2.space]; exact h)
theorem gp_spaceU {Q : MV → Store → Prop} (G : Gd w b₀ mean mg mb) (R : RepT A a st) (hi : i < A.n) (h : Q (.none) st) : ∀ o, VR (.ref (A.P i)) o → Ev w b₀ c env E (getAttr o "space" expr) VR lm st Q := vr_r (gp_space G R hi h)
theorem gp_files {Q : MV → Store → Prop} (G : Gd w b₀ mean mg mb) (R : RepT A a st) (hi : i < A.n) (h : Q (.none) st) : Ev w b₀ c env E (getAttr (.ref (A.P i)) "files" expr) VR lm st Q := by
  (first | refine e0a3 (fun pv h1 h2 => ?_) (R.d i hi) | refine e1a2 (fun pv h1 h2 => ?_) (R.d i hi) | refine e2a1 (fun pv h1 h2 => ?_) (R.d i hi) | obtain ⟨pv, h1, h2⟩ := R.d i hi)
  exact rP_files G (R.p i hi) h1 (by rw [h2.files]; exact h)
theorem gp_killed {Q : MV → Store → Prop} (G : Gd w b₀ mean mg mb) (R : RepT A a st) (hi : i < A.n) (h : Q (.bool (a.ps i).killed) st) : Ev w b₀ c env E (getAttr (.ref (A.P i)) "killed" expr) VR lm st Q := by
  (first | refine e0a3 (fun pv h1 h2 => ?_) (R.d i hi) | refine e1a2 (fun pv h1 h2 => ?_) (R.d i hi) | refine e2a1 (fun pv h1 h2 => ?_) (R.d i hi) | obtain ⟨pv, h1, h2⟩ := R.d i hi)
  exact rP_killed G (R.p i hi) h1 (by rw [h2.killed]; exact h)
theorem gp_status {Q : MV → Store → Prop} (G : Gd w b₀ mean mg mb) (R : RepT A a st) (hi : i < A.n) (h : Q (.int (a.ps i).status) st) : Ev w b₀ c env E (getAttr (.ref (A.P i)) "status" expr) VR lm st Q := by
  (first | refine e0a3 (fun pv h1 h2 => ?_) (R.d i hi) | refine e1a2 (fun pv h1 h2 => ?_) (R.d i hi) | refine e2a1 (fun pv h1 h2 => ?_) (R.d i hi) | obtain ⟨pv, h1, h2⟩ := R.d i hi)
  exact rP_status G (R.p i hi) h1 (by rw [h2.status]; exact h)
theorem gp_name {Q : MV → Store → Prop} (G : Gd w b₀ mean mg mb) (R : RepT A a st) (hi : i < A.n) (h : ∀ mv, Q mv st) : Ev w b₀ c env E (getAttr (.ref (A.P i)) "name" expr) VR lm st Q := by
  (first | refine e0a3 (fun pv h1 h2 => ?_) (R.d i hi) | refine e1a2 (fun pv h1 h2 => ?_) (R.d i hi) | refine e2a1 (fun pv h1 h2 => ?_) (R.d i hi) | obtain ⟨pv, h1, h2⟩ := R.d i hi)
  exact rP_name G (R.p i hi) h1 (h _)
theorem gp_pc {Q : MV → Store → Prop} (G : Gd w b₀ mean mg mb) (R : RepT A a st) (hi : i < A.n) (h : ∀ mv, Q mv st) : Ev w b₀ c env E (getAttr (.ref (A.P i)) "pc" expr) VR lm st Q := by
  (first | refine e0a3 (fun pv h1 h2 => ?_) (R.d i hi) | refine e1a2 (fun pv h1 h2 => ?_) (R.d i hi) | refine e2a1 (fun pv h1 h2 => ?_) (R.d i hi) | obtain ⟨pv, h1, h2⟩ := R.d i hi)
  exact rP_pc G (R.p i hi) h1 (h _)
theorem gp_cwd {Q : MV → Store → Prop} (G : Gd w b₀ mean mg mb) (R : RepT A a st) (hi : i < A.n) (h : ∀ mv, Q mv st) : Ev w b₀ c env E (getAttr (.ref (A.P i)) "cwd" expr) VR lm st Q := by
  (first | refine e0a3 (fun pv h1 h2 => ?_) (R.d i hi) | refine e1a2 (fun pv h1 h2 => ?_) (R.d i hi) | refine e2a1 (fun pv h1 h2 => ?_) (R.d i hi) | obtain ⟨pv, h1, h2⟩ := R.d i hi)
  exact rP_cwd G (R.p i hi) h1 (h _)
theorem gp_chan {Q : MV → Store → Prop} {p : Int} (G : Gd w b₀ mean mg mb) (R : RepT A a st) (hi : i < A.n) (hp : (a.ps i).chan = some p) (h : ∀ c, st c = some (.tuple [.str "child", .int p]) → Q (.ref c) st) : Ev w b₀ c env E (getAttr (.ref (A.P i)) "channel" expr) VR lm st Q := by
  (first | refine e0a3 (fun pv h1 h2 => ?_) (R.d i hi) | refine e1a2 (fun pv h1 h2 => ?_) (R.d i hi) | refine e2a1 (fun pv h1 h2 => ?_) (R.d i hi) | obtain ⟨pv, h1, h2⟩ := R.d i hi)
  (first | refine e0a3 (fun cc h3 h4 => ?_) (h2.chan p hp) | refine e1a2 (fun cc h3 h4 => ?_) (h2.chan p hp) | refine e2a1 (fun cc h3 h4 => ?_) (h2.chan p hp) | obtain ⟨cc, h3, h4⟩ := h2.chan p hp)
  exact rP_channel G (R.p i hi) h1 (by rw [h3]; exact h cc h4)
theorem gp_turns {Q : MV → Store → Prop} (G : Gd w b₀ mean mg mb) (R : RepT A a st) (hi : i < A.n) (h : ∀ t : Int, Q (.int t) st) : Ev w b₀ c env E (getAttr (.ref (A.P i)) "turns" expr) VR lm st Q := by
  (first | refine e0a3 (fun pv h1 h2 => ?_) (R.d i hi) | refine e1a2 (fun pv h1 h2 => ?_) (R.d i hi) | refine e2a1 (fun pv h1 h2 => ?_) (R.d i hi) | obtain ⟨pv, h1, h2⟩ := R.d i hi)
  obtain ⟨t, h3⟩ := h2.turns
  exact rP_turns G (R.p i hi) h1 (by rw [h3]; exact h t)
theorem gp_registers {Q : MV → Store → Prop} (G : Gd w b₀ mean mg mb) (R : RepT A a st) (hi : i < A.n) (h : ∀ r vs, st r = some (.list vs) → vs.length = 32 → vs[10]? = some (.int 0) → Q (.ref r) st) : Ev w b₀ c env E (getAttr (.ref (A.P i)) "registers" expr) VR lm st Q := by
  (first | refine e0a3 (fun pv h1 h2 => ?_) (R.d i hi) | refine e1a2 (fun pv h1 h2 => ?_) (R.d i hi) | refine e2a1 (fun pv h1 h2 => ?_) (R.d i hi) | obtain ⟨pv, h1, h2⟩ := R.d i hi)
  (first | refine e0a5 (fun r vs h3 h4 h5 => ?_) (h2.regs) | refine e1a4 (fun r vs h3 h4 h5 => ?_) (h2.regs) | refine e2a3 (fun r vs h3 h4 h5 => ?_) (h2.regs) | refine e3a2 (fun r vs h3 h4 h5 => ?_) (h2.regs) | obtain ⟨r, vs, h3, h4, h5⟩ := h2.regs)
  exact rP_registers G (R.p i hi) h1 (by rw [h3]; exact h r vs h4 h5.1 h5.2)
theorem gp_registersU {Q : MV → Store → Prop} (G : Gd w b₀ mean mg mb) (R : RepT A a st) (hi : i < A.n) (h : ∀ r vs, st r = some (.list vs) → vs.length = 32 → vs[10]? = some (.int 0) → Q (.ref r) st) : ∀ o, VR (.ref (A.P i)) o → Ev w b₀ c env E (getAttr o "registers" expr) VR lm st Q := vr_r (gp_registers G R hi h)
theorem gt_places {Q : MV → Store → Prop} (G : Gd w b₀ mean mg mb) (R : RepT A a st) (h : Q (.ref A.PL) st) : Ev w b₀ c env E (getAttr (.ref A.T) "places" expr) VR lm st Q := rT_places G R.t R.td h
theorem gt_placesU {Q : MV → Store → Prop} (G : Gd w b₀ mean mg mb) (R : RepT A a st) (h : Q (.ref A.PL) st) : ∀ o, VR (.ref A.T) o → Ev w b₀ c env E (getAttr o "places" expr) VR lm st Q := vr_r (gt_places G R h)
theorem gt_next_pid {Q : MV → Store → Prop} (G : Gd w b₀ mean mg mb) (R : RepT A a st) (h : Q (.int a.next) st) : Ev w b₀ c env E (getAttr (.ref A.T) "next_pid" expr) VR lm st Q := rT_next_pid G R.t R.td h
theorem gt_next_pidU {Q : MV → Store → Prop} (G : Gd w b₀ mean mg mb) (R : RepT A a st) (h : Q (.int a.next) st) : ∀ o, VR (.ref A.T) o → Ev w b₀ c env E (getAttr o "next_pid" expr) VR lm st Q := vr_r (gt_next_pid G R h)
theorem gt_last {Q : MV → Store → Prop} (G : Gd w b₀ mean mg mb) (R : RepT A a st) (h : Q (.int (a.last : Nat)) st) : Ev w b₀ c env E (getAttr (.ref A.T) "last" expr) VR lm st Q := rT_last G R.t R.td h
theorem gt_first {Q : MV → Store → Prop} (G : Gd w b₀ mean mg mb) (R : RepT A a st) (h : Q (A.opt a.first) st) : Ev w b₀ c env E (getAttr (.ref A.T) "first" expr) VR lm st Q := rT_first G R.t R.td h
theorem gt_firstU {Q : MV → Store → Prop} (G : Gd w b₀ mean mg mb) (R : RepT A a st) (h : Q (A.opt a.first) st) : ∀ o, VR (.ref A.T) o → Ev w b₀ c env E (getAttr o "first" expr) VR lm st Q := vr_r (gt_first G R h)
theorem gt_running {Q : MV → Store → Prop} (G : Gd w b₀ mean mg mb) (R : RepT A a st) (h : Q (A.opt a.run) st) : Ev w b₀ c env E (getAttr (.ref A.T) "running" expr) VR lm st Q := rT_running G R.t R.td h
/-! writers -/
theorem gt_runningU {Q : MV → Store → Prop} (G : Gd w b₀ mean mg mb) (R : RepT A a st) (h : Q (A.opt a.run) st) : ∀ o, VR (.ref A.T) o → Ev w b₀ c env E (getAttr o "running" expr) VR lm st Q := vr_r (gt_running G R h)
theorem sp_pid {Q : Unit → Store → Prop} (x : Int) (G : Gd w b₀ mean mg mb) (R : RepT A a st) (hi : i < A.n) (hv : VR (.int x) v) (h : ∀ st', RepT A (a.set i { a.ps i with pid := x }) st' → Keep A st st' → Q () st') : Ev w b₀ c env E (setAttr (.ref (A.P i)) "pid" v) (fun _ _ => True) lm st Q := by
  (first | refine e0a3 (fun pv h1 h2 => ?_) (R.d i hi) | refine e1a2 (fun pv h1 h2 => ?_) (R.d i hi) | refine e2a1 (fun pv h1 h2 => ?_) (R.d i hi) | obtain ⟨pv, h1, h2⟩ := R.d i hi)
  exact wP_pid G (R.p i hi) h1 hv (h _ (R.setP hi h1 { h2 with pid := rfl } (R.par i hi)) (.set (.inr ⟨i, hi, rfl⟩)))
theorem sp_state {Q : Unit → Store → Prop} (x : PS) (G : Gd w b₀ mean mg mb) (R : RepT A a st) (hi : i < A.n) (hv : VR (.str x.str) v) (h : ∀ st', RepT A (a.set i { a.ps i with state := x }) st' → Keep A st st' → Q () st') : Ev w b₀ c env E (setAttr (.ref (A.P i)) "state" v) (fun _ _ => True) lm st Q := by
  (first | refine e0a3 (fun pv h1 h2 => ?_) (R.d i hi) | refine e1a2 (fun pv h1 h2 => ?_) (R.d i hi) | refine e2a1 (fun pv h1 h2 => ?_) (R.d i hi) | obtain ⟨pv, h1, h2⟩ := R.d i hi)
  exact wP_state G (R.p i hi) h1 hv (h _ (R.setP hi h1 { h2 with state := rfl } (R.par i hi)) (.set (.inr ⟨i, hi, rfl⟩)))
theorem sp_stateU {Q : Unit → Store → Prop} (x : PS) (G : Gd w b₀ mean mg mb) (R : RepT A a st) (hi : i < A.n) (h : ∀ st', RepT A (a.set i { a.ps i with state := x }) st' → Keep A st st' → Q () st') : ∀ o v, VR (.ref (A.P i)) o → VR (.str x.str) v → Ev w b₀ c env E (setAttr o "state" v) (fun _ _ => True) lm st Q := vr_r2 fun v hv => sp_state x G R hi hv h
theorem sp_killed {Q : Unit → Store → Prop} (x : Bool) (G : Gd w b₀ mean mg mb) (R : RepT A a st) (hi : i < A.n) (hv : VR (.bool x) v) (h : ∀ st', RepT A (a.set i { a.ps i with killed := x }) st' → Keep A st st' → Q () st') : Ev w b₀ c env E (setAttr (.ref (A.P i)) "killed" v) (fun _ _ => True) lm st Q := by
  (first | refine e0a3 (fun pv h1 h2 => ?_) (R.d i hi) | refine e1a2 (fun pv h1 h2 => ?_) (R.d i hi) | refine e2a1 (fun pv h1 h2 => ?_) (R.d i hi) | obtain ⟨pv, h1, h2⟩ := R.d i hi)
  exact wP_killed G (R.p i hi) h1 hv (h _ (R.setP hi h1 { h2 with killed := rfl } (R.par i hi)) (.set (.inr ⟨i, hi, rfl⟩)))
theorem sp_status {Q : Unit → Store → Prop} (x : Int) (G : Gd w b₀ mean mg mb) (R : RepT A a st) (hi : i < A.n) (hv : VR (.int x) v) (h : ∀ st', RepT A (a.set i { a.ps i with status := x }) st' → Keep A st st' → Q () st') : Ev w b₀ c env E (setAttr (.ref (A.P i)) "status" v) (fun _ _ => True) lm st Q := by
  (first | refine e0a3 (fun pv h1 h2 => ?_) (R.d i hi) | refine e1a2 (fun pv h1 h2 => ?_) (R.d i hi) | refine e2a1 (fun pv h1 h2 => ?_) (R.d i hi) | obtain ⟨pv, h1, h2⟩ := R.d i hi)
  exact wP_status G (R.p i hi) h1 hv (h _ (R.setP hi h1 { h2 with status := rfl } (R.par i hi)) (.set (.inr ⟨i, hi, rfl⟩)))
theorem sp_parent {Q : Unit → Store → Prop} (x : Option Nat) (hx : ∀ j, x = some j → j < A.n) (G : Gd w b₀ mean mg mb) (R : RepT A a st) (hi : i < A.n) (hv : VR (A.opt x) v) (h : ∀ st', RepT A (a.set i { a.ps i with parent := x }) st' → Keep A st st' → Q () st') : Ev w b₀ c env E (setAttr (.ref (A.P i)) "parent" v) (fun _ _ => True) lm st Q := by
  (first | refine e0a3 (fun pv h1 h2 => ?_) (R.d i hi) | refine e1a2 (fun pv h1 h2 => ?_) (R.d i hi) | refine e2a1 (fun pv h1 h2 => ?_) (R.d i hi) | obtain ⟨pv, h1, h2⟩ := R.d i hi)
  exact wP_parent G (R.p i hi) h1 hv (h _ (R.setP hi h1 { h2 with parent := rfl } hx) (.set (.inr ⟨i, hi, rfl⟩)))
theorem sp_nochan {Q : Unit → Store → Prop} (G : Gd w b₀ mean mg mb) (R : RepT A a st) (hi : i < A.n) (hv : VR .none v) (h : ∀ st', RepT A (a.set i { a.ps i with chan := none }) st' → Keep A st st' → Q () st') : Ev w b₀ c env E (setAttr (.ref (A.P i)) "channel" v) (fun _ _ => True) lm st Q := by
  (first | refine e0a3 (fun pv h1 h2 => ?_) (R.d i hi) | refine e1a2 (fun pv h1 h2 => ?_) (R.d i hi) | refine e2a1 (fun pv h1 h2 => ?_) (R.d i hi) | obtain ⟨pv, h1, h2⟩ := R.d i hi)
  exact wP_channel G (R.p i hi) h1 hv (h _ (R.setP hi h1 { h2 with chan := fun p e => by cases e } (R.par i hi)) (.set (.inr ⟨i, hi, rfl⟩)))
theorem sp_nochanU {Q : Unit → Store → Prop} (G : Gd w b₀ mean mg mb) (R : RepT A a st) (hi : i < A.n) (h : ∀ st', RepT A (a.set i { a.ps i with chan := none }) st' → Keep A st st' → Q () st') : ∀ o v, VR (.ref (A.P i)) o → VR .none v → Ev w b₀ c env E (setAttr o "channel" v) (fun _ _ => True) lm st Q := vr_r2 fun v hv => sp_nochan G R hi hv h
theorem sp_chan {Q : Unit → Store → Prop} {cc : Addr} (p : Int) (G : Gd w b₀ mean mg mb) (R : RepT A a st) (hi : i < A.n) (hcc : st cc = some (.tuple [.str "child", .int p])) (hv : VR (.ref cc) v) (h : ∀ st', RepT A (a.set i { a.ps i with chan := some p }) st' → Keep A st st' → Q () st') : Ev w b₀ c env E (setAttr (.ref (A.P i)) "channel" v) (fun _ _ => True) lm st Q := by
  (first | refine e0a3 (fun pv h1 h2 => ?_) (R.d i hi) | refine e1a2 (fun pv h1 h2 => ?_) (R.d i hi) | refine e2a1 (fun pv h1 h2 => ?_) (R.d i hi) | obtain ⟨pv, h1, h2⟩ := R.d i hi)
  exact wP_channel G (R.p i hi) h1 hv (h _ (R.setP hi h1 { h2 with chan := fun p e => by cases e; exact ⟨cc, rfl, hcc⟩ } (R.par i hi)) (.set (.inr ⟨i, hi, rfl⟩)))
theorem sp_registers {Q : Unit → Store → Prop} {r : Addr} {vs : List MV} (G : Gd w b₀ mean mg mb) (R : RepT A a st) (hi : i < A.n) (hr : st r = some (.list vs)) (hl : vs.length = 32) (h10 : vs[10]? = some (.int 0)) (hv : VR (.ref r) v) (h : ∀ st', RepT A a st' → Keep A st st' → (∃ pv : PV, st' (A.D i) = some (.fields pv.fs) ∧ pv.registers = .ref r) → Q () st') : Ev w b₀ c env E (setAttr (.ref (A.P i)) "registers" v) (fun _ _ => True) lm st Q := by
  (first | refine e0a3 (fun pv h1 h2 => ?_) (R.d i hi) | refine e1a2 (fun pv h1 h2 => ?_) (R.d i hi) | refine e2a1 (fun pv h1 h2 => ?_) (R.d i hi) | obtain ⟨pv, h1, h2⟩ := R.d i hi)
  refine wP_registers G (R.p i hi) h1 hv (h _ ?_ (.set (.inr ⟨i, hi, rfl⟩)) ⟨_, Store.set_self _ _ _, rfl⟩)
  have := R.setP hi h1 (pv' := { pv with registers := .ref r }) { h2 with regs := ⟨r, vs, rfl, hr, hl, h10⟩ } (R.par i hi)
  rwa [AT.set_id] at this
theorem sp_turns {Q : Unit → Store → Prop} {t : Int} (G : Gd w b₀ mean mg mb) (R : RepT A a st) (hi : i < A.n) (hv : VR (.int t) v) (h : ∀ st', RepT A a st' → Keep A st st' → Q () st') : Ev w b₀ c env E (setAttr (.ref (A.P i)) "turns" v) (fun _ _ => True) lm st Q := by
  (first | refine e0a3 (fun pv h1 h2 => ?_) (R.d i hi) | refine e1a2 (fun pv h1 h2 => ?_) (R.d i hi) | refine e2a1 (fun pv h1 h2 => ?_) (R.d i hi) | obtain ⟨pv, h1, h2⟩ := R.d i hi)
  refine wP_turns G (R.p i hi) h1 hv (h _ ?_ (.set (.inr ⟨i, hi, rfl⟩)))
  have := R.setP hi h1 (pv' := { pv with turns := .int t }) { h2 with turns := ⟨t, rfl⟩ } (R.par i hi)
  rwa [AT.set_id] at this
theorem sp_space {Q : Unit → Store → Prop} (G : Gd w b₀ mean mg mb) (R : RepT A a st) (hi : i < A.n) (hv : VR .none v) (h : ∀ st', RepT A a st' → Keep A st st' → Q () st') : Ev w b₀ c env E (setAttr (.ref (A.P i)) "space" v) (fun _ _ => True) lm st Q := by
  (first | refine e0a3 (fun pv h1 h2 => ?_) (R.d i hi) | refine e1a2 (fun pv h1 h2 => ?_) (R.d i hi) | refine e2a1 (fun pv h1 h2 => ?_) (R.d i hi) | obtain ⟨pv, h1, h2⟩ := R.d i hi)
  refine wP_space G (R.p i hi) h1 hv (h _ ?_ (.set (.inr ⟨i, hi, rfl⟩)))
  have := R.setP hi h1 (pv' := { pv with space := .none }) { h2 with space := rfl } (R.par i hi)
  rwa [AT.set_id] at this
theorem sp_files {Q : Unit → Store → Prop} (G : Gd w b₀ mean mg mb) (R : RepT A a st) (hi : i < A.n) (hv : VR .none v) (h : ∀ st', RepT A a st' → Keep A st st' → Q () st') : Ev w b₀ c env E (setAttr (.ref (A.P i)) "files" v) (fun _ _ => True) lm st Q := by
  (first | refine e0a3 (fun pv h1 h2 => ?_) (R.d i hi) | refine e1a2 (fun pv h1 h2 => ?_) (R.d i hi) | refine e2a1 (fun pv h1 h2 => ?_) (R.d i hi) | obtain ⟨pv, h1, h2⟩ := R.d i hi)
  refine wP_files G (R.p i hi) h1 hv (h _ ?_ (.set (.inr ⟨i, hi, rfl⟩)))
  have := R.setP hi h1 (pv' := { pv with files := .none }) { h2 with files := rfl } (R.par i hi)
  rwa [AT.set_id] at this
theorem sp_name {Q : Unit → Store → Prop} {mv : MV} (G : Gd w b₀ mean mg mb) (R : RepT A a st) (hi : i < A.n) (hv : VR mv v) (h : ∀ st', RepT A a st' → Keep A st st' → Q () st') : Ev w b₀ c env E (setAttr (.ref (A.P i)) "name" v) (fun _ _ => True) lm st Q := by
  (first | refine e0a3 (fun pv h1 h2 => ?_) (R.d i hi) | refine e1a2 (fun pv h1 h2 => ?_) (R.d i hi) | refine e2a1 (fun pv h1 h2 => ?_) (R.d i hi) | obtain ⟨pv, h1, h2⟩ := R.d i hi)
  refine wP_name G (R.p i hi) h1 hv (h _ ?_ (.set (.inr ⟨i, hi, rfl⟩)))
  have := R.setP hi h1 (pv' := { pv with name := mv }) { h2 with } (R.par i hi)
  rwa [AT.set_id] at this
theorem sp_pc {Q : Unit → Store → Prop} {mv : MV} (G : Gd w b₀ mean mg mb) (R : RepT A a st) (hi : i < A.n) (hv : VR mv v) (h : ∀ st', RepT A a st' → Keep A st st' → Q () st') : Ev w b₀ c env E (setAttr (.ref (A.P i)) "pc" v) (fun _ _ => True) lm st Q := by
  (first | refine e0a3 (fun pv h1 h2 => ?_) (R.d i hi) | refine e1a2 (fun pv h1 h2 => ?_) (R.d i hi) | refine e2a1 (fun pv h1 h2 => ?_) (R.d i hi) | obtain ⟨pv, h1, h2⟩ := R.d i hi)
  refine wP_pc G (R.p i hi) h1 hv (h _ ?_ (.set (.inr ⟨i, hi, rfl⟩)))
  have := R.setP hi h1 (pv' := { pv with pc := mv }) { h2 with } (R.par i hi)
  rwa [AT.set_id] at this
theorem sp_cwd {Q : Unit → Store → Prop} {mv : MV} (G : Gd w b₀ mean mg mb) (R : RepT A a st) (hi : i < A.n) (hv : VR mv v) (h : ∀ st', RepT A a st' → Keep A st st' → Q () st') : Ev w b₀ c env E (setAttr (.ref (A.P i)) "cwd" v) (fun _ _ => True) lm st Q := by
  (first | refine e0a3 (fun pv h1 h2 => ?_) (R.d i hi) | refine e1a2 (fun pv h1 h2 => ?_) (R.d i hi) | refine e2a1 (fun pv h1 h2 => ?_) (R.d i hi) | obtain ⟨pv, h1, h2⟩ := R.d i hi)
  refine wP_cwd G (R.p i hi) h1 hv (h _ ?_ (.set (.inr ⟨i, hi, rfl⟩)))
  have := R.setP hi h1 (pv' := { pv with cwd := mv }) { h2 with } (R.par i hi)
  rwa [AT.set_id] at this
theorem st_next_pid {Q : Unit → Store → Prop} (x : Int) (G : Gd w b₀ mean mg mb) (R : RepT A a st) (hv : VR (.int x) v) (h : ∀ st', RepT A { a with next := x } st' → Keep A st st' → Q () st') : Ev w b₀ c env E (setAttr (.ref A.T) "next_pid" v) (fun _ _ => True) lm st Q :=
  wT_next_pid G R.t R.td hv (h _ (R.setT (b := { a with next := x }) rfl R.fst R.run) (.set (.inl rfl)))
theorem st_last {Q : Unit → Store → Prop} (x : Nat) (G : Gd w b₀ mean mg mb) (R : RepT A a st) (hv : VR (.int (x : Nat)) v) (h : ∀ st', RepT A { a with last := x } st' → Keep A st st' → Q () st') : Ev w b₀ c env E (setAttr (.ref A.T) "last" v) (fun _ _ => True) lm st Q :=
  wT_last G R.t R.td hv (h _ (R.setT (b := { a with last := x }) rfl R.fst R.run) (.set (.inl rfl)))
theorem st_first {Q : Unit → Store → Prop} (x : Option Nat) (hx : ∀ j, x = some j → j < A.n) (G : Gd w b₀ mean mg mb) (R : RepT A a st) (hv : VR (A.opt x) v) (h : ∀ st', RepT A { a with first := x } st' → Keep A st st' → Q () st') : Ev w b₀ c env E (setAttr (.ref A.T) "first" v) (fun _ _ => True) lm st Q :=
  wT_first G R.t R.td hv (h _ (R.setT (b := { a with first := x }) rfl hx R.run) (.set (.inl rfl)))
theorem st_running {Q : Unit → Store → Prop} (x : Option Nat) (hx : ∀ j, x = some j → j < A.n) (G : Gd w b₀ mean mg mb) (R : RepT A a st) (hv : VR (A.opt x) v) (h : ∀ st', RepT A { a with run := x } st' → Keep A st st' → Q () st') : Ev w b₀ c env E (setAttr (.ref A.T) "running" v) (fun _ _ => True) lm st Q :=
  wT_running G R.t R.td hv (h _ (R.setT (b := { a with run := x }) rfl R.fst hx) (.set (.inl rfl)))
theorem st_runningU {Q : Unit → Store → Prop} (x : Option Nat) (hx : ∀ j, x = some j → j < A.n) (G : Gd w b₀ mean mg mb) (R : RepT A a st) (h : ∀ st', RepT A { a with run := x } st' → Keep A st st' → Q () st') : ∀ o v, VR (.ref A.T) o → VR (A.opt x) v → Ev w b₀ c env E (setAttr o "running" v) (fun _ _ => True) lm st Q := vr_r2 fun v hv => st_running x hx G R hv h

/-- one process, or none -/
theorem cmp_is_opt {o : Option Nat} {j : Nat} {va vb : Value} {Q : MV → Store → Prop} (R : RepT A a st) (ho : ∀ k, o = some k → k < A.n) (hj : j < A.n) (ha : VR (A.opt o) va) (hb : VR (.ref (A.P j)) vb) (h : Q (.bool (decide (o = some j))) st) : Ev w b₀ c env E (compareOp .Is va vb) VR lm st Q := by
  cases o with
  | none => exact cmp_none_is ha hb (by simpa using h)
  | some k =>
    refine cmp_is_inst ha hb (R.p k (ho k rfl)) (R.p j hj) ?_
    have : decide (A.P k = A.P j) = decide ((some k : Option Nat) = some j) := by
      by_cases q : k = j
      · subst q; simp
      · rw [decide_eq_false (fun e => q (R.injP (ho k rfl) hj e)), decide_eq_false (by simpa using q)]
    rw [this]; exact h
theorem cmp_is_optU {o : Option Nat} {j : Nat} {Q : MV → Store → Prop} (R : RepT A a st) (ho : ∀ k, o = some k → k < A.n) (hj : j < A.n) (h : Q (.bool (decide (o = some j))) st) : ∀ va vb, VR (A.opt o) va → VR (.ref (A.P j)) vb → Ev w b₀ c env E (compareOp .Is va vb) VR lm st Q := fun va vb ha hb => cmp_is_opt R ho hj ha hb h
theorem cmp_psU {x y : PS} {s : Str} {Q : MV → Store → Prop} (e : s = y.str) (h : Q (.bool (decide (x = y))) st) : ∀ va vb, VR (.str x.str) va → VR (.str s) vb → Ev w b₀ c env E (compareOp .Eq va vb) VR lm st Q := by
  subst e; rw [← PS.str_beq] at h; exact cmp_eq_strU h
theorem opt_isNone (o : Option Nat) : (A.opt o).isNone = o.isNone := by cases o <;> rfl
end
end PartF1
section PartF2
open PySem PySem.W PyProof.Rows PySem.Spec PySem.Calls

theorem Store.drop_set {st : Store} {e : Addr} {mo : MO} (h : st e = none) : (fun a => if a = e then none else (st.set e mo) a) = st := by
  funext a
  by_cases q : a = e
  · subst q; simp [h]
  · simp [Store.set, q]
theorem range_get {α : Type} {f : Nat → α} {n i : Nat} {v : α} (h : ((List.range n).map f)[i]? = some v) : i < n ∧ v = f i := by
  rw [List.getElem?_map] at h
  obtain ⟨j, hj, rfl⟩ := Option.map_eq_some_iff.mp h
  obtain ⟨hlt, e⟩ := List.getElem?_eq_some_iff.mp hj
  rw [List.getElem_range] at e
  subst e
  exact ⟨by simpa using hlt, rfl⟩
theorem LM.set_get (lm : LM) (x : Str) (v : MV) : (lm.set x v) x = some v := by simp [LM.set]
theorem LM.set_other {lm : LM} {x y : Str} {v : MV} {r : Option MV} (h : lm y = r) (n : y ≠ x) : (lm.set x v) y = r := by simp [LM.set, n, h]

section
variable {w : World} {b₀ : Heap} {mean : ExcName → Option Value} {mg mb : Str → Option Value} {c : Cx} {env : Env} {E : Value → Shared → Prop} {lm : LM} {st : Store} {A : Ad} {a : AT} {i : Nat} {expr : Bool} {v : Value}

theorem ex_augName {n : Nat} {x : Str} {xp pos : Pos} {op : Operator} {e : Expr} {rest : List Stmt} {mv₀ : MV} {Q : MF → LM → Store → Prop} (hc : c.OK n) (he : env = c.env) (e₀ : lm x = some mv₀)
    (h : Ev w b₀ c env E (eval e env) VR lm st fun v st₂ => ∀ vo vv, VR mv₀ vo → VR v vv → Ev w b₀ c env E (inplaceOp op vo vv) VR lm st₂ fun r st₃ => Ex w b₀ c env E (execs rest env) (lm.set x r) st₃ Q)
    (hx : env.kindOf x = some .local := by rfl) : Ex w b₀ c env E (execs (.AugAssign (.Name x xp) op e pos :: rest) env) lm st Q :=
  ex_cons fun s m P I S k => by
    (first | refine e0a3 (fun vo hvo z => ?_) (S x mv₀ e₀) | refine e1a2 (fun vo hvo z => ?_) (S x mv₀ e₀) | refine e2a1 (fun vo hvo z => ?_) (S x mv₀ e₀) | obtain ⟨vo, hvo, z⟩ := S x mv₀ e₀)
    have hm : m x = some vo := by
      rcases z with ⟨_, _, z⟩ | ⟨_, z, _⟩ | ⟨z | ⟨z, _⟩, _⟩
      · exact z
      · exact absurd (by rw [he]; exact hc.lo) z
      · rw [hx] at z; cases z
      · rw [hx] at z; cases z
    have hk : env.scope.kind = .function := by rw [he]; exact hc.k
    have hL : env.locals = c.L := by rw [he]; exact hc.lo
    exact wpAny_AugAssign_Name (wpAny_loadName_local hk hx (hL ▸ I.fr.ns) hm (h s m _ I S fun v₂ mv₂ h₂ tk₂ st₂ I₂ T₂ hr₂ q₂ => q₂ vo v₂ hvo hr₂ _ m _ I₂ (S.step T₂) fun v₃ mv₃ h₃ tk₃ st₃ I₃ T₃ hr₃ q₃ =>
      ex_store hc he hx I₃ ((S.step T₂).step T₃) hr₃ fun h₄ tk₄ m₄ I₄ T₄ S₄ => k .next .next h₄ tk₄ m₄ st₃ _ I₄ ((T₂.trans T₃).trans T₄) S₄ rfl q₃))

theorem is_there_ok {n : Nat} {Q : MV → Store → Prop} (G : Gd w b₀ mean mg mb) (hc : c.OK (n + 1)) (R : RepT A a st) (hi : i < A.n) (hq : Q (.bool (decide ((a.ps i).state ≠ .unused))) st) :
    Ev w b₀ c env E (call (.ref 106) [.ref (A.P i)]) VR lm st Q := by
  refine' ev_enterP G hc (by k_is) (by k_is) (.cons (vr_ref _) .nil) (by rfl) (by rfl) (by decide) (by rfl) ?_
  intro c' hc' he' hh'
  refine ex_ret (ev_cmp (ev_attr (ev_name rfl rfl ?_)))
  refine gp_stateU G R hi (ev_global G rfl rfl (by k_is) (vr_str _ _) ?_)
  refine cmp_ne_strU ?_
  rw [show ("unused" : Str) = PS.unused.str from rfl, PS.str_bne]
  exact hq
end
end PartF2
section PartF3
open PySem PySem.W PyProof.Rows PySem.Spec PySem.Calls

def clrF (fs : List (Str × MV)) (r : Addr) : List (Str × MV) := fput "turns" (.int 0) (fput "job" (.none) (fput "wakes" (.none) (fput "told" (.none) (fput "progress" (.int 0) (fput "in_call" (.none) (fput "status" (.int 0) (fput "killed" (.bool false) (fput "channel" (.none) (fput "name" (.str "") (fput "cwd" (.none) (fput "files" (.none) (fput "pc" (.int 0) (fput "registers" (.ref r) (fput "space" (.none) (fput "parent" (.none) (fput "state" (.str "unused") (fput "pid" (.int 0) (fs))))))))))))))))))

section
variable {w : World} {b₀ : Heap} {mean : ExcName → Option Value} {mg mb : Str → Option Value} {c : Cx} {env : Env} {E : Value → Shared → Prop} {lm : LM} {st : Store} {A : Ad} {a : AT} {i : Nat} {expr : Bool} {v : Value}
theorem clr_step {x d : Addr} {fs : List (Str × MV)} {name : Str} {mv : MV} {k : Nat} {Q : Unit → Store → Prop} (G : Gd w b₀ mean mg mb) (ok : AttrOk w 131 name) (hx : st x = some (.inst 131 d)) (hf : st d = some (.fields fs)) (hl : fs.length ≤ k) (hk : k < 100) (hv : VR mv v)
    (h : ∀ st', st' x = some (.inst 131 d) → st' d = some (.fields (fput name mv fs)) → (fput name mv fs).length ≤ k + 1 → (∀ b mo, st b = some mo → b ≠ d → st' b = some mo) → Q () st') : Ev w b₀ c env E (setAttr (.ref x) name v) (fun _ _ => True) lm st Q := by
  have e := fput_len name mv fs
  exact ev_setattr G hx hf ok hv (by omega) (h _ (by rw [Store.set_ne _ _ (ne_if hx hf)]; exact hx) (Store.set_self _ _ _) (by omega) fun b mo e n => by rw [Store.set_ne _ _ n]; exact e)
theorem clr_stepU {x d : Addr} {fs : List (Str × MV)} {name : Str} {mv : MV} {k : Nat} {Q : Unit → Store → Prop} (G : Gd w b₀ mean mg mb) (ok : AttrOk w 131 name) (hx : st x = some (.inst 131 d)) (hf : st d = some (.fields fs)) (hl : fs.length ≤ k) (hk : k < 100) (h : ∀ st', st' x = some (.inst 131 d) → st' d = some (.fields (fput name mv fs)) → (fput name mv fs).length ≤ k + 1 → (∀ b mo, st b = some mo → b ≠ d → st' b = some mo) → Q () st') : ∀ o v, VR (.ref x) o → VR mv v → Ev w b₀ c env E (setAttr o name v) (fun _ _ => True) lm st Q := vr_r2 fun v hv => clr_step G ok hx hf hl hk hv h

theorem clear_raw {n : Nat} {x d : Addr} {fs : List (Str × MV)} {Q : MV → Store → Prop} (G : Gd w b₀ mean mg mb) (hc : c.OK (n + 1)) (hx : st x = some (.inst 131 d)) (hf : st d = some (.fields fs)) (hl : fs.length ≤ 60)
    (hq : ∀ st' r, st' d = some (.fields (clrF fs r)) → (∀ b mo, st b = some mo → b ≠ d → st' b = some mo) → st' r = some (.list (List.replicate 32 (.int 0))) → Q .none st') : EvC w b₀ c env (.ref 99) [.ref x] lm st Q := by
  refine' evC_enterP G hc (by k_is) (by k_is) (.cons (vr_ref _) .nil) (by rfl) (by rfl) (by decide) (by rfl) ?_
  intro c' E' hc' he' hh'
  have K0 : ∀ b mo, st b = some mo → b ≠ d → st b = some mo := fun b mo e _ => e
  refine ex_assignAttr (ev_int (ev_name rfl rfl ?_))
  refine clr_stepU G aP_pid hx hf hl (by decide) fun s0 hx0 hf0 hl0 k0 => ?_
  have K1 : ∀ b mo, st b = some mo → b ≠ d → s0 b = some mo := fun b mo e n => k0 b mo (K0 b mo e n) n
  clear hx hf hl K0
  have hx := hx0; have hf := hf0; have hl := hl0; have K0 := K1
  clear hx0 hf0 hl0 K1 k0
  refine ex_assignAttr (ev_global G rfl rfl (by k_is) (vr_str _ _) (ev_name rfl rfl ?_))
  refine clr_stepU G aP_state hx hf hl (by decide) fun s1 hx1 hf1 hl1 k1 => ?_
  have K2 : ∀ b mo, st b = some mo → b ≠ d → s1 b = some mo := fun b mo e n => k1 b mo (K0 b mo e n) n
  clear hx hf hl K0
  have hx := hx1; have hf := hf1; have hl := hl1; have K0 := K2
  clear hx1 hf1 hl1 K2 k1
  refine ex_assignAttr (ev_none (ev_name rfl rfl ?_))
  refine clr_stepU G aP_parent hx hf hl (by decide) fun s2 hx2 hf2 hl2 k2 => ?_
  have K3 : ∀ b mo, st b = some mo → b ≠ d → s2 b = some mo := fun b mo e n => k2 b mo (K0 b mo e n) n
  clear hx hf hl K0
  have hx := hx2; have hf := hf2; have hl := hl2; have K0 := K3
  clear hx2 hf2 hl2 K3 k2
  refine ex_assignAttr (ev_none (ev_name rfl rfl ?_))
  refine clr_stepU G aP_space hx hf hl (by decide) fun s3 hx3 hf3 hl3 k3 => ?_
  have K4 : ∀ b mo, st b = some mo → b ≠ d → s3 b = some mo := fun b mo e n => k3 b mo (K0 b mo e n) n
  clear hx hf hl K0
  have hx := hx3; have hf := hf3; have hl := hl3; have K0 := K4
  clear hx3 hf3 hl3 K4 k3
  refine ex_assignAttr (ev_binop (ev_list (ev_args_cons (ev_int (ev_args_nil ⟨by simp [sizeLine_eq], fun l hn => ?_⟩)))))
  refine ev_int ?_
  refine op_mulListU (Store.set_self _ _ _) (by decide) (by decide) fun r hr0 => ?_
  have e1 : Ext s3 _ := (Ext.new (mo := .list [.int 0]) hn).trans (Ext.new (mo := .list (List.replicate (32 : Int).toNat (.int 0))) hr0)
  have hr := Store.set_self (s3.set l (.list [.int 0])) r (.list (List.replicate (32 : Int).toNat (.int 0)))
  generalize (Store.set (Store.set _ l (.list [.int 0])) r (.list (List.replicate (32 : Int).toNat (.int 0)))) = sr at e1 hr ⊢
  have hx' := e1 _ _ hx; have hf' := e1 _ _ hf
  have Kr : ∀ b mo, st b = some mo → b ≠ d → sr b = some mo := fun b mo e n => e1 b mo (K0 b mo e n)
  refine ev_name rfl rfl ?_
  refine clr_stepU G aP_registers hx' hf' hl (by decide) fun s4 hx4 hf4 hl4 k4 => ?_
  have K5 : ∀ b mo, st b = some mo → b ≠ d → s4 b = some mo := fun b mo e n => k4 b mo (Kr b mo e n) n
  have hr4 := k4 _ _ hr (fun q => by rw [q, hf'] at hr; cases hr)
  clear hx hf hl K0 hr hx' hf' Kr
  have hx := hx4; have hf := hf4; have hl := hl4; have K0 := K5; have hr := hr4
  clear hx4 hf4 hl4 K5 k4 hr4
  refine ex_assignAttr (ev_int (ev_name rfl rfl ?_))
  refine clr_stepU G aP_pc hx hf hl (by decide) fun s5 hx5 hf5 hl5 k5 => ?_
  have K6 : ∀ b mo, st b = some mo → b ≠ d → s5 b = some mo := fun b mo e n => k5 b mo (K0 b mo e n) n
  have hr5 := k5 _ _ hr (fun q => by rw [q, hf] at hr; cases hr)
  clear hx hf hl K0 hr
  have hx := hx5; have hf := hf5; have hl := hl5; have K0 := K6; have hr := hr5
  clear hx5 hf5 hl5 K6 k5 hr5
  refine ex_assignAttr (ev_none (ev_name rfl rfl ?_))
  refine clr_stepU G aP_files hx hf hl (by decide) fun s6 hx6 hf6 hl6 k6 => ?_
  have K7 : ∀ b mo, st b = some mo → b ≠ d → s6 b = some mo := fun b mo e n => k6 b mo (K0 b mo e n) n
  have hr6 := k6 _ _ hr (fun q => by rw [q, hf] at hr; cases hr)
  clear hx hf hl K0 hr
  have hx := hx6; have hf := hf6; have hl := hl6; have K0 := K7; have hr := hr6
  clear hx6 hf6 hl6 K7 k6 hr6
  refine ex_assignAttr (ev_none (ev_name rfl rfl ?_))
  refine clr_stepU G aP_cwd hx hf hl (by decide) fun s7 hx7 hf7 hl7 k7 => ?_
  have K8 : ∀ b mo, st b = some mo → b ≠ d → s7 b = some mo := fun b mo e n => k7 b mo (K0 b mo e n) n
  have hr7 := k7 _ _ hr (fun q => by rw [q, hf] at hr; cases hr)
  clear hx hf hl K0 hr
  have hx := hx7; have hf := hf7; have hl := hl7; have K0 := K8; have hr := hr7
  clear hx7 hf7 hl7 K8 k7 hr7
  refine ex_assignAttr (ev_str (ev_name rfl rfl ?_))
  refine clr_stepU G aP_name hx hf hl (by decide) fun s8 hx8 hf8 hl8 k8 => ?_
  have K9 : ∀ b mo, st b = some mo → b ≠ d → s8 b = some mo := fun b mo e n => k8 b mo (K0 b mo e n) n
  have hr8 := k8 _ _ hr (fun q => by rw [q, hf] at hr; cases hr)
  clear hx hf hl K0 hr
  have hx := hx8; have hf := hf8; have hl := hl8; have K0 := K9; have hr := hr8
  clear hx8 hf8 hl8 K9 k8 hr8
  refine ex_assignAttr (ev_none (ev_name rfl rfl ?_))
  refine clr_stepU G aP_channel hx hf hl (by decide) fun s9 hx9 hf9 hl9 k9 => ?_
  have K10 : ∀ b mo, st b = some mo → b ≠ d → s9 b = some mo := fun b mo e n => k9 b mo (K0 b mo e n) n
  have hr9 := k9 _ _ hr (fun q => by rw [q, hf] at hr; cases hr)
  clear hx hf hl K0 hr
  have hx := hx9; have hf := hf9; have hl := hl9; have K0 := K10; have hr := hr9
  clear hx9 hf9 hl9 K10 k9 hr9
  refine ex_assignAttr (ev_bool (ev_name rfl rfl ?_))
  refine clr_stepU G aP_killed hx hf hl (by decide) fun s10 hx10 hf10 hl10 k10 => ?_
  have K11 : ∀ b mo, st b = some mo → b ≠ d → s10 b = some mo := fun b mo e n => k10 b mo (K0 b mo e n) n
  have hr10 := k10 _ _ hr (fun q => by rw [q, hf] at hr; cases hr)
  clear hx hf hl K0 hr
  have hx := hx10; have hf := hf10; have hl := hl10; have K0 := K11; have hr := hr10
  clear hx10 hf10 hl10 K11 k10 hr10
  refine ex_assignAttr (ev_int (ev_name rfl rfl ?_))
  refine clr_stepU G aP_status hx hf hl (by decide) fun s11 hx11 hf11 hl11 k11 => ?_
  have K12 : ∀ b mo, st b = some mo → b ≠ d → s11 b = some mo := fun b mo e n => k11 b mo (K0 b mo e n) n
  have hr11 := k11 _ _ hr (fun q => by rw [q, hf] at hr; cases hr)
  clear hx hf hl K0 hr
  have hx := hx11; have hf := hf11; have hl := hl11; have K0 := K12; have hr := hr11
  clear hx11 hf11 hl11 K12 k11 hr11
  refine ex_assignAttr (ev_none (ev_name rfl rfl ?_))
  refine clr_stepU G aP_in_call hx hf hl (by decide) fun s12 hx12 hf12 hl12 k12 => ?_
  have K13 : ∀ b mo, st b = some mo → b ≠ d → s12 b = some mo := fun b mo e n => k12 b mo (K0 b mo e n) n
  have hr12 := k12 _ _ hr (fun q => by rw [q, hf] at hr; cases hr)
  clear hx hf hl K0 hr
  have hx := hx12; have hf := hf12; have hl := hl12; have K0 := K13; have hr := hr12
  clear hx12 hf12 hl12 K13 k12 hr12
  refine ex_assignAttr (ev_int (ev_name rfl rfl ?_))
  refine clr_stepU G aP_progress hx hf hl (by decide) fun s13 hx13 hf13 hl13 k13 => ?_
  have K14 : ∀ b mo, st b = some mo → b ≠ d → s13 b = some mo := fun b mo e n => k13 b mo (K0 b mo e n) n
  have hr13 := k13 _ _ hr (fun q => by rw [q, hf] at hr; cases hr)
  clear hx hf hl K0 hr
  have hx := hx13; have hf := hf13; have hl := hl13; have K0 := K14; have hr := hr13
  clear hx13 hf13 hl13 K14 k13 hr13
  refine ex_assignAttr (ev_none (ev_name rfl rfl ?_))
  refine clr_stepU G aP_told hx hf hl (by decide) fun s14 hx14 hf14 hl14 k14 => ?_
  have K15 : ∀ b mo, st b = some mo → b ≠ d → s14 b = some mo := fun b mo e n => k14 b mo (K0 b mo e n) n
  have hr14 := k14 _ _ hr (fun q => by rw [q, hf] at hr; cases hr)
  clear hx hf hl K0 hr
  have hx := hx14; have hf := hf14; have hl := hl14; have K0 := K15; have hr := hr14
  clear hx14 hf14 hl14 K15 k14 hr14
  refine ex_assignAttr (ev_none (ev_name rfl rfl ?_))
  refine clr_stepU G aP_wakes hx hf hl (by decide) fun s15 hx15 hf15 hl15 k15 => ?_
  have K16 : ∀ b mo, st b = some mo → b ≠ d → s15 b = some mo := fun b mo e n => k15 b mo (K0 b mo e n) n
  have hr15 := k15 _ _ hr (fun q => by rw [q, hf] at hr; cases hr)
  clear hx hf hl K0 hr
  have hx := hx15; have hf := hf15; have hl := hl15; have K0 := K16; have hr := hr15
  clear hx15 hf15 hl15 K16 k15 hr15
  refine ex_assignAttr (ev_none (ev_name rfl rfl ?_))
  refine clr_stepU G aP_job hx hf hl (by decide) fun s16 hx16 hf16 hl16 k16 => ?_
  have K17 : ∀ b mo, st b = some mo → b ≠ d → s16 b = some mo := fun b mo e n => k16 b mo (K0 b mo e n) n
  have hr16 := k16 _ _ hr (fun q => by rw [q, hf] at hr; cases hr)
  clear hx hf hl K0 hr
  have hx := hx16; have hf := hf16; have hl := hl16; have K0 := K17; have hr := hr16
  clear hx16 hf16 hl16 K17 k16 hr16
  refine ex_assignAttr (ev_int (ev_name rfl rfl ?_))
  refine clr_stepU G aP_turns hx hf hl (by decide) fun s17 hx17 hf17 hl17 k17 => ?_
  have K18 : ∀ b mo, st b = some mo → b ≠ d → s17 b = some mo := fun b mo e n => k17 b mo (K0 b mo e n) n
  have hr17 := k17 _ _ hr (fun q => by rw [q, hf] at hr; cases hr)
  clear hx hf hl K0 hr
  have hx := hx17; have hf := hf17; have hl := hl17; have K0 := K18; have hr := hr17
  clear hx17 hf17 hl17 K18 k17 hr17
  exact ex_nil (hq _ r hf K0 hr)
end
end PartF3
section PartF4
open PySem PySem.W PyProof.Rows PySem.Spec PySem.Calls

structure J4 (A : Ad) (a : AT) (st : Store) (k : Nat) (lm' : LM) (st' : Store) : Prop where
  h0 : st' = st
  h1 : lm' "self" = some (.ref A.T)
  h2 : ∀ j, j < k → (a.ps j).state ≠ .unused

section
variable {w : World} {b₀ : Heap} {mean : ExcName → Option Value} {mg mb : Str → Option Value} {c : Cx} {env : Env} {E : Value → Shared → Prop} {lm : LM} {st : Store} {A : Ad} {a : AT} {i : Nat} {expr : Bool} {v : Value}

theorem exOk52 : ExcOk w 52 := ⟨⟨_, _, _, _, _, _, _, _, _, _, _, _, _, _, _, _, by k_is, ⟨by decide, by decide, by decide, by decide⟩⟩, by k_is, by k_is, by k_is, by k_is, by k_is, by k_is, ⟨_, _, by k_is, rfl, rfl⟩⟩
theorem exOk64 : ExcOk w 64 := ⟨⟨_, _, _, _, _, _, _, _, _, _, _, _, _, _, _, _, by k_is, ⟨by decide, by decide, by decide, by decide⟩⟩, by k_is, by k_is, by k_is, by k_is, by k_is, by k_is, ⟨_, _, by k_is, rfl, rfl⟩⟩

theorem EvC.ev {f : Value} {vals : List Value} {Q : MV → Store → Prop} (h : EvC w b₀ c env f vals lm st Q) : Ev w b₀ c env E (call f vals) VR lm st Q := fun s m P I S k => wpAny_call (h s m _ I S k)

theorem RepT.updP {st' : Store} (R : RepT A a st) (hi : i < A.n) {pv' : PV} {x : AP} (hd : ∃ fs, st (A.D i) = some (.fields fs)) (hd' : st' (A.D i) = some (.fields pv'.fs)) (K : ∀ b mo, st b = some mo → b ≠ A.D i → st' b = some mo) (hp : PRep A st' i x pv') (hpar : ∀ j, x.parent = some j → j < A.n) : RepT A (a.set i x) st' := by
  obtain ⟨fs, hd⟩ := hd
  have ne : ∀ {b mo}, st b = some mo → (∀ fs, mo ≠ .fields fs) → st' b = some mo := fun {b mo} e k => K b mo e fun q => by rw [q, hd] at e; cases e; exact k _ rfl
  refine ⟨ne R.t (by intro _ e; cases e), K _ _ R.td (R.ne i hi).symm, ne R.pl (by intro _ e; cases e), fun j hj => ne (R.p j hj) (by intro _ e; cases e), fun j hj => ?_, R.inj, R.ne, fun j hj k e => ?_, R.fst, R.run, R.sz⟩
  · by_cases q : j = i
    · subst q; exact ⟨pv', hd', by rw [AT.set_self]; exact hp⟩
    · (first | refine e0a3 (fun qv h1 h2 => ?_) (R.d j hj) | refine e1a2 (fun qv h1 h2 => ?_) (R.d j hj) | refine e2a1 (fun qv h1 h2 => ?_) (R.d j hj) | obtain ⟨qv, h1, h2⟩ := R.d j hj)
      exact ⟨qv, K _ _ h1 fun e => q (R.inj j i hj hi e), by rw [AT.set_ne _ _ q]; exact h2.mono (fun r vs e => ne e (by intro _ e; cases e)) fun r vs e => ne e (by intro _ e; cases e)⟩
  · by_cases q : j = i
    · subst q; rw [AT.set_self] at e; exact hpar k e
    · rw [AT.set_ne _ _ q] at e; exact R.par j hj k e

theorem clrF_PV (pv : PV) (r : Addr) : clrF pv.fs r = PV.fs ⟨pv.place, .int 0, .str "unused", .none, .none, .ref r, .int 0, .none, .none, .str "", .none, .bool false, .int 0, .none, .int 0, .none, .none, .none, .int 0⟩ := by
  unfold clrF
  rw [sP_pid, sP_state, sP_parent, sP_space, sP_registers, sP_pc, sP_files, sP_cwd, sP_name, sP_channel, sP_killed, sP_status, sP_in_call, sP_progress, sP_told, sP_wakes, sP_job, sP_turns]
theorem clear_ok {n : Nat} {Q : MV → Store → Prop} (G : Gd w b₀ mean mg mb) (hc : c.OK (n + 1)) (R : RepT A a st) (hi : i < A.n) (hq : ∀ st', RepT A (a.set i {}) st' → Keep A st st' → Q .none st') :
    Ev w b₀ c env E (call (.ref 99) [.ref (A.P i)]) VR lm st Q := by
  (first | refine e0a3 (fun pv h1 h2 => ?_) (R.d i hi) | refine e1a2 (fun pv h1 h2 => ?_) (R.d i hi) | refine e2a1 (fun pv h1 h2 => ?_) (R.d i hi) | obtain ⟨pv, h1, h2⟩ := R.d i hi)
  refine EvC.ev (clear_raw G hc (R.p i hi) h1 (by show (19 : Nat) ≤ 60; decide) fun st' r hf K hr => hq st' ?_ fun b mo e _ n => K b mo e (n i hi))
  rw [clrF_PV] at hf
  exact R.updP hi ⟨_, h1⟩ hf K
    ⟨h2.place, rfl, rfl, rfl, rfl, rfl, rfl, rfl, ⟨0, rfl⟩, ⟨r, _, rfl, hr, by simp, by simp⟩, fun p e => by cases e⟩ (fun j e => by cases e)

theorem free_place_ok {n : Nat} {Q : MV → Store → Prop} {QE : Store → Prop} (G : Gd w b₀ mean mg mb) (hc : c.OK (n + 3)) (hh : c.hd = none) (R : RepT A a st)
    (hq : ∀ i, i < A.n → (a.ps i).state = .unused → (∀ j, j < i → (a.ps j).state ≠ .unused) → Q (.ref (A.P i)) st) (hx : (∀ i, i < A.n → (a.ps i).state ≠ .unused) → QE st) :
    EvX w b₀ c env (call (.ref 154) [.ref A.T]) VR lm st Q 52 QE := by
  refine' evX_enterP G hc (by k_is) (by k_is) (.cons (vr_ref _) .nil) (by rfl) (by rfl) (by decide) (by rfl) ?_
  intro c' hc' he' hh'
  refine exX_cons fun E => ?_
  refine ex_forList hc' he'.symm (hh'.trans hh) (ev_attr (ev_name rfl rfl ?_))
  refine gt_placesU G R ?_
  refine ⟨A.PL, _, rfl, R.pl, J4 A a st, ⟨rfl, rfl, fun j hj => absurd hj (Nat.not_lt_zero _)⟩, ?_, ?_⟩
  · rintro k v lm' st' hv ⟨rfl, hs, hj⟩ hpl E'
    obtain ⟨hk, rfl⟩ := range_get hv
    refine ex_if (tr_cmp (ev_attr (ev_name rfl (LM.set_get _ _ _) ?_)))
    refine gp_stateU G R hk (ev_global G rfl rfl (by k_is) (vr_str _ _) ?_)
    refine cmp_psU (y := .unused) rfl ⟨_, rfl, ?_⟩
    by_cases q : (a.ps k).state = .unused
    · (first | refine iteP (by simpa using q) ?_ | rw [if_pos (by simpa using q)])
      exact ex_ret (ev_name rfl (LM.set_get _ _ _) (hq k hk q hj))
    · (first | refine iteN (by simpa using q) ?_ | rw [if_neg (by simpa using q)])
      refine ex_nil (ex_nil ⟨⟨rfl, LM.set_other hs (by decide), fun j h => ?_⟩, hpl⟩)
      rcases Nat.lt_succ_iff_lt_or_eq.mp h with h | rfl
      · exact hj j h
      · exact q
  · rintro lm' st' ⟨rfl, hs, hj⟩ hpl
    refine ex_nil ?_
    refine exX_raise G hc' (hh'.trans hh) exOk52 fun E => ev_call G rfl rfl (by k_is) exOk52.keep (ev_args_cons (ev_str (ev_args_nil ?_)))
    intro vs hvs
    cases hvs with
    | cons r1 r2 =>
      cases r2
      refine ev_makeExc G hc' exOk52 r1 fun e he => ⟨e, rfl, Store.set_self _ _ _, ?_⟩
      rw [Store.drop_set he]
      exact hx fun i hi => hj i (by simpa using hi)

end
end PartF4
section PartF5
open PySem PySem.W PyProof.Rows PySem.Spec PySem.Calls

theorem all2_one {a : MV} {l : List Value} (h : All2 VR [a] l) : ∃ v, l = [v] ∧ VR a v := by
  cases h with
  | cons r t => cases t; exact ⟨_, rfl, r⟩

theorem AT.ext' {a b : AT} (h1 : a.ps = b.ps) (h2 : a.next = b.next) (h3 : a.last = b.last) (h4 : a.first = b.first) (h5 : a.run = b.run) : a = b := by
  obtain ⟨_, _, _, _, _⟩ := a; obtain ⟨_, _, _, _, _⟩ := b; cases h1; cases h2; cases h3; cases h4; cases h5; rfl
theorem RepT.cast {A : Ad} {a b : AT} {st : Store} (R : RepT A b st) (e : b = a) : RepT A a st := e ▸ R
def AT.newF (a : AT) (i : Nat) : AT := { a.set i { pid := a.next, state := .fresh } with next := a.next + 1, first := a.first.or (some i) }
def AT.readyF (a : AT) (j : Nat) : AT := { a.set j { a.ps j with state := .ready, chan := none } with run := if a.run = some j then none else a.run }

section
variable {w : World} {b₀ : Heap} {mean : ExcName → Option Value} {mg mb : Str → Option Value} {c : Cx} {env : Env} {E : Value → Shared → Prop} {lm : LM} {st : Store} {A : Ad} {a : AT} {i : Nat} {expr : Bool} {v : Value}

theorem new_ok {n : Nat} {name : Value} {mv : MV} {Q : MV → Store → Prop} {QE : Store → Prop} (G : Gd w b₀ mean mg mb) (hc : c.OK (n + 4)) (hh : c.hd = none) (R : RepT A a st) (hn : VR mv name)
    (hq : ∀ i, i < A.n → (a.ps i).state = .unused → (∀ j, j < i → (a.ps j).state ≠ .unused) → ∀ st', RepT A (a.newF i) st' → Keep A st st' → Q (.ref (A.P i)) st') (hx : (∀ i, i < A.n → (a.ps i).state ≠ .unused) → QE st) :
    EvX w b₀ c env (call (.ref 162) [.ref A.T, name]) VR lm st Q 52 QE := by
  refine' evX_enterD (vals' := [.ref A.T, name]) G hc (by k_is) (by k_is) (.cons (vr_ref _) (.cons hn .nil)) (by intro s' X'; exact binds_K X' rfl (by k_is) rfl rfl rfl) (by rfl) (by decide) (by rfl) ?_
  intro c' hc' he' hh'
  refine exX_assign hc' he'.symm (evX_meth G fun E => ev_name rfl rfl ⟨A.T, 274, A.TD, _, 154, rfl, R.t, R.td, nT_free_place _, mT_free_place, ev_args_nil ?_⟩)
  refine all2_r0 ?_
  refine free_place_ok G hc' (hh'.trans hh) R (fun i hi hu hj => ExX.of fun E => ?_) hx
  have hq := hq i hi hu hj
  (first | refine e0a3 (fun pv h1 h2 => ?_) (R.d i hi) | refine e1a2 (fun pv h1 h2 => ?_) (R.d i hi) | refine e2a1 (fun pv h1 h2 => ?_) (R.d i hi) | obtain ⟨pv, h1, h2⟩ := R.d i hi)
  refine ex_expr (ev_meth G (ev_name rfl rfl ⟨A.P i, 131, A.D i, _, 99, rfl, R.p i hi, h1, nP_clear _, mP_clear, ev_args_nil ?_⟩))
  refine all2_r0 ?_
  refine clear_ok G hc' R hi fun st₁ R₁ K₁ => ?_
  refine ex_assignAttr (ev_attr (ev_name rfl rfl ?_))
  refine gt_next_pidU G R₁ (ev_name rfl rfl ?_)
  refine vr_r2 fun vv hv => ?_
  refine sp_pid a.next G R₁ hi hv fun st₂ R₂ K₂ => ?_
  refine ex_augAttr (ev_name rfl rfl ?_)
  refine vr_r ?_
  refine gt_next_pid G R₂ (ev_int ?_)
  refine op_iaddU ?_
  intro vr hr
  refine st_next_pid (a.next + 1) G R₂ hr fun st₃ R₃ K₃ => ?_
  refine ex_assignAttr (ev_global G rfl rfl (by k_is) (vr_str _ _) (ev_name rfl rfl ?_))
  refine sp_stateU .fresh G R₃ hi fun st₄ R₄ K₄ => ?_
  refine ex_assignAttr (ev_name rfl rfl (ev_name rfl rfl ?_))
  refine vr_r2 fun vv hv => ?_
  refine sp_name G R₄ hi hv fun st₅ R₅ K₅ => ?_
  have K := (((K₁.trans K₂).trans K₃).trans K₄).trans K₅
  refine ex_if (tr_cmp (ev_attr (ev_name rfl rfl ?_)))
  refine gt_firstU G R₅ (ev_none ?_)
  refine cmp_is_noneU ⟨_, rfl, ?_⟩
  rw [opt_isNone]
  split
  · rename_i hnone
    have e : a.first = none := by
      have : a.first.isNone = true := hnone
      simpa using this
    refine ex_assignAttr (ev_name rfl rfl (ev_name rfl rfl ?_))
    refine vr_r2 fun vv hv => ?_
    refine st_first (some i) (fun j e => by cases e; exact hi) G R₅ hv fun st₆ R₆ K₆ => ?_
    refine ex_nil (ex_ret (ev_name rfl rfl (hq st₆ (R₆.cast (AT.ext' ?_ rfl rfl ?_ rfl)) (K.trans K₆))))
    · funext j; simp [AT.set, AT.newF]; split <;> simp_all
    · show some i = a.first.or (some i); rw [e]; rfl
  · rename_i hnone
    refine ex_nil (ex_ret (ev_name rfl rfl (hq st₅ (R₅.cast (AT.ext' ?_ rfl rfl ?_ rfl)) K)))
    · funext j; simp [AT.set, AT.newF]; split <;> simp_all
    · show a.first = a.first.or (some i)
      cases q : a.first with
      | none => exact absurd (show a.first.isNone = true by rw [q]; rfl) hnone
      | some _ => rfl

theorem ready_ok' {n : Nat} {j : Nat} {Q : MV → Store → Prop} (G : Gd w b₀ mean mg mb) (hc : c.OK (n + 1)) (R : RepT A a st) (hj : j < A.n) (hq : ∀ st', RepT A (a.readyF j) st' → Keep A st st' → Q .none st') :
    Ev w b₀ c env E (call (.ref 186) [.ref A.T, .ref (A.P j)]) VR lm st Q := by
  refine' ev_enterP G hc (by k_is) (by k_is) (.cons (vr_ref _) (.cons (vr_ref _) .nil)) (by rfl) (by rfl) (by decide) (by rfl) ?_
  intro c' hc' he' hh'
  refine ex_assignAttr (ev_global G rfl rfl (by k_is) (vr_str _ _) (ev_name rfl rfl ?_))
  refine sp_stateU .ready G R hj fun st₁ R₁ K₁ => ?_
  refine ex_assignAttr (ev_none (ev_name rfl rfl ?_))
  refine sp_nochanU G R₁ hj fun st₂ R₂ K₂ => ?_
  refine ex_if (tr_cmp (ev_attr (ev_name rfl rfl ?_)))
  refine gt_runningU G R₂ (ev_name rfl rfl ?_)
  refine cmp_is_optU R₂ R₂.run hj ⟨_, rfl, ?_⟩
  have erun : ((a.set j { a.ps j with state := .ready }).set j { (a.set j { a.ps j with state := .ready }).ps j with chan := none }).run = a.run := rfl
  by_cases q : a.run = some j
  · (first | refine iteP (by rw [erun]; simpa using q) ?_ | rw [if_pos (by rw [erun]; simpa using q)])
    refine ex_assignAttr (ev_none (ev_name rfl rfl ?_))
    refine st_runningU none (fun _ e => by cases e) G R₂ fun st₃ R₃ K₃ => ?_
    refine ex_nil (ex_nil (hq st₃ (R₃.cast (AT.ext' ?_ rfl rfl rfl ?_)) ((K₁.trans K₂).trans K₃)))
    · funext k; simp [AT.set, AT.readyF]; split <;> simp_all
    · simp [AT.readyF, q]
  · (first | refine iteN (by rw [erun]; simpa using q) ?_ | rw [if_neg (by rw [erun]; simpa using q)])
    refine ex_nil (ex_nil (hq st₂ (R₂.cast (AT.ext' ?_ rfl rfl rfl ?_)) (K₁.trans K₂)))
    · funext k; simp [AT.set, AT.readyF]; split <;> simp_all
    · simp [AT.readyF, q, AT.set]
end
end PartF5
section PartF6
open PySem PySem.W PyProof.Rows PySem.Spec PySem.Calls

def AT.there (a : AT) (i : Nat) : Bool := decide ((a.ps i).state ≠ .unused)
def AT.kids (a : AT) (n j : Nat) : List Nat := (List.range n).filter fun i => a.there i && decide ((a.ps i).parent = some j)
def AT.nextF (a : AT) (i : Nat) : AT := { a.set i { a.ps i with state := .running } with last := i, run := some i }
def AT.wakeStep (p : Int) (a : AT) (i : Nat) : AT := if (a.ps i).state = .sleeping ∧ (a.ps i).chan = some p then a.readyF i else a
def AT.wake (a : AT) (n : Nat) (p : Int) : AT := (List.range n).foldl (AT.wakeStep p) a
theorem wakeStep_ne {a : AT} {p : Int} {i j : Nat} (h : j ≠ i) : (AT.wakeStep p a i).ps j = a.ps j := by
  unfold AT.wakeStep; split
  · show (a.set i _).ps j = a.ps j; exact AT.set_ne _ _ h
  · rfl
structure J6 (a : AT) (st : Store) (p : Int) (k : Nat) (lm' : LM) (st' : Store) : Prop where
  h0 : st' = st
  h1 : lm' "pid" = some (.int p)
  h2 : ∀ j, j < k → (a.ps j).state ≠ .unused → (a.ps j).pid ≠ p

section
variable {w : World} {b₀ : Heap} {mean : ExcName → Option Value} {mg mb : Str → Option Value} {c : Cx} {env : Env} {E : Value → Shared → Prop} {lm : LM} {st : Store} {A : Ad} {a : AT} {i : Nat} {expr : Bool} {v : Value}

theorem find_ok {n : Nat} {p : Int} {vp : Value} {Q : MV → Store → Prop} (G : Gd w b₀ mean mg mb) (hc : c.OK (n + 2)) (hh : c.hd = none) (R : RepT A a st) (hp : VR (.int p) vp)
    (hq : ∀ i, i < A.n → (a.ps i).state ≠ .unused → (a.ps i).pid = p → Q (.ref (A.P i)) st) (hx : (∀ i, i < A.n → (a.ps i).state ≠ .unused → (a.ps i).pid ≠ p) → Q .none st) :
    Ev w b₀ c env E (call (.ref 169) [.ref A.T, vp]) VR lm st Q := by
  refine' ev_enterP G hc (by k_is) (by k_is) (.cons (vr_ref _) (.cons hp .nil)) (by rfl) (by rfl) (by decide) (by rfl) ?_
  intro c' hc' he' hh'
  refine ex_forList hc' he'.symm (hh'.trans hh) (ev_attr (ev_name rfl rfl ?_))
  refine gt_placesU G R ?_
  refine ⟨A.PL, _, rfl, R.pl, J6 a st p, ⟨rfl, rfl, fun j hj => absurd hj (Nat.not_lt_zero _)⟩, ?_, ?_⟩
  · rintro k v lm' st' hv ⟨rfl, hs, hj⟩ hpl E'
    obtain ⟨hk, rfl⟩ := range_get hv
    (first | refine e0a3 (fun pv h1 h2 => ?_) (R.d k hk) | refine e1a2 (fun pv h1 h2 => ?_) (R.d k hk) | refine e2a1 (fun pv h1 h2 => ?_) (R.d k hk) | obtain ⟨pv, h1, h2⟩ := R.d k hk)
    have next : ((a.ps k).state ≠ .unused → (a.ps k).pid ≠ p) → ∀ j, j < k + 1 → (a.ps j).state ≠ .unused → (a.ps j).pid ≠ p := fun hn j h => by
      rcases Nat.lt_succ_iff_lt_or_eq.mp h with h | rfl
      · exact hj j h
      · exact hn
    refine ex_if (tr_and (tr_bool (ev_meth G (ev_name rfl (LM.set_get _ _ _) ⟨A.P k, 131, A.D k, _, 106, rfl, R.p k hk, h1, nP_is_there _, mP_is_there, ev_args_nil ?_⟩))))
    refine all2_r0 ?_
    refine is_there_ok G hc' R hk (.inl ⟨_, rfl, ?_⟩)
    by_cases q : (a.ps k).state = .unused
    · (first | refine iteN (by simpa using q) ?_ | rw [if_neg (by simpa using q)]); (first | refine iteN (by decide) ?_ | rw [if_neg (by decide)])
      exact ex_nil (ex_nil ⟨⟨rfl, LM.set_other hs (by decide), next fun h => absurd q h⟩, hpl⟩)
    · (first | refine iteP (by simpa using q) ?_ | rw [if_pos (by simpa using q)])
      refine tr_and (tr_cmp (ev_attr (ev_name rfl (LM.set_get _ _ _) ?_)))
      refine gp_pidU G R hk (ev_name rfl (LM.set_other hs (by decide)) ?_)
      refine cmp_eq_intU ⟨_, rfl, ?_⟩
      by_cases q' : (a.ps k).pid = p
      · (first | refine iteP (by simpa using q') ?_ | rw [if_pos (by simpa using q')])
        refine tr_and_nil ?_
        (first | refine iteP rfl ?_ | rw [if_pos rfl])
        exact ex_ret (ev_name rfl (LM.set_get _ _ _) (hq k hk q q'))
      · (first | refine iteN (by simpa using q') ?_ | rw [if_neg (by simpa using q')]); (first | refine iteN (by decide) ?_ | rw [if_neg (by decide)])
        exact ex_nil (ex_nil ⟨⟨rfl, LM.set_other hs (by decide), next fun _ => q'⟩, hpl⟩)
  · rintro lm' st' ⟨rfl, hs, hj⟩ hpl
    exact ex_ret (ev_none (hx fun i hi => hj i (by simpa using hi)))

theorem filter_succ {p : Nat → Bool} {k : Nat} : ((List.range (k + 1)).filter p) = (List.range k).filter p ++ (if p k = true then [k] else []) := by
  rw [List.range_succ, List.filter_append]; congr 1
  by_cases h : p k = true <;> simp [h]

theorem all_ok {n : Nat} {Q : MV → Store → Prop} (G : Gd w b₀ mean mg mb) (hc : c.OK (n + 2)) (hh : c.hd = none) (R : RepT A a st)
    (hq : ∀ l, st l = none → Q (.ref l) (st.set l (.list (((List.range A.n).filter a.there).map fun i => .ref (A.P i))))) :
    Ev w b₀ c env E (call (.ref 174) [.ref A.T]) VR lm st Q := by
  refine' ev_enterP G hc (by k_is) (by k_is) (.cons (vr_ref _) .nil) (by rfl) (by rfl) (by decide) (by rfl) ?_
  intro c' hc' he' hh'
  refine ex_ret (ev_compList (cl := []) (lmF := fun _ => none) hc' he'.symm (hh'.trans hh) (fun x a e => by cases e) rfl (by decide) rfl (by decide) rfl (fun _ _ e => by cases e) (ev_attr (ev_name rfl rfl ?_)))
  refine gt_placesU G R ?_
  refine ⟨A.PL, _, rfl, R.pl, by rw [sizeLine_eq]; simp; have := R.sz; omega, fun k acc st' => st' = st ∧ acc = (((List.range k).filter a.there).map fun i => .ref (A.P i)), ⟨rfl, rfl⟩, fun _ _ _ h => h.1 ▸ R.pl, ?_, ?_⟩
  · rintro k acc st' C E' hk ⟨rfl, rfl⟩
    have hk : k < A.n := by simpa using hk
    (first | refine e0a3 (fun pv h1 h2 => ?_) (R.d k hk) | refine e1a2 (fun pv h1 h2 => ?_) (R.d k hk) | refine e2a1 (fun pv h1 h2 => ?_) (R.d k hk) | obtain ⟨pv, h1, h2⟩ := R.d k hk)
    have hv : (((List.range A.n).map fun i => MV.ref (A.P i)).getD k .none) = .ref (A.P k) := by simp [List.getD_eq_getElem?_getD, hk]
    have ho : lmC "process" ((fun i => (((List.range A.n).map fun i => MV.ref (A.P i)).getD i .none)) k) (fun _ => none) "process" = some (.ref (A.P k)) := by unfold lmC; rw [if_pos rfl]; exact congrArg some hv
    refine ct_one (tr_bool (ev_meth G (ev_name rfl ho ⟨A.P k, 131, A.D k, _, 106, rfl, R.p k hk, h1, nP_is_there _, mP_is_there, ev_args_nil ?_⟩)))
    refine all2_r0 ?_
    refine is_there_ok G hc' R hk (.inl ⟨_, rfl, ?_⟩)
    by_cases q : a.there k = true
    · (first | refine iteP (show decide ((a.ps k).state ≠ .unused) = true from q) ?_ | rw [if_pos (show decide ((a.ps k).state ≠ .unused) = true from q)])
      exact ev_name rfl ho ⟨rfl, by rw [filter_succ, if_pos q]; simp⟩
    · (first | refine iteN (show ¬ decide ((a.ps k).state ≠ .unused) = true from q) ?_ | rw [if_neg (show ¬ decide ((a.ps k).state ≠ .unused) = true from q)])
      exact ⟨rfl, by rw [filter_succ, if_neg q]; simp⟩
  · rintro D acc st' ⟨rfl, rfl⟩ hD
    rw [List.length_map, List.length_range]
    exact hq D hD

theorem children_ok {n j : Nat} {Q : MV → Store → Prop} (G : Gd w b₀ mean mg mb) (hc : c.OK (n + 2)) (hh : c.hd = none) (R : RepT A a st) (hj : j < A.n)
    (hq : ∀ l, st l = none → Q (.ref l) (st.set l (.list ((a.kids A.n j).map fun i => .ref (A.P i))))) :
    Ev w b₀ c env E (call (.ref 179) [.ref A.T, .ref (A.P j)]) VR lm st Q := by
  refine' ev_enterC G hc (by k_is) (by k_is) (.cons (vr_ref _) (.cons (vr_ref _) .nil)) (by rfl) (fun n y hy => ?_) (by decide) (by rfl) ?_
  · change y ∈ (["self", "process"] : List Str) at hy
    simp only [List.mem_cons, List.not_mem_nil, or_false] at hy
    rcases hy with rfl | rfl
    · exact .inl rfl
    · exact .inr ⟨rfl, rfl⟩
  intro c' hc' he' hh'
  refine ex_ret (ev_compList (cl := [("process", c'.L + 1)]) (lmF := LM.of [("process", .ref (A.P j))]) hc' he'.symm (hh'.trans hh) (fun x a e => ?_) rfl (by decide) rfl (by decide) rfl (fun y mv e => ?_) (ev_attr (ev_name rfl rfl ?_)))
  · have : x = "process" := by
      by_cases q : x = "process"
      · exact q
      · have : List.lookup x [(("process" : Str), c'.L + 1)] = some a := e
        simp [List.lookup, beq_false_of_ne q] at this
    subst this
    exact ⟨_, rfl, rfl⟩
  · have : y = "process" ∧ mv = .ref (A.P j) := by
      unfold LM.of at e; split at e
      · rename_i q; cases e; exact ⟨q, rfl⟩
      · cases e
    obtain ⟨rfl, rfl⟩ := this
    exact ⟨rfl, rfl, rfl, rfl⟩
  refine gt_placesU G R ?_
  refine ⟨A.PL, _, rfl, R.pl, by rw [sizeLine_eq]; simp; have := R.sz; omega, fun k acc st' => st' = st ∧ acc = (((List.range k).filter fun i => a.there i && decide ((a.ps i).parent = some j)).map fun i => .ref (A.P i)), ⟨rfl, rfl⟩, fun _ _ _ h => h.1 ▸ R.pl, ?_, ?_⟩
  · rintro k acc st' C E' hk ⟨rfl, rfl⟩
    have hk : k < A.n := by simpa using hk
    (first | refine e0a3 (fun pv h1 h2 => ?_) (R.d k hk) | refine e1a2 (fun pv h1 h2 => ?_) (R.d k hk) | refine e2a1 (fun pv h1 h2 => ?_) (R.d k hk) | obtain ⟨pv, h1, h2⟩ := R.d k hk)
    have hv : (((List.range A.n).map fun i => MV.ref (A.P i)).getD k .none) = .ref (A.P k) := by simp [List.getD_eq_getElem?_getD, hk]
    have ho : lmC "other" ((fun i => (((List.range A.n).map fun i => MV.ref (A.P i)).getD i .none)) k) (LM.of [("process", .ref (A.P j))]) "other" = some (.ref (A.P k)) := by unfold lmC; rw [if_pos rfl]; exact congrArg some hv
    refine ct_one (tr_and (tr_bool (ev_meth G (ev_name rfl ho ⟨A.P k, 131, A.D k, _, 106, rfl, R.p k hk, h1, nP_is_there _, mP_is_there, ev_args_nil ?_⟩))))
    refine all2_r0 ?_
    refine is_there_ok G hc' R hk (.inl ⟨_, rfl, ?_⟩)
    by_cases q : a.there k = true
    · (first | refine iteP (show decide ((a.ps k).state ≠ .unused) = true from q) ?_ | rw [if_pos (show decide ((a.ps k).state ≠ .unused) = true from q)])
      refine tr_and (tr_cmp (ev_attr (ev_name rfl ho ?_)))
      refine gp_parentU G R hk (ev_name rfl rfl ?_)
      refine cmp_is_optU R (R.par k hk) hj ⟨_, rfl, ?_⟩
      by_cases q' : (a.ps k).parent = some j
      · (first | refine iteP (by simpa using q') ?_ | rw [if_pos (by simpa using q')])
        refine tr_and_nil ?_
        (first | refine iteP rfl ?_ | rw [if_pos rfl])
        exact ev_name rfl ho ⟨rfl, by rw [filter_succ, if_pos (by simp [q, q'])]; simp⟩
      · (first | refine iteN (by simpa using q') ?_ | rw [if_neg (by simpa using q')]); (first | refine iteN (by decide) ?_ | rw [if_neg (by decide)])
        exact ⟨rfl, by rw [filter_succ, if_neg (by simp [q'])]; simp⟩
    · (first | refine iteN (show ¬ decide ((a.ps k).state ≠ .unused) = true from q) ?_ | rw [if_neg (show ¬ decide ((a.ps k).state ≠ .unused) = true from q)]); (first | refine iteN (by decide) ?_ | rw [if_neg (by decide)])
      exact ⟨rfl, by rw [filter_succ, if_neg (by simp [q])]; simp⟩
  · rintro D acc st' ⟨rfl, rfl⟩ hD
    rw [List.length_map, List.length_range]
    exact hq D hD
end
end PartF6
section PartF7
open PySem PySem.W PyProof.Rows PySem.Spec PySem.Calls

structure J7 (A : Ad) (a : AT) (st : Store) (k : Nat) (lm' : LM) (st' : Store) : Prop where
  h0 : st' = st
  h1 : lm' "self" = some (.ref A.T)
  h2 : lm' "many" = some (.int (A.n : Int))
  h3 : ∀ s, s < k → (a.ps ((a.last + 1 + s) % A.n)).state ≠ .ready

section
variable {w : World} {b₀ : Heap} {mean : ExcName → Option Value} {mg mb : Str → Option Value} {c : Cx} {env : Env} {E : Value → Shared → Prop} {lm : LM} {st : Store} {A : Ad} {a : AT} {i : Nat} {expr : Bool} {v : Value}

theorem next_ok {n : Nat} {Q : MV → Store → Prop} (G : Gd w b₀ mean mg mb) (hc : c.OK (n + 2)) (hh : c.hd = none) (R : RepT A a st) (hn : 0 < A.n)
    (hq : ∀ s, s < A.n → (a.ps ((a.last + 1 + s) % A.n)).state = .ready → (∀ s', s' < s → (a.ps ((a.last + 1 + s') % A.n)).state ≠ .ready) → ∀ st', RepT A (a.nextF ((a.last + 1 + s) % A.n)) st' → Keep A st st' → Q (.ref (A.P ((a.last + 1 + s) % A.n))) st')
    (hx : (∀ s, s < A.n → (a.ps ((a.last + 1 + s) % A.n)).state ≠ .ready) → Q .none st) (hlast : a.last < A.n) :
    Ev w b₀ c env E (call (.ref 193) [.ref A.T]) VR lm st Q := by
  have sz := R.sz
  refine' ev_enterP G hc (by k_is) (by k_is) (.cons (vr_ref _) .nil) (by rfl) (by rfl) (by decide) (by rfl) ?_
  intro c' hc' he' hh'
  refine ex_assign hc' he'.symm (ev_bcall G hc' he'.symm (by k_is) boot_len (by decide) (ev_args_cons (ev_attr (ev_name rfl rfl ?_))))
  refine gt_placesU G R (ev_args_nil ?_)
  refine all2_r1 ?_
  refine call_lenList R.pl (by rw [sizeLine_eq]; simp; omega) ?_
  rw [List.length_map, List.length_range]
  refine ex_forRange G hc' he'.symm (hh'.trans hh) (by k_is) (ev_args_cons (ev_int (ev_args_cons (ev_binop (ev_name rfl rfl (ev_int ?_))))))
  refine op_addU (ev_args_nil ?_)
  refine ⟨1, (A.n : Int) + 1, .inr rfl, by omega, by omega, by omega, by omega, J7 A a st, ⟨rfl, rfl, rfl, fun j hj => absurd hj (Nat.not_lt_zero _)⟩, ?_, ?_⟩
  · rintro k lm' st' hk ⟨rfl, hs, hm, hj⟩ E'
    have hk : k < A.n := by omega
    have hi : (a.last + 1 + k) % A.n < A.n := Nat.mod_lt _ hn
    refine ex_assign hc' he'.symm (ev_subList (ev_attr (ev_name rfl (LM.set_other hs (by decide)) ?_)))
    refine gt_placesU G R (ev_binop (ev_binop (ev_attr (ev_name rfl (LM.set_other hs (by decide)) ?_))))
    refine vr_r ?_
    refine gt_last G R (ev_name rfl (LM.set_get _ _ _) ?_)
    refine op_addU (ev_name rfl (LM.set_other hm (by decide)) ?_)
    refine op_modU (by omega) ?_
    have ei : ((a.last : Int) + (1 + (k : Int))).fmod (A.n : Int) = (((a.last + 1 + k) % A.n : Nat) : Int) := by
      rw [Int.fmod_eq_emod_of_nonneg _ (by omega)]; push_cast; congr 1; omega
    rw [ei]
    clear ei
    generalize hI : (a.last + 1 + k) % A.n = I at hi ⊢
    refine ⟨A.PL, _, _, .ref (A.P I), rfl, rfl, R.pl, by omega, by have := sz; omega, by simp [hi], ?_⟩
    refine ex_if (tr_cmp (ev_attr (ev_name rfl (LM.set_get _ _ _) ?_)))
    refine gp_stateU G R hi (ev_global G rfl rfl (by k_is) (vr_str _ _) ?_)
    refine cmp_psU (y := .ready) rfl ⟨_, rfl, ?_⟩
    have hs1 : ((lm'.set "step" (.int (1 + (k : Int)))).set "process" (.ref (A.P I))) "self" = some (.ref A.T) := LM.set_other (LM.set_other hs (by decide)) (by decide)
    by_cases q : (a.ps I).state = .ready
    · (first | refine iteP (by simpa using q) ?_ | rw [if_pos (by simpa using q)])
      refine ex_assignAttr (ev_attr (ev_name rfl (LM.set_get _ _ _) ?_))
      refine vr_r ?_
      refine gp_place G R hi (ev_name rfl hs1 ?_)
      refine vr_r2 fun vv hv => ?_
      refine st_last I G R hv fun st₁ R₁ K₁ => ?_
      refine ex_assignAttr (ev_global G rfl rfl (by k_is) (vr_str _ _) (ev_name rfl (LM.set_get _ _ _) ?_))
      refine sp_stateU .running G R₁ hi fun st₂ R₂ K₂ => ?_
      refine ex_augAttr (ev_name rfl (LM.set_get _ _ _) ?_)
      refine vr_r ?_
      refine gp_turns G R₂ hi fun t => ev_int ?_
      refine op_iaddU ?_
      intro vr hr
      refine sp_turns G R₂ hi hr fun st₃ R₃ K₃ => ?_
      refine ex_assignAttr (ev_name rfl (LM.set_get _ _ _) (ev_name rfl hs1 ?_))
      refine st_runningU (some I) (fun j e => by cases e; exact hi) G R₃ fun st₄ R₄ K₄ => ?_
      refine ex_ret (ev_name rfl (LM.set_get _ _ _) ?_)
      have hq := hq k hk
      rw [hI] at hq
      exact hq q hj st₄ (R₄.cast (AT.ext' rfl rfl rfl rfl rfl)) (((K₁.trans K₂).trans K₃).trans K₄)
    · (first | refine iteN (by simpa using q) ?_ | rw [if_neg (by simpa using q)])
      refine ex_nil (ex_nil ⟨rfl, hs1, LM.set_other (LM.set_other hm (by decide)) (by decide), fun s h => ?_⟩)
      rcases Nat.lt_succ_iff_lt_or_eq.mp h with h | rfl
      · exact hj s h
      · rw [hI]; exact q
  · rintro lm' st' ⟨rfl, hs, hm, hj⟩
    exact ex_ret (ev_none (hx fun s hs => hj s (by omega)))

theorem channel_ok {n : Nat} {Q : MV → Store → Prop} (G : Gd w b₀ mean mg mb) (hc : c.OK (n + 1)) (R : RepT A a st) (hi : i < A.n)
    (hq : ∀ l, st l = none → Q (.ref l) (st.set l (.tuple [.str "child", .int (a.ps i).pid]))) :
    Ev w b₀ c env E (call (.ref 222) [.ref A.T, .ref (A.P i)]) VR lm st Q := by
  refine' ev_enterP G hc (by k_is) (by k_is) (.cons (vr_ref _) (.cons (vr_ref _) .nil)) (by rfl) (by rfl) (by decide) (by rfl) ?_
  intro c' hc' he' hh'
  refine ex_ret (ev_tuple (ev_args_cons (ev_str (ev_args_cons (ev_attr (ev_name rfl rfl ?_))))))
  exact gp_pidU G R hi (ev_args_nil ⟨by simp [sizeLine_eq], hq⟩)

def AT.sleepF (a : AT) (j : Nat) (p : Int) : AT := { a.set j { a.ps j with state := .sleeping, chan := some p } with run := if a.run = some j then none else a.run }

theorem sleep_ok {n : Nat} {cc : Addr} {p : Int} {Q : MV → Store → Prop} (G : Gd w b₀ mean mg mb) (hc : c.OK (n + 1)) (R : RepT A a st) (hi : i < A.n) (hcc : st cc = some (.tuple [.str "child", .int p]))
    (hq : ∀ st', RepT A (a.sleepF i p) st' → Keep A st st' → Q .none st') :
    Ev w b₀ c env E (call (.ref 250) [.ref A.T, .ref (A.P i), .ref cc]) VR lm st Q := by
  refine' ev_enterP G hc (by k_is) (by k_is) (.cons (vr_ref _) (.cons (vr_ref _) (.cons (vr_ref _) .nil))) (by rfl) (by rfl) (by decide) (by rfl) ?_
  intro c' hc' he' hh'
  refine ex_assignAttr (ev_global G rfl rfl (by k_is) (vr_str _ _) (ev_name rfl rfl ?_))
  refine sp_stateU .sleeping G R hi fun st₁ R₁ K₁ => ?_
  refine ex_assignAttr (ev_name rfl rfl (ev_name rfl rfl ?_))
  refine vr_r2 fun vv hv => ?_
  have hcc₁ := K₁ _ _ hcc (fun q => by rw [q, R.td] at hcc; cases hcc) (fun j hj q => by obtain ⟨pv, h1, _⟩ := R.d j hj; rw [q, h1] at hcc; cases hcc)
  refine sp_chan p G R₁ hi hcc₁ hv fun st₂ R₂ K₂ => ?_
  refine ex_if (tr_cmp (ev_attr (ev_name rfl rfl ?_)))
  refine gt_runningU G R₂ (ev_name rfl rfl ?_)
  refine cmp_is_optU R₂ R₂.run hi ⟨_, rfl, ?_⟩
  have e : (decide (a.run = some i) = true) ↔ a.run = some i := by simp
  by_cases q : a.run = some i
  · refine (if_pos (show decide (a.run = some i) = true from by simpa using q)) ▸ ?_
    refine ex_assignAttr (ev_none (ev_name rfl rfl ?_))
    refine st_runningU none (fun _ e => by cases e) G R₂ fun st₃ R₃ K₃ => ?_
    refine ex_nil (ex_nil (hq st₃ (R₃.cast (AT.ext' ?_ rfl rfl rfl ?_)) ((K₁.trans K₂).trans K₃)))
    · funext k; simp [AT.set, AT.sleepF]; split <;> simp_all
    · simp [AT.sleepF, q]
  · refine (if_neg (show ¬ decide (a.run = some i) = true from by simpa using q)) ▸ ?_
    refine ex_nil (ex_nil (hq st₂ (R₂.cast (AT.ext' ?_ rfl rfl rfl ?_)) (K₁.trans K₂)))
    · funext k; simp [AT.set, AT.sleepF]; split <;> simp_all
    · simp [AT.sleepF, q, AT.set]
end
end PartF7
section PartF8
open PySem PySem.W PyProof.Rows PySem.Spec PySem.Calls

/-- who sleeps has a channel -/
def SC (n : Nat) (a : AT) : Prop := ∀ i, i < n → (a.ps i).state = .sleeping → ∃ q, (a.ps i).chan = some q
theorem SC.set {n : Nat} {a : AT} {i : Nat} {x : AP} (h : SC n a) (hx : x.state = .sleeping → ∃ q, x.chan = some q) : SC n (a.set i x) := fun j hj e => by
  by_cases q : j = i
  · subst q; rw [AT.set_self] at e ⊢; exact hx e
  · rw [AT.set_ne _ _ q] at e ⊢; exact h j hj e
theorem SC.ready {n : Nat} {a : AT} {i : Nat} (h : SC n a) : SC n (a.readyF i) := (h.set (x := { a.ps i with state := .ready, chan := none }) fun e => by cases e)
theorem SC.step {n : Nat} {a : AT} {i : Nat} {p : Int} (h : SC n a) : SC n (AT.wakeStep p a i) := by
  unfold AT.wakeStep; split
  · exact h.ready
  · exact h
theorem SC.fold {n : Nat} {p : Int} : ∀ {l : List Nat} {a : AT}, SC n a → SC n (l.foldl (AT.wakeStep p) a)
  | [], _, h => h
  | _ :: l, _, h => SC.fold (l := l) h.step
theorem SC.wake {n k : Nat} {a : AT} {p : Int} (h : SC n a) : SC n (a.wake k p) := SC.fold h

theorem foldl_succ {β : Type} (f : β → Nat → β) (b : β) (k : Nat) : (List.range (k + 1)).foldl f b = f ((List.range k).foldl f b) k := by
  rw [List.range_succ, List.foldl_append]; rfl

structure J8 (A : Ad) (a : AT) (st : Store) (cc : Addr) (p : Int) (k : Nat) (lm' : LM) (st' : Store) : Prop where
  h0 : lm' "self" = some (.ref A.T)
  h1 : lm' "channel" = some (.ref cc)
  h2 : ∃ z : Int, lm' "many" = some (.int z)
  h3 : RepT A ((List.range k).foldl (AT.wakeStep p) a) st'
  h4 : Keep A st st'

section
variable {w : World} {b₀ : Heap} {mean : ExcName → Option Value} {mg mb : Str → Option Value} {c : Cx} {env : Env} {E : Value → Shared → Prop} {lm : LM} {st : Store} {A : Ad} {a : AT} {i : Nat} {expr : Bool} {v : Value}

theorem RepT.kept {st' : Store} {b : Addr} {mo : MO} (R : RepT A a st) (K : Keep A st st') (h : st b = some mo) (hm : ∀ fs, mo ≠ .fields fs) : st' b = some mo :=
  K b mo h (fun q => by rw [q, R.td] at h; cases h; exact hm _ rfl) fun j hj q => by obtain ⟨pv, h1, _⟩ := R.d j hj; rw [q, h1] at h; cases h; exact hm _ rfl

theorem wakeup_ok {n : Nat} {cc : Addr} {p : Int} {Q : MV → Store → Prop} (G : Gd w b₀ mean mg mb) (hc : c.OK (n + 2)) (hh : c.hd = none) (R : RepT A a st) (hs : SC A.n a) (hcc : st cc = some (.tuple [.str "child", .int p]))
    (hq : ∀ st' k, RepT A (a.wake A.n p) st' → Keep A st st' → Q (.int k) st') :
    Ev w b₀ c env E (call (.ref 257) [.ref A.T, .ref cc]) VR lm st Q := by
  refine' ev_enterP G hc (by k_is) (by k_is) (.cons (vr_ref _) (.cons (vr_ref _) .nil)) (by rfl) (by rfl) (by decide) (by rfl) ?_
  intro c' hc' he' hh'
  refine ex_assign hc' he'.symm (ev_int ?_)
  refine ex_forList hc' he'.symm (hh'.trans hh) (ev_attr (ev_name rfl rfl ?_))
  refine gt_placesU G R ?_
  refine ⟨A.PL, _, rfl, R.pl, J8 A a st cc p, ⟨rfl, rfl, ⟨0, rfl⟩, R, .refl _⟩, ?_, ?_⟩
  · rintro k v lm' st' hv ⟨h1, h2, ⟨z, h3⟩, R', K'⟩ hpl E'
    obtain ⟨hk, rfl⟩ := range_get hv
    have hcc' := R.kept K' hcc (by intro _ e; cases e)
    generalize hb : (List.range k).foldl (AT.wakeStep p) a = b at R'
    have hsb : SC A.n b := hb ▸ SC.fold hs
    have hfold : (List.range (k + 1)).foldl (AT.wakeStep p) a = AT.wakeStep p b k := by rw [foldl_succ, hb]
    have skip : ¬ ((b.ps k).state = .sleeping ∧ (b.ps k).chan = some p) → RepT A ((List.range (k + 1)).foldl (AT.wakeStep p) a) st' := fun h => by
      rw [hfold]; unfold AT.wakeStep; rw [if_neg h]; exact R'
    refine ex_if (tr_and (tr_cmp (ev_attr (ev_name rfl (LM.set_get _ _ _) ?_))))
    refine gp_stateU G R' hk (ev_global G rfl rfl (by k_is) (vr_str _ _) ?_)
    intro va vb ha hb'
    refine cmp_eq_str ha hb' ⟨_, rfl, ?_⟩
    rw [show ("sleeping" : Str) = PS.sleeping.str from rfl, PS.str_beq]
    by_cases q : (b.ps k).state = .sleeping
    · (first | refine iteP (by simpa using q) ?_ | rw [if_pos (by simpa using q)])
      obtain ⟨r, hr⟩ := hsb k hk q
      refine tr_and (tr_cmp (ev_attr (ev_name rfl (LM.set_get _ _ _) ?_)))
      refine vr_r ?_
      refine gp_chan G R' hk hr fun c1 hc1 => ev_name rfl (LM.set_other h2 (by decide)) ?_
      intro va vb ha hb'
      refine cmp_eq_chan hc' ha hb' hc1 hcc' ⟨_, rfl, ?_⟩
      by_cases q' : r = p
      · subst q'
        (first | refine iteP (by simp) ?_ | rw [if_pos (by simp)])
        refine tr_and_nil ?_
        (first | refine iteP rfl ?_ | rw [if_pos rfl])
        refine ex_expr (ev_meth G (ev_name rfl (LM.set_other h1 (by decide)) ⟨A.T, 274, A.TD, _, 186, rfl, R'.t, R'.td, nT_ready _, mT_ready, ev_args_cons (ev_name rfl (LM.set_get _ _ _) (ev_args_nil ?_))⟩))
        refine all2_r1 ?_
        refine ready_ok' G hc' R' hk fun st₁ R₁ K₁ => ?_
        refine ex_augName hc' he'.symm (LM.set_other h3 (by decide)) (ev_int ?_)
        refine op_iaddU (ex_nil (ex_nil ⟨⟨LM.set_other (LM.set_other h1 (by decide)) (by decide), LM.set_other (LM.set_other h2 (by decide)) (by decide), ⟨_, LM.set_get _ _ _⟩, ?_, K'.trans K₁⟩, R'.kept K₁ hpl (by intro _ e; cases e)⟩))
        rw [hfold]; unfold AT.wakeStep; rw [if_pos ⟨q, hr⟩]; exact R₁
      · (first | refine iteN (by simpa using q') ?_ | rw [if_neg (by simpa using q')]); (first | refine iteN (by decide) ?_ | rw [if_neg (by decide)])
        exact ex_nil (ex_nil ⟨⟨LM.set_other h1 (by decide), LM.set_other h2 (by decide), ⟨z, LM.set_other h3 (by decide)⟩, skip fun h => q' (Option.some.inj (hr.symm.trans h.2)), K'⟩, hpl⟩)
    · (first | refine iteN (by simpa using q) ?_ | rw [if_neg (by simpa using q)]); (first | refine iteN (by decide) ?_ | rw [if_neg (by decide)])
      exact ex_nil (ex_nil ⟨⟨LM.set_other h1 (by decide), LM.set_other h2 (by decide), ⟨z, LM.set_other h3 (by decide)⟩, skip fun h => q h.1, K'⟩, hpl⟩)
  · rintro lm' st' ⟨h1, h2, ⟨z, h3⟩, R', K'⟩ hpl
    rw [List.length_map, List.length_range] at R'
    exact ex_ret (ev_name rfl h3 (hq st' z R' K'))

theorem reap_ok {n : Nat} {Q : MV → Store → Prop} (G : Gd w b₀ mean mg mb) (hc : c.OK (n + 2)) (R : RepT A a st) (hi : i < A.n)
    (hq : ∀ l st', RepT A (a.set i {}) st' → Keep A st st' → st' l = some (.tuple [.int (a.ps i).pid, .int (a.ps i).status]) → Q (.ref l) st') :
    Ev w b₀ c env E (call (.ref 236) [.ref A.T, .ref (A.P i)]) VR lm st Q := by
  refine' ev_enterP G hc (by k_is) (by k_is) (.cons (vr_ref _) (.cons (vr_ref _) .nil)) (by rfl) (by rfl) (by decide) (by rfl) ?_
  intro c' hc' he' hh'
  refine ex_assign hc' he'.symm (ev_tuple (ev_args_cons (ev_attr (ev_name rfl rfl ?_))))
  refine gp_pidU G R hi (ev_args_cons (ev_attr (ev_name rfl rfl ?_)))
  refine vr_r ?_
  refine gp_status G R hi (ev_args_nil ⟨by simp [sizeLine_eq], fun l hl => ?_⟩)
  have X := Ext.new (mo := .tuple [.int (a.ps i).pid, .int (a.ps i).status]) hl
  have R₁ := R.ext X
  refine ex_if (tr_cmp (ev_attr (ev_name rfl rfl ?_)))
  refine gp_spaceU G R₁ hi (ev_none ?_)
  refine cmp_isnot_noneU ⟨_, rfl, ?_⟩
  (first | refine iteN (by decide) ?_ | rw [if_neg (by decide)])
  refine ex_nil ?_
  (first | refine e0a3 (fun pv h1 h2 => ?_) (R₁.d i hi) | refine e1a2 (fun pv h1 h2 => ?_) (R₁.d i hi) | refine e2a1 (fun pv h1 h2 => ?_) (R₁.d i hi) | obtain ⟨pv, h1, h2⟩ := R₁.d i hi)
  refine ex_expr (ev_meth G (ev_name rfl rfl ⟨A.P i, 131, A.D i, _, 99, rfl, R₁.p i hi, h1, nP_clear _, mP_clear, ev_args_nil ?_⟩))
  refine all2_r0 ?_
  refine clear_ok G hc' R₁ hi fun st₂ R₂ K₂ => ?_
  exact ex_ret (ev_name rfl rfl (hq l st₂ R₂ (X.keep.trans K₂) (R₁.kept K₂ (Store.set_self _ _ _) (by intro _ e; cases e))))

def AT.killF (a : AT) (i : Nat) : AT := if (a.ps i).state = .sleeping then (a.set i { a.ps i with killed := true }).readyF i else a.set i { a.ps i with killed := true }

theorem strlen_all : ∀ k, k < 9 → (Str.ofString (toString ((k : Nat) : Int))).length ≤ 100 ∧ ((k : Nat) : Int).natAbs.log2 < 1920 := by decide +kernel
theorem strlen (p : Int) (h0 : 0 ≤ p) (h9 : p < 9) : (Str.ofString (toString p)).length ≤ 100 ∧ p.natAbs.log2 < 1920 :=
  Int.toNat_of_nonneg h0 ▸ strlen_all p.toNat (by omega)

theorem kill_ok {n : Nat} {p : Int} {vp : Value} {Q : MV → Store → Prop} {QE : Store → Prop} (G : Gd w b₀ mean mg mb) (hc : c.OK (n + 3)) (hh : c.hd = none) (R : RepT A a st) (hp : VR (.int p) vp) (h0 : 0 ≤ p) (h9 : p < 9)
    (hq : ∀ i, i < A.n → (a.ps i).state ≠ .unused → (a.ps i).pid = p → ∀ st', RepT A (a.killF i) st' → Keep A st st' → Q .none st') (hx : (∀ i, i < A.n → (a.ps i).state ≠ .unused → (a.ps i).pid ≠ p) → QE st) :
    EvX w b₀ c env (call (.ref 264) [.ref A.T, vp]) VR lm st Q 64 QE := by
  refine' evX_enterP G hc (by k_is) (by k_is) (.cons (vr_ref _) (.cons hp .nil)) (by rfl) (by rfl) (by decide) (by rfl) ?_
  intro c' hc' he' hh'
  refine exX_cons fun E => ?_
  refine ex_assign hc' he'.symm (ev_meth G (ev_name rfl rfl ⟨A.T, 274, A.TD, _, 169, rfl, R.t, R.td, nT_find _, mT_find, ev_args_cons (ev_name rfl rfl (ev_args_nil ?_))⟩))
  refine all2_v1 fun v hv => ?_
  refine find_ok G hc' (hh'.trans hh) R hv (fun i hi hu hpid => ?_) (fun hno => ?_)
  · refine ex_nil (exX_if fun E => tr_cmp (ev_name rfl rfl (ev_none ?_)))
    refine cmp_is_noneU ⟨_, rfl, ?_⟩
    (first | refine iteN (show ¬ ((MV.ref (A.P i)).isNone = true) from Bool.false_ne_true) ?_ | rw [if_neg (show ¬ ((MV.ref (A.P i)).isNone = true) from Bool.false_ne_true)])
    refine ExX.of fun E => ex_nil (ExX.of fun E => ?_)
    refine ex_assignAttr (ev_bool (ev_name rfl rfl ?_))
    refine vr_r2 fun vv hv => ?_
    refine sp_killed true G R hi hv fun st₁ R₁ K₁ => ?_
    refine ex_if (tr_cmp (ev_attr (ev_name rfl rfl ?_)))
    refine gp_stateU G R₁ hi (ev_global G rfl rfl (by k_is) (vr_str _ _) ?_)
    refine cmp_psU (y := .sleeping) rfl ⟨_, rfl, ?_⟩
    rw [AT.set_self]
    by_cases q : (a.ps i).state = .sleeping
    · (first | refine iteP (by simpa using q) ?_ | rw [if_pos (by simpa using q)])
      refine ex_expr (ev_meth G (ev_name rfl rfl ⟨A.T, 274, A.TD, _, 186, rfl, R₁.t, R₁.td, nT_ready _, mT_ready, ev_args_cons (ev_name rfl rfl (ev_args_nil ?_))⟩))
      refine all2_r1 ?_
      refine ready_ok' G hc' R₁ hi fun st₂ R₂ K₂ => ex_nil (ex_nil (hq i hi hu hpid st₂ ?_ (K₁.trans K₂)))
      unfold AT.killF; rw [if_pos q]; exact R₂
    · (first | refine iteN (by simpa using q) ?_ | rw [if_neg (by simpa using q)])
      refine ex_nil (ex_nil (hq i hi hu hpid st₁ ?_ K₁))
      unfold AT.killF; rw [if_neg q]; exact R₁
  · refine ex_nil (exX_if fun E => tr_cmp (ev_name rfl rfl (ev_none ?_)))
    refine cmp_is_noneU ⟨_, rfl, ?_⟩
    (first | refine iteP (by decide) ?_ | rw [if_pos (by decide)])
    obtain ⟨l1, l2⟩ := strlen p h0 h9
    refine exX_raise G hc' (hh'.trans hh) exOk64 fun E => ev_call G rfl rfl (by k_is) exOk64.keep (ev_args_cons (ev_binop (ev_str (ev_tcall G hc' he'.symm (by k_is) (PyProof.Rows.Boot.«str») (by decide) (ev_args_cons (ev_name rfl rfl (ev_args_nil ?_)))))))
    refine all2_v1 fun v hv => ?_
    refine call_strInt hv l2 ?_
    have hs8 : (Str.ofString "no process ").length ≤ 100 := by decide
    refine op_addStrU (by rw [sizeLine_eq]; omega) (ev_args_nil ?_)
    refine all2_v1 fun v hv => ?_
    refine ev_makeExc G hc' exOk64 hv fun e he => ⟨e, rfl, Store.set_self _ _ _, ?_⟩
    rw [Store.drop_set he]
    exact hx hno
end
end PartF8
section PartF9
open PySem PySem.W PyProof.Rows PySem.Spec PySem.Calls

theorem map_get {α : Type} {f : Nat → α} {l : List Nat} {i : Nat} {v : α} (h : (l.map f)[i]? = some v) : ∃ j, l[i]? = some j ∧ v = f j := by
  rw [List.getElem?_map] at h
  obtain ⟨j, hj, rfl⟩ := Option.map_eq_some_iff.mp h
  exact ⟨j, hj, rfl⟩
theorem mem_kids {a : AT} {n j i : Nat} : i ∈ a.kids n j ↔ i < n ∧ (a.ps i).state ≠ .unused ∧ (a.ps i).parent = some j := by
  simp [AT.kids, AT.there]
theorem foldl_take {β : Type} (f : β → Nat → β) (b : β) {l : List Nat} {k x : Nat} (h : l[k]? = some x) : (l.take (k + 1)).foldl f b = f ((l.take k).foldl f b) x := by
  rw [List.take_add_one, h, List.foldl_append]; rfl

def AT.reparStep (n f : Nat) (a : AT) (i : Nat) : AT :=
  if (a.ps i).state = .zombie then (a.set i { a.ps i with parent := some f }).wake n ((a.set i { a.ps i with parent := some f }).ps f).pid else a.set i { a.ps i with parent := some f }
def AT.reparF (a : AT) (n j f : Nat) : AT := (a.kids n j).foldl (AT.reparStep n f) a
def AT.zombF (a : AT) (j : Nat) (s : Int) : AT := { a.set j { a.ps j with state := .zombie, chan := none, status := s } with run := if a.run = some j then none else a.run }
def AT.exitF (a : AT) (n j f : Nat) (s : Int) : AT :=
  match (((a.reparF n j f).zombF j s).ps j).parent with
  | none => (a.reparF n j f).zombF j s
  | some p => ((a.reparF n j f).zombF j s).wake n (((a.reparF n j f).zombF j s).ps p).pid
def AT.forkF (a : AT) (j i : Nat) : AT := ((a.newF i).set i { (a.newF i).ps i with parent := some j }).readyF i

theorem SC.repar1 {n m f i : Nat} {a : AT} (h : SC n a) : SC n (AT.reparStep m f a i) := by
  have h1 : SC n (a.set i { a.ps i with parent := some f }) := fun j hj e => by
    by_cases q : j = i
    · subst q; rw [AT.set_self] at e ⊢; exact h j hj e
    · rw [AT.set_ne _ _ q] at e ⊢; exact h j hj e
  unfold AT.reparStep; split
  · exact h1.wake
  · exact h1
theorem SC.reparL {n m f : Nat} : ∀ {l : List Nat} {a : AT}, SC n a → SC n (l.foldl (AT.reparStep m f) a)
  | [], _, h => h
  | _ :: l, _, h => SC.reparL (l := l) h.repar1
theorem SC.repar {n m j f : Nat} {a : AT} (h : SC n a) : SC n (a.reparF m j f) := SC.reparL h

structure J9 (A : Ad) (a : AT) (j : Nat) (l : Addr) (st₁ : Store) (k : Nat) (lm' : LM) (st' : Store) : Prop where
  h0 : st' = st₁
  h1 : lm' "self" = some (.ref A.T)
  h2 : lm' "process" = some (.ref (A.P j))
  h3 : lm' "children" = some (.ref l)
  h4 : ∀ i, i ∈ (a.kids A.n j).take k → (a.ps i).state ≠ .zombie

structure J9r (A : Ad) (a : AT) (j f : Nat) (st : Store) (k : Nat) (lm' : LM) (st' : Store) : Prop where
  h0 : lm' "self" = some (.ref A.T)
  h1 : RepT A (((a.kids A.n j).take k).foldl (AT.reparStep A.n f) a) st'
  h2 : Keep A st st'
  h3 : (((a.kids A.n j).take k).foldl (AT.reparStep A.n f) a).first = some f

section
variable {w : World} {b₀ : Heap} {mean : ExcName → Option Value} {mg mb : Str → Option Value} {c : Cx} {env : Env} {E : Value → Shared → Prop} {lm : LM} {st : Store} {A : Ad} {a : AT} {i : Nat} {expr : Bool} {v : Value}

theorem wait_ok {n j : Nat} {Q : MV → Store → Prop} {QE : Store → Prop} (G : Gd w b₀ mean mg mb) (hc : c.OK (n + 4)) (hh : c.hd = none) (R : RepT A a st) (hj : j < A.n)
    (hz : ∀ i, i ∈ a.kids A.n j → (a.ps i).state = .zombie → ∀ l st', RepT A (a.set i {}) st' → Keep A st st' → st' l = some (.tuple [.int (a.ps i).pid, .int (a.ps i).status]) → Q (.ref l) st')
    (hs : (∀ i, i ∈ a.kids A.n j → (a.ps i).state ≠ .zombie) → a.kids A.n j ≠ [] → (a.ps j).killed = false → ∀ st', RepT A (a.sleepF j (a.ps j).pid) st' → Keep A st st' → Q .none st')
    (hx : (∀ i, i ∈ a.kids A.n j → (a.ps i).state ≠ .zombie) → (a.kids A.n j = [] ∨ (a.ps j).killed = true) → ∀ st', Ext st st' → QE st') :
    EvX w b₀ c env (call (.ref 243) [.ref A.T, .ref (A.P j)]) VR lm st Q 64 QE := by
  refine' evX_enterP G hc (by k_is) (by k_is) (.cons (vr_ref _) (.cons (vr_ref _) .nil)) (by rfl) (by rfl) (by decide) (by rfl) ?_
  intro c' hc' he' hh'
  refine exX_cons fun E => ?_
  refine ex_assign hc' he'.symm (ev_meth G (ev_name rfl rfl ⟨A.T, 274, A.TD, _, 179, rfl, R.t, R.td, nT_children _, mT_children, ev_args_cons (ev_name rfl rfl (ev_args_nil ?_))⟩))
  refine all2_r1 ?_
  refine children_ok G hc' (hh'.trans hh) R hj fun l hl => ex_nil (exX_cons fun E => ?_)
  have X := Ext.new (mo := .list ((a.kids A.n j).map fun i => .ref (A.P i))) hl
  have hl' := Store.set_self st l (.list ((a.kids A.n j).map fun i => .ref (A.P i)))
  generalize st.set l (.list ((a.kids A.n j).map fun i => .ref (A.P i))) = st₁ at X hl' ⊢
  have R₁ := R.ext X
  refine ex_forList hc' he'.symm (hh'.trans hh) (ev_name rfl rfl ?_)
  refine ⟨l, _, rfl, hl', J9 A a j l st₁, ⟨rfl, rfl, rfl, rfl, fun i hi => by simp at hi⟩, ?_, ?_⟩
  · rintro k v lm' st' hv ⟨rfl, h1, h2, h3, hj'⟩ hpl E'
    obtain ⟨i, hi, rfl⟩ := map_get hv
    have him := List.mem_of_getElem? hi
    have hin := (mem_kids.mp him).1
    refine ex_if (tr_cmp (ev_attr (ev_name rfl (LM.set_get _ _ _) ?_)))
    refine gp_stateU G R₁ hin (ev_global G rfl rfl (by k_is) (vr_str _ _) ?_)
    refine cmp_psU (y := .zombie) rfl ⟨_, rfl, ?_⟩
    by_cases q : (a.ps i).state = .zombie
    · (first | refine iteP (by simpa using q) ?_ | rw [if_pos (by simpa using q)])
      refine ex_ret (ev_meth G (ev_name rfl (LM.set_other h1 (by decide)) ⟨A.T, 274, A.TD, _, 236, rfl, R₁.t, R₁.td, nT_reap _, mT_reap, ev_args_cons (ev_name rfl (LM.set_get _ _ _) (ev_args_nil ?_))⟩))
      refine all2_r1 ?_
      exact reap_ok G hc' R₁ hin fun l₂ st₂ R₂ K₂ ht => hz i him q l₂ st₂ R₂ (X.keep.trans K₂) ht
    · (first | refine iteN (by simpa using q) ?_ | rw [if_neg (by simpa using q)])
      refine ex_nil (ex_nil ⟨⟨rfl, LM.set_other h1 (by decide), LM.set_other h2 (by decide), LM.set_other h3 (by decide), fun i' hi' => ?_⟩, hpl⟩)
      rw [List.take_add_one, hi] at hi'
      rcases List.mem_append.mp hi' with h | h
      · exact hj' i' h
      · simp at h; subst h; exact q
  · rintro lm' st' ⟨rfl, h1, h2, h3, hj'⟩ hpl
    rw [List.length_map] at hj'
    have hno : ∀ i, i ∈ a.kids A.n j → (a.ps i).state ≠ .zombie := fun i hi => hj' i (by rw [List.take_length]; exact hi)
    refine ex_nil (exX_if fun E => tr_or (tr_cmp (ev_name rfl h3 (ev_list (ev_args_nil ⟨by simp, fun l₂ hl₂ => ?_⟩)))))
    intro va vb ha hb
    have X₂ := Ext.new (mo := .list []) hl₂
    refine cmp_eq_nil hc' ha hb (X₂ _ _ hl') (Store.set_self _ _ _) ⟨_, rfl, ?_⟩
    have R₂ := R₁.ext X₂
    generalize st'.set l₂ (.list []) = st₂ at X₂ R₂ ⊢
    by_cases q : a.kids A.n j = []
    · (first | refine iteP (by simp [q]) ?_ | rw [if_pos (by simp [q])])
      (first | refine iteP (by simp [q]) ?_ | rw [if_pos (by simp [q])])
      refine exX_raise G hc' (hh'.trans hh) exOk64 fun E => ev_call G rfl rfl (by k_is) exOk64.keep (ev_args_cons (ev_str (ev_args_nil ?_)))
      refine all2_v1 fun v hv => ?_
      refine ev_makeExc G hc' exOk64 hv fun e he => ⟨e, rfl, Store.set_self _ _ _, ?_⟩
      rw [Store.drop_set he]
      exact hx hno (.inl q) st₂ (X.trans X₂)
    · (first | refine iteN (by simpa using q) ?_ | rw [if_neg (by simpa using q)])
      refine tr_or (tr_bool (ev_attr (ev_name rfl h2 ?_)))
      refine vr_r ?_
      refine gp_killed G R₂ hj (.inl ⟨_, rfl, ?_⟩)
      by_cases q' : (a.ps j).killed = true
      · (first | refine iteP q' ?_ | rw [if_pos q']); (first | refine iteP rfl ?_ | rw [if_pos rfl])
        refine exX_raise G hc' (hh'.trans hh) exOk64 fun E => ev_call G rfl rfl (by k_is) exOk64.keep (ev_args_cons (ev_str (ev_args_nil ?_)))
        refine all2_v1 fun v hv => ?_
        refine ev_makeExc G hc' exOk64 hv fun e he => ⟨e, rfl, Store.set_self _ _ _, ?_⟩
        rw [Store.drop_set he]
        exact hx hno (.inr q') st₂ (X.trans X₂)
      · (first | refine iteN q' ?_ | rw [if_neg q'])
        refine tr_or_nil ?_
        (first | refine iteN Bool.false_ne_true ?_ | rw [if_neg Bool.false_ne_true])
        refine ExX.of fun E => ex_nil (ExX.of fun E => ?_)
        refine ex_expr (ev_meth G (ev_name rfl h1 ⟨A.T, 274, A.TD, _, 250, rfl, R₂.t, R₂.td, nT_sleep _, mT_sleep, ev_args_cons (ev_name rfl h2 (ev_args_cons (ev_meth G (ev_name rfl h1 ⟨A.T, 274, A.TD, _, 222, rfl, R₂.t, R₂.td, nT_channel_of _, mT_channel_of, ev_args_cons (ev_name rfl h2 (ev_args_nil ?_))⟩))))⟩))
        refine all2_r1 ?_
        refine channel_ok G hc' R₂ hj fun l₃ hl₃ => ev_args_nil ?_
        refine all2_r2 ?_
        have X₃ := Ext.new (mo := .tuple [.str "child", .int (a.ps j).pid]) hl₃
        refine sleep_ok G hc' (R₂.ext X₃) hj (Store.set_self _ _ _) fun st₄ R₄ K₄ => ?_
        exact ex_ret (ev_none (hs hno q (by simpa using q') st₄ R₄ (((X.trans X₂).trans X₃).keep.trans K₄)))

theorem reparent_ok {n j f : Nat} {Q : MV → Store → Prop} (G : Gd w b₀ mean mg mb) (hc : c.OK (n + 4)) (hh : c.hd = none) (R : RepT A a st) (hj : j < A.n) (hf : a.first = some f) (hs : SC A.n a)
    (hq : ∀ st', RepT A (a.reparF A.n j f) st' → Keep A st st' → Q .none st') :
    Ev w b₀ c env E (call (.ref 215) [.ref A.T, .ref (A.P j)]) VR lm st Q := by
  have hfn := R.fst f hf
  refine' ev_enterP G hc (by k_is) (by k_is) (.cons (vr_ref _) (.cons (vr_ref _) .nil)) (by rfl) (by rfl) (by decide) (by rfl) ?_
  intro c' hc' he' hh'
  refine ex_forList hc' he'.symm (hh'.trans hh) (ev_meth G (ev_name rfl rfl ⟨A.T, 274, A.TD, _, 179, rfl, R.t, R.td, nT_children _, mT_children, ev_args_cons (ev_name rfl rfl (ev_args_nil ?_))⟩))
  refine all2_r1 ?_
  refine children_ok G hc' (hh'.trans hh) R hj fun l hl => ?_
  have X := Ext.new (mo := .list ((a.kids A.n j).map fun i => .ref (A.P i))) hl
  have hl' := Store.set_self st l (.list ((a.kids A.n j).map fun i => .ref (A.P i)))
  generalize st.set l (.list ((a.kids A.n j).map fun i => .ref (A.P i))) = st₁ at X hl' ⊢
  have R₁ := R.ext X
  refine ⟨l, _, rfl, hl', J9r A a j f st, ⟨rfl, R₁, X.keep, hf⟩, ?_, ?_⟩
  · rintro k v lm' st' hv ⟨h1, R', K', hf'⟩ hpl E'
    obtain ⟨i, hi, rfl⟩ := map_get hv
    have hin := (mem_kids.mp (List.mem_of_getElem? hi)).1
    have hstep := foldl_take (AT.reparStep A.n f) a hi
    have hsb : SC A.n (((a.kids A.n j).take k).foldl (AT.reparStep A.n f) a) := SC.reparL hs
    generalize (((a.kids A.n j).take k).foldl (AT.reparStep A.n f) a) = b at R' hf' hsb hstep
    have hwk : ∀ (l : List Nat) (p : Int) (b : AT), (l.foldl (AT.wakeStep p) b).first = b.first := by
      intro l p
      induction l with
      | nil => intro b; rfl
      | cons x l ih => intro b; rw [List.foldl_cons, ih]; unfold AT.wakeStep; split <;> rfl
    refine ex_assignAttr (ev_attr (ev_name rfl (LM.set_other h1 (by decide)) ?_))
    refine gt_firstU G R' (ev_name rfl (LM.set_get _ _ _) ?_)
    refine vr_r2 fun vv hv => ?_
    rw [hf'] at hv
    refine sp_parent (some f) (fun k e => by cases e; exact hfn) G R' hin hv fun st₂ R₂ K₂ => ?_
    have hs₂ : SC A.n (b.set i { b.ps i with parent := some f }) := fun m hm e => by
      by_cases q : m = i
      · subst q; rw [AT.set_self] at e ⊢; exact hsb m hm e
      · rw [AT.set_ne _ _ q] at e ⊢; exact hsb m hm e
    refine ex_if (tr_cmp (ev_attr (ev_name rfl (LM.set_get _ _ _) ?_)))
    refine gp_stateU G R₂ hin (ev_global G rfl rfl (by k_is) (vr_str _ _) ?_)
    refine cmp_psU (y := .zombie) rfl ⟨_, rfl, ?_⟩
    rw [AT.set_self]
    by_cases q : (b.ps i).state = .zombie
    · (first | refine iteP (by simpa using q) ?_ | rw [if_pos (by simpa using q)])
      have hf₂ : (b.set i { b.ps i with parent := some f }).first = some f := hf'
      refine ex_expr (ev_meth G (ev_name rfl (LM.set_other h1 (by decide)) ⟨A.T, 274, A.TD, _, 257, rfl, R₂.t, R₂.td, nT_wakeup _, mT_wakeup, ev_args_cons (ev_meth G (ev_name rfl (LM.set_other h1 (by decide)) ⟨A.T, 274, A.TD, _, 222, rfl, R₂.t, R₂.td, nT_channel_of _, mT_channel_of, ev_args_cons (ev_attr (ev_name rfl (LM.set_other h1 (by decide)) ?_))⟩))⟩))
      refine gt_firstU G R₂ (ev_args_nil ?_)
      rw [hf₂]
      refine all2_r1 ?_
      refine channel_ok G hc' R₂ hfn fun l₃ hl₃ => ev_args_nil ?_
      refine all2_r1 ?_
      have X₃ := Ext.new (mo := .tuple [.str "child", .int ((b.set i { b.ps i with parent := some f }).ps f).pid]) hl₃
      refine wakeup_ok G hc' (hh'.trans hh) (R₂.ext X₃) hs₂ (Store.set_self _ _ _) fun st₄ z R₄ K₄ => ?_
      have K24 := (K₂.trans X₃.keep).trans K₄
      refine ex_nil (ex_nil ⟨⟨LM.set_other h1 (by decide), ?_, K'.trans K24, ?_⟩, R'.kept K24 hpl (by intro _ e; cases e)⟩)
      · rw [hstep]; unfold AT.reparStep; rw [if_pos q]; exact R₄
      · rw [hstep]; unfold AT.reparStep; rw [if_pos q]; unfold AT.wake; rw [hwk]; exact hf'
    · (first | refine iteN (by simpa using q) ?_ | rw [if_neg (by simpa using q)])
      refine ex_nil (ex_nil ⟨⟨LM.set_other h1 (by decide), ?_, K'.trans K₂, ?_⟩, R'.kept K₂ hpl (by intro _ e; cases e)⟩)
      · rw [hstep]; unfold AT.reparStep; rw [if_neg q]; exact R₂
      · rw [hstep]; unfold AT.reparStep; rw [if_neg q]; exact hf'
  · rintro lm' st' ⟨h1, R', K', hf'⟩ hpl
    rw [List.length_map, List.take_length] at R'
    exact ex_nil (hq st' R' K')

theorem exit_ok {n j f : Nat} {s : Int} {vs' : Value} {Q : MV → Store → Prop} (G : Gd w b₀ mean mg mb) (hc : c.OK (n + 5)) (hh : c.hd = none) (R : RepT A a st) (hj : j < A.n) (hf : a.first = some f) (hjf : j ≠ f) (hs : SC A.n a) (hv : VR (.int s) vs')
    (hq : ∀ st', RepT A (a.exitF A.n j f s) st' → Keep A st st' → Q .none st') :
    Ev w b₀ c env E (call (.ref 229) [.ref A.T, .ref (A.P j), vs']) VR lm st Q := by
  have hfn := R.fst f hf
  refine' ev_enterP G hc (by k_is) (by k_is) (.cons (vr_ref _) (.cons (vr_ref _) (.cons hv .nil))) (by rfl) (by rfl) (by decide) (by rfl) ?_
  intro c' hc' he' hh'
  refine ex_if (tr_cmp (ev_name rfl rfl (ev_attr (ev_name rfl rfl ?_))))
  refine gt_firstU G R ?_
  rw [hf]
  refine cmp_is_instU (R.p j hj) (R.p f hfn) ⟨_, rfl, ?_⟩
  (first | refine iteN (by simpa using fun e => hjf (R.injP hj hfn e)) ?_ | rw [if_neg (by simpa using fun e => hjf (R.injP hj hfn e))])
  refine ex_nil ?_
  refine ex_expr (ev_meth G (ev_name rfl rfl ⟨A.T, 274, A.TD, _, 215, rfl, R.t, R.td, nT_reparent _, mT_reparent, ev_args_cons (ev_name rfl rfl (ev_args_nil ?_))⟩))
  intro vs hvs; obtain ⟨v, rfl, hv'⟩ := all2_one hvs; cases hv'
  refine reparent_ok G hc' (hh'.trans hh) R hj hf hs fun st₁ R₁ K₁ => ?_
  have hs₁ : SC A.n (a.reparF A.n j f) := hs.repar
  have hgoal : a.exitF A.n j f s = match (((a.reparF A.n j f).zombF j s).ps j).parent with
    | none => (a.reparF A.n j f).zombF j s
    | some p => ((a.reparF A.n j f).zombF j s).wake A.n (((a.reparF A.n j f).zombF j s).ps p).pid := rfl
  rw [hgoal] at hq
  generalize a.reparF A.n j f = b at R₁ hs₁ hq
  refine ex_assignAttr (ev_global G rfl rfl (by k_is) (vr_str _ _) (ev_name rfl rfl ?_))
  refine sp_stateU .zombie G R₁ hj fun st₂ R₂ K₂ => ?_
  refine ex_assignAttr (ev_none (ev_name rfl rfl ?_))
  refine sp_nochanU G R₂ hj fun st₃ R₃ K₃ => ?_
  refine ex_assignAttr (ev_name rfl rfl (ev_name rfl rfl ?_))
  refine vr_r2 fun vv hv => ?_
  refine sp_status s G R₃ hj hv fun st₄ R₄ K₄ => ?_
  have K14 := ((K₁.trans K₂).trans K₃).trans K₄
  refine ex_if (tr_cmp (ev_attr (ev_name rfl rfl ?_)))
  refine gt_runningU G R₄ (ev_name rfl rfl ?_)
  refine cmp_is_optU R₄ R₄.run hj ⟨_, rfl, ?_⟩
  by_cases q : b.run = some j
  · refine (if_pos (show decide (b.run = some j) = true from by simpa using q)) ▸ ?_
    refine ex_assignAttr (ev_none (ev_name rfl rfl ?_))
    refine st_runningU none (fun _ e => by cases e) G R₄ fun st₅ R₅ K₄₅ => ex_nil ?_
    replace R₅ : RepT A (b.zombF j s) st₅ := R₅.cast (AT.ext' (by funext k; simp [AT.set, AT.zombF]; split <;> simp_all) rfl rfl rfl (by simp [AT.zombF, q]))
    have K₅ := K14.trans K₄₅
    have hpn := R₅.par j hj
    have hs₅ : SC A.n (b.zombF j s) := fun m hm e => by
      by_cases q : m = j
      · subst q; rw [show ((b.zombF m s).ps m) = _ from AT.set_self b m _] at e; cases e
      · rw [show ((b.zombF j s).ps m) = b.ps m from AT.set_ne _ _ q] at e ⊢; exact hs₁ m hm e
    generalize b.zombF j s = z at R₅ hq hpn hs₅
    refine ex_if (tr_cmp (ev_attr (ev_name rfl rfl ?_)))
    refine gp_parentU G R₅ hj (ev_none ?_)
    refine cmp_isnot_noneU ⟨_, rfl, ?_⟩
    rw [opt_isNone]
    cases hpar : (z.ps j).parent with
    | none =>
      (first | refine iteN (by simp) ?_ | rw [if_neg (by simp)])
      rw [hpar] at hq
      exact ex_nil (ex_nil (hq st₅ R₅ K₅))
    | some p =>
      (first | refine iteP (by simp) ?_ | rw [if_pos (by simp)])
      rw [hpar] at hq
      have hp := hpn p hpar
      refine ex_expr (ev_meth G (ev_name rfl rfl ⟨A.T, 274, A.TD, _, 257, rfl, R₅.t, R₅.td, nT_wakeup _, mT_wakeup, ev_args_cons (ev_meth G (ev_name rfl rfl ⟨A.T, 274, A.TD, _, 222, rfl, R₅.t, R₅.td, nT_channel_of _, mT_channel_of, ev_args_cons (ev_attr (ev_name rfl rfl ?_))⟩))⟩))
      refine gp_parentU G R₅ hj (ev_args_nil ?_)
      rw [hpar]
      refine all2_r1 ?_
      refine channel_ok G hc' R₅ hp fun l₃ hl₃ => ev_args_nil ?_
      refine all2_r1 ?_
      have X₃ := Ext.new (mo := .tuple [.str "child", .int (z.ps p).pid]) hl₃
      refine wakeup_ok G hc' (hh'.trans hh) (R₅.ext X₃) hs₅ (Store.set_self _ _ _) fun st₆ y R₆ K₆ => ?_
      exact ex_nil (ex_nil (hq st₆ R₆ ((K₅.trans X₃.keep).trans K₆)))
  · refine (if_neg (show ¬ decide (b.run = some j) = true from by simpa using q)) ▸ ?_
    refine ex_nil ?_
    have R₅ : RepT A (b.zombF j s) st₄ := R₄.cast (AT.ext' (by funext k; simp [AT.set, AT.zombF]; split <;> simp_all) rfl rfl rfl (by simp [AT.zombF, q, AT.set]))
    have K₅ := K14
    have hpn := R₅.par j hj
    have hs₅ : SC A.n (b.zombF j s) := fun m hm e => by
      by_cases q : m = j
      · subst q; rw [show ((b.zombF m s).ps m) = _ from AT.set_self b m _] at e; cases e
      · rw [show ((b.zombF j s).ps m) = b.ps m from AT.set_ne _ _ q] at e ⊢; exact hs₁ m hm e
    generalize b.zombF j s = z at R₅ hq hpn hs₅
    refine ex_if (tr_cmp (ev_attr (ev_name rfl rfl ?_)))
    refine gp_parentU G R₅ hj (ev_none ?_)
    refine cmp_isnot_noneU ⟨_, rfl, ?_⟩
    rw [opt_isNone]
    cases hpar : (z.ps j).parent with
    | none =>
      (first | refine iteN (by simp) ?_ | rw [if_neg (by simp)])
      rw [hpar] at hq
      exact ex_nil (ex_nil (hq st₄ R₅ K₅))
    | some p =>
      (first | refine iteP (by simp) ?_ | rw [if_pos (by simp)])
      rw [hpar] at hq
      have hp := hpn p hpar
      refine ex_expr (ev_meth G (ev_name rfl rfl ⟨A.T, 274, A.TD, _, 257, rfl, R₅.t, R₅.td, nT_wakeup _, mT_wakeup, ev_args_cons (ev_meth G (ev_name rfl rfl ⟨A.T, 274, A.TD, _, 222, rfl, R₅.t, R₅.td, nT_channel_of _, mT_channel_of, ev_args_cons (ev_attr (ev_name rfl rfl ?_))⟩))⟩))
      refine gp_parentU G R₅ hj (ev_args_nil ?_)
      rw [hpar]
      refine all2_r1 ?_
      refine channel_ok G hc' R₅ hp fun l₃ hl₃ => ev_args_nil ?_
      refine all2_r1 ?_
      have X₃ := Ext.new (mo := .tuple [.str "child", .int (z.ps p).pid]) hl₃
      refine wakeup_ok G hc' (hh'.trans hh) (R₅.ext X₃) hs₅ (Store.set_self _ _ _) fun st₆ y R₆ K₆ => ?_
      exact ex_nil (ex_nil (hq st₆ R₆ ((K₅.trans X₃.keep).trans K₆)))

theorem fork_ok {n j : Nat} {Q : MV → Store → Prop} {QE : Store → Prop} (G : Gd w b₀ mean mg mb) (hc : c.OK (n + 5)) (hh : c.hd = none) (R : RepT A a st) (hj : j < A.n) (hju : (a.ps j).state ≠ .unused)
    (hq : ∀ i, i < A.n → (a.ps i).state = .unused → (∀ k, k < i → (a.ps k).state ≠ .unused) → ∀ st', RepT A (a.forkF j i) st' → Keep A st st' → Q (.ref (A.P i)) st') (hx : (∀ i, i < A.n → (a.ps i).state ≠ .unused) → QE st) :
    EvX w b₀ c env (call (.ref 208) [.ref A.T, .ref (A.P j)]) VR lm st Q 52 QE := by
  refine' evX_enterD (vals' := [.ref A.T, .ref (A.P j), .none]) (mvs := [.ref A.T, .ref (A.P j), .none]) G hc (by k_is) (by k_is) (.cons (vr_ref _) (.cons (vr_ref _) (.cons rfl .nil))) (by intro s' X'; exact binds_K X' rfl (by k_is) rfl rfl rfl) (by rfl) (by decide) (by rfl) ?_
  intro c' hc' he' hh'
  refine exX_assign hc' he'.symm (evX_meth G fun E => ev_name rfl rfl ⟨A.T, 274, A.TD, _, 162, rfl, R.t, R.td, nT_new _, mT_new, ev_args_cons (ev_attr (ev_name rfl rfl ?_))⟩)
  refine vr_r ?_
  refine gp_name G R hj fun nm => ev_args_nil ?_
  refine all2_v1 fun v hv => ?_
  refine new_ok G hc' (hh'.trans hh) R hv (fun i hi hu hk st₁ R₁ K₁ => ExX.of fun E => ?_) hx
  have hq := hq i hi hu hk
  have hij : i ≠ j := fun e => hju (e ▸ hu)
  refine ex_tryOk fun E' => ?_
  refine ex_assignAttr (ev_ifexp (tr_cmp (ev_attr (ev_name rfl rfl ?_))))
  refine gp_spaceU G R₁ hj (ev_none ?_)
  refine cmp_is_noneU ⟨_, rfl, ?_⟩
  (first | refine iteP (by decide) ?_ | rw [if_pos (by decide)])
  refine ev_none (ev_name rfl rfl ?_)
  refine vr_r2 fun vv hv => ?_
  refine sp_space G R₁ hi hv fun st₂ R₂ K₂ => ex_nil ?_
  refine ex_assignAttr (ev_tcall G hc' he'.symm (by k_is) (PyProof.Rows.Boot.«list») (by decide) (ev_args_cons (ev_attr (ev_name rfl rfl ?_))))
  refine gp_registersU G R₂ hj fun r rs hr hl h10 => ev_args_nil ?_
  refine all2_r1 ?_
  refine call_listCopy hr (by rw [hl, sizeLine_eq]; omega) fun D hD => ev_name rfl rfl ?_
  refine vr_r2 fun vv hv => ?_
  have X₃ := Ext.new (mo := .list rs) hD
  have hD₃ := Store.set_self st₂ D (.list rs)
  have hDP : D ≠ A.PL := fun e => by rw [e, R₂.pl] at hD; cases hD
  generalize st₂.set D (.list rs) = st₃ at X₃ hD₃ ⊢
  have R₃ := R₂.ext X₃
  refine sp_registers G R₃ hi hD₃ hl h10 hv fun st₄ R₄ K₄ ⟨pv, hpv, hreg⟩ => ?_
  have hD₄ := R₃.kept K₄ hD₃ (by intro _ e; cases e)
  refine ex_assignSub (ev_int (ev_attr (ev_name rfl rfl ?_)))
  refine vr_r ?_
  refine rP_registers G (R₄.p i hi) hpv ?_
  rw [hreg]
  refine ev_global G rfl rfl (by k_is) (vr_int _ _) ?_
  refine vr_r3 fun vj vv hj' hv => ?_
  refine set_list hD₄ (by decide) (by rw [hl]; decide) (by decide) hj' hv ?_
  have R₅ := R₄.setL (us := rs.set (10 : Int).toNat (.int 0)) hD₄ hDP (by simp) (fun _ => by simp [hl])
  have K₅ : Keep A st₂ (st₄.set D (.list (rs.set (10 : Int).toNat (.int 0)))) := fun b mo e n m => by
    rw [Store.set_ne _ _ (fun q => by rw [q, hD] at e; cases e)]
    exact K₄ b mo (X₃ b mo e) n m
  generalize st₄.set D (.list (rs.set (10 : Int).toNat (.int 0))) = st₅ at R₅ K₅ ⊢
  refine ex_assignAttr (ev_attr (ev_name rfl rfl ?_))
  refine vr_r ?_
  refine gp_pc G R₅ hj fun pc => ev_name rfl rfl ?_
  refine vr_r2 fun vv hv => ?_
  refine sp_pc G R₅ hi hv fun st₆ R₆ K₆ => ?_
  refine ex_assignAttr (ev_name rfl rfl (ev_name rfl rfl ?_))
  refine vr_r2 fun vv hv => ?_
  refine sp_parent (some j) (fun k e => by cases e; exact hj) G R₆ hi hv fun st₇ R₇ K₇ => ?_
  refine ex_assignAttr (ev_ifexp (tr_cmp (ev_attr (ev_name rfl rfl ?_))))
  refine vr_r ?_
  refine gp_files G R₇ hj (ev_none ?_)
  refine cmp_is_noneU ⟨_, rfl, ?_⟩
  (first | refine iteP (by decide) ?_ | rw [if_pos (by decide)])
  refine ev_none (ev_name rfl rfl ?_)
  refine vr_r2 fun vv hv => ?_
  refine sp_files G R₇ hi hv fun st₈ R₈ K₈ => ?_
  refine ex_assignAttr (ev_attr (ev_name rfl rfl ?_))
  refine vr_r ?_
  refine gp_cwd G R₈ hj fun cwd => ev_name rfl rfl ?_
  refine vr_r2 fun vv hv => ?_
  refine sp_cwd G R₈ hi hv fun st₉ R₉ K₉ => ?_
  refine ex_expr (ev_meth G (ev_name rfl rfl ⟨A.T, 274, A.TD, _, 186, rfl, R₉.t, R₉.td, nT_ready _, mT_ready, ev_args_cons (ev_name rfl rfl (ev_args_nil ?_))⟩))
  refine all2_r1 ?_
  refine ready_ok' G hc' R₉ hi fun st' R' K' => ex_ret (ev_name rfl rfl (hq st' R' ?_))
  exact ((((((K₁.trans K₂).trans K₅).trans K₆).trans K₇).trans K₈).trans K₉).trans K'
end
end PartF9
section PartF10
open PySem PySem.W PyProof.Rows PySem.Spec PySem.Calls

def pv0 (p : MV) (r : Addr) : PV := ⟨p, .int 0, .str "unused", .none, .none, .ref r, .int 0, .none, .none, .str "", .none, .bool false, .int 0, .none, .int 0, .none, .none, .none, .int 0⟩
section
variable {w : World} {b₀ : Heap} {mean : ExcName → Option Value} {mg mb : Str → Option Value} {c : Cx} {env : Env} {E : Value → Shared → Prop} {lm : LM} {st : Store} {A : Ad} {a : AT} {i : Nat} {expr : Bool} {v : Value}

theorem process_ok {n : Nat} {p : Int} {Q : MV → Store → Prop} (G : Gd w b₀ mean mg mb) (hc : c.OK (n + 3)) (hv : VR (.int p) v)
    (hq : ∀ x d r st', st x = none → st d = none → x ≠ d → st' x = some (.inst 131 d) → st' d = some (.fields (pv0 (.int p) r).fs) → st' r = some (.list (List.replicate 32 (.int 0))) → Ext st st' → Q (.ref x) st') :
    Ev w b₀ c env E (call (.ref 131) [v]) VR lm st Q := by
  refine ev_make (fI := 92) G (by k_is) (by k_is) (by k_is) fun x d hx hd hxd => ?_
  have X0 : Ext st ((st.set d (.fields [])).set x (.inst 131 d)) := (Ext.new hd).trans (Ext.new (by rw [Store.set_ne _ _ hxd]; exact hx))
  have h1 := Store.set_self (st.set d (.fields [])) x (.inst 131 d)
  have h2 : ((st.set d (.fields [])).set x (.inst 131 d)) d = some (.fields []) := by rw [Store.set_ne _ _ (Ne.symm hxd), Store.set_self]
  generalize (st.set d (.fields [])).set x (.inst 131 d) = st₁ at X0 h1 h2 ⊢
  have hcu : c.up.OK (n + 2) := hc.up
  refine' evC_enterP G hcu (by k_is) (by k_is) (.cons (vr_ref _) (.cons hv .nil)) (by rfl) (by rfl) (by decide) (by rfl) ?_
  intro c' E' hc' he' hh'
  refine ex_assignAttr (ev_name rfl rfl (ev_name rfl rfl ?_))
  refine ev_setattrU G h1 h2 aP_place (by show (1 : Nat) ≤ 100; decide) ?_
  have e1 : (st₁.set d (.fields (fput "place" (.int p) []))) x = some (.inst 131 d) := by rw [Store.set_ne _ _ hxd]; exact h1
  have e2 := Store.set_self st₁ d (.fields (fput "place" (.int p) []))
  refine ex_expr (ev_meth G (ev_name rfl rfl ⟨x, 131, d, _, 99, rfl, e1, e2, rfl, mP_clear, ev_args_nil ?_⟩))
  refine all2_r0 ?_
  refine EvC.ev (clear_raw G hc' e1 e2 (by show (1 : Nat) ≤ 60; decide) fun st' r hf K hr => ex_nil ⟨rfl, hq x d r st' hx hd hxd (K _ _ e1 hxd) hf hr fun b mo e => K b mo ?_ ?_⟩)
  · rw [Store.set_ne _ _ (fun q => by rw [q, hd] at e; cases e)]; exact X0 b mo e
  · intro q; rw [q, hd] at e; cases e

theorem table_ok {n m : Nat} {Q : MV → Store → Prop} (G : Gd w b₀ mean mg mb) (hc : c.OK (n + 6)) (hh : c.hd = none) (hv : VR (.int (m : Nat)) v) (hm : 1 ≤ m) (hm' : m ≤ 100)
    (hq : ∀ A st', A.n = m → RepT A ⟨fun _ => {}, 1, m - 1, none, none⟩ st' → Ext st st' → Q (.ref A.T) st') :
    Ev w b₀ c env E (call (.ref 274) [v]) VR lm st Q := by
  refine ev_make (fI := 147) G (by k_is) (by k_is) (by k_is) fun T TD hT hTD hne => ?_
  have X0 : Ext st ((st.set TD (.fields [])).set T (.inst 274 TD)) := (Ext.new hTD).trans (Ext.new (by rw [Store.set_ne _ _ hne]; exact hT))
  have h1 := Store.set_self (st.set TD (.fields [])) T (.inst 274 TD)
  have h2 : ((st.set TD (.fields [])).set T (.inst 274 TD)) TD = some (.fields []) := by rw [Store.set_ne _ _ (Ne.symm hne), Store.set_self]
  generalize (st.set TD (.fields [])).set T (.inst 274 TD) = st₁ at X0 h1 h2 ⊢
  have hcu : c.up.OK (n + 5) := hc.up
  refine' evC_enterP G hcu (by k_is) (by k_is) (.cons (vr_ref _) (.cons hv .nil)) (by rfl) (by rfl) (by decide) (by rfl) ?_
  intro c' E' hc' he' hh'
  refine ex_assignAttr (ev_compRange (cl := []) (lmF := fun _ => none) G hc' he'.symm (hh'.trans hh) (fun x a e => by cases e) rfl (by decide) rfl (by decide) rfl (fun _ _ e => by cases e) (by k_is) (ev_args_cons (ev_name rfl rfl (ev_args_nil ?_))))
  refine ⟨m, rfl, by omega, fun k acc st' => Ext st₁ st' ∧ ∃ P D : Nat → Addr, acc = (List.range k).map (fun i => .ref (P i)) ∧ (∀ i, i < k → st' (P i) = some (.inst 131 (D i)) ∧ (∃ r, st' (D i) = some (.fields (pv0 (.int i) r).fs) ∧ st' r = some (.list (List.replicate 32 (.int 0)))) ∧ st₁ (D i) = none) ∧ ∀ i j, i < k → j < k → D i = D j → i = j,
    ⟨.refl _, fun _ => 0, fun _ => 0, rfl, fun i hi => absurd hi (Nat.not_lt_zero _), fun i j hi => absurd hi (Nat.not_lt_zero _)⟩, ?_, ?_⟩
  · rintro k acc st' C E'' hk ⟨X, P, D, rfl, hP, hinj⟩
    refine ct_nil ?_
    (first | refine iteP rfl ?_ | rw [if_pos rfl])
    refine ev_call G rfl rfl (by k_is) (by k_is) (ev_args_cons (ev_name rfl (by unfold lmC; rw [if_pos rfl]) (ev_args_nil ?_)))
    refine all2_v1 fun v hv => ?_
    refine process_ok G hc' hv fun x d r st'' hx hd hxd e1 e2 e3 X' => ⟨X.trans X', fun j => if j = k then x else P j, fun j => if j = k then d else D j, ?_, ?_, ?_⟩
    · rw [List.range_succ, List.map_append]
      congr 1
      · refine List.map_congr_left fun j hj => ?_
        have : j ≠ k := Nat.ne_of_lt (List.mem_range.mp hj)
        simp [this]
      · simp
    · intro j hj
      by_cases q : j = k
      · subst q
        simp only [↓reduceIte]
        refine ⟨e1, ⟨r, e2, e3⟩, ?_⟩
        cases q' : st₁ d with
        | none => rfl
        | some mo => rw [X d mo q'] at hd; cases hd
      · obtain ⟨a1, ⟨r', a2, a3⟩, a4⟩ := hP j (by omega)
        simp only [if_neg q]
        exact ⟨X' _ _ a1, ⟨r', X' _ _ a2, X' _ _ a3⟩, a4⟩
    · intro i j hi hj e
      have old : ∀ j, j < k + 1 → j ≠ k → D j ≠ d := fun j hj q e => by
        obtain ⟨_, ⟨r', a2, _⟩, _⟩ := hP j (by omega)
        rw [e, hd] at a2; cases a2
      by_cases q1 : i = k <;> by_cases q2 : j = k
      · rw [q1, q2]
      · simp only [if_pos q1, if_neg q2] at e; exact absurd e.symm (old j hj q2)
      · simp only [if_neg q1, if_pos q2] at e; exact absurd e (old i hi q1)
      · simp only [if_neg q1, if_neg q2] at e; exact hinj i j (by omega) (by omega) e
  · rintro PL acc st' ⟨X, P, D, rfl, hP, hinj⟩ hPL
    have X₂ := Ext.new (mo := .list ((List.range m).map fun i => .ref (P i))) hPL
    have hpl := Store.set_self st' PL (.list ((List.range m).map fun i => .ref (P i)))
    generalize st'.set PL (.list ((List.range m).map fun i => .ref (P i))) = st₂ at X₂ hpl ⊢
    have g1 : st₂ T = some (.inst 274 TD) := X₂ _ _ (X _ _ h1)
    have g2 : st₂ TD = some (.fields []) := X₂ _ _ (X _ _ h2)
    refine ev_name rfl rfl ?_
    refine ev_setattrU G g1 g2 aT_places (by show (1 : Nat) ≤ 100; decide) ?_
    have T2 : T ≠ TD := hne
    have gT : ∀ fs, (st₂.set TD (.fields fs)) T = some (.inst 274 TD) := fun fs => by rw [Store.set_ne _ _ T2]; exact g1
    refine ex_assignAttr (ev_int (ev_name rfl rfl ?_))
    refine ev_setattrU G (gT _) (Store.set_self _ _ _) aT_next_pid (by show (2 : Nat) ≤ 100; decide) ?_
    rw [Store.set_set]
    refine ex_assignAttr (ev_binop (ev_name rfl rfl (ev_int ?_)))
    refine op_subU (ev_name rfl rfl ?_)
    refine ev_setattrU G (gT _) (Store.set_self _ _ _) aT_last (by show (3 : Nat) ≤ 100; decide) ?_
    rw [Store.set_set]
    refine ex_assignAttr (ev_none (ev_name rfl rfl ?_))
    refine ev_setattrU G (gT _) (Store.set_self _ _ _) aT_first (by show (4 : Nat) ≤ 100; decide) ?_
    rw [Store.set_set]
    refine ex_assignAttr (ev_none (ev_name rfl rfl ?_))
    refine ev_setattrU G (gT _) (Store.set_self _ _ _) aT_running (by show (5 : Nat) ≤ 100; decide) ?_
    rw [Store.set_set]
    refine ex_nil ⟨rfl, hq ⟨m, T, TD, PL, P, D⟩ _ rfl ?_ ?_⟩
    · have ne : ∀ {b mo fs}, st₂ b = some mo → (∀ fs, mo ≠ .fields fs) → (st₂.set TD (.fields fs)) b = some mo := fun {b mo fs} e k => by
        rw [Store.set_ne]; · exact e
        · intro q; rw [q, g2] at e; cases e; exact k _ rfl
      have dne : ∀ i, i < m → D i ≠ TD := fun i hi e => by
        (first | refine e0a3 (fun _ _ a4 => ?_) (hP i hi) | refine e1a2 (fun _ _ a4 => ?_) (hP i hi) | refine e2a1 (fun _ _ a4 => ?_) (hP i hi) | obtain ⟨_, _, a4⟩ := hP i hi)
        rw [e, h2] at a4; cases a4
      refine ⟨ne g1 (by intro _ e; cases e), ?_, ne hpl (by intro _ e; cases e), fun i hi => ne (X₂ _ _ (hP i hi).1) (by intro _ e; cases e), fun i hi => ?_, hinj, dne, (fun i hi j e => by cases e), (fun j e => by cases e), (fun j e => by cases e), hm'⟩
      · rw [Store.set_self]
        show some (MO.fields [("places", .ref PL), ("next_pid", .int 1), ("last", .int ((m : Int) - 1)), ("first", .none), ("running", .none)]) = some (MO.fields [("places", .ref PL), ("next_pid", .int 1), ("last", .int ((m - 1 : Nat) : Int)), ("first", .none), ("running", .none)])
        rw [show ((m - 1 : Nat) : Int) = (m : Int) - 1 by omega]
      · obtain ⟨_, ⟨r, a2, a3⟩, _⟩ := hP i hi
        refine ⟨pv0 (.int i) r, by rw [Store.set_ne _ _ (dne i hi)]; exact X₂ _ _ a2, ⟨rfl, rfl, rfl, rfl, rfl, rfl, rfl, rfl, ⟨0, rfl⟩, ⟨r, _, rfl, ne (X₂ _ _ a3) (by intro _ e; cases e), by simp, by simp⟩, fun p e => by cases e⟩⟩
    · intro b mo e
      rw [Store.set_ne _ _ (fun q => by rw [q, hTD] at e; cases e)]
      exact X₂ _ _ (X _ _ (X0 b mo e))
end
end PartF10
section PartL1
open PySem PySem.W PyProof.Rows PySem.Spec PySem.Calls

theorem fmod_bounds (a : Int) {b : Int} (h : 0 < b) : 0 ≤ a.fmod b ∧ a.fmod b < b := by
  rw [Int.fmod_eq_emod_of_nonneg _ (by omega)]
  exact ⟨Int.emod_nonneg _ (by omega), Int.emod_lt_of_pos _ h⟩
theorem Store.set_id {st : Store} {l : Addr} {mo : MO} (h : st l = some mo) : st.set l mo = st := by
  funext b; unfold Store.set; split
  · rename_i e; rw [e, h]
  · rfl

section
variable {w : World} {b₀ : Heap} {mean : ExcName → Option Value} {mg mb : Str → Option Value} {c : Cx} {env : Env} {E : Value → Shared → Prop} {lm : LM} {st : Store} {A : Ad} {a : AT} {i : Nat} {expr : Bool} {v : Value}

theorem In.recast {h : Heap} {m : Str → Option Value} {l : Addr} {mo mo' : MO} (I : In w b₀ c st h m) (hl : st l = some mo) (ho : ∀ o, OR w mo o → OR w mo' o) : In w b₀ c (st.set l mo') h m := by
  refine ⟨I.fr, fun b x e => ?_, I.ff, fun e he L' hf => ⟨?_, (I.nf e he L' hf).2⟩, I.big⟩
  · by_cases q : b = l
    · subst q; rw [Store.set_self] at e; cases e
      (first | refine e0a4 (fun o h1 h2 h3 => ?_) (I.rep b _ hl) | refine e1a3 (fun o h1 h2 h3 => ?_) (I.rep b _ hl) | refine e2a2 (fun o h1 h2 h3 => ?_) (I.rep b _ hl) | obtain ⟨o, h1, h2, h3⟩ := I.rep b _ hl)
      exact ⟨o, h1, ho o h2, h3⟩
    · rw [Store.set_ne _ _ q] at e; exact I.rep b x e
  · rw [Store.set_ne]; · exact (I.nf e he L' hf).1
    · intro q; rw [← q, (I.nf e he L' hf).1] at hl; cases hl
theorem Step.recastL {st' : Store} {h h' : Heap} {l : Addr} {mo mo' : MO} (hl : st l = some mo) (T : Step c (st.set l mo') h st' h') : Step c st h st' h' := fun b o e n q =>
  T b o e (by rw [Store.set_ne]; · exact n
              · intro z; rw [z, hl] at n; cases n) q
theorem Step.recastR {st' : Store} {h h' : Heap} {l : Addr} {mo mo' : MO} (hl : st l = some mo) (T : Step c st h st' h') : Step c st h (st'.set l mo') h' := fun b o e n q => by
  obtain ⟨n', z⟩ := T b o e n q
  refine ⟨?_, z⟩
  rw [Store.set_ne]; · exact n'
  · intro y; rw [y, hl] at n; cases n
theorem Sees.recast {h : Heap} {m : Str → Option Value} {l : Addr} {mo mo' : MO} (hl : st l = some mo) (S : Sees c env st h m lm) : Sees c env (st.set l mo') h m lm := by
  have ne : ∀ b, st b = none → (st.set l mo') b = none := fun b n => by
    rw [Store.set_ne]; · exact n
    · intro z; rw [z, hl] at n; cases n
  intro x mv e
  (first | refine e0a3 (fun v hv z => ?_) (S x mv e) | refine e1a2 (fun v hv z => ?_) (S x mv e) | refine e2a1 (fun v hv z => ?_) (S x mv e) | obtain ⟨v, hv, z⟩ := S x mv e)
  refine ⟨v, hv, ?_⟩
  rcases z with z | ⟨k, hL, hs, r⟩ | ⟨k, a, h1, h2, h3, r⟩
  · exact .inl z
  · exact .inr (.inl ⟨k, hL, ne _ hs, r⟩)
  · exact .inr (.inr ⟨k, a, h1, h2, ne _ h3, r⟩)
/-- an object looked at in another way from here on -/
theorem Ex.recast {t : Sem Flow} {l : Addr} {mo mo' : MO} {Q : MF → LM → Store → Prop} (hl : st l = some mo) (ho : ∀ o, OR w mo o → OR w mo' o) (h : Ex w b₀ c env E t lm (st.set l mo') Q) : Ex w b₀ c env E t lm st Q :=
  fun s m P I S k => h s m P (I.recast hl ho) (S.recast hl) fun f x h' tk m' st' lm' I' T S' hr q => k f x h' tk m' st' lm' I' (T.recastL hl) S' hr q
/-- a list that is the caller's own, looked at as a list while t runs -/
theorem Ev.plist {α β : Type} {t : Sem α} {R : β → α → Prop} {l : Addr} {vs : List MV} {Q : β → Store → Prop} (hl : st l = some (.plist vs))
    (h : Ev w b₀ c env E t R lm (st.set l (.list vs)) fun x st' => ∃ us, st' l = some (.list us) ∧ Q x (st'.set l (.plist us))) : Ev w b₀ c env E t R lm st Q :=
  fun s m P I S k => h s m P (I.recast hl fun o x => x) (S.recast hl) fun v x h' tk st' I' T hr ⟨us, h1, q⟩ => k v x h' tk _ (I'.recast (mo' := .plist us) h1 fun o x => x) ((T.recastL hl).recastR hl) hr q

theorem call_lenP {l : Addr} {vs : List MV} {Q : MV → Store → Prop} (hl : st l = some (.plist vs)) (hs : vs.length ≤ sizeLine) (q : Q (.int vs.length) st) : Ev w b₀ c env E (call (.builtin "len") [.ref l]) VR lm st Q :=
  Ev.plist hl (call_lenList (Store.set_self _ _ _) hs ⟨vs, Store.set_self _ _ _, by rw [Store.set_set, Store.set_id hl]; exact q⟩)
theorem call_popP {l : Addr} {v : MV} {vs : List MV} {vi : Value} {Q : MV → Store → Prop} (hl : st l = some (.plist (v :: vs))) (hs : (v :: vs).length ≤ sizeLine) (hi : VR (.int 0) vi) (q : Q v (st.set l (.plist vs))) :
    Ev w b₀ c env E (call (.builtin "list.pop") [.ref l, vi]) VR lm st Q :=
  Ev.plist hl (call_pop0 (Store.set_self _ _ _) hs hi ⟨vs, Store.set_self _ _ _, by rw [Store.set_set, Store.set_set]; exact q⟩)
theorem call_appendP {l : Addr} {vs : List MV} {v : MV} {x : Value} {Q : MV → Store → Prop} (hl : st l = some (.plist vs)) (hs : vs.length ≤ sizeLine) (hx : VR v x) (q : Q .none (st.set l (.plist (vs ++ [v])))) :
    Ev w b₀ c env E (call (.builtin "list.append") [.ref l, x]) VR lm st Q :=
  Ev.plist hl (call_append (Store.set_self _ _ _) hs hx ⟨_, Store.set_self _ _ _, by rw [Store.set_set, Store.set_set]; exact q⟩)
theorem set_plist {l : Addr} {vs : List MV} {k : Int} {v : MV} {vi x : Value} {Q : Unit → Store → Prop} (hl : st l = some (.plist vs)) (h0 : 0 ≤ k) (hk : k < vs.length) (h63 : k < 2 ^ 63) (hi : VR (.int k) vi) (hx : VR v x) (q : Q () (st.set l (.plist (vs.set k.toNat v)))) :
    Ev w b₀ c env E (setItem (.ref l) vi x) (fun (_ : Unit) _ => True) lm st Q :=
  Ev.plist hl (set_list (Store.set_self _ _ _) h0 hk h63 hi hx ⟨_, Store.set_self _ _ _, by rw [Store.set_set, Store.set_set]; exact q⟩)
theorem op_addPList {l b : Addr} {vs us : List MV} {vl vb : Value} {Q : MV → Store → Prop} (hvl : VR (.ref l) vl) (hvb : VR (.ref b) vb) (hl : st l = some (.plist vs)) (hb : st b = some (.list us)) (hs : vs.length + us.length ≤ sizeLine) (q : ∀ D, st D = none → Q (.ref D) (st.set D (.list (vs ++ us)))) :
    Ev w b₀ c env E (binaryOp .Add vl vb) VR lm st Q := by
  have ne : b ≠ l := fun e => by rw [e, hl] at hb; cases hb
  refine Ev.plist hl (op_addList hvl hvb (Store.set_self _ _ _) (by rw [Store.set_ne _ _ ne]; exact hb) hs fun D hD => ?_)
  have nD : D ≠ l := fun e => by rw [e, Store.set_self] at hD; cases hD
  rw [Store.set_ne _ _ nD] at hD
  refine ⟨vs, by rw [Store.set_ne _ _ (Ne.symm nD), Store.set_self], ?_⟩
  have e : ((st.set l (.list vs)).set D (.list (vs ++ us))).set l (.plist vs) = st.set D (.list (vs ++ us)) := by
    funext x; unfold Store.set
    by_cases q1 : x = l
    · subst q1; simp [Ne.symm nD, hl]
    · simp [q1]
  rw [e]; exact q D hD
theorem ev_subPList {value slice : Expr} {pos : Pos} {Q : MV → Store → Prop} (h : Ev w b₀ c env E (eval value env) VR lm st fun o st₁ => Ev w b₀ c env E (eval slice env) VR lm st₁ fun i st₂ =>
      ∃ l vs k x, o = .ref l ∧ i = .int k ∧ st₂ l = some (.plist vs) ∧ 0 ≤ k ∧ k < 2 ^ 63 ∧ vs[k.toNat]? = some x ∧ Q x st₂)
    (hs : ∀ o i, subscripted slice false o i = operate [o, i] (getItem o i) := by intro _ _; with_unfolding_all rfl) :
    Ev w b₀ c env E (eval (.Subscript value slice pos) env) VR lm st Q :=
  ev_subscript (h.mono fun o st₁ h => h.mono fun i st₂ ⟨l, vs, k, x, ho, hi, hl, h0, h63, hx, q⟩ => fun vo vi hvo hvi s m P I S K => by
    subst ho; subst hi; cases hvo; obtain ⟨t, rfl⟩ := hvi
    obtain ⟨ol, hol, ⟨its, nl, rfl, hall⟩, _⟩ := I.rep l _ hl
    (first | refine e0a3 (fun v hv hr => ?_) (hall.get hx) | refine e1a2 (fun v hv hr => ?_) (hall.get hx) | refine e2a1 (fun v hv hr => ?_) (hall.get hx) | obtain ⟨v, hv, hr⟩ := hall.get hx)
    have hL : s.heap.IsList l its := ⟨_, hol, rfl, nl, rfl⟩
    exact tail_any hL.typeIs PySem.F.slot_list_getitem.lookup (wpAny_getItem_list hL h0 h63 (by rw [← Array.getElem?_toList]; exact hv) (K v x s.heap s.toks st₂ I (Step.refl _ _ _) hr q)) (hs _ _))
theorem or_plist {vs : List MV} (ob : Obj) (h : OR w (.plist vs) ob) : ob.cls = .type "list" ∧ ob.dict = none := by obtain ⟨its, n, rfl, _⟩ := h; exact ⟨rfl, rfl⟩

theorem op_fdiv2 {a : Int} {va vb : Value} {Q : MV → Store → Prop} (ha : VR (.int a) va) (hb : VR (.int 2) vb) (h : Q (.int (a.fdiv 2)) st) : Ev w b₀ c env E (binaryOp .FloorDiv va vb) VR lm st Q :=
  op_fdiv ha hb (by decide) (by unfold Builtin.divisionGoesByPylong; show (decide (_ > 300) && _) = false; rw [decide_eq_false (by decide), Bool.false_and]) h
theorem op_fdiv2U {a : Int} {Q : MV → Store → Prop} (h : Q (.int (a.fdiv 2)) st) : ∀ va vb, VR (.int a) va → VR (.int 2) vb → Ev w b₀ c env E (binaryOp .FloorDiv va vb) VR lm st Q := fun va vb ha hb => op_fdiv2 ha hb h

structure Box (bx b0 : Addr) (st : Store) : Prop where
  ex : ∃ (ns : List Int) (z : Int), st bx = some (.plist [.ref b0, .int z]) ∧ st b0 = some (.plist (ns.map MV.int)) ∧ ns.length ≤ 60
  ne : bx ≠ b0
def BExt (bx b0 : Addr) (st st' : Store) : Prop := ∀ b mo, st b = some mo → b ≠ bx → b ≠ b0 → st' b = some mo
theorem BExt.trans {bx b0 : Addr} {st st₁ st₂ : Store} (h : BExt bx b0 st st₁) (h' : BExt bx b0 st₁ st₂) : BExt bx b0 st st₂ := fun b mo e n m => h' b mo (h b mo e n m) n m
theorem Ext.bext {bx b0 : Addr} {st st' : Store} (h : Ext st st') : BExt bx b0 st st' := fun b mo e _ _ => h b mo e

theorem take_ok {n : Nat} {bx b0 : Addr} {m : Int} {vm : Value} {Q : MV → Store → Prop} (G : Gd w b₀ mean mg mb) (hc : c.OK (n + 1)) (B : Box bx b0 st) (hm : VR (.int m) vm) (h0 : 0 < m)
    (hq : ∀ r st', 0 ≤ r → r < m → Box bx b0 st' → BExt bx b0 st st' → Q (.int r) st') :
    Ev w b₀ c env E (call (.ref 285) [.ref bx, vm]) VR lm st Q := by
  obtain ⟨⟨ns, z, h1, h2, h3⟩, hne⟩ := B
  refine' ev_enterP G hc (by k_is) (by k_is) (.cons (vr_ref _) (.cons hm .nil)) (by rfl) (by rfl) (by decide) (by rfl) ?_
  intro c' hc' he' hh'
  refine ex_if (tr_cmp (ev_bcall G hc' he'.symm (by k_is) boot_len (by decide) (ev_args_cons (ev_subPList (ev_name rfl rfl (ev_int ⟨bx, _, 0, _, rfl, rfl, h1, by decide, by decide, rfl, ev_args_nil ?_⟩))))))
  refine all2_r1 ?_
  refine call_lenP h2 (by rw [sizeLine_eq, List.length_map]; omega) (ev_int ?_)
  refine cmp_gt_intU ⟨_, rfl, ?_⟩
  rw [List.length_map]
  cases ns with
  | nil =>
    (first | refine iteN (by simp) ?_ | rw [if_neg (by simp)])
    refine ex_assignSub (ev_binop (ev_subPList (ev_name rfl rfl (ev_int ⟨bx, _, 1, _, rfl, rfl, h1, by decide, by decide, rfl, ev_int ?_⟩))))
    refine op_addU (ev_name rfl rfl (ev_int ?_))
    refine vr_r3 fun vj vv hj hv => ?_
    refine set_plist h1 (by decide) (by show (1 : Int) < ((2 : Nat) : Int); decide) (by decide) hj hv ?_
    have k1 := Store.set_self st bx (.plist ([MV.ref b0, .int z].set (1 : Int).toNat (.int (z + 1))))
    have k2 : (st.set bx (.plist ([MV.ref b0, .int z].set (1 : Int).toNat (.int (z + 1))))) b0 = some (.plist ([].map MV.int)) := by rw [Store.set_ne _ _ (Ne.symm hne)]; exact h2
    have X : BExt bx b0 st (st.set bx (.plist ([MV.ref b0, .int z].set (1 : Int).toNat (.int (z + 1))))) := fun b mo e n m => by rw [Store.set_ne _ _ n]; exact e
    generalize st.set bx (.plist ([MV.ref b0, .int z].set (1 : Int).toNat (.int (z + 1)))) = st₁ at k1 k2 X ⊢
    refine ex_assign hc' he'.symm (ev_binop (ev_binop (ev_int (ev_subPList (ev_name rfl rfl (ev_int ⟨bx, _, 1, _, rfl, rfl, k1, by decide, by decide, rfl, ?_⟩))))))
    refine op_mulU (.of_left (by decide)) (ev_binop (ev_subPList (ev_name rfl rfl (ev_int ⟨bx, _, 1, _, rfl, rfl, k1, by decide, by decide, rfl, ev_int ?_⟩))))
    refine op_fdiv2U ?_
    refine op_addU (ex_nil ?_)
    refine ex_ret (ev_binop (ev_name rfl rfl (ev_name rfl rfl ?_)))
    exact op_modU (by omega) (hq _ st₁ (fmod_bounds _ h0).1 (fmod_bounds _ h0).2 ⟨⟨[], _, k1, k2, by simp⟩, hne⟩ X)
  | cons x ns =>
    (first | refine iteP (by simp) ?_ | rw [if_pos (by simp)])
    refine ex_assign hc' he'.symm (ev_bmeth PySem.F.plainAttrs_list PySem.F.slot_list_pop (PySem.F.type_list_pop) (ev_subPList (ev_name rfl rfl (ev_int ⟨bx, _, 0, _, rfl, rfl, h1, by decide, by decide, rfl, b0, _, rfl, h2, or_plist, ev_args_cons (ev_int (ev_args_nil ?_))⟩))))
    refine all2_v1 fun v hv => ?_
    refine call_popP h2 (by rw [sizeLine_eq]; simp at h3 ⊢; omega) hv (ex_nil ?_)
    refine ex_ret (ev_binop (ev_name rfl rfl (ev_name rfl rfl ?_)))
    refine op_modU (by omega) (hq _ _ (fmod_bounds _ h0).1 (fmod_bounds _ h0).2 ⟨⟨ns, z, by rw [Store.set_ne _ _ hne]; exact h1, Store.set_self _ _ _, by simp at h3; omega⟩, hne⟩ fun b mo e n m => by rw [Store.set_ne _ _ m]; exact e)
end
end PartL1
section PartL2
open PySem PySem.W PyProof.Rows PySem.Spec PySem.Calls

inductive Deed where
  | turn | wait | kill (p : Int) | exit (s : Int) | fork (ds : List Deed)

mutual
inductive DeedAt (st : Store) : MV → Deed → Prop
  | turn {t : Addr} : st t = some (.tuple [.str "turn", .none]) → DeedAt st (.ref t) .turn
  | wait {t : Addr} : st t = some (.tuple [.str "wait", .none]) → DeedAt st (.ref t) .wait
  | kill {t : Addr} {p : Int} : st t = some (.tuple [.str "kill", .int p]) → DeedAt st (.ref t) (.kill p)
  | exit {t : Addr} {s : Int} : st t = some (.tuple [.str "exit", .int s]) → DeedAt st (.ref t) (.exit s)
  | fork {t l : Addr} {vs : List MV} {ds : List Deed} : st t = some (.tuple [.str "fork", .ref l]) → st l = some (.list vs) → DL st vs ds → DeedAt st (.ref t) (.fork ds)
inductive DL (st : Store) : List MV → List Deed → Prop
  | nil : DL st [] []
  | cons {v : MV} {d : Deed} {vs : List MV} {ds : List Deed} : DeedAt st v d → DL st vs ds → DL st (v :: vs) (d :: ds)
end
def PlanAt (st : Store) (l : Addr) (ds : List Deed) : Prop := ∃ vs, st l = some (.list vs) ∧ DL st vs ds

/-- lists and tuples stay -/
def LT (st st' : Store) : Prop := (∀ b vs, st b = some (.list vs) → st' b = some (.list vs)) ∧ ∀ b vs, st b = some (.tuple vs) → st' b = some (.tuple vs)
theorem LT.trans {st st₁ st₂ : Store} (h : LT st st₁) (h' : LT st₁ st₂) : LT st st₂ := ⟨fun b vs e => h'.1 b vs (h.1 b vs e), fun b vs e => h'.2 b vs (h.2 b vs e)⟩
theorem Ext.lt {st st' : Store} (h : Ext st st') : LT st st' := ⟨fun b vs e => h _ _ e, fun b vs e => h _ _ e⟩
mutual
theorem DeedAt.mono {st st' : Store} (T : LT st st') {v : MV} {d : Deed} : DeedAt st v d → DeedAt st' v d
  | .turn h => .turn (T.2 _ _ h)
  | .wait h => .wait (T.2 _ _ h)
  | .kill h => .kill (T.2 _ _ h)
  | .exit h => .exit (T.2 _ _ h)
  | .fork h h' k => .fork (T.2 _ _ h) (T.1 _ _ h') (DL.mono T k)
theorem DL.mono {st st' : Store} (T : LT st st') {vs : List MV} {ds : List Deed} : DL st vs ds → DL st' vs ds
  | .nil => .nil
  | .cons h k => .cons (DeedAt.mono T h) (DL.mono T k)
end
theorem PlanAt.mono {st st' : Store} (T : LT st st') {l : Addr} {ds : List Deed} (h : PlanAt st l ds) : PlanAt st' l ds := let ⟨vs, h1, h2⟩ := h; ⟨vs, T.1 _ _ h1, h2.mono T⟩
theorem DL.append {st : Store} : ∀ {vs us : List MV} {ds es : List Deed}, DL st vs ds → DL st us es → DL st (vs ++ us) (ds ++ es)
  | _, _, _, _, .nil, k => k
  | _, _, _, _, .cons h k', k => .cons h (k'.append k)
theorem DL.length {st : Store} : ∀ {vs : List MV} {ds : List Deed}, DL st vs ds → vs.length = ds.length
  | _, _, .nil => rfl
  | _, _, .cons _ k => by simp [k.length]

def Small (x : Deed) : Prop := x = .turn ∨ x = .wait ∨ ∃ p, x = .kill p ∧ 0 ≤ p ∧ p < 9
def PlanOk : Nat → List Deed → Prop
  | 0, ds => ∃ body s, ds = body ++ [.exit s] ∧ body.length ≤ 2 ∧ ∀ x ∈ body, Small x
  | d + 1, ds => ∃ body s, ds = body ++ [.exit s] ∧ body.length ≤ d + 3 ∧ ∀ x ∈ body, Small x ∨ ∃ p, x = .fork p ∧ PlanOk d p
def Item : Nat → Deed → Prop
  | 0, x => Small x
  | d + 1, x => Small x ∨ ∃ p, x = .fork p ∧ PlanOk d p
theorem planOk_of {d : Nat} {body : List Deed} {s : Int} (h : body.length ≤ d + 2) (k : ∀ x ∈ body, Item d x) : PlanOk d (body ++ [.exit s]) := by
  cases d with
  | zero => exact ⟨body, s, rfl, h, k⟩
  | succ d => exact ⟨body, s, rfl, h, k⟩
theorem item_small {d : Nat} {x : Deed} (h : Small x) : Item d x := by cases d with
  | zero => exact h
  | succ d => exact .inl h

def PJ (bx b0 D : Addr) (d : Nat) (st : Store) (k : Nat) (lm' : LM) (st' : Store) : Prop := lm' "box" = some (.ref bx) ∧ lm' "deep" = some (.int d) ∧ lm' "deeds" = some (.ref D) ∧ Box bx b0 st' ∧ BExt bx b0 st st' ∧ ∃ vs body, st' D = some (.plist vs) ∧ DL st' vs body ∧ body.length = k ∧ ∀ x ∈ body, Item d x
section
variable {w : World} {b₀ : Heap} {mean : ExcName → Option Value} {mg mb : Str → Option Value} {c : Cx} {env : Env} {E : Value → Shared → Prop} {lm : LM} {st : Store} {A : Ad} {a : AT} {i : Nat} {expr : Bool} {v : Value}

theorem Box.bext {bx b0 : Addr} {st st' : Store} (B : Box bx b0 st) (X : Ext st st') : Box bx b0 st' := by
  obtain ⟨⟨ns, z, h1, h2, h3⟩, hne⟩ := B
  exact ⟨⟨ns, z, X _ _ h1, X _ _ h2, h3⟩, hne⟩
theorem BExt.lt {bx b0 : Addr} {st st' : Store} (B : Box bx b0 st) (X : BExt bx b0 st st') : LT st st' := by
  obtain ⟨⟨ns, z, h1, h2, h3⟩, hne⟩ := B
  refine ⟨fun b vs e => X _ _ e ?_ ?_, fun b vs e => X _ _ e ?_ ?_⟩ <;> intro q <;> rw [q] at e <;> simp_all

def PlanSpec (w : World) (b₀ : Heap) (bx b0 : Addr) (d : Nat) : Prop := ∀ {n : Nat} {c : Cx} {env : Env} {E : Value → Shared → Prop} {lm : LM} {st : Store} {vd : Value} {Q : MV → Store → Prop},
  c.OK (n + d + 2) → c.hd = none → Box bx b0 st → VR (.int (d : Nat)) vd → (∀ l ds st', Box bx b0 st' → BExt bx b0 st st' → PlanAt st' l ds → PlanOk d ds → Q (.ref l) st') →
  Ev w b₀ c env E (call (.ref 292) [.ref bx, vd]) VR lm st Q

theorem plan_step {bx b0 : Addr} (G : Gd w b₀ mean mg mb) (d : Nat) (hd2 : d ≤ 2) (IH : ∀ d', d = d' + 1 → PlanSpec w b₀ bx b0 d') : PlanSpec w b₀ bx b0 d := by
  intro n c env E lm st vd Q hc hh B hv hq
  refine' ev_enterP G (n := n + d + 1) hc (by k_is) (by k_is) (.cons (vr_ref _) (.cons hv .nil)) (by rfl) (by rfl) (by decide) (by rfl) ?_
  intro c' hc' he' hh'
  have hcn := hh'.trans hh
  refine ex_assign hc' he'.symm (ev_list (ev_args_nil ⟨by simp, fun D hD => ?_⟩))
  have X₁ := Ext.new (mo := .list []) hD
  refine Ex.recast (mo' := .plist []) (Store.set_self _ _ _) (fun _ h => h) ?_
  rw [Store.set_set]
  have hD₁ := Store.set_self st D (.plist [])
  have X₁ := Ext.new (mo := .plist []) hD
  have B₁ := B.bext X₁
  have Y₁ : BExt bx b0 st (st.set D (.plist [])) := X₁.bext
  generalize st.set D (.plist []) = st₁ at hD₁ B₁ Y₁ ⊢
  refine ex_forRange G hc' he'.symm hcn (by k_is) (ev_args_cons (ev_binop (ev_subList (ev_list (ev_args_cons (ev_int (ev_args_cons (ev_int (ev_args_cons (ev_int (ev_args_nil ⟨by simp [sizeLine_eq], fun l hl => ?_⟩)))))))))))
  have X₂ := Ext.new (mo := .list [.int 3, .int 2, .int 1]) hl
  have hl₂ := Store.set_self st₁ l (.list [.int 3, .int 2, .int 1])
  have B₂ := B₁.bext X₂
  have hD₂ := X₂ _ _ hD₁
  have Y₂ : BExt bx b0 st (st₁.set l (.list [.int 3, .int 2, .int 1])) := Y₁.trans X₂.bext
  generalize st₁.set l (.list [.int 3, .int 2, .int 1]) = st₂ at hl₂ hD₂ B₂ Y₂ ⊢
  refine ev_binop (ev_int (ev_name rfl rfl ?_))
  refine op_subU ?_
  refine ⟨l, _, 2 - (d : Int), .int ((d : Int) + 1), rfl, rfl, hl₂, by omega, by omega, ?_, ?_⟩
  · have : d = 0 ∨ d = 1 ∨ d = 2 := by omega
    rcases this with rfl | rfl | rfl <;> rfl
  refine ev_call G rfl rfl (by k_is) (by k_is) (ev_args_cons (ev_name rfl rfl (ev_args_cons (ev_int (ev_args_nil ?_)))))
  refine all2_rv fun u hu => ?_
  refine take_ok G hc' B₂ hu (by decide) fun r st₃ r0 r1 B₃ X₃ => ?_
  refine op_addU (ev_args_nil ?_)
  have hDb : D ≠ bx ∧ D ≠ b0 := by
    obtain ⟨⟨ns, z, h1, h2, h3⟩, hne⟩ := B
    exact ⟨fun q => (by rw [q, h1] at hD; cases hD), fun q => (by rw [q, h2] at hD; cases hD)⟩
  have hD₃ := X₃ _ _ hD₂ hDb.1 hDb.2
  have Y₃ := Y₂.trans X₃
  refine ⟨0, _, .inl ⟨rfl, rfl⟩, by omega, by omega, by omega, by omega, PJ bx b0 D d st,
    ⟨rfl, rfl, rfl, B₃, Y₃, [], [], hD₃, .nil, rfl, fun x hx => by cases hx⟩, ?_, ?_⟩
  · rintro k lm' st' hk ⟨l1, l2, l3, B', Y', vs, body, hD', dl, hlen, hitem⟩ E'
    have hk3 : k ≤ 3 := by omega
    refine ex_assign hc' he'.symm (ev_call G rfl rfl (by k_is) (by k_is) (ev_args_cons (ev_name rfl (LM.set_other l1 (by decide)) (ev_args_cons (ev_int (ev_args_nil ?_))))))
    refine all2_rv fun u hu => ?_
    refine take_ok G hc' B' hu (by decide) fun way st₄ w0 w1 B₄ X₄ => ?_
    have Y₄ := Y'.trans X₄
    have hD₄ := X₄ _ _ hD' hDb.1 hDb.2
    have dl₄ := dl.mono (X₄.lt B')
    have fin : ∀ {st₅ : Store} {t : Addr} {x : Deed} {lm'' : LM}, lm'' "box" = some (.ref bx) → lm'' "deep" = some (.int d) → lm'' "deeds" = some (.ref D) → Box bx b0 st₅ → BExt bx b0 st₄ st₅ → DeedAt st₅ (.ref t) x → Item d x →
        lm'' "box" = some (.ref bx) ∧ lm'' "deep" = some (.int d) ∧ lm'' "deeds" = some (.ref D) ∧ Box bx b0 (st₅.set D (.plist (vs ++ [.ref t]))) ∧ BExt bx b0 st (st₅.set D (.plist (vs ++ [.ref t]))) ∧ ∃ vs' body, (st₅.set D (.plist (vs ++ [.ref t]))) D = some (.plist vs') ∧ DL (st₅.set D (.plist (vs ++ [.ref t]))) vs' body ∧ body.length = k + 1 ∧ ∀ x ∈ body, Item d x := by
      intro st₅ t x lm'' m1 m2 m3 B₅ X₅ dt hx
      have hD₅ := X₅ _ _ hD₄ hDb.1 hDb.2
      have T₅ : LT st₅ (st₅.set D (.plist (vs ++ [.ref t]))) := ⟨fun b us e => by rw [Store.set_ne _ _ (fun q => by rw [q, hD₅] at e; cases e)]; exact e, fun b us e => by rw [Store.set_ne _ _ (fun q => by rw [q, hD₅] at e; cases e)]; exact e⟩
      refine ⟨m1, m2, m3, ?_, ?_, vs ++ [.ref t], body ++ [x], Store.set_self _ _ _, ((dl₄.mono (X₅.lt B₄)).append (.cons dt .nil)).mono T₅, by simp [hlen], ?_⟩
      · obtain ⟨⟨ns, z, h1, h2, h3⟩, hne⟩ := B₅
        exact ⟨⟨ns, z, by rw [Store.set_ne _ _ (Ne.symm hDb.1)]; exact h1, by rw [Store.set_ne _ _ (Ne.symm hDb.2)]; exact h2, h3⟩, hne⟩
      · intro b mo e n1 n2
        rw [Store.set_ne _ _ (fun q => by rw [q, hD] at e; cases e)]
        exact X₅ _ _ (Y₄ b mo e n1 n2) n1 n2
      · intro y hy
        rcases List.mem_append.mp hy with z | z
        · exact hitem y z
        · simp at z; subst z; exact hx
    have lw : ((lm'.set "turn" (.int (0 + (k : Int)))).set "way" (.int way)) "box" = some (.ref bx) ∧ ((lm'.set "turn" (.int (0 + (k : Int)))).set "way" (.int way)) "deep" = some (.int d) ∧ ((lm'.set "turn" (.int (0 + (k : Int)))).set "way" (.int way)) "deeds" = some (.ref D) ∧ ((lm'.set "turn" (.int (0 + (k : Int)))).set "way" (.int way)) "way" = some (.int way) :=
      ⟨LM.set_other (LM.set_other l1 (by decide)) (by decide), LM.set_other (LM.set_other l2 (by decide)) (by decide), LM.set_other (LM.set_other l3 (by decide)) (by decide), LM.set_get _ _ _⟩
    generalize ((lm'.set "turn" (.int (0 + (k : Int)))).set "way" (.int way)) = lm₂ at lw ⊢
    (first | refine e0a4 (fun m1 m2 m3 m4 => ?_) (lw) | refine e1a3 (fun m1 m2 m3 m4 => ?_) (lw) | refine e2a2 (fun m1 m2 m3 m4 => ?_) (lw) | obtain ⟨m1, m2, m3, m4⟩ := lw); try clear lw
    refine ex_if (tr_and (tr_cmp (ev_name rfl m4 (ev_int ?_))))
    refine cmp_lt_intU ⟨_, rfl, ?_⟩
    by_cases q1 : way < 3 ∧ 0 < d
    · (first | refine iteP (by simpa using q1.1) ?_ | rw [if_pos (by simpa using q1.1)])
      refine tr_and (tr_cmp (ev_name rfl m2 (ev_int ?_)))
      refine cmp_gt_intU ⟨_, rfl, ?_⟩
      (first | refine iteP (by have := q1.2; simp; omega) ?_ | rw [if_pos (by have := q1.2; simp; omega)])
      refine tr_and_nil ?_
      (first | refine iteP rfl ?_ | rw [if_pos rfl])
      obtain ⟨d', rfl⟩ : ∃ d', d = d' + 1 := ⟨d - 1, by omega⟩
      refine ex_expr (ev_bmeth PySem.F.plainAttrs_list PySem.F.slot_list_append PySem.F.type_list_append (ev_name rfl m3 ⟨D, _, rfl, hD₄, or_plist, ev_args_cons (ev_tuple (ev_args_cons (ev_str (ev_args_cons (ev_call G rfl rfl (by k_is) (by k_is) (ev_args_cons (ev_name rfl m1 (ev_args_cons (ev_binop (ev_name rfl m2 (ev_int ?_)))))))))))⟩))
      refine op_subU (ev_args_nil ?_)
      refine all2_rv fun u hu => ?_
      rw [show ((d' + 1 : Nat) : Int) - 1 = (d' : Nat) by omega] at hu
      refine IH d' rfl (n := n) (by have := hc'; rw [show n + (d' + 1) + 1 = n + d' + 2 by omega] at this; exact this) hcn B₄ hu fun lp ds st₅ B₅ X₅ pl ok => ev_args_nil ⟨by simp [sizeLine_eq], fun t ht => ev_args_nil ?_⟩
      have X₆ := Ext.new (mo := .tuple [.str "fork", .ref lp]) ht
      have ht₆ := Store.set_self st₅ t (.tuple [.str "fork", .ref lp])
      generalize st₅.set t (.tuple [.str "fork", .ref lp]) = st₆ at X₆ ht₆ ⊢
      refine all2_v1 fun v hv => ?_
      refine call_appendP (X₆ _ _ (X₅ _ _ hD₄ hDb.1 hDb.2)) (by rw [sizeLine_eq, dl.length, hlen]; omega) hv (ex_nil (ex_nil ?_))
      (first | refine e0a3 (fun pv pl1 pl2 => ?_) (pl.mono X₆.lt) | refine e1a2 (fun pv pl1 pl2 => ?_) (pl.mono X₆.lt) | refine e2a1 (fun pv pl1 pl2 => ?_) (pl.mono X₆.lt) | obtain ⟨pv, pl1, pl2⟩ := pl.mono X₆.lt)
      exact fin m1 m2 m3 (B₅.bext X₆) (X₅.trans X₆.bext) (.fork ht₆ pl1 pl2) (.inr ⟨ds, rfl, ok⟩)
    · by_cases q2 : way < 3
      · (first | refine iteP (by simpa using q2) ?_ | rw [if_pos (by simpa using q2)])
        refine tr_and (tr_cmp (ev_name rfl m2 (ev_int ?_)))
        refine cmp_gt_intU ⟨_, rfl, ?_⟩
        (first | refine iteN (by simp; omega) ?_ | rw [if_neg (by simp; omega)]); (first | refine iteN (by decide) ?_ | rw [if_neg (by decide)])
        refine ex_if (tr_cmp (ev_name rfl m4 (ev_int ?_)))
        refine cmp_lt_intU ⟨_, rfl, ?_⟩
        by_cases q4 : way < 4
        · (first | refine iteP (by simpa using q4) ?_ | rw [if_pos (by simpa using q4)])
          refine ex_expr (ev_bmeth PySem.F.plainAttrs_list PySem.F.slot_list_append PySem.F.type_list_append (ev_name rfl m3 ⟨D, _, rfl, hD₄, or_plist, ev_args_cons (ev_tuple (ev_args_cons (ev_str (ev_args_cons (ev_none (ev_args_nil ⟨by simp [sizeLine_eq], fun t ht => ev_args_nil ?_⟩))))))⟩))
          have X₆ := Ext.new (mo := .tuple [.str "turn", .none]) ht
          have ht₆ := Store.set_self st₄ t (.tuple [.str "turn", .none])
          generalize st₄.set t (.tuple [.str "turn", .none]) = st₆ at X₆ ht₆ ⊢
          refine all2_v1 fun v hv => ?_
          exact call_appendP (X₆ _ _ hD₄) (by rw [sizeLine_eq, dl.length, hlen]; omega) hv (ex_nil (ex_nil (ex_nil (fin m1 m2 m3 (B₄.bext X₆) X₆.bext (.turn ht₆) (item_small (.inl rfl))))))
        · (first | refine iteN (by simpa using q4) ?_ | rw [if_neg (by simpa using q4)])
          refine ex_expr (ev_bmeth PySem.F.plainAttrs_list PySem.F.slot_list_append PySem.F.type_list_append (ev_name rfl m3 ⟨D, _, rfl, hD₄, or_plist, ev_args_cons (ev_ifexp (tr_cmp (ev_name rfl m4 (ev_int ?_))))⟩))
          refine cmp_eq_intU ⟨_, rfl, ?_⟩
          by_cases q5 : way = 4
          · (first | refine iteP (by simpa using q5) ?_ | rw [if_pos (by simpa using q5)])
            refine ev_tuple (ev_args_cons (ev_str (ev_args_cons (ev_none (ev_args_nil ⟨by simp [sizeLine_eq], fun t ht => ev_args_nil ?_⟩)))))
            have X₆ := Ext.new (mo := .tuple [.str "wait", .none]) ht
            have ht₆ := Store.set_self st₄ t (.tuple [.str "wait", .none])
            generalize st₄.set t (.tuple [.str "wait", .none]) = st₆ at X₆ ht₆ ⊢
            refine all2_v1 fun v hv => ?_
            exact call_appendP (X₆ _ _ hD₄) (by rw [sizeLine_eq, dl.length, hlen]; omega) hv (ex_nil (ex_nil (ex_nil (fin m1 m2 m3 (B₄.bext X₆) X₆.bext (.wait ht₆) (item_small (.inr (.inl rfl)))))))
          · (first | refine iteN (by simpa using q5) ?_ | rw [if_neg (by simpa using q5)])
            refine ev_tuple (ev_args_cons (ev_str (ev_args_cons (ev_call G rfl rfl (by k_is) (by k_is) (ev_args_cons (ev_name rfl m1 (ev_args_cons (ev_int (ev_args_nil ?_)))))))))
            refine all2_rv fun u hu => ?_
            refine take_ok G hc' B₄ hu (by decide) fun p st₅ p0 p1 B₅ X₅ => ev_args_nil ⟨by simp [sizeLine_eq], fun t ht => ev_args_nil ?_⟩
            have X₆ := Ext.new (mo := .tuple [.str "kill", .int p]) ht
            have ht₆ := Store.set_self st₅ t (.tuple [.str "kill", .int p])
            generalize st₅.set t (.tuple [.str "kill", .int p]) = st₆ at X₆ ht₆ ⊢
            refine all2_v1 fun v hv => ?_
            exact call_appendP (X₆ _ _ (X₅ _ _ hD₄ hDb.1 hDb.2)) (by rw [sizeLine_eq, dl.length, hlen]; omega) hv (ex_nil (ex_nil (ex_nil (fin m1 m2 m3 (B₅.bext X₆) (X₅.trans X₆.bext) (.kill ht₆) (item_small (.inr (.inr ⟨p, rfl, p0, p1⟩)))))))

      · (first | refine iteN (by simpa using q2) ?_ | rw [if_neg (by simpa using q2)]); (first | refine iteN (by decide) ?_ | rw [if_neg (by decide)])
        refine ex_if (tr_cmp (ev_name rfl m4 (ev_int ?_)))
        refine cmp_lt_intU ⟨_, rfl, ?_⟩
        by_cases q4 : way < 4
        · (first | refine iteP (by simpa using q4) ?_ | rw [if_pos (by simpa using q4)])
          refine ex_expr (ev_bmeth PySem.F.plainAttrs_list PySem.F.slot_list_append PySem.F.type_list_append (ev_name rfl m3 ⟨D, _, rfl, hD₄, or_plist, ev_args_cons (ev_tuple (ev_args_cons (ev_str (ev_args_cons (ev_none (ev_args_nil ⟨by simp [sizeLine_eq], fun t ht => ev_args_nil ?_⟩))))))⟩))
          have X₆ := Ext.new (mo := .tuple [.str "turn", .none]) ht
          have ht₆ := Store.set_self st₄ t (.tuple [.str "turn", .none])
          generalize st₄.set t (.tuple [.str "turn", .none]) = st₆ at X₆ ht₆ ⊢
          refine all2_v1 fun v hv => ?_
          exact call_appendP (X₆ _ _ hD₄) (by rw [sizeLine_eq, dl.length, hlen]; omega) hv (ex_nil (ex_nil (ex_nil (fin m1 m2 m3 (B₄.bext X₆) X₆.bext (.turn ht₆) (item_small (.inl rfl))))))
        · (first | refine iteN (by simpa using q4) ?_ | rw [if_neg (by simpa using q4)])
          refine ex_expr (ev_bmeth PySem.F.plainAttrs_list PySem.F.slot_list_append PySem.F.type_list_append (ev_name rfl m3 ⟨D, _, rfl, hD₄, or_plist, ev_args_cons (ev_ifexp (tr_cmp (ev_name rfl m4 (ev_int ?_))))⟩))
          refine cmp_eq_intU ⟨_, rfl, ?_⟩
          by_cases q5 : way = 4
          · (first | refine iteP (by simpa using q5) ?_ | rw [if_pos (by simpa using q5)])
            refine ev_tuple (ev_args_cons (ev_str (ev_args_cons (ev_none (ev_args_nil ⟨by simp [sizeLine_eq], fun t ht => ev_args_nil ?_⟩)))))
            have X₆ := Ext.new (mo := .tuple [.str "wait", .none]) ht
            have ht₆ := Store.set_self st₄ t (.tuple [.str "wait", .none])
            generalize st₄.set t (.tuple [.str "wait", .none]) = st₆ at X₆ ht₆ ⊢
            refine all2_v1 fun v hv => ?_
            exact call_appendP (X₆ _ _ hD₄) (by rw [sizeLine_eq, dl.length, hlen]; omega) hv (ex_nil (ex_nil (ex_nil (fin m1 m2 m3 (B₄.bext X₆) X₆.bext (.wait ht₆) (item_small (.inr (.inl rfl)))))))
          · (first | refine iteN (by simpa using q5) ?_ | rw [if_neg (by simpa using q5)])
            refine ev_tuple (ev_args_cons (ev_str (ev_args_cons (ev_call G rfl rfl (by k_is) (by k_is) (ev_args_cons (ev_name rfl m1 (ev_args_cons (ev_int (ev_args_nil ?_)))))))))
            refine all2_rv fun u hu => ?_
            refine take_ok G hc' B₄ hu (by decide) fun p st₅ p0 p1 B₅ X₅ => ev_args_nil ⟨by simp [sizeLine_eq], fun t ht => ev_args_nil ?_⟩
            have X₆ := Ext.new (mo := .tuple [.str "kill", .int p]) ht
            have ht₆ := Store.set_self st₅ t (.tuple [.str "kill", .int p])
            generalize st₅.set t (.tuple [.str "kill", .int p]) = st₆ at X₆ ht₆ ⊢
            refine all2_v1 fun v hv => ?_
            exact call_appendP (X₆ _ _ (X₅ _ _ hD₄ hDb.1 hDb.2)) (by rw [sizeLine_eq, dl.length, hlen]; omega) hv (ex_nil (ex_nil (ex_nil (fin m1 m2 m3 (B₅.bext X₆) (X₅.trans X₆.bext) (.kill ht₆) (item_small (.inr (.inr ⟨p, rfl, p0, p1⟩)))))))
  · rintro lm' st' ⟨l1, l2, l3, B', Y', vs, body, hD', dl, hlen, hitem⟩
    refine ex_ret (ev_binop (ev_name rfl l3 (ev_list (ev_args_cons (ev_tuple (ev_args_cons (ev_str (ev_args_cons (ev_call G rfl rfl (by k_is) (by k_is) (ev_args_cons (ev_name rfl l1 (ev_args_cons (ev_int (ev_args_nil ?_))))))))))))))
    refine all2_rv fun u hu => ?_
    refine take_ok G hc' B' hu (by decide) fun s₀ st₄ w0 w1 B₄ X₄ => ev_args_nil ⟨by simp [sizeLine_eq], fun t ht => ev_args_nil ⟨by simp [sizeLine_eq], fun l₂ hl₂ => ?_⟩⟩
    have hD₄ := X₄ _ _ hD' hDb.1 hDb.2
    have dl₄ := dl.mono (X₄.lt B')
    have Xa := Ext.new (mo := .tuple [.str "exit", .int s₀]) ht
    have hta := Store.set_self st₄ t (.tuple [.str "exit", .int s₀])
    generalize st₄.set t (.tuple [.str "exit", .int s₀]) = st₅ at Xa hta hl₂ ⊢
    have Xb := Ext.new (mo := .list [.ref t]) hl₂
    have hlb := Store.set_self st₅ l₂ (.list [.ref t])
    generalize st₅.set l₂ (.list [.ref t]) = st₆ at Xb hlb ⊢
    have Xc := Xa.trans Xb
    intro va vb ha hb
    have hlv : vs.length ≤ 10 := by rw [dl.length, hlen]; omega
    refine op_addPList ha hb (Xc _ _ hD₄) hlb (by rw [sizeLine_eq]; simp; omega) fun D₂ hD₂ => ?_
    have Xd := Ext.new (mo := .list (vs ++ [.ref t])) hD₂
    have Xe := Xc.trans Xd
    refine hq D₂ (body ++ [.exit s₀]) _ (B₄.bext Xe) ((Y'.trans X₄).trans Xe.bext) ⟨_, Store.set_self _ _ _, (dl₄.mono Xe.lt).append (.cons (.exit (Xd _ _ (Xb _ _ hta))) .nil)⟩ (planOk_of (by omega) hitem)
theorem plan_ok {bx b0 : Addr} (G : Gd w b₀ mean mg mb) : ∀ (d : Nat), d ≤ 2 → PlanSpec w b₀ bx b0 d := by
  intro d
  induction d with
  | zero => intro h; exact plan_step G 0 h fun d' e => by omega
  | succ d ih =>
    intro h
    refine plan_step G (d+1) h fun d' e => ?_
    have e : d' = d := by omega
    subst e
    apply ih
    omega
end
end PartL2
section PartL3
open PySem PySem.W PyProof.Rows PySem.Spec PySem.Calls

section
variable {K : Type} [DecidableEq K] {V : Type}
theorem dget_dput (k : K) (v : V) : ∀ kvs : List (K × V), dget k (dput k v kvs) = some v
  | [] => by simp [dput, dget]
  | p :: r => by
    unfold dput; split
    · rename_i q; simp [dget, q]
    · rename_i q; unfold dget; rw [if_neg q]; exact dget_dput k v r
theorem dget_dput_ne {k k' : K} (v : V) (h : k' ≠ k) : ∀ kvs : List (K × V), dget k' (dput k v kvs) = dget k' kvs
  | [] => by simp [dput, dget, Ne.symm h]
  | p :: r => by
    unfold dput; split
    · rename_i q; simp [dget, q, Ne.symm h]
    · rename_i q; unfold dget; rw [dget_dput_ne v h r]
theorem dput_len {k : K} {v : V} : ∀ {kvs : List (K × V)}, (dget k kvs).isSome = true → (dput k v kvs).length = kvs.length
  | [], h => by simp [dget] at h
  | p :: r, h => by
    unfold dput; split
    · simp
    · rename_i q; unfold dget at h; rw [if_neg q] at h; simp [dput_len h]
theorem dget_map {f : K → V} {k : K} : ∀ {ks : List K}, dget k (ks.map fun k => (k, f k)) = if k ∈ ks then some (f k) else none
  | [] => by simp [dget]
  | j :: r => by
    rw [List.map_cons]; unfold dget; rw [dget_map]
    by_cases q : j = k
    · subst q; simp
    · have q' : k ≠ j := Ne.symm q
      simp [q, q']
theorem ddel_map {f : K → V} {k : K} : ∀ {ks : List K}, ks.Nodup → ddel k (ks.map fun k => (k, f k)) = (ks.filter (· ≠ k)).map fun k => (k, f k)
  | [], _ => rfl
  | j :: r, h => by
    rw [List.map_cons]; unfold ddel
    obtain ⟨h1, h2⟩ := List.nodup_cons.mp h
    by_cases q : j = k
    · subst q
      rw [if_pos rfl, List.filter_cons]; (first | refine iteN (by simp) ?_ | rw [if_neg (by simp)])
      congr 1
      exact (List.filter_eq_self.mpr fun a ha => by simp; intro e; subst e; exact h1 ha).symm
    · rw [if_neg q, ddel_map h2, List.filter_cons, if_pos (by simpa using q)]; rfl
theorem dput_map {f : K → V} {k : K} {v : V} : ∀ {ks : List K}, k ∉ ks → dput k v (ks.map fun k => (k, f k)) = (ks ++ [k]).map fun j => (j, if j = k then v else f j)
  | [], _ => by simp [dput]
  | j :: r, h => by
    rw [List.map_cons]; unfold dput
    have q : j ≠ k := fun e => h (by simp [e])
    rw [if_neg q, dput_map (fun e => h (.tail _ e))]; simp [q]
end

inductive BS where
  | ready | asleep | over
  deriving DecidableEq
def BS.str : BS → Str
  | .ready => "ready" | .asleep => "asleep" | .over => "over"
theorem BS.str_beq (a b : BS) : (a.str == b.str) = decide (a = b) := by cases a <;> cases b <;> decide
theorem BS.str_bne (a b : BS) : (a.str != b.str) = decide (a ≠ b) := by cases a <;> cases b <;> decide
structure BE where
  parent : Int
  plan : List Deed
  state : BS
  since : Int
  turn : Int
  status : Option Int
  killed : Bool
structure Bk where
  ks : List Int
  e : Int → BE
  last : Int
  clock : Int
def Bk.upd (b : Bk) (k : Int) (x : BE) : Bk := { b with e := fun j => if j = k then x else b.e j }
theorem Bk.upd_self (b : Bk) (k : Int) (x : BE) : (b.upd k x).e k = x := by simp [Bk.upd]
theorem Bk.upd_ne (b : Bk) {j k : Int} (x : BE) (h : j ≠ k) : (b.upd k x).e j = b.e j := by simp [Bk.upd, h]
def optI : Option Int → MV
  | none => .none
  | some i => .int i

structure ERep (st : Store) (x : BE) (kv : List (Str × MV)) : Prop where
  parent : dget ("parent" : Str) kv = some (.int x.parent)
  plan : ∃ pl, dget ("plan" : Str) kv = some (.ref pl) ∧ PlanAt st pl x.plan
  state : dget ("state" : Str) kv = some (.str x.state.str)
  since : dget ("since" : Str) kv = some (.int x.since)
  turn : dget ("turn" : Str) kv = some (.int x.turn)
  status : dget ("status" : Str) kv = some (optI x.status)
  killed : dget ("killed" : Str) kv = some (.bool x.killed)
  len : kv.length ≤ 20
def One (b : Bk) (kv : List (Str × MV)) : Prop := dget ("last" : Str) kv = some (.int b.last) ∧ dget ("clock" : Str) kv = some (.int b.clock)
structure RepB (B : Addr) (d : Int → Addr) (st : Store) (b : Bk) : Prop where
  bk : st B = some (.idict (b.ks.map fun k => (k, .ref (d k))))
  nd : b.ks.Nodup
  len : b.ks.length ≤ 50
  inj : ∀ k ∈ b.ks, ∀ k' ∈ b.ks, d k = d k' → k = k'
  e : ∀ k ∈ b.ks, ∃ kv, st (d k) = some (.sdict kv) ∧ ERep st (b.e k) kv ∧ (k = 1 → One b kv)
  one : 1 ∈ b.ks

theorem ERep.mono {st st' : Store} {x : BE} {kv : List (Str × MV)} (h : ERep st x kv) (T : LT st st') : ERep st' x kv := { h with plan := let ⟨pl, h1, h2⟩ := h.plan; ⟨pl, h1, h2.mono T⟩ }
theorem LT.setD {st : Store} {l : Addr} {mo mo' : MO} (hl : st l = some mo) (h : (∃ k, mo = .sdict k) ∨ ∃ k, mo = .idict k) : LT st (st.set l mo') := by
  refine ⟨fun b vs e => ?_, fun b vs e => ?_⟩
  all_goals
    rw [Store.set_ne]; · exact e
    · intro q; rw [q, hl] at e; cases e; rcases h with ⟨y, h⟩ | ⟨y, h⟩ <;> cases h

section
variable {B : Addr} {d : Int → Addr} {st : Store} {b : Bk}
theorem RepB.mono {st' : Store} (R : RepB B d st b) (T : LT st st') (h1 : ∀ l kv, st l = some (.idict kv) → st' l = some (.idict kv)) (h2 : ∀ l kv, st l = some (.sdict kv) → st' l = some (.sdict kv)) : RepB B d st' b :=
  { R with bk := h1 _ _ R.bk, e := fun k hk => let ⟨kv, a1, a2, a3⟩ := R.e k hk; ⟨kv, h2 _ _ a1, a2.mono T, a3⟩ }
theorem RepB.ext {st' : Store} (R : RepB B d st b) (X : Ext st st') : RepB B d st' b := R.mono X.lt (fun _ _ e => X _ _ e) fun _ _ e => X _ _ e
theorem RepB.keep {st' : Store} {A : Ad} {a : AT} (R : RepB B d st b) (RT : RepT A a st) (K : Keep A st st') : RepB B d st' b :=
  R.mono ⟨fun _ _ e => RT.kept K e (by intro _ q; cases q), fun _ _ e => RT.kept K e (by intro _ q; cases q)⟩ (fun _ _ e => RT.kept K e (by intro _ q; cases q)) fun _ _ e => RT.kept K e (by intro _ q; cases q)
theorem RepB.get (R : RepB B d st b) {k : Int} (hk : k ∈ b.ks) : dget k (b.ks.map fun k => (k, MV.ref (d k))) = some (.ref (d k)) := by
  rw [dget_map (f := fun k => MV.ref (d k))]; (first | refine iteP hk ?_ | rw [if_pos hk])
theorem RepB.isSome (R : RepB B d st b) (k : Int) : (dget k (b.ks.map fun k => (k, MV.ref (d k)))).isSome = decide (k ∈ b.ks) := by
  rw [dget_map (f := fun k => MV.ref (d k))]; split <;> simp_all
theorem RepB.dB (R : RepB B d st b) {k : Int} (hk : k ∈ b.ks) : d k ≠ B := fun q => by
  (first | refine e0a3 (fun kv h _ => ?_) (R.e k hk) | refine e1a2 (fun kv h _ => ?_) (R.e k hk) | refine e2a1 (fun kv h _ => ?_) (R.e k hk) | obtain ⟨kv, h, _⟩ := R.e k hk)
  rw [q, R.bk] at h; cases h

/-- a field of an entry turned -/
theorem RepB.put (R : RepB B d st b) {k : Int} (hk : k ∈ b.ks) {kv kv' : List (Str × MV)} {x : BE} {last clock : Int} (hkv : st (d k) = some (.sdict kv)) (hx : ERep (st.set (d k) (.sdict kv')) x kv') (h1 : k = 1 → dget ("last" : Str) kv' = some (.int last) ∧ dget ("clock" : Str) kv' = some (.int clock)) (h1' : k ≠ 1 → last = b.last ∧ clock = b.clock) :
    RepB B d (st.set (d k) (.sdict kv')) { b.upd k x with last := last, clock := clock } := by
  have T : LT st (st.set (d k) (.sdict kv')) := LT.setD hkv (.inl ⟨_, rfl⟩)
  refine ⟨by rw [Store.set_ne _ _ (R.dB hk).symm]; exact R.bk, R.nd, R.len, R.inj, fun j hj => ?_, R.one⟩
  by_cases q : j = k
  · subst q
    refine ⟨kv', Store.set_self _ _ _, ?_, h1⟩
    show ERep _ ((b.upd j x).e j) _
    rw [Bk.upd_self]; exact hx
  · (first | refine e0a4 (fun kj a1 a2 a3 => ?_) (R.e j hj) | refine e1a3 (fun kj a1 a2 a3 => ?_) (R.e j hj) | refine e2a2 (fun kj a1 a2 a3 => ?_) (R.e j hj) | obtain ⟨kj, a1, a2, a3⟩ := R.e j hj)
    refine ⟨kj, by rw [Store.set_ne _ _ fun e => q (R.inj j hj k hk e)]; exact a1, ?_, fun e => ?_⟩
    · show ERep _ ((b.upd k x).e j) _
      rw [Bk.upd_ne _ _ q]; exact a2.mono T
    · have : k ≠ 1 := fun e' => q (e.trans e'.symm)
      obtain ⟨e1, e2⟩ := h1' this
      rw [show One _ kj ↔ dget ("last" : Str) kj = some (.int last) ∧ dget ("clock" : Str) kj = some (.int clock) from Iff.rfl, e1, e2]
      exact a3 e
theorem RepB.set_parent (R : RepB B d st b) {k : Int} (hk : k ∈ b.ks) {kv : List (Str × MV)} (hkv : st (d k) = some (.sdict kv)) (v : Int) : kv.length ≤ sizeLine ∧ RepB B d (st.set (d k) (.sdict (dput ("parent" : Str) (.int v) kv))) (b.upd k { b.e k with parent := v }) := by
  (first | refine e0a4 (fun kv' a1 a2 a3 => ?_) (R.e k hk) | refine e1a3 (fun kv' a1 a2 a3 => ?_) (R.e k hk) | refine e2a2 (fun kv' a1 a2 a3 => ?_) (R.e k hk) | obtain ⟨kv', a1, a2, a3⟩ := R.e k hk)
  rw [hkv] at a1; cases a1
  refine ⟨by rw [sizeLine_eq]; have := a2.len; omega, ?_⟩
  have T : LT st (st.set (d k) (.sdict (dput ("parent" : Str) (.int v) kv))) := LT.setD hkv (.inl ⟨_, rfl⟩)
  have b2 := a2.mono T
  refine R.put hk hkv (x := { b.e k with parent := v }) (last := b.last) (clock := b.clock) ⟨dget_dput _ _ _, (let ⟨pl, h1, h2⟩ := b2.plan; ⟨pl, (dget_dput_ne _ (by decide) _).trans h1, h2⟩), (dget_dput_ne _ (by decide) _).trans b2.state, (dget_dput_ne _ (by decide) _).trans b2.since, (dget_dput_ne _ (by decide) _).trans b2.turn, (dget_dput_ne _ (by decide) _).trans b2.status, (dget_dput_ne _ (by decide) _).trans b2.killed, by rw [dput_len (by rw [b2.parent]; rfl)]; exact b2.len⟩ (fun e => ⟨(dget_dput_ne _ (by decide) _).trans (a3 e).1, (dget_dput_ne _ (by decide) _).trans (a3 e).2⟩) fun _ => ⟨rfl, rfl⟩
theorem RepB.set_state (R : RepB B d st b) {k : Int} (hk : k ∈ b.ks) {kv : List (Str × MV)} (hkv : st (d k) = some (.sdict kv)) (v : BS) : kv.length ≤ sizeLine ∧ RepB B d (st.set (d k) (.sdict (dput ("state" : Str) (.str v.str) kv))) (b.upd k { b.e k with state := v }) := by
  (first | refine e0a4 (fun kv' a1 a2 a3 => ?_) (R.e k hk) | refine e1a3 (fun kv' a1 a2 a3 => ?_) (R.e k hk) | refine e2a2 (fun kv' a1 a2 a3 => ?_) (R.e k hk) | obtain ⟨kv', a1, a2, a3⟩ := R.e k hk)
  rw [hkv] at a1; cases a1
  refine ⟨by rw [sizeLine_eq]; have := a2.len; omega, ?_⟩
  have T : LT st (st.set (d k) (.sdict (dput ("state" : Str) (.str v.str) kv))) := LT.setD hkv (.inl ⟨_, rfl⟩)
  have b2 := a2.mono T
  refine R.put hk hkv (x := { b.e k with state := v }) (last := b.last) (clock := b.clock) ⟨(dget_dput_ne _ (by decide) _).trans b2.parent, (let ⟨pl, h1, h2⟩ := b2.plan; ⟨pl, (dget_dput_ne _ (by decide) _).trans h1, h2⟩), dget_dput _ _ _, (dget_dput_ne _ (by decide) _).trans b2.since, (dget_dput_ne _ (by decide) _).trans b2.turn, (dget_dput_ne _ (by decide) _).trans b2.status, (dget_dput_ne _ (by decide) _).trans b2.killed, by rw [dput_len (by rw [b2.state]; rfl)]; exact b2.len⟩ (fun e => ⟨(dget_dput_ne _ (by decide) _).trans (a3 e).1, (dget_dput_ne _ (by decide) _).trans (a3 e).2⟩) fun _ => ⟨rfl, rfl⟩
theorem RepB.set_since (R : RepB B d st b) {k : Int} (hk : k ∈ b.ks) {kv : List (Str × MV)} (hkv : st (d k) = some (.sdict kv)) (v : Int) : kv.length ≤ sizeLine ∧ RepB B d (st.set (d k) (.sdict (dput ("since" : Str) (.int v) kv))) (b.upd k { b.e k with since := v }) := by
  (first | refine e0a4 (fun kv' a1 a2 a3 => ?_) (R.e k hk) | refine e1a3 (fun kv' a1 a2 a3 => ?_) (R.e k hk) | refine e2a2 (fun kv' a1 a2 a3 => ?_) (R.e k hk) | obtain ⟨kv', a1, a2, a3⟩ := R.e k hk)
  rw [hkv] at a1; cases a1
  refine ⟨by rw [sizeLine_eq]; have := a2.len; omega, ?_⟩
  have T : LT st (st.set (d k) (.sdict (dput ("since" : Str) (.int v) kv))) := LT.setD hkv (.inl ⟨_, rfl⟩)
  have b2 := a2.mono T
  refine R.put hk hkv (x := { b.e k with since := v }) (last := b.last) (clock := b.clock) ⟨(dget_dput_ne _ (by decide) _).trans b2.parent, (let ⟨pl, h1, h2⟩ := b2.plan; ⟨pl, (dget_dput_ne _ (by decide) _).trans h1, h2⟩), (dget_dput_ne _ (by decide) _).trans b2.state, dget_dput _ _ _, (dget_dput_ne _ (by decide) _).trans b2.turn, (dget_dput_ne _ (by decide) _).trans b2.status, (dget_dput_ne _ (by decide) _).trans b2.killed, by rw [dput_len (by rw [b2.since]; rfl)]; exact b2.len⟩ (fun e => ⟨(dget_dput_ne _ (by decide) _).trans (a3 e).1, (dget_dput_ne _ (by decide) _).trans (a3 e).2⟩) fun _ => ⟨rfl, rfl⟩
theorem RepB.set_turn (R : RepB B d st b) {k : Int} (hk : k ∈ b.ks) {kv : List (Str × MV)} (hkv : st (d k) = some (.sdict kv)) (v : Int) : kv.length ≤ sizeLine ∧ RepB B d (st.set (d k) (.sdict (dput ("turn" : Str) (.int v) kv))) (b.upd k { b.e k with turn := v }) := by
  (first | refine e0a4 (fun kv' a1 a2 a3 => ?_) (R.e k hk) | refine e1a3 (fun kv' a1 a2 a3 => ?_) (R.e k hk) | refine e2a2 (fun kv' a1 a2 a3 => ?_) (R.e k hk) | obtain ⟨kv', a1, a2, a3⟩ := R.e k hk)
  rw [hkv] at a1; cases a1
  refine ⟨by rw [sizeLine_eq]; have := a2.len; omega, ?_⟩
  have T : LT st (st.set (d k) (.sdict (dput ("turn" : Str) (.int v) kv))) := LT.setD hkv (.inl ⟨_, rfl⟩)
  have b2 := a2.mono T
  refine R.put hk hkv (x := { b.e k with turn := v }) (last := b.last) (clock := b.clock) ⟨(dget_dput_ne _ (by decide) _).trans b2.parent, (let ⟨pl, h1, h2⟩ := b2.plan; ⟨pl, (dget_dput_ne _ (by decide) _).trans h1, h2⟩), (dget_dput_ne _ (by decide) _).trans b2.state, (dget_dput_ne _ (by decide) _).trans b2.since, dget_dput _ _ _, (dget_dput_ne _ (by decide) _).trans b2.status, (dget_dput_ne _ (by decide) _).trans b2.killed, by rw [dput_len (by rw [b2.turn]; rfl)]; exact b2.len⟩ (fun e => ⟨(dget_dput_ne _ (by decide) _).trans (a3 e).1, (dget_dput_ne _ (by decide) _).trans (a3 e).2⟩) fun _ => ⟨rfl, rfl⟩
theorem RepB.set_status (R : RepB B d st b) {k : Int} (hk : k ∈ b.ks) {kv : List (Str × MV)} (hkv : st (d k) = some (.sdict kv)) (v : Option Int) : kv.length ≤ sizeLine ∧ RepB B d (st.set (d k) (.sdict (dput ("status" : Str) (optI v) kv))) (b.upd k { b.e k with status := v }) := by
  (first | refine e0a4 (fun kv' a1 a2 a3 => ?_) (R.e k hk) | refine e1a3 (fun kv' a1 a2 a3 => ?_) (R.e k hk) | refine e2a2 (fun kv' a1 a2 a3 => ?_) (R.e k hk) | obtain ⟨kv', a1, a2, a3⟩ := R.e k hk)
  rw [hkv] at a1; cases a1
  refine ⟨by rw [sizeLine_eq]; have := a2.len; omega, ?_⟩
  have T : LT st (st.set (d k) (.sdict (dput ("status" : Str) (optI v) kv))) := LT.setD hkv (.inl ⟨_, rfl⟩)
  have b2 := a2.mono T
  refine R.put hk hkv (x := { b.e k with status := v }) (last := b.last) (clock := b.clock) ⟨(dget_dput_ne _ (by decide) _).trans b2.parent, (let ⟨pl, h1, h2⟩ := b2.plan; ⟨pl, (dget_dput_ne _ (by decide) _).trans h1, h2⟩), (dget_dput_ne _ (by decide) _).trans b2.state, (dget_dput_ne _ (by decide) _).trans b2.since, (dget_dput_ne _ (by decide) _).trans b2.turn, dget_dput _ _ _, (dget_dput_ne _ (by decide) _).trans b2.killed, by rw [dput_len (by rw [b2.status]; rfl)]; exact b2.len⟩ (fun e => ⟨(dget_dput_ne _ (by decide) _).trans (a3 e).1, (dget_dput_ne _ (by decide) _).trans (a3 e).2⟩) fun _ => ⟨rfl, rfl⟩
theorem RepB.set_killed (R : RepB B d st b) {k : Int} (hk : k ∈ b.ks) {kv : List (Str × MV)} (hkv : st (d k) = some (.sdict kv)) (v : Bool) : kv.length ≤ sizeLine ∧ RepB B d (st.set (d k) (.sdict (dput ("killed" : Str) (.bool v) kv))) (b.upd k { b.e k with killed := v }) := by
  (first | refine e0a4 (fun kv' a1 a2 a3 => ?_) (R.e k hk) | refine e1a3 (fun kv' a1 a2 a3 => ?_) (R.e k hk) | refine e2a2 (fun kv' a1 a2 a3 => ?_) (R.e k hk) | obtain ⟨kv', a1, a2, a3⟩ := R.e k hk)
  rw [hkv] at a1; cases a1
  refine ⟨by rw [sizeLine_eq]; have := a2.len; omega, ?_⟩
  have T : LT st (st.set (d k) (.sdict (dput ("killed" : Str) (.bool v) kv))) := LT.setD hkv (.inl ⟨_, rfl⟩)
  have b2 := a2.mono T
  refine R.put hk hkv (x := { b.e k with killed := v }) (last := b.last) (clock := b.clock) ⟨(dget_dput_ne _ (by decide) _).trans b2.parent, (let ⟨pl, h1, h2⟩ := b2.plan; ⟨pl, (dget_dput_ne _ (by decide) _).trans h1, h2⟩), (dget_dput_ne _ (by decide) _).trans b2.state, (dget_dput_ne _ (by decide) _).trans b2.since, (dget_dput_ne _ (by decide) _).trans b2.turn, (dget_dput_ne _ (by decide) _).trans b2.status, dget_dput _ _ _, by rw [dput_len (by rw [b2.killed]; rfl)]; exact b2.len⟩ (fun e => ⟨(dget_dput_ne _ (by decide) _).trans (a3 e).1, (dget_dput_ne _ (by decide) _).trans (a3 e).2⟩) fun _ => ⟨rfl, rfl⟩
theorem RepB.set_plan (R : RepB B d st b) {k : Int} (hk : k ∈ b.ks) {kv : List (Str × MV)} (hkv : st (d k) = some (.sdict kv)) {pl : Addr} {ds : List Deed} (hp : PlanAt st pl ds) : kv.length ≤ sizeLine ∧ RepB B d (st.set (d k) (.sdict (dput ("plan" : Str) (.ref pl) kv))) (b.upd k { b.e k with plan := ds }) := by
  (first | refine e0a4 (fun kv' a1 a2 a3 => ?_) (R.e k hk) | refine e1a3 (fun kv' a1 a2 a3 => ?_) (R.e k hk) | refine e2a2 (fun kv' a1 a2 a3 => ?_) (R.e k hk) | obtain ⟨kv', a1, a2, a3⟩ := R.e k hk)
  rw [hkv] at a1; cases a1
  refine ⟨by rw [sizeLine_eq]; have := a2.len; omega, ?_⟩
  have T : LT st (st.set (d k) (.sdict (dput ("plan" : Str) (.ref pl) kv))) := LT.setD hkv (.inl ⟨_, rfl⟩)
  have b2 := a2.mono T
  refine R.put hk hkv (x := { b.e k with plan := ds }) (last := b.last) (clock := b.clock) ⟨(dget_dput_ne _ (by decide) _).trans b2.parent, ⟨pl, dget_dput _ _ _, hp.mono T⟩, (dget_dput_ne _ (by decide) _).trans b2.state, (dget_dput_ne _ (by decide) _).trans b2.since, (dget_dput_ne _ (by decide) _).trans b2.turn, (dget_dput_ne _ (by decide) _).trans b2.status, (dget_dput_ne _ (by decide) _).trans b2.killed, by rw [dput_len (by obtain ⟨_, h, _⟩ := b2.plan; rw [h]; rfl)]; exact b2.len⟩ (fun e => ⟨(dget_dput_ne _ (by decide) _).trans (a3 e).1, (dget_dput_ne _ (by decide) _).trans (a3 e).2⟩) fun _ => ⟨rfl, rfl⟩
theorem RepB.set_last (R : RepB B d st b) {kv : List (Str × MV)} (hkv : st (d 1) = some (.sdict kv)) (v : Int) : kv.length ≤ sizeLine ∧ RepB B d (st.set (d 1) (.sdict (dput ("last" : Str) (.int v) kv))) { b with last := v } := by
  (first | refine e0a4 (fun kv' a1 a2 a3 => ?_) (R.e 1 R.one) | refine e1a3 (fun kv' a1 a2 a3 => ?_) (R.e 1 R.one) | refine e2a2 (fun kv' a1 a2 a3 => ?_) (R.e 1 R.one) | obtain ⟨kv', a1, a2, a3⟩ := R.e 1 R.one)
  rw [hkv] at a1; cases a1
  refine ⟨by rw [sizeLine_eq]; have := a2.len; omega, ?_⟩
  have T : LT st (st.set (d 1) (.sdict (dput ("last" : Str) (.int v) kv))) := LT.setD hkv (.inl ⟨_, rfl⟩)
  have b2 := a2.mono T
  have a3 := a3 rfl
  have := R.put R.one hkv (x := b.e 1) (kv' := dput ("last" : Str) (.int v) kv) (last := v) (clock := b.clock) ⟨(dget_dput_ne _ (by decide) _).trans b2.parent, (let ⟨pl, h1, h2⟩ := b2.plan; ⟨pl, (dget_dput_ne _ (by decide) _).trans h1, h2⟩), (dget_dput_ne _ (by decide) _).trans b2.state, (dget_dput_ne _ (by decide) _).trans b2.since, (dget_dput_ne _ (by decide) _).trans b2.turn, (dget_dput_ne _ (by decide) _).trans b2.status, (dget_dput_ne _ (by decide) _).trans b2.killed, by rw [dput_len (by rw [a3.1]; rfl)]; exact b2.len⟩ (fun e => ⟨dget_dput _ _ _, (dget_dput_ne _ (by decide) _).trans a3.2⟩) fun n => absurd rfl n
  rwa [show ({ b.upd 1 (b.e 1) with last := v, clock := b.clock } : Bk) = { b with last := v } from by
    have : (fun j => if j = 1 then b.e 1 else b.e j) = b.e := by funext j; split <;> simp_all
    simp [Bk.upd, this]] at this
theorem RepB.set_clock (R : RepB B d st b) {kv : List (Str × MV)} (hkv : st (d 1) = some (.sdict kv)) (v : Int) : kv.length ≤ sizeLine ∧ RepB B d (st.set (d 1) (.sdict (dput ("clock" : Str) (.int v) kv))) { b with clock := v } := by
  (first | refine e0a4 (fun kv' a1 a2 a3 => ?_) (R.e 1 R.one) | refine e1a3 (fun kv' a1 a2 a3 => ?_) (R.e 1 R.one) | refine e2a2 (fun kv' a1 a2 a3 => ?_) (R.e 1 R.one) | obtain ⟨kv', a1, a2, a3⟩ := R.e 1 R.one)
  rw [hkv] at a1; cases a1
  refine ⟨by rw [sizeLine_eq]; have := a2.len; omega, ?_⟩
  have T : LT st (st.set (d 1) (.sdict (dput ("clock" : Str) (.int v) kv))) := LT.setD hkv (.inl ⟨_, rfl⟩)
  have b2 := a2.mono T
  have a3 := a3 rfl
  have := R.put R.one hkv (x := b.e 1) (kv' := dput ("clock" : Str) (.int v) kv) (last := b.last) (clock := v) ⟨(dget_dput_ne _ (by decide) _).trans b2.parent, (let ⟨pl, h1, h2⟩ := b2.plan; ⟨pl, (dget_dput_ne _ (by decide) _).trans h1, h2⟩), (dget_dput_ne _ (by decide) _).trans b2.state, (dget_dput_ne _ (by decide) _).trans b2.since, (dget_dput_ne _ (by decide) _).trans b2.turn, (dget_dput_ne _ (by decide) _).trans b2.status, (dget_dput_ne _ (by decide) _).trans b2.killed, by rw [dput_len (by rw [a3.2]; rfl)]; exact b2.len⟩ (fun e => ⟨(dget_dput_ne _ (by decide) _).trans a3.1, dget_dput _ _ _⟩) fun n => absurd rfl n
  rwa [show ({ b.upd 1 (b.e 1) with last := b.last, clock := v } : Bk) = { b with clock := v } from by
    have : (fun j => if j = 1 then b.e 1 else b.e j) = b.e := by funext j; split <;> simp_all
    simp [Bk.upd, this]] at this
end

section
variable {w : World} {b₀ : Heap} {mean : ExcName → Option Value} {mg mb : Str → Option Value} {c : Cx} {env : Env} {E : Value → Shared → Prop} {lm : LM} {st : Store} {A : Ad} {a : AT} {i : Nat} {expr : Bool} {v : Value} {B : Addr}

/-- book[idx] -/
theorem ev_bookI {x : Str} {idx : Expr} {p1 p2 : Pos} {Q : MV → Store → Prop} (hk : env.scope.kind = .function) (hx : lm x = some (.ref B))
    (h : Ev w b₀ c env E (eval idx env) VR lm st fun i st₁ => ∃ k d b, i = .int k ∧ RepB B d st₁ b ∧ k ∈ b.ks ∧ Q (.ref (d k)) st₁)
    (hd : (x == ("__debug__" : Str)) = false := by decide) (hs : ∀ o i, subscripted idx false o i = operate [o, i] (getItem o i) := by intro _ _; with_unfolding_all rfl) :
    Ev w b₀ c env E (eval (.Subscript (.Name x p1) idx p2) env) VR lm st Q :=
  ev_subI (ev_name hk hx (h.mono fun i st₁ ⟨k, d, b, hi, R, hk, q⟩ => ⟨B, _, k, _, rfl, hi, R.bk, R.get hk, q⟩) hd) hs
/-- book[idx][name] -/
theorem ev_book {x name : Str} {idx : Expr} {p1 p2 p3 p4 : Pos} {ck} {Q : MV → Store → Prop} (hk : env.scope.kind = .function) (hx : lm x = some (.ref B))
    (h : Ev w b₀ c env E (eval idx env) VR lm st fun i st₁ => ∃ k d b kv mv, i = .int k ∧ RepB B d st₁ b ∧ k ∈ b.ks ∧ st₁ (d k) = some (.sdict kv) ∧ dget name kv = some mv ∧ Q mv st₁)
    (hd : (x == ("__debug__" : Str)) = false := by decide) (hs : ∀ o i, subscripted idx false o i = operate [o, i] (getItem o i) := by intro _ _; with_unfolding_all rfl)
    (hs' : ∀ o i, subscripted (.Constant (.str name) ck p3) false o i = operate [o, i] (getItem o i) := by intro _ _; with_unfolding_all rfl) :
    Ev w b₀ c env E (eval (.Subscript (.Subscript (.Name x p1) idx p2) (.Constant (.str name) ck p3) p4) env) VR lm st Q :=
  ev_subS (ev_bookI hk hx (h.mono fun i st₁ ⟨k, d, b, kv, mv, hi, R, hk, hkv, hg, q⟩ => ⟨k, d, b, hi, R, hk, ev_str ⟨d k, kv, name, mv, rfl, rfl, hkv, hg, q⟩⟩) hd hs) hs'
/-- mine[name] -/
theorem ev_mine {x name : Str} {D : Addr} {kv : List (Str × MV)} {mv : MV} {p1 p3 p4 : Pos} {ck} {Q : MV → Store → Prop} (hk : env.scope.kind = .function) (hx : lm x = some (.ref D)) (hD : st D = some (.sdict kv)) (hg : dget name kv = some mv) (q : Q mv st)
    (hd : (x == ("__debug__" : Str)) = false := by decide)
    (hs' : ∀ o i, subscripted (.Constant (.str name) ck p3) false o i = operate [o, i] (getItem o i) := by intro _ _; with_unfolding_all rfl) :
    Ev w b₀ c env E (eval (.Subscript (.Name x p1) (.Constant (.str name) ck p3) p4) env) VR lm st Q :=
  ev_subS (ev_name hk hx (ev_str ⟨D, kv, name, mv, rfl, rfl, hD, hg, q⟩) hd) hs'
end
end PartL3
section PartL4
open PySem PySem.W PyProof.Rows PySem.Spec PySem.Calls

def Bk.kid (b : Bk) (p : Int) (k : Int) : Prop := k ∈ b.ks ∧ (b.e k).parent = p

section
variable {w : World} {b₀ : Heap} {mean : ExcName → Option Value} {mg mb : Str → Option Value} {c : Cx} {env : Env} {E : Value → Shared → Prop} {lm : LM} {st : Store} {A : Ad} {a : AT} {i : Nat} {expr : Bool} {v : Value} {B : Addr} {d : Int → Addr} {b : Bk}

/-- a built-in function by its name, within a comprehension -/
theorem ev_bcallC {x : Str} {id : String} {np pos : Pos} {args : List Expr} {Q : MV → Store → Prop} (G : Gd w b₀ mean mg mb) (hgl : env.globals = mainGlobals) (hbi : env.builtins = builtinsNs) (hk : env.scope.kind = .function)
    (hr : nsIn (heapK w.params) mainGlobals x = some none) (hv : bootBuiltins x = some (.builtin id)) (hn : x ≠ "__name__")
    (h : Ev w b₀ c env E (spliced (backTo pos (starEach args env))) (All2 VR) lm st fun as st₁ => ∀ vs, All2 VR as vs → Ev w b₀ c env E (call (.builtin id) vs) VR lm st₁ Q)
    (he : ∀ e rest, args = e :: rest → starEach (e :: rest) env = (false, eval e env) :: starEach rest env ∧ (backTo pos (starEach rest env)).any (·.1) = false := by (intro _ _ e; cases e <;> exact ⟨rfl, rfl⟩))
    (hca : eval (.Call (.Name x np) args [] pos) env = (do callWith pos (← eval (.Name x np) env) [] (backTo pos (starEach args env)) (backToKw pos (keywordEach [] env))) := by rfl)
    (hx : env.kindOf x = some .globalImplicit := by rfl) (hd : (x == ("__debug__" : Str)) = false := by decide) : Ev w b₀ c env E (eval (.Call (.Name x np) args [] pos) env) VR lm st Q := fun s m P I S k =>
  Call_ (wp_bname G I hgl hbi hk hr hv hn hx hd (ev_callB (first := []) h he s m P I S k)) hca

theorem map_getD {f : Int → MV} {ks : List Int} {i : Nat} (h : i < ks.length) : (ks.map f).getD i .none = f ks[i] := by simp [List.getD_eq_getElem?_getD, h]
theorem map_getD' {α : Type} {f : α → MV} {ks : List α} {i : Nat} (h : i < ks.length) : (ks.map f).getD i .none = f ks[i] := by simp [List.getD_eq_getElem?_getD, h]
theorem take_filter_succ {α : Type} {p : α → Bool} {l : List α} {i : Nat} (h : i < l.length) : (l.take (i + 1)).filter p = (l.take i).filter p ++ (if p l[i] = true then [l[i]] else []) := by
  rw [List.take_add_one, List.getElem?_eq_getElem h, List.filter_append]; congr 1
  by_cases q : p l[i] = true <;> simp [q]

theorem cells_two {L L' : Addr} {x y : Str} {z : Str} {a : Addr} (e : List.lookup z [(x, L), (y, L')] = some a) : z = x ∨ z = y := by
  by_cases q : z = x
  · exact .inl q
  · by_cases q' : z = y
    · exact .inr q'
    · simp [List.lookup, beq_false_of_ne q, beq_false_of_ne q'] at e
theorem lm_two {x y z : Str} {u v mv : MV} (e : LM.of [(x, u), (y, v)] z = some mv) : (z = x ∧ mv = u) ∨ (z = y ∧ mv = v) := by
  unfold LM.of at e; split at e
  · rename_i q; cases e; exact .inl ⟨q, rfl⟩
  · unfold LM.of at e; split at e
    · rename_i q; cases e; exact .inr ⟨q, rfl⟩
    · cases e

theorem kids_ok {n : Nat} {p : Int} {vp : Value} {Q : MV → Store → Prop} (G : Gd w b₀ mean mg mb) (hc : c.OK (n + 1)) (hh : c.hd = none) (R : RepB B d st b) (hp : VR (.int p) vp)
    (hq : ∀ l (kl : List Int) st', Ext st st' → st' l = some (.list (kl.map .int)) → kl.length ≤ 50 → kl.Nodup → (∀ k, k ∈ kl ↔ b.kid p k) → Q (.ref l) st') :
    Ev w b₀ c env E (call (.ref 297) [.ref B, vp]) VR lm st Q := by
  refine' ev_enterC G hc (by k_is) (by k_is) (.cons (vr_ref _) (.cons hp .nil)) (by rfl) (fun n y hy => ?_) (by decide) (by rfl) ?_
  · change y ∈ (["book", "pid"] : List Str) at hy
    simp only [List.mem_cons, List.not_mem_nil, or_false] at hy
    rcases hy with rfl | rfl
    · exact .inr ⟨rfl, rfl⟩
    · exact .inr ⟨rfl, rfl⟩
  intro c' hc' he' hh'
  refine ex_ret (ev_compList (cl := [("pid", c'.L + 1 + 1), ("book", c'.L + 1)]) (lmF := LM.of [("book", .ref B), ("pid", .int p)]) hc' he'.symm (hh'.trans hh) (fun x a e => ?_) rfl (by decide) rfl (by decide) rfl (fun y mv e => ?_) (ev_bcall G hc' he'.symm (by k_is) boot_sorted (by decide) (ev_args_cons (ev_name rfl rfl (ev_args_nil ?_)))))
  · rcases cells_two e with rfl | rfl
    · exact ⟨_, rfl, rfl⟩
    · exact ⟨_, rfl, rfl⟩
  · rcases lm_two e with ⟨rfl, rfl⟩ | ⟨rfl, rfl⟩
    · exact ⟨rfl, rfl, rfl, rfl⟩
    · exact ⟨rfl, rfl, rfl, rfl⟩
  refine all2_r1 ?_
  have hl64 := R.len
  refine call_sortedI (hh'.trans hh) R.bk (by rw [List.length_map]; omega) fun l ks hl hperm => ?_
  rw [List.map_map] at hperm
  have hperm : ks.Perm b.ks := by simpa [Function.comp_def] using hperm
  have X := Ext.new (mo := .list (ks.map .int)) hl
  have hls := Store.set_self st l (.list (ks.map .int))
  generalize st.set l (.list (ks.map .int)) = st₁ at X hls ⊢
  have R₁ := R.ext X
  have hlen : ks.length ≤ 50 := by rw [hperm.length_eq]; exact R.len
  refine ⟨l, _, rfl, hls, by rw [sizeLine_eq, List.length_map]; omega, fun k acc st' => st' = st₁ ∧ acc = ((ks.take k).filter fun k => decide ((b.e k).parent = p)).map .int, ⟨rfl, rfl⟩, fun _ _ _ h => h.1 ▸ hls, ?_, ?_⟩
  · rintro k acc st' C E' hk ⟨rfl, rfl⟩
    have hk : k < ks.length := by simpa using hk
    have hmem : ks[k] ∈ b.ks := hperm.mem_iff.mp (List.getElem_mem hk)
    (first | refine e0a4 (fun kv e1 e2 e3 => ?_) (R₁.e _ hmem) | refine e1a3 (fun kv e1 e2 e3 => ?_) (R₁.e _ hmem) | refine e2a2 (fun kv e1 e2 e3 => ?_) (R₁.e _ hmem) | obtain ⟨kv, e1, e2, e3⟩ := R₁.e _ hmem)
    have ho : lmC "one" ((fun i => (ks.map MV.int).getD i .none) k) (LM.of [("book", .ref B), ("pid", .int p)]) "one" = some (.int ks[k]) := by unfold lmC; rw [if_pos rfl]; exact congrArg some (map_getD hk)
    refine ct_one (tr_cmp (ev_book rfl rfl (ev_name rfl ho ⟨_, d, b, kv, _, rfl, R₁, hmem, e1, e2.parent, ev_name rfl rfl ?_⟩)))
    refine cmp_eq_intU ⟨_, rfl, ?_⟩
    by_cases q : (b.e ks[k]).parent = p
    · (first | refine iteP (by simpa using q) ?_ | rw [if_pos (by simpa using q)])
      exact ev_name rfl ho ⟨rfl, by rw [take_filter_succ hk, if_pos (by simpa using q)]; simp⟩
    · (first | refine iteN (by simpa using q) ?_ | rw [if_neg (by simpa using q)])
      exact ⟨rfl, by rw [take_filter_succ hk, if_neg (by simpa using q)]; simp⟩
  · rintro D acc st' ⟨rfl, rfl⟩ hD
    rw [List.length_map, List.take_length]
    refine hq D _ _ (X.trans (Ext.new hD)) (Store.set_self _ _ _) (Nat.le_trans (List.length_filter_le _ _) hlen) ((hperm.nodup_iff.mpr R.nd).sublist List.filter_sublist) fun k => ?_
    rw [List.mem_filter, hperm.mem_iff]; simp [Bk.kid]

def Bk.fair (b : Bk) (p : Int) : Prop := ∀ k ∈ b.ks, k ≠ p → (b.e k).state = .ready → (b.e p).turn ≤ max (b.e k).since (b.e k).turn

theorem fair_ok {n : Nat} {p : Int} {vp : Value} {Q : MV → Store → Prop} (G : Gd w b₀ mean mg mb) (hc : c.OK (n + 1)) (hh : c.hd = none) (R : RepB B d st b) (hp : VR (.int p) vp) (hpk : p ∈ b.ks) (hf : b.fair p)
    (hq : ∀ st', Ext st st' → Q (.bool true) st') :
    Ev w b₀ c env E (call (.ref 328) [.ref B, vp]) VR lm st Q := by
  refine' ev_enterC G hc (by k_is) (by k_is) (.cons (vr_ref _) (.cons hp .nil)) (by rfl) (fun n y hy => ?_) (by decide) (by rfl) ?_
  · change y ∈ (["book", "pid"] : List Str) at hy
    simp only [List.mem_cons, List.not_mem_nil, or_false] at hy
    rcases hy with rfl | rfl
    · exact .inr ⟨rfl, rfl⟩
    · exact .inr ⟨rfl, rfl⟩
  intro c' hc' he' hh'
  refine ex_assignComp (cl := [("pid", c'.L + 1 + 1), ("book", c'.L + 1)]) (lmF := LM.of [("book", .ref B), ("pid", .int p)]) hc' he'.symm (hh'.trans hh) (fun x a e => ?_) rfl (by decide) rfl (by decide) rfl (fun y mv e => ?_) (ev_bcall G hc' he'.symm (by k_is) boot_sorted (by decide) (ev_args_cons (ev_name rfl rfl (ev_args_nil ?_))))
  · rcases cells_two e with rfl | rfl
    · exact ⟨_, rfl, rfl⟩
    · exact ⟨_, rfl, rfl⟩
  · rcases lm_two e with ⟨rfl, rfl⟩ | ⟨rfl, rfl⟩
    · exact ⟨rfl, rfl, rfl, rfl⟩
    · exact ⟨rfl, rfl, rfl, rfl⟩
  refine all2_r1 ?_
  have hl64 := R.len
  refine call_sortedI (hh'.trans hh) R.bk (by rw [List.length_map]; omega) fun l ks hl hperm => ?_
  rw [List.map_map] at hperm
  have hperm : ks.Perm b.ks := by simpa [Function.comp_def] using hperm
  have X := Ext.new (mo := .list (ks.map .int)) hl
  have hls := Store.set_self st l (.list (ks.map .int))
  generalize st.set l (.list (ks.map .int)) = st₁ at X hls ⊢
  have R₁ := R.ext X
  have hlen : ks.length ≤ 50 := by rw [hperm.length_eq]; exact R.len
  refine ⟨l, _, rfl, hls, by rw [sizeLine_eq, List.length_map]; omega, fun k acc st' => st' = st₁ ∧ acc = ((ks.take k).filter fun k => decide (k ≠ p ∧ (b.e k).state = .ready)).map fun k => .ref (d k), ⟨rfl, rfl⟩, fun _ _ _ h => h.1 ▸ hls, ?_, ?_⟩
  · rintro k acc st' C E' hk ⟨rfl, rfl⟩
    have hk : k < ks.length := by simpa using hk
    have hmem : ks[k] ∈ b.ks := hperm.mem_iff.mp (List.getElem_mem hk)
    (first | refine e0a4 (fun kv e1 e2 e3 => ?_) (R₁.e _ hmem) | refine e1a3 (fun kv e1 e2 e3 => ?_) (R₁.e _ hmem) | refine e2a2 (fun kv e1 e2 e3 => ?_) (R₁.e _ hmem) | obtain ⟨kv, e1, e2, e3⟩ := R₁.e _ hmem)
    have ho : lmC "one" ((fun i => (ks.map MV.int).getD i .none) k) (LM.of [("book", .ref B), ("pid", .int p)]) "one" = some (.int ks[k]) := by unfold lmC; rw [if_pos rfl]; exact congrArg some (map_getD hk)
    refine ct_one (tr_and (tr_cmp (ev_name rfl ho (ev_name rfl rfl ?_))))
    refine cmp_ne_intU ⟨_, rfl, ?_⟩
    by_cases q : ks[k] = p
    · (first | refine iteN (by simpa using q) ?_ | rw [if_neg (by simpa using q)]); (first | refine iteN (by decide) ?_ | rw [if_neg (by decide)])
      exact ⟨rfl, by rw [take_filter_succ hk, if_neg (by simp [q])]; simp⟩
    · (first | refine iteP (by simpa using q) ?_ | rw [if_pos (by simpa using q)])
      refine tr_and (tr_cmp (ev_book rfl rfl (ev_name rfl ho ⟨_, d, b, kv, _, rfl, R₁, hmem, e1, e2.state, ev_str ?_⟩)))
      refine cmp_eq_strU ⟨_, rfl, ?_⟩
      rw [show ("ready" : Str) = BS.ready.str from rfl, BS.str_beq]
      by_cases q' : (b.e ks[k]).state = .ready
      · (first | refine iteP (by simpa using q') ?_ | rw [if_pos (by simpa using q')])
        refine tr_and_nil ?_
        (first | refine iteP rfl ?_ | rw [if_pos rfl])
        refine ev_bookI rfl rfl (ev_name rfl ho ⟨_, d, b, rfl, R₁, hmem, rfl, ?_⟩)
        rw [take_filter_succ hk, if_pos (by simp [q, q'])]; simp
      · (first | refine iteN (by simpa using q') ?_ | rw [if_neg (by simpa using q')]); (first | refine iteN (by decide) ?_ | rw [if_neg (by decide)])
        exact ⟨rfl, by rw [take_filter_succ hk, if_neg (by simp [q'])]; simp⟩
  · rintro D acc st' ⟨rfl, rfl⟩ hD
    rw [List.length_map, List.take_length]
    have X₂ := Ext.new (mo := .list ((ks.filter fun k => decide (k ≠ p ∧ (b.e k).state = .ready)).map fun k => .ref (d k))) hD
    have hls₂ := Store.set_self st' D (.list ((ks.filter fun k => decide (k ≠ p ∧ (b.e k).state = .ready)).map fun k => .ref (d k)))
    have hmo : ∀ k ∈ ks.filter (fun k => decide (k ≠ p ∧ (b.e k).state = .ready)), k ∈ b.ks ∧ k ≠ p ∧ (b.e k).state = .ready := fun k hk => by
      rw [List.mem_filter, hperm.mem_iff] at hk; simpa using hk
    have hol : (ks.filter fun k => decide (k ≠ p ∧ (b.e k).state = .ready)).length ≤ 50 := Nat.le_trans (List.length_filter_le _ _) hlen
    generalize (ks.filter fun k => decide (k ≠ p ∧ (b.e k).state = .ready)) = os at X₂ hls₂ hmo hol ⊢
    generalize st'.set D (.list (os.map fun k => .ref (d k))) = st₂ at X₂ hls₂ ⊢
    have R₂ := R₁.ext X₂
    refine ex_ret (ev_cmp (ev_compList (cl := [("pid", c'.L + 1 + 1), ("book", c'.L + 1)]) (lmF := LM.of [("book", .ref B), ("pid", .int p)]) hc' he'.symm (hh'.trans hh) (fun x a e => ?_) rfl (by decide) rfl (by decide) rfl (fun y mv e => ?_) (ev_name rfl rfl ?_)))
    · rcases cells_two e with rfl | rfl
      · exact ⟨_, rfl, rfl⟩
      · exact ⟨_, rfl, rfl⟩
    · rcases lm_two e with ⟨rfl, rfl⟩ | ⟨rfl, rfl⟩
      · exact ⟨rfl, rfl, rfl, rfl⟩
      · exact ⟨rfl, rfl, rfl, rfl⟩
    refine ⟨D, _, rfl, hls₂, by rw [sizeLine_eq, List.length_map]; omega, fun k acc st' => st' = st₂ ∧ acc = [], ⟨rfl, rfl⟩, fun _ _ _ h => h.1 ▸ hls₂, ?_, ?_⟩
    · rintro k acc st' C E' hk ⟨rfl, rfl⟩
      have hk : k < os.length := by simpa using hk
      (first | refine e0a3 (fun hmem hne hready => ?_) (hmo _ (List.getElem_mem hk)) | refine e1a2 (fun hmem hne hready => ?_) (hmo _ (List.getElem_mem hk)) | refine e2a1 (fun hmem hne hready => ?_) (hmo _ (List.getElem_mem hk)) | obtain ⟨hmem, hne, hready⟩ := hmo _ (List.getElem_mem hk))
      (first | refine e0a4 (fun kv e1 e2 e3 => ?_) (R₂.e _ hmem) | refine e1a3 (fun kv e1 e2 e3 => ?_) (R₂.e _ hmem) | refine e2a2 (fun kv e1 e2 e3 => ?_) (R₂.e _ hmem) | obtain ⟨kv, e1, e2, e3⟩ := R₂.e _ hmem)
      (first | refine e0a4 (fun kp f1 f2 f3 => ?_) (R₂.e _ hpk) | refine e1a3 (fun kp f1 f2 f3 => ?_) (R₂.e _ hpk) | refine e2a2 (fun kp f1 f2 f3 => ?_) (R₂.e _ hpk) | obtain ⟨kp, f1, f2, f3⟩ := R₂.e _ hpk)
      have ho : lmC "one" ((fun i => (os.map fun k => MV.ref (d k)).getD i .none) k) (LM.of [("book", .ref B), ("pid", .int p)]) "one" = some (.ref (d os[k])) := by unfold lmC; rw [if_pos rfl]; exact congrArg some (map_getD' hk)
      refine ct_one (tr_cmp (ev_bcallC G rfl rfl rfl (by k_is) boot_max (by decide) (ev_args_cons (ev_mine rfl ho e1 e2.since (ev_args_cons (ev_mine rfl ho e1 e2.turn (ev_args_nil ?_)))))))
      refine all2_v2 fun v u hv hu => ?_
      refine call_max (hh'.trans hh) hv hu (ev_book rfl rfl (ev_name rfl rfl ⟨_, d, b, kp, _, rfl, R₂, hpk, f1, f2.turn, ?_⟩))
      refine cmp_lt_intU ⟨_, rfl, ?_⟩
      have := hf _ hmem hne hready
      (first | refine iteN (by simpa using this) ?_ | rw [if_neg (by simpa using this)])
      exact ⟨rfl, rfl⟩
    · rintro D₂ acc st' ⟨rfl, rfl⟩ hD₂
      have X₃ := Ext.new (mo := .list []) hD₂
      have hd₃ := Store.set_self st' D₂ (.list [])
      generalize st'.set D₂ (.list []) = st₃ at X₃ hd₃ ⊢
      refine ev_list (ev_args_nil ⟨by simp, fun l₄ hl₄ => ?_⟩)
      have X₄ := Ext.new (mo := .list []) hl₄
      exact cmp_eq_nilU hc' (X₄ _ _ hd₃) (Store.set_self _ _ _) (hq _ (((X.trans X₂).trans X₃).trans X₄))
end
end PartL4
section PartL5
open PySem PySem.W PyProof.Rows PySem.Spec PySem.Calls

theorem RepB.cast {B : Addr} {d : Int → Addr} {st : Store} {b b' : Bk} (R : RepB B d st b) (e : b = b') : RepB B d st b' := e ▸ R
def Bk.wakeF (b : Bk) (k : Int) : Bk := b.upd k { b.e k with state := .ready, since := b.clock }
def Bk.killF (b : Bk) (p : Int) : Bk :=
  if (b.e p).state = .asleep then b.upd p { b.e p with killed := true, state := .ready, since := b.clock } else b.upd p { b.e p with killed := true }

section
variable {w : World} {b₀ : Heap} {mean : ExcName → Option Value} {mg mb : Str → Option Value} {c : Cx} {env : Env} {E : Value → Shared → Prop} {lm : LM} {st : Store} {A : Ad} {a : AT} {i : Nat} {expr : Bool} {v : Value} {B : Addr} {d : Int → Addr} {b : Bk}

/-- book[pid]['state'], book[pid]['since'] = ('ready', book[1]['clock']) -/
theorem ex_wakeB {k : Int} {p1 p2 p3 p4 p5 p6 p7 p8 p9 p10 p11 p12 p13 p14 p15 p16 p17 p18 p19 : Pos} {c1 c2 c3 c4 c5} {kk k2 : Nat} {rest : List Stmt} {Q : MF → LM → Store → Prop} (hh : c.hd = none) (hf : env.scope.kind = .function) (R : RepB B d st b) (hk : k ∈ b.ks)
    (hb : lm "book" = some (.ref B)) (hp : lm "pid" = some (.int k))
    (h : ∀ st', RepB B d st' (b.wakeF k) → (∀ A a, RepT A a st → RepT A a st') → LT st st' → Ex w b₀ c env E (execs rest env) lm st' Q)
    (hs : swapsWithSole [.Tuple [.Subscript (.Subscript (.Name "book" p1) (.Name "pid" p2) p3) (.Constant (.str "state") c1 p4) p5, .Subscript (.Subscript (.Name "book" p6) (.Name "pid" p7) p8) (.Constant (.str "since") c2 p9) p10] kk p11] (.Tuple [.Constant (.str "ready") c3 p12, .Subscript (.Subscript (.Name "book" p13) (.Constant (.int 1) c4 p14) p15) (.Constant (.str "clock") c5 p16) p17] k2 p18) p19.line env = pure false := by rfl)
    (hw : swappedStores [.Tuple [.Subscript (.Subscript (.Name "book" p1) (.Name "pid" p2) p3) (.Constant (.str "state") c1 p4) p5, .Subscript (.Subscript (.Name "book" p6) (.Name "pid" p7) p8) (.Constant (.str "since") c2 p9) p10] kk p11] (.Tuple [.Constant (.str "ready") c3 p12, .Subscript (.Subscript (.Name "book" p13) (.Constant (.int 1) c4 p14) p15) (.Constant (.str "clock") c5 p16) p17] k2 p18) env = pure none := by rfl) :
    Ex w b₀ c env E (execs (.Assign [.Tuple [.Subscript (.Subscript (.Name "book" p1) (.Name "pid" p2) p3) (.Constant (.str "state") c1 p4) p5, .Subscript (.Subscript (.Name "book" p6) (.Name "pid" p7) p8) (.Constant (.str "since") c2 p9) p10] kk p11] (.Tuple [.Constant (.str "ready") c3 p12, .Subscript (.Subscript (.Name "book" p13) (.Constant (.int 1) c4 p14) p15) (.Constant (.str "clock") c5 p16) p17] k2 p18) p19 :: rest) env) lm st Q := by
  (first | refine e0a4 (fun k1 f1 f2 f3 => ?_) (R.e 1 R.one) | refine e1a3 (fun k1 f1 f2 f3 => ?_) (R.e 1 R.one) | refine e2a2 (fun k1 f1 f2 f3 => ?_) (R.e 1 R.one) | obtain ⟨k1, f1, f2, f3⟩ := R.e 1 R.one)
  (first | refine e0a4 (fun kv e1 e2 e3 => ?_) (R.e k hk) | refine e1a3 (fun kv e1 e2 e3 => ?_) (R.e k hk) | refine e2a2 (fun kv e1 e2 e3 => ?_) (R.e k hk) | obtain ⟨kv, e1, e2, e3⟩ := R.e k hk)
  refine ex_assign2 (hs := hs) (hw := hw) hh (ev_tuple (ev_args_cons (ev_str (ev_args_cons (ev_book hf hb (ev_int ⟨1, d, b, k1, _, rfl, R, R.one, f1, (f3 rfl).2, ev_args_nil ⟨by simp [sizeLine_eq], fun t ht => ⟨t, _, _, rfl, Store.set_self _ _ _, ?_⟩⟩⟩))))))
  have X := Ext.new (mo := .tuple [.str "ready", .int b.clock]) ht
  intro va vb ha hb'
  have R₁ := R.ext X
  have g1 := X _ _ e1
  have TT : ∀ A a, RepT A a st → RepT A a (st.set t (.tuple [.str "ready", .int b.clock])) := fun A a RT => RT.ext X
  have LL := X.lt
  generalize st.set t (.tuple [.str "ready", .int b.clock]) = st₁ at R₁ g1 TT LL ⊢
  refine as_cons (as_sub (ev_bookI hf hb (ev_name hf hp ⟨k, d, b, rfl, R₁, hk, ev_str ?_⟩)))
  refine vr_r2 fun vj hj => ?_
  obtain ⟨l2, R₂⟩ := R₁.set_state hk g1 .ready
  refine set_S g1 l2 hj ha ?_
  have g2 := Store.set_self st₁ (d k) (.sdict (dput ("state" : Str) (.str BS.ready.str) kv))
  have TT₂ : ∀ A a, RepT A a st → RepT A a (st₁.set (d k) (.sdict (dput ("state" : Str) (.str BS.ready.str) kv))) := fun A a RT => (TT A a RT).setO g1 (.inl ⟨_, rfl⟩)
  have LL₂ : LT st (st₁.set (d k) (.sdict (dput ("state" : Str) (.str BS.ready.str) kv))) := LL.trans (LT.setD g1 (.inl ⟨_, rfl⟩))
  show As w b₀ c env E _ lm (st₁.set (d k) (.sdict (dput ("state" : Str) (.str BS.ready.str) kv))) _
  generalize st₁.set (d k) (.sdict (dput ("state" : Str) (.str BS.ready.str) kv)) = st₂ at R₂ g2 TT₂ LL₂ ⊢
  refine as_cons (as_sub (ev_bookI hf hb (ev_name hf hp ⟨k, d, _, rfl, R₂, hk, ev_str ?_⟩)))
  refine vr_r2 fun vj hj => ?_
  obtain ⟨l3, R₃⟩ := R₂.set_since hk g2 b.clock
  refine set_S g2 l3 hj hb' (as_nil ?_)
  refine h _ (R₃.cast ?_) (fun A a RT => (TT₂ A a RT).setO g2 (.inl ⟨_, rfl⟩)) (LL₂.trans (LT.setD g2 (.inl ⟨_, rfl⟩)))
  unfold Bk.wakeF Bk.upd
  congr 1
  funext j
  by_cases q : j = k <;> simp [q]

theorem killed_ok {n : Nat} {p : Int} {vp : Value} {Q : MV → Store → Prop} (G : Gd w b₀ mean mg mb) (hc : c.OK (n + 4)) (hh : c.hd = none) (R : RepT A a st) (RB : RepB B d st b) (hp : VR (.int p) vp) (h0 : 0 ≤ p) (h9 : p < 9)
    (L1 : ∀ i, i < A.n → (a.ps i).state ≠ .unused → (a.ps i).pid ∈ b.ks) (L2 : ∀ k ∈ b.ks, ∃ i, i < A.n ∧ (a.ps i).state ≠ .unused ∧ (a.ps i).pid = k)
    (hq : ∀ i, i < A.n → (a.ps i).state ≠ .unused → (a.ps i).pid = p → ∀ st', RepT A (a.killF i) st' → RepB B d st' (b.killF p) → LT st st' → Q (.bool true) st') (hx : p ∉ b.ks → RepT A a st → RepB B d st b → Q (.bool true) st) :
    Ev w b₀ c env E (call (.ref 323) [.ref B, .ref A.T, vp]) VR lm st Q := by
  refine' ev_enterP G hc (by k_is) (by k_is) (.cons (vr_ref _) (.cons (vr_ref _) (.cons hp .nil))) (by rfl) (by rfl) (by decide) (by rfl) ?_
  intro c' hc' he' hh'
  have hcn := hh'.trans hh
  refine ex_tryExpr G hc' he'.symm exOk64 (by k_is) (evX_meth G fun E => ev_name rfl rfl ⟨A.T, 274, A.TD, _, 264, rfl, R.t, R.td, nT_kill _, mT_kill, ev_args_cons (ev_name rfl rfl (ev_args_nil ?_))⟩)
  refine all2_v1 fun v hv => ?_
  refine kill_ok G hc' hcn R hv h0 h9 (fun i hi hu hpid st₁ R₁ K₁ => ?_) (fun hno => ?_)
  · have RB₁ := RB.keep R K₁
    have LL : LT st st₁ := ⟨fun _ _ e => R.kept K₁ e (by intro _ q; cases q), fun _ _ e => R.kept K₁ e (by intro _ q; cases q)⟩
    have hmem : p ∈ b.ks := hpid ▸ L1 i hi hu
    have hq := hq i hi hu hpid
    refine ex_if (tr_cmp (ev_name rfl rfl (ev_name rfl rfl ?_)))
    refine cmp_notinIU RB₁.bk ⟨_, rfl, ?_⟩
    rw [RB₁.isSome]; (first | refine iteN (by simp [hmem]) ?_ | rw [if_neg (by simp [hmem])])
    refine ex_nil ?_
    (first | refine e0a4 (fun kv e1 e2 e3 => ?_) (RB₁.e _ hmem) | refine e1a3 (fun kv e1 e2 e3 => ?_) (RB₁.e _ hmem) | refine e2a2 (fun kv e1 e2 e3 => ?_) (RB₁.e _ hmem) | obtain ⟨kv, e1, e2, e3⟩ := RB₁.e _ hmem)
    refine ex_assignSub (ev_bool (ev_bookI rfl rfl (ev_name rfl rfl ⟨p, d, b, rfl, RB₁, hmem, ev_str ?_⟩)))
    refine vr_r3 fun vj vv hj hv => ?_
    obtain ⟨l2, RB₂⟩ := RB₁.set_killed hmem e1 true
    refine set_S e1 l2 hj hv ?_
    have R₂ := R₁.setO (mo' := .sdict (dput ("killed" : Str) (.bool true) kv)) e1 (.inl ⟨_, rfl⟩)
    have LL₂ := LL.trans (LT.setD (mo' := .sdict (dput ("killed" : Str) (.bool true) kv)) e1 (.inl ⟨_, rfl⟩))
    generalize st₁.set (d p) (.sdict (dput ("killed" : Str) (.bool true) kv)) = st₂ at R₂ RB₂ LL₂ ⊢
    (first | refine e0a4 (fun kv₂ f1 f2 f3 => ?_) (RB₂.e _ hmem) | refine e1a3 (fun kv₂ f1 f2 f3 => ?_) (RB₂.e _ hmem) | refine e2a2 (fun kv₂ f1 f2 f3 => ?_) (RB₂.e _ hmem) | obtain ⟨kv₂, f1, f2, f3⟩ := RB₂.e _ hmem)
    refine ex_if (tr_cmp (ev_book rfl rfl (ev_name rfl rfl ⟨_, d, _, kv₂, _, rfl, RB₂, hmem, f1, f2.state, ev_str ?_⟩)))
    refine cmp_eq_strU ⟨_, rfl, ?_⟩
    rw [show ("asleep" : Str) = BS.asleep.str from rfl, BS.str_beq, Bk.upd_self]
    by_cases q : (b.e p).state = .asleep
    · (first | refine iteP (by simpa using q) ?_ | rw [if_pos (by simpa using q)])
      refine ex_wakeB hcn rfl RB₂ hmem rfl rfl fun st₃ RB₃ TT LL₃ => ex_nil (ex_ret (ev_bool (hq st₃ (TT _ _ R₂) (RB₃.cast ?_) (LL₂.trans LL₃))))
      unfold Bk.wakeF Bk.killF Bk.upd
      (first | refine iteP q ?_ | rw [if_pos q])
      simp only [↓reduceIte, Bk.mk.injEq, true_and, and_true]
      funext j
      by_cases q : j = p <;> simp [q]
    · (first | refine iteN (by simpa using q) ?_ | rw [if_neg (by simpa using q)])
      refine ex_nil (ex_ret (ev_bool (hq st₂ R₂ (RB₂.cast ?_) LL₂)))
      unfold Bk.killF; (first | refine iteN q ?_ | rw [if_neg q])
  · intro v E'
    refine ex_ret (ev_cmp (ev_name rfl rfl (ev_name rfl rfl ?_)))
    intro va vb ha hb
    have hmem : p ∉ b.ks := fun h => by
      (first | refine e0a4 (fun i hi hu e => ?_) (L2 p h) | refine e1a3 (fun i hi hu e => ?_) (L2 p h) | refine e2a2 (fun i hi hu e => ?_) (L2 p h) | obtain ⟨i, hi, hu, e⟩ := L2 p h)
      exact hno i hi hu e
    refine cmp_notinI ha hb RB.bk ?_
    rw [RB.isSome, show (!decide (p ∈ b.ks)) = true by simp [hmem]]
    exact hx hmem R RB
end
end PartL5
section PartL6
open PySem PySem.W PyProof.Rows PySem.Spec PySem.Calls

def Bk.forkF (b : Bk) (p q : Int) (ds : List Deed) : Bk :=
  { ks := b.ks ++ [q], e := fun k => if k = q then ⟨p, ds, .ready, b.clock, 0, none, false⟩ else b.e k, last := q, clock := b.clock }
theorem forkF_ps {a : AT} {j i : Nat} (k : Nat) : (a.forkF j i).ps k = if k = i then { pid := a.next, state := .ready, parent := some j } else a.ps k := by
  unfold AT.forkF AT.readyF AT.newF AT.set
  by_cases q : k = i <;> simp [q]

section
variable {w : World} {b₀ : Heap} {mean : ExcName → Option Value} {mg mb : Str → Option Value} {c : Cx} {env : Env} {E : Value → Shared → Prop} {lm : LM} {st : Store} {A : Ad} {a : AT} {i : Nat} {expr : Bool} {v : Value} {B : Addr} {d : Int → Addr} {b : Bk}

theorem kept_lt {st' : Store} (R : RepT A a st) (K : Keep A st st') : LT st st' := ⟨fun _ _ e => R.kept K e (by intro _ q; cases q), fun _ _ e => R.kept K e (by intro _ q; cases q)⟩

theorem forked_ok {n j : Nat} {pl : Addr} {ds : List Deed} {vm : Value} {Q : MV → Store → Prop} (G : Gd w b₀ mean mg mb) (hc : c.OK (n + 6)) (hh : c.hd = none) (R : RepT A a st) (RB : RepB B d st b) (hj : j < A.n) (hju : (a.ps j).state ≠ .unused) (hpl : PlanAt st pl ds) (hm : VR (.int (A.n : Nat)) vm)
    (hnext : a.next = b.last + 1) (hlast : ∀ k ∈ b.ks, k ≤ b.last) (h1 : 1 ≤ b.last) (hfull : (∀ i, i < A.n → (a.ps i).state ≠ .unused) → b.ks.length = A.n) (hroom : ∀ i, i < A.n → (a.ps i).state = .unused → b.ks.length ≠ A.n) (h50 : b.ks.length < 50)
    (hq : ∀ i, i < A.n → (a.ps i).state = .unused → (∀ k, k < i → (a.ps k).state ≠ .unused) → ∀ st' d', (∀ k ∈ b.ks, d' k = d k) → RepT A (a.forkF j i) st' → RepB B d' st' (b.forkF (a.ps j).pid a.next ds) → LT st st' → Q (.bool true) st') (hx : (∀ i, i < A.n → (a.ps i).state ≠ .unused) → RepT A a st → RepB B d st b → Q (.bool true) st) :
    Ev w b₀ c env E (call (.ref 304) [.ref B, .ref A.T, .ref (A.P j), .ref pl, vm]) VR lm st Q := by
  refine' ev_enterP G hc (by k_is) (by k_is) (.cons (vr_ref _) (.cons (vr_ref _) (.cons (vr_ref _) (.cons (vr_ref _) (.cons hm .nil))))) (by rfl) (by rfl) (by decide) (by rfl) ?_
  intro c' hc' he' hh'
  have hcn := hh'.trans hh
  refine ex_tryAssign G hc' he'.symm exOk52 (by k_is) (evX_meth G fun E => ev_name rfl rfl ⟨A.T, 274, A.TD, _, 208, rfl, R.t, R.td, nT_fork _, mT_fork, ev_args_cons (ev_name rfl rfl (ev_args_nil ?_))⟩)
  refine all2_r1 ?_
  refine fork_ok G hc' hcn R hj hju (fun i hi hu hk st₁ R₁ K₁ => ?_) (fun hno => ?_)
  · have RB₁ := RB.keep R K₁
    have LL := kept_lt R K₁
    have hq := hq i hi hu hk
    have hps : ((a.forkF j i).ps i).pid = a.next := by rw [forkF_ps, if_pos rfl]
    have hps' : ((a.forkF j i).ps j).pid = (a.ps j).pid := by
      rw [forkF_ps]; (first | refine iteN (fun e : j = i => hju (e ▸ hu)) ?_ | rw [if_neg (fun e : j = i => hju (e ▸ hu))])
    generalize a.forkF j i = a₁ at R₁ hps hps' hq ⊢
    refine ex_if (tr_or (tr_cmp (ev_bcall G hc' he'.symm (by k_is) boot_len (by decide) (ev_args_cons (ev_name rfl rfl (ev_args_nil ?_))))))
    refine all2_r1 ?_
    refine call_lenI RB₁.bk (by rw [sizeLine_eq, List.length_map]; omega) (ev_name rfl rfl ?_)
    refine cmp_eq_intU ⟨_, rfl, ?_⟩
    rw [List.length_map]; (first | refine iteN (by have := hroom i hi hu; simp; omega) ?_ | rw [if_neg (by have := hroom i hi hu; simp; omega)])
    refine tr_or (tr_cmp (ev_attr (ev_name rfl rfl ?_)))
    refine vr_r ?_
    (first | refine e0a4 (fun k1 f1 f2 f3 => ?_) (RB₁.e 1 RB₁.one) | refine e1a3 (fun k1 f1 f2 f3 => ?_) (RB₁.e 1 RB₁.one) | refine e2a2 (fun k1 f1 f2 f3 => ?_) (RB₁.e 1 RB₁.one) | obtain ⟨k1, f1, f2, f3⟩ := RB₁.e 1 RB₁.one)
    refine gp_pid G R₁ hi (ev_book rfl rfl (ev_int ⟨1, d, b, k1, _, rfl, RB₁, RB₁.one, f1, (f3 rfl).1, ?_⟩))
    refine cmp_le_intU ⟨_, rfl, ?_⟩
    rw [hps]; (first | refine iteN (by simp; omega) ?_ | rw [if_neg (by simp; omega)])
    refine tr_or (tr_cmp (ev_subList (ev_attr (ev_name rfl rfl ?_))))
    refine gp_registersU G R₁ hi fun r vs hr hl h10 => ev_int ⟨r, vs, 10, _, rfl, rfl, hr, by decide, by decide, h10, ev_int ?_⟩
    refine cmp_ne_intU ⟨_, rfl, ?_⟩
    (first | refine iteN (by decide) ?_ | rw [if_neg (by decide)])
    refine tr_or_nil ?_
    (first | refine iteN (by decide) ?_ | rw [if_neg (by decide)])
    refine ex_nil ?_
    -- book[1]['last'] = child.pid
    refine ex_assignSub (ev_attr (ev_name rfl rfl ?_))
    refine gp_pidU G R₁ hi (ev_bookI rfl rfl (ev_int ⟨1, d, b, rfl, RB₁, RB₁.one, ev_str ?_⟩))
    refine vr_r3 fun vj vv hj' hv => ?_
    rw [hps] at hv
    obtain ⟨l2, RB₂⟩ := RB₁.set_last f1 a.next
    refine set_S f1 l2 hj' hv ?_
    have R₂ := R₁.setO (mo' := .sdict (dput ("last" : Str) (.int a.next) k1)) f1 (.inl ⟨_, rfl⟩)
    have LL₂ := LL.trans (LT.setD (mo' := .sdict (dput ("last" : Str) (.int a.next) k1)) f1 (.inl ⟨_, rfl⟩))
    generalize st₁.set (d 1) (.sdict (dput ("last" : Str) (.int a.next) k1)) = st₂ at R₂ RB₂ LL₂ ⊢
    -- book[child.pid] = {...}
    refine ex_assignSub (ev_dictS (by rfl) (by rfl) (by simp) (by decide) fun D hD => ?_)
    have X₃ := Ext.new (mo := .sdict []) hD
    have hD₃ := Store.set_self st₂ D (.sdict [])
    generalize st₂.set D (.sdict []) = st₃ at X₃ hD₃ ⊢
    have R₃ := R₂.ext X₃
    have RB₃ := RB₂.ext X₃
    (first | refine e0a4 (fun k1 f1 f2 f3 => ?_) (RB₃.e 1 RB₃.one) | refine e1a3 (fun k1 f1 f2 f3 => ?_) (RB₃.e 1 RB₃.one) | refine e2a2 (fun k1 f1 f2 f3 => ?_) (RB₃.e 1 RB₃.one) | obtain ⟨k1, f1, f2, f3⟩ := RB₃.e 1 RB₃.one)
    refine ev_pairs_cons (ev_str (ev_attr (ev_name rfl rfl ?_)))
    refine gp_pidU G R₃ hj (ev_pairs_cons (ev_str (ev_name rfl rfl (ev_pairs_cons (ev_str (ev_str (ev_pairs_cons (ev_str (ev_book rfl rfl (ev_int ⟨1, d, _, k1, _, rfl, RB₃, RB₃.one, f1, (f3 rfl).2, ev_pairs_cons (ev_str (ev_int (ev_pairs_nil ?_)))⟩))))))))))
    rw [hps']
    refine ⟨[("parent", .int (a.ps j).pid), ("plan", .ref pl), ("state", .str "ready"), ("since", .int b.clock), ("turn", .int 0)], rfl, by show (["parent", "plan", "state", "since", "turn"] : List Str).Nodup; decide, hD₃, ?_⟩
    have hD₄ := Store.set_self st₃ D (.sdict [("parent", .int (a.ps j).pid), ("plan", .ref pl), ("state", .str "ready"), ("since", .int b.clock), ("turn", .int 0)])
    have X₄ : Ext st₂ (st₃.set D (.sdict [("parent", .int (a.ps j).pid), ("plan", .ref pl), ("state", .str "ready"), ("since", .int b.clock), ("turn", .int 0)])) := fun y mo e => by
      rw [Store.set_ne _ _ (fun q => by rw [q, hD] at e; cases e)]; exact X₃ _ _ e
    generalize st₃.set D (.sdict [("parent", .int (a.ps j).pid), ("plan", .ref pl), ("state", .str "ready"), ("since", .int b.clock), ("turn", .int 0)]) = st₄ at X₄ hD₄ ⊢
    have R₄ := R₂.ext X₄
    have RB₄ := RB₂.ext X₄
    have hnew : a.next ∉ b.ks := fun h => by have := hlast _ h; omega
    have hDd : ∀ k ∈ b.ks, D ≠ d k := fun k hk q => by
      (first | refine e0a3 (fun kv h _ => ?_) (RB₂.e k hk) | refine e1a2 (fun kv h _ => ?_) (RB₂.e k hk) | refine e2a1 (fun kv h _ => ?_) (RB₂.e k hk) | obtain ⟨kv, h, _⟩ := RB₂.e k hk)
      rw [← q, hD] at h; cases h
    have hDB : D ≠ B := fun q => by have := RB₂.bk; rw [← q, hD] at this; cases this
    refine ev_name rfl rfl (ev_attr (ev_name rfl rfl ?_))
    refine gp_pidU G R₄ hi ?_
    rw [hps]
    refine vr_r3 fun vj vv hj' hv => ?_
    have ebk := dput_map (f := fun k => MV.ref (d k)) (v := .ref D) hnew
    refine set_I RB₄.bk (by rw [sizeLine_eq, List.length_map]; have := RB.len; show b.ks.length ≤ _; omega) hj' hv ?_
    show Ex w b₀ c' _ _ _ _ (st₄.set B (.idict (dput a.next (.ref D) (b.ks.map fun k => (k, .ref (d k)))))) _
    rw [ebk]
    have hB₅ := Store.set_self st₄ B (.idict ((b.ks ++ [a.next]).map fun k => (k, if k = a.next then MV.ref D else MV.ref (d k))))
    have R₅ := R₄.setO (mo' := .idict ((b.ks ++ [a.next]).map fun k => (k, if k = a.next then MV.ref D else MV.ref (d k)))) RB₄.bk (.inr ⟨_, rfl⟩)
    have L₅ := LT.setD (mo' := .idict ((b.ks ++ [a.next]).map fun k => (k, if k = a.next then MV.ref D else MV.ref (d k)))) RB₄.bk (.inr ⟨_, rfl⟩)
    have hD₅ : (st₄.set B (.idict ((b.ks ++ [a.next]).map fun k => (k, if k = a.next then MV.ref D else MV.ref (d k))))) D = _ := (Store.set_ne _ _ hDB).trans hD₄
    have o₅ : ∀ k ∈ b.ks, (st₄.set B (.idict ((b.ks ++ [a.next]).map fun k => (k, if k = a.next then MV.ref D else MV.ref (d k))))) (d k) = st₄ (d k) := fun k hk => Store.set_ne _ _ (RB₄.dB hk)
    generalize st₄.set B (.idict ((b.ks ++ [a.next]).map fun k => (k, if k = a.next then MV.ref D else MV.ref (d k)))) = st₅ at hB₅ R₅ L₅ hD₅ o₅ ⊢
    have hget : dget a.next ((b.ks ++ [a.next]).map fun k => (k, if k = a.next then MV.ref D else MV.ref (d k))) = some (.ref D) := by
      rw [dget_map (f := fun k => if k = a.next then MV.ref D else MV.ref (d k))]; (first | refine iteP (by simp) ?_ | rw [if_pos (by simp)]); (first | refine iteP rfl ?_ | rw [if_pos rfl])
    -- status and killed
    refine ex_assign2 hcn (ev_tuple (ev_args_cons (ev_none (ev_args_cons (ev_bool (ev_args_nil ⟨by simp [sizeLine_eq], fun t ht => ⟨t, _, _, rfl, Store.set_self _ _ _, ?_⟩⟩))))))
    have X₆ := Ext.new (mo := .tuple [.none, .bool false]) ht
    generalize st₅.set t (.tuple [.none, .bool false]) = st₆ at X₆ ⊢
    have R₆ := R₅.ext X₆
    intro va vb ha hb
    refine as_cons (as_sub (ev_subI (ev_name rfl rfl (ev_attr (ev_name rfl rfl ?_)))))
    intro vc hcc; cases hcc
    refine gp_pid G R₆ hi ⟨B, _, a.next, _, rfl, by rw [hps], X₆ _ _ hB₅, hget, ev_str ?_⟩
    refine vr_r2 fun vj hj' => ?_
    refine set_S (X₆ _ _ hD₅) (by rw [sizeLine_eq]; simp) hj' ha ?_
    have R₇ := R₆.setO (mo' := .sdict (dput ("status" : Str) .none [("parent", .int (a.ps j).pid), ("plan", .ref pl), ("state", .str "ready"), ("since", .int b.clock), ("turn", .int 0)])) (X₆ _ _ hD₅) (.inl ⟨_, rfl⟩)
    have L₇ := LT.setD (mo' := .sdict (dput ("status" : Str) .none [("parent", .int (a.ps j).pid), ("plan", .ref pl), ("state", .str "ready"), ("since", .int b.clock), ("turn", .int 0)])) (X₆ _ _ hD₅) (.inl ⟨_, rfl⟩)
    have hD₇ := Store.set_self st₆ D (.sdict (dput ("status" : Str) .none [("parent", .int (a.ps j).pid), ("plan", .ref pl), ("state", .str "ready"), ("since", .int b.clock), ("turn", .int 0)]))
    have o₇ : ∀ y, y ≠ D → (st₆.set D (.sdict (dput ("status" : Str) .none [("parent", .int (a.ps j).pid), ("plan", .ref pl), ("state", .str "ready"), ("since", .int b.clock), ("turn", .int 0)]))) y = st₆ y := fun y hy => Store.set_ne _ _ hy
    generalize st₆.set D (.sdict (dput ("status" : Str) .none [("parent", .int (a.ps j).pid), ("plan", .ref pl), ("state", .str "ready"), ("since", .int b.clock), ("turn", .int 0)])) = st₇ at R₇ L₇ hD₇ o₇ ⊢
    refine as_cons (as_sub (ev_subI (ev_name rfl rfl (ev_attr (ev_name rfl rfl ?_)))))
    intro vc hcc; cases hcc
    refine gp_pid G R₇ hi ⟨B, _, a.next, _, rfl, by rw [hps], (o₇ B (Ne.symm hDB)).trans (X₆ _ _ hB₅), hget, ev_str ?_⟩
    refine vr_r2 fun vj hj' => ?_
    refine set_S hD₇ (by rw [sizeLine_eq]; show (6 : Nat) ≤ _; omega) hj' hb (as_nil (ex_ret (ev_bool ?_)))
    have R₈ := R₇.setO (mo' := .sdict (dput ("killed" : Str) (.bool false) (dput ("status" : Str) .none [("parent", .int (a.ps j).pid), ("plan", .ref pl), ("state", .str "ready"), ("since", .int b.clock), ("turn", .int 0)]))) hD₇ (.inl ⟨_, rfl⟩)
    have L₈ := LT.setD (mo' := .sdict (dput ("killed" : Str) (.bool false) (dput ("status" : Str) .none [("parent", .int (a.ps j).pid), ("plan", .ref pl), ("state", .str "ready"), ("since", .int b.clock), ("turn", .int 0)]))) hD₇ (.inl ⟨_, rfl⟩)
    have LA := (((X₄.lt.trans L₅).trans X₆.lt).trans L₇).trans L₈
    refine hq _ (fun k => if k = a.next then D else d k) (fun k hk => if_neg fun e : k = a.next => hnew (e ▸ hk)) R₈ ?_ (LL₂.trans LA)
    have o₈ : ∀ k ∈ b.ks, ∀ mo, st₂ (d k) = some mo → (st₇.set D (.sdict (dput ("killed" : Str) (.bool false) (dput ("status" : Str) .none [("parent", .int (a.ps j).pid), ("plan", .ref pl), ("state", .str "ready"), ("since", .int b.clock), ("turn", .int 0)])))) (d k) = some mo := fun k hk mo e => by
      rw [Store.set_ne _ _ (Ne.symm (hDd k hk)), o₇ _ (Ne.symm (hDd k hk))]
      exact X₆ _ _ ((o₅ k hk).trans (X₄ _ _ e))
    refine ⟨?_, ?_, ?_, ?_, ?_, ?_⟩
    · rw [Store.set_ne _ _ (Ne.symm hDB), o₇ _ (Ne.symm hDB), X₆ _ _ hB₅]
      show some (MO.idict _) = some (MO.idict ((b.ks ++ [a.next]).map fun k => (k, MV.ref (if k = a.next then D else d k))))
      congr 2
      refine List.map_congr_left fun k _ => ?_
      by_cases q : k = a.next <;> simp [q]
    · show (b.ks ++ [a.next]).Nodup
      rw [List.nodup_append]
      exact ⟨RB.nd, by simp, fun x hx y hy e => hnew (by simp at hy; rw [← hy, ← e]; exact hx)⟩
    · show (b.ks ++ [a.next]).length ≤ 50
      simp; omega
    · intro k hk k' hk' e
      have hk : k ∈ b.ks ++ [a.next] := hk
      have hk' : k' ∈ b.ks ++ [a.next] := hk'
      simp at hk hk'
      by_cases q : k = a.next <;> by_cases q' : k' = a.next
      · rw [q, q']
      · simp only [q, q', ↓reduceIte] at e; exact absurd e (hDd k' (hk'.resolve_right q'))
      · simp only [q, q', ↓reduceIte] at e; exact absurd e.symm (hDd k (hk.resolve_right q))
      · simp only [q, q', ↓reduceIte] at e; exact RB.inj k (hk.resolve_right q) k' (hk'.resolve_right q') e
    · intro k hk
      have hk : k ∈ b.ks ++ [a.next] := hk
      simp at hk
      by_cases q : k = a.next
      · subst q
        refine ⟨_, by simp only [↓reduceIte]; exact Store.set_self _ _ _, ?_, fun e => by omega⟩
        have pp := (hpl.mono LL₂).mono LA
        simp only [Bk.forkF, ↓reduceIte]
        exact ⟨rfl, ⟨pl, rfl, pp⟩, rfl, rfl, rfl, rfl, rfl, by show (7 : Nat) ≤ 20; decide⟩
      · (first | refine e0a4 (fun kv e1 e2 e3 => ?_) (RB₂.e k (hk.resolve_right q)) | refine e1a3 (fun kv e1 e2 e3 => ?_) (RB₂.e k (hk.resolve_right q)) | refine e2a2 (fun kv e1 e2 e3 => ?_) (RB₂.e k (hk.resolve_right q)) | obtain ⟨kv, e1, e2, e3⟩ := RB₂.e k (hk.resolve_right q))
        refine ⟨kv, by simp only [if_neg q]; exact o₈ k (hk.resolve_right q) _ e1, ?_, e3⟩
        simp only [Bk.forkF, if_neg q]
        exact e2.mono LA
    · show (1 : Int) ∈ b.ks ++ [a.next]
      simp [RB.one]
  · intro v E'
    refine ex_ret (ev_cmp (ev_bcall G hc'.at_ he'.symm (by k_is) boot_len (by decide) (ev_args_cons (ev_name rfl rfl (ev_args_nil ?_)))))
    refine all2_r1 ?_
    refine call_lenI RB.bk (by rw [sizeLine_eq, List.length_map]; omega) (ev_name rfl rfl ?_)
    refine cmp_eq_intU ?_
    rw [List.length_map, hfull hno, beq_self_eq_true]
    exact hx hno R RB
end
end PartL6
section PartL7
open PySem PySem.W PyProof.Rows PySem.Spec PySem.Calls

theorem map_getI {f : Int → MV} {l : List Int} {i : Nat} {v : MV} (h : (l.map f)[i]? = some v) : ∃ j, l[i]? = some j ∧ v = f j := by
  rw [List.getElem?_map] at h
  obtain ⟨j, hj, rfl⟩ := Option.map_eq_some_iff.mp h
  exact ⟨j, hj, rfl⟩

def Bk.reparL (b : Bk) (l : List Int) : Bk := { b with e := fun k => if k ∈ l then { b.e k with parent := 1 } else b.e k }
def Bk.wakeL (b : Bk) (l : List Int) : Bk := { b with e := fun k => if k ∈ l ∧ (b.e k).state = .asleep then { b.e k with state := .ready, since := b.clock } else b.e k }
def Bk.endE (b : Bk) (p s : Int) (k : Int) : BE := if k = p then { b.e p with state := .over, status := some s } else if (b.e k).parent = p then { b.e k with parent := 1 } else b.e k
def Bk.anyOver (b : Bk) (p : Int) : Bool := b.ks.any fun k => decide ((b.e k).parent = p) && decide ((b.e k).state = .over)
def Bk.endF (b : Bk) (p s : Int) : Bk :=
  { b with e := fun k => if (k = (b.e p).parent ∨ (k = 1 ∧ b.anyOver p = true)) ∧ (b.endE p s k).state = .asleep then { b.endE p s k with state := .ready, since := b.clock } else b.endE p s k }

theorem RepB.congr {B : Addr} {d : Int → Addr} {st : Store} {b b' : Bk} (R : RepB B d st b) (h1 : b.ks = b'.ks) (h2 : b.last = b'.last) (h3 : b.clock = b'.clock) (h : ∀ k ∈ b.ks, b.e k = b'.e k) : RepB B d st b' := by
  obtain ⟨ks, e, last, clock⟩ := b
  obtain ⟨ks', e', last', clock'⟩ := b'
  cases h1; cases h2; cases h3
  exact ⟨R.bk, R.nd, R.len, R.inj, fun k hk => let ⟨kv, a1, a2, a3⟩ := R.e k hk; ⟨kv, a1, h k hk ▸ a2, a3⟩, R.one⟩

section
variable {w : World} {b₀ : Heap} {mean : ExcName → Option Value} {mg mb : Str → Option Value} {c : Cx} {env : Env} {E : Value → Shared → Prop} {lm : LM} {st : Store} {A : Ad} {a : AT} {i : Nat} {expr : Bool} {v : Value} {B : Addr} {d : Int → Addr} {b : Bk}

theorem set_pl {W : Addr} {us : List MV} (hW : st W = some (.plist us)) {mo : MO} {y : Addr} {mv : MO} (e : st y = some mv) (n : ∀ us, mv ≠ .plist us) : (st.set W mo) y = some mv := by
  rw [Store.set_ne]; · exact e
  · intro q; rw [q, hW] at e; cases e; exact n _ rfl
theorem LT.setW {W : Addr} {us : List MV} (hW : st W = some (.plist us)) {mo : MO} : LT st (st.set W mo) :=
  ⟨fun y us e => by rw [Store.set_ne _ _ (fun q => by rw [q, hW] at e; cases e)]; exact e, fun y us e => by rw [Store.set_ne _ _ (fun q => by rw [q, hW] at e; cases e)]; exact e⟩
theorem RepT.setW {W : Addr} {us : List MV} (R : RepT A a st) (hW : st W = some (.plist us)) {mo : MO} : RepT A a (st.set W mo) := by
  have nW : ∀ y mv, st y = some mv → (∀ us, mv ≠ .plist us) → (st.set W mo) y = some mv := fun y mv e n => set_pl hW e n
  refine { R with t := nW _ _ R.t (by intro _ e; cases e), td := nW _ _ R.td (by intro _ e; cases e), pl := nW _ _ R.pl (by intro _ e; cases e), p := fun i hi => nW _ _ (R.p i hi) (by intro _ e; cases e), d := fun i hi => ?_ }
  obtain ⟨pv, h1, h2⟩ := R.d i hi
  exact ⟨pv, nW _ _ h1 (by intro _ e; cases e), h2.mono (fun r us e => (LT.setW hW).1 _ _ e) fun r us e => (LT.setW hW).2 _ _ e⟩
theorem RepB.setW {W : Addr} {us : List MV} (R : RepB B d st b) (hW : st W = some (.plist us)) {mo : MO} : RepB B d (st.set W mo) b :=
  R.mono (LT.setW hW) (fun y kv e => set_pl hW e (by intro _ e; cases e)) fun y kv e => set_pl hW e (by intro _ e; cases e)
theorem wakeL_yes {b : Bk} {l : List Int} {x : Int} (q : ((b.wakeL l).e x).state = .asleep) (y : Int) : ((b.wakeL l).wakeF x).e y = (b.wakeL (l ++ [x])).e y := by
  unfold Bk.wakeF
  by_cases qq : y = x
  · subst qq
    rw [Bk.upd_self]
    unfold Bk.wakeL at q ⊢
    simp only [List.mem_append, List.mem_singleton, or_true, true_and]
    by_cases q1 : y ∈ l <;> by_cases q2 : (b.e y).state = .asleep <;> simp_all
  · rw [Bk.upd_ne _ _ qq]
    unfold Bk.wakeL
    simp [qq]
theorem wakeL_no {b : Bk} {l : List Int} {x : Int} (q : ¬ ((b.wakeL l).e x).state = .asleep) (y : Int) : (b.wakeL l).e y = (b.wakeL (l ++ [x])).e y := by
  by_cases qq : y = x
  · subst qq
    unfold Bk.wakeL at q ⊢
    simp only [List.mem_append, List.mem_singleton, or_true, true_and]
    by_cases q1 : y ∈ l <;> by_cases q2 : (b.e y).state = .asleep <;> simp_all
  · unfold Bk.wakeL
    simp [qq]
/-- the loop over the kids, and over the woken -/
structure EJ (A : Ad) (B : Addr) (d : Int → Addr) (j : Nat) (a₁ : AT) (b1 : Bk) (l W : Addr) (kl : List Int) (pp : Int) (k : Nat) (lm' : LM) (st' : Store) : Prop where
  m1 : lm' "book" = some (.ref B)
  m2 : lm' "process" = some (.ref (A.P j))
  m3 : lm' "woken" = some (.ref W)
  R : RepT A a₁ st'
  RB : RepB B d st' (b1.reparL (kl.take k))
  hl : st' l = some (.list (kl.map .int))
  ex : ∃ m : Nat, m ≤ k ∧ st' W = some (.plist ((pp :: List.replicate m 1).map .int)) ∧ (0 < m ↔ ∃ x ∈ kl.take k, (b1.e x).state = .over)
structure EK (A : Ad) (B : Addr) (d : Int → Addr) (j : Nat) (a₁ : AT) (b2 : Bk) (wl : List Int) (k : Nat) (lm' : LM) (st' : Store) : Prop where
  m1 : lm' "book" = some (.ref B)
  m2 : lm' "process" = some (.ref (A.P j))
  R : RepT A a₁ st'
  RB : RepB B d st' (b2.wakeL (wl.take k))

theorem ended_ok {n j f : Nat} {s p : Int} {vs' : Value} {Q : MV → Store → Prop} (G : Gd w b₀ mean mg mb) (hc : c.OK (n + 6)) (hh : c.hd = none) (R : RepT A a st) (RB : RepB B d st b) (hj : j < A.n) (hf : a.first = some f) (hjf : j ≠ f) (hs : SC A.n a) (hv : VR (.int s) vs')
    (hp : p ∈ b.ks) (hpid : ((a.exitF A.n j f s).ps j).pid = p) (hz : ((a.exitF A.n j f s).ps j).state = .zombie) (hpar : (b.e p).parent ∈ b.ks) (hpp : (b.e p).parent ≠ p)
    (hq : ∀ st', RepT A (a.exitF A.n j f s) st' → RepB B d st' (b.endF p s) → Q (.bool true) st') :
    Ev w b₀ c env E (call (.ref 311) [.ref B, .ref A.T, .ref (A.P j), vs']) VR lm st Q := by
  refine' ev_enterP G hc (by k_is) (by k_is) (.cons (vr_ref _) (.cons (vr_ref _) (.cons (vr_ref _) (.cons hv .nil)))) (by rfl) (by rfl) (by decide) (by rfl) ?_
  intro c' hc' he' hh'
  have hcn := hh'.trans hh
  refine ex_expr (ev_meth G (ev_name rfl rfl ⟨A.T, 274, A.TD, _, 229, rfl, R.t, R.td, nT_exit _, mT_exit, ev_args_cons (ev_name rfl rfl (ev_args_cons (ev_name rfl rfl (ev_args_nil ?_))))⟩))
  refine all2_rv fun u hv2 => ?_
  refine exit_ok G hc' hcn R hj hf hjf hs hv2 fun st₁ R₁ K₁ => ?_
  have RB₁ := RB.keep R K₁
  generalize a.exitF A.n j f s = a₁ at R₁ hpid hz hq ⊢
  refine ex_assign hc' he'.symm (ev_bookI rfl rfl (ev_attr (ev_name rfl rfl ?_)))
  refine gp_pidU G R₁ hj ⟨p, d, b, by rw [hpid], RB₁, hp, ?_⟩
  -- mine['state'], mine['status'] = ('over', status)
  refine ex_assign2 hcn (ev_tuple (ev_args_cons (ev_str (ev_args_cons (ev_name rfl rfl (ev_args_nil ⟨by simp [sizeLine_eq], fun t ht => ⟨t, _, _, rfl, Store.set_self _ _ _, ?_⟩⟩))))))
  have X := Ext.new (mo := .tuple [.str "over", .int s]) ht
  intro va vb ha hb
  have R₂ := R₁.ext X
  have RB₂ := RB₁.ext X
  generalize st₁.set t (.tuple [.str "over", .int s]) = st₂ at R₂ RB₂ ⊢
  (first | refine e0a4 (fun kv e1 e2 e3 => ?_) (RB₂.e p hp) | refine e1a3 (fun kv e1 e2 e3 => ?_) (RB₂.e p hp) | refine e2a2 (fun kv e1 e2 e3 => ?_) (RB₂.e p hp) | obtain ⟨kv, e1, e2, e3⟩ := RB₂.e p hp)
  refine as_cons (as_sub (ev_name rfl rfl (ev_str ?_)))
  refine vr_r2 fun vj hj' => ?_
  obtain ⟨l3, RB₃⟩ := RB₂.set_state hp e1 .over
  have R₃ := R₂.setO (mo' := .sdict (dput ("state" : Str) (.str BS.over.str) kv)) e1 (.inl ⟨_, rfl⟩)
  refine set_S e1 l3 hj' ha ?_
  have g3 := Store.set_self st₂ (d p) (.sdict (dput ("state" : Str) (.str BS.over.str) kv))
  show As w b₀ c' _ _ _ _ (st₂.set (d p) (.sdict (dput ("state" : Str) (.str BS.over.str) kv))) _
  generalize st₂.set (d p) (.sdict (dput ("state" : Str) (.str BS.over.str) kv)) = st₃ at R₃ RB₃ g3 ⊢
  refine as_cons (as_sub (ev_name rfl rfl (ev_str ?_)))
  refine vr_r2 fun vj hj' => ?_
  obtain ⟨l4, RB₄⟩ := RB₃.set_status hp g3 (some s)
  have R₄ := R₃.setO (mo' := .sdict (dput ("status" : Str) (optI (some s)) (dput ("state" : Str) (.str BS.over.str) kv))) g3 (.inl ⟨_, rfl⟩)
  refine set_S g3 l4 hj' hb (as_nil ?_)
  have RB₄ : RepB B d _ (b.upd p { b.e p with state := .over, status := some s }) := RB₄.congr rfl rfl rfl fun k _ => by
    by_cases q : k = p
    · subst q; rw [Bk.upd_self, Bk.upd_self, Bk.upd_self]
    · rw [Bk.upd_ne _ _ q, Bk.upd_ne _ _ q, Bk.upd_ne _ _ q]
  show Ex w b₀ c' _ _ _ _ (st₃.set (d p) (.sdict (dput ("status" : Str) (optI (some s)) (dput ("state" : Str) (.str BS.over.str) kv)))) _
  generalize st₃.set (d p) (.sdict (dput ("status" : Str) (optI (some s)) (dput ("state" : Str) (.str BS.over.str) kv))) = st₄ at R₄ RB₄ ⊢
  -- woken = [mine['parent']]
  (first | refine e0a4 (fun kp f1 f2 f3 => ?_) (RB₄.e p hp) | refine e1a3 (fun kp f1 f2 f3 => ?_) (RB₄.e p hp) | refine e2a2 (fun kp f1 f2 f3 => ?_) (RB₄.e p hp) | obtain ⟨kp, f1, f2, f3⟩ := RB₄.e p hp)
  rw [Bk.upd_self] at f2
  refine ex_assign hc' he'.symm (ev_list (ev_args_cons (ev_mine rfl rfl f1 f2.parent (ev_args_nil ⟨by simp [sizeLine_eq], fun W hW => ?_⟩))))
  have X₅ := Ext.new (mo := .list [.int (b.e p).parent]) hW
  have Xp := Ext.new (mo := .plist [.int (b.e p).parent]) hW
  refine Ex.recast (mo' := .plist [.int (b.e p).parent]) (Store.set_self _ _ _) (fun _ h => h) ?_
  rw [Store.set_set]
  have hW₅ := Store.set_self st₄ W (.plist [.int (b.e p).parent])
  have R₅ := R₄.ext Xp
  have RB₅ := RB₄.ext Xp
  show Ex w b₀ c' _ _ _ _ (st₄.set W (.plist [.int (b.e p).parent])) _
  generalize st₄.set W (.plist [.int (b.e p).parent]) = st₅ at R₅ RB₅ hW₅ ⊢
  -- the kids
  refine ex_forList hc' he'.symm hcn (ev_call G rfl rfl (by k_is) (by k_is) (ev_args_cons (ev_name rfl rfl (ev_args_cons (ev_attr (ev_name rfl rfl ?_))))))
  refine gp_pidU G R₅ hj (ev_args_nil ?_)
  rw [hpid]
  refine all2_rv fun u hv2 => ?_
  refine kids_ok G hc' hcn RB₅ hv2 fun l kl st₆ X₆ hl₆ hkl hnd hmem => ?_
  have R₆ := R₅.ext X₆
  have RB₆ := RB₅.ext X₆
  have hW₆ := X₆ _ _ hW₅
  generalize hb1 : b.upd p { b.e p with state := .over, status := some s } = b1 at RB₆ hmem
  refine ⟨l, _, rfl, hl₆, EJ A B d j a₁ b1 l W kl (b.e p).parent,
    ⟨rfl, rfl, rfl, R₆, RB₆.congr rfl rfl rfl (fun k _ => by simp [Bk.reparL]), hl₆, 0, Nat.le_refl _, hW₆, by simp⟩, ?_, ?_⟩
  · intro k v lm' st' hv J hpl E'
    have m1 := J.m1; have m3 := J.m3; have R' := J.R; have RB' := J.RB; have hl' := J.hl
    obtain ⟨m, hmk, hW', hm⟩ := J.ex
    obtain ⟨x, hx, rfl⟩ := map_getI hv
    have hlt := (List.getElem?_eq_some_iff.mp hx).1
    have hxk : x ∈ b1.ks := ((hmem x).mp (List.mem_of_getElem? hx)).1
    have hnx : x ∉ kl.take k := fun h => by
      have h1 : x ∈ kl.drop k := List.mem_iff_getElem?.mpr ⟨0, by simpa using hx⟩
      have h2 := hnd
      rw [← List.take_append_drop k kl, List.nodup_append] at h2
      exact h2.2.2 x h x h1 rfl
    have htk : kl.take (k + 1) = kl.take k ++ [x] := by rw [List.take_add_one, hx]; rfl
    have hex : (b1.reparL (kl.take k)).e x = b1.e x := by simp [Bk.reparL, hnx]
    (first | refine e0a4 (fun kv e1 e2 e3 => ?_) (RB'.e x hxk) | refine e1a3 (fun kv e1 e2 e3 => ?_) (RB'.e x hxk) | refine e2a2 (fun kv e1 e2 e3 => ?_) (RB'.e x hxk) | obtain ⟨kv, e1, e2, e3⟩ := RB'.e x hxk)
    have hmm : ∀ y mv, lm' y = some mv → y ≠ "pid" → (lm'.set "pid" (.int x)) y = some mv := fun y mv h n => LM.set_other h n
    refine ex_assignSub (ev_int (ev_bookI rfl (LM.set_other m1 (by decide)) (ev_name rfl (LM.set_get _ _ _) ⟨x, d, _, rfl, RB', hxk, ev_str ?_⟩)))
    refine vr_r3 fun vj vv hj' hv' => ?_
    obtain ⟨l7, RB₇⟩ := RB'.set_parent hxk e1 1
    have R₇ := R'.setO (mo' := .sdict (dput ("parent" : Str) (.int 1) kv)) e1 (.inl ⟨_, rfl⟩)
    have L₇ := LT.setD (mo' := .sdict (dput ("parent" : Str) (.int 1) kv)) e1 (.inl ⟨_, rfl⟩)
    have hW₇ : (st'.set (d x) (.sdict (dput ("parent" : Str) (.int 1) kv))) W = _ := (Store.set_ne _ _ (fun q => by rw [q, e1] at hW'; cases hW')).trans hW'
    refine set_S e1 l7 hj' hv' ?_
    have RB₇ : RepB B d _ (b1.reparL (kl.take (k + 1))) := RB₇.congr rfl rfl rfl fun y _ => by
      by_cases q : y = x
      · subst q; rw [Bk.upd_self, hex, htk]; simp [Bk.reparL]
      · rw [Bk.upd_ne _ _ q, htk]; simp [Bk.reparL, q]
    have hl₇ := L₇.1 _ _ hl'
    generalize st'.set (d x) (.sdict (dput ("parent" : Str) (.int 1) kv)) = st₇ at R₇ RB₇ hW₇ hl₇ ⊢
    (first | refine e0a4 (fun kv e1 e2 e3 => ?_) (RB₇.e x hxk) | refine e1a3 (fun kv e1 e2 e3 => ?_) (RB₇.e x hxk) | refine e2a2 (fun kv e1 e2 e3 => ?_) (RB₇.e x hxk) | obtain ⟨kv, e1, e2, e3⟩ := RB₇.e x hxk)
    refine ex_if (tr_cmp (ev_book rfl (LM.set_other m1 (by decide)) (ev_name rfl (LM.set_get _ _ _) ⟨_, d, _, kv, _, rfl, RB₇, hxk, e1, e2.state, ev_str ?_⟩)))
    refine cmp_eq_strU ⟨_, rfl, ?_⟩
    have hst : ((b1.reparL (kl.take (k + 1))).e x).state = (b1.e x).state := by rw [htk]; simp [Bk.reparL]
    rw [show ("over" : Str) = BS.over.str from rfl, BS.str_beq, hst]
    by_cases q : (b1.e x).state = .over
    · (first | refine iteP (by simpa using q) ?_ | rw [if_pos (by simpa using q)])
      refine ex_expr (ev_bmeth PySem.F.plainAttrs_list PySem.F.slot_list_append PySem.F.type_list_append (ev_name rfl (LM.set_other m3 (by decide)) ⟨W, _, rfl, hW₇, or_plist, ev_args_cons (ev_int (ev_args_nil ?_))⟩))
      refine all2_v1 fun v hv => ?_
      refine call_appendP hW₇ (by rw [sizeLine_eq]; simp; omega) hv (ex_nil (ex_nil ?_))
      have hlW := set_pl hW₇ (mo := .plist ((((b.e p).parent :: List.replicate m 1).map .int) ++ [.int 1])) hl₇ (by intro _ e; cases e)
      refine ⟨⟨LM.set_other m1 (by decide), LM.set_other J.m2 (by decide), LM.set_other m3 (by decide), R₇.setW hW₇, RB₇.setW hW₇, hlW, m + 1, by omega, ?_, ?_⟩, hlW⟩
      · rw [Store.set_self]; congr 2; rw [List.replicate_succ']; simp
      · refine ⟨fun _ => ⟨x, by rw [htk]; simp, q⟩, fun _ => by omega⟩
    · (first | refine iteN (by simpa using q) ?_ | rw [if_neg (by simpa using q)])
      refine ex_nil (ex_nil ⟨⟨LM.set_other m1 (by decide), LM.set_other J.m2 (by decide), LM.set_other m3 (by decide), R₇, RB₇, hl₇, m, by omega, hW₇, ?_⟩, hl₇⟩)
      rw [hm, htk]
      constructor
      · rintro ⟨y, hy, e⟩; exact ⟨y, List.mem_append_left _ hy, e⟩
      · rintro ⟨y, hy, e⟩
        rcases List.mem_append.mp hy with h | h
        · exact ⟨y, h, e⟩
        · simp at h; subst h; exact absurd e q
  · intro lm' st₈ J hpl
    have m1 := J.m1; have m2 := J.m2; have m3 := J.m3; have R₈ := J.R; have RB₈ := J.RB
    obtain ⟨m, hmk, hW₈, hm⟩ := J.ex
    rw [List.length_map] at RB₈ hmk hm
    rw [List.take_length] at RB₈ hm
    -- the woken
    refine Ex.recast (mo' := .list (((b.e p).parent :: List.replicate m 1).map .int)) hW₈ (fun _ h => h) ?_
    have R₉ : RepT A a₁ (st₈.set W (.list (((b.e p).parent :: List.replicate m 1).map .int))) := R₈.setW hW₈
    have RB₉ : RepB B d (st₈.set W (.list (((b.e p).parent :: List.replicate m 1).map .int))) _ := RB₈.setW hW₈
    have hW₉ := Store.set_self st₈ W (.list (((b.e p).parent :: List.replicate m 1).map .int))
    generalize st₈.set W (.list (((b.e p).parent :: List.replicate m 1).map .int)) = st₉ at R₉ RB₉ hW₉ ⊢
    generalize hwl : ((b.e p).parent :: List.replicate m 1) = wl at hW₉ ⊢
    generalize hb2 : b1.reparL kl = b2 at RB₉
    have hks : b2.ks = b.ks := by rw [← hb2, ← hb1]; rfl
    have hwm : ∀ k, k ∈ wl ↔ k = (b.e p).parent ∨ (k = 1 ∧ 0 < m) := fun k => by
      rw [← hwl]; simp [List.mem_replicate]
      constructor
      · rintro (h | ⟨h1, h2⟩)
        · exact .inl h
        · exact .inr ⟨h2, by omega⟩
      · rintro (h | ⟨h1, h2⟩)
        · exact .inl h
        · exact .inr ⟨by omega, h1⟩
    refine ex_forList hc' he'.symm hcn (ev_name rfl m3 ?_)
    refine ⟨W, _, rfl, hW₉, EK A B d j a₁ b2 wl, ⟨m1, m2, R₉, RB₉.congr rfl rfl rfl (fun k _ => by simp [Bk.wakeL])⟩, ?_, ?_⟩
    · intro k v lm' st' hv J hpl E'
      have m1 := J.m1; have m2 := J.m2; have RB' := J.RB
      obtain ⟨x, hx, rfl⟩ := map_getI hv
      have hxw := List.mem_of_getElem? hx
      have hxk : x ∈ b2.ks := by
        rw [hks]
        rcases (hwm x).mp hxw with h | ⟨h, _⟩
        · rw [h]; exact hpar
        · rw [h]; exact RB.one
      have htk : wl.take (k + 1) = wl.take k ++ [x] := by rw [List.take_add_one, hx]; rfl
      (first | refine e0a4 (fun kv e1 e2 e3 => ?_) (RB'.e x hxk) | refine e1a3 (fun kv e1 e2 e3 => ?_) (RB'.e x hxk) | refine e2a2 (fun kv e1 e2 e3 => ?_) (RB'.e x hxk) | obtain ⟨kv, e1, e2, e3⟩ := RB'.e x hxk)
      refine ex_if (tr_cmp (ev_book rfl (LM.set_other m1 (by decide)) (ev_name rfl (LM.set_get _ _ _) ⟨_, d, _, kv, _, rfl, RB', hxk, e1, e2.state, ev_str ?_⟩)))
      refine cmp_eq_strU ⟨_, rfl, ?_⟩
      rw [show ("asleep" : Str) = BS.asleep.str from rfl, BS.str_beq]
      by_cases q : ((b2.wakeL (wl.take k)).e x).state = .asleep
      · (first | refine iteP (by simpa using q) ?_ | rw [if_pos (by simpa using q)])
        refine ex_wakeB hcn rfl RB' hxk (LM.set_other m1 (by decide)) (LM.set_get _ _ _) fun st₃ RB₃ TT LL₃ => ex_nil (ex_nil ⟨⟨LM.set_other m1 (by decide), LM.set_other m2 (by decide), TT _ _ J.R, RB₃.congr rfl rfl rfl fun y _ => ?_⟩, LL₃.1 _ _ hpl⟩)
        rw [htk]; exact wakeL_yes q y
      · (first | refine iteN (by simpa using q) ?_ | rw [if_neg (by simpa using q)])
        refine ex_nil (ex_nil ⟨⟨LM.set_other m1 (by decide), LM.set_other m2 (by decide), J.R, RB'.congr rfl rfl rfl fun y _ => ?_⟩, hpl⟩)
        rw [htk]; exact wakeL_no q y
    · intro lm' st' J hpl
      have m2 := J.m2; have R' := J.R; have RB' := J.RB
      rw [List.length_map, List.take_length] at RB'
      refine ex_ret (ev_cmp (ev_attr (ev_name rfl m2 ?_)))
      refine gp_stateU G R' hj (ev_str ?_)
      refine cmp_eq_strU ?_
      rw [hz, show (PS.zombie.str == ("zombie" : Str)) = true from by decide]
      refine hq st' R' (RB'.congr hks (by rw [← hb2, ← hb1]; rfl) (by rw [← hb2, ← hb1]; rfl) fun k hk => ?_)
      have hk' : k ∈ b.ks := hks ▸ hk
      have hkid : k ∈ kl ↔ (b.e k).parent = p := by
        rw [hmem, ← hb1]
        unfold Bk.kid
        by_cases q : k = p
        · subst q; rw [Bk.upd_self]; exact ⟨fun h => h.2, fun h => ⟨hk', h⟩⟩
        · rw [Bk.upd_ne _ _ q]; exact ⟨fun h => h.2, fun h => ⟨hk', h⟩⟩
      have hb2e : b2.e k = b.endE p s k := by
        rw [← hb2, ← hb1]
        unfold Bk.reparL Bk.endE Bk.upd
        by_cases q : k = p
        · subst q; simp [hkid, hpp]
        · simp [hkid, q]
      have hany : 0 < m ↔ b.anyOver p = true := by
        rw [hm]
        unfold Bk.anyOver
        rw [List.any_eq_true]
        constructor
        · rintro ⟨y, hy, e⟩
          have hy' := (hmem y).mp hy
          rw [← hb1] at hy' e
          have hyp : y ≠ p := fun q => by subst q; exact hpp (by have := hy'.2; rw [Bk.upd_self] at this; exact this)
          refine ⟨y, hy'.1, ?_⟩
          have := hy'.2
          rw [Bk.upd_ne _ _ hyp] at this e
          simp [this, e]
        · rintro ⟨y, hy, e⟩
          simp at e
          have hyp : y ≠ p := fun q => by subst q; exact hpp e.1
          refine ⟨y, (hmem y).mpr ?_, ?_⟩
          · rw [← hb1]; exact ⟨hy, by rw [Bk.upd_ne _ _ hyp]; exact e.1⟩
          · rw [← hb1, Bk.upd_ne _ _ hyp]; exact e.2
      have hclk : b2.clock = b.clock := by rw [← hb2, ← hb1]; rfl
      unfold Bk.wakeL Bk.endF
      simp only [hb2e, hclk, hwm, hany]
end
end PartL7
section PartL8
open PySem PySem.W PyProof.Rows PySem.Spec PySem.Calls

def Bk.delF (b : Bk) (k : Int) : Bk := { b with ks := b.ks.filter (· ≠ k) }
theorem lm_one {x z : Str} {u mv : MV} (e : LM.of [(x, u)] z = some mv) : z = x ∧ mv = u := by
  unfold LM.of at e; split at e
  · rename_i q; cases e; exact ⟨q, rfl⟩
  · cases e
theorem cells_one {L : Addr} {x : Str} {z : Str} {a : Addr} (e : List.lookup z [(x, L)] = some a) : z = x := by
  by_cases q : z = x
  · exact q
  · simp [List.lookup, beq_false_of_ne q] at e

section
variable {w : World} {b₀ : Heap} {mean : ExcName → Option Value} {mg mb : Str → Option Value} {c : Cx} {env : Env} {E : Value → Shared → Prop} {lm : LM} {st : Store} {A : Ad} {a : AT} {i : Nat} {expr : Bool} {v : Value} {B : Addr} {d : Int → Addr} {b : Bk}

theorem RepB.del (RB : RepB B d st b) {k : Int} (h1 : k ≠ 1) : RepB B d (st.set B (.idict (ddel k (b.ks.map fun k => (k, .ref (d k)))))) (b.delF k) := by
  have T : LT st (st.set B (.idict (ddel k (b.ks.map fun k => (k, .ref (d k)))))) := LT.setD RB.bk (.inr ⟨_, rfl⟩)
  have hm : ∀ j, j ∈ (b.delF k).ks → j ∈ b.ks := fun j hj => (List.mem_filter.mp hj).1
  refine ⟨?_, RB.nd.sublist List.filter_sublist, Nat.le_trans (List.length_filter_le _ _) RB.len, fun x hx y hy => RB.inj x (hm x hx) y (hm y hy), fun x hx => ?_, ?_⟩
  · rw [Store.set_self, ddel_map RB.nd]; rfl
  · (first | refine e0a4 (fun kv a1 a2 a3 => ?_) (RB.e x (hm x hx)) | refine e1a3 (fun kv a1 a2 a3 => ?_) (RB.e x (hm x hx)) | refine e2a2 (fun kv a1 a2 a3 => ?_) (RB.e x (hm x hx)) | obtain ⟨kv, a1, a2, a3⟩ := RB.e x (hm x hx))
    exact ⟨kv, by rw [Store.set_ne _ _ (RB.dB (hm x hx))]; exact a1, a2.mono T, a3⟩
  · exact List.mem_filter.mpr ⟨RB.one, by simpa using Ne.symm h1⟩

theorem waited_ok {n j : Nat} {p : Int} {Q : MV → Store → Prop} (G : Gd w b₀ mean mg mb) (hc : c.OK (n + 5)) (hh : c.hd = none) (R : RepT A a st) (RB : RepB B d st b) (hj : j < A.n) (hp : p ∈ b.ks) (hpid : (a.ps j).pid = p)
    (hk1 : ∀ i, i ∈ a.kids A.n j → b.kid p (a.ps i).pid ∧ (a.ps i).pid ≠ 1 ∧ ((a.ps i).state = .zombie → (b.e (a.ps i).pid).state = .over ∧ (b.e (a.ps i).pid).status = some (a.ps i).status))
    (hk2 : ∀ k, b.kid p k → ∃ i, i ∈ a.kids A.n j ∧ (a.ps i).pid = k ∧ ((b.e k).state = .over → (a.ps i).state = .zombie)) (hkl : (b.e p).killed = (a.ps j).killed)
    (hq1 : ∀ i, i ∈ a.kids A.n j → (a.ps i).state = .zombie → ∀ st', RepT A (a.set i {}) st' → RepB B d st' (b.delF (a.ps i).pid) → Q (.bool true) st')
    (hq2 : (∀ i, i ∈ a.kids A.n j → (a.ps i).state ≠ .zombie) → a.kids A.n j ≠ [] → (a.ps j).killed = false → ∀ st', RepT A (a.sleepF j p) st' → RepB B d st' (b.upd p { b.e p with state := .asleep }) → Q (.bool false) st')
    (hq3 : (∀ i, i ∈ a.kids A.n j → (a.ps i).state ≠ .zombie) → (a.kids A.n j = [] ∨ (a.ps j).killed = true) → ∀ st', RepT A a st' → RepB B d st' b → Q (.bool true) st') :
    Ev w b₀ c env E (call (.ref 316) [.ref B, .ref A.T, .ref (A.P j)]) VR lm st Q := by
  refine' ev_enterC G hc (by k_is) (by k_is) (.cons (vr_ref _) (.cons (vr_ref _) (.cons (vr_ref _) .nil))) (by rfl) (fun n y hy => ?_) (by decide) (by rfl) ?_
  · change y ∈ (["book", "table", "process"] : List Str) at hy
    simp only [List.mem_cons, List.not_mem_nil, or_false] at hy
    rcases hy with rfl | rfl | rfl
    · exact .inr ⟨rfl, rfl⟩
    · exact .inl rfl
    · exact .inl rfl
  intro c' hc' he' hh'
  have hcn := hh'.trans hh
  -- mine, kids = (book[process.pid], _law_kids(book, process.pid))
  refine ex_assign2s (x := "mine") (y := "kids") hcn (ev_tuple (ev_args_cons (ev_bookI rfl rfl (ev_attr (ev_name rfl rfl ?_)))))
  refine gp_pidU G R hj ⟨p, d, b, by rw [hpid], RB, hp, ev_args_cons (ev_call G rfl rfl (by k_is) (by k_is) (ev_args_cons (ev_name rfl rfl (ev_args_cons (ev_attr (ev_name rfl rfl ?_))))))⟩
  refine gp_pidU G R hj (ev_args_nil ?_)
  rw [hpid]
  refine all2_rv fun u hv2 => ?_
  refine kids_ok G hc' hcn RB hv2 fun l kl st₁ X₁ hl₁ hkl50 hnd hmem => ev_args_nil ⟨by simp [sizeLine_eq], fun t ht => ⟨t, _, _, rfl, Store.set_self _ _ _, ?_⟩⟩
  have X₂ := X₁.trans (Ext.new (mo := .tuple [.ref (d p), .ref l]) ht)
  have hl₂ := Ext.new (mo := .tuple [.ref (d p), .ref l]) ht _ _ hl₁
  generalize st₁.set t (.tuple [.ref (d p), .ref l]) = st₂ at X₂ hl₂ ⊢
  have R₂ := R.ext X₂
  have RB₂ := RB.ext X₂
  intro va vb ha hb
  refine as_cons (as_bind hc' he'.symm hb (as_cons (as_bind hc' he'.symm ha (as_nil ?_))))
  -- over
  refine ex_assignComp (cl := [("book", c'.L + 1)]) (lmF := LM.of [("book", .ref B)]) hc' he'.symm hcn (fun x a e => ?_) rfl (by decide) rfl (by decide) rfl (fun y mv e => ?_) (ev_name rfl rfl ?_)
  · obtain rfl := cells_one e
    exact ⟨_, rfl, rfl⟩
  · obtain ⟨rfl, rfl⟩ := lm_one e
    exact ⟨rfl, rfl, rfl, rfl⟩
  refine ⟨l, _, rfl, hl₂, by rw [sizeLine_eq, List.length_map]; omega, fun k acc st' => st' = st₂ ∧ acc = ((kl.take k).filter fun k => decide ((b.e k).state = .over)).map .int, ⟨rfl, rfl⟩, fun _ _ _ h => h.1 ▸ hl₂, ?_, ?_⟩
  · rintro k acc st' C E' hk ⟨rfl, rfl⟩
    have hk : k < kl.length := by simpa using hk
    have hmem' : kl[k] ∈ b.ks := ((hmem _).mp (List.getElem_mem hk)).1
    (first | refine e0a4 (fun kv e1 e2 e3 => ?_) (RB₂.e _ hmem') | refine e1a3 (fun kv e1 e2 e3 => ?_) (RB₂.e _ hmem') | refine e2a2 (fun kv e1 e2 e3 => ?_) (RB₂.e _ hmem') | obtain ⟨kv, e1, e2, e3⟩ := RB₂.e _ hmem')
    have ho : lmC "pid" ((fun i => (kl.map MV.int).getD i .none) k) (LM.of [("book", .ref B)]) "pid" = some (.int kl[k]) := by unfold lmC; rw [if_pos rfl]; exact congrArg some (map_getD hk)
    refine ct_one (tr_cmp (ev_book rfl rfl (ev_name rfl ho ⟨_, d, b, kv, _, rfl, RB₂, hmem', e1, e2.state, ev_str ?_⟩)))
    refine cmp_eq_strU ⟨_, rfl, ?_⟩
    rw [show ("over" : Str) = BS.over.str from rfl, BS.str_beq]
    by_cases q : (b.e kl[k]).state = .over
    · (first | refine iteP (by simpa using q) ?_ | rw [if_pos (by simpa using q)])
      exact ev_name rfl ho ⟨rfl, by rw [take_filter_succ hk, if_pos (by simpa using q)]; simp⟩
    · (first | refine iteN (by simpa using q) ?_ | rw [if_neg (by simpa using q)])
      exact ⟨rfl, by rw [take_filter_succ hk, if_neg (by simpa using q)]; simp⟩
  rintro O acc st' ⟨rfl, rfl⟩ hO
  rw [List.length_map, List.take_length]
  have hom : ∀ k, k ∈ kl.filter (fun k => decide ((b.e k).state = .over)) ↔ b.kid p k ∧ (b.e k).state = .over := fun k => by rw [List.mem_filter, hmem]; simp
  generalize (kl.filter fun k => decide ((b.e k).state = .over)) = ol at hom ⊢
  have X₃ := Ext.new (mo := .list (ol.map .int)) hO
  have hO₃ := Store.set_self st' O (.list (ol.map .int))
  generalize st'.set O (.list (ol.map .int)) = st₃ at X₃ hO₃ ⊢
  have hl₃ := X₃ _ _ hl₂
  have R₃ := R₂.ext X₃
  have RB₃ := RB₂.ext X₃
  have nover : (∀ i, i ∈ a.kids A.n j → (a.ps i).state ≠ .zombie) → ol = [] := fun hno => by
    cases ol with
    | nil => rfl
    | cons k r =>
      obtain ⟨h1, h2⟩ := (hom k).mp (.head _)
      (first | refine e0a4 (fun i hi e hz => ?_) (hk2 k h1) | refine e1a3 (fun i hi e hz => ?_) (hk2 k h1) | refine e2a2 (fun i hi e hz => ?_) (hk2 k h1) | obtain ⟨i, hi, e, hz⟩ := hk2 k h1)
      exact absurd (hz h2) (hno i hi)
  have nkids : kl = [] ↔ a.kids A.n j = [] := by
    constructor
    · intro h
      cases hk : a.kids A.n j with
      | nil => rfl
      | cons i r =>
        have := (hmem _).mpr (hk1 i (by rw [hk]; exact .head _)).1
        rw [h] at this; cases this
    · intro h
      cases kl with
      | nil => rfl
      | cons k r =>
        (first | refine e0a3 (fun i hi _ => ?_) (hk2 k ((hmem k).mp (.head _))) | refine e1a2 (fun i hi _ => ?_) (hk2 k ((hmem k).mp (.head _))) | refine e2a1 (fun i hi _ => ?_) (hk2 k ((hmem k).mp (.head _))) | obtain ⟨i, hi, _⟩ := hk2 k ((hmem k).mp (.head _)))
        rw [h] at hi; cases hi
  (first | refine e0a4 (fun kp p1 p2 p3 => ?_) (RB₃.e p hp) | refine e1a3 (fun kp p1 p2 p3 => ?_) (RB₃.e p hp) | refine e2a2 (fun kp p1 p2 p3 => ?_) (RB₃.e p hp) | obtain ⟨kp, p1, p2, p3⟩ := RB₃.e p hp)
  refine ex_tryAssign G hc' he'.symm exOk64 (by k_is) (evX_meth G fun E => ev_name rfl rfl ⟨A.T, 274, A.TD, _, 243, rfl, R₃.t, R₃.td, nT_wait _, mT_wait, ev_args_cons (ev_name rfl rfl (ev_args_nil ?_))⟩)
  refine all2_r1 ?_
  refine wait_ok G hc' hcn R₃ hj (fun i hi hz lt st₄ R₄ K₄ hlt => ?_) (fun hno hne hkd st₄ R₄ K₄ => ?_) (fun hno hor st₄ X₄ => ?_)
  · -- told of one that has ended
    have RB₄ := RB₃.keep R₃ K₄
    have hO₄ := R₃.kept K₄ hO₃ (by intro _ e; cases e)
    (first | refine e0a3 (fun hkid hne1 hst => ?_) (hk1 i hi) | refine e1a2 (fun hkid hne1 hst => ?_) (hk1 i hi) | refine e2a1 (fun hkid hne1 hst => ?_) (hk1 i hi) | obtain ⟨hkid, hne1, hst⟩ := hk1 i hi)
    obtain ⟨hov, hstat⟩ := hst hz
    refine ex_if (tr_cmp (ev_name rfl rfl (ev_none ?_)))
    refine cmp_is_noneU ⟨_, rfl, ?_⟩
    (first | refine iteN (show ¬ ((MV.ref lt).isNone = true) from Bool.false_ne_true) ?_ | rw [if_neg (show ¬ ((MV.ref lt).isNone = true) from Bool.false_ne_true)])
    refine ex_nil ?_
    refine ex_assign2 hcn (ev_name rfl rfl ⟨lt, _, _, rfl, hlt, fun va vb ha hb => as_cons (as_name hc' he'.symm ha (as_cons (as_name hc' he'.symm hb (as_nil ?_))))⟩)
    refine ex_if (tr_or (tr_cmp (ev_name rfl rfl (ev_name rfl rfl ?_))))
    refine cmp_notinLU hO₄ ⟨_, rfl, ?_⟩
    have hin : ol.any (· == (a.ps i).pid) = true := List.any_eq_true.mpr ⟨_, (hom _).mpr ⟨hkid, hov⟩, by simp⟩
    rw [hin]; (first | refine iteN (by decide) ?_ | rw [if_neg (by decide)])
    (first | refine e0a4 (fun ki q1 q2 q3 => ?_) (RB₄.e _ hkid.1) | refine e1a3 (fun ki q1 q2 q3 => ?_) (RB₄.e _ hkid.1) | refine e2a2 (fun ki q1 q2 q3 => ?_) (RB₄.e _ hkid.1) | obtain ⟨ki, q1, q2, q3⟩ := RB₄.e _ hkid.1)
    refine tr_or (tr_cmp (ev_book rfl rfl (ev_name rfl rfl ⟨_, d, b, ki, _, rfl, RB₄, hkid.1, q1, q2.status, ev_name rfl rfl ?_⟩)))
    rw [hstat]
    refine cmp_ne_intU ⟨_, rfl, ?_⟩
    (first | refine iteN (by simp) ?_ | rw [if_neg (by simp)])
    refine tr_or_nil ?_
    (first | refine iteN (by decide) ?_ | rw [if_neg (by decide)])
    refine ex_nil ?_
    refine ex_expr (ev_bmeth PySem.F.plainAttrs_dict PySem.F.slot_dict_pop PySem.F.type_dict_pop (ev_name rfl rfl ⟨B, _, rfl, RB₄.bk, or_idict, ev_args_cons (ev_name rfl rfl (ev_args_nil ?_))⟩))
    refine all2_v1 fun v hv => ?_
    refine call_popI RB₄.bk (by rw [sizeLine_eq, List.length_map]; have := RB.len; omega) hv (RB₄.get hkid.1) (ex_ret (ev_bool ?_))
    exact hq1 i hi hz _ (R₄.setO RB₄.bk (.inr ⟨_, rfl⟩)) (RB₄.del hne1)
  · -- it sleeps
    have RB₄ := RB₃.keep R₃ K₄
    have hO₄ := R₃.kept K₄ hO₃ (by intro _ e; cases e)
    have hl₄ := R₃.kept K₄ hl₃ (by intro _ e; cases e)
    obtain rfl := nover hno
    rw [hpid] at R₄
    have hsl : ((a.sleepF j p).ps j).state = .sleeping := by simp [AT.sleepF, AT.set]
    refine ex_if (tr_cmp (ev_name rfl rfl (ev_none ?_)))
    refine cmp_is_noneU ⟨_, rfl, ?_⟩
    (first | refine iteP (by decide) ?_ | rw [if_pos (by decide)])
    (first | refine e0a4 (fun kv e1 e2 e3 => ?_) (RB₄.e p hp) | refine e1a3 (fun kv e1 e2 e3 => ?_) (RB₄.e p hp) | refine e2a2 (fun kv e1 e2 e3 => ?_) (RB₄.e p hp) | obtain ⟨kv, e1, e2, e3⟩ := RB₄.e p hp)
    refine ex_assignSub (ev_str (ev_name rfl rfl (ev_str ?_)))
    refine vr_r3 fun vj vv hj' hv => ?_
    obtain ⟨l5, RB₅⟩ := RB₄.set_state hp e1 .asleep
    refine set_S e1 l5 hj' hv ?_
    have R₅ := R₄.setO (mo' := .sdict (dput ("state" : Str) (.str BS.asleep.str) kv)) e1 (.inl ⟨_, rfl⟩)
    have L₅ := LT.setD (mo' := .sdict (dput ("state" : Str) (.str BS.asleep.str) kv)) e1 (.inl ⟨_, rfl⟩)
    have hO₅ := L₅.1 _ _ hO₄
    have hl₅ := L₅.1 _ _ hl₄
    show Ex w b₀ c' _ _ _ _ (st₄.set (d p) (.sdict (dput ("state" : Str) (.str BS.asleep.str) kv))) _
    generalize st₄.set (d p) (.sdict (dput ("state" : Str) (.str BS.asleep.str) kv)) = st₅ at R₅ RB₅ hO₅ hl₅ ⊢
    refine ex_ret (ev_ifexp (tr_and (tr_cmp (ev_name rfl rfl (ev_list (ev_args_nil ⟨by simp, fun l₆ hl₆ => ?_⟩))))))
    have X₆ := Ext.new (mo := .list []) hl₆
    refine cmp_ne_nilU hc' (X₆ _ _ hl₅) (Store.set_self _ _ _) ⟨_, rfl, ?_⟩
    rw [if_pos (by
      have : kl ≠ [] := fun e => hne (nkids.mp e)
      simpa using this)]
    have R₆ := R₅.ext X₆
    have RB₆ := RB₅.ext X₆
    have hO₆ := X₆ _ _ hO₅
    generalize st₅.set l₆ (.list []) = st₆ at R₆ RB₆ hO₆ ⊢
    refine tr_and (tr_cmp (ev_name rfl rfl (ev_list (ev_args_nil ⟨by simp, fun l₇ hl₇ => ?_⟩))))
    have X₇ := Ext.new (mo := .list []) hl₇
    refine cmp_eq_nilU hc' (X₇ _ _ hO₆) (Store.set_self _ _ _) ⟨_, rfl, ?_⟩
    (first | refine iteP (by simp) ?_ | rw [if_pos (by simp)])
    have R₇ := R₆.ext X₇
    have RB₇ := RB₆.ext X₇
    generalize st₆.set l₇ (.list []) = st₇ at R₇ RB₇ ⊢
    refine tr_and (tr_cmp (ev_attr (ev_name rfl rfl ?_)))
    refine gp_stateU G R₇ hj (ev_str ?_)
    refine cmp_eq_strU ⟨_, rfl, ?_⟩
    rw [hsl]; (first | refine iteP (by decide) ?_ | rw [if_pos (by decide)])
    refine tr_and_nil ?_
    (first | refine iteP rfl ?_ | rw [if_pos rfl])
    exact ev_bool (hq2 hno hne hkd st₇ R₇ RB₇)
  · -- it is refused
    intro v E'
    obtain rfl := nover hno
    have R₄ := R₃.ext X₄
    have RB₄ := RB₃.ext X₄
    have hO₄ := X₄ _ _ hO₃
    have hl₄ := X₄ _ _ hl₃
    refine ex_ret (ev_ifexp (tr_and (tr_cmp (ev_name rfl rfl (ev_list (ev_args_nil ⟨by simp, fun l₆ hl₆ => ?_⟩))))))
    have X₆ := Ext.new (mo := .list []) hl₆
    refine cmp_eq_nilU hc'.at_ (X₆ _ _ hO₄) (Store.set_self _ _ _) ⟨_, rfl, ?_⟩
    (first | refine iteP (by simp) ?_ | rw [if_pos (by simp)])
    have R₆ := R₄.ext X₆
    have RB₆ := RB₄.ext X₆
    have hl₇ := X₆ _ _ hl₄
    generalize st₄.set l₆ (.list []) = st₆ at R₆ RB₆ hl₇ ⊢
    refine tr_and (tr_or (tr_cmp (ev_name rfl rfl (ev_list (ev_args_nil ⟨by simp, fun l₇ hl₇' => ?_⟩)))))
    have X₇ := Ext.new (mo := .list []) hl₇'
    refine cmp_eq_nilU hc'.at_ (X₇ _ _ hl₇) (Store.set_self _ _ _) ⟨_, rfl, ?_⟩
    have R₇ := R₆.ext X₇
    have RB₇ := RB₆.ext X₇
    generalize st₆.set l₇ (.list []) = st₇ at R₇ RB₇ ⊢
    by_cases q : kl = []
    · (first | refine iteP (by simp [q]) ?_ | rw [if_pos (by simp [q])]); (first | refine iteP (by simp [q]) ?_ | rw [if_pos (by simp [q])])
      refine tr_and_nil ?_
      (first | refine iteP rfl ?_ | rw [if_pos rfl])
      exact ev_bool (hq3 hno hor st₇ R₇ RB₇)
    · (first | refine iteN (by simpa using q) ?_ | rw [if_neg (by simpa using q)])
      (first | refine e0a4 (fun kv e1 e2 e3 => ?_) (RB₇.e p hp) | refine e1a3 (fun kv e1 e2 e3 => ?_) (RB₇.e p hp) | refine e2a2 (fun kv e1 e2 e3 => ?_) (RB₇.e p hp) | obtain ⟨kv, e1, e2, e3⟩ := RB₇.e p hp)
      have hkd : (a.ps j).killed = true := hor.resolve_left fun e => q (nkids.mpr e)
      refine tr_or (tr_bool (ev_mine rfl rfl e1 e2.killed (.inl ⟨_, rfl, ?_⟩)))
      rw [hkl, hkd]; (first | refine iteP rfl ?_ | rw [if_pos rfl]); (first | refine iteP rfl ?_ | rw [if_pos rfl])
      refine tr_and_nil ?_
      (first | refine iteP rfl ?_ | rw [if_pos rfl])
      exact ev_bool (hq3 hno hor st₇ R₇ RB₇)
end
end PartL8
section PartP1
open PySem PySem.W PyProof.Rows PySem.Spec PySem.Calls

def PS.bs : PS → BS
  | .sleeping => .asleep
  | .zombie => .over
  | _ => .ready
theorem bs_asleep {x : PS} : x.bs = .asleep ↔ x = .sleeping := by cases x <;> simp [PS.bs]
theorem bs_over {x : PS} : x.bs = .over ↔ x = .zombie := by cases x <;> simp [PS.bs]
theorem bs_ready {x : PS} : x.bs = .ready ↔ x ≠ .sleeping ∧ x ≠ .zombie := by cases x <;> simp [PS.bs]

structure Sim (n : Nat) (r : Option Nat) (a : AT) (b : Bk) : Prop where
  n3 : 3 ≤ n
  n8 : n ≤ 8
  last : a.last < n
  run : a.run = r
  rr : ∀ i, r = some i → i < n ∧ (a.ps i).state = .running
  nf : ∀ i, i < n → (a.ps i).state ≠ .fresh ∧ ((a.ps i).state = .running → r = some i)
  k1 : ∀ i, i < n → (a.ps i).state ≠ .unused → (a.ps i).pid ∈ b.ks
  k2 : ∀ k, k ∈ b.ks → ∃ i, i < n ∧ (a.ps i).state ≠ .unused ∧ (a.ps i).pid = k
  inj : ∀ i j, i < n → j < n → (a.ps i).state ≠ .unused → (a.ps j).state ≠ .unused → (a.ps i).pid = (a.ps j).pid → i = j
  nd : b.ks.Nodup
  f0 : a.first = some 0
  u0 : (a.ps 0).state ≠ .unused
  p0 : (a.ps 0).pid = 1
  z0 : (a.ps 0).state ≠ .zombie
  par0 : (a.ps 0).parent = none
  bpar0 : (b.e 1).parent = 0
  next : a.next = b.last + 1
  le : ∀ i, i < n → (a.ps i).state ≠ .unused → 1 ≤ (a.ps i).pid ∧ (a.ps i).pid ≤ b.last
  st : ∀ i, i < n → (a.ps i).state ≠ .unused → (b.e (a.ps i).pid).state = (a.ps i).state.bs
  kd : ∀ i, i < n → (a.ps i).state ≠ .unused → (b.e (a.ps i).pid).killed = (a.ps i).killed
  status : ∀ i, i < n → (a.ps i).state = .zombie → (b.e (a.ps i).pid).status = some (a.ps i).status
  par : ∀ i, i < n → (a.ps i).state ≠ .unused → i ≠ 0 → ∃ j, (a.ps i).parent = some j ∧ j < n ∧ (a.ps j).state ≠ .unused ∧ (a.ps j).state ≠ .zombie ∧ (a.ps j).pid = (b.e (a.ps i).pid).parent ∧ (a.ps j).pid < (a.ps i).pid
  chan : ∀ i, i < n → (a.ps i).state = .sleeping → (a.ps i).chan = some (a.ps i).pid
  slp : ∀ i, i < n → (a.ps i).state = .sleeping → ∃ k, k < n ∧ (a.ps k).state ≠ .unused ∧ (a.ps k).parent = some i
  slz : ∀ i, i < n → (a.ps i).state = .sleeping → ∀ k, k < n → (a.ps k).state ≠ .unused → (a.ps k).parent = some i → (a.ps k).state ≠ .zombie
  unp : ∀ i, i < n → (a.ps i).state = .unused → (a.ps i).parent = none

theorem AT.set_ps (a : AT) (i : Nat) (x : AP) (k : Nat) : (a.set i x).ps k = if k = i then x else a.ps k := rfl
theorem Bk.upd_e (b : Bk) (i : Int) (x : BE) (k : Int) : (b.upd i x).e k = if k = i then x else b.e k := rfl
theorem nextF_ps (a : AT) (i k : Nat) : (a.nextF i).ps k = if k = i then { a.ps i with state := .running } else a.ps k := rfl
theorem readyF_ps (a : AT) (i k : Nat) : (a.readyF i).ps k = if k = i then { a.ps i with state := .ready, chan := none } else a.ps k := rfl
theorem killF_ps (a : AT) (i k : Nat) : (a.killF i).ps k = if k = i then (if (a.ps i).state = .sleeping then { a.ps i with killed := true, state := .ready, chan := none } else { a.ps i with killed := true }) else a.ps k := by
  unfold AT.killF
  by_cases h : (a.ps i).state = .sleeping
  · rw [if_pos h, if_pos h, readyF_ps, AT.set_self]
    by_cases q : k = i <;> simp [q, AT.set]
  · rw [if_neg h, if_neg h]; rfl
theorem bkillF_e (b : Bk) (p k : Int) : (b.killF p).e k = if k = p then (if (b.e p).state = .asleep then { b.e p with killed := true, state := .ready, since := b.clock } else { b.e p with killed := true }) else b.e k := by
  unfold Bk.killF
  by_cases h : (b.e p).state = .asleep
  · rw [if_pos h, if_pos h]; rfl
  · rw [if_neg h, if_neg h]; rfl

/-- where nothing but states, kills and channels turn -/
theorem Sim.frame {n : Nat} {r r' : Option Nat} {a a' : AT} {b b' : Bk} (S : Sim n r a b) (hlast : a'.last < n) (hrun : a'.run = r') (hrr : ∀ i, r' = some i → i < n ∧ (a'.ps i).state = .running)
    (hnf : ∀ i, i < n → (a'.ps i).state ≠ .fresh ∧ ((a'.ps i).state = .running → r' = some i)) (hfirst : a'.first = a.first) (hnext : a'.next = a.next) (hks : b'.ks = b.ks) (hbl : b'.last = b.last)
    (hpid : ∀ k, (a'.ps k).pid = (a.ps k).pid) (hpar : ∀ k, (a'.ps k).parent = (a.ps k).parent) (hstat : ∀ k, (a'.ps k).status = (a.ps k).status)
    (hU : ∀ k, (a'.ps k).state = .unused ↔ (a.ps k).state = .unused) (hZ : ∀ k, (a'.ps k).state = .zombie ↔ (a.ps k).state = .zombie)
    (hS : ∀ k, k < n → (a'.ps k).state = .sleeping → ((a.ps k).state = .sleeping ∧ (a'.ps k).chan = (a.ps k).chan) ∨
      ((a'.ps k).chan = some (a.ps k).pid ∧ (∃ m, m < n ∧ (a.ps m).state ≠ .unused ∧ (a.ps m).parent = some k) ∧ ∀ m, m < n → (a.ps m).state ≠ .unused → (a.ps m).parent = some k → (a.ps m).state ≠ .zombie))
    (hbp : ∀ k, (b'.e k).parent = (b.e k).parent) (hbs : ∀ k, (b'.e k).status = (b.e k).status)
    (hst : ∀ i, i < n → (a.ps i).state ≠ .unused → (b'.e (a.ps i).pid).state = (a'.ps i).state.bs) (hkd : ∀ i, i < n → (a.ps i).state ≠ .unused → (b'.e (a.ps i).pid).killed = (a'.ps i).killed) : Sim n r' a' b' := by
  have u : ∀ k, (a'.ps k).state ≠ .unused ↔ (a.ps k).state ≠ .unused := fun k => not_congr (hU k)
  refine ⟨S.n3, S.n8, hlast, hrun, hrr, hnf, fun i hi ui => ?_, fun k hk => ?_, fun i j hi hj ui uj e => S.inj i j hi hj ((u i).mp ui) ((u j).mp uj) (by rw [← hpid, ← hpid]; exact e), hks ▸ S.nd, hfirst.trans S.f0, (u 0).mpr S.u0, (hpid 0).trans S.p0, fun h => S.z0 ((hZ 0).mp h), (hpar 0).trans S.par0, (hbp 1).trans S.bpar0,
    by rw [hnext, hbl]; exact S.next, fun i hi ui => ?_, fun i hi ui => ?_, fun i hi ui => ?_, fun i hi z => ?_, fun i hi ui h0 => ?_, fun i hi s => ?_, fun i hi s => ?_, fun i hi s k hk uk pk z => ?_, fun i hi h => (hpar i).trans (S.unp i hi ((hU i).mp h))⟩
  · rw [hpid, hks]; exact S.k1 i hi ((u i).mp ui)
  · obtain ⟨i, h1, h2, h3⟩ := S.k2 k (hks ▸ hk)
    exact ⟨i, h1, (u i).mpr h2, (hpid i).trans h3⟩
  · rw [hpid, hbl]; exact S.le i hi ((u i).mp ui)
  · rw [hpid]; exact hst i hi ((u i).mp ui)
  · rw [hpid]; exact hkd i hi ((u i).mp ui)
  · rw [hpid, hbs, hstat]; exact S.status i hi ((hZ i).mp z)
  · obtain ⟨j, h1, h2, h3, h4, h5, h6⟩ := S.par i hi ((u i).mp ui) h0
    exact ⟨j, (hpar i).trans h1, h2, (u j).mpr h3, fun z => h4 ((hZ j).mp z), by rw [hpid, hpid, hbp]; exact h5, by rw [hpid, hpid]; exact h6⟩
  · rcases hS i hi s with ⟨h, e⟩ | ⟨h, _⟩
    · rw [e, hpid]; exact S.chan i hi h
    · rw [h, hpid]
  · rcases hS i hi s with ⟨h, _⟩ | ⟨_, ⟨k, h1, h2, h3⟩, _⟩
    · obtain ⟨k, h1, h2, h3⟩ := S.slp i hi h
      exact ⟨k, h1, (u k).mpr h2, (hpar k).trans h3⟩
    · exact ⟨k, h1, (u k).mpr h2, (hpar k).trans h3⟩
  · rcases hS i hi s with ⟨h, _⟩ | ⟨_, _, h⟩
    · exact S.slz i hi h k hk ((u k).mp uk) ((hpar k).symm.trans pk) ((hZ k).mp z)
    · exact h k hk ((u k).mp uk) ((hpar k).symm.trans pk) ((hZ k).mp z)

theorem sim_next {n : Nat} {a : AT} {b : Bk} (S : Sim n none a b) {i : Nat} (hi : i < n) (hr : (a.ps i).state = .ready) (t c : Int) :
    Sim n (some i) (a.nextF i) { b.upd (a.ps i).pid { b.e (a.ps i).pid with turn := t } with clock := c } := by
  have ss : ∀ k, ((a.nextF i).ps k).state = if k = i then .running else (a.ps k).state := fun k => by rw [nextF_ps]; split <;> rfl
  have pf : ∀ {β : Type} (f : AP → β), f { a.ps i with state := .running } = f (a.ps i) → ∀ k, f ((a.nextF i).ps k) = f (a.ps k) := fun f h k => by
    show f (if k = i then _ else _) = _
    split
    · rename_i q; rw [q]; exact h
    · rfl
  have bf : ∀ {β : Type} (f : BE → β), f { b.e (a.ps i).pid with turn := t } = f (b.e (a.ps i).pid) → ∀ k, f (({ b.upd (a.ps i).pid { b.e (a.ps i).pid with turn := t } with clock := c } : Bk).e k) = f (b.e k) := fun f h k => by
    show f (if k = (a.ps i).pid then _ else _) = _
    split
    · rename_i q; rw [q]; exact h
    · rfl
  refine S.frame hi rfl (fun j e => ?_) (fun k hk => ?_) rfl rfl rfl rfl (pf AP.pid rfl) (pf AP.parent rfl) (pf AP.status rfl) (fun k => ?_) (fun k => ?_) (fun k hk s => ?_) (bf BE.parent rfl) (bf BE.status rfl)
    (fun k hk uk => ?_) (fun k hk uk => (bf BE.killed rfl _).trans ((S.kd k hk uk).trans (pf AP.killed rfl k).symm))
  · cases e; exact ⟨hi, by rw [ss, if_pos rfl]⟩
  · rw [ss]
    by_cases q : k = i
    · rw [if_pos q]; exact ⟨by decide, fun _ => by rw [q]⟩
    · rw [if_neg q]; exact ⟨(S.nf k hk).1, fun h => by have := (S.nf k hk).2 h; cases this⟩
  · rw [ss]
    by_cases q : k = i
    · rw [if_pos q, q, hr]; exact ⟨fun h => (by cases h), fun h => (by cases h)⟩
    · rw [if_neg q]
  · rw [ss]
    by_cases q : k = i
    · rw [if_pos q, q, hr]; exact ⟨fun h => (by cases h), fun h => (by cases h)⟩
    · rw [if_neg q]
  · rw [ss] at s
    by_cases q : k = i
    · rw [if_pos q] at s; cases s
    · rw [if_neg q] at s; exact .inl ⟨s, pf AP.chan rfl k⟩
  · refine ((bf BE.state rfl _).trans (S.st k hk uk)).trans ?_
    rw [ss]
    by_cases q : k = i
    · rw [if_pos q, q, hr]; rfl
    · rw [if_neg q]
end PartP1
section PartP2
open PySem PySem.W PyProof.Rows PySem.Spec PySem.Calls

theorem sim_kill {n j : Nat} {a : AT} {b : Bk} (S : Sim n (some j) a b) {m : Nat} (hm : m < n) (hu : (a.ps m).state ≠ .unused) :
    Sim n (some j) (a.killF m) (b.killF (a.ps m).pid) := by
  have hst := S.st m hm hu
  have hkk : ∀ k, k ≠ m → (a.killF m).ps k = a.ps k := fun k h => by rw [killF_ps, if_neg h]
  have ss : ∀ k, ((a.killF m).ps k).state = (a.ps k).state ∨ (k = m ∧ (a.ps k).state = .sleeping ∧ ((a.killF m).ps k).state = .ready) := fun k => by
    by_cases q : k = m
    · subst q
      by_cases q' : (a.ps k).state = .sleeping
      · exact .inr ⟨rfl, q', by rw [killF_ps, if_pos rfl, if_pos q']⟩
      · exact .inl (by rw [killF_ps, if_pos rfl, if_neg q'])
    · rw [hkk k q]; exact .inl rfl
  have fld : ∀ {β : Type} (f : AP → β), (∀ x y, f { x with killed := true, state := .ready, chan := none } = f x ∧ f { x with killed := y } = f x) → ∀ k, f ((a.killF m).ps k) = f (a.ps k) := fun f h k => by
    rw [killF_ps]
    by_cases q : k = m
    · rw [if_pos q, q]; split
      · exact (h _ true).1
      · exact (h _ true).2
    · rw [if_neg q]
  have bfld : ∀ {β : Type} (f : BE → β), (∀ x c, f { x with killed := true, state := .ready, since := c } = f x ∧ f { x with killed := true } = f x) → ∀ k, f ((b.killF (a.ps m).pid).e k) = f (b.e k) := fun f h k => by
    rw [bkillF_e]
    by_cases q : k = (a.ps m).pid
    · rw [if_pos q, q]; split
      · exact (h _ b.clock).1
      · exact (h _ 0).2
    · rw [if_neg q]
  have hrun : (a.ps m).state = .sleeping → a.run ≠ some m := fun h e => by
    have := (S.rr m (by rw [← S.run, e])).2; rw [h] at this; cases this
  have e2 : (a.killF m).run = a.run := by
    unfold AT.killF; split
    · rename_i h; show (if a.run = some m then none else a.run) = a.run; rw [if_neg (hrun h)]
    · rfl
  refine S.frame (by unfold AT.killF; split <;> exact S.last) (e2.trans S.run) (fun i e => ?_) (fun k hk => ?_) (by unfold AT.killF; split <;> rfl) (by unfold AT.killF; split <;> rfl) (by unfold Bk.killF; split <;> rfl) (by unfold Bk.killF; split <;> rfl)
    (fld AP.pid fun _ _ => ⟨rfl, rfl⟩) (fld AP.parent fun _ _ => ⟨rfl, rfl⟩) (fld AP.status fun _ _ => ⟨rfl, rfl⟩) (fun k => ?_) (fun k => ?_) (fun k hk s => ?_) (bfld BE.parent fun _ _ => ⟨rfl, rfl⟩) (bfld BE.status fun _ _ => ⟨rfl, rfl⟩) (fun k hk uk => ?_) (fun k hk uk => ?_)
  · obtain ⟨h1, h2⟩ := S.rr i e
    refine ⟨h1, ?_⟩
    rcases ss i with h | ⟨_, h, _⟩
    · rw [h, h2]
    · rw [h2] at h; cases h
  · rcases ss k with h | ⟨_, _, h⟩
    · rw [h]; exact S.nf k hk
    · rw [h]; exact ⟨by decide, fun h => by cases h⟩
  · rcases ss k with h | ⟨_, h, h'⟩
    · rw [h]
    · rw [h, h']; exact ⟨fun h => (by cases h), fun h => (by cases h)⟩
  · rcases ss k with h | ⟨_, h, h'⟩
    · rw [h]
    · rw [h, h']; exact ⟨fun h => (by cases h), fun h => (by cases h)⟩
  · by_cases q : k = m
    · rcases ss k with h | ⟨_, _, h⟩
      · subst q; rw [h] at s
        rw [killF_ps, if_pos rfl, if_pos s] at h
        rw [s] at h; cases h
      · rw [h] at s; cases s
    · rw [hkk k q] at s ⊢; exact .inl ⟨s, rfl⟩
  · by_cases q : k = m
    · subst q
      rw [bkillF_e, if_pos rfl, killF_ps, if_pos rfl, hst]
      by_cases q' : (a.ps k).state = .sleeping
      · rw [if_pos q', if_pos (by rw [q']; rfl)]; rfl
      · rw [if_neg q', if_neg fun h => q' (bs_asleep.mp h)]; exact hst
    · rw [bkillF_e, if_neg fun e => q (S.inj k m hk hm uk hu e), hkk k q]; exact S.st k hk uk
  · by_cases q : k = m
    · subst q
      rw [bkillF_e, if_pos rfl, killF_ps, if_pos rfl]
      split <;> split <;> rfl
    · rw [bkillF_e, if_neg fun e => q (S.inj k m hk hm uk hu e), hkk k q]; exact S.kd k hk uk

theorem sim_done {n j : Nat} {a : AT} {b b' : Bk} (S : Sim n (some j) a b) (f1 : b'.ks = b.ks) (f2 : b'.last = b.last)
    (f3 : ∀ k, (b'.e k).parent = (b.e k).parent ∧ (b'.e k).state = (b.e k).state ∧ (b'.e k).killed = (b.e k).killed ∧ (b'.e k).status = (b.e k).status) :
    Sim n none (a.readyF j) b' := by
  obtain ⟨hj, hjr⟩ := S.rr j rfl
  have ss : ∀ k, ((a.readyF j).ps k).state = if k = j then .ready else (a.ps k).state := fun k => by rw [readyF_ps]; split <;> rfl
  have pf : ∀ {β : Type} (f : AP → β), f { a.ps j with state := .ready, chan := none } = f (a.ps j) → ∀ k, f ((a.readyF j).ps k) = f (a.ps k) := fun f h k => by
    show f (if k = j then _ else _) = _
    split
    · rename_i q; rw [q]; exact h
    · rfl
  refine S.frame S.last (by show (if a.run = some j then none else a.run) = none; rw [if_pos S.run]) (fun i e => by cases e) (fun k hk => ?_) rfl rfl f1 f2 (pf AP.pid rfl) (pf AP.parent rfl) (pf AP.status rfl)
    (fun k => ?_) (fun k => ?_) (fun k hk s => ?_) (fun k => (f3 k).1) (fun k => (f3 k).2.2.2) (fun k hk uk => ?_) (fun k hk uk => ((f3 _).2.2.1.trans (S.kd k hk uk)).trans (pf AP.killed rfl k).symm)
  · rw [ss]
    by_cases q : k = j
    · rw [if_pos q]; exact ⟨by decide, fun h => by cases h⟩
    · rw [if_neg q]; exact ⟨(S.nf k hk).1, fun h => by have := (S.nf k hk).2 h; injection this with this; exact absurd this.symm q⟩
  · rw [ss]
    by_cases q : k = j
    · rw [if_pos q, q, hjr]; exact ⟨fun h => (by cases h), fun h => (by cases h)⟩
    · rw [if_neg q]
  · rw [ss]
    by_cases q : k = j
    · rw [if_pos q, q, hjr]; exact ⟨fun h => (by cases h), fun h => (by cases h)⟩
    · rw [if_neg q]
  · rw [ss] at s
    by_cases q : k = j
    · rw [if_pos q] at s; cases s
    · rw [if_neg q] at s; exact .inl ⟨s, by rw [readyF_ps, if_neg q]⟩
  · refine ((f3 _).2.1.trans (S.st k hk uk)).trans ?_
    rw [ss]
    by_cases q : k = j
    · rw [if_pos q, q, hjr]; rfl
    · rw [if_neg q]

theorem sim_sleep {n j : Nat} {a : AT} {b : Bk} (S : Sim n (some j) a b) (hkk : ∃ k, k < n ∧ (a.ps k).state ≠ .unused ∧ (a.ps k).parent = some j)
    (hz : ∀ k, k < n → (a.ps k).state ≠ .unused → (a.ps k).parent = some j → (a.ps k).state ≠ .zombie) :
    Sim n none (a.sleepF j (a.ps j).pid) (b.upd (a.ps j).pid { b.e (a.ps j).pid with state := .asleep }) := by
  obtain ⟨hj, hjr⟩ := S.rr j rfl
  have uj : (a.ps j).state ≠ .unused := by rw [hjr]; decide
  have ss : ∀ k, ((a.sleepF j (a.ps j).pid).ps k).state = if k = j then .sleeping else (a.ps k).state := fun k => by show AP.state (if k = j then _ else _) = _; split <;> rfl
  have pf : ∀ {β : Type} (f : AP → β), f { a.ps j with state := .sleeping, chan := some (a.ps j).pid } = f (a.ps j) → ∀ k, f ((a.sleepF j (a.ps j).pid).ps k) = f (a.ps k) := fun f h k => by
    show f (if k = j then _ else _) = _
    split
    · rename_i q; rw [q]; exact h
    · rfl
  have bf : ∀ {β : Type} (f : BE → β), f { b.e (a.ps j).pid with state := .asleep } = f (b.e (a.ps j).pid) → ∀ k, f ((b.upd (a.ps j).pid { b.e (a.ps j).pid with state := .asleep }).e k) = f (b.e k) := fun f h k => by
    show f (if k = (a.ps j).pid then _ else _) = _
    split
    · rename_i q; rw [q]; exact h
    · rfl
  refine S.frame S.last (by show (if a.run = some j then none else a.run) = none; rw [if_pos S.run]) (fun i e => by cases e) (fun k hk => ?_) rfl rfl rfl rfl (pf AP.pid rfl) (pf AP.parent rfl) (pf AP.status rfl)
    (fun k => ?_) (fun k => ?_) (fun k hk s => ?_) (bf BE.parent rfl) (bf BE.status rfl) (fun k hk uk => ?_) (fun k hk uk => ((bf BE.killed rfl _).trans (S.kd k hk uk)).trans (pf AP.killed rfl k).symm)
  · rw [ss]
    by_cases q : k = j
    · rw [if_pos q]; exact ⟨by decide, fun h => by cases h⟩
    · rw [if_neg q]; exact ⟨(S.nf k hk).1, fun h => by have := (S.nf k hk).2 h; injection this with this; exact absurd this.symm q⟩
  · rw [ss]
    by_cases q : k = j
    · rw [if_pos q, q, hjr]; exact ⟨fun h => (by cases h), fun h => (by cases h)⟩
    · rw [if_neg q]
  · rw [ss]
    by_cases q : k = j
    · rw [if_pos q, q, hjr]; exact ⟨fun h => (by cases h), fun h => (by cases h)⟩
    · rw [if_neg q]
  · rw [ss] at s
    by_cases q : k = j
    · subst q; exact .inr ⟨by show AP.chan (if k = k then _ else _) = _; rw [if_pos rfl], hkk, hz⟩
    · rw [if_neg q] at s; exact .inl ⟨s, by show AP.chan (if k = j then _ else _) = _; rw [if_neg q]⟩
  · rw [ss, Bk.upd_e]
    by_cases q : k = j
    · subst q; rw [if_pos rfl, if_pos rfl]; rfl
    · rw [if_neg q, if_neg fun e => q (S.inj k j hk hj uk uj e)]; exact S.st k hk uk

theorem sim_told {n j : Nat} {a : AT} {b : Bk} (S : Sim n (some j) a b) {i : Nat} (hi : i < n) (hz : (a.ps i).state = .zombie) :
    Sim n (some j) (a.set i {}) (b.delF (a.ps i).pid) := by
  have e10 : ∀ k, k ≠ i → (a.set i {}).ps k = a.ps k := fun k h => AT.set_ne _ _ h
  have e11 : ((a.set i {}).ps i).state = .unused := by rw [AT.set_self]
  have e12 : ((a.set i {}).ps i).parent = none := by rw [AT.set_self]
  have ui : (a.ps i).state ≠ .unused := by rw [hz]; decide
  have f1 : ∀ k, k ∈ (b.delF (a.ps i).pid).ks ↔ k ∈ b.ks ∧ k ≠ (a.ps i).pid := fun k => by simp [Bk.delF]
  have f3 : ∀ k, (b.delF (a.ps i).pid).e k = b.e k := fun k => rfl
  have i0 : i ≠ 0 := fun e => S.z0 (e ▸ hz)
  have hU : ∀ k, ((a.set i {}).ps k).state ≠ .unused → k ≠ i := fun k h e => by subst e; exact h e11
  have n1 : ∀ k, ((a.set i {}).ps k).state = .zombie ∨ ((a.set i {}).ps k).state = .sleeping → k ≠ i := fun k h e => by subst e; rw [e11] at h; rcases h with h | h <;> cases h
  refine ⟨S.n3, S.n8, S.last, S.run, fun m e => ?_, fun k hk => ?_, fun k hk uk => ?_, fun k hk => ?_, fun k m hk hm uk um e => ?_, S.nd.sublist List.filter_sublist, S.f0, by rw [e10 0 (Ne.symm i0)]; exact S.u0, by rw [e10 0 (Ne.symm i0)]; exact S.p0, by rw [e10 0 (Ne.symm i0)]; exact S.z0, by rw [e10 0 (Ne.symm i0)]; exact S.par0, S.bpar0, S.next,
    fun k hk uk => ?_, fun k hk uk => ?_, fun k hk uk => ?_, fun k hk z => ?_, fun k hk hu h0 => ?_, fun k hk s => ?_, fun k hk hs => ?_, fun k hk s m hm um pm => ?_, fun k hk h => ?_⟩
  · obtain ⟨h1, h2⟩ := S.rr m e
    have : m ≠ i := fun q => by subst q; rw [h2] at hz; cases hz
    rw [e10 m this]; exact ⟨h1, h2⟩
  · by_cases q : k = i
    · subst q; rw [e11]; exact ⟨by decide, fun h => by cases h⟩
    · rw [e10 k q]; exact S.nf k hk
  · have q := hU k uk
    rw [e10 k q] at uk ⊢
    exact (f1 _).mpr ⟨S.k1 k hk uk, fun e => q (S.inj k i hk hi uk ui e)⟩
  · obtain ⟨h1, h2⟩ := (f1 k).mp hk
    obtain ⟨m, h3, h4, h5⟩ := S.k2 k h1
    have : m ≠ i := fun q => by subst q; exact h2 h5.symm
    exact ⟨m, h3, by rw [e10 m this]; exact h4, by rw [e10 m this]; exact h5⟩
  · have q := hU k uk
    have q' := hU m um
    rw [e10 k q] at uk e; rw [e10 m q'] at um e
    exact S.inj k m hk hm uk um e
  · have q := hU k uk
    rw [e10 k q] at uk ⊢; exact S.le k hk uk
  · have q := hU k uk
    rw [e10 k q] at uk ⊢; exact S.st k hk uk
  · have q := hU k uk
    rw [e10 k q] at uk ⊢; exact S.kd k hk uk
  · have q := n1 k (.inl z)
    rw [e10 k q] at z ⊢; exact S.status k hk z
  · have q1 : k ≠ i := fun q => by subst q; exact hu e11
    rw [e10 k q1] at hu
    obtain ⟨j, h1, h2, h3, h4, h5, h6⟩ := S.par k hk hu h0
    have q2 : j ≠ i := fun q => by subst q; exact h4 hz
    exact ⟨j, by rw [e10 k q1]; exact h1, h2, by rw [e10 j q2]; exact h3, by rw [e10 j q2]; exact h4, by rw [e10 j q2, e10 k q1, f3]; exact h5, by rw [e10 j q2, e10 k q1]; exact h6⟩
  · have q := n1 k (.inr s)
    rw [e10 k q] at s ⊢; exact S.chan k hk s
  · have q1 : k ≠ i := fun q => by subst q; rw [e11] at hs; cases hs
    rw [e10 k q1] at hs
    obtain ⟨j, h1, h2, h3⟩ := S.slp k hk hs
    have q2 : j ≠ i := fun q => by subst q; exact S.slz k hk hs j h1 h2 h3 hz
    exact ⟨j, h1, by rw [e10 j q2]; exact h2, by rw [e10 j q2]; exact h3⟩
  · have q := n1 k (.inr s)
    have q' := hU m um
    rw [e10 k q] at s; rw [e10 m q'] at um pm ⊢
    exact S.slz k hk s m hm um pm
  · by_cases q : k = i
    · subst q; exact e12
    · rw [e10 k q] at h ⊢; exact S.unp k hk h

theorem sim_fork {n j : Nat} {a : AT} {b : Bk} (S : Sim n (some j) a b) {i : Nat} (hi : i < n) (hun : (a.ps i).state = .unused) (ds : List Deed) :
    Sim n (some j) (a.forkF j i) (b.forkF (a.ps j).pid a.next ds) := by
  obtain ⟨hj, hjr⟩ := S.rr j rfl
  have uj : (a.ps j).state ≠ .unused := by rw [hjr]; decide
  have hni : a.first.or (some i) = a.first := by rw [S.f0]; rfl
  have hrun : a.run ≠ some i := fun e => by
    have := (S.rr i (by rw [← S.run, e])).2; rw [hun] at this; cases this
  have e2 : (a.forkF j i).run = a.run := by show (if a.run = some i then none else a.run) = a.run; rw [if_neg hrun]
  have e10 : ∀ k, k ≠ i → (a.forkF j i).ps k = a.ps k := fun k h => by rw [forkF_ps, if_neg h]
  have e11 : (a.forkF j i).ps i = { pid := a.next, state := .ready, parent := some j } := by rw [forkF_ps, if_pos rfl]
  have hnx := S.next
  have hle := S.le
  have f1 : ∀ k, k ∈ (b.forkF (a.ps j).pid a.next ds).ks ↔ k ∈ b.ks ∨ k = a.next := fun k => by simp [Bk.forkF]
  have hqks : a.next ∉ b.ks := fun h => by
    obtain ⟨m, h1, h2, h3⟩ := S.k2 _ h
    have := hle m h1 h2; omega
  have f3 : ∀ k, k ≠ a.next → (b.forkF (a.ps j).pid a.next ds).e k = b.e k := fun k h => by show (if k = a.next then _ else _) = _; rw [if_neg h]
  have f4 : (b.forkF (a.ps j).pid a.next ds).e a.next = ⟨(a.ps j).pid, ds, .ready, b.clock, 0, none, false⟩ := by show (if a.next = a.next then _ else _) = _; rw [if_pos rfl]
  have hne : ∀ k, k < n → (a.ps k).state ≠ .unused → (a.ps k).pid ≠ a.next := fun k hk uk => by have := hle k hk uk; omega
  have i0 : i ≠ 0 := fun e => S.u0 (e ▸ hun)
  have ji : j ≠ i := fun e => by subst e; rw [hun] at hjr; cases hjr
  have h0n : 0 < n := by have := S.n3; omega
  have one : (1 : Int) ≠ a.next := by have := hle 0 h0n S.u0; omega
  refine ⟨S.n3, S.n8, S.last, e2.trans S.run, fun m e => ?_, fun k hk => ?_, fun k hk uk => ?_, fun k hk => ?_, fun k m hk hm uk um e => ?_, ?_, hni.trans S.f0, by rw [e10 0 (Ne.symm i0)]; exact S.u0, by rw [e10 0 (Ne.symm i0)]; exact S.p0, by rw [e10 0 (Ne.symm i0)]; exact S.z0, by rw [e10 0 (Ne.symm i0)]; exact S.par0, by rw [f3 1 one]; exact S.bpar0, rfl,
    fun k hk uk => ?_, fun k hk uk => ?_, fun k hk uk => ?_, fun k hk z => ?_, fun k hk hu h0 => ?_, fun k hk s => ?_, fun k hk hs => ?_, fun k hk s m hm um pm => ?_, fun k hk h => ?_⟩
  · obtain ⟨h1, h2⟩ := S.rr m e
    have : m ≠ i := fun q => by subst q; rw [h2] at hun; cases hun
    rw [e10 m this]; exact ⟨h1, h2⟩
  · by_cases q : k = i
    · subst q; rw [e11]; exact ⟨(by decide : PS.ready ≠ PS.fresh), fun h => by cases h⟩
    · rw [e10 k q]; exact S.nf k hk
  · by_cases q : k = i
    · subst q; rw [e11]; exact (f1 _).mpr (.inr rfl)
    · rw [e10 k q] at uk ⊢; exact (f1 _).mpr (.inl (S.k1 k hk uk))
  · rcases (f1 k).mp hk with h | h
    · obtain ⟨m, h3, h4, h5⟩ := S.k2 k h
      have : m ≠ i := fun q => by subst q; exact h4 hun
      exact ⟨m, h3, by rw [e10 m this]; exact h4, by rw [e10 m this]; exact h5⟩
    · exact ⟨i, hi, by rw [e11]; exact (by decide : PS.ready ≠ PS.unused), by rw [e11, h]⟩
  · by_cases q : k = i <;> by_cases q' : m = i
    · rw [q, q']
    · subst q; rw [e11, e10 m q'] at e; rw [e10 m q'] at um; exact absurd e.symm (hne m hm um)
    · subst q'; rw [e11, e10 k q] at e; rw [e10 k q] at uk; exact absurd e (hne k hk uk)
    · rw [e10 k q] at e uk; rw [e10 m q'] at e um; exact S.inj k m hk hm uk um e
  · show (b.ks ++ [a.next]).Nodup
    rw [List.nodup_append]
    exact ⟨S.nd, by simp, fun x hx y hy e => by simp at hy; subst hy; subst e; exact hqks hx⟩
  · show 1 ≤ _ ∧ _ ≤ a.next
    by_cases q : k = i
    · subst q; rw [e11]; have := hle 0 h0n S.u0; exact ⟨by show 1 ≤ a.next; omega, Int.le_refl _⟩
    · rw [e10 k q] at uk ⊢; have := hle k hk uk; omega
  · by_cases q : k = i
    · subst q; rw [e11]; show ((b.forkF (a.ps j).pid a.next ds).e a.next).state = _; rw [f4]; rfl
    · rw [e10 k q] at uk ⊢; rw [f3 _ (hne k hk uk)]; exact S.st k hk uk
  · by_cases q : k = i
    · subst q; rw [e11]; show ((b.forkF (a.ps j).pid a.next ds).e a.next).killed = _; rw [f4]
    · rw [e10 k q] at uk ⊢; rw [f3 _ (hne k hk uk)]; exact S.kd k hk uk
  · have q : k ≠ i := fun q => by subst q; rw [e11] at z; cases z
    rw [e10 k q] at z ⊢; rw [f3 _ (hne k hk (by rw [z]; decide))]; exact S.status k hk z
  · by_cases q : k = i
    · subst q
      refine ⟨j, by rw [e11], hj, by rw [e10 j ji]; exact uj, by rw [e10 j ji, hjr]; decide, ?_, ?_⟩
      · rw [e10 j ji, e11]; show _ = ((b.forkF (a.ps j).pid a.next ds).e a.next).parent; rw [f4]
      · rw [e10 j ji, e11]; show (a.ps j).pid < a.next; have := hle j hj uj; omega
    · rw [e10 k q] at hu
      obtain ⟨m, h1, h2, h3, h4, h5, h6⟩ := S.par k hk hu h0
      have q2 : m ≠ i := fun q => by subst q; exact h3 hun
      exact ⟨m, by rw [e10 k q]; exact h1, h2, by rw [e10 m q2]; exact h3, by rw [e10 m q2]; exact h4, by rw [e10 m q2, e10 k q, f3 _ (hne k hk hu)]; exact h5, by rw [e10 m q2, e10 k q]; exact h6⟩
  · have q : k ≠ i := fun q => by subst q; rw [e11] at s; cases s
    rw [e10 k q] at s ⊢; exact S.chan k hk s
  · have q : k ≠ i := fun q => by subst q; rw [e11] at hs; cases hs
    rw [e10 k q] at hs
    obtain ⟨m, h1, h2, h3⟩ := S.slp k hk hs
    have q2 : m ≠ i := fun q => by subst q; exact h2 hun
    exact ⟨m, h1, by rw [e10 m q2]; exact h2, by rw [e10 m q2]; exact h3⟩
  · have q : k ≠ i := fun q => by subst q; rw [e11] at s; cases s
    rw [e10 k q] at s
    by_cases q' : m = i
    · subst q'; rw [e11]; exact (by decide : PS.ready ≠ PS.zombie)
    · rw [e10 m q'] at um pm ⊢; exact S.slz k hk s m hm um pm
  · have q : k ≠ i := fun q => by subst q; rw [e11] at h; cases h
    rw [e10 k q] at h ⊢; exact S.unp k hk h
end PartP2
section PartP3
open PySem PySem.W PyProof.Rows PySem.Spec PySem.Calls

theorem wakeStep_ps (a : AT) (p : Int) (i k : Nat) : (AT.wakeStep p a i).ps k = if k = i ∧ (a.ps k).state = .sleeping ∧ (a.ps k).chan = some p then { a.ps k with state := .ready, chan := none } else a.ps k := by
  unfold AT.wakeStep
  by_cases h : (a.ps i).state = .sleeping ∧ (a.ps i).chan = some p
  · rw [if_pos h, readyF_ps]
    by_cases q : k = i
    · subst q; rw [if_pos rfl, if_pos ⟨rfl, h⟩]
    · rw [if_neg q, if_neg fun e => q e.1]
  · rw [if_neg h, if_neg]; rintro ⟨e, e'⟩; subst e; exact h e'
theorem wakeStep_rest (a : AT) (p : Int) (i : Nat) : (AT.wakeStep p a i).last = a.last ∧ (AT.wakeStep p a i).next = a.next ∧ (AT.wakeStep p a i).first = a.first ∧ ((AT.wakeStep p a i).run = a.run ∨ (AT.wakeStep p a i).run = none) := by
  unfold AT.wakeStep; split
  · refine ⟨rfl, rfl, rfl, ?_⟩
    show (if a.run = some i then none else a.run) = a.run ∨ (if a.run = some i then none else a.run) = none
    split
    · exact .inr rfl
    · exact .inl rfl
  · exact ⟨rfl, rfl, rfl, .inl rfl⟩
theorem wake_ps (a : AT) (p : Int) (k : Nat) : ∀ n, (a.wake n p).ps k = if k < n ∧ (a.ps k).state = .sleeping ∧ (a.ps k).chan = some p then { a.ps k with state := .ready, chan := none } else a.ps k
  | 0 => by rw [if_neg (by omega)]; rfl
  | n + 1 => by
    unfold AT.wake
    rw [List.range_succ, List.foldl_append, List.foldl_cons, List.foldl_nil, wakeStep_ps]
    have ih := wake_ps a p k n
    unfold AT.wake at ih
    by_cases q : k = n
    · subst q
      rw [if_neg (by omega)] at ih
      rw [ih]
      by_cases h : (a.ps k).state = .sleeping ∧ (a.ps k).chan = some p
      · rw [if_pos ⟨rfl, h⟩, if_pos ⟨by omega, h⟩]
      · rw [if_neg fun e => h e.2, if_neg fun e => h e.2]
    · rw [if_neg fun e => q e.1, ih]
      by_cases h : k < n ∧ (a.ps k).state = .sleeping ∧ (a.ps k).chan = some p
      · rw [if_pos h, if_pos ⟨by omega, h.2⟩]
      · rw [if_neg h, if_neg fun e => h ⟨by omega, e.2⟩]
theorem wake_rest (a : AT) (p : Int) : ∀ n, (a.wake n p).last = a.last ∧ (a.wake n p).next = a.next ∧ (a.wake n p).first = a.first ∧ ((a.wake n p).run = a.run ∨ (a.wake n p).run = none)
  | 0 => ⟨rfl, rfl, rfl, .inl rfl⟩
  | n + 1 => by
    have ih := wake_rest a p n
    unfold AT.wake at ih ⊢
    rw [List.range_succ, List.foldl_append, List.foldl_cons, List.foldl_nil]
    have h := wakeStep_rest ((List.range n).foldl (AT.wakeStep p) a) p n
    exact ⟨h.1.trans ih.1, h.2.1.trans ih.2.1, h.2.2.1.trans ih.2.2.1, by rcases h.2.2.2 with q | q <;> rcases ih.2.2.2 with q' | q' <;> simp [q, q']⟩

structure ChanOk (n : Nat) (a : AT) : Prop where
  chan : ∀ i, i < n → (a.ps i).state = .sleeping → (a.ps i).chan = some (a.ps i).pid
  one : ∀ i, i < n → (a.ps i).state = .sleeping → (a.ps i).pid = (a.ps 0).pid → i = 0

theorem reparStep_ps {n : Nat} {a : AT} (H : ChanOk n a) (h0 : 0 < n) {i : Nat} (hi : i ≠ 0) (k : Nat) : (AT.reparStep n 0 a i).ps k =
    if k = i then { a.ps i with parent := some 0 } else if k = 0 ∧ (a.ps i).state = .zombie ∧ (a.ps 0).state = .sleeping then { a.ps 0 with state := .ready, chan := none } else a.ps k := by
  have hc := H.chan
  have ho := H.one
  unfold AT.reparStep
  by_cases hz : (a.ps i).state = .zombie
  · rw [if_pos hz, wake_ps, AT.set_ps, AT.set_ps, if_neg (show ¬ (0 : Nat) = i from fun e => hi e.symm)]
    by_cases q : k = i
    · subst q
      rw [if_pos rfl, if_pos rfl]
      rw [if_neg]; intro e; have := e.2.1; simp only at this; rw [hz] at this; cases this
    · rw [if_neg q, if_neg q]
      by_cases q0 : k = 0
      · subst q0
        by_cases hs : (a.ps 0).state = .sleeping
        · rw [if_pos ⟨h0, hs, hc 0 h0 hs⟩, if_pos ⟨rfl, hz, hs⟩]
        · rw [if_neg fun e => hs e.2.1, if_neg fun e => hs e.2.2]
      · rw [if_neg, if_neg fun e => q0 e.1]
        rintro ⟨h1, h2, h3⟩
        rw [hc k h1 h2] at h3; injection h3 with h3
        exact q0 (ho k h1 h2 h3)
  · rw [if_neg hz, AT.set_ps]
    by_cases q : k = i
    · rw [if_pos q, if_pos q]
    · rw [if_neg q, if_neg q, if_neg fun e => hz e.2.1]
theorem reparStep_rest (n : Nat) (a : AT) (i : Nat) : (AT.reparStep n 0 a i).last = a.last ∧ (AT.reparStep n 0 a i).next = a.next ∧ (AT.reparStep n 0 a i).first = a.first ∧ ((AT.reparStep n 0 a i).run = a.run ∨ (AT.reparStep n 0 a i).run = none) := by
  unfold AT.reparStep; split
  · exact wake_rest _ _ _
  · exact ⟨rfl, rfl, rfl, .inl rfl⟩

theorem repar_fold {n : Nat} (h0 : 0 < n) : ∀ (l : List Nat) (a : AT), ChanOk n a → 0 ∉ l →
    (∀ k, k ≠ 0 → (l.foldl (AT.reparStep n 0) a).ps k = if k ∈ l then { a.ps k with parent := some 0 } else a.ps k) ∧
    ((l.foldl (AT.reparStep n 0) a).ps 0 = if (a.ps 0).state = .sleeping ∧ ∃ i, i ∈ l ∧ (a.ps i).state = .zombie then { a.ps 0 with state := .ready, chan := none } else a.ps 0) ∧
    (l.foldl (AT.reparStep n 0) a).last = a.last ∧ (l.foldl (AT.reparStep n 0) a).next = a.next ∧ (l.foldl (AT.reparStep n 0) a).first = a.first ∧ ((l.foldl (AT.reparStep n 0) a).run = a.run ∨ (l.foldl (AT.reparStep n 0) a).run = none)
  | [], a, H, hl => by simp
  | i :: l, a, H, hl => by
    have hi : i ≠ 0 := fun e => hl (by simp [e])
    have hl' : 0 ∉ l := fun e => hl (.tail _ e)
    have s := reparStep_ps H h0 hi
    have sr := reparStep_rest n a i
    have H' : ChanOk n (AT.reparStep n 0 a i) := by
      have hc := H.chan
      have ho := H.one
      constructor
      · intro k hk hs; rw [s] at hs ⊢; grind
      · intro k hk hs; rw [s, s]; rw [s] at hs; grind
    obtain ⟨g1, g2, g3, g4, g5, g6⟩ := repar_fold h0 l _ H' hl'
    rw [List.foldl_cons]
    refine ⟨fun k hk => ?_, ?_, g3.trans sr.1, g4.trans sr.2.1, g5.trans sr.2.2.1, ?_⟩
    · have sk : (AT.reparStep n 0 a i).ps k = if k = i then { a.ps i with parent := some 0 } else a.ps k := by
        rw [s k]
        by_cases q : k = i
        · rw [if_pos q, if_pos q]
        · rw [if_neg q, if_neg q, if_neg (fun e => hk e.1)]
      rw [g1 k hk, sk]
      by_cases q : k = i
      · subst q; simp
      · simp [q]
    · rw [g2, s 0, if_neg (show ¬ (0 : Nat) = i from fun e => hi e.symm)]
      have hz : (∃ x, x ∈ l ∧ ((AT.reparStep n 0 a i).ps x).state = .zombie) ↔ ∃ x, x ∈ l ∧ (a.ps x).state = .zombie := by
        constructor
        · rintro ⟨x, h1, h2⟩
          have : x ≠ 0 := fun e => hl' (e ▸ h1)
          rw [s] at h2
          exact ⟨x, h1, by grind⟩
        · rintro ⟨x, h1, h2⟩
          have : x ≠ 0 := fun e => hl' (e ▸ h1)
          refine ⟨x, h1, ?_⟩
          rw [s]; grind
      simp only [hz]
      by_cases q : (a.ps i).state = .zombie
      · by_cases q' : (a.ps 0).state = .sleeping
        · simp [q, q']
        · simp [q, q']
      · simp [q]
    · rcases g6 with q | q
      · rw [q]; exact sr.2.2.2
      · exact .inr q

structure ExitP (n j p : Nat) (s : Int) (a a' : AT) : Prop where
  last : a'.last = a.last
  next : a'.next = a.next
  first : a'.first = a.first
  run : a'.run = none
  pid : ∀ k, k < n → (a'.ps k).pid = (a.ps k).pid
  killed : ∀ k, k < n → (a'.ps k).killed = (a.ps k).killed
  status : ∀ k, k < n → k ≠ j → (a'.ps k).status = (a.ps k).status
  statusj : (a'.ps j).status = s
  par1 : ∀ k, k < n → (a.ps k).state ≠ .unused → (a.ps k).parent = some j → (a'.ps k).parent = some 0
  par2 : ∀ k, k < n → ((a.ps k).state = .unused ∨ (a.ps k).parent ≠ some j) → (a'.ps k).parent = (a.ps k).parent
  statej : (a'.ps j).state = .zombie
  wk : ∀ k, k < n → k ≠ j → (a.ps k).state = .sleeping → (k = p ∨ (k = 0 ∧ ∃ i, i < n ∧ (a.ps i).state = .zombie ∧ (a.ps i).parent = some j)) → (a'.ps k).state = .ready
  nwk : ∀ k, k < n → k ≠ j → ¬ ((a.ps k).state = .sleeping ∧ (k = p ∨ (k = 0 ∧ ∃ i, i < n ∧ (a.ps i).state = .zombie ∧ (a.ps i).parent = some j))) → (a'.ps k).state = (a.ps k).state
  chan : ∀ k, k < n → (a'.ps k).state = .sleeping → (a'.ps k).chan = (a.ps k).chan

theorem exit_ps {n j p : Nat} {a : AT} {b : Bk} (S : Sim n (some j) a b) (hj0 : j ≠ 0) (s : Int) (hp : (a.ps j).parent = some p) (hpn : p < n) (hpu : (a.ps p).state ≠ .unused) (hpj : p ≠ j) : ExitP n j p s a (a.exitF n j 0 s) := by
  have hj := S.rr j rfl
  have h0 : 0 < n := by have := S.n3; omega
  have hc := S.chan
  have hinj := S.inj
  have H : ChanOk n a := ⟨hc, fun i hi h e => hinj i 0 hi h0 (by rw [h]; decide) S.u0 e⟩
  have hl : 0 ∉ a.kids n j := fun e => by have := (mem_kids.mp e).2.2; rw [S.par0] at this; cases this
  obtain ⟨g1, g2, g3, g4, g5, g6⟩ := repar_fold h0 (a.kids n j) a H hl
  change (∀ k, k ≠ 0 → (a.reparF n j 0).ps k = _) at g1
  change (a.reparF n j 0).ps 0 = _ at g2
  change (a.reparF n j 0).last = _ at g3
  change (a.reparF n j 0).next = _ at g4
  change (a.reparF n j 0).first = _ at g5
  change (a.reparF n j 0).run = _ ∨ (a.reparF n j 0).run = _ at g6
  have g7 : ∀ k, k ∈ a.kids n j ↔ k < n ∧ (a.ps k).state ≠ .unused ∧ (a.ps k).parent = some j := fun k => mem_kids
  have hpar0 := S.par0
  generalize a.kids n j = l at *
  unfold AT.exitF
  generalize a.reparF n j 0 = a1 at *
  have hz : (∃ i, i ∈ l ∧ (a.ps i).state = .zombie) ↔ ∃ i, i < n ∧ (a.ps i).state = .zombie ∧ (a.ps i).parent = some j := by
    constructor
    · rintro ⟨i, h1, h2⟩; exact ⟨i, ((g7 i).mp h1).1, h2, ((g7 i).mp h1).2.2⟩
    · rintro ⟨i, h1, h2, h3⟩; exact ⟨i, (g7 i).mpr ⟨h1, by rw [h2]; decide, h3⟩, h2⟩
  simp only [hz] at g2
  have g2a : (a.ps 0).state = .sleeping → (∃ i, i < n ∧ (a.ps i).state = .zombie ∧ (a.ps i).parent = some j) → a1.ps 0 = { a.ps 0 with state := .ready, chan := none } := fun h h' => by rw [g2, if_pos ⟨h, h'⟩]
  have g2b : ¬ ((a.ps 0).state = .sleeping ∧ ∃ i, i < n ∧ (a.ps i).state = .zombie ∧ (a.ps i).parent = some j) → a1.ps 0 = a.ps 0 := fun h => by rw [g2, if_neg h]
  clear g2
  have z0 : ∀ k, (a1.zombF j s).ps k = if k = j then { a1.ps j with state := .zombie, chan := none, status := s } else a1.ps k := fun k => rfl
  have zr : (a1.zombF j s).run = none := by
    show (if a1.run = some j then none else a1.run) = none
    rcases g6 with q | q
    · rw [if_pos (q.trans S.run)]
    · rw [q]; simp
  have z1 : (a1.zombF j s).last = a.last := g3
  have z2 : (a1.zombF j s).next = a.next := g4
  have z3 : (a1.zombF j s).first = a.first := g5
  generalize a1.zombF j s = a2 at *
  have hjl : j ∉ l := fun e => by have := ((g7 j).mp e).2.2; rw [hp] at this; injection this with this; exact hpj this
  have hp1 : (a1.ps j).parent = some p := by rw [g1 j hj0, if_neg hjl]; exact hp
  have hp2 : (a2.ps j).parent = some p := by rw [z0, if_pos rfl]; exact hp1
  have hpp : (a2.ps p).pid = (a.ps p).pid := by
    rw [z0, if_neg hpj]
    by_cases q : p = 0
    · subst q
      by_cases h : (a.ps 0).state = .sleeping ∧ ∃ i, i < n ∧ (a.ps i).state = .zombie ∧ (a.ps i).parent = some j
      · rw [g2a h.1 h.2]
      · rw [g2b h]
    · rw [g1 p q]; split <;> rfl
  rw [hp2]
  dsimp only
  rw [hpp]
  have w := fun k => wake_ps a2 (a.ps p).pid k n
  obtain ⟨w1, w2, w3, w4⟩ := wake_rest a2 (a.ps p).pid n
  generalize a2.wake n (a.ps p).pid = a' at *
  generalize hZ : (∃ i, i < n ∧ (a.ps i).state = .zombie ∧ (a.ps i).parent = some j) = Z at *
  clear hz
  have hw : ∀ k, k < n → (a.ps k).state = .sleeping → (a.ps k).pid = (a.ps p).pid → k = p := fun k hk h e => hinj k p hk hpn (by rw [h]; decide) hpu e
  have y : ∀ k, a2.ps k = if k = j then { a1.ps j with state := .zombie, chan := none, status := s } else a1.ps k := z0
  have y1 : ∀ k, k ≠ 0 → k ≠ j → a2.ps k = if k ∈ l then { a.ps k with parent := some 0 } else a.ps k := fun k h h' => by rw [y, if_neg h', g1 k h]
  have y2 : (a.ps 0).state = .sleeping → Z → a2.ps 0 = { a.ps 0 with state := .ready, chan := none } := fun h h' => by rw [y, if_neg (Ne.symm hj0), g2a h h']
  have y2' : ¬ ((a.ps 0).state = .sleeping ∧ Z) → a2.ps 0 = a.ps 0 := fun h => by rw [y, if_neg (Ne.symm hj0), g2b h]
  have y3 : a2.ps j = { a.ps j with state := .zombie, chan := none, status := s } := by rw [y, if_pos rfl, g1 j hj0, if_neg hjl]
  clear y z0 g1 g2a g2b
  have x3 : a'.ps j = { a.ps j with state := .zombie, chan := none, status := s } := by rw [w, y3, if_neg (by simp)]
  have x1 : ∀ k, k < n → k ≠ 0 → k ≠ j → a'.ps k = { a.ps k with parent := if k ∈ l then some 0 else (a.ps k).parent, state := if (a.ps k).state = .sleeping ∧ k = p then .ready else (a.ps k).state, chan := if (a.ps k).state = .sleeping ∧ k = p then none else (a.ps k).chan } := fun k hk h h' => by
    have q1 : (a2.ps k).state = (a.ps k).state := by rw [y1 k h h']; split <;> rfl
    have q2 : (a2.ps k).chan = (a.ps k).chan := by rw [y1 k h h']; split <;> rfl
    rw [w, q1, q2]
    have q3 : (k < n ∧ (a.ps k).state = .sleeping ∧ (a.ps k).chan = some (a.ps p).pid) ↔ (a.ps k).state = .sleeping ∧ k = p := by
      constructor
      · rintro ⟨_, r1, r2⟩; rw [hc k hk r1] at r2; injection r2 with r2; exact ⟨r1, hw k hk r1 r2⟩
      · rintro ⟨r1, r2⟩; subst r2; exact ⟨hk, r1, hc k hk r1⟩
    simp only [q3, y1 k h h']
    by_cases r : (a.ps k).state = .sleeping ∧ k = p
    · simp only [if_pos r]; split <;> rfl
    · simp only [if_neg r]; split <;> rfl
  have x2a : (a.ps 0).state = .sleeping → (0 = p ∨ Z) → a'.ps 0 = { a.ps 0 with state := .ready, chan := none } := fun r h => by
    by_cases z : Z
    · rw [w, y2 r z, if_neg (by simp)]
    · rw [w, y2' fun e => z e.2, if_pos ⟨h0, r, by rw [hc 0 h0 r, h.resolve_right z]⟩]
  have x2b : ¬ ((a.ps 0).state = .sleeping ∧ (0 = p ∨ Z)) → a'.ps 0 = a.ps 0 := fun h => by
    rw [w, y2' fun e => h ⟨e.1, .inr e.2⟩, if_neg]
    rintro ⟨_, r1, r2⟩
    rw [hc 0 h0 r1] at r2; injection r2 with r2
    exact h ⟨r1, .inl (hw 0 h0 r1 r2)⟩
  have x2 : (a'.ps 0).pid = (a.ps 0).pid ∧ (a'.ps 0).killed = (a.ps 0).killed ∧ (a'.ps 0).status = (a.ps 0).status ∧ (a'.ps 0).parent = (a.ps 0).parent := by
    by_cases h : (a.ps 0).state = .sleeping ∧ (0 = p ∨ Z)
    · rw [x2a h.1 h.2]; exact ⟨rfl, rfl, rfl, rfl⟩
    · rw [x2b h]; exact ⟨rfl, rfl, rfl, rfl⟩
  have xr : a'.run = none := by rcases w4 with q | q
                                · exact q.trans zr
                                · exact q
  clear w y1 y2 y2' y3 hp1 hp2 hpp
  have cs : ∀ k, k = j ∨ k = 0 ∨ (k ≠ j ∧ k ≠ 0) := fun k => by omega
  refine ⟨w1.trans z1, w2.trans z2, w3.trans z3, xr, fun k hk => ?_, fun k hk => ?_, fun k hk hkj => ?_, by rw [x3], fun k hk hu e => ?_, fun k hk e => ?_, by rw [x3], fun k hk hkj hs e => ?_, fun k hk hkj e => ?_, fun k hk hs => ?_⟩
  · rcases cs k with q | q | ⟨q, q'⟩
    · subst q; rw [x3]
    · subst q; simp only [x2]
    · rw [x1 k hk q' q]
  · rcases cs k with q | q | ⟨q, q'⟩
    · subst q; rw [x3]
    · subst q; simp only [x2]
    · rw [x1 k hk q' q]
  · rcases cs k with q | q | ⟨q, q'⟩
    · exact absurd q hkj
    · subst q; simp only [x2]
    · rw [x1 k hk q' q]
  · have hkl := (g7 k).mpr ⟨hk, hu, e⟩
    rcases cs k with q | q | ⟨q, q'⟩
    · subst q; exact absurd hkl hjl
    · subst q; exact absurd hkl hl
    · rw [x1 k hk q' q]; simp [hkl]
  · have hkl : k ∉ l := fun h => by have := (g7 k).mp h; grind
    rcases cs k with q | q | ⟨q, q'⟩
    · subst q; rw [x3]
    · subst q; simp only [x2]
    · rw [x1 k hk q' q]; simp [hkl]
  · rcases cs k with q | q | ⟨q, q'⟩
    · exact absurd q hkj
    · subst q; rw [x2a hs (e.imp (fun h => h) fun h => (by rw [← hZ]; exact h.2))]
    · rw [x1 k hk q' q]
      have : k = p := e.resolve_right fun h => q' h.1
      simp [hs, this]
      subst this; exact fun h => absurd hs h
  · rcases cs k with q | q | ⟨q, q'⟩
    · exact absurd q hkj
    · subst q; rw [x2b fun h => e ⟨h.1, h.2.imp (fun h => h) fun h => ⟨rfl, (by rw [hZ]; exact h)⟩⟩]
    · rw [x1 k hk q' q]
      simp only; rw [if_neg]; intro h; exact e ⟨h.1, .inl h.2⟩
  · rcases cs k with q | q | ⟨q, q'⟩
    · subst q; rw [x3] at hs; cases hs
    · subst q
      by_cases h : (a.ps 0).state = .sleeping ∧ (0 = p ∨ Z)
      · rw [x2a h.1 h.2] at hs; cases hs
      · rw [x2b h]
    · rw [x1 k hk q' q] at hs ⊢
      simp only at hs ⊢
      split at hs
      · cases hs
      · rename_i q; rw [if_neg q]
end PartP3
section PartP4
open PySem PySem.W PyProof.Rows PySem.Spec PySem.Calls

theorem Sim.kid {n : Nat} {r : Option Nat} {a : AT} {b : Bk} (S : Sim n r a b) {i j : Nat} (hi : i < n) (hj : j < n) (ui : (a.ps i).state ≠ .unused) (uj : (a.ps j).state ≠ .unused) :
    (a.ps i).parent = some j ↔ (b.e (a.ps i).pid).parent = (a.ps j).pid := by
  by_cases h0 : i = 0
  · subst h0
    rw [S.par0, S.p0, S.bpar0]
    have := S.le j hj uj
    constructor
    · intro h; cases h
    · intro h; omega
  · obtain ⟨k, h1, h2, h3, h4, h5, h6⟩ := S.par i hi ui h0
    rw [h1, ← h5]
    constructor
    · intro h; injection h with h; subst h; rfl
    · intro h; rw [S.inj k j h2 hj h3 uj h]

structure EndP (q s : Int) (Z : Prop) (b b' : Bk) : Prop where
  ks : b'.ks = b.ks
  last : b'.last = b.last
  clock : b'.clock = b.clock
  plan : ∀ k, (b'.e k).plan = (b.e k).plan
  turn : ∀ k, (b'.e k).turn = (b.e k).turn
  killed : ∀ k, (b'.e k).killed = (b.e k).killed
  status : ∀ k, k ≠ q → (b'.e k).status = (b.e k).status
  statusq : (b'.e q).status = some s
  par1 : ∀ k, k ≠ q → (b.e k).parent = q → (b'.e k).parent = 1
  par2 : ∀ k, k = q ∨ (b.e k).parent ≠ q → (b'.e k).parent = (b.e k).parent
  stq : (b'.e q).state = .over
  sinq : (b'.e q).since = (b.e q).since
  wk : ∀ k, k ≠ q → (b.e k).state = .asleep → (k = (b.e q).parent ∨ (k = 1 ∧ Z)) → (b'.e k).state = .ready ∧ (b'.e k).since = b.clock
  nwk : ∀ k, k ≠ q → ¬ ((b.e k).state = .asleep ∧ (k = (b.e q).parent ∨ (k = 1 ∧ Z))) → (b'.e k).state = (b.e k).state ∧ (b'.e k).since = (b.e k).since

theorem end_p (b : Bk) (q s : Int) (Z : Prop) (hZ : b.anyOver q = true ↔ Z) : EndP q s Z b (b.endF q s) := by
  have e : ∀ k, (b.endF q s).e k = if (k = (b.e q).parent ∨ (k = 1 ∧ b.anyOver q = true)) ∧ (b.endE q s k).state = .asleep then { b.endE q s k with state := .ready, since := b.clock } else b.endE q s k := fun k => rfl
  have eq : b.endE q s q = { b.e q with state := .over, status := some s } := by unfold Bk.endE; rw [if_pos rfl]
  have ne : ∀ k, k ≠ q → b.endE q s k = if (b.e k).parent = q then { b.e k with parent := 1 } else b.e k := fun k h => by unfold Bk.endE; rw [if_neg h]
  have hq : (b.endF q s).e q = { b.e q with state := .over, status := some s } := by rw [e, eq, if_neg (by simp)]
  have h1 : ∀ k, k ≠ q → (b.e k).state = .asleep → (k = (b.e q).parent ∨ (k = 1 ∧ Z)) → (b.endF q s).e k = { b.endE q s k with state := .ready, since := b.clock } := fun k h h' h'' => by
    rw [e, if_pos ⟨by rw [hZ]; exact h'', by rw [ne k h]; split <;> exact h'⟩]
  have h2 : ∀ k, k ≠ q → ¬ ((b.e k).state = .asleep ∧ (k = (b.e q).parent ∨ (k = 1 ∧ Z))) → (b.endF q s).e k = b.endE q s k := fun k h h' => by
    rw [e, if_neg]; rintro ⟨r1, r2⟩
    rw [hZ] at r1
    refine h' ⟨?_, r1⟩
    rw [ne k h] at r2; split at r2 <;> exact r2
  have hb : (b.endF q s).ks = b.ks ∧ (b.endF q s).last = b.last ∧ (b.endF q s).clock = b.clock := ⟨rfl, rfl, rfl⟩
  generalize b.endF q s = b' at *
  clear e
  have cs : ∀ k, k = q ∨ (k ≠ q ∧ (b.e k).state = .asleep ∧ (k = (b.e q).parent ∨ (k = 1 ∧ Z))) ∨ (k ≠ q ∧ ¬ ((b.e k).state = .asleep ∧ (k = (b.e q).parent ∨ (k = 1 ∧ Z)))) := fun k => by
    by_cases x : k = q
    · exact .inl x
    · by_cases y : (b.e k).state = .asleep ∧ (k = (b.e q).parent ∨ (k = 1 ∧ Z))
      · exact .inr (.inl ⟨x, y⟩)
      · exact .inr (.inr ⟨x, y⟩)
  have all : ∀ (P : BE → Prop) k, (k = q → P { b.e q with state := .over, status := some s }) → (k ≠ q → P { b.endE q s k with state := .ready, since := b.clock }) → (k ≠ q → P (b.endE q s k)) → P (b'.e k) := fun P k p1 p2 p3 => by
    rcases cs k with x | ⟨x, y⟩ | ⟨x, y⟩
    · subst x; rw [hq]; exact p1 rfl
    · rw [h1 k x y.1 y.2]; exact p2 x
    · rw [h2 k x y]; exact p3 x
  have ne1 : ∀ k, k ≠ q → (b.endE q s k).plan = (b.e k).plan ∧ (b.endE q s k).turn = (b.e k).turn ∧ (b.endE q s k).killed = (b.e k).killed ∧ (b.endE q s k).status = (b.e k).status ∧ (b.endE q s k).state = (b.e k).state ∧ (b.endE q s k).since = (b.e k).since := fun k h => by
    rw [ne k h]; split <;> exact ⟨rfl, rfl, rfl, rfl, rfl, rfl⟩
  refine ⟨hb.1, hb.2.1, hb.2.2, fun k => ?_, fun k => ?_, fun k => ?_, fun k h => ?_, by rw [hq], fun k h h' => ?_, fun k h => ?_, by rw [hq], by rw [hq], fun k h h' h'' => ?_, fun k h h' => ?_⟩
  · exact all (fun x => x.plan = (b.e k).plan) k (fun h => by subst h; rfl) (fun h => (ne1 k h).1) fun h => (ne1 k h).1
  · exact all (fun x => x.turn = (b.e k).turn) k (fun h => by subst h; rfl) (fun h => (ne1 k h).2.1) fun h => (ne1 k h).2.1
  · exact all (fun x => x.killed = (b.e k).killed) k (fun h => by subst h; rfl) (fun h => (ne1 k h).2.2.1) fun h => (ne1 k h).2.2.1
  · exact all (fun x => x.status = (b.e k).status) k (fun h' => absurd h' h) (fun h => (ne1 k h).2.2.2.1) fun h => (ne1 k h).2.2.2.1
  · refine all (fun x => x.parent = 1) k (fun h' => absurd h' h) (fun h => ?_) fun h => ?_ <;> rw [ne k h, if_pos h']
  · refine all (fun x => x.parent = (b.e k).parent) k (fun h => by subst h; rfl) (fun h3 => ?_) fun h3 => ?_ <;> rw [ne k h3, if_neg (h.resolve_left h3)]
  · rw [h1 k h h' h'']; exact ⟨rfl, rfl⟩
  · rw [h2 k h h']; exact ⟨(ne1 k h).2.2.2.2.1, (ne1 k h).2.2.2.2.2⟩

theorem anyOver_iff {n j : Nat} {r : Option Nat} {a : AT} {b : Bk} (S : Sim n r a b) (hj : j < n) (uj : (a.ps j).state ≠ .unused) :
    b.anyOver (a.ps j).pid = true ↔ ∃ i, i < n ∧ (a.ps i).state = .zombie ∧ (a.ps i).parent = some j := by
  unfold Bk.anyOver
  rw [List.any_eq_true]
  constructor
  · rintro ⟨k, hk, e⟩
    simp at e
    obtain ⟨i, hi, ui, rfl⟩ := S.k2 k hk
    refine ⟨i, hi, ?_, (S.kid hi hj ui uj).mpr e.1⟩
    rw [S.st i hi ui, bs_over] at e
    exact e.2
  · rintro ⟨i, hi, hz, hp⟩
    have ui : (a.ps i).state ≠ .unused := by rw [hz]; decide
    refine ⟨(a.ps i).pid, S.k1 i hi ui, ?_⟩
    simp [(S.kid hi hj ui uj).mp hp, S.st i hi ui, hz, PS.bs]

theorem sim_exit {n j p : Nat} {a : AT} {b : Bk} (S : Sim n (some j) a b) (hj0 : j ≠ 0) (s : Int) (hpp : (a.ps j).parent = some p) (hpn : p < n) (hpu : (a.ps p).state ≠ .unused) (hpj : p ≠ j) {a' : AT} {b' : Bk}
    (X : ExitP n j p s a a') (Y : EndP (a.ps j).pid s (∃ i, i < n ∧ (a.ps i).state = .zombie ∧ (a.ps i).parent = some j) b b') (hbp : (b.e (a.ps j).pid).parent = (a.ps p).pid) :
    Sim n none a' b' := by
  obtain ⟨hjn, hjr⟩ := S.rr j rfl
  have uj : (a.ps j).state ≠ .unused := by rw [hjr]; decide
  have hkid : ∀ i, i < n → (a.ps i).state ≠ .unused → ((a.ps i).parent = some j ↔ (b.e (a.ps i).pid).parent = (a.ps j).pid) := fun i hi ui => S.kid hi hjn ui uj
  obtain ⟨n3, n8, last, run, rr, nf, k1, k2, inj, nd, f0, u0, p0, z0, par0, bpar0, next, le, st, kd, status, par, chan, slp, slz, unp⟩ := S
  obtain ⟨xlast, xnext, xfirst, xrun, xpid, xkilled, xstatus, xstatusj, xpar1, xpar2, xstj, xwk, xnwk, xchan⟩ := X
  obtain ⟨yks, ylast, yclock, yplan, yturn, ykilled, ystatus, ystatusq, ypar1, ypar2, ystq, ysinq, ywk, ynwk⟩ := Y
  have h0n : 0 < n := by omega
  generalize hZ : (∃ i, i < n ∧ (a.ps i).state = .zombie ∧ (a.ps i).parent = some j) = Z at *
  have hZ' : ∀ i, i < n → (a.ps i).state = .zombie → (a.ps i).parent = some j → Z := fun i h1 h2 h3 => hZ ▸ ⟨i, h1, h2, h3⟩
  have jne : ∀ i, i < n → (a.ps i).state ≠ .unused → i ≠ j → (a.ps i).pid ≠ (a.ps j).pid := fun i hi ui h e => h (inj i j hi hjn ui uj e)
  have hS : ∀ k, k < n → k ≠ j → (a'.ps k).state = (a.ps k).state ∨ ((a.ps k).state = .sleeping ∧ (a'.ps k).state = .ready) := fun k hk h => by
    by_cases q : (a.ps k).state = .sleeping ∧ (k = p ∨ (k = 0 ∧ Z))
    · exact .inr ⟨q.1, xwk k hk h q.1 q.2⟩
    · exact .inl (xnwk k hk h q)
  have hU : ∀ k, k < n → (a'.ps k).state ≠ .unused → (a.ps k).state ≠ .unused := fun k hk h => by
    by_cases q : k = j
    · subst q; exact uj
    · rcases hS k hk q with q | ⟨q, q'⟩ <;> grind
  have hU' : ∀ k, k < n → (a.ps k).state ≠ .unused → (a'.ps k).state ≠ .unused := fun k hk h => by
    by_cases q : k = j
    · subst q; rw [xstj]; decide
    · rcases hS k hk q with q | ⟨q, q'⟩ <;> grind
  have hZz : ∀ k, k < n → k ≠ j → (a.ps k).state ≠ .zombie → (a'.ps k).state ≠ .zombie := fun k hk q h => by rcases hS k hk q with q | ⟨q, q'⟩ <;> grind
  have hsl : ∀ k, k < n → (a'.ps k).state = .sleeping → (a.ps k).state = .sleeping ∧ k ≠ j ∧ k ≠ p ∧ (k = 0 → ¬ Z) := fun k hk h => by
    have q : k ≠ j := fun q => by subst q; rw [xstj] at h; cases h
    have q1 : (a.ps k).state = .sleeping := by rcases hS k hk q with r | ⟨r, r'⟩ <;> grind
    refine ⟨q1, q, fun e => ?_, fun e z => ?_⟩
    · have := xwk k hk q q1 (.inl e); rw [h] at this; cases this
    · have := xwk k hk q q1 (.inr ⟨e, z⟩); rw [h] at this; cases this
  have g1 : (PS.ready).bs = .ready := rfl
  have g2 : (PS.zombie).bs = .over := rfl
  have g3 := @bs_asleep
  have pid1 : ∀ i, i < n → (a.ps i).state ≠ .unused → ((a.ps i).pid = 1 ↔ i = 0) := fun i hi ui => ⟨fun e => inj i 0 hi h0n ui u0 (e.trans p0.symm), fun e => by subst e; exact p0⟩
  refine ⟨n3, n8, by rw [xlast]; exact last, xrun, (fun i e => by cases e), fun k hk => ?_, fun k hk hu => ?_, fun k hk => ?_, fun i k hi hk ui uk e => ?_, by rw [yks]; exact nd, by rw [xfirst]; exact f0, hU' 0 h0n u0, by rw [xpid 0 h0n]; exact p0, hZz 0 h0n (Ne.symm hj0) z0, ?_, ?_, by rw [xnext, ylast]; exact next, fun k hk hu => ?_, fun k hk hu => ?_, fun k hk hu => ?_, fun k hk hz => ?_, fun k hk hu h0 => ?_, fun k hk hs => ?_, fun k hk hs => ?_, fun i hi hs k hk uk hpk => ?_, fun k hk hu => ?_⟩
  · by_cases q : k = j
    · subst q; rw [xstj]; exact ⟨by decide, fun h => by cases h⟩
    · have h1 := nf k hk
      rcases hS k hk q with r | ⟨r, r'⟩
      · rw [r]; exact ⟨h1.1, fun h => by have := h1.2 h; injection this with this; exact absurd this.symm q⟩
      · rw [r']; exact ⟨by decide, fun h => by cases h⟩
  · rw [xpid k hk, yks]; exact k1 k hk (hU k hk hu)
  · rw [yks] at hk
    obtain ⟨i, h1, h2, h3⟩ := k2 k hk
    exact ⟨i, h1, hU' i h1 h2, by rw [xpid i h1]; exact h3⟩
  · rw [xpid i hi, xpid k hk] at e
    exact inj i k hi hk (hU i hi ui) (hU k hk uk) e
  · rw [xpar2 0 h0n (.inr (by rw [par0]; simp)), par0]
  · have q1 : (1 : Int) ≠ (a.ps j).pid := fun e => hj0 ((pid1 j hjn uj).mp e.symm)
    rw [ypar2 1 (.inr (by rw [bpar0]; have := (le j hjn uj).1; omega)), bpar0]
  · rw [xpid k hk, ylast]; exact le k hk (hU k hk hu)
  · rw [xpid k hk]
    have hu := hU k hk hu
    by_cases q : k = j
    · subst q; rw [xstj, ystq]; rfl
    · have q' := jne k hk hu q
      by_cases w : (a.ps k).state = .sleeping ∧ (k = p ∨ (k = 0 ∧ Z))
      · rw [xwk k hk q w.1 w.2, (ywk _ q' (by rw [st k hk hu, w.1]; rfl) (w.2.imp (fun e => by subst e; exact hbp.symm) fun e => ⟨by rw [e.1]; exact p0, e.2⟩)).1]; rfl
      · rw [xnwk k hk q w, (ynwk _ q' fun e => w ⟨by rw [st k hk hu, bs_asleep] at e; exact e.1, e.2.imp (fun h => inj k p hk hpn hu hpu (h.trans hbp)) fun h => ⟨(pid1 k hk hu).mp h.1, h.2⟩⟩).1]
        exact st k hk hu
  · rw [xpid k hk, xkilled k hk, ykilled]; exact kd k hk (hU k hk hu)
  · rw [xpid k hk]
    by_cases q : k = j
    · subst q; rw [ystatusq, xstatusj]
    · have hzk : (a.ps k).state = .zombie := by rcases hS k hk q with r | ⟨r, r'⟩ <;> grind
      rw [ystatus _ (jne k hk (by rw [hzk]; decide) q), xstatus k hk q]
      exact status k hk hzk
  · have hu := hU k hk hu
    obtain ⟨m, h1, h2, h3, h4, h5, h6⟩ := par k hk hu h0
    by_cases q : (a.ps k).parent = some j
    · refine ⟨0, xpar1 k hk hu q, h0n, hU' 0 h0n u0, hZz 0 h0n (Ne.symm hj0) z0, ?_, ?_⟩
      · have hkj : k ≠ j := fun e => by subst e; rw [hpp] at q; injection q with q; exact hpj q
        rw [xpid 0 h0n, xpid k hk, p0, ypar1 _ (jne k hk hu hkj) ((hkid k hk hu).mp q)]
      · rw [xpid 0 h0n, xpid k hk, p0]
        have := (le k hk hu).1
        have : (a.ps k).pid ≠ 1 := fun e => h0 ((pid1 k hk hu).mp e)
        omega
    · have hmj : m ≠ j := fun e => q (e ▸ h1)
      refine ⟨m, by rw [xpar2 k hk (.inr q)]; exact h1, h2, hU' m h2 h3, hZz m h2 hmj h4, ?_, by rw [xpid m h2, xpid k hk]; exact h6⟩
      rw [xpid m h2, xpid k hk, h5, ypar2 _ (.inr fun e => q ((hkid k hk hu).mpr e))]
  · rw [xchan k hk hs, xpid k hk]; exact chan k hk (hsl k hk hs).1
  · obtain ⟨q1, q2, q3, q4⟩ := hsl k hk hs
    obtain ⟨m, h1, h2, h3⟩ := slp k hk q1
    exact ⟨m, h1, hU' m h1 h2, by rw [xpar2 m h1 (.inr (by rw [h3]; intro e; injection e with e; exact q2 e))]; exact h3⟩
  · obtain ⟨q1, q2, q3, q4⟩ := hsl i hi hs
    have uk := hU k hk uk
    by_cases q : (a.ps k).parent = some j
    · have hkj : k ≠ j := fun e => by subst e; rw [hpp] at q; injection q with q; exact hpj q
      rw [xpar1 k hk uk q] at hpk; injection hpk with hpk; subst hpk
      exact hZz k hk hkj fun h => q4 rfl (hZ' k hk h q)
    · rw [xpar2 k hk (.inr q)] at hpk
      have hkj : k ≠ j := fun e => by subst e; rw [hpp] at hpk; injection hpk with hpk; exact q3 hpk.symm
      exact hZz k hk hkj (slz i hi q1 k hk uk hpk)
  · have hu' : (a.ps k).state = .unused := Classical.byContradiction fun h => hU' k hk h hu
    rw [xpar2 k hk (.inl hu')]; exact unp k hk hu'
end PartP4
section PartP5
open PySem PySem.W PyProof.Rows PySem.Spec PySem.Calls

inductive GoodP : List Deed → Prop
  | fin (s : Int) : GoodP [.exit s]
  | turn {ds : List Deed} : GoodP ds → GoodP (.turn :: ds)
  | wait {ds : List Deed} : GoodP ds → GoodP (.wait :: ds)
  | kill {p : Int} {ds : List Deed} : 0 ≤ p → p < 9 → GoodP ds → GoodP (.kill p :: ds)
  | fork {p ds : List Deed} : GoodP p → GoodP ds → GoodP (.fork p :: ds)

mutual
def wD : Deed → Int
  | .turn => 2
  | .wait => 2
  | .exit _ => 2
  | .kill _ => 4
  | .fork p => 5 + wL p
def wL : List Deed → Int
  | [] => 0
  | x :: xs => wD x + wL xs
end
def wF : List Deed → Int
  | [] => 0
  | x :: xs => wD x - 1 + wF xs

theorem good_w {ds : List Deed} (h : GoodP ds) : 2 ≤ wL ds := by
  induction h with
  | fin s => simp [wL, wD]
  | turn _ ih => simp [wL, wD]; omega
  | wait _ ih => simp [wL, wD]; omega
  | kill _ _ _ ih => simp [wL, wD]; omega
  | fork _ _ ih1 ih2 => simp [wL, wD]; omega
theorem goodF_w {ds : List Deed} (h : GoodP ds) : 0 ≤ wF ds := by
  induction h with
  | fin s => simp [wF, wD]
  | turn _ ih => simp [wF, wD]; omega
  | wait _ ih => simp [wF, wD]; omega
  | kill _ _ _ ih => simp [wF, wD]; omega
  | fork h1 _ ih1 ih2 => have := good_w h1; simp [wF, wD]; omega

theorem wL_append (xs ys : List Deed) : wL (xs ++ ys) = wL xs + wL ys := by
  induction xs with
  | nil => simp [wL]
  | cons x xs ih => simp [wL, ih]; omega
theorem wF_append (xs ys : List Deed) : wF (xs ++ ys) = wF xs + wF ys := by
  induction xs with
  | nil => simp [wF]
  | cons x xs ih => simp [wF, ih]; omega
theorem wL_le {c : Int} (hc : 0 ≤ c) : ∀ {xs : List Deed} {m : Nat}, xs.length ≤ m → (∀ x ∈ xs, wD x ≤ c) → wL xs ≤ c * m
  | [], m, _, _ => by simp [wL]; exact Int.mul_nonneg hc (by omega)
  | x :: xs, m, h, k => by
    obtain ⟨m, rfl⟩ : ∃ m', m = m' + 1 := ⟨m - 1, by simp at h; omega⟩
    have h1 := wL_le hc (xs := xs) (m := m) (by simp at h; omega) fun y hy => k y (.tail _ hy)
    have h2 := k x (.head _)
    simp only [wL]
    rw [show c * ((m + 1 : Nat) : Int) = c * m + c by rw [Int.natCast_add, Int.mul_add]; simp]
    omega
theorem wF_le {c : Int} (hc : 0 ≤ c) : ∀ {xs : List Deed} {m : Nat}, xs.length ≤ m → (∀ x ∈ xs, wD x - 1 ≤ c) → wF xs ≤ c * m
  | [], m, _, _ => by simp [wF]; exact Int.mul_nonneg hc (by omega)
  | x :: xs, m, h, k => by
    obtain ⟨m, rfl⟩ : ∃ m', m = m' + 1 := ⟨m - 1, by simp at h; omega⟩
    have h1 := wF_le hc (xs := xs) (m := m) (by simp at h; omega) fun y hy => k y (.tail _ hy)
    have h2 := k x (.head _)
    simp only [wF]
    rw [show c * ((m + 1 : Nat) : Int) = c * m + c by rw [Int.natCast_add, Int.mul_add]; simp]
    omega
theorem small_w {x : Deed} (h : Small x) : wD x ≤ 4 := by
  rcases h with rfl | rfl | ⟨p, rfl, _⟩ <;> simp [wD]
theorem planOk0_w {ds : List Deed} (h : PlanOk 0 ds) : wL ds ≤ 10 ∧ wF ds ≤ 7 := by
  obtain ⟨body, s, rfl, h1, h2⟩ := h
  have q1 := wL_le (c := 4) (by decide) h1 fun x hx => small_w (h2 x hx)
  have q2 := wF_le (c := 3) (by decide) h1 fun x hx => (by have := small_w (h2 x hx); omega)
  rw [wL_append, wF_append]; simp [wL, wF, wD]; omega
theorem planOk1_w {ds : List Deed} (h : PlanOk 1 ds) : wL ds ≤ 47 := by
  obtain ⟨body, s, rfl, h1, h2⟩ := h
  have q1 := wL_le (c := 15) (m := 3) (by decide) h1 fun x hx => (by
    rcases h2 x hx with h | ⟨p, rfl, hp⟩
    · have := small_w h; omega
    · have := (planOk0_w hp).1; simp only [wD]; omega)
  rw [wL_append]; simp [wL, wD]; omega
theorem planOk2_w {ds : List Deed} (h : PlanOk 2 ds) : wF ds ≤ 205 := by
  obtain ⟨body, s, rfl, h1, h2⟩ := h
  have q1 := wF_le (c := 51) (m := 4) (by decide) h1 fun x hx => (by
    rcases h2 x hx with h | ⟨p, rfl, hp⟩
    · have := small_w h; omega
    · have := planOk1_w hp; simp only [wD]; omega)
  rw [wF_append]; simp [wF, wD]; omega
theorem goodP_of {body : List Deed} {s : Int} (h : ∀ x ∈ body, Small x ∨ ∃ p, x = .fork p ∧ GoodP p) : GoodP (body ++ [.exit s]) := by
  induction body with
  | nil => exact .fin s
  | cons x xs ih =>
    have ih := ih fun y hy => h y (.tail _ hy)
    rcases h x (.head _) with (rfl | rfl | ⟨p, rfl, h1, h2⟩) | ⟨p, rfl, hp⟩
    · exact .turn ih
    · exact .wait ih
    · exact .kill h1 h2 ih
    · exact .fork hp ih
theorem planOk_good : ∀ {d : Nat} {ds : List Deed}, PlanOk d ds → GoodP ds
  | 0, ds, ⟨body, s, e, _, h⟩ => e ▸ goodP_of fun x hx => .inl (h x hx)
  | d + 1, ds, ⟨body, s, e, _, h⟩ => e ▸ goodP_of fun x hx => (h x hx).imp (fun h => h) fun ⟨p, e, hp⟩ => ⟨p, e, planOk_good hp⟩

def sumN : Nat → (Nat → Int) → Int
  | 0, _ => 0
  | n + 1, f => sumN n f + f n
theorem sum_two' {f f' : Nat → Int} {i p : Nat} {x y : Int} : ∀ {n : Nat}, (∀ k, k < n → f' k ≤ f k + (if k = i then x else 0) + (if k = p then y else 0)) → sumN n f' ≤ sumN n f + (if i < n then x else 0) + (if p < n then y else 0)
  | 0, _ => by simp [sumN]
  | n + 1, h => by
    have ih := sum_two' (n := n) fun k hk => h k (by omega)
    have h1 := h n (by omega)
    simp only [sumN]
    split at ih <;> split at ih <;> split at h1 <;> split at h1 <;> split <;> split <;> omega
theorem sum_two {f f' : Nat → Int} {i p : Nat} {x y : Int} {n : Nat} (hi : i < n) (hp : p < n) (h : ∀ k, k < n → f' k ≤ f k + (if k = i then x else 0) + (if k = p then y else 0)) : sumN n f' ≤ sumN n f + x + y := by
  have := sum_two' h
  rw [if_pos hi, if_pos hp] at this
  exact this
theorem sum_one {f f' : Nat → Int} {i : Nat} {x : Int} {n : Nat} (hi : i < n) (h1 : f' i ≤ f i + x) (h : ∀ k, k < n → k ≠ i → f' k ≤ f k) : sumN n f' ≤ sumN n f + x := by
  have := sum_two (x := x) (y := 0) hi hi fun k hk => by
    show f' k ≤ _
    by_cases q : k = i
    · subst q; simp; exact h1
    · simp [q]; exact h k hk q
  omega
theorem sum_le {f f' : Nat → Int} {n : Nat} (h : ∀ k, k < n → f' k ≤ f k) : sumN n f' ≤ sumN n f := by
  induction n with
  | zero => simp [sumN]
  | succ n ih =>
    have := ih fun k hk => h k (by omega)
    have := h n (by omega)
    simp only [sumN]; omega
theorem sum_nonneg {f : Nat → Int} {n : Nat} (h : ∀ k, k < n → 0 ≤ f k) : 0 ≤ sumN n f := by
  induction n with
  | zero => simp [sumN]
  | succ n ih =>
    have := ih fun k hk => h k (by omega)
    have := h n (by omega)
    simp only [sumN]; omega

def phi (a : AT) (b : Bk) (k : Nat) : Int :=
  if (a.ps k).state = .unused then 0 else if (a.ps k).state = .zombie then 1 else
    if k = 0 then wF (b.e (a.ps k).pid).plan else (if (a.ps k).state = .sleeping then 0 else 2) + wL (b.e (a.ps k).pid).plan + 1

def dist (n l x : Nat) : Nat := if l < x then x - l - 1 else x + n - l - 1

structure Tm (n : Nat) (a : AT) (b : Bk) : Prop where
  clk : 0 ≤ b.clock
  tb : ∀ i, i < n → (a.ps i).state ≠ .unused → 0 ≤ (b.e (a.ps i).pid).turn ∧ (b.e (a.ps i).pid).turn ≤ b.clock ∧ (b.e (a.ps i).pid).since ≤ b.clock
  fair : ∀ i q, i < n → q < n → (a.ps i).state ≠ .unused → (a.ps q).state ≠ .unused → i ≠ q → (b.e (a.ps q).pid).state = .ready → (b.e (a.ps q).pid).since < (b.e (a.ps i).pid).turn → (b.e (a.ps q).pid).turn < (b.e (a.ps i).pid).turn → dist n a.last q < dist n a.last i

theorem Tm.mono {n : Nat} {a a' : AT} {b b' : Bk} (T : Tm n a b) (hl : a'.last = a.last) (hc : b'.clock = b.clock)
    (h : ∀ k, k < n → (a'.ps k).state ≠ .unused → ((b'.e (a'.ps k).pid).turn = 0 ∧ (b'.e (a'.ps k).pid).since = b.clock) ∨
      ((a.ps k).state ≠ .unused ∧ (b'.e (a'.ps k).pid).turn = (b.e (a.ps k).pid).turn ∧ (((b'.e (a'.ps k).pid).since = (b.e (a.ps k).pid).since ∧ ((b'.e (a'.ps k).pid).state = .ready → (b.e (a.ps k).pid).state = .ready)) ∨ (b'.e (a'.ps k).pid).since = b.clock))) : Tm n a' b' := by
  obtain ⟨clk, tb, fair⟩ := T
  have tb' : ∀ i, i < n → (a'.ps i).state ≠ .unused → 0 ≤ (b'.e (a'.ps i).pid).turn ∧ (b'.e (a'.ps i).pid).turn ≤ b.clock ∧ (b'.e (a'.ps i).pid).since ≤ b.clock := fun k hk hu => by
    rcases h k hk hu with ⟨h1, h2⟩ | ⟨h1, h2, h3⟩
    · rw [h1, h2]; omega
    · have := tb k hk h1
      rw [h2]
      rcases h3 with ⟨h3, _⟩ | h3 <;> rw [h3] <;> omega
  refine ⟨by rw [hc]; exact clk, by rw [hc]; exact tb', fun i q hi hq ui uq hne hr h1 h2 => ?_⟩
  rw [hl]
  have bi := tb' i hi ui
  have bq := tb' q hq uq
  rcases h q hq uq with ⟨r1, r2⟩ | ⟨r1, r2, ⟨r3, r4⟩ | r3⟩
  · omega
  · rcases h i hi ui with ⟨s1, s2⟩ | ⟨s1, s2, s3⟩
    · omega
    · exact fair i q hi hq s1 r1 hne (r4 hr) (by rw [r3, s2] at h1; exact h1) (by rw [r2, s2] at h2; exact h2)
  · omega

structure Inv (n : Nat) (r : Option Nat) (m : Int) (a : AT) (b : Bk) : Prop where
  sim : Sim n r a b
  tm : Tm n a b
  pl : ∀ i, i < n → (a.ps i).state ≠ .unused → i ≠ 0 → (a.ps i).state ≠ .zombie → GoodP (b.e (a.ps i).pid).plan
  pl0 : (b.e 1).plan = [] ∨ GoodP (b.e 1).plan
  sum : sumN n (phi a b) ≤ m
end PartP5
section PartP6
open PySem PySem.W PyProof.Rows PySem.Spec PySem.Calls

theorem phi_same {a a' : AT} {b b' : Bk} {k : Nat} (h1 : (a'.ps k).state = (a.ps k).state) (h2 : (b'.e (a'.ps k).pid).plan = (b.e (a.ps k).pid).plan) : phi a' b' k = phi a b k := by
  unfold phi; rw [h1, h2]
theorem phi_ready {a a' : AT} {b b' : Bk} {k : Nat} (h0 : (a.ps k).state = .sleeping) (h1 : (a'.ps k).state = .ready) (h2 : (b'.e (a'.ps k).pid).plan = (b.e (a.ps k).pid).plan) : phi a' b' k ≤ phi a b k + 2 ∧ (k = 0 → phi a' b' k = phi a b k) := by
  unfold phi; rw [h1, h2, h0]
  by_cases q : k = 0
  · simp [q]; omega
  · simp [q]; omega

set_option synthInstance.maxSize 10000 in
set_option synthInstance.maxHeartbeats 400000 in
theorem dist_all : ∀ n, n < 9 → ∀ l, l < n → ∀ x, x < n → dist n l x < n ∧ dist n x x = n - 1 ∧ (l + 1 + dist n l x) % n = x ∧ dist n l ((l + 1 + x) % n) = x ∧ (l + 1 + x) % n < n ∧
    ∀ i, i < n → (dist n l i < dist n l x → dist n i x = dist n l x - dist n l i - 1) ∧ (dist n l x = dist n l i → x = i) := by decide +kernel
theorem dist_lt {n l x : Nat} (h8 : n ≤ 8) (hx : x < n) (hl : l < n) : dist n l x < n := (dist_all n (Nat.lt_succ_of_le h8) l hl x hx).1
theorem dist_step {n l i x : Nat} (h8 : n ≤ 8) (hx : x < n) (hl : l < n) (hi : i < n) (h : dist n l i < dist n l x) : dist n i x = dist n l x - dist n l i - 1 := ((dist_all n (Nat.lt_succ_of_le h8) l hl x hx).2.2.2.2.2 i hi).1 h
theorem dist_self {n i : Nat} (h8 : n ≤ 8) (hi : i < n) : dist n i i = n - 1 := (dist_all n (Nat.lt_succ_of_le h8) i hi i hi).2.1
theorem dist_inj {n l x y : Nat} (h8 : n ≤ 8) (hx : x < n) (hy : y < n) (hl : l < n) (h : dist n l x = dist n l y) : x = y := ((dist_all n (Nat.lt_succ_of_le h8) l hl x hx).2.2.2.2.2 y hy).2 h
theorem dist_mod {n l s : Nat} (h8 : n ≤ 8) (hl : l < n) (hs : s < n) : dist n l ((l + 1 + s) % n) = s ∧ (l + 1 + s) % n < n :=
  have h := (dist_all n (Nat.lt_succ_of_le h8) l hl s hs).2.2.2
  ⟨h.1, h.2.1⟩
theorem mod_dist {n l q : Nat} (h8 : n ≤ 8) (hl : l < n) (hq : q < n) : (l + 1 + dist n l q) % n = q ∧ dist n l q < n :=
  have h := dist_all n (Nat.lt_succ_of_le h8) l hl q hq
  ⟨h.2.2.1, h.1⟩

theorem inv_next {n : Nat} {m : Int} {a : AT} {b : Bk} (I : Inv n none m a b) {i : Nat} (hi : i < n) (hr : (a.ps i).state = .ready) (hf : ∀ q, q < n → (a.ps q).state = .ready → dist n a.last i ≤ dist n a.last q) :
    Inv n (some i) m (a.nextF i) { b.upd (a.ps i).pid { b.e (a.ps i).pid with turn := b.clock + 1 } with clock := b.clock + 1 } := by
  obtain ⟨S, ⟨clk, tb, fair⟩, pl, pl0, sum⟩ := I
  have hl := S.last
  have S' := sim_next S hi hr (b.clock + 1) (b.clock + 1)
  have ui : (a.ps i).state ≠ .unused := by rw [hr]; decide
  have sready : ∀ q, q < n → (a.ps q).state ≠ .unused → (b.e (a.ps q).pid).state = .ready → (a.ps q).state = .ready := fun q hq uq h => by
    rw [S.st q hq uq, bs_ready] at h
    have h1 := S.nf q hq
    have : (a.ps q).state ≠ .running := fun e => by have := h1.2 e; cases this
    cases e : (a.ps q).state <;> simp_all
  have hinj := S.inj
  have e1 : (a.nextF i).last = i := rfl
  have e5 : ∀ k, ((a.nextF i).ps k).pid = (a.ps k).pid := fun k => by rw [nextF_ps]; split <;> simp_all
  have e10 : ∀ k, k ≠ i → ((a.nextF i).ps k).state = (a.ps k).state := fun k h => by rw [nextF_ps, if_neg h]
  have e11 : ((a.nextF i).ps i).state = .running := by rw [nextF_ps, if_pos rfl]
  generalize hb : ({ b.upd (a.ps i).pid { b.e (a.ps i).pid with turn := b.clock + 1 } with clock := b.clock + 1 } : Bk) = b' at *
  have f0 : b'.clock = b.clock + 1 := hb ▸ rfl
  have f1 : ∀ k, (b'.e k).plan = (b.e k).plan ∧ (b'.e k).state = (b.e k).state ∧ (b'.e k).since = (b.e k).since := fun k => by
    subst hb
    by_cases q : k = (a.ps i).pid
    · subst q; simp [Bk.upd]
    · simp [Bk.upd, q]
  have f2 : (b'.e (a.ps i).pid).turn = b.clock + 1 := by subst hb; simp [Bk.upd]
  have f3 : ∀ k, k ≠ (a.ps i).pid → (b'.e k).turn = (b.e k).turn := fun k h => by subst hb; simp [Bk.upd, h]
  clear hb
  generalize a.nextF i = a' at *
  have hu : ∀ k, (a'.ps k).state ≠ .unused → (a.ps k).state ≠ .unused := fun k h => by
    by_cases q : k = i
    · subst q; exact ui
    · rw [← e10 k q]; exact h
  refine ⟨S', ⟨by omega, fun k hk uk => ?_, fun x q hx hq ux uq hne hrq h1 h2 => ?_⟩, fun k hk uk h0 hz => ?_, by rw [(f1 1).1]; exact pl0, ?_⟩
  · rw [e5, f0, (f1 _).2.2]
    have := tb k hk (hu k uk)
    by_cases q : (a.ps k).pid = (a.ps i).pid
    · rw [q, f2, ← q]; omega
    · rw [f3 _ q]; omega
  · have ux := hu x ux
    have uq := hu q uq
    rw [e1]
    rw [e5, (f1 _).2.1] at hrq
    rw [e5, e5, (f1 _).2.2] at h1
    rw [e5, e5] at h2
    have bx := tb x hx ux
    have bq := tb q hq uq
    by_cases qi : q = i
    · subst qi
      rw [f2] at h2
      rw [f3 _ fun e => hne (hinj x q hx hq ux uq e)] at h2
      omega
    · have d1 := hf q hq (sready q hq uq hrq)
      have d2 : dist n a.last i ≠ dist n a.last q := fun e => qi (dist_inj S.n8 hi hq hl e).symm
      have d3 := dist_step S.n8 hq hl hi (by omega : dist n a.last i < dist n a.last q)
      have d4 := dist_lt S.n8 hq hl
      by_cases xi : x = i
      · subst xi
        rw [dist_self S.n8 hx, d3]; omega
      · rw [f3 _ fun e => xi (hinj x i hx hi ux ui e)] at h1 h2
        rw [f3 _ fun e => qi (hinj q i hq hi uq ui e)] at h2
        have d5 := fair x q hx hq ux uq hne hrq h1 h2
        rw [d3, dist_step S.n8 hx hl hi (by omega)]; omega
  · have uk' := hu k uk
    rw [e5, (f1 _).1]
    refine pl k hk uk' h0 ?_
    by_cases q : k = i
    · subst q; rw [hr]; decide
    · rw [← e10 k q]; exact hz
  · refine Int.le_trans (sum_le fun k hk => Int.le_of_eq ?_) sum
    by_cases q : k = i
    · subst q; unfold phi; rw [e11, hr, e5, (f1 _).1]; simp
    · exact phi_same (e10 k q) (by rw [e5, (f1 _).1])

/-- the one whose turn it is has waited long enough -/
theorem inv_fair {n : Nat} {m : Int} {a : AT} {b : Bk} (I : Inv n none m a b) {i : Nat} (hi : i < n) (hr : (a.ps i).state = .ready) (hf : ∀ q, q < n → (a.ps q).state = .ready → dist n a.last i ≤ dist n a.last q) : b.fair (a.ps i).pid := by
  obtain ⟨S, ⟨clk, tb, fair⟩, pl, pl0, sum⟩ := I
  intro k hk hne hrk
  obtain ⟨q, hq, uq, rfl⟩ := S.k2 k hk
  have hqi : i ≠ q := fun e => hne (by rw [e])
  have rq : (a.ps q).state = .ready := by
    rw [S.st q hq uq, bs_ready] at hrk
    have h1 := S.nf q hq
    have : (a.ps q).state ≠ .running := fun e => by have := h1.2 e; cases this
    cases e : (a.ps q).state <;> simp_all
  have h1 := hf q hq rq
  have h2 := fair i q hi hq (by rw [hr]; decide) uq hqi hrk
  omega

theorem inv_kill {n j : Nat} {m : Int} {a : AT} {b : Bk} (I : Inv n (some j) m a b) {i : Nat} (hi : i < n) (hu : (a.ps i).state ≠ .unused) :
    Inv n (some j) (m + 2) (a.killF i) (b.killF (a.ps i).pid) := by
  have S' := sim_kill I.sim hi hu
  have hst := I.sim.st i hi hu
  obtain ⟨S, T, pl, pl0, sum⟩ := I
  have hinj := S.inj
  have e1 : (a.killF i).last = a.last := by unfold AT.killF; split <;> rfl
  have e5 : ∀ k, ((a.killF i).ps k).pid = (a.ps k).pid := fun k => by rw [killF_ps]; split <;> (try split) <;> simp_all
  have e7 : ∀ k, k ≠ i → (a.killF i).ps k = a.ps k := fun k h => by rw [killF_ps, if_neg h]
  have e10 : (a.ps i).state = .sleeping → ((a.killF i).ps i).state = .ready := fun h => by rw [killF_ps, if_pos rfl, if_pos h]
  have e11 : (a.ps i).state ≠ .sleeping → ((a.killF i).ps i).state = (a.ps i).state := fun h => by rw [killF_ps, if_pos rfl, if_neg h]
  generalize hb : b.killF (a.ps i).pid = b' at *
  have f2 : b'.clock = b.clock := by subst hb; unfold Bk.killF; split <;> rfl
  have f3 : ∀ k, (b'.e k).plan = (b.e k).plan ∧ (b'.e k).turn = (b.e k).turn := fun k => by
    subst hb; rw [bkillF_e]; split <;> (try split) <;> simp_all
  have f4 : ∀ k, k ≠ (a.ps i).pid → b'.e k = b.e k := fun k h => by subst hb; rw [bkillF_e, if_neg h]
  have f6 : (b.e (a.ps i).pid).state = .asleep → (b'.e (a.ps i).pid).since = b.clock := fun h => by subst hb; rw [bkillF_e, if_pos rfl, if_pos h]
  have f7 : (b.e (a.ps i).pid).state ≠ .asleep → (b'.e (a.ps i).pid).state = (b.e (a.ps i).pid).state ∧ (b'.e (a.ps i).pid).since = (b.e (a.ps i).pid).since := fun h => by subst hb; rw [bkillF_e, if_pos rfl, if_neg h]; exact ⟨rfl, rfl⟩
  clear hb
  generalize a.killF i = a' at *
  have hS : ∀ k, (a'.ps k).state = (a.ps k).state ∨ (k = i ∧ (a.ps k).state = .sleeping ∧ (a'.ps k).state = .ready) := fun k => by
    by_cases q : k = i
    · subst q; by_cases q' : (a.ps k).state = .sleeping
      · exact .inr ⟨rfl, q', e10 q'⟩
      · exact .inl (e11 q')
    · rw [e7 k q]; exact .inl rfl
  have hU : ∀ k, (a'.ps k).state ≠ .unused → (a.ps k).state ≠ .unused := fun k h => by rcases hS k with q | ⟨_, q, q'⟩ <;> grind
  have hZ : ∀ k, (a'.ps k).state ≠ .zombie → (a.ps k).state ≠ .zombie := fun k h => by rcases hS k with q | ⟨_, q, q'⟩ <;> grind
  refine ⟨S', T.mono e1 f2 fun k hk uk => .inr ⟨hU k uk, by rw [e5, (f3 _).2], ?_⟩, fun k hk uk h0 hz => by rw [e5, (f3 _).1]; exact pl k hk (hU k uk) h0 (hZ k hz), by rw [(f3 1).1]; exact pl0, ?_⟩
  · rw [e5]
    by_cases q : (a.ps k).pid = (a.ps i).pid
    · rw [q]
      by_cases q' : (b.e (a.ps i).pid).state = .asleep
      · exact .inr (f6 q')
      · have := f7 q'; exact .inl ⟨this.2, fun h => by rw [← this.1]; exact h⟩
    · rw [f4 _ q]; exact .inl ⟨rfl, fun h => h⟩
  · refine Int.le_trans (sum_one (f := phi a b) (x := 2) hi ?_ fun k hk h => ?_) (by omega)
    · rcases hS i with q | ⟨_, q, q'⟩
      · rw [phi_same (a' := a') (b := b) (b' := b') q (by rw [e5, (f3 _).1])]; omega
      · exact (phi_ready (a' := a') (b := b) (b' := b') q q' (by rw [e5, (f3 _).1])).1
    · exact Int.le_of_eq (phi_same (by rw [e7 k h]) (by rw [e5, (f3 _).1]))

theorem inv_fork {n j : Nat} {m : Int} {a : AT} {b : Bk} (I : Inv n (some j) m a b) {i : Nat} (hi : i < n) (hun : (a.ps i).state = .unused) {ds : List Deed} (hd : GoodP ds) :
    Inv n (some j) (m + 3 + wL ds) (a.forkF j i) (b.forkF (a.ps j).pid a.next ds) := by
  have S' := sim_fork I.sim hi hun ds
  obtain ⟨S, T, pl, pl0, sum⟩ := I
  have hle := S.le
  have hnext := S.next
  have hi0 : i ≠ 0 := fun e => S.u0 (e ▸ hun)
  have h1 : (1 : Int) ≠ a.next := by have := S.le 0 (by have := S.n3; omega) S.u0; omega
  have e1 : (a.forkF j i).last = a.last := rfl
  have e10 : ∀ k, k ≠ i → (a.forkF j i).ps k = a.ps k := fun k h => by rw [forkF_ps, if_neg h]
  have e11 : (a.forkF j i).ps i = { pid := a.next, state := .ready, parent := some j } := by rw [forkF_ps, if_pos rfl]
  have f2 : (b.forkF (a.ps j).pid a.next ds).clock = b.clock := rfl
  have f3 : ∀ k, k ≠ a.next → (b.forkF (a.ps j).pid a.next ds).e k = b.e k := fun k h => by show (if k = a.next then _ else _) = _; rw [if_neg h]
  have f4 : (b.forkF (a.ps j).pid a.next ds).e a.next = ⟨(a.ps j).pid, ds, .ready, b.clock, 0, none, false⟩ := by show (if a.next = a.next then _ else _) = _; rw [if_pos rfl]
  generalize a.forkF j i = a' at *
  generalize b.forkF (a.ps j).pid a.next ds = b' at *
  have hne : ∀ k, k < n → (a.ps k).state ≠ .unused → (a.ps k).pid ≠ a.next := fun k hk uk => by have := hle k hk uk; omega
  refine ⟨S', T.mono e1 f2 fun k hk uk => ?_, fun k hk uk h0 hz => ?_, by rw [f3 1 h1]; exact pl0, ?_⟩
  · by_cases q : k = i
    · subst q; rw [e11]; simp only; rw [f4]; exact .inl ⟨rfl, rfl⟩
    · rw [e10 k q] at uk ⊢
      rw [f3 _ (hne k hk uk)]
      exact .inr ⟨uk, rfl, .inl ⟨rfl, fun h => h⟩⟩
  · by_cases q : k = i
    · subst q; rw [e11]; simp only; rw [f4]; exact hd
    · rw [e10 k q] at uk hz ⊢
      rw [f3 _ (hne k hk uk)]
      exact pl k hk uk h0 hz
  · refine Int.le_trans (sum_one (f := phi a b) (x := 3 + wL ds) hi ?_ fun k hk h => ?_) (by omega)
    · unfold phi; rw [e11, hun]; simp only; rw [f4]; simp [hi0]; omega
    · by_cases q : (a.ps k).state = .unused
      · unfold phi; rw [e10 k h, q]; simp
      · exact Int.le_of_eq (phi_same (by rw [e10 k h]) (by rw [e10 k h, f3 _ (hne k hk q)]))

theorem inv_told {n j : Nat} {m : Int} {a : AT} {b : Bk} (I : Inv n (some j) m a b) {i : Nat} (hi : i < n) (hz : (a.ps i).state = .zombie) :
    Inv n (some j) (m - 1) (a.set i {}) (b.delF (a.ps i).pid) := by
  have S' := sim_told I.sim hi hz
  obtain ⟨S, T, pl, pl0, sum⟩ := I
  have e1 : (a.set i {}).last = a.last := rfl
  have e10 : ∀ k, k ≠ i → (a.set i {}).ps k = a.ps k := fun k h => AT.set_ne _ _ h
  have e11 : ((a.set i {}).ps i).state = .unused := by rw [AT.set_self]
  have f2 : (b.delF (a.ps i).pid).clock = b.clock := rfl
  have f3 : ∀ k, (b.delF (a.ps i).pid).e k = b.e k := fun k => rfl
  generalize a.set i {} = a' at *
  generalize b.delF (a.ps i).pid = b' at *
  have hU : ∀ k, (a'.ps k).state ≠ .unused → k ≠ i := fun k h e => by subst e; exact h e11
  refine ⟨S', T.mono e1 f2 fun k hk uk => ?_, fun k hk uk h0 hz => ?_, by rw [f3 1]; exact pl0, ?_⟩
  · have := hU k uk
    rw [e10 k this] at uk ⊢
    rw [f3]; exact .inr ⟨uk, rfl, .inl ⟨rfl, fun h => h⟩⟩
  · have := hU k uk
    rw [e10 k this] at uk hz ⊢
    rw [f3]; exact pl k hk uk h0 hz
  · refine Int.le_trans (sum_one (f := phi a b) (x := -1) hi ?_ fun k hk h => ?_) (by omega)
    · unfold phi; rw [e11, hz]; simp
    · exact Int.le_of_eq (phi_same (by rw [e10 k h]) (by rw [e10 k h, f3]))

theorem inv_sleep {n j : Nat} {m : Int} {a : AT} {b : Bk} (I : Inv n (some j) m a b) (hkk : ∃ k, k < n ∧ (a.ps k).state ≠ .unused ∧ (a.ps k).parent = some j)
    (hz : ∀ k, k < n → (a.ps k).state ≠ .unused → (a.ps k).parent = some j → (a.ps k).state ≠ .zombie) :
    Inv n none (m - if j = 0 then 0 else 2) (a.sleepF j (a.ps j).pid) (b.upd (a.ps j).pid { b.e (a.ps j).pid with state := .asleep }) := by
  have S' := sim_sleep I.sim hkk hz
  obtain ⟨S, T, pl, pl0, sum⟩ := I
  obtain ⟨hj, hjr⟩ := S.rr j rfl
  have hinj := S.inj
  have e1 : (a.sleepF j (a.ps j).pid).last = a.last := rfl
  have e0 : ∀ k, (a.sleepF j (a.ps j).pid).ps k = if k = j then { a.ps j with state := .sleeping, chan := some (a.ps j).pid } else a.ps k := fun k => rfl
  have e5 : ∀ k, ((a.sleepF j (a.ps j).pid).ps k).pid = (a.ps k).pid := fun k => by rw [e0]; split <;> simp_all
  have e10 : ∀ k, k ≠ j → (a.sleepF j (a.ps j).pid).ps k = a.ps k := fun k h => by rw [e0, if_neg h]
  have e11 : ((a.sleepF j (a.ps j).pid).ps j).state = .sleeping := by rw [e0, if_pos rfl]
  clear e0
  generalize hb : b.upd (a.ps j).pid { b.e (a.ps j).pid with state := .asleep } = b' at *
  have f2 : b'.clock = b.clock := hb ▸ rfl
  have f3 : ∀ k, (b'.e k).plan = (b.e k).plan ∧ (b'.e k).turn = (b.e k).turn ∧ (b'.e k).since = (b.e k).since := fun k => by
    subst hb; rw [Bk.upd_e]; split <;> simp_all
  have f4 : ∀ k, k ≠ (a.ps j).pid → (b'.e k).state = (b.e k).state := fun k h => by subst hb; rw [Bk.upd_e, if_neg h]
  have f5 : (b'.e (a.ps j).pid).state = .asleep := by subst hb; rw [Bk.upd_e, if_pos rfl]
  clear hb
  generalize a.sleepF j (a.ps j).pid = a' at *
  have hU : ∀ k, (a'.ps k).state ≠ .unused → (a.ps k).state ≠ .unused := fun k h => by
    by_cases q : k = j
    · subst q; rw [hjr]; decide
    · rw [← e10 k q]; exact h
  refine ⟨S', T.mono e1 f2 fun k hk uk => .inr ⟨hU k uk, by rw [e5, (f3 _).2.1], .inl ⟨by rw [e5, (f3 _).2.2], ?_⟩⟩, fun k hk uk h0 hz => ?_, by rw [(f3 1).1]; exact pl0, ?_⟩
  · rw [e5]
    by_cases q : (a.ps k).pid = (a.ps j).pid
    · rw [q, f5]; intro h; cases h
    · rw [f4 _ q]; exact fun h => h
  · rw [e5, (f3 _).1]
    refine pl k hk (hU k uk) h0 ?_
    by_cases q : k = j
    · subst q; rw [hjr]; decide
    · rw [← e10 k q]; exact hz
  · refine Int.le_trans (sum_one (f := phi a b) (x := - if j = 0 then 0 else 2) hj ?_ fun k hk h => ?_) (by omega)
    · unfold phi; rw [e11, hjr, e5, (f3 _).1]
      by_cases q : j = 0 <;> simp [q]; omega
    · exact Int.le_of_eq (phi_same (by rw [e10 k h]) (by rw [e5, (f3 _).1]))

theorem inv_done {n j : Nat} {m : Int} {a : AT} {b b' : Bk} {p : Int} {ds : List Deed} (I : Inv n (some j) m a b) (hp : (a.ps j).pid = p) (hb : b' = b.upd p { b.e p with plan := ds, since := b.clock })
    (h0 : j = 0 → ds = [] ∨ GoodP ds) (h1 : j ≠ 0 → GoodP ds) :
    Inv n none (m - (if j = 0 then wF (b.e p).plan - wF ds else wL (b.e p).plan - wL ds)) (a.readyF j) b' := by
  obtain ⟨S, T, pl, pl0, sum⟩ := I
  obtain ⟨hj, hjr⟩ := S.rr j rfl
  have uj : (a.ps j).state ≠ .unused := by rw [hjr]; decide
  have hinj := S.inj
  have f0 : ∀ k, b'.e k = if k = p then { b.e p with plan := ds, since := b.clock } else b.e k := fun k => by rw [hb, Bk.upd_e]
  have f1 : b'.ks = b.ks := hb ▸ rfl
  have f1' : b'.last = b.last := hb ▸ rfl
  have f2 : b'.clock = b.clock := hb ▸ rfl
  have f3 : ∀ k, (b'.e k).parent = (b.e k).parent ∧ (b'.e k).state = (b.e k).state ∧ (b'.e k).killed = (b.e k).killed ∧ (b'.e k).status = (b.e k).status := fun k => by
    rw [f0]; split <;> simp_all
  have f3' : ∀ k, (b'.e k).turn = (b.e k).turn := fun k => by rw [f0]; split <;> simp_all
  have f4 : ∀ k, k ≠ p → b'.e k = b.e k := fun k h => by rw [f0, if_neg h]
  have f5 : (b'.e p).plan = ds ∧ (b'.e p).since = b.clock := by rw [f0, if_pos rfl]; exact ⟨rfl, rfl⟩
  have S' := sim_done S f1 f1' f3
  have e1 : (a.readyF j).last = a.last := rfl
  have e5 : ∀ k, ((a.readyF j).ps k).pid = (a.ps k).pid := fun k => by rw [readyF_ps]; split <;> simp_all
  have e10 : ∀ k, k ≠ j → (a.readyF j).ps k = a.ps k := fun k h => by rw [readyF_ps, if_neg h]
  have e11 : ((a.readyF j).ps j).state = .ready := by rw [readyF_ps, if_pos rfl]
  clear f0 hb
  generalize a.readyF j = a' at *
  have hU : ∀ k, (a'.ps k).state ≠ .unused → (a.ps k).state ≠ .unused := fun k h => by
    by_cases q : k = j
    · subst q; exact uj
    · rw [← e10 k q]; exact h
  have hne : ∀ k, k < n → (a.ps k).state ≠ .unused → k ≠ j → (a.ps k).pid ≠ p := fun k hk uk h e => h (hinj k j hk hj uk uj (e.trans hp.symm))
  have hp1 : p = 1 ↔ j = 0 := ⟨fun e => hinj j 0 hj (by have := S.n3; omega) uj S.u0 (by rw [hp, e, S.p0]), fun e => by subst e; rw [← hp, S.p0]⟩
  refine ⟨S', T.mono e1 f2 fun k hk uk => .inr ⟨hU k uk, by rw [e5, f3'], ?_⟩, fun k hk uk hk0 hz => ?_, ?_, ?_⟩
  · rw [e5]
    by_cases q : (a.ps k).pid = p
    · rw [q]; exact .inr f5.2
    · rw [f4 _ q]; exact .inl ⟨rfl, fun h => h⟩
  · rw [e5]
    by_cases q : k = j
    · subst q; rw [hp, f5.1]; exact h1 hk0
    · rw [f4 _ (hne k hk (hU k uk) q)]
      exact pl k hk (hU k uk) hk0 (by rw [← e10 k q]; exact hz)
  · by_cases q : (1 : Int) = p
    · rw [q, f5.1]; exact h0 (hp1.mp q.symm)
    · rw [f4 _ q]; exact pl0
  · refine Int.le_trans (sum_one (f := phi a b) (x := - (if j = 0 then wF (b.e p).plan - wF ds else wL (b.e p).plan - wL ds)) hj ?_ fun k hk h => ?_) (by omega)
    · unfold phi; rw [e11, hjr, e5, hp, f5.1]
      by_cases q : j = 0 <;> simp [q] <;> omega
    · by_cases q : (a.ps k).state = .unused
      · unfold phi; rw [e10 k h, q]; simp
      · exact Int.le_of_eq (phi_same (by rw [e10 k h]) (by rw [e5, f4 _ (hne k hk q h)]))

theorem inv_exit {n j : Nat} {m : Int} {a : AT} {b : Bk} (I : Inv n (some j) m a b) (hj0 : j ≠ 0) (s : Int) :
    Inv n none (m - wL (b.e (a.ps j).pid).plan) (a.exitF n j 0 s) (b.endF (a.ps j).pid s) ∧ ExitP n j ((a.ps j).parent.getD 0) s a (a.exitF n j 0 s) := by
  obtain ⟨S, T, pl, pl0, sum⟩ := I
  obtain ⟨hj, hjr⟩ := S.rr j rfl
  have uj : (a.ps j).state ≠ .unused := by rw [hjr]; decide
  obtain ⟨p, h1, h2, h3, h4, h5, h6⟩ := S.par j hj uj hj0
  have hpj : p ≠ j := fun e => by subst e; omega
  have X := exit_ps S hj0 s h1 h2 h3 hpj
  have Y := end_p b (a.ps j).pid s _ (anyOver_iff S hj uj)
  have S' := sim_exit S hj0 s h1 h2 h3 hpj X Y h5.symm
  rw [h1]
  refine ⟨?_, X⟩
  have hinj := S.inj
  have hst := S.st
  have hGW := good_w (pl j hj uj hj0 (by rw [hjr]; decide))
  obtain ⟨xlast, xnext, xfirst, xrun, xpid, xkilled, xstatus, xstatusj, xpar1, xpar2, xstj, xwk, xnwk, xchan⟩ := X
  obtain ⟨yks, ylast, yclock, yplan, yturn, ykilled, ystatus, ystatusq, ypar1, ypar2, ystq, ysinq, ywk, ynwk⟩ := Y
  generalize a.exitF n j 0 s = a' at *
  generalize b.endF (a.ps j).pid s = b' at *
  generalize (∃ i, i < n ∧ (a.ps i).state = .zombie ∧ (a.ps i).parent = some j) = Z at *
  have hS : ∀ k, k < n → k ≠ j → (a'.ps k).state = (a.ps k).state ∨ ((k = p ∨ k = 0) ∧ (a.ps k).state = .sleeping ∧ (a'.ps k).state = .ready) := fun k hk h => by
    by_cases q : (a.ps k).state = .sleeping ∧ (k = p ∨ (k = 0 ∧ Z))
    · exact .inr ⟨q.2.imp (fun h => h) fun h => h.1, q.1, xwk k hk h q.1 q.2⟩
    · exact .inl (xnwk k hk h q)
  have hU : ∀ k, k < n → (a'.ps k).state ≠ .unused → (a.ps k).state ≠ .unused := fun k hk h => by
    by_cases q : k = j
    · subst q; exact uj
    · rcases hS k hk q with q | ⟨_, q, q'⟩ <;> grind
  refine ⟨S', T.mono xlast yclock fun k hk uk => .inr ⟨hU k hk uk, by rw [xpid k hk, yturn], ?_⟩, fun k hk uk hk0 hz => ?_, by rw [yplan]; exact pl0, ?_⟩
  · rw [xpid k hk]
    by_cases q : (a.ps k).pid = (a.ps j).pid
    · rw [q, ystq]
      exact .inl ⟨ysinq, fun h => by cases h⟩
    · by_cases w : (b.e (a.ps k).pid).state = .asleep ∧ ((a.ps k).pid = (b.e (a.ps j).pid).parent ∨ ((a.ps k).pid = 1 ∧ Z))
      · exact .inr (ywk _ q w.1 w.2).2
      · have := ynwk _ q w
        exact .inl ⟨this.2, fun h => by rw [← this.1]; exact h⟩
  · rw [xpid k hk, yplan]
    have hkj : k ≠ j := fun e => by subst e; exact hz xstj
    refine pl k hk (hU k hk uk) hk0 ?_
    rcases hS k hk hkj with q | ⟨_, q, q'⟩
    · rw [← q]; exact hz
    · rw [q]; decide
  · refine Int.le_trans (sum_two (f := phi a b) (i := j) (p := p) (x := - 2 - wL (b.e (a.ps j).pid).plan) (y := 2) hj h2 fun k hk => ?_) (by omega)
    by_cases q : k = j
    · subst q
      unfold phi; rw [xstj, hjr]; simp [hj0, hpj, Ne.symm hpj]; omega
    · rw [if_neg q]
      rcases hS k hk q with w | ⟨w1, w2, w3⟩
      · rw [phi_same (a' := a') (b := b) (b' := b') w (by rw [xpid k hk, yplan])]; split <;> omega
      · have := phi_ready (a' := a') (b := b) (b' := b') (k := k) w2 w3 (by rw [xpid k hk, yplan] : (b'.e (a'.ps k).pid).plan = (b.e (a.ps k).pid).plan)
        rcases w1 with w1 | w1
        · rw [if_pos w1]; omega
        · have := this.2 w1; split <;> omega
end PartP6
section PartP7
open PySem PySem.W PyProof.Rows PySem.Spec PySem.Calls

section
variable {n : Nat} {r : Option Nat} {a : AT} {b : Bk}
theorem Sim.len (S : Sim n r a b) : b.ks.length = ((List.range n).filter a.there).length := by
  have hu : ∀ i, i ∈ (List.range n).filter a.there ↔ i < n ∧ (a.ps i).state ≠ .unused := fun i => by
    rw [List.mem_filter, List.mem_range]; simp [AT.there]
  have hp : b.ks.Perm (((List.range n).filter a.there).map fun i => (a.ps i).pid) := by
    refine (List.perm_ext_iff_of_nodup S.nd ?_).mpr fun k => ?_
    · have h1 : ((List.range n).filter a.there).Nodup := List.nodup_range.sublist List.filter_sublist
      unfold List.Nodup at h1 ⊢
      rw [List.pairwise_map]
      refine List.Pairwise.imp_of_mem (fun {x y} hx hy h e => ?_) h1
      have hx := (hu x).mp hx; have hy := (hu y).mp hy
      exact h (S.inj x y hx.1 hy.1 hx.2 hy.2 e)
    · rw [List.mem_map]
      constructor
      · intro hk
        obtain ⟨i, h1, h2, h3⟩ := S.k2 k hk
        exact ⟨i, (hu i).mpr ⟨h1, h2⟩, h3⟩
      · rintro ⟨i, hi, rfl⟩
        have hi := (hu i).mp hi
        exact S.k1 i hi.1 hi.2
  rw [hp.length_eq, List.length_map]
theorem Sim.le8 (S : Sim n r a b) : b.ks.length ≤ 8 := by
  rw [S.len]; have := List.length_filter_le a.there (List.range n); rw [List.length_range] at this; have := S.n8; omega
theorem Sim.full (S : Sim n r a b) (h : ∀ i, i < n → (a.ps i).state ≠ .unused) : b.ks.length = n := by
  rw [S.len, List.filter_eq_self.mpr, List.length_range]
  intro i hi; rw [List.mem_range] at hi; simp [AT.there, h i hi]
theorem Sim.room (S : Sim n r a b) {i : Nat} (hi : i < n) (h : (a.ps i).state = .unused) : b.ks.length ≠ n := by
  rw [S.len]
  have : ((List.range n).filter a.there).length < (List.range n).length := List.length_filter_lt_length_iff_exists.mpr ⟨i, List.mem_range.mpr hi, by simp [AT.there, h]⟩
  rw [List.length_range] at this; omega
theorem Sim.alone (S : Sim n r a b) (h : b.ks.length = 1) : (List.range n).filter a.there = [0] := by
  rw [S.len] at h
  obtain ⟨x, hx⟩ := List.length_eq_one_iff.mp h
  have : 0 ∈ (List.range n).filter a.there := by
    rw [List.mem_filter, List.mem_range]; exact ⟨by have := S.n3; omega, by simp [AT.there, S.u0]⟩
  rw [hx] at this; simp at this; subst this; exact hx
theorem Sim.alone' (S : Sim n r a b) (h : ∀ i, i < n → (a.ps i).state ≠ .unused → i = 0) : b.ks.length = 1 := by
  rw [S.len]
  have h1 : ∀ x ∈ (List.range n).filter a.there, x = 0 := fun x hx => by
    rw [List.mem_filter, List.mem_range] at hx; exact h x hx.1 (by simpa [AT.there] using hx.2)
  have h2 : ((List.range n).filter a.there).Nodup := List.nodup_range.sublist List.filter_sublist
  have h3 : 0 ∈ (List.range n).filter a.there := by
    rw [List.mem_filter, List.mem_range]; exact ⟨by have := S.n3; omega, by simp [AT.there, S.u0]⟩
  generalize (List.range n).filter a.there = l at *
  match l with
  | [] => cases h3
  | [x] => rfl
  | x :: y :: l =>
    have q1 := h1 x (by simp); have q2 := h1 y (by simp)
    subst q1; subst q2; simp at h2
theorem Sim.two (S : Sim n r a b) {i : Nat} (hi : i < n) (h : (a.ps i).state ≠ .unused) (h0 : i ≠ 0) : b.ks.length ≠ 1 := fun e => by
  have h1 := S.alone e
  have : i ∈ (List.range n).filter a.there := by rw [List.mem_filter, List.mem_range]; exact ⟨hi, by simp [AT.there, h]⟩
  rw [h1] at this; simp at this; exact h0 this

/-- where none but the first is ready, none but the first sleeps -/
theorem Sim.nosleep (S : Sim n none a b) (h : ∀ i, i < n → i ≠ 0 → (a.ps i).state ≠ .ready) : ∀ (m : Nat) (i : Nat), (b.last - (a.ps i).pid).toNat ≤ m → i < n → i ≠ 0 → (a.ps i).state ≠ .sleeping := by
  intro m
  induction m with
  | zero =>
    intro i hm hi h0 hs
    obtain ⟨k, hk, uk, pk⟩ := S.slp i hi hs
    have k0 : k ≠ 0 := fun e => by subst e; rw [S.par0] at pk; cases pk
    obtain ⟨j, h1, h2, h3, h4, h5, h6⟩ := S.par k hk uk k0
    rw [pk] at h1; injection h1 with h1; subst h1
    have := S.le k hk uk
    omega
  | succ m ih =>
    intro i hm hi h0 hs
    obtain ⟨k, hk, uk, pk⟩ := S.slp i hi hs
    have k0 : k ≠ 0 := fun e => by subst e; rw [S.par0] at pk; cases pk
    have kz := S.slz i hi hs k hk uk pk
    obtain ⟨j, h1, h2, h3, h4, h5, h6⟩ := S.par k hk uk k0
    rw [pk] at h1; injection h1 with h1; subst h1
    have hle := S.le k hk uk
    have ks : (a.ps k).state = .sleeping := by
      have q1 := S.nf k hk
      have q2 := h k hk k0
      have q3 : (a.ps k).state ≠ .running := fun e => by have := q1.2 e; cases this
      cases e : (a.ps k).state <;> simp_all
    exact ih k (by omega) hk k0 ks
theorem Sim.dead (S : Sim n none a b) (h : ∀ i, i < n → i ≠ 0 → (a.ps i).state ≠ .ready) {i : Nat} (hi : i < n) (hu : (a.ps i).state ≠ .unused) (h0 : i ≠ 0) : (a.ps i).state = .zombie ∧ (a.ps i).parent = some 0 := by
  have all : ∀ i, i < n → (a.ps i).state ≠ .unused → i ≠ 0 → (a.ps i).state = .zombie := fun i hi hu h0 => by
    have q1 := S.nf i hi
    have q2 := h i hi h0
    have q3 : (a.ps i).state ≠ .running := fun e => by have := q1.2 e; cases this
    have q4 := S.nosleep h _ i (Nat.le_refl _) hi h0
    cases e : (a.ps i).state <;> simp_all
  refine ⟨all i hi hu h0, ?_⟩
  obtain ⟨j, h1, h2, h3, h4, h5, h6⟩ := S.par i hi hu h0
  by_cases q : j = 0
  · rw [h1, q]
  · exact absurd (all j h2 h3 q) h4
theorem Sim.some_ready (S : Sim n none a b) : ∃ i, i < n ∧ (a.ps i).state = .ready := Classical.byContradiction fun h => by
  have h' : ∀ i, i < n → (a.ps i).state ≠ .ready := fun i hi e => h ⟨i, hi, e⟩
  have h0 : 0 < n := by have := S.n3; omega
  have s0 : (a.ps 0).state = .sleeping := by
    have q1 := S.nf 0 h0
    have q2 := h' 0 h0
    have q3 : (a.ps 0).state ≠ .running := fun e => by have := q1.2 e; cases this
    have q4 := S.u0
    have q5 := S.z0
    cases e : (a.ps 0).state <;> simp_all
  obtain ⟨k, hk, uk, pk⟩ := S.slp 0 h0 s0
  have k0 : k ≠ 0 := fun e => by subst e; rw [S.par0] at pk; cases pk
  exact S.slz 0 h0 s0 k hk uk pk (S.dead (fun i hi _ => h' i hi) hk uk k0).1
end

structure LoopI (n : Nat) (m : Int) (a : AT) (b : Bk) : Prop where
  ex : ∃ bit : Int, (bit = 0 ∨ bit = 1) ∧ Inv n none (m - bit) a b ∧ (bit = 0 → (a.ps 0).state = .sleeping ∨ ((b.e 1).plan = [] ∧ a.last = 0))

theorem Inv.weaken {n : Nat} {r : Option Nat} {m m' : Int} {a : AT} {b : Bk} (I : Inv n r m a b) (h : m ≤ m') : Inv n r m' a b := ⟨I.sim, I.tm, I.pl, I.pl0, Int.le_trans I.sum h⟩
theorem LoopI.one {n : Nat} {m : Int} {a : AT} {b : Bk} (I : Inv n none (m - 1) a b) : LoopI n m a b := ⟨1, .inr rfl, I, fun e => by cases e⟩

theorem phi_nonneg {n : Nat} {r : Option Nat} {m : Int} {a : AT} {b : Bk} (I : Inv n r m a b) {k : Nat} (hk : k < n) : 0 ≤ phi a b k := by
  unfold phi
  by_cases h1 : (a.ps k).state = .unused
  · rw [if_pos h1]; omega
  · rw [if_neg h1]
    by_cases h2 : (a.ps k).state = .zombie
    · rw [if_pos h2]; omega
    · rw [if_neg h2]
      by_cases h3 : k = 0
      · subst h3; rw [if_pos rfl, I.sim.p0]
        rcases I.pl0 with h | h
        · rw [h]; simp [wF]
        · exact goodF_w h
      · rw [if_neg h3]
        have := good_w (I.pl k hk h1 h3 h2)
        split <;> omega
theorem LoopI.nonneg {n : Nat} {m : Int} {a : AT} {b : Bk} (L : LoopI n m a b) : 0 ≤ m := by
  obtain ⟨bit, hb, I, _⟩ := L.ex
  have h1 := sum_nonneg (f := phi a b) (n := n) fun k hk => phi_nonneg I hk
  have := I.sum
  omega

/-- the turn of place i begins -/
structure Turn1 (n i : Nat) (m bit : Int) (a₀ a : AT) (b : Bk) : Prop where
  hbit : bit = 0 ∨ bit = 1
  inv : Inv n (some i) (m - bit) a b
  zero : bit = 0 → i = 0 → (b.e 1).plan = [] ∧ ∀ k, k < n → (a.ps k).state ≠ .unused → k ≠ 0 → (a.ps k).state = .zombie ∧ (a.ps k).parent = some 0
  last : a.last = i

theorem turn_begin {n i : Nat} {m : Int} {a : AT} {b : Bk} (L : LoopI n m a b) (hi : i < n) (hr : (a.ps i).state = .ready) (hf : ∀ q, q < n → (a.ps q).state = .ready → dist n a.last i ≤ dist n a.last q) :
    b.fair (a.ps i).pid ∧ ∃ bit, Turn1 n i m bit a (a.nextF i) { b.upd (a.ps i).pid { b.e (a.ps i).pid with turn := b.clock + 1 } with clock := b.clock + 1 } := by
  obtain ⟨bit, hb, I, hz⟩ := L.ex
  refine ⟨inv_fair I hi hr hf, bit, hb, inv_next I hi hr hf, fun b0 i0 => ?_, rfl⟩
  subst i0
  rcases hz b0 with h | ⟨h1, h2⟩
  · rw [hr] at h; cases h
  · refine ⟨?_, fun k hk uk k0 => ?_⟩
    · show ((b.upd (a.ps 0).pid _).e 1).plan = []
      rw [I.sim.p0, Bk.upd_self]; exact h1
    · rw [nextF_ps, if_neg k0] at uk ⊢
      refine I.sim.dead (fun q hq q0 e => ?_) hk uk k0
      have := hf q hq e
      rw [h2] at this
      have d1 := dist_self (n := n) I.sim.n8 hi
      have d2 := dist_lt I.sim.n8 hq hi
      have d3 : dist n 0 q ≠ dist n 0 0 := fun e => q0 (dist_inj I.sim.n8 hq hi hi e)
      omega

theorem turn_ended {n i : Nat} {m bit : Int} {a₀ a : AT} {b : Bk} (T : Turn1 n i m bit a₀ a b) (hi : i ≠ 0) (s : Int) : LoopI n (m - 1) (a.exitF n i 0 s) (b.endF (a.ps i).pid s) := by
  obtain ⟨hin, hr⟩ := T.inv.sim.rr i rfl
  have h1 := (inv_exit T.inv hi s).1
  have h2 := good_w (T.inv.pl i hin (by rw [hr]; decide) hi (by rw [hr]; decide))
  have := T.hbit
  exact .one (h1.weaken (by omega))
theorem turn_slept {n i : Nat} {m bit : Int} {a₀ a : AT} {b : Bk} (T : Turn1 n i m bit a₀ a b) (hkk : ∃ k, k < n ∧ (a.ps k).state ≠ .unused ∧ (a.ps k).parent = some i)
    (hz : ∀ k, k < n → (a.ps k).state ≠ .unused → (a.ps k).parent = some i → (a.ps k).state ≠ .zombie) :
    LoopI n (m - 1) (a.sleepF i (a.ps i).pid) (b.upd (a.ps i).pid { b.e (a.ps i).pid with state := .asleep }) ∧ b.ks.length ≠ 1 := by
  have h1 := inv_sleep T.inv hkk hz
  have hbit := T.hbit
  obtain ⟨k, hk, uk, pk⟩ := hkk
  have k0 : k ≠ 0 := fun e => by subst e; rw [T.inv.sim.par0] at pk; cases pk
  refine ⟨?_, T.inv.sim.two hk uk k0⟩
  by_cases q : i = 0
  · subst q
    rw [if_pos rfl] at h1
    have : bit = 1 := hbit.resolve_left fun e => hz k hk uk pk ((T.zero e rfl).2 k hk uk k0).1
    subst this
    exact ⟨0, .inl rfl, h1.weaken (by omega), fun _ => .inl (by simp [AT.sleepF, AT.set])⟩
  · rw [if_neg q] at h1
    exact .one (h1.weaken (by omega))

/-- what the deed at the head of a plan does -/
inductive Mid (n i : Nat) (a : AT) (b : Bk) : List Deed → AT → Bk → Prop
  | turn {ds : List Deed} : Mid n i a b (.turn :: ds) a b
  | exit0 {s : Int} {ds : List Deed} : i = 0 → Mid n i a b (.exit s :: ds) a b
  | kill {p : Int} {ds : List Deed} {k : Nat} : k < n → (a.ps k).state ≠ .unused → (a.ps k).pid = p → Mid n i a b (.kill p :: ds) (a.killF k) (b.killF p)
  | killN {p : Int} {ds : List Deed} : Mid n i a b (.kill p :: ds) a b
  | fork {ps ds : List Deed} {k : Nat} : k < n → (a.ps k).state = .unused → Mid n i a b (.fork ps :: ds) (a.forkF i k) (b.forkF (a.ps i).pid a.next ps)
  | forkN {ps ds : List Deed} : Mid n i a b (.fork ps :: ds) a b
  | told {ds : List Deed} {k : Nat} : k < n → (a.ps k).state = .zombie → Mid n i a b (.wait :: ds) (a.set k {}) (b.delF (a.ps k).pid)
  | ref {ds : List Deed} : Mid n i a b (.wait :: ds) a b
  | told0 {k : Nat} : k < n → (a.ps k).state = .zombie → Mid n i a b [] (a.set k {}) (b.delF (a.ps k).pid)
  | ref0 : (∀ k, k < n → (a.ps k).state ≠ .unused → (a.ps k).parent = some i → (a.ps k).state ≠ .zombie) → Mid n i a b [] a b

theorem good_cons {x : Deed} {ds : List Deed} (h : GoodP (x :: ds)) : ds = [] ∨ GoodP ds := by
  cases h with
  | fin s => exact .inl rfl
  | turn h => exact .inr h
  | wait h => exact .inr h
  | kill _ _ h => exact .inr h
  | fork _ h => exact .inr h

theorem gd_turn {ds : List Deed} (h : GoodP (.turn :: ds)) : GoodP ds := by cases h; assumption
theorem gd_kill {p : Int} {ds : List Deed} (h : GoodP (.kill p :: ds)) : GoodP ds := by cases h; assumption
theorem gd_wait {ds : List Deed} (h : GoodP (.wait :: ds)) : GoodP ds := by cases h; assumption
theorem gd_fork {ps ds : List Deed} (h : GoodP (.fork ps :: ds)) : GoodP ps ∧ GoodP ds := by cases h; constructor <;> assumption
theorem gd_nil (h : GoodP []) : False := by cases h
theorem gd_fork' {ps ds : List Deed} {i : Nat} (h0 : i = 0 → (.fork ps :: ds) = [] ∨ GoodP (.fork ps :: ds)) (h1 : i ≠ 0 → GoodP (.fork ps :: ds)) : GoodP ps :=
  if h : i = 0 then (gd_fork ((h0 h).resolve_left (by simp))).1 else (gd_fork (h1 h)).1
theorem mid_le {M m' : Int} {i : Nat} {x : Deed} {ds : List Deed} (h : m' + 2 ≤ M + wD x) : m' - (if i = 0 then wF (x :: ds) - wF ds else wL (x :: ds) - wL ds) ≤ M - (if i = 0 then 1 else 2) := by
  simp only [wF, wL]; split <;> omega
theorem wm_le {M d : Int} (h : 2 ≤ d) : M + 2 ≤ M + d := by omega
theorem wm_turn : 2 ≤ wD .turn := by simp [wD]
theorem wm_wait : 2 ≤ wD .wait := by simp [wD]
theorem wm_kill {p : Int} : 2 ≤ wD (.kill p) := by simp [wD]
theorem wm_fork {ps : List Deed} (h : GoodP ps) : 2 ≤ wD (.fork ps) := by have := good_w h; simp only [wD]; omega
theorem wk_kill {M p : Int} : M + 2 + 2 ≤ M + wD (.kill p) := by simp only [wD]; omega
theorem wk_fork {M : Int} {ps : List Deed} : M + 3 + wL ps + 2 ≤ M + wD (.fork ps) := by simp only [wD]; omega
theorem wk_told {M : Int} : M - 1 + 2 ≤ M + wD .wait := by simp only [wD]; omega
theorem mid_x {M : Int} {i : Nat} {s : Int} {ds : List Deed} (h : i = 0) : M - (if i = 0 then wF (.exit s :: ds) - wF ds else wL (.exit s :: ds) - wL ds) ≤ M - (if i = 0 then 1 else 2) := mid_le (wm_le (by simp [wD]))
theorem mid_end {X m bit : Int} {i : Nat} (hb : bit = 0 ∨ bit = 1) (h1 : i = 0 → bit = 1) (h : X ≤ m - bit - (if i = 0 then 1 else 2)) : X ≤ m - 1 - 1 := by
  split at h
  · rename_i q; have := h1 q; omega
  · rcases hb with rfl | rfl <;> omega
theorem told_end {m bit : Int} : m - bit - 1 - (if (0 : Nat) = 0 then wF [] - wF ([] : List Deed).tail else wL [] - wL ([] : List Deed).tail) ≤ m - 1 - bit := by simp [wF]; omega

theorem turn_mid {n i : Nat} {m bit : Int} {a₀ a a' : AT} {b b' b'' : Bk} {p : Int} {ds : List Deed} (T : Turn1 n i m bit a₀ a b) (hp : (a.ps i).pid = p) (hds : (b.e p).plan = ds) (M : Mid n i a b ds a' b')
    (hb : b'' = b'.upd p { b'.e p with plan := ds.tail, since := b'.clock }) :
    Sim n (some i) a' b' ∧ (a'.ps i).pid = p ∧ (b'.e p).plan = ds ∧ (b'.ks.length = 1 ∧ p = 1 ∧ ds.tail = [] → Sim n none (a'.readyF i) b'') ∧ (¬ (b'.ks.length = 1 ∧ p = 1 ∧ ds.tail = []) → LoopI n (m - 1) (a'.readyF i) b'') := by
  obtain ⟨hin, hr⟩ := T.inv.sim.rr i rfl
  have ui : (a.ps i).state ≠ .unused := by rw [hr]; decide
  have hbit := T.hbit
  have hp1 : p = 1 ↔ i = 0 := ⟨fun e => T.inv.sim.inj i 0 hin (by have := T.inv.sim.n3; omega) ui T.inv.sim.u0 (by rw [hp, e, T.inv.sim.p0]), fun e => by subst e; rw [← hp, T.inv.sim.p0]⟩
  have hpn : p ≠ a.next := by have := T.inv.sim.le i hin ui; have := T.inv.sim.next; omega
  have hgood : i ≠ 0 → GoodP ds := fun h => by have := T.inv.pl i hin ui h (by rw [hr]; decide); rw [hp, hds] at this; exact this
  have hgood0 : i = 0 → ds = [] ∨ GoodP ds := fun h => by have := T.inv.pl0; rw [hp1.mpr h] at hds; rw [hds] at this; exact this
  have htail0 : i = 0 → ds.tail = [] ∨ GoodP ds.tail := fun h => by
    rcases hgood0 h with rfl | g
    · exact .inl rfl
    · cases ds with
      | nil => exact .inl rfl
      | cons x xs => exact good_cons g
  have hbit1 : i = 0 → ds ≠ [] → bit = 1 := fun h h' => hbit.resolve_left fun e => h' (by have := (T.zero e h).1; rw [hp1.mpr h] at hds; rw [← hds]; exact this)
  -- the state after the deed
  obtain ⟨m', I', hpid', hplan', hlast', hm', htl⟩ : ∃ m', Inv n (some i) m' a' b' ∧ (a'.ps i).pid = p ∧ (b'.e p).plan = ds ∧ a'.last = i ∧ (ds ≠ [] → m' - (if i = 0 then wF ds - wF ds.tail else wL ds - wL ds.tail) ≤ m - bit - (if i = 0 then 1 else 2)) ∧ (i ≠ 0 → GoodP ds.tail) := by
    cases M with
    | turn => exact ⟨_, T.inv, hp, hds, T.last, fun _ => mid_le (wm_le wm_turn), fun h => gd_turn (hgood h)⟩
    | exit0 h => exact ⟨_, T.inv, hp, hds, T.last, fun _ => mid_x h, fun h' => absurd h h'⟩
    | kill hk uk ek =>
      rename_i k _
      subst ek
      refine ⟨_, inv_kill T.inv hk uk, ?_, ?_, ?_, fun _ => mid_le wk_kill, fun h => gd_kill (hgood h)⟩
      · rw [killF_ps]; split
        · rename_i q; subst q; split <;> exact hp
        · exact hp
      · rw [bkillF_e]; split
        · rename_i q; split <;> (have e := hds; rw [q] at e; exact e)
        · exact hds
      · unfold AT.killF; split <;> exact T.last
    | killN => exact ⟨_, T.inv, hp, hds, T.last, fun _ => mid_le (wm_le wm_kill), fun h => gd_kill (hgood h)⟩
    | fork hk uk =>
      rename_i ps ds' k
      have hgp : GoodP ps := gd_fork' hgood0 hgood
      refine ⟨_, inv_fork T.inv hk uk hgp, ?_, ?_, T.last, fun _ => mid_le wk_fork, fun h => (gd_fork (hgood h)).2⟩
      · rw [forkF_ps, if_neg fun e => by subst e; rw [hr] at uk; cases uk]; exact hp
      · show BE.plan (if p = a.next then _ else _) = _; rw [if_neg hpn]; exact hds
    | forkN =>
      rename_i ps ds'
      have hgp : GoodP ps := gd_fork' hgood0 hgood
      exact ⟨_, T.inv, hp, hds, T.last, fun _ => mid_le (wm_le (wm_fork hgp)), fun h => (gd_fork (hgood h)).2⟩
    | told hk hz =>
      refine ⟨_, inv_told T.inv hk hz, ?_, hds, T.last, fun _ => mid_le wk_told, fun h => gd_wait (hgood h)⟩
      rw [AT.set_ps, if_neg fun e => by subst e; rw [hr] at hz; cases hz]; exact hp
    | ref => exact ⟨_, T.inv, hp, hds, T.last, fun _ => mid_le (wm_le wm_wait), fun h => gd_wait (hgood h)⟩
    | told0 hk hz =>
      refine ⟨_, inv_told T.inv hk hz, ?_, hds, T.last, fun h => absurd rfl h, fun h => (gd_nil (hgood h)).elim⟩
      rw [AT.set_ps, if_neg fun e => by subst e; rw [hr] at hz; cases hz]; exact hp
    | ref0 hno => exact ⟨_, T.inv, hp, hds, T.last, fun h => absurd rfl h, fun h => (gd_nil (hgood h)).elim⟩
  have D := inv_done I' hpid' hb htail0 htl
  rw [hplan'] at D
  refine ⟨I'.sim, hpid', hplan', fun _ => D.sim, fun hno => ?_⟩
  by_cases q : ds = []
  · subst q
    have hi0 : i = 0 := Classical.byContradiction fun h => gd_nil (hgood h)
    subst hi0
    have hp1 := hp1.mpr rfl
    have pl1 : (b''.e 1).plan = [] := by rw [hb, hp1, Bk.upd_self]; rfl
    have hl : (a'.readyF 0).last = 0 := hlast'
    cases M with
    | told0 hk hz =>
      have D := inv_done (inv_told T.inv hk hz) hpid' hb htail0 htl
      rw [hplan'] at D
      exact ⟨bit, hbit, D.weaken told_end, fun _ => .inr ⟨pl1, hl⟩⟩
    | ref0 hz =>
      have hb1 : bit = 1 := hbit.resolve_left fun e => hno ⟨T.inv.sim.alone' fun k hk uk => Classical.byContradiction fun k0 => by
        have := (T.zero e rfl).2 k hk uk k0
        exact hz k hk uk this.2 this.1, hp1, rfl⟩
      subst hb1
      have D := inv_done T.inv hpid' hb htail0 htl
      rw [hplan'] at D
      exact ⟨0, .inl rfl, D.weaken (by simp), fun _ => .inr ⟨pl1, hl⟩⟩
  · exact .one (D.weaken (mid_end hbit (fun h => hbit1 h q) (hm' q)))
theorem good_len {ds : List Deed} (h : GoodP ds) : (ds.length : Int) ≤ wL ds ∧ (ds.length : Int) ≤ wF ds := by
  induction h with
  | fin s => simp [wF, wL, wD]
  | turn _ ih => simp [wF, wL, wD]; omega
  | wait _ ih => simp [wF, wL, wD]; omega
  | kill _ _ _ ih => simp [wF, wL, wD]; omega
  | fork h1 _ ih1 ih2 => have := good_w h1; simp [wF, wL, wD]; omega
theorem sum_mem {f : Nat → Int} {n i : Nat} (h : ∀ k, k < n → 0 ≤ f k) (hi : i < n) : f i ≤ sumN n f := by
  induction n with
  | zero => omega
  | succ n ih =>
    simp only [sumN]
    by_cases q : i = n
    · subst q
      have := sum_nonneg (f := f) (n := i) fun k hk => h k (by omega)
      omega
    · have := ih (fun k hk => h k (by omega)) (by omega)
      have := h n (by omega)
      omega
theorem plan_len {n i : Nat} {m : Int} {a : AT} {b : Bk} (I : Inv n (some i) m a b) : ((b.e (a.ps i).pid).plan.length : Int) ≤ m := by
  obtain ⟨hin, hr⟩ := I.sim.rr i rfl
  have h1 := sum_mem (f := phi a b) (fun k hk => phi_nonneg I hk) hin
  have h2 := I.sum
  have h3 : ((b.e (a.ps i).pid).plan.length : Int) ≤ phi a b i := by
    unfold phi; rw [hr]
    by_cases q : i = 0
    · subst q
      simp
      rcases I.pl0 with h | h
      · rw [I.sim.p0, h]; simp [wF]
      · rw [I.sim.p0]; exact (good_len h).2
    · have := (good_len (I.pl i hin (by rw [hr]; decide) q (by rw [hr]; decide))).1
      simp [q]; omega
  omega
end PartP7
section PartZ1
open PySem PySem.W PyProof.Rows PySem.Spec PySem.Calls

/-- the pair that stands for the head of a plan -/
inductive Head (st : Store) : List Deed → MV → MV → Prop
  | nil : Head st [] (.str "wait") .none
  | turn {ds : List Deed} : Head st (.turn :: ds) (.str "turn") .none
  | wait {ds : List Deed} : Head st (.wait :: ds) (.str "wait") .none
  | kill {p : Int} {ds : List Deed} : Head st (.kill p :: ds) (.str "kill") (.int p)
  | exit {s : Int} {ds : List Deed} : Head st (.exit s :: ds) (.str "exit") (.int s)
  | fork {l : Addr} {ps ds : List Deed} : PlanAt st l ps → Head st (.fork ps :: ds) (.str "fork") (.ref l)
theorem DeedAt.head {st : Store} {v : MV} {x : Deed} {ds : List Deed} (h : DeedAt st v x) : ∃ t a b, v = .ref t ∧ st t = some (.tuple [a, b]) ∧ Head st (x :: ds) a b := by
  cases h with
  | turn h => exact ⟨_, _, _, rfl, h, .turn⟩
  | wait h => exact ⟨_, _, _, rfl, h, .wait⟩
  | kill h => exact ⟨_, _, _, rfl, h, .kill⟩
  | exit h => exact ⟨_, _, _, rfl, h, .exit⟩
  | fork h h' k => exact ⟨_, _, _, rfl, h, .fork ⟨_, h', k⟩⟩
theorem Head.mono {st st' : Store} (T : LT st st') {ds : List Deed} {a b : MV} (h : Head st ds a b) : Head st' ds a b := by
  cases h with
  | nil => exact .nil
  | turn => exact .turn
  | wait => exact .wait
  | kill => exact .kill
  | exit => exact .exit
  | fork h => exact .fork (h.mono T)

/-- what stands behind the deed -/
inductive After (A : Ad) (B : Addr) (d : Int → Addr) (i : Nat) (p : Int) (ds : List Deed) (a : AT) (b : Bk) (st : Store) : Bool → Prop
  | mid {a' : AT} {b' : Bk} {d' : Int → Addr} : Mid A.n i a b ds a' b' → RepT A a' st → RepB B d' st b' → d' p = d p → After A B d i p ds a b st true
  | slept : (∃ k, k < A.n ∧ (a.ps k).state ≠ .unused ∧ (a.ps k).parent = some i) → (∀ k, k < A.n → (a.ps k).state ≠ .unused → (a.ps k).parent = some i → (a.ps k).state ≠ .zombie) →
      RepT A (a.sleepF i p) st → RepB B d st (b.upd p { b.e p with state := .asleep }) → After A B d i p ds a b st false

theorem all2_cons {a : MV} {l : List MV} {m : List Value} (h : All2 VR (a :: l) m) : ∃ v vs, m = v :: vs ∧ VR a v ∧ All2 VR l vs := by
  cases h with
  | cons r t => exact ⟨_, _, rfl, r, t⟩
theorem all2_rrv {a b : Addr} {y : MV} {P : List Value → Prop} (h : ∀ u, VR y u → P [.ref a, .ref b, u]) : ∀ vs, All2 VR [.ref a, .ref b, y] vs → P vs := fun vs e => by
  obtain ⟨v1, _, rfl, h1, e⟩ := all2_cons e; obtain ⟨v2, _, rfl, h2, e⟩ := all2_cons e; obtain ⟨v3, rfl, h3⟩ := all2_one e
  cases h1; cases h2; exact h _ h3
theorem all2_rrr {a b c : Addr} {P : List Value → Prop} (h : P [.ref a, .ref b, .ref c]) : ∀ vs, All2 VR [.ref a, .ref b, .ref c] vs → P vs := all2_rrv fun u e => by cases e; exact h
theorem all2_rrrv {a b c : Addr} {y : MV} {P : List Value → Prop} (h : ∀ u, VR y u → P [.ref a, .ref b, .ref c, u]) : ∀ vs, All2 VR [.ref a, .ref b, .ref c, y] vs → P vs := fun vs e => by
  obtain ⟨v1, _, rfl, h1, e⟩ := all2_cons e; obtain ⟨v2, _, rfl, h2, e⟩ := all2_cons e; obtain ⟨v3, _, rfl, h3, e⟩ := all2_cons e; obtain ⟨v4, rfl, h4⟩ := all2_one e
  cases h1; cases h2; cases h3; exact h _ h4
theorem all2_rrrrv {a b c d : Addr} {y : MV} {P : List Value → Prop} (h : ∀ u, VR y u → P [.ref a, .ref b, .ref c, .ref d, u]) : ∀ vs, All2 VR [.ref a, .ref b, .ref c, .ref d, y] vs → P vs := fun vs e => by
  obtain ⟨v1, _, rfl, h1, e⟩ := all2_cons e; obtain ⟨v2, _, rfl, h2, e⟩ := all2_cons e; obtain ⟨v3, _, rfl, h3, e⟩ := all2_cons e; obtain ⟨v4, _, rfl, h4, e⟩ := all2_cons e; obtain ⟨v5, rfl, h5⟩ := all2_one e
  cases h1; cases h2; cases h3; cases h4; exact h _ h5
def DQ (A : Ad) (B : Addr) (d : Int → Addr) (i : Nat) (p : Int) (ds : List Deed) (a : AT) (b : Bk) (Q : MV → Store → Prop) (f : MF) (lm : LM) (st : Store) : Prop :=
  (f = .next ∧ lm "book" = some (.ref B) ∧ lm "table" = some (.ref A.T) ∧ lm "process" = some (.ref (A.P i)) ∧ lm "mine" = some (.ref (d p)) ∧ lm "right" = some (.bool true) ∧ ∃ x, lm "is_done" = some (.bool x) ∧ After A B d i p ds a b st x) ∨ (∃ v, f = .ret v ∧ Q v st)
theorem DQ.mk {A : Ad} {B : Addr} {d : Int → Addr} {i : Nat} {p : Int} {ds : List Deed} {a : AT} {b : Bk} {Q : MV → Store → Prop} {lm : LM} {st : Store} (h1 : lm "book" = some (.ref B)) (h2 : lm "table" = some (.ref A.T)) (h3 : lm "process" = some (.ref (A.P i))) (h4 : lm "mine" = some (.ref (d p))) (h5 : lm "right" = some (.bool true))
    (x : Bool) (h6 : lm "is_done" = some (.bool x)) (h : After A B d i p ds a b st x) : DQ A B d i p ds a b Q .next lm st := .inl ⟨rfl, h1, h2, h3, h4, h5, x, h6, h⟩
theorem DQ.elim {A : Ad} {B : Addr} {d : Int → Addr} {i : Nat} {p : Int} {ds : List Deed} {a : AT} {b : Bk} {Q : MV → Store → Prop} {P : MF → LM → Store → Prop}
    (h1 : ∀ lm st, lm "book" = some (.ref B) → lm "table" = some (.ref A.T) → lm "process" = some (.ref (A.P i)) → lm "mine" = some (.ref (d p)) → lm "right" = some (.bool true) → ∀ x, lm "is_done" = some (.bool x) → After A B d i p ds a b st x → P .next lm st)
    (h2 : ∀ v lm st, Q v st → P (.ret v) lm st) : ∀ f lm st, DQ A B d i p ds a b Q f lm st → P f lm st := by
  rintro f lm st (⟨rfl, l1, l2, l3, l4, l5, x, lx, aft⟩ | ⟨v, rfl, q⟩)
  · exact h1 lm st l1 l2 l3 l4 l5 x lx aft
  · exact h2 v lm st q
theorem DL.tail {st : Store} {vs : List MV} {ds : List Deed} (h : DL st vs ds) : DL st (vs.drop 1) ds.tail := by
  cases h with
  | nil => exact .nil
  | cons _ h => exact h
theorem DL.empty {st : Store} {vs : List MV} {ds : List Deed} (h : DL st vs ds) : vs.isEmpty = decide (ds = []) := by
  cases h <;> simp

section
variable {w : World} {b₀ : Heap} {mean : ExcName → Option Value} {mg mb : Str → Option Value} {c : Cx} {env : Env} {E : Value → Shared → Prop} {lm : LM} {st : Store} {A : Ad} {a : AT} {i : Nat} {expr : Bool} {v : Value} {B : Addr} {d : Int → Addr} {b : Bk}

theorem ex_if1 {e : Expr} {pos : Pos} {body orelse : List Stmt} {Q : MF → LM → Store → Prop}
    (h : Ev w b₀ c env E (isTrue e env (eval e env)) Eq lm st fun b st₁ => if b = true then Ex w b₀ c env E (execs body env) lm st₁ Q else Ex w b₀ c env E (execs orelse env) lm st₁ Q) :
    Ex w b₀ c env E (exec (.If e body orelse pos) env) lm st Q :=
  fun s m P I S k => wpAny_If (h s m _ I S fun v b h' tk st' I' T hr q => by
    subst hr; dsimp only at q
    split
    · rename_i q'; rw [if_pos q'] at q
      exact q _ m _ I' (S.step T) fun f₂ x₂ h₂ tk₂ m₂ st₂ l₂ I₂ T₂ S₂ hr₂ q₂ => k f₂ x₂ h₂ tk₂ m₂ st₂ l₂ I₂ (T.trans T₂) S₂ hr₂ q₂
    · rename_i q'; rw [if_neg q'] at q
      exact q _ m _ I' (S.step T) fun f₂ x₂ h₂ tk₂ m₂ st₂ l₂ I₂ T₂ S₂ hr₂ q₂ => k f₂ x₂ h₂ tk₂ m₂ st₂ l₂ I₂ (T.trans T₂) S₂ hr₂ q₂)

theorem wp_sliceE {A : Around} {s : Shared} {value : Expr} {lower upper : Option Expr} {p pos : Pos} {Q : Value → Shared → Prop}
    (h : wpAny (model PG w) A (eval value env) (fun o s₁ => wpAny (model PG w) A (evalPart lower env) (fun vl s₂ => wpAny (model PG w) A (evalPart upper env) (fun vu s₃ =>
      ∃ l items lo hi, o = .ref l ∧ s₃.heap.IsList l items ∧ items.size ≤ sizeLine ∧ IsPart vl lo ∧ IsPart vu hi ∧
        Q (.ref (s₃.heap.objs.size + 1)) { s₃ with heap := (s₃.heap.push { cls := .type "slice", data := .fields #[vl, vu, .none] }).push { cls := .type "list", data := .seq (slicePick items lo hi none) } }) E s₂) E s₁) E s) :
    wpAny (model PG w) A (eval (.Subscript value (.Slice lower upper none p) pos) env) Q E s := by
  refine Subscript_ (wpAny_mono h (fun o s₁ h₁ => wpAny_Slice (wpAny_mono h₁ (fun vl s₂ h₂ => wpAny_mono h₂ (fun vu s₃ h₃ => ?_) fun _ _ e => e) fun _ _ e => e)) fun _ _ e => e)
  obtain ⟨l, items, lo, hi, rfl, hl, hsz, pl, pu, hQ⟩ := h₃
  rw [evalPart_none]
  refine wpAny_pure (tail_any (ops := [.ref s₃.heap.objs.size, .ref l]) (hl.push _).typeIs slot_list_getitem.lookup (wpAny_getItem_list_slice (hl.push _) (Heap.IsSliceOf.new ..) pl pu .none (by simp) ?_ hsz) (by with_unfolding_all rfl))
  rw [Heap.size_push]
  exact hQ
/-- what is behind the first of a list that a subscript gives -/
theorem ev_restE {value lower : Expr} {p pos : Pos} {Q : MV → Store → Prop}
    (h : Ev w b₀ c env E (eval value env) VR lm st fun o st₁ => Ev w b₀ c env E (eval lower env) VR lm st₁ fun a st₂ =>
      ∃ l vs, o = .ref l ∧ st₂ l = some (.list vs) ∧ vs.length ≤ sizeLine ∧ ∃ i : Nat, a = .int i ∧ ∀ D, st₂ D = none → Q (.ref D) (st₂.set D (.list (vs.drop i)))) :
    Ev w b₀ c env E (eval (.Subscript value (.Slice (some lower) none none p) pos) env) VR lm st Q := fun s m P I S k =>
  wp_sliceE (h s m _ I S fun v x h' tk st' I' T hr q => (show wpAny _ _ (evalPart (some lower) env) _ _ _ from q _ m _ I' (S.step T) fun v₂ x₂ h₂ tk₂ st₂ I₂ T₂ hr₂ q₂ => by
    rw [evalPart_none]
    refine wpAny_pure ?_
    obtain ⟨l, vs, rfl, hl, hsz, i, rfl, q₃⟩ := q₂
    cases hr
    obtain ⟨ol, hol, ⟨its, nl, rfl, hall⟩, _⟩ := I₂.rep l _ hl
    have hL : h₂.IsList l its := ⟨_, hol, rfl, nl, rfl⟩
    have hz : its.size = vs.length := all2_toList hall
    obtain ⟨n4, I₄, T₄⟩ : st₂ h₂.objs.size = none ∧ In w b₀ c st₂ (h₂.push { cls := .type "slice", data := .fields #[v₂, .none, .none] }) m ∧ Step c st₂ h₂ st₂ (h₂.push { cls := .type "slice", data := .fields #[v₂, .none, .none] }) :=
      ⟨(I₂.fresh (Heap.get?_none_of_le (Nat.le_refl _))).1, I₂.push _⟩
    have fin : ∀ sl : Array Value, sl.toList = its.toList.drop i → P (.ref (h₂.objs.size + 1)) { s with heap := (h₂.push { cls := .type "slice", data := .fields #[v₂, .none, .none] }).push { cls := .type "list", data := .seq sl }, toks := tk₂ } := fun sl hsl => by
      obtain ⟨n5, I₅, T₅⟩ := I₄.pushNew { cls := .type "list", data := .seq sl } (mo := .list (vs.drop i)) ⟨_, _, rfl, by rw [hsl]; exact hall.drop i⟩
      rw [Heap.size_push] at n5 I₅ T₅
      exact k _ (.ref _) _ tk₂ _ I₅ (((T.trans T₂).trans T₄).trans T₅) rfl (q₃ _ n5)
    obtain ⟨t, rfl⟩ := hr₂
    exact ⟨l, its, some (i : Int), none, rfl, hL, by rw [hz]; exact hsz, .int _ _, .none, fin _ (by rw [slicePick_from'])⟩))

theorem turn_ok {n : Nat} {m : Int} {vm : Value} {Q : MV → Store → Prop} (G : Gd w b₀ mean mg mb) (hc : c.OK (n + 8)) (hh : c.hd = none) (R : RepT A a st) (RB : RepB B d st b) (L : LoopI A.n m a b) (hm : VR (.int (A.n : Nat)) vm) (hm2 : m ≤ 300)
    (hq1 : ∀ a' b' d' st', RepT A a' st' → RepB B d' st' b' → LoopI A.n (m - 1) a' b' → Q (.bool false) st')
    (hq2 : ∀ a' b' d' st', RepT A a' st' → RepB B d' st' b' → Sim A.n none a' b' → b'.ks.length = 1 → Q (.bool true) st') :
    Ev w b₀ c env E (call (.ref 335) [.ref B, .ref A.T, vm]) VR lm st Q := by
  (first | refine e0a4 (fun bit0 hb0 I0 hz0 => ?_) (L.ex) | refine e1a3 (fun bit0 hb0 I0 hz0 => ?_) (L.ex) | refine e2a2 (fun bit0 hb0 I0 hz0 => ?_) (L.ex) | obtain ⟨bit0, hb0, I0, hz0⟩ := L.ex)
  have S := I0.sim
  have hn : 0 < A.n := by have := S.n3; omega
  refine' ev_enterP G hc (by k_is) (by k_is) (.cons (vr_ref _) (.cons (vr_ref _) (.cons hm .nil))) (by rfl) (by rfl) (by decide) (by rfl) ?_
  intro c' hc' he' hh'
  have hcn := hh'.trans hh
  refine ex_assign hc' he'.symm (ev_meth G (ev_name rfl rfl ⟨A.T, 274, A.TD, _, 193, rfl, R.t, R.td, nT_next _, mT_next, ev_args_nil ?_⟩))
  refine all2_r0 ?_
  refine next_ok G hc' hcn R hn (fun s hs hr hno st₁ R₁ K₁ => ?_) (fun hno => ?_) S.last
  rotate_left
  · exfalso
    (first | refine e0a3 (fun i hi hr => ?_) (S.some_ready) | refine e1a2 (fun i hi hr => ?_) (S.some_ready) | refine e2a1 (fun i hi hr => ?_) (S.some_ready) | obtain ⟨i, hi, hr⟩ := S.some_ready)
    obtain ⟨e, hlt⟩ := mod_dist S.n8 S.last hi
    exact hno _ hlt (by rw [e]; exact hr)
  have RB₁ := RB.keep R K₁
  have hlt := (dist_mod S.n8 S.last hs).2
  have hdist := (dist_mod S.n8 S.last hs).1
  have hf : ∀ q, q < A.n → (a.ps q).state = .ready → dist A.n a.last ((a.last + 1 + s) % A.n) ≤ dist A.n a.last q := fun q hq hrq => by
    rw [hdist]
    obtain ⟨e, _⟩ := mod_dist S.n8 S.last hq
    exact Nat.le_of_not_lt fun h => hno _ h (by rw [e]; exact hrq)
  clear hno hdist
  generalize (a.last + 1 + s) % A.n = i at *
  (first | refine e0a3 (fun fair bit T1 => ?_) (turn_begin L hlt hr hf) | refine e1a2 (fun fair bit T1 => ?_) (turn_begin L hlt hr hf) | refine e2a1 (fun fair bit T1 => ?_) (turn_begin L hlt hr hf) | obtain ⟨fair, bit, T1⟩ := turn_begin L hlt hr hf)
  have ui : (a.ps i).state ≠ .unused := by rw [hr]; decide
  have hmem : (a.ps i).pid ∈ b.ks := S.k1 i hlt ui
  have hst : (b.e (a.ps i).pid).state = .ready := by rw [S.st i hlt ui, hr]; rfl
  have hpid : ((a.nextF i).ps i).pid = (a.ps i).pid := by rw [nextF_ps, if_pos rfl]
  generalize a.nextF i = a₁ at R₁ T1 hpid
  generalize (a.ps i).pid = p at *
  (first | refine e0a4 (fun kv e1 e2 e3 => ?_) (RB₁.e p hmem) | refine e1a3 (fun kv e1 e2 e3 => ?_) (RB₁.e p hmem) | refine e2a2 (fun kv e1 e2 e3 => ?_) (RB₁.e p hmem) | obtain ⟨kv, e1, e2, e3⟩ := RB₁.e p hmem)
  -- the test
  refine ex_if (tr_or (tr_cmp (ev_name rfl rfl (ev_none ?_))))
  refine cmp_is_noneU ⟨_, rfl, ?_⟩
  (first | refine iteN (show ¬ ((MV.ref (A.P i)).isNone = true) from Bool.false_ne_true) ?_ | rw [if_neg (show ¬ ((MV.ref (A.P i)).isNone = true) from Bool.false_ne_true)])
  refine tr_or (tr_cmp (ev_attr (ev_name rfl rfl ?_)))
  refine gp_pidU G R₁ hlt (ev_name rfl rfl ?_)
  rw [hpid]
  refine cmp_notinIU RB₁.bk ⟨_, rfl, ?_⟩
  rw [RB₁.isSome]; (first | refine iteN (by simp [hmem]) ?_ | rw [if_neg (by simp [hmem])])
  refine tr_or (tr_cmp (ev_book rfl rfl (ev_attr (ev_name rfl rfl ?_))))
  refine gp_pidU G R₁ hlt ⟨p, d, b, kv, _, by rw [hpid], RB₁, hmem, e1, e2.state, ev_str ?_⟩
  refine cmp_ne_strU ⟨_, rfl, ?_⟩
  rw [show ("ready" : Str) = BS.ready.str from rfl, BS.str_bne, hst]; (first | refine iteN (by decide) ?_ | rw [if_neg (by decide)])
  refine tr_or (tr_not (tr_bool (ev_call G rfl rfl (by k_is) (by k_is) (ev_args_cons (ev_name rfl rfl (ev_args_cons (ev_attr (ev_name rfl rfl ?_))))))))
  refine gp_pidU G R₁ hlt (ev_args_nil ?_)
  rw [hpid]
  refine all2_rv fun u hu => ?_
  refine fair_ok G hc' hcn RB₁ hu hmem fair fun st₂ X₂ => .inl ⟨true, rfl, ?_⟩
  (first | refine iteN (by decide) ?_ | rw [if_neg (by decide)])
  refine tr_or_nil ?_
  (first | refine iteN (by decide) ?_ | rw [if_neg (by decide)])
  refine ex_nil ?_
  have R₂ := R₁.ext X₂
  have RB₂ := RB₁.ext X₂
  -- mine
  refine ex_assign hc' he'.symm (ev_bookI rfl rfl (ev_attr (ev_name rfl rfl ?_)))
  refine gp_pidU G R₂ hlt ⟨p, d, b, by rw [hpid], RB₂, hmem, ?_⟩
  -- the clock
  (first | refine e0a4 (fun k1 f1 f2 f3 => ?_) (RB₂.e 1 RB₂.one) | refine e1a3 (fun k1 f1 f2 f3 => ?_) (RB₂.e 1 RB₂.one) | refine e2a2 (fun k1 f1 f2 f3 => ?_) (RB₂.e 1 RB₂.one) | obtain ⟨k1, f1, f2, f3⟩ := RB₂.e 1 RB₂.one)
  refine ex_assignSub (ev_binop (ev_book rfl rfl (ev_int ⟨1, d, b, k1, _, rfl, RB₂, RB₂.one, f1, (f3 rfl).2, ev_int ?_⟩)))
  refine op_addU (ev_bookI rfl rfl (ev_int ⟨1, d, b, rfl, RB₂, RB₂.one, ev_str ?_⟩))
  refine vr_r3 fun vj vv hj hv => ?_
  obtain ⟨l3, RB₃⟩ := RB₂.set_clock f1 (b.clock + 1)
  refine set_S f1 l3 hj hv ?_
  have R₃ := R₂.setO (mo' := .sdict (dput ("clock" : Str) (.int (b.clock + 1)) k1)) f1 (.inl ⟨_, rfl⟩)
  generalize st₂.set (d 1) (.sdict (dput ("clock" : Str) (.int (b.clock + 1)) k1)) = st₃ at R₃ RB₃ ⊢
  -- its turn
  (first | refine e0a4 (fun k1 f1 f2 f3 => ?_) (RB₃.e 1 RB₃.one) | refine e1a3 (fun k1 f1 f2 f3 => ?_) (RB₃.e 1 RB₃.one) | refine e2a2 (fun k1 f1 f2 f3 => ?_) (RB₃.e 1 RB₃.one) | obtain ⟨k1, f1, f2, f3⟩ := RB₃.e 1 RB₃.one)
  (first | refine e0a4 (fun kv e1 e2 e3 => ?_) (RB₃.e p hmem) | refine e1a3 (fun kv e1 e2 e3 => ?_) (RB₃.e p hmem) | refine e2a2 (fun kv e1 e2 e3 => ?_) (RB₃.e p hmem) | obtain ⟨kv, e1, e2, e3⟩ := RB₃.e p hmem)
  refine ex_assignSub (ev_book rfl rfl (ev_int ⟨1, d, _, k1, _, rfl, RB₃, RB₃.one, f1, (f3 rfl).2, ev_name rfl rfl (ev_str ?_)⟩))
  refine vr_r3 fun vj vv hj hv => ?_
  obtain ⟨l4, RB₄⟩ := RB₃.set_turn hmem e1 (b.clock + 1)
  refine set_S e1 l4 hj hv ?_
  have R₄ := R₃.setO (mo' := .sdict (dput ("turn" : Str) (.int (b.clock + 1)) kv)) e1 (.inl ⟨_, rfl⟩)
  have RB₄ : RepB B d _ { b.upd p { b.e p with turn := b.clock + 1 } with clock := b.clock + 1 } := RB₄.cast rfl
  show Ex w b₀ c' _ _ _ _ (st₃.set (d p) (.sdict (dput ("turn" : Str) (.int (b.clock + 1)) kv))) _
  generalize st₃.set (d p) (.sdict (dput ("turn" : Str) (.int (b.clock + 1)) kv)) = st₄ at R₄ RB₄ ⊢
  have hmem₁ : p ∈ ({ b.upd p { b.e p with turn := b.clock + 1 } with clock := b.clock + 1 } : Bk).ks := hmem
  clear fair hst hmem l3 l4 RB₃ R₃ RB₂ R₂ RB₁ R₁ K₁ e1 e2 e3 f1 f2 f3
  generalize ({ b.upd p { b.e p with turn := b.clock + 1 } with clock := b.clock + 1 } : Bk) = b₁ at *
  have SI := T1.inv.sim
  have hrun := (SI.rr i rfl).2
  have u1 : (a₁.ps i).state ≠ .unused := by rw [hrun]; decide
  have hp1 : p = 1 ↔ i = 0 := ⟨fun e => SI.inj i 0 hlt (by omega) u1 SI.u0 (by rw [hpid, e, SI.p0]), fun e => by subst e; rw [← hpid, SI.p0]⟩
  have hSC : SC A.n a₁ := fun k hk e => ⟨_, SI.chan k hk e⟩
  have hle := SI.le
  have hlast : ∀ k ∈ b₁.ks, k ≤ b₁.last := fun k hk => by
    (first | refine e0a4 (fun j q1 q2 q3 => ?_) (SI.k2 k hk) | refine e1a3 (fun j q1 q2 q3 => ?_) (SI.k2 k hk) | refine e2a2 (fun j q1 q2 q3 => ?_) (SI.k2 k hk) | obtain ⟨j, q1, q2, q3⟩ := SI.k2 k hk)
    have := hle j q1 q2; omega
  have h1last : 1 ≤ b₁.last := by have := hle 0 hn SI.u0; omega
  have ended : ∀ (s : Int) (vs' : Value) (E' : Value → Shared → Prop) (env' : Env) (lm' : LM) (st₅ : Store) (Q' : MV → Store → Prop), VR (.int s) vs' → RepT A a₁ st₅ → RepB B d st₅ b₁ → i ≠ 0 →
      (∀ st', RepT A (a₁.exitF A.n i 0 s) st' → RepB B d st' (b₁.endF p s) → Q' (.bool true) st') → Ev w b₀ c' env' E' (call (.ref 311) [.ref B, .ref A.T, .ref (A.P i), vs']) VR lm' st₅ Q' := fun s vs' E' env' lm' st₅ Q' hv R₅ RB₅ hi0 hq => by
    have X := (inv_exit T1.inv hi0 s).2
    (first | refine e1a6 (fun j q1 q2 q3 q4 q5 q6 => ?_) (SI.par i hlt u1 hi0) | refine e3a4 (fun j q1 q2 q3 q4 q5 q6 => ?_) (SI.par i hlt u1 hi0) | obtain ⟨j, q1, q2, q3, q4, q5, q6⟩ := SI.par i hlt u1 hi0)
    rw [hpid] at q5 q6
    exact ended_ok G hc' hcn R₅ RB₅ hlt SI.f0 hi0 hSC hv hmem₁ (by rw [X.pid i hlt, hpid]) X.statej (by rw [← q5]; exact SI.k1 j q2 q3) (by rw [← q5]; omega) hq
  have endL : ∀ s, i ≠ 0 → LoopI A.n (m - 1) (a₁.exitF A.n i 0 s) (b₁.endF p s) := fun s hi0 => by
    have := turn_ended T1 hi0 s
    rwa [hpid] at this
  (first | refine e0a4 (fun kv e1 e2 e3 => ?_) (RB₄.e p hmem₁) | refine e1a3 (fun kv e1 e2 e3 => ?_) (RB₄.e p hmem₁) | refine e2a2 (fun kv e1 e2 e3 => ?_) (RB₄.e p hmem₁) | obtain ⟨kv, e1, e2, e3⟩ := RB₄.e p hmem₁)
  -- killed
  refine ex_if (Ev.mono (Q := fun x st' => st' = st₄ ∧ x = ((b₁.e p).killed && decide (p ≠ 1))) (tr_and (tr_bool (ev_mine rfl rfl e1 e2.killed (.inl ⟨_, rfl, ?_⟩)))) ?_)
  · by_cases q : (b₁.e p).killed = true
    · (first | refine iteP q ?_ | rw [if_pos q])
      refine tr_and (tr_cmp (ev_attr (ev_name rfl rfl ?_)))
      refine gp_pidU G R₄ hlt (ev_int ?_)
      rw [hpid]
      refine cmp_ne_intU ⟨_, rfl, ?_⟩
      by_cases q' : p = 1
      · rw [if_neg (by simp [q'])]; exact ⟨rfl, by simp [q, q']⟩
      · rw [if_pos (by simpa using q')]; exact tr_and_nil ⟨rfl, by simp [q, q']⟩
    · rw [if_neg q]; exact ⟨rfl, by simp [q]⟩
  intro x st' hx
  obtain rfl : st₄ = st' := hx.1.symm
  obtain rfl := hx.2
  by_cases q : ((b₁.e p).killed && decide (p ≠ 1)) = true
  · (first | refine iteP q ?_ | rw [if_pos q])
    have hi0 : i ≠ 0 := fun e => by have := hp1.mpr e; simp [this] at q
    refine ex_ret (ev_ifexp (tr_bool (ev_call G rfl rfl (by k_is) (by k_is) (ev_args_cons (ev_name rfl rfl (ev_args_cons (ev_name rfl rfl (ev_args_cons (ev_name rfl rfl (ev_args_cons (ev_unary (ev_int ?_))))))))))))
    refine op_negU (ev_args_nil ?_)
    refine all2_rrrv fun v4 h4 => ?_
    refine ended (-1) _ _ _ _ _ _ h4 R₄ RB₄ hi0 fun st' R' RB' => .inl ⟨true, rfl, ?_⟩
    (first | refine iteP rfl ?_ | rw [if_pos rfl])
    exact ev_bool (hq1 _ _ _ _ R' RB' (endL _ hi0))
  (first | refine iteN q ?_ | rw [if_neg q])
  refine ex_nil ?_
  clear q
  -- the head of the plan
  have hgood : (b₁.e p).plan = [] ∨ GoodP (b₁.e p).plan := by
    by_cases h0 : i = 0
    · rw [hp1.mpr h0]; exact T1.inv.pl0
    · have := T1.inv.pl i hlt u1 h0 (by rw [hrun]; decide)
      rw [hpid] at this; exact .inr this
  have hlen : (b₁.e p).plan.length ≤ 300 := by
    have h1 := plan_len T1.inv
    rw [hpid] at h1
    have := T1.hbit
    omega
  (first | refine e0a5 (fun pl g1 vs g3 g4 => ?_) (e2.plan) | refine e1a4 (fun pl g1 vs g3 g4 => ?_) (e2.plan) | refine e2a3 (fun pl g1 vs g3 g4 => ?_) (e2.plan) | refine e3a2 (fun pl g1 vs g3 g4 => ?_) (e2.plan) | obtain ⟨pl, g1, vs, g3, g4⟩ := e2.plan)
  generalize hds : (b₁.e p).plan = ds at *
  refine ex_assign2 hcn (Ev.mono (Q := fun v st' => ∃ t x y, v = .ref t ∧ st' t = some (.tuple [x, y]) ∧ Ext st₄ st' ∧ Head st' ds x y) (ev_ifexp (tr_cmp (ev_mine rfl rfl e1 g1 (ev_list (ev_args_nil ⟨by simp, fun l₂ hl₂ => ?_⟩))))) ?_)
  · intro va vb ha hb
    have X := Ext.new (mo := .list []) hl₂
    refine cmp_ne_nil hc' ha hb (X _ _ g3) (Store.set_self _ _ _) ⟨_, rfl, ?_⟩
    cases g4 with
    | nil =>
      (first | refine iteN (by decide) ?_ | rw [if_neg (by decide)])
      exact ev_tuple (ev_args_cons (ev_str (ev_args_cons (ev_none (ev_args_nil ⟨by simp [sizeLine_eq], fun t ht => ⟨t, _, _, rfl, Store.set_self _ _ _, X.trans (Ext.new ht), .nil⟩⟩)))))
    | cons hx hxs =>
      (first | refine iteP (by rfl) ?_ | rw [if_pos (by rfl)])
      obtain ⟨t, x, y, rfl, ht, hh'⟩ := hx.head
      exact ev_subList (ev_mine rfl rfl (X _ _ e1) g1 (ev_int ⟨pl, _, 0, _, rfl, rfl, X _ _ g3, by decide, by decide, rfl, t, x, y, rfl, X _ _ ht, X, hh'.mono X.lt⟩))
  rintro v st₅ ⟨t, x, y, rfl, ht, X₅, hd⟩
  refine ⟨t, x, y, rfl, ht, fun va vb ha hb => as_cons (as_name hc' he'.symm ha (as_cons (as_name hc' he'.symm hb (as_nil ?_))))⟩
  have R₅ := R₄.ext X₅
  have RB₅ := RB₄.ext X₅
  clear e1 e2 e3 g1 g3 g4 R₄ RB₄ X₅ ht
  -- right, is_done
  refine ex_assign2 hcn (ev_tuple (ev_args_cons (ev_bool (ev_args_cons (ev_bool (ev_args_nil ⟨by simp [sizeLine_eq], fun t₆ ht₆ => ⟨t₆, _, _, rfl, Store.set_self _ _ _, ?_⟩⟩))))))
  intro va vb ha hb
  refine as_cons (as_name hc' he'.symm ha (as_cons (as_name hc' he'.symm hb (as_nil ?_))))
  have X₆ := Ext.new (mo := .tuple [.bool true, .bool true]) ht₆
  have R₆ := R₅.ext X₆
  have RB₆ := RB₅.ext X₆
  have hd := hd.mono X₆.lt
  clear R₅ RB₅
  show Ex w b₀ c' _ _ _ _ (st₅.set t₆ (.tuple [.bool true, .bool true])) _
  generalize st₅.set t₆ (.tuple [.bool true, .bool true]) = st₆ at R₆ RB₆ hd ⊢
  clear X₆ ht₆ ha hb
  -- the deed
  refine ex_cons (Ex.mono (Q := DQ A B d i p ds a₁ b₁ Q) ?_ ?_)
  · have hk1 : ∀ k, k ∈ a₁.kids A.n i → b₁.kid p (a₁.ps k).pid ∧ (a₁.ps k).pid ≠ 1 ∧ ((a₁.ps k).state = .zombie → (b₁.e (a₁.ps k).pid).state = .over ∧ (b₁.e (a₁.ps k).pid).status = some (a₁.ps k).status) := fun k hk => by
      (first | refine e0a3 (fun hk uk pk => ?_) (mem_kids.mp hk) | refine e1a2 (fun hk uk pk => ?_) (mem_kids.mp hk) | refine e2a1 (fun hk uk pk => ?_) (mem_kids.mp hk) | obtain ⟨hk, uk, pk⟩ := mem_kids.mp hk)
      refine ⟨⟨SI.k1 k hk uk, by rw [(SI.kid hk hlt uk u1).mp pk, hpid]⟩, fun e => ?_, fun hz => ⟨by rw [SI.st k hk uk, bs_over]; exact hz, SI.status k hk hz⟩⟩
      have : k = 0 := SI.inj k 0 hk hn uk SI.u0 (by rw [e, SI.p0])
      subst this; rw [SI.par0] at pk; cases pk
    have hk2 : ∀ k, b₁.kid p k → ∃ j, j ∈ a₁.kids A.n i ∧ (a₁.ps j).pid = k ∧ ((b₁.e k).state = .over → (a₁.ps j).state = .zombie) := fun k hk => by
      (first | refine e0a4 (fun j h1 h2 h3 => ?_) (SI.k2 k hk.1) | refine e1a3 (fun j h1 h2 h3 => ?_) (SI.k2 k hk.1) | refine e2a2 (fun j h1 h2 h3 => ?_) (SI.k2 k hk.1) | obtain ⟨j, h1, h2, h3⟩ := SI.k2 k hk.1)
      subst h3
      exact ⟨j, mem_kids.mpr ⟨h1, h2, (SI.kid h1 hlt h2 u1).mpr (by rw [hk.2, hpid])⟩, rfl, fun e => by rw [SI.st j h1 h2, bs_over] at e; exact e⟩
    have hkd : (b₁.e p).killed = (a₁.ps i).killed := by have := SI.kd i hlt u1; rwa [hpid] at this
    have waited : ∀ (E' : Value → Shared → Prop) (env' : Env) (lm' : LM) (Q' : MV → Store → Prop),
        (∀ k, k < A.n → (a₁.ps k).state = .zombie → ∀ st', RepT A (a₁.set k {}) st' → RepB B d st' (b₁.delF (a₁.ps k).pid) → Q' (.bool true) st') →
        ((∃ k, k < A.n ∧ (a₁.ps k).state ≠ .unused ∧ (a₁.ps k).parent = some i) → (∀ k, k < A.n → (a₁.ps k).state ≠ .unused → (a₁.ps k).parent = some i → (a₁.ps k).state ≠ .zombie) → ∀ st', RepT A (a₁.sleepF i p) st' → RepB B d st' (b₁.upd p { b₁.e p with state := .asleep }) → Q' (.bool false) st') →
        ((∀ k, k < A.n → (a₁.ps k).state ≠ .unused → (a₁.ps k).parent = some i → (a₁.ps k).state ≠ .zombie) → ∀ st', RepT A a₁ st' → RepB B d st' b₁ → Q' (.bool true) st') →
        Ev w b₀ c' env' E' (call (.ref 316) [.ref B, .ref A.T, .ref (A.P i)]) VR lm' st₆ Q' := fun E' env' lm' Q' h1 h2 h3 => by
      refine waited_ok G hc' hcn R₆ RB₆ hlt hmem₁ hpid hk1 hk2 hkd (fun k hk hz st' R' RB' => h1 k (mem_kids.mp hk).1 hz st' R' RB') (fun hno hne hkl st' R' RB' => h2 ?_ (fun k hk uk pk => hno k (mem_kids.mpr ⟨hk, uk, pk⟩)) st' R' RB') fun hno hor st' R' RB' => h3 (fun k hk uk pk => hno k (mem_kids.mpr ⟨hk, uk, pk⟩)) st' R' RB'
      obtain ⟨k, hk⟩ := List.exists_mem_of_ne_nil _ hne
      exact ⟨k, mem_kids.mp hk⟩
    cases hd with
    | nil =>
      refine ex_if1 (tr_cmp (ev_name rfl rfl (ev_str ?_)))
      refine cmp_eq_strU ⟨_, rfl, ?_⟩
      (first | refine iteN (by decide) ?_ | rw [if_neg (by decide)])
      refine ex_if (tr_cmp (ev_name rfl rfl (ev_str ?_)))
      refine cmp_eq_strU ⟨_, rfl, ?_⟩
      (first | refine iteN (by decide) ?_ | rw [if_neg (by decide)])
      refine ex_if (tr_cmp (ev_name rfl rfl (ev_str ?_)))
      refine cmp_eq_strU ⟨_, rfl, ?_⟩
      (first | refine iteP (by decide) ?_ | rw [if_pos (by decide)])
      refine ex_assign hc' he'.symm (ev_call G rfl rfl (by k_is) (by k_is) (ev_args_cons (ev_name rfl rfl (ev_args_cons (ev_name rfl rfl (ev_args_cons (ev_name rfl rfl (ev_args_nil ?_))))))))
      refine all2_rrr ?_
      refine waited _ _ _ _ (fun k hk hz st₇ R₇ RB₇ => ?_) (fun hkk hno st₇ R₇ RB₇ => ?_) (fun hno st₇ R₇ RB₇ => ?_)
      · refine ex_assign hc' he'.symm (ev_cmp (ev_name rfl rfl (ev_none ?_)))
        refine cmp_isnot_noneU (ex_nil (ex_nil (ex_nil ?_)))
        exact DQ.mk rfl rfl rfl rfl rfl true rfl (.mid (.told0 hk hz) R₇ RB₇ rfl)
      · refine ex_assign hc' he'.symm (ev_cmp (ev_name rfl rfl (ev_none ?_)))
        refine cmp_isnot_noneU (ex_nil (ex_nil (ex_nil ?_)))
        exact DQ.mk rfl rfl rfl rfl rfl false rfl (.slept hkk hno R₇ RB₇)
      · refine ex_assign hc' he'.symm (ev_cmp (ev_name rfl rfl (ev_none ?_)))
        refine cmp_isnot_noneU (ex_nil (ex_nil (ex_nil ?_)))
        exact DQ.mk rfl rfl rfl rfl rfl true rfl (.mid (.ref0 hno) R₇ RB₇ rfl)
    | turn =>
      refine ex_if1 (tr_cmp (ev_name rfl rfl (ev_str ?_)))
      refine cmp_eq_strU ⟨_, rfl, ?_⟩
      (first | refine iteN (by decide) ?_ | rw [if_neg (by decide)])
      refine ex_if (tr_cmp (ev_name rfl rfl (ev_str ?_)))
      refine cmp_eq_strU ⟨_, rfl, ?_⟩
      (first | refine iteN (by decide) ?_ | rw [if_neg (by decide)])
      refine ex_if (tr_cmp (ev_name rfl rfl (ev_str ?_)))
      refine cmp_eq_strU ⟨_, rfl, ?_⟩
      (first | refine iteN (by decide) ?_ | rw [if_neg (by decide)])
      refine ex_if (tr_and (tr_cmp (ev_name rfl rfl (ev_str ?_))))
      refine cmp_eq_strU ⟨_, rfl, ?_⟩
      (first | refine iteN (by decide) ?_ | rw [if_neg (by decide)]); (first | refine iteN (by decide) ?_ | rw [if_neg (by decide)])
      exact ex_nil (ex_nil (ex_nil (ex_nil (DQ.mk rfl rfl rfl rfl rfl true rfl (.mid .turn R₆ RB₆ rfl)))))
    | wait =>
      refine ex_if1 (tr_cmp (ev_name rfl rfl (ev_str ?_)))
      refine cmp_eq_strU ⟨_, rfl, ?_⟩
      (first | refine iteN (by decide) ?_ | rw [if_neg (by decide)])
      refine ex_if (tr_cmp (ev_name rfl rfl (ev_str ?_)))
      refine cmp_eq_strU ⟨_, rfl, ?_⟩
      (first | refine iteN (by decide) ?_ | rw [if_neg (by decide)])
      refine ex_if (tr_cmp (ev_name rfl rfl (ev_str ?_)))
      refine cmp_eq_strU ⟨_, rfl, ?_⟩
      (first | refine iteP (by decide) ?_ | rw [if_pos (by decide)])
      refine ex_assign hc' he'.symm (ev_call G rfl rfl (by k_is) (by k_is) (ev_args_cons (ev_name rfl rfl (ev_args_cons (ev_name rfl rfl (ev_args_cons (ev_name rfl rfl (ev_args_nil ?_))))))))
      refine all2_rrr ?_
      refine waited _ _ _ _ (fun k hk hz st₇ R₇ RB₇ => ?_) (fun hkk hno st₇ R₇ RB₇ => ?_) (fun hno st₇ R₇ RB₇ => ?_)
      · refine ex_assign hc' he'.symm (ev_cmp (ev_name rfl rfl (ev_none ?_)))
        refine cmp_isnot_noneU (ex_nil (ex_nil (ex_nil ?_)))
        exact DQ.mk rfl rfl rfl rfl rfl true rfl (.mid (.told hk hz) R₇ RB₇ rfl)
      · refine ex_assign hc' he'.symm (ev_cmp (ev_name rfl rfl (ev_none ?_)))
        refine cmp_isnot_noneU (ex_nil (ex_nil (ex_nil ?_)))
        exact DQ.mk rfl rfl rfl rfl rfl false rfl (.slept hkk hno R₇ RB₇)
      · refine ex_assign hc' he'.symm (ev_cmp (ev_name rfl rfl (ev_none ?_)))
        refine cmp_isnot_noneU (ex_nil (ex_nil (ex_nil ?_)))
        exact DQ.mk rfl rfl rfl rfl rfl true rfl (.mid .ref R₇ RB₇ rfl)
    | @kill z _ =>
      refine ex_if1 (tr_cmp (ev_name rfl rfl (ev_str ?_)))
      refine cmp_eq_strU ⟨_, rfl, ?_⟩
      (first | refine iteN (by decide) ?_ | rw [if_neg (by decide)])
      refine ex_if (tr_cmp (ev_name rfl rfl (ev_str ?_)))
      refine cmp_eq_strU ⟨_, rfl, ?_⟩
      (first | refine iteP (by decide) ?_ | rw [if_pos (by decide)])
      have hz : 0 ≤ z ∧ z < 9 := by
        rcases hgood with h | h
        · cases h
        · cases h; exact ⟨by assumption, by assumption⟩
      refine ex_assign hc' he'.symm (ev_call G rfl rfl (by k_is) (by k_is) (ev_args_cons (ev_name rfl rfl (ev_args_cons (ev_name rfl rfl (ev_args_cons (ev_name rfl rfl (ev_args_nil ?_))))))))
      refine all2_rrv fun v3 h3 => ?_
      refine killed_ok G hc' hcn R₆ RB₆ h3 hz.1 hz.2 SI.k1 SI.k2 (fun k hk uk ek st₇ R₇ RB₇ LL => ?_) (fun hno R₇ RB₇ => ?_)
      · exact ex_nil (ex_nil (DQ.mk rfl rfl rfl rfl rfl true rfl (.mid (.kill hk uk ek) R₇ RB₇ rfl)))
      · exact ex_nil (ex_nil (DQ.mk rfl rfl rfl rfl rfl true rfl (.mid .killN R₇ RB₇ rfl)))
    | @exit z _ =>
      refine ex_if1 (tr_cmp (ev_name rfl rfl (ev_str ?_)))
      refine cmp_eq_strU ⟨_, rfl, ?_⟩
      (first | refine iteN (by decide) ?_ | rw [if_neg (by decide)])
      refine ex_if (tr_cmp (ev_name rfl rfl (ev_str ?_)))
      refine cmp_eq_strU ⟨_, rfl, ?_⟩
      (first | refine iteN (by decide) ?_ | rw [if_neg (by decide)])
      refine ex_if (tr_cmp (ev_name rfl rfl (ev_str ?_)))
      refine cmp_eq_strU ⟨_, rfl, ?_⟩
      (first | refine iteN (by decide) ?_ | rw [if_neg (by decide)])
      refine ex_if (Ev.mono (Q := fun x st' => st' = st₆ ∧ x = decide (p ≠ 1)) (tr_and (tr_cmp (ev_name rfl rfl (ev_str ?_)))) ?_)
      · refine cmp_eq_strU ⟨_, rfl, ?_⟩
        (first | refine iteP (by decide) ?_ | rw [if_pos (by decide)])
        refine tr_and (tr_cmp (ev_attr (ev_name rfl rfl ?_)))
        refine gp_pidU G R₆ hlt (ev_int ?_)
        rw [hpid]
        refine cmp_ne_intU ⟨_, rfl, ?_⟩
        by_cases q' : p = 1
        · rw [if_neg (by simp [q'])]; exact ⟨rfl, by simp [q']⟩
        · rw [if_pos (by simpa using q')]; exact tr_and_nil ⟨rfl, by simp [q']⟩
      intro x st' hx
      obtain rfl : st₆ = st' := hx.1.symm
      obtain rfl := hx.2
      by_cases q : p = 1
      · (first | refine iteN (by simp [q]) ?_ | rw [if_neg (by simp [q])])
        exact ex_nil (ex_nil (ex_nil (ex_nil (DQ.mk rfl rfl rfl rfl rfl true rfl (.mid (.exit0 (hp1.mp q)) R₆ RB₆ rfl)))))
      · (first | refine iteP (by simpa using q) ?_ | rw [if_pos (by simpa using q)])
        have hi0 : i ≠ 0 := fun e => q (hp1.mpr e)
        refine ex_ret (ev_ifexp (tr_bool (ev_call G rfl rfl (by k_is) (by k_is) (ev_args_cons (ev_name rfl rfl (ev_args_cons (ev_name rfl rfl (ev_args_cons (ev_name rfl rfl (ev_args_cons (ev_name rfl rfl (ev_args_nil ?_))))))))))))
        refine all2_rrrv fun v4 h4 => ?_
        refine ended z _ _ _ _ _ _ h4 R₆ RB₆ hi0 fun st' R' RB' => .inl ⟨true, rfl, ?_⟩
        (first | refine iteP rfl ?_ | rw [if_pos rfl])
        exact ev_bool (Or.inr ⟨_, rfl, hq1 _ _ _ _ R' RB' (endL _ hi0)⟩)
    | @fork l ps _ hpl =>
      refine ex_if1 (tr_cmp (ev_name rfl rfl (ev_str ?_)))
      refine cmp_eq_strU ⟨_, rfl, ?_⟩
      (first | refine iteP (by decide) ?_ | rw [if_pos (by decide)])
      refine ex_assign hc' he'.symm (ev_call G rfl rfl (by k_is) (by k_is) (ev_args_cons (ev_name rfl rfl (ev_args_cons (ev_name rfl rfl (ev_args_cons (ev_name rfl rfl (ev_args_cons (ev_name rfl rfl (ev_args_cons (ev_name rfl rfl (ev_args_nil ?_))))))))))))
      refine all2_rrrrv fun v5 h5 => ?_
      refine forked_ok G hc' hcn R₆ RB₆ hlt u1 hpl h5 SI.next hlast h1last SI.full (fun k hk uk => SI.room hk uk) (by have := SI.le8; omega) (fun k hk uk hno st₇ d' hd' R₇ RB₇ LL => ?_) (fun hno R₇ RB₇ => ?_)
      · exact ex_nil (DQ.mk rfl rfl rfl rfl rfl true rfl (.mid (.fork hk uk) R₇ RB₇ (hd' p hmem₁)))
      · exact ex_nil (DQ.mk rfl rfl rfl rfl rfl true rfl (.mid .forkN R₇ RB₇ rfl))
  · refine DQ.elim (fun lm' st₇ l1 l2 l3 l4 l5 x lx aft => ?_) fun v lm' st₇ q => q
    show Ex w b₀ c' _ _ _ _ _ _
    refine ex_if (tr_not (tr_bool (ev_name rfl l5 (.inl ⟨true, rfl, ?_⟩))))
    (first | refine iteN (by decide) ?_ | rw [if_neg (by decide)])
    refine ex_nil ?_
    cases aft with
    | @mid a' b' d' M R₇ RB₇ hd7 =>
      rw [← hd7] at l4
      clear hd7 R₆ RB₆
      (first | refine e0a5 (fun S7 hp7 hpl7 done1 done2 => ?_) (turn_mid T1 hpid hds M rfl) | refine e1a4 (fun S7 hp7 hpl7 done1 done2 => ?_) (turn_mid T1 hpid hds M rfl) | refine e2a3 (fun S7 hp7 hpl7 done1 done2 => ?_) (turn_mid T1 hpid hds M rfl) | refine e3a2 (fun S7 hp7 hpl7 done1 done2 => ?_) (turn_mid T1 hpid hds M rfl) | obtain ⟨S7, hp7, hpl7, done1, done2⟩ := turn_mid T1 hpid hds M rfl)
      have hrun7 := (S7.rr i rfl).2
      have hm7 : p ∈ b'.ks := hp7 ▸ S7.k1 i hlt (by rw [hrun7]; decide)
      refine ex_if (tr_bool (ev_name rfl lx (.inl ⟨true, rfl, ?_⟩)))
      (first | refine iteP rfl ?_ | rw [if_pos rfl])
      (first | refine e0a4 (fun kv e1 e2 e3 => ?_) (RB₇.e p hm7) | refine e1a3 (fun kv e1 e2 e3 => ?_) (RB₇.e p hm7) | refine e2a2 (fun kv e1 e2 e3 => ?_) (RB₇.e p hm7) | obtain ⟨kv, e1, e2, e3⟩ := RB₇.e p hm7)
      (first | refine e0a5 (fun pl g1 vs g3 g4 => ?_) (e2.plan) | refine e1a4 (fun pl g1 vs g3 g4 => ?_) (e2.plan) | refine e2a3 (fun pl g1 vs g3 g4 => ?_) (e2.plan) | refine e3a2 (fun pl g1 vs g3 g4 => ?_) (e2.plan) | obtain ⟨pl, g1, vs, g3, g4⟩ := e2.plan)
      rw [hpl7] at g4
      refine ex_assignSub (ev_restE (ev_mine rfl l4 e1 g1 (ev_int ⟨pl, vs, rfl, g3, by rw [sizeLine_eq, g4.length]; omega, 1, rfl, fun D hD => ev_name rfl l4 (ev_str ?_)⟩)))
      refine vr_r3 fun vj vv hj hv => ?_
      have X₈ := Ext.new (mo := .list (vs.drop 1)) hD
      have R₈ := R₇.ext X₈
      have RB₈ := RB₇.ext X₈
      have pl8 : PlanAt (st₇.set D (.list (vs.drop 1))) D ds.tail := ⟨_, Store.set_self _ _ _, g4.tail.mono X₈.lt⟩
      have e8 := X₈ _ _ e1
      generalize st₇.set D (.list (vs.drop 1)) = st₈ at R₈ RB₈ pl8 e8 ⊢
      clear X₈ g4 g3 g1 e1 e2 e3 R₇ RB₇
      obtain ⟨l9, RB₉⟩ := RB₈.set_plan hm7 e8 pl8
      refine set_S e8 l9 hj hv ?_
      have R₉ := R₈.setO (mo' := .sdict (dput ("plan" : Str) (.ref D) kv)) e8 (.inl ⟨_, rfl⟩)
      generalize st₈.set (d' p) (.sdict (dput ("plan" : Str) (.ref D) kv)) = st₉ at R₉ RB₉ ⊢
      clear e8 pl8 R₈ RB₈
      refine ex_nil ?_
      refine ex_if (tr_cmp (ev_attr (ev_name rfl l3 ?_)))
      refine gp_stateU G R₉ hlt (ev_str ?_)
      refine cmp_eq_strU ⟨_, rfl, ?_⟩
      rw [hrun7]; (first | refine iteP (by decide) ?_ | rw [if_pos (by decide)])
      refine ex_expr (ev_meth G (ev_name rfl l2 ⟨A.T, 274, A.TD, _, 186, rfl, R₉.t, R₉.td, nT_ready _, mT_ready, ev_args_cons (ev_name rfl l3 (ev_args_nil ?_))⟩))
      refine all2_r1 ?_
      refine ready_ok' G hc' R₉ hlt fun st₁₀ R₁₀ K₁₀ => ?_
      have RB₁₀ := RB₉.keep R₉ K₁₀
      (first | refine e0a4 (fun k1 f1 f2 f3 => ?_) (RB₁₀.e 1 RB₁₀.one) | refine e1a3 (fun k1 f1 f2 f3 => ?_) (RB₁₀.e 1 RB₁₀.one) | refine e2a2 (fun k1 f1 f2 f3 => ?_) (RB₁₀.e 1 RB₁₀.one) | obtain ⟨k1, f1, f2, f3⟩ := RB₁₀.e 1 RB₁₀.one)
      (first | refine e0a4 (fun kv e1 e2 e3 => ?_) (RB₁₀.e p hm7) | refine e1a3 (fun kv e1 e2 e3 => ?_) (RB₁₀.e p hm7) | refine e2a2 (fun kv e1 e2 e3 => ?_) (RB₁₀.e p hm7) | obtain ⟨kv, e1, e2, e3⟩ := RB₁₀.e p hm7)
      refine ex_assignSub (ev_book rfl l1 (ev_int ⟨1, d', _, k1, _, rfl, RB₁₀, RB₁₀.one, f1, (f3 rfl).2, ev_name rfl l4 (ev_str ?_)⟩))
      refine vr_r3 fun vj vv hj hv => ?_
      obtain ⟨l11, RB₁₁⟩ := RB₁₀.set_since hm7 e1 b'.clock
      refine set_S e1 l11 hj hv ?_
      have R₁₁ := R₁₀.setO (mo' := .sdict (dput ("since" : Str) (.int b'.clock) kv)) e1 (.inl ⟨_, rfl⟩)
      have RB₁₁ : RepB B d' _ (b'.upd p { b'.e p with plan := ds.tail, since := b'.clock }) := RB₁₁.congr rfl rfl rfl fun k _ => by
        by_cases q : k = p
        · subst q; rw [Bk.upd_self, Bk.upd_self, Bk.upd_self]
        · rw [Bk.upd_ne _ _ q, Bk.upd_ne _ _ q, Bk.upd_ne _ _ q]
      show Ex w b₀ c' _ _ _ _ (st₁₀.set (d' p) (.sdict (dput ("since" : Str) (.int b'.clock) kv))) _
      generalize st₁₀.set (d' p) (.sdict (dput ("since" : Str) (.int b'.clock) kv)) = st₁₁ at R₁₁ RB₁₁ ⊢
      clear R₁₀ RB₁₀ R₉ RB₉ f1 f2 f3 e1 e2 e3 K₁₀
      have hpf : ((a'.readyF i).ps i).pid = p := by rw [readyF_ps, if_pos rfl]; exact hp7
      have hplan : ((b'.upd p { b'.e p with plan := ds.tail, since := b'.clock }).e p).plan = ds.tail := by rw [Bk.upd_self]
      have hks : (b'.upd p { b'.e p with plan := ds.tail, since := b'.clock }).ks = b'.ks := rfl
      have hlen8 := S7.le8
      generalize b'.upd p { b'.e p with plan := ds.tail, since := b'.clock } = b'' at *
      generalize a'.readyF i = a'' at *
      refine ex_nil ?_
      obtain ⟨kv, e1, e2, e3⟩ := RB₁₁.e p (by rw [hks]; exact hm7)
      (first | refine e0a5 (fun pl g1 vs g3 g4 => ?_) (e2.plan) | refine e1a4 (fun pl g1 vs g3 g4 => ?_) (e2.plan) | refine e2a3 (fun pl g1 vs g3 g4 => ?_) (e2.plan) | refine e3a2 (fun pl g1 vs g3 g4 => ?_) (e2.plan) | obtain ⟨pl, g1, vs, g3, g4⟩ := e2.plan)
      rw [hplan] at g4
      refine ex_ret (ev_and (ev_cmp (ev_mine rfl l4 e1 g1 (ev_list (ev_args_nil ⟨by simp, fun l hl => ?_⟩)))))
      have X := Ext.new (mo := .list []) hl
      have RX := R₁₁.ext X
      have RBX := RB₁₁.ext X
      refine cmp_eq_nilU hc' (X _ _ g3) (Store.set_self _ _ _) ⟨_, rfl, ?_⟩
      rw [g4.empty]
      clear X g4 g3 hl ha hb
      generalize st₁₁.set l (.list []) = stX at RX RBX ⊢
      by_cases t1 : ds.tail = []
      · (first | refine iteP (by simpa using t1) ?_ | rw [if_pos (by simpa using t1)])
        refine ev_and (ev_cmp (ev_attr (ev_name rfl l3 ?_)))
        refine gp_pidU G RX hlt (ev_int ?_)
        rw [hpf]
        refine cmp_eq_intU ⟨_, rfl, ?_⟩
        by_cases t2 : p = 1
        · (first | refine iteP (by simpa using t2) ?_ | rw [if_pos (by simpa using t2)])
          refine ev_and1 (ev_cmp (ev_bcall G hc' he'.symm (by k_is) boot_len (by decide) (ev_args_cons (ev_name rfl l1 (ev_args_nil ?_)))))
          refine all2_r1 ?_
          refine call_lenI RBX.bk (by rw [sizeLine_eq, List.length_map, hks]; omega) (ev_int ?_)
          refine cmp_eq_intU ?_
          rw [List.length_map, hks]
          by_cases t3 : b'.ks.length = 1
          · rw [show (((b'.ks.length : Nat) : Int) == 1) = true by simp [t3]]
            exact hq2 _ _ _ _ RX RBX (done1 ⟨t3, t2, t1⟩) (by rw [hks]; exact t3)
          · rw [show (((b'.ks.length : Nat) : Int) == 1) = false by simp; omega]
            exact hq1 _ _ _ _ RX RBX (done2 fun h => t3 h.1)
        · (first | refine iteN (by simpa using t2) ?_ | rw [if_neg (by simpa using t2)])
          exact hq1 _ _ _ _ RX RBX (done2 fun h => t2 h.2.1)
      · (first | refine iteN (by simpa using t1) ?_ | rw [if_neg (by simpa using t1)])
        exact hq1 _ _ _ _ RX RBX (done2 fun h => t1 h.2.2)
    | slept hkk hno R₇ RB₇ =>
      have hno1 := turn_slept T1 hkk hno
      rw [hpid] at hno1
      obtain ⟨LS, hlen1⟩ := hno1
      have hsl : ((a₁.sleepF i p).ps i).state = .sleeping := by simp [AT.sleepF, AT.set]
      have hpf : ((a₁.sleepF i p).ps i).pid = p := by simp [AT.sleepF, AT.set, hpid]
      have hm7 : p ∈ b₁.ks := hmem₁
      refine ex_if (tr_bool (ev_name rfl lx (.inl ⟨false, rfl, ?_⟩)))
      (first | refine iteN (by decide) ?_ | rw [if_neg (by decide)])
      refine ex_nil ?_
      refine ex_if (tr_cmp (ev_attr (ev_name rfl l3 ?_)))
      refine gp_stateU G R₇ hlt (ev_str ?_)
      refine cmp_eq_strU ⟨_, rfl, ?_⟩
      rw [hsl]; (first | refine iteN (by decide) ?_ | rw [if_neg (by decide)])
      have hplan : ((b₁.upd p { b₁.e p with state := .asleep }).e p).plan = ds := by rw [Bk.upd_self]; exact hds
      have hks : (b₁.upd p { b₁.e p with state := .asleep }).ks = b₁.ks := rfl
      have hlen8 := SI.le8
      generalize b₁.upd p { b₁.e p with state := .asleep } = b'' at *
      generalize a₁.sleepF i p = a'' at *
      refine ex_nil ?_
      obtain ⟨kv, e1, e2, e3⟩ := RB₇.e p (by rw [hks]; exact hm7)
      (first | refine e0a5 (fun pl g1 vs g3 g4 => ?_) (e2.plan) | refine e1a4 (fun pl g1 vs g3 g4 => ?_) (e2.plan) | refine e2a3 (fun pl g1 vs g3 g4 => ?_) (e2.plan) | refine e3a2 (fun pl g1 vs g3 g4 => ?_) (e2.plan) | obtain ⟨pl, g1, vs, g3, g4⟩ := e2.plan)
      rw [hplan] at g4
      refine ex_ret (ev_and (ev_cmp (ev_mine rfl l4 e1 g1 (ev_list (ev_args_nil ⟨by simp, fun l hl => ?_⟩)))))
      have X := Ext.new (mo := .list []) hl
      have RX := R₇.ext X
      have RBX := RB₇.ext X
      refine cmp_eq_nilU hc' (X _ _ g3) (Store.set_self _ _ _) ⟨_, rfl, ?_⟩
      rw [g4.empty]
      clear X g4 g3 hl ha hb
      generalize st₇.set l (.list []) = stX at RX RBX ⊢
      by_cases t1 : ds = []
      · (first | refine iteP (by simpa using t1) ?_ | rw [if_pos (by simpa using t1)])
        refine ev_and (ev_cmp (ev_attr (ev_name rfl l3 ?_)))
        refine gp_pidU G RX hlt (ev_int ?_)
        rw [hpf]
        refine cmp_eq_intU ⟨_, rfl, ?_⟩
        by_cases t2 : p = 1
        · (first | refine iteP (by simpa using t2) ?_ | rw [if_pos (by simpa using t2)])
          refine ev_and1 (ev_cmp (ev_bcall G hc' he'.symm (by k_is) boot_len (by decide) (ev_args_cons (ev_name rfl l1 (ev_args_nil ?_)))))
          refine all2_r1 ?_
          refine call_lenI RBX.bk (by rw [sizeLine_eq, List.length_map, hks]; omega) (ev_int ?_)
          refine cmp_eq_intU ?_
          rw [List.length_map, hks]
          rw [show (((b₁.ks.length : Nat) : Int) == 1) = false by simp; omega]
          exact hq1 _ _ _ _ RX RBX LS
        · (first | refine iteN (by simpa using t2) ?_ | rw [if_neg (by simpa using t2)])
          exact hq1 _ _ _ _ RX RBX LS
      · (first | refine iteN (by simpa using t1) ?_ | rw [if_neg (by simpa using t1)])
        exact hq1 _ _ _ _ RX RBX LS
end
end PartZ1
section PartZ2
open PySem PySem.W PyProof.Rows PySem.Spec PySem.Calls

/-- the table and the book where the turns begin -/
def startT (n : Nat) : AT := (AT.newF ⟨fun _ => {}, 1, n - 1, none, none⟩ 0).readyF 0
def startB (ds : List Deed) : Bk := ⟨[1], fun _ => ⟨0, ds, .ready, 0, 0, none, false⟩, 1, 0⟩
theorem start_ps (n k : Nat) : (startT n).ps k = if k = 0 then { pid := 1, state := .ready } else {} := by
  unfold startT
  rw [readyF_ps]
  by_cases q : k = 0 <;> simp [q, AT.newF, AT.set]
theorem sum_zero (n : Nat) : sumN n (fun _ => 0) = 0 := by
  induction n with
  | zero => rfl
  | succ n ih => simp only [sumN, ih]; rfl
theorem start_loop {n : Nat} (h3 : 3 ≤ n) (h8 : n ≤ 8) {ds : List Deed} (hg : GoodP ds) (hw : wF ds ≤ 205) : LoopI n 206 (startT n) (startB ds) := by
  have hps := start_ps n
  have e1 : (startT n).last = n - 1 := rfl
  have e2 : (startT n).run = none := rfl
  have e3 : (startT n).first = some 0 := rfl
  have e4 : (startT n).next = 2 := rfl
  generalize startT n = a at *
  have hu : ∀ k, (a.ps k).state ≠ .unused → k = 0 := fun k h => Classical.byContradiction fun q => h (by rw [hps, if_neg q])
  have h0 : a.ps 0 = { pid := 1, state := .ready } := by rw [hps, if_pos rfl]
  have hst : ∀ k, (a.ps k).state = .ready ∨ (a.ps k).state = .unused := fun k => by
    rw [hps]; by_cases q : k = 0
    · rw [if_pos q]; exact .inl rfl
    · rw [if_neg q]; exact .inr rfl
  refine .one ⟨⟨h3, h8, by omega, e2, (fun i e => by cases e), fun i hi => ?_, fun i hi ui => ?_, fun k hk => ?_, fun i j hi hj ui uj e => by rw [hu i ui, hu j uj], ?_, e3, by rw [h0]; decide, by rw [h0], by rw [h0]; decide, by rw [h0], rfl, by rw [e4]; rfl,
    fun i hi ui => ?_, fun i hi ui => ?_, fun i hi ui => ?_, fun i hi z => ?_, fun i hi ui h => absurd (hu i ui) h, fun i hi z => ?_, fun i hi z => ?_, fun i hi z => ?_, fun i hi z => ?_⟩, ⟨Int.le_refl _, fun i hi ui => ?_, fun i q hi hq ui uq h => ?_⟩, fun i hi ui h => absurd (hu i ui) h, .inr hg, ?_⟩
  · rcases hst i with h | h <;> rw [h] <;> exact ⟨by decide, fun h => by cases h⟩
  · rw [hu i ui, h0]; simp [startB]
  · simp [startB] at hk
    subst hk; exact ⟨0, by omega, by rw [h0]; decide, by rw [h0]⟩
  · simp [startB]
  · rw [hu i ui, h0]; simp [startB]
  · rw [hu i ui, h0]; rfl
  · rw [hu i ui, h0]; rfl
  · rcases hst i with h | h <;> rw [h] at z <;> cases z
  · rcases hst i with h | h <;> rw [h] at z <;> cases z
  · rcases hst i with h | h <;> rw [h] at z <;> cases z
  · rcases hst i with h | h <;> rw [h] at z <;> cases z
  · rw [hps] at z ⊢
    by_cases q : i = 0
    · rw [if_pos q] at z; cases z
    · (first | refine iteN q ?_ | rw [if_neg q])
  · simp [startB]
  · exact absurd ((hu i ui).trans (hu q uq).symm) h
  · have := sum_one (f := fun _ => 0) (f' := phi a (startB ds)) (x := wF ds) (i := 0) (n := n) (by omega) (by unfold phi; rw [h0]; simp [startB]) fun k hk q => by unfold phi; rw [hps, if_neg q]; simp
    rw [sum_zero] at this
    omega

section
variable {w : World} {b₀ : Heap} {mean : ExcName → Option Value} {mg mb : Str → Option Value} {c : Cx} {env : Env} {E : Value → Shared → Prop} {lm : LM} {st : Store} {A : Ad} {a : AT} {i : Nat} {expr : Bool} {v : Value} {B : Addr} {d : Int → Addr} {b : Bk}

theorem EvX.ev {α β : Type} {t : Sem α} {R : β → α → Prop} {Q : β → Store → Prop} {C : Addr} (h : EvX w b₀ c env t R lm st Q C fun _ => False) : Ev w b₀ c env E t R lm st Q :=
  fun s m P I S k => h s m P E I S k fun e B h' tk st' _ _ _ _ q => q.elim
theorem Box.keep {bx b0 : Addr} {st' : Store} (X : Box bx b0 st) (R : RepT A a st) (K : Keep A st st') : Box bx b0 st' := by
  obtain ⟨⟨ns, z, h1, h2, h3⟩, hne⟩ := X
  exact ⟨⟨ns, z, R.kept K h1 (by intro _ e; cases e), R.kept K h2 (by intro _ e; cases e), h3⟩, hne⟩
theorem Box.np {bx b0 : Addr} {st' : Store} (X : Box bx b0 st) (Y : BExt bx b0 st st') {b : Addr} {mo : MO} (e : st b = some mo) (h : ∀ us, mo ≠ .plist us) : st' b = some mo := by
  obtain ⟨⟨ns, z, h1, h2, h3⟩, hne⟩ := X
  refine Y b mo e (fun q => ?_) fun q => ?_
  · rw [q, h1] at e; cases e; exact h _ rfl
  · rw [q, h2] at e; cases e; exact h _ rfl
theorem RepT.np {st' : Store} (R : RepT A a st) (h : ∀ b mo, st b = some mo → (∀ us, mo ≠ .plist us) → st' b = some mo) : RepT A a st' :=
  { R with t := h _ _ R.t (by intro _ e; cases e), td := h _ _ R.td (by intro _ e; cases e), pl := h _ _ R.pl (by intro _ e; cases e), p := fun i hi => h _ _ (R.p i hi) (by intro _ e; cases e),
           d := fun i hi => let ⟨pv, h1, h2⟩ := R.d i hi; ⟨pv, h _ _ h1 (by intro _ e; cases e), h2.mono (fun r vs e => h _ _ e (by intro _ q; cases q)) fun r vs e => h _ _ e (by intro _ q; cases q)⟩ }

/-- the law's own frame -/
def topCx (env : Env) (L : Addr) : Cx := ⟨none, 2 + claimMargin, 7, some [], env, [], L⟩
theorem run_law {L : Addr} {body : List Stmt} {s : Shared} {m : Str → Option Value} {P : Flow → Shared → Prop} (hlo : env.locals = L) (hfr : env.frame = some L) (hk : env.scope.kind = .function) (hg : env.globals = mainGlobals) (hb : env.builtins = builtinsNs)
    (F : Fr b₀ L s.heap m) (big : sysModules < b₀.objs.size) (hlm : ∀ x mv, lm x = some mv → ∃ v, VR mv v ∧ env.kindOf x = some .local ∧ m x = some v)
    (h : ∀ c : Cx, c.OK 12 → env = c.env → c.hd = none → Ex w b₀ c env E (execs body env) lm (fun _ => none) fun f _ _ => f = .ret (.bool true))
    (k : ∀ h' tk m', Fr b₀ L h' m' → P (.ret (.bool true)) { s with heap := h', toks := tk }) : wpAny (model PG w) (callerA.deeper env) (execs body env) P E s := by
  refine h (topCx env L) ⟨hlo, hfr, hk, hg, hb, by show 2 + claimMargin + 4 * 12 + 10 < recursionLimit; decide, by show 7 + 40 * 12 + 200 < cLine; decide⟩ rfl rfl s m P ⟨F, (fun a mo e => by cases e), trivial, (fun e he => by cases he), big⟩ (fun x mv e => ?_) fun f x h' tk m' st' lm' I' T S' hr q => ?_
  · (first | refine e0a4 (fun v h1 h2 h3 => ?_) (hlm x mv e) | refine e1a3 (fun v h1 h2 h3 => ?_) (hlm x mv e) | refine e2a2 (fun v h1 h2 h3 => ?_) (hlm x mv e) | obtain ⟨v, h1, h2, h3⟩ := hlm x mv e)
    exact ⟨v, h1, .inl ⟨h2, hlo, h3⟩⟩
  · subst q
    obtain ⟨v, hv, rfl⟩ := hr
    cases hv
    exact k h' tk m' I'.fr
theorem run_law' {L l : Addr} {vs : List Value} {ns : List Int} {body : List Stmt} {s : Shared} {m : Str → Option Value} {P : Flow → Shared → Prop} (G : Gd w b₀ mean mg mb) (hL : b₀.IsList l vs.toArray) (hI : IntsAre vs ns) (hn : ns.length ≤ 63) (F : Fr b₀ L s.heap m)
    (hlo : env.locals = L) (hfr : env.frame = some L) (hk : env.scope.kind = .function) (hg : env.globals = mainGlobals) (hb : env.builtins = builtinsNs) (hx : env.kindOf "script" = some .local) (hm : m "script" = some (.ref l)) (big : sysModules < b₀.objs.size)
    (k : ∀ h' tk m', Fr b₀ L h' m' → P (.ret (.bool true)) { s with heap := h', toks := tk })
    (h : ∀ c : Cx, c.OK 12 → env = c.env → c.hd = none → Scr b₀ l ns → Gd w b₀ mean mg mb → Ex w b₀ c env E (execs body env) (LM.of [("script", .ref l)]) (fun _ => none) fun f _ _ => f = .ret (.bool true)) :
    wpAny (model PG w) (callerA.deeper env) (execs body env) P E s := by
  (first | refine e0a5 (fun o h1 h2 n h3 => ?_) (hL) | refine e1a4 (fun o h1 h2 n h3 => ?_) (hL) | refine e2a3 (fun o h1 h2 n h3 => ?_) (hL) | refine e3a2 (fun o h1 h2 n h3 => ?_) (hL) | obtain ⟨o, h1, h2, n, h3⟩ := hL); try clear hL
  refine run_law hlo hfr hk hg hb F big (fun x mv e => ?_) (fun c hc he hh => h c hc he hh ⟨_, n, o, h1, h2, h3, by simpa using hI⟩ G) k
  unfold LM.of at e
  split at e
  · rename_i q; subst q; cases e; exact ⟨_, rfl, hx, hm⟩
  · cases e
end
end PartZ2
section PartZ3
open PySem PySem.W PyProof.Rows PySem.Spec PySem.Calls

def FQ (A : Ad) (f : MF) (lm' : LM) (st' : Store) : Prop := f = .next ∧ lm' "table" = some (.ref A.T) ∧ lm' "many" = some (.int (A.n : Nat)) ∧ lm' "first" = some (.ref (A.P 0)) ∧ RepT A (startT A.n) st' ∧ ∃ pl ds, lm' "plan" = some (.ref pl) ∧ PlanAt st' pl ds ∧ GoodP ds ∧ wF ds ≤ 205
def FJ (A : Ad) (B : Addr) (k : Nat) (lm'' : LM) (st'' : Store) : Prop := lm'' "table" = some (.ref A.T) ∧ lm'' "many" = some (.int (A.n : Nat)) ∧ lm'' "first" = some (.ref (A.P 0)) ∧ lm'' "book" = some (.ref B) ∧ ∃ a b d, RepT A a st'' ∧ RepB B d st'' b ∧ LoopI A.n (206 - k) a b
section
variable {w : World} {b₀ : Heap} {mean : ExcName → Option Value} {mg mb : Str → Option Value} {c : Cx} {env : Env} {E : Value → Shared → Prop} {lm : LM} {st : Store} {A : Ad} {a : AT} {i : Nat} {expr : Bool} {v : Value} {B : Addr} {d : Int → Addr} {b : Bk}

theorem law_walk {L fa l : Addr} {cd : Value} {ns : List Int} (G : Gd w b₀ mean mg mb) (hc : c.OK 12) (he : envOf lawR.name lawR.scope L fa cd = c.env) (hh : c.hd = none) (hscr : Scr b₀ l ns) (hn : ns.length ≤ 63) :
    Ex w b₀ c (envOf lawR.name lawR.scope L fa cd) E (execs lawR.body (envOf lawR.name lawR.scope L fa cd)) (LM.of [("script", .ref l)]) st fun f _ _ => f = .ret (.bool true) := by
  -- box
  refine ex_assign hc he (ev_list (ev_args_cons (ev_sliceScr (ev_name rfl rfl (part_some (ev_int ⟨l, rfl, hscr, by omega, 60, rfl, fun D hD => ev_args_cons (ev_int (ev_args_nil ⟨by simp [sizeLine_eq], fun bx hbx => ?_⟩))⟩))))))
  have hne : bx ≠ D := by intro q; rw [q, Store.set_self] at hbx; cases hbx
  have k1 := Store.set_self (st.set D (.list ((ns.take 60).map .int))) bx (.list [.ref D, .int 0])
  have k2 : ((st.set D (.list ((ns.take 60).map .int))).set bx (.list [.ref D, .int 0])) D = some (.list ((ns.take 60).map .int)) := by rw [Store.set_ne _ _ (Ne.symm hne), Store.set_self]
  generalize (st.set D (.list ((ns.take 60).map .int))).set bx (.list [.ref D, .int 0]) = st₁ at k1 k2 ⊢
  refine Ex.recast (mo := .list [.ref D, .int 0]) (mo' := .plist [.ref D, .int 0]) k1 (fun _ h => h) ?_
  refine Ex.recast (mo := .list ((ns.take 60).map .int)) (mo' := .plist ((ns.take 60).map .int)) (by rw [Store.set_ne _ _ (Ne.symm hne)]; exact k2) (fun _ h => h) ?_
  have B₁ : Box bx D ((st₁.set bx (.plist [.ref D, .int 0])).set D (.plist ((ns.take 60).map .int))) := ⟨⟨ns.take 60, 0, by rw [Store.set_ne _ _ hne, Store.set_self], Store.set_self _ _ _, by rw [List.length_take]; omega⟩, hne⟩
  generalize (st₁.set bx (.plist [.ref D, .int 0])).set D (.plist ((ns.take 60).map .int)) = st₂ at B₁ ⊢
  clear k1 k2 hbx
  -- many
  refine ex_assign hc he (ev_binop (ev_int (ev_call G rfl rfl (by k_is) (by k_is) (ev_args_cons (ev_name rfl rfl (ev_args_cons (ev_int (ev_args_nil ?_))))))))
  refine all2_rv fun u hu => ?_
  refine take_ok G hc B₁ hu (by decide) fun r st₃ r0 r6 B₂ X₂ => ?_
  clear B₁ X₂ hu
  refine op_addU ?_
  obtain ⟨n, hn'⟩ : ∃ n : Nat, (3 : Int) + r = n := ⟨(3 + r).toNat, by omega⟩
  rw [hn']
  have h3 : 3 ≤ n := by omega
  have h8 : n ≤ 8 := by omega
  clear r0 r6 hn'
  -- table
  refine ex_assign hc he (ev_call G rfl rfl (by k_is) (by k_is) (ev_args_cons (ev_name rfl rfl (ev_args_nil ?_))))
  refine all2_v1 fun v hv => ?_
  refine table_ok G hc hh hv (by omega) (by omega) fun A st₄ hA R₄ X₄ => ?_
  have B₄ := B₂.bext X₄
  subst hA
  clear B₂ X₄ hv
  -- first
  refine ex_assign hc he (EvX.ev (C := 52) (evX_meth G fun E => ev_name rfl rfl ⟨A.T, 274, A.TD, _, 162, rfl, R₄.t, R₄.td, nT_new _, mT_new, ev_args_cons (ev_str (ev_args_nil ?_))⟩))
  refine all2_v1 fun v hv => ?_
  refine new_ok G hc hh R₄ hv (fun i hi hu hj st₅ R₅ K₅ => ?_) (fun hno => hno 0 (by omega) rfl)
  have hi0 : i = 0 := Classical.byContradiction fun h => hj 0 (by omega) rfl
  subst hi0
  have B₅ := B₄.keep R₄ K₅
  clear hu hj B₄ K₅ hv R₄
  refine ex_expr (ev_meth G (ev_name rfl rfl ⟨A.T, 274, A.TD, _, 186, rfl, R₅.t, R₅.td, nT_ready _, mT_ready, ev_args_cons (ev_name rfl rfl (ev_args_nil ?_))⟩))
  refine all2_r1 ?_
  refine ready_ok' G hc R₅ hi fun st₆ R₆ K₆ => ?_
  have B₆ := B₅.keep R₅ K₆
  have R₆ : RepT A (startT A.n) st₆ := R₆
  clear B₅ R₅ K₆
  -- plan
  refine ex_assign hc he (Ev.mono (Q := fun v st' => ∃ pl ds, v = .ref pl ∧ BExt bx D st₆ st' ∧ PlanAt st' pl ds ∧ (ns.length < 2 ∧ PlanOk 0 ds ∨ ¬ ns.length < 2 ∧ PlanOk 2 ds)) (ev_call G rfl rfl (by k_is) (by k_is) (ev_args_cons (ev_name rfl rfl (ev_args_cons (ev_ifexp (tr_cmp (ev_bcall G hc he (by k_is) boot_len (by decide) (ev_args_cons (ev_name rfl rfl (ev_args_nil ?_)))))))))) ?_)
  · refine all2_r1 ?_
    refine call_lenScr hscr (by omega) (ev_int ?_)
    refine cmp_lt_intU ⟨_, rfl, ?_⟩
    by_cases q : ns.length < 2
    · (first | refine iteP (by simp; omega) ?_ | rw [if_pos (by simp; omega)])
      refine ev_int (ev_args_nil ?_)
      refine all2_rv fun u hu => ?_
      exact plan_ok G 0 (by decide) (n := 10) hc hh B₆ hu fun pl ds st' B' X' hpl ok => ⟨pl, ds, rfl, X', hpl, .inl ⟨q, ok⟩⟩
    · (first | refine iteN (by simp; omega) ?_ | rw [if_neg (by simp; omega)])
      refine ev_int (ev_args_nil ?_)
      refine all2_rv fun u hu => ?_
      exact plan_ok G 2 (by decide) (n := 8) hc hh B₆ hu fun pl ds st' B' X' hpl ok => ⟨pl, ds, rfl, X', hpl, .inr ⟨q, ok⟩⟩
  rintro v st₇ ⟨pl, ds, rfl, X₇, hpl, hcase⟩
  have R₇ : RepT A (startT A.n) st₇ := R₆.np fun b mo e h => B₆.np X₇ e h
  clear R₆ X₇ B₆
  -- a short script
  refine ex_cons (Ex.mono (Q := FQ A) (ex_if1 (tr_cmp (ev_bcall G hc he (by k_is) boot_len (by decide) (ev_args_cons (ev_name rfl rfl (ev_args_nil ?_)))))) ?_)
  · refine all2_r1 ?_
    refine call_lenScr hscr (by omega) (ev_int ?_)
    refine cmp_lt_intU ⟨_, rfl, ?_⟩
    rcases hcase with ⟨q, ok⟩ | ⟨q, ok⟩
    · (first | refine iteP (by simp; omega) ?_ | rw [if_pos (by simp; omega)])
      with_reducible refine ex_assign hc he ?w1 ?w2 ?w3
      case w2 => rfl
      case w3 => rfl
      case w1 =>
      with_reducible refine ev_binop ?_
      with_reducible refine ev_list ?_
      with_reducible refine ev_args_cons ?w4 ?w5
      case w5 => rfl
      case w4 =>
      with_reducible refine ev_tuple ?_
      with_reducible refine ev_args_cons ?w6 ?w7
      case w7 => rfl
      case w6 =>
      with_reducible refine ev_str ?_
      with_reducible refine ev_args_cons ?w8 ?w9
      case w9 => rfl
      case w8 =>
      with_reducible refine ev_list ?_
      with_reducible refine ev_args_cons ?w10 ?w11
      case w11 => rfl
      case w10 =>
      with_reducible refine ev_tuple ?_
      with_reducible refine ev_args_cons ?w12 ?w13
      case w13 => rfl
      case w12 =>
      with_reducible refine ev_str ?_
      with_reducible refine ev_args_cons ?w14 ?w15
      case w15 => rfl
      case w14 =>
      with_reducible refine ev_int ?_
      with_reducible refine ev_args_nil ?_
      refine ⟨by simp [sizeLine_eq], ?_⟩
      intro t ht
      with_reducible refine ev_args_nil ?_
      refine ⟨by simp [sizeLine_eq], ?_⟩
      intro l₂ hl₂
      with_reducible refine ev_args_nil ?_
      refine ⟨by simp [sizeLine_eq], ?_⟩
      intro t₂ ht₂
      with_reducible refine ev_args_nil ?_
      refine ⟨by simp [sizeLine_eq], ?_⟩
      intro l₃ hl₃
      refine ev_name rfl rfl ?_
      have X₁ := Ext.new (mo := .tuple [.str "exit", .int 7]) ht
      have m₁ := Store.set_self st₇ t (.tuple [.str "exit", .int 7])
      generalize st₇.set t (.tuple [.str "exit", .int 7]) = s₁ at *
      have X₂ := Ext.new (mo := .list [.ref t]) hl₂
      have m₂ := Store.set_self s₁ l₂ (.list [.ref t])
      generalize s₁.set l₂ (.list [.ref t]) = s₂ at *
      have X₃ := Ext.new (mo := .tuple [.str "fork", .ref l₂]) ht₂
      have m₃ := Store.set_self s₂ t₂ (.tuple [.str "fork", .ref l₂])
      generalize s₂.set t₂ (.tuple [.str "fork", .ref l₂]) = s₃ at *
      have X₄ := Ext.new (mo := .list [.ref t₂]) hl₃
      have m₄ := Store.set_self s₃ l₃ (.list [.ref t₂])
      generalize s₃.set l₃ (.list [.ref t₂]) = s₄ at *
      have X := ((X₁.trans X₂).trans X₃).trans X₄
      (first | refine e0a3 (fun us hus hdl => ?_) (hpl) | refine e1a2 (fun us hus hdl => ?_) (hpl) | refine e2a1 (fun us hus hdl => ?_) (hpl) | obtain ⟨us, hus, hdl⟩ := hpl); try clear hpl
      have hul : us.length ≤ 3 := by
        obtain ⟨body, s, rfl, hb, _⟩ := ok
        rw [hdl.length]; simp; omega
      refine op_addListU m₄ (X _ _ hus) (by rw [sizeLine_eq]; simp; omega) fun Dl hDl => ex_nil ?_
      have X₅ := Ext.new (mo := .list ([.ref t₂] ++ us)) hDl
      have hg := planOk_good ok
      refine ⟨rfl, rfl, rfl, rfl, R₇.ext (X.trans X₅), Dl, .fork [.exit 7] :: ds, rfl, ⟨_, Store.set_self _ _ _, .cons (.fork (X₅ _ _ (X₄ _ _ m₃)) (X₅ _ _ (X₄ _ _ (X₃ _ _ m₂))) (.cons (.exit (X₅ _ _ (X₄ _ _ (X₃ _ _ (X₂ _ _ m₁))))) .nil)) (hdl.mono (X.trans X₅).lt)⟩, .fork (.fin 7) hg, ?_⟩
      have := (planOk0_w ok).2
      simp only [wF, wD, wL]; omega
    · (first | refine iteN (by simp; omega) ?_ | rw [if_neg (by simp; omega)])
      exact ex_nil ⟨rfl, rfl, rfl, rfl, R₇, pl, ds, rfl, hpl, planOk_good ok, planOk2_w ok⟩
  clear hcase hpl R₇ hscr
  rintro f lm' st₈ ⟨rfl, l1, l2, l3, R₈, pl, ds, l4, hpl, hg, hw⟩
  show Ex w b₀ c _ _ _ _ _ _
  -- the book
  with_reducible refine ex_assign hc he ?b1 ?b2 ?b3
  case b2 => rfl
  case b3 => rfl
  case b1 =>
  with_reducible refine ev_dictI ?b4 ?b5 ?b6 ?b7 ?b8
  case b4 => rfl
  case b5 => rfl
  case b6 => simp
  case b7 => decide
  case b8 =>
  intro B hB
  with_reducible refine ev_pairs_cons ?_
  with_reducible refine ev_int ?_
  with_reducible refine ev_dictS ?c4 ?c5 ?c6 ?c7 ?c8
  case c4 => rfl
  case c5 => rfl
  case c6 => simp
  case c7 => decide
  case c8 =>
  intro K hK
  with_reducible refine ev_pairs_cons ?_
  with_reducible refine ev_str ?_
  with_reducible refine ev_int ?_
  with_reducible refine ev_pairs_cons ?_
  with_reducible refine ev_str ?_
  with_reducible refine ev_name (mv := MV.ref pl) ?d1 ?d2 ?d3 ?d4
  case d1 => rfl
  case d2 => exact l4
  case d4 => decide
  case d3 =>
  with_reducible refine ev_pairs_cons ?_
  with_reducible refine ev_str ?_
  with_reducible refine ev_str ?_
  with_reducible refine ev_pairs_cons ?_
  with_reducible refine ev_str ?_
  with_reducible refine ev_int ?_
  with_reducible refine ev_pairs_cons ?_
  with_reducible refine ev_str ?_
  with_reducible refine ev_int ?_
  with_reducible refine ev_pairs_cons ?_
  with_reducible refine ev_str ?_
  with_reducible refine ev_none ?_
  with_reducible refine ev_pairs_cons ?_
  with_reducible refine ev_str ?_
  with_reducible refine ev_bool ?_
  with_reducible refine ev_pairs_nil ?_
  have hBK : B ≠ K := by intro q; rw [← q, Store.set_self] at hK; cases hK
  refine ⟨[("parent", .int 0), ("plan", .ref pl), ("state", .str "ready"), ("since", .int 0), ("turn", .int 0), ("status", .none), ("killed", .bool false)], rfl, by show (["parent", "plan", "state", "since", "turn", "status", "killed"] : List Str).Nodup; decide, Store.set_self _ _ _, ?_⟩
  rw [Store.set_set]
  refine ev_pairs_nil ⟨[(1, .ref K)], rfl, by simp, by rw [Store.set_ne _ _ hBK, Store.set_self], ?_⟩
  have X₉ : Ext st₈ (((st₈.set B (.idict [])).set K (.sdict [("parent", .int 0), ("plan", .ref pl), ("state", .str "ready"), ("since", .int 0), ("turn", .int 0), ("status", .none), ("killed", .bool false)])).set B (.idict [(1, .ref K)])) := fun y mo e => by
    have q1 : y ≠ B := fun q => by rw [q, hB] at e; cases e
    have q2 : y ≠ K := fun q => by rw [q] at e; rw [Store.set_ne _ _ (Ne.symm hBK), e] at hK; cases hK
    rw [Store.set_ne _ _ q1, Store.set_ne _ _ q2, Store.set_ne _ _ q1]; exact e
  have mB := Store.set_self ((st₈.set B (.idict [])).set K (.sdict [("parent", .int 0), ("plan", .ref pl), ("state", .str "ready"), ("since", .int 0), ("turn", .int 0), ("status", .none), ("killed", .bool false)])) B (.idict [(1, .ref K)])
  have mK : (((st₈.set B (.idict [])).set K (.sdict [("parent", .int 0), ("plan", .ref pl), ("state", .str "ready"), ("since", .int 0), ("turn", .int 0), ("status", .none), ("killed", .bool false)])).set B (.idict [(1, .ref K)])) K = some (.sdict [("parent", .int 0), ("plan", .ref pl), ("state", .str "ready"), ("since", .int 0), ("turn", .int 0), ("status", .none), ("killed", .bool false)]) := by rw [Store.set_ne _ _ (Ne.symm hBK), Store.set_self]
  generalize (((st₈.set B (.idict [])).set K (.sdict [("parent", .int 0), ("plan", .ref pl), ("state", .str "ready"), ("since", .int 0), ("turn", .int 0), ("status", .none), ("killed", .bool false)])).set B (.idict [(1, .ref K)])) = st₉ at X₉ mB mK ⊢
  have R₉ := R₈.ext X₉
  have hpl := hpl.mono X₉.lt
  clear R₈ X₉ hB hK
  -- last, clock
  refine ex_assign2 hh (ev_tuple (ev_args_cons (ev_int (ev_args_cons (ev_int (ev_args_nil ⟨by simp [sizeLine_eq], fun t ht => ⟨t, _, _, rfl, Store.set_self _ _ _, ?_⟩⟩))))))
  have X := Ext.new (mo := .tuple [.int 1, .int 0]) ht
  intro va vb ha hb
  have R₁₀ := R₉.ext X
  have hpl := hpl.mono X.lt
  have mB := X _ _ mB
  have mK := X _ _ mK
  generalize st₉.set t (.tuple [.int 1, .int 0]) = st₁₀ at R₁₀ hpl mB mK ⊢
  clear X R₉ ht
  refine as_cons (as_sub (ev_subI (ev_name rfl (LM.set_get _ _ _) (ev_int ⟨B, _, 1, .ref K, rfl, rfl, mB, rfl, ev_str ?_⟩))))
  refine vr_r2 fun vj hj => ?_
  refine set_S mK (by rw [sizeLine_eq]; simp) hj ha ?_
  have L₁₁ := LT.setD (mo' := .sdict (dput ("last" : Str) (.int 1) [("parent", .int 0), ("plan", .ref pl), ("state", .str "ready"), ("since", .int 0), ("turn", .int 0), ("status", .none), ("killed", .bool false)])) mK (.inl ⟨_, rfl⟩)
  have R₁₁ := R₁₀.setO (mo' := .sdict (dput ("last" : Str) (.int 1) [("parent", .int 0), ("plan", .ref pl), ("state", .str "ready"), ("since", .int 0), ("turn", .int 0), ("status", .none), ("killed", .bool false)])) mK (.inl ⟨_, rfl⟩)
  have mB₁₁ := (Store.set_ne st₁₀ (.sdict (dput ("last" : Str) (.int 1) [("parent", .int 0), ("plan", .ref pl), ("state", .str "ready"), ("since", .int 0), ("turn", .int 0), ("status", .none), ("killed", .bool false)])) hBK).trans mB
  have mK₁₁ := Store.set_self st₁₀ K (.sdict (dput ("last" : Str) (.int 1) [("parent", .int 0), ("plan", .ref pl), ("state", .str "ready"), ("since", .int 0), ("turn", .int 0), ("status", .none), ("killed", .bool false)]))
  generalize st₁₀.set K (.sdict (dput ("last" : Str) (.int 1) [("parent", .int 0), ("plan", .ref pl), ("state", .str "ready"), ("since", .int 0), ("turn", .int 0), ("status", .none), ("killed", .bool false)])) = st₁₁ at L₁₁ R₁₁ mB₁₁ mK₁₁ ⊢
  have hpl := hpl.mono L₁₁
  clear L₁₁ R₁₀ mB mK
  refine as_cons (as_sub (ev_subI (ev_name rfl (LM.set_get _ _ _) (ev_int ⟨B, _, 1, .ref K, rfl, rfl, mB₁₁, rfl, ev_str ?_⟩))))
  refine vr_r2 fun vj hj => ?_
  refine set_S mK₁₁ (by rw [sizeLine_eq]; show (8 : Nat) ≤ _; omega) hj hb (as_nil ?_)
  have kv : ∃ kv : List (Str × MV), kv = dput ("clock" : Str) (.int 0) (dput ("last" : Str) (.int 1) [("parent", .int 0), ("plan", .ref pl), ("state", .str "ready"), ("since", .int 0), ("turn", .int 0), ("status", .none), ("killed", .bool false)]) := ⟨_, rfl⟩
  obtain ⟨kv, hkv⟩ := kv
  rw [← hkv]
  have L₁₂ := LT.setD (mo' := .sdict kv) mK₁₁ (.inl ⟨_, rfl⟩)
  have R₁₂ := R₁₁.setO (mo' := .sdict kv) mK₁₁ (.inl ⟨_, rfl⟩)
  have hpl := hpl.mono L₁₂
  have RB₁₂ : RepB B (fun _ => K) (st₁₁.set K (.sdict kv)) (startB ds) := by
    refine ⟨(Store.set_ne _ _ hBK).trans mB₁₁, by simp [startB], by simp [startB], fun k hk k' hk' _ => ?_, fun k hk => ⟨kv, Store.set_self _ _ _, ?_, fun _ => ?_⟩, by simp [startB]⟩
    · simp [startB] at hk hk'; rw [hk, hk']
    · subst hkv; exact ⟨rfl, ⟨pl, rfl, hpl⟩, rfl, rfl, rfl, rfl, rfl, by show (9 : Nat) ≤ 20; decide⟩
    · subst hkv; exact ⟨rfl, rfl⟩
  generalize st₁₁.set K (.sdict kv) = st₁₂ at R₁₂ RB₁₂ ⊢
  clear L₁₂ R₁₁ mB₁₁ mK₁₁ hpl hkv ha hb
  have hstart := start_loop h3 h8 hg hw
  -- the turns
  refine ex_forRange G hc he hh (by k_is) (ev_args_cons (ev_int (ev_args_nil ?_)))
  refine ⟨0, 260, .inl ⟨rfl, rfl⟩, by decide, by decide, by decide, by decide, FJ A B,
    ⟨LM.set_other l1 (by decide), LM.set_other l2 (by decide), LM.set_other l3 (by decide), LM.set_get _ _ _, _, _, _, R₁₂, RB₁₂, by simpa using hstart⟩, ?_, ?_⟩
  · clear hstart RB₁₂ R₁₂ l1 l2 l3 l4 hg hw
    rintro k lm'' st'' hk ⟨l1, l2, l3, l4, a, b, d, R, RB, LI⟩ E'
    refine ex_assign hc he (ev_call G rfl rfl (by k_is) (by k_is) (ev_args_cons (ev_name rfl (LM.set_other l4 (by decide)) (ev_args_cons (ev_name rfl (LM.set_other l1 (by decide)) (ev_args_cons (ev_name rfl (LM.set_other l2 (by decide)) (ev_args_nil ?_))))))))
    refine all2_rrv fun v3 hv3 => ?_
    refine turn_ok G hc hh R RB LI hv3 (by omega) (fun a' b' d' st' R' RB' LI' => ?_) (fun a' b' d' st' R' RB' S' hl' => ?_)
    · refine ex_if (tr_cmp (ev_name rfl (LM.set_get _ _ _) (ev_none ?_)))
      refine cmp_is_noneU ⟨_, rfl, ?_⟩
      (first | refine iteN (by decide) ?_ | rw [if_neg (by decide)])
      refine ex_nil ?_
      refine ex_if (tr_bool (ev_name rfl (LM.set_get _ _ _) (.inl ⟨false, rfl, ?_⟩)))
      (first | refine iteN (by decide) ?_ | rw [if_neg (by decide)])
      exact ex_nil (ex_nil ⟨LM.set_other (LM.set_other l1 (by decide)) (by decide), LM.set_other (LM.set_other l2 (by decide)) (by decide), LM.set_other (LM.set_other l3 (by decide)) (by decide), LM.set_other (LM.set_other l4 (by decide)) (by decide), a', b', d', R', RB', by rw [show (206 : Int) - ((k + 1 : Nat) : Int) = 206 - (k : Int) - 1 by omega]; exact LI'⟩)
    · refine ex_if (tr_cmp (ev_name rfl (LM.set_get _ _ _) (ev_none ?_)))
      refine cmp_is_noneU ⟨_, rfl, ?_⟩
      (first | refine iteN (by decide) ?_ | rw [if_neg (by decide)])
      refine ex_nil ?_
      refine ex_if (tr_bool (ev_name rfl (LM.set_get _ _ _) (.inl ⟨true, rfl, ?_⟩)))
      (first | refine iteP rfl ?_ | rw [if_pos rfl])
      refine ex_ret (ev_and (ev_cmp (ev_compList (cl := []) (lmF := fun _ => none) hc he hh (fun x a e => by cases e) rfl (by decide) rfl (by decide) rfl (fun _ _ e => by cases e) (ev_meth G (ev_name rfl (LM.set_other (LM.set_other l1 (by decide)) (by decide)) ⟨A.T, 274, A.TD, _, 174, rfl, R'.t, R'.td, nT_all _, mT_all, ev_args_nil ?_⟩)))))
      refine all2_r0 ?_
      refine all_ok G hc hh R' fun la hla => ?_
      rw [S'.alone hl']
      have X := Ext.new (mo := .list (List.map (fun i => MV.ref (A.P i)) [0])) hla
      have mla := Store.set_self st' la (.list (List.map (fun i => MV.ref (A.P i)) [0]))
      generalize st'.set la (.list (List.map (fun i => MV.ref (A.P i)) [0])) = sA at X mla ⊢
      have RA := R'.ext X
      have hi0 : 0 < A.n := by omega
      refine ⟨la, _, rfl, mla, by simp [sizeLine_eq], fun k acc st' => st' = sA ∧ acc = List.replicate k (.int 1), ⟨rfl, rfl⟩, fun _ _ _ h => h.1 ▸ mla, ?_, ?_⟩
      · rintro k acc st' C E'' hk ⟨rfl, rfl⟩
        have hk0 : k = 0 := by simp at hk; omega
        subst hk0
        refine ct_nil ?_
        (first | refine iteP rfl ?_ | rw [if_pos rfl])
        refine ev_attr (ev_name rfl (by unfold lmC; rw [if_pos rfl]) ?_)
        refine gp_pidU G RA hi0 ⟨rfl, ?_⟩
        rw [S'.p0]; rfl
      · rintro Dl acc st' ⟨rfl, rfl⟩ hDl
        have X₂ := Ext.new (mo := .list (List.replicate (List.map (fun i => MV.ref (A.P i)) [0]).length (.int 1))) hDl
        have mDl := Store.set_self st' Dl (.list (List.replicate (List.map (fun i => MV.ref (A.P i)) [0]).length (.int 1)))
        generalize st'.set Dl (.list (List.replicate (List.map (fun i => MV.ref (A.P i)) [0]).length (.int 1))) = sB at X₂ mDl ⊢
        have RC := RA.ext X₂
        refine ev_list (ev_args_cons (ev_int (ev_args_nil ⟨by simp [sizeLine_eq], fun l₁ hl₁ => ?_⟩)))
        have X₃ := Ext.new (mo := .list [.int 1]) hl₁
        have RD := RC.ext X₃
        refine cmp_eq_intsU (ks := [1]) hc (X₃ _ _ mDl) (Store.set_self _ _ _) ⟨true, rfl, ?_⟩
        (first | refine iteP rfl ?_ | rw [if_pos rfl])
        refine ev_and1 (ev_cmp (ev_attr (ev_name rfl (LM.set_other (LM.set_other l3 (by decide)) (by decide)) ?_)))
        refine gp_pidU G RD hi0 (ev_int ?_)
        refine cmp_eq_intU ?_
        rw [S'.p0]; rfl
  · rintro lm'' st'' ⟨l1, l2, l3, l4, a, b, d, R, RB, LI⟩
    have := LI.nonneg
    exfalso
    have e : ((260 : Int) - 0).toNat = 260 := by decide
    rw [e] at this
    omega
end
end PartZ3
section PartZ4
open PySem PySem.W PyProof.Rows PySem.Spec PySem.Calls

theorem whole : PySem.Challenge.rw_nz0217_01.Holds := hd (by
  intro w s₀ s₁ mg mb G Y fa o pm cd doc dV kV ho hdd hcd hD hmg hg args vals as hpre hlay hrd hwl hlo
  have KX := kIn_of Y
  refine Ground.open G ?_
  intro T B D TE TW
  clear D B TE TW
  have TA := at_of_top T
  try (obtain ⟨_, _, he, B0⟩ := based_of_top T rfl hmg ho hdd; have he' : cd = _ := he; subst he'; clear he)
  clear hmg
  wrow_args hpre hlay hrd hwl hlo
  all_goals (
    first | refine callC_kw (enter_call ?_) | refine enter_call ?_ | refine callC_kw (enter_callW ?_) | refine enter_callW ?_ | w_how
    w_top on
    try refine codeAny_mono ?_ (fun _ _ g => GoodW.toG g)
    have K0 := below_caller (Top.heap T)
    w_call any ho hdd hcd hD T F
    clear hdd TA)
  refine run_law' ⟨KX, T⟩ ‹Heap.IsList _ _ _› ‹IntsAre _ _› ?zlen ‹Fr _ _ _ _› rfl rfl rfl rfl rfl rfl rfl ?zbig (fun h' tk m' F' => ?zk) ?zh
  case zlen => omega
  case zbig => exact Nat.lt_trans (by decide) (Heap.lt_size (KX 340 _ (by k_is)))
  case zk =>
    refine goodW_bool F' hg (raisesW_false ?zhn) ?zhp
    case zhn => wrow_none_raised
    case zhp => refine' postW_of ?zs ?zv ?ze; (case zs => o_shape); (case zv => wtm_val); (case ze => w_fin)
  case zh => exact fun c hc he hh hscr G => law_walk G hc he hh hscr (by omega))
end PartZ4
end Mine

theorem PySem.Challenge.cw_nz0217_01_holds : PySem.Challenge.rw_nz0217_01.Holds :=
  Mine.whole
