import PyProof.Rows.All
import Wide.All
import OpenK.AllK
import Wide.FinOn
import PySem.Challenge.RW_pb0417_01
open PySem PySem.W PyProof.Rows
set_option Elab.async false
set_option maxRecDepth 100000
set_option pp.deepTerms false
set_option rowWalk.seconds 0

-- part NH
namespace Mine
open PySem PySem.W PyProof.Rows
local macro_rules | `(tactic| walk_at "pad 0 0") => `(tactic| fail)
def hd1 : List Stmt → Stmt | a :: _ => a | [] => .Pass default
def tl1 : List Stmt → List Stmt | _ :: r => r | [] => []
def fA : Stmt → Arguments | .FunctionDef _ a _ _ _ _ _ _ _ _ => a | _ => default
def fB : Stmt → FuncBody | .FunctionDef _ _ b _ _ _ _ _ _ _ => .stmts b | _ => default
def fS : Stmt → Scope | .FunctionDef _ _ _ _ _ _ s _ _ _ => s | _ => default
def cB : Stmt → List Stmt | .ClassDef _ _ _ b _ _ _ _ _ _ _ => b | _ => []
noncomputable def b0 : List Stmt := PySem.Challenge.pw_pb0417_01.main.body
noncomputable def b1 : List Stmt := tl1 b0
noncomputable def b2 : List Stmt := tl1 b1
noncomputable def b3 : List Stmt := tl1 b2
noncomputable def b4 : List Stmt := tl1 b3
noncomputable def b5 : List Stmt := tl1 b4
noncomputable def b6 : List Stmt := tl1 b5
noncomputable def b7 : List Stmt := tl1 b6
noncomputable def b8 : List Stmt := tl1 b7
noncomputable def b9 : List Stmt := tl1 b8
noncomputable def b10 : List Stmt := tl1 b9
noncomputable def b11 : List Stmt := tl1 b10
noncomputable def b12 : List Stmt := tl1 b11
noncomputable def b13 : List Stmt := tl1 b12
noncomputable def b14 : List Stmt := tl1 b13
noncomputable def b15 : List Stmt := tl1 b14
noncomputable def b16 : List Stmt := tl1 b15
noncomputable def b17 : List Stmt := tl1 b16
noncomputable def b18 : List Stmt := tl1 b17
noncomputable def b19 : List Stmt := tl1 b18
noncomputable def b20 : List Stmt := tl1 b19
noncomputable def b21 : List Stmt := tl1 b20
noncomputable def b22 : List Stmt := tl1 b21
noncomputable def b23 : List Stmt := tl1 b22
noncomputable def b24 : List Stmt := tl1 b23
noncomputable def b25 : List Stmt := tl1 b24
noncomputable def b26 : List Stmt := tl1 b25
noncomputable def b27 : List Stmt := tl1 b26
noncomputable def b28 : List Stmt := tl1 b27
noncomputable def b29 : List Stmt := tl1 b28
noncomputable def b30 : List Stmt := tl1 b29
noncomputable def b31 : List Stmt := tl1 b30
noncomputable def b32 : List Stmt := tl1 b31
noncomputable def b33 : List Stmt := tl1 b32
noncomputable def b34 : List Stmt := tl1 b33
noncomputable def b35 : List Stmt := tl1 b34
noncomputable def b36 : List Stmt := tl1 b35
noncomputable def kRaw (P : Params) : Frag := [
  ((nat_lit 2), (Obj.mk Value.none none (Data.dict #[(DictEntry.mk (PyData.keyHash P (Str.ofString "type.__subclasses__.Exception.0")) (Value.str (Str.ofString "type.__subclasses__.Exception.0") 230) (Value.int (46 : Int) 0)), (DictEntry.mk (PyData.keyHash P (Str.ofString "type.__subclasses__.Exception.n")) (Value.str (Str.ofString "type.__subclasses__.Exception.n") 231) (Value.int (1 : Int) 0))] 2) #[])),
  ((nat_lit 3), (Obj.mk (Value.type "dict") none (Data.dict #[(DictEntry.mk (PyData.keyHash P (Str.ofString "__name__")) (Value.str (Str.ofString "__name__") 165) (Value.str (Str.ofString "law_pb0417_01") 467)), (DictEntry.mk (PyData.keyHash P (Str.ofString "__doc__")) (Value.str (Str.ofString "__doc__") 166) Value.none), (DictEntry.mk (PyData.keyHash P (Str.ofString "__package__")) (Value.str (Str.ofString "__package__") 167) Value.none), (DictEntry.mk (PyData.keyHash P (Str.ofString "__loader__")) (Value.str (Str.ofString "__loader__") 168) (Value.builtin "__main__.__loader__#opaque")), (DictEntry.mk (PyData.keyHash P (Str.ofString "__spec__")) (Value.str (Str.ofString "__spec__") 169) Value.none), (DictEntry.mk (PyData.keyHash P (Str.ofString "__annotations__")) (Value.str (Str.ofString "__annotations__") 170) (Value.ref 6)), (DictEntry.mk (PyData.keyHash P (Str.ofString "__builtins__")) (Value.str (Str.ofString "__builtins__") 171) (Value.ref 4)), (DictEntry.mk (PyData.keyHash P (Str.ofString "__file__")) (Value.str (Str.ofString "__file__") 173) (Value.str (Str.ofString "/claim/cut.py") 172)), (DictEntry.mk (PyData.keyHash P (Str.ofString "__cached__")) (Value.str (Str.ofString "__cached__") 174) Value.none), (DictEntry.mk (PyData.keyHash P (Str.ofString "_wall")) (Value.str (Str.ofString "_wall") 193) (Value.ref 21)), (DictEntry.mk (PyData.keyHash P (Str.ofString "MintError")) (Value.str (Str.ofString "MintError") 233) (Value.ref 46)), (DictEntry.mk (PyData.keyHash P (Str.ofString "MachineError")) (Value.str (Str.ofString "MachineError") 249) (Value.ref 59)), (DictEntry.mk (PyData.keyHash P (Str.ofString "mask")) (Value.str (Str.ofString "mask") 256) (Value.ref 68)), (DictEntry.mk (PyData.keyHash P (Str.ofString "wrap")) (Value.str (Str.ofString "wrap") 264) (Value.ref 75)), (DictEntry.mk (PyData.keyHash P (Str.ofString "bit")) (Value.str (Str.ofString "bit") 272) (Value.ref 82)), (DictEntry.mk (PyData.keyHash P (Str.ofString "ones")) (Value.str (Str.ofString "ones") 282) (Value.ref 89)), (DictEntry.mk (PyData.keyHash P (Str.ofString "parity")) (Value.str (Str.ofString "parity") 289) (Value.ref 96)), (DictEntry.mk (PyData.keyHash P (Str.ofString "CF")) (Value.str (Str.ofString "CF") 293) (Value.int (0 : Int) 292)), (DictEntry.mk (PyData.keyHash P (Str.ofString "PF")) (Value.str (Str.ofString "PF") 295) (Value.int (2 : Int) 294)), (DictEntry.mk (PyData.keyHash P (Str.ofString "AF")) (Value.str (Str.ofString "AF") 297) (Value.int (4 : Int) 296)), (DictEntry.mk (PyData.keyHash P (Str.ofString "ZF")) (Value.str (Str.ofString "ZF") 299) (Value.int (6 : Int) 298)), (DictEntry.mk (PyData.keyHash P (Str.ofString "SF")) (Value.str (Str.ofString "SF") 301) (Value.int (7 : Int) 300)), (DictEntry.mk (PyData.keyHash P (Str.ofString "DF")) (Value.str (Str.ofString "DF") 303) (Value.int (10 : Int) 302)), (DictEntry.mk (PyData.keyHash P (Str.ofString "OF")) (Value.str (Str.ofString "OF") 305) (Value.int (11 : Int) 304)), (DictEntry.mk (PyData.keyHash P (Str.ofString "FLAG_NAMES")) (Value.str (Str.ofString "FLAG_NAMES") 307) (Value.str (Str.ofString "cf pf af zf sf of df") 306)), (DictEntry.mk (PyData.keyHash P (Str.ofString "Flags")) (Value.str (Str.ofString "Flags") 404) (Value.ref 169)), (DictEntry.mk (PyData.keyHash P (Str.ofString "szp")) (Value.str (Str.ofString "szp") 414) (Value.ref 180)), (DictEntry.mk (PyData.keyHash P (Str.ofString "add_flags")) (Value.str (Str.ofString "add_flags") 429) (Value.ref 187)), (DictEntry.mk (PyData.keyHash P (Str.ofString "sub_flags")) (Value.str (Str.ofString "sub_flags") 444) (Value.ref 194)), (DictEntry.mk (PyData.keyHash P (Str.ofString "logic_flags")) (Value.str (Str.ofString "logic_flags") 453) (Value.ref 201)), (DictEntry.mk (PyData.keyHash P (Str.ofString "combined")) (Value.str (Str.ofString "combined") 466) (Value.ref 208)), (DictEntry.mk (PyData.keyHash P (Str.ofString "_law_digits")) (Value.str (Str.ofString "_law_digits") 477) (Value.ref 215)), (DictEntry.mk (PyData.keyHash P (Str.ofString "_law_digit")) (Value.str (Str.ofString "_law_digit") 486) (Value.ref 222)), (DictEntry.mk (PyData.keyHash P (Str.ofString "_law_turned")) (Value.str (Str.ofString "_law_turned") 493) (Value.ref 229)), (DictEntry.mk (PyData.keyHash P (Str.ofString "_law_doubled")) (Value.str (Str.ofString "_law_doubled") 499) (Value.ref 234)), (DictEntry.mk (PyData.keyHash P (Str.ofString "_law_ones")) (Value.str (Str.ofString "_law_ones") 505) (Value.ref 239)), (DictEntry.mk (PyData.keyHash P (Str.ofString "_law_near")) (Value.str (Str.ofString "_law_near") 512) (Value.ref 246)), (DictEntry.mk (PyData.keyHash P (Str.ofString "_law_results")) (Value.str (Str.ofString "_law_results") 522) (Value.ref 253)), (DictEntry.mk (PyData.keyHash P (Str.ofString "_law_carried")) (Value.str (Str.ofString "_law_carried") 528) (Value.ref 258)), (DictEntry.mk (PyData.keyHash P (Str.ofString "_law_due")) (Value.str (Str.ofString "_law_due") 534) (Value.ref 263)), (DictEntry.mk (PyData.keyHash P (Str.ofString "_law_words")) (Value.str (Str.ofString "_law_words") 548) (Value.ref 270)), (DictEntry.mk (PyData.keyHash P (Str.ofString "law")) (Value.str (Str.ofString "law") 566) (Value.ref 277))] 42) #[])),
  ((nat_lit 15), (Obj.mk (Value.type "tuple") none (Data.seq #[] 0) #[])),
  ((nat_lit 17), (Obj.mk (Value.type "tuple") none (Data.seq #[(Value.str (Str.ofString "k") 190)] 0) #[])),
  ((nat_lit 18), (Obj.mk (Value.type "tuple") none (Data.seq #[] 0) #[])),
  ((nat_lit 20), (Obj.mk (Value.type "code") none (Data.fields #[(Value.str (Str.ofString "_wall") 187), (Value.str (Str.ofString "_wall") 188), (Value.str (Str.ofString "/claim/cut.py") 189), (Value.int (1 : Int) 0), (Value.int (1 : Int) 0), (Value.int (0 : Int) 0), (Value.int (0 : Int) 0), (Value.int (3 : Int) 0), (Value.ref 15), (Value.bool Bool.true), (Value.int (181 : Int) 0), (Value.ref 16), Value.none, (Value.ref 17), (Value.ref 18), (Value.ref 19), (Value.int (191 : Int) 0), (Value.int (1 : Int) 0), (Value.str (Str.ofString "/claim/cut.py") 192)]) #[])),
  ((nat_lit 21), (Obj.mk (Value.type "function") none (Data.func (FuncData.mk (Str.ofString "_wall") (Str.ofString "_wall") (fA (hd1 b0)) ((fB (hd1 b0))) (fS (hd1 b0)) 3 [] Value.none Value.none Value.none (Value.str (Str.ofString "__main__") 164) none (Value.ref 20) Value.none 0)) #[])),
  ((nat_lit 22), (Obj.mk (Value.type "tuple") none (Data.seq #[(Value.type "Exception")] 0) #[])),
  ((nat_lit 29), (Obj.mk (Value.type "tuple") none (Data.seq #[Value.none] 0) #[])),
  ((nat_lit 30), (Obj.mk (Value.type "tuple") none (Data.seq #[] 0) #[])),
  ((nat_lit 32), (Obj.mk (Value.type "tuple") none (Data.seq #[(Value.str (Str.ofString "self") 211), (Value.str (Str.ofString "what") 212), (Value.str (Str.ofString "at") 213)] 0) #[])),
  ((nat_lit 33), (Obj.mk (Value.type "tuple") none (Data.seq #[] 0) #[])),
  ((nat_lit 35), (Obj.mk (Value.type "code") none (Data.fields #[(Value.str (Str.ofString "__init__") 208), (Value.str (Str.ofString "MintError.__init__") 209), (Value.str (Str.ofString "/claim/cut.py") 210), (Value.int (7 : Int) 0), (Value.int (3 : Int) 0), (Value.int (0 : Int) 0), (Value.int (0 : Int) 0), (Value.int (3 : Int) 0), (Value.ref 30), (Value.bool Bool.true), (Value.int (181 : Int) 0), (Value.ref 31), Value.none, (Value.ref 32), (Value.ref 33), (Value.ref 34), (Value.int (214 : Int) 0), (Value.int (7 : Int) 0), (Value.str (Str.ofString "/claim/cut.py") 215)]) #[])),
  ((nat_lit 36), (Obj.mk (Value.type "function") none (Data.func (FuncData.mk (Str.ofString "__init__") (Str.ofString "MintError.__init__") (fA (hd1 (cB (hd1 b2)))) ((fB (hd1 (cB (hd1 b2))))) (fS (hd1 (cB (hd1 b2)))) 3 [] (Value.ref 29) Value.none Value.none (Value.str (Str.ofString "octetmint.basics") 194) none (Value.ref 35) Value.none 0)) #[])),
  ((nat_lit 37), (Obj.mk (Value.type "tuple") none (Data.seq #[] 0) #[])),
  ((nat_lit 39), (Obj.mk (Value.type "tuple") none (Data.seq #[(Value.str (Str.ofString "self") 220)] 0) #[])),
  ((nat_lit 40), (Obj.mk (Value.type "tuple") none (Data.seq #[] 0) #[])),
  ((nat_lit 42), (Obj.mk (Value.type "code") none (Data.fields #[(Value.str (Str.ofString "told") 217), (Value.str (Str.ofString "MintError.told") 218), (Value.str (Str.ofString "/claim/cut.py") 219), (Value.int (12 : Int) 0), (Value.int (1 : Int) 0), (Value.int (0 : Int) 0), (Value.int (0 : Int) 0), (Value.int (3 : Int) 0), (Value.ref 37), (Value.bool Bool.true), (Value.int (181 : Int) 0), (Value.ref 38), Value.none, (Value.ref 39), (Value.ref 40), (Value.ref 41), (Value.int (221 : Int) 0), (Value.int (12 : Int) 0), (Value.str (Str.ofString "/claim/cut.py") 222)]) #[])),
  ((nat_lit 43), (Obj.mk (Value.type "function") none (Data.func (FuncData.mk (Str.ofString "told") (Str.ofString "MintError.told") (fA (hd1 (tl1 (cB (hd1 b2))))) ((fB (hd1 (tl1 (cB (hd1 b2)))))) (fS (hd1 (tl1 (cB (hd1 b2))))) 3 [] Value.none Value.none Value.none (Value.str (Str.ofString "octetmint.basics") 194) none (Value.ref 42) Value.none 0)) #[])),
  ((nat_lit 44), (Obj.mk (Value.type "tuple") none (Data.seq #[(Value.str (Str.ofString "at") 224), (Value.str (Str.ofString "what") 225)] 0) #[])),
  ((nat_lit 45), (Obj.mk (Value.type "dict") none (Data.dict #[(DictEntry.mk (PyData.keyHash P (Str.ofString "__module__")) (Value.str (Str.ofString "__module__") 203) (Value.str (Str.ofString "octetmint.basics") 194)), (DictEntry.mk (PyData.keyHash P (Str.ofString "__firstlineno__")) (Value.str (Str.ofString "__firstlineno__") 207) (Value.int (5 : Int) 206)), (DictEntry.mk (PyData.keyHash P (Str.ofString "__init__")) (Value.str (Str.ofString "__init__") 216) (Value.ref 36)), (DictEntry.mk (PyData.keyHash P (Str.ofString "told")) (Value.str (Str.ofString "told") 223) (Value.ref 43)), (DictEntry.mk (PyData.keyHash P (Str.ofString "__static_attributes__")) (Value.str (Str.ofString "__static_attributes__") 226) (Value.ref 44)), (DictEntry.mk (PyData.keyHash P (Str.ofString "__weakref__")) (Value.str (Str.ofString "__weakref__") 228) (Value.ref 47)), (DictEntry.mk (PyData.keyHash P (Str.ofString "__doc__")) (Value.str (Str.ofString "__doc__") 229) Value.none)] 3) #[])),
  ((nat_lit 46), (Obj.mk (Value.type "type") none (Data.cls (ClassData.mk (Str.ofString "MintError") [(Value.type "Exception")] [(Value.ref 46), (Value.type "Exception"), (Value.type "BaseException"), (Value.type "object")] 45 (Str.ofString "MintError") Bool.true [] [(Value.ref 59)] Bool.false none Bool.false)) #[(some (Value.ref 22)), none, (some (Value.str (Str.ofString "MintError") 196)), (some (Value.str (Str.ofString "MintError") 204)), (some (Value.builtin "Exception.__new__")), (some (Value.bool Bool.true))])),
  ((nat_lit 47), (Obj.mk (Value.type "getset_descriptor") none (Data.fields #[(Value.str (Str.ofString "__weakref__") 227), (Value.ref 46), (Value.builtin "ExceptionGroup.__weakref__"), Value.none]) #[])),
  ((nat_lit 50), (Obj.mk (Value.type "tuple") none (Data.seq #[(Value.ref 46)] 0) #[])),
  ((nat_lit 57), (Obj.mk (Value.type "tuple") none (Data.seq #[] 0) #[])),
  ((nat_lit 58), (Obj.mk (Value.type "dict") none (Data.dict #[(DictEntry.mk (PyData.keyHash P (Str.ofString "__module__")) (Value.str (Str.ofString "__module__") 241) (Value.str (Str.ofString "octetmint.basics") 194)), (DictEntry.mk (PyData.keyHash P (Str.ofString "__firstlineno__")) (Value.str (Str.ofString "__firstlineno__") 245) (Value.int (16 : Int) 244)), (DictEntry.mk (PyData.keyHash P (Str.ofString "__static_attributes__")) (Value.str (Str.ofString "__static_attributes__") 246) (Value.ref 57)), (DictEntry.mk (PyData.keyHash P (Str.ofString "__doc__")) (Value.str (Str.ofString "__doc__") 247) Value.none)] 2) #[])),
  ((nat_lit 59), (Obj.mk (Value.type "type") none (Data.cls (ClassData.mk (Str.ofString "MachineError") [(Value.ref 46)] [(Value.ref 59), (Value.ref 46), (Value.type "Exception"), (Value.type "BaseException"), (Value.type "object")] 58 (Str.ofString "MachineError") Bool.true [] [] Bool.false none Bool.false)) #[(some (Value.ref 50)), none, (some (Value.str (Str.ofString "MachineError") 234)), (some (Value.str (Str.ofString "MachineError") 242)), (some (Value.builtin "Exception.__new__")), (some (Value.bool Bool.true))])),
  ((nat_lit 62), (Obj.mk (Value.type "tuple") none (Data.seq #[] 0) #[])),
  ((nat_lit 64), (Obj.mk (Value.type "tuple") none (Data.seq #[(Value.str (Str.ofString "size") 253)] 0) #[])),
  ((nat_lit 65), (Obj.mk (Value.type "tuple") none (Data.seq #[] 0) #[])),
  ((nat_lit 67), (Obj.mk (Value.type "code") none (Data.fields #[(Value.str (Str.ofString "mask") 250), (Value.str (Str.ofString "mask") 251), (Value.str (Str.ofString "/claim/cut.py") 252), (Value.int (18 : Int) 0), (Value.int (1 : Int) 0), (Value.int (0 : Int) 0), (Value.int (0 : Int) 0), (Value.int (3 : Int) 0), (Value.ref 62), (Value.bool Bool.true), (Value.int (181 : Int) 0), (Value.ref 63), Value.none, (Value.ref 64), (Value.ref 65), (Value.ref 66), (Value.int (254 : Int) 0), (Value.int (18 : Int) 0), (Value.str (Str.ofString "/claim/cut.py") 255)]) #[])),
  ((nat_lit 68), (Obj.mk (Value.type "function") none (Data.func (FuncData.mk (Str.ofString "mask") (Str.ofString "mask") (fA (hd1 b4)) ((fB (hd1 b4))) (fS (hd1 b4)) 3 [] Value.none Value.none Value.none (Value.str (Str.ofString "octetmint.basics") 194) none (Value.ref 67) Value.none 0)) #[])),
  ((nat_lit 69), (Obj.mk (Value.type "tuple") none (Data.seq #[] 0) #[])),
  ((nat_lit 71), (Obj.mk (Value.type "tuple") none (Data.seq #[(Value.str (Str.ofString "worth") 260), (Value.str (Str.ofString "size") 261)] 0) #[])),
  ((nat_lit 72), (Obj.mk (Value.type "tuple") none (Data.seq #[] 0) #[])),
  ((nat_lit 74), (Obj.mk (Value.type "code") none (Data.fields #[(Value.str (Str.ofString "wrap") 257), (Value.str (Str.ofString "wrap") 258), (Value.str (Str.ofString "/claim/cut.py") 259), (Value.int (20 : Int) 0), (Value.int (2 : Int) 0), (Value.int (0 : Int) 0), (Value.int (0 : Int) 0), (Value.int (3 : Int) 0), (Value.ref 69), (Value.bool Bool.true), (Value.int (181 : Int) 0), (Value.ref 70), Value.none, (Value.ref 71), (Value.ref 72), (Value.ref 73), (Value.int (262 : Int) 0), (Value.int (20 : Int) 0), (Value.str (Str.ofString "/claim/cut.py") 263)]) #[])),
  ((nat_lit 75), (Obj.mk (Value.type "function") none (Data.func (FuncData.mk (Str.ofString "wrap") (Str.ofString "wrap") (fA (hd1 b5)) ((fB (hd1 b5))) (fS (hd1 b5)) 3 [] Value.none Value.none Value.none (Value.str (Str.ofString "octetmint.basics") 194) none (Value.ref 74) Value.none 0)) #[])),
  ((nat_lit 76), (Obj.mk (Value.type "tuple") none (Data.seq #[] 0) #[])),
  ((nat_lit 78), (Obj.mk (Value.type "tuple") none (Data.seq #[(Value.str (Str.ofString "worth") 268), (Value.str (Str.ofString "n") 269)] 0) #[])),
  ((nat_lit 79), (Obj.mk (Value.type "tuple") none (Data.seq #[] 0) #[])),
  ((nat_lit 81), (Obj.mk (Value.type "code") none (Data.fields #[(Value.str (Str.ofString "bit") 265), (Value.str (Str.ofString "bit") 266), (Value.str (Str.ofString "/claim/cut.py") 267), (Value.int (22 : Int) 0), (Value.int (2 : Int) 0), (Value.int (0 : Int) 0), (Value.int (0 : Int) 0), (Value.int (3 : Int) 0), (Value.ref 76), (Value.bool Bool.true), (Value.int (181 : Int) 0), (Value.ref 77), Value.none, (Value.ref 78), (Value.ref 79), (Value.ref 80), (Value.int (270 : Int) 0), (Value.int (22 : Int) 0), (Value.str (Str.ofString "/claim/cut.py") 271)]) #[])),
  ((nat_lit 82), (Obj.mk (Value.type "function") none (Data.func (FuncData.mk (Str.ofString "bit") (Str.ofString "bit") (fA (hd1 b6)) ((fB (hd1 b6))) (fS (hd1 b6)) 3 [] Value.none Value.none Value.none (Value.str (Str.ofString "octetmint.basics") 194) none (Value.ref 81) Value.none 0)) #[])),
  ((nat_lit 83), (Obj.mk (Value.type "tuple") none (Data.seq #[] 0) #[])),
  ((nat_lit 85), (Obj.mk (Value.type "tuple") none (Data.seq #[(Value.str (Str.ofString "worth") 276), (Value.str (Str.ofString "size") 277), (Value.str (Str.ofString "rest") 278), (Value.str (Str.ofString "count") 279)] 0) #[])),
  ((nat_lit 86), (Obj.mk (Value.type "tuple") none (Data.seq #[] 0) #[])),
  ((nat_lit 88), (Obj.mk (Value.type "code") none (Data.fields #[(Value.str (Str.ofString "ones") 273), (Value.str (Str.ofString "ones") 274), (Value.str (Str.ofString "/claim/cut.py") 275), (Value.int (24 : Int) 0), (Value.int (2 : Int) 0), (Value.int (0 : Int) 0), (Value.int (0 : Int) 0), (Value.int (3 : Int) 0), (Value.ref 83), (Value.bool Bool.true), (Value.int (181 : Int) 0), (Value.ref 84), Value.none, (Value.ref 85), (Value.ref 86), (Value.ref 87), (Value.int (280 : Int) 0), (Value.int (24 : Int) 0), (Value.str (Str.ofString "/claim/cut.py") 281)]) #[])),
  ((nat_lit 89), (Obj.mk (Value.type "function") none (Data.func (FuncData.mk (Str.ofString "ones") (Str.ofString "ones") (fA (hd1 b7)) ((fB (hd1 b7))) (fS (hd1 b7)) 3 [] Value.none Value.none Value.none (Value.str (Str.ofString "octetmint.basics") 194) none (Value.ref 88) Value.none 0)) #[])),
  ((nat_lit 90), (Obj.mk (Value.type "tuple") none (Data.seq #[] 0) #[])),
  ((nat_lit 92), (Obj.mk (Value.type "tuple") none (Data.seq #[(Value.str (Str.ofString "worth") 286)] 0) #[])),
  ((nat_lit 93), (Obj.mk (Value.type "tuple") none (Data.seq #[] 0) #[])),
  ((nat_lit 95), (Obj.mk (Value.type "code") none (Data.fields #[(Value.str (Str.ofString "parity") 283), (Value.str (Str.ofString "parity") 284), (Value.str (Str.ofString "/claim/cut.py") 285), (Value.int (31 : Int) 0), (Value.int (1 : Int) 0), (Value.int (0 : Int) 0), (Value.int (0 : Int) 0), (Value.int (3 : Int) 0), (Value.ref 90), (Value.bool Bool.true), (Value.int (181 : Int) 0), (Value.ref 91), Value.none, (Value.ref 92), (Value.ref 93), (Value.ref 94), (Value.int (287 : Int) 0), (Value.int (31 : Int) 0), (Value.str (Str.ofString "/claim/cut.py") 288)]) #[])),
  ((nat_lit 96), (Obj.mk (Value.type "function") none (Data.func (FuncData.mk (Str.ofString "parity") (Str.ofString "parity") (fA (hd1 b8)) ((fB (hd1 b8))) (fS (hd1 b8)) 3 [] Value.none Value.none Value.none (Value.str (Str.ofString "octetmint.basics") 194) none (Value.ref 95) Value.none 0)) #[])),
  ((nat_lit 104), (Obj.mk (Value.type "tuple") none (Data.seq #[] 0) #[])),
  ((nat_lit 106), (Obj.mk (Value.type "tuple") none (Data.seq #[(Value.str (Str.ofString "self") 323)] 0) #[])),
  ((nat_lit 107), (Obj.mk (Value.type "tuple") none (Data.seq #[] 0) #[])),
  ((nat_lit 109), (Obj.mk (Value.type "code") none (Data.fields #[(Value.str (Str.ofString "__init__") 320), (Value.str (Str.ofString "Flags.__init__") 321), (Value.str (Str.ofString "/claim/cut.py") 322), (Value.int (44 : Int) 0), (Value.int (1 : Int) 0), (Value.int (0 : Int) 0), (Value.int (0 : Int) 0), (Value.int (3 : Int) 0), (Value.ref 104), (Value.bool Bool.true), (Value.int (181 : Int) 0), (Value.ref 105), Value.none, (Value.ref 106), (Value.ref 107), (Value.ref 108), (Value.int (324 : Int) 0), (Value.int (44 : Int) 0), (Value.str (Str.ofString "/claim/cut.py") 325)]) #[])),
  ((nat_lit 110), (Obj.mk (Value.type "function") none (Data.func (FuncData.mk (Str.ofString "__init__") (Str.ofString "Flags.__init__") (fA (hd1 (cB (hd1 b18)))) ((fB (hd1 (cB (hd1 b18))))) (fS (hd1 (tl1 (cB (hd1 b2))))) 3 [] Value.none Value.none Value.none (Value.str (Str.ofString "octetmint.flags") 290) none (Value.ref 109) Value.none 0)) #[])),
  ((nat_lit 111), (Obj.mk (Value.type "tuple") none (Data.seq #[] 0) #[])),
  ((nat_lit 113), (Obj.mk (Value.type "tuple") none (Data.seq #[(Value.str (Str.ofString "self") 330)] 0) #[])),
  ((nat_lit 114), (Obj.mk (Value.type "tuple") none (Data.seq #[] 0) #[])),
  ((nat_lit 116), (Obj.mk (Value.type "code") none (Data.fields #[(Value.str (Str.ofString "told") 327), (Value.str (Str.ofString "Flags.told") 328), (Value.str (Str.ofString "/claim/cut.py") 329), (Value.int (53 : Int) 0), (Value.int (1 : Int) 0), (Value.int (0 : Int) 0), (Value.int (0 : Int) 0), (Value.int (3 : Int) 0), (Value.ref 111), (Value.bool Bool.true), (Value.int (181 : Int) 0), (Value.ref 112), Value.none, (Value.ref 113), (Value.ref 114), (Value.ref 115), (Value.int (331 : Int) 0), (Value.int (53 : Int) 0), (Value.str (Str.ofString "/claim/cut.py") 332)]) #[])),
  ((nat_lit 117), (Obj.mk (Value.type "function") none (Data.func (FuncData.mk (Str.ofString "told") (Str.ofString "Flags.told") (fA (hd1 (tl1 (cB (hd1 b18))))) ((fB (hd1 (tl1 (cB (hd1 b18)))))) (fS (hd1 (tl1 (cB (hd1 b2))))) 3 [] Value.none Value.none Value.none (Value.str (Str.ofString "octetmint.flags") 290) none (Value.ref 116) Value.none 0)) #[])),
  ((nat_lit 118), (Obj.mk (Value.type "tuple") none (Data.seq #[] 0) #[])),
  ((nat_lit 120), (Obj.mk (Value.type "tuple") none (Data.seq #[(Value.str (Str.ofString "self") 337), (Value.str (Str.ofString "low") 338)] 0) #[])),
  ((nat_lit 121), (Obj.mk (Value.type "tuple") none (Data.seq #[] 0) #[])),
  ((nat_lit 123), (Obj.mk (Value.type "code") none (Data.fields #[(Value.str (Str.ofString "pack") 334), (Value.str (Str.ofString "Flags.pack") 335), (Value.str (Str.ofString "/claim/cut.py") 336), (Value.int (56 : Int) 0), (Value.int (1 : Int) 0), (Value.int (0 : Int) 0), (Value.int (0 : Int) 0), (Value.int (3 : Int) 0), (Value.ref 118), (Value.bool Bool.true), (Value.int (181 : Int) 0), (Value.ref 119), Value.none, (Value.ref 120), (Value.ref 121), (Value.ref 122), (Value.int (339 : Int) 0), (Value.int (56 : Int) 0), (Value.str (Str.ofString "/claim/cut.py") 340)]) #[])),
  ((nat_lit 124), (Obj.mk (Value.type "function") none (Data.func (FuncData.mk (Str.ofString "pack") (Str.ofString "Flags.pack") (fA (hd1 (tl1 (tl1 (cB (hd1 b18)))))) ((fB (hd1 (tl1 (tl1 (cB (hd1 b18))))))) (fS (hd1 (tl1 (tl1 (cB (hd1 b18)))))) 3 [] Value.none Value.none Value.none (Value.str (Str.ofString "octetmint.flags") 290) none (Value.ref 123) Value.none 0)) #[])),
  ((nat_lit 125), (Obj.mk (Value.type "tuple") none (Data.seq #[] 0) #[])),
  ((nat_lit 127), (Obj.mk (Value.type "tuple") none (Data.seq #[(Value.str (Str.ofString "self") 345), (Value.str (Str.ofString "number") 346)] 0) #[])),
  ((nat_lit 128), (Obj.mk (Value.type "tuple") none (Data.seq #[] 0) #[])),
  ((nat_lit 130), (Obj.mk (Value.type "code") none (Data.fields #[(Value.str (Str.ofString "unpack") 342), (Value.str (Str.ofString "Flags.unpack") 343), (Value.str (Str.ofString "/claim/cut.py") 344), (Value.int (60 : Int) 0), (Value.int (2 : Int) 0), (Value.int (0 : Int) 0), (Value.int (0 : Int) 0), (Value.int (3 : Int) 0), (Value.ref 125), (Value.bool Bool.true), (Value.int (181 : Int) 0), (Value.ref 126), Value.none, (Value.ref 127), (Value.ref 128), (Value.ref 129), (Value.int (347 : Int) 0), (Value.int (60 : Int) 0), (Value.str (Str.ofString "/claim/cut.py") 348)]) #[])),
  ((nat_lit 131), (Obj.mk (Value.type "function") none (Data.func (FuncData.mk (Str.ofString "unpack") (Str.ofString "Flags.unpack") (fA (hd1 (tl1 (tl1 (tl1 (cB (hd1 b18))))))) ((fB (hd1 (tl1 (tl1 (tl1 (cB (hd1 b18)))))))) (fS (hd1 (tl1 (tl1 (tl1 (cB (hd1 b18))))))) 3 [] Value.none Value.none Value.none (Value.str (Str.ofString "octetmint.flags") 290) none (Value.ref 130) Value.none 0)) #[])),
  ((nat_lit 132), (Obj.mk (Value.type "tuple") none (Data.seq #[] 0) #[])),
  ((nat_lit 134), (Obj.mk (Value.type "tuple") none (Data.seq #[(Value.str (Str.ofString "self") 353), (Value.str (Str.ofString "octet") 354)] 0) #[])),
  ((nat_lit 135), (Obj.mk (Value.type "tuple") none (Data.seq #[] 0) #[])),
  ((nat_lit 137), (Obj.mk (Value.type "code") none (Data.fields #[(Value.str (Str.ofString "unpack_low") 350), (Value.str (Str.ofString "Flags.unpack_low") 351), (Value.str (Str.ofString "/claim/cut.py") 352), (Value.int (63 : Int) 0), (Value.int (2 : Int) 0), (Value.int (0 : Int) 0), (Value.int (0 : Int) 0), (Value.int (3 : Int) 0), (Value.ref 132), (Value.bool Bool.true), (Value.int (181 : Int) 0), (Value.ref 133), Value.none, (Value.ref 134), (Value.ref 135), (Value.ref 136), (Value.int (355 : Int) 0), (Value.int (63 : Int) 0), (Value.str (Str.ofString "/claim/cut.py") 356)]) #[])),
  ((nat_lit 138), (Obj.mk (Value.type "function") none (Data.func (FuncData.mk (Str.ofString "unpack_low") (Str.ofString "Flags.unpack_low") (fA (hd1 (tl1 (tl1 (tl1 (tl1 (cB (hd1 b18)))))))) ((fB (hd1 (tl1 (tl1 (tl1 (tl1 (cB (hd1 b18))))))))) (fS (hd1 (tl1 (tl1 (tl1 (tl1 (cB (hd1 b18)))))))) 3 [] Value.none Value.none Value.none (Value.str (Str.ofString "octetmint.flags") 290) none (Value.ref 137) Value.none 0)) #[])),
  ((nat_lit 139), (Obj.mk (Value.type "tuple") none (Data.seq #[] 0) #[])),
  ((nat_lit 141), (Obj.mk (Value.type "tuple") none (Data.seq #[(Value.str (Str.ofString "self") 361)] 0) #[])),
  ((nat_lit 142), (Obj.mk (Value.type "tuple") none (Data.seq #[] 0) #[])),
  ((nat_lit 144), (Obj.mk (Value.type "code") none (Data.fields #[(Value.str (Str.ofString "copy") 358), (Value.str (Str.ofString "Flags.copy") 359), (Value.str (Str.ofString "/claim/cut.py") 360), (Value.int (66 : Int) 0), (Value.int (1 : Int) 0), (Value.int (0 : Int) 0), (Value.int (0 : Int) 0), (Value.int (3 : Int) 0), (Value.ref 139), (Value.bool Bool.true), (Value.int (181 : Int) 0), (Value.ref 140), Value.none, (Value.ref 141), (Value.ref 142), (Value.ref 143), (Value.int (362 : Int) 0), (Value.int (66 : Int) 0), (Value.str (Str.ofString "/claim/cut.py") 363)]) #[])),
  ((nat_lit 145), (Obj.mk (Value.type "function") none (Data.func (FuncData.mk (Str.ofString "copy") (Str.ofString "Flags.copy") (fA (hd1 (tl1 (tl1 (tl1 (tl1 (tl1 (cB (hd1 b18))))))))) ((fB (hd1 (tl1 (tl1 (tl1 (tl1 (tl1 (cB (hd1 b18)))))))))) (fS (hd1 (tl1 (tl1 (tl1 (tl1 (tl1 (cB (hd1 b18))))))))) 3 [] Value.none Value.none Value.none (Value.str (Str.ofString "octetmint.flags") 290) none (Value.ref 144) Value.none 0)) #[])),
  ((nat_lit 146), (Obj.mk (Value.type "tuple") none (Data.seq #[] 0) #[])),
  ((nat_lit 148), (Obj.mk (Value.type "tuple") none (Data.seq #[(Value.str (Str.ofString "self") 368), (Value.str (Str.ofString "name") 369), (Value.str (Str.ofString "names") 370)] 0) #[])),
  ((nat_lit 149), (Obj.mk (Value.type "tuple") none (Data.seq #[] 0) #[])),
  ((nat_lit 151), (Obj.mk (Value.type "code") none (Data.fields #[(Value.str (Str.ofString "get") 365), (Value.str (Str.ofString "Flags.get") 366), (Value.str (Str.ofString "/claim/cut.py") 367), (Value.int (69 : Int) 0), (Value.int (2 : Int) 0), (Value.int (0 : Int) 0), (Value.int (0 : Int) 0), (Value.int (3 : Int) 0), (Value.ref 146), (Value.bool Bool.true), (Value.int (181 : Int) 0), (Value.ref 147), Value.none, (Value.ref 148), (Value.ref 149), (Value.ref 150), (Value.int (371 : Int) 0), (Value.int (69 : Int) 0), (Value.str (Str.ofString "/claim/cut.py") 372)]) #[])),
  ((nat_lit 152), (Obj.mk (Value.type "function") none (Data.func (FuncData.mk (Str.ofString "get") (Str.ofString "Flags.get") (fA (hd1 (tl1 (tl1 (tl1 (tl1 (tl1 (tl1 (cB (hd1 b18)))))))))) ((fB (hd1 (tl1 (tl1 (tl1 (tl1 (tl1 (tl1 (cB (hd1 b18))))))))))) (fS (hd1 (tl1 (tl1 (tl1 (tl1 (tl1 (tl1 (cB (hd1 b18)))))))))) 3 [] Value.none Value.none Value.none (Value.str (Str.ofString "octetmint.flags") 290) none (Value.ref 151) Value.none 0)) #[])),
  ((nat_lit 153), (Obj.mk (Value.type "tuple") none (Data.seq #[] 0) #[])),
  ((nat_lit 155), (Obj.mk (Value.type "tuple") none (Data.seq #[(Value.str (Str.ofString "self") 377), (Value.str (Str.ofString "name") 378), (Value.str (Str.ofString "worth") 379)] 0) #[])),
  ((nat_lit 156), (Obj.mk (Value.type "tuple") none (Data.seq #[] 0) #[])),
  ((nat_lit 158), (Obj.mk (Value.type "code") none (Data.fields #[(Value.str (Str.ofString "put") 374), (Value.str (Str.ofString "Flags.put") 375), (Value.str (Str.ofString "/claim/cut.py") 376), (Value.int (75 : Int) 0), (Value.int (3 : Int) 0), (Value.int (0 : Int) 0), (Value.int (0 : Int) 0), (Value.int (3 : Int) 0), (Value.ref 153), (Value.bool Bool.true), (Value.int (181 : Int) 0), (Value.ref 154), Value.none, (Value.ref 155), (Value.ref 156), (Value.ref 157), (Value.int (380 : Int) 0), (Value.int (75 : Int) 0), (Value.str (Str.ofString "/claim/cut.py") 381)]) #[])),
  ((nat_lit 159), (Obj.mk (Value.type "function") none (Data.func (FuncData.mk (Str.ofString "put") (Str.ofString "Flags.put") (fA (hd1 (tl1 (tl1 (tl1 (tl1 (tl1 (tl1 (tl1 (cB (hd1 b18))))))))))) ((fB (hd1 (tl1 (tl1 (tl1 (tl1 (tl1 (tl1 (tl1 (cB (hd1 b18)))))))))))) (fS (hd1 (tl1 (tl1 (tl1 (tl1 (tl1 (tl1 (tl1 (cB (hd1 b18))))))))))) 3 [] Value.none Value.none Value.none (Value.str (Str.ofString "octetmint.flags") 290) none (Value.ref 158) Value.none 0)) #[])),
  ((nat_lit 160), (Obj.mk (Value.type "tuple") none (Data.seq #[] 0) #[])),
  ((nat_lit 162), (Obj.mk (Value.type "tuple") none (Data.seq #[(Value.str (Str.ofString "self") 386)] 0) #[])),
  ((nat_lit 163), (Obj.mk (Value.type "tuple") none (Data.seq #[] 0) #[])),
  ((nat_lit 165), (Obj.mk (Value.type "code") none (Data.fields #[(Value.str (Str.ofString "show") 383), (Value.str (Str.ofString "Flags.show") 384), (Value.str (Str.ofString "/claim/cut.py") 385), (Value.int (78 : Int) 0), (Value.int (1 : Int) 0), (Value.int (0 : Int) 0), (Value.int (0 : Int) 0), (Value.int (3 : Int) 0), (Value.ref 160), (Value.bool Bool.true), (Value.int (181 : Int) 0), (Value.ref 161), Value.none, (Value.ref 162), (Value.ref 163), (Value.ref 164), (Value.int (387 : Int) 0), (Value.int (78 : Int) 0), (Value.str (Str.ofString "/claim/cut.py") 388)]) #[])),
  ((nat_lit 166), (Obj.mk (Value.type "function") none (Data.func (FuncData.mk (Str.ofString "show") (Str.ofString "Flags.show") (fA (hd1 (tl1 (tl1 (tl1 (tl1 (tl1 (tl1 (tl1 (tl1 (cB (hd1 b18)))))))))))) ((fB (hd1 (tl1 (tl1 (tl1 (tl1 (tl1 (tl1 (tl1 (tl1 (cB (hd1 b18))))))))))))) (fS (hd1 (tl1 (tl1 (tl1 (tl1 (tl1 (cB (hd1 b18))))))))) 3 [] Value.none Value.none Value.none (Value.str (Str.ofString "octetmint.flags") 290) none (Value.ref 165) Value.none 0)) #[])),
  ((nat_lit 167), (Obj.mk (Value.type "tuple") none (Data.seq #[(Value.str (Str.ofString "af") 390), (Value.str (Str.ofString "cf") 391), (Value.str (Str.ofString "df") 392), (Value.str (Str.ofString "of") 393), (Value.str (Str.ofString "pf") 394), (Value.str (Str.ofString "sf") 395), (Value.str (Str.ofString "zf") 396)] 0) #[])),
  ((nat_lit 168), (Obj.mk (Value.type "dict") none (Data.dict #[(DictEntry.mk (PyData.keyHash P (Str.ofString "__module__")) (Value.str (Str.ofString "__module__") 315) (Value.str (Str.ofString "octetmint.flags") 290)), (DictEntry.mk (PyData.keyHash P (Str.ofString "__firstlineno__")) (Value.str (Str.ofString "__firstlineno__") 319) (Value.int (42 : Int) 318)), (DictEntry.mk (PyData.keyHash P (Str.ofString "__init__")) (Value.str (Str.ofString "__init__") 326) (Value.ref 110)), (DictEntry.mk (PyData.keyHash P (Str.ofString "told")) (Value.str (Str.ofString "told") 333) (Value.ref 117)), (DictEntry.mk (PyData.keyHash P (Str.ofString "pack")) (Value.str (Str.ofString "pack") 341) (Value.ref 124)), (DictEntry.mk (PyData.keyHash P (Str.ofString "unpack")) (Value.str (Str.ofString "unpack") 349) (Value.ref 131)), (DictEntry.mk (PyData.keyHash P (Str.ofString "unpack_low")) (Value.str (Str.ofString "unpack_low") 357) (Value.ref 138)), (DictEntry.mk (PyData.keyHash P (Str.ofString "copy")) (Value.str (Str.ofString "copy") 364) (Value.ref 145)), (DictEntry.mk (PyData.keyHash P (Str.ofString "get")) (Value.str (Str.ofString "get") 373) (Value.ref 152)), (DictEntry.mk (PyData.keyHash P (Str.ofString "put")) (Value.str (Str.ofString "put") 382) (Value.ref 159)), (DictEntry.mk (PyData.keyHash P (Str.ofString "show")) (Value.str (Str.ofString "show") 389) (Value.ref 166)), (DictEntry.mk (PyData.keyHash P (Str.ofString "__static_attributes__")) (Value.str (Str.ofString "__static_attributes__") 397) (Value.ref 167)), (DictEntry.mk (PyData.keyHash P (Str.ofString "__dict__")) (Value.str (Str.ofString "__dict__") 399) (Value.ref 170)), (DictEntry.mk (PyData.keyHash P (Str.ofString "__weakref__")) (Value.str (Str.ofString "__weakref__") 401) (Value.ref 171)), (DictEntry.mk (PyData.keyHash P (Str.ofString "__doc__")) (Value.str (Str.ofString "__doc__") 402) Value.none)] 4) #[])),
  ((nat_lit 169), (Obj.mk (Value.type "type") none (Data.cls (ClassData.mk (Str.ofString "Flags") [(Value.type "object")] [(Value.ref 169), (Value.type "object")] 168 (Str.ofString "Flags") Bool.true [] [] Bool.false none Bool.false)) #[none, none, (some (Value.str (Str.ofString "Flags") 308)), (some (Value.str (Str.ofString "Flags") 316)), (some (Value.builtin "object.__new__")), (some (Value.bool Bool.true))])),
  ((nat_lit 170), (Obj.mk (Value.type "getset_descriptor") none (Data.fields #[(Value.str (Str.ofString "__dict__") 398), (Value.ref 169), (Value.builtin "function.__dict__"), (Value.builtin "function.__dict__#set")]) #[])),
  ((nat_lit 171), (Obj.mk (Value.type "getset_descriptor") none (Data.fields #[(Value.str (Str.ofString "__weakref__") 400), (Value.ref 169), (Value.builtin "ExceptionGroup.__weakref__"), Value.none]) #[])),
  ((nat_lit 174), (Obj.mk (Value.type "tuple") none (Data.seq #[] 0) #[])),
  ((nat_lit 176), (Obj.mk (Value.type "tuple") none (Data.seq #[(Value.str (Str.ofString "flags") 408), (Value.str (Str.ofString "result") 409), (Value.str (Str.ofString "size") 410), (Value.str (Str.ofString "told") 411)] 0) #[])),
  ((nat_lit 177), (Obj.mk (Value.type "tuple") none (Data.seq #[] 0) #[])),
  ((nat_lit 179), (Obj.mk (Value.type "code") none (Data.fields #[(Value.str (Str.ofString "szp") 405), (Value.str (Str.ofString "szp") 406), (Value.str (Str.ofString "/claim/cut.py") 407), (Value.int (80 : Int) 0), (Value.int (3 : Int) 0), (Value.int (0 : Int) 0), (Value.int (0 : Int) 0), (Value.int (3 : Int) 0), (Value.ref 174), (Value.bool Bool.true), (Value.int (181 : Int) 0), (Value.ref 175), Value.none, (Value.ref 176), (Value.ref 177), (Value.ref 178), (Value.int (412 : Int) 0), (Value.int (80 : Int) 0), (Value.str (Str.ofString "/claim/cut.py") 413)]) #[])),
  ((nat_lit 180), (Obj.mk (Value.type "function") none (Data.func (FuncData.mk (Str.ofString "szp") (Str.ofString "szp") (fA (hd1 b19)) ((fB (hd1 b19))) (fS (hd1 b19)) 3 [] Value.none Value.none Value.none (Value.str (Str.ofString "octetmint.flags") 290) none (Value.ref 179) Value.none 0)) #[])),
  ((nat_lit 181), (Obj.mk (Value.type "tuple") none (Data.seq #[] 0) #[])),
  ((nat_lit 183), (Obj.mk (Value.type "tuple") none (Data.seq #[(Value.str (Str.ofString "flags") 418), (Value.str (Str.ofString "a") 419), (Value.str (Str.ofString "b") 420), (Value.str (Str.ofString "carry") 421), (Value.str (Str.ofString "size") 422), (Value.str (Str.ofString "one") 423), (Value.str (Str.ofString "two") 424), (Value.str (Str.ofString "total") 425), (Value.str (Str.ofString "result") 426)] 0) #[])),
  ((nat_lit 184), (Obj.mk (Value.type "tuple") none (Data.seq #[] 0) #[])),
  ((nat_lit 186), (Obj.mk (Value.type "code") none (Data.fields #[(Value.str (Str.ofString "add_flags") 415), (Value.str (Str.ofString "add_flags") 416), (Value.str (Str.ofString "/claim/cut.py") 417), (Value.int (86 : Int) 0), (Value.int (5 : Int) 0), (Value.int (0 : Int) 0), (Value.int (0 : Int) 0), (Value.int (3 : Int) 0), (Value.ref 181), (Value.bool Bool.true), (Value.int (181 : Int) 0), (Value.ref 182), Value.none, (Value.ref 183), (Value.ref 184), (Value.ref 185), (Value.int (427 : Int) 0), (Value.int (86 : Int) 0), (Value.str (Str.ofString "/claim/cut.py") 428)]) #[])),
  ((nat_lit 187), (Obj.mk (Value.type "function") none (Data.func (FuncData.mk (Str.ofString "add_flags") (Str.ofString "add_flags") (fA (hd1 b20)) ((fB (hd1 b20))) (fS (hd1 b20)) 3 [] Value.none Value.none Value.none (Value.str (Str.ofString "octetmint.flags") 290) none (Value.ref 186) Value.none 0)) #[])),
  ((nat_lit 188), (Obj.mk (Value.type "tuple") none (Data.seq #[] 0) #[])),
  ((nat_lit 190), (Obj.mk (Value.type "tuple") none (Data.seq #[(Value.str (Str.ofString "flags") 433), (Value.str (Str.ofString "a") 434), (Value.str (Str.ofString "b") 435), (Value.str (Str.ofString "borrow") 436), (Value.str (Str.ofString "size") 437), (Value.str (Str.ofString "one") 438), (Value.str (Str.ofString "two") 439), (Value.str (Str.ofString "rest") 440), (Value.str (Str.ofString "result") 441)] 0) #[])),
  ((nat_lit 191), (Obj.mk (Value.type "tuple") none (Data.seq #[] 0) #[])),
  ((nat_lit 193), (Obj.mk (Value.type "code") none (Data.fields #[(Value.str (Str.ofString "sub_flags") 430), (Value.str (Str.ofString "sub_flags") 431), (Value.str (Str.ofString "/claim/cut.py") 432), (Value.int (94 : Int) 0), (Value.int (5 : Int) 0), (Value.int (0 : Int) 0), (Value.int (0 : Int) 0), (Value.int (3 : Int) 0), (Value.ref 188), (Value.bool Bool.true), (Value.int (181 : Int) 0), (Value.ref 189), Value.none, (Value.ref 190), (Value.ref 191), (Value.ref 192), (Value.int (442 : Int) 0), (Value.int (94 : Int) 0), (Value.str (Str.ofString "/claim/cut.py") 443)]) #[])),
  ((nat_lit 194), (Obj.mk (Value.type "function") none (Data.func (FuncData.mk (Str.ofString "sub_flags") (Str.ofString "sub_flags") (fA (hd1 b21)) ((fB (hd1 b21))) (fS (hd1 b21)) 3 [] Value.none Value.none Value.none (Value.str (Str.ofString "octetmint.flags") 290) none (Value.ref 193) Value.none 0)) #[])),
  ((nat_lit 195), (Obj.mk (Value.type "tuple") none (Data.seq #[] 0) #[])),
  ((nat_lit 197), (Obj.mk (Value.type "tuple") none (Data.seq #[(Value.str (Str.ofString "flags") 448), (Value.str (Str.ofString "result") 449), (Value.str (Str.ofString "size") 450)] 0) #[])),
  ((nat_lit 198), (Obj.mk (Value.type "tuple") none (Data.seq #[] 0) #[])),
  ((nat_lit 200), (Obj.mk (Value.type "code") none (Data.fields #[(Value.str (Str.ofString "logic_flags") 445), (Value.str (Str.ofString "logic_flags") 446), (Value.str (Str.ofString "/claim/cut.py") 447), (Value.int (102 : Int) 0), (Value.int (3 : Int) 0), (Value.int (0 : Int) 0), (Value.int (0 : Int) 0), (Value.int (3 : Int) 0), (Value.ref 195), (Value.bool Bool.true), (Value.int (181 : Int) 0), (Value.ref 196), Value.none, (Value.ref 197), (Value.ref 198), (Value.ref 199), (Value.int (451 : Int) 0), (Value.int (102 : Int) 0), (Value.str (Str.ofString "/claim/cut.py") 452)]) #[])),
  ((nat_lit 201), (Obj.mk (Value.type "function") none (Data.func (FuncData.mk (Str.ofString "logic_flags") (Str.ofString "logic_flags") (fA (hd1 b22)) ((fB (hd1 b22))) (fS (hd1 b22)) 3 [] Value.none Value.none Value.none (Value.str (Str.ofString "octetmint.flags") 290) none (Value.ref 200) Value.none 0)) #[])),
  ((nat_lit 202), (Obj.mk (Value.type "tuple") none (Data.seq #[] 0) #[])),
  ((nat_lit 204), (Obj.mk (Value.type "tuple") none (Data.seq #[(Value.str (Str.ofString "flags") 459), (Value.str (Str.ofString "name") 460), (Value.str (Str.ofString "a") 461), (Value.str (Str.ofString "b") 462), (Value.str (Str.ofString "size") 463)] 0) #[])),
  ((nat_lit 205), (Obj.mk (Value.type "tuple") none (Data.seq #[] 0) #[])),
  ((nat_lit 207), (Obj.mk (Value.type "code") none (Data.fields #[(Value.str (Str.ofString "combined") 456), (Value.str (Str.ofString "combined") 457), (Value.str (Str.ofString "/claim/cut.py") 458), (Value.int (108 : Int) 0), (Value.int (5 : Int) 0), (Value.int (0 : Int) 0), (Value.int (0 : Int) 0), (Value.int (3 : Int) 0), (Value.ref 202), (Value.bool Bool.true), (Value.int (181 : Int) 0), (Value.ref 203), Value.none, (Value.ref 204), (Value.ref 205), (Value.ref 206), (Value.int (464 : Int) 0), (Value.int (108 : Int) 0), (Value.str (Str.ofString "/claim/cut.py") 465)]) #[])),
  ((nat_lit 208), (Obj.mk (Value.type "function") none (Data.func (FuncData.mk (Str.ofString "combined") (Str.ofString "combined") (fA (hd1 b24)) ((fB (hd1 b24))) (fS (hd1 b24)) 3 [] Value.none Value.none Value.none (Value.str (Str.ofString "octetmint.deeds") 454) none (Value.ref 207) Value.none 0)) #[])),
  ((nat_lit 209), (Obj.mk (Value.type "tuple") none (Data.seq #[] 0) #[])),
  ((nat_lit 211), (Obj.mk (Value.type "tuple") none (Data.seq #[(Value.str (Str.ofString "script") 472), (Value.str (Str.ofString "total") 473), (Value.str (Str.ofString "cell") 474)] 0) #[])),
  ((nat_lit 212), (Obj.mk (Value.type "tuple") none (Data.seq #[] 0) #[])),
  ((nat_lit 214), (Obj.mk (Value.type "code") none (Data.fields #[(Value.str (Str.ofString "_law_digits") 469), (Value.str (Str.ofString "_law_digits") 470), (Value.str (Str.ofString "/claim/cut.py") 471), (Value.int (123 : Int) 0), (Value.int (1 : Int) 0), (Value.int (0 : Int) 0), (Value.int (0 : Int) 0), (Value.int (3 : Int) 0), (Value.ref 209), (Value.bool Bool.true), (Value.int (181 : Int) 0), (Value.ref 210), Value.none, (Value.ref 211), (Value.ref 212), (Value.ref 213), (Value.int (475 : Int) 0), (Value.int (123 : Int) 0), (Value.str (Str.ofString "/claim/cut.py") 476)]) #[])),
  ((nat_lit 215), (Obj.mk (Value.type "function") none (Data.func (FuncData.mk (Str.ofString "_law_digits") (Str.ofString "_law_digits") (fA (hd1 b26)) ((fB (hd1 b26))) (fS (hd1 b26)) 3 [] Value.none Value.none Value.none (Value.str (Str.ofString "law_pb0417_01") 467) none (Value.ref 214) Value.none 0)) #[])),
  ((nat_lit 216), (Obj.mk (Value.type "tuple") none (Data.seq #[] 0) #[])),
  ((nat_lit 218), (Obj.mk (Value.type "tuple") none (Data.seq #[(Value.str (Str.ofString "row") 481), (Value.str (Str.ofString "many") 482), (Value.str (Str.ofString "digit") 483)] 0) #[])),
  ((nat_lit 219), (Obj.mk (Value.type "tuple") none (Data.seq #[] 0) #[])),
  ((nat_lit 221), (Obj.mk (Value.type "code") none (Data.fields #[(Value.str (Str.ofString "_law_digit") 478), (Value.str (Str.ofString "_law_digit") 479), (Value.str (Str.ofString "/claim/cut.py") 480), (Value.int (128 : Int) 0), (Value.int (2 : Int) 0), (Value.int (0 : Int) 0), (Value.int (0 : Int) 0), (Value.int (3 : Int) 0), (Value.ref 216), (Value.bool Bool.true), (Value.int (181 : Int) 0), (Value.ref 217), Value.none, (Value.ref 218), (Value.ref 219), (Value.ref 220), (Value.int (484 : Int) 0), (Value.int (128 : Int) 0), (Value.str (Str.ofString "/claim/cut.py") 485)]) #[])),
  ((nat_lit 222), (Obj.mk (Value.type "function") none (Data.func (FuncData.mk (Str.ofString "_law_digit") (Str.ofString "_law_digit") (fA (hd1 b27)) ((fB (hd1 b27))) (fS (hd1 b27)) 3 [] Value.none Value.none Value.none (Value.str (Str.ofString "law_pb0417_01") 467) none (Value.ref 221) Value.none 0)) #[])),
  ((nat_lit 223), (Obj.mk (Value.type "tuple") none (Data.seq #[] 0) #[])),
  ((nat_lit 225), (Obj.mk (Value.type "tuple") none (Data.seq #[(Value.str (Str.ofString "shove") 490)] 0) #[])),
  ((nat_lit 226), (Obj.mk (Value.type "tuple") none (Data.seq #[] 0) #[])),
  ((nat_lit 228), (Obj.mk (Value.type "code") none (Data.fields #[(Value.str (Str.ofString "_law_turned") 487), (Value.str (Str.ofString "_law_turned") 488), (Value.str (Str.ofString "/claim/cut.py") 489), (Value.int (134 : Int) 0), (Value.int (1 : Int) 0), (Value.int (0 : Int) 0), (Value.int (0 : Int) 0), (Value.int (3 : Int) 0), (Value.ref 223), (Value.bool Bool.true), (Value.int (181 : Int) 0), (Value.ref 224), Value.none, (Value.ref 225), (Value.ref 226), (Value.ref 227), (Value.int (491 : Int) 0), (Value.int (134 : Int) 0), (Value.str (Str.ofString "/claim/cut.py") 492)]) #[])),
  ((nat_lit 229), (Obj.mk (Value.type "function") none (Data.func (FuncData.mk (Str.ofString "_law_turned") (Str.ofString "_law_turned") (fA (hd1 b28)) ((fB (hd1 b28))) (fS (hd1 b28)) 3 [] Value.none Value.none Value.none (Value.str (Str.ofString "law_pb0417_01") 467) none (Value.ref 228) Value.none 0)) #[])),
  ((nat_lit 230), (Obj.mk (Value.type "tuple") none (Data.seq #[] 0) #[])),
  ((nat_lit 233), (Obj.mk (Value.type "code") none (Data.fields #[(Value.str (Str.ofString "_law_doubled") 494), (Value.str (Str.ofString "_law_doubled") 495), (Value.str (Str.ofString "/claim/cut.py") 496), (Value.int (136 : Int) 0), (Value.int (2 : Int) 0), (Value.int (0 : Int) 0), (Value.int (0 : Int) 0), (Value.int (3 : Int) 0), (Value.ref 230), (Value.bool Bool.true), (Value.int (181 : Int) 0), (Value.ref 231), Value.none, Value.none, Value.none, (Value.ref 232), (Value.int (497 : Int) 0), (Value.int (136 : Int) 0), (Value.str (Str.ofString "/claim/cut.py") 498)]) #[])),
  ((nat_lit 234), (Obj.mk (Value.type "function") none (Data.func (FuncData.mk (Str.ofString "_law_doubled") (Str.ofString "_law_doubled") (fA (hd1 b29)) ((fB (hd1 b29))) (fS (hd1 b29)) 3 [] Value.none Value.none Value.none (Value.str (Str.ofString "law_pb0417_01") 467) none (Value.ref 233) Value.none 0)) #[])),
  ((nat_lit 235), (Obj.mk (Value.type "tuple") none (Data.seq #[] 0) #[])),
  ((nat_lit 238), (Obj.mk (Value.type "code") none (Data.fields #[(Value.str (Str.ofString "_law_ones") 500), (Value.str (Str.ofString "_law_ones") 501), (Value.str (Str.ofString "/claim/cut.py") 502), (Value.int (143 : Int) 0), (Value.int (0 : Int) 0), (Value.int (0 : Int) 0), (Value.int (0 : Int) 0), (Value.int (3 : Int) 0), (Value.ref 235), (Value.bool Bool.true), (Value.int (181 : Int) 0), (Value.ref 236), Value.none, Value.none, Value.none, (Value.ref 237), (Value.int (503 : Int) 0), (Value.int (143 : Int) 0), (Value.str (Str.ofString "/claim/cut.py") 504)]) #[])),
  ((nat_lit 239), (Obj.mk (Value.type "function") none (Data.func (FuncData.mk (Str.ofString "_law_ones") (Str.ofString "_law_ones") (fA (hd1 b30)) ((fB (hd1 b30))) (fS (hd1 b30)) 3 [] Value.none Value.none Value.none (Value.str (Str.ofString "law_pb0417_01") 467) none (Value.ref 238) Value.none 0)) #[])),
  ((nat_lit 240), (Obj.mk (Value.type "tuple") none (Data.seq #[] 0) #[])),
  ((nat_lit 242), (Obj.mk (Value.type "tuple") none (Data.seq #[(Value.str (Str.ofString "octet") 509)] 0) #[])),
  ((nat_lit 243), (Obj.mk (Value.type "tuple") none (Data.seq #[] 0) #[])),
  ((nat_lit 245), (Obj.mk (Value.type "code") none (Data.fields #[(Value.str (Str.ofString "_law_near") 506), (Value.str (Str.ofString "_law_near") 507), (Value.str (Str.ofString "/claim/cut.py") 508), (Value.int (148 : Int) 0), (Value.int (1 : Int) 0), (Value.int (0 : Int) 0), (Value.int (0 : Int) 0), (Value.int (3 : Int) 0), (Value.ref 240), (Value.bool Bool.true), (Value.int (181 : Int) 0), (Value.ref 241), Value.none, (Value.ref 242), (Value.ref 243), (Value.ref 244), (Value.int (510 : Int) 0), (Value.int (148 : Int) 0), (Value.str (Str.ofString "/claim/cut.py") 511)]) #[])),
  ((nat_lit 246), (Obj.mk (Value.type "function") none (Data.func (FuncData.mk (Str.ofString "_law_near") (Str.ofString "_law_near") (fA (hd1 b31)) ((fB (hd1 b31))) (fS (hd1 b31)) 3 [] Value.none Value.none Value.none (Value.str (Str.ofString "law_pb0417_01") 467) none (Value.ref 245) Value.none 0)) #[])),
  ((nat_lit 247), (Obj.mk (Value.type "tuple") none (Data.seq #[] 0) #[])),
  ((nat_lit 249), (Obj.mk (Value.type "tuple") none (Data.seq #[(Value.str (Str.ofString "name") 516), (Value.str (Str.ofString "octet") 517), (Value.str (Str.ofString "carry") 518), (Value.str (Str.ofString "tables") 519)] 0) #[])),
  ((nat_lit 250), (Obj.mk (Value.type "tuple") none (Data.seq #[] 0) #[])),
  ((nat_lit 252), (Obj.mk (Value.type "code") none (Data.fields #[(Value.str (Str.ofString "_law_results") 513), (Value.str (Str.ofString "_law_results") 514), (Value.str (Str.ofString "/claim/cut.py") 515), (Value.int (150 : Int) 0), (Value.int (3 : Int) 0), (Value.int (0 : Int) 0), (Value.int (0 : Int) 0), (Value.int (3 : Int) 0), (Value.ref 247), (Value.bool Bool.true), (Value.int (181 : Int) 0), (Value.ref 248), Value.none, (Value.ref 249), (Value.ref 250), (Value.ref 251), (Value.int (520 : Int) 0), (Value.int (150 : Int) 0), (Value.str (Str.ofString "/claim/cut.py") 521)]) #[])),
  ((nat_lit 253), (Obj.mk (Value.type "function") none (Data.func (FuncData.mk (Str.ofString "_law_results") (Str.ofString "_law_results") (fA (hd1 b32)) ((fB (hd1 b32))) (fS (hd1 b32)) 3 [] Value.none Value.none Value.none (Value.str (Str.ofString "law_pb0417_01") 467) none (Value.ref 252) Value.none 0)) #[])),
  ((nat_lit 254), (Obj.mk (Value.type "tuple") none (Data.seq #[] 0) #[])),
  ((nat_lit 257), (Obj.mk (Value.type "code") none (Data.fields #[(Value.str (Str.ofString "_law_carried") 523), (Value.str (Str.ofString "_law_carried") 524), (Value.str (Str.ofString "/claim/cut.py") 525), (Value.int (157 : Int) 0), (Value.int (3 : Int) 0), (Value.int (0 : Int) 0), (Value.int (0 : Int) 0), (Value.int (3 : Int) 0), (Value.ref 254), (Value.bool Bool.true), (Value.int (181 : Int) 0), (Value.ref 255), Value.none, Value.none, Value.none, (Value.ref 256), (Value.int (526 : Int) 0), (Value.int (157 : Int) 0), (Value.str (Str.ofString "/claim/cut.py") 527)]) #[])),
  ((nat_lit 258), (Obj.mk (Value.type "function") none (Data.func (FuncData.mk (Str.ofString "_law_carried") (Str.ofString "_law_carried") (fA (hd1 b33)) ((fB (hd1 b33))) (fS (hd1 b33)) 3 [] Value.none Value.none Value.none (Value.str (Str.ofString "law_pb0417_01") 467) none (Value.ref 257) Value.none 0)) #[])),
  ((nat_lit 259), (Obj.mk (Value.type "tuple") none (Data.seq #[] 0) #[])),
  ((nat_lit 262), (Obj.mk (Value.type "code") none (Data.fields #[(Value.str (Str.ofString "_law_due") 529), (Value.str (Str.ofString "_law_due") 530), (Value.str (Str.ofString "/claim/cut.py") 531), (Value.int (169 : Int) 0), (Value.int (3 : Int) 0), (Value.int (0 : Int) 0), (Value.int (0 : Int) 0), (Value.int (3 : Int) 0), (Value.ref 259), (Value.bool Bool.true), (Value.int (181 : Int) 0), (Value.ref 260), Value.none, Value.none, Value.none, (Value.ref 261), (Value.int (532 : Int) 0), (Value.int (169 : Int) 0), (Value.str (Str.ofString "/claim/cut.py") 533)]) #[])),
  ((nat_lit 263), (Obj.mk (Value.type "function") none (Data.func (FuncData.mk (Str.ofString "_law_due") (Str.ofString "_law_due") (fA (hd1 b34)) ((fB (hd1 b34))) (fS (hd1 b34)) 3 [] Value.none Value.none Value.none (Value.str (Str.ofString "law_pb0417_01") 467) none (Value.ref 262) Value.none 0)) #[])),
  ((nat_lit 264), (Obj.mk (Value.type "tuple") none (Data.seq #[] 0) #[])),
  ((nat_lit 266), (Obj.mk (Value.type "tuple") none (Data.seq #[(Value.str (Str.ofString "name") 538), (Value.str (Str.ofString "octet") 539), (Value.str (Str.ofString "carry") 540), (Value.str (Str.ofString "way") 541), (Value.str (Str.ofString "words") 542), (Value.str (Str.ofString "spot") 543), (Value.str (Str.ofString "some") 544), (Value.str (Str.ofString "left") 545)] 0) #[])),
  ((nat_lit 267), (Obj.mk (Value.type "tuple") none (Data.seq #[] 0) #[])),
  ((nat_lit 269), (Obj.mk (Value.type "code") none (Data.fields #[(Value.str (Str.ofString "_law_words") 535), (Value.str (Str.ofString "_law_words") 536), (Value.str (Str.ofString "/claim/cut.py") 537), (Value.int (176 : Int) 0), (Value.int (4 : Int) 0), (Value.int (0 : Int) 0), (Value.int (0 : Int) 0), (Value.int (3 : Int) 0), (Value.ref 264), (Value.bool Bool.true), (Value.int (181 : Int) 0), (Value.ref 265), Value.none, (Value.ref 266), (Value.ref 267), (Value.ref 268), (Value.int (546 : Int) 0), (Value.int (176 : Int) 0), (Value.str (Str.ofString "/claim/cut.py") 547)]) #[])),
  ((nat_lit 270), (Obj.mk (Value.type "function") none (Data.func (FuncData.mk (Str.ofString "_law_words") (Str.ofString "_law_words") (fA (hd1 b35)) ((fB (hd1 b35))) (fS (hd1 b35)) 3 [] Value.none Value.none Value.none (Value.str (Str.ofString "law_pb0417_01") 467) none (Value.ref 269) Value.none 0)) #[])),
  ((nat_lit 271), (Obj.mk (Value.type "tuple") none (Data.seq #[] 0) #[])),
  ((nat_lit 273), (Obj.mk (Value.type "tuple") none (Data.seq #[(Value.str (Str.ofString "script") 552), (Value.str (Str.ofString "row") 553), (Value.str (Str.ofString "name") 554), (Value.str (Str.ofString "octet") 555), (Value.str (Str.ofString "carry") 556), (Value.str (Str.ofString "junk") 557), (Value.str (Str.ofString "way") 558), (Value.str (Str.ofString "flags") 559), (Value.str (Str.ofString "results") 560), (Value.str (Str.ofString "words") 561), (Value.str (Str.ofString "left") 562), (Value.str (Str.ofString "taken_in") 563)] 0) #[])),
  ((nat_lit 274), (Obj.mk (Value.type "tuple") none (Data.seq #[] 0) #[])),
  ((nat_lit 276), (Obj.mk (Value.type "code") none (Data.fields #[(Value.str (Str.ofString "law") 549), (Value.str (Str.ofString "law") 550), (Value.str (Str.ofString "/claim/cut.py") 551), (Value.int (182 : Int) 0), (Value.int (1 : Int) 0), (Value.int (0 : Int) 0), (Value.int (0 : Int) 0), (Value.int (3 : Int) 0), (Value.ref 271), (Value.bool Bool.true), (Value.int (181 : Int) 0), (Value.ref 272), Value.none, (Value.ref 273), (Value.ref 274), (Value.ref 275), (Value.int (564 : Int) 0), (Value.int (182 : Int) 0), (Value.str (Str.ofString "/claim/cut.py") 565)]) #[])),
  ((nat_lit 277), (Obj.mk (Value.type "function") none (Data.func (FuncData.mk (Str.ofString "law") (Str.ofString "law") (fA (hd1 b36)) ((fB (hd1 b36))) (fS (hd1 b36)) 3 [] Value.none Value.none Value.none (Value.str (Str.ofString "law_pb0417_01") 467) none (Value.ref 276) Value.none 0)) #[]))]
noncomputable def kk : Params → Frag := fun P => (fun (k : Frag) (_ : k = kRaw P) => k) ((nat_lit 2, _) :: (nat_lit 3, _) :: (nat_lit 15, _) :: (nat_lit 17, _) :: (nat_lit 18, _) :: (nat_lit 20, _) :: (nat_lit 21, _) :: (nat_lit 22, _) :: (nat_lit 29, _) :: (nat_lit 30, _) :: (nat_lit 32, _) :: (nat_lit 33, _) :: (nat_lit 35, _) :: (nat_lit 36, _) :: (nat_lit 37, _) :: (nat_lit 39, _) :: (nat_lit 40, _) :: (nat_lit 42, _) :: (nat_lit 43, _) :: (nat_lit 44, _) :: (nat_lit 45, _) :: (nat_lit 46, _) :: (nat_lit 47, _) :: (nat_lit 50, _) :: (nat_lit 57, _) :: (nat_lit 58, _) :: (nat_lit 59, _) :: (nat_lit 62, _) :: (nat_lit 64, _) :: (nat_lit 65, _) :: (nat_lit 67, _) :: (nat_lit 68, _) :: (nat_lit 69, _) :: (nat_lit 71, _) :: (nat_lit 72, _) :: (nat_lit 74, _) :: (nat_lit 75, _) :: (nat_lit 76, _) :: (nat_lit 78, _) :: (nat_lit 79, _) :: (nat_lit 81, _) :: (nat_lit 82, _) :: (nat_lit 83, _) :: (nat_lit 85, _) :: (nat_lit 86, _) :: (nat_lit 88, _) :: (nat_lit 89, _) :: (nat_lit 90, _) :: (nat_lit 92, _) :: (nat_lit 93, _) :: (nat_lit 95, _) :: (nat_lit 96, _) :: (nat_lit 104, _) :: (nat_lit 106, _) :: (nat_lit 107, _) :: (nat_lit 109, _) :: (nat_lit 110, _) :: (nat_lit 111, _) :: (nat_lit 113, _) :: (nat_lit 114, _) :: (nat_lit 116, _) :: (nat_lit 117, _) :: (nat_lit 118, _) :: (nat_lit 120, _) :: (nat_lit 121, _) :: (nat_lit 123, _) :: (nat_lit 124, _) :: (nat_lit 125, _) :: (nat_lit 127, _) :: (nat_lit 128, _) :: (nat_lit 130, _) :: (nat_lit 131, _) :: (nat_lit 132, _) :: (nat_lit 134, _) :: (nat_lit 135, _) :: (nat_lit 137, _) :: (nat_lit 138, _) :: (nat_lit 139, _) :: (nat_lit 141, _) :: (nat_lit 142, _) :: (nat_lit 144, _) :: (nat_lit 145, _) :: (nat_lit 146, _) :: (nat_lit 148, _) :: (nat_lit 149, _) :: (nat_lit 151, _) :: (nat_lit 152, _) :: (nat_lit 153, _) :: (nat_lit 155, _) :: (nat_lit 156, _) :: (nat_lit 158, _) :: (nat_lit 159, _) :: (nat_lit 160, _) :: (nat_lit 162, _) :: (nat_lit 163, _) :: (nat_lit 165, _) :: (nat_lit 166, _) :: (nat_lit 167, _) :: (nat_lit 168, _) :: (nat_lit 169, _) :: (nat_lit 170, _) :: (nat_lit 171, _) :: (nat_lit 174, _) :: (nat_lit 176, _) :: (nat_lit 177, _) :: (nat_lit 179, _) :: (nat_lit 180, _) :: (nat_lit 181, _) :: (nat_lit 183, _) :: (nat_lit 184, _) :: (nat_lit 186, _) :: (nat_lit 187, _) :: (nat_lit 188, _) :: (nat_lit 190, _) :: (nat_lit 191, _) :: (nat_lit 193, _) :: (nat_lit 194, _) :: (nat_lit 195, _) :: (nat_lit 197, _) :: (nat_lit 198, _) :: (nat_lit 200, _) :: (nat_lit 201, _) :: (nat_lit 202, _) :: (nat_lit 204, _) :: (nat_lit 205, _) :: (nat_lit 207, _) :: (nat_lit 208, _) :: (nat_lit 209, _) :: (nat_lit 211, _) :: (nat_lit 212, _) :: (nat_lit 214, _) :: (nat_lit 215, _) :: (nat_lit 216, _) :: (nat_lit 218, _) :: (nat_lit 219, _) :: (nat_lit 221, _) :: (nat_lit 222, _) :: (nat_lit 223, _) :: (nat_lit 225, _) :: (nat_lit 226, _) :: (nat_lit 228, _) :: (nat_lit 229, _) :: (nat_lit 230, _) :: (nat_lit 233, _) :: (nat_lit 234, _) :: (nat_lit 235, _) :: (nat_lit 238, _) :: (nat_lit 239, _) :: (nat_lit 240, _) :: (nat_lit 242, _) :: (nat_lit 243, _) :: (nat_lit 245, _) :: (nat_lit 246, _) :: (nat_lit 247, _) :: (nat_lit 249, _) :: (nat_lit 250, _) :: (nat_lit 252, _) :: (nat_lit 253, _) :: (nat_lit 254, _) :: (nat_lit 257, _) :: (nat_lit 258, _) :: (nat_lit 259, _) :: (nat_lit 262, _) :: (nat_lit 263, _) :: (nat_lit 264, _) :: (nat_lit 266, _) :: (nat_lit 267, _) :: (nat_lit 269, _) :: (nat_lit 270, _) :: (nat_lit 271, _) :: (nat_lit 273, _) :: (nat_lit 274, _) :: (nat_lit 276, _) :: (nat_lit 277, _) :: []) (by
  dsimp only [kRaw, hd1, tl1, fA, fB, fS, cB, b0, b1, b2, b3, b4, b5, b6, b7, b8, b9, b10, b11, b12, b13, b14, b15, b16, b17, b18, b19, b20, b21, b22, b23, b24, b25, b26, b27, b28, b29, b30, b31, b32, b33, b34, b35, b36, PySem.Challenge.pw_pb0417_01])
noncomputable def qq : Program := (fun (v : Program) (_ : v = { PySem.Challenge.pw_pb0417_01 with main := { PySem.Challenge.pw_pb0417_01.main with body := [hd1 b0, hd1 b2, hd1 b3, hd1 b4, hd1 b5, hd1 b6, hd1 b7, hd1 b8, hd1 b10, hd1 b11, hd1 b12, hd1 b13, hd1 b14, hd1 b15, hd1 b16, hd1 b17, hd1 b18, hd1 b19, hd1 b20, hd1 b21, hd1 b22, hd1 b24, hd1 b26, hd1 b27, hd1 b28, hd1 b29, hd1 b30, hd1 b31, hd1 b32, hd1 b33, hd1 b34, hd1 b35, hd1 b36] } }) => v) _ (by
  dsimp only [kRaw, hd1, tl1, fA, fB, fS, cB, b0, b1, b2, b3, b4, b5, b6, b7, b8, b9, b10, b11, b12, b13, b14, b15, b16, b17, b18, b19, b20, b21, b22, b23, b24, b25, b26, b27, b28, b29, b30, b31, b32, b33, b34, b35, b36, PySem.Challenge.pw_pb0417_01])
def asOf : List Addr := [2, 3, 15, 17, 18, 20, 21, 22, 29, 30, 32, 33, 35, 36, 37, 39, 40, 42, 43, 44, 45, 46, 47, 50, 57, 58, 59, 62, 64, 65, 67, 68, 69, 71, 72, 74, 75, 76, 78, 79, 81, 82, 83, 85, 86, 88, 89, 90, 92, 93, 95, 96, 104, 106, 107, 109, 110, 111, 113, 114, 116, 117, 118, 120, 121, 123, 124, 125, 127, 128, 130, 131, 132, 134, 135, 137, 138, 139, 141, 142, 144, 145, 146, 148, 149, 151, 152, 153, 155, 156, 158, 159, 160, 162, 163, 165, 166, 167, 168, 169, 170, 171, 174, 176, 177, 179, 180, 181, 183, 184, 186, 187, 188, 190, 191, 193, 194, 195, 197, 198, 200, 201, 202, 204, 205, 207, 208, 209, 211, 212, 214, 215, 216, 218, 219, 221, 222, 223, 225, 226, 228, 229, 230, 233, 234, 235, 238, 239, 240, 242, 243, 245, 246, 247, 249, 250, 252, 253, 254, 257, 258, 259, 262, 263, 264, 266, 267, 269, 270, 271, 273, 274, 276, 277]
abbrev rr := PySem.Challenge.rw_pb0417_01.row
theorem asE (P : Params) : asOf = (kk P).map (·.1) := by kernel_rfl
noncomputable abbrev hk : Hook := kHook kk asOf asE
end Mine

-- part NU
namespace Mine
open PySem PySem.W PyProof.Rows PySem.Spec PySem.Calls
local macro_rules | `(tactic| walk_at "pad 1 0") => `(tactic| fail)
local macro_rules | `(tactic| walk_at "pad 1 1") => `(tactic| fail)
local macro_rules | `(tactic| walk_at "pad 1 2") => `(tactic| fail)
local macro_rules | `(tactic| walk_at "pad 1 3") => `(tactic| fail)
local macro_rules | `(tactic| walk_at "pad 1 4") => `(tactic| fail)
local macro_rules | `(tactic| walk_at "pad 1 5") => `(tactic| fail)
local macro_rules | `(tactic| walk_at "pad 1 6") => `(tactic| fail)
local macro_rules | `(tactic| walk_at "pad 1 7") => `(tactic| fail)
set_option maxHeartbeats 0 in
theorem hl : LeftO rr.prog qq [Str.ofString "MintError"] (fun s => xlAt qq [] s && recOk (RowW.records rr.toRowW) s) (Hook.obs (kHook kk asOf asE)) (Hook.val (kHook kk asOf asE)) 3618 := by
  unfold LeftO
  intro w
  unfold openEnds fencedOpening topFrom
  rw [PySem.W.Fast.te14364793385576792824, PySem.W.Fast.te4187177175401517315, PySem.W.Fast.te14082659384304107361, PySem.W.Fast.te10274390034422433532, PySem.W.Fast.te14289696077712309145]
  kernel_rfl
set_option maxHeartbeats 0 in
theorem hlaw (h : PySem.Challenge.rw_pb0417_01.row.wellSaid = true → PySem.Challenge.rw_pb0417_01.row.Holds) : PySem.Challenge.rw_pb0417_01.Holds := by
  refine holds_law ?_ h
  rw [PySem.W.Fast.te9446332074065402090]
  kernel_rfl
end Mine

-- part B0
namespace Mine
open PySem PySem.W PyProof.Rows PySem.Spec PySem.Calls
local macro_rules | `(tactic| walk_at "pad 2 0") => `(tactic| fail)
local macro_rules | `(tactic| walk_at "pad 2 1") => `(tactic| fail)
local macro_rules | `(tactic| walk_at "pad 2 2") => `(tactic| fail)
local macro_rules | `(tactic| walk_at "pad 2 3") => `(tactic| fail)
local macro_rules | `(tactic| walk_at "pad 2 4") => `(tactic| fail)
local macro_rules | `(tactic| walk_at "pad 2 5") => `(tactic| fail)
local macro_rules | `(tactic| walk_at "pad 2 6") => `(tactic| fail)
local macro_rules | `(tactic| walk_at "pad 2 7") => `(tactic| fail)
local macro_rules | `(tactic| walk_at "pad 2 8") => `(tactic| fail)
local macro_rules | `(tactic| walk_at "pad 2 9") => `(tactic| fail)
local macro_rules | `(tactic| walk_at "pad 2 10") => `(tactic| fail)
local macro_rules | `(tactic| walk_at "pad 2 11") => `(tactic| fail)
local macro_rules | `(tactic| walk_at "pad 2 12") => `(tactic| fail)
local macro_rules | `(tactic| walk_at "pad 2 13") => `(tactic| fail)
local macro_rules | `(tactic| walk_at "pad 2 14") => `(tactic| fail)
theorem fill : (PySem.Challenge.rw_pb0417_01, kk) = (PySem.Challenge.rw_pb0417_01, kk) := by
  w_top off
  k_fill
  rfl

abbrev Ctr (k : Nat) (f : Addr) (vs : List Value) (news : List (Addr × Obj)) (R : Value → List (Addr × Obj) → Prop) : Prop :=
  ∀ (w : World) (p : Program) (loose : List Str) (mean : ExcName → Option Value) (mg mb : Str → Option Value) (dp un : Nat) (gd : Option (List Code)) (cn : Str) (cs : Scope) (a : Addr) (ccd : Value) (cl : List (Str × Addr)) (outer : List Env) (A₀ : Around) (base h₀ : Heap) (L : Addr) (m : Str → Option Value) (s : Shared) (Q E : Value → Shared → Prop),
    Below A₀ base outer h₀ → Fr h₀ L s.heap m → (kk w.params).In h₀ → News h₀ L s.heap news → Top p loose mean mg mb h₀ → cs.kind = .function → dp + k < recursionLimit → un + 8 * k < cLine →
    (∀ v news' h' tk', R v news' → Fr h₀ L h' m → News h₀ L h' news' → Q v { s with heap := h', toks := tk' }) →
    wpAny (model PySem.Challenge.pw_pb0417_01 w) (ktrTop dp un gd cn cs L a ccd cl outer) (call (.ref f) vs) Q E s

theorem ctr_use {k : Nat} {f : Addr} {vs : List Value} {news : List (Addr × Obj)} {R : Value → List (Addr × Obj) → Prop} (C : Ctr k f vs news R)
    {w : World} {p : Program} {loose : List Str} {mean : ExcName → Option Value} {mg mb : Str → Option Value} {dp un : Nat} {gd : Option (List Code)} {cn : Str} {cs : Scope} {a : Addr} {ccd : Value} {cl : List (Str × Addr)} {outer : List Env} {A₀ : Around} {base h₀ : Heap} {L : Addr} {m : Str → Option Value} {s : Shared} {Q E : Value → Shared → Prop}
    (B : Below A₀ base outer h₀) (F : Fr h₀ L s.heap m) (X : (kk w.params).In h₀) (N : News h₀ L s.heap news) (T : Top p loose mean mg mb h₀) (hk : cs.kind = .function) (hd : dp + k < recursionLimit) (hu : un + 8 * k < cLine)
    (h : ∀ v news' h' tk', R v news' → Fr h₀ L h' m → News h₀ L h' news' → Q v { s with heap := h', toks := tk' }) :
    wpAny (model PySem.Challenge.pw_pb0417_01 w) (ktrTop dp un gd cn cs L a ccd cl outer) (call (.ref f) vs) Q E s := C w p loose mean mg mb dp un gd cn cs a ccd cl outer A₀ base h₀ L m s Q E B F X N T hk hd hu h

abbrev RI (news : List (Addr × Obj)) (z : Int) : Value → List (Addr × Obj) → Prop := fun v n => n = news ∧ ∃ t, v = .int z t

set_option maxHeartbeats 4000000 in
theorem c_mask (news : List (Addr × Obj)) (t : Tok) : Ctr 1 68 [.int 8 t] news (RI news 255) := by
  intro w p loose mean mg mb dp un gd cn cs a ccd cl outer A₀ base h₀ L m s Q E B F X N T hk hdp hun hret
  refine wpAny_call ?_
  k_dflt cell_enter
  k_steps
  exact hret _ _ _ _ ⟨rfl, _, rfl⟩ (by k_asm) (by k_asm)
end Mine

-- part B0b
namespace Mine
open PySem PySem.W PyProof.Rows PySem.Spec PySem.Calls
local macro_rules | `(tactic| walk_at "pad 3 0") => `(tactic| fail)
theorem news_one {h₀ h : Heap} {L : Addr} {p : Addr × Obj} {l : List (Addr × Obj)} (N : News h₀ L h (p :: l)) : News h₀ L h [p] := fun q hq => N q (by rw [List.mem_singleton.mp hq]; exact .head _)
theorem fill3 : (PySem.Challenge.rw_pb0417_01, kk) = (PySem.Challenge.rw_pb0417_01, kk) := by
  w_top off
  k_fill
  rfl
set_option maxHeartbeats 4000000 in
theorem c_digits {w : World} {p : Program} {loose : List Str} {mean : ExcName → Option Value} {mg mb : Str → Option Value} {dp un : Nat} {gd : Option (List Code)} {cn : Str} {cs : Scope} {a : Addr} {ccd : Value} {cl : List (Str × Addr)} {outer : List Env} {A₀ : Around} {base h₀ : Heap} {L : Addr} {m : Str → Option Value} {s : Shared} {Q E : Value → Shared → Prop} {sl : Addr} {vs : List Value} {ns : List Int}
    (B : Below A₀ base outer h₀) (F : Fr h₀ L s.heap m) (X : (kk w.params).In h₀) (N : News h₀ L s.heap []) (T : Top p loose mean mg mb h₀) (hk : cs.kind = .function) (hdp : dp + 3 < recursionLimit) (hun : un + 8 * 3 < cLine)
    (hl : base.IsList sl vs.toArray) (hi : IntsAre vs ns) (hlen : ns.length ≤ 63)
    (hret : ∀ b x t nn h' tk', Fr h₀ L h' m → News h₀ L h' [(b, listOf #[.int x t] nn)] → Q (.ref b) { s with heap := h', toks := tk' }) :
    wpAny (model PySem.Challenge.pw_pb0417_01 w) (ktrTop dp un gd cn cs L a ccd cl outer) (call (.ref 215) [.ref sl]) Q E s := by
  refine wpAny_call ?_
  k_dflt cell_enter
  k_with "pyIter ref" => k_state (fun (pre : List Int) (t : Int) => pre.length = pre.length ∧ t = t) "total"
  k_steps
  k_with_none
  exact hret _ _ _ _ _ _ (by k_asm) (news_one (by k_asm))
end Mine

-- part B1
namespace Mine
open PySem PySem.W PyProof.Rows PySem.Spec PySem.Calls
local macro_rules | `(tactic| walk_at "pad 4 0") => `(tactic| fail)
local macro_rules | `(tactic| walk_at "pad 4 1") => `(tactic| fail)
local macro_rules | `(tactic| walk_at "pad 4 2") => `(tactic| fail)
local macro_rules | `(tactic| walk_at "pad 4 3") => `(tactic| fail)
local macro_rules | `(tactic| walk_at "pad 4 4") => `(tactic| fail)
local macro_rules | `(tactic| walk_at "pad 4 5") => `(tactic| fail)
local macro_rules | `(tactic| walk_at "pad 4 6") => `(tactic| fail)
local macro_rules | `(tactic| walk_at "pad 4 7") => `(tactic| fail)
theorem fill2 : (PySem.Challenge.rw_pb0417_01, kk) = (PySem.Challenge.rw_pb0417_01, kk) := by
  w_top off
  k_fill
  rfl
local macro_rules | `(tactic| walk_at "ctr sides") => `(tactic| ((case B => k_asm); (case F => k_asm); (case X => k_asm); (case N => k_asm); (case T => k_asm); (case hk => first | exact rfl | assumption); (case hd => ktr_room); (case hu => ktr_units)))
local macro_rules | `(tactic| walk_at "ctr int") => `(tactic| (intro v9 n9 h9 tk9 R9 F9 N9; (obtain ⟨e9, t9, f9⟩ := R9; subst e9; subst f9); (try dsimp only); (try k_fold)))
local macro_rules | `(tactic| walk_at "call ref") => `(tactic| (k_here; k_dflt (refine' ctr_use (c_mask _ _) ?B ?F ?X ?N ?T ?hk ?hd ?hu ?_; walk_at "ctr sides"); walk_at "ctr int"))
set_option maxHeartbeats 4000000 in
theorem c_wrap (news : List (Addr × Obj)) (x : Int) (t t2 : Tok) : Ctr 2 75 [.int x t, .int 8 t2] news (RI news (x % 256)) := by
  intro w p loose mean mg mb dp un gd cn cs a ccd cl outer A₀ base h₀ L m s Q E B F X N T hk hdp hun hret
  refine wpAny_call ?_
  k_dflt cell_enter
  k_steps
  rw [bitAnd_m8]
  exact hret _ _ _ _ ⟨rfl, _, rfl⟩ (by k_asm) (by k_asm)
local macro_rules | `(tactic| walk_at "call ref") => `(tactic| (k_here; k_dflt (refine' ctr_use (c_wrap _ _ _ _) ?B ?F ?X ?N ?T ?hk ?hd ?hu ?_; walk_at "ctr sides"); walk_at "ctr int"))

theorem fdiv128 (x : Int) : Builtin.bitAnd (x.fdiv (2 ^ Int.toNat 7)) 1 = x / 128 % 2 := by
  rw [bitAnd_m1, show ((2 : Int) ^ Int.toNat 7) = 128 from by decide, Int.fdiv_eq_ediv_of_nonneg _ (by decide)]
set_option maxHeartbeats 4000000 in
theorem c_bit (news : List (Addr × Obj)) (x : Int) (t t2 : Tok) : Ctr 2 82 [.int x t, .int 7 t2] news (RI news (x / 128 % 2)) := by
  intro w p loose mean mg mb dp un gd cn cs a ccd cl outer A₀ base h₀ L m s Q E B F X N T hk hdp hun hret
  refine wpAny_call ?_
  k_dflt cell_enter
  k_steps
  rw [fdiv128]
  exact hret _ _ _ _ ⟨rfl, _, rfl⟩ (by k_asm) (by k_asm)
local macro_rules | `(tactic| walk_at "call ref") => `(tactic| (k_here; k_dflt (refine' ctr_use (c_bit _ _ _ _) ?B ?F ?X ?N ?T ?hk ?hd ?hu ?_; walk_at "ctr sides"); walk_at "ctr int"))

def pop (x : Int) : Int := x % 2 + x / 2 % 2 + x / 4 % 2 + x / 8 % 2 + x / 16 % 2 + x / 32 % 2 + x / 64 % 2 + x / 128 % 2
theorem pop_fin : ∀ n : Fin 256, 0 < n.val → (Builtin.bitAnd (n.val : Int) ((n.val : Int) - 1) < n.val ∧ 0 ≤ Builtin.bitAnd (n.val : Int) ((n.val : Int) - 1) ∧ pop (Builtin.bitAnd (n.val : Int) ((n.val : Int) - 1)) + 1 = pop n.val) := by decide +kernel
theorem pop_step {x : Int} (h : 0 < x) (h2 : x < 256) : Builtin.bitAnd x (x - 1) < x ∧ 0 ≤ Builtin.bitAnd x (x - 1) ∧ pop (Builtin.bitAnd x (x - 1)) + 1 = pop x := by
  have h3 := pop_fin ⟨x.toNat, by omega⟩ (by show 0 < x.toNat; omega)
  have e : ((x.toNat : Nat) : Int) = x := by omega
  simpa only [e] using h3
def OnesInv (x rest count : Int) : Prop := count + pop rest = pop (x % 256) ∧ 0 ≤ rest ∧ rest < 256
theorem ones_start (x : Int) : OnesInv x (x % 256) 0 := ⟨by omega, by omega, by omega⟩
theorem ones_next {x rest count : Int} (h : OnesInv x rest count) (h0 : 0 < rest) : OnesInv x (Builtin.bitAnd rest (rest - 1)) (count + 1) := by
  obtain ⟨a, b, c⟩ := h
  obtain ⟨d, e, f⟩ := pop_step h0 c
  exact ⟨by omega, e, by omega⟩
theorem ones_end {x rest count : Int} (h : OnesInv x rest count) (h0 : ¬ 0 < rest) : count = pop (x % 256) := by
  obtain ⟨a, b, c⟩ := h
  have e : rest = 0 := by omega
  subst e
  have : pop 0 = 0 := by decide
  omega

theorem ones_less {x rest count : Int} (h : OnesInv x rest count) (h0 : 0 < rest) : (Builtin.bitAnd rest (rest - 1)).toNat < rest.toNat := by
  obtain ⟨a, b, c⟩ := h
  obtain ⟨d, e, f⟩ := pop_step h0 c
  omega

set_option maxHeartbeats 4000000 in
theorem c_ones (news : List (Addr × Obj)) (x : Int) (t t2 : Tok) : Ctr 3 89 [.int x t, .int 8 t2] news (RI news (pop (x % 256))) := by
  intro w p loose mean mg mb dp un gd cn cs a ccd cl outer A₀ base h₀ L m s Q E B F X N T hk hdp hun hret
  refine wpAny_call ?_
  k_dflt cell_enter
  k_with "exec While Compare cons nil" => k_while (fun _ rest count => OnesInv x rest count) (fun _ rest _ => rest.toNat) "rest" "count"
  k_with "state" => first | exact ones_start _ | exact ones_next (by assumption) (by assumption)
  k_with "measure" => exact ones_less (by assumption) (by assumption)
  k_steps
  k_with_none
  rename OnesInv _ _ _ => q1
  rename ¬ (0 < _) => q2
  have e := ones_end q1 q2
  subst e
  exact hret _ _ _ _ ⟨rfl, _, rfl⟩ (by k_asm) (by k_asm)
local macro_rules | `(tactic| walk_at "call ref") => `(tactic| (k_here; k_dflt (refine' ctr_use (c_ones _ _ _ _) ?B ?F ?X ?N ?T ?hk ?hd ?hu ?_; walk_at "ctr sides"); walk_at "ctr int"))
def par (x : Int) : Int := 1 - pop x % 2
theorem par_fmod (x : Int) : 1 - (pop x).fmod 2 = par x := by
  rw [Int.fmod_eq_emod_of_nonneg _ (by decide)]; rfl
set_option maxHeartbeats 4000000 in
theorem c_parity (news : List (Addr × Obj)) (x : Int) (t : Tok) : Ctr 4 96 [.int x t] news (RI news (par (x % 256))) := by
  intro w p loose mean mg mb dp un gd cn cs a ccd cl outer A₀ base h₀ L m s Q E B F X N T hk hdp hun hret
  refine wpAny_call ?_
  k_dflt cell_enter
  k_steps
  rw [par_fmod]
  exact hret _ _ _ _ ⟨rfl, _, rfl⟩ (by k_asm) (by k_asm)
end Mine

-- part B2
namespace Mine
open PySem PySem.W PyProof.Rows PySem.Spec PySem.Calls
local macro_rules | `(tactic| walk_at "pad 5 0") => `(tactic| fail)
local macro_rules | `(tactic| walk_at "pad 5 1") => `(tactic| fail)
local macro_rules | `(tactic| walk_at "pad 5 2") => `(tactic| fail)
local macro_rules | `(tactic| walk_at "pad 5 3") => `(tactic| fail)
local macro_rules | `(tactic| walk_at "pad 5 4") => `(tactic| fail)
local macro_rules | `(tactic| walk_at "pad 5 5") => `(tactic| fail)
local macro_rules | `(tactic| walk_at "pad 5 6") => `(tactic| fail)
local macro_rules | `(tactic| walk_at "pad 5 7") => `(tactic| fail)
local macro_rules | `(tactic| walk_at "pad 5 8") => `(tactic| fail)
local macro_rules | `(tactic| walk_at "pad 5 9") => `(tactic| fail)
local macro_rules | `(tactic| walk_at "pad 5 10") => `(tactic| fail)
local macro_rules | `(tactic| walk_at "pad 5 11") => `(tactic| fail)
local macro_rules | `(tactic| walk_at "pad 5 12") => `(tactic| fail)
local macro_rules | `(tactic| walk_at "pad 5 13") => `(tactic| fail)
local macro_rules | `(tactic| walk_at "pad 5 14") => `(tactic| fail)
theorem fill4 : (PySem.Challenge.rw_pb0417_01, kk) = (PySem.Challenge.rw_pb0417_01, kk) := by
  w_top off
  k_fill
  rfl
/-- one object of the ledger is turned -/
abbrev CtrU (k : Nat) (f : Addr) (vs : List Value) (b : Addr) (o : Obj) (q : Addr × Obj) (R : Value → Obj → Prop) : Prop :=
  ∀ (news : List (Addr × Obj)) (g : Obj → List (Addr × Obj)), UpdF b o news g → q ∈ news → q ≠ (b, o) → Ctr k f vs news (fun v n => ∃ o', R v o' ∧ n = g o')
theorem ctrU_of {k : Nat} {f : Addr} {vs : List Value} {b : Addr} {o : Obj} {q : Addr × Obj} {R : Value → Obj → Prop}
    (core : ∀ rest : List (Addr × Obj), (∀ p ∈ rest, p.1 ≠ b) → q ∈ rest → Ctr k f vs ((b, o) :: rest) (fun v n => ∃ o', R v o' ∧ n = (b, o') :: rest)) : CtrU k f vs b o q R := by
  intro news g U hq hne
  obtain ⟨pre, post, rfl, hg, h1, h2⟩ := U.split
  have hq' : q ∈ pre ++ post := by
    rcases List.mem_append.mp hq with h | h
    · exact List.mem_append.mpr (.inl h)
    · rcases List.mem_cons.mp h with h | h
      · exact absurd h hne
      · exact List.mem_append.mpr (.inr h)
  have C := core (pre ++ post) (fun p hp => (List.mem_append.mp hp).elim (h1 p) (h2 p)) hq'
  intro w p loose mean mg mb dp un gd cn cs a ccd cl outer A₀ base h₀ L m s Q E B F X N T hk hd hu hret
  refine C w p loose mean mg mb dp un gd cn cs a ccd cl outer A₀ base h₀ L m s Q E B F X (fun p hp => N p ?_) T hk hd hu ?_
  · rcases List.mem_cons.mp hp with rfl | hp
    · simp
    · rcases List.mem_append.mp hp with h | h
      · exact List.mem_append.mpr (.inl h)
      · exact List.mem_append.mpr (.inr (.tail _ h))
  · rintro v news' h' tk' ⟨o', r, rfl⟩ F' N'
    refine hret v _ h' tk' ⟨o', r, rfl⟩ F' (fun p hp => N' p ?_)
    rw [hg] at hp
    rcases List.mem_append.mp hp with h | h
    · exact .tail _ (List.mem_append.mpr (.inl h))
    · rcases List.mem_cons.mp h with rfl | h
      · exact .head _
      · exact .tail _ (List.mem_append.mpr (.inr h))
/-- the same without a second object -/
abbrev CtrU0 (k : Nat) (f : Addr) (vs : List Value) (b : Addr) (o : Obj) (R : Value → Obj → Prop) : Prop :=
  ∀ (news : List (Addr × Obj)) (g : Obj → List (Addr × Obj)), UpdF b o news g → Ctr k f vs news (fun v n => ∃ o', R v o' ∧ n = g o')
theorem ctrU0_of {k : Nat} {f : Addr} {vs : List Value} {b : Addr} {o : Obj} {R : Value → Obj → Prop}
    (core : ∀ rest : List (Addr × Obj), (∀ p ∈ rest, p.1 ≠ b) → Ctr k f vs ((b, o) :: rest) (fun v n => ∃ o', R v o' ∧ n = (b, o') :: rest)) : CtrU0 k f vs b o R := by
  intro news g U
  obtain ⟨pre, post, rfl, hg, h1, h2⟩ := U.split
  have C := core (pre ++ post) (fun p hp => (List.mem_append.mp hp).elim (h1 p) (h2 p))
  intro w p loose mean mg mb dp un gd cn cs a ccd cl outer A₀ base h₀ L m s Q E B F X N T hk hd hu hret
  refine C w p loose mean mg mb dp un gd cn cs a ccd cl outer A₀ base h₀ L m s Q E B F X (fun p hp => N p ?_) T hk hd hu ?_
  · rcases List.mem_cons.mp hp with rfl | hp
    · simp
    · rcases List.mem_append.mp hp with h | h
      · exact List.mem_append.mpr (.inl h)
      · exact List.mem_append.mpr (.inr (.tail _ h))
  · rintro v news' h' tk' ⟨o', r, rfl⟩ F' N'
    refine hret v _ h' tk' ⟨o', r, rfl⟩ F' (fun p hp => N' p ?_)
    rw [hg] at hp
    rcases List.mem_append.mp hp with h | h
    · exact .tail _ (List.mem_append.mpr (.inl h))
    · rcases List.mem_cons.mp h with rfl | h
      · exact .head _
      · exact .tail _ (List.mem_append.mpr (.inr h))
local macro_rules | `(tactic| k_all) => `(tactic| assumption)
abbrev RDig (many : Int) (v : Value) (o' : Obj) : Prop := ∃ d t x t2 nn, v = .int d t ∧ 0 ≤ d ∧ d < many ∧ o' = listOf #[.int x t2] nn
set_option maxHeartbeats 4000000 in
theorem c_digit (b : Addr) (x many : Int) (t t2 : Tok) (nn : Nat) (hm : 0 < many) (hm2 : many < 1000) : CtrU0 2 222 [.ref b, .int many t2] b (listOf #[.int x t] nn) (RDig many) := by
  refine ctrU0_of fun rest hne => ?_
  intro w p loose mean mg mb dp un gd cn cs a ccd cl outer A₀ base h₀ L m s Q E B F X N T hk hdp hun hret
  refine wpAny_call ?_
  k_dflt cell_enter
  k_steps
  k_with_none
  all_goals exact hret _ _ _ _ ⟨_, ⟨_, _, _, _, _, rfl, Int.fmod_nonneg_of_pos _ hm, Int.fmod_lt_of_pos _ hm, rfl⟩, rfl⟩ (by k_asm) (by k_asm)
end Mine

-- part B3
namespace Mine
open PySem PySem.W PyProof.Rows PySem.Spec PySem.Calls
local macro_rules | `(tactic| walk_at "pad 6 0") => `(tactic| fail)
theorem fill5 : (PySem.Challenge.rw_pb0417_01, kk) = (PySem.Challenge.rw_pb0417_01, kk) := by
  w_top off
  k_fill
  rfl
structure V7 where
  cf : Int
  pf : Int
  af : Int
  zf : Int
  sf : Int
  ov : Int
  df : Int
abbrev fD (h0 h1 h2 h3 h4 h5 h6 : Int) (k0 k1 k2 k3 k4 k5 k6 : Tok) (a0 a1 a2 a3 a4 a5 a6 : Int) (t0 t1 t2 t3 t4 t5 t6 : Tok) : Obj := dictOf [⟨h0, .str (Str.ofString "cf") k0, .int a0 t0⟩, ⟨h1, .str (Str.ofString "pf") k1, .int a1 t1⟩, ⟨h2, .str (Str.ofString "af") k2, .int a2 t2⟩, ⟨h3, .str (Str.ofString "zf") k3, .int a3 t3⟩, ⟨h4, .str (Str.ofString "sf") k4, .int a4 t4⟩, ⟨h5, .str (Str.ofString "of") k5, .int a5 t5⟩, ⟨h6, .str (Str.ofString "df") k6, .int a6 t6⟩] 7
abbrev FR (h0 h1 h2 h3 h4 h5 h6 : Int) (k0 k1 k2 k3 k4 k5 k6 : Tok) (z : Int) (V : V7) : Value → Obj → Prop := fun v o' => ∃ t t0 t1 t2 t3 t4 t5 t6, v = .int z t ∧ o' = fD h0 h1 h2 h3 h4 h5 h6 k0 k1 k2 k3 k4 k5 k6 V.cf V.pf V.af V.zf V.sf V.ov V.df t0 t1 t2 t3 t4 t5 t6
theorem FR.of {h0 h1 h2 h3 h4 h5 h6 : Int} {k0 k1 k2 k3 k4 k5 k6 : Tok} {z z' : Int} {V : V7} {t : Tok} {a0 a1 a2 a3 a4 a5 a6 : Int} {t0 t1 t2 t3 t4 t5 t6 : Tok} (hz : z' = z) (q0 : a0 = V.cf) (q1 : a1 = V.pf) (q2 : a2 = V.af) (q3 : a3 = V.zf) (q4 : a4 = V.sf) (q5 : a5 = V.ov) (q6 : a6 = V.df) :
    FR h0 h1 h2 h3 h4 h5 h6 k0 k1 k2 k3 k4 k5 k6 z V (.int z' t) (dictOf [⟨h0, .str (Str.ofString "cf") k0, .int a0 t0⟩, ⟨h1, .str (Str.ofString "pf") k1, .int a1 t1⟩, ⟨h2, .str (Str.ofString "af") k2, .int a2 t2⟩, ⟨h3, .str (Str.ofString "zf") k3, .int a3 t3⟩, ⟨h4, .str (Str.ofString "sf") k4, .int a4 t4⟩, ⟨h5, .str (Str.ofString "of") k5, .int a5 t5⟩, ⟨h6, .str (Str.ofString "df") k6, .int a6 t6⟩] 7) := by
  subst hz q0 q1 q2 q3 q4 q5 q6
  exact ⟨t, t0, t1, t2, t3, t4, t5, t6, rfl, rfl⟩
theorem q_ne {fl C dx dx' : Addr} {es : List DictEntry} {n : Nat} : ((fl, instObj C dx) : Addr × Obj) ≠ (dx', dictOf es n) := by
  intro e
  injection e with e1 e2
  cases e2
section
variable {h0 h1 h2 h3 h4 h5 h6 : Int} {k0 k1 k2 k3 k4 k5 k6 : Tok} {a0 a1 a2 a3 a4 a5 a6 : Int} {t0 t1 t2 t3 t4 t5 t6 : Tok} {fl dx : Addr}
abbrev CtrF (k : Nat) (f : Addr) (vs : List Value) (fl dx : Addr) (o : Obj) (R : Value → Obj → Prop) : Prop :=
  ∀ (news : List (Addr × Obj)) (g : Obj → List (Addr × Obj)), UpdF dx o news g → (fl, instObj 169 dx) ∈ news → Ctr k f vs news (fun v n => ∃ o', R v o' ∧ n = g o')
theorem ctrF_of {k : Nat} {f : Addr} {vs : List Value} {fl dx : Addr} {es : List DictEntry} {n : Nat} {R : Value → Obj → Prop} (C : CtrU k f vs dx (dictOf es n) (fl, instObj 169 dx) R) : CtrF k f vs fl dx (dictOf es n) R :=
  fun news g U q => C news g U q q_ne
theorem mm256 (x : Int) : x % 256 % 256 = x % 256 := by omega
local macro_rules | `(tactic| k_mem) => `(tactic| (refine List.mem_cons_of_mem _ ?_; k_mem))
local macro_rules | `(tactic| k_all) => `(tactic| assumption)
local macro_rules | `(tactic| walk_at "ctr sides") => `(tactic| ((case B => k_asm); (case F => k_asm); (case X => k_asm); (case N => k_asm); (case T => k_asm); (case hk => first | exact rfl | assumption); (case hd => ktr_room); (case hu => ktr_units)))
local macro_rules | `(tactic| walk_at "ctr int") => `(tactic| (intro v9 n9 h9 tk9 R9 F9 N9; (obtain ⟨e9, t9, f9⟩ := R9; subst e9; subst f9); (try dsimp only); (try k_fold)))
local macro_rules | `(tactic| walk_at "call ref") => `(tactic| (k_here; k_dflt (refine' ctr_use (c_wrap _ _ _ _) ?B ?F ?X ?N ?T ?hk ?hd ?hu ?_; walk_at "ctr sides"); walk_at "ctr int"))
local macro_rules | `(tactic| walk_at "call ref") => `(tactic| (k_here; k_dflt (refine' ctr_use (c_bit _ _ _ _) ?B ?F ?X ?N ?T ?hk ?hd ?hu ?_; walk_at "ctr sides"); walk_at "ctr int"))
local macro_rules | `(tactic| walk_at "call ref") => `(tactic| (k_here; k_dflt (refine' ctr_use (c_parity _ _ _) ?B ?F ?X ?N ?T ?hk ?hd ?hu ?_; walk_at "ctr sides"); walk_at "ctr int"))


def aadd (x y c : Int) : Int := (x % 256 + y % 256 + c) % 256
def asub (x y c : Int) : Int := (x % 256 - y % 256 - c) % 256
def zfl (r : Int) : Int := if r = 0 then 1 else 0
theorem news_tl {h₀ h : Heap} {L : Addr} {p q : Addr × Obj} {l : List (Addr × Obj)} (N : News h₀ L h (p :: q :: l)) : News h₀ L h (q :: l) := fun r hr => N r (.tail _ hr)
def ofl (p q : Int) : Int := Builtin.bitAnd p q / 128 % 2
def fadd (x y c d : Int) : V7 := ⟨(x % 256 + y % 256 + c).fdiv (2 ^ Int.toNat 8), par (aadd x y c), (Builtin.bitAnd (x % 256) 15 + Builtin.bitAnd (y % 256) 15 + c).fdiv (2 ^ Int.toNat 4), zfl (aadd x y c), aadd x y c / 128 % 2, ofl (Builtin.bitXor (x % 256) (aadd x y c)) (Builtin.bitXor (y % 256) (aadd x y c)), d⟩
def fsub (x y c d : Int) : V7 := ⟨if x % 256 - y % 256 - c < 0 then 1 else 0, par (asub x y c), if Builtin.bitAnd (x % 256) 15 - Builtin.bitAnd (y % 256) 15 - c < 0 then 1 else 0, zfl (asub x y c), asub x y c / 128 % 2, ofl (Builtin.bitXor (x % 256) (y % 256)) (Builtin.bitXor (x % 256) (asub x y c)), d⟩
def flog (x d : Int) : V7 := ⟨0, par (x % 256), 0, zfl (x % 256), x % 256 / 128 % 2, 0, d⟩

set_option maxHeartbeats 4000000 in
theorem c_szp {r : Int} {tx ty : Tok} : CtrF 5 180 [.ref fl, .int r tx, .int 8 ty] fl dx (fD h0 h1 h2 h3 h4 h5 h6 k0 k1 k2 k3 k4 k5 k6 a0 a1 a2 a3 a4 a5 a6 t0 t1 t2 t3 t4 t5 t6) (FR h0 h1 h2 h3 h4 h5 h6 k0 k1 k2 k3 k4 k5 k6 (r % 256) ⟨a0, par (r % 256), a2, if r % 256 = 0 then 1 else 0, r % 256 / 128 % 2, a5, a6⟩) := by
  refine ctrF_of (ctrU_of fun rest hne hq => ?_)
  intro w p loose mean mg mb dp un gd cn cs a ccd cl outer A₀ base h₀ L m s Q E B F X N T hk hdp hun hret
  refine wpAny_call ?_
  k_dflt cell_enter
  k_steps
  k_with_none
  all_goals refine' hret _ _ _ _ ⟨_, ?_, rfl⟩ (by k_asm) (by k_asm)
  all_goals (refine' FR.of rfl ?_ ?_ ?_ ?_ ?_ ?_ ?_ <;> first | rfl | (dsimp only; rw [mm256]) | (dsimp only; rw [if_pos (by assumption)]) | (dsimp only; rw [if_neg (by assumption)]))
local macro_rules | `(tactic| walk_at "ctr fr") => `(tactic| (intro v9 n9 h9 tk9 R9 F9 N9; (obtain ⟨o9, ⟨t9, u0, u1, u2, u3, u4, u5, u6, e9, q9⟩, f9⟩ := R9; subst e9; subst q9; subst f9); (try dsimp only at N9); (try dsimp only); (try k_fold)))
local macro_rules | `(tactic| walk_at "call ref") => `(tactic| (k_here; k_dflt (refine' ctr_use (c_szp _ _ ?U ?M) ?B ?F ?X ?N ?T ?hk ?hd ?hu ?_; walk_at "ctr sides"; (case M => k_mem); (case U => k_updF)); walk_at "ctr fr"))

set_option maxHeartbeats 4000000 in
theorem c_add {x y c : Int} {tx ty tz tw : Tok}  : CtrF 8 187 [.ref fl, .int x tx, .int y ty, .int c tz, .int 8 tw] fl dx (fD h0 h1 h2 h3 h4 h5 h6 k0 k1 k2 k3 k4 k5 k6 a0 a1 a2 a3 a4 a5 a6 t0 t1 t2 t3 t4 t5 t6) (FR h0 h1 h2 h3 h4 h5 h6 k0 k1 k2 k3 k4 k5 k6 (aadd x y c) (fadd x y c a6)) := by
  refine ctrF_of (ctrU_of fun rest hne hq => ?_)
  intro w p loose mean mg mb dp un gd cn cs a ccd cl outer A₀ base h₀ L m s Q E B F X N T hk hdp hun hret
  refine wpAny_call ?_
  k_dflt cell_enter
  k_steps
  k_with_none
  all_goals refine' hret _ _ _ _ ⟨_, ?_, rfl⟩ (by k_asm) (by first | k_asm | exact news_tl (by k_asm))
  all_goals (refine' FR.of ?_ ?_ ?_ ?_ ?_ ?_ ?_ ?_ <;> first | rfl | (dsimp only [fsub]; rw [if_pos (by assumption)]) | (dsimp only [fsub]; rw [if_neg (by assumption)]))

set_option maxHeartbeats 4000000 in
theorem c_sub {x y c : Int} {tx ty tz tw : Tok}  : CtrF 8 194 [.ref fl, .int x tx, .int y ty, .int c tz, .int 8 tw] fl dx (fD h0 h1 h2 h3 h4 h5 h6 k0 k1 k2 k3 k4 k5 k6 a0 a1 a2 a3 a4 a5 a6 t0 t1 t2 t3 t4 t5 t6) (FR h0 h1 h2 h3 h4 h5 h6 k0 k1 k2 k3 k4 k5 k6 (asub x y c) (fsub x y c a6)) := by
  refine ctrF_of (ctrU_of fun rest hne hq => ?_)
  intro w p loose mean mg mb dp un gd cn cs a ccd cl outer A₀ base h₀ L m s Q E B F X N T hk hdp hun hret
  refine wpAny_call ?_
  k_dflt cell_enter
  k_steps
  k_with_none
  all_goals refine' hret _ _ _ _ ⟨_, ?_, rfl⟩ (by k_asm) (by first | k_asm | exact news_tl (by k_asm))
  all_goals (refine' FR.of ?_ ?_ ?_ ?_ ?_ ?_ ?_ ?_ <;> first | rfl | (dsimp only [fsub]; rw [if_pos (by assumption)]) | (dsimp only [fsub]; rw [if_neg (by assumption)]))

set_option maxHeartbeats 4000000 in
theorem c_logic {x : Int} {tx tw : Tok}  : CtrF 8 201 [.ref fl, .int x tx, .int 8 tw] fl dx (fD h0 h1 h2 h3 h4 h5 h6 k0 k1 k2 k3 k4 k5 k6 a0 a1 a2 a3 a4 a5 a6 t0 t1 t2 t3 t4 t5 t6) (FR h0 h1 h2 h3 h4 h5 h6 k0 k1 k2 k3 k4 k5 k6 (x % 256) (flog x a6)) := by
  refine ctrF_of (ctrU_of fun rest hne hq => ?_)
  intro w p loose mean mg mb dp un gd cn cs a ccd cl outer A₀ base h₀ L m s Q E B F X N T hk hdp hun hret
  refine wpAny_call ?_
  k_dflt cell_enter
  k_steps
  k_with_none
  all_goals refine' hret _ _ _ _ ⟨_, ?_, rfl⟩ (by k_asm) (by first | k_asm | exact news_tl (by k_asm))
  all_goals (refine' FR.of ?_ ?_ ?_ ?_ ?_ ?_ ?_ ?_ <;> first | rfl | (dsimp only [fsub]; rw [if_pos (by assumption)]) | (dsimp only [fsub]; rw [if_neg (by assumption)]))
end
end Mine

-- part EC
namespace Mine
open PySem PySem.W PyProof.Rows PyProof.Rows.LCg PySem.Spec PySem.Calls
local macro_rules | `(tactic| walk_at "pad 7 0") => `(tactic| fail)
local macro_rules | `(tactic| walk_at "pad 7 1") => `(tactic| fail)
local macro_rules | `(tactic| walk_at "pad 7 2") => `(tactic| fail)
local macro_rules | `(tactic| walk_at "pad 7 3") => `(tactic| fail)
local macro_rules | `(tactic| walk_at "pad 7 4") => `(tactic| fail)
local macro_rules | `(tactic| walk_at "pad 7 5") => `(tactic| fail)
local macro_rules | `(tactic| walk_at "pad 7 6") => `(tactic| fail)
local macro_rules | `(tactic| walk_at "pad 7 7") => `(tactic| fail)
/-- the places whose items pass -/
def sel (p : Int → Bool) (ns : List Int) : Nat → List Int
  | 0 => []
  | i + 1 => if p (ns.getD i 0) = true then sel p ns i ++ [(i : Int)] else sel p ns i
theorem sel_len (p : Int → Bool) (ns : List Int) : ∀ i, (sel p ns i).length ≤ i
  | 0 => Nat.le_refl _
  | i + 1 => by
    have h := sel_len p ns i
    unfold sel
    split
    · rw [List.length_append, List.length_singleton]; omega
    · omega
def EcT (h₀ : Heap) (L : Addr) (m : Str → Option Value) (s₁ : Shared) (all : List (Addr × Obj)) (ok b : Bool) (s' : Shared) : Prop :=
  ok = b ∧ ∃ h' tk', s' = { s₁ with heap := h', toks := tk' } ∧ Fr h₀ L h' m ∧ News h₀ L h' all
theorem EcT.intro {h₀ : Heap} {L : Addr} {m : Str → Option Value} {s₁ : Shared} {all : List (Addr × Obj)} {ok b : Bool} {h' : Heap} {tk' : Nat} (e : ok = b) (F : Fr h₀ L h' m) (N : News h₀ L h' all) : EcT h₀ L m s₁ all ok b { s₁ with heap := h', toks := tk' } := ⟨e, h', tk', rfl, F, N⟩
section
variable {prog : Program} {w : World} {A : Around} {E : Value → Shared → Prop} {s : Shared} {h₀ : Heap} {L : Addr} {m : Str → Option Value} {env : Env}
theorem ec_loop {elt target iter ct : Expr} {scope : Scope} {pos : Pos} {it acc : Value} {env : Env} {R : Result → Shared → Prop} (I : Nat → Shared → Prop)
    (turn : ∀ n s, I n s → wpAny (model prog w) A (pyNext it) (fun r s₁ => match r with
      | none => R (.ok .next) s₁
      | some v => wpAny (model prog w) A (letOwnedTupleGo target it v) (fun _ s₀ => wpAny (model prog w) A (assign target env v) (fun _ s₂ =>
          wpAny (model prog w) A (isTrue ct env (eval ct env)) (fun ok s₃ => if ok = true then
              wpAny (model prog w) A (eval elt env) (fun x s₄ =>
                wpAny (model prog w) A (call (.builtin "list.append") [acc, x]) (fun _ s₅ => ∃ m, m < n ∧ I m s₅) (notedBy (model prog w) A env fun e s' => R (.error e) s') s₄) (notedBy (model prog w) A env fun e s' => R (.error e) s') s₃
            else ∃ m, m < n ∧ I m s₃) (notedBy (model prog w) A env fun e s' => R (.error e) s') s₂)
          (notedBy (model prog w) A env fun e s' => R (.error e) s') s₀) (notedBy (model prog w) A env fun e s' => R (.error e) s') s₁) (notedBy (model prog w) A env fun e s' => R (.error e) s') s)
    (n : Nat) (h : I n s) : codeAny (model prog w) A (.compLoop (.ListComp elt [⟨target, iter, [ct], 0⟩] scope pos) 0 it acc env) R s := by
  refine codeAny_loop rfl I (fun n s hI => ?_) n h
  show wpAny _ A ((compTurn (.ListComp elt [⟨target, iter, [ct], 0⟩] scope pos) 0 it acc env).onRaise (fun x => do noteFrame x env; theTreesLotGoes x)) _ _ s
  refine wpAny_noted ?_
  rw [compTurn_list]
  refine wpAny_bind (wpAny_standAt (wpAny_bind (wpAny_mono (turn n s hI) (fun r s₁ h₁ => ?_) fun _ _ h' => h')))
  cases r with
  | none => exact wpAny_pure h₁
  | some v =>
    refine wpAny_bind (wpAny_mono h₁ (fun _ s₀ h₀ => ?_) fun _ _ h' => h')
    refine wpAny_bind (wpAny_mono h₀ (fun _ s₂ h₂ => wpAny_bind (wpAny_mono (wpAny_tests_one h₂) (fun ok s₃ h₃ => ?_) fun _ _ h' => h')) fun _ _ h' => h')
    cases ok with
    | false => exact wpAny_pure ⟨rfl, by simpa using h₃⟩
    | true =>
      have h₃' := if_pos (c := true = true) rfl ▸ h₃
      exact wpAny_bind (wpAny_bind (wpAny_mono h₃' (fun x s₄ h₄ => wpAny_bind (wpAny_mono h₄ (fun _ s₅ h₅ => wpAny_pure (wpAny_pure ⟨rfl, h₅⟩)) fun _ _ h' => h')) fun _ _ h' => h'))

abbrev EcSt (e it l : Addr) (items : Array Value) (i : Nat) (h : Heap) : Prop := (∃ old, IsEnum h e it i old) ∧ h.IsListIter it l i ∧ h.IsList l items

abbrev EcTurn (prog : Program) (w : World) (A : Around) (h₀ : Heap) (L : Addr) (m : Str → Option Value) (env : Env) (ct : Expr) (x x₂ : Str) (scope : Scope) (cl : List (Str × Addr)) (s₂ : Shared) (ns : List Int) (p : Int → Bool) (news : List (Addr × Obj)) : Prop :=
  ∀ (i : Nat) (n : Int) (t t2 : Tok) (C : Addr) (oC : Obj) (m₂ : Str → Option Value) (D : Addr) (ys : List Value) (e : Addr) (oe : Obj) (it : Addr) (oi : Obj) (h : Heap) (tk : Nat) (E' : Value → Shared → Prop), n ∈ ns → NsObj oC m₂ → m₂ x = some (.int i t) → m₂ x₂ = some (.int n t2) → Fr h₀ L h m →
    News h₀ L h ((C, oC) :: (D, lst ys) :: (e, oe) :: (it, oi) :: news) →
    wpAny (model prog w) A (isTrue ct (compEnvC scope cl C env) (eval ct (compEnvC scope cl C env))) (fun ok s' => EcT h₀ L m { s₂ with heap := h, toks := tk } ((C, oC) :: (D, lst ys) :: (e, oe) :: (it, oi) :: news) ok (p n) s') E' { s₂ with heap := h, toks := tk }

theorem notin2 {b e it : Addr} (h1 : b ≠ e) (h2 : b ≠ it) : b ∉ [e, it] := fun h => by
  rcases List.mem_cons.mp h with h | h
  · exact h1 h
  · exact h2 (List.mem_singleton.mp h)
set_option maxHeartbeats 2000000 in
theorem ec_block {iter ct : Expr} {x x₂ : Str} {px px₂ pe tp : Pos} {tk0 : Nat} {scope : Scope} {cl : List (Str × Addr)} {pos : Pos} {s₂ : Shared} {e it l : Addr} {vs : List Value} {ns : List Int} {nn : Nat} {news : List (Addr × Obj)} {p : Int → Bool}
    {RR : Value → Addr → Result → Shared → Prop} (hei : e ≠ it) (hle : l ≠ e) (hli : l ≠ it) (hi : IntsAre vs ns) (hsz : vs.length ≤ sizeLine)
    (hst : EcSt e it l vs.toArray 0 s₂.heap) (F : Fr h₀ L s₂.heap m) (N : News h₀ L s₂.heap news) (hm : (l, listOf vs.toArray nn) ∈ news) (he₀ : h₀.get? e = none) (hi₀ : h₀.get? it = none) (hLe : L ≠ e) (hLi : L ≠ it) (off : ∀ p ∈ news, p.1 ≠ e ∧ p.1 ≠ it)
    (hcell : ∀ y ∈ scope.names, y.2 ≠ .cell) (hkind : scope.kind = .function) (hx : scope.names.lookup x = some .local) (hx₂ : scope.names.lookup x₂ = some .local) (hxx : x ≠ x₂) (hdb : (x == ("__debug__" : Str)) = false) (hh : A.handled = none)
    (turn : EcTurn prog w A h₀ L m env ct x x₂ scope cl s₂ ns p news)
    (hRR : ∀ D C h tk m' ys, IntsAre ys (sel p ns ns.length) → Fr h₀ L h m → News h₀ L h ((D, lst ys) :: news) → (∀ p ∈ news, p.1 < D) → h.Ns C m' → h₀.get? C = none → C ≠ L → C ≠ D → (∀ p ∈ news, p.1 ≠ C) → RR (.ref D) C (.ok .next) { s₂ with heap := h, toks := tk }) :
    wpAny (model prog w) A (newList []) (fun acc s₃ => wpAny (model prog w) A (newFunctionEnv scope env.globals cl [] env.qual none .none (some env)) (fun cenv s₄ =>
      codeAny (model prog w) A (.compStart (.ListComp (.Name x pe) [⟨.Tuple [.Name x px, .Name x₂ px₂] tk0 tp, iter, [ct], 0⟩] scope pos) 0 (.ref e) acc { cenv with scope := relabel scope env }) (RR acc cenv.locals) s₄) E s₃) E s₂ := by
  refine wpAny_newObj_type (wpAny_newFunctionEnv hcell (by intro y hy; simp at hy) (fun h₁ hns₁ hsb₁ => ?_) hkind)
  dsimp only at hns₁ hsb₁ ⊢
  have W := WalksT.enumerate (prog := prog) (w := w) hh e it l hei hle hli vs.toArray
  have hlen : vs.length = ns.length := hi.length
  have hsz' : vs.toArray.size = ns.length := by rw [List.size_toArray]; exact hlen
  generalize hH2 : s₂.heap.push { cls := .type "list", dict := none, data := .seq ([] : List Value).toArray } = H2 at hns₁ hsb₁ ⊢
  have hC : H2.objs.size = s₂.heap.objs.size + 1 := by rw [← hH2, Heap.size_push]
  obtain ⟨D, hD⟩ : ∃ D : Nat, s₂.heap.objs.size = D := ⟨_, rfl⟩
  obtain ⟨C, hCC⟩ : ∃ C : Nat, H2.objs.size = C := ⟨_, rfl⟩
  rw [hCC] at hns₁ hsb₁ hC ⊢
  rw [hD] at hC ⊢
  have lt2 : ∀ {b : Nat} {o}, s₂.heap.get? b = some o → b < D := fun h => hD ▸ Heap.lt_size h
  have hDC : D ≠ C := by omega
  have old : ∀ (b : Nat) o, s₂.heap.get? b = some o → h₁.get? b = some o := fun b o q => by
    have z : b < D := lt2 q
    have z2 : b ≠ C := by omega
    exact hsb₁.extBut b o z2 (Heap.get?_push_of_some _ (hH2 ▸ Heap.get?_push_of_some _ q))
  have hacc : h₁.get? D = some (lst []) := by
    refine hsb₁.extBut _ _ hDC (Heap.get?_push_of_some _ (hH2 ▸ ?_))
    rw [← hD]
    exact Heap.get?_push_size _ rfl
  have none₀ : ∀ a : Nat, D ≤ a → h₀.get? a = none := fun a ha => by
    cases q : h₀.get? a with
    | none => rfl
    | some o' =>
      have z : a < D := lt2 (F.keep a o' q)
      omega
  have hD₀ := none₀ D (Nat.le_refl _)
  have hC₀ := none₀ C (by omega)
  have hLlt : @LT.lt Nat _ L D := hD ▸ F.ns.lt
  have helt : @LT.lt Nat _ e D := by obtain ⟨⟨_, q⟩, _⟩ := hst; exact lt2 q
  have hilt : @LT.lt Nat _ it D := by obtain ⟨_, ⟨_, q, _⟩, _⟩ := hst; exact lt2 q
  have hnlt : ∀ q ∈ news, @LT.lt Nat _ q.1 D := fun q hq => lt2 (N q hq).1
  have hllt : @LT.lt Nat _ l D := hnlt _ hm
  have eqC : ∀ {b : Nat}, b < D → b ≠ C := fun h => by omega
  have hst₁ : EcSt e it l vs.toArray 0 h₁ := W.frame _ _ _ hst fun b _ o q => old b o q
  have loop : ∀ s₃ : Shared, (∃ tk, s₃ = { s₂ with heap := h₁, toks := tk }) →
      codeAny (model prog w) A (.compLoop (.ListComp (.Name x pe) [⟨.Tuple [.Name x px, .Name x₂ px₂] tk0 tp, iter, [ct], 0⟩] scope pos) 0 (.ref e) (.ref D) (compEnvC scope cl C env)) (RR (.ref D) C) s₃ := by
    rintro s₃ ⟨tk₁, rfl⟩
    refine ec_loop (fun k s' => ∃ h' tk i ys m', s' = { s₂ with heap := h', toks := tk } ∧ i ≤ ns.length ∧ k = ns.length + 1 - i ∧ IntsAre ys (sel p ns i) ∧ EcSt e it l vs.toArray i h' ∧ Fr h₀ L h' m ∧ h'.Ns C m' ∧ News h₀ L h' ((D, lst ys) :: news)) ?_ (ns.length + 1)
      ⟨h₁, tk₁, 0, [], _, rfl, Nat.zero_le _, rfl, .nil, hst₁, F.keeps old, hns₁, fun q hq => ?_⟩
    · rintro k s' ⟨h', tk, i, ys, m', rfl, hin, rfl, hys, hst', F', hn', N'⟩
      by_cases hlt : i < ns.length
      · refine W.item i _ _ _ (by rw [hsz']; exact hlt) hst' fun T vals h₂ tk₂ hP hTle hT hMid hk₂ => ?_
        obtain ⟨t, xv, hxv, rfl⟩ := hP
        obtain ⟨n, t2, rfl, hn⟩ := IntsAre.at hi i xv (by simpa using hxv)
        refine W.go _ _ _ i T _ _ _ hMid fun h₃ hst₃ hk₃ => ?_
        have hTn := W.apart i T h₂ hMid
        have hT₃ : h₃.IsTuple T #[.int i t, .int n t2] := let ⟨o, ho, r⟩ := hT; ⟨o, hk₃ T o hTn ho, r⟩
        have k₃ : ∀ (b : Nat) o, b ≠ e → b ≠ it → h'.get? b = some o → h₃.get? b = some o := fun b o q1 q2 q => hk₃ b o (notin2 q1 q2) (hk₂ b o (notin2 q1 q2) q)
        have hn₃ : h₃.Ns C m' := hn'.at' fun o q => k₃ C o (Ne.symm (eqC helt)) (Ne.symm (eqC hilt)) q
        refine kcp_assign (env := compEnvC scope cl C env) hh hT₃ (lookup_relabel_local hx) (lookup_relabel_local hx₂) (by simp [compEnvC, relabel, hkind]) hn₃ fun h₄ tk₄ hn₄ hs₄ => ?_
        have k₄ : ∀ (b : Nat) o, b ≠ C → b ≠ e → b ≠ it → h'.get? b = some o → h₄.get? b = some o := fun b o q0 q1 q2 q => hs₄ b o q0 (k₃ b o q1 q2 q)
        have hst₄ : EcSt e it l vs.toArray (i + 1) h₄ := W.frame _ _ _ hst₃ fun b hb o q => hs₄ b o (by
          rcases List.mem_cons.mp hb with rfl | hb
          · exact eqC helt
          · rcases List.mem_cons.mp hb with rfl | hb
            · exact eqC hilt
            · rw [List.mem_singleton.mp hb]; exact eqC hllt) q
        obtain ⟨oC, heC, hoC⟩ := ns_obj hn₄
        obtain ⟨oe, hoe⟩ : ∃ oe, h₄.get? e = some oe := by obtain ⟨⟨_, q⟩, _⟩ := hst₄; exact ⟨_, q⟩
        obtain ⟨oi, hoi⟩ : ∃ oi, h₄.get? it = some oi := by obtain ⟨_, ⟨_, q, _⟩, _⟩ := hst₄; exact ⟨_, q⟩
        have F₄ : Fr h₀ L h₄ m := ⟨F'.ns.at' fun o q => k₄ L o (eqC hLlt) hLe hLi q, fun b o q => by
          have z := F.keep b o q
          exact k₄ b o (eqC (lt2 z)) (fun q' => by rw [q', he₀] at q; cases q) (fun q' => by rw [q', hi₀] at q; cases q) (F'.keep b o q), F'.above⟩
        have N₄ : News h₀ L h₄ ((C, oC) :: (D, lst ys) :: (e, oe) :: (it, oi) :: news) := fun q hq => by
          rcases List.mem_cons.mp hq with rfl | hq
          · exact ⟨heC, Ne.symm (eqC hLlt), hC₀⟩
          · rcases List.mem_cons.mp hq with rfl | hq
            · have z := N' (D, lst ys) List.mem_cons_self
              exact ⟨k₄ D _ hDC (Nat.ne_of_gt helt) (Nat.ne_of_gt hilt) z.1, z.2⟩
            · rcases List.mem_cons.mp hq with rfl | hq
              · exact ⟨hoe, Ne.symm hLe, he₀⟩
              · rcases List.mem_cons.mp hq with rfl | hq
                · exact ⟨hoi, Ne.symm hLi, hi₀⟩
                · have z := N' q (List.mem_cons_of_mem _ hq)
                  exact ⟨k₄ q.1 _ (eqC (hnlt q hq)) (off q hq).1 (off q hq).2 z.1, z.2⟩
        have hgd : ns.getD i 0 = n := by simp [List.getD, hn]
        refine wpAny_mono (turn i n t t2 C oC _ D ys e oe it oi h₄ tk₄ _ (List.mem_of_getElem? hn) hoC (by simp [hxx]) (by simp) F₄ N₄) (fun ok s₅ h₅ => ?_) fun _ _ q => q
        obtain ⟨rfl, h₅, tk₅, rfl, F₅, N₅⟩ := h₅
        have same : ∀ q ∈ (C, oC) :: (D, lst ys) :: (e, oe) :: (it, oi) :: news, ∀ o, h₄.get? q.1 = some o → h₅.get? q.1 = some o := fun q hq o z => by
          have z1 := (N₄ q hq).1
          rw [z] at z1
          rw [Option.some.inj z1]
          exact (N₅ q hq).1
        have hst₅ : EcSt e it l vs.toArray (i + 1) h₅ := W.frame _ _ _ hst₄ fun b hb o q => by
          rcases List.mem_cons.mp hb with rfl | hb
          · exact same (b, oe) (by simp) o q
          · rcases List.mem_cons.mp hb with rfl | hb
            · exact same (b, oi) (by simp) o q
            · rw [List.mem_singleton.mp hb] at q ⊢
              exact same (l, listOf vs.toArray nn) (by simp [hm]) o q
        have zC := (N₅ (C, oC) (by simp)).1
        have zD := (N₅ (D, lst ys) (by simp)).1
        have hyl := sel_len p ns i
        have hyl2 : ys.length = (sel p ns i).length := hys.length
        by_cases hp : p n = true
        · rw [if_pos hp]
          refine LCgL.ld_own N₅ (List.mem_cons_self) hoC (v := .int i t) (by simp [hxx]) ?_ (by simp [compEnvC, relabel, hkind]) (lookup_relabel_local hx) hdb
          refine append_at (hsz := by show ys.toArray.size ≤ sizeLine; rw [List.size_toArray]; omega) zD fun h₆ hs₆ hD₆ => ?_
          refine ⟨ns.length + 1 - (i + 1), by omega, h₆, tk₅, i + 1, ys ++ [.int i t], _, rfl, hlt, rfl, ?_, W.frame _ _ _ hst₅ fun b hb o q => hs₆.extBut b o (by
            rcases List.mem_cons.mp hb with rfl | hb
            · exact Nat.ne_of_lt helt
            · rcases List.mem_cons.mp hb with rfl | hb
              · exact Nat.ne_of_lt hilt
              · rw [List.mem_singleton.mp hb]; exact Nat.ne_of_lt hllt) q, F₅.change hs₆ (Nat.ne_of_gt hLlt) hD₀, (hoC.ns zC).sameBut hs₆ (Ne.symm hDC), fun q hq => ?_⟩
          · show IntsAre _ (if p (ns.getD i 0) = true then _ else _)
            rw [hgd, if_pos hp]
            exact hys.append (.cons _ _ .nil)
          · rcases List.mem_cons.mp hq with rfl | hq
            · exact ⟨hD₆.trans (congrArg some (lst_snoc ys _)), Nat.ne_of_gt hLlt, hD₀⟩
            · have z := N₅ q (by simp [hq])
              exact ⟨hs₆.extBut _ _ (Nat.ne_of_lt (hnlt q hq)) z.1, z.2⟩
        · rw [if_neg hp]
          refine ⟨ns.length + 1 - (i + 1), by omega, h₅, tk₅, i + 1, ys, _, rfl, hlt, rfl, ?_, hst₅, F₅, hoC.ns zC, fun q hq => N₅ q ?_⟩
          · show IntsAre _ (if p (ns.getD i 0) = true then _ else _)
            rw [hgd, if_neg hp]
            exact hys
          · rcases List.mem_cons.mp hq with rfl | hq
            · simp
            · simp [hq]
      · obtain rfl : i = ns.length := by omega
        refine W.done _ _ _ (by rw [hsz']; exact hst') fun h₂ tk₂ hk₂ => ?_
        have k₂ : ∀ (b : Nat) o, b ≠ e → b ≠ it → h'.get? b = some o → h₂.get? b = some o := fun b o q1 q2 q => hk₂ b o (notin2 q1 q2) q
        have F₂ : Fr h₀ L h₂ m := ⟨F'.ns.at' fun o q => k₂ L o hLe hLi q, fun b o q => k₂ b o (fun q' => by rw [q', he₀] at q; cases q) (fun q' => by rw [q', hi₀] at q; cases q) (F'.keep b o q), F'.above⟩
        refine hRR D C h₂ tk₂ m' ys hys F₂ (fun q hq => ?_) hnlt (hn'.at' fun o q => k₂ C o (Ne.symm (eqC helt)) (Ne.symm (eqC hilt)) q) hC₀ (Ne.symm (eqC hLlt)) (Ne.symm hDC) (fun q hq => eqC (hnlt q hq))
        have z := N' q hq
        refine ⟨?_, z.2⟩
        rcases List.mem_cons.mp hq with rfl | hq
        · exact k₂ _ _ (Nat.ne_of_gt helt) (Nat.ne_of_gt hilt) z.1
        · exact k₂ _ _ (off q hq).1 (off q hq).2 z.1
    · rcases List.mem_cons.mp hq with rfl | hq
      · exact ⟨hacc, Nat.ne_of_gt hLlt, hD₀⟩
      · exact ⟨old _ _ (N q hq).1, (N q hq).2⟩
  exact codeAny_compStart_list (loop _ ⟨_, rfl⟩) (W.self 0 _ _ _ hst₁ (loop _ ⟨_, rfl⟩))

def EcSrc (prog : Program) (w : World) (A : Around) (h₀ : Heap) (L : Addr) (m : Str → Option Value) (env : Env) (ct : Expr) (x x₂ : Str) (scope : Scope) (cl : List (Str × Addr)) (y : Str) (Q : Flow → Shared → Prop) (xv : Value) (s₁ : Shared) : Prop :=
  ∃ (e it l : Addr) (vs : List Value) (ns : List Int) (nn : Nat) (news : List (Addr × Obj)) (p : Int → Bool), xv = .ref e ∧ A.handled = none ∧ e ≠ it ∧ l ≠ e ∧ l ≠ it ∧ IntsAre vs ns ∧ vs.length ≤ sizeLine ∧ EcSt e it l vs.toArray 0 s₁.heap ∧ Fr h₀ L s₁.heap m ∧ News h₀ L s₁.heap news ∧
    (l, listOf vs.toArray nn) ∈ news ∧ h₀.get? e = none ∧ h₀.get? it = none ∧ L ≠ e ∧ L ≠ it ∧ (∀ p ∈ news, p.1 ≠ e ∧ p.1 ≠ it) ∧ EcTurn prog w A h₀ L m env ct x x₂ scope cl s₁ ns p news ∧
    ∀ D h tk ys, IntsAre ys (sel p ns ns.length) → Fr h₀ L h (fun z => if z = y then some (.ref D) else m z) → News h₀ L h ((D, lst ys) :: news) → (∀ q ∈ news, q.1 < D) → Q .next { s₁ with heap := h, toks := tk }

theorem ec_call {ct : Expr} {x x₂ y : Str} {scope : Scope} {cl : List (Str × Addr)} {Q : Flow → Shared → Prop} {l : Addr} {vs : List Value} {ns : List Int} {nn : Nat} {news : List (Addr × Obj)} (p : Int → Bool)
    (hh : A.handled = none) (F : Fr h₀ L s.heap m) (N : News h₀ L s.heap news) (hm : (l, listOf vs.toArray nn) ∈ news) (hi : IntsAre vs ns) (hsz : vs.length ≤ sizeLine) (turn : EcTurn prog w A h₀ L m env ct x x₂ scope cl s ns p news)
    (fin : ∀ D h tk ys, IntsAre ys (sel p ns ns.length) → Fr h₀ L h (fun z => if z = y then some (.ref D) else m z) → News h₀ L h ((D, lst ys) :: news) → (∀ q ∈ news, q.1 < D) → Q .next { s with heap := h, toks := tk }) :
    wpAny (model prog w) A (call (.type "enumerate") [.ref l]) (EcSrc prog w A h₀ L m env ct x x₂ scope cl y Q) E s := by
  have hl := PySem.IsL.isList (n := nn) (N _ hm).1
  refine call_enumerate_list hl fun h' he hit hs' hk => ?_
  have lt1 : ∀ {b : Nat} {o}, s.heap.get? b = some o → b < s.heap.objs.size := fun q => Heap.lt_size q
  have h0n : ∀ a : Nat, s.heap.objs.size ≤ a → h₀.get? a = none := fun a ha => by
    cases q : h₀.get? a with
    | none => rfl
    | some o' =>
      have z : a < s.heap.objs.size := lt1 (F.keep a o' q)
      omega
  have hlt : @LT.lt Nat _ l s.heap.objs.size := lt1 (N _ hm).1
  have hL : @LT.lt Nat _ L s.heap.objs.size := F.ns.lt
  have hn : ∀ q ∈ news, @LT.lt Nat _ q.1 s.heap.objs.size := fun q hq => lt1 (N q hq).1
  refine ⟨s.heap.objs.size + 1, s.heap.objs.size, l, vs, ns, nn, news, p, rfl, hh, Nat.succ_ne_self _, Nat.ne_of_lt (Nat.lt_succ_of_lt hlt), Nat.ne_of_lt hlt, hi, hsz, ⟨⟨_, he⟩, hit, hl.at fun o q => hk l o q⟩, F.keeps hk, N.grown hk, hm, h0n _ (Nat.le_succ _), h0n _ (Nat.le_refl _),
    Nat.ne_of_lt (Nat.lt_succ_of_lt hL), Nat.ne_of_lt hL, fun q hq => ⟨Nat.ne_of_lt (Nat.lt_succ_of_lt (hn q hq)), Nat.ne_of_lt (hn q hq)⟩, turn, fin⟩

theorem ec_Assign {iter ct : Expr} {x x₂ y : Str} {px px₂ pe tp py : Pos} {tk0 : Nat} {scope : Scope} {cl : List (Str × Addr)} {pos spos : Pos} {Q : Flow → Shared → Prop} (F₀ : Fr h₀ L s.heap m) (hLe : env.locals = L)
    (hsw : swapsWith (.ListComp (.Name x pe) [⟨.Tuple [.Name x px, .Name x₂ px₂] tk0 tp, iter, [ct], 0⟩] scope pos) (some (.Name y py)) spos.line env = pure true)
    (hclos : closureFor scope env = pure cl) (hcell : ∀ z ∈ scope.names, z.2 ≠ .cell) (hkind : scope.kind = .function)
    (hnames : ∀ z ∈ scope.names, z.2 = .local → scope.names.lookup z.1 = some .local) (hx : scope.names.lookup x = some .local) (hx₂ : scope.names.lookup x₂ = some .local) (hxx : x ≠ x₂) (hdb : (x == ("__debug__" : Str)) = false)
    (hy : env.kindOf y = some .local) (hp : (env.scope.kind == .class || (env.scope.kind == .module && env.locals != env.globals)) = false)
    (h : wpAny (model prog w) A (eval iter env) (EcSrc prog w A h₀ L m env ct x x₂ scope cl y Q) E s)
    (hs : ∀ x, foldedSetIterable iter env x = pure x := by intro _; rfl) :
    wpAny (model prog w) A (exec (.Assign [.Name y py] (.ListComp (.Name x pe) [⟨.Tuple [.Name x px, .Name x₂ px₂] tk0 tp, iter, [ct], 0⟩] scope pos) spos) env) Q E s := by
  subst hLe
  rw [exec_Assign_Name_used _ _ _ _ hsw]
  refine wpAny_bind (wpAny_standAt (wpAny_bind ?_))
  show wpAny _ A (do let _ ← comprehension (.ListComp (.Name x pe) [⟨.Tuple [.Name x px, .Name x₂ px₂] tk0 tp, iter, [ct], 0⟩] scope pos) scope env _ (newList []) false (eval iter env) (some (assign (.Name y py) env))) _ _ s
  refine wpAny_bind (wpAny_mono (wpAny_comprehension_free (use := some (assign (.Name y py) env)) (Q := fun _ s' => Q .next s') rfl hs hclos hkind hnames
    (wpAny_mono h (fun xv s₁ h₁ => ?_) fun _ _ e => e)) (fun _ s' hq => wpAny_pure (wpAny_pure hq)) fun _ _ e => e)
  obtain ⟨e, it, l, vs, ns, nn, news, p, rfl, hh, hei, hle, hli, hi, hsz, hst, F, N, hm, he₀, hi₀, hLe, hLi, off, turn, fin⟩ := h₁
  obtain ⟨⟨old, he⟩, _, _⟩ := id hst
  refine wpAny_pyIter_enum he ?_
  refine ec_block hei hle hli hi hsz hst F N hm he₀ hi₀ hLe hLi off hcell hkind hx hx₂ hxx hdb hh turn ?_
  intro D C h' tk m' ys hys F' N' hlt hn hC₀ hCL hCD offC
  show wpAny _ A (assign (.Name y py) env (.ref D)) _ _ _
  refine wpAny_assign_Name (wpAny_storeName_local hy F'.ns (fun h₂ hn₂ hs₂ => ?_) hp)
  have hL₀ : h₀.get? env.locals = none := Heap.get?_none_of_le F'.above
  have F₂ : Fr h₀ env.locals h₂ (fun z => if z = y then some (.ref D) else m z) := F'.set hn₂ hs₂
  refine ⟨m', hn.sameBut hs₂ hCL, fun h'' hs'' => fin D h'' _ ys hys (F₂.change hs'' hCL hC₀) (fun q hq => ?_) hlt⟩
  have z : h₂.get? q.1 = some q.2 := hs₂.extBut _ _ (N' q hq).2.1 (N' q hq).1
  refine ⟨hs''.extBut _ _ ?_ z, (N' q hq).2⟩
  rcases List.mem_cons.mp hq with rfl | hq
  · exact Ne.symm hCD
  · exact offC q hq
end
end Mine

-- part ER
namespace Mine
open PySem PySem.W PyProof.Rows PyProof.Rows.LCg PySem.Spec PySem.Calls
local macro_rules | `(tactic| walk_at "pad 8 0") => `(tactic| fail)
local macro_rules | `(tactic| walk_at "pad 8 1") => `(tactic| fail)
local macro_rules | `(tactic| walk_at "pad 8 2") => `(tactic| fail)
local macro_rules | `(tactic| walk_at "pad 8 3") => `(tactic| fail)
local macro_rules | `(tactic| walk_at "pad 8 4") => `(tactic| fail)
local macro_rules | `(tactic| walk_at "pad 8 5") => `(tactic| fail)
local macro_rules | `(tactic| walk_at "pad 8 6") => `(tactic| fail)
local macro_rules | `(tactic| walk_at "pad 8 7") => `(tactic| fail)
local macro_rules | `(tactic| walk_at "pad 8 8") => `(tactic| fail)
local macro_rules | `(tactic| walk_at "pad 8 9") => `(tactic| fail)
local macro_rules | `(tactic| walk_at "pad 8 10") => `(tactic| fail)
local macro_rules | `(tactic| walk_at "pad 8 11") => `(tactic| fail)
local macro_rules | `(tactic| walk_at "pad 8 12") => `(tactic| fail)
local macro_rules | `(tactic| walk_at "pad 8 13") => `(tactic| fail)
local macro_rules | `(tactic| walk_at "pad 8 14") => `(tactic| fail)
/-- the numbers below 256 that pass -/
def filt (p : Int → Bool) : List Int := (rangeKs 0 256).foldl (fun l k => if p k = true then l ++ [k] else l) []
section
variable {prog : Program} {w : World} {A : Around} {E : Value → Shared → Prop} {s : Shared} {h₀ : Heap} {L : Addr} {m : Str → Option Value} {env : Env}
theorem er_src {ct : Expr} {x y : Str} {pe : Pos} {scope : Scope} {cl : List (Str × Addr)} {Q : Flow → Shared → Prop} {r : Addr} {t u v : Tok} {news : List (Addr × Obj)} (p : Int → Bool)
    (hh : A.handled = none) (F : Fr h₀ L s.heap m) (N : News h₀ L s.heap news) (hr : IsRange s.heap r 0 256 1 t u v)
    (hkind : scope.kind = .function) (hx : scope.names.lookup x = some .local) (hdb : (x == ("__debug__" : Str)) = false)
    (turn : ∀ (k : Int) (t : Tok) (I : Addr) (oI : Obj) (C : Addr) (oC : Obj) (D : Addr) (m₂ : Str → Option Value) (ys : List Value) (h : Heap) (tk : Nat) (E' : Value → Shared → Prop), 0 ≤ k → k < 256 → NsObj oC m₂ → m₂ x = some (.int k t) → Fr h₀ L h m →
      News h₀ L h ((I, oI) :: (C, oC) :: (D, lst ys) :: news) →
      wpAny (model prog w) A (isTrue ct (compEnvC scope cl C env) (eval ct (compEnvC scope cl C env))) (fun ok s' => EcT h₀ L m { s with heap := h, toks := tk } ((I, oI) :: (C, oC) :: (D, lst ys) :: news) ok (p k) s') E' { s with heap := h, toks := tk })
    (fin : ∀ D h tk ys, IntsAre ys (filt p) → Fr h₀ L h (fun z => if z = y then some (.ref D) else m z) → News h₀ L h ((D, lst ys) :: news) → Off1 D news → Q .next { s with heap := h, toks := tk }) :
    LCt.CompSrcT prog w A h₀ L m env ct (.Name x pe) x scope cl (fun s₂ => FinA h₀ L m s₂ y Q) (.ref r) s := by
  refine LCt.CompSrcT.range hh F N hr (by decide) (n := 256) (by decide) (by rw [PySem.sizeLine_eq]; omega) fun g => ?_
  refine kci_range (fun l k => if p k = true then l ++ [k] else l) ?_ ?_ ?_
  · intro k t I oI C oC D m₂ ys l h tk E' h0 h1 hys hC hx2 F' N' off ne _
    refine wpAny_mono (turn k t I oI C oC D m₂ ys h tk E' h0 (by simpa using h1) hC hx2 F' N') (fun ok s₅ h₅ => ?_) fun _ _ q => q
    obtain ⟨rfl, h₅, tk₅, rfl, F₅, N₅⟩ := h₅
    by_cases hp : p k = true
    · rw [if_pos hp]
      refine LCgL.ld_own N₅ (List.mem_cons_of_mem _ List.mem_cons_self) hC (v := .int k t) hx2 ?_ (by simp [compEnvC, relabel, hkind]) (lookup_relabel_local hx) hdb
      refine LCg.CompEnd.intro F₅ N₅ news (fun q hq => hq) off trivial ?_
      exact kci_el (by simp only [hp, if_true]) rfl rfl
    · rw [if_neg hp]
      refine LCg.CompEnd.intro F₅ N₅ news (fun q hq => hq) off trivial ?_
      exact kci_no (by simp only [hp, if_false]; rfl) rfl
  · intro ys hys hlen D h tk F' N' o1
    exact fin D h tk ys hys F' N' o1
  · intro l k
    dsimp only
    split
    · simp
    · omega
end
end Mine

-- part B5
namespace Mine
open PySem PySem.W PyProof.Rows PySem.Spec PySem.Calls
local macro_rules | `(tactic| walk_at "pad 9 0") => `(tactic| fail)
abbrev RL (news : List (Addr × Obj)) (l : List Int) : Value → List (Addr × Obj) → Prop := fun v n => ∃ b vs nn, v = .ref b ∧ (∀ p ∈ news, p.1 < b) ∧ IntsAre vs l ∧ n = (b, listOf vs.toArray nn) :: news
abbrev R3 (news : List (Addr × Obj)) (l1 l2 l3 : List Int) : Value → List (Addr × Obj) → Prop := fun v n => ∃ b b1 vs1 nn1 b2 vs2 nn2 b3 vs3 nn3, v = .ref b ∧ (∀ p ∈ news, p.1 < b1) ∧ LCg.Off1 b2 news ∧ (∀ p ∈ news, p.1 < b3) ∧ (∀ p ∈ news, p.1 < b) ∧ IntsAre vs1 l1 ∧ IntsAre vs2 l2 ∧ IntsAre vs3 l3 ∧
  n = (b, { cls := .type "tuple", data := .seq #[.ref b1, .ref b2, .ref b3] }) :: (b3, listOf vs3.toArray nn3) :: (b2, listOf vs2.toArray nn2) :: (b1, listOf vs1.toArray nn1) :: news
def nmOf (i : Nat) : Str := [Str.ofString "add", Str.ofString "adc", Str.ofString "sub", Str.ofString "sbb", Str.ofString "cmp", Str.ofString "and", Str.ofString "or", Str.ofString "xor", Str.ofString "test"].getD i (Str.ofString "")
def near (x : Int) : Int := if 127 < x then x - 256 else x
def turnedL (s : Int) : List Int := rangeKs (s.fmod 256) (256 - s.fmod 256).toNat ++ rangeKs 0 (s.fmod 256 - 0).toNat
/-- one turn of the doubling -/
def dbl (x : Int) (tb : List Int) : Nat → List Int
  | 0 => [0]
  | k + 1 => (dbl x tb k).map (fun a => a + tb.getD ((x.fdiv (2 ^ (k : Int).toNat)).fmod 2).toNat 0 * 2 ^ (k : Int).toNat) ++ (dbl x tb k).map (fun a => a + tb.getD (2 + (x.fdiv (2 ^ (k : Int).toNat)).fmod 2).toNat 0 * 2 ^ (k : Int).toNat)
def onesL : Nat → List Int
  | 0 => [0]
  | k + 1 => onesL k ++ (onesL k).map (fun a => a + 1)
def tbl : Nat → List Int
  | 6 => [0, 1, 1, 1]
  | 7 => [0, 1, 1, 0]
  | _ => [0, 0, 0, 1]
def resL (i : Nat) (x c : Int) : List Int := if i < 2 then turnedL (x + c) else if i < 5 then turnedL (0 - x - c) else dbl x (tbl i) 8
def carL (i : Nat) (x c : Int) : List Int := if i < 2 then rangeKs (256 - (x + c)) (256 - (256 - (x + c))).toNat else if i < 5 then rangeKs 0 (x + c - 0).toNat else []
def hafA (x c : Int) : List Int := filt (fun k => decide (16 - (x.fmod 16 + c) ≤ k.fmod 16))
def hafS (x c : Int) : List Int := filt (fun k => decide (k.fmod 16 < x.fmod 16 + c))
def hafL (i : Nat) (x c : Int) : List Int := if i < 2 then hafA x c else if i < 5 then hafS x c else []
def ovrA (x c : Int) : List Int := if 0 < near x + c then rangeKs (128 - (near x + c)) (128 - (128 - (near x + c))).toNat else rangeKs 128 (128 - (near x + c) - 128).toNat
def ovrS (x c : Int) : List Int := if 0 < near x + c then rangeKs 128 (128 + (near x + c) - 128).toNat else rangeKs (128 + (near x + c)) (128 - (128 + (near x + c))).toNat
def ovrL (i : Nat) (x c : Int) : List Int := if i < 2 then ovrA x c else if i < 5 then ovrS x c else []
def evL (i : Nat) (x c : Int) : List Int := sel (fun n => decide (((onesL 8).getD n.toNat 0).fmod 2 = 0)) (resL i x c) (resL i x c).length
def nauL (i : Nat) (x c : Int) : List Int := sel (fun n => decide (n = 0)) (resL i x c) (resL i x c).length
def minL (i : Nat) (x c : Int) : List Int := sel (fun n => decide (127 < n)) (resL i x c) (resL i x c).length
abbrev R6 (news : List (Addr × Obj)) (l0 l1 l2 l3 l4 l5 : List Int) : Value → List (Addr × Obj) → Prop := fun v n => ∃ b nb q0 t0 b0 vs0 nn0 q1 t1 b1 vs1 nn1 q2 t2 b2 vs2 nn2 q3 t3 b3 vs3 nn3 q4 t4 b4 vs4 nn4 q5 t5 b5 vs5 nn5, v = .ref b ∧ (∀ p ∈ news, p.1 < b) ∧ (∀ p ∈ news, p.1 < q0) ∧ (∀ p ∈ news, p.1 < b0) ∧ IntsAre vs0 l0 ∧ (∀ p ∈ news, p.1 < q1) ∧ (∀ p ∈ news, p.1 < b1) ∧ IntsAre vs1 l1 ∧ (∀ p ∈ news, p.1 < q2) ∧ LCg.Off1 b2 news ∧ IntsAre vs2 l2 ∧ (∀ p ∈ news, p.1 < q3) ∧ (∀ p ∈ news, p.1 < b3) ∧ IntsAre vs3 l3 ∧ (∀ p ∈ news, p.1 < q4) ∧ (∀ p ∈ news, p.1 < b4) ∧ IntsAre vs4 l4 ∧ (∀ p ∈ news, p.1 < q5) ∧ (∀ p ∈ news, p.1 < b5) ∧ IntsAre vs5 l5 ∧ n = (b, listOf #[.ref q0, .ref q1, .ref q2, .ref q3, .ref q4, .ref q5] nb) :: (q0, { cls := .type "tuple", data := .seq #[.int 0 t0, .ref b0] }) :: (q1, { cls := .type "tuple", data := .seq #[.int 2 t1, .ref b1] }) :: (q2, { cls := .type "tuple", data := .seq #[.int 4 t2, .ref b2] }) :: (q3, { cls := .type "tuple", data := .seq #[.int 6 t3, .ref b3] }) :: (q4, { cls := .type "tuple", data := .seq #[.int 7 t4, .ref b4] }) :: (q5, { cls := .type "tuple", data := .seq #[.int 11 t5, .ref b5] }) :: (b0, listOf vs0.toArray nn0) :: (b1, listOf vs1.toArray nn1) :: (b2, listOf vs2.toArray nn2) :: (b3, listOf vs3.toArray nn3) :: (b4, listOf vs4.toArray nn4) :: (b5, listOf vs5.toArray nn5) :: news
theorem R6_ret {news : List (Addr × Obj)} {h₀ h' : Heap} {L : Addr} {m : Str → Option Value} {s : Shared} {Q : Value → Shared → Prop} {b : Addr} {nb : Nat} {q0 b0 : Addr} {t0 : Tok} {vs0 : List Value} {nn0 : Nat} {l0 : List Int} {q1 b1 : Addr} {t1 : Tok} {vs1 : List Value} {nn1 : Nat} {l1 : List Int} {q2 b2 : Addr} {t2 : Tok} {vs2 : List Value} {nn2 : Nat} {l2 : List Int} {q3 b3 : Addr} {t3 : Tok} {vs3 : List Value} {nn3 : Nat} {l3 : List Int} {q4 b4 : Addr} {t4 : Tok} {vs4 : List Value} {nn4 : Nat} {l4 : List Int} {q5 b5 : Addr} {t5 : Tok} {vs5 : List Value} {nn5 : Nat} {l5 : List Int} {tk' : Nat}
    (hret : ∀ v news' h' tk', R6 news l0 l1 l2 l3 l4 l5 v news' → Fr h₀ L h' m → News h₀ L h' news' → Q v { s with heap := h', toks := tk' }) (F : Fr h₀ L h' m) (N : News h₀ L h' ((b, listOf #[.ref q0, .ref q1, .ref q2, .ref q3, .ref q4, .ref q5] nb) :: (q0, { cls := .type "tuple", data := .seq #[.int 0 t0, .ref b0] }) :: (q1, { cls := .type "tuple", data := .seq #[.int 2 t1, .ref b1] }) :: (q2, { cls := .type "tuple", data := .seq #[.int 4 t2, .ref b2] }) :: (q3, { cls := .type "tuple", data := .seq #[.int 6 t3, .ref b3] }) :: (q4, { cls := .type "tuple", data := .seq #[.int 7 t4, .ref b4] }) :: (q5, { cls := .type "tuple", data := .seq #[.int 11 t5, .ref b5] }) :: (b0, listOf vs0.toArray nn0) :: (b1, listOf vs1.toArray nn1) :: (b2, listOf vs2.toArray nn2) :: (b3, listOf vs3.toArray nn3) :: (b4, listOf vs4.toArray nn4) :: (b5, listOf vs5.toArray nn5) :: news))
    (z : (∀ p ∈ news, p.1 < b)) (x0 : (∀ p ∈ news, p.1 < q0)) (y0 : (∀ p ∈ news, p.1 < b0)) (i0 : IntsAre vs0 l0) (x1 : (∀ p ∈ news, p.1 < q1)) (y1 : (∀ p ∈ news, p.1 < b1)) (i1 : IntsAre vs1 l1) (x2 : (∀ p ∈ news, p.1 < q2)) (y2 : LCg.Off1 b2 news) (i2 : IntsAre vs2 l2) (x3 : (∀ p ∈ news, p.1 < q3)) (y3 : (∀ p ∈ news, p.1 < b3)) (i3 : IntsAre vs3 l3) (x4 : (∀ p ∈ news, p.1 < q4)) (y4 : (∀ p ∈ news, p.1 < b4)) (i4 : IntsAre vs4 l4) (x5 : (∀ p ∈ news, p.1 < q5)) (y5 : (∀ p ∈ news, p.1 < b5)) (i5 : IntsAre vs5 l5) : Q (.ref b) { s with heap := h', toks := tk' } :=
  hret _ _ _ _ ⟨b, nb, q0, t0, b0, vs0, nn0, q1, t1, b1, vs1, nn1, q2, t2, b2, vs2, nn2, q3, t3, b3, vs3, nn3, q4, t4, b4, vs4, nn4, q5, t5, b5, vs5, nn5, rfl, z, x0, y0, i0, x1, y1, i1, x2, y2, i2, x3, y3, i3, x4, y4, i4, x5, y5, i5, rfl⟩ F N
abbrev RLv (news : List (Addr × Obj)) (l : List Int) : Value → List (Addr × Obj) → Prop := fun v n => ∃ b vs nn lv, v = .ref b ∧ (∀ p ∈ news, p.1 < b) ∧ IntsAre vs lv ∧ lv = l ∧ n = (b, listOf vs.toArray nn) :: news
theorem lt_two {d1 d2 : Addr} {o1 o2 : Obj} {b : Addr} (h1 : @LT.lt Nat _ d1 b) (h2 : @LT.lt Nat _ d2 b) : ∀ p ∈ [(d1, o1), (d2, o2)], p.1 < b := fun p hp => by
  rcases List.mem_cons.mp hp with rfl | hp
  · exact h1
  · rw [List.mem_singleton.mp hp]; exact h2
theorem lt_three {d1 d2 d3 : Addr} {o1 o2 o3 : Obj} {b : Addr} (h1 : @LT.lt Nat _ d1 b) (h2 : @LT.lt Nat _ d2 b) (h3 : @LT.lt Nat _ d3 b) : ∀ p ∈ [(d1, o1), (d2, o2), (d3, o3)], p.1 < b := fun p hp => by
  rcases List.mem_cons.mp hp with rfl | hp
  · exact h1
  · exact lt_two h2 h3 p hp
theorem RLv_ret {news : List (Addr × Obj)} {h₀ h' : Heap} {L : Addr} {m : Str → Option Value} {s : Shared} {Q : Value → Shared → Prop} {b : Addr} {nb : Nat} {vs : List Value} {lv l : List Int} {tk' : Nat}
    (hret : ∀ v news' h' tk', RLv news l v news' → Fr h₀ L h' m → News h₀ L h' news' → Q v { s with heap := h', toks := tk' }) (F : Fr h₀ L h' m) (N : News h₀ L h' ((b, listOf vs.toArray nb) :: news))
    (z : ∀ p ∈ news, p.1 < b) (i : IntsAre vs lv) (e : lv = l) : Q (.ref b) { s with heap := h', toks := tk' } :=
  hret _ _ _ _ ⟨b, vs, nb, lv, rfl, z, i, e, rfl⟩ F N
theorem lt_one {d1 : Addr} {o1 : Obj} {b : Addr} (h1 : @LT.lt Nat _ d1 b) : ∀ p ∈ [(d1, o1)], p.1 < b := fun p hp => by
  rw [List.mem_singleton.mp hp]; exact h1
theorem R3_ret {news : List (Addr × Obj)} {h₀ h' : Heap} {L : Addr} {m : Str → Option Value} {s : Shared} {Q : Value → Shared → Prop} {b b1 b2 b3 : Addr} {n1 n2 n3 : Nat} {vs1 vs2 vs3 : List Value} {l1 l2 l3 : List Int} {tk' : Nat}
    (hret : ∀ v news' h' tk', R3 news l1 l2 l3 v news' → Fr h₀ L h' m → News h₀ L h' news' → Q v { s with heap := h', toks := tk' }) (F : Fr h₀ L h' m)
    (N : News h₀ L h' ((b, { cls := .type "tuple", data := .seq #[.ref b1, .ref b2, .ref b3] }) :: (b3, listOf vs3.toArray n3) :: (b2, listOf vs2.toArray n2) :: (b1, listOf vs1.toArray n1) :: news))
    (z1 : ∀ p ∈ news, p.1 < b1) (z2 : LCg.Off1 b2 news) (z3 : ∀ p ∈ news, p.1 < b3) (z : ∀ p ∈ news, p.1 < b) (i1 : IntsAre vs1 l1) (i2 : IntsAre vs2 l2) (i3 : IntsAre vs3 l3) : Q (.ref b) { s with heap := h', toks := tk' } :=
  hret _ _ _ _ ⟨b, b1, vs1, n1, b2, vs2, n2, b3, vs3, n3, rfl, z1, z2, z3, z, i1, i2, i3, rfl⟩ F N
def InB (l : List Int) : Prop := ∀ n ∈ l, 0 ≤ n ∧ n < 256
theorem InB.lo {l : List Int} {n : Int} (h : n ∈ l) (b : InB l) : 0 ≤ n := (b n h).1
theorem InB.hi {l : List Int} {n : Int} (h : n ∈ l) (b : InB l) : n < 256 := (b n h).2
def bump (spot : Int) (w : List Int) (pre : List Int) : List Int := pre.foldl (fun w k => w.set k.toNat (w.getD k.toNat 0 + 2 ^ spot.toNat)) w
def wordsL (way : Int) (l0 l1 l2 l3 l4 l5 : List Int) : List Int := bump 11 (bump 7 (bump 6 (bump 4 (bump 2 (bump 0 (List.replicate (Int.toNat 256) [2 + 1024 * way]).flatten l0) l1) l2) l3) l4) l5
theorem bump_snoc (spot : Int) (w pre : List Int) (k : Int) : bump spot w (pre ++ [k]) = (bump spot w pre).set k.toNat ((bump spot w pre).getD k.toNat 0 + 2 ^ spot.toNat) := by
  unfold bump
  rw [List.foldl_append, List.foldl_cons, List.foldl_nil]
theorem bump_next {spot k y : Int} {w0 pre wd : List Int} (h1 : wd = bump spot w0 pre) (h : wd.length = 256) : wd.set k.toNat (wd.getD k.toNat 0 + 2 ^ spot.toNat) = bump spot w0 (pre ++ [k]) ∧ (wd.set k.toNat y).length = 256 := by
  subst h1
  exact ⟨(bump_snoc _ _ _ _).symm, by rw [List.length_set]; exact h⟩
theorem bump_len (spot : Int) (w pre : List Int) : (bump spot w pre).length = w.length := by
  unfold bump
  induction pre generalizing w with
  | nil => rfl
  | cons a r ih => rw [List.foldl_cons, ih, List.length_set]
end Mine

-- part B4
namespace Mine
open PySem PySem.W PyProof.Rows PySem.Spec PySem.Calls
local macro_rules | `(tactic| walk_at "pad 10 0") => `(tactic| fail)
local macro_rules | `(tactic| walk_at "pad 10 1") => `(tactic| fail)
local macro_rules | `(tactic| walk_at "pad 10 2") => `(tactic| fail)
local macro_rules | `(tactic| walk_at "pad 10 3") => `(tactic| fail)
local macro_rules | `(tactic| walk_at "pad 10 4") => `(tactic| fail)
local macro_rules | `(tactic| walk_at "pad 10 5") => `(tactic| fail)
local macro_rules | `(tactic| walk_at "pad 10 6") => `(tactic| fail)
local macro_rules | `(tactic| walk_at "pad 10 7") => `(tactic| fail)
theorem fill6 : (PySem.Challenge.rw_pb0417_01, kk) = (PySem.Challenge.rw_pb0417_01, kk) := by
  w_top off
  k_fill
  rfl
local macro_rules | `(tactic| k_mem) => `(tactic| (refine List.mem_cons_of_mem _ ?_; k_mem))
local macro_rules | `(tactic| k_all) => `(tactic| assumption)
local macro_rules | `(tactic| walk_at "ctr sides") => `(tactic| ((case B => k_asm); (case F => k_asm); (case X => k_asm); (case N => k_asm); (case T => k_asm); (case hk => first | exact rfl | assumption); (case hd => ktr_room); (case hu => ktr_units)))
section
variable {h0 h1 h2 h3 h4 h5 h6 : Int} {k0 k1 k2 k3 k4 k5 k6 : Tok} {a0 a1 a2 a3 a4 a5 a6 : Int} {t0 t1 t2 t3 t4 t5 t6 : Tok} {fl dx : Addr}
local macro_rules | `(tactic| walk_at "ctr fr") => `(tactic| (intro v9 n9 h9 tk9 R9 F9 N9; (obtain ⟨o9, ⟨t9, u0, u1, u2, u3, u4, u5, u6, e9, q9⟩, f9⟩ := R9; subst e9; subst q9; subst f9); (try dsimp only at N9); (try dsimp only); (try k_fold)))
local macro_rules | `(tactic| walk_at "call ref") => `(tactic| (k_here; k_dflt (refine' ctr_use (c_add _ _ ?U ?M) ?B ?F ?X ?N ?T ?hk ?hd ?hu ?_; walk_at "ctr sides"; (case M => k_mem); (case U => k_updF)); walk_at "ctr fr"))
local macro_rules | `(tactic| walk_at "call ref") => `(tactic| (k_here; k_dflt (refine' ctr_use (c_sub _ _ ?U ?M) ?B ?F ?X ?N ?T ?hk ?hd ?hu ?_; walk_at "ctr sides"; (case M => k_mem); (case U => k_updF)); walk_at "ctr fr"))
local macro_rules | `(tactic| walk_at "call ref") => `(tactic| (k_here; k_dflt (refine' ctr_use (c_logic _ _ ?U ?M) ?B ?F ?X ?N ?T ?hk ?hd ?hu ?_; walk_at "ctr sides"; (case M => k_mem); (case U => k_updF)); walk_at "ctr fr"))

set_option maxHeartbeats 4000000 in
theorem c_comb0 {x y : Int} {tn tx ty tw : Tok} : CtrF 12 208 [.ref fl, .str (Str.ofString "add") tn, .int x tx, .int y ty, .int 8 tw] fl dx (fD h0 h1 h2 h3 h4 h5 h6 k0 k1 k2 k3 k4 k5 k6 a0 a1 a2 a3 a4 a5 a6 t0 t1 t2 t3 t4 t5 t6) (FR h0 h1 h2 h3 h4 h5 h6 k0 k1 k2 k3 k4 k5 k6 (aadd x y 0) (fadd x y 0 a6)) := by
  refine ctrF_of (ctrU_of fun rest hne hq => ?_)
  intro w p loose mean mg mb dp un gd cn cs a ccd cl outer A₀ base h₀ L m s Q E B F X N T hk hdp hun hret
  refine wpAny_call ?_
  k_dflt cell_enter
  k_steps
  k_with_none
  all_goals exact hret _ _ _ _ ⟨_, ⟨_, _, _, _, _, _, _, _, rfl, rfl⟩, rfl⟩ (by k_asm) (by first | k_asm | exact news_tl (by k_asm) | exact news_tl (news_tl (by k_asm)))

set_option maxHeartbeats 4000000 in
theorem c_comb1 {x y : Int} {tn tx ty tw : Tok} : CtrF 12 208 [.ref fl, .str (Str.ofString "adc") tn, .int x tx, .int y ty, .int 8 tw] fl dx (fD h0 h1 h2 h3 h4 h5 h6 k0 k1 k2 k3 k4 k5 k6 a0 a1 a2 a3 a4 a5 a6 t0 t1 t2 t3 t4 t5 t6) (FR h0 h1 h2 h3 h4 h5 h6 k0 k1 k2 k3 k4 k5 k6 (aadd x y a0) (fadd x y a0 a6)) := by
  refine ctrF_of (ctrU_of fun rest hne hq => ?_)
  intro w p loose mean mg mb dp un gd cn cs a ccd cl outer A₀ base h₀ L m s Q E B F X N T hk hdp hun hret
  refine wpAny_call ?_
  k_dflt cell_enter
  k_steps
  k_with_none
  all_goals exact hret _ _ _ _ ⟨_, ⟨_, _, _, _, _, _, _, _, rfl, rfl⟩, rfl⟩ (by k_asm) (by first | k_asm | exact news_tl (by k_asm) | exact news_tl (news_tl (by k_asm)))

set_option maxHeartbeats 4000000 in
theorem c_comb2 {x y : Int} {tn tx ty tw : Tok} : CtrF 12 208 [.ref fl, .str (Str.ofString "sub") tn, .int x tx, .int y ty, .int 8 tw] fl dx (fD h0 h1 h2 h3 h4 h5 h6 k0 k1 k2 k3 k4 k5 k6 a0 a1 a2 a3 a4 a5 a6 t0 t1 t2 t3 t4 t5 t6) (FR h0 h1 h2 h3 h4 h5 h6 k0 k1 k2 k3 k4 k5 k6 (asub x y 0) (fsub x y 0 a6)) := by
  refine ctrF_of (ctrU_of fun rest hne hq => ?_)
  intro w p loose mean mg mb dp un gd cn cs a ccd cl outer A₀ base h₀ L m s Q E B F X N T hk hdp hun hret
  refine wpAny_call ?_
  k_dflt cell_enter
  k_steps
  k_with_none
  all_goals exact hret _ _ _ _ ⟨_, ⟨_, _, _, _, _, _, _, _, rfl, rfl⟩, rfl⟩ (by k_asm) (by first | k_asm | exact news_tl (by k_asm) | exact news_tl (news_tl (by k_asm)))

set_option maxHeartbeats 4000000 in
theorem c_comb3 {x y : Int} {tn tx ty tw : Tok} : CtrF 12 208 [.ref fl, .str (Str.ofString "sbb") tn, .int x tx, .int y ty, .int 8 tw] fl dx (fD h0 h1 h2 h3 h4 h5 h6 k0 k1 k2 k3 k4 k5 k6 a0 a1 a2 a3 a4 a5 a6 t0 t1 t2 t3 t4 t5 t6) (FR h0 h1 h2 h3 h4 h5 h6 k0 k1 k2 k3 k4 k5 k6 (asub x y a0) (fsub x y a0 a6)) := by
  refine ctrF_of (ctrU_of fun rest hne hq => ?_)
  intro w p loose mean mg mb dp un gd cn cs a ccd cl outer A₀ base h₀ L m s Q E B F X N T hk hdp hun hret
  refine wpAny_call ?_
  k_dflt cell_enter
  k_steps
  k_with_none
  all_goals exact hret _ _ _ _ ⟨_, ⟨_, _, _, _, _, _, _, _, rfl, rfl⟩, rfl⟩ (by k_asm) (by first | k_asm | exact news_tl (by k_asm) | exact news_tl (news_tl (by k_asm)))

set_option maxHeartbeats 4000000 in
theorem c_comb4 {x y : Int} {tn tx ty tw : Tok} : CtrF 12 208 [.ref fl, .str (Str.ofString "cmp") tn, .int x tx, .int y ty, .int 8 tw] fl dx (fD h0 h1 h2 h3 h4 h5 h6 k0 k1 k2 k3 k4 k5 k6 a0 a1 a2 a3 a4 a5 a6 t0 t1 t2 t3 t4 t5 t6) (FR h0 h1 h2 h3 h4 h5 h6 k0 k1 k2 k3 k4 k5 k6 (asub x y 0) (fsub x y 0 a6)) := by
  refine ctrF_of (ctrU_of fun rest hne hq => ?_)
  intro w p loose mean mg mb dp un gd cn cs a ccd cl outer A₀ base h₀ L m s Q E B F X N T hk hdp hun hret
  refine wpAny_call ?_
  k_dflt cell_enter
  k_steps
  k_with_none
  all_goals exact hret _ _ _ _ ⟨_, ⟨_, _, _, _, _, _, _, _, rfl, rfl⟩, rfl⟩ (by k_asm) (by first | k_asm | exact news_tl (by k_asm) | exact news_tl (news_tl (by k_asm)))

set_option maxHeartbeats 4000000 in
theorem c_comb5 {x y : Int} {tn tx ty tw : Tok} : CtrF 12 208 [.ref fl, .str (Str.ofString "and") tn, .int x tx, .int y ty, .int 8 tw] fl dx (fD h0 h1 h2 h3 h4 h5 h6 k0 k1 k2 k3 k4 k5 k6 a0 a1 a2 a3 a4 a5 a6 t0 t1 t2 t3 t4 t5 t6) (FR h0 h1 h2 h3 h4 h5 h6 k0 k1 k2 k3 k4 k5 k6 (Builtin.bitAnd x y % 256) (flog (Builtin.bitAnd x y) a6)) := by
  refine ctrF_of (ctrU_of fun rest hne hq => ?_)
  intro w p loose mean mg mb dp un gd cn cs a ccd cl outer A₀ base h₀ L m s Q E B F X N T hk hdp hun hret
  refine wpAny_call ?_
  k_dflt cell_enter
  k_steps
  k_with_none
  all_goals exact hret _ _ _ _ ⟨_, ⟨_, _, _, _, _, _, _, _, rfl, rfl⟩, rfl⟩ (by k_asm) (by first | k_asm | exact news_tl (by k_asm) | exact news_tl (news_tl (by k_asm)))

set_option maxHeartbeats 4000000 in
theorem c_comb6 {x y : Int} {tn tx ty tw : Tok} : CtrF 12 208 [.ref fl, .str (Str.ofString "or") tn, .int x tx, .int y ty, .int 8 tw] fl dx (fD h0 h1 h2 h3 h4 h5 h6 k0 k1 k2 k3 k4 k5 k6 a0 a1 a2 a3 a4 a5 a6 t0 t1 t2 t3 t4 t5 t6) (FR h0 h1 h2 h3 h4 h5 h6 k0 k1 k2 k3 k4 k5 k6 (Builtin.bitOr x y % 256) (flog (Builtin.bitOr x y) a6)) := by
  refine ctrF_of (ctrU_of fun rest hne hq => ?_)
  intro w p loose mean mg mb dp un gd cn cs a ccd cl outer A₀ base h₀ L m s Q E B F X N T hk hdp hun hret
  refine wpAny_call ?_
  k_dflt cell_enter
  k_steps
  k_with_none
  all_goals exact hret _ _ _ _ ⟨_, ⟨_, _, _, _, _, _, _, _, rfl, rfl⟩, rfl⟩ (by k_asm) (by first | k_asm | exact news_tl (by k_asm) | exact news_tl (news_tl (by k_asm)))

set_option maxHeartbeats 4000000 in
theorem c_comb7 {x y : Int} {tn tx ty tw : Tok} : CtrF 12 208 [.ref fl, .str (Str.ofString "xor") tn, .int x tx, .int y ty, .int 8 tw] fl dx (fD h0 h1 h2 h3 h4 h5 h6 k0 k1 k2 k3 k4 k5 k6 a0 a1 a2 a3 a4 a5 a6 t0 t1 t2 t3 t4 t5 t6) (FR h0 h1 h2 h3 h4 h5 h6 k0 k1 k2 k3 k4 k5 k6 (Builtin.bitXor x y % 256) (flog (Builtin.bitXor x y) a6)) := by
  refine ctrF_of (ctrU_of fun rest hne hq => ?_)
  intro w p loose mean mg mb dp un gd cn cs a ccd cl outer A₀ base h₀ L m s Q E B F X N T hk hdp hun hret
  refine wpAny_call ?_
  k_dflt cell_enter
  k_steps
  k_with_none
  all_goals exact hret _ _ _ _ ⟨_, ⟨_, _, _, _, _, _, _, _, rfl, rfl⟩, rfl⟩ (by k_asm) (by first | k_asm | exact news_tl (by k_asm) | exact news_tl (news_tl (by k_asm)))

set_option maxHeartbeats 4000000 in
theorem c_comb8 {x y : Int} {tn tx ty tw : Tok} : CtrF 12 208 [.ref fl, .str (Str.ofString "test") tn, .int x tx, .int y ty, .int 8 tw] fl dx (fD h0 h1 h2 h3 h4 h5 h6 k0 k1 k2 k3 k4 k5 k6 a0 a1 a2 a3 a4 a5 a6 t0 t1 t2 t3 t4 t5 t6) (FR h0 h1 h2 h3 h4 h5 h6 k0 k1 k2 k3 k4 k5 k6 (Builtin.bitAnd x y % 256) (flog (Builtin.bitAnd x y) a6)) := by
  refine ctrF_of (ctrU_of fun rest hne hq => ?_)
  intro w p loose mean mg mb dp un gd cn cs a ccd cl outer A₀ base h₀ L m s Q E B F X N T hk hdp hun hret
  refine wpAny_call ?_
  k_dflt cell_enter
  k_steps
  k_with_none
  all_goals exact hret _ _ _ _ ⟨_, ⟨_, _, _, _, _, _, _, _, rfl, rfl⟩, rfl⟩ (by k_asm) (by first | k_asm | exact news_tl (by k_asm) | exact news_tl (news_tl (by k_asm)))
def cres : Nat → Int → Int → Int → Int
  | 0, x, y, _ => aadd x y 0
  | 1, x, y, a0 => aadd x y a0
  | 2, x, y, _ => asub x y 0
  | 3, x, y, a0 => asub x y a0
  | 4, x, y, _ => asub x y 0
  | 5, x, y, _ => Builtin.bitAnd x y % 256
  | 6, x, y, _ => Builtin.bitOr x y % 256
  | 7, x, y, _ => Builtin.bitXor x y % 256
  | _, x, y, _ => Builtin.bitAnd x y % 256
def cflags : Nat → Int → Int → Int → Int → V7
  | 0, x, y, _, a6 => fadd x y 0 a6
  | 1, x, y, a0, a6 => fadd x y a0 a6
  | 2, x, y, _, a6 => fsub x y 0 a6
  | 3, x, y, a0, a6 => fsub x y a0 a6
  | 4, x, y, _, a6 => fsub x y 0 a6
  | 5, x, y, _, a6 => flog (Builtin.bitAnd x y) a6
  | 6, x, y, _, a6 => flog (Builtin.bitOr x y) a6
  | 7, x, y, _, a6 => flog (Builtin.bitXor x y) a6
  | _, x, y, _, a6 => flog (Builtin.bitAnd x y) a6

theorem c_comb {i : Nat} {x y : Int} {tn tx ty tw : Tok} (hi : i < 9) : CtrF 12 208 [.ref fl, .str (nmOf i) tn, .int x tx, .int y ty, .int 8 tw] fl dx (fD h0 h1 h2 h3 h4 h5 h6 k0 k1 k2 k3 k4 k5 k6 a0 a1 a2 a3 a4 a5 a6 t0 t1 t2 t3 t4 t5 t6) (FR h0 h1 h2 h3 h4 h5 h6 k0 k1 k2 k3 k4 k5 k6 (cres i x y a0) (cflags i x y a0 a6)) :=
  match i, hi with
  | 0, _ => c_comb0
  | 1, _ => c_comb1
  | 2, _ => c_comb2
  | 3, _ => c_comb3
  | 4, _ => c_comb4
  | 5, _ => c_comb5
  | 6, _ => c_comb6
  | 7, _ => c_comb7
  | 8, _ => c_comb8

end
end Mine

-- part B13
namespace Mine
open PySem PySem.W PyProof.Rows PySem.Spec PySem.Calls
local macro_rules | `(tactic| walk_at "pad 11 0") => `(tactic| fail)
local macro_rules | `(tactic| walk_at "pad 11 1") => `(tactic| fail)
local macro_rules | `(tactic| walk_at "pad 11 2") => `(tactic| fail)
local macro_rules | `(tactic| walk_at "pad 11 3") => `(tactic| fail)
local macro_rules | `(tactic| walk_at "pad 11 4") => `(tactic| fail)
local macro_rules | `(tactic| walk_at "pad 11 5") => `(tactic| fail)
local macro_rules | `(tactic| walk_at "pad 11 6") => `(tactic| fail)
local macro_rules | `(tactic| walk_at "pad 11 7") => `(tactic| fail)
local macro_rules | `(tactic| walk_at "pad 11 8") => `(tactic| fail)
local macro_rules | `(tactic| walk_at "pad 11 9") => `(tactic| fail)
local macro_rules | `(tactic| walk_at "pad 11 10") => `(tactic| fail)
local macro_rules | `(tactic| walk_at "pad 11 11") => `(tactic| fail)
local macro_rules | `(tactic| walk_at "pad 11 12") => `(tactic| fail)
local macro_rules | `(tactic| walk_at "pad 11 13") => `(tactic| fail)
local macro_rules | `(tactic| walk_at "pad 11 14") => `(tactic| fail)
theorem fill15 : (PySem.Challenge.rw_pb0417_01, kk) = (PySem.Challenge.rw_pb0417_01, kk) := by
  w_top off
  k_fill
  rfl
section
variable {h0 h1 h2 h3 h4 h5 h6 : Int} {k0 k1 k2 k3 k4 k5 k6 : Tok} {a0 a1 a2 a3 a4 a5 a6 : Int} {t0 t1 t2 t3 t4 t5 t6 : Tok} {fl dx : Addr}
local macro_rules | `(tactic| k_mem) => `(tactic| (refine List.mem_cons_of_mem _ ?_; k_mem))
local macro_rules | `(tactic| k_all) => `(tactic| assumption)
/-- the word of the seven flags -/
def pk (V : V7) : Int := 2 + V.cf + 4 * V.pf + 16 * V.af + 64 * V.zf + 128 * V.sf + 2048 * V.ov + 1024 * V.df
def Bits (V : V7) : Prop := (0 ≤ V.cf ∧ V.cf < 2) ∧ (0 ≤ V.pf ∧ V.pf < 2) ∧ (0 ≤ V.af ∧ V.af < 2) ∧ (0 ≤ V.zf ∧ V.zf < 2) ∧ (0 ≤ V.sf ∧ V.sf < 2) ∧ (0 ≤ V.ov ∧ V.ov < 2) ∧ (0 ≤ V.df ∧ V.df < 2)
theorem pk_fin : ∀ b0 b1 b2 b3 b4 b5 b6 : Fin 2, Builtin.bitOr (Builtin.bitOr (Builtin.bitOr (Builtin.bitOr (Builtin.bitOr (Builtin.bitOr (Builtin.bitOr 2 ((b0.val : Int) * 2 ^ Int.toNat 0)) ((b1.val : Int) * 2 ^ Int.toNat 2)) ((b2.val : Int) * 2 ^ Int.toNat 4)) ((b3.val : Int) * 2 ^ Int.toNat 6)) ((b4.val : Int) * 2 ^ Int.toNat 7)) ((b6.val : Int) * 2 ^ Int.toNat 10)) ((b5.val : Int) * 2 ^ Int.toNat 11)
    = 2 + (b0.val : Int) + 4 * (b1.val : Int) + 16 * (b2.val : Int) + 64 * (b3.val : Int) + 128 * (b4.val : Int) + 2048 * (b5.val : Int) + 1024 * (b6.val : Int) := by decide +kernel
theorem fin2 {a : Int} (h : 0 ≤ a) (h' : a < 2) : ∃ b : Fin 2, (b.val : Int) = a := ⟨⟨a.toNat, by omega⟩, by show ((a.toNat : Nat) : Int) = a; omega⟩
theorem pk_is {a0 a1 a2 a3 a4 a5 a6 : Int} (g0 : 0 ≤ a0 ∧ a0 < 2) (g1 : 0 ≤ a1 ∧ a1 < 2) (g2 : 0 ≤ a2 ∧ a2 < 2) (g3 : 0 ≤ a3 ∧ a3 < 2) (g4 : 0 ≤ a4 ∧ a4 < 2) (g5 : 0 ≤ a5 ∧ a5 < 2) (g6 : 0 ≤ a6 ∧ a6 < 2) :
    Builtin.bitOr (Builtin.bitOr (Builtin.bitOr (Builtin.bitOr (Builtin.bitOr (Builtin.bitOr (Builtin.bitOr 2 (a0 * 2 ^ Int.toNat 0)) (a1 * 2 ^ Int.toNat 2)) (a2 * 2 ^ Int.toNat 4)) (a3 * 2 ^ Int.toNat 6)) (a4 * 2 ^ Int.toNat 7)) (a6 * 2 ^ Int.toNat 10)) (a5 * 2 ^ Int.toNat 11) = pk ⟨a0, a1, a2, a3, a4, a5, a6⟩ := by
  obtain ⟨b0, rfl⟩ := fin2 g0.1 g0.2
  obtain ⟨b1, rfl⟩ := fin2 g1.1 g1.2
  obtain ⟨b2, rfl⟩ := fin2 g2.1 g2.2
  obtain ⟨b3, rfl⟩ := fin2 g3.1 g3.2
  obtain ⟨b4, rfl⟩ := fin2 g4.1 g4.2
  obtain ⟨b5, rfl⟩ := fin2 g5.1 g5.2
  obtain ⟨b6, rfl⟩ := fin2 g6.1 g6.2
  exact pk_fin b0 b1 b2 b3 b4 b5 b6
theorem nab2 {a : Int} (h : 0 ≤ a) (h' : a < 2) : a.natAbs < 2 ^ 64 := by
  have : a.natAbs < 2 := by omega
  exact Nat.lt_trans this (by decide)
local macro_rules | `(tactic| walk_at "binaryOp LShift int int") => `(tactic| (k_here; (with_reducible refine lshift_int_small (by decide) (by decide) (nab2 (by assumption) (by assumption)) ?_)))
set_option maxHeartbeats 4000000 in
theorem c_pack (g0 : 0 ≤ a0 ∧ a0 < 2) (g1 : 0 ≤ a1 ∧ a1 < 2) (g2 : 0 ≤ a2 ∧ a2 < 2) (g3 : 0 ≤ a3 ∧ a3 < 2) (g4 : 0 ≤ a4 ∧ a4 < 2) (g5 : 0 ≤ a5 ∧ a5 < 2) (g6 : 0 ≤ a6 ∧ a6 < 2) : CtrF 3 124 [.ref fl] fl dx (fD h0 h1 h2 h3 h4 h5 h6 k0 k1 k2 k3 k4 k5 k6 a0 a1 a2 a3 a4 a5 a6 t0 t1 t2 t3 t4 t5 t6) (fun v o' => o' = fD h0 h1 h2 h3 h4 h5 h6 k0 k1 k2 k3 k4 k5 k6 a0 a1 a2 a3 a4 a5 a6 t0 t1 t2 t3 t4 t5 t6 ∧ ∃ t, v = .int (pk ⟨a0, a1, a2, a3, a4, a5, a6⟩) t) := by
  refine ctrF_of (ctrU_of fun rest hne hq => ?_)
  obtain ⟨g01, g02⟩ := g0
  obtain ⟨g11, g12⟩ := g1
  obtain ⟨g21, g22⟩ := g2
  obtain ⟨g31, g32⟩ := g3
  obtain ⟨g41, g42⟩ := g4
  obtain ⟨g51, g52⟩ := g5
  obtain ⟨g61, g62⟩ := g6
  intro w p loose mean mg mb dp un gd cn cs a ccd cl outer A₀ base h₀ L m s Q E B F X N T hk hdp hun hret
  refine wpAny_call ?_
  k_dflt cell_enter
  k_steps
  k_with_none
  rw [pk_is ⟨g01, g02⟩ ⟨g11, g12⟩ ⟨g21, g22⟩ ⟨g31, g32⟩ ⟨g41, g42⟩ ⟨g51, g52⟩ ⟨g61, g62⟩]
  exact hret _ _ _ _ ⟨_, ⟨rfl, _, rfl⟩, rfl⟩ (by k_asm) (by k_asm)
end
end Mine

-- part B7
namespace Mine
open PySem PySem.W PyProof.Rows PySem.Spec PySem.Calls
local macro_rules | `(tactic| walk_at "pad 12 0") => `(tactic| fail)
theorem fill10 : (PySem.Challenge.rw_pb0417_01, kk) = (PySem.Challenge.rw_pb0417_01, kk) := by
  w_top off
  k_fill
  rfl
/-- a loop over a range, any word of the frame and the ledger -/
theorem range_word {prog : Program} {w : World} {A : Around} {E : Value → Shared → Prop} {h₀ : Heap} {env : Env} {x : Str} {body : List Stmt} {Q : Flow → Shared → Prop} {s : Shared} {I : Addr} {a : Int} {n : Nat} (J : Nat → (Str → Option Value) → List (Addr × Obj) → Prop)
    (turn : ∀ i m news t h tk, i < n → J i m news → Fr h₀ env.locals h (fun y => if y = x then some (.int (a + (i : Int)) t) else m y) → News h₀ env.locals h ((I, itR (a + ((i + 1 : Nat) : Int)) ((n : Int) - ((i + 1 : Nat) : Int))) :: news) →
      wpAny (model prog w) A (execs body env) (UnrPost h₀ env.locals { s with heap := h, toks := tk } I (itR (a + ((i + 1 : Nat) : Int)) ((n : Int) - ((i + 1 : Nat) : Int))) (J (i + 1)) Q) E { s with heap := h, toks := tk })
    (done : ∀ m news h tk, J n m news → Fr h₀ env.locals h m → News h₀ env.locals h news → Q .next { s with heap := h, toks := tk }) :
    ∀ k i m news, i + k = n → J i m news → RangeRest prog w A E h₀ env x body Q s I a n k i m news
  | 0, i, m, news, e, hJ => RangeRest.zero fun h tk F N => done m news h tk (by rw [← e]; exact hJ) F N
  | k + 1, i, m, news, e, hJ => RangeRest.succ fun t h tk F N => wpAny_mono (turn i m news t h tk (by omega) hJ F N) (fun f s₂ p => by
      have up : UnrEnd h₀ env.locals { s with heap := h, toks := tk } I (itR (a + ((i + 1 : Nat) : Int)) ((n : Int) - ((i + 1 : Nat) : Int))) (J (i + 1)) s₂ →
          UnrEnd h₀ env.locals { s with heap := h, toks := tk } I (itR (a + ((i + 1 : Nat) : Int)) ((n : Int) - ((i + 1 : Nat) : Int))) (RangeRest prog w A E h₀ env x body Q s I a n k (i + 1)) s₂ := by
        rintro ⟨h', tk', m', news', e1, F', N', o1, r⟩
        exact ⟨h', tk', m', news', e1, F', N', o1, range_word J turn done k (i + 1) m' news' (by omega) r⟩
      cases f with
      | ret v => exact p
      | brk => exact p
      | next => exact up p
      | cont => exact up p) fun _ _ q => q
/-- the end of a turn in which the frame's one list is bound anew -/
def OnePost (h₀ : Heap) (L : Addr) (x y : Str) (stored : List Str) (m₀ : Str → Option Value) (base : List (Addr × Obj)) (l : List Int) (I : Addr) (it : Obj) (s₁ : Shared) (f : Flow) (s₂ : Shared) : Prop :=
  f = .next ∧ ∃ h' tk' m' D vs nn lv, s₂ = { s₁ with heap := h', toks := tk' } ∧ Fr h₀ L h' m' ∧ News h₀ L h' ((I, it) :: (D, listOf vs.toArray nn) :: base) ∧ lv = l ∧ IntsAre vs lv ∧ m' y = some (.ref D) ∧ (∀ z, z ≠ x → z ≠ y → stored.contains z = false → m' z = m₀ z) ∧ (∀ p ∈ base, p.1 < D) ∧ (∀ p ∈ base, p.1 ≠ I) ∧ @LT.lt Nat _ I D
theorem OnePost.intro {h₀ : Heap} {L : Addr} {x y : Str} {stored : List Str} {m₀ : Str → Option Value} {base : List (Addr × Obj)} {l : List Int} {I : Addr} {it : Obj} {s₁ : Shared} {h' : Heap} {tk' : Nat} {m' : Str → Option Value} {D : Addr} {vs : List Value} {nn : Nat} {lv : List Int}
    (F : Fr h₀ L h' m') (N : News h₀ L h' ((I, it) :: (D, listOf vs.toArray nn) :: base)) (hy : m' y = some (.ref D)) (hr : ∀ z, z ≠ x → z ≠ y → stored.contains z = false → m' z = m₀ z) (z1 : ∀ p ∈ base, p.1 < D) (z2 : ∀ p ∈ base, p.1 ≠ I) (z3 : @LT.lt Nat _ I D) (i : IntsAre vs lv) (e : lv = l) :
    OnePost h₀ L x y stored m₀ base l I it s₁ .next { s₁ with heap := h', toks := tk' } := ⟨rfl, h', tk', m', D, vs, nn, lv, rfl, F, N, e, i, hy, hr, z1, z2, z3⟩
theorem one_loop {prog : Program} {w : World} {A : Around} {E : Value → Shared → Prop} {h₀ : Heap} {env : Env} {x : Str} {body : List Stmt} {Q : Flow → Shared → Prop} {s : Shared} {r : Addr} {b₀ : Int} {t₀ u₀ v₀ : Tok} (n : Nat) (y : Str) (stored : List Str) (f : Nat → List Int) {m₀ : Str → Option Value} {D₀ : Addr} {vs₀ : List Value} {nn₀ : Nat} {lv₀ : List Int} {base : List (Addr × Obj)}
    (hh : A.handled = none) (hr : IsRange s.heap r 0 b₀ 1 t₀ u₀ v₀) (hs : Builtin.Range.small 0 b₀ 1 = true) (hn : Builtin.Range.rangeSize 0 b₀ 1 = (n : Int)) (hyx : y ≠ x)
    (F : Fr h₀ env.locals s.heap m₀) (N : News h₀ env.locals s.heap ((D₀, listOf vs₀.toArray nn₀) :: base)) (hy : m₀ y = some (.ref D₀)) (z₀ : ∀ p ∈ base, p.1 < D₀) (i₀ : IntsAre vs₀ lv₀) (e₀ : lv₀ = f 0)
    (turn : ∀ (i : Nat) t D vs nn lv (u : Str → Option Value) h tk I it, i < n → lv = f i → IntsAre vs lv → (∀ p ∈ (D, listOf vs.toArray nn) :: base, p.1 ≠ I) → (∀ p ∈ base, p.1 < D) →
      Fr h₀ env.locals h (fun z => if z = x then some (.int (i : Int) t) else kstB (fun z => if stored.contains z then u z else m₀ z) [(y, .ref D)] z) → News h₀ env.locals h ((I, it) :: (D, listOf vs.toArray nn) :: base) →
      wpAny (model prog w) A (execs body env) (OnePost h₀ env.locals x y stored m₀ base (f (i + 1)) I it { s with heap := h, toks := tk }) E { s with heap := h, toks := tk })
    (done : ∀ D vs nn lv (u : Str → Option Value) h tk, lv = f n → IntsAre vs lv → (∀ p ∈ base, p.1 < D) →
      Fr h₀ env.locals h (fun z => if z = x then u z else kstB (fun z => if stored.contains z then u z else m₀ z) [(y, .ref D)] z) → News h₀ env.locals h ((D, listOf vs.toArray nn) :: base) → Q .next { s with heap := h, toks := tk }) :
    wpAny (model prog w) A (pyIter (.ref r)) (fun it s₂ => LoopAtV prog w A h₀ env x body Q E it s₂) E s := by
  refine iter_rangeUnr hh hr hs hn F N fun I hI => range_word (fun i m news => ∃ D vs nn lv, lv = f i ∧ IntsAre vs lv ∧ m y = some (.ref D) ∧ (∀ z, z ≠ x → z ≠ y → stored.contains z = false → m z = m₀ z) ∧ (∀ p ∈ base, p.1 < D) ∧ news = (D, listOf vs.toArray nn) :: base ∧ (∀ p ∈ news, p.1 ≠ I)) ?_ ?_ n 0 _ _ (Nat.zero_add n) ⟨D₀, vs₀, nn₀, lv₀, e₀, i₀, hy, fun _ _ _ _ => rfl, z₀, rfl, fun p hp => Nat.ne_of_lt (hI p hp)⟩
  · rintro i m news t h tk hi ⟨D, vs, nn, lv, e1, i1, hy1, hr1, z1, rfl, o1⟩ F1 N1
    have F2 : Fr h₀ env.locals h (fun z => if z = x then some (.int (i : Int) t) else kstB (fun z => if stored.contains z then m z else m₀ z) [(y, .ref D)] z) := by
      rw [Int.zero_add] at F1
      exact kst_fr (ps := [(y, .ref D)]) (fun p hp => by rw [List.mem_singleton.mp hp]; exact hy1) (fun z a b c => hr1 z a (b (y, .ref D) List.mem_cons_self) c) F1
    refine wpAny_mono (turn i t D vs nn lv m h tk I _ hi e1 i1 o1 z1 F2 N1) (fun fl s₂ p => ?_) fun _ _ q => q
    obtain ⟨rfl, h', tk', m', D', vs', nn', lv', rfl, F', N', e', i', hy', hr', z1', z2', z3'⟩ := p
    refine ⟨h', tk', m', (D', listOf vs'.toArray nn') :: base, rfl, F', N', ?_, D', vs', nn', lv', e', i', hy', hr', z1', rfl, ?_⟩
    all_goals
      intro p hp
      rcases List.mem_cons.mp hp with rfl | hp
      · exact Nat.ne_of_gt z3'
      · exact z2' p hp
  · rintro m news h tk ⟨D, vs, nn, lv, e1, i1, hy1, hr1, z1, rfl, o1⟩ F1 N1
    exact done D vs nn lv m h tk e1 i1 z1 (kst_frOut (ps := [(y, .ref D)]) (fun p hp => by rw [List.mem_singleton.mp hp]; exact hy1) (fun z a b c => hr1 z a (b (y, .ref D) List.mem_cons_self) c) F1) N1
def TPost (h₀ : Heap) (L : Addr) (J : (Str → Option Value) → List (Addr × Obj) → Prop) (I : Addr) (it : Obj) (s₁ : Shared) (f : Flow) (s₂ : Shared) : Prop :=
  f = .next ∧ ∃ h' tk' m' news', s₂ = { s₁ with heap := h', toks := tk' } ∧ Fr h₀ L h' m' ∧ News h₀ L h' ((I, it) :: news') ∧ (∀ p ∈ news', p.1 ≠ I) ∧ J m' news'
theorem TPost.intro {h₀ : Heap} {L : Addr} {J : (Str → Option Value) → List (Addr × Obj) → Prop} {I : Addr} {it : Obj} {s₁ : Shared} {h' : Heap} {tk' : Nat} {m' : Str → Option Value} {news' : List (Addr × Obj)}
    (F : Fr h₀ L h' m') (N : News h₀ L h' ((I, it) :: news')) (o : ∀ p ∈ news', p.1 ≠ I) (j : J m' news') : TPost h₀ L J I it s₁ .next { s₁ with heap := h', toks := tk' } := ⟨rfl, h', tk', m', news', rfl, F, N, o, j⟩
theorem turns_range {prog : Program} {w : World} {A : Around} {E : Value → Shared → Prop} {h₀ : Heap} {env : Env} {x : Str} {px : Pos} {body : List Stmt} {Q : Flow → Shared → Prop} {s : Shared} {r : Addr} {b₀ : Int} {t₀ u₀ v₀ : Tok} (n : Nat) (J : Nat → (Str → Option Value) → List (Addr × Obj) → Prop) {m₀ : Str → Option Value} {news : List (Addr × Obj)}
    (hh : A.handled = none) (hr : IsRange s.heap r 0 b₀ 1 t₀ u₀ v₀) (hs : Builtin.Range.small 0 b₀ 1 = true) (hn : Builtin.Range.rangeSize 0 b₀ 1 = (n : Int))
    (F : Fr h₀ env.locals s.heap m₀) (N : News h₀ env.locals s.heap news) (hj : J 0 m₀ news)
    (turn : ∀ (i : Nat) t m₁ news₁ h tk I it, i < n → J i m₁ news₁ → (∀ p ∈ news₁, p.1 ≠ I) → Fr h₀ env.locals h m₁ → News h₀ env.locals h ((I, it) :: news₁) →
      wpAny (model prog w) A (assign (.Name x px) env (.int (i : Int) t)) (fun _ s₂ => wpAny (model prog w) A (execs body env) (TPost h₀ env.locals (J (i + 1)) I it { s with heap := h, toks := tk }) E s₂) E { s with heap := h, toks := tk })
    (done : ∀ m₁ news₁ h tk, J n m₁ news₁ → Fr h₀ env.locals h m₁ → News h₀ env.locals h news₁ → Q .next { s with heap := h, toks := tk }) :
    wpAny (model prog w) A (pyIter (.ref r)) (fun it s₂ => TurnsAt prog w A h₀ env (.Name x px) body Q E it s₂) E s := by
  refine wpAny_pyIter_range hr hs ?_
  have W : Walks prog w A s.heap.objs.size [s.heap.objs.size] [s.heap.objs.size] n (fun i v => i < n ∧ ∃ t, v = .int ((0 : Int) + i * 1) t)
      (fun i h => IsRangeIter h s.heap.objs.size ((0 : Int) + (i : Nat) * 1) ((n : Int) - (i : Nat)) 1) := (Walks.range hh _ 0 1 n).bound
  have hnew := next_is_new F
  refine ⟨_, _, _, n, _, _, _, m₀, news, J, rfl, KTurns.ofWalks W (fun i v s' Q' E' _ q => wpAny_of_eq (show letOwnedTupleGo (.Name x px) (.ref s.heap.objs.size) v = pure () from rfl) q), ?_, ?_, ?_, (by show IsRangeIter _ _ _ _ _; rw [hn]; simpa using Heap.get?_push_size _ rfl), F.push _, (fun p hp => ⟨Heap.get?_push_of_some _ (N p hp).1, (N p hp).2⟩), hj, ?_, ?_⟩
  · intro hm
    exact absurd F.ns.lt ((List.mem_singleton.mp hm) ▸ Nat.lt_irrefl _)
  · intro b hb
    rw [List.mem_singleton.mp hb]
    exact hnew
  · intro p hp hI
    exact absurd (Heap.lt_size (N p hp).1) ((List.mem_singleton.mp hI) ▸ Nat.lt_irrefl _)
  · rintro i v m₁ news₁ h₁ tk₁ own hin ⟨_, t, rfl⟩ hJ hoff hown hget hall hst F₁ N₁
    have e1 : (0 : Int) + (i : Int) * 1 = (i : Int) := by omega
    rw [e1]
    obtain ⟨oI, hoI⟩ : ∃ o, h₁.get? s.heap.objs.size = some o := ⟨_, hst⟩
    have hmem := hall s.heap.objs.size (List.mem_singleton.mpr rfl) hnew _ hoI
    have o1 : ∀ p ∈ news₁, p.1 ≠ s.heap.objs.size := fun p hp e => hoff p hp (List.mem_singleton.mpr e)
    have N₂ : News h₀ env.locals h₁ ((s.heap.objs.size, oI) :: news₁) := fun p hp => by
      rcases List.mem_cons.mp hp with rfl | hp
      · exact N₁ _ (List.mem_append_left _ hmem)
      · exact N₁ _ (List.mem_append_right _ hp)
    refine wpAny_mono (turn i t m₁ news₁ h₁ tk₁ _ _ hin hJ o1 F₁ N₂) (fun _ s₃ p => wpAny_mono p (fun f s₂ q => ?_) fun _ _ e => e) fun _ _ e => e
    obtain ⟨rfl, h', tk', m', news', rfl, F', N', o', j'⟩ := q
    refine .next ⟨rfl, h', tk', m', news', rfl, F', fun p hp => ?_, fun p hp hI => o' p hp (List.mem_singleton.mp hI), j'⟩
    rcases List.mem_append.mp hp with hp | hp
    · have h1 : p.1 = s.heap.objs.size := List.mem_singleton.mp (hown p hp)
      have h2 : h₁.get? p.1 = some p.2 := hget p hp
      have h3 : p = (s.heap.objs.size, oI) := by
        rw [h1, hoI] at h2
        exact Prod.ext h1 (Option.some.inj h2).symm
      rw [h3]; exact N' _ (List.mem_cons_self ..)
    · exact N' _ (List.mem_cons_of_mem _ hp)
  · rintro h' tk m' news' F' N' _ hJ
    exact done m' news' h' tk hJ F' N'
theorem fr_form {h₀ h : Heap} {L : Addr} {m₁ m₀ : Str → Option Value} {y : Str} {v : Value} {stored : List Str} (h1 : m₁ y = some v) (h2 : ∀ z, z ≠ y → stored.contains z = false → m₁ z = m₀ z) (F : Fr h₀ L h m₁) :
    Fr h₀ L h (fun z => kstB (fun z => if stored.contains z then m₁ z else m₀ z) [(y, v)] z) := by
  have e : (fun z => kstB (fun z => if stored.contains z then m₁ z else m₀ z) [(y, v)] z) = m₁ := by
    funext z
    refine kstB_eq (fun p hp => by rw [List.mem_singleton.mp hp]; exact h1) fun hn => ?_
    show (if stored.contains z = true then m₁ z else m₀ z) = m₁ z
    cases h3 : stored.contains z with
    | true => simp
    | false => simp only [Bool.false_eq_true, if_false]; exact (h2 z (hn (y, v) List.mem_cons_self) h3).symm
  rw [e]
  exact F
/-- the end of a turn: the frame's one list bound anew, two cells turned -/
def DPost (h₀ : Heap) (L : Addr) (y : Str) (stored : List Str) (m₀ : Str → Option Value) (cr cs : Addr) (rest : List (Addr × Obj)) (l : List Int) (I : Addr) (it : Obj) (s₁ : Shared) (f : Flow) (s₂ : Shared) : Prop :=
  f = .next ∧ ∃ h' tk' m' D vs nn lv or_ os vr v_s, s₂ = { s₁ with heap := h', toks := tk' } ∧ Fr h₀ L h' m' ∧ News h₀ L h' ((I, it) :: (D, listOf vs.toArray nn) :: (cr, or_) :: (cs, os) :: rest) ∧ lv = l ∧ IntsAre vs lv ∧ or_.data = .cell vr ∧ os.data = .cell v_s ∧ m' y = some (.ref D) ∧
    (∀ z, z ≠ y → stored.contains z = false → m' z = m₀ z) ∧ (∀ p ∈ rest, p.1 < D) ∧ @LT.lt Nat _ cr D ∧ @LT.lt Nat _ cs D ∧ @LT.lt Nat _ I D ∧ (∀ p ∈ rest, p.1 ≠ I) ∧ cr ≠ I ∧ cs ≠ I
theorem DPost.intro {h₀ : Heap} {L : Addr} {y : Str} {stored : List Str} {m₀ : Str → Option Value} {cr cs : Addr} {rest : List (Addr × Obj)} {l : List Int} {I : Addr} {it : Obj} {s₁ : Shared} {h' : Heap} {tk' : Nat} {m' : Str → Option Value} {D : Addr} {vs : List Value} {nn : Nat} {lv : List Int} {or_ os : Obj} {vr v_s : Option Value}
    (F : Fr h₀ L h' m') (N : News h₀ L h' ((I, it) :: (D, listOf vs.toArray nn) :: (cr, or_) :: (cs, os) :: rest)) (hy : m' y = some (.ref D)) (hr : ∀ z, z ≠ y → stored.contains z = false → m' z = m₀ z) (q1 : or_.data = .cell vr) (q2 : os.data = .cell v_s)
    (z1 : ∀ p ∈ rest, p.1 < D) (z2 : @LT.lt Nat _ cr D) (z3 : @LT.lt Nat _ cs D) (z4 : @LT.lt Nat _ I D) (z5 : ∀ p ∈ rest, p.1 ≠ I) (z6 : cr ≠ I) (z7 : cs ≠ I) (i : IntsAre vs lv) (e : lv = l) :
    DPost h₀ L y stored m₀ cr cs rest l I it s₁ .next { s₁ with heap := h', toks := tk' } := ⟨rfl, h', tk', m', D, vs, nn, lv, or_, os, vr, v_s, rfl, F, N, e, i, q1, q2, hy, hr, z1, z2, z3, z4, z5, z6, z7⟩
theorem dbl_loop {prog : Program} {w : World} {A : Around} {E : Value → Shared → Prop} {h₀ : Heap} {env : Env} {x : Str} {px : Pos} {body : List Stmt} {Q : Flow → Shared → Prop} {s : Shared} {r : Addr} {b₀ : Int} {t₀ u₀ v₀ : Tok} (n : Nat) (y : Str) (stored : List Str) (f : Nat → List Int) {m₀ : Str → Option Value} {D₀ : Addr} {vs₀ : List Value} {nn₀ : Nat} {lv₀ : List Int} {cr cs : Addr} {or₀ os₀ : Obj} {vr₀ v_s₀ : Option Value} {rest : List (Addr × Obj)}
    (hh : A.handled = none) (hr : IsRange s.heap r 0 b₀ 1 t₀ u₀ v₀) (hs : Builtin.Range.small 0 b₀ 1 = true) (hn : Builtin.Range.rangeSize 0 b₀ 1 = (n : Int))
    (F : Fr h₀ env.locals s.heap m₀) (N : News h₀ env.locals s.heap ((D₀, listOf vs₀.toArray nn₀) :: (cr, or₀) :: (cs, os₀) :: rest)) (hy : m₀ y = some (.ref D₀)) (q1 : or₀.data = .cell vr₀) (q2 : os₀.data = .cell v_s₀) (z₀ : ∀ p ∈ rest, p.1 < D₀) (z₁ : @LT.lt Nat _ cr D₀) (z₂ : @LT.lt Nat _ cs D₀) (i₀ : IntsAre vs₀ lv₀) (e₀ : lv₀ = f 0)
    (turn : ∀ (i : Nat) t D vs nn lv or_ os vr v_s (u : Str → Option Value) h tk I it, i < n → lv = f i → IntsAre vs lv → or_.data = .cell vr → os.data = .cell v_s → (∀ p ∈ (D, listOf vs.toArray nn) :: (cr, or_) :: (cs, os) :: rest, p.1 ≠ I) → (∀ p ∈ rest, p.1 < D) → @LT.lt Nat _ cr D → @LT.lt Nat _ cs D →
      Fr h₀ env.locals h (fun z => kstB (fun z => if stored.contains z then u z else m₀ z) [(y, .ref D)] z) → News h₀ env.locals h ((I, it) :: (D, listOf vs.toArray nn) :: (cr, or_) :: (cs, os) :: rest) →
      wpAny (model prog w) A (assign (.Name x px) env (.int (i : Int) t)) (fun _ s₂ => wpAny (model prog w) A (execs body env) (DPost h₀ env.locals y stored m₀ cr cs rest (f (i + 1)) I it { s with heap := h, toks := tk }) E s₂) E { s with heap := h, toks := tk })
    (done : ∀ D vs nn lv or_ os (u : Str → Option Value) h tk, lv = f n → IntsAre vs lv → (∀ p ∈ rest, p.1 < D) →
      Fr h₀ env.locals h (fun z => kstB (fun z => if stored.contains z then u z else m₀ z) [(y, .ref D)] z) → News h₀ env.locals h ((D, listOf vs.toArray nn) :: (cr, or_) :: (cs, os) :: rest) → Q .next { s with heap := h, toks := tk }) :
    wpAny (model prog w) A (pyIter (.ref r)) (fun it s₂ => TurnsAt prog w A h₀ env (.Name x px) body Q E it s₂) E s := by
  refine turns_range n (fun i m nw => ∃ D vs nn lv or_ os vr v_s, lv = f i ∧ IntsAre vs lv ∧ or_.data = .cell vr ∧ os.data = .cell v_s ∧ m y = some (.ref D) ∧ (∀ z, z ≠ y → stored.contains z = false → m z = m₀ z) ∧ (∀ p ∈ rest, p.1 < D) ∧ @LT.lt Nat _ cr D ∧ @LT.lt Nat _ cs D ∧ nw = (D, listOf vs.toArray nn) :: (cr, or_) :: (cs, os) :: rest) hh hr hs hn F N
    ⟨D₀, vs₀, nn₀, lv₀, or₀, os₀, vr₀, v_s₀, e₀, i₀, q1, q2, hy, fun _ _ _ => rfl, z₀, z₁, z₂, rfl⟩ ?_ ?_
  · rintro i t m₁ nw h tk I it hi ⟨D, vs, nn, lv, or_, os, vr, v_s, e1, i1, q1, q2, hy1, hr1, z1, z2, z3, rfl⟩ o1 F1 N1
    refine wpAny_mono (turn i t D vs nn lv or_ os vr v_s m₁ h tk I it hi e1 i1 q1 q2 o1 z1 z2 z3 (fr_form hy1 hr1 F1) N1) (fun _ s₃ p => wpAny_mono p (fun fl s₂ q => ?_) fun _ _ e => e) fun _ _ e => e
    obtain ⟨rfl, h', tk', m', D', vs', nn', lv', or', os', vr', vs'', rfl, F', N', e', i', q1', q2', hy', hr', z1', z2', z3', z4', z5', z6', z7'⟩ := q
    refine TPost.intro F' N' (fun p hp => ?_) ⟨D', vs', nn', lv', or', os', vr', vs'', e', i', q1', q2', hy', hr', z1', z2', z3', rfl⟩
    rcases List.mem_cons.mp hp with rfl | hp
    · exact Nat.ne_of_gt z4'
    · rcases List.mem_cons.mp hp with rfl | hp
      · exact z6'
      · rcases List.mem_cons.mp hp with rfl | hp
        · exact z7'
        · exact z5' p hp
  · rintro m₁ nw h tk ⟨D, vs, nn, lv, or_, os, vr, v_s, e1, i1, q1, q2, hy1, hr1, z1, z2, z3, rfl⟩ F1 N1
    exact done D vs nn lv or_ os m₁ h tk e1 i1 z1 (fr_form hy1 hr1 F1) N1
end Mine

-- part B9
namespace Mine
open PySem PySem.W PyProof.Rows PySem.Spec PySem.Calls
local macro_rules | `(tactic| walk_at "pad 13 0") => `(tactic| fail)
local macro_rules | `(tactic| walk_at "pad 13 1") => `(tactic| fail)
local macro_rules | `(tactic| walk_at "pad 13 2") => `(tactic| fail)
local macro_rules | `(tactic| walk_at "pad 13 3") => `(tactic| fail)
local macro_rules | `(tactic| walk_at "pad 13 4") => `(tactic| fail)
local macro_rules | `(tactic| walk_at "pad 13 5") => `(tactic| fail)
local macro_rules | `(tactic| walk_at "pad 13 6") => `(tactic| fail)
local macro_rules | `(tactic| walk_at "pad 13 7") => `(tactic| fail)
theorem fill11 : (PySem.Challenge.rw_pb0417_01, kk) = (PySem.Challenge.rw_pb0417_01, kk) := by
  w_top off
  k_fill
  rfl
local macro_rules | `(tactic| walk_at "one sides") => `(tactic| ((case hh => exact rfl); (case hr => assumption); (case hs => decide); (case hn => exact rfl); (case hyx => decide); (case F => k_asm); (case N => k_asm); (case hy => exact rfl); (case z0 => first | assumption | (refine ktn_ltOf ?_; simp only [AllLt, and_true]; omega))))
local macro_rules | `(tactic| walk_at "eval ListComp") => `(tactic| (k_here; k_dflt (refine LCg.ListComp_U (F₀ := by k_asm) (by with_unfolding_all rfl) (by decide) (by rfl) (by decide) (by rfl) ?_)))
local macro_rules | `(tactic| walk_at "exec Assign cons ListComp") => `(tactic| (k_here; k_dflt (refine LCg.Assign_ListComp_U (F₀ := by k_asm) (by rfl) (by with_unfolding_all rfl) (by with_unfolding_all rfl) (by decide) (by rfl) (by decide) (by rfl) (by rfl) (by rfl) ?_)))
local macro_rules | `(tactic| walk_at "CompSrc") => `(tactic| (k_here; k_dflt (refine LCg.CompSrc.ledger (by rfl) (by k_asm) (by k_asm) (by k_mem) (by (rw [PySem.sizeLine_eq]; simp only [List.size_toArray]; omega)) ?_; intro g'; (refine' kcf_list _ (by assumption) (fun k' t' I' oI' C' oC' D' m' ys' h' tk' E' hk' hC' hx' F' N' off' ne' hMark' => ?_) ?_); (all_goals (try (simp only [LCg.Off3, and_true] at off'))); kcf_last)))
local macro_rules | `(tactic| walk_at "binaryOp Add ref ref") => `(tactic| (k_here; (with_reducible show wpAny _ _ (binaryOp _ (Value.ref _) (Value.ref _)) _ _ _); k_dflt (refine' kmk_add_ints ?F ?N ?a ?b ?i ?j ?_ ?z; (case F => k_asm); (case N => k_asm); (case a => kmk_list); (case b => kmk_list); (case i => l_ints); (case j => l_ints); (case z => (rw [PySem.sizeLine_eq]; simp only [List.length_map, List.length_append]; omega))); intro D' ws' h' F' N' l1 hI'; (try k_lt l1); (try k_sweep)))
local macro_rules | `(tactic| walk_at "one end") => `(tactic| (refine' OnePost.intro ?F ?hy ?hr ?z1 ?z2 ?z3 ?i ?e ?N))
theorem ones_le (i : Nat) : (onesL i).length = 2 ^ i := by
  induction i with
  | zero => rfl
  | succ i ih => rw [onesL, List.length_append, List.length_map, ih, Nat.pow_succ]; omega
theorem pow_le {i : Nat} (h : i < 8) : 2 ^ i ≤ 128 := Nat.pow_le_pow_right (by decide) (Nat.le_of_lt_succ h)
theorem ones_le' {i : Nat} {lv : List Int} {vs : List Value} (e : lv = onesL i) (h : i < 8) (I : IntsAre vs lv) : vs.length ≤ 128 := by
  rw [I.length, e, ones_le]; exact pow_le h
theorem ones_le'' {i : Nat} {lv : List Int} (e : lv = onesL i) (h : i < 8) : lv.length ≤ 128 := by
  rw [e, ones_le]; exact pow_le h
theorem dw_off {base : List (Addr × Obj)} {q : Addr × Obj} {I : Addr} (h : ∀ p ∈ q :: base, p.1 ≠ I) : ∀ p ∈ base, p.1 ≠ I := fun p hp => h p (.tail _ hp)
set_option maxHeartbeats 4000000 in
theorem c_ones8 {d1 d2 d3 d4 d5 : Addr} {o1 o2 o3 o4 o5 : Obj} : Ctr 8 239 [] [(d1, o1), (d2, o2), (d3, o3), (d4, o4), (d5, o5)] (RLv [(d1, o1), (d2, o2), (d3, o3), (d4, o4), (d5, o5)] (onesL 8)) := by
  intro w p loose mean mg mb dp un gd cn cs a ccd cl outer A₀ base h₀ L m s Q E B F X N T hk hdp hun hret
  refine wpAny_call ?_
  k_dflt cell_enter
  k_with "pyIter ref" => (k_here; k_dflt (refine' one_loop 8 (Str.ofString "found") [] onesL ?hh ?hr ?hs ?hn ?hyx ?F ?N ?hy ?z0 (.cons 0 _ .nil) rfl ?turn ?done; walk_at "one sides"); (case' turn => (intro i2 t2 D2 vs2 nn2 lv2 u2 h2 tk2 I2 it2 r2 e2 i9 o2 z2 F2 N2; (have hl2 := ones_le' e2 r2 i9); (have hl3 := ones_le'' e2 r2); (replace z2 := allLt_of z2; simp only [AllLt, and_true] at z2); (try dsimp only))); (case' done => (intro D2 vs2 nn2 lv2 u2 h2 tk2 e2 i9 z2 F2 N2; (replace z2 := allLt_of z2; simp only [AllLt, and_true] at z2); (try dsimp only))))
  k_steps
  k_with_none
  · refine' RLv_ret hret ?hF ?hN ?hz i9 e2
    case hF => k_asm
    case hN => k_asm
    case hz => (refine ktn_ltOf ?_; simp only [AllLt, and_true]; omega)
  · refine' OnePost.intro (y := Str.ofString "found") ?hF ?hN ?hy ?hr ?z1 ?z2 ?z3 ?hi ?he
    case hF => k_asm
    case hy => exact rfl
    case hN => (refine' cb_drop ?nw ?sb; (case nw => k_asm); (case sb => (k_dflt lcg_sub)))
    case hr => (intro z q1 q2 q3; simp only [kstB, if_neg q1, if_neg q2]; first | rfl | (split <;> first | rfl | simp_all))
    case z1 => (refine ktn_ltOf ?_; simp only [AllLt, and_true]; omega)
    case z2 => exact dw_off o2
    case z3 => omega
    case hi => assumption
    case he => (rw [e2]; rfl)
end Mine

-- part B10
namespace Mine
open PySem PySem.W PyProof.Rows PySem.Spec PySem.Calls
local macro_rules | `(tactic| walk_at "pad 14 0") => `(tactic| fail)
local macro_rules | `(tactic| walk_at "pad 14 1") => `(tactic| fail)
local macro_rules | `(tactic| walk_at "pad 14 2") => `(tactic| fail)
local macro_rules | `(tactic| walk_at "pad 14 3") => `(tactic| fail)
local macro_rules | `(tactic| walk_at "pad 14 4") => `(tactic| fail)
local macro_rules | `(tactic| walk_at "pad 14 5") => `(tactic| fail)
local macro_rules | `(tactic| walk_at "pad 14 6") => `(tactic| fail)
local macro_rules | `(tactic| walk_at "pad 14 7") => `(tactic| fail)
local macro_rules | `(tactic| walk_at "pad 14 8") => `(tactic| fail)
local macro_rules | `(tactic| walk_at "pad 14 9") => `(tactic| fail)
local macro_rules | `(tactic| walk_at "pad 14 10") => `(tactic| fail)
local macro_rules | `(tactic| walk_at "pad 14 11") => `(tactic| fail)
local macro_rules | `(tactic| walk_at "pad 14 12") => `(tactic| fail)
local macro_rules | `(tactic| walk_at "pad 14 13") => `(tactic| fail)
local macro_rules | `(tactic| walk_at "pad 14 14") => `(tactic| fail)
theorem fill12 : (PySem.Challenge.rw_pb0417_01, kk) = (PySem.Challenge.rw_pb0417_01, kk) := by
  w_top off
  k_fill
  rfl
local macro_rules | `(tactic| walk_at "cells enter") => `(tactic| (refine' code_defC ?k1 ?k2 ?k3 ?k4 ?k5 ?kA ?kF ?kK ?k6 ?k7 ?k8 ?k9 ?kB ?kD ?_ ?c2 ?c3 ?c4; (case kA => exact rfl); (case kF => exact rfl); (case kK => assumption); (case k1 => k_asm); (case k2 => k_asm); (case k3 => k_asm); (case k4 => k_asm); (case k5 => k_asm); (case k6 => k_is); (case k7 => k_is); (case k8 => ktr_room); (case k9 => exact BindsTo.of_eq rfl); (case kB => exact rfl); (case kD => decide +kernel); (case c2 => exact rfl); (case c3 => exact rfl); (case c4 => exact rfl); k_whole; intro g' L' h' tk' cells' FG' F' N' Y' B' X' T' l1; (try k_lt l1); k_cells Y'; (try simp only [List.cons_append, List.nil_append] at N'); (try dsimp only); (try k_lift B'); (try k_fold)))
local macro_rules | `(tactic| walk_at "eval ListComp") => `(tactic| (k_here; k_dflt (refine LCg.ListComp_U (F₀ := by k_asm) (by with_unfolding_all rfl) (by decide) (by rfl) (by decide) (by rfl) ?_)))
local macro_rules | `(tactic| walk_at "exec Assign cons ListComp") => `(tactic| (k_here; k_dflt (refine LCg.Assign_ListComp_U (F₀ := by k_asm) (by rfl) (by with_unfolding_all rfl) (by with_unfolding_all rfl) (by decide) (by rfl) (by decide) (by rfl) (by rfl) (by rfl) ?_)))
local macro_rules | `(tactic| walk_at "CompSrc") => `(tactic| (k_here; k_dflt (refine LCg.CompSrc.ledger (by rfl) (by k_asm) (by k_asm) (by k_mem) (by (rw [PySem.sizeLine_eq]; simp only [List.size_toArray]; omega)) ?_; intro g'; (refine' kcf_list _ (by assumption) (fun k' t' I' oI' C' oC' D' m' ys' h' tk' E' hk' hC' hx' F' N' off' ne' hMark' => ?_) ?_); (all_goals (try (simp only [LCg.Off3, and_true] at off'))); kcf_last)))
local macro_rules | `(tactic| walk_at "binaryOp Add ref ref") => `(tactic| (k_here; (with_reducible show wpAny _ _ (binaryOp _ (Value.ref _) (Value.ref _)) _ _ _); k_dflt (refine' kmk_add_ints ?F ?N ?a ?b ?i ?j ?_ ?z; (case F => k_asm); (case N => k_asm); (case a => kmk_list); (case b => kmk_list); (case i => l_ints); (case j => l_ints); (case z => (rw [PySem.sizeLine_eq]; simp only [List.length_map, List.length_append]; omega))); intro D' ws' h' F' N' l1 hI'; (try k_lt l1); (try k_sweep)))
local macro_rules | `(tactic| walk_at "exec For Name Call cons nil") => `(tactic| (k_here; (rename Fr _ _ _ _ => lF'); (with_unfolding_all refine' For_turns lF' ?_; k_whole)))
local macro_rules | `(tactic| walk_at "dbl sides") => `(tactic| ((case hh => exact rfl); (case hr => assumption); (case hs => decide); (case hn => exact rfl); (case F => k_asm); (case N => k_asm); (case hy => exact rfl); (case q1 => k_asm); (case q2 => k_asm); (case z0 => (refine ktn_ltOf ?_; simp only [AllLt, and_true]; omega)); (case z1 => omega); (case z2 => omega)))
theorem dbl_le (x : Int) (tb : List Int) (i : Nat) : (dbl x tb i).length = 2 ^ i := by
  induction i with
  | zero => rfl
  | succ i ih => rw [dbl, List.length_append, List.length_map, List.length_map, ih, Nat.pow_succ]; omega
theorem dbl_le' {x : Int} {tb : List Int} {i : Nat} {lv : List Int} {vs : List Value} (e : lv = dbl x tb i) (h : i < 8) (I : IntsAre vs lv) : vs.length ≤ 128 := by
  rw [I.length, e, dbl_le]; exact pow_le h
theorem dbl_le'' {x : Int} {tb : List Int} {i : Nat} {lv : List Int} (e : lv = dbl x tb i) (h : i < 8) : lv.length ≤ 128 := by
  rw [e, dbl_le]; exact pow_le h
theorem pow_b {i : Nat} (h : i < 8) : (1 : Int) ≤ 2 ^ (i : Int).toNat ∧ (2 : Int) ^ (i : Int).toNat ≤ 128 := by
  have e : (i : Int).toNat = i := rfl
  rw [e]
  have h1 : 2 ^ i ≤ 128 := pow_le h
  have h2 : 1 ≤ 2 ^ i := Nat.one_le_two_pow
  have h3 : ((2 ^ i : Nat) : Int) = (2 : Int) ^ i := by simp
  omega
local macro_rules | `(tactic| walk_at "binaryOp Mult int int") => `(tactic| (k_here; with_reducible refine mul_int ?_ (PySem.IntMulOk.of_right (PySem.intBits_le_64 (by omega) (by omega)))))
theorem ne_three {a b c : Addr × Obj} {r : List (Addr × Obj)} {I : Addr} (h : ∀ p ∈ a :: b :: c :: r, p.1 ≠ I) : (@Ne Nat a.1 I) ∧ (@Ne Nat b.1 I) ∧ (@Ne Nat c.1 I) := ⟨h a (.head _), h b (.tail _ (.head _)), h c (.tail _ (.tail _ (.head _)))⟩
set_option maxHeartbeats 4000000 in
theorem c_doubled {x a0 a1 a2 a3 : Int} {t u0 u1 u2 u3 : Tok} {tb : Addr} {nt : Nat} {d1 d2 d3 d4 : Addr} {o1 o2 o3 o4 : Obj} (h0 : 0 ≤ x) (h1 : x < 256) :
    Ctr 8 234 [.int x t, .ref tb] [(tb, listOf #[.int a0 u0, .int a1 u1, .int a2 u2, .int a3 u3] nt), (d1, o1), (d2, o2), (d3, o3), (d4, o4)] (RLv [(tb, listOf #[.int a0 u0, .int a1 u1, .int a2 u2, .int a3 u3] nt), (d1, o1), (d2, o2), (d3, o3), (d4, o4)] (dbl x [a0, a1, a2, a3] 8)) := by
  intro w p loose mean mg mb dp un gd cn cs a ccd cl outer A₀ base h₀ L m s Q E B F X N T hk hdp hun hret
  refine wpAny_call ?_
  k_dflt (walk_at "cells enter")
  k_with "pyIter ref" => (k_here; k_dflt (refine' dbl_loop 8 (Str.ofString "found") [Str.ofString "low"] (dbl x [a0, a1, a2, a3]) ?hh ?hr ?hs ?hn ?F ?N ?hy ?q1 ?q2 ?z0 ?z1 ?z2 (.cons 0 _ .nil) rfl ?turn ?done; walk_at "dbl sides"); (case' turn => (intro i2 t2 D2 vs2 nn2 lv2 or2 os2 vr2 v_s2 u2 h2 tk2 I2 it2 r2 e2 i9 w1 w2 o2 z2 y1 y2 F2 N2; (have hl2 := dbl_le' e2 r2 i9); (have hl3 := dbl_le'' e2 r2); (have oo := ne_three o2); (have b3 := pow_b r2); (have b1 : (0 : Int) ≤ (i2 : Int) := by omega); (have b2 : (i2 : Int) < 8 := by omega); (replace z2 := allLt_of z2; simp only [AllLt, and_true] at z2); (try dsimp only))); (case' done => (intro D2 vs2 nn2 lv2 or2 os2 u2 h2 tk2 e2 i9 z2 F2 N2; (replace z2 := allLt_of z2; simp only [AllLt, and_true] at z2); (try dsimp only))))
  k_steps
  k_with_none
  · refine' RLv_ret hret ?hF ?hN ?hz i9 e2
    case hF => k_asm
    case hN => (refine' cb_drop ?nw ?sb; (case nw => k_asm); (case sb => (k_dflt lcg_sub)))
    case hz => (refine ktn_ltOf ?_; simp only [AllLt, and_true]; omega)
  · refine' DPost.intro (y := Str.ofString "found") ?hF ?hN ?hy ?hr ?q1 ?q2 ?z1 ?z2 ?z3 ?z4 ?z5 ?z6 ?z7 ?hi ?he
    case hF => k_asm
    case hy => exact rfl
    case hN => (refine' cb_drop ?nw ?sb; (case nw => k_asm); (case sb => (k_dflt lcg_sub)))
    case hr => (intro z q1 q3; simp only [kstB, if_neg q1]; first | rfl | (split <;> first | rfl | simp_all))
    case q1 => k_asm
    case q2 => k_asm
    case z1 => (refine ktn_ltOf ?_; simp only [AllLt, and_true]; omega)
    case z2 => omega
    case z3 => omega
    case z4 => omega
    case z5 => exact dw_off (dw_off (dw_off o2))
    case z6 => exact oo.2.1
    case z7 => exact oo.2.2
    case hi => assumption
    case he => (rw [e2]; rfl)
end Mine

-- part B11
namespace Mine
open PySem PySem.W PyProof.Rows PySem.Spec PySem.Calls
local macro_rules | `(tactic| walk_at "pad 15 0") => `(tactic| fail)
theorem fill13 : (PySem.Challenge.rw_pb0417_01, kk) = (PySem.Challenge.rw_pb0417_01, kk) := by
  w_top off
  k_fill
  rfl
local macro_rules | `(tactic| walk_at "ctr sides") => `(tactic| ((case B => k_asm); (case F => k_asm); (case X => k_asm); (case N => k_asm); (case T => k_asm); (case hk => first | exact rfl | assumption); (case hd => ktr_room); (case hu => ktr_units)))
theorem news_drop2 {h₀ h : Heap} {L : Addr} {a b c : Addr × Obj} {l : List (Addr × Obj)} (N : News h₀ L h (a :: b :: c :: l)) : News h₀ L h (a :: l) := fun p hp => N p (by
  rcases List.mem_cons.mp hp with rfl | hp
  · exact .head _
  · exact .tail _ (.tail _ (.tail _ hp)))
theorem lt_drop2 {b c d : Addr} {l : List (Addr × Obj)} {P R : Prop} (h : P ∧ R ∧ AllLt d l) : ∀ p ∈ l, p.1 < d := ktn_ltOf h.2.2
set_option maxHeartbeats 4000000 in
theorem c_turned {news : List (Addr × Obj)} {x : Int} {t : Tok} : Ctr 3 229 [.int x t] news (RLv news (turnedL x)) := by
  intro w p loose mean mg mb dp un gd cn cs a ccd cl outer A₀ base h₀ L m s Q E B F X N T hk hdp hun hret
  refine wpAny_call ?_
  k_dflt cell_enter
  k_steps
  k_with_none
  refine' RLv_ret hret ?hF ?hN ?hz ?hi ?he
  case hF => k_asm
  case hN => (refine' news_drop2 ?n2; (case n2 => k_asm))
  case hz => (refine ktn_ltOf ?_; apply And.right; apply And.right; assumption)
  case hi => assumption
  case he => rfl
local macro_rules | `(tactic| walk_at "ctr list") => `(tactic| (intro v9 n9 h9 tk9 R9 F9 N9; (obtain ⟨b9, vs9, nn9, lv9, e9, l9, i9, z9, f9⟩ := R9; subst e9; subst f9); (try k_lt l9); (try dsimp only); (try k_fold)))
local macro_rules | `(tactic| walk_at "call ref") => `(tactic| (k_here; k_dflt (refine' ctr_use c_turned ?B ?F ?X ?N ?T ?hk ?hd ?hu ?_; walk_at "ctr sides"); walk_at "ctr list"))

set_option maxHeartbeats 4000000 in
theorem c_resA {nm : Str} (hA : ([Str.ofString "add", Str.ofString "adc"].any fun x => x == nm) = true) {x c : Int} {t tn t2 : Tok} {d1 d2 d3 d4 : Addr} {o1 o2 o3 o4 : Obj} (h0 : 0 ≤ x) (h1 : x < 256) : Ctr 12 253 [.str nm tn, .int x t, .int c t2] [(d1, o1), (d2, o2), (d3, o3), (d4, o4)] (RLv [(d1, o1), (d2, o2), (d3, o3), (d4, o4)] (turnedL (x + c))) := by
  have hS := hA
  intro w p loose mean mg mb dp un gd cn cs a ccd cl outer A₀ base h₀ L m s Q E B F X N T hk hdp hun hret
  refine wpAny_call ?_
  k_dflt cell_enter
  repeat' (first | (k_unfold; (try dsimp only)) | (k_closed; (first | (refine' PySem.W.ite_neg ?hc ?_; (case hc => decide +kernel)) | (refine' PySem.W.ite_pos ?hc ?_; (case hc => decide +kernel))); try dsimp only) | (first | (refine' PySem.W.ite_neg ?hc ?_; (case hc => first | (rw [hA]; decide) | (rw [hS]; decide))) | (refine' PySem.W.ite_pos ?hc ?_; (case hc => first | exact hA | exact hS)); try dsimp only) | walk1 | (dsimp only; walk1) | (leave1; try dsimp only))
  k_with_none
  all_goals (refine' RLv_ret hret ?hF ?hN ?hz ?hi ?he; (case hF => k_asm); (case hN => (refine' cb_drop ?nw ?sb; (case nw => k_asm); (case sb => (k_dflt lcg_sub)))); (case hz => (refine ktn_ltOf ?_; simp only [AllLt, and_true]; omega)); (case hi => assumption); (case he => assumption))

set_option maxHeartbeats 4000000 in
theorem c_resS {nm : Str} (hA : ([Str.ofString "add", Str.ofString "adc"].any fun x => x == nm) = false) (hS : ([Str.ofString "sub", Str.ofString "sbb", Str.ofString "cmp"].any fun x => x == nm) = true) {x c : Int} {t tn t2 : Tok} {d1 d2 d3 d4 : Addr} {o1 o2 o3 o4 : Obj} (h0 : 0 ≤ x) (h1 : x < 256) : Ctr 12 253 [.str nm tn, .int x t, .int c t2] [(d1, o1), (d2, o2), (d3, o3), (d4, o4)] (RLv [(d1, o1), (d2, o2), (d3, o3), (d4, o4)] (turnedL (0 - x - c))) := by
  intro w p loose mean mg mb dp un gd cn cs a ccd cl outer A₀ base h₀ L m s Q E B F X N T hk hdp hun hret
  refine wpAny_call ?_
  k_dflt cell_enter
  repeat' (first | (k_unfold; (try dsimp only)) | (k_closed; (first | (refine' PySem.W.ite_neg ?hc ?_; (case hc => decide +kernel)) | (refine' PySem.W.ite_pos ?hc ?_; (case hc => decide +kernel))); try dsimp only) | (first | (refine' PySem.W.ite_neg ?hc ?_; (case hc => first | (rw [hA]; decide) | (rw [hS]; decide))) | (refine' PySem.W.ite_pos ?hc ?_; (case hc => first | exact hA | exact hS)); try dsimp only) | walk1 | (dsimp only; walk1) | (leave1; try dsimp only))
  k_with_none
  all_goals (refine' RLv_ret hret ?hF ?hN ?hz ?hi ?he; (case hF => k_asm); (case hN => (refine' cb_drop ?nw ?sb; (case nw => k_asm); (case sb => (k_dflt lcg_sub)))); (case hz => (refine ktn_ltOf ?_; simp only [AllLt, and_true]; omega)); (case hi => assumption); (case he => assumption))

set_option maxHeartbeats 4000000 in
theorem c_resL {nm : Str} {i : Nat} (hA : ([Str.ofString "add", Str.ofString "adc"].any fun x => x == nm) = false) (hS : ([Str.ofString "sub", Str.ofString "sbb", Str.ofString "cmp"].any fun x => x == nm) = false) (hnm : (nm = Str.ofString "and" ∧ i = 5) ∨ (nm = Str.ofString "or" ∧ i = 6) ∨ (nm = Str.ofString "xor" ∧ i = 7) ∨ (nm = Str.ofString "test" ∧ i = 8)) {x c : Int} {t tn t2 : Tok} {d1 d2 d3 d4 : Addr} {o1 o2 o3 o4 : Obj} (h0 : 0 ≤ x) (h1 : x < 256) : Ctr 12 253 [.str nm tn, .int x t, .int c t2] [(d1, o1), (d2, o2), (d3, o3), (d4, o4)] (RLv [(d1, o1), (d2, o2), (d3, o3), (d4, o4)] (dbl x (tbl i) 8)) := by
  intro w p loose mean mg mb dp un gd cn cs a ccd cl outer A₀ base h₀ L m s Q E B F X N T hk hdp hun hret
  refine wpAny_call ?_
  k_dflt cell_enter
  k_with "call ref" => (k_here; k_dflt (refine' ctr_use (c_doubled (d1 := d1) (d2 := d2) (d3 := d3) (d4 := d4) (o1 := o1) (o2 := o2) (o3 := o3) (o4 := o4) h0 h1) ?B ?F ?X ?N ?T ?hk ?hd ?hu ?_; (case B => k_asm); (case F => k_asm); (case X => k_asm); (case T => k_asm); (case hk => first | exact rfl | assumption); (case hd => ktr_room); (case hu => ktr_units); (case N => (refine' cb_drop ?nw ?sb; (case nw => k_asm); (case sb => lcg_sub)))); walk_at "ctr list")
  repeat' ((fail_if_success (with_reducible show wpAny _ _ (subscriptTail _ _ _ _) _ _ _)); first | (k_unfold; (try dsimp only)) | (k_closed; (first | (refine' PySem.W.ite_neg ?hc ?_; (case hc => decide +kernel)) | (refine' PySem.W.ite_pos ?hc ?_; (case hc => decide +kernel))); try dsimp only) | (first | (refine' PySem.W.ite_neg ?hc ?_; (case hc => first | (rw [hA]; decide) | (rw [hS]; decide))) | (refine' PySem.W.ite_pos ?hc ?_; (case hc => first | exact hA | exact hS)); try dsimp only) | walk1 | (dsimp only; walk1) | (leave1; try dsimp only))
  rcases hnm with ⟨rfl, rfl⟩ | ⟨rfl, rfl⟩ | ⟨rfl, rfl⟩ | ⟨rfl, rfl⟩
  all_goals clear hA hS
  all_goals repeat' (first | (k_unfold; (try dsimp only)) | walk1 | (dsimp only; walk1) | (leave1; try dsimp only))
  k_with_none
  all_goals (refine' RLv_ret hret ?hF ?hN ?hz ?hi ?he; (case hF => k_asm); (case hN => (refine' cb_drop ?nw ?sb; (case nw => k_asm); (case sb => (k_dflt lcg_sub)))); (case hz => (refine ktn_ltOf ?_; simp only [AllLt, and_true]; omega)); (case hi => assumption); (case he => assumption))

theorem c_results {i : Nat} (hi : i < 9) {x c : Int} {t tn t2 : Tok} {d1 d2 d3 d4 : Addr} {o1 o2 o3 o4 : Obj} (h0 : 0 ≤ x) (h1 : x < 256) : Ctr 12 253 [.str (nmOf i) tn, .int x t, .int c t2] [(d1, o1), (d2, o2), (d3, o3), (d4, o4)] (RLv [(d1, o1), (d2, o2), (d3, o3), (d4, o4)] (resL i x c)) :=
  match i, hi with
  | 0, _ => c_resA (by decide +kernel) h0 h1
  | 1, _ => c_resA (by decide +kernel) h0 h1
  | 2, _ => c_resS (by decide +kernel) (by decide +kernel) h0 h1
  | 3, _ => c_resS (by decide +kernel) (by decide +kernel) h0 h1
  | 4, _ => c_resS (by decide +kernel) (by decide +kernel) h0 h1
  | 5, _ => c_resL (by decide +kernel) (by decide +kernel) (.inl ⟨rfl, rfl⟩) h0 h1
  | 6, _ => c_resL (by decide +kernel) (by decide +kernel) (.inr (.inl ⟨rfl, rfl⟩)) h0 h1
  | 7, _ => c_resL (by decide +kernel) (by decide +kernel) (.inr (.inr (.inl ⟨rfl, rfl⟩))) h0 h1
  | 8, _ => c_resL (by decide +kernel) (by decide +kernel) (.inr (.inr (.inr ⟨rfl, rfl⟩))) h0 h1
end Mine

-- part B12
namespace Mine
open PySem PySem.W PyProof.Rows PySem.Spec PySem.Calls
local macro_rules | `(tactic| walk_at "pad 16 0") => `(tactic| fail)
local macro_rules | `(tactic| walk_at "pad 16 1") => `(tactic| fail)
local macro_rules | `(tactic| walk_at "pad 16 2") => `(tactic| fail)
local macro_rules | `(tactic| walk_at "pad 16 3") => `(tactic| fail)
local macro_rules | `(tactic| walk_at "pad 16 4") => `(tactic| fail)
local macro_rules | `(tactic| walk_at "pad 16 5") => `(tactic| fail)
local macro_rules | `(tactic| walk_at "pad 16 6") => `(tactic| fail)
local macro_rules | `(tactic| walk_at "pad 16 7") => `(tactic| fail)
theorem fill14 : (PySem.Challenge.rw_pb0417_01, kk) = (PySem.Challenge.rw_pb0417_01, kk) := by
  w_top off
  k_fill
  rfl
local macro_rules | `(tactic| walk_at "ctr sides") => `(tactic| ((case B => k_asm); (case F => k_asm); (case X => k_asm); (case N => k_asm); (case T => k_asm); (case hk => first | exact rfl | assumption); (case hd => ktr_room); (case hu => ktr_units)))
theorem near_lo {x : Int} (h0 : 0 ≤ x) (h1 : x < 256) : -128 ≤ near x := by unfold near; split <;> omega
theorem near_hi {x : Int} (h0 : 0 ≤ x) (h1 : x < 256) : near x ≤ 127 := by unfold near; split <;> omega
abbrev RN (news : List (Addr × Obj)) (x : Int) : Value → List (Addr × Obj) → Prop := fun v n => n = news ∧ ∃ y t, v = .int y t ∧ y = near x ∧ -128 ≤ y ∧ y ≤ 127
set_option maxHeartbeats 4000000 in
theorem c_near {news : List (Addr × Obj)} {x : Int} {t : Tok} (h0 : 0 ≤ x) (h1 : x < 256) : Ctr 3 246 [.int x t] news (RN news x) := by
  intro w p loose mean mg mb dp un gd cn cs a ccd cl outer A₀ base h₀ L m s Q E B F X N T hk hdp hun hret
  refine wpAny_call ?_
  k_dflt cell_enter
  k_steps
  k_with_none
  · exact hret _ _ _ _ ⟨rfl, _, _, rfl, (by unfold near; rw [if_pos (by assumption)]), (by omega), (by omega)⟩ (by k_asm) (by k_asm)
  · exact hret _ _ _ _ ⟨rfl, _, _, rfl, (by unfold near; rw [if_neg (by assumption)]), (by omega), (by omega)⟩ (by k_asm) (by k_asm)
local macro_rules | `(tactic| walk_at "call ref") => `(tactic| (k_here; k_dflt (refine' ctr_use (c_near ?h0 ?h1) ?B ?F ?X ?N ?T ?hk ?hd ?hu ?_; (case h0 => assumption); (case h1 => assumption); walk_at "ctr sides"); (intro v9 n9 h9 tk9 R9 F9 N9; (obtain ⟨e9, y9, t9, f9, y1, y2, y3⟩ := R9; subst e9; subst f9); (try dsimp only); (try k_fold))))
local macro_rules | `(tactic| walk_at "cells enter") => `(tactic| (refine' code_defC ?k1 ?k2 ?k3 ?k4 ?k5 ?kA ?kF ?kK ?k6 ?k7 ?k8 ?k9 ?kB ?kD ?_ ?c2 ?c3 ?c4; (case kA => exact rfl); (case kF => exact rfl); (case kK => assumption); (case k1 => k_asm); (case k2 => k_asm); (case k3 => k_asm); (case k4 => k_asm); (case k5 => k_asm); (case k6 => k_is); (case k7 => k_is); (case k8 => ktr_room); (case k9 => exact BindsTo.of_eq rfl); (case kB => exact rfl); (case kD => decide +kernel); (case c2 => exact rfl); (case c3 => exact rfl); (case c4 => exact rfl); k_whole; intro g' L' h' tk' cells' FG' F' N' Y' B' X' T' l1; (try k_lt l1); k_cells Y'; (try simp only [List.cons_append, List.nil_append] at N'); (try dsimp only); (try k_lift B'); (try k_fold)))

local macro_rules | `(tactic| walk_at "CompSrcT") => `(tactic| k_extra "my src")
set_option maxHeartbeats 4000000 in
theorem c_carA {nm : Str} (hA : ([Str.ofString "add", Str.ofString "adc"].any fun x => x == nm) = true) {x c : Int} {t tn t2 : Tok} {d1 d2 d3 d4 d5 d6 d7 : Addr} {o1 o2 o3 o4 o5 o6 o7 : Obj} (h0 : 0 ≤ x) (h1 : x < 256) (h2 : 0 ≤ c) (h3 : c < 2) : Ctr 8 258 [.str nm tn, .int x t, .int c t2] [(d1, o1), (d2, o2), (d3, o3), (d4, o4), (d5, o5), (d6, o6), (d7, o7)] (R3 [(d1, o1), (d2, o2), (d3, o3), (d4, o4), (d5, o5), (d6, o6), (d7, o7)] (rangeKs (256 - (x + c)) (256 - (256 - (x + c))).toNat) (hafA x c) (ovrA x c)) := by
  have hS := hA
  intro w p loose mean mg mb dp un gd cn cs a ccd cl outer A₀ base h₀ L m s Q E B F X N T hk hdp hun hret
  refine wpAny_call ?_
  k_dflt (walk_at "cells enter")
  k_with "my src" => (k_here; k_dflt (refine' er_src (fun k => decide (16 - (x.fmod 16 + c) ≤ k.fmod 16)) rfl ?F ?N ?hr ?hk ?hx ?hdb ?turn ?fin; (case F => k_asm); (case N => k_asm); (case hr => assumption); (case hk => exact rfl); (case hx => exact rfl); (case hdb => decide)); (case' turn => (intro k9 t9 I9 oI9 C9 oC9 D9 m9 ys9 h9 tk9 E9 hk8 hk9 hC9 hx9 F9 N9; (try dsimp only); (try k_fold))); (case' fin => (intro D8 h8 tk8 ys8 i8 F8 N8 o8; (simp only [LCg.Off1, and_true] at o8); (try dsimp only); (try k_fold))))
  repeat' (first | (k_unfold; (try dsimp only)) | (k_end; wrow_close) | (first | (refine' PySem.W.ite_neg ?hc ?_; (case hc => first | (rw [hA]; decide) | (rw [hS]; decide))) | (refine' PySem.W.ite_pos ?hc ?_; (case hc => first | exact hA | exact hS)); try dsimp only) | walk1 | (dsimp only; walk1) | (leave1; try dsimp only))
  k_with_none
  any_goals exact EcT.intro (by rfl) (by k_asm) (by k_asm)
  · (rename (_ = near x) => zy); subst zy
    refine' R3_ret hret ?hFa ?hNa ?z1a ?z2a ?z3a ?za ?i1a ?i2a ?i3a
    case hFa => k_asm
    case hNa => (refine' cb_drop ?nwa ?sba; (case nwa => k_asm); (case sba => (k_dflt lcg_sub)))
    case i1a => assumption
    case i2a => assumption
    case i3a => (unfold ovrA; rw [if_pos (by assumption)]; assumption)
    case z2a => (simp only [LCg.Off1, and_true]; omega)
    all_goals (refine ktn_ltOf ?_; simp only [AllLt, and_true]; omega)
  · (rename (_ = near x) => zy); subst zy
    refine' R3_ret hret ?hFb ?hNb ?z1b ?z2b ?z3b ?zb ?i1b ?i2b ?i3b
    case hFb => k_asm
    case hNb => (refine' cb_drop ?nwb ?sbb; (case nwb => k_asm); (case sbb => (k_dflt lcg_sub)))
    case i1b => assumption
    case i2b => assumption
    case i3b => (unfold ovrA; rw [if_neg (by assumption)]; assumption)
    case z2b => (simp only [LCg.Off1, and_true]; omega)
    all_goals (refine ktn_ltOf ?_; simp only [AllLt, and_true]; omega)

set_option maxHeartbeats 4000000 in
theorem c_carS {nm : Str} (hA : ([Str.ofString "add", Str.ofString "adc"].any fun x => x == nm) = false) (hS : ([Str.ofString "sub", Str.ofString "sbb", Str.ofString "cmp"].any fun x => x == nm) = true) {x c : Int} {t tn t2 : Tok} {d1 d2 d3 d4 d5 d6 d7 : Addr} {o1 o2 o3 o4 o5 o6 o7 : Obj} (h0 : 0 ≤ x) (h1 : x < 256) (h2 : 0 ≤ c) (h3 : c < 2) : Ctr 8 258 [.str nm tn, .int x t, .int c t2] [(d1, o1), (d2, o2), (d3, o3), (d4, o4), (d5, o5), (d6, o6), (d7, o7)] (R3 [(d1, o1), (d2, o2), (d3, o3), (d4, o4), (d5, o5), (d6, o6), (d7, o7)] (rangeKs 0 (x + c - 0).toNat) (hafS x c) (ovrS x c)) := by
  intro w p loose mean mg mb dp un gd cn cs a ccd cl outer A₀ base h₀ L m s Q E B F X N T hk hdp hun hret
  refine wpAny_call ?_
  k_dflt (walk_at "cells enter")
  k_with "my src" => (k_here; k_dflt (refine' er_src (fun k => decide (k.fmod 16 < x.fmod 16 + c)) rfl ?F ?N ?hr ?hk ?hx ?hdb ?turn ?fin; (case F => k_asm); (case N => k_asm); (case hr => assumption); (case hk => exact rfl); (case hx => exact rfl); (case hdb => decide)); (case' turn => (intro k9 t9 I9 oI9 C9 oC9 D9 m9 ys9 h9 tk9 E9 hk8 hk9 hC9 hx9 F9 N9; (try dsimp only); (try k_fold))); (case' fin => (intro D8 h8 tk8 ys8 i8 F8 N8 o8; (simp only [LCg.Off1, and_true] at o8); (try dsimp only); (try k_fold))))
  repeat' (first | (k_unfold; (try dsimp only)) | (k_end; wrow_close) | (first | (refine' PySem.W.ite_neg ?hc ?_; (case hc => first | (rw [hA]; decide) | (rw [hS]; decide))) | (refine' PySem.W.ite_pos ?hc ?_; (case hc => first | exact hA | exact hS)); try dsimp only) | walk1 | (dsimp only; walk1) | (leave1; try dsimp only))
  k_with_none
  any_goals exact EcT.intro (by rfl) (by k_asm) (by k_asm)
  · (rename (_ = near x) => zy); subst zy
    refine' R3_ret hret ?hFa ?hNa ?z1a ?z2a ?z3a ?za ?i1a ?i2a ?i3a
    case hFa => k_asm
    case hNa => (refine' cb_drop ?nwa ?sba; (case nwa => k_asm); (case sba => (k_dflt lcg_sub)))
    case i1a => assumption
    case i2a => assumption
    case i3a => (unfold ovrS; rw [if_pos (by assumption)]; assumption)
    case z2a => (simp only [LCg.Off1, and_true]; omega)
    all_goals (refine ktn_ltOf ?_; simp only [AllLt, and_true]; omega)
  · (rename (_ = near x) => zy); subst zy
    refine' R3_ret hret ?hFb ?hNb ?z1b ?z2b ?z3b ?zb ?i1b ?i2b ?i3b
    case hFb => k_asm
    case hNb => (refine' cb_drop ?nwb ?sbb; (case nwb => k_asm); (case sbb => (k_dflt lcg_sub)))
    case i1b => assumption
    case i2b => assumption
    case i3b => (unfold ovrS; rw [if_neg (by assumption)]; assumption)
    case z2b => (simp only [LCg.Off1, and_true]; omega)
    all_goals (refine ktn_ltOf ?_; simp only [AllLt, and_true]; omega)

set_option maxHeartbeats 4000000 in
theorem c_carL {nm : Str} (hA : ([Str.ofString "add", Str.ofString "adc"].any fun x => x == nm) = false) (hS : ([Str.ofString "sub", Str.ofString "sbb", Str.ofString "cmp"].any fun x => x == nm) = false) {x c : Int} {t tn t2 : Tok} {d1 d2 d3 d4 d5 d6 d7 : Addr} {o1 o2 o3 o4 o5 o6 o7 : Obj} (h0 : 0 ≤ x) (h1 : x < 256) (h2 : 0 ≤ c) (h3 : c < 2) : Ctr 8 258 [.str nm tn, .int x t, .int c t2] [(d1, o1), (d2, o2), (d3, o3), (d4, o4), (d5, o5), (d6, o6), (d7, o7)] (R3 [(d1, o1), (d2, o2), (d3, o3), (d4, o4), (d5, o5), (d6, o6), (d7, o7)] [] [] []) := by
  intro w p loose mean mg mb dp un gd cn cs a ccd cl outer A₀ base h₀ L m s Q E B F X N T hk hdp hun hret
  refine wpAny_call ?_
  k_dflt (walk_at "cells enter")
  repeat' (first | (k_unfold; (try dsimp only)) | (k_end; wrow_close) | (first | (refine' PySem.W.ite_neg ?hc ?_; (case hc => first | (rw [hA]; decide) | (rw [hS]; decide))) | (refine' PySem.W.ite_pos ?hc ?_; (case hc => first | exact hA | exact hS)); try dsimp only) | walk1 | (dsimp only; walk1) | (leave1; try dsimp only))
  k_with_none
  · (rename (_ = near x) => zy); subst zy
    refine' R3_ret hret ?hFa ?hNa ?z1a ?z2a ?z3a ?za ?i1a ?i2a ?i3a
    case hFa => k_asm
    case hNa => (refine' cb_drop ?nwa ?sba; (case nwa => k_asm); (case sba => (k_dflt lcg_sub)))
    case i1a => exact .nil
    case i2a => exact .nil
    case i3a => exact .nil
    case z2a => (simp only [LCg.Off1, and_true]; omega)
    all_goals (refine ktn_ltOf ?_; simp only [AllLt, and_true]; omega)

theorem c_carried {i : Nat} (hi : i < 9) {x c : Int} {t tn t2 : Tok} {d1 d2 d3 d4 d5 d6 d7 : Addr} {o1 o2 o3 o4 o5 o6 o7 : Obj} (h0 : 0 ≤ x) (h1 : x < 256) (h2 : 0 ≤ c) (h3 : c < 2) : Ctr 8 258 [.str (nmOf i) tn, .int x t, .int c t2] [(d1, o1), (d2, o2), (d3, o3), (d4, o4), (d5, o5), (d6, o6), (d7, o7)] (R3 [(d1, o1), (d2, o2), (d3, o3), (d4, o4), (d5, o5), (d6, o6), (d7, o7)] (carL i x c) (hafL i x c) (ovrL i x c)) :=
  match i, hi with
  | 0, _ => c_carA (by decide +kernel) h0 h1 h2 h3
  | 1, _ => c_carA (by decide +kernel) h0 h1 h2 h3
  | 2, _ => c_carS (by decide +kernel) (by decide +kernel) h0 h1 h2 h3
  | 3, _ => c_carS (by decide +kernel) (by decide +kernel) h0 h1 h2 h3
  | 4, _ => c_carS (by decide +kernel) (by decide +kernel) h0 h1 h2 h3
  | 5, _ => c_carL (by decide +kernel) (by decide +kernel) h0 h1 h2 h3
  | 6, _ => c_carL (by decide +kernel) (by decide +kernel) h0 h1 h2 h3
  | 7, _ => c_carL (by decide +kernel) (by decide +kernel) h0 h1 h2 h3
  | 8, _ => c_carL (by decide +kernel) (by decide +kernel) h0 h1 h2 h3
end Mine

-- part P1
namespace Mine
open PySem PySem.W PyProof.Rows PySem.Spec PySem.Calls
local macro_rules | `(tactic| walk_at "pad 17 0") => `(tactic| fail)
local macro_rules | `(tactic| walk_at "pad 17 1") => `(tactic| fail)
local macro_rules | `(tactic| walk_at "pad 17 2") => `(tactic| fail)
local macro_rules | `(tactic| walk_at "pad 17 3") => `(tactic| fail)
local macro_rules | `(tactic| walk_at "pad 17 4") => `(tactic| fail)
local macro_rules | `(tactic| walk_at "pad 17 5") => `(tactic| fail)
local macro_rules | `(tactic| walk_at "pad 17 6") => `(tactic| fail)
local macro_rules | `(tactic| walk_at "pad 17 7") => `(tactic| fail)
local macro_rules | `(tactic| walk_at "pad 17 8") => `(tactic| fail)
local macro_rules | `(tactic| walk_at "pad 17 9") => `(tactic| fail)
local macro_rules | `(tactic| walk_at "pad 17 10") => `(tactic| fail)
local macro_rules | `(tactic| walk_at "pad 17 11") => `(tactic| fail)
local macro_rules | `(tactic| walk_at "pad 17 12") => `(tactic| fail)
local macro_rules | `(tactic| walk_at "pad 17 13") => `(tactic| fail)
local macro_rules | `(tactic| walk_at "pad 17 14") => `(tactic| fail)
theorem nat_and_split (k : Nat) {a b p q : Nat} (ha : a < 2 ^ k) (hb : b < 2 ^ k) : (2 ^ k * p + a) &&& (2 ^ k * q + b) = 2 ^ k * (p &&& q) + (a &&& b) := by
  have h1 : ((2 ^ k * p + a) &&& (2 ^ k * q + b)) / 2 ^ k = p &&& q := by
    rw [← Nat.shiftRight_eq_div_pow, Nat.shiftRight_and_distrib, Nat.shiftRight_eq_div_pow, Nat.shiftRight_eq_div_pow, Nat.mul_add_div (Nat.two_pow_pos k), Nat.mul_add_div (Nat.two_pow_pos k), Nat.div_eq_of_lt ha, Nat.div_eq_of_lt hb, Nat.add_zero, Nat.add_zero]
  have h2 : ((2 ^ k * p + a) &&& (2 ^ k * q + b)) % 2 ^ k = a &&& b := by
    rw [Nat.and_mod_two_pow, Nat.mul_add_mod, Nat.mul_add_mod, Nat.mod_eq_of_lt ha, Nat.mod_eq_of_lt hb]
  have h3 := Nat.div_add_mod ((2 ^ k * p + a) &&& (2 ^ k * q + b)) (2 ^ k)
  rw [h1, h2] at h3
  exact h3.symm
theorem xor_one (a b : Nat) : a % 2 + b % 2 = (a % 2 ^^^ b % 2) + 2 * (a % 2 &&& b % 2) := by
  rcases Nat.mod_two_eq_zero_or_one a with h | h <;> rcases Nat.mod_two_eq_zero_or_one b with h' | h' <;> rw [h, h'] <;> rfl
theorem nat_join {a b x y : Nat} (h1 : a / 2 + b / 2 = x / 2 + 2 * (y / 2)) (h2 : a % 2 + b % 2 = x % 2 + 2 * (y % 2)) : a + b = x + 2 * y := by omega
theorem nat_xor_and : ∀ (k : Nat) {a b : Nat}, a < 2 ^ k → a + b = (a ^^^ b) + 2 * (a &&& b)
  | 0, a, b, ha => by
    have : a = 0 := Nat.lt_one_iff.mp ha
    subst this
    rw [Nat.zero_add, Nat.zero_xor, Nat.zero_and, Nat.mul_zero, Nat.add_zero]
  | k + 1, a, b, ha => by
    have h3 := nat_xor_and k (a := a / 2) (b := b / 2) (Nat.div_lt_of_lt_mul (by rw [Nat.mul_comm]; exact ha))
    have h4 := xor_one a b
    rw [← Nat.xor_div_two, ← Nat.and_div_two] at h3
    rw [← Nat.xor_mod_two_pow (n := 1), ← Nat.and_mod_two_pow (n := 1)] at h4
    exact nat_join h3 h4
theorem bitXor_nn {x y : Nat} (hx : x < 256) : Builtin.bitXor (x : Int) (y : Int) = ((x ^^^ y : Nat) : Int) := by
  rw [bitXor_and, bitAnd_pp (Int.natCast_nonneg _) (Int.natCast_nonneg _)]
  have h := nat_xor_and 8 (b := y) hx
  show (x : Int) + (y : Int) - 2 * ((x &&& y : Nat) : Int) = _
  generalize x &&& y = u at *
  generalize x ^^^ y = v at *
  omega
theorem oct {x : Int} (h0 : 0 ≤ x) (h1 : x < 256) : ∃ X : Nat, X < 256 ∧ x = X := ⟨x.toNat, by omega, by omega⟩
theorem top_and (x y : Nat) : (x &&& y) / 128 = x / 128 &&& y / 128 := by
  have h := Nat.shiftRight_and_distrib (a := x) (b := y) (i := 7)
  rw [Nat.shiftRight_eq_div_pow, Nat.shiftRight_eq_div_pow, Nat.shiftRight_eq_div_pow] at h
  exact h
theorem top_xor (x y : Nat) : (x ^^^ y) / 128 = x / 128 ^^^ y / 128 := by
  have h := Nat.shiftRight_xor_distrib (a := x) (b := y) (i := 7)
  rw [Nat.shiftRight_eq_div_pow, Nat.shiftRight_eq_div_pow, Nat.shiftRight_eq_div_pow] at h
  exact h
/-- the product of two bits, told by what omega can read -/
def Pr (x y z : Int) : Prop := 0 ≤ z ∧ z ≤ x ∧ z ≤ y ∧ x + y - 1 ≤ z
theorem two_cases {p : Nat} (h : p < 2) : p = 0 ∨ p = 1 := by omega
theorem Pr_and {p q : Nat} (hp : p < 2) (hq : q < 2) : Pr p q ((p &&& q : Nat) : Int) := by
  unfold Pr
  rcases two_cases hp with rfl | rfl <;> rcases two_cases hq with rfl | rfl <;> decide
theorem Xr_xor {p q : Nat} (hp : p < 2) (hq : q < 2) : ((p ^^^ q : Nat) : Int) = ((p : Int) + q) % 2 := by
  rcases two_cases hp with rfl | rfl <;> rcases two_cases hq with rfl | rfl <;> rfl
theorem top_lt {x : Nat} (h : x < 256) : x / 128 < 2 := Nat.div_lt_of_lt_mul h
theorem and_top {x y : Int} (hx : 0 ≤ x) (hx1 : x < 256) (hy : 0 ≤ y) (hy1 : y < 256) : 0 ≤ Builtin.bitAnd x y ∧ Builtin.bitAnd x y < 256 ∧ Pr (x / 128) (y / 128) (Builtin.bitAnd x y / 128) := by
  obtain ⟨X, h1, rfl⟩ := oct hx hx1
  obtain ⟨Y, h2, rfl⟩ := oct hy hy1
  rw [bitAnd_pp hx hy]
  refine ⟨Int.natCast_nonneg _, Int.ofNat_lt.mpr (Nat.lt_of_le_of_lt Nat.and_le_left h1), ?_⟩
  have h := Pr_and (top_lt h1) (top_lt h2)
  rw [← top_and] at h
  exact h
theorem xor_top {x y : Int} (hx : 0 ≤ x) (hx1 : x < 256) (hy : 0 ≤ y) (hy1 : y < 256) : 0 ≤ Builtin.bitXor x y ∧ Builtin.bitXor x y < 256 ∧ Builtin.bitXor x y / 128 = (x / 128 + y / 128) % 2 := by
  obtain ⟨X, h1, rfl⟩ := oct hx hx1
  obtain ⟨Y, h2, rfl⟩ := oct hy hy1
  rw [bitXor_nn h1]
  refine ⟨Int.natCast_nonneg _, Int.ofNat_lt.mpr (Nat.xor_lt_two_pow (n := 8) h1 h2), ?_⟩
  have h := Xr_xor (top_lt h1) (top_lt h2)
  rw [← top_xor] at h
  exact h
theorem or_rng {x y : Int} (hx : 0 ≤ x) (hx1 : x < 256) (hy : 0 ≤ y) (hy1 : y < 256) : 0 ≤ Builtin.bitOr x y ∧ Builtin.bitOr x y < 256 := by
  obtain ⟨X, h1, rfl⟩ := oct hx hx1
  obtain ⟨Y, h2, rfl⟩ := oct hy hy1
  have e : Builtin.bitOr (X : Int) (Y : Int) = ((X ||| Y : Nat) : Int) := by
    have f : ∀ n : Nat, decide (0 ≤ Builtin.bitNot (n : Int)) = false := fun n => decide_eq_false (by unfold Builtin.bitNot; omega)
    have g : ∀ n : Nat, Builtin.bitNot (Builtin.bitNot (n : Int)) = n := fun n => by unfold Builtin.bitNot; omega
    unfold Builtin.bitOr Builtin.bitAnd
    rw [f, f]
    dsimp only
    rw [g, g, g]
    rfl
  rw [e]
  exact ⟨Int.natCast_nonneg _, Int.ofNat_lt.mpr (Nat.or_lt_two_pow (n := 8) h1 h2)⟩
end Mine

-- part P2
namespace Mine
open PySem PySem.W PyProof.Rows PySem.Spec PySem.Calls
local macro_rules | `(tactic| walk_at "pad 18 0") => `(tactic| fail)
theorem cnt_range (a : Int) (n : Nat) (j : Int) : ((rangeKs a n).count j : Int) = if a ≤ j ∧ j < a + n then 1 else 0 := by
  induction n with
  | zero =>
    rw [if_neg (by omega)]
    rfl
  | succ n ih =>
    have e : rangeKs a (n + 1) = rangeKs a n ++ [a + (n : Int)] := by
      unfold rangeKs
      rw [List.range_succ, List.map_append]
      rfl
    rw [e, List.count_append, List.count_singleton, Int.natCast_add, ih]
    by_cases h : a + (n : Int) = j
    · rw [if_neg (c := a ≤ j ∧ j < a + (n : Int)) (by omega), if_pos (c := (a + (n : Int) == j) = true) (by simpa using h), if_pos (by omega)]
      decide
    · rw [if_neg (c := (a + (n : Int) == j) = true) (by simpa using h)]
      by_cases h2 : a ≤ j ∧ j < a + (n : Int)
      · rw [if_pos h2, if_pos (by omega)]; decide
      · rw [if_neg h2, if_neg (by omega)]; decide
theorem fold_filt (p : Int → Bool) (l : List Int) : ∀ acc, l.foldl (fun l k => if p k = true then l ++ [k] else l) acc = acc ++ l.filter p := by
  induction l with
  | nil => intro acc; simp
  | cons a r ih =>
    intro acc
    rw [List.foldl_cons, ih, List.filter_cons]
    split <;> simp
theorem filt_is (p : Int → Bool) : filt p = (rangeKs 0 256).filter p := by
  unfold filt
  rw [fold_filt, List.nil_append]
theorem cnt_filt (p : Int → Bool) {j : Int} (h0 : 0 ≤ j) (h1 : j < 256) : ((filt p).count j : Int) = if p j = true then 1 else 0 := by
  rw [filt_is]
  by_cases h : p j = true
  · rw [List.count_filter h, cnt_range, if_pos h, if_pos (by omega)]
  · rw [if_neg h, List.count_eq_zero_of_not_mem (fun hm => h (List.mem_filter.mp hm).2)]
    rfl
theorem cnt_sel (p : Int → Bool) (ns : List Int) (n : Nat) (j : Nat) : ((sel p ns n).count (j : Int) : Int) = if j < n ∧ p (ns.getD j 0) = true then 1 else 0 := by
  induction n with
  | zero =>
    rw [if_neg (by omega)]
    rfl
  | succ n ih =>
    unfold sel
    by_cases hj : j = n
    · subst hj
      rw [if_neg (by omega)] at ih
      by_cases hp : p (ns.getD j 0) = true
      · rw [if_pos hp, if_pos ⟨by omega, hp⟩, List.count_append, List.count_singleton, Int.natCast_add, ih]
        simp
      · rw [if_neg hp, if_neg (fun h => hp h.2), ih]
    · have hne : ¬ (((n : Int) == (j : Int)) = true) := by
        simp only [beq_iff_eq]
        omega
      by_cases hp : p (ns.getD n 0) = true
      · rw [if_pos hp, List.count_append, List.count_singleton, if_neg hne, Nat.add_zero, ih]
        by_cases hq : j < n ∧ p (ns.getD j 0) = true
        · rw [if_pos hq, if_pos ⟨by omega, hq.2⟩]
        · rw [if_neg hq, if_neg (fun h => hq ⟨by omega, h.2⟩)]
      · rw [if_neg hp, ih]
        by_cases hq : j < n ∧ p (ns.getD j 0) = true
        · rw [if_pos hq, if_pos ⟨by omega, hq.2⟩]
        · rw [if_neg hq, if_neg (fun h => hq ⟨by omega, h.2⟩)]
theorem getD_set {w : List Int} {k j : Nat} {v : Int} (hj : j < w.length) : (w.set k v).getD j 0 = if k = j then v else w.getD j 0 := by
  simp only [List.getD_eq_getElem?_getD, List.getElem?_set]
  by_cases h : k = j
  · subst h; simp [hj]
  · simp [h]
theorem bump_getD (spot : Int) (pre : List Int) : ∀ (w : List Int) (j : Nat), InB pre → j < w.length → (bump spot w pre).getD j 0 = w.getD j 0 + 2 ^ spot.toNat * (pre.count (j : Int) : Int) := by
  induction pre with
  | nil => intro w j _ _; simp [bump]
  | cons a r ih =>
    intro w j hb hj
    have e : bump spot w (a :: r) = bump spot (w.set a.toNat (w.getD a.toNat 0 + 2 ^ spot.toNat)) r := rfl
    have ha := hb a List.mem_cons_self
    rw [e, ih _ j (fun n hn => hb n (List.mem_cons_of_mem _ hn)) (by rw [List.length_set]; exact hj), getD_set hj, List.count_cons]
    by_cases h : a.toNat = j
    · have h2 : (a == (j : Int)) = true := by simp only [beq_iff_eq]; omega
      rw [if_pos h, if_pos h2, h, Int.natCast_add, Int.mul_add]
      simp only [Int.natCast_one, Int.mul_one]
      omega
    · have h2 : ¬ (a == (j : Int)) = true := by simp only [beq_iff_eq]; omega
      rw [if_neg h, if_neg h2, Nat.add_zero]
theorem par_bit (x : Int) : 0 ≤ par x ∧ par x < 2 := by unfold par; omega
theorem zfl_bit (x : Int) : 0 ≤ zfl x ∧ zfl x < 2 := by unfold zfl; split <;> omega
theorem mod2 (x : Int) : 0 ≤ x % 2 ∧ x % 2 < 2 := by omega
theorem ite2 {p : Prop} [Decidable p] : 0 ≤ (if p then (1 : Int) else 0) ∧ (if p then (1 : Int) else 0) < 2 := by split <;> omega
theorem p8 : ((2 : Int) ^ Int.toNat 8) = 256 := by decide
theorem p4 : ((2 : Int) ^ Int.toNat 4) = 16 := by decide
theorem cfA {j x c : Int} (j0 : 0 ≤ j) (j1 : j < 256) (x0 : 0 ≤ x) (x1 : x < 256) (c0 : 0 ≤ c) (c1 : c < 2) : (j % 256 + x % 256 + c).fdiv (2 ^ Int.toNat 8) = if 256 - (x + c) ≤ j then 1 else 0 := by
  rw [p8, Int.fdiv_eq_ediv_of_nonneg _ (by decide)]
  split <;> omega
theorem afA {j x c : Int} (c0 : 0 ≤ c) (c1 : c < 2) : (Builtin.bitAnd (j % 256) 15 + Builtin.bitAnd (x % 256) 15 + c).fdiv (2 ^ Int.toNat 4) = if 16 - (x.fmod 16 + c) ≤ j.fmod 16 then 1 else 0 := by
  rw [p4, Int.fdiv_eq_ediv_of_nonneg _ (by decide), bitAnd_m4, bitAnd_m4, Int.fmod_eq_emod_of_nonneg _ (by decide), Int.fmod_eq_emod_of_nonneg _ (by decide)]
  split <;> omega
theorem afS {j x c : Int} (c0 : 0 ≤ c) (c1 : c < 2) : (if Builtin.bitAnd (j % 256) 15 - Builtin.bitAnd (x % 256) 15 - c < 0 then (1 : Int) else 0) = if j.fmod 16 < x.fmod 16 + c then 1 else 0 := by
  rw [bitAnd_m4, bitAnd_m4, Int.fmod_eq_emod_of_nonneg _ (by decide), Int.fmod_eq_emod_of_nonneg _ (by decide)]
  split <;> split <;> omega
theorem cfS {j x c : Int} (j0 : 0 ≤ j) (j1 : j < 256) (x0 : 0 ≤ x) (x1 : x < 256) : (if j % 256 - x % 256 - c < 0 then (1 : Int) else 0) = if j < x + c then 1 else 0 := by
  split <;> split <;> omega
theorem ofl_is {p q : Int} (p0 : 0 ≤ p) (p1 : p < 256) (q0 : 0 ≤ q) (q1 : q < 256) : Pr (p / 128) (q / 128) (ofl p q) := by
  obtain ⟨h1, h2, h3⟩ := and_top p0 p1 q0 q1
  have e : ofl p q = Builtin.bitAnd p q / 128 := by unfold ofl; omega
  rw [e]
  exact h3
theorem ofl_bit {p q : Int} : 0 ≤ ofl p q ∧ ofl p q < 2 := by unfold ofl; omega
theorem aadd_rng (x y c : Int) : 0 ≤ aadd x y c ∧ aadd x y c < 256 := by unfold aadd; omega
theorem asub_rng (x y c : Int) : 0 ≤ asub x y c ∧ asub x y c < 256 := by unfold asub; omega
theorem z_bit : (0 : Int) ≤ 0 ∧ (0 : Int) < 2 := by decide
theorem bits_cflags {i : Nat} {x y c d : Int} (hi : i < 9) (x0 : 0 ≤ x) (x1 : x < 256) (y0 : 0 ≤ y) (y1 : y < 256) (c0 : 0 ≤ c) (c1 : c < 2) (d0 : 0 ≤ d) (d1 : d < 2) : Bits (cflags i x y c d) := by
  have A : ∀ c : Int, 0 ≤ c → c < 2 → Bits (fadd x y c d) := fun c c0 c1 => ⟨by show 0 ≤ (x % 256 + y % 256 + c).fdiv (2 ^ Int.toNat 8) ∧ (x % 256 + y % 256 + c).fdiv (2 ^ Int.toNat 8) < 2; rw [cfA x0 x1 y0 y1 c0 c1]; exact ite2, par_bit _, by show 0 ≤ (Builtin.bitAnd (x % 256) 15 + Builtin.bitAnd (y % 256) 15 + c).fdiv (2 ^ Int.toNat 4) ∧ (Builtin.bitAnd (x % 256) 15 + Builtin.bitAnd (y % 256) 15 + c).fdiv (2 ^ Int.toNat 4) < 2; rw [afA c0 c1]; exact ite2, zfl_bit _, mod2 _, ofl_bit, d0, d1⟩
  have S : ∀ c : Int, Bits (fsub x y c d) := fun c => ⟨ite2, par_bit _, ite2, zfl_bit _, mod2 _, ofl_bit, d0, d1⟩
  have G : ∀ r : Int, Bits (flog r d) := fun r => ⟨z_bit, par_bit _, z_bit, zfl_bit _, mod2 _, z_bit, d0, d1⟩
  match i, hi with
  | 0, _ => exact A 0 (by decide) (by decide)
  | 1, _ => exact A c c0 c1
  | 2, _ => exact S 0
  | 3, _ => exact S c
  | 4, _ => exact S 0
  | 5, _ => exact G _
  | 6, _ => exact G _
  | 7, _ => exact G _
  | 8, _ => exact G _
theorem ofA {j x c : Int} (j0 : 0 ≤ j) (j1 : j < 256) (x0 : 0 ≤ x) (x1 : x < 256) (c0 : 0 ≤ c) (c1 : c < 2) : ofl (Builtin.bitXor (j % 256) (aadd j x c)) (Builtin.bitXor (x % 256) (aadd j x c)) = ((ovrA x c).count j : Int) := by
  obtain ⟨r0, r1⟩ := aadd_rng j x c
  have e1 : j % 256 = j := by omega
  have e2 : x % 256 = x := by omega
  have er : aadd j x c = (j + x + c) % 256 := by unfold aadd; rw [e1, e2]
  rw [e1, e2]
  obtain ⟨a0, a1, a2⟩ := xor_top j0 j1 r0 r1
  obtain ⟨b0, b1, b2⟩ := xor_top x0 x1 r0 r1
  have h := ofl_is a0 a1 b0 b1
  rw [a2, b2, er] at h
  rw [er]
  generalize ofl (Builtin.bitXor j ((j + x + c) % 256)) (Builtin.bitXor x ((j + x + c) % 256)) = z at *
  unfold Pr at h
  unfold ovrA near
  split <;> split <;> rw [cnt_range] <;> split <;> omega
theorem ofS {j x c : Int} (j0 : 0 ≤ j) (j1 : j < 256) (x0 : 0 ≤ x) (x1 : x < 256) (c0 : 0 ≤ c) (c1 : c < 2) : ofl (Builtin.bitXor (j % 256) (x % 256)) (Builtin.bitXor (j % 256) (asub j x c)) = ((ovrS x c).count j : Int) := by
  obtain ⟨r0, r1⟩ := asub_rng j x c
  have e1 : j % 256 = j := by omega
  have e2 : x % 256 = x := by omega
  have er : asub j x c = (j - x - c) % 256 := by unfold asub; rw [e1, e2]
  rw [e1, e2]
  obtain ⟨a0, a1, a2⟩ := xor_top j0 j1 x0 x1
  obtain ⟨b0, b1, b2⟩ := xor_top j0 j1 r0 r1
  have h := ofl_is a0 a1 b0 b1
  rw [a2, b2, er] at h
  rw [er]
  generalize ofl (Builtin.bitXor j x) (Builtin.bitXor j ((j - x - c) % 256)) = z at *
  unfold Pr at h
  unfold ovrS near
  split <;> split <;> rw [cnt_range] <;> split <;> omega
end Mine

-- part P3
namespace Mine
open PySem PySem.W PyProof.Rows PySem.Spec PySem.Calls
local macro_rules | `(tactic| walk_at "pad 19 0") => `(tactic| fail)
local macro_rules | `(tactic| walk_at "pad 19 1") => `(tactic| fail)
local macro_rules | `(tactic| walk_at "pad 19 2") => `(tactic| fail)
local macro_rules | `(tactic| walk_at "pad 19 3") => `(tactic| fail)
local macro_rules | `(tactic| walk_at "pad 19 4") => `(tactic| fail)
local macro_rules | `(tactic| walk_at "pad 19 5") => `(tactic| fail)
local macro_rules | `(tactic| walk_at "pad 19 6") => `(tactic| fail)
local macro_rules | `(tactic| walk_at "pad 19 7") => `(tactic| fail)
theorem ext_getD {l1 l2 : List Int} (h : l1.length = l2.length) (e : ∀ j, j < l1.length → l1.getD j 0 = l2.getD j 0) : l1 = l2 := by
  refine List.ext_getElem h fun j h1 h2 => ?_
  have := e j h1
  simpa [List.getD_eq_getElem?_getD, h1, h2] using this
theorem range_getD (a : Int) (n j : Nat) (h : j < n) : (rangeKs a n).getD j 0 = a + j := by
  simp [rangeKs, List.getD_eq_getElem?_getD, h]
theorem app_getD (l1 l2 : List Int) (j : Nat) : (l1 ++ l2).getD j 0 = if j < l1.length then l1.getD j 0 else l2.getD (j - l1.length) 0 := by
  simp only [List.getD_eq_getElem?_getD, List.getElem?_append]
  split <;> rfl
theorem map_getD {l : List Int} (f : Int → Int) {j : Nat} (h : j < l.length) : (l.map f).getD j 0 = f (l.getD j 0) := by
  simp [List.getD_eq_getElem?_getD, h]
theorem dbl_len (x : Int) (tb : List Int) : ∀ k, (dbl x tb k).length = 2 ^ k
  | 0 => rfl
  | k + 1 => by rw [dbl, List.length_append, List.length_map, List.length_map, dbl_len x tb k, Nat.pow_succ]; omega
theorem dbl_val (X : Nat) (tb : List Int) (F : Nat → Nat → Int) (F0 : F 0 0 = 0) (hF : ∀ (k a b l r : Nat), a < 2 ^ k → b < 2 ^ k → l < 2 → r < 2 → F (2 ^ k * l + a) (2 ^ k * r + b) = F a b + tb.getD (2 * l + r) 0 * (2 ^ k : Int)) :
    ∀ (k j : Nat), j < 2 ^ k → (dbl (X : Int) tb k).getD j 0 = F j (X % 2 ^ k) := by
  intro k
  induction k with
  | zero =>
    intro j hj
    have : j = 0 := by omega
    subst this
    rw [Nat.pow_zero, Nat.mod_one, F0]
    rfl
  | succ k ih =>
    intro j hj
    have hk : (k : Int).toNat = k := by omega
    have hp : (2 : Int) ^ k = ((2 ^ k : Nat) : Int) := by simp
    have hr : (((X : Int).fdiv (2 ^ k)).fmod 2) = ((X / 2 ^ k % 2 : Nat) : Int) := by
      rw [hp, Int.fdiv_eq_ediv_of_nonneg _ (by omega), Int.fmod_eq_emod_of_nonneg _ (by decide)]
      rfl
    have hr2 : X / 2 ^ k % 2 < 2 := Nat.mod_lt _ (by decide)
    have hm : X % 2 ^ (k + 1) = 2 ^ k * (X / 2 ^ k % 2) + X % 2 ^ k := by rw [Nat.mod_pow_succ, Nat.add_comm]
    have hb : X % 2 ^ k < 2 ^ k := Nat.mod_lt _ (Nat.two_pow_pos k)
    have h2 : 2 ^ (k + 1) = 2 ^ k + 2 ^ k := by rw [Nat.pow_succ]; omega
    rw [dbl, hk, hr, app_getD, List.length_map, dbl_len, hm]
    generalize X / 2 ^ k % 2 = r at *
    by_cases hj2 : j < 2 ^ k
    · have h := hF k j (X % 2 ^ k) 0 r hj2 hb (by decide) hr2
      rw [if_pos hj2, map_getD _ (by rw [dbl_len]; exact hj2), ih j hj2]
      rw [Nat.mul_zero, Nat.zero_add, Nat.mul_zero, Nat.zero_add] at h
      rw [h]
      rfl
    · have hj3 : j - 2 ^ k < 2 ^ k := by omega
      have h := hF k (j - 2 ^ k) (X % 2 ^ k) 1 r hj3 hb (by decide) hr2
      rw [if_neg hj2, map_getD _ (by rw [dbl_len]; exact hj3), ih _ hj3]
      have e : 2 ^ k * 1 + (j - 2 ^ k) = j := by omega
      have e2 : (2 + (r : Int)).toNat = 2 * 1 + r := by omega
      rw [e] at h
      rw [h, e2]
theorem bit2 {l : Nat} (h : l < 2) : l = 0 ∨ l = 1 := by omega
theorem val_and (X j : Nat) (hj : j < 256) (hX : X < 256) : (dbl (X : Int) [0, 0, 0, 1] 8).getD j 0 = Builtin.bitAnd j X := by
  rw [dbl_val X _ (fun a b => ((a &&& b : Nat) : Int)) rfl ?_ 8 j hj, bitAnd_pp (by omega) (by omega)]
  · have e : X % 2 ^ 8 = X := Nat.mod_eq_of_lt hX
    simp only [e, Int.toNat_natCast]
  · intro k a b l r ha hb hl hr
    show (((2 ^ k * l + a) &&& (2 ^ k * r + b) : Nat) : Int) = ((a &&& b : Nat) : Int) + _
    rw [nat_and_split k ha hb]
    have hp : (2 : Int) ^ k = ((2 ^ k : Nat) : Int) := by simp
    rw [hp]
    generalize 2 ^ k = P
    rcases bit2 hl with rfl | rfl <;> rcases bit2 hr with rfl | rfl <;> simp <;> omega
theorem val_or (X j : Nat) (hj : j < 256) (hX : X < 256) : (dbl (X : Int) [0, 1, 1, 1] 8).getD j 0 = Builtin.bitOr j X := by
  rw [dbl_val X _ (fun a b => (a : Int) + b - ((a &&& b : Nat) : Int)) rfl ?_ 8 j hj, bitOr_and, bitAnd_pp (by omega) (by omega)]
  · have e : X % 2 ^ 8 = X := Nat.mod_eq_of_lt hX
    simp only [e, Int.toNat_natCast]
  · intro k a b l r ha hb hl hr
    show ((2 ^ k * l + a : Nat) : Int) + ((2 ^ k * r + b : Nat) : Int) - (((2 ^ k * l + a) &&& (2 ^ k * r + b) : Nat) : Int) = (a : Int) + b - ((a &&& b : Nat) : Int) + _
    rw [nat_and_split k ha hb]
    have hp : (2 : Int) ^ k = ((2 ^ k : Nat) : Int) := by simp
    rw [hp]
    generalize 2 ^ k = P
    rcases bit2 hl with rfl | rfl <;> rcases bit2 hr with rfl | rfl <;> simp <;> omega
theorem val_xor (X j : Nat) (hj : j < 256) (hX : X < 256) : (dbl (X : Int) [0, 1, 1, 0] 8).getD j 0 = Builtin.bitXor j X := by
  rw [dbl_val X _ (fun a b => (a : Int) + b - 2 * ((a &&& b : Nat) : Int)) rfl ?_ 8 j hj, bitXor_and, bitAnd_pp (by omega) (by omega)]
  · have e : X % 2 ^ 8 = X := Nat.mod_eq_of_lt hX
    simp only [e, Int.toNat_natCast]
  · intro k a b l r ha hb hl hr
    show ((2 ^ k * l + a : Nat) : Int) + ((2 ^ k * r + b : Nat) : Int) - 2 * (((2 ^ k * l + a) &&& (2 ^ k * r + b) : Nat) : Int) = (a : Int) + b - 2 * ((a &&& b : Nat) : Int) + _
    rw [nat_and_split k ha hb]
    have hp : (2 : Int) ^ k = ((2 ^ k : Nat) : Int) := by simp
    rw [hp]
    generalize 2 ^ k = P
    rcases bit2 hl with rfl | rfl <;> rcases bit2 hr with rfl | rfl <;> simp <;> omega
theorem fm256 (s : Int) : s.fmod 256 = s % 256 := Int.fmod_eq_emod_of_nonneg _ (by decide)
theorem turned_len (s : Int) : (turnedL s).length = 256 := by
  unfold turnedL
  rw [fm256, List.length_append, rangeKs_length, rangeKs_length]
  omega
theorem turned_getD (s : Int) (j : Nat) (hj : j < 256) : (turnedL s).getD j 0 = (s + j) % 256 := by
  unfold turnedL
  rw [fm256, app_getD, rangeKs_length]
  split
  · rw [range_getD _ _ _ (by omega)]
    omega
  · rw [range_getD _ _ _ (by omega)]
    omega
/-- the carry that the deed takes in -/
def taken (i : Nat) (c : Int) : Int := if i = 1 ∨ i = 3 then c else 0
theorem res_len (i : Nat) (x c : Int) : (resL i x c).length = 256 := by
  unfold resL
  split
  · exact turned_len _
  · split
    · exact turned_len _
    · exact dbl_len _ _ 8
theorem turned_add {x c : Int} {j : Nat} (hj : j < 256) : (turnedL (x + c)).getD j 0 = aadd j x c := by
  rw [turned_getD _ _ hj]; unfold aadd; omega
theorem turned_sub {x c : Int} {j : Nat} (hj : j < 256) : (turnedL (0 - x - c)).getD j 0 = asub j x c := by
  rw [turned_getD _ _ hj]; unfold asub; omega
theorem oct_mod {x y : Int} (e : x = y) (h0 : 0 ≤ y) (h1 : y < 256) : x = y % 256 := e.trans (Int.emod_eq_of_lt h0 h1).symm
theorem res_val {i : Nat} {x c : Int} (hi : i < 9) (x0 : 0 ≤ x) (x1 : x < 256) (j : Nat) (hj : j < 256) : (resL i x (taken i c)).getD j 0 = cres i j x c := by
  obtain ⟨X, hX, rfl⟩ := oct x0 x1
  have j0 : (0 : Int) ≤ j := Int.natCast_nonneg _
  have j1 : (j : Int) < 256 := Int.ofNat_lt.mpr hj
  have hn := and_top j0 j1 x0 x1
  have ho := or_rng j0 j1 x0 x1
  have hx := xor_top j0 j1 x0 x1
  match i, hi with
  | 0, _ => exact turned_add hj
  | 1, _ => exact turned_add hj
  | 2, _ => exact turned_sub hj
  | 3, _ => exact turned_sub hj
  | 4, _ => exact turned_sub hj
  | 5, _ => exact oct_mod (val_and X j hj hX) hn.1 hn.2.1
  | 6, _ => exact oct_mod (val_or X j hj hX) ho.1 ho.2
  | 7, _ => exact oct_mod (val_xor X j hj hX) hx.1 hx.2.1
  | 8, _ => exact oct_mod (val_and X j hj hX) hn.1 hn.2.1
theorem cres_rng {i : Nat} {x y c : Int} (hi : i < 9) : 0 ≤ cres i x y c ∧ cres i x y c < 256 := by
  have M : ∀ z : Int, 0 ≤ z % 256 ∧ z % 256 < 256 := fun z => by omega
  match i, hi with
  | 0, _ => exact aadd_rng _ _ _
  | 1, _ => exact aadd_rng _ _ _
  | 2, _ => exact asub_rng _ _ _
  | 3, _ => exact asub_rng _ _ _
  | 4, _ => exact asub_rng _ _ _
  | 5, _ => exact M _
  | 6, _ => exact M _
  | 7, _ => exact M _
  | 8, _ => exact M _
theorem turned_bnd {s n : Int} (h : n ∈ turnedL s) : 0 ≤ n ∧ n < 256 := by
  unfold turnedL at h
  rw [fm256] at h
  rcases List.mem_append.mp h with h | h
  · have := mem_rangeKs h; omega
  · have := mem_rangeKs h; omega
theorem res_eq {i : Nat} {x c : Int} (hi : i < 9) (x0 : 0 ≤ x) (x1 : x < 256) : (rangeKs 0 256).map (fun l => cres i l x c) = resL i x (taken i c) := by
  refine ext_getD (by rw [List.length_map, rangeKs_length, res_len]) fun j hj => ?_
  rw [List.length_map, rangeKs_length] at hj
  rw [map_getD _ (by rw [rangeKs_length]; exact hj), range_getD _ _ _ hj, res_val hi x0 x1 j hj, Int.zero_add]
/-- whatever carry is told, the results are octets -/
theorem res_bnd {i : Nat} {x c n : Int} (hi : i < 9) (x0 : 0 ≤ x) (x1 : x < 256) (h : n ∈ resL i x c) : 0 ≤ n ∧ n < 256 := by
  by_cases h5 : i < 5
  · unfold resL at h
    split at h
    · exact turned_bnd h
    · exact turned_bnd h
  · have e : resL i x c = resL i x (taken i c) := by
      unfold resL
      rw [if_neg (by omega), if_neg (by omega), if_neg (by omega), if_neg (by omega)]
    rw [e, ← res_eq hi x0 x1] at h
    obtain ⟨l, _, rfl⟩ := List.mem_map.mp h
    exact cres_rng hi
end Mine

-- part P4
namespace Mine
open PySem PySem.W PyProof.Rows PySem.Spec PySem.Calls
local macro_rules | `(tactic| walk_at "pad 20 0") => `(tactic| fail)
local macro_rules | `(tactic| walk_at "pad 20 1") => `(tactic| fail)
local macro_rules | `(tactic| walk_at "pad 20 2") => `(tactic| fail)
local macro_rules | `(tactic| walk_at "pad 20 3") => `(tactic| fail)
local macro_rules | `(tactic| walk_at "pad 20 4") => `(tactic| fail)
local macro_rules | `(tactic| walk_at "pad 20 5") => `(tactic| fail)
local macro_rules | `(tactic| walk_at "pad 20 6") => `(tactic| fail)
local macro_rules | `(tactic| walk_at "pad 20 7") => `(tactic| fail)
local macro_rules | `(tactic| walk_at "pad 20 8") => `(tactic| fail)
local macro_rules | `(tactic| walk_at "pad 20 9") => `(tactic| fail)
local macro_rules | `(tactic| walk_at "pad 20 10") => `(tactic| fail)
local macro_rules | `(tactic| walk_at "pad 20 11") => `(tactic| fail)
local macro_rules | `(tactic| walk_at "pad 20 12") => `(tactic| fail)
local macro_rules | `(tactic| walk_at "pad 20 13") => `(tactic| fail)
local macro_rules | `(tactic| walk_at "pad 20 14") => `(tactic| fail)
def fcar (i : Nat) (x c way : Int) (l : Int) : Int := pk (cflags i l x c way)
theorem ones_pop : ∀ n : Fin 256, (onesL 8).getD n.val 0 = pop (n.val : Int) := by decide +kernel
theorem par_ones {r : Int} (r0 : 0 ≤ r) (r1 : r < 256) : par r = if ((onesL 8).getD r.toNat 0).fmod 2 = 0 then 1 else 0 := by
  have h := ones_pop ⟨r.toNat, by omega⟩
  have e : ((r.toNat : Nat) : Int) = r := by omega
  rw [show (onesL 8).getD r.toNat 0 = pop r from by rw [← e] at *; exact h, Int.fmod_eq_emod_of_nonneg _ (by decide)]
  unfold par
  split <;> omega
theorem top_ind {r : Int} (r0 : 0 ≤ r) (r1 : r < 256) : r / 128 % 2 = if 127 < r then 1 else 0 := by split <;> omega
theorem rep_getD (a : Int) (j : Nat) (hj : j < 256) : ((List.replicate (Int.toNat 256) [a]).flatten).getD j 0 = a := by
  rw [List.flatten_replicate_singleton, List.getD_eq_getElem?_getD, List.getElem?_replicate, if_pos (show j < Int.toNat 256 from hj)]
  rfl
theorem rep_len (a : Int) : ((List.replicate (Int.toNat 256) [a]).flatten).length = 256 := by
  rw [List.flatten_replicate_singleton, List.length_replicate]; rfl
theorem inB_range {a : Int} {n : Nat} (h0 : 0 ≤ a) (h1 : a + n ≤ 256) : InB (rangeKs a n) := fun k hk => by
  have := mem_rangeKs hk
  omega
theorem inB_filt (p : Int → Bool) : InB (filt p) := fun k hk => by
  rw [filt_is] at hk
  have := mem_rangeKs (List.mem_filter.mp hk).1
  omega
theorem inB_sel (p : Int → Bool) (ns : List Int) : ∀ n, n ≤ 256 → InB (sel p ns n)
  | 0, _ => fun k hk => by cases hk
  | n + 1, h => fun k hk => by
    unfold sel at hk
    split at hk
    · rcases List.mem_append.mp hk with hk | hk
      · exact inB_sel p ns n (by omega) k hk
      · rw [List.mem_singleton.mp hk]; omega
    · exact inB_sel p ns n (by omega) k hk
theorem inB_nil : InB [] := fun _ h => by cases h
theorem near_rng {x : Int} (h0 : 0 ≤ x) (h1 : x < 256) : -128 ≤ near x ∧ near x ≤ 127 := by unfold near; split <;> omega
theorem inB_car {i : Nat} {x c : Int} (x0 : 0 ≤ x) (x1 : x < 256) (c0 : 0 ≤ c) (c1 : c < 2) : InB (carL i x c) := by
  unfold carL
  split
  · by_cases h : x + c ≤ 256
    · exact inB_range (by omega) (by omega)
    · omega
  · split
    · exact inB_range (by omega) (by omega)
    · exact inB_nil
theorem inB_haf {i : Nat} {x c : Int} : InB (hafL i x c) := by
  unfold hafL
  split
  · exact inB_filt _
  · split
    · exact inB_filt _
    · exact inB_nil
theorem inB_ovr {i : Nat} {x c : Int} (x0 : 0 ≤ x) (x1 : x < 256) (c0 : 0 ≤ c) (c1 : c < 2) : InB (ovrL i x c) := by
  have := near_rng x0 x1
  unfold ovrL
  split
  · unfold ovrA
    split
    · exact inB_range (by omega) (by omega)
    · exact inB_range (by omega) (by omega)
  · split
    · unfold ovrS
      split
      · exact inB_range (by omega) (by omega)
      · exact inB_range (by omega) (by omega)
    · exact inB_nil
theorem inB_ev {i : Nat} {x c : Int} : InB (evL i x c) := inB_sel _ _ _ (Nat.le_of_eq (res_len i x c))
theorem inB_nau {i : Nat} {x c : Int} : InB (nauL i x c) := inB_sel _ _ _ (Nat.le_of_eq (res_len i x c))
theorem inB_min {i : Nat} {x c : Int} : InB (minL i x c) := inB_sel _ _ _ (Nat.le_of_eq (res_len i x c))
theorem words_len (way : Int) (l0 l1 l2 l3 l4 l5 : List Int) : (wordsL way l0 l1 l2 l3 l4 l5).length = 256 := by
  unfold wordsL
  rw [bump_len, bump_len, bump_len, bump_len, bump_len, bump_len, rep_len]
theorem words_getD (way : Int) {l0 l1 l2 l3 l4 l5 : List Int} (b0 : InB l0) (b1 : InB l1) (b2 : InB l2) (b3 : InB l3) (b4 : InB l4) (b5 : InB l5) (j : Nat) (hj : j < 256) :
    (wordsL way l0 l1 l2 l3 l4 l5).getD j 0 = 2 + 1024 * way + (l0.count (j : Int) : Int) + 4 * (l1.count (j : Int) : Int) + 16 * (l2.count (j : Int) : Int) + 64 * (l3.count (j : Int) : Int) + 128 * (l4.count (j : Int) : Int) + 2048 * (l5.count (j : Int) : Int) := by
  unfold wordsL
  have q0 : (2 : Int) ^ Int.toNat 0 = 1 := by decide
  have q2 : (2 : Int) ^ Int.toNat 2 = 4 := by decide
  have q4 : (2 : Int) ^ Int.toNat 4 = 16 := by decide
  have q6 : (2 : Int) ^ Int.toNat 6 = 64 := by decide
  have q7 : (2 : Int) ^ Int.toNat 7 = 128 := by decide
  have q11 : (2 : Int) ^ Int.toNat 11 = 2048 := by decide
  rw [bump_getD _ _ _ _ b5 (by simp only [bump_len, rep_len]; exact hj), bump_getD _ _ _ _ b4 (by simp only [bump_len, rep_len]; exact hj), bump_getD _ _ _ _ b3 (by simp only [bump_len, rep_len]; exact hj), bump_getD _ _ _ _ b2 (by simp only [bump_len, rep_len]; exact hj), bump_getD _ _ _ _ b1 (by simp only [bump_len, rep_len]; exact hj), bump_getD _ _ _ _ b0 (by simp only [rep_len]; exact hj), rep_getD _ _ hj, q0, q2, q4, q6, q7, q11]
  omega
theorem cnt_ev {i : Nat} {x c : Int} (hi : i < 9) (x0 : 0 ≤ x) (x1 : x < 256) (j : Nat) (hj : j < 256) : ((evL i x (taken i c)).count (j : Int) : Int) = par (cres i j x c) := by
  have hr := cres_rng (x := (j : Int)) (y := x) (c := c) hi
  unfold evL
  rw [cnt_sel, res_len, res_val hi x0 x1 j hj, par_ones hr.1 hr.2]
  by_cases h : ((onesL 8).getD (cres i (↑j) x c).toNat 0).fmod 2 = 0
  · rw [if_pos ⟨hj, decide_eq_true h⟩, if_pos h]
  · rw [if_neg (fun q => h (of_decide_eq_true q.2)), if_neg h]
theorem cnt_nau {i : Nat} {x c : Int} (hi : i < 9) (x0 : 0 ≤ x) (x1 : x < 256) (j : Nat) (hj : j < 256) : ((nauL i x (taken i c)).count (j : Int) : Int) = zfl (cres i j x c) := by
  unfold nauL zfl
  rw [cnt_sel, res_len, res_val hi x0 x1 j hj]
  by_cases h : cres i (↑j) x c = 0
  · rw [if_pos ⟨hj, decide_eq_true h⟩, if_pos h]
  · rw [if_neg (fun q => h (of_decide_eq_true q.2)), if_neg h]
theorem cnt_min {i : Nat} {x c : Int} (hi : i < 9) (x0 : 0 ≤ x) (x1 : x < 256) (j : Nat) (hj : j < 256) : ((minL i x (taken i c)).count (j : Int) : Int) = cres i j x c / 128 % 2 := by
  have hr := cres_rng (x := (j : Int)) (y := x) (c := c) hi
  unfold minL
  rw [cnt_sel, res_len, res_val hi x0 x1 j hj, top_ind hr.1 hr.2]
  by_cases h : 127 < cres i (↑j) x c
  · rw [if_pos ⟨hj, decide_eq_true h⟩, if_pos h]
  · rw [if_neg (fun q => h (of_decide_eq_true q.2)), if_neg h]
theorem cnt_carA {x c : Int} (x0 : 0 ≤ x) (c0 : 0 ≤ c) (j : Nat) (hj : j < 256) : ((rangeKs (256 - (x + c)) (256 - (256 - (x + c))).toNat).count (j : Int) : Int) = if 256 - (x + c) ≤ (j : Int) then 1 else 0 := by
  rw [cnt_range]
  split <;> split <;> omega
theorem cnt_carS {x c : Int} (x0 : 0 ≤ x) (c0 : 0 ≤ c) (j : Nat) : ((rangeKs 0 (x + c - 0).toNat).count (j : Int) : Int) = if (j : Int) < x + c then 1 else 0 := by
  rw [cnt_range]
  split <;> split <;> omega
theorem cnt_hafA {x c : Int} (j : Nat) (hj : j < 256) : ((hafA x c).count (j : Int) : Int) = if 16 - (x.fmod 16 + c) ≤ (j : Int).fmod 16 then 1 else 0 := by
  unfold hafA
  rw [cnt_filt _ (by omega) (by omega)]
  simp only [decide_eq_true_eq]
theorem cnt_hafS {x c : Int} (j : Nat) (hj : j < 256) : ((hafS x c).count (j : Int) : Int) = if (j : Int).fmod 16 < x.fmod 16 + c then 1 else 0 := by
  unfold hafS
  rw [cnt_filt _ (by omega) (by omega)]
  simp only [decide_eq_true_eq]
/-- what the six lists say of one octet -/
def wordOf (way a0 a1 a2 a3 a4 a5 : Int) : Int := 2 + 1024 * way + a0 + 4 * a1 + 16 * a2 + 64 * a3 + 128 * a4 + 2048 * a5
theorem word_add {x c way : Int} (x0 : 0 ≤ x) (x1 : x < 256) (c0 : 0 ≤ c) (c1 : c < 2) (j : Nat) (hj : j < 256) :
    wordOf way ((rangeKs (256 - (x + c)) (256 - (256 - (x + c))).toNat).count (j : Int) : Int) (par (aadd j x c)) ((hafA x c).count (j : Int) : Int) (zfl (aadd j x c)) (aadd j x c / 128 % 2) ((ovrA x c).count (j : Int) : Int) = pk (fadd j x c way) := by
  rw [cnt_carA x0 c0 j hj, cnt_hafA j hj, ← cfA (j := (j : Int)) (by omega) (by omega) x0 x1 c0 c1, ← afA (j := (j : Int)) (x := x) c0 c1, ← ofA (j := (j : Int)) (by omega) (by omega) x0 x1 c0 c1]
  unfold wordOf pk fadd
  dsimp only
  omega
theorem word_sub {x c way : Int} (x0 : 0 ≤ x) (x1 : x < 256) (c0 : 0 ≤ c) (c1 : c < 2) (j : Nat) (hj : j < 256) :
    wordOf way ((rangeKs 0 (x + c - 0).toNat).count (j : Int) : Int) (par (asub j x c)) ((hafS x c).count (j : Int) : Int) (zfl (asub j x c)) (asub j x c / 128 % 2) ((ovrS x c).count (j : Int) : Int) = pk (fsub j x c way) := by
  rw [cnt_carS x0 c0 j, cnt_hafS j hj, ← cfS (j := (j : Int)) (by omega) (by omega) x0 x1, ← afS (j := (j : Int)) (x := x) c0 c1, ← ofS (j := (j : Int)) (by omega) (by omega) x0 x1 c0 c1]
  unfold wordOf pk fsub
  dsimp only
  omega
theorem word_log (r way : Int) (j : Nat) : wordOf way (([] : List Int).count (j : Int) : Int) (par (r % 256)) (([] : List Int).count (j : Int) : Int) (zfl (r % 256)) (r % 256 / 128 % 2) (([] : List Int).count (j : Int) : Int) = pk (flog r way) := by
  unfold wordOf pk flog
  simp only [List.count_nil]
  omega
theorem word_val {i : Nat} {x c way : Int} (hi : i < 9) (x0 : 0 ≤ x) (x1 : x < 256) (c0 : 0 ≤ c) (c1 : c < 2) (j : Nat) (hj : j < 256) :
    wordOf way ((carL i x (taken i c)).count (j : Int) : Int) (par (cres i j x c)) ((hafL i x (taken i c)).count (j : Int) : Int) (zfl (cres i j x c)) (cres i j x c / 128 % 2) ((ovrL i x (taken i c)).count (j : Int) : Int) = fcar i x c way j := by
  match i, hi with
  | 0, _ => exact word_add (c := 0) x0 x1 (by decide) (by decide) j hj
  | 1, _ => exact word_add x0 x1 c0 c1 j hj
  | 2, _ => exact word_sub (c := 0) x0 x1 (by decide) (by decide) j hj
  | 3, _ => exact word_sub x0 x1 c0 c1 j hj
  | 4, _ => exact word_sub (c := 0) x0 x1 (by decide) (by decide) j hj
  | 5, _ => exact word_log _ way j
  | 6, _ => exact word_log _ way j
  | 7, _ => exact word_log _ way j
  | 8, _ => exact word_log _ way j
theorem taken_rng {i : Nat} {c : Int} (c0 : 0 ≤ c) (c1 : c < 2) : 0 ≤ taken i c ∧ taken i c < 2 := by unfold taken; split <;> omega
theorem words_eq {i : Nat} {x c way : Int} (hi : i < 9) (x0 : 0 ≤ x) (x1 : x < 256) (c0 : 0 ≤ c) (c1 : c < 2) :
    (rangeKs 0 256).map (fcar i x c way) = wordsL way (carL i x (taken i c)) (evL i x (taken i c)) (hafL i x (taken i c)) (nauL i x (taken i c)) (minL i x (taken i c)) (ovrL i x (taken i c)) := by
  obtain ⟨t0, t1⟩ := taken_rng (i := i) c0 c1
  refine ext_getD (by rw [List.length_map, rangeKs_length, words_len]) fun j hj => ?_
  rw [List.length_map, rangeKs_length] at hj
  rw [map_getD _ (by rw [rangeKs_length]; exact hj), range_getD _ _ _ hj, Int.zero_add, words_getD way (inB_car x0 x1 t0 t1) inB_ev inB_haf inB_nau inB_min (inB_ovr x0 x1 t0 t1) j hj, cnt_ev hi x0 x1 j hj, cnt_nau hi x0 x1 j hj, cnt_min hi x0 x1 j hj, ← word_val hi x0 x1 c0 c1 j hj]
  rfl
end Mine

-- part B6
namespace Mine
open PySem PySem.W PyProof.Rows PySem.Spec PySem.Calls
local macro_rules | `(tactic| walk_at "pad 21 0") => `(tactic| fail)
theorem fill16 : (PySem.Challenge.rw_pb0417_01, kk) = (PySem.Challenge.rw_pb0417_01, kk) := by
  w_top off
  k_fill
  rfl
local macro_rules | `(tactic| walk_at "ctr sides") => `(tactic| ((case B => k_asm); (case F => k_asm); (case X => k_asm); (case N => k_asm); (case T => k_asm); (case hk => first | exact rfl | assumption); (case hd => ktr_room); (case hu => ktr_units)))
local macro_rules | `(tactic| walk_at "ctr list") => `(tactic| (intro v9 n9 h9 tk9 R9 F9 N9; (obtain ⟨b9, vs9, nn9, lv9, e9, l9, i9, z9, f9⟩ := R9; subst e9; subst f9); (try k_lt l9); (try dsimp only); (try k_fold)))
theorem res_bnd' {l : List Int} {i : Nat} {x c : Int} (hi : i < 9) (x0 : 0 ≤ x) (x1 : x < 256) (e : l = resL i x c) : ∀ n ∈ l, 0 ≤ n ∧ n < 256 := fun n h => res_bnd hi x0 x1 (e ▸ h)
theorem res_len' {l : List Int} {i : Nat} {x c : Int} (e : l = resL i x c) : l.length = 256 := by rw [e, res_len]
theorem ones_len : (onesL 8).length = 256 := by decide
theorem ones_len' {l : List Int} (e : l = onesL 8) : l.length = 256 := by rw [e, ones_len]
local macro_rules | `(tactic| walk_at "call ref") => `(tactic| (k_here; k_dflt (refine' ctr_use (c_results ?hi ?h0 ?h1) ?B ?F ?X ?N ?T ?hk ?hd ?hu ?_; walk_at "ctr sides"; (case hi => assumption); (case h0 => assumption); (case h1 => assumption)); walk_at "ctr list"))
local macro_rules | `(tactic| walk_at "call ref") => `(tactic| (k_here; k_dflt (refine' ctr_use c_ones8 ?B ?F ?X ?N ?T ?hk ?hd ?hu ?_; walk_at "ctr sides"); walk_at "ctr list"))
local macro_rules | `(tactic| walk_at "call ref") => `(tactic| (k_here; k_dflt (refine' ctr_use (c_carried ?hi ?h0 ?h1 ?h2 ?h3) ?B ?F ?X ?N ?T ?hk ?hd ?hu ?_; walk_at "ctr sides"; (case hi => assumption); (case h0 => assumption); (case h1 => assumption); (case h2 => assumption); (case h3 => assumption)); (intro v9 n9 h9 tk9 R9 F9 N9; (obtain ⟨b9, b1, vs1, nn1, b2, vs2, nn2, b3, vs3, nn3, e9, l9, l8, l7, l6, i9, i8, i7, f9⟩ := R9; subst e9; subst f9); (try k_lt l9); (simp only [LCg.Off1, and_true] at l8); (try k_lt l7); (try k_lt l6); (try dsimp only); (try k_fold))))
local macro_rules | `(tactic| walk_at "cells enter") => `(tactic| (refine' code_defC ?k1 ?k2 ?k3 ?k4 ?k5 ?kA ?kF ?kK ?k6 ?k7 ?k8 ?k9 ?kB ?kD ?_ ?c2 ?c3 ?c4; (case kA => exact rfl); (case kF => exact rfl); (case kK => assumption); (case k1 => k_asm); (case k2 => k_asm); (case k3 => k_asm); (case k4 => k_asm); (case k5 => k_asm); (case k6 => k_is); (case k7 => k_is); (case k8 => ktr_room); (case k9 => exact BindsTo.of_eq rfl); (case kB => exact rfl); (case kD => decide +kernel); (case c2 => exact rfl); (case c3 => exact rfl); (case c4 => exact rfl); k_whole; intro g' L' h' tk' cells' FG' F' N' Y' B' X' T' l1; (try k_lt l1); k_cells Y'; (try simp only [List.cons_append, List.nil_append] at N'); (try dsimp only); (try k_lift B'); (try k_fold)))
local macro_rules | `(tactic| walk_at "exec Assign cons ListComp") => `(tactic| (k_here; k_dflt (refine ec_Assign (F₀ := by k_asm) (by rfl) (by with_unfolding_all rfl) (by with_unfolding_all rfl) (by decide) (by rfl) (by decide) (by rfl) (by rfl) (by decide) (by decide) (by rfl) (by rfl) ?_)))
local macro_rules | `(tactic| walk_at "call type:enumerate") => `(tactic| (k_here; fail "here"))
local macro_rules | `(tactic| walk_at "subscriptTail") => `(tactic| (k_here; (with_reducible show wpAny _ _ (subscriptTail _ _ (Value.ref _) (Value.int _ _)) _ _ _); k_dflt (refine' ksa_sub ?k1 ?k2 ?k3 ?k4 ?k5 ?k6 ?_ ?k7; (case k1 => k_asm); (case k2 => k_mem); (case k3 => with_reducible assumption); (case k4 => omega); (case k5 => omega); (case k6 => omega); (case k7 => with_unfolding_all rfl); k_whole); intro _))
set_option maxHeartbeats 8000000 in
theorem c_due {i : Nat} {x c : Int} (hi : i < 9) (x0 : 0 ≤ x) (x1 : x < 256) (g0 : 0 ≤ c) (g1 : c < 2) (t tn t2 : Tok) (d1 d2 d3 : Addr) (o1 o2 o3 : Obj) : Ctr 18 263 [.str (nmOf i) tn, .int x t, .int c t2] [(d1, o1), (d2, o2), (d3, o3)] (R6 [(d1, o1), (d2, o2), (d3, o3)] (carL i x c) (evL i x c) (hafL i x c) (nauL i x c) (minL i x c) (ovrL i x c)) := by
  intro w p loose mean mg mb dp un gd cn cs a ccd cl outer A₀ base h₀ L m s Q E B F X N T hk hdp hun hret
  refine wpAny_call ?_
  k_dflt (walk_at "cells enter")
  k_steps
  rename (_ = resL _ _ _) => zr
  rename (_ = onesL 8) => zo
  obtain ⟨lr, hlr⟩ : ∃ l : List Int, l = resL i x c := ⟨_, rfl⟩
  obtain ⟨lo, hlo⟩ : ∃ l : List Int, l = onesL 8 := ⟨_, rfl⟩
  have zz := hlr.trans zr.symm
  subst zz
  have zz := hlo.trans zo.symm
  subst zz
  have rb := res_bnd' hi x0 x1 zr
  have rl := res_len' zr
  have ol := ones_len' zo
  k_dflt (refine' ec_call (fun n => decide ((lo.getD n.toNat 0).fmod 2 = 0)) rfl ?F1 ?N1 ?hm1 ?hi1 ?sz1 ?turn1 ?fin1; (case F1 => k_asm); (case N1 => k_asm); (case hm1 => k_mem); (case hi1 => assumption); (case sz1 => (rw [IntsAre.length (by assumption), rl]; exact Nat.le_of_ble_eq_true rfl)))
  case turn1 =>
    intro j9 n9 t9 t8 C9 oC9 m9 D9 ys9 e9 oe9 it9 oi9 h9 tk9 E9 hn9 hC9 hx9 hy9 F9 N9
    obtain ⟨hb1, hb2⟩ := rb _ hn9
    k_steps
    all_goals exact EcT.intro (by rfl) (by k_asm) (by k_asm)
  intro D9 h9 tk9 ys9 I9 F9 N9 L9
  (try k_lt L9)
  (try dsimp only)
  (try k_fold)
  k_steps
  k_dflt (refine' ec_call (fun n => decide (n = 0)) rfl ?F2 ?N2 ?hm2 ?hi2 ?sz2 ?turn2 ?fin2; (case F2 => k_asm); (case N2 => k_asm); (case hm2 => k_mem); (case hi2 => assumption); (case sz2 => (rw [IntsAre.length (by assumption), rl]; exact Nat.le_of_ble_eq_true rfl)))
  case turn2 =>
    intro j9 n9 t9 t8 C9 oC9 m9 D9 ys9 e9 oe9 it9 oi9 h9 tk9 E9 hn9 hC9 hx9 hy9 F9 N9
    obtain ⟨hb1, hb2⟩ := rb _ hn9
    k_steps
    all_goals exact EcT.intro (by rfl) (by k_asm) (by k_asm)
  intro D9 h9 tk9 ys9 I9 F9 N9 L9
  (try k_lt L9)
  (try dsimp only)
  (try k_fold)
  k_steps
  k_dflt (refine' ec_call (fun n => decide (127 < n)) rfl ?F3 ?N3 ?hm3 ?hi3 ?sz3 ?turn3 ?fin3; (case F3 => k_asm); (case N3 => k_asm); (case hm3 => k_mem); (case hi3 => assumption); (case sz3 => (rw [IntsAre.length (by assumption), rl]; exact Nat.le_of_ble_eq_true rfl)))
  case turn3 =>
    intro j9 n9 t9 t8 C9 oC9 m9 D9 ys9 e9 oe9 it9 oi9 h9 tk9 E9 hn9 hC9 hx9 hy9 F9 N9
    obtain ⟨hb1, hb2⟩ := rb _ hn9
    k_steps
    all_goals exact EcT.intro (by rfl) (by k_asm) (by k_asm)
  intro D9 h9 tk9 ys9 I9 F9 N9 L9
  (try k_lt L9)
  (try dsimp only)
  (try k_fold)
  k_steps
  k_with_none
  refine' R6_ret hret ?hF ?hN ?z ?x0 ?y0 ?i0 ?x1 ?y1 ?i1 ?x2 ?y2 ?i2 ?x3 ?y3 ?i3 ?x4 ?y4 ?i4 ?x5 ?y5 ?i5
  case hF => k_asm
  case hN => (refine' cb_drop ?nw ?sb; (case nw => k_asm); (case sb => (k_dflt lcg_sub)))
  case i0 => assumption
  case i1 => (unfold evL; rw [← hlr, ← hlo]; assumption)
  case i2 => assumption
  case i3 => (unfold nauL; rw [← hlr]; assumption)
  case i4 => (unfold minL; rw [← hlr]; assumption)
  case i5 => assumption
  case y2 => (simp only [LCg.Off1, and_true]; omega)
  all_goals (refine lt_three ?_ ?_ ?_ <;> omega)
end Mine

-- part B8a
namespace Mine
open PySem PySem.W PyProof.Rows PySem.Spec PySem.Calls
local macro_rules | `(tactic| walk_at "pad 22 0") => `(tactic| fail)
local macro_rules | `(tactic| walk_at "pad 22 1") => `(tactic| fail)
local macro_rules | `(tactic| walk_at "pad 22 2") => `(tactic| fail)
local macro_rules | `(tactic| walk_at "pad 22 3") => `(tactic| fail)
local macro_rules | `(tactic| walk_at "pad 22 4") => `(tactic| fail)
local macro_rules | `(tactic| walk_at "pad 22 5") => `(tactic| fail)
local macro_rules | `(tactic| walk_at "pad 22 6") => `(tactic| fail)
local macro_rules | `(tactic| walk_at "pad 22 7") => `(tactic| fail)
theorem fill17 : (PySem.Challenge.rw_pb0417_01, kk) = (PySem.Challenge.rw_pb0417_01, kk) := by
  w_top off
  k_fill
  rfl
def fF : Stmt → List Stmt | .For _ _ b _ _ => b | _ => []
def uB : FuncBody → List Stmt | .stmts b => b | _ => []
noncomputable def wFor : Stmt := (fun (v : Stmt) (_ : v = hd1 (fF (hd1 (tl1 (uB (fB (hd1 b35))))))) => v) _ (by
  dsimp only [hd1, tl1, fB, fF, uB, b0, b1, b2, b3, b4, b5, b6, b7, b8, b9, b10, b11, b12, b13, b14, b15, b16, b17, b18, b19, b20, b21, b22, b23, b24, b25, b26, b27, b28, b29, b30, b31, b32, b33, b34, b35, PySem.Challenge.pw_pb0417_01])
noncomputable def wSc : Scope := (fun (v : Scope) (_ : v = fS (hd1 b35)) => v) _ (by
  dsimp only [hd1, tl1, fS, b0, b1, b2, b3, b4, b5, b6, b7, b8, b9, b10, b11, b12, b13, b14, b15, b16, b17, b18, b19, b20, b21, b22, b23, b24, b25, b26, b27, b28, b29, b30, b31, b32, b33, b34, b35, PySem.Challenge.pw_pb0417_01])
local macro_rules | `(tactic| walk_at "w idx") => `(tactic| first | omega | exact InB.lo (by assumption) (by assumption) | exact Int.lt_of_lt_of_le (InB.hi (by assumption) (by assumption)) (by omega))
local macro_rules | `(tactic| walk_at "subscriptTail") => `(tactic| (k_here; (with_reducible show wpAny _ _ (subscriptTail _ _ (Value.ref _) (Value.int _ _)) _ _ _); k_dflt (refine' ksa_sub ?k1 ?k2 ?k3 ?k4 ?k5 ?k6 ?_ ?k7; (case k1 => k_asm); (case k2 => k_mem); (case k3 => with_reducible assumption); (case k4 => walk_at "w idx"); (case k5 => walk_at "w idx"); (case k6 => walk_at "w idx"); (case k7 => with_unfolding_all rfl); k_whole); intro _))
local macro_rules | `(tactic| walk_at "setItem ref int") => `(tactic| (k_here; (with_reducible show wpAny _ _ (setItem (Value.ref _) (Value.int _ _) (Value.int _ _)) _ _ _); k_dflt (refine' ksa_set ?k1 ?k2 ?k3 ?k4 ?k5 ?k6 ?k7 ?_; (case k1 => k_asm); (case k2 => k_asm); (case k3 => k_upd); (case k4 => with_reducible assumption); (case k5 => walk_at "w idx"); (case k6 => walk_at "w idx"); (case k7 => walk_at "w idx"); k_whole); intro h' F' N' hi' hl' hs'; (try k_sweep)))
local macro_rules | `(tactic| walk_at "ctr sides") => `(tactic| ((case B => k_asm); (case F => k_asm); (case X => k_asm); (case N => k_asm); (case T => k_asm); (case hk => first | exact rfl | assumption); (case hd => ktr_room); (case hu => ktr_units)))
local macro_rules | `(tactic| k_mem) => `(tactic| (refine List.mem_cons_of_mem _ ?_; k_mem))
local macro_rules | `(tactic| k_all) => `(tactic| assumption)
theorem fr_left {g : Heap} {L : Addr} {h : Heap} {u m : Str → Option Value} {x : Str} (F : Fr g L h (fun y => if y = x then u y else if ([] : List Str).contains y = true then u y else m y)) : Fr g L h (fun y => if y = x then u x else m y) := by
  have e : (fun y => if y = x then u y else if ([] : List Str).contains y = true then u y else m y) = fun y => if y = x then u x else m y := by
    funext y
    by_cases h : y = x
    · subst h; rw [if_pos rfl, if_pos rfl]
    · rw [if_neg h, if_neg h]; rfl
  rw [e] at F
  exact F
theorem fr_three {m : Str → Option Value} {x y z : Str} {a b c : Option Value} (e1 : m x = a) (e2 : m y = b) (e3 : m z = c) : m = fun u => if u = x then a else if u = y then b else if u = z then c else m u := by
  funext u
  by_cases h : u = x
  · rw [if_pos h, h, e1]
  · rw [if_neg h]
    by_cases h : u = y
    · rw [if_pos h, h, e2]
    · rw [if_neg h]
      by_cases h : u = z
      · rw [if_pos h, h, e3]
      · rw [if_neg h]
noncomputable def wEnv (L : Addr) : Env := envOf (Str.ofString "_law_words") wSc L 270 (.ref 269)
set_option maxHeartbeats 8000000 in
theorem one_list0 {w : World} {p : Program} {loose : List Str} {mean : ExcName → Option Value} {mg mb : Str → Option Value} {dp un : Nat} {gd : Option (List Code)} {cn : Str} {cs : Scope} {L a : Addr} {ccd : Value} {cl : List (Str × Addr)} {outer : List Env} {base g : Heap} {L' : Addr} {m0 : Str → Option Value} {s : Shared} {Q : Flow → Shared → Prop}
    {D b : Addr} {n1 n2 : Nat} {ws vs : List Value} {wl ls : List Int} {sp : Int} {tsp : Tok} {rest : List (Addr × Obj)}
    (B : Below (ktrTop dp un gd cn cs L a ccd cl outer) base (envX cn cs L a ccd cl :: outer) g) (X : (kk w.params).In g) (T : Top p loose mean mg mb g)
    (F : Fr g L' s.heap (fun y => if y = Str.ofString "some" then some (.ref b) else if y = Str.ofString "spot" then some (.int sp tsp) else if y = Str.ofString "words" then some (.ref D) else m0 y))
    (N : News g L' s.heap ((D, listOf ws.toArray n1) :: (b, listOf vs.toArray n2) :: rest)) (hb : @Ne Nat b D) (hne : ∀ p ∈ rest, p.1 ≠ D)
    (iw : IntsAre ws wl) (iv : IntsAre vs ls) (lw : wl.length = 256) (hB : InB ls) (s0 : 0 ≤ sp) (s1 : sp ≤ 11)
    (hret : ∀ ws' n1' lv h' tk', IntsAre ws' (bump sp wl ls) → Fr g L' h' (fun y => if y = Str.ofString "left" then lv else if y = Str.ofString "some" then some (.ref b) else if y = Str.ofString "spot" then some (.int sp tsp) else if y = Str.ofString "words" then some (.ref D) else m0 y) → News g L' h' ((D, listOf ws'.toArray n1') :: (b, listOf vs.toArray n2) :: rest) → Q .next { s with heap := h', toks := tk' }) :
    wpAny (model PySem.Challenge.pw_pb0417_01 w) ((ktrTop dp un gd cn cs L a ccd cl outer).deeper (wEnv L')) (exec wFor (wEnv L')) Q (fun _ _ => False) s := by
  unfold wEnv wFor wSc
  dsimp only
  k_with "state" => first | exact ⟨rfl, by assumption⟩ | exact bump_next (by assumption) (by assumption)
  k_with "pyIter ref" => k_state_given ["spot", "words!"] (fun (spot : Int) (w0 : List Int) (pre : List Int) (wd : List Int) => wd = bump spot w0 pre ∧ wd.length = 256) "words"
  k_steps
  k_with_none
  refine hret _ _ _ _ _ ?_ (fr_left kFr) kNews
  rename _ = bump _ _ _ => e
  rw [← e]
  exact kFacts
/-- one turn's inner loop: the list that is told bumps the words -/
theorem one_list {w : World} {p : Program} {loose : List Str} {mean : ExcName → Option Value} {mg mb : Str → Option Value} {dp un : Nat} {gd : Option (List Code)} {cn : Str} {cs : Scope} {L a : Addr} {ccd : Value} {cl : List (Str × Addr)} {outer : List Env} {base g : Heap} {L' : Addr} {m : Str → Option Value} {s : Shared} {Q : Flow → Shared → Prop} {E : Value → Shared → Prop}
    {D b : Addr} {n1 n2 : Nat} {ws vs : List Value} {wl ls : List Int} {sp : Int} {tsp : Tok} {news : List (Addr × Obj)} {gg : Obj → List (Addr × Obj)}
    (B : Below (ktrTop dp un gd cn cs L a ccd cl outer) base (envX cn cs L a ccd cl :: outer) g) (X : (kk w.params).In g) (T : Top p loose mean mg mb g)
    (F : Fr g L' s.heap m) (e1 : m (Str.ofString "some") = some (.ref b)) (e2 : m (Str.ofString "spot") = some (.int sp tsp)) (e3 : m (Str.ofString "words") = some (.ref D))
    (N : News g L' s.heap news) (U : UpdF D (listOf ws.toArray n1) news gg) (hq : (b, listOf vs.toArray n2) ∈ news) (hb : @Ne Nat b D)
    (iw : IntsAre ws wl) (iv : IntsAre vs ls) (lw : wl.length = 256) (hB : InB ls) (s0 : 0 ≤ sp) (s1 : sp ≤ 11)
    (hret : ∀ ws' n1' lv h' tk', IntsAre ws' (bump sp wl ls) → (bump sp wl ls).length = 256 → Fr g L' h' (fun y => if y = Str.ofString "left" then lv else m y) → News g L' h' (gg (listOf ws'.toArray n1')) → Q .next { s with heap := h', toks := tk' }) :
    wpAny (model PySem.Challenge.pw_pb0417_01 w) ((ktrTop dp un gd cn cs L a ccd cl outer).deeper (wEnv L')) (exec wFor (wEnv L')) Q E s := by
  obtain ⟨pre, post, rfl, hg, h1, h2⟩ := U.split
  have hm := fr_three e1 e2 e3
  refine wpAny_mono (one_list0 (rest := pre ++ post) (m0 := m) (b := b) (D := D) (n1 := n1) (n2 := n2) (ws := ws) (vs := vs) B X T (hm ▸ F) (fun p hp => ?_) hb (fun p hp => (List.mem_append.mp hp).elim (h1 p) (h2 p)) iw iv lw hB s0 s1 fun ws' n1' lv h' tk' i F' N' => ?_) (fun _ _ q => q) (fun _ _ e => e.elim)
  · rcases List.mem_cons.mp hp with rfl | hp
    · exact N _ (by simp)
    · rcases List.mem_cons.mp hp with rfl | hp
      · exact N _ hq
      · refine N _ ?_
        rcases List.mem_append.mp hp with h | h
        · exact List.mem_append.mpr (.inl h)
        · exact List.mem_append.mpr (.inr (.tail _ h))
  · refine hret ws' n1' lv h' tk' i ((bump_len _ _ _).trans lw) ?_ fun p hp => N' p ?_
    · have e : (fun y => if y = Str.ofString "left" then lv else m y) = fun y => if y = Str.ofString "left" then lv else if y = Str.ofString "some" then some (.ref b) else if y = Str.ofString "spot" then some (.int sp tsp) else if y = Str.ofString "words" then some (.ref D) else m y := by
        funext y
        split
        · rfl
        · exact congrFun hm y
      rw [e]
      exact F'
    · rw [hg] at hp
      rcases List.mem_append.mp hp with h | h
      · exact .tail _ (.tail _ (List.mem_append.mpr (.inl h)))
      · rcases List.mem_cons.mp h with rfl | h
        · exact .head _
        · exact .tail _ (.tail _ (List.mem_append.mpr (.inr h)))
end Mine

-- part B8b
namespace Mine
open PySem PySem.W PyProof.Rows PySem.Spec PySem.Calls
local macro_rules | `(tactic| walk_at "pad 23 0") => `(tactic| fail)
local macro_rules | `(tactic| walk_at "pad 23 1") => `(tactic| fail)
local macro_rules | `(tactic| walk_at "pad 23 2") => `(tactic| fail)
local macro_rules | `(tactic| walk_at "pad 23 3") => `(tactic| fail)
local macro_rules | `(tactic| walk_at "pad 23 4") => `(tactic| fail)
local macro_rules | `(tactic| walk_at "pad 23 5") => `(tactic| fail)
local macro_rules | `(tactic| walk_at "pad 23 6") => `(tactic| fail)
local macro_rules | `(tactic| walk_at "pad 23 7") => `(tactic| fail)
local macro_rules | `(tactic| walk_at "pad 23 8") => `(tactic| fail)
local macro_rules | `(tactic| walk_at "pad 23 9") => `(tactic| fail)
local macro_rules | `(tactic| walk_at "pad 23 10") => `(tactic| fail)
local macro_rules | `(tactic| walk_at "pad 23 11") => `(tactic| fail)
local macro_rules | `(tactic| walk_at "pad 23 12") => `(tactic| fail)
local macro_rules | `(tactic| walk_at "pad 23 13") => `(tactic| fail)
local macro_rules | `(tactic| walk_at "pad 23 14") => `(tactic| fail)
theorem fill17b : (PySem.Challenge.rw_pb0417_01, kk) = (PySem.Challenge.rw_pb0417_01, kk) := by
  w_top off
  k_fill
  rfl
def fT : Stmt → PySem.Expr | .For t _ _ _ _ => t | _ => .Constant .none 0 default
noncomputable def wTg : PySem.Expr := (fun (v : PySem.Expr) (_ : v = fT (hd1 (tl1 (uB (fB (hd1 b35)))))) => v) _ (by
  dsimp only [hd1, tl1, fB, fT, uB, b0, b1, b2, b3, b4, b5, b6, b7, b8, b9, b10, b11, b12, b13, b14, b15, b16, b17, b18, b19, b20, b21, b22, b23, b24, b25, b26, b27, b28, b29, b30, b31, b32, b33, b34, b35, PySem.Challenge.pw_pb0417_01])
local macro_rules | `(tactic| k_mem) => `(tactic| (refine List.mem_cons_of_mem _ ?_; k_mem))
local macro_rules | `(tactic| k_all) => `(tactic| assumption)
local macro_rules | `(tactic| walk_at "one list") => `(tactic| (k_here; (rename Fr _ _ _ _ => lF'); (rename News _ _ _ _ => lN'); (rename Below _ _ _ _ => lB'); (rename Top _ _ _ _ _ _ => lT'); (rename Frag.In _ _ => lX'); (k_dflt (refine' one_list lB' lX' lT' lF' ?e1 ?e2 ?e3 lN' ?U ?hq ?hb ?iw ?iv ?lw ?hB ?s0 ?s1 ?_)); (case e1 => exact rfl); (case e2 => exact rfl); (case e3 => exact rfl); (case U => k_updF); (case hq => k_mem); (case iw => assumption); (case iv => assumption); (case lw => assumption); (case hB => assumption); (case s0 => assumption); (case s1 => assumption); (case hb => assumption); (clear lF' lN'); (intro ws' n1' lv h' tk' iw lw F' N'); (try dsimp only at N'); (try dsimp only)))
theorem fr_one {m : Str → Option Value} {x : Str} {a : Option Value} (e1 : m x = a) : m = fun u => if u = x then a else m u := by
  funext u
  by_cases h : u = x
  · rw [if_pos h, h, e1]
  · rw [if_neg h]
/-- the ledger holds the pair of the place and its list -/
def Has (rest : List (Addr × Obj)) (D : Addr) (sp : Int) (ls : List Int) (q : Addr) : Prop :=
  ∃ t b vs nn, (q, ({ cls := .type "tuple", data := .seq #[.int sp t, .ref b] } : Obj)) ∈ rest ∧ (b, listOf vs.toArray nn) ∈ rest ∧ @Ne Nat b D ∧ IntsAre vs ls
set_option maxHeartbeats 4000000 in
theorem one_turn {w : World} {p : Program} {loose : List Str} {mean : ExcName → Option Value} {mg mb : Str → Option Value} {dp un : Nat} {gd : Option (List Code)} {cn : Str} {cs : Scope} {L a : Addr} {ccd : Value} {cl : List (Str × Addr)} {outer : List Env} {base g : Heap} {L' : Addr} {m : Str → Option Value} {s : Shared} {Q : Flow → Shared → Prop} {E : Value → Shared → Prop}
    {D q I : Addr} {n1 : Nat} {ws : List Value} {wl ls : List Int} {sp : Int} {rest : List (Addr × Obj)} {kp : Addr × Obj} {r : List Itm}
    (B : Below (ktrTop dp un gd cn cs L a ccd cl outer) base (envX cn cs L a ccd cl :: outer) g) (X : (kk w.params).In g) (T : Top p loose mean mg mb g)
    (e3 : m (Str.ofString "words") = some (.ref D)) (hq : Has rest D sp ls q) (mk : kp ∈ rest) (hne : ∀ p ∈ rest, p.1 ≠ D)
    (hI : ∀ p ∈ rest, p.1 ≠ I) (hI2 : @Ne Nat D I) (iw : IntsAre ws wl) (lw : wl.length = 256) (hB : InB ls) (s0 : 0 ≤ sp) (s1 : sp ≤ 11)
    (next : ∀ m' ws' n1', m' (Str.ofString "words") = some (.ref D) → IntsAre ws' (bump sp wl ls) → (bump sp wl ls).length = 256 →
      ItemsRest PySem.Challenge.pw_pb0417_01 w ((ktrTop dp un gd cn cs L a ccd cl outer).deeper (wEnv L')) E g (wEnv L') wTg [wFor] Q s [(I, "list_iterator")] [kp] r m' ((D, listOf ws'.toArray n1') :: rest)) :
    ItemsRest PySem.Challenge.pw_pb0417_01 w ((ktrTop dp un gd cn cs L a ccd cl outer).deeper (wEnv L')) E g (wEnv L') wTg [wFor] Q s [(I, "list_iterator")] [kp] (.val (.ref q) :: r) m ((D, listOf ws.toArray n1) :: rest) := by
  obtain ⟨tsp, b, vs, n2, mq, mb, hb, iv⟩ := hq
  rw [fr_one e3]
  refine ItemsRest.val fun h tk F o ho N => ?_
  have F : Fr g L' h (fun y => if y = Str.ofString "words" then some (.ref D) else m y) := F
  have N : News g L' h ((I, o) :: (D, listOf ws.toArray n1) :: rest) := N
  have hne' : ∀ p ∈ rest, p.1 ≠ D := hne
  revert next
  unfold wEnv wFor wSc wTg
  dsimp only
  intro next
  repeat' (first | (k_dflt (show wpAny _ _ (exec (Stmt.For (Expr.Name _ _) _ _ _ _) _) _ _ _); walk_at "one list") | (k_unfold; (try dsimp only)) | walk1 | (dsimp only; walk1) | fail "no step")
  rename Fr _ _ _ _ => lF'
  rename News _ _ _ _ => lN'
  rename IntsAre _ _ => iw'
  rename List.length _ = 256 => lw'
  refine ⟨_, _, _, (D, listOf _ _) :: rest, rfl, lF', lN', ?_, ?_, next _ _ _ ?_ iw' lw'⟩
  · intro p hp q hq
    rw [List.mem_singleton.mp hq]
    rcases List.mem_cons.mp hp with rfl | hp
    · exact hI2
    · exact hI p hp
  · exact ⟨.tail _ mk, True.intro⟩
  · exact rfl
theorem six_turns {w : World} {p : Program} {loose : List Str} {mean : ExcName → Option Value} {mg mb : Str → Option Value} {dp un : Nat} {gd : Option (List Code)} {cn : Str} {cs : Scope} {L a : Addr} {ccd : Value} {cl : List (Str × Addr)} {outer : List Env} {base g : Heap} {L' : Addr} {m : Str → Option Value} {s : Shared} {Q : Flow → Shared → Prop} {E : Value → Shared → Prop}
    {D q0 q1 q2 q3 q4 q5 I : Addr} {n1 : Nat} {ws : List Value} {wl l0 l1 l2 l3 l4 l5 : List Int} {rest : List (Addr × Obj)} {kp : Addr × Obj}
    (B : Below (ktrTop dp un gd cn cs L a ccd cl outer) base (envX cn cs L a ccd cl :: outer) g) (X : (kk w.params).In g) (T : Top p loose mean mg mb g)
    (e3 : m (Str.ofString "words") = some (.ref D)) (hq0 : Has rest D 0 l0 q0) (hq1 : Has rest D 2 l1 q1) (hq2 : Has rest D 4 l2 q2) (hq3 : Has rest D 6 l3 q3) (hq4 : Has rest D 7 l4 q4) (hq5 : Has rest D 11 l5 q5) (mk : kp ∈ rest) (hne : ∀ p ∈ rest, p.1 ≠ D)
    (hI : ∀ p ∈ rest, p.1 ≠ I) (hI2 : @Ne Nat D I) (iw : IntsAre ws wl) (lw : wl.length = 256) (hb0 : InB l0) (hb1 : InB l1) (hb2 : InB l2) (hb3 : InB l3) (hb4 : InB l4) (hb5 : InB l5)
    (fin : ∀ (m' : Str → Option Value) ws' n' h tk, IntsAre ws' (bump 11 (bump 7 (bump 6 (bump 4 (bump 2 (bump 0 wl l0) l1) l2) l3) l4) l5) → Fr g L' h (fun u => if u = Str.ofString "words" then some (.ref D) else m' u) → News g L' h ((D, listOf ws'.toArray n') :: rest) → Q .next { s with heap := h, toks := tk }) :
    ItemsRest PySem.Challenge.pw_pb0417_01 w ((ktrTop dp un gd cn cs L a ccd cl outer).deeper (wEnv L')) E g (wEnv L') wTg [wFor] Q s [(I, "list_iterator")] [kp] [.val (.ref q0), .val (.ref q1), .val (.ref q2), .val (.ref q3), .val (.ref q4), .val (.ref q5)] m ((D, listOf ws.toArray n1) :: rest) := by
  refine one_turn B X T e3 hq0 mk hne hI hI2 iw lw hb0 (by decide) (by decide) fun m ws n1 e3 iw lw => ?_
  refine one_turn B X T e3 hq1 mk hne hI hI2 iw lw hb1 (by decide) (by decide) fun m ws n1 e3 iw lw => ?_
  refine one_turn B X T e3 hq2 mk hne hI hI2 iw lw hb2 (by decide) (by decide) fun m ws n1 e3 iw lw => ?_
  refine one_turn B X T e3 hq3 mk hne hI hI2 iw lw hb3 (by decide) (by decide) fun m ws n1 e3 iw lw => ?_
  refine one_turn B X T e3 hq4 mk hne hI hI2 iw lw hb4 (by decide) (by decide) fun m ws n1 e3 iw lw => ?_
  refine one_turn B X T e3 hq5 mk hne hI hI2 iw lw hb5 (by decide) (by decide) fun m ws n1 e3 iw lw => ?_
  refine ItemsRest.zero fun h tk F N => fin m ws n1 h tk iw ?_ N
  rw [← fr_one e3]
  exact F
theorem due_use {nm : Str} {x c : Int} {t tn t2 : Tok} {l0 l1 l2 l3 l4 l5 : List Int} {d1 d2 d3 : Addr} {o1 o2 o3 : Obj} (C : Ctr 18 263 [.str nm tn, .int x t, .int c t2] [(d1, o1), (d2, o2), (d3, o3)] (R6 [(d1, o1), (d2, o2), (d3, o3)] l0 l1 l2 l3 l4 l5))
    {w : World} {p : Program} {loose : List Str} {mean : ExcName → Option Value} {mg mb : Str → Option Value} {dp un : Nat} {gd : Option (List Code)} {cn : Str} {cs : Scope} {a : Addr} {ccd : Value} {cl : List (Str × Addr)} {outer : List Env} {A₀ : Around} {base h₀ : Heap} {L : Addr} {m : Str → Option Value} {s : Shared} {Q E : Value → Shared → Prop}
    (B : Below A₀ base outer h₀) (F : Fr h₀ L s.heap m) (X : (kk w.params).In h₀) (N : News h₀ L s.heap [(d1, o1), (d2, o2), (d3, o3)]) (T : Top p loose mean mg mb h₀) (hk : cs.kind = .function) (hd : dp + 18 < recursionLimit) (hu : un + 8 * 18 < cLine)
    (n2 : @LT.lt Nat _ d2 d1) (n3 : @LT.lt Nat _ d3 d1)
    (h : ∀ (rest : List (Addr × Obj)) (b : Addr) (nb : Nat) (q0 q1 q2 q3 q4 q5 : Addr) h' tk', (∀ p ∈ rest, p.1 ≠ d1) → (d3, o3) ∈ rest → (b, listOf #[.ref q0, .ref q1, .ref q2, .ref q3, .ref q4, .ref q5] nb) ∈ rest → Has rest d1 0 l0 q0 → Has rest d1 2 l1 q1 → Has rest d1 4 l2 q2 → Has rest d1 6 l3 q3 → Has rest d1 7 l4 q4 → Has rest d1 11 l5 q5 → Fr h₀ L h' m → News h₀ L h' ((d1, o1) :: rest) → Q (.ref b) { s with heap := h', toks := tk' }) :
    wpAny (model PySem.Challenge.pw_pb0417_01 w) (ktrTop dp un gd cn cs L a ccd cl outer) (call (.ref 263) [.str nm tn, .int x t, .int c t2]) Q E s := by
  refine ctr_use C B F X N T hk hd hu ?_
  rintro v n h' tk' ⟨b9, nb9, q0, t0, b0, vs0, nn0, q1, t1, b1, vs1, nn1, q2, t2, b2, vs2, nn2, q3, t3, b3, vs3, nn3, q4, t4, b4, vs4, nn4, q5, t5, b5, vs5, nn5, rfl, z9, x0, y0, i0, x1, y1, i1, x2, y2, i2, x3, y3, i3, x4, y4, i4, x5, y5, i5, rfl⟩ F' N'
  obtain ⟨A, hA⟩ : ∃ A : List (Addr × Obj), A = (b9, listOf #[.ref q0, .ref q1, .ref q2, .ref q3, .ref q4, .ref q5] nb9) :: (q0, { cls := .type "tuple", data := .seq #[.int 0 t0, .ref b0] }) :: (q1, { cls := .type "tuple", data := .seq #[.int 2 t1, .ref b1] }) :: (q2, { cls := .type "tuple", data := .seq #[.int 4 t2, .ref b2] }) :: (q3, { cls := .type "tuple", data := .seq #[.int 6 t3, .ref b3] }) :: (q4, { cls := .type "tuple", data := .seq #[.int 7 t4, .ref b4] }) :: (q5, { cls := .type "tuple", data := .seq #[.int 11 t5, .ref b5] }) :: (b0, listOf vs0.toArray nn0) :: (b1, listOf vs1.toArray nn1) :: (b2, listOf vs2.toArray nn2) :: (b3, listOf vs3.toArray nn3) :: (b4, listOf vs4.toArray nn4) :: (b5, listOf vs5.toArray nn5) :: [] := ⟨_, rfl⟩
  have N' : News h₀ L h' (A ++ [(d1, o1), (d2, o2), (d3, o3)]) := by rw [hA]; exact N'
  refine h (A ++ [(d2, o2), (d3, o3)]) b9 nb9 q0 q1 q2 q3 q4 q5 h' tk' ?_ (List.mem_append_right _ (.tail _ (.head _))) ?_ ?_ ?_ ?_ ?_ ?_ ?_ F' fun p hp => N' p ?_
  case refine_9 =>
    rcases List.mem_cons.mp hp with rfl | hp
    · exact List.mem_append_right _ (.head _)
    · rcases List.mem_append.mp hp with hp | hp
      · exact List.mem_append_left _ hp
      · exact List.mem_append_right _ (.tail _ hp)
  all_goals subst hA
  · exact List.forall_mem_cons.mpr ⟨Nat.ne_of_gt (z9 _ (.head _)), List.forall_mem_cons.mpr ⟨Nat.ne_of_gt (x0 _ (.head _)), List.forall_mem_cons.mpr ⟨Nat.ne_of_gt (x1 _ (.head _)), List.forall_mem_cons.mpr ⟨Nat.ne_of_gt (x2 _ (.head _)), List.forall_mem_cons.mpr ⟨Nat.ne_of_gt (x3 _ (.head _)), List.forall_mem_cons.mpr ⟨Nat.ne_of_gt (x4 _ (.head _)), List.forall_mem_cons.mpr ⟨Nat.ne_of_gt (x5 _ (.head _)), List.forall_mem_cons.mpr ⟨(Nat.ne_of_gt (y0 _ (.head _))), List.forall_mem_cons.mpr ⟨(Nat.ne_of_gt (y1 _ (.head _))), List.forall_mem_cons.mpr ⟨(Ne.symm y2.1), List.forall_mem_cons.mpr ⟨(Nat.ne_of_gt (y3 _ (.head _))), List.forall_mem_cons.mpr ⟨(Nat.ne_of_gt (y4 _ (.head _))), List.forall_mem_cons.mpr ⟨(Nat.ne_of_gt (y5 _ (.head _))), List.forall_mem_cons.mpr ⟨Nat.ne_of_lt n2, List.forall_mem_cons.mpr ⟨Nat.ne_of_lt n3, fun _ h => nomatch h⟩⟩⟩⟩⟩⟩⟩⟩⟩⟩⟩⟩⟩⟩⟩
  · exact (.head _)
  · exact ⟨t0, b0, vs0, nn0, (.tail _ (.head _)), (.tail _ (.tail _ (.tail _ (.tail _ (.tail _ (.tail _ (.tail _ (.head _)))))))), (Nat.ne_of_gt (y0 _ (.head _))), i0⟩
  · exact ⟨t1, b1, vs1, nn1, (.tail _ (.tail _ (.head _))), (.tail _ (.tail _ (.tail _ (.tail _ (.tail _ (.tail _ (.tail _ (.tail _ (.head _))))))))), (Nat.ne_of_gt (y1 _ (.head _))), i1⟩
  · exact ⟨t2, b2, vs2, nn2, (.tail _ (.tail _ (.tail _ (.head _)))), (.tail _ (.tail _ (.tail _ (.tail _ (.tail _ (.tail _ (.tail _ (.tail _ (.tail _ (.head _)))))))))), (Ne.symm y2.1), i2⟩
  · exact ⟨t3, b3, vs3, nn3, (.tail _ (.tail _ (.tail _ (.tail _ (.head _))))), (.tail _ (.tail _ (.tail _ (.tail _ (.tail _ (.tail _ (.tail _ (.tail _ (.tail _ (.tail _ (.head _))))))))))), (Nat.ne_of_gt (y3 _ (.head _))), i3⟩
  · exact ⟨t4, b4, vs4, nn4, (.tail _ (.tail _ (.tail _ (.tail _ (.tail _ (.head _)))))), (.tail _ (.tail _ (.tail _ (.tail _ (.tail _ (.tail _ (.tail _ (.tail _ (.tail _ (.tail _ (.tail _ (.head _)))))))))))), (Nat.ne_of_gt (y4 _ (.head _))), i4⟩
  · exact ⟨t5, b5, vs5, nn5, (.tail _ (.tail _ (.tail _ (.tail _ (.tail _ (.tail _ (.head _))))))), (.tail _ (.tail _ (.tail _ (.tail _ (.tail _ (.tail _ (.tail _ (.tail _ (.tail _ (.tail _ (.tail _ (.tail _ (.head _))))))))))))), (Nat.ne_of_gt (y5 _ (.head _))), i5⟩
end Mine

-- part B8
namespace Mine
open PySem PySem.W PyProof.Rows PySem.Spec PySem.Calls
local macro_rules | `(tactic| walk_at "pad 24 0") => `(tactic| fail)
theorem fill17c : (PySem.Challenge.rw_pb0417_01, kk) = (PySem.Challenge.rw_pb0417_01, kk) := by
  w_top off
  k_fill
  rfl
local macro_rules | `(tactic| k_mem) => `(tactic| (refine List.mem_cons_of_mem _ ?_; k_mem))
local macro_rules | `(tactic| k_all) => `(tactic| assumption)
local macro_rules | `(tactic| walk_at "ctr sides") => `(tactic| ((case B => k_asm); (case F => k_asm); (case X => k_asm); (case N => k_asm); (case T => k_asm); (case hk => first | exact rfl | assumption); (case hd => ktr_room); (case hu => ktr_units)))
local macro_rules | `(tactic| walk_at "exec For Tuple Call") => `(tactic| (k_here; (rename Fr _ _ _ _ => lF'); (with_unfolding_all refine' For_turns lF' ?_; k_whole)))
set_option maxHeartbeats 4000000 in
theorem c_words (l0 l1 l2 l3 l4 l5 : List Int) (hb0 : InB l0) (hb1 : InB l1) (hb2 : InB l2) (hb3 : InB l3) (hb4 : InB l4) (hb5 : InB l5) (nm : Str) (x c way : Int) (t tn t2 t3 : Tok) (d1 : Addr) (o1 : Obj)
    (hdue : ∀ (t tn t2 : Tok) (d1 d2 d3 : Addr) (o1 o2 o3 : Obj), Ctr 18 263 [.str nm tn, .int x t, .int c t2] [(d1, o1), (d2, o2), (d3, o3)] (R6 [(d1, o1), (d2, o2), (d3, o3)] l0 l1 l2 l3 l4 l5)) :
    Ctr 24 270 [.str nm tn, .int x t, .int c t2, .int way t3] [(d1, o1)] (RLv [(d1, o1)] (wordsL way l0 l1 l2 l3 l4 l5)) := by
  intro w p loose mean mg mb dp un gd cn cs a ccd cl outer A₀ base h₀ L m s Q E B F X N T hk hdp hun hret
  refine wpAny_call ?_
  k_dflt cell_enter
  k_with "call ref" => (k_here; k_dflt (refine' due_use (hdue _ _ _ _ _ _ _ _ _) ?B ?F ?X ?N ?T ?hk ?hd ?hu ?n2 ?n3 ?_; walk_at "ctr sides"; (case n2 => omega); (case n3 => omega)); (intro rest b9 nb9 q0 q1 q2 q3 q4 q5 h9 tk9 hne9 md9 mb9 H0 H1 H2 H3 H4 H5 F9 N9; (try dsimp only); (try k_fold)))
  repeat' ((fail_if_success (with_reducible show wpAny _ _ (pyIter (Value.ref _)) _ _ _)); first | (k_unfold; (try dsimp only)) | (k_end; kc_close) | walk1 | (dsimp only; walk1) | (leave1; (try dsimp only)) | fail "no step")
  rename IntsAre (List.flatten _) _ => iw
  have lw : ((List.replicate (Int.toNat 256) [2 + 1024 * way]).flatten).length = 256 := by rw [List.flatten_replicate_singleton, List.length_replicate]; rfl
  rename Fr _ _ _ _ => lF'
  rename News _ _ _ _ => lN'
  rename Below _ _ _ _ => lB'
  rename Top _ _ _ _ _ _ => lT'
  rename Frag.In _ _ => lX'
  with_unfolding_all refine iter_listTurns (lo := listOf #[.ref q0, .ref q1, .ref q2, .ref q3, .ref q4, .ref q5] nb9) (vs := [.ref q0, .ref q1, .ref q2, .ref q3, .ref q4, .ref q5]) (by rfl) lF' lN' (.tail _ mb9) (by rfl) (by rfl) (fun I hI => ?_)
  have hI2 := hI _ (.head _)
  k_dflt (refine' six_turns (kp := (b9, listOf #[.ref q0, .ref q1, .ref q2, .ref q3, .ref q4, .ref q5] nb9)) lB' lX' lT' ?e3 H0 H1 H2 H3 H4 H5 mb9 hne9 (fun p hp => Nat.ne_of_lt (hI p (.tail _ hp))) (Nat.ne_of_lt hI2) iw lw hb0 hb1 hb2 hb3 hb4 hb5 ?_)
  case e3 => exact rfl
  intro m8 ws8 n8 h8 tk8 i8 F8 N8
  clear lF' lN'
  repeat' (first | (k_unfold; (try dsimp only)) | (k_end; kc_close) | walk1 | (dsimp only; walk1) | (leave1; (try dsimp only)) | fail "no step")
  k_with_none
  refine' RLv_ret hret ?hF ?hN ?hz ?hi ?he
  case hF => k_asm
  case hN =>
    intro p hp
    rename News _ _ _ _ => N8
    rcases List.mem_cons.mp hp with rfl | hp
    · exact N8 _ (.head _)
    · rw [List.mem_singleton.mp hp]
      exact N8 _ (.tail _ md9)
  case hz => (refine lt_one ?_; omega)
  case hi => assumption
  case he => rfl
end Mine

-- part L2
namespace Mine
open PySem PySem.W PyProof.Rows PySem.Spec PySem.Calls
local macro_rules | `(tactic| walk_at "pad 25 0") => `(tactic| fail)
local macro_rules | `(tactic| walk_at "pad 25 1") => `(tactic| fail)
local macro_rules | `(tactic| walk_at "pad 25 2") => `(tactic| fail)
local macro_rules | `(tactic| walk_at "pad 25 3") => `(tactic| fail)
local macro_rules | `(tactic| walk_at "pad 25 4") => `(tactic| fail)
local macro_rules | `(tactic| walk_at "pad 25 5") => `(tactic| fail)
local macro_rules | `(tactic| walk_at "pad 25 6") => `(tactic| fail)
local macro_rules | `(tactic| walk_at "pad 25 7") => `(tactic| fail)
theorem nm_is {d : Int} (h0 : 0 ≤ d) (h1 : d < 9) : [Str.ofString "add", Str.ofString "adc", Str.ofString "sub", Str.ofString "sbb", Str.ofString "cmp", Str.ofString "and", Str.ofString "or", Str.ofString "xor", Str.ofString "test"].getD d.toNat Str.empty = nmOf d.toNat := by
  have h : ∀ i : Nat, i < 9 → [Str.ofString "add", Str.ofString "adc", Str.ofString "sub", Str.ofString "sbb", Str.ofString "cmp", Str.ofString "and", Str.ofString "or", Str.ofString "xor", Str.ofString "test"].getD i Str.empty = nmOf i := by
    intro i hi
    match i, hi with
    | 0, _ => rfl
    | 1, _ => rfl
    | 2, _ => rfl
    | 3, _ => rfl
    | 4, _ => rfl
    | 5, _ => rfl
    | 6, _ => rfl
    | 7, _ => rfl
    | 8, _ => rfl
  exact h _ (by omega)
theorem res_use {i : Nat} {x c : Int} {t tn t2 : Tok} {w : World} {p : Program} {loose : List Str} {mean : ExcName → Option Value} {mg mb : Str → Option Value} {dp un : Nat} {gd : Option (List Code)} {cn : Str} {cs : Scope} {a : Addr} {ccd : Value} {cl : List (Str × Addr)} {outer : List Env} {A₀ : Around} {base h₀ : Heap} {L : Addr} {m : Str → Option Value} {s : Shared} {Q E : Value → Shared → Prop} {news : List (Addr × Obj)} {d1 d2 : Addr} {o1 o2 : Obj}
    (B : Below A₀ base outer h₀) (F : Fr h₀ L s.heap m) (X : (kk w.params).In h₀) (N : News h₀ L s.heap news) (T : Top p loose mean mg mb h₀) (hk : cs.kind = .function) (hd : dp + 12 < recursionLimit) (hu : un + 8 * 12 < cLine)
    (hi : i < 9) (x0 : 0 ≤ x) (x1 : x < 256) (e1 : m (Str.ofString "results") = some (.ref d1)) (e2 : m (Str.ofString "words") = some (.ref d2)) (m1 : (d1, o1) ∈ news) (m2 : (d2, o2) ∈ news)
    (h : ∀ b vs nn h' tk', IntsAre vs (resL i x c) → @LT.lt Nat _ d1 b → @LT.lt Nat _ d2 b → Fr h₀ L h' m → News h₀ L h' [(b, listOf vs.toArray nn), (d1, o1), (d2, o2)] → Q (.ref b) { s with heap := h', toks := tk' }) :
    wpAny (model PySem.Challenge.pw_pb0417_01 w) (ktrTop dp un gd cn cs L a ccd cl outer) (call (.ref 253) [.str (nmOf i) tn, .int x t, .int c t2]) Q E s := by
  refine ctr_use (c_results (d1 := d1) (d2 := d2) (d3 := d1) (d4 := d2) (o1 := o1) (o2 := o2) (o3 := o1) (o4 := o2) hi x0 x1) B F X (fun q hq => ?_) T hk hd hu ?_
  · simp only [List.mem_cons, List.not_mem_nil, or_false] at hq
    rcases hq with rfl | rfl | rfl | rfl
    · exact N _ m1
    · exact N _ m2
    · exact N _ m1
    · exact N _ m2
  · rintro v n h' tk' ⟨b, vs, nn, lv, rfl, l, i9, rfl, rfl⟩ F' N'
    refine h b vs nn h' tk' i9 (l (d1, o1) (by simp)) (l (d2, o2) (by simp)) F' fun q hq => N' q ?_
    simp only [List.mem_cons, List.not_mem_nil, or_false] at hq ⊢
    rcases hq with rfl | rfl | rfl <;> simp
theorem wrd_use {i : Nat} {x c way : Int} {t tn t2 t3 : Tok} {w : World} {p : Program} {loose : List Str} {mean : ExcName → Option Value} {mg mb : Str → Option Value} {dp un : Nat} {gd : Option (List Code)} {cn : Str} {cs : Scope} {a : Addr} {ccd : Value} {cl : List (Str × Addr)} {outer : List Env} {A₀ : Around} {base h₀ : Heap} {L : Addr} {m : Str → Option Value} {s : Shared} {Q E : Value → Shared → Prop} {news : List (Addr × Obj)} {d2 : Addr} {o2 : Obj}
    (B : Below A₀ base outer h₀) (F : Fr h₀ L s.heap m) (X : (kk w.params).In h₀) (N : News h₀ L s.heap news) (T : Top p loose mean mg mb h₀) (hk : cs.kind = .function) (hd : dp + 24 < recursionLimit) (hu : un + 8 * 24 < cLine)
    (hi : i < 9) (x0 : 0 ≤ x) (x1 : x < 256) (c0 : 0 ≤ c) (c1 : c < 2) (e2 : m (Str.ofString "words") = some (.ref d2)) (m2 : (d2, o2) ∈ news)
    (h : ∀ b vs nn h' tk', IntsAre vs (wordsL way (carL i x c) (evL i x c) (hafL i x c) (nauL i x c) (minL i x c) (ovrL i x c)) → @LT.lt Nat _ d2 b → Fr h₀ L h' m → News h₀ L h' [(b, listOf vs.toArray nn), (d2, o2)] → Q (.ref b) { s with heap := h', toks := tk' }) :
    wpAny (model PySem.Challenge.pw_pb0417_01 w) (ktrTop dp un gd cn cs L a ccd cl outer) (call (.ref 270) [.str (nmOf i) tn, .int x t, .int c t2, .int way t3]) Q E s := by
  refine ctr_use (c_words _ _ _ _ _ _ (inB_car x0 x1 c0 c1) inB_ev inB_haf inB_nau inB_min (inB_ovr x0 x1 c0 c1) (nmOf i) x c way t tn t2 t3 d2 o2 (fun t tn t2 d1 d2 d3 o1 o2 o3 => c_due hi x0 x1 c0 c1 t tn t2 d1 d2 d3 o1 o2 o3)) B F X (fun q hq => ?_) T hk hd hu ?_
  · rw [List.mem_singleton.mp hq]; exact N _ m2
  · rintro v n h' tk' ⟨b, vs, nn, lv, rfl, l, i9, rfl, rfl⟩ F' N'
    exact h b vs nn h' tk' i9 (l (d2, o2) (by simp)) F' N'
local macro_rules | `(tactic| walk_at "ctr sides") => `(tactic| ((case B => k_asm); (case F => k_asm); (case X => k_asm); (case N => k_asm); (case T => k_asm); (case hk => first | exact rfl | assumption); (case hd => ktr_room); (case hu => ktr_units)))
local macro_rules | `(tactic| walk_at "call ref") => `(tactic| (k_here; k_dflt (refine' c_digits ?B ?F ?X ?N ?T ?hk ?hd ?hu ?q1 ?q2 ?q3 ?_; walk_at "ctr sides"; (case q1 => k_asm); (case q2 => k_asm); (case q3 => omega)); intro b9 x9 t9 nn9 h9 tk9 F9 N9; try k_fold))
local macro_rules | `(tactic| walk_at "call ref") => `(tactic| (k_here; k_dflt (refine' ctr_use (c_digit _ _ _ _ _ _ ?m1 ?m2 _ _ ?U) ?B ?F ?X ?N ?T ?hk ?hd ?hu ?_; walk_at "ctr sides"; (case U => k_updF); (case m1 => decide); (case m2 => decide)); k_extra "dig"))
theorem c_combB {h0 h1 h2 h3 h4 h5 h6 : Int} {k0 k1 k2 k3 k4 k5 k6 : Tok} {a0 a1 a2 a3 a4 a5 a6 : Int} {t0 t1 t2 t3 t4 t5 t6 : Tok} {fl dx : Addr} {i : Nat} {x y : Int} {tn tx ty tw : Tok} (hi : i < 9) (x0 : 0 ≤ x) (x1 : x < 256) (y0 : 0 ≤ y) (y1 : y < 256) (c0 : 0 ≤ a0) (c1 : a0 < 2) (e0 : 0 ≤ a6) (e1 : a6 < 2) : CtrF 12 208 [.ref fl, .str (nmOf i) tn, .int x tx, .int y ty, .int 8 tw] fl dx (fD h0 h1 h2 h3 h4 h5 h6 k0 k1 k2 k3 k4 k5 k6 a0 a1 a2 a3 a4 a5 a6 t0 t1 t2 t3 t4 t5 t6) (fun v o' => Bits (cflags i x y a0 a6) ∧ FR h0 h1 h2 h3 h4 h5 h6 k0 k1 k2 k3 k4 k5 k6 (cres i x y a0) (cflags i x y a0 a6) v o') := by
  intro news g U hq w p loose mean mg mb dp un gd cn cs a ccd cl outer A₀ base h₀ L m s Q E B F X N T hk hd hu hret
  refine ctr_use (c_comb hi news g U hq) B F X N T hk hd hu ?_
  rintro v n h' tk' ⟨o', r, rfl⟩ F' N'
  exact hret v _ h' tk' ⟨o', ⟨bits_cflags hi x0 x1 y0 y1 c0 c1 e0 e1, r⟩, rfl⟩ F' N'
theorem c_packV {h0 h1 h2 h3 h4 h5 h6 : Int} {k0 k1 k2 k3 k4 k5 k6 : Tok} {V : V7} {t0 t1 t2 t3 t4 t5 t6 : Tok} {fl dx : Addr} (B : Bits V) : CtrF 3 124 [.ref fl] fl dx (fD h0 h1 h2 h3 h4 h5 h6 k0 k1 k2 k3 k4 k5 k6 V.cf V.pf V.af V.zf V.sf V.ov V.df t0 t1 t2 t3 t4 t5 t6) (fun v o' => o' = fD h0 h1 h2 h3 h4 h5 h6 k0 k1 k2 k3 k4 k5 k6 V.cf V.pf V.af V.zf V.sf V.ov V.df t0 t1 t2 t3 t4 t5 t6 ∧ ∃ t, v = .int (pk V) t) :=
  c_pack B.1 B.2.1 B.2.2.1 B.2.2.2.1 B.2.2.2.2.1 B.2.2.2.2.2.1 B.2.2.2.2.2.2
theorem cflags_df (i : Nat) (x y c d : Int) : (cflags i x y c d).df = d := by
  match i with
  | 0 => rfl
  | 1 => rfl
  | 2 => rfl
  | 3 => rfl
  | 4 => rfl
  | 5 => rfl
  | 6 => rfl
  | 7 => rfl
  | _ + 8 => rfl
/-- what holds ahead of each turn of the law's loop -/
def Turns (i : Nat) (x c way : Int) (pre rs ws : List Int) (df : Int) : Prop :=
  (rs = pre.map (fun l => cres i l x c) ∧ ws = pre.map (fcar i x c way) ∧ df = way) ∧ rs.length = pre.length ∧ ws.length = pre.length
theorem law_start (i : Nat) (x c way : Int) : Turns i x c way [] [] [] way := ⟨⟨rfl, rfl, rfl⟩, rfl, rfl⟩
theorem law_next {i : Nat} {x c way : Int} {pre rs ws : List Int} {k df : Int} (h : Turns i x c way pre rs ws df) :
    Turns i x c way (pre ++ [k]) (rs ++ [cres i k x c]) (ws ++ [pk (cflags i k x c df)]) (cflags i k x c df).df := by
  obtain ⟨⟨rfl, rfl, rfl⟩, _, _⟩ := h
  refine ⟨⟨by simp, by simp [fcar], cflags_df _ _ _ _ _⟩, by simp, by simp⟩
theorem Turns.df {i : Nat} {x c way : Int} {pre rs ws : List Int} {df : Int} (h : Turns i x c way pre rs ws df) (w0 : 0 ≤ way) (w1 : way < 2) : 0 ≤ df ∧ df < 2 := by
  rw [h.1.2.2]; exact ⟨w0, w1⟩
theorem tk_yes {i : Nat} (hi : i < 9) (h : ([Str.ofString "adc", Str.ofString "sbb"].any fun x => x == nmOf i) = true) (c : Int) : taken i c = c := by
  match i, hi with
  | 0, _ => exact absurd h (by decide +kernel)
  | 1, _ => rfl
  | 2, _ => exact absurd h (by decide +kernel)
  | 3, _ => rfl
  | 4, _ => exact absurd h (by decide +kernel)
  | 5, _ => exact absurd h (by decide +kernel)
  | 6, _ => exact absurd h (by decide +kernel)
  | 7, _ => exact absurd h (by decide +kernel)
  | 8, _ => exact absurd h (by decide +kernel)
theorem tk_no {i : Nat} (hi : i < 9) (h : ([Str.ofString "adc", Str.ofString "sbb"].any fun x => x == nmOf i) = false) (c : Int) : taken i c = 0 := by
  match i, hi with
  | 0, _ => rfl
  | 1, _ => exact absurd h (by decide +kernel)
  | 2, _ => rfl
  | 3, _ => exact absurd h (by decide +kernel)
  | 4, _ => rfl
  | 5, _ => rfl
  | 6, _ => rfl
  | 7, _ => rfl
  | 8, _ => rfl
theorem end_res {i : Nat} {x c way tk df : Int} {rs ws : List Int} (T : Turns i x c way (rangeKs 0 (256 - 0 : Int).toNat) rs ws df) (hi : i < 9) (x0 : 0 ≤ x) (x1 : x < 256) (ht : taken i c = tk) : rs = resL i x tk := by
  rw [← ht, ← res_eq hi x0 x1]
  exact T.1.1
theorem end_words {i : Nat} {x c way tk df : Int} {rs ws : List Int} (T : Turns i x c way (rangeKs 0 (256 - 0 : Int).toNat) rs ws df) (hi : i < 9) (x0 : 0 ≤ x) (x1 : x < 256) (c0 : 0 ≤ c) (c1 : c < 2) (ht : taken i c = tk) :
    ws = wordsL way (carL i x tk) (evL i x tk) (hafL i x tk) (nauL i x tk) (minL i x tk) (ovrL i x tk) := by
  rw [← ht, ← words_eq hi x0 x1 c0 c1]
  exact T.1.2.1
local macro_rules | `(tactic| walk_at "call ref") => `(tactic| (k_here; k_dflt (refine' ctr_use (c_combB ?hi ?x0 ?x1 ?y0 ?y1 ?c0 ?c1 ?e0 ?e1 _ _ ?U ?M) ?B ?F ?X ?N ?T ?hk ?hd ?hu ?_; walk_at "ctr sides"; (case M => k_mem); (case U => k_updF); (case hi => omega); (case x0 => first | assumption | omega); (case x1 => first | assumption | omega); (case y0 => assumption); (case y1 => assumption); (case c0 => assumption); (case c1 => assumption); (case e0 => exact (Turns.df (by assumption) (by assumption) (by assumption)).1); (case e1 => exact (Turns.df (by assumption) (by assumption) (by assumption)).2)); k_extra "comb"))
local macro_rules | `(tactic| walk_at "call ref") => `(tactic| (k_here; k_dflt (refine' ctr_use (c_packV ?hb _ _ ?U ?M) ?B ?F ?X ?N ?T ?hk ?hd ?hu ?_; walk_at "ctr sides"; (case M => k_mem); (case U => k_updF); (case hb => assumption)); k_extra "pack"))
local macro_rules | `(tactic| walk_at "call ref") => `(tactic| (k_here; k_dflt (refine' res_use ?B ?F ?X ?N ?T ?hk ?hd ?hu ?hi ?x0 ?x1 ?e1 ?e2 ?m1 ?m2 ?_; walk_at "ctr sides"; (case hi => omega); (case x0 => assumption); (case x1 => assumption); (case e1 => rfl); (case e2 => rfl); (case m1 => k_mem); (case m2 => k_mem)); k_extra "res"))
local macro_rules | `(tactic| walk_at "call ref") => `(tactic| (k_here; k_dflt (refine' wrd_use ?B ?F ?X ?N ?T ?hk ?hd ?hu ?hi ?x0 ?x1 ?c0 ?c1 ?e2 ?m2 ?_; walk_at "ctr sides"; (case hi => omega); (case x0 => assumption); (case x1 => assumption); (case c0 => first | assumption | decide); (case c1 => first | assumption | decide); (case e2 => rfl); (case m2 => k_mem)); k_extra "wrd"))
local macro_rules | `(tactic| walk_at "call builtin:list.append") => `(tactic| (k_here; k_dflt (show wpAny _ _ (call (Value.builtin _) [Value.ref _, _]) _ _ _); k_dflt (refine' append_K ?k1 ?k2 ?k3 ?_ ?z; (case k1 => k_asm); (case k2 => k_asm); (case k3 => k_upd); (case z => size_fits); k_whole); intro h' F' N'; (try k_sweep)))
local macro_rules | `(tactic| walk_at "callWith ref") => `(tactic| (k_here; k_dflt (first
  | ((refine' callWith_K0 ?k1 ?k2 ?_; (case k1 => (refine' Frag.In.keeps ?kX (Fr.keep ?kF); (case kF => with_reducible assumption); (case kX => with_reducible assumption))); (case k2 => k_is); k_whole; (try dsimp only [List.nil_append, List.cons_append])))
  | ((refine' callWith_K ?k1 ?k2 ?_; (case k1 => k_asm); (case k2 => k_is); k_whole)))))
theorem news_nil {h₀ h : Heap} {L : Addr} {news : List (Addr × Obj)} (_ : News h₀ L h news) : News h₀ L h [] := fun _ hp => nomatch hp
theorem gen_state {α : Type} {M : Model} {A : Around} {t : Sem α} {Q : α → Shared → Prop} {E : Value → Shared → Prop} {s : Shared} (H : ∀ tq, wpAny M A t Q E { s with toks := tq }) : wpAny M A t Q E s := H s.toks
/-- a value that two ways agree on -/
theorem cut_val {M : Model} {A : Around} {t : Sem Value} {Q : Value → Shared → Prop} {E : Value → Shared → Prop} {s : Shared} {h₀ : Heap} {L : Addr} {m : Str → Option Value} {news : List (Addr × Obj)} (z : Int) (_ : Fr h₀ L s.heap m) (_ : News h₀ L s.heap news)
    (h1 : wpAny M A t (fun v s' => ∃ tk h' tks, v = .int z tk ∧ s' = { s with heap := h', toks := tks } ∧ Fr h₀ L h' m ∧ News h₀ L h' news) E s)
    (h2 : ∀ tk h' tks, Fr h₀ L h' m → News h₀ L h' news → Q (.int z tk) { s with heap := h', toks := tks }) : wpAny M A t Q E s :=
  wpAny_mono h1 (by rintro v s' ⟨tk, h', tks, rfl, rfl, F, N⟩; exact h2 tk h' tks F N) (fun _ _ e => e)
/-- five flags that two ways leave as some ints -/
theorem cut_flags {M : Model} {A : Around} {t : Sem Flow} {Q : Flow → Shared → Prop} {E : Value → Shared → Prop} {s : Shared} {h₀ : Heap} {L : Addr} {m : Str → Option Value} {p1 p2 p3 : Addr × Obj} {rest : List (Addr × Obj)} {d : Addr} {h0 h1 h2 h3 h4 h5 h6 : Int} {k0 k1 k2 k3 k4 k5 k6 : Tok} {a0 a1 a2 a3 a4 a5 a6 : Int} {t0 t1 t2 t3 t4 t5 t6 : Tok}
    (_ : Fr h₀ L s.heap m) (_ : News h₀ L s.heap (p1 :: p2 :: p3 :: (d, fD h0 h1 h2 h3 h4 h5 h6 k0 k1 k2 k3 k4 k5 k6 a0 a1 a2 a3 a4 a5 a6 t0 t1 t2 t3 t4 t5 t6) :: rest))
    (q1 : wpAny M A t (fun f s' => f = .next ∧ ∃ h' tks a1 a2 a3 a4 a5 t1 t2 t3 t4 t5, s' = { s with heap := h', toks := tks } ∧ Fr h₀ L h' m ∧ News h₀ L h' (p1 :: p2 :: p3 :: (d, fD h0 h1 h2 h3 h4 h5 h6 k0 k1 k2 k3 k4 k5 k6 a0 a1 a2 a3 a4 a5 a6 t0 t1 t2 t3 t4 t5 t6) :: rest)) E s)
    (q2 : ∀ h' tks a1 a2 a3 a4 a5 t1 t2 t3 t4 t5, Fr h₀ L h' m → News h₀ L h' (p1 :: p2 :: p3 :: (d, fD h0 h1 h2 h3 h4 h5 h6 k0 k1 k2 k3 k4 k5 k6 a0 a1 a2 a3 a4 a5 a6 t0 t1 t2 t3 t4 t5 t6) :: rest) → Q .next { s with heap := h', toks := tks }) : wpAny M A t Q E s :=
  wpAny_mono q1 (by rintro f s' ⟨rfl, h', tks, a1, a2, a3, a4, a5, t1, t2, t3, t4, t5, rfl, F, N⟩; exact q2 _ _ _ _ _ _ _ _ _ _ _ _ F N) (fun _ _ e => e)
/-- ahead of the loop: the dead objects go, hashes and tokens become letters -/
theorem gen_led {P : Prop} {h₀ h : Heap} {L : Addr} {news : List (Addr × Obj)} {lw lr x d : Addr} {ow or ox : Obj} {h0 h1 h2 h3 h4 h5 h6 : Int} {k0 k1 k2 k3 k4 k5 k6 : Tok} {a0 a1 a2 a3 a4 a5 a6 : Int} {t0 t1 t2 t3 t4 t5 t6 : Tok}
    (N : News h₀ L h news) (m1 : (lw, ow) ∈ news) (m2 : (lr, or) ∈ news) (m3 : (x, ox) ∈ news) (m4 : (d, fD h0 h1 h2 h3 h4 h5 h6 k0 k1 k2 k3 k4 k5 k6 a0 a1 a2 a3 a4 a5 a6 t0 t1 t2 t3 t4 t5 t6) ∈ news)
    (k : ∀ h0 h1 h2 h3 h4 h5 h6 k0 k1 k2 k3 k4 k5 k6 t0 t1 t2 t3 t4 t5 t6, News h₀ L h [(lw, ow), (lr, or), (x, ox), (d, fD h0 h1 h2 h3 h4 h5 h6 k0 k1 k2 k3 k4 k5 k6 a0 a1 a2 a3 a4 a5 a6 t0 t1 t2 t3 t4 t5 t6)] → P) : P :=
  k _ _ _ _ _ _ _ _ _ _ _ _ _ _ _ _ _ _ _ _ _ fun p hp => by
    rcases List.mem_cons.mp hp with rfl | hp
    · exact N _ m1
    · rcases List.mem_cons.mp hp with rfl | hp
      · exact N _ m2
      · rcases List.mem_cons.mp hp with rfl | hp
        · exact N _ m3
        · rw [List.mem_singleton.mp hp]
          exact N _ m4
set_option maxHeartbeats 8000000 in
theorem law_holds : PySem.Challenge.rw_pb0417_01.Holds := by
  refine hlaw fun said => ?_
  refine holds_open (q := qq) (loose := [Str.ofString "MintError"]) (Xt := fun s => xlAt qq [] s && recOk (RowW.records rr.toRowW) s) (XP := XL qq []) (Yf := Hook.obs (kHook kk asOf asE)) (Ya := Hook.val (kHook kk asOf asE)) (YP := Hook.says (kHook kk asOf asE)) (N := 3618) hl (Hook.of (kHook kk asOf asE)) (Hook.keeps (kHook kk asOf asE)) (fun s e => xl_of s (Bool.and_eq_true_iff.mp e).1) XL.keeps (by rfl) (by rfl) (by rfl) (fun s e => recFacts_of (Bool.and_eq_true_iff.mp e).2) (by rfl) (by first | assumption | decide +kernel) (by decide +kernel) ⟨rfl, rfl, rfl, rfl, rfl, by decide +kernel⟩ ?hw ?hc
  case hw => w_witness2
  case hc =>
  clear said
  w_top off
  k_go0
  (all_goals try k_fold)
  k_with "dig" => (intro v9 n9 h9 tk9 R9 F9 N9; (first
    | (have hj := junk1; (obtain ⟨o9, ⟨way, tway, x9, t8, nn9, e9, way0, way1, s9⟩, f9⟩ := R9))
    | (have hj := carry1; (obtain ⟨o9, ⟨junk, tjunk, x9, t8, nn9, e9, junk0, junk1, s9⟩, f9⟩ := R9))
    | (have hj := octet1; (obtain ⟨o9, ⟨carry, tcarry, x9, t8, nn9, e9, carry0, carry1, s9⟩, f9⟩ := R9))
    | (have hj := inm1; (obtain ⟨o9, ⟨octet, toctet, x9, t8, nn9, e9, octet0, octet1, s9⟩, f9⟩ := R9))
    | (obtain ⟨o9, ⟨inm, tinm, x9, t8, nn9, e9, inm0, inm1, s9⟩, f9⟩ := R9)); subst e9; subst s9; subst f9; (try dsimp only at N9); (try dsimp only); (try k_fold))
  repeat' ((fail_if_success (with_reducible show wpAny _ _ (exec (Stmt.Assign _ (PySem.Expr.Tuple _ _ _) _) _) _ _ _)); first | (k_unfold; (try dsimp only)) | (k_end; wrow_close) | walk1 | (dsimp only; walk1) | (leave1; try dsimp only) | fail "no step")
  rename News _ _ _ _ => lN'
  have lN2 := news_tl lN'
  clear lN'
  walk1
  repeat' ((fail_if_success (with_reducible show wpAny _ _ (exec (Stmt.Assign _ (PySem.Expr.Tuple _ _ _) _) _) _ _ _)); first | (k_unfold; (try dsimp only)) | (k_end; wrow_close) | walk1 | (dsimp only; walk1) | (leave1; try dsimp only) | fail "no step")
  rename News _ _ _ _ => lN'
  have lN2 := news_nil lN'
  clear lN'
  walk1
  repeat' ((fail_if_success (with_reducible show wpAny _ _ (exec (Stmt.For _ _ _ _ _) _) _ _ _)); first | (k_unfold; (try dsimp only)) | (k_end; wrow_close) | walk1 | (dsimp only; walk1) | (leave1; try dsimp only) | fail "no step")
  rename News _ _ _ _ => lN'
  refine gen_led lN' (.tail _ (.head _)) (.tail _ (.tail _ (.head _))) (.tail _ (.tail _ (.tail _ (.head _)))) (.tail _ (.tail _ (.tail _ (.tail _ (.head _))))) ?_
  intro g0 g1 g2 g3 g4 g5 g6 k0 k1 k2 k3 k4 k5 k6 t0 t1 t2 t3 t4 t5 t6 lN2
  clear lN'
  dsimp only [fD] at lN2
  refine gen_state fun tq => ?_
  dsimp only
  have hnm := nm_is inm0 inm1
  generalize List.getD _ _ Str.empty = nm at *
  subst hnm
  k_with "comb" => (intro v9 n9 h9 tk9 R9 F9 N9; (obtain ⟨o9, ⟨hB, t9, u0, u1, u2, u3, u4, u5, u6, e9, q9⟩, f9⟩ := R9; subst e9; subst q9; subst f9); (try dsimp only [fD] at N9); (try dsimp only); (try k_fold))
  k_with "pack" => (intro v9 n9 h9 tk9 R9 F9 N9; (obtain ⟨o9, ⟨q9, t9, e9⟩, f9⟩ := R9; subst e9; subst q9; subst f9); (try dsimp only [fD] at N9); (try dsimp only); (try k_fold))
  k_with "state" => first | exact ⟨law_start _ _ _ _, rfl, rfl⟩ | exact ⟨law_next (by assumption), (law_next (k := _) (by assumption)).2.1, (law_next (by assumption)).2.2⟩
  k_with "pyIter ref" => k_state (fun (pre : List Int) (rs ws : List Int) (cf pf af zf sf ov df : Int) => Turns inm.toNat octet carry way pre rs ws df ∧ rs.length = pre.length ∧ ws.length = pre.length) "results" "words" "flags.cf" "flags.pf" "flags.af" "flags.zf" "flags.sf" "flags.of" "flags.df"
  k_with "res" => (intro b9 vs9 nn9 h9 tk9 I9 l8 l9 F9 N9; (try dsimp only); (try k_fold))
  k_with "wrd" => (intro b9 vs9 nn9 h9 tk9 I9 l9 F9 N9; (try dsimp only); (try k_fold))
  repeat' ((fail_if_success (with_reducible show wpAny _ _ (exec (Stmt.If _ _ _ _) _) _ _ _)); (fail_if_success (with_reducible show wpAny _ _ (eval (PySem.Expr.IfExp _ _ _ _) _) _ _ _)); first | (k_unfold; (try dsimp only)) | (k_end; kc_close) | walk1 | (dsimp only; walk1) | (leave1; (try dsimp only)) | fail "no step")
  · rename Fr _ _ _ _ => lF'
    rename News _ _ _ _ => lN'
    refine cut_flags lF' lN' ?_ ?_
    · repeat' ((fail_if_success (show _ ∧ _)); first | (k_unfold; (try dsimp only)) | (k_end; kc_close) | walk1 | (dsimp only; walk1) | (leave1; (try dsimp only)) | fail "no step")
      all_goals exact ⟨rfl, _, _, _, _, _, _, _, _, _, _, _, _, rfl, by k_asm, by first | k_asm | exact news_tl (by k_asm)⟩
    · clear lF' lN'
      intro h9 tk9 b1 b2 b3 b4 b5 u1 u2 u3 u4 u5 F9 N9
      dsimp only [fD] at N9
      dsimp only
      repeat' (first | (k_unfold; (try dsimp only)) | (k_end; kc_close) | walk1 | (dsimp only; walk1) | (leave1; (try dsimp only)) | fail "no step")
  · rename Fr _ _ _ _ => lF'
    rename News _ _ _ _ => lN'
    refine cut_val (taken inm.toNat carry) lF' lN' ?_ ?_
    · repeat' ((fail_if_success (show ∃ _, _)); first | (k_unfold; (try dsimp only)) | (k_end; kc_close) | walk1 | (dsimp only; walk1) | (leave1; (try dsimp only)) | fail "no step")
      · exact ⟨_, _, _, by rw [tk_yes (by omega) (by assumption)], rfl, by k_asm, by first | k_asm | exact news_tl (by k_asm)⟩
      · exact ⟨_, _, _, by rw [tk_no (by omega) (by assumption)], rfl, by k_asm, by first | k_asm | exact news_tl (by k_asm)⟩
    · clear lF' lN'
      intro tk9 h9 tks9 F9 N9
      dsimp only
      obtain ⟨tn0, tn1⟩ := taken_rng (i := inm.toNat) carry0 carry1
      generalize htn : taken inm.toNat carry = tn at *
      repeat' ((fail_if_success (with_reducible show PySem.W.GoodW _ _ _ _ _ _ _)); first | (k_unfold; (try dsimp only)) | (k_end; kc_close) | walk1 | (dsimp only; walk1) | (leave1; (try dsimp only)) | fail "no step")
      k_with_none
      · rw [decide_eq_true (end_words (by assumption) (by omega) octet0 octet1 carry0 carry1 htn)]
        kc_close
      · exact absurd (end_res (by assumption) (by omega) octet0 octet1 htn) (by assumption)
end Mine

theorem PySem.Challenge.cw_pb0417_01_holds : PySem.Challenge.rw_pb0417_01.Holds :=
  Mine.law_holds
