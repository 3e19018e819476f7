import PyProof.Rows.All
import Wide.All
import OpenK.AllK
import Wide.FinOn
import PySem.Challenge.RW_pb0258_01
set_option Elab.async false
namespace Mine
/-! ## the final heap, as objects -/
section
open PySem PySem.W PyProof.Rows
set_option maxRecDepth 100000
set_option maxHeartbeats 8000000
noncomputable abbrev pw : Program := PySem.Challenge.pw_pb0258_01
noncomputable def nthS : List Stmt → Nat → Stmt
  | [], _ => .Pass ⟨0, 0, 0, 0⟩
  | s :: _, 0 => s
  | _ :: r, n + 1 => nthS r n
noncomputable def bodyOf : Stmt → List Stmt
  | .FunctionDef _ _ b _ _ _ _ _ _ _ => b
  | .ClassDef _ _ _ b _ _ _ _ _ _ _ => b
  | _ => []
noncomputable def argsOf : Stmt → Arguments
  | .FunctionDef _ a _ _ _ _ _ _ _ _ => a
  | _ => { posonlyargs := [], args := [], vararg := none, kwonlyargs := [], kw_defaults := [], kwarg := none, defaults := [] }
noncomputable def scopeOf : Stmt → Scope
  | .FunctionDef _ _ _ _ _ _ s _ _ _ => s
  | _ => pw.main.scope
noncomputable def constOf : PySem.Expr → Str
  | .Constant (.str x) _ _ => x
  | _ => Str.ofString ""
noncomputable def strOf : Stmt → Str
  | .Assign _ v _ => constOf v
  | _ => Str.ofString ""
noncomputable def nthE : List PySem.Expr → Nat → Str
  | [], _ => Str.ofString ""
  | s :: _, 0 => constOf s
  | _ :: r, n + 1 => nthE r n
noncomputable def eltOf : Stmt → Nat → Str
  | .Assign _ (.Tuple es _ _) _, n => nthE es n
  | _, _ => Str.ofString ""
noncomputable def st9 (i : Nat) : Stmt := nthS pw.main.body i
noncomputable def ob2 : Params → Obj := fun P => (Obj.mk Value.none none (Data.dict (List.toArray [(DictEntry.mk (PyData.keyHash P (Str.ofString "type.__subclasses__.Exception.0")) (Value.str (Str.ofString "type.__subclasses__.Exception.0") 376) (Value.int (130 : Int) 0)), (DictEntry.mk (PyData.keyHash P (Str.ofString "type.__subclasses__.Exception.n")) (Value.str (Str.ofString "type.__subclasses__.Exception.n") 377) (Value.int (1 : Int) 0))]) 2) (List.toArray []))
noncomputable def ob3 : Params → Obj := fun P => (Obj.mk (Value.type "dict") none (Data.dict (List.toArray [(DictEntry.mk (PyData.keyHash P (Str.ofString "__name__")) (Value.str (Str.ofString "__name__") 165) (Value.str (Str.ofString "law_pb0258_01") 740)), (DictEntry.mk (PyData.keyHash P (Str.ofString "__doc__")) (Value.str (Str.ofString "__doc__") 166) Value.none), (DictEntry.mk (PyData.keyHash P (Str.ofString "__package__")) (Value.str (Str.ofString "__package__") 167) Value.none), (DictEntry.mk (PyData.keyHash P (Str.ofString "__loader__")) (Value.str (Str.ofString "__loader__") 168) (Value.builtin "__main__.__loader__#opaque")), (DictEntry.mk (PyData.keyHash P (Str.ofString "__spec__")) (Value.str (Str.ofString "__spec__") 169) Value.none), (DictEntry.mk (PyData.keyHash P (Str.ofString "__annotations__")) (Value.str (Str.ofString "__annotations__") 170) (Value.ref 6)), (DictEntry.mk (PyData.keyHash P (Str.ofString "__builtins__")) (Value.str (Str.ofString "__builtins__") 171) (Value.ref 4)), (DictEntry.mk (PyData.keyHash P (Str.ofString "__file__")) (Value.str (Str.ofString "__file__") 173) (Value.str (Str.ofString "/claim/cut.py") 172)), (DictEntry.mk (PyData.keyHash P (Str.ofString "__cached__")) (Value.str (Str.ofString "__cached__") 174) Value.none), (DictEntry.mk (PyData.keyHash P (Str.ofString "_wall")) (Value.str (Str.ofString "_wall") 193) (Value.ref 21)), (DictEntry.mk (PyData.keyHash P (Str.ofString "MOST_NEST")) (Value.str (Str.ofString "MOST_NEST") 197) (Value.int (12 : Int) 196)), (DictEntry.mk (PyData.keyHash P (Str.ofString "VERBS")) (Value.str (Str.ofString "VERBS") 231) (Value.ref 22)), (DictEntry.mk (PyData.keyHash P (Str.ofString "Paragraph")) (Value.str (Str.ofString "Paragraph") 271) (Value.ref 46)), (DictEntry.mk (PyData.keyHash P (Str.ofString "read_continue")) (Value.str (Str.ofString "read_continue") 279) (Value.ref 57)), (DictEntry.mk (PyData.keyHash P (Str.ofString "is_verb_here")) (Value.str (Str.ofString "is_verb_here") 286) (Value.ref 64)), (DictEntry.mk (PyData.keyHash P (Str.ofString "body_at")) (Value.str (Str.ofString "body_at") 296) (Value.ref 71)), (DictEntry.mk (PyData.keyHash P (Str.ofString "statement_at")) (Value.str (Str.ofString "statement_at") 307) (Value.ref 78)), (DictEntry.mk (PyData.keyHash P (Str.ofString "is_head")) (Value.str (Str.ofString "is_head") 315) (Value.ref 85)), (DictEntry.mk (PyData.keyHash P (Str.ofString "is_end")) (Value.str (Str.ofString "is_end") 322) (Value.ref 92)), (DictEntry.mk (PyData.keyHash P (Str.ofString "read_head")) (Value.str (Str.ofString "read_head") 331) (Value.ref 99)), (DictEntry.mk (PyData.keyHash P (Str.ofString "rows_here")) (Value.str (Str.ofString "rows_here") 337) (Value.ref 104)), (DictEntry.mk (PyData.keyHash P (Str.ofString "LedgerError")) (Value.str (Str.ofString "LedgerError") 379) (Value.ref 130)), (DictEntry.mk (PyData.keyHash P (Str.ofString "TokenFault")) (Value.str (Str.ofString "TokenFault") 395) (Value.ref 143)), (DictEntry.mk (PyData.keyHash P (Str.ofString "GrammarFault")) (Value.str (Str.ofString "GrammarFault") 411) (Value.ref 155)), (DictEntry.mk (PyData.keyHash P (Str.ofString "FIGURES")) (Value.str (Str.ofString "FIGURES") 415) (Value.str (Str.ofString "0123456789") 414)), (DictEntry.mk (PyData.keyHash P (Str.ofString "cut_quotient")) (Value.str (Str.ofString "cut_quotient") 423) (Value.ref 164)), (DictEntry.mk (PyData.keyHash P (Str.ofString "decimal")) (Value.str (Str.ofString "decimal") 432) (Value.ref 172)), (DictEntry.mk (PyData.keyHash P (Str.ofString "units_at")) (Value.str (Str.ofString "units_at") 443) (Value.ref 179)), (DictEntry.mk (PyData.keyHash P (Str.ofString "is_whole")) (Value.str (Str.ofString "is_whole") 450) (Value.ref 186)), (DictEntry.mk (PyData.keyHash P (Str.ofString "whole_of")) (Value.str (Str.ofString "whole_of") 457) (Value.ref 193)), (DictEntry.mk (PyData.keyHash P (Str.ofString "worth_of")) (Value.str (Str.ofString "worth_of") 466) (Value.ref 200)), (DictEntry.mk (PyData.keyHash P (Str.ofString "read_decimal")) (Value.str (Str.ofString "read_decimal") 479) (Value.ref 207)), (DictEntry.mk (PyData.keyHash P (Str.ofString "RESERVED")) (Value.str (Str.ofString "RESERVED") 483) (Value.str (strOf (st9 27)) 482)), (DictEntry.mk (PyData.keyHash P (Str.ofString "is_reserved")) (Value.str (Str.ofString "is_reserved") 490) (Value.ref 214)), (DictEntry.mk (PyData.keyHash P (Str.ofString "Reader")) (Value.str (Str.ofString "Reader") 693) (Value.ref 383)), (DictEntry.mk (PyData.keyHash P (Str.ofString "Token")) (Value.str (Str.ofString "Token") 739) (Value.ref 413)), (DictEntry.mk (PyData.keyHash P (Str.ofString "_law_sentences")) (Value.str (Str.ofString "_law_sentences") 751) (Value.ref 424)), (DictEntry.mk (PyData.keyHash P (Str.ofString "_law_laid")) (Value.str (Str.ofString "_law_laid") 757) (Value.ref 429)), (DictEntry.mk (PyData.keyHash P (Str.ofString "_law_rows")) (Value.str (Str.ofString "_law_rows") 763) (Value.ref 434)), (DictEntry.mk (PyData.keyHash P (Str.ofString "law")) (Value.str (Str.ofString "law") 769) (Value.ref 439))]) 40) (List.toArray []))
noncomputable def ob11 : Params → Obj := fun P => (Obj.mk (Value.type "tuple") none (Data.seq (List.toArray []) 0) (List.toArray []))
noncomputable def ob12 : Params → Obj := fun P => (Obj.mk Value.none none (Data.fields (List.toArray [(Value.int (1 : Int) 0), (Value.int (0 : Int) 0), (Value.ref 20), (Value.int (7 : Int) 0), (Value.int (0 : Int) 0), (Value.ref 28), (Value.int (16 : Int) 0), (Value.int (0 : Int) 0), (Value.ref 56), (Value.int (19 : Int) 0), (Value.int (0 : Int) 0), (Value.ref 63), (Value.int (21 : Int) 0), (Value.int (0 : Int) 0), (Value.ref 70), (Value.int (26 : Int) 0), (Value.int (0 : Int) 0), (Value.ref 77), (Value.int (32 : Int) 0), (Value.int (0 : Int) 0), (Value.ref 84), (Value.int (37 : Int) 0), (Value.int (0 : Int) 0), (Value.ref 91), (Value.int (41 : Int) 0), (Value.int (0 : Int) 0), (Value.ref 98), (Value.int (50 : Int) 0), (Value.int (0 : Int) 0), (Value.ref 103), (Value.int (66 : Int) 0), (Value.int (0 : Int) 0), (Value.ref 110), (Value.int (75 : Int) 0), (Value.int (0 : Int) 0), (Value.ref 139), (Value.int (77 : Int) 0), (Value.int (0 : Int) 0), (Value.ref 151), (Value.int (81 : Int) 0), (Value.int (0 : Int) 0), (Value.ref 163), (Value.int (85 : Int) 0), (Value.int (0 : Int) 0), (Value.ref 171), (Value.int (92 : Int) 0), (Value.int (0 : Int) 0), (Value.ref 178), (Value.int (100 : Int) 0), (Value.int (0 : Int) 0), (Value.ref 185), (Value.int (102 : Int) 0), (Value.int (0 : Int) 0), (Value.ref 192), (Value.int (104 : Int) 0), (Value.int (0 : Int) 0), (Value.ref 199), (Value.int (109 : Int) 0), (Value.int (0 : Int) 0), (Value.ref 206), (Value.int (126 : Int) 0), (Value.int (0 : Int) 0), (Value.ref 213), (Value.int (128 : Int) 0), (Value.int (0 : Int) 0), (Value.ref 220), (Value.int (235 : Int) 0), (Value.int (0 : Int) 0), (Value.ref 393), (Value.int (246 : Int) 0), (Value.int (0 : Int) 0), (Value.ref 423), (Value.int (251 : Int) 0), (Value.int (0 : Int) 0), (Value.ref 428), (Value.int (265 : Int) 0), (Value.int (0 : Int) 0), (Value.ref 433), (Value.int (267 : Int) 0), (Value.int (0 : Int) 0), (Value.ref 438)])) (List.toArray []))
noncomputable def ob13 : Params → Obj := fun P => (Obj.mk (Value.type "code") none (Data.fields (List.toArray [(Value.str (Str.ofString "<module>") 182), (Value.str (Str.ofString "<module>") 183), (Value.str (Str.ofString "/claim/cut.py") 184), (Value.int (1 : Int) 0), (Value.int (0 : Int) 0), (Value.int (0 : Int) 0), (Value.int (0 : Int) 0), (Value.int (0 : Int) 0), (Value.ref 11), (Value.bool Bool.false), (Value.int (181 : Int) 0), (Value.ref 12), Value.none, Value.none, Value.none, Value.none, (Value.int (185 : Int) 0), (Value.int (1 : Int) 0), (Value.str (Str.ofString "/claim/cut.py") 186)])) (List.toArray []))
noncomputable def ob14 : Params → Obj := fun P => (Obj.mk (Value.type "frame") none Data.plain (List.toArray [(some (Value.ref 13)), (some (Value.ref 3)), (some (Value.ref 3)), none, (some (Value.str (Str.ofString "__main__") 164)), none, (some (Value.ref 0))]))
noncomputable def ob15 : Params → Obj := fun P => (Obj.mk (Value.type "tuple") none (Data.seq (List.toArray []) 0) (List.toArray []))
noncomputable def ob16 : Params → Obj := fun P => (Obj.mk Value.none none (Data.fields (List.toArray [])) (List.toArray []))
noncomputable def ob17 : Params → Obj := fun P => (Obj.mk (Value.type "tuple") none (Data.seq (List.toArray [(Value.str (Str.ofString "k") 190)]) 0) (List.toArray []))
noncomputable def ob18 : Params → Obj := fun P => (Obj.mk (Value.type "tuple") none (Data.seq (List.toArray []) 0) (List.toArray []))
noncomputable def ob19 : Params → Obj := fun P => (Obj.mk Value.none none (Data.func (FuncData.mk (Str.ofString "_wall") (Str.ofString "_wall") (argsOf (st9 0)) (FuncBody.stmts (bodyOf (st9 0))) (scopeOf (st9 0)) 0 [] Value.none Value.none Value.none Value.none none Value.none Value.none 0)) (List.toArray []))
noncomputable def ob20 : Params → Obj := fun P => (Obj.mk (Value.type "code") none (Data.fields (List.toArray [(Value.str (Str.ofString "_wall") 187), (Value.str (Str.ofString "_wall") 188), (Value.str (Str.ofString "/claim/cut.py") 189), (Value.int (1 : Int) 0), (Value.int (1 : Int) 0), (Value.int (0 : Int) 0), (Value.int (0 : Int) 0), (Value.int (3 : Int) 0), (Value.ref 15), (Value.bool Bool.true), (Value.int (181 : Int) 0), (Value.ref 16), Value.none, (Value.ref 17), (Value.ref 18), (Value.ref 19), (Value.int (191 : Int) 0), (Value.int (1 : Int) 0), (Value.str (Str.ofString "/claim/cut.py") 192)])) (List.toArray []))
noncomputable def ob21 : Params → Obj := fun P => (Obj.mk (Value.type "function") none (Data.func (FuncData.mk (Str.ofString "_wall") (Str.ofString "_wall") (argsOf (st9 0)) (FuncBody.stmts (bodyOf (st9 0))) (scopeOf (st9 0)) 3 [] Value.none Value.none Value.none (Value.str (Str.ofString "__main__") 164) none (Value.ref 20) Value.none 0)) (List.toArray []))
noncomputable def ob22 : Params → Obj := fun P => (Obj.mk (Value.type "tuple") none (Data.seq (List.toArray [(Value.str (eltOf (st9 3) 0) 198), (Value.str (eltOf (st9 3) 1) 199), (Value.str (eltOf (st9 3) 2) 200), (Value.str (eltOf (st9 3) 3) 201), (Value.str (eltOf (st9 3) 4) 202), (Value.str (eltOf (st9 3) 5) 203), (Value.str (eltOf (st9 3) 6) 204), (Value.str (eltOf (st9 3) 7) 205), (Value.str (eltOf (st9 3) 8) 206), (Value.str (eltOf (st9 3) 9) 207), (Value.str (eltOf (st9 3) 10) 208), (Value.str (eltOf (st9 3) 11) 209), (Value.str (eltOf (st9 3) 12) 210), (Value.str (eltOf (st9 3) 13) 211), (Value.str (eltOf (st9 3) 14) 212), (Value.str (eltOf (st9 3) 15) 213), (Value.str (eltOf (st9 3) 16) 214), (Value.str (eltOf (st9 3) 17) 215), (Value.str (eltOf (st9 3) 18) 216), (Value.str (eltOf (st9 3) 19) 217), (Value.str (eltOf (st9 3) 20) 218), (Value.str (eltOf (st9 3) 21) 219), (Value.str (eltOf (st9 3) 22) 220), (Value.str (eltOf (st9 3) 23) 221), (Value.str (eltOf (st9 3) 24) 222), (Value.str (eltOf (st9 3) 25) 223), (Value.str (eltOf (st9 3) 26) 224), (Value.str (eltOf (st9 3) 27) 225), (Value.str (eltOf (st9 3) 28) 226), (Value.str (eltOf (st9 3) 29) 227), (Value.str (eltOf (st9 3) 30) 228), (Value.str (eltOf (st9 3) 31) 229), (Value.str (eltOf (st9 3) 32) 230)]) 0) (List.toArray []))
noncomputable def ob23 : Params → Obj := fun P => (Obj.mk (Value.type "tuple") none (Data.seq (List.toArray []) 0) (List.toArray []))
noncomputable def ob24 : Params → Obj := fun P => (Obj.mk (Value.type "builtin_function_or_method") none (Data.fields (List.toArray [(Value.builtin "type.__prepare__"), (Value.type "type")])) (List.toArray []))
noncomputable def ob25 : Params → Obj := fun P => (Obj.mk (Value.type "dict") none (Data.dict (List.toArray [(DictEntry.mk (PyData.keyHash P (Str.ofString "__module__")) (Value.str (Str.ofString "__module__") 239) (Value.str (Str.ofString "ledgerspeak.procread") 194)), (DictEntry.mk (PyData.keyHash P (Str.ofString "__qualname__")) (Value.str (Str.ofString "__qualname__") 241) (Value.str (Str.ofString "Paragraph") 240)), (DictEntry.mk (PyData.keyHash P (Str.ofString "__firstlineno__")) (Value.str (Str.ofString "__firstlineno__") 243) (Value.int (7 : Int) 242)), (DictEntry.mk (PyData.keyHash P (Str.ofString "__init__")) (Value.str (Str.ofString "__init__") 253) (Value.ref 36)), (DictEntry.mk (PyData.keyHash P (Str.ofString "told")) (Value.str (Str.ofString "told") 260) (Value.ref 43)), (DictEntry.mk (PyData.keyHash P (Str.ofString "__static_attributes__")) (Value.str (Str.ofString "__static_attributes__") 264) (Value.ref 44))]) 6) (List.toArray []))
noncomputable def ob26 : Params → Obj := fun P => (Obj.mk (Value.type "tuple") none (Data.seq (List.toArray []) 0) (List.toArray []))
noncomputable def ob27 : Params → Obj := fun P => (Obj.mk Value.none none (Data.fields (List.toArray [(Value.int (9 : Int) 0), (Value.int (4 : Int) 0), (Value.ref 35), (Value.int (14 : Int) 0), (Value.int (4 : Int) 0), (Value.ref 42)])) (List.toArray []))
noncomputable def ob28 : Params → Obj := fun P => (Obj.mk (Value.type "code") none (Data.fields (List.toArray [(Value.str (Str.ofString "Paragraph") 234), (Value.str (Str.ofString "Paragraph") 235), (Value.str (Str.ofString "/claim/cut.py") 236), (Value.int (7 : Int) 0), (Value.int (0 : Int) 0), (Value.int (0 : Int) 0), (Value.int (0 : Int) 0), (Value.int (0 : Int) 0), (Value.ref 26), (Value.bool Bool.false), (Value.int (181 : Int) 0), (Value.ref 27), Value.none, Value.none, Value.none, Value.none, (Value.int (237 : Int) 0), (Value.int (7 : Int) 0), (Value.str (Str.ofString "/claim/cut.py") 238)])) (List.toArray []))
noncomputable def ob29 : Params → Obj := fun P => (Obj.mk (Value.type "frame") none Data.plain (List.toArray [(some (Value.ref 28)), (some (Value.ref 3)), (some (Value.ref 25)), none, (some (Value.str (Str.ofString "ledgerspeak.procread") 194)), none, (some (Value.ref 0))]))
noncomputable def ob30 : Params → Obj := fun P => (Obj.mk (Value.type "tuple") none (Data.seq (List.toArray []) 0) (List.toArray []))
noncomputable def ob31 : Params → Obj := fun P => (Obj.mk Value.none none (Data.fields (List.toArray [])) (List.toArray []))
noncomputable def ob32 : Params → Obj := fun P => (Obj.mk (Value.type "tuple") none (Data.seq (List.toArray [(Value.str (Str.ofString "self") 247), (Value.str (Str.ofString "name") 248), (Value.str (Str.ofString "section") 249), (Value.str (Str.ofString "statements") 250)]) 0) (List.toArray []))
noncomputable def ob33 : Params → Obj := fun P => (Obj.mk (Value.type "tuple") none (Data.seq (List.toArray []) 0) (List.toArray []))
noncomputable def ob34 : Params → Obj := fun P => (Obj.mk Value.none none (Data.func (FuncData.mk (Str.ofString "__init__") (Str.ofString "Paragraph.__init__") (argsOf (nthS (bodyOf (st9 4)) 0)) (FuncBody.stmts (bodyOf (nthS (bodyOf (st9 4)) 0))) (scopeOf (nthS (bodyOf (st9 4)) 0)) 0 [] Value.none Value.none Value.none Value.none none Value.none Value.none 0)) (List.toArray []))
noncomputable def ob35 : Params → Obj := fun P => (Obj.mk (Value.type "code") none (Data.fields (List.toArray [(Value.str (Str.ofString "__init__") 244), (Value.str (Str.ofString "Paragraph.__init__") 245), (Value.str (Str.ofString "/claim/cut.py") 246), (Value.int (9 : Int) 0), (Value.int (4 : Int) 0), (Value.int (0 : Int) 0), (Value.int (0 : Int) 0), (Value.int (3 : Int) 0), (Value.ref 30), (Value.bool Bool.true), (Value.int (181 : Int) 0), (Value.ref 31), Value.none, (Value.ref 32), (Value.ref 33), (Value.ref 34), (Value.int (251 : Int) 0), (Value.int (9 : Int) 0), (Value.str (Str.ofString "/claim/cut.py") 252)])) (List.toArray []))
noncomputable def ob36 : Params → Obj := fun P => (Obj.mk (Value.type "function") none (Data.func (FuncData.mk (Str.ofString "__init__") (Str.ofString "Paragraph.__init__") (argsOf (nthS (bodyOf (st9 4)) 0)) (FuncBody.stmts (bodyOf (nthS (bodyOf (st9 4)) 0))) (scopeOf (nthS (bodyOf (st9 4)) 0)) 3 [] Value.none Value.none Value.none (Value.str (Str.ofString "ledgerspeak.procread") 194) none (Value.ref 35) Value.none 0)) (List.toArray []))
noncomputable def ob37 : Params → Obj := fun P => (Obj.mk (Value.type "tuple") none (Data.seq (List.toArray []) 0) (List.toArray []))
noncomputable def ob38 : Params → Obj := fun P => (Obj.mk Value.none none (Data.fields (List.toArray [])) (List.toArray []))
noncomputable def ob39 : Params → Obj := fun P => (Obj.mk (Value.type "tuple") none (Data.seq (List.toArray [(Value.str (Str.ofString "self") 257)]) 0) (List.toArray []))
noncomputable def ob40 : Params → Obj := fun P => (Obj.mk (Value.type "tuple") none (Data.seq (List.toArray []) 0) (List.toArray []))
noncomputable def ob41 : Params → Obj := fun P => (Obj.mk Value.none none (Data.func (FuncData.mk (Str.ofString "told") (Str.ofString "Paragraph.told") (argsOf (nthS (bodyOf (st9 4)) 1)) (FuncBody.stmts (bodyOf (nthS (bodyOf (st9 4)) 1))) (scopeOf (nthS (bodyOf (st9 4)) 1)) 0 [] Value.none Value.none Value.none Value.none none Value.none Value.none 0)) (List.toArray []))
noncomputable def ob42 : Params → Obj := fun P => (Obj.mk (Value.type "code") none (Data.fields (List.toArray [(Value.str (Str.ofString "told") 254), (Value.str (Str.ofString "Paragraph.told") 255), (Value.str (Str.ofString "/claim/cut.py") 256), (Value.int (14 : Int) 0), (Value.int (1 : Int) 0), (Value.int (0 : Int) 0), (Value.int (0 : Int) 0), (Value.int (3 : Int) 0), (Value.ref 37), (Value.bool Bool.true), (Value.int (181 : Int) 0), (Value.ref 38), Value.none, (Value.ref 39), (Value.ref 40), (Value.ref 41), (Value.int (258 : Int) 0), (Value.int (14 : Int) 0), (Value.str (Str.ofString "/claim/cut.py") 259)])) (List.toArray []))
noncomputable def ob43 : Params → Obj := fun P => (Obj.mk (Value.type "function") none (Data.func (FuncData.mk (Str.ofString "told") (Str.ofString "Paragraph.told") (argsOf (nthS (bodyOf (st9 4)) 1)) (FuncBody.stmts (bodyOf (nthS (bodyOf (st9 4)) 1))) (scopeOf (nthS (bodyOf (st9 4)) 1)) 3 [] Value.none Value.none Value.none (Value.str (Str.ofString "ledgerspeak.procread") 194) none (Value.ref 42) Value.none 0)) (List.toArray []))
noncomputable def ob44 : Params → Obj := fun P => (Obj.mk (Value.type "tuple") none (Data.seq (List.toArray [(Value.str (Str.ofString "name") 261), (Value.str (Str.ofString "section") 262), (Value.str (Str.ofString "statements") 263)]) 0) (List.toArray []))
noncomputable def ob45 : Params → Obj := fun P => (Obj.mk (Value.type "dict") none (Data.dict (List.toArray [(DictEntry.mk (PyData.keyHash P (Str.ofString "__module__")) (Value.str (Str.ofString "__module__") 239) (Value.str (Str.ofString "ledgerspeak.procread") 194)), (DictEntry.mk (PyData.keyHash P (Str.ofString "__firstlineno__")) (Value.str (Str.ofString "__firstlineno__") 243) (Value.int (7 : Int) 242)), (DictEntry.mk (PyData.keyHash P (Str.ofString "__init__")) (Value.str (Str.ofString "__init__") 253) (Value.ref 36)), (DictEntry.mk (PyData.keyHash P (Str.ofString "told")) (Value.str (Str.ofString "told") 260) (Value.ref 43)), (DictEntry.mk (PyData.keyHash P (Str.ofString "__static_attributes__")) (Value.str (Str.ofString "__static_attributes__") 264) (Value.ref 44)), (DictEntry.mk (PyData.keyHash P (Str.ofString "__dict__")) (Value.str (Str.ofString "__dict__") 266) (Value.ref 47)), (DictEntry.mk (PyData.keyHash P (Str.ofString "__weakref__")) (Value.str (Str.ofString "__weakref__") 268) (Value.ref 48)), (DictEntry.mk (PyData.keyHash P (Str.ofString "__doc__")) (Value.str (Str.ofString "__doc__") 269) Value.none)]) 4) (List.toArray []))
noncomputable def ob46 : Params → Obj := fun P => (Obj.mk (Value.type "type") none (Data.cls (ClassData.mk (Str.ofString "Paragraph") [(Value.type "object")] [(Value.ref 46), (Value.type "object")] 45 (Str.ofString "Paragraph") Bool.true [] [] Bool.false none Bool.false)) (List.toArray [none, none, (some (Value.str (Str.ofString "Paragraph") 232)), (some (Value.str (Str.ofString "Paragraph") 240)), (some (Value.builtin "object.__new__")), (some (Value.bool Bool.true))]))
noncomputable def ob47 : Params → Obj := fun P => (Obj.mk (Value.type "getset_descriptor") none (Data.fields (List.toArray [(Value.str (Str.ofString "__dict__") 265), (Value.ref 46), (Value.builtin "function.__dict__"), (Value.builtin "function.__dict__#set")])) (List.toArray []))
noncomputable def ob48 : Params → Obj := fun P => (Obj.mk (Value.type "getset_descriptor") none (Data.fields (List.toArray [(Value.str (Str.ofString "__weakref__") 267), (Value.ref 46), (Value.builtin "ExceptionGroup.__weakref__"), Value.none])) (List.toArray []))
noncomputable def ob49 : Params → Obj := fun P => (Obj.mk (Value.type "super") none (Data.fields (List.toArray [(Value.ref 46), (Value.ref 46), (Value.ref 46)])) (List.toArray []))
noncomputable def ob50 : Params → Obj := fun P => (Obj.mk (Value.type "builtin_function_or_method") none (Data.fields (List.toArray [(Value.builtin "object.__init_subclass__"), (Value.ref 46)])) (List.toArray []))
noncomputable def ob51 : Params → Obj := fun P => (Obj.mk (Value.type "tuple") none (Data.seq (List.toArray []) 0) (List.toArray []))
noncomputable def ob52 : Params → Obj := fun P => (Obj.mk Value.none none (Data.fields (List.toArray [])) (List.toArray []))
noncomputable def ob53 : Params → Obj := fun P => (Obj.mk (Value.type "tuple") none (Data.seq (List.toArray [(Value.str (Str.ofString "reader") 275), (Value.str (Str.ofString "read_body") 276)]) 0) (List.toArray []))
noncomputable def ob54 : Params → Obj := fun P => (Obj.mk (Value.type "tuple") none (Data.seq (List.toArray []) 0) (List.toArray []))
noncomputable def ob55 : Params → Obj := fun P => (Obj.mk Value.none none (Data.func (FuncData.mk (Str.ofString "read_continue") (Str.ofString "read_continue") (argsOf (st9 5)) (FuncBody.stmts (bodyOf (st9 5))) (scopeOf (st9 5)) 0 [] Value.none Value.none Value.none Value.none none Value.none Value.none 0)) (List.toArray []))
noncomputable def ob56 : Params → Obj := fun P => (Obj.mk (Value.type "code") none (Data.fields (List.toArray [(Value.str (Str.ofString "read_continue") 272), (Value.str (Str.ofString "read_continue") 273), (Value.str (Str.ofString "/claim/cut.py") 274), (Value.int (16 : Int) 0), (Value.int (2 : Int) 0), (Value.int (0 : Int) 0), (Value.int (0 : Int) 0), (Value.int (3 : Int) 0), (Value.ref 51), (Value.bool Bool.true), (Value.int (181 : Int) 0), (Value.ref 52), Value.none, (Value.ref 53), (Value.ref 54), (Value.ref 55), (Value.int (277 : Int) 0), (Value.int (16 : Int) 0), (Value.str (Str.ofString "/claim/cut.py") 278)])) (List.toArray []))
noncomputable def ob57 : Params → Obj := fun P => (Obj.mk (Value.type "function") none (Data.func (FuncData.mk (Str.ofString "read_continue") (Str.ofString "read_continue") (argsOf (st9 5)) (FuncBody.stmts (bodyOf (st9 5))) (scopeOf (st9 5)) 3 [] Value.none Value.none Value.none (Value.str (Str.ofString "ledgerspeak.procread") 194) none (Value.ref 56) Value.none 0)) (List.toArray []))
noncomputable def ob58 : Params → Obj := fun P => (Obj.mk (Value.type "tuple") none (Data.seq (List.toArray []) 0) (List.toArray []))
noncomputable def ob59 : Params → Obj := fun P => (Obj.mk Value.none none (Data.fields (List.toArray [])) (List.toArray []))
noncomputable def ob60 : Params → Obj := fun P => (Obj.mk (Value.type "tuple") none (Data.seq (List.toArray [(Value.str (Str.ofString "reader") 283)]) 0) (List.toArray []))
noncomputable def ob61 : Params → Obj := fun P => (Obj.mk (Value.type "tuple") none (Data.seq (List.toArray []) 0) (List.toArray []))
noncomputable def ob62 : Params → Obj := fun P => (Obj.mk Value.none none (Data.func (FuncData.mk (Str.ofString "is_verb_here") (Str.ofString "is_verb_here") (argsOf (st9 6)) (FuncBody.stmts (bodyOf (st9 6))) (scopeOf (st9 6)) 0 [] Value.none Value.none Value.none Value.none none Value.none Value.none 0)) (List.toArray []))
noncomputable def ob63 : Params → Obj := fun P => (Obj.mk (Value.type "code") none (Data.fields (List.toArray [(Value.str (Str.ofString "is_verb_here") 280), (Value.str (Str.ofString "is_verb_here") 281), (Value.str (Str.ofString "/claim/cut.py") 282), (Value.int (19 : Int) 0), (Value.int (1 : Int) 0), (Value.int (0 : Int) 0), (Value.int (0 : Int) 0), (Value.int (3 : Int) 0), (Value.ref 58), (Value.bool Bool.true), (Value.int (181 : Int) 0), (Value.ref 59), Value.none, (Value.ref 60), (Value.ref 61), (Value.ref 62), (Value.int (284 : Int) 0), (Value.int (19 : Int) 0), (Value.str (Str.ofString "/claim/cut.py") 285)])) (List.toArray []))
noncomputable def ob64 : Params → Obj := fun P => (Obj.mk (Value.type "function") none (Data.func (FuncData.mk (Str.ofString "is_verb_here") (Str.ofString "is_verb_here") (argsOf (st9 6)) (FuncBody.stmts (bodyOf (st9 6))) (scopeOf (st9 6)) 3 [] Value.none Value.none Value.none (Value.str (Str.ofString "ledgerspeak.procread") 194) none (Value.ref 63) Value.none 0)) (List.toArray []))
noncomputable def ob65 : Params → Obj := fun P => (Obj.mk (Value.type "tuple") none (Data.seq (List.toArray []) 0) (List.toArray []))
noncomputable def ob66 : Params → Obj := fun P => (Obj.mk Value.none none (Data.fields (List.toArray [])) (List.toArray []))
noncomputable def ob67 : Params → Obj := fun P => (Obj.mk (Value.type "tuple") none (Data.seq (List.toArray [(Value.str (Str.ofString "reader") 290), (Value.str (Str.ofString "depth") 291), (Value.str (Str.ofString "choose") 292), (Value.str (Str.ofString "statements") 293)]) 0) (List.toArray []))
noncomputable def ob68 : Params → Obj := fun P => (Obj.mk (Value.type "tuple") none (Data.seq (List.toArray []) 0) (List.toArray []))
noncomputable def ob69 : Params → Obj := fun P => (Obj.mk Value.none none (Data.func (FuncData.mk (Str.ofString "body_at") (Str.ofString "body_at") (argsOf (st9 7)) (FuncBody.stmts (bodyOf (st9 7))) (scopeOf (st9 7)) 0 [] Value.none Value.none Value.none Value.none none Value.none Value.none 0)) (List.toArray []))
noncomputable def ob70 : Params → Obj := fun P => (Obj.mk (Value.type "code") none (Data.fields (List.toArray [(Value.str (Str.ofString "body_at") 287), (Value.str (Str.ofString "body_at") 288), (Value.str (Str.ofString "/claim/cut.py") 289), (Value.int (21 : Int) 0), (Value.int (3 : Int) 0), (Value.int (0 : Int) 0), (Value.int (0 : Int) 0), (Value.int (3 : Int) 0), (Value.ref 65), (Value.bool Bool.true), (Value.int (181 : Int) 0), (Value.ref 66), Value.none, (Value.ref 67), (Value.ref 68), (Value.ref 69), (Value.int (294 : Int) 0), (Value.int (21 : Int) 0), (Value.str (Str.ofString "/claim/cut.py") 295)])) (List.toArray []))
noncomputable def ob71 : Params → Obj := fun P => (Obj.mk (Value.type "function") none (Data.func (FuncData.mk (Str.ofString "body_at") (Str.ofString "body_at") (argsOf (st9 7)) (FuncBody.stmts (bodyOf (st9 7))) (scopeOf (st9 7)) 3 [] Value.none Value.none Value.none (Value.str (Str.ofString "ledgerspeak.procread") 194) none (Value.ref 70) Value.none 0)) (List.toArray []))
noncomputable def ob72 : Params → Obj := fun P => (Obj.mk (Value.type "tuple") none (Data.seq (List.toArray []) 0) (List.toArray []))
noncomputable def ob73 : Params → Obj := fun P => (Obj.mk Value.none none (Data.fields (List.toArray [])) (List.toArray []))
noncomputable def ob74 : Params → Obj := fun P => (Obj.mk (Value.type "tuple") none (Data.seq (List.toArray [(Value.str (Str.ofString "reader") 300), (Value.str (Str.ofString "depth") 301), (Value.str (Str.ofString "choose") 302)]) 0) (List.toArray []))
noncomputable def ob75 : Params → Obj := fun P => (Obj.mk (Value.type "tuple") none (Data.seq (List.toArray [(Value.str (Str.ofString "depth") 303), (Value.str (Str.ofString "choose") 304)]) 0) (List.toArray []))
noncomputable def ob76 : Params → Obj := fun P => (Obj.mk Value.none none (Data.func (FuncData.mk (Str.ofString "statement_at") (Str.ofString "statement_at") (argsOf (st9 8)) (FuncBody.stmts (bodyOf (st9 8))) (scopeOf (st9 8)) 0 [] Value.none Value.none Value.none Value.none none Value.none Value.none 0)) (List.toArray []))
noncomputable def ob77 : Params → Obj := fun P => (Obj.mk (Value.type "code") none (Data.fields (List.toArray [(Value.str (Str.ofString "statement_at") 297), (Value.str (Str.ofString "statement_at") 298), (Value.str (Str.ofString "/claim/cut.py") 299), (Value.int (26 : Int) 0), (Value.int (3 : Int) 0), (Value.int (0 : Int) 0), (Value.int (0 : Int) 0), (Value.int (3 : Int) 0), (Value.ref 72), (Value.bool Bool.true), (Value.int (181 : Int) 0), (Value.ref 73), Value.none, (Value.ref 74), (Value.ref 75), (Value.ref 76), (Value.int (305 : Int) 0), (Value.int (26 : Int) 0), (Value.str (Str.ofString "/claim/cut.py") 306)])) (List.toArray []))
noncomputable def ob78 : Params → Obj := fun P => (Obj.mk (Value.type "function") none (Data.func (FuncData.mk (Str.ofString "statement_at") (Str.ofString "statement_at") (argsOf (st9 8)) (FuncBody.stmts (bodyOf (st9 8))) (scopeOf (st9 8)) 3 [] Value.none Value.none Value.none (Value.str (Str.ofString "ledgerspeak.procread") 194) none (Value.ref 77) Value.none 0)) (List.toArray []))
noncomputable def ob79 : Params → Obj := fun P => (Obj.mk (Value.type "tuple") none (Data.seq (List.toArray []) 0) (List.toArray []))
noncomputable def ob80 : Params → Obj := fun P => (Obj.mk Value.none none (Data.fields (List.toArray [])) (List.toArray []))
noncomputable def ob81 : Params → Obj := fun P => (Obj.mk (Value.type "tuple") none (Data.seq (List.toArray [(Value.str (Str.ofString "reader") 311), (Value.str (Str.ofString "later") 312)]) 0) (List.toArray []))
noncomputable def ob82 : Params → Obj := fun P => (Obj.mk (Value.type "tuple") none (Data.seq (List.toArray []) 0) (List.toArray []))
noncomputable def ob83 : Params → Obj := fun P => (Obj.mk Value.none none (Data.func (FuncData.mk (Str.ofString "is_head") (Str.ofString "is_head") (argsOf (st9 9)) (FuncBody.stmts (bodyOf (st9 9))) (scopeOf (st9 9)) 0 [] Value.none Value.none Value.none Value.none none Value.none Value.none 0)) (List.toArray []))
noncomputable def ob84 : Params → Obj := fun P => (Obj.mk (Value.type "code") none (Data.fields (List.toArray [(Value.str (Str.ofString "is_head") 308), (Value.str (Str.ofString "is_head") 309), (Value.str (Str.ofString "/claim/cut.py") 310), (Value.int (32 : Int) 0), (Value.int (1 : Int) 0), (Value.int (0 : Int) 0), (Value.int (0 : Int) 0), (Value.int (3 : Int) 0), (Value.ref 79), (Value.bool Bool.true), (Value.int (181 : Int) 0), (Value.ref 80), Value.none, (Value.ref 81), (Value.ref 82), (Value.ref 83), (Value.int (313 : Int) 0), (Value.int (32 : Int) 0), (Value.str (Str.ofString "/claim/cut.py") 314)])) (List.toArray []))
noncomputable def ob85 : Params → Obj := fun P => (Obj.mk (Value.type "function") none (Data.func (FuncData.mk (Str.ofString "is_head") (Str.ofString "is_head") (argsOf (st9 9)) (FuncBody.stmts (bodyOf (st9 9))) (scopeOf (st9 9)) 3 [] Value.none Value.none Value.none (Value.str (Str.ofString "ledgerspeak.procread") 194) none (Value.ref 84) Value.none 0)) (List.toArray []))
noncomputable def ob86 : Params → Obj := fun P => (Obj.mk (Value.type "tuple") none (Data.seq (List.toArray []) 0) (List.toArray []))
noncomputable def ob87 : Params → Obj := fun P => (Obj.mk Value.none none (Data.fields (List.toArray [])) (List.toArray []))
noncomputable def ob88 : Params → Obj := fun P => (Obj.mk (Value.type "tuple") none (Data.seq (List.toArray [(Value.str (Str.ofString "reader") 319)]) 0) (List.toArray []))
noncomputable def ob89 : Params → Obj := fun P => (Obj.mk (Value.type "tuple") none (Data.seq (List.toArray []) 0) (List.toArray []))
noncomputable def ob90 : Params → Obj := fun P => (Obj.mk Value.none none (Data.func (FuncData.mk (Str.ofString "is_end") (Str.ofString "is_end") (argsOf (st9 10)) (FuncBody.stmts (bodyOf (st9 10))) (scopeOf (st9 10)) 0 [] Value.none Value.none Value.none Value.none none Value.none Value.none 0)) (List.toArray []))
noncomputable def ob91 : Params → Obj := fun P => (Obj.mk (Value.type "code") none (Data.fields (List.toArray [(Value.str (Str.ofString "is_end") 316), (Value.str (Str.ofString "is_end") 317), (Value.str (Str.ofString "/claim/cut.py") 318), (Value.int (37 : Int) 0), (Value.int (1 : Int) 0), (Value.int (0 : Int) 0), (Value.int (0 : Int) 0), (Value.int (3 : Int) 0), (Value.ref 86), (Value.bool Bool.true), (Value.int (181 : Int) 0), (Value.ref 87), Value.none, (Value.ref 88), (Value.ref 89), (Value.ref 90), (Value.int (320 : Int) 0), (Value.int (37 : Int) 0), (Value.str (Str.ofString "/claim/cut.py") 321)])) (List.toArray []))
noncomputable def ob92 : Params → Obj := fun P => (Obj.mk (Value.type "function") none (Data.func (FuncData.mk (Str.ofString "is_end") (Str.ofString "is_end") (argsOf (st9 10)) (FuncBody.stmts (bodyOf (st9 10))) (scopeOf (st9 10)) 3 [] Value.none Value.none Value.none (Value.str (Str.ofString "ledgerspeak.procread") 194) none (Value.ref 91) Value.none 0)) (List.toArray []))
noncomputable def ob93 : Params → Obj := fun P => (Obj.mk (Value.type "tuple") none (Data.seq (List.toArray []) 0) (List.toArray []))
noncomputable def ob94 : Params → Obj := fun P => (Obj.mk Value.none none (Data.fields (List.toArray [])) (List.toArray []))
noncomputable def ob95 : Params → Obj := fun P => (Obj.mk (Value.type "tuple") none (Data.seq (List.toArray [(Value.str (Str.ofString "reader") 326), (Value.str (Str.ofString "section") 327), (Value.str (Str.ofString "name") 328)]) 0) (List.toArray []))
noncomputable def ob96 : Params → Obj := fun P => (Obj.mk (Value.type "tuple") none (Data.seq (List.toArray []) 0) (List.toArray []))
noncomputable def ob97 : Params → Obj := fun P => (Obj.mk Value.none none (Data.func (FuncData.mk (Str.ofString "read_head") (Str.ofString "read_head") (argsOf (st9 11)) (FuncBody.stmts (bodyOf (st9 11))) (scopeOf (st9 11)) 0 [] Value.none Value.none Value.none Value.none none Value.none Value.none 0)) (List.toArray []))
noncomputable def ob98 : Params → Obj := fun P => (Obj.mk (Value.type "code") none (Data.fields (List.toArray [(Value.str (Str.ofString "read_head") 323), (Value.str (Str.ofString "read_head") 324), (Value.str (Str.ofString "/claim/cut.py") 325), (Value.int (41 : Int) 0), (Value.int (2 : Int) 0), (Value.int (0 : Int) 0), (Value.int (0 : Int) 0), (Value.int (3 : Int) 0), (Value.ref 93), (Value.bool Bool.true), (Value.int (181 : Int) 0), (Value.ref 94), Value.none, (Value.ref 95), (Value.ref 96), (Value.ref 97), (Value.int (329 : Int) 0), (Value.int (41 : Int) 0), (Value.str (Str.ofString "/claim/cut.py") 330)])) (List.toArray []))
noncomputable def ob99 : Params → Obj := fun P => (Obj.mk (Value.type "function") none (Data.func (FuncData.mk (Str.ofString "read_head") (Str.ofString "read_head") (argsOf (st9 11)) (FuncBody.stmts (bodyOf (st9 11))) (scopeOf (st9 11)) 3 [] Value.none Value.none Value.none (Value.str (Str.ofString "ledgerspeak.procread") 194) none (Value.ref 98) Value.none 0)) (List.toArray []))
noncomputable def ob100 : Params → Obj := fun P => (Obj.mk (Value.type "tuple") none (Data.seq (List.toArray []) 0) (List.toArray []))
noncomputable def ob101 : Params → Obj := fun P => (Obj.mk Value.none none (Data.fields (List.toArray [])) (List.toArray []))
noncomputable def ob102 : Params → Obj := fun P => (Obj.mk Value.none none (Data.func (FuncData.mk (Str.ofString "rows_here") (Str.ofString "rows_here") (argsOf (st9 12)) (FuncBody.stmts (bodyOf (st9 12))) (scopeOf (st9 12)) 0 [] Value.none Value.none Value.none Value.none none Value.none Value.none 0)) (List.toArray []))
noncomputable def ob103 : Params → Obj := fun P => (Obj.mk (Value.type "code") none (Data.fields (List.toArray [(Value.str (Str.ofString "rows_here") 332), (Value.str (Str.ofString "rows_here") 333), (Value.str (Str.ofString "/claim/cut.py") 334), (Value.int (50 : Int) 0), (Value.int (2 : Int) 0), (Value.int (0 : Int) 0), (Value.int (0 : Int) 0), (Value.int (3 : Int) 0), (Value.ref 100), (Value.bool Bool.true), (Value.int (181 : Int) 0), (Value.ref 101), Value.none, Value.none, Value.none, (Value.ref 102), (Value.int (335 : Int) 0), (Value.int (50 : Int) 0), (Value.str (Str.ofString "/claim/cut.py") 336)])) (List.toArray []))
noncomputable def ob104 : Params → Obj := fun P => (Obj.mk (Value.type "function") none (Data.func (FuncData.mk (Str.ofString "rows_here") (Str.ofString "rows_here") (argsOf (st9 12)) (FuncBody.stmts (bodyOf (st9 12))) (scopeOf (st9 12)) 3 [] Value.none Value.none Value.none (Value.str (Str.ofString "ledgerspeak.procread") 194) none (Value.ref 103) Value.none 0)) (List.toArray []))
noncomputable def ob105 : Params → Obj := fun P => (Obj.mk (Value.type "tuple") none (Data.seq (List.toArray [(Value.type "Exception")]) 0) (List.toArray []))
noncomputable def ob106 : Params → Obj := fun P => (Obj.mk (Value.type "builtin_function_or_method") none (Data.fields (List.toArray [(Value.builtin "type.__prepare__"), (Value.type "type")])) (List.toArray []))
noncomputable def ob107 : Params → Obj := fun P => (Obj.mk (Value.type "dict") none (Data.dict (List.toArray [(DictEntry.mk (PyData.keyHash P (Str.ofString "__module__")) (Value.str (Str.ofString "__module__") 347) (Value.str (Str.ofString "ledgerspeak.errors") 338)), (DictEntry.mk (PyData.keyHash P (Str.ofString "__qualname__")) (Value.str (Str.ofString "__qualname__") 349) (Value.str (Str.ofString "LedgerError") 348)), (DictEntry.mk (PyData.keyHash P (Str.ofString "__firstlineno__")) (Value.str (Str.ofString "__firstlineno__") 351) (Value.int (66 : Int) 350)), (DictEntry.mk (PyData.keyHash P (Str.ofString "__init__")) (Value.str (Str.ofString "__init__") 362) (Value.ref 120)), (DictEntry.mk (PyData.keyHash P (Str.ofString "told")) (Value.str (Str.ofString "told") 369) (Value.ref 127)), (DictEntry.mk (PyData.keyHash P (Str.ofString "__static_attributes__")) (Value.str (Str.ofString "__static_attributes__") 372) (Value.ref 128))]) 6) (List.toArray []))
noncomputable def ob108 : Params → Obj := fun P => (Obj.mk (Value.type "tuple") none (Data.seq (List.toArray []) 0) (List.toArray []))
noncomputable def ob109 : Params → Obj := fun P => (Obj.mk Value.none none (Data.fields (List.toArray [(Value.int (68 : Int) 0), (Value.int (4 : Int) 0), (Value.ref 119), (Value.int (73 : Int) 0), (Value.int (4 : Int) 0), (Value.ref 126)])) (List.toArray []))
noncomputable def ob110 : Params → Obj := fun P => (Obj.mk (Value.type "code") none (Data.fields (List.toArray [(Value.str (Str.ofString "LedgerError") 342), (Value.str (Str.ofString "LedgerError") 343), (Value.str (Str.ofString "/claim/cut.py") 344), (Value.int (66 : Int) 0), (Value.int (0 : Int) 0), (Value.int (0 : Int) 0), (Value.int (0 : Int) 0), (Value.int (0 : Int) 0), (Value.ref 108), (Value.bool Bool.false), (Value.int (181 : Int) 0), (Value.ref 109), Value.none, Value.none, Value.none, Value.none, (Value.int (345 : Int) 0), (Value.int (66 : Int) 0), (Value.str (Str.ofString "/claim/cut.py") 346)])) (List.toArray []))
noncomputable def ob111 : Params → Obj := fun P => (Obj.mk (Value.type "frame") none Data.plain (List.toArray [(some (Value.ref 110)), (some (Value.ref 3)), (some (Value.ref 107)), none, (some (Value.str (Str.ofString "ledgerspeak.errors") 338)), none, (some (Value.ref 0))]))
noncomputable def ob112 : Params → Obj := fun P => (Obj.mk (Value.type "tuple") none (Data.seq (List.toArray [(Value.int (0 : Int) 352), (Value.int (0 : Int) 353)]) 0) (List.toArray []))
noncomputable def ob113 : Params → Obj := fun P => (Obj.mk (Value.type "tuple") none (Data.seq (List.toArray [(Value.ref 112)]) 0) (List.toArray []))
noncomputable def ob114 : Params → Obj := fun P => (Obj.mk (Value.type "tuple") none (Data.seq (List.toArray []) 0) (List.toArray []))
noncomputable def ob115 : Params → Obj := fun P => (Obj.mk Value.none none (Data.fields (List.toArray [])) (List.toArray []))
noncomputable def ob116 : Params → Obj := fun P => (Obj.mk (Value.type "tuple") none (Data.seq (List.toArray [(Value.str (Str.ofString "self") 357), (Value.str (Str.ofString "what") 358), (Value.str (Str.ofString "at") 359)]) 0) (List.toArray []))
noncomputable def ob117 : Params → Obj := fun P => (Obj.mk (Value.type "tuple") none (Data.seq (List.toArray []) 0) (List.toArray []))
noncomputable def ob118 : Params → Obj := fun P => (Obj.mk Value.none none (Data.func (FuncData.mk (Str.ofString "__init__") (Str.ofString "LedgerError.__init__") (argsOf (nthS (bodyOf (st9 14)) 0)) (FuncBody.stmts (bodyOf (nthS (bodyOf (st9 14)) 0))) (scopeOf (nthS (bodyOf (st9 14)) 0)) 0 [] Value.none Value.none Value.none Value.none none Value.none Value.none 0)) (List.toArray []))
noncomputable def ob119 : Params → Obj := fun P => (Obj.mk (Value.type "code") none (Data.fields (List.toArray [(Value.str (Str.ofString "__init__") 354), (Value.str (Str.ofString "LedgerError.__init__") 355), (Value.str (Str.ofString "/claim/cut.py") 356), (Value.int (68 : Int) 0), (Value.int (3 : Int) 0), (Value.int (0 : Int) 0), (Value.int (0 : Int) 0), (Value.int (3 : Int) 0), (Value.ref 114), (Value.bool Bool.true), (Value.int (181 : Int) 0), (Value.ref 115), Value.none, (Value.ref 116), (Value.ref 117), (Value.ref 118), (Value.int (360 : Int) 0), (Value.int (68 : Int) 0), (Value.str (Str.ofString "/claim/cut.py") 361)])) (List.toArray []))
noncomputable def ob120 : Params → Obj := fun P => (Obj.mk (Value.type "function") none (Data.func (FuncData.mk (Str.ofString "__init__") (Str.ofString "LedgerError.__init__") (argsOf (nthS (bodyOf (st9 14)) 0)) (FuncBody.stmts (bodyOf (nthS (bodyOf (st9 14)) 0))) (scopeOf (nthS (bodyOf (st9 14)) 0)) 3 [] (Value.ref 113) Value.none Value.none (Value.str (Str.ofString "ledgerspeak.errors") 338) none (Value.ref 119) Value.none 0)) (List.toArray []))
noncomputable def ob121 : Params → Obj := fun P => (Obj.mk (Value.type "tuple") none (Data.seq (List.toArray []) 0) (List.toArray []))
noncomputable def ob122 : Params → Obj := fun P => (Obj.mk Value.none none (Data.fields (List.toArray [])) (List.toArray []))
noncomputable def ob123 : Params → Obj := fun P => (Obj.mk (Value.type "tuple") none (Data.seq (List.toArray [(Value.str (Str.ofString "self") 366)]) 0) (List.toArray []))
noncomputable def ob124 : Params → Obj := fun P => (Obj.mk (Value.type "tuple") none (Data.seq (List.toArray []) 0) (List.toArray []))
noncomputable def ob125 : Params → Obj := fun P => (Obj.mk Value.none none (Data.func (FuncData.mk (Str.ofString "told") (Str.ofString "LedgerError.told") (argsOf (nthS (bodyOf (st9 14)) 1)) (FuncBody.stmts (bodyOf (nthS (bodyOf (st9 14)) 1))) (scopeOf (nthS (bodyOf (st9 14)) 1)) 0 [] Value.none Value.none Value.none Value.none none Value.none Value.none 0)) (List.toArray []))
noncomputable def ob126 : Params → Obj := fun P => (Obj.mk (Value.type "code") none (Data.fields (List.toArray [(Value.str (Str.ofString "told") 363), (Value.str (Str.ofString "LedgerError.told") 364), (Value.str (Str.ofString "/claim/cut.py") 365), (Value.int (73 : Int) 0), (Value.int (1 : Int) 0), (Value.int (0 : Int) 0), (Value.int (0 : Int) 0), (Value.int (3 : Int) 0), (Value.ref 121), (Value.bool Bool.true), (Value.int (181 : Int) 0), (Value.ref 122), Value.none, (Value.ref 123), (Value.ref 124), (Value.ref 125), (Value.int (367 : Int) 0), (Value.int (73 : Int) 0), (Value.str (Str.ofString "/claim/cut.py") 368)])) (List.toArray []))
noncomputable def ob127 : Params → Obj := fun P => (Obj.mk (Value.type "function") none (Data.func (FuncData.mk (Str.ofString "told") (Str.ofString "LedgerError.told") (argsOf (nthS (bodyOf (st9 14)) 1)) (FuncBody.stmts (bodyOf (nthS (bodyOf (st9 14)) 1))) (scopeOf (nthS (bodyOf (st9 14)) 1)) 3 [] Value.none Value.none Value.none (Value.str (Str.ofString "ledgerspeak.errors") 338) none (Value.ref 126) Value.none 0)) (List.toArray []))
noncomputable def ob128 : Params → Obj := fun P => (Obj.mk (Value.type "tuple") none (Data.seq (List.toArray [(Value.str (Str.ofString "at") 370), (Value.str (Str.ofString "what") 371)]) 0) (List.toArray []))
noncomputable def ob129 : Params → Obj := fun P => (Obj.mk (Value.type "dict") none (Data.dict (List.toArray [(DictEntry.mk (PyData.keyHash P (Str.ofString "__module__")) (Value.str (Str.ofString "__module__") 347) (Value.str (Str.ofString "ledgerspeak.errors") 338)), (DictEntry.mk (PyData.keyHash P (Str.ofString "__firstlineno__")) (Value.str (Str.ofString "__firstlineno__") 351) (Value.int (66 : Int) 350)), (DictEntry.mk (PyData.keyHash P (Str.ofString "__init__")) (Value.str (Str.ofString "__init__") 362) (Value.ref 120)), (DictEntry.mk (PyData.keyHash P (Str.ofString "told")) (Value.str (Str.ofString "told") 369) (Value.ref 127)), (DictEntry.mk (PyData.keyHash P (Str.ofString "__static_attributes__")) (Value.str (Str.ofString "__static_attributes__") 372) (Value.ref 128)), (DictEntry.mk (PyData.keyHash P (Str.ofString "__weakref__")) (Value.str (Str.ofString "__weakref__") 374) (Value.ref 131)), (DictEntry.mk (PyData.keyHash P (Str.ofString "__doc__")) (Value.str (Str.ofString "__doc__") 375) Value.none)]) 3) (List.toArray []))
noncomputable def ob130 : Params → Obj := fun P => (Obj.mk (Value.type "type") none (Data.cls (ClassData.mk (Str.ofString "LedgerError") [(Value.type "Exception")] [(Value.ref 130), (Value.type "Exception"), (Value.type "BaseException"), (Value.type "object")] 129 (Str.ofString "LedgerError") Bool.true [] [(Value.ref 143), (Value.ref 155)] Bool.false none Bool.false)) (List.toArray [(some (Value.ref 105)), none, (some (Value.str (Str.ofString "LedgerError") 340)), (some (Value.str (Str.ofString "LedgerError") 348)), (some (Value.builtin "Exception.__new__")), (some (Value.bool Bool.true))]))
noncomputable def ob131 : Params → Obj := fun P => (Obj.mk (Value.type "getset_descriptor") none (Data.fields (List.toArray [(Value.str (Str.ofString "__weakref__") 373), (Value.ref 130), (Value.builtin "ExceptionGroup.__weakref__"), Value.none])) (List.toArray []))
noncomputable def ob132 : Params → Obj := fun P => (Obj.mk (Value.type "super") none (Data.fields (List.toArray [(Value.ref 130), (Value.ref 130), (Value.ref 130)])) (List.toArray []))
noncomputable def ob133 : Params → Obj := fun P => (Obj.mk (Value.type "builtin_function_or_method") none (Data.fields (List.toArray [(Value.builtin "object.__init_subclass__"), (Value.ref 130)])) (List.toArray []))
noncomputable def ob134 : Params → Obj := fun P => (Obj.mk (Value.type "tuple") none (Data.seq (List.toArray [(Value.ref 130)]) 0) (List.toArray []))
noncomputable def ob135 : Params → Obj := fun P => (Obj.mk (Value.type "builtin_function_or_method") none (Data.fields (List.toArray [(Value.builtin "type.__prepare__"), (Value.type "type")])) (List.toArray []))
noncomputable def ob136 : Params → Obj := fun P => (Obj.mk (Value.type "dict") none (Data.dict (List.toArray [(DictEntry.mk (PyData.keyHash P (Str.ofString "__module__")) (Value.str (Str.ofString "__module__") 387) (Value.str (Str.ofString "ledgerspeak.errors") 338)), (DictEntry.mk (PyData.keyHash P (Str.ofString "__qualname__")) (Value.str (Str.ofString "__qualname__") 389) (Value.str (Str.ofString "TokenFault") 388)), (DictEntry.mk (PyData.keyHash P (Str.ofString "__firstlineno__")) (Value.str (Str.ofString "__firstlineno__") 391) (Value.int (75 : Int) 390)), (DictEntry.mk (PyData.keyHash P (Str.ofString "__static_attributes__")) (Value.str (Str.ofString "__static_attributes__") 392) (Value.ref 141))]) 4) (List.toArray []))
noncomputable def ob137 : Params → Obj := fun P => (Obj.mk (Value.type "tuple") none (Data.seq (List.toArray []) 0) (List.toArray []))
noncomputable def ob138 : Params → Obj := fun P => (Obj.mk Value.none none (Data.fields (List.toArray [])) (List.toArray []))
noncomputable def ob139 : Params → Obj := fun P => (Obj.mk (Value.type "code") none (Data.fields (List.toArray [(Value.str (Str.ofString "TokenFault") 382), (Value.str (Str.ofString "TokenFault") 383), (Value.str (Str.ofString "/claim/cut.py") 384), (Value.int (75 : Int) 0), (Value.int (0 : Int) 0), (Value.int (0 : Int) 0), (Value.int (0 : Int) 0), (Value.int (0 : Int) 0), (Value.ref 137), (Value.bool Bool.false), (Value.int (181 : Int) 0), (Value.ref 138), Value.none, Value.none, Value.none, Value.none, (Value.int (385 : Int) 0), (Value.int (75 : Int) 0), (Value.str (Str.ofString "/claim/cut.py") 386)])) (List.toArray []))
noncomputable def ob140 : Params → Obj := fun P => (Obj.mk (Value.type "frame") none Data.plain (List.toArray [(some (Value.ref 139)), (some (Value.ref 3)), (some (Value.ref 136)), none, (some (Value.str (Str.ofString "ledgerspeak.errors") 338)), none, (some (Value.ref 0))]))
noncomputable def ob141 : Params → Obj := fun P => (Obj.mk (Value.type "tuple") none (Data.seq (List.toArray []) 0) (List.toArray []))
noncomputable def ob142 : Params → Obj := fun P => (Obj.mk (Value.type "dict") none (Data.dict (List.toArray [(DictEntry.mk (PyData.keyHash P (Str.ofString "__module__")) (Value.str (Str.ofString "__module__") 387) (Value.str (Str.ofString "ledgerspeak.errors") 338)), (DictEntry.mk (PyData.keyHash P (Str.ofString "__firstlineno__")) (Value.str (Str.ofString "__firstlineno__") 391) (Value.int (75 : Int) 390)), (DictEntry.mk (PyData.keyHash P (Str.ofString "__static_attributes__")) (Value.str (Str.ofString "__static_attributes__") 392) (Value.ref 141)), (DictEntry.mk (PyData.keyHash P (Str.ofString "__doc__")) (Value.str (Str.ofString "__doc__") 393) Value.none)]) 2) (List.toArray []))
noncomputable def ob143 : Params → Obj := fun P => (Obj.mk (Value.type "type") none (Data.cls (ClassData.mk (Str.ofString "TokenFault") [(Value.ref 130)] [(Value.ref 143), (Value.ref 130), (Value.type "Exception"), (Value.type "BaseException"), (Value.type "object")] 142 (Str.ofString "TokenFault") Bool.true [] [] Bool.false none Bool.false)) (List.toArray [(some (Value.ref 134)), none, (some (Value.str (Str.ofString "TokenFault") 380)), (some (Value.str (Str.ofString "TokenFault") 388)), (some (Value.builtin "Exception.__new__")), (some (Value.bool Bool.true))]))
noncomputable def ob144 : Params → Obj := fun P => (Obj.mk (Value.type "super") none (Data.fields (List.toArray [(Value.ref 143), (Value.ref 143), (Value.ref 143)])) (List.toArray []))
noncomputable def ob145 : Params → Obj := fun P => (Obj.mk (Value.type "builtin_function_or_method") none (Data.fields (List.toArray [(Value.builtin "object.__init_subclass__"), (Value.ref 143)])) (List.toArray []))
noncomputable def ob146 : Params → Obj := fun P => (Obj.mk (Value.type "tuple") none (Data.seq (List.toArray [(Value.ref 130)]) 0) (List.toArray []))
noncomputable def ob147 : Params → Obj := fun P => (Obj.mk (Value.type "builtin_function_or_method") none (Data.fields (List.toArray [(Value.builtin "type.__prepare__"), (Value.type "type")])) (List.toArray []))
noncomputable def ob148 : Params → Obj := fun P => (Obj.mk (Value.type "dict") none (Data.dict (List.toArray [(DictEntry.mk (PyData.keyHash P (Str.ofString "__module__")) (Value.str (Str.ofString "__module__") 403) (Value.str (Str.ofString "ledgerspeak.errors") 338)), (DictEntry.mk (PyData.keyHash P (Str.ofString "__qualname__")) (Value.str (Str.ofString "__qualname__") 405) (Value.str (Str.ofString "GrammarFault") 404)), (DictEntry.mk (PyData.keyHash P (Str.ofString "__firstlineno__")) (Value.str (Str.ofString "__firstlineno__") 407) (Value.int (77 : Int) 406)), (DictEntry.mk (PyData.keyHash P (Str.ofString "__static_attributes__")) (Value.str (Str.ofString "__static_attributes__") 408) (Value.ref 153))]) 4) (List.toArray []))
noncomputable def ob149 : Params → Obj := fun P => (Obj.mk (Value.type "tuple") none (Data.seq (List.toArray []) 0) (List.toArray []))
noncomputable def ob150 : Params → Obj := fun P => (Obj.mk Value.none none (Data.fields (List.toArray [])) (List.toArray []))
noncomputable def ob151 : Params → Obj := fun P => (Obj.mk (Value.type "code") none (Data.fields (List.toArray [(Value.str (Str.ofString "GrammarFault") 398), (Value.str (Str.ofString "GrammarFault") 399), (Value.str (Str.ofString "/claim/cut.py") 400), (Value.int (77 : Int) 0), (Value.int (0 : Int) 0), (Value.int (0 : Int) 0), (Value.int (0 : Int) 0), (Value.int (0 : Int) 0), (Value.ref 149), (Value.bool Bool.false), (Value.int (181 : Int) 0), (Value.ref 150), Value.none, Value.none, Value.none, Value.none, (Value.int (401 : Int) 0), (Value.int (77 : Int) 0), (Value.str (Str.ofString "/claim/cut.py") 402)])) (List.toArray []))
noncomputable def ob152 : Params → Obj := fun P => (Obj.mk (Value.type "frame") none Data.plain (List.toArray [(some (Value.ref 151)), (some (Value.ref 3)), (some (Value.ref 148)), none, (some (Value.str (Str.ofString "ledgerspeak.errors") 338)), none, (some (Value.ref 0))]))
noncomputable def ob153 : Params → Obj := fun P => (Obj.mk (Value.type "tuple") none (Data.seq (List.toArray []) 0) (List.toArray []))
noncomputable def ob154 : Params → Obj := fun P => (Obj.mk (Value.type "dict") none (Data.dict (List.toArray [(DictEntry.mk (PyData.keyHash P (Str.ofString "__module__")) (Value.str (Str.ofString "__module__") 403) (Value.str (Str.ofString "ledgerspeak.errors") 338)), (DictEntry.mk (PyData.keyHash P (Str.ofString "__firstlineno__")) (Value.str (Str.ofString "__firstlineno__") 407) (Value.int (77 : Int) 406)), (DictEntry.mk (PyData.keyHash P (Str.ofString "__static_attributes__")) (Value.str (Str.ofString "__static_attributes__") 408) (Value.ref 153)), (DictEntry.mk (PyData.keyHash P (Str.ofString "__doc__")) (Value.str (Str.ofString "__doc__") 409) Value.none)]) 2) (List.toArray []))
noncomputable def ob155 : Params → Obj := fun P => (Obj.mk (Value.type "type") none (Data.cls (ClassData.mk (Str.ofString "GrammarFault") [(Value.ref 130)] [(Value.ref 155), (Value.ref 130), (Value.type "Exception"), (Value.type "BaseException"), (Value.type "object")] 154 (Str.ofString "GrammarFault") Bool.true [] [] Bool.false none Bool.false)) (List.toArray [(some (Value.ref 146)), none, (some (Value.str (Str.ofString "GrammarFault") 396)), (some (Value.str (Str.ofString "GrammarFault") 404)), (some (Value.builtin "Exception.__new__")), (some (Value.bool Bool.true))]))
noncomputable def ob156 : Params → Obj := fun P => (Obj.mk (Value.type "super") none (Data.fields (List.toArray [(Value.ref 155), (Value.ref 155), (Value.ref 155)])) (List.toArray []))
noncomputable def ob157 : Params → Obj := fun P => (Obj.mk (Value.type "builtin_function_or_method") none (Data.fields (List.toArray [(Value.builtin "object.__init_subclass__"), (Value.ref 155)])) (List.toArray []))
noncomputable def ob158 : Params → Obj := fun P => (Obj.mk (Value.type "tuple") none (Data.seq (List.toArray []) 0) (List.toArray []))
noncomputable def ob159 : Params → Obj := fun P => (Obj.mk Value.none none (Data.fields (List.toArray [])) (List.toArray []))
noncomputable def ob160 : Params → Obj := fun P => (Obj.mk (Value.type "tuple") none (Data.seq (List.toArray [(Value.str (Str.ofString "top") 419), (Value.str (Str.ofString "bottom") 420)]) 0) (List.toArray []))
noncomputable def ob161 : Params → Obj := fun P => (Obj.mk (Value.type "tuple") none (Data.seq (List.toArray []) 0) (List.toArray []))
noncomputable def ob162 : Params → Obj := fun P => (Obj.mk Value.none none (Data.func (FuncData.mk (Str.ofString "cut_quotient") (Str.ofString "cut_quotient") (argsOf (st9 19)) (FuncBody.stmts (bodyOf (st9 19))) (scopeOf (st9 19)) 0 [] Value.none Value.none Value.none Value.none none Value.none Value.none 0)) (List.toArray []))
noncomputable def ob163 : Params → Obj := fun P => (Obj.mk (Value.type "code") none (Data.fields (List.toArray [(Value.str (Str.ofString "cut_quotient") 416), (Value.str (Str.ofString "cut_quotient") 417), (Value.str (Str.ofString "/claim/cut.py") 418), (Value.int (81 : Int) 0), (Value.int (2 : Int) 0), (Value.int (0 : Int) 0), (Value.int (0 : Int) 0), (Value.int (3 : Int) 0), (Value.ref 158), (Value.bool Bool.true), (Value.int (181 : Int) 0), (Value.ref 159), Value.none, (Value.ref 160), (Value.ref 161), (Value.ref 162), (Value.int (421 : Int) 0), (Value.int (81 : Int) 0), (Value.str (Str.ofString "/claim/cut.py") 422)])) (List.toArray []))
noncomputable def ob164 : Params → Obj := fun P => (Obj.mk (Value.type "function") none (Data.func (FuncData.mk (Str.ofString "cut_quotient") (Str.ofString "cut_quotient") (argsOf (st9 19)) (FuncBody.stmts (bodyOf (st9 19))) (scopeOf (st9 19)) 3 [] Value.none Value.none Value.none (Value.str (Str.ofString "ledgerspeak.decimals") 412) none (Value.ref 163) Value.none 0)) (List.toArray []))
noncomputable def ob165 : Params → Obj := fun P => (Obj.mk (Value.type "tuple") none (Data.seq (List.toArray [(Value.int (0 : Int) 424)]) 0) (List.toArray []))
noncomputable def ob166 : Params → Obj := fun P => (Obj.mk (Value.type "tuple") none (Data.seq (List.toArray []) 0) (List.toArray []))
noncomputable def ob167 : Params → Obj := fun P => (Obj.mk Value.none none (Data.fields (List.toArray [])) (List.toArray []))
noncomputable def ob168 : Params → Obj := fun P => (Obj.mk (Value.type "tuple") none (Data.seq (List.toArray [(Value.str (Str.ofString "units") 428), (Value.str (Str.ofString "scale") 429)]) 0) (List.toArray []))
noncomputable def ob169 : Params → Obj := fun P => (Obj.mk (Value.type "tuple") none (Data.seq (List.toArray []) 0) (List.toArray []))
noncomputable def ob170 : Params → Obj := fun P => (Obj.mk Value.none none (Data.func (FuncData.mk (Str.ofString "decimal") (Str.ofString "decimal") (argsOf (st9 20)) (FuncBody.stmts (bodyOf (st9 20))) (scopeOf (st9 20)) 0 [] Value.none Value.none Value.none Value.none none Value.none Value.none 0)) (List.toArray []))
noncomputable def ob171 : Params → Obj := fun P => (Obj.mk (Value.type "code") none (Data.fields (List.toArray [(Value.str (Str.ofString "decimal") 425), (Value.str (Str.ofString "decimal") 426), (Value.str (Str.ofString "/claim/cut.py") 427), (Value.int (85 : Int) 0), (Value.int (2 : Int) 0), (Value.int (0 : Int) 0), (Value.int (0 : Int) 0), (Value.int (3 : Int) 0), (Value.ref 166), (Value.bool Bool.true), (Value.int (181 : Int) 0), (Value.ref 167), Value.none, (Value.ref 168), (Value.ref 169), (Value.ref 170), (Value.int (430 : Int) 0), (Value.int (85 : Int) 0), (Value.str (Str.ofString "/claim/cut.py") 431)])) (List.toArray []))
noncomputable def ob172 : Params → Obj := fun P => (Obj.mk (Value.type "function") none (Data.func (FuncData.mk (Str.ofString "decimal") (Str.ofString "decimal") (argsOf (st9 20)) (FuncBody.stmts (bodyOf (st9 20))) (scopeOf (st9 20)) 3 [] (Value.ref 165) Value.none Value.none (Value.str (Str.ofString "ledgerspeak.decimals") 412) none (Value.ref 171) Value.none 0)) (List.toArray []))
noncomputable def ob173 : Params → Obj := fun P => (Obj.mk (Value.type "tuple") none (Data.seq (List.toArray []) 0) (List.toArray []))
noncomputable def ob174 : Params → Obj := fun P => (Obj.mk Value.none none (Data.fields (List.toArray [])) (List.toArray []))
noncomputable def ob175 : Params → Obj := fun P => (Obj.mk (Value.type "tuple") none (Data.seq (List.toArray [(Value.str (Str.ofString "a") 436), (Value.str (Str.ofString "scale") 437), (Value.str (Str.ofString "is_rounded") 438), (Value.str (Str.ofString "size") 439), (Value.str (Str.ofString "half") 440)]) 0) (List.toArray []))
noncomputable def ob176 : Params → Obj := fun P => (Obj.mk (Value.type "tuple") none (Data.seq (List.toArray []) 0) (List.toArray []))
noncomputable def ob177 : Params → Obj := fun P => (Obj.mk Value.none none (Data.func (FuncData.mk (Str.ofString "units_at") (Str.ofString "units_at") (argsOf (st9 21)) (FuncBody.stmts (bodyOf (st9 21))) (scopeOf (st9 21)) 0 [] Value.none Value.none Value.none Value.none none Value.none Value.none 0)) (List.toArray []))
noncomputable def ob178 : Params → Obj := fun P => (Obj.mk (Value.type "code") none (Data.fields (List.toArray [(Value.str (Str.ofString "units_at") 433), (Value.str (Str.ofString "units_at") 434), (Value.str (Str.ofString "/claim/cut.py") 435), (Value.int (92 : Int) 0), (Value.int (3 : Int) 0), (Value.int (0 : Int) 0), (Value.int (0 : Int) 0), (Value.int (3 : Int) 0), (Value.ref 173), (Value.bool Bool.true), (Value.int (181 : Int) 0), (Value.ref 174), Value.none, (Value.ref 175), (Value.ref 176), (Value.ref 177), (Value.int (441 : Int) 0), (Value.int (92 : Int) 0), (Value.str (Str.ofString "/claim/cut.py") 442)])) (List.toArray []))
noncomputable def ob179 : Params → Obj := fun P => (Obj.mk (Value.type "function") none (Data.func (FuncData.mk (Str.ofString "units_at") (Str.ofString "units_at") (argsOf (st9 21)) (FuncBody.stmts (bodyOf (st9 21))) (scopeOf (st9 21)) 3 [] Value.none Value.none Value.none (Value.str (Str.ofString "ledgerspeak.decimals") 412) none (Value.ref 178) Value.none 0)) (List.toArray []))
noncomputable def ob180 : Params → Obj := fun P => (Obj.mk (Value.type "tuple") none (Data.seq (List.toArray []) 0) (List.toArray []))
noncomputable def ob181 : Params → Obj := fun P => (Obj.mk Value.none none (Data.fields (List.toArray [])) (List.toArray []))
noncomputable def ob182 : Params → Obj := fun P => (Obj.mk (Value.type "tuple") none (Data.seq (List.toArray [(Value.str (Str.ofString "a") 447)]) 0) (List.toArray []))
noncomputable def ob183 : Params → Obj := fun P => (Obj.mk (Value.type "tuple") none (Data.seq (List.toArray []) 0) (List.toArray []))
noncomputable def ob184 : Params → Obj := fun P => (Obj.mk Value.none none (Data.func (FuncData.mk (Str.ofString "is_whole") (Str.ofString "is_whole") (argsOf (st9 22)) (FuncBody.stmts (bodyOf (st9 22))) (scopeOf (st9 22)) 0 [] Value.none Value.none Value.none Value.none none Value.none Value.none 0)) (List.toArray []))
noncomputable def ob185 : Params → Obj := fun P => (Obj.mk (Value.type "code") none (Data.fields (List.toArray [(Value.str (Str.ofString "is_whole") 444), (Value.str (Str.ofString "is_whole") 445), (Value.str (Str.ofString "/claim/cut.py") 446), (Value.int (100 : Int) 0), (Value.int (1 : Int) 0), (Value.int (0 : Int) 0), (Value.int (0 : Int) 0), (Value.int (3 : Int) 0), (Value.ref 180), (Value.bool Bool.true), (Value.int (181 : Int) 0), (Value.ref 181), Value.none, (Value.ref 182), (Value.ref 183), (Value.ref 184), (Value.int (448 : Int) 0), (Value.int (100 : Int) 0), (Value.str (Str.ofString "/claim/cut.py") 449)])) (List.toArray []))
noncomputable def ob186 : Params → Obj := fun P => (Obj.mk (Value.type "function") none (Data.func (FuncData.mk (Str.ofString "is_whole") (Str.ofString "is_whole") (argsOf (st9 22)) (FuncBody.stmts (bodyOf (st9 22))) (scopeOf (st9 22)) 3 [] Value.none Value.none Value.none (Value.str (Str.ofString "ledgerspeak.decimals") 412) none (Value.ref 185) Value.none 0)) (List.toArray []))
noncomputable def ob187 : Params → Obj := fun P => (Obj.mk (Value.type "tuple") none (Data.seq (List.toArray []) 0) (List.toArray []))
noncomputable def ob188 : Params → Obj := fun P => (Obj.mk Value.none none (Data.fields (List.toArray [])) (List.toArray []))
noncomputable def ob189 : Params → Obj := fun P => (Obj.mk (Value.type "tuple") none (Data.seq (List.toArray [(Value.str (Str.ofString "a") 454)]) 0) (List.toArray []))
noncomputable def ob190 : Params → Obj := fun P => (Obj.mk (Value.type "tuple") none (Data.seq (List.toArray []) 0) (List.toArray []))
noncomputable def ob191 : Params → Obj := fun P => (Obj.mk Value.none none (Data.func (FuncData.mk (Str.ofString "whole_of") (Str.ofString "whole_of") (argsOf (st9 23)) (FuncBody.stmts (bodyOf (st9 23))) (scopeOf (st9 23)) 0 [] Value.none Value.none Value.none Value.none none Value.none Value.none 0)) (List.toArray []))
noncomputable def ob192 : Params → Obj := fun P => (Obj.mk (Value.type "code") none (Data.fields (List.toArray [(Value.str (Str.ofString "whole_of") 451), (Value.str (Str.ofString "whole_of") 452), (Value.str (Str.ofString "/claim/cut.py") 453), (Value.int (102 : Int) 0), (Value.int (1 : Int) 0), (Value.int (0 : Int) 0), (Value.int (0 : Int) 0), (Value.int (3 : Int) 0), (Value.ref 187), (Value.bool Bool.true), (Value.int (181 : Int) 0), (Value.ref 188), Value.none, (Value.ref 189), (Value.ref 190), (Value.ref 191), (Value.int (455 : Int) 0), (Value.int (102 : Int) 0), (Value.str (Str.ofString "/claim/cut.py") 456)])) (List.toArray []))
noncomputable def ob193 : Params → Obj := fun P => (Obj.mk (Value.type "function") none (Data.func (FuncData.mk (Str.ofString "whole_of") (Str.ofString "whole_of") (argsOf (st9 23)) (FuncBody.stmts (bodyOf (st9 23))) (scopeOf (st9 23)) 3 [] Value.none Value.none Value.none (Value.str (Str.ofString "ledgerspeak.decimals") 412) none (Value.ref 192) Value.none 0)) (List.toArray []))
noncomputable def ob194 : Params → Obj := fun P => (Obj.mk (Value.type "tuple") none (Data.seq (List.toArray []) 0) (List.toArray []))
noncomputable def ob195 : Params → Obj := fun P => (Obj.mk Value.none none (Data.fields (List.toArray [])) (List.toArray []))
noncomputable def ob196 : Params → Obj := fun P => (Obj.mk (Value.type "tuple") none (Data.seq (List.toArray [(Value.str (Str.ofString "figures") 461), (Value.str (Str.ofString "number") 462), (Value.str (Str.ofString "figure") 463)]) 0) (List.toArray []))
noncomputable def ob197 : Params → Obj := fun P => (Obj.mk (Value.type "tuple") none (Data.seq (List.toArray []) 0) (List.toArray []))
noncomputable def ob198 : Params → Obj := fun P => (Obj.mk Value.none none (Data.func (FuncData.mk (Str.ofString "worth_of") (Str.ofString "worth_of") (argsOf (st9 24)) (FuncBody.stmts (bodyOf (st9 24))) (scopeOf (st9 24)) 0 [] Value.none Value.none Value.none Value.none none Value.none Value.none 0)) (List.toArray []))
noncomputable def ob199 : Params → Obj := fun P => (Obj.mk (Value.type "code") none (Data.fields (List.toArray [(Value.str (Str.ofString "worth_of") 458), (Value.str (Str.ofString "worth_of") 459), (Value.str (Str.ofString "/claim/cut.py") 460), (Value.int (104 : Int) 0), (Value.int (1 : Int) 0), (Value.int (0 : Int) 0), (Value.int (0 : Int) 0), (Value.int (3 : Int) 0), (Value.ref 194), (Value.bool Bool.true), (Value.int (181 : Int) 0), (Value.ref 195), Value.none, (Value.ref 196), (Value.ref 197), (Value.ref 198), (Value.int (464 : Int) 0), (Value.int (104 : Int) 0), (Value.str (Str.ofString "/claim/cut.py") 465)])) (List.toArray []))
noncomputable def ob200 : Params → Obj := fun P => (Obj.mk (Value.type "function") none (Data.func (FuncData.mk (Str.ofString "worth_of") (Str.ofString "worth_of") (argsOf (st9 24)) (FuncBody.stmts (bodyOf (st9 24))) (scopeOf (st9 24)) 3 [] Value.none Value.none Value.none (Value.str (Str.ofString "ledgerspeak.decimals") 412) none (Value.ref 199) Value.none 0)) (List.toArray []))
noncomputable def ob201 : Params → Obj := fun P => (Obj.mk (Value.type "tuple") none (Data.seq (List.toArray []) 0) (List.toArray []))
noncomputable def ob202 : Params → Obj := fun P => (Obj.mk Value.none none (Data.fields (List.toArray [])) (List.toArray []))
noncomputable def ob203 : Params → Obj := fun P => (Obj.mk (Value.type "tuple") none (Data.seq (List.toArray [(Value.str (Str.ofString "text") 470), (Value.str (Str.ofString "begin") 471), (Value.str (Str.ofString "ahead") 472), (Value.str (Str.ofString "behind") 473), (Value.str (Str.ofString "point") 474), (Value.str (Str.ofString "at") 475), (Value.str (Str.ofString "units") 476)]) 0) (List.toArray []))
noncomputable def ob204 : Params → Obj := fun P => (Obj.mk (Value.type "tuple") none (Data.seq (List.toArray []) 0) (List.toArray []))
noncomputable def ob205 : Params → Obj := fun P => (Obj.mk Value.none none (Data.func (FuncData.mk (Str.ofString "read_decimal") (Str.ofString "read_decimal") (argsOf (st9 25)) (FuncBody.stmts (bodyOf (st9 25))) (scopeOf (st9 25)) 0 [] Value.none Value.none Value.none Value.none none Value.none Value.none 0)) (List.toArray []))
noncomputable def ob206 : Params → Obj := fun P => (Obj.mk (Value.type "code") none (Data.fields (List.toArray [(Value.str (Str.ofString "read_decimal") 467), (Value.str (Str.ofString "read_decimal") 468), (Value.str (Str.ofString "/claim/cut.py") 469), (Value.int (109 : Int) 0), (Value.int (1 : Int) 0), (Value.int (0 : Int) 0), (Value.int (0 : Int) 0), (Value.int (3 : Int) 0), (Value.ref 201), (Value.bool Bool.true), (Value.int (181 : Int) 0), (Value.ref 202), Value.none, (Value.ref 203), (Value.ref 204), (Value.ref 205), (Value.int (477 : Int) 0), (Value.int (109 : Int) 0), (Value.str (Str.ofString "/claim/cut.py") 478)])) (List.toArray []))
noncomputable def ob207 : Params → Obj := fun P => (Obj.mk (Value.type "function") none (Data.func (FuncData.mk (Str.ofString "read_decimal") (Str.ofString "read_decimal") (argsOf (st9 25)) (FuncBody.stmts (bodyOf (st9 25))) (scopeOf (st9 25)) 3 [] Value.none Value.none Value.none (Value.str (Str.ofString "ledgerspeak.decimals") 412) none (Value.ref 206) Value.none 0)) (List.toArray []))
noncomputable def ob208 : Params → Obj := fun P => (Obj.mk (Value.type "tuple") none (Data.seq (List.toArray []) 0) (List.toArray []))
noncomputable def ob209 : Params → Obj := fun P => (Obj.mk Value.none none (Data.fields (List.toArray [])) (List.toArray []))
noncomputable def ob210 : Params → Obj := fun P => (Obj.mk (Value.type "tuple") none (Data.seq (List.toArray [(Value.str (Str.ofString "word") 487)]) 0) (List.toArray []))
noncomputable def ob211 : Params → Obj := fun P => (Obj.mk (Value.type "tuple") none (Data.seq (List.toArray []) 0) (List.toArray []))
noncomputable def ob212 : Params → Obj := fun P => (Obj.mk Value.none none (Data.func (FuncData.mk (Str.ofString "is_reserved") (Str.ofString "is_reserved") (argsOf (st9 28)) (FuncBody.stmts (bodyOf (st9 28))) (scopeOf (st9 28)) 0 [] Value.none Value.none Value.none Value.none none Value.none Value.none 0)) (List.toArray []))
noncomputable def ob213 : Params → Obj := fun P => (Obj.mk (Value.type "code") none (Data.fields (List.toArray [(Value.str (Str.ofString "is_reserved") 484), (Value.str (Str.ofString "is_reserved") 485), (Value.str (Str.ofString "/claim/cut.py") 486), (Value.int (126 : Int) 0), (Value.int (1 : Int) 0), (Value.int (0 : Int) 0), (Value.int (0 : Int) 0), (Value.int (3 : Int) 0), (Value.ref 208), (Value.bool Bool.true), (Value.int (181 : Int) 0), (Value.ref 209), Value.none, (Value.ref 210), (Value.ref 211), (Value.ref 212), (Value.int (488 : Int) 0), (Value.int (126 : Int) 0), (Value.str (Str.ofString "/claim/cut.py") 489)])) (List.toArray []))
noncomputable def ob214 : Params → Obj := fun P => (Obj.mk (Value.type "function") none (Data.func (FuncData.mk (Str.ofString "is_reserved") (Str.ofString "is_reserved") (argsOf (st9 28)) (FuncBody.stmts (bodyOf (st9 28))) (scopeOf (st9 28)) 3 [] Value.none Value.none Value.none (Value.str (Str.ofString "ledgerspeak.reader") 480) none (Value.ref 213) Value.none 0)) (List.toArray []))
noncomputable def ob215 : Params → Obj := fun P => (Obj.mk (Value.type "tuple") none (Data.seq (List.toArray []) 0) (List.toArray []))
noncomputable def ob216 : Params → Obj := fun P => (Obj.mk (Value.type "builtin_function_or_method") none (Data.fields (List.toArray [(Value.builtin "type.__prepare__"), (Value.type "type")])) (List.toArray []))
noncomputable def ob217 : Params → Obj := fun P => (Obj.mk (Value.type "dict") none (Data.dict (List.toArray [(DictEntry.mk (PyData.keyHash P (Str.ofString "__module__")) (Value.str (Str.ofString "__module__") 498) (Value.str (Str.ofString "ledgerspeak.reader") 480)), (DictEntry.mk (PyData.keyHash P (Str.ofString "__qualname__")) (Value.str (Str.ofString "__qualname__") 500) (Value.str (Str.ofString "Reader") 499)), (DictEntry.mk (PyData.keyHash P (Str.ofString "__firstlineno__")) (Value.str (Str.ofString "__firstlineno__") 502) (Value.int (128 : Int) 501)), (DictEntry.mk (PyData.keyHash P (Str.ofString "__init__")) (Value.str (Str.ofString "__init__") 512) (Value.ref 229)), (DictEntry.mk (PyData.keyHash P (Str.ofString "peek")) (Value.str (Str.ofString "peek") 521) (Value.ref 237)), (DictEntry.mk (PyData.keyHash P (Str.ofString "is_done")) (Value.str (Str.ofString "is_done") 528) (Value.ref 244)), (DictEntry.mk (PyData.keyHash P (Str.ofString "fault")) (Value.str (Str.ofString "fault") 536) (Value.ref 251)), (DictEntry.mk (PyData.keyHash P (Str.ofString "take")) (Value.str (Str.ofString "take") 544) (Value.ref 258)), (DictEntry.mk (PyData.keyHash P (Str.ofString "is_kind")) (Value.str (Str.ofString "is_kind") 555) (Value.ref 266)), (DictEntry.mk (PyData.keyHash P (Str.ofString "is_word")) (Value.str (Str.ofString "is_word") 565) (Value.ref 273)), (DictEntry.mk (PyData.keyHash P (Str.ofString "skip")) (Value.str (Str.ofString "skip") 573) (Value.ref 280)), (DictEntry.mk (PyData.keyHash P (Str.ofString "need")) (Value.str (Str.ofString "need") 581) (Value.ref 287)), (DictEntry.mk (PyData.keyHash P (Str.ofString "one_of")) (Value.str (Str.ofString "one_of") 589) (Value.ref 294)), (DictEntry.mk (PyData.keyHash P (Str.ofString "word")) (Value.str (Str.ofString "word") 596) (Value.ref 301)), (DictEntry.mk (PyData.keyHash P (Str.ofString "is_name")) (Value.str (Str.ofString "is_name") 605) (Value.ref 309)), (DictEntry.mk (PyData.keyHash P (Str.ofString "name")) (Value.str (Str.ofString "name") 612) (Value.ref 316)), (DictEntry.mk (PyData.keyHash P (Str.ofString "names")) (Value.str (Str.ofString "names") 620) (Value.ref 323)), (DictEntry.mk (PyData.keyHash P (Str.ofString "is_sign")) (Value.str (Str.ofString "is_sign") 630) (Value.ref 331)), (DictEntry.mk (PyData.keyHash P (Str.ofString "skip_sign")) (Value.str (Str.ofString "skip_sign") 638) (Value.ref 338)), (DictEntry.mk (PyData.keyHash P (Str.ofString "need_sign")) (Value.str (Str.ofString "need_sign") 646) (Value.ref 345)), (DictEntry.mk (PyData.keyHash P (Str.ofString "is_number")) (Value.str (Str.ofString "is_number") 653) (Value.ref 352)), (DictEntry.mk (PyData.keyHash P (Str.ofString "signed")) (Value.str (Str.ofString "signed") 660) (Value.ref 359)), (DictEntry.mk (PyData.keyHash P (Str.ofString "whole")) (Value.str (Str.ofString "whole") 668) (Value.ref 366)), (DictEntry.mk (PyData.keyHash P (Str.ofString "literal")) (Value.str (Str.ofString "literal") 675) (Value.ref 373)), (DictEntry.mk (PyData.keyHash P (Str.ofString "octets")) (Value.str (Str.ofString "octets") 682) (Value.ref 380)), (DictEntry.mk (PyData.keyHash P (Str.ofString "__static_attributes__")) (Value.str (Str.ofString "__static_attributes__") 686) (Value.ref 381))]) 26) (List.toArray []))
noncomputable def ob218 : Params → Obj := fun P => (Obj.mk (Value.type "tuple") none (Data.seq (List.toArray []) 0) (List.toArray []))
noncomputable def ob219 : Params → Obj := fun P => (Obj.mk Value.none none (Data.fields (List.toArray [(Value.int (130 : Int) 0), (Value.int (4 : Int) 0), (Value.ref 228), (Value.int (135 : Int) 0), (Value.int (4 : Int) 0), (Value.ref 236), (Value.int (140 : Int) 0), (Value.int (4 : Int) 0), (Value.ref 243), (Value.int (143 : Int) 0), (Value.int (4 : Int) 0), (Value.ref 250), (Value.int (148 : Int) 0), (Value.int (4 : Int) 0), (Value.ref 257), (Value.int (155 : Int) 0), (Value.int (4 : Int) 0), (Value.ref 265), (Value.int (159 : Int) 0), (Value.int (4 : Int) 0), (Value.ref 272), (Value.int (167 : Int) 0), (Value.int (4 : Int) 0), (Value.ref 279), (Value.int (173 : Int) 0), (Value.int (4 : Int) 0), (Value.ref 286), (Value.int (177 : Int) 0), (Value.int (4 : Int) 0), (Value.ref 293), (Value.int (180 : Int) 0), (Value.int (4 : Int) 0), (Value.ref 300), (Value.int (185 : Int) 0), (Value.int (4 : Int) 0), (Value.ref 308), (Value.int (188 : Int) 0), (Value.int (4 : Int) 0), (Value.ref 315), (Value.int (193 : Int) 0), (Value.int (4 : Int) 0), (Value.ref 322), (Value.int (199 : Int) 0), (Value.int (4 : Int) 0), (Value.ref 330), (Value.int (202 : Int) 0), (Value.int (4 : Int) 0), (Value.ref 337), (Value.int (208 : Int) 0), (Value.int (4 : Int) 0), (Value.ref 344), (Value.int (212 : Int) 0), (Value.int (4 : Int) 0), (Value.ref 351), (Value.int (215 : Int) 0), (Value.int (4 : Int) 0), (Value.ref 358), (Value.int (218 : Int) 0), (Value.int (4 : Int) 0), (Value.ref 365), (Value.int (227 : Int) 0), (Value.int (4 : Int) 0), (Value.ref 372), (Value.int (232 : Int) 0), (Value.int (4 : Int) 0), (Value.ref 379)])) (List.toArray []))
noncomputable def ob220 : Params → Obj := fun P => (Obj.mk (Value.type "code") none (Data.fields (List.toArray [(Value.str (Str.ofString "Reader") 493), (Value.str (Str.ofString "Reader") 494), (Value.str (Str.ofString "/claim/cut.py") 495), (Value.int (128 : Int) 0), (Value.int (0 : Int) 0), (Value.int (0 : Int) 0), (Value.int (0 : Int) 0), (Value.int (0 : Int) 0), (Value.ref 218), (Value.bool Bool.false), (Value.int (181 : Int) 0), (Value.ref 219), Value.none, Value.none, Value.none, Value.none, (Value.int (496 : Int) 0), (Value.int (128 : Int) 0), (Value.str (Str.ofString "/claim/cut.py") 497)])) (List.toArray []))
noncomputable def ob221 : Params → Obj := fun P => (Obj.mk (Value.type "frame") none Data.plain (List.toArray [(some (Value.ref 220)), (some (Value.ref 3)), (some (Value.ref 217)), none, (some (Value.str (Str.ofString "ledgerspeak.reader") 480)), none, (some (Value.ref 0))]))
noncomputable def ob222 : Params → Obj := fun P => (Obj.mk (Value.type "tuple") none (Data.seq (List.toArray [(Value.int (0 : Int) 503)]) 0) (List.toArray []))
noncomputable def ob223 : Params → Obj := fun P => (Obj.mk (Value.type "tuple") none (Data.seq (List.toArray []) 0) (List.toArray []))
noncomputable def ob224 : Params → Obj := fun P => (Obj.mk Value.none none (Data.fields (List.toArray [])) (List.toArray []))
noncomputable def ob225 : Params → Obj := fun P => (Obj.mk (Value.type "tuple") none (Data.seq (List.toArray [(Value.str (Str.ofString "self") 507), (Value.str (Str.ofString "tokens") 508), (Value.str (Str.ofString "at") 509)]) 0) (List.toArray []))
noncomputable def ob226 : Params → Obj := fun P => (Obj.mk (Value.type "tuple") none (Data.seq (List.toArray []) 0) (List.toArray []))
noncomputable def ob227 : Params → Obj := fun P => (Obj.mk Value.none none (Data.func (FuncData.mk (Str.ofString "__init__") (Str.ofString "Reader.__init__") (argsOf (nthS (bodyOf (st9 29)) 0)) (FuncBody.stmts (bodyOf (nthS (bodyOf (st9 29)) 0))) (scopeOf (nthS (bodyOf (st9 29)) 0)) 0 [] Value.none Value.none Value.none Value.none none Value.none Value.none 0)) (List.toArray []))
noncomputable def ob228 : Params → Obj := fun P => (Obj.mk (Value.type "code") none (Data.fields (List.toArray [(Value.str (Str.ofString "__init__") 504), (Value.str (Str.ofString "Reader.__init__") 505), (Value.str (Str.ofString "/claim/cut.py") 506), (Value.int (130 : Int) 0), (Value.int (3 : Int) 0), (Value.int (0 : Int) 0), (Value.int (0 : Int) 0), (Value.int (3 : Int) 0), (Value.ref 223), (Value.bool Bool.true), (Value.int (181 : Int) 0), (Value.ref 224), Value.none, (Value.ref 225), (Value.ref 226), (Value.ref 227), (Value.int (510 : Int) 0), (Value.int (130 : Int) 0), (Value.str (Str.ofString "/claim/cut.py") 511)])) (List.toArray []))
noncomputable def ob229 : Params → Obj := fun P => (Obj.mk (Value.type "function") none (Data.func (FuncData.mk (Str.ofString "__init__") (Str.ofString "Reader.__init__") (argsOf (nthS (bodyOf (st9 29)) 0)) (FuncBody.stmts (bodyOf (nthS (bodyOf (st9 29)) 0))) (scopeOf (nthS (bodyOf (st9 29)) 0)) 3 [] (Value.ref 222) Value.none Value.none (Value.str (Str.ofString "ledgerspeak.reader") 480) none (Value.ref 228) Value.none 0)) (List.toArray []))
noncomputable def ob230 : Params → Obj := fun P => (Obj.mk (Value.type "tuple") none (Data.seq (List.toArray [(Value.int (0 : Int) 513)]) 0) (List.toArray []))
noncomputable def ob231 : Params → Obj := fun P => (Obj.mk (Value.type "tuple") none (Data.seq (List.toArray []) 0) (List.toArray []))
noncomputable def ob232 : Params → Obj := fun P => (Obj.mk Value.none none (Data.fields (List.toArray [])) (List.toArray []))
noncomputable def ob233 : Params → Obj := fun P => (Obj.mk (Value.type "tuple") none (Data.seq (List.toArray [(Value.str (Str.ofString "self") 517), (Value.str (Str.ofString "ahead") 518)]) 0) (List.toArray []))
noncomputable def ob234 : Params → Obj := fun P => (Obj.mk (Value.type "tuple") none (Data.seq (List.toArray []) 0) (List.toArray []))
noncomputable def ob235 : Params → Obj := fun P => (Obj.mk Value.none none (Data.func (FuncData.mk (Str.ofString "peek") (Str.ofString "Reader.peek") (argsOf (nthS (bodyOf (st9 29)) 1)) (FuncBody.stmts (bodyOf (nthS (bodyOf (st9 29)) 1))) (scopeOf (nthS (bodyOf (st9 29)) 1)) 0 [] Value.none Value.none Value.none Value.none none Value.none Value.none 0)) (List.toArray []))
noncomputable def ob236 : Params → Obj := fun P => (Obj.mk (Value.type "code") none (Data.fields (List.toArray [(Value.str (Str.ofString "peek") 514), (Value.str (Str.ofString "Reader.peek") 515), (Value.str (Str.ofString "/claim/cut.py") 516), (Value.int (135 : Int) 0), (Value.int (2 : Int) 0), (Value.int (0 : Int) 0), (Value.int (0 : Int) 0), (Value.int (3 : Int) 0), (Value.ref 231), (Value.bool Bool.true), (Value.int (181 : Int) 0), (Value.ref 232), Value.none, (Value.ref 233), (Value.ref 234), (Value.ref 235), (Value.int (519 : Int) 0), (Value.int (135 : Int) 0), (Value.str (Str.ofString "/claim/cut.py") 520)])) (List.toArray []))
noncomputable def ob237 : Params → Obj := fun P => (Obj.mk (Value.type "function") none (Data.func (FuncData.mk (Str.ofString "peek") (Str.ofString "Reader.peek") (argsOf (nthS (bodyOf (st9 29)) 1)) (FuncBody.stmts (bodyOf (nthS (bodyOf (st9 29)) 1))) (scopeOf (nthS (bodyOf (st9 29)) 1)) 3 [] (Value.ref 230) Value.none Value.none (Value.str (Str.ofString "ledgerspeak.reader") 480) none (Value.ref 236) Value.none 0)) (List.toArray []))
noncomputable def ob238 : Params → Obj := fun P => (Obj.mk (Value.type "tuple") none (Data.seq (List.toArray []) 0) (List.toArray []))
noncomputable def ob239 : Params → Obj := fun P => (Obj.mk Value.none none (Data.fields (List.toArray [])) (List.toArray []))
noncomputable def ob240 : Params → Obj := fun P => (Obj.mk (Value.type "tuple") none (Data.seq (List.toArray [(Value.str (Str.ofString "self") 525)]) 0) (List.toArray []))
noncomputable def ob241 : Params → Obj := fun P => (Obj.mk (Value.type "tuple") none (Data.seq (List.toArray []) 0) (List.toArray []))
noncomputable def ob242 : Params → Obj := fun P => (Obj.mk Value.none none (Data.func (FuncData.mk (Str.ofString "is_done") (Str.ofString "Reader.is_done") (argsOf (nthS (bodyOf (st9 29)) 2)) (FuncBody.stmts (bodyOf (nthS (bodyOf (st9 29)) 2))) (scopeOf (nthS (bodyOf (st9 29)) 2)) 0 [] Value.none Value.none Value.none Value.none none Value.none Value.none 0)) (List.toArray []))
noncomputable def ob243 : Params → Obj := fun P => (Obj.mk (Value.type "code") none (Data.fields (List.toArray [(Value.str (Str.ofString "is_done") 522), (Value.str (Str.ofString "Reader.is_done") 523), (Value.str (Str.ofString "/claim/cut.py") 524), (Value.int (140 : Int) 0), (Value.int (1 : Int) 0), (Value.int (0 : Int) 0), (Value.int (0 : Int) 0), (Value.int (3 : Int) 0), (Value.ref 238), (Value.bool Bool.true), (Value.int (181 : Int) 0), (Value.ref 239), Value.none, (Value.ref 240), (Value.ref 241), (Value.ref 242), (Value.int (526 : Int) 0), (Value.int (140 : Int) 0), (Value.str (Str.ofString "/claim/cut.py") 527)])) (List.toArray []))
noncomputable def ob244 : Params → Obj := fun P => (Obj.mk (Value.type "function") none (Data.func (FuncData.mk (Str.ofString "is_done") (Str.ofString "Reader.is_done") (argsOf (nthS (bodyOf (st9 29)) 2)) (FuncBody.stmts (bodyOf (nthS (bodyOf (st9 29)) 2))) (scopeOf (nthS (bodyOf (st9 29)) 2)) 3 [] Value.none Value.none Value.none (Value.str (Str.ofString "ledgerspeak.reader") 480) none (Value.ref 243) Value.none 0)) (List.toArray []))
noncomputable def ob245 : Params → Obj := fun P => (Obj.mk (Value.type "tuple") none (Data.seq (List.toArray []) 0) (List.toArray []))
noncomputable def ob246 : Params → Obj := fun P => (Obj.mk Value.none none (Data.fields (List.toArray [])) (List.toArray []))
noncomputable def ob247 : Params → Obj := fun P => (Obj.mk (Value.type "tuple") none (Data.seq (List.toArray [(Value.str (Str.ofString "self") 532), (Value.str (Str.ofString "what") 533)]) 0) (List.toArray []))
noncomputable def ob248 : Params → Obj := fun P => (Obj.mk (Value.type "tuple") none (Data.seq (List.toArray []) 0) (List.toArray []))
noncomputable def ob249 : Params → Obj := fun P => (Obj.mk Value.none none (Data.func (FuncData.mk (Str.ofString "fault") (Str.ofString "Reader.fault") (argsOf (nthS (bodyOf (st9 29)) 3)) (FuncBody.stmts (bodyOf (nthS (bodyOf (st9 29)) 3))) (scopeOf (nthS (bodyOf (st9 29)) 3)) 0 [] Value.none Value.none Value.none Value.none none Value.none Value.none 0)) (List.toArray []))
noncomputable def ob250 : Params → Obj := fun P => (Obj.mk (Value.type "code") none (Data.fields (List.toArray [(Value.str (Str.ofString "fault") 529), (Value.str (Str.ofString "Reader.fault") 530), (Value.str (Str.ofString "/claim/cut.py") 531), (Value.int (143 : Int) 0), (Value.int (2 : Int) 0), (Value.int (0 : Int) 0), (Value.int (0 : Int) 0), (Value.int (3 : Int) 0), (Value.ref 245), (Value.bool Bool.true), (Value.int (181 : Int) 0), (Value.ref 246), Value.none, (Value.ref 247), (Value.ref 248), (Value.ref 249), (Value.int (534 : Int) 0), (Value.int (143 : Int) 0), (Value.str (Str.ofString "/claim/cut.py") 535)])) (List.toArray []))
noncomputable def ob251 : Params → Obj := fun P => (Obj.mk (Value.type "function") none (Data.func (FuncData.mk (Str.ofString "fault") (Str.ofString "Reader.fault") (argsOf (nthS (bodyOf (st9 29)) 3)) (FuncBody.stmts (bodyOf (nthS (bodyOf (st9 29)) 3))) (scopeOf (nthS (bodyOf (st9 29)) 3)) 3 [] Value.none Value.none Value.none (Value.str (Str.ofString "ledgerspeak.reader") 480) none (Value.ref 250) Value.none 0)) (List.toArray []))
noncomputable def ob252 : Params → Obj := fun P => (Obj.mk (Value.type "tuple") none (Data.seq (List.toArray []) 0) (List.toArray []))
noncomputable def ob253 : Params → Obj := fun P => (Obj.mk Value.none none (Data.fields (List.toArray [])) (List.toArray []))
noncomputable def ob254 : Params → Obj := fun P => (Obj.mk (Value.type "tuple") none (Data.seq (List.toArray [(Value.str (Str.ofString "self") 540), (Value.str (Str.ofString "token") 541)]) 0) (List.toArray []))
noncomputable def ob255 : Params → Obj := fun P => (Obj.mk (Value.type "tuple") none (Data.seq (List.toArray []) 0) (List.toArray []))
noncomputable def ob256 : Params → Obj := fun P => (Obj.mk Value.none none (Data.func (FuncData.mk (Str.ofString "take") (Str.ofString "Reader.take") (argsOf (nthS (bodyOf (st9 29)) 4)) (FuncBody.stmts (bodyOf (nthS (bodyOf (st9 29)) 4))) (scopeOf (nthS (bodyOf (st9 29)) 4)) 0 [] Value.none Value.none Value.none Value.none none Value.none Value.none 0)) (List.toArray []))
noncomputable def ob257 : Params → Obj := fun P => (Obj.mk (Value.type "code") none (Data.fields (List.toArray [(Value.str (Str.ofString "take") 537), (Value.str (Str.ofString "Reader.take") 538), (Value.str (Str.ofString "/claim/cut.py") 539), (Value.int (148 : Int) 0), (Value.int (1 : Int) 0), (Value.int (0 : Int) 0), (Value.int (0 : Int) 0), (Value.int (3 : Int) 0), (Value.ref 252), (Value.bool Bool.true), (Value.int (181 : Int) 0), (Value.ref 253), Value.none, (Value.ref 254), (Value.ref 255), (Value.ref 256), (Value.int (542 : Int) 0), (Value.int (148 : Int) 0), (Value.str (Str.ofString "/claim/cut.py") 543)])) (List.toArray []))
noncomputable def ob258 : Params → Obj := fun P => (Obj.mk (Value.type "function") none (Data.func (FuncData.mk (Str.ofString "take") (Str.ofString "Reader.take") (argsOf (nthS (bodyOf (st9 29)) 4)) (FuncBody.stmts (bodyOf (nthS (bodyOf (st9 29)) 4))) (scopeOf (nthS (bodyOf (st9 29)) 4)) 3 [] Value.none Value.none Value.none (Value.str (Str.ofString "ledgerspeak.reader") 480) none (Value.ref 257) Value.none 0)) (List.toArray []))
noncomputable def ob259 : Params → Obj := fun P => (Obj.mk (Value.type "tuple") none (Data.seq (List.toArray [(Value.int (0 : Int) 545)]) 0) (List.toArray []))
noncomputable def ob260 : Params → Obj := fun P => (Obj.mk (Value.type "tuple") none (Data.seq (List.toArray []) 0) (List.toArray []))
noncomputable def ob261 : Params → Obj := fun P => (Obj.mk Value.none none (Data.fields (List.toArray [])) (List.toArray []))
noncomputable def ob262 : Params → Obj := fun P => (Obj.mk (Value.type "tuple") none (Data.seq (List.toArray [(Value.str (Str.ofString "self") 549), (Value.str (Str.ofString "kind") 550), (Value.str (Str.ofString "ahead") 551), (Value.str (Str.ofString "token") 552)]) 0) (List.toArray []))
noncomputable def ob263 : Params → Obj := fun P => (Obj.mk (Value.type "tuple") none (Data.seq (List.toArray []) 0) (List.toArray []))
noncomputable def ob264 : Params → Obj := fun P => (Obj.mk Value.none none (Data.func (FuncData.mk (Str.ofString "is_kind") (Str.ofString "Reader.is_kind") (argsOf (nthS (bodyOf (st9 29)) 5)) (FuncBody.stmts (bodyOf (nthS (bodyOf (st9 29)) 5))) (scopeOf (nthS (bodyOf (st9 29)) 5)) 0 [] Value.none Value.none Value.none Value.none none Value.none Value.none 0)) (List.toArray []))
noncomputable def ob265 : Params → Obj := fun P => (Obj.mk (Value.type "code") none (Data.fields (List.toArray [(Value.str (Str.ofString "is_kind") 546), (Value.str (Str.ofString "Reader.is_kind") 547), (Value.str (Str.ofString "/claim/cut.py") 548), (Value.int (155 : Int) 0), (Value.int (3 : Int) 0), (Value.int (0 : Int) 0), (Value.int (0 : Int) 0), (Value.int (3 : Int) 0), (Value.ref 260), (Value.bool Bool.true), (Value.int (181 : Int) 0), (Value.ref 261), Value.none, (Value.ref 262), (Value.ref 263), (Value.ref 264), (Value.int (553 : Int) 0), (Value.int (155 : Int) 0), (Value.str (Str.ofString "/claim/cut.py") 554)])) (List.toArray []))
noncomputable def ob266 : Params → Obj := fun P => (Obj.mk (Value.type "function") none (Data.func (FuncData.mk (Str.ofString "is_kind") (Str.ofString "Reader.is_kind") (argsOf (nthS (bodyOf (st9 29)) 5)) (FuncBody.stmts (bodyOf (nthS (bodyOf (st9 29)) 5))) (scopeOf (nthS (bodyOf (st9 29)) 5)) 3 [] (Value.ref 259) Value.none Value.none (Value.str (Str.ofString "ledgerspeak.reader") 480) none (Value.ref 265) Value.none 0)) (List.toArray []))
noncomputable def ob267 : Params → Obj := fun P => (Obj.mk (Value.type "tuple") none (Data.seq (List.toArray []) 0) (List.toArray []))
noncomputable def ob268 : Params → Obj := fun P => (Obj.mk Value.none none (Data.fields (List.toArray [])) (List.toArray []))
noncomputable def ob269 : Params → Obj := fun P => (Obj.mk (Value.type "tuple") none (Data.seq (List.toArray [(Value.str (Str.ofString "self") 559), (Value.str (Str.ofString "words") 560), (Value.str (Str.ofString "ahead") 561), (Value.str (Str.ofString "word") 562)]) 0) (List.toArray []))
noncomputable def ob270 : Params → Obj := fun P => (Obj.mk (Value.type "tuple") none (Data.seq (List.toArray []) 0) (List.toArray []))
noncomputable def ob271 : Params → Obj := fun P => (Obj.mk Value.none none (Data.func (FuncData.mk (Str.ofString "is_word") (Str.ofString "Reader.is_word") (argsOf (nthS (bodyOf (st9 29)) 6)) (FuncBody.stmts (bodyOf (nthS (bodyOf (st9 29)) 6))) (scopeOf (nthS (bodyOf (st9 29)) 6)) 0 [] Value.none Value.none Value.none Value.none none Value.none Value.none 0)) (List.toArray []))
noncomputable def ob272 : Params → Obj := fun P => (Obj.mk (Value.type "code") none (Data.fields (List.toArray [(Value.str (Str.ofString "is_word") 556), (Value.str (Str.ofString "Reader.is_word") 557), (Value.str (Str.ofString "/claim/cut.py") 558), (Value.int (159 : Int) 0), (Value.int (2 : Int) 0), (Value.int (0 : Int) 0), (Value.int (0 : Int) 0), (Value.int (3 : Int) 0), (Value.ref 267), (Value.bool Bool.true), (Value.int (181 : Int) 0), (Value.ref 268), Value.none, (Value.ref 269), (Value.ref 270), (Value.ref 271), (Value.int (563 : Int) 0), (Value.int (159 : Int) 0), (Value.str (Str.ofString "/claim/cut.py") 564)])) (List.toArray []))
noncomputable def ob273 : Params → Obj := fun P => (Obj.mk (Value.type "function") none (Data.func (FuncData.mk (Str.ofString "is_word") (Str.ofString "Reader.is_word") (argsOf (nthS (bodyOf (st9 29)) 6)) (FuncBody.stmts (bodyOf (nthS (bodyOf (st9 29)) 6))) (scopeOf (nthS (bodyOf (st9 29)) 6)) 3 [] Value.none Value.none Value.none (Value.str (Str.ofString "ledgerspeak.reader") 480) none (Value.ref 272) Value.none 0)) (List.toArray []))
noncomputable def ob274 : Params → Obj := fun P => (Obj.mk (Value.type "tuple") none (Data.seq (List.toArray []) 0) (List.toArray []))
noncomputable def ob275 : Params → Obj := fun P => (Obj.mk Value.none none (Data.fields (List.toArray [])) (List.toArray []))
noncomputable def ob276 : Params → Obj := fun P => (Obj.mk (Value.type "tuple") none (Data.seq (List.toArray [(Value.str (Str.ofString "self") 569), (Value.str (Str.ofString "words") 570)]) 0) (List.toArray []))
noncomputable def ob277 : Params → Obj := fun P => (Obj.mk (Value.type "tuple") none (Data.seq (List.toArray []) 0) (List.toArray []))
noncomputable def ob278 : Params → Obj := fun P => (Obj.mk Value.none none (Data.func (FuncData.mk (Str.ofString "skip") (Str.ofString "Reader.skip") (argsOf (nthS (bodyOf (st9 29)) 7)) (FuncBody.stmts (bodyOf (nthS (bodyOf (st9 29)) 7))) (scopeOf (nthS (bodyOf (st9 29)) 7)) 0 [] Value.none Value.none Value.none Value.none none Value.none Value.none 0)) (List.toArray []))
noncomputable def ob279 : Params → Obj := fun P => (Obj.mk (Value.type "code") none (Data.fields (List.toArray [(Value.str (Str.ofString "skip") 566), (Value.str (Str.ofString "Reader.skip") 567), (Value.str (Str.ofString "/claim/cut.py") 568), (Value.int (167 : Int) 0), (Value.int (2 : Int) 0), (Value.int (0 : Int) 0), (Value.int (0 : Int) 0), (Value.int (3 : Int) 0), (Value.ref 274), (Value.bool Bool.true), (Value.int (181 : Int) 0), (Value.ref 275), Value.none, (Value.ref 276), (Value.ref 277), (Value.ref 278), (Value.int (571 : Int) 0), (Value.int (167 : Int) 0), (Value.str (Str.ofString "/claim/cut.py") 572)])) (List.toArray []))
noncomputable def ob280 : Params → Obj := fun P => (Obj.mk (Value.type "function") none (Data.func (FuncData.mk (Str.ofString "skip") (Str.ofString "Reader.skip") (argsOf (nthS (bodyOf (st9 29)) 7)) (FuncBody.stmts (bodyOf (nthS (bodyOf (st9 29)) 7))) (scopeOf (nthS (bodyOf (st9 29)) 7)) 3 [] Value.none Value.none Value.none (Value.str (Str.ofString "ledgerspeak.reader") 480) none (Value.ref 279) Value.none 0)) (List.toArray []))
noncomputable def ob281 : Params → Obj := fun P => (Obj.mk (Value.type "tuple") none (Data.seq (List.toArray []) 0) (List.toArray []))
noncomputable def ob282 : Params → Obj := fun P => (Obj.mk Value.none none (Data.fields (List.toArray [])) (List.toArray []))
noncomputable def ob283 : Params → Obj := fun P => (Obj.mk (Value.type "tuple") none (Data.seq (List.toArray [(Value.str (Str.ofString "self") 577), (Value.str (Str.ofString "words") 578)]) 0) (List.toArray []))
noncomputable def ob284 : Params → Obj := fun P => (Obj.mk (Value.type "tuple") none (Data.seq (List.toArray []) 0) (List.toArray []))
noncomputable def ob285 : Params → Obj := fun P => (Obj.mk Value.none none (Data.func (FuncData.mk (Str.ofString "need") (Str.ofString "Reader.need") (argsOf (nthS (bodyOf (st9 29)) 8)) (FuncBody.stmts (bodyOf (nthS (bodyOf (st9 29)) 8))) (scopeOf (nthS (bodyOf (st9 29)) 8)) 0 [] Value.none Value.none Value.none Value.none none Value.none Value.none 0)) (List.toArray []))
noncomputable def ob286 : Params → Obj := fun P => (Obj.mk (Value.type "code") none (Data.fields (List.toArray [(Value.str (Str.ofString "need") 574), (Value.str (Str.ofString "Reader.need") 575), (Value.str (Str.ofString "/claim/cut.py") 576), (Value.int (173 : Int) 0), (Value.int (2 : Int) 0), (Value.int (0 : Int) 0), (Value.int (0 : Int) 0), (Value.int (3 : Int) 0), (Value.ref 281), (Value.bool Bool.true), (Value.int (181 : Int) 0), (Value.ref 282), Value.none, (Value.ref 283), (Value.ref 284), (Value.ref 285), (Value.int (579 : Int) 0), (Value.int (173 : Int) 0), (Value.str (Str.ofString "/claim/cut.py") 580)])) (List.toArray []))
noncomputable def ob287 : Params → Obj := fun P => (Obj.mk (Value.type "function") none (Data.func (FuncData.mk (Str.ofString "need") (Str.ofString "Reader.need") (argsOf (nthS (bodyOf (st9 29)) 8)) (FuncBody.stmts (bodyOf (nthS (bodyOf (st9 29)) 8))) (scopeOf (nthS (bodyOf (st9 29)) 8)) 3 [] Value.none Value.none Value.none (Value.str (Str.ofString "ledgerspeak.reader") 480) none (Value.ref 286) Value.none 0)) (List.toArray []))
noncomputable def ob288 : Params → Obj := fun P => (Obj.mk (Value.type "tuple") none (Data.seq (List.toArray []) 0) (List.toArray []))
noncomputable def ob289 : Params → Obj := fun P => (Obj.mk Value.none none (Data.fields (List.toArray [])) (List.toArray []))
noncomputable def ob290 : Params → Obj := fun P => (Obj.mk (Value.type "tuple") none (Data.seq (List.toArray [(Value.str (Str.ofString "self") 585), (Value.str (Str.ofString "words") 586)]) 0) (List.toArray []))
noncomputable def ob291 : Params → Obj := fun P => (Obj.mk (Value.type "tuple") none (Data.seq (List.toArray []) 0) (List.toArray []))
noncomputable def ob292 : Params → Obj := fun P => (Obj.mk Value.none none (Data.func (FuncData.mk (Str.ofString "one_of") (Str.ofString "Reader.one_of") (argsOf (nthS (bodyOf (st9 29)) 9)) (FuncBody.stmts (bodyOf (nthS (bodyOf (st9 29)) 9))) (scopeOf (nthS (bodyOf (st9 29)) 9)) 0 [] Value.none Value.none Value.none Value.none none Value.none Value.none 0)) (List.toArray []))
noncomputable def ob293 : Params → Obj := fun P => (Obj.mk (Value.type "code") none (Data.fields (List.toArray [(Value.str (Str.ofString "one_of") 582), (Value.str (Str.ofString "Reader.one_of") 583), (Value.str (Str.ofString "/claim/cut.py") 584), (Value.int (177 : Int) 0), (Value.int (2 : Int) 0), (Value.int (0 : Int) 0), (Value.int (0 : Int) 0), (Value.int (3 : Int) 0), (Value.ref 288), (Value.bool Bool.true), (Value.int (181 : Int) 0), (Value.ref 289), Value.none, (Value.ref 290), (Value.ref 291), (Value.ref 292), (Value.int (587 : Int) 0), (Value.int (177 : Int) 0), (Value.str (Str.ofString "/claim/cut.py") 588)])) (List.toArray []))
noncomputable def ob294 : Params → Obj := fun P => (Obj.mk (Value.type "function") none (Data.func (FuncData.mk (Str.ofString "one_of") (Str.ofString "Reader.one_of") (argsOf (nthS (bodyOf (st9 29)) 9)) (FuncBody.stmts (bodyOf (nthS (bodyOf (st9 29)) 9))) (scopeOf (nthS (bodyOf (st9 29)) 9)) 3 [] Value.none Value.none Value.none (Value.str (Str.ofString "ledgerspeak.reader") 480) none (Value.ref 293) Value.none 0)) (List.toArray []))
noncomputable def ob295 : Params → Obj := fun P => (Obj.mk (Value.type "tuple") none (Data.seq (List.toArray []) 0) (List.toArray []))
noncomputable def ob296 : Params → Obj := fun P => (Obj.mk Value.none none (Data.fields (List.toArray [])) (List.toArray []))
noncomputable def ob297 : Params → Obj := fun P => (Obj.mk (Value.type "tuple") none (Data.seq (List.toArray [(Value.str (Str.ofString "self") 593)]) 0) (List.toArray []))
noncomputable def ob298 : Params → Obj := fun P => (Obj.mk (Value.type "tuple") none (Data.seq (List.toArray []) 0) (List.toArray []))
noncomputable def ob299 : Params → Obj := fun P => (Obj.mk Value.none none (Data.func (FuncData.mk (Str.ofString "word") (Str.ofString "Reader.word") (argsOf (nthS (bodyOf (st9 29)) 10)) (FuncBody.stmts (bodyOf (nthS (bodyOf (st9 29)) 10))) (scopeOf (nthS (bodyOf (st9 29)) 10)) 0 [] Value.none Value.none Value.none Value.none none Value.none Value.none 0)) (List.toArray []))
noncomputable def ob300 : Params → Obj := fun P => (Obj.mk (Value.type "code") none (Data.fields (List.toArray [(Value.str (Str.ofString "word") 590), (Value.str (Str.ofString "Reader.word") 591), (Value.str (Str.ofString "/claim/cut.py") 592), (Value.int (180 : Int) 0), (Value.int (1 : Int) 0), (Value.int (0 : Int) 0), (Value.int (0 : Int) 0), (Value.int (3 : Int) 0), (Value.ref 295), (Value.bool Bool.true), (Value.int (181 : Int) 0), (Value.ref 296), Value.none, (Value.ref 297), (Value.ref 298), (Value.ref 299), (Value.int (594 : Int) 0), (Value.int (180 : Int) 0), (Value.str (Str.ofString "/claim/cut.py") 595)])) (List.toArray []))
noncomputable def ob301 : Params → Obj := fun P => (Obj.mk (Value.type "function") none (Data.func (FuncData.mk (Str.ofString "word") (Str.ofString "Reader.word") (argsOf (nthS (bodyOf (st9 29)) 10)) (FuncBody.stmts (bodyOf (nthS (bodyOf (st9 29)) 10))) (scopeOf (nthS (bodyOf (st9 29)) 10)) 3 [] Value.none Value.none Value.none (Value.str (Str.ofString "ledgerspeak.reader") 480) none (Value.ref 300) Value.none 0)) (List.toArray []))
noncomputable def ob302 : Params → Obj := fun P => (Obj.mk (Value.type "tuple") none (Data.seq (List.toArray [(Value.int (0 : Int) 597)]) 0) (List.toArray []))
noncomputable def ob303 : Params → Obj := fun P => (Obj.mk (Value.type "tuple") none (Data.seq (List.toArray []) 0) (List.toArray []))
noncomputable def ob304 : Params → Obj := fun P => (Obj.mk Value.none none (Data.fields (List.toArray [])) (List.toArray []))
noncomputable def ob305 : Params → Obj := fun P => (Obj.mk (Value.type "tuple") none (Data.seq (List.toArray [(Value.str (Str.ofString "self") 601), (Value.str (Str.ofString "ahead") 602)]) 0) (List.toArray []))
noncomputable def ob306 : Params → Obj := fun P => (Obj.mk (Value.type "tuple") none (Data.seq (List.toArray []) 0) (List.toArray []))
noncomputable def ob307 : Params → Obj := fun P => (Obj.mk Value.none none (Data.func (FuncData.mk (Str.ofString "is_name") (Str.ofString "Reader.is_name") (argsOf (nthS (bodyOf (st9 29)) 11)) (FuncBody.stmts (bodyOf (nthS (bodyOf (st9 29)) 11))) (scopeOf (nthS (bodyOf (st9 29)) 11)) 0 [] Value.none Value.none Value.none Value.none none Value.none Value.none 0)) (List.toArray []))
noncomputable def ob308 : Params → Obj := fun P => (Obj.mk (Value.type "code") none (Data.fields (List.toArray [(Value.str (Str.ofString "is_name") 598), (Value.str (Str.ofString "Reader.is_name") 599), (Value.str (Str.ofString "/claim/cut.py") 600), (Value.int (185 : Int) 0), (Value.int (2 : Int) 0), (Value.int (0 : Int) 0), (Value.int (0 : Int) 0), (Value.int (3 : Int) 0), (Value.ref 303), (Value.bool Bool.true), (Value.int (181 : Int) 0), (Value.ref 304), Value.none, (Value.ref 305), (Value.ref 306), (Value.ref 307), (Value.int (603 : Int) 0), (Value.int (185 : Int) 0), (Value.str (Str.ofString "/claim/cut.py") 604)])) (List.toArray []))
noncomputable def ob309 : Params → Obj := fun P => (Obj.mk (Value.type "function") none (Data.func (FuncData.mk (Str.ofString "is_name") (Str.ofString "Reader.is_name") (argsOf (nthS (bodyOf (st9 29)) 11)) (FuncBody.stmts (bodyOf (nthS (bodyOf (st9 29)) 11))) (scopeOf (nthS (bodyOf (st9 29)) 11)) 3 [] (Value.ref 302) Value.none Value.none (Value.str (Str.ofString "ledgerspeak.reader") 480) none (Value.ref 308) Value.none 0)) (List.toArray []))
noncomputable def ob310 : Params → Obj := fun P => (Obj.mk (Value.type "tuple") none (Data.seq (List.toArray []) 0) (List.toArray []))
noncomputable def ob311 : Params → Obj := fun P => (Obj.mk Value.none none (Data.fields (List.toArray [])) (List.toArray []))
noncomputable def ob312 : Params → Obj := fun P => (Obj.mk (Value.type "tuple") none (Data.seq (List.toArray [(Value.str (Str.ofString "self") 609)]) 0) (List.toArray []))
noncomputable def ob313 : Params → Obj := fun P => (Obj.mk (Value.type "tuple") none (Data.seq (List.toArray []) 0) (List.toArray []))
noncomputable def ob314 : Params → Obj := fun P => (Obj.mk Value.none none (Data.func (FuncData.mk (Str.ofString "name") (Str.ofString "Reader.name") (argsOf (nthS (bodyOf (st9 29)) 12)) (FuncBody.stmts (bodyOf (nthS (bodyOf (st9 29)) 12))) (scopeOf (nthS (bodyOf (st9 29)) 12)) 0 [] Value.none Value.none Value.none Value.none none Value.none Value.none 0)) (List.toArray []))
noncomputable def ob315 : Params → Obj := fun P => (Obj.mk (Value.type "code") none (Data.fields (List.toArray [(Value.str (Str.ofString "name") 606), (Value.str (Str.ofString "Reader.name") 607), (Value.str (Str.ofString "/claim/cut.py") 608), (Value.int (188 : Int) 0), (Value.int (1 : Int) 0), (Value.int (0 : Int) 0), (Value.int (0 : Int) 0), (Value.int (3 : Int) 0), (Value.ref 310), (Value.bool Bool.true), (Value.int (181 : Int) 0), (Value.ref 311), Value.none, (Value.ref 312), (Value.ref 313), (Value.ref 314), (Value.int (610 : Int) 0), (Value.int (188 : Int) 0), (Value.str (Str.ofString "/claim/cut.py") 611)])) (List.toArray []))
noncomputable def ob316 : Params → Obj := fun P => (Obj.mk (Value.type "function") none (Data.func (FuncData.mk (Str.ofString "name") (Str.ofString "Reader.name") (argsOf (nthS (bodyOf (st9 29)) 12)) (FuncBody.stmts (bodyOf (nthS (bodyOf (st9 29)) 12))) (scopeOf (nthS (bodyOf (st9 29)) 12)) 3 [] Value.none Value.none Value.none (Value.str (Str.ofString "ledgerspeak.reader") 480) none (Value.ref 315) Value.none 0)) (List.toArray []))
noncomputable def ob317 : Params → Obj := fun P => (Obj.mk (Value.type "tuple") none (Data.seq (List.toArray []) 0) (List.toArray []))
noncomputable def ob318 : Params → Obj := fun P => (Obj.mk Value.none none (Data.fields (List.toArray [])) (List.toArray []))
noncomputable def ob319 : Params → Obj := fun P => (Obj.mk (Value.type "tuple") none (Data.seq (List.toArray [(Value.str (Str.ofString "self") 616), (Value.str (Str.ofString "found") 617)]) 0) (List.toArray []))
noncomputable def ob320 : Params → Obj := fun P => (Obj.mk (Value.type "tuple") none (Data.seq (List.toArray []) 0) (List.toArray []))
noncomputable def ob321 : Params → Obj := fun P => (Obj.mk Value.none none (Data.func (FuncData.mk (Str.ofString "names") (Str.ofString "Reader.names") (argsOf (nthS (bodyOf (st9 29)) 13)) (FuncBody.stmts (bodyOf (nthS (bodyOf (st9 29)) 13))) (scopeOf (nthS (bodyOf (st9 29)) 13)) 0 [] Value.none Value.none Value.none Value.none none Value.none Value.none 0)) (List.toArray []))
noncomputable def ob322 : Params → Obj := fun P => (Obj.mk (Value.type "code") none (Data.fields (List.toArray [(Value.str (Str.ofString "names") 613), (Value.str (Str.ofString "Reader.names") 614), (Value.str (Str.ofString "/claim/cut.py") 615), (Value.int (193 : Int) 0), (Value.int (1 : Int) 0), (Value.int (0 : Int) 0), (Value.int (0 : Int) 0), (Value.int (3 : Int) 0), (Value.ref 317), (Value.bool Bool.true), (Value.int (181 : Int) 0), (Value.ref 318), Value.none, (Value.ref 319), (Value.ref 320), (Value.ref 321), (Value.int (618 : Int) 0), (Value.int (193 : Int) 0), (Value.str (Str.ofString "/claim/cut.py") 619)])) (List.toArray []))
noncomputable def ob323 : Params → Obj := fun P => (Obj.mk (Value.type "function") none (Data.func (FuncData.mk (Str.ofString "names") (Str.ofString "Reader.names") (argsOf (nthS (bodyOf (st9 29)) 13)) (FuncBody.stmts (bodyOf (nthS (bodyOf (st9 29)) 13))) (scopeOf (nthS (bodyOf (st9 29)) 13)) 3 [] Value.none Value.none Value.none (Value.str (Str.ofString "ledgerspeak.reader") 480) none (Value.ref 322) Value.none 0)) (List.toArray []))
noncomputable def ob324 : Params → Obj := fun P => (Obj.mk (Value.type "tuple") none (Data.seq (List.toArray [(Value.int (0 : Int) 621)]) 0) (List.toArray []))
noncomputable def ob325 : Params → Obj := fun P => (Obj.mk (Value.type "tuple") none (Data.seq (List.toArray []) 0) (List.toArray []))
noncomputable def ob326 : Params → Obj := fun P => (Obj.mk Value.none none (Data.fields (List.toArray [])) (List.toArray []))
noncomputable def ob327 : Params → Obj := fun P => (Obj.mk (Value.type "tuple") none (Data.seq (List.toArray [(Value.str (Str.ofString "self") 625), (Value.str (Str.ofString "sign") 626), (Value.str (Str.ofString "ahead") 627)]) 0) (List.toArray []))
noncomputable def ob328 : Params → Obj := fun P => (Obj.mk (Value.type "tuple") none (Data.seq (List.toArray []) 0) (List.toArray []))
noncomputable def ob329 : Params → Obj := fun P => (Obj.mk Value.none none (Data.func (FuncData.mk (Str.ofString "is_sign") (Str.ofString "Reader.is_sign") (argsOf (nthS (bodyOf (st9 29)) 14)) (FuncBody.stmts (bodyOf (nthS (bodyOf (st9 29)) 14))) (scopeOf (nthS (bodyOf (st9 29)) 14)) 0 [] Value.none Value.none Value.none Value.none none Value.none Value.none 0)) (List.toArray []))
noncomputable def ob330 : Params → Obj := fun P => (Obj.mk (Value.type "code") none (Data.fields (List.toArray [(Value.str (Str.ofString "is_sign") 622), (Value.str (Str.ofString "Reader.is_sign") 623), (Value.str (Str.ofString "/claim/cut.py") 624), (Value.int (199 : Int) 0), (Value.int (3 : Int) 0), (Value.int (0 : Int) 0), (Value.int (0 : Int) 0), (Value.int (3 : Int) 0), (Value.ref 325), (Value.bool Bool.true), (Value.int (181 : Int) 0), (Value.ref 326), Value.none, (Value.ref 327), (Value.ref 328), (Value.ref 329), (Value.int (628 : Int) 0), (Value.int (199 : Int) 0), (Value.str (Str.ofString "/claim/cut.py") 629)])) (List.toArray []))
noncomputable def ob331 : Params → Obj := fun P => (Obj.mk (Value.type "function") none (Data.func (FuncData.mk (Str.ofString "is_sign") (Str.ofString "Reader.is_sign") (argsOf (nthS (bodyOf (st9 29)) 14)) (FuncBody.stmts (bodyOf (nthS (bodyOf (st9 29)) 14))) (scopeOf (nthS (bodyOf (st9 29)) 14)) 3 [] (Value.ref 324) Value.none Value.none (Value.str (Str.ofString "ledgerspeak.reader") 480) none (Value.ref 330) Value.none 0)) (List.toArray []))
noncomputable def ob332 : Params → Obj := fun P => (Obj.mk (Value.type "tuple") none (Data.seq (List.toArray []) 0) (List.toArray []))
noncomputable def ob333 : Params → Obj := fun P => (Obj.mk Value.none none (Data.fields (List.toArray [])) (List.toArray []))
noncomputable def ob334 : Params → Obj := fun P => (Obj.mk (Value.type "tuple") none (Data.seq (List.toArray [(Value.str (Str.ofString "self") 634), (Value.str (Str.ofString "sign") 635)]) 0) (List.toArray []))
noncomputable def ob335 : Params → Obj := fun P => (Obj.mk (Value.type "tuple") none (Data.seq (List.toArray []) 0) (List.toArray []))
noncomputable def ob336 : Params → Obj := fun P => (Obj.mk Value.none none (Data.func (FuncData.mk (Str.ofString "skip_sign") (Str.ofString "Reader.skip_sign") (argsOf (nthS (bodyOf (st9 29)) 15)) (FuncBody.stmts (bodyOf (nthS (bodyOf (st9 29)) 15))) (scopeOf (nthS (bodyOf (st9 29)) 15)) 0 [] Value.none Value.none Value.none Value.none none Value.none Value.none 0)) (List.toArray []))
noncomputable def ob337 : Params → Obj := fun P => (Obj.mk (Value.type "code") none (Data.fields (List.toArray [(Value.str (Str.ofString "skip_sign") 631), (Value.str (Str.ofString "Reader.skip_sign") 632), (Value.str (Str.ofString "/claim/cut.py") 633), (Value.int (202 : Int) 0), (Value.int (2 : Int) 0), (Value.int (0 : Int) 0), (Value.int (0 : Int) 0), (Value.int (3 : Int) 0), (Value.ref 332), (Value.bool Bool.true), (Value.int (181 : Int) 0), (Value.ref 333), Value.none, (Value.ref 334), (Value.ref 335), (Value.ref 336), (Value.int (636 : Int) 0), (Value.int (202 : Int) 0), (Value.str (Str.ofString "/claim/cut.py") 637)])) (List.toArray []))
noncomputable def ob338 : Params → Obj := fun P => (Obj.mk (Value.type "function") none (Data.func (FuncData.mk (Str.ofString "skip_sign") (Str.ofString "Reader.skip_sign") (argsOf (nthS (bodyOf (st9 29)) 15)) (FuncBody.stmts (bodyOf (nthS (bodyOf (st9 29)) 15))) (scopeOf (nthS (bodyOf (st9 29)) 15)) 3 [] Value.none Value.none Value.none (Value.str (Str.ofString "ledgerspeak.reader") 480) none (Value.ref 337) Value.none 0)) (List.toArray []))
noncomputable def ob339 : Params → Obj := fun P => (Obj.mk (Value.type "tuple") none (Data.seq (List.toArray []) 0) (List.toArray []))
noncomputable def ob340 : Params → Obj := fun P => (Obj.mk Value.none none (Data.fields (List.toArray [])) (List.toArray []))
noncomputable def ob341 : Params → Obj := fun P => (Obj.mk (Value.type "tuple") none (Data.seq (List.toArray [(Value.str (Str.ofString "self") 642), (Value.str (Str.ofString "sign") 643)]) 0) (List.toArray []))
noncomputable def ob342 : Params → Obj := fun P => (Obj.mk (Value.type "tuple") none (Data.seq (List.toArray []) 0) (List.toArray []))
noncomputable def ob343 : Params → Obj := fun P => (Obj.mk Value.none none (Data.func (FuncData.mk (Str.ofString "need_sign") (Str.ofString "Reader.need_sign") (argsOf (nthS (bodyOf (st9 29)) 16)) (FuncBody.stmts (bodyOf (nthS (bodyOf (st9 29)) 16))) (scopeOf (nthS (bodyOf (st9 29)) 16)) 0 [] Value.none Value.none Value.none Value.none none Value.none Value.none 0)) (List.toArray []))
noncomputable def ob344 : Params → Obj := fun P => (Obj.mk (Value.type "code") none (Data.fields (List.toArray [(Value.str (Str.ofString "need_sign") 639), (Value.str (Str.ofString "Reader.need_sign") 640), (Value.str (Str.ofString "/claim/cut.py") 641), (Value.int (208 : Int) 0), (Value.int (2 : Int) 0), (Value.int (0 : Int) 0), (Value.int (0 : Int) 0), (Value.int (3 : Int) 0), (Value.ref 339), (Value.bool Bool.true), (Value.int (181 : Int) 0), (Value.ref 340), Value.none, (Value.ref 341), (Value.ref 342), (Value.ref 343), (Value.int (644 : Int) 0), (Value.int (208 : Int) 0), (Value.str (Str.ofString "/claim/cut.py") 645)])) (List.toArray []))
noncomputable def ob345 : Params → Obj := fun P => (Obj.mk (Value.type "function") none (Data.func (FuncData.mk (Str.ofString "need_sign") (Str.ofString "Reader.need_sign") (argsOf (nthS (bodyOf (st9 29)) 16)) (FuncBody.stmts (bodyOf (nthS (bodyOf (st9 29)) 16))) (scopeOf (nthS (bodyOf (st9 29)) 16)) 3 [] Value.none Value.none Value.none (Value.str (Str.ofString "ledgerspeak.reader") 480) none (Value.ref 344) Value.none 0)) (List.toArray []))
noncomputable def ob346 : Params → Obj := fun P => (Obj.mk (Value.type "tuple") none (Data.seq (List.toArray []) 0) (List.toArray []))
noncomputable def ob347 : Params → Obj := fun P => (Obj.mk Value.none none (Data.fields (List.toArray [])) (List.toArray []))
noncomputable def ob348 : Params → Obj := fun P => (Obj.mk (Value.type "tuple") none (Data.seq (List.toArray [(Value.str (Str.ofString "self") 650)]) 0) (List.toArray []))
noncomputable def ob349 : Params → Obj := fun P => (Obj.mk (Value.type "tuple") none (Data.seq (List.toArray []) 0) (List.toArray []))
noncomputable def ob350 : Params → Obj := fun P => (Obj.mk Value.none none (Data.func (FuncData.mk (Str.ofString "is_number") (Str.ofString "Reader.is_number") (argsOf (nthS (bodyOf (st9 29)) 17)) (FuncBody.stmts (bodyOf (nthS (bodyOf (st9 29)) 17))) (scopeOf (nthS (bodyOf (st9 29)) 17)) 0 [] Value.none Value.none Value.none Value.none none Value.none Value.none 0)) (List.toArray []))
noncomputable def ob351 : Params → Obj := fun P => (Obj.mk (Value.type "code") none (Data.fields (List.toArray [(Value.str (Str.ofString "is_number") 647), (Value.str (Str.ofString "Reader.is_number") 648), (Value.str (Str.ofString "/claim/cut.py") 649), (Value.int (212 : Int) 0), (Value.int (1 : Int) 0), (Value.int (0 : Int) 0), (Value.int (0 : Int) 0), (Value.int (3 : Int) 0), (Value.ref 346), (Value.bool Bool.true), (Value.int (181 : Int) 0), (Value.ref 347), Value.none, (Value.ref 348), (Value.ref 349), (Value.ref 350), (Value.int (651 : Int) 0), (Value.int (212 : Int) 0), (Value.str (Str.ofString "/claim/cut.py") 652)])) (List.toArray []))
noncomputable def ob352 : Params → Obj := fun P => (Obj.mk (Value.type "function") none (Data.func (FuncData.mk (Str.ofString "is_number") (Str.ofString "Reader.is_number") (argsOf (nthS (bodyOf (st9 29)) 17)) (FuncBody.stmts (bodyOf (nthS (bodyOf (st9 29)) 17))) (scopeOf (nthS (bodyOf (st9 29)) 17)) 3 [] Value.none Value.none Value.none (Value.str (Str.ofString "ledgerspeak.reader") 480) none (Value.ref 351) Value.none 0)) (List.toArray []))
noncomputable def ob353 : Params → Obj := fun P => (Obj.mk (Value.type "tuple") none (Data.seq (List.toArray []) 0) (List.toArray []))
noncomputable def ob354 : Params → Obj := fun P => (Obj.mk Value.none none (Data.fields (List.toArray [])) (List.toArray []))
noncomputable def ob355 : Params → Obj := fun P => (Obj.mk (Value.type "tuple") none (Data.seq (List.toArray [(Value.str (Str.ofString "self") 657)]) 0) (List.toArray []))
noncomputable def ob356 : Params → Obj := fun P => (Obj.mk (Value.type "tuple") none (Data.seq (List.toArray []) 0) (List.toArray []))
noncomputable def ob357 : Params → Obj := fun P => (Obj.mk Value.none none (Data.func (FuncData.mk (Str.ofString "signed") (Str.ofString "Reader.signed") (argsOf (nthS (bodyOf (st9 29)) 18)) (FuncBody.stmts (bodyOf (nthS (bodyOf (st9 29)) 18))) (scopeOf (nthS (bodyOf (st9 29)) 18)) 0 [] Value.none Value.none Value.none Value.none none Value.none Value.none 0)) (List.toArray []))
noncomputable def ob358 : Params → Obj := fun P => (Obj.mk (Value.type "code") none (Data.fields (List.toArray [(Value.str (Str.ofString "signed") 654), (Value.str (Str.ofString "Reader.signed") 655), (Value.str (Str.ofString "/claim/cut.py") 656), (Value.int (215 : Int) 0), (Value.int (1 : Int) 0), (Value.int (0 : Int) 0), (Value.int (0 : Int) 0), (Value.int (3 : Int) 0), (Value.ref 353), (Value.bool Bool.true), (Value.int (181 : Int) 0), (Value.ref 354), Value.none, (Value.ref 355), (Value.ref 356), (Value.ref 357), (Value.int (658 : Int) 0), (Value.int (215 : Int) 0), (Value.str (Str.ofString "/claim/cut.py") 659)])) (List.toArray []))
noncomputable def ob359 : Params → Obj := fun P => (Obj.mk (Value.type "function") none (Data.func (FuncData.mk (Str.ofString "signed") (Str.ofString "Reader.signed") (argsOf (nthS (bodyOf (st9 29)) 18)) (FuncBody.stmts (bodyOf (nthS (bodyOf (st9 29)) 18))) (scopeOf (nthS (bodyOf (st9 29)) 18)) 3 [] Value.none Value.none Value.none (Value.str (Str.ofString "ledgerspeak.reader") 480) none (Value.ref 358) Value.none 0)) (List.toArray []))
noncomputable def ob360 : Params → Obj := fun P => (Obj.mk (Value.type "tuple") none (Data.seq (List.toArray []) 0) (List.toArray []))
noncomputable def ob361 : Params → Obj := fun P => (Obj.mk Value.none none (Data.fields (List.toArray [])) (List.toArray []))
noncomputable def ob362 : Params → Obj := fun P => (Obj.mk (Value.type "tuple") none (Data.seq (List.toArray [(Value.str (Str.ofString "self") 664), (Value.str (Str.ofString "found") 665)]) 0) (List.toArray []))
noncomputable def ob363 : Params → Obj := fun P => (Obj.mk (Value.type "tuple") none (Data.seq (List.toArray []) 0) (List.toArray []))
noncomputable def ob364 : Params → Obj := fun P => (Obj.mk Value.none none (Data.func (FuncData.mk (Str.ofString "whole") (Str.ofString "Reader.whole") (argsOf (nthS (bodyOf (st9 29)) 19)) (FuncBody.stmts (bodyOf (nthS (bodyOf (st9 29)) 19))) (scopeOf (nthS (bodyOf (st9 29)) 19)) 0 [] Value.none Value.none Value.none Value.none none Value.none Value.none 0)) (List.toArray []))
noncomputable def ob365 : Params → Obj := fun P => (Obj.mk (Value.type "code") none (Data.fields (List.toArray [(Value.str (Str.ofString "whole") 661), (Value.str (Str.ofString "Reader.whole") 662), (Value.str (Str.ofString "/claim/cut.py") 663), (Value.int (218 : Int) 0), (Value.int (1 : Int) 0), (Value.int (0 : Int) 0), (Value.int (0 : Int) 0), (Value.int (3 : Int) 0), (Value.ref 360), (Value.bool Bool.true), (Value.int (181 : Int) 0), (Value.ref 361), Value.none, (Value.ref 362), (Value.ref 363), (Value.ref 364), (Value.int (666 : Int) 0), (Value.int (218 : Int) 0), (Value.str (Str.ofString "/claim/cut.py") 667)])) (List.toArray []))
noncomputable def ob366 : Params → Obj := fun P => (Obj.mk (Value.type "function") none (Data.func (FuncData.mk (Str.ofString "whole") (Str.ofString "Reader.whole") (argsOf (nthS (bodyOf (st9 29)) 19)) (FuncBody.stmts (bodyOf (nthS (bodyOf (st9 29)) 19))) (scopeOf (nthS (bodyOf (st9 29)) 19)) 3 [] Value.none Value.none Value.none (Value.str (Str.ofString "ledgerspeak.reader") 480) none (Value.ref 365) Value.none 0)) (List.toArray []))
noncomputable def ob367 : Params → Obj := fun P => (Obj.mk (Value.type "tuple") none (Data.seq (List.toArray []) 0) (List.toArray []))
noncomputable def ob368 : Params → Obj := fun P => (Obj.mk Value.none none (Data.fields (List.toArray [])) (List.toArray []))
noncomputable def ob369 : Params → Obj := fun P => (Obj.mk (Value.type "tuple") none (Data.seq (List.toArray [(Value.str (Str.ofString "self") 672)]) 0) (List.toArray []))
noncomputable def ob370 : Params → Obj := fun P => (Obj.mk (Value.type "tuple") none (Data.seq (List.toArray []) 0) (List.toArray []))
noncomputable def ob371 : Params → Obj := fun P => (Obj.mk Value.none none (Data.func (FuncData.mk (Str.ofString "literal") (Str.ofString "Reader.literal") (argsOf (nthS (bodyOf (st9 29)) 20)) (FuncBody.stmts (bodyOf (nthS (bodyOf (st9 29)) 20))) (scopeOf (nthS (bodyOf (st9 29)) 20)) 0 [] Value.none Value.none Value.none Value.none none Value.none Value.none 0)) (List.toArray []))
noncomputable def ob372 : Params → Obj := fun P => (Obj.mk (Value.type "code") none (Data.fields (List.toArray [(Value.str (Str.ofString "literal") 669), (Value.str (Str.ofString "Reader.literal") 670), (Value.str (Str.ofString "/claim/cut.py") 671), (Value.int (227 : Int) 0), (Value.int (1 : Int) 0), (Value.int (0 : Int) 0), (Value.int (0 : Int) 0), (Value.int (3 : Int) 0), (Value.ref 367), (Value.bool Bool.true), (Value.int (181 : Int) 0), (Value.ref 368), Value.none, (Value.ref 369), (Value.ref 370), (Value.ref 371), (Value.int (673 : Int) 0), (Value.int (227 : Int) 0), (Value.str (Str.ofString "/claim/cut.py") 674)])) (List.toArray []))
noncomputable def ob373 : Params → Obj := fun P => (Obj.mk (Value.type "function") none (Data.func (FuncData.mk (Str.ofString "literal") (Str.ofString "Reader.literal") (argsOf (nthS (bodyOf (st9 29)) 20)) (FuncBody.stmts (bodyOf (nthS (bodyOf (st9 29)) 20))) (scopeOf (nthS (bodyOf (st9 29)) 20)) 3 [] Value.none Value.none Value.none (Value.str (Str.ofString "ledgerspeak.reader") 480) none (Value.ref 372) Value.none 0)) (List.toArray []))
noncomputable def ob374 : Params → Obj := fun P => (Obj.mk (Value.type "tuple") none (Data.seq (List.toArray []) 0) (List.toArray []))
noncomputable def ob375 : Params → Obj := fun P => (Obj.mk Value.none none (Data.fields (List.toArray [])) (List.toArray []))
noncomputable def ob376 : Params → Obj := fun P => (Obj.mk (Value.type "tuple") none (Data.seq (List.toArray [(Value.str (Str.ofString "self") 679)]) 0) (List.toArray []))
noncomputable def ob377 : Params → Obj := fun P => (Obj.mk (Value.type "tuple") none (Data.seq (List.toArray []) 0) (List.toArray []))
noncomputable def ob378 : Params → Obj := fun P => (Obj.mk Value.none none (Data.func (FuncData.mk (Str.ofString "octets") (Str.ofString "Reader.octets") (argsOf (nthS (bodyOf (st9 29)) 21)) (FuncBody.stmts (bodyOf (nthS (bodyOf (st9 29)) 21))) (scopeOf (nthS (bodyOf (st9 29)) 21)) 0 [] Value.none Value.none Value.none Value.none none Value.none Value.none 0)) (List.toArray []))
noncomputable def ob379 : Params → Obj := fun P => (Obj.mk (Value.type "code") none (Data.fields (List.toArray [(Value.str (Str.ofString "octets") 676), (Value.str (Str.ofString "Reader.octets") 677), (Value.str (Str.ofString "/claim/cut.py") 678), (Value.int (232 : Int) 0), (Value.int (1 : Int) 0), (Value.int (0 : Int) 0), (Value.int (0 : Int) 0), (Value.int (3 : Int) 0), (Value.ref 374), (Value.bool Bool.true), (Value.int (181 : Int) 0), (Value.ref 375), Value.none, (Value.ref 376), (Value.ref 377), (Value.ref 378), (Value.int (680 : Int) 0), (Value.int (232 : Int) 0), (Value.str (Str.ofString "/claim/cut.py") 681)])) (List.toArray []))
noncomputable def ob380 : Params → Obj := fun P => (Obj.mk (Value.type "function") none (Data.func (FuncData.mk (Str.ofString "octets") (Str.ofString "Reader.octets") (argsOf (nthS (bodyOf (st9 29)) 21)) (FuncBody.stmts (bodyOf (nthS (bodyOf (st9 29)) 21))) (scopeOf (nthS (bodyOf (st9 29)) 21)) 3 [] Value.none Value.none Value.none (Value.str (Str.ofString "ledgerspeak.reader") 480) none (Value.ref 379) Value.none 0)) (List.toArray []))
noncomputable def ob381 : Params → Obj := fun P => (Obj.mk (Value.type "tuple") none (Data.seq (List.toArray [(Value.str (Str.ofString "at") 683), (Value.str (Str.ofString "named") 684), (Value.str (Str.ofString "tokens") 685)]) 0) (List.toArray []))
noncomputable def ob382 : Params → Obj := fun P => (Obj.mk (Value.type "dict") none (Data.dict (List.toArray [(DictEntry.mk (PyData.keyHash P (Str.ofString "__module__")) (Value.str (Str.ofString "__module__") 498) (Value.str (Str.ofString "ledgerspeak.reader") 480)), (DictEntry.mk (PyData.keyHash P (Str.ofString "__firstlineno__")) (Value.str (Str.ofString "__firstlineno__") 502) (Value.int (128 : Int) 501)), (DictEntry.mk (PyData.keyHash P (Str.ofString "__init__")) (Value.str (Str.ofString "__init__") 512) (Value.ref 229)), (DictEntry.mk (PyData.keyHash P (Str.ofString "peek")) (Value.str (Str.ofString "peek") 521) (Value.ref 237)), (DictEntry.mk (PyData.keyHash P (Str.ofString "is_done")) (Value.str (Str.ofString "is_done") 528) (Value.ref 244)), (DictEntry.mk (PyData.keyHash P (Str.ofString "fault")) (Value.str (Str.ofString "fault") 536) (Value.ref 251)), (DictEntry.mk (PyData.keyHash P (Str.ofString "take")) (Value.str (Str.ofString "take") 544) (Value.ref 258)), (DictEntry.mk (PyData.keyHash P (Str.ofString "is_kind")) (Value.str (Str.ofString "is_kind") 555) (Value.ref 266)), (DictEntry.mk (PyData.keyHash P (Str.ofString "is_word")) (Value.str (Str.ofString "is_word") 565) (Value.ref 273)), (DictEntry.mk (PyData.keyHash P (Str.ofString "skip")) (Value.str (Str.ofString "skip") 573) (Value.ref 280)), (DictEntry.mk (PyData.keyHash P (Str.ofString "need")) (Value.str (Str.ofString "need") 581) (Value.ref 287)), (DictEntry.mk (PyData.keyHash P (Str.ofString "one_of")) (Value.str (Str.ofString "one_of") 589) (Value.ref 294)), (DictEntry.mk (PyData.keyHash P (Str.ofString "word")) (Value.str (Str.ofString "word") 596) (Value.ref 301)), (DictEntry.mk (PyData.keyHash P (Str.ofString "is_name")) (Value.str (Str.ofString "is_name") 605) (Value.ref 309)), (DictEntry.mk (PyData.keyHash P (Str.ofString "name")) (Value.str (Str.ofString "name") 612) (Value.ref 316)), (DictEntry.mk (PyData.keyHash P (Str.ofString "names")) (Value.str (Str.ofString "names") 620) (Value.ref 323)), (DictEntry.mk (PyData.keyHash P (Str.ofString "is_sign")) (Value.str (Str.ofString "is_sign") 630) (Value.ref 331)), (DictEntry.mk (PyData.keyHash P (Str.ofString "skip_sign")) (Value.str (Str.ofString "skip_sign") 638) (Value.ref 338)), (DictEntry.mk (PyData.keyHash P (Str.ofString "need_sign")) (Value.str (Str.ofString "need_sign") 646) (Value.ref 345)), (DictEntry.mk (PyData.keyHash P (Str.ofString "is_number")) (Value.str (Str.ofString "is_number") 653) (Value.ref 352)), (DictEntry.mk (PyData.keyHash P (Str.ofString "signed")) (Value.str (Str.ofString "signed") 660) (Value.ref 359)), (DictEntry.mk (PyData.keyHash P (Str.ofString "whole")) (Value.str (Str.ofString "whole") 668) (Value.ref 366)), (DictEntry.mk (PyData.keyHash P (Str.ofString "literal")) (Value.str (Str.ofString "literal") 675) (Value.ref 373)), (DictEntry.mk (PyData.keyHash P (Str.ofString "octets")) (Value.str (Str.ofString "octets") 682) (Value.ref 380)), (DictEntry.mk (PyData.keyHash P (Str.ofString "__static_attributes__")) (Value.str (Str.ofString "__static_attributes__") 686) (Value.ref 381)), (DictEntry.mk (PyData.keyHash P (Str.ofString "__dict__")) (Value.str (Str.ofString "__dict__") 688) (Value.ref 384)), (DictEntry.mk (PyData.keyHash P (Str.ofString "__weakref__")) (Value.str (Str.ofString "__weakref__") 690) (Value.ref 385)), (DictEntry.mk (PyData.keyHash P (Str.ofString "__doc__")) (Value.str (Str.ofString "__doc__") 691) Value.none)]) 4) (List.toArray []))
noncomputable def ob383 : Params → Obj := fun P => (Obj.mk (Value.type "type") none (Data.cls (ClassData.mk (Str.ofString "Reader") [(Value.type "object")] [(Value.ref 383), (Value.type "object")] 382 (Str.ofString "Reader") Bool.true [] [] Bool.false none Bool.false)) (List.toArray [none, none, (some (Value.str (Str.ofString "Reader") 491)), (some (Value.str (Str.ofString "Reader") 499)), (some (Value.builtin "object.__new__")), (some (Value.bool Bool.true))]))
noncomputable def ob384 : Params → Obj := fun P => (Obj.mk (Value.type "getset_descriptor") none (Data.fields (List.toArray [(Value.str (Str.ofString "__dict__") 687), (Value.ref 383), (Value.builtin "function.__dict__"), (Value.builtin "function.__dict__#set")])) (List.toArray []))
noncomputable def ob385 : Params → Obj := fun P => (Obj.mk (Value.type "getset_descriptor") none (Data.fields (List.toArray [(Value.str (Str.ofString "__weakref__") 689), (Value.ref 383), (Value.builtin "ExceptionGroup.__weakref__"), Value.none])) (List.toArray []))
noncomputable def ob386 : Params → Obj := fun P => (Obj.mk (Value.type "super") none (Data.fields (List.toArray [(Value.ref 383), (Value.ref 383), (Value.ref 383)])) (List.toArray []))
noncomputable def ob387 : Params → Obj := fun P => (Obj.mk (Value.type "builtin_function_or_method") none (Data.fields (List.toArray [(Value.builtin "object.__init_subclass__"), (Value.ref 383)])) (List.toArray []))
noncomputable def ob388 : Params → Obj := fun P => (Obj.mk (Value.type "tuple") none (Data.seq (List.toArray []) 0) (List.toArray []))
noncomputable def ob389 : Params → Obj := fun P => (Obj.mk (Value.type "builtin_function_or_method") none (Data.fields (List.toArray [(Value.builtin "type.__prepare__"), (Value.type "type")])) (List.toArray []))
noncomputable def ob390 : Params → Obj := fun P => (Obj.mk (Value.type "dict") none (Data.dict (List.toArray [(DictEntry.mk (PyData.keyHash P (Str.ofString "__module__")) (Value.str (Str.ofString "__module__") 703) (Value.str (Str.ofString "ledgerspeak.tokens") 694)), (DictEntry.mk (PyData.keyHash P (Str.ofString "__qualname__")) (Value.str (Str.ofString "__qualname__") 705) (Value.str (Str.ofString "Token") 704)), (DictEntry.mk (PyData.keyHash P (Str.ofString "__firstlineno__")) (Value.str (Str.ofString "__firstlineno__") 707) (Value.int (235 : Int) 706)), (DictEntry.mk (PyData.keyHash P (Str.ofString "__init__")) (Value.str (Str.ofString "__init__") 720) (Value.ref 403)), (DictEntry.mk (PyData.keyHash P (Str.ofString "told")) (Value.str (Str.ofString "told") 727) (Value.ref 410)), (DictEntry.mk (PyData.keyHash P (Str.ofString "__static_attributes__")) (Value.str (Str.ofString "__static_attributes__") 732) (Value.ref 411))]) 6) (List.toArray []))
noncomputable def ob391 : Params → Obj := fun P => (Obj.mk (Value.type "tuple") none (Data.seq (List.toArray []) 0) (List.toArray []))
noncomputable def ob392 : Params → Obj := fun P => (Obj.mk Value.none none (Data.fields (List.toArray [(Value.int (237 : Int) 0), (Value.int (4 : Int) 0), (Value.ref 402), (Value.int (243 : Int) 0), (Value.int (4 : Int) 0), (Value.ref 409)])) (List.toArray []))
noncomputable def ob393 : Params → Obj := fun P => (Obj.mk (Value.type "code") none (Data.fields (List.toArray [(Value.str (Str.ofString "Token") 698), (Value.str (Str.ofString "Token") 699), (Value.str (Str.ofString "/claim/cut.py") 700), (Value.int (235 : Int) 0), (Value.int (0 : Int) 0), (Value.int (0 : Int) 0), (Value.int (0 : Int) 0), (Value.int (0 : Int) 0), (Value.ref 391), (Value.bool Bool.false), (Value.int (181 : Int) 0), (Value.ref 392), Value.none, Value.none, Value.none, Value.none, (Value.int (701 : Int) 0), (Value.int (235 : Int) 0), (Value.str (Str.ofString "/claim/cut.py") 702)])) (List.toArray []))
noncomputable def ob394 : Params → Obj := fun P => (Obj.mk (Value.type "frame") none Data.plain (List.toArray [(some (Value.ref 393)), (some (Value.ref 3)), (some (Value.ref 390)), none, (some (Value.str (Str.ofString "ledgerspeak.tokens") 694)), none, (some (Value.ref 0))]))
noncomputable def ob395 : Params → Obj := fun P => (Obj.mk (Value.type "tuple") none (Data.seq (List.toArray [(Value.int (0 : Int) 708), (Value.int (0 : Int) 709)]) 0) (List.toArray []))
noncomputable def ob396 : Params → Obj := fun P => (Obj.mk (Value.type "tuple") none (Data.seq (List.toArray [(Value.ref 395), (Value.bool Bool.false)]) 0) (List.toArray []))
noncomputable def ob397 : Params → Obj := fun P => (Obj.mk (Value.type "tuple") none (Data.seq (List.toArray []) 0) (List.toArray []))
noncomputable def ob398 : Params → Obj := fun P => (Obj.mk Value.none none (Data.fields (List.toArray [])) (List.toArray []))
noncomputable def ob399 : Params → Obj := fun P => (Obj.mk (Value.type "tuple") none (Data.seq (List.toArray [(Value.str (Str.ofString "self") 713), (Value.str (Str.ofString "kind") 714), (Value.str (Str.ofString "worth") 715), (Value.str (Str.ofString "at") 716), (Value.str (Str.ofString "is_in_a") 717)]) 0) (List.toArray []))
noncomputable def ob400 : Params → Obj := fun P => (Obj.mk (Value.type "tuple") none (Data.seq (List.toArray []) 0) (List.toArray []))
noncomputable def ob401 : Params → Obj := fun P => (Obj.mk Value.none none (Data.func (FuncData.mk (Str.ofString "__init__") (Str.ofString "Token.__init__") (argsOf (nthS (bodyOf (st9 31)) 0)) (FuncBody.stmts (bodyOf (nthS (bodyOf (st9 31)) 0))) (scopeOf (nthS (bodyOf (st9 31)) 0)) 0 [] Value.none Value.none Value.none Value.none none Value.none Value.none 0)) (List.toArray []))
noncomputable def ob402 : Params → Obj := fun P => (Obj.mk (Value.type "code") none (Data.fields (List.toArray [(Value.str (Str.ofString "__init__") 710), (Value.str (Str.ofString "Token.__init__") 711), (Value.str (Str.ofString "/claim/cut.py") 712), (Value.int (237 : Int) 0), (Value.int (5 : Int) 0), (Value.int (0 : Int) 0), (Value.int (0 : Int) 0), (Value.int (3 : Int) 0), (Value.ref 397), (Value.bool Bool.true), (Value.int (181 : Int) 0), (Value.ref 398), Value.none, (Value.ref 399), (Value.ref 400), (Value.ref 401), (Value.int (718 : Int) 0), (Value.int (237 : Int) 0), (Value.str (Str.ofString "/claim/cut.py") 719)])) (List.toArray []))
noncomputable def ob403 : Params → Obj := fun P => (Obj.mk (Value.type "function") none (Data.func (FuncData.mk (Str.ofString "__init__") (Str.ofString "Token.__init__") (argsOf (nthS (bodyOf (st9 31)) 0)) (FuncBody.stmts (bodyOf (nthS (bodyOf (st9 31)) 0))) (scopeOf (nthS (bodyOf (st9 31)) 0)) 3 [] (Value.ref 396) Value.none Value.none (Value.str (Str.ofString "ledgerspeak.tokens") 694) none (Value.ref 402) Value.none 0)) (List.toArray []))
noncomputable def ob404 : Params → Obj := fun P => (Obj.mk (Value.type "tuple") none (Data.seq (List.toArray []) 0) (List.toArray []))
noncomputable def ob405 : Params → Obj := fun P => (Obj.mk Value.none none (Data.fields (List.toArray [])) (List.toArray []))
noncomputable def ob406 : Params → Obj := fun P => (Obj.mk (Value.type "tuple") none (Data.seq (List.toArray [(Value.str (Str.ofString "self") 724)]) 0) (List.toArray []))
noncomputable def ob407 : Params → Obj := fun P => (Obj.mk (Value.type "tuple") none (Data.seq (List.toArray []) 0) (List.toArray []))
noncomputable def ob408 : Params → Obj := fun P => (Obj.mk Value.none none (Data.func (FuncData.mk (Str.ofString "told") (Str.ofString "Token.told") (argsOf (nthS (bodyOf (st9 31)) 1)) (FuncBody.stmts (bodyOf (nthS (bodyOf (st9 31)) 1))) (scopeOf (nthS (bodyOf (st9 31)) 1)) 0 [] Value.none Value.none Value.none Value.none none Value.none Value.none 0)) (List.toArray []))
noncomputable def ob409 : Params → Obj := fun P => (Obj.mk (Value.type "code") none (Data.fields (List.toArray [(Value.str (Str.ofString "told") 721), (Value.str (Str.ofString "Token.told") 722), (Value.str (Str.ofString "/claim/cut.py") 723), (Value.int (243 : Int) 0), (Value.int (1 : Int) 0), (Value.int (0 : Int) 0), (Value.int (0 : Int) 0), (Value.int (3 : Int) 0), (Value.ref 404), (Value.bool Bool.true), (Value.int (181 : Int) 0), (Value.ref 405), Value.none, (Value.ref 406), (Value.ref 407), (Value.ref 408), (Value.int (725 : Int) 0), (Value.int (243 : Int) 0), (Value.str (Str.ofString "/claim/cut.py") 726)])) (List.toArray []))
noncomputable def ob410 : Params → Obj := fun P => (Obj.mk (Value.type "function") none (Data.func (FuncData.mk (Str.ofString "told") (Str.ofString "Token.told") (argsOf (nthS (bodyOf (st9 31)) 1)) (FuncBody.stmts (bodyOf (nthS (bodyOf (st9 31)) 1))) (scopeOf (nthS (bodyOf (st9 31)) 1)) 3 [] Value.none Value.none Value.none (Value.str (Str.ofString "ledgerspeak.tokens") 694) none (Value.ref 409) Value.none 0)) (List.toArray []))
noncomputable def ob411 : Params → Obj := fun P => (Obj.mk (Value.type "tuple") none (Data.seq (List.toArray [(Value.str (Str.ofString "at") 728), (Value.str (Str.ofString "is_in_a") 729), (Value.str (Str.ofString "kind") 730), (Value.str (Str.ofString "worth") 731)]) 0) (List.toArray []))
noncomputable def ob412 : Params → Obj := fun P => (Obj.mk (Value.type "dict") none (Data.dict (List.toArray [(DictEntry.mk (PyData.keyHash P (Str.ofString "__module__")) (Value.str (Str.ofString "__module__") 703) (Value.str (Str.ofString "ledgerspeak.tokens") 694)), (DictEntry.mk (PyData.keyHash P (Str.ofString "__firstlineno__")) (Value.str (Str.ofString "__firstlineno__") 707) (Value.int (235 : Int) 706)), (DictEntry.mk (PyData.keyHash P (Str.ofString "__init__")) (Value.str (Str.ofString "__init__") 720) (Value.ref 403)), (DictEntry.mk (PyData.keyHash P (Str.ofString "told")) (Value.str (Str.ofString "told") 727) (Value.ref 410)), (DictEntry.mk (PyData.keyHash P (Str.ofString "__static_attributes__")) (Value.str (Str.ofString "__static_attributes__") 732) (Value.ref 411)), (DictEntry.mk (PyData.keyHash P (Str.ofString "__dict__")) (Value.str (Str.ofString "__dict__") 734) (Value.ref 414)), (DictEntry.mk (PyData.keyHash P (Str.ofString "__weakref__")) (Value.str (Str.ofString "__weakref__") 736) (Value.ref 415)), (DictEntry.mk (PyData.keyHash P (Str.ofString "__doc__")) (Value.str (Str.ofString "__doc__") 737) Value.none)]) 4) (List.toArray []))
noncomputable def ob413 : Params → Obj := fun P => (Obj.mk (Value.type "type") none (Data.cls (ClassData.mk (Str.ofString "Token") [(Value.type "object")] [(Value.ref 413), (Value.type "object")] 412 (Str.ofString "Token") Bool.true [] [] Bool.false none Bool.false)) (List.toArray [none, none, (some (Value.str (Str.ofString "Token") 696)), (some (Value.str (Str.ofString "Token") 704)), (some (Value.builtin "object.__new__")), (some (Value.bool Bool.true))]))
noncomputable def ob414 : Params → Obj := fun P => (Obj.mk (Value.type "getset_descriptor") none (Data.fields (List.toArray [(Value.str (Str.ofString "__dict__") 733), (Value.ref 413), (Value.builtin "function.__dict__"), (Value.builtin "function.__dict__#set")])) (List.toArray []))
noncomputable def ob415 : Params → Obj := fun P => (Obj.mk (Value.type "getset_descriptor") none (Data.fields (List.toArray [(Value.str (Str.ofString "__weakref__") 735), (Value.ref 413), (Value.builtin "ExceptionGroup.__weakref__"), Value.none])) (List.toArray []))
noncomputable def ob416 : Params → Obj := fun P => (Obj.mk (Value.type "super") none (Data.fields (List.toArray [(Value.ref 413), (Value.ref 413), (Value.ref 413)])) (List.toArray []))
noncomputable def ob417 : Params → Obj := fun P => (Obj.mk (Value.type "builtin_function_or_method") none (Data.fields (List.toArray [(Value.builtin "object.__init_subclass__"), (Value.ref 413)])) (List.toArray []))
noncomputable def ob418 : Params → Obj := fun P => (Obj.mk (Value.type "tuple") none (Data.seq (List.toArray []) 0) (List.toArray []))
noncomputable def ob419 : Params → Obj := fun P => (Obj.mk Value.none none (Data.fields (List.toArray [])) (List.toArray []))
noncomputable def ob420 : Params → Obj := fun P => (Obj.mk (Value.type "tuple") none (Data.seq (List.toArray [(Value.str (Str.ofString "numbers") 745), (Value.str (Str.ofString "least") 746), (Value.str (Str.ofString "found") 747), (Value.str (Str.ofString "turn") 748)]) 0) (List.toArray []))
noncomputable def ob421 : Params → Obj := fun P => (Obj.mk (Value.type "tuple") none (Data.seq (List.toArray []) 0) (List.toArray []))
noncomputable def ob422 : Params → Obj := fun P => (Obj.mk Value.none none (Data.func (FuncData.mk (Str.ofString "_law_sentences") (Str.ofString "_law_sentences") (argsOf (st9 33)) (FuncBody.stmts (bodyOf (st9 33))) (scopeOf (st9 33)) 0 [] Value.none Value.none Value.none Value.none none Value.none Value.none 0)) (List.toArray []))
noncomputable def ob423 : Params → Obj := fun P => (Obj.mk (Value.type "code") none (Data.fields (List.toArray [(Value.str (Str.ofString "_law_sentences") 742), (Value.str (Str.ofString "_law_sentences") 743), (Value.str (Str.ofString "/claim/cut.py") 744), (Value.int (246 : Int) 0), (Value.int (2 : Int) 0), (Value.int (0 : Int) 0), (Value.int (0 : Int) 0), (Value.int (3 : Int) 0), (Value.ref 418), (Value.bool Bool.true), (Value.int (181 : Int) 0), (Value.ref 419), Value.none, (Value.ref 420), (Value.ref 421), (Value.ref 422), (Value.int (749 : Int) 0), (Value.int (246 : Int) 0), (Value.str (Str.ofString "/claim/cut.py") 750)])) (List.toArray []))
noncomputable def ob424 : Params → Obj := fun P => (Obj.mk (Value.type "function") none (Data.func (FuncData.mk (Str.ofString "_law_sentences") (Str.ofString "_law_sentences") (argsOf (st9 33)) (FuncBody.stmts (bodyOf (st9 33))) (scopeOf (st9 33)) 3 [] Value.none Value.none Value.none (Value.str (Str.ofString "law_pb0258_01") 740) none (Value.ref 423) Value.none 0)) (List.toArray []))
noncomputable def ob425 : Params → Obj := fun P => (Obj.mk (Value.type "tuple") none (Data.seq (List.toArray []) 0) (List.toArray []))
noncomputable def ob426 : Params → Obj := fun P => (Obj.mk Value.none none (Data.fields (List.toArray [])) (List.toArray []))
noncomputable def ob427 : Params → Obj := fun P => (Obj.mk Value.none none (Data.func (FuncData.mk (Str.ofString "_law_laid") (Str.ofString "_law_laid") (argsOf (st9 34)) (FuncBody.stmts (bodyOf (st9 34))) (scopeOf (st9 34)) 0 [] Value.none Value.none Value.none Value.none none Value.none Value.none 0)) (List.toArray []))
noncomputable def ob428 : Params → Obj := fun P => (Obj.mk (Value.type "code") none (Data.fields (List.toArray [(Value.str (Str.ofString "_law_laid") 752), (Value.str (Str.ofString "_law_laid") 753), (Value.str (Str.ofString "/claim/cut.py") 754), (Value.int (251 : Int) 0), (Value.int (2 : Int) 0), (Value.int (0 : Int) 0), (Value.int (0 : Int) 0), (Value.int (3 : Int) 0), (Value.ref 425), (Value.bool Bool.true), (Value.int (181 : Int) 0), (Value.ref 426), Value.none, Value.none, Value.none, (Value.ref 427), (Value.int (755 : Int) 0), (Value.int (251 : Int) 0), (Value.str (Str.ofString "/claim/cut.py") 756)])) (List.toArray []))
noncomputable def ob429 : Params → Obj := fun P => (Obj.mk (Value.type "function") none (Data.func (FuncData.mk (Str.ofString "_law_laid") (Str.ofString "_law_laid") (argsOf (st9 34)) (FuncBody.stmts (bodyOf (st9 34))) (scopeOf (st9 34)) 3 [] Value.none Value.none Value.none (Value.str (Str.ofString "law_pb0258_01") 740) none (Value.ref 428) Value.none 0)) (List.toArray []))
noncomputable def ob430 : Params → Obj := fun P => (Obj.mk (Value.type "tuple") none (Data.seq (List.toArray []) 0) (List.toArray []))
noncomputable def ob431 : Params → Obj := fun P => (Obj.mk Value.none none (Data.fields (List.toArray [])) (List.toArray []))
noncomputable def ob432 : Params → Obj := fun P => (Obj.mk Value.none none (Data.func (FuncData.mk (Str.ofString "_law_rows") (Str.ofString "_law_rows") (argsOf (st9 35)) (FuncBody.stmts (bodyOf (st9 35))) (scopeOf (st9 35)) 0 [] Value.none Value.none Value.none Value.none none Value.none Value.none 0)) (List.toArray []))
noncomputable def ob433 : Params → Obj := fun P => (Obj.mk (Value.type "code") none (Data.fields (List.toArray [(Value.str (Str.ofString "_law_rows") 758), (Value.str (Str.ofString "_law_rows") 759), (Value.str (Str.ofString "/claim/cut.py") 760), (Value.int (265 : Int) 0), (Value.int (1 : Int) 0), (Value.int (0 : Int) 0), (Value.int (0 : Int) 0), (Value.int (3 : Int) 0), (Value.ref 430), (Value.bool Bool.true), (Value.int (181 : Int) 0), (Value.ref 431), Value.none, Value.none, Value.none, (Value.ref 432), (Value.int (761 : Int) 0), (Value.int (265 : Int) 0), (Value.str (Str.ofString "/claim/cut.py") 762)])) (List.toArray []))
noncomputable def ob434 : Params → Obj := fun P => (Obj.mk (Value.type "function") none (Data.func (FuncData.mk (Str.ofString "_law_rows") (Str.ofString "_law_rows") (argsOf (st9 35)) (FuncBody.stmts (bodyOf (st9 35))) (scopeOf (st9 35)) 3 [] Value.none Value.none Value.none (Value.str (Str.ofString "law_pb0258_01") 740) none (Value.ref 433) Value.none 0)) (List.toArray []))
noncomputable def ob435 : Params → Obj := fun P => (Obj.mk (Value.type "tuple") none (Data.seq (List.toArray []) 0) (List.toArray []))
noncomputable def ob436 : Params → Obj := fun P => (Obj.mk Value.none none (Data.fields (List.toArray [])) (List.toArray []))
noncomputable def ob437 : Params → Obj := fun P => (Obj.mk Value.none none (Data.func (FuncData.mk (Str.ofString "law") (Str.ofString "law") (argsOf (st9 36)) (FuncBody.stmts (bodyOf (st9 36))) (scopeOf (st9 36)) 0 [] Value.none Value.none Value.none Value.none none Value.none Value.none 0)) (List.toArray []))
noncomputable def ob438 : Params → Obj := fun P => (Obj.mk (Value.type "code") none (Data.fields (List.toArray [(Value.str (Str.ofString "law") 764), (Value.str (Str.ofString "law") 765), (Value.str (Str.ofString "/claim/cut.py") 766), (Value.int (267 : Int) 0), (Value.int (1 : Int) 0), (Value.int (0 : Int) 0), (Value.int (0 : Int) 0), (Value.int (3 : Int) 0), (Value.ref 435), (Value.bool Bool.true), (Value.int (181 : Int) 0), (Value.ref 436), Value.none, Value.none, Value.none, (Value.ref 437), (Value.int (767 : Int) 0), (Value.int (267 : Int) 0), (Value.str (Str.ofString "/claim/cut.py") 768)])) (List.toArray []))
noncomputable def ob439 : Params → Obj := fun P => (Obj.mk (Value.type "function") none (Data.func (FuncData.mk (Str.ofString "law") (Str.ofString "law") (argsOf (st9 36)) (FuncBody.stmts (bodyOf (st9 36))) (scopeOf (st9 36)) 3 [] Value.none Value.none Value.none (Value.str (Str.ofString "law_pb0258_01") 740) none (Value.ref 438) Value.none 0)) (List.toArray []))
noncomputable def tfin : Params → BT := fun P => (.node (PySem.W.boot_o_0 P) (.node (PySem.W.boot_o_1 P) (.node (ob3 P) (.node (PySem.W.boot_o_7 P) (.node (ob15 P) (.node (ob31 P) (.node (ob63 P) (.node (ob127 P) (.node (ob255 P) .nil .nil) (.node (ob383 P) .nil .nil)) (.node (ob191 P) (.node (ob319 P) .nil .nil) .nil)) (.node (ob95 P) (.node (ob159 P) (.node (ob287 P) .nil .nil) (.node (ob415 P) .nil .nil)) (.node (ob223 P) (.node (ob351 P) .nil .nil) .nil))) (.node (ob47 P) (.node (ob79 P) (.node (ob143 P) (.node (ob271 P) .nil .nil) (.node (ob399 P) .nil .nil)) (.node (ob207 P) (.node (ob335 P) .nil .nil) .nil)) (.node (ob111 P) (.node (ob175 P) (.node (ob303 P) .nil .nil) (.node (ob431 P) .nil .nil)) (.node (ob239 P) (.node (ob367 P) .nil .nil) .nil)))) (.node (ob23 P) (.node (ob39 P) (.node (ob71 P) (.node (ob135 P) (.node (ob263 P) .nil .nil) (.node (ob391 P) .nil .nil)) (.node (ob199 P) (.node (ob327 P) .nil .nil) .nil)) (.node (ob103 P) (.node (ob167 P) (.node (ob295 P) .nil .nil) (.node (ob423 P) .nil .nil)) (.node (ob231 P) (.node (ob359 P) .nil .nil) .nil))) (.node (ob55 P) (.node (ob87 P) (.node (ob151 P) (.node (ob279 P) .nil .nil) (.node (ob407 P) .nil .nil)) (.node (ob215 P) (.node (ob343 P) .nil .nil) .nil)) (.node (ob119 P) (.node (ob183 P) (.node (ob311 P) .nil .nil) (.node (ob439 P) .nil .nil)) (.node (ob247 P) (.node (ob375 P) .nil .nil) .nil))))) (.node (ob11 P) (.node (ob19 P) (.node (ob35 P) (.node (ob67 P) (.node (ob131 P) (.node (ob259 P) .nil .nil) (.node (ob387 P) .nil .nil)) (.node (ob195 P) (.node (ob323 P) .nil .nil) .nil)) (.node (ob99 P) (.node (ob163 P) (.node (ob291 P) .nil .nil) (.node (ob419 P) .nil .nil)) (.node (ob227 P) (.node (ob355 P) .nil .nil) .nil))) (.node (ob51 P) (.node (ob83 P) (.node (ob147 P) (.node (ob275 P) .nil .nil) (.node (ob403 P) .nil .nil)) (.node (ob211 P) (.node (ob339 P) .nil .nil) .nil)) (.node (ob115 P) (.node (ob179 P) (.node (ob307 P) .nil .nil) (.node (ob435 P) .nil .nil)) (.node (ob243 P) (.node (ob371 P) .nil .nil) .nil)))) (.node (ob27 P) (.node (ob43 P) (.node (ob75 P) (.node (ob139 P) (.node (ob267 P) .nil .nil) (.node (ob395 P) .nil .nil)) (.node (ob203 P) (.node (ob331 P) .nil .nil) .nil)) (.node (ob107 P) (.node (ob171 P) (.node (ob299 P) .nil .nil) (.node (ob427 P) .nil .nil)) (.node (ob235 P) (.node (ob363 P) .nil .nil) .nil))) (.node (ob59 P) (.node (ob91 P) (.node (ob155 P) (.node (ob283 P) .nil .nil) (.node (ob411 P) .nil .nil)) (.node (ob219 P) (.node (ob347 P) .nil .nil) .nil)) (.node (ob123 P) (.node (ob187 P) (.node (ob315 P) .nil .nil) .nil) (.node (ob251 P) (.node (ob379 P) .nil .nil) .nil)))))) (.node (PySem.W.boot_o_5 P) (.node (PySem.W.boot_o_9 P) (.node (ob17 P) (.node (ob33 P) (.node (ob65 P) (.node (ob129 P) (.node (ob257 P) .nil .nil) (.node (ob385 P) .nil .nil)) (.node (ob193 P) (.node (ob321 P) .nil .nil) .nil)) (.node (ob97 P) (.node (ob161 P) (.node (ob289 P) .nil .nil) (.node (ob417 P) .nil .nil)) (.node (ob225 P) (.node (ob353 P) .nil .nil) .nil))) (.node (ob49 P) (.node (ob81 P) (.node (ob145 P) (.node (ob273 P) .nil .nil) (.node (ob401 P) .nil .nil)) (.node (ob209 P) (.node (ob337 P) .nil .nil) .nil)) (.node (ob113 P) (.node (ob177 P) (.node (ob305 P) .nil .nil) (.node (ob433 P) .nil .nil)) (.node (ob241 P) (.node (ob369 P) .nil .nil) .nil)))) (.node (ob25 P) (.node (ob41 P) (.node (ob73 P) (.node (ob137 P) (.node (ob265 P) .nil .nil) (.node (ob393 P) .nil .nil)) (.node (ob201 P) (.node (ob329 P) .nil .nil) .nil)) (.node (ob105 P) (.node (ob169 P) (.node (ob297 P) .nil .nil) (.node (ob425 P) .nil .nil)) (.node (ob233 P) (.node (ob361 P) .nil .nil) .nil))) (.node (ob57 P) (.node (ob89 P) (.node (ob153 P) (.node (ob281 P) .nil .nil) (.node (ob409 P) .nil .nil)) (.node (ob217 P) (.node (ob345 P) .nil .nil) .nil)) (.node (ob121 P) (.node (ob185 P) (.node (ob313 P) .nil .nil) .nil) (.node (ob249 P) (.node (ob377 P) .nil .nil) .nil))))) (.node (ob13 P) (.node (ob21 P) (.node (ob37 P) (.node (ob69 P) (.node (ob133 P) (.node (ob261 P) .nil .nil) (.node (ob389 P) .nil .nil)) (.node (ob197 P) (.node (ob325 P) .nil .nil) .nil)) (.node (ob101 P) (.node (ob165 P) (.node (ob293 P) .nil .nil) (.node (ob421 P) .nil .nil)) (.node (ob229 P) (.node (ob357 P) .nil .nil) .nil))) (.node (ob53 P) (.node (ob85 P) (.node (ob149 P) (.node (ob277 P) .nil .nil) (.node (ob405 P) .nil .nil)) (.node (ob213 P) (.node (ob341 P) .nil .nil) .nil)) (.node (ob117 P) (.node (ob181 P) (.node (ob309 P) .nil .nil) (.node (ob437 P) .nil .nil)) (.node (ob245 P) (.node (ob373 P) .nil .nil) .nil)))) (.node (ob29 P) (.node (ob45 P) (.node (ob77 P) (.node (ob141 P) (.node (ob269 P) .nil .nil) (.node (ob397 P) .nil .nil)) (.node (ob205 P) (.node (ob333 P) .nil .nil) .nil)) (.node (ob109 P) (.node (ob173 P) (.node (ob301 P) .nil .nil) (.node (ob429 P) .nil .nil)) (.node (ob237 P) (.node (ob365 P) .nil .nil) .nil))) (.node (ob61 P) (.node (ob93 P) (.node (ob157 P) (.node (ob285 P) .nil .nil) (.node (ob413 P) .nil .nil)) (.node (ob221 P) (.node (ob349 P) .nil .nil) .nil)) (.node (ob125 P) (.node (ob189 P) (.node (ob317 P) .nil .nil) .nil) (.node (ob253 P) (.node (ob381 P) .nil .nil) .nil))))))) (.node (ob2 P) (.node (PySem.W.boot_o_4 P) (.node (PySem.W.boot_o_8 P) (.node (ob16 P) (.node (ob32 P) (.node (ob64 P) (.node (ob128 P) (.node (ob256 P) .nil .nil) (.node (ob384 P) .nil .nil)) (.node (ob192 P) (.node (ob320 P) .nil .nil) .nil)) (.node (ob96 P) (.node (ob160 P) (.node (ob288 P) .nil .nil) (.node (ob416 P) .nil .nil)) (.node (ob224 P) (.node (ob352 P) .nil .nil) .nil))) (.node (ob48 P) (.node (ob80 P) (.node (ob144 P) (.node (ob272 P) .nil .nil) (.node (ob400 P) .nil .nil)) (.node (ob208 P) (.node (ob336 P) .nil .nil) .nil)) (.node (ob112 P) (.node (ob176 P) (.node (ob304 P) .nil .nil) (.node (ob432 P) .nil .nil)) (.node (ob240 P) (.node (ob368 P) .nil .nil) .nil)))) (.node (ob24 P) (.node (ob40 P) (.node (ob72 P) (.node (ob136 P) (.node (ob264 P) .nil .nil) (.node (ob392 P) .nil .nil)) (.node (ob200 P) (.node (ob328 P) .nil .nil) .nil)) (.node (ob104 P) (.node (ob168 P) (.node (ob296 P) .nil .nil) (.node (ob424 P) .nil .nil)) (.node (ob232 P) (.node (ob360 P) .nil .nil) .nil))) (.node (ob56 P) (.node (ob88 P) (.node (ob152 P) (.node (ob280 P) .nil .nil) (.node (ob408 P) .nil .nil)) (.node (ob216 P) (.node (ob344 P) .nil .nil) .nil)) (.node (ob120 P) (.node (ob184 P) (.node (ob312 P) .nil .nil) .nil) (.node (ob248 P) (.node (ob376 P) .nil .nil) .nil))))) (.node (ob12 P) (.node (ob20 P) (.node (ob36 P) (.node (ob68 P) (.node (ob132 P) (.node (ob260 P) .nil .nil) (.node (ob388 P) .nil .nil)) (.node (ob196 P) (.node (ob324 P) .nil .nil) .nil)) (.node (ob100 P) (.node (ob164 P) (.node (ob292 P) .nil .nil) (.node (ob420 P) .nil .nil)) (.node (ob228 P) (.node (ob356 P) .nil .nil) .nil))) (.node (ob52 P) (.node (ob84 P) (.node (ob148 P) (.node (ob276 P) .nil .nil) (.node (ob404 P) .nil .nil)) (.node (ob212 P) (.node (ob340 P) .nil .nil) .nil)) (.node (ob116 P) (.node (ob180 P) (.node (ob308 P) .nil .nil) (.node (ob436 P) .nil .nil)) (.node (ob244 P) (.node (ob372 P) .nil .nil) .nil)))) (.node (ob28 P) (.node (ob44 P) (.node (ob76 P) (.node (ob140 P) (.node (ob268 P) .nil .nil) (.node (ob396 P) .nil .nil)) (.node (ob204 P) (.node (ob332 P) .nil .nil) .nil)) (.node (ob108 P) (.node (ob172 P) (.node (ob300 P) .nil .nil) (.node (ob428 P) .nil .nil)) (.node (ob236 P) (.node (ob364 P) .nil .nil) .nil))) (.node (ob60 P) (.node (ob92 P) (.node (ob156 P) (.node (ob284 P) .nil .nil) (.node (ob412 P) .nil .nil)) (.node (ob220 P) (.node (ob348 P) .nil .nil) .nil)) (.node (ob124 P) (.node (ob188 P) (.node (ob316 P) .nil .nil) .nil) (.node (ob252 P) (.node (ob380 P) .nil .nil) .nil)))))) (.node (PySem.W.boot_o_6 P) (.node (PySem.W.boot_o_10 P) (.node (ob18 P) (.node (ob34 P) (.node (ob66 P) (.node (ob130 P) (.node (ob258 P) .nil .nil) (.node (ob386 P) .nil .nil)) (.node (ob194 P) (.node (ob322 P) .nil .nil) .nil)) (.node (ob98 P) (.node (ob162 P) (.node (ob290 P) .nil .nil) (.node (ob418 P) .nil .nil)) (.node (ob226 P) (.node (ob354 P) .nil .nil) .nil))) (.node (ob50 P) (.node (ob82 P) (.node (ob146 P) (.node (ob274 P) .nil .nil) (.node (ob402 P) .nil .nil)) (.node (ob210 P) (.node (ob338 P) .nil .nil) .nil)) (.node (ob114 P) (.node (ob178 P) (.node (ob306 P) .nil .nil) (.node (ob434 P) .nil .nil)) (.node (ob242 P) (.node (ob370 P) .nil .nil) .nil)))) (.node (ob26 P) (.node (ob42 P) (.node (ob74 P) (.node (ob138 P) (.node (ob266 P) .nil .nil) (.node (ob394 P) .nil .nil)) (.node (ob202 P) (.node (ob330 P) .nil .nil) .nil)) (.node (ob106 P) (.node (ob170 P) (.node (ob298 P) .nil .nil) (.node (ob426 P) .nil .nil)) (.node (ob234 P) (.node (ob362 P) .nil .nil) .nil))) (.node (ob58 P) (.node (ob90 P) (.node (ob154 P) (.node (ob282 P) .nil .nil) (.node (ob410 P) .nil .nil)) (.node (ob218 P) (.node (ob346 P) .nil .nil) .nil)) (.node (ob122 P) (.node (ob186 P) (.node (ob314 P) .nil .nil) .nil) (.node (ob250 P) (.node (ob378 P) .nil .nil) .nil))))) (.node (ob14 P) (.node (ob22 P) (.node (ob38 P) (.node (ob70 P) (.node (ob134 P) (.node (ob262 P) .nil .nil) (.node (ob390 P) .nil .nil)) (.node (ob198 P) (.node (ob326 P) .nil .nil) .nil)) (.node (ob102 P) (.node (ob166 P) (.node (ob294 P) .nil .nil) (.node (ob422 P) .nil .nil)) (.node (ob230 P) (.node (ob358 P) .nil .nil) .nil))) (.node (ob54 P) (.node (ob86 P) (.node (ob150 P) (.node (ob278 P) .nil .nil) (.node (ob406 P) .nil .nil)) (.node (ob214 P) (.node (ob342 P) .nil .nil) .nil)) (.node (ob118 P) (.node (ob182 P) (.node (ob310 P) .nil .nil) (.node (ob438 P) .nil .nil)) (.node (ob246 P) (.node (ob374 P) .nil .nil) .nil)))) (.node (ob30 P) (.node (ob46 P) (.node (ob78 P) (.node (ob142 P) (.node (ob270 P) .nil .nil) (.node (ob398 P) .nil .nil)) (.node (ob206 P) (.node (ob334 P) .nil .nil) .nil)) (.node (ob110 P) (.node (ob174 P) (.node (ob302 P) .nil .nil) (.node (ob430 P) .nil .nil)) (.node (ob238 P) (.node (ob366 P) .nil .nil) .nil))) (.node (ob62 P) (.node (ob94 P) (.node (ob158 P) (.node (ob286 P) .nil .nil) (.node (ob414 P) .nil .nil)) (.node (ob222 P) (.node (ob350 P) .nil .nil) .nil)) (.node (ob126 P) (.node (ob190 P) (.node (ob318 P) .nil .nil) .nil) (.node (ob254 P) (.node (ob382 P) .nil .nil) .nil))))))))
noncomputable def K : Params → Frag := fun P => (nat_lit 2, ob2 P) :: (nat_lit 3, ob3 P) :: (nat_lit 15, ob15 P) :: (nat_lit 17, ob17 P) :: (nat_lit 18, ob18 P) :: (nat_lit 20, ob20 P) :: (nat_lit 21, ob21 P) :: (nat_lit 22, ob22 P) :: (nat_lit 30, ob30 P) :: (nat_lit 32, ob32 P) :: (nat_lit 33, ob33 P) :: (nat_lit 35, ob35 P) :: (nat_lit 36, ob36 P) :: (nat_lit 37, ob37 P) :: (nat_lit 39, ob39 P) :: (nat_lit 40, ob40 P) :: (nat_lit 42, ob42 P) :: (nat_lit 43, ob43 P) :: (nat_lit 44, ob44 P) :: (nat_lit 45, ob45 P) :: (nat_lit 46, ob46 P) :: (nat_lit 47, ob47 P) :: (nat_lit 48, ob48 P) :: (nat_lit 51, ob51 P) :: (nat_lit 53, ob53 P) :: (nat_lit 54, ob54 P) :: (nat_lit 56, ob56 P) :: (nat_lit 57, ob57 P) :: (nat_lit 58, ob58 P) :: (nat_lit 60, ob60 P) :: (nat_lit 61, ob61 P) :: (nat_lit 63, ob63 P) :: (nat_lit 64, ob64 P) :: (nat_lit 65, ob65 P) :: (nat_lit 67, ob67 P) :: (nat_lit 68, ob68 P) :: (nat_lit 70, ob70 P) :: (nat_lit 71, ob71 P) :: (nat_lit 72, ob72 P) :: (nat_lit 74, ob74 P) :: (nat_lit 75, ob75 P) :: (nat_lit 77, ob77 P) :: (nat_lit 78, ob78 P) :: (nat_lit 79, ob79 P) :: (nat_lit 81, ob81 P) :: (nat_lit 82, ob82 P) :: (nat_lit 84, ob84 P) :: (nat_lit 85, ob85 P) :: (nat_lit 86, ob86 P) :: (nat_lit 88, ob88 P) :: (nat_lit 89, ob89 P) :: (nat_lit 91, ob91 P) :: (nat_lit 92, ob92 P) :: (nat_lit 93, ob93 P) :: (nat_lit 95, ob95 P) :: (nat_lit 96, ob96 P) :: (nat_lit 98, ob98 P) :: (nat_lit 99, ob99 P) :: (nat_lit 100, ob100 P) :: (nat_lit 103, ob103 P) :: (nat_lit 104, ob104 P) :: (nat_lit 105, ob105 P) :: (nat_lit 112, ob112 P) :: (nat_lit 113, ob113 P) :: (nat_lit 114, ob114 P) :: (nat_lit 116, ob116 P) :: (nat_lit 117, ob117 P) :: (nat_lit 119, ob119 P) :: (nat_lit 120, ob120 P) :: (nat_lit 121, ob121 P) :: (nat_lit 123, ob123 P) :: (nat_lit 124, ob124 P) :: (nat_lit 126, ob126 P) :: (nat_lit 127, ob127 P) :: (nat_lit 128, ob128 P) :: (nat_lit 129, ob129 P) :: (nat_lit 130, ob130 P) :: (nat_lit 131, ob131 P) :: (nat_lit 134, ob134 P) :: (nat_lit 141, ob141 P) :: (nat_lit 142, ob142 P) :: (nat_lit 143, ob143 P) :: (nat_lit 146, ob146 P) :: (nat_lit 153, ob153 P) :: (nat_lit 154, ob154 P) :: (nat_lit 155, ob155 P) :: (nat_lit 158, ob158 P) :: (nat_lit 160, ob160 P) :: (nat_lit 161, ob161 P) :: (nat_lit 163, ob163 P) :: (nat_lit 164, ob164 P) :: (nat_lit 165, ob165 P) :: (nat_lit 166, ob166 P) :: (nat_lit 168, ob168 P) :: (nat_lit 169, ob169 P) :: (nat_lit 171, ob171 P) :: (nat_lit 172, ob172 P) :: (nat_lit 173, ob173 P) :: (nat_lit 175, ob175 P) :: (nat_lit 176, ob176 P) :: (nat_lit 178, ob178 P) :: (nat_lit 179, ob179 P) :: (nat_lit 180, ob180 P) :: (nat_lit 182, ob182 P) :: (nat_lit 183, ob183 P) :: (nat_lit 185, ob185 P) :: (nat_lit 186, ob186 P) :: (nat_lit 187, ob187 P) :: (nat_lit 189, ob189 P) :: (nat_lit 190, ob190 P) :: (nat_lit 192, ob192 P) :: (nat_lit 193, ob193 P) :: (nat_lit 194, ob194 P) :: (nat_lit 196, ob196 P) :: (nat_lit 197, ob197 P) :: (nat_lit 199, ob199 P) :: (nat_lit 200, ob200 P) :: (nat_lit 201, ob201 P) :: (nat_lit 203, ob203 P) :: (nat_lit 204, ob204 P) :: (nat_lit 206, ob206 P) :: (nat_lit 207, ob207 P) :: (nat_lit 208, ob208 P) :: (nat_lit 210, ob210 P) :: (nat_lit 211, ob211 P) :: (nat_lit 213, ob213 P) :: (nat_lit 214, ob214 P) :: (nat_lit 222, ob222 P) :: (nat_lit 223, ob223 P) :: (nat_lit 225, ob225 P) :: (nat_lit 226, ob226 P) :: (nat_lit 228, ob228 P) :: (nat_lit 229, ob229 P) :: (nat_lit 230, ob230 P) :: (nat_lit 231, ob231 P) :: (nat_lit 233, ob233 P) :: (nat_lit 234, ob234 P) :: (nat_lit 236, ob236 P) :: (nat_lit 237, ob237 P) :: (nat_lit 238, ob238 P) :: (nat_lit 240, ob240 P) :: (nat_lit 241, ob241 P) :: (nat_lit 243, ob243 P) :: (nat_lit 244, ob244 P) :: (nat_lit 245, ob245 P) :: (nat_lit 247, ob247 P) :: (nat_lit 248, ob248 P) :: (nat_lit 250, ob250 P) :: (nat_lit 251, ob251 P) :: (nat_lit 252, ob252 P) :: (nat_lit 254, ob254 P) :: (nat_lit 255, ob255 P) :: (nat_lit 257, ob257 P) :: (nat_lit 258, ob258 P) :: (nat_lit 259, ob259 P) :: (nat_lit 260, ob260 P) :: (nat_lit 262, ob262 P) :: (nat_lit 263, ob263 P) :: (nat_lit 265, ob265 P) :: (nat_lit 266, ob266 P) :: (nat_lit 267, ob267 P) :: (nat_lit 269, ob269 P) :: (nat_lit 270, ob270 P) :: (nat_lit 272, ob272 P) :: (nat_lit 273, ob273 P) :: (nat_lit 274, ob274 P) :: (nat_lit 276, ob276 P) :: (nat_lit 277, ob277 P) :: (nat_lit 279, ob279 P) :: (nat_lit 280, ob280 P) :: (nat_lit 281, ob281 P) :: (nat_lit 283, ob283 P) :: (nat_lit 284, ob284 P) :: (nat_lit 286, ob286 P) :: (nat_lit 287, ob287 P) :: (nat_lit 288, ob288 P) :: (nat_lit 290, ob290 P) :: (nat_lit 291, ob291 P) :: (nat_lit 293, ob293 P) :: (nat_lit 294, ob294 P) :: (nat_lit 295, ob295 P) :: (nat_lit 297, ob297 P) :: (nat_lit 298, ob298 P) :: (nat_lit 300, ob300 P) :: (nat_lit 301, ob301 P) :: (nat_lit 302, ob302 P) :: (nat_lit 303, ob303 P) :: (nat_lit 305, ob305 P) :: (nat_lit 306, ob306 P) :: (nat_lit 308, ob308 P) :: (nat_lit 309, ob309 P) :: (nat_lit 310, ob310 P) :: (nat_lit 312, ob312 P) :: (nat_lit 313, ob313 P) :: (nat_lit 315, ob315 P) :: (nat_lit 316, ob316 P) :: (nat_lit 317, ob317 P) :: (nat_lit 319, ob319 P) :: (nat_lit 320, ob320 P) :: (nat_lit 322, ob322 P) :: (nat_lit 323, ob323 P) :: (nat_lit 324, ob324 P) :: (nat_lit 325, ob325 P) :: (nat_lit 327, ob327 P) :: (nat_lit 328, ob328 P) :: (nat_lit 330, ob330 P) :: (nat_lit 331, ob331 P) :: (nat_lit 332, ob332 P) :: (nat_lit 334, ob334 P) :: (nat_lit 335, ob335 P) :: (nat_lit 337, ob337 P) :: (nat_lit 338, ob338 P) :: (nat_lit 339, ob339 P) :: (nat_lit 341, ob341 P) :: (nat_lit 342, ob342 P) :: (nat_lit 344, ob344 P) :: (nat_lit 345, ob345 P) :: (nat_lit 346, ob346 P) :: (nat_lit 348, ob348 P) :: (nat_lit 349, ob349 P) :: (nat_lit 351, ob351 P) :: (nat_lit 352, ob352 P) :: (nat_lit 353, ob353 P) :: (nat_lit 355, ob355 P) :: (nat_lit 356, ob356 P) :: (nat_lit 358, ob358 P) :: (nat_lit 359, ob359 P) :: (nat_lit 360, ob360 P) :: (nat_lit 362, ob362 P) :: (nat_lit 363, ob363 P) :: (nat_lit 365, ob365 P) :: (nat_lit 366, ob366 P) :: (nat_lit 367, ob367 P) :: (nat_lit 369, ob369 P) :: (nat_lit 370, ob370 P) :: (nat_lit 372, ob372 P) :: (nat_lit 373, ob373 P) :: (nat_lit 374, ob374 P) :: (nat_lit 376, ob376 P) :: (nat_lit 377, ob377 P) :: (nat_lit 379, ob379 P) :: (nat_lit 380, ob380 P) :: (nat_lit 381, ob381 P) :: (nat_lit 382, ob382 P) :: (nat_lit 383, ob383 P) :: (nat_lit 384, ob384 P) :: (nat_lit 385, ob385 P) :: (nat_lit 395, ob395 P) :: (nat_lit 396, ob396 P) :: (nat_lit 397, ob397 P) :: (nat_lit 399, ob399 P) :: (nat_lit 400, ob400 P) :: (nat_lit 402, ob402 P) :: (nat_lit 403, ob403 P) :: (nat_lit 404, ob404 P) :: (nat_lit 406, ob406 P) :: (nat_lit 407, ob407 P) :: (nat_lit 409, ob409 P) :: (nat_lit 410, ob410 P) :: (nat_lit 411, ob411 P) :: (nat_lit 412, ob412 P) :: (nat_lit 413, ob413 P) :: (nat_lit 414, ob414 P) :: (nat_lit 415, ob415 P) :: (nat_lit 418, ob418 P) :: (nat_lit 420, ob420 P) :: (nat_lit 421, ob421 P) :: (nat_lit 423, ob423 P) :: (nat_lit 424, ob424 P) :: (nat_lit 425, ob425 P) :: (nat_lit 428, ob428 P) :: (nat_lit 429, ob429 P) :: (nat_lit 430, ob430 P) :: (nat_lit 433, ob433 P) :: (nat_lit 434, ob434 P) :: (nat_lit 435, ob435 P) :: (nat_lit 438, ob438 P) :: (nat_lit 439, ob439 P) :: []
noncomputable def oz12 : Params → Obj := fun P => (Obj.mk Value.none none (Data.fields (List.toArray [])) (List.toArray []))
noncomputable def tbeg : Params → BT := fun P => (.node (PySem.W.boot_o_0 P) (.node (PySem.W.boot_o_1 P) (.node (PySem.W.boot_o_3 P) (.node (PySem.W.boot_o_7 P) .nil .nil) (.node (ob11 P) .nil .nil)) (.node (PySem.W.boot_o_5 P) (.node (PySem.W.boot_o_9 P) .nil .nil) (.node (ob13 P) .nil .nil))) (.node (PySem.W.boot_o_2 P) (.node (PySem.W.boot_o_4 P) (.node (PySem.W.boot_o_8 P) .nil .nil) (.node (oz12 P) .nil .nil)) (.node (PySem.W.boot_o_6 P) (.node (PySem.W.boot_o_10 P) .nil .nil) (.node (ob14 P) .nil .nil))))
noncomputable def objs9 : Params → List Obj := fun P => [PySem.W.boot_o_0 P, PySem.W.boot_o_1 P, ob2 P, ob3 P, PySem.W.boot_o_4 P, PySem.W.boot_o_5 P, PySem.W.boot_o_6 P, PySem.W.boot_o_7 P, PySem.W.boot_o_8 P, PySem.W.boot_o_9 P, PySem.W.boot_o_10 P, ob11 P, ob12 P, ob13 P, ob14 P, ob15 P, ob16 P, ob17 P, ob18 P, ob19 P, ob20 P, ob21 P, ob22 P, ob23 P, ob24 P, ob25 P, ob26 P, ob27 P, ob28 P, ob29 P, ob30 P, ob31 P, ob32 P, ob33 P, ob34 P, ob35 P, ob36 P, ob37 P, ob38 P, ob39 P, ob40 P, ob41 P, ob42 P, ob43 P, ob44 P, ob45 P, ob46 P, ob47 P, ob48 P, ob49 P, ob50 P, ob51 P, ob52 P, ob53 P, ob54 P, ob55 P, ob56 P, ob57 P, ob58 P, ob59 P, ob60 P, ob61 P, ob62 P, ob63 P, ob64 P, ob65 P, ob66 P, ob67 P, ob68 P, ob69 P, ob70 P, ob71 P, ob72 P, ob73 P, ob74 P, ob75 P, ob76 P, ob77 P, ob78 P, ob79 P, ob80 P, ob81 P, ob82 P, ob83 P, ob84 P, ob85 P, ob86 P, ob87 P, ob88 P, ob89 P, ob90 P, ob91 P, ob92 P, ob93 P, ob94 P, ob95 P, ob96 P, ob97 P, ob98 P, ob99 P, ob100 P, ob101 P, ob102 P, ob103 P, ob104 P, ob105 P, ob106 P, ob107 P, ob108 P, ob109 P, ob110 P, ob111 P, ob112 P, ob113 P, ob114 P, ob115 P, ob116 P, ob117 P, ob118 P, ob119 P, ob120 P, ob121 P, ob122 P, ob123 P, ob124 P, ob125 P, ob126 P, ob127 P, ob128 P, ob129 P, ob130 P, ob131 P, ob132 P, ob133 P, ob134 P, ob135 P, ob136 P, ob137 P, ob138 P, ob139 P, ob140 P, ob141 P, ob142 P, ob143 P, ob144 P, ob145 P, ob146 P, ob147 P, ob148 P, ob149 P, ob150 P, ob151 P, ob152 P, ob153 P, ob154 P, ob155 P, ob156 P, ob157 P, ob158 P, ob159 P, ob160 P, ob161 P, ob162 P, ob163 P, ob164 P, ob165 P, ob166 P, ob167 P, ob168 P, ob169 P, ob170 P, ob171 P, ob172 P, ob173 P, ob174 P, ob175 P, ob176 P, ob177 P, ob178 P, ob179 P, ob180 P, ob181 P, ob182 P, ob183 P, ob184 P, ob185 P, ob186 P, ob187 P, ob188 P, ob189 P, ob190 P, ob191 P, ob192 P, ob193 P, ob194 P, ob195 P, ob196 P, ob197 P, ob198 P, ob199 P, ob200 P, ob201 P, ob202 P, ob203 P, ob204 P, ob205 P, ob206 P, ob207 P, ob208 P, ob209 P, ob210 P, ob211 P, ob212 P, ob213 P, ob214 P, ob215 P, ob216 P, ob217 P, ob218 P, ob219 P, ob220 P, ob221 P, ob222 P, ob223 P, ob224 P, ob225 P, ob226 P, ob227 P, ob228 P, ob229 P, ob230 P, ob231 P, ob232 P, ob233 P, ob234 P, ob235 P, ob236 P, ob237 P, ob238 P, ob239 P, ob240 P, ob241 P, ob242 P, ob243 P, ob244 P, ob245 P, ob246 P, ob247 P, ob248 P, ob249 P, ob250 P, ob251 P, ob252 P, ob253 P, ob254 P, ob255 P, ob256 P, ob257 P, ob258 P, ob259 P, ob260 P, ob261 P, ob262 P, ob263 P, ob264 P, ob265 P, ob266 P, ob267 P, ob268 P, ob269 P, ob270 P, ob271 P, ob272 P, ob273 P, ob274 P, ob275 P, ob276 P, ob277 P, ob278 P, ob279 P, ob280 P, ob281 P, ob282 P, ob283 P, ob284 P, ob285 P, ob286 P, ob287 P, ob288 P, ob289 P, ob290 P, ob291 P, ob292 P, ob293 P, ob294 P, ob295 P, ob296 P, ob297 P, ob298 P, ob299 P, ob300 P, ob301 P, ob302 P, ob303 P, ob304 P, ob305 P, ob306 P, ob307 P, ob308 P, ob309 P, ob310 P, ob311 P, ob312 P, ob313 P, ob314 P, ob315 P, ob316 P, ob317 P, ob318 P, ob319 P, ob320 P, ob321 P, ob322 P, ob323 P, ob324 P, ob325 P, ob326 P, ob327 P, ob328 P, ob329 P, ob330 P, ob331 P, ob332 P, ob333 P, ob334 P, ob335 P, ob336 P, ob337 P, ob338 P, ob339 P, ob340 P, ob341 P, ob342 P, ob343 P, ob344 P, ob345 P, ob346 P, ob347 P, ob348 P, ob349 P, ob350 P, ob351 P, ob352 P, ob353 P, ob354 P, ob355 P, ob356 P, ob357 P, ob358 P, ob359 P, ob360 P, ob361 P, ob362 P, ob363 P, ob364 P, ob365 P, ob366 P, ob367 P, ob368 P, ob369 P, ob370 P, ob371 P, ob372 P, ob373 P, ob374 P, ob375 P, ob376 P, ob377 P, ob378 P, ob379 P, ob380 P, ob381 P, ob382 P, ob383 P, ob384 P, ob385 P, ob386 P, ob387 P, ob388 P, ob389 P, ob390 P, ob391 P, ob392 P, ob393 P, ob394 P, ob395 P, ob396 P, ob397 P, ob398 P, ob399 P, ob400 P, ob401 P, ob402 P, ob403 P, ob404 P, ob405 P, ob406 P, ob407 P, ob408 P, ob409 P, ob410 P, ob411 P, ob412 P, ob413 P, ob414 P, ob415 P, ob416 P, ob417 P, ob418 P, ob419 P, ob420 P, ob421 P, ob422 P, ob423 P, ob424 P, ob425 P, ob426 P, ob427 P, ob428 P, ob429 P, ob430 P, ob431 P, ob432 P, ob433 P, ob434 P, ob435 P, ob436 P, ob437 P, ob438 P, ob439 P]
end
/-! ## the top's run, the looks -/
section
open PySem PySem.W PyProof.Rows
set_option maxRecDepth 1000000
set_option maxHeartbeats 0
noncomputable abbrev life9 : Life := Life.mk [] [] [] 0 [] [] Bool.false (List.toArray []) [] 0 Bool.false Bool.false Bool.false (0 : Int) [(2000 : Int), (10 : Int), (10 : Int)] Bool.false 0 Bool.true [] [] 0 Bool.false
noncomputable def env9 : Env := Env.mk pw.main.scope mainNs mainNs [] Str.empty none (Value.ref 13) (some 14) 0
noncomputable abbrev pos0 : Pos := Pos.mk 0 0 0 0
noncomputable abbrev pos9 : Pos := Pos.mk 267 0 296 99
noncomputable abbrev beg9 (w : World) (os : OsState) : SharedT := SharedT.mk (tbeg w.params) 15 life9 (Array.mk []) (Drawn.mk 0 0 0 0) 187 os
noncomputable abbrev fin9 (w : World) (os : OsState) : SharedT := SharedT.mk (tfin w.params) 440 life9 (Array.mk []) (Drawn.mk 0 0 0 0) 770 os
theorem bi9 : behindTheImports pw = pw.main.body := by rfl
theorem run9 (w : World) (os : OsState) (p : Program) (b : List Stmt) : segRunT treeTable p w 11 (some (.ref 6)) 1 3000 (beg9 w os) (piecesOf (behindTheImports pw) env9 (.body b env9) pos0 [topFrame pos0]) = some (.next, fin9 w os, .body b env9, pos9) := by
  rw [bi9, PySem.W.Fast.te10110043849684766642, PySem.W.Fast.te14364793385576792824]
  kernel_rfl
theorem pre9 (w : World) (os : OsState) : topGo treeTable pw w 11 (some (.ref 6)) 12 ⟨boot_heap w.params, Array.mk [], boot_drawn, boot_toks, os⟩ (topStub pw) = some ((beg9 w os).abs, ⟨denote treeTable (.body (behindTheImports pw) env9), .body (behindTheImports pw) env9, pos0, [topFrame pos0]⟩) := by
  rw [PySem.W.Fast.te15667345088766844465, PySem.W.Fast.te11892475500146522536, PySem.W.Fast.te14364793385576792824]
  kernel_rfl
theorem blk9 (w : World) (os : OsState) : segRun treeTable pw w 11 (some (.ref 6)) 1 1 (beg9 w os).abs (blockOf (behindTheImports pw) env9 (.body (behindTheImports pw) env9) pos0 [topFrame pos0]) = some (.next, (beg9 w os).abs, .body (behindTheImports pw) env9, pos0) := by
  rw [PySem.W.Fast.te14374325043358763698, PySem.W.Fast.te14364793385576792824]
  kernel_rfl
theorem end9 (w : World) (os : OsState) : topRun treeTable pw w 11 (some (.ref 6)) 2 (fin9 w os).abs (restOf [] env9 (.body (behindTheImports pw) env9) pos9 [topFrame pos0]) = some (fin9 w os).abs := by
  rw [PySem.W.Fast.te14082659384304107361, PySem.W.Fast.te14364793385576792824]
  kernel_rfl
theorem top9 (w : World) (os : OsState) : topRun treeTable pw w 11 (some (.ref 6)) (12 + (1 + (3000 + 2))) ⟨boot_heap w.params, Array.mk [], boot_drawn, boot_toks, os⟩ (topStub pw) = some (fin9 w os).abs :=
  go_top (pre9 w os) (piece_block (blk9 w os) ((List.append_nil (behindTheImports pw)) ▸ piece_app (rest := []) (segRun_of (run9 w os pw _)) (end9 w os)))
noncomputable def hfin (P : Params) : Heap := ⟨Array.mk (objs9 P), life9⟩
theorem abs9 (P : Params) : absHeap (tfin P) 440 life9 = hfin P := by kernel_rfl
noncomputable def q9 : Program := { pw with main := { pw.main with body := [st9 36] } }
noncomputable def loose9 : List Str := pw.boundNames.filter fun n => n != Str.ofString "law"
noncomputable abbrev sfin (w : World) (os : OsState) : Shared := ⟨hfin w.params, Array.mk [], Drawn.mk 0 0 0 0, 770, os⟩
theorem lkA (w : World) (os : OsState) : (staticsOk (importedModules pw.main.body) (boot_heap w.params) (hfin w.params) && namesBound pw (hfin w.params) && gensDone (sfin w os) && laidKept (boot_heap w.params) (hfin w.params)) = true := by
  kernel_rfl
theorem lkSeen (w : World) (os : OsState) : seen ((recsOf q9).map (·.name)) (ownsOf q9) [] { sfin w os with gens := #[] } = expectedOf q9 := by
  kernel_rfl
theorem lkBlt (w : World) (os : OsState) : (sfin w os).heap.bltView = bltViewBooted := by kernel_rfl
theorem lkTabs (w : World) (os : OsState) : tabsOk q9 (sfin w os) = true := by kernel_rfl
theorem lkPin (w : World) (os : OsState) : pinSeenD q9 (drecsOf q9) (sfin w os) = pinGoodD (drecsOf q9) := by kernel_rfl
theorem lkE (w : World) (os : OsState) : plainSeenE q9 (looseW q9 loose9) (sfin w os) = plainGoodE q9 (looseW q9 loose9) := by kernel_rfl
theorem lkD (w : World) (os : OsState) : plainSeenD q9 loose9 (sfin w os) = plainGoodD q9 loose9 := by kernel_rfl
theorem lkW (w : World) (os : OsState) : wideSeen q9 (sfin w os) = wideGood q9 := by kernel_rfl
theorem lkC (w : World) (os : OsState) : clsSeenW q9 loose9 (sfin w os) = clsGoodW q9 loose9 := by kernel_rfl
noncomputable abbrev addrs9 : List Addr := [2, 3, 15, 17, 18, 20, 21, 22, 30, 32, 33, 35, 36, 37, 39, 40, 42, 43, 44, 45, 46, 47, 48, 51, 53, 54, 56, 57, 58, 60, 61, 63, 64, 65, 67, 68, 70, 71, 72, 74, 75, 77, 78, 79, 81, 82, 84, 85, 86, 88, 89, 91, 92, 93, 95, 96, 98, 99, 100, 103, 104, 105, 112, 113, 114, 116, 117, 119, 120, 121, 123, 124, 126, 127, 128, 129, 130, 131, 134, 141, 142, 143, 146, 153, 154, 155, 158, 160, 161, 163, 164, 165, 166, 168, 169, 171, 172, 173, 175, 176, 178, 179, 180, 182, 183, 185, 186, 187, 189, 190, 192, 193, 194, 196, 197, 199, 200, 201, 203, 204, 206, 207, 208, 210, 211, 213, 214, 222, 223, 225, 226, 228, 229, 230, 231, 233, 234, 236, 237, 238, 240, 241, 243, 244, 245, 247, 248, 250, 251, 252, 254, 255, 257, 258, 259, 260, 262, 263, 265, 266, 267, 269, 270, 272, 273, 274, 276, 277, 279, 280, 281, 283, 284, 286, 287, 288, 290, 291, 293, 294, 295, 297, 298, 300, 301, 302, 303, 305, 306, 308, 309, 310, 312, 313, 315, 316, 317, 319, 320, 322, 323, 324, 325, 327, 328, 330, 331, 332, 334, 335, 337, 338, 339, 341, 342, 344, 345, 346, 348, 349, 351, 352, 353, 355, 356, 358, 359, 360, 362, 363, 365, 366, 367, 369, 370, 372, 373, 374, 376, 377, 379, 380, 381, 382, 383, 384, 385, 395, 396, 397, 399, 400, 402, 403, 404, 406, 407, 409, 410, 411, 412, 413, 414, 415, 418, 420, 421, 423, 424, 425, 428, 429, 430, 433, 434, 435, 438, 439]
noncomputable abbrev hook9 : Hook := kmHook K addrs9 (fun _ => rfl) [73, 431]
noncomputable abbrev row9 : RowW := PySem.Challenge.rw_pb0258_01.row.toRowW
noncomputable abbrev xt9 : Shared → Bool := fun s => xlAt q9 [] s && recOk (RowW.records row9) s
theorem lkBig (w : World) (os : OsState) : ((sfin w os).heap.keysOk (looseW q9 loose9) ((recsOf q9).map (·.name)) ((litsOf q9).map (·.1)) ((clssOf q9 (looseW q9 loose9)).map (·.name)) && (sfin w os).heap.accountedOkI (importedModules pw.main.body) && (sfin w os).heap.isNs mainGlobals && (sfin w os).heap.isNs builtinsNs && tablesOk q9 (sfin w os).heap && xt9 (sfin w os) && (if true then (sfin w os).gens.size == 0 else !leftWithCleanup (sfin w os).gens)) = true := by
  kernel_rfl
theorem lkObs (w : World) (os : OsState) : hook9.obs (sfin w os) = hook9.val w := by kernel_rfl
theorem lkSize (w : World) : ((boot_heap w.params).isNs mainGlobals && (#[] : Array GenState).size == 0, (boot_heap w.params).objs.size, (boot_heap w.params).nsMap mainGlobals "__annotations__") = (true, 11, some (Value.ref 6)) := by kernel_rfl
theorem left9 : LeftO pw q9 loose9 xt9 hook9.obs hook9.val 6000 := by
  refine LeftO.of_pieces (H₀ := boot_heap) (H₁ := hfin) (gs₀ := #[]) (gs₁ := #[]) (d₀ := boot_drawn) (d₁ := Drawn.mk 0 0 0 0) (k₀ := boot_toks) (k₁ := 770) (m₀ := 11) (ann := some (.ref 6)) (M := 12 + (1 + (3000 + 2))) ?_ lkSize (fun w os => ?_) (by decide) fun w => ?_
  · exact boot_open (by rfl) (by decide) (fun _ => by rfl)
  · have h := top9 w os
    have e : (fin9 w os).abs = sfin w os := congrArg (fun h => (⟨h, Array.mk [], Drawn.mk 0 0 0 0, 770, os⟩ : Shared)) (abs9 w.params)
    rw [e] at h
    exact h
  · funext os
    exact looks_pair (lkA w os) (looks_pair (looks_pair (lkSeen w os) (looks_pair (lkBlt w os) (looks_pair (lkBig w os) (looks_pair (lkTabs w os) (looks_pair (lkPin w os) (looks_pair (lkE w os) (looks_pair (lkD w os) (looks_pair (lkW w os) (lkC w os)))))))))  (lkObs w os))
end
section
open PySem PySem.W PyProof.Rows
set_option maxRecDepth 100000
set_option maxHeartbeats 8000000
theorem road_cons {lk : Look} {a : Stmt} {r : List Stmt} (h1 : noRoadLS lk a = true) (h2 : noRoadLSs lk r = true) : noRoadLSs lk (a :: r) = true := by
  show (noRoadLS lk a && noRoadLSs lk r) = true
  rw [h1, h2]; rfl
theorem road_app {lk : Look} : ∀ {a b : List Stmt}, noRoadLSs lk a = true → noRoadLSs lk b = true → noRoadLSs lk (a ++ b) = true
  | [], _, _, h => h
  | s :: a, b, h1, h2 => by
    have h3 : (noRoadLS lk s && noRoadLSs lk a) = true := h1
    rw [Bool.and_eq_true] at h3
    exact road_cons h3.1 (road_app h3.2 h2)
theorem notin_head {x : PySem.Str} {ys : List PySem.Str} (h : x.cps.toList.head? = some 32) (hy : ys.all (fun y => y.cps.toList.head? != some 32) = true) : ys.contains x = false := by
  cases e : ys.contains x with
  | false => rfl
  | true =>
    have hm : x ∈ ys := by simpa using e
    have := List.all_eq_true.mp hy x hm
    rw [h] at this
    exact absurd this (by decide)
theorem frame_heads : frameAttrs.all (fun y => y.cps.toList.head? != some 32) = true := by decide +kernel
theorem road_plain {x : PySem.Str} {l : List Nat} (hx : x.cps.toList = 32 :: l) (hr : ((32 :: l).any (fun c => c == 123 || c == 125) || (32 :: l).any (· == 46)) = false) : ({ strict := false, foot := none, bare := [] } : Look).str x = true := by
  have h1 : frameAttrs.contains x = false := notin_head (by rw [hx]; rfl) frame_heads
  have h2 : x.opensWith "__" = false := by
    unfold Str.opensWith
    rw [Bool.eq_false_iff]
    intro h
    have h := eq_of_beq h
    have h4 := congrArg (fun a => a.toList.head?) h
    have e : (("__" : Str)).cps.size = 2 := by decide +kernel
    have e2 : (("__" : Str)).cps.toList.head? = some 95 := by decide +kernel
    simp only [e, e2, Array.toList_extract, List.extract_eq_take_drop, hx] at h4
    exact absurd h4 (by simp)
  have h3 : roadStr x = false := by
    unfold roadStr
    rw [← Array.any_toList, ← Array.any_toList, hx]
    rw [Bool.or_eq_false_iff] at hr ⊢
    rw [hr.1, hr.2]
    exact ⟨rfl, rfl⟩
  unfold Look.str Look.word attrL
  rw [h1, h2, h3]
  simp
theorem road_const {str : String} {l : List Char} {n : PySem.Str} {p1 p2 p3 : Pos} {kk : Nat} (hl : str = String.ofList l) {r : List Nat} (hr : l.map Char.toNat = 32 :: r) (ha : ((32 :: r).any (fun c => c == 123 || c == 125) || (32 :: r).any (· == 46)) = false) :
   noRoadLS { strict := false, foot := none, bare := [] } (.Assign [.Name n p1] (.Constant (.str (Str.ofString str)) kk p2) p3) = true := by
  have : ({ strict := false, foot := none, bare := [] } : Look).str (Str.ofString str) = true := road_plain (l := r) (by rw [Str.ofString_eq_toList, hl, String.toList_ofList]; exact hr) ha
  show (true && (({ strict := false, foot := none, bare := [] } : Look).name n && true) && ({ strict := false, foot := none, bare := [] } : Look).str (Str.ofString str)) = true
  rw [this]
  rfl
theorem l1 : (importedModules pw.main.body).all cThrough.contains = true := by decide +kernel
theorem l2 : (["vars", "dir", "locals"] : List PySem.Str).filter (readsOut pw pw.main.body) = [] := by decide +kernel
noncomputable abbrev lk9 : Look := { strict := false, foot := none, bare := [] }
theorem res9 : noRoadLS lk9 (st9 27) = true := road_const (by rfl) (by rfl) (by decide +kernel)
theorem roadA : noRoadLSs lk9 (pw.main.body.take 27) = true := by kernel_rfl
theorem roadB : noRoadLSs lk9 (pw.main.body.drop 28) = true := by kernel_rfl
theorem body9 : pw.main.body = pw.main.body.take 27 ++ (st9 27 :: pw.main.body.drop 28) := by kernel_rfl
theorem road : noRoadLSs lk9 pw.main.body = true := (congrArg (noRoadLSs lk9) body9).trans (road_app roadA (road_cons res9 roadB))
theorem road2 : noRoadLSs { strict := !(importedModules pw.main.body).all cThrough.contains, foot := none, bare := (["vars", "dir", "locals"] : List PySem.Str).filter (readsOut pw pw.main.body) } pw.main.body = true := by
  rw [l1, l2]; exact road
theorem looks : looksOpen pw = true := by
  unfold looksOpen
  rw [road2]
  simp only [Bool.and_true]
  repeat' (with_reducible refine look_both ?_ ?_)
  all_goals kernel_rfl
theorem said : PySem.Challenge.rw_pb0258_01.wellSaid = true := by
  unfold OpenLaw.wellSaid OpenRow.wellSaid OpenRow.partSaid
  have e : PySem.Challenge.rw_pb0258_01.row.prog = pw := rfl
  rw [e, looks]
  simp only [Bool.true_and]
  repeat' (with_reducible refine look_both ?_ ?_)
  all_goals kernel_rfl
end
/-! ## the walk -/
section
open PySem PySem.W PySem.Spec PySem.Calls PyProof.Rows
set_option maxRecDepth 100000

noncomputable abbrev Ar (dp : Nat) (fr : Option (List Env)) (gd : Option (List Code)) (un : Nat) : Around := { handled := none, depth := dp, frames := fr, guards := gd, units := un }
noncomputable abbrev Ext (h h' : Heap) : Prop := ∀ b o, h.get? b = some o → h'.get? b = some o
noncomputable abbrev ExtB (W : List Addr) (h h' : Heap) : Prop := ∀ b o, b ∉ W → h.get? b = some o → h'.get? b = some o
noncomputable abbrev Led := List (Addr × Obj)
noncomputable def Has (h : Heap) (ld : Led) : Prop := ∀ p ∈ ld, h.get? p.1 = some p.2
theorem Has.ext {h h' : Heap} {ld : Led} (x : Has h ld) (k : Ext h h') : Has h' ld := fun p hp => k _ _ (x p hp)
theorem Has.nil {h : Heap} : Has h [] := fun _ hp => nomatch hp
theorem Has.cons {h : Heap} {ld : Led} {a : Addr} {o : Obj} (x : h.get? a = some o) (y : Has h ld) : Has h ((a, o) :: ld) := fun p hp => by
  rcases List.mem_cons.mp hp with rfl | hp
  · exact x
  · exact y p hp
theorem Has.app {h : Heap} {ld ld' : Led} (x : Has h ld) (y : Has h ld') : Has h (ld ++ ld') := fun p hp => (List.mem_append.mp hp).elim (x p) (y p)

section
variable {prog : Program} {w : World} {A : Around} {R : Result → Shared → Prop} {s : Shared} {h₀ : Heap} {K : Frag} {p : Program} {loose : List Str} {mean : ExcName → Option Value} {mg mb : Str → Option Value}

/-- entering a def whose frame has no cells; W: what it may write or wants as a ledger -/
theorem enter {name qual : Str} {params : Arguments} {body : List Stmt} {scope : Scope} {dV kV doc pm cdv ct oc : Value} {an od : Option Addr} {osl : Array (Option Value)} {f : Addr} {args : Args} {binds : List (Str × Value)}
    (W : List (Addr × Obj)) (X : K.In h₀) (T : Top p loose mean mg mb h₀) (k : Ext h₀ s.heap) (hW : ∀ p ∈ W, s.heap.get? p.1 = some p.2) (hf : ∀ p ∈ W, h₀.get? p.1 = none)
    (ho : K.lookup f = some ⟨oc, od, .func (fnOf name qual params body scope dV kV doc pm an cdv ct), osl⟩) (hcd : codeIn K cdv qual = true) (hroom : A.depth < recursionLimit)
    (hbind : BindsTo s (fnOf name qual params body scope dV kV doc pm an cdv ct) args binds) (hloc : ∀ y ∈ binds, scope.names.lookup y.1 = some .local)
    (h : ∀ g L h₁, ExtB (W.map (·.1)) s.heap g → Ext h₀ g → Fr g L h₁ (fun y => binds.reverse.lookup y) → News g L h₁ W → K.In g → Top p loose mean mg mb g → Ext g s.heap → s.heap.objs.size = L →
      wpAny (model prog w) (A.deeper (envOf qual scope L f cdv)) (execs body (envOf qual scope L f cdv))
        (fun fl s' => R (.ok (.ret (match fl with | .ret v => v | _ => .none))) s') (fun _ _ => False) { s with heap := h₁, toks := s.toks + binds.length })
    (hco : scope.isCoroutine = false) (hgen : scope.isGenerator = false) (hk : scope.kind = .function)
    (hcell : ∀ x ∈ scope.names, x.2 ≠ .cell) : codeAny (model prog w) A (.call (.ref f) args) R s := by
  have XS : K.In s.heap := X.keeps k
  refine codeAny_call_def (fd := fnOf name qual params body scope dV kV doc pm an cdv ct) (body := body) (binds := binds) hroom (XS _ _ ho) rfl (T.nolimit.keeps k) (codeRec_of XS hcd) rfl hbind hcell hloc (fun h₁ hns hk₁ => ?_) hco hgen hk
  have st : Ext h₀ (hideAll s.heap (W.map (·.1))) := fun b o e => hideAll_get _ (k b o e) fun q => by
    obtain ⟨x, hx, rfl⟩ := List.mem_map.mp q
    rw [hf x hx] at e; cases e
  exact wpAny_mono (h (hideAll s.heap (W.map (·.1))) s.heap.objs.size h₁ (fun b o hb e => hideAll_get _ e hb) st
    ⟨hns, fun b o e => hk₁ b o (of_hideAll _ e), Nat.le_of_eq (hideAll_size _ _)⟩
    (fun x hx => ⟨hk₁ _ _ (hW x hx), Nat.ne_of_lt (Heap.lt_size (hW x hx)), hideAll_none _ (List.mem_map_of_mem hx)⟩)
    (X.keeps st) (T.keeps st) (fun b o e => of_hideAll _ e) rfl) (fun _ _ y => y) fun _ _ y => y.elim

/-- a def that writes nothing: its ground is the whole heap -/
theorem enter0 {name qual : Str} {params : Arguments} {body : List Stmt} {scope : Scope} {dV kV doc pm cdv ct oc : Value} {an od : Option Addr} {osl : Array (Option Value)} {f : Addr} {args : Args} {binds : List (Str × Value)}
    (X : K.In h₀) (T : Top p loose mean mg mb h₀) (k : Ext h₀ s.heap)
    (ho : K.lookup f = some ⟨oc, od, .func (fnOf name qual params body scope dV kV doc pm an cdv ct), osl⟩) (hcd : codeIn K cdv qual = true) (hroom : A.depth < recursionLimit)
    (hbind : BindsTo s (fnOf name qual params body scope dV kV doc pm an cdv ct) args binds) (hloc : ∀ y ∈ binds, scope.names.lookup y.1 = some .local)
    (h : ∀ L h₁, Fr s.heap L h₁ (fun y => binds.reverse.lookup y) → News s.heap L h₁ [] → K.In s.heap → Top p loose mean mg mb s.heap → s.heap.objs.size = L →
      wpAny (model prog w) (A.deeper (envOf qual scope L f cdv)) (execs body (envOf qual scope L f cdv))
        (fun fl s' => R (.ok (.ret (match fl with | .ret v => v | _ => .none))) s') (fun _ _ => False) { s with heap := h₁, toks := s.toks + binds.length })
    (hco : scope.isCoroutine = false) (hgen : scope.isGenerator = false) (hk : scope.kind = .function)
    (hcell : ∀ x ∈ scope.names, x.2 ≠ .cell) : codeAny (model prog w) A (.call (.ref f) args) R s := by
  have XS : K.In s.heap := X.keeps k
  refine codeAny_call_def (fd := fnOf name qual params body scope dV kV doc pm an cdv ct) (body := body) (binds := binds) hroom (XS _ _ ho) rfl (T.nolimit.keeps k) (codeRec_of XS hcd) rfl hbind hcell hloc (fun h₁ hns hk₁ => ?_) hco hgen hk
  exact wpAny_mono (h s.heap.objs.size h₁ ⟨hns, fun b o e => hk₁ b o e, Nat.le_refl _⟩ (fun _ hx => nomatch hx)
    XS (T.keeps k) rfl) (fun _ _ y => y) fun _ _ y => y.elim

/-- what stood ahead of a call that changed nothing of its ledger stands behind it -/
theorem ext_of {g h h' : Heap} {L : Addr} {m : Str → Option Value} {W : List (Addr × Obj)} (hg : ExtB (W.map (·.1)) h g) (hW : ∀ p ∈ W, h.get? p.1 = some p.2) (F : Fr g L h' m) (N : News g L h' W) : Ext h h' := fun b o e => by
  by_cases hb : b ∈ W.map (·.1)
  · obtain ⟨x, hx, rfl⟩ := List.mem_map.mp hb
    rw [hW x hx] at e; cases e
    exact (N x hx).1
  · exact F.keep b o (hg b o hb e)
end

theorem inst_has {g h : Heap} {L x C dx : Addr} {m : Str → Option Value} {ld : Led} {od : Obj} {sl : Array (Option Value)} (F : Fr g L h m) (H : Has g ld) (h1 : (x, (⟨.ref C, some dx, .plain, sl⟩ : Obj)) ∈ ld) (h2 : (dx, od) ∈ ld) :
    InstAt h x ⟨.ref C, some dx, .plain, sl⟩ C (some od) := ⟨F.keep _ _ (H _ h1), rfl, rfl, F.keep _ _ (H _ h2)⟩

section
variable {prog : Program} {w : World} {A : Around} {E : Value → Shared → Prop} {s : Shared} {g : Heap} {L l : Addr} {m : Str → Option Value} {ld : Led} {vs : List Value} {n : Nat} {Q : Value → Shared → Prop}
theorem isList_has (F : Fr g L s.heap m) (H : Has g ld) (hl : (l, listOf vs.toArray n) ∈ ld) : s.heap.IsList l vs.toArray := ⟨_, F.keep _ _ (H _ hl), rfl, n, rfl⟩
theorem item_has {value slice : PySem.Expr} {k : Int} {u : Tok} {v : Value} (F : Fr g L s.heap m) (H : Has g ld) (hl : (l, listOf vs.toArray n) ∈ ld) (h0 : 0 ≤ k) (hhi : k < 2 ^ 63) (hx : vs[k.toNat]? = some v) (h : Q v s)
    (hs : subscripted slice false (.ref l) (.int k u) = operate [.ref l, .int k u] (getItem (.ref l) (.int k u)) := by with_unfolding_all rfl) :
    wpAny (model prog w) A (subscriptTail value slice (.ref l) (.int k u)) Q E s :=
  tail_any (isList_has F H hl).typeIs slot_list_getitem.lookup (wpAny_getItem_list (isList_has F H hl) h0 hhi (by simpa using hx) h) hs
theorem len_has (F : Fr g L s.heap m) (H : Has g ld) (hl : (l, listOf vs.toArray n) ∈ ld) (hfit : (vs.length : Int) < 2 ^ 63)
    (h : Q (.int (vs.length : Int) (s.toks + 1)) { s with toks := s.toks + 1 + 1 }) : wpAny (model prog w) A (call (.builtin "len") [.ref l]) Q E s :=
  len_list (isList_has F H hl) (by rw [List.size_toArray]; exact hfit) (by rw [List.size_toArray]; exact h)
end

section
variable {g h h' : Heap} {L d : Addr} {m : Str → Option Value} {news news' nw : Led} {o o' : Obj} {W : List Addr}
/-- a call that writes at W alone -/
theorem fr_extB (F : Fr g L h m) (k : ExtB W h h') (hL : L ∉ W) (hg : ∀ b ∈ W, g.get? b = none) : Fr g L h' m :=
  ⟨F.ns.at' fun o e => k L o hL e, fun b o e => k b o (fun q => by rw [hg b q] at e; cases e) (F.keep b o e), F.above⟩
theorem news_add (F : Fr g L h m) (N : News g L h news) (k : Ext h h') (hn : Has h' nw) (hf : ∀ p ∈ nw, h.get? p.1 = none) : News g L h' (nw ++ news) := fun p hp => by
  rcases List.mem_append.mp hp with q | q
  · refine ⟨hn p q, fun e => ?_, ?_⟩
    · obtain ⟨oL, _, _, hL, _⟩ := F.ns
      have := hf p q; rw [e, hL] at this; cases this
    · cases e : g.get? p.1 with
      | none => rfl
      | some x => have := hf p q; rw [F.keep _ _ e] at this; cases this
  · exact ⟨k _ _ (N p q).1, (N p q).2⟩
theorem fr_one (F : Fr g L h m) (N : News g L h news) (hm : (d, o) ∈ news) (k : ExtB [d] h h') : Fr g L h' m :=
  fr_extB F k (fun q => (N _ hm).2.1 (List.mem_singleton.mp q).symm) fun b hb => by rw [List.mem_singleton.mp hb]; exact (N _ hm).2.2
theorem news_one (N : News g L h news) (U : Upd d o o' news news') (k : ExtB [d] h h') (ho : h'.get? d = some o') : News g L h' news' := by
  obtain ⟨pre, post, rfl, rfl, a, b⟩ := U.split
  intro p hp
  rcases List.mem_append.mp hp with q | q
  · have P := N p (List.mem_append_left _ q); exact ⟨k _ _ (fun e => a p q (List.mem_singleton.mp e)) P.1, P.2⟩
  · rcases List.mem_cons.mp q with rfl | q
    · exact ⟨ho, (N (d, o) (List.mem_append_right _ (.head _))).2⟩
    · have P := N p (List.mem_append_right _ (.tail _ q)); exact ⟨k _ _ (fun e => b p q (List.mem_singleton.mp e)) P.1, P.2⟩
end
/-- what stood ahead of a call stands behind it, but for the ledger that it turned -/
theorem extB_of {g h h' : Heap} {L : Addr} {m : Str → Option Value} {W : List (Addr × Obj)} {V : List Addr} {W' : List (Addr × Obj)} (hg : ExtB (W.map (·.1)) h g) (hW : ∀ p ∈ W, h.get? p.1 = some p.2) (F : Fr g L h' m) (N : News g L h' W')
    (hs : ∀ p ∈ W, p.1 ∉ V → p ∈ W') : ExtB V h h' := fun b o hV e => by
  by_cases hb : b ∈ W.map (·.1)
  · obtain ⟨x, hx, rfl⟩ := List.mem_map.mp hb
    rw [hW x hx] at e; cases e
    exact (N x (hs x hx hV)).1
  · exact F.keep b o (hg b o hb e)

theorem in_tuple_K {prog : Program} {w : World} {A : Around} {E : Value → Shared → Prop} {s : Shared} {g : Heap} {L a : Addr} {m : Str → Option Value} {K : Frag} {d : Option Addr} {items : Array Value} {n : Nat} {sl : Array (Option Value)} {ys : List Str} {x : Str} {u : Tok} {Q : Value → Shared → Prop}
    (F : Fr g L s.heap m) (X : K.In g) (ho : K.lookup a = some ⟨.type "tuple", d, .seq items n, sl⟩) (hi : StrsAre items.toList ys) (h : Q (.bool (ys.any (· == x))) s) : wpAny (model prog w) A (compareOp .In (.str x u) (.ref a)) Q E s :=
  in_tuple_strs ⟨_, F.keep _ _ (X _ _ ho), rfl, _, rfl⟩ hi h
noncomputable abbrev tupO (vs : List Value) (n : Nat) : Obj := { cls := .type "tuple", data := .seq vs.toArray n }

/-- v bears d in h -/
noncomputable def Rds (h : Heap) (v : Value) (d : PyData) : Prop := ∃ as, Reads h v d as
noncomputable def RdsA (h : Heap) (vs : List Value) (ds : List PyData) : Prop := ∃ as, ReadsAll h vs ds as
section
variable {h h' : Heap} {v : Value} {vs us : List Value} {d : PyData} {ds es : List PyData} {a : Addr} {n : Nat}
theorem Rds.str {x : Str} {t : Tok} : Rds h (.str x t) (.str x) := ⟨_, .str x t⟩
theorem Rds.int {x : Int} {t : Tok} : Rds h (.int x t) (.int x) := ⟨_, .int x t⟩
theorem RdsA.nil : RdsA h [] [] := ⟨_, .nil⟩
theorem RdsA.cons (x : Rds h v d) (y : RdsA h vs ds) : RdsA h (v :: vs) (d :: ds) := let ⟨_, x⟩ := x; let ⟨_, y⟩ := y; ⟨_, .cons x y⟩
theorem Rds.tup (e : h.get? a = some (tupO vs n)) (y : RdsA h vs ds) : Rds h (.ref a) (.tuple ds) := let ⟨_, y⟩ := y; ⟨_, .tuple e rfl rfl y⟩
theorem Rds.lst (e : h.get? a = some (listOf vs.toArray n)) (y : RdsA h vs ds) : Rds h (.ref a) (.list ds) := let ⟨_, y⟩ := y; ⟨_, .list e rfl rfl y⟩
theorem RdsA.app (x : RdsA h vs ds) : RdsA h us es → RdsA h (vs ++ us) (ds ++ es) := by
  induction vs generalizing ds with
  | nil => obtain ⟨_, x⟩ := x; cases x; exact id
  | cons v vs ih => obtain ⟨_, x⟩ := x; cases x with | cons x y => exact fun z => .cons ⟨_, x⟩ (ih ⟨_, y⟩ z)
theorem Rds.ext (x : Rds h v d) (k : Ext h h') : Rds h' v d := let ⟨as, x⟩ := x; ⟨as, PyProof.Rows.Reads.keeps k x⟩
theorem RdsA.ext (x : RdsA h vs ds) (k : Ext h h') : RdsA h' vs ds := let ⟨as, x⟩ := x; ⟨as, PyProof.Rows.ReadsAll.keeps k x⟩
theorem RdsA.length (x : RdsA h vs ds) : vs.length = ds.length := by
  induction vs generalizing ds with
  | nil => obtain ⟨_, x⟩ := x; cases x; rfl
  | cons v vs ih => obtain ⟨_, x⟩ := x; cases x with | cons x y => rw [List.length_cons, List.length_cons, ih ⟨_, y⟩]
end
theorem in_tup {prog : Program} {w : World} {A : Around} {E : Value → Shared → Prop} {s : Shared} {c x : Value} {xs : List PyData} {d : PyData} {Q : Value → Shared → Prop} (rc : Rds s.heap c (.tuple xs)) (rx : Rds s.heap x d) (hxs : PyData.canLayAll0 xs = true) (hd : d.canLay0 = true)
    (hu : A.units + 1 + min (PyData.depthAll xs) d.depth < cLine) (h : Q (.bool (xs.any fun y => PyData.eqv y d)) s) : wpAny (model prog w) A (compareOp .In x c) Q E s :=
  let ⟨_, rc⟩ := rc; let ⟨_, rx⟩ := rx; SeqAt.in_tuple_reads rc rx hxs hd hu h

theorem has_but {h g : Heap} {ld : Led} {d : Addr} {o : Obj} (hB : ExtB ([(d, o)].map (·.1)) h g) (hn : ∀ q ∈ ld, q.1 ≠ d) (H : Has h ((d, o) :: ld)) : Has g ld := fun p hp =>
  hB _ _ (fun q => hn p hp (List.mem_singleton.mp q)) (H p (.tail _ hp))
theorem inst_mix {g h : Heap} {L x C dx : Addr} {m : Str → Option Value} {ld news : Led} {od : Obj} {sl : Array (Option Value)} (F : Fr g L h m) (H : Has g ld) (N : News g L h news) (h1 : (x, (⟨.ref C, some dx, .plain, sl⟩ : Obj)) ∈ ld) (h2 : (dx, od) ∈ news) :
    InstAt h x ⟨.ref C, some dx, .plain, sl⟩ C (some od) := ⟨F.keep _ _ (H _ h1), rfl, rfl, (N _ h2).1⟩
theorem has_one {h : Heap} {d : Addr} {o : Obj} {ld : Led} (H : Has h ((d, o) :: ld)) : ∀ p ∈ [(d, o)], h.get? p.1 = some p.2 := fun p hp => by
  rw [List.mem_singleton.mp hp]; exact H _ (.head _)
theorem none_one {h : Heap} {d : Addr} {o : Obj} (H : h.get? d = none) : ∀ p ∈ [(d, o)], h.get? p.1 = none := fun p hp => by
  rw [List.mem_singleton.mp hp]; exact H
theorem extB_one {g h h' : Heap} {L d : Addr} {m : Str → Option Value} {o : Obj} (hB : ExtB ([(d, o)].map (·.1)) h g) (F : Fr g L h' m) : ExtB [d] h h' := fun b o hb e => F.keep b o (hB b o hb e)

/-! ## tokens and the reader -/
structure Tk where
  kind : Str
  worth : Str
  ina : Bool
noncomputable abbrev kh (w : World) (x : String) : Int := PyData.keyHash w.params (Str.ofString x)
noncomputable abbrev tkD (w : World) (t1 t2 t3 t4 u1 u2 : Tok) (va : Value) (t : Tk) : Obj :=
  dictOf [⟨kh w "kind", .str "kind" t1, .str t.kind u1⟩, ⟨kh w "worth", .str "worth" t2, .str t.worth u2⟩, ⟨kh w "at", .str "at" t3, va⟩, ⟨kh w "is_in_a", .str "is_in_a" t4, .bool t.ina⟩] 4
noncomputable abbrev rdD (w : World) (t1 t2 t3 t4 : Tok) (l nd : Addr) (i : Int) : Obj :=
  dictOf [⟨kh w "tokens", .str "tokens" t1, .ref l⟩, ⟨kh w "at", .str "at" t2, .int i t3⟩, ⟨kh w "named", .str "named" t4, .ref nd⟩] 3

inductive TokIn (w : World) (ld : Led) (v : Value) (t : Tk) : Prop
  | mk : ∀ a da t1 t2 t3 t4 u1 u2 va, v = .ref a → (a, instObj 413 da) ∈ ld → (da, tkD w t1 t2 t3 t4 u1 u2 va t) ∈ ld → TokIn w ld v t
inductive ToksIn (w : World) (ld : Led) : List Value → List Tk → Prop
  | nil : ToksIn w ld [] []
  | cons {v vs t ts} : TokIn w ld v t → ToksIn w ld vs ts → ToksIn w ld (v :: vs) (t :: ts)
section
variable {w : World} {ld ld' : Led} {v : Value} {vs us : List Value} {t : Tk} {ts rs : List Tk}
theorem TokIn.mono (h : TokIn w ld v t) (k : ∀ p ∈ ld, p ∈ ld') : TokIn w ld' v t := by
  obtain ⟨a, da, t1, t2, t3, t4, u1, u2, va, e, h1, h2⟩ := h
  exact ⟨a, da, t1, t2, t3, t4, u1, u2, va, e, k _ h1, k _ h2⟩
theorem ToksIn.mono (h : ToksIn w ld vs ts) (k : ∀ p ∈ ld, p ∈ ld') : ToksIn w ld' vs ts := by
  induction h with
  | nil => exact .nil
  | cons a _ ih => exact .cons (a.mono k) ih
theorem ToksIn.length (h : ToksIn w ld vs ts) : vs.length = ts.length := by
  induction h with
  | nil => rfl
  | cons _ _ ih => rw [List.length_cons, List.length_cons, ih]
theorem ToksIn.app (h : ToksIn w ld vs ts) (k : ToksIn w ld us rs) : ToksIn w ld (vs ++ us) (ts ++ rs) := by
  induction h with
  | nil => exact k
  | cons a _ ih => exact .cons a ih
theorem ToksIn.get (h : ToksIn w ld vs ts) : ∀ {k : Nat} {t : Tk}, ts[k]? = some t → ∃ v, vs[k]? = some v ∧ TokIn w ld v t := by
  induction h with
  | nil => intro k t e; simp at e
  | cons a _ ih =>
    intro k t e
    cases k with
    | zero => simp at e; subst e; exact ⟨_, rfl, a⟩
    | succ k => simp at e ⊢; exact ih e
end

/-- the reader and its tokens: all but its place -/
structure Rd (w : World) (ld : Led) (x dx l nd : Addr) (vs : List Value) (ts : List Tk) : Prop where
  inst : (x, instObj 383 dx) ∈ ld
  list : ∃ n, (l, listOf vs.toArray n) ∈ ld
  toks : ToksIn w ld vs ts
  few : ts.length < 2 ^ 20
theorem room_of {k a c : Nat} (h : a < c) (e : k ≤ a) : k < c := Nat.lt_of_le_of_lt e h
local macro_rules | `(tactic| walk_at $s:str) => `(tactic| k_extra $s)
local macro_rules | `(tactic| k_room) => `(tactic| k_extra "k_room")
local macro_rules | `(tactic| units_room) => `(tactic| k_extra "units_room")
local macro_rules | `(tactic| k_units) => `(tactic| k_extra "k_units")
local macro_rules | `(tactic| k_mem) => `(tactic| k_extra "k_mem")
local macro_rules | `(tactic| k_inst) => `(tactic| k_extra "k_inst")
local macro_rules | `(tactic| k_ne) => `(tactic| k_extra "k_ne")
local macro_rules | `(tactic| k_all) => `(tactic| k_extra "k_all")
theorem words_prelude : True := by
  k_with "k_room" => first | (refine room_of (by assumption) ?_; (try simp only [depth_under_make, depth_under_kw, depth_in1, depth_deeper, depth_caller]); (try dsimp only [Ar]); simp only [Nat.add_assoc, Nat.reduceAdd, Nat.add_le_add_iff_left, Nat.reduceLeDiff]; done) | ((try simp only [depth_under_make, depth_under_kw, depth_in1, depth_deeper, depth_caller]); (try dsimp only [Ar] at *); omega)
  k_with "units_room" => first | (refine room_of (by assumption) ?_; (try simp only [units_under_make, units_in1, units_deeper, Around.mark_units, units_caller]); (try dsimp only [Ar]); simp only [Nat.add_assoc, Nat.reduceAdd, Nat.add_le_add_iff_left, Nat.reduceLeDiff]; done) | ((try simp only [units_under_make, units_in1, units_deeper, Around.mark_units, units_caller]); (try dsimp only [Ar] at *); omega)
  k_with "k_units" => first | (refine room_of (by assumption) ?_; (try simp only [units_under_make, units_in1, units_deeper, Around.mark_units, units_caller]); (try dsimp only [Ar]); simp only [Nat.add_assoc, Nat.reduceAdd, Nat.add_le_add_iff_left, Nat.reduceLeDiff]; done) | ((try simp only [units_under_make, units_in1, units_deeper, Around.mark_units, units_caller]); (try dsimp only [Ar] at *); omega)
  k_with "k_mem" => first | exact List.Mem.head _ | (refine' List.Mem.tail _ ?_; k_mem) | assumption
  k_with "k_inst" => (refine' inst_has ?zzF ?zzH ?zzh1 ?zzh2; (case zzF => k_asm); (case zzH => assumption); (case zzh1 => k_mem); (case zzh2 => k_mem))
  k_with "call builtin:len" => (k_here; (with_reducible show wpAny _ _ (call (Value.builtin _) [Value.ref _]) _ _ _); k_dflt (refine' len_has ?zzk1 ?zzk2 ?zzk3 ?zzk4 ?_; (case zzk1 => k_asm); (case zzk2 => assumption); (case zzk3 => k_mem); (case zzk4 => omega); k_whole))
  k_with "subscriptTail" => (k_here; (with_reducible show wpAny _ _ (subscriptTail _ _ (Value.ref _) (Value.int _ _)) _ _ _); (with_unfolding_all refine' item_has ?zzk1 ?zzk2 ?zzk3 ?zzk4 ?zzk5 ?zzk6 ?_ ?zzk7; (case zzk1 => k_asm); (case zzk2 => assumption); (case zzk3 => k_mem); (case zzk4 => omega); (case zzk5 => omega); (case zzk6 => assumption); (case zzk7 => with_unfolding_all rfl); k_whole))
  k_with "ENTER0" => (refine wpAny_call ?_; k_dflt (refine' enter0 ?zzkX ?zzkT ?zzkK ?zzk6 ?zzk7 ?zzk8 ?zzk9 ?zzkB ?_ ?zzc2 ?zzc3 ?zzc4 ?zzc5; (case zzkX => assumption); (case zzkT => assumption); (case zzkK => assumption); (case zzk6 => k_is); (case zzk7 => k_is); (case zzk8 => k_room); (case zzk9 => first | exact BindsTo.of_eq rfl | exact binds_K (Frag.In.keeps (by assumption) (by assumption)) rfl (by k_is) rfl rfl rfl); (case zzc5 => decide); (case zzkB => exact locs rfl); (case zzc2 => exact rfl); (case zzc3 => exact rfl); (case zzc4 => exact rfl); k_whole; intro _ _ _ _ _ _ _; (try dsimp only); (try k_fold); (try (show wpAny _ _ (execs (_ :: _) (envOf _ ⟨_, _, _, _, _⟩ _ _ _)) _ _ _))))
  k_with "KEPT" => ((have _ := Fr.keeps (by k_asm) (by assumption)); (have _ := News.keeps (by k_asm) (by assumption)); (try k_sweep))
  k_with "HAS" => first | exact Has.ext (by assumption) (Fr.keep (by k_asm)) | exact Has.cons (News.get (by k_asm) (by k_mem)) (Has.ext (by assumption) (Fr.keep (by k_asm)))
  k_with "k_inst" => (refine' InstAt.of_news ?zzN ?zzh1 ?zzh2; (case zzN => k_asm); (case zzh1 => k_mem); (case zzh2 => k_mem))
  k_with "READS" => repeat' (first | exact Rds.str | exact Rds.int | exact RdsA.nil | (refine RdsA.cons ?_ ?_) | (refine Rds.tup (News.get (by k_asm) (by k_mem)) ?_) | (refine Rds.lst (News.get (by k_asm) (by k_mem)) ?_))
  k_with "k_inst" => (refine' inst_mix ?zzF ?zzH ?zzN ?zzh1 ?zzh2; (case zzF => k_asm); (case zzH => assumption); (case zzN => k_asm); (case zzh1 => k_mem); (case zzh2 => k_mem))
  k_with "PJ" => first | assumption | exact And.left (by assumption) | exact And.left (And.right (by assumption)) | exact And.left (And.right (And.right (by assumption))) | exact And.left (And.right (And.right (And.right (by assumption)))) | exact And.left (And.right (And.right (And.right (And.right (by assumption))))) | exact And.left (And.right (And.right (And.right (And.right (And.right (by assumption)))))) | exact And.left (And.right (And.right (And.right (And.right (And.right (And.right (by assumption))))))) | exact And.left (And.right (And.right (And.right (And.right (And.right (And.right (And.right (by assumption)))))))) | exact And.left (And.right (And.right (And.right (And.right (And.right (And.right (And.right (And.right (by assumption))))))))) | exact And.left (And.right (And.right (And.right (And.right (And.right (And.right (And.right (And.right (And.right (by assumption)))))))))) | exact And.left (And.right (And.right (And.right (And.right (And.right (And.right (And.right (And.right (And.right (And.right (by assumption))))))))))) | exact And.left (And.right (And.right (And.right (And.right (And.right (And.right (And.right (And.right (And.right (And.right (And.right (by assumption)))))))))))) | exact And.left (And.right (And.right (And.right (And.right (And.right (And.right (And.right (And.right (And.right (And.right (And.right (And.right (by assumption))))))))))))) | exact And.left (And.right (And.right (And.right (And.right (And.right (And.right (And.right (And.right (And.right (And.right (And.right (And.right (And.right (by assumption))))))))))))))
  k_with "k_ne" => (refine neN ?_; (try dsimp only); first | assumption | (refine Ne.symm ?_; assumption) | (refine Nat.ne_of_lt ?_; walk_at "PJ") | (refine Nat.ne_of_gt ?_; walk_at "PJ") | walk_at "PJ" | (refine Ne.symm ?_; walk_at "PJ") | ((repeat cases ‹_ ∧ _›); first | assumption | (refine Ne.symm ?_; assumption) | exact Nat.ne_of_lt (by assumption) | exact Nat.ne_of_gt (by assumption)) | omega)
  k_with "ENTERW" => (refine wpAny_call ?_; k_dflt (refine' enter _ ?zzkX ?zzkT ?zzkK ?zzkW ?zzkN ?zzk6 ?zzk7 ?zzk8 ?zzk9 ?zzkB ?_ ?zzc2 ?zzc3 ?zzc4 ?zzc5; (case zzkW => assumption); (case zzkX => assumption); (case zzkT => assumption); (case zzkK => assumption); (case zzkN => assumption); (case zzk6 => k_is); (case zzk7 => k_is); (case zzk8 => k_room); (case zzk9 => first | exact BindsTo.of_eq rfl | exact binds_K (Frag.In.keeps (by assumption) (by assumption)) rfl (by k_is) rfl rfl rfl); (case zzc5 => decide); (case zzkB => exact locs rfl); (case zzc2 => exact rfl); (case zzc3 => exact rfl); (case zzc4 => exact rfl); k_whole; intro _ _ _ _ _ _ _ _ _ _ _; (try (have _ := has_but (by assumption) (by assumption) (by assumption))); (try dsimp only); (try k_fold); (try (show wpAny _ _ (execs (_ :: _) (envOf _ ⟨_, _, _, _, _⟩ _ _ _)) _ _ _))))
  k_with "callWith ref" => (k_here; k_dflt (refine' callWith_K ?zzk1 ?zzk2 ?_; (case zzk1 => k_asm); (case zzk2 => k_is); k_whole))
  exact True.intro
noncomputable def kindAt (ts : List Tk) (j : Nat) (c : Str) : Bool := match ts[j]? with
  | some t => t.kind == c
  | none => false
noncomputable def signAt (ts : List Tk) (j : Nat) (k c : Str) : Bool := match ts[j]? with
  | some t => t.kind == k && t.worth == c
  | none => false
section
variable {prog : Program} {w : World} {dp un : Nat} {fr : Option (List Env)} {gd : Option (List Code)} {s : Shared} {h₀ : Heap} {p : Program} {loose : List Str} {mean : ExcName → Option Value} {mg mb : Str → Option Value}
variable {Q E : Value → Shared → Prop} {x dx l nd : Addr} {t1 t2 t3 t4 tk tc : Tok} {i k : Nat} {kk : Int} {vs : List Value} {ld : Led} {ts : List Tk} {t : Tk} {c : Str}

set_option maxHeartbeats 4000000 in
theorem is_done_c (X : (K w.params).In h₀) (T : Top p loose mean mg mb h₀) (k₀ : Ext h₀ s.heap) (hd : dp + 2 < recursionLimit) (hu : un + 76 < cLine)
    (H : Has s.heap ((dx, rdD w t1 t2 t3 t4 l nd i) :: ld)) (R : Rd w ld x dx l nd vs ts) {b : Bool} (hb : decide (ts.length ≤ i) = b)
    (h : ∀ h' tk', Ext s.heap h' → Q (.bool b) { s with heap := h', toks := tk' }) :
    wpAny (model prog w) (Ar dp fr gd un) (call (.ref 244) [.ref x]) Q E s := by
  have reg : (K, PySem.Challenge.rw_pb0258_01).1 = K := by (k_fill; rfl)
  clear reg
  obtain ⟨r1, ⟨n, r2⟩, r3, r4⟩ := R
  have hlen := r3.length
  have e : decide ((vs.length : Int) ≤ (i : Int)) = b := by rw [← hb, hlen]; exact decide_eq_decide.mpr (by omega)
  walk_at "ENTER0"
  k_steps
  rw [e]
  exact h _ _ (Fr.keep (by assumption))

set_option maxHeartbeats 4000000 in
theorem peek_c (X : (K w.params).In h₀) (T : Top p loose mean mg mb h₀) (k₀ : Ext h₀ s.heap) (hd : dp + 2 < recursionLimit) (hu : un + 76 < cLine)
    (H : Has s.heap ((dx, rdD w t1 t2 t3 t4 l nd i) :: ld)) (R : Rd w ld x dx l nd vs ts) (hv : ts[i + k]? = some t) (hk : kk = (k : Int))
    (h : ∀ v h' tk', TokIn w ld v t → Ext s.heap h' → Q v { s with heap := h', toks := tk' }) :
    wpAny (model prog w) (Ar dp fr gd un) (call (.ref 237) [.ref x, .int kk tk]) Q E s := by
  have reg : (K, PySem.Challenge.rw_pb0258_01).1 = K := by (k_fill; rfl)
  clear reg
  obtain ⟨r1, ⟨n, r2⟩, r3, r4⟩ := R
  obtain ⟨v, hv', hT⟩ := r3.get hv
  have hlen := r3.length
  have hlt : i + k < ts.length := by
    have := List.getElem?_eq_some_iff.mp hv; exact this.1
  subst hk
  have hidx : vs[((i : Int) + (k : Int)).toNat]? = some v := by rw [show ((i : Int) + (k : Int)).toNat = i + k by omega]; exact hv'
  walk_at "ENTER0"
  k_steps
  exact h _ _ _ hT (Fr.keep (by assumption))

set_option maxHeartbeats 4000000 in
theorem peek_n (X : (K w.params).In h₀) (T : Top p loose mean mg mb h₀) (k₀ : Ext h₀ s.heap) (hd : dp + 2 < recursionLimit) (hu : un + 76 < cLine)
    (H : Has s.heap ((dx, rdD w t1 t2 t3 t4 l nd i) :: ld)) (R : Rd w ld x dx l nd vs ts) (hv : ts[i + k]? = none) (hk : kk = (k : Int))
    (h : ∀ h' tk', Ext s.heap h' → Q .none { s with heap := h', toks := tk' }) :
    wpAny (model prog w) (Ar dp fr gd un) (call (.ref 237) [.ref x, .int kk tk]) Q E s := by
  have reg : (K, PySem.Challenge.rw_pb0258_01).1 = K := by (k_fill; rfl)
  clear reg
  obtain ⟨r1, ⟨n, r2⟩, r3, r4⟩ := R
  have hlen := r3.length
  have hv' := List.getElem?_eq_none_iff.mp hv
  subst hk
  walk_at "ENTER0"
  k_steps
  exact h _ _ (Fr.keep (by assumption))

set_option maxHeartbeats 4000000 in
theorem peek_c0 (X : (K w.params).In h₀) (T : Top p loose mean mg mb h₀) (k₀ : Ext h₀ s.heap) (hd : dp + 2 < recursionLimit) (hu : un + 76 < cLine)
    (H : Has s.heap ((dx, rdD w t1 t2 t3 t4 l nd i) :: ld)) (R : Rd w ld x dx l nd vs ts) (hv : ts[i]? = some t)
    (h : ∀ v h' tk', TokIn w ld v t → Ext s.heap h' → Q v { s with heap := h', toks := tk' }) :
    wpAny (model prog w) (Ar dp fr gd un) (call (.ref 237) [.ref x]) Q E s := by
  have reg : (K, PySem.Challenge.rw_pb0258_01).1 = K := by (k_fill; rfl)
  clear reg
  obtain ⟨r1, ⟨n, r2⟩, r3, r4⟩ := R
  obtain ⟨v, hv', hT⟩ := r3.get hv
  have hlen := r3.length
  have hlt : i < ts.length := by
    have := List.getElem?_eq_some_iff.mp hv; exact this.1
  have hidx : vs[((i : Int) + 0).toNat]? = some v := by rw [show ((i : Int) + 0).toNat = i by omega]; exact hv'
  walk_at "ENTER0"
  k_steps
  exact h _ _ _ hT (Fr.keep (by assumption))

set_option maxHeartbeats 4000000 in
theorem peek_n0 (X : (K w.params).In h₀) (T : Top p loose mean mg mb h₀) (k₀ : Ext h₀ s.heap) (hd : dp + 2 < recursionLimit) (hu : un + 76 < cLine)
    (H : Has s.heap ((dx, rdD w t1 t2 t3 t4 l nd i) :: ld)) (R : Rd w ld x dx l nd vs ts) (hv : ts[i]? = none)
    (h : ∀ h' tk', Ext s.heap h' → Q .none { s with heap := h', toks := tk' }) :
    wpAny (model prog w) (Ar dp fr gd un) (call (.ref 237) [.ref x]) Q E s := by
  have reg : (K, PySem.Challenge.rw_pb0258_01).1 = K := by (k_fill; rfl)
  clear reg
  obtain ⟨r1, ⟨n, r2⟩, r3, r4⟩ := R
  have hlen := r3.length
  have hv' := List.getElem?_eq_none_iff.mp hv
  walk_at "ENTER0"
  k_steps
  exact h _ _ (Fr.keep (by assumption))
end
theorem words_02m : True := by
  k_with "call ref" => (k_here; (try dsimp only [List.nil_append, List.cons_append]); (with_reducible show wpAny _ _ (call (Value.ref 237) [_, _]) _ _ _); k_dflt (first
  | (refine' peek_c ?zzk1 ?zzk2 ?zzk3 ?zzk4 ?zzku ?zzk5 ?zzk6 ?zzk7 ?zzk8 ?_; (case zzk3 => exact Fr.keep (by k_asm)); (case zzk1 => assumption); (case zzk2 => assumption); (case zzk4 => k_room); (case zzku => k_units); (case zzk5 => walk_at "HAS"); (case zzk6 => assumption); (case zzk8 => first | assumption | exact rfl | omega); (case zzk7 => assumption); k_whole; intro _ _ _ hT' _; (obtain ⟨_, _, _, _, _, _, _, _, _, rfl, _, _⟩ := hT'); walk_at "KEPT")
  | (refine' peek_n ?zzk1 ?zzk2 ?zzk3 ?zzk4 ?zzku ?zzk5 ?zzk6 ?zzk7 ?zzk8 ?_; (case zzk3 => exact Fr.keep (by k_asm)); (case zzk1 => assumption); (case zzk2 => assumption); (case zzk4 => k_room); (case zzku => k_units); (case zzk5 => walk_at "HAS"); (case zzk6 => assumption); (case zzk8 => first | assumption | exact rfl | omega); (case zzk7 => assumption); k_whole; intro _ _ _; walk_at "KEPT")))
  k_with "call ref" => (k_here; (try dsimp only [List.nil_append, List.cons_append]); (with_reducible show wpAny _ _ (call (Value.ref 237) [_]) _ _ _); k_dflt (first
  | (refine' peek_c0 ?zzk1 ?zzk2 ?zzk3 ?zzk4 ?zzku ?zzk5 ?zzk6 ?zzk7 ?_; (case zzk3 => exact Fr.keep (by k_asm)); (case zzk1 => assumption); (case zzk2 => assumption); (case zzk4 => k_room); (case zzku => k_units); (case zzk5 => walk_at "HAS"); (case zzk6 => assumption); (case zzk7 => assumption); k_whole; intro _ _ _ hT' _; (obtain ⟨_, _, _, _, _, _, _, _, _, rfl, _, _⟩ := hT'); walk_at "KEPT")
  | (refine' peek_n0 ?zzk1 ?zzk2 ?zzk3 ?zzk4 ?zzku ?zzk5 ?zzk6 ?zzk7 ?_; (case zzk3 => exact Fr.keep (by k_asm)); (case zzk1 => assumption); (case zzk2 => assumption); (case zzk4 => k_room); (case zzku => k_units); (case zzk5 => walk_at "HAS"); (case zzk6 => assumption); (case zzk7 => assumption); k_whole; intro _ _ _; walk_at "KEPT")))
  exact True.intro
section
variable {prog : Program} {w : World} {dp un : Nat} {fr : Option (List Env)} {gd : Option (List Code)} {s : Shared} {h₀ : Heap} {p : Program} {loose : List Str} {mean : ExcName → Option Value} {mg mb : Str → Option Value}
variable {Q E : Value → Shared → Prop} {x dx l nd : Addr} {t1 t2 t3 t4 tk tc : Tok} {i k : Nat} {kk : Int} {vs : List Value} {ld : Led} {ts : List Tk} {t : Tk} {c : Str}
set_option maxHeartbeats 4000000 in
theorem is_kind_c (X : (K w.params).In h₀) (T : Top p loose mean mg mb h₀) (k₀ : Ext h₀ s.heap) (hd : dp + 4 < recursionLimit) (hu : un + 92 < cLine)
    (H : Has s.heap ((dx, rdD w t1 t2 t3 t4 l nd i) :: ld)) (R : Rd w ld x dx l nd vs ts) (hk : kk = (k : Int)) {b : Bool} (hb : kindAt ts (i + k) c = b)
    (h : ∀ h' tk', Ext s.heap h' → Q (.bool b) { s with heap := h', toks := tk' }) :
    wpAny (model prog w) (Ar dp fr gd un) (call (.ref 266) [.ref x, .str c tc, .int kk tk]) Q E s := by
  have reg : (K, PySem.Challenge.rw_pb0258_01).1 = K := by (k_fill; rfl)
  clear reg
  have r1 := R.inst
  cases hq : ts[i + k]? with
  | none =>
    simp only [kindAt, hq] at hb
    subst hb
    walk_at "ENTER0"
    k_steps
    exact h _ _ (Fr.keep (by assumption))
  | some t =>
    simp only [kindAt, hq] at hb
    subst hb
    walk_at "ENTER0"
    k_steps
    exact h _ _ (Fr.keep (by assumption))

set_option maxHeartbeats 4000000 in
theorem is_kind_0 (X : (K w.params).In h₀) (T : Top p loose mean mg mb h₀) (k₀ : Ext h₀ s.heap) (hd : dp + 4 < recursionLimit) (hu : un + 92 < cLine)
    (H : Has s.heap ((dx, rdD w t1 t2 t3 t4 l nd i) :: ld)) (R : Rd w ld x dx l nd vs ts) {b : Bool} (hb : kindAt ts i c = b)
    (h : ∀ h' tk', Ext s.heap h' → Q (.bool b) { s with heap := h', toks := tk' }) :
    wpAny (model prog w) (Ar dp fr gd un) (call (.ref 266) [.ref x, .str c tc]) Q E s := by
  have reg : (K, PySem.Challenge.rw_pb0258_01).1 = K := by (k_fill; rfl)
  clear reg
  have r1 := R.inst
  cases hq : ts[i]? with
  | none =>
    simp only [kindAt, hq] at hb
    subst hb
    walk_at "ENTER0"
    k_steps
    exact h _ _ (Fr.keep (by assumption))
  | some t =>
    simp only [kindAt, hq] at hb
    subst hb
    walk_at "ENTER0"
    k_steps
    exact h _ _ (Fr.keep (by assumption))
end
theorem words_03m : True := by
  k_with "call ref" => (k_here; (try dsimp only [List.nil_append, List.cons_append]); (with_reducible show wpAny _ _ (call (Value.ref 266) [_, _, _]) _ _ _); k_dflt (refine' is_kind_c ?zzk1 ?zzk2 ?zzk3 ?zzk4 ?zzku ?zzk5 ?zzk6 ?zzk8 ?zzkb ?_; (case zzk3 => exact Fr.keep (by k_asm)); (case zzk1 => assumption); (case zzk2 => assumption); (case zzk4 => k_room); (case zzku => k_units); (case zzk5 => walk_at "HAS"); (case zzk6 => assumption); (case zzk8 => first | assumption | exact rfl | omega); (case zzkb => first | assumption | exact rfl); k_whole; intro _ _ _; walk_at "KEPT"))
  k_with "call ref" => (k_here; (try dsimp only [List.nil_append, List.cons_append]); (with_reducible show wpAny _ _ (call (Value.ref 266) [_, _]) _ _ _); k_dflt (refine' is_kind_0 ?zzk1 ?zzk2 ?zzk3 ?zzk4 ?zzku ?zzk5 ?zzk6 ?zzkb ?_; (case zzk3 => exact Fr.keep (by k_asm)); (case zzk1 => assumption); (case zzk2 => assumption); (case zzk4 => k_room); (case zzku => k_units); (case zzk5 => walk_at "HAS"); (case zzk6 => assumption); (case zzkb => first | assumption | exact rfl); k_whole; intro _ _ _; walk_at "KEPT"))
  k_with "call ref" => (k_here; (try dsimp only [List.nil_append, List.cons_append]); (with_reducible show wpAny _ _ (call (Value.ref 244) [_]) _ _ _); k_dflt (refine' is_done_c ?zzk1 ?zzk2 ?zzk3 ?zzk4 ?zzku ?zzk5 ?zzk6 ?zzkb ?_; (case zzk3 => exact Fr.keep (by k_asm)); (case zzk1 => assumption); (case zzk2 => assumption); (case zzk4 => k_room); (case zzku => k_units); (case zzk5 => walk_at "HAS"); (case zzk6 => assumption); (case zzkb => first | assumption | exact rfl); k_whole; intro _ _ _; walk_at "KEPT"))
  exact True.intro
section
variable {prog : Program} {w : World} {dp un : Nat} {fr : Option (List Env)} {gd : Option (List Code)} {s : Shared} {h₀ : Heap} {p : Program} {loose : List Str} {mean : ExcName → Option Value} {mg mb : Str → Option Value}
variable {Q E : Value → Shared → Prop} {x dx l nd : Addr} {t1 t2 t3 t4 tk tc : Tok} {i k : Nat} {kk : Int} {vs : List Value} {ld : Led} {ts : List Tk} {t : Tk} {c : Str}
theorem ne_str_k {A : Around} {a b : Str} {ta tb : Tok} {r : Bool} (e : (a != b) = r) (h : Q (.bool r) s) : wpAny (model prog w) A (compareOp .NotEq (.str a ta) (.str b tb)) Q E s := ne_str (by rw [e]; exact h)
theorem kind_or (ts : List Tk) (i : Nat) (k : Str) : (kindAt ts (i + 0) k = false ∧ ∀ c, signAt ts i k c = false) ∨ ∃ t, ts[i]? = some t ∧ kindAt ts (i + 0) k = true ∧ ∀ c, signAt ts i k c = (t.worth == c) := by
  unfold kindAt signAt
  rw [Nat.add_zero]
  cases hq : ts[i]? with
  | none => exact .inl ⟨rfl, fun _ => rfl⟩
  | some t =>
    cases hk : (t.kind == k) with
    | false => exact .inl ⟨hk, fun _ => by simp [hk]⟩
    | true => exact .inr ⟨t, rfl, hk, fun _ => by simp [hk]⟩
theorem bne_of {a b : Str} {r : Bool} (h : (a == b) = r) : (a != b) = !r := by rw [bne, h]
theorem words_ne : True := by
  k_with "compareOp NotEq str str" => (k_here; (with_reducible show wpAny _ _ (compareOp .NotEq (Value.str _ _) (Value.str _ _)) _ _ _); k_dflt (refine' ne_str_k ?zzk1 ?_; (case zzk1 => with_reducible assumption); k_whole))
  exact True.intro

set_option maxHeartbeats 4000000 in
theorem is_sign_c (X : (K w.params).In h₀) (T : Top p loose mean mg mb h₀) (k₀ : Ext h₀ s.heap) (hd : dp + 6 < recursionLimit) (hu : un + 108 < cLine)
    (H : Has s.heap ((dx, rdD w t1 t2 t3 t4 l nd i) :: ld)) (R : Rd w ld x dx l nd vs ts) {b : Bool} (hb : signAt ts i (Str.ofString "sign") c = b)
    (h : ∀ h' tk', Ext s.heap h' → Q (.bool b) { s with heap := h', toks := tk' }) :
    wpAny (model prog w) (Ar dp fr gd un) (call (.ref 331) [.ref x, .str c tc]) Q E s := by
  have reg : (K, PySem.Challenge.rw_pb0258_01).1 = K := by (k_fill; rfl)
  clear reg
  have r1 := R.inst
  rcases kind_or ts i (Str.ofString "sign") with ⟨e0, e1⟩ | ⟨t, hq, e0, e1⟩
  · rw [e1] at hb
    subst hb
    walk_at "ENTER0"
    k_steps
    exact h _ _ (Fr.keep (by assumption))
  · rw [e1] at hb
    subst hb
    walk_at "ENTER0"
    k_steps
    exact h _ _ (Fr.keep (by assumption))

set_option maxHeartbeats 4000000 in
theorem is_word_f_SECTION (X : (K w.params).In h₀) (T : Top p loose mean mg mb h₀) (k₀ : Ext h₀ s.heap) (hd : dp + 6 < recursionLimit) (hu : un + 108 < cLine)
    (H : Has s.heap ((dx, rdD w t1 t2 t3 t4 l nd i) :: ld)) (R : Rd w ld x dx l nd vs ts) (hb : signAt ts i (Str.ofString "word") (Str.ofString "SECTION") = false)
    (h : ∀ h' tk', Ext s.heap h' → Q (.bool false) { s with heap := h', toks := tk' }) :
    wpAny (model prog w) (Ar dp fr gd un) (call (.ref 273) [.ref x, .str (Str.ofString "SECTION") tc]) Q E s := by
  have reg : (K, PySem.Challenge.rw_pb0258_01).1 = K := by (k_fill; rfl)
  clear reg
  have r1 := R.inst
  have z : Str.ofString "SECTION" = ⟨#[83, 69, 67, 84, 73, 79, 78]⟩ := by decide +kernel
  rw [z] at hb
  rcases kind_or ts i (Str.ofString "word") with ⟨e0, e1⟩ | ⟨t, hq, e0, e1⟩
  · clear hb
    walk_at "ENTER0"
    k_steps
    exact h _ _ (Fr.keep (by assumption))
  · rw [e1] at hb
    have hz := bne_of hb
    walk_at "ENTER0"
    k_steps
    exact h _ _ (Fr.keep (by assumption))

set_option maxHeartbeats 4000000 in
theorem is_word_f_END_PROGRAM (X : (K w.params).In h₀) (T : Top p loose mean mg mb h₀) (k₀ : Ext h₀ s.heap) (hd : dp + 6 < recursionLimit) (hu : un + 108 < cLine)
    (H : Has s.heap ((dx, rdD w t1 t2 t3 t4 l nd i) :: ld)) (R : Rd w ld x dx l nd vs ts) (hb : signAt ts i (Str.ofString "word") (Str.ofString "END") = false)
    (h : ∀ h' tk', Ext s.heap h' → Q (.bool false) { s with heap := h', toks := tk' }) :
    wpAny (model prog w) (Ar dp fr gd un) (call (.ref 273) [.ref x, .str (Str.ofString "END PROGRAM") tc]) Q E s := by
  have reg : (K, PySem.Challenge.rw_pb0258_01).1 = K := by (k_fill; rfl)
  clear reg
  have r1 := R.inst
  have z : Str.ofString "END" = ⟨#[69, 78, 68]⟩ := by decide +kernel
  rw [z] at hb
  rcases kind_or ts i (Str.ofString "word") with ⟨e0, e1⟩ | ⟨t, hq, e0, e1⟩
  · clear hb
    walk_at "ENTER0"
    k_steps
    exact h _ _ (Fr.keep (by assumption))
  · rw [e1] at hb
    have hz := bne_of hb
    walk_at "ENTER0"
    k_steps
    exact h _ _ (Fr.keep (by assumption))

set_option maxHeartbeats 4000000 in
theorem is_word_f_IDENTIFICATION_DIVISION (X : (K w.params).In h₀) (T : Top p loose mean mg mb h₀) (k₀ : Ext h₀ s.heap) (hd : dp + 6 < recursionLimit) (hu : un + 108 < cLine)
    (H : Has s.heap ((dx, rdD w t1 t2 t3 t4 l nd i) :: ld)) (R : Rd w ld x dx l nd vs ts) (hb : signAt ts i (Str.ofString "word") (Str.ofString "IDENTIFICATION") = false)
    (h : ∀ h' tk', Ext s.heap h' → Q (.bool false) { s with heap := h', toks := tk' }) :
    wpAny (model prog w) (Ar dp fr gd un) (call (.ref 273) [.ref x, .str (Str.ofString "IDENTIFICATION DIVISION") tc]) Q E s := by
  have reg : (K, PySem.Challenge.rw_pb0258_01).1 = K := by (k_fill; rfl)
  clear reg
  have r1 := R.inst
  have z : Str.ofString "IDENTIFICATION" = ⟨#[73, 68, 69, 78, 84, 73, 70, 73, 67, 65, 84, 73, 79, 78]⟩ := by decide +kernel
  rw [z] at hb
  rcases kind_or ts i (Str.ofString "word") with ⟨e0, e1⟩ | ⟨t, hq, e0, e1⟩
  · clear hb
    walk_at "ENTER0"
    k_steps
    exact h _ _ (Fr.keep (by assumption))
  · rw [e1] at hb
    have hz := bne_of hb
    walk_at "ENTER0"
    k_steps
    exact h _ _ (Fr.keep (by assumption))

set_option maxHeartbeats 4000000 in
theorem is_word_f_ID_DIVISION (X : (K w.params).In h₀) (T : Top p loose mean mg mb h₀) (k₀ : Ext h₀ s.heap) (hd : dp + 6 < recursionLimit) (hu : un + 108 < cLine)
    (H : Has s.heap ((dx, rdD w t1 t2 t3 t4 l nd i) :: ld)) (R : Rd w ld x dx l nd vs ts) (hb : signAt ts i (Str.ofString "word") (Str.ofString "ID") = false)
    (h : ∀ h' tk', Ext s.heap h' → Q (.bool false) { s with heap := h', toks := tk' }) :
    wpAny (model prog w) (Ar dp fr gd un) (call (.ref 273) [.ref x, .str (Str.ofString "ID DIVISION") tc]) Q E s := by
  have reg : (K, PySem.Challenge.rw_pb0258_01).1 = K := by (k_fill; rfl)
  clear reg
  have r1 := R.inst
  have z : Str.ofString "ID" = ⟨#[73, 68]⟩ := by decide +kernel
  rw [z] at hb
  rcases kind_or ts i (Str.ofString "word") with ⟨e0, e1⟩ | ⟨t, hq, e0, e1⟩
  · clear hb
    walk_at "ENTER0"
    k_steps
    exact h _ _ (Fr.keep (by assumption))
  · rw [e1] at hb
    have hz := bne_of hb
    walk_at "ENTER0"
    k_steps
    exact h _ _ (Fr.keep (by assumption))

set_option maxHeartbeats 4000000 in
theorem is_word_t_SECTION (X : (K w.params).In h₀) (T : Top p loose mean mg mb h₀) (k₀ : Ext h₀ s.heap) (hd : dp + 6 < recursionLimit) (hu : un + 108 < cLine)
    (H : Has s.heap ((dx, rdD w t1 t2 t3 t4 l nd i) :: ld)) (R : Rd w ld x dx l nd vs ts) (hb : signAt ts i (Str.ofString "word") (Str.ofString "SECTION") = true)
    (h : ∀ h' tk', Ext s.heap h' → Q (.bool true) { s with heap := h', toks := tk' }) :
    wpAny (model prog w) (Ar dp fr gd un) (call (.ref 273) [.ref x, .str (Str.ofString "SECTION") tc]) Q E s := by
  have reg : (K, PySem.Challenge.rw_pb0258_01).1 = K := by (k_fill; rfl)
  clear reg
  have r1 := R.inst
  have z : Str.ofString "SECTION" = ⟨#[83, 69, 67, 84, 73, 79, 78]⟩ := by decide +kernel
  rw [z] at hb
  rcases kind_or ts i (Str.ofString "word") with ⟨e0, e1⟩ | ⟨t, hq, e0, e1⟩
  · rw [e1] at hb
    exact Bool.noConfusion hb
  · rw [e1] at hb
    have hz := bne_of hb
    walk_at "ENTER0"
    k_steps
    exact h _ _ (Fr.keep (by assumption))

set_option maxHeartbeats 4000000 in
theorem is_word_t_CONTINUE (X : (K w.params).In h₀) (T : Top p loose mean mg mb h₀) (k₀ : Ext h₀ s.heap) (hd : dp + 6 < recursionLimit) (hu : un + 108 < cLine)
    (H : Has s.heap ((dx, rdD w t1 t2 t3 t4 l nd i) :: ld)) (R : Rd w ld x dx l nd vs ts) (hb : signAt ts i (Str.ofString "word") (Str.ofString "CONTINUE") = true)
    (h : ∀ h' tk', Ext s.heap h' → Q (.bool true) { s with heap := h', toks := tk' }) :
    wpAny (model prog w) (Ar dp fr gd un) (call (.ref 273) [.ref x, .str (Str.ofString "CONTINUE") tc]) Q E s := by
  have reg : (K, PySem.Challenge.rw_pb0258_01).1 = K := by (k_fill; rfl)
  clear reg
  have r1 := R.inst
  have z : Str.ofString "CONTINUE" = ⟨#[67, 79, 78, 84, 73, 78, 85, 69]⟩ := by decide +kernel
  rw [z] at hb
  rcases kind_or ts i (Str.ofString "word") with ⟨e0, e1⟩ | ⟨t, hq, e0, e1⟩
  · rw [e1] at hb
    exact Bool.noConfusion hb
  · rw [e1] at hb
    have hz := bne_of hb
    walk_at "ENTER0"
    k_steps
    exact h _ _ (Fr.keep (by assumption))
/-- the word is none of the reserved ones (of the text that the top keeps) -/
noncomputable def Free (w : World) (c : Str) : Prop := ∀ r t, nsIn (K w.params) mainGlobals (Str.ofString "RESERVED") = some (some (.str r t)) →
  (Builtin.Str.occurrences r (Str.ofString " " ++ c ++ Str.ofString " ") 0 r.length 1).isEmpty = true

set_option maxHeartbeats 4000000 in
theorem is_reserved_c (X : (K w.params).In h₀) (T : Top p loose mean mg mb h₀) (k₀ : Ext h₀ s.heap) (hd : dp + 6 < recursionLimit) (hu : un + 108 < cLine) (hc : c.length ≤ 100) (hF : Free w c)
    (h : ∀ h' tk', Ext s.heap h' → Q (.bool false) { s with heap := h', toks := tk' }) :
    wpAny (model prog w) (Ar dp fr gd un) (call (.ref 214) [.str c tc]) Q E s := by
  have reg : (K, PySem.Challenge.rw_pb0258_01).1 = K := by (k_fill; rfl)
  clear reg
  have e := hF _ _ (by k_is)
  walk_at "ENTER0"
  k_steps
  rw [e]
  exact h _ _ (Fr.keep (by assumption))

set_option maxHeartbeats 4000000 in
theorem is_reserved_any (X : (K w.params).In h₀) (T : Top p loose mean mg mb h₀) (k₀ : Ext h₀ s.heap) (hd : dp + 6 < recursionLimit) (hu : un + 108 < cLine) (hc : c.length ≤ 100)
    (h : ∀ b h' tk', Ext s.heap h' → Q (.bool b) { s with heap := h', toks := tk' }) :
    wpAny (model prog w) (Ar dp fr gd un) (call (.ref 214) [.str c tc]) Q E s := by
  have reg : (K, PySem.Challenge.rw_pb0258_01).1 = K := by (k_fill; rfl)
  clear reg
  walk_at "ENTER0"
  k_steps
  exact h _ _ _ (Fr.keep (by assumption))
end
theorem words_04m : True := by
  k_with "call ref" => (k_here; (try dsimp only [List.nil_append, List.cons_append]); (with_reducible show wpAny _ _ (call (Value.ref 331) [_, _]) _ _ _); k_dflt (refine' is_sign_c ?zzk1 ?zzk2 ?zzk3 ?zzk4 ?zzku ?zzk5 ?zzk6 ?zzkb ?_; (case zzk3 => exact Fr.keep (by k_asm)); (case zzk1 => assumption); (case zzk2 => assumption); (case zzk4 => k_room); (case zzku => k_units); (case zzk5 => walk_at "HAS"); (case zzk6 => assumption); (case zzkb => first | assumption | exact rfl); k_whole; intro _ _ _; walk_at "KEPT"))
  k_with "WORDS" => ((case zzk3 => exact Fr.keep (by k_asm)); (case zzk1 => assumption); (case zzk2 => assumption); (case zzk4 => k_room); (case zzku => k_units); (case zzk5 => walk_at "HAS"); (case zzk6 => assumption); (case zzkb => assumption); k_whole; intro _ _ _; walk_at "KEPT")
  k_with "call ref" => (k_here; (try dsimp only [List.nil_append, List.cons_append]); (with_reducible show wpAny _ _ (call (Value.ref 273) [_, _]) _ _ _); k_dflt (first
  | (refine' is_word_f_SECTION ?zzk1 ?zzk2 ?zzk3 ?zzk4 ?zzku ?zzk5 ?zzk6 ?zzkb ?_; walk_at "WORDS")
  | (refine' is_word_f_END_PROGRAM ?zzk1 ?zzk2 ?zzk3 ?zzk4 ?zzku ?zzk5 ?zzk6 ?zzkb ?_; walk_at "WORDS")
  | (refine' is_word_f_IDENTIFICATION_DIVISION ?zzk1 ?zzk2 ?zzk3 ?zzk4 ?zzku ?zzk5 ?zzk6 ?zzkb ?_; walk_at "WORDS")
  | (refine' is_word_f_ID_DIVISION ?zzk1 ?zzk2 ?zzk3 ?zzk4 ?zzku ?zzk5 ?zzk6 ?zzkb ?_; walk_at "WORDS")
  | (refine' is_word_t_SECTION ?zzk1 ?zzk2 ?zzk3 ?zzk4 ?zzku ?zzk5 ?zzk6 ?zzkb ?_; walk_at "WORDS")
  | (refine' is_word_t_CONTINUE ?zzk1 ?zzk2 ?zzk3 ?zzk4 ?zzku ?zzk5 ?zzk6 ?zzkb ?_; walk_at "WORDS")))
  k_with "call ref" => (k_here; (try dsimp only [List.nil_append, List.cons_append]); (with_reducible show wpAny _ _ (call (Value.ref 214) [_]) _ _ _); k_dflt (first
  | (refine' is_reserved_c ?zzk1 ?zzk2 ?zzk3 ?zzk4 ?zzku ?zzk5 ?zzk6 ?_; (case zzk3 => exact Fr.keep (by k_asm)); (case zzk1 => assumption); (case zzk2 => assumption); (case zzk4 => k_room); (case zzku => k_units); (case zzk5 => assumption); (case zzk6 => assumption); k_whole; intro _ _ _; walk_at "KEPT")
  | (refine' is_reserved_any ?zzk1 ?zzk2 ?zzk3 ?zzk4 ?zzku ?zzk5 ?_; (case zzk3 => exact Fr.keep (by k_asm)); (case zzk1 => assumption); (case zzk2 => assumption); (case zzk4 => k_room); (case zzku => k_units); (case zzk5 => assumption); k_whole; intro _ _ _ _; walk_at "KEPT")))
  exact True.intro
section
variable {prog : Program} {w : World} {dp un : Nat} {fr : Option (List Env)} {gd : Option (List Code)} {s : Shared} {h₀ : Heap} {p : Program} {loose : List Str} {mean : ExcName → Option Value} {mg mb : Str → Option Value}
variable {Q E : Value → Shared → Prop} {x dx l nd : Addr} {t1 t2 t3 t4 tk tc : Tok} {i k : Nat} {kk : Int} {vs : List Value} {ld : Led} {ts : List Tk} {t : Tk} {c : Str}
set_option maxHeartbeats 4000000 in
theorem is_name_t (X : (K w.params).In h₀) (T : Top p loose mean mg mb h₀) (k₀ : Ext h₀ s.heap) (hd : dp + 8 < recursionLimit) (hu : un + 124 < cLine)
    (H : Has s.heap ((dx, rdD w t1 t2 t3 t4 l nd i) :: ld)) (R : Rd w ld x dx l nd vs ts) (hq : ts[i]? = some t) (hk : (t.kind == Str.ofString "word") = true) (hc : t.worth.length ≤ 100) (hF : Free w t.worth)
    (h : ∀ h' tk', Ext s.heap h' → Q (.bool true) { s with heap := h', toks := tk' }) :
    wpAny (model prog w) (Ar dp fr gd un) (call (.ref 309) [.ref x]) Q E s := by
  have reg : (K, PySem.Challenge.rw_pb0258_01).1 = K := by (k_fill; rfl)
  clear reg
  have r1 := R.inst
  have hq0 : ts[i + 0]? = some t := hq
  have e0 : kindAt ts (i + 0) (Str.ofString "word") = true := by simp only [kindAt, Nat.add_zero, hq, hk]
  walk_at "ENTER0"
  k_steps
  exact h _ _ (Fr.keep (by assumption))

set_option maxHeartbeats 4000000 in
theorem is_name_any (X : (K w.params).In h₀) (T : Top p loose mean mg mb h₀) (k₀ : Ext h₀ s.heap) (hd : dp + 8 < recursionLimit) (hu : un + 124 < cLine)
    (H : Has s.heap ((dx, rdD w t1 t2 t3 t4 l nd i) :: ld)) (R : Rd w ld x dx l nd vs ts) (hq : ts[i]? = some t) (hk : (t.kind == Str.ofString "word") = true) (hc : t.worth.length ≤ 100)
    (h : ∀ b h' tk', Ext s.heap h' → Q (.bool b) { s with heap := h', toks := tk' }) :
    wpAny (model prog w) (Ar dp fr gd un) (call (.ref 309) [.ref x]) Q E s := by
  have reg : (K, PySem.Challenge.rw_pb0258_01).1 = K := by (k_fill; rfl)
  clear reg
  have r1 := R.inst
  have hq0 : ts[i + 0]? = some t := hq
  have e0 : kindAt ts (i + 0) (Str.ofString "word") = true := by simp only [kindAt, Nat.add_zero, hq, hk]
  walk_at "ENTER0"
  k_steps
  exact h _ _ _ (Fr.keep (by assumption))

set_option maxHeartbeats 4000000 in
theorem is_verb_here_f (X : (K w.params).In h₀) (T : Top p loose mean mg mb h₀) (k₀ : Ext h₀ s.heap) (hd : dp + 8 < recursionLimit) (hu : un + 124 < cLine)
    (H : Has s.heap ((dx, rdD w t1 t2 t3 t4 l nd i) :: ld)) (R : Rd w ld x dx l nd vs ts) (hk : kindAt ts i (Str.ofString "word") = false)
    (h : ∀ h' tk', Ext s.heap h' → Q (.bool false) { s with heap := h', toks := tk' }) :
    wpAny (model prog w) (Ar dp fr gd un) (call (.ref 64) [.ref x]) Q E s := by
  have reg : (K, PySem.Challenge.rw_pb0258_01).1 = K := by (k_fill; rfl)
  clear reg
  have r1 := R.inst
  walk_at "ENTER0"
  k_steps
  exact h _ _ (Fr.keep (by assumption))

set_option maxHeartbeats 4000000 in
theorem is_verb_here_t (X : (K w.params).In h₀) (T : Top p loose mean mg mb h₀) (k₀ : Ext h₀ s.heap) (hd : dp + 8 < recursionLimit) (hu : un + 124 < cLine)
    (H : Has s.heap ((dx, rdD w t1 t2 t3 t4 l nd i) :: ld)) (R : Rd w ld x dx l nd vs ts) (hq : ts[i]? = some ⟨Str.ofString "word", Str.ofString "CONTINUE", false⟩)
    (h : ∀ h' tk', Ext s.heap h' → Q (.bool true) { s with heap := h', toks := tk' }) :
    wpAny (model prog w) (Ar dp fr gd un) (call (.ref 64) [.ref x]) Q E s := by
  have reg : (K, PySem.Challenge.rw_pb0258_01).1 = K := by (k_fill; rfl)
  clear reg
  have r1 := R.inst
  have hk : kindAt ts i (Str.ofString "word") = true := by simp only [kindAt, hq]; decide +kernel
  walk_at "ENTER0"
  k_steps
  k_dflt (refine' in_tuple_K ?k1 ?k2 ?k3 ?k4 ?_; (case k1 => k_asm); (case k2 => k_asm); (case k3 => k_is); (case k4 => (repeat constructor)))
  k_steps
  exact h _ _ (Fr.keep (by assumption))

set_option maxHeartbeats 4000000 in
theorem is_end_t (X : (K w.params).In h₀) (T : Top p loose mean mg mb h₀) (k₀ : Ext h₀ s.heap) (hd : dp + 10 < recursionLimit) (hu : un + 140 < cLine)
    (H : Has s.heap ((dx, rdD w t1 t2 t3 t4 l nd i) :: ld)) (R : Rd w ld x dx l nd vs ts) (hn : ts.length ≤ i)
    (h : ∀ h' tk', Ext s.heap h' → Q (.bool true) { s with heap := h', toks := tk' }) :
    wpAny (model prog w) (Ar dp fr gd un) (call (.ref 92) [.ref x]) Q E s := by
  have reg : (K, PySem.Challenge.rw_pb0258_01).1 = K := by (k_fill; rfl)
  clear reg
  have r1 := R.inst
  have hb : decide (ts.length ≤ i) = true := decide_eq_true hn
  walk_at "ENTER0"
  k_steps
  exact h _ _ (Fr.keep (by assumption))

set_option maxHeartbeats 4000000 in
theorem is_end_f (X : (K w.params).In h₀) (T : Top p loose mean mg mb h₀) (k₀ : Ext h₀ s.heap) (hd : dp + 10 < recursionLimit) (hu : un + 140 < cLine)
    (H : Has s.heap ((dx, rdD w t1 t2 t3 t4 l nd i) :: ld)) (R : Rd w ld x dx l nd vs ts) (hn : i < ts.length) (hb1 : signAt ts i (Str.ofString "word") (Str.ofString "END") = false) (hb2 : signAt ts i (Str.ofString "word") (Str.ofString "IDENTIFICATION") = false) (hb3 : signAt ts i (Str.ofString "word") (Str.ofString "ID") = false)
    (h : ∀ h' tk', Ext s.heap h' → Q (.bool false) { s with heap := h', toks := tk' }) :
    wpAny (model prog w) (Ar dp fr gd un) (call (.ref 92) [.ref x]) Q E s := by
  have reg : (K, PySem.Challenge.rw_pb0258_01).1 = K := by (k_fill; rfl)
  clear reg
  have r1 := R.inst
  have hb : decide (ts.length ≤ i) = false := decide_eq_false (Nat.not_le.mpr hn)
  walk_at "ENTER0"
  k_steps
  exact h _ _ (Fr.keep (by assumption))

end
theorem words_05m : True := by
  k_with "call ref" => (k_here; (try dsimp only [List.nil_append, List.cons_append]); (with_reducible show wpAny _ _ (call (Value.ref 309) [_]) _ _ _); k_dflt (first
  | (refine' is_name_t ?zzk1 ?zzk2 ?zzk3 ?zzk4 ?zzku ?zzk5 ?zzk6 ?zzk7 ?zzk8 ?zzk9 ?zzk10 ?_; (case zzk3 => exact Fr.keep (by k_asm)); (case zzk1 => assumption); (case zzk2 => assumption); (case zzk4 => k_room); (case zzku => k_units); (case zzk5 => walk_at "HAS"); (case zzk6 => assumption); (case zzk7 => assumption); (case zzk8 => assumption); (case zzk9 => assumption); (case zzk10 => assumption); k_whole; intro _ _ _; walk_at "KEPT")
  | (refine' is_name_any ?zzk1 ?zzk2 ?zzk3 ?zzk4 ?zzku ?zzk5 ?zzk6 ?zzk7 ?zzk8 ?zzk9 ?_; (case zzk3 => exact Fr.keep (by k_asm)); (case zzk1 => assumption); (case zzk2 => assumption); (case zzk4 => k_room); (case zzku => k_units); (case zzk5 => walk_at "HAS"); (case zzk6 => assumption); (case zzk7 => assumption); (case zzk8 => assumption); (case zzk9 => assumption); k_whole; intro _ _ _ _; walk_at "KEPT")))
  exact True.intro
section
variable {prog : Program} {w : World} {dp un : Nat} {fr : Option (List Env)} {gd : Option (List Code)} {s : Shared} {h₀ : Heap} {p : Program} {loose : List Str} {mean : ExcName → Option Value} {mg mb : Str → Option Value}
variable {Q E : Value → Shared → Prop} {x dx l nd a da : Addr} {t1 t2 t3 t4 tk tc t1' t2' t3' t4' u1 u2 : Tok} {va : Value} {i k : Nat} {kk : Int} {vs : List Value} {ld : Led} {ts : List Tk} {t : Tk} {c : Str}
set_option maxHeartbeats 4000000 in
theorem told_c (X : (K w.params).In h₀) (T : Top p loose mean mg mb h₀) (k₀ : Ext h₀ s.heap) (hd : dp + 2 < recursionLimit)
    (H : Has s.heap ld) (m1 : (a, instObj 413 da) ∈ ld) (m2 : (da, tkD w t1' t2' t3' t4' u1 u2 va t) ∈ ld)
    (h : ∀ q n h' tk', Ext s.heap h' → s.heap.get? q = none → h'.get? q = some (tupO [.str t.kind u1, .str t.worth u2] n) → Q (.ref q) { s with heap := h', toks := tk' }) :
    wpAny (model prog w) (Ar dp fr gd un) (call (.ref 410) [.ref a]) Q E s := by
  have reg : (K, PySem.Challenge.rw_pb0258_01).1 = K := by (k_fill; rfl)
  clear reg
  walk_at "ENTER0"
  k_steps
  (rename News _ _ _ _ => N9)
  exact h _ _ _ _ (Fr.keep (by assumption)) (N9 _ (List.Mem.head _)).2.2 (N9 _ (List.Mem.head _)).1

set_option maxHeartbeats 4000000 in
theorem is_head_f (X : (K w.params).In h₀) (T : Top p loose mean mg mb h₀) (k₀ : Ext h₀ s.heap) (hd : dp + 10 < recursionLimit) (hu : un + 140 < cLine)
    (H : Has s.heap ((dx, rdD w t1 t2 t3 t4 l nd i) :: ld)) (R : Rd w ld x dx l nd vs ts) (hq : ts[i]? = some t) (hk : (t.kind == Str.ofString "word") = true) (hc : t.worth.length ≤ 100) (ha : t.ina = false)
    (h : ∀ h' tk', Ext s.heap h' → Q (.bool false) { s with heap := h', toks := tk' }) :
    wpAny (model prog w) (Ar dp fr gd un) (call (.ref 85) [.ref x]) Q E s := by
  have reg : (K, PySem.Challenge.rw_pb0258_01).1 = K := by (k_fill; rfl)
  clear reg
  have r1 := R.inst
  walk_at "ENTER0"
  k_steps
  all_goals exact h _ _ (Fr.keep (by assumption))

end
theorem words_06m : True := by
  k_with "call ref" => (k_here; (try dsimp only [List.nil_append, List.cons_append]); (with_reducible show wpAny _ _ (call (Value.ref 410) [_]) _ _ _); k_dflt (refine' told_c ?zzk1 ?zzk2 ?zzk3 ?zzk4 ?zzk5 ?zzk6 ?zzk7 ?_; (case zzk3 => exact Fr.keep (by k_asm)); (case zzk1 => assumption); (case zzk2 => assumption); (case zzk4 => k_room); (case zzk5 => exact Has.ext (by assumption) (Fr.keep (by k_asm))); (case zzk6 => k_mem); (case zzk7 => k_mem); k_whole; intro _ _ _ _ hE' hf' hq'; (have N' := news_add (by k_asm) (by k_asm) hE' (Has.cons hq' Has.nil) (List.forall_mem_cons.mpr ⟨hf', fun _ h => nomatch h⟩)); (have _ := Fr.keeps (by k_asm) hE'); (dsimp only [List.nil_append, List.cons_append] at N'); (revert N'; intro _); (try k_sweep)))
  exact True.intro
section
variable {prog : Program} {w : World} {dp un : Nat} {fr : Option (List Env)} {gd : Option (List Code)} {s : Shared} {h₀ : Heap} {p : Program} {loose : List Str} {mean : ExcName → Option Value} {mg mb : Str → Option Value}
variable {Q E : Value → Shared → Prop} {x dx l nd a da : Addr} {t1 t2 t3 t4 tk tc t1' t2' t3' t4' u1 u2 : Tok} {va : Value} {i k : Nat} {kk : Int} {vs : List Value} {ld : Led} {ts : List Tk} {t : Tk} {c : Str}
set_option maxHeartbeats 4000000 in
theorem is_head_t (X : (K w.params).In h₀) (T : Top p loose mean mg mb h₀) (k₀ : Ext h₀ s.heap) (hd : dp + 12 < recursionLimit) (hu : un + 156 < cLine)
    (H : Has s.heap ((dx, rdD w t1 t2 t3 t4 l nd i) :: ld)) (R : Rd w ld x dx l nd vs ts) (hq : ts[i]? = some t) (hk : (t.kind == Str.ofString "word") = true) (hc : t.worth.length ≤ 100) (hF : Free w t.worth) (ha : t.ina = true) {t9 : Tk} (hq1 : ts[i + 1]? = some t9) (hk1 : (t9.kind == Str.ofString "sign" && t9.worth == Str.ofString "." || t9.kind == Str.ofString "word" && t9.worth == Str.ofString "SECTION") = true)
    (h : ∀ h' tk', Ext s.heap h' → Q (.bool true) { s with heap := h', toks := tk' }) :
    wpAny (model prog w) (Ar dp fr gd un) (call (.ref 85) [.ref x]) Q E s := by
  have reg : (K, PySem.Challenge.rw_pb0258_01).1 = K := by (k_fill; rfl)
  clear reg
  have r1 := R.inst
  have hs : PyData.strOk t9.kind = true ∧ PyData.strOk t9.worth = true := by
    have hk2 := hk1
    simp only [Bool.or_eq_true, Bool.and_eq_true, beq_iff_eq] at hk2
    rcases hk2 with h1 | h1
    · rw [h1.1, h1.2]; decide +kernel
    · rw [h1.1, h1.2]; decide +kernel
  walk_at "ENTER0"
  k_steps
  have ev : ([PyData.tuple [.str (Str.ofString "sign"), .str (Str.ofString ".")], .tuple [.str (Str.ofString "word"), .str (Str.ofString "SECTION")]].any fun y => PyData.eqv y (.tuple [.str t9.kind, .str t9.worth])) = true := by
    simp [PyData.eqv, PyData.eqvAll] at hk1 ⊢
    rcases hk1 with h1 | h1
    · exact .inl ⟨h1.1.symm, h1.2.symm⟩
    · exact .inr ⟨h1.1.symm, h1.2.symm⟩
  refine in_tup (xs := [PyData.tuple [.str (Str.ofString "sign"), .str (Str.ofString ".")], .tuple [.str (Str.ofString "word"), .str (Str.ofString "SECTION")]]) (d := .tuple [.str t9.kind, .str t9.worth])  ?rc ?rx (by decide +kernel) (by simp [PyData.canLay0, PyData.canLayAll0, hs.1, hs.2]) ?ru ?rq
  case rc => walk_at "READS"
  case rx => walk_at "READS"
  case ru =>
    have hdep : min (PyData.depthAll [PyData.tuple [.str (Str.ofString "sign"), .str (Str.ofString ".")], .tuple [.str (Str.ofString "word"), .str (Str.ofString "SECTION")]]) (PyData.tuple [.str t9.kind, .str t9.worth]).depth ≤ 10 := Nat.le_trans (Nat.min_le_left _ _) (by simp [PyData.depthAll, PyData.depth])
    (try simp only [units_deeper]); (try dsimp only [Ar]); omega
  case rq =>
    rw [ev]
    exact h _ _ (Fr.keep (by assumption))
end
section
variable {prog : Program} {w : World} {dp un : Nat} {fr : Option (List Env)} {gd : Option (List Code)} {s : Shared} {h₀ : Heap} {p : Program} {loose : List Str} {mean : ExcName → Option Value} {mg mb : Str → Option Value}
variable {Q E : Value → Shared → Prop} {x dx l nd a da : Addr} {t1 t2 t3 t4 tk tc t1' t2' t3' t4' u1 u2 : Tok} {va : Value} {i k : Nat} {kk : Int} {vs : List Value} {ld : Led} {ts : List Tk} {t : Tk} {c : Str}
set_option maxHeartbeats 4000000 in
theorem take_c (X : (K w.params).In h₀) (T : Top p loose mean mg mb h₀) (k₀ : Ext h₀ s.heap) (hd : dp + 4 < recursionLimit) (hu : un + 92 < cLine)
    (H : Has s.heap ((dx, rdD w t1 t2 t3 t4 l nd i) :: ld)) (R : Rd w ld x dx l nd vs ts) (hn : ∀ q ∈ ld, q.1 ≠ dx) (hf : h₀.get? dx = none) (hq : ts[i]? = some t)
    (h : ∀ v t3' h' tk', TokIn w ld v t → ExtB [dx] s.heap h' → h'.get? dx = some (rdD w t1 t2 t3' t4 l nd ((i + 1 : Nat) : Int)) → Q v { s with heap := h', toks := tk' }) :
    wpAny (model prog w) (Ar dp fr gd un) (call (.ref 258) [.ref x]) Q E s := by
  have reg : (K, PySem.Challenge.rw_pb0258_01).1 = K := by (k_fill; rfl)
  clear reg
  have r1 := R.inst
  have hW := has_one H
  have hN := none_one (o := rdD w t1 t2 t3 t4 l nd i) hf
  walk_at "ENTERW"
  k_steps
  (rename News _ _ _ _ => N9)
  exact h _ _ _ _ ⟨_, _, _, _, _, _, _, _, _, rfl, by assumption, by assumption⟩ (extB_one (by assumption) (by assumption)) (N9 _ (List.Mem.head _)).1

end
theorem words_08m : True := by
  k_with "TURNED" => ((rename ExtB _ _ _ => hB9); (rename (Heap.get? _ _ = some (rdD _ _ _ _ _ _ _ _)) => hd9); (have _ := fr_one (by k_asm) (by k_asm) (by k_mem) hB9); (have _ := news_one (by k_asm) (by k_upd) hB9 hd9); (clear hB9 hd9); (try k_sweep))
  k_with "call ref" => (k_here; (try dsimp only [List.nil_append, List.cons_append]); (with_reducible show wpAny _ _ (call (Value.ref 258) [_]) _ _ _); k_dflt (refine' take_c ?zzk1 ?zzk2 ?zzk3 ?zzk4 ?zzku ?zzk5 ?zzk6 ?zzkn ?zzkf ?zzkq ?_; (case zzk3 => exact Fr.keep (by k_asm)); (case zzk1 => assumption); (case zzk2 => assumption); (case zzk4 => k_room); (case zzku => k_units); (case zzk5 => walk_at "HAS"); (case zzk6 => assumption); (case zzkn => assumption); (case zzkf => exact News.fresh (by k_asm) (by k_mem)); (case zzkq => assumption); k_whole; intro _ t3' _ _ hT' _ _; (obtain ⟨_, _, _, _, _, _, _, _, _, rfl, _, _⟩ := hT'); walk_at "TURNED"))
  exact True.intro
section
variable {prog : Program} {w : World} {dp un : Nat} {fr : Option (List Env)} {gd : Option (List Code)} {s : Shared} {h₀ : Heap} {p : Program} {loose : List Str} {mean : ExcName → Option Value} {mg mb : Str → Option Value}
variable {Q E : Value → Shared → Prop} {x dx l nd a da : Addr} {t1 t2 t3 t4 tk tc t1' t2' t3' t4' u1 u2 : Tok} {va : Value} {i k : Nat} {kk : Int} {vs : List Value} {ld : Led} {ts : List Tk} {t : Tk} {c : Str}
set_option maxHeartbeats 4000000 in
theorem name_c (X : (K w.params).In h₀) (T : Top p loose mean mg mb h₀) (k₀ : Ext h₀ s.heap) (hd : dp + 12 < recursionLimit) (hu : un + 156 < cLine)
    (H : Has s.heap ((dx, rdD w t1 t2 t3 t4 l nd i) :: ld)) (R : Rd w ld x dx l nd vs ts) (hn : ∀ q ∈ ld, q.1 ≠ dx) (hf : h₀.get? dx = none) (hq : ts[i]? = some t) (hk : (t.kind == Str.ofString "word") = true) (hc : t.worth.length ≤ 100) (hF : Free w t.worth)
    (h : ∀ u t3' h' tk', ExtB [dx] s.heap h' → h'.get? dx = some (rdD w t1 t2 t3' t4 l nd ((i + 1 : Nat) : Int)) → Q (.str t.worth u) { s with heap := h', toks := tk' }) :
    wpAny (model prog w) (Ar dp fr gd un) (call (.ref 316) [.ref x]) Q E s := by
  have reg : (K, PySem.Challenge.rw_pb0258_01).1 = K := by (k_fill; rfl)
  clear reg
  have r1 := R.inst
  have hW := has_one H
  have hN := none_one (o := rdD w t1 t2 t3 t4 l nd i) hf
  walk_at "ENTERW"
  k_steps
  (rename News _ _ _ _ => N9)
  exact h _ _ _ _ (extB_one (by assumption) (by assumption)) (N9.get (by k_mem))

set_option maxHeartbeats 4000000 in
theorem skip_SECTION_t (X : (K w.params).In h₀) (T : Top p loose mean mg mb h₀) (k₀ : Ext h₀ s.heap) (hd : dp + 10 < recursionLimit) (hu : un + 140 < cLine)
    (H : Has s.heap ((dx, rdD w t1 t2 t3 t4 l nd i) :: ld)) (R : Rd w ld x dx l nd vs ts) (hn : ∀ q ∈ ld, q.1 ≠ dx) (hf : h₀.get? dx = none) (hb : signAt ts i (Str.ofString "word") (Str.ofString "SECTION") = true)
    (h : ∀ t3' h' tk', ExtB [dx] s.heap h' → h'.get? dx = some (rdD w t1 t2 t3' t4 l nd ((i + 1 : Nat) : Int)) → Q (.bool true) { s with heap := h', toks := tk' }) :
    wpAny (model prog w) (Ar dp fr gd un) (call (.ref 280) [.ref x, .str (Str.ofString "SECTION") tc]) Q E s := by
  have reg : (K, PySem.Challenge.rw_pb0258_01).1 = K := by (k_fill; rfl)
  clear reg
  have r1 := R.inst
  have hW := has_one H
  have hN := none_one (o := rdD w t1 t2 t3 t4 l nd i) hf
  walk_at "ENTERW"
  k_steps
  (rename News _ _ _ _ => N9)
  exact h _ _ _ (extB_one (by assumption) (by assumption)) (N9.get (by k_mem))

set_option maxHeartbeats 4000000 in
theorem skip_CONTINUE_t (X : (K w.params).In h₀) (T : Top p loose mean mg mb h₀) (k₀ : Ext h₀ s.heap) (hd : dp + 10 < recursionLimit) (hu : un + 140 < cLine)
    (H : Has s.heap ((dx, rdD w t1 t2 t3 t4 l nd i) :: ld)) (R : Rd w ld x dx l nd vs ts) (hn : ∀ q ∈ ld, q.1 ≠ dx) (hf : h₀.get? dx = none) (hb : signAt ts i (Str.ofString "word") (Str.ofString "CONTINUE") = true)
    (h : ∀ t3' h' tk', ExtB [dx] s.heap h' → h'.get? dx = some (rdD w t1 t2 t3' t4 l nd ((i + 1 : Nat) : Int)) → Q (.bool true) { s with heap := h', toks := tk' }) :
    wpAny (model prog w) (Ar dp fr gd un) (call (.ref 280) [.ref x, .str (Str.ofString "CONTINUE") tc]) Q E s := by
  have reg : (K, PySem.Challenge.rw_pb0258_01).1 = K := by (k_fill; rfl)
  clear reg
  have r1 := R.inst
  have hW := has_one H
  have hN := none_one (o := rdD w t1 t2 t3 t4 l nd i) hf
  walk_at "ENTERW"
  k_steps
  (rename News _ _ _ _ => N9)
  exact h _ _ _ (extB_one (by assumption) (by assumption)) (N9.get (by k_mem))

set_option maxHeartbeats 4000000 in
theorem skip_SECTION_f (X : (K w.params).In h₀) (T : Top p loose mean mg mb h₀) (k₀ : Ext h₀ s.heap) (hd : dp + 10 < recursionLimit) (hu : un + 140 < cLine)
    (H : Has s.heap ((dx, rdD w t1 t2 t3 t4 l nd i) :: ld)) (R : Rd w ld x dx l nd vs ts) (hb : signAt ts i (Str.ofString "word") (Str.ofString "SECTION") = false)
    (h : ∀ h' tk', Ext s.heap h' → Q (.bool false) { s with heap := h', toks := tk' }) :
    wpAny (model prog w) (Ar dp fr gd un) (call (.ref 280) [.ref x, .str (Str.ofString "SECTION") tc]) Q E s := by
  have reg : (K, PySem.Challenge.rw_pb0258_01).1 = K := by (k_fill; rfl)
  clear reg
  have r1 := R.inst
  walk_at "ENTER0"
  k_steps
  exact h _ _ (Fr.keep (by assumption))

set_option maxHeartbeats 4000000 in
theorem skip_sign_t (X : (K w.params).In h₀) (T : Top p loose mean mg mb h₀) (k₀ : Ext h₀ s.heap) (hd : dp + 10 < recursionLimit) (hu : un + 140 < cLine)
    (H : Has s.heap ((dx, rdD w t1 t2 t3 t4 l nd i) :: ld)) (R : Rd w ld x dx l nd vs ts) (hn : ∀ q ∈ ld, q.1 ≠ dx) (hf : h₀.get? dx = none) (hb : signAt ts i (Str.ofString "sign") c = true)
    (h : ∀ t3' h' tk', ExtB [dx] s.heap h' → h'.get? dx = some (rdD w t1 t2 t3' t4 l nd ((i + 1 : Nat) : Int)) → Q (.bool true) { s with heap := h', toks := tk' }) :
    wpAny (model prog w) (Ar dp fr gd un) (call (.ref 338) [.ref x, .str c tc]) Q E s := by
  have reg : (K, PySem.Challenge.rw_pb0258_01).1 = K := by (k_fill; rfl)
  clear reg
  have r1 := R.inst
  have hW := has_one H
  have hN := none_one (o := rdD w t1 t2 t3 t4 l nd i) hf
  walk_at "ENTERW"
  k_steps
  (rename News _ _ _ _ => N9)
  exact h _ _ _ (extB_one (by assumption) (by assumption)) (N9.get (by k_mem))

end
theorem words_09m : True := by
  k_with "call ref" => (k_here; (try dsimp only [List.nil_append, List.cons_append]); (with_reducible show wpAny _ _ (call (Value.ref 316) [_]) _ _ _); k_dflt (first | (refine' name_c ?zzk1 ?zzk2 ?zzk3 ?zzk4 ?zzku ?zzk5 ?zzk6 ?zzkn ?zzkf ?zzkq ?zzkk ?zzkc ?zzkF ?_; (case zzk3 => exact Fr.keep (by k_asm)); (case zzk1 => assumption); (case zzk2 => assumption); (case zzk4 => k_room); (case zzku => k_units); (case zzk5 => walk_at "HAS"); (case zzk6 => assumption); (case zzkn => assumption); (case zzkf => exact News.fresh (by k_asm) (by k_mem)); (case zzkq => assumption); (case zzkk => assumption); (case zzkc => assumption); (case zzkF => assumption); k_whole; intro _ _ _ _ _ _; walk_at "TURNED")))
  k_with "call ref" => (k_here; (try dsimp only [List.nil_append, List.cons_append]); (with_reducible show wpAny _ _ (call (Value.ref 280) [_, _]) _ _ _); k_dflt (first | (refine' skip_SECTION_t ?zzk1 ?zzk2 ?zzk3 ?zzk4 ?zzku ?zzk5 ?zzk6 ?zzkn ?zzkf ?zzkb ?_; (case zzk3 => exact Fr.keep (by k_asm)); (case zzk1 => assumption); (case zzk2 => assumption); (case zzk4 => k_room); (case zzku => k_units); (case zzk5 => walk_at "HAS"); (case zzk6 => assumption); (case zzkn => assumption); (case zzkf => exact News.fresh (by k_asm) (by k_mem)); (case zzkb => assumption); k_whole; intro _ _ _ _ _; walk_at "TURNED") | (refine' skip_CONTINUE_t ?zzk1 ?zzk2 ?zzk3 ?zzk4 ?zzku ?zzk5 ?zzk6 ?zzkn ?zzkf ?zzkb ?_; (case zzk3 => exact Fr.keep (by k_asm)); (case zzk1 => assumption); (case zzk2 => assumption); (case zzk4 => k_room); (case zzku => k_units); (case zzk5 => walk_at "HAS"); (case zzk6 => assumption); (case zzkn => assumption); (case zzkf => exact News.fresh (by k_asm) (by k_mem)); (case zzkb => assumption); k_whole; intro _ _ _ _ _; walk_at "TURNED") | (refine' skip_SECTION_f ?zzk1 ?zzk2 ?zzk3 ?zzk4 ?zzku ?zzk5 ?zzk6 ?zzkb ?_; (case zzk3 => exact Fr.keep (by k_asm)); (case zzk1 => assumption); (case zzk2 => assumption); (case zzk4 => k_room); (case zzku => k_units); (case zzk5 => walk_at "HAS"); (case zzk6 => assumption); (case zzkb => assumption); k_whole; intro _ _ _; walk_at "KEPT")))
  k_with "call ref" => (k_here; (try dsimp only [List.nil_append, List.cons_append]); (with_reducible show wpAny _ _ (call (Value.ref 338) [_, _]) _ _ _); k_dflt (first | (refine' skip_sign_t ?zzk1 ?zzk2 ?zzk3 ?zzk4 ?zzku ?zzk5 ?zzk6 ?zzkn ?zzkf ?zzkb ?_; (case zzk3 => exact Fr.keep (by k_asm)); (case zzk1 => assumption); (case zzk2 => assumption); (case zzk4 => k_room); (case zzku => k_units); (case zzk5 => walk_at "HAS"); (case zzk6 => assumption); (case zzkn => assumption); (case zzkf => exact News.fresh (by k_asm) (by k_mem)); (case zzkb => assumption); k_whole; intro _ _ _ _ _; walk_at "TURNED")))
  exact True.intro
section
variable {prog : Program} {w : World} {dp un : Nat} {fr : Option (List Env)} {gd : Option (List Code)} {s : Shared} {h₀ : Heap} {p : Program} {loose : List Str} {mean : ExcName → Option Value} {mg mb : Str → Option Value}
variable {Q E : Value → Shared → Prop} {x dx l nd a da : Addr} {t1 t2 t3 t4 tk tc t1' t2' t3' t4' u1 u2 : Tok} {va : Value} {i k : Nat} {kk : Int} {vs : List Value} {ld : Led} {ts : List Tk} {t : Tk} {c : Str}
set_option maxHeartbeats 4000000 in
theorem need_CONTINUE (X : (K w.params).In h₀) (T : Top p loose mean mg mb h₀) (k₀ : Ext h₀ s.heap) (hd : dp + 12 < recursionLimit) (hu : un + 156 < cLine)
    (H : Has s.heap ((dx, rdD w t1 t2 t3 t4 l nd i) :: ld)) (R : Rd w ld x dx l nd vs ts) (hn : ∀ q ∈ ld, q.1 ≠ dx) (hf : h₀.get? dx = none) (hb : signAt ts i (Str.ofString "word") (Str.ofString "CONTINUE") = true)
    (h : ∀ t3' h' tk', ExtB [dx] s.heap h' → h'.get? dx = some (rdD w t1 t2 t3' t4 l nd ((i + 1 : Nat) : Int)) → Q .none { s with heap := h', toks := tk' }) :
    wpAny (model prog w) (Ar dp fr gd un) (call (.ref 287) [.ref x, .str (Str.ofString "CONTINUE") tc]) Q E s := by
  have reg : (K, PySem.Challenge.rw_pb0258_01).1 = K := by (k_fill; rfl)
  clear reg
  have r1 := R.inst
  have hW := has_one H
  have hN := none_one (o := rdD w t1 t2 t3 t4 l nd i) hf
  walk_at "ENTERW"
  k_steps
  (rename News _ _ _ _ => N9)
  exact h _ _ _ (extB_one (by assumption) (by assumption)) (N9.get (by k_mem))

set_option maxHeartbeats 4000000 in
theorem need_sign_c (X : (K w.params).In h₀) (T : Top p loose mean mg mb h₀) (k₀ : Ext h₀ s.heap) (hd : dp + 12 < recursionLimit) (hu : un + 156 < cLine)
    (H : Has s.heap ((dx, rdD w t1 t2 t3 t4 l nd i) :: ld)) (R : Rd w ld x dx l nd vs ts) (hn : ∀ q ∈ ld, q.1 ≠ dx) (hf : h₀.get? dx = none) (hb : signAt ts i (Str.ofString "sign") c = true)
    (h : ∀ t3' h' tk', ExtB [dx] s.heap h' → h'.get? dx = some (rdD w t1 t2 t3' t4 l nd ((i + 1 : Nat) : Int)) → Q .none { s with heap := h', toks := tk' }) :
    wpAny (model prog w) (Ar dp fr gd un) (call (.ref 345) [.ref x, .str c tc]) Q E s := by
  have reg : (K, PySem.Challenge.rw_pb0258_01).1 = K := by (k_fill; rfl)
  clear reg
  have r1 := R.inst
  have hW := has_one H
  have hN := none_one (o := rdD w t1 t2 t3 t4 l nd i) hf
  walk_at "ENTERW"
  k_steps
  (rename News _ _ _ _ => N9)
  exact h _ _ _ (extB_one (by assumption) (by assumption)) (N9.get (by k_mem))

end
theorem words_10m : True := by
  k_with "call ref" => (k_here; (try dsimp only [List.nil_append, List.cons_append]); (with_reducible show wpAny _ _ (call (Value.ref 287) [_, _]) _ _ _); k_dflt (first | (refine' need_CONTINUE ?zzk1 ?zzk2 ?zzk3 ?zzk4 ?zzku ?zzk5 ?zzk6 ?zzkn ?zzkf ?zzkb ?_; (case zzk3 => exact Fr.keep (by k_asm)); (case zzk1 => assumption); (case zzk2 => assumption); (case zzk4 => k_room); (case zzku => k_units); (case zzk5 => walk_at "HAS"); (case zzk6 => assumption); (case zzkn => assumption); (case zzkf => exact News.fresh (by k_asm) (by k_mem)); (case zzkb => assumption); k_whole; intro _ _ _ _ _; walk_at "TURNED")))
  k_with "call ref" => (k_here; (try dsimp only [List.nil_append, List.cons_append]); (with_reducible show wpAny _ _ (call (Value.ref 345) [_, _]) _ _ _); k_dflt (first | (refine' need_sign_c ?zzk1 ?zzk2 ?zzk3 ?zzk4 ?zzku ?zzk5 ?zzk6 ?zzkn ?zzkf ?zzkb ?_; (case zzk3 => exact Fr.keep (by k_asm)); (case zzk1 => assumption); (case zzk2 => assumption); (case zzk4 => k_room); (case zzku => k_units); (case zzk5 => walk_at "HAS"); (case zzk6 => assumption); (case zzkn => assumption); (case zzkf => exact News.fresh (by k_asm) (by k_mem)); (case zzkb => assumption); k_whole; intro _ _ _ _ _; walk_at "TURNED")))
  exact True.intro
theorem has_but2 {h g : Heap} {ld : Led} {d d2 : Addr} {o o2 : Obj} (hB : ExtB ([(d, o), (d2, o2)].map (·.1)) h g) (hn : ∀ q ∈ ld, q.1 ≠ d) (hn2 : ∀ q ∈ ld, q.1 ≠ d2) (H : Has h ((d, o) :: ld)) : Has g ld := fun p hp =>
  hB _ _ (fun q => by
    rcases List.mem_cons.mp q with e | e
    · exact hn p hp e
    · exact hn2 p hp (List.mem_singleton.mp e)) (H p (.tail _ hp))
theorem new_two {h g : Heap} {d d2 q : Addr} {o o2 : Obj} (hB : ExtB ([(d, o), (d2, o2)].map (·.1)) h g) (hg : g.get? q = none) (hne : q ≠ d) (hne2 : q ≠ d2) : h.get? q = none := by
  cases e : h.get? q with
  | none => rfl
  | some x => rw [hB q x (fun y => by rcases List.mem_cons.mp y with e | e; exact hne e; exact hne2 (List.mem_singleton.mp e)) e] at hg; cases hg
theorem extB_two {g h h' : Heap} {L d d2 : Addr} {m : Str → Option Value} {o o2 : Obj} (hB : ExtB ([(d, o), (d2, o2)].map (·.1)) h g) (F : Fr g L h' m) : ExtB [d, d2] h h' := fun b o hb e => F.keep b o (hB b o hb e)
theorem news_one_add {g h h' : Heap} {L d q : Addr} {m : Str → Option Value} {news news' : Led} {o o' oq : Obj} (F : Fr g L h m) (N : News g L h news) (U : Upd d o o' news news') (k : ExtB [d] h h') (ho : h'.get? d = some o') (hf : h.get? q = none) (hq : h'.get? q = some oq) : News g L h' ((q, oq) :: news') := fun p hp => by
  rcases List.mem_cons.mp hp with rfl | hp
  · refine ⟨hq, fun e => ?_, ?_⟩
    · obtain ⟨oL, _, _, hL, _⟩ := F.ns
      rw [← e, hf] at hL; cases hL
    · cases e : g.get? q with
      | none => rfl
      | some x => rw [F.keep _ _ e] at hf; cases hf
  · exact news_one N U k ho p hp
section
variable {prog : Program} {w : World} {A : Around} {R : Result → Shared → Prop} {s : Shared} {h₀ : Heap} {K : Frag} {p : Program} {loose : List Str} {mean : ExcName → Option Value} {mg mb : Str → Option Value}

/-- entering a def whose frame has cells -/
theorem enterC {name qual : Str} {params : Arguments} {body : List Stmt} {scope : Scope} {dV kV doc pm cdv ct oc : Value} {an od : Option Addr} {osl : Array (Option Value)} {f : Addr} {args : Args} {binds : List (Str × Value)}
    (W : List (Addr × Obj)) (X : K.In h₀) (T : Top p loose mean mg mb h₀) (k : Ext h₀ s.heap) (hW : ∀ p ∈ W, s.heap.get? p.1 = some p.2) (hf : ∀ p ∈ W, h₀.get? p.1 = none)
    (ho : K.lookup f = some ⟨oc, od, .func (fnOf name qual params body scope dV kV doc pm an cdv ct), osl⟩) (hcd : codeIn K cdv qual = true) (hroom : A.depth < recursionLimit)
    (hbind : BindsTo s (fnOf name qual params body scope dV kV doc pm an cdv ct) args binds) (hkind : (binds.all fun y => scope.names.lookup y.1 == some .local || scope.names.lookup y.1 == some .cell) = true)
    (hnd : ((cellsFrom 0 scope.names []).map (·.1)).Nodup)
    (h : ∀ g L h₁ tk cells, ExtB (W.map (·.1)) s.heap g → Ext h₀ g → Fr g L h₁ (bindL (envOfC qual scope L f cdv).kindOf binds fun _ => none) → News g L h₁ (cells ++ W) →
      CellsAre (bindC (envOfC qual scope L f cdv).kindOf binds fun _ => none) (cellsFrom (L + 1) scope.names []) cells → K.In g → Top p loose mean mg mb g → Ext g s.heap → s.heap.objs.size = L → (∀ p ∈ W, p.1 < L) →
      wpAny (model prog w) (A.deeper (envOfC qual scope L f cdv)) (execs body (envOfC qual scope L f cdv))
        (fun fl s' => R (.ok (.ret (match fl with | .ret v => v | _ => .none))) s') (fun _ _ => False) { s with heap := h₁, toks := tk })
    (hco : scope.isCoroutine = false) (hgen : scope.isGenerator = false) (hk : scope.kind = .function) : codeAny (model prog w) A (.call (.ref f) args) R s := by
  have XS : K.In s.heap := X.keeps k
  have st : Ext h₀ (hideAll s.heap (W.map (·.1))) := fun b o e => hideAll_get _ (k b o e) fun q => by
    obtain ⟨x, hx, rfl⟩ := List.mem_map.mp q
    rw [hf x hx] at e; cases e
  refine codeAny_call_function (fd := fnOf name qual params body scope dV kV doc pm an cdv ct) hroom (XS _ _ ho) rfl hco hgen rfl (codeRec_of XS hcd) (hbind _ _ _ _ ?_)
  refine wpAny_newFunctionEnv_cells hk (kindsX hkind _) fun env' he s' x => ?_
  subst he
  refine ⟨(T.nolimit.keeps k).keeps x.toInCall.keep, codeAny_func ?_⟩
  obtain ⟨h₁, tk, rfl, _⟩ := x.done
  have hk₁ := x.toInCall.keep
  obtain ⟨cells, NC, Y⟩ := Cl.news (h₀ := s.heap) (Nat.le_refl _) fun n c hm => ⟨x.cell n c (lookup_of_mem_nodup (cellsFrom_names scope.names 0 (s.heap.objs.size + 1) [] [] rfl ▸ hnd) hm), x.above n c hm⟩
  refine wpAny_mono (h (hideAll s.heap (W.map (·.1))) s.heap.objs.size h₁ tk cells (fun b o hb e => hideAll_get _ e hb) st ⟨x.toInCall.ns, fun b o e => hk₁ b o (of_hideAll _ e), Nat.le_of_eq (hideAll_size _ _)⟩ (fun p hp => ?_) Y
    (X.keeps st) (T.keeps st) (fun b o e => of_hideAll _ e) rfl (fun p hp => Heap.lt_size (hW p hp))) (fun _ _ y => y) fun _ _ y => y.elim
  rcases List.mem_append.mp hp with hp | hp
  · refine ⟨(NC p hp).1, (NC p hp).2.1, ?_⟩
    cases q : (hideAll s.heap (W.map (·.1))).get? p.1 with
    | none => rfl
    | some o => have := of_hideAll _ q; rw [(NC p hp).2.2] at this; cases this
  · exact ⟨hk₁ _ _ (hW p hp), Nat.ne_of_lt (Heap.lt_size (hW p hp)), hideAll_none _ (List.mem_map_of_mem hp)⟩

/-- calling a lambda of no cells that writes nothing -/
theorem enterL {name qual : Str} {params : Arguments} {body : Expr} {scope : Scope} {pm ctv : Value} {c' : Addr} {f : Addr} {args : Args} {binds : List (Str × Value)}
    (X : K.In h₀) (T : Top p loose mean mg mb h₀) (k : Ext h₀ s.heap)
    (ho : s.heap.get? f = some (kla_obj name qual params body scope [] pm c' ctv)) (hcd : s.heap.CodeRec (.ref c') qual) (hroom : A.depth < recursionLimit)
    (hbind : bindArgs (kla_fn name qual params body scope [] pm (.ref c') ctv) args = pure binds) (hloc : ∀ y ∈ binds, scope.names.lookup y.1 = some .local)
    (h : ∀ L h₁, Fr s.heap L h₁ (fun y => binds.reverse.lookup y) → News s.heap L h₁ [] → K.In s.heap → Top p loose mean mg mb s.heap →
      wpAny (model prog w) (A.deeper (envX qual scope L f (.ref c') [])) (eval body (envX qual scope L f (.ref c') []))
        (fun v s' => R (.ok (.ret v)) s') (fun _ _ => False) { s with heap := h₁, toks := s.toks + binds.length })
    (hco : scope.isCoroutine = false) (hgen : scope.isGenerator = false) (hk : scope.kind = .function)
    (hcell : ∀ x ∈ scope.names, x.2 ≠ .cell) : codeAny (model prog w) A (.call (.ref f) args) R s := by
  refine kla_callFunE hroom ho rfl hco hgen rfl hcd ?_
  rw [hbind]
  refine wpAny_pure (wpAny_newFunctionEnv hcell hloc (fun h₁ hns hsb => ⟨((T.nolimit).keeps k).fresh _ hsb, ?_⟩) hk)
  show codeAny _ _ (.expr body (envX qual scope s.heap.objs.size f (.ref c') [])) _ _
  have hk₁ : ∀ b o, s.heap.get? b = some o → h₁.get? b = some o := fun b o e => hsb.extBut b o (Nat.ne_of_lt (Heap.lt_size e)) (Heap.get?_push_of_some _ e)
  exact kla_codeExpr (wpAny_mono (h s.heap.objs.size h₁ ⟨hns, fun b o e => hk₁ b o e, Nat.le_refl _⟩ (fun _ hx => nomatch hx) (X.keeps k) (T.keeps k)) (fun v s' hl => hl) fun _ _ y => y.elim)
end
theorem new_one {h g : Heap} {d q : Addr} {o : Obj} (hB : ExtB ([(d, o)].map (·.1)) h g) (hg : g.get? q = none) (hne : q ≠ d) : h.get? q = none := by
  cases e : h.get? q with
  | none => rfl
  | some x => rw [hB q x (fun y => hne (List.mem_singleton.mp y)) e] at hg; cases hg

noncomputable abbrev chParams : Arguments := { posonlyargs := [], args := [{ arg := Str.ofString "verb", annotation := none, pos := ⟨266, 67, 266, 71⟩ }], vararg := none, kwonlyargs := [], kw_defaults := [], kwarg := none, defaults := [] }
noncomputable abbrev chBody : Expr := .Name (Str.ofString "read_continue") ⟨266, 73, 266, 86⟩
noncomputable abbrev chScope : Scope := { kind := .function, names := [(Str.ofString "verb", .local), (Str.ofString "read_continue", .globalImplicit)], isGenerator := false, isCoroutine := false, more := [] }
/-- the lambda that chooses -/
inductive ChAt (h : Heap) (ch : Addr) : Prop
  | mk : ∀ nm qual pm c' ctv, h.get? ch = some (kla_obj nm qual chParams chBody chScope [] pm c' ctv) → h.CodeRec (.ref c') qual → ChAt h ch
theorem ChAt.ext {h h' : Heap} {ch : Addr} (x : ChAt h ch) (k : Ext h h') : ChAt h' ch :=
  let ⟨nm, q, pm, c', ctv, e, c, oc, vs, t, e1, e2, e3, e4⟩ := x
  ⟨nm, q, pm, c', ctv, k _ _ e, c, oc, vs, t, e1, k _ _ e2, e3, e4⟩
theorem ChAt.fn {h : Heap} {ch : Addr} (x : ChAt h ch) : FnAt ch h := let ⟨_, _, _, _, _, e, _⟩ := x; ⟨_, _, _, _, e⟩
theorem cls_ne {o o' : Obj} (h : some o = some o') (hc : o.cls ≠ o'.cls) : False := hc (congrArg Obj.cls (Option.some.inj h))
theorem news_two_add {g h h' : Heap} {L d1 d2 q : Addr} {m : Str → Option Value} {news n1 n2 : Led} {o1 o1' o2 o2' oq : Obj} (F : Fr g L h m) (N : News g L h news) (U1 : Upd d1 o1 o1' news n1) (U2 : Upd d2 o2 o2' n1 n2)
    (k : ExtB [d1, d2] h h') (h1 : h'.get? d1 = some o1') (h2 : h'.get? d2 = some o2') (hf : h.get? q = none) (hq : h'.get? q = some oq) : News g L h' ((q, oq) :: n2) := fun p hp => by
  obtain ⟨pre1, post1, rfl, rfl, a1, b1⟩ := U1.split
  obtain ⟨pre, post, e, rfl, a, b⟩ := U2.split
  have m2 : (d2, o2) ∈ pre1 ++ (d1, o1') :: post1 := by rw [e]; simp
  have hd2 : d2 ≠ L ∧ g.get? d2 = none := by
    rcases List.mem_append.mp m2 with y | y
    · exact (N (d2, o2) (List.mem_append_left _ y)).2
    · rcases List.mem_cons.mp y with y | y
      · cases y; exact (N (d1, o1) (List.mem_append_right _ (.head _))).2
      · exact (N (d2, o2) (List.mem_append_right _ (.tail _ y))).2
  have old : p ∈ pre ++ post → p.1 ≠ d2 → h'.get? p.1 = some p.2 ∧ p.1 ≠ L ∧ g.get? p.1 = none := fun hm hne => by
    have hm' : p ∈ pre1 ++ (d1, o1') :: post1 := by
      rw [e]
      rcases List.mem_append.mp hm with y | y
      · exact List.mem_append_left _ y
      · exact List.mem_append_right _ (.tail _ y)
    have go : p ∈ pre1 ++ (d1, o1) :: post1 → p.1 ≠ d1 → h'.get? p.1 = some p.2 ∧ p.1 ≠ L ∧ g.get? p.1 = none := fun y hn1 =>
      ⟨k _ _ (fun z => by rcases List.mem_cons.mp z with z | z; exact hn1 z; exact hne (List.mem_singleton.mp z)) (N p y).1, (N p y).2⟩
    rcases List.mem_append.mp hm' with y | y
    · exact go (List.mem_append_left _ y) (a1 p y)
    · rcases List.mem_cons.mp y with rfl | y
      · exact ⟨h1, (N (d1, o1) (List.mem_append_right _ (.head _))).2⟩
      · exact go (List.mem_append_right _ (.tail _ y)) (b1 p y)
  rcases List.mem_cons.mp hp with rfl | hp
  · refine ⟨hq, fun e => ?_, ?_⟩
    · obtain ⟨oL, _, _, hL, _⟩ := F.ns
      rw [← e, hf] at hL; cases hL
    · cases e : g.get? q with
      | none => rfl
      | some x => rw [F.keep _ _ e] at hf; cases hf
  · rcases List.mem_append.mp hp with y | y
    · exact old (List.mem_append_left _ y) (a p y)
    · rcases List.mem_cons.mp y with rfl | y
      · exact ⟨h2, hd2⟩
      · exact old (List.mem_append_right _ y) (b p y)
theorem fr_two {g h h' : Heap} {L d1 d2 : Addr} {m : Str → Option Value} {news : Led} {o1 o2 : Obj} (F : Fr g L h m) (N : News g L h news) (m1 : (d1, o1) ∈ news) (m2 : (d2, o2) ∈ news) (k : ExtB [d1, d2] h h') : Fr g L h' m :=
  fr_extB F k (fun q => by
    rcases List.mem_cons.mp q with e | e
    · exact (N _ m1).2.1 e.symm
    · exact (N _ m2).2.1 (List.mem_singleton.mp e).symm) fun b hb => by
    rcases List.mem_cons.mp hb with rfl | e
    · exact (N _ m1).2.2
    · rw [List.mem_singleton.mp e]; exact (N _ m2).2.2
noncomputable def AllNe (q : Addr) : Led → Prop
  | [] => True
  | p :: r => @Ne Nat p.1 q ∧ AllNe q r
theorem allNe_of {g h : Heap} {L q : Addr} {news : Led} (N : News g L h news) (hf : h.get? q = none) : AllNe q news := by
  have : ∀ l : Led, (∀ p ∈ l, h.get? p.1 = some p.2) → AllNe q l := by
    intro l
    induction l with
    | nil => exact fun _ => trivial
    | cons p r ih => exact fun y => ⟨fun e => (by have z := y p (.head _); rw [show p.1 = q from e, hf] at z; exact nomatch z), ih fun x hx => y x (.tail _ hx)⟩
  exact this news fun p hp => (N p hp).1
theorem off_cls {g h : Heap} {L d : Addr} {news tl : Led} {o : Obj} {c : Value} (N : News g L h news) (hm : (d, o) ∈ news) (ht : ∀ p ∈ tl, p ∈ news) (hc : ∀ p ∈ tl, p.2.cls = c) (hne : o.cls ≠ c) : ∀ p ∈ tl, p.1 ≠ d := fun p hp e => by
  have a := (N p (ht p hp)).1
  rw [e, (N _ hm).1] at a
  have e2 : o = p.2 := Option.some.inj a
  exact hne (by rw [e2]; exact hc p hp)
/-- neither a def nor a code -/
noncomputable def plainO (o : Obj) : Bool := match o.data with
  | .func _ => false
  | .fields vs => (match (vs[1]? : Option Value) with | some (.str _ _) => false | _ => true)
  | _ => true
theorem ChAt.but {h g : Heap} {ch : Addr} {W : Led} (x : ChAt h ch) (hB : ExtB (W.map (·.1)) h g) (hW : ∀ p ∈ W, h.get? p.1 = some p.2) (hp : ∀ p ∈ W, plainO p.2 = true) : ChAt g ch := by
  obtain ⟨nm, q, pm, c', ctv, e, c, oc, vs, t, e1, e2, e3, e4⟩ := x
  refine ⟨nm, q, pm, c', ctv, hB _ _ (fun hm => ?_) e, c, oc, vs, t, e1, hB _ _ (fun hm => ?_) e2, e3, e4⟩
  · obtain ⟨y, hy, rfl⟩ := List.mem_map.mp hm
    have := hp y hy
    rw [hW y hy] at e
    rw [Option.some.inj e] at this
    exact Bool.noConfusion this
  · obtain ⟨y, hy, rfl⟩ := List.mem_map.mp hm
    have := hp y hy
    rw [hW y hy] at e2
    rw [Option.some.inj e2] at this
    unfold plainO at this
    rw [e3] at this
    simp only [e4] at this
    exact Bool.noConfusion this
section
variable {prog : Program} {w : World} {dp un : Nat} {fr : Option (List Env)} {gd : Option (List Code)} {s : Shared} {h₀ : Heap} {p : Program} {loose : List Str} {mean : ExcName → Option Value} {mg mb : Str → Option Value}
variable {Q E : Value → Shared → Prop} {ch : Addr} {v : Value}
set_option maxHeartbeats 4000000 in
theorem choose_c (X : (K w.params).In h₀) (T : Top p loose mean mg mb h₀) (k₀ : Ext h₀ s.heap) (hd : dp + 2 < recursionLimit) (H : ChAt s.heap ch)
    (h : ∀ h' tk', Ext s.heap h' → Q (.ref 57) { s with heap := h', toks := tk' }) :
    wpAny (model prog w) (Ar dp fr gd un) (call (.ref ch) [v]) Q E s := by
  have reg : (K, PySem.Challenge.rw_pb0258_01).1 = K := by (k_fill; rfl)
  clear reg
  obtain ⟨nm, qual, pm, c', ctv, e, hc⟩ := H
  refine wpAny_call (enterL X T k₀ e hc ?_ rfl (locs rfl) ?_ rfl rfl rfl (by decide))
  · show dp < recursionLimit; omega
  · intro L h₁ F N X' T'
    k_steps
    exact h _ _ (Fr.keep (by assumption))
end
section
variable {prog : Program} {w : World} {dp un : Nat} {fr : Option (List Env)} {gd : Option (List Code)} {s : Shared} {h₀ : Heap} {p : Program} {loose : List Str} {mean : ExcName → Option Value} {mg mb : Str → Option Value}
variable {Q E : Value → Shared → Prop} {x dx l nd a da : Addr} {t1 t2 t3 t4 tk tc t1' t2' t3' t4' u1 u2 : Tok} {va : Value} {i k : Nat} {kk : Int} {vs : List Value} {ld : Led} {ts : List Tk} {t : Tk} {c : Str}
set_option maxHeartbeats 4000000 in
theorem read_continue_c (X : (K w.params).In h₀) (T : Top p loose mean mg mb h₀) (k₀ : Ext h₀ s.heap) (hd : dp + 14 < recursionLimit) (hu : un + 172 < cLine)
    (H : Has s.heap ((dx, rdD w t1 t2 t3 t4 l nd i) :: ld)) (R : Rd w ld x dx l nd vs ts) (hn : ∀ q ∈ ld, q.1 ≠ dx) (hf : h₀.get? dx = none) {v9 : Value} (hb : signAt ts i (Str.ofString "word") (Str.ofString "CONTINUE") = true)
    (h : ∀ q n u t3' h' tk', ExtB [dx] s.heap h' → h'.get? dx = some (rdD w t1 t2 t3' t4 l nd ((i + 1 : Nat) : Int)) → s.heap.get? q = none → h'.get? q = some (tupO [.str (Str.ofString "continue") u] n) → Q (.ref q) { s with heap := h', toks := tk' }) :
    wpAny (model prog w) (Ar dp fr gd un) (call (.ref 57) [.ref x, v9]) Q E s := by
  have reg : (K, PySem.Challenge.rw_pb0258_01).1 = K := by (k_fill; rfl)
  clear reg
  have r1 := R.inst
  have hW := has_one H
  have hN := none_one (o := rdD w t1 t2 t3 t4 l nd i) hf
  walk_at "ENTERW"
  k_steps
  (rename News _ _ _ _ => N9)
  exact h _ _ _ _ _ _ (extB_one (by assumption) (by assumption)) (N9.get (by k_mem)) (new_one (by assumption) (N9.fresh (List.Mem.head _)) (Nat.ne_of_gt (by assumption))) (N9.get (List.Mem.head _))

end
theorem words_12m : True := by
  k_with "call ref" => (k_here; (try dsimp only [List.nil_append, List.cons_append]); (with_reducible show wpAny _ _ (call (Value.ref _) [_]) _ _ _); k_dflt (refine' choose_c ?zzk1 ?zzk2 ?zzk3 ?zzk4 ?zzk5 ?_; (case zzk3 => exact Fr.keep (by k_asm)); (case zzk5 => exact ChAt.ext (by assumption) (Fr.keep (by k_asm))); (case zzk1 => assumption); (case zzk2 => assumption); (case zzk4 => k_room); k_whole; intro _ _ _; walk_at "KEPT"))
  k_with "call ref" => (k_here; (try dsimp only [List.nil_append, List.cons_append]); (with_reducible show wpAny _ _ (call (Value.ref 57) [_, _]) _ _ _); k_dflt (refine' read_continue_c ?zzk1 ?zzk2 ?zzk3 ?zzk4 ?zzku ?zzk5 ?zzk6 ?zzkn ?zzkf ?zzkb ?_; (case zzk3 => exact Fr.keep (by k_asm)); (case zzk1 => assumption); (case zzk2 => assumption); (case zzk4 => k_room); (case zzku => k_units); (case zzk5 => walk_at "HAS"); (case zzk6 => assumption); (case zzkn => assumption); (case zzkf => exact News.fresh (by k_asm) (by k_mem)); (case zzkb => assumption); k_whole; intro _ _ _ _ _ _ _ _ _ _; walk_at "TURNED2"))
  k_with "TURNED2" => ((rename ExtB _ _ _ => hB9); (rename (Heap.get? _ _ = some (rdD _ _ _ _ _ _ _ _)) => hd9); (rename (Heap.get? _ _ = none) => hf9); (rename (Heap.get? _ _ = some (tupO _ _)) => hq9); (have _ := fr_one (by k_asm) (by k_asm) (by k_mem) hB9); (have _ := news_one_add (by k_asm) (by k_asm) (by k_upd) hB9 hd9 hf9 hq9); (clear hB9 hd9 hf9 hq9); (try k_sweep))
  k_with "callWith ref" => (k_here; k_dflt (refine' callWith_F ?zzk1 ?_; (case zzk1 => exact ChAt.fn (ChAt.ext (by assumption) (Fr.keep (by k_asm)))); k_whole))
  k_with "And" => ((with_reducible show FnAt _ _ ∧ _); refine ⟨ChAt.fn (ChAt.ext (by assumption) (Fr.keep (by k_asm))), ?_⟩; try dsimp only [List.nil_append, List.cons_append])
  k_with "ENTERC" => (refine wpAny_call ?_; k_dflt (refine' enterC _ ?zzkX ?zzkT ?zzkK ?zzkW ?zzkN ?zzk6 ?zzk7 ?zzk8 ?zzk9 ?zzkB ?zzkD ?_ ?zzc2 ?zzc3 ?zzc4; (case zzkW => assumption); (case zzkX => assumption); (case zzkT => assumption); (case zzkK => assumption); (case zzkN => assumption); (case zzk6 => k_is); (case zzk7 => k_is); (case zzk8 => k_room); (case zzk9 => first | exact BindsTo.of_eq rfl | exact binds_K (Frag.In.keeps (by assumption) (by assumption)) rfl (by k_is) rfl rfl rfl); (case zzkB => exact rfl); (case zzkD => decide +kernel); (case zzc2 => exact rfl); (case zzc3 => exact rfl); (case zzc4 => exact rfl); k_whole; intro _ _ _ _ _ _ _ _ N' Y' _ _ _ _ l1; (try k_lt l1); (try (revert l1; intro _)); k_cells Y'; (try simp only [List.cons_append, List.nil_append] at N'); (revert N'; intro _); (try (have _ := has_but2 (by assumption) (by assumption) (by assumption) (by assumption))); (try dsimp only); (try k_fold); (try (show wpAny _ _ (execs (_ :: _) (envOfC _ ⟨_, _, _, _, _⟩ _ _ _)) _ _ _))))
  exact True.intro
theorem words_07m : True := by
  k_with "call ref" => (k_here; (try dsimp only [List.nil_append, List.cons_append]); (with_reducible show wpAny _ _ (call (Value.ref 64) [_]) _ _ _); k_dflt (first | (refine' is_verb_here_f ?zzk1 ?zzk2 ?zzk3 ?zzk4 ?zzku ?zzk5 ?zzk6 ?zzkb ?_; (case zzk3 => exact Fr.keep (by k_asm)); (case zzk1 => assumption); (case zzk2 => assumption); (case zzk4 => k_room); (case zzku => k_units); (case zzk5 => walk_at "HAS"); (case zzk6 => assumption); (case zzkb => assumption); k_whole; intro _ _ _; walk_at "KEPT") | (refine' is_verb_here_t ?zzk1 ?zzk2 ?zzk3 ?zzk4 ?zzku ?zzk5 ?zzk6 ?zzkb ?_; (case zzk3 => exact Fr.keep (by k_asm)); (case zzk1 => assumption); (case zzk2 => assumption); (case zzk4 => k_room); (case zzku => k_units); (case zzk5 => walk_at "HAS"); (case zzk6 => assumption); (case zzkb => assumption); k_whole; intro _ _ _; walk_at "KEPT")))
  k_with "call ref" => (k_here; (try dsimp only [List.nil_append, List.cons_append]); (with_reducible show wpAny _ _ (call (Value.ref 92) [_]) _ _ _); k_dflt (first | (refine' is_end_t ?zzk1 ?zzk2 ?zzk3 ?zzk4 ?zzku ?zzk5 ?zzk6 ?zzkb ?_; (case zzk3 => exact Fr.keep (by k_asm)); (case zzk1 => assumption); (case zzk2 => assumption); (case zzk4 => k_room); (case zzku => k_units); (case zzk5 => walk_at "HAS"); (case zzk6 => assumption); (case zzkb => assumption); k_whole; intro _ _ _; walk_at "KEPT") | (refine' is_end_f ?zzk1 ?zzk2 ?zzk3 ?zzk4 ?zzku ?zzk5 ?zzk6 ?zzka ?zzkb ?zzkc ?zzkd ?_; (case zzk3 => exact Fr.keep (by k_asm)); (case zzk1 => assumption); (case zzk2 => assumption); (case zzk4 => k_room); (case zzku => k_units); (case zzk5 => walk_at "HAS"); (case zzk6 => assumption); (case zzka => assumption); (case zzkb => assumption); (case zzkc => assumption); (case zzkd => assumption); k_whole; intro _ _ _; walk_at "KEPT")))
  k_with "call ref" => (k_here; (try dsimp only [List.nil_append, List.cons_append]); (with_reducible show wpAny _ _ (call (Value.ref 85) [_]) _ _ _); k_dflt (first | (refine' is_head_f ?zzk1 ?zzk2 ?zzk3 ?zzk4 ?zzku ?zzk5 ?zzk6 ?zzka ?zzkb ?zzkc ?zzkd ?_; (case zzk3 => exact Fr.keep (by k_asm)); (case zzk1 => assumption); (case zzk2 => assumption); (case zzk4 => k_room); (case zzku => k_units); (case zzk5 => walk_at "HAS"); (case zzk6 => assumption); (case zzka => assumption); (case zzkb => assumption); (case zzkc => assumption); (case zzkd => assumption); k_whole; intro _ _ _; walk_at "KEPT") | (refine' is_head_t ?zzk1 ?zzk2 ?zzk3 ?zzk4 ?zzku ?zzk5 ?zzk6 ?zzka ?zzkb ?zzkc ?zzkd ?zzke ?zzkf ?zzkg ?_; (case zzk3 => exact Fr.keep (by k_asm)); (case zzk1 => assumption); (case zzk2 => assumption); (case zzk4 => k_room); (case zzku => k_units); (case zzk5 => walk_at "HAS"); (case zzk6 => assumption); (case zzka => assumption); (case zzkb => assumption); (case zzkc => assumption); (case zzkd => assumption); (case zzke => assumption); (case zzkf => assumption); (case zzkg => assumption); k_whole; intro _ _ _; walk_at "KEPT")))
  exact True.intro
noncomputable def T73 (ps : Array Value) : Prop := ps = #[] ∨ ∃ c' : Addr, ps = #[rawInt 31, rawInt 47, .ref c']
theorem T73.plain {ps : Array Value} (h : T73 ps) : plainO (tabObj ps) = true := by
  rcases h with rfl | ⟨c', rfl⟩ <;> rfl
section
variable {prog : Program} {w : World} {dp un : Nat} {fr : Option (List Env)} {gd : Option (List Code)} {s : Shared} {h₀ : Heap} {p : Program} {loose : List Str} {mean : ExcName → Option Value} {mg mb : Str → Option Value}
variable {Q E : Value → Shared → Prop} {x dx l nd a da ch : Addr} {t1 t2 t3 t4 tk tc t1' t2' t3' t4' u1 u2 : Tok} {va : Value} {i k : Nat} {kk : Int} {vs : List Value} {ld : Led} {ts : List Tk} {t : Tk} {c : Str} {ps : Array Value}
set_option maxHeartbeats 4000000 in
theorem statement_at_c (X : (K w.params).In h₀) (T : Top p loose mean mg mb h₀) (k₀ : Ext h₀ s.heap) (hd : dp + 20 < recursionLimit) (hu : un + 220 < cLine)
    (H : Has s.heap ((dx, rdD w t1 t2 t3 t4 l nd i) :: ld)) (R : Rd w ld x dx l nd vs ts) (hn : ∀ q ∈ ld, q.1 ≠ dx) (hn2 : ∀ q ∈ ld, q.1 ≠ 73) (hf : h₀.get? dx = none) (hf2 : h₀.get? 73 = none)
    (HP : s.heap.get? 73 = some (tabObj ps)) (hT : T73 ps) (hc : CodeHd h₀ 77 73) (HC : ChAt s.heap ch) (hq : ts[i]? = some ⟨Str.ofString "word", Str.ofString "CONTINUE", false⟩)
    (h : ∀ q n u t3' ps' h' tk', ExtB [dx, 73] s.heap h' → h'.get? dx = some (rdD w t1 t2 t3' t4 l nd ((i + 1 : Nat) : Int)) → h'.get? 73 = some (tabObj ps') → T73 ps' → s.heap.get? q = none → h'.get? q = some (tupO [.str (Str.ofString "continue") u] n) → Q (.ref q) { s with heap := h', toks := tk' }) :
    wpAny (model prog w) (Ar dp fr gd un) (call (.ref 78) [.ref x, .int 0 tk, .ref ch]) Q E s := by
  have reg : (K, PySem.Challenge.rw_pb0258_01).1 = K := by (k_fill; rfl)
  clear reg
  have r1 := R.inst
  have hW : ∀ p ∈ [(dx, rdD w t1 t2 t3 t4 l nd i), (73, tabObj ps)], s.heap.get? p.1 = some p.2 := by
    simp only [List.forall_mem_cons]; exact ⟨H _ (.head _), HP, fun _ h => nomatch h⟩
  have hN : ∀ p ∈ [(dx, rdD w t1 t2 t3 t4 l nd i), (73, tabObj ps)], h₀.get? p.1 = none := by
    simp only [List.forall_mem_cons]; exact ⟨hf, hf2, fun _ h => nomatch h⟩
  have hb : signAt ts i (Str.ofString "word") (Str.ofString "CONTINUE") = true := by simp only [signAt, hq]; decide +kernel
  have hpl : ∀ p ∈ [(dx, rdD w t1 t2 t3 t4 l nd i), (73, tabObj ps)], plainO p.2 = true := by
    simp only [List.forall_mem_cons]; exact ⟨rfl, hT.plain, fun _ h => nomatch h⟩
  have hne : @Ne Nat dx 73 := fun q => by
    have e1 := H _ (.head _)
    rw [q, HP] at e1
    exact cls_ne e1 (by simp)
  rcases hT with rfl | ⟨c', rfl⟩
  · walk_at "ENTERC"
    have hc9 : CodeHd _ 77 73 := CodeHd.keeps hc (by assumption)
    have HC9 := ChAt.but HC (by assumption) hW hpl
    k_steps
    (rename News _ _ _ _ => N9)
    refine h _ _ _ _ _ _ _ (extB_two (by assumption) (by assumption)) (N9.get (by k_mem)) (N9.get (by k_mem)) ?_ (new_two (by assumption) (N9.fresh (List.Mem.head _)) ?_ ?_) (N9.get (List.Mem.head _))
    · exact .inr ⟨_, Array.empty_append⟩
    · intro e
      have a1 := N9.get (List.Mem.head _)
      have a2 := N9.get (a := dx) (o := rdD w _ _ _ _ _ _ _) (by k_mem)
      rw [e, a2] at a1
      exact cls_ne a1 (by simp)
    · intro e
      have a1 := N9.get (List.Mem.head _)
      have a2 := N9.get (a := 73) (o := tabObj _) (by k_mem)
      rw [e, a2] at a1
      exact cls_ne a1 (by simp)
  · walk_at "ENTERC"
    have hc9 : CodeHd _ 77 73 := CodeHd.keeps hc (by assumption)
    have HC9 := ChAt.but HC (by assumption) hW hpl
    k_steps
    (rename News _ _ _ _ => N9)
    refine h _ _ _ _ _ _ _ (extB_two (by assumption) (by assumption)) (N9.get (by k_mem)) (N9.get (by k_mem)) ?_ (new_two (by assumption) (N9.fresh (List.Mem.head _)) ?_ ?_) (N9.get (List.Mem.head _))
    · exact .inr ⟨_, rfl⟩
    · intro e
      have a1 := N9.get (List.Mem.head _)
      have a2 := N9.get (a := dx) (o := rdD w _ _ _ _ _ _ _) (by k_mem)
      rw [e, a2] at a1
      exact cls_ne a1 (by simp)
    · intro e
      have a1 := N9.get (List.Mem.head _)
      have a2 := N9.get (a := 73) (o := tabObj _) (by k_mem)
      rw [e, a2] at a1
      exact cls_ne a1 (by simp)
end
theorem words_13m : True := by
  k_with "k_all" => assumption
  k_with "call ref" => (k_here; (try dsimp only [List.nil_append, List.cons_append]); (with_reducible show wpAny _ _ (call (Value.ref 78) [_, _, _]) _ _ _); k_dflt (refine' statement_at_c ?zzk1 ?zzk2 ?zzk3 ?zzk4 ?zzku ?zzk5 ?zzk6 ?zzkn ?zzkn2 ?zzkf ?zzkf2 ?zzkP ?zzkT ?zzkc ?zzkC ?zzkq ?_; (case zzk3 => exact Fr.keep (by k_asm)); (case zzk1 => assumption); (case zzk2 => assumption); (case zzk4 => k_room); (case zzku => k_units); (case zzk5 => walk_at "HAS"); (case zzk6 => assumption); (case zzkn => assumption); (case zzkn2 => assumption); (case zzkf => exact News.fresh (by k_asm) (by k_mem)); (case zzkP => exact News.get (by k_asm) (by k_mem)); (case zzkf2 => exact News.fresh (by k_asm) (by k_mem)); (case zzkT => assumption); (case zzkc => assumption); (case zzkC => exact ChAt.ext (by assumption) (Fr.keep (by k_asm))); (case zzkq => assumption); k_whole; intro _ _ _ _ _ _ _ hB' hd' hp' _ hf' hq'; (have l1 := allNe_of (by k_asm) hf'); (simp only [AllNe, and_true] at l1); (try (revert l1; intro _)); (have _ := fr_two (by k_asm) (by k_asm) (by k_mem) (by k_mem) hB'); (have _ := news_two_add (by k_asm) (by k_asm) (by k_upd) (by k_upd) hB' hd' hp' hf' hq'); (clear hB' hd' hp' hf' hq'); (try k_sweep)))
  exact True.intro
/-- the walk stands still here -/
structure Halt (P : Prop) : Prop where
  out : P
theorem words_i1 : True := by
  k_with "exec While" => (k_here; (with_reducible show wpAny _ _ (exec (Stmt.While _ _ _ _) _) _ _ _); refine Halt.out ?_)
  exact True.intro
noncomputable abbrev contD : PyData := .tuple [.str (Str.ofString "continue")]
noncomputable def ContsIn (tl : Led) (ss : List Value) : Prop := ∀ v ∈ ss, ∃ q nq u, v = Value.ref q ∧ (q, tupO [.str (Str.ofString "continue") u] nq) ∈ tl
noncomputable abbrev contT : Tk := ⟨Str.ofString "word", Str.ofString "CONTINUE", false⟩
theorem news_rot3 {g h : Heap} {L : Addr} {q a b c : Addr × Obj} {tl : Led} (N : News g L h (q :: a :: b :: c :: tl)) : News g L h (a :: b :: c :: q :: tl) := fun p hp => N p (by
  simp only [List.mem_cons] at hp ⊢
  rcases hp with e | e | e | e | e
  · exact .inr (.inl e)
  · exact .inr (.inr (.inl e))
  · exact .inr (.inr (.inr (.inl e)))
  · exact .inl e
  · exact .inr (.inr (.inr (.inr e))))
theorem conts_rds {h : Heap} {tl : Led} (H : Has h tl) : ∀ {us : List Value}, (∀ v ∈ us, ∃ q nq u, v = Value.ref q ∧ (q, tupO [.str (Str.ofString "continue") u] nq) ∈ tl) → RdsA h us (List.replicate us.length contD)
  | [], _ => RdsA.nil
  | v :: us, y => by
    obtain ⟨q, nq, u, rfl, hm⟩ := y v (.head _)
    exact RdsA.cons (Rds.tup (H _ hm) (RdsA.cons Rds.str RdsA.nil)) (conts_rds H fun x hx => y x (.tail _ hx))
section
variable {prog : Program} {w : World} {dp un : Nat} {fr : Option (List Env)} {gd : Option (List Code)} {s : Shared} {h₀ : Heap} {p : Program} {loose : List Str} {mean : ExcName → Option Value} {mg mb : Str → Option Value}
variable {Q E : Value → Shared → Prop} {x dx l nd a da ch : Addr} {t1 t2 t3 t4 tk tc t1' t2' t3' t4' u1 u2 : Tok} {va : Value} {i k n : Nat} {kk : Int} {vs : List Value} {ld : Led} {ts : List Tk} {t : Tk} {c : Str} {ps : Array Value}
inductive BInv (w : World) (dx l nd fL : Addr) (t1 t2 t4 : Tok) (i n : Nat) (M : Str → Option Value) (k : Nat) (m : Str → Option Value) (led : Led) : Prop
  | mk : ∀ j us nS t3' ps' tl, j + k = n → m = M → led = (fL, listOf (List.toArray us) nS) :: (dx, rdD w t1 t2 t3' t4 l nd ((i + j : Nat) : Int)) :: (73, tabObj ps') :: tl → T73 ps' → us.length = j →
      (∀ v ∈ us, ∃ q nq u, v = Value.ref q ∧ (q, tupO [.str (Str.ofString "continue") u] nq) ∈ tl) → (∀ p ∈ tl, p.2.cls = .type "tuple") → BInv w dx l nd fL t1 t2 t4 i n M k m led
set_option maxHeartbeats 4000000 in
theorem body_at_c (X : (K w.params).In h₀) (T : Top p loose mean mg mb h₀) (k₀ : Ext h₀ s.heap) (hd : dp + 24 < recursionLimit) (hu : un + 260 < cLine)
    (H : Has s.heap ((dx, rdD w t1 t2 t3 t4 l nd i) :: ld)) (R : Rd w ld x dx l nd vs ts) (hn : ∀ q ∈ ld, q.1 ≠ dx) (hn2 : ∀ q ∈ ld, q.1 ≠ 73) (hf : h₀.get? dx = none) (hf2 : h₀.get? 73 = none)
    (HP : s.heap.get? 73 = some (tabObj ps)) (hT : T73 ps) (hc : CodeHd h₀ 77 73) (HC : ChAt s.heap ch) (hcs : ∀ j, j < n → ts[i + j]? = some contT) (hend : kindAt ts (i + n) (Str.ofString "word") = false) (hn20 : n ≤ 1000)
    (h : ∀ q us nq t3' ps' nw h' tk', ExtB [dx, 73] s.heap h' → h'.get? dx = some (rdD w t1 t2 t3' t4 l nd ((i + n : Nat) : Int)) → h'.get? 73 = some (tabObj ps') → T73 ps' → s.heap.get? q = none → h'.get? q = some (tupO us nq) → Has h' nw → (∀ p ∈ nw, s.heap.get? p.1 = none) → (∀ p ∈ nw, p.2.cls = .type "tuple") → ContsIn nw us → us.length = n → Q (.ref q) { s with heap := h', toks := tk' }) :
    wpAny (model prog w) (Ar dp fr gd un) (call (.ref 71) [.ref x, .int 0 tk, .ref ch]) Q E s := by
  have reg : (K, PySem.Challenge.rw_pb0258_01).1 = K := by (k_fill; rfl)
  clear reg
  have r1 := R.inst
  have hW : ∀ p ∈ [(dx, rdD w t1 t2 t3 t4 l nd i), (73, tabObj ps)], s.heap.get? p.1 = some p.2 := by
    simp only [List.forall_mem_cons]; exact ⟨H _ (.head _), HP, fun _ h => nomatch h⟩
  have hN : ∀ p ∈ [(dx, rdD w t1 t2 t3 t4 l nd i), (73, tabObj ps)], h₀.get? p.1 = none := by
    simp only [List.forall_mem_cons]; exact ⟨hf, hf2, fun _ h => nomatch h⟩
  have hpl : ∀ p ∈ [(dx, rdD w t1 t2 t3 t4 l nd i), (73, tabObj ps)], plainO p.2 = true := by
    simp only [List.forall_mem_cons]; exact ⟨rfl, hT.plain, fun _ h => nomatch h⟩
  walk_at "ENTERW"
  have hc9 : CodeHd _ 77 73 := CodeHd.keeps hc (by assumption)
  have HC9 := ChAt.but HC (by assumption) hW hpl
  (rename ExtB _ _ _ => hB9)
  have HG9 := has_but2 hB9 hn hn2 H
  k_steps
  refine ⟨?_⟩
  (rename News _ _ _ _ => N9)
  (rename Fr _ _ _ _ => F9)
  have hne : @Ne Nat dx 73 := fun q => by
    have e1 := H _ (.head _)
    rw [q, HP] at e1
    exact cls_ne e1 (by simp)
  refine While_inv (BInv w dx l nd _ t1 t2 t4 i n _) (n₀ := n) F9 N9 ⟨0, [], 0, t3, ps, [], by omega, rfl, rfl, hT, rfl, (fun _ h => nomatch h), (fun _ h => nomatch h)⟩ ?_ PassesOwn.never
  rintro k m₁ news₁ h₁ tk₁ F₁ N₁ ⟨j, us, nS, t3', ps', tl, hjk, rfl, rfl, hT', hlen, hCT, hcl⟩
  clear F9 N9
  have o1 := off_cls N₁ (List.Mem.head _) (fun p hp => .tail _ (.tail _ (.tail _ hp))) hcl (by simp)
  have o2 := off_cls N₁ (.tail _ (List.Mem.head _)) (fun p hp => .tail _ (.tail _ (.tail _ hp))) hcl (by simp)
  have o3 := off_cls N₁ (.tail _ (.tail _ (List.Mem.head _))) (fun p hp => .tail _ (.tail _ (.tail _ hp))) hcl (by simp)
  cases k with
  | zero =>
    have hjn : j = n := by omega
    subst hjn
    k_steps
    (rename News _ _ _ _ => N9)
    refine h _ us _ _ _ tl _ _ (extB_two hB9 (by assumption)) (N9.get (by k_mem)) (N9.get (by k_mem)) hT' (new_two hB9 (N9.fresh (List.Mem.head _)) ?_ ?_) (N9.get (List.Mem.head _)) (fun p hp => (N9 p (.tail _ (.tail _ (.tail _ (.tail _ hp))))).1) (fun p hp => new_two hB9 (N9 p (.tail _ (.tail _ (.tail _ (.tail _ hp))))).2.2 (o2 p hp) (o3 p hp)) hcl hCT hlen
    · intro e
      have a1 := N9.get (List.Mem.head _)
      have a2 := N9.get (a := dx) (o := rdD w _ _ _ _ _ _ _) (by k_mem)
      rw [e, a2] at a1
      exact cls_ne a1 (by simp)
    · intro e
      have a1 := N9.get (List.Mem.head _)
      have a2 := N9.get (a := 73) (o := tabObj _) (by k_mem)
      rw [e, a2] at a1
      exact cls_ne a1 (by simp)
  | succ k =>
    have hq : ts[i + j]? = some contT := hcs j (by omega)
    k_steps
    (rename News _ _ _ _ => N9)
    rw [List.push_toArray] at N9
    refine WhileStep.intro (n' := k) (by assumption) (news_rot3 N9) (by omega) ⟨j + 1, us ++ [_], nS + 1, _, _, _ :: tl, by omega, rfl, rfl, by assumption, ?_, ?_, ?_⟩
    · rw [List.length_append, hlen]; rfl
    · intro v hv
      rcases List.mem_append.mp hv with hv | hv
      · obtain ⟨q, nq, u, e, hm⟩ := hCT v hv
        exact ⟨q, nq, u, e, .tail _ hm⟩
      · exact ⟨_, _, _, List.mem_singleton.mp hv, .head _⟩
    · intro p hp
      rcases List.mem_cons.mp hp with rfl | hp
      · rfl
      · exact hcl p hp
end
theorem fresh_all {g h : Heap} {L : Addr} {m : Str → Option Value} {news nw : Led} (F : Fr g L h m) (N : News g L h news) (hf : ∀ p ∈ nw, h.get? p.1 = none) : ∀ p ∈ nw, p.1 ≠ L ∧ g.get? p.1 = none ∧ AllNe p.1 news := fun p hp => by
  refine ⟨fun e => ?_, ?_, allNe_of N (hf p hp)⟩
  · obtain ⟨oL, _, _, hL, _⟩ := F.ns
    have := hf p hp; rw [e, hL] at this; cases this
  · cases e : g.get? p.1 with
    | none => rfl
    | some x => have := hf p hp; rw [F.keep _ _ e] at this; cases this
theorem news_tail7 {g h : Heap} {L : Addr} {a1 a2 a3 a4 a5 a6 a7 : Addr × Obj} {tl nw news : Led} (N : News g L h (a1 :: a2 :: a3 :: a4 :: a5 :: a6 :: a7 :: tl)) (H : Has h nw) (hG : ∀ p ∈ nw, p.1 ≠ L ∧ g.get? p.1 = none ∧ AllNe p.1 news) : News g L h (a1 :: a2 :: a3 :: a4 :: a5 :: a6 :: a7 :: (nw ++ tl)) := fun p hp => by
  have go : p ∈ nw → h.get? p.1 = some p.2 ∧ p.1 ≠ L ∧ g.get? p.1 = none := fun y => ⟨H p y, (hG p y).1, (hG p y).2.1⟩
  simp only [List.mem_cons, List.mem_append] at hp
  rcases hp with y | y | y | y | y | y | y | y | y
  · exact N p (by simp only [List.mem_cons]; exact .inl y)
  · exact N p (by simp only [List.mem_cons]; exact .inr (.inl y))
  · exact N p (by simp only [List.mem_cons]; exact .inr (.inr (.inl y)))
  · exact N p (by simp only [List.mem_cons]; exact .inr (.inr (.inr (.inl y))))
  · exact N p (by simp only [List.mem_cons]; exact .inr (.inr (.inr (.inr (.inl y)))))
  · exact N p (by simp only [List.mem_cons]; exact .inr (.inr (.inr (.inr (.inr (.inl y))))))
  · exact N p (by simp only [List.mem_cons]; exact .inr (.inr (.inr (.inr (.inr (.inr (.inl y)))))))
  · exact go y
  · exact N p (by simp only [List.mem_cons]; exact .inr (.inr (.inr (.inr (.inr (.inr (.inr y)))))))
section
variable {prog : Program} {w : World} {dp un : Nat} {fr : Option (List Env)} {gd : Option (List Code)} {s : Shared} {h₀ : Heap} {p : Program} {loose : List Str} {mean : ExcName → Option Value} {mg mb : Str → Option Value}
variable {Q E : Value → Shared → Prop} {x dx l nd a da : Addr} {t1 t2 t3 t4 tk tc t1' t2' t3' t4' u1 u2 : Tok} {va : Value} {i k : Nat} {kk : Int} {vs : List Value} {ld : Led} {ts : List Tk} {t : Tk} {c : Str}
set_option maxHeartbeats 4000000 in
theorem read_head_p (X : (K w.params).In h₀) (T : Top p loose mean mg mb h₀) (k₀ : Ext h₀ s.heap) (hd : dp + 16 < recursionLimit) (hu : un + 188 < cLine)
    (H : Has s.heap ((dx, rdD w t1 t2 t3 t4 l nd i) :: ld)) (R : Rd w ld x dx l nd vs ts) (hn : ∀ q ∈ ld, q.1 ≠ dx) (hf : h₀.get? dx = none) (hq : ts[i]? = some t) (hk : (t.kind == Str.ofString "word") = true) (hcl : t.worth.length ≤ 100) (hF : Free w t.worth) (hb1 : signAt ts (i + 1) (Str.ofString "word") (Str.ofString "SECTION") = false) (hb2 : signAt ts (i + 1) (Str.ofString "sign") (Str.ofString ".") = true)
    (h : ∀ q nq u u' t3' h' tk', ExtB [dx] s.heap h' → h'.get? dx = some (rdD w t1 t2 t3' t4 l nd ((i + 2 : Nat) : Int)) → s.heap.get? q = none → h'.get? q = some (tupO [.str t.worth u, .str c u'] nq) → Q (.ref q) { s with heap := h', toks := tk' }) :
    wpAny (model prog w) (Ar dp fr gd un) (call (.ref 99) [.ref x, .str c tc]) Q E s := by
  have reg : (K, PySem.Challenge.rw_pb0258_01).1 = K := by (k_fill; rfl)
  clear reg
  have r1 := R.inst
  have hW := has_one H
  have hN := none_one (o := rdD w t1 t2 t3 t4 l nd i) hf
  walk_at "ENTERW"
  k_steps
  (rename News _ _ _ _ => N9)
  refine h _ _ _ _ _ _ _ (extB_one (by assumption) (by assumption)) (N9.get (by k_mem)) (new_one (by assumption) (N9.fresh (List.Mem.head _)) (Nat.ne_of_gt (by assumption))) (N9.get (List.Mem.head _))

set_option maxHeartbeats 4000000 in
theorem read_head_s (X : (K w.params).In h₀) (T : Top p loose mean mg mb h₀) (k₀ : Ext h₀ s.heap) (hd : dp + 16 < recursionLimit) (hu : un + 188 < cLine)
    (H : Has s.heap ((dx, rdD w t1 t2 t3 t4 l nd i) :: ld)) (R : Rd w ld x dx l nd vs ts) (hn : ∀ q ∈ ld, q.1 ≠ dx) (hf : h₀.get? dx = none) (hq : ts[i]? = some t) (hk : (t.kind == Str.ofString "word") = true) (hcl : t.worth.length ≤ 100) (hF : Free w t.worth) (hb1 : signAt ts (i + 1) (Str.ofString "word") (Str.ofString "SECTION") = true) (hb2 : kindAt ts (i + 1 + 1) (Str.ofString "number") = false) (hb3 : signAt ts (i + 1 + 1) (Str.ofString "sign") (Str.ofString ".") = true)
    (h : ∀ q nq u u' t3' h' tk', ExtB [dx] s.heap h' → h'.get? dx = some (rdD w t1 t2 t3' t4 l nd ((i + 3 : Nat) : Int)) → s.heap.get? q = none → h'.get? q = some (tupO [.str (Str.ofString "") u, .str t.worth u'] nq) → Q (.ref q) { s with heap := h', toks := tk' }) :
    wpAny (model prog w) (Ar dp fr gd un) (call (.ref 99) [.ref x, .str c tc]) Q E s := by
  have reg : (K, PySem.Challenge.rw_pb0258_01).1 = K := by (k_fill; rfl)
  clear reg
  have r1 := R.inst
  have hW := has_one H
  have hN := none_one (o := rdD w t1 t2 t3 t4 l nd i) hf
  walk_at "ENTERW"
  k_steps
  (rename News _ _ _ _ => N9)
  refine h _ _ _ _ _ _ _ (extB_one (by assumption) (by assumption)) (N9.get (by k_mem)) (new_one (by assumption) (N9.fresh (List.Mem.head _)) (Nat.ne_of_gt (by assumption))) (N9.get (List.Mem.head _))

end
theorem words_enteri : True := by
  k_with "ENTERI" => (k_dflt (refine' enter _ ?zzkX ?zzkT ?zzkK ?zzkW ?zzkN ?zzk6 ?zzk7 ?zzk8 ?zzk9 ?zzkB ?_ ?zzc2 ?zzc3 ?zzc4 ?zzc5; (case zzkW => assumption); (case zzkX => assumption); (case zzkT => assumption); (case zzkK => assumption); (case zzkN => assumption); (case zzk6 => k_is); (case zzk7 => k_is); (case zzk8 => k_room); (case zzk9 => first | exact BindsTo.of_eq rfl | exact binds_K (Frag.In.keeps (by assumption) (by assumption)) rfl (by k_is) rfl rfl rfl); (case zzc5 => decide); (case zzkB => exact locs rfl); (case zzc2 => exact rfl); (case zzc3 => exact rfl); (case zzc4 => exact rfl); k_whole; intro _ _ _ _ _ _ _ _ _ _ _; (try (have _ := has_but (by assumption) (by assumption) (by assumption))); (try dsimp only); (try k_fold); (try (show wpAny _ _ (execs (_ :: _) (envOf _ ⟨_, _, _, _, _⟩ _ _ _)) _ _ _))))
  exact True.intro
section
variable {prog : Program} {w : World} {dp un : Nat} {fr : Option (List Env)} {gd : Option (List Code)} {s : Shared} {h₀ : Heap} {p : Program} {loose : List Str} {mean : ExcName → Option Value} {mg mb : Str → Option Value}
variable {Q E : Value → Shared → Prop} {L : Addr} {m : Str → Option Value} {news : Led} {nm sec : Str} {v : Value} {u1 u2 : Tok}
set_option maxHeartbeats 4000000 in
theorem para_c (X : (K w.params).In h₀) (T : Top p loose mean mg mb h₀) (F : Fr h₀ L s.heap m) (N : News h₀ L s.heap news) (hd : dp + 6 < recursionLimit) (hu : un + 100 < cLine)
    (h : ∀ x d t1 t2 t3 h' tk', Fr h₀ L h' m → News h₀ L h' ((x, instObj 46 d) :: (d, dictOf [⟨kh w "name", .str "name" t1, .str nm u1⟩, ⟨kh w "section", .str "section" t2, .str sec u2⟩, ⟨kh w "statements", .str "statements" t3, v⟩] 3) :: news) → (∀ p ∈ news, p.1 < d) → d < x → Q (.ref x) { s with heap := h', toks := tk' }) :
    wpAny (model prog w) (Ar dp fr gd un) (call (.ref 46) [.str nm u1, .str sec u2, v]) Q E s := by
  have reg : (K, PySem.Challenge.rw_pb0258_01).1 = K := by (k_fill; rfl)
  clear reg
  refine' call_cls (K := K w.params) F X N ?k4 ?k5 ?k6 ?_
  case k4 => k_is
  case k5 => k_is
  case k6 => k_is
  intro x d h1 F1 N1 l1 l2
  have hW : ∀ p ∈ [(d, dictOf [] 0)], h1.get? p.1 = some p.2 := fun p hp => by rw [List.mem_singleton.mp hp]; exact N1.get (by k_mem)
  have hN : ∀ p ∈ [(d, dictOf [] 0)], h₀.get? p.1 = none := fun p hp => by rw [List.mem_singleton.mp hp]; exact News.fresh N1 (by k_mem)
  have hn : ∀ q ∈ [(x, instObj 46 d)], q.1 ≠ d := fun q hq => by rw [List.mem_singleton.mp hq]; exact Ne.symm (Nat.ne_of_lt l2)
  have k₀ : Ext h₀ h1 := F1.keep
  have r1 : (x, instObj 46 d) ∈ [(x, instObj 46 d)] := .head _
  have F2 := F1
  have N2 := N1
  clear F1 N1 F N
  walk_at "ENTERI"
  have H : Has h1 ((d, dictOf [] 0) :: [(x, instObj 46 d)]) := Has.cons (N2.get (by k_mem)) (Has.cons (N2.get (by k_mem)) Has.nil)
  (rename ExtB _ _ _ => hB9)
  have HG9 := has_but hB9 hn H
  k_steps
  (rename News _ _ _ _ => N9)
  (rename Fr _ _ _ _ => F9)
  have hE := extB_one hB9 F9
  have l3 : @Ne Nat x d := Ne.symm (Nat.ne_of_lt l2)
  have l4 : ∀ p ∈ news, p.1 ≠ d := fun p hp => Nat.ne_of_lt (l1 p hp)
  have hG := N9.get (a := d) (by k_mem)
  exact ⟨rfl, h x d _ _ _ _ _ (fr_one F2 N2 (o := dictOf [] 0) (by k_mem) hE) (news_one N2 (by k_upd) hE hG) l1 l2⟩
set_option maxHeartbeats 4000000 in
theorem token_c4 (X : (K w.params).In h₀) (T : Top p loose mean mg mb h₀) (F : Fr h₀ L s.heap m) (N : News h₀ L s.heap news) (hd : dp + 6 < recursionLimit) (hu : un + 100 < cLine) {b : Bool}
    (h : ∀ x d t1 t2 t3 t4 h' tk', Fr h₀ L h' m → News h₀ L h' ((x, instObj 413 d) :: (d, tkD w t1 t2 t3 t4 u1 u2 v ⟨nm, sec, b⟩) :: news) → (∀ p ∈ news, p.1 < d) → d < x → Q (.ref x) { s with heap := h', toks := tk' }) :
    wpAny (model prog w) (Ar dp fr gd un) (call (.ref 413) [.str nm u1, .str sec u2, v, .bool b]) Q E s := by
  have reg : (K, PySem.Challenge.rw_pb0258_01).1 = K := by (k_fill; rfl)
  clear reg
  refine' call_cls (K := K w.params) F X N ?k4 ?k5 ?k6 ?_
  case k4 => k_is
  case k5 => k_is
  case k6 => k_is
  intro x d h1 F1 N1 l1 l2
  have hW : ∀ p ∈ [(d, dictOf [] 0)], h1.get? p.1 = some p.2 := fun p hp => by rw [List.mem_singleton.mp hp]; exact N1.get (by k_mem)
  have hN : ∀ p ∈ [(d, dictOf [] 0)], h₀.get? p.1 = none := fun p hp => by rw [List.mem_singleton.mp hp]; exact News.fresh N1 (by k_mem)
  have hn : ∀ q ∈ [(x, instObj 413 d)], q.1 ≠ d := fun q hq => by rw [List.mem_singleton.mp hq]; exact Ne.symm (Nat.ne_of_lt l2)
  have k₀ : Ext h₀ h1 := F1.keep
  have r1 : (x, instObj 413 d) ∈ [(x, instObj 413 d)] := .head _
  have F2 := F1
  have N2 := N1
  clear F1 N1 F N
  walk_at "ENTERI"
  have H : Has h1 ((d, dictOf [] 0) :: [(x, instObj 413 d)]) := Has.cons (N2.get (by k_mem)) (Has.cons (N2.get (by k_mem)) Has.nil)
  (rename ExtB _ _ _ => hB9)
  have HG9 := has_but hB9 hn H
  k_steps
  (rename News _ _ _ _ => N9)
  (rename Fr _ _ _ _ => F9)
  have hE := extB_one hB9 F9
  have l3 : @Ne Nat x d := Ne.symm (Nat.ne_of_lt l2)
  have l4 : ∀ p ∈ news, p.1 ≠ d := fun p hp => Nat.ne_of_lt (l1 p hp)
  have hG := N9.get (a := d) (by k_mem)
  exact ⟨rfl, h x d _ _ _ _ _ _ (fr_one F2 N2 (o := dictOf [] 0) (by k_mem) hE) (news_one N2 (by k_upd) hE hG) l1 l2⟩
set_option maxHeartbeats 4000000 in
theorem token_c2 (X : (K w.params).In h₀) (T : Top p loose mean mg mb h₀) (F : Fr h₀ L s.heap m) (N : News h₀ L s.heap news) (hd : dp + 6 < recursionLimit) (hu : un + 100 < cLine)
    (h : ∀ x d t1 t2 t3 t4 va h' tk', Fr h₀ L h' m → News h₀ L h' ((x, instObj 413 d) :: (d, tkD w t1 t2 t3 t4 u1 u2 va ⟨nm, sec, false⟩) :: news) → (∀ p ∈ news, p.1 < d) → d < x → Q (.ref x) { s with heap := h', toks := tk' }) :
    wpAny (model prog w) (Ar dp fr gd un) (call (.ref 413) [.str nm u1, .str sec u2]) Q E s := by
  have reg : (K, PySem.Challenge.rw_pb0258_01).1 = K := by (k_fill; rfl)
  clear reg
  refine' call_cls (K := K w.params) F X N ?k4 ?k5 ?k6 ?_
  case k4 => k_is
  case k5 => k_is
  case k6 => k_is
  intro x d h1 F1 N1 l1 l2
  have hW : ∀ p ∈ [(d, dictOf [] 0)], h1.get? p.1 = some p.2 := fun p hp => by rw [List.mem_singleton.mp hp]; exact N1.get (by k_mem)
  have hN : ∀ p ∈ [(d, dictOf [] 0)], h₀.get? p.1 = none := fun p hp => by rw [List.mem_singleton.mp hp]; exact News.fresh N1 (by k_mem)
  have hn : ∀ q ∈ [(x, instObj 413 d)], q.1 ≠ d := fun q hq => by rw [List.mem_singleton.mp hq]; exact Ne.symm (Nat.ne_of_lt l2)
  have k₀ : Ext h₀ h1 := F1.keep
  have r1 : (x, instObj 413 d) ∈ [(x, instObj 413 d)] := .head _
  have F2 := F1
  have N2 := N1
  clear F1 N1 F N
  walk_at "ENTERI"
  have H : Has h1 ((d, dictOf [] 0) :: [(x, instObj 413 d)]) := Has.cons (N2.get (by k_mem)) (Has.cons (N2.get (by k_mem)) Has.nil)
  (rename ExtB _ _ _ => hB9)
  have HG9 := has_but hB9 hn H
  k_steps
  (rename News _ _ _ _ => N9)
  (rename Fr _ _ _ _ => F9)
  have hE := extB_one hB9 F9
  have l3 : @Ne Nat x d := Ne.symm (Nat.ne_of_lt l2)
  have l4 : ∀ p ∈ news, p.1 ≠ d := fun p hp => Nat.ne_of_lt (l1 p hp)
  have hG := N9.get (a := d) (by k_mem)
  exact ⟨rfl, h x d _ _ _ _ _ _ _ (fr_one F2 N2 (o := dictOf [] 0) (by k_mem) hE) (news_one N2 (by k_upd) hE hG) l1 l2⟩
set_option maxHeartbeats 4000000 in
theorem reader_c (X : (K w.params).In h₀) (T : Top p loose mean mg mb h₀) (F : Fr h₀ L s.heap m) (N : News h₀ L s.heap news) (hd : dp + 6 < recursionLimit) (hu : un + 100 < cLine) {l : Addr}
    (h : ∀ x d t1 t2 t3 t4 nd h' tk', Fr h₀ L h' m → News h₀ L h' ((x, instObj 383 d) :: (d, rdD w t1 t2 t3 t4 l nd 0) :: news) → (∀ p ∈ news, p.1 < d) → d < x → Q (.ref x) { s with heap := h', toks := tk' }) :
    wpAny (model prog w) (Ar dp fr gd un) (call (.ref 383) [.ref l]) Q E s := by
  have reg : (K, PySem.Challenge.rw_pb0258_01).1 = K := by (k_fill; rfl)
  clear reg
  refine' call_cls (K := K w.params) F X N ?k4 ?k5 ?k6 ?_
  case k4 => k_is
  case k5 => k_is
  case k6 => k_is
  intro x d h1 F1 N1 l1 l2
  have hW : ∀ p ∈ [(d, dictOf [] 0)], h1.get? p.1 = some p.2 := fun p hp => by rw [List.mem_singleton.mp hp]; exact N1.get (by k_mem)
  have hN : ∀ p ∈ [(d, dictOf [] 0)], h₀.get? p.1 = none := fun p hp => by rw [List.mem_singleton.mp hp]; exact News.fresh N1 (by k_mem)
  have hn : ∀ q ∈ [(x, instObj 383 d)], q.1 ≠ d := fun q hq => by rw [List.mem_singleton.mp hq]; exact Ne.symm (Nat.ne_of_lt l2)
  have k₀ : Ext h₀ h1 := F1.keep
  have r1 : (x, instObj 383 d) ∈ [(x, instObj 383 d)] := .head _
  have F2 := F1
  have N2 := N1
  clear F1 N1 F N
  walk_at "ENTERI"
  have H : Has h1 ((d, dictOf [] 0) :: [(x, instObj 383 d)]) := Has.cons (N2.get (by k_mem)) (Has.cons (N2.get (by k_mem)) Has.nil)
  (rename ExtB _ _ _ => hB9)
  have HG9 := has_but hB9 hn H
  k_steps
  (rename News _ _ _ _ => N9)
  (rename Fr _ _ _ _ => F9)
  have hE := extB_one hB9 F9
  have l3 : @Ne Nat x d := Ne.symm (Nat.ne_of_lt l2)
  have l4 : ∀ p ∈ news, p.1 ≠ d := fun p hp => Nat.ne_of_lt (l1 p hp)
  have hG := N9.get (a := d) (by k_mem)
  exact ⟨rfl, h x d _ _ _ _ _ _ _ (fr_one F2 N2 (o := dictOf [] 0) (by k_mem) hE) (news_one N2 (by k_upd) hE hG) l1 l2⟩
end
section
open PyProof.Rows.LCg
variable {prog : Program} {w : World} {A : Around} {E : Value → Shared → Prop} {s : Shared} {h₀ : Heap} {L : Addr} {m : Str → Option Value} {env : Env} {R : Result → Shared → Prop} {elt t₁ t₂ i₁ i₂ : PySem.Expr} {scope : Scope} {pos : Pos} {it acc : Value}
theorem compTurn_fo :
    compTurn (.ListComp elt [⟨t₁, i₁, [], 0⟩, ⟨t₂, i₂, [], 0⟩] scope pos) 0 it acc env = (standAt i₁.pos >>= fun _ => pyNext it >>= fun r => match r with
      | none => pure (.done .next)
      | some v => letOwnedTupleGo t₁ it v >>= fun _ => assign t₁ env v >>= fun _ => eval i₂ env >>= fun x => standAt i₂.pos >>= fun _ => foldedSetIterable i₂ env x >>= fun x => holding [x] (pyIter x) >>= fun j =>
          runOwn (.compStart (.ListComp elt [⟨t₁, i₁, [], 0⟩, ⟨t₂, i₂, [], 0⟩] scope pos) 1 j acc env) env >>= fun _ =>
          again (.compLoop (.ListComp elt [⟨t₁, i₁, [], 0⟩, ⟨t₂, i₂, [], 0⟩] scope pos) 0 it acc env)) := by rfl
theorem compTurn_fi :
    compTurn (.ListComp elt [⟨t₁, i₁, [], 0⟩, ⟨t₂, i₂, [], 0⟩] scope pos) 1 it acc env = (standAt i₂.pos >>= fun _ => pyNext it >>= fun r => match r with
      | none => pure (.done .next)
      | some v => letOwnedTupleGo t₂ it v >>= fun _ => assign t₂ env v >>= fun _ =>
        (eval elt env >>= fun x => call (.builtin "list.append") [acc, x] >>= fun _ => pure ()) >>= fun _ =>
          again (.compLoop (.ListComp elt [⟨t₁, i₁, [], 0⟩, ⟨t₂, i₂, [], 0⟩] scope pos) 1 it acc env)) := by rfl
theorem codeAny_compStart_in
    (h0 : codeAny (model prog w) A (.compLoop (.ListComp elt [⟨t₁, i₁, [], 0⟩, ⟨t₂, i₂, [], 0⟩] scope pos) 1 it acc env) R s)
    (h : wpAny (model prog w) A (pyIter it) (fun it' s' => codeAny (model prog w) A (.compLoop (.ListComp elt [⟨t₁, i₁, [], 0⟩, ⟨t₂, i₂, [], 0⟩] scope pos) 1 it' acc env) R s')
      (notedBy (model prog w) A env fun x s' => R (.error x) s') s) :
    codeAny (model prog w) A (.compStart (.ListComp elt [⟨t₁, i₁, [], 0⟩, ⟨t₂, i₂, [], 0⟩] scope pos) 1 it acc env) R s := by
  refine codeAny_of_tree ?_
  show wpAny _ _ ((compStart (.ListComp elt [⟨t₁, i₁, [], 0⟩, ⟨t₂, i₂, [], 0⟩] scope pos) 1 it acc env).onRaise (fun x => do noteFrame x env; standAt theWindowsPlace)) _ _ s
  refine wpAny_notedAt ?_
  unfold compStart
  show wpAny _ _ (ask >>= _) _ _ s
  refine wpAny_bind (wpAny_askSetting (wpAny_ite ?_))
  split
  · first
      | exact wpAny_bind (wpAny_pure (wpAny_pure (And.intro rfl h0)))
      | exact wpAny_pure (And.intro rfl h0)
  · first
      | exact wpAny_bind (wpAny_rule (wpAny_bind (wpAny_standAt (wpAny_bind (wpAny_mono h (fun it' s' h' => wpAny_pure (And.intro rfl h')) fun _ _ x => x)))))
      | (refine wpAny_bind (wpAny_rule ?_); show wpAny _ _ (standAt i₂.pos >>= _) _ _ s; exact wpAny_bind (wpAny_standAt (wpAny_bind (wpAny_mono h (fun it' s' h' => wpAny_pure (And.intro rfl h')) fun _ _ x => x))))
variable {x y : Str} {px py pz : Pos} {cl : List (Str × Addr)} {J b C D : Addr} {its : Array Value} {ys : List Value}
/-- the inner loop: it lays the inner list's items behind -/
theorem flat_in (hh : A.handled = none) (hyd : (y == ("__debug__" : Str)) = false) (hkind : scope.kind = .function) (hy : scope.names.lookup y = some .local)
    (hDJ : @Ne Nat D J) (hDC : @Ne Nat D C) (hJC : @Ne Nat J C) (hbJ : @Ne Nat b J) (hbC : @Ne Nat b C) (hbD : @Ne Nat b D)
    (hit : s.heap.IsListIter J b 0) (hl : s.heap.IsList b its) (hacc : s.heap.get? D = some (lst ys)) (hn : s.heap.Ns C m) (hsz : ys.length + its.size ≤ sizeLine)
    (hR : ∀ h' tk m', h'.Ns C m' → h'.get? D = some (lst (ys ++ its.toList)) → (∀ b o, b ≠ C → b ≠ J → b ≠ D → s.heap.get? b = some o → h'.get? b = some o) → R (.ok .next) { s with heap := h', toks := tk }) :
    codeAny (model prog w) A (.compLoop (.ListComp (.Name y pz) [⟨.Name x px, i₁, [], 0⟩, ⟨.Name y py, i₂, [], 0⟩] scope pos) 1 (.ref J) (.ref D) (compEnvC scope cl C env)) R s := by
  have hck : (compEnvC scope cl C env).kindOf y = some .local := lookup_relabel_local hy
  have hcp : ((compEnvC scope cl C env).scope.kind == .class || ((compEnvC scope cl C env).scope.kind == .module && (compEnvC scope cl C env).locals != (compEnvC scope cl C env).globals)) = false := by simp [compEnvC, relabel, hkind]
  refine codeAny_loop rfl (fun k s' => ∃ h' tk i m', s' = { s with heap := h', toks := tk } ∧ i ≤ its.size ∧ k = its.size + 1 - i ∧ h'.IsListIter J b i ∧ h'.Ns C m' ∧ h'.get? D = some (lst (ys ++ its.toList.take i)) ∧
      (∀ b o, b ≠ C → b ≠ J → b ≠ D → s.heap.get? b = some o → h'.get? b = some o)) ?_ (its.size + 1) ⟨s.heap, s.toks, 0, m, rfl, Nat.zero_le _, rfl, hit, hn, by simpa using hacc, fun _ _ _ _ _ e => e⟩
  rintro k s' ⟨h', tk, i, m', rfl, hi, rfl, hit', hn', hacc', hk⟩
  show wpAny _ A ((compTurn (.ListComp (.Name y pz) [⟨.Name x px, i₁, [], 0⟩, ⟨.Name y py, i₂, [], 0⟩] scope pos) 1 (.ref J) (.ref D) (compEnvC scope cl C env)).onRaise (fun x => do noteFrame x (compEnvC scope cl C env); theTreesLotGoes x)) _ _ _
  refine wpAny_noted ?_
  rw [compTurn_fi]
  have hl' : h'.IsList b its := hl.at fun o e => hk b o hbC hbJ hbD e
  refine wpAny_bind (wpAny_standAt (wpAny_bind ?_))
  cases hv : its[i]? with
  | none =>
    have hsz' : its.size ≤ i := by simpa using hv
    refine wpAny_pyNext_list_end hh hit' hl' hv fun h₁ he₁ => ?_
    refine wpAny_pure (hR h₁ tk m' (hn'.extBut he₁ (Ne.symm hJC)) ?_ fun b o hbC hbI hbD e => he₁ b o hbI (hk b o hbC hbI hbD e))
    rw [he₁ D _ hDJ hacc', List.take_of_length_le (by simpa using hsz')]
  | some v =>
    have hlt : i < its.size := (Array.getElem?_eq_some_iff.mp hv).1
    have hvl : its.toList[i]? = some v := by simpa using hv
    refine wpAny_pyNext_list_item hit' hl' hv fun h₁ hit₁ hs₁ => ?_
    refine wpAny_bind (wpAny_of_eq (by rfl) ?_)
    refine wpAny_bind (wpAny_assign_Name (wpAny_storeName_local hck (hn'.sameBut hs₁ (Ne.symm hJC)) (fun h₂ hn₂ hs₂ => ?_) hcp))
    refine wpAny_bind (wpAny_bind (wpAny_Name (wpAny_loadName_local (by simp [compEnvC, relabel, hkind]) hck hn₂ (if_pos rfl) (wpAny_bind ?_)) hyd))
    have hD₂ : h₂.get? D = some (lst (ys ++ its.toList.take i)) := hs₂.extBut D _ hDC (hs₁.extBut D _ hDJ hacc')
    refine append_at (hsz := by simp only [List.size_toArray, List.length_append, List.length_take, Array.length_toList]; omega) hD₂ fun h₃ hs₃ hD₃ => ?_
    refine wpAny_pure (wpAny_pure ⟨rfl, its.size + 1 - (i + 1), by omega, h₃, _, i + 1, _, rfl, hlt, rfl, (hit₁.extBut hs₂.extBut hJC).extBut hs₃.extBut (Ne.symm hDJ), hn₂.sameBut hs₃ (Ne.symm hDC), ?_, fun b o hbC hbI hbD e => hs₃.extBut b o hbD (hs₂.extBut b o hbC (hs₁.extBut b o hbI (hk b o hbC hbI hbD e)))⟩)
    rw [hD₃]
    refine congrArg some ((lst_snoc _ v).trans ?_)
    rw [List.append_assoc, List.take_add_one, hvl]; rfl
/-- the end of the inner iterable's evaluation -/
noncomputable def FlatEnd (h₀ : Heap) (L : Addr) (m : Str → Option Value) (s₁ : Shared) (I : Addr) (oI : Obj) (C : Addr) (oC : Obj) (D : Addr) (ys : List Value) (S : Led → Prop) (J : List Value → Led → Prop) (yv : Value) (s₃ : Shared) : Prop :=
  ∃ b k inn, yv = .ref b ∧ ys.length + List.length inn ≤ sizeLine ∧ CompEnd h₀ L m s₁ I oI C oC D (lst ys) S (fun _ nw => (b, listOf (List.toArray inn) k) ∈ nw ∧ J (ys ++ inn) nw) yv s₃
theorem FlatEnd.intro {h₀ : Heap} {L : Addr} {m : Str → Option Value} {s₁ : Shared} {I : Addr} {oI : Obj} {C : Addr} {oC : Obj} {D : Addr} {ys : List Value} {S : Led → Prop} {J : List Value → Led → Prop} {h' : Heap} {tk : Nat} {all : Led} {b : Addr} {k : Nat} {inn : List Value}
    (F : Fr h₀ L h' m) (N : News h₀ L h' all) (news' : Led) (sub : ∀ p ∈ (I, oI) :: (C, oC) :: (D, lst ys) :: news', p ∈ all) (off : Off3 I C D news') (hS : S news') (hsz : ys.length + inn.length ≤ sizeLine) (hb : (b, listOf (List.toArray inn) k) ∈ news') (r : J (ys ++ inn) news') :
    FlatEnd h₀ L m s₁ I oI C oC D ys S J (.ref b) { s₁ with heap := h', toks := tk } := ⟨b, k, inn, rfl, hsz, CompEnd.intro F N news' sub off hS ⟨hb, r⟩⟩
noncomputable abbrev FStep (prog : Program) (w : World) (A : Around) (h₀ : Heap) (L : Addr) (m : Str → Option Value) (env : Env) (i₂ : PySem.Expr) (x : Str) (scope : Scope) (cl : List (Str × Addr)) (s : Shared) (ax : Addr) (its : Array Value) (Inv : Nat → List Value → Led → Prop) : Prop :=
  ∀ i ys news, i < its.size → Inv i ys news → ∀ v I oI C oC D m₂ h tk (E' : Value → Shared → Prop), its[i]? = some v → NsObj oC m₂ → m₂ x = some v → Fr h₀ L h m → News h₀ L h ((I, oI) :: (C, oC) :: (D, lst ys) :: news) → Off3 I C D news → ((@Ne Nat I C) ∧ (@Ne Nat I D) ∧ (@Ne Nat C D)) →
    wpAny (model prog w) A (eval i₂ (compEnvC scope cl C env)) (FlatEnd h₀ L m { s with heap := h, toks := tk } I oI C oC D ys (SrcAt h₀ ax its) (Inv (i + 1))) E' { s with heap := h, toks := tk }
set_option maxHeartbeats 4000000 in
theorem block_F {I ax : Addr} {news : Led} {RR : Value → Addr → Result → Shared → Prop} (Inv : Nat → List Value → Led → Prop) (hh : A.handled = none) (hyd : (y == ("__debug__" : Str)) = false)
    (hcell : ∀ y ∈ scope.names, y.2 ≠ .cell) (hkind : scope.kind = .function) (hx : scope.names.lookup x = some .local) (hy : scope.names.lookup y = some .local)
    (hs₂ : ∀ C z, foldedSetIterable i₂ (compEnvC scope cl C env) z = pure z)
    (hst : s.heap.IsListIter I ax 0 ∧ s.heap.IsList ax its) (hax : ax < s.heap.objs.size) (hI : I < s.heap.objs.size) (haI : @Ne Nat ax I)
    (F : Fr h₀ L s.heap m) (N : News h₀ L s.heap news) (hIL : L ≠ I) (hI₀ : h₀.get? I = none) (off : ∀ p ∈ news, p.1 ≠ I) (hS : SrcAt h₀ ax its news) (h0 : Inv 0 [] news)
    (R : FStep prog w A h₀ L m env i₂ x scope cl s ax its Inv)
    (hRR : ∀ D C h tk m' ys news', Fr h₀ L h m → News h₀ L h ((D, lst ys) :: news') → Off1 D news' → h.Ns C m' → h₀.get? C = none → h₀.get? D = none → C ≠ L → D ≠ L → C ≠ D → (∀ p ∈ news', p.1 ≠ C) → Inv its.size ys news' → RR (.ref D) C (.ok .next) { s with heap := h, toks := tk }) :
    wpAny (model prog w) A (newList []) (fun acc s₃ => wpAny (model prog w) A (newFunctionEnv scope env.globals cl [] env.qual none .none (some env)) (fun cenv s₄ =>
      codeAny (model prog w) A (.compStart (.ListComp (.Name y pz) [⟨.Name x px, i₁, [], 0⟩, ⟨.Name y py, i₂, [], 0⟩] scope pos) 0 (.ref I) acc { cenv with scope := relabel scope env }) (RR acc cenv.locals) s₄) E s₃) E s := by
  refine wpAny_newObj_type (wpAny_newFunctionEnv hcell (by intro y hy; simp at hy) (fun h₁ hns₁ hsb₁ => ?_) hkind)
  dsimp only at hns₁ hsb₁ ⊢
  generalize hH2 : s.heap.push { cls := .type "list", dict := none, data := .seq ([] : List Value).toArray } = H2 at hns₁ hsb₁ ⊢
  have hC : H2.objs.size = s.heap.objs.size + 1 := by rw [← hH2, Heap.size_push]
  have hDC : s.heap.objs.size ≠ H2.objs.size := by rw [hC]; exact Nat.ne_of_lt (Nat.lt_succ_self _)
  have below : ∀ b, b < s.heap.objs.size → b ≠ H2.objs.size ∧ b ≠ s.heap.objs.size := fun b hb => ⟨by rw [hC]; exact Nat.ne_of_lt (Nat.lt_succ_of_lt hb), Nat.ne_of_lt hb⟩
  have old : ∀ b o, s.heap.get? b = some o → h₁.get? b = some o := fun b o e => hsb₁.extBut b o (below b (Heap.lt_size e)).1 (Heap.get?_push_of_some _ (hH2 ▸ Heap.get?_push_of_some _ e))
  have hacc : h₁.get? s.heap.objs.size = some (lst []) := hsb₁.extBut _ _ hDC (Heap.get?_push_of_some _ (hH2 ▸ Heap.get?_push_size _ rfl))
  have fresh : ∀ a, s.heap.objs.size ≤ a → s.heap.get? a = none := fun a ha => by
    cases e : s.heap.get? a with
    | none => rfl
    | some o' => exact absurd (Heap.lt_size e) (Nat.not_lt.mpr ha)
  have fresh₀ : ∀ a, s.heap.objs.size ≤ a → h₀.get? a = none := fun a ha => by
    cases e : h₀.get? a with
    | none => rfl
    | some o' => have := F.keep a o' e; rw [fresh a ha] at this; cases this
  have hD₀ : h₀.get? s.heap.objs.size = none := fresh₀ _ (Nat.le_refl _)
  have hC₀ : h₀.get? H2.objs.size = none := fresh₀ _ (by rw [hC]; exact Nat.le_succ _)
  have hLlt : L < s.heap.objs.size := F.ns.lt
  have hDL : s.heap.objs.size ≠ L := Ne.symm (below L hLlt).2
  have hCL : H2.objs.size ≠ L := Ne.symm (below L hLlt).1
  have hCI : I ≠ H2.objs.size := (below I hI).1
  have hDI : I ≠ s.heap.objs.size := (below I hI).2
  have off₀ : Off3 I H2.objs.size s.heap.objs.size news := Off3.of fun p hp => ⟨off p hp, (below _ (Heap.lt_size (N p hp).1)).1, (below _ (Heap.lt_size (N p hp).1)).2⟩
  have hck : (compEnvC scope cl H2.objs.size env).kindOf x = some .local := lookup_relabel_local hx
  have hcp : ((compEnvC scope cl H2.objs.size env).scope.kind == .class || ((compEnvC scope cl H2.objs.size env).scope.kind == .module && (compEnvC scope cl H2.objs.size env).locals != (compEnvC scope cl H2.objs.size env).globals)) = false := by simp [compEnvC, relabel, hkind]
  have loop : ∀ s₃ : Shared, s₃ = { s with heap := h₁, toks := s.toks + ([] : List (Str × Value)).length } →
      codeAny (model prog w) A (.compLoop (.ListComp (.Name y pz) [⟨.Name x px, i₁, [], 0⟩, ⟨.Name y py, i₂, [], 0⟩] scope pos) 0 (.ref I) (.ref s.heap.objs.size) (compEnvC scope cl H2.objs.size env))
        (RR (.ref s.heap.objs.size) H2.objs.size) s₃ := by
    rintro s₃ rfl
    refine codeAny_loop rfl
      (fun k s' => ∃ h' tk i ys m' news', s' = { s with heap := h', toks := tk } ∧ i ≤ its.size ∧ k = its.size + 1 - i ∧ h'.IsListIter I ax i ∧ Fr h₀ L h' m ∧ h'.Ns H2.objs.size m' ∧ News h₀ L h' ((s.heap.objs.size, lst ys) :: news') ∧
        Off3 I H2.objs.size s.heap.objs.size news' ∧ SrcAt h₀ ax its news' ∧ Inv i ys news') ?_ (its.size + 1)
      ⟨h₁, _, 0, [], _, news, rfl, Nat.zero_le _, rfl, hst.1.at fun o e => old _ o e, F.keeps old, hns₁, fun p hp => ?_, off₀, hS, h0⟩
    · rintro k s' ⟨h', tk, i, ys, m', news', rfl, hi, rfl, hit', F', hn', N', off', hS', R'⟩
      show wpAny _ A ((compTurn (.ListComp (.Name y pz) [⟨.Name x px, i₁, [], 0⟩, ⟨.Name y py, i₂, [], 0⟩] scope pos) 0 (.ref I) (.ref s.heap.objs.size) (compEnvC scope cl H2.objs.size env)).onRaise (fun x => do noteFrame x (compEnvC scope cl H2.objs.size env); theTreesLotGoes x)) _ _ _
      refine wpAny_noted ?_
      rw [compTurn_fo]
      refine wpAny_bind (wpAny_standAt (wpAny_bind ?_))
      have N'' : News h₀ L h' news' := fun p hp => N' p (List.mem_cons_of_mem _ hp)
      have hl' : h'.IsList ax its := hS'.list F'.keep N''
      have off3 := off'.mem
      cases hv : its[i]? with
      | none =>
        have hsz' : its.size ≤ i := by simpa using hv
        obtain rfl : i = its.size := Nat.le_antisymm hi hsz'
        refine wpAny_pyNext_list_end hh hit' hl' hv fun h₂ he₂ => ?_
        have hk₂ : ∀ b o, b ∉ [I] → h'.get? b = some o → h₂.get? b = some o := fun b o hb e => he₂ b o (by simpa using hb) e
        exact wpAny_pure (hRR _ _ h₂ _ _ ys news' (fr_but F' hk₂ hIL hI₀) (news_but N' hk₂ fun p hp => by
          rcases List.mem_cons.mp hp with rfl | hp
          · exact Ne.symm hDI
          · exact (off3 p hp).1) off'.one (hn'.at' fun o e => hk₂ _ o (by simpa using Ne.symm hCI) e) hC₀ hD₀ hCL hDL (Ne.symm hDC) (fun p hp => (off3 p hp).2.1) R')
      | some v =>
        have hlt : i < its.size := (Array.getElem?_eq_some_iff.mp hv).1
        refine wpAny_pyNext_list_item hit' hl' hv fun h₂ hit₂ hs₂' => ?_
        have hk₂ : ∀ b o, b ∉ [I] → h'.get? b = some o → h₂.get? b = some o := fun b o hb e => hs₂'.extBut b o (by simpa using hb) e
        refine wpAny_bind (wpAny_of_eq (by rfl) ?_)
        refine wpAny_bind (wpAny_assign_Name (wpAny_storeName_local hck (hn'.sameBut hs₂' (Ne.symm hCI)) (fun h₃ hn₃ hs₃ => ?_) hcp))
        obtain ⟨oI, heI, hoI⟩ := hit₂.extBut hs₃.extBut hCI
        obtain ⟨oC, heC, hoC⟩ := ns_obj hn₃
        have F₃ : Fr h₀ L h₃ m := (fr_but F' hk₂ hIL hI₀).change hs₃ hCL hC₀
        have N₂ : News h₀ L h₂ ((s.heap.objs.size, lst ys) :: news') := news_but N' hk₂ fun p hp => by
          rcases List.mem_cons.mp hp with rfl | hp
          · exact Ne.symm hDI
          · exact (off3 p hp).1
        have N₃ : News h₀ L h₃ ((I, oI) :: (H2.objs.size, oC) :: (s.heap.objs.size, lst ys) :: news') := fun p hp => by
          rcases List.mem_cons.mp hp with rfl | hp
          · exact ⟨heI, Ne.symm hIL, hI₀⟩
          · rcases List.mem_cons.mp hp with rfl | hp
            · exact ⟨heC, hCL, hC₀⟩
            · have z := N₂ p hp
              refine ⟨hs₃.extBut _ _ ?_ z.1, z.2⟩
              rcases List.mem_cons.mp hp with rfl | hp
              · exact hDC
              · exact (off3 p hp).2.1
        refine wpAny_bind (wpAny_mono (R i ys news' hlt R' v I oI H2.objs.size oC s.heap.objs.size _ h₃ _ _ hv hoC (if_pos rfl) F₃ N₃ off' ⟨hCI, hDI, Ne.symm hDC⟩) (fun yv s₄ h₄ => ?_) fun _ _ e => e)
        obtain ⟨b, kb, inn, rfl, hsz, h₄, tk₄, news₄, rfl, F₄, N₄, off₄, hS₄, hb₄, R₄⟩ := h₄
        have zI := (N₄ (I, oI) List.mem_cons_self).1
        have zC := (N₄ (H2.objs.size, oC) (List.mem_cons_of_mem _ List.mem_cons_self)).1
        have zD := (N₄ (s.heap.objs.size, lst ys) (List.mem_cons_of_mem _ (List.mem_cons_of_mem _ List.mem_cons_self))).1
        have N₄' : News h₀ L h₄ news₄ := fun p hp => N₄ p (List.mem_cons_of_mem _ (List.mem_cons_of_mem _ (List.mem_cons_of_mem _ hp)))
        have off4 := off₄.mem
        have zb := (N₄' _ hb₄).1
        have hlb : h₄.IsList b inn.toArray := ⟨_, zb, rfl, _, rfl⟩
        refine wpAny_bind (wpAny_standAt (wpAny_bind (wpAny_of_eq (hs₂ _ _) (wpAny_bind (wpAny_holding (wpAny_pyIter_list hlb ?_))))))
        have up : ∀ c o, h₄.get? c = some o → (h₄.push { cls := .type "list_iterator", data := .fields #[.ref b, .int 0 0] }).get? c = some o := fun c o e => Heap.get?_push_of_some _ e
        have hneJ : ∀ c o, h₄.get? c = some o → @Ne Nat c h₄.objs.size := fun c o e => Nat.ne_of_lt (Heap.lt_size e)
        refine wpAny_bind (wpAny_runOwn (h := none) ?_)
        rw [Around.mark_none]
        have inner := fun (R : Result → Shared → Prop) => flat_in (prog := prog) (w := w) (R := R) (s := { s with heap := h₄.push { cls := .type "list_iterator", data := .fields #[.ref b, .int 0 0] }, toks := tk₄ }) (i₁ := i₁) (i₂ := i₂) (pos := pos) (x := x) (px := px) (py := py) (pz := pz) (scope := scope) (cl := cl) (env := env) hh hyd hkind hy
          (hneJ _ _ zD) hDC (Ne.symm (hneJ _ _ zC)) (hneJ _ _ zb) (off4 _ hb₄).2.1 (off4 _ hb₄).2.2 ⟨_, Heap.get?_push_size _ rfl, rfl, rfl⟩ (hlb.at fun o e => up _ o e) (up _ _ zD) (Heap.Ns.keeps (hoC.ns zC) up) (by simpa using hsz)
        have hJit : (h₄.push { cls := .type "list_iterator", data := .fields #[.ref b, .int 0 0] }).IsListIter h₄.objs.size b 0 := ⟨_, Heap.get?_push_size _ rfl, rfl, rfl⟩
        have fin : ∀ h₅ tk₅ m₅, Heap.Ns h₅ H2.objs.size m₅ → h₅.get? s.heap.objs.size = some (lst (ys ++ inn.toArray.toList)) → (∀ c o, c ≠ H2.objs.size → c ≠ h₄.objs.size → c ≠ s.heap.objs.size → (h₄.push { cls := .type "list_iterator", data := .fields #[.ref b, .int 0 0] }).get? c = some o → h₅.get? c = some o) →
            ∃ m', m' < its.size + 1 - i ∧ ∃ h' tk i ys m'' news', ({ s with heap := h₅, toks := tk₅ } : Shared) = { s with heap := h', toks := tk } ∧ i ≤ its.size ∧ m' = its.size + 1 - i ∧ h'.IsListIter I ax i ∧ Fr h₀ L h' m ∧ h'.Ns H2.objs.size m'' ∧ News h₀ L h' ((s.heap.objs.size, lst ys) :: news') ∧
              Off3 I H2.objs.size s.heap.objs.size news' ∧ SrcAt h₀ ax its news' ∧ Inv i ys news' := by
          intro h₅ tk₅ m₅ hn₅ hD₅ hk₅
          have keep5 : ∀ c o, h₄.get? c = some o → c ≠ H2.objs.size → c ≠ s.heap.objs.size → h₅.get? c = some o := fun c o e hc hd => hk₅ c o hc (hneJ c o e) hd (up c o e)
          refine ⟨its.size + 1 - (i + 1), by omega, h₅, tk₅, i + 1, ys ++ inn, m₅, news₄, rfl, hlt, rfl, ⟨oI, keep5 _ _ zI hCI hDI, hoI⟩, ⟨F₄.ns.at' fun o e => keep5 _ _ e (Ne.symm hCL) (Ne.symm hDL), fun c o e => keep5 c o (F₄.keep c o e) (fun q => by rw [q, hC₀] at e; cases e) (fun q => by rw [q, hD₀] at e; cases e), F₄.above⟩, hn₅, fun p hp => ?_, off₄, hS₄, R₄⟩
          rcases List.mem_cons.mp hp with rfl | hp
          · exact ⟨hD₅, hDL, hD₀⟩
          · exact ⟨keep5 _ _ (N₄' p hp).1 (off4 p hp).2.1 (off4 p hp).2.2, (N₄' p hp).2⟩
        refine codeAny_compStart_in (inner _ fun h₅ tk₅ m₅ hn₅ hD₅ hk₅ => ?_) (wpAny_pyIter_listiter hJit (inner _ fun h₅ tk₅ m₅ hn₅ hD₅ hk₅ => ?_))
        · exact wpAny_pure ⟨rfl, fin h₅ tk₅ m₅ hn₅ hD₅ hk₅⟩
        · exact wpAny_pure ⟨rfl, fin h₅ tk₅ m₅ hn₅ hD₅ hk₅⟩
    · rcases List.mem_cons.mp hp with rfl | hp
      · exact ⟨hacc, hDL, hD₀⟩
      · exact ⟨old _ _ (N p hp).1, (N p hp).2⟩
  have hit₁ : h₁.IsListIter I ax 0 := hst.1.at fun o e => old _ o e
  exact codeAny_compStart_list (loop _ rfl) (wpAny_pyIter_listiter hit₁ (loop _ rfl))
/-- the source of a comprehension with two fors -/
noncomputable def SrcLF (prog : Program) (w : World) (A : Around) (h₀ : Heap) (L : Addr) (m : Str → Option Value) (env : Env) (i₂ : PySem.Expr) (x : Str) (scope : Scope) (cl : List (Str × Addr)) (Fin : Shared → List Value → Led → Prop) (xv : Value) (s₁ : Shared) : Prop :=
  ∃ ax its news, ∃ Inv : Nat → List Value → Led → Prop, xv = .ref ax ∧ A.handled = none ∧ Fr h₀ L s₁.heap m ∧ News h₀ L s₁.heap news ∧ SrcAt h₀ ax its news ∧ Inv 0 [] news ∧ (∀ ys nw, Inv its.size ys nw → Fin s₁ ys nw) ∧ FStep prog w A h₀ L m env i₂ x scope cl s₁ ax its Inv
theorem SrcLF.ledger {Fin : Shared → List Value → Led → Prop} {ax : Addr} {its : List Value} {k : Nat} {news : Led} (Inv : Nat → List Value → Led → Prop)
    (hh : A.handled = none) (F : Fr h₀ L s.heap m) (N : News h₀ L s.heap news) (hm : (ax, listOf (List.toArray its) k) ∈ news) (h0 : Inv 0 [] news) (hf : ∀ ys nw, Inv its.toArray.size ys nw → Fin s ys nw) (R : FStep prog w A h₀ L m env i₂ x scope cl s ax its.toArray Inv) :
    SrcLF prog w A h₀ L m env i₂ x scope cl Fin (.ref ax) s := ⟨ax, its.toArray, news, Inv, rfl, hh, F, N, .inr ⟨_, hm, rfl, _, rfl⟩, h0, hf, R⟩
theorem ListComp_F {Q : Value → Shared → Prop} (F₀ : Fr h₀ L s.heap m) (hclos : closureFor scope env = pure cl) (hcell : ∀ y ∈ scope.names, y.2 ≠ .cell) (hkind : scope.kind = .function)
    (hnames : ∀ y ∈ scope.names, y.2 = .local → scope.names.lookup y.1 = some .local) (hx : scope.names.lookup x = some .local) (hy : scope.names.lookup y = some .local) (hyd : (y == ("__debug__" : Str)) = false) (hs₂ : ∀ C z, foldedSetIterable i₂ (compEnvC scope cl C env) z = pure z)
    (h : wpAny (model prog w) A (eval i₁ env) (SrcLF prog w A h₀ L m env i₂ x scope cl (fun s₂ => FinE h₀ L m s₂ Q)) E s)
    (hs : ∀ x, foldedSetIterable i₁ env x = pure x := by intro _; rfl) :
    wpAny (model prog w) A (eval (.ListComp (.Name y pz) [⟨.Name x px, i₁, [], 0⟩, ⟨.Name y py, i₂, [], 0⟩] scope pos) env) Q E s := by
  rw [eval_ListComp]
  refine wpAny_comprehension_free (use := none) rfl hs hclos hkind hnames (wpAny_mono h (fun xv s₁ h₁ => ?_) fun _ _ e => e)
  obtain ⟨ax, its, news, Inv, rfl, hh, F, N, S, h0, hf, R⟩ := h₁
  have hl := S.list F.keep N
  have hlt : ax < s₁.heap.objs.size := by obtain ⟨_, e, _⟩ := hl; exact Heap.lt_size e
  refine wpAny_pyIter_list hl ?_
  have up : ∀ b o, s₁.heap.get? b = some o → (s₁.heap.push { cls := .type "list_iterator", data := .fields #[.ref ax, .int 0 0] }).get? b = some o := fun b o e => Heap.get?_push_of_some _ e
  refine block_F (s := { s₁ with heap := s₁.heap.push { cls := .type "list_iterator", data := .fields #[.ref ax, .int 0 0] } }) (I := s₁.heap.objs.size) Inv hh hyd hcell hkind hx hy hs₂ ⟨⟨_, Heap.get?_push_size _ rfl, rfl, rfl⟩, hl.push _⟩ (by show _ < (s₁.heap.push _).objs.size; rw [Heap.size_push]; exact Nat.lt_succ_of_lt hlt) (by show _ < (s₁.heap.push _).objs.size; rw [Heap.size_push]; exact Nat.lt_succ_self _) (Nat.ne_of_lt hlt)
    (F.keeps up) (N.grown up) (Nat.ne_of_lt F.ns.lt) (next_is_new F) (fun p hp => Nat.ne_of_lt (Heap.lt_size (N p hp).1)) S h0 R ?_
  intro D C h tk m' ys news' F' N' o1 hn hC₀ hD₀ hCL hDL hCD offC fin
  refine ⟨m', hn, fun h'' hs'' => hf _ _ fin D h'' tk (F'.change hs'' hCL hC₀) (fun p hp => ?_) o1⟩
  refine ⟨hs''.extBut _ _ ?_ (N' p hp).1, (N' p hp).2⟩
  rcases List.mem_cons.mp hp with rfl | hp
  · exact Ne.symm hCD
  · exact offC p hp
theorem Assign_ListComp_F {z : Str} {pw : Pos} {spos : Pos} {Q : Flow → Shared → Prop} (F₀ : Fr h₀ L s.heap m) (hLe : env.locals = L)
    (hsw : swapsWith (.ListComp (.Name y pz) [⟨.Name x px, i₁, [], 0⟩, ⟨.Name y py, i₂, [], 0⟩] scope pos) (some (.Name z pw)) spos.line env = pure true) (hclos : closureFor scope env = pure cl) (hcell : ∀ y ∈ scope.names, y.2 ≠ .cell) (hkind : scope.kind = .function)
    (hnames : ∀ y ∈ scope.names, y.2 = .local → scope.names.lookup y.1 = some .local) (hx : scope.names.lookup x = some .local) (hy : scope.names.lookup y = some .local) (hyd : (y == ("__debug__" : Str)) = false) (hs₂ : ∀ C z, foldedSetIterable i₂ (compEnvC scope cl C env) z = pure z)
    (hz : env.kindOf z = some .local) (hp : (env.scope.kind == .class || (env.scope.kind == .module && env.locals != env.globals)) = false)
    (h : wpAny (model prog w) A (eval i₁ env) (SrcLF prog w A h₀ L m env i₂ x scope cl (fun s₂ => FinA h₀ L m s₂ z Q)) E s)
    (hs : ∀ x, foldedSetIterable i₁ env x = pure x := by intro _; rfl) :
    wpAny (model prog w) A (exec (.Assign [.Name z pw] (.ListComp (.Name y pz) [⟨.Name x px, i₁, [], 0⟩, ⟨.Name y py, i₂, [], 0⟩] scope pos) spos) env) Q E s := by
  subst hLe
  rw [exec_Assign_Name_used _ _ _ _ hsw]
  refine wpAny_bind (wpAny_standAt (wpAny_bind ?_))
  show wpAny _ A (do let _ ← comprehension (.ListComp (.Name y pz) [⟨.Name x px, i₁, [], 0⟩, ⟨.Name y py, i₂, [], 0⟩] scope pos) scope env _ (newList []) false (eval i₁ env) (some (assign (.Name z pw) env))) _ _ s
  refine wpAny_bind (wpAny_mono (wpAny_comprehension_free (use := some (assign (.Name z pw) env)) (Q := fun _ s' => Q .next s') rfl hs hclos hkind hnames
    (wpAny_mono h (fun xv s₁ h₁ => ?_) fun _ _ e => e)) (fun _ s' hq => wpAny_pure (wpAny_pure hq)) fun _ _ e => e)
  obtain ⟨ax, its, news, Inv, rfl, hh, F, N, S, h0, hf, R⟩ := h₁
  have hl := S.list F.keep N
  have hlt : ax < s₁.heap.objs.size := by obtain ⟨_, e, _⟩ := hl; exact Heap.lt_size e
  refine wpAny_pyIter_list hl ?_
  have up : ∀ b o, s₁.heap.get? b = some o → (s₁.heap.push { cls := .type "list_iterator", data := .fields #[.ref ax, .int 0 0] }).get? b = some o := fun b o e => Heap.get?_push_of_some _ e
  refine block_F (s := { s₁ with heap := s₁.heap.push { cls := .type "list_iterator", data := .fields #[.ref ax, .int 0 0] } }) (I := s₁.heap.objs.size) Inv hh hyd hcell hkind hx hy hs₂ ⟨⟨_, Heap.get?_push_size _ rfl, rfl, rfl⟩, hl.push _⟩ (by show _ < (s₁.heap.push _).objs.size; rw [Heap.size_push]; exact Nat.lt_succ_of_lt hlt) (by show _ < (s₁.heap.push _).objs.size; rw [Heap.size_push]; exact Nat.lt_succ_self _) (Nat.ne_of_lt hlt)
    (F.keeps up) (N.grown up) (Nat.ne_of_lt F.ns.lt) (next_is_new F) (fun p hp => Nat.ne_of_lt (Heap.lt_size (N p hp).1)) S h0 R ?_
  intro D C h' tk m' ys news' F' N' o1 hn hC₀ hD₀ hCL hDL hCD offC fin
  show wpAny _ A (assign (.Name z pw) env (.ref D)) _ _ _
  refine wpAny_assign_Name (wpAny_storeName_local hz F'.ns (fun h₂ hn₂ hs₂ => ?_) hp)
  have hL₀ : h₀.get? env.locals = none := Heap.get?_none_of_le F'.above
  have F₂ : Fr h₀ env.locals h₂ (fun u => if u = z then some (.ref D) else m u) := ⟨hn₂, fun b o e => hs₂.extBut b o (fun q => by rw [q, hL₀] at e; cases e) (F'.keep b o e), F'.above⟩
  refine ⟨m', hn.sameBut hs₂ hCL, fun h'' hs'' => hf _ _ fin D h'' _ (F₂.change hs'' hCL hC₀) (fun p hp => ?_) o1⟩
  have zz : h₂.get? p.1 = some p.2 := hs₂.extBut _ _ (N' p hp).2.1 (N' p hp).1
  refine ⟨hs''.extBut _ _ ?_ zz, (N' p hp).2⟩
  rcases List.mem_cons.mp hp with rfl | hp
  · exact Ne.symm hCD
  · exact offC p hp
end
theorem ContsIn.mono {tl tl' : Led} {ss : List Value} (x : ContsIn tl ss) (k : ∀ p ∈ tl, p ∈ tl') : ContsIn tl' ss := fun v hv => let ⟨q, nq, u, e, m⟩ := x v hv; ⟨q, nq, u, e, k _ m⟩
theorem toofew {a b : Nat} (h1 : a < 2 ^ 20) (h2 : b ≤ 2 ^ 20) : a + b ≤ sizeLine := by unfold sizeLine; omega
section
variable {prog : Program} {w : World} {A : Around} {E : Value → Shared → Prop} {s : Shared} {g h : Heap} {L D a b l : Addr} {m : Str → Option Value} {news news' : Led} {us its2 : List Value} {v : Value} {na nb n n2 : Nat}
theorem eq_tup_nil {Q : Value → Shared → Prop} (N : News g L s.heap news) (h1 : (a, tupO us na) ∈ news) (h2 : (b, tupO [] nb) ∈ news) (hne : us.length ≠ 0) (hu : A.units < cLine) (h : Q (.bool false) s) : wpAny (model prog w) A (compareOp .Eq (.ref a) (.ref b)) Q E s := by
  refine SeqAt.eq_tupleAt (e := fun _ => true) (N.isTup h1) (N.isTup h2) hu (fun j _ h2 => absurd h2 (Nat.not_lt_zero _)) ?_
  have e : (us.toArray.size == ([] : List Value).toArray.size) = false := by
    rw [List.size_toArray]
    exact beq_false_of_ne hne
  rw [e, Bool.and_false]
  exact h
theorem item_neg1 {value slice : PySem.Expr} {u : Tok} {k : Int} {Q : Value → Shared → Prop} (N : News g L s.heap news) (hl : (l, listOf (List.toArray (us ++ [v])) n) ∈ news) (hk : k = -1) (hlen : us.length < 2 ^ 20) (h : Q v s)
    (hs : subscripted slice false (.ref l) (.int k u) = operate [.ref l, .int k u] (getItem (.ref l) (.int k u)) := by with_unfolding_all rfl) :
    wpAny (model prog w) A (subscriptTail value slice (.ref l) (.int k u)) Q E s := by
  subst hk
  have e : (List.toArray (us ++ [v])).size = us.length + 1 := by simp
  refine tail_any (N.isList hl).typeIs slot_list_getitem.lookup (wpAny_getItem_list_neg (N.isList hl) (by omega) (by rw [e]; omega) (by omega) ?_ h) hs
  rw [e, show (-1 + ((us.length + 1 : Nat) : Int)).toNat = us.length from by omega]
  simp
theorem extend_tup {Q : Value → Shared → Prop} (F : Fr g L s.heap m) (N : News g L s.heap news) (hb : (b, tupO its2 n2) ∈ news) (hne : its2.length ≠ 0) (U : Upd D (listOf us.toArray n) (listOf (us ++ its2).toArray (n + 1)) news news') (h1 : us.length < 2 ^ 20) (h2 : its2.length ≤ 2 ^ 20)
    (h : ∀ h', Fr g L h' m → News g L h' news' → Q .none { s with heap := h' }) : wpAny (model prog w) A (call (.builtin "list.extend") [.ref D, .ref b]) Q E s :=
  kup_extend F N hb rfl hne U (extend_door (toofew (by simpa using h1) (by simpa using h2))) (Nat.le_trans (Nat.le_of_lt h1) (by unfold sizeLine; omega)) (Nat.le_succ_of_le (toofew (by simpa using h1) (by simpa using h2))) h
theorem tuple_of_list {Q : Value → Shared → Prop} (F : Fr g L s.heap m) (N : News g L s.heap news) (hl : (l, listOf us.toArray n) ∈ news) (hz : us.length < 2 ^ 20)
    (h : ∀ D h', Fr g L h' m → News g L h' ((D, ({ cls := .type "tuple", data := .seq us.toArray } : Obj)) :: news) → (∀ p ∈ news, p.1 < D) → Q (.ref D) { s with heap := h' }) : wpAny (model prog w) A (call (.type "tuple") [.ref l]) Q E s := by
  refine call_tuple_list (N.isList hl) (fun h' hk => ?_) (by rw [sizeLine_eq, List.size_toArray]; omega)
  have F' : Fr g L h' m := F.keeps hk
  have N' : News g L h' news := fun p hp => ⟨hk _ _ (N p hp).1, (N p hp).2⟩
  exact h _ _ (F'.push _) (N'.push F' _) fun p hp => Heap.lt_size (N' p hp).1
theorem item_news {value slice : PySem.Expr} {u : Tok} {k : Int} {x : Value} {Q : Value → Shared → Prop} (N : News g L s.heap news) (hl : (l, listOf (List.toArray us) n) ∈ news) (h0 : 0 ≤ k) (hk : k < 2 ^ 63) (hx : us[k.toNat]? = some x) (h : Q x s)
    (hs : subscripted slice false (.ref l) (.int k u) = operate [.ref l, .int k u] (getItem (.ref l) (.int k u)) := by with_unfolding_all rfl) :
    wpAny (model prog w) A (subscriptTail value slice (.ref l) (.int k u)) Q E s :=
  tail_any (N.isList hl).typeIs slot_list_getitem.lookup (wpAny_getItem_list (N.isList hl) h0 hk (by simpa using hx) h) hs
theorem conts_shaped (n : Nat) : SeqAt.shaped (.tuple (List.replicate n contD)) = true := by
  have h1 : ∀ n, PyData.canLayAll0 (List.replicate n contD) = true := by
    intro n
    induction n with
    | zero => rfl
    | succ n ih => rw [List.replicate_succ]; simp only [PyData.canLayAll0, ih, Bool.and_true]; decide +kernel
  have h2 : ∀ n, PyData.depthAll (List.replicate n contD) ≤ 2 := by
    intro n
    induction n with
    | zero => exact Nat.zero_le _
    | succ n ih => rw [List.replicate_succ]; simp only [PyData.depthAll]; exact Nat.max_le.mpr ⟨by decide +kernel, ih⟩
  simp only [SeqAt.shaped, PyData.canLay0, h1, PyData.depth, Bool.true_and]
  have := h2 n
  exact decide_eq_true (by omega)
theorem ne_tup_nil {Q : Value → Shared → Prop} (N : News g L s.heap news) (h1 : (a, tupO us na) ∈ news) (hc : ContsIn news us) (h2 : (b, tupO [] nb) ∈ news) (hu : A.units + 64 < cLine) (h : Q (.bool (!decide (us.length = 0))) s) : wpAny (model prog w) A (compareOp .NotEq (.ref a) (.ref b)) Q E s := by
  have H : Has s.heap news := fun p hp => (N p hp).1
  obtain ⟨as, ra⟩ : Rds s.heap (.ref a) (.tuple (List.replicate us.length contD)) := Rds.tup (N.get h1) (conts_rds H hc)
  obtain ⟨bs, rb⟩ : Rds s.heap (.ref b) (.tuple []) := Rds.tup (N.get h2) RdsA.nil
  refine ne_dataH ra rb (conts_shaped _) (conts_shaped 0) hu ?_
  have e : PyData.eqv (.tuple (List.replicate us.length contD)) (.tuple []) = decide (us.length = 0) := by
    cases us with
    | nil => rfl
    | cons v us => rw [List.length_cons, List.replicate_succ]; simp [PyData.eqv, PyData.eqvAll]
  rw [e]; exact h
theorem pick_from (us : List Value) {x : Int} (h : 0 ≤ x) : slicePick us.toArray (some x) none none = (us.drop x.toNat).toArray := by
  have e : sliceBounds (some x) none none us.toArray.size = (((min x.toNat us.toArray.size : Nat) : Int), ((us.toArray.size : Nat) : Int), 1) := by
    simp only [sliceBounds, Option.getD_none, show (1 : Int) > 0 by decide, if_true, if_neg (show ¬ (x < 0) by omega)]
    congr 1
    omega
  rw [kmk_pick_nat _ e]
  show ((us.drop (min x.toNat us.toArray.size)).take (us.toArray.size - min x.toNat us.toArray.size)).toArray = _
  rw [List.size_toArray, kmk_drop_min, List.take_of_length_le (by rw [List.length_drop]; omega)]
theorem pick_upto (us : List Value) {y : Int} (h : 0 ≤ y) : slicePick us.toArray none (some y) none = (us.take y.toNat).toArray := by
  have e : sliceBounds none (some y) none us.toArray.size = (((0 : Nat) : Int), ((min y.toNat us.toArray.size : Nat) : Int), 1) := by
    simp only [sliceBounds, Option.getD_none, show (1 : Int) > 0 by decide, if_true, if_neg (show ¬ (y < 0) by omega)]
    congr 1
    congr 1
    omega
  rw [kmk_pick_nat _ e]
  show ((us.drop 0).take (min y.toNat us.toArray.size - 0)).toArray = _
  rw [List.drop_zero, Nat.sub_zero, List.size_toArray, kmk_take_min]
theorem slice_from_l {value slice : PySem.Expr} {x : Int} {t : Tok} {Q : Value → Shared → Prop} (F : Fr g L s.heap m) (N : News g L s.heap news) (hl : (l, listOf (List.toArray us) n) ∈ news) (hx : 0 ≤ x) (hz : us.length ≤ 2 ^ 20)
    (hs : subscripted slice false (.ref l) (.ref s.heap.objs.size) = operate [.ref s.heap.objs.size, .ref l] (getItem (.ref l) (.ref s.heap.objs.size))) (ht : ∀ r, letTemporaryGo value (.ref l) r = pure ())
    (h : ∀ D h', Fr g L h' m → News g L h' ((D, listOf (us.drop x.toNat).toArray 0) :: news) → (∀ p ∈ news, p.1 < D) → Q (.ref D) { s with heap := h' }) :
    wpAny (model prog w) A (subscriptTail value slice (.ref l) (.ref s.heap.objs.size)) Q E { s with heap := s.heap.push { cls := .type "slice", data := .fields #[.int x t, .none, .none] } } := by
  refine kmk_slice F N (N.isList hl) (IsPart.int x t) IsPart.none (fun D h' F' N' l1 => h D h' F' ?_ l1) hs ht (by rw [List.size_toArray]; unfold sizeLine; omega)
  rw [← pick_from us hx]; exact N'
theorem slice_upto_l {value slice : PySem.Expr} {x : Int} {t : Tok} {Q : Value → Shared → Prop} (F : Fr g L s.heap m) (N : News g L s.heap news) (hl : (l, listOf (List.toArray us) n) ∈ news) (hx : 0 ≤ x) (hz : us.length ≤ 2 ^ 20)
    (hs : subscripted slice false (.ref l) (.ref s.heap.objs.size) = operate [.ref s.heap.objs.size, .ref l] (getItem (.ref l) (.ref s.heap.objs.size))) (ht : ∀ r, letTemporaryGo value (.ref l) r = pure ())
    (h : ∀ D h', Fr g L h' m → News g L h' ((D, listOf (us.take x.toNat).toArray 0) :: news) → (∀ p ∈ news, p.1 < D) → Q (.ref D) { s with heap := h' }) :
    wpAny (model prog w) A (subscriptTail value slice (.ref l) (.ref s.heap.objs.size)) Q E { s with heap := s.heap.push { cls := .type "slice", data := .fields #[.none, .int x t, .none] } } := by
  refine kmk_slice F N (N.isList hl) IsPart.none (IsPart.int x t) (fun D h' F' N' l1 => h D h' F' ?_ l1) hs ht (by rw [List.size_toArray]; unfold sizeLine; omega)
  rw [← pick_upto us hx]; exact N'
end
section
open PyProof.Rows.LCg PyProof.Rows.LCp
variable {prog : Program} {w : World} {A : Around} {s : Shared} {h₀ : Heap} {L : Addr} {m : Str → Option Value} {env : Env} {elt : PySem.Expr} {x x₂ : Str} {scope : Scope} {cl : List (Str × Addr)} {S : List (Addr × Obj) → Prop} {P : Nat → Value → Prop} {Fin : List Value → List (Addr × Obj) → Prop}
theorem CompEnd.mono {I C D : Addr} {oI oC oD : Obj} {rest rest' : Value → Led → Prop} {y : Value} {s₂ : Shared} (x : CompEnd h₀ L m s I oI C oC D oD S rest y s₂) (k : ∀ nw, rest y nw → rest' y nw) : CompEnd h₀ L m s I oI C oC D oD S rest' y s₂ :=
  let ⟨h', tk, news', a, b, c, d, e, f⟩ := x; ⟨h', tk, news', a, b, c, d, e, k _ f⟩
/-- the turns of a comprehension with a pair, by an invariant -/
theorem restP_ind {n : Nat} (Inv : Nat → List Value → Led → Prop) (h0 : ∀ ys news, Inv n ys news → Fin ys news)
    (hs : ∀ i ys news, i < n → Inv i ys news → ∀ v, P i v → ∃ (t : Addr) (ot : Obj) (v₁ v₂ : Value) (nt : Nat), v = .ref t ∧ (t, ot) ∈ news ∧ ot.cls = .type "tuple" ∧ ot.data = .seq #[v₁, v₂] nt ∧
      ∀ I oI C oC D m₂ h tk (E' : Value → Shared → Prop), NsObj oC m₂ → m₂ x = some v₁ → m₂ x₂ = some v₂ → Fr h₀ L h m → News h₀ L h ((I, oI) :: (C, oC) :: (D, lst ys) :: news) → Off3 I C D news → ((@Ne Nat I C) ∧ (@Ne Nat I D) ∧ (@Ne Nat C D)) →
      wpAny (model prog w) A (eval elt (compEnvC scope cl C env)) (CompEnd h₀ L m { s with heap := h, toks := tk } I oI C oC D (lst ys) S (fun y news' => Inv (i + 1) (ys ++ [y]) news')) E' { s with heap := h, toks := tk }) :
    ∀ (k i : Nat) (ys : List Value) (news : Led), i + k = n → Inv i ys news → CompRestP prog w A h₀ L m env elt x x₂ scope cl s S P Fin k i ys news := by
  intro k
  induction k with
  | zero => intro i ys news e y; exact h0 _ _ ((show i = n from e) ▸ y)
  | succ k ih =>
    intro i ys news e y
    refine CompRestP.succ fun v hv => ?_
    obtain ⟨t, ot, v₁, v₂, nt, a, b, c, d, go⟩ := hs i ys news (by omega) y v hv
    exact ⟨t, ot, v₁, v₂, nt, a, b, c, d, fun I oI C oC D m₂ h tk E' g1 g2 g3 g4 g5 g6 g7 => wpAny_mono (go I oI C oC D m₂ h tk E' g1 g2 g3 g4 g5 g6 g7) (fun y' s' z => CompEnd.mono z fun nw q => ih (i + 1) _ nw (by omega) q) fun _ _ z => z⟩
/-- the same with one name -/
theorem rest_ind {n : Nat} (Inv : Nat → List Value → Led → Prop) (h0 : ∀ ys news, Inv n ys news → Fin ys news)
    (hs : ∀ i ys news, i < n → Inv i ys news → ∀ v I oI C oC D m₂ h tk (E' : Value → Shared → Prop), P i v → NsObj oC m₂ → m₂ x = some v → Fr h₀ L h m → News h₀ L h ((I, oI) :: (C, oC) :: (D, lst ys) :: news) → Off3 I C D news → ((@Ne Nat I C) ∧ (@Ne Nat I D) ∧ (@Ne Nat C D)) →
      wpAny (model prog w) A (eval elt (compEnvC scope cl C env)) (CompEnd h₀ L m { s with heap := h, toks := tk } I oI C oC D (lst ys) S (fun y news' => Inv (i + 1) (ys ++ [y]) news')) E' { s with heap := h, toks := tk }) :
    ∀ (k i : Nat) (ys : List Value) (news : Led), i + k = n → Inv i ys news → CompRest prog w A h₀ L m env elt x scope cl s S P Fin k i ys news := by
  intro k
  induction k with
  | zero => intro i ys news e y; exact h0 _ _ ((show i = n from e) ▸ y)
  | succ k ih =>
    intro i ys news e y
    exact CompRest.succ fun v I oI C oC D m₂ h tk E' g1 g2 g3 g4 g5 g6 g7 => wpAny_mono (hs i ys news (by omega) y v I oI C oC D m₂ h tk E' g1 g2 g3 g4 g5 g6 g7) (fun y' s' z => CompEnd.mono z fun nw q => ih (i + 1) _ nw (by omega) q) fun _ _ z => z
end
theorem words_15m : True := by
  k_with "exec While" => (k_here; (with_reducible show wpAny _ _ (exec (Stmt.While _ _ _ _) _) _ _ _); refine Halt.out ?_)
  k_with "LOOK" => ((try dsimp only); repeat (first | assumption | exact if_pos rfl | (refine (if_neg (by decide)).trans ?_) | exact rfl))
  k_with "eval Name" => (k_here; (with_reducible show wpAny _ _ (eval (Expr.Name _ _) (envOf _ _ _ _ _)) _ _ _); k_dflt (refine' PyProof.Rows.ld ?zzk1 ?zzk2 ?_; (case zzk1 => k_asm); (case zzk2 => walk_at "LOOK"); k_whole))
  k_with "NEWHEAD" => ((have l1 := allNe_of (by k_asm) (by assumption)); (simp only [AllNe, and_true] at l1); (try (revert l1; intro _)); walk_at "TURNED2")
  k_with "call ref" => (k_here; (try dsimp only [List.nil_append, List.cons_append]); (with_reducible show wpAny _ _ (call (Value.ref 99) [_, _]) _ _ _); k_dflt (first
  | (refine' read_head_p ?zzk1 ?zzk2 ?zzk3 ?zzk4 ?zzku ?zzk5 ?zzk6 ?zzkn ?zzkf ?zzka ?zzkb ?zzkc ?zzkd ?zzke ?zzkg ?_; (case zzk3 => exact Fr.keep (by k_asm)); (case zzk1 => assumption); (case zzk2 => assumption); (case zzk4 => k_room); (case zzku => k_units); (case zzk5 => walk_at "HAS"); (case zzk6 => assumption); (case zzkn => assumption); (case zzkf => exact News.fresh (by k_asm) (by k_mem)); (case zzka => assumption); (case zzkb => assumption); (case zzkc => assumption); (case zzkd => assumption); (case zzke => assumption); (case zzkg => assumption); k_whole; intro _ _ _ _ _ _ _ _ _ _ _; walk_at "NEWHEAD")
  | (refine' read_head_s ?zzk1 ?zzk2 ?zzk3 ?zzk4 ?zzku ?zzk5 ?zzk6 ?zzkn ?zzkf ?zzka ?zzkb ?zzkc ?zzkd ?zzke ?zzkg ?zzkh ?_; (case zzk3 => exact Fr.keep (by k_asm)); (case zzk1 => assumption); (case zzk2 => assumption); (case zzk4 => k_room); (case zzku => k_units); (case zzk5 => walk_at "HAS"); (case zzk6 => assumption); (case zzkn => assumption); (case zzkf => exact News.fresh (by k_asm) (by k_mem)); (case zzka => assumption); (case zzkb => assumption); (case zzkc => assumption); (case zzkd => assumption); (case zzke => assumption); (case zzkg => assumption); (case zzkh => assumption); k_whole; intro _ _ _ _ _ _ _ _ _ _ _; walk_at "NEWHEAD")))
  k_with "exec Assign cons ListComp" => (k_here; (with_reducible show wpAny _ _ (exec (Stmt.Assign [_] (Expr.ListComp _ _ _ _) _) _) _ _ _); refine Halt.out ?_)
  k_with "call ref" => (k_here; (try dsimp only [List.nil_append, List.cons_append]); (with_reducible show wpAny _ _ (call (Value.ref 71) [_, _, _]) _ _ _); k_dflt (refine' body_at_c ?zzk1 ?zzk2 ?zzk3 ?zzk4 ?zzku ?zzk5 ?zzk6 ?zzkn ?zzkn2 ?zzkf ?zzkf2 ?zzkP ?zzkT ?zzkc ?zzkC ?zzka ?zzkb ?zzkg ?_; (case zzk3 => exact Fr.keep (by k_asm)); (case zzk1 => assumption); (case zzk2 => assumption); (case zzk4 => k_room); (case zzku => k_units); (case zzk5 => walk_at "HAS"); (case zzk6 => assumption); (case zzkn => assumption); (case zzkn2 => assumption); (case zzkf => exact News.fresh (by k_asm) (by k_mem)); (case zzkP => exact News.get (by k_asm) (by k_mem)); (case zzkf2 => exact News.fresh (by k_asm) (by k_mem)); (case zzkT => assumption); (case zzkc => assumption); (case zzkC => exact ChAt.ext (by assumption) (Fr.keep (by k_asm))); (case zzka => assumption); (case zzkb => assumption); (case zzkg => assumption); k_whole; intro _ _ _ _ _ _ _ _ hB' hd' hp' _ hf' hq' hH' hF' _ _ _; (have l1 := allNe_of (by k_asm) hf'); (simp only [AllNe, and_true] at l1); (try (revert l1; intro _)); (have hG' := fresh_all (by k_asm) (by k_asm) hF'); (have _ := fr_two (by k_asm) (by k_asm) (by k_mem) (by k_mem) hB'); (have N' := news_two_add (by k_asm) (by k_asm) (by k_upd) (by k_upd) hB' hd' hp' hf' hq'); (replace N' := news_tail7 N' hH' hG'); (clear hB' hd' hp' hf' hq' hH' hF'); (revert hG'; intro _); (revert N'; intro _); (try k_sweep)))
  exact True.intro
theorem words_15bm : True := by
  k_with "compareOp Eq ref ref" => (k_here; (with_reducible show wpAny _ _ (compareOp .Eq (Value.ref _) (Value.ref _)) _ _ _); k_dflt (refine' eq_tup_nil ?zzN ?zzh1 ?zzh2 ?zzhne ?zzhu ?_; (case zzN => k_asm); (case zzh1 => k_mem); (case zzh2 => k_mem); (case zzhne => omega); (case zzhu => k_units); k_whole))
  k_with "subscriptTail" => (k_here; (with_reducible show wpAny _ _ (subscriptTail _ _ (Value.ref _) (Value.int _ _)) _ _ _); k_dflt (refine' item_neg1 ?zzN ?zzhl ?zzhk ?zzhlen ?_ ?zzhs; (case zzN => k_asm); (case zzhl => k_mem); (case zzhk => exact rfl); (case zzhlen => omega); (case zzhs => with_unfolding_all rfl); k_whole))
  k_with "call builtin:list.extend" => (k_here; (with_reducible show wpAny _ _ (call (Value.builtin _) [Value.ref _, Value.ref _]) _ _ _); k_dflt (refine' extend_tup ?zzF ?zzN ?zzhb ?zzhne ?zzU ?zzh1 ?zzh2 ?_; (case zzF => k_asm); (case zzN => k_asm); (case zzhb => k_mem); (case zzU => k_upd); (case zzhne => omega); (case zzh1 => omega); (case zzh2 => omega); k_whole; intro _ _ _; (try k_sweep)))
  k_with "call type:tuple" => (k_here; (with_reducible show wpAny _ _ (call (Value.type _) [Value.ref _]) _ _ _); k_dflt (refine' tuple_of_list ?zzk1 ?zzk2 ?zzk3 ?zzk4 ?_; (case zzk1 => k_asm); (case zzk2 => k_asm); (case zzk3 => k_mem); (case zzk4 => omega); k_whole; intro _ _ _ _ l1; (try k_lt l1); (try (revert l1; intro _)); (try k_sweep)))
  k_with "compareOp NotEq ref ref" => (k_here; (with_reducible show wpAny _ _ (compareOp .NotEq (Value.ref _) (Value.ref _)) _ _ _); k_dflt (refine' ne_tup_nil ?zzN ?zzh1 ?zzhc ?zzh2 ?zzhu ?_; (case zzN => k_asm); (case zzh1 => k_mem); (case zzh2 => k_mem); (case zzhc => exact ContsIn.mono (by assumption) (fun p hp => by first | exact hp | exact .tail _ hp | exact .tail _ (.tail _ hp) | exact .tail _ (.tail _ (.tail _ hp)))); (case zzhu => k_units); k_whole))
  k_with "subscriptTail" => (k_here; (with_reducible show wpAny _ _ (subscriptTail _ _ (Value.ref _) (Value.int _ _)) _ _ _); k_dflt (refine' item_news ?zzN ?zzhl ?zzh0 ?zzhk ?zzhx ?_ ?zzhs; (case zzN => k_asm); (case zzhl => k_mem); (case zzh0 => omega); (case zzhk => omega); (case zzhx => first | exact rfl | assumption); (case zzhs => with_unfolding_all rfl); k_whole))
  k_with "subscriptTail Name Slice ref ref" => (k_here; (with_reducible show wpAny _ _ (subscriptTail _ (PySem.Expr.Slice _ _ none _) (Value.ref _) (Value.ref _)) _ _ _); k_dflt (first
  | (refine' slice_from_l ?zzF ?zzN ?zzl ?zzx ?zzz ?zzs ?zzt ?_; (case zzF => k_asm); (case zzN => k_asm); (case zzl => k_mem); (case zzx => omega); (case zzz => omega); (case zzs => with_unfolding_all rfl); (case zzt => (intro _; with_unfolding_all rfl)))
  | (refine' slice_upto_l ?zzF ?zzN ?zzl ?zzx ?zzz ?zzs ?zzt ?_; (case zzF => k_asm); (case zzN => k_asm); (case zzl => k_mem); (case zzx => omega); (case zzz => omega); (case zzs => with_unfolding_all rfl); (case zzt => (intro _; with_unfolding_all rfl)))); k_whole; intro _ _ _ _ l1; (try k_lt l1); (try (revert l1; intro _)); (try k_sweep))
  k_with "subscriptTail Name UnaryOp ref int" => (k_here; (with_reducible show wpAny _ _ (subscriptTail _ _ (Value.ref _) (Value.int _ _)) _ _ _); k_dflt (refine' item_neg1 ?zzN ?zzhl ?zzhk ?zzhlen ?_ ?zzhs; (case zzN => k_asm); (case zzhl => k_mem); (case zzhk => exact rfl); (case zzhlen => omega); (case zzhs => with_unfolding_all rfl); k_whole))
  k_with "subscriptTail Name Constant ref int" => (k_here; (with_reducible show wpAny _ _ (subscriptTail _ _ (Value.ref _) (Value.int _ _)) _ _ _); k_dflt (refine' item_news ?zzN ?zzhl ?zzh0 ?zzhk ?zzhx ?_ ?zzhs; (case zzN => k_asm); (case zzhl => k_mem); (case zzh0 => omega); (case zzhk => omega); (case zzhx => first | exact rfl | assumption); (case zzhs => with_unfolding_all rfl); k_whole))
  k_with "subscriptTail Subscript" => (k_here; (with_reducible show wpAny _ _ (subscriptTail _ _ (Value.ref _) (Value.int _ _)) _ _ _); k_dflt (refine' item_tupleT ?zzt ?zza ?zzb ?zzc ?zzd ?_; (case zzt => exact News.isTup (by k_asm) (by k_mem)); (case zza => decide); (case zzb => decide); (case zzc => rfl); (case zzd => rfl); k_whole))
  k_with "subscriptTail Name Constant ref int" => (k_here; (with_reducible show wpAny _ _ (subscriptTail _ _ (Value.ref _) (Value.int _ _)) _ _ _); k_dflt (refine' item_tupleT ?zzt ?zza ?zzb ?zzc ?zzd ?_; (case zzt => exact News.isTup (by k_asm) (by k_mem)); (case zza => decide); (case zzb => decide); (case zzc => rfl); (case zzd => rfl); k_whole))
  k_with "subscriptTail Subscript Constant ref int" => (k_here; (with_reducible show wpAny _ _ (subscriptTail _ _ (Value.ref _) (Value.int _ _)) _ _ _); k_dflt (refine' item_tupleT ?zzt ?zza ?zzb ?zzc ?zzd ?_; (case zzt => exact News.isTup (by k_asm) (by k_mem)); (case zza => decide); (case zzb => decide); (case zzc => rfl); (case zzd => rfl); k_whole))
  k_with "subscriptTail Subscript Name ref int" => (k_here; (with_reducible show wpAny _ _ (subscriptTail _ _ (Value.ref _) (Value.int _ _)) _ _ _); k_dflt (refine' item_tupleT ?zzt ?zza ?zzb ?zzc ?zzd ?_; (case zzt => exact News.isTup (by k_asm) (by k_mem)); (case zza => decide); (case zzb => decide); (case zzc => rfl); (case zzd => rfl); k_whole))
  k_with "subscriptTail Name Name ref int" => (k_here; (with_reducible show wpAny _ _ (subscriptTail _ _ (Value.ref _) (Value.int _ _)) _ _ _); k_dflt (refine' item_tupleT ?zzt ?zza ?zzb ?zzc ?zzd ?_; (case zzt => exact News.isTup (by k_asm) (by k_mem)); (case zza => decide); (case zzb => decide); (case zzc => rfl); (case zzd => rfl); k_whole))
  exact True.intro
theorem words_18m : True := by
  k_with "call ref" => (k_here; (try dsimp only); (try dsimp only [List.nil_append, List.cons_append]); (with_reducible show wpAny _ _ (call (Value.ref 46) [_, _, _]) _ _ _); k_dflt (refine' para_c ?zzk1 ?zzk2 ?zzk3 ?zzk4 ?zzk5 ?zzku ?_; (case zzk3 => k_asm); (case zzk4 => k_asm); (case zzk1 => assumption); (case zzk2 => assumption); (case zzk5 => k_room); (case zzku => k_units); k_whole; intro _ _ _ _ _ _ _ _ _ l1 l2; (try k_lt l1); (try k_lt2 l2); (try (revert l1; intro _)); (try (revert l2; intro _)); (try k_sweep)))
  k_with "call ref" => (k_here; (try dsimp only [List.nil_append, List.cons_append]); (with_reducible show wpAny _ _ (call (Value.ref 413) _) _ _ _); k_dflt (first
  | (refine' token_c2 ?zzk1 ?zzk2 ?zzk3 ?zzk4 ?zzk5 ?zzku ?_; (case zzk3 => k_asm); (case zzk4 => k_asm); (case zzk1 => assumption); (case zzk2 => assumption); (case zzk5 => k_room); (case zzku => k_units); k_whole; intro _ _ _ _ _ _ _ _ _ _ _ l1 l2)
  | (refine' token_c4 ?zzk1 ?zzk2 ?zzk3 ?zzk4 ?zzk5 ?zzku ?_; (case zzk3 => k_asm); (case zzk4 => k_asm); (case zzk1 => assumption); (case zzk2 => assumption); (case zzk5 => k_room); (case zzku => k_units); k_whole; intro _ _ _ _ _ _ _ _ _ _ l1 l2)); (try k_lt l1); (try k_lt2 l2); (try (revert l1; intro _)); (try (revert l2; intro _)); (try k_sweep))
  k_with "call ref" => (k_here; (try dsimp only [List.nil_append, List.cons_append]); (with_reducible show wpAny _ _ (call (Value.ref 383) [_]) _ _ _); k_dflt (refine' reader_c ?zzk1 ?zzk2 ?zzk3 ?zzk4 ?zzk5 ?zzku ?_; (case zzk3 => k_asm); (case zzk4 => k_asm); (case zzk1 => assumption); (case zzk2 => assumption); (case zzk5 => k_room); (case zzku => k_units); k_whole; intro _ _ _ _ _ _ _ _ _ _ _ l1 l2; (try k_lt l1); (try k_lt2 l2); (try (revert l1; intro _)); (try (revert l2; intro _)); (try k_sweep)))
  exact True.intro
/-- the units of a laid text -/
inductive Un where
  | sec (nm : Str)
  | par (nm : Str)
  | sent (n : Nat)
noncomputable abbrev dotT : Tk := ⟨Str.ofString "sign", Str.ofString ".", false⟩
noncomputable abbrev secT : Tk := ⟨Str.ofString "word", Str.ofString "SECTION", false⟩
noncomputable abbrev nameT (nm : Str) : Tk := ⟨Str.ofString "word", nm, true⟩
noncomputable def unTok : Un → List Tk
  | .sec nm => [nameT nm, secT, dotT]
  | .par nm => [nameT nm, dotT]
  | .sent n => List.replicate n contT ++ [dotT]
noncomputable def unsTok (us : List Un) : List Tk := us.flatMap unTok
/-- a row: its name, its section, its statements' number -/
noncomputable abbrev RowD := Str × Str × Nat
noncomputable def unStep (st : List RowD × RowD) : Un → List RowD × RowD
  | .sec nm => (st.1 ++ [st.2], (Str.ofString "", nm, 0))
  | .par nm => (st.1 ++ [st.2], (nm, st.2.2.1, 0))
  | .sent n => (st.1, (st.2.1, st.2.2.1, st.2.2.2 + n))
noncomputable def unStart : List RowD × RowD := ([], (Str.ofString "", Str.ofString "", 0))
noncomputable def unRun (us : List Un) : List RowD × RowD := us.foldl unStep unStart
noncomputable def unAll (us : List Un) : List RowD := (unRun us).1 ++ [(unRun us).2]
/-- the rows that are handed back -/
noncomputable def unRows (us : List Un) : List RowD := match unAll us with
  | [] => []
  | r :: rest => if r.2.2 = 0 then rest else r :: rest
/-- what the units may be -/
noncomputable def UnOk (w : World) : Un → Prop
  | .sec nm | .par nm => nm.length ≤ 100 ∧ Free w nm ∧ (nm == Str.ofString "END") = false ∧ (nm == Str.ofString "IDENTIFICATION") = false ∧ (nm == Str.ofString "ID") = false
  | .sent n => 1 ≤ n ∧ n ≤ 1000
/-- a head of the list of heads -/
inductive HeadIn (tl : Led) (v : Value) (r : RowD) : Prop
  | mk : ∀ t pn e n1 n2 n3 u1 u2 ss, v = Value.ref t → (t, tupO [.ref pn, .ref e] n1) ∈ tl → (pn, tupO [.str r.1 u1, .str r.2.1 u2] n2) ∈ tl → (e, listOf (List.toArray ss) n3) ∈ tl → ss.length = r.2.2 → ContsIn tl ss → HeadIn tl v r
inductive HeadsIn (tl : Led) : List Value → List RowD → Prop
  | nil : HeadsIn tl [] []
  | cons {v vs r rs} : HeadIn tl v r → HeadsIn tl vs rs → HeadsIn tl (v :: vs) (r :: rs)
theorem HeadIn.mono {tl tl' : Led} {v : Value} {r : RowD} (x : HeadIn tl v r) (k : ∀ p ∈ tl, p ∈ tl') : HeadIn tl' v r :=
  let ⟨t, pn, e, n1, n2, n3, u1, u2, ss, a, b, c, d, f, g⟩ := x; ⟨t, pn, e, n1, n2, n3, u1, u2, ss, a, k _ b, k _ c, k _ d, f, g.mono k⟩
theorem HeadsIn.mono {tl tl' : Led} {vs : List Value} {rs : List RowD} (x : HeadsIn tl vs rs) (k : ∀ p ∈ tl, p ∈ tl') : HeadsIn tl' vs rs := by
  induction x with
  | nil => exact .nil
  | cons a _ ih => exact .cons (a.mono k) ih
theorem HeadsIn.snoc {tl : Led} {vs : List Value} {rs : List RowD} {v : Value} {r : RowD} (x : HeadsIn tl vs rs) (y : HeadIn tl v r) : HeadsIn tl (vs ++ [v]) (rs ++ [r]) := by
  induction x with
  | nil => exact .cons y .nil
  | cons a _ ih => exact .cons a ih
theorem HeadsIn.get {tl : Led} {vs : List Value} {rs : List RowD} (x : HeadsIn tl vs rs) : ∀ {i : Nat} {v : Value}, vs[i]? = some v → ∃ r, rs[i]? = some r ∧ HeadIn tl v r := by
  induction x with
  | nil => intro i v e; simp at e
  | cons a _ ih =>
    intro i v e
    cases i with
    | zero => simp at e; subst e; exact ⟨_, rfl, a⟩
    | succ i => exact ih (i := i) (by simpa using e)
/-- a row as an object -/
inductive RowIn (w : World) (led : Led) (v : Value) (r : RowD) : Prop
  | mk : ∀ a d t1 t2 t3 u1 u2 e n ss, v = Value.ref a → (a, instObj 46 d) ∈ led → (d, dictOf [⟨kh w "name", .str "name" t1, .str r.1 u1⟩, ⟨kh w "section", .str "section" t2, .str r.2.1 u2⟩, ⟨kh w "statements", .str "statements" t3, .ref e⟩] 3) ∈ led → (e, tupO ss n) ∈ led → ss.length = r.2.2 → ContsIn led ss → RowIn w led v r
inductive RowsIn (w : World) (led : Led) : List Value → List RowD → Prop
  | nil : RowsIn w led [] []
  | cons {v vs r rs} : RowIn w led v r → RowsIn w led vs rs → RowsIn w led (v :: vs) (r :: rs)
theorem RowIn.mono {w : World} {tl tl' : Led} {v : Value} {r : RowD} (x : RowIn w tl v r) (k : ∀ p ∈ tl, p ∈ tl') : RowIn w tl' v r :=
  let ⟨a, d, t1, t2, t3, u1, u2, e, n, ss, a1, a2, a3, a4, a5, a6⟩ := x; ⟨a, d, t1, t2, t3, u1, u2, e, n, ss, a1, k _ a2, k _ a3, k _ a4, a5, a6.mono k⟩
theorem RowsIn.mono {w : World} {tl tl' : Led} {vs : List Value} {rs : List RowD} (x : RowsIn w tl vs rs) (k : ∀ p ∈ tl, p ∈ tl') : RowsIn w tl' vs rs := by
  induction x with
  | nil => exact .nil
  | cons a _ ih => exact .cons (a.mono k) ih
theorem RowsIn.length {w : World} {led : Led} {vs : List Value} {rs : List RowD} (x : RowsIn w led vs rs) : vs.length = rs.length := by
  induction x with
  | nil => rfl
  | cons _ _ ih => rw [List.length_cons, List.length_cons, ih]
theorem RowsIn.snoc {w : World} {tl : Led} {vs : List Value} {rs : List RowD} {v : Value} {r : RowD} (x : RowsIn w tl vs rs) (y : RowIn w tl v r) : RowsIn w tl (vs ++ [v]) (rs ++ [r]) := by
  induction x with
  | nil => exact .cons y .nil
  | cons a _ ih => exact .cons a ih
theorem uns_app (a b : List Un) : unsTok (a ++ b) = unsTok a ++ unsTok b := by unfold unsTok; rw [List.flatMap_append]
theorem uns_cons (u : Un) (b : List Un) : unsTok (u :: b) = unTok u ++ unsTok b := rfl
theorem HeadsIn.length {tl : Led} {vs : List Value} {rs : List RowD} (x : HeadsIn tl vs rs) : vs.length = rs.length := by
  induction x with
  | nil => rfl
  | cons _ _ ih => rw [List.length_cons, List.length_cons, ih]
theorem run_len (us : List Un) : (unRun us).1.length ≤ (unsTok us).length := by
  have : ∀ (us : List Un) (st : List RowD × RowD), (us.foldl unStep st).1.length ≤ st.1.length + (unsTok us).length := by
    intro us
    induction us with
    | nil => intro st; exact Nat.le_refl _
    | cons u us ih =>
      intro st
      have h1 := ih (unStep st u)
      rw [uns_cons, List.length_append]
      have h2 : (unStep st u).1.length ≤ st.1.length + (unTok u).length := by cases u <;> simp [unStep, unTok] <;> omega
      show (us.foldl unStep (unStep st u)).1.length ≤ _
      omega
  have h := this us unStart
  simpa [unRun, unStart] using h
theorem run_cnt (us : List Un) : (unRun us).2.2.2 ≤ (unsTok us).length := by
  have : ∀ (us : List Un) (st : List RowD × RowD), (us.foldl unStep st).2.2.2 ≤ st.2.2.2 + (unsTok us).length := by
    intro us
    induction us with
    | nil => intro st; exact Nat.le_refl _
    | cons u us ih =>
      intro st
      have h1 := ih (unStep st u)
      rw [uns_cons, List.length_append]
      have h2 : (unStep st u).2.2.2 ≤ st.2.2.2 + (unTok u).length := by cases u <;> simp [unStep, unTok] <;> omega
      show (us.foldl unStep (unStep st u)).2.2.2 ≤ _
      omega
  have h := this us unStart
  simpa [unRun, unStart] using h
theorem run_all (us : List Un) : ∀ r ∈ unAll us, r.2.2 ≤ (unsTok us).length := by
  have : ∀ (us : List Un) (st : List RowD × RowD) (B : Nat), (∀ r ∈ st.1 ++ [st.2], r.2.2 ≤ B) → ∀ r ∈ (us.foldl unStep st).1 ++ [(us.foldl unStep st).2], r.2.2 ≤ B + (unsTok us).length := by
    intro us
    induction us with
    | nil => intro st B h; exact h
    | cons u us ih =>
      intro st B h r hr
      have h2 : ∀ r ∈ (unStep st u).1 ++ [(unStep st u).2], r.2.2 ≤ B + (unTok u).length := by
        intro r hr
        have hs : st.2.2.2 ≤ B := h _ (by simp)
        cases u with
        | sec nm =>
          rcases List.mem_append.mp hr with hr | hr
          · exact Nat.le_trans (h r hr) (Nat.le_add_right _ _)
          · rw [List.mem_singleton.mp hr]; exact Nat.zero_le _
        | par nm =>
          rcases List.mem_append.mp hr with hr | hr
          · exact Nat.le_trans (h r hr) (Nat.le_add_right _ _)
          · rw [List.mem_singleton.mp hr]; exact Nat.zero_le _
        | sent n =>
          rcases List.mem_append.mp hr with hr | hr
          · exact Nat.le_trans (h r (List.mem_append_left _ hr)) (Nat.le_add_right _ _)
          · rw [List.mem_singleton.mp hr]
            show st.2.2.2 + n ≤ B + (List.replicate n contT ++ [dotT]).length
            simp only [List.length_append, List.length_replicate, List.length_singleton]
            omega
      have h1 := ih (unStep st u) _ h2 r hr
      rw [uns_cons, List.length_append]
      omega
  have h := this us unStart 0 (by intro r hr; rw [List.mem_singleton.mp hr]; exact Nat.le_refl _)
  intro r hr
  have := h r hr
  omega
theorem off1_mem {D : Addr} : ∀ {l : Led}, LCg.Off1 D l → ∀ p ∈ l, @Ne Nat p.1 D
  | [], _, _, h => nomatch h
  | _ :: _, x, p, h => by
    rcases List.mem_cons.mp h with rfl | h
    · exact x.1
    · exact off1_mem x.2 p h
theorem sub33 {a b c i j k : Addr × Obj} {tl : Led} : ∀ p ∈ i :: j :: k :: a :: b :: c :: tl, p ∈ a :: b :: c :: i :: j :: k :: tl := by
  intro p hp
  simp only [List.mem_cons] at hp ⊢
  rcases hp with y | y | y | y | y | y | y
  · exact .inr (.inr (.inr (.inl y)))
  · exact .inr (.inr (.inr (.inr (.inl y))))
  · exact .inr (.inr (.inr (.inr (.inr (.inl y)))))
  · exact .inl y
  · exact .inr (.inl y)
  · exact .inr (.inr (.inl y))
  · exact .inr (.inr (.inr (.inr (.inr (.inr y)))))
theorem news_perm9 {g h : Heap} {L : Addr} {d l q hh t e pn dx p7 : Addr × Obj} {tl : Led} (N : News g L h (d :: l :: q :: hh :: t :: e :: pn :: dx :: p7 :: tl)) : News g L h (hh :: d :: l :: q :: dx :: p7 :: t :: e :: pn :: tl) := fun p hp => N p (by
  simp only [List.mem_cons] at hp ⊢
  rcases hp with y | y | y | y | y | y | y | y | y | y
  · exact .inr (.inr (.inr (.inl y)))
  · exact .inl y
  · exact .inr (.inl y)
  · exact .inr (.inr (.inl y))
  · exact .inr (.inr (.inr (.inr (.inr (.inr (.inr (.inl y)))))))
  · exact .inr (.inr (.inr (.inr (.inr (.inr (.inr (.inr (.inl y))))))))
  · exact .inr (.inr (.inr (.inr (.inl y))))
  · exact .inr (.inr (.inr (.inr (.inr (.inl y)))))
  · exact .inr (.inr (.inr (.inr (.inr (.inr (.inl y))))))
  · exact .inr (.inr (.inr (.inr (.inr (.inr (.inr (.inr (.inr y)))))))))
theorem allLt_mem {d : Addr} : ∀ {l : Led}, AllLt d l → ∀ p ∈ l, @LT.lt Nat _ p.1 d
  | [], _, _, h => nomatch h
  | _ :: _, x, p, h => by
    rcases List.mem_cons.mp h with rfl | h
    · exact x.1
    · exact allLt_mem x.2 p h
theorem ne_cls {g h : Heap} {L a b : Addr} {o o' : Obj} {news : Led} (N : News g L h news) (m1 : (a, o) ∈ news) (m2 : (b, o') ∈ news) (hc : o.cls ≠ o'.cls) : @Ne Nat a b := fun e => by
  have x := N.get m1
  rw [show a = b from e, N.get m2] at x
  exact hc (congrArg Obj.cls (Option.some.inj x).symm)
theorem off_two {g h : Heap} {L d : Addr} {news tl : Led} {o : Obj} (N : News g L h news) (hm : (d, o) ∈ news) (ht : ∀ p ∈ tl, p ∈ news) (hc : ∀ p ∈ tl, p.2.cls = .type "tuple" ∨ p.2.cls = .type "list") (h1 : o.cls ≠ .type "tuple") (h2 : o.cls ≠ .type "list") : ∀ p ∈ tl, p.1 ≠ d := fun p hp e => by
  have a := (N p (ht p hp)).1
  rw [e, (N _ hm).1] at a
  have e2 : o = p.2 := Option.some.inj a
  rcases hc p hp with x | x
  · exact h1 (by rw [e2]; exact x)
  · exact h2 (by rw [e2]; exact x)
theorem uns_get {a b : List Un} {u : Un} {j : Nat} {t : Tk} (h : (unTok u)[j]? = some t) : (unsTok (a ++ u :: b))[(unsTok a).length + j]? = some t := by
  rw [uns_app, uns_cons, List.getElem?_append_right (Nat.le_add_right _ _), Nat.add_sub_cancel_left, List.getElem?_append_left (by
    have := List.getElem?_eq_some_iff.mp h; exact this.1)]
  exact h
theorem run_snoc (a : List Un) (u : Un) : unRun (a ++ [u]) = unStep (unRun a) u := by unfold unRun; rw [List.foldl_append]; rfl
inductive RInv (w : World) (x ch dx l nd : Addr) (t1 t2 t4 : Tok) (us : List Un) (k : Nat) (m : Str → Option Value) (led : Led) : Prop
  | mk : ∀ us₁ us₂ Hh nH hs₁ t pn e n1 n2 nE u1 u2 ss t3' ps' tl, us = us₁ ++ us₂ → us₂.length = k → m (Str.ofString "reader") = some (.ref x) → m (Str.ofString "choose") = some (.ref ch) → m (Str.ofString "names") = some (.ref pn) → m (Str.ofString "heads") = some (.ref Hh) → led = (Hh, listOf (List.toArray (hs₁ ++ [.ref t])) nH) :: (t, tupO [.ref pn, .ref e] n1) :: (e, listOf (List.toArray ss) nE) :: (pn, tupO [.str (unRun us₁).2.1 u1, .str (unRun us₁).2.2.1 u2] n2) :: (dx, rdD w t1 t2 t3' t4 l nd (((unsTok us₁).length : Nat) : Int)) :: (73, tabObj ps') :: tl → T73 ps' → ss.length = (unRun us₁).2.2.2 → ContsIn tl ss → HeadsIn tl hs₁ (unRun us₁).1 → (∀ p ∈ tl, p.2.cls = .type "tuple" ∨ p.2.cls = .type "list") → (∀ p ∈ tl, p.1 ≠ Hh) → (∀ p ∈ tl, p.1 ≠ e) → @Ne Nat Hh e → RInv w x ch dx l nd t1 t2 t4 us k m led
section
variable {prog : Program} {w : World} {dp un : Nat} {fr : Option (List Env)} {gd : Option (List Code)} {s : Shared} {h₀ : Heap} {p : Program} {loose : List Str} {mean : ExcName → Option Value} {mg mb : Str → Option Value}
variable {Q E : Value → Shared → Prop} {x dx l nd a da ch : Addr} {t1 t2 t3 t4 tk tc t1' t2' t3' t4' u1 u2 : Tok} {va : Value} {i k n : Nat} {kk : Int} {vs : List Value} {ld : Led} {ts : List Tk} {t : Tk} {c : Str} {ps : Array Value}
set_option maxHeartbeats 40000000 in
theorem rows_here_c (X : (K w.params).In h₀) (T : Top p loose mean mg mb h₀) (k₀ : Ext h₀ s.heap) (hd : dp + 30 < recursionLimit) (hu : un + 320 < cLine)
    (H : Has s.heap ((dx, rdD w t1 t2 t3 t4 l nd 0) :: ld)) (R : Rd w ld x dx l nd vs ts) (hn : ∀ q ∈ ld, q.1 ≠ dx) (hn2 : ∀ q ∈ ld, q.1 ≠ 73) (hf : h₀.get? dx = none) (hf2 : h₀.get? 73 = none)
    (HP : s.heap.get? 73 = some (tabObj ps)) (hT : T73 ps) (hc : CodeHd h₀ 77 73) (HC : ChAt s.heap ch) {us : List Un} (hts : ts = unsTok us) (hok : ∀ u ∈ us, UnOk w u)
    (h : ∀ q vs' nq nw t3' ps' h' tk', ExtB [dx, 73] s.heap h' → h'.get? 73 = some (tabObj ps') → T73 ps' → Has h' nw → (∀ p ∈ nw, s.heap.get? p.1 = none) → (q, listOf (List.toArray vs') nq) ∈ nw → RowsIn w nw vs' (unRows us) → h'.get? dx = some (rdD w t1 t2 t3' t4 l nd ((ts.length : Nat) : Int)) → Q (.ref q) { s with heap := h', toks := tk' }) :
    wpAny (model prog w) (Ar dp fr gd un) (call (.ref 104) [.ref x, .ref ch]) Q E s := by
  have reg : (K, PySem.Challenge.rw_pb0258_01).1 = K := by (k_fill; rfl)
  clear reg
  have r1 := R.inst
  have hW : ∀ p ∈ [(dx, rdD w t1 t2 t3 t4 l nd 0), (73, tabObj ps)], s.heap.get? p.1 = some p.2 := by
    simp only [List.forall_mem_cons]; exact ⟨H _ (.head _), HP, fun _ h => nomatch h⟩
  have hN : ∀ p ∈ [(dx, rdD w t1 t2 t3 t4 l nd 0), (73, tabObj ps)], h₀.get? p.1 = none := by
    simp only [List.forall_mem_cons]; exact ⟨hf, hf2, fun _ h => nomatch h⟩
  have hpl : ∀ p ∈ [(dx, rdD w t1 t2 t3 t4 l nd 0), (73, tabObj ps)], plainO p.2 = true := by
    simp only [List.forall_mem_cons]; exact ⟨rfl, hT.plain, fun _ h => nomatch h⟩
  walk_at "ENTERW"
  have hc9 : CodeHd _ 77 73 := CodeHd.keeps hc (by assumption)
  have HC9 := ChAt.but HC (by assumption) hW hpl
  (rename ExtB _ _ _ => hB9)
  have HG9 := has_but2 hB9 hn hn2 H
  k_steps
  refine ⟨?_⟩
  (rename News _ _ _ _ => N9)
  (rename Fr _ _ _ _ => F9)
  have hne : @Ne Nat dx 73 := fun q => by
    have e1 := H _ (.head _)
    rw [q, HP] at e1
    exact cls_ne e1 (by simp)
  refine While_inv (RInv w x ch dx l nd t1 t2 t4 us)
    (n₀ := us.length) F9 N9 ⟨[], us, _, _, [], _, _, _, _, _, _, _, _, [], t3, ps, [], rfl, rfl, (by walk_at "LOOK"), (by walk_at "LOOK"), (by walk_at "LOOK"), (by walk_at "LOOK"), rfl, hT, rfl, (fun _ h => nomatch h), .nil, (fun _ h => nomatch h), (fun _ h => nomatch h), (fun _ h => nomatch h), ?_⟩ ?_ PassesOwn.never
  · omega
  clear F9 N9
  rintro k m₁ news₁ h₁ tk₁ F₁ N₁ ⟨us₁, us₂, Hh, nH, hs₁, t, pn, e, n1, n2, nE, u1, u2, ss, t3', ps', tl, rfl, hlen, lm1, lm2, lm3, lm4, rfl, hT', hss, hCs, hHs, hcl, o1, o2, hHe⟩
  have hsl := hHs.length
  have hrl := run_len us₁
  have hrc := run_cnt us₁
  have htl : (unsTok us₁).length ≤ ts.length := by rw [hts, uns_app, List.length_append]; omega
  have hfew := R.few
  have hl9 : hs₁.length < 2 ^ 20 := by omega
  have o3 := off_two N₁ (.tail _ (.tail _ (.tail _ (.tail _ (.head _))))) (fun p hp => .tail _ (.tail _ (.tail _ (.tail _ (.tail _ (.tail _ hp)))))) hcl (by simp) (by simp)
  have o4 := off_two N₁ (.tail _ (.tail _ (.tail _ (.tail _ (.tail _ (.head _)))))) (fun p hp => .tail _ (.tail _ (.tail _ (.tail _ (.tail _ (.tail _ hp)))))) hcl (by simp) (by simp)
  have c1 : @Ne Nat Hh t := ne_cls N₁ (.head _) (.tail _ (.head _)) (by simp)
  have c2 : @Ne Nat Hh pn := ne_cls N₁ (.head _) (.tail _ (.tail _ (.tail _ (.head _)))) (by simp)
  have c3 : @Ne Nat Hh dx := ne_cls N₁ (.head _) (.tail _ (.tail _ (.tail _ (.tail _ (.head _))))) (by simp)
  have c4 : @Ne Nat Hh 73 := ne_cls N₁ (.head _) (.tail _ (.tail _ (.tail _ (.tail _ (.tail _ (.head _)))))) (by simp)
  have c5 : @Ne Nat e t := ne_cls N₁ (.tail _ (.tail _ (.head _))) (.tail _ (.head _)) (by simp)
  have c6 : @Ne Nat e pn := ne_cls N₁ (.tail _ (.tail _ (.head _))) (.tail _ (.tail _ (.tail _ (.head _)))) (by simp)
  have c7 : @Ne Nat e dx := ne_cls N₁ (.tail _ (.tail _ (.head _))) (.tail _ (.tail _ (.tail _ (.tail _ (.head _))))) (by simp)
  have c8 : @Ne Nat e 73 := ne_cls N₁ (.tail _ (.tail _ (.head _))) (.tail _ (.tail _ (.tail _ (.tail _ (.tail _ (.head _)))))) (by simp)
  have c9 : @Ne Nat t dx := ne_cls N₁ (.tail _ (.head _)) (.tail _ (.tail _ (.tail _ (.tail _ (.head _))))) (by simp)
  have c10 : @Ne Nat t 73 := ne_cls N₁ (.tail _ (.head _)) (.tail _ (.tail _ (.tail _ (.tail _ (.tail _ (.head _)))))) (by simp)
  have c11 : @Ne Nat pn dx := ne_cls N₁ (.tail _ (.tail _ (.tail _ (.head _)))) (.tail _ (.tail _ (.tail _ (.tail _ (.head _))))) (by simp)
  have c12 : @Ne Nat pn 73 := ne_cls N₁ (.tail _ (.tail _ (.tail _ (.head _)))) (.tail _ (.tail _ (.tail _ (.tail _ (.tail _ (.head _)))))) (by simp)
  cases us₂ with
  | nil =>
    as_aux_lemma =>
    rw [List.append_nil] at hts hok h
    have hb : ts.length ≤ (unsTok us₁).length := by rw [hts]; exact Nat.le_refl _
    k_steps
    refine ⟨?_⟩
    (rename News _ _ _ _ => N9)
    (rename Fr _ _ _ _ => F9)
    refine LCp.Assign_ListComp_P (F₀ := F9) (by rfl) (by with_unfolding_all rfl) (by with_unfolding_all rfl) (by decide) (by rfl) (by decide) (by rfl) (by rfl) (by decide) (by rfl) (by rfl) ?_
    iterate 3 (try (first | walk1 | (dsimp only; walk1)))
    obtain ⟨Bs, hBs⟩ : ∃ Bs : Led, Bs = (Hh, listOf (List.toArray (hs₁ ++ [.ref t])) nH) :: (t, tupO [.ref pn, .ref e] n1) :: (e, listOf (List.toArray ss) nE) :: (pn, tupO [.str (unRun us₁).2.1 u1, .str (unRun us₁).2.2.1 u2] n2) :: (dx, rdD w t1 t2 t3' t4 l nd (((unsTok us₁).length : Nat) : Int)) :: (73, tabObj ps') :: tl := ⟨_, rfl⟩
    obtain ⟨Bc, hBc⟩ : ∃ Bs : Led, Bs = (t, tupO [.ref pn, .ref e] n1) :: (e, listOf (List.toArray ss) nE) :: (pn, tupO [.str (unRun us₁).2.1 u1, .str (unRun us₁).2.2.1 u2] n2) :: tl := ⟨_, rfl⟩
    have hsub : ∀ p ∈ tl, p ∈ Bc := fun p hp => hBc ▸ List.Mem.tail _ (.tail _ (.tail _ hp))
    have hBB : ∀ p ∈ Bc, p ∈ Bs := by
      intro p hp
      rw [hBc] at hp; rw [hBs]
      simp only [List.mem_cons] at hp ⊢
      rcases hp with y | y | y | y
      · exact .inr (.inl y)
      · exact .inr (.inr (.inl y))
      · exact .inr (.inr (.inr (.inl y)))
      · exact .inr (.inr (.inr (.inr (.inr (.inr y)))))
    have hBn : ∀ p ∈ Bc, p.1 ≠ dx ∧ p.1 ≠ 73 := by
      intro p hp
      rw [hBc] at hp
      rcases List.mem_cons.mp hp with rfl | hp
      · exact ⟨c9, c10⟩
      rcases List.mem_cons.mp hp with rfl | hp
      · exact ⟨c7, c8⟩
      rcases List.mem_cons.mp hp with rfl | hp
      · exact ⟨c11, c12⟩
      · exact ⟨o3 p hp, o4 p hp⟩
    have HA : HeadsIn Bc (hs₁ ++ [.ref t]) (unAll us₁) := HeadsIn.snoc (hHs.mono hsub) ⟨t, pn, e, n1, n2, nE, u1, u2, ss, rfl, hBc ▸ .head _, hBc ▸ .tail _ (.tail _ (.head _)), hBc ▸ .tail _ (.head _), hss, hCs.mono hsub⟩
    have hal := HA.length
    have hHm : (Hh, listOf (List.toArray (hs₁ ++ [.ref t])) nH) ∈ Bs := hBs ▸ .head _
    have hdm : (dx, rdD w t1 t2 t3' t4 l nd (((unsTok us₁).length : Nat) : Int)) ∈ Bs := hBs ▸ .tail _ (.tail _ (.tail _ (.tail _ (.head _))))
    have h7m : (73, tabObj ps') ∈ Bs := hBs ▸ .tail _ (.tail _ (.tail _ (.tail _ (.tail _ (.head _)))))
    refine LCp.SrcLP.ledger (by rfl) (by k_asm) (by k_asm) (by k_mem) ?_ ?_
    · have : (hs₁ ++ [Value.ref t]).toArray.size = hs₁.length + 1 := by simp
      rw [this]; unfold sizeLine; omega
    intro g9
    rw [← hBs]
    refine restP_ind (n := _) (fun i ys nw => ∃ new, nw = new ++ Bs ∧ RowsIn w (new ++ Bc) ys ((unAll us₁).take i) ∧ ∀ p ∈ new, p.1 ≠ dx ∧ p.1 ≠ 73) ?_ ?_ _ 0 [] _ (Nat.zero_add _) ⟨[], rfl, .nil, fun _ h => nomatch h⟩
    · rintro ys news ⟨new, rfl, hRs, hnew⟩
      intro D9 h9 tk9 F9 N9 off9
      rw [List.size_toArray, hal, List.take_length] at hRs
      have hfl := run_all us₁
      have hRs0 := hRs
      generalize hU : unAll us₁ = U at hRs hfl hal
      cases hRs with
      | nil => exact absurd hal (by simp)
      | cons a0 rest0 =>
        rename_i v0 vs0 r0 rs0
        have hvl := rest0.length
        obtain ⟨a1, d1, t1', t2', t3'', u1', u2', e1, n1', ss1, rfl, m1, m2, m3, m4, m5⟩ := a0
        have hs9 : ss1.length < 2 ^ 20 := by
          have := hfl _ (.head _)
          omega
        have hv9 : ((Value.ref a1) :: vs0).length ≤ 2 ^ 20 := by
          rw [List.length_cons] at hal ⊢
          rw [List.length_append, List.length_singleton] at hal
          omega
        have hbc : ∀ p ∈ new ++ Bc, p ∈ new ++ Bs := fun p hp => (List.mem_append.mp hp).elim (fun y => List.mem_append_left _ y) fun y => List.mem_append_right _ (hBB p y)
        have hnn : ∀ p ∈ new ++ Bc, p.1 ≠ dx ∧ p.1 ≠ 73 := fun p hp => (List.mem_append.mp hp).elim (hnew p) (hBn p)
        have hdm' := List.mem_append_right new hdm
        have h7m' := List.mem_append_right new h7m
        replace m1 := hbc _ m1
        replace m2 := hbc _ m2
        replace m3 := hbc _ m3
        replace m5 := m5.mono hbc
        generalize hnc : new ++ Bc = newc at hbc hnn rest0 hRs0
        generalize hnw : new ++ Bs = news at m1 m2 m3 m5 N9 off9 hbc hdm' h7m'
        have hqd : @Ne Nat D9 dx := Ne.symm (off1_mem off9 _ hdm')
        have hq7 : @Ne Nat D9 73 := Ne.symm (off1_mem off9 _ h7m')
        have hur : unRows us₁ = if ss1.length = 0 then rs0 else r0 :: rs0 := by
          unfold unRows
          rw [hU, m4]
        rw [hts] at h
        k_steps
        · (rename News _ _ _ _ => N8)
          (rename Fr _ _ _ _ => F8)
          (rename (ss1.length = 0) => hz)
          (rename (_ < _ ∧ _ < _ ∧ AllLt _ news) => hl8)
          refine h _ vs0 0 ((_, listOf (List.toArray vs0) 0) :: newc) t3' ps' _ _ (extB_two hB9 F8) (N8.get (.tail _ (.tail _ (.tail _ h7m')))) hT' (fun p hp => ?_) (fun p hp => ?_) (.head _) ?_ (N8.get (.tail _ (.tail _ (.tail _ hdm'))))
          · rcases List.mem_cons.mp hp with rfl | hp
            · exact N8.get (.head _)
            · exact N8.get (.tail _ (.tail _ (.tail _ (hbc _ hp))))
          · rcases List.mem_cons.mp hp with rfl | hp
            · exact new_two hB9 (N8.fresh (.head _)) (Ne.symm (Nat.ne_of_lt (allLt_mem hl8.2.2 _ hdm'))) (Ne.symm (Nat.ne_of_lt (allLt_mem hl8.2.2 _ h7m')))
            · exact new_two hB9 (N8.fresh (.tail _ (.tail _ (.tail _ (hbc _ hp))))) (hnn p hp).1 (hnn p hp).2
          · rw [hur, if_pos hz]
            exact rest0.mono fun p hp => .tail _ hp
        · (rename News _ _ _ _ => N8)
          (rename Fr _ _ _ _ => F8)
          (rename (¬ (ss1.length = 0)) => hz)
          refine h D9 (Value.ref a1 :: vs0) _ ((D9, LCg.lst (Value.ref a1 :: vs0)) :: newc) t3' ps' _ _ (extB_two hB9 F8) (N8.get (.tail _ (.tail _ h7m'))) hT' (fun p hp => ?_) (fun p hp => ?_) (.head _) ?_ (N8.get (.tail _ (.tail _ hdm')))
          · rcases List.mem_cons.mp hp with rfl | hp
            · exact N8.get (.tail _ (.head _))
            · exact N8.get (.tail _ (.tail _ (hbc _ hp)))
          · rcases List.mem_cons.mp hp with rfl | hp
            · exact new_two hB9 (N8.fresh (.tail _ (.head _))) hqd hq7
            · exact new_two hB9 (N8.fresh (.tail _ (.tail _ (hbc _ hp)))) (hnn p hp).1 (hnn p hp).2
          · rw [hur, if_neg hz, ← hU]
            exact hRs0.mono fun p hp => .tail _ hp
    · rintro i ys news hi ⟨new, rfl, hRs, hnew⟩ v hv
      have hv' : (hs₁ ++ [Value.ref t])[i]? = some v := by simpa using hv
      obtain ⟨r, hr, t', pn', e', n1', n2', n3', u1', u2', ss', rfl, b1, b2, b3, b4, b5⟩ := HA.get hv'
      have b1' := List.mem_append_right new (hBB _ b1)
      have b2' := List.mem_append_right new (hBB _ b2)
      have b3' := List.mem_append_right new (hBB _ b3)
      have hHm' := List.mem_append_right new hHm
      have hdm' := List.mem_append_right new hdm
      have h7m' := List.mem_append_right new h7m
      have hs9 : ss'.length < 2 ^ 20 := by
        have := run_all us₁ r (List.mem_of_getElem? hr)
        omega
      generalize hnw : new ++ Bs = news at b1' b2' b3' hHm' hdm' h7m' ⊢
      refine ⟨_, _, _, _, _, rfl, b1', rfl, rfl, ?_⟩
      intro I' oI' C' oC' D' m' h' tk' E' hC' hx' hy' F' N' off' ne'
      k_steps
      rename_i l1 l2
      (rename (_ < _ ∧ _ < _ ∧ _ < _ ∧ AllLt _ news) => l0)
      (rename News _ _ _ _ => N9)
      (rename Fr _ _ _ _ => F9)
      have f1 := allLt_mem l0.2.2.2 _ hdm'
      have f2 := allLt_mem l0.2.2.2 _ h7m'
      have f3 := l1.1
      have f4 : @LT.lt Nat _ _ _ := l2
      obtain ⟨g1, g2, g3, g4⟩ := l0
      obtain ⟨g5, g6, g7, g8, g9⟩ := l1
      refine LCg.CompEnd.intro F9 N9 ((_, _) :: (_, _) :: (_, _) :: news) sub33 ⟨?_, ?_, ?_, off'⟩ (.inr ⟨_, .tail _ (.tail _ (.tail _ hHm')), rfl, _, rfl⟩) ⟨(_, _) :: (_, _) :: (_, _) :: new, by rw [← hnw]; rfl, ?_, ?_⟩
      · exact ⟨by omega, by omega, by omega⟩
      · exact ⟨by omega, by omega, by omega⟩
      · exact ⟨by omega, by omega, by omega⟩
      · rw [List.take_add_one, hr]
        exact (hRs.mono fun p hp => .tail _ (.tail _ (.tail _ hp))).snoc ⟨_, _, _, _, _, _, _, _, _, ss', rfl, .head _, .tail _ (.head _), .tail _ (.tail _ (.head _)), b4, b5.mono fun p hp => .tail _ (.tail _ (.tail _ (List.mem_append_right _ hp)))⟩
      · intro p hp
        rcases List.mem_cons.mp hp with rfl | hp
        · exact ⟨Nat.ne_of_gt (Nat.lt_trans (Nat.lt_trans f1 f3) f4), Nat.ne_of_gt (Nat.lt_trans (Nat.lt_trans f2 f3) f4)⟩
        rcases List.mem_cons.mp hp with rfl | hp
        · exact ⟨Nat.ne_of_gt (Nat.lt_trans f1 f3), Nat.ne_of_gt (Nat.lt_trans f2 f3)⟩
        rcases List.mem_cons.mp hp with rfl | hp
        · exact ⟨Nat.ne_of_gt f1, Nat.ne_of_gt f2⟩
        · exact hnew p hp
  | cons u us₃ =>
    have hlt : (unsTok us₁).length < ts.length := by
      rw [hts, uns_app, uns_cons, List.length_append, List.length_append]
      have : 0 < (unTok u).length := by cases u <;> simp [unTok]
      omega
    have hu9 := hok u (List.mem_append.mpr (.inr (.head _)))
    cases u with
    | par nm =>
      as_aux_lemma =>
      obtain ⟨n1', n2', n3', n4', n5'⟩ := hu9
      have q0 : ts[(unsTok us₁).length]? = some (nameT nm) := by rw [hts]; exact uns_get (j := 0) rfl
      have q1 : ts[(unsTok us₁).length + 1]? = some dotT := by rw [hts]; exact uns_get (j := 1) rfl
      have e1 : signAt ts (unsTok us₁).length (Str.ofString "word") (Str.ofString "END") = false := by simp only [signAt, q0, n3', Bool.and_false]
      have e2 : signAt ts (unsTok us₁).length (Str.ofString "word") (Str.ofString "IDENTIFICATION") = false := by simp only [signAt, q0, n4', Bool.and_false]
      have e3 : signAt ts (unsTok us₁).length (Str.ofString "word") (Str.ofString "ID") = false := by simp only [signAt, q0, n5', Bool.and_false]
      have e4 : ((nameT nm).kind == Str.ofString "word") = true := beq_self_eq_true _
      have e5 : (dotT.kind == Str.ofString "sign" && dotT.worth == Str.ofString "." || dotT.kind == Str.ofString "word" && dotT.worth == Str.ofString "SECTION") = true := by decide +kernel
      have e6 : (nameT nm).worth.length ≤ 100 := n1'
      have e7 : Free w (nameT nm).worth := n2'
      have e8 : (nameT nm).ina = true := rfl
      have e9 : signAt ts ((unsTok us₁).length + 1) (Str.ofString "word") (Str.ofString "SECTION") = false := by simp only [signAt, q1]; decide +kernel
      have e10 : signAt ts ((unsTok us₁).length + 1) (Str.ofString "sign") (Str.ofString ".") = true := by simp only [signAt, q1]; decide +kernel
      k_steps
      (rename News _ _ _ _ => N9)
      rw [List.push_toArray] at N9
      have hr := run_snoc us₁ (.par nm)
      have hlen9 : (unsTok (us₁ ++ [.par nm])).length = (unsTok us₁).length + 2 := by rw [uns_app, List.length_append]; rfl
      (rename (_ < _ ∧ _ < _ ∧ _ < _ ∧ _ < _ ∧ _ < _ ∧ _ < _ ∧ _ < _ ∧ AllLt _ tl) => hl1)
      obtain ⟨z1, z2, z3, z4, z5, z6, z7, z8⟩ := hl1
      have hnx := news_perm9 N9
      have hoffn := fun (p : Addr × Obj) (hp : p ∈ tl) => (N9 p (.tail _ (.tail _ (.tail _ (.tail _ (.tail _ (.tail _ (.tail _ (.tail _ (.tail _ hp)))))))))).1
      refine WhileStep.intro (n' := us₃.length) (by assumption) hnx (by rw [← hlen]; exact Nat.lt_succ_self _) ⟨us₁ ++ [.par nm], us₃, Hh, _, hs₁ ++ [.ref t], _, _, _, _, _, _, _, _, [], _, _, _, (by simp), rfl, (by walk_at "LOOK"), (by walk_at "LOOK"), (by walk_at "LOOK"), (by walk_at "LOOK"), (by rw [hr, hlen9]; rfl), hT', (by rw [hr]; rfl), (fun _ h => nomatch h), ?hh, ?hc, ?h1, ?h2, ?h3⟩
      case hh =>
        rw [hr]
        exact HeadsIn.snoc (hHs.mono fun p hp => .tail _ (.tail _ (.tail _ hp))) ⟨t, pn, e, _, _, _, _, _, ss, rfl, .head _, .tail _ (.tail _ (.head _)), .tail _ (.head _), hss, hCs.mono fun p hp => .tail _ (.tail _ (.tail _ hp))⟩
      case hc =>
        intro p hp
        rcases List.mem_cons.mp hp with rfl | hp
        · exact .inl rfl
        rcases List.mem_cons.mp hp with rfl | hp
        · exact .inr rfl
        rcases List.mem_cons.mp hp with rfl | hp
        · exact .inl rfl
        · exact hcl p hp
      case h1 =>
        intro p hp
        rcases List.mem_cons.mp hp with rfl | hp
        · exact Ne.symm c1
        rcases List.mem_cons.mp hp with rfl | hp
        · exact Ne.symm hHe
        rcases List.mem_cons.mp hp with rfl | hp
        · exact Ne.symm c2
        · exact o1 p hp
      case h2 =>
        intro p hp
        rcases List.mem_cons.mp hp with rfl | hp
        · exact Nat.ne_of_lt z3
        rcases List.mem_cons.mp hp with rfl | hp
        · exact Nat.ne_of_lt z4
        rcases List.mem_cons.mp hp with rfl | hp
        · exact Nat.ne_of_lt z5
        · exact Nat.ne_of_lt (allLt_mem z8 p hp)
      case h3 => exact Nat.ne_of_lt z2
    | sec nm =>
      as_aux_lemma =>
      obtain ⟨n1', n2', n3', n4', n5'⟩ := hu9
      have q0 : ts[(unsTok us₁).length]? = some (nameT nm) := by rw [hts]; exact uns_get (j := 0) rfl
      have q1 : ts[(unsTok us₁).length + 1]? = some secT := by rw [hts]; exact uns_get (j := 1) rfl
      have q2 : ts[(unsTok us₁).length + 1 + 1]? = some dotT := by rw [hts]; exact uns_get (j := 2) rfl
      have e1 : signAt ts (unsTok us₁).length (Str.ofString "word") (Str.ofString "END") = false := by simp only [signAt, q0, n3', Bool.and_false]
      have e2 : signAt ts (unsTok us₁).length (Str.ofString "word") (Str.ofString "IDENTIFICATION") = false := by simp only [signAt, q0, n4', Bool.and_false]
      have e3 : signAt ts (unsTok us₁).length (Str.ofString "word") (Str.ofString "ID") = false := by simp only [signAt, q0, n5', Bool.and_false]
      have e4 : ((nameT nm).kind == Str.ofString "word") = true := beq_self_eq_true _
      have e5 : (secT.kind == Str.ofString "sign" && secT.worth == Str.ofString "." || secT.kind == Str.ofString "word" && secT.worth == Str.ofString "SECTION") = true := by decide +kernel
      have e6 : (nameT nm).worth.length ≤ 100 := n1'
      have e7 : Free w (nameT nm).worth := n2'
      have e8 : (nameT nm).ina = true := rfl
      have e9 : signAt ts ((unsTok us₁).length + 1) (Str.ofString "word") (Str.ofString "SECTION") = true := by simp only [signAt, q1]; decide +kernel
      have e10 : kindAt ts ((unsTok us₁).length + 1 + 1) (Str.ofString "number") = false := by simp only [kindAt, q2]; decide +kernel
      have e11 : signAt ts ((unsTok us₁).length + 1 + 1) (Str.ofString "sign") (Str.ofString ".") = true := by simp only [signAt, q2]; decide +kernel
      k_steps
      (rename News _ _ _ _ => N9)
      rw [List.push_toArray] at N9
      have hr := run_snoc us₁ (.sec nm)
      have hlen9 : (unsTok (us₁ ++ [.sec nm])).length = (unsTok us₁).length + 3 := by rw [uns_app, List.length_append]; rfl
      (rename (_ < _ ∧ _ < _ ∧ _ < _ ∧ _ < _ ∧ _ < _ ∧ _ < _ ∧ _ < _ ∧ AllLt _ tl) => hl1)
      obtain ⟨z1, z2, z3, z4, z5, z6, z7, z8⟩ := hl1
      have hnx := news_perm9 N9
      have hoffn := fun (p : Addr × Obj) (hp : p ∈ tl) => (N9 p (.tail _ (.tail _ (.tail _ (.tail _ (.tail _ (.tail _ (.tail _ (.tail _ (.tail _ hp)))))))))).1
      refine WhileStep.intro (n' := us₃.length) (by assumption) hnx (by rw [← hlen]; exact Nat.lt_succ_self _) ⟨us₁ ++ [.sec nm], us₃, Hh, _, hs₁ ++ [.ref t], _, _, _, _, _, _, _, _, [], _, _, _, (by simp), rfl, (by walk_at "LOOK"), (by walk_at "LOOK"), (by walk_at "LOOK"), (by walk_at "LOOK"), (by rw [hr, hlen9]; rfl), hT', (by rw [hr]; rfl), (fun _ h => nomatch h), ?hh, ?hc, ?h1, ?h2, ?h3⟩
      case hh =>
        rw [hr]
        exact HeadsIn.snoc (hHs.mono fun p hp => .tail _ (.tail _ (.tail _ hp))) ⟨t, pn, e, _, _, _, _, _, ss, rfl, .head _, .tail _ (.tail _ (.head _)), .tail _ (.head _), hss, hCs.mono fun p hp => .tail _ (.tail _ (.tail _ hp))⟩
      case hc =>
        intro p hp
        rcases List.mem_cons.mp hp with rfl | hp
        · exact .inl rfl
        rcases List.mem_cons.mp hp with rfl | hp
        · exact .inr rfl
        rcases List.mem_cons.mp hp with rfl | hp
        · exact .inl rfl
        · exact hcl p hp
      case h1 =>
        intro p hp
        rcases List.mem_cons.mp hp with rfl | hp
        · exact Ne.symm c1
        rcases List.mem_cons.mp hp with rfl | hp
        · exact Ne.symm hHe
        rcases List.mem_cons.mp hp with rfl | hp
        · exact Ne.symm c2
        · exact o1 p hp
      case h2 =>
        intro p hp
        rcases List.mem_cons.mp hp with rfl | hp
        · exact Nat.ne_of_lt z3
        rcases List.mem_cons.mp hp with rfl | hp
        · exact Nat.ne_of_lt z4
        rcases List.mem_cons.mp hp with rfl | hp
        · exact Nat.ne_of_lt z5
        · exact Nat.ne_of_lt (allLt_mem z8 p hp)
      case h3 => exact Nat.ne_of_lt z2
    | sent n =>
      as_aux_lemma =>
      obtain ⟨g1, g2⟩ := hu9
      have hcs : ∀ j, j < n → ts[(unsTok us₁).length + j]? = some contT := fun j hj => by
        rw [hts]; exact uns_get (by simp [unTok, List.getElem?_append, hj])
      have hdot : ts[(unsTok us₁).length + n]? = some dotT := by rw [hts]; exact uns_get (by simp [unTok])
      have q0 : ts[(unsTok us₁).length]? = some contT := hcs 0 (by omega)
      have e1 : signAt ts (unsTok us₁).length (Str.ofString "word") (Str.ofString "END") = false := by simp only [signAt, q0]; decide +kernel
      have e2 : signAt ts (unsTok us₁).length (Str.ofString "word") (Str.ofString "IDENTIFICATION") = false := by simp only [signAt, q0]; decide +kernel
      have e3 : signAt ts (unsTok us₁).length (Str.ofString "word") (Str.ofString "ID") = false := by simp only [signAt, q0]; decide +kernel
      have e4 : (contT.kind == Str.ofString "word") = true := beq_self_eq_true _
      have e6 : contT.worth.length ≤ 100 := by decide +kernel
      have e8 : contT.ina = false := rfl
      have hend : kindAt ts ((unsTok us₁).length + n) (Str.ofString "word") = false := by simp only [kindAt, hdot]; decide +kernel
      have e10 : signAt ts ((unsTok us₁).length + n) (Str.ofString "sign") (Str.ofString ".") = true := by simp only [signAt, hdot]; decide +kernel
      k_steps
      (rename (∀ p : Addr × Obj, p ∈ _ → p.1 ≠ _ ∧ _ = none ∧ AllNe p.1 _) => hG8)
      have o5 := fun p hp => (List.mem_append.mp hp).elim (fun y => Ne.symm (hG8 p y).2.2.1) (o1 p)
      have o6 := fun p hp => (List.mem_append.mp hp).elim (fun y => Ne.symm (hG8 p y).2.2.2.2.1) (o2 p)
      have o7 := fun p hp => (List.mem_append.mp hp).elim (fun y => Ne.symm (hG8 p y).2.2.2.2.2.2.1) (o3 p)
      have o8 := fun p hp => (List.mem_append.mp hp).elim (fun y => Ne.symm (hG8 p y).2.2.2.2.2.2.2.1) (o4 p)
      k_steps
      (rename News _ _ _ _ => N9)
      have hr := run_snoc us₁ (.sent n)
      have hlen9 : (unsTok (us₁ ++ [.sent n])).length = (unsTok us₁).length + n + 1 := by rw [uns_app, List.length_append, show unsTok [.sent n] = List.replicate n contT ++ [dotT] from by simp [unsTok, unTok], List.length_append, List.length_replicate]; rfl
      (rename ContsIn _ _ => hC8)
      (rename (∀ p : Addr × Obj, p ∈ _ → p.2.cls = .type "tuple") => hK8)
      (rename (List.length _ = n) => hL8)
      refine WhileStep.intro (n' := us₃.length) (by assumption) (fun p hp => N9 p (.tail _ (.tail _ hp))) (by rw [← hlen]; exact Nat.lt_succ_self _) ⟨us₁ ++ [.sent n], us₃, Hh, _, hs₁, t, pn, e, _, _, _, _, _, _, _, _, _, (by simp), rfl, (by walk_at "LOOK"), (by walk_at "LOOK"), (by walk_at "LOOK"), (by walk_at "LOOK"), (by rw [hr, hlen9]; rfl), (by assumption), (by rw [hr, List.length_append, hss, hL8]; rfl), ?hcs, (by rw [hr]; exact hHs.mono fun p hp => List.mem_append_right _ hp), ?hc, o5, o6, hHe⟩
      case hcs =>
        intro v hv
        rcases List.mem_append.mp hv with hv | hv
        · obtain ⟨q, nq, u, e, hm⟩ := hCs v hv
          exact ⟨q, nq, u, e, List.mem_append_right _ hm⟩
        · obtain ⟨q, nq, u, e, hm⟩ := hC8 v hv
          exact ⟨q, nq, u, e, List.mem_append_left _ hm⟩
      case hc =>
        intro p hp
        rcases List.mem_append.mp hp with hp | hp
        · exact .inl (hK8 p hp)
        · exact hcl p hp
end
theorem has_of {g h : Heap} {L : Addr} {news : Led} (N : News g L h news) : Has h news := fun p hp => (N p hp).1
/-- a row told -/
inductive ToldIn (led : Led) (v : Value) (r : RowD) : Prop
  | mk : ∀ q nq e ne u1 u2 ss, v = Value.ref q → (q, tupO [.str r.1 u1, .str r.2.1 u2, .ref e] nq) ∈ led → (e, tupO ss ne) ∈ led → ss.length = r.2.2 → ContsIn led ss → ToldIn led v r
inductive ToldsIn (led : Led) : List Value → List RowD → Prop
  | nil : ToldsIn led [] []
  | cons {v vs r rs} : ToldIn led v r → ToldsIn led vs rs → ToldsIn led (v :: vs) (r :: rs)
theorem ToldIn.mono {tl tl' : Led} {v : Value} {r : RowD} (x : ToldIn tl v r) (k : ∀ p ∈ tl, p ∈ tl') : ToldIn tl' v r :=
  let ⟨q, nq, e, ne, u1, u2, ss, a1, a2, a3, a4, a5⟩ := x; ⟨q, nq, e, ne, u1, u2, ss, a1, k _ a2, k _ a3, a4, a5.mono k⟩
theorem ToldsIn.mono {tl tl' : Led} {vs : List Value} {rs : List RowD} (x : ToldsIn tl vs rs) (k : ∀ p ∈ tl, p ∈ tl') : ToldsIn tl' vs rs := by
  induction x with
  | nil => exact .nil
  | cons a _ ih => exact .cons (a.mono k) ih
theorem ToldsIn.app {tl : Led} {vs us : List Value} {rs qs : List RowD} (x : ToldsIn tl vs rs) (y : ToldsIn tl us qs) : ToldsIn tl (vs ++ us) (rs ++ qs) := by
  induction x with
  | nil => exact y
  | cons a _ ih => exact .cons a ih
theorem ToldsIn.length {tl : Led} {vs : List Value} {rs : List RowD} (x : ToldsIn tl vs rs) : vs.length = rs.length := by
  induction x with
  | nil => rfl
  | cons _ _ ih => rw [List.length_cons, List.length_cons, ih]
theorem ToldsIn.drop {tl : Led} {vs : List Value} {rs : List RowD} (x : ToldsIn tl vs rs) : ∀ n, ToldsIn tl (vs.drop n) (rs.drop n) := by
  induction x with
  | nil => intro n; rw [List.drop_nil, List.drop_nil]; exact .nil
  | cons a b ih => intro n; cases n with | zero => exact .cons a b | succ n => exact ih n
theorem ToldsIn.take {tl : Led} {vs : List Value} {rs : List RowD} (x : ToldsIn tl vs rs) : ∀ n, ToldsIn tl (vs.take n) (rs.take n) := by
  induction x with
  | nil => intro n; rw [List.take_nil, List.take_nil]; exact .nil
  | cons a b ih => intro n; cases n with | zero => exact .nil | succ n => exact .cons a (ih n)
theorem RowsIn.get {w : World} {tl : Led} {vs : List Value} {rs : List RowD} (x : RowsIn w tl vs rs) : ∀ {i : Nat} {v : Value}, vs[i]? = some v → ∃ r, rs[i]? = some r ∧ RowIn w tl v r := by
  induction x with
  | nil => intro i v e; simp at e
  | cons a _ ih =>
    intro i v e
    cases i with
    | zero => simp at e; subst e; exact ⟨_, rfl, a⟩
    | succ i => exact ih (i := i) (by simpa using e)
theorem news_two {g h h' : Heap} {L d1 d2 : Addr} {news n1 n2 : Led} {o1 o1' o2 o2' : Obj} (N : News g L h news) (U1 : Upd d1 o1 o1' news n1) (U2 : Upd d2 o2 o2' n1 n2)
    (k : ExtB [d1, d2] h h') (h1 : h'.get? d1 = some o1') (h2 : h'.get? d2 = some o2') : News g L h' n2 := fun p hp => by
  obtain ⟨pre1, post1, rfl, rfl, a1, b1⟩ := U1.split
  obtain ⟨pre, post, e, rfl, a, b⟩ := U2.split
  have m2 : (d2, o2) ∈ pre1 ++ (d1, o1') :: post1 := by rw [e]; simp
  have hd2 : d2 ≠ L ∧ g.get? d2 = none := by
    rcases List.mem_append.mp m2 with y | y
    · exact (N (d2, o2) (List.mem_append_left _ y)).2
    · rcases List.mem_cons.mp y with y | y
      · cases y; exact (N (d1, o1) (List.mem_append_right _ (.head _))).2
      · exact (N (d2, o2) (List.mem_append_right _ (.tail _ y))).2
  have old : p ∈ pre ++ post → p.1 ≠ d2 → h'.get? p.1 = some p.2 ∧ p.1 ≠ L ∧ g.get? p.1 = none := fun hm hne => by
    have hm' : p ∈ pre1 ++ (d1, o1') :: post1 := by
      rw [e]
      rcases List.mem_append.mp hm with y | y
      · exact List.mem_append_left _ y
      · exact List.mem_append_right _ (.tail _ y)
    have go : p ∈ pre1 ++ (d1, o1) :: post1 → p.1 ≠ d1 → h'.get? p.1 = some p.2 ∧ p.1 ≠ L ∧ g.get? p.1 = none := fun y hn1 =>
      ⟨k _ _ (fun z => by rcases List.mem_cons.mp z with z | z; exact hn1 z; exact hne (List.mem_singleton.mp z)) (N p y).1, (N p y).2⟩
    rcases List.mem_append.mp hm' with y | y
    · exact go (List.mem_append_left _ y) (a1 p y)
    · rcases List.mem_cons.mp y with rfl | y
      · exact ⟨h1, (N (d1, o1) (List.mem_append_right _ (.head _))).2⟩
      · exact go (List.mem_append_right _ (.tail _ y)) (b1 p y)
  rcases List.mem_append.mp hp with y | y
  · exact old (List.mem_append_left _ y) (a p y)
  · rcases List.mem_cons.mp y with rfl | y
    · exact ⟨h2, hd2⟩
    · exact old (List.mem_append_right _ y) (b p y)
theorem news_nw {g h h' : Heap} {L : Addr} {m : Str → Option Value} {news nw : Led} (F : Fr g L h m) (N : News g L h' news) (hH : Has h' nw) (hf : ∀ p ∈ nw, h.get? p.1 = none) : News g L h' (nw ++ news) := fun p hp => by
  rcases List.mem_append.mp hp with hp | hp
  · refine ⟨hH p hp, fun e => ?_, ?_⟩
    · obtain ⟨oL, _, _, hL, _⟩ := F.ns
      have := hf p hp; rw [e, hL] at this; cases this
    · cases e : g.get? p.1 with
      | none => rfl
      | some x => have := hf p hp; rw [F.keep _ _ e] at this; cases this
  · exact N p hp
section
variable {prog : Program} {w : World} {dp un : Nat} {fr : Option (List Env)} {gd : Option (List Code)} {s : Shared} {h₀ : Heap} {p : Program} {loose : List Str} {mean : ExcName → Option Value} {mg mb : Str → Option Value}
variable {Q E : Value → Shared → Prop} {a d : Addr} {t1 t2 t3 u1 u2 : Tok} {nm sec : Str} {e : Addr} {ld : Led}
set_option maxHeartbeats 4000000 in
theorem ptold_c (X : (K w.params).In h₀) (T : Top p loose mean mg mb h₀) (k₀ : Ext h₀ s.heap) (hd : dp + 2 < recursionLimit)
    (H : Has s.heap ld) (m1 : (a, instObj 46 d) ∈ ld) (m2 : (d, dictOf [⟨kh w "name", .str "name" t1, .str nm u1⟩, ⟨kh w "section", .str "section" t2, .str sec u2⟩, ⟨kh w "statements", .str "statements" t3, .ref e⟩] 3) ∈ ld)
    (h : ∀ q n h' tk', Ext s.heap h' → s.heap.get? q = none → h'.get? q = some (tupO [.str nm u1, .str sec u2, .ref e] n) → Q (.ref q) { s with heap := h', toks := tk' }) :
    wpAny (model prog w) (Ar dp fr gd un) (call (.ref 43) [.ref a]) Q E s := by
  have reg : (K, PySem.Challenge.rw_pb0258_01).1 = K := by (k_fill; rfl)
  clear reg
  walk_at "ENTER0"
  k_steps
  (rename News _ _ _ _ => N9)
  have e1 := N9 _ (List.Mem.head _)
  exact h _ _ _ _ (Fr.keep (by assumption)) e1.2.2 e1.1
end
/-- what a turn of a for leaves -/
noncomputable def ForEnd (h₀ : Heap) (L : Addr) (own : Led) (J : (Str → Option Value) → Led → Prop) (s₁ s₂ : Shared) : Prop :=
  ∃ h' tk m' led', s₂ = { s₁ with heap := h', toks := tk } ∧ Fr h₀ L h' m' ∧ News h₀ L h' (own ++ led') ∧ (∀ p ∈ led', p.1 ∉ own.map (·.1)) ∧ J m' led'
noncomputable def ForPost (h₀ : Heap) (L : Addr) (own : Led) (J : (Str → Option Value) → Led → Prop) (s₁ : Shared) (Q : Flow → Shared → Prop) (f : Flow) (s₂ : Shared) : Prop :=
  match f with
  | .ret v => Q (.ret v) s₂
  | .brk => Q .next s₂
  | _ => ForEnd h₀ L own J s₁ s₂
theorem ForEnd.intro {h₀ : Heap} {L : Addr} {own all : Led} {J : (Str → Option Value) → Led → Prop} {s₁ : Shared} {h' : Heap} {tk : Nat} {m' : Str → Option Value}
    (F : Fr h₀ L h' m') (N : News h₀ L h' all) (led' : Led) (sub : ∀ p ∈ own ++ led', p ∈ all) (off : ∀ p ∈ led', p.1 ∉ own.map (·.1)) (j : J m' led') : ForEnd h₀ L own J s₁ { s₁ with heap := h', toks := tk } :=
  ⟨h', tk, m', led', rfl, F, fun p hp => N p (sub p hp), off, j⟩
/-- a for at its iterable -/
noncomputable def AtIter (prog : Program) (w : World) (A : Around) (env : Env) (target : PySem.Expr) (body : List Stmt) (Q : Flow → Shared → Prop) (E : Value → Shared → Prop) (xv : Value) (s₁ : Shared) : Prop :=
  wpAny (model prog w) A (pyIter xv) (fun it s₂ => codeAny (model prog w) A (.forLoop target it body [] env) (fun r s' => match r with | .ok f => Q f s' | .error e => cameBackBy (model prog w) A env E e s') s₂) E s₁
theorem For_at {prog : Program} {w : World} {A : Around} {env : Env} {target iter : PySem.Expr} {body : List Stmt} {pos : Pos} {Q : Flow → Shared → Prop} {E : Value → Shared → Prop} {s : Shared} (h : wpAny (model prog w) A (eval iter env) (AtIter prog w A env target body Q E) E s)
    (hs : ∀ x, foldedSetIterable iter env x = pure x := by intro _; rfl) : wpAny (model prog w) A (exec (.For target iter body [] pos) env) Q E s :=
  wpAny_For h hs
theorem own_of {h : Heap} : ∀ {wr : List Addr}, (∀ b ∈ wr, ∃ o, h.get? b = some o) → ∃ own : Led, own.map (·.1) = wr ∧ ∀ p ∈ own, h.get? p.1 = some p.2
  | [], _ => ⟨[], rfl, fun _ h => nomatch h⟩
  | b :: wr, k => by
    obtain ⟨o, e⟩ := k b (.head _)
    obtain ⟨own, e1, e2⟩ := own_of (wr := wr) fun c hc => k c (.tail _ hc)
    refine ⟨(b, o) :: own, by rw [List.map_cons, e1], fun p hp => ?_⟩
    rcases List.mem_cons.mp hp with rfl | hp
    · exact e
    · exact e2 p hp
theorem own_one {own : Led} {I : Addr} (h : own.map (·.1) = [I]) : ∃ o, own = [(I, o)] := by
  cases own with
  | nil => exact nomatch h
  | cons p r =>
    have h1 := (List.cons.inj h).1
    have h2 := (List.cons.inj h).2
    rw [List.map_eq_nil_iff.mp h2]
    exact ⟨p.2, congrArg (fun a => [(a, p.2)]) h1⟩
theorem own_two {own : Led} {I J : Addr} (h : own.map (·.1) = [I, J]) : ∃ o o', own = [(I, o), (J, o')] := by
  cases own with
  | nil => exact nomatch h
  | cons p r =>
    have h1 := (List.cons.inj h).1
    obtain ⟨o', e⟩ := own_one (List.cons.inj h).2
    rw [e]
    exact ⟨p.2, o', congrArg (fun a => [(a, p.2), (J, o')]) h1⟩
section
variable {prog : Program} {w : World} {A : Around} {E : Value → Shared → Prop} {s : Shared} {env : Env} {h₀ : Heap} {body : List Stmt} {Q : Flow → Shared → Prop}
/-- a for whose iterator hands out tuples, by an invariant; the ledger may grow -/
theorem For_U {elts : List PySem.Expr} {kx : Nat} {tp : Pos} {I : Addr} {fp wr : List Addr} {n : Nat} {Pt : Nat → Array Value → Prop} {St : Nat → Heap → Prop} {Mid : Nat → Addr → Heap → Prop} {m₀ : Str → Option Value} {led₀ : Led} {EE : Value → Shared → Prop}
    (W : WalksU prog w A I fp wr n Pt St Mid) (asg : (Str → Option Value) → Array Value → Str → Option Value)
    (hasg : ∀ T vals (s : Shared) m EE (RR : Unit → Shared → Prop), s.heap.IsTuple T vals → (∃ i, Pt i vals) → s.heap.Ns env.locals m → (∀ h' tk', h'.Ns env.locals (asg m vals) → (∀ b o, b ≠ env.locals → s.heap.get? b = some o → h'.get? b = some o) → RR () { s with heap := h', toks := tk' }) → wpAny (model prog w) A (assign (.Tuple elts kx tp) env (.ref T)) RR EE s)
    (hLf : env.locals ∉ fp) (hwr : ∀ b ∈ wr, h₀.get? b = none) (hst : St 0 s.heap) (F : Fr h₀ env.locals s.heap m₀) (N : News h₀ env.locals s.heap led₀) (hoff : ∀ p ∈ led₀, p.1 ∉ wr)
    (Inv : Nat → (Str → Option Value) → Led → Prop) (h0 : Inv 0 m₀ led₀)
    (hk : ∀ b ∈ fp, b ∉ wr → (∃ o, h₀.get? b = some o) ∨ ∃ o, ∀ i m led, Inv i m led → (b, o) ∈ led)
    (hobj : ∀ i h, St i h → ∀ b ∈ wr, ∃ o, h.get? b = some o)
    (bd : ∀ i vals m led own h tk E', i < n → Pt i vals → Inv i m led → own.map (·.1) = wr → (∀ p ∈ led, p.1 ∉ wr) → Fr h₀ env.locals h (asg m vals) → News h₀ env.locals h (own ++ led) →
      wpAny (model prog w) A (execs body env) (ForPost h₀ env.locals own (Inv (i + 1)) { s with heap := h, toks := tk } Q) E' { s with heap := h, toks := tk })
    (done : ∀ m led h tk, Inv n m led → Fr h₀ env.locals h m → News h₀ env.locals h led → Q .next { s with heap := h, toks := tk }) :
    codeAny (model prog w) A (.forLoop (.Tuple elts kx tp) (.ref I) body [] env) (fun r s' => match r with | .ok f => Q f s' | .error e => EE e s') s := by
  refine codeAny_forLoop_any (fun k s' => ∃ h tk i m led, s' = { s with heap := h, toks := tk } ∧ i ≤ n ∧ k = n + 1 - i ∧ St i h ∧ Fr h₀ env.locals h m ∧ News h₀ env.locals h led ∧ (∀ p ∈ led, p.1 ∉ wr) ∧ Inv i m led) ?_ (n + 1)
    ⟨s.heap, s.toks, 0, m₀, led₀, rfl, Nat.zero_le _, rfl, hst, F, N, hoff, h0⟩
  rintro k s' ⟨h, tk, i, m, led, rfl, hi, rfl, hst', F', N', off', hI⟩
  have hLw : env.locals ∉ wr := fun hm => hLf (W.sub _ hm)
  have hL0 : h₀.get? env.locals = none := Heap.get?_none_of_le F'.above
  by_cases hlt : i < n
  · refine W.item i _ _ _ hlt hst' fun T vals h₂ tk₂ hP hT hMid hk₂ => ?_
    refine W.go elts kx tp i T _ _ _ hMid fun h₃ hst₃ hk₃ => ?_
    have hTw := W.apart i T h₂ hMid
    have k3 : ∀ b o, b ∉ wr → h.get? b = some o → h₃.get? b = some o := fun b o hb e => hk₃ b o hb (hk₂ b o hb e)
    refine hasg T vals _ m _ _ (hT.at fun o e => hk₃ _ o hTw e) ⟨i, hP⟩ (F'.ns.at' fun o e => k3 _ o hLw e) fun h₄ tk₄ hn₄ hk₄ => ?_
    have k4 : ∀ b o, b ∉ wr → b ≠ env.locals → h.get? b = some o → h₄.get? b = some o := fun b o hb hb2 e => hk₄ b o hb2 (k3 b o hb e)
    have F₄ : Fr h₀ env.locals h₄ (asg m vals) := ⟨hn₄, fun b o e => k4 b o (fun hm => by rw [hwr b hm] at e; cases e) (fun q => by rw [q, hL0] at e; cases e) (F'.keep b o e), F'.above⟩
    have hst₄ : St (i + 1) h₄ := W.frame _ _ _ hst₃ fun b hb o e => hk₄ b o (fun q => hLf (by rw [← q]; exact hb)) e
    obtain ⟨own, ho, hown⟩ := own_of (hobj _ _ hst₄)
    have N₄ : News h₀ env.locals h₄ (own ++ led) := fun p hp => by
      rcases List.mem_append.mp hp with hp | hp
      · have hm : p.1 ∈ wr := ho ▸ List.mem_map_of_mem hp
        exact ⟨hown p hp, fun q => hLw (by rw [← q]; exact hm), hwr _ hm⟩
      · exact ⟨k4 _ _ (off' p hp) (N' p hp).2.1 (N' p hp).1, (N' p hp).2⟩
    refine wpAny_mono (bd i vals m led own h₄ tk₄ _ hlt hP hI ho off' F₄ N₄) (fun f s₅ x => ?_) fun _ _ e => e
    have fin : ForEnd h₀ env.locals own (Inv (i + 1)) { s with heap := h₄, toks := tk₄ } s₅ → ∃ k', k' < n + 1 - i ∧ ∃ h tk i m led, s₅ = { s with heap := h, toks := tk } ∧ i ≤ n ∧ k' = n + 1 - i ∧ St i h ∧ Fr h₀ env.locals h m ∧ News h₀ env.locals h led ∧ (∀ p ∈ led, p.1 ∉ wr) ∧ Inv i m led := by
      rintro ⟨h₅, tk₅, m₅, led₅, rfl, F₅, N₅, off₅, hI₅⟩
      refine ⟨n + 1 - (i + 1), by omega, h₅, tk₅, i + 1, m₅, led₅, rfl, hlt, rfl, W.frame _ _ _ hst₄ fun b hb o e => ?_, F₅, fun p hp => N₅ p (List.mem_append_right _ hp), fun p hp => ho ▸ off₅ p hp, hI₅⟩
      by_cases hbw : b ∈ wr
      · obtain ⟨p, hp, rfl⟩ := List.mem_map.mp (ho ▸ hbw : b ∈ own.map (·.1))
        have e2 := hown p hp
        rw [e] at e2
        rw [Option.some.inj e2]
        exact (N₅ p (List.mem_append_left _ hp)).1
      · rcases hk b hb hbw with ⟨o', e'⟩ | ⟨o', hm⟩
        · have a := F₄.keep b o' e'
          rw [e] at a; rw [Option.some.inj a]
          exact F₅.keep b o' e'
        · have a := (N₄ (b, o') (List.mem_append_right _ (hm i m led hI))).1
          rw [show h₄.get? (b, o').1 = some o from e] at a
          rw [Option.some.inj a]
          exact (N₅ (b, o') (List.mem_append_right _ (hm _ _ _ hI₅))).1
    cases f with
    | next => exact fin x
    | cont => exact fin x
    | brk => exact x
    | ret v => exact x
  · obtain rfl : i = n := Nat.le_antisymm hi (Nat.not_lt.mp hlt)
    refine W.done _ _ _ hst' fun h₂ tk₂ hk₂ => ?_
    refine wpAny_execs_nil ?_
    exact done m led h₂ tk₂ hI ⟨F'.ns.at' fun o e => hk₂ _ o hLw e, fun b o e => hk₂ b o (fun hm => by rw [hwr b hm] at e; cases e) (F'.keep b o e), F'.above⟩ fun p hp => ⟨hk₂ _ _ (off' p hp) (N' p hp).1, (N' p hp).2⟩
/-- a for over one name, by an invariant; the ledger may grow -/
theorem For_W {x : Str} {px : Pos} {I : Addr} {fp wr : List Addr} {n : Nat} {Pt : Nat → Value → Prop} {St : Nat → Heap → Prop} {m₀ : Str → Option Value} {led₀ : Led} {EE : Value → Shared → Prop}
    (W : Walks prog w A I fp wr n Pt St) (hx : env.kindOf x = some .local) (hp : (env.scope.kind == .class || (env.scope.kind == .module && env.locals != env.globals)) = false)
    (hLf : env.locals ∉ fp) (hwr : ∀ b ∈ wr, h₀.get? b = none) (hst : St 0 s.heap) (F : Fr h₀ env.locals s.heap m₀) (N : News h₀ env.locals s.heap led₀) (hoff : ∀ p ∈ led₀, p.1 ∉ wr)
    (Inv : Nat → (Str → Option Value) → Led → Prop) (h0 : Inv 0 m₀ led₀)
    (hk : ∀ b ∈ fp, b ∉ wr → (∃ o, h₀.get? b = some o) ∨ ∃ o, ∀ i m led, Inv i m led → (b, o) ∈ led)
    (hobj : ∀ i h, St i h → ∀ b ∈ wr, ∃ o, h.get? b = some o)
    (bd : ∀ i v m led own h tk E', i < n → Pt i v → Inv i m led → own.map (·.1) = wr → (∀ p ∈ led, p.1 ∉ wr) → Fr h₀ env.locals h (fun y => if y = x then some v else m y) → News h₀ env.locals h (own ++ led) →
      wpAny (model prog w) A (execs body env) (ForPost h₀ env.locals own (Inv (i + 1)) { s with heap := h, toks := tk } Q) E' { s with heap := h, toks := tk })
    (done : ∀ m led h tk, Inv n m led → Fr h₀ env.locals h m → News h₀ env.locals h led → Q .next { s with heap := h, toks := tk }) :
    codeAny (model prog w) A (.forLoop (.Name x px) (.ref I) body [] env) (fun r s' => match r with | .ok f => Q f s' | .error e => EE e s') s := by
  refine codeAny_forLoop_any (fun k s' => ∃ h tk i m led, s' = { s with heap := h, toks := tk } ∧ i ≤ n ∧ k = n + 1 - i ∧ St i h ∧ Fr h₀ env.locals h m ∧ News h₀ env.locals h led ∧ (∀ p ∈ led, p.1 ∉ wr) ∧ Inv i m led) ?_ (n + 1)
    ⟨s.heap, s.toks, 0, m₀, led₀, rfl, Nat.zero_le _, rfl, hst, F, N, hoff, h0⟩
  rintro k s' ⟨h, tk, i, m, led, rfl, hi, rfl, hst', F', N', off', hI⟩
  have hLw : env.locals ∉ wr := fun hm => hLf (W.sub _ hm)
  have hL0 : h₀.get? env.locals = none := Heap.get?_none_of_le F'.above
  by_cases hlt : i < n
  · refine W.item i _ _ _ hlt hst' fun v h₃ tk₂ hP hst₃ k3 => ?_
    refine wpAny_of_eq (by rfl) ?_
    refine wpAny_assign_Name (wpAny_storeName_local hx (F'.ns.at' fun o e => k3 _ o hLw e) (fun h₄ hn₄ hs₄ => ?_) hp)
    have hk₄ : ∀ b o, b ≠ env.locals → h₃.get? b = some o → h₄.get? b = some o := fun b o hb e => hs₄.extBut b o hb e
    have k4 : ∀ b o, b ∉ wr → b ≠ env.locals → h.get? b = some o → h₄.get? b = some o := fun b o hb hb2 e => hk₄ b o hb2 (k3 b o hb e)
    have F₄ : Fr h₀ env.locals h₄ (fun y => if y = x then some v else m y) := ⟨hn₄, fun b o e => k4 b o (fun hm => by rw [hwr b hm] at e; cases e) (fun q => by rw [q, hL0] at e; cases e) (F'.keep b o e), F'.above⟩
    have hst₄ : St (i + 1) h₄ := W.frame _ _ _ hst₃ fun b hb o e => hk₄ b o (fun q => hLf (by rw [← q]; exact hb)) e
    obtain ⟨own, ho, hown⟩ := own_of (hobj _ _ hst₄)
    have N₄ : News h₀ env.locals h₄ (own ++ led) := fun p hp => by
      rcases List.mem_append.mp hp with hp | hp
      · have hm : p.1 ∈ wr := ho ▸ List.mem_map_of_mem hp
        exact ⟨hown p hp, fun q => hLw (by rw [← q]; exact hm), hwr _ hm⟩
      · exact ⟨k4 _ _ (off' p hp) (N' p hp).2.1 (N' p hp).1, (N' p hp).2⟩
    refine wpAny_mono (bd i v m led own h₄ _ _ hlt hP hI ho off' F₄ N₄) (fun f s₅ x => ?_) fun _ _ e => e
    have fin : ForEnd h₀ env.locals own (Inv (i + 1)) { s with heap := h₄, toks := tk₂ + 1 } s₅ → ∃ k', k' < n + 1 - i ∧ ∃ h tk i m led, s₅ = { s with heap := h, toks := tk } ∧ i ≤ n ∧ k' = n + 1 - i ∧ St i h ∧ Fr h₀ env.locals h m ∧ News h₀ env.locals h led ∧ (∀ p ∈ led, p.1 ∉ wr) ∧ Inv i m led := by
      rintro ⟨h₅, tk₅, m₅, led₅, rfl, F₅, N₅, off₅, hI₅⟩
      refine ⟨n + 1 - (i + 1), by omega, h₅, tk₅, i + 1, m₅, led₅, rfl, hlt, rfl, W.frame _ _ _ hst₄ fun b hb o e => ?_, F₅, fun p hp => N₅ p (List.mem_append_right _ hp), fun p hp => ho ▸ off₅ p hp, hI₅⟩
      by_cases hbw : b ∈ wr
      · obtain ⟨p, hp, rfl⟩ := List.mem_map.mp (ho ▸ hbw : b ∈ own.map (·.1))
        have e2 := hown p hp
        rw [e] at e2
        rw [Option.some.inj e2]
        exact (N₅ p (List.mem_append_left _ hp)).1
      · rcases hk b hb hbw with ⟨o', e'⟩ | ⟨o', hm⟩
        · have a := F₄.keep b o' e'
          rw [e] at a; rw [Option.some.inj a]
          exact F₅.keep b o' e'
        · have a := (N₄ (b, o') (List.mem_append_right _ (hm i m led hI))).1
          rw [show h₄.get? (b, o').1 = some o from e] at a
          rw [Option.some.inj a]
          exact (N₅ (b, o') (List.mem_append_right _ (hm _ _ _ hI₅))).1
    cases f with
    | next => exact fin x
    | cont => exact fin x
    | brk => exact x
    | ret v => exact x
  · obtain rfl : i = n := Nat.le_antisymm hi (Nat.not_lt.mp hlt)
    refine W.done _ _ _ hst' fun h₂ tk₂ hk₂ => ?_
    refine wpAny_execs_nil ?_
    exact done m led h₂ tk₂ hI ⟨F'.ns.at' fun o e => hk₂ _ o hLw e, fun b o e => hk₂ b o (fun hm => by rw [hwr b hm] at e; cases e) (F'.keep b o e), F'.above⟩ fun p hp => ⟨hk₂ _ _ (off' p hp) (N' p hp).1, (N' p hp).2⟩

theorem asg_2 {x1 x2 : Str} {p1 p2 tp : Pos} {kx : Nat} (hh : A.handled = none) (hx1 : env.kindOf x1 = some .local) (hx2 : env.kindOf x2 = some .local) (hp : (env.scope.kind == .class || (env.scope.kind == .module && env.locals != env.globals)) = false)
    {T : Addr} {v1 v2 : Value} {m : Str → Option Value} {EE : Value → Shared → Prop} {RR : Unit → Shared → Prop} (hT : s.heap.IsTuple T #[v1, v2]) (hn : s.heap.Ns env.locals m)
    (h : ∀ h' tk', h'.Ns env.locals (fun y => if y = x2 then some v2 else if y = x1 then some v1 else m y) → (∀ b o, b ≠ env.locals → s.heap.get? b = some o → h'.get? b = some o) → RR () { s with heap := h', toks := tk' }) :
    wpAny (model prog w) A (assign (.Tuple [.Name x1 p1, .Name x2 p2] kx tp) env (.ref T)) RR EE s := by
  have hlt := hn.lt
  refine assign_Tuple_tuple hh hT rfl rfl fun h₅ he => ?_
  have he' : ∀ b o, s.heap.get? b = some o → h₅.get? b = some o := fun b o e => he b o (Nat.ne_of_lt (Heap.lt_size e)) e
  refine assignInOrder_cons (wpAny_assign_Name (wpAny_storeName_local hx1 (hn.at' fun o e => he' _ o e) (fun g1 hn1 hs1 => ?_) hp))
  refine assignInOrder_cons (wpAny_assign_Name (wpAny_storeName_local hx2 hn1 (fun g2 hn2 hs2 => ?_) hp))
  refine assignInOrder_nil ?_
  exact h g2 _ hn2 fun b o hb e => hs2.extBut b o hb (hs1.extBut b o hb (he' b o e))
/-- for 2 names over a list of the ledger -/
theorem For_L2 {x1 x2 : Str} {p1 p2 tp : Pos} {kx : Nat} {m₀ : Str → Option Value} {led₀ B : Led} {ax : Addr} {its : List Value} {nL : Nat} (R : Nat → Value → Value → Prop) (Inv : Nat → (Str → Option Value) → Led → Prop)
    (hh : A.handled = none) (hx1 : env.kindOf x1 = some .local) (hx2 : env.kindOf x2 = some .local) (hp : (env.scope.kind == .class || (env.scope.kind == .module && env.locals != env.globals)) = false)
    (F : Fr h₀ env.locals s.heap m₀) (N : News h₀ env.locals s.heap led₀) (hax : (ax, listOf its.toArray nL) ∈ B) (hT : ∀ j v, its[j]? = some v → ∃ t n v1 v2, v = Value.ref t ∧ (t, tupO [v1, v2] n) ∈ B ∧ R j v1 v2) (hB : ∀ i m led, Inv i m led → ∀ p ∈ B, p ∈ led) (h0 : Inv 0 m₀ led₀)
    (bd : ∀ i v1 v2 m led I oI h tk E', i < its.length → R i v1 v2 → Inv i m led → (∀ p ∈ led, p.1 ≠ I) → Fr h₀ env.locals h (fun y => if y = x2 then some v2 else if y = x1 then some v1 else m y) → News h₀ env.locals h ((I, oI) :: led) →
      wpAny (model prog w) A (execs body env) (ForPost h₀ env.locals [(I, oI)] (Inv (i + 1)) { s with heap := h, toks := tk } Q) E' { s with heap := h, toks := tk })
    (done : ∀ m led h tk, Inv its.length m led → Fr h₀ env.locals h m → News h₀ env.locals h led → Q .next { s with heap := h, toks := tk }) :
    AtIter prog w A env (.Tuple [.Name x1 p1, .Name x2 p2] kx tp) body Q E (.ref ax) s := by
  unfold AtIter
  have hmB := hB _ _ _ h0
  have hl := N.isList (hmB _ hax)
  have hlt : ax < s.heap.objs.size := by obtain ⟨_, e, _⟩ := hl; exact Heap.lt_size e
  refine wpAny_pyIter_list hl ?_
  have up : ∀ b o, s.heap.get? b = some o → (s.heap.push { cls := .type "list_iterator", data := .fields #[.ref ax, .int 0 0] }).get? b = some o := fun b o e => Heap.get?_push_of_some _ e
  have hex : ∀ j, ∃ tv : Addr × (Value × Value), j < its.length → its[j]? = some (.ref tv.1) ∧ (∃ n, (tv.1, tupO [tv.2.1, tv.2.2] n) ∈ B) ∧ R j tv.2.1 tv.2.2 := by
    intro j
    by_cases hj : j < its.length
    · obtain ⟨t, n, v1, v2, e, hm, hR⟩ := hT j its[j] (List.getElem?_eq_getElem hj)
      exact ⟨(t, v1, v2), fun _ => ⟨by rw [List.getElem?_eq_getElem hj, e], ⟨n, hm⟩, hR⟩⟩
    · exact ⟨(0, .none, .none), fun x => absurd x hj⟩
  obtain ⟨tv, htv⟩ := Classical.axiomOfChoice hex
  have hsz : its.toArray.size = its.length := List.size_toArray
  have hTlt : ∀ j, j < its.length → (tv j).1 < s.heap.objs.size := fun j hj => by
    obtain ⟨_, ⟨n, hm⟩, _⟩ := htv j hj
    exact Heap.lt_size (N _ (hmB _ hm)).1
  have tup : ∀ j, j < its.length → s.heap.IsTuple (tv j).1 #[(tv j).2.1, (tv j).2.2] := fun j hj => by
    obtain ⟨_, ⟨n, hm⟩, _⟩ := htv j hj
    exact ⟨_, (N _ (hmB _ hm)).1, rfl, _, rfl⟩
  have W := WalksU.listOfTuples (prog := prog) (w := w) hh s.heap.objs.size ax (Nat.ne_of_lt hlt) its.toArray (fun j => (tv j).1) (fun j => #[(tv j).2.1, (tv j).2.2])
    (fun j hj => by rw [List.getElem?_toArray]; exact (htv j (hsz ▸ hj)).1) (fun j hj => Nat.ne_of_lt (hTlt j (hsz ▸ hj)))
  refine For_U (s := { s with heap := s.heap.push { cls := .type "list_iterator", data := .fields #[.ref ax, .int 0 0] } }) W (fun m a => match a.toList with | [v1, v2] => (fun y => if y = x2 then some v2 else if y = x1 then some v1 else m y) | _ => m) (fun T vals s m EE RR hT ⟨j, hj⟩ hn k => ?_) ?_ ?_ ?_ (F.keeps up) (N.grown up) (fun p hp hm => ?_) Inv h0 ?_ ?_ ?_ ?_
  · subst hj
    exact asg_2 hh hx1 hx2 hp hT hn k
  · intro hm
    rcases List.mem_cons.mp hm with e | hm
    · exact Nat.lt_irrefl _ (e ▸ F.ns.lt)
    rcases List.mem_cons.mp hm with e | hm
    · exact (N _ (hmB _ hax)).2.1 e.symm
    obtain ⟨j, hj, e⟩ := List.mem_map.mp hm
    obtain ⟨_, ⟨n, hm⟩, _⟩ := htv j (hsz ▸ List.mem_range.mp hj)
    exact (N _ (hmB _ hm)).2.1 e
  · intro b hb
    rw [List.mem_singleton.mp hb]
    exact next_is_new F
  · exact ⟨⟨_, Heap.get?_push_size _ rfl, rfl, rfl⟩, hl.push _, fun j hj => (tup j (hsz ▸ hj)).push _⟩
  · exact Nat.ne_of_lt (Heap.lt_size (N p hp).1) (List.mem_singleton.mp hm)
  · intro b hb hbw
    rcases List.mem_cons.mp hb with e | hm
    · exact absurd (List.mem_singleton.mpr e) hbw
    rcases List.mem_cons.mp hm with e | hm
    · exact .inr ⟨_, fun i m led hI => e ▸ hB i m led hI _ hax⟩
    obtain ⟨j, hj, e⟩ := List.mem_map.mp hm
    obtain ⟨_, ⟨n, hm⟩, _⟩ := htv j (hsz ▸ List.mem_range.mp hj)
    exact .inr ⟨_, fun i m led hI => e ▸ hB i m led hI _ hm⟩
  · intro i h st b hb
    rw [List.mem_singleton.mp hb]
    obtain ⟨o, e, _⟩ := st.1
    exact ⟨o, e⟩
  · intro i vals m led own h tk E' hi hP hI ho off' F' N'
    subst hP
    obtain ⟨_, _, hR⟩ := htv i (by rw [← hsz]; exact hi)
    obtain ⟨oI, rfl⟩ := own_one ho
    have hi' : i < its.length := by rw [← hsz]; exact hi
    have off9 : ∀ p ∈ led, p.1 ≠ s.heap.objs.size := fun p hp q => off' p hp (List.mem_singleton.mpr q)
    have go := bd i (tv i).2.1 (tv i).2.2 m led s.heap.objs.size oI h tk E' hi' hR hI off9
    exact go F' N'
  · intro m led h tk hI F' N'
    exact done m led h tk (by rw [← hsz]; exact hI) F' N'

theorem asg_3 {x1 x2 x3 : Str} {p1 p2 p3 tp : Pos} {kx : Nat} (hh : A.handled = none) (hx1 : env.kindOf x1 = some .local) (hx2 : env.kindOf x2 = some .local) (hx3 : env.kindOf x3 = some .local) (hp : (env.scope.kind == .class || (env.scope.kind == .module && env.locals != env.globals)) = false)
    {T : Addr} {v1 v2 v3 : Value} {m : Str → Option Value} {EE : Value → Shared → Prop} {RR : Unit → Shared → Prop} (hT : s.heap.IsTuple T #[v1, v2, v3]) (hn : s.heap.Ns env.locals m)
    (h : ∀ h' tk', h'.Ns env.locals (fun y => if y = x3 then some v3 else if y = x2 then some v2 else if y = x1 then some v1 else m y) → (∀ b o, b ≠ env.locals → s.heap.get? b = some o → h'.get? b = some o) → RR () { s with heap := h', toks := tk' }) :
    wpAny (model prog w) A (assign (.Tuple [.Name x1 p1, .Name x2 p2, .Name x3 p3] kx tp) env (.ref T)) RR EE s := by
  have hlt := hn.lt
  refine assign_Tuple_tuple hh hT rfl rfl fun h₅ he => ?_
  have he' : ∀ b o, s.heap.get? b = some o → h₅.get? b = some o := fun b o e => he b o (Nat.ne_of_lt (Heap.lt_size e)) e
  refine assignInOrder_cons (wpAny_assign_Name (wpAny_storeName_local hx1 (hn.at' fun o e => he' _ o e) (fun g1 hn1 hs1 => ?_) hp))
  refine assignInOrder_cons (wpAny_assign_Name (wpAny_storeName_local hx2 hn1 (fun g2 hn2 hs2 => ?_) hp))
  refine assignInOrder_cons (wpAny_assign_Name (wpAny_storeName_local hx3 hn2 (fun g3 hn3 hs3 => ?_) hp))
  refine assignInOrder_nil ?_
  exact h g3 _ hn3 fun b o hb e => hs3.extBut b o hb (hs2.extBut b o hb (hs1.extBut b o hb (he' b o e)))
/-- for 3 names over a list of the ledger -/
theorem For_L3 {x1 x2 x3 : Str} {p1 p2 p3 tp : Pos} {kx : Nat} {m₀ : Str → Option Value} {led₀ B : Led} {ax : Addr} {its : List Value} {nL : Nat} (R : Nat → Value → Value → Value → Prop) (Inv : Nat → (Str → Option Value) → Led → Prop)
    (hh : A.handled = none) (hx1 : env.kindOf x1 = some .local) (hx2 : env.kindOf x2 = some .local) (hx3 : env.kindOf x3 = some .local) (hp : (env.scope.kind == .class || (env.scope.kind == .module && env.locals != env.globals)) = false)
    (F : Fr h₀ env.locals s.heap m₀) (N : News h₀ env.locals s.heap led₀) (hax : (ax, listOf its.toArray nL) ∈ B) (hT : ∀ j v, its[j]? = some v → ∃ t n v1 v2 v3, v = Value.ref t ∧ (t, tupO [v1, v2, v3] n) ∈ B ∧ R j v1 v2 v3) (hB : ∀ i m led, Inv i m led → ∀ p ∈ B, p ∈ led) (h0 : Inv 0 m₀ led₀)
    (bd : ∀ i v1 v2 v3 m led I oI h tk E', i < its.length → R i v1 v2 v3 → Inv i m led → (∀ p ∈ led, p.1 ≠ I) → Fr h₀ env.locals h (fun y => if y = x3 then some v3 else if y = x2 then some v2 else if y = x1 then some v1 else m y) → News h₀ env.locals h ((I, oI) :: led) →
      wpAny (model prog w) A (execs body env) (ForPost h₀ env.locals [(I, oI)] (Inv (i + 1)) { s with heap := h, toks := tk } Q) E' { s with heap := h, toks := tk })
    (done : ∀ m led h tk, Inv its.length m led → Fr h₀ env.locals h m → News h₀ env.locals h led → Q .next { s with heap := h, toks := tk }) :
    AtIter prog w A env (.Tuple [.Name x1 p1, .Name x2 p2, .Name x3 p3] kx tp) body Q E (.ref ax) s := by
  unfold AtIter
  have hmB := hB _ _ _ h0
  have hl := N.isList (hmB _ hax)
  have hlt : ax < s.heap.objs.size := by obtain ⟨_, e, _⟩ := hl; exact Heap.lt_size e
  refine wpAny_pyIter_list hl ?_
  have up : ∀ b o, s.heap.get? b = some o → (s.heap.push { cls := .type "list_iterator", data := .fields #[.ref ax, .int 0 0] }).get? b = some o := fun b o e => Heap.get?_push_of_some _ e
  have hex : ∀ j, ∃ tv : Addr × (Value × Value × Value), j < its.length → its[j]? = some (.ref tv.1) ∧ (∃ n, (tv.1, tupO [tv.2.1, tv.2.2.1, tv.2.2.2] n) ∈ B) ∧ R j tv.2.1 tv.2.2.1 tv.2.2.2 := by
    intro j
    by_cases hj : j < its.length
    · obtain ⟨t, n, v1, v2, v3, e, hm, hR⟩ := hT j its[j] (List.getElem?_eq_getElem hj)
      exact ⟨(t, v1, v2, v3), fun _ => ⟨by rw [List.getElem?_eq_getElem hj, e], ⟨n, hm⟩, hR⟩⟩
    · exact ⟨(0, .none, .none, .none), fun x => absurd x hj⟩
  obtain ⟨tv, htv⟩ := Classical.axiomOfChoice hex
  have hsz : its.toArray.size = its.length := List.size_toArray
  have hTlt : ∀ j, j < its.length → (tv j).1 < s.heap.objs.size := fun j hj => by
    obtain ⟨_, ⟨n, hm⟩, _⟩ := htv j hj
    exact Heap.lt_size (N _ (hmB _ hm)).1
  have tup : ∀ j, j < its.length → s.heap.IsTuple (tv j).1 #[(tv j).2.1, (tv j).2.2.1, (tv j).2.2.2] := fun j hj => by
    obtain ⟨_, ⟨n, hm⟩, _⟩ := htv j hj
    exact ⟨_, (N _ (hmB _ hm)).1, rfl, _, rfl⟩
  have W := WalksU.listOfTuples (prog := prog) (w := w) hh s.heap.objs.size ax (Nat.ne_of_lt hlt) its.toArray (fun j => (tv j).1) (fun j => #[(tv j).2.1, (tv j).2.2.1, (tv j).2.2.2])
    (fun j hj => by rw [List.getElem?_toArray]; exact (htv j (hsz ▸ hj)).1) (fun j hj => Nat.ne_of_lt (hTlt j (hsz ▸ hj)))
  refine For_U (s := { s with heap := s.heap.push { cls := .type "list_iterator", data := .fields #[.ref ax, .int 0 0] } }) W (fun m a => match a.toList with | [v1, v2, v3] => (fun y => if y = x3 then some v3 else if y = x2 then some v2 else if y = x1 then some v1 else m y) | _ => m) (fun T vals s m EE RR hT ⟨j, hj⟩ hn k => ?_) ?_ ?_ ?_ (F.keeps up) (N.grown up) (fun p hp hm => ?_) Inv h0 ?_ ?_ ?_ ?_
  · subst hj
    exact asg_3 hh hx1 hx2 hx3 hp hT hn k
  · intro hm
    rcases List.mem_cons.mp hm with e | hm
    · exact Nat.lt_irrefl _ (e ▸ F.ns.lt)
    rcases List.mem_cons.mp hm with e | hm
    · exact (N _ (hmB _ hax)).2.1 e.symm
    obtain ⟨j, hj, e⟩ := List.mem_map.mp hm
    obtain ⟨_, ⟨n, hm⟩, _⟩ := htv j (hsz ▸ List.mem_range.mp hj)
    exact (N _ (hmB _ hm)).2.1 e
  · intro b hb
    rw [List.mem_singleton.mp hb]
    exact next_is_new F
  · exact ⟨⟨_, Heap.get?_push_size _ rfl, rfl, rfl⟩, hl.push _, fun j hj => (tup j (hsz ▸ hj)).push _⟩
  · exact Nat.ne_of_lt (Heap.lt_size (N p hp).1) (List.mem_singleton.mp hm)
  · intro b hb hbw
    rcases List.mem_cons.mp hb with e | hm
    · exact absurd (List.mem_singleton.mpr e) hbw
    rcases List.mem_cons.mp hm with e | hm
    · exact .inr ⟨_, fun i m led hI => e ▸ hB i m led hI _ hax⟩
    obtain ⟨j, hj, e⟩ := List.mem_map.mp hm
    obtain ⟨_, ⟨n, hm⟩, _⟩ := htv j (hsz ▸ List.mem_range.mp hj)
    exact .inr ⟨_, fun i m led hI => e ▸ hB i m led hI _ hm⟩
  · intro i h st b hb
    rw [List.mem_singleton.mp hb]
    obtain ⟨o, e, _⟩ := st.1
    exact ⟨o, e⟩
  · intro i vals m led own h tk E' hi hP hI ho off' F' N'
    subst hP
    obtain ⟨_, _, hR⟩ := htv i (by rw [← hsz]; exact hi)
    obtain ⟨oI, rfl⟩ := own_one ho
    have hi' : i < its.length := by rw [← hsz]; exact hi
    have off9 : ∀ p ∈ led, p.1 ≠ s.heap.objs.size := fun p hp q => off' p hp (List.mem_singleton.mpr q)
    have go := bd i (tv i).2.1 (tv i).2.2.1 (tv i).2.2.2 m led s.heap.objs.size oI h tk E' hi' hR hI off9
    exact go F' N'
  · intro m led h tk hI F' N'
    exact done m led h tk (by rw [← hsz]; exact hI) F' N'

/-- for two names over an enumerate of a list of the ledger -/
theorem For_E2 {x1 x2 : Str} {p1 p2 tp : Pos} {kx : Nat} {m₀ : Str → Option Value} {led₀ B : Led} {ax : Addr} {its : List Value} {nL : Nat} {E' : Value → Shared → Prop} (Inv : Nat → (Str → Option Value) → Led → Prop)
    (hh : A.handled = none) (hx1 : env.kindOf x1 = some .local) (hx2 : env.kindOf x2 = some .local) (hp : (env.scope.kind == .class || (env.scope.kind == .module && env.locals != env.globals)) = false)
    (F : Fr h₀ env.locals s.heap m₀) (N : News h₀ env.locals s.heap led₀) (hax : (ax, listOf its.toArray nL) ∈ B) (hB : ∀ i m led, Inv i m led → ∀ p ∈ B, p ∈ led) (h0 : Inv 0 m₀ led₀)
    (bd : ∀ i v t m led e it oe oi h tk E', i < its.length → its[i]? = some v → Inv i m led → (∀ p ∈ led, p.1 ≠ e ∧ p.1 ≠ it) → Fr h₀ env.locals h (fun y => if y = x2 then some v else if y = x1 then some (.int (i : Int) t) else m y) → News h₀ env.locals h ((e, oe) :: (it, oi) :: led) →
      wpAny (model prog w) A (execs body env) (ForPost h₀ env.locals [(e, oe), (it, oi)] (Inv (i + 1)) { s with heap := h, toks := tk } Q) E' { s with heap := h, toks := tk })
    (done : ∀ m led h tk, Inv its.length m led → Fr h₀ env.locals h m → News h₀ env.locals h led → Q .next { s with heap := h, toks := tk }) :
    wpAny (model prog w) A (call (.type "enumerate") [.ref ax]) (AtIter prog w A env (.Tuple [.Name x1 p1, .Name x2 p2] kx tp) body Q E') E s := by
  have hmB := hB _ _ _ h0
  have hg := (N _ (hmB _ hax)).1
  have hlt : ax < s.heap.objs.size := Heap.lt_size hg
  refine call_enumerate_1 hg fun h' he hit hsz hk => ?_
  refine wpAny_pyIter_enum he ?_
  have hl' : h'.IsList ax its.toArray := ⟨_, hk _ _ hg, rfl, _, rfl⟩
  have W := (WalksT.enumerate (prog := prog) (w := w) hh (s.heap.objs.size + 1) s.heap.objs.size ax (Nat.succ_ne_self _) (Nat.ne_of_lt (Nat.lt_succ_of_lt hlt)) (Nat.ne_of_lt hlt) its.toArray).toU
  have hs : its.toArray.size = its.length := List.size_toArray
  have hLs : env.locals < s.heap.objs.size := F.ns.lt
  have g0 : ∀ a, s.heap.objs.size ≤ a → h₀.get? a = none := fun a ha => by
    cases e : h₀.get? a with
    | none => rfl
    | some o' => exact absurd (Heap.lt_size (F.keep _ _ e)) (Nat.not_lt.mpr ha)
  refine For_U (s := { s with heap := h' }) W (fun m a => match a.toList with | [v1, v2] => (fun y => if y = x2 then some v2 else if y = x1 then some v1 else m y) | _ => m) (fun T vals s m EE RR hT ⟨j, t, v, hv, hj⟩ hn k => ?_) ?_ ?_ ⟨⟨_, he⟩, hit, hl'⟩ (F.keeps hk) (N.grown hk) (fun p hp hm => ?_) Inv h0 ?_ ?_ ?_ ?_
  · subst hj
    exact asg_2 hh hx1 hx2 hp hT hn k
  · intro hm
    rcases List.mem_cons.mp hm with e | hm
    · exact Nat.lt_irrefl _ (Nat.lt_of_succ_lt (e ▸ hLs : s.heap.objs.size + 1 < s.heap.objs.size))
    rcases List.mem_cons.mp hm with e | hm
    · exact Nat.lt_irrefl _ (e ▸ hLs)
    · exact (N _ (hmB _ hax)).2.1 (List.mem_singleton.mp hm).symm
  · intro b hb
    rcases List.mem_cons.mp hb with e | hb
    · exact g0 _ (by rw [e]; exact Nat.le_succ _)
    · exact g0 _ (by rw [List.mem_singleton.mp hb]; exact Nat.le_refl _)
  · have hp' := Heap.lt_size (N p hp).1
    rcases List.mem_cons.mp hm with e | hm
    · exact Nat.ne_of_lt (Nat.lt_succ_of_lt hp') e
    · exact Nat.ne_of_lt hp' (List.mem_singleton.mp hm)
  · intro b hb hbw
    rcases List.mem_cons.mp hb with e | hm
    · exact absurd (e ▸ .head _) hbw
    rcases List.mem_cons.mp hm with e | hm
    · exact absurd (e ▸ .tail _ (.head _)) hbw
    · exact .inr ⟨_, fun i m led hI => (List.mem_singleton.mp hm) ▸ hB i m led hI _ hax⟩
  · rintro i h ⟨⟨old, x⟩, ⟨o, y, _⟩, _⟩ b hb
    rcases List.mem_cons.mp hb with e | hb
    · exact ⟨_, e ▸ x⟩
    · exact ⟨o, (List.mem_singleton.mp hb) ▸ y⟩
  · rintro i vals m led own h tk E' hi ⟨t, v, hv, rfl⟩ hI ho off' F' N'
    obtain ⟨oe, oi, rfl⟩ := own_two ho
    have hi' : i < its.length := by rw [← hs]; exact hi
    have off9 : ∀ p ∈ led, p.1 ≠ s.heap.objs.size + 1 ∧ p.1 ≠ s.heap.objs.size := fun p hp => ⟨fun q => off' p hp (q ▸ .head _), fun q => off' p hp (q ▸ .tail _ (.head _))⟩
    have go := bd i v t m led (s.heap.objs.size + 1) s.heap.objs.size oe oi h tk E' hi' (by simpa using hv) hI off9
    exact go F' N'
  · intro m led h tk hI F' N'
    exact done m led h tk (by rw [← hs]; exact hI) F' N'
/-- for one name over a range -/
theorem For_R1 {x : Str} {px : Pos} {m₀ : Str → Option Value} {led₀ : Led} {r : Addr} {a b : Int} {t u v : Tok} {n : Nat} (Inv : Nat → (Str → Option Value) → Led → Prop)
    (hh : A.handled = none) (hx : env.kindOf x = some .local) (hp : (env.scope.kind == .class || (env.scope.kind == .module && env.locals != env.globals)) = false)
    (F : Fr h₀ env.locals s.heap m₀) (N : News h₀ env.locals s.heap led₀) (hr : IsRange s.heap r a b 1 t u v) (hsm : Builtin.Range.small a b 1 = true) (hn : Builtin.Range.rangeSize a b 1 = ((n : Nat) : Int)) (h0 : Inv 0 m₀ led₀)
    (bd : ∀ i t m led I oI h tk E', i < n → Inv i m led → (∀ p ∈ led, p.1 ≠ I) → Fr h₀ env.locals h (fun y => if y = x then some (.int (a + (i : Int)) t) else m y) → News h₀ env.locals h ((I, oI) :: led) →
      wpAny (model prog w) A (execs body env) (ForPost h₀ env.locals [(I, oI)] (Inv (i + 1)) { s with heap := h, toks := tk } Q) E' { s with heap := h, toks := tk })
    (done : ∀ m led h tk, Inv n m led → Fr h₀ env.locals h m → News h₀ env.locals h led → Q .next { s with heap := h, toks := tk }) :
    AtIter prog w A env (.Name x px) body Q E (.ref r) s := by
  unfold AtIter
  refine wpAny_pyIter_range hr hsm ?_
  have W := LCg.range_walks (prog := prog) (w := w) (I := s.heap.objs.size) hh a n
  refine For_W (s := { s with heap := s.heap.push _ }) W hx hp ?_ ?_ ?_ (F.push _) (fun p hp => ⟨Heap.get?_push_of_some _ (N p hp).1, (N p hp).2⟩) (fun p hp hm => ?_) Inv h0 ?_ ?_ ?_ ?_
  · intro hm
    exact absurd F.ns.lt ((List.mem_singleton.mp hm) ▸ Nat.lt_irrefl _)
  · intro b hb
    rw [List.mem_singleton.mp hb]
    exact next_is_new F
  · show IsRangeIter _ _ _ _ _
    rw [hn]; simpa using Heap.get?_push_size _ rfl
  · exact Nat.ne_of_lt (Heap.lt_size (N p hp).1) (List.mem_singleton.mp hm)
  · intro b hb hbw
    exact absurd hb hbw
  · intro i h st b hb
    rw [List.mem_singleton.mp hb]
    exact ⟨_, st⟩
  · rintro i v m led own h tk E' hi ⟨t, rfl⟩ hI ho off' F' N'
    obtain ⟨oI, rfl⟩ := own_one ho
    exact bd i t m led s.heap.objs.size oI h tk E' hi hI (fun p hp q => off' p hp (List.mem_singleton.mpr q)) F' N'
  · intro m led h tk hI F' N'
    exact done m led h tk hI F' N'
end
theorem words_19m : True := by
  k_with "call ref" => (k_here; (try dsimp only [List.nil_append, List.cons_append]); (with_reducible show wpAny _ _ (call (Value.ref 43) [_]) _ _ _); k_dflt (refine' ptold_c ?zzk1 ?zzk2 ?zzk3 ?zzk4 ?zzk5 ?zzk6 ?zzk7 ?_; (case zzk3 => exact Fr.keep (by k_asm)); (case zzk1 => assumption); (case zzk2 => assumption); (case zzk4 => k_room); (case zzk5 => exact has_of (by k_asm)); (case zzk6 => k_mem); (case zzk7 => k_mem); k_whole; intro _ _ _ _ hE' hf' hq'; (have l1 := allNe_of (by k_asm) hf'); (try simp only [AllNe, and_true] at l1); (try (revert l1; intro _)); (have N' := news_add (by k_asm) (by k_asm) hE' (Has.cons hq' Has.nil) (List.forall_mem_cons.mpr ⟨hf', fun _ h => nomatch h⟩)); (have _ := Fr.keeps (by k_asm) hE'); (dsimp only [List.nil_append, List.cons_append] at N'); (revert N'; intro _); (try k_sweep)))
  exact True.intro
noncomputable abbrev lamQ : Str := (Str.ofString "_law_rows" ++ Str.ofString ".<locals>.") ++ Str.ofString "<lambda>"
noncomputable def T431 (h : Heap) (ps : Array Value) : Prop := ps = #[] ∨ ∃ c' : Addr, ps = #[rawInt 266, rawInt 60, .ref c'] ∧ h.CodeRec (.ref c') lamQ
/-- the table behind a call: as ahead of it, or with a code of the call's own -/
noncomputable def T431P (a b : Array Value) (nw : Led) : Prop := b = a ∨ ∃ (c' : Addr) (oc : Obj) (vs : Array Value) (t : Tok), b = #[rawInt 266, rawInt 60, .ref c'] ∧ (c', oc) ∈ nw ∧ oc.data = .fields vs ∧ vs[1]? = some (.str lamQ t)
theorem T431P.mono {a b : Array Value} {nw nw' : Led} (x : T431P a b nw) (k : ∀ p ∈ nw, p ∈ nw') : T431P a b nw' := by
  rcases x with x | ⟨c', oc, vs, t, e1, e2, e3, e4⟩
  · exact .inl x
  · exact .inr ⟨c', oc, vs, t, e1, k _ e2, e3, e4⟩
theorem T431.plain {h : Heap} {ps : Array Value} (h : T431 h ps) : plainO (tabObj ps) = true := by
  rcases h with rfl | ⟨c', rfl, _⟩ <;> rfl
theorem codeRec_but {h g : Heap} {c : Value} {q : Str} {W : Led} (x : h.CodeRec c q) (hB : ExtB (W.map (·.1)) h g) (hW : ∀ p ∈ W, h.get? p.1 = some p.2) (hp : ∀ p ∈ W, plainO p.2 = true) : g.CodeRec c q := by
  obtain ⟨c', oc, vs, t, e1, e2, e3, e4⟩ := x
  refine ⟨c', oc, vs, t, e1, hB _ _ (fun hm => ?_) e2, e3, e4⟩
  obtain ⟨y, hy, rfl⟩ := List.mem_map.mp hm
  have := hp y hy
  rw [hW y hy] at e2
  rw [Option.some.inj e2] at this
  unfold plainO at this
  rw [e3] at this
  simp only [e4] at this
  exact Bool.noConfusion this
theorem allNe_mem {q : Addr} : ∀ {l : Led}, AllNe q l → ∀ p ∈ l, @Ne Nat p.1 q
  | [], _, _, h => nomatch h
  | _ :: _, x, p, h => by
    rcases List.mem_cons.mp h with rfl | h
    · exact x.1
    · exact allNe_mem x.2 p h
theorem sub13 {a i j k : Addr × Obj} {tl : Led} : ∀ p ∈ i :: j :: k :: a :: tl, p ∈ a :: i :: j :: k :: tl := by
  intro p hp
  simp only [List.mem_cons] at hp ⊢
  rcases hp with y | y | y | y | y
  · exact .inr (.inl y)
  · exact .inr (.inr (.inl y))
  · exact .inr (.inr (.inr (.inl y)))
  · exact .inl y
  · exact .inr (.inr (.inr (.inr y)))
theorem ne_of_fresh {g : Heap} {d : Addr} {ld : Led} (H : Has g ld) (hd : g.get? d = none) : ∀ q ∈ ld, q.1 ≠ d := fun q hq e => by
  have := H q hq; rw [e, hd] at this; cases this
theorem cons_ne {x d : Addr} {o : Obj} {ld : Led} (h : @Ne Nat x d) (k : ∀ q ∈ ld, q.1 ≠ d) : ∀ q ∈ (x, o) :: ld, q.1 ≠ d := fun q hq => by
  rcases List.mem_cons.mp hq with rfl | hq
  · exact h
  · exact k q hq
theorem lr_pack {w : World} {g h : Heap} {L q : Addr} {vs : List Value} {nq : Nat} {ex nw tl : Led} {ps a ps2 : Array Value} {rows : List RowD} (N : News g L h (nw ++ tl)) (hm : (q, listOf (List.toArray vs) nq) ∈ nw) (h73 : (73, tabObj ps) ∈ tl) (h431 : (431, tabObj ps2) ∈ tl)
    (hR : RowsIn w nw vs rows) (hnn : ∀ p ∈ nw, p.1 ≠ 73 ∧ p.1 ≠ 431) (hT : T431P a ps2 ex) (hex : ∀ p ∈ ex, p ∈ tl ∧ p.1 ≠ 73 ∧ p.1 ≠ 431) :
    ∃ Bs Bc, News g L h Bs ∧ (q, listOf (List.toArray vs) nq) ∈ Bs ∧ (73, tabObj ps) ∈ Bs ∧ (431, tabObj ps2) ∈ Bs ∧ (∀ p ∈ Bc, p ∈ Bs) ∧ RowsIn w Bc vs rows ∧ (∀ p ∈ Bc, p.1 ≠ 73 ∧ p.1 ≠ 431) ∧ T431P a ps2 Bc :=
  ⟨nw ++ tl, ex ++ nw, N, List.mem_append_left _ hm, List.mem_append_right _ h73, List.mem_append_right _ h431, fun p hp => (List.mem_append.mp hp).elim (fun y => List.mem_append_right _ (hex p y).1) fun y => List.mem_append_left _ y,
    hR.mono fun p hp => List.mem_append_right _ hp, fun p hp => (List.mem_append.mp hp).elim (fun y => (hex p y).2) (hnn p), hT.mono fun p hp => List.mem_append_left _ hp⟩
theorem lr_packF {w : World} {g h : Heap} {L q : Addr} {vs : List Value} {nq : Nat} {nw tl : Led} {fo co : Addr × Obj} {ps a ps2 : Array Value} {rows : List RowD} (N : News g L h (nw ++ fo :: co :: tl)) (hm : (q, listOf (List.toArray vs) nq) ∈ nw) (h73 : (73, tabObj ps) ∈ tl) (h431 : (431, tabObj ps2) ∈ tl)
    (hR : RowsIn w nw vs rows) (hnn : ∀ p ∈ nw, p.1 ≠ 73 ∧ p.1 ≠ 431) (hT : T431P a ps2 [co]) (hex : @Ne Nat co.1 73 ∧ @Ne Nat co.1 431) :
    ∃ Bs Bc, News g L h Bs ∧ (q, listOf (List.toArray vs) nq) ∈ Bs ∧ (73, tabObj ps) ∈ Bs ∧ (431, tabObj ps2) ∈ Bs ∧ (∀ p ∈ Bc, p ∈ Bs) ∧ RowsIn w Bc vs rows ∧ (∀ p ∈ Bc, p.1 ≠ 73 ∧ p.1 ≠ 431) ∧ T431P a ps2 Bc :=
  lr_pack (ex := [co]) N hm (.tail _ (.tail _ h73)) (.tail _ (.tail _ h431)) hR hnn hT fun p hp => by rw [List.mem_singleton.mp hp]; exact ⟨.tail _ (.head _), hex⟩
theorem unRows_len (us : List Un) : (unRows us).length ≤ (unsTok us).length + 1 := by
  have h1 := run_len us
  have h2 : (unAll us).length = (unRun us).1.length + 1 := by unfold unAll; rw [List.length_append]; rfl
  unfold unRows
  split
  · exact Nat.zero_le _
  · rename_i r rest e
    rw [e, List.length_cons] at h2
    split
    · omega
    · rw [List.length_cons]; omega
theorem words_i2 : True := by
  k_with "call ref" => (k_here; (try dsimp only [List.nil_append, List.cons_append]); (with_reducible show wpAny _ _ (call (Value.ref 104) [_, _]) _ _ _); k_dflt (refine' rows_here_c ?zzk1 ?zzk2 ?zzk3 ?zzk4 ?zzku ?zzk5 ?zzk6 ?zzkn ?zzkn2 ?zzkf ?zzkf2 ?zzkP ?zzkT ?zzkc ?zzkC ?zzka ?zzkb ?_; (case zzk3 => exact Fr.keep (by k_asm)); (case zzk1 => assumption); (case zzk2 => assumption); (case zzk4 => k_room); (case zzku => k_units); (case zzk5 => walk_at "READERS"); (case zzk6 => exact ⟨.head _, ⟨_, .tail _ (by assumption)⟩, ToksIn.mono (by assumption) (fun p hp => .tail _ hp), by assumption⟩); (case zzkn => exact cons_ne (by k_ne) (ne_of_fresh (by assumption) (News.fresh (by k_asm) (by k_mem)))); (case zzkn2 => exact cons_ne (by k_ne) (by assumption)); (case zzkf => exact News.fresh (by k_asm) (by k_mem)); (case zzkP => exact News.get (by k_asm) (by k_mem)); (case zzkf2 => exact News.fresh (by k_asm) (by k_mem)); (case zzkT => assumption); (case zzkc => assumption); (case zzkC => first | assumption | exact ⟨_, _, _, _, _, News.get (by k_asm) (by k_mem), _, _, _, _, rfl, News.get (by k_asm) (by k_mem), by assumption, by assumption⟩ | exact ⟨_, _, _, _, _, News.get (by k_asm) (by k_mem), Heap.CodeRec.keeps (by assumption) (Fr.keep (by k_asm))⟩); (case zzka => assumption); (case zzkb => assumption); k_whole; intro _ _ _ _ _ _ _ _ hB' hp' _ hH' hF' _ _ hd'; (have _ := fresh_all (by k_asm) (by k_asm) hF'); (have N' := news_two (by k_asm) (by k_upd) (by k_upd) hB' hd' hp'); (replace N' := news_nw (by k_asm) N' hH' hF'); (revert N'; intro _); (have _ := fr_two (by k_asm) (by k_asm) (by k_mem) (by k_mem) hB'); (clear hB' hd' hp' hH' hF'); (try k_sweep)))
  exact True.intro
theorem words_i3 : True := by
  k_with "READERS" => exact Has.cons (News.get (by k_asm) (by k_mem)) (Has.cons (o := instObj 383 _) (News.get (by k_asm) (by k_mem)) (Has.ext (by assumption) (Fr.keep (by k_asm))))
  exact True.intro
theorem words_i4 : True := by
  k_with "eval ListComp" => (k_here; (with_reducible show wpAny _ _ (eval (Expr.ListComp _ _ _ _) _) _ _ _); refine Halt.out ?_)
  exact True.intro
section
variable {prog : Program} {w : World} {dp un : Nat} {fr : Option (List Env)} {gd : Option (List Code)} {s : Shared} {h₀ : Heap} {p : Program} {loose : List Str} {mean : ExcName → Option Value} {mg mb : Str → Option Value}
variable {Q E : Value → Shared → Prop} {l : Addr} {nl : Nat} {vs : List Value} {ts : List Tk} {ld : Led} {ps ps2 : Array Value}
set_option maxHeartbeats 4000000 in
theorem law_rows_c (X : (K w.params).In h₀) (T : Top p loose mean mg mb h₀) (k₀ : Ext h₀ s.heap) (hd : dp + 40 < recursionLimit) (hu : un + 400 < cLine)
    (H : Has s.heap ld) (hl : (l, listOf (List.toArray vs) nl) ∈ ld) (htk : ToksIn w ld vs ts) (hfew : ts.length < 2 ^ 20) (hn73 : ∀ q ∈ ld, q.1 ≠ 73) (hn431 : ∀ q ∈ ld, q.1 ≠ 431) (hf1 : h₀.get? 73 = none) (hf2 : h₀.get? 431 = none)
    (HP1 : s.heap.get? 73 = some (tabObj ps)) (hT1 : T73 ps) (HP2 : s.heap.get? 431 = some (tabObj ps2)) (hT2 : T431 s.heap ps2) (hc1 : CodeHd h₀ 77 73) (hc2 : CodeHd h₀ 433 431) {us : List Un} (hts : ts = unsTok us) (hok : ∀ u ∈ us, UnOk w u)
    (h : ∀ q vs' nq nw ps' ps2' h' tk', ExtB [73, 431] s.heap h' → h'.get? 73 = some (tabObj ps') → T73 ps' → h'.get? 431 = some (tabObj ps2') → T431P ps2 ps2' nw → Has h' nw → (∀ p ∈ nw, s.heap.get? p.1 = none) → (q, listOf (List.toArray vs') nq) ∈ nw → ToldsIn nw vs' (unRows us) → Q (.ref q) { s with heap := h', toks := tk' }) :
    wpAny (model prog w) (Ar dp fr gd un) (call (.ref 434) [.ref l]) Q E s := by
  have reg : (K, PySem.Challenge.rw_pb0258_01).1 = K := by (k_fill; rfl)
  clear reg
  have hW : ∀ p ∈ [(73, tabObj ps), (431, tabObj ps2)], s.heap.get? p.1 = some p.2 := by
    simp only [List.forall_mem_cons]; exact ⟨HP1, HP2, fun _ h => nomatch h⟩
  have hN : ∀ p ∈ [(73, tabObj ps), (431, tabObj ps2)], h₀.get? p.1 = none := by
    simp only [List.forall_mem_cons]; exact ⟨hf1, hf2, fun _ h => nomatch h⟩
  have hpl : ∀ p ∈ [(73, tabObj ps), (431, tabObj ps2)], plainO p.2 = true := by
    simp only [List.forall_mem_cons]; exact ⟨hT1.plain, hT2.plain, fun _ h => nomatch h⟩
  have hul : (unRows us).length ≤ ts.length + 1 := by rw [hts]; exact unRows_len us
  rcases hT2 with rfl | ⟨c', rfl, hcr⟩
  · as_aux_lemma =>
    walk_at "ENTERW"
    have hc9 : CodeHd _ 77 73 := CodeHd.keeps hc1 (by assumption)
    have hc8 : CodeHd _ 433 431 := CodeHd.keeps hc2 (by assumption)
    (rename ExtB _ _ _ => hB9)
    have HG9 := has_but2 hB9 hn73 hn431 (Has.cons HP1 H)
    k_steps
    refine ⟨?_⟩
    (rename Fr _ _ _ _ => F9)
    refine LCg.ListComp_U F9 (by with_unfolding_all rfl) (by decide) (by rfl) (by decide) (by rfl) ?_
    k_steps
    (rename News _ _ _ _ => N8)
    (rename ((_, listOf _ _) ∈ _) => hm8)
    (rename RowsIn _ _ _ _ => hR8)
    (rename (∀ p : Addr × Obj, p ∈ _ → p.1 ≠ _ ∧ _ = none ∧ AllNe p.1 _) => hG8)
    (rename T73 _ => hT8)
    have hnn := fun p hp => And.intro (Ne.symm (allNe_mem (hG8 p hp).2.2 (73, _) (by k_mem))) (Ne.symm (allNe_mem (hG8 p hp).2.2 (431, _) (by k_mem)))
    have hvl := hR8.length
    obtain ⟨Bs, Bc, N7, b1, b2, b3, b4, hR7, hn7, hT7⟩ := lr_packF N8 hm8 (by k_mem) (by k_mem) hR8 hnn (.inr ⟨_, _, _, _, Array.empty_append, .head _, by assumption, by assumption⟩) ⟨by k_ne, by k_ne⟩
    skip
    refine LCg.CompSrc.ledger (by rfl) (by k_asm) N7 b1 ?_ fun g9 => ?_
    · rw [List.size_toArray]; unfold sizeLine; omega
    refine rest_ind (n := _) (fun i ys nw2 => ∃ new, nw2 = new ++ Bs ∧ ToldsIn (new ++ Bc) ys ((unRows us).take i) ∧ ∀ p ∈ new, p.1 ≠ 73 ∧ p.1 ≠ 431) ?_ ?_ _ 0 [] _ (Nat.zero_add _) ⟨[], rfl, .nil, fun _ h => nomatch h⟩
    · rintro ys news ⟨new, rfl, hRs, hnew⟩
      intro D9 h9 tk9 F9 N9 off9
      rw [List.size_toArray, hvl, List.take_length] at hRs
      have hdm' := List.mem_append_right new b2
      have h7m' := List.mem_append_right new b3
      have hbc : ∀ p ∈ new ++ Bc, p ∈ new ++ Bs := fun p hp => (List.mem_append.mp hp).elim (fun y => List.mem_append_left _ y) fun y => List.mem_append_right _ (b4 p y)
      have hnn : ∀ p ∈ new ++ Bc, p.1 ≠ 73 ∧ p.1 ≠ 431 := fun p hp => (List.mem_append.mp hp).elim (hnew p) (hn7 p)
      refine h D9 ys _ ((D9, LCg.lst ys) :: (new ++ Bc)) _ _ _ _ (extB_two hB9 F9) (N9.get (.tail _ hdm')) hT8 (N9.get (.tail _ h7m')) ?t431 (fun p hp => ?_) (fun p hp => ?_) (.head _) (hRs.mono fun p hp => .tail _ hp)
      · exact hT7.mono fun p hp => .tail _ (List.mem_append_right _ hp)
      · rcases List.mem_cons.mp hp with rfl | hp
        · exact N9.get (.head _)
        · exact N9.get (.tail _ (hbc _ hp))
      · rcases List.mem_cons.mp hp with rfl | hp
        · exact new_two hB9 (N9.fresh (.head _)) (Ne.symm (off1_mem off9 _ hdm')) (Ne.symm (off1_mem off9 _ h7m'))
        · exact new_two hB9 (N9.fresh (.tail _ (hbc _ hp))) (hnn p hp).1 (hnn p hp).2
    · rintro i ys news hi ⟨new, rfl, hRs, hnew⟩ v I' oI' C' oC' D' m' h' tk' E' hv hC' hx' F' N' off' ne'
      obtain ⟨r, hr, a1, d1, t1', t2', t3', u1', u2', e1, n1', ss1, rfl, m1, m2, m3, m4, m5⟩ := hR7.get (by simpa using hv)
      have m1' := List.mem_append_right new (b4 _ m1)
      have m2' := List.mem_append_right new (b4 _ m2)
      have b1' := List.mem_append_right new b1
      have b2' := List.mem_append_right new b2
      have b3' := List.mem_append_right new b3
      generalize hnw : new ++ Bs = news at m1' m2' b1' b2' b3' N' off' ⊢
      k_steps
      (rename News _ _ _ _ => N9)
      (rename Fr _ _ _ _ => F9)
      (rename (_ ≠ _ ∧ _ ≠ _ ∧ _ ≠ _ ∧ AllNe _ news) => l0)
      obtain ⟨g1, g2, g3, g4⟩ := l0
      refine LCg.CompEnd.intro F9 N9 ((_, _) :: news) sub13 ⟨⟨Ne.symm g1, Ne.symm g2, Ne.symm g3⟩, off'⟩ (.inr ⟨_, .tail _ b1', rfl, _, rfl⟩) ⟨(_, _) :: new, by rw [← hnw]; rfl, ?_, ?_⟩
      · rw [List.take_add_one, hr]
        exact (hRs.mono fun p hp => .tail _ hp).app (.cons ⟨_, _, e1, n1', _, _, ss1, rfl, .head _, .tail _ (List.mem_append_right _ m3), m4, m5.mono fun p hp => .tail _ (List.mem_append_right _ hp)⟩ .nil)
      · intro p hp
        rcases List.mem_cons.mp hp with rfl | hp
        · exact ⟨Ne.symm (allNe_mem g4 _ b2'), Ne.symm (allNe_mem g4 _ b3')⟩
        · exact hnew p hp
  · as_aux_lemma =>
    walk_at "ENTERW"
    have hc9 : CodeHd _ 77 73 := CodeHd.keeps hc1 (by assumption)
    have hc8 : CodeHd _ 433 431 := CodeHd.keeps hc2 (by assumption)
    (rename ExtB _ _ _ => hB9)
    have HG9 := has_but2 hB9 hn73 hn431 (Has.cons HP1 H)
    have hcr9 := codeRec_but hcr hB9 hW hpl
    k_steps
    refine ⟨?_⟩
    (rename Fr _ _ _ _ => F9)
    refine LCg.ListComp_U F9 (by with_unfolding_all rfl) (by decide) (by rfl) (by decide) (by rfl) ?_
    k_steps
    (rename News _ _ _ _ => N8)
    (rename ((_, listOf _ _) ∈ _) => hm8)
    (rename RowsIn _ _ _ _ => hR8)
    (rename (∀ p : Addr × Obj, p ∈ _ → p.1 ≠ _ ∧ _ = none ∧ AllNe p.1 _) => hG8)
    (rename T73 _ => hT8)
    have hnn := fun p hp => And.intro (Ne.symm (allNe_mem (hG8 p hp).2.2 (73, _) (by k_mem))) (Ne.symm (allNe_mem (hG8 p hp).2.2 (431, _) (by k_mem)))
    have hvl := hR8.length
    obtain ⟨Bs, Bc, N7, b1, b2, b3, b4, hR7, hn7, hT7⟩ := lr_pack N8 hm8 (by k_mem) (by k_mem) hR8 hnn (ex := []) (.inl rfl) (fun _ h => nomatch h)
    skip
    refine LCg.CompSrc.ledger (by rfl) (by k_asm) N7 b1 ?_ fun g9 => ?_
    · rw [List.size_toArray]; unfold sizeLine; omega
    refine rest_ind (n := _) (fun i ys nw2 => ∃ new, nw2 = new ++ Bs ∧ ToldsIn (new ++ Bc) ys ((unRows us).take i) ∧ ∀ p ∈ new, p.1 ≠ 73 ∧ p.1 ≠ 431) ?_ ?_ _ 0 [] _ (Nat.zero_add _) ⟨[], rfl, .nil, fun _ h => nomatch h⟩
    · rintro ys news ⟨new, rfl, hRs, hnew⟩
      intro D9 h9 tk9 F9 N9 off9
      rw [List.size_toArray, hvl, List.take_length] at hRs
      have hdm' := List.mem_append_right new b2
      have h7m' := List.mem_append_right new b3
      have hbc : ∀ p ∈ new ++ Bc, p ∈ new ++ Bs := fun p hp => (List.mem_append.mp hp).elim (fun y => List.mem_append_left _ y) fun y => List.mem_append_right _ (b4 p y)
      have hnn : ∀ p ∈ new ++ Bc, p.1 ≠ 73 ∧ p.1 ≠ 431 := fun p hp => (List.mem_append.mp hp).elim (hnew p) (hn7 p)
      refine h D9 ys _ ((D9, LCg.lst ys) :: (new ++ Bc)) _ _ _ _ (extB_two hB9 F9) (N9.get (.tail _ hdm')) hT8 (N9.get (.tail _ h7m')) ?t431b (fun p hp => ?_) (fun p hp => ?_) (.head _) (hRs.mono fun p hp => .tail _ hp)
      · exact hT7.mono fun p hp => .tail _ (List.mem_append_right _ hp)
      · rcases List.mem_cons.mp hp with rfl | hp
        · exact N9.get (.head _)
        · exact N9.get (.tail _ (hbc _ hp))
      · rcases List.mem_cons.mp hp with rfl | hp
        · exact new_two hB9 (N9.fresh (.head _)) (Ne.symm (off1_mem off9 _ hdm')) (Ne.symm (off1_mem off9 _ h7m'))
        · exact new_two hB9 (N9.fresh (.tail _ (hbc _ hp))) (hnn p hp).1 (hnn p hp).2
    · rintro i ys news hi ⟨new, rfl, hRs, hnew⟩ v I' oI' C' oC' D' m' h' tk' E' hv hC' hx' F' N' off' ne'
      obtain ⟨r, hr, a1, d1, t1', t2', t3', u1', u2', e1, n1', ss1, rfl, m1, m2, m3, m4, m5⟩ := hR7.get (by simpa using hv)
      have m1' := List.mem_append_right new (b4 _ m1)
      have m2' := List.mem_append_right new (b4 _ m2)
      have b1' := List.mem_append_right new b1
      have b2' := List.mem_append_right new b2
      have b3' := List.mem_append_right new b3
      generalize hnw : new ++ Bs = news at m1' m2' b1' b2' b3' N' off' ⊢
      k_steps
      (rename News _ _ _ _ => N9)
      (rename Fr _ _ _ _ => F9)
      (rename (_ ≠ _ ∧ _ ≠ _ ∧ _ ≠ _ ∧ AllNe _ news) => l0)
      obtain ⟨g1, g2, g3, g4⟩ := l0
      refine LCg.CompEnd.intro F9 N9 ((_, _) :: news) sub13 ⟨⟨Ne.symm g1, Ne.symm g2, Ne.symm g3⟩, off'⟩ (.inr ⟨_, .tail _ b1', rfl, _, rfl⟩) ⟨(_, _) :: new, by rw [← hnw]; rfl, ?_, ?_⟩
      · rw [List.take_add_one, hr]
        exact (hRs.mono fun p hp => .tail _ hp).app (.cons ⟨_, _, e1, n1', _, _, ss1, rfl, .head _, .tail _ (List.mem_append_right _ m3), m4, m5.mono fun p hp => .tail _ (List.mem_append_right _ hp)⟩ .nil)
      · intro p hp
        rcases List.mem_cons.mp hp with rfl | hp
        · exact ⟨Ne.symm (allNe_mem g4 _ b2'), Ne.symm (allNe_mem g4 _ b3')⟩
        · exact hnew p hp
end
section
variable {prog : Program} {w : World} {A : Around} {E : Value → Shared → Prop} {s : Shared} {g h : Heap} {L D a b l : Addr} {m : Str → Option Value} {news news' : Led} {us its2 : List Value} {na nb n n2 : Nat}
theorem add_l {Q : Value → Shared → Prop} (F : Fr g L s.heap m) (N : News g L s.heap news) (h1 : (a, listOf (List.toArray us) na) ∈ news) (h2 : (b, listOf (List.toArray its2) nb) ∈ news) (hz : us.length + its2.length ≤ 2 ^ 21)
    (h : ∀ D h', Fr g L h' m → News g L h' ((D, ({ cls := .type "list", data := .seq (us ++ its2).toArray } : Obj)) :: news) → (∀ p ∈ news, p.1 < D) → Q (.ref D) { s with heap := h' }) : wpAny (model prog w) A (binaryOp .Add (.ref a) (.ref b)) Q E s :=
  add_lists F N (N.isList h1) (N.isList h2) (fun h' F' N' => h _ h' F' N' fun p hp => Heap.lt_size (N p hp).1) (by rw [sizeLine_eq]; omega)
theorem append_l {x : Value} {Q : Value → Shared → Prop} (F : Fr g L s.heap m) (N : News g L s.heap news) (hm : (D, listOf us.toArray n) ∈ news) (U : Upd D (listOf us.toArray n) (listOf (us ++ [x]).toArray (n + 1)) news news') (hz : us.length ≤ 2 ^ 20)
    (h : ∀ h', Fr g L h' m → News g L h' news' → Q .none { s with heap := h' }) : wpAny (model prog w) A (call (.builtin "list.append") [.ref D, x]) Q E s :=
  append_at (N.get hm) (fun h' hs hD => h h' (F.change hs (N _ hm).2.1 (N _ hm).2.2) (news_one N U (fun b o hb e => hs.extBut b o (by simpa using hb) e) (by rw [hD, List.push_toArray]))) (by rw [List.size_toArray, sizeLine_eq]; omega)
theorem len_news {Q : Value → Shared → Prop} (N : News g L s.heap news) (hl : (l, listOf (List.toArray us) n) ∈ news) (hz : us.length ≤ 2 ^ 20)
    (h : Q (.int (us.length : Int) (s.toks + 1)) { s with toks := s.toks + 1 + 1 }) : wpAny (model prog w) A (call (.builtin "len") [.ref l]) Q E s :=
  len_list (N.isList hl) (by rw [List.size_toArray]; omega) (by rw [List.size_toArray]; exact h)
theorem extend_l {Q : Value → Shared → Prop} (F : Fr g L s.heap m) (N : News g L s.heap news) (hb : (b, listOf (List.toArray its2) n2) ∈ news) (hne : its2.length ≠ 0) (U : Upd D (listOf us.toArray n) (listOf (us ++ its2).toArray (n + 1)) news news') (h1 : us.length < 2 ^ 20) (h2 : its2.length ≤ 2 ^ 20)
    (h : ∀ h', Fr g L h' m → News g L h' news' → Q .none { s with heap := h' }) : wpAny (model prog w) A (call (.builtin "list.extend") [.ref D, .ref b]) Q E s :=
  kl_extend F N hb rfl hne U (extend_door (toofew (by simpa using h1) (by simpa using h2))) (Nat.le_trans (Nat.le_of_lt h1) (by unfold sizeLine; omega)) (Nat.le_succ_of_le (toofew (by simpa using h1) (by simpa using h2))) h
end
theorem words_22m : True := by
  k_with "binaryOp Add" => (k_here; (with_reducible show wpAny _ _ (binaryOp _ (Value.ref _) (Value.ref _)) _ _ _); k_dflt (refine' add_l ?zzF ?zzN ?zzh1 ?zzh2 ?zzz ?_; (case zzF => k_asm); (case zzN => k_asm); (case zzh1 => k_mem); (case zzh2 => k_mem); (case zzz => first | assumption | (simp only [List.length_cons, List.length_nil]; omega)); k_whole; intro _ _ _ _ l1; (try k_lt l1); (try (revert l1; intro _)); (try k_sweep)))
  k_with "call builtin:list.extend" => (k_here; (with_reducible show wpAny _ _ (call (Value.builtin _) [Value.ref _, Value.ref _]) _ _ _); k_dflt (refine' extend_l ?zzF ?zzN ?zzhb ?zzhne ?zzU ?zzh1 ?zzh2 ?_; (case zzF => k_asm); (case zzN => k_asm); (case zzhb => k_mem); (case zzU => k_upd); (case zzhne => omega); (case zzh1 => omega); (case zzh2 => omega); k_whole; intro _ _ _; (try k_sweep)))
  k_with "call builtin:list.append" => (k_here; (with_reducible show wpAny _ _ (call (Value.builtin _) [Value.ref _, _]) _ _ _); k_dflt (refine' append_l ?zzF ?zzN ?zzhm ?zzU ?zzz ?_; (case zzF => k_asm); (case zzN => k_asm); (case zzhm => k_mem); (case zzU => k_upd); (case zzz => ((try simp only [List.length_append, List.length_cons, List.length_nil]); omega)); k_whole; intro _ _ _; (try k_sweep)))
  k_with "eval ListComp" => (k_here; (with_reducible show wpAny _ _ (eval (Expr.ListComp _ _ _ _) _) _ _ _); refine Halt.out ?_)
  k_with "CompSrc" => ((with_reducible show LCg.CompSrc _ _ _ _ _ _ _ _ _ _ _ _ _ _); refine Halt.out ?_)
  k_with "call builtin:len" => (k_here; (with_reducible show wpAny _ _ (call (Value.builtin _) [Value.ref _]) _ _ _); k_dflt (refine' len_news ?zzN ?zzhl ?zzz ?_; (case zzN => k_asm); (case zzhl => k_mem); (case zzz => omega); k_whole))
  k_with "exec For" => (k_here; (with_reducible show wpAny _ _ (exec (Stmt.For _ _ _ _ _) _) _ _ _); refine Halt.out ?_)
  k_with "exec For Tuple Call" => (k_here; (with_reducible show wpAny _ _ (exec (Stmt.For _ _ _ _ _) _) _ _ _); refine Halt.out ?_)
  k_with "exec For Tuple Call cons nil" => (k_here; (with_reducible show wpAny _ _ (exec (Stmt.For _ _ _ _ _) _) _ _ _); refine Halt.out ?_)
  k_with "exec For Tuple Name" => (k_here; (with_reducible show wpAny _ _ (exec (Stmt.For _ _ _ _ _) _) _ _ _); refine Halt.out ?_)
  k_with "exec For Tuple Name cons nil" => (k_here; (with_reducible show wpAny _ _ (exec (Stmt.For _ _ _ _ _) _) _ _ _); refine Halt.out ?_)
  k_with "exec For Name Call" => (k_here; (with_reducible show wpAny _ _ (exec (Stmt.For _ _ _ _ _) _) _ _ _); refine Halt.out ?_)
  k_with "exec For Name Call cons nil" => (k_here; (with_reducible show wpAny _ _ (exec (Stmt.For _ _ _ _ _) _) _ _ _); refine Halt.out ?_)
  k_with "OR" => first | assumption | exact Or.inl (by assumption) | (refine Or.inr ?_; walk_at "OR")
  k_with "SUBS" => (intro _ hp; (simp only [List.mem_cons, List.mem_append, List.cons_append, List.nil_append, List.not_mem_nil, or_false, false_or] at hp ⊢); (repeat' (refine Or.elim hp ?_ ?_ <;> clear hp <;> intro hp)); all_goals walk_at "OR")
  exact True.intro
/-- a head: its name, whether it is a section's, its sentences' statements -/
noncomputable abbrev HD := Str × Bool × List Nat
noncomputable abbrev Sec := Str × List Nat × List (Str × List Nat)
noncomputable def sentGo (j : Bool) (n : Nat) : Nat → List Nat → List Tk
  | _, [] => []
  | i, c :: cs => (List.replicate c contT ++ (if !j || i + 1 == n then [dotT] else [])) ++ sentGo j n (i + 1) cs
noncomputable def headTok (j : Bool) (h : HD) : List Tk := (nameT h.1 :: (if h.2.1 then [secT] else [])) ++ [dotT] ++ sentGo j h.2.2.length 0 h.2.2
noncomputable def headsTok (j : Bool) (hs : List HD) : List Tk := hs.flatMap (headTok j)
noncomputable def secHeads (S : Sec) : List HD := (S.1, true, S.2.1) :: S.2.2.map fun p => (p.1, false, p.2)
noncomputable abbrev cntI (cs : List Nat) : List Int := cs.map (fun c : Nat => (c : Int))
inductive ParaIn (ld : Led) (v : Value) (p : Str × List Nat) : Prop
  | mk : ∀ t nt u e ne ev, v = Value.ref t → (t, tupO [.str p.1 u, .ref e] nt) ∈ ld → (e, listOf (List.toArray ev) ne) ∈ ld → IntsAre ev (cntI p.2) → ParaIn ld v p
inductive ParasIn (ld : Led) : List Value → List (Str × List Nat) → Prop
  | nil : ParasIn ld [] []
  | cons {v vs r rs} : ParaIn ld v r → ParasIn ld vs rs → ParasIn ld (v :: vs) (r :: rs)
inductive SecIn (ld : Led) (v : Value) (S : Sec) : Prop
  | mk : ∀ q nq u le ne lv pa np pv, v = Value.ref q → (q, tupO [.str S.1 u, .ref le, .ref pa] nq) ∈ ld → (le, listOf (List.toArray lv) ne) ∈ ld → IntsAre lv (cntI S.2.1) → (pa, listOf (List.toArray pv) np) ∈ ld → ParasIn ld pv S.2.2 → SecIn ld v S
noncomputable abbrev secW (b : Bool) : Str := if b then Str.ofString "SECTION" else Str.ofString ""
inductive HdIn (ld : Led) (v : Value) (r : HD) : Prop
  | mk : ∀ t nt u1 u2 e ne ev, v = Value.ref t → (t, tupO [.str r.1 u1, .str (secW r.2.1) u2, .ref e] nt) ∈ ld → (e, listOf (List.toArray ev) ne) ∈ ld → IntsAre ev (cntI r.2.2) → HdIn ld v r
inductive HdsIn (ld : Led) : List Value → List HD → Prop
  | nil : HdsIn ld [] []
  | cons {v vs r rs} : HdIn ld v r → HdsIn ld vs rs → HdsIn ld (v :: vs) (r :: rs)
theorem ParaIn.mono {tl tl' : Led} {v : Value} {r : Str × List Nat} (x : ParaIn tl v r) (k : ∀ p ∈ tl, p ∈ tl') : ParaIn tl' v r :=
  let ⟨t, nt, u, e, ne, ev, a1, a2, a3, a4⟩ := x; ⟨t, nt, u, e, ne, ev, a1, k _ a2, k _ a3, a4⟩
theorem ParasIn.mono {tl tl' : Led} {vs : List Value} {rs : List (Str × List Nat)} (x : ParasIn tl vs rs) (k : ∀ p ∈ tl, p ∈ tl') : ParasIn tl' vs rs := by
  induction x with
  | nil => exact .nil
  | cons a _ ih => exact .cons (a.mono k) ih
theorem SecIn.mono {tl tl' : Led} {v : Value} {S : Sec} (x : SecIn tl v S) (k : ∀ p ∈ tl, p ∈ tl') : SecIn tl' v S :=
  let ⟨q, nq, u, le, ne, lv, pa, np, pv, a1, a2, a3, a4, a5, a6⟩ := x; ⟨q, nq, u, le, ne, lv, pa, np, pv, a1, k _ a2, k _ a3, a4, k _ a5, a6.mono k⟩
theorem HdIn.mono {tl tl' : Led} {v : Value} {r : HD} (x : HdIn tl v r) (k : ∀ p ∈ tl, p ∈ tl') : HdIn tl' v r :=
  let ⟨t, nt, u1, u2, e, ne, ev, a1, a2, a3, a4⟩ := x; ⟨t, nt, u1, u2, e, ne, ev, a1, k _ a2, k _ a3, a4⟩
theorem HdsIn.mono {tl tl' : Led} {vs : List Value} {rs : List HD} (x : HdsIn tl vs rs) (k : ∀ p ∈ tl, p ∈ tl') : HdsIn tl' vs rs := by
  induction x with
  | nil => exact .nil
  | cons a _ ih => exact .cons (a.mono k) ih
theorem HdsIn.snoc {tl : Led} {vs : List Value} {rs : List HD} {v : Value} {r : HD} (x : HdsIn tl vs rs) (y : HdIn tl v r) : HdsIn tl (vs ++ [v]) (rs ++ [r]) := by
  induction x with
  | nil => exact .cons y .nil
  | cons a _ ih => exact .cons a ih
theorem HdsIn.length {tl : Led} {vs : List Value} {rs : List HD} (x : HdsIn tl vs rs) : vs.length = rs.length := by
  induction x with
  | nil => rfl
  | cons _ _ ih => rw [List.length_cons, List.length_cons, ih]
theorem ParasIn.length {tl : Led} {vs : List Value} {rs : List (Str × List Nat)} (x : ParasIn tl vs rs) : vs.length = rs.length := by
  induction x with
  | nil => rfl
  | cons _ _ ih => rw [List.length_cons, List.length_cons, ih]
theorem ParasIn.get {tl : Led} {vs : List Value} {rs : List (Str × List Nat)} (x : ParasIn tl vs rs) : ∀ {i : Nat} {v : Value}, vs[i]? = some v → ∃ r, rs[i]? = some r ∧ ParaIn tl v r := by
  induction x with
  | nil => intro i v e; simp at e
  | cons a _ ih =>
    intro i v e
    cases i with
    | zero => simp at e; subst e; exact ⟨_, rfl, a⟩
    | succ i => exact ih (i := i) (by simpa using e)
theorem HdsIn.get {tl : Led} {vs : List Value} {rs : List HD} (x : HdsIn tl vs rs) : ∀ {i : Nat} {v : Value}, vs[i]? = some v → ∃ r, rs[i]? = some r ∧ HdIn tl v r := by
  induction x with
  | nil => intro i v e; simp at e
  | cons a _ ih =>
    intro i v e
    cases i with
    | zero => simp at e; subst e; exact ⟨_, rfl, a⟩
    | succ i => exact ih (i := i) (by simpa using e)
theorem headsTok_app (j : Bool) (a b : List HD) : headsTok j (a ++ b) = headsTok j a ++ headsTok j b := by unfold headsTok; rw [List.flatMap_append]
theorem headsTok_at (j : Bool) {hs : List HD} {i : Nat} {r : HD} (h : hs[i]? = some r) : headsTok j hs = headsTok j (hs.take i) ++ (headTok j r ++ headsTok j (hs.drop (i + 1))) := by
  have e : hs = hs.take i ++ r :: hs.drop (i + 1) := by
    obtain ⟨hi, e⟩ := List.getElem?_eq_some_iff.mp h
    rw [← e, List.getElem_cons_drop, List.take_append_drop]
  conv => lhs; rw [e]
  rw [headsTok_app]; rfl
theorem sentGo_app (j : Bool) (n : Nat) : ∀ (i : Nat) (a b : List Nat), sentGo j n i (a ++ b) = sentGo j n i a ++ sentGo j n (i + a.length) b
  | _, [], _ => rfl
  | i, c :: a, b => by
    rw [List.cons_append, sentGo, sentGo, sentGo_app j n (i + 1) a b, List.length_cons, show i + 1 + a.length = i + (a.length + 1) from by omega]
    simp only [List.append_assoc]
theorem sentGo_take {j : Bool} {n k c : Nat} {cs : List Nat} (h : cs[k]? = some c) : sentGo j n 0 (cs.take (k + 1)) = sentGo j n 0 (cs.take k) ++ (List.replicate c contT ++ (if !j || k + 1 == n then [dotT] else [])) := by
  have hk : k < cs.length := (List.getElem?_eq_some_iff.mp h).1
  have hl : (cs.take k).length = k := by rw [List.length_take]; omega
  rw [List.take_add_one, h]
  show sentGo j n 0 (cs.take k ++ [c]) = _
  rw [sentGo_app, hl, Nat.zero_add]
  show _ ++ ((List.replicate c contT ++ (if !j || k + 1 == n then [dotT] else [])) ++ []) = _
  rw [List.append_nil]
theorem sentGo_le (j : Bool) (n k : Nat) (cs : List Nat) : (sentGo j n 0 (cs.take k)).length ≤ (sentGo j n 0 cs).length := by
  have e := congrArg List.length (sentGo_app j n 0 (cs.take k) (cs.drop k))
  rw [List.take_append_drop, List.length_append] at e
  omega
theorem fresh_hid {h g : Heap} {ld : Led} {a : Addr} (hB : ExtB (ld.map (·.1)) h g) (hg : g.get? a = none) (hne : ∀ q ∈ ld, q.1 ≠ a) : h.get? a = none := by
  cases e : h.get? a with
  | none => rfl
  | some x =>
    rw [hB a x (fun hm => by obtain ⟨q, hq, y⟩ := List.mem_map.mp hm; exact hne q hq y) e] at hg
    cases hg
theorem sub7 {I a b c e i t : Addr × Obj} {tl : Led} : ∀ p ∈ e :: i :: t :: I :: a :: b :: c :: tl, p ∈ a :: b :: c :: e :: i :: t :: I :: tl := by
  intro p hp
  simp only [List.mem_cons] at hp ⊢
  rcases hp with y | y | y | y | y | y | y | y
  · exact .inr (.inr (.inr (.inl y)))
  · exact .inr (.inr (.inr (.inr (.inl y))))
  · exact .inr (.inr (.inr (.inr (.inr (.inl y)))))
  · exact .inr (.inr (.inr (.inr (.inr (.inr (.inl y))))))
  · exact .inl y
  · exact .inr (.inl y)
  · exact .inr (.inr (.inl y))
  · exact .inr (.inr (.inr (.inr (.inr (.inr (.inr (y)))))))
theorem sub5 {I c e i t : Addr × Obj} {tl : Led} : ∀ p ∈ e :: i :: t :: I :: c :: tl, p ∈ c :: e :: i :: t :: I :: tl := by
  intro p hp
  simp only [List.mem_cons] at hp ⊢
  rcases hp with y | y | y | y | y | y
  · exact .inr (.inl y)
  · exact .inr (.inr (.inl y))
  · exact .inr (.inr (.inr (.inl y)))
  · exact .inr (.inr (.inr (.inr (.inl y))))
  · exact .inl y
  · exact .inr (.inr (.inr (.inr (.inr (y)))))
theorem subC {D I T c d e i t x : Addr × Obj} {tl : Led} : ∀ p ∈ i :: c :: D :: e :: t :: T :: I :: x :: d :: tl, p ∈ x :: d :: i :: c :: D :: e :: t :: T :: I :: tl := by
  intro p hp
  simp only [List.mem_cons] at hp ⊢
  rcases hp with y | y | y | y | y | y | y | y | y | y
  · exact .inr (.inr (.inl y))
  · exact .inr (.inr (.inr (.inl y)))
  · exact .inr (.inr (.inr (.inr (.inl y))))
  · exact .inr (.inr (.inr (.inr (.inr (.inl y)))))
  · exact .inr (.inr (.inr (.inr (.inr (.inr (.inl y))))))
  · exact .inr (.inr (.inr (.inr (.inr (.inr (.inr (.inl y)))))))
  · exact .inr (.inr (.inr (.inr (.inr (.inr (.inr (.inr (.inl y))))))))
  · exact .inl y
  · exact .inr (.inl y)
  · exact .inr (.inr (.inr (.inr (.inr (.inr (.inr (.inr (.inr (y)))))))))
theorem notin2 {a e i : Addr} {oe oi : Obj} (h1 : @Ne Nat a e) (h2 : @Ne Nat a i) : a ∉ [(e, oe), (i, oi)].map (·.1) := fun hm => by
  rcases List.mem_cons.mp hm with q | q
  · exact h1 q
  · exact h2 (List.mem_singleton.mp q)
theorem lt3 {I tL d : Addr} {new : Led} (x : @LT.lt Nat _ I d ∧ @LT.lt Nat _ tL d ∧ AllLt d new) : @LT.lt Nat _ I d ∧ @LT.lt Nat _ tL d ∧ ∀ q ∈ new, @LT.lt Nat _ q.1 d := ⟨x.1, x.2.1, allLt_mem x.2.2⟩
theorem up3 {I tL d x : Addr} {new : Led} (y : @LT.lt Nat _ I d ∧ @LT.lt Nat _ tL d ∧ ∀ q ∈ new, @LT.lt Nat _ q.1 d) (h : d < x) : @LT.lt Nat _ I x ∧ @LT.lt Nat _ tL x ∧ ∀ q ∈ new, @LT.lt Nat _ q.1 x := ⟨Nat.lt_trans y.1 h, Nat.lt_trans y.2.1 h, fun q hq => Nat.lt_trans (y.2.2 q hq) h⟩
theorem tpk {g h : Heap} {L : Addr} {top new ld : Led} {I tL : Addr} {oI oT : Obj} (N : News g L h (top ++ (I, oI) :: (tL, oT) :: new)) (ht : ∀ p ∈ top, @LT.lt Nat _ I p.1 ∧ @LT.lt Nat _ tL p.1 ∧ ∀ q ∈ new, @LT.lt Nat _ q.1 p.1) (hI : ∀ p ∈ new, p.1 ≠ I) (hT : ∀ p ∈ new, p.1 ≠ tL) (hld : ∀ p ∈ ld, p ∈ new) :
    News g L h ((tL, oT) :: (I, oI) :: (top ++ new)) ∧ (∀ p ∈ top ++ new, p.1 ≠ I ∧ p.1 ≠ tL) ∧ (∀ p ∈ top, ∀ q ∈ ld, q.1 ≠ p.1) ∧ ∀ p ∈ new, p ∈ top ++ new := by
  refine ⟨fun p hp => N p ?_, fun p hp => ?_, fun p hp q hq => Nat.ne_of_lt ((ht p hp).2.2 q (hld q hq)), fun p hp => List.mem_append_right _ hp⟩
  · simp only [List.mem_cons, List.mem_append] at hp ⊢
    rcases hp with y | y | y | y
    · exact .inr (.inr (.inl y))
    · exact .inr (.inl y)
    · exact .inl y
    · exact .inr (.inr (.inr y))
  · rcases List.mem_append.mp hp with hp | hp
    · exact ⟨Nat.ne_of_gt (ht p hp).1, Nat.ne_of_gt (ht p hp).2.1⟩
    · exact ⟨hI p hp, hT p hp⟩
theorem sub_sw {a b : Addr × Obj} {tl : Led} : ∀ p ∈ [b] ++ a :: tl, p ∈ a :: b :: tl := by
  intro p hp
  simp only [List.cons_append, List.nil_append, List.mem_cons] at hp ⊢
  rcases hp with y | y | y
  · exact .inr (.inl y)
  · exact .inl y
  · exact .inr (.inr y)
inductive LRow (S : Sec) (B : Led) (i : Nat) (v1 v2 v3 : Value) : Prop
  | mk : ∀ r wd u1 u2 e ne ev, (secHeads S)[i]? = some r → wd = secW r.2.1 → v1 = .str r.1 u1 → v2 = .str wd u2 → v3 = .ref e → (e, listOf (List.toArray ev) ne) ∈ B → IntsAre ev (cntI r.2.2) → LRow S B i v1 v2 v3
inductive LInv3 (w : World) (ld B : Led) (tL : Addr) (j : Bool) (S : Sec) (i : Nat) (m : Str → Option Value) (led : Led) : Prop
  | mk : ∀ vs nT new tk, led = (tL, listOf (List.toArray vs) nT) :: new → (∀ p ∈ B, p ∈ new) → (∀ p ∈ new, p.1 ≠ tL) → (∀ p ∈ tk, p ∈ new) → (∀ p ∈ tk, ∀ q ∈ ld, q.1 ≠ p.1) → ToksIn w tk vs (headsTok j ((secHeads S).take i)) → m (Str.ofString "tokens") = some (.ref tL) → m (Str.ofString "is_joined") = some (.bool j) → LInv3 w ld B tL j S i m led
inductive LInvE (w : World) (ld B : Led) (tL I e : Addr) (oI : Obj) (j : Bool) (pre : List Tk) (cs : List Nat) (k : Nat) (m : Str → Option Value) (led : Led) : Prop
  | mk : ∀ vs' nT' new' tk', led = (tL, listOf (List.toArray vs') nT') :: (I, oI) :: new' → (∀ p ∈ B, p ∈ new') → (∀ p ∈ new', p.1 ≠ I ∧ p.1 ≠ tL) → (∀ p ∈ tk', p ∈ new') → (∀ p ∈ tk', ∀ q ∈ ld, q.1 ≠ p.1) → ToksIn w tk' vs' (pre ++ sentGo j cs.length 0 (cs.take k)) → m (Str.ofString "tokens") = some (.ref tL) → m (Str.ofString "is_joined") = some (.bool j) → m (Str.ofString "sentences") = some (.ref e) → LInvE w ld B tL I e oI j pre cs k m led
inductive LInvC (w : World) (ld new7 : Led) (e7 it7 tL I : Addr) (oe7 oi7 oI : Obj) (vs7 : List Value) (nT7 : Nat) (k8 : Nat) (ys : List Value) (nw : Led) : Prop
  | mk : ∀ new2 tk2, nw = (e7, oe7) :: (it7, oi7) :: (tL, listOf (List.toArray vs7) nT7) :: (I, oI) :: new2 → (∀ p ∈ new7, p ∈ new2) → (∀ p ∈ new2, p.1 ≠ I ∧ p.1 ≠ tL ∧ p.1 ≠ e7 ∧ p.1 ≠ it7) → (∀ p ∈ tk2, p ∈ new2) → (∀ p ∈ tk2, ∀ q ∈ ld, q.1 ≠ p.1) → ToksIn w tk2 ys (List.replicate k8 contT) → LInvC w ld new7 e7 it7 tL I oe7 oi7 oI vs7 nT7 k8 ys nw
section
variable {prog : Program} {w : World} {dp un : Nat} {fr : Option (List Env)} {gd : Option (List Code)} {s : Shared} {h₀ : Heap} {p : Program} {loose : List Str} {mean : ExcName → Option Value} {mg mb : Str → Option Value}
variable {Q E : Value → Shared → Prop} {ld : Led} {sv : Value} {S : Sec} {j : Bool}
set_option maxHeartbeats 4000000 in
theorem laid_c (X : (K w.params).In h₀) (T : Top p loose mean mg mb h₀) (k₀ : Ext h₀ s.heap) (hd : dp + 10 < recursionLimit) (hu : un + 200 < cLine)
    (H : Has s.heap ld) (hf : ∀ p ∈ ld, h₀.get? p.1 = none) (hS : SecIn ld sv S) (hp1 : S.2.2.length ≤ 1000) (hl1 : ∀ h ∈ secHeads S, h.2.2.length ≤ 1000 ∧ ∀ c ∈ h.2.2, c ≤ 1000 ∧ c ≠ 0) (hfew : (headsTok j (secHeads S)).length < 2 ^ 19)
    (h : ∀ q vs nq nw h' tk', Ext s.heap h' → Has h' nw → (∀ p ∈ nw, s.heap.get? p.1 = none) → (q, listOf (List.toArray vs) nq) ∈ nw → ToksIn w nw vs (headsTok j (secHeads S)) → Q (.ref q) { s with heap := h', toks := tk' }) :
    wpAny (model prog w) (Ar dp fr gd un) (call (.ref 429) [sv, .bool j]) Q E s := by
  have reg : (K, PySem.Challenge.rw_pb0258_01).1 = K := by (k_fill; rfl)
  clear reg
  obtain ⟨q, nq, u, le, ne, lv, pa, np, pv, rfl, s1, s2, s3, s4, s5⟩ := hS
  have hW : ∀ p ∈ ld, s.heap.get? p.1 = some p.2 := H
  walk_at "ENTERW"
  k_steps
  refine ⟨?_⟩
  rename_i D0 _ _ l0 _ F2 N2 l2
  refine LCp.ListComp_P F2 (by with_unfolding_all rfl) (by decide) (by rfl) (by decide) (by rfl) (by rfl) (by decide) ?_
  k_steps
  refine LCp.SrcLP.ledger (by rfl) (by k_asm) N2 (.tail _ (.tail _ s4)) (by rw [List.size_toArray, s5.length]; unfold sizeLine; omega) fun g9 => ?_
  refine restP_ind (n := _) (fun i ys nw => (∃ tt, (l0, listOf (List.toArray [Value.ref D0]) 0) ∈ nw ∧ (D0, tupO [.str S.1 u, .str (Str.ofString "SECTION") tt, .ref le] 0) ∈ nw) ∧ (∀ p ∈ ld, p ∈ nw) ∧ HdsIn nw ys ((S.2.2.take i).map fun p => (p.1, false, p.2))) ?_ ?_ _ 0 [] _ (Nat.zero_add _) ⟨⟨_, .head _, .tail _ (.head _)⟩, fun p hp => .tail _ (.tail _ hp), .nil⟩
  · rintro ys news ⟨⟨tt, b0, b1⟩, b2, hH⟩
    intro D9 h9 tk9 F9 N9 off9
    rw [List.size_toArray, s5.length, List.take_length] at hH
    have hyl := hH.length
    rw [List.length_map] at hyl
    k_steps
    refine ⟨?_⟩
    rename_i hl _ l1 _ tL _ l2 _ F3 N3
    have hHd : HdsIn ((hl, ({ cls := .type "list", data := .seq ([Value.ref D0] ++ ys).toArray } : Obj)) :: (D9, LCg.lst ys) :: news) ([Value.ref D0] ++ ys) (secHeads S) := .cons ⟨_, _, _, _, le, _, lv, rfl, .tail _ (.tail _ b1), .tail _ (.tail _ (b2 _ s2)), s3⟩ (hH.mono fun p hp => .tail _ (.tail _ hp))
    have hldB : ∀ p ∈ ld, p ∈ ((hl, ({ cls := .type "list", data := .seq ([Value.ref D0] ++ ys).toArray } : Obj)) :: (D9, LCg.lst ys) :: news) := fun p hp => .tail _ (.tail _ (b2 p hp))
    have hhB : (hl, listOf (List.toArray ([Value.ref D0] ++ ys)) 0) ∈ ((hl, ({ cls := .type "list", data := .seq ([Value.ref D0] ++ ys).toArray } : Obj)) :: (D9, LCg.lst ys) :: news) := .head _
    have hBt : ∀ p ∈ ((hl, ({ cls := .type "list", data := .seq ([Value.ref D0] ++ ys).toArray } : Obj)) :: (D9, LCg.lst ys) :: news), p.1 ≠ tL := by
      intro p hp
      rcases List.mem_cons.mp hp with rfl | hp
      · exact Nat.ne_of_lt l2.1
      rcases List.mem_cons.mp hp with rfl | hp
      · exact Nat.ne_of_lt l2.2.1
      · exact Nat.ne_of_lt (allLt_mem l2.2.2 p hp)
    generalize ((hl, ({ cls := .type "list", data := .seq ([Value.ref D0] ++ ys).toArray } : Obj)) :: (D9, LCg.lst ys) :: news) = B at N3 hHd hldB hhB hBt
    clear hH b0 b1 b2 l1 l2 off9
    have hHl := hHd.length
    refine For_at ?_
    walk_at "eval Name"
    refine For_L3 (B := B) (LRow S B)
      (LInv3 w ld B tL j S)
      (by rfl) (by rfl) (by rfl) (by rfl) (by rfl) F3 N3 hhB ?hT ?hB ⟨[], 0, B, [], rfl, fun p hp => hp, hBt, (fun _ h => nomatch h), (fun _ h => nomatch h), .nil, by walk_at "LOOK", by walk_at "LOOK"⟩ ?bd ?done
    case hT =>
      intro k v hv
      obtain ⟨r, hr, t8, nt8, u8, u9, e8, ne8, ev8, rfl, c1, c2, c3⟩ := hHd.get hv
      exact ⟨t8, nt8, _, _, _, rfl, c1, r, _, u8, u9, e8, ne8, ev8, hr, rfl, rfl, rfl, rfl, c2, c3⟩
    case hB =>
      rintro i m led ⟨vs, nT, new, tk, rfl, c1, _⟩ p hp
      exact .tail _ (c1 p hp)
    case done =>
      rintro m led h8 tk8 ⟨vs, nT, new, tkL, rfl, c1, c2, c3, c4, c5, c6, c7⟩ F4 N4
      rw [hHl, List.take_length] at c5
      dsimp only [envOf] at F4 N4
      k_steps
      (rename News _ _ _ _ => N8)
      (rename Fr _ _ _ _ => F8)
      (rename ExtB _ _ _ => hB8)
      refine h tL vs nT ((tL, listOf (List.toArray vs) nT) :: tkL) _ _ (ext_of hB8 hW F8 fun p hp => N8 p (.tail _ (c1 p (hldB p hp)))) (fun p hp => ?_) (fun p hp => ?_) (.head _) (c5.mono fun p hp => .tail _ hp)
      · rcases List.mem_cons.mp hp with rfl | hp
        · exact N8.get (.head _)
        · exact N8.get (.tail _ (c3 p hp))
      · rcases List.mem_cons.mp hp with rfl | hp
        · exact fresh_hid hB8 (N8.fresh (.head _)) fun q hq => hBt q (hldB q hq)
        · exact fresh_hid hB8 (N8.fresh (.tail _ (c3 p hp))) (c4 p hp)
    case bd =>
      rintro i v1 v2 v3 m led I oI h8 tk8 E8 hi ⟨r, wd, u1, u2, e, ne, ev, hr, hwd, rfl, rfl, rfl, m1, m2⟩ ⟨vs, nT, new, tkL, rfl, c1, c2, c3, c4, c5, c6, c7⟩ offI F4 N4
      dsimp only [envOf] at F4 N4
      have hIt : @Ne Nat tL I := offI _ (.head _)
      have hat := headsTok_at j hr
      have hla := congrArg List.length hat
      rw [List.length_append, List.length_append] at hla
      have hvl : vs.length < 2 ^ 19 := by rw [c5.length]; omega
      obtain ⟨nm, sb, cs⟩ := r
      cases sb with
      | true =>
        replace hwd : wd = Str.ofString "SECTION" := hwd
        subst hwd
        k_steps
        refine ⟨?_⟩
        rename_i D1 _ e1 x1 d1 ta1 ta2 ta3 ta4 _ _ e2 e3 _ tu1 tu2 x2 d2 tb1 tb2 tb3 tb4 vb _ _ e4 e5 _ tu3 x3 d3 tc1 tc2 tc3 tc4 vc _ _ e6 e7 _ F5 N5
        have hcs : cs.length ≤ 1000 ∧ ∀ c ∈ cs, c ≤ 1000 ∧ c ≠ 0 := hl1 _ (List.mem_of_getElem? hr)
        have hpk := tpk (top := [(x3, _), (d3, _), (x2, _), (d2, _), (x1, _), (d1, _), (D1, _)]) (ld := ld) N5 (by simp only [List.forall_mem_cons]; exact ⟨up3 (lt3 e6.2.2.2.2.2) e7, lt3 e6.2.2.2.2.2, up3 (lt3 e4.2.2.2) e5, lt3 e4.2.2.2, up3 (lt3 e2.2) e3, lt3 e2.2, lt3 e1, fun _ h => nomatch h⟩) (fun p hp => offI p (.tail _ hp)) c2 (fun p hp => c1 p (hldB p hp))
        obtain ⟨N6, hn6, hl6, hq6⟩ := hpk
        dsimp only [List.cons_append, List.nil_append] at N6 hn6 hq6
        have hBB6 := fun p hp => hq6 p (c1 p hp)
        have hT6 : ToksIn w ((x3, instObj 413 d3) :: (d3, tkD w tc1 tc2 tc3 tc4 tu3 (tu3 + 1) vc dotT) :: (x2, instObj 413 d2) :: (d2, tkD w tb1 tb2 tb3 tb4 tu2 u2 vb secT) :: (x1, instObj 413 d1) :: (d1, tkD w ta1 ta2 ta3 ta4 tk8 u1 (.ref D1) (nameT nm)) :: tkL) (vs ++ [.ref x1] ++ [.ref x2] ++ [.ref x3]) (headsTok j ((secHeads S).take i) ++ [nameT nm, secT, dotT]) := by
          have y : ToksIn w ((x3, instObj 413 d3) :: (d3, tkD w tc1 tc2 tc3 tc4 tu3 (tu3 + 1) vc dotT) :: (x2, instObj 413 d2) :: (d2, tkD w tb1 tb2 tb3 tb4 tu2 u2 vb secT) :: (x1, instObj 413 d1) :: (d1, tkD w ta1 ta2 ta3 ta4 tk8 u1 (.ref D1) (nameT nm)) :: tkL) (vs ++ [.ref x1] ++ [.ref x2] ++ [.ref x3]) (headsTok j ((secHeads S).take i) ++ [nameT nm] ++ [secT] ++ [dotT]) := ((((c5.mono fun p hp => .tail _ (.tail _ (.tail _ (.tail _ (.tail _ (.tail _ (hp))))))).app (.cons ⟨_, _, _, _, _, _, _, _, _, rfl, .tail _ (.tail _ (.tail _ (.tail _ (.head _)))), .tail _ (.tail _ (.tail _ (.tail _ (.tail _ (.head _)))))⟩ .nil)).app (.cons ⟨_, _, _, _, _, _, _, _, _, rfl, .tail _ (.tail _ (.head _)), .tail _ (.tail _ (.tail _ (.head _)))⟩ .nil)).app (.cons ⟨_, _, _, _, _, _, _, _, _, rfl, .head _, .tail _ (.head _)⟩ .nil))
          simpa only [List.append_assoc, List.cons_append, List.nil_append] using y
        have hevl := m2.length
        rw [List.length_map] at hevl
        replace hevl : ev.length = cs.length := hevl
        have hlen9 : (headTok j (nm, true, cs)).length = 3 + (sentGo j cs.length 0 cs).length := by show ([nameT nm, secT, dotT] ++ sentGo j cs.length 0 cs).length = _; rw [List.length_append]; rfl
        refine For_at ?_
        k_steps
        refine For_E2 (B := [(e, listOf (List.toArray ev) ne)]) (LInvE w ld B tL I e oI j (headsTok j ((secHeads S).take i) ++ [nameT nm, secT, dotT]) cs)
          (by rfl) (by rfl) (by rfl) (by rfl) F5 N6 (.head _) ?hB3 ⟨(vs ++ [.ref x1] ++ [.ref x2] ++ [.ref x3]), _, _, (x3, instObj 413 d3) :: (d3, tkD w tc1 tc2 tc3 tc4 tu3 (tu3 + 1) vc dotT) :: (x2, instObj 413 d2) :: (d2, tkD w tb1 tb2 tb3 tb4 tu2 u2 vb secT) :: (x1, instObj 413 d1) :: (d1, tkD w ta1 ta2 ta3 ta4 tk8 u1 (.ref D1) (nameT nm)) :: tkL, rfl, hBB6, hn6, ?s3, ?f3, (by rw [List.take_zero]; show ToksIn w _ _ (_ ++ []); rw [List.append_nil]; exact hT6), by walk_at "LOOK", by walk_at "LOOK", by walk_at "LOOK"⟩ ?bd3 ?done3
        case hB3 =>
          rintro i m led ⟨vs, nT, new, tk, rfl, c1, _⟩ p hp
          rw [List.mem_singleton.mp hp]
          exact .tail _ (.tail _ (c1 _ m1))
        case s3 =>
          intro p hp
          simp only [List.mem_cons, List.mem_append] at hp ⊢
          rcases hp with y | y | y | y | y | y | y
          · exact .inl y
          · exact .inr (.inl y)
          · exact .inr (.inr (.inl y))
          · exact .inr (.inr (.inr (.inl y)))
          · exact .inr (.inr (.inr (.inr (.inl y))))
          · exact .inr (.inr (.inr (.inr (.inr (.inl y)))))
          · exact .inr (.inr (.inr (.inr (.inr (.inr (.inr (c3 p y)))))))
        case f3 =>
          intro p hp
          simp only [List.mem_cons] at hp
          rcases hp with rfl | rfl | rfl | rfl | rfl | rfl | y
          · exact hl6 _ (.head _)
          · exact hl6 _ (.tail _ (.head _))
          · exact hl6 _ (.tail _ (.tail _ (.head _)))
          · exact hl6 _ (.tail _ (.tail _ (.tail _ (.head _))))
          · exact hl6 _ (.tail _ (.tail _ (.tail _ (.tail _ (.head _)))))
          · exact hl6 _ (.tail _ (.tail _ (.tail _ (.tail _ (.tail _ (.head _))))))
          · exact c4 p y
        case done3 =>
          rintro m7 led h7 tk7 ⟨vs7, nT7, new7, tkk7, rfl, g1, g2, g3, g4, g5, g6, g7, g8⟩ F7 N7
          rw [hevl, List.take_length] at g5
          dsimp only [envOf] at F7 N7
          k_steps
          refine ForEnd.intro F7 N7 ((tL, listOf (List.toArray vs7) nT7) :: new7) sub_sw ?_ ⟨vs7, nT7, new7, tkk7, rfl, g1, fun p hp => (g2 p hp).2, g3, g4, ?_, g6, g7⟩
          · intro p hp hm
            rcases List.mem_cons.mp hp with rfl | hp
            · exact hIt (List.mem_singleton.mp hm)
            · exact (g2 p hp).1 (List.mem_singleton.mp hm)
          · rw [List.take_add_one, hr]
            have y : headsTok j ((secHeads S).take i ++ [(nm, true, cs)]) = headsTok j ((secHeads S).take i) ++ [nameT nm, secT, dotT] ++ sentGo j cs.length 0 cs := by
              rw [headsTok_app, List.append_assoc]
              show _ ++ ([nameT nm, secT, dotT] ++ sentGo j cs.length 0 cs ++ []) = _
              rw [List.append_nil]
            exact y ▸ g5
        case bd3 =>
          rintro k7 v7 t7 m7 led e7 it7 oe7 oi7 h7 tk7 EE7 hk7 hv7 ⟨vs7, nT7, new7, tkk7, rfl, g1, g2, g3, g4, g5, g6, g7, g8⟩ off7 F7 N7
          dsimp only [envOf] at F7 N7
          obtain ⟨ci, ct, rfl, hci⟩ := IntsAre.at m2 _ _ hv7
          rw [List.getElem?_map] at hci
          obtain ⟨c, hcn, hce⟩ := Option.map_eq_some_iff.mp hci
          replace hce : (c : Int) = ci := hce
          subst hce
          obtain ⟨hc1, hc0⟩ := hcs.2 c (List.mem_of_getElem? hcn)
          k_steps
          refine ⟨?_⟩
          refine LCg.ListComp_U F7 (by with_unfolding_all rfl) (by decide) (by rfl) (by decide) (by rfl) ?_
          k_steps
          refine ⟨?_⟩
          refine LCg.CompSrc.range (n := c) (by rfl) (by k_asm) (by k_asm) (by assumption) (small_one (by decide) (by decide) (by omega) (by omega)) (by rw [rangeSize_nat]; omega) (by unfold sizeLine; omega) fun g9 => ?_
          refine rest_ind (n := _) (LInvC w ld new7 e7 it7 tL I oe7 oi7 oI vs7 nT7) ?_ ?_ _ 0 [] _ (Nat.zero_add _) ⟨new7, [], rfl, fun p hp => hp, fun p hp => ⟨(g2 p hp).1, (g2 p hp).2, (off7 p (.tail _ (.tail _ hp))).1, (off7 p (.tail _ (.tail _ hp))).2⟩, (fun _ h => nomatch h), (fun _ h => nomatch h), .nil⟩
          · rintro ys nw ⟨new2, tk2, rfl, b1, b2, b3, b4, b5⟩
            intro D9 h9 tk9 F9 N9 off9
            simp only [LCg.Off1] at off9
            have q1 : @Ne Nat tL e7 := (off7 _ (.head _)).1
            have q2 : @Ne Nat tL it7 := (off7 _ (.head _)).2
            have q3 : @Ne Nat D9 tL := Ne.symm off9.2.2.1
            have q4 : ∀ p ∈ new2, p.1 ≠ tL := fun p hp => (b2 p hp).2.1
            have q5 := b5.length
            rw [List.length_replicate] at q5
            have q6 : vs7.length < 2 ^ 19 := by
              have y1 := g5.length
              rw [List.length_append, List.length_append] at y1
              have y2 := sentGo_le j cs.length k7 cs
              have y3 : [nameT nm, secT, dotT].length = 3 := rfl
              omega
            have q7 := hBB6
            have q8 := g1 _ m1
            have q9 := b1 _ q8
            k_steps
            · rename_i hj hla9 u9 x9 d9 y1 y2 y3 y4 va9 _ _ l8 l9 _ F8 N8
              have lb := up3 (lt3 l8.2.2.2) l9
              have lc := lt3 l8.2.2.2
              have ld9 := l8.1
              have le9 : @LT.lt Nat _ e7 d9 := l8.2.1
              have li9 : @LT.lt Nat _ it7 d9 := l8.2.2.1
              refine ForEnd.intro F8 N8 ((tL, _) :: (I, oI) :: (x9, instObj 413 d9) :: (d9, tkD w y1 y2 y3 y4 u9 (u9 + 1) va9 dotT) :: (D9, LCg.lst ys) :: new2) sub7 ?_ ⟨_, _, (x9, instObj 413 d9) :: (d9, tkD w y1 y2 y3 y4 u9 (u9 + 1) va9 dotT) :: (D9, LCg.lst ys) :: new2, (x9, instObj 413 d9) :: (d9, tkD w y1 y2 y3 y4 u9 (u9 + 1) va9 dotT) :: (tk2 ++ tkk7), rfl, ?_, ?_, ?_, ?_, ?_, by walk_at "LOOK", by walk_at "LOOK", by walk_at "LOOK"⟩
              · intro p hp
                rcases List.mem_cons.mp hp with rfl | hp
                · exact notin2 q1 q2
                rcases List.mem_cons.mp hp with rfl | hp
                · exact notin2 (off7 _ (.tail _ (.head _))).1 (off7 _ (.tail _ (.head _))).2
                rcases List.mem_cons.mp hp with rfl | hp
                · exact notin2 (Nat.ne_of_gt (Nat.lt_trans le9 l9)) (Nat.ne_of_gt (Nat.lt_trans li9 l9))
                rcases List.mem_cons.mp hp with rfl | hp
                · exact notin2 (Nat.ne_of_gt le9) (Nat.ne_of_gt li9)
                rcases List.mem_cons.mp hp with rfl | hp
                · exact notin2 (Ne.symm off9.1) (Ne.symm off9.2.1)
                · exact notin2 (b2 p hp).2.2.1 (b2 p hp).2.2.2
              · exact fun p hp => .tail _ (.tail _ (.tail _ (b1 p (g1 p hp))))
              · intro p hp
                rcases List.mem_cons.mp hp with rfl | hp
                · exact ⟨Nat.ne_of_gt lb.2.1, Nat.ne_of_gt lb.1⟩
                rcases List.mem_cons.mp hp with rfl | hp
                · exact ⟨Nat.ne_of_gt lc.2.1, Nat.ne_of_gt lc.1⟩
                rcases List.mem_cons.mp hp with rfl | hp
                · exact ⟨Ne.symm off9.2.2.2.1, Ne.symm off9.2.2.1⟩
                · exact ⟨(b2 p hp).1, (b2 p hp).2.1⟩
              · intro p hp
                rcases List.mem_cons.mp hp with rfl | hp
                · exact .head _
                rcases List.mem_cons.mp hp with rfl | hp
                · exact .tail _ (.head _)
                rcases List.mem_append.mp hp with hp | hp
                · exact .tail _ (.tail _ (.tail _ (b3 p hp)))
                · exact .tail _ (.tail _ (.tail _ (b1 p (g3 p hp))))
              · intro p hp
                rcases List.mem_cons.mp hp with rfl | hp
                · exact fun q hq => Nat.ne_of_lt (lb.2.2 q (b1 q (g1 q (hldB q hq))))
                rcases List.mem_cons.mp hp with rfl | hp
                · exact fun q hq => Nat.ne_of_lt (lc.2.2 q (b1 q (g1 q (hldB q hq))))
                rcases List.mem_append.mp hp with hp | hp
                · exact b4 p hp
                · exact g4 p hp
              · rw [sentGo_take hcn]
                have e0 : k7 + 1 = cs.length := by omega
                rw [hj, e0, beq_self_eq_true, Bool.or_true]
                have y : ToksIn w ((x9, instObj 413 d9) :: (d9, tkD w y1 y2 y3 y4 u9 (u9 + 1) va9 dotT) :: (tk2 ++ tkk7)) _ _ := (g5.mono fun p hp => .tail _ (.tail _ (List.mem_append_right _ hp))).app (b5.mono fun p hp => .tail _ (.tail _ (List.mem_append_left _ hp)))
                have z : ToksIn w ((x9, instObj 413 d9) :: (d9, tkD w y1 y2 y3 y4 u9 (u9 + 1) va9 dotT) :: (tk2 ++ tkk7)) [Value.ref x9] [dotT] := .cons ⟨x9, d9, y1, y2, y3, y4, u9, u9 + 1, va9, rfl, .head _, .tail _ (.head _)⟩ .nil
                have yz := y.app z
                rw [hj] at yz
                simpa only [List.append_assoc, List.cons_append, List.nil_append, Bool.not_true, Bool.not_false, Bool.true_or, Bool.false_or, if_true] using yz
            · rename_i _ F8 N8 _ hj hla9
              refine ForEnd.intro F8 N8 ((tL, _) :: (I, oI) :: (D9, LCg.lst ys) :: new2) sub5 ?_ ⟨_, _, (D9, LCg.lst ys) :: new2, tk2 ++ tkk7, rfl, ?_, ?_, ?_, ?_, ?_, by walk_at "LOOK", by walk_at "LOOK", by walk_at "LOOK"⟩
              · intro p hp
                rcases List.mem_cons.mp hp with rfl | hp
                · exact notin2 q1 q2
                rcases List.mem_cons.mp hp with rfl | hp
                · exact notin2 (off7 _ (.tail _ (.head _))).1 (off7 _ (.tail _ (.head _))).2
                rcases List.mem_cons.mp hp with rfl | hp
                · exact notin2 (Ne.symm off9.1) (Ne.symm off9.2.1)
                · exact notin2 (b2 p hp).2.2.1 (b2 p hp).2.2.2
              · exact fun p hp => .tail _ (b1 p (g1 p hp))
              · intro p hp
                rcases List.mem_cons.mp hp with rfl | hp
                · exact ⟨Ne.symm off9.2.2.2.1, Ne.symm off9.2.2.1⟩
                · exact ⟨(b2 p hp).1, (b2 p hp).2.1⟩
              · intro p hp
                rcases List.mem_append.mp hp with hp | hp
                · exact .tail _ (b3 p hp)
                · exact .tail _ (b1 p (g3 p hp))
              · intro p hp
                rcases List.mem_append.mp hp with hp | hp
                · exact b4 p hp
                · exact g4 p hp
              · rw [sentGo_take hcn]
                have e0 : (k7 + 1 == cs.length) = false := beq_false_of_ne (by omega)
                rw [hj, e0]
                have y := (g5.mono fun p hp => List.mem_append_right _ hp).app (b5.mono fun p hp => List.mem_append_left _ hp)
                rw [hj] at y
                simpa only [List.append_assoc, List.cons_append, List.nil_append, Bool.not_true, Bool.false_or, Bool.or_false, Bool.false_eq_true, if_false, List.append_nil] using y
            · rename_i u9 hj x9 d9 y1 y2 y3 y4 va9 _ _ l8 l9 _ F8 N8
              have lb := up3 (lt3 l8.2.2.2) l9
              have lc := lt3 l8.2.2.2
              have ld9 := l8.1
              have le9 : @LT.lt Nat _ e7 d9 := l8.2.1
              have li9 : @LT.lt Nat _ it7 d9 := l8.2.2.1
              refine ForEnd.intro F8 N8 ((tL, _) :: (I, oI) :: (x9, instObj 413 d9) :: (d9, tkD w y1 y2 y3 y4 u9 (u9 + 1) va9 dotT) :: (D9, LCg.lst ys) :: new2) sub7 ?_ ⟨_, _, (x9, instObj 413 d9) :: (d9, tkD w y1 y2 y3 y4 u9 (u9 + 1) va9 dotT) :: (D9, LCg.lst ys) :: new2, (x9, instObj 413 d9) :: (d9, tkD w y1 y2 y3 y4 u9 (u9 + 1) va9 dotT) :: (tk2 ++ tkk7), rfl, ?_, ?_, ?_, ?_, ?_, by walk_at "LOOK", by walk_at "LOOK", by walk_at "LOOK"⟩
              · intro p hp
                rcases List.mem_cons.mp hp with rfl | hp
                · exact notin2 q1 q2
                rcases List.mem_cons.mp hp with rfl | hp
                · exact notin2 (off7 _ (.tail _ (.head _))).1 (off7 _ (.tail _ (.head _))).2
                rcases List.mem_cons.mp hp with rfl | hp
                · exact notin2 (Nat.ne_of_gt (Nat.lt_trans le9 l9)) (Nat.ne_of_gt (Nat.lt_trans li9 l9))
                rcases List.mem_cons.mp hp with rfl | hp
                · exact notin2 (Nat.ne_of_gt le9) (Nat.ne_of_gt li9)
                rcases List.mem_cons.mp hp with rfl | hp
                · exact notin2 (Ne.symm off9.1) (Ne.symm off9.2.1)
                · exact notin2 (b2 p hp).2.2.1 (b2 p hp).2.2.2
              · exact fun p hp => .tail _ (.tail _ (.tail _ (b1 p (g1 p hp))))
              · intro p hp
                rcases List.mem_cons.mp hp with rfl | hp
                · exact ⟨Nat.ne_of_gt lb.2.1, Nat.ne_of_gt lb.1⟩
                rcases List.mem_cons.mp hp with rfl | hp
                · exact ⟨Nat.ne_of_gt lc.2.1, Nat.ne_of_gt lc.1⟩
                rcases List.mem_cons.mp hp with rfl | hp
                · exact ⟨Ne.symm off9.2.2.2.1, Ne.symm off9.2.2.1⟩
                · exact ⟨(b2 p hp).1, (b2 p hp).2.1⟩
              · intro p hp
                rcases List.mem_cons.mp hp with rfl | hp
                · exact .head _
                rcases List.mem_cons.mp hp with rfl | hp
                · exact .tail _ (.head _)
                rcases List.mem_append.mp hp with hp | hp
                · exact .tail _ (.tail _ (.tail _ (b3 p hp)))
                · exact .tail _ (.tail _ (.tail _ (b1 p (g3 p hp))))
              · intro p hp
                rcases List.mem_cons.mp hp with rfl | hp
                · exact fun q hq => Nat.ne_of_lt (lb.2.2 q (b1 q (g1 q (hldB q hq))))
                rcases List.mem_cons.mp hp with rfl | hp
                · exact fun q hq => Nat.ne_of_lt (lc.2.2 q (b1 q (g1 q (hldB q hq))))
                rcases List.mem_append.mp hp with hp | hp
                · exact b4 p hp
                · exact g4 p hp
              · rw [sentGo_take hcn]
                rw [hj]
                have y : ToksIn w ((x9, instObj 413 d9) :: (d9, tkD w y1 y2 y3 y4 u9 (u9 + 1) va9 dotT) :: (tk2 ++ tkk7)) _ _ := (g5.mono fun p hp => .tail _ (.tail _ (List.mem_append_right _ hp))).app (b5.mono fun p hp => .tail _ (.tail _ (List.mem_append_left _ hp)))
                have z : ToksIn w ((x9, instObj 413 d9) :: (d9, tkD w y1 y2 y3 y4 u9 (u9 + 1) va9 dotT) :: (tk2 ++ tkk7)) [Value.ref x9] [dotT] := .cons ⟨x9, d9, y1, y2, y3, y4, u9, u9 + 1, va9, rfl, .head _, .tail _ (.head _)⟩ .nil
                have yz := y.app z
                rw [hj] at yz
                simpa only [List.append_assoc, List.cons_append, List.nil_append, Bool.not_true, Bool.not_false, Bool.true_or, Bool.false_or, if_true] using yz
          · rintro k8 ys nw hk8 ⟨new2, tk2, rfl, b1, b2, b3, b4, b5⟩ v8 I' oI' C' oC' D' m' h' tk' E' hv8 hC' hx' F' N' off' ne'
            k_steps
            rename_i x9 d9 y1 y2 y3 y4 va9 _ _ F8 N8 l8 l9
            have lb := up3 (lt3 (I := I) (tL := tL) ⟨l8.2.2.2.2.2.2.1, l8.2.2.2.2.2.1, l8.2.2.2.2.2.2.2⟩) l9
            have lc := lt3 (I := I) (tL := tL) ⟨l8.2.2.2.2.2.2.1, l8.2.2.2.2.2.1, l8.2.2.2.2.2.2.2⟩
            refine LCg.CompEnd.intro F8 N8 ((e7, oe7) :: (it7, oi7) :: (tL, listOf (List.toArray vs7) nT7) :: (I, oI) :: (x9, instObj 413 d9) :: (d9, tkD w y1 y2 y3 y4 tk' (tk' + 1) va9 contT) :: new2) subC
              ⟨off'.1, off'.2.1, off'.2.2.1, off'.2.2.2.1, ⟨Nat.ne_of_gt (Nat.lt_trans l8.1 l9), Nat.ne_of_gt (Nat.lt_trans l8.2.1 l9), Nat.ne_of_gt (Nat.lt_trans l8.2.2.1 l9)⟩, ⟨Nat.ne_of_gt l8.1, Nat.ne_of_gt l8.2.1, Nat.ne_of_gt l8.2.2.1⟩, off'.2.2.2.2⟩ trivial
              ⟨(x9, instObj 413 d9) :: (d9, tkD w y1 y2 y3 y4 tk' (tk' + 1) va9 contT) :: new2, (x9, instObj 413 d9) :: (d9, tkD w y1 y2 y3 y4 tk' (tk' + 1) va9 contT) :: tk2, rfl, fun p hp => .tail _ (.tail _ (b1 p hp)), ?_, ?_, ?_, ?_⟩
            · intro p hp
              rcases List.mem_cons.mp hp with rfl | hp
              · exact ⟨Nat.ne_of_gt lb.1, Nat.ne_of_gt lb.2.1, Nat.ne_of_gt (Nat.lt_trans l8.2.2.2.1 l9), Nat.ne_of_gt (Nat.lt_trans l8.2.2.2.2.1 l9)⟩
              rcases List.mem_cons.mp hp with rfl | hp
              · exact ⟨Nat.ne_of_gt lc.1, Nat.ne_of_gt lc.2.1, Nat.ne_of_gt l8.2.2.2.1, Nat.ne_of_gt l8.2.2.2.2.1⟩
              · exact b2 p hp
            · intro p hp
              rcases List.mem_cons.mp hp with rfl | hp
              · exact .head _
              rcases List.mem_cons.mp hp with rfl | hp
              · exact .tail _ (.head _)
              · exact .tail _ (.tail _ (b3 p hp))
            · intro p hp
              rcases List.mem_cons.mp hp with rfl | hp
              · exact fun q hq => Nat.ne_of_lt (lb.2.2 q (b1 q (g1 q (hldB q hq))))
              rcases List.mem_cons.mp hp with rfl | hp
              · exact fun q hq => Nat.ne_of_lt (lc.2.2 q (b1 q (g1 q (hldB q hq))))
              · exact b4 p hp
            · rw [List.replicate_succ']
              exact (b5.mono fun p hp => .tail _ (.tail _ hp)).app (.cons ⟨x9, d9, y1, y2, y3, y4, _, _, va9, rfl, .head _, .tail _ (.head _)⟩ .nil)
      | false =>
        replace hwd : wd = Str.ofString "" := hwd
        subst hwd
        k_steps
        refine ⟨?_⟩
        rename_i D1 _ e1 x1 d1 ta1 ta2 ta3 ta4 _ _ e2 e3 _ tu2 tu3 x2 d2 tb1 tb2 tb3 tb4 vb _ _ e4 e5 _ F5 N5
        have hcs : cs.length ≤ 1000 ∧ ∀ c ∈ cs, c ≤ 1000 ∧ c ≠ 0 := hl1 _ (List.mem_of_getElem? hr)
        have hpk := tpk (top := [(x2, _), (d2, _), (x1, _), (d1, _), (D1, _)]) (ld := ld) N5 (by simp only [List.forall_mem_cons]; exact ⟨up3 (lt3 e4.2.2.2) e5, lt3 e4.2.2.2, up3 (lt3 e2.2) e3, lt3 e2.2, lt3 e1, fun _ h => nomatch h⟩) (fun p hp => offI p (.tail _ hp)) c2 (fun p hp => c1 p (hldB p hp))
        obtain ⟨N6, hn6, hl6, hq6⟩ := hpk
        dsimp only [List.cons_append, List.nil_append] at N6 hn6 hq6
        have hBB6 := fun p hp => hq6 p (c1 p hp)
        have hT6 : ToksIn w ((x2, instObj 413 d2) :: (d2, tkD w tb1 tb2 tb3 tb4 tu3 (tu3 + 1) vb dotT) :: (x1, instObj 413 d1) :: (d1, tkD w ta1 ta2 ta3 ta4 tk8 u1 (.ref D1) (nameT nm)) :: tkL) (vs ++ [.ref x1] ++ [.ref x2]) (headsTok j ((secHeads S).take i) ++ [nameT nm, dotT]) := by
          have y : ToksIn w ((x2, instObj 413 d2) :: (d2, tkD w tb1 tb2 tb3 tb4 tu3 (tu3 + 1) vb dotT) :: (x1, instObj 413 d1) :: (d1, tkD w ta1 ta2 ta3 ta4 tk8 u1 (.ref D1) (nameT nm)) :: tkL) (vs ++ [.ref x1] ++ [.ref x2]) (headsTok j ((secHeads S).take i) ++ [nameT nm] ++ [dotT]) := (((c5.mono fun p hp => .tail _ (.tail _ (.tail _ (.tail _ (hp))))).app (.cons ⟨_, _, _, _, _, _, _, _, _, rfl, .tail _ (.tail _ (.head _)), .tail _ (.tail _ (.tail _ (.head _)))⟩ .nil)).app (.cons ⟨_, _, _, _, _, _, _, _, _, rfl, .head _, .tail _ (.head _)⟩ .nil))
          simpa only [List.append_assoc, List.cons_append, List.nil_append] using y
        have hevl := m2.length
        rw [List.length_map] at hevl
        replace hevl : ev.length = cs.length := hevl
        have hlen9 : (headTok j (nm, false, cs)).length = 2 + (sentGo j cs.length 0 cs).length := by show ([nameT nm, dotT] ++ sentGo j cs.length 0 cs).length = _; rw [List.length_append]; rfl
        refine For_at ?_
        k_steps
        refine For_E2 (B := [(e, listOf (List.toArray ev) ne)]) (LInvE w ld B tL I e oI j (headsTok j ((secHeads S).take i) ++ [nameT nm, dotT]) cs)
          (by rfl) (by rfl) (by rfl) (by rfl) F5 N6 (.head _) ?hB2 ⟨(vs ++ [.ref x1] ++ [.ref x2]), _, _, (x2, instObj 413 d2) :: (d2, tkD w tb1 tb2 tb3 tb4 tu3 (tu3 + 1) vb dotT) :: (x1, instObj 413 d1) :: (d1, tkD w ta1 ta2 ta3 ta4 tk8 u1 (.ref D1) (nameT nm)) :: tkL, rfl, hBB6, hn6, ?s2, ?f2, (by rw [List.take_zero]; show ToksIn w _ _ (_ ++ []); rw [List.append_nil]; exact hT6), by walk_at "LOOK", by walk_at "LOOK", by walk_at "LOOK"⟩ ?bd2 ?done2
        case hB2 =>
          rintro i m led ⟨vs, nT, new, tk, rfl, c1, _⟩ p hp
          rw [List.mem_singleton.mp hp]
          exact .tail _ (.tail _ (c1 _ m1))
        case s2 =>
          intro p hp
          simp only [List.mem_cons, List.mem_append] at hp ⊢
          rcases hp with y | y | y | y | y
          · exact .inl y
          · exact .inr (.inl y)
          · exact .inr (.inr (.inl y))
          · exact .inr (.inr (.inr (.inl y)))
          · exact .inr (.inr (.inr (.inr (.inr (c3 p y)))))
        case f2 =>
          intro p hp
          simp only [List.mem_cons] at hp
          rcases hp with rfl | rfl | rfl | rfl | y
          · exact hl6 _ (.head _)
          · exact hl6 _ (.tail _ (.head _))
          · exact hl6 _ (.tail _ (.tail _ (.head _)))
          · exact hl6 _ (.tail _ (.tail _ (.tail _ (.head _))))
          · exact c4 p y
        case done2 =>
          rintro m7 led h7 tk7 ⟨vs7, nT7, new7, tkk7, rfl, g1, g2, g3, g4, g5, g6, g7, g8⟩ F7 N7
          rw [hevl, List.take_length] at g5
          dsimp only [envOf] at F7 N7
          k_steps
          refine ForEnd.intro F7 N7 ((tL, listOf (List.toArray vs7) nT7) :: new7) sub_sw ?_ ⟨vs7, nT7, new7, tkk7, rfl, g1, fun p hp => (g2 p hp).2, g3, g4, ?_, g6, g7⟩
          · intro p hp hm
            rcases List.mem_cons.mp hp with rfl | hp
            · exact hIt (List.mem_singleton.mp hm)
            · exact (g2 p hp).1 (List.mem_singleton.mp hm)
          · rw [List.take_add_one, hr]
            have y : headsTok j ((secHeads S).take i ++ [(nm, false, cs)]) = headsTok j ((secHeads S).take i) ++ [nameT nm, dotT] ++ sentGo j cs.length 0 cs := by
              rw [headsTok_app, List.append_assoc]
              show _ ++ ([nameT nm, dotT] ++ sentGo j cs.length 0 cs ++ []) = _
              rw [List.append_nil]
            exact y ▸ g5
        case bd2 =>
          rintro k7 v7 t7 m7 led e7 it7 oe7 oi7 h7 tk7 EE7 hk7 hv7 ⟨vs7, nT7, new7, tkk7, rfl, g1, g2, g3, g4, g5, g6, g7, g8⟩ off7 F7 N7
          dsimp only [envOf] at F7 N7
          obtain ⟨ci, ct, rfl, hci⟩ := IntsAre.at m2 _ _ hv7
          rw [List.getElem?_map] at hci
          obtain ⟨c, hcn, hce⟩ := Option.map_eq_some_iff.mp hci
          replace hce : (c : Int) = ci := hce
          subst hce
          obtain ⟨hc1, hc0⟩ := hcs.2 c (List.mem_of_getElem? hcn)
          k_steps
          refine ⟨?_⟩
          refine LCg.ListComp_U F7 (by with_unfolding_all rfl) (by decide) (by rfl) (by decide) (by rfl) ?_
          k_steps
          refine ⟨?_⟩
          refine LCg.CompSrc.range (n := c) (by rfl) (by k_asm) (by k_asm) (by assumption) (small_one (by decide) (by decide) (by omega) (by omega)) (by rw [rangeSize_nat]; omega) (by unfold sizeLine; omega) fun g9 => ?_
          refine rest_ind (n := _) (LInvC w ld new7 e7 it7 tL I oe7 oi7 oI vs7 nT7) ?_ ?_ _ 0 [] _ (Nat.zero_add _) ⟨new7, [], rfl, fun p hp => hp, fun p hp => ⟨(g2 p hp).1, (g2 p hp).2, (off7 p (.tail _ (.tail _ hp))).1, (off7 p (.tail _ (.tail _ hp))).2⟩, (fun _ h => nomatch h), (fun _ h => nomatch h), .nil⟩
          · rintro ys nw ⟨new2, tk2, rfl, b1, b2, b3, b4, b5⟩
            intro D9 h9 tk9 F9 N9 off9
            simp only [LCg.Off1] at off9
            have q1 : @Ne Nat tL e7 := (off7 _ (.head _)).1
            have q2 : @Ne Nat tL it7 := (off7 _ (.head _)).2
            have q3 : @Ne Nat D9 tL := Ne.symm off9.2.2.1
            have q4 : ∀ p ∈ new2, p.1 ≠ tL := fun p hp => (b2 p hp).2.1
            have q5 := b5.length
            rw [List.length_replicate] at q5
            have q6 : vs7.length < 2 ^ 19 := by
              have y1 := g5.length
              rw [List.length_append, List.length_append] at y1
              have y2 := sentGo_le j cs.length k7 cs
              have y3 : [nameT nm, dotT].length = 2 := rfl
              omega
            have q7 := hBB6
            have q8 := g1 _ m1
            have q9 := b1 _ q8
            k_steps
            · rename_i hj hla9 u9 x9 d9 y1 y2 y3 y4 va9 _ _ l8 l9 _ F8 N8
              have lb := up3 (lt3 l8.2.2.2) l9
              have lc := lt3 l8.2.2.2
              have ld9 := l8.1
              have le9 : @LT.lt Nat _ e7 d9 := l8.2.1
              have li9 : @LT.lt Nat _ it7 d9 := l8.2.2.1
              refine ForEnd.intro F8 N8 ((tL, _) :: (I, oI) :: (x9, instObj 413 d9) :: (d9, tkD w y1 y2 y3 y4 u9 (u9 + 1) va9 dotT) :: (D9, LCg.lst ys) :: new2) sub7 ?_ ⟨_, _, (x9, instObj 413 d9) :: (d9, tkD w y1 y2 y3 y4 u9 (u9 + 1) va9 dotT) :: (D9, LCg.lst ys) :: new2, (x9, instObj 413 d9) :: (d9, tkD w y1 y2 y3 y4 u9 (u9 + 1) va9 dotT) :: (tk2 ++ tkk7), rfl, ?_, ?_, ?_, ?_, ?_, by walk_at "LOOK", by walk_at "LOOK", by walk_at "LOOK"⟩
              · intro p hp
                rcases List.mem_cons.mp hp with rfl | hp
                · exact notin2 q1 q2
                rcases List.mem_cons.mp hp with rfl | hp
                · exact notin2 (off7 _ (.tail _ (.head _))).1 (off7 _ (.tail _ (.head _))).2
                rcases List.mem_cons.mp hp with rfl | hp
                · exact notin2 (Nat.ne_of_gt (Nat.lt_trans le9 l9)) (Nat.ne_of_gt (Nat.lt_trans li9 l9))
                rcases List.mem_cons.mp hp with rfl | hp
                · exact notin2 (Nat.ne_of_gt le9) (Nat.ne_of_gt li9)
                rcases List.mem_cons.mp hp with rfl | hp
                · exact notin2 (Ne.symm off9.1) (Ne.symm off9.2.1)
                · exact notin2 (b2 p hp).2.2.1 (b2 p hp).2.2.2
              · exact fun p hp => .tail _ (.tail _ (.tail _ (b1 p (g1 p hp))))
              · intro p hp
                rcases List.mem_cons.mp hp with rfl | hp
                · exact ⟨Nat.ne_of_gt lb.2.1, Nat.ne_of_gt lb.1⟩
                rcases List.mem_cons.mp hp with rfl | hp
                · exact ⟨Nat.ne_of_gt lc.2.1, Nat.ne_of_gt lc.1⟩
                rcases List.mem_cons.mp hp with rfl | hp
                · exact ⟨Ne.symm off9.2.2.2.1, Ne.symm off9.2.2.1⟩
                · exact ⟨(b2 p hp).1, (b2 p hp).2.1⟩
              · intro p hp
                rcases List.mem_cons.mp hp with rfl | hp
                · exact .head _
                rcases List.mem_cons.mp hp with rfl | hp
                · exact .tail _ (.head _)
                rcases List.mem_append.mp hp with hp | hp
                · exact .tail _ (.tail _ (.tail _ (b3 p hp)))
                · exact .tail _ (.tail _ (.tail _ (b1 p (g3 p hp))))
              · intro p hp
                rcases List.mem_cons.mp hp with rfl | hp
                · exact fun q hq => Nat.ne_of_lt (lb.2.2 q (b1 q (g1 q (hldB q hq))))
                rcases List.mem_cons.mp hp with rfl | hp
                · exact fun q hq => Nat.ne_of_lt (lc.2.2 q (b1 q (g1 q (hldB q hq))))
                rcases List.mem_append.mp hp with hp | hp
                · exact b4 p hp
                · exact g4 p hp
              · rw [sentGo_take hcn]
                have e0 : k7 + 1 = cs.length := by omega
                rw [hj, e0, beq_self_eq_true, Bool.or_true]
                have y : ToksIn w ((x9, instObj 413 d9) :: (d9, tkD w y1 y2 y3 y4 u9 (u9 + 1) va9 dotT) :: (tk2 ++ tkk7)) _ _ := (g5.mono fun p hp => .tail _ (.tail _ (List.mem_append_right _ hp))).app (b5.mono fun p hp => .tail _ (.tail _ (List.mem_append_left _ hp)))
                have z : ToksIn w ((x9, instObj 413 d9) :: (d9, tkD w y1 y2 y3 y4 u9 (u9 + 1) va9 dotT) :: (tk2 ++ tkk7)) [Value.ref x9] [dotT] := .cons ⟨x9, d9, y1, y2, y3, y4, u9, u9 + 1, va9, rfl, .head _, .tail _ (.head _)⟩ .nil
                have yz := y.app z
                rw [hj] at yz
                simpa only [List.append_assoc, List.cons_append, List.nil_append, Bool.not_true, Bool.not_false, Bool.true_or, Bool.false_or, if_true] using yz
            · rename_i _ F8 N8 _ hj hla9
              refine ForEnd.intro F8 N8 ((tL, _) :: (I, oI) :: (D9, LCg.lst ys) :: new2) sub5 ?_ ⟨_, _, (D9, LCg.lst ys) :: new2, tk2 ++ tkk7, rfl, ?_, ?_, ?_, ?_, ?_, by walk_at "LOOK", by walk_at "LOOK", by walk_at "LOOK"⟩
              · intro p hp
                rcases List.mem_cons.mp hp with rfl | hp
                · exact notin2 q1 q2
                rcases List.mem_cons.mp hp with rfl | hp
                · exact notin2 (off7 _ (.tail _ (.head _))).1 (off7 _ (.tail _ (.head _))).2
                rcases List.mem_cons.mp hp with rfl | hp
                · exact notin2 (Ne.symm off9.1) (Ne.symm off9.2.1)
                · exact notin2 (b2 p hp).2.2.1 (b2 p hp).2.2.2
              · exact fun p hp => .tail _ (b1 p (g1 p hp))
              · intro p hp
                rcases List.mem_cons.mp hp with rfl | hp
                · exact ⟨Ne.symm off9.2.2.2.1, Ne.symm off9.2.2.1⟩
                · exact ⟨(b2 p hp).1, (b2 p hp).2.1⟩
              · intro p hp
                rcases List.mem_append.mp hp with hp | hp
                · exact .tail _ (b3 p hp)
                · exact .tail _ (b1 p (g3 p hp))
              · intro p hp
                rcases List.mem_append.mp hp with hp | hp
                · exact b4 p hp
                · exact g4 p hp
              · rw [sentGo_take hcn]
                have e0 : (k7 + 1 == cs.length) = false := beq_false_of_ne (by omega)
                rw [hj, e0]
                have y := (g5.mono fun p hp => List.mem_append_right _ hp).app (b5.mono fun p hp => List.mem_append_left _ hp)
                rw [hj] at y
                simpa only [List.append_assoc, List.cons_append, List.nil_append, Bool.not_true, Bool.false_or, Bool.or_false, Bool.false_eq_true, if_false, List.append_nil] using y
            · rename_i u9 hj x9 d9 y1 y2 y3 y4 va9 _ _ l8 l9 _ F8 N8
              have lb := up3 (lt3 l8.2.2.2) l9
              have lc := lt3 l8.2.2.2
              have ld9 := l8.1
              have le9 : @LT.lt Nat _ e7 d9 := l8.2.1
              have li9 : @LT.lt Nat _ it7 d9 := l8.2.2.1
              refine ForEnd.intro F8 N8 ((tL, _) :: (I, oI) :: (x9, instObj 413 d9) :: (d9, tkD w y1 y2 y3 y4 u9 (u9 + 1) va9 dotT) :: (D9, LCg.lst ys) :: new2) sub7 ?_ ⟨_, _, (x9, instObj 413 d9) :: (d9, tkD w y1 y2 y3 y4 u9 (u9 + 1) va9 dotT) :: (D9, LCg.lst ys) :: new2, (x9, instObj 413 d9) :: (d9, tkD w y1 y2 y3 y4 u9 (u9 + 1) va9 dotT) :: (tk2 ++ tkk7), rfl, ?_, ?_, ?_, ?_, ?_, by walk_at "LOOK", by walk_at "LOOK", by walk_at "LOOK"⟩
              · intro p hp
                rcases List.mem_cons.mp hp with rfl | hp
                · exact notin2 q1 q2
                rcases List.mem_cons.mp hp with rfl | hp
                · exact notin2 (off7 _ (.tail _ (.head _))).1 (off7 _ (.tail _ (.head _))).2
                rcases List.mem_cons.mp hp with rfl | hp
                · exact notin2 (Nat.ne_of_gt (Nat.lt_trans le9 l9)) (Nat.ne_of_gt (Nat.lt_trans li9 l9))
                rcases List.mem_cons.mp hp with rfl | hp
                · exact notin2 (Nat.ne_of_gt le9) (Nat.ne_of_gt li9)
                rcases List.mem_cons.mp hp with rfl | hp
                · exact notin2 (Ne.symm off9.1) (Ne.symm off9.2.1)
                · exact notin2 (b2 p hp).2.2.1 (b2 p hp).2.2.2
              · exact fun p hp => .tail _ (.tail _ (.tail _ (b1 p (g1 p hp))))
              · intro p hp
                rcases List.mem_cons.mp hp with rfl | hp
                · exact ⟨Nat.ne_of_gt lb.2.1, Nat.ne_of_gt lb.1⟩
                rcases List.mem_cons.mp hp with rfl | hp
                · exact ⟨Nat.ne_of_gt lc.2.1, Nat.ne_of_gt lc.1⟩
                rcases List.mem_cons.mp hp with rfl | hp
                · exact ⟨Ne.symm off9.2.2.2.1, Ne.symm off9.2.2.1⟩
                · exact ⟨(b2 p hp).1, (b2 p hp).2.1⟩
              · intro p hp
                rcases List.mem_cons.mp hp with rfl | hp
                · exact .head _
                rcases List.mem_cons.mp hp with rfl | hp
                · exact .tail _ (.head _)
                rcases List.mem_append.mp hp with hp | hp
                · exact .tail _ (.tail _ (.tail _ (b3 p hp)))
                · exact .tail _ (.tail _ (.tail _ (b1 p (g3 p hp))))
              · intro p hp
                rcases List.mem_cons.mp hp with rfl | hp
                · exact fun q hq => Nat.ne_of_lt (lb.2.2 q (b1 q (g1 q (hldB q hq))))
                rcases List.mem_cons.mp hp with rfl | hp
                · exact fun q hq => Nat.ne_of_lt (lc.2.2 q (b1 q (g1 q (hldB q hq))))
                rcases List.mem_append.mp hp with hp | hp
                · exact b4 p hp
                · exact g4 p hp
              · rw [sentGo_take hcn]
                rw [hj]
                have y : ToksIn w ((x9, instObj 413 d9) :: (d9, tkD w y1 y2 y3 y4 u9 (u9 + 1) va9 dotT) :: (tk2 ++ tkk7)) _ _ := (g5.mono fun p hp => .tail _ (.tail _ (List.mem_append_right _ hp))).app (b5.mono fun p hp => .tail _ (.tail _ (List.mem_append_left _ hp)))
                have z : ToksIn w ((x9, instObj 413 d9) :: (d9, tkD w y1 y2 y3 y4 u9 (u9 + 1) va9 dotT) :: (tk2 ++ tkk7)) [Value.ref x9] [dotT] := .cons ⟨x9, d9, y1, y2, y3, y4, u9, u9 + 1, va9, rfl, .head _, .tail _ (.head _)⟩ .nil
                have yz := y.app z
                rw [hj] at yz
                simpa only [List.append_assoc, List.cons_append, List.nil_append, Bool.not_true, Bool.not_false, Bool.true_or, Bool.false_or, if_true] using yz
          · rintro k8 ys nw hk8 ⟨new2, tk2, rfl, b1, b2, b3, b4, b5⟩ v8 I' oI' C' oC' D' m' h' tk' E' hv8 hC' hx' F' N' off' ne'
            k_steps
            rename_i x9 d9 y1 y2 y3 y4 va9 _ _ F8 N8 l8 l9
            have lb := up3 (lt3 (I := I) (tL := tL) ⟨l8.2.2.2.2.2.2.1, l8.2.2.2.2.2.1, l8.2.2.2.2.2.2.2⟩) l9
            have lc := lt3 (I := I) (tL := tL) ⟨l8.2.2.2.2.2.2.1, l8.2.2.2.2.2.1, l8.2.2.2.2.2.2.2⟩
            refine LCg.CompEnd.intro F8 N8 ((e7, oe7) :: (it7, oi7) :: (tL, listOf (List.toArray vs7) nT7) :: (I, oI) :: (x9, instObj 413 d9) :: (d9, tkD w y1 y2 y3 y4 tk' (tk' + 1) va9 contT) :: new2) subC
              ⟨off'.1, off'.2.1, off'.2.2.1, off'.2.2.2.1, ⟨Nat.ne_of_gt (Nat.lt_trans l8.1 l9), Nat.ne_of_gt (Nat.lt_trans l8.2.1 l9), Nat.ne_of_gt (Nat.lt_trans l8.2.2.1 l9)⟩, ⟨Nat.ne_of_gt l8.1, Nat.ne_of_gt l8.2.1, Nat.ne_of_gt l8.2.2.1⟩, off'.2.2.2.2⟩ trivial
              ⟨(x9, instObj 413 d9) :: (d9, tkD w y1 y2 y3 y4 tk' (tk' + 1) va9 contT) :: new2, (x9, instObj 413 d9) :: (d9, tkD w y1 y2 y3 y4 tk' (tk' + 1) va9 contT) :: tk2, rfl, fun p hp => .tail _ (.tail _ (b1 p hp)), ?_, ?_, ?_, ?_⟩
            · intro p hp
              rcases List.mem_cons.mp hp with rfl | hp
              · exact ⟨Nat.ne_of_gt lb.1, Nat.ne_of_gt lb.2.1, Nat.ne_of_gt (Nat.lt_trans l8.2.2.2.1 l9), Nat.ne_of_gt (Nat.lt_trans l8.2.2.2.2.1 l9)⟩
              rcases List.mem_cons.mp hp with rfl | hp
              · exact ⟨Nat.ne_of_gt lc.1, Nat.ne_of_gt lc.2.1, Nat.ne_of_gt l8.2.2.2.1, Nat.ne_of_gt l8.2.2.2.2.1⟩
              · exact b2 p hp
            · intro p hp
              rcases List.mem_cons.mp hp with rfl | hp
              · exact .head _
              rcases List.mem_cons.mp hp with rfl | hp
              · exact .tail _ (.head _)
              · exact .tail _ (.tail _ (b3 p hp))
            · intro p hp
              rcases List.mem_cons.mp hp with rfl | hp
              · exact fun q hq => Nat.ne_of_lt (lb.2.2 q (b1 q (g1 q (hldB q hq))))
              rcases List.mem_cons.mp hp with rfl | hp
              · exact fun q hq => Nat.ne_of_lt (lc.2.2 q (b1 q (g1 q (hldB q hq))))
              · exact b4 p hp
            · rw [List.replicate_succ']
              exact (b5.mono fun p hp => .tail _ (.tail _ hp)).app (.cons ⟨x9, d9, y1, y2, y3, y4, _, _, va9, rfl, .head _, .tail _ (.head _)⟩ .nil)
  · rintro i ys news hi ⟨⟨tt, b0, b1⟩, b2, hH⟩ v hv
    obtain ⟨r, hr, t9, nt9, u9, e9, ne9, ev9, rfl, a1, a2, a3⟩ := s5.get (by simpa using hv)
    refine ⟨_, _, _, _, _, rfl, b2 _ a1, rfl, rfl, ?_⟩
    intro I' oI' C' oC' D' m' h' tk' E' hC' hx' hy' F' N' off' ne'
    k_steps
    (rename News _ _ _ _ => N9)
    (rename Fr _ _ _ _ => F9)
    (rename (_ < _ ∧ _ < _ ∧ _ < _ ∧ AllLt _ news) => l0)
    refine LCg.CompEnd.intro F9 N9 ((_, _) :: news) sub13 ⟨⟨Nat.ne_of_gt l0.1, Nat.ne_of_gt l0.2.1, Nat.ne_of_gt l0.2.2.1⟩, off'⟩ (.inr ⟨_, .tail _ (b2 _ s4), rfl, _, rfl⟩) ⟨⟨_, .tail _ b0, .tail _ b1⟩, fun p hp => .tail _ (b2 p hp), ?_⟩
    rw [List.take_add_one, hr]
    simp only [Option.toList, List.map_append, List.map_cons, List.map_nil]
    exact (hH.mono fun p hp => .tail _ hp).snoc ⟨_, _, _, _, e9, ne9, ev9, rfl, .head _, .tail _ (b2 _ a2), a3⟩
end
section
variable {prog : Program} {w : World} {A : Around} {E : Value → Shared → Prop} {s : Shared} {g h : Heap} {L D a b l : Addr} {m : Str → Option Value} {news news' : Led} {us : List Value} {n : Nat}
theorem pop0 {y : Value} {u : Tok} {Q : Value → Shared → Prop} (F : Fr g L s.heap m) (N : News g L s.heap news) (U : Upd D (listOf (y :: us).toArray n) (listOf us.toArray (n + 1)) news news') (hz : us.length ≤ 2 ^ 20)
    (h : ∀ h', Fr g L h' m → News g L h' news' → Q y { s with heap := h' }) : wpAny (model prog w) A (call (.builtin "list.pop") [.ref D, .int 0 u]) Q E s := by
  obtain ⟨pre, post, rfl, rfl, p1, p2⟩ := U.split
  have z := N (D, listOf (y :: us).toArray n) (List.mem_append.mpr (.inr (.head _)))
  have hs : (y :: us).toArray.size = us.length + 1 := by simp
  have e : (y :: us).toArray.eraseIdxIfInBounds 0 = us.toArray := by simp
  refine call_meets PySem.F.slot_list_pop ⟨_, z.1, rfl⟩ PySem.F.entry_list_pop (PySem.F.args_list_pop_2 _ _) (PySem.MeetsSeq.list_pop_at D (y :: us).toArray n 0 u 0 y (by decide) (by rw [hs]; unfold seqIndex?; simp; try omega) rfl (by rw [hs, sizeLine_eq]; omega)) ⟨z.1, h _ (F.change (Heap.SameBut.update ..) z.2.1 z.2.2) (kl_turn _ N p1 p2 e ?_)⟩
  rw [hs, List.size_toArray]
  exact Nat.ne_of_lt (Nat.lt_succ_self _)
end
theorem words_i5 : True := by
  k_with "call builtin:list.pop" => (k_here; (with_reducible show wpAny _ _ (call (Value.builtin _) [Value.ref _, Value.int _ _]) _ _ _); k_dflt (refine' pop0 ?zzF ?zzN ?zzU ?zzz ?_; (case zzF => k_asm); (case zzN => k_asm); (case zzU => k_upd); (case zzz => first | assumption | omega); k_whole; intro _ _ _; (try k_sweep)))
  exact True.intro
theorem ints_drop : ∀ {vs : List Value} {ns : List Int}, IntsAre vs ns → ∀ n, IntsAre (vs.drop n) (ns.drop n)
  | _, _, .nil, n => by rw [List.drop_nil, List.drop_nil]; exact .nil
  | _, _, .cons k t r, 0 => .cons k t r
  | _, _, .cons _ _ r, n + 1 => ints_drop r n
theorem ints_snoc {ws : List Value} {cs : List Nat} {k : Int} {t : Tok} (h : IntsAre ws (cntI cs)) (hk : 0 ≤ k) : IntsAre (ws ++ [.int k t]) (cntI (cs ++ [k.toNat])) := by
  have e : cntI (cs ++ [k.toNat]) = cntI cs ++ [k] := by
    show List.map _ _ = _
    rw [List.map_append]
    show _ ++ [((k.toNat : Nat) : Int)] = _
    rw [Int.toNat_of_nonneg hk]
  rw [e]
  exact h.append (.cons k t .nil)
section
variable {prog : Program} {w : World} {dp un : Nat} {fr : Option (List Env)} {gd : Option (List Code)} {s : Shared} {h₀ : Heap} {p : Program} {loose : List Str} {mean : ExcName → Option Value} {mg mb : Str → Option Value}
variable {Q E : Value → Shared → Prop} {nA : Addr} {vs : List Value} {xs : List Int} {n : Nat} {tk0 : Tok}
inductive NInv (nA fL : Addr) (vs1 : List Value) (k : Nat) (m : Str → Option Value) (led : Led) : Prop
  | mk : ∀ ws nf nn cs, led = [(fL, listOf (List.toArray ws) nf), (nA, listOf (List.toArray (vs1.drop k)) nn)] → IntsAre ws (cntI cs) → cs.length = k → (∀ c ∈ cs, 1 ≤ c ∧ c ≤ 2) → m (Str.ofString "numbers") = some (.ref nA) → m (Str.ofString "found") = some (.ref fL) → NInv nA fL vs1 k m led
set_option maxHeartbeats 4000000 in
theorem sentences_c (X : (K w.params).In h₀) (T : Top p loose mean mg mb h₀) (k₀ : Ext h₀ s.heap) (hd : dp + 4 < recursionLimit) (hu : un + 100 < cLine)
    (H : s.heap.get? nA = some (listOf (List.toArray vs) n)) (hI : IntsAre vs xs) (h3 : 3 ≤ xs.length) (hz : xs.length ≤ 1000) (hpos : ∀ x ∈ xs, 0 ≤ x ∧ x ≤ 1000) (hf : h₀.get? nA = none)
    (h : ∀ q ws nq n' cs h' tk', ExtB [nA] s.heap h' → h'.get? nA = some (listOf (List.toArray (vs.drop (1 + cs.length))) n') → s.heap.get? q = none → h'.get? q = some (listOf (List.toArray ws) nq) → IntsAre ws (cntI cs) → cs.length ≤ 2 → (∀ c ∈ cs, 1 ≤ c ∧ c ≤ 2) → Q (.ref q) { s with heap := h', toks := tk' }) :
    wpAny (model prog w) (Ar dp fr gd un) (call (.ref 424) [.ref nA, .int 0 tk0]) Q E s := by
  have reg : (K, PySem.Challenge.rw_pb0258_01).1 = K := by (k_fill; rfl)
  clear reg
  have hW : ∀ p ∈ [(nA, listOf (List.toArray vs) n)], s.heap.get? p.1 = some p.2 := fun p hp => by rw [List.mem_singleton.mp hp]; exact H
  have hN := none_one (o := listOf (List.toArray vs) n) hf
  cases hI with
  | nil => exact absurd h3 (by decide)
  | cons x1 t1 hI1 =>
    rename_i vs1 xs1
    have hx1 := hpos x1 (.head _)
    have hv1 := hI1.length
    have hz1 : vs1.length ≤ 2 ^ 20 := by rw [hv1]; rw [List.length_cons] at hz; omega
    walk_at "ENTERW"
    k_steps
    refine ⟨?_⟩
    rename_i fL _ l8 _ F7 N7
    have hfL : @Ne Nat fL nA := Nat.ne_of_gt l8
    refine For_at ?_
    k_steps
    (rename IsRange _ _ _ _ _ _ _ _ => r9)
    (rename Fr _ _ _ _ => F9)
    (rename News _ _ _ _ => N9)
    (rename ExtB _ _ _ => hB9)
    have hm3 : x1.fmod 3 = x1 % 3 := Int.fmod_eq_emod_of_nonneg _ (by decide)
    have hr1 : 0 ≤ x1.fmod 3 := by rw [hm3]; omega
    have hr2 : x1.fmod 3 ≤ 2 := by rw [hm3]; omega
    have hlen1 : 2 ≤ vs1.length := by rw [hv1]; rw [List.length_cons] at h3; omega
    refine For_R1 (n := (x1.fmod 3).toNat) (NInv nA fL vs1)
      (by rfl) (by rfl) (by rfl) F9 N9 r9 (small_one (by decide) (by decide) (by omega) (by omega)) (by rw [rangeSize_nat]; omega) ⟨[], _, _, [], rfl, .nil, rfl, (fun _ h => nomatch h), by walk_at "LOOK", by walk_at "LOOK"⟩ ?bd ?done
    case bd =>
      rintro i t m led I oI h8 tk8 E8 hi ⟨ws, nf, nn, cs, rfl, i1, i2, i3, i4, i5⟩ offI F8 N8
      dsimp only [envOf] at F8 N8
      have hi1 : i < vs1.length := by omega
      obtain ⟨ki, ti, hk1, hk2⟩ := IntsAre.at hI1 i vs1[i] (List.getElem?_eq_getElem hi1)
      have hdr : vs1.drop i = .int ki ti :: vs1.drop (i + 1) := by rw [List.drop_eq_getElem_cons hi1, hk1]
      rw [hdr] at N8
      have hkb := hpos ki (.tail _ (List.mem_of_getElem? hk2))
      have hz2 : (vs1.drop (i + 1)).length ≤ 2 ^ 20 := by rw [List.length_drop]; omega
      have q1 : @Ne Nat fL I := offI _ (.head _)
      have q2 : @Ne Nat nA I := offI _ (.tail _ (.head _))
      have hws : ws.length ≤ 2 := by rw [i1.length, List.length_map]; omega
      have hm2 : ki.fmod 2 = ki % 2 := Int.fmod_eq_emod_of_nonneg _ (by decide)
      k_steps
      (rename News _ _ _ _ => N6)
      (rename Fr _ _ _ _ => F6)
      refine ForEnd.intro F6 N6 [(fL, _), (nA, _)] (fun p hp => hp) ?_ ⟨ws ++ [.int (1 + ki.fmod 2) _], _, _, cs ++ [(1 + ki.fmod 2).toNat], rfl, ints_snoc i1 (by omega), by rw [List.length_append, i2]; rfl, ?_, by walk_at "LOOK", by walk_at "LOOK"⟩
      · intro p hp hm
        have e := List.mem_singleton.mp hm
        rcases List.mem_cons.mp hp with rfl | hp
        · exact q1 e
        · rw [List.mem_singleton.mp hp] at e
          exact q2 e
      · intro c hc
        rcases List.mem_append.mp hc with hc | hc
        · exact i3 c hc
        · rw [List.mem_singleton.mp hc]; omega
    case done =>
      rintro m led h8 tk8 ⟨ws, nf, nn, cs, rfl, i1, i2, i3, i4, i5⟩ F8 N8
      dsimp only [envOf] at F8 N8
      k_steps
      have e : ((Value.int x1 t1 :: vs1).drop (1 + cs.length)) = vs1.drop (x1.fmod 3).toNat := by rw [i2, Nat.add_comm]; rfl
      refine h fL ws nf nn cs _ _ (extB_one hB9 F8) ?_ (new_one hB9 (N8.fresh (.head _)) hfL) (N8.get (.head _)) i1 (by omega) i3
      rw [e]
      exact N8.get (.tail _ (.head _))
end
theorem range_ex {h : Heap} {r : Addr} {x : Int} {t u v : Tok} (_r : IsRange h r 0 (1 + x.fmod 4) 1 t u v) : ∃ n : Nat, Builtin.Range.small 0 (1 + x.fmod 4) 1 = true ∧ Builtin.Range.rangeSize 0 (1 + x.fmod 4) 1 = ((n : Nat) : Int) ∧ 1 ≤ n ∧ n ≤ 4 := by
  have e : x.fmod 4 = x % 4 := Int.fmod_eq_emod_of_nonneg _ (by decide)
  have h1 : 0 ≤ x.fmod 4 := by rw [e]; omega
  have h2 : x.fmod 4 ≤ 3 := by rw [e]; omega
  exact ⟨(1 + x.fmod 4).toNat, small_one (by decide) (by decide) (by omega) (by omega), by rw [rangeSize_nat]; omega, by omega, by omega⟩
theorem range_ex3 {h : Heap} {r : Addr} {x : Int} {t u v : Tok} (_r : IsRange h r 0 (x.fmod 3) 1 t u v) : ∃ n : Nat, Builtin.Range.small 0 (x.fmod 3) 1 = true ∧ Builtin.Range.rangeSize 0 (x.fmod 3) 1 = ((n : Nat) : Int) ∧ n ≤ 2 := by
  have e : x.fmod 3 = x % 3 := Int.fmod_eq_emod_of_nonneg _ (by decide)
  have h1 : 0 ≤ x.fmod 3 := by rw [e]; omega
  have h2 : x.fmod 3 ≤ 2 := by rw [e]; omega
  exact ⟨(x.fmod 3).toNat, small_one (by decide) (by decide) (by omega) (by omega), by rw [rangeSize_nat]; omega, by omega⟩
inductive SecsIn (ld : Led) : List Value → List Sec → Prop
  | nil : SecsIn ld [] []
  | cons {v vs r rs} : SecIn ld v r → SecsIn ld vs rs → SecsIn ld (v :: vs) (r :: rs)
theorem SecsIn.mono {tl tl' : Led} {vs : List Value} {rs : List Sec} (x : SecsIn tl vs rs) (k : ∀ p ∈ tl, p ∈ tl') : SecsIn tl' vs rs := by
  induction x with
  | nil => exact .nil
  | cons a _ ih => exact .cons (a.mono k) ih
theorem SecsIn.snoc {tl : Led} {vs : List Value} {rs : List Sec} {v : Value} {r : Sec} (x : SecsIn tl vs rs) (y : SecIn tl v r) : SecsIn tl (vs ++ [v]) (rs ++ [r]) := by
  induction x with
  | nil => exact .cons y .nil
  | cons a _ ih => exact .cons a ih
theorem SecsIn.length {tl : Led} {vs : List Value} {rs : List Sec} (x : SecsIn tl vs rs) : vs.length = rs.length := by
  induction x with
  | nil => rfl
  | cons _ _ ih => rw [List.length_cons, List.length_cons, ih]
theorem SecsIn.get {tl : Led} {vs : List Value} {rs : List Sec} (x : SecsIn tl vs rs) : ∀ {i : Nat} {v : Value}, vs[i]? = some v → ∃ r, rs[i]? = some r ∧ SecIn tl v r := by
  induction x with
  | nil => intro i v e; simp at e
  | cons a _ ih =>
    intro i v e
    cases i with
    | zero => simp at e; subst e; exact ⟨_, rfl, a⟩
    | succ i => exact ih (i := i) (by simpa using e)
noncomputable def CsOk (cs : List Nat) : Prop := cs.length ≤ 2 ∧ ∀ c ∈ cs, 1 ≤ c ∧ c ≤ 2
theorem sub71 {r a b c d e f k : Addr × Obj} {tl : Led} : ∀ p ∈ a :: b :: c :: d :: e :: f :: k :: r :: tl, p ∈ r :: a :: b :: c :: d :: e :: f :: k :: tl := by
  intro p hp
  simp only [List.mem_cons] at hp ⊢
  rcases hp with y | y | y | y | y | y | y | y | y
  · exact .inr (.inl y)
  · exact .inr (.inr (.inl y))
  · exact .inr (.inr (.inr (.inl y)))
  · exact .inr (.inr (.inr (.inr (.inl y))))
  · exact .inr (.inr (.inr (.inr (.inr (.inl y)))))
  · exact .inr (.inr (.inr (.inr (.inr (.inr (.inl y))))))
  · exact .inr (.inr (.inr (.inr (.inr (.inr (.inr (.inl y)))))))
  · exact .inl y
  · exact .inr (.inr (.inr (.inr (.inr (.inr (.inr (.inr y)))))))
theorem subS {a b c d i n s x z9 : Addr × Obj} {tl : Led} : ∀ p ∈ i :: s :: n :: a :: b :: c :: d :: x :: z9 :: tl, p ∈ x :: z9 :: i :: s :: n :: a :: b :: c :: d :: tl := by
  intro p hp
  simp only [List.mem_cons] at hp ⊢
  rcases hp with y | y | y | y | y | y | y | y | y | y
  · exact .inr (.inr (.inl y))
  · exact .inr (.inr (.inr (.inl y)))
  · exact .inr (.inr (.inr (.inr (.inl y))))
  · exact .inr (.inr (.inr (.inr (.inr (.inl y)))))
  · exact .inr (.inr (.inr (.inr (.inr (.inr (.inl y))))))
  · exact .inr (.inr (.inr (.inr (.inr (.inr (.inr (.inl y)))))))
  · exact .inr (.inr (.inr (.inr (.inr (.inr (.inr (.inr (.inl y))))))))
  · exact .inl y
  · exact .inr (.inl y)
  · exact .inr (.inr (.inr (.inr (.inr (.inr (.inr (.inr (.inr (y)))))))))
theorem subP {D I a b c d e i n r s x : Addr × Obj} {tl : Led} : ∀ p ∈ i :: c :: D :: I :: s :: n :: a :: b :: e :: d :: x :: r :: tl, p ∈ x :: r :: i :: c :: D :: I :: s :: n :: a :: b :: e :: d :: tl := by
  intro p hp
  simp only [List.mem_cons] at hp ⊢
  rcases hp with y | y | y | y | y | y | y | y | y | y | y | y | y
  · exact .inr (.inr (.inl y))
  · exact .inr (.inr (.inr (.inl y)))
  · exact .inr (.inr (.inr (.inr (.inl y))))
  · exact .inr (.inr (.inr (.inr (.inr (.inl y)))))
  · exact .inr (.inr (.inr (.inr (.inr (.inr (.inl y))))))
  · exact .inr (.inr (.inr (.inr (.inr (.inr (.inr (.inl y)))))))
  · exact .inr (.inr (.inr (.inr (.inr (.inr (.inr (.inr (.inl y))))))))
  · exact .inr (.inr (.inr (.inr (.inr (.inr (.inr (.inr (.inr (.inl y)))))))))
  · exact .inr (.inr (.inr (.inr (.inr (.inr (.inr (.inr (.inr (.inr (.inl y))))))))))
  · exact .inr (.inr (.inr (.inr (.inr (.inr (.inr (.inr (.inr (.inr (.inr (.inl y)))))))))))
  · exact .inl y
  · exact .inr (.inl y)
  · exact .inr (.inr (.inr (.inr (.inr (.inr (.inr (.inr (.inr (.inr (.inr (.inr (y))))))))))))
theorem notin1 {a e : Addr} {oe : Obj} (h1 : @Ne Nat a e) : a ∉ [(e, oe)].map (·.1) := fun hm => h1 (List.mem_singleton.mp hm)
noncomputable abbrev nmS (i : Nat) : Str := Str.ofString "S-" ++ Str.ofString (toString (0 + (i : Int)))
noncomputable abbrev nmP (i : Nat) : Str := Str.ofString "P-" ++ Str.ofString (toString (0 + (i : Int)))
noncomputable def ParOk (p : Str × List Nat) : Prop := (∃ t, t < 2 ∧ p.1 = nmP t) ∧ CsOk p.2
noncomputable def SecOk (S : Sec) : Prop := (∃ i, i < 4 ∧ S.1 = nmS i) ∧ CsOk S.2.1 ∧ S.2.2.length ≤ 2 ∧ ∀ p ∈ S.2.2, ParOk p
theorem ParasIn.snoc {tl : Led} {vs : List Value} {rs : List (Str × List Nat)} {v : Value} {r : Str × List Nat} (x : ParasIn tl vs rs) (y : ParaIn tl v r) : ParasIn tl (vs ++ [v]) (rs ++ [r]) := by
  induction x with
  | nil => exact .cons y .nil
  | cons a _ ih => exact .cons a ih
noncomputable def cnts (j : Bool) (cs : List Nat) : List Un := if j then (if cs.isEmpty then [] else [.sent cs.sum]) else cs.map .sent
/-- a section's units -/
noncomputable def secUns (j : Bool) (S : Sec) : List Un := (.sec S.1 :: cnts j S.2.1) ++ S.2.2.flatMap fun p => .par p.1 :: cnts j p.2
theorem sentGo_un (j : Bool) : ∀ (n i : Nat) (cs : List Nat), i + cs.length = n → sentGo j n i cs = unsTok (cnts j cs) := by
  cases j with
  | false =>
    intro n i cs
    induction cs generalizing i with
    | nil => intro _; rfl
    | cons c cs ih =>
      intro h
      show (List.replicate c contT ++ (if !false || i + 1 == n then [dotT] else [])) ++ sentGo false n (i + 1) cs = unsTok (.sent c :: cs.map .sent)
      rw [ih (i + 1) (by rw [List.length_cons] at h; omega)]
      rfl
  | true =>
    have go : ∀ (n i : Nat) (cs : List Nat), i + cs.length = n → cs ≠ [] → sentGo true n i cs = List.replicate cs.sum contT ++ [dotT] := by
      intro n i cs
      induction cs generalizing i with
      | nil => intro _ h; exact absurd rfl h
      | cons c cs ih =>
        intro h _
        rw [List.length_cons] at h
        show (List.replicate c contT ++ (if !true || i + 1 == n then [dotT] else [])) ++ sentGo true n (i + 1) cs = _
        cases cs with
        | nil =>
          have e : (i + 1 == n) = true := by simpa using h
          rw [e]
          simp [sentGo]
        | cons d ds =>
          have e : (i + 1 == n) = false := beq_false_of_ne (by rw [List.length_cons] at h; omega)
          rw [e, ih (i + 1) (by omega) (by simp)]
          simp only [Bool.not_true, Bool.or_self, Bool.false_eq_true, if_false, List.append_nil, List.sum_cons, ← List.append_assoc, List.replicate_append_replicate]
    intro n i cs h
    cases cs with
    | nil => rfl
    | cons c cs =>
      rw [go n i _ h (by simp)]
      show _ = unsTok [.sent (c :: cs).sum]
      simp [unsTok, unTok]
theorem headsTok_un (j : Bool) (S : Sec) : headsTok j (secHeads S) = unsTok (secUns j S) := by
  have hh : ∀ ps : List (Str × List Nat), headsTok j (ps.map fun p => (p.1, false, p.2)) = unsTok (ps.flatMap fun p => .par p.1 :: cnts j p.2) := by
    intro ps
    induction ps with
    | nil => rfl
    | cons p ps ih =>
      show headTok j (p.1, false, p.2) ++ headsTok j (ps.map fun p => (p.1, false, p.2)) = unsTok ((.par p.1 :: cnts j p.2) ++ ps.flatMap fun p => .par p.1 :: cnts j p.2)
      rw [ih, uns_app, uns_cons]
      show ((nameT p.1 :: []) ++ [dotT] ++ sentGo j p.2.length 0 p.2) ++ _ = _
      rw [sentGo_un j _ 0 p.2 (Nat.zero_add _)]
      rfl
  show headTok j (S.1, true, S.2.1) ++ headsTok j (S.2.2.map fun p => (p.1, false, p.2)) = _
  unfold secUns
  rw [hh, uns_app, uns_cons]
  show ((nameT S.1 :: [secT]) ++ [dotT] ++ sentGo j S.2.1.length 0 S.2.1) ++ _ = _
  rw [sentGo_un j _ 0 S.2.1 (Nat.zero_add _)]
  rfl
theorem sentGo_len (j : Bool) (n : Nat) : ∀ (i : Nat) (cs : List Nat), (∀ c ∈ cs, c ≤ 2) → (sentGo j n i cs).length ≤ 3 * cs.length
  | _, [], _ => Nat.le_refl _
  | i, c :: cs, h => by
    have h1 := sentGo_len j n (i + 1) cs fun x hx => h x (.tail _ hx)
    have h2 := h c (.head _)
    show ((List.replicate c contT ++ (if !j || i + 1 == n then [dotT] else [])) ++ sentGo j n (i + 1) cs).length ≤ _
    rw [List.length_append, List.length_append, List.length_replicate, List.length_cons]
    have h3 : (if !j || i + 1 == n then [dotT] else []).length ≤ 1 := by split <;> simp
    omega
theorem headTok_len (j : Bool) (r : HD) (h : CsOk r.2.2) : (headTok j r).length ≤ 9 := by
  have h1 := sentGo_len j r.2.2.length 0 r.2.2 fun c hc => (h.2 c hc).2
  have h2 := h.1
  show ((nameT r.1 :: (if r.2.1 then [secT] else [])) ++ [dotT] ++ sentGo j r.2.2.length 0 r.2.2).length ≤ 9
  rw [List.length_append, List.length_append, List.length_cons, List.length_singleton]
  have h3 : (if r.2.1 then [secT] else []).length ≤ 1 := by split <;> simp
  omega
theorem headsTok_len (j : Bool) : ∀ (hs : List HD), (∀ h ∈ hs, CsOk h.2.2) → (headsTok j hs).length ≤ 9 * hs.length
  | [], _ => Nat.le_refl _
  | r :: hs, h => by
    have h1 := headsTok_len j hs fun x hx => h x (.tail _ hx)
    have h2 := headTok_len j r (h r (.head _))
    show (headTok j r ++ headsTok j hs).length ≤ _
    rw [List.length_append, List.length_cons]
    omega
theorem secOk_heads {S : Sec} (h : SecOk S) : ∀ r ∈ secHeads S, CsOk r.2.2 := by
  intro r hr
  rcases List.mem_cons.mp hr with rfl | hr
  · exact h.2.1
  · obtain ⟨p, hp, rfl⟩ := List.mem_map.mp hr
    exact (h.2.2.2 p hp).2
theorem secOk_facts {S : Sec} (h : SecOk S) (j : Bool) : S.2.2.length ≤ 1000 ∧ (∀ r ∈ secHeads S, r.2.2.length ≤ 1000 ∧ ∀ c ∈ r.2.2, c ≤ 1000 ∧ c ≠ 0) ∧ (headsTok j (secHeads S)).length ≤ 27 := by
  have h1 := secOk_heads h
  have h2 := h.2.2.1
  refine ⟨by omega, fun r hr => ⟨by have := (h1 r hr).1; omega, fun c hc => by have := (h1 r hr).2 c hc; omega⟩, ?_⟩
  have h3 := headsTok_len j (secHeads S) h1
  have h4 : (secHeads S).length = S.2.2.length + 1 := by unfold secHeads; rw [List.length_cons, List.length_map]
  omega
noncomputable def T431L (led : Led) (a : Array Value) : Prop := T431P #[] a led
theorem T431L.heap {g h : Heap} {L : Addr} {led news : Led} {a : Array Value} (x : T431L led a) (M : News g L h news) (k : ∀ p ∈ led, p ∈ news) : T431 h a := by
  have N : News g L h led := fun p hp => M p (k p hp)
  rcases x with x | ⟨c', oc, vs, t, e1, e2, e3, e4⟩
  · exact .inl x
  · exact .inr ⟨c', e1, c', oc, vs, t, rfl, N.get e2, e3, e4⟩
theorem T431P.led {a b : Array Value} {nw led : Led} (x : T431P a b nw) (y : T431L led a) (k1 : ∀ p ∈ nw, p ∈ led) : T431L led b := by
  rcases x with rfl | x
  · exact y
  · exact (T431P.mono (.inr x) k1)
noncomputable def NameOk (w : World) (nm : Str) : Prop := nm.length ≤ 100 ∧ Free w nm ∧ (nm == Str.ofString "END") = false ∧ (nm == Str.ofString "IDENTIFICATION") = false ∧ (nm == Str.ofString "ID") = false
theorem cnts_ok {w : World} {cs : List Nat} (h : CsOk cs) (j : Bool) : ∀ u ∈ cnts j cs, UnOk w u := by
  intro u hu
  cases j with
  | false =>
    obtain ⟨c, hc, rfl⟩ := List.mem_map.mp hu
    have := h.2 c hc
    exact ⟨this.1, by omega⟩
  | true =>
    obtain ⟨h1, h2⟩ := h
    match cs, h1, h2, hu with
    | [], _, _, hu => exact nomatch hu
    | [a], _, h2, hu =>
      have e : u = .sent [a].sum := List.mem_singleton.mp hu
      have := h2 a (.head _)
      rw [e]
      exact ⟨by simp; omega, by simp; omega⟩
    | [a, b], _, h2, hu =>
      have e : u = .sent [a, b].sum := List.mem_singleton.mp hu
      have := h2 a (.head _)
      have := h2 b (.tail _ (.head _))
      rw [e]
      exact ⟨by simp; omega, by simp; omega⟩
    | a :: b :: c :: r, h1, _, _ => exact absurd h1 (by simp)
theorem secUns_ok {w : World} (hs : ∀ i, i < 4 → NameOk w (nmS i)) (hp : ∀ t, t < 2 → NameOk w (nmP t)) {S : Sec} (h : SecOk S) (j : Bool) : ∀ u ∈ secUns j S, UnOk w u := by
  obtain ⟨⟨i, hi, e⟩, h2, h3, h4⟩ := h
  intro u hu
  rcases List.mem_append.mp hu with hu | hu
  · rcases List.mem_cons.mp hu with rfl | hu
    · rw [e]; exact hs i hi
    · exact cnts_ok h2 j u hu
  · obtain ⟨p, hp', hu⟩ := List.mem_flatMap.mp hu
    obtain ⟨⟨t, ht, e2⟩, h5⟩ := h4 p hp'
    rcases List.mem_cons.mp hu with rfl | hu
    · rw [e2]; exact hp t ht
    · exact cnts_ok h5 j u hu
theorem news_join {g h : Heap} {L : Addr} {a b : Led} (N : News g L h a) (M : News g L h b) : News g L h (a ++ b) := fun p hp => (List.mem_append.mp hp).elim (N p) (M p)
section
variable {prog : Program} {w : World} {dp un : Nat} {fr : Option (List Env)} {gd : Option (List Code)} {s : Shared} {g : Heap} {p : Program} {loose : List Str} {mean : ExcName → Option Value} {mg mb : Str → Option Value}
variable {Q E : Value → Shared → Prop} {L l : Addr} {m : Str → Option Value} {news nw : Led} {sv : Value} {S : Sec} {j : Bool} {vs : List Value} {nl : Nat} {ts : List Tk} {us : List Un} {ps ps2 : Array Value}
theorem laid_n (X : (K w.params).In g) (T : Top p loose mean mg mb g) (F : Fr g L s.heap m) (N : News g L s.heap news) (hd : dp + 10 < recursionLimit) (hu : un + 200 < cLine) (hS : SecIn news sv S) (ho : SecOk S)
    (h : ∀ q vs nq nw h' tk', Fr g L h' m → News g L h' news → News g L h' nw → (∀ p ∈ nw, AllNe p.1 news) → (q, listOf (List.toArray vs) nq) ∈ nw → ToksIn w nw vs (unsTok (secUns j S)) → Q (.ref q) { s with heap := h', toks := tk' }) :
    wpAny (model prog w) (Ar dp fr gd un) (call (.ref 429) [sv, .bool j]) Q E s := by
  have f := secOk_facts ho j
  refine laid_c X T F.keep hd hu (has_of N) (fun p hp => (N p hp).2.2) hS f.1 f.2.1 (by have := f.2.2; omega) fun q vs nq nw h' tk' hE hH hF hm hT => ?_
  have G := fresh_all F N hF
  exact h q vs nq nw h' tk' (Fr.keeps F hE) (News.keeps N hE) (fun p hp => ⟨hH p hp, (G p hp).1, (G p hp).2.1⟩) (fun p hp => (G p hp).2.2) hm (headsTok_un j S ▸ hT)
theorem rows_n (X : (K w.params).In g) (T : Top p loose mean mg mb g) (F : Fr g L s.heap m) (N : News g L s.heap news) (hd : dp + 40 < recursionLimit) (hu : un + 400 < cLine) (NW : News g L s.heap nw) (hne : ∀ p ∈ nw, AllNe p.1 news)
    (hl : (l, listOf (List.toArray vs) nl) ∈ nw) (htk : ToksIn w nw vs (unsTok us)) (hfew : (unsTok us).length < 2 ^ 20) (hok : ∀ u ∈ us, UnOk w u) (h1 : (73, tabObj ps) ∈ news) (hT1 : T73 ps) (h2 : (431, tabObj ps2) ∈ news) (hT2 : T431 s.heap ps2) (hc1 : CodeHd g 77 73) (hc2 : CodeHd g 433 431)
    (h : ∀ q vs' nq nw' ps' ps2' h' tk', T73 ps' → T431P ps2 ps2' nw' → Fr g L h' m → (∀ news2 news', Upd 73 (tabObj ps) (tabObj ps') news news2 → Upd 431 (tabObj ps2) (tabObj ps2') news2 news' → News g L h' news') → News g L h' nw' → (∀ p ∈ nw', AllNe p.1 news) → (q, listOf (List.toArray vs') nq) ∈ nw' → ToldsIn nw' vs' (unRows us) → Q (.ref q) { s with heap := h', toks := tk' }) :
    wpAny (model prog w) (Ar dp fr gd un) (call (.ref 434) [.ref l]) Q E s := by
  refine law_rows_c X T F.keep hd hu (has_of NW) hl htk hfew (fun q hq => Ne.symm (allNe_mem (hne q hq) _ h1)) (fun q hq => Ne.symm (allNe_mem (hne q hq) _ h2)) (N _ h1).2.2 (N _ h2).2.2 (N.get h1) hT1 (N.get h2) hT2 hc1 hc2 rfl hok
    fun q vs' nq nw' ps' ps2' h' tk' hB a1 a2 a3 a4 a5 a6 a7 a8 => ?_
  have G := fresh_all F N a6
  exact h q vs' nq nw' ps' ps2' h' tk' a2 a4 (fr_two F N h1 h2 hB) (fun n2 n' U1 U2 => news_two N U1 U2 hB a1 a3) (fun p hp => ⟨a5 p hp, (G p hp).1, (G p hp).2.1⟩) (fun p hp => (G p hp).2.2) a7 a8
end
theorem ne_cell {g h : Heap} {L a b : Addr} {o o' : Obj} {news : Led} {c : Option Value} (N : News g L h news) (m1 : (a, o) ∈ news) (m2 : (b, o') ∈ news) (hc : ∀ c, o.data ≠ .cell c) (hd : o'.data = .cell c) : @Ne Nat a b := fun e => by
  have x := N.get m1
  rw [show a = b from e, N.get m2] at x
  exact hc c (by rw [← Option.some.inj x]; exact hd)
/-- so many numbers from 0 to 100 -/
inductive NumsAre : List Value → Nat → Prop
  | nil : NumsAre [] 0
  | cons {x : Int} {t : Tok} {vs n} : 0 ≤ x → x ≤ 100 → NumsAre vs n → NumsAre (.int x t :: vs) (n + 1)
theorem NumsAre.length {vs : List Value} {n : Nat} (h : NumsAre vs n) : vs.length = n := by
  induction h with
  | nil => rfl
  | cons _ _ _ ih => rw [List.length_cons, ih]
theorem NumsAre.app {vs us : List Value} {n k : Nat} (h : NumsAre vs n) (g : NumsAre us k) : NumsAre (vs ++ us) (n + k) := by
  induction h with
  | nil => rw [Nat.zero_add]; exact g
  | cons a b _ ih => rw [Nat.succ_add]; exact .cons a b ih
theorem NumsAre.snoc {vs : List Value} {n : Nat} {x : Int} {t : Tok} (h : NumsAre vs n) (h1 : 0 ≤ x) (h2 : x ≤ 100) : NumsAre (vs ++ [.int x t]) (n + 1) := h.app (.cons h1 h2 .nil)
theorem NumsAre.ints {vs : List Value} {n : Nat} (h : NumsAre vs n) : ∃ xs : List Int, IntsAre vs xs ∧ xs.length = n ∧ ∀ x ∈ xs, 0 ≤ x ∧ x ≤ 1000 := by
  induction h with
  | nil => exact ⟨[], .nil, rfl, fun _ h => nomatch h⟩
  | @cons x t vs n a b _ ih =>
    obtain ⟨xs, h1, h2, h3⟩ := ih
    refine ⟨x :: xs, .cons _ _ h1, by rw [List.length_cons, h2], fun y hy => ?_⟩
    rcases List.mem_cons.mp hy with rfl | hy
    · omega
    · exact h3 y hy
theorem NumsAre.drop {vs : List Value} {n : Nat} (h : NumsAre vs n) : ∀ k, NumsAre (vs.drop k) (n - k) := by
  induction h with
  | nil => intro k; rw [List.drop_nil, Nat.zero_sub]; exact .nil
  | cons a b c ih => intro k; cases k with | zero => exact .cons a b c | succ k => rw [Nat.succ_sub_succ]; exact ih k
section
variable {prog : Program} {w : World} {A : Around} {E : Value → Shared → Prop} {s : Shared} {g h : Heap} {L D : Addr} {m : Str → Option Value} {news news' : Led} {us : List Value} {n q : Nat}
theorem pop_n {u : Tok} {Q : Value → Shared → Prop} (F : Fr g L s.heap m) (N : News g L s.heap news) (U : Upd D (listOf us.toArray n) (listOf us.tail.toArray (n + 1)) news news') (hN : NumsAre us q) (hq : 1 ≤ q) (hz : q ≤ 1000)
    (h : ∀ x t h', 0 ≤ x → x ≤ 100 → NumsAre us.tail (q - 1) → Fr g L h' m → News g L h' news' → Q (.int x t) { s with heap := h' }) : wpAny (model prog w) A (call (.builtin "list.pop") [.ref D, .int 0 u]) Q E s := by
  cases hN with
  | nil => exact absurd hq (by decide)
  | @cons x t vs k a b c =>
    exact pop0 F N U (by rw [c.length]; omega) fun h' F' N' => h x t h' a b c F' N'
end
section
variable {prog : Program} {w : World} {dp un : Nat} {fr : Option (List Env)} {gd : Option (List Code)} {s : Shared} {h₀ : Heap} {p : Program} {loose : List Str} {mean : ExcName → Option Value} {mg mb : Str → Option Value}
variable {Q E : Value → Shared → Prop} {nA : Addr} {vs : List Value} {n q : Nat} {tk0 : Tok}
theorem sentences_n (X : (K w.params).In h₀) (T : Top p loose mean mg mb h₀) (k₀ : Ext h₀ s.heap) (hd : dp + 4 < recursionLimit) (hu : un + 100 < cLine)
    (H : s.heap.get? nA = some (listOf (List.toArray vs) n)) (hN : NumsAre vs q) (h3 : 3 ≤ q) (hz : q ≤ 1000) (hf : h₀.get? nA = none)
    (h : ∀ r ws nq n' vs' q' cs h' tk', ExtB [nA] s.heap h' → h'.get? nA = some (listOf (List.toArray vs') n') → NumsAre vs' q' → q ≤ q' + 3 → q' ≤ q → s.heap.get? r = none → h'.get? r = some (listOf (List.toArray ws) nq) → IntsAre ws (cntI cs) → cs.length ≤ 2 → (∀ c ∈ cs, 1 ≤ c ∧ c ≤ 2) → Q (.ref r) { s with heap := h', toks := tk' }) :
    wpAny (model prog w) (Ar dp fr gd un) (call (.ref 424) [.ref nA, .int 0 tk0]) Q E s := by
  obtain ⟨xs, h1, h2, h4⟩ := hN.ints
  exact sentences_c X T k₀ hd hu H h1 (by rw [h2]; exact h3) (by rw [h2]; exact hz) h4 hf fun r ws nq n' cs h' tk' a1 a2 a3 a4 a5 a6 a7 => h r ws nq n' _ _ cs h' tk' a1 a2 (hN.drop _) (by omega) (by omega) a3 a4 a5 a6 a7
end
theorem off3_app {I C D : Addr} {a b : Led} (h1 : ∀ p ∈ a, p.1 ≠ I ∧ p.1 ≠ C ∧ p.1 ≠ D) (h2 : LCg.Off3 I C D b) : LCg.Off3 I C D (a ++ b) := LCg.Off3.of fun p hp => (List.mem_append.mp hp).elim (h1 p) (h2.mem p)
theorem subJ {I C D s n a b c d : Addr × Obj} {nw R : Led} : ∀ p ∈ I :: C :: D :: s :: n :: a :: b :: c :: d :: (nw ++ R), p ∈ (I :: C :: D :: s :: n :: a :: b :: c :: d :: R) ++ nw := by
  intro p hp
  simp only [List.mem_append, List.mem_cons] at hp ⊢
  rcases hp with y | y | y | y | y | y | y | y | y | y | y
  · exact .inl (.inl y)
  · exact .inl (.inr (.inl y))
  · exact .inl (.inr (.inr (.inl y)))
  · exact .inl (.inr (.inr (.inr (.inl y))))
  · exact .inl (.inr (.inr (.inr (.inr (.inl y)))))
  · exact .inl (.inr (.inr (.inr (.inr (.inr (.inl y))))))
  · exact .inl (.inr (.inr (.inr (.inr (.inr (.inr (.inl y)))))))
  · exact .inl (.inr (.inr (.inr (.inr (.inr (.inr (.inr (.inl y))))))))
  · exact .inl (.inr (.inr (.inr (.inr (.inr (.inr (.inr (.inr (.inl y)))))))))
  · exact .inr y
  · exact .inl (.inr (.inr (.inr (.inr (.inr (.inr (.inr (.inr (.inr y)))))))))
/-- a list of rows told -/
inductive PartIn (ld : Led) (v : Value) (rs : List RowD) : Prop
  | mk : ∀ q nq vs, v = Value.ref q → (q, listOf (List.toArray vs) nq) ∈ ld → ToldsIn ld vs rs → PartIn ld v rs
inductive PartsIn (ld : Led) : List Value → List (List RowD) → Prop
  | nil : PartsIn ld [] []
  | cons {v vs r rs} : PartIn ld v r → PartsIn ld vs rs → PartsIn ld (v :: vs) (r :: rs)
theorem PartIn.mono {tl tl' : Led} {v : Value} {r : List RowD} (x : PartIn tl v r) (k : ∀ p ∈ tl, p ∈ tl') : PartIn tl' v r := let ⟨q, nq, vs, e, a, b⟩ := x; ⟨q, nq, vs, e, k _ a, b.mono k⟩
theorem PartsIn.mono {tl tl' : Led} {vs : List Value} {rs : List (List RowD)} (x : PartsIn tl vs rs) (k : ∀ p ∈ tl, p ∈ tl') : PartsIn tl' vs rs := by
  induction x with
  | nil => exact .nil
  | cons a _ ih => exact .cons (a.mono k) ih
theorem PartsIn.snoc {tl : Led} {vs : List Value} {rs : List (List RowD)} {v : Value} {r : List RowD} (x : PartsIn tl vs rs) (y : PartIn tl v r) : PartsIn tl (vs ++ [v]) (rs ++ [r]) := by
  induction x with
  | nil => exact .cons y .nil
  | cons a _ ih => exact .cons a ih
theorem PartsIn.length {tl : Led} {vs : List Value} {rs : List (List RowD)} (x : PartsIn tl vs rs) : vs.length = rs.length := by
  induction x with
  | nil => rfl
  | cons _ _ ih => rw [List.length_cons, List.length_cons, ih]
theorem PartsIn.get {tl : Led} {vs : List Value} {rs : List (List RowD)} (x : PartsIn tl vs rs) : ∀ {i : Nat} {v : Value}, vs[i]? = some v → ∃ r, rs[i]? = some r ∧ PartIn tl v r := by
  induction x with
  | nil => intro i v e; simp at e
  | cons a _ ih =>
    intro i v e
    cases i with
    | zero => simp at e; subst e; exact ⟨_, rfl, a⟩
    | succ i => exact ih (i := i) (by simpa using e)
theorem sub61 {r a b c d e f : Addr × Obj} {tl : Led} : ∀ p ∈ a :: b :: c :: d :: e :: f :: r :: tl, p ∈ r :: a :: b :: c :: d :: e :: f :: tl := by
  intro p hp
  simp only [List.mem_cons] at hp ⊢
  rcases hp with y | y | y | y | y | y | y | y
  · exact .inr (.inl y)
  · exact .inr (.inr (.inl y))
  · exact .inr (.inr (.inr (.inl y)))
  · exact .inr (.inr (.inr (.inr (.inl y))))
  · exact .inr (.inr (.inr (.inr (.inr (.inl y)))))
  · exact .inr (.inr (.inr (.inr (.inr (.inr (.inl y))))))
  · exact .inl y
  · exact .inr (.inr (.inr (.inr (.inr (.inr (.inr y))))))
/-! the rows as data -/
noncomputable abbrev rowD (r : RowD) : PyData := .tuple [.str r.1, .str r.2.1, .tuple (List.replicate r.2.2 contD)]
noncomputable abbrev rowsD (rs : List RowD) : PyData := .list (rs.map rowD)
theorem told_rds {h : Heap} {led : Led} (H : Has h led) {v : Value} {r : RowD} (x : ToldIn led v r) : Rds h v (rowD r) := by
  obtain ⟨q, nq, e, ne, u1, u2, ss, rfl, a1, a2, a3, a4⟩ := x
  have y := conts_rds H a4
  rw [a3] at y
  exact Rds.tup (H _ a1) (RdsA.cons Rds.str (RdsA.cons Rds.str (RdsA.cons (Rds.tup (H _ a2) y) RdsA.nil)))
theorem tolds_rds {h : Heap} {led : Led} (H : Has h led) {vs : List Value} {rs : List RowD} (x : ToldsIn led vs rs) : RdsA h vs (rs.map rowD) := by
  induction x with
  | nil => exact RdsA.nil
  | cons a _ ih => exact RdsA.cons (told_rds H a) ih
noncomputable def RowsOk (rs : List RowD) : Prop := ∀ r ∈ rs, PyData.canLay0 (.str r.1) = true ∧ PyData.canLay0 (.str r.2.1) = true
theorem conts_lay (n : Nat) : PyData.canLayAll0 (List.replicate n contD) = true := by
  induction n with
  | zero => rfl
  | succ n ih => rw [List.replicate_succ]; simp only [PyData.canLayAll0, ih, Bool.and_true]; decide +kernel
theorem conts_dep (n : Nat) : PyData.depthAll (List.replicate n contD) ≤ 2 := by
  induction n with
  | zero => exact Nat.zero_le _
  | succ n ih => rw [List.replicate_succ]; simp only [PyData.depthAll]; exact Nat.max_le.mpr ⟨by decide +kernel, ih⟩
theorem row_lay {r : RowD} (h : PyData.canLay0 (.str r.1) = true ∧ PyData.canLay0 (.str r.2.1) = true) : PyData.canLay0 (rowD r) = true := by
  simp only [PyData.canLay0, PyData.canLayAll0] at h ⊢
  rw [h.1, h.2, conts_lay]; rfl
theorem rows_shaped {rs : List RowD} (h : RowsOk rs) : SeqAt.shaped (rowsD rs) = true := by
  have h1 : PyData.canLayAll0 (rs.map rowD) = true := by
    induction rs with
    | nil => rfl
    | cons r rs ih =>
      rw [List.map_cons]
      simp only [PyData.canLayAll0]
      rw [row_lay (h r (.head _)), ih fun x hx => h x (.tail _ hx)]; rfl
  have h2 : ∀ rs : List RowD, PyData.depthAll (rs.map rowD) ≤ 10 := by
    intro rs
    induction rs with
    | nil => exact Nat.zero_le _
    | cons r rs ih =>
      rw [List.map_cons]
      simp only [PyData.depthAll]
      refine Nat.max_le.mpr ⟨?_, ih⟩
      simp only [PyData.depth, PyData.depthAll]
      have := conts_dep r.2.2
      omega
  simp only [SeqAt.shaped, PyData.canLay0, h1, PyData.depth, Bool.true_and]
  have := h2 rs
  exact decide_eq_true (by omega)
section
variable {prog : Program} {w : World} {A : Around} {E : Value → Shared → Prop} {s : Shared} {g : Heap} {L a b : Addr} {news nw1 nw2 : Led} {vs us : List Value} {na nb : Nat} {rs : List RowD}
/-- two lists of the same rows are not unequal -/
theorem ne_rows {Q : Value → Shared → Prop} (N1 : News g L s.heap nw1) (N2 : News g L s.heap nw2) (h1 : (a, listOf (List.toArray vs) na) ∈ nw1) (h2 : (b, listOf (List.toArray us) nb) ∈ nw2) (t1 : ToldsIn nw1 vs rs) (t2 : ToldsIn nw2 us rs) (ho : RowsOk rs) (hu : A.units + 64 < cLine) (h : Q (.bool false) s) :
    wpAny (model prog w) A (compareOp .NotEq (.ref a) (.ref b)) Q E s := by
  obtain ⟨as, ra⟩ : Rds s.heap (.ref a) (rowsD rs) := Rds.lst (N1.get h1) (tolds_rds (has_of N1) t1)
  obtain ⟨bs, rb⟩ : Rds s.heap (.ref b) (rowsD rs) := Rds.lst (N2.get h2) (tolds_rds (has_of N2) t2)
  refine ne_dataH ra rb (rows_shaped ho) (rows_shaped ho) hu ?_
  have e := PySem.SeqAt.eqv_refl (rowsD rs) (SeqAt.canLay_of_shaped (rows_shaped ho))
  rw [e]; exact h
theorem eq_rows {Q : Value → Shared → Prop} (N1 : News g L s.heap nw1) (N2 : News g L s.heap nw2) (h1 : (a, listOf (List.toArray vs) na) ∈ nw1) (h2 : (b, listOf (List.toArray us) nb) ∈ nw2) (t1 : ToldsIn nw1 vs rs) (t2 : ToldsIn nw2 us rs) (ho : RowsOk rs) (hu : A.units + 64 < cLine) (h : Q (.bool true) s) :
    wpAny (model prog w) A (compareOp .Eq (.ref a) (.ref b)) Q E s := by
  obtain ⟨as, ra⟩ : Rds s.heap (.ref a) (rowsD rs) := Rds.lst (N1.get h1) (tolds_rds (has_of N1) t1)
  obtain ⟨bs, rb⟩ : Rds s.heap (.ref b) (rowsD rs) := Rds.lst (N2.get h2) (tolds_rds (has_of N2) t2)
  refine eq_dataH ra rb (rows_shaped ho) (rows_shaped ho) hu ?_
  have e := PySem.SeqAt.eqv_refl (rowsD rs) (SeqAt.canLay_of_shaped (rows_shaped ho))
  rw [e]; exact h
end
section
variable {prog : Program} {w : World} {dp un : Nat} {fr : Option (List Env)} {gd : Option (List Code)} {s : Shared} {g : Heap} {p : Program} {loose : List Str} {mean : ExcName → Option Value} {mg mb : Str → Option Value}
variable {Q E : Value → Shared → Prop} {L l : Addr} {m : Str → Option Value} {news R : Led} {vs : List Value} {nl : Nat} {us : List Un} {ps ps2 : Array Value}
/-- _law_rows of a list of tokens that the ledger holds -/
theorem rows_m (X : (K w.params).In g) (T : Top p loose mean mg mb g) (F : Fr g L s.heap m) (N : News g L s.heap news) (hd : dp + 40 < recursionLimit) (hu : un + 400 < cLine) (hs : ∀ p ∈ R, p ∈ news) (hn1 : ∀ p ∈ R, p.1 ≠ 73) (hn2 : ∀ p ∈ R, p.1 ≠ 431)
    (hl : (l, listOf (List.toArray vs) nl) ∈ R) (htk : ToksIn w R vs (unsTok us)) (hfew : (unsTok us).length < 2 ^ 20) (hok : ∀ u ∈ us, UnOk w u) (h1 : (73, tabObj ps) ∈ news) (hT1 : T73 ps) (h2 : (431, tabObj ps2) ∈ news) (hT2 : T431 s.heap ps2) (hc1 : CodeHd g 77 73) (hc2 : CodeHd g 433 431)
    (h : ∀ q vs' nq nw' ps' ps2' h' tk', T73 ps' → T431P ps2 ps2' nw' → Fr g L h' m → (∀ news2 news', Upd 73 (tabObj ps) (tabObj ps') news news2 → Upd 431 (tabObj ps2) (tabObj ps2') news2 news' → News g L h' news') → News g L h' nw' → (∀ p ∈ nw', AllNe p.1 news) → (q, listOf (List.toArray vs') nq) ∈ nw' → ToldsIn nw' vs' (unRows us) → Q (.ref q) { s with heap := h', toks := tk' }) :
    wpAny (model prog w) (Ar dp fr gd un) (call (.ref 434) [.ref l]) Q E s := by
  refine law_rows_c X T F.keep hd hu (ld := R) (fun q hq => (N q (hs q hq)).1) hl htk hfew hn1 hn2 (N _ h1).2.2 (N _ h2).2.2 (N.get h1) hT1 (N.get h2) hT2 hc1 hc2 rfl hok
    fun q vs' nq nw' ps' ps2' h' tk' hB a1 a2 a3 a4 a5 a6 a7 a8 => ?_
  have G := fresh_all F N a6
  exact h q vs' nq nw' ps' ps2' h' tk' a2 a4 (fr_two F N h1 h2 hB) (fun n2 n' U1 U2 => news_two N U1 U2 hB a1 a3) (fun p hp => ⟨a5 p hp, (G p hp).1, (G p hp).2.1⟩) (fun p hp => (G p hp).2.2) a7 a8
end
/-! the plain law: the rows of laid sections -/
noncomputable def rowsOf (S : Sec) : List RowD := (Str.ofString "", S.1, S.2.1.sum) :: S.2.2.map fun p => (p.1, S.1, p.2.sum)
noncomputable def runFrom (st : List RowD × RowD) (us : List Un) : List RowD × RowD := us.foldl unStep st
noncomputable def allOf (st : List RowD × RowD) : List RowD := st.1 ++ [st.2]
theorem runFrom_app (st : List RowD × RowD) (a b : List Un) : runFrom st (a ++ b) = runFrom (runFrom st a) b := by unfold runFrom; rw [List.foldl_append]
theorem runFrom_cnts (j : Bool) (cs : List Nat) (st : List RowD × RowD) : runFrom st (cnts j cs) = (st.1, (st.2.1, st.2.2.1, st.2.2.2 + cs.sum)) := by
  cases j with
  | true =>
    cases cs with
    | nil => rfl
    | cons c cs => rfl
  | false =>
    show (cs.map Un.sent).foldl unStep st = _
    induction cs generalizing st with
    | nil => rfl
    | cons c cs ih =>
      show (cs.map Un.sent).foldl unStep (unStep st (.sent c)) = _
      rw [ih]
      show (st.1, (st.2.1, st.2.2.1, st.2.2.2 + c + cs.sum)) = (st.1, (st.2.1, st.2.2.1, st.2.2.2 + (c :: cs).sum))
      rw [List.sum_cons, Nat.add_assoc]
theorem runFrom_paras (j : Bool) (ps : List (Str × List Nat)) : ∀ st : List RowD × RowD, allOf (runFrom st (ps.flatMap fun p => .par p.1 :: cnts j p.2)) = allOf st ++ (ps.map fun p => (p.1, st.2.2.1, p.2.sum)) ∧ (runFrom st (ps.flatMap fun p => .par p.1 :: cnts j p.2)).2.2.1 = st.2.2.1 := by
  induction ps with
  | nil => intro st; exact ⟨(List.append_nil _).symm, rfl⟩
  | cons p ps ih =>
    intro st
    rw [List.flatMap_cons, runFrom_app]
    have e : runFrom st (.par p.1 :: cnts j p.2) = (st.1 ++ [st.2], (p.1, st.2.2.1, 0 + p.2.sum)) := by
      show runFrom (unStep st (.par p.1)) (cnts j p.2) = _
      rw [runFrom_cnts]; rfl
    rw [e, Nat.zero_add]
    obtain ⟨h1, h2⟩ := ih (st.1 ++ [st.2], (p.1, st.2.2.1, p.2.sum))
    refine ⟨?_, h2⟩
    rw [h1, List.map_cons]
    show (st.1 ++ [st.2]) ++ [_] ++ _ = (st.1 ++ [st.2]) ++ (_ :: _)
    rw [List.append_assoc]; rfl
theorem runFrom_sec (j : Bool) (S : Sec) (st : List RowD × RowD) : allOf (runFrom st (secUns j S)) = allOf st ++ rowsOf S ∧ (runFrom st (secUns j S)).2.2.1 = S.1 := by
  unfold secUns
  rw [runFrom_app]
  have e : runFrom st (.sec S.1 :: cnts j S.2.1) = (st.1 ++ [st.2], (Str.ofString "", S.1, 0 + S.2.1.sum)) := by
    show runFrom (unStep st (.sec S.1)) (cnts j S.2.1) = _
    rw [runFrom_cnts]; rfl
  rw [e, Nat.zero_add]
  obtain ⟨h1, h2⟩ := runFrom_paras j S.2.2 (st.1 ++ [st.2], (Str.ofString "", S.1, S.2.1.sum))
  refine ⟨?_, h2⟩
  rw [h1]
  show (st.1 ++ [st.2]) ++ [_] ++ _ = (st.1 ++ [st.2]) ++ (_ :: _)
  rw [List.append_assoc]; rfl
/-- the section that stands at the end -/
noncomputable def secName : List Sec → Str → Str
  | [], x => x
  | S :: Ss, _ => secName Ss S.1
theorem runFrom_secs (j : Bool) : ∀ (Ss : List Sec) (st : List RowD × RowD), allOf (runFrom st (Ss.flatMap (secUns j))) = allOf st ++ Ss.flatMap rowsOf ∧ (runFrom st (Ss.flatMap (secUns j))).2.2.1 = secName Ss st.2.2.1
  | [], st => ⟨(List.append_nil _).symm, rfl⟩
  | S :: Ss, st => by
    rw [List.flatMap_cons, runFrom_app, List.flatMap_cons]
    obtain ⟨h1, h2⟩ := runFrom_sec j S st
    obtain ⟨h3, h4⟩ := runFrom_secs j Ss (runFrom st (secUns j S))
    exact ⟨by rw [h3, h1, List.append_assoc], by rw [h4, h2]; rfl⟩
theorem unRows_of {us : List Un} {rs : List RowD} (h : allOf (runFrom unStart us) = allOf unStart ++ rs) : unRows us = rs := by
  have e : unAll us = (Str.ofString "", Str.ofString "", 0) :: rs := h
  unfold unRows
  rw [e]
  rfl
theorem unRows_secs (j : Bool) (Ss : List Sec) : unRows (Ss.flatMap (secUns j)) = Ss.flatMap rowsOf := unRows_of (runFrom_secs j Ss unStart).1
theorem unRows_sec (j : Bool) (S : Sec) : unRows (secUns j S) = rowsOf S := unRows_of (runFrom_sec j S unStart).1
theorem unRows_more (A B : List Sec) (nm : Str) : unRows (A.flatMap (secUns false) ++ .par nm :: B.flatMap (secUns false)) = A.flatMap rowsOf ++ [(nm, secName A (Str.ofString ""), 0)] ++ B.flatMap rowsOf := by
  refine unRows_of ?_
  rw [runFrom_app]
  obtain ⟨h1, h2⟩ := runFrom_secs false A unStart
  have e : ∀ st : List RowD × RowD, runFrom st (.par nm :: B.flatMap (secUns false)) = runFrom (unStep st (.par nm)) (B.flatMap (secUns false)) := fun _ => rfl
  rw [e, (runFrom_secs false B _).1]
  show allOf (runFrom unStart (A.flatMap (secUns false))) ++ [(nm, (runFrom unStart (A.flatMap (secUns false))).2.2.1, 0)] ++ B.flatMap rowsOf = _
  rw [h1, h2]
  simp only [List.append_assoc]
  rfl
/-! what the law's end wants -/
theorem lay_S : ∀ i, i < 4 → PyData.canLay0 (.str (nmS i)) = true := by
  intro i hi
  match i, hi with
  | 0, _ => decide +kernel
  | 1, _ => decide +kernel
  | 2, _ => decide +kernel
  | 3, _ => decide +kernel
theorem lay_P : ∀ i, i < 2 → PyData.canLay0 (.str (nmP i)) = true := by
  intro i hi
  match i, hi with
  | 0, _ => decide +kernel
  | 1, _ => decide +kernel
theorem lay_0 : PyData.canLay0 (.str (Str.ofString "")) = true := by decide +kernel
theorem lay_N : PyData.canLay0 (.str (Str.ofString "NEW-1")) = true := by decide +kernel
theorem secName_lay {S : Sec} (h : SecOk S) : PyData.canLay0 (.str S.1) = true := by
  obtain ⟨⟨i, hi, e⟩, _⟩ := h
  rw [e]; exact lay_S i hi
theorem rowsOf_ok {S : Sec} (h : SecOk S) : RowsOk (rowsOf S) := by
  have h1 := secName_lay h
  intro r hr
  rcases List.mem_cons.mp hr with rfl | hr
  · exact ⟨lay_0, h1⟩
  · obtain ⟨p, hp, rfl⟩ := List.mem_map.mp hr
    obtain ⟨⟨t, ht, e⟩, _⟩ := h.2.2.2 p hp
    exact ⟨by rw [e]; exact lay_P t ht, h1⟩
theorem rowsOf_oks {Ts : List Sec} (h : ∀ S ∈ Ts, SecOk S) : RowsOk (Ts.flatMap rowsOf) := by
  intro r hr
  obtain ⟨S, hS, hr⟩ := List.mem_flatMap.mp hr
  exact rowsOf_ok (h S hS) r hr
theorem uns_oks {w : World} (hs : ∀ i, i < 4 → NameOk w (nmS i)) (hp : ∀ t, t < 2 → NameOk w (nmP t)) {Ts : List Sec} (h : ∀ S ∈ Ts, SecOk S) (j : Bool) : ∀ u ∈ Ts.flatMap (secUns j), UnOk w u := by
  intro u hu
  obtain ⟨S, hS, hu⟩ := List.mem_flatMap.mp hu
  exact secUns_ok hs hp (h S hS) j u hu
theorem uns_lens {Ts : List Sec} (h : ∀ S ∈ Ts, SecOk S) (j : Bool) : (unsTok (Ts.flatMap (secUns j))).length ≤ 27 * Ts.length := by
  induction Ts with
  | nil => exact Nat.le_refl _
  | cons S Ts ih =>
    have h1 := ih fun x hx => h x (.tail _ hx)
    have h2 : (unsTok (secUns j S)).length ≤ 27 := by rw [← headsTok_un]; exact (secOk_facts (h S (.head _)) j).2.2
    rw [List.flatMap_cons, uns_app, List.length_append, List.length_cons]
    omega
theorem uns_few {Ts : List Sec} (h : ∀ S ∈ Ts, SecOk S) (hz : Ts.length ≤ 4) (j : Bool) : (unsTok (Ts.flatMap (secUns j))).length < 2 ^ 20 := by
  have := uns_lens h j
  omega
theorem rowsOf_len {S : Sec} (h : SecOk S) : (rowsOf S).length ≤ 3 := by
  have := h.2.2.1
  show (_ :: List.map _ _).length ≤ 3
  rw [List.length_cons, List.length_map]; omega
theorem rowsOf_lens {Ts : List Sec} (h : ∀ S ∈ Ts, SecOk S) : (Ts.flatMap rowsOf).length ≤ 3 * Ts.length := by
  induction Ts with
  | nil => exact Nat.le_refl _
  | cons S Ts ih =>
    have h1 := ih fun x hx => h x (.tail _ hx)
    have h2 := rowsOf_len (h S (.head _))
    rw [List.flatMap_cons, List.length_append, List.length_cons]
    omega
section
open Sem (wp)
theorem noFill_tuple_mul : fillsNumberSlot (.type "tuple") "mul" = Pure.pure false :=
  PySem.fillsNumberSlot_seq (id := "tuple.__mul__") (r := some (.builtin "tuple.__rmul__")) F.slot_tuple_mul.lookup (by decide +kernel) F.slot_tuple_rmul.lookup (by decide +kernel)
theorem repeat_tuple : seqRepeat? (.type "tuple") = Pure.pure (some (.builtin "tuple.__mul__")) := by
  unfold seqRepeat?
  rw [PySem.seqSlot_of (T := "tuple") (name := "__mul__") (id := "tuple.__mul__") F.slot_tuple_mul.lookup (by decide +kernel), PySem.seqSlot_of (T := "tuple") (name := "__rmul__") (id := "tuple.__rmul__") F.slot_tuple_rmul.lookup (by decide +kernel)]
  rfl
theorem int_rmul_tup (a : Int) (t : Tok) (l : Addr) (items : Array Value) (n : Nat) :
    Meets (Builtin.«int.__rmul__» ⟨[.int a t, .ref l], []⟩) (fun _ R s => s.heap.get? l = some { cls := .type "tuple", dict := none, data := .seq items n, slots := #[] } ∧ R (.ok (.ret Value.notImplemented)) s) :=
  .of_wp fun prog w A R s h => by obtain ⟨hp, g, d, tk, os⟩ := s; obtain ⟨hl, h⟩ := h; wp_walk; exact ⟨_, rfl, h⟩
theorem tup_mul_1 (l : Addr) (items : Array Value) (n : Nat) (u : Tok) :
    Meets (Builtin.«tuple.__mul__» ⟨[.ref l, .int 1 u], []⟩) (fun _ R s => s.heap.get? l = some { cls := .type "tuple", dict := none, data := .seq items n, slots := #[] } ∧ R (.ok (.ret (.ref l))) s) :=
  .of_wp fun prog w A R s h => by obtain ⟨hp, g, d, tk, os⟩ := s; obtain ⟨hl, h⟩ := h; wp_walk; exact ⟨_, rfl, h⟩
theorem tup_mul_0 (l : Addr) (v : Value) (n : Nat) (u : Tok) :
    Meets (Builtin.«tuple.__mul__» ⟨[.ref l, .int 0 u], []⟩) (fun _ R s => s.heap.get? l = some { cls := .type "tuple", dict := none, data := .seq #[v] n, slots := #[] } ∧ R (.ok (.ret (Value.ref s.heap.objs.size))) { s with heap := s.heap.push { cls := Value.type "tuple", data := Data.seq #[] }, toks := s.toks }) :=
  .of_wp fun prog w A R s h => by obtain ⟨hp, g, d, tk, os⟩ := s; obtain ⟨hl, h⟩ := h; wp_walk; exact ⟨_, rfl, h⟩
theorem tup_mul_2 (l : Addr) (v : Value) (n : Nat) (x : Int) (u : Tok) (h1 : 2 ≤ x) (h2 : x ≤ 4) :
    Meets (Builtin.«tuple.__mul__» ⟨[.ref l, .int x u], []⟩) (fun _ R s => s.heap.get? l = some { cls := .type "tuple", dict := none, data := .seq #[v] n, slots := #[] } ∧ R (.ok (.ret (Value.ref s.heap.objs.size))) { s with heap := s.heap.push { cls := Value.type "tuple", data := Data.seq (List.replicate x.toNat v).toArray }, toks := s.toks }) := by
  obtain rfl | rfl | rfl : x = 2 ∨ x = 3 ∨ x = 4 := by omega
  · exact .of_wp fun prog w A R s h => by obtain ⟨hp, g, d, tk, os⟩ := s; obtain ⟨hl, h⟩ := h; wp_walk; exact ⟨_, rfl, h⟩
  · exact .of_wp fun prog w A R s h => by obtain ⟨hp, g, d, tk, os⟩ := s; obtain ⟨hl, h⟩ := h; wp_walk; exact ⟨_, rfl, h⟩
  · exact .of_wp fun prog w A R s h => by obtain ⟨hp, g, d, tk, os⟩ := s; obtain ⟨hl, h⟩ := h; wp_walk; exact ⟨_, rfl, h⟩
end
section
variable {prog : Program} {w : World} {A : Around} {E : Value → Shared → Prop} {s : Shared} {g h : Heap} {L t l : Addr} {m : Str → Option Value} {news : Led} {v : Value} {n : Nat}
theorem allLt_of {q : Addr} : ∀ {l : Led}, (∀ p ∈ l, @LT.lt Nat _ p.1 q) → AllLt q l
  | [], _ => trivial
  | _ :: _, h => ⟨h _ (.head _), allLt_of fun p hp => h p (.tail _ hp)⟩
/-- a tuple of one, some times over -/
theorem mul_tup {x : Int} {u : Tok} {Q : Value → Shared → Prop} {tl : Led} (Fm : Fr g L s.heap m) (N : News g L s.heap ((t, tupO [v] n) :: tl)) (lt : AllLt t tl) (h0 : 0 ≤ x) (h4 : x ≤ 4)
    (h : ∀ q nq h', Fr g L h' m → News g L h' ((q, tupO (List.replicate x.toNat v) nq) :: (t, tupO [v] n) :: tl) → AllLt q tl → Q (.ref q) { s with heap := h' }) :
    wpAny (model prog w) A (binaryOp .Mult (.ref t) (.int x u)) Q E s := by
  have hg := N.get (.head _)
  have lq : AllLt s.heap.objs.size tl := allLt_of fun p hp => Heap.lt_size (N p (.tail _ hp)).1
  refine wpAny_binaryOp_repeat_ref (T := "tuple") (U := "int") (by decide) ⟨_, hg, rfl⟩ (fun s' => typeIs_int s' x u) noFill_tuple_mul F.fills_int_mul F.slot_int_rmul repeat_tuple F.slot_int_index.lookup
    (call_meets F.slot_int_rmul (typeIs_int s x u) F.entry_int_rmul (F.args_int_rmul_2 _ _) (int_rmul_tup x u t #[v] n) ⟨hg, rfl, ⟨_, hg, rfl⟩, ?_⟩)
  by_cases h1 : x = 1
  · subst h1
    exact call_meets F.slot_tuple_mul ⟨_, hg, rfl⟩ F.entry_tuple_mul (F.args_tuple_mul_2 _ _) (tup_mul_1 t #[v] n u) ⟨hg, h t n s.heap Fm (fun p hp => by
      rcases List.mem_cons.mp hp with rfl | hp
      · exact N _ (.head _)
      · exact N p hp) lt⟩
  by_cases h2 : x = 0
  · subst h2
    exact call_meets F.slot_tuple_mul ⟨_, hg, rfl⟩ F.entry_tuple_mul (F.args_tuple_mul_2 _ _) (tup_mul_0 t v n u) ⟨hg, h _ _ _ (Fm.push _) (News.push Fm N _) lq⟩
  · exact call_meets F.slot_tuple_mul ⟨_, hg, rfl⟩ F.entry_tuple_mul (F.args_tuple_mul_2 _ _) (tup_mul_2 t v n x u (by omega) (by omega)) ⟨hg, h _ _ _ (Fm.push _) (News.push Fm N _) lq⟩
end
theorem news_sub {g h : Heap} {L : Addr} {a b : Led} (N : News g L h a) (k : ∀ p ∈ b, p ∈ a) : News g L h b := fun p hp => N p (k p hp)
theorem allNe_app {q : Addr} : ∀ {a b : Led}, AllNe q (a ++ b) → AllNe q a
  | [], _, _ => trivial
  | _ :: _, _, h => ⟨h.1, allNe_app h.2⟩
theorem mem_mid {a nw R R5 : Led} {p : Addr × Obj} (h : p ∈ a ++ R) (k : ∀ p ∈ R, p ∈ R5) : p ∈ a ++ (nw ++ R5) :=
  (List.mem_append.mp h).elim (fun y => List.mem_append_left _ y) fun y => List.mem_append_right _ (List.mem_append_right _ (k p y))
section
variable {prog : Program} {w : World} {dp un : Nat} {fr : Option (List Env)} {gd : Option (List Code)} {s : Shared} {g : Heap} {p : Program} {loose : List Str} {mean : ExcName → Option Value} {mg mb : Str → Option Value}
variable {L ax : Addr} {m : Str → Option Value} {fix R : Led} {its : List Value} {k : Nat} {Ts : List Sec} {env : Env} {i₂ : PySem.Expr} {x : Str} {scope : Scope} {cl : List (Str × Addr)} {Fin : Shared → List Value → Led → Prop} {j : Bool}
/-- [token for section in SECTIONS for token in _law_laid(section, j)] -/
theorem flat_src (j : Bool) (X : (K w.params).In g) (T : Top p loose mean mg mb g) (F : Fr g L s.heap m) (N : News g L s.heap (fix ++ R)) (hd : dp + 10 < recursionLimit) (hu : un + 200 < cLine) (hax : (ax, listOf its.toArray k) ∈ fix ++ R) (hS : SecsIn R its Ts) (hT : ∀ S ∈ Ts, SecOk S) (hz : Ts.length ≤ 4) (hfix : ∀ p ∈ R, AllNe p.1 fix)
    (ev : ∀ v I oI C oC D ys m₂ h tk nw (Q E : Value → Shared → Prop), LCg.NsObj oC m₂ → m₂ x = some v → Fr g L h m → News g L h ((I, oI) :: (C, oC) :: (D, LCg.lst ys) :: nw) → (∀ tk', wpAny (model prog w) (Ar dp fr gd un) (call (.ref 429) [v, .bool j]) Q E { s with heap := h, toks := tk' }) →
      wpAny (model prog w) (Ar dp fr gd un) (eval i₂ (compEnvC scope cl C env)) Q E { s with heap := h, toks := tk })
    (fin : ∀ ys R', (∀ p ∈ R, p ∈ R') → ToksIn w R' ys (unsTok (Ts.flatMap (secUns j))) → ys.length ≤ 108 → (∀ p ∈ R', AllNe p.1 fix) → Fin s ys (fix ++ R')) :
    SrcLF prog w (Ar dp fr gd un) g L m env i₂ x scope cl Fin (.ref ax) s := by
  refine SrcLF.ledger (fun i zs nw => ∃ R5, nw = fix ++ R5 ∧ (∀ p ∈ R, p ∈ R5) ∧ ToksIn w R5 zs (unsTok ((Ts.take i).flatMap (secUns j))) ∧ zs.length ≤ 27 * i ∧ (∀ p ∈ R5, AllNe p.1 fix)) rfl F N hax ⟨R, rfl, fun _ h => h, .nil, Nat.le_refl _, hfix⟩ ?_ ?_
  · rintro zs nw ⟨R5, rfl, r1, r2, r4, r3⟩
    rw [List.size_toArray, hS.length, List.take_length] at r2
    rw [List.size_toArray, hS.length] at r4
    exact fin zs R5 r1 r2 (by omega) r3
  · rintro i zs nw hi ⟨R5, rfl, r1, r2, r4, r3⟩ v I' oI' C' oC' D' m' h' tk' E' hv hC' hx' F' N' off' ne'
    obtain ⟨S, hS1, hS2⟩ := hS.get (by simpa using hv)
    have hS3 : SecIn ((I', oI') :: (C', oC') :: (D', LCg.lst zs) :: (fix ++ R5)) v S := hS2.mono fun p hp => .tail _ (.tail _ (.tail _ (List.mem_append_right _ (r1 p hp))))
    have hS4 := hT S (List.mem_of_getElem? hS1)
    have hS6 : (unsTok (secUns j S)).length ≤ 27 := by rw [← headsTok_un]; exact (secOk_facts hS4 j).2.2
    have hi4 : i < 4 := by rw [List.size_toArray, hS.length] at hi; omega
    refine ev v I' oI' C' oC' D' zs m' h' tk' _ _ E' hC' hx' F' N' fun tk => ?_
    refine laid_n X T F' N' hd hu hS3 hS4 fun q7 vs7 nq7 nw7 h7 tk7 F7 N7 M7 hG7 hm7 hT7 => ?_
    have y := hT7.length
    refine FlatEnd.intro F7 (news_join N7 M7) (fix ++ (nw7 ++ R5)) ?sub ?off (.inr ⟨_, mem_mid hax r1, rfl, _, rfl⟩) ?sz (List.mem_append_right _ (List.mem_append_left _ hm7))
      ⟨nw7 ++ R5, rfl, fun p hp => List.mem_append_right _ (r1 p hp), ?toks, ?len, ?ne⟩
    case sub =>
      intro p hp
      simp only [List.mem_append, List.mem_cons] at hp ⊢
      rcases hp with y | y | y | y | y | y
      · exact .inl (.inl y)
      · exact .inl (.inr (.inl y))
      · exact .inl (.inr (.inr (.inl y)))
      · exact .inl (.inr (.inr (.inr (.inl y))))
      · exact .inr y
      · exact .inl (.inr (.inr (.inr (.inr y))))
    case off =>
      refine LCg.Off3.of fun p hp => ?_
      rcases List.mem_append.mp hp with hp | hp
      · exact off'.mem p (List.mem_append_left _ hp)
      rcases List.mem_append.mp hp with hp | hp
      · have y := hG7 p hp
        exact ⟨Ne.symm y.1, Ne.symm y.2.1, Ne.symm y.2.2.1⟩
      · exact off'.mem p (List.mem_append_right _ hp)
    case sz => rw [sizeLine_eq]; omega
    case toks =>
      rw [List.take_add_one, hS1]
      simp only [Option.toList, List.flatMap_append, List.flatMap_cons, List.flatMap_nil, List.append_nil, uns_app]
      exact (r2.mono fun p hp => List.mem_append_right _ hp).app (hT7.mono fun p hp => List.mem_append_left _ hp)
    case len => rw [List.length_append]; omega
    case ne =>
      intro p hp
      rcases List.mem_append.mp hp with hp | hp
      · exact allNe_app (hG7 p hp).2.2.2
      · exact r3 p hp
end
section
variable {prog : Program} {w : World} {A : Around} {E : Value → Shared → Prop} {s : Shared} {g h : Heap} {L l : Addr} {m : Str → Option Value} {news : Led} {vs : List Value} {n : Nat}
theorem sum_l {ns : List Int} {Q : Value → Shared → Prop} (F : Fr g L s.heap m) (N : News g L s.heap news) (hh : A.handled = none) (hl : (l, listOf vs.toArray n) ∈ news) (hi : IntsAre vs ns)
    (h : ∀ h' tk t', Fr g L h' m → News g L h' news → Q (.int ns.sum t') { s with heap := h', toks := tk }) : wpAny (model prog w) A (call (.builtin "sum") [.ref l]) Q E s :=
  LSm.sum_ints F N hh (N.isList hl) hi h
end
/-- what the law's end keeps of its ledger -/
noncomputable def Bd (sv ys rs : List Value) (Ss : List Sec) (D3 D5 : Addr) (R : Led) (ps2 : Array Value) : Prop :=
  T431L R ps2 ∧ SecsIn R sv Ss ∧ PartsIn R ys (Ss.map fun S => rowsOf S) ∧ (D3, listOf (List.toArray ys) ys.length) ∈ R ∧ ToldsIn R rs (Ss.flatMap rowsOf) ∧ (D5, listOf (List.toArray rs) rs.length) ∈ R
theorem Bd.grow {sv ys rs : List Value} {Ss : List Sec} {D3 D5 : Addr} {R R' : Led} {a b : Array Value} (x : Bd sv ys rs Ss D3 D5 R a) (k : ∀ p ∈ R, p ∈ R') (y : T431L R' b) : Bd sv ys rs Ss D3 D5 R' b :=
  ⟨y, x.2.1.mono k, x.2.2.1.mono k, k _ x.2.2.2.1, x.2.2.2.2.1.mono k, k _ x.2.2.2.2.2⟩
theorem Bd.more {sv ys rs : List Value} {Ss : List Sec} {D3 D5 : Addr} {R R' : Led} {a : Array Value} (x : Bd sv ys rs Ss D3 D5 R a) (k : ∀ p ∈ R, p ∈ R') : Bd sv ys rs Ss D3 D5 R' a := x.grow k (T431P.mono x.1 k)
theorem Bd.rows {sv ys rs : List Value} {Ss : List Sec} {D3 D5 : Addr} {R nw : Led} {a b : Array Value} (x : Bd sv ys rs Ss D3 D5 R a) (y : T431P a b nw) : Bd sv ys rs Ss D3 D5 (nw ++ R) b :=
  x.grow (fun p hp => List.mem_append_right _ hp) (y.led (T431P.mono x.1 fun p hp => List.mem_append_right _ hp) fun p hp => List.mem_append_left _ hp)
noncomputable def Off6 (a b c d : Addr) (R : Led) : Prop := ∀ p ∈ R, p.1 ≠ a ∧ p.1 ≠ b ∧ p.1 ≠ c ∧ p.1 ≠ d ∧ p.1 ≠ 73 ∧ p.1 ≠ 431
theorem Off6.cons {a b c d e : Addr} {o : Obj} {R : Led} (h : @Ne Nat e a ∧ @Ne Nat e b ∧ @Ne Nat e c ∧ @Ne Nat e d ∧ @Ne Nat e 73 ∧ @Ne Nat e 431) (k : Off6 a b c d R) : Off6 a b c d ((e, o) :: R) := fun p hp => by
  rcases List.mem_cons.mp hp with rfl | hp
  · exact h
  · exact k p hp
theorem Off6.all {a b c d : Addr} {oa ob oc od o7 o4 : Obj} {R : Led} (k : Off6 a b c d R) : ∀ p ∈ R, AllNe p.1 [(a, oa), (b, ob), (c, oc), (d, od), (73, o7), (431, o4)] := fun p hp =>
  let y := k p hp; ⟨Ne.symm y.1, Ne.symm y.2.1, Ne.symm y.2.2.1, Ne.symm y.2.2.2.1, Ne.symm y.2.2.2.2.1, Ne.symm y.2.2.2.2.2, trivial⟩
theorem Off6.of {a b c d : Addr} {oa ob oc od o7 o4 : Obj} {R : Led} (k : ∀ p ∈ R, AllNe p.1 [(a, oa), (b, ob), (c, oc), (d, od), (73, o7), (431, o4)]) : Off6 a b c d R := fun p hp =>
  let y := k p hp; ⟨Ne.symm y.1, Ne.symm y.2.1, Ne.symm y.2.2.1, Ne.symm y.2.2.2.1, Ne.symm y.2.2.2.2.1, Ne.symm y.2.2.2.2.2.1⟩
theorem Off6.n73 {a b c d : Addr} {R : Led} (k : Off6 a b c d R) : ∀ p ∈ R, p.1 ≠ 73 := fun p hp => (k p hp).2.2.2.2.1
theorem Off6.n431 {a b c d : Addr} {R : Led} (k : Off6 a b c d R) : ∀ p ∈ R, p.1 ≠ 431 := fun p hp => (k p hp).2.2.2.2.2
theorem Off6.rows {a b c d : Addr} {oa ob oc od o7 o4 : Obj} {nw R R0 : Led} (hG : ∀ p ∈ nw, AllNe p.1 ((a, oa) :: (b, ob) :: (c, oc) :: (d, od) :: (73, o7) :: (431, o4) :: R0)) (k : Off6 a b c d R) : Off6 a b c d (nw ++ R) := fun p hp => by
  rcases List.mem_append.mp hp with hp | hp
  · have y := hG p hp
    exact ⟨Ne.symm y.1, Ne.symm y.2.1, Ne.symm y.2.2.1, Ne.symm y.2.2.2.1, Ne.symm y.2.2.2.2.1, Ne.symm y.2.2.2.2.2.1⟩
  · exact k p hp
theorem pack6 {g h : Heap} {L : Addr} {a b c d e f : Addr × Obj} {R nw : Led} (N : News g L h (a :: b :: c :: d :: e :: f :: R)) (M : News g L h nw) : News g L h (a :: b :: c :: d :: e :: f :: (nw ++ R)) := fun p hp => by
  simp only [List.mem_append, List.mem_cons] at hp
  rcases hp with y | y | y | y | y | y | y | y
  · exact N p (y ▸ .head _)
  · exact N p (y ▸ .tail _ (.head _))
  · exact N p (y ▸ .tail _ (.tail _ (.head _)))
  · exact N p (y ▸ .tail _ (.tail _ (.tail _ (.head _))))
  · exact N p (y ▸ .tail _ (.tail _ (.tail _ (.tail _ (.head _)))))
  · exact N p (y ▸ .tail _ (.tail _ (.tail _ (.tail _ (.tail _ (.head _))))))
  · exact M p y
  · exact N p (.tail _ (.tail _ (.tail _ (.tail _ (.tail _ (.tail _ y))))))
/-- behind a call of _law_rows -/
theorem rows_pack {g h : Heap} {L a b c d : Addr} {oa ob oc od : Obj} {p7 p4 p7' p4' : Array Value} {R nw : Led} {sv ys rs : List Value} {Ss : List Sec} {D3 D5 : Addr}
    (N : News g L h ((a, oa) :: (b, ob) :: (c, oc) :: (d, od) :: (73, tabObj p7') :: (431, tabObj p4') :: R)) (M : News g L h nw) (hG : ∀ p ∈ nw, AllNe p.1 ((a, oa) :: (b, ob) :: (c, oc) :: (d, od) :: (73, tabObj p7) :: (431, tabObj p4) :: R))
    (k : Off6 a b c d R) (B : Bd sv ys rs Ss D3 D5 R p4) (hP : T431P p4 p4' nw) :
    ∃ R', News g L h ((a, oa) :: (b, ob) :: (c, oc) :: (d, od) :: (73, tabObj p7') :: (431, tabObj p4') :: R') ∧ Off6 a b c d R' ∧ Bd sv ys rs Ss D3 D5 R' p4' ∧ (∀ p ∈ R, p ∈ R') ∧ (∀ p ∈ nw, p ∈ R') :=
  ⟨nw ++ R, pack6 N M, Off6.rows hG k, B.rows hP, fun _ hp => List.mem_append_right _ hp, fun _ hp => List.mem_append_left _ hp⟩
/-- behind a new object at the ledger's head -/
theorem one_pack {g h : Heap} {L a b c d e : Addr} {oa ob oc od oe : Obj} {p7 p4 : Array Value} {R : Led} {sv ys rs : List Value} {Ss : List Sec} {D3 D5 : Addr}
    (N : News g L h ((e, oe) :: (a, oa) :: (b, ob) :: (c, oc) :: (d, od) :: (73, tabObj p7) :: (431, tabObj p4) :: R)) (hne : @Ne Nat e a ∧ @Ne Nat e b ∧ @Ne Nat e c ∧ @Ne Nat e d ∧ @Ne Nat e 73 ∧ @Ne Nat e 431)
    (k : Off6 a b c d R) (B : Bd sv ys rs Ss D3 D5 R p4) :
    ∃ R', News g L h ((a, oa) :: (b, ob) :: (c, oc) :: (d, od) :: (73, tabObj p7) :: (431, tabObj p4) :: R') ∧ Off6 a b c d R' ∧ Bd sv ys rs Ss D3 D5 R' p4 ∧ (∀ p ∈ R, p ∈ R') ∧ (e, oe) ∈ R' :=
  ⟨(e, oe) :: R, fun p hp => N p (sub61 p hp), k.cons hne, B.more fun _ hp => .tail _ hp, fun _ hp => .tail _ hp, .head _⟩
theorem Bd.one {sv ys rs : List Value} {Ss : List Sec} {D3 D5 : Addr} {R : Led} {a : Array Value} (x : Bd sv ys rs Ss D3 D5 R a) : T431L R a := x.1
inductive SInv (secL nA c1 c2 : Addr) (oN1 oS : Obj) (k : Nat) (m : Str → Option Value) (led : Led) : Prop
  | mk : ∀ sv nV vs' q' nN R Ss, led = (secL, listOf (List.toArray sv) nV) :: (nA, listOf (List.toArray vs') nN) :: (c1, oN1) :: (c2, oS) :: (73, tabObj #[]) :: (431, tabObj #[]) :: R → NumsAre vs' q' → 79 ≤ q' + 10 * k → q' ≤ 1000 → SecsIn R sv Ss → Ss.length = k → (∀ S ∈ Ss, SecOk S) → (∀ p ∈ R, p.1 ≠ secL ∧ p.1 ≠ nA ∧ p.1 ≠ c1 ∧ p.1 ≠ c2 ∧ p.1 ≠ 73 ∧ p.1 ≠ 431) → m (Str.ofString "sections") = some (.ref secL) → SInv secL nA c1 c2 oN1 oS k m led
inductive PInv (secL nA c1 c2 I rL : Addr) (oN1 oS oI : Obj) (sv wsL : List Value) (nV nL q2 : Nat) (R : Led) (t : Nat) (ys : List Value) (nw : Led) : Prop
  | mk : ∀ vs3 q3 n3 R3 ps, nw = (I, oI) :: (secL, listOf (List.toArray sv) nV) :: (nA, listOf (List.toArray vs3) n3) :: (c1, oN1) :: (c2, oS) :: (73, tabObj #[]) :: (431, tabObj #[]) :: R3 → NumsAre vs3 q3 → q2 ≤ q3 + 1 + 3 * t → q3 ≤ 1000 → ParasIn R3 ys ps → ps.length = t → (∀ p ∈ ps, ParOk p) → (∀ p ∈ (rL, listOf (List.toArray wsL) nL) :: R, p ∈ R3) → (∀ p ∈ R3, p.1 ≠ I ∧ p.1 ≠ secL ∧ p.1 ≠ nA ∧ p.1 ≠ c1 ∧ p.1 ≠ c2 ∧ p.1 ≠ 73 ∧ p.1 ≠ 431) → PInv secL nA c1 c2 I rL oN1 oS oI sv wsL nV nL q2 R t ys nw
inductive QInv (secL nA c1 c2 : Addr) (oN1 oS : Obj) (sv vs' : List Value) (nV nN : Nat) (R : Led) (Ss : List Sec) (i : Nat) (ys : List Value) (nw : Led) : Prop
  | mk : ∀ ps ps2 R2, nw = (secL, listOf (List.toArray sv) nV) :: (nA, listOf (List.toArray vs') nN) :: (c1, oN1) :: (c2, oS) :: (73, tabObj ps) :: (431, tabObj ps2) :: R2 → T73 ps → T431L R2 ps2 → (∀ p ∈ R, p ∈ R2) → PartsIn R2 ys ((Ss.take i).map fun S => unRows (secUns false S)) → (∀ p ∈ R2, p.1 ≠ secL ∧ p.1 ≠ nA ∧ p.1 ≠ c1 ∧ p.1 ≠ c2 ∧ p.1 ≠ 73 ∧ p.1 ≠ 431) → QInv secL nA c1 c2 oN1 oS sv vs' nV nN R Ss i ys nw
theorem subW {wl t3 q t2 t1 i a b c d e f : Addr × Obj} {R : Led} : ∀ p ∈ wl :: i :: a :: b :: c :: d :: e :: f :: t3 :: q :: t2 :: t1 :: R, p ∈ t3 :: q :: t2 :: t1 :: i :: wl :: a :: b :: c :: d :: e :: f :: R := by
  intro p hp
  simp only [List.mem_cons] at hp ⊢
  grind
theorem cnt_sum (cs : List Nat) : (cntI cs).sum = (cs.sum : Nat) := by
  induction cs with
  | nil => rfl
  | cons c cs ih =>
    show ((c : Int) :: cntI cs).sum = _
    rw [List.sum_cons, List.sum_cons, ih]; omega
theorem cs_sum {cs : List Nat} (h : CsOk cs) : cs.sum ≤ 4 := by
  obtain ⟨h1, h2⟩ := h
  match cs, h1, h2 with
  | [], _, _ => decide
  | [a], _, h2 => have := h2 a (.head _); simp; omega
  | [a, b], _, h2 =>
    have := h2 a (.head _)
    have := h2 b (.tail _ (.head _))
    simp; omega
  | a :: b :: c :: r, h1, _ => exact absurd h1 (by simp)
theorem conts_of {ld : Led} {t1 : Addr} {n1 : Nat} {u : Tok} (k : Nat) (h : (t1, tupO [.str (Str.ofString "continue") u] n1) ∈ ld) : ContsIn ld (List.replicate k (.ref t1)) := fun v hv => by
  rw [List.eq_of_mem_replicate hv]
  exact ⟨t1, n1, u, rfl, h⟩
theorem offs8 {e I x a b c d : Nat} {P : Prop} (h : I < e ∧ x < e ∧ a < e ∧ b < e ∧ c < e ∧ d < e ∧ 73 < e ∧ 431 < e ∧ P) : (e ≠ a ∧ e ≠ b ∧ e ≠ c ∧ e ≠ d ∧ e ≠ 73 ∧ e ≠ 431) ∧ e ≠ x ∧ e ≠ I := by omega
theorem offs6 {e a b c d : Nat} {P : Prop} (h : a < e ∧ b < e ∧ c < e ∧ d < e ∧ 73 < e ∧ 431 < e ∧ P) : e ≠ a ∧ e ≠ b ∧ e ≠ c ∧ e ≠ d ∧ e ≠ 73 ∧ e ≠ 431 := by omega
theorem subX {wl t3 q t2 t1 e i a b c d x f : Addr × Obj} {R : Led} : ∀ p ∈ [e] ++ wl :: i :: a :: b :: c :: d :: x :: f :: t3 :: q :: t2 :: t1 :: R, p ∈ t3 :: q :: t2 :: t1 :: e :: wl :: i :: a :: b :: c :: d :: x :: f :: R := by
  intro p hp
  simp only [List.mem_cons, List.cons_append, List.nil_append] at hp ⊢
  grind
theorem offs9 {e k I x a b c d : Nat} {P : Prop} (h : k < e ∧ x < e ∧ I < e ∧ a < e ∧ b < e ∧ c < e ∧ d < e ∧ 73 < e ∧ 431 < e ∧ P) : (e ≠ a ∧ e ≠ b ∧ e ≠ c ∧ e ≠ d ∧ e ≠ 73 ∧ e ≠ 431) ∧ e ≠ x ∧ e ≠ I ∧ e ≠ k := by omega
theorem take_rows {Ss : List Sec} {i : Nat} {S : Sec} (h : Ss[i]? = some S) : (Ss.take i).flatMap rowsOf ++ rowsOf S = (Ss.take (i + 1)).flatMap rowsOf := by
  rw [List.take_add_one, h]
  simp only [Option.toList, List.flatMap_append, List.flatMap_cons, List.flatMap_nil, List.append_nil]
theorem take_paras {S : Sec} {k : Nat} {p : Str × List Nat} (h : S.2.2[k]? = some p) {A : List RowD} : (A ++ (Str.ofString "", S.1, S.2.1.sum) :: (S.2.2.take k).map fun p => (p.1, S.1, p.2.sum)) ++ [(p.1, S.1, p.2.sum)] = A ++ (Str.ofString "", S.1, S.2.1.sum) :: (S.2.2.take (k + 1)).map fun p => (p.1, S.1, p.2.sum) := by
  rw [List.take_add_one, h]
  simp only [Option.toList, List.map_append, List.map_cons, List.map_nil, List.append_assoc, List.cons_append]
theorem SecsIn.take {ld : Led} {vs : List Value} {rs : List Sec} (x : SecsIn ld vs rs) : ∀ n, SecsIn ld (vs.take n) (rs.take n) := by
  induction x with
  | nil => intro n; rw [List.take_nil, List.take_nil]; exact .nil
  | cons a _ ih => intro n; cases n with | zero => exact .nil | succ n => exact .cons a (ih n)
theorem SecsIn.drop {ld : Led} {vs : List Value} {rs : List Sec} (x : SecsIn ld vs rs) : ∀ n, SecsIn ld (vs.drop n) (rs.drop n) := by
  induction x with
  | nil => intro n; rw [List.drop_nil, List.drop_nil]; exact .nil
  | cons a b ih => intro n; cases n with | zero => exact .cons a b | succ n => exact ih n
theorem PartsIn.take {ld : Led} {vs : List Value} {rs : List (List RowD)} (x : PartsIn ld vs rs) : ∀ n, PartsIn ld (vs.take n) (rs.take n) := by
  induction x with
  | nil => intro n; rw [List.take_nil, List.take_nil]; exact .nil
  | cons a _ ih => intro n; cases n with | zero => exact .nil | succ n => exact .cons a (ih n)
noncomputable def StopNe : Prop := True
inductive WRow (Ss : List Sec) (Rb : Led) (i : Nat) (v1 v2 v3 : Value) : Prop
  | mk : ∀ S u le ne lv pa np pv, Ss[i]? = some S → v1 = .str S.1 u → v2 = .ref le → v3 = .ref pa → (le, listOf (List.toArray lv) ne) ∈ Rb → IntsAre lv (cntI S.2.1) → (pa, listOf (List.toArray pv) np) ∈ Rb → ParasIn Rb pv S.2.2 → WRow Ss Rb i v1 v2 v3
inductive WRow2 (S : Sec) (R9 : Led) (j : Nat) (v1 v2 : Value) : Prop
  | mk : ∀ p u e ne ev, S.2.2[j]? = some p → v1 = .str p.1 u → v2 = .ref e → (e, listOf (List.toArray ev) ne) ∈ R9 → IntsAre ev (cntI p.2) → WRow2 S R9 j v1 v2
/-- between the turns of written's loop -/
inductive WInv (secL nA c1 c2 wL D3 D5 : Addr) (oN1 oS : Obj) (sv vs' : List Value) (nV nN : Nat) (psb psc : Array Value) (Rb : Led) (Ss : List Sec) (i : Nat) (m : Str → Option Value) (led : Led) : Prop
  | mk : ∀ ws nW R9, led = (wL, listOf (List.toArray ws) nW) :: (secL, listOf (List.toArray sv) nV) :: (nA, listOf (List.toArray vs') nN) :: (c1, oN1) :: (c2, oS) :: (73, tabObj psb) :: (431, tabObj psc) :: R9 → (∀ p ∈ Rb, p ∈ R9) → Off6 secL nA c1 c2 R9 → (∀ p ∈ R9, p.1 ≠ wL) → ToldsIn R9 ws ((Ss.take i).flatMap rowsOf) → m (Str.ofString "written") = some (.ref wL) → m (Str.ofString "sections") = some (.ref secL) → m (Str.ofString "parts") = some (.ref D3) → m (Str.ofString "due") = some (.ref D5) → WInv secL nA c1 c2 wL D3 D5 oN1 oS sv vs' nV nN psb psc Rb Ss i m led
inductive WInv2 (secL nA c1 c2 wL D3 D5 I : Addr) (oN1 oS oI : Obj) (sv vs' : List Value) (nV nN : Nat) (psb psc : Array Value) (R9 : Led) (A : List RowD) (S : Sec) (u : Tok) (k : Nat) (m : Str → Option Value) (led : Led) : Prop
  | mk : ∀ ws nW R11, led = (wL, listOf (List.toArray ws) nW) :: (I, oI) :: (secL, listOf (List.toArray sv) nV) :: (nA, listOf (List.toArray vs') nN) :: (c1, oN1) :: (c2, oS) :: (73, tabObj psb) :: (431, tabObj psc) :: R11 → (∀ p ∈ R9, p ∈ R11) → Off6 secL nA c1 c2 R11 → (∀ p ∈ R11, p.1 ≠ wL) → (∀ p ∈ R11, p.1 ≠ I) → ToldsIn R11 ws (A ++ (Str.ofString "", S.1, S.2.1.sum) :: (S.2.2.take k).map fun p => (p.1, S.1, p.2.sum)) → m (Str.ofString "written") = some (.ref wL) → m (Str.ofString "sections") = some (.ref secL) → m (Str.ofString "parts") = some (.ref D3) → m (Str.ofString "due") = some (.ref D5) → m (Str.ofString "name") = some (.str S.1 u) → WInv2 secL nA c1 c2 wL D3 D5 I oN1 oS oI sv vs' nV nN psb psc R9 A S u k m led
theorem top_pack {g h : Heap} {L a b c d : Addr} {oa ob oc od : Obj} {p7 p4 : Array Value} (top : Led) {R : Led} {sv ys rs : List Value} {Ss : List Sec} {D3 D5 : Addr}
    (N : News g L h (top ++ (a, oa) :: (b, ob) :: (c, oc) :: (d, od) :: (73, tabObj p7) :: (431, tabObj p4) :: R)) (ht : Off6 a b c d top) (k : Off6 a b c d R) (B : Bd sv ys rs Ss D3 D5 R p4) :
    ∃ R', News g L h ((a, oa) :: (b, ob) :: (c, oc) :: (d, od) :: (73, tabObj p7) :: (431, tabObj p4) :: R') ∧ Off6 a b c d R' ∧ Bd sv ys rs Ss D3 D5 R' p4 ∧ (∀ p ∈ R, p ∈ R') ∧ (∀ p ∈ top, p ∈ R') := by
  refine ⟨top ++ R, fun p hp => N p ?_, fun p hp => ?_, B.more fun _ hp => List.mem_append_right _ hp, fun _ hp => List.mem_append_right _ hp, fun _ hp => List.mem_append_left _ hp⟩
  · simp only [List.mem_append, List.mem_cons] at hp ⊢
    grind
  · rcases List.mem_append.mp hp with hp | hp
    · exact ht p hp
    · exact k p hp
theorem offs_up {e f a b c d : Nat} (h : e ≠ a ∧ e ≠ b ∧ e ≠ c ∧ e ≠ d ∧ e ≠ 73 ∧ e ≠ 431) : True := trivial
theorem offs6x {e x a b c d : Nat} {P : Prop} (h : a < e ∧ b < e ∧ c < e ∧ d < e ∧ 73 < e ∧ 431 < e ∧ P) (k : e < x) : x ≠ a ∧ x ≠ b ∧ x ≠ c ∧ x ≠ d ∧ x ≠ 73 ∧ x ≠ 431 := by omega
theorem off6_nil {a b c d : Addr} : Off6 a b c d [] := fun _ h => nomatch h
theorem secName_last {A : List Sec} {S : Sec} {x : Str} : secName (A ++ [S]) x = S.1 := by
  induction A generalizing x with
  | nil => rfl
  | cons a A ih => exact ih
theorem secName_take {Ss : List Sec} {c : Nat} {S : Sec} {x : Str} (h : Ss[c]? = some S) : secName (Ss.take (c + 1)) x = S.1 := by
  rw [List.take_add_one, h]
  exact secName_last
theorem secName_lays {A : List Sec} (h : ∀ S ∈ A, SecOk S) : PyData.canLay0 (.str (secName A (Str.ofString ""))) = true := by
  have go : ∀ (A : List Sec) (x : Str), (∀ S ∈ A, SecOk S) → PyData.canLay0 (.str x) = true → PyData.canLay0 (.str (secName A x)) = true := by
    intro A
    induction A with
    | nil => intro x _ hx; exact hx
    | cons S A ih => intro x hA _; exact ih S.1 (fun T hT => hA T (.tail _ hT)) (secName_lay (hA S (.head _)))
  exact go A _ h lay_0
theorem rows_take {Ss : List Sec} (c : Nat) : (Ss.flatMap rowsOf).take ((Ss.take c).flatMap rowsOf).length = (Ss.take c).flatMap rowsOf := by
  have e : Ss.flatMap rowsOf = (Ss.take c).flatMap rowsOf ++ (Ss.drop c).flatMap rowsOf := by rw [← List.flatMap_append, List.take_append_drop]
  rw [e, List.take_left']
  rfl
theorem rows_drop {Ss : List Sec} (c : Nat) : (Ss.flatMap rowsOf).drop ((Ss.take c).flatMap rowsOf).length = (Ss.drop c).flatMap rowsOf := by
  have e : Ss.flatMap rowsOf = (Ss.take c).flatMap rowsOf ++ (Ss.drop c).flatMap rowsOf := by rw [← List.flatMap_append, List.take_append_drop]
  rw [e, List.drop_left']
  rfl
theorem lens_sum (A : List Sec) : (A.map fun S => ((rowsOf S).length : Int)).sum = (((A.flatMap rowsOf).length : Nat) : Int) := by
  induction A with
  | nil => rfl
  | cons S A ih => rw [List.map_cons, List.sum_cons, ih, List.flatMap_cons, List.length_append]; omega
theorem more_ok {w : World} {A B : List Un} {nm : Str} (hA : ∀ u ∈ A, UnOk w u) (hB : ∀ u ∈ B, UnOk w u) (hn : NameOk w nm) : ∀ u ∈ A ++ .par nm :: B, UnOk w u := by
  intro u hu
  rcases List.mem_append.mp hu with hu | hu
  · exact hA u hu
  · rcases List.mem_cons.mp hu with rfl | hu
    · exact hn
    · exact hB u hu
theorem more_toks {w : World} {ld : Led} {va vm vb : List Value} {A B : List Un} {nm : Str} (ha : ToksIn w ld va (unsTok A)) (hm : ToksIn w ld vm (unTok (.par nm))) (hb : ToksIn w ld vb (unsTok B)) : ToksIn w ld (va ++ vm ++ vb) (unsTok (A ++ .par nm :: B)) := by
  rw [uns_app, uns_cons, ← List.append_assoc]
  exact (ha.app hm).app hb
theorem more_rowsOk {A B : List Sec} (hA : ∀ S ∈ A, SecOk S) (hB : ∀ S ∈ B, SecOk S) : RowsOk (A.flatMap rowsOf ++ [(Str.ofString "NEW-1", secName A (Str.ofString ""), 0)] ++ B.flatMap rowsOf) := by
  intro r hr
  rcases List.mem_append.mp hr with hr | hr
  · rcases List.mem_append.mp hr with hr | hr
    · exact rowsOf_oks hA r hr
    · rw [List.mem_singleton.mp hr]; exact ⟨lay_N, secName_lays hA⟩
  · exact rowsOf_oks hB r hr
noncomputable def SecEnd (nm : Str) (s : Shared) (h : Heap) (v : Value) (s' : Shared) : Prop := ∃ t tk', v = .str nm t ∧ s' = { s with heap := h, toks := tk' }
theorem SecEnd.intro {nm : Str} {s : Shared} {h : Heap} {x : Str} {t : Tok} {tk : Nat} (e : x = nm) : SecEnd nm s h (.str x t) { s with heap := h, toks := tk } := ⟨t, tk, by rw [e], rfl⟩
theorem ldT {a b c d e f g h i j k l m p : Addr × Obj} {R : Led} (hp : p ∈ R) : p ∈ a :: b :: c :: d :: e :: f :: g :: h :: i :: j :: k :: l :: m :: R := .tail _ (.tail _ (.tail _ (.tail _ (.tail _ (.tail _ (.tail _ (.tail _ (.tail _ (.tail _ (.tail _ (.tail _ (.tail _ hp))))))))))))
noncomputable def hasSub : List Nat → List Nat → Bool
  | [], ys => ys.isEmpty
  | x :: xs, ys => ys.isPrefixOf (x :: xs) || hasSub xs ys
theorem hasSub_at : ∀ (xs ys : List Nat) (i : Nat), (xs.drop i).take ys.length = ys → hasSub xs ys = true
  | [], ys, i, h => by
    rw [List.drop_nil, List.take_nil] at h
    rw [← h]; rfl
  | x :: xs, ys, 0, h => by
    have e : ys.isPrefixOf (x :: xs) = true := by
      rw [List.isPrefixOf_iff_prefix, ← h]
      exact List.take_prefix _ _
    show (ys.isPrefixOf (x :: xs) || hasSub xs ys) = true
    rw [e]; rfl
  | x :: xs, ys, i + 1, h => by
    have e := hasSub_at xs ys i h
    show (ys.isPrefixOf (x :: xs) || hasSub xs ys) = true
    rw [e, Bool.or_true]
theorem occ_empty {x y : Str} (h : hasSub x.cps.toList y.cps.toList = false) : (Builtin.Str.occurrences x y 0 x.length 1).isEmpty = true := by
  rw [PySem.W.occ_nil_of_no x y 1 fun i hi => ?_]
  · rfl
  · cases e : Builtin.Str.subAt x y i with
    | false => rfl
    | true =>
      have e1 : x.cps.extract i (i + y.length) = y.cps := by simpa [Builtin.Str.subAt] using e
      have e2 := congrArg Array.toList e1
      rw [Array.toList_extract] at e2
      have e3 : (x.cps.toList.drop i).take y.cps.toList.length = y.cps.toList := by
        rw [← e2]
        simp [List.extract_eq_drop_take, PySem.Str.length] at e2 ⊢
        try (rw [e2])
      rw [hasSub_at _ _ i e3] at h
      cases h
theorem free_l {w : World} {c : Str} {str : String} {l : List Char} {u : Tok} (e : nsIn (K w.params) mainGlobals (Str.ofString "RESERVED") = some (some (.str (Str.ofString str) u))) (hl : str = String.ofList l) (h : hasSub (l.map Char.toNat) (Str.ofString " " ++ c ++ Str.ofString " ").cps.toList = false) : Free w c := fun r t h' => by
  rw [e] at h'
  cases h'
  refine occ_empty ?_
  rw [Str.ofString_eq_toList, hl, String.toList_ofList]
  exact h
set_option maxHeartbeats 4000000 in
theorem free_test (w : World) : Free w (Str.ofString "S-0") := by
  have reg : (K, PySem.Challenge.rw_pb0258_01).1 = K := by (k_fill; rfl)
  clear reg
  refine free_l (by k_is) (by rfl) ?_
  decide +kernel
theorem nameS (w : World) : ∀ i, i < 4 → NameOk w (nmS i) := by
  have reg : (K, PySem.Challenge.rw_pb0258_01).1 = K := by (k_fill; rfl)
  clear reg
  intro i hi
  match i, hi with
  | 0, _ => exact ⟨by decide +kernel, free_l (by k_is) (by rfl) (by decide +kernel), by decide +kernel, by decide +kernel, by decide +kernel⟩
  | 1, _ => exact ⟨by decide +kernel, free_l (by k_is) (by rfl) (by decide +kernel), by decide +kernel, by decide +kernel, by decide +kernel⟩
  | 2, _ => exact ⟨by decide +kernel, free_l (by k_is) (by rfl) (by decide +kernel), by decide +kernel, by decide +kernel, by decide +kernel⟩
  | 3, _ => exact ⟨by decide +kernel, free_l (by k_is) (by rfl) (by decide +kernel), by decide +kernel, by decide +kernel, by decide +kernel⟩
theorem nameP (w : World) : ∀ i, i < 2 → NameOk w (nmP i) := by
  have reg : (K, PySem.Challenge.rw_pb0258_01).1 = K := by (k_fill; rfl)
  clear reg
  intro i hi
  match i, hi with
  | 0, _ => exact ⟨by decide +kernel, free_l (by k_is) (by rfl) (by decide +kernel), by decide +kernel, by decide +kernel, by decide +kernel⟩
  | 1, _ => exact ⟨by decide +kernel, free_l (by k_is) (by rfl) (by decide +kernel), by decide +kernel, by decide +kernel, by decide +kernel⟩
theorem nameN (w : World) : NameOk w (Str.ofString "NEW-1") := by
  have reg : (K, PySem.Challenge.rw_pb0258_01).1 = K := by (k_fill; rfl)
  clear reg
  exact ⟨by decide +kernel, free_l (by k_is) (by rfl) (by decide +kernel), by decide +kernel, by decide +kernel, by decide +kernel⟩
theorem words_24m : True := by
  k_with "CompEnd" => ((with_reducible show LCg.CompEnd _ _ _ _ _ _ _ _ _ _ _ _ _ _); refine Halt.out ?_)
  k_with "SUBTAIL" => first | assumption | exact fun p hp => by repeat (first | exact hp | refine List.Mem.tail _ ?_)
  k_with "call ref" => (k_here; (try dsimp only [List.nil_append, List.cons_append]); (with_reducible show wpAny _ _ (call (Value.ref 429) [_, _]) _ _ _); k_dflt (refine' laid_n ?zzk1 ?zzk2 ?zzkF ?zzkN ?zzk4 ?zzku ?zzkS ?zzko ?_; (case zzkF => k_asm); (case zzkN => k_asm); (case zzk1 => assumption); (case zzk2 => assumption); (case zzk4 => k_room); (case zzku => k_units); (case zzkS => exact SecIn.mono (by assumption) (by walk_at "SUBTAIL")); (case zzko => assumption); k_whole; intro _ _ _ _ _ _ _ N0' _ _ _ _; (have _ := N0'); (clear N0'); (try k_sweep)))
  k_with "call ref" => (k_here; (try dsimp only [List.nil_append, List.cons_append]); (with_reducible show wpAny _ _ (call (Value.ref 434) [_]) _ _ _); (rename (∀ p : Addr × Obj, p ∈ _ → AllNe p.1 _) => hG9); k_dflt (refine' rows_n ?zzk1 ?zzk2 ?zzkF ?zzkN ?zzk4 ?zzku ?zzkW hG9 ?zzkl ?zzkt ?zzkf ?zzko ?zzkp ?zzkT ?zzkq ?zzkU ?zzkc ?zzkd ?_; (case zzkN => k_asm); (case zzkF => k_asm); (case zzk1 => assumption); (case zzk2 => assumption); (case zzk4 => k_room); (case zzku => k_units); (case zzkW => assumption); (case zzkl => assumption); (case zzkt => assumption); (case zzko => assumption); (case zzkf => assumption); (case zzkp => k_mem); (case zzkq => k_mem); (case zzkT => assumption); (case zzkU => exact T431L.heap (by assumption) (by k_asm) (by walk_at "SUBTAIL")); (case zzkc => assumption); (case zzkd => assumption); k_whole; intro _ _ _ _ _ _ _ _ _ _ _ hU' _ _ _ _; (have _ := hU' _ _ (by k_upd) (by k_upd)); (clear hU' hG9); (try k_sweep)))
  k_with "call builtin:list.pop" => (k_here; (with_reducible show wpAny _ _ (call (Value.builtin _) [Value.ref _, Value.int _ _]) _ _ _); k_dflt (refine' pop_n ?zzF ?zzN ?zzU ?zzhN ?zzhq ?zzhz ?_; (case zzF => k_asm); (case zzN => k_asm); (case zzU => k_upd); (case zzhN => assumption); (case zzhq => first | assumption | omega); (case zzhz => first | assumption | omega); k_whole; intro _ _ _ _ _ _ _ _; (try k_sweep)))
  k_with "eval Name" => (k_here; (with_reducible show wpAny _ _ (eval (Expr.Name _ _) (envOfC _ _ _ _ _)) _ _ _); k_dflt (refine' nameX_L ?zzF ?zzv ?_ ?zza ?zzb; (case zzF => k_asm); (case zza => rfl); (case zzb => rfl); (case zzv => walk_at "LOOK"); k_whole))
  k_with "call ref" => (k_here; (try dsimp only [List.nil_append, List.cons_append]); (with_reducible show wpAny _ _ (call (Value.ref 424) [_, _]) _ _ _); k_dflt (refine' sentences_n ?zzk1 ?zzk2 ?zzk3 ?zzk4 ?zzku ?zzkH ?zzkN ?zzk5 ?zzkz ?zzkf ?_; (case zzk3 => exact Fr.keep (by k_asm)); (case zzk1 => assumption); (case zzk2 => assumption); (case zzk4 => k_room); (case zzku => k_units); (case zzkH => exact News.get (by k_asm) (by k_mem)); (case zzkN => assumption); (case zzk5 => first | assumption | omega); (case zzkz => first | assumption | omega); (case zzkf => exact News.fresh (by k_asm) (by k_mem)); k_whole; intro _ _ _ _ _ _ _ _ _ hB' hd' _ _ _ hf' hr' _ _ _; (have l1 := allNe_of (by k_asm) hf'); (try simp only [AllNe, and_true] at l1); (try (revert l1; intro _)); (have _ := fr_one (by k_asm) (by k_asm) (by k_mem) hB'); (have _ := news_one_add (by k_asm) (by k_asm) (by k_upd) hB' hd' hf' hr'); (clear hB' hd' hf' hr'); (try k_sweep)))
  k_with "call ref" => (k_here; (try dsimp only [List.nil_append, List.cons_append]); (with_reducible show wpAny _ _ (call (Value.ref 434) [_]) _ _ _); (fail_if_success (rename (∀ p : Addr × Obj, p ∈ _ → AllNe p.1 _) => hG9)); k_dflt (refine' rows_m ?zzk1 ?zzk2 ?zzkF ?zzkN ?zzk4 ?zzku ?zzkR ?zzka ?zzkb ?zzkl ?zzkt ?zzkf ?zzko ?zzkp ?zzkT ?zzkq ?zzkU ?zzkc ?zzkd ?_; (case zzkN => k_asm); (case zzkF => k_asm); (case zzk1 => assumption); (case zzk2 => assumption); (case zzk4 => k_room); (case zzku => k_units); (case zzkl => assumption); (case zzkt => assumption); (case zzkR => walk_at "SUBTAIL"); (case zzka => assumption); (case zzkb => assumption); (case zzko => assumption); (case zzkf => assumption); (case zzkp => k_mem); (case zzkq => k_mem); (case zzkT => assumption); (case zzkU => exact T431L.heap (by assumption) (by k_asm) (by walk_at "SUBTAIL")); (case zzkc => assumption); (case zzkd => assumption); k_whole; intro _ _ _ _ _ _ _ _ _ _ _ hU' _ _ _ hR'; (try rw [unRows_secs] at hR'); (revert hR'; intro _); (have _ := hU' _ _ (by k_upd) (by k_upd)); (clear hU'); (try k_sweep)))
  k_with "compareOp NotEq ref ref" => (k_here; (with_reducible show wpAny _ _ (compareOp .NotEq (Value.ref _) (Value.ref _)) _ _ _); (rename (_ ∈ _) => hm9); k_dflt (refine' ne_rows ?zzN1 ?zzN2 hm9 ?zzh2 ?zzt1 ?zzt2 ?zzho ?zzhu ?_; (case zzN1 => first | assumption | (refine' news_sub ?zzNa ?zzks; (case zzNa => k_asm); (case zzks => walk_at "SUBTAIL"))); (case zzh2 => assumption); (case zzt1 => assumption); (case zzt2 => assumption); (case zzN2 => (refine' news_sub ?zzNa ?zzks; (case zzNa => k_asm); (case zzks => walk_at "SUBTAIL"))); (case zzho => assumption); (case zzhu => k_units); k_whole))
  exact True.intro
theorem words_29m : True := by
  k_with "call ref" => (k_here; (with_reducible show wpAny _ _ (call (Value.ref 429) _) _ _ _); (rename (∀ tk' : Nat, wpAny _ _ (call (Value.ref 429) _) _ _ _) => hc9); exact hc9 _)
  k_with "ROWS" => (k_dflt (refine' rows_m ?zzk1 ?zzk2 ?zzkF ?zzkN ?zzk4 ?zzku ?zzkR ?zzka ?zzkb ?zzkl ?zzkt ?zzkf ?zzko ?zzkp ?zzkT ?zzkq ?zzkU ?zzkc ?zzkd ?_; (case zzkN => k_asm); (case zzkF => k_asm); (case zzk1 => assumption); (case zzk2 => assumption); (case zzk4 => k_room); (case zzku => k_units); (case zzkl => assumption); (case zzkt => assumption); (case zzkR => walk_at "SUBTAIL"); (case zzka => exact Off6.n73 (by assumption)); (case zzkb => exact Off6.n431 (by assumption)); (case zzko => assumption); (case zzkf => assumption); (case zzkp => k_mem); (case zzkq => k_mem); (case zzkT => assumption); (case zzkU => exact T431L.heap (Bd.one (by assumption)) (by k_asm) (by walk_at "SUBTAIL")); (case zzkc => assumption); (case zzkd => assumption); k_whole; intro _ _ _ _ _ _ _ _ _ _ _ hU' _ _ _ hR'; (try rw [unRows_secs] at hR'); (revert hR'; intro _); (have _ := hU' _ _ (by k_upd) (by k_upd)); (clear hU'); (try k_sweep)))
  k_with "call ref" => (k_here; (with_reducible show wpAny _ _ (call (Value.ref 434) _) _ _ _); (have hBd := Bd.one (by assumption)); (clear hBd); refine Halt.out ?_)
  exact True.intro
theorem words_32m : True := by
  k_with "call builtin:sum" => (k_here; (with_reducible show wpAny _ _ (call (Value.builtin _) [Value.ref _]) _ _ _); k_dflt (refine' sum_l ?zzkF ?zzkN ?zzkh ?zzkl ?zzki ?_; (case zzkF => k_asm); (case zzkN => k_asm); (case zzkh => rfl); (case zzkl => k_mem); (case zzki => assumption); k_whole; intro _ _ _ _ _; (try k_sweep)))
  k_with "binaryOp Mult" => (k_here; (with_reducible show wpAny _ _ (binaryOp .Mult (Value.ref _) (Value.int _ _)) _ _ _); refine Halt.out ?_)
  k_with "binaryOp Mult ref int" => (k_here; (with_reducible show wpAny _ _ (binaryOp .Mult (Value.ref _) (Value.int _ _)) _ _ _); refine Halt.out ?_)
  exact True.intro
theorem words_35m : True := by
  k_with "compareOp NotEq ref ref" => (k_here; (with_reducible show wpAny _ _ (compareOp .NotEq (Value.ref _) (Value.ref _)) _ _ _); (have zz : StopNe := by assumption); (clear zz); refine Halt.out ?_)
  k_with "compareOp Eq ref ref" => (k_here; (with_reducible show wpAny _ _ (compareOp .Eq (Value.ref _) (Value.ref _)) _ _ _); (have zz : StopNe := by assumption); (clear zz); refine Halt.out ?_)
  k_with "eval IfExp" => (k_here; (with_reducible show wpAny _ _ (eval (Expr.IfExp _ _ _ _) _) _ _ _); (have zz : StopNe := by assumption); (clear zz); refine Halt.out ?_)
  k_with "binaryOp Add" => (k_here; (with_reducible show wpAny _ _ (binaryOp _ (Value.ref _) (Value.ref _)) _ _ _); (have zz : StopNe := by assumption); (clear zz); k_dflt (refine' add_l ?zzF ?zzN ?zzh1 ?zzh2 ?zzz ?_; (case zzF => k_asm); (case zzN => k_asm); (case zzh1 => k_mem); (case zzh2 => k_mem); (case zzz => first | assumption | (simp only [List.length_append, List.length_take, List.length_drop, List.length_cons, List.length_nil]; omega)); k_whole; intro _ _ _ _ l1; (try k_lt l1); (try (revert l1; intro _)); (try k_sweep)))
  exact True.intro
/-! ## the law's body, from its end -/
noncomputable def StopX (_ : Nat) : Prop := True
theorem words_stop : True := by
  k_with "execs cons" => (k_here; (have zz : StopX 2 := by with_reducible assumption); (clear zz); (with_reducible show wpAny _ _ (execs (Stmt.For _ _ _ _ _ :: _) _) _ _ _); refine Halt.out ?_)
  k_with "execs cons" => (k_here; (have zz : StopX 8 := by with_reducible assumption); (clear zz); (with_reducible show wpAny _ _ (execs (Stmt.Assign [PySem.Expr.Name (Str.ofString "written") _] _ _ :: _) _) _ _ _); refine Halt.out ?_)
  k_with "execs cons Assign cons" => (k_here; (have zz : StopX 8 := by with_reducible assumption); (clear zz); (with_reducible show wpAny _ _ (execs (Stmt.Assign [PySem.Expr.Name (Str.ofString "written") _] _ _ :: _) _) _ _ _); refine Halt.out ?_)
  k_with "execs cons" => (k_here; (have zz : StopX 15 := by with_reducible assumption); (clear zz); (with_reducible show wpAny _ _ (execs (Stmt.Assign [PySem.Expr.Name (Str.ofString "more") _] _ _ :: _) _) _ _ _); refine Halt.out ?_)
  k_with "execs cons" => (k_here; (have zz : StopX 17 := by with_reducible assumption); (clear zz); (with_reducible show wpAny _ _ (execs (Stmt.Assign [PySem.Expr.Name (Str.ofString "count") _] _ _ :: _) _) _ _ _); refine Halt.out ?_)
  exact True.intro
noncomputable abbrev lawE (L0 : Addr) : Env := envOfC (Str.ofString "law") (scopeOf (st9 36)) L0 439 (.ref 438)
noncomputable abbrev lawS (n : Nat) : List Stmt := (bodyOf (st9 36)).drop n
structure LawG (w : World) (p : Program) (loose : List Str) (mean : ExcName → Option Value) (mg mb : Str → Option Value) (g0 : Heap) (dp un : Nat) : Prop where
  X0 : (K w.params).In g0
  T0 : Top p loose mean mg mb g0
  hd : dp + 60 < recursionLimit
  hu : un + 500 < cLine
  hc9 : CodeHd g0 77 73
  hc8 : CodeHd g0 433 431
  hnS : ∀ i, i < 4 → NameOk w (nmS i)
  hnP : ∀ t, t < 2 → NameOk w (nmP t)
structure Nes (secL nA c1 c2 : Addr) : Prop where
  n1 : @Ne Nat nA c1
  n2 : @Ne Nat nA c2
  n3 : @Ne Nat nA 73
  n4 : @Ne Nat nA 431
  n5 : @Ne Nat secL nA
  n6 : @Ne Nat secL c1
  n7 : @Ne Nat secL c2
  n8 : @Ne Nat secL 73
  n9 : @Ne Nat secL 431
  z1 : @Ne Nat c1 73
  z2 : @Ne Nat c1 431
  z3 : @Ne Nat c2 73
  z4 : @Ne Nat c2 431
  z5 : @Ne Nat 73 431
noncomputable def LawEnd (s : Shared) (g0 : Heap) (L0 : Addr) (Q : Flow → Shared → Prop) : Prop := ∀ h' tk' m p7 p4, Fr g0 L0 h' m → h'.get? 73 = some (tabObj p7) → h'.get? 431 = some (tabObj p4) → Q (.ret (.bool true)) { s with heap := h', toks := tk' }
theorem one_pack0 {g h : Heap} {L a b c d e : Addr} {oa ob oc od oe : Obj} {p7 p4 : Array Value} {R : Led}
    (N : News g L h ((e, oe) :: (a, oa) :: (b, ob) :: (c, oc) :: (d, od) :: (73, tabObj p7) :: (431, tabObj p4) :: R)) (hne : @Ne Nat e a ∧ @Ne Nat e b ∧ @Ne Nat e c ∧ @Ne Nat e d ∧ @Ne Nat e 73 ∧ @Ne Nat e 431) (k : Off6 a b c d R) :
    ∃ R', News g L h ((a, oa) :: (b, ob) :: (c, oc) :: (d, od) :: (73, tabObj p7) :: (431, tabObj p4) :: R') ∧ Off6 a b c d R' ∧ (∀ p ∈ R, p ∈ R') ∧ (e, oe) ∈ R' :=
  ⟨(e, oe) :: R, fun p hp => N p (sub61 p hp), k.cons hne, fun _ hp => .tail _ hp, .head _⟩
section
variable {prog : Program} {w : World} {dp un : Nat} {fr : Option (List Env)} {gd : Option (List Code)} {s : Shared} {g0 h0 : Heap} {p : Program} {loose : List Str} {mean : ExcName → Option Value} {mg mb : Str → Option Value}
variable {Q : Flow → Shared → Prop} {E : Value → Shared → Prop} {L0 secL nA c1 c2 D3 D4 D5 D17 D19 l3 x1 x2 : Addr} {oN1 oS : Obj} {M : Str → Option Value} {sv ys rs zs zsa zsb vs' : List Value} {nV nN tk c q' : Nat} {ps ps2 : Array Value} {R : Led} {Ss : List Sec} {tc tS : Tok}
set_option maxHeartbeats 4000000 in
theorem law_g (G : LawG w p loose mean mg mb g0 dp un) (ne : Nes secL nA c1 c2) (hSs : Ss.length ≤ 4) (hSs1 : 1 ≤ Ss.length) (i8 : ∀ S ∈ Ss, SecOk S)
    (F : Fr g0 L0 h0 M) (N : News g0 L0 h0 ((secL, listOf (List.toArray sv) nV) :: (nA, listOf (List.toArray vs') nN) :: (c1, oN1) :: (c2, oS) :: (73, tabObj ps) :: (431, tabObj ps2) :: R)) (k : Off6 secL nA c1 c2 R) (hT : T73 ps)
    (B : Bd sv ys rs Ss D3 D5 R ps2)
    (toka : ToksIn w R zsa (unsTok ((Ss.take c).flatMap (secUns false)))) (tokb : ToksIn w R zsb (unsTok ((Ss.drop c).flatMap (secUns false)))) (ma : (D17, LCg.lst zsa) ∈ R) (mb9 : (D19, LCg.lst zsb) ∈ R) (ra : zsa.length ≤ 108) (rb : zsb.length ≤ 108) (hc4 : c < sv.length)
    (ml3 : (l3, listOf (List.toArray [Value.ref x1, Value.ref x2]) 0) ∈ R) (tokm : ToksIn w R [.ref x1, .ref x2] (unTok (.par (Str.ofString "NEW-1"))))
    (mPa : M (Str.ofString "parts") = some (.ref D3)) (mDu : M (Str.ofString "due") = some (.ref D5)) (mCu : M (Str.ofString "cut") = some (.int c tc)) (mAh : M (Str.ofString "ahead") = some (.ref D17)) (mBe : M (Str.ofString "behind") = some (.ref D19)) (mMo : M (Str.ofString "more") = some (.ref l3)) (mSc : M (Str.ofString "section") = some (.str (secName (Ss.take c) (Str.ofString "")) tS))
    (h : LawEnd s g0 L0 Q) : wpAny (model prog w) ((Ar dp fr gd un).deeper (lawE L0)) (execs (lawS 17) (lawE L0)) Q E { s with heap := h0, toks := tk } := by
  have reg : (K, PySem.Challenge.rw_pb0258_01).1 = K := by (k_fill; rfl)
  clear reg
  have G' := id G
  have ne' := id ne
  obtain ⟨X0, T0, hd, hu, hc9, hc8, hnS, hnP⟩ := G'
  obtain ⟨n1, n2, n3, n4, n5, n6, n7, n8, n9, z1, z2, z3, z4, z5⟩ := ne'
  show wpAny _ _ (execs (_ :: _) (envOfC _ ⟨_, _, _, _, _⟩ _ _ _)) _ _ _
  obtain ⟨_, t2, t3, t4, t7, t8⟩ := id B
  have hsv := t2.length
  have hsv2 : sv.length ≤ 2 ^ 20 := by omega
  have hc0 : (0 : Int) ≤ (c : Int) := by omega
  have ta : ∀ S ∈ Ss.take c, SecOk S := fun S hS => i8 S (List.mem_of_mem_take hS)
  have tza : (Ss.take c).length ≤ 4 := by rw [List.length_take]; omega
  have tb : ∀ S ∈ Ss.drop c, SecOk S := fun S hS => i8 S (List.mem_of_mem_drop hS)
  have tzb : (Ss.drop c).length ≤ 4 := by rw [List.length_drop]; omega
  have hoka := uns_oks hnS hnP ta false
  have hokb := uns_oks hnS hnP tb false
  have stop : StopNe := trivial
  k_steps
  refine ⟨?_⟩
  (rename Fr _ _ _ _ => F28)
  (rename News _ _ _ _ => N28)
  have hpl := t3.length
  rw [List.length_map] at hpl
  refine LCg.ListComp_U F28 (by with_unfolding_all rfl) (by decide) (by rfl) (by decide) (by rfl) ?_
  k_steps
  refine ⟨?_⟩
  rename_i P9 _ F29 N29 lp9
  obtain ⟨R30, N31, k31, B31, s31, m31⟩ := one_pack N29 (offs6 lp9) k B
  have t30 := (t3.mono s31).take c
  rw [← List.map_take] at t30
  have toka30 := toka.mono s31
  have tokb30 := tokb.mono s31
  have tokm30 := tokm.mono s31
  have ma30 := s31 _ ma
  have mb30 := s31 _ mb9
  have ml30 := s31 _ ml3
  clear N29 lp9 k B s31 toka tokb tokm ma mb9 ml3 t2 t3 t4 t7 t8; (try clear F28); (try clear N28); (try clear N); (try clear F)
  refine LCg.CompSrc.ledger (by rfl) F29 N31 (.tail _ (.tail _ (.tail _ (.tail _ (.tail _ (.tail _ m31)))))) (by rw [List.size_toArray, List.length_take]; unfold sizeLine; omega) fun g5 => ?_
  refine rest_ind (n := _) (fun i zs nw => nw = (secL, listOf (List.toArray sv) nV) :: (nA, listOf (List.toArray vs') nN) :: (c1, oN1) :: (c2, oS) :: (73, tabObj ps) :: (431, tabObj ps2) :: R30 ∧ IntsAre zs (((Ss.take c).take i).map fun S => ((rowsOf S).length : Int))) ?_ ?_ _ 0 [] _ (Nat.zero_add _) ⟨rfl, .nil⟩
  · rintro zs nw ⟨rfl, hz9⟩
    intro D30 h30 tk30 F30 N30 off30
    rw [List.size_toArray, Int.toNat_natCast, t30.length, List.length_map, List.take_length] at hz9
    simp only [LCg.Off1] at off30
    have hz26 : (zsa ++ [Value.ref x1, Value.ref x2]).length + zsb.length ≤ 2 ^ 21 := by
      rw [List.length_append]; simp only [List.length_cons, List.length_nil]; omega
    clear t30 m31
    k_steps
    refine ⟨?_⟩
    rename_i _ _ ts _ Da _ la Db _ F34 N34 lb
    obtain ⟨R34, N35, k35, B35, s35, u35⟩ := top_pack [(Db, _), (Da, _), (D30, _)] N34 (.cons (offs6 lb.2.2) (.cons (offs6 la.2) (.cons ⟨Ne.symm off30.1, Ne.symm off30.2.1, Ne.symm off30.2.2.1, Ne.symm off30.2.2.2.1, Ne.symm off30.2.2.2.2.1, Ne.symm off30.2.2.2.2.2.1⟩ off6_nil))) k31 B31
    have mdb := u35 _ (.head _)
    have tok35 := (more_toks toka30 tokm30 tokb30).mono s35
    have hok35 := more_ok hoka hokb (nameN w)
    have hfw35 : (unsTok ((Ss.take c).flatMap (secUns false) ++ .par (Str.ofString "NEW-1") :: (Ss.drop c).flatMap (secUns false))).length < 2 ^ 20 := by
      rw [← tok35.length, List.length_append, List.length_append]; simp only [List.length_cons, List.length_nil]; omega
    simp only [lens_sum] at F34
    clear N34 lb la off30 k31 B31 s35 u35 hz26 hz9 toka30 tokm30 tokb30 ma30 mb30 ml30
    have j73 := k35.n73
    have j431 := k35.n431
    walk_at "ROWS"
    rename_i qg vsg nqg nwg psh psi _ _ hTg hPg Fg Mg hGg hmg hRg Ng
    obtain ⟨Rg, Nh, kg, Bg, sg, ug⟩ := rows_pack Ng Mg hGg k35 B35 hPg
    rw [unRows_more] at hRg
    have hRh := hRg.mono ug
    have hmh := ug _ hmg
    clear Ng Mg hGg hRg hPg hmg k35 B35 j73 j431 mdb tok35 hok35 hfw35; (try clear F34); (try clear N35)
    obtain ⟨_, t2, t3, t4, t7, t8⟩ := id Bg
    have hrs : rs.length ≤ 2 ^ 20 := by
      have := rowsOf_lens i8
      rw [t7.length]; omega
    k_steps
    refine ⟨?_⟩
    rename_i V5 _ lv5 V4 _ lv4 V3 _ lv3 VL _ lvL V2 _ lv2 V1 _ lv1 V0 _ Fz Nz lv0
    clear lv5 lv4 lv3 lvL lv2 lv1 lv0 stop
    have e1 := t7.take ((Ss.take c).flatMap rowsOf).length
    have e2 := t7.drop ((Ss.take c).flatMap rowsOf).length
    rw [rows_take] at e1
    rw [rows_drop] at e2
    refine eq_rows (rs := (Ss.take c).flatMap rowsOf ++ [(Str.ofString "NEW-1", secName (Ss.take c) (Str.ofString ""), 0)] ++ (Ss.drop c).flatMap rowsOf) Nz Nz (ldT hmh) (.head _) (hRh.mono fun p hp => ldT hp) ?tt (more_rowsOk ta tb) (by k_units) ?_
    case tt =>
      refine ((e1.mono fun p hp => ldT hp).app (.cons (r := ((Str.ofString "NEW-1", secName (Ss.take c) (Str.ofString ""), 0) : RowD)) ⟨V3, _, V4, _, _, tS, [], rfl, .tail _ (.tail _ (.tail _ (.tail _ (.head _)))), .tail _ (.tail _ (.tail _ (.tail _ (.tail _ (.head _))))), rfl, fun _ h => nomatch h⟩ .nil)).app (e2.mono fun p hp => ldT hp)
    exact h _ _ _ _ _ Fz (Nz.get (.tail _ (.tail _ (.tail _ (.tail _ (.tail _ (.tail _ (.tail _ (.tail _ (.tail _ (.tail _ (.tail _ (.head _))))))))))))) (Nz.get (.tail _ (.tail _ (.tail _ (.tail _ (.tail _ (.tail _ (.tail _ (.tail _ (.tail _ (.tail _ (.tail _ (.tail _ (.head _))))))))))))))
  · rintro i zs nw hi ⟨rfl, hz9⟩ v I' oI' C' oC' D' m' h' tk' E' hv hC' hx' F' N' off' ne'
    obtain ⟨r, hr1, q8, nq8, vs8, rfl, c1, c2⟩ := t30.get (by simpa using hv)
    rw [List.getElem?_map] at hr1
    obtain ⟨S, hS1, rfl⟩ := Option.map_eq_some_iff.mp hr1
    have hS4 := ta S (List.mem_of_getElem? hS1)
    have y := c2.length
    have hS5 := rowsOf_len hS4
    have y2 : vs8.length ≤ 2 ^ 20 := by omega
    k_steps
    refine ⟨?_⟩
    (rename News _ _ _ _ => N9)
    (rename Fr _ _ _ _ => F9)
    refine LCg.CompEnd.intro F9 N9 _ (fun p hp => hp) off' (.inr ⟨_, .tail _ (.tail _ (.tail _ (.tail _ (.tail _ (.tail _ m31))))), rfl, _, rfl⟩) ⟨rfl, ?_⟩
    rw [List.take_add_one, hS1]
    simp only [Option.toList, List.map_append, List.map_cons, List.map_nil]
    rw [← y]
    exact hz9.append (.cons _ _ .nil)
set_option maxHeartbeats 4000000 in
theorem law_f (G : LawG w p loose mean mg mb g0 dp un) (ne : Nes secL nA c1 c2) (hSs : Ss.length ≤ 4) (hSs1 : 1 ≤ Ss.length) (i8 : ∀ S ∈ Ss, SecOk S)
    (F : Fr g0 L0 h0 M) (N : News g0 L0 h0 ((secL, listOf (List.toArray sv) nV) :: (nA, listOf (List.toArray vs') nN) :: (c1, oN1) :: (c2, oS) :: (73, tabObj ps) :: (431, tabObj ps2) :: R)) (k : Off6 secL nA c1 c2 R) (hT : T73 ps)
    (B : Bd sv ys rs Ss D3 D5 R ps2)
    (toka : ToksIn w R zsa (unsTok ((Ss.take c).flatMap (secUns false)))) (tokb : ToksIn w R zsb (unsTok ((Ss.drop c).flatMap (secUns false)))) (ma : (D17, LCg.lst zsa) ∈ R) (mb9 : (D19, LCg.lst zsb) ∈ R) (ra : zsa.length ≤ 108) (rb : zsb.length ≤ 108) (hc4 : c < sv.length)
    (mSe : M (Str.ofString "sections") = some (.ref secL)) (mPa : M (Str.ofString "parts") = some (.ref D3)) (mDu : M (Str.ofString "due") = some (.ref D5)) (mCu : M (Str.ofString "cut") = some (.int c tc)) (mAh : M (Str.ofString "ahead") = some (.ref D17)) (mBe : M (Str.ofString "behind") = some (.ref D19))
    (h : LawEnd s g0 L0 Q) : wpAny (model prog w) ((Ar dp fr gd un).deeper (lawE L0)) (execs (lawS 15) (lawE L0)) Q E { s with heap := h0, toks := tk } := by
  have reg : (K, PySem.Challenge.rw_pb0258_01).1 = K := by (k_fill; rfl)
  clear reg
  have G' := id G
  have ne' := id ne
  obtain ⟨X0, T0, hd, hu, hc9, hc8, hnS, hnP⟩ := G'
  obtain ⟨n1, n2, n3, n4, n5, n6, n7, n8, n9, z1, z2, z3, z4, z5⟩ := ne'
  show wpAny _ _ (execs (_ :: _) (envOfC _ ⟨_, _, _, _, _⟩ _ _ _)) _ _ _
  obtain ⟨_, t2, t3, t4, t7, t8⟩ := id B
  have hsv := t2.length
  have hsv2 : sv.length ≤ 2 ^ 20 := by omega
  have hc0 : (0 : Int) ≤ (c : Int) := by omega
  have ta : ∀ S ∈ Ss.take c, SecOk S := fun S hS => i8 S (List.mem_of_mem_take hS)
  have tza : (Ss.take c).length ≤ 4 := by rw [List.length_take]; omega
  have tb : ∀ S ∈ Ss.drop c, SecOk S := fun S hS => i8 S (List.mem_of_mem_drop hS)
  have tzb : (Ss.drop c).length ≤ 4 := by rw [List.length_drop]; omega
  have stop : StopNe := trivial
  have stopX : StopX 17 := trivial
  k_steps
  refine ⟨?_⟩
  rename_i tq0 D8 _ ld8 x1 d1 _ _ _ _ _ _ le1 lf1 x2 d2 _ _ _ _ _ _ _ le2 lf2 l3 _ ll3 h26 F26 N26
  obtain ⟨R26, N27, k26, B26, s26, u26⟩ := top_pack [(l3, _), (x2, _), (d2, _), (x1, _), (d1, _), (D8, _)] N26 (.cons (offs6 ll3.2.2.2.2.2) (.cons (offs6x le2.2.2.2 lf2) (.cons (offs6 le2.2.2.2) (.cons (offs6x le1.2 lf1) (.cons (offs6 le1.2) (.cons (offs6 ld8) off6_nil)))))) k B
  have ml3 := u26 _ (.head _)
  have tokm : ToksIn w R26 [.ref x1, .ref x2] (unTok (.par (Str.ofString "NEW-1"))) := .cons ⟨_, _, _, _, _, _, _, _, _, rfl, u26 _ (.tail _ (.tail _ (.tail _ (.head _)))), u26 _ (.tail _ (.tail _ (.tail _ (.tail _ (.head _)))))⟩ (.cons ⟨_, _, _, _, _, _, _, _, _, rfl, u26 _ (.tail _ (.head _)), u26 _ (.tail _ (.tail _ (.head _)))⟩ .nil)
  have toka26 := toka.mono s26
  have tokb26 := tokb.mono s26
  have ma26 := s26 _ ma
  have mb26 := s26 _ mb9
  clear N26 ll3 le2 lf2 le1 lf1 ld8 k B s26 u26 toka tokb ma mb9; (try clear N); (try clear F)
  clear t2 t3 t4 t7 t8
  obtain ⟨_, t2, t3, t4, t7, t8⟩ := id B26
  refine wpAny_mono (Q := SecEnd (secName (Ss.take c) (Str.ofString "")) s h26) ?kk1 ?kk2 (fun _ _ x => x)
  case kk1 =>
    clear stop stopX
    rcases Nat.eq_zero_or_pos c with hc1 | hc1
    · have hc2 : ((c : Int) > 0) = False := by simp; omega
      k_steps
      exact SecEnd.intro (by rw [hc1]; rfl)
    · have hc2 : (c : Int) > 0 := by omega
      obtain ⟨S, hS1⟩ : ∃ S, Ss[c - 1]? = some S := ⟨_, List.getElem?_eq_getElem (by omega)⟩
      obtain ⟨v9, hv9⟩ : ∃ v, sv[c - 1]? = some v := ⟨_, List.getElem?_eq_getElem (by omega)⟩
      obtain ⟨S', hS2, q, nq, u, le, ne, lv, pa, np, pv, rfl, b1, b2, b3, b4, b5⟩ := t2.get hv9
      obtain rfl : S = S' := by rw [hS1] at hS2; exact Option.some.inj hS2
      have hv10 : sv[((c : Int) - 1).toNat]? = some (.ref q) := by
        rw [show ((c : Int) - 1).toNat = c - 1 by omega]; exact hv9
      have e9 : secName (Ss.take c) (Str.ofString "") = S.1 := by
        have := secName_take (x := Str.ofString "") hS1
        rwa [show c - 1 + 1 = c by omega] at this
      have h2 : (0 : Int) ≤ (c : Int) - 1 := by omega
      have h3 : (c : Int) - 1 < 2 ^ 63 := by omega
      k_steps
      exact SecEnd.intro e9.symm
  case kk2 =>
    rintro _ _ ⟨tS, tk27, rfl, rfl⟩
    k_steps
    refine ⟨?_⟩
    (rename Fr _ _ _ _ => F28)
    (rename News _ _ _ _ => N28)
    exact law_g G ne hSs hSs1 i8 F28 N28 k26 hT B26 toka26 tokb26 ma26 mb26 ra rb hc4 ml3 tokm (by walk_at "LOOK") (by walk_at "LOOK") (by walk_at "LOOK") (by walk_at "LOOK") (by walk_at "LOOK") (by walk_at "LOOK") (by walk_at "LOOK") h
set_option maxHeartbeats 4000000 in
theorem law_e (G : LawG w p loose mean mg mb g0 dp un) (ne : Nes secL nA c1 c2) (hSs : Ss.length ≤ 4) (hSs1 : 1 ≤ Ss.length) (i8 : ∀ S ∈ Ss, SecOk S)
    (F : Fr g0 L0 h0 M) (N : News g0 L0 h0 ((secL, listOf (List.toArray sv) nV) :: (nA, listOf (List.toArray vs') nN) :: (c1, oN1) :: (c2, oS) :: (73, tabObj ps) :: (431, tabObj ps2) :: R)) (k : Off6 secL nA c1 c2 R) (hT : T73 ps)
    (B : Bd sv ys rs Ss D3 D5 R ps2)
    (toka : ToksIn w R zsa (unsTok ((Ss.take c).flatMap (secUns false)))) (tokb : ToksIn w R zsb (unsTok ((Ss.drop c).flatMap (secUns false)))) (ma : (D17, LCg.lst zsa) ∈ R) (mb9 : (D19, LCg.lst zsb) ∈ R) (ra : zsa.length ≤ 108) (rb : zsb.length ≤ 108) (hc4 : c < sv.length)
    (mSe : M (Str.ofString "sections") = some (.ref secL)) (mPa : M (Str.ofString "parts") = some (.ref D3)) (mDu : M (Str.ofString "due") = some (.ref D5)) (mCu : M (Str.ofString "cut") = some (.int c tc)) (mAh : M (Str.ofString "ahead") = some (.ref D17)) (mBe : M (Str.ofString "behind") = some (.ref D19))
    (h : LawEnd s g0 L0 Q) : wpAny (model prog w) ((Ar dp fr gd un).deeper (lawE L0)) (execs (lawS 14) (lawE L0)) Q E { s with heap := h0, toks := tk } := by
  have reg : (K, PySem.Challenge.rw_pb0258_01).1 = K := by (k_fill; rfl)
  clear reg
  have G' := id G
  have ne' := id ne
  obtain ⟨X0, T0, hd, hu, hc9, hc8, hnS, hnP⟩ := G'
  obtain ⟨n1, n2, n3, n4, n5, n6, n7, n8, n9, z1, z2, z3, z4, z5⟩ := ne'
  show wpAny _ _ (execs (_ :: _) (envOfC _ ⟨_, _, _, _, _⟩ _ _ _)) _ _ _
  obtain ⟨_, t2, t3, t4, t7, t8⟩ := id B
  have hsv := t2.length
  have hsv2 : sv.length ≤ 2 ^ 20 := by omega
  have hc0 : (0 : Int) ≤ (c : Int) := by omega
  have ta : ∀ S ∈ Ss.take c, SecOk S := fun S hS => i8 S (List.mem_of_mem_take hS)
  have tza : (Ss.take c).length ≤ 4 := by rw [List.length_take]; omega
  have tb : ∀ S ∈ Ss.drop c, SecOk S := fun S hS => i8 S (List.mem_of_mem_drop hS)
  have tzb : (Ss.drop c).length ≤ 4 := by rw [List.length_drop]; omega
  have hro9 := rowsOf_oks i8
  clear t2 t3 t4 t7 t8
  have j73 := k.n73
  have j431 := k.n431
  have hoka := uns_oks hnS hnP ta false
  have hfwa := uns_few ta tza false
  have hokb := uns_oks hnS hnP tb false
  have hfwb := uns_few tb tzb false
  k_steps
  refine ⟨?_⟩
  walk_at "ROWS"
  rename_i qa vsa nqa nwa psd pse _ _ hTd hPd Fd Md hGd hmd hRd Nd
  obtain ⟨Rd, Ne, kd, Bd', sd, ud⟩ := rows_pack Nd Md hGd k B hPd
  have hRa := hRd.mono ud
  have hma := ud _ hmd
  have toka21 := toka.mono sd
  have tokb21 := tokb.mono sd
  have ma21 := sd _ ma
  have mb21 := sd _ mb9
  clear Nd Md hGd hRd hPd hmd k B j73 j431 toka tokb ma mb9 sd ud; (try clear N); (try clear F)
  have j73 := kd.n73
  have j431 := kd.n431
  k_steps
  refine ⟨?_⟩
  walk_at "ROWS"
  rename_i qe vse nqe nwe psf psg _ _ hTe hPe Fe Me hGe hme hRe Ne
  obtain ⟨Re, Nf, ke, Be, se, ue⟩ := rows_pack Ne Me hGe kd Bd' hPe
  have hRa2 := hRa.mono se
  have hma2 := se _ hma
  have hRb2 := hRe.mono ue
  have hmb2 := ue _ hme
  have toka22 := toka21.mono se
  have tokb22 := tokb21.mono se
  have ma22 := se _ ma21
  have mb22 := se _ mb21
  clear Ne Me hGe hRe hPe hme kd Bd' j73 j431 toka21 tokb21 ma21 mb21 se ue hRa hma; (try clear Fd)
  have hz22 : vsa.length + vse.length ≤ 2 ^ 21 := by
    have := rowsOf_lens ta
    have := rowsOf_lens tb
    rw [hRa2.length, hRb2.length]; omega
  have stop : StopNe := trivial
  k_steps
  refine ⟨?_⟩
  rename_i Ds _ Fs Ns ls
  obtain ⟨R24, N24, k24, B24, s24, m24⟩ := one_pack Ns (offs6 ls) ke Be
  have hR24 := (hRa2.mono s24).app (hRb2.mono s24)
  rw [← List.flatMap_append, List.take_append_drop] at hR24
  obtain ⟨_, t2, t3, t4, t7, t8⟩ := id B24
  refine' ne_rows ?Na ?Na2 m24 t8 hR24 t7 hro9 (by k_units) ?_
  case Na => exact news_sub N24 fun p hp => .tail _ (.tail _ (.tail _ (.tail _ (.tail _ (.tail _ hp)))))
  case Na2 => exact news_sub N24 fun p hp => .tail _ (.tail _ (.tail _ (.tail _ (.tail _ (.tail _ hp)))))
  have toka24 := toka22.mono s24
  have tokb24 := tokb22.mono s24
  have ma24 := s24 _ ma22
  have mb24 := s24 _ mb22
  clear Ns ls ke Be toka22 tokb22 ma22 mb22 s24 hRa2 hRb2 hma2 hmb2 hz22 hR24 m24; (try clear Nf); (try clear Fe)
  have stopX : StopX 15 := trivial
  k_steps
  refine ⟨?_⟩
  exact law_f G ne hSs hSs1 i8 Fs N24 k24 hTe B24 toka24 tokb24 ma24 mb24 ra rb hc4 mSe mPa mDu mCu mAh mBe h
set_option maxHeartbeats 4000000 in
theorem law_d (G : LawG w p loose mean mg mb g0 dp un) (ne : Nes secL nA (L0 + 1 + 1) (L0 + 1)) (hSs : Ss.length ≤ 4) (hSs1 : 1 ≤ Ss.length) (i8 : ∀ S ∈ Ss, SecOk S)
    (F : Fr g0 L0 h0 M) (N : News g0 L0 h0 ((secL, listOf (List.toArray sv) nV) :: (nA, listOf (List.toArray vs') nN) :: (L0 + 1 + 1, oN1) :: (L0 + 1, oS) :: (73, tabObj ps) :: (431, tabObj ps2) :: R)) (k : Off6 secL nA (L0 + 1 + 1) (L0 + 1) R) (hT : T73 ps)
    (B : Bd sv ys rs Ss D3 D5 R ps2)
    (dN1 : oN1.data = .cell (some (.ref nA))) (i1 : NumsAre vs' q') (hq1 : 1 ≤ q') (hq3 : q' ≤ 1000) {wL : Addr} {ws : List Value} {nW : Nat} (m13 : (wL, listOf (List.toArray ws) nW) ∈ R) (hR13 : ToldsIn R ws (Ss.flatMap rowsOf))
    (mSe : M (Str.ofString "sections") = some (.ref secL)) (mPa : M (Str.ofString "parts") = some (.ref D3)) (mDu : M (Str.ofString "due") = some (.ref D5)) (mWr : M (Str.ofString "written") = some (.ref wL))
    (h : LawEnd s g0 L0 Q) : wpAny (model prog w) ((Ar dp fr gd un).deeper (lawE L0)) (execs (lawS 10) (lawE L0)) Q E { s with heap := h0, toks := tk } := by
  have reg : (K, PySem.Challenge.rw_pb0258_01).1 = K := by (k_fill; rfl)
  clear reg
  have G' := id G
  have ne' := id ne
  obtain ⟨X0, T0, hd, hu, hc9, hc8, hnS, hnP⟩ := G'
  obtain ⟨n1, n2, n3, n4, n5, n6, n7, n8, n9, z1, z2, z3, z4, z5⟩ := ne'
  show wpAny _ _ (execs (_ :: _) (envOfC _ ⟨_, _, _, _, _⟩ _ _ _)) _ _ _
  obtain ⟨_, t2, t3, t4, t7, t9⟩ := id B
  have hsv := t2.length
  have hro9 := rowsOf_oks i8
  have jnA : ∀ p ∈ R, p.1 ≠ nA := fun p hp => (k p hp).2.1
  k_steps
  refine ⟨?_⟩
  rename_i x9 _ _ hx9 hy9 hN9 _ F14 N14
  obtain ⟨c, hc, hc4⟩ : ∃ c : Nat, x9.fmod (sv.length : Int) = (c : Int) ∧ c < sv.length := by
    have e : x9.fmod (sv.length : Int) = x9 % (sv.length : Int) := Int.fmod_eq_emod_of_nonneg _ (by omega)
    have e1 := Int.emod_nonneg x9 (b := (sv.length : Int)) (by omega)
    have e2 := Int.emod_lt_of_pos x9 (b := (sv.length : Int)) (by omega)
    exact ⟨(x9.fmod (sv.length : Int)).toNat, by omega, by omega⟩
  simp only [hc] at F14
  clear jnA hN9 hx9 hy9 hc hR13 m13 t3 t4 t7
  have hsv2 : sv.length ≤ 2 ^ 20 := by omega
  have hc0 : (0 : Int) ≤ (c : Int) := by omega
  refine Assign_ListComp_F F14 (by rfl) (by with_unfolding_all rfl) (by with_unfolding_all rfl) (by decide) (by rfl) (by decide) (by rfl) (by rfl) (by decide) (fun _ _ => rfl) (by rfl) (by rfl) ?_
  k_steps
  rename_i S9 _ F15 N15 ls9
  obtain ⟨R16, N16, k16, B16, s16, m16⟩ := one_pack N15 (offs6 ls9) k B
  have t16 := (t2.mono s16).take c
  have ta : ∀ S ∈ Ss.take c, SecOk S := fun S hS => i8 S (List.mem_of_mem_take hS)
  have tza : (Ss.take c).length ≤ 4 := by rw [List.length_take]; omega
  clear N15 ls9 k B t2; (try clear N14); (try clear F14); (try clear N); (try clear F)
  refine flat_src false X0 T0 F15 (fix := [(secL, _), (nA, _), (L0 + 1 + 1, _), (L0 + 1, _), (73, _), (431, _)]) (R := R16) N16 (by k_room) (by k_units) (List.mem_append_right _ m16) t16 ta tza k16.all ?ev ?fin
  case ev =>
    intro v I oI C oC D ys m₂ h tk nw Q E hC hx F N hc
    k_steps
  case fin =>
    intro zsa R17 r1 r2 ra r4 D17 h17 tk17 F17 N17 off17
    simp only [LCg.Off1, List.cons_append, List.nil_append] at off17 N17
    obtain ⟨R18, N18, k18, B18, s18, ma⟩ := one_pack N17 ⟨Ne.symm off17.1, Ne.symm off17.2.1, Ne.symm off17.2.2.1, Ne.symm off17.2.2.2.1, Ne.symm off17.2.2.2.2.1, Ne.symm off17.2.2.2.2.2.1⟩ (Off6.of r4) (B16.more r1)
    have toka := r2.mono (ld' := R18) s18
    clear N17 off17 r1 r2 r4 B16 k16 t16 m16 s16 s18; (try clear N16); (try clear F15)
    obtain ⟨_, t2, t3, t4, t7, t8⟩ := id B18
    clear t3 t4 t7 t8
    k_steps
    refine ⟨?_⟩
    refine Assign_ListComp_F F17 (by rfl) (by with_unfolding_all rfl) (by with_unfolding_all rfl) (by decide) (by rfl) (by decide) (by rfl) (by rfl) (by decide) (fun _ _ => rfl) (by rfl) (by rfl) ?_
    k_steps
    rename_i S9 _ F15 N15 ls9
    obtain ⟨R16, N16, k16, B16, s16, m16⟩ := one_pack N15 (offs6 ls9) k18 B18
    have t16 := (t2.mono s16).drop c
    have tb : ∀ S ∈ Ss.drop c, SecOk S := fun S hS => i8 S (List.mem_of_mem_drop hS)
    have tzb : (Ss.drop c).length ≤ 4 := by rw [List.length_drop]; omega
    have ma16 := s16 _ ma
    have toka16 := toka.mono s16
    clear N15 ls9 k18 B18 t2 ma toka; (try clear N18); (try clear F17)
    refine flat_src false X0 T0 F15 (fix := [(secL, _), (nA, _), (L0 + 1 + 1, _), (L0 + 1, _), (73, _), (431, _)]) (R := R16) N16 (by k_room) (by k_units) (List.mem_append_right _ m16) t16 tb tzb k16.all ?ev2 ?fin2
    case ev2 =>
      intro v I oI C oC D ys m₂ h tk nw Q E hC hx F N hc
      k_steps
    case fin2 =>
      intro zsb R19 r1 r2 rb r4 D19 h19 tk19 F19 N19 off19
      simp only [LCg.Off1, List.cons_append, List.nil_append] at off19 N19
      obtain ⟨R20, N20, k20, B20, s20, mb20⟩ := one_pack N19 ⟨Ne.symm off19.1, Ne.symm off19.2.1, Ne.symm off19.2.2.1, Ne.symm off19.2.2.2.1, Ne.symm off19.2.2.2.2.1, Ne.symm off19.2.2.2.2.2.1⟩ (Off6.of r4) (B16.more r1)
      have tokb := r2.mono (ld' := R20) s20
      have ma20 := s20 _ (r1 _ ma16)
      have toka20 := toka16.mono fun p hp => s20 _ (r1 _ hp)
      clear N19 off19 r1 r2 r4 B16 k16 t16 m16 s16 s20 ma16 toka16; (try clear N16); (try clear F15)
      obtain ⟨M2, F20, mSe, mPa, mDu, mCu, mAh, mBe⟩ : ∃ M2, Fr g0 L0 h19 M2 ∧ M2 (Str.ofString "sections") = some (.ref secL) ∧ M2 (Str.ofString "parts") = some (.ref D3) ∧ M2 (Str.ofString "due") = some (.ref D5) ∧ (∃ t, M2 (Str.ofString "cut") = some (.int c t)) ∧ M2 (Str.ofString "ahead") = some (.ref D17) ∧ M2 (Str.ofString "behind") = some (.ref D19) := ⟨_, F19, by walk_at "LOOK", by walk_at "LOOK", by walk_at "LOOK", ⟨_, by walk_at "LOOK"⟩, by walk_at "LOOK", by walk_at "LOOK"⟩
      obtain ⟨tc, mCu⟩ := mCu
      clear F19
      exact law_e G ne hSs hSs1 i8 F20 N20 k20 hT B20 toka20 tokb ma20 mb20 ra rb hc4 mSe mPa mDu mCu mAh mBe h
set_option maxHeartbeats 4000000 in
theorem law_w (G : LawG w p loose mean mg mb g0 dp un) (ne : Nes secL nA (L0 + 1 + 1) (L0 + 1)) (hSs : Ss.length ≤ 4) (hSs1 : 1 ≤ Ss.length) (i8 : ∀ S ∈ Ss, SecOk S)
    (F : Fr g0 L0 h0 M) (N : News g0 L0 h0 ((secL, listOf (List.toArray sv) nV) :: (nA, listOf (List.toArray vs') nN) :: (L0 + 1 + 1, oN1) :: (L0 + 1, oS) :: (73, tabObj ps) :: (431, tabObj ps2) :: R)) (k : Off6 secL nA (L0 + 1 + 1) (L0 + 1) R) (hT : T73 ps)
    (B : Bd sv ys rs Ss D3 D5 R ps2)
    (dN1 : oN1.data = .cell (some (.ref nA))) (i1 : NumsAre vs' q') (hq1 : 1 ≤ q') (hq3 : q' ≤ 1000)
    (mSe : M (Str.ofString "sections") = some (.ref secL)) (mPa : M (Str.ofString "parts") = some (.ref D3)) (mDu : M (Str.ofString "due") = some (.ref D5))
    (h : LawEnd s g0 L0 Q) : wpAny (model prog w) ((Ar dp fr gd un).deeper (lawE L0)) (execs (lawS 8) (lawE L0)) Q E { s with heap := h0, toks := tk } := by
  have reg : (K, PySem.Challenge.rw_pb0258_01).1 = K := by (k_fill; rfl)
  clear reg
  have G' := id G
  have ne' := id ne
  obtain ⟨X0, T0, hd, hu, hc9, hc8, hnS, hnP⟩ := G'
  obtain ⟨n1, n2, n3, n4, n5, n6, n7, n8, n9, z1, z2, z3, z4, z5⟩ := ne'
  show wpAny _ _ (execs (_ :: _) (envOfC _ ⟨_, _, _, _, _⟩ _ _ _)) _ _ _
  obtain ⟨_, t2, t3, t4, t7, t8⟩ := id B
  clear t3 t4 t7 t8
  k_steps
  refine ⟨?_⟩
  rename_i wL _ lw _ F9 N10
  refine For_at ?_
  walk_at "eval Name"
  refine For_L3 (B := (secL, listOf (List.toArray sv) nV) :: R) (WRow Ss R)
    (WInv secL nA (L0 + 1 + 1) (L0 + 1) wL D3 D5 oN1 oS sv vs' nV nN ps ps2 R Ss)
    (by rfl) (by rfl) (by rfl) (by rfl) (by rfl) F9 N10 (.head _) ?hT ?hB ⟨[], _, R, rfl, fun p hp => hp, k, ?hw, .nil, by walk_at "LOOK", by walk_at "LOOK", by walk_at "LOOK", by walk_at "LOOK"⟩ ?bd ?done
  case hT =>
    intro i v hv
    obtain ⟨S, hS1, q, nq, u, le, ne, lv, pa, np, pv, rfl, a1, a2, a3, a4, a5⟩ := t2.get hv
    exact ⟨q, nq, _, _, _, rfl, .tail _ a1, S, u, le, ne, lv, pa, np, pv, hS1, rfl, rfl, rfl, a2, a3, a4, a5⟩
  case hB =>
    rintro i m led ⟨ws, nW, R9, rfl, a1, _⟩ p hp
    rcases List.mem_cons.mp hp with rfl | hp
    · exact .tail _ (.head _)
    · exact .tail _ (.tail _ (.tail _ (.tail _ (.tail _ (.tail _ (.tail _ (a1 p hp)))))))
  case hw =>
    have l2 := allLt_mem lw.2.2.2.2.2.2
    exact fun p hp => Nat.ne_of_lt (l2 p hp)
  case bd =>
    rintro i v1 v2 v3 m led I oI h8 tk8 E8 hi ⟨S, u, le, ne, lv, pa, np, pv, hS1, rfl, rfl, rfl, b1, b2, b3, b4⟩ ⟨ws, nW, R9, rfl, a1, a2, a3, a4, m1, m2, m3, m4⟩ offI F8 N8
    dsimp only [envOfC] at F8 N8
    have hS4 := i8 S (List.mem_of_getElem? hS1)
    have hi4 : i < 4 := Nat.lt_of_lt_of_le (List.getElem?_eq_some_iff.mp hS1).1 hSs
    have b1' := a1 _ b1
    have b3' := a1 _ b3
    have b4' := b4.mono a1
    clear b1 b3 b4
    have j3 : @Ne Nat wL I := offI _ (.head _)
    have hws : ws.length ≤ 100 := by
      rw [a4.length]
      have := rowsOf_lens (Ts := Ss.take i) fun S hS => i8 S (List.mem_of_mem_take hS)
      rw [List.length_take] at this
      omega
    have hc4 := cs_sum hS4.2.1
    k_steps
    refine ⟨?_⟩
    rename_i T1 _ lt1 T2 _ lt2 _ _ _ F6 N6
    refine mul_tup F6 N6 lt2 (by rw [cnt_sum]; omega) (by rw [cnt_sum]; omega) fun tq nt h6 F7 N7 ltq => ?_
    simp only [AllLt] at ltq
    clear F6 N6
    k_steps
    refine ⟨?_⟩
    rename_i T3 _ lt3 _ F9 N9
    obtain ⟨z11, z12, z13⟩ := offs8 lt1
    obtain ⟨z21, z22, z23⟩ := offs8 lt2.2
    obtain ⟨z31, z32, z33⟩ := offs8 ltq.2
    obtain ⟨z41, z42, z43⟩ := offs8 lt3.2.2.2
    clear lt1 lt2 ltq lt3
    refine For_at ?_
    walk_at "eval Name"
    refine For_L2 (B := R9) (WRow2 S R9)
      (WInv2 secL nA (L0 + 1 + 1) (L0 + 1) wL D3 D5 I oN1 oS oI sv vs' nV nN ps ps2 R9 ((Ss.take i).flatMap rowsOf) S u)
      (by rfl) (by rfl) (by rfl) (by rfl) F9 (fun p hp => N9 p (subW p hp)) b3' ?hT2 ?hB2 ⟨_, _, _, rfl, fun p hp => .tail _ (.tail _ (.tail _ (.tail _ hp))), ((((a2.cons z11).cons z21).cons z31).cons z41), ?hw2, ?hI2, ?tl2, by walk_at "LOOK", by walk_at "LOOK", by walk_at "LOOK", by walk_at "LOOK", by walk_at "LOOK"⟩ ?bd2 ?done2
    case hT2 =>
      intro j v hv
      obtain ⟨p, hp1, t, nt, u', e, ne', ev, rfl, c1, c2, c3⟩ := b4'.get hv
      exact ⟨t, nt, _, _, rfl, c1, p, u', e, ne', ev, hp1, rfl, rfl, c2, c3⟩
    case hB2 =>
      rintro k m led ⟨ws, nW, R11, rfl, a1, _⟩ p hp
      exact .tail _ (.tail _ (.tail _ (.tail _ (.tail _ (.tail _ (.tail _ (.tail _ (a1 p hp))))))))
    case hw2 =>
      simp only [List.forall_mem_cons]
      exact ⟨z42, z32, z22, z12, a3⟩
    case hI2 =>
      simp only [List.forall_mem_cons]
      exact ⟨z43, z33, z23, z13, fun p hp => offI _ (.tail _ (.tail _ (.tail _ (.tail _ (.tail _ (.tail _ (.tail _ hp)))))))⟩
    case tl2 =>
      exact (a4.mono fun p hp => .tail _ (.tail _ (.tail _ (.tail _ hp)))).app (.cons ⟨_, _, _, _, _, _, _, rfl, .head _, .tail _ (.head _), by rw [List.length_replicate, cnt_sum]; rfl, conts_of _ (.tail _ (.tail _ (.tail _ (.head _))))⟩ .nil)
    case bd2 =>
      rintro k v1 v2 m led e oe h8 tk8 E8 hk ⟨p, u', le', ne', ev, hp1, rfl, rfl, d1, d2⟩ ⟨ws, nW, R11, rfl, c1, c2, c3, c4, c5, m1, m2, m3, m4, m5⟩ offE F8 N8
      dsimp only [envOfC] at F8 N8
      have hp4 := (hS4.2.2.2 p (List.mem_of_getElem? hp1)).2
      have hk2 : k < 2 := Nat.lt_of_lt_of_le (List.getElem?_eq_some_iff.mp hp1).1 hS4.2.2.1
      have d1' := c1 _ d1
      have hws : ws.length ≤ 100 := by
        rw [c5.length]
        have := rowsOf_lens (Ts := Ss.take i) fun S hS => i8 S (List.mem_of_mem_take hS)
        rw [List.length_take] at this
        rw [List.length_append, List.length_cons, List.length_map, List.length_take]
        omega
      have hc5 := cs_sum hp4
      have j5 : @Ne Nat wL e := offE _ (.head _)
      have j6 : @Ne Nat I e := offE _ (.tail _ (.head _))
      clear d1 b1' b3' z11 z12 z13 z21 z22 z23 z31 z32 z33 z41 z42 z43
      k_steps
      refine ⟨?_⟩
      rename_i U1 _ lu1 U2 _ lu2 _ _ _ F6 N6
      refine mul_tup F6 N6 lu2 (by rw [cnt_sum]; omega) (by rw [cnt_sum]; omega) fun uq nu h6 F7 N7 ltu => ?_
      simp only [AllLt] at ltu
      clear F6 N6
      k_steps
      rename_i U3 _ lu3 _ F9 N9
      obtain ⟨z11, z12, z13, z14⟩ := offs9 lu1
      obtain ⟨z21, z22, z23, z24⟩ := offs9 lu2.2
      obtain ⟨z31, z32, z33, z34⟩ := offs9 ltu.2
      obtain ⟨z41, z42, z43, z44⟩ := offs9 lu3.2.2.2
      clear lu1 lu2 ltu lu3
      refine ForEnd.intro F9 N9 _ subX ?_ ⟨_, _, _, rfl, fun p hp => .tail _ (.tail _ (.tail _ (.tail _ (c1 _ hp)))), ((((c2.cons z11).cons z21).cons z31).cons z41), ?_, ?_, ?_, by walk_at "LOOK", by walk_at "LOOK", by walk_at "LOOK", by walk_at "LOOK", by walk_at "LOOK"⟩
      · intro p hp
        rcases List.mem_cons.mp hp with rfl | hp
        · exact notin1 j5
        rcases List.mem_cons.mp hp with rfl | hp
        · exact notin1 j6
        rcases List.mem_cons.mp hp with rfl | hp
        · exact notin1 (offE _ (.tail _ (.tail _ (.head _))))
        rcases List.mem_cons.mp hp with rfl | hp
        · exact notin1 (offE _ (.tail _ (.tail _ (.tail _ (.head _)))))
        rcases List.mem_cons.mp hp with rfl | hp
        · exact notin1 (offE _ (.tail _ (.tail _ (.tail _ (.tail _ (.head _))))))
        rcases List.mem_cons.mp hp with rfl | hp
        · exact notin1 (offE _ (.tail _ (.tail _ (.tail _ (.tail _ (.tail _ (.head _)))))))
        rcases List.mem_cons.mp hp with rfl | hp
        · exact notin1 (offE _ (.tail _ (.tail _ (.tail _ (.tail _ (.tail _ (.tail _ (.head _))))))))
        rcases List.mem_cons.mp hp with rfl | hp
        · exact notin1 (offE _ (.tail _ (.tail _ (.tail _ (.tail _ (.tail _ (.tail _ (.tail _ (.head _)))))))))
        rcases List.mem_cons.mp hp with rfl | hp
        · exact notin1 z44
        rcases List.mem_cons.mp hp with rfl | hp
        · exact notin1 z34
        rcases List.mem_cons.mp hp with rfl | hp
        · exact notin1 z24
        rcases List.mem_cons.mp hp with rfl | hp
        · exact notin1 z14
        · exact notin1 (offE _ (.tail _ (.tail _ (.tail _ (.tail _ (.tail _ (.tail _ (.tail _ (.tail _ hp)))))))))
      · simp only [List.forall_mem_cons]
        exact ⟨z42, z32, z22, z12, c3⟩
      · simp only [List.forall_mem_cons]
        exact ⟨z43, z33, z23, z13, c4⟩
      · rw [← take_paras hp1]
        exact (c5.mono fun p hp => .tail _ (.tail _ (.tail _ (.tail _ hp)))).app (.cons ⟨_, _, _, _, _, _, _, rfl, .head _, .tail _ (.head _), by rw [List.length_replicate, cnt_sum]; rfl, conts_of _ (.tail _ (.tail _ (.tail _ (.head _))))⟩ .nil)
    case done2 =>
      rintro m led h8 tk8 ⟨ws, nW, R11, rfl, c1, c2, c3, c4, c5, m1, m2, m3, m4, m5⟩ F8 N8
      k_steps
      refine ForEnd.intro F8 N8 ((wL, listOf (List.toArray ws) nW) :: (secL, listOf (List.toArray sv) nV) :: (nA, listOf (List.toArray vs') nN) :: (L0 + 1 + 1, oN1) :: (L0 + 1, oS) :: (73, tabObj ps) :: (431, tabObj ps2) :: R11) sub_sw ?_ ⟨ws, nW, R11, rfl, fun p hp => c1 _ (a1 _ hp), c2, c3, ?_, m1, m2, m3, m4⟩
      · intro p hp
        rcases List.mem_cons.mp hp with rfl | hp
        · exact notin1 j3
        rcases List.mem_cons.mp hp with rfl | hp
        · exact notin1 (offI _ (.tail _ (.head _)))
        rcases List.mem_cons.mp hp with rfl | hp
        · exact notin1 (offI _ (.tail _ (.tail _ (.head _))))
        rcases List.mem_cons.mp hp with rfl | hp
        · exact notin1 (offI _ (.tail _ (.tail _ (.tail _ (.head _)))))
        rcases List.mem_cons.mp hp with rfl | hp
        · exact notin1 (offI _ (.tail _ (.tail _ (.tail _ (.tail _ (.head _))))))
        rcases List.mem_cons.mp hp with rfl | hp
        · exact notin1 (offI _ (.tail _ (.tail _ (.tail _ (.tail _ (.tail _ (.head _)))))))
        rcases List.mem_cons.mp hp with rfl | hp
        · exact notin1 (offI _ (.tail _ (.tail _ (.tail _ (.tail _ (.tail _ (.tail _ (.head _))))))))
        · exact notin1 (c4 p hp)
      · rw [b4'.length, List.take_length] at c5
        rw [← take_rows hS1]
        exact c5
  case done =>
    rintro m led h8 tk8 ⟨ws, nW, R9, rfl, a1, a2, a3, a4, m1, m2, m3, m4⟩ F8 N8
    dsimp only [envOfC] at F8 N8
    rw [t2.length, List.take_length] at a4
    obtain ⟨R13, N13, k13, B13, s13, m13⟩ := one_pack N8 (offs6 lw) a2 (B.more a1)
    have hR13 := a4.mono s13
    clear N8 a1 a2 a3 a4 B t2 k lw s13; (try clear F9); (try clear N10)
    exact law_d G ne hSs hSs1 i8 F8 N13 k13 hT B13 dN1 i1 hq1 hq3 m13 hR13 m2 m3 m4 m1 h
set_option maxHeartbeats 4000000 in
theorem law_b (G : LawG w p loose mean mg mb g0 dp un) (ne : Nes secL nA (L0 + 1 + 1) (L0 + 1)) (hSs : Ss.length ≤ 4) (hSs1 : 1 ≤ Ss.length) (i8 : ∀ S ∈ Ss, SecOk S)
    (F : Fr g0 L0 h0 M) (N : News g0 L0 h0 ((secL, listOf (List.toArray sv) nV) :: (nA, listOf (List.toArray vs') nN) :: (L0 + 1 + 1, oN1) :: (L0 + 1, oS) :: (73, tabObj ps) :: (431, tabObj ps2) :: R)) (k : Off6 secL nA (L0 + 1 + 1) (L0 + 1) R) (hT : T73 ps)
    (B : Bd sv ys rs Ss D3 D5 R ps2)
    (dN1 : oN1.data = .cell (some (.ref nA))) (i1 : NumsAre vs' q') (hq1 : 1 ≤ q') (hq3 : q' ≤ 1000) (t5 : ToksIn w R zs (unsTok (Ss.flatMap (secUns false)))) (t6 : (D4, listOf (List.toArray zs) zs.length) ∈ R)
    (mSe : M (Str.ofString "sections") = some (.ref secL)) (mPa : M (Str.ofString "parts") = some (.ref D3)) (mWh : M (Str.ofString "whole") = some (.ref D4)) (mDu : M (Str.ofString "due") = some (.ref D5))
    (h : LawEnd s g0 L0 Q) : wpAny (model prog w) ((Ar dp fr gd un).deeper (lawE L0)) (execs (lawS 6) (lawE L0)) Q E { s with heap := h0, toks := tk } := by
  have reg : (K, PySem.Challenge.rw_pb0258_01).1 = K := by (k_fill; rfl)
  clear reg
  have G' := id G
  have ne' := id ne
  obtain ⟨X0, T0, hd, hu, hc9, hc8, hnS, hnP⟩ := G'
  obtain ⟨n1, n2, n3, n4, n5, n6, n7, n8, n9, z1, z2, z3, z4, z5⟩ := ne'
  show wpAny _ _ (execs (_ :: _) (envOfC _ ⟨_, _, _, _, _⟩ _ _ _)) _ _ _
  have hok9 := uns_oks hnS hnP i8 false
  have hfw9 := uns_few i8 hSs false
  have hro9 := rowsOf_oks i8
  k_steps
  refine ⟨?_⟩
  have j73 := k.n73
  have j431 := k.n431
  walk_at "ROWS"
  rename_i q8 vs8 nq8 nw8 ps8 ps9 _ _ hT8 hP8 F8 M8 hG8 hm8 hR8 N8
  obtain ⟨R8, N9, k8, B8, s8, u8⟩ := rows_pack N8 M8 hG8 k B hP8
  have hR9 := hR8.mono u8
  have hm9 := u8 _ hm8
  clear N8 M8 hG8 hR8 hP8 hm8 k B j73 j431; (try clear N); (try clear F)
  obtain ⟨_, t2, t3, t4, t7, t8⟩ := id B8
  have hm9 := hm9
  k_steps
  refine ⟨?_⟩
  clear hR9 t3 t4 t7 t8
  refine ListComp_F F8 (by rfl) (by decide) (by rfl) (by decide) (by rfl) (by rfl) (by decide) (fun _ _ => rfl) ?_
  walk_at "eval Name"
  refine flat_src true X0 T0 F8 (fix := [(secL, _), (nA, _), (L0 + 1 + 1, _), (L0 + 1, _), (73, _), (431, _)]) (R := R8) N9 (by k_room) (by k_units) (.head _) t2 i8 hSs k8.all ?ev ?fin
  case ev =>
    intro v I oI C oC D ys m₂ h tk nw Q E hC hx F N hc
    k_steps
  case fin =>
    intro zs9 R10 r1 r2 r3 r4 D10 h10 tk10 F10 N10 off10
    simp only [LCg.Off1, List.cons_append, List.nil_append] at off10 N10
    obtain ⟨R11, N11, k11, B11, s11, m11⟩ := one_pack N10 ⟨Ne.symm off10.1, Ne.symm off10.2.1, Ne.symm off10.2.2.1, Ne.symm off10.2.2.2.1, Ne.symm off10.2.2.2.2.1, Ne.symm off10.2.2.2.2.2.1⟩ (Off6.of r4) (B8.more r1)
    have r5 := r2.mono (ld' := R11) s11
    have hok10 := uns_oks hnS hnP i8 true
    have hfw10 := uns_few i8 hSs true
    clear N10 off10 r1 r2 r4 B8 k8 t2 s8 u8; (try clear N9); (try clear F8)
    k_steps
    refine ⟨?_⟩
    have j73 := k11.n73
    have j431 := k11.n431
    walk_at "ROWS"
    rename_i qb vsb nqb nwb psb psc _ _ hTb hPb Fb Mb hGb hmb hRb Nb
    obtain ⟨Rb, Nc, kb, Bb, sb, ub⟩ := rows_pack Nb Mb hGb k11 B11 hPb
    have hRc := hRb.mono ub
    have hmc := ub _ hmb
    clear Nb Mb hGb hRb hPb hmb k11 B11 j73 j431 hok10 hfw10 r5 m11; (try clear N11); (try clear F10)
    obtain ⟨_, t2, t3, t4, t7, t8⟩ := id Bb
    have hmc := hmc
    have stopX : StopX 8 := trivial
    k_steps
    refine ⟨?_⟩
    (rename Fr _ _ _ _ => F9)
    (rename News _ _ _ _ => N9)
    exact law_w G ne hSs hSs1 i8 F9 N9 kb hTb Bb dN1 i1 hq1 hq3 mSe mPa mDu h
inductive DInv (secL nA c1 c2 : Addr) (oN1 oS : Obj) (sv vs' : List Value) (nV nN : Nat) (ps ps2 : Array Value) (R : Led) (Ss : List Sec) (i : Nat) (rs : List Value) (nw : Led) : Prop
  | mk : nw = (secL, listOf (List.toArray sv) nV) :: (nA, listOf (List.toArray vs') nN) :: (c1, oN1) :: (c2, oS) :: (73, tabObj ps) :: (431, tabObj ps2) :: R → ToldsIn R rs ((Ss.take i).flatMap fun S => unRows (secUns false S)) → rs.length ≤ 28 * i → DInv secL nA c1 c2 oN1 oS sv vs' nV nN ps ps2 R Ss i rs nw
set_option maxHeartbeats 4000000 in
theorem law_a3 (G : LawG w p loose mean mg mb g0 dp un) (ne : Nes secL nA (L0 + 1 + 1) (L0 + 1)) (hSs : Ss.length ≤ 4) (hSs1 : 1 ≤ Ss.length) (i8 : ∀ S ∈ Ss, SecOk S)
    (F : Fr g0 L0 h0 M) (N : News g0 L0 h0 ((secL, listOf (List.toArray sv) nV) :: (nA, listOf (List.toArray vs') nN) :: (L0 + 1 + 1, oN1) :: (L0 + 1, oS) :: (73, tabObj ps) :: (431, tabObj ps2) :: R)) (k : Off6 secL nA (L0 + 1 + 1) (L0 + 1) R) (hT : T73 ps)
    (p6 : T431L R ps2) (p7 : SecsIn R sv Ss) (p8 : PartsIn R ys (Ss.map fun S => unRows (secUns false S))) (p9 : (D3, listOf (List.toArray ys) ys.length) ∈ R)
    (dN1 : oN1.data = .cell (some (.ref nA))) (i1 : NumsAre vs' q') (hq1 : 1 ≤ q') (hq3 : q' ≤ 1000) (t5 : ToksIn w R zs (unsTok (Ss.flatMap (secUns false)))) (t6 : (D4, listOf (List.toArray zs) zs.length) ∈ R)
    (mSe : M (Str.ofString "sections") = some (.ref secL)) (mPa : M (Str.ofString "parts") = some (.ref D3)) (mWh : M (Str.ofString "whole") = some (.ref D4))
    (h : LawEnd s g0 L0 Q) : wpAny (model prog w) ((Ar dp fr gd un).deeper (lawE L0)) (execs (lawS 5) (lawE L0)) Q E { s with heap := h0, toks := tk } := by
  have reg : (K, PySem.Challenge.rw_pb0258_01).1 = K := by (k_fill; rfl)
  clear reg
  have G' := id G
  have ne' := id ne
  obtain ⟨X0, T0, hd, hu, hc9, hc8, hnS, hnP⟩ := G'
  obtain ⟨n1, n2, n3, n4, n5, n6, n7, n8, n9, z1, z2, z3, z4, z5⟩ := ne'
  show wpAny _ _ (execs (_ :: _) (envOfC _ ⟨_, _, _, _, _⟩ _ _ _)) _ _ _
  k_steps
  refine ⟨?_⟩
  refine Assign_ListComp_F F (by rfl) (by with_unfolding_all rfl) (by with_unfolding_all rfl) (by decide) (by rfl) (by decide) (by rfl) (by rfl) (by decide) (fun _ _ => rfl) (by rfl) (by rfl) ?_
  walk_at "eval Name"
  refine SrcLF.ledger (DInv secL nA (L0 + 1 + 1) (L0 + 1) oN1 oS sv vs' nV nN ps ps2 R Ss) (by rfl) F N (.tail _ (.tail _ (.tail _ (.tail _ (.tail _ (.tail _ p9)))))) ⟨rfl, .nil, Nat.le_refl _⟩ ?_ ?_
  · rintro rs nw ⟨rfl, w1, w2⟩
    intro D5 h5 tk5 F5 N6 off5
    have hyl := p8.length
    rw [List.length_map] at hyl
    rw [List.size_toArray, hyl, List.take_length] at w1
    rw [List.size_toArray, hyl] at w2
    simp only [LCg.Off1] at off5
    obtain ⟨R7, N7, k7, s7, m7⟩ := one_pack0 N6 ⟨Ne.symm off5.1, Ne.symm off5.2.1, Ne.symm off5.2.2.1, Ne.symm off5.2.2.2.1, Ne.symm off5.2.2.2.2.1, Ne.symm off5.2.2.2.2.2.1⟩ k
    have t7 := w1.mono s7
    have t3 := p8.mono s7
    simp only [unRows_sec] at t7 t3
    exact law_b G ne hSs hSs1 i8 F5 N7 k7 hT ⟨T431P.mono p6 s7, p7.mono s7, t3, s7 _ p9, t7, m7⟩ dN1 i1 hq1 hq3 (t5.mono s7) (s7 _ t6) (by walk_at "LOOK") (by walk_at "LOOK") (by walk_at "LOOK") (by walk_at "LOOK") h
  · rintro i rs nw hi ⟨rfl, w1, w2⟩ v I' oI' C' oC' D' m' h' tk' E' hv hC' hx' F' N' off' ne'
    obtain ⟨rr, hr1, q8, nq8, vs8, rfl, c1, c2⟩ := p8.get (by simpa using hv)
    rw [List.getElem?_map] at hr1
    obtain ⟨S, hS1, rfl⟩ := Option.map_eq_some_iff.mp hr1
    have hS4 := i8 S (List.mem_of_getElem? hS1)
    have hS6 : (unsTok (secUns false S)).length ≤ 27 := by rw [← headsTok_un]; exact (secOk_facts hS4 false).2.2
    have hS7 := unRows_len (secUns false S)
    have hi4 : i < 4 := Nat.lt_of_lt_of_le (List.getElem?_eq_some_iff.mp hS1).1 hSs
    have y := c2.length
    k_steps
    (rename News _ _ _ _ => N7)
    (rename Fr _ _ _ _ => F7)
    refine FlatEnd.intro F7 N7 _ (fun p hp => hp) off' (.inr ⟨_, .tail _ (.tail _ (.tail _ (.tail _ (.tail _ (.tail _ p9))))), rfl, _, rfl⟩) ?_ (.tail _ (.tail _ (.tail _ (.tail _ (.tail _ (.tail _ c1)))))) ⟨rfl, ?_, ?_⟩
    · rw [sizeLine_eq]; omega
    · rw [List.take_add_one, hS1]
      simp only [Option.toList, List.flatMap_append, List.flatMap_cons, List.flatMap_nil, List.append_nil]
      exact w1.app c2
    · rw [List.length_append]; omega
set_option maxHeartbeats 4000000 in
theorem law_a2 (G : LawG w p loose mean mg mb g0 dp un) (ne : Nes secL nA (L0 + 1 + 1) (L0 + 1)) (hSs : Ss.length ≤ 4) (hSs1 : 1 ≤ Ss.length) (i8 : ∀ S ∈ Ss, SecOk S)
    (F : Fr g0 L0 h0 M) (N : News g0 L0 h0 ((secL, listOf (List.toArray sv) nV) :: (nA, listOf (List.toArray vs') nN) :: (L0 + 1 + 1, oN1) :: (L0 + 1, oS) :: (73, tabObj ps) :: (431, tabObj ps2) :: R)) (k : Off6 secL nA (L0 + 1 + 1) (L0 + 1) R) (hT : T73 ps)
    (p6 : T431L R ps2) (p7 : SecsIn R sv Ss) (p8 : PartsIn R ys (Ss.map fun S => unRows (secUns false S))) (p9 : (D3, listOf (List.toArray ys) ys.length) ∈ R)
    (dN1 : oN1.data = .cell (some (.ref nA))) (i1 : NumsAre vs' q') (hq1 : 1 ≤ q') (hq3 : q' ≤ 1000)
    (mSe : M (Str.ofString "sections") = some (.ref secL)) (mPa : M (Str.ofString "parts") = some (.ref D3))
    (h : LawEnd s g0 L0 Q) : wpAny (model prog w) ((Ar dp fr gd un).deeper (lawE L0)) (execs (lawS 4) (lawE L0)) Q E { s with heap := h0, toks := tk } := by
  have reg : (K, PySem.Challenge.rw_pb0258_01).1 = K := by (k_fill; rfl)
  clear reg
  have G' := id G
  have ne' := id ne
  obtain ⟨X0, T0, hd, hu, hc9, hc8, hnS, hnP⟩ := G'
  obtain ⟨n1, n2, n3, n4, n5, n6, n7, n8, n9, z1, z2, z3, z4, z5⟩ := ne'
  show wpAny _ _ (execs (_ :: _) (envOfC _ ⟨_, _, _, _, _⟩ _ _ _)) _ _ _
  k_steps
  refine ⟨?_⟩
  refine Assign_ListComp_F F (by rfl) (by with_unfolding_all rfl) (by with_unfolding_all rfl) (by decide) (by rfl) (by decide) (by rfl) (by rfl) (by decide) (fun _ _ => rfl) (by rfl) (by rfl) ?_
  walk_at "eval Name"
  refine flat_src false X0 T0 F (fix := [(secL, _), (nA, _), (L0 + 1 + 1, _), (L0 + 1, _), (73, _), (431, _)]) (R := R) N (by k_room) (by k_units) (.head _) p7 i8 hSs k.all ?ev ?fin
  case ev =>
    intro v I oI C oC D ys m₂ h tk nw Q E hC hx F N hc
    k_steps
  case fin =>
    intro zs R10 r1 r2 r3 r4 D10 h10 tk10 F10 N10 off10
    simp only [LCg.Off1, List.cons_append, List.nil_append] at off10 N10
    obtain ⟨R11, N11, k11, s11, m11⟩ := one_pack0 N10 ⟨Ne.symm off10.1, Ne.symm off10.2.1, Ne.symm off10.2.2.1, Ne.symm off10.2.2.2.1, Ne.symm off10.2.2.2.2.1, Ne.symm off10.2.2.2.2.2.1⟩ (Off6.of r4)
    have s12 : ∀ p ∈ R, p ∈ R11 := fun p hp => s11 p (r1 p hp)
    exact law_a3 G ne hSs hSs1 i8 F10 N11 k11 hT (T431P.mono p6 s12) (p7.mono s12) (p8.mono s12) (s12 _ p9) dN1 i1 hq1 hq3 (r2.mono s11) m11 (by walk_at "LOOK") (by walk_at "LOOK") (by walk_at "LOOK") h
set_option maxHeartbeats 4000000 in
theorem law_a1 (G : LawG w p loose mean mg mb g0 dp un) (ne : Nes secL nA (L0 + 1 + 1) (L0 + 1)) (hSs : Ss.length ≤ 4) (hSs1 : 1 ≤ Ss.length) (i8 : ∀ S ∈ Ss, SecOk S)
    (F : Fr g0 L0 h0 M) (N : News g0 L0 h0 ((secL, listOf (List.toArray sv) nV) :: (nA, listOf (List.toArray vs') nN) :: (L0 + 1 + 1, oN1) :: (L0 + 1, oS) :: (73, tabObj #[]) :: (431, tabObj #[]) :: R)) (k : Off6 secL nA (L0 + 1 + 1) (L0 + 1) R)
    (i4 : SecsIn R sv Ss)
    (dN1 : oN1.data = .cell (some (.ref nA))) (i1 : NumsAre vs' q') (hq1 : 1 ≤ q') (hq3 : q' ≤ 1000)
    (mSe : M (Str.ofString "sections") = some (.ref secL))
    (h : LawEnd s g0 L0 Q) : wpAny (model prog w) ((Ar dp fr gd un).deeper (lawE L0)) (execs (lawS 3) (lawE L0)) Q E { s with heap := h0, toks := tk } := by
  have reg : (K, PySem.Challenge.rw_pb0258_01).1 = K := by (k_fill; rfl)
  clear reg
  have G' := id G
  have ne' := id ne
  obtain ⟨X0, T0, hd, hu, hc9, hc8, hnS, hnP⟩ := G'
  obtain ⟨n1, n2, n3, n4, n5, n6, n7, n8, n9, z1, z2, z3, z4, z5⟩ := ne'
  show wpAny _ _ (execs (_ :: _) (envOfC _ ⟨_, _, _, _, _⟩ _ _ _)) _ _ _
  have i6 := k
  k_steps
  refine ⟨?_⟩
  refine LCg.Assign_ListComp_U F (by rfl) (by with_unfolding_all rfl) (by with_unfolding_all rfl) (by decide) (by rfl) (by decide) (by rfl) (by rfl) (by rfl) ?_
  walk_at "eval Name"
  refine LCg.CompSrc.ledger (by rfl) F N (.head _) (by rw [List.size_toArray, i4.length]; unfold sizeLine; omega) fun g4 => ?_
  refine rest_ind (n := _) (QInv secL nA (L0 + 1 + 1) (L0 + 1) oN1 oS sv vs' nV nN R Ss) ?_ ?_ _ 0 [] _ (Nat.zero_add _) ⟨#[], #[], R, rfl, .inl rfl, .inl rfl, fun p hp => hp, .nil, i6⟩
  · rintro ys nw ⟨ps, ps2, R2, rfl, p1, p2, p3, p4, p5⟩
    intro D3 h3 tk3 F3 N3 off3
    rw [List.size_toArray, i4.length, List.take_length] at p4
    simp only [LCg.Off1] at off3
    obtain ⟨R4, N4, k4, s4, m4⟩ := one_pack0 N3 ⟨Ne.symm off3.1, Ne.symm off3.2.1, Ne.symm off3.2.2.1, Ne.symm off3.2.2.2.1, Ne.symm off3.2.2.2.2.1, Ne.symm off3.2.2.2.2.2.1⟩ p5
    exact law_a2 G ne hSs hSs1 i8 F3 N4 k4 p1 (T431P.mono p2 s4) (i4.mono fun p hp => s4 p (p3 p hp)) (p4.mono s4) m4 dN1 i1 hq1 hq3 (by walk_at "LOOK") (by walk_at "LOOK") h
  · rintro i ys nw hi ⟨ps, ps2, R2, rfl, p1, p2, p3, p4, p5⟩ v I' oI' C' oC' D' m' h' tk' E' hv hC' hx' F' N' off' ne'
    obtain ⟨S, hS1, hS2⟩ := i4.get (by simpa using hv)
    have hS3 := hS2.mono p3
    have hS4 := i8 S (List.mem_of_getElem? hS1)
    have hS5 := secUns_ok hnS hnP hS4 false
    have hS6 : (unsTok (secUns false S)).length < 2 ^ 20 := by rw [← headsTok_un]; have := (secOk_facts hS4 false).2.2; omega
    have off9 := off'
    simp only [LCg.Off3] at off'
    obtain ⟨⟨u1, u2, u3⟩, ⟨u4, u5, u6⟩, ⟨u7, u8, u9⟩, ⟨u10, u11, u12⟩, ⟨u13, u14, u15⟩, ⟨u16, u17, u18⟩, _⟩ := off'
    have j8 := fun p hp => (p5 p hp).2.2.2.2.1
    have j9 := fun p hp => (p5 p hp).2.2.2.2.2
    k_steps
    refine ⟨?_⟩
    rename_i q7 vs7 nq7 nw7 ps7 ps8 _ _ hT7 hP7 F7 M7 hG7 hm7 hR7 N7
    refine LCg.CompEnd.intro F7 (news_join N7 M7) ((secL, listOf (List.toArray sv) nV) :: (nA, listOf (List.toArray vs') nN) :: (L0 + 1 + 1, oN1) :: (L0 + 1, oS) :: (73, tabObj ps7) :: (431, tabObj ps8) :: (nw7 ++ R2)) subJ
      ⟨off9.1, off9.2.1, off9.2.2.1, off9.2.2.2.1, off9.2.2.2.2.1, off9.2.2.2.2.2.1, off3_app (fun p hp => ⟨Ne.symm (hG7 p hp).1, Ne.symm (hG7 p hp).2.1, Ne.symm (hG7 p hp).2.2.1⟩) off9.2.2.2.2.2.2⟩ (.inr ⟨_, .head _, rfl, _, rfl⟩)
      ⟨ps7, ps8, nw7 ++ R2, rfl, hT7, hP7.led (T431P.mono p2 fun p hp => List.mem_append_right _ hp) (fun p hp => List.mem_append_left _ hp), fun p hp => List.mem_append_right _ (p3 p hp), ?_, ?_⟩
    · rw [List.take_add_one, hS1]
      simp only [Option.toList, List.map_append, List.map_cons, List.map_nil]
      exact (p4.mono fun p hp => List.mem_append_right _ hp).snoc ⟨q7, nq7, vs7, rfl, List.mem_append_left _ hm7, hR7.mono fun p hp => List.mem_append_left _ hp⟩
    · intro p hp
      rcases List.mem_append.mp hp with hp | hp
      · have y := (hG7 p hp).2.2.2
        exact ⟨Ne.symm y.1, Ne.symm y.2.1, Ne.symm y.2.2.1, Ne.symm y.2.2.2.1, Ne.symm y.2.2.2.2.1, Ne.symm y.2.2.2.2.2.1⟩
      · exact p5 p hp
set_option maxHeartbeats 8000000 in
theorem law_s {ns : List Value} {nn n0 : Nat} (G : LawG w p loose mean mg mb g0 dp un) (ne : Nes secL nA (L0 + 1 + 1) (L0 + 1))
    (F : Fr g0 L0 h0 M) (N : News g0 L0 h0 [(secL, listOf (List.toArray []) 0), (nA, listOf (List.toArray ns) nn), (L0 + 1 + 1, oN1), (L0 + 1, oS), (73, tabObj #[]), (431, tabObj #[])])
    (dN1 : oN1.data = .cell (some (.ref nA))) (hy3 : NumsAre ns n0) (hn80 : 80 ≤ n0) (hn1 : n0 ≤ 1000) (mSe : M (Str.ofString "sections") = some (.ref secL))
    (h : LawEnd s g0 L0 Q) : wpAny (model prog w) ((Ar dp fr gd un).deeper (lawE L0)) (execs (lawS 2) (lawE L0)) Q E { s with heap := h0, toks := tk } := by
  have reg : (K, PySem.Challenge.rw_pb0258_01).1 = K := by (k_fill; rfl)
  clear reg
  have G' := id G
  have ne' := id ne
  obtain ⟨X0, T0, hd, hu, hc9, hc8, hnS, hnP⟩ := G'
  obtain ⟨n1, n2, n3, n4, n5, n6, n7, n8, n9, z1, z2, z3, z4, z5⟩ := ne'
  show wpAny _ _ (execs (_ :: _) (envOfC _ ⟨_, _, _, _, _⟩ _ _ _)) _ _ _
  k_steps
  refine ⟨?_⟩
  refine For_at ?_
  k_steps
  (rename IsRange _ _ _ _ _ _ _ _ => r9)
  (rename Fr _ _ _ _ => F4)
  (rename News _ _ _ _ => N4)
  (rename NumsAre _ _ => hn4)
  obtain ⟨nS, e1, e2, e3, e4⟩ := range_ex r9
  refine For_R1 (SInv secL nA (L0 + 1 + 1) (L0 + 1) oN1 oS)
    (by rfl) (by rfl) (by rfl) F4 N4 r9 e1 e2 ⟨[], _, _, _, _, [], [], rfl, hn4, by omega, by omega, .nil, rfl, (fun _ h => nomatch h), (fun _ h => nomatch h), by walk_at "LOOK"⟩ ?bd ?done
  case bd =>
    rintro i t m led I oI h8 tk8 E8 hi ⟨sv, nV, vs', q', nN, R, Ss, rfl, i1, i2, i3, i4, i5, i8, i6, i7⟩ offI F8 N8
    dsimp only [envOfC] at F8 N8
    have j1 := fun p hp => (i6 p hp).1
    have j2 := fun p hp => (i6 p hp).2.1
    have j3 : @Ne Nat I secL := Ne.symm (offI _ (.head _))
    have j4 : @Ne Nat I nA := Ne.symm (offI _ (.tail _ (.head _)))
    k_steps
    refine ⟨?_⟩
    rename_i rL wsL nL nN2 vs2 q2 csL _ _ hn2 hqa hqb hiL hcL1 hcL2 l2 _ F7 N7
    refine LCg.Assign_ListComp_U F7 (by rfl) (by with_unfolding_all rfl) (by with_unfolding_all rfl) (by decide) (by rfl) (by decide) (by rfl) (by rfl) (by rfl) ?_
    k_steps
    refine ⟨?_⟩
    (rename IsRange _ _ _ _ _ _ _ _ => r5)
    (rename Fr _ _ _ _ => F5)
    (rename News _ _ _ _ => N5)
    (rename NumsAre _ _ => hn5)
    obtain ⟨nP, e5, e6, e7⟩ := range_ex3 r5
    have N6 : News g0 L0 _ ((I, oI) :: (secL, listOf (List.toArray sv) nV) :: (nA, listOf (List.toArray vs2.tail) (nN2 + 1)) :: (L0 + 1 + 1, oN1) :: (L0 + 1, oS) :: (73, tabObj #[]) :: (431, tabObj #[]) :: (rL, listOf (List.toArray wsL) nL) :: R) := fun p hp => N5 p (sub71 p hp)
    have hRL : ∀ p ∈ (rL, listOf (List.toArray wsL) nL) :: R, p.1 ≠ I ∧ p.1 ≠ secL ∧ p.1 ≠ nA ∧ p.1 ≠ L0 + 1 + 1 ∧ p.1 ≠ L0 + 1 ∧ p.1 ≠ 73 ∧ p.1 ≠ 431 := by
      intro p hp
      rcases List.mem_cons.mp hp with rfl | hp
      · exact ⟨Ne.symm l2.1, Ne.symm l2.2.1, Ne.symm l2.2.2.1, Ne.symm l2.2.2.2.1, Ne.symm l2.2.2.2.2.1, Ne.symm l2.2.2.2.2.2.1, Ne.symm l2.2.2.2.2.2.2.1⟩
      · exact ⟨offI _ (.tail _ (.tail _ (.tail _ (.tail _ (.tail _ (.tail _ hp)))))), i6 p hp⟩
    refine LCg.CompSrc.range (n := nP) (by rfl) F5 N6 r5 e5 e6 (by unfold sizeLine; omega) fun g3 => ?_
    refine rest_ind (n := _) (PInv secL nA (L0 + 1 + 1) (L0 + 1) I rL oN1 oS oI sv wsL nV nL q2 R) ?_ ?_ _ 0 [] _ (Nat.zero_add _) ⟨_, _, _, _, [], rfl, hn5, by omega, by omega, .nil, rfl, (fun _ h => nomatch h), fun p hp => hp, hRL⟩
    · rintro ys nw ⟨vs3, q3, n3, R3, ps, rfl, p1, p2, p3, p4, p5, p8, p6, p7⟩
      intro D9 h9 tk9 F9 N9 off9
      simp only [LCg.Off1] at off9
      have hsv : sv.length ≤ 2 ^ 20 := by rw [i4.length]; omega
      have j7 := fun p hp => (p7 p hp).2.1
      k_steps
      rename_i t8 _ _ D8 _ l8 _ F6 N6
      have lr := allLt_mem l8.2.2.2.2.2.2.2.2
      refine ForEnd.intro F6 N6 ((secL, _) :: (nA, _) :: (L0 + 1 + 1, oN1) :: (L0 + 1, oS) :: (73, tabObj #[]) :: (431, tabObj #[]) :: (D8, tupO [.str (nmS i) t8, .ref rL, .ref D9] 0) :: (D9, LCg.lst ys) :: R3) subS ?_
        ⟨_, _, vs3, q3, _, (D8, tupO [.str (nmS i) t8, .ref rL, .ref D9] 0) :: (D9, LCg.lst ys) :: R3, Ss ++ [(nmS i, csL, ps)], rfl, p1, by omega, p3, (i4.mono fun p hp => .tail _ (.tail _ (p6 p (.tail _ hp)))).snoc ⟨D8, _, t8, rL, _, wsL, D9, _, ys, rfl, .head _, .tail _ (.tail _ (p6 _ (.head _))), hiL, .tail _ (.head _), p4.mono fun p hp => .tail _ (.tail _ hp)⟩, by rw [List.length_append, i5]; rfl, ?_, ?_, by walk_at "LOOK"⟩
      · intro p hp
        rcases List.mem_cons.mp hp with rfl | hp
        · exact notin1 (Ne.symm j3)
        rcases List.mem_cons.mp hp with rfl | hp
        · exact notin1 (Ne.symm j4)
        rcases List.mem_cons.mp hp with rfl | hp
        · exact notin1 (offI _ (.tail _ (.tail _ (.head _))))
        rcases List.mem_cons.mp hp with rfl | hp
        · exact notin1 (offI _ (.tail _ (.tail _ (.tail _ (.head _)))))
        rcases List.mem_cons.mp hp with rfl | hp
        · exact notin1 (offI _ (.tail _ (.tail _ (.tail _ (.tail _ (.head _))))))
        rcases List.mem_cons.mp hp with rfl | hp
        · exact notin1 (offI _ (.tail _ (.tail _ (.tail _ (.tail _ (.tail _ (.head _)))))))
        rcases List.mem_cons.mp hp with rfl | hp
        · exact notin1 (Nat.ne_of_gt l8.2.1)
        rcases List.mem_cons.mp hp with rfl | hp
        · exact notin1 (Ne.symm off9.1)
        · exact notin1 (p7 p hp).1
      · intro S hS
        rcases List.mem_append.mp hS with hS | hS
        · exact i8 S hS
        · rw [List.mem_singleton.mp hS]
          exact ⟨⟨i, by omega, rfl⟩, ⟨hcL1, hcL2⟩, (by show ps.length ≤ 2; omega), p8⟩
      · intro p hp
        rcases List.mem_cons.mp hp with rfl | hp
        · exact ⟨Nat.ne_of_gt l8.2.2.1, Nat.ne_of_gt l8.2.2.2.1, Nat.ne_of_gt l8.2.2.2.2.1, Nat.ne_of_gt l8.2.2.2.2.2.1, Nat.ne_of_gt l8.2.2.2.2.2.2.1, Nat.ne_of_gt l8.2.2.2.2.2.2.2.1⟩
        rcases List.mem_cons.mp hp with rfl | hp
        · exact ⟨Ne.symm off9.2.1, Ne.symm off9.2.2.1, Ne.symm off9.2.2.2.1, Ne.symm off9.2.2.2.2.1, Ne.symm off9.2.2.2.2.2.1, Ne.symm off9.2.2.2.2.2.2.1⟩
        · exact (p7 p hp).2
    · rintro t9 ys nw ht9 ⟨vs3, q3, n3, R3, ps, rfl, p1, p2, p3, p4, p5, p8, p6, p7⟩ v I' oI' C' oC' D' m' h' tk' E' ⟨tv, rfl⟩ hC' hx' F' N' off' ne'
      have off9 := off'
      simp only [LCg.Off3] at off'
      obtain ⟨⟨u1, u2, u3⟩, ⟨u4, u5, u6⟩, ⟨u7, u8, u9⟩, _⟩ := off'
      have j5 := fun p hp => (p7 p hp).2.2.1
      have j6 : 3 ≤ q3 := by clear off9 u1 u2 u3 u4 u5 u6 u7 u8 u9; omega
      k_steps
      refine ⟨?_⟩
      rename_i t8 _ _ rS wsS nS5 nS6 vsS qS csS _ _ hnS hqS1 hqS2 hiS hcS1 hcS2 l7 D8 _ F6 N6 l8
      obtain ⟨m1, m2, m3, m4, m5, m6, m7, m8, m9, m10, m11⟩ := l7
      obtain ⟨k0, k1, k2, k3, k4, k5, k6, k7, k8, k9, k10, k11⟩ := l8
      refine LCg.CompEnd.intro F6 N6 ((I, oI) :: (secL, _) :: (nA, _) :: (L0 + 1 + 1, oN1) :: (L0 + 1, oS) :: (73, tabObj #[]) :: (431, tabObj #[]) :: (D8, tupO [.str (nmP t9) t8, .ref rS] 0) :: (rS, listOf (List.toArray wsS) nS5) :: R3) subP
        ⟨off9.1, off9.2.1, off9.2.2.1, off9.2.2.2.1, off9.2.2.2.2.1, off9.2.2.2.2.2.1, off9.2.2.2.2.2.2.1, ⟨Nat.ne_of_gt k1, Nat.ne_of_gt k2, Nat.ne_of_gt k3⟩, ⟨Ne.symm m1, Ne.symm m2, Ne.symm m3⟩, off9.2.2.2.2.2.2.2⟩ trivial
        ⟨vsS, qS, _, (D8, tupO [.str (nmP t9) t8, .ref rS] 0) :: (rS, listOf (List.toArray wsS) nS5) :: R3, ps ++ [(nmP t9, csS)], rfl, hnS, ?_, ?_, (p4.mono fun p hp => .tail _ (.tail _ hp)).snoc ⟨D8, _, t8, rS, _, wsS, rfl, .head _, .tail _ (.head _), hiS⟩, by rw [List.length_append, p5]; rfl, ?_, fun p hp => .tail _ (.tail _ (p6 p hp)), ?_⟩
      · clear m1 m2 m3 m4 m5 m6 m7 m8 m9 m10 m11 u1 u2 u3 u4 u5 u6 u7 u8 u9 off9; omega
      · clear m1 m2 m3 m4 m5 m6 m7 m8 m9 m10 m11 u1 u2 u3 u4 u5 u6 u7 u8 u9 off9; omega
      · intro p hp
        rcases List.mem_append.mp hp with hp | hp
        · exact p8 p hp
        · rw [List.mem_singleton.mp hp]
          exact ⟨⟨t9, Nat.lt_of_lt_of_le ht9 e7, rfl⟩, hcS1, hcS2⟩
      · intro p hp
        rcases List.mem_cons.mp hp with rfl | hp
        · exact ⟨Nat.ne_of_gt k4, Nat.ne_of_gt k5, Nat.ne_of_gt k6, Nat.ne_of_gt k7, Nat.ne_of_gt k8, Nat.ne_of_gt k9, Nat.ne_of_gt k10⟩
        rcases List.mem_cons.mp hp with rfl | hp
        · exact ⟨Ne.symm m4, Ne.symm m5, Ne.symm m6, Ne.symm m7, Ne.symm m8, Ne.symm m9, Ne.symm m10⟩
        · exact p7 p hp
  case done =>
    rintro m led h8 tk8 ⟨sv, nV, vs', q', nN, R, Ss, rfl, i1, i2, i3, i4, i5, i8, i6, i7⟩ F8 N8
    dsimp only [envOfC] at F8 N8
    exact law_a1 G ne (by omega) (by omega) i8 F8 N8 i6 i4 dN1 i1 (by omega) i3 i7 h
end
section
variable {prog : Program} {w : World} {dp un : Nat} {fr : Option (List Env)} {gd : Option (List Code)} {s : Shared} {h₀ : Heap} {p : Program} {loose : List Str} {mean : ExcName → Option Value} {mg mb : Str → Option Value}
variable {Q E : Value → Shared → Prop} {l : Addr} {vs : List Value} {xs : List Int}
set_option maxHeartbeats 8000000 in
theorem law_c (X : (K w.params).In h₀) (T : Top p loose mean mg mb h₀) (k₀ : Ext h₀ s.heap) (hd : dp + 60 < recursionLimit) (hu : un + 500 < cLine)
    (hl : h₀.IsList l vs.toArray) (hI : IntsAre vs xs) (hz : xs.length ≤ 63) (hf1 : h₀.get? 73 = none) (hf2 : h₀.get? 431 = none)
    (HP1 : s.heap.get? 73 = some (tabObj #[])) (HP2 : s.heap.get? 431 = some (tabObj #[])) (hc1 : CodeHd h₀ 77 73) (hc2 : CodeHd h₀ 433 431) (hnS : ∀ i, i < 4 → NameOk w (nmS i)) (hnP : ∀ t, t < 2 → NameOk w (nmP t))
    (h : ∀ h' tk' p7 p4, ExtB [73, 431] s.heap h' → h'.get? 73 = some (tabObj p7) → h'.get? 431 = some (tabObj p4) → Q (.bool true) { s with heap := h', toks := tk' }) :
    wpAny (model prog w) (Ar dp fr gd un) (call (.ref 439) [.ref l]) Q E s := by
  have reg : (K, PySem.Challenge.rw_pb0258_01).1 = K := by (k_fill; rfl)
  clear reg
  have hW : ∀ p ∈ [(73, tabObj #[]), (431, tabObj #[])], s.heap.get? p.1 = some p.2 := by
    simp only [List.forall_mem_cons]; exact ⟨HP1, HP2, fun _ h => nomatch h⟩
  have hN : ∀ p ∈ [(73, tabObj #[]), (431, tabObj #[])], h₀.get? p.1 = none := by
    simp only [List.forall_mem_cons]; exact ⟨hf1, hf2, fun _ h => nomatch h⟩
  walk_at "ENTERC"
  rename_i g0 L0 _ _ hB0 hG0 F0 X0 T0 hS0 hL0 l0 oN oS dN dS N0
  have hc9 : CodeHd g0 77 73 := CodeHd.keeps hc1 hG0
  have hc8 : CodeHd g0 433 431 := CodeHd.keeps hc2 hG0
  have hl0 : g0.IsList l vs.toArray := hl.at fun o e => hG0 _ _ e
  k_steps
  refine ⟨?_⟩
  refine LCg.ListComp_U F0 (by with_unfolding_all rfl) (by decide) (by rfl) (by decide) (by rfl) ?_
  k_steps
  refine ⟨?_⟩
  refine LCg.CompSrc.base (by rfl) (by k_asm) (by k_asm) hl0 (by rw [List.size_toArray, hI.length]; unfold sizeLine; omega) fun g1 => ?_
  refine rest_ind (n := _) (fun i ys nw => nw = [(L0 + 1 + 1, oN), (L0 + 1, oS), (73, tabObj #[]), (431, tabObj #[])] ∧ NumsAre ys i) ?_ ?_ _ 0 [] _ (Nat.zero_add _) ⟨rfl, .nil⟩
  · rintro ys nw ⟨rfl, hy1⟩
    intro D1 h1 tk1 F1 N1 off1
    rw [List.size_toArray, hI.length] at hy1
    simp only [LCg.Off1] at off1
    k_steps
    refine ⟨?_⟩
    refine LCg.ListComp_U F1 (by with_unfolding_all rfl) (by decide) (by rfl) (by decide) (by rfl) ?_
    k_steps
    refine ⟨?_⟩
    refine LCg.CompSrc.range (n := 80) (by rfl) (by k_asm) (by k_asm) (by assumption) (by decide) (by rfl) (by unfold sizeLine; omega) fun g2 => ?_
    refine rest_ind (n := _) (fun i ys2 nw => nw = [(D1, LCg.lst ys), (L0 + 1 + 1, oN), (L0 + 1, oS), (73, tabObj #[]), (431, tabObj #[])] ∧ NumsAre ys2 i) ?_ ?_ _ 0 [] _ (Nat.zero_add _) ⟨rfl, .nil⟩
    · rintro ys2 nw ⟨rfl, hy2⟩
      intro D2 h2 tk2 F2 N2 off2
      simp only [LCg.Off1] at off2
      have hys := hy1.length
      have hys2 := hy2.length
      have q1 : ys.length + ys2.length ≤ 2 ^ 21 := by omega
      have hy3 := hy1.app hy2
      have stopX : StopX 2 := trivial
      k_steps
      refine ⟨?_⟩
      rename_i _ _ oN1 dN1 secL _ l1 _ F3 N3
      dsimp only [List.cons_append, List.nil_append] at N3 dN1 l1
      generalize ys ++ ys2 = ns at N3 hy3
      generalize h2.objs.size = nA at N3 dN1 l1
      have hq0 : xs.length + 80 ≤ 1000 := by omega
      have n1 : @Ne Nat nA (L0 + 1 + 1) := ne_cell N3 (.tail _ (.head _)) (.tail _ (.tail _ (.tail _ (.tail _ (.head _))))) (by simp) dN1
      have n2 : @Ne Nat nA (L0 + 1) := ne_cell N3 (.tail _ (.head _)) (.tail _ (.tail _ (.tail _ (.tail _ (.tail _ (.head _)))))) (by simp) dS
      have n3 : @Ne Nat nA 73 := ne_cls N3 (.tail _ (.head _)) (by k_mem) (by simp)
      have n4 : @Ne Nat nA 431 := ne_cls N3 (.tail _ (.head _)) (by k_mem) (by simp)
      have n5 : @Ne Nat secL nA := Nat.ne_of_gt l1.1
      have n6 : @Ne Nat secL (L0 + 1 + 1) := Nat.ne_of_gt l1.2.2.2.1
      have n7 : @Ne Nat secL (L0 + 1) := Nat.ne_of_gt l1.2.2.2.2.1
      have n8 : @Ne Nat secL 73 := Nat.ne_of_gt l1.2.2.2.2.2.1
      have n9 : @Ne Nat secL 431 := Nat.ne_of_gt l1.2.2.2.2.2.2.1
      have N4 : News g0 L0 _ [(secL, listOf (List.toArray []) 0), (nA, listOf (List.toArray ns) 0), (L0 + 1 + 1, oN1), (L0 + 1, oS), (73, tabObj #[]), (431, tabObj #[])] := fun p hp => N3 p (by
        simp only [List.mem_cons, List.not_mem_nil, or_false] at hp ⊢
        rcases hp with y | y | y | y | y | y
        · exact .inl y
        · exact .inr (.inl y)
        · exact .inr (.inr (.inr (.inr (.inl y))))
        · exact .inr (.inr (.inr (.inr (.inr (.inl y)))))
        · exact .inr (.inr (.inr (.inr (.inr (.inr (.inl y))))))
        · exact .inr (.inr (.inr (.inr (.inr (.inr (.inr y)))))))
      clear N3 l1
      have z1 : @Ne Nat (L0 + 1 + 1) 73 := by omega
      have z2 : @Ne Nat (L0 + 1 + 1) 431 := by omega
      have z3 : @Ne Nat (L0 + 1) 73 := by omega
      have z4 : @Ne Nat (L0 + 1) 431 := by omega
      have z5 : @Ne Nat 73 431 := by decide
      (rename Fr _ _ _ _ => F3)
      refine law_s ⟨X0, T0, by omega, by omega, hc9, hc8, hnS, hnP⟩ ⟨n1, n2, n3, n4, n5, n6, n7, n8, n9, z1, z2, z3, z4, z5⟩ F3 N4 dN1 hy3 (by omega) (by omega) (by walk_at "LOOK") ?_
      intro h' tk' m p7 p4 Fz e7 e4
      exact h h' tk' p7 p4 (extB_two hB0 Fz) e7 e4
    · rintro i ys2 nw hi ⟨rfl, hy2⟩ v I' oI' C' oC' D' m' h' tk' E' ⟨ti, rfl⟩ hC' hx' F' N' off' ne'
      k_steps
      refine ⟨?_⟩
      (rename News _ _ _ _ => N9)
      (rename Fr _ _ _ _ => F9)
      have h11 : ∀ z : Int, z.fmod 11 = z % 11 := fun z => Int.fmod_eq_emod_of_nonneg z (by decide)
      have h13 : ∀ z : Int, z.fmod 3 = z % 3 := fun z => Int.fmod_eq_emod_of_nonneg z (by decide)
      exact LCg.CompEnd.intro F9 N9 _ (fun p hp => hp) off' trivial ⟨rfl, hy2.snoc (by rw [h11, h13]; omega) (by rw [h11, h13]; omega)⟩
  · rintro i ys nw hi ⟨rfl, hy1⟩ v I' oI' C' oC' D' m' h' tk' E' hv hC' hx' F' N' off' ne'
    obtain ⟨ki, ti, rfl, hk2⟩ := IntsAre.at hI i v (by simpa using hv)
    k_steps
    refine ⟨?_⟩
    (rename News _ _ _ _ => N9)
    (rename Fr _ _ _ _ => F9)
    have hm : ki.fmod 30 = ki % 30 := Int.fmod_eq_emod_of_nonneg _ (by decide)
    exact LCg.CompEnd.intro F9 N9 _ (fun p hp => hp) off' (.inl hl0) ⟨rfl, hy1.snoc (by omega) (by omega)⟩
end
theorem words_none : True := by
  k_with_none
  exact True.intro
end
/-! ## the row -/
section
open PySem PySem.W PySem.Spec PySem.Calls PyProof.Rows
set_option maxRecDepth 1000000
set_option maxHeartbeats 0
theorem good_law {cw : ClaimW} {cl : Str → Option Addr} {mean : ExcName → Option Value} {args : List WData} {s₁ : Shared} {h' : Heap} {tk' : Nat} {p7 p4 : Array Value} (hT : TabsAt [(77, 73), (433, 431)] s₁.heap) (hg : s₁.gens = #[])
    (hr : ∀ cls, cw.raises args cls = false) (hp : cw.post args (.bool true) args = true) (hk : ExtB [73, 431] s₁.heap h') (h7 : h'.get? 73 = some (tabObj p7)) (h4 : h'.get? 431 = some (tabObj p4)) :
    GoodWG cw cl mean args s₁ (.ok (.ret (.bool true))) { s₁ with heap := h', toks := tk' } := by
  have t7 := (hT (77, 73) (.head _))
  have t4 := (hT (433, 431) (.tail _ (.head _)))
  have grown : ∀ b o, b ∈ [73, 431] → s₁.heap.get? b = some o → isCodeTable s₁.heap b ∧ o = tabObj #[] ∧ ∃ ps, h'.get? b = some (tabObj ps) := fun b o hb e => by
    rcases List.mem_cons.mp hb with rfl | hb
    · have e2 := t7.2
      rw [e] at e2
      exact ⟨(t7.1.tab t7.2).isCodeTable, Option.some.inj e2, _, h7⟩
    · rw [List.mem_singleton.mp hb] at e ⊢
      have e2 := t4.2
      rw [e] at e2
      exact ⟨(t4.1.tab t4.2).isCodeTable, Option.some.inj e2, _, h4⟩
  refine ⟨.inl ⟨_, .bool true, [], rfl, hr, .bool true, hp, fun _ => ⟨.nil, fun _ h => nomatch h⟩⟩, ⟨fun b o e => ?_, fun b o e => ?_⟩, rfl, .of_eq hg⟩
  · by_cases hb : b ∈ [73, 431]
    · obtain ⟨ht, rfl, ps, hP⟩ := grown b o hb e
      exact .inr (.inl ⟨ht, rfl, #[], ps, rfl, by rw [Array.empty_append]; exact hP⟩)
    · exact .inl (hk b o hb e)
  · by_cases hb : b ∈ [73, 431]
    · obtain ⟨_, _, ps, hP⟩ := grown b o hb e
      exact ⟨_, hP⟩
    · exact ⟨o, hk b o hb e⟩
/-- the row, from the law's contract -/
theorem holds9 : PySem.Challenge.rw_pb0258_01.Holds := by
  w_on
  refine holds_law said fun sd => ?_
  refine holds_open (q := q9) (loose := loose9) (Xt := xt9) (XP := XL q9 []) (Yf := hook9.obs) (Ya := hook9.val) (YP := hook9.says) (N := 6000) left9 hook9.of hook9.keeps (fun s e => xl_of s (Bool.and_eq_true_iff.mp e).1) XL.keeps (by rfl) (by rfl) (by rfl) (fun s e => recFacts_of (Bool.and_eq_true_iff.mp e).2) (by rfl) sd (by decide +kernel) ⟨rfl, rfl, rfl, rfl, rfl, by decide +kernel⟩ ?hw ?hc
  case hw => w_witness2
  case hc =>
    have reg : (K, PySem.Challenge.rw_pb0258_01).1 = K := by (k_fill; rfl)
    clear reg
    intro w s₀ s₁ mg mb G Y fa o pm cd doc dV kV ho hd hcd hD hmg hg args vals as hpre hlay hrd hwl hlo
    have KX : (K w.params).In s₁.heap := km_in_of Y
    have KT : ∀ P ∈ [73, 431], s₁.heap.get? P = some (tabObj #[]) := km_tabs_of Y
    refine Ground.open G ?_
    intro T B D TE TW
    have e9 : mg (Str.ofString "law") = some (.ref 439) := mg_of KX T.g (by k_is)
    have e8 : mg (Str.ofString "law") = some (.ref fa) := hmg
    rw [e9] at e8
    obtain rfl : 439 = fa := by cases e8; rfl
    have hT : TabsAt [(77, 73), (433, 431)] s₁.heap := by
      simp only [List.forall_mem_cons]
      exact ⟨⟨codeHd_of_K KX (by kernel_rfl), KT 73 (.head _)⟩, ⟨codeHd_of_K KX (by kernel_rfl), KT 431 (.tail _ (.head _))⟩, fun _ h => nomatch h⟩
    wrow_args hpre hlay hrd hwl hlo
    rename_i xs _ _ _ _ _ _ _ l vs _ hL _ _ _ hI _ hz _
    have hC := ghost_code hT
    refine law_c (h₀ := ghostOf s₁.heap [(77, 73), (433, 431)]) (ghost_K hT KX (by kernel_rfl)) (ghost_top hT T) (fun b o e => of_hideAll _ e) (by decide) (by decide) (ghost_list hT hL) hI (by omega) (hideAll_none _ (.head _)) (hideAll_none _ (.tail _ (.head _))) (KT 73 (.head _)) (KT 431 (.tail _ (.head _))) hC.1 hC.2.1 (nameS w) (nameP w) fun h' tk' p7 p4 k1 k2 k3 => ?_
    exact good_law hT hg (fun _ => rfl) (by kernel_rfl) k1 k2 k3
end
end Mine
theorem PySem.Challenge.cw_pb0258_01_holds : PySem.Challenge.rw_pb0258_01.Holds :=
  Mine.holds9
