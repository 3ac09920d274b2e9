import PyProof.Rows.All
import Wide.All
import OpenK.AllK
import Wide.FinOn
import PySem.Challenge.RW_pq1403_01
open PySem PySem.W PyProof.Rows
set_option Elab.async false
set_option maxRecDepth 100000
set_option linter.unusedVariables false
set_option rowWalk.seconds 0
namespace Mine
/-- the objects that the program leaves at its top, written out (printed by a small program of ours); the head makes the same fragment, and main turns the one into the other -/
noncomputable def hd.heap_39 (P : Params) : Frag :=
 ((nat_lit 2), (Obj.mk Value.none (@none Nat) (Data.dict #[(DictEntry.mk (PyData.keyHash P (Str.ofString "type.__subclasses__.Exception.0")) (Value.str (Str.ofString "type.__subclasses__.Exception.0") 212) (Value.int 31 0)), (DictEntry.mk (PyData.keyHash P (Str.ofString "type.__subclasses__.Exception.n")) (Value.str (Str.ofString "type.__subclasses__.Exception.n") 213) (Value.int 1 0))] 2) #[])) ::
 ((nat_lit 3), (Obj.mk (Value.type "dict") (@none Nat) (Data.dict #[(DictEntry.mk (PyData.keyHash P (Str.ofString "__name__")) (Value.str (Str.ofString "__name__") 165) (Value.str (Str.ofString "law_pq1403_01") 742)), (DictEntry.mk (PyData.keyHash P (Str.ofString "__doc__")) (Value.str (Str.ofString "__doc__") 166) Value.none), (DictEntry.mk (PyData.keyHash P (Str.ofString "__package__")) (Value.str (Str.ofString "__package__") 167) Value.none), (DictEntry.mk (PyData.keyHash P (Str.ofString "__loader__")) (Value.str (Str.ofString "__loader__") 168) (Value.builtin "__main__.__loader__#opaque")), (DictEntry.mk (PyData.keyHash P (Str.ofString "__spec__")) (Value.str (Str.ofString "__spec__") 169) Value.none), (DictEntry.mk (PyData.keyHash P (Str.ofString "__annotations__")) (Value.str (Str.ofString "__annotations__") 170) (Value.ref 6)), (DictEntry.mk (PyData.keyHash P (Str.ofString "__builtins__")) (Value.str (Str.ofString "__builtins__") 171) (Value.ref 4)), (DictEntry.mk (PyData.keyHash P (Str.ofString "__file__")) (Value.str (Str.ofString "__file__") 173) (Value.str (Str.ofString "/claim/cut.py") 172)), (DictEntry.mk (PyData.keyHash P (Str.ofString "__cached__")) (Value.str (Str.ofString "__cached__") 174) Value.none), (DictEntry.mk (PyData.keyHash P (Str.ofString "_wall")) (Value.str (Str.ofString "_wall") 193) (Value.ref 21)), (DictEntry.mk (PyData.keyHash P (Str.ofString "CoveError")) (Value.str (Str.ofString "CoveError") 215) (Value.ref 31)), (DictEntry.mk (PyData.keyHash P (Str.ofString "Refusal")) (Value.str (Str.ofString "Refusal") 240) (Value.ref 51)), (DictEntry.mk (PyData.keyHash P (Str.ofString "Matching")) (Value.str (Str.ofString "Matching") 325) (Value.ref 110)), (DictEntry.mk (PyData.keyHash P (Str.ofString "doubled_text")) (Value.str (Str.ofString "doubled_text") 332) (Value.ref 121)), (DictEntry.mk (PyData.keyHash P (Str.ofString "argument_text")) (Value.str (Str.ofString "argument_text") 344) (Value.ref 128)), (DictEntry.mk (PyData.keyHash P (Str.ofString "unused_text")) (Value.str (Str.ofString "unused_text") 350) (Value.ref 133)), (DictEntry.mk (PyData.keyHash P (Str.ofString "match_names")) (Value.str (Str.ofString "match_names") 356) (Value.ref 139)), (DictEntry.mk (PyData.keyHash P (Str.ofString "lookup_here")) (Value.str (Str.ofString "lookup_here") 366) (Value.ref 146)), (DictEntry.mk (PyData.keyHash P (Str.ofString "Null")) (Value.str (Str.ofString "Null") 397) (Value.ref 163)), (DictEntry.mk (PyData.keyHash P (Str.ofString "Missing")) (Value.str (Str.ofString "Missing") 426) (Value.ref 184)), (DictEntry.mk (PyData.keyHash P (Str.ofString "Vector")) (Value.str (Str.ofString "Vector") 468) (Value.ref 213)), (DictEntry.mk (PyData.keyHash P (Str.ofString "Symbol")) (Value.str (Str.ofString "Symbol") 499) (Value.ref 234)), (DictEntry.mk (PyData.keyHash P (Str.ofString "Closure")) (Value.str (Str.ofString "Closure") 535) (Value.ref 256)), (DictEntry.mk (PyData.keyHash P (Str.ofString "Environment")) (Value.str (Str.ofString "Environment") 572) (Value.ref 278)), (DictEntry.mk (PyData.keyHash P (Str.ofString "Promise")) (Value.str (Str.ofString "Promise") 608) (Value.ref 299)), (DictEntry.mk (PyData.keyHash P (Str.ofString "Dots")) (Value.str (Str.ofString "Dots") 639) (Value.ref 320)), (DictEntry.mk (PyData.keyHash P (Str.ofString "null")) (Value.str (Str.ofString "null") 645) (Value.ref 331)), (DictEntry.mk (PyData.keyHash P (Str.ofString "missing")) (Value.str (Str.ofString "missing") 651) (Value.ref 338)), (DictEntry.mk (PyData.keyHash P (Str.ofString "whole")) (Value.str (Str.ofString "whole") 658) (Value.ref 345)), (DictEntry.mk (PyData.keyHash P (Str.ofString "symbol")) (Value.str (Str.ofString "symbol") 665) (Value.ref 352)), (DictEntry.mk (PyData.keyHash P (Str.ofString "share")) (Value.str (Str.ofString "share") 672) (Value.ref 359)), (DictEntry.mk (PyData.keyHash P (Str.ofString "done_promise")) (Value.str (Str.ofString "done_promise") 683) (Value.ref 366)), (DictEntry.mk (PyData.keyHash P (Str.ofString "bound_argument")) (Value.str (Str.ofString "bound_argument") 690) (Value.ref 373)), (DictEntry.mk (PyData.keyHash P (Str.ofString "dots_argument")) (Value.str (Str.ofString "dots_argument") 699) (Value.ref 380)), (DictEntry.mk (PyData.keyHash P (Str.ofString "default_binding")) (Value.str (Str.ofString "default_binding") 708) (Value.ref 387)), (DictEntry.mk (PyData.keyHash P (Str.ofString "bind_formals")) (Value.str (Str.ofString "bind_formals") 714) (Value.ref 393)), (DictEntry.mk (PyData.keyHash P (Str.ofString "is_default")) (Value.str (Str.ofString "is_default") 722) (Value.ref 400)), (DictEntry.mk (PyData.keyHash P (Str.ofString "missing_argument")) (Value.str (Str.ofString "missing_argument") 733) (Value.ref 407)), (DictEntry.mk (PyData.keyHash P (Str.ofString "is_dots_place")) (Value.str (Str.ofString "is_dots_place") 741) (Value.ref 414)), (DictEntry.mk (PyData.keyHash P (Str.ofString "_law_take")) (Value.str (Str.ofString "_law_take") 753) (Value.ref 421)), (DictEntry.mk (PyData.keyHash P (Str.ofString "_law_due")) (Value.str (Str.ofString "_law_due") 766) (Value.ref 428)), (DictEntry.mk (PyData.keyHash P (Str.ofString "law")) (Value.str (Str.ofString "law") 772) (Value.ref 433))] 42) #[])) ::
 ((nat_lit 15), (Obj.mk (Value.type "tuple") (@none Nat) (Data.seq #[] 0) #[])) ::
 ((nat_lit 17), (Obj.mk (Value.type "tuple") (@none Nat) (Data.seq #[(Value.str (Str.ofString "k") 190)] 0) #[])) ::
 ((nat_lit 18), (Obj.mk (Value.type "tuple") (@none Nat) (Data.seq #[] 0) #[])) ::
 ((nat_lit 20), (Obj.mk (Value.type "code") (@none Nat) (Data.fields #[(Value.str (Str.ofString "_wall") 187), (Value.str (Str.ofString "_wall") 188), (Value.str (Str.ofString "/claim/cut.py") 189), (Value.int 1 0), (Value.int 1 0), (Value.int 0 0), (Value.int 0 0), (Value.int 3 0), (Value.ref 15), (Value.bool Bool.true), (Value.int 181 0), (Value.ref 16), Value.none, (Value.ref 17), (Value.ref 18), (Value.ref 19), (Value.int 191 0), (Value.int 1 0), (Value.str (Str.ofString "/claim/cut.py") 192)]) #[])) ::
 ((nat_lit 21), (Obj.mk (Value.type "function") (@none Nat) (Data.func (FuncData.mk (Str.ofString "_wall") (Str.ofString "_wall") (Arguments.mk [] [(Arg.mk (Str.ofString "k") none (Pos.mk 1 10 1 11))] none [] [] none []) (FuncBody.stmts [(Stmt.While (Expr.Constant (Const.bool Bool.true) 0 (Pos.mk 2 10 2 14)) [(Stmt.Pass (Pos.mk 3 8 3 12))] [] (Pos.mk 2 4 3 12))]) (Scope.mk ScopeKind.function [((Str.ofString "k"), NameKind.local)] Bool.false Bool.false []) 3 [] Value.none Value.none Value.none (Value.str (Str.ofString "__main__") 164) (@none Nat) (Value.ref 20) Value.none 0)) #[])) ::
 ((nat_lit 22), (Obj.mk (Value.type "tuple") (@none Nat) (Data.seq #[(Value.type "Exception")] 0) #[])) ::
 ((nat_lit 29), (Obj.mk (Value.type "tuple") (@none Nat) (Data.seq #[] 0) #[])) ::
 ((nat_lit 30), (Obj.mk (Value.type "dict") (@none Nat) (Data.dict #[(DictEntry.mk (PyData.keyHash P (Str.ofString "__module__")) (Value.str (Str.ofString "__module__") 203) (Value.str (Str.ofString "vectorcove.errors") 194)), (DictEntry.mk (PyData.keyHash P (Str.ofString "__firstlineno__")) (Value.str (Str.ofString "__firstlineno__") 207) (Value.int 5 206)), (DictEntry.mk (PyData.keyHash P (Str.ofString "__static_attributes__")) (Value.str (Str.ofString "__static_attributes__") 208) (Value.ref 29)), (DictEntry.mk (PyData.keyHash P (Str.ofString "__weakref__")) (Value.str (Str.ofString "__weakref__") 210) (Value.ref 32)), (DictEntry.mk (PyData.keyHash P (Str.ofString "__doc__")) (Value.str (Str.ofString "__doc__") 211) Value.none)] 3) #[])) ::
 ((nat_lit 31), (Obj.mk (Value.type "type") (@none Nat) (Data.cls (ClassData.mk (Str.ofString "CoveError") [(Value.type "Exception")] [(Value.ref 31), (Value.type "Exception"), (Value.type "BaseException"), (Value.type "object")] 30 (Str.ofString "CoveError") Bool.true [] [(Value.ref 51)] Bool.false none Bool.false)) #[(some (Value.ref 22)), none, (some (Value.str (Str.ofString "CoveError") 196)), (some (Value.str (Str.ofString "CoveError") 204)), (some (Value.builtin "Exception.__new__")), (some (Value.bool Bool.true))])) ::
 ((nat_lit 32), (Obj.mk (Value.type "getset_descriptor") (@none Nat) (Data.fields #[(Value.str (Str.ofString "__weakref__") 209), (Value.ref 31), (Value.builtin "ExceptionGroup.__weakref__"), Value.none]) #[])) ::
 ((nat_lit 35), (Obj.mk (Value.type "tuple") (@none Nat) (Data.seq #[(Value.ref 31)] 0) #[])) ::
 ((nat_lit 42), (Obj.mk (Value.type "tuple") (@none Nat) (Data.seq #[] 0) #[])) ::
 ((nat_lit 44), (Obj.mk (Value.type "tuple") (@none Nat) (Data.seq #[(Value.str (Str.ofString "self") 231), (Value.str (Str.ofString "message") 232)] 0) #[])) ::
 ((nat_lit 45), (Obj.mk (Value.type "tuple") (@none Nat) (Data.seq #[] 0) #[])) ::
 ((nat_lit 47), (Obj.mk (Value.type "code") (@none Nat) (Data.fields #[(Value.str (Str.ofString "__init__") 228), (Value.str (Str.ofString "Refusal.__init__") 229), (Value.str (Str.ofString "/claim/cut.py") 230), (Value.int 9 0), (Value.int 2 0), (Value.int 0 0), (Value.int 0 0), (Value.int 3 0), (Value.ref 42), (Value.bool Bool.true), (Value.int 181 0), (Value.ref 43), Value.none, (Value.ref 44), (Value.ref 45), (Value.ref 46), (Value.int 233 0), (Value.int 9 0), (Value.str (Str.ofString "/claim/cut.py") 234)]) #[])) ::
 ((nat_lit 48), (Obj.mk (Value.type "function") (@none Nat) (Data.func (FuncData.mk (Str.ofString "__init__") (Str.ofString "Refusal.__init__") (Arguments.mk [] [(Arg.mk (Str.ofString "self") none (Pos.mk 9 17 9 21)), (Arg.mk (Str.ofString "message") none (Pos.mk 9 23 9 30))] none [] [] none []) (FuncBody.stmts [(Stmt.Assign [(Expr.Attribute (Expr.Name (Str.ofString "self") (Pos.mk 10 8 10 12)) (Str.ofString "message") (Pos.mk 10 8 10 20))] (Expr.Name (Str.ofString "message") (Pos.mk 10 23 10 30)) (Pos.mk 10 8 10 30))]) (Scope.mk ScopeKind.function [((Str.ofString "self"), NameKind.local), ((Str.ofString "message"), NameKind.local)] Bool.false Bool.false []) 3 [] Value.none Value.none Value.none (Value.str (Str.ofString "vectorcove.errors") 194) (@none Nat) (Value.ref 47) Value.none 0)) #[])) ::
 ((nat_lit 49), (Obj.mk (Value.type "tuple") (@none Nat) (Data.seq #[(Value.str (Str.ofString "message") 236)] 0) #[])) ::
 ((nat_lit 50), (Obj.mk (Value.type "dict") (@none Nat) (Data.dict #[(DictEntry.mk (PyData.keyHash P (Str.ofString "__module__")) (Value.str (Str.ofString "__module__") 223) (Value.str (Str.ofString "vectorcove.errors") 194)), (DictEntry.mk (PyData.keyHash P (Str.ofString "__firstlineno__")) (Value.str (Str.ofString "__firstlineno__") 227) (Value.int 7 226)), (DictEntry.mk (PyData.keyHash P (Str.ofString "__init__")) (Value.str (Str.ofString "__init__") 235) (Value.ref 48)), (DictEntry.mk (PyData.keyHash P (Str.ofString "__static_attributes__")) (Value.str (Str.ofString "__static_attributes__") 237) (Value.ref 49)), (DictEntry.mk (PyData.keyHash P (Str.ofString "__doc__")) (Value.str (Str.ofString "__doc__") 238) Value.none)] 2) #[])) ::
 ((nat_lit 51), (Obj.mk (Value.type "type") (@none Nat) (Data.cls (ClassData.mk (Str.ofString "Refusal") [(Value.ref 31)] [(Value.ref 51), (Value.ref 31), (Value.type "Exception"), (Value.type "BaseException"), (Value.type "object")] 50 (Str.ofString "Refusal") Bool.true [] [] Bool.false none Bool.false)) #[(some (Value.ref 35)), none, (some (Value.str (Str.ofString "Refusal") 216)), (some (Value.str (Str.ofString "Refusal") 224)), (some (Value.builtin "Exception.__new__")), (some (Value.bool Bool.true))])) ::
 ((nat_lit 61), (Obj.mk (Value.type "tuple") (@none Nat) (Data.seq #[] 0) #[])) ::
 ((nat_lit 63), (Obj.mk (Value.type "tuple") (@none Nat) (Data.seq #[(Value.str (Str.ofString "self") 258), (Value.str (Str.ofString "formals") 259), (Value.str (Str.ofString "tags") 260)] 0) #[])) ::
 ((nat_lit 64), (Obj.mk (Value.type "tuple") (@none Nat) (Data.seq #[] 0) #[])) ::
 ((nat_lit 66), (Obj.mk (Value.type "code") (@none Nat) (Data.fields #[(Value.str (Str.ofString "__init__") 255), (Value.str (Str.ofString "Matching.__init__") 256), (Value.str (Str.ofString "/claim/cut.py") 257), (Value.int 14 0), (Value.int 3 0), (Value.int 0 0), (Value.int 0 0), (Value.int 3 0), (Value.ref 61), (Value.bool Bool.true), (Value.int 181 0), (Value.ref 62), Value.none, (Value.ref 63), (Value.ref 64), (Value.ref 65), (Value.int 261 0), (Value.int 14 0), (Value.str (Str.ofString "/claim/cut.py") 262)]) #[])) ::
 ((nat_lit 67), (Obj.mk (Value.type "function") (@none Nat) (Data.func (FuncData.mk (Str.ofString "__init__") (Str.ofString "Matching.__init__") (Arguments.mk [] [(Arg.mk (Str.ofString "self") none (Pos.mk 14 17 14 21)), (Arg.mk (Str.ofString "formals") none (Pos.mk 14 23 14 30)), (Arg.mk (Str.ofString "tags") none (Pos.mk 14 32 14 36))] none [] [] none []) (FuncBody.stmts [(Stmt.Assign [(Expr.Attribute (Expr.Name (Str.ofString "self") (Pos.mk 15 8 15 12)) (Str.ofString "formals") (Pos.mk 15 8 15 20))] (Expr.Name (Str.ofString "formals") (Pos.mk 15 23 15 30)) (Pos.mk 15 8 15 30)), (Stmt.Assign [(Expr.Attribute (Expr.Name (Str.ofString "self") (Pos.mk 16 8 16 12)) (Str.ofString "tags") (Pos.mk 16 8 16 17))] (Expr.Name (Str.ofString "tags") (Pos.mk 16 20 16 24)) (Pos.mk 16 8 16 24)), (Stmt.Assign [(Expr.Attribute (Expr.Name (Str.ofString "self") (Pos.mk 17 8 17 12)) (Str.ofString "used") (Pos.mk 17 8 17 17))] (Expr.BinOp (Expr.List [(Expr.Constant (Const.int 0) 0 (Pos.mk 17 21 17 22))] (Pos.mk 17 20 17 23)) Operator.Mult (Expr.Call (Expr.Name (Str.ofString "len") (Pos.mk 17 26 17 29)) [(Expr.Name (Str.ofString "tags") (Pos.mk 17 30 17 34))] [] (Pos.mk 17 26 17 35)) (Pos.mk 17 20 17 35)) (Pos.mk 17 8 17 35)), (Stmt.Assign [(Expr.Attribute (Expr.Name (Str.ofString "self") (Pos.mk 18 8 18 12)) (Str.ofString "places") (Pos.mk 18 8 18 19))] (Expr.Dict [] [] (Pos.mk 18 22 18 24)) (Pos.mk 18 8 18 24))]) (Scope.mk ScopeKind.function [((Str.ofString "self"), NameKind.local), ((Str.ofString "formals"), NameKind.local), ((Str.ofString "tags"), NameKind.local), ((Str.ofString "len"), NameKind.globalImplicit)] Bool.false Bool.false []) 3 [] Value.none Value.none Value.none (Value.str (Str.ofString "vectorcove.callargs") 241) (@none Nat) (Value.ref 66) Value.none 0)) #[])) ::
 ((nat_lit 68), (Obj.mk (Value.type "tuple") (@none Nat) (Data.seq #[] 0) #[])) ::
 ((nat_lit 70), (Obj.mk (Value.type "tuple") (@none Nat) (Data.seq #[(Value.str (Str.ofString "self") 267), (Value.str (Str.ofString "name") 268), (Value.str (Str.ofString "place") 269)] 0) #[])) ::
 ((nat_lit 71), (Obj.mk (Value.type "tuple") (@none Nat) (Data.seq #[] 0) #[])) ::
 ((nat_lit 73), (Obj.mk (Value.type "code") (@none Nat) (Data.fields #[(Value.str (Str.ofString "exact") 264), (Value.str (Str.ofString "Matching.exact") 265), (Value.str (Str.ofString "/claim/cut.py") 266), (Value.int 20 0), (Value.int 1 0), (Value.int 0 0), (Value.int 0 0), (Value.int 3 0), (Value.ref 68), (Value.bool Bool.true), (Value.int 181 0), (Value.ref 69), Value.none, (Value.ref 70), (Value.ref 71), (Value.ref 72), (Value.int 270 0), (Value.int 20 0), (Value.str (Str.ofString "/claim/cut.py") 271)]) #[])) ::
 ((nat_lit 74), (Obj.mk (Value.type "function") (@none Nat) (Data.func (FuncData.mk (Str.ofString "exact") (Str.ofString "Matching.exact") (Arguments.mk [] [(Arg.mk (Str.ofString "self") none (Pos.mk 20 14 20 18))] none [] [] none []) (FuncBody.stmts [(Stmt.For (Expr.Name (Str.ofString "name") (Pos.mk 21 12 21 16)) (Expr.Attribute (Expr.Name (Str.ofString "self") (Pos.mk 21 20 21 24)) (Str.ofString "formals") (Pos.mk 21 20 21 32)) [(Stmt.If (Expr.Compare (Expr.Name (Str.ofString "name") (Pos.mk 22 15 22 19)) [CmpOp.NotEq] [(Expr.Constant (Const.str (Str.ofString "...")) 0 (Pos.mk 22 23 22 28))] (Pos.mk 22 15 22 28)) [(Stmt.For (Expr.Name (Str.ofString "place") (Pos.mk 23 20 23 25)) (Expr.Call (Expr.Name (Str.ofString "range") (Pos.mk 23 29 23 34)) [(Expr.Call (Expr.Name (Str.ofString "len") (Pos.mk 23 35 23 38)) [(Expr.Attribute (Expr.Name (Str.ofString "self") (Pos.mk 23 39 23 43)) (Str.ofString "tags") (Pos.mk 23 39 23 48))] [] (Pos.mk 23 35 23 49))] [] (Pos.mk 23 29 23 50)) [(Stmt.If (Expr.BoolOp BoolOp.And [(Expr.Compare (Expr.Subscript (Expr.Attribute (Expr.Name (Str.ofString "self") (Pos.mk 24 23 24 27)) (Str.ofString "tags") (Pos.mk 24 23 24 32)) (Expr.Name (Str.ofString "place") (Pos.mk 24 33 24 38)) (Pos.mk 24 23 24 39)) [CmpOp.Eq] [(Expr.Name (Str.ofString "name") (Pos.mk 24 43 24 47))] (Pos.mk 24 23 24 47)), (Expr.Compare (Expr.Subscript (Expr.Attribute (Expr.Name (Str.ofString "self") (Pos.mk 24 52 24 56)) (Str.ofString "used") (Pos.mk 24 52 24 61)) (Expr.Name (Str.ofString "place") (Pos.mk 24 62 24 67)) (Pos.mk 24 52 24 68)) [CmpOp.Eq] [(Expr.Constant (Const.int 0) 0 (Pos.mk 24 72 24 73))] (Pos.mk 24 52 24 73))] (Pos.mk 24 23 24 73)) [(Stmt.If (Expr.Compare (Expr.Name (Str.ofString "name") (Pos.mk 25 27 25 31)) [CmpOp.In] [(Expr.Attribute (Expr.Name (Str.ofString "self") (Pos.mk 25 35 25 39)) (Str.ofString "places") (Pos.mk 25 35 25 46))] (Pos.mk 25 27 25 46)) [(Stmt.Raise (some (Expr.Call (Expr.Name (Str.ofString "Refusal") (Pos.mk 26 34 26 41)) [(Expr.Call (Expr.Name (Str.ofString "doubled_text") (Pos.mk 26 42 26 54)) [(Expr.Name (Str.ofString "name") (Pos.mk 26 55 26 59))] [] (Pos.mk 26 42 26 60))] [] (Pos.mk 26 34 26 61))) none (Pos.mk 26 28 26 61))] [] (Pos.mk 25 24 26 61)), (Stmt.Assign [(Expr.Subscript (Expr.Attribute (Expr.Name (Str.ofString "self") (Pos.mk 27 24 27 28)) (Str.ofString "places") (Pos.mk 27 24 27 35)) (Expr.Name (Str.ofString "name") (Pos.mk 27 36 27 40)) (Pos.mk 27 24 27 41))] (Expr.Name (Str.ofString "place") (Pos.mk 27 44 27 49)) (Pos.mk 27 24 27 49)), (Stmt.Assign [(Expr.Subscript (Expr.Attribute (Expr.Name (Str.ofString "self") (Pos.mk 28 24 28 28)) (Str.ofString "used") (Pos.mk 28 24 28 33)) (Expr.Name (Str.ofString "place") (Pos.mk 28 34 28 39)) (Pos.mk 28 24 28 40))] (Expr.Constant (Const.int 2) 0 (Pos.mk 28 43 28 44)) (Pos.mk 28 24 28 44))] [] (Pos.mk 24 20 28 44))] [] (Pos.mk 23 16 28 44))] [] (Pos.mk 22 12 28 44))] [] (Pos.mk 21 8 28 44))]) (Scope.mk ScopeKind.function [((Str.ofString "self"), NameKind.local), ((Str.ofString "name"), NameKind.local), ((Str.ofString "place"), NameKind.local), ((Str.ofString "range"), NameKind.globalImplicit), ((Str.ofString "len"), NameKind.globalImplicit), ((Str.ofString "Refusal"), NameKind.globalImplicit), ((Str.ofString "doubled_text"), NameKind.globalImplicit)] Bool.false Bool.false []) 3 [] Value.none Value.none Value.none (Value.str (Str.ofString "vectorcove.callargs") 241) (@none Nat) (Value.ref 73) Value.none 0)) #[])) ::
 ((nat_lit 75), (Obj.mk (Value.type "tuple") (@none Nat) (Data.seq #[] 0) #[])) ::
 ((nat_lit 77), (Obj.mk (Value.type "tuple") (@none Nat) (Data.seq #[(Value.str (Str.ofString "self") 276), (Value.str (Str.ofString "name") 277)] 0) #[])) ::
 ((nat_lit 78), (Obj.mk (Value.type "tuple") (@none Nat) (Data.seq #[] 0) #[])) ::
 ((nat_lit 80), (Obj.mk (Value.type "code") (@none Nat) (Data.fields #[(Value.str (Str.ofString "partial") 273), (Value.str (Str.ofString "Matching.partial") 274), (Value.str (Str.ofString "/claim/cut.py") 275), (Value.int 30 0), (Value.int 1 0), (Value.int 0 0), (Value.int 0 0), (Value.int 3 0), (Value.ref 75), (Value.bool Bool.true), (Value.int 181 0), (Value.ref 76), Value.none, (Value.ref 77), (Value.ref 78), (Value.ref 79), (Value.int 278 0), (Value.int 30 0), (Value.str (Str.ofString "/claim/cut.py") 279)]) #[])) ::
 ((nat_lit 81), (Obj.mk (Value.type "function") (@none Nat) (Data.func (FuncData.mk (Str.ofString "partial") (Str.ofString "Matching.partial") (Arguments.mk [] [(Arg.mk (Str.ofString "self") none (Pos.mk 30 16 30 20))] none [] [] none []) (FuncBody.stmts [(Stmt.For (Expr.Name (Str.ofString "name") (Pos.mk 31 12 31 16)) (Expr.Attribute (Expr.Name (Str.ofString "self") (Pos.mk 31 20 31 24)) (Str.ofString "formals") (Pos.mk 31 20 31 32)) [(Stmt.If (Expr.Compare (Expr.Name (Str.ofString "name") (Pos.mk 32 15 32 19)) [CmpOp.Eq] [(Expr.Constant (Const.str (Str.ofString "...")) 0 (Pos.mk 32 23 32 28))] (Pos.mk 32 15 32 28)) [(Stmt.Return none (Pos.mk 33 16 33 22))] [] (Pos.mk 32 12 33 22)), (Stmt.If (Expr.Compare (Expr.Name (Str.ofString "name") (Pos.mk 34 15 34 19)) [CmpOp.NotIn] [(Expr.Attribute (Expr.Name (Str.ofString "self") (Pos.mk 34 27 34 31)) (Str.ofString "places") (Pos.mk 34 27 34 38))] (Pos.mk 34 15 34 38)) [(Stmt.Expr (Expr.Call (Expr.Attribute (Expr.Name (Str.ofString "self") (Pos.mk 35 16 35 20)) (Str.ofString "partial_of") (Pos.mk 35 16 35 31)) [(Expr.Name (Str.ofString "name") (Pos.mk 35 32 35 36))] [] (Pos.mk 35 16 35 37)) (Pos.mk 35 16 35 37))] [] (Pos.mk 34 12 35 37))] [] (Pos.mk 31 8 35 37))]) (Scope.mk ScopeKind.function [((Str.ofString "self"), NameKind.local), ((Str.ofString "name"), NameKind.local)] Bool.false Bool.false []) 3 [] Value.none Value.none Value.none (Value.str (Str.ofString "vectorcove.callargs") 241) (@none Nat) (Value.ref 80) Value.none 0)) #[])) ::
 ((nat_lit 82), (Obj.mk (Value.type "tuple") (@none Nat) (Data.seq #[] 0) #[])) ::
 ((nat_lit 84), (Obj.mk (Value.type "tuple") (@none Nat) (Data.seq #[(Value.str (Str.ofString "self") 284), (Value.str (Str.ofString "name") 285), (Value.str (Str.ofString "place") 286), (Value.str (Str.ofString "tag") 287)] 0) #[])) ::
 ((nat_lit 85), (Obj.mk (Value.type "tuple") (@none Nat) (Data.seq #[] 0) #[])) ::
 ((nat_lit 87), (Obj.mk (Value.type "code") (@none Nat) (Data.fields #[(Value.str (Str.ofString "partial_of") 281), (Value.str (Str.ofString "Matching.partial_of") 282), (Value.str (Str.ofString "/claim/cut.py") 283), (Value.int 37 0), (Value.int 2 0), (Value.int 0 0), (Value.int 0 0), (Value.int 3 0), (Value.ref 82), (Value.bool Bool.true), (Value.int 181 0), (Value.ref 83), Value.none, (Value.ref 84), (Value.ref 85), (Value.ref 86), (Value.int 288 0), (Value.int 37 0), (Value.str (Str.ofString "/claim/cut.py") 289)]) #[])) ::
 ((nat_lit 88), (Obj.mk (Value.type "function") (@none Nat) (Data.func (FuncData.mk (Str.ofString "partial_of") (Str.ofString "Matching.partial_of") (Arguments.mk [] [(Arg.mk (Str.ofString "self") none (Pos.mk 37 19 37 23)), (Arg.mk (Str.ofString "name") none (Pos.mk 37 25 37 29))] none [] [] none []) (FuncBody.stmts [(Stmt.For (Expr.Name (Str.ofString "place") (Pos.mk 38 12 38 17)) (Expr.Call (Expr.Name (Str.ofString "range") (Pos.mk 38 21 38 26)) [(Expr.Call (Expr.Name (Str.ofString "len") (Pos.mk 38 27 38 30)) [(Expr.Attribute (Expr.Name (Str.ofString "self") (Pos.mk 38 31 38 35)) (Str.ofString "tags") (Pos.mk 38 31 38 40))] [] (Pos.mk 38 27 38 41))] [] (Pos.mk 38 21 38 42)) [(Stmt.Assign [(Expr.Name (Str.ofString "tag") (Pos.mk 39 12 39 15))] (Expr.Subscript (Expr.Attribute (Expr.Name (Str.ofString "self") (Pos.mk 39 18 39 22)) (Str.ofString "tags") (Pos.mk 39 18 39 27)) (Expr.Name (Str.ofString "place") (Pos.mk 39 28 39 33)) (Pos.mk 39 18 39 34)) (Pos.mk 39 12 39 34)), (Stmt.If (Expr.BoolOp BoolOp.And [(Expr.Compare (Expr.Subscript (Expr.Attribute (Expr.Name (Str.ofString "self") (Pos.mk 40 15 40 19)) (Str.ofString "used") (Pos.mk 40 15 40 24)) (Expr.Name (Str.ofString "place") (Pos.mk 40 25 40 30)) (Pos.mk 40 15 40 31)) [CmpOp.NotEq] [(Expr.Constant (Const.int 2) 0 (Pos.mk 40 35 40 36))] (Pos.mk 40 15 40 36)), (Expr.Compare (Expr.Name (Str.ofString "tag") (Pos.mk 40 41 40 44)) [CmpOp.IsNot] [(Expr.Constant Const.none 0 (Pos.mk 40 52 40 56))] (Pos.mk 40 41 40 56)), (Expr.Compare (Expr.Name (Str.ofString "tag") (Pos.mk 40 62 40 65)) [CmpOp.NotEq] [(Expr.Constant (Const.str (Str.ofString "")) 0 (Pos.mk 40 69 40 71))] (Pos.mk 40 62 40 71)), (Expr.Call (Expr.Attribute (Expr.Name (Str.ofString "name") (Pos.mk 40 77 40 81)) (Str.ofString "startswith") (Pos.mk 40 77 40 92)) [(Expr.Name (Str.ofString "tag") (Pos.mk 40 93 40 96))] [] (Pos.mk 40 77 40 97))] (Pos.mk 40 15 40 97)) [(Stmt.If (Expr.Compare (Expr.Subscript (Expr.Attribute (Expr.Name (Str.ofString "self") (Pos.mk 41 19 41 23)) (Str.ofString "used") (Pos.mk 41 19 41 28)) (Expr.Name (Str.ofString "place") (Pos.mk 41 29 41 34)) (Pos.mk 41 19 41 35)) [CmpOp.Eq] [(Expr.Constant (Const.int 1) 0 (Pos.mk 41 39 41 40))] (Pos.mk 41 19 41 40)) [(Stmt.Raise (some (Expr.Call (Expr.Name (Str.ofString "Refusal") (Pos.mk 42 26 42 33)) [(Expr.JoinedStr [(Expr.Constant (Const.str (Str.ofString "argument ")) 0 (Pos.mk 42 36 42 45)), (Expr.FormattedValue (Expr.BinOp (Expr.Name (Str.ofString "place") (Pos.mk 42 46 42 51)) Operator.Add (Expr.Constant (Const.int 1) 0 (Pos.mk 42 54 42 55)) (Pos.mk 42 46 42 55)) (-1) none (Pos.mk 42 45 42 56)), (Expr.Constant (Const.str (Str.ofString " matches multiple formal arguments")) 0 (Pos.mk 42 56 42 90))] (Pos.mk 42 34 42 91))] [] (Pos.mk 42 26 42 92))) none (Pos.mk 42 20 42 92))] [] (Pos.mk 41 16 42 92)), (Stmt.If (Expr.Compare (Expr.Name (Str.ofString "name") (Pos.mk 43 19 43 23)) [CmpOp.In] [(Expr.Attribute (Expr.Name (Str.ofString "self") (Pos.mk 43 27 43 31)) (Str.ofString "places") (Pos.mk 43 27 43 38))] (Pos.mk 43 19 43 38)) [(Stmt.Raise (some (Expr.Call (Expr.Name (Str.ofString "Refusal") (Pos.mk 44 26 44 33)) [(Expr.Call (Expr.Name (Str.ofString "doubled_text") (Pos.mk 44 34 44 46)) [(Expr.Name (Str.ofString "name") (Pos.mk 44 47 44 51))] [] (Pos.mk 44 34 44 52))] [] (Pos.mk 44 26 44 53))) none (Pos.mk 44 20 44 53))] [] (Pos.mk 43 16 44 53)), (Stmt.Assign [(Expr.Subscript (Expr.Attribute (Expr.Name (Str.ofString "self") (Pos.mk 45 16 45 20)) (Str.ofString "places") (Pos.mk 45 16 45 27)) (Expr.Name (Str.ofString "name") (Pos.mk 45 28 45 32)) (Pos.mk 45 16 45 33))] (Expr.Name (Str.ofString "place") (Pos.mk 45 36 45 41)) (Pos.mk 45 16 45 41)), (Stmt.Assign [(Expr.Subscript (Expr.Attribute (Expr.Name (Str.ofString "self") (Pos.mk 46 16 46 20)) (Str.ofString "used") (Pos.mk 46 16 46 25)) (Expr.Name (Str.ofString "place") (Pos.mk 46 26 46 31)) (Pos.mk 46 16 46 32))] (Expr.Constant (Const.int 1) 0 (Pos.mk 46 35 46 36)) (Pos.mk 46 16 46 36))] [] (Pos.mk 40 12 46 36))] [] (Pos.mk 38 8 46 36))]) (Scope.mk ScopeKind.function [((Str.ofString "self"), NameKind.local), ((Str.ofString "name"), NameKind.local), ((Str.ofString "place"), NameKind.local), ((Str.ofString "tag"), NameKind.local), ((Str.ofString "range"), NameKind.globalImplicit), ((Str.ofString "len"), NameKind.globalImplicit), ((Str.ofString "Refusal"), NameKind.globalImplicit), ((Str.ofString "doubled_text"), NameKind.globalImplicit)] Bool.false Bool.false []) 3 [] Value.none Value.none Value.none (Value.str (Str.ofString "vectorcove.callargs") 241) (@none Nat) (Value.ref 87) Value.none 0)) #[])) ::
 ((nat_lit 89), (Obj.mk (Value.type "tuple") (@none Nat) (Data.seq #[] 0) #[])) ::
 ((nat_lit 91), (Obj.mk (Value.type "tuple") (@none Nat) (Data.seq #[(Value.str (Str.ofString "self") 294), (Value.str (Str.ofString "place") 295), (Value.str (Str.ofString "name") 296)] 0) #[])) ::
 ((nat_lit 92), (Obj.mk (Value.type "tuple") (@none Nat) (Data.seq #[] 0) #[])) ::
 ((nat_lit 94), (Obj.mk (Value.type "code") (@none Nat) (Data.fields #[(Value.str (Str.ofString "positional") 291), (Value.str (Str.ofString "Matching.positional") 292), (Value.str (Str.ofString "/claim/cut.py") 293), (Value.int 48 0), (Value.int 1 0), (Value.int 0 0), (Value.int 0 0), (Value.int 3 0), (Value.ref 89), (Value.bool Bool.true), (Value.int 181 0), (Value.ref 90), Value.none, (Value.ref 91), (Value.ref 92), (Value.ref 93), (Value.int 297 0), (Value.int 48 0), (Value.str (Str.ofString "/claim/cut.py") 298)]) #[])) ::
 ((nat_lit 95), (Obj.mk (Value.type "function") (@none Nat) (Data.func (FuncData.mk (Str.ofString "positional") (Str.ofString "Matching.positional") (Arguments.mk [] [(Arg.mk (Str.ofString "self") none (Pos.mk 48 19 48 23))] none [] [] none []) (FuncBody.stmts [(Stmt.Assign [(Expr.Name (Str.ofString "place") (Pos.mk 49 8 49 13))] (Expr.Constant (Const.int 0) 0 (Pos.mk 49 16 49 17)) (Pos.mk 49 8 49 17)), (Stmt.For (Expr.Name (Str.ofString "name") (Pos.mk 50 12 50 16)) (Expr.Attribute (Expr.Name (Str.ofString "self") (Pos.mk 50 20 50 24)) (Str.ofString "formals") (Pos.mk 50 20 50 32)) [(Stmt.If (Expr.Compare (Expr.Name (Str.ofString "name") (Pos.mk 51 15 51 19)) [CmpOp.Eq] [(Expr.Constant (Const.str (Str.ofString "...")) 0 (Pos.mk 51 23 51 28))] (Pos.mk 51 15 51 28)) [(Stmt.Return none (Pos.mk 52 16 52 22))] [] (Pos.mk 51 12 52 22)), (Stmt.If (Expr.Compare (Expr.Name (Str.ofString "name") (Pos.mk 53 15 53 19)) [CmpOp.NotIn] [(Expr.Attribute (Expr.Name (Str.ofString "self") (Pos.mk 53 27 53 31)) (Str.ofString "places") (Pos.mk 53 27 53 38))] (Pos.mk 53 15 53 38)) [(Stmt.While (Expr.BoolOp BoolOp.And [(Expr.Compare (Expr.Name (Str.ofString "place") (Pos.mk 54 22 54 27)) [CmpOp.Lt] [(Expr.Call (Expr.Name (Str.ofString "len") (Pos.mk 54 30 54 33)) [(Expr.Attribute (Expr.Name (Str.ofString "self") (Pos.mk 54 34 54 38)) (Str.ofString "tags") (Pos.mk 54 34 54 43))] [] (Pos.mk 54 30 54 44))] (Pos.mk 54 22 54 44)), (Expr.UnaryOp UnaryOp.Not (Expr.Call (Expr.Attribute (Expr.Name (Str.ofString "self") (Pos.mk 54 54 54 58)) (Str.ofString "is_free") (Pos.mk 54 54 54 66)) [(Expr.Name (Str.ofString "place") (Pos.mk 54 67 54 72))] [] (Pos.mk 54 54 54 73)) (Pos.mk 54 50 54 73))] (Pos.mk 54 22 54 74)) [(Stmt.AugAssign (Expr.Name (Str.ofString "place") (Pos.mk 55 20 55 25)) Operator.Add (Expr.Constant (Const.int 1) 0 (Pos.mk 55 29 55 30)) (Pos.mk 55 20 55 30))] [] (Pos.mk 54 16 55 30)), (Stmt.If (Expr.Compare (Expr.Name (Str.ofString "place") (Pos.mk 56 19 56 24)) [CmpOp.Lt] [(Expr.Call (Expr.Name (Str.ofString "len") (Pos.mk 56 27 56 30)) [(Expr.Attribute (Expr.Name (Str.ofString "self") (Pos.mk 56 31 56 35)) (Str.ofString "tags") (Pos.mk 56 31 56 40))] [] (Pos.mk 56 27 56 41))] (Pos.mk 56 19 56 41)) [(Stmt.Assign [(Expr.Subscript (Expr.Attribute (Expr.Name (Str.ofString "self") (Pos.mk 57 20 57 24)) (Str.ofString "places") (Pos.mk 57 20 57 31)) (Expr.Name (Str.ofString "name") (Pos.mk 57 32 57 36)) (Pos.mk 57 20 57 37))] (Expr.Name (Str.ofString "place") (Pos.mk 57 40 57 45)) (Pos.mk 57 20 57 45)), (Stmt.Assign [(Expr.Subscript (Expr.Attribute (Expr.Name (Str.ofString "self") (Pos.mk 58 20 58 24)) (Str.ofString "used") (Pos.mk 58 20 58 29)) (Expr.Name (Str.ofString "place") (Pos.mk 58 30 58 35)) (Pos.mk 58 20 58 36))] (Expr.Constant (Const.int 2) 0 (Pos.mk 58 39 58 40)) (Pos.mk 58 20 58 40))] [] (Pos.mk 56 16 58 40))] [] (Pos.mk 53 12 58 40))] [] (Pos.mk 50 8 58 40))]) (Scope.mk ScopeKind.function [((Str.ofString "self"), NameKind.local), ((Str.ofString "place"), NameKind.local), ((Str.ofString "name"), NameKind.local), ((Str.ofString "len"), NameKind.globalImplicit)] Bool.false Bool.false []) 3 [] Value.none Value.none Value.none (Value.str (Str.ofString "vectorcove.callargs") 241) (@none Nat) (Value.ref 94) Value.none 0)) #[])) ::
 ((nat_lit 96), (Obj.mk (Value.type "tuple") (@none Nat) (Data.seq #[] 0) #[])) ::
 ((nat_lit 98), (Obj.mk (Value.type "tuple") (@none Nat) (Data.seq #[(Value.str (Str.ofString "self") 303), (Value.str (Str.ofString "place") 304)] 0) #[])) ::
 ((nat_lit 99), (Obj.mk (Value.type "tuple") (@none Nat) (Data.seq #[] 0) #[])) ::
 ((nat_lit 101), (Obj.mk (Value.type "code") (@none Nat) (Data.fields #[(Value.str (Str.ofString "is_free") 300), (Value.str (Str.ofString "Matching.is_free") 301), (Value.str (Str.ofString "/claim/cut.py") 302), (Value.int 60 0), (Value.int 2 0), (Value.int 0 0), (Value.int 0 0), (Value.int 3 0), (Value.ref 96), (Value.bool Bool.true), (Value.int 181 0), (Value.ref 97), Value.none, (Value.ref 98), (Value.ref 99), (Value.ref 100), (Value.int 305 0), (Value.int 60 0), (Value.str (Str.ofString "/claim/cut.py") 306)]) #[])) ::
 ((nat_lit 102), (Obj.mk (Value.type "function") (@none Nat) (Data.func (FuncData.mk (Str.ofString "is_free") (Str.ofString "Matching.is_free") (Arguments.mk [] [(Arg.mk (Str.ofString "self") none (Pos.mk 60 16 60 20)), (Arg.mk (Str.ofString "place") none (Pos.mk 60 22 60 27))] none [] [] none []) (FuncBody.stmts [(Stmt.Return (some (Expr.BoolOp BoolOp.And [(Expr.Compare (Expr.Subscript (Expr.Attribute (Expr.Name (Str.ofString "self") (Pos.mk 61 15 61 19)) (Str.ofString "used") (Pos.mk 61 15 61 24)) (Expr.Name (Str.ofString "place") (Pos.mk 61 25 61 30)) (Pos.mk 61 15 61 31)) [CmpOp.Eq] [(Expr.Constant (Const.int 0) 0 (Pos.mk 61 35 61 36))] (Pos.mk 61 15 61 36)), (Expr.BoolOp BoolOp.Or [(Expr.Compare (Expr.Subscript (Expr.Attribute (Expr.Name (Str.ofString "self") (Pos.mk 61 42 61 46)) (Str.ofString "tags") (Pos.mk 61 42 61 51)) (Expr.Name (Str.ofString "place") (Pos.mk 61 52 61 57)) (Pos.mk 61 42 61 58)) [CmpOp.Is] [(Expr.Constant Const.none 0 (Pos.mk 61 62 61 66))] (Pos.mk 61 42 61 66)), (Expr.Compare (Expr.Subscript (Expr.Attribute (Expr.Name (Str.ofString "self") (Pos.mk 61 70 61 74)) (Str.ofString "tags") (Pos.mk 61 70 61 79)) (Expr.Name (Str.ofString "place") (Pos.mk 61 80 61 85)) (Pos.mk 61 70 61 86)) [CmpOp.Eq] [(Expr.Constant (Const.str (Str.ofString "")) 0 (Pos.mk 61 90 61 92))] (Pos.mk 61 70 61 92))] (Pos.mk 61 42 61 92))] (Pos.mk 61 15 61 93))) (Pos.mk 61 8 61 93))]) (Scope.mk ScopeKind.function [((Str.ofString "self"), NameKind.local), ((Str.ofString "place"), NameKind.local)] Bool.false Bool.false []) 3 [] Value.none Value.none Value.none (Value.str (Str.ofString "vectorcove.callargs") 241) (@none Nat) (Value.ref 101) Value.none 0)) #[])) ::
 ((nat_lit 103), (Obj.mk (Value.type "tuple") (@none Nat) (Data.seq #[] 0) #[])) ::
 ((nat_lit 106), (Obj.mk (Value.type "code") (@none Nat) (Data.fields #[(Value.str (Str.ofString "rest") 308), (Value.str (Str.ofString "Matching.rest") 309), (Value.str (Str.ofString "/claim/cut.py") 310), (Value.int 63 0), (Value.int 1 0), (Value.int 0 0), (Value.int 0 0), (Value.int 3 0), (Value.ref 103), (Value.bool Bool.true), (Value.int 181 0), (Value.ref 104), Value.none, Value.none, Value.none, (Value.ref 105), (Value.int 311 0), (Value.int 63 0), (Value.str (Str.ofString "/claim/cut.py") 312)]) #[])) ::
 ((nat_lit 107), (Obj.mk (Value.type "function") (@none Nat) (Data.func (FuncData.mk (Str.ofString "rest") (Str.ofString "Matching.rest") (Arguments.mk [] [(Arg.mk (Str.ofString "self") none (Pos.mk 63 13 63 17))] none [] [] none []) (FuncBody.stmts [(Stmt.Return (some (Expr.ListComp (Expr.Name (Str.ofString "place") (Pos.mk 64 16 64 21)) [(Comprehension.mk (Expr.Name (Str.ofString "place") (Pos.mk 64 26 64 31)) (Expr.Call (Expr.Name (Str.ofString "range") (Pos.mk 64 35 64 40)) [(Expr.Call (Expr.Name (Str.ofString "len") (Pos.mk 64 41 64 44)) [(Expr.Attribute (Expr.Name (Str.ofString "self") (Pos.mk 64 45 64 49)) (Str.ofString "tags") (Pos.mk 64 45 64 54))] [] (Pos.mk 64 41 64 55))] [] (Pos.mk 64 35 64 56)) [(Expr.Compare (Expr.Subscript (Expr.Attribute (Expr.Name (Str.ofString "self") (Pos.mk 64 60 64 64)) (Str.ofString "used") (Pos.mk 64 60 64 69)) (Expr.Name (Str.ofString "place") (Pos.mk 64 70 64 75)) (Pos.mk 64 60 64 76)) [CmpOp.Eq] [(Expr.Constant (Const.int 0) 0 (Pos.mk 64 80 64 81))] (Pos.mk 64 60 64 81))] 0)] (Scope.mk ScopeKind.function [((Str.ofString ".0"), NameKind.local), ((Str.ofString "place"), NameKind.local), ((Str.ofString "self"), NameKind.free)] Bool.false Bool.false []) (Pos.mk 64 15 64 82))) (Pos.mk 64 8 64 82))]) (Scope.mk ScopeKind.function [((Str.ofString "self"), NameKind.cell), ((Str.ofString "range"), NameKind.globalImplicit), ((Str.ofString "len"), NameKind.globalImplicit)] Bool.false Bool.false [((Str.ofString "fast"), (Const.str (Str.ofString "self"))), ((Str.ofString "fast"), (Const.str (Str.ofString "place")))]) 3 [] Value.none Value.none Value.none (Value.str (Str.ofString "vectorcove.callargs") 241) (@none Nat) (Value.ref 106) Value.none 0)) #[])) ::
 ((nat_lit 108), (Obj.mk (Value.type "tuple") (@none Nat) (Data.seq #[(Value.str (Str.ofString "formals") 314), (Value.str (Str.ofString "places") 315), (Value.str (Str.ofString "tags") 316), (Value.str (Str.ofString "used") 317)] 0) #[])) ::
 ((nat_lit 109), (Obj.mk (Value.type "dict") (@none Nat) (Data.dict #[(DictEntry.mk (PyData.keyHash P (Str.ofString "__module__")) (Value.str (Str.ofString "__module__") 250) (Value.str (Str.ofString "vectorcove.callargs") 241)), (DictEntry.mk (PyData.keyHash P (Str.ofString "__firstlineno__")) (Value.str (Str.ofString "__firstlineno__") 254) (Value.int 12 253)), (DictEntry.mk (PyData.keyHash P (Str.ofString "__init__")) (Value.str (Str.ofString "__init__") 263) (Value.ref 67)), (DictEntry.mk (PyData.keyHash P (Str.ofString "exact")) (Value.str (Str.ofString "exact") 272) (Value.ref 74)), (DictEntry.mk (PyData.keyHash P (Str.ofString "partial")) (Value.str (Str.ofString "partial") 280) (Value.ref 81)), (DictEntry.mk (PyData.keyHash P (Str.ofString "partial_of")) (Value.str (Str.ofString "partial_of") 290) (Value.ref 88)), (DictEntry.mk (PyData.keyHash P (Str.ofString "positional")) (Value.str (Str.ofString "positional") 299) (Value.ref 95)), (DictEntry.mk (PyData.keyHash P (Str.ofString "is_free")) (Value.str (Str.ofString "is_free") 307) (Value.ref 102)), (DictEntry.mk (PyData.keyHash P (Str.ofString "rest")) (Value.str (Str.ofString "rest") 313) (Value.ref 107)), (DictEntry.mk (PyData.keyHash P (Str.ofString "__static_attributes__")) (Value.str (Str.ofString "__static_attributes__") 318) (Value.ref 108)), (DictEntry.mk (PyData.keyHash P (Str.ofString "__dict__")) (Value.str (Str.ofString "__dict__") 320) (Value.ref 111)), (DictEntry.mk (PyData.keyHash P (Str.ofString "__weakref__")) (Value.str (Str.ofString "__weakref__") 322) (Value.ref 112)), (DictEntry.mk (PyData.keyHash P (Str.ofString "__doc__")) (Value.str (Str.ofString "__doc__") 323) Value.none)] 4) #[])) ::
 ((nat_lit 110), (Obj.mk (Value.type "type") (@none Nat) (Data.cls (ClassData.mk (Str.ofString "Matching") [(Value.type "object")] [(Value.ref 110), (Value.type "object")] 109 (Str.ofString "Matching") Bool.true [] [] Bool.false none Bool.false)) #[none, none, (some (Value.str (Str.ofString "Matching") 243)), (some (Value.str (Str.ofString "Matching") 251)), (some (Value.builtin "object.__new__")), (some (Value.bool Bool.true))])) ::
 ((nat_lit 111), (Obj.mk (Value.type "getset_descriptor") (@none Nat) (Data.fields #[(Value.str (Str.ofString "__dict__") 319), (Value.ref 110), (Value.builtin "function.__dict__"), (Value.builtin "function.__dict__#set")]) #[])) ::
 ((nat_lit 112), (Obj.mk (Value.type "getset_descriptor") (@none Nat) (Data.fields #[(Value.str (Str.ofString "__weakref__") 321), (Value.ref 110), (Value.builtin "ExceptionGroup.__weakref__"), Value.none]) #[])) ::
 ((nat_lit 115), (Obj.mk (Value.type "tuple") (@none Nat) (Data.seq #[] 0) #[])) ::
 ((nat_lit 117), (Obj.mk (Value.type "tuple") (@none Nat) (Data.seq #[(Value.str (Str.ofString "name") 329)] 0) #[])) ::
 ((nat_lit 118), (Obj.mk (Value.type "tuple") (@none Nat) (Data.seq #[] 0) #[])) ::
 ((nat_lit 120), (Obj.mk (Value.type "code") (@none Nat) (Data.fields #[(Value.str (Str.ofString "doubled_text") 326), (Value.str (Str.ofString "doubled_text") 327), (Value.str (Str.ofString "/claim/cut.py") 328), (Value.int 65 0), (Value.int 1 0), (Value.int 0 0), (Value.int 0 0), (Value.int 3 0), (Value.ref 115), (Value.bool Bool.true), (Value.int 181 0), (Value.ref 116), Value.none, (Value.ref 117), (Value.ref 118), (Value.ref 119), (Value.int 330 0), (Value.int 65 0), (Value.str (Str.ofString "/claim/cut.py") 331)]) #[])) ::
 ((nat_lit 121), (Obj.mk (Value.type "function") (@none Nat) (Data.func (FuncData.mk (Str.ofString "doubled_text") (Str.ofString "doubled_text") (Arguments.mk [] [(Arg.mk (Str.ofString "name") none (Pos.mk 65 17 65 21))] none [] [] none []) (FuncBody.stmts [(Stmt.Return (some (Expr.BinOp (Expr.BinOp (Expr.Constant (Const.str (Str.ofString "formal argument \"")) 0 (Pos.mk 66 11 66 30)) Operator.Add (Expr.Name (Str.ofString "name") (Pos.mk 66 33 66 37)) (Pos.mk 66 11 66 37)) Operator.Add (Expr.Constant (Const.str (Str.ofString "\" matched by multiple actual arguments")) 0 (Pos.mk 66 40 66 80)) (Pos.mk 66 11 66 80))) (Pos.mk 66 4 66 80))]) (Scope.mk ScopeKind.function [((Str.ofString "name"), NameKind.local)] Bool.false Bool.false []) 3 [] Value.none Value.none Value.none (Value.str (Str.ofString "vectorcove.callargs") 241) (@none Nat) (Value.ref 120) Value.none 0)) #[])) ::
 ((nat_lit 122), (Obj.mk (Value.type "tuple") (@none Nat) (Data.seq #[] 0) #[])) ::
 ((nat_lit 124), (Obj.mk (Value.type "tuple") (@none Nat) (Data.seq #[(Value.str (Str.ofString "args") 336), (Value.str (Str.ofString "place") 337), (Value.str (Str.ofString "show") 338), (Value.str (Str.ofString "tag") 339), (Value.str (Str.ofString "value") 340), (Value.str (Str.ofString "told") 341)] 0) #[])) ::
 ((nat_lit 125), (Obj.mk (Value.type "tuple") (@none Nat) (Data.seq #[] 0) #[])) ::
 ((nat_lit 127), (Obj.mk (Value.type "code") (@none Nat) (Data.fields #[(Value.str (Str.ofString "argument_text") 333), (Value.str (Str.ofString "argument_text") 334), (Value.str (Str.ofString "/claim/cut.py") 335), (Value.int 67 0), (Value.int 3 0), (Value.int 0 0), (Value.int 0 0), (Value.int 3 0), (Value.ref 122), (Value.bool Bool.true), (Value.int 181 0), (Value.ref 123), Value.none, (Value.ref 124), (Value.ref 125), (Value.ref 126), (Value.int 342 0), (Value.int 67 0), (Value.str (Str.ofString "/claim/cut.py") 343)]) #[])) ::
 ((nat_lit 128), (Obj.mk (Value.type "function") (@none Nat) (Data.func (FuncData.mk (Str.ofString "argument_text") (Str.ofString "argument_text") (Arguments.mk [] [(Arg.mk (Str.ofString "args") none (Pos.mk 67 18 67 22)), (Arg.mk (Str.ofString "place") none (Pos.mk 67 24 67 29)), (Arg.mk (Str.ofString "show") none (Pos.mk 67 31 67 35))] none [] [] none []) (FuncBody.stmts [(Stmt.Assign [(Expr.Tuple [(Expr.Name (Str.ofString "tag") (Pos.mk 68 4 68 7)), (Expr.Name (Str.ofString "value") (Pos.mk 68 9 68 14))] 0 (Pos.mk 68 4 68 14))] (Expr.Subscript (Expr.Name (Str.ofString "args") (Pos.mk 68 17 68 21)) (Expr.Name (Str.ofString "place") (Pos.mk 68 22 68 27)) (Pos.mk 68 17 68 28)) (Pos.mk 68 4 68 28)), (Stmt.Assign [(Expr.Name (Str.ofString "told") (Pos.mk 69 4 69 8))] (Expr.IfExp (Expr.Compare (Expr.Name (Str.ofString "show") (Pos.mk 69 19 69 23)) [CmpOp.Is] [(Expr.Constant Const.none 0 (Pos.mk 69 27 69 31))] (Pos.mk 69 19 69 31)) (Expr.Constant Const.none 0 (Pos.mk 69 11 69 15)) (Expr.Call (Expr.Name (Str.ofString "show") (Pos.mk 69 37 69 41)) [(Expr.Name (Str.ofString "value") (Pos.mk 69 42 69 47))] [] (Pos.mk 69 37 69 48)) (Pos.mk 69 11 69 48)) (Pos.mk 69 4 69 48)), (Stmt.If (Expr.BoolOp BoolOp.Or [(Expr.Compare (Expr.Name (Str.ofString "tag") (Pos.mk 70 7 70 10)) [CmpOp.Is] [(Expr.Constant Const.none 0 (Pos.mk 70 14 70 18))] (Pos.mk 70 7 70 18)), (Expr.Compare (Expr.Name (Str.ofString "tag") (Pos.mk 70 22 70 25)) [CmpOp.Eq] [(Expr.Constant (Const.str (Str.ofString "")) 0 (Pos.mk 70 29 70 31))] (Pos.mk 70 22 70 31))] (Pos.mk 70 7 70 31)) [(Stmt.Return (some (Expr.IfExp (Expr.Compare (Expr.Name (Str.ofString "told") (Pos.mk 71 33 71 37)) [CmpOp.Is] [(Expr.Constant Const.none 0 (Pos.mk 71 41 71 45))] (Pos.mk 71 33 71 45)) (Expr.Call (Expr.Name (Str.ofString "str") (Pos.mk 71 15 71 18)) [(Expr.BinOp (Expr.Name (Str.ofString "place") (Pos.mk 71 19 71 24)) Operator.Add (Expr.Constant (Const.int 1) 0 (Pos.mk 71 27 71 28)) (Pos.mk 71 19 71 28))] [] (Pos.mk 71 15 71 29)) (Expr.Name (Str.ofString "told") (Pos.mk 71 51 71 55)) (Pos.mk 71 15 71 55))) (Pos.mk 71 8 71 55))] [] (Pos.mk 70 4 71 55)), (Stmt.Return (some (Expr.IfExp (Expr.Compare (Expr.Name (Str.ofString "told") (Pos.mk 72 18 72 22)) [CmpOp.Is] [(Expr.Constant Const.none 0 (Pos.mk 72 26 72 30))] (Pos.mk 72 18 72 30)) (Expr.Name (Str.ofString "tag") (Pos.mk 72 11 72 14)) (Expr.BinOp (Expr.BinOp (Expr.Name (Str.ofString "tag") (Pos.mk 72 36 72 39)) Operator.Add (Expr.Constant (Const.str (Str.ofString " = ")) 0 (Pos.mk 72 42 72 47)) (Pos.mk 72 36 72 47)) Operator.Add (Expr.Name (Str.ofString "told") (Pos.mk 72 50 72 54)) (Pos.mk 72 36 72 54)) (Pos.mk 72 11 72 54))) (Pos.mk 72 4 72 54))]) (Scope.mk ScopeKind.function [((Str.ofString "args"), NameKind.local), ((Str.ofString "place"), NameKind.local), ((Str.ofString "show"), NameKind.local), ((Str.ofString "tag"), NameKind.local), ((Str.ofString "value"), NameKind.local), ((Str.ofString "told"), NameKind.local), ((Str.ofString "str"), NameKind.globalImplicit)] Bool.false Bool.false []) 3 [] Value.none Value.none Value.none (Value.str (Str.ofString "vectorcove.callargs") 241) (@none Nat) (Value.ref 127) Value.none 0)) #[])) ::
 ((nat_lit 129), (Obj.mk (Value.type "tuple") (@none Nat) (Data.seq #[] 0) #[])) ::
 ((nat_lit 132), (Obj.mk (Value.type "code") (@none Nat) (Data.fields #[(Value.str (Str.ofString "unused_text") 345), (Value.str (Str.ofString "unused_text") 346), (Value.str (Str.ofString "/claim/cut.py") 347), (Value.int 73 0), (Value.int 3 0), (Value.int 0 0), (Value.int 0 0), (Value.int 3 0), (Value.ref 129), (Value.bool Bool.true), (Value.int 181 0), (Value.ref 130), Value.none, Value.none, Value.none, (Value.ref 131), (Value.int 348 0), (Value.int 73 0), (Value.str (Str.ofString "/claim/cut.py") 349)]) #[])) ::
 ((nat_lit 133), (Obj.mk (Value.type "function") (@none Nat) (Data.func (FuncData.mk (Str.ofString "unused_text") (Str.ofString "unused_text") (Arguments.mk [] [(Arg.mk (Str.ofString "args") none (Pos.mk 73 16 73 20)), (Arg.mk (Str.ofString "rest") none (Pos.mk 73 22 73 26)), (Arg.mk (Str.ofString "show") none (Pos.mk 73 28 73 32))] none [] [] none []) (FuncBody.stmts [(Stmt.Assign [(Expr.Name (Str.ofString "texts") (Pos.mk 74 4 74 9))] (Expr.ListComp (Expr.Call (Expr.Name (Str.ofString "argument_text") (Pos.mk 74 13 74 26)) [(Expr.Name (Str.ofString "args") (Pos.mk 74 27 74 31)), (Expr.Name (Str.ofString "place") (Pos.mk 74 33 74 38)), (Expr.Name (Str.ofString "show") (Pos.mk 74 40 74 44))] [] (Pos.mk 74 13 74 45)) [(Comprehension.mk (Expr.Name (Str.ofString "place") (Pos.mk 74 50 74 55)) (Expr.Name (Str.ofString "rest") (Pos.mk 74 59 74 63)) [] 0)] (Scope.mk ScopeKind.function [((Str.ofString ".0"), NameKind.local), ((Str.ofString "place"), NameKind.local), ((Str.ofString "argument_text"), NameKind.globalImplicit), ((Str.ofString "args"), NameKind.free), ((Str.ofString "show"), NameKind.free)] Bool.false Bool.false []) (Pos.mk 74 12 74 64)) (Pos.mk 74 4 74 64)), (Stmt.Assign [(Expr.Name (Str.ofString "word") (Pos.mk 75 4 75 8))] (Expr.Constant (Const.str (Str.ofString "unused argument")) 0 (Pos.mk 75 11 75 28)) (Pos.mk 75 4 75 28)), (Stmt.If (Expr.Compare (Expr.Call (Expr.Name (Str.ofString "len") (Pos.mk 76 7 76 10)) [(Expr.Name (Str.ofString "texts") (Pos.mk 76 11 76 16))] [] (Pos.mk 76 7 76 17)) [CmpOp.Gt] [(Expr.Constant (Const.int 1) 0 (Pos.mk 76 20 76 21))] (Pos.mk 76 7 76 21)) [(Stmt.Assign [(Expr.Name (Str.ofString "word") (Pos.mk 77 8 77 12))] (Expr.Constant (Const.str (Str.ofString "unused arguments")) 0 (Pos.mk 77 15 77 33)) (Pos.mk 77 8 77 33))] [] (Pos.mk 76 4 77 33)), (Stmt.Return (some (Expr.BinOp (Expr.BinOp (Expr.BinOp (Expr.Name (Str.ofString "word") (Pos.mk 78 11 78 15)) Operator.Add (Expr.Constant (Const.str (Str.ofString " (")) 0 (Pos.mk 78 18 78 22)) (Pos.mk 78 11 78 22)) Operator.Add (Expr.Call (Expr.Attribute (Expr.Constant (Const.str (Str.ofString ", ")) 0 (Pos.mk 78 25 78 29)) (Str.ofString "join") (Pos.mk 78 25 78 34)) [(Expr.Name (Str.ofString "texts") (Pos.mk 78 35 78 40))] [] (Pos.mk 78 25 78 41)) (Pos.mk 78 11 78 41)) Operator.Add (Expr.Constant (Const.str (Str.ofString ")")) 0 (Pos.mk 78 44 78 47)) (Pos.mk 78 11 78 47))) (Pos.mk 78 4 78 47))]) (Scope.mk ScopeKind.function [((Str.ofString "args"), NameKind.cell), ((Str.ofString "rest"), NameKind.local), ((Str.ofString "show"), NameKind.cell), ((Str.ofString "texts"), NameKind.local), ((Str.ofString "word"), NameKind.local), ((Str.ofString "len"), NameKind.globalImplicit)] Bool.false Bool.false [((Str.ofString "fast"), (Const.str (Str.ofString "args"))), ((Str.ofString "fast"), (Const.str (Str.ofString "rest"))), ((Str.ofString "fast"), (Const.str (Str.ofString "show"))), ((Str.ofString "fast"), (Const.str (Str.ofString "place"))), ((Str.ofString "fast"), (Const.str (Str.ofString "texts"))), ((Str.ofString "fast"), (Const.str (Str.ofString "word")))]) 3 [] Value.none Value.none Value.none (Value.str (Str.ofString "vectorcove.callargs") 241) (@none Nat) (Value.ref 132) Value.none 0)) #[])) ::
 ((nat_lit 134), (Obj.mk (Value.type "tuple") (@none Nat) (Data.seq #[Value.none] 0) #[])) ::
 ((nat_lit 135), (Obj.mk (Value.type "tuple") (@none Nat) (Data.seq #[] 0) #[])) ::
 ((nat_lit 138), (Obj.mk (Value.type "code") (@none Nat) (Data.fields #[(Value.str (Str.ofString "match_names") 351), (Value.str (Str.ofString "match_names") 352), (Value.str (Str.ofString "/claim/cut.py") 353), (Value.int 79 0), (Value.int 3 0), (Value.int 0 0), (Value.int 0 0), (Value.int 3 0), (Value.ref 135), (Value.bool Bool.true), (Value.int 181 0), (Value.ref 136), Value.none, Value.none, Value.none, (Value.ref 137), (Value.int 354 0), (Value.int 79 0), (Value.str (Str.ofString "/claim/cut.py") 355)]) #[])) ::
 ((nat_lit 139), (Obj.mk (Value.type "function") (@none Nat) (Data.func (FuncData.mk (Str.ofString "match_names") (Str.ofString "match_names") (Arguments.mk [] [(Arg.mk (Str.ofString "formals") none (Pos.mk 79 16 79 23)), (Arg.mk (Str.ofString "args") none (Pos.mk 79 25 79 29)), (Arg.mk (Str.ofString "show") none (Pos.mk 79 31 79 35))] none [] [] none [(Expr.Constant Const.none 0 (Pos.mk 79 36 79 40))]) (FuncBody.stmts [(Stmt.Assign [(Expr.Name (Str.ofString "matching") (Pos.mk 80 4 80 12))] (Expr.Call (Expr.Name (Str.ofString "Matching") (Pos.mk 80 15 80 23)) [(Expr.Name (Str.ofString "formals") (Pos.mk 80 24 80 31)), (Expr.ListComp (Expr.Subscript (Expr.Name (Str.ofString "arg") (Pos.mk 80 34 80 37)) (Expr.Constant (Const.int 0) 0 (Pos.mk 80 38 80 39)) (Pos.mk 80 34 80 40)) [(Comprehension.mk (Expr.Name (Str.ofString "arg") (Pos.mk 80 45 80 48)) (Expr.Name (Str.ofString "args") (Pos.mk 80 52 80 56)) [] 0)] (Scope.mk ScopeKind.function [((Str.ofString ".0"), NameKind.local), ((Str.ofString "arg"), NameKind.local)] Bool.false Bool.false []) (Pos.mk 80 33 80 57))] [] (Pos.mk 80 15 80 58)) (Pos.mk 80 4 80 58)), (Stmt.Expr (Expr.Call (Expr.Attribute (Expr.Name (Str.ofString "matching") (Pos.mk 81 4 81 12)) (Str.ofString "exact") (Pos.mk 81 4 81 18)) [] [] (Pos.mk 81 4 81 20)) (Pos.mk 81 4 81 20)), (Stmt.Expr (Expr.Call (Expr.Attribute (Expr.Name (Str.ofString "matching") (Pos.mk 82 4 82 12)) (Str.ofString "partial") (Pos.mk 82 4 82 20)) [] [] (Pos.mk 82 4 82 22)) (Pos.mk 82 4 82 22)), (Stmt.Expr (Expr.Call (Expr.Attribute (Expr.Name (Str.ofString "matching") (Pos.mk 83 4 83 12)) (Str.ofString "positional") (Pos.mk 83 4 83 23)) [] [] (Pos.mk 83 4 83 25)) (Pos.mk 83 4 83 25)), (Stmt.Assign [(Expr.Name (Str.ofString "rest") (Pos.mk 84 4 84 8))] (Expr.Call (Expr.Attribute (Expr.Name (Str.ofString "matching") (Pos.mk 84 11 84 19)) (Str.ofString "rest") (Pos.mk 84 11 84 24)) [] [] (Pos.mk 84 11 84 26)) (Pos.mk 84 4 84 26)), (Stmt.If (Expr.BoolOp BoolOp.And [(Expr.Compare (Expr.Call (Expr.Name (Str.ofString "len") (Pos.mk 85 7 85 10)) [(Expr.Name (Str.ofString "rest") (Pos.mk 85 11 85 15))] [] (Pos.mk 85 7 85 16)) [CmpOp.Gt] [(Expr.Constant (Const.int 0) 0 (Pos.mk 85 19 85 20))] (Pos.mk 85 7 85 20)), (Expr.Compare (Expr.Constant (Const.str (Str.ofString "...")) 0 (Pos.mk 85 25 85 30)) [CmpOp.NotIn] [(Expr.Name (Str.ofString "formals") (Pos.mk 85 38 85 45))] (Pos.mk 85 25 85 45))] (Pos.mk 85 7 85 45)) [(Stmt.Raise (some (Expr.Call (Expr.Name (Str.ofString "Refusal") (Pos.mk 86 14 86 21)) [(Expr.Call (Expr.Name (Str.ofString "unused_text") (Pos.mk 86 22 86 33)) [(Expr.Name (Str.ofString "args") (Pos.mk 86 34 86 38)), (Expr.Name (Str.ofString "rest") (Pos.mk 86 40 86 44)), (Expr.Name (Str.ofString "show") (Pos.mk 86 46 86 50))] [] (Pos.mk 86 22 86 51))] [] (Pos.mk 86 14 86 52))) none (Pos.mk 86 8 86 52))] [] (Pos.mk 85 4 86 52)), (Stmt.Return (some (Expr.Tuple [(Expr.Attribute (Expr.Name (Str.ofString "matching") (Pos.mk 87 12 87 20)) (Str.ofString "places") (Pos.mk 87 12 87 27)), (Expr.Name (Str.ofString "rest") (Pos.mk 87 29 87 33))] 0 (Pos.mk 87 11 87 34))) (Pos.mk 87 4 87 34))]) (Scope.mk ScopeKind.function [((Str.ofString "formals"), NameKind.local), ((Str.ofString "args"), NameKind.local), ((Str.ofString "show"), NameKind.local), ((Str.ofString "matching"), NameKind.local), ((Str.ofString "rest"), NameKind.local), ((Str.ofString "Matching"), NameKind.globalImplicit), ((Str.ofString "len"), NameKind.globalImplicit), ((Str.ofString "Refusal"), NameKind.globalImplicit), ((Str.ofString "unused_text"), NameKind.globalImplicit)] Bool.false Bool.false [((Str.ofString "fast"), (Const.str (Str.ofString "formals"))), ((Str.ofString "fast"), (Const.str (Str.ofString "args"))), ((Str.ofString "fast"), (Const.str (Str.ofString "show"))), ((Str.ofString "fast"), (Const.str (Str.ofString "arg"))), ((Str.ofString "fast"), (Const.str (Str.ofString "matching"))), ((Str.ofString "fast"), (Const.str (Str.ofString "rest")))]) 3 [] (Value.ref 134) Value.none Value.none (Value.str (Str.ofString "vectorcove.callargs") 241) (@none Nat) (Value.ref 138) Value.none 0)) #[])) ::
 ((nat_lit 140), (Obj.mk (Value.type "tuple") (@none Nat) (Data.seq #[] 0) #[])) ::
 ((nat_lit 142), (Obj.mk (Value.type "tuple") (@none Nat) (Data.seq #[(Value.str (Str.ofString "env") 362), (Value.str (Str.ofString "name") 363)] 0) #[])) ::
 ((nat_lit 143), (Obj.mk (Value.type "tuple") (@none Nat) (Data.seq #[] 0) #[])) ::
 ((nat_lit 145), (Obj.mk (Value.type "code") (@none Nat) (Data.fields #[(Value.str (Str.ofString "lookup_here") 359), (Value.str (Str.ofString "lookup_here") 360), (Value.str (Str.ofString "/claim/cut.py") 361), (Value.int 89 0), (Value.int 2 0), (Value.int 0 0), (Value.int 0 0), (Value.int 3 0), (Value.ref 140), (Value.bool Bool.true), (Value.int 181 0), (Value.ref 141), Value.none, (Value.ref 142), (Value.ref 143), (Value.ref 144), (Value.int 364 0), (Value.int 89 0), (Value.str (Str.ofString "/claim/cut.py") 365)]) #[])) ::
 ((nat_lit 146), (Obj.mk (Value.type "function") (@none Nat) (Data.func (FuncData.mk (Str.ofString "lookup_here") (Str.ofString "lookup_here") (Arguments.mk [] [(Arg.mk (Str.ofString "env") none (Pos.mk 89 16 89 19)), (Arg.mk (Str.ofString "name") none (Pos.mk 89 21 89 25))] none [] [] none []) (FuncBody.stmts [(Stmt.Return (some (Expr.Call (Expr.Attribute (Expr.Attribute (Expr.Name (Str.ofString "env") (Pos.mk 90 11 90 14)) (Str.ofString "frame") (Pos.mk 90 11 90 20)) (Str.ofString "get") (Pos.mk 90 11 90 24)) [(Expr.Name (Str.ofString "name") (Pos.mk 90 25 90 29))] [] (Pos.mk 90 11 90 30))) (Pos.mk 90 4 90 30))]) (Scope.mk ScopeKind.function [((Str.ofString "env"), NameKind.local), ((Str.ofString "name"), NameKind.local)] Bool.false Bool.false []) 3 [] Value.none Value.none Value.none (Value.str (Str.ofString "vectorcove.scope") 357) (@none Nat) (Value.ref 145) Value.none 0)) #[])) ::
 ((nat_lit 154), (Obj.mk (Value.type "tuple") (@none Nat) (Data.seq #[] 0) #[])) ::
 ((nat_lit 156), (Obj.mk (Value.type "tuple") (@none Nat) (Data.seq #[(Value.str (Str.ofString "self") 384)] 0) #[])) ::
 ((nat_lit 157), (Obj.mk (Value.type "tuple") (@none Nat) (Data.seq #[] 0) #[])) ::
 ((nat_lit 159), (Obj.mk (Value.type "code") (@none Nat) (Data.fields #[(Value.str (Str.ofString "__init__") 381), (Value.str (Str.ofString "Null.__init__") 382), (Value.str (Str.ofString "/claim/cut.py") 383), (Value.int 94 0), (Value.int 1 0), (Value.int 0 0), (Value.int 0 0), (Value.int 3 0), (Value.ref 154), (Value.bool Bool.true), (Value.int 181 0), (Value.ref 155), Value.none, (Value.ref 156), (Value.ref 157), (Value.ref 158), (Value.int 385 0), (Value.int 94 0), (Value.str (Str.ofString "/claim/cut.py") 386)]) #[])) ::
 ((nat_lit 160), (Obj.mk (Value.type "function") (@none Nat) (Data.func (FuncData.mk (Str.ofString "__init__") (Str.ofString "Null.__init__") (Arguments.mk [] [(Arg.mk (Str.ofString "self") none (Pos.mk 94 17 94 21))] none [] [] none []) (FuncBody.stmts [(Stmt.Assign [(Expr.Attribute (Expr.Name (Str.ofString "self") (Pos.mk 95 8 95 12)) (Str.ofString "kind") (Pos.mk 95 8 95 17))] (Expr.Constant (Const.str (Str.ofString "NULL")) 0 (Pos.mk 95 20 95 26)) (Pos.mk 95 8 95 26)), (Stmt.Assign [(Expr.Attribute (Expr.Name (Str.ofString "self") (Pos.mk 96 8 96 12)) (Str.ofString "attrs") (Pos.mk 96 8 96 18))] (Expr.Constant Const.none 0 (Pos.mk 96 21 96 25)) (Pos.mk 96 8 96 25))]) (Scope.mk ScopeKind.function [((Str.ofString "self"), NameKind.local)] Bool.false Bool.false []) 3 [] Value.none Value.none Value.none (Value.str (Str.ofString "vectorcove.values") 367) (@none Nat) (Value.ref 159) Value.none 0)) #[])) ::
 ((nat_lit 161), (Obj.mk (Value.type "tuple") (@none Nat) (Data.seq #[(Value.str (Str.ofString "attrs") 388), (Value.str (Str.ofString "kind") 389)] 0) #[])) ::
 ((nat_lit 162), (Obj.mk (Value.type "dict") (@none Nat) (Data.dict #[(DictEntry.mk (PyData.keyHash P (Str.ofString "__module__")) (Value.str (Str.ofString "__module__") 376) (Value.str (Str.ofString "vectorcove.values") 367)), (DictEntry.mk (PyData.keyHash P (Str.ofString "__firstlineno__")) (Value.str (Str.ofString "__firstlineno__") 380) (Value.int 92 379)), (DictEntry.mk (PyData.keyHash P (Str.ofString "__init__")) (Value.str (Str.ofString "__init__") 387) (Value.ref 160)), (DictEntry.mk (PyData.keyHash P (Str.ofString "__static_attributes__")) (Value.str (Str.ofString "__static_attributes__") 390) (Value.ref 161)), (DictEntry.mk (PyData.keyHash P (Str.ofString "__dict__")) (Value.str (Str.ofString "__dict__") 392) (Value.ref 164)), (DictEntry.mk (PyData.keyHash P (Str.ofString "__weakref__")) (Value.str (Str.ofString "__weakref__") 394) (Value.ref 165)), (DictEntry.mk (PyData.keyHash P (Str.ofString "__doc__")) (Value.str (Str.ofString "__doc__") 395) Value.none)] 4) #[])) ::
 ((nat_lit 163), (Obj.mk (Value.type "type") (@none Nat) (Data.cls (ClassData.mk (Str.ofString "Null") [(Value.type "object")] [(Value.ref 163), (Value.type "object")] 162 (Str.ofString "Null") Bool.true [] [] Bool.false none Bool.false)) #[none, none, (some (Value.str (Str.ofString "Null") 369)), (some (Value.str (Str.ofString "Null") 377)), (some (Value.builtin "object.__new__")), (some (Value.bool Bool.true))])) ::
 ((nat_lit 164), (Obj.mk (Value.type "getset_descriptor") (@none Nat) (Data.fields #[(Value.str (Str.ofString "__dict__") 391), (Value.ref 163), (Value.builtin "function.__dict__"), (Value.builtin "function.__dict__#set")]) #[])) ::
 ((nat_lit 165), (Obj.mk (Value.type "getset_descriptor") (@none Nat) (Data.fields #[(Value.str (Str.ofString "__weakref__") 393), (Value.ref 163), (Value.builtin "ExceptionGroup.__weakref__"), Value.none]) #[])) ::
 ((nat_lit 175), (Obj.mk (Value.type "tuple") (@none Nat) (Data.seq #[] 0) #[])) ::
 ((nat_lit 177), (Obj.mk (Value.type "tuple") (@none Nat) (Data.seq #[(Value.str (Str.ofString "self") 413)] 0) #[])) ::
 ((nat_lit 178), (Obj.mk (Value.type "tuple") (@none Nat) (Data.seq #[] 0) #[])) ::
 ((nat_lit 180), (Obj.mk (Value.type "code") (@none Nat) (Data.fields #[(Value.str (Str.ofString "__init__") 410), (Value.str (Str.ofString "Missing.__init__") 411), (Value.str (Str.ofString "/claim/cut.py") 412), (Value.int 99 0), (Value.int 1 0), (Value.int 0 0), (Value.int 0 0), (Value.int 3 0), (Value.ref 175), (Value.bool Bool.true), (Value.int 181 0), (Value.ref 176), Value.none, (Value.ref 177), (Value.ref 178), (Value.ref 179), (Value.int 414 0), (Value.int 99 0), (Value.str (Str.ofString "/claim/cut.py") 415)]) #[])) ::
 ((nat_lit 181), (Obj.mk (Value.type "function") (@none Nat) (Data.func (FuncData.mk (Str.ofString "__init__") (Str.ofString "Missing.__init__") (Arguments.mk [] [(Arg.mk (Str.ofString "self") none (Pos.mk 99 17 99 21))] none [] [] none []) (FuncBody.stmts [(Stmt.Assign [(Expr.Attribute (Expr.Name (Str.ofString "self") (Pos.mk 100 8 100 12)) (Str.ofString "kind") (Pos.mk 100 8 100 17))] (Expr.Constant (Const.str (Str.ofString "missing")) 0 (Pos.mk 100 20 100 29)) (Pos.mk 100 8 100 29)), (Stmt.Assign [(Expr.Attribute (Expr.Name (Str.ofString "self") (Pos.mk 101 8 101 12)) (Str.ofString "attrs") (Pos.mk 101 8 101 18))] (Expr.Constant Const.none 0 (Pos.mk 101 21 101 25)) (Pos.mk 101 8 101 25))]) (Scope.mk ScopeKind.function [((Str.ofString "self"), NameKind.local)] Bool.false Bool.false []) 3 [] Value.none Value.none Value.none (Value.str (Str.ofString "vectorcove.values") 367) (@none Nat) (Value.ref 180) Value.none 0)) #[])) ::
 ((nat_lit 182), (Obj.mk (Value.type "tuple") (@none Nat) (Data.seq #[(Value.str (Str.ofString "attrs") 417), (Value.str (Str.ofString "kind") 418)] 0) #[])) ::
 ((nat_lit 183), (Obj.mk (Value.type "dict") (@none Nat) (Data.dict #[(DictEntry.mk (PyData.keyHash P (Str.ofString "__module__")) (Value.str (Str.ofString "__module__") 405) (Value.str (Str.ofString "vectorcove.values") 367)), (DictEntry.mk (PyData.keyHash P (Str.ofString "__firstlineno__")) (Value.str (Str.ofString "__firstlineno__") 409) (Value.int 97 408)), (DictEntry.mk (PyData.keyHash P (Str.ofString "__init__")) (Value.str (Str.ofString "__init__") 416) (Value.ref 181)), (DictEntry.mk (PyData.keyHash P (Str.ofString "__static_attributes__")) (Value.str (Str.ofString "__static_attributes__") 419) (Value.ref 182)), (DictEntry.mk (PyData.keyHash P (Str.ofString "__dict__")) (Value.str (Str.ofString "__dict__") 421) (Value.ref 185)), (DictEntry.mk (PyData.keyHash P (Str.ofString "__weakref__")) (Value.str (Str.ofString "__weakref__") 423) (Value.ref 186)), (DictEntry.mk (PyData.keyHash P (Str.ofString "__doc__")) (Value.str (Str.ofString "__doc__") 424) Value.none)] 4) #[])) ::
 ((nat_lit 184), (Obj.mk (Value.type "type") (@none Nat) (Data.cls (ClassData.mk (Str.ofString "Missing") [(Value.type "object")] [(Value.ref 184), (Value.type "object")] 183 (Str.ofString "Missing") Bool.true [] [] Bool.false none Bool.false)) #[none, none, (some (Value.str (Str.ofString "Missing") 398)), (some (Value.str (Str.ofString "Missing") 406)), (some (Value.builtin "object.__new__")), (some (Value.bool Bool.true))])) ::
 ((nat_lit 185), (Obj.mk (Value.type "getset_descriptor") (@none Nat) (Data.fields #[(Value.str (Str.ofString "__dict__") 420), (Value.ref 184), (Value.builtin "function.__dict__"), (Value.builtin "function.__dict__#set")]) #[])) ::
 ((nat_lit 186), (Obj.mk (Value.type "getset_descriptor") (@none Nat) (Data.fields #[(Value.str (Str.ofString "__weakref__") 422), (Value.ref 184), (Value.builtin "ExceptionGroup.__weakref__"), Value.none]) #[])) ::
 ((nat_lit 196), (Obj.mk (Value.type "tuple") (@none Nat) (Data.seq #[Value.none] 0) #[])) ::
 ((nat_lit 197), (Obj.mk (Value.type "tuple") (@none Nat) (Data.seq #[] 0) #[])) ::
 ((nat_lit 199), (Obj.mk (Value.type "tuple") (@none Nat) (Data.seq #[(Value.str (Str.ofString "self") 442), (Value.str (Str.ofString "kind") 443), (Value.str (Str.ofString "items") 444), (Value.str (Str.ofString "attrs") 445)] 0) #[])) ::
 ((nat_lit 200), (Obj.mk (Value.type "tuple") (@none Nat) (Data.seq #[] 0) #[])) ::
 ((nat_lit 202), (Obj.mk (Value.type "code") (@none Nat) (Data.fields #[(Value.str (Str.ofString "__init__") 439), (Value.str (Str.ofString "Vector.__init__") 440), (Value.str (Str.ofString "/claim/cut.py") 441), (Value.int 104 0), (Value.int 4 0), (Value.int 0 0), (Value.int 0 0), (Value.int 3 0), (Value.ref 197), (Value.bool Bool.true), (Value.int 181 0), (Value.ref 198), Value.none, (Value.ref 199), (Value.ref 200), (Value.ref 201), (Value.int 446 0), (Value.int 104 0), (Value.str (Str.ofString "/claim/cut.py") 447)]) #[])) ::
 ((nat_lit 203), (Obj.mk (Value.type "function") (@none Nat) (Data.func (FuncData.mk (Str.ofString "__init__") (Str.ofString "Vector.__init__") (Arguments.mk [] [(Arg.mk (Str.ofString "self") none (Pos.mk 104 17 104 21)), (Arg.mk (Str.ofString "kind") none (Pos.mk 104 23 104 27)), (Arg.mk (Str.ofString "items") none (Pos.mk 104 29 104 34)), (Arg.mk (Str.ofString "attrs") none (Pos.mk 104 36 104 41))] none [] [] none [(Expr.Constant Const.none 0 (Pos.mk 104 42 104 46))]) (FuncBody.stmts [(Stmt.Assign [(Expr.Attribute (Expr.Name (Str.ofString "self") (Pos.mk 105 8 105 12)) (Str.ofString "kind") (Pos.mk 105 8 105 17))] (Expr.Name (Str.ofString "kind") (Pos.mk 105 20 105 24)) (Pos.mk 105 8 105 24)), (Stmt.Assign [(Expr.Attribute (Expr.Name (Str.ofString "self") (Pos.mk 106 8 106 12)) (Str.ofString "items") (Pos.mk 106 8 106 18))] (Expr.Name (Str.ofString "items") (Pos.mk 106 21 106 26)) (Pos.mk 106 8 106 26)), (Stmt.Assign [(Expr.Attribute (Expr.Name (Str.ofString "self") (Pos.mk 107 8 107 12)) (Str.ofString "attrs") (Pos.mk 107 8 107 18))] (Expr.Name (Str.ofString "attrs") (Pos.mk 107 21 107 26)) (Pos.mk 107 8 107 26)), (Stmt.Assign [(Expr.Attribute (Expr.Name (Str.ofString "self") (Pos.mk 108 8 108 12)) (Str.ofString "shared") (Pos.mk 108 8 108 19))] (Expr.Constant (Const.bool Bool.false) 0 (Pos.mk 108 22 108 27)) (Pos.mk 108 8 108 27)), (Stmt.Assign [(Expr.Attribute (Expr.Name (Str.ofString "self") (Pos.mk 109 8 109 12)) (Str.ofString "loose") (Pos.mk 109 8 109 18))] (Expr.Constant (Const.bool Bool.false) 0 (Pos.mk 109 21 109 26)) (Pos.mk 109 8 109 26))]) (Scope.mk ScopeKind.function [((Str.ofString "self"), NameKind.local), ((Str.ofString "kind"), NameKind.local), ((Str.ofString "items"), NameKind.local), ((Str.ofString "attrs"), NameKind.local)] Bool.false Bool.false []) 3 [] (Value.ref 196) Value.none Value.none (Value.str (Str.ofString "vectorcove.values") 367) (@none Nat) (Value.ref 202) Value.none 0)) #[])) ::
 ((nat_lit 204), (Obj.mk (Value.type "tuple") (@none Nat) (Data.seq #[] 0) #[])) ::
 ((nat_lit 206), (Obj.mk (Value.type "tuple") (@none Nat) (Data.seq #[(Value.str (Str.ofString "self") 452)] 0) #[])) ::
 ((nat_lit 207), (Obj.mk (Value.type "tuple") (@none Nat) (Data.seq #[] 0) #[])) ::
 ((nat_lit 209), (Obj.mk (Value.type "code") (@none Nat) (Data.fields #[(Value.str (Str.ofString "copy") 449), (Value.str (Str.ofString "Vector.copy") 450), (Value.str (Str.ofString "/claim/cut.py") 451), (Value.int 111 0), (Value.int 1 0), (Value.int 0 0), (Value.int 0 0), (Value.int 3 0), (Value.ref 204), (Value.bool Bool.true), (Value.int 181 0), (Value.ref 205), Value.none, (Value.ref 206), (Value.ref 207), (Value.ref 208), (Value.int 453 0), (Value.int 111 0), (Value.str (Str.ofString "/claim/cut.py") 454)]) #[])) ::
 ((nat_lit 210), (Obj.mk (Value.type "function") (@none Nat) (Data.func (FuncData.mk (Str.ofString "copy") (Str.ofString "Vector.copy") (Arguments.mk [] [(Arg.mk (Str.ofString "self") none (Pos.mk 111 13 111 17))] none [] [] none []) (FuncBody.stmts [(Stmt.Expr (Expr.Call (Expr.Name (Str.ofString "_wall") (Pos.mk 112 8 112 13)) [(Expr.Constant (Const.int 0) 0 (Pos.mk 112 14 112 15))] [] (Pos.mk 112 8 112 16)) (Pos.mk 112 8 112 16))]) (Scope.mk ScopeKind.function [((Str.ofString "self"), NameKind.local), ((Str.ofString "_wall"), NameKind.globalImplicit)] Bool.false Bool.false []) 3 [] Value.none Value.none Value.none (Value.str (Str.ofString "vectorcove.values") 367) (@none Nat) (Value.ref 209) Value.none 0)) #[])) ::
 ((nat_lit 211), (Obj.mk (Value.type "tuple") (@none Nat) (Data.seq #[(Value.str (Str.ofString "attrs") 456), (Value.str (Str.ofString "items") 457), (Value.str (Str.ofString "kind") 458), (Value.str (Str.ofString "loose") 459), (Value.str (Str.ofString "shared") 460)] 0) #[])) ::
 ((nat_lit 212), (Obj.mk (Value.type "dict") (@none Nat) (Data.dict #[(DictEntry.mk (PyData.keyHash P (Str.ofString "__module__")) (Value.str (Str.ofString "__module__") 434) (Value.str (Str.ofString "vectorcove.values") 367)), (DictEntry.mk (PyData.keyHash P (Str.ofString "__firstlineno__")) (Value.str (Str.ofString "__firstlineno__") 438) (Value.int 102 437)), (DictEntry.mk (PyData.keyHash P (Str.ofString "__init__")) (Value.str (Str.ofString "__init__") 448) (Value.ref 203)), (DictEntry.mk (PyData.keyHash P (Str.ofString "copy")) (Value.str (Str.ofString "copy") 455) (Value.ref 210)), (DictEntry.mk (PyData.keyHash P (Str.ofString "__static_attributes__")) (Value.str (Str.ofString "__static_attributes__") 461) (Value.ref 211)), (DictEntry.mk (PyData.keyHash P (Str.ofString "__dict__")) (Value.str (Str.ofString "__dict__") 463) (Value.ref 214)), (DictEntry.mk (PyData.keyHash P (Str.ofString "__weakref__")) (Value.str (Str.ofString "__weakref__") 465) (Value.ref 215)), (DictEntry.mk (PyData.keyHash P (Str.ofString "__doc__")) (Value.str (Str.ofString "__doc__") 466) Value.none)] 4) #[])) ::
 ((nat_lit 213), (Obj.mk (Value.type "type") (@none Nat) (Data.cls (ClassData.mk (Str.ofString "Vector") [(Value.type "object")] [(Value.ref 213), (Value.type "object")] 212 (Str.ofString "Vector") Bool.true [] [] Bool.false none Bool.false)) #[none, none, (some (Value.str (Str.ofString "Vector") 427)), (some (Value.str (Str.ofString "Vector") 435)), (some (Value.builtin "object.__new__")), (some (Value.bool Bool.true))])) ::
 ((nat_lit 214), (Obj.mk (Value.type "getset_descriptor") (@none Nat) (Data.fields #[(Value.str (Str.ofString "__dict__") 462), (Value.ref 213), (Value.builtin "function.__dict__"), (Value.builtin "function.__dict__#set")]) #[])) ::
 ((nat_lit 215), (Obj.mk (Value.type "getset_descriptor") (@none Nat) (Data.fields #[(Value.str (Str.ofString "__weakref__") 464), (Value.ref 213), (Value.builtin "ExceptionGroup.__weakref__"), Value.none]) #[])) ::
 ((nat_lit 225), (Obj.mk (Value.type "tuple") (@none Nat) (Data.seq #[] 0) #[])) ::
 ((nat_lit 227), (Obj.mk (Value.type "tuple") (@none Nat) (Data.seq #[(Value.str (Str.ofString "self") 484), (Value.str (Str.ofString "name") 485)] 0) #[])) ::
 ((nat_lit 228), (Obj.mk (Value.type "tuple") (@none Nat) (Data.seq #[] 0) #[])) ::
 ((nat_lit 230), (Obj.mk (Value.type "code") (@none Nat) (Data.fields #[(Value.str (Str.ofString "__init__") 481), (Value.str (Str.ofString "Symbol.__init__") 482), (Value.str (Str.ofString "/claim/cut.py") 483), (Value.int 115 0), (Value.int 2 0), (Value.int 0 0), (Value.int 0 0), (Value.int 3 0), (Value.ref 225), (Value.bool Bool.true), (Value.int 181 0), (Value.ref 226), Value.none, (Value.ref 227), (Value.ref 228), (Value.ref 229), (Value.int 486 0), (Value.int 115 0), (Value.str (Str.ofString "/claim/cut.py") 487)]) #[])) ::
 ((nat_lit 231), (Obj.mk (Value.type "function") (@none Nat) (Data.func (FuncData.mk (Str.ofString "__init__") (Str.ofString "Symbol.__init__") (Arguments.mk [] [(Arg.mk (Str.ofString "self") none (Pos.mk 115 17 115 21)), (Arg.mk (Str.ofString "name") none (Pos.mk 115 23 115 27))] none [] [] none []) (FuncBody.stmts [(Stmt.Assign [(Expr.Attribute (Expr.Name (Str.ofString "self") (Pos.mk 116 8 116 12)) (Str.ofString "kind") (Pos.mk 116 8 116 17))] (Expr.Constant (Const.str (Str.ofString "symbol")) 0 (Pos.mk 116 20 116 28)) (Pos.mk 116 8 116 28)), (Stmt.Assign [(Expr.Attribute (Expr.Name (Str.ofString "self") (Pos.mk 117 8 117 12)) (Str.ofString "name") (Pos.mk 117 8 117 17))] (Expr.Name (Str.ofString "name") (Pos.mk 117 20 117 24)) (Pos.mk 117 8 117 24)), (Stmt.Assign [(Expr.Attribute (Expr.Name (Str.ofString "self") (Pos.mk 118 8 118 12)) (Str.ofString "attrs") (Pos.mk 118 8 118 18))] (Expr.Constant Const.none 0 (Pos.mk 118 21 118 25)) (Pos.mk 118 8 118 25))]) (Scope.mk ScopeKind.function [((Str.ofString "self"), NameKind.local), ((Str.ofString "name"), NameKind.local)] Bool.false Bool.false []) 3 [] Value.none Value.none Value.none (Value.str (Str.ofString "vectorcove.values") 367) (@none Nat) (Value.ref 230) Value.none 0)) #[])) ::
 ((nat_lit 232), (Obj.mk (Value.type "tuple") (@none Nat) (Data.seq #[(Value.str (Str.ofString "attrs") 489), (Value.str (Str.ofString "kind") 490), (Value.str (Str.ofString "name") 491)] 0) #[])) ::
 ((nat_lit 233), (Obj.mk (Value.type "dict") (@none Nat) (Data.dict #[(DictEntry.mk (PyData.keyHash P (Str.ofString "__module__")) (Value.str (Str.ofString "__module__") 476) (Value.str (Str.ofString "vectorcove.values") 367)), (DictEntry.mk (PyData.keyHash P (Str.ofString "__firstlineno__")) (Value.str (Str.ofString "__firstlineno__") 480) (Value.int 113 479)), (DictEntry.mk (PyData.keyHash P (Str.ofString "__init__")) (Value.str (Str.ofString "__init__") 488) (Value.ref 231)), (DictEntry.mk (PyData.keyHash P (Str.ofString "__static_attributes__")) (Value.str (Str.ofString "__static_attributes__") 492) (Value.ref 232)), (DictEntry.mk (PyData.keyHash P (Str.ofString "__dict__")) (Value.str (Str.ofString "__dict__") 494) (Value.ref 235)), (DictEntry.mk (PyData.keyHash P (Str.ofString "__weakref__")) (Value.str (Str.ofString "__weakref__") 496) (Value.ref 236)), (DictEntry.mk (PyData.keyHash P (Str.ofString "__doc__")) (Value.str (Str.ofString "__doc__") 497) Value.none)] 4) #[])) ::
 ((nat_lit 234), (Obj.mk (Value.type "type") (@none Nat) (Data.cls (ClassData.mk (Str.ofString "Symbol") [(Value.type "object")] [(Value.ref 234), (Value.type "object")] 233 (Str.ofString "Symbol") Bool.true [] [] Bool.false none Bool.false)) #[none, none, (some (Value.str (Str.ofString "Symbol") 469)), (some (Value.str (Str.ofString "Symbol") 477)), (some (Value.builtin "object.__new__")), (some (Value.bool Bool.true))])) ::
 ((nat_lit 235), (Obj.mk (Value.type "getset_descriptor") (@none Nat) (Data.fields #[(Value.str (Str.ofString "__dict__") 493), (Value.ref 234), (Value.builtin "function.__dict__"), (Value.builtin "function.__dict__#set")]) #[])) ::
 ((nat_lit 236), (Obj.mk (Value.type "getset_descriptor") (@none Nat) (Data.fields #[(Value.str (Str.ofString "__weakref__") 495), (Value.ref 234), (Value.builtin "ExceptionGroup.__weakref__"), Value.none]) #[])) ::
 ((nat_lit 246), (Obj.mk (Value.type "tuple") (@none Nat) (Data.seq #[Value.none] 0) #[])) ::
 ((nat_lit 247), (Obj.mk (Value.type "tuple") (@none Nat) (Data.seq #[] 0) #[])) ::
 ((nat_lit 249), (Obj.mk (Value.type "tuple") (@none Nat) (Data.seq #[(Value.str (Str.ofString "self") 515), (Value.str (Str.ofString "formals") 516), (Value.str (Str.ofString "body") 517), (Value.str (Str.ofString "env") 518), (Value.str (Str.ofString "attrs") 519)] 0) #[])) ::
 ((nat_lit 250), (Obj.mk (Value.type "tuple") (@none Nat) (Data.seq #[] 0) #[])) ::
 ((nat_lit 252), (Obj.mk (Value.type "code") (@none Nat) (Data.fields #[(Value.str (Str.ofString "__init__") 512), (Value.str (Str.ofString "Closure.__init__") 513), (Value.str (Str.ofString "/claim/cut.py") 514), (Value.int 121 0), (Value.int 5 0), (Value.int 0 0), (Value.int 0 0), (Value.int 3 0), (Value.ref 247), (Value.bool Bool.true), (Value.int 181 0), (Value.ref 248), Value.none, (Value.ref 249), (Value.ref 250), (Value.ref 251), (Value.int 520 0), (Value.int 121 0), (Value.str (Str.ofString "/claim/cut.py") 521)]) #[])) ::
 ((nat_lit 253), (Obj.mk (Value.type "function") (@none Nat) (Data.func (FuncData.mk (Str.ofString "__init__") (Str.ofString "Closure.__init__") (Arguments.mk [] [(Arg.mk (Str.ofString "self") none (Pos.mk 121 17 121 21)), (Arg.mk (Str.ofString "formals") none (Pos.mk 121 23 121 30)), (Arg.mk (Str.ofString "body") none (Pos.mk 121 32 121 36)), (Arg.mk (Str.ofString "env") none (Pos.mk 121 38 121 41)), (Arg.mk (Str.ofString "attrs") none (Pos.mk 121 43 121 48))] none [] [] none [(Expr.Constant Const.none 0 (Pos.mk 121 49 121 53))]) (FuncBody.stmts [(Stmt.Assign [(Expr.Attribute (Expr.Name (Str.ofString "self") (Pos.mk 122 8 122 12)) (Str.ofString "kind") (Pos.mk 122 8 122 17))] (Expr.Constant (Const.str (Str.ofString "closure")) 0 (Pos.mk 122 20 122 29)) (Pos.mk 122 8 122 29)), (Stmt.Assign [(Expr.Attribute (Expr.Name (Str.ofString "self") (Pos.mk 123 8 123 12)) (Str.ofString "formals") (Pos.mk 123 8 123 20))] (Expr.Name (Str.ofString "formals") (Pos.mk 123 23 123 30)) (Pos.mk 123 8 123 30)), (Stmt.Assign [(Expr.Attribute (Expr.Name (Str.ofString "self") (Pos.mk 124 8 124 12)) (Str.ofString "body") (Pos.mk 124 8 124 17))] (Expr.Name (Str.ofString "body") (Pos.mk 124 20 124 24)) (Pos.mk 124 8 124 24)), (Stmt.Assign [(Expr.Attribute (Expr.Name (Str.ofString "self") (Pos.mk 125 8 125 12)) (Str.ofString "env") (Pos.mk 125 8 125 16))] (Expr.Name (Str.ofString "env") (Pos.mk 125 19 125 22)) (Pos.mk 125 8 125 22)), (Stmt.Assign [(Expr.Attribute (Expr.Name (Str.ofString "self") (Pos.mk 126 8 126 12)) (Str.ofString "attrs") (Pos.mk 126 8 126 18))] (Expr.Name (Str.ofString "attrs") (Pos.mk 126 21 126 26)) (Pos.mk 126 8 126 26))]) (Scope.mk ScopeKind.function [((Str.ofString "self"), NameKind.local), ((Str.ofString "formals"), NameKind.local), ((Str.ofString "body"), NameKind.local), ((Str.ofString "env"), NameKind.local), ((Str.ofString "attrs"), NameKind.local)] Bool.false Bool.false []) 3 [] (Value.ref 246) Value.none Value.none (Value.str (Str.ofString "vectorcove.values") 367) (@none Nat) (Value.ref 252) Value.none 0)) #[])) ::
 ((nat_lit 254), (Obj.mk (Value.type "tuple") (@none Nat) (Data.seq #[(Value.str (Str.ofString "attrs") 523), (Value.str (Str.ofString "body") 524), (Value.str (Str.ofString "env") 525), (Value.str (Str.ofString "formals") 526), (Value.str (Str.ofString "kind") 527)] 0) #[])) ::
 ((nat_lit 255), (Obj.mk (Value.type "dict") (@none Nat) (Data.dict #[(DictEntry.mk (PyData.keyHash P (Str.ofString "__module__")) (Value.str (Str.ofString "__module__") 507) (Value.str (Str.ofString "vectorcove.values") 367)), (DictEntry.mk (PyData.keyHash P (Str.ofString "__firstlineno__")) (Value.str (Str.ofString "__firstlineno__") 511) (Value.int 119 510)), (DictEntry.mk (PyData.keyHash P (Str.ofString "__init__")) (Value.str (Str.ofString "__init__") 522) (Value.ref 253)), (DictEntry.mk (PyData.keyHash P (Str.ofString "__static_attributes__")) (Value.str (Str.ofString "__static_attributes__") 528) (Value.ref 254)), (DictEntry.mk (PyData.keyHash P (Str.ofString "__dict__")) (Value.str (Str.ofString "__dict__") 530) (Value.ref 257)), (DictEntry.mk (PyData.keyHash P (Str.ofString "__weakref__")) (Value.str (Str.ofString "__weakref__") 532) (Value.ref 258)), (DictEntry.mk (PyData.keyHash P (Str.ofString "__doc__")) (Value.str (Str.ofString "__doc__") 533) Value.none)] 4) #[])) ::
 ((nat_lit 256), (Obj.mk (Value.type "type") (@none Nat) (Data.cls (ClassData.mk (Str.ofString "Closure") [(Value.type "object")] [(Value.ref 256), (Value.type "object")] 255 (Str.ofString "Closure") Bool.true [] [] Bool.false none Bool.false)) #[none, none, (some (Value.str (Str.ofString "Closure") 500)), (some (Value.str (Str.ofString "Closure") 508)), (some (Value.builtin "object.__new__")), (some (Value.bool Bool.true))])) ::
 ((nat_lit 257), (Obj.mk (Value.type "getset_descriptor") (@none Nat) (Data.fields #[(Value.str (Str.ofString "__dict__") 529), (Value.ref 256), (Value.builtin "function.__dict__"), (Value.builtin "function.__dict__#set")]) #[])) ::
 ((nat_lit 258), (Obj.mk (Value.type "getset_descriptor") (@none Nat) (Data.fields #[(Value.str (Str.ofString "__weakref__") 531), (Value.ref 256), (Value.builtin "ExceptionGroup.__weakref__"), Value.none]) #[])) ::
 ((nat_lit 268), (Obj.mk (Value.type "tuple") (@none Nat) (Data.seq #[Value.none] 0) #[])) ::
 ((nat_lit 269), (Obj.mk (Value.type "tuple") (@none Nat) (Data.seq #[] 0) #[])) ::
 ((nat_lit 271), (Obj.mk (Value.type "tuple") (@none Nat) (Data.seq #[(Value.str (Str.ofString "self") 551), (Value.str (Str.ofString "number") 552), (Value.str (Str.ofString "parent") 553), (Value.str (Str.ofString "attrs") 554)] 0) #[])) ::
 ((nat_lit 272), (Obj.mk (Value.type "tuple") (@none Nat) (Data.seq #[] 0) #[])) ::
 ((nat_lit 274), (Obj.mk (Value.type "code") (@none Nat) (Data.fields #[(Value.str (Str.ofString "__init__") 548), (Value.str (Str.ofString "Environment.__init__") 549), (Value.str (Str.ofString "/claim/cut.py") 550), (Value.int 129 0), (Value.int 4 0), (Value.int 0 0), (Value.int 0 0), (Value.int 3 0), (Value.ref 269), (Value.bool Bool.true), (Value.int 181 0), (Value.ref 270), Value.none, (Value.ref 271), (Value.ref 272), (Value.ref 273), (Value.int 555 0), (Value.int 129 0), (Value.str (Str.ofString "/claim/cut.py") 556)]) #[])) ::
 ((nat_lit 275), (Obj.mk (Value.type "function") (@none Nat) (Data.func (FuncData.mk (Str.ofString "__init__") (Str.ofString "Environment.__init__") (Arguments.mk [] [(Arg.mk (Str.ofString "self") none (Pos.mk 129 17 129 21)), (Arg.mk (Str.ofString "number") none (Pos.mk 129 23 129 29)), (Arg.mk (Str.ofString "parent") none (Pos.mk 129 31 129 37)), (Arg.mk (Str.ofString "attrs") none (Pos.mk 129 39 129 44))] none [] [] none [(Expr.Constant Const.none 0 (Pos.mk 129 45 129 49))]) (FuncBody.stmts [(Stmt.Assign [(Expr.Attribute (Expr.Name (Str.ofString "self") (Pos.mk 130 8 130 12)) (Str.ofString "kind") (Pos.mk 130 8 130 17))] (Expr.Constant (Const.str (Str.ofString "environment")) 0 (Pos.mk 130 20 130 33)) (Pos.mk 130 8 130 33)), (Stmt.Assign [(Expr.Attribute (Expr.Name (Str.ofString "self") (Pos.mk 131 8 131 12)) (Str.ofString "number") (Pos.mk 131 8 131 19))] (Expr.Name (Str.ofString "number") (Pos.mk 131 22 131 28)) (Pos.mk 131 8 131 28)), (Stmt.Assign [(Expr.Attribute (Expr.Name (Str.ofString "self") (Pos.mk 132 8 132 12)) (Str.ofString "parent") (Pos.mk 132 8 132 19))] (Expr.Name (Str.ofString "parent") (Pos.mk 132 22 132 28)) (Pos.mk 132 8 132 28)), (Stmt.Assign [(Expr.Attribute (Expr.Name (Str.ofString "self") (Pos.mk 133 8 133 12)) (Str.ofString "attrs") (Pos.mk 133 8 133 18))] (Expr.Name (Str.ofString "attrs") (Pos.mk 133 21 133 26)) (Pos.mk 133 8 133 26)), (Stmt.Assign [(Expr.Attribute (Expr.Name (Str.ofString "self") (Pos.mk 134 8 134 12)) (Str.ofString "frame") (Pos.mk 134 8 134 18))] (Expr.Dict [] [] (Pos.mk 134 21 134 23)) (Pos.mk 134 8 134 23)), (Stmt.Assign [(Expr.Attribute (Expr.Name (Str.ofString "self") (Pos.mk 135 8 135 12)) (Str.ofString "locked") (Pos.mk 135 8 135 19))] (Expr.Constant (Const.bool Bool.false) 0 (Pos.mk 135 22 135 27)) (Pos.mk 135 8 135 27)), (Stmt.Assign [(Expr.Attribute (Expr.Name (Str.ofString "self") (Pos.mk 136 8 136 12)) (Str.ofString "locks") (Pos.mk 136 8 136 18))] (Expr.Dict [] [] (Pos.mk 136 21 136 23)) (Pos.mk 136 8 136 23))]) (Scope.mk ScopeKind.function [((Str.ofString "self"), NameKind.local), ((Str.ofString "number"), NameKind.local), ((Str.ofString "parent"), NameKind.local), ((Str.ofString "attrs"), NameKind.local)] Bool.false Bool.false []) 3 [] (Value.ref 268) Value.none Value.none (Value.str (Str.ofString "vectorcove.values") 367) (@none Nat) (Value.ref 274) Value.none 0)) #[])) ::
 ((nat_lit 276), (Obj.mk (Value.type "tuple") (@none Nat) (Data.seq #[(Value.str (Str.ofString "attrs") 558), (Value.str (Str.ofString "frame") 559), (Value.str (Str.ofString "kind") 560), (Value.str (Str.ofString "locked") 561), (Value.str (Str.ofString "locks") 562), (Value.str (Str.ofString "number") 563), (Value.str (Str.ofString "parent") 564)] 0) #[])) ::
 ((nat_lit 277), (Obj.mk (Value.type "dict") (@none Nat) (Data.dict #[(DictEntry.mk (PyData.keyHash P (Str.ofString "__module__")) (Value.str (Str.ofString "__module__") 543) (Value.str (Str.ofString "vectorcove.values") 367)), (DictEntry.mk (PyData.keyHash P (Str.ofString "__firstlineno__")) (Value.str (Str.ofString "__firstlineno__") 547) (Value.int 127 546)), (DictEntry.mk (PyData.keyHash P (Str.ofString "__init__")) (Value.str (Str.ofString "__init__") 557) (Value.ref 275)), (DictEntry.mk (PyData.keyHash P (Str.ofString "__static_attributes__")) (Value.str (Str.ofString "__static_attributes__") 565) (Value.ref 276)), (DictEntry.mk (PyData.keyHash P (Str.ofString "__dict__")) (Value.str (Str.ofString "__dict__") 567) (Value.ref 279)), (DictEntry.mk (PyData.keyHash P (Str.ofString "__weakref__")) (Value.str (Str.ofString "__weakref__") 569) (Value.ref 280)), (DictEntry.mk (PyData.keyHash P (Str.ofString "__doc__")) (Value.str (Str.ofString "__doc__") 570) Value.none)] 4) #[])) ::
 ((nat_lit 278), (Obj.mk (Value.type "type") (@none Nat) (Data.cls (ClassData.mk (Str.ofString "Environment") [(Value.type "object")] [(Value.ref 278), (Value.type "object")] 277 (Str.ofString "Environment") Bool.true [] [] Bool.false none Bool.false)) #[none, none, (some (Value.str (Str.ofString "Environment") 536)), (some (Value.str (Str.ofString "Environment") 544)), (some (Value.builtin "object.__new__")), (some (Value.bool Bool.true))])) ::
 ((nat_lit 279), (Obj.mk (Value.type "getset_descriptor") (@none Nat) (Data.fields #[(Value.str (Str.ofString "__dict__") 566), (Value.ref 278), (Value.builtin "function.__dict__"), (Value.builtin "function.__dict__#set")]) #[])) ::
 ((nat_lit 280), (Obj.mk (Value.type "getset_descriptor") (@none Nat) (Data.fields #[(Value.str (Str.ofString "__weakref__") 568), (Value.ref 278), (Value.builtin "ExceptionGroup.__weakref__"), Value.none]) #[])) ::
 ((nat_lit 290), (Obj.mk (Value.type "tuple") (@none Nat) (Data.seq #[] 0) #[])) ::
 ((nat_lit 292), (Obj.mk (Value.type "tuple") (@none Nat) (Data.seq #[(Value.str (Str.ofString "self") 588), (Value.str (Str.ofString "expr") 589), (Value.str (Str.ofString "env") 590)] 0) #[])) ::
 ((nat_lit 293), (Obj.mk (Value.type "tuple") (@none Nat) (Data.seq #[] 0) #[])) ::
 ((nat_lit 295), (Obj.mk (Value.type "code") (@none Nat) (Data.fields #[(Value.str (Str.ofString "__init__") 585), (Value.str (Str.ofString "Promise.__init__") 586), (Value.str (Str.ofString "/claim/cut.py") 587), (Value.int 139 0), (Value.int 3 0), (Value.int 0 0), (Value.int 0 0), (Value.int 3 0), (Value.ref 290), (Value.bool Bool.true), (Value.int 181 0), (Value.ref 291), Value.none, (Value.ref 292), (Value.ref 293), (Value.ref 294), (Value.int 591 0), (Value.int 139 0), (Value.str (Str.ofString "/claim/cut.py") 592)]) #[])) ::
 ((nat_lit 296), (Obj.mk (Value.type "function") (@none Nat) (Data.func (FuncData.mk (Str.ofString "__init__") (Str.ofString "Promise.__init__") (Arguments.mk [] [(Arg.mk (Str.ofString "self") none (Pos.mk 139 17 139 21)), (Arg.mk (Str.ofString "expr") none (Pos.mk 139 23 139 27)), (Arg.mk (Str.ofString "env") none (Pos.mk 139 29 139 32))] none [] [] none []) (FuncBody.stmts [(Stmt.Assign [(Expr.Attribute (Expr.Name (Str.ofString "self") (Pos.mk 140 8 140 12)) (Str.ofString "kind") (Pos.mk 140 8 140 17))] (Expr.Constant (Const.str (Str.ofString "promise")) 0 (Pos.mk 140 20 140 29)) (Pos.mk 140 8 140 29)), (Stmt.Assign [(Expr.Attribute (Expr.Name (Str.ofString "self") (Pos.mk 141 8 141 12)) (Str.ofString "expr") (Pos.mk 141 8 141 17))] (Expr.Name (Str.ofString "expr") (Pos.mk 141 20 141 24)) (Pos.mk 141 8 141 24)), (Stmt.Assign [(Expr.Attribute (Expr.Name (Str.ofString "self") (Pos.mk 142 8 142 12)) (Str.ofString "env") (Pos.mk 142 8 142 16))] (Expr.Name (Str.ofString "env") (Pos.mk 142 19 142 22)) (Pos.mk 142 8 142 22)), (Stmt.Assign [(Expr.Attribute (Expr.Name (Str.ofString "self") (Pos.mk 143 8 143 12)) (Str.ofString "value") (Pos.mk 143 8 143 18))] (Expr.Constant Const.none 0 (Pos.mk 143 21 143 25)) (Pos.mk 143 8 143 25)), (Stmt.Assign [(Expr.Attribute (Expr.Name (Str.ofString "self") (Pos.mk 144 8 144 12)) (Str.ofString "state") (Pos.mk 144 8 144 18))] (Expr.Constant (Const.int 0) 0 (Pos.mk 144 21 144 22)) (Pos.mk 144 8 144 22)), (Stmt.Assign [(Expr.Attribute (Expr.Name (Str.ofString "self") (Pos.mk 145 8 145 12)) (Str.ofString "default") (Pos.mk 145 8 145 20))] (Expr.Constant (Const.bool Bool.false) 0 (Pos.mk 145 23 145 28)) (Pos.mk 145 8 145 28)), (Stmt.Assign [(Expr.Attribute (Expr.Name (Str.ofString "self") (Pos.mk 146 8 146 12)) (Str.ofString "attrs") (Pos.mk 146 8 146 18))] (Expr.Constant Const.none 0 (Pos.mk 146 21 146 25)) (Pos.mk 146 8 146 25))]) (Scope.mk ScopeKind.function [((Str.ofString "self"), NameKind.local), ((Str.ofString "expr"), NameKind.local), ((Str.ofString "env"), NameKind.local)] Bool.false Bool.false []) 3 [] Value.none Value.none Value.none (Value.str (Str.ofString "vectorcove.values") 367) (@none Nat) (Value.ref 295) Value.none 0)) #[])) ::
 ((nat_lit 297), (Obj.mk (Value.type "tuple") (@none Nat) (Data.seq #[(Value.str (Str.ofString "attrs") 594), (Value.str (Str.ofString "default") 595), (Value.str (Str.ofString "env") 596), (Value.str (Str.ofString "expr") 597), (Value.str (Str.ofString "kind") 598), (Value.str (Str.ofString "state") 599), (Value.str (Str.ofString "value") 600)] 0) #[])) ::
 ((nat_lit 298), (Obj.mk (Value.type "dict") (@none Nat) (Data.dict #[(DictEntry.mk (PyData.keyHash P (Str.ofString "__module__")) (Value.str (Str.ofString "__module__") 580) (Value.str (Str.ofString "vectorcove.values") 367)), (DictEntry.mk (PyData.keyHash P (Str.ofString "__firstlineno__")) (Value.str (Str.ofString "__firstlineno__") 584) (Value.int 137 583)), (DictEntry.mk (PyData.keyHash P (Str.ofString "__init__")) (Value.str (Str.ofString "__init__") 593) (Value.ref 296)), (DictEntry.mk (PyData.keyHash P (Str.ofString "__static_attributes__")) (Value.str (Str.ofString "__static_attributes__") 601) (Value.ref 297)), (DictEntry.mk (PyData.keyHash P (Str.ofString "__dict__")) (Value.str (Str.ofString "__dict__") 603) (Value.ref 300)), (DictEntry.mk (PyData.keyHash P (Str.ofString "__weakref__")) (Value.str (Str.ofString "__weakref__") 605) (Value.ref 301)), (DictEntry.mk (PyData.keyHash P (Str.ofString "__doc__")) (Value.str (Str.ofString "__doc__") 606) Value.none)] 4) #[])) ::
 ((nat_lit 299), (Obj.mk (Value.type "type") (@none Nat) (Data.cls (ClassData.mk (Str.ofString "Promise") [(Value.type "object")] [(Value.ref 299), (Value.type "object")] 298 (Str.ofString "Promise") Bool.true [] [] Bool.false none Bool.false)) #[none, none, (some (Value.str (Str.ofString "Promise") 573)), (some (Value.str (Str.ofString "Promise") 581)), (some (Value.builtin "object.__new__")), (some (Value.bool Bool.true))])) ::
 ((nat_lit 300), (Obj.mk (Value.type "getset_descriptor") (@none Nat) (Data.fields #[(Value.str (Str.ofString "__dict__") 602), (Value.ref 299), (Value.builtin "function.__dict__"), (Value.builtin "function.__dict__#set")]) #[])) ::
 ((nat_lit 301), (Obj.mk (Value.type "getset_descriptor") (@none Nat) (Data.fields #[(Value.str (Str.ofString "__weakref__") 604), (Value.ref 299), (Value.builtin "ExceptionGroup.__weakref__"), Value.none]) #[])) ::
 ((nat_lit 311), (Obj.mk (Value.type "tuple") (@none Nat) (Data.seq #[] 0) #[])) ::
 ((nat_lit 313), (Obj.mk (Value.type "tuple") (@none Nat) (Data.seq #[(Value.str (Str.ofString "self") 624), (Value.str (Str.ofString "args") 625)] 0) #[])) ::
 ((nat_lit 314), (Obj.mk (Value.type "tuple") (@none Nat) (Data.seq #[] 0) #[])) ::
 ((nat_lit 316), (Obj.mk (Value.type "code") (@none Nat) (Data.fields #[(Value.str (Str.ofString "__init__") 621), (Value.str (Str.ofString "Dots.__init__") 622), (Value.str (Str.ofString "/claim/cut.py") 623), (Value.int 149 0), (Value.int 2 0), (Value.int 0 0), (Value.int 0 0), (Value.int 3 0), (Value.ref 311), (Value.bool Bool.true), (Value.int 181 0), (Value.ref 312), Value.none, (Value.ref 313), (Value.ref 314), (Value.ref 315), (Value.int 626 0), (Value.int 149 0), (Value.str (Str.ofString "/claim/cut.py") 627)]) #[])) ::
 ((nat_lit 317), (Obj.mk (Value.type "function") (@none Nat) (Data.func (FuncData.mk (Str.ofString "__init__") (Str.ofString "Dots.__init__") (Arguments.mk [] [(Arg.mk (Str.ofString "self") none (Pos.mk 149 17 149 21)), (Arg.mk (Str.ofString "args") none (Pos.mk 149 23 149 27))] none [] [] none []) (FuncBody.stmts [(Stmt.Assign [(Expr.Attribute (Expr.Name (Str.ofString "self") (Pos.mk 150 8 150 12)) (Str.ofString "kind") (Pos.mk 150 8 150 17))] (Expr.Constant (Const.str (Str.ofString "dots")) 0 (Pos.mk 150 20 150 26)) (Pos.mk 150 8 150 26)), (Stmt.Assign [(Expr.Attribute (Expr.Name (Str.ofString "self") (Pos.mk 151 8 151 12)) (Str.ofString "args") (Pos.mk 151 8 151 17))] (Expr.Name (Str.ofString "args") (Pos.mk 151 20 151 24)) (Pos.mk 151 8 151 24)), (Stmt.Assign [(Expr.Attribute (Expr.Name (Str.ofString "self") (Pos.mk 152 8 152 12)) (Str.ofString "attrs") (Pos.mk 152 8 152 18))] (Expr.Constant Const.none 0 (Pos.mk 152 21 152 25)) (Pos.mk 152 8 152 25))]) (Scope.mk ScopeKind.function [((Str.ofString "self"), NameKind.local), ((Str.ofString "args"), NameKind.local)] Bool.false Bool.false []) 3 [] Value.none Value.none Value.none (Value.str (Str.ofString "vectorcove.values") 367) (@none Nat) (Value.ref 316) Value.none 0)) #[])) ::
 ((nat_lit 318), (Obj.mk (Value.type "tuple") (@none Nat) (Data.seq #[(Value.str (Str.ofString "args") 629), (Value.str (Str.ofString "attrs") 630), (Value.str (Str.ofString "kind") 631)] 0) #[])) ::
 ((nat_lit 319), (Obj.mk (Value.type "dict") (@none Nat) (Data.dict #[(DictEntry.mk (PyData.keyHash P (Str.ofString "__module__")) (Value.str (Str.ofString "__module__") 616) (Value.str (Str.ofString "vectorcove.values") 367)), (DictEntry.mk (PyData.keyHash P (Str.ofString "__firstlineno__")) (Value.str (Str.ofString "__firstlineno__") 620) (Value.int 147 619)), (DictEntry.mk (PyData.keyHash P (Str.ofString "__init__")) (Value.str (Str.ofString "__init__") 628) (Value.ref 317)), (DictEntry.mk (PyData.keyHash P (Str.ofString "__static_attributes__")) (Value.str (Str.ofString "__static_attributes__") 632) (Value.ref 318)), (DictEntry.mk (PyData.keyHash P (Str.ofString "__dict__")) (Value.str (Str.ofString "__dict__") 634) (Value.ref 321)), (DictEntry.mk (PyData.keyHash P (Str.ofString "__weakref__")) (Value.str (Str.ofString "__weakref__") 636) (Value.ref 322)), (DictEntry.mk (PyData.keyHash P (Str.ofString "__doc__")) (Value.str (Str.ofString "__doc__") 637) Value.none)] 4) #[])) ::
 ((nat_lit 320), (Obj.mk (Value.type "type") (@none Nat) (Data.cls (ClassData.mk (Str.ofString "Dots") [(Value.type "object")] [(Value.ref 320), (Value.type "object")] 319 (Str.ofString "Dots") Bool.true [] [] Bool.false none Bool.false)) #[none, none, (some (Value.str (Str.ofString "Dots") 609)), (some (Value.str (Str.ofString "Dots") 617)), (some (Value.builtin "object.__new__")), (some (Value.bool Bool.true))])) ::
 ((nat_lit 321), (Obj.mk (Value.type "getset_descriptor") (@none Nat) (Data.fields #[(Value.str (Str.ofString "__dict__") 633), (Value.ref 320), (Value.builtin "function.__dict__"), (Value.builtin "function.__dict__#set")]) #[])) ::
 ((nat_lit 322), (Obj.mk (Value.type "getset_descriptor") (@none Nat) (Data.fields #[(Value.str (Str.ofString "__weakref__") 635), (Value.ref 320), (Value.builtin "ExceptionGroup.__weakref__"), Value.none]) #[])) ::
 ((nat_lit 325), (Obj.mk (Value.type "tuple") (@none Nat) (Data.seq #[] 0) #[])) ::
 ((nat_lit 327), (Obj.mk (Value.type "tuple") (@none Nat) (Data.seq #[] 0) #[])) ::
 ((nat_lit 328), (Obj.mk (Value.type "tuple") (@none Nat) (Data.seq #[] 0) #[])) ::
 ((nat_lit 330), (Obj.mk (Value.type "code") (@none Nat) (Data.fields #[(Value.str (Str.ofString "null") 640), (Value.str (Str.ofString "null") 641), (Value.str (Str.ofString "/claim/cut.py") 642), (Value.int 153 0), (Value.int 0 0), (Value.int 0 0), (Value.int 0 0), (Value.int 3 0), (Value.ref 325), (Value.bool Bool.true), (Value.int 181 0), (Value.ref 326), Value.none, (Value.ref 327), (Value.ref 328), (Value.ref 329), (Value.int 643 0), (Value.int 153 0), (Value.str (Str.ofString "/claim/cut.py") 644)]) #[])) ::
 ((nat_lit 331), (Obj.mk (Value.type "function") (@none Nat) (Data.func (FuncData.mk (Str.ofString "null") (Str.ofString "null") (Arguments.mk [] [] none [] [] none []) (FuncBody.stmts [(Stmt.Return (some (Expr.Call (Expr.Name (Str.ofString "Null") (Pos.mk 154 11 154 15)) [] [] (Pos.mk 154 11 154 17))) (Pos.mk 154 4 154 17))]) (Scope.mk ScopeKind.function [((Str.ofString "Null"), NameKind.globalImplicit)] Bool.false Bool.false []) 3 [] Value.none Value.none Value.none (Value.str (Str.ofString "vectorcove.values") 367) (@none Nat) (Value.ref 330) Value.none 0)) #[])) ::
 ((nat_lit 332), (Obj.mk (Value.type "tuple") (@none Nat) (Data.seq #[] 0) #[])) ::
 ((nat_lit 334), (Obj.mk (Value.type "tuple") (@none Nat) (Data.seq #[] 0) #[])) ::
 ((nat_lit 335), (Obj.mk (Value.type "tuple") (@none Nat) (Data.seq #[] 0) #[])) ::
 ((nat_lit 337), (Obj.mk (Value.type "code") (@none Nat) (Data.fields #[(Value.str (Str.ofString "missing") 646), (Value.str (Str.ofString "missing") 647), (Value.str (Str.ofString "/claim/cut.py") 648), (Value.int 155 0), (Value.int 0 0), (Value.int 0 0), (Value.int 0 0), (Value.int 3 0), (Value.ref 332), (Value.bool Bool.true), (Value.int 181 0), (Value.ref 333), Value.none, (Value.ref 334), (Value.ref 335), (Value.ref 336), (Value.int 649 0), (Value.int 155 0), (Value.str (Str.ofString "/claim/cut.py") 650)]) #[])) ::
 ((nat_lit 338), (Obj.mk (Value.type "function") (@none Nat) (Data.func (FuncData.mk (Str.ofString "missing") (Str.ofString "missing") (Arguments.mk [] [] none [] [] none []) (FuncBody.stmts [(Stmt.Return (some (Expr.Call (Expr.Name (Str.ofString "Missing") (Pos.mk 156 11 156 18)) [] [] (Pos.mk 156 11 156 20))) (Pos.mk 156 4 156 20))]) (Scope.mk ScopeKind.function [((Str.ofString "Missing"), NameKind.globalImplicit)] Bool.false Bool.false []) 3 [] Value.none Value.none Value.none (Value.str (Str.ofString "vectorcove.values") 367) (@none Nat) (Value.ref 337) Value.none 0)) #[])) ::
 ((nat_lit 339), (Obj.mk (Value.type "tuple") (@none Nat) (Data.seq #[] 0) #[])) ::
 ((nat_lit 341), (Obj.mk (Value.type "tuple") (@none Nat) (Data.seq #[(Value.str (Str.ofString "n") 655)] 0) #[])) ::
 ((nat_lit 342), (Obj.mk (Value.type "tuple") (@none Nat) (Data.seq #[] 0) #[])) ::
 ((nat_lit 344), (Obj.mk (Value.type "code") (@none Nat) (Data.fields #[(Value.str (Str.ofString "whole") 652), (Value.str (Str.ofString "whole") 653), (Value.str (Str.ofString "/claim/cut.py") 654), (Value.int 157 0), (Value.int 1 0), (Value.int 0 0), (Value.int 0 0), (Value.int 3 0), (Value.ref 339), (Value.bool Bool.true), (Value.int 181 0), (Value.ref 340), Value.none, (Value.ref 341), (Value.ref 342), (Value.ref 343), (Value.int 656 0), (Value.int 157 0), (Value.str (Str.ofString "/claim/cut.py") 657)]) #[])) ::
 ((nat_lit 345), (Obj.mk (Value.type "function") (@none Nat) (Data.func (FuncData.mk (Str.ofString "whole") (Str.ofString "whole") (Arguments.mk [] [(Arg.mk (Str.ofString "n") none (Pos.mk 157 10 157 11))] none [] [] none []) (FuncBody.stmts [(Stmt.Return (some (Expr.Call (Expr.Name (Str.ofString "Vector") (Pos.mk 158 11 158 17)) [(Expr.Constant (Const.str (Str.ofString "integer")) 0 (Pos.mk 158 18 158 27)), (Expr.List [(Expr.Name (Str.ofString "n") (Pos.mk 158 30 158 31))] (Pos.mk 158 29 158 32))] [] (Pos.mk 158 11 158 33))) (Pos.mk 158 4 158 33))]) (Scope.mk ScopeKind.function [((Str.ofString "n"), NameKind.local), ((Str.ofString "Vector"), NameKind.globalImplicit)] Bool.false Bool.false []) 3 [] Value.none Value.none Value.none (Value.str (Str.ofString "vectorcove.values") 367) (@none Nat) (Value.ref 344) Value.none 0)) #[])) ::
 ((nat_lit 346), (Obj.mk (Value.type "tuple") (@none Nat) (Data.seq #[] 0) #[])) ::
 ((nat_lit 348), (Obj.mk (Value.type "tuple") (@none Nat) (Data.seq #[(Value.str (Str.ofString "name") 662)] 0) #[])) ::
 ((nat_lit 349), (Obj.mk (Value.type "tuple") (@none Nat) (Data.seq #[] 0) #[])) ::
 ((nat_lit 351), (Obj.mk (Value.type "code") (@none Nat) (Data.fields #[(Value.str (Str.ofString "symbol") 659), (Value.str (Str.ofString "symbol") 660), (Value.str (Str.ofString "/claim/cut.py") 661), (Value.int 159 0), (Value.int 1 0), (Value.int 0 0), (Value.int 0 0), (Value.int 3 0), (Value.ref 346), (Value.bool Bool.true), (Value.int 181 0), (Value.ref 347), Value.none, (Value.ref 348), (Value.ref 349), (Value.ref 350), (Value.int 663 0), (Value.int 159 0), (Value.str (Str.ofString "/claim/cut.py") 664)]) #[])) ::
 ((nat_lit 352), (Obj.mk (Value.type "function") (@none Nat) (Data.func (FuncData.mk (Str.ofString "symbol") (Str.ofString "symbol") (Arguments.mk [] [(Arg.mk (Str.ofString "name") none (Pos.mk 159 11 159 15))] none [] [] none []) (FuncBody.stmts [(Stmt.Return (some (Expr.Call (Expr.Name (Str.ofString "Symbol") (Pos.mk 160 11 160 17)) [(Expr.Name (Str.ofString "name") (Pos.mk 160 18 160 22))] [] (Pos.mk 160 11 160 23))) (Pos.mk 160 4 160 23))]) (Scope.mk ScopeKind.function [((Str.ofString "name"), NameKind.local), ((Str.ofString "Symbol"), NameKind.globalImplicit)] Bool.false Bool.false []) 3 [] Value.none Value.none Value.none (Value.str (Str.ofString "vectorcove.values") 367) (@none Nat) (Value.ref 351) Value.none 0)) #[])) ::
 ((nat_lit 353), (Obj.mk (Value.type "tuple") (@none Nat) (Data.seq #[] 0) #[])) ::
 ((nat_lit 355), (Obj.mk (Value.type "tuple") (@none Nat) (Data.seq #[(Value.str (Str.ofString "v") 669)] 0) #[])) ::
 ((nat_lit 356), (Obj.mk (Value.type "tuple") (@none Nat) (Data.seq #[] 0) #[])) ::
 ((nat_lit 358), (Obj.mk (Value.type "code") (@none Nat) (Data.fields #[(Value.str (Str.ofString "share") 666), (Value.str (Str.ofString "share") 667), (Value.str (Str.ofString "/claim/cut.py") 668), (Value.int 161 0), (Value.int 1 0), (Value.int 0 0), (Value.int 0 0), (Value.int 3 0), (Value.ref 353), (Value.bool Bool.true), (Value.int 181 0), (Value.ref 354), Value.none, (Value.ref 355), (Value.ref 356), (Value.ref 357), (Value.int 670 0), (Value.int 161 0), (Value.str (Str.ofString "/claim/cut.py") 671)]) #[])) ::
 ((nat_lit 359), (Obj.mk (Value.type "function") (@none Nat) (Data.func (FuncData.mk (Str.ofString "share") (Str.ofString "share") (Arguments.mk [] [(Arg.mk (Str.ofString "v") none (Pos.mk 161 10 161 11))] none [] [] none []) (FuncBody.stmts [(Stmt.If (Expr.Call (Expr.Name (Str.ofString "isinstance") (Pos.mk 162 7 162 17)) [(Expr.Name (Str.ofString "v") (Pos.mk 162 18 162 19)), (Expr.Name (Str.ofString "Vector") (Pos.mk 162 21 162 27))] [] (Pos.mk 162 7 162 28)) [(Stmt.Assign [(Expr.Attribute (Expr.Name (Str.ofString "v") (Pos.mk 163 8 163 9)) (Str.ofString "shared") (Pos.mk 163 8 163 16))] (Expr.Constant (Const.bool Bool.true) 0 (Pos.mk 163 19 163 23)) (Pos.mk 163 8 163 23))] [] (Pos.mk 162 4 163 23)), (Stmt.Return (some (Expr.Name (Str.ofString "v") (Pos.mk 164 11 164 12))) (Pos.mk 164 4 164 12))]) (Scope.mk ScopeKind.function [((Str.ofString "v"), NameKind.local), ((Str.ofString "isinstance"), NameKind.globalImplicit), ((Str.ofString "Vector"), NameKind.globalImplicit)] Bool.false Bool.false []) 3 [] Value.none Value.none Value.none (Value.str (Str.ofString "vectorcove.values") 367) (@none Nat) (Value.ref 358) Value.none 0)) #[])) ::
 ((nat_lit 360), (Obj.mk (Value.type "tuple") (@none Nat) (Data.seq #[] 0) #[])) ::
 ((nat_lit 362), (Obj.mk (Value.type "tuple") (@none Nat) (Data.seq #[(Value.str (Str.ofString "expr") 678), (Value.str (Str.ofString "value") 679), (Value.str (Str.ofString "promise") 680)] 0) #[])) ::
 ((nat_lit 363), (Obj.mk (Value.type "tuple") (@none Nat) (Data.seq #[] 0) #[])) ::
 ((nat_lit 365), (Obj.mk (Value.type "code") (@none Nat) (Data.fields #[(Value.str (Str.ofString "done_promise") 675), (Value.str (Str.ofString "done_promise") 676), (Value.str (Str.ofString "/claim/cut.py") 677), (Value.int 166 0), (Value.int 2 0), (Value.int 0 0), (Value.int 0 0), (Value.int 3 0), (Value.ref 360), (Value.bool Bool.true), (Value.int 181 0), (Value.ref 361), Value.none, (Value.ref 362), (Value.ref 363), (Value.ref 364), (Value.int 681 0), (Value.int 166 0), (Value.str (Str.ofString "/claim/cut.py") 682)]) #[])) ::
 ((nat_lit 366), (Obj.mk (Value.type "function") (@none Nat) (Data.func (FuncData.mk (Str.ofString "done_promise") (Str.ofString "done_promise") (Arguments.mk [] [(Arg.mk (Str.ofString "expr") none (Pos.mk 166 17 166 21)), (Arg.mk (Str.ofString "value") none (Pos.mk 166 23 166 28))] none [] [] none []) (FuncBody.stmts [(Stmt.Assign [(Expr.Name (Str.ofString "promise") (Pos.mk 167 4 167 11))] (Expr.Call (Expr.Name (Str.ofString "Promise") (Pos.mk 167 14 167 21)) [(Expr.Name (Str.ofString "expr") (Pos.mk 167 22 167 26)), (Expr.Constant Const.none 0 (Pos.mk 167 28 167 32))] [] (Pos.mk 167 14 167 33)) (Pos.mk 167 4 167 33)), (Stmt.Assign [(Expr.Attribute (Expr.Name (Str.ofString "promise") (Pos.mk 168 4 168 11)) (Str.ofString "value") (Pos.mk 168 4 168 17))] (Expr.Name (Str.ofString "value") (Pos.mk 168 20 168 25)) (Pos.mk 168 4 168 25)), (Stmt.Assign [(Expr.Attribute (Expr.Name (Str.ofString "promise") (Pos.mk 169 4 169 11)) (Str.ofString "state") (Pos.mk 169 4 169 17))] (Expr.Constant (Const.int 2) 0 (Pos.mk 169 20 169 21)) (Pos.mk 169 4 169 21)), (Stmt.Return (some (Expr.Name (Str.ofString "promise") (Pos.mk 170 11 170 18))) (Pos.mk 170 4 170 18))]) (Scope.mk ScopeKind.function [((Str.ofString "expr"), NameKind.local), ((Str.ofString "value"), NameKind.local), ((Str.ofString "promise"), NameKind.local), ((Str.ofString "Promise"), NameKind.globalImplicit)] Bool.false Bool.false []) 3 [] Value.none Value.none Value.none (Value.str (Str.ofString "vectorcove.funcall") 673) (@none Nat) (Value.ref 365) Value.none 0)) #[])) ::
 ((nat_lit 367), (Obj.mk (Value.type "tuple") (@none Nat) (Data.seq #[] 0) #[])) ::
 ((nat_lit 369), (Obj.mk (Value.type "tuple") (@none Nat) (Data.seq #[(Value.str (Str.ofString "value") 687)] 0) #[])) ::
 ((nat_lit 370), (Obj.mk (Value.type "tuple") (@none Nat) (Data.seq #[] 0) #[])) ::
 ((nat_lit 372), (Obj.mk (Value.type "code") (@none Nat) (Data.fields #[(Value.str (Str.ofString "bound_argument") 684), (Value.str (Str.ofString "bound_argument") 685), (Value.str (Str.ofString "/claim/cut.py") 686), (Value.int 171 0), (Value.int 1 0), (Value.int 0 0), (Value.int 0 0), (Value.int 3 0), (Value.ref 367), (Value.bool Bool.true), (Value.int 181 0), (Value.ref 368), Value.none, (Value.ref 369), (Value.ref 370), (Value.ref 371), (Value.int 688 0), (Value.int 171 0), (Value.str (Str.ofString "/claim/cut.py") 689)]) #[])) ::
 ((nat_lit 373), (Obj.mk (Value.type "function") (@none Nat) (Data.func (FuncData.mk (Str.ofString "bound_argument") (Str.ofString "bound_argument") (Arguments.mk [] [(Arg.mk (Str.ofString "value") none (Pos.mk 171 19 171 24))] none [] [] none []) (FuncBody.stmts [(Stmt.If (Expr.BoolOp BoolOp.Or [(Expr.Compare (Expr.Attribute (Expr.Name (Str.ofString "value") (Pos.mk 172 7 172 12)) (Str.ofString "kind") (Pos.mk 172 7 172 17)) [CmpOp.Eq] [(Expr.Constant (Const.str (Str.ofString "promise")) 0 (Pos.mk 172 21 172 30))] (Pos.mk 172 7 172 30)), (Expr.Compare (Expr.Attribute (Expr.Name (Str.ofString "value") (Pos.mk 172 34 172 39)) (Str.ofString "kind") (Pos.mk 172 34 172 44)) [CmpOp.Eq] [(Expr.Constant (Const.str (Str.ofString "missing")) 0 (Pos.mk 172 48 172 57))] (Pos.mk 172 34 172 57))] (Pos.mk 172 7 172 57)) [(Stmt.Return (some (Expr.Name (Str.ofString "value") (Pos.mk 173 15 173 20))) (Pos.mk 173 8 173 20))] [] (Pos.mk 172 4 173 20)), (Stmt.Return (some (Expr.Call (Expr.Name (Str.ofString "done_promise") (Pos.mk 174 11 174 23)) [(Expr.Name (Str.ofString "value") (Pos.mk 174 24 174 29)), (Expr.Call (Expr.Name (Str.ofString "share") (Pos.mk 174 31 174 36)) [(Expr.Name (Str.ofString "value") (Pos.mk 174 37 174 42))] [] (Pos.mk 174 31 174 43))] [] (Pos.mk 174 11 174 44))) (Pos.mk 174 4 174 44))]) (Scope.mk ScopeKind.function [((Str.ofString "value"), NameKind.local), ((Str.ofString "done_promise"), NameKind.globalImplicit), ((Str.ofString "share"), NameKind.globalImplicit)] Bool.false Bool.false []) 3 [] Value.none Value.none Value.none (Value.str (Str.ofString "vectorcove.funcall") 673) (@none Nat) (Value.ref 372) Value.none 0)) #[])) ::
 ((nat_lit 374), (Obj.mk (Value.type "tuple") (@none Nat) (Data.seq #[] 0) #[])) ::
 ((nat_lit 376), (Obj.mk (Value.type "tuple") (@none Nat) (Data.seq #[(Value.str (Str.ofString "arg") 694), (Value.str (Str.ofString "tag") 695), (Value.str (Str.ofString "value") 696)] 0) #[])) ::
 ((nat_lit 377), (Obj.mk (Value.type "tuple") (@none Nat) (Data.seq #[] 0) #[])) ::
 ((nat_lit 379), (Obj.mk (Value.type "code") (@none Nat) (Data.fields #[(Value.str (Str.ofString "dots_argument") 691), (Value.str (Str.ofString "dots_argument") 692), (Value.str (Str.ofString "/claim/cut.py") 693), (Value.int 175 0), (Value.int 1 0), (Value.int 0 0), (Value.int 0 0), (Value.int 3 0), (Value.ref 374), (Value.bool Bool.true), (Value.int 181 0), (Value.ref 375), Value.none, (Value.ref 376), (Value.ref 377), (Value.ref 378), (Value.int 697 0), (Value.int 175 0), (Value.str (Str.ofString "/claim/cut.py") 698)]) #[])) ::
 ((nat_lit 380), (Obj.mk (Value.type "function") (@none Nat) (Data.func (FuncData.mk (Str.ofString "dots_argument") (Str.ofString "dots_argument") (Arguments.mk [] [(Arg.mk (Str.ofString "arg") none (Pos.mk 175 18 175 21))] none [] [] none []) (FuncBody.stmts [(Stmt.Assign [(Expr.Tuple [(Expr.Name (Str.ofString "tag") (Pos.mk 176 4 176 7)), (Expr.Name (Str.ofString "value") (Pos.mk 176 9 176 14))] 0 (Pos.mk 176 4 176 14))] (Expr.Name (Str.ofString "arg") (Pos.mk 176 17 176 20)) (Pos.mk 176 4 176 20)), (Stmt.If (Expr.BoolOp BoolOp.Or [(Expr.Compare (Expr.Attribute (Expr.Name (Str.ofString "value") (Pos.mk 177 7 177 12)) (Str.ofString "kind") (Pos.mk 177 7 177 17)) [CmpOp.Eq] [(Expr.Constant (Const.str (Str.ofString "symbol")) 0 (Pos.mk 177 21 177 29))] (Pos.mk 177 7 177 29)), (Expr.Compare (Expr.Attribute (Expr.Name (Str.ofString "value") (Pos.mk 177 33 177 38)) (Str.ofString "kind") (Pos.mk 177 33 177 43)) [CmpOp.Eq] [(Expr.Constant (Const.str (Str.ofString "language")) 0 (Pos.mk 177 47 177 57))] (Pos.mk 177 33 177 57))] (Pos.mk 177 7 177 57)) [(Stmt.Return (some (Expr.Tuple [(Expr.Name (Str.ofString "tag") (Pos.mk 178 16 178 19)), (Expr.Call (Expr.Name (Str.ofString "done_promise") (Pos.mk 178 21 178 33)) [(Expr.Name (Str.ofString "value") (Pos.mk 178 34 178 39)), (Expr.Name (Str.ofString "value") (Pos.mk 178 41 178 46))] [] (Pos.mk 178 21 178 47))] 0 (Pos.mk 178 15 178 48))) (Pos.mk 178 8 178 48))] [] (Pos.mk 177 4 178 48)), (Stmt.Return (some (Expr.Name (Str.ofString "arg") (Pos.mk 179 11 179 14))) (Pos.mk 179 4 179 14))]) (Scope.mk ScopeKind.function [((Str.ofString "arg"), NameKind.local), ((Str.ofString "tag"), NameKind.local), ((Str.ofString "value"), NameKind.local), ((Str.ofString "done_promise"), NameKind.globalImplicit)] Bool.false Bool.false []) 3 [] Value.none Value.none Value.none (Value.str (Str.ofString "vectorcove.funcall") 673) (@none Nat) (Value.ref 379) Value.none 0)) #[])) ::
 ((nat_lit 381), (Obj.mk (Value.type "tuple") (@none Nat) (Data.seq #[] 0) #[])) ::
 ((nat_lit 383), (Obj.mk (Value.type "tuple") (@none Nat) (Data.seq #[(Value.str (Str.ofString "default") 703), (Value.str (Str.ofString "env") 704), (Value.str (Str.ofString "promise") 705)] 0) #[])) ::
 ((nat_lit 384), (Obj.mk (Value.type "tuple") (@none Nat) (Data.seq #[] 0) #[])) ::
 ((nat_lit 386), (Obj.mk (Value.type "code") (@none Nat) (Data.fields #[(Value.str (Str.ofString "default_binding") 700), (Value.str (Str.ofString "default_binding") 701), (Value.str (Str.ofString "/claim/cut.py") 702), (Value.int 180 0), (Value.int 2 0), (Value.int 0 0), (Value.int 0 0), (Value.int 3 0), (Value.ref 381), (Value.bool Bool.true), (Value.int 181 0), (Value.ref 382), Value.none, (Value.ref 383), (Value.ref 384), (Value.ref 385), (Value.int 706 0), (Value.int 180 0), (Value.str (Str.ofString "/claim/cut.py") 707)]) #[])) ::
 ((nat_lit 387), (Obj.mk (Value.type "function") (@none Nat) (Data.func (FuncData.mk (Str.ofString "default_binding") (Str.ofString "default_binding") (Arguments.mk [] [(Arg.mk (Str.ofString "default") none (Pos.mk 180 20 180 27)), (Arg.mk (Str.ofString "env") none (Pos.mk 180 29 180 32))] none [] [] none []) (FuncBody.stmts [(Stmt.If (Expr.Compare (Expr.Attribute (Expr.Name (Str.ofString "default") (Pos.mk 181 7 181 14)) (Str.ofString "kind") (Pos.mk 181 7 181 19)) [CmpOp.Eq] [(Expr.Constant (Const.str (Str.ofString "missing")) 0 (Pos.mk 181 23 181 32))] (Pos.mk 181 7 181 32)) [(Stmt.Return (some (Expr.Name (Str.ofString "default") (Pos.mk 182 15 182 22))) (Pos.mk 182 8 182 22))] [] (Pos.mk 181 4 182 22)), (Stmt.Assign [(Expr.Name (Str.ofString "promise") (Pos.mk 183 4 183 11))] (Expr.Call (Expr.Name (Str.ofString "Promise") (Pos.mk 183 14 183 21)) [(Expr.Name (Str.ofString "default") (Pos.mk 183 22 183 29)), (Expr.Name (Str.ofString "env") (Pos.mk 183 31 183 34))] [] (Pos.mk 183 14 183 35)) (Pos.mk 183 4 183 35)), (Stmt.Assign [(Expr.Attribute (Expr.Name (Str.ofString "promise") (Pos.mk 184 4 184 11)) (Str.ofString "default") (Pos.mk 184 4 184 19))] (Expr.Constant (Const.bool Bool.true) 0 (Pos.mk 184 22 184 26)) (Pos.mk 184 4 184 26)), (Stmt.Return (some (Expr.Name (Str.ofString "promise") (Pos.mk 185 11 185 18))) (Pos.mk 185 4 185 18))]) (Scope.mk ScopeKind.function [((Str.ofString "default"), NameKind.local), ((Str.ofString "env"), NameKind.local), ((Str.ofString "promise"), NameKind.local), ((Str.ofString "Promise"), NameKind.globalImplicit)] Bool.false Bool.false []) 3 [] Value.none Value.none Value.none (Value.str (Str.ofString "vectorcove.funcall") 673) (@none Nat) (Value.ref 386) Value.none 0)) #[])) ::
 ((nat_lit 388), (Obj.mk (Value.type "tuple") (@none Nat) (Data.seq #[Value.none] 0) #[])) ::
 ((nat_lit 389), (Obj.mk (Value.type "tuple") (@none Nat) (Data.seq #[] 0) #[])) ::
 ((nat_lit 392), (Obj.mk (Value.type "code") (@none Nat) (Data.fields #[(Value.str (Str.ofString "bind_formals") 709), (Value.str (Str.ofString "bind_formals") 710), (Value.str (Str.ofString "/claim/cut.py") 711), (Value.int 186 0), (Value.int 4 0), (Value.int 0 0), (Value.int 0 0), (Value.int 3 0), (Value.ref 389), (Value.bool Bool.true), (Value.int 181 0), (Value.ref 390), Value.none, Value.none, Value.none, (Value.ref 391), (Value.int 712 0), (Value.int 186 0), (Value.str (Str.ofString "/claim/cut.py") 713)]) #[])) ::
 ((nat_lit 393), (Obj.mk (Value.type "function") (@none Nat) (Data.func (FuncData.mk (Str.ofString "bind_formals") (Str.ofString "bind_formals") (Arguments.mk [] [(Arg.mk (Str.ofString "closure") none (Pos.mk 186 17 186 24)), (Arg.mk (Str.ofString "args") none (Pos.mk 186 26 186 30)), (Arg.mk (Str.ofString "env") none (Pos.mk 186 32 186 35)), (Arg.mk (Str.ofString "show") none (Pos.mk 186 37 186 41))] none [] [] none [(Expr.Constant Const.none 0 (Pos.mk 186 42 186 46))]) (FuncBody.stmts [(Stmt.Assign [(Expr.Name (Str.ofString "names") (Pos.mk 187 4 187 9))] (Expr.ListComp (Expr.Subscript (Expr.Name (Str.ofString "formal") (Pos.mk 187 13 187 19)) (Expr.Constant (Const.int 0) 0 (Pos.mk 187 20 187 21)) (Pos.mk 187 13 187 22)) [(Comprehension.mk (Expr.Name (Str.ofString "formal") (Pos.mk 187 27 187 33)) (Expr.Attribute (Expr.Name (Str.ofString "closure") (Pos.mk 187 37 187 44)) (Str.ofString "formals") (Pos.mk 187 37 187 52)) [] 0)] (Scope.mk ScopeKind.function [((Str.ofString ".0"), NameKind.local), ((Str.ofString "formal"), NameKind.local)] Bool.false Bool.false []) (Pos.mk 187 12 187 53)) (Pos.mk 187 4 187 53)), (Stmt.Assign [(Expr.Tuple [(Expr.Name (Str.ofString "places") (Pos.mk 188 4 188 10)), (Expr.Name (Str.ofString "rest") (Pos.mk 188 12 188 16))] 0 (Pos.mk 188 4 188 16))] (Expr.Call (Expr.Name (Str.ofString "match_names") (Pos.mk 188 19 188 30)) [(Expr.Name (Str.ofString "names") (Pos.mk 188 31 188 36)), (Expr.Name (Str.ofString "args") (Pos.mk 188 38 188 42)), (Expr.Name (Str.ofString "show") (Pos.mk 188 44 188 48))] [] (Pos.mk 188 19 188 49)) (Pos.mk 188 4 188 49)), (Stmt.For (Expr.Tuple [(Expr.Name (Str.ofString "name") (Pos.mk 189 8 189 12)), (Expr.Name (Str.ofString "default") (Pos.mk 189 14 189 21))] 0 (Pos.mk 189 8 189 21)) (Expr.Attribute (Expr.Name (Str.ofString "closure") (Pos.mk 189 25 189 32)) (Str.ofString "formals") (Pos.mk 189 25 189 40)) [(Stmt.If (Expr.Compare (Expr.Name (Str.ofString "name") (Pos.mk 190 11 190 15)) [CmpOp.Eq] [(Expr.Constant (Const.str (Str.ofString "...")) 0 (Pos.mk 190 19 190 24))] (Pos.mk 190 11 190 24)) [(Stmt.Assign [(Expr.Subscript (Expr.Attribute (Expr.Name (Str.ofString "env") (Pos.mk 191 12 191 15)) (Str.ofString "frame") (Pos.mk 191 12 191 21)) (Expr.Name (Str.ofString "name") (Pos.mk 191 22 191 26)) (Pos.mk 191 12 191 27))] (Expr.Call (Expr.Name (Str.ofString "Dots") (Pos.mk 191 30 191 34)) [(Expr.ListComp (Expr.Call (Expr.Name (Str.ofString "dots_argument") (Pos.mk 191 36 191 49)) [(Expr.Subscript (Expr.Name (Str.ofString "args") (Pos.mk 191 50 191 54)) (Expr.Name (Str.ofString "place") (Pos.mk 191 55 191 60)) (Pos.mk 191 50 191 61))] [] (Pos.mk 191 36 191 62)) [(Comprehension.mk (Expr.Name (Str.ofString "place") (Pos.mk 191 67 191 72)) (Expr.Name (Str.ofString "rest") (Pos.mk 191 76 191 80)) [] 0)] (Scope.mk ScopeKind.function [((Str.ofString ".0"), NameKind.local), ((Str.ofString "place"), NameKind.local), ((Str.ofString "dots_argument"), NameKind.globalImplicit), ((Str.ofString "args"), NameKind.free)] Bool.false Bool.false []) (Pos.mk 191 35 191 81))] [] (Pos.mk 191 30 191 82)) (Pos.mk 191 12 191 82))] [(Stmt.If (Expr.Compare (Expr.Name (Str.ofString "name") (Pos.mk 192 13 192 17)) [CmpOp.In] [(Expr.Name (Str.ofString "places") (Pos.mk 192 21 192 27))] (Pos.mk 192 13 192 27)) [(Stmt.Assign [(Expr.Name (Str.ofString "bound") (Pos.mk 193 12 193 17))] (Expr.Call (Expr.Name (Str.ofString "bound_argument") (Pos.mk 193 20 193 34)) [(Expr.Subscript (Expr.Subscript (Expr.Name (Str.ofString "args") (Pos.mk 193 35 193 39)) (Expr.Subscript (Expr.Name (Str.ofString "places") (Pos.mk 193 40 193 46)) (Expr.Name (Str.ofString "name") (Pos.mk 193 47 193 51)) (Pos.mk 193 40 193 52)) (Pos.mk 193 35 193 53)) (Expr.Constant (Const.int 1) 0 (Pos.mk 193 54 193 55)) (Pos.mk 193 35 193 56))] [] (Pos.mk 193 20 193 57)) (Pos.mk 193 12 193 57)), (Stmt.If (Expr.Compare (Expr.Attribute (Expr.Name (Str.ofString "bound") (Pos.mk 194 15 194 20)) (Str.ofString "kind") (Pos.mk 194 15 194 25)) [CmpOp.Eq] [(Expr.Constant (Const.str (Str.ofString "missing")) 0 (Pos.mk 194 29 194 38))] (Pos.mk 194 15 194 38)) [(Stmt.Assign [(Expr.Name (Str.ofString "bound") (Pos.mk 195 16 195 21))] (Expr.Call (Expr.Name (Str.ofString "default_binding") (Pos.mk 195 24 195 39)) [(Expr.Name (Str.ofString "default") (Pos.mk 195 40 195 47)), (Expr.Name (Str.ofString "env") (Pos.mk 195 49 195 52))] [] (Pos.mk 195 24 195 53)) (Pos.mk 195 16 195 53))] [] (Pos.mk 194 12 195 53)), (Stmt.Assign [(Expr.Subscript (Expr.Attribute (Expr.Name (Str.ofString "env") (Pos.mk 196 12 196 15)) (Str.ofString "frame") (Pos.mk 196 12 196 21)) (Expr.Name (Str.ofString "name") (Pos.mk 196 22 196 26)) (Pos.mk 196 12 196 27))] (Expr.Name (Str.ofString "bound") (Pos.mk 196 30 196 35)) (Pos.mk 196 12 196 35))] [(Stmt.Assign [(Expr.Subscript (Expr.Attribute (Expr.Name (Str.ofString "env") (Pos.mk 198 12 198 15)) (Str.ofString "frame") (Pos.mk 198 12 198 21)) (Expr.Name (Str.ofString "name") (Pos.mk 198 22 198 26)) (Pos.mk 198 12 198 27))] (Expr.Call (Expr.Name (Str.ofString "default_binding") (Pos.mk 198 30 198 45)) [(Expr.Name (Str.ofString "default") (Pos.mk 198 46 198 53)), (Expr.Name (Str.ofString "env") (Pos.mk 198 55 198 58))] [] (Pos.mk 198 30 198 59)) (Pos.mk 198 12 198 59))] (Pos.mk 192 8 198 59))] (Pos.mk 190 8 198 59))] [] (Pos.mk 189 4 198 59))]) (Scope.mk ScopeKind.function [((Str.ofString "closure"), NameKind.local), ((Str.ofString "args"), NameKind.cell), ((Str.ofString "env"), NameKind.local), ((Str.ofString "show"), NameKind.local), ((Str.ofString "names"), NameKind.local), ((Str.ofString "places"), NameKind.local), ((Str.ofString "rest"), NameKind.local), ((Str.ofString "name"), NameKind.local), ((Str.ofString "default"), NameKind.local), ((Str.ofString "bound"), NameKind.local), ((Str.ofString "match_names"), NameKind.globalImplicit), ((Str.ofString "Dots"), NameKind.globalImplicit), ((Str.ofString "bound_argument"), NameKind.globalImplicit), ((Str.ofString "default_binding"), NameKind.globalImplicit)] Bool.false Bool.false [((Str.ofString "fast"), (Const.str (Str.ofString "closure"))), ((Str.ofString "fast"), (Const.str (Str.ofString "args"))), ((Str.ofString "fast"), (Const.str (Str.ofString "env"))), ((Str.ofString "fast"), (Const.str (Str.ofString "show"))), ((Str.ofString "fast"), (Const.str (Str.ofString "formal"))), ((Str.ofString "fast"), (Const.str (Str.ofString "names"))), ((Str.ofString "fast"), (Const.str (Str.ofString "places"))), ((Str.ofString "fast"), (Const.str (Str.ofString "rest"))), ((Str.ofString "fast"), (Const.str (Str.ofString "name"))), ((Str.ofString "fast"), (Const.str (Str.ofString "default"))), ((Str.ofString "fast"), (Const.str (Str.ofString "place"))), ((Str.ofString "fast"), (Const.str (Str.ofString "bound")))]) 3 [] (Value.ref 388) Value.none Value.none (Value.str (Str.ofString "vectorcove.funcall") 673) (@none Nat) (Value.ref 392) Value.none 0)) #[])) ::
 ((nat_lit 394), (Obj.mk (Value.type "tuple") (@none Nat) (Data.seq #[] 0) #[])) ::
 ((nat_lit 396), (Obj.mk (Value.type "tuple") (@none Nat) (Data.seq #[(Value.str (Str.ofString "bound") 718), (Value.str (Str.ofString "env") 719)] 0) #[])) ::
 ((nat_lit 397), (Obj.mk (Value.type "tuple") (@none Nat) (Data.seq #[] 0) #[])) ::
 ((nat_lit 399), (Obj.mk (Value.type "code") (@none Nat) (Data.fields #[(Value.str (Str.ofString "is_default") 715), (Value.str (Str.ofString "is_default") 716), (Value.str (Str.ofString "/claim/cut.py") 717), (Value.int 199 0), (Value.int 2 0), (Value.int 0 0), (Value.int 0 0), (Value.int 3 0), (Value.ref 394), (Value.bool Bool.true), (Value.int 181 0), (Value.ref 395), Value.none, (Value.ref 396), (Value.ref 397), (Value.ref 398), (Value.int 720 0), (Value.int 199 0), (Value.str (Str.ofString "/claim/cut.py") 721)]) #[])) ::
 ((nat_lit 400), (Obj.mk (Value.type "function") (@none Nat) (Data.func (FuncData.mk (Str.ofString "is_default") (Str.ofString "is_default") (Arguments.mk [] [(Arg.mk (Str.ofString "bound") none (Pos.mk 199 15 199 20)), (Arg.mk (Str.ofString "env") none (Pos.mk 199 22 199 25))] none [] [] none []) (FuncBody.stmts [(Stmt.Return (some (Expr.BoolOp BoolOp.And [(Expr.Compare (Expr.Attribute (Expr.Name (Str.ofString "bound") (Pos.mk 200 11 200 16)) (Str.ofString "kind") (Pos.mk 200 11 200 21)) [CmpOp.Eq] [(Expr.Constant (Const.str (Str.ofString "promise")) 0 (Pos.mk 200 25 200 34))] (Pos.mk 200 11 200 34)), (Expr.Attribute (Expr.Name (Str.ofString "bound") (Pos.mk 200 39 200 44)) (Str.ofString "default") (Pos.mk 200 39 200 52)), (Expr.Compare (Expr.Attribute (Expr.Attribute (Expr.Name (Str.ofString "bound") (Pos.mk 200 58 200 63)) (Str.ofString "env") (Pos.mk 200 58 200 67)) (Str.ofString "number") (Pos.mk 200 58 200 74)) [CmpOp.Eq] [(Expr.Attribute (Expr.Name (Str.ofString "env") (Pos.mk 200 78 200 81)) (Str.ofString "number") (Pos.mk 200 78 200 88))] (Pos.mk 200 58 200 88))] (Pos.mk 200 11 200 89))) (Pos.mk 200 4 200 89))]) (Scope.mk ScopeKind.function [((Str.ofString "bound"), NameKind.local), ((Str.ofString "env"), NameKind.local)] Bool.false Bool.false []) 3 [] Value.none Value.none Value.none (Value.str (Str.ofString "vectorcove.funcall") 673) (@none Nat) (Value.ref 399) Value.none 0)) #[])) ::
 ((nat_lit 401), (Obj.mk (Value.type "tuple") (@none Nat) (Data.seq #[] 0) #[])) ::
 ((nat_lit 403), (Obj.mk (Value.type "tuple") (@none Nat) (Data.seq #[(Value.str (Str.ofString "interp") 726), (Value.str (Str.ofString "name") 727), (Value.str (Str.ofString "env") 728), (Value.str (Str.ofString "bound") 729), (Value.str (Str.ofString "seen") 730)] 0) #[])) ::
 ((nat_lit 404), (Obj.mk (Value.type "tuple") (@none Nat) (Data.seq #[] 0) #[])) ::
 ((nat_lit 406), (Obj.mk (Value.type "code") (@none Nat) (Data.fields #[(Value.str (Str.ofString "missing_argument") 723), (Value.str (Str.ofString "missing_argument") 724), (Value.str (Str.ofString "/claim/cut.py") 725), (Value.int 201 0), (Value.int 3 0), (Value.int 0 0), (Value.int 0 0), (Value.int 3 0), (Value.ref 401), (Value.bool Bool.true), (Value.int 181 0), (Value.ref 402), Value.none, (Value.ref 403), (Value.ref 404), (Value.ref 405), (Value.int 731 0), (Value.int 201 0), (Value.str (Str.ofString "/claim/cut.py") 732)]) #[])) ::
 ((nat_lit 407), (Obj.mk (Value.type "function") (@none Nat) (Data.func (FuncData.mk (Str.ofString "missing_argument") (Str.ofString "missing_argument") (Arguments.mk [] [(Arg.mk (Str.ofString "interp") none (Pos.mk 201 21 201 27)), (Arg.mk (Str.ofString "name") none (Pos.mk 201 29 201 33)), (Arg.mk (Str.ofString "env") none (Pos.mk 201 35 201 38))] none [] [] none []) (FuncBody.stmts [(Stmt.Assign [(Expr.Name (Str.ofString "bound") (Pos.mk 202 4 202 9))] (Expr.Call (Expr.Name (Str.ofString "lookup_here") (Pos.mk 202 12 202 23)) [(Expr.Name (Str.ofString "env") (Pos.mk 202 24 202 27)), (Expr.IfExp (Expr.Call (Expr.Name (Str.ofString "is_dots_place") (Pos.mk 202 38 202 51)) [(Expr.Name (Str.ofString "name") (Pos.mk 202 52 202 56))] [] (Pos.mk 202 38 202 57)) (Expr.Constant (Const.str (Str.ofString "...")) 0 (Pos.mk 202 29 202 34)) (Expr.Name (Str.ofString "name") (Pos.mk 202 63 202 67)) (Pos.mk 202 29 202 67))] [] (Pos.mk 202 12 202 68)) (Pos.mk 202 4 202 68)), (Stmt.If (Expr.Compare (Expr.Name (Str.ofString "bound") (Pos.mk 203 7 203 12)) [CmpOp.Is] [(Expr.Constant Const.none 0 (Pos.mk 203 16 203 20))] (Pos.mk 203 7 203 20)) [(Stmt.Raise (some (Expr.Call (Expr.Name (Str.ofString "Refusal") (Pos.mk 204 14 204 21)) [(Expr.Constant (Const.str (Str.ofString "'missing' can only be used for arguments")) 0 (Pos.mk 204 22 204 64))] [] (Pos.mk 204 14 204 65))) none (Pos.mk 204 8 204 65))] [] (Pos.mk 203 4 204 65)), (Stmt.If (Expr.BoolOp BoolOp.And [(Expr.Compare (Expr.Attribute (Expr.Name (Str.ofString "bound") (Pos.mk 205 7 205 12)) (Str.ofString "kind") (Pos.mk 205 7 205 17)) [CmpOp.Eq] [(Expr.Constant (Const.str (Str.ofString "dots")) 0 (Pos.mk 205 21 205 27))] (Pos.mk 205 7 205 27)), (Expr.Call (Expr.Name (Str.ofString "is_dots_place") (Pos.mk 205 32 205 45)) [(Expr.Name (Str.ofString "name") (Pos.mk 205 46 205 50))] [] (Pos.mk 205 32 205 51))] (Pos.mk 205 7 205 51)) [(Stmt.If (Expr.UnaryOp UnaryOp.Not (Expr.Compare (Expr.Constant (Const.int 1) 0 (Pos.mk 206 15 206 16)) [CmpOp.LtE, CmpOp.LtE] [(Expr.Call (Expr.Name (Str.ofString "int") (Pos.mk 206 20 206 23)) [(Expr.Subscript (Expr.Name (Str.ofString "name") (Pos.mk 206 24 206 28)) (Expr.Slice (some (Expr.Constant (Const.int 2) 0 (Pos.mk 206 29 206 30))) none none (Pos.mk 206 29 206 31)) (Pos.mk 206 24 206 32))] [] (Pos.mk 206 20 206 33)), (Expr.Call (Expr.Name (Str.ofString "len") (Pos.mk 206 37 206 40)) [(Expr.Attribute (Expr.Name (Str.ofString "bound") (Pos.mk 206 41 206 46)) (Str.ofString "args") (Pos.mk 206 41 206 51))] [] (Pos.mk 206 37 206 52))] (Pos.mk 206 15 206 52)) (Pos.mk 206 11 206 52)) [(Stmt.Return (some (Expr.Constant (Const.bool Bool.true) 0 (Pos.mk 207 19 207 23))) (Pos.mk 207 12 207 23))] [] (Pos.mk 206 8 207 23)), (Stmt.Assign [(Expr.Name (Str.ofString "bound") (Pos.mk 208 8 208 13))] (Expr.Subscript (Expr.Subscript (Expr.Attribute (Expr.Name (Str.ofString "bound") (Pos.mk 208 16 208 21)) (Str.ofString "args") (Pos.mk 208 16 208 26)) (Expr.BinOp (Expr.Call (Expr.Name (Str.ofString "int") (Pos.mk 208 27 208 30)) [(Expr.Subscript (Expr.Name (Str.ofString "name") (Pos.mk 208 31 208 35)) (Expr.Slice (some (Expr.Constant (Const.int 2) 0 (Pos.mk 208 36 208 37))) none none (Pos.mk 208 36 208 38)) (Pos.mk 208 31 208 39))] [] (Pos.mk 208 27 208 40)) Operator.Sub (Expr.Constant (Const.int 1) 0 (Pos.mk 208 43 208 44)) (Pos.mk 208 27 208 44)) (Pos.mk 208 16 208 45)) (Expr.Constant (Const.int 1) 0 (Pos.mk 208 46 208 47)) (Pos.mk 208 16 208 48)) (Pos.mk 208 8 208 48))] [] (Pos.mk 205 4 208 48)), (Stmt.Assign [(Expr.Name (Str.ofString "seen") (Pos.mk 209 4 209 8))] (Expr.Dict [(some (Expr.Tuple [(Expr.Attribute (Expr.Name (Str.ofString "env") (Pos.mk 209 13 209 16)) (Str.ofString "number") (Pos.mk 209 13 209 23)), (Expr.Name (Str.ofString "name") (Pos.mk 209 25 209 29))] 0 (Pos.mk 209 12 209 30)))] [(Expr.Constant (Const.bool Bool.true) 0 (Pos.mk 209 32 209 36))] (Pos.mk 209 11 209 37)) (Pos.mk 209 4 209 37)), (Stmt.While (Expr.Constant (Const.bool Bool.true) 0 (Pos.mk 210 10 210 14)) [(Stmt.If (Expr.Compare (Expr.Attribute (Expr.Name (Str.ofString "bound") (Pos.mk 211 11 211 16)) (Str.ofString "kind") (Pos.mk 211 11 211 21)) [CmpOp.Eq] [(Expr.Constant (Const.str (Str.ofString "missing")) 0 (Pos.mk 211 25 211 34))] (Pos.mk 211 11 211 34)) [(Stmt.Return (some (Expr.Constant (Const.bool Bool.true) 0 (Pos.mk 212 19 212 23))) (Pos.mk 212 12 212 23))] [] (Pos.mk 211 8 212 23)), (Stmt.If (Expr.Compare (Expr.Attribute (Expr.Name (Str.ofString "bound") (Pos.mk 213 11 213 16)) (Str.ofString "kind") (Pos.mk 213 11 213 21)) [CmpOp.Eq] [(Expr.Constant (Const.str (Str.ofString "dots")) 0 (Pos.mk 213 25 213 31))] (Pos.mk 213 11 213 31)) [(Stmt.Return (some (Expr.Compare (Expr.Call (Expr.Name (Str.ofString "len") (Pos.mk 214 19 214 22)) [(Expr.Attribute (Expr.Name (Str.ofString "bound") (Pos.mk 214 23 214 28)) (Str.ofString "args") (Pos.mk 214 23 214 33))] [] (Pos.mk 214 19 214 34)) [CmpOp.Eq] [(Expr.Constant (Const.int 0) 0 (Pos.mk 214 38 214 39))] (Pos.mk 214 19 214 39))) (Pos.mk 214 12 214 39))] [] (Pos.mk 213 8 214 39)), (Stmt.If (Expr.Compare (Expr.Attribute (Expr.Name (Str.ofString "bound") (Pos.mk 215 11 215 16)) (Str.ofString "kind") (Pos.mk 215 11 215 21)) [CmpOp.NotEq] [(Expr.Constant (Const.str (Str.ofString "promise")) 0 (Pos.mk 215 25 215 34))] (Pos.mk 215 11 215 34)) [(Stmt.Return (some (Expr.Constant (Const.bool Bool.false) 0 (Pos.mk 216 19 216 24))) (Pos.mk 216 12 216 24))] [] (Pos.mk 215 8 216 24)), (Stmt.If (Expr.Call (Expr.Name (Str.ofString "is_default") (Pos.mk 217 11 217 21)) [(Expr.Name (Str.ofString "bound") (Pos.mk 217 22 217 27)), (Expr.Name (Str.ofString "env") (Pos.mk 217 29 217 32))] [] (Pos.mk 217 11 217 33)) [(Stmt.Return (some (Expr.Constant (Const.bool Bool.true) 0 (Pos.mk 218 19 218 23))) (Pos.mk 218 12 218 23))] [] (Pos.mk 217 8 218 23)), (Stmt.If (Expr.BoolOp BoolOp.Or [(Expr.Compare (Expr.Attribute (Expr.Attribute (Expr.Name (Str.ofString "bound") (Pos.mk 219 11 219 16)) (Str.ofString "expr") (Pos.mk 219 11 219 21)) (Str.ofString "kind") (Pos.mk 219 11 219 26)) [CmpOp.NotEq] [(Expr.Constant (Const.str (Str.ofString "symbol")) 0 (Pos.mk 219 30 219 38))] (Pos.mk 219 11 219 38)), (Expr.Compare (Expr.Attribute (Expr.Name (Str.ofString "bound") (Pos.mk 219 42 219 47)) (Str.ofString "env") (Pos.mk 219 42 219 51)) [CmpOp.Is] [(Expr.Constant Const.none 0 (Pos.mk 219 55 219 59))] (Pos.mk 219 42 219 59))] (Pos.mk 219 11 219 59)) [(Stmt.Return (some (Expr.Constant (Const.bool Bool.false) 0 (Pos.mk 220 19 220 24))) (Pos.mk 220 12 220 24))] [] (Pos.mk 219 8 220 24)), (Stmt.Assign [(Expr.Name (Str.ofString "env") (Pos.mk 221 8 221 11))] (Expr.Attribute (Expr.Name (Str.ofString "bound") (Pos.mk 221 14 221 19)) (Str.ofString "env") (Pos.mk 221 14 221 23)) (Pos.mk 221 8 221 23)), (Stmt.Assign [(Expr.Name (Str.ofString "name") (Pos.mk 222 8 222 12))] (Expr.Attribute (Expr.Attribute (Expr.Name (Str.ofString "bound") (Pos.mk 222 15 222 20)) (Str.ofString "expr") (Pos.mk 222 15 222 25)) (Str.ofString "name") (Pos.mk 222 15 222 30)) (Pos.mk 222 8 222 30)), (Stmt.If (Expr.Compare (Expr.Tuple [(Expr.Attribute (Expr.Name (Str.ofString "env") (Pos.mk 223 12 223 15)) (Str.ofString "number") (Pos.mk 223 12 223 22)), (Expr.Name (Str.ofString "name") (Pos.mk 223 24 223 28))] 0 (Pos.mk 223 11 223 29)) [CmpOp.In] [(Expr.Name (Str.ofString "seen") (Pos.mk 223 33 223 37))] (Pos.mk 223 11 223 37)) [(Stmt.Return (some (Expr.Constant (Const.bool Bool.true) 0 (Pos.mk 224 19 224 23))) (Pos.mk 224 12 224 23))] [] (Pos.mk 223 8 224 23)), (Stmt.Assign [(Expr.Subscript (Expr.Name (Str.ofString "seen") (Pos.mk 225 8 225 12)) (Expr.Tuple [(Expr.Attribute (Expr.Name (Str.ofString "env") (Pos.mk 225 13 225 16)) (Str.ofString "number") (Pos.mk 225 13 225 23)), (Expr.Name (Str.ofString "name") (Pos.mk 225 25 225 29))] 0 (Pos.mk 225 13 225 29)) (Pos.mk 225 8 225 30))] (Expr.Constant (Const.bool Bool.true) 0 (Pos.mk 225 33 225 37)) (Pos.mk 225 8 225 37)), (Stmt.Assign [(Expr.Name (Str.ofString "bound") (Pos.mk 226 8 226 13))] (Expr.Call (Expr.Name (Str.ofString "lookup_here") (Pos.mk 226 16 226 27)) [(Expr.Name (Str.ofString "env") (Pos.mk 226 28 226 31)), (Expr.Name (Str.ofString "name") (Pos.mk 226 33 226 37))] [] (Pos.mk 226 16 226 38)) (Pos.mk 226 8 226 38)), (Stmt.If (Expr.Compare (Expr.Name (Str.ofString "bound") (Pos.mk 227 11 227 16)) [CmpOp.Is] [(Expr.Constant Const.none 0 (Pos.mk 227 20 227 24))] (Pos.mk 227 11 227 24)) [(Stmt.Return (some (Expr.Constant (Const.bool Bool.false) 0 (Pos.mk 228 19 228 24))) (Pos.mk 228 12 228 24))] [] (Pos.mk 227 8 228 24))] [] (Pos.mk 210 4 228 24))]) (Scope.mk ScopeKind.function [((Str.ofString "interp"), NameKind.local), ((Str.ofString "name"), NameKind.local), ((Str.ofString "env"), NameKind.local), ((Str.ofString "bound"), NameKind.local), ((Str.ofString "seen"), NameKind.local), ((Str.ofString "lookup_here"), NameKind.globalImplicit), ((Str.ofString "is_dots_place"), NameKind.globalImplicit), ((Str.ofString "Refusal"), NameKind.globalImplicit), ((Str.ofString "int"), NameKind.globalImplicit), ((Str.ofString "len"), NameKind.globalImplicit), ((Str.ofString "is_default"), NameKind.globalImplicit)] Bool.false Bool.false []) 3 [] Value.none Value.none Value.none (Value.str (Str.ofString "vectorcove.funcall") 673) (@none Nat) (Value.ref 406) Value.none 0)) #[])) ::
 ((nat_lit 408), (Obj.mk (Value.type "tuple") (@none Nat) (Data.seq #[] 0) #[])) ::
 ((nat_lit 410), (Obj.mk (Value.type "tuple") (@none Nat) (Data.seq #[(Value.str (Str.ofString "name") 737), (Value.str (Str.ofString "char") 738)] 0) #[])) ::
 ((nat_lit 411), (Obj.mk (Value.type "tuple") (@none Nat) (Data.seq #[] 0) #[])) ::
 ((nat_lit 413), (Obj.mk (Value.type "code") (@none Nat) (Data.fields #[(Value.str (Str.ofString "is_dots_place") 734), (Value.str (Str.ofString "is_dots_place") 735), (Value.str (Str.ofString "/claim/cut.py") 736), (Value.int 229 0), (Value.int 1 0), (Value.int 0 0), (Value.int 0 0), (Value.int 3 0), (Value.ref 408), (Value.bool Bool.true), (Value.int 181 0), (Value.ref 409), Value.none, (Value.ref 410), (Value.ref 411), (Value.ref 412), (Value.int 739 0), (Value.int 229 0), (Value.str (Str.ofString "/claim/cut.py") 740)]) #[])) ::
 ((nat_lit 414), (Obj.mk (Value.type "function") (@none Nat) (Data.func (FuncData.mk (Str.ofString "is_dots_place") (Str.ofString "is_dots_place") (Arguments.mk [] [(Arg.mk (Str.ofString "name") none (Pos.mk 229 18 229 22))] none [] [] none []) (FuncBody.stmts [(Stmt.If (Expr.BoolOp BoolOp.Or [(Expr.Compare (Expr.Call (Expr.Name (Str.ofString "len") (Pos.mk 230 7 230 10)) [(Expr.Name (Str.ofString "name") (Pos.mk 230 11 230 15))] [] (Pos.mk 230 7 230 16)) [CmpOp.Lt] [(Expr.Constant (Const.int 3) 0 (Pos.mk 230 19 230 20))] (Pos.mk 230 7 230 20)), (Expr.Compare (Expr.Call (Expr.Name (Str.ofString "len") (Pos.mk 230 24 230 27)) [(Expr.Name (Str.ofString "name") (Pos.mk 230 28 230 32))] [] (Pos.mk 230 24 230 33)) [CmpOp.Gt] [(Expr.Constant (Const.int 9) 0 (Pos.mk 230 36 230 37))] (Pos.mk 230 24 230 37)), (Expr.UnaryOp UnaryOp.Not (Expr.Call (Expr.Attribute (Expr.Name (Str.ofString "name") (Pos.mk 230 46 230 50)) (Str.ofString "startswith") (Pos.mk 230 46 230 61)) [(Expr.Constant (Const.str (Str.ofString "..")) 0 (Pos.mk 230 62 230 66))] [] (Pos.mk 230 46 230 67)) (Pos.mk 230 42 230 67))] (Pos.mk 230 7 230 68)) [(Stmt.Return (some (Expr.Constant (Const.bool Bool.false) 0 (Pos.mk 231 15 231 20))) (Pos.mk 231 8 231 20))] [] (Pos.mk 230 4 231 20)), (Stmt.For (Expr.Name (Str.ofString "char") (Pos.mk 232 8 232 12)) (Expr.Subscript (Expr.Name (Str.ofString "name") (Pos.mk 232 16 232 20)) (Expr.Slice (some (Expr.Constant (Const.int 2) 0 (Pos.mk 232 21 232 22))) none none (Pos.mk 232 21 232 23)) (Pos.mk 232 16 232 24)) [(Stmt.If (Expr.Compare (Expr.Name (Str.ofString "char") (Pos.mk 233 11 233 15)) [CmpOp.NotIn] [(Expr.Constant (Const.str (Str.ofString "0123456789")) 0 (Pos.mk 233 23 233 35))] (Pos.mk 233 11 233 35)) [(Stmt.Return (some (Expr.Constant (Const.bool Bool.false) 0 (Pos.mk 234 19 234 24))) (Pos.mk 234 12 234 24))] [] (Pos.mk 233 8 234 24))] [] (Pos.mk 232 4 234 24)), (Stmt.Return (some (Expr.Constant (Const.bool Bool.true) 0 (Pos.mk 235 11 235 15))) (Pos.mk 235 4 235 15))]) (Scope.mk ScopeKind.function [((Str.ofString "name"), NameKind.local), ((Str.ofString "char"), NameKind.local), ((Str.ofString "len"), NameKind.globalImplicit)] Bool.false Bool.false []) 3 [] Value.none Value.none Value.none (Value.str (Str.ofString "vectorcove.funcall") 673) (@none Nat) (Value.ref 413) Value.none 0)) #[])) ::
 ((nat_lit 415), (Obj.mk (Value.type "tuple") (@none Nat) (Data.seq #[] 0) #[])) ::
 ((nat_lit 417), (Obj.mk (Value.type "tuple") (@none Nat) (Data.seq #[(Value.str (Str.ofString "state") 747), (Value.str (Str.ofString "most") 748), (Value.str (Str.ofString "row") 749), (Value.str (Str.ofString "at") 750)] 0) #[])) ::
 ((nat_lit 418), (Obj.mk (Value.type "tuple") (@none Nat) (Data.seq #[] 0) #[])) ::
 ((nat_lit 420), (Obj.mk (Value.type "code") (@none Nat) (Data.fields #[(Value.str (Str.ofString "_law_take") 744), (Value.str (Str.ofString "_law_take") 745), (Value.str (Str.ofString "/claim/cut.py") 746), (Value.int 237 0), (Value.int 2 0), (Value.int 0 0), (Value.int 0 0), (Value.int 3 0), (Value.ref 415), (Value.bool Bool.true), (Value.int 181 0), (Value.ref 416), Value.none, (Value.ref 417), (Value.ref 418), (Value.ref 419), (Value.int 751 0), (Value.int 237 0), (Value.str (Str.ofString "/claim/cut.py") 752)]) #[])) ::
 ((nat_lit 421), (Obj.mk (Value.type "function") (@none Nat) (Data.func (FuncData.mk (Str.ofString "_law_take") (Str.ofString "_law_take") (Arguments.mk [] [(Arg.mk (Str.ofString "state") none (Pos.mk 237 14 237 19)), (Arg.mk (Str.ofString "most") none (Pos.mk 237 21 237 25))] none [] [] none []) (FuncBody.stmts [(Stmt.Assign [(Expr.Tuple [(Expr.Name (Str.ofString "row") (Pos.mk 238 4 238 7)), (Expr.Name (Str.ofString "at") (Pos.mk 238 9 238 11))] 0 (Pos.mk 238 4 238 11))] (Expr.Name (Str.ofString "state") (Pos.mk 238 14 238 19)) (Pos.mk 238 4 238 19)), (Stmt.Assign [(Expr.Subscript (Expr.Name (Str.ofString "state") (Pos.mk 239 4 239 9)) (Expr.Constant (Const.int 1) 0 (Pos.mk 239 10 239 11)) (Pos.mk 239 4 239 12))] (Expr.BinOp (Expr.Name (Str.ofString "at") (Pos.mk 239 15 239 17)) Operator.Add (Expr.Constant (Const.int 1) 0 (Pos.mk 239 20 239 21)) (Pos.mk 239 15 239 21)) (Pos.mk 239 4 239 21)), (Stmt.If (Expr.Compare (Expr.Name (Str.ofString "row") (Pos.mk 240 7 240 10)) [CmpOp.Eq] [(Expr.List [] (Pos.mk 240 14 240 16))] (Pos.mk 240 7 240 16)) [(Stmt.Return (some (Expr.Constant (Const.int 0) 0 (Pos.mk 241 15 241 16))) (Pos.mk 241 8 241 16))] [] (Pos.mk 240 4 241 16)), (Stmt.Return (some (Expr.BinOp (Expr.BinOp (Expr.Call (Expr.Name (Str.ofString "abs") (Pos.mk 242 11 242 14)) [(Expr.Subscript (Expr.Name (Str.ofString "row") (Pos.mk 242 15 242 18)) (Expr.BinOp (Expr.Name (Str.ofString "at") (Pos.mk 242 19 242 21)) Operator.Mod (Expr.Call (Expr.Name (Str.ofString "len") (Pos.mk 242 24 242 27)) [(Expr.Name (Str.ofString "row") (Pos.mk 242 28 242 31))] [] (Pos.mk 242 24 242 32)) (Pos.mk 242 19 242 32)) (Pos.mk 242 15 242 33))] [] (Pos.mk 242 11 242 34)) Operator.FloorDiv (Expr.BinOp (Expr.Constant (Const.int 7) 0 (Pos.mk 242 38 242 39)) Operator.Pow (Expr.BinOp (Expr.Name (Str.ofString "at") (Pos.mk 242 44 242 46)) Operator.FloorDiv (Expr.Call (Expr.Name (Str.ofString "len") (Pos.mk 242 50 242 53)) [(Expr.Name (Str.ofString "row") (Pos.mk 242 54 242 57))] [] (Pos.mk 242 50 242 58)) (Pos.mk 242 44 242 58)) (Pos.mk 242 38 242 59)) (Pos.mk 242 11 242 59)) Operator.Mod (Expr.Name (Str.ofString "most") (Pos.mk 242 62 242 66)) (Pos.mk 242 11 242 66))) (Pos.mk 242 4 242 66))]) (Scope.mk ScopeKind.function [((Str.ofString "state"), NameKind.local), ((Str.ofString "most"), NameKind.local), ((Str.ofString "row"), NameKind.local), ((Str.ofString "at"), NameKind.local), ((Str.ofString "abs"), NameKind.globalImplicit), ((Str.ofString "len"), NameKind.globalImplicit)] Bool.false Bool.false []) 3 [] Value.none Value.none Value.none (Value.str (Str.ofString "law_pq1403_01") 742) (@none Nat) (Value.ref 420) Value.none 0)) #[])) ::
 ((nat_lit 422), (Obj.mk (Value.type "tuple") (@none Nat) (Data.seq #[] 0) #[])) ::
 ((nat_lit 424), (Obj.mk (Value.type "tuple") (@none Nat) (Data.seq #[(Value.str (Str.ofString "plan_of") 757), (Value.str (Str.ofString "at") 758), (Value.str (Str.ofString "name") 759), (Value.str (Str.ofString "seen") 760), (Value.str (Str.ofString "kind") 761), (Value.str (Str.ofString "where") 762), (Value.str (Str.ofString "other") 763)] 0) #[])) ::
 ((nat_lit 425), (Obj.mk (Value.type "tuple") (@none Nat) (Data.seq #[] 0) #[])) ::
 ((nat_lit 427), (Obj.mk (Value.type "code") (@none Nat) (Data.fields #[(Value.str (Str.ofString "_law_due") 754), (Value.str (Str.ofString "_law_due") 755), (Value.str (Str.ofString "/claim/cut.py") 756), (Value.int 243 0), (Value.int 3 0), (Value.int 0 0), (Value.int 0 0), (Value.int 3 0), (Value.ref 422), (Value.bool Bool.true), (Value.int 181 0), (Value.ref 423), Value.none, (Value.ref 424), (Value.ref 425), (Value.ref 426), (Value.int 764 0), (Value.int 243 0), (Value.str (Str.ofString "/claim/cut.py") 765)]) #[])) ::
 ((nat_lit 428), (Obj.mk (Value.type "function") (@none Nat) (Data.func (FuncData.mk (Str.ofString "_law_due") (Str.ofString "_law_due") (Arguments.mk [] [(Arg.mk (Str.ofString "plan_of") none (Pos.mk 243 13 243 20)), (Arg.mk (Str.ofString "at") none (Pos.mk 243 22 243 24)), (Arg.mk (Str.ofString "name") none (Pos.mk 243 26 243 30))] none [] [] none []) (FuncBody.stmts [(Stmt.Assign [(Expr.Name (Str.ofString "seen") (Pos.mk 244 4 244 8))] (Expr.List [] (Pos.mk 244 11 244 13)) (Pos.mk 244 4 244 13)), (Stmt.While (Expr.Compare (Expr.Tuple [(Expr.Name (Str.ofString "at") (Pos.mk 245 11 245 13)), (Expr.Name (Str.ofString "name") (Pos.mk 245 15 245 19))] 0 (Pos.mk 245 10 245 20)) [CmpOp.NotIn] [(Expr.Name (Str.ofString "seen") (Pos.mk 245 28 245 32))] (Pos.mk 245 10 245 32)) [(Stmt.Expr (Expr.Call (Expr.Attribute (Expr.Name (Str.ofString "seen") (Pos.mk 246 8 246 12)) (Str.ofString "append") (Pos.mk 246 8 246 19)) [(Expr.Tuple [(Expr.Name (Str.ofString "at") (Pos.mk 246 21 246 23)), (Expr.Name (Str.ofString "name") (Pos.mk 246 25 246 29))] 0 (Pos.mk 246 20 246 30))] [] (Pos.mk 246 8 246 31)) (Pos.mk 246 8 246 31)), (Stmt.Assign [(Expr.Tuple [(Expr.Name (Str.ofString "kind") (Pos.mk 247 8 247 12)), (Expr.Name (Str.ofString "where") (Pos.mk 247 14 247 19)), (Expr.Name (Str.ofString "other") (Pos.mk 247 21 247 26))] 0 (Pos.mk 247 8 247 26))] (Expr.Call (Expr.Attribute (Expr.Name (Str.ofString "plan_of") (Pos.mk 247 29 247 36)) (Str.ofString "get") (Pos.mk 247 29 247 40)) [(Expr.Tuple [(Expr.Name (Str.ofString "at") (Pos.mk 247 42 247 44)), (Expr.Name (Str.ofString "name") (Pos.mk 247 46 247 50))] 0 (Pos.mk 247 41 247 51)), (Expr.Tuple [(Expr.Constant (Const.str (Str.ofString "none")) 0 (Pos.mk 247 54 247 60)), (Expr.Constant (Const.int 0) 0 (Pos.mk 247 62 247 63)), (Expr.Constant (Const.str (Str.ofString "")) 0 (Pos.mk 247 65 247 67))] 0 (Pos.mk 247 53 247 68))] [] (Pos.mk 247 29 247 69)) (Pos.mk 247 8 247 69)), (Stmt.If (Expr.Compare (Expr.Name (Str.ofString "kind") (Pos.mk 248 11 248 15)) [CmpOp.Eq] [(Expr.Constant (Const.str (Str.ofString "name")) 0 (Pos.mk 248 19 248 25))] (Pos.mk 248 11 248 25)) [(Stmt.Assign [(Expr.Name (Str.ofString "at") (Pos.mk 249 12 249 14))] (Expr.Name (Str.ofString "where") (Pos.mk 249 17 249 22)) (Pos.mk 249 12 249 22)), (Stmt.Assign [(Expr.Name (Str.ofString "name") (Pos.mk 250 12 250 16))] (Expr.Name (Str.ofString "other") (Pos.mk 250 19 250 24)) (Pos.mk 250 12 250 24))] [(Stmt.Return (some (Expr.Compare (Expr.Name (Str.ofString "kind") (Pos.mk 252 19 252 23)) [CmpOp.In] [(Expr.List [(Expr.Constant (Const.str (Str.ofString "empty")) 0 (Pos.mk 252 28 252 35)), (Expr.Constant (Const.str (Str.ofString "default")) 0 (Pos.mk 252 37 252 46))] (Pos.mk 252 27 252 47))] (Pos.mk 252 19 252 47))) (Pos.mk 252 12 252 47))] (Pos.mk 248 8 252 47))] [] (Pos.mk 245 4 252 47)), (Stmt.Return (some (Expr.Constant (Const.bool Bool.true) 0 (Pos.mk 253 11 253 15))) (Pos.mk 253 4 253 15))]) (Scope.mk ScopeKind.function [((Str.ofString "plan_of"), NameKind.local), ((Str.ofString "at"), NameKind.local), ((Str.ofString "name"), NameKind.local), ((Str.ofString "seen"), NameKind.local), ((Str.ofString "kind"), NameKind.local), ((Str.ofString "where"), NameKind.local), ((Str.ofString "other"), NameKind.local)] Bool.false Bool.false []) 3 [] Value.none Value.none Value.none (Value.str (Str.ofString "law_pq1403_01") 742) (@none Nat) (Value.ref 427) Value.none 0)) #[])) ::
 ((nat_lit 429), (Obj.mk (Value.type "tuple") (@none Nat) (Data.seq #[] 0) #[])) ::
 ((nat_lit 432), (Obj.mk (Value.type "code") (@none Nat) (Data.fields #[(Value.str (Str.ofString "law") 767), (Value.str (Str.ofString "law") 768), (Value.str (Str.ofString "/claim/cut.py") 769), (Value.int 254 0), (Value.int 1 0), (Value.int 0 0), (Value.int 0 0), (Value.int 3 0), (Value.ref 429), (Value.bool Bool.true), (Value.int 181 0), (Value.ref 430), Value.none, Value.none, Value.none, (Value.ref 431), (Value.int 770 0), (Value.int 254 0), (Value.str (Str.ofString "/claim/cut.py") 771)]) #[])) ::
 ((nat_lit 433), (Obj.mk (Value.type "function") (@none Nat) (Data.func (FuncData.mk (Str.ofString "law") (Str.ofString "law") (Arguments.mk [] [(Arg.mk (Str.ofString "script") none (Pos.mk 254 8 254 14))] none [] [] none []) (FuncBody.stmts [(Stmt.Assign [(Expr.Name (Str.ofString "state") (Pos.mk 255 4 255 9))] (Expr.List [(Expr.Subscript (Expr.Name (Str.ofString "script") (Pos.mk 255 13 255 19)) (Expr.Slice none (some (Expr.Constant (Const.int 40) 0 (Pos.mk 255 21 255 23))) none (Pos.mk 255 20 255 23)) (Pos.mk 255 13 255 24)), (Expr.Constant (Const.int 0) 0 (Pos.mk 255 26 255 27))] (Pos.mk 255 12 255 28)) (Pos.mk 255 4 255 28)), (Stmt.Assign [(Expr.Name (Str.ofString "count") (Pos.mk 256 4 256 9))] (Expr.BinOp (Expr.Constant (Const.int 1) 0 (Pos.mk 256 12 256 13)) Operator.Add (Expr.Call (Expr.Name (Str.ofString "_law_take") (Pos.mk 256 16 256 25)) [(Expr.Name (Str.ofString "state") (Pos.mk 256 26 256 31)), (Expr.Constant (Const.int 4) 0 (Pos.mk 256 33 256 34))] [] (Pos.mk 256 16 256 35)) (Pos.mk 256 12 256 35)) (Pos.mk 256 4 256 35)), (Stmt.Assign [(Expr.Name (Str.ofString "rows") (Pos.mk 257 4 257 8))] (Expr.ListComp (Expr.Call (Expr.Name (Str.ofString "Environment") (Pos.mk 257 12 257 23)) [(Expr.Name (Str.ofString "at") (Pos.mk 257 24 257 26)), (Expr.Constant Const.none 0 (Pos.mk 257 28 257 32))] [] (Pos.mk 257 12 257 33)) [(Comprehension.mk (Expr.Name (Str.ofString "at") (Pos.mk 257 38 257 40)) (Expr.Call (Expr.Name (Str.ofString "range") (Pos.mk 257 44 257 49)) [(Expr.Name (Str.ofString "count") (Pos.mk 257 50 257 55))] [] (Pos.mk 257 44 257 56)) [] 0)] (Scope.mk ScopeKind.function [((Str.ofString ".0"), NameKind.local), ((Str.ofString "at"), NameKind.local), ((Str.ofString "Environment"), NameKind.globalImplicit)] Bool.false Bool.false []) (Pos.mk 257 11 257 57)) (Pos.mk 257 4 257 57)), (Stmt.Assign [(Expr.Name (Str.ofString "plan_of") (Pos.mk 258 4 258 11))] (Expr.Dict [] [] (Pos.mk 258 14 258 16)) (Pos.mk 258 4 258 16)), (Stmt.For (Expr.Name (Str.ofString "at") (Pos.mk 259 8 259 10)) (Expr.Call (Expr.Name (Str.ofString "range") (Pos.mk 259 14 259 19)) [(Expr.Name (Str.ofString "count") (Pos.mk 259 20 259 25))] [] (Pos.mk 259 14 259 26)) [(Stmt.For (Expr.Name (Str.ofString "name") (Pos.mk 260 12 260 16)) (Expr.Constant (Const.str (Str.ofString "abcd")) 0 (Pos.mk 260 20 260 26)) [(Stmt.Assign [(Expr.Name (Str.ofString "kind") (Pos.mk 261 12 261 16))] (Expr.Call (Expr.Name (Str.ofString "_law_take") (Pos.mk 261 19 261 28)) [(Expr.Name (Str.ofString "state") (Pos.mk 261 29 261 34)), (Expr.Constant (Const.int 6) 0 (Pos.mk 261 36 261 37))] [] (Pos.mk 261 19 261 38)) (Pos.mk 261 12 261 38)), (Stmt.Assign [(Expr.Name (Str.ofString "where") (Pos.mk 262 12 262 17))] (Expr.Call (Expr.Name (Str.ofString "_law_take") (Pos.mk 262 20 262 29)) [(Expr.Name (Str.ofString "state") (Pos.mk 262 30 262 35)), (Expr.Name (Str.ofString "count") (Pos.mk 262 37 262 42))] [] (Pos.mk 262 20 262 43)) (Pos.mk 262 12 262 43)), (Stmt.Assign [(Expr.Name (Str.ofString "other") (Pos.mk 263 12 263 17))] (Expr.Subscript (Expr.Constant (Const.str (Str.ofString "abcde")) 0 (Pos.mk 263 20 263 27)) (Expr.Call (Expr.Name (Str.ofString "_law_take") (Pos.mk 263 28 263 37)) [(Expr.Name (Str.ofString "state") (Pos.mk 263 38 263 43)), (Expr.Constant (Const.int 5) 0 (Pos.mk 263 45 263 46))] [] (Pos.mk 263 28 263 47)) (Pos.mk 263 20 263 48)) (Pos.mk 263 12 263 48)), (Stmt.If (Expr.Compare (Expr.Name (Str.ofString "kind") (Pos.mk 264 15 264 19)) [CmpOp.Eq] [(Expr.Constant (Const.int 0) 0 (Pos.mk 264 23 264 24))] (Pos.mk 264 15 264 24)) [(Stmt.Assign [(Expr.Subscript (Expr.Attribute (Expr.Subscript (Expr.Name (Str.ofString "rows") (Pos.mk 265 16 265 20)) (Expr.Name (Str.ofString "at") (Pos.mk 265 21 265 23)) (Pos.mk 265 16 265 24)) (Str.ofString "frame") (Pos.mk 265 16 265 30)) (Expr.Name (Str.ofString "name") (Pos.mk 265 31 265 35)) (Pos.mk 265 16 265 36))] (Expr.Call (Expr.Name (Str.ofString "missing") (Pos.mk 265 39 265 46)) [] [] (Pos.mk 265 39 265 48)) (Pos.mk 265 16 265 48)), (Stmt.Assign [(Expr.Subscript (Expr.Name (Str.ofString "plan_of") (Pos.mk 266 16 266 23)) (Expr.Tuple [(Expr.Name (Str.ofString "at") (Pos.mk 266 24 266 26)), (Expr.Name (Str.ofString "name") (Pos.mk 266 28 266 32))] 0 (Pos.mk 266 24 266 32)) (Pos.mk 266 16 266 33))] (Expr.Tuple [(Expr.Constant (Const.str (Str.ofString "empty")) 0 (Pos.mk 266 37 266 44)), (Expr.Constant (Const.int 0) 0 (Pos.mk 266 46 266 47)), (Expr.Constant (Const.str (Str.ofString "")) 0 (Pos.mk 266 49 266 51))] 0 (Pos.mk 266 36 266 52)) (Pos.mk 266 16 266 52))] [(Stmt.If (Expr.Compare (Expr.Name (Str.ofString "kind") (Pos.mk 267 17 267 21)) [CmpOp.Eq] [(Expr.Constant (Const.int 1) 0 (Pos.mk 267 25 267 26))] (Pos.mk 267 17 267 26)) [(Stmt.Assign [(Expr.Subscript (Expr.Attribute (Expr.Subscript (Expr.Name (Str.ofString "rows") (Pos.mk 268 16 268 20)) (Expr.Name (Str.ofString "at") (Pos.mk 268 21 268 23)) (Pos.mk 268 16 268 24)) (Str.ofString "frame") (Pos.mk 268 16 268 30)) (Expr.Name (Str.ofString "name") (Pos.mk 268 31 268 35)) (Pos.mk 268 16 268 36))] (Expr.Call (Expr.Name (Str.ofString "whole") (Pos.mk 268 39 268 44)) [(Expr.Constant (Const.int 3) 0 (Pos.mk 268 45 268 46))] [] (Pos.mk 268 39 268 47)) (Pos.mk 268 16 268 47)), (Stmt.Assign [(Expr.Subscript (Expr.Name (Str.ofString "plan_of") (Pos.mk 269 16 269 23)) (Expr.Tuple [(Expr.Name (Str.ofString "at") (Pos.mk 269 24 269 26)), (Expr.Name (Str.ofString "name") (Pos.mk 269 28 269 32))] 0 (Pos.mk 269 24 269 32)) (Pos.mk 269 16 269 33))] (Expr.Tuple [(Expr.Constant (Const.str (Str.ofString "number")) 0 (Pos.mk 269 37 269 45)), (Expr.Constant (Const.int 0) 0 (Pos.mk 269 47 269 48)), (Expr.Constant (Const.str (Str.ofString "")) 0 (Pos.mk 269 50 269 52))] 0 (Pos.mk 269 36 269 53)) (Pos.mk 269 16 269 53))] [(Stmt.If (Expr.Compare (Expr.Name (Str.ofString "kind") (Pos.mk 270 17 270 21)) [CmpOp.Eq] [(Expr.Constant (Const.int 2) 0 (Pos.mk 270 25 270 26))] (Pos.mk 270 17 270 26)) [(Stmt.Assign [(Expr.Subscript (Expr.Attribute (Expr.Subscript (Expr.Name (Str.ofString "rows") (Pos.mk 271 16 271 20)) (Expr.Name (Str.ofString "at") (Pos.mk 271 21 271 23)) (Pos.mk 271 16 271 24)) (Str.ofString "frame") (Pos.mk 271 16 271 30)) (Expr.Name (Str.ofString "name") (Pos.mk 271 31 271 35)) (Pos.mk 271 16 271 36))] (Expr.Call (Expr.Name (Str.ofString "Promise") (Pos.mk 271 39 271 46)) [(Expr.Call (Expr.Name (Str.ofString "whole") (Pos.mk 271 47 271 52)) [(Expr.Constant (Const.int 3) 0 (Pos.mk 271 53 271 54))] [] (Pos.mk 271 47 271 55)), (Expr.Subscript (Expr.Name (Str.ofString "rows") (Pos.mk 271 57 271 61)) (Expr.Name (Str.ofString "at") (Pos.mk 271 62 271 64)) (Pos.mk 271 57 271 65))] [] (Pos.mk 271 39 271 66)) (Pos.mk 271 16 271 66)), (Stmt.Assign [(Expr.Subscript (Expr.Name (Str.ofString "plan_of") (Pos.mk 272 16 272 23)) (Expr.Tuple [(Expr.Name (Str.ofString "at") (Pos.mk 272 24 272 26)), (Expr.Name (Str.ofString "name") (Pos.mk 272 28 272 32))] 0 (Pos.mk 272 24 272 32)) (Pos.mk 272 16 272 33))] (Expr.Tuple [(Expr.Constant (Const.str (Str.ofString "number")) 0 (Pos.mk 272 37 272 45)), (Expr.Constant (Const.int 0) 0 (Pos.mk 272 47 272 48)), (Expr.Constant (Const.str (Str.ofString "")) 0 (Pos.mk 272 50 272 52))] 0 (Pos.mk 272 36 272 53)) (Pos.mk 272 16 272 53))] [(Stmt.If (Expr.Compare (Expr.Name (Str.ofString "kind") (Pos.mk 273 17 273 21)) [CmpOp.Lt] [(Expr.Constant (Const.int 5) 0 (Pos.mk 273 24 273 25))] (Pos.mk 273 17 273 25)) [(Stmt.Assign [(Expr.Subscript (Expr.Attribute (Expr.Subscript (Expr.Name (Str.ofString "rows") (Pos.mk 274 16 274 20)) (Expr.Name (Str.ofString "at") (Pos.mk 274 21 274 23)) (Pos.mk 274 16 274 24)) (Str.ofString "frame") (Pos.mk 274 16 274 30)) (Expr.Name (Str.ofString "name") (Pos.mk 274 31 274 35)) (Pos.mk 274 16 274 36))] (Expr.Call (Expr.Name (Str.ofString "Promise") (Pos.mk 274 39 274 46)) [(Expr.Call (Expr.Name (Str.ofString "symbol") (Pos.mk 274 47 274 53)) [(Expr.Name (Str.ofString "other") (Pos.mk 274 54 274 59))] [] (Pos.mk 274 47 274 60)), (Expr.Subscript (Expr.Name (Str.ofString "rows") (Pos.mk 274 62 274 66)) (Expr.Name (Str.ofString "where") (Pos.mk 274 67 274 72)) (Pos.mk 274 62 274 73))] [] (Pos.mk 274 39 274 74)) (Pos.mk 274 16 274 74)), (Stmt.Assign [(Expr.Subscript (Expr.Name (Str.ofString "plan_of") (Pos.mk 275 16 275 23)) (Expr.Tuple [(Expr.Name (Str.ofString "at") (Pos.mk 275 24 275 26)), (Expr.Name (Str.ofString "name") (Pos.mk 275 28 275 32))] 0 (Pos.mk 275 24 275 32)) (Pos.mk 275 16 275 33))] (Expr.Tuple [(Expr.Constant (Const.str (Str.ofString "name")) 0 (Pos.mk 275 37 275 43)), (Expr.Name (Str.ofString "where") (Pos.mk 275 45 275 50)), (Expr.Name (Str.ofString "other") (Pos.mk 275 52 275 57))] 0 (Pos.mk 275 36 275 58)) (Pos.mk 275 16 275 58))] [(Stmt.Expr (Expr.Call (Expr.Name (Str.ofString "bind_formals") (Pos.mk 277 16 277 28)) [(Expr.Call (Expr.Name (Str.ofString "Closure") (Pos.mk 277 29 277 36)) [(Expr.List [(Expr.Tuple [(Expr.Name (Str.ofString "name") (Pos.mk 277 39 277 43)), (Expr.Call (Expr.Name (Str.ofString "symbol") (Pos.mk 277 45 277 51)) [(Expr.Name (Str.ofString "other") (Pos.mk 277 52 277 57))] [] (Pos.mk 277 45 277 58))] 0 (Pos.mk 277 38 277 59))] (Pos.mk 277 37 277 60)), (Expr.Call (Expr.Name (Str.ofString "null") (Pos.mk 277 62 277 66)) [] [] (Pos.mk 277 62 277 68)), (Expr.Subscript (Expr.Name (Str.ofString "rows") (Pos.mk 277 70 277 74)) (Expr.Name (Str.ofString "at") (Pos.mk 277 75 277 77)) (Pos.mk 277 70 277 78))] [] (Pos.mk 277 29 277 79)), (Expr.List [] (Pos.mk 277 81 277 83)), (Expr.Subscript (Expr.Name (Str.ofString "rows") (Pos.mk 277 85 277 89)) (Expr.Name (Str.ofString "at") (Pos.mk 277 90 277 92)) (Pos.mk 277 85 277 93))] [] (Pos.mk 277 16 277 94)) (Pos.mk 277 16 277 94)), (Stmt.Assign [(Expr.Subscript (Expr.Name (Str.ofString "plan_of") (Pos.mk 278 16 278 23)) (Expr.Tuple [(Expr.Name (Str.ofString "at") (Pos.mk 278 24 278 26)), (Expr.Name (Str.ofString "name") (Pos.mk 278 28 278 32))] 0 (Pos.mk 278 24 278 32)) (Pos.mk 278 16 278 33))] (Expr.Tuple [(Expr.Constant (Const.str (Str.ofString "default")) 0 (Pos.mk 278 37 278 46)), (Expr.Constant (Const.int 0) 0 (Pos.mk 278 48 278 49)), (Expr.Constant (Const.str (Str.ofString "")) 0 (Pos.mk 278 51 278 53))] 0 (Pos.mk 278 36 278 54)) (Pos.mk 278 16 278 54))] (Pos.mk 273 12 278 54))] (Pos.mk 270 12 278 54))] (Pos.mk 267 12 278 54))] (Pos.mk 264 12 278 54))] [] (Pos.mk 260 8 278 54))] [] (Pos.mk 259 4 278 54)), (Stmt.For (Expr.Name (Str.ofString "at") (Pos.mk 279 8 279 10)) (Expr.Call (Expr.Name (Str.ofString "range") (Pos.mk 279 14 279 19)) [(Expr.Name (Str.ofString "count") (Pos.mk 279 20 279 25))] [] (Pos.mk 279 14 279 26)) [(Stmt.For (Expr.Name (Str.ofString "name") (Pos.mk 280 12 280 16)) (Expr.Constant (Const.str (Str.ofString "abcde")) 0 (Pos.mk 280 20 280 27)) [(Stmt.Try [(Stmt.Assign [(Expr.Name (Str.ofString "told") (Pos.mk 282 16 282 20))] (Expr.Call (Expr.Name (Str.ofString "missing_argument") (Pos.mk 282 23 282 39)) [(Expr.Constant Const.none 0 (Pos.mk 282 40 282 44)), (Expr.Name (Str.ofString "name") (Pos.mk 282 46 282 50)), (Expr.Subscript (Expr.Name (Str.ofString "rows") (Pos.mk 282 52 282 56)) (Expr.Name (Str.ofString "at") (Pos.mk 282 57 282 59)) (Pos.mk 282 52 282 60))] [] (Pos.mk 282 23 282 61)) (Pos.mk 282 16 282 61))] [(ExceptHandler.ExceptHandler (some (Expr.Name (Str.ofString "Refusal") (Pos.mk 283 19 283 26))) (some (Str.ofString "refusal")) [(Stmt.Assign [(Expr.Name (Str.ofString "told") (Pos.mk 284 16 284 20))] (Expr.Attribute (Expr.Name (Str.ofString "refusal") (Pos.mk 284 23 284 30)) (Str.ofString "message") (Pos.mk 284 23 284 38)) (Pos.mk 284 16 284 38))] (Pos.mk 283 12 284 38))] [] [] (Pos.mk 281 12 284 38)), (Stmt.Assign [(Expr.Name (Str.ofString "due") (Pos.mk 285 12 285 15))] (Expr.IfExp (Expr.Compare (Expr.Name (Str.ofString "name") (Pos.mk 285 64 285 68)) [CmpOp.Eq] [(Expr.Constant (Const.str (Str.ofString "e")) 0 (Pos.mk 285 72 285 75))] (Pos.mk 285 64 285 75)) (Expr.Constant (Const.str (Str.ofString "'missing' can only be used for arguments")) 0 (Pos.mk 285 18 285 60)) (Expr.Call (Expr.Name (Str.ofString "_law_due") (Pos.mk 285 81 285 89)) [(Expr.Name (Str.ofString "plan_of") (Pos.mk 285 90 285 97)), (Expr.Name (Str.ofString "at") (Pos.mk 285 99 285 101)), (Expr.Name (Str.ofString "name") (Pos.mk 285 103 285 107))] [] (Pos.mk 285 81 285 108)) (Pos.mk 285 18 285 108)) (Pos.mk 285 12 285 108)), (Stmt.If (Expr.Compare (Expr.Name (Str.ofString "told") (Pos.mk 286 15 286 19)) [CmpOp.NotEq] [(Expr.Name (Str.ofString "due") (Pos.mk 286 23 286 26))] (Pos.mk 286 15 286 26)) [(Stmt.Return (some (Expr.Constant (Const.bool Bool.false) 0 (Pos.mk 287 23 287 28))) (Pos.mk 287 16 287 28))] [] (Pos.mk 286 12 287 28))] [] (Pos.mk 280 8 287 28))] [] (Pos.mk 279 4 287 28)), (Stmt.Return (some (Expr.Constant (Const.bool Bool.true) 0 (Pos.mk 288 11 288 15))) (Pos.mk 288 4 288 15))]) (Scope.mk ScopeKind.function [((Str.ofString "script"), NameKind.local), ((Str.ofString "state"), NameKind.local), ((Str.ofString "count"), NameKind.local), ((Str.ofString "at"), NameKind.local), ((Str.ofString "rows"), NameKind.local), ((Str.ofString "plan_of"), NameKind.local), ((Str.ofString "name"), NameKind.local), ((Str.ofString "kind"), NameKind.local), ((Str.ofString "where"), NameKind.local), ((Str.ofString "other"), NameKind.local), ((Str.ofString "told"), NameKind.local), ((Str.ofString "refusal"), NameKind.local), ((Str.ofString "due"), NameKind.local), ((Str.ofString "_law_take"), NameKind.globalImplicit), ((Str.ofString "range"), NameKind.globalImplicit), ((Str.ofString "missing"), NameKind.globalImplicit), ((Str.ofString "whole"), NameKind.globalImplicit), ((Str.ofString "Promise"), NameKind.globalImplicit), ((Str.ofString "symbol"), NameKind.globalImplicit), ((Str.ofString "bind_formals"), NameKind.globalImplicit), ((Str.ofString "Closure"), NameKind.globalImplicit), ((Str.ofString "null"), NameKind.globalImplicit), ((Str.ofString "missing_argument"), NameKind.globalImplicit), ((Str.ofString "Refusal"), NameKind.globalImplicit), ((Str.ofString "_law_due"), NameKind.globalImplicit)] Bool.false Bool.false [((Str.ofString "fast"), (Const.str (Str.ofString "script"))), ((Str.ofString "fast"), (Const.str (Str.ofString "state"))), ((Str.ofString "fast"), (Const.str (Str.ofString "count"))), ((Str.ofString "fast"), (Const.str (Str.ofString "at"))), ((Str.ofString "fast"), (Const.str (Str.ofString "rows"))), ((Str.ofString "fast"), (Const.str (Str.ofString "plan_of"))), ((Str.ofString "fast"), (Const.str (Str.ofString "name"))), ((Str.ofString "fast"), (Const.str (Str.ofString "kind"))), ((Str.ofString "fast"), (Const.str (Str.ofString "where"))), ((Str.ofString "fast"), (Const.str (Str.ofString "other"))), ((Str.ofString "fast"), (Const.str (Str.ofString "told"))), ((Str.ofString "fast"), (Const.str (Str.ofString "refusal"))), ((Str.ofString "fast"), (Const.str (Str.ofString "due")))]) 3 [] Value.none Value.none Value.none (Value.str (Str.ofString "law_pq1403_01") 742) (@none Nat) (Value.ref 432) Value.none 0)) #[])) :: []
/-- this tells the walker what the fragment holds -/
theorem filled (w : World) : PySem.Challenge.rw_pq1403_01.Holds → hd.heap_39 w.params = hd.heap_39 w.params := by
  w_top off
  k_fill
  intro _
  rfl
theorem CompEnd_same {h₀ : Heap} {L I C D : Addr} {m : Str → Option Value} {s₁ : Shared} {oI oC oD : Obj} {S : List (Addr × Obj) → Prop} {rest : Value → List (Addr × Obj) → Prop} {y : Value} {h' : Heap} {tk : Nat} {news' : List (Addr × Obj)}
    (F : Fr h₀ L h' m) (N : News h₀ L h' ((I, oI) :: (C, oC) :: (D, oD) :: news')) (off : LCg.Off3 I C D news') (hS : S news') (r : rest y news') :
    LCg.CompEnd h₀ L m s₁ I oI C oC D oD S rest y { s₁ with heap := h', toks := tk } := .intro F N news' (fun _ hp => hp) off hS r
/-- r is l less its entry x -/
inductive Rem (x : Addr × Obj) : List (Addr × Obj) → List (Addr × Obj) → Prop
  | head {r} : Rem x (x :: r) r
  | tail {y l r} : Rem x l r → Rem x (y :: l) (y :: r)
theorem Rem.mem {x : Addr × Obj} : ∀ {l r : List (Addr × Obj)}, Rem x l r → ∀ p ∈ x :: r, p ∈ l
  | _, _, .head, p, hp => hp
  | _, _, .tail (y := y) h, p, hp => by
    rcases List.mem_cons.mp hp with rfl | hp
    · exact .tail _ (h.mem _ (.head _))
    · rcases List.mem_cons.mp hp with rfl | hp
      · exact .head _
      · exact .tail _ (h.mem _ (.tail _ hp))
theorem UnrEnd_keep {h₀ : Heap} {L I : Addr} {s₁ : Shared} {it : Obj} {J : (Str → Option Value) → List (Addr × Obj) → Prop} {h' : Heap} {tk : Nat} {m' : Str → Option Value} {l news' : List (Addr × Obj)}
    (F : Fr h₀ L h' m') (N : News h₀ L h' l) (R : Rem (I, it) l news') (off : ∀ p ∈ news', p.1 ≠ I) (hJ : J m' news') : UnrEnd h₀ L s₁ I it J { s₁ with heap := h', toks := tk } :=
  ⟨h', tk, m', news', rfl, F, fun p hp => N p (R.mem p hp), off, hJ⟩
section
variable {prog : Program} {w : World} {A : Around} {E : Value → Shared → Prop} {s : Shared} {h₀ : Heap} {L d : Addr} {news : List (Addr × Obj)} {o : Obj} {kvs : List (Str × Value)} {x : Str} {t : Tok}
theorem sd_in {Q : Value → Shared → Prop} (N : News h₀ L s.heap news) (hm : (d, o) ∈ news) (hd : o.IsDictOf (PySem.strKind prog w) kvs) (lo : (d == sysModules) = false) (h : Q (.bool (valueAt kvs x).isSome) { s with toks := s.toks + 1 }) :
    wpAny (model prog w) A (compareOp .In (.str x t) (.ref d)) Q E s := wpAny_in_of (strKind_is prog w x t) lo (kda_dict N hm hd).mapOf h
theorem sd_notin {Q : Value → Shared → Prop} (N : News h₀ L s.heap news) (hm : (d, o) ∈ news) (hd : o.IsDictOf (PySem.strKind prog w) kvs) (lo : (d == sysModules) = false) (h : Q (.bool (!(valueAt kvs x).isSome)) { s with toks := s.toks + 1 }) :
    wpAny (model prog w) A (compareOp .NotIn (.str x t) (.ref d)) Q E s := wpAny_notIn_of (strKind_is prog w x t) lo (kda_dict N hm hd).mapOf h
theorem off1_ne {D : Addr} : ∀ {l : List (Addr × Obj)}, LCg.Off1 D l → ∀ p ∈ l, p.1 ≠ D
  | [], _, _, hp => nomatch hp
  | q :: r, h, p, hp => by
    rcases List.mem_cons.mp hp with rfl | hp
    · exact h.1
    · exact off1_ne h.2 p hp
end
section
variable {prog : Program} {w : World} {A : Around} {E : Value → Shared → Prop} {Q : Flow → Shared → Prop} {s : Shared} {env : Env} {h₀ : Heap} {L : Addr}
/-- a while whose test is false when it is first asked -/
theorem while_never {test : Expr} {body : List Stmt} {pos : Pos} {m : Str → Option Value} {news : List (Addr × Obj)} (F : Fr h₀ L s.heap m) (N : News h₀ L s.heap news)
    (turn : ∀ h₁ tk₁, Fr h₀ L h₁ m → News h₀ L h₁ news → wpAny (model prog w) A (isTrue test env (eval test env)) (fun b s₂ => b = false ∧ Q .next s₂) E { s with heap := h₁, toks := tk₁ })
    (hE : PassesOwn (model prog w) A env E := by passes_own) :
    wpAny (model prog w) A (exec (.While test body [] pos) env) Q E s :=
  While_inv2 (fun _ m' n' => m' = m ∧ n' = news) (n₀ := 0) F N ⟨rfl, rfl⟩ (by
    rintro n m₁ news₁ h₁ tk₁ F₁ N₁ ⟨rfl, rfl⟩
    refine wpAny_mono (turn h₁ tk₁ F₁ N₁) (fun b s₂ hb => ?_) fun _ _ e => e
    rw [hb.1]
    exact hb.2) hE
end
section
variable {prog : Program} {w : World} {A : Around} {E : Value → Shared → Prop} {Q : Flow → Shared → Prop} {s : Shared} {env : Env} {h₀ : Heap} {target : Expr} {body : List Stmt}
/-- a for over a list of one item, whatever its target -/
theorem iter_one {ax : Addr} {lo : Obj} {v : Value} {n : Nat} {m₀ : Str → Option Value} {news : List (Addr × Obj)}
    (hh : A.handled = none) (F : Fr h₀ env.locals s.heap m₀) (N : News h₀ env.locals s.heap news) (hm : (ax, lo) ∈ news) (hc : lo.cls = .type "list") (hd : lo.data = .seq #[v] n)
    (turn : ∀ I it s₁, (∀ p ∈ news, p.1 < I) → Fr h₀ env.locals s₁.heap m₀ → News h₀ env.locals s₁.heap ((I, it) :: news) →
      wpAny (model prog w) A (assign target env v) (fun _ s₃ => wpAny (model prog w) A (execs body env) (fun f s₂ => f = .next ∧ UnrEnd h₀ env.locals s₁ I it
        (fun m' n' => (ax, lo) ∈ n' ∧ ∀ h tk, Fr h₀ env.locals h m' → News h₀ env.locals h n' → Q .next { s with heap := h, toks := tk }) s₂) E s₃) E s₁) :
    wpAny (model prog w) A (pyIter (.ref ax)) (fun it s₂ => LoopAtT prog w A h₀ env target body Q E it s₂) E s := by
  have hax := N _ hm
  have hl : s.heap.IsList ax #[v] := ⟨lo, hax.1, hc, n, hd⟩
  have hlt : ax < s.heap.objs.size := Heap.lt_size hax.1
  have hne : ax ≠ s.heap.objs.size := Nat.ne_of_lt hlt
  refine wpAny_pyIter_list hl ?_
  have W := Walks.list (prog := prog) (w := w) hh s.heap.objs.size ax hne #[v]
  have hnew := next_is_new F
  let J : Nat → (Str → Option Value) → List (Addr × Obj) → Prop := fun i m₁ news₁ => (ax, lo) ∈ news₁ ∧ ((i = 0 ∧ m₁ = m₀ ∧ news₁ = news) ∨ (i = 1 ∧ ∀ h tk, Fr h₀ env.locals h m₁ → News h₀ env.locals h news₁ → Q .next { s with heap := h, toks := tk }))
  refine ⟨_, _, _, 1, _, _, m₀, news, J, rfl, W, ?_, ?_, ?_, ⟨⟨_, Heap.get?_push_size _ rfl, rfl, rfl⟩, hl.at fun o e => Heap.get?_push_of_some _ e⟩, F.push _, (fun p hp => ⟨Heap.get?_push_of_some _ (N p hp).1, (N p hp).2⟩), ?_, ⟨hm, .inl ⟨rfl, rfl, rfl⟩⟩, ?_, ?_⟩
  · intro hmm
    rcases List.mem_cons.mp hmm with e | hmm
    · exact absurd F.ns.lt (e ▸ Nat.lt_irrefl _)
    · exact hax.2.1 (List.mem_singleton.mp hmm).symm
  · intro b hb
    rw [List.mem_singleton.mp hb]
    exact hnew
  · intro p hp hI
    exact absurd (Heap.lt_size (N p hp).1) ((List.mem_singleton.mp hI) ▸ Nat.lt_irrefl _)
  · intro i s' v' Q' st hq
    exact letGo_listiter st.1 hq
  · rintro i v' m₁ news₁ s₁ own hin hP ⟨hmem₁, hJ⟩ hoff hown hget hall hst F₁ N₁
    have hi0 : i = 0 := Nat.lt_one_iff.mp hin
    subst hi0
    rcases hJ with ⟨_, rfl, rfl⟩ | ⟨h1, _⟩
    · have hv : v' = v := by
        have hP' : (#[v] : Array Value)[0]? = some v' := hP
        exact (Option.some.inj hP').symm
      subst hv
      obtain ⟨it, hit, hic, hid⟩ := hst.1
      have hmemI := hall s.heap.objs.size (List.mem_cons_self ..) hnew _ hit
      have N₂ : News h₀ env.locals s₁.heap ((s.heap.objs.size, it) :: news₁) := fun p hp => by
        rcases List.mem_cons.mp hp with rfl | hp
        · exact N₁ _ (List.mem_append_left _ hmemI)
        · exact N₁ _ (List.mem_append_right _ hp)
      refine wpAny_mono (turn s.heap.objs.size it s₁ (fun p hp => Heap.lt_size (N p hp).1) F₁ N₂) (fun _ s₃ h₃ => wpAny_mono h₃ (fun f s₂ p => ?_) fun _ _ e => e) fun _ _ e => e
      obtain ⟨rfl, h', tk, m', news', e, F', N', ho, hmm, r⟩ := p
      refine ⟨rfl, h', tk, m', news', e, F', fun p hp => ?_, fun p hp hI => ho p hp (List.mem_singleton.mp hI), hmm, .inr ⟨rfl, r⟩⟩
      rcases List.mem_append.mp hp with hp | hp
      · have h2 : s₁.heap.get? p.1 = some p.2 := hget p hp
        rcases List.mem_cons.mp (hown p hp) with h1 | h1
        · have h3 : p = (s.heap.objs.size, it) := by
            rw [h1, hit] at h2
            exact Prod.ext h1 (Option.some.inj h2).symm
          rw [h3]; exact N' _ (List.mem_cons_self ..)
        · have h1' : p.1 = ax := List.mem_singleton.mp h1
          have h3 : p = (ax, lo) := by
            rw [h1', (N₁ _ (List.mem_append_right _ hmem₁)).1] at h2
            exact Prod.ext h1' (Option.some.inj h2).symm
          rw [h3]; exact N' _ (List.mem_cons_of_mem _ hmm)
      · exact N' _ (List.mem_cons_of_mem _ hp)
    · cases h1
  · rintro h' tk m' news' F' N' _ ⟨_, hJ⟩
    rcases hJ with ⟨h1, _⟩ | ⟨_, k⟩
    · cases h1
    · exact k h' tk F' N'
end
theorem AllLt.up {d e : Addr} (h : @LT.lt Nat _ d e) : ∀ {l : List (Addr × Obj)}, AllLt d l → AllLt e l
  | [], _ => trivial
  | _ :: _, q => ⟨Nat.lt_trans q.1 h, AllLt.up h q.2⟩
local macro_rules | `(tactic| k_room) => `(tactic| (refine Nat.lt_of_lt_of_le (m := 900) ?_ (by decide); (try simp only [depth_mark, depth_under_make, depth_under_kw, depth_in1, depth_deeper, depth_caller]); (try dsimp only [ktrTop]); omega))
local macro_rules | `(tactic| k_units) => `(tactic| (refine Nat.lt_of_lt_of_le (m := 900) ?_ (by decide); (try simp only [units_in1, units_deeper, Around.mark_units, units_caller]); (try dsimp only [ktrTop]); omega))
local macro_rules | `(tactic| lcg_sub) => `(tactic| (intro p hp; k_ownIn))
local macro_rules | `(tactic| k_all) => `(tactic| with_reducible assumption)
local macro_rules | `(tactic| units_room) => `(tactic| (refine Nat.lt_of_lt_of_le (m := 1000) ?_ (by decide); (try simp only [units_in1, units_deeper, Around.mark_units, units_caller]); (try dsimp only [ktrTop]); omega))
local macro_rules | `(tactic| is_list) => `(tactic| exact News.isList (by k_asm) (by k_mem))
local macro_rules | `(tactic| k_mem) => `(tactic| assumption)
local macro_rules | `(tactic| k_enter) => `(tactic| (refine' code_defC ?k1 ?k2 ?k3 ?k4 ?k5 ?kA ?kF ?kK ?k6 ?k7 ?k8 ?k9 ?kB ?kD ?_ ?c2 ?c3 ?c4; (case kA => exact rfl); (case kF => exact rfl); (case kK => first | assumption | exact rfl); (case k1 => k_asm); (case k2 => k_asm); (case k3 => k_asm); (case k4 => k_asm); (case k5 => k_asm); (case k6 => k_is); (case k7 => k_is); (case k8 => k_room); (case k9 => first | exact BindsTo.of_eq rfl | exact binds_K (by k_in) rfl (by k_is) rfl rfl rfl | fail "k_enter: no rule for these arguments"); (case kB => exact rfl); (case kD => decide +kernel); (case c2 => exact rfl); (case c3 => exact rfl); (case c4 => exact rfl); k_whole; intro g' L' h' tk' cells' FG' F' N' Y' B' X' T' l1; (try k_lt l1); k_cells Y'; (try simp only [List.cons_append, List.nil_append] at N'); (try dsimp only); (try k_lift B'); (try k_fold)))
local macro_rules | `(tactic| k_enter) => `(tactic| (refine' code_def ?k1 ?k2 ?k3 ?k4 ?k5 ?kA ?kF ?kK ?k6 ?k7 ?k8 ?k9 ?kB ?_ ?c2 ?c3 ?c4 ?c5; (case kA => exact rfl); (case kF => exact rfl); (case kK => first | assumption | exact rfl); (case k1 => k_asm); (case k2 => k_asm); (case k3 => k_asm); (case k4 => k_asm); (case k5 => k_asm); (case k6 => k_is); (case k7 => k_is); (case k8 => k_room); (case k9 => first | exact BindsTo.of_eq rfl | exact binds_K (by k_in) rfl (by k_is) rfl rfl rfl | fail "k_enter: no rule for these arguments"); (case c5 => decide); (case kB => exact locs rfl); (case c2 => exact rfl); (case c3 => exact rfl); (case c4 => exact rfl); k_whole; intro g' L' h' FG' F' N' B' X' T'; (try dsimp only); (try k_lift B'); (try k_fold)))
local macro_rules | `(tactic| walk_at "CompEnd") => `(tactic| (k_dflt (refine CompEnd_same (by k_asm) (by k_asm) (by assumption) (by lcg_src) ?_)))
local macro_rules | `(tactic| walk_at "pyIter ref") => `(tactic| ((with_reducible show wpAny _ _ (pyIter (Value.ref _)) (fun it s₂ => LoopAtV _ _ _ _ _ _ _ _ _ it s₂) _ _); (rename Fr _ _ _ _ => lF'); (with_unfolding_all refine iter_listUnr (by rfl) lF' (by k_asm) (by k_mem) (by rfl) (by rfl) ?_); clear lF'; intro i' l1; (try k_lt l1)))
local macro_rules | `(tactic| walk_at "UnrEnd") => `(tactic| (k_dflt (refine UnrEnd_keep (by k_asm) (by k_asm) (by repeat (first | exact Rem.head | apply Rem.tail)) (by k_all) ⟨by k_mem, ?_⟩)))
local macro_rules | `(tactic| walk_at "compareOp NotIn str ref") => `(tactic| (k_here; k_dflt (refine sd_notin (by k_asm) (by k_mem) (by k_asm) (by k_asm) ?_); dsimp only [valueAt, List.find?_nil, Option.map_none, Option.isSome_none, Bool.not_false]))
local macro_rules | `(tactic| walk_at "compareOp In str ref") => `(tactic| (k_here; k_dflt (refine sd_in (by k_asm) (by k_mem) (by k_asm) (by k_asm) ?_); dsimp only [valueAt, List.find?_nil, Option.map_none, Option.isSome_none, Bool.not_false]))
local macro_rules | `(tactic| walk_at "True") => `(tactic| exact True.intro)
local macro_rules | `(tactic| ktr_room) => `(tactic| ((try simp only [depth_mark, depth_under_make, depth_under_kw, depth_in1, depth_deeper, depth_caller]); (try dsimp only [ktrTop]); omega))
local macro_rules | `(tactic| ktr_units) => `(tactic| ((try simp only [units_in1, units_deeper, Around.mark_units, units_caller]); (try dsimp only [ktrTop]); omega))
local macro_rules | `(tactic| walk_at "exec For Tuple") => `(tactic| (k_here; (rename Fr _ _ _ _ => lF'); (with_unfolding_all refine For_invTF lF' ?_ ?hs); (case hs => (intro _; with_unfolding_all rfl))))
local macro_rules | `(tactic| walk_at "pyIter ref") => `(tactic| ((with_reducible show wpAny _ _ (pyIter (Value.ref _)) (fun it s₂ => LoopAtT _ _ _ _ _ _ _ _ _ it s₂) _ _); (rename Fr _ _ _ _ => lF'); (with_unfolding_all refine iter_one (by rfl) lF' (by k_asm) (by k_mem) (by rfl) (by rfl) ?_); clear lF'; intro i' it' s' l1 F' N'; (try k_lt l1)))
local macro_rules | `(tactic| walk_at "setItem ref str") => `(tactic| (k_here; k_dflt (refine' kda_set (knd := PySem.strKind _ _) ?F ?N ?U ?d (strKind_is _ _ _ _) ?z ?_; (case F => k_asm); (case N => k_asm); (case U => k_updF); (case d => k_asm); (case z => (rw [sizeLine_eq]; omega))); intro h' o' F' N' hd'; (try dsimp only at N')))
local macro_rules | `(tactic| walk_at "ite") => `(tactic| (first | with_reducible refine PySem.W.ite_neg (Bool.eq_false_iff.mp (by assumption)) ?_ | with_reducible refine PySem.W.ite_pos (by assumption) ?_ | with_reducible refine PySem.W.ite_neg (by decide +kernel) ?_ | with_reducible refine PySem.W.ite_pos (by decide +kernel) ?_))
section
theorem offA : True := by
  w_top off
  exact True.intro
theorem News.sub {h₀ h : Heap} {L : Addr} {l l' : List (Addr × Obj)} (N : News h₀ L h l) (k : ∀ p ∈ l', p ∈ l) : News h₀ L h l' := fun p hp => N p (k p hp)
section
variable {prog : Program} {w : World} {p : Program} {loose : List Str} {mean : ExcName → Option Value} {mg mb : Str → Option Value} {dp un : Nat} {gd : Option (List Code)} {cn : Str} {cs : Scope} {a : Addr} {ccd : Value} {cl : List (Str × Addr)} {outer : List Env} {A₀ : Around} {base h₀ : Heap} {L : Addr} {m : Str → Option Value} {news : List (Addr × Obj)} {s : Shared} {Q E : Value → Shared → Prop}

/-- an Environment's dict -/
abbrev envD (P : Params) (i : Int) (f l : Addr) (t0 t1 t2 t3 t4 t5 t6 t7 t8 : Tok) : Obj := dictOf [
  ⟨PyData.keyHash P (Str.ofString "kind"), .str (Str.ofString "kind") t0, .str (Str.ofString "environment") t1⟩,
  ⟨PyData.keyHash P (Str.ofString "number"), .str (Str.ofString "number") t2, .int i t3⟩,
  ⟨PyData.keyHash P (Str.ofString "parent"), .str (Str.ofString "parent") t4, .none⟩,
  ⟨PyData.keyHash P (Str.ofString "attrs"), .str (Str.ofString "attrs") t5, .none⟩,
  ⟨PyData.keyHash P (Str.ofString "frame"), .str (Str.ofString "frame") t6, .ref f⟩,
  ⟨PyData.keyHash P (Str.ofString "locked"), .str (Str.ofString "locked") t7, .bool false⟩,
  ⟨PyData.keyHash P (Str.ofString "locks"), .str (Str.ofString "locks") t8, .ref l⟩] 7

set_option maxHeartbeats 4000000 in
theorem env_ok {i : Int} {t : Tok} (B : Below A₀ base outer h₀) (F : Fr h₀ L s.heap m) (X : (hd.heap_39 w.params).In h₀) (N : News h₀ L s.heap news) (T : Top p loose mean mg mb h₀) (hk : cs.kind = .function)
    (hdp : dp < 500) (hun : un < 500)
    (hret : ∀ x d f l fo lo h' tk' t0 t1 t2 t3 t4 t5 t6 t7 t8, Fr h₀ L h' m → News h₀ L h' ((x, instObj 278 d) :: (d, envD w.params i f l t0 t1 t2 t3 t4 t5 t6 t7 t8) :: (f, fo) :: (l, lo) :: news) → fo.IsDictOf (PySem.strKind prog w) [] → (f == sysModules) = false →
      AllLt d news → @LT.lt Nat _ d x → @LT.lt Nat _ x f → @LT.lt Nat _ f l → Q (.ref x) { s with heap := h', toks := tk' }) :
    wpAny (model prog w) (ktrTop dp un gd cn cs L a ccd cl outer) (call (.ref 278) [.int i t, .none]) Q E s := by
  k_steps
  all_goals exact hret _ _ _ _ _ _ _ _ _ _ _ _ _ _ _ _ _ (by k_asm) (News.sub (by k_asm) (by lcg_sub)) (by k_asm) (by k_asm) (by first | k_asm | exact allLt_of (by assumption)) (by omega) (by omega) (by omega)
end

end

section
theorem offB : True := by
  w_top off
  exact True.intro
local macro_rules | `(tactic| walk_at "nothing at all") => `(tactic| fail)
abbrev misD (P : Params) (t0 t1 t2 : Tok) : Obj := dictOf [
  ⟨PyData.keyHash P (Str.ofString "kind"), .str (Str.ofString "kind") t0, .str (Str.ofString "missing") t1⟩,
  ⟨PyData.keyHash P (Str.ofString "attrs"), .str (Str.ofString "attrs") t2, .none⟩] 2

abbrev vecD (P : Params) (it : Addr) (t0 t1 t2 t3 t4 t5 : Tok) : Obj := dictOf [
  ⟨PyData.keyHash P (Str.ofString "kind"), .str (Str.ofString "kind") t0, .str (Str.ofString "integer") t1⟩,
  ⟨PyData.keyHash P (Str.ofString "items"), .str (Str.ofString "items") t2, .ref it⟩,
  ⟨PyData.keyHash P (Str.ofString "attrs"), .str (Str.ofString "attrs") t3, .none⟩,
  ⟨PyData.keyHash P (Str.ofString "shared"), .str (Str.ofString "shared") t4, .bool false⟩,
  ⟨PyData.keyHash P (Str.ofString "loose"), .str (Str.ofString "loose") t5, .bool false⟩] 5

abbrev symD (P : Params) (o : Str) (to : Tok) (t0 t1 t2 t3 : Tok) : Obj := dictOf [
  ⟨PyData.keyHash P (Str.ofString "kind"), .str (Str.ofString "kind") t0, .str (Str.ofString "symbol") t1⟩,
  ⟨PyData.keyHash P (Str.ofString "name"), .str (Str.ofString "name") t2, .str o to⟩,
  ⟨PyData.keyHash P (Str.ofString "attrs"), .str (Str.ofString "attrs") t3, .none⟩] 3

abbrev prD (P : Params) (e v : Value) (b : Bool) (t0 t1 t2 t3 t4 t5 t6 t7 t8 : Tok) : Obj := dictOf [
  ⟨PyData.keyHash P (Str.ofString "kind"), .str (Str.ofString "kind") t0, .str (Str.ofString "promise") t1⟩,
  ⟨PyData.keyHash P (Str.ofString "expr"), .str (Str.ofString "expr") t2, e⟩,
  ⟨PyData.keyHash P (Str.ofString "env"), .str (Str.ofString "env") t3, v⟩,
  ⟨PyData.keyHash P (Str.ofString "value"), .str (Str.ofString "value") t4, .none⟩,
  ⟨PyData.keyHash P (Str.ofString "state"), .str (Str.ofString "state") t5, .int 0 t6⟩,
  ⟨PyData.keyHash P (Str.ofString "default"), .str (Str.ofString "default") t7, .bool b⟩,
  ⟨PyData.keyHash P (Str.ofString "attrs"), .str (Str.ofString "attrs") t8, .none⟩] 7

section
variable {prog : Program} {w : World} {p : Program} {loose : List Str} {mean : ExcName → Option Value} {mg mb : Str → Option Value} {dp un : Nat} {gd : Option (List Code)} {cn : Str} {cs : Scope} {a : Addr} {ccd : Value} {cl : List (Str × Addr)} {outer : List Env} {A₀ : Around} {base h₀ : Heap} {L : Addr} {m : Str → Option Value} {news : List (Addr × Obj)} {s : Shared} {Q E : Value → Shared → Prop}

set_option maxHeartbeats 4000000 in
theorem missing_ok (B : Below A₀ base outer h₀) (F : Fr h₀ L s.heap m) (X : (hd.heap_39 w.params).In h₀) (N : News h₀ L s.heap news) (T : Top p loose mean mg mb h₀) (hk : cs.kind = .function)
    (hdp : dp < 500) (hun : un < 500)
    (hret : ∀ x d h' tk' t0 t1 t2, Fr h₀ L h' m → News h₀ L h' ((x, instObj 184 d) :: (d, misD w.params t0 t1 t2) :: news) → AllLt d news → @LT.lt Nat _ d x → Q (.ref x) { s with heap := h', toks := tk' }) :
    wpAny (model prog w) (ktrTop dp un gd cn cs L a ccd cl outer) (call (.ref 338) []) Q E s := by
  k_steps
  all_goals exact hret _ _ _ _ _ _ _ (by k_asm) (News.sub (by k_asm) (by lcg_sub)) (by first | k_asm | exact allLt_of (by assumption) | tbn_find) (by omega)

set_option maxHeartbeats 4000000 in
theorem whole_ok {t : Tok} (B : Below A₀ base outer h₀) (F : Fr h₀ L s.heap m) (X : (hd.heap_39 w.params).In h₀) (N : News h₀ L s.heap news) (T : Top p loose mean mg mb h₀) (hk : cs.kind = .function)
    (hdp : dp < 500) (hun : un < 500)
    (hret : ∀ x d h' tk' it t0 t1 t2 t3 t4 t5, Fr h₀ L h' m → News h₀ L h' ((x, instObj 213 d) :: (d, vecD w.params it t0 t1 t2 t3 t4 t5) :: news) → AllLt d news → @LT.lt Nat _ d x → Q (.ref x) { s with heap := h', toks := tk' }) :
    wpAny (model prog w) (ktrTop dp un gd cn cs L a ccd cl outer) (call (.ref 345) [.int 3 t]) Q E s := by
  k_steps
  all_goals exact hret _ _ _ _ _ _ _ _ _ _ _ (by k_asm) (News.sub (by k_asm) (by lcg_sub)) (by first | k_asm | exact allLt_of (by assumption) | tbn_find) (by omega)

set_option maxHeartbeats 4000000 in
theorem symbol_ok {o : Str} {t : Tok} (B : Below A₀ base outer h₀) (F : Fr h₀ L s.heap m) (X : (hd.heap_39 w.params).In h₀) (N : News h₀ L s.heap news) (T : Top p loose mean mg mb h₀) (hk : cs.kind = .function)
    (hdp : dp < 500) (hun : un < 500)
    (hret : ∀ x d h' tk' t0 t1 t2 t3, Fr h₀ L h' m → News h₀ L h' ((x, instObj 234 d) :: (d, symD w.params o t t0 t1 t2 t3) :: news) → AllLt d news → @LT.lt Nat _ d x → Q (.ref x) { s with heap := h', toks := tk' }) :
    wpAny (model prog w) (ktrTop dp un gd cn cs L a ccd cl outer) (call (.ref 352) [.str o t]) Q E s := by
  k_steps
  all_goals exact hret _ _ _ _ _ _ _ _ (by k_asm) (News.sub (by k_asm) (by lcg_sub)) (by first | k_asm | exact allLt_of (by assumption) | tbn_find) (by omega)

set_option maxHeartbeats 4000000 in
theorem promise_ok {e v : Value} (B : Below A₀ base outer h₀) (F : Fr h₀ L s.heap m) (X : (hd.heap_39 w.params).In h₀) (N : News h₀ L s.heap news) (T : Top p loose mean mg mb h₀) (hk : cs.kind = .function)
    (hdp : dp < 500) (hun : un < 500)
    (hret : ∀ x d h' tk' t0 t1 t2 t3 t4 t5 t6 t7 t8, Fr h₀ L h' m → News h₀ L h' ((x, instObj 299 d) :: (d, prD w.params e v false t0 t1 t2 t3 t4 t5 t6 t7 t8) :: news) → AllLt d news → @LT.lt Nat _ d x → Q (.ref x) { s with heap := h', toks := tk' }) :
    wpAny (model prog w) (ktrTop dp un gd cn cs L a ccd cl outer) (call (.ref 299) [e, v]) Q E s := by
  k_steps
  all_goals exact hret _ _ _ _ _ _ _ _ _ _ _ _ _ (by k_asm) (News.sub (by k_asm) (by lcg_sub)) (by first | k_asm | exact allLt_of (by assumption) | tbn_find) (by omega)

end

end

section
theorem offC : True := by
  w_top off
  exact True.intro
section
variable {prog : Program} {w : World} {A : Around} {E : Value → Shared → Prop} {s : Shared}
theorem eqBool_int_str {a : Int} {t : Tok} {b : Str} {u : Tok} {Q : Bool → Shared → Prop} (h : Q false s) : wpAny (model prog w) A (eqBool (.int a t) (.str b u)) Q E s := by
  unfold eqBool
  refine wpAny_holding ?_
  show wpAny _ _ (if (Value.int a t == Value.str b u) = true then _ else _) Q E s
  rw [if_neg (by rw [beq_iff_eq]; exact fun x => nomatch x)]
  exact wpAny_bind (EqMixed.eq_int_str (wpAny_truthy_bool h))
theorem eqBool_str_int {a : Int} {t : Tok} {b : Str} {u : Tok} {Q : Bool → Shared → Prop} (h : Q false s) : wpAny (model prog w) A (eqBool (.str b u) (.int a t)) Q E s := by
  unfold eqBool
  refine wpAny_holding ?_
  show wpAny _ _ (if (Value.str b u == Value.int a t) = true then _ else _) Q E s
  rw [if_neg (by rw [beq_iff_eq]; exact fun x => nomatch x)]
  exact wpAny_bind (EqMixed.eq_str_int (wpAny_truthy_bool h))
end

def isM : Int ⊕ Str → Value → Bool
  | .inl i, v => Value.isInt i v
  | .inr x, v => Value.isStrOf x v
theorem isM_shape {k : Int ⊕ Str} {v : Value} (h : isM k v = true) : (∃ i t, k = .inl i ∧ v = .int i t) ∨ ∃ x t, k = .inr x ∧ v = .str x t := by
  cases k with
  | inl i => obtain ⟨t, rfl⟩ := Value.isInt_shape h; exact .inl ⟨i, t, rfl, rfl⟩
  | inr x => obtain ⟨t, rfl⟩ := Value.isStrOf_shape h; exact .inr ⟨x, t, rfl, rfl⟩
theorem isM_int (i : Int) (t : Tok) : isM (.inl i) (.int i t) = true := by simp [isM, Value.isInt]
theorem isM_str (x : Str) (t : Tok) : isM (.inr x) (.str x t) = true := by simp [isM, Value.isStrOf]
/-- ints and strs, both, as keys (and as a tuple key's items) -/
def mixK (prog : Program) (w : World) : KeyKind prog w (Int ⊕ Str) where
  is := isM
  hash := fun k => match k with | .inl i => hashInt i | .inr x => hashStr w x
  inj := fun v a b ha hb => by
    rcases isM_shape ha with ⟨i, t, rfl, rfl⟩ | ⟨x, t, rfl, rfl⟩ <;> rcases isM_shape hb with ⟨j, u, rfl, e⟩ | ⟨y, u, rfl, e⟩ <;> cases e <;> rfl
  byValue := fun k v h => by rcases isM_shape h with ⟨i, t, rfl, rfl⟩ | ⟨x, t, rfl, rfl⟩ <;> rfl
  pyHash := fun hv h => by
    rcases isM_shape hv with ⟨i, t, rfl, rfl⟩ | ⟨x, t, rfl, rfl⟩
    · exact wpAny_pyHash_int h
    · exact wpAny_pyHash_str h
  eqBool := fun hu hv h => by
    rcases isM_shape hu with ⟨i, t, rfl, rfl⟩ | ⟨x, t, rfl, rfl⟩ <;> rcases isM_shape hv with ⟨j, u, rfl, rfl⟩ | ⟨y, u, rfl, rfl⟩
    · exact wpAny_eqBool_int (by rw [show (i == j) = decide ((Sum.inl i : Int ⊕ Str) = Sum.inl j) from by by_cases e : i = j <;> simp [e]]; exact h)
    · exact eqBool_int_str (by simpa using h)
    · exact eqBool_str_int (by simpa using h)
    · exact wpAny_eqBool_str (by simpa using h)
  «strs» := fun k x t v h => by
    rcases isM_shape h with ⟨i, u, rfl, e⟩ | ⟨y, u, rfl, e⟩ <;> cases e
    cases v <;> rfl

/-- the key (i, x) -/
abbrev keyOf (i : Int) (x : Str) : List (Int ⊕ Str) := [.inl i, .inr x]
/-- the object of the tuple (i, x) -/
abbrev keyObj (i : Int) (ti : Tok) (x : Str) (tx : Tok) : Obj := { cls := .type "tuple", data := .seq #[.int i ti, .str x tx] }
theorem keyObj_is {prog : Program} {w : World} {h : Heap} {a : Addr} {i : Int} {ti : Tok} {x : Str} {tx : Tok} (e : h.get? a = some (keyObj i ti x tx)) : IsTupleKey (mixK prog w) h (keyOf i x) a :=
  ⟨_, _, _, e, rfl, rfl, .cons (isM_int i ti) (.cons (isM_str x tx) .nil)⟩

end

section
theorem offD : True := by
  w_top off
  exact True.intro
section
variable {K : Type} [DecidableEq K]
theorem atKey_cons (x : K × Addr × Value) (xs : List (K × Addr × Value)) (k : K) : atKey (x :: xs) k = if x.1 = k then some x.2 else atKey xs k := by
  unfold atKey
  by_cases h : x.1 = k <;> simp [List.find?_cons, h]
theorem atKey_map_putAt (k : K) (v : Value) : ∀ (xs : List (K × Addr × Value)) (k' : K), (atKey (xs.map (putAt k v)) k').map (·.2) = if k' = k then (atKey xs k').map (fun _ => v) else (atKey xs k').map (·.2)
  | [], k' => by simp [atKey]
  | x :: xs, k' => by
    have ih := atKey_map_putAt k v xs k'
    rw [List.map_cons, atKey_cons, atKey_cons]
    by_cases h1 : x.1 = k'
    · subst h1
      by_cases h2 : x.1 = k
      · simp [putAt, h2]
      · simp [putAt, h2]
    · have h3 : ¬ (putAt k v x).1 = k' := by
        unfold putAt
        split <;> exact h1
      rw [if_neg h3, if_neg h1]
      exact ih
theorem atKey_append_none : ∀ {xs : List (K × Addr × Value)} {k k' : K} {a : Addr} {v : Value}, atKey xs k = none → atKey (xs ++ [(k, a, v)]) k' = if k' = k then some (a, v) else atKey xs k'
  | [], k, k', a, v, _ => by
    rw [List.nil_append, atKey_cons]
    by_cases h : k = k'
    · simp [h]
    · have h' : ¬ k' = k := fun e => h e.symm
      simp [h, h']
  | x :: xs, k, k', a, v, h => by
    rw [atKey_cons] at h
    by_cases h1 : x.1 = k
    · rw [if_pos h1] at h; cases h
    · rw [if_neg h1] at h
      rw [List.cons_append, atKey_cons, atKey_append_none h, atKey_cons]
      by_cases h2 : x.1 = k'
      · have h3 : ¬ k' = k := fun e => h1 (h2.trans e)
        simp [h2, h3]
      · simp [h2]
theorem atKey_storedH (xs : List (K × Addr × Value)) (k : K) (a : Addr) (v : Value) (k' : K) : (atKey (storedH xs k a v) k').map (·.2) = if k' = k then some v else (atKey xs k').map (·.2) := by
  unfold storedH
  cases h : atKey xs k with
  | none =>
    rw [if_neg (by simp), atKey_append_none h]
    by_cases e : k' = k <;> simp [e]
  | some p =>
    rw [if_pos (by simp), atKey_map_putAt]
    by_cases e : k' = k
    · subst e; simp [h]
    · simp [e]
theorem storedH_length (xs : List (K × Addr × Value)) (k : K) (a : Addr) (v : Value) : (storedH xs k a v).length ≤ xs.length + 1 := by
  unfold storedH
  split <;> simp
end

section
variable {prog : Program} {w : World} {h₀ h : Heap} {L d a : Addr} {m : Str → Option Value} {news news' : List (Addr × Obj)} {o : Obj} {f : Int → Str → Option Value} {n : Nat} {i : Int} {ti tn : Tok} {nm : Str}
/-- o is a dict whose keys are tuples (int, str) that the ledger bears; f is its map, n bounds its size -/
def TDF (prog : Program) (w : World) (news : List (Addr × Obj)) (o : Obj) (f : Int → Str → Option Value) (n : Nat) : Prop :=
  ∃ xs : List (List (Int ⊕ Str) × Addr × Value), o.ExactDict ∧ (∃ es ep, o.data = .dict es ep ∧ es.toList = xs.map (entryOfKey (tupleKind (mixK prog w)))) ∧ (xs.map (·.1)).Nodup ∧
    (∀ x ∈ xs, ∃ i ti nm tn, (x.2.1, keyObj i ti nm tn) ∈ news ∧ x.1 = keyOf i nm) ∧ (∀ i nm, (atKey xs (keyOf i nm)).map (·.2) = f i nm) ∧ xs.length ≤ n
theorem TDF.mono (T : TDF prog w news o f n) (k : ∀ p ∈ news, p ∈ news') : TDF prog w news' o f n :=
  let ⟨xs, c, d, e, g, r⟩ := T
  ⟨xs, c, d, e, fun x hx => let ⟨i, ti, nm, tn, hm, q⟩ := g x hx; ⟨i, ti, nm, tn, k _ hm, q⟩, r⟩
theorem TDF.dictOf (T : TDF prog w news o f n) (N : News h₀ L h news) (hd : (d, o) ∈ news) :
    ∃ xs, h.DictOfH (tupleKind (mixK prog w)) d xs ∧ (∀ x ∈ xs, ∃ i ti nm tn, (x.2.1, keyObj i ti nm tn) ∈ news ∧ x.1 = keyOf i nm) ∧ (∀ i nm, (atKey xs (keyOf i nm)).map (·.2) = f i nm) ∧ xs.length ≤ n := by
  obtain ⟨xs, c, ⟨es, ep, e1, e2⟩, e, g, r1, r2⟩ := T
  refine ⟨xs, ⟨o, es, ep, N.get hd, c, e1, e2, fun x hx => ?_, e⟩, g, r1, r2⟩
  obtain ⟨i, ti, nm, tn, hm, q⟩ := g x hx
  rw [q]
  exact keyObj_is (N.get hm)
/-- a dict is no tuple -/
theorem key_ne_dict (N : News h₀ L h news) (hd : (d, o) ∈ news) (c : o.ExactDict) {b : Addr} (hb : (b, keyObj i ti nm tn) ∈ news) : b ≠ d := by
  intro e
  subst e
  have := (N.get hb).symm.trans (N.get hd)
  obtain rfl := Option.some.inj this
  have h1 := c.1
  injection h1 with h2
  exact absurd h2 (by decide)

variable {A : Around} {E : Value → Shared → Prop} {s : Shared}
theorem td_in {Q : Value → Shared → Prop} (hu : A.units + 1 < cLine) (N : News h₀ L s.heap news) (hd : (d, o) ∈ news) (T : TDF prog w news o f n) (lo : (d == sysModules) = false) (hk : (a, keyObj i ti nm tn) ∈ news)
    (h : Q (.bool (f i nm).isSome) { s with toks := s.toks + 3 }) : wpAny (model prog w) A (compareOp .In (.ref a) (.ref d)) Q E s := by
  obtain ⟨xs, hD, _, hf, _⟩ := T.dictOf N hd
  refine wpAny_in_heap (knd := tupleKind (mixK prog w)) (k := keyOf i nm) (tupleKind_room_in1 hu) (keyObj_is (N.get hk)) lo hD ?_
  have e : (atKey xs (keyOf i nm)).isSome = (f i nm).isSome := by rw [← hf]; simp
  rw [e]; exact h
theorem td_getMethod {pl : Sem Bool} {Q : Value × List Value → Shared → Prop} (N : News h₀ L s.heap news) (hd : (d, o) ∈ news) (T : TDF prog w news o f n) (h : Q (.builtin "dict.get", [.ref d]) s) :
    wpAny (model prog w) A (getMethod (.ref d) "get" pl) Q E s := by
  obtain ⟨xs, hD, _⟩ := T.dictOf N hd
  exact getMethod_builtin hD.typeIs PySem.F.plainAttrs_dict PySem.F.slot_dict_get PySem.F.type_dict_get (dictOfH_noDict hD) h
theorem td_get {dflt : Value} {Q : Value → Shared → Prop} (hu : A.units + 1 < cLine) (N : News h₀ L s.heap news) (hd : (d, o) ∈ news) (T : TDF prog w news o f n) (lo : (d == sysModules) = false) (hk : (a, keyObj i ti nm tn) ∈ news)
    (h : Q ((f i nm).getD dflt) { s with toks := s.toks + 3 }) : wpAny (model prog w) A (call (.builtin "dict.get") [.ref d, .ref a, dflt]) Q E s := by
  obtain ⟨xs, hD, _, hf, _⟩ := T.dictOf N hd
  refine call_meetsIn PySem.F.slot_dict_get hD.typeIs PySem.F.entry_dict_get (PySem.F.args_dict_get_3 _ _ _) (meetsH_dict_get_default (tupleKind (mixK prog w)) d a lo dflt) ⟨tupleKind_room_in1 hu, keyOf i nm, xs, keyObj_is (N.get hk), hD, ?_⟩
  rw [hf]; exact h
theorem td_after {pre post : List (Addr × Obj)} {o' : Obj} {v : Value} {xs : List (List (Int ⊕ Str) × Addr × Value)} (N : News h₀ L h (pre ++ (d, o) :: post)) (c : o.ExactDict)
    (hk : (a, keyObj i ti nm tn) ∈ pre ++ (d, o) :: post) (g : ∀ x ∈ xs, ∃ i ti nm tn, (x.2.1, keyObj i ti nm tn) ∈ pre ++ (d, o) :: post ∧ x.1 = keyOf i nm) (hf : ∀ i nm, (atKey xs (keyOf i nm)).map (·.2) = f i nm) (hn : xs.length ≤ n)
    {h' : Heap} (ho : h'.get? d = some o') (hm : h'.DictOfH (tupleKind (mixK prog w)) d (storedH xs (keyOf i nm) a v)) :
    TDF prog w (pre ++ (d, o') :: post) o' (fun j x => if j = i ∧ x = nm then some v else f j x) (n + 1) := by
  obtain ⟨o2, es', ep', ho', c', hd', he', _, hn'⟩ := hm
  obtain rfl : o' = o2 := Option.some.inj (ho.symm.trans ho')
  have move : ∀ {b : Addr} {j : Int} {tj tx : Tok} {x : Str}, (b, keyObj j tj x tx) ∈ pre ++ (d, o) :: post → (b, keyObj j tj x tx) ∈ pre ++ (d, o') :: post := by
    intro b j tj tx x hb
    have hne := key_ne_dict N (List.mem_append_right _ (.head _)) c hb
    rcases List.mem_append.mp hb with q | q
    · exact List.mem_append_left _ q
    · rcases List.mem_cons.mp q with e | q
      · exact absurd (congrArg Prod.fst e) hne
      · exact List.mem_append_right _ (.tail _ q)
  refine ⟨_, c', ⟨es', ep', hd', he'⟩, hn', fun x hx => ?_, fun j x => ?_, Nat.le_trans (storedH_length _ _ _ _) (Nat.succ_le_succ hn)⟩
  · rcases mem_storedH hx with ⟨y, hy, e1, e2⟩ | ⟨e1, e2⟩
    · obtain ⟨j, tj, x', tx, hm', q⟩ := g y hy
      exact ⟨j, tj, x', tx, by rw [e2]; exact move hm', e1.trans q⟩
    · exact ⟨i, ti, nm, tn, by rw [e2]; exact move hk, e1⟩
  · show Option.map _ _ = if j = i ∧ x = nm then some v else f j x
    rw [atKey_storedH, hf]
    by_cases e : j = i ∧ x = nm
    · rw [if_pos e, if_pos (by rw [e.1, e.2])]
    · rw [if_neg e, if_neg]
      intro q
      injection q with q1 q2
      injection q1 with q1
      injection q2 with q2
      injection q2 with q2
      exact e ⟨q1, q2⟩
theorem td_set {v : Value} {g : Obj → List (Addr × Obj)} {Q : Unit → Shared → Prop} (hu : A.units + 1 < cLine) (F : Fr h₀ L s.heap m) (N : News h₀ L s.heap news) (U : UpdF d o news g) (T : TDF prog w news o f n) (hk : (a, keyObj i ti nm tn) ∈ news) (hsz : n ≤ 1000)
    (h : ∀ h' o', Fr h₀ L h' m → News h₀ L h' (g o') → TDF prog w (g o') o' (fun j x => if j = i ∧ x = nm then some v else f j x) (n + 1) → Q () { s with heap := h', toks := s.toks + 3 }) :
    wpAny (model prog w) A (setItem (.ref d) (.ref a) v) Q E s := by
  obtain ⟨pre, post, rfl, hg, h1, h2⟩ := U.split
  have hdm : (d, o) ∈ pre ++ (d, o) :: post := List.mem_append_right _ (.head _)
  have c : o.ExactDict := T.choose_spec.1
  obtain ⟨xs, hD, hkeys, hf, hn⟩ := T.dictOf N hdm
  refine wpAny_setItem_heap (hsz := by rw [sizeLine_eq]; omega) (knd := tupleKind (mixK prog w)) (k := keyOf i nm) (tupleKind_room_in1 hu) (keyObj_is (N.get hk)) hD fun h' hm hs => ?_
  obtain ⟨o', es', ep', ho', r⟩ := id hm
  have D := N _ hdm
  refine h h' o' (F.change hs D.2.1 D.2.2) (hg o' ▸ N.setIn h1 h2 hs ho') ?_
  rw [hg]
  exact td_after N c hk hkeys hf hn ho' hm
theorem td_stores {v : Value} {post : List (Addr × Obj)} {Q : Value → Shared → Prop} (hu : A.units + 1 < cLine) (F : Fr h₀ L s.heap m) (N : News h₀ L s.heap ((a, keyObj i ti nm tn) :: (d, o) :: post)) (hp : ∀ p ∈ post, p.1 ≠ d) (hd : o.IsDictOf (intKind prog w) [])
    (h : ∀ h' o', Fr h₀ L h' m → News h₀ L h' ((a, keyObj i ti nm tn) :: (d, o') :: post) → TDF prog w ((a, keyObj i ti nm tn) :: (d, o') :: post) o' (fun j x => if j = i ∧ x = nm then some v else none) 1 → Q (.ref d) { s with heap := h', toks := s.toks + 3 }) :
    TupStores prog w A E d Q [(.ref a, v)] s := by
  obtain ⟨es, ep, hc, hdat, _, hpp, _⟩ := hd
  have he : es.toList = [] := List.length_eq_zero_iff.mp hpp.length
  have N' : News h₀ L s.heap ([(a, keyObj i ti nm tn)] ++ (d, o) :: post) := N
  have hdm : (d, o) ∈ [(a, keyObj i ti nm tn)] ++ (d, o) :: post := List.mem_append_right _ (.head _)
  have hkm : (a, keyObj i ti nm tn) ∈ [(a, keyObj i ti nm tn)] ++ (d, o) :: post := .head _
  have hne := key_ne_dict N' hdm hc hkm
  have hD : s.heap.DictOfH (tupleKind (mixK prog w)) d [] := ⟨o, es, ep, N'.get hdm, hc, hdat, he, fun x hx => by simp at hx, List.nodup_nil⟩
  show wpAny _ _ (storeAll d _) _ _ _
  unfold storeAll
  rw [List.forIn_cons]
  refine wpAny_bind (wpAny_bind (wpAny_dictSet_heap (hsz := Nat.zero_le _) (knd := tupleKind (mixK prog w)) (k := keyOf i nm) (Nat.lt_of_succ_lt hu) (keyObj_is (N'.get hkm)) hD fun h' hm hs => wpAny_pure ?_))
  dsimp only
  rw [List.forIn_nil]
  obtain ⟨o', es', ep', ho', r⟩ := id hm
  have D := N' _ hdm
  refine wpAny_pure (h h' o' (F.change hs D.2.1 D.2.2) (N'.setIn (fun p hp => ?_) hp hs ho') ?_)
  · rw [List.mem_singleton.mp hp]; exact hne
  · have := td_after (f := fun _ _ => none) (n := 0) N' hc hkm (fun x hx => by simp at hx) (fun i nm => by simp [atKey]) (Nat.le_refl _) ho' hm
    exact this
end

end

section
theorem offE : True := by
  w_top off
  exact True.intro
theorem pow7 {prog : Program} {w : World} {A : Around} {E : Value → Shared → Prop} {s : Shared} {k l : Int} {t u : Tok} {Q : Value → Shared → Prop} (h0 : 0 ≤ k) (h1 : k ≤ 100) (hl : 0 < l) (h : Q (.int (7 ^ (Int.fdiv k l).toNat) s.toks) { s with toks := s.toks + 1 }) :
    wpAny (model prog w) A (binaryOp .Pow (.int 7 t) (.int (Int.fdiv k l) u)) Q E s := by
  have e : 0 ≤ Int.fdiv k l := Int.fdiv_nonneg h0 (Int.le_of_lt hl)
  refine pow_int_small e ?_ (by decide) h
  rw [Int.fdiv_eq_ediv_of_nonneg _ (Int.le_of_lt hl)]
  have := Int.ediv_le_self l h0
  omega
theorem div7 {prog : Program} {w : World} {A : Around} {E : Value → Shared → Prop} {s : Shared} {x : Int} {n : Nat} {t u : Tok} {Q : Value → Shared → Prop} (hp : PySem.PylongRoom (model prog w) A s) (h : ∀ y, Q (.int y s.toks) { s with toks := s.toks + 1 }) :
    wpAny (model prog w) A (binaryOp .FloorDiv (.int x t) (.int (7 ^ n) u)) Q E s := floordiv_int (Int.ne_of_gt (Int.pow_pos (by decide))) (h _) (Or.inr hp)
local macro_rules | `(tactic| walk_at "binaryOp Pow int int") => `(tactic| (k_here; k_dflt (refine pow7 (by assumption) (by assumption) (by first | omega | (simp; omega)) ?_)))
local macro_rules | `(tactic| walk_at "binaryOp FloorDiv int int") => `(tactic| (k_here; (with_reducible show wpAny _ _ (binaryOp Operator.FloorDiv (Value.int _ _) (Value.int (7 ^ _) _)) _ _ _); k_dflt (refine div7 (PySem.PylongRoom.of (PySem.Heap.NoLimit.keeps (PyProof.Rows.Top.nolimit (by assumption)) (PyProof.Rows.Fr.keep (by assumption))) (by refine Nat.lt_of_lt_of_le (m := 900) ?_ (by decide); (try simp only [depth_mark, depth_under_make, depth_under_kw, depth_in1, depth_deeper, depth_caller]); (try dsimp only [ktrTop, Builtin.pylongFrames]); omega) (PySem.SeerAt.of (PySem.Heap.NoSeer.keeps (PyProof.Rows.Top.seer (by assumption) (by assumption)) (PyProof.Rows.Fr.keep (by assumption))) (by assumption) rfl rfl rfl rfl rfl)) ?_); intro _))
section
variable {prog : Program} {w : World} {p : Program} {loose : List Str} {mean : ExcName → Option Value} {mg mb : Str → Option Value} {dp un : Nat} {gd : Option (List Code)} {cn : Str} {cs : Scope} {a : Addr} {ccd : Value} {cl : List (Str × Addr)} {outer : List Env} {A₀ : Around} {base h₀ : Heap} {L : Addr} {m : Str → Option Value} {news : List (Addr × Obj)} {s : Shared} {Q E : Value → Shared → Prop}
/-- the law's state: the row, the count of draws -/
abbrev stObj (row : Addr) (k : Int) (tk : Tok) (n : Nat) : Obj := { cls := .type "list", data := .seq #[.ref row, .int k tk] n }
abbrev rowObj (vs : List Value) (n : Nat) : Obj := { cls := .type "list", data := .seq vs.toArray n }

set_option maxHeartbeats 4000000 in
theorem take_ok {st row : Addr} {k mo : Int} {tk tm : Tok} {sn rn : Nat} {vs : List Value} {ns : List Int} {rest : List (Addr × Obj)} (B : Below A₀ base outer h₀) (F : Fr h₀ L s.heap m) (X : (hd.heap_39 w.params).In h₀)
    (N : News h₀ L s.heap ((st, stObj row k tk sn) :: rest)) (T : Top p loose mean mg mb h₀) (hk : cs.kind = .function)
    (hdp : dp < 500) (hun : un < 500) (hpr : prog.given.tree = none) (him : importsNone p = true) (hrow : (row, rowObj vs rn) ∈ rest) (hi : IntsAre vs ns) (hne : ∀ p ∈ rest, p.1 ≠ st) (hlen : vs.length ≤ 40) (hk0 : 0 ≤ k) (hk1 : k ≤ 100) (hm0 : 0 < mo) (hm1 : mo ≤ 6)
    (hret : ∀ r tr h' tk' t' n', 0 ≤ r → r < mo → Fr h₀ L h' m → News h₀ L h' ((st, stObj row (k + 1) t' n') :: rest) → Q (.int r tr) { s with heap := h', toks := tk' }) :
    wpAny (model prog w) (ktrTop dp un gd cn cs L a ccd cl outer) (call (.ref 421) [.ref st, .int mo tm]) Q E s := by
  have hl2 := hi.length
  have hl3 : ns.length ≤ 40 := by omega
  rcases ns with _ | ⟨n0, nr⟩
  · k_steps
    all_goals exact hret 0 _ _ _ _ _ (by omega) hm0 (by k_asm) (News.sub (by k_asm) (by lcg_sub))
  · rw [List.length_cons] at hl3
    k_steps
    all_goals first
      | exact hret 0 _ _ _ _ _ (by omega) hm0 (by k_asm) (News.sub (by k_asm) (by lcg_sub))
      | exact hret _ _ _ _ _ _ (fmod_lo _ hm0) (fmod_hi _ hm0) (by k_asm) (News.sub (by k_asm) (by lcg_sub))
end

end

section
theorem offF : True := by
  w_top off
  exact True.intro
local macro_rules | `(tactic| walk_at "exec While") => `(tactic| (k_here; k_dflt (refine while_never (by k_asm) (by k_asm) ?_); intro h' tk' F' N'))
abbrev matD (P : Params) (fl tg us pc : Addr) (t0 t1 t2 t3 : Tok) : Obj := dictOf [
  ⟨PyData.keyHash P (Str.ofString "formals"), .str (Str.ofString "formals") t0, .ref fl⟩,
  ⟨PyData.keyHash P (Str.ofString "tags"), .str (Str.ofString "tags") t1, .ref tg⟩,
  ⟨PyData.keyHash P (Str.ofString "used"), .str (Str.ofString "used") t2, .ref us⟩,
  ⟨PyData.keyHash P (Str.ofString "places"), .str (Str.ofString "places") t3, .ref pc⟩] 4

section
variable {prog : Program} {w : World} {p : Program} {loose : List Str} {mean : ExcName → Option Value} {mg mb : Str → Option Value} {dp un : Nat} {gd : Option (List Code)} {cn : Str} {cs : Scope} {a : Addr} {ccd : Value} {cl : List (Str × Addr)} {outer : List Env} {A₀ : Around} {base h₀ : Heap} {L : Addr} {m : Str → Option Value} {news : List (Addr × Obj)} {s : Shared} {Q E : Value → Shared → Prop}

set_option maxHeartbeats 4000000 in
theorem mat_ok {fl tg : Addr} {n1 : Nat} (B : Below A₀ base outer h₀) (F : Fr h₀ L s.heap m) (X : (hd.heap_39 w.params).In h₀) (N : News h₀ L s.heap news) (T : Top p loose mean mg mb h₀) (hk : cs.kind = .function) (hdp : dp < 500) (hun : un < 500)
    (h1 : (tg, ({ cls := .type "list", data := .seq #[] n1 } : Obj)) ∈ news)
    (hret : ∀ x d us pc h' tk' po n t0 t1 t2 t3, Fr h₀ L h' m → News h₀ L h' ((pc, po) :: (us, ({ cls := .type "list", data := .seq #[] n } : Obj)) :: (x, instObj 110 d) :: (d, matD w.params fl tg us pc t0 t1 t2 t3) :: news) → po.IsDictOf (PySem.strKind prog w) [] → (pc == sysModules) = false → AllLt d news → @LT.lt Nat _ d x → @LT.lt Nat _ x us → @LT.lt Nat _ us pc → Q (.ref x) { s with heap := h', toks := tk' }) :
    wpAny (model prog w) (ktrTop dp un gd cn cs L a ccd cl outer) (call (.ref 110) [.ref fl, .ref tg]) Q E s := by
  k_steps
  all_goals exact hret _ _ _ _ _ _ _ _ _ _ _ _ (by k_asm) (News.sub (by k_asm) (by lcg_sub)) (by k_asm) (by k_asm) (by first | k_asm | exact allLt_of (by assumption) | tbn_find) (by omega) (by omega) (by omega)

set_option maxHeartbeats 4000000 in
theorem m_exact_ok {x d fl tg us pc : Addr} {po : Obj} {nm : Str} {tn t0 t1 t2 t3 : Tok} {n1 n2 n3 : Nat} (B : Below A₀ base outer h₀) (F : Fr h₀ L s.heap m) (X : (hd.heap_39 w.params).In h₀) (N : News h₀ L s.heap news) (T : Top p loose mean mg mb h₀) (hk : cs.kind = .function) (hdp : dp < 500) (hun : un < 500)
    (h1 : (x, instObj 110 d) ∈ news) (h2 : (d, matD w.params fl tg us pc t0 t1 t2 t3) ∈ news) (h3 : (fl, ({ cls := .type "list", data := .seq #[.str nm tn] n1 } : Obj)) ∈ news) (h4 : (tg, ({ cls := .type "list", data := .seq #[] n2 } : Obj)) ∈ news) (h5 : (us, ({ cls := .type "list", data := .seq #[] n3 } : Obj)) ∈ news) (h6 : (pc, po) ∈ news) (h7 : po.IsDictOf (PySem.strKind prog w) []) (h8 : (pc == sysModules) = false)
    (hret : ∀ h' tk', Fr h₀ L h' m → News h₀ L h' news → Q .none { s with heap := h', toks := tk' }) :
    wpAny (model prog w) (ktrTop dp un gd cn cs L a ccd cl outer) (call (.ref 74) [.ref x]) Q E s := by
  k_steps
  all_goals exact hret _ _ (by k_asm) (News.sub (by k_asm) (by lcg_sub))

set_option maxHeartbeats 4000000 in
theorem m_partial_ok {x d fl tg us pc : Addr} {po : Obj} {nm : Str} {tn t0 t1 t2 t3 : Tok} {n1 n2 n3 : Nat} (B : Below A₀ base outer h₀) (F : Fr h₀ L s.heap m) (X : (hd.heap_39 w.params).In h₀) (N : News h₀ L s.heap news) (T : Top p loose mean mg mb h₀) (hk : cs.kind = .function) (hdp : dp < 500) (hun : un < 500)
    (h1 : (x, instObj 110 d) ∈ news) (h2 : (d, matD w.params fl tg us pc t0 t1 t2 t3) ∈ news) (h3 : (fl, ({ cls := .type "list", data := .seq #[.str nm tn] n1 } : Obj)) ∈ news) (h4 : (tg, ({ cls := .type "list", data := .seq #[] n2 } : Obj)) ∈ news) (h5 : (us, ({ cls := .type "list", data := .seq #[] n3 } : Obj)) ∈ news) (h6 : (pc, po) ∈ news) (h7 : po.IsDictOf (PySem.strKind prog w) []) (h8 : (pc == sysModules) = false)
    (hret : ∀ h' tk', Fr h₀ L h' m → News h₀ L h' news → Q .none { s with heap := h', toks := tk' }) :
    wpAny (model prog w) (ktrTop dp un gd cn cs L a ccd cl outer) (call (.ref 81) [.ref x]) Q E s := by
  k_steps
  all_goals exact hret _ _ (by k_asm) (News.sub (by k_asm) (by lcg_sub))

set_option maxHeartbeats 4000000 in
theorem m_positional_ok {x d fl tg us pc : Addr} {po : Obj} {nm : Str} {tn t0 t1 t2 t3 : Tok} {n1 n2 n3 : Nat} (B : Below A₀ base outer h₀) (F : Fr h₀ L s.heap m) (X : (hd.heap_39 w.params).In h₀) (N : News h₀ L s.heap news) (T : Top p loose mean mg mb h₀) (hk : cs.kind = .function) (hdp : dp < 500) (hun : un < 500)
    (h1 : (x, instObj 110 d) ∈ news) (h2 : (d, matD w.params fl tg us pc t0 t1 t2 t3) ∈ news) (h3 : (fl, ({ cls := .type "list", data := .seq #[.str nm tn] n1 } : Obj)) ∈ news) (h4 : (tg, ({ cls := .type "list", data := .seq #[] n2 } : Obj)) ∈ news) (h5 : (us, ({ cls := .type "list", data := .seq #[] n3 } : Obj)) ∈ news) (h6 : (pc, po) ∈ news) (h7 : po.IsDictOf (PySem.strKind prog w) []) (h8 : (pc == sysModules) = false)
    (hret : ∀ h' tk', Fr h₀ L h' m → News h₀ L h' news → Q .none { s with heap := h', toks := tk' }) :
    wpAny (model prog w) (ktrTop dp un gd cn cs L a ccd cl outer) (call (.ref 95) [.ref x]) Q E s := by
  k_steps
  all_goals exact hret _ _ (by k_asm) (News.sub (by k_asm) (by lcg_sub))

set_option maxHeartbeats 4000000 in
theorem m_rest_ok {x d fl tg us pc : Addr} {po : Obj} {nm : Str} {tn t0 t1 t2 t3 : Tok} {n1 n2 n3 : Nat} (B : Below A₀ base outer h₀) (F : Fr h₀ L s.heap m) (X : (hd.heap_39 w.params).In h₀) (N : News h₀ L s.heap news) (T : Top p loose mean mg mb h₀) (hk : cs.kind = .function) (hdp : dp < 500) (hun : un < 500)
    (h1 : (x, instObj 110 d) ∈ news) (h2 : (d, matD w.params fl tg us pc t0 t1 t2 t3) ∈ news) (h3 : (fl, ({ cls := .type "list", data := .seq #[.str nm tn] n1 } : Obj)) ∈ news) (h4 : (tg, ({ cls := .type "list", data := .seq #[] n2 } : Obj)) ∈ news) (h5 : (us, ({ cls := .type "list", data := .seq #[] n3 } : Obj)) ∈ news) (h6 : (pc, po) ∈ news) (h7 : po.IsDictOf (PySem.strKind prog w) []) (h8 : (pc == sysModules) = false)
    (hret : ∀ rs h' tk' n, Fr h₀ L h' m → News h₀ L h' ((rs, ({ cls := .type "list", data := .seq #[] n } : Obj)) :: news) → LCg.Off1 rs news → Q (.ref rs) { s with heap := h', toks := tk' }) :
    wpAny (model prog w) (ktrTop dp un gd cn cs L a ccd cl outer) (call (.ref 107) [.ref x]) Q E s := by
  k_steps
  all_goals exact hret _ _ _ _ (by k_asm) (News.sub (by k_asm) (by lcg_sub)) (by first | assumption | exact And.right (by assumption))

end

end

section
theorem offG : True := by
  w_top off
  exact True.intro
local macro_rules | `(tactic| walk_at "call ref") => `(tactic| (k_here; (with_reducible show wpAny _ _ (call (Value.ref 110) _) _ _ _); k_dflt (refine mat_ok (by k_asm) (by k_asm) (by k_asm) (by k_asm) (by k_asm) (by first | assumption | exact rfl) (by ktr_room) (by ktr_units) (by k_mem) ?_); intro x' d' us' pc' h' tk' po' n' t0 t1 t2 t3 F' N' hs' lo' l1 l2 l3 l4))

local macro_rules | `(tactic| walk_at "call ref") => `(tactic| (k_here; (with_reducible show wpAny _ _ (call (Value.ref 74) _) _ _ _); k_dflt (refine m_exact_ok (by k_asm) (by k_asm) (by k_asm) (by k_asm) (by k_asm) (by first | assumption | exact rfl) (by ktr_room) (by ktr_units) (by k_mem) (by k_mem) (by k_mem) (by k_mem) (by k_mem) (by k_mem) (by k_asm) (by k_asm) ?_); intro h' tk' F' N'))

local macro_rules | `(tactic| walk_at "call ref") => `(tactic| (k_here; (with_reducible show wpAny _ _ (call (Value.ref 81) _) _ _ _); k_dflt (refine m_partial_ok (by k_asm) (by k_asm) (by k_asm) (by k_asm) (by k_asm) (by first | assumption | exact rfl) (by ktr_room) (by ktr_units) (by k_mem) (by k_mem) (by k_mem) (by k_mem) (by k_mem) (by k_mem) (by k_asm) (by k_asm) ?_); intro h' tk' F' N'))

local macro_rules | `(tactic| walk_at "call ref") => `(tactic| (k_here; (with_reducible show wpAny _ _ (call (Value.ref 95) _) _ _ _); k_dflt (refine m_positional_ok (by k_asm) (by k_asm) (by k_asm) (by k_asm) (by k_asm) (by first | assumption | exact rfl) (by ktr_room) (by ktr_units) (by k_mem) (by k_mem) (by k_mem) (by k_mem) (by k_mem) (by k_mem) (by k_asm) (by k_asm) ?_); intro h' tk' F' N'))

local macro_rules | `(tactic| walk_at "call ref") => `(tactic| (k_here; (with_reducible show wpAny _ _ (call (Value.ref 107) _) _ _ _); k_dflt (refine m_rest_ok (by k_asm) (by k_asm) (by k_asm) (by k_asm) (by k_asm) (by first | assumption | exact rfl) (by ktr_room) (by ktr_units) (by k_mem) (by k_mem) (by k_mem) (by k_mem) (by k_mem) (by k_mem) (by k_asm) (by k_asm) ?_); intro rs' h' tk' n' F' N' l1); (try k_lt l1); (try dsimp only [LCg.Off1] at l1))

section
variable {prog : Program} {w : World} {p : Program} {loose : List Str} {mean : ExcName → Option Value} {mg mb : Str → Option Value} {dp un : Nat} {gd : Option (List Code)} {cn : Str} {cs : Scope} {a : Addr} {ccd : Value} {cl : List (Str × Addr)} {outer : List Env} {A₀ : Around} {base h₀ : Heap} {L : Addr} {m : Str → Option Value} {news : List (Addr × Obj)} {s : Shared} {Q E : Value → Shared → Prop}

set_option maxHeartbeats 4000000 in
theorem dflt_ok {y dy ei : Addr} {o : Str} {to v0 v1 v2 v3 : Tok} (B : Below A₀ base outer h₀) (F : Fr h₀ L s.heap m) (X : (hd.heap_39 w.params).In h₀) (N : News h₀ L s.heap news) (T : Top p loose mean mg mb h₀) (hk : cs.kind = .function) (hdp : dp < 490) (hun : un < 490)
    (h1 : (y, instObj 234 dy) ∈ news) (h2 : (dy, symD w.params o to v0 v1 v2 v3) ∈ news)
    (hret : ∀ x d h' tk' w0 w1 w2 w3 w4 w5 w6 w7 w8, Fr h₀ L h' m → News h₀ L h' ((x, instObj 299 d) :: (d, prD w.params (.ref y) (.ref ei) true w0 w1 w2 w3 w4 w5 w6 w7 w8) :: news) → AllLt d news → @LT.lt Nat _ d x → Q (.ref x) { s with heap := h', toks := tk' }) :
    wpAny (model prog w) (ktrTop dp un gd cn cs L a ccd cl outer) (call (.ref 387) [.ref y, .ref ei]) Q E s := by
  k_steps
  all_goals exact hret _ _ _ _ _ _ _ _ _ _ _ _ _ (by k_asm) (News.sub (by k_asm) (by lcg_sub)) (by first | k_asm | exact allLt_of (by assumption) | tbn_find) (by omega)

set_option maxHeartbeats 4000000 in
theorem match_ok {fl al : Addr} {n1 n2 : Nat} {nm : Str} {tn : Tok} (B : Below A₀ base outer h₀) (F : Fr h₀ L s.heap m) (X : (hd.heap_39 w.params).In h₀) (N : News h₀ L s.heap news) (T : Top p loose mean mg mb h₀) (hk : cs.kind = .function) (hdp : dp < 480) (hun : un < 480)
    (h1 : (fl, ({ cls := .type "list", data := .seq #[.str nm tn] n1 } : Obj)) ∈ news) (h2 : (al, ({ cls := .type "list", data := .seq #[] n2 } : Obj)) ∈ news)
    (hret : ∀ tp pc po rs h' tk' n n', Fr h₀ L h' m → News h₀ L h' ((tp, ({ cls := .type "tuple", data := .seq #[.ref pc, .ref rs] n } : Obj)) :: (pc, po) :: (rs, ({ cls := .type "list", data := .seq #[] n' } : Obj)) :: news) → po.IsDictOf (PySem.strKind prog w) [] → (pc == sysModules) = false → LCg.Off1 rs news → AllLt pc news → AllLt tp news → Q (.ref tp) { s with heap := h', toks := tk' }) :
    wpAny (model prog w) (ktrTop dp un gd cn cs L a ccd cl outer) (call (.ref 139) [.ref fl, .ref al, .none]) Q E s := by
  k_steps
  all_goals exact hret _ _ _ _ _ _ _ _ (by k_asm) (News.sub (by k_asm) (by lcg_sub)) (by k_asm) (by k_asm) (by (rename _ ∧ _ ∧ _ ∧ _ ∧ _ ∧ LCg.Off1 _ news => q); exact q.2.2.2.2.2) (by (rename AllLt _ (_ :: news) => q); exact AllLt.up (by omega) (And.right q)) (by tbn_find)

end

end

section
theorem offH : True := by
  w_top off
  exact True.intro
local macro_rules | `(tactic| walk_at "call ref") => `(tactic| (k_here; (with_reducible show wpAny _ _ (call (Value.ref 387) _) _ _ _); k_dflt (refine dflt_ok (by k_asm) (by k_asm) (by k_asm) (by k_asm) (by k_asm) (by first | assumption | exact rfl) (by ktr_room) (by ktr_units) (by k_mem) (by k_mem) ?_); intro x' d' h' tk' w0 w1 w2 w3 w4 w5 w6 w7 w8 F' N' l1 l2; (try simp only [AllLt] at l1)))
local macro_rules | `(tactic| walk_at "call ref") => `(tactic| (k_here; (with_reducible show wpAny _ _ (call (Value.ref 139) _) _ _ _); k_dflt (refine match_ok (by k_asm) (by k_asm) (by k_asm) (by k_asm) (by k_asm) (by first | assumption | exact rfl) (by ktr_room) (by ktr_units) (by k_mem) (by k_mem) ?_); intro tp' pc' po' rs' h' tk' n' n2' F' N' hs' lo' o1 l1 l2; (try dsimp only [LCg.Off1] at o1); (try simp only [AllLt] at l1 l2)))
section
variable {prog : Program} {w : World} {p : Program} {loose : List Str} {mean : ExcName → Option Value} {mg mb : Str → Option Value} {dp un : Nat} {gd : Option (List Code)} {cn : Str} {cs : Scope} {a : Addr} {ccd : Value} {cl : List (Str × Addr)} {outer : List Env} {A₀ : Around} {base h₀ : Heap} {L : Addr} {m : Str → Option Value} {news : List (Addr × Obj)} {s : Shared} {Q E : Value → Shared → Prop}
abbrev cloD (P : Params) (fl b e : Addr) (t0 t1 t2 t3 t4 t5 : Tok) : Obj := dictOf [
  ⟨PyData.keyHash P (Str.ofString "kind"), .str (Str.ofString "kind") t0, .str (Str.ofString "closure") t1⟩,
  ⟨PyData.keyHash P (Str.ofString "formals"), .str (Str.ofString "formals") t2, .ref fl⟩,
  ⟨PyData.keyHash P (Str.ofString "body"), .str (Str.ofString "body") t3, .ref b⟩,
  ⟨PyData.keyHash P (Str.ofString "env"), .str (Str.ofString "env") t4, .ref e⟩,
  ⟨PyData.keyHash P (Str.ofString "attrs"), .str (Str.ofString "attrs") t5, .none⟩] 5

set_option maxHeartbeats 4000000 in
theorem bind_ok {clo dc fl bo al ei di fi li y dy tup : Addr} {i : Int} {t0 t1 t2 t3 t4 t5 u0 u1 u2 u3 u4 u5 u6 u7 u8 v0 v1 v2 v3 to tn : Tok} {n1 n2 n3 : Nat} {o nm : Str} {fo : Obj} {kvs : List (Str × Value)} {rest : List (Addr × Obj)} (B : Below A₀ base outer h₀) (F : Fr h₀ L s.heap m) (X : (hd.heap_39 w.params).In h₀)
    (N : News h₀ L s.heap ((fi, fo) :: rest)) (T : Top p loose mean mg mb h₀) (hk : cs.kind = .function) (hdp : dp < 460) (hun : un < 460) (hnm : (nm == Str.ofString "...") = false)
    (hne : ∀ p ∈ rest, p.1 ≠ fi) (hfo : fo.IsDictOf (PySem.strKind prog w) kvs) (hlo : (fi == sysModules) = false) (hkl : kvs.length ≤ 100)
    (h1 : (clo, instObj 256 dc) ∈ rest) (h2 : (dc, cloD w.params fl bo ei t0 t1 t2 t3 t4 t5) ∈ rest) (h3 : (fl, ({ cls := .type "list", data := .seq #[.ref tup] n1 } : Obj)) ∈ rest) (h4 : (tup, ({ cls := .type "tuple", data := .seq #[.str nm tn, .ref y] n2 } : Obj)) ∈ rest)
    (h5 : (y, instObj 234 dy) ∈ rest) (h6 : (dy, symD w.params o to v0 v1 v2 v3) ∈ rest) (h7 : (al, ({ cls := .type "list", data := .seq #[] n3 } : Obj)) ∈ rest) (h8 : (ei, instObj 278 di) ∈ rest) (h9 : (di, envD w.params i fi li u0 u1 u2 u3 u4 u5 u6 u7 u8) ∈ rest)
    (hret : ∀ x d h' tk' fo' w0 w1 w2 w3 w4 w5 w6 w7 w8, Fr h₀ L h' m → News h₀ L h' ((x, instObj 299 d) :: (d, prD w.params (.ref y) (.ref ei) true w0 w1 w2 w3 w4 w5 w6 w7 w8) :: (fi, fo') :: rest) → fo'.IsDictOf (PySem.strKind prog w) (stored kvs nm (.ref x)) → AllLt d ((fi, fo') :: rest) → @LT.lt Nat _ d x → Q .none { s with heap := h', toks := tk' }) :
    wpAny (model prog w) (ktrTop dp un gd cn cs L a ccd cl outer) (call (.ref 393) [.ref clo, .ref al, .ref ei]) Q E s := by
  k_steps
  all_goals exact hret _ _ _ _ _ _ _ _ _ _ _ _ _ _ (by k_asm) (News.sub (by k_asm) (by lcg_sub)) (by k_asm) (by (rename _ ∧ _ ∧ _ ∧ _ ∧ _ ∧ _ ∧ _ ∧ AllLt _ rest => q); exact q.2.2.2.2.2.2) (by omega)
end

end

section
theorem offI : True := by
  w_top off
  exact True.intro
/-- what a name is bound to -/
inductive Plan
  | empty | number | name (w : Int) (o : Str) | dflt
def Plan.isName : Plan → Bool
  | .name _ _ => true
  | _ => false
def Plan.isMiss : Plan → Bool
  | .empty => true
  | .dflt => true
  | _ => false
/-- the answer for the name o at j, S being seen -/
inductive Res (G : Int → Str → Option Plan) : List (Int × Str) → Int → Str → Bool → Prop
  | seen {S j o} : (j, o) ∈ S → Res G S j o true
  | free {S j o} : (j, o) ∉ S → G j o = none → Res G S j o false
  | stop {S j o p} : (j, o) ∉ S → G j o = some p → p.isName = false → Res G S j o p.isMiss
  | name {S j o w x b} : (j, o) ∉ S → G j o = some (.name w x) → Res G ((j, o) :: S) w x b → Res G S j o b
theorem Res.det {G : Int → Str → Option Plan} : ∀ {S j o b b'}, Res G S j o b → Res G S j o b' → b = b' := by
  intro S j o b b' h
  induction h generalizing b' with
  | seen h1 =>
    intro h'
    cases h' with
    | seen _ => rfl
    | free h2 _ => exact absurd h1 h2
    | stop h2 _ _ => exact absurd h1 h2
    | name h2 _ _ => exact absurd h1 h2
  | free h1 h2 =>
    intro h'
    cases h' with
    | seen h3 => exact absurd h3 h1
    | free _ _ => rfl
    | stop _ h3 _ => rw [h2] at h3; cases h3
    | name _ h3 _ => rw [h2] at h3; cases h3
  | stop h1 h2 h3 =>
    intro h'
    cases h' with
    | seen h4 => exact absurd h4 h1
    | free _ h4 => rw [h2] at h4; cases h4
    | stop _ h4 _ => rw [h2] at h4; cases h4; rfl
    | name _ h4 _ => rw [h2] at h4; cases h4; cases h3
  | name h1 h2 _ ih =>
    intro h'
    cases h' with
    | seen h4 => exact absurd h4 h1
    | free _ h4 => rw [h2] at h4; cases h4
    | stop _ h4 h5 => rw [h2] at h4; cases h4; cases h5
    | name _ h4 h5 => rw [h2] at h4; cases h4; exact ih h5

/-- how the ledger l bears a binding of environment i -/
inductive Bd (P : Params) (l : List (Addr × Obj)) (c : Int) (ea : Int → Addr) (i : Int) : Option Plan → Option Value → Prop
  | free : Bd P l c ea i none none
  | empty {x d : Addr} {t0 t1 t2 : Tok} : (x, instObj 184 d) ∈ l → (d, misD P t0 t1 t2) ∈ l → Bd P l c ea i (some .empty) (some (.ref x))
  | vec {x d it : Addr} {t0 t1 t2 t3 t4 t5 : Tok} : (x, instObj 213 d) ∈ l → (d, vecD P it t0 t1 t2 t3 t4 t5) ∈ l → Bd P l c ea i (some .number) (some (.ref x))
  | pnum {x d y dy it : Addr} {j : Int} {w0 w1 w2 w3 w4 w5 w6 w7 w8 t0 t1 t2 t3 t4 t5 : Tok} : 0 ≤ j → j < c → (x, instObj 299 d) ∈ l → (d, prD P (.ref y) (.ref (ea j)) false w0 w1 w2 w3 w4 w5 w6 w7 w8) ∈ l → (y, instObj 213 dy) ∈ l → (dy, vecD P it t0 t1 t2 t3 t4 t5) ∈ l → Bd P l c ea i (some .number) (some (.ref x))
  | name {x d y dy : Addr} {j : Int} {o : Str} {w0 w1 w2 w3 w4 w5 w6 w7 w8 to t0 t1 t2 t3 : Tok} : 0 ≤ j → j < c → (x, instObj 299 d) ∈ l → (d, prD P (.ref y) (.ref (ea j)) false w0 w1 w2 w3 w4 w5 w6 w7 w8) ∈ l → (y, instObj 234 dy) ∈ l → (dy, symD P o to t0 t1 t2 t3) ∈ l → Bd P l c ea i (some (.name j o)) (some (.ref x))
  | dflt {x d y dy : Addr} {o : Str} {w0 w1 w2 w3 w4 w5 w6 w7 w8 to t0 t1 t2 t3 : Tok} : (x, instObj 299 d) ∈ l → (d, prD P (.ref y) (.ref (ea i)) true w0 w1 w2 w3 w4 w5 w6 w7 w8) ∈ l → (y, instObj 234 dy) ∈ l → (dy, symD P o to t0 t1 t2 t3) ∈ l → Bd P l c ea i (some .dflt) (some (.ref x))
theorem Bd.mono {P : Params} {l l' : List (Addr × Obj)} {c : Int} {ea : Int → Addr} {i : Int} {g : Option Plan} {v : Option Value} (k : ∀ p ∈ l, p ∈ l') (h : Bd P l c ea i g v) : Bd P l' c ea i g v := by
  cases h with
  | free => exact .free
  | empty a b => exact .empty (k _ a) (k _ b)
  | vec a b => exact .vec (k _ a) (k _ b)
  | pnum h0 h1 a b c d => exact .pnum h0 h1 (k _ a) (k _ b) (k _ c) (k _ d)
  | name h0 h1 a b c d => exact .name h0 h1 (k _ a) (k _ b) (k _ c) (k _ d)
  | dflt a b c d => exact .dflt (k _ a) (k _ b) (k _ c) (k _ d)

theorem Bd.ref {P : Params} {l : List (Addr × Obj)} {c : Int} {ea : Int → Addr} {i : Int} {g : Plan} {v : Option Value} (h : Bd P l c ea i (some g) v) : ∃ x, v = some (.ref x) := by
  cases h <;> exact ⟨_, rfl⟩
theorem Bd.unfree {P : Params} {l : List (Addr × Obj)} {c : Int} {ea : Int → Addr} {i : Int} {v : Option Value} (h : Bd P l c ea i none v) : v = none := by
  cases h; rfl
theorem fr_tell4 {h₀ h : Heap} {L : Addr} {m : Str → Option Value} {x1 x2 x3 x4 : Str} {v1 v2 v3 v4 : Value} (F : Fr h₀ L h m) (e1 : m x1 = some v1) (e2 : m x2 = some v2) (e3 : m x3 = some v3) (e4 : m x4 = some v4) :
    Fr h₀ L h (fun y => if y = x1 then some v1 else if y = x2 then some v2 else if y = x3 then some v3 else if y = x4 then some v4 else m y) := by
  have : (fun y => if y = x1 then some v1 else if y = x2 then some v2 else if y = x3 then some v3 else if y = x4 then some v4 else m y) = m := by
    funext y
    by_cases h1 : y = x1
    · rw [if_pos h1, h1, e1]
    rw [if_neg h1]
    by_cases h2 : y = x2
    · rw [if_pos h2, h2, e2]
    rw [if_neg h2]
    by_cases h3 : y = x3
    · rw [if_pos h3, h3, e3]
    rw [if_neg h3]
    by_cases h4 : y = x4
    · rw [if_pos h4, h4, e4]
    rw [if_neg h4]
  rw [this]; exact F
theorem mem_swap {α : Type} {a b p : α} {l : List α} (h : p ∈ b :: a :: l) : p ∈ a :: b :: l := by
  rcases List.mem_cons.mp h with rfl | h
  · exact .tail _ (.head _)
  · rcases List.mem_cons.mp h with rfl | h
    · exact .head _
    · exact .tail _ (.tail _ h)
/-- a halt of the walk -/
def Halt (q : Prop) : Prop := q
theorem Halt.out {q : Prop} (h : Halt q) : q := h
theorem ws_ret {h₀ : Heap} {L : Addr} {s s₃ : Shared} {J : Nat → (Str → Option Value) → List (Addr × Obj) → Prop} {Q : Flow → Shared → Prop} {n : Nat} {v : Value} (h : Q (.ret v) s₃) : WhileStep2 h₀ L s J Q n (.ret v) s₃ := h
/-- the dict of what has been seen -/
def seenF (S : List (Int × Str)) (j : Int) (x : Str) : Option Value := if (j, x) ∈ S then some (.bool true) else none
theorem seenF_in {S : List (Int × Str)} {j : Int} {x : Str} (h : (j, x) ∈ S) : (seenF S j x).isSome = true := by simp [seenF, h]
theorem seenF_out {S : List (Int × Str)} {j : Int} {x : Str} (h : (j, x) ∉ S) : (seenF S j x).isSome = false := by simp [seenF, h]
theorem seenF_cons {S : List (Int × Str)} {i : Int} {nm : Str} : (fun j x => if j = i ∧ x = nm then some (Value.bool true) else seenF S j x) = seenF ((i, nm) :: S) := by
  funext j x
  by_cases h : j = i ∧ x = nm
  · obtain ⟨rfl, rfl⟩ := h; simp [seenF]
  · have : ¬ (j, x) = (i, nm) := fun e => h ⟨congrArg Prod.fst e, congrArg Prod.snd e⟩
    simp [seenF, h, this]
theorem seenF_one {i : Int} {nm : Str} : (fun j x => if j = i ∧ x = nm then some (Value.bool true) else none) = seenF [(i, nm)] := by
  rw [← seenF_cons]; funext j x; simp [seenF]
/-- the five names -/
abbrev NM : List Str := [Str.ofString "a", Str.ofString "b", Str.ofString "c", Str.ofString "d", Str.ofString "e"]
/-- a list without twins lies within what it is drawn from -/
theorem nodup_short {α : Type} [DecidableEq α] : ∀ {S K : List α}, S.Nodup → (∀ x ∈ S, x ∈ K) → S.length ≤ K.length
  | [], _, _, _ => Nat.zero_le _
  | x :: S, K, hn, hs => by
    have h1 : x ∈ K := hs x (.head _)
    have h2 : S.length ≤ (K.erase x).length := nodup_short (List.nodup_cons.mp hn).2 fun y hy => by
      have hne : y ≠ x := fun e => (List.nodup_cons.mp hn).1 (e ▸ hy)
      exact (List.mem_erase_of_ne hne).mpr (hs y (.tail _ hy))
    rw [List.length_erase_of_mem h1] at h2
    have h3 : 0 < K.length := List.length_pos_of_mem h1
    rw [List.length_cons]
    omega
/-- all the keys there are -/
abbrev KEYS : List (Int × Str) := [(0 : Int), 1, 2, 3].flatMap fun j => NM.map fun o => (j, o)
theorem keys_mem {j : Int} {o : Str} (h0 : 0 ≤ j) (h1 : j < 4) (ho : o ∈ NM) : (j, o) ∈ KEYS :=
  List.mem_flatMap.mpr ⟨j, by
    have : j = 0 ∨ j = 1 ∨ j = 2 ∨ j = 3 := by omega
    rcases this with rfl | rfl | rfl | rfl <;> simp, List.mem_map.mpr ⟨o, ho, rfl⟩⟩
theorem keys_few {S : List (Int × Str)} (hn : S.Nodup) (hs : ∀ q ∈ S, q ∈ KEYS) : S.length ≤ 20 := nodup_short hn hs
theorem NM_short : ∀ {o : Str}, o ∈ NM → o.length < 3 := by
  intro o ho
  simp only [NM, List.mem_cons, List.not_mem_nil, or_false] at ho
  rcases ho with rfl | rfl | rfl | rfl | rfl <;> decide +kernel
/-- the environments: sta does not change, l is the whole ledger -/
structure Wd (prog : Program) (w : World) (sta l : List (Addr × Obj)) (c : Int) (ea da fa la : Int → Addr) (fo : Int → Obj) (kvs : Int → List (Str × Value)) (G : Int → Str → Option Plan) : Prop where
  sub : ∀ p ∈ sta, p ∈ l
  env : ∀ i, 0 ≤ i → i < c → (ea i, instObj 278 (da i)) ∈ sta
  dct : ∀ i, 0 ≤ i → i < c → ∃ t0 t1 t2 t3 t4 t5 t6 t7 t8, (da i, envD w.params i (fa i) (la i) t0 t1 t2 t3 t4 t5 t6 t7 t8) ∈ sta
  frm : ∀ i, 0 ≤ i → i < c → (fa i, fo i) ∈ l ∧ (fo i).IsDictOf (PySem.strKind prog w) (kvs i) ∧ (fa i == sysModules) = false ∧ (kvs i).length ≤ 50
  bd : ∀ i, 0 ≤ i → i < c → ∀ x, Bd w.params sta c ea i (G i x) (valueAt (kvs i) x)
  nm : ∀ i x j o, G i x = some (.name j o) → o ∈ NM
  off : ∀ p ∈ sta, ∀ i, 0 ≤ i → i < c → p.1 ≠ fa i
  inj : ∀ i j, 0 ≤ i → i < c → 0 ≤ j → j < c → fa i = fa j → i = j
theorem Wd.mono {prog : Program} {w : World} {sta l l' : List (Addr × Obj)} {c : Int} {ea da fa la : Int → Addr} {fo : Int → Obj} {kvs : Int → List (Str × Value)} {G : Int → Str → Option Plan} (W : Wd prog w sta l c ea da fa la fo kvs G) (k : ∀ p ∈ l, p ∈ l') :
    Wd prog w sta l' c ea da fa la fo kvs G :=
  { W with sub := fun p hp => k p (W.sub p hp), frm := fun i h0 h1 => ⟨k _ (W.frm i h0 h1).1, (W.frm i h0 h1).2⟩ }
/-- the frame map, told at one name more -/
theorem fr_tell {h₀ h : Heap} {L : Addr} {m : Str → Option Value} {x : Str} {v : Value} (F : Fr h₀ L h m) (e : m x = some v) : Fr h₀ L h (fun y => if y = x then some v else m y) := by
  have : (fun y => if y = x then some v else m y) = m := by
    funext y
    by_cases h : y = x
    · rw [if_pos h, h, e]
    · rw [if_neg h]
  rw [this]; exact F

end

section
theorem offJ : True := by
  w_top off
  exact True.intro
local macro_rules | `(tactic| walk_at "nothing at all") => `(tactic| fail)
local macro_rules | `(tactic| walk_at "getMethod ref") => `(tactic| (k_here; (with_reducible show wpAny _ _ (getMethod (Value.ref _) (Str.ofString "get") _) _ _ _); k_dflt (refine kdg_method (knd := PySem.strKind _ _) (by k_asm) (by k_mem) (by k_asm) ?_)))
local macro_rules | `(tactic| walk_at "call builtin:dict.get") => `(tactic| (k_here; k_dflt (refine kdg_get1 (knd := PySem.strKind _ _) (by k_asm) (by k_mem) (by k_asm) (by k_asm) (strKind_is _ _ _ _) _ (by assumption) ?_)))

section
variable {prog : Program} {w : World} {p : Program} {loose : List Str} {mean : ExcName → Option Value} {mg mb : Str → Option Value} {dp un : Nat} {gd : Option (List Code)} {cn : Str} {cs : Scope} {a : Addr} {ccd : Value} {cl : List (Str × Addr)} {outer : List Env} {A₀ : Around} {base h₀ : Heap} {L : Addr} {m : Str → Option Value} {news : List (Addr × Obj)} {s : Shared} {Q E : Value → Shared → Prop}

set_option maxHeartbeats 4000000 in
theorem lookup_ok {e d f l : Addr} {i : Int} {nm : Str} {tn t0 t1 t2 t3 t4 t5 t6 t7 t8 : Tok} {fo : Obj} {kvs : List (Str × Value)} {v : Option Value} (B : Below A₀ base outer h₀) (F : Fr h₀ L s.heap m) (X : (hd.heap_39 w.params).In h₀) (N : News h₀ L s.heap news) (T : Top p loose mean mg mb h₀) (hk : cs.kind = .function) (hdp : dp < 500) (hun : un < 500)
    (h1 : (e, instObj 278 d) ∈ news) (h2 : (d, envD w.params i f l t0 t1 t2 t3 t4 t5 t6 t7 t8) ∈ news) (h3 : (f, fo) ∈ news) (h4 : fo.IsDictOf (PySem.strKind prog w) kvs) (h5 : (f == sysModules) = false) (hv : valueAt kvs nm = v)
    (hret : ∀ h' tk', Fr h₀ L h' m → News h₀ L h' news → Q (v.getD .none) { s with heap := h', toks := tk' }) :
    wpAny (model prog w) (ktrTop dp un gd cn cs L a ccd cl outer) (call (.ref 146) [.ref e, .str nm tn]) Q E s := by
  k_steps
  all_goals exact hret _ _ (by k_asm) (News.sub (by k_asm) (by lcg_sub))

set_option maxHeartbeats 4000000 in
theorem dots_ok {nm : Str} {tn : Tok} (B : Below A₀ base outer h₀) (F : Fr h₀ L s.heap m) (X : (hd.heap_39 w.params).In h₀) (N : News h₀ L s.heap news) (T : Top p loose mean mg mb h₀) (hk : cs.kind = .function) (hdp : dp < 500) (hun : un < 500)
    (hl : nm.length < 3)
    (hret : ∀ h' tk', Fr h₀ L h' m → News h₀ L h' news → Q (.bool false) { s with heap := h', toks := tk' }) :
    wpAny (model prog w) (ktrTop dp un gd cn cs L a ccd cl outer) (call (.ref 414) [.str nm tn]) Q E s := by
  k_steps
  all_goals exact hret _ _ (by k_asm) (News.sub (by k_asm) (by lcg_sub))

end

end

section
theorem offK : True := by
  w_top off
  exact True.intro
section
variable {prog : Program} {w : World} {A : Around} {E : Value → Shared → Prop} {s : Shared} {h₀ : Heap} {L : Addr} {m : Str → Option Value} {news : List (Addr × Obj)}
theorem dict_tupK {env : Env} {keys : List (Option Expr)} {values : List Expr} {pos : Pos} {Q : Value → Shared → Prop} (hf : tupFirst keys = true) (F : Fr h₀ L s.heap m) (N : News h₀ L s.heap news)
    (hbig : sysModules < h₀.objs.size) (hall : keys.all (·.isSome) = true) (hl : keys.length = values.length) (h0 : keys ≠ []) (hlen : keys.length ≤ 15)
    (h : ∀ o, Fr h₀ L (s.heap.push { cls := .type "dict", data := .dict #[] }) m → News h₀ L (s.heap.push { cls := .type "dict", data := .dict #[] }) ((s.heap.objs.size, o) :: news) → (∀ p ∈ news, p.1 ≠ s.heap.objs.size) →
      (s.heap.objs.size == sysModules) = false → o.IsDictOf (intKind prog w) [] →
      wpAny (model prog w) A (evalPairs (pairTrees keys values env pos)) (TupStores prog w A E s.heap.objs.size Q) E { s with heap := s.heap.push { cls := .type "dict", data := .dict #[] } }) :
    wpAny (model prog w) A (eval (.Dict keys values pos) env) Q E s :=
  Dict_tup_made hf F N hbig hall hl h0 hlen fun o F' N' lo hd => h o F' N' (fun p hp => Nat.ne_of_lt (Heap.lt_size (N p hp).1)) lo hd
end

local macro_rules | `(tactic| walk_at "eval Dict") => `(tactic| (k_here; k_dflt (refine dict_tupK (by with_unfolding_all rfl) (by k_asm) (by k_asm) (modules_low (TopRead.nolimit (by k_asm))) (by with_unfolding_all rfl) (by with_unfolding_all rfl) (List.cons_ne_nil _ _) (by with_unfolding_all decide) ?_); intro o' F' N' ne' lo' hd'))

local macro_rules | `(tactic| walk_at "TupStores") => `(tactic| (k_dflt (refine td_stores (by units_room) (by k_asm) (by k_asm) (by k_asm) (by k_asm) ?_); intro h' o' F' N' td'))

local macro_rules | `(tactic| walk_at "compareOp In ref ref") => `(tactic| (k_here; k_dflt (refine td_in (by units_room) (by k_asm) (by k_mem) (by k_asm) (by k_asm) (by k_mem) ?_)))

local macro_rules | `(tactic| walk_at "setItem ref ref") => `(tactic| (k_here; k_dflt (refine' td_set ?u ?F ?N ?U ?T ?k ?z ?_; (case u => units_room); (case F => k_asm); (case N => k_asm); (case U => k_updF); (case T => k_asm); (case k => k_mem); (case z => omega)); intro h' o' F' N' td'; (try dsimp only at N')))

local macro_rules | `(tactic| walk_at "call ref") => `(tactic| (k_here; (with_reducible show wpAny _ _ (call (Value.ref 146) _) _ _ _); k_dflt (refine lookup_ok (by k_asm) (by k_asm) (by k_asm) (by k_asm) (by k_asm) (by first | assumption | exact rfl) (by ktr_room) (by ktr_units) (by k_mem) (by k_mem) (by k_mem) (by k_asm) (by k_asm) (by k_asm) ?_); intro h' tk' F' N'; (try dsimp only [Option.getD])))

local macro_rules | `(tactic| walk_at "call ref") => `(tactic| (k_here; (with_reducible show wpAny _ _ (call (Value.ref 414) _) _ _ _); k_dflt (refine dots_ok (by k_asm) (by k_asm) (by k_asm) (by k_asm) (by k_asm) (by first | assumption | exact rfl) (by ktr_room) (by ktr_units) (by first | assumption | exact NM_short (by assumption)) ?_); intro h' tk' F' N'))

section
variable {prog : Program} {w : World} {p : Program} {loose : List Str} {mean : ExcName → Option Value} {mg mb : Str → Option Value} {dp un : Nat} {gd : Option (List Code)} {cn : Str} {cs : Scope} {a : Addr} {ccd : Value} {cl : List (Str × Addr)} {outer : List Env} {A₀ : Around} {base h₀ : Heap} {L : Addr} {m : Str → Option Value} {news : List (Addr × Obj)} {s : Shared} {Q E : Value → Shared → Prop}

set_option maxHeartbeats 4000000 in
theorem kind_ok {A : Around} {sta : List (Addr × Obj)} {c i : Int} {ea : Int → Addr} {x : Addr} {g : Plan} {Q : Value → Shared → Prop} (F : Fr h₀ L s.heap m) (X : (hd.heap_39 w.params).In h₀) (N : News h₀ L s.heap news) (T : Top p loose mean mg mb h₀)
    (h7 : Bd w.params sta c ea i (some g) (some (.ref x))) (h9 : ∀ p ∈ sta, p ∈ news) (h : ∀ ks t, (ks == Str.ofString "dots") = false → Q (.str ks t) { s with toks := s.toks + 1 }) : wpAny (model prog w) A (getAttr (.ref x) (Str.ofString "kind") true) Q E s := by
  have h10 := h7.mono h9
  cases h10 <;> k_steps
  all_goals (refine h _ _ ?_; decide +kernel)

end

end

section
theorem offL : True := by
  w_top off
  exact True.intro
section
variable {prog : Program} {w : World} {A : Around} {E : Value → Shared → Prop} {s : Shared} {h₀ : Heap} {L d a : Addr} {m : Str → Option Value} {news news₀ : List (Addr × Obj)} {o : Obj} {f : Int → Str → Option Value} {n : Nat} {i : Int} {ti tn : Tok} {nm : Str}
theorem td_in2 {Q : Value → Shared → Prop} (hu : A.units + 1 < cLine) (N : News h₀ L s.heap news) (hd : (d, o) ∈ news) (T : TDF prog w news₀ o f n) (hs : ∀ p ∈ news₀, p ∈ news) (lo : (d == sysModules) = false) (hk : (a, keyObj i ti nm tn) ∈ news)
    (h : Q (.bool (f i nm).isSome) { s with toks := s.toks + 3 }) : wpAny (model prog w) A (compareOp .In (.ref a) (.ref d)) Q E s := td_in hu N hd (T.mono hs) lo hk h
theorem td_set2 {v : Value} {g : Obj → List (Addr × Obj)} {Q : Unit → Shared → Prop} (hu : A.units + 1 < cLine) (F : Fr h₀ L s.heap m) (N : News h₀ L s.heap news) (U : UpdF d o news g) (T : TDF prog w news₀ o f n) (hs : ∀ p ∈ news₀, p ∈ news) (hk : (a, keyObj i ti nm tn) ∈ news) (hsz : n ≤ 1000)
    (h : ∀ h' o', Fr h₀ L h' m → News h₀ L h' (g o') → TDF prog w (g o') o' (fun j x => if j = i ∧ x = nm then some v else f j x) (n + 1) → Q () { s with heap := h', toks := s.toks + 3 }) :
    wpAny (model prog w) A (setItem (.ref d) (.ref a) v) Q E s := td_set hu F N U (T.mono hs) hk hsz h
end

local macro_rules | `(tactic| walk_at "eval Dict") => `(tactic| (k_here; k_dflt (refine dict_tupK (by with_unfolding_all rfl) (by k_asm) (by k_asm) (modules_low (TopRead.nolimit (by k_asm))) (by with_unfolding_all rfl) (by with_unfolding_all rfl) (List.cons_ne_nil _ _) (by with_unfolding_all decide) ?_); intro o' F' N' ne' lo' hd'))

local macro_rules | `(tactic| walk_at "TupStores") => `(tactic| (k_dflt (refine td_stores (by units_room) (by k_asm) (by k_asm) (by k_asm) (by k_asm) ?_); intro h' o' F' N' td'))

local macro_rules | `(tactic| walk_at "compareOp In ref ref") => `(tactic| (k_here; k_dflt (refine td_in2 (by units_room) (by k_asm) (by k_mem) (by with_reducible assumption) (by intro p hp; repeat (first | exact hp | refine List.mem_cons_of_mem _ ?_)) (by with_reducible assumption) (by k_mem) ?_)))

local macro_rules | `(tactic| walk_at "setItem ref ref") => `(tactic| (k_here; k_dflt (refine' td_set2 ?u ?F ?N ?U ?T ?S ?k ?z ?_; (case u => units_room); (case F => k_asm); (case N => k_asm); (case U => k_updF); (case T => with_reducible assumption); (case S => (intro p hp; repeat (first | exact hp | refine List.mem_cons_of_mem _ ?_))); (case k => k_mem); (case z => omega)); intro h' o' F' N' td'; (try dsimp only at N')))

local macro_rules | `(tactic| walk_at "call ref") => `(tactic| (k_here; (with_reducible show wpAny _ _ (call (Value.ref 146) _) _ _ _); k_dflt (refine lookup_ok (by k_asm) (by k_asm) (by k_asm) (by k_asm) (by k_asm) (by first | assumption | exact rfl) (by ktr_room) (by ktr_units) (by k_mem) (by k_mem) (by k_mem) (by k_asm) (by k_asm) (by k_asm) ?_); intro h' tk' F' N'; (try dsimp only [Option.getD])))

local macro_rules | `(tactic| walk_at "call ref") => `(tactic| (k_here; (with_reducible show wpAny _ _ (call (Value.ref 414) _) _ _ _); k_dflt (refine dots_ok (by k_asm) (by k_asm) (by k_asm) (by k_asm) (by k_asm) (by first | assumption | exact rfl) (by ktr_room) (by ktr_units) (by first | assumption | exact NM_short (by assumption)) ?_); intro h' tk' F' N'))

local macro_rules | `(tactic| walk_at "ite") => `(tactic| (first | with_reducible refine PySem.W.ite_pos (beq_self_eq_true _) ?_ | with_reducible refine PySem.W.ite_pos (decide_eq_true rfl) ?_))
local macro_rules | `(tactic| walk_at "WhileStep2") => `(tactic| (first | (refine ws_ret ?_) | (refine Halt.out ?_)))
local macro_rules | `(tactic| walk_at "exec While") => `(tactic| refine Halt.out ?_)
local macro_rules | `(tactic| walk_at "getAttr ref") => `(tactic| (k_here; (with_reducible show wpAny _ _ (getAttr (Value.ref _) (Str.ofString "kind") true) _ _ _); k_dflt (refine kind_ok (by k_asm) (by k_asm) (by k_asm) (by k_asm) (by with_reducible assumption) (by assumption) ?_); intro ks' t' hk'))

section
variable {prog : Program} {w : World} {p : Program} {loose : List Str} {mean : ExcName → Option Value} {mg mb : Str → Option Value} {dp un : Nat} {gd : Option (List Code)} {cn : Str} {cs : Scope} {a : Addr} {ccd : Value} {cl : List (Str × Addr)} {outer : List Env} {A₀ : Around} {base h₀ : Heap} {L : Addr} {m : Str → Option Value} {news : List (Addr × Obj)} {s : Shared} {Q E : Value → Shared → Prop}

theorem mem_rot {α : Type} {a b c p : α} {l : List α} (h : p ∈ c :: a :: b :: l) : p ∈ a :: b :: c :: l := by
  simp only [List.mem_cons] at h ⊢
  rcases h with h | h | h | h <;> simp [h]
theorem mem_rot' {α : Type} {a b c p : α} {l : List α} (h : p ∈ a :: b :: c :: l) : p ∈ c :: a :: b :: l := by
  simp only [List.mem_cons] at h ⊢
  rcases h with h | h | h | h <;> simp [h]
def MaJ (prog : Program) (w : World) (news : List (Addr × Obj)) (c : Int) (kvs : Int → List (Str × Value)) (ea : Int → Addr) (G : Int → Str → Option Plan) (i : Int) (nm : Str) : Nat → (Str → Option Value) → List (Addr × Obj) → Prop := fun n m₁ l =>
  ∃ S j o x sd so rest to, l = (sd, so) :: rest ∧ (∀ p ∈ news, p ∈ rest) ∧ (∀ p ∈ rest, p.1 ≠ sd) ∧ (sd == sysModules) = false ∧ TDF prog w ((sd, so) :: rest) so (seenF ((j, o) :: S)) (S.length + 1) ∧
    (j, o) ∉ S ∧ ((j, o) :: S).Nodup ∧ (∀ q ∈ (j, o) :: S, q ∈ KEYS) ∧ n + S.length = 20 ∧ 0 ≤ j ∧ j < c ∧ o ∈ NM ∧ valueAt (kvs j) o = some (.ref x) ∧ (∀ b, Res G S j o b → Res G [] i nm b) ∧
    m₁ (Str.ofString "env") = some (.ref (ea j)) ∧ m₁ (Str.ofString "name") = some (.str o to) ∧ m₁ (Str.ofString "bound") = some (.ref x) ∧ m₁ (Str.ofString "seen") = some (.ref sd)
set_option maxHeartbeats 4000000 in
theorem ma_ok {sta : List (Addr × Obj)} {c i : Int} {ea da fa la : Int → Addr} {fo : Int → Obj} {kvs : Int → List (Str × Value)} {G : Int → Str → Option Plan} {nm : Str} {tn : Tok} {g : Plan} (B : Below A₀ base outer h₀) (F : Fr h₀ L s.heap m) (X : (hd.heap_39 w.params).In h₀) (N : News h₀ L s.heap news) (T : Top p loose mean mg mb h₀) (hk : cs.kind = .function) (hdp : dp < 400) (hun : un < 400)
    (W : Wd prog w sta news c ea da fa la fo kvs G) (hc : c ≤ 4) (hi0 : 0 ≤ i) (hi1 : i < c) (hnm : nm ∈ NM) (hg : G i nm = some g)
    (hret : ∀ b h' tk', Res G [] i nm b → Fr h₀ L h' m → News h₀ L h' news → Q (.bool b) { s with heap := h', toks := tk' }) :
    wpAny (model prog w) (ktrTop dp un gd cn cs L a ccd cl outer) (call (.ref 407) [.none, .str nm tn, .ref (ea i)]) Q E s := by
  have h1 := W.sub _ (W.env i hi0 hi1)
  obtain ⟨t0, t1, t2, t3, t4, t5, t6, t7, t8, h2⟩ := W.dct i hi0 hi1
  replace h2 := W.sub _ h2
  obtain ⟨h3, h4, h5, h6⟩ := W.frm i hi0 hi1
  have h7 := W.bd i hi0 hi1 nm
  rw [hg] at h7
  obtain ⟨x, h8⟩ := h7.ref
  rw [h8] at h7
  have h9 := W.sub
  k_steps
  unfold Halt
  rename Fr _ _ _ (fun y => if y = Str.ofString "seen" then _ else _) => F1
  rename TDF _ _ _ _ _ _ => T1
  rename News _ _ _ ((_, keyObj _ _ _ _) :: _) => N1
  rename _ ∧ AllLt _ news => l1
  rename ∀ p ∈ news, p.1 ≠ _ => ne1
  rename (_ == sysModules) = false => lo1
  rename Below (ktrTop _ _ _ _ _ _ _ _ _ _) _ _ _ => B1
  rename Top _ _ _ _ _ _ => T2
  rename (hd.heap_39 w.params).In _ => X1
  rename (_ == Str.ofString "dots") = false => hks
  clear hks
  rw [seenF_one] at T1
  replace T1 := T1.mono fun p hp => mem_swap hp
  replace N1 := News.sub N1 fun p hp => mem_swap hp
  refine While_inv2 (MaJ prog w news c kvs ea G i nm) (n₀ := 20) F1 N1 ?_ ?_
  · refine ⟨[], i, nm, x, _, _, _, tn, rfl, by intro p hp; exact .tail _ hp, ?_, lo1, ?_, List.not_mem_nil, by simp, by intro q hq; rw [List.mem_singleton.mp hq]; exact keys_mem hi0 (by omega) hnm, rfl, hi0, hi1, hnm, h8, fun _ h => h, rfl, rfl, rfl, rfl⟩
    · exact List.forall_mem_cons.mpr ⟨Nat.ne_of_gt l1.1, ne1⟩
    · exact T1
  · rintro n m₁ l h₁ tk₁ F₁ N₁ ⟨S, j, o, x', sd, so, rest, to, rfl, hsub, hne, hlo, T₁, hS, hnd, hK, hn, hj0, hj1, ho, hv, hR, e1, e2, e3, e4⟩
    replace F₁ := fr_tell4 F₁ e1 e2 e3 e4
    clear F1 T1 N1 ne1 lo1 l1 e1 e2 e3 e4 h1 h2 h3 h4 h5 h6 h7 h8 x
    have k1 := hsub _ (W.sub _ (W.env j hj0 hj1))
    obtain ⟨u0, u1, u2, u3, u4, u5, u6, u7, u8, k2⟩ := W.dct j hj0 hj1
    replace k2 := hsub _ (W.sub _ k2)
    obtain ⟨k3, k4, k5, k6⟩ := W.frm j hj0 hj1
    replace k3 := hsub _ k3
    have k7 := W.bd j hj0 hj1 o
    rw [hv] at k7
    have k8 : Bd w.params rest c ea j (G j o) (some (.ref x')) := k7.mono fun p hp => hsub p (W.sub p hp)
    clear k7
    cases hg' : G j o with
    | none => rw [hg'] at k8; cases k8
    | some g' =>
      rw [hg'] at k8
      cases k8 with
      | empty a b =>
        k_steps
        exact hret _ _ _ (hR _ (.stop hS hg' rfl)) (by k_asm) (News.sub (by k_asm) (by intro p hp; replace hp := hsub p hp; repeat (first | exact hp | refine List.mem_cons_of_mem _ ?_)))
      | vec a b =>
        k_steps
        exact hret _ _ _ (hR _ (.stop hS hg' rfl)) (by k_asm) (News.sub (by k_asm) (by intro p hp; replace hp := hsub p hp; repeat (first | exact hp | refine List.mem_cons_of_mem _ ?_)))
      | pnum h0 h1 a b c d =>
        k_steps
        exact hret _ _ _ (hR _ (.stop hS hg' rfl)) (by k_asm) (News.sub (by k_asm) (by intro p hp; replace hp := hsub p hp; repeat (first | exact hp | refine List.mem_cons_of_mem _ ?_)))
      | dflt a b c d =>
        k_steps
        exact hret _ _ _ (hR _ (.stop hS hg' rfl)) (by k_asm) (News.sub (by k_asm) (by intro p hp; replace hp := hsub p hp; repeat (first | exact hp | refine List.mem_cons_of_mem _ ?_)))
      | @name x d y dy jw ow _ _ _ _ _ _ _ _ _ _ _ _ _ _ h0 h1 a b c' d' =>
        have q1 := hsub _ (W.sub _ (W.env jw h0 h1))
        obtain ⟨v0, v1, v2, v3, v4, v5, v6, v7, v8, q2⟩ := W.dct jw h0 h1
        replace q2 := hsub _ (W.sub _ q2)
        obtain ⟨q3, q4, q5, q6⟩ := W.frm jw h0 h1
        replace q3 := hsub _ q3
        have hbw := W.bd jw h0 h1 ow
        rcases Classical.em ((jw, ow) ∈ (j, o) :: S) with hm | hm
        · have hm' := seenF_in hm
          k_steps
          exact hret _ _ _ (hR _ (.name hS hg' (.seen hm))) (by k_asm) (News.sub (by k_asm) (by intro p hp; replace hp := hsub p hp; repeat (first | exact hp | refine List.mem_cons_of_mem _ ?_)))
        · have hm' := seenF_out hm
          cases hgw : G jw ow with
          | none =>
            rw [hgw] at hbw
            have hvw := hbw.unfree
            k_steps
            exact hret _ _ _ (hR _ (.name hS hg' (.free hm hgw))) (by k_asm) (News.sub (by k_asm) (by intro p hp; replace hp := hsub p hp; repeat (first | exact hp | refine List.mem_cons_of_mem _ ?_)))
          | some gw =>
            rw [hgw] at hbw
            obtain ⟨xw, hvw⟩ := hbw.ref
            k_steps
            unfold Halt WhileStep2
            dsimp only
            rename TDF _ _ ((_, _) :: (_, _) :: _) _ _ _ => T3
            rename Fr _ _ _ (fun y => if y = Str.ofString "bound" then _ else _) => F3
            rename News _ _ _ ((_, _) :: (_, _) :: (sd, _) :: rest) => N3
            rename _ ∧ sd < _ ∧ AllLt _ rest => l3
            rename sd < _ ∧ AllLt _ rest => l4
            rw [seenF_cons] at T3
            have hnd' : ((jw, ow) :: (j, o) :: S).Nodup := List.nodup_cons.mpr ⟨hm, hnd⟩
            have how : ow ∈ NM := W.nm _ _ _ _ hg'
            have hK' : ∀ q ∈ (jw, ow) :: (j, o) :: S, q ∈ KEYS := List.forall_mem_cons.mpr ⟨keys_mem h0 (by omega) how, hK⟩
            have hlen := keys_few hnd' hK'
            simp only [List.length_cons] at hlen
            refine ⟨_, _, _, _, n - 1, rfl, F3, News.sub N3 fun p hp => mem_rot hp, by omega, (j, o) :: S, jw, ow, xw, sd, _, _, _, rfl, fun p hp => .tail _ (.tail _ (hsub p hp)), List.forall_mem_cons.mpr ⟨Nat.ne_of_gt l3.2.1, List.forall_mem_cons.mpr ⟨Nat.ne_of_gt l4.1, hne⟩⟩, hlo, T3.mono fun p hp => mem_rot' hp, hm, hnd', hK', ?_, h0, h1, how, hvw, fun b hb => hR b (.name hS hg' hb), rfl, rfl, rfl, rfl⟩
            simp only [List.length_cons]
            omega

end

end

section
theorem offM : True := by
  w_top off
  exact True.intro
/-- a plan's tuple -/
abbrev tup3 (k : Str) (t0 : Tok) (j : Int) (t1 : Tok) (o : Str) (t2 : Tok) : Obj := { cls := .type "tuple", data := .seq #[.str k t0, .int j t1, .str o t2] }
/-- how the ledger l bears an entry of plan_of -/
inductive Pt (l : List (Addr × Obj)) (c : Int) : Option Plan → Option Value → Prop
  | free : Pt l c none none
  | empty {x : Addr} {t0 t1 t2 : Tok} : (x, tup3 (Str.ofString "empty") t0 0 t1 (Str.ofString "") t2) ∈ l → Pt l c (some .empty) (some (.ref x))
  | number {x : Addr} {t0 t1 t2 : Tok} : (x, tup3 (Str.ofString "number") t0 0 t1 (Str.ofString "") t2) ∈ l → Pt l c (some .number) (some (.ref x))
  | name {x : Addr} {j : Int} {o : Str} {t0 t1 t2 : Tok} : 0 ≤ j → j < c → o ∈ NM → (x, tup3 (Str.ofString "name") t0 j t1 o t2) ∈ l → Pt l c (some (.name j o)) (some (.ref x))
  | dflt {x : Addr} {t0 t1 t2 : Tok} : (x, tup3 (Str.ofString "default") t0 0 t1 (Str.ofString "") t2) ∈ l → Pt l c (some .dflt) (some (.ref x))
theorem Pt.mono {l l' : List (Addr × Obj)} {c : Int} {g : Option Plan} {v : Option Value} (k : ∀ p ∈ l, p ∈ l') (h : Pt l c g v) : Pt l' c g v := by
  cases h with
  | free => exact .free
  | empty a => exact .empty (k _ a)
  | number a => exact .number (k _ a)
  | name h0 h1 h2 a => exact .name h0 h1 h2 (k _ a)
  | dflt a => exact .dflt (k _ a)

/-- the list of what has been seen -/
structure SeenL (l : List (Addr × Obj)) (its : Array Value) (S : List (Int × Str)) : Prop where
  here : ∀ v ∈ its, ∃ b j t x u, v = Value.ref b ∧ (b, keyObj j t x u) ∈ l ∧ (j, x) ∈ S
  all : ∀ q ∈ S, ∃ b t u, Value.ref b ∈ its ∧ (b, keyObj q.1 t q.2 u) ∈ l
theorem SeenL.nil {l : List (Addr × Obj)} : SeenL l #[] [] := ⟨fun v hv => by simp at hv, fun q hq => by cases hq⟩
theorem SeenL.mono {l l' : List (Addr × Obj)} {its : Array Value} {S : List (Int × Str)} (k : ∀ p ∈ l, p ∈ l') (h : SeenL l its S) : SeenL l' its S :=
  ⟨fun v hv => let ⟨b, j, t, x, u, e, h1, h2⟩ := h.here v hv; ⟨b, j, t, x, u, e, k _ h1, h2⟩, fun q hq => let ⟨b, t, u, h1, h2⟩ := h.all q hq; ⟨b, t, u, h1, k _ h2⟩⟩
theorem SeenL.push {l : List (Addr × Obj)} {its : Array Value} {S : List (Int × Str)} {b : Addr} {j : Int} {t u : Tok} {x : Str} (h : SeenL l its S) (hb : (b, keyObj j t x u) ∈ l) : SeenL l (its.push (.ref b)) ((j, x) :: S) :=
  ⟨fun v hv => by
    rcases Array.mem_push.mp hv with hv | rfl
    · obtain ⟨b', j', t', x', u', e, h1, h2⟩ := h.here v hv
      exact ⟨b', j', t', x', u', e, h1, .tail _ h2⟩
    · exact ⟨b, j, t, x, u, rfl, hb, .head _⟩, fun q hq => by
    rcases List.mem_cons.mp hq with rfl | hq
    · exact ⟨b, t, u, Array.mem_push.mpr (.inr rfl), hb⟩
    · obtain ⟨b', t', u', h1, h2⟩ := h.all q hq
      exact ⟨b', t', u', Array.mem_push.mpr (.inl h1), h2⟩⟩
/-- the test's word -/
def unseen (S : List (Int × Str)) (j : Int) (o : Str) : Bool := !decide ((j, o) ∈ S)
theorem unseen_in {S : List (Int × Str)} {j : Int} {o : Str} (h : (j, o) ∈ S) : unseen S j o = false := by simp [unseen, h]
theorem unseen_out {S : List (Int × Str)} {j : Int} {o : Str} (h : (j, o) ∉ S) : unseen S j o = true := by simp [unseen, h]
section
variable {prog : Program} {w : World} {A : Around} {E : Value → Shared → Prop} {s : Shared} {h₀ : Heap} {L ls a d : Addr} {m : Str → Option Value} {news news₀ : List (Addr × Obj)} {o : Obj} {its : Array Value} {k n : Nat} {S : List (Int × Str)} {i : Int} {ti tn : Tok} {nm : Str} {f : Int → Str → Option Value}
theorem eqAt_key {b : Addr} {j : Int} {tj tx : Tok} {x : Str} (ha : s.heap.get? a = some (keyObj i ti nm tn)) (hb : s.heap.get? b = some (keyObj j tj x tx)) (hu : A.units < cLine) : PySem.SeqAt.EqAt A s (.ref a) (.ref b) (decide (keyOf i nm = keyOf j x)) :=
  fun _ _ _ _ hq => wpAny_eqBool_tuple hu (keyObj_is ha) (keyObj_is hb) hq
theorem seen_notin {Q : Value → Shared → Prop} (hu : A.units + 1 < cLine) (N : News h₀ L s.heap news) (hl : (ls, listOf its k) ∈ news) (hS : SeenL news₀ its S) (hs : ∀ p ∈ news₀, p ∈ news) (hk : (a, keyObj i ti nm tn) ∈ news) (h : Q (.bool (unseen S i nm)) s) :
    wpAny (model prog w) A (compareOp .NotIn (.ref a) (.ref ls)) Q E s := by
  replace hS := hS.mono hs
  let e : Value → Bool := fun v => @decide (∃ b t u, v = Value.ref b ∧ (b, keyObj i t nm u) ∈ news) (Classical.propDecidable _)
  refine PySem.SeqAt.notIn_listAt (items := its) e ⟨_, N.get hl, rfl, _, rfl⟩ (fun y hy => ?_) ?_
  · obtain ⟨b, j, t, x, u, rfl, h1, h2⟩ := hS.here y hy
    have := eqAt_key (A := A.in1) (s := s) (N.get h1) (N.get hk) hu
    have e1 : e (.ref b) = decide (keyOf j x = keyOf i nm) := by
      by_cases hq : keyOf j x = keyOf i nm
      · have h3 : j = i ∧ x = nm := by
          injection hq with q1 q2
          injection q1 with q1
          injection q2 with q2
          injection q2 with q2
          exact ⟨q1, q2⟩
        obtain ⟨rfl, rfl⟩ := h3
        have : ∃ b' t u, Value.ref b = Value.ref b' ∧ (b', keyObj j t x u) ∈ news := ⟨b, t, u, rfl, h1⟩
        exact (@decide_eq_true _ (Classical.propDecidable _) this).trans (decide_eq_true rfl).symm
      · have : ¬ ∃ b' t u, Value.ref b = Value.ref b' ∧ (b', keyObj i t nm u) ∈ news := by
          rintro ⟨b', t', u', hb, h3⟩
          injection hb with hb
          subst hb
          have h4 := Option.some.inj ((N.get h1).symm.trans (N.get h3))
          injection h4 with _ _ h5
          injection h5 with h5
          simp only [Array.mk.injEq, List.cons.injEq, Value.int.injEq, Value.str.injEq] at h5
          exact hq (by rw [h5.1.1, h5.2.1.1])
        exact (@decide_eq_false _ (Classical.propDecidable _) this).trans (decide_eq_false hq).symm
    rw [e1]
    exact this
  · have e2 : its.any e = decide ((i, nm) ∈ S) := by
      by_cases hm : (i, nm) ∈ S
      · obtain ⟨b, t, u, h1, h2⟩ := hS.all _ hm
        rw [decide_eq_true hm, Array.any_eq_true']
        refine ⟨_, h1, ?_⟩
        have : ∃ b' t u, Value.ref b = Value.ref b' ∧ (b', keyObj i t nm u) ∈ news := ⟨b, t, u, rfl, h2⟩
        exact @decide_eq_true _ (Classical.propDecidable _) this
      · rw [decide_eq_false hm, Array.any_eq_false']
        intro v hv he
        obtain ⟨b, j, t, x, u, rfl, h1, h2⟩ := hS.here v hv
        have he' : ∃ b' t u, Value.ref b = Value.ref b' ∧ (b', keyObj i t nm u) ∈ news := @of_decide_eq_true _ (Classical.propDecidable _) he
        obtain ⟨b', t', u', hb, h3⟩ := he'
        injection hb with hb
        subst hb
        have h4 := Option.some.inj ((N.get h1).symm.trans (N.get h3))
        injection h4 with _ _ h5
        injection h5 with h5
        simp only [Array.mk.injEq, List.cons.injEq, Value.int.injEq, Value.str.injEq] at h5
        rw [h5.1.1, h5.2.1.1] at h2
        exact hm h2
    rw [e2]
    exact h
theorem td_get2 {dflt : Value} {v : Option Value} {Q : Value → Shared → Prop} (hu : A.units + 1 < cLine) (N : News h₀ L s.heap news) (hd : (d, o) ∈ news) (T : TDF prog w news₀ o f n) (hs : ∀ p ∈ news₀, p ∈ news) (lo : (d == sysModules) = false) (hk : (a, keyObj i ti nm tn) ∈ news)
    (hv : f i nm = v) (h : Q (v.getD dflt) { s with toks := s.toks + 3 }) : wpAny (model prog w) A (call (.builtin "dict.get") [.ref d, .ref a, dflt]) Q E s := td_get hu N hd (T.mono hs) lo hk (hv ▸ h)
theorem td_method2 {pl : Sem Bool} {Q : Value × List Value → Shared → Prop} (N : News h₀ L s.heap news) (hd : (d, o) ∈ news) (T : TDF prog w news₀ o f n) (hs : ∀ p ∈ news₀, p ∈ news) (h : Q (.builtin "dict.get", [.ref d]) s) :
    wpAny (model prog w) A (getMethod (.ref d) "get" pl) Q E s := td_getMethod N hd (T.mono hs) h
end

end

section
theorem offN : True := by
  w_top off
  exact True.intro
local macro_rules | `(tactic| walk_at "WhileStep2") => `(tactic| (first | (refine ws_ret ?_) | (refine Halt.out ?_)))

local macro_rules | `(tactic| walk_at "exec While") => `(tactic| refine Halt.out ?_)

local macro_rules | `(tactic| walk_at "getMethod ref") => `(tactic| (k_here; (with_reducible show wpAny _ _ (getMethod (Value.ref _) (Str.ofString "get") _) _ _ _); k_dflt (refine td_method2 (by k_asm) (by k_mem) (by with_reducible assumption) (by intro p hp; repeat (first | exact hp | refine List.mem_cons_of_mem _ ?_)) ?_)))

local macro_rules | `(tactic| walk_at "call builtin:dict.get") => `(tactic| (k_here; k_dflt (refine td_get2 (by units_room) (by k_asm) (by k_mem) (by with_reducible assumption) (by intro p hp; repeat (first | exact hp | refine List.mem_cons_of_mem _ ?_)) (by with_reducible assumption) (by k_mem) (by with_reducible assumption) ?_); (try dsimp only [Option.getD])))

local macro_rules | `(tactic| walk_at "compareOp NotIn ref ref") => `(tactic| (k_here; k_dflt (refine seen_notin (by units_room) (by k_asm) (by k_mem) (by with_reducible assumption) (by intro p hp; repeat (first | exact hp | refine List.mem_cons_of_mem _ ?_)) (by k_mem) ?_)))

local macro_rules | `(tactic| walk_at "call builtin:list.append") => `(tactic| (k_here; (with_reducible show wpAny _ _ (call (Value.builtin _) [Value.ref _, _]) _ _ _); k_dflt (refine' append_K ?k1 ?k2 ?k3 ?_ ?z; (case k1 => k_asm); (case k2 => k_asm); (case k3 => k_upd); (case z => (rw [sizeLine_eq]; omega)); k_whole); intro h' F' N'; (try k_sweep)))

section
variable {prog : Program} {w : World} {p : Program} {loose : List Str} {mean : ExcName → Option Value} {mg mb : Str → Option Value} {dp un : Nat} {gd : Option (List Code)} {cn : Str} {cs : Scope} {a : Addr} {ccd : Value} {cl : List (Str × Addr)} {outer : List Env} {A₀ : Around} {base h₀ : Heap} {L : Addr} {m : Str → Option Value} {news : List (Addr × Obj)} {s : Shared} {Q E : Value → Shared → Prop}

def LdJ (prog : Program) (w : World) (news : List (Addr × Obj)) (c : Int) (pd : Addr) (G : Int → Str → Option Plan) (i : Int) (nm : Str) : Nat → (Str → Option Value) → List (Addr × Obj) → Prop := fun n m₁ l =>
  ∃ S j o ls its k rest tj to, l = (ls, listOf its k) :: rest ∧ (∀ p ∈ news, p ∈ rest) ∧ (∀ p ∈ rest, p.1 ≠ ls) ∧ SeenL rest its S ∧
    S.Nodup ∧ (∀ q ∈ S, q ∈ KEYS) ∧ n + S.length = 21 ∧ its.size = S.length ∧ 0 ≤ j ∧ j < c ∧ o ∈ NM ∧ (∀ b, Res G S j o b → Res G [] i nm b) ∧
    m₁ (Str.ofString "at") = some (.int j tj) ∧ m₁ (Str.ofString "name") = some (.str o to) ∧ m₁ (Str.ofString "seen") = some (.ref ls) ∧ m₁ (Str.ofString "plan_of") = some (.ref pd)
theorem mem_pick {α : Type} {a b c d e p : α} {l : List α} (h : p ∈ e :: c :: l) : p ∈ a :: b :: c :: d :: e :: l := by
  simp only [List.mem_cons] at h ⊢
  rcases h with h | h | h <;> simp [h]
theorem dec_res {G : Int → Str → Option Plan} {S : List (Int × Str)} {j : Int} {o : Str} {b b' : Bool} (e : b' = b) (h : Res G S j o b) : Res G S j o b' := e ▸ h
set_option maxHeartbeats 4000000 in
theorem due_ok {pd : Addr} {po : Obj} {f : Int → Str → Option Value} {n0 : Nat} {c i : Int} {G : Int → Str → Option Plan} {nm : Str} {tn ti : Tok} (B : Below A₀ base outer h₀) (F : Fr h₀ L s.heap m) (X : (hd.heap_39 w.params).In h₀) (N : News h₀ L s.heap news) (T : Top p loose mean mg mb h₀) (hk : cs.kind = .function) (hdp : dp < 400) (hun : un < 400)
    (h1 : (pd, po) ∈ news) (T0 : TDF prog w news po f n0) (lo : (pd == sysModules) = false) (hP : ∀ i, 0 ≤ i → i < c → ∀ x, Pt news c (G i x) (f i x)) (hc : c ≤ 4) (hi0 : 0 ≤ i) (hi1 : i < c) (hnm : nm ∈ NM)
    (hret : ∀ b h' tk', Res G [] i nm b → Fr h₀ L h' m → News h₀ L h' news → Q (.bool b) { s with heap := h', toks := tk' }) :
    wpAny (model prog w) (ktrTop dp un gd cn cs L a ccd cl outer) (call (.ref 428) [.ref pd, .int i ti, .str nm tn]) Q E s := by
  k_steps
  unfold Halt
  rename Fr _ _ _ (fun y => if y = Str.ofString "seen" then _ else _) => F1
  rename News _ _ _ ((_, _) :: _) => N1
  rename ∀ p ∈ news, _ => l1
  refine While_inv2 (LdJ prog w news c pd G i nm) (n₀ := 21) F1 N1 ?_ ?_
  · exact ⟨[], i, nm, _, #[], 0, _, ti, tn, rfl, fun p hp => hp, fun p hp => Nat.ne_of_lt (l1 p hp), SeenL.nil, List.nodup_nil, fun q hq => (nomatch hq), rfl, rfl, hi0, hi1, hnm, fun _ h => h, rfl, rfl, rfl, rfl⟩
  · rintro n m₁ l h₁ tk₁ F₁ N₁ ⟨S, j, o, ls, its, k, rest, tj, to, rfl, hsub, hne, hS, hnd, hK, hn, hsz, hj0, hj1, ho, hR, e1, e2, e3, e4⟩
    replace F₁ := fr_tell4 F₁ e1 e2 e3 e4
    clear F1 N1 l1 e1 e2 e3 e4
    have k1 := hsub _ h1
    replace T0 := T0.mono hsub
    have hp := (hP j hj0 hj1 o).mono hsub
    rcases Classical.em ((j, o) ∈ S) with hm | hm
    · have hm' := unseen_in hm
      k_steps
      exact hret _ _ _ (hR _ (.seen hm)) (by k_asm) (News.sub (by k_asm) (by intro p hp; replace hp := hsub p hp; repeat (first | exact hp | refine List.mem_cons_of_mem _ ?_)))
    · have hm' := unseen_out hm
      generalize hf : f j o = v at hp
      cases hg : G j o with
      | none =>
        rw [hg] at hp
        cases hp
        k_steps
        (refine hret _ _ _ ?_ (by k_asm) (News.sub (by k_asm) (by intro p hp; replace hp := hsub p hp; repeat (first | exact hp | refine List.mem_cons_of_mem _ ?_))); exact hR _ (dec_res (by decide +kernel) (.free hm hg)))
      | some g =>
        rw [hg] at hp
        cases hp with
        | empty a =>
          k_steps
          (refine hret _ _ _ ?_ (by k_asm) (News.sub (by k_asm) (by intro p hp; replace hp := hsub p hp; repeat (first | exact hp | refine List.mem_cons_of_mem _ ?_))); exact hR _ (dec_res (by decide +kernel) (.stop hm hg rfl)))
        | number a =>
          k_steps
          (refine hret _ _ _ ?_ (by k_asm) (News.sub (by k_asm) (by intro p hp; replace hp := hsub p hp; repeat (first | exact hp | refine List.mem_cons_of_mem _ ?_))); exact hR _ (dec_res (by decide +kernel) (.stop hm hg rfl)))
        | dflt a =>
          k_steps
          (refine hret _ _ _ ?_ (by k_asm) (News.sub (by k_asm) (by intro p hp; replace hp := hsub p hp; repeat (first | exact hp | refine List.mem_cons_of_mem _ ?_))); exact hR _ (dec_res (by decide +kernel) (.stop hm hg rfl)))
        | @name x jw ow t0 t1 t2 h0 h1 h2 a =>
          k_steps
          unfold Halt WhileStep2
          dsimp only
          rename Fr _ _ _ (fun y => if y = Str.ofString "name" then _ else _) => F3
          rename News _ _ _ ((_, _) :: (_, _) :: (_, _) :: (_, _) :: (ls, _) :: rest) => N3
          have hnd' : ((j, o) :: S).Nodup := List.nodup_cons.mpr ⟨hm, hnd⟩
          have hK' : ∀ q ∈ (j, o) :: S, q ∈ KEYS := List.forall_mem_cons.mpr ⟨keys_mem hj0 (by omega) ho, hK⟩
          have hlen := keys_few hnd' hK'
          simp only [List.length_cons] at hlen
          refine ⟨_, _, _, _, n - 1, rfl, F3, News.sub N3 fun p hp => mem_pick hp, by omega, (j, o) :: S, jw, ow, ls, _, _, _, _, _, rfl, fun p hp => .tail _ (hsub p hp), List.forall_mem_cons.mpr ⟨by k_ne, hne⟩, (hS.mono fun p hp => .tail _ hp).push (.head _), hnd', hK', ?_, ?_, h0, h1, h2, fun b hb => hR b (.name hm hg hb), rfl, rfl, rfl, rfl⟩
          · simp only [List.length_cons]; omega
          · simp only [Array.size_push, List.length_cons]; omega

end

end

section
theorem offO : True := by
  w_top off
  exact True.intro
/-- a Refusal with its dict -/
abbrev exO (t d : Addr) (tb : Value) : Obj := { cls := .ref 51, dict := some d, data := .fields #[.ref t, tb, .none, .none, .bool false, .none] }
/-- a Refusal as its class makes it -/
abbrev exN (t : Addr) : Obj := { cls := .ref 51, data := .fields #[.ref t, .none, .none, .none, .bool false, .none] }
abbrev msgD (P : Params) (tk : Tok) (v : Value) : Obj := dictOf [⟨PyData.keyHash P (Str.ofString "message"), .str (Str.ofString "message") tk, v⟩] 1
section
variable {prog : Program} {w : World} {A : Around} {E : Value → Shared → Prop} {s : Shared} {e t d : Addr} {tb v : Value} {tk : Tok} {h₀ : Heap} {L : Addr} {m : Str → Option Value} {news : List (Addr × Obj)}
set_option maxHeartbeats 2000000 in
theorem rf_get {expr : Bool} {Q : Value → Shared → Prop} (X : (hd.heap_39 w.params).In s.heap) (he : s.heap.get? e = some (exO t d tb)) (hd' : s.heap.get? d = some (msgD w.params tk v)) (hv : handedIn v = true) (h : Q v { s with toks := s.toks + 1 }) :
    wpAny (model prog w) A (getAttr (.ref e) (Str.ofString "message") expr) Q E s := by
  have I : InstAt s.heap e (exO t d tb) 51 (some (msgD w.params tk v)) := ⟨he, rfl, rfl, hd'⟩
  obtain ⟨hh, g, dr, tk, os⟩ := s
  have L0 := I.type (M := model prog w)
  have L1 := looks_findIn (M := model prog w) X (show findIn (hd.heap_39 w.params) (.ref 51) "__getattribute__" = some (some (.builtin "BaseException.__getattribute__")) from by k_is)
  have L2 : Looks (model prog w) hh (hookBefore (.ref 51)) none := looks_findIn X (show findIn (hd.heap_39 w.params) (.ref 51) "__getattr__" = some none from by k_is)
  have LF := looks_find (M := model prog w) X I (findObj_own (name := Str.ofString "message") (attr := none) (v := v) (by k_is) (by k_is) (by k_is) (by rfl))
  have LI : Looks (model prog w) hh (isInstance (.ref e) (.type "BaseException")) true := L0.andThen (looks_mroIn X (by k_is))
  have hx0 : (expr && onTheHeap (Value.builtin "BaseException.__getattribute__")) = false := by cases expr <;> rfl
  unfold getAttr getAttrBy
  refine wpAny_bind (wpAny_mkText (wpAny_holding (wpAny_bind (L0.at (wpAny_bind (L1.at ?_))))))
  show wpAny _ _ (getAttrByItsOwn _ _ _ _ _ _) _ _ _
  unfold getAttrByItsOwn
  refine wpAny_bind (L2.at (wpAny_bind (wpAny_attempt (wpAny_holding ?_))))
  unfold callGetattribute
  rw [if_neg (by rw [hx0]; decide)]
  unfold boundAndCalled
  rw [PySem.F.attr_Exception.ga.bind]
  refine wpAny_bind (wpAny_pure ?_)
  show wpAny _ _ (call (.builtin "BaseException.__getattribute__") [.ref e, .str (Str.ofString "message") tk]) _ _ _
  refine wpAny_call ?_
  refine codeAny_call_builtin PySem.F.attr_Exception.ga.plain PySem.F.entry_bexc_ga ?_
  refine @check_slot (model prog w) _ _ _ "BaseException.__getattribute__" "BaseException" "__getattribute__" (.ref e) [.str (Str.ofString "message") tk] [] _ (by decide +kernel) (by decide +kernel) LI (PySem.F.args_bexc_ga _ _) ?_
  unfold Builtin.«object.__getattribute__»
  refine wpAny_bind (wpAny_pure ?_)
  refine wpAny_bind (wpAny_pure ?_)
  refine wpAny_bind (L0.at ?_)
  refine wpAny_bind (LF.at ?_)
  show wpAny _ _ (ret v) _ _ _
  refine wpAny_pure ?_
  show wpAny _ _ (handedOut v) _ _ _
  rw [handedOut_of hv]
  exact wpAny_pure h

theorem rf_mro (P : Params) : ∃ cd, clsIn (hd.heap_39 P) 51 = some cd ∧ cd.mro = [.ref 51, .ref 31, .type "Exception", .type "BaseException", .type "object"] ∧ cd.hasDict = true := ⟨_, by k_is, by rfl, by rfl⟩
set_option maxHeartbeats 1000000 in
theorem rf_set {rest : List (Addr × Obj)} {Q : Unit → Shared → Prop} (F : Fr h₀ L s.heap m) (X₀ : (hd.heap_39 w.params).In h₀) (N : News h₀ L s.heap ((e, exN t) :: rest)) (hne : ∀ p ∈ rest, p.1 ≠ e)
    (h : ∀ d h' tk, Fr h₀ L h' m → News h₀ L h' ((e, exO t d .none) :: (d, msgD w.params tk v) :: rest) → (∀ p ∈ rest, p.1 < d) → @LT.lt Nat _ e d → Q () { s with heap := h', toks := s.toks + 2 }) :
    wpAny (model prog w) A (setAttr (.ref e) (Str.ofString "message") v) Q E s := by
  have X := X₀.keeps F.keep
  have he := N.get (.head _)
  have I : InstAt s.heap e (exN t) 51 none := ⟨he, rfl, rfl, trivial⟩
  refine set_plain X I (by k_is) ?_
  obtain ⟨hh, g, dr, tk, os⟩ := s
  dsimp only
  have L0 := I.type (M := model prog w)
  obtain ⟨cd, hc, hmro, hhd⟩ := rf_mro w.params
  have Lc := looks_clsIn (M := model prog w) X hc
  have Lm : Looks (model prog w) hh (mroOf (.ref 51)) cd.mro := Lc.andThen .now
  have LI : Looks (model prog w) hh (isInstance (.ref e) (.type "object")) true := L0.andThen (looks_mroIn X (by k_is))
  have LF := looks_findIn (M := model prog w) X (show findIn (hd.heap_39 w.params) (.ref 51) (Str.ofString "message") = some none from by k_is)
  have SF := PySem.F.store_object
  refine codeAny_call_builtin SF.slot.plain SF.entry ?_
  refine @check_slot (model prog w) _ _ _ "object.__setattr__" "object" "__setattr__" (.ref e) [.str (Str.ofString "message") tk, v] [] _ SF.kind SF.split LI (SF.args (.ref e) (.str (Str.ofString "message") tk) v) ?_
  rw [osa_eq, refuse_eq]
  refine wpAny_bind (wpAny_bind (L0.at (wpAny_bind (Lm.at ?_))))
  rw [hmro, refuseLoop_ref, refuseLoop_ref, PySem.F.store_Exception.passes]
  refine wpAny_pure (wpAny_bind (L0.at (wpAny_bind (LF.at ?_))))
  refine wpAny_bind (wpAny_pure ?_)
  show wpAny _ _ (Builtin.ObjectAttr.storeInOwnDict (.ref e) (.ref 51) (.str (Str.ofString "message") tk) (Str.ofString "message") v false) _ _ _
  refine wpAny_bind (wpAny_pure ?_)
  show wpAny _ _ (Builtin.ObjectAttr.ownDictForStores (.ref e) >>= _) _ _ _
  refine wpAny_bind ?_
  show wpAny _ _ (instanceDict e true) _ _ _
  unfold instanceDict
  refine wpAny_bind (wpAny_loadPart he ?_)
  dsimp only
  refine wpAny_bind (Lc.at ?_)
  rw [hhd]
  dsimp only [Bool.not_true]
  rw [if_neg (by decide), if_neg (by decide)]
  have hes : e ≠ hh.objs.size := Nat.ne_of_lt (Heap.lt_size he)
  have hrs : ∀ p ∈ rest, p.1 < hh.objs.size := fun p hp => Heap.lt_size (N.get (List.mem_cons_of_mem _ hp))
  refine wpAny_bind (wpAny_alloc ?_)
  have N1 := News.push F N emptyDict
  obtain ⟨F2, N2⟩ := news_upd (pre := [(hh.objs.size, emptyDict)]) (d := e) (o := exN t) (o' := exO t hh.objs.size .none) (post := rest) (f := fun o => { cls := o.cls, dict := some hh.objs.size, data := o.data, slots := o.slots }) (F.push emptyDict) N1 (fun p hp => by rw [List.mem_singleton.mp hp]; exact Ne.symm hes) hne rfl rfl
  refine wpAny_bind (wpAny_update (Heap.get?_push_of_some emptyDict he) ?_)
  refine wpAny_pure ?_
  dsimp only
  unfold Builtin.ObjectAttr.storeInDict Builtin.ObjectAttr.newKeyGuard
  refine wpAny_bind (wpAny_pure ?_)
  have D := (N2 (hh.objs.size, emptyDict) (.head _)).1
  unfold nsSet
  refine wpAny_bind (wpAny_bind (wpAny_bind (wpAny_askSetting (wpAny_pure (wpAny_bind (wpAny_mkText (wpAny_bind (wpAny_loadPart D ?_))))))))
  obtain ⟨F3, N3⟩ := news_upd (pre := []) (d := hh.objs.size) (o := emptyDict) (o' := msgD w.params (tk + 1) v) (post := (e, exO t hh.objs.size .none) :: rest) (f := Obj.putName (Str.ofString "message") (PyData.keyHash w.params (Str.ofString "message")) (.str (Str.ofString "message") (tk + 1)) v) F2 N2 (fun p hp => nomatch hp) (fun p hp => by
    rcases List.mem_cons.mp hp with rfl | hp
    · exact hes
    · exact Nat.ne_of_lt (hrs p hp)) (putName_dict _ _ _ _ [] 0) rfl
  refine wpAny_updatePart D ?_
  refine wpAny_bind (wpAny_lookBehind (N3 (hh.objs.size, msgD w.params (tk + 1) v) (.head _)).1 (pastItsLine_dict (by rw [sizeLine_eq]; exact Nat.le_of_ble_eq_true rfl)) ?_)
  refine wpAny_pure ?_
  exact h _ _ _ F3 (News.sub N3 fun p hp => mem_swap hp) hrs (Heap.lt_size he)
end

end

section
theorem offP : True := by
  w_top off
  exact True.intro
theorem rf_cls {P : Params} {h : Heap} (X : (hd.heap_39 P).In h) : ∃ nm q N bs hdct sn sub ab col dd k0 k1 k2 k3 k5,
    h.get? 51 = some (excClassObj nm q 51 N bs [.ref 31, .type "Exception", .type "BaseException", .type "object"] hdct sn sub ab col dd k0 k1 k2 k3 k5 "Exception.__new__") :=
  ⟨_, _, _, _, _, _, _, _, _, _, _, _, _, _, _, X 51 _ (by k_is)⟩
theorem rf_tail {P : Params} {h : Heap} (X : (hd.heap_39 P).In h) : OwnTail h [.type "Exception", .type "BaseException", .type "object"] [.ref 31, .type "Exception", .type "BaseException", .type "object"] :=
  tail_of_in X (by kernel_rfl)
section
variable {prog : Program} {w : World} {A : Around} {E : Value → Shared → Prop} {s : Shared} {msg : Value} {h₀ : Heap} {L : Addr} {m : Str → Option Value} {news : List (Addr × Obj)}
abbrev msgT (msg : Value) : Obj := { cls := .type "tuple", data := .seq [msg].toArray }
set_option maxHeartbeats 1000000 in
theorem rf_call {Q : Value → Shared → Prop} (F : Fr h₀ L s.heap m) (X₀ : (hd.heap_39 w.params).In h₀) (N : News h₀ L s.heap news)
    (h : ∀ e t h', Fr h₀ L h' m → News h₀ L h' ((e, exN t) :: (t, msgT msg) :: news) → (∀ p ∈ (t, msgT msg) :: news, p.1 ≠ e) →
      wpAny (model prog w) (A.under (.builtin "type.__call__" ⟨[.ref 51, msg], []⟩)) (call (.ref 48) [.ref e, msg]) (fun r s' => r = .none ∧ Q (.ref e) s') E { s with heap := h' }) :
    wpAny (model prog w) A (call (.ref 51) [msg]) Q E s := by
  have X := X₀.keeps F.keep
  obtain ⟨hh, g, dr, tk, os⟩ := s
  dsimp only at F N X
  obtain ⟨nm, q, Na, bs, hdct, sn, sub, ab, col, dd, k0, k1, k2, k3, k5, hC⟩ := rf_cls X
  have T := rf_tail X
  have Fx := PySem.F.excBase_Exception
  have f1 := tc_lookup
  have f2 := tc_bind (.ref 51)
  have hT : (⟨hh, g, dr, tk, os⟩ : Shared).TypeIs (.ref 51) "type" := ⟨_, hC, rfl⟩
  refine wpAny_call (codeAny_of_tree ?_)
  show wpAny _ _ (callAny (.ref 51) _) _ _ _
  repeat (any_goals (first | assumption | with_reducible refine wpAny_loadPart_at hC ?_ | wp_step))
  refine ⟨rfl, ?_⟩
  refine codeAny_call_builtin_at (Code.quiet_builtin _ (by decide +kernel)) entry_typeCall (wpAny_check_type_call_sub hC ?_)
  repeat (first | with_reducible refine wpAny_loadPart_at hC ?_ | with_reducible refine wpAny_madeBy_exc hC ?_ | wp_step)
  refine codeAny_call_builtin_code (Code.quiet_builtin _ Fx.quiet) (wpAny_check_new_subU Fx (by decide +kernel) T hC ?_)
  refine codeAny_exc_new_subU Fx (by decide +kernel) Fx T hC ?_ (by show [msg].length ≤ _; rw [sizeLine_eq]; exact Nat.le_of_ble_eq_true rfl)
  show wpAny _ _ _ _ _ _
  have N1 := News.push F N (msgT msg)
  have N2 := News.push (F.push (msgT msg)) N1 (exN hh.objs.size)
  have F2 := (F.push (msgT msg)).push (exN hh.objs.size)
  rw [Heap.size_push] at N2
  have X2 := X₀.keeps F2.keep
  have t1 : Looks (model prog w) ((hh.push (msgT msg)).push (exN hh.objs.size)) (typeOf (.ref (hh.objs.size + 1))) (.ref 51) := (Looks.ld (N2.get (.head _))).andThen .now
  have s1 : Looks (model prog w) ((hh.push (msgT msg)).push (exN hh.objs.size)) (isInstance (.ref (hh.objs.size + 1)) (.ref 51)) true := t1.andThen (looks_mroIn X2 (by k_is))
  have i1 := looks_findIn (M := model prog w) X2 (show findIn (hd.heap_39 w.params) (.ref 51) "__init__" = some (some (.ref 48)) from by k_is)
  have b1 : Looks (model prog w) ((hh.push (msgT msg)).push (exN hh.objs.size)) (bindSpecial (.ref 48) (.ref (hh.objs.size + 1))) (.ref 48, [.ref (hh.objs.size + 1)]) := bind_fn X2 _ (by k_is)
  refine wpAny_bind (s1.at ?_)
  rw [if_neg (by decide)]
  unfold callSpecial? specialOf
  refine wpAny_bind (wpAny_holding (wpAny_bind (wpAny_bind (t1.at (i1.at ?_)))))
  refine wpAny_holding (wpAny_bind (b1.at ?_))
  refine wpAny_bind ?_
  refine wpAny_mono (h (hh.objs.size + 1) hh.objs.size _ F2 N2 (List.forall_mem_cons.mpr ⟨Nat.ne_of_lt (Nat.lt_succ_self _), fun p hp => Nat.ne_of_lt (Nat.lt_succ_of_lt (Heap.lt_size (N.get hp)))⟩)) (fun r s' hr => ?_) fun _ _ z => z
  obtain ⟨rfl, hr⟩ := hr
  exact wpAny_pure (wpAny_pure hr)
end
/-- what is raised is a Refusal -/
def RaisableR (P : Params) (E : Value → Shared → Prop) (v : Value) (s₁ : Shared) : Prop := ∃ e t d, v = .ref e ∧ (hd.heap_39 P).In s₁.heap ∧ s₁.heap.get? e = some (exO t d .none) ∧ E (.ref e) s₁
section
variable {prog : Program} {w : World} {A : Around} {E : Value → Shared → Prop} {s : Shared} {env : Env}
theorem rf_raise {x : PySem.Expr} {pos : Pos} {Q : Flow → Shared → Prop} (hh : A.handled = none) (h : wpAny (model prog w) A (eval x env) (RaisableR w.params E) E s) : wpAny (model prog w) A (exec (.Raise (some x) none pos) env) Q E s := by
  show wpAny _ A (do standAt pos; raiseStmt env (some (do let v ← eval x env; standAt pos; pure v)) none) Q E s
  refine wpAny_bind (wpAny_standAt ?_)
  unfold raiseStmt
  refine wpAny_bind (wpAny_bind (wpAny_mono h (fun v s₁ h₁ => wpAny_bind (wpAny_standAt (wpAny_pure ?_))) fun _ _ z => z))
  obtain ⟨e, t, d, rfl, X, he, hE⟩ := h₁
  obtain ⟨hp, g, dr, tk, os⟩ := s₁
  obtain ⟨nm, q, Na, bs, hdct, sn, sub, ab, col, dd, k0, k1, k2, k3, k5, hC⟩ := rf_cls X
  have hcB : ([.ref 51, .ref 31, .type "Exception", .type "BaseException", .type "object"] : List Value).contains (.type "BaseException") = true := by decide +kernel
  repeat (first | with_reducible refine wpAny_loadPart_at he ?_ | with_reducible refine wpAny_loadPart_at hC ?_ | (with_reducible refine wpAny_isSubtype_exc hC ?_; rw [hcB]) | wp_step)
  exact wpAny_raiseNew_none hh hE
end
/-- a Refusal that flies, or is held at the frame fl -/
def FlyR (base : Heap) (l : List Env) (e t d : Addr) (fl : Value) (h : Heap) : Prop :=
  base.StaysIn h ∧ base.get? e = none ∧ h.FunFrames base l ∧ ∃ T oT ts, h.get? e = some (exO t d (.ref T)) ∧ base.get? T = none ∧ T ≠ e ∧ h.get? T = some oT ∧ oT.data = .fields ts ∧ ts[3]? = some fl
section
variable {M : Model} {A : Around} {E : Value → Shared → Prop} {s : Shared} {base : Heap} {env : Env} {outer l : List Env} {L e t d : Addr} {fl tb : Value} {Q : Unit → Shared → Prop}
theorem frames_no_fields {h : Heap} {oe : Obj} {vs : Array Value} (hl : h.FunFrames base l) (he : h.get? e = some oe) (hd : oe.data = .fields vs) : e ∉ l.filterMap (·.frame) := fun hm => by
  obtain ⟨_, o, ho, hnf⟩ := hl.mem hm
  obtain rfl := Option.some.inj (he.symm.trans ho)
  exact hnf vs hd
theorem entryR {head : Value} {hadNext : Bool} (hfr : A.frames = some (env :: outer)) (hf : env.frame = some L) (hl : s.heap.FunFrames base (env :: outer)) (hkb : base.StaysIn s.heap) (hen : base.get? e = none) (he : s.heap.get? e = some (exO t d tb))
    (h : ∀ h', FlyR base (env :: outer) e t d (rawInt L) h' → s.heap.UpToSlots h' → Q () { s with heap := h' }) :
    wpAny M A (do let a ← frameOf env; let pl ← entryPlaceOf L hadNext; let b ← EntryCells.newEntry head a .none (rawInt L) .none pl; setField (.ref e) 1 b) Q E s := by
  have hef := frames_no_fields hl he rfl
  refine wpAny_bind (wpAny_frameOf_fun hfr hl hf fun h₁ hs₁ => ?_)
  refine wpAny_bind (wpAny_entryPlaceOf fun pl hpl => ?_)
  unfold EntryCells.newEntry newFields
  refine wpAny_bind (wpAny_newObj_type ?_ (hpl.sizeOk5 _ _ _ _ _))
  have he₁ : h₁.get? e = some (exO t d tb) := (hs₁.2.1 e hef).trans he
  have kb₁ : base.StaysIn h₁ := fun b o q => (hs₁.2.1 b fun hm => by rw [(hl.mem hm).1] at q; cases q).trans (hkb b o q)
  generalize hTo : ({ cls := .type "traceback", dict := none, data := .fields ([head, .ref L, .none, rawInt L, .none] ++ (if pl.isEmpty then List.replicate 6 Value.none else pl)).toArray } : Obj) = To
  have hnfr : To.isFreed = false := by rw [← hTo]; rfl
  have he₂ := Heap.get?_push_of_some To he₁
  have hTe : h₁.objs.size ≠ e := Nat.ne_of_gt (Heap.lt_size he₁)
  refine wpAny_setField he₂ rfl (Nat.le_of_ble_eq_true rfl) (h _ ?_ ?_)
  · refine ⟨fun b o q => ?_, hen, hl.of_keeps fun b o hb hnf => ?_, h₁.objs.size, To, _, (Heap.get?_update_self _ he₂ rfl), kb₁.fresh, hTe, (Heap.get?_update_other _ _ (Ne.symm hTe)).trans (Heap.get?_push_size _ hnfr), by rw [← hTo], ?_⟩
    · have hbe : e ≠ b := fun z => by rw [← z, hen] at q; cases q
      exact (Heap.get?_update_other _ _ hbe).trans (Heap.get?_push_of_some _ (kb₁ b o q))
    · have hbe : e ≠ b := fun z => by
        subst z
        obtain rfl := Option.some.inj (he.symm.trans hb)
        exact hnf _ rfl
      obtain ⟨sl, hs⟩ := hs₁.2.2 b o hb
      exact ⟨_, (Heap.get?_update_other _ _ hbe).trans (Heap.get?_push_of_some _ hs), rfl⟩
    · first | (simp; done) | (rcases hpl with rfl | ⟨_, _, _, _, _, _, _, rfl⟩ <;> simp)
  · intro b o hb hnf
    have hbe : e ≠ b := fun z => by
      subst z
      obtain rfl := Option.some.inj (he.symm.trans hb)
      exact hnf _ rfl
    obtain ⟨sl, hs⟩ := hs₁.2.2 b o hb
    exact ⟨sl, (Heap.get?_update_other _ _ hbe).trans (Heap.get?_push_of_some _ hs)⟩
end

end

section
theorem offQ : True := by
  w_top off
  exact True.intro
section
variable {M : Model} {A : Around} {E : Value → Shared → Prop} {s : Shared} {base : Heap} {env : Env} {outer l : List Env} {L e t d : Addr} {fl tb : Value} {Q : Unit → Shared → Prop}
theorem noteR_first (hfr : A.frames = some (env :: outer)) (hf : env.frame = some L) (hl : s.heap.FunFrames base (env :: outer)) (hkb : base.StaysIn s.heap) (hen : base.get? e = none) (he : s.heap.get? e = some (exO t d .none))
    (h : ∀ h', FlyR base (env :: outer) e t d (rawInt L) h' → s.heap.UpToSlots h' → Q () { s with heap := h' }) : wpAny M A (noteFrame (.ref e) env) Q E s := by
  unfold noteFrame
  simp only [hf]
  refine wpAny_bind (wpAny_field he rfl (x := .none) rfl ?_)
  rw [if_neg (by decide)]
  exact entryR hfr hf hl hkb hen he h
/-- what a store into the traceback's third field leaves alone -/
theorem flightSet {T : Addr} {oT : Obj} {ts : Array Value} {v : Value} (hh : FlyR base l e t d fl s.heap) (hT : s.heap.get? T = some oT) (hdT : oT.data = .fields ts) (h3 : 3 < ts.size) (he : s.heap.get? e = some (exO t d (.ref T))) (hnT : base.get? T = none) (hTe : T ≠ e) :
    FlyR base l e t d v (s.heap.update T (Obj.mapFields (·.setIfInBounds 3 v))) ∧ s.heap.UpToSlots (s.heap.update T (Obj.mapFields (·.setIfInBounds 3 v))) := by
  have other : ∀ b, b ≠ T → (s.heap.update T (Obj.mapFields (·.setIfInBounds 3 v))).get? b = s.heap.get? b := fun b hb => Heap.get?_update_other _ _ (Ne.symm hb)
  have plain : ∀ b o, s.heap.get? b = some o → (∀ vs, o.data ≠ .fields vs) → b ≠ T := fun b o hb hnf z => by
    subst z
    obtain rfl := Option.some.inj (hT.symm.trans hb)
    exact hnf _ hdT
  obtain ⟨f1, f2, f3, _⟩ := hh
  refine ⟨⟨fun b o q => (other b fun z => by rw [z, hnT] at q; cases q).trans (f1 b o q), f2, f3.of_keeps fun b o hb hnf => ⟨o, (other b (plain b o hb hnf)).trans hb, rfl⟩, T, _, _, (other e (Ne.symm hTe)).trans he, hnT, hTe,
    Heap.get?_update_self _ hT (Obj.isFreed_of_fields (Obj.data_mapFields hdT _)), Obj.data_mapFields hdT _, by simp [h3]⟩, fun b o hb hnf => ⟨o.slots, (other b (plain b o hb hnf)).trans hb⟩⟩
theorem landR (hh : FlyR base l e t d fl s.heap) (h : ∀ h', FlyR base l e t d .none h' → s.heap.UpToSlots h' → Q () { s with heap := h' }) : wpAny M A (setFlight (.ref e) none) Q E s := by
  obtain ⟨_, _, _, T, oT, ts, he, hnT, hTe, hT, hdT, h3⟩ := id hh
  have hsz : 3 < ts.size := (Array.getElem?_eq_some_iff.mp h3).1
  unfold setFlight
  refine wpAny_bind (wpAny_field he rfl (x := .ref T) rfl ?_)
  rw [if_pos (show (Value.ref T != Value.none) = true from by simp)]
  obtain ⟨a, b⟩ := flightSet (v := .none) hh hT hdT hsz he hnT hTe
  exact wpAny_setField hT hdT hsz (h _ a b)
theorem noteR_on (hfr : A.frames = some (env :: outer)) (hf : env.frame = some L) (hh : FlyR base (env :: outer) e t d .none s.heap)
    (h : ∀ h', FlyR base (env :: outer) e t d (rawInt L) h' → s.heap.UpToSlots h' → Q () { s with heap := h' }) : wpAny M A (noteFrame (.ref e) env) Q E s := by
  obtain ⟨_, _, _, T, oT, ts, he, hnT, hTe, hT, hdT, h3⟩ := id hh
  have hsz : 3 < ts.size := (Array.getElem?_eq_some_iff.mp h3).1
  unfold noteFrame
  simp only [hf]
  refine wpAny_bind (wpAny_field he rfl (x := .ref T) rfl ?_)
  rw [if_pos (show (Value.ref T != Value.none) = true from by simp)]
  refine wpAny_bind (wpAny_field hT hdT h3 ?_)
  rw [if_neg (show ¬ ((Value.none == rawInt L) = true) from by simp [rawInt])]
  obtain ⟨a, b⟩ := flightSet (v := .none) hh hT hdT hsz he hnT hTe
  refine wpAny_bind (wpAny_setField hT hdT hsz ?_)
  obtain ⟨a1, a2, a3, T', oT', ts', a4, _⟩ := a
  exact entryR hfr hf a3 a1 a2 a4 fun h' x y => h h' x (b.trans y)
theorem leaveR_first (hfr : A.frames = some (env :: outer)) (hf : env.frame = some L) (hl : s.heap.FunFrames base (env :: outer)) (hkb : base.StaysIn s.heap) (hen : base.get? e = none) (he : s.heap.get? e = some (exO t d .none))
    (h : ∀ h', FlyR base outer e t d .none h' → s.heap.UpToSlots h' → Q () { s with heap := h' }) : wpAny M A (leaving env (.ref e)) Q E s := by
  unfold leaving
  refine wpAny_bind (noteR_first hfr hf hl hkb hen he fun h' x y => landR x fun h'' x' y' => ?_)
  obtain ⟨a1, a2, ⟨_, _, a3⟩, a4⟩ := x'
  exact h h'' ⟨a1, a2, a3, a4⟩ (y.trans y')
end
/-- a Refusal flies; the ledger news stands -/
def RaisedR (base : Heap) (l : List Env) (e t d : Addr) (news : List (Addr × Obj)) (h : Heap) : Prop :=
  ∃ B : Heap, base.StaysIn B ∧ (∀ q ∈ news, B.get? q.1 = some q.2 ∧ base.get? q.1 = none) ∧ FlyR B l e t d .none h
section
variable {M : Model} {A : Around} {E : Value → Shared → Prop} {s' : Shared} {base g : Heap} {outer : List Env} {L a e t d : Addr} {m : Str → Option Value} {name : Str} {scope : Scope} {cd : Value} {Q : Unit → Shared → Prop} {rest : List (Addr × Obj)}
theorem leaveR (K : Below A base outer g) (F : Fr g L s'.heap m) (N : News g L s'.heap ((e, exO t d .none) :: rest)) (hne : ∀ p ∈ rest, p.1 ≠ e)
    (hQ : ∀ h', RaisedR base outer e t d rest h' → g.UpToSlots h' → Q () { s' with heap := h' }) (hk : scope.kind = .function := by rfl) :
    wpAny M (A.deeper (envOf name scope L a cd)) (leaving (envOf name scope L a cd) (.ref e)) Q E s' := by
  have K' := K.push (name := name) (a := a) (cd := cd) F hk
  have he := N.get (.head _)
  have hef := frames_no_fields K'.frames he rfl
  let as : List Addr := e :: (envOf name scope L a cd :: outer).filterMap (·.frame)
  have hin : ∀ env ∈ (envOf name scope L a cd :: outer), ∀ b, env.frame = some b → b ∈ as := fun env he b hb => .tail _ (List.mem_filterMap.mpr ⟨env, he, hb⟩)
  have ben : base.get? e = none := fresh_of_stays K.stays (N.fresh (.head _))
  have st : base.StaysIn (hideAll s'.heap as) := fun b o q => hideAll_get _ (K'.stays b o q) fun hm => by
    rcases List.mem_cons.mp hm with z | hm
    · rw [z, ben] at q; cases q
    · rw [(K'.frames.mem hm).1] at q; cases q
  have hl : ∀ q ∈ rest, (hideAll s'.heap as).get? q.1 = some q.2 ∧ base.get? q.1 = none := fun q hq => by
    have n := N q (.tail _ hq)
    refine ⟨hideAll_get _ n.1 fun hm => ?_, fresh_of_stays K.stays n.2.2⟩
    rcases List.mem_cons.mp hm with z | hm
    · exact hne q hq z
    · obtain ⟨env, he, hf⟩ := List.mem_filterMap.mp hm
      rcases List.mem_cons.mp he with rfl | he
      · exact n.2.1 (Option.some.inj hf).symm
      · obtain ⟨o, ho, _⟩ := (K.frames.mem (List.mem_filterMap.mpr ⟨env, he, hf⟩)).2
        rw [n.2.2] at ho; cases ho
  exact leaveR_first K'.stack rfl (funFrames_hide K'.frames hin) (fun b o q => of_hideAll _ q) (hideAll_none _ (.head _)) he fun h' x y =>
    hQ h' ⟨_, st, hl, x⟩ ((Heap.UpToSlots.of_keeps F.keep).trans y)
end
theorem RaisedR.sub {base : Heap} {l : List Env} {e t d : Addr} {news news' : List (Addr × Obj)} {h : Heap} (R : RaisedR base l e t d news h) (k : ∀ p ∈ news', p ∈ news) : RaisedR base l e t d news' h :=
  let ⟨B, a, b, c⟩ := R; ⟨B, a, fun q hq => b q (k q hq), c⟩

end

section
theorem offR : True := by
  w_top off
  exact True.intro
local macro_rules | `(tactic| walk_at "call ref") => `(tactic| (k_here; (with_reducible show wpAny _ _ (call (Value.ref 146) _) _ _ _); k_dflt (refine lookup_ok (by k_asm) (by k_asm) (by k_asm) (by k_asm) (by k_asm) (by first | assumption | exact rfl) (by ktr_room) (by ktr_units) (by k_mem) (by k_mem) (by k_mem) (by k_asm) (by k_asm) (by k_asm) ?_); intro h' tk' F' N'; (try dsimp only [Option.getD])))

local macro_rules | `(tactic| walk_at "call ref") => `(tactic| (k_here; (with_reducible show wpAny _ _ (call (Value.ref 414) _) _ _ _); k_dflt (refine dots_ok (by k_asm) (by k_asm) (by k_asm) (by k_asm) (by k_asm) (by first | assumption | exact rfl) (by ktr_room) (by ktr_units) (by first | assumption | exact NM_short (by assumption)) ?_); intro h' tk' F' N'))

local macro_rules | `(tactic| walk_at "exec Raise some none") => `(tactic| (k_here; k_dflt (refine rf_raise (by rfl) ?_)))

local macro_rules | `(tactic| walk_at "call ref") => `(tactic| (k_here; (with_reducible show wpAny _ _ (call (Value.ref 51) _) _ _ _); k_dflt (refine rf_call (by k_asm) (by k_asm) (by k_asm) ?_); intro e' t' h' F' N' l1))

local macro_rules | `(tactic| walk_at "setAttr ref") => `(tactic| (k_here; (with_reducible show wpAny _ _ (setAttr _ (Str.ofString "message") _) _ _ _); k_dflt (refine rf_set (by k_asm) (by k_asm) (by k_asm) (by k_all) ?_); intro d' h' tk' F' N' l1 l2; (try k_lt l1)))

section
variable {prog : Program} {w : World} {p : Program} {loose : List Str} {mean : ExcName → Option Value} {mg mb : Str → Option Value} {dp un : Nat} {gd : Option (List Code)} {cn : Str} {cs : Scope} {a : Addr} {ccd : Value} {cl : List (Str × Addr)} {outer : List Env} {A₀ : Around} {base h₀ : Heap} {L : Addr} {m : Str → Option Value} {news : List (Addr × Obj)} {s : Shared} {Q E : Value → Shared → Prop}

set_option maxHeartbeats 4000000 in
theorem mr_ok {sta : List (Addr × Obj)} {c i : Int} {ea da fa la : Int → Addr} {fo : Int → Obj} {kvs : Int → List (Str × Value)} {G : Int → Str → Option Plan} {nm : Str} {tn : Tok} (B : Below A₀ base outer h₀) (F : Fr h₀ L s.heap m) (X : (hd.heap_39 w.params).In h₀) (N : News h₀ L s.heap news) (T : Top p loose mean mg mb h₀) (hk : cs.kind = .function) (hdp : dp < 400) (hun : un < 400)
    (W : Wd prog w sta news c ea da fa la fo kvs G) (hc : c ≤ 4) (hi0 : 0 ≤ i) (hi1 : i < c) (hnm : nm ∈ NM) (hg : G i nm = none)
    (hE : ∀ e t d tk tm g' h' tk', Fr h₀ L g' m → g'.UpToSlots h' → RaisedR base (envX cn cs L a ccd cl :: outer) e t d ((d, msgD w.params tk (.str (Str.ofString "'missing' can only be used for arguments") tm)) :: news) h' → E (.ref e) { s with heap := h', toks := tk' }) :
    wpAny (model prog w) (ktrTop dp un gd cn cs L a ccd cl outer) (call (.ref 407) [.none, .str nm tn, .ref (ea i)]) Q E s := by
  have h1 := W.sub _ (W.env i hi0 hi1)
  obtain ⟨t0, t1, t2, t3, t4, t5, t6, t7, t8, h2⟩ := W.dct i hi0 hi1
  replace h2 := W.sub _ h2
  obtain ⟨h3, h4, h5, h6⟩ := W.frm i hi0 hi1
  have h7 := W.bd i hi0 hi1 nm
  rw [hg] at h7
  replace h7 := h7.unfree
  k_steps
  rename News _ _ _ ((_, exO _ _ _) :: _) => N3
  rename Fr _ _ (Shared.heap _) _ => F3
  rename Below _ _ (envX _ _ _ _ _ _ :: outer) _ => B3
  rename (hd.heap_39 w.params).In _ => X3
  rename Fr h₀ L _ m => FG
  rename ∀ p ∈ (_, msgT _) :: news, _ => l3
  refine ⟨_, _, _, rfl, X3.keeps F3.keep, N3.get (.head _), ?_⟩
  refine leaveR B3 F3 N3 (List.forall_mem_cons.mpr ⟨by k_ne, l3⟩) fun h' R U => ?_
  exact hE _ _ _ _ _ _ _ _ FG U (R.sub fun p hp => by
    rcases List.mem_cons.mp hp with rfl | hp
    · exact .head _
    · exact .tail _ (.tail _ hp))

end

end

section
theorem offS : True := by
  w_top off
  exact True.intro
section
variable {prog : Program} {w : World} {A : Around} {E : Value → Shared → Prop} {s : Shared} {env : Env} {h₀ : Heap} {x : Str} {body : List Stmt} {Q : Flow → Shared → Prop}
theorem unrPost_mono {L I : Addr} {it : Obj} {s₁ s₂ : Shared} {f : Flow} {r r' : (Str → Option Value) → List (Addr × Obj) → Prop} (k : ∀ m l, (∀ p ∈ l, p.1 ≠ I) → r m l → r' m l) (h : UnrPost h₀ L s₁ I it r Q f s₂) : UnrPost h₀ L s₁ I it r' Q f s₂ := by
  cases f with
  | ret v => exact h
  | brk => exact h
  | next => obtain ⟨h', tk, m', l', e, F, N, o, q⟩ := h; exact ⟨h', tk, m', l', e, F, N, o, k _ _ o q⟩
  | cont => obtain ⟨h', tk, m', l', e, F, N, o, q⟩ := h; exact ⟨h', tk, m', l', e, F, N, o, k _ _ o q⟩
/-- a range walked by a word J over the turn's number, the frame's map and the ledger -/
theorem rangeJ {I : Addr} {a : Int} {n : Nat} (J : Nat → (Str → Option Value) → List (Addr × Obj) → Prop)
    (turn : ∀ i m l, i < n → J i m l → (∀ p ∈ l, p.1 ≠ I) → ∀ t h tk it, Fr h₀ env.locals h (fun y => if y = x then some (.int (a + (i : Int)) t) else m y) → News h₀ env.locals h ((I, it) :: l) →
      wpAny (model prog w) A (execs body env) (UnrPost h₀ env.locals { s with heap := h, toks := tk } I it (J (i + 1)) Q) E { s with heap := h, toks := tk })
    (done : ∀ m l h tk, J n m l → Fr h₀ env.locals h m → News h₀ env.locals h l → Q .next { s with heap := h, toks := tk }) :
    ∀ k i m l, i + k = n → J i m l → (∀ p ∈ l, p.1 ≠ I) → RangeRest prog w A E h₀ env x body Q s I a n k i m l
  | 0, i, m, l, e, hJ, _ => RangeRest.zero fun h tk F N => by
    obtain rfl : i = n := e
    exact done m l h tk hJ F N
  | k + 1, i, m, l, e, hJ, ho => RangeRest.succ fun t h tk F N =>
    wpAny_mono (turn i m l (by omega) hJ ho t h tk _ F N) (fun _ _ p => unrPost_mono (fun m' l' o' q => rangeJ J turn done k (i + 1) m' l' (by omega) q o') p) fun _ _ z => z
/-- a text walked by a word J over the signs that are left -/
theorem strJ {I : Addr} (J : List Str → (Str → Option Value) → List (Addr × Obj) → Prop)
    (turn : ∀ c r m l, J (c :: r) m l → (∀ p ∈ l, p.1 ≠ I) → ∀ t h tk it, Fr h₀ env.locals h (fun y => if y = x then some (.str c t) else m y) → News h₀ env.locals h ((I, it) :: l) →
      wpAny (model prog w) A (execs body env) (UnrPost h₀ env.locals { s with heap := h, toks := tk } I it (J r) Q) E { s with heap := h, toks := tk })
    (done : ∀ m l h tk, J [] m l → Fr h₀ env.locals h m → News h₀ env.locals h l → Q .next { s with heap := h, toks := tk }) :
    ∀ r m l, J r m l → (∀ p ∈ l, p.1 ≠ I) → StrRest prog w A E h₀ env x body Q s I r m l
  | [], m, l, hJ, _ => StrRest.zero fun h tk F N => done m l h tk hJ F N
  | c :: r, m, l, hJ, ho => StrRest.succ fun t it h tk F N =>
    wpAny_mono (turn c r m l hJ ho t h tk it F N) (fun _ _ p => unrPost_mono (fun m' l' o' q => strJ J turn done r m' l' q o') p) fun _ _ z => z
/-- a range that the word J walks -/
theorem iter_rangeJ {r : Addr} {a₀ b₀ : Int} {t₀ u₀ v₀ : Tok} {n : Nat} {m₀ : Str → Option Value} {l₀ : List (Addr × Obj)} (J : Nat → (Str → Option Value) → List (Addr × Obj) → Prop)
    (hh : A.handled = none) (hr : IsRange s.heap r a₀ b₀ 1 t₀ u₀ v₀) (hsmall : Builtin.Range.small a₀ b₀ 1 = true) (hn : Builtin.Range.rangeSize a₀ b₀ 1 = (n : Int)) (F : Fr h₀ env.locals s.heap m₀) (N : News h₀ env.locals s.heap l₀) (hJ : J 0 m₀ l₀)
    (turn : ∀ I i m l, i < n → J i m l → (∀ p ∈ l, p.1 ≠ I) → ∀ t h tk it, Fr h₀ env.locals h (fun y => if y = x then some (.int (a₀ + (i : Int)) t) else m y) → News h₀ env.locals h ((I, it) :: l) →
      wpAny (model prog w) A (execs body env) (UnrPost h₀ env.locals { s with heap := h, toks := tk } I it (J (i + 1)) Q) E { s with heap := h, toks := tk })
    (done : ∀ m l h tk, J n m l → Fr h₀ env.locals h m → News h₀ env.locals h l → Q .next { s with heap := h, toks := tk }) :
    wpAny (model prog w) A (pyIter (.ref r)) (fun it s₂ => LoopAtV prog w A h₀ env x body Q E it s₂) E s :=
  iter_rangeUnr hh hr hsmall hn F N fun I hI => rangeJ J (turn I) done n 0 m₀ l₀ (Nat.zero_add n) hJ fun p hp => Nat.ne_of_lt (hI p hp)
theorem iter_strJ {tx : Str} {t : Tok} {ls : List Str} {m₀ : Str → Option Value} {l₀ : List (Addr × Obj)} (J : List Str → (Str → Option Value) → List (Addr × Obj) → Prop)
    (hh : A.handled = none) (F : Fr h₀ env.locals s.heap m₀) (N : News h₀ env.locals s.heap l₀) (hx : tx.cps.toList.map (fun c => (⟨#[c]⟩ : Str)) = ls) (hJ : J ls m₀ l₀)
    (turn : ∀ I c r m l, J (c :: r) m l → (∀ p ∈ l, p.1 ≠ I) → ∀ t h tk it, Fr h₀ env.locals h (fun y => if y = x then some (.str c t) else m y) → News h₀ env.locals h ((I, it) :: l) →
      wpAny (model prog w) A (execs body env) (UnrPost h₀ env.locals { s with heap := h, toks := tk } I it (J r) Q) E { s with heap := h, toks := tk })
    (done : ∀ m l h tk, J [] m l → Fr h₀ env.locals h m → News h₀ env.locals h l → Q .next { s with heap := h, toks := tk }) :
    wpAny (model prog w) A (pyIter (.str tx t)) (fun it s₂ => LoopAtV prog w A h₀ env x body Q E it s₂) E s :=
  iter_strUnr hh F N hx fun I hI => strJ J (turn I) done ls m₀ l₀ hJ fun p hp => Nat.ne_of_lt (hI p hp)
theorem range_small {c : Int} (h0 : 0 < c) (h1 : c ≤ 4) : Builtin.Range.small 0 c 1 = true ∧ Builtin.Range.rangeSize 0 c 1 = (c.toNat : Int) := by
  have : c = 1 ∨ c = 2 ∨ c = 3 ∨ c = 4 := by omega
  rcases this with rfl | rfl | rfl | rfl <;> exact ⟨by decide +kernel, by decide +kernel⟩
/-- an item of rows -/
theorem row_item {value slice : PySem.Expr} {L l : Addr} {m : Str → Option Value} {news : List (Addr × Obj)} {its : Array Value} {n : Nat} {k : Int} {u : Tok} {v : Value} {Q : Value → Shared → Prop} (N : News h₀ L s.heap news) (hm : (l, listOf its n) ∈ news)
    (h0 : 0 ≤ k) (h1 : k ≤ 100) (hx : its[k.toNat]? = some v) (h : Q v s) (hs : subscripted slice false (.ref l) (.int k u) = operate [.ref l, .int k u] (getItem (.ref l) (.int k u)) := by with_unfolding_all rfl) :
    wpAny (model prog w) A (subscriptTail value slice (.ref l) (.int k u)) Q E s :=
  have hl : s.heap.IsList l its := ⟨_, N.get hm, rfl, _, rfl⟩
  tail_any hl.typeIs slot_list_getitem.lookup (wpAny_getItem_list hl h0 (by omega) hx h) hs
end
section
variable {K : Type} [DecidableEq K]
theorem valueAt_cons (x : K × Value) (l : List (K × Value)) (y : K) : valueAt (x :: l) y = if x.1 = y then some x.2 else valueAt l y := by
  unfold valueAt
  by_cases h : x.1 = y <;> simp [List.find?_cons, h]
theorem valueAt_map (k : K) (v : Value) (y : K) : ∀ l : List (K × Value), valueAt (l.map fun kv => if kv.1 = k then (kv.1, v) else kv) y = if y = k then (valueAt l y).map (fun _ => v) else valueAt l y
  | [] => by simp [valueAt]
  | x :: l => by
    rw [List.map_cons, valueAt_cons, valueAt_cons, valueAt_map k v y l]
    by_cases h1 : x.1 = k
    · by_cases h2 : y = k
      · subst h2; simp [h1]
      · have h3 : ¬ x.1 = y := fun e => h2 (e ▸ h1)
        have h4 : ¬ k = y := fun e => h2 e.symm
        simp [h1, h2, h4]
    · by_cases h2 : x.1 = y
      · have h3 : ¬ y = k := fun e => h1 (h2.trans e)
        simp [h1, h2, h3]
      · simp [h1, h2]
theorem valueAt_append_none {k : K} {v : Value} : ∀ {l : List (K × Value)}, valueAt l k = none → ∀ y, valueAt (l ++ [(k, v)]) y = if y = k then some v else valueAt l y
  | [], _, y => by
    rw [List.nil_append, valueAt_cons]
    by_cases h : k = y
    · simp [h]
    · have : ¬ y = k := fun e => h e.symm
      simp [h, this]
  | x :: l, h, y => by
    rw [valueAt_cons] at h
    by_cases h1 : x.1 = k
    · rw [if_pos h1] at h; cases h
    · rw [if_neg h1] at h
      rw [List.cons_append, valueAt_cons, valueAt_append_none h, valueAt_cons]
      by_cases h2 : x.1 = y
      · have : ¬ y = k := fun e => h1 (h2.trans e)
        simp [h2, this]
      · simp [h2]
theorem valueAt_isSome (k : K) : ∀ l : List (K × Value), l.any (fun kv => kv.1 = k) = (valueAt l k).isSome
  | [] => rfl
  | x :: l => by
    rw [List.any_cons, valueAt_cons, valueAt_isSome k l]
    by_cases h : x.1 = k <;> simp [h]
theorem valueAt_stored (l : List (K × Value)) (k : K) (v : Value) (y : K) : valueAt (stored l k v) y = if y = k then some v else valueAt l y := by
  unfold stored
  rw [valueAt_isSome]
  cases h : valueAt l k with
  | none =>
    rw [Option.isSome_none, if_neg (by decide), valueAt_append_none h]
  | some a =>
    rw [Option.isSome_some, if_pos rfl, valueAt_map]
    by_cases e : y = k
    · subst e; simp [h]
    · simp [e]
end

end

section
theorem offT : True := by
  w_top off
  exact True.intro
section
variable {prog : Program} {w : World} {A : Around} {E : Value → Shared → Prop} {s : Shared} {h₀ h : Heap} {L d a : Addr} {m : Str → Option Value} {news news₀ : List (Addr × Obj)} {o : Obj} {f : Int → Str → Option Value} {n : Nat} {i : Int} {ti tn : Tok} {nm : Str}
theorem td_after2 {o' : Obj} {v : Value} {xs : List (List (Int ⊕ Str) × Addr × Value)} (g : ∀ x ∈ xs, ∃ i ti nm tn, (x.2.1, keyObj i ti nm tn) ∈ news₀ ∧ x.1 = keyOf i nm) (hf : ∀ i nm, (atKey xs (keyOf i nm)).map (·.2) = f i nm) (hn : xs.length ≤ n)
    {h' : Heap} (ho : h'.get? d = some o') (hm : h'.DictOfH (tupleKind (mixK prog w)) d (storedH xs (keyOf i nm) a v)) :
    TDF prog w ((a, keyObj i ti nm tn) :: news₀) o' (fun j x => if j = i ∧ x = nm then some v else f j x) (n + 1) := by
  obtain ⟨o2, es', ep', ho', c', hd', he', _, hn'⟩ := hm
  obtain rfl : o' = o2 := Option.some.inj (ho.symm.trans ho')
  refine ⟨_, c', ⟨es', ep', hd', he'⟩, hn', fun x hx => ?_, fun j x => ?_, Nat.le_trans (storedH_length _ _ _ _) (Nat.succ_le_succ hn)⟩
  · rcases mem_storedH hx with ⟨y, hy, e1, e2⟩ | ⟨e1, e2⟩
    · obtain ⟨j, tj, x', tx, hm', q⟩ := g y hy
      exact ⟨j, tj, x', tx, by rw [e2]; exact .tail _ hm', e1.trans q⟩
    · exact ⟨i, ti, nm, tn, by rw [e2]; exact .head _, e1⟩
  · show Option.map _ _ = if j = i ∧ x = nm then some v else f j x
    rw [atKey_storedH, hf]
    by_cases e : j = i ∧ x = nm
    · rw [if_pos e, if_pos (by rw [e.1, e.2])]
    · rw [if_neg e, if_neg]
      intro q
      injection q with q1 q2
      injection q1 with q1
      injection q2 with q2
      injection q2 with q2
      exact e ⟨q1, q2⟩
theorem td_set3 {v : Value} {g : Obj → List (Addr × Obj)} {Q : Unit → Shared → Prop} (hu : A.units + 1 < cLine) (F : Fr h₀ L s.heap m) (N : News h₀ L s.heap news) (U : UpdF d o news g) (T : TDF prog w news₀ o f n) (hs : ∀ p ∈ news₀, p ∈ news) (hk : (a, keyObj i ti nm tn) ∈ news) (hsz : n ≤ 1000)
    (h : ∀ h' o', Fr h₀ L h' m → News h₀ L h' (g o') → TDF prog w ((a, keyObj i ti nm tn) :: news₀) o' (fun j x => if j = i ∧ x = nm then some v else f j x) (n + 1) → Q () { s with heap := h', toks := s.toks + 3 }) :
    wpAny (model prog w) A (setItem (.ref d) (.ref a) v) Q E s := by
  obtain ⟨pre, post, rfl, hg, h1, h2⟩ := U.split
  have hdm : (d, o) ∈ pre ++ (d, o) :: post := List.mem_append_right _ (.head _)
  obtain ⟨xs, c, ⟨es, ep, e1, e2⟩, e3, hkeys, hf, hn⟩ := T
  have hD : s.heap.DictOfH (tupleKind (mixK prog w)) d xs := ⟨o, es, ep, N.get hdm, c, e1, e2, fun x hx => by
    obtain ⟨i, ti, nm, tn, hm, q⟩ := hkeys x hx
    rw [q]
    exact keyObj_is (N.get (hs _ hm)), e3⟩
  refine wpAny_setItem_heap (hsz := by rw [sizeLine_eq]; omega) (knd := tupleKind (mixK prog w)) (k := keyOf i nm) (tupleKind_room_in1 hu) (keyObj_is (N.get hk)) hD fun h' hm hs' => ?_
  obtain ⟨o', es', ep', ho', r⟩ := id hm
  have D := N _ hdm
  exact h h' o' (F.change hs' D.2.1 D.2.2) (hg o' ▸ N.setIn h1 h2 hs' ho') (td_after2 hkeys hf hn ho' hm)
end

/-- what stands while the law builds: the ledger l after kk turns -/
structure BJ (prog : Program) (w : World) (c : Int) (st row pd rw : Addr) (vs : List Value) (rn : Nat) (vr : Array Value) (wn : Nat) (ea da fa la : Int → Addr) (ext : List (Addr × Obj)) (bnd : Int → Str → Prop) (kk : Nat)
    (sta l : List (Addr × Obj)) (fo : Int → Obj) (kvs : Int → List (Str × Value)) (G : Int → Str → Option Plan) (f : Int → Str → Option Value) (po : Obj) (tk : Tok) (sn : Nat) : Prop where
  wd : Wd prog w sta l c ea da fa la fo kvs G
  sto : (st, stObj row (1 + 3 * (kk : Int)) tk sn) ∈ l
  plo : (pd, po) ∈ l
  rowo : (row, rowObj vs rn) ∈ sta
  rws : (rw, listOf vr wn) ∈ sta
  ext : ∀ p ∈ ext, p ∈ l ∧ p.1 ≠ st ∧ p.1 ≠ pd ∧ (∀ i, 0 ≤ i → i < c → p.1 ≠ fa i) ∧ ∀ q ∈ sta, q.1 ≠ p.1
  off : ∀ p ∈ sta, p.1 ≠ st ∧ p.1 ≠ pd
  sp : st ≠ pd
  fap : ∀ i, 0 ≤ i → i < c → fa i ≠ st ∧ fa i ≠ pd
  td : TDF prog w sta po f kk
  pt : ∀ i, 0 ≤ i → i < c → ∀ x, Pt sta c (G i x) (f i x)
  lo : (pd == sysModules) = false
  len : ∀ i, 0 ≤ i → i < c → (kvs i).length ≤ kk
  bound : ∀ i x, 0 ≤ i → i < c → bnd i x → (G i x).isSome
  free : ∀ i, 0 ≤ i → i < c → G i (Str.ofString "e") = none

section
variable {prog : Program} {w : World} {c : Int} {st row pd rw : Addr} {vs : List Value} {rn : Nat} {vr : Array Value} {wn : Nat} {ea da fa la : Int → Addr} {ext : List (Addr × Obj)} {bnd : Int → Str → Prop} {kk : Nat}
  {sta l : List (Addr × Obj)} {fo : Int → Obj} {kvs : Int → List (Str × Value)} {G : Int → Str → Option Plan} {f : Int → Str → Option Value} {po : Obj} {tk : Tok} {sn : Nat}
/-- the ledger less the three that a turn changes -/
def restOf (l : List (Addr × Obj)) (a b d : Addr) : List (Addr × Obj) := l.filter fun p => decide (p.1 ≠ a ∧ p.1 ≠ b ∧ p.1 ≠ d)
theorem mem_restOf {l : List (Addr × Obj)} {a b d : Addr} {p : Addr × Obj} : p ∈ restOf l a b d ↔ p ∈ l ∧ p.1 ≠ a ∧ p.1 ≠ b ∧ p.1 ≠ d := by
  unfold restOf
  rw [List.mem_filter, decide_eq_true_iff]
theorem BJ.news (H : BJ prog w c st row pd rw vs rn vr wn ea da fa la ext bnd kk sta l fo kvs G f po tk sn) {i : Int} (h0 : 0 ≤ i) (h1 : i < c) {h₀ h : Heap} {L : Addr} (N : News h₀ L h l) :
    News h₀ L h ((st, stObj row (1 + 3 * (kk : Int)) tk sn) :: (pd, po) :: (fa i, fo i) :: restOf l st pd (fa i)) := fun p hp => by
  rcases List.mem_cons.mp hp with rfl | hp
  · exact N _ H.sto
  · rcases List.mem_cons.mp hp with rfl | hp
    · exact N _ H.plo
    · rcases List.mem_cons.mp hp with rfl | hp
      · exact N _ (H.wd.frm i h0 h1).1
      · exact N _ (mem_restOf.mp hp).1
theorem BJ.sta_rest (H : BJ prog w c st row pd rw vs rn vr wn ea da fa la ext bnd kk sta l fo kvs G f po tk sn) {i : Int} (h0 : 0 ≤ i) (h1 : i < c) : ∀ p ∈ sta, p ∈ restOf l st pd (fa i) := fun p hp =>
  mem_restOf.mpr ⟨H.wd.sub p hp, (H.off p hp).1, (H.off p hp).2, H.wd.off p hp i h0 h1⟩
theorem BJ.oth_rest (H : BJ prog w c st row pd rw vs rn vr wn ea da fa la ext bnd kk sta l fo kvs G f po tk sn) {i j : Int} (h0 : 0 ≤ i) (h1 : i < c) (j0 : 0 ≤ j) (j1 : j < c) (hj : j ≠ i) : (fa j, fo j) ∈ restOf l st pd (fa i) :=
  mem_restOf.mpr ⟨(H.wd.frm j j0 j1).1, (H.fap j j0 j1).1, (H.fap j j0 j1).2, fun e => hj (H.wd.inj j i j0 j1 h0 h1 e)⟩
/-- a turn's end -/
theorem BJ.step (H : BJ prog w c st row pd rw vs rn vr wn ea da fa la ext bnd kk sta l fo kvs G f po tk sn) {i : Int} (h0 : 0 ≤ i) (h1 : i < c) {nm : Str} {g : Plan} {v v2 : Value} {tk' : Tok} {sn' : Nat} {po' fo' : Obj} {nw l' : List (Addr × Obj)}
    (hl1 : (st, stObj row (1 + 3 * ((kk + 1 : Nat) : Int)) tk' sn') ∈ l') (hl2 : (pd, po') ∈ l') (hl3 : (fa i, fo') ∈ l') (hl4 : ∀ p ∈ restOf l st pd (fa i), p ∈ l') (hnw : ∀ p ∈ nw, p ∈ l')
    (hoff : ∀ p ∈ nw, p.1 ≠ st ∧ p.1 ≠ pd ∧ p.1 ≠ fa i ∧ ∀ q ∈ restOf l st pd (fa i), q.1 ≠ p.1) (hfo : fo'.IsDictOf (PySem.strKind prog w) (stored (kvs i) nm v))
    (hT : TDF prog w (nw ++ sta) po' (fun j x => if j = i ∧ x = nm then some v2 else f j x) (kk + 1)) (hb : Bd w.params (nw ++ sta) c ea i (some g) (some v)) (hp : Pt (nw ++ sta) c (some g) (some v2)) (hgn : ∀ j o, g = .name j o → o ∈ NM) (hnm : nm ≠ Str.ofString "e") (hkk : kk < 50) :
    BJ prog w c st row pd rw vs rn vr wn ea da fa la ext (fun j x => bnd j x ∨ (j = i ∧ x = nm)) (kk + 1) (nw ++ sta) l' (fun j => if j = i then fo' else fo j) (fun j => if j = i then stored (kvs i) nm v else kvs j)
      (fun j x => if j = i ∧ x = nm then some g else G j x) (fun j x => if j = i ∧ x = nm then some v2 else f j x) po' tk' sn' := by
  have hsr := H.sta_rest h0 h1
  have up : ∀ p ∈ sta, p ∈ nw ++ sta := fun p hp => List.mem_append_right _ hp
  have offA : ∀ p ∈ nw ++ sta, ∀ j, 0 ≤ j → j < c → p.1 ≠ fa j := fun p hp j j0 j1 => by
    rcases List.mem_append.mp hp with hp | hp
    · by_cases e : j = i
      · rw [e]; exact (hoff p hp).2.2.1
      · exact fun z => (hoff p hp).2.2.2 _ (H.oth_rest h0 h1 j0 j1 e) z.symm
    · exact H.wd.off p hp j j0 j1
  refine { wd := { sub := fun p hp => ?_, env := fun j j0 j1 => up _ (H.wd.env j j0 j1), dct := fun j j0 j1 => ?_, frm := fun j j0 j1 => ?_, bd := fun j j0 j1 x => ?_, nm := fun j x k o e => ?_, off := offA, inj := H.wd.inj }, sto := hl1, plo := hl2, rowo := up _ H.rowo, rws := up _ H.rws, ext := fun p hp => ?_, off := fun p hp => ?_, sp := H.sp, fap := H.fap, td := hT, pt := fun j j0 j1 x => ?_, lo := H.lo, len := fun j j0 j1 => ?_, bound := fun j x j0 j1 e => ?_, free := fun j j0 j1 => ?_ }
  · rcases List.mem_append.mp hp with hp | hp
    · exact hnw p hp
    · exact hl4 p (hsr p hp)
  · obtain ⟨t0, t1, t2, t3, t4, t5, t6, t7, t8, q⟩ := H.wd.dct j j0 j1
    exact ⟨t0, t1, t2, t3, t4, t5, t6, t7, t8, up _ q⟩
  · by_cases e : j = i
    · subst e
      simp only [if_true]
      exact ⟨hl3, hfo, (H.wd.frm j j0 j1).2.2.1, Nat.le_trans (stored_length_le _ _ _) (by have := H.len j j0 j1; omega)⟩
    · simp only [if_neg e]
      exact ⟨hl4 _ (H.oth_rest h0 h1 j0 j1 e), (H.wd.frm j j0 j1).2⟩
  · by_cases e : j = i
    · subst e
      simp only [if_true, true_and, valueAt_stored]
      by_cases e2 : x = nm
      · simp only [if_pos e2]; exact hb
      · simp only [if_neg e2]; exact (H.wd.bd j j0 j1 x).mono up
    · simp only [if_neg e, if_neg (fun q : j = i ∧ x = nm => e q.1)]
      exact (H.wd.bd j j0 j1 x).mono up
  · by_cases e2 : j = i ∧ x = nm
    · simp only [if_pos e2] at e
      exact hgn k o (Option.some.inj e)
    · simp only [if_neg e2] at e
      exact H.wd.nm j x k o e
  · obtain ⟨x1, x2, x3, x4, x5⟩ := H.ext p hp
    have xr : p ∈ restOf l st pd (fa i) := mem_restOf.mpr ⟨x1, x2, x3, x4 i h0 h1⟩
    refine ⟨hl4 p xr, x2, x3, x4, fun q hq => ?_⟩
    rcases List.mem_append.mp hq with hq | hq
    · exact fun z => (hoff q hq).2.2.2 p xr z.symm
    · exact x5 q hq
  · rcases List.mem_append.mp hp with hp | hp
    · exact ⟨(hoff p hp).1, (hoff p hp).2.1⟩
    · exact H.off p hp
  · by_cases e2 : j = i ∧ x = nm
    · simp only [if_pos e2]; exact hp
    · simp only [if_neg e2]; exact (H.pt j j0 j1 x).mono up
  · by_cases e : j = i
    · subst e
      simp only [if_true]
      exact Nat.le_trans (stored_length_le _ _ _) (Nat.succ_le_succ (H.len j j0 j1))
    · simp only [if_neg e]; exact Nat.le_succ_of_le (H.len j j0 j1)
  · by_cases e2 : j = i ∧ x = nm
    · simp only [if_pos e2]; rfl
    · simp only [if_neg e2]
      rcases e with e | e
      · exact H.bound j x j0 j1 e
      · exact absurd e e2
  · rw [if_neg (fun q : j = i ∧ Str.ofString "e" = nm => hnm q.2.symm)]
    exact H.free j j0 j1
/-- another thing stands beside -/
theorem BJ.add (H : BJ prog w c st row pd rw vs rn vr wn ea da fa la ext bnd kk sta l fo kvs G f po tk sn) {I : Addr} {it : Obj} (hI : ∀ p ∈ l, p.1 ≠ I) : BJ prog w c st row pd rw vs rn vr wn ea da fa la ((I, it) :: ext) bnd kk sta ((I, it) :: l) fo kvs G f po tk sn := by
  have hx : ∀ p ∈ (I, it) :: ext, p ∈ (I, it) :: l ∧ p.1 ≠ st ∧ p.1 ≠ pd ∧ (∀ i, 0 ≤ i → i < c → p.1 ≠ fa i) ∧ ∀ q ∈ sta, q.1 ≠ p.1 := fun p hp => by
    rcases List.mem_cons.mp hp with rfl | hp
    · exact ⟨.head _, fun z => hI _ H.sto z.symm, fun z => hI _ H.plo z.symm, fun i a b z => hI _ (H.wd.frm i a b).1 z.symm, fun q hq => hI _ (H.wd.sub q hq)⟩
    · obtain ⟨x1, x2⟩ := H.ext p hp
      exact ⟨.tail _ x1, x2⟩
  exact { H with wd := H.wd.mono fun p hp => .tail _ hp, sto := .tail _ H.sto, plo := .tail _ H.plo, ext := hx }
/-- it is put away again -/
theorem BJ.del {I : Addr} {it : Obj} (H : BJ prog w c st row pd rw vs rn vr wn ea da fa la ((I, it) :: ext) bnd kk sta l fo kvs G f po tk sn) (hx : ∀ p ∈ ext, p.1 ≠ I) : BJ prog w c st row pd rw vs rn vr wn ea da fa la ext bnd kk sta (l.filter fun p => decide (p.1 ≠ I)) fo kvs G f po tk sn := by
  obtain ⟨x1, x2, x3, x4, x5⟩ := H.ext _ (.head _)
  have keep : ∀ p ∈ l, p.1 ≠ I → p ∈ l.filter fun p => decide (p.1 ≠ I) := fun p hp hn => List.mem_filter.mpr ⟨hp, decide_eq_true hn⟩
  have hy : ∀ p ∈ ext, p ∈ (l.filter fun p => decide (p.1 ≠ I)) ∧ p.1 ≠ st ∧ p.1 ≠ pd ∧ (∀ i, 0 ≤ i → i < c → p.1 ≠ fa i) ∧ ∀ q ∈ sta, q.1 ≠ p.1 := fun p hp => by
    obtain ⟨y1, y2⟩ := H.ext p (.tail _ hp)
    exact ⟨keep _ y1 (hx p hp), y2⟩
  exact { H with wd := { H.wd with sub := fun p hp => keep p (H.wd.sub p hp) (x5 p hp), frm := fun i a b => ⟨keep _ (H.wd.frm i a b).1 fun z => x4 i a b z.symm, (H.wd.frm i a b).2⟩ }, sto := keep _ H.sto fun z => x2 z.symm, plo := keep _ H.plo fun z => x3 z.symm, ext := hy }
theorem BJ.bnd_mono (H : BJ prog w c st row pd rw vs rn vr wn ea da fa la ext bnd kk sta l fo kvs G f po tk sn) {bnd' : Int → Str → Prop} (k : ∀ j x, 0 ≤ j → j < c → bnd' j x → bnd j x) : BJ prog w c st row pd rw vs rn vr wn ea da fa la ext bnd' kk sta l fo kvs G f po tk sn :=
  { H with bound := fun i x a b e => H.bound i x a b (k i x a b e) }
end
/-- what stands while the law builds -/
def BX (prog : Program) (w : World) (c : Int) (st row pd rw : Addr) (vs : List Value) (rn : Nat) (vr : Array Value) (wn : Nat) (ea da fa la : Int → Addr) (ext : List (Addr × Obj)) (bnd : Int → Str → Prop) (kk : Nat) (l : List (Addr × Obj)) : Prop :=
  ∃ sta fo kvs G f po tk sn, BJ prog w c st row pd rw vs rn vr wn ea da fa la ext bnd kk sta l fo kvs G f po tk sn
/-- the four names -/
abbrev AB : List Str := [Str.ofString "a", Str.ofString "b", Str.ofString "c", Str.ofString "d"]
/-- the frame's names that stand -/
structure LawM (m : Str → Option Value) (st rw pd : Addr) (c : Int) (tc : Tok) : Prop where
  s : m (Str.ofString "state") = some (.ref st)
  c : m (Str.ofString "count") = some (.int c tc)
  r : m (Str.ofString "rows") = some (.ref rw)
  p : m (Str.ofString "plan_of") = some (.ref pd)
theorem fr_law {h₀ h : Heap} {L st rw pd : Addr} {m : Str → Option Value} {c : Int} {tc : Tok} {x1 : Str} {v1 : Value} (M : LawM m st rw pd c tc) (F : Fr h₀ L h (fun y => if y = x1 then some v1 else m y)) :
    Fr h₀ L h (fun y => if y = x1 then some v1 else if y = Str.ofString "state" then some (.ref st) else if y = Str.ofString "count" then some (.int c tc) else if y = Str.ofString "rows" then some (.ref rw) else if y = Str.ofString "plan_of" then some (.ref pd) else m y) := by
  have : (fun y => if y = x1 then some v1 else if y = Str.ofString "state" then some (.ref st) else if y = Str.ofString "count" then some (.int c tc) else if y = Str.ofString "rows" then some (.ref rw) else if y = Str.ofString "plan_of" then some (.ref pd) else m y) = fun y => if y = x1 then some v1 else m y := by
    funext y
    by_cases h0 : y = x1
    · rw [if_pos h0, if_pos h0]
    rw [if_neg h0, if_neg h0]
    by_cases h1 : y = Str.ofString "state"
    · rw [if_pos h1, h1, M.s]
    rw [if_neg h1]
    by_cases h2 : y = Str.ofString "count"
    · rw [if_pos h2, h2, M.c]
    rw [if_neg h2]
    by_cases h3 : y = Str.ofString "rows"
    · rw [if_pos h3, h3, M.r]
    rw [if_neg h3]
    by_cases h4 : y = Str.ofString "plan_of"
    · rw [if_pos h4, h4, M.p]
    rw [if_neg h4]
  rw [this]; exact F
theorem fr_law2 {h₀ h : Heap} {L st rw pd : Addr} {m : Str → Option Value} {c : Int} {tc : Tok} {x1 x2 : Str} {v1 v2 : Value} (M : LawM m st rw pd c tc) (e : m x2 = some v2) (F : Fr h₀ L h (fun y => if y = x1 then some v1 else m y)) :
    Fr h₀ L h (fun y => if y = x1 then some v1 else if y = x2 then some v2 else if y = Str.ofString "state" then some (.ref st) else if y = Str.ofString "count" then some (.int c tc) else if y = Str.ofString "rows" then some (.ref rw) else if y = Str.ofString "plan_of" then some (.ref pd) else m y) := by
  have h1 := fr_law M F
  have : (fun y => if y = x1 then some v1 else if y = x2 then some v2 else if y = Str.ofString "state" then some (.ref st) else if y = Str.ofString "count" then some (.int c tc) else if y = Str.ofString "rows" then some (.ref rw) else if y = Str.ofString "plan_of" then some (.ref pd) else m y) = fun y => if y = x1 then some v1 else m y := by
    funext y
    by_cases h0 : y = x1
    · rw [if_pos h0, if_pos h0]
    rw [if_neg h0, if_neg h0]
    by_cases h9 : y = x2
    · rw [if_pos h9, h9, e]
    rw [if_neg h9]
    by_cases h1 : y = Str.ofString "state"
    · rw [if_pos h1, h1, M.s]
    rw [if_neg h1]
    by_cases h2 : y = Str.ofString "count"
    · rw [if_pos h2, h2, M.c]
    rw [if_neg h2]
    by_cases h3 : y = Str.ofString "rows"
    · rw [if_pos h3, h3, M.r]
    rw [if_neg h3]
    by_cases h4 : y = Str.ofString "plan_of"
    · rw [if_pos h4, h4, M.p]
    rw [if_neg h4]
  rw [this]; exact F

end

section
theorem offU : True := by
  w_top off
  exact True.intro
section
variable {prog : Program} {w : World} {A : Around} {s : Shared} {h₀ : Heap} {L : Addr} {m : Str → Option Value} {env : Env} {elt : PySem.Expr} {x : Str} {scope : Scope} {cl : List (Str × Addr)} {S : List (Addr × Obj) → Prop} {P : Nat → Value → Prop} {Fin : List Value → List (Addr × Obj) → Prop}
theorem compEnd_mono {s₁ s₂ : Shared} {I C D : Addr} {oI oC oD : Obj} {r r' : Value → List (Addr × Obj) → Prop} {y : Value} (k : ∀ y l, LCg.Off3 I C D l → r y l → r' y l) (h : LCg.CompEnd h₀ L m s₁ I oI C oC D oD S r y s₂) : LCg.CompEnd h₀ L m s₁ I oI C oC D oD S r' y s₂ := by
  obtain ⟨h', tk, l, e, F, N, o, hS, q⟩ := h
  exact ⟨h', tk, l, e, F, N, o, hS, k _ _ o q⟩
/-- a comprehension by a word J over the items that are made -/
theorem compJ {n : Nat} (J : Nat → List Value → List (Addr × Obj) → Prop)
    (turn : ∀ i ys l, i < n → J i ys l → ∀ v I oI C oC D m₂ h tk (E' : Value → Shared → Prop), P i v → LCg.NsObj oC m₂ → m₂ x = some v → Fr h₀ L h m → News h₀ L h ((I, oI) :: (C, oC) :: (D, LCg.lst ys) :: l) → LCg.Off3 I C D l → ((@Ne Nat I C) ∧ (@Ne Nat I D) ∧ (@Ne Nat C D)) →
      wpAny (model prog w) A (eval elt (compEnvC scope cl C env)) (LCg.CompEnd h₀ L m { s with heap := h, toks := tk } I oI C oC D (LCg.lst ys) S (fun y l' => J (i + 1) (ys ++ [y]) l')) E' { s with heap := h, toks := tk })
    (done : ∀ ys l, J n ys l → Fin ys l) : ∀ k i ys l, i + k = n → J i ys l → LCg.CompRest prog w A h₀ L m env elt x scope cl s S P Fin k i ys l
  | 0, i, ys, l, e, hJ => LCg.CompRest.zero (by obtain rfl : i = n := e; exact done _ _ hJ)
  | k + 1, i, ys, l, e, hJ => LCg.CompRest.succ fun v I oI C oC D m₂ h tk E' a b c F N o d =>
    wpAny_mono (turn i ys l (by omega) hJ v I oI C oC D m₂ h tk E' a b c F N o d) (fun _ _ p => compEnd_mono (fun y l' _ q => compJ J turn done k (i + 1) (ys ++ [y]) l' (by omega) q) p) fun _ _ z => z
end
/-- the rows so far -/
structure RJ (prog : Program) (w : World) (st row : Addr) (tk : Tok) (sn : Nat) (vs : List Value) (rn : Nat) (i : Nat) (ys : List Value) (l : List (Addr × Obj)) (ea da fa la : Int → Addr) (sta : List (Addr × Obj)) (fo : Int → Obj) : Prop where
  wd : Wd prog w sta l (i : Int) ea da fa la fo (fun _ => []) (fun _ _ => none)
  sto : (st, stObj row 1 tk sn) ∈ l
  rowo : (row, rowObj vs rn) ∈ sta
  off : ∀ p ∈ sta, p.1 ≠ st
  fap : ∀ j, 0 ≤ j → j < (i : Int) → fa j ≠ st
  len : ys.length = i
  at_ : ∀ j : Int, 0 ≤ j → j < (i : Int) → ys[j.toNat]? = some (.ref (ea j))
section
variable {prog : Program} {w : World} {st row : Addr} {tk : Tok} {sn : Nat} {vs : List Value} {rn i : Nat} {ys : List Value} {l : List (Addr × Obj)} {ea da fa la : Int → Addr} {sta : List (Addr × Obj)} {fo : Int → Obj}
theorem RJ.nil (h1 : (st, stObj row 1 tk sn) ∈ l) (h2 : (row, rowObj vs rn) ∈ l) (h3 : row ≠ st) : RJ prog w st row tk sn vs rn 0 [] l (fun _ => 0) (fun _ => 0) (fun _ => 0) (fun _ => 0) [(row, rowObj vs rn)] (fun _ => stObj row 1 tk sn) :=
  { wd := { sub := fun p hp => by rw [List.mem_singleton.mp hp]; exact h2, env := fun j a b => absurd b (by simp only [Int.natCast_zero] at *; omega), dct := fun j a b => absurd b (by simp only [Int.natCast_zero] at *; omega), frm := fun j a b => absurd b (by simp only [Int.natCast_zero] at *; omega), bd := fun j a b => absurd b (by simp only [Int.natCast_zero] at *; omega), nm := fun _ _ _ _ e => (nomatch e),
            off := fun _ _ j a b => absurd b (by simp only [Int.natCast_zero] at *; omega), inj := fun j k a b => absurd b (by simp only [Int.natCast_zero] at *; omega) }, sto := h1, rowo := .head _, off := fun p hp => by rw [List.mem_singleton.mp hp]; exact h3, fap := fun j a b => absurd b (by simp only [Int.natCast_zero] at *; omega), len := rfl, at_ := fun j a b => absurd b (by simp only [Int.natCast_zero] at *; omega) }
theorem RJ.step (H : RJ prog w st row tk sn vs rn i ys l ea da fa la sta fo) {x d f k : Addr} {t0 t1 t2 t3 t4 t5 t6 t7 t8 : Tok} {o ko : Obj} (ho : o.IsDictOf (PySem.strKind prog w) []) (lo : (f == sysModules) = false)
    (hd : ∀ p ∈ l, p.1 < d) (h1 : @LT.lt Nat _ d x) (h2 : @LT.lt Nat _ x f) (h3 : @LT.lt Nat _ f k) :
    RJ prog w st row tk sn vs rn (i + 1) (ys ++ [.ref x]) ((x, instObj 278 d) :: (d, envD w.params (i : Int) f k t0 t1 t2 t3 t4 t5 t6 t7 t8) :: (f, o) :: (k, ko) :: l) (fun j => if j = (i : Int) then x else ea j) (fun j => if j = (i : Int) then d else da j) (fun j => if j = (i : Int) then f else fa j) (fun j => if j = (i : Int) then k else la j)
      ((x, instObj 278 d) :: (d, envD w.params (i : Int) f k t0 t1 t2 t3 t4 t5 t6 t7 t8) :: sta) (fun j => if j = (i : Int) then o else fo j) := by
  have cases' : ∀ j : Int, j < ((i + 1 : Nat) : Int) → j ≠ (i : Int) → j < (i : Int) := fun j a b => by omega
  have up : ∀ p ∈ l, p ∈ (x, instObj 278 d) :: (d, envD w.params (i : Int) f k t0 t1 t2 t3 t4 t5 t6 t7 t8) :: (f, o) :: (k, ko) :: l := fun p hp => .tail _ (.tail _ (.tail _ (.tail _ hp)))
  have hst := hd _ H.sto
  have frmLt : ∀ j, 0 ≤ j → j < (i : Int) → @LT.lt Nat _ (fa j) d := fun j a b => hd _ (H.wd.frm j a b).1
  refine { wd := { sub := fun p hp => ?_, env := fun j a b => ?_, dct := fun j a b => ?_, frm := fun j a b => ?_, bd := fun j a b y => .free, nm := fun _ _ _ _ e => (nomatch e), off := fun p hp j a b => ?_, inj := fun j j' a b a' b' e => ?_ }, sto := up _ H.sto, rowo := .tail _ (.tail _ H.rowo), off := fun p hp => ?_, fap := fun j a b => ?_, len := by rw [List.length_append, H.len]; rfl, at_ := fun j a b => ?_ }
  · rcases List.mem_cons.mp hp with rfl | hp
    · exact .head _
    · rcases List.mem_cons.mp hp with rfl | hp
      · exact .tail _ (.head _)
      · exact up _ (H.wd.sub p hp)
  · by_cases e : j = (i : Int)
    · simp only [if_pos e]; exact .head _
    · simp only [if_neg e]; exact .tail _ (.tail _ (H.wd.env j a (cases' j b e)))
  · by_cases e : j = (i : Int)
    · simp only [if_pos e]
      subst e
      exact ⟨t0, t1, t2, t3, t4, t5, t6, t7, t8, .tail _ (.head _)⟩
    · simp only [if_neg e]
      obtain ⟨u0, u1, u2, u3, u4, u5, u6, u7, u8, q⟩ := H.wd.dct j a (cases' j b e)
      exact ⟨u0, u1, u2, u3, u4, u5, u6, u7, u8, .tail _ (.tail _ q)⟩
  · by_cases e : j = (i : Int)
    · simp only [if_pos e]; exact ⟨.tail _ (.tail _ (.head _)), ho, lo, Nat.zero_le _⟩
    · simp only [if_neg e]
      have q := H.wd.frm j a (cases' j b e)
      exact ⟨up _ q.1, q.2⟩
  · by_cases e : j = (i : Int)
    · simp only [if_pos e]
      rcases List.mem_cons.mp hp with rfl | hp
      · exact Nat.ne_of_lt h2
      · rcases List.mem_cons.mp hp with rfl | hp
        · exact Nat.ne_of_lt (Nat.lt_trans h1 h2)
        · exact Nat.ne_of_lt (Nat.lt_trans (hd _ (H.wd.sub p hp)) (Nat.lt_trans h1 h2))
    · simp only [if_neg e]
      have q := frmLt j a (cases' j b e)
      rcases List.mem_cons.mp hp with rfl | hp
      · exact Nat.ne_of_gt (Nat.lt_trans q h1)
      · rcases List.mem_cons.mp hp with rfl | hp
        · exact Nat.ne_of_gt q
        · exact H.wd.off p hp j a (cases' j b e)
  · by_cases e1 : j = (i : Int)
    · by_cases e2 : j' = (i : Int)
      · rw [e1, e2]
      · simp only [if_pos e1, if_neg e2] at e
        exact absurd e (Nat.ne_of_gt (Nat.lt_trans (frmLt j' a' (cases' j' b' e2)) (Nat.lt_trans h1 h2)))
    · by_cases e2 : j' = (i : Int)
      · simp only [if_neg e1, if_pos e2] at e
        exact absurd e (Nat.ne_of_lt (Nat.lt_trans (frmLt j a (cases' j b e1)) (Nat.lt_trans h1 h2)))
      · simp only [if_neg e1, if_neg e2] at e
        exact H.wd.inj j j' a (cases' j b e1) a' (cases' j' b' e2) e
  · rcases List.mem_cons.mp hp with rfl | hp
    · exact Nat.ne_of_gt (Nat.lt_trans hst h1)
    · rcases List.mem_cons.mp hp with rfl | hp
      · exact Nat.ne_of_gt hst
      · exact H.off p hp
  · by_cases e : j = (i : Int)
    · simp only [if_pos e]; exact Nat.ne_of_gt (Nat.lt_trans hst (Nat.lt_trans h1 h2))
    · simp only [if_neg e]; exact H.fap j a (cases' j b e)
  · by_cases e : j = (i : Int)
    · simp only [if_pos e]
      subst e
      rw [Int.toNat_natCast, List.getElem?_append_right (by rw [H.len]; exact Nat.le_refl _), H.len, Nat.sub_self]
      rfl
    · simp only [if_neg e]
      rw [List.getElem?_append_left (by rw [H.len]; have := cases' j b e; omega)]
      exact H.at_ j a (cases' j b e)
end

end

section
theorem offV : True := by
  w_top off
  exact True.intro
section
variable {prog : Program} {w : World} {A : Around} {s : Shared} {h₀ : Heap} {L : Addr} {m : Str → Option Value} {env : Env} {elt : PySem.Expr} {x : Str} {scope : Scope} {cl : List (Str × Addr)} {S : List (Addr × Obj) → Prop} {P : Nat → Value → Prop} {Fin : List Value → List (Addr × Obj) → Prop} {st row : Addr} {tk : Tok} {sn : Nat} {vs : List Value} {rn : Nat}
theorem rows_comp {n : Nat} (turn : ∀ i ys l ea da fa la sta fo, i < n → RJ prog w st row tk sn vs rn i ys l ea da fa la sta fo → ∀ v I oI C oC D m₂ h tk' (E' : Value → Shared → Prop), P i v → LCg.NsObj oC m₂ → m₂ x = some v → Fr h₀ L h m → News h₀ L h ((I, oI) :: (C, oC) :: (D, LCg.lst ys) :: l) → LCg.Off3 I C D l → ((@Ne Nat I C) ∧ (@Ne Nat I D) ∧ (@Ne Nat C D)) →
      wpAny (model prog w) A (eval elt (compEnvC scope cl C env)) (LCg.CompEnd h₀ L m { s with heap := h, toks := tk' } I oI C oC D (LCg.lst ys) S (fun y l' => ∃ ea da fa la sta fo, RJ prog w st row tk sn vs rn (i + 1) (ys ++ [y]) l' ea da fa la sta fo)) E' { s with heap := h, toks := tk' })
    (done : ∀ ys l ea da fa la sta fo, RJ prog w st row tk sn vs rn n ys l ea da fa la sta fo → Fin ys l) (hne : row ≠ st) : LCg.CompRest prog w A h₀ L m env elt x scope cl s S P Fin n 0 [] [(st, stObj row (0 + 1) tk sn), (row, rowObj vs rn)] :=
  compJ (fun i ys l => ∃ ea da fa la sta fo, RJ prog w st row tk sn vs rn i ys l ea da fa la sta fo) (fun i ys l hi ⟨ea, da, fa, la, sta, fo, H⟩ => turn i ys l ea da fa la sta fo hi H) (fun ys l ⟨ea, da, fa, la, sta, fo, H⟩ => done ys l ea da fa la sta fo H) n 0 [] _ (Nat.zero_add n)
    ⟨_, _, _, _, _, _, RJ.nil (.head _) (.tail _ (.head _)) hne⟩
theorem td_empty {o : Obj} {news : List (Addr × Obj)} (h : o.IsDictOf (intKind prog w) []) : TDF prog w news o (fun _ _ => none) 0 := by
  obtain ⟨es, ep, hc, hdat, _, hpp, _⟩ := h
  exact ⟨[], hc, ⟨es, ep, hdat, List.length_eq_zero_iff.mp hpp.length⟩, List.nodup_nil, fun x hx => (nomatch hx), fun _ _ => rfl, Nat.le_refl _⟩
theorem RJ.start {n : Nat} {c : Int} {ys : List Value} {l : List (Addr × Obj)} {ea da fa la : Int → Addr} {sta : List (Addr × Obj)} {fo : Int → Obj} {pd D : Addr} {po : Obj} (H : RJ prog w st row tk sn vs rn n ys l ea da fa la sta fo) (hc : (n : Int) = c) (hp : po.IsDictOf (intKind prog w) []) (lo : (pd == sysModules) = false)
    (hD : ∀ p ∈ l, p.1 ≠ D) (hpd : ∀ p ∈ (D, LCg.lst ys) :: l, p.1 < pd) : BJ prog w c st row pd D vs rn ys.toArray ys.length ea da fa la [] (fun _ _ => False) 0 ((D, LCg.lst ys) :: sta) ((pd, po) :: (D, LCg.lst ys) :: l) fo (fun _ => []) (fun _ _ => none) (fun _ _ => none) po tk sn := by
  subst hc
  have hl : ∀ p ∈ l, p.1 ≠ pd := fun p hp => Nat.ne_of_lt (hpd p (.tail _ hp))
  have hDp : D ≠ pd := Nat.ne_of_lt (hpd _ (.head _))
  refine { wd := { sub := fun p hp => ?_, env := fun j a b => .tail _ (H.wd.env j a b), dct := fun j a b => ?_, frm := fun j a b => ⟨.tail _ (.tail _ (H.wd.frm j a b).1), (H.wd.frm j a b).2⟩, bd := fun j a b y => .free, nm := fun _ _ _ _ e => (nomatch e), off := fun p hp j a b => ?_, inj := H.wd.inj },
           sto := .tail _ (.tail _ H.sto), plo := .head _, rowo := .tail _ H.rowo, rws := .head _, ext := fun p hp => (nomatch hp), off := fun p hp => ?_, sp := hl _ H.sto, fap := fun j a b => ⟨H.fap j a b, hl _ (H.wd.frm j a b).1⟩, td := td_empty hp, pt := fun _ _ _ _ => .free, lo := lo, len := fun _ _ _ => Nat.zero_le _, bound := fun _ _ _ _ e => e.elim, free := fun _ _ _ => rfl }
  · rcases List.mem_cons.mp hp with rfl | hp
    · exact .tail _ (.head _)
    · exact .tail _ (.tail _ (H.wd.sub p hp))
  · obtain ⟨t0, t1, t2, t3, t4, t5, t6, t7, t8, q⟩ := H.wd.dct j a b
    exact ⟨t0, t1, t2, t3, t4, t5, t6, t7, t8, .tail _ q⟩
  · rcases List.mem_cons.mp hp with rfl | hp
    · exact fun z => hD _ (H.wd.frm j a b).1 z.symm
    · exact H.wd.off p hp j a b
  · rcases List.mem_cons.mp hp with rfl | hp
    · exact ⟨fun z => hD _ H.sto z.symm, hDp⟩
    · exact ⟨H.off p hp, hl _ (H.wd.sub p hp)⟩
end
theorem news_keeps {h₀ h h' : Heap} {L : Addr} {l : List (Addr × Obj)} (N : News h₀ L h l) (k : ∀ b o, h.get? b = some o → h'.get? b = some o) : News h₀ L h' l := fun p hp => ⟨k _ _ (N p hp).1, (N p hp).2⟩
theorem rows_end {prog : Program} {w : World} {s₁ : Shared} {h₀ h' : Heap} {L I C D st row : Addr} {m : Str → Option Value} {oI oC oD : Obj} {S : List (Addr × Obj) → Prop} {tk : Tok} {sn : Nat} {vs : List Value} {rn i : Nat} {ys : List Value} {l : List (Addr × Obj)} {ea da fa la : Int → Addr} {sta : List (Addr × Obj)} {fo : Int → Obj} {x d f k : Addr} {t0 t1 t2 t3 t4 t5 t6 t7 t8 : Tok} {o ko : Obj} {tk' : Nat}
    (H : RJ prog w st row tk sn vs rn i ys l ea da fa la sta fo) (F : Fr h₀ L h' m) (N : News h₀ L h' ((x, instObj 278 d) :: (d, envD w.params (i : Int) f k t0 t1 t2 t3 t4 t5 t6 t7 t8) :: (f, o) :: (k, ko) :: (I, oI) :: (C, oC) :: (D, oD) :: l)) (ho : o.IsDictOf (PySem.strKind prog w) []) (lo : (f == sysModules) = false)
    (hd : @LT.lt Nat _ I d ∧ @LT.lt Nat _ C d ∧ @LT.lt Nat _ D d ∧ AllLt d l) (h1 : @LT.lt Nat _ d x) (h2 : @LT.lt Nat _ x f) (h3 : @LT.lt Nat _ f k) (off : LCg.Off3 I C D l) (hS : ∀ l', S l') :
    LCg.CompEnd h₀ L m s₁ I oI C oC D oD S (fun y l' => ∃ ea da fa la sta fo, RJ prog w st row tk sn vs rn (i + 1) (ys ++ [y]) l' ea da fa la sta fo) (.ref x) { s₁ with heap := h', toks := tk' } := by
  obtain ⟨a1, a2, a3, a4⟩ := hd
  refine LCg.CompEnd.intro F N ((x, instObj 278 d) :: (d, envD w.params (i : Int) f k t0 t1 t2 t3 t4 t5 t6 t7 t8) :: (f, o) :: (k, ko) :: l) (fun p hp => ?_) ?_ (hS _) ⟨_, _, _, _, _, _, H.step ho lo (tb_ltOf a4) h1 h2 h3⟩
  · simp only [List.mem_cons] at hp ⊢
    rcases hp with h | h | h | h | h | h | h | h <;> simp [h]
  · have g : ∀ y : Addr, @LT.lt Nat _ y d → (@Ne Nat d y) ∧ (@Ne Nat x y) ∧ (@Ne Nat f y) ∧ (@Ne Nat k y) := fun y hy =>
      ⟨Nat.ne_of_gt hy, Nat.ne_of_gt (Nat.lt_trans hy h1), Nat.ne_of_gt (Nat.lt_trans hy (Nat.lt_trans h1 h2)), Nat.ne_of_gt (Nat.lt_trans hy (Nat.lt_trans h1 (Nat.lt_trans h2 h3)))⟩
    have b1 := g I a1
    have b2 := g C a2
    have b3 := g D a3
    exact ⟨⟨b1.2.1, b2.2.1, b3.2.1⟩, ⟨b1.1, b2.1, b3.1⟩, ⟨b1.2.2.1, b2.2.2.1, b3.2.2.1⟩, ⟨b1.2.2.2, b2.2.2.2, b3.2.2.2⟩, off⟩

end

section
theorem offW : True := by
  w_top off
  exact True.intro
section
variable {prog : Program} {w : World} {c : Int} {st row pd rw : Addr} {vs : List Value} {rn : Nat} {vr : Array Value} {wn : Nat} {ea da fa la : Int → Addr} {tc : Tok}
def OJ (prog : Program) (w : World) (c : Int) (st row pd rw : Addr) (vs : List Value) (rn : Nat) (vr : Array Value) (wn : Nat) (ea da fa la : Int → Addr) (tc : Tok) (i : Nat) (m : Str → Option Value) (l : List (Addr × Obj)) : Prop :=
  BX prog w c st row pd rw vs rn vr wn ea da fa la [] (fun j x => j < (i : Int) ∧ x ∈ AB) (4 * i) l ∧ LawM m st rw pd c tc
def IJ (prog : Program) (w : World) (c : Int) (st row pd rw : Addr) (vs : List Value) (rn : Nat) (vr : Array Value) (wn : Nat) (ea da fa la : Int → Addr) (tc : Tok) (I : Addr) (it : Obj) (i : Nat) (ti : Tok) (r : List Str) (m : Str → Option Value) (l : List (Addr × Obj)) : Prop :=
  (∃ kk, kk + r.length = 4 * i + 4 ∧ BX prog w c st row pd rw vs rn vr wn ea da fa la [(I, it)] (fun j x => (j < (i : Int) ∧ x ∈ AB) ∨ (j = (i : Int) ∧ x ∈ AB ∧ x ∉ r)) kk l) ∧ (∀ x ∈ r, x ∈ AB) ∧ r.Nodup ∧ LawM m st rw pd c tc ∧ m (Str.ofString "at") = some (.int (i : Int) ti)
section
variable {A : Around} {E : Value → Shared → Prop} {s : Shared} {env : Env} {h₀ : Heap} {x : Str} {body : List Stmt} {Q : Flow → Shared → Prop}
theorem build_outer {r : Addr} {t₀ u₀ v₀ : Tok} {m₀ : Str → Option Value} {sta l₀ : List (Addr × Obj)} {fo : Int → Obj} {kvs : Int → List (Str × Value)} {G : Int → Str → Option Plan} {f : Int → Str → Option Value} {po : Obj} {tk : Tok} {sn : Nat}
    (H : BJ prog w c st row pd rw vs rn vr wn ea da fa la [] (fun _ _ => False) 0 sta l₀ fo kvs G f po tk sn) (hc0 : 0 < c) (hc1 : c ≤ 4) (hh : A.handled = none) (hr : IsRange s.heap r 0 c 1 t₀ u₀ v₀) (F : Fr h₀ env.locals s.heap m₀) (N : News h₀ env.locals s.heap l₀) (M : LawM m₀ st rw pd c tc)
    (turn : ∀ (I : Addr) (it : Obj) (i : Nat) (m : Str → Option Value) (l : List (Addr × Obj)) t h tk, (i : Int) < c → BX prog w c st row pd rw vs rn vr wn ea da fa la [(I, it)] (fun j x => j < (i : Int) ∧ x ∈ AB) (4 * i) ((I, it) :: l) → LawM m st rw pd c tc → Fr h₀ env.locals h (fun y => if y = x then some (.int (i : Int) t) else m y) → News h₀ env.locals h ((I, it) :: l) →
      wpAny (model prog w) A (execs body env) (UnrPost h₀ env.locals { s with heap := h, toks := tk } I it (OJ prog w c st row pd rw vs rn vr wn ea da fa la tc (i + 1)) Q) E { s with heap := h, toks := tk })
    (done : ∀ m l h tk, BX prog w c st row pd rw vs rn vr wn ea da fa la [] (fun j x => j < c ∧ x ∈ AB) (4 * c.toNat) l → LawM m st rw pd c tc → Fr h₀ env.locals h m → News h₀ env.locals h l → Q .next { s with heap := h, toks := tk }) :
    wpAny (model prog w) A (pyIter (.ref r)) (fun it s₂ => LoopAtV prog w A h₀ env x body Q E it s₂) E s := by
  obtain ⟨rs, rz⟩ := range_small hc0 hc1
  refine iter_rangeJ (OJ prog w c st row pd rw vs rn vr wn ea da fa la tc) hh hr rs rz F N ⟨⟨_, _, _, _, _, _, _, _, H.bnd_mono fun j x j0 _ e => absurd e.1 (by simp only [Int.natCast_zero]; omega)⟩, M⟩ (fun I i m l hi hJ hoff t h tk it F' N' => ?_) fun m l h tk hJ F' N' => ?_
  · obtain ⟨⟨sta, fo, kvs, G, f, po, tk', sn, H⟩, M⟩ := hJ
    rw [Int.zero_add] at F'
    exact turn I it i m l t h tk (by omega) ⟨_, _, _, _, _, _, _, _, H.add hoff⟩ M F' N'
  · have e : ((c.toNat : Nat) : Int) = c := Int.toNat_of_nonneg (Int.le_of_lt hc0)
    obtain ⟨B, M⟩ := hJ
    rw [e] at B
    exact done m l h tk B M F' N'
theorem build_inner {I : Addr} {it : Obj} {i : Nat} {ti t : Tok} {m₀ : Str → Option Value} {l₀ : List (Addr × Obj)} {tx : Str}
    (B : BX prog w c st row pd rw vs rn vr wn ea da fa la [(I, it)] (fun j x => j < (i : Int) ∧ x ∈ AB) (4 * i) l₀) (hh : A.handled = none) (F : Fr h₀ env.locals s.heap m₀) (N : News h₀ env.locals s.heap l₀) (M : LawM m₀ st rw pd c tc) (e : m₀ (Str.ofString "at") = some (.int (i : Int) ti)) (hx : tx.cps.toList.map (fun c => (⟨#[c]⟩ : Str)) = AB)
    (turn : ∀ (I2 : Addr) (it2 : Obj) (cc : Str) (r : List Str) (m : Str → Option Value) (l : List (Addr × Obj)) t h tk sta fo kvs G f po tk1 sn kk, kk + (cc :: r).length = 4 * i + 4 → cc ∈ AB → (∀ x ∈ r, x ∈ AB) → (cc :: r).Nodup →
      BJ prog w c st row pd rw vs rn vr wn ea da fa la [(I2, it2), (I, it)] (fun j x => (j < (i : Int) ∧ x ∈ AB) ∨ (j = (i : Int) ∧ x ∈ AB ∧ x ∉ cc :: r)) kk sta ((I2, it2) :: l) fo kvs G f po tk1 sn → I ≠ I2 →
      Fr h₀ env.locals h (fun y => if y = x then some (.str cc t) else if y = Str.ofString "at" then some (.int (i : Int) ti) else if y = Str.ofString "state" then some (.ref st) else if y = Str.ofString "count" then some (.int c tc) else if y = Str.ofString "rows" then some (.ref rw) else if y = Str.ofString "plan_of" then some (.ref pd) else m y) →
      News h₀ env.locals h ((I2, it2) :: l) →
      wpAny (model prog w) A (execs body env) (UnrPost h₀ env.locals { s with heap := h, toks := tk } I2 it2 (IJ prog w c st row pd rw vs rn vr wn ea da fa la tc I it i ti r) Q) E { s with heap := h, toks := tk })
    (done : ∀ m l h tk, BX prog w c st row pd rw vs rn vr wn ea da fa la [(I, it)] (fun j x => j < ((i + 1 : Nat) : Int) ∧ x ∈ AB) (4 * (i + 1)) l → LawM m st rw pd c tc → Fr h₀ env.locals h m → News h₀ env.locals h l → Q .next { s with heap := h, toks := tk }) :
    wpAny (model prog w) A (pyIter (.str tx t)) (fun it s₂ => LoopAtV prog w A h₀ env x body Q E it s₂) E s := by
  refine iter_strJ (IJ prog w c st row pd rw vs rn vr wn ea da fa la tc I it i ti) hh F N hx ⟨⟨4 * i, by rfl, ?_⟩, fun x hx => hx, by decide +kernel, M, e⟩ (fun I2 cc r m l hJ hoff t h tk it2 F' N' => ?_) fun m l h tk hJ F' N' => ?_
  · obtain ⟨sta, fo, kvs, G, f, po, tk', sn, H⟩ := B
    exact ⟨_, _, _, _, _, _, _, _, H.bnd_mono fun j x _ _ q => q.elim id fun q => absurd q.2.1 q.2.2⟩
  · obtain ⟨⟨kk, hk, sta, fo, kvs, G, f, po, tk', sn, H⟩, hr, hn, M, e⟩ := hJ
    exact turn I2 it2 cc r m l t h tk sta fo kvs G f po tk' sn kk hk (hr cc (.head _)) (fun x hx => hr x (.tail _ hx)) hn (H.add hoff) (hoff _ (H.ext _ (.head _)).1) (fr_law2 M e F') N'
  · obtain ⟨⟨kk, hk, sta, fo, kvs, G, f, po, tk', sn, H⟩, hr, hn, M, e⟩ := hJ
    have hk' : kk = 4 * (i + 1) := by simp only [List.length_nil] at hk; omega
    subst hk'
    refine done m l h tk ⟨_, _, _, _, _, _, _, _, H.bnd_mono fun j x _ _ q => ?_⟩ M F' N'
    by_cases hj : j = (i : Int)
    · exact .inr ⟨hj, q.2, List.not_mem_nil⟩
    · exact .inl ⟨by omega, q.2⟩
end
theorem outer_end {h₀ h' : Heap} {L I : Addr} {it : Obj} {s₁ : Shared} {m' : Str → Option Value} {l : List (Addr × Obj)} {tk : Nat} {i : Nat} (B : BX prog w c st row pd rw vs rn vr wn ea da fa la [(I, it)] (fun j x => j < ((i + 1 : Nat) : Int) ∧ x ∈ AB) (4 * (i + 1)) l) (M : LawM m' st rw pd c tc) (F : Fr h₀ L h' m') (N : News h₀ L h' l) :
    UnrEnd h₀ L s₁ I it (OJ prog w c st row pd rw vs rn vr wn ea da fa la tc (i + 1)) { s₁ with heap := h', toks := tk } := by
  obtain ⟨sta, fo, kvs, G, f, po, tk', sn, H⟩ := B
  refine ⟨h', tk, m', l.filter fun p => decide (p.1 ≠ I), rfl, F, fun p hp => ?_, fun p hp => of_decide_eq_true (List.mem_filter.mp hp).2, ⟨_, _, _, _, _, _, _, _, H.del fun p hp => (nomatch hp)⟩, M⟩
  rcases List.mem_cons.mp hp with rfl | hp
  · exact N _ (H.ext _ (.head _)).1
  · exact N _ (List.mem_filter.mp hp).1
theorem inner_end {h₀ h' : Heap} {L I I2 : Addr} {it it2 : Obj} {s₁ : Shared} {m' : Str → Option Value} {sta l : List (Addr × Obj)} {tk kk : Nat} {i : Nat} {ti : Tok} {cc : Str} {r : List Str} {fo : Int → Obj} {kvs : Int → List (Str × Value)} {G : Int → Str → Option Plan} {f : Int → Str → Option Value} {po : Obj} {tk1 : Tok} {sn : Nat}
    (H : BJ prog w c st row pd rw vs rn vr wn ea da fa la [(I2, it2), (I, it)] (fun j x => ((j < (i : Int) ∧ x ∈ AB) ∨ (j = (i : Int) ∧ x ∈ AB ∧ x ∉ cc :: r)) ∨ (j = (i : Int) ∧ x = cc)) (kk + 1) sta l fo kvs G f po tk1 sn) (hI : I ≠ I2) (hk : kk + (cc :: r).length = 4 * i + 4) (hr : ∀ x ∈ r, x ∈ AB) (hn : (cc :: r).Nodup)
    (M : LawM m' st rw pd c tc) (e : m' (Str.ofString "at") = some (.int (i : Int) ti)) (F : Fr h₀ L h' m') (N : News h₀ L h' l) :
    UnrEnd h₀ L s₁ I2 it2 (IJ prog w c st row pd rw vs rn vr wn ea da fa la tc I it i ti r) { s₁ with heap := h', toks := tk } := by
  refine ⟨h', tk, m', l.filter fun p => decide (p.1 ≠ I2), rfl, F, fun p hp => ?_, fun p hp => of_decide_eq_true (List.mem_filter.mp hp).2, ⟨kk + 1, by simp only [List.length_cons] at hk; omega, _, _, _, _, _, _, _, _, (H.del fun p hp => ?_).bnd_mono fun j x _ _ q => ?_⟩, hr, (List.nodup_cons.mp hn).2, M, e⟩
  · rcases List.mem_cons.mp hp with rfl | hp
    · exact N _ (H.ext _ (.head _)).1
    · exact N _ (List.mem_filter.mp hp).1
  · rw [List.mem_singleton.mp hp]; exact hI
  · rcases q with q | ⟨q1, q2, q3⟩
    · exact .inl (.inl q)
    · by_cases hx : x = cc
      · exact .inr ⟨q1, hx⟩
      · exact .inl (.inr ⟨q1, q2, fun z => (List.mem_cons.mp z).elim hx q3⟩)
end

end

section
theorem offX : True := by
  w_top off
  exact True.intro
section
variable {prog : Program} {w : World} {c : Int} {st row pd rw : Addr} {vs : List Value} {rn : Nat} {vr : Array Value} {wn : Nat} {ea da fa la : Int → Addr} {ext : List (Addr × Obj)} {bnd : Int → Str → Prop} {kk : Nat}
  {sta l : List (Addr × Obj)} {fo : Int → Obj} {kvs : Int → List (Str × Value)} {G : Int → Str → Option Plan} {f : Int → Str → Option Value} {po : Obj} {tk : Tok} {sn : Nat}
theorem BJ.opened (H : BJ prog w c st row pd rw vs rn vr wn ea da fa la ext bnd kk sta l fo kvs G f po tk sn) {i : Int} (h0 : 0 ≤ i) (h1 : i < c) {h₀ h : Heap} {L : Addr} (N : News h₀ L h l) :
    ∃ rest, rest = restOf l st pd (fa i) ∧ News h₀ L h ((st, stObj row (1 + 3 * (kk : Int)) tk sn) :: (pd, po) :: (fa i, fo i) :: rest) ∧ (∀ p ∈ rest, p.1 ≠ st) ∧ (∀ p ∈ rest, p.1 ≠ pd) ∧ (∀ p ∈ rest, p.1 ≠ fa i) ∧ (@Ne Nat pd st) ∧ (@Ne Nat (fa i) st) ∧ (@Ne Nat (fa i) pd) ∧ (∀ p ∈ sta, p ∈ rest) ∧
      (row, rowObj vs rn) ∈ rest ∧ (rw, listOf vr wn) ∈ rest ∧ (∀ j, 0 ≤ j → j < c → (ea j, instObj 278 (da j)) ∈ rest) ∧ (∃ t0 t1 t2 t3 t4 t5 t6 t7 t8, (da i, envD w.params i (fa i) (la i) t0 t1 t2 t3 t4 t5 t6 t7 t8) ∈ rest) ∧ (fo i).IsDictOf (PySem.strKind prog w) (kvs i) ∧ (fa i == sysModules) = false ∧ (kvs i).length ≤ 50 ∧ TDF prog w sta po f kk := by
  have g := H.sta_rest h0 h1
  obtain ⟨t0, t1, t2, t3, t4, t5, t6, t7, t8, q⟩ := H.wd.dct i h0 h1
  obtain ⟨_, f2, f3, f4⟩ := H.wd.frm i h0 h1
  exact ⟨_, rfl, H.news h0 h1 N, fun p hp => (mem_restOf.mp hp).2.1, fun p hp => (mem_restOf.mp hp).2.2.1, fun p hp => (mem_restOf.mp hp).2.2.2, Ne.symm H.sp, (H.fap i h0 h1).1, (H.fap i h0 h1).2, g, g _ H.rowo, g _ H.rws, fun j a b => g _ (H.wd.env j a b), ⟨t0, t1, t2, t3, t4, t5, t6, t7, t8, g _ q⟩, f2, f3, f4, H.td⟩
end
section
variable {prog : Program} {w : World} {A : Around} {E : Value → Shared → Prop} {s : Shared} {h₀ : Heap} {L : Addr} {m : Str → Option Value} {news : List (Addr × Obj)}
theorem row_item2 {value slice : PySem.Expr} {l : Addr} {its : Array Value} {n : Nat} {k c : Int} {u : Tok} {ea : Int → Addr} {Q : Value → Shared → Prop} (N : News h₀ L s.heap news) (hm : (l, listOf its n) ∈ news) (hx : ∀ j : Int, 0 ≤ j → j < c → its[j.toNat]? = some (.ref (ea j)))
    (h0 : 0 ≤ k) (h1 : k < c) (hc : k < 100) (h : Q (.ref (ea k)) s) (hs : subscripted slice false (.ref l) (.int k u) = operate [.ref l, .int k u] (getItem (.ref l) (.int k u)) := by with_unfolding_all rfl) :
    wpAny (model prog w) A (subscriptTail value slice (.ref l) (.int k u)) Q E s := row_item (m := fun _ => none) N hm h0 (by omega) (hx k h0 h1) h hs
set_option maxHeartbeats 2000000 in
theorem abcde_item {slice : PySem.Expr} {k : Int} {u t : Tok} {pos : Pos} {n : Nat} {Q : Value → Shared → Prop} (h0 : 0 ≤ k) (h1 : k < 5) (h : ∀ o t tk, o ∈ NM → Q (.str o t) { s with toks := tk })
    (hs : ∀ k, subscripted slice false (.str (Str.ofString "abcde") t) (.int k u) = operate [.str (Str.ofString "abcde") t, .int k u] (getItem (.str (Str.ofString "abcde") t) (.int k u)) := by intro _; with_unfolding_all rfl) :
    wpAny (model prog w) A (subscriptTail (.Constant (.str (Str.ofString "abcde")) n pos) slice (.str (Str.ofString "abcde") t) (.int k u)) Q E s := by
  have : k = 0 ∨ k = 1 ∨ k = 2 ∨ k = 3 ∨ k = 4 := by omega
  rcases this with rfl | rfl | rfl | rfl | rfl
  all_goals exact item_str (by decide +kernel) (by decide +kernel) (by decide +kernel) (fun _ => h _ _ _ (by decide +kernel)) (hs _)
end

end

section
theorem offY : True := by
  w_top off
  exact True.intro
section
variable {prog : Program} {w : World} {p : Program} {loose : List Str} {mean : ExcName → Option Value} {mg mb : Str → Option Value} {dp un : Nat} {gd : Option (List Code)} {cn : Str} {cs : Scope} {a : Addr} {ccd : Value} {cl : List (Str × Addr)} {outer : List Env} {A₀ : Around} {base h₀ : Heap} {L : Addr} {m : Str → Option Value} {news : List (Addr × Obj)} {s : Shared} {Q E : Value → Shared → Prop}
theorem bind_ok2 {clo dc fl bo al ei di fi li y dy tup : Addr} {i : Int} {t0 t1 t2 t3 t4 t5 u0 u1 u2 u3 u4 u5 u6 u7 u8 v0 v1 v2 v3 to tn : Tok} {n1 n2 n3 : Nat} {o nm : Str} {fo : Obj} {kvs : List (Str × Value)} {g : Obj → List (Addr × Obj)} (B : Below A₀ base outer h₀) (F : Fr h₀ L s.heap m) (X : (hd.heap_39 w.params).In h₀)
    (N : News h₀ L s.heap news) (T : Top p loose mean mg mb h₀) (hk : cs.kind = .function) (hdp : dp < 460) (hun : un < 460) (hnm : (nm == Str.ofString "...") = false)
    (h1 : (clo, instObj 256 dc) ∈ news) (h2 : (dc, cloD w.params fl bo ei t0 t1 t2 t3 t4 t5) ∈ news) (h3 : (fl, ({ cls := .type "list", data := .seq #[.ref tup] n1 } : Obj)) ∈ news) (h4 : (tup, ({ cls := .type "tuple", data := .seq #[.str nm tn, .ref y] n2 } : Obj)) ∈ news)
    (h5 : (y, instObj 234 dy) ∈ news) (h6 : (dy, symD w.params o to v0 v1 v2 v3) ∈ news) (h7 : (al, ({ cls := .type "list", data := .seq #[] n3 } : Obj)) ∈ news) (h8 : (ei, instObj 278 di) ∈ news) (h9 : (di, envD w.params i fi li u0 u1 u2 u3 u4 u5 u6 u7 u8) ∈ news)
    (U : UpdF fi fo news g) (hfo : fo.IsDictOf (PySem.strKind prog w) kvs) (hlo : (fi == sysModules) = false) (hkl : kvs.length ≤ 100)
    (k1 : @Ne Nat clo fi) (k2 : @Ne Nat dc fi) (k3 : @Ne Nat fl fi) (k4 : @Ne Nat tup fi) (k5 : @Ne Nat y fi) (k6 : @Ne Nat dy fi) (k7 : @Ne Nat al fi) (k8 : @Ne Nat ei fi) (k9 : @Ne Nat di fi)
    (hret : ∀ x d h' tk' fo' w0 w1 w2 w3 w4 w5 w6 w7 w8, Fr h₀ L h' m → News h₀ L h' ((x, instObj 299 d) :: (d, prD w.params (.ref y) (.ref ei) true w0 w1 w2 w3 w4 w5 w6 w7 w8) :: g fo') → fo'.IsDictOf (PySem.strKind prog w) (stored kvs nm (.ref x)) → AllLt d (g fo') → @LT.lt Nat _ d x → Q .none { s with heap := h', toks := tk' }) :
    wpAny (model prog w) (ktrTop dp un gd cn cs L a ccd cl outer) (call (.ref 393) [.ref clo, .ref al, .ref ei]) Q E s := by
  obtain ⟨pre, post, rfl, hg, a1, a2⟩ := U.split
  have mv : ∀ {b : Addr} {ob : Obj}, (b, ob) ∈ pre ++ (fi, fo) :: post → @Ne Nat b fi → (b, ob) ∈ pre ++ post := fun h n => by
    rcases List.mem_append.mp h with h | h
    · exact List.mem_append_left _ h
    · rcases List.mem_cons.mp h with h | h
      · exact absurd (congrArg Prod.fst h) n
      · exact List.mem_append_right _ h
  have hne : ∀ q ∈ pre ++ post, q.1 ≠ fi := fun q hq => (List.mem_append.mp hq).elim (a1 q) (a2 q)
  have N' : News h₀ L s.heap ((fi, fo) :: (pre ++ post)) := News.sub N fun q hq => by
    rcases List.mem_cons.mp hq with rfl | hq
    · exact List.mem_append_right _ (.head _)
    · exact (List.mem_append.mp hq).elim (fun h => List.mem_append_left _ h) fun h => List.mem_append_right _ (.tail _ h)
  refine bind_ok B F X N' T hk hdp hun hnm hne hfo hlo hkl (mv h1 k1) (mv h2 k2) (mv h3 k3) (mv h4 k4) (mv h5 k5) (mv h6 k6) (mv h7 k7) (mv h8 k8) (mv h9 k9) fun x d h' tk' fo' w0 w1 w2 w3 w4 w5 w6 w7 w8 F' N'' hd l1 l2 => ?_
  have perm : ∀ q ∈ g fo', q ∈ (fi, fo') :: (pre ++ post) := fun q hq => by
    rw [hg] at hq
    rcases List.mem_append.mp hq with h | h
    · exact .tail _ (List.mem_append_left _ h)
    · rcases List.mem_cons.mp h with rfl | h
      · exact .head _
      · exact .tail _ (List.mem_append_right _ h)
  refine hret x d h' tk' fo' w0 w1 w2 w3 w4 w5 w6 w7 w8 F' (News.sub N'' fun q hq => ?_) hd (allLt_of fun q hq => tb_ltOf l1 q (perm q hq)) l2
  rcases List.mem_cons.mp hq with rfl | hq
  · exact .head _
  · rcases List.mem_cons.mp hq with rfl | hq
    · exact .tail _ (.head _)
    · exact .tail _ (.tail _ (perm q hq))
end
theorem AB_dots : ∀ {o : Str}, o ∈ AB → (o == Str.ofString "...") = false := by
  intro o ho
  simp only [AB, List.mem_cons, List.not_mem_nil, or_false] at ho
  rcases ho with rfl | rfl | rfl | rfl <;> decide +kernel
theorem rows_at {prog : Program} {w : World} {st row : Addr} {tk : Tok} {sn : Nat} {vs : List Value} {rn n : Nat} {c : Int} {ys : List Value} {l : List (Addr × Obj)} {ea da fa la : Int → Addr} {sta : List (Addr × Obj)} {fo : Int → Obj} (H : RJ prog w st row tk sn vs rn n ys l ea da fa la sta fo) (hc : (n : Int) = c) :
    ∀ j : Int, 0 ≤ j → j < c → ys.toArray[j.toNat]? = some (.ref (ea j)) := fun j a b => by
  have := H.at_ j a (by omega)
  simpa using this
theorem by_sub {sta rest : List (Addr × Obj)} {p : Addr × Obj} (h : ∀ p ∈ sta, p ∈ rest) (hp : p ∈ sta) : p ∈ rest := h p hp
theorem four_of {r : Int} (h0 : 0 ≤ r) (h1 : r < 4) : r = 0 ∨ r = 1 ∨ r = 2 ∨ r = 3 := by omega
theorem take_len {vs : List Value} {ns : List Int} (h : IntsAre vs (List.take 40 ns)) : vs.length ≤ 40 := by
  rw [h.length, List.length_take]; omega

end

section
theorem offZ : True := by
  w_top off
  exact True.intro
section
variable {prog : Program} {w : World} {p : Program} {loose : List Str} {mean : ExcName → Option Value} {mg mb : Str → Option Value} {dp un : Nat} {gd : Option (List Code)} {cn : Str} {cs : Scope} {a : Addr} {ccd : Value} {cl : List (Str × Addr)} {outer : List Env} {A₀ : Around} {base h₀ : Heap} {L : Addr} {m : Str → Option Value} {news : List (Addr × Obj)} {s : Shared} {Q E : Value → Shared → Prop}

set_option maxHeartbeats 4000000 in
theorem null_ok  (B : Below A₀ base outer h₀) (F : Fr h₀ L s.heap m) (X : (hd.heap_39 w.params).In h₀) (N : News h₀ L s.heap news) (T : Top p loose mean mg mb h₀) (hk : cs.kind = .function) (hdp : dp < 500) (hun : un < 500)
    
    (hret : ∀ x h' tk', Fr h₀ L h' m → News h₀ L h' news → Q (.ref x) { s with heap := h', toks := tk' }) :
    wpAny (model prog w) (ktrTop dp un gd cn cs L a ccd cl outer) (call (.ref 331) []) Q E s := by
  k_steps
  all_goals exact hret _ _ _ (by k_asm) (News.sub (by k_asm) (by lcg_sub))

set_option maxHeartbeats 4000000 in
theorem clo_ok {fl b e : Addr} (B : Below A₀ base outer h₀) (F : Fr h₀ L s.heap m) (X : (hd.heap_39 w.params).In h₀) (N : News h₀ L s.heap news) (T : Top p loose mean mg mb h₀) (hk : cs.kind = .function) (hdp : dp < 500) (hun : un < 500)
    
    (hret : ∀ x d h' tk' t0 t1 t2 t3 t4 t5, Fr h₀ L h' m → News h₀ L h' ((x, instObj 256 d) :: (d, cloD w.params fl b e t0 t1 t2 t3 t4 t5) :: news) → AllLt d news → @LT.lt Nat _ d x → Q (.ref x) { s with heap := h', toks := tk' }) :
    wpAny (model prog w) (ktrTop dp un gd cn cs L a ccd cl outer) (call (.ref 256) [.ref fl, .ref b, .ref e]) Q E s := by
  k_steps
  all_goals exact hret _ _ _ _ _ _ _ _ _ _ (by k_asm) (News.sub (by k_asm) (by lcg_sub)) (by first | k_asm | exact allLt_of (by assumption) | tbn_find) (by omega)

end

end

section
theorem offZA : True := by
  w_top off
  exact True.intro
/-- a new address: beyond all that stands -/
def Hi (st pd f : Addr) (rest : List (Addr × Obj)) (a : Addr) : Prop := @LT.lt Nat _ st a ∧ @LT.lt Nat _ pd a ∧ @LT.lt Nat _ f a ∧ AllLt a rest
theorem Hi.up {st pd f : Addr} {rest : List (Addr × Obj)} {a b : Addr} (h : Hi st pd f rest a) (k : @LE.le Nat _ a b) : Hi st pd f rest b :=
  ⟨Nat.lt_of_lt_of_le h.1 k, Nat.lt_of_lt_of_le h.2.1 k, Nat.lt_of_lt_of_le h.2.2.1 k, (Nat.eq_or_lt_of_le k).elim (fun e => e ▸ h.2.2.2) fun q => tbn_up q h.2.2.2⟩
/-- l is nw and then tl -/
inductive Spl (tl : List (Addr × Obj)) : List (Addr × Obj) → List (Addr × Obj) → Prop
  | nil : Spl tl tl []
  | cons {p l nw} : Spl tl l nw → Spl tl (p :: l) (p :: nw)
theorem Spl.eq {tl l nw : List (Addr × Obj)} (h : Spl tl l nw) : l = nw ++ tl := by
  induction h with
  | nil => rfl
  | cons _ ih => rw [ih]; rfl
section
variable {prog : Program} {w : World} {c : Int} {st row pd rw : Addr} {vs : List Value} {rn : Nat} {vr : Array Value} {wn : Nat} {ea da fa la : Int → Addr} {tc : Tok}
theorem turn_end {h₀ h' : Heap} {L I I2 : Addr} {it it2 : Obj} {s₁ : Shared} {m' : Str → Option Value} {sta l rest l' nw : List (Addr × Obj)} {tk kk : Nat} {i : Nat} {ti t1 t2 t3 : Tok} {cc : Str} {r : List Str} {fo : Int → Obj} {kvs : Int → List (Str × Value)} {G : Int → Str → Option Plan} {f : Int → Str → Option Value} {po po' fo' : Obj} {tk1 : Tok} {sn sn' : Nat} {x x2 dk a0 : Addr} {g : Plan}
    (H : BJ prog w c st row pd rw vs rn vr wn ea da fa la [(I2, it2), (I, it)] (fun j x => (j < (i : Int) ∧ x ∈ AB) ∨ (j = (i : Int) ∧ x ∈ AB ∧ x ∉ cc :: r)) kk sta ((I2, it2) :: l) fo kvs G f po tk1 sn) (hI : I ≠ I2) (hk : kk + (r.length + 1) = 4 * i + 4) (hk2 : kk ≤ 16) (hcc : cc ∈ AB) (hr : ∀ x ∈ r, x ∈ AB) (hn : (cc :: r).Nodup) (hi : (i : Int) < c)
    (hrest : rest = restOf ((I2, it2) :: l) st pd (fa i)) (M : LawM m' st rw pd c tc) (e : m' (Str.ofString "at") = some (.int (i : Int) ti)) (F : Fr h₀ L h' m') (N : News h₀ L h' l')
    (sp : Spl ((st, stObj row (1 + 3 * (kk : Int) + 1 + 1 + 1) t1 sn') :: (pd, po') :: (fa i, fo') :: rest) l' nw)
    (hd' : fo'.IsDictOf (PySem.strKind prog w) (stored (kvs i) cc (.ref x))) (td' : TDF prog w ((dk, keyObj (i : Int) t2 cc t3) :: sta) po' (fun j y => if j = (i : Int) ∧ y = cc then some (.ref x2) else f j y) (kk + 1)) (hdk : (dk, keyObj (i : Int) t2 cc t3) ∈ nw)
    (h0 : Hi st pd (fa i) rest a0) (hoff : ∀ p ∈ nw, @LE.le Nat _ a0 p.1) (hb : Bd w.params (nw ++ sta) c ea i (some g) (some (.ref x))) (hp : Pt (nw ++ sta) c (some g) (some (.ref x2))) (hgn : ∀ j o, g = .name j o → o ∈ NM) :
    UnrEnd h₀ L s₁ I2 it2 (IJ prog w c st row pd rw vs rn vr wn ea da fa la tc I it i ti r) { s₁ with heap := h', toks := tk } := by
  obtain rfl := sp.eq
  subst hrest
  have i0 : (0 : Int) ≤ (i : Int) := Int.natCast_nonneg i
  have up : ∀ q ∈ (st, stObj row (1 + 3 * (kk : Int) + 1 + 1 + 1) t1 sn') :: (pd, po') :: (fa i, fo') :: restOf ((I2, it2) :: l) st pd (fa i), q ∈ nw ++ (st, stObj row (1 + 3 * (kk : Int) + 1 + 1 + 1) t1 sn') :: (pd, po') :: (fa i, fo') :: restOf ((I2, it2) :: l) st pd (fa i) := fun q hq => List.mem_append_right _ hq
  have e1 : 1 + 3 * ((kk + 1 : Nat) : Int) = 1 + 3 * (kk : Int) + 1 + 1 + 1 := by omega
  have z := H.step (l' := nw ++ (st, stObj row (1 + 3 * (kk : Int) + 1 + 1 + 1) t1 sn') :: (pd, po') :: (fa i, fo') :: restOf ((I2, it2) :: l) st pd (fa i)) i0 hi (nm := cc) (g := g) (v := .ref x) (v2 := .ref x2) (tk' := t1) (sn' := sn') (po' := po') (fo' := fo') (nw := nw)
    (by rw [e1]; exact up _ (.head _)) (up _ (.tail _ (.head _))) (up _ (.tail _ (.tail _ (.head _)))) (fun q hq => up _ (.tail _ (.tail _ (.tail _ hq)))) (fun q hq => List.mem_append_left _ hq)
    (fun q hq => by
      have := h0.up (hoff q hq)
      exact ⟨Nat.ne_of_gt this.1, Nat.ne_of_gt this.2.1, Nat.ne_of_gt this.2.2.1, fun u hu => Nat.ne_of_lt (tb_ltOf this.2.2.2 u hu)⟩) hd'
    (td'.mono fun q hq => by
      rcases List.mem_cons.mp hq with rfl | hq
      · exact List.mem_append_left _ hdk
      · exact List.mem_append_right _ hq) hb hp hgn (fun z => by subst z; revert hcc; decide +kernel) (by omega)
  exact inner_end z hI hk hr hn M e F N
end
theorem Bd.pnum' {P : Params} {l : List (Addr × Obj)} {c : Int} {ea : Int → Addr} {i : Int} {x d y dy it : Addr} {j : Int} {w0 w1 w2 w3 w4 w5 w6 w7 w8 t0 t1 t2 t3 t4 t5 : Tok} (a : (x, instObj 299 d) ∈ l) (b : (d, prD P (.ref y) (.ref (ea j)) false w0 w1 w2 w3 w4 w5 w6 w7 w8) ∈ l) (c' : (y, instObj 213 dy) ∈ l) (d' : (dy, vecD P it t0 t1 t2 t3 t4 t5) ∈ l) (h0 : 0 ≤ j) (h1 : j < c) : Bd P l c ea i (some .number) (some (.ref x)) := .pnum h0 h1 a b c' d'
theorem Bd.name' {P : Params} {l : List (Addr × Obj)} {c : Int} {ea : Int → Addr} {i : Int} {x d y dy : Addr} {j : Int} {o : Str} {w0 w1 w2 w3 w4 w5 w6 w7 w8 to t0 t1 t2 t3 : Tok} (a : (x, instObj 299 d) ∈ l) (b : (d, prD P (.ref y) (.ref (ea j)) false w0 w1 w2 w3 w4 w5 w6 w7 w8) ∈ l) (c' : (y, instObj 234 dy) ∈ l) (d' : (dy, symD P o to t0 t1 t2 t3) ∈ l) (h0 : 0 ≤ j) (h1 : j < c) : Bd P l c ea i (some (.name j o)) (some (.ref x)) := .name h0 h1 a b c' d'
theorem Pt.name' {l : List (Addr × Obj)} {c : Int} {x : Addr} {j : Int} {o : Str} {t0 t1 t2 : Tok} (a : (x, tup3 (Str.ofString "name") t0 j t1 o t2) ∈ l) (h0 : 0 ≤ j) (h1 : j < c) (h2 : o ∈ NM) : Pt l c (some (.name j o)) (some (.ref x)) := .name h0 h1 h2 a

end

section
theorem offZB : True := by
  w_top off
  exact True.intro
section
variable {prog : Program} {w : World} {A₀ : Around} {E : Value → Shared → Prop} {s' : Shared} {h₀ g : Heap} {outer : List Env} {L a e t d : Addr} {m : Str → Option Value} {name : Str} {scope : Scope} {cd : Value}
  {n : Str} {b₀ : Stmt} {suite : List Stmt} {pos np : Pos} {rest : List ExceptHandler} {Q : Flow → Shared → Prop} {news : List (Addr × Obj)} {p : Program} {loose : List Str} {mg mb : Str → Option Value}
/-- a Refusal is caught by its name, and bound -/
theorem caughtR (K : Below A₀ h₀ outer h₀) (F : Fr h₀ L g m) (hsm : g.UpToSlots s'.heap) (R : RaisedR h₀ (envOf name scope L a cd :: outer) e t d news s'.heap)
    (X : (hd.heap_39 w.params).In h₀) (T : TopRead p loose mg mb h₀)
    (k : ∀ h' tk b, Fr h₀ L h' (fun y => if y = n then some (.ref e) else m y) → News h₀ L h' ((e, exO t d (.ref b)) :: news) →
      wpAny (model prog w) ((A₀.deeper (envOf name scope L a cd)).mark (some (.ref e))) (execs (b₀ :: suite) (envOf name scope L a cd))
        (fun f s₄ => wpAny (model prog w) (A₀.deeper (envOf name scope L a cd)) (do bindName (envOf name scope L a cd) n .none; unbindBehindTheSuite (envOf name scope L a cd) n pos) (fun _ s₅ => Q f s₅) E s₄)
        (AsSuiteRaised (model prog w) ((A₀.deeper (envOf name scope L a cd)).mark (some (.ref e))) (envOf name scope L a cd) n pos (notedBy (model prog w) ((A₀.deeper (envOf name scope L a cd)).mark (some (.ref e))) (envOf name scope L a cd) (cameBackBy (model prog w) (A₀.deeper (envOf name scope L a cd)) (envOf name scope L a cd) E)))
        { s' with heap := h', toks := tk })
    (hk : scope.kind = .function := by rfl) (hlo : (envOf name scope L a cd).kindOf n = some .local := by rfl) (hx : (envOf name scope L a cd).kindOf (Str.ofString "Refusal") = some .globalImplicit := by rfl) :
    wpAny (model prog w) (A₀.deeper (envOf name scope L a cd)) (noteFrame (.ref e) (envOf name scope L a cd))
      (fun _ s₂ => wpAny (model prog w) (A₀.deeper (envOf name scope L a cd)) (setFlight (.ref e) none) (fun _ s₃ =>
        wpAny (model prog w) (A₀.deeper (envOf name scope L a cd)) (handleBy (.ref e) (envOf name scope L a cd) (.ExceptHandler (some (.Name (Str.ofString "Refusal") np)) (some n) (b₀ :: suite) pos :: rest)) Q E s₃) E s₂) E s' := by
  obtain ⟨B, hB, hl, hfl⟩ := R
  have hL : B.get? L = none := by
    obtain ⟨_, ⟨L', _, hf, hn', _⟩, _⟩ := hfl.2.2.1
    obtain rfl : L = L' := Option.some.inj hf
    exact hn'
  refine noteR_on (Around.frames_deeper K.stack) rfl hfl fun h₄ hheld₄ hsm₄ => ?_
  refine landR hheld₄ fun h₅ hheld hsm₅' => ?_
  have hsm₅ := hsm₄.trans hsm₅'
  have st₅ : h₀.StaysIn h₅ := fun b o q => hheld.1 b o (hB b o q)
  have F₅ := F.of_stays st₅ (hsm.trans hsm₅)
  obtain ⟨_, _, _, T₅, oT₅, ts₅, he₅, _⟩ := id hheld
  refine wpAny_handleBy_cons (codeAny_handlers_test (name_K F₅ X T (show nsIn (hd.heap_39 w.params) mainGlobals (Str.ofString "Refusal") = some (some (.ref 51)) from by k_is) ?_ hk hx (by decide))) (by intro q; cases q)
  obtain ⟨nm, q, Na, bs, hdct, sn, sub, ab, col, dd, k0, k1, k2, k3, k5, hC⟩ := rf_cls (X.keeps st₅)
  refine wpAny_excMatches_sub_self hC he₅ rfl (by decide +kernel) (codeAny_handlers_suite_as ?_)
  refine landR hheld fun h₆ hfl₆ hsm₆ => ?_
  have st₆ : h₀.StaysIn h₆ := fun b o q => hfl₆.1 b o (hB b o q)
  have F₆ := F.of_stays st₆ ((hsm.trans hsm₅).trans hsm₆)
  obtain ⟨_, hen, _, T₆, oT₆, ts₆, he₆, _⟩ := id hfl₆
  have Nl : News h₀ L h₆ news := fun q hq => ⟨hfl₆.1 _ _ (hl q hq).1, (fun z => by have := (hl q hq).1; rw [z, hL] at this; cases this), (hl q hq).2⟩
  have N₆ := News.more F₆ Nl he₆ (fun es n q => by cases q) (fresh_of_stays hB hen)
  exact stN F₆ N₆ (fun h₇ F₇ N₇ => k h₇ _ _ F₇ N₇) hk hlo
end

end

section
theorem offZC : True := by
  w_top off
  exact True.intro
section
variable {prog : Program} {w : World} {c : Int} {st pd rw : Addr} {tc : Tok} {A : Around} {E : Value → Shared → Prop} {s : Shared} {env : Env} {h₀ : Heap} {x : Str} {body : List Stmt} {Q : Flow → Shared → Prop}
theorem ask_outer {r : Addr} {t₀ u₀ v₀ : Tok} {m₀ : Str → Option Value} {l₀ : List (Addr × Obj)} (hc0 : 0 < c) (hc1 : c ≤ 4) (hh : A.handled = none) (hr : IsRange s.heap r 0 c 1 t₀ u₀ v₀) (F : Fr h₀ env.locals s.heap m₀) (N : News h₀ env.locals s.heap l₀) (M : LawM m₀ st rw pd c tc)
    (turn : ∀ (I : Addr) (it : Obj) (i : Nat) (m : Str → Option Value) t h tk, (i : Int) < c → (∀ p ∈ l₀, p.1 ≠ I) → LawM m st rw pd c tc → Fr h₀ env.locals h (fun y => if y = x then some (.int (i : Int) t) else m y) → News h₀ env.locals h ((I, it) :: l₀) →
      wpAny (model prog w) A (execs body env) (UnrPost h₀ env.locals { s with heap := h, toks := tk } I it (fun m l => l = l₀ ∧ LawM m st rw pd c tc) Q) E { s with heap := h, toks := tk })
    (done : ∀ m h tk, LawM m st rw pd c tc → Fr h₀ env.locals h m → News h₀ env.locals h l₀ → Q .next { s with heap := h, toks := tk }) :
    wpAny (model prog w) A (pyIter (.ref r)) (fun it s₂ => LoopAtV prog w A h₀ env x body Q E it s₂) E s := by
  obtain ⟨rs, rz⟩ := range_small hc0 hc1
  refine iter_rangeJ (fun _ m l => l = l₀ ∧ LawM m st rw pd c tc) hh hr rs rz F N ⟨rfl, M⟩ (fun I i m l hi hJ hoff t h tk it F' N' => ?_) fun m l h tk hJ F' N' => ?_
  · obtain ⟨rfl, M⟩ := hJ
    rw [Int.zero_add] at F'
    exact turn I it i m t h tk (by omega) hoff M F' N'
  · obtain ⟨rfl, M⟩ := hJ
    exact done m h tk M F' N'
theorem ask_inner {i : Int} {ti t : Tok} {m₀ : Str → Option Value} {l₀ : List (Addr × Obj)} {tx : Str}
    (hh : A.handled = none) (F : Fr h₀ env.locals s.heap m₀) (N : News h₀ env.locals s.heap l₀) (M : LawM m₀ st rw pd c tc) (e : m₀ (Str.ofString "at") = some (.int i ti)) (hx : tx.cps.toList.map (fun c => (⟨#[c]⟩ : Str)) = NM)
    (turn : ∀ (I2 : Addr) (it2 : Obj) (cc : Str) (m : Str → Option Value) t h tk, cc ∈ NM → (∀ p ∈ l₀, p.1 ≠ I2) →
      Fr h₀ env.locals h (fun y => if y = x then some (.str cc t) else if y = Str.ofString "at" then some (.int i ti) else if y = Str.ofString "state" then some (.ref st) else if y = Str.ofString "count" then some (.int c tc) else if y = Str.ofString "rows" then some (.ref rw) else if y = Str.ofString "plan_of" then some (.ref pd) else m y) →
      News h₀ env.locals h ((I2, it2) :: l₀) →
      wpAny (model prog w) A (execs body env) (UnrPost h₀ env.locals { s with heap := h, toks := tk } I2 it2 (fun m l => l = l₀ ∧ LawM m st rw pd c tc ∧ m (Str.ofString "at") = some (.int i ti)) Q) E { s with heap := h, toks := tk })
    (done : ∀ m h tk, LawM m st rw pd c tc → Fr h₀ env.locals h m → News h₀ env.locals h l₀ → Q .next { s with heap := h, toks := tk }) :
    wpAny (model prog w) A (pyIter (.str tx t)) (fun it s₂ => LoopAtV prog w A h₀ env x body Q E it s₂) E s := by
  refine iter_strJ (fun r m l => (l = l₀ ∧ LawM m st rw pd c tc ∧ m (Str.ofString "at") = some (.int i ti)) ∧ ∀ y ∈ r, y ∈ NM) hh F N hx ⟨⟨rfl, M, e⟩, fun y hy => hy⟩ (fun I2 cc r m l hJ hoff t h tk it2 F' N' => ?_) fun m l h tk hJ F' N' => ?_
  · obtain ⟨⟨rfl, M, e⟩, hr⟩ := hJ
    exact wpAny_mono (turn I2 it2 cc m t h tk (hr cc (.head _)) hoff (fr_law2 M e F') N') (fun _ _ p => unrPost_mono (fun m' l' o' q => ⟨q, fun y hy => hr y (.tail _ hy)⟩) p) fun _ _ z => z
  · obtain ⟨⟨rfl, M, e⟩, hr⟩ := hJ
    exact done m h tk M F' N'
end
theorem ask_end {h₀ h' : Heap} {L I : Addr} {it : Obj} {s₁ : Shared} {m' : Str → Option Value} {l₀ : List (Addr × Obj)} {tk : Nat} {J : (Str → Option Value) → List (Addr × Obj) → Prop} (F : Fr h₀ L h' m') (N : News h₀ L h' ((I, it) :: l₀)) (off : ∀ p ∈ l₀, p.1 ≠ I) (h : J m' l₀) :
    UnrEnd h₀ L s₁ I it J { s₁ with heap := h', toks := tk } := ⟨h', tk, m', l₀, rfl, F, N, off, h⟩
theorem NM_AB : ∀ {o : Str}, o ∈ NM → o = Str.ofString "e" ∨ o ∈ AB := by
  intro o ho
  simp only [NM, AB, List.mem_cons, List.not_mem_nil, or_false] at ho ⊢
  rcases ho with rfl | rfl | rfl | rfl | rfl <;> simp
theorem AB_e : ∀ {o : Str}, o ∈ AB → (o == Str.ofString "e") = false := by
  intro o ho
  simp only [AB, List.mem_cons, List.not_mem_nil, or_false] at ho
  rcases ho with rfl | rfl | rfl | rfl <;> decide +kernel
section
variable {prog : Program} {w : World} {p : Program} {loose : List Str} {mean : ExcName → Option Value} {mg mb : Str → Option Value} {dp un : Nat} {gd : Option (List Code)} {cn : Str} {cs : Scope} {a : Addr} {ccd : Value} {cl : List (Str × Addr)} {outer : List Env} {A₀ : Around} {base h₀ : Heap} {L : Addr} {m : Str → Option Value} {news : List (Addr × Obj)} {s : Shared} {Q E : Value → Shared → Prop}
theorem due_ok2 {pd : Addr} {po : Obj} {f : Int → Str → Option Value} {n0 : Nat} {c i : Int} {G : Int → Str → Option Plan} {nm : Str} {tn ti : Tok} {b : Bool} (B : Below A₀ base outer h₀) (F : Fr h₀ L s.heap m) (X : (hd.heap_39 w.params).In h₀) (N : News h₀ L s.heap news) (T : Top p loose mean mg mb h₀) (hk : cs.kind = .function) (hdp : dp < 400) (hun : un < 400)
    (h1 : (pd, po) ∈ news) (T0 : TDF prog w news po f n0) (lo : (pd == sysModules) = false) (hP : ∀ i, 0 ≤ i → i < c → ∀ x, Pt news c (G i x) (f i x)) (hc : c ≤ 4) (hi0 : 0 ≤ i) (hi1 : i < c) (hnm : nm ∈ NM) (hb : Res G [] i nm b)
    (hret : ∀ h' tk', Fr h₀ L h' m → News h₀ L h' news → Q (.bool b) { s with heap := h', toks := tk' }) :
    wpAny (model prog w) (ktrTop dp un gd cn cs L a ccd cl outer) (call (.ref 428) [.ref pd, .int i ti, .str nm tn]) Q E s :=
  due_ok B F X N T hk hdp hun h1 T0 lo hP hc hi0 hi1 hnm fun b' h' tk' R F' N' => by
    rw [Res.det R hb]
    exact hret h' tk' F' N'
theorem rf_get2 {A : Around} {E : Value → Shared → Prop} {e t d : Addr} {tb v : Value} {tk : Tok} {expr : Bool} {Q : Value → Shared → Prop} (F : Fr h₀ L s.heap m) (X : (hd.heap_39 w.params).In h₀) (N : News h₀ L s.heap news) (he : (e, exO t d tb) ∈ news) (hd' : (d, msgD w.params tk v) ∈ news) (hv : handedIn v = true) (h : Q v { s with toks := s.toks + 1 }) :
    wpAny (model prog w) A (getAttr (.ref e) (Str.ofString "message") expr) Q E s := rf_get (X.keeps F.keep) (N.get he) (N.get hd') hv h
end

end

section
theorem offZD : True := by
  w_top off
  exact True.intro
local macro_rules | `(tactic| walk_at "call ref") => `(tactic| ((with_reducible show wpAny _ _ (call (Value.ref 421) _) _ _ _); refine Halt.out ?_))

local macro_rules | `(tactic| walk_at "call ref") => `(tactic| (k_here; (with_reducible show wpAny _ _ (call (Value.ref 421) _) _ _ _); k_dflt (refine take_ok (by k_asm) (by k_asm) (by k_asm) (by k_asm) (by k_asm) (by first | assumption | exact rfl) (by ktr_room) (by ktr_units) (by rfl) (by rfl) (by k_mem) (by with_reducible assumption) (by k_all) (by omega) (by omega) (by omega) (by omega) (by omega) ?_); intro r' tr' h' tk' t' n' hr0 hr1 F' N'))

local macro_rules | `(tactic| walk_at "call ref") => `(tactic| (k_here; (with_reducible show wpAny _ _ (call (Value.ref 278) _) _ _ _); k_dflt (refine env_ok (by k_asm) (by k_asm) (by k_asm) (by k_asm) (by k_asm) (by first | assumption | exact rfl) (by ktr_room) (by ktr_units) ?_); intro x' d' f' l' fo' lo' h' tk' t0 t1 t2 t3 t4 t5 t6 t7 t8 F' N' hs' lo2' l1 l2 l3 l4; (try simp only [AllLt, and_true] at l1)))

local macro_rules | `(tactic| walk_at "call ref") => `(tactic| (k_here; (with_reducible show wpAny _ _ (call (Value.ref 338) _) _ _ _); k_dflt (refine missing_ok (by k_asm) (by k_asm) (by k_asm) (by k_asm) (by k_asm) (by first | assumption | exact rfl) (by ktr_room) (by ktr_units) ?_); intro x' d' h' tk' t0 t1 t2 F' N' l1 l2; (try simp only [AllLt] at l1)))

local macro_rules | `(tactic| walk_at "call ref") => `(tactic| (k_here; (with_reducible show wpAny _ _ (call (Value.ref 345) _) _ _ _); k_dflt (refine whole_ok (by k_asm) (by k_asm) (by k_asm) (by k_asm) (by k_asm) (by first | assumption | exact rfl) (by ktr_room) (by ktr_units) ?_); intro x' d' h' tk' it' t0 t1 t2 t3 t4 t5 F' N' l1 l2; (try simp only [AllLt] at l1)))

local macro_rules | `(tactic| walk_at "call ref") => `(tactic| (k_here; (with_reducible show wpAny _ _ (call (Value.ref 352) _) _ _ _); k_dflt (refine symbol_ok (by k_asm) (by k_asm) (by k_asm) (by k_asm) (by k_asm) (by first | assumption | exact rfl) (by ktr_room) (by ktr_units) ?_); intro x' d' h' tk' t0 t1 t2 t3 F' N' l1 l2; (try simp only [AllLt] at l1)))

local macro_rules | `(tactic| walk_at "call ref") => `(tactic| (k_here; (with_reducible show wpAny _ _ (call (Value.ref 299) _) _ _ _); k_dflt (refine promise_ok (by k_asm) (by k_asm) (by k_asm) (by k_asm) (by k_asm) (by first | assumption | exact rfl) (by ktr_room) (by ktr_units) ?_); intro x' d' h' tk' t0 t1 t2 t3 t4 t5 t6 t7 t8 F' N' l1 l2; (try simp only [AllLt] at l1)))

local macro_rules | `(tactic| walk_at "call ref") => `(tactic| (k_here; (with_reducible show wpAny _ _ (call (Value.ref 331) _) _ _ _); k_dflt (refine null_ok (by k_asm) (by k_asm) (by k_asm) (by k_asm) (by k_asm) (by first | assumption | exact rfl) (by ktr_room) (by ktr_units) ?_); intro x' h' tk' F' N'))

local macro_rules | `(tactic| walk_at "call ref") => `(tactic| (k_here; (with_reducible show wpAny _ _ (call (Value.ref 256) _) _ _ _); k_dflt (refine clo_ok (by k_asm) (by k_asm) (by k_asm) (by k_asm) (by k_asm) (by first | assumption | exact rfl) (by ktr_room) (by ktr_units) ?_); intro x' d' h' tk' t0 t1 t2 t3 t4 t5 F' N' l1 l2; (try simp only [AllLt] at l1)))

local macro_rules | `(tactic| walk_at "call ref") => `(tactic| (k_here; (with_reducible show wpAny _ _ (call (Value.ref 393) _) _ _ _); k_dflt (refine bind_ok2 (by k_asm) (by k_asm) (by k_asm) (by k_asm) (by k_asm) (by first | assumption | exact rfl) (by ktr_room) (by ktr_units) (by with_reducible assumption) (by k_mem) (by k_mem) (by k_mem) (by k_mem) (by k_mem) (by k_mem) (by k_mem) (by k_mem) (by k_mem) (by k_updF) (by k_asm) (by k_asm) (by omega) (by k_ne) (by k_ne) (by k_ne) (by k_ne) (by k_ne) (by k_ne) (by k_ne) (by k_ne) (by k_ne) ?_); intro x' d' h' tk' fo' w0 w1 w2 w3 w4 w5 w6 w7 w8 F' N' hd' l1 l2; (try dsimp only at N' l1); (try simp only [AllLt] at l1)))

local macro_rules | `(tactic| walk_at "subscriptTail") => `(tactic| (k_here; (with_reducible show wpAny _ _ (subscriptTail _ _ (Value.ref _) (Value.int _ _)) _ _ _); k_dflt (refine row_item2 (by k_asm) (by k_mem) (by with_reducible assumption) (by omega) (by omega) (by omega) ?_)))

local macro_rules | `(tactic| walk_at "subscriptTail") => `(tactic| (k_here; (with_reducible show wpAny _ _ (subscriptTail _ _ (Value.str _ _) (Value.int _ _)) _ _ _); k_dflt (refine abcde_item (by omega) (by omega) ?_); intro o' t' tk' ho'))

local macro_rules | `(tactic| walk_at "setItem ref ref") => `(tactic| (k_here; k_dflt (refine' td_set3 ?tdsu ?tdsF ?tdsN ?tdsU ?tdsT ?tdsS ?tdsk ?tdsz ?_; (case tdsu => units_room); (case tdsF => k_asm); (case tdsN => k_asm); (case tdsU => k_updF); (case tdsT => with_reducible assumption); (case tdsS => (intro p hp; have hp2 := by_sub (by with_reducible assumption) hp; repeat (first | exact hp2 | refine List.mem_cons_of_mem _ ?_))); (case tdsk => k_mem); (case tdsz => omega)); intro h' o' F' N' td'; (try dsimp only at N')))

local macro_rules | `(tactic| walk_at "call ref") => `(tactic| (k_here; (with_reducible show wpAny _ _ (call (Value.ref 407) _) _ _ _); k_dflt (refine ma_ok (by k_asm) (by k_asm) (by k_asm) (by k_asm) (by k_asm) (by first | assumption | exact rfl) (by ktr_room) (by ktr_units) (by with_reducible assumption) (by omega) (by with_reducible assumption) (by with_reducible assumption) (by with_reducible assumption) (by with_reducible assumption) ?_); intro b' h' tk' R' F' N'; cases b'))

local macro_rules | `(tactic| walk_at "call ref") => `(tactic| (k_here; (with_reducible show wpAny _ _ (call (Value.ref 407) _) _ _ _); k_dflt (refine mr_ok (by k_asm) (by k_asm) (by k_asm) (by k_asm) (by k_asm) (by first | assumption | exact rfl) (by ktr_room) (by ktr_units) (by with_reducible assumption) (by omega) (by with_reducible assumption) (by with_reducible assumption) (by with_reducible assumption) (by with_reducible assumption) ?_); intro e' t' d' tk' tm' g' h' tk2' F' U' R'; (try dsimp only)))

local macro_rules | `(tactic| walk_at "call ref") => `(tactic| (k_here; (with_reducible show wpAny _ _ (call (Value.ref 428) _) _ _ _); k_dflt (refine due_ok2 (by k_asm) (by k_asm) (by k_asm) (by k_asm) (by k_asm) (by first | assumption | exact rfl) (by ktr_room) (by ktr_units) (by k_mem) (by with_reducible assumption) (by with_reducible assumption) (by with_reducible assumption) (by omega) (by with_reducible assumption) (by with_reducible assumption) (by with_reducible assumption) (by with_reducible assumption) ?_); intro h' tk' F' N'))

local macro_rules | `(tactic| walk_at "getAttr ref") => `(tactic| (k_here; (with_reducible show wpAny _ _ (getAttr (Value.ref _) (Str.ofString "message") _) _ _ _); k_dflt (refine rf_get2 (by k_asm) (by k_asm) (by k_asm) (by k_mem) (by k_mem) (by rfl) ?_)))

local macro_rules | `(tactic| walk_at "noteFrame ref") => `(tactic| (k_here; (with_reducible rename RaisedR _ _ _ _ _ _ _ => rkX); k_dflt (refine' caughtR ?cK ?cF ?cU ?cR ?cX ?cT ?_; (case cR => exact rkX); (case cU => assumption); (case cF => assumption); (case cK => assumption); (case cX => k_asm); (case cT => k_asm)); intro h' tk' b' F' N'; clear rkX))

local macro_rules | `(tactic| walk_at "exec Assign cons ListComp") => `(tactic| (k_here; k_dflt (refine LCg.Assign_ListComp_U (F₀ := by k_asm) (by rfl) (by with_unfolding_all rfl) (by rfl) (by decide) (by rfl) (by decide) (by rfl) (by rfl) (by rfl) ?_)))
local macro_rules | `(tactic| walk_at "CompSrc") => `(tactic| refine Halt.out ?_)
local macro_rules | `(tactic| walk_at "CompEnd") => `(tactic| refine Halt.out ?_)
local macro_rules | `(tactic| walk_at "pyIter ref") => `(tactic| ((with_reducible show wpAny _ _ (pyIter (Value.ref _)) (fun it s₂ => LoopAtV _ _ _ _ _ _ _ _ _ it s₂) _ _); refine Halt.out ?_))
local macro_rules | `(tactic| walk_at "pyIter str") => `(tactic| ((with_reducible show wpAny _ _ (pyIter (Value.str _ _)) (fun it s₂ => LoopAtV _ _ _ _ _ _ _ _ _ it s₂) _ _); refine Halt.out ?_))
local macro_rules | `(tactic| walk_at "UnrEnd") => `(tactic| refine Halt.out ?_)
/- The head lays a second form (a twin) of each of its constants under the names main.tw.., with an equation whose size grows with the square of the constants. The kernel does without them, and they would not fit into the lid of the compiled file: so the names are taken here, and the head goes on without twins. -/
theorem main.tw10047389527955405517 : True := .intro
theorem main.tw10094358506670053839 : True := .intro
theorem main.tw10109504035899599181 : True := .intro
theorem main.tw10114013102757674387 : True := .intro
theorem main.tw10140136200207757160 : True := .intro
theorem main.tw10159738436595150677 : True := .intro
theorem main.tw10174266984047914969 : True := .intro
theorem main.tw10177057350305019805 : True := .intro
theorem main.tw10199874654664476236 : True := .intro
theorem main.tw10204856939554784155 : True := .intro
theorem main.tw10212918797040598942 : True := .intro
theorem main.tw10234815189450012239 : True := .intro
theorem main.tw10363585996791799541 : True := .intro
theorem main.tw10391951854915411234 : True := .intro
theorem main.tw104360540948158410 : True := .intro
theorem main.tw10450603732522932521 : True := .intro
theorem main.tw1054321117371714560 : True := .intro
theorem main.tw10625486282989778954 : True := .intro
theorem main.tw10642606787283503386 : True := .intro
theorem main.tw10665089971535097683 : True := .intro
theorem main.tw10707853282979444102 : True := .intro
theorem main.tw10821422270917381399 : True := .intro
theorem main.tw10825838108423173272 : True := .intro
theorem main.tw10876375607700338302 : True := .intro
theorem main.tw10877679251791092727 : True := .intro
theorem main.tw10899915308481594680 : True := .intro
theorem main.tw10928175160051115300 : True := .intro
theorem main.tw1099256609624015869 : True := .intro
theorem main.tw11101190512080308003 : True := .intro
theorem main.tw11120327062377616369 : True := .intro
theorem main.tw11135027115929721415 : True := .intro
theorem main.tw11156056980113079860 : True := .intro
theorem main.tw1118068078248606362 : True := .intro
theorem main.tw11221353774195762014 : True := .intro
theorem main.tw11251407683458634364 : True := .intro
theorem main.tw11261727412033496967 : True := .intro
theorem main.tw11403851563620829512 : True := .intro
theorem main.tw11461230924637031220 : True := .intro
theorem main.tw11501822485730972192 : True := .intro
theorem main.tw11544348965984651327 : True := .intro
theorem main.tw11554813239044494598 : True := .intro
theorem main.tw1156462466702112376 : True := .intro
theorem main.tw1157997071576566072 : True := .intro
theorem main.tw11595355409239048105 : True := .intro
theorem main.tw11646826074482590764 : True := .intro
theorem main.tw11710404883906591787 : True := .intro
theorem main.tw11752208632293872130 : True := .intro
theorem main.tw11766775441595122984 : True := .intro
theorem main.tw11770474507260867162 : True := .intro
theorem main.tw11785714552879321826 : True := .intro
theorem main.tw11815829001073249272 : True := .intro
theorem main.tw11857135199678951331 : True := .intro
theorem main.tw11879965161008669117 : True := .intro
theorem main.tw11987853993630220354 : True := .intro
theorem main.tw12057704586751987240 : True := .intro
theorem main.tw12077450504624328385 : True := .intro
theorem main.tw12093647306153771053 : True := .intro
theorem main.tw12205347405646519318 : True := .intro
theorem main.tw12252054271945606052 : True := .intro
theorem main.tw12298629886278197574 : True := .intro
theorem main.tw12343854547171428336 : True := .intro
theorem main.tw1236483940969888574 : True := .intro
theorem main.tw12431561837914552411 : True := .intro
theorem main.tw12431731261707249289 : True := .intro
theorem main.tw12455012482086183272 : True := .intro
theorem main.tw12483276189755474720 : True := .intro
theorem main.tw12489469225927875285 : True := .intro
theorem main.tw12518504611687188807 : True := .intro
theorem main.tw12590340796369385619 : True := .intro
theorem main.tw12623159325031504133 : True := .intro
theorem main.tw12646911602827044314 : True := .intro
theorem main.tw12668787059031341806 : True := .intro
theorem main.tw12670839924663504800 : True := .intro
theorem main.tw12702744160499308131 : True := .intro
theorem main.tw1277820614484962519 : True := .intro
theorem main.tw12839114828313443825 : True := .intro
theorem main.tw12872379398031375081 : True := .intro
theorem main.tw12885673836220544336 : True := .intro
theorem main.tw12900284412222446716 : True := .intro
theorem main.tw12915833801598196605 : True := .intro
theorem main.tw12927740378394474205 : True := .intro
theorem main.tw12941917028564957548 : True := .intro
theorem main.tw1306636233014830658 : True := .intro
theorem main.tw13110577991587790113 : True := .intro
theorem main.tw13113777628852026922 : True := .intro
theorem main.tw13218899427237180245 : True := .intro
theorem main.tw13219505800766818778 : True := .intro
theorem main.tw13224007501803129859 : True := .intro
theorem main.tw13293747886898857621 : True := .intro
theorem main.tw13348322127785295214 : True := .intro
theorem main.tw13355152605343272895 : True := .intro
theorem main.tw13402765919934010277 : True := .intro
theorem main.tw13503263706703578961 : True := .intro
theorem main.tw13590572293223372214 : True := .intro
theorem main.tw13591255225166038476 : True := .intro
theorem main.tw13626721169425172152 : True := .intro
theorem main.tw13642826006792871662 : True := .intro
theorem main.tw13676971244355772609 : True := .intro
theorem main.tw13693970394777133609 : True := .intro
theorem main.tw13724616953566380437 : True := .intro
theorem main.tw13777938177461255882 : True := .intro
theorem main.tw13803360072150633466 : True := .intro
theorem main.tw13838900630717943254 : True := .intro
theorem main.tw1390771862084280389 : True := .intro
theorem main.tw13962693860625380366 : True := .intro
theorem main.tw13964363978131771406 : True := .intro
theorem main.tw14009396871252706886 : True := .intro
theorem main.tw14027531716089632829 : True := .intro
theorem main.tw14061640607465278742 : True := .intro
theorem main.tw14064073609400967072 : True := .intro
theorem main.tw14080665800827857628 : True := .intro
theorem main.tw14097447854668400296 : True := .intro
theorem main.tw1409966394225722968 : True := .intro
theorem main.tw14106445559736802775 : True := .intro
theorem main.tw14161005256144132680 : True := .intro
theorem main.tw14218914174604095658 : True := .intro
theorem main.tw1429040668314091153 : True := .intro
theorem main.tw1439166485080882 : True := .intro
theorem main.tw14439473939278146460 : True := .intro
theorem main.tw14457758005677747962 : True := .intro
theorem main.tw1453356044741674121 : True := .intro
theorem main.tw14539993770535171780 : True := .intro
theorem main.tw14635473669698735251 : True := .intro
theorem main.tw14639212616227390028 : True := .intro
theorem main.tw14646587721710459877 : True := .intro
theorem main.tw14662554035588321541 : True := .intro
theorem main.tw14672674291997333471 : True := .intro
theorem main.tw14722489848711283861 : True := .intro
theorem main.tw14793117695081215449 : True := .intro
theorem main.tw14909365282108701170 : True := .intro
theorem main.tw15017983477296125989 : True := .intro
theorem main.tw15060185592220127646 : True := .intro
theorem main.tw15109750227778091905 : True := .intro
theorem main.tw15131278010643852716 : True := .intro
theorem main.tw15191382694183567057 : True := .intro
theorem main.tw15270170921892066516 : True := .intro
theorem main.tw15303317825217679618 : True := .intro
theorem main.tw15365013842991253249 : True := .intro
theorem main.tw15397788492017642998 : True := .intro
theorem main.tw1545906260438175962 : True := .intro
theorem main.tw15465920861327815835 : True := .intro
theorem main.tw15467891735981029475 : True := .intro
theorem main.tw15485851114877660061 : True := .intro
theorem main.tw15491723280356408159 : True := .intro
theorem main.tw15514936471743626214 : True := .intro
theorem main.tw15595112118272840620 : True := .intro
theorem main.tw15624239662980076321 : True := .intro
theorem main.tw15628840697051896230 : True := .intro
theorem main.tw15643365686152983790 : True := .intro
theorem main.tw15734200111481486640 : True := .intro
theorem main.tw15734660467963936456 : True := .intro
theorem main.tw15768048840197415361 : True := .intro
theorem main.tw15803610866087392283 : True := .intro
theorem main.tw15806524323241146399 : True := .intro
theorem main.tw15822976107629697795 : True := .intro
theorem main.tw1587290215689348708 : True := .intro
theorem main.tw15984706205718930553 : True := .intro
theorem main.tw16008252555379753968 : True := .intro
theorem main.tw16008457594558532635 : True := .intro
theorem main.tw16035907590883218939 : True := .intro
theorem main.tw16046730324260685337 : True := .intro
theorem main.tw16049902774474827687 : True := .intro
theorem main.tw16136984950599521427 : True := .intro
theorem main.tw16153842264607907944 : True := .intro
theorem main.tw1615956725737779560 : True := .intro
theorem main.tw16193401482309157537 : True := .intro
theorem main.tw16251939892948500945 : True := .intro
theorem main.tw1628013610222277130 : True := .intro
theorem main.tw16320729459185622934 : True := .intro
theorem main.tw16356685582667847594 : True := .intro
theorem main.tw16411370214107742406 : True := .intro
theorem main.tw16452447596832230105 : True := .intro
theorem main.tw16480584520131690045 : True := .intro
theorem main.tw16572128252103988241 : True := .intro
theorem main.tw16721930046160240684 : True := .intro
theorem main.tw16778611742570070204 : True := .intro
theorem main.tw1678875084529416142 : True := .intro
theorem main.tw16798622893749714585 : True := .intro
theorem main.tw16819838333489098493 : True := .intro
theorem main.tw16826212616301561204 : True := .intro
theorem main.tw16922381011570985944 : True := .intro
theorem main.tw16923884221124529275 : True := .intro
theorem main.tw16950194794029067938 : True := .intro
theorem main.tw16952715711813285254 : True := .intro
theorem main.tw17052023290607921161 : True := .intro
theorem main.tw17057053908230417247 : True := .intro
theorem main.tw17118054049896295152 : True := .intro
theorem main.tw17146568849442343683 : True := .intro
theorem main.tw1714950047550659301 : True := .intro
theorem main.tw17201416709059790184 : True := .intro
theorem main.tw17223442867436993403 : True := .intro
theorem main.tw17227804439868677385 : True := .intro
theorem main.tw17236958762192778904 : True := .intro
theorem main.tw17264900360498390715 : True := .intro
theorem main.tw17272174723667511238 : True := .intro
theorem main.tw17292155258170135553 : True := .intro
theorem main.tw17297283025540448806 : True := .intro
theorem main.tw17353955331779342651 : True := .intro
theorem main.tw17402982504261768225 : True := .intro
theorem main.tw17477492558424962760 : True := .intro
theorem main.tw17561526911342447988 : True := .intro
theorem main.tw17679725944135375923 : True := .intro
theorem main.tw17695171507069755227 : True := .intro
theorem main.tw17708487481403421675 : True := .intro
theorem main.tw17715262827843222689 : True := .intro
theorem main.tw17725498274588495791 : True := .intro
theorem main.tw17737603089517620647 : True := .intro
theorem main.tw1777545030009416734 : True := .intro
theorem main.tw17958375852430007124 : True := .intro
theorem main.tw18134284020713443437 : True := .intro
theorem main.tw18190005008629794160 : True := .intro
theorem main.tw18218335207050127959 : True := .intro
theorem main.tw1826329307503635854 : True := .intro
theorem main.tw18284262389922463811 : True := .intro
theorem main.tw18302796317244248524 : True := .intro
theorem main.tw18315214858253571532 : True := .intro
theorem main.tw18325589031809861271 : True := .intro
theorem main.tw18332899500509843999 : True := .intro
theorem main.tw18403998269306519403 : True := .intro
theorem main.tw18421580907717582127 : True := .intro
theorem main.tw18431692314602308842 : True := .intro
theorem main.tw18442785490491869365 : True := .intro
theorem main.tw1850612553970854742 : True := .intro
theorem main.tw2007339730380871907 : True := .intro
theorem main.tw2110754180369666209 : True := .intro
theorem main.tw2190695567426971638 : True := .intro
theorem main.tw2195194259037543316 : True := .intro
theorem main.tw221909299271738847 : True := .intro
theorem main.tw2225956059507018244 : True := .intro
theorem main.tw223528310411579522 : True := .intro
theorem main.tw2238316416991798583 : True := .intro
theorem main.tw2279707942289718827 : True := .intro
theorem main.tw2406621943657119228 : True := .intro
theorem main.tw2433702464844828792 : True := .intro
theorem main.tw2496676261509829067 : True := .intro
theorem main.tw2524017781993486291 : True := .intro
theorem main.tw2538046985915079169 : True := .intro
theorem main.tw2544328076492683441 : True := .intro
theorem main.tw2583023086579268501 : True := .intro
theorem main.tw2629084897520917108 : True := .intro
theorem main.tw2647654807098235363 : True := .intro
theorem main.tw2759098988195820126 : True := .intro
theorem main.tw2821470743931037460 : True := .intro
theorem main.tw2852251193174398662 : True := .intro
theorem main.tw2895952525429962455 : True := .intro
theorem main.tw2921621734765799159 : True := .intro
theorem main.tw2921958311620399285 : True := .intro
theorem main.tw302440914744352476 : True := .intro
theorem main.tw3027586509356016917 : True := .intro
theorem main.tw3045742163950154196 : True := .intro
theorem main.tw31828345220925962 : True := .intro
theorem main.tw3234112476842188716 : True := .intro
theorem main.tw3299218664060906527 : True := .intro
theorem main.tw330327031418712150 : True := .intro
theorem main.tw3343439749351644125 : True := .intro
theorem main.tw33456957511925785 : True := .intro
theorem main.tw3394367416137920725 : True := .intro
theorem main.tw3491332818749588091 : True := .intro
theorem main.tw3532412968194664532 : True := .intro
theorem main.tw3549514262204291990 : True := .intro
theorem main.tw3557749057250611081 : True := .intro
theorem main.tw3562595001068472590 : True := .intro
theorem main.tw3583811862363856187 : True := .intro
theorem main.tw3613476055612923068 : True := .intro
theorem main.tw3626430660855392483 : True := .intro
theorem main.tw3706830351922483016 : True := .intro
theorem main.tw3779293765908593550 : True := .intro
theorem main.tw3796207824708393856 : True := .intro
theorem main.tw3829396358689915599 : True := .intro
theorem main.tw3848698983108048278 : True := .intro
theorem main.tw387501639795913443 : True := .intro
theorem main.tw3905226178654972811 : True := .intro
theorem main.tw3934531018447913466 : True := .intro
theorem main.tw3960113756560652017 : True := .intro
theorem main.tw4026956272090484662 : True := .intro
theorem main.tw4038153913678941442 : True := .intro
theorem main.tw4039676971129161736 : True := .intro
theorem main.tw4044139247061151142 : True := .intro
theorem main.tw4072190877284726289 : True := .intro
theorem main.tw4126091431370883743 : True := .intro
theorem main.tw4152749987461121259 : True := .intro
theorem main.tw4189750870438640210 : True := .intro
theorem main.tw4261964983698606537 : True := .intro
theorem main.tw4333880214566435006 : True := .intro
theorem main.tw4365514962571936147 : True := .intro
theorem main.tw4452170602077327944 : True := .intro
theorem main.tw4475767826048309731 : True := .intro
theorem main.tw4500915450034043215 : True := .intro
theorem main.tw452746233719593009 : True := .intro
theorem main.tw4544244032028310869 : True := .intro
theorem main.tw4573282807186111410 : True := .intro
theorem main.tw4585930131862741453 : True := .intro
theorem main.tw4637267157515435788 : True := .intro
theorem main.tw4650958065196391918 : True := .intro
theorem main.tw4651154628705390771 : True := .intro
theorem main.tw4681395471914393968 : True := .intro
theorem main.tw4775608329324902142 : True := .intro
theorem main.tw4812270449578504274 : True := .intro
theorem main.tw4900431672193113347 : True := .intro
theorem main.tw4964865827318199105 : True := .intro
theorem main.tw5061512775090418087 : True := .intro
theorem main.tw5084117380071580128 : True := .intro
theorem main.tw5102693214775723256 : True := .intro
theorem main.tw5127751686995613262 : True := .intro
theorem main.tw5160751907100791332 : True := .intro
theorem main.tw5203219222101121401 : True := .intro
theorem main.tw5240536507193477226 : True := .intro
theorem main.tw5240779543111244032 : True := .intro
theorem main.tw5243159528196176124 : True := .intro
theorem main.tw5372645768047454471 : True := .intro
theorem main.tw5400957986263281647 : True := .intro
theorem main.tw5418533224930618480 : True := .intro
theorem main.tw5436791530062809996 : True := .intro
theorem main.tw5518243967957118194 : True := .intro
theorem main.tw5532463470591059822 : True := .intro
theorem main.tw5571399437266216444 : True := .intro
theorem main.tw5585478044538960755 : True := .intro
theorem main.tw5602234197418806665 : True := .intro
theorem main.tw5613160597433933154 : True := .intro
theorem main.tw5649967823195072380 : True := .intro
theorem main.tw5665406974723832613 : True := .intro
theorem main.tw5665735395497279834 : True := .intro
theorem main.tw5781596087445459943 : True := .intro
theorem main.tw5871769198996169552 : True := .intro
theorem main.tw5995161000843957690 : True := .intro
theorem main.tw6019089244302038806 : True := .intro
theorem main.tw6053611964639427726 : True := .intro
theorem main.tw6061704052808079207 : True := .intro
theorem main.tw6075091234017535682 : True := .intro
theorem main.tw6112859857366181021 : True := .intro
theorem main.tw6162249291895867263 : True := .intro
theorem main.tw6222487380544312443 : True := .intro
theorem main.tw6334894449686545209 : True := .intro
theorem main.tw6418098437765475518 : True := .intro
theorem main.tw6449824600675878752 : True := .intro
theorem main.tw6511744376749373798 : True := .intro
theorem main.tw6541472054586571296 : True := .intro
theorem main.tw6545385358150927430 : True := .intro
theorem main.tw6557543464795787104 : True := .intro
theorem main.tw656089360051881306 : True := .intro
theorem main.tw65644731488775911 : True := .intro
theorem main.tw66260789543402106 : True := .intro
theorem main.tw6635558491612396129 : True := .intro
theorem main.tw6660377722381337597 : True := .intro
theorem main.tw6696893160125735727 : True := .intro
theorem main.tw6697339332421208802 : True := .intro
theorem main.tw6741292078354696603 : True := .intro
theorem main.tw6785050993538403870 : True := .intro
theorem main.tw6785657489111691699 : True := .intro
theorem main.tw6801380410627298636 : True := .intro
theorem main.tw6862492499505807319 : True := .intro
theorem main.tw6877560268529008848 : True := .intro
theorem main.tw6886502059237256666 : True := .intro
theorem main.tw6912675738884088206 : True := .intro
theorem main.tw7083192437325867461 : True := .intro
theorem main.tw7113585516715319716 : True := .intro
theorem main.tw7153082081811710619 : True := .intro
theorem main.tw7173623326730630234 : True := .intro
theorem main.tw7184763700311605208 : True := .intro
theorem main.tw7186131708394509389 : True := .intro
theorem main.tw7214478077546791972 : True := .intro
theorem main.tw7221758910455160077 : True := .intro
theorem main.tw7235775444256392728 : True := .intro
theorem main.tw7237411587787531456 : True := .intro
theorem main.tw7268301785047649679 : True := .intro
theorem main.tw7293298908176781663 : True := .intro
theorem main.tw7308723440029596264 : True := .intro
theorem main.tw73751810991705359 : True := .intro
theorem main.tw7439787175107056256 : True := .intro
theorem main.tw750237026923860459 : True := .intro
theorem main.tw7514964652732493775 : True := .intro
theorem main.tw7590696779544312186 : True := .intro
theorem main.tw7698036289167662538 : True := .intro
theorem main.tw7699798408344515789 : True := .intro
theorem main.tw7761410557224570781 : True := .intro
theorem main.tw8079908401900000222 : True := .intro
theorem main.tw8118072479153026202 : True := .intro
theorem main.tw8207831470162742035 : True := .intro
theorem main.tw8228058824784995430 : True := .intro
theorem main.tw832900586485598795 : True := .intro
theorem main.tw834873547066669988 : True := .intro
theorem main.tw8466321980469482115 : True := .intro
theorem main.tw8467378866343419333 : True := .intro
theorem main.tw8475525182357872103 : True := .intro
theorem main.tw8478376212529829071 : True := .intro
theorem main.tw8627561154394265716 : True := .intro
theorem main.tw8652556701797213591 : True := .intro
theorem main.tw8663697691656813868 : True := .intro
theorem main.tw8729708805864041840 : True := .intro
theorem main.tw8905464785575363620 : True := .intro
theorem main.tw8930851030842425676 : True := .intro
theorem main.tw8947760058931562597 : True := .intro
theorem main.tw8991296924501042589 : True := .intro
theorem main.tw9069182735580402390 : True := .intro
theorem main.tw9121559901702372667 : True := .intro
theorem main.tw9265829497004654079 : True := .intro
theorem main.tw9268297945177815525 : True := .intro
theorem main.tw9274054859765456524 : True := .intro
theorem main.tw9302470337196694018 : True := .intro
theorem main.tw9360745474812902239 : True := .intro
theorem main.tw9361300454564663673 : True := .intro
theorem main.tw9376575566392132001 : True := .intro
theorem main.tw9381277316556691805 : True := .intro
theorem main.tw9483120023164983764 : True := .intro
theorem main.tw9508770018378322450 : True := .intro
theorem main.tw9512817274939609580 : True := .intro
theorem main.tw9557352009045844224 : True := .intro
theorem main.tw9561784451562097942 : True := .intro
theorem main.tw961187720498965250 : True := .intro
theorem main.tw962032349192862916 : True := .intro
theorem main.tw9670510015898674028 : True := .intro
theorem main.tw9682133043923132273 : True := .intro
theorem main.tw9730157408454304684 : True := .intro
theorem main.tw9756827057097773860 : True := .intro
theorem main.tw9848185148710128376 : True := .intro
theorem main.tw9897820754763898449 : True := .intro
theorem main.tw9925469786538053656 : True := .intro
theorem main.tw9957550378297406723 : True := .intro
set_option Elab.async true in
set_option maxHeartbeats 8000000 in
theorem main : PySem.Challenge.rw_pq1403_01.Holds := by
  w_on
  o_law
  k_head
  case hw => w_witness2
  k_go0
  all_goals (try k_fold)
  with_reducible rename Frag.In _ _ => KX
  replace KX : (hd.heap_39 _).In _ := KX
  rename IntsAre _ _ => hI0
  rename ¬ _ < _ => h63
  k_steps
  unfold Halt
  rename IntsAre _ (List.take 40 _) => hI
  have hlen := take_len hI
  k_steps
  unfold Halt
  rename Fr _ _ _ (fun y => if y = Str.ofString "count" then _ else _) => F1
  rename News _ _ _ _ => N1
  rename (_ : Int) < 4 => hr1
  rename (0 : Int) ≤ _ => hr0
  k_steps
  unfold Halt
  rename IsRange _ _ _ _ _ _ _ _ => rg
  obtain ⟨rs, rz⟩ := range_small (c := 1 + _) (Int.add_pos_of_pos_of_nonneg (by decide) hr0) (by omega)
  refine LCg.CompSrc.range (by rfl) F1 N1 rg rs rz (by rw [sizeLine_eq]; omega) (fun g => rows_comp ?turn ?done ?hne)
  case hne => exact Nat.ne_of_lt (by omega)
  case turn =>
    clear F1 N1
    intro i ys l ea da fa la sta fo hi H v I oI C oC D m₂ h tk E' hv hC hx F2 N2 off ne
    obtain ⟨t9, hv⟩ := hv
    rw [Int.zero_add] at hv
    subst hv
    k_steps
    unfold Halt
    rename Fr _ _ _ _ => F3
    rename News _ _ _ _ => N3
    exact rows_end H F3 N3 (by assumption) (by assumption) (by assumption) (by assumption) (by assumption) (by assumption) off (fun _ => True.intro)
  case done =>
    clear F1 N1 rg
    intro ys l ea da fa la sta fo H
    unfold LCg.FinA
    intro D h tk F1 N1 o1
    k_steps
    unfold Halt
    rename IsRange _ _ _ _ _ _ _ _ => rg
    rename Fr _ _ _ _ => F2
    rename News _ _ _ _ => N2
    rename _ ∧ AllLt _ l => l9
    rename Obj.IsDictOf (intKind _ _) _ [] => hi9
    rename (_ == sysModules) = false => lo9
    have hat := rows_at H (Int.toNat_of_nonneg (by omega))
    have B0 := H.start (c := 1 + _) (Int.toNat_of_nonneg (by omega)) hi9 lo9 (off1_ne o1) (List.forall_mem_cons.mpr ⟨l9.1, tb_ltOf l9.2⟩)
    refine build_outer B0 (by omega) (by omega) (by rfl) rg F2 N2 ⟨rfl, rfl, rfl, rfl⟩ ?turn ?done
    case turn =>
      clear F2 N2 B0 rg F1 N1 H l9 hi9 o1
      intro I it i m l t h tk hi B M F N
      replace F := fr_law M F
      k_steps
      unfold Halt
      rename Fr _ _ _ _ => F
      rename News _ _ _ _ => N
      refine build_inner B (by rfl) F N ⟨rfl, rfl, rfl, rfl⟩ rfl (by decide +kernel) ?t2 ?d2
      case d2 =>
        intro m2 l2 h2 tk2 B2 M2 F3 N3
        clear F N
        k_steps
        unfold Halt
        exact outer_end B2 M2 F3 N3
      case t2 =>
        clear F N B M
        intro I2 it2 cc r m l t h tk sta fo kvs G f po tk1 sn kk hk hcc hr hn H hI2 F N
        have i0 : (0 : Int) ≤ (i : Int) := Int.natCast_nonneg i
        obtain ⟨rest, hrest, N2, z1, z2, z3, z4, z5, z6, z7, z8, z9, z10, ⟨t0, t1, t2, t3, t4, t5, t6, t7, t8, z11⟩, z12, z13, z14, z15⟩ := H.opened i0 hi N
        clear N
        have z16 := z10 _ i0 hi
        have z17 : @Ne Nat (ea i) (fa i) := z3 _ z16
        have z18 : @Ne Nat (da i) (fa i) := z3 _ z11
        have hnd : (cc == Str.ofString "...") = false := AB_dots hcc
        have hk2 : kk ≤ 16 := by simp only [List.length_cons] at hk; omega
        simp only [List.length_cons] at hk
        k_steps
        all_goals unfold Halt
        all_goals rename Fr _ _ _ _ => F3
        all_goals rename News _ _ _ _ => N3
        all_goals (with_reducible rename TDF _ _ ((_, _) :: _) _ _ _ => td3)
        all_goals (with_reducible rename _ < _ ∧ _ < _ ∧ _ < _ ∧ AllLt _ rest => hi9)
        · refine turn_end (g := .empty) H hI2 hk hk2 hcc hr hn hi hrest ⟨rfl, rfl, rfl, rfl⟩ rfl F3 N3 (.cons (.cons (.cons (.cons (.nil))))) (by with_reducible assumption) td3 (.head _) hi9 ?_ (.empty (List.mem_append_left _ (.tail _ (.tail _ (.head _)))) (List.mem_append_left _ (.tail _ (.tail _ (.tail _ (.head _)))))) (.empty (List.mem_append_left _ (.tail _ (.head _)))) (fun _ _ e => (nomatch e))
          simp only [List.forall_mem_cons, List.not_mem_nil, false_implies, implies_true, and_true]
          omega
        · refine turn_end (g := .number) H hI2 hk hk2 hcc hr hn hi hrest ⟨rfl, rfl, rfl, rfl⟩ rfl F3 N3 (.cons (.cons (.cons (.cons (.nil))))) (by with_reducible assumption) td3 (.head _) hi9 ?_ (.vec (List.mem_append_left _ (.tail _ (.tail _ (.head _)))) (List.mem_append_left _ (.tail _ (.tail _ (.tail _ (.head _)))))) (.number (List.mem_append_left _ (.tail _ (.head _)))) (fun _ _ e => (nomatch e))
          simp only [List.forall_mem_cons, List.not_mem_nil, false_implies, implies_true, and_true]
          omega
        · refine turn_end (g := .number) H hI2 hk hk2 hcc hr hn hi hrest ⟨rfl, rfl, rfl, rfl⟩ rfl F3 N3 (.cons (.cons (.cons (.cons (.cons (.cons (.nil))))))) (by with_reducible assumption) td3 (.head _) hi9 ?_ (.pnum' (List.mem_append_left _ (.tail _ (.tail _ (.head _)))) (List.mem_append_left _ (.tail _ (.tail _ (.tail _ (.head _))))) (List.mem_append_left _ (.tail _ (.tail _ (.tail _ (.tail _ (.head _)))))) (List.mem_append_left _ (.tail _ (.tail _ (.tail _ (.tail _ (.tail _ (.head _))))))) i0 hi) (.number (List.mem_append_left _ (.tail _ (.head _)))) (fun _ _ e => (nomatch e))
          simp only [List.forall_mem_cons, List.not_mem_nil, false_implies, implies_true, and_true]
          omega
        · refine turn_end (g := .name _ _) H hI2 hk hk2 hcc hr hn hi hrest ⟨rfl, rfl, rfl, rfl⟩ rfl F3 N3 (.cons (.cons (.cons (.cons (.cons (.cons (.nil))))))) (by with_reducible assumption) td3 (.head _) hi9 ?_ (.name' (List.mem_append_left _ (.tail _ (.tail _ (.head _)))) (List.mem_append_left _ (.tail _ (.tail _ (.tail _ (.head _))))) (List.mem_append_left _ (.tail _ (.tail _ (.tail _ (.tail _ (.head _)))))) (List.mem_append_left _ (.tail _ (.tail _ (.tail _ (.tail _ (.tail _ (.head _))))))) (by omega) (by omega)) (.name' (List.mem_append_left _ (.tail _ (.head _))) (by omega) (by omega) (by assumption)) (fun j o e => by cases e; assumption)
          simp only [List.forall_mem_cons, List.not_mem_nil, false_implies, implies_true, and_true]
          omega
        · refine turn_end (g := .dflt) H hI2 hk hk2 hcc hr hn hi hrest ⟨rfl, rfl, rfl, rfl⟩ rfl F3 N3 (.cons (.cons (.cons (.cons (.cons (.cons (.cons (.cons (.cons (.cons (.cons (.nil)))))))))))) (by with_reducible assumption) td3 (.head _) hi9 ?_ (.dflt (List.mem_append_left _ (.tail _ (.tail _ (.head _)))) (List.mem_append_left _ (.tail _ (.tail _ (.tail _ (.head _))))) (List.mem_append_left _ (.tail _ (.tail _ (.tail _ (.tail _ (.tail _ (.tail _ (.tail _ (.tail _ (.tail _ (.head _))))))))))) (List.mem_append_left _ (.tail _ (.tail _ (.tail _ (.tail _ (.tail _ (.tail _ (.tail _ (.tail _ (.tail _ (.tail _ (.head _))))))))))))) (.dflt (List.mem_append_left _ (.tail _ (.head _)))) (fun _ _ e => (nomatch e))
          simp only [List.forall_mem_cons, List.not_mem_nil, false_implies, implies_true, and_true]
          omega
    case done =>
      clear F2 N2 B0 rg F1 N1 l9 hi9 o1 H
      intro m l h tk B M F N
      replace F := fr_tell4 F M.s M.c M.r M.p
      obtain ⟨sta, fo, kvs, G, f, po, tk1, sn, H⟩ := B
      k_steps
      unfold Halt
      rename IsRange _ _ _ _ _ _ _ _ => rg
      rename Fr _ _ _ _ => F2
      rename News _ _ _ _ => N2
      refine ask_outer (by omega) (by omega) (by rfl) rg F2 N2 ⟨rfl, rfl, rfl, rfl⟩ ?aturn ?adone
      case adone =>
        intro m h tk M F N
        k_steps
      case aturn =>
        clear F2 N2 rg M
        try clear F
        try clear N
        intro I it i m t h tk hi off M F N
        replace F := fr_law M F
        have i0 : (0 : Int) ≤ (i : Int) := Int.natCast_nonneg i
        k_steps
        unfold Halt
        rename Fr _ _ _ _ => F2
        rename News _ _ _ _ => N2
        refine ask_inner (by rfl) F2 N2 ⟨rfl, rfl, rfl, rfl⟩ rfl (by decide +kernel) ?t3 ?d3
        case d3 =>
          intro m2 h2 tk2 M2 F3 N3
          clear F2 N2
          try clear F
          try clear N
          k_steps
          unfold Halt
          exact ask_end F3 N3 off ⟨rfl, M2⟩
        case t3 =>
          clear F2 N2 M
          try clear F
          try clear N
          intro I2 it2 cc m t h tk hcc off2 F N
          generalize hl2 : (I2, it2) :: (I, it) :: l = l2 at N
          have hsub : ∀ p ∈ l, p ∈ l2 := fun p hp => hl2 ▸ .tail _ (.tail _ hp)
          have W2 := H.wd.mono hsub
          have hrw := hsub _ (H.wd.sub _ H.rws)
          have hpd := hsub _ H.plo
          have T2 := H.td.mono fun p hp => hsub p (H.wd.sub p hp)
          have P2 := fun (j : Int) a b x => (H.pt j a b x).mono fun p hp => hsub p (H.wd.sub p hp)
          have hlo := H.lo
          have hbd := H.bound i cc i0 hi
          have hfr := H.free i i0 hi
          clear H
          rcases NM_AB hcc with rfl | hab
          · k_steps
            all_goals unfold Halt
            all_goals rename Fr _ _ _ _ => F3
            all_goals rename News _ _ _ _ => N3
            all_goals (subst hl2; exact ask_end F3 (News.sub N3 (by intro p hp; repeat (first | exact hp | refine List.mem_cons_of_mem _ ?_))) off2 ⟨rfl, ⟨rfl, rfl, rfl, rfl⟩, rfl⟩)
          · obtain ⟨g, hg⟩ := Option.isSome_iff_exists.mp (hbd ⟨hi, hab⟩)
            have hne := AB_e hab
            k_steps
            all_goals unfold Halt
            all_goals rename Fr _ _ _ _ => F3
            all_goals rename News _ _ _ _ => N3
            all_goals (subst hl2; exact ask_end F3 (News.sub N3 (by intro p hp; repeat (first | exact hp | refine List.mem_cons_of_mem _ ?_))) off2 ⟨rfl, ⟨rfl, rfl, rfl, rfl⟩, rfl⟩)

end

end Mine
theorem PySem.Challenge.cw_pq1403_01_holds : PySem.Challenge.rw_pq1403_01.Holds :=
  Mine.main
